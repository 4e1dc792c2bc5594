import PyProof.Rows.All
import Wide.All
import OpenK.AllK
import Wide.FinOn
import HandS.ForMost
import HandS.ForExc
import HandS.Slots
import HandS.TupAny
import HandS.ExcCtx
import HandS.Star
import HandS.RevRange
import HandS.SlotsOwn
import HandS.RaiseFrom
import HandS.SuiteRaise
import KE.KExcSuper
import KE.KExcInit
import HandS.Deep
import HandS.IsInst
import HandS.StrMore
import HandS.FStr
import HandS.Style
import HandS.TryMany
import HandS.ExcField
import HandS.ExcIs
import PyProof.ReprRoads
import PyProof.RulesMatch
import HandS.Flow
import HandS.EndBits
import HandS.Defaults
import HandS.SortInts
import HandS.SetKeys
import HandS.Small
import KE.KSortedM
import HandS.Strs
import HandS.DictComp
import HandS.ExcValue
import HandS.TupMul
import PyProof.EqKinds
import HandS.More
import HandS.Text
import HandS.Head0
import HandS.Head1
import HandS.Head2
import HandS.HeadHook1
import HandS.HeadHook2
import KE.KExcLine
import PySem.Challenge.RW_deadrules_k18_sheets_refused
set_option Elab.async false
set_option linter.all false
set_option maxRecDepth 100000
namespace Dr
open PySem L2

/-! values and objects of the small language -/
inductive W where
  | non | bl (b : Bool) | int (i : Int) | str (x : Str) | tup (ws : List W) | ref (n : Nat) | cls (c : Nat)
  deriving Inhabited
inductive IO where
  | lst (ws : List W) | rol (ws : List W) | ins (c : Nat) (fs : List (Str × W)) | slt (c : Nat) (vs : List (Option W)) | dic (kvs : List (Key × W)) | exc (c : Nat) (f : Str) (w : W)
  deriving Inhabited
abbrev IH := List IO
abbrev Sg := List (Option W)
/-- what a piece of text comes to -/
inductive Out where
  | v (w : W) (h : IH) | vs (ws : List W) (h : IH) | nx (s : Sg) (h : IH) | rt (w : W) (h : IH) | bk (s : Sg) (h : IH) | ct (s : Sg) (h : IH)
  | ex (c : Nat) (w : W) (s : Sg) (h : IH) | no

def Out.vb : Out → (W → IH → Out) → Out
  | .v w h, k => k w h
  | .ex c w s h, _ => .ex c w s h
  | _, _ => .no
def Out.vsb : Out → (List W → IH → Out) → Out
  | .vs w h, k => k w h
  | .ex c w s h, _ => .ex c w s h
  | _, _ => .no
def Out.nb : Out → (Sg → IH → Out) → Out
  | .nx s h, k => k s h
  | .v _ _, _ => .no
  | .vs _ _, _ => .no
  | o, _ => o
def Out.cb (s : Sg) : Out → Out
  | .v w h => .v w h
  | .ex c w _ h => .ex c w s h
  | _ => .no
/-- a call's end -/
def Out.fin : Out → Out
  | .rt w h => .v w h
  | .nx _ h => .v .non h
  | .ex c w s h => .ex c w s h
  | _ => .no

/-! how they stand in the heap -/
section
variable (K : PySem.W.Frag) (cl : Nat → Addr)
mutual
inductive RW (m : Nat → Addr) (L : Nat) (H : Hp) : W → V → Prop
  | non : RW m L H .non .non
  | bl (b : Bool) : RW m L H (.bl b) (.bl b)
  | int (i : Int) : RW m L H (.int i) (.int i)
  | str (x : Str) : RW m L H (.str x) (.str x)
  | tup {p : Addr} {vs : List V} {ws : List W} : SqT K H p vs → RWs m L H ws vs → RW m L H (.tup ws) (.ref p)
  | ref (n : Nat) : n < L → RW m L H (.ref n) (.ref (m n))
  | cls (c : Nat) : RW m L H (.cls c) (.ref (cl c))
inductive RWs (m : Nat → Addr) (L : Nat) (H : Hp) : List W → List V → Prop
  | nil : RWs m L H [] []
  | cons {w : W} {v : V} {ws : List W} {vs : List V} : RW m L H w v → RWs m L H ws vs → RWs m L H (w :: ws) (v :: vs)
end
/-- what stands beside an instance -/
def Bes (u : HO) : Prop := (∃ x, u = .own x) ∨ u = .xd []
/-- from one state to a later one -/
structure Ext (m : Nat → Addr) (L : Nat) (H : Hp) (m' : Nat → Addr) (L' : Nat) (H' : Hp) : Prop where
  le : L ≤ L'
  eq : ∀ n, n < L → m' n = m n
  tup : ∀ p xs, SqT K H p xs → SqT K H' p xs
  xd : ∀ d p ps, H d = some (.xd (p :: ps)) → H' d = some (.xd (p :: ps))
  fr : ∀ a u, H a = some u → (∀ n, n < L → m n ≠ a) → ¬ Bes u → H' a = some u
  fd : ∀ d x, H d = some (.own x) → H x ≠ none → (∀ n, n < L → m n ≠ x) → H' d = some (.own x)
  fx : ∀ d, H d = some (.xd []) → H' d = some (.xd [])
  new : ∀ n, L ≤ n → n < L' → H (m' n) = none
  dom : ∀ a, H a ≠ none → H' a ≠ none
end
section
variable {K : PySem.W.Frag} {cl : Nat → Addr} {m m' m'' : Nat → Addr} {L L' L'' : Nat} {H H' H'' : Hp}
theorem Ext.refl : Ext K m L H m L H := ⟨Nat.le_refl _, fun _ _ => rfl, fun _ _ h => h, fun _ _ _ h => h, fun _ _ h _ _ => h, fun _ _ h _ _ => h, fun _ h => h, fun n h1 h2 => absurd h2 (Nat.not_lt.mpr h1), fun _ h => h⟩
theorem off {x : Addr} {u : HO} (a : Ext K m L H m' L' H') (h : H x = some u) (hn : ∀ n, n < L → m n ≠ x) : ∀ n, n < L' → m' n ≠ x := fun n hl e => by
  by_cases q : n < L
  · rw [a.eq n q] at e; exact hn n q e
  · have z := a.new n (Nat.le_of_not_lt q) hl
    rw [e, h] at z
    cases z
theorem Ext.trans (a : Ext K m L H m' L' H') (b : Ext K m' L' H' m'' L'' H'') : Ext K m L H m'' L'' H'' :=
  ⟨Nat.le_trans a.le b.le, fun n hn => (b.eq n (Nat.lt_of_lt_of_le hn a.le)).trans (a.eq n hn), fun p xs h => b.tup p xs (a.tup p xs h), fun d p ps h => b.xd d p ps (a.xd d p ps h),
    fun x u h hn nb => b.fr x u (a.fr x u h hn nb) (off a h hn) nb,
    fun d x h hx hn => by
      obtain ⟨u, hu⟩ := Option.ne_none_iff_exists'.mp hx
      exact b.fd d x (a.fd d x h hx hn) (a.dom x hx) (off a hu hn),
    fun d h => b.fx d (a.fx d h),
    fun n h1 h2 => by
      by_cases q : n < L'
      · rw [b.eq n q]; exact a.new n h1 q
      · have z := b.new n (Nat.le_of_not_lt q) h2
        cases e : H (m'' n) with
        | none => rfl
        | some u => exact absurd z (a.dom _ (by rw [e]; exact fun h => by cases h)),
    fun x h => b.dom x (a.dom x h)⟩
mutual
theorem RW.mono (e : Ext K m L H m' L' H') : ∀ {w : W} {v : V}, RW K cl m L H w v → RW K cl m' L' H' w v
  | _, _, .non => .non
  | _, _, .bl b => .bl b
  | _, _, .int i => .int i
  | _, _, .str x => .str x
  | _, _, .tup h hs => .tup (e.tup _ _ h) (RWs.mono e hs)
  | _, _, .ref n hn => by
    have q := RW.ref (K := K) (cl := cl) (m := m') (L := L') (H := H') n (Nat.lt_of_lt_of_le hn e.le)
    rw [e.eq n hn] at q
    exact q
  | _, _, .cls c => .cls c
theorem RWs.mono (e : Ext K m L H m' L' H') : ∀ {ws : List W} {vs : List V}, RWs K cl m L H ws vs → RWs K cl m' L' H' ws vs
  | _, _, .nil => .nil
  | _, _, .cons a b => .cons (RW.mono e a) (RWs.mono e b)
end
theorem RWs.length : ∀ {ws : List W} {vs : List V}, RWs K cl m L H ws vs → ws.length = vs.length
  | _, _, .nil => rfl
  | _, _, .cons _ b => by simp [RWs.length b]
theorem RWs.get : ∀ {ws : List W} {vs : List V} {i : Nat} {w : W}, RWs K cl m L H ws vs → ws[i]? = some w → ∃ v, vs[i]? = some v ∧ RW K cl m L H w v
  | _, _, _, _, .nil, e => by simp at e
  | _, _, 0, _, .cons a _, e => by simp at e; subst e; exact ⟨_, rfl, a⟩
  | _, _, i + 1, w, .cons _ b, e => by
    obtain ⟨v, h1, h2⟩ := RWs.get (i := i) (w := w) b (by simpa using e)
    exact ⟨v, by simpa using h1, h2⟩
theorem RWs.append : ∀ {ws : List W} {vs : List V} {ws' : List W} {vs' : List V}, RWs K cl m L H ws vs → RWs K cl m L H ws' vs' → RWs K cl m L H (ws ++ ws') (vs ++ vs')
  | _, _, _, _, .nil, s => s
  | _, _, _, _, .cons a b, s => .cons a (RWs.append b s)
theorem RWs.take : ∀ {ws : List W} {vs : List V} (n : Nat), RWs K cl m L H ws vs → RWs K cl m L H (ws.take n) (vs.take n)
  | _, _, 0, _ => .nil
  | _, _, _ + 1, .nil => .nil
  | _, _, n + 1, .cons a b => .cons a (RWs.take n b)
theorem RWs.drop : ∀ {ws : List W} {vs : List V} (n : Nat), RWs K cl m L H ws vs → RWs K cl m L H (ws.drop n) (vs.drop n)
  | _, _, 0, r => r
  | _, _, _ + 1, .nil => .nil
  | _, _, n + 1, .cons _ b => RWs.drop n b
theorem RWs.set {w : W} {v : V} (a : RW K cl m L H w v) : ∀ {ws : List W} {vs : List V} (i : Nat), RWs K cl m L H ws vs → RWs K cl m L H (ws.set i w) (vs.set i v)
  | _, _, _, .nil => .nil
  | _, _, 0, .cons _ b => .cons a b
  | _, _, i + 1, .cons q b => .cons q (RWs.set a i b)
end

/-- what a proof holds fixed: the written part, the classes' places, the errors' field names; within an except suite the slot and place of the error, its dict, class and value; the class that a clause which raises anew names -/
structure Cfg where
  K : PySem.W.Frag
  cl : Nat → Addr
  fn : Nat → Str
  xs : Option (Nat × Addr) := none
  xd : Option (Addr × Nat × W) := none
  tc : Option Nat := none
/-- the slots -/
structure RSt (G : Cfg) (m : Nat → Addr) (L : Nat) (H : Hp) (σ : Sg) (τ : St) : Prop where
  len : σ.length = τ.length
  get : ∀ (i : Nat) (w : W), σ[i]? = some (some w) → ∃ v : V, τ[i]? = some (some v) ∧ RW G.K G.cl m L H w v
  xs : ∀ i a, G.xs = some (i, a) → σ[i]? = some none → τ[i]? = some (some (.ref a))
  xd : ∀ d c w, G.xd = some (d, c, w) → ∃ v : V, H d = some (.xd [(G.fn c, v)]) ∧ RW G.K G.cl m L H w v
/-- fields -/
inductive RF (K : PySem.W.Frag) (cl m : Nat → Addr) (L : Nat) (H : Hp) : List (Str × W) → List (Str × V) → Prop
  | nil : RF K cl m L H [] []
  | cons {f : Str} {w : W} {v : V} {ws : List (Str × W)} {vs : List (Str × V)} : RW K cl m L H w v → RF K cl m L H ws vs → RF K cl m L H ((f, w) :: ws) ((f, v) :: vs)
inductive RK (K : PySem.W.Frag) (cl m : Nat → Addr) (L : Nat) (H : Hp) : List (Key × W) → List (Key × V) → Prop
  | nil : RK K cl m L H [] []
  | cons {f : Key} {w : W} {v : V} {ws : List (Key × W)} {vs : List (Key × V)} : RW K cl m L H w v → RK K cl m L H ws vs → RK K cl m L H ((f, w) :: ws) ((f, v) :: vs)
/-- a list of the written part -/
def KL (K : PySem.W.Frag) (a : Addr) (xs : List V) : Prop := ∃ (o : Obj) (its : Array Value) (n : Nat), K.lookup a = some o ∧ o.cls = .type "list" ∧ o.dict = none ∧ o.data = .seq its n ∧ its.size ≤ sizeLine ∧ Vals xs its.toList
/-- an error held as a value -/
abbrev ExV (cls : Value) (d a : Addr) : HO := .ext fun h => ∃ (oe : Obj) (vs : Array Value), h.get? a = some oe ∧ Zc cls (some d) oe ∧ oe.data = .fields vs
def IO.own : IO → Bool
  | .rol _ => false
  | _ => true
/-- an object -/
def OR (K : PySem.W.Frag) (cl m : Nat → Addr) (L : Nat) (H : Hp) (a : Addr) : IO → Prop
  | .lst ws => ∃ vs, H a = some (.lst vs) ∧ RWs K cl m L H ws vs
  | .rol ws => ∃ vs, ((∃ o, H a = some (.frz o (.lst vs))) ∨ KL K a vs) ∧ ∀ m' L' H', RWs K cl m' L' H' ws vs
  | .ins c fs => ∃ dx fvs, H a = some (.ins (cl c) dx fvs) ∧ RF K cl m L H fs fvs
  | .dic kvs => ∃ vs, H a = some (.dK vs) ∧ RK K cl m L H kvs vs
  | .exc c f w => ∃ d v, H a = some (ExV (.ref (cl c)) d a) ∧ H d = some (.xd [(f, v)]) ∧ RW K cl m L H w v
  | .slt c ws => ∃ dx vs, ((H a = some (.ins (cl c) dx []) ∧ vs = [] ∧ H dx = some (.own a)) ∨ (H a = some (SlX.SlO a (cl c) dx vs) ∧ H dx = some (.xd []))) ∧
      ∀ (i : Nat) (w : W), ws[i]? = some (some w) → ∃ v : V, vs[i]? = some (some v) ∧ RW K cl m L H w v
structure Rep (K : PySem.W.Frag) (cl m : Nat → Addr) (h : IH) (H : Hp) : Prop where
  obj : ∀ n o, h[n]? = some o → OR K cl m h.length H (m n) o
  inj : ∀ i j oi oj, h[i]? = some oi → h[j]? = some oj → oi.own = true → oj.own = true → m i = m j → i = j

section
variable {K : PySem.W.Frag} {cl m m' : Nat → Addr} {L L' : Nat} {H H' : Hp}
theorem RSt.mono {G : Cfg} {σ : Sg} {τ : St} (e : Ext G.K m L H m' L' H') (r : RSt G m L H σ τ) : RSt G m' L' H' σ τ :=
  ⟨r.len, fun i w h => let ⟨v, a, b⟩ := r.get i w h; ⟨v, a, b.mono e⟩, r.xs, fun d c w h => let ⟨v, a, b⟩ := r.xd d c w h; ⟨v, e.xd _ _ _ a, b.mono e⟩⟩
theorem RSt.set {G : Cfg} {σ : Sg} {τ : St} {w : W} {v : V} (i : Nat) (r : RSt G m L H σ τ) (a : RW G.K G.cl m L H w v) : RSt G m L H (σ.set i (some w)) (τ.set i (some v)) := by
  refine ⟨by simp [r.len], fun j x h => ?_, fun j b hx hj => ?_, r.xd⟩
  · by_cases e : j = i
    · subst e
      have hl : j < σ.length := by
        have := (List.getElem?_eq_some_iff.mp h).1
        simpa using this
      rw [List.getElem?_set_self hl] at h
      rw [List.getElem?_set_self (by rw [← r.len]; exact hl)]
      cases h
      exact ⟨v, rfl, a⟩
    · rw [List.getElem?_set_ne (Ne.symm e)] at h
      rw [List.getElem?_set_ne (Ne.symm e)]
      exact r.get j x h
  · by_cases e : j = i
    · subst e
      have hl : j < σ.length := by
        have := (List.getElem?_eq_some_iff.mp hj).1
        simpa using this
      rw [List.getElem?_set_self hl] at hj
      cases hj
    · rw [List.getElem?_set_ne (Ne.symm e)] at hj
      rw [List.getElem?_set_ne (Ne.symm e)]
      exact r.xs j b hx hj
theorem RF.mono {fs : List (Str × W)} {vs : List (Str × V)} (e : Ext K m L H m' L' H') (r : RF K cl m L H fs vs) : RF K cl m' L' H' fs vs := by
  induction r with
  | nil => exact .nil
  | cons a _ ih => exact .cons (a.mono e) ih
theorem RK.mono {fs : List (Key × W)} {vs : List (Key × V)} (e : Ext K m L H m' L' H') (r : RK K cl m L H fs vs) : RK K cl m' L' H' fs vs := by
  induction r with
  | nil => exact .nil
  | cons a _ ih => exact .cons (a.mono e) ih
theorem RF.look {fs : List (Str × W)} {vs : List (Str × V)} (r : RF K cl m L H fs vs) (f : Str) : (fs.lookup f = none ∧ vs.lookup f = none) ∨ ∃ w v, fs.lookup f = some w ∧ vs.lookup f = some v ∧ RW K cl m L H w v := by
  induction r with
  | nil => exact .inl ⟨rfl, rfl⟩
  | @cons g w v ws vs a b ih =>
    by_cases e : f = g
    · subst e
      exact .inr ⟨w, v, by simp [List.lookup], by simp [List.lookup], a⟩
    · have e' : (f == g) = false := by simpa using e
      simp only [List.lookup, e']
      exact ih

/-! changes of the heap -/
theorem sqT_upd {a p : Addr} {o : HO} {xs : List V} (ha : ∀ ys, ¬ Rd H a (.tup ys)) (h : SqT K H p xs) : SqT K (upd H a o) p xs := by
  rcases h with h | h
  · have ne : p ≠ a := fun e => ha xs (e ▸ h)
    refine .inl ?_
    rcases h with h | ⟨u, h⟩
    · exact .inl (by rw [upd_ne ne]; exact h)
    · exact .inr ⟨u, by rw [upd_ne ne]; exact h⟩
  · exact .inr h
theorem xd_upd {a d : Addr} {o : HO} {p : Str × V} {ps : List (Str × V)} (ha : ∀ q qs, H a ≠ some (.xd (q :: qs))) (h : H d = some (.xd (p :: ps))) : upd H a o d = some (.xd (p :: ps)) := by
  have ne : d ≠ a := fun e => ha p ps (by rw [← e]; exact h)
  rw [upd_ne ne]
  exact h
theorem noTup_none {a : Addr} (h : H a = none) : ∀ ys, ¬ Rd H a (.tup ys) := fun ys r => by
  rcases r with r | ⟨o, r⟩ <;> rw [h] at r <;> cases r
theorem noTup_of {a : Addr} {o : HO} (h : H a = some o) (h1 : ∀ ys, o ≠ .tup ys) (h2 : ∀ u ys, o ≠ .frz u (.tup ys)) : ∀ ys, ¬ Rd H a (.tup ys) := fun ys r => by
  rcases r with r | ⟨u, r⟩ <;> rw [h] at r
  · exact h1 ys (Option.some.inj r)
  · exact h2 u ys (Option.some.inj r)
theorem OR.has {a : Addr} {o : IO} (h : OR K cl m L H a o) (ow : o.own = true) : ∃ u, H a = some u ∧ (∀ z v, u ≠ .frz z v) ∧ ¬ Bes u ∧ ∀ fs, u ≠ .xd fs := by
  cases o with
  | lst ws => obtain ⟨vs, e, _⟩ := h; exact ⟨_, e, fun _ _ z => (by cases z), fun z => (by rcases z with ⟨_, z⟩ | z <;> cases z), fun _ z => by cases z⟩
  | rol ws => cases ow
  | ins c fs => obtain ⟨dx, fvs, e, _⟩ := h; exact ⟨_, e, fun _ _ z => (by cases z), fun z => (by rcases z with ⟨_, z⟩ | z <;> cases z), fun _ z => by cases z⟩
  | dic kvs => obtain ⟨fvs, e, _⟩ := h; exact ⟨_, e, fun _ _ z => (by cases z), fun z => (by rcases z with ⟨_, z⟩ | z <;> cases z), fun _ z => by cases z⟩
  | exc c f w => obtain ⟨d, v, e, _⟩ := h; exact ⟨_, e, fun _ _ z => (by cases z), fun z => (by rcases z with ⟨_, z⟩ | z <;> cases z), fun _ z => by cases z⟩
  | slt c vs =>
    obtain ⟨dx, us, h, _⟩ := h
    rcases h with ⟨e, _⟩ | ⟨e, _⟩
    · exact ⟨_, e, fun _ _ z => (by cases z), fun z => (by rcases z with ⟨_, z⟩ | z <;> cases z), fun _ z => by cases z⟩
    · exact ⟨_, e, fun _ _ z => (by cases z), fun z => (by rcases z with ⟨_, z⟩ | z <;> cases z), fun _ z => by cases z⟩
theorem OR.mono {a : Addr} {o : IO} (e : Ext K m L H m' L' H') (q : ∀ u, H a = some u → H' a = some u) (q2 : ∀ b u, H b = some u → Bes u → H' b = some u) (h : OR K cl m L H a o) : OR K cl m' L' H' a o := by
  cases o with
  | lst ws => obtain ⟨vs, x, y⟩ := h; exact ⟨vs, q _ x, y.mono e⟩
  | rol ws =>
    obtain ⟨vs, x, y⟩ := h
    refine ⟨vs, ?_, y⟩
    rcases x with ⟨o, x⟩ | x
    · exact .inl ⟨o, q _ x⟩
    · exact .inr x
  | ins c fs => obtain ⟨dx, fvs, x, y⟩ := h; exact ⟨dx, fvs, q _ x, y.mono e⟩
  | dic kvs => obtain ⟨fvs, x, y⟩ := h; exact ⟨fvs, q _ x, y.mono e⟩
  | exc c f w => obtain ⟨d, v, x, z, y⟩ := h; exact ⟨d, v, q _ x, e.xd _ _ _ z, y.mono e⟩
  | slt c ws =>
    obtain ⟨dx, us, h, y⟩ := h
    refine ⟨dx, us, ?_, fun i w z => let ⟨v, z1, z2⟩ := y i w z; ⟨v, z1, z2.mono e⟩⟩
    rcases h with ⟨h1, h2, h3⟩ | ⟨h1, h3⟩
    · exact .inl ⟨q _ h1, h2, q2 _ _ h3 (.inl ⟨_, rfl⟩)⟩
    · exact .inr ⟨q _ h1, q2 _ _ h3 (.inr rfl)⟩
theorem upd_some {q : Addr} {o : HO} (a : Addr) (h : H a ≠ none) : upd H q o a ≠ none := by
  by_cases e : a = q
  · subst e; rw [upd_same]; exact fun z => by cases z
  · rw [upd_ne e]; exact h
theorem Ext.aside {q : Addr} {o : HO} (hq : H q = none) : Ext K m L H m L (upd H q o) :=
  ⟨Nat.le_refl _, fun _ _ => rfl, fun p xs z => sqT_upd (noTup_none hq) z, fun d p ps z => xd_upd (fun q qs y => by rw [hq] at y; cases y) z, fun a u h _ _ => by rw [upd_ne (ne_of_none h hq)]; exact h,
    fun d x h _ _ => by rw [upd_ne (ne_of_none h hq)]; exact h, fun d h => by rw [upd_ne (ne_of_none h hq)]; exact h, fun n h1 h2 => absurd h2 (Nat.not_lt.mpr h1), upd_some⟩
/-- a new thing that is no object of ours (a tuple) -/
theorem Rep.aside {h : IH} {q : Addr} {o : HO} (r : Rep K cl m h H) (hq : H q = none) : Rep K cl m h (upd H q o) ∧ Ext K m h.length H m h.length (upd H q o) := by
  have e : Ext K m h.length H m h.length (upd H q o) := .aside hq
  exact ⟨⟨fun n ob hn => (r.obj n ob hn).mono e (fun u hu => by rw [upd_ne (ne_of_none hu hq)]; exact hu) (fun b u hu _ => by rw [upd_ne (ne_of_none hu hq)]; exact hu), r.inj⟩, e⟩
/-- a new object -/
def ext1 (m : Nat → Addr) (L : Nat) (q : Addr) : Nat → Addr := fun n => if n = L then q else m n
theorem Ext.add {q : Addr} {o : HO} (hq : H q = none) : Ext K m L H (ext1 m L q) (L + 1) (upd H q o) :=
  ⟨Nat.le_succ _, fun n hn => by unfold ext1; rw [if_neg (Nat.ne_of_lt hn)], fun p xs z => sqT_upd (noTup_none hq) z, fun d p ps z => xd_upd (fun q qs y => by rw [hq] at y; cases y) z, fun a u h _ _ => by rw [upd_ne (ne_of_none h hq)]; exact h,
    fun d x h _ _ => by rw [upd_ne (ne_of_none h hq)]; exact h, fun d h => by rw [upd_ne (ne_of_none h hq)]; exact h,
    fun n h1 h2 => by
      have e : n = L := by omega
      subst e
      unfold ext1
      rw [if_pos rfl]; exact hq, upd_some⟩
theorem Rep.push {h : IH} {q : Addr} {u : HO} {o : IO} (r : Rep K cl m h H) (hq : H q = none)
    (new : OR K cl (ext1 m h.length q) (h.length + 1) (upd H q u) q o) : Rep K cl (ext1 m h.length q) (h ++ [o]) (upd H q u) ∧ Ext K m h.length H (ext1 m h.length q) (h ++ [o]).length (upd H q u) := by
  have e : Ext K m h.length H (ext1 m h.length q) (h.length + 1) (upd H q u) := .add hq
  have e' : Ext K m h.length H (ext1 m h.length q) (h ++ [o]).length (upd H q u) := by rw [List.length_append]; exact e
  have at_ : ∀ n, n < h.length → ext1 m h.length q n = m n := fun n hn => by unfold ext1; rw [if_neg (Nat.ne_of_lt hn)]
  have last : ext1 m h.length q h.length = q := by unfold ext1; rw [if_pos rfl]
  have split : ∀ (n : Nat) ob, (h ++ [o])[n]? = some ob → (n < h.length ∧ h[n]? = some ob) ∨ (n = h.length ∧ ob = o) := fun n ob hn => by
    by_cases hl : n < h.length
    · rw [List.getElem?_append_left hl] at hn; exact .inl ⟨hl, hn⟩
    · have hb : n < (h ++ [o]).length := (List.getElem?_eq_some_iff.mp hn).1
      rw [List.length_append, List.length_singleton] at hb
      have hn' : n = h.length := by omega
      subst hn'
      rw [List.getElem?_append_right (Nat.le_refl _), Nat.sub_self] at hn
      cases hn
      exact .inr ⟨rfl, rfl⟩
  refine ⟨⟨fun n ob hn => ?_, fun i j oi oj hi hj wi wj => ?_⟩, e'⟩
  · rcases split n ob hn with ⟨hl, hn⟩ | ⟨rfl, rfl⟩
    · rw [at_ n hl]
      exact (r.obj n ob hn).mono e' (fun u' hu => by rw [upd_ne (ne_of_none hu hq)]; exact hu) (fun b u hu _ => by rw [upd_ne (ne_of_none hu hq)]; exact hu)
    · rw [last, List.length_append]
      exact new
  · rcases split i oi hi with ⟨li, hi'⟩ | ⟨rfl, rfl⟩
    · rcases split j oj hj with ⟨lj, hj'⟩ | ⟨rfl, rfl⟩
      · rw [at_ i li, at_ j lj]
        exact r.inj i j oi oj hi' hj' wi wj
      · rw [at_ i li, last]
        obtain ⟨u', hu, _, _⟩ := (r.obj i oi hi').has wi
        exact fun z => absurd z (ne_of_none hu hq)
    · rcases split j oj hj with ⟨lj, hj'⟩ | ⟨rfl, rfl⟩
      · rw [at_ j lj, last]
        obtain ⟨u', hu, _, _⟩ := (r.obj j oj hj').has wj
        exact fun z => absurd z.symm (ne_of_none hu hq)
      · intro _; rfl
/-- an object is changed -/
theorem Rep.put {h : IH} {n : Nat} {o o' : IO} {u : HO} (r : Rep K cl m h H) (hn : h[n]? = some o) (nt : ∀ ys, ¬ Rd H (m n) (.tup ys))
    (new : Ext K m h.length H m h.length (upd H (m n) u) → OR K cl m h.length (upd H (m n) u) (m n) o') (ow : o.own = true := by rfl) (ow' : o'.own = true := by rfl) : Rep K cl m (h.set n o') (upd H (m n) u) ∧ Ext K m h.length H m (h.set n o').length (upd H (m n) u) := by
  obtain ⟨un, hun, nfz, nbes, nxd⟩ := (r.obj n o hn).has ow
  have hl : n < h.length := (List.getElem?_eq_some_iff.mp hn).1
  have e : Ext K m h.length H m h.length (upd H (m n) u) := ⟨Nat.le_refl _, fun _ _ => rfl, fun p xs z => sqT_upd nt z, fun d p ps z => xd_upd (fun q qs y => by rw [hun] at y; exact nxd _ (Option.some.inj y)) z,
    fun a x hx hn _ => by rw [upd_ne fun z => hn n hl z.symm]; exact hx,
    fun d x hx _ _ => by rw [upd_ne fun z => nbes (by rw [z, hun] at hx; cases hx; exact .inl ⟨_, rfl⟩)]; exact hx,
    fun d hx => by rw [upd_ne fun z => nbes (by rw [z, hun] at hx; cases hx; exact .inr rfl)]; exact hx, fun j h1 h2 => absurd h2 (Nat.not_lt.mpr h1), upd_some⟩
  have e' : Ext K m h.length H m (h.set n o').length (upd H (m n) u) := by rw [List.length_set]; exact e
  have split : ∀ (j : Nat) ob, (h.set n o')[j]? = some ob → (j = n ∧ ob = o') ∨ (j ≠ n ∧ h[j]? = some ob) := fun j ob hj => by
    by_cases q : j = n
    · subst q
      rw [List.getElem?_set_self hl] at hj
      cases hj
      exact .inl ⟨rfl, rfl⟩
    · rw [List.getElem?_set_ne (Ne.symm q)] at hj
      exact .inr ⟨q, hj⟩
  refine ⟨⟨fun j ob hj => ?_, fun i j oi oj hi hj wi wj => ?_⟩, e'⟩
  · rw [List.length_set]
    rcases split j ob hj with ⟨rfl, rfl⟩ | ⟨q, hj⟩
    · exact new e
    · have own_ : ob.own = true → OR K cl m h.length (upd H (m n) u) (m j) ob := fun w =>
        (r.obj j ob hj).mono e (fun u' hu => by rw [upd_ne fun z => q (r.inj j n ob o hj hn w ow z)]; exact hu) (fun b u' hu hb => by rw [upd_ne fun z => nbes (by rw [z, hun] at hu; cases hu; exact hb)]; exact hu)
      cases ob with
      | rol ws =>
        obtain ⟨vs, x, y⟩ := r.obj j _ hj
        refine ⟨vs, ?_, y⟩
        rcases x with ⟨z', x⟩ | x
        · refine .inl ⟨z', ?_⟩
          rw [upd_ne]
          · exact x
          · intro z; rw [z, hun] at x; exact nfz _ _ (Option.some.inj x)
        · exact .inr x
      | lst ws => exact own_ rfl
      | ins c fs => exact own_ rfl
      | slt c vs => exact own_ rfl
      | dic kvs => exact own_ rfl
      | exc c f w => exact own_ rfl
  · rcases split i oi hi with ⟨rfl, rfl⟩ | ⟨qi, hi'⟩
    · rcases split j oj hj with ⟨rfl, rfl⟩ | ⟨qj, hj'⟩
      · intro _; rfl
      · exact r.inj i j o oj hn hj' ow wj
    · rcases split j oj hj with ⟨rfl, rfl⟩ | ⟨qj, hj'⟩
      · exact r.inj i j oi o hi' hn wi ow
      · exact r.inj i j oi oj hi' hj' wi wj
theorem rol_sq {a : Addr} {vs : List V} (h : (∃ o, H a = some (.frz o (.lst vs))) ∨ KL K a vs) : SqL K H a vs := by
  rcases h with ⟨o, h⟩ | h
  · exact .inl (.inr ⟨o, h⟩)
  · exact .inr h
/-- a slot is stored -/
theorem Rep.putS {h : IH} {n c : Nat} {ws : List (Option W)} (r : Rep K cl m h H) (hn : h[n]? = some (.slt c ws)) {i : Nat} {w : W} {v : V} (rw_ : RW K cl m h.length H w v) :
    ∃ dx vs, SlX.Slt H (m n) (cl c) dx vs ∧ Rep K cl m (h.set n (.slt c ((ws ++ List.replicate (i + 1 - ws.length) none).set i (some w)))) (SlX.slH H (m n) (cl c) dx (SlX.putS i v vs)) ∧
      Ext K m h.length H m (h.set n (.slt c ((ws ++ List.replicate (i + 1 - ws.length) none).set i (some w)))).length (SlX.slH H (m n) (cl c) dx (SlX.putS i v vs)) := by
  obtain ⟨dx, vs, hd, hv⟩ := r.obj n _ hn
  refine ⟨dx, vs, ?_, ?_⟩
  · rcases hd with ⟨h1, h2, _⟩ | ⟨h1, h3⟩
    · exact .inl ⟨h1, h2⟩
    · exact .inr ⟨h1, h3⟩
  have hbes : ∃ u, H dx = some u ∧ Bes u := by
    rcases hd with ⟨_, _, h3⟩ | ⟨_, h3⟩
    · exact ⟨_, h3, .inl ⟨_, rfl⟩⟩
    · exact ⟨_, h3, .inr rfl⟩
  obtain ⟨ud, hud, bud⟩ := hbes
  obtain ⟨un, hun, nfz, nbes, nxd⟩ := (r.obj n _ hn).has rfl
  have hl : n < h.length := (List.getElem?_eq_some_iff.mp hn).1
  have ndx : dx ≠ m n := fun z => nbes (by rw [z, hun] at hud; cases hud; exact bud)
  have nt1 : ∀ ys, ¬ Rd H dx (.tup ys) := noTup_of hud (fun _ z => by rw [z] at bud; rcases bud with ⟨_, q⟩ | q <;> cases q) (fun _ _ z => by rw [z] at bud; rcases bud with ⟨_, q⟩ | q <;> cases q)
  have ffr : ∀ a u, H a = some u → (∀ n, n < h.length → m n ≠ a) → ¬ Bes u → SlX.slH H (m n) (cl c) dx (SlX.putS i v vs) a = some u := fun a x hx hn nb => by
    unfold SlX.slH
    rw [upd_ne fun z => hn n hl z.symm, upd_ne fun z => nb (by rw [z, hud] at hx; cases hx; exact bud)]; exact hx
  have ffd : ∀ d x, H d = some (.own x) → H x ≠ none → (∀ n, n < h.length → m n ≠ x) → SlX.slH H (m n) (cl c) dx (SlX.putS i v vs) d = some (.own x) := fun d x hx _ hn => by
    have nd : d ≠ dx := fun z => by
      rw [z] at hx
      rcases hd with ⟨_, _, h3⟩ | ⟨_, h3⟩
      · rw [h3] at hx; exact hn n hl (HO.own.inj (Option.some.inj hx))
      · rw [h3] at hx; cases hx
    unfold SlX.slH
    rw [upd_ne fun z => nbes (by rw [z, hun] at hx; cases hx; exact .inl ⟨_, rfl⟩), upd_ne nd]; exact hx
  have ffx : ∀ d, H d = some (.xd []) → SlX.slH H (m n) (cl c) dx (SlX.putS i v vs) d = some (.xd []) := fun d hx => by
    unfold SlX.slH
    rw [upd_ne fun z => nbes (by rw [z, hun] at hx; cases hx; exact .inr rfl)]
    by_cases z : d = dx
    · rw [z, upd_same]
    · rw [upd_ne z]; exact hx
  have e : Ext K m h.length H m h.length (SlX.slH H (m n) (cl c) dx (SlX.putS i v vs)) := ⟨Nat.le_refl _, fun _ _ => rfl, fun p xs z => by
    unfold SlX.slH
    refine sqT_upd ?_ (sqT_upd nt1 z)
    intro ys q
    have ne : m n ≠ dx := Ne.symm ndx
    have e0 : upd H dx (.xd []) (m n) = H (m n) := upd_ne ne
    rcases q with q | ⟨u, q⟩
    · rw [e0, hun] at q
      have q := Option.some.inj q
      rcases hd with ⟨h1, _⟩ | ⟨h1, _⟩ <;> (rw [hun] at h1; rw [Option.some.inj h1] at q; cases q)
    · rw [e0, hun] at q
      exact nfz _ _ (Option.some.inj q), fun d p ps z => by
    unfold SlX.slH
    refine xd_upd (fun q qs y => ?_) (xd_upd (fun q qs y => ?_) z)
    · rw [upd_ne (Ne.symm ndx), hun] at y; exact nxd _ (Option.some.inj y)
    · rw [hud] at y
      have y := Option.some.inj y
      rw [y] at bud
      (rcases bud with ⟨_, b⟩ | b <;> cases b), ffr, ffd, ffx, fun j h1 h2 => absurd h2 (Nat.not_lt.mpr h1), fun a ha => upd_some a (upd_some a ha)⟩
  have e' : Ext K m h.length H m (h.set n (.slt c ((ws ++ List.replicate (i + 1 - ws.length) none).set i (some w)))).length (SlX.slH H (m n) (cl c) dx (SlX.putS i v vs)) := by rw [List.length_set]; exact e
  have split : ∀ (j : Nat) ob, (h.set n (.slt c ((ws ++ List.replicate (i + 1 - ws.length) none).set i (some w))))[j]? = some ob → (j = n ∧ ob = .slt c ((ws ++ List.replicate (i + 1 - ws.length) none).set i (some w))) ∨ (j ≠ n ∧ h[j]? = some ob) := fun j ob hj => by
    by_cases q : j = n
    · subst q
      rw [List.getElem?_set_self hl] at hj
      cases hj
      exact .inl ⟨rfl, rfl⟩
    · rw [List.getElem?_set_ne (Ne.symm q)] at hj
      exact .inr ⟨q, hj⟩
  refine ⟨⟨fun j ob hj => ?_, fun i' j oi oj hi hj wi wj => ?_⟩, e'⟩
  · rw [List.length_set]
    rcases split j ob hj with ⟨rfl, rfl⟩ | ⟨q, hj⟩
    · refine ⟨dx, SlX.putS i v vs, .inr ⟨?_, ?_⟩, fun i' w' z => ?_⟩
      · unfold SlX.slH; rw [upd_same]
      · unfold SlX.slH; rw [upd_ne ndx, upd_same]
      · unfold SlX.putS
        by_cases q : i' = i
        · subst q
          have l1 : i' < (ws ++ List.replicate (i' + 1 - ws.length) none).length := by simp; omega
          have l2 : i' < (vs ++ List.replicate (i' + 1 - vs.length) none).length := by simp; omega
          rw [List.getElem?_set_self l1] at z
          cases z
          exact ⟨v, List.getElem?_set_self l2, rw_.mono e⟩
        · rw [List.getElem?_set_ne (Ne.symm q)] at z
          rw [List.getElem?_set_ne (Ne.symm q)]
          by_cases l : i' < ws.length
          · rw [List.getElem?_append_left l] at z
            obtain ⟨v', z1, z2⟩ := hv i' w' z
            have l3 : i' < vs.length := (List.getElem?_eq_some_iff.mp z1).1
            exact ⟨v', by rw [List.getElem?_append_left l3]; exact z1, z2.mono e⟩
          · rw [List.getElem?_append_right (Nat.le_of_not_lt l), List.getElem?_replicate] at z
            split at z <;> cases z
    · have key : ∀ b u, H b = some u → b ≠ m n → b ≠ dx → SlX.slH H (m n) (cl c) dx (SlX.putS i v vs) b = some u := fun b u hb h1 h2 => by
        unfold SlX.slH; rw [upd_ne h1, upd_ne h2]; exact hb
      have ndxj : ∀ b u, H b = some u → ¬ Bes u → b ≠ dx := fun b u hb nb z => nb (by rw [z, hud] at hb; cases hb; exact bud)
      cases ob with
      | rol ws' =>
        obtain ⟨us, x, y⟩ := r.obj j _ hj
        refine ⟨us, ?_, y⟩
        rcases x with ⟨z', x⟩ | x
        · refine .inl ⟨z', key _ _ x (fun z => ?_) (ndxj _ _ x fun z => by rcases z with ⟨_, z⟩ | z <;> cases z)⟩
          rw [z, hun] at x; exact nfz _ _ (Option.some.inj x)
        · exact .inr x
      | lst ws' =>
        obtain ⟨us, x, y⟩ := r.obj j _ hj
        exact ⟨us, key _ _ x (fun z => q (r.inj j n _ _ hj hn rfl rfl z)) (ndxj _ _ x fun z => by rcases z with ⟨_, z⟩ | z <;> cases z), y.mono e⟩
      | ins c' fs =>
        obtain ⟨dy, us, x, y⟩ := r.obj j _ hj
        exact ⟨dy, us, key _ _ x (fun z => q (r.inj j n _ _ hj hn rfl rfl z)) (ndxj _ _ x fun z => by rcases z with ⟨_, z⟩ | z <;> cases z), y.mono e⟩
      | exc c' f' w' =>
        obtain ⟨d', v', x, z', y⟩ := r.obj j _ hj
        exact ⟨d', v', key _ _ x (fun z => q (r.inj j n _ _ hj hn rfl rfl z)) (ndxj _ _ x fun z => by rcases z with ⟨_, z⟩ | z <;> cases z), e.xd _ _ _ z', y.mono e⟩
      | dic kvs =>
        obtain ⟨us, x, y⟩ := r.obj j _ hj
        exact ⟨us, key _ _ x (fun z => q (r.inj j n _ _ hj hn rfl rfl z)) (ndxj _ _ x fun z => by rcases z with ⟨_, z⟩ | z <;> cases z), y.mono e⟩
      | slt c' ws' =>
        obtain ⟨dy, us, x, y⟩ := r.obj j _ hj
        have nj : m j ≠ m n := fun z => q (r.inj j n _ _ hj hn rfl rfl z)
        refine ⟨dy, us, ?_, fun i' w' z => let ⟨v', z1, z2⟩ := y i' w' z; ⟨v', z1, z2.mono e⟩⟩
        rcases x with ⟨x1, x2, x3⟩ | ⟨x1, x3⟩
        · refine .inl ⟨key _ _ x1 nj (ndxj _ _ x1 fun z => by rcases z with ⟨_, z⟩ | z <;> cases z), x2, ?_⟩
          have ndy : dy ≠ m n := fun z => nbes (by rw [z, hun] at x3; cases x3; exact .inl ⟨_, rfl⟩)
          refine key _ _ x3 ndy fun z => ?_
          rw [z] at x3
          rcases hd with ⟨_, _, h3⟩ | ⟨_, h3⟩
          · rw [h3] at x3
            have z2 := HO.own.inj (Option.some.inj x3)
            exact nj z2.symm
          · rw [h3] at x3; cases x3
        · refine .inr ⟨key _ _ x1 nj (ndxj _ _ x1 fun z => by rcases z with ⟨_, z⟩ | z <;> cases z), ?_⟩
          have ndy : dy ≠ m n := fun z => nbes (by rw [z, hun] at x3; cases x3; exact .inr rfl)
          unfold SlX.slH
          rw [upd_ne ndy]
          by_cases z : dy = dx
          · rw [z, upd_same]
          · rw [upd_ne z]; exact x3
  · rcases split i' oi hi with ⟨rfl, rfl⟩ | ⟨qi, hi'⟩
    · rcases split j oj hj with ⟨rfl, rfl⟩ | ⟨qj, hj'⟩
      · intro _; rfl
      · exact r.inj i' j _ oj hn hj' rfl wj
    · rcases split j oj hj with ⟨rfl, rfl⟩ | ⟨qj, hj'⟩
      · exact r.inj i' j oi _ hi' hn wi rfl
      · exact r.inj i' j oi oj hi' hj' wi wj
end
end Dr
namespace Dr
open PySem L2

/-! the judgements by their greatest readings -/
def WE (X : Cx) (e : Expr) : TE := fun σ H Q => ∀ (pins : List (Addr × Obj)) (s : Shared), Inv X pins σ H s → wpAny (model X.prog X.w) X.A (eval e X.env) (EP X pins σ Q) X.xe s
def WT (X : Cx) (e : Expr) : TT := fun σ H Q => ∀ (pins : List (Addr × Obj)) (s : Shared), Inv X pins σ H s → wpAny (model X.prog X.w) X.A (isTrue e X.env (eval e X.env)) (TP X pins σ Q) X.xe s
def WP (X : Cx) (e : Expr) : TT := fun σ H Q => ∀ (wh : Sem Value) (pins : List (Addr × Obj)) (s : Shared), Inv X pins σ H s → wpAny (model X.prog X.w) X.A (isTrue e X.env wh) (TP X pins σ Q) X.xe s
def WA (X : Cx) (es : List Expr) : TA := fun σ H Q => ∀ (pos : Pos) (pins : List (Addr × Obj)) (s : Shared), Inv X pins σ H s → wpAny (model X.prog X.w) X.A (spliced (backTo pos (starEach es X.env))) (AP X pins σ Q) X.xe s
def WS (X : Cx) (st : Stmt) : TS := fun D σ H => ∀ (pins : List (Addr × Obj)) (s : Shared), Inv X pins σ H s → wpAny (model X.prog X.w) X.A (exec st X.env) (SP X pins D) X.xe s
def WB (X : Cx) (st : List Stmt) : TS := fun D σ H => ∀ (pins : List (Addr × Obj)) (s : Shared), Inv X pins σ H s → wpAny (model X.prog X.w) X.A (execs st X.env) (SP X pins D) X.xe s
def WO (X : Cx) (f : Value → Value → Sem Value) : R2 := fun x y H Q => ∃ r, OpR X f r ∧ r x y H Q
theorem peM {X : Cx} {e : Expr} : PE X e (WE X e) := ⟨fun pins s _ _ _ I h => h pins s I⟩
theorem ptM {X : Cx} {e : Expr} : PT X e (WT X e) := ⟨fun pins s _ _ _ I h => h pins s I⟩
theorem pwM {X : Cx} {e : Expr} : PW X e (WP X e) := ⟨fun wh pins s _ _ _ I h => h wh pins s I⟩
theorem paM {X : Cx} {es : List Expr} : PA X es (WA X es) := ⟨fun pos pins s _ _ _ I h => h pos pins s I⟩
theorem psM {X : Cx} {st : Stmt} : PS X st (WS X st) := ⟨fun pins s _ _ _ I h => h pins s I⟩
theorem pbM {X : Cx} {st : List Stmt} : PSs X st (WB X st) := ⟨fun pins s _ _ _ I h => h pins s I⟩
theorem poM {X : Cx} {f : Value → Value → Sem Value} : OpR X f (WO X f) := fun pins s σ H x y v u Q I rx ry h => let ⟨_, o, q⟩ := h; o pins s σ H x y v u Q I rx ry q
theorem WE.of {X : Cx} {e : Expr} {t : TE} {σ : St} {H : Hp} {Q : VK} (p : PE X e t) (h : t σ H Q) : WE X e σ H Q := fun pins s I => p.run pins s σ H Q I h
theorem WT.of {X : Cx} {e : Expr} {t : TT} {σ : St} {H : Hp} {Q : Bool → Hp → Prop} (p : PT X e t) (h : t σ H Q) : WT X e σ H Q := fun pins s I => p.run pins s σ H Q I h
theorem WP.of {X : Cx} {e : Expr} {t : TT} {σ : St} {H : Hp} {Q : Bool → Hp → Prop} (p : PW X e t) (h : t σ H Q) : WP X e σ H Q := fun wh pins s I => p.run wh pins s σ H Q I h
theorem WA.of {X : Cx} {e : List Expr} {t : TA} {σ : St} {H : Hp} {Q : List V → Hp → Prop} (p : PA X e t) (h : t σ H Q) : WA X e σ H Q := fun pos pins s I => p.run pos pins s σ H Q I h
theorem WS.of {X : Cx} {e : Stmt} {t : TS} {σ : St} {H : Hp} {D : Ends} (p : PS X e t) (h : t D σ H) : WS X e D σ H := fun pins s I => p.run pins s σ H D I h
theorem WB.of {X : Cx} {e : List Stmt} {t : TS} {σ : St} {H : Hp} {D : Ends} (p : PSs X e t) (h : t D σ H) : WB X e D σ H := fun pins s I => p.run pins s σ H D I h

/-! what is to hold of an outcome -/
/-- an error comes out -/
def PoX (G : Cfg) (m : Nat → Addr) (L : Nat) (H : Hp) (Z : WX) (c : Nat) (w : W) (s : Sg) (h' : IH) : Prop :=
  ∀ m' H' d v τ', Ext G.K m L H m' h'.length H' → Rep G.K G.cl m' h' H' → RW G.K G.cl m' h'.length H' w v → RSt G m' h'.length H' s τ' → H' d = some (.xd [(G.fn c, v)]) → Z (.ref (G.cl c)) (some d) τ' H'
def PoE (G : Cfg) (m : Nat → Addr) (L : Nat) (H : Hp) (Z : WX) (Q : VK) : Out → Prop
  | .v w h' => ∀ m' H' v, Ext G.K m L H m' h'.length H' → Rep G.K G.cl m' h' H' → RW G.K G.cl m' h'.length H' w v → Q v H'
  | .ex c w s h' => PoX G m L H Z c w s h'
  | _ => False
def PoA (G : Cfg) (m : Nat → Addr) (L : Nat) (H : Hp) (Z : WX) (Q : List V → Hp → Prop) : Out → Prop
  | .vs w h' => ∀ m' H' v, Ext G.K m L H m' h'.length H' → Rep G.K G.cl m' h' H' → RWs G.K G.cl m' h'.length H' w v → Q v H'
  | .ex c w s h' => PoX G m L H Z c w s h'
  | _ => False
def PoS (G : Cfg) (m : Nat → Addr) (L : Nat) (H : Hp) (Z : WX) (D : Ends) : Out → Prop
  | .nx s h' => ∀ m' H' τ, Ext G.K m L H m' h'.length H' → Rep G.K G.cl m' h' H' → RSt G m' h'.length H' s τ → D.nx τ H'
  | .bk s h' => ∀ m' H' τ, Ext G.K m L H m' h'.length H' → Rep G.K G.cl m' h' H' → RSt G m' h'.length H' s τ → D.bk τ H'
  | .ct s h' => ∀ m' H' τ, Ext G.K m L H m' h'.length H' → Rep G.K G.cl m' h' H' → RSt G m' h'.length H' s τ → D.ct τ H'
  | .rt w h' => ∀ m' H' v, Ext G.K m L H m' h'.length H' → Rep G.K G.cl m' h' H' → RW G.K G.cl m' h'.length H' w v → D.rt v H'
  | .ex c w s h' => PoX G m L H Z c w s h'
  | _ => False
section
variable {G : Cfg} {m m1 : Nat → Addr} {L L1 : Nat} {H H1 : Hp} {Z : WX}
theorem PoX.later {c : Nat} {w : W} {s : Sg} {h' : IH} (e : Ext G.K m L H m1 L1 H1) (p : PoX G m L H Z c w s h') : PoX G m1 L1 H1 Z c w s h' := fun m' H' d v τ' e' => p m' H' d v τ' (e.trans e')
theorem PoE.later {Q : VK} {o : Out} (e : Ext G.K m L H m1 L1 H1) (p : PoE G m L H Z Q o) : PoE G m1 L1 H1 Z Q o := by
  cases o <;> first | exact p | exact PoX.later e p | exact fun m' H' v e' => p m' H' v (e.trans e')
theorem PoA.later {Q : List V → Hp → Prop} {o : Out} (e : Ext G.K m L H m1 L1 H1) (p : PoA G m L H Z Q o) : PoA G m1 L1 H1 Z Q o := by
  cases o <;> first | exact p | exact PoX.later e p | exact fun m' H' v e' => p m' H' v (e.trans e')
theorem PoS.later {D : Ends} {o : Out} (e : Ext G.K m L H m1 L1 H1) (p : PoS G m L H Z D o) : PoS G m1 L1 H1 Z D o := by
  cases o <;> first | exact p | exact PoX.later e p | exact fun m' H' v e' => p m' H' v (e.trans e')
/-- one step of an expression, then the rest -/
theorem PoE.ee {Q Q' : VK} {o : Out} {k : W → IH → Out} (p : PoE G m L H Z Q (o.vb k))
    (f : ∀ w h1 m1 H1 v, Ext G.K m L H m1 h1.length H1 → Rep G.K G.cl m1 h1 H1 → RW G.K G.cl m1 h1.length H1 w v → PoE G m1 h1.length H1 Z Q (k w h1) → Q' v H1) : PoE G m L H Z Q' o := by
  cases o <;> first | exact p | exact fun m1 H1 v e r x => f _ _ m1 H1 v e r x (PoE.later e p)
theorem PoE.ae {Q : VK} {Q' : List V → Hp → Prop} {o : Out} {k : List W → IH → Out} (p : PoE G m L H Z Q (o.vsb k))
    (f : ∀ w h1 m1 H1 v, Ext G.K m L H m1 h1.length H1 → Rep G.K G.cl m1 h1 H1 → RWs G.K G.cl m1 h1.length H1 w v → PoE G m1 h1.length H1 Z Q (k w h1) → Q' v H1) : PoA G m L H Z Q' o := by
  cases o <;> first | exact p | exact fun m1 H1 v e r x => f _ _ m1 H1 v e r x (PoE.later e p)
theorem PoA.ea {Q : List V → Hp → Prop} {Q' : VK} {o : Out} {k : W → IH → Out} (p : PoA G m L H Z Q (o.vb k))
    (f : ∀ w h1 m1 H1 v, Ext G.K m L H m1 h1.length H1 → Rep G.K G.cl m1 h1 H1 → RW G.K G.cl m1 h1.length H1 w v → PoA G m1 h1.length H1 Z Q (k w h1) → Q' v H1) : PoE G m L H Z Q' o := by
  cases o <;> first | exact p | exact fun m1 H1 v e r x => f _ _ m1 H1 v e r x (PoA.later e p)
theorem PoA.aa {Q Q' : List V → Hp → Prop} {o : Out} {k : List W → IH → Out} (p : PoA G m L H Z Q (o.vsb k))
    (f : ∀ w h1 m1 H1 v, Ext G.K m L H m1 h1.length H1 → Rep G.K G.cl m1 h1 H1 → RWs G.K G.cl m1 h1.length H1 w v → PoA G m1 h1.length H1 Z Q (k w h1) → Q' v H1) : PoA G m L H Z Q' o := by
  cases o <;> first | exact p | exact fun m1 H1 v e r x => f _ _ m1 H1 v e r x (PoA.later e p)
theorem PoS.es {D : Ends} {Q' : VK} {o : Out} {k : W → IH → Out} (p : PoS G m L H Z D (o.vb k))
    (f : ∀ w h1 m1 H1 v, Ext G.K m L H m1 h1.length H1 → Rep G.K G.cl m1 h1 H1 → RW G.K G.cl m1 h1.length H1 w v → PoS G m1 h1.length H1 Z D (k w h1) → Q' v H1) : PoE G m L H Z Q' o := by
  cases o <;> first | exact p | exact fun m1 H1 v e r x => f _ _ m1 H1 v e r x (PoS.later e p)
/-- a statement, then the rest of the block -/
theorem PoS.ss {D : Ends} {N : St → Hp → Prop} {o : Out} {k : Sg → IH → Out} (p : PoS G m L H Z D (o.nb k))
    (f : ∀ s h1 m1 H1 τ, Ext G.K m L H m1 h1.length H1 → Rep G.K G.cl m1 h1 H1 → RSt G m1 h1.length H1 s τ → PoS G m1 h1.length H1 Z D (k s h1) → N τ H1) : PoS G m L H Z { D with nx := N } o := by
  cases o <;> first | exact p | exact fun m1 H1 v e r x => f _ _ m1 H1 v e r x (PoS.later e p)
end

/-! soundness -/
abbrev Ev := Sg → IH → Out
structure SE (G : Cfg) (X : Cx) (Z : WX) (c : Ev) (e : Expr) : Prop where
  go : ∀ m h H σ τ Q, Rep G.K G.cl m h H → RSt G m h.length H σ τ → PoE G m h.length H Z Q (c σ h) → WE X e τ H Q
instance {G : Cfg} {X : Cx} {Z : WX} {c : Ev} {e : Expr} : CoeFun (SE G X Z c e) (fun _ => ∀ m h H σ τ Q, Rep G.K G.cl m h H → RSt G m h.length H σ τ → PoE G m h.length H Z Q (c σ h) → WE X e τ H Q) := ⟨SE.go⟩
structure SA (G : Cfg) (X : Cx) (Z : WX) (c : Ev) (e : List Expr) : Prop where
  go : ∀ m h H σ τ Q, Rep G.K G.cl m h H → RSt G m h.length H σ τ → PoA G m h.length H Z Q (c σ h) → WA X e τ H Q
instance {G : Cfg} {X : Cx} {Z : WX} {c : Ev} {e : List Expr} : CoeFun (SA G X Z c e) (fun _ => ∀ m h H σ τ Q, Rep G.K G.cl m h H → RSt G m h.length H σ τ → PoA G m h.length H Z Q (c σ h) → WA X e τ H Q) := ⟨SA.go⟩
structure SS (G : Cfg) (X : Cx) (Z : WX) (c : Ev) (e : Stmt) : Prop where
  go : ∀ m h H σ τ D, Rep G.K G.cl m h H → RSt G m h.length H σ τ → PoS G m h.length H Z D (c σ h) → WS X e D τ H
instance {G : Cfg} {X : Cx} {Z : WX} {c : Ev} {e : Stmt} : CoeFun (SS G X Z c e) (fun _ => ∀ m h H σ τ D, Rep G.K G.cl m h H → RSt G m h.length H σ τ → PoS G m h.length H Z D (c σ h) → WS X e D τ H) := ⟨SS.go⟩
structure SB (G : Cfg) (X : Cx) (Z : WX) (c : Ev) (e : List Stmt) : Prop where
  go : ∀ m h H σ τ D, Rep G.K G.cl m h H → RSt G m h.length H σ τ → PoS G m h.length H Z D (c σ h) → WB X e D τ H
instance {G : Cfg} {X : Cx} {Z : WX} {c : Ev} {e : List Stmt} : CoeFun (SB G X Z c e) (fun _ => ∀ m h H σ τ D, Rep G.K G.cl m h H → RSt G m h.length H σ τ → PoS G m h.length H Z D (c σ h) → WB X e D τ H) := ⟨SB.go⟩
/-- a test: the value's truth (a bool here) -/
def toB (Q : Bool → Hp → Prop) : VK := fun v H => ∃ b, v = .bl b ∧ Q b H
structure ST (G : Cfg) (X : Cx) (Z : WX) (c : Ev) (e : Expr) : Prop where
  go : ∀ m h H σ τ Q, Rep G.K G.cl m h H → RSt G m h.length H σ τ → PoE G m h.length H Z (toB Q) (c σ h) → WT X e τ H Q
instance {G : Cfg} {X : Cx} {Z : WX} {c : Ev} {e : Expr} : CoeFun (ST G X Z c e) (fun _ => ∀ m h H σ τ Q, Rep G.K G.cl m h H → RSt G m h.length H σ τ → PoE G m h.length H Z (toB Q) (c σ h) → WT X e τ H Q) := ⟨ST.go⟩
structure SP' (G : Cfg) (X : Cx) (Z : WX) (c : Ev) (e : Expr) : Prop where
  go : ∀ m h H σ τ Q, Rep G.K G.cl m h H → RSt G m h.length H σ τ → PoE G m h.length H Z (toB Q) (c σ h) → WP X e τ H Q
instance {G : Cfg} {X : Cx} {Z : WX} {c : Ev} {e : Expr} : CoeFun (SP' G X Z c e) (fun _ => ∀ m h H σ τ Q, Rep G.K G.cl m h H → RSt G m h.length H σ τ → PoE G m h.length H Z (toB Q) (c σ h) → WP X e τ H Q) := ⟨SP'.go⟩
structure SO (G : Cfg) (X : Cx) (f : Value → Value → Sem Value) (g : W → W → IH → Out) : Prop where
  go : ∀ m h H x y vx vy Z Q, Rep G.K G.cl m h H → RW G.K G.cl m h.length H x vx → RW G.K G.cl m h.length H y vy → PoE G m h.length H Z Q (g x y h) → WO X f vx vy H Q
instance {G : Cfg} {X : Cx} {f : Value → Value → Sem Value} {g : W → W → IH → Out} : CoeFun (SO G X f g) (fun _ => ∀ m h H x y vx vy Z Q, Rep G.K G.cl m h H → RW G.K G.cl m h.length H x vx → RW G.K G.cl m h.length H y vy → PoE G m h.length H Z Q (g x y h) → WO X f vx vy H Q) := ⟨SO.go⟩

section
variable {G : Cfg} {X : Cx} {Z : WX} {a b c : Ev} {ea eb ec : Expr} {pos : Pos}
/-! ### the leaves -/
def eK (w : W) : Ev := fun _ h => .v w h
def eLoc (i : Nat) : Ev := fun σ h => match σ[i]? with | some (some w) => .v w h | _ => .no
theorem s_int {i : Int} {j : Nat} : SE G X Z (eK (.int i)) (.Constant (.int i) j pos) := .mk fun m h H σ τ Q R S P => WE.of pe_int (P m H _ Ext.refl R (.int i))
theorem s_bl {i : Bool} {j : Nat} : SE G X Z (eK (.bl i)) (.Constant (.bool i) j pos) := .mk fun m h H σ τ Q R S P => WE.of pe_bl (P m H _ Ext.refl R (.bl i))
theorem s_non {j : Nat} : SE G X Z (eK .non) (.Constant .none j pos) := .mk fun m h H σ τ Q R S P => WE.of pe_non (P m H _ Ext.refl R .non)
theorem s_str {x : Str} {j : Nat} : SE G X Z (eK (.str x)) (.Constant (.str x) j pos) := .mk fun m h H σ τ Q R S P => WE.of pe_str (P m H _ Ext.refl R (.str x))
theorem s_loc (i : Nat) {x : Str} (hN : X.N[i]? = some x := by rfl) (hv : Vis X.env.scope x := by first | exact Or.inl rfl | exact Or.inr (Or.inl rfl) | exact Or.inr (Or.inr rfl))
    (hd : (x == ("__debug__" : Str)) = false := by decide) (hcd : (x == ("__classdict__" : Str)) = false := by decide) : SE G X Z (eLoc i) (.Name x pos) := .mk fun m h H σ τ Q R S P => by
  refine WE.of (pe_var (i := i) hN hv hd hcd) ?_
  unfold eLoc at P
  cases e : σ[i]? with
  | none => rw [e] at P; exact P.elim
  | some o =>
    cases o with
    | none => rw [e] at P; exact P.elim
    | some w =>
      rw [e] at P
      obtain ⟨v, h1, h2⟩ := S.get i w e
      exact ⟨v, h1, P m H v Ext.refl R h2⟩
theorem s_glob {x : Str} {w : W} {v : V} {u : Value} (hm : X.mg x = some u) (r : RelV v u) (rw_ : ∀ m L H, RW G.K G.cl m L H w v) (hg : Gl X x := by rfl) (hd : (x == ("__debug__" : Str)) = false := by decide) : SE G X Z (eK w) (.Name x pos) :=
  .mk fun m h H σ τ Q R S P => WE.of (pe_glob hg hm r hd) (P m H v Ext.refl R (rw_ m _ H))
/-! ### operators -/
def eBin (g : W → W → IH → Out) (a b : Ev) : Ev := fun σ h => (a σ h).vb fun x h1 => (b σ h1).vb fun y h2 => g x y h2
theorem s_bin {op : Operator} {g : W → W → IH → Out} (ho : SO G X (binaryOp op) g) (ha : SE G X Z a ea) (hb : SE G X Z b eb) : SE G X Z (eBin g a b) (.BinOp ea op eb pos) := .mk fun m h H σ τ Q R S P => by
  refine WE.of (pe_op poM peM peM) (ha m h H σ τ _ R S (PoE.ee P fun x h1 m1 H1 v1 e1 R1 r1 P1 => ?_))
  refine hb m1 h1 H1 σ τ _ R1 (S.mono e1) (PoE.ee P1 fun y h2 m2 H2 v2 e2 R2 r2 P2 => ?_)
  exact ho m2 h2 H2 x y v1 v2 Z Q R2 (r1.mono e2) r2 P2
theorem s_cmp {op : CmpOp} {g : W → W → IH → Out} (ho : SO G X (compareOp op) g) (ha : SE G X Z a ea) (hb : SE G X Z b eb) (hm : behindInMarks op eb = false := by first | rfl | exact nobehind _ (by decide) (by decide)) : SE G X Z (eBin g a b) (.Compare ea [op] [eb] pos) := .mk fun m h H σ τ Q R S P => by
  refine WE.of (pe_cmpR poM peM peM hm) (ha m h H σ τ _ R S (PoE.ee P fun x h1 m1 H1 v1 e1 R1 r1 P1 => ?_))
  refine hb m1 h1 H1 σ τ _ R1 (S.mono e1) (PoE.ee P1 fun y h2 m2 H2 v2 e2 R2 r2 P2 => ?_)
  exact ho m2 h2 H2 x y v1 v2 Z Q R2 (r1.mono e2) r2 P2
theorem t_cmp {op : CmpOp} {g : W → W → IH → Out} (ho : SO G X (compareOp op) g) (ha : SE G X Z a ea) (hb : SE G X Z b eb) (hm : behindInMarks op eb = false := by first | rfl | exact nobehind _ (by decide) (by decide)) : ST G X Z (eBin g a b) (.Compare ea [op] [eb] pos) := .mk fun m h H σ τ Q R S P => by
  refine WT.of (pt_cmpR poM peM peM hm) (ha m h H σ τ _ R S (PoE.ee P fun x h1 m1 H1 v1 e1 R1 r1 P1 => ?_))
  refine hb m1 h1 H1 σ τ _ R1 (S.mono e1) (PoE.ee P1 fun y h2 m2 H2 v2 e2 R2 r2 P2 => ?_)
  exact ho m2 h2 H2 x y v1 v2 Z _ R2 (r1.mono e2) r2 P2
end
end Dr
namespace Dr
open PySem L2

/-- classes whose errors may bear a context -/
def Cfg.dty (G : Cfg) : Value → Prop := fun v => match G.tc with
  | none => True
  | some t => PySem.W.exmOne G.K v (.ref (G.cl t)) ≠ some true
/-- what may come out: an error without a context, or one of a class that may bear one -/
structure Tk2 (G : Cfg) (X : Cx) (Z : WX) : Prop where
  n : L2N.Takes X Z
  x : Takes X (fun c d σ H => G.dty c ∧ Z c d σ H)
def CX2 (dt : Value → Prop) (P : Program) (w : World) (outer : List Env) (H : Hp) (s : Shared) (E : XK) (u : Value) (s' : Shared) : Prop :=
  L2N.CX P w outer H s E u s' ∨ L2.CX P w outer H s (fun c d H' => dt c ∧ E c d H') u s'
theorem xe_n {X : Cx} {W : WX} {u : Value} {s' : Shared} (h : L2N.XE X W u s') : L2.XE X W u s' := by
  obtain ⟨a, B, sI, pins, σ, H, cls, d, e, I, nb, up, sky, na, os, ag, w⟩ := h
  refine ⟨a, B, sI, pins, σ, H, cls, d, e, I, nb, up, ?_, na, os, ag, w⟩
  rcases sky with ⟨h1, h2, h3, oe, vs, h4, h5, h6⟩ | ⟨h1, h2, h3, oe, vs, T, oT, ts, h4, h5, h6⟩ | ⟨h1, h2, h3, oe, vs, T, oT, ts, h4, h5, h6⟩
  · exact .inl ⟨h1, h2, h3, oe, vs, h4, h5.zc, h6⟩
  · exact .inr (.inl ⟨h1, h2, h3, oe, vs, T, oT, ts, h4, h5.zc, h6⟩)
  · exact .inr (.inr ⟨h1, h2, h3, oe, vs, T, oT, ts, h4, h5.zc, h6⟩)
theorem Tk2.of {G : Cfg} {X : Cx} {W : WX} (t : Takes X W) : Tk2 G X W := ⟨fun u s' x => t u s' (xe_n x), t.imp fun _ _ _ _ h => h.2⟩
theorem tk2_0 {G : Cfg} {X : Cx} {W : WX} (h : ∀ c d σ H, ¬ W c d σ H) : Tk2 G X W := .of (Takes.imp (fun _ _ ⟨_, _, _, _, _, _, _, _, _, _, _, _, _, _, _, _, z⟩ => False.elim z : Takes X (fun _ _ _ _ => False)) fun c d σ H z => h c d σ H z)
theorem pass2 {G : Cfg} {X : Cx} {W : WX} (t : Tk2 G X W) (σ : St) : PassesAt (CX2 G.dty X.prog X.w) X σ (L2.WE W σ) := fun pins H s e s' I c => by
  rcases c with c | c
  · exact L2N.passAt t.n σ pins H s e s' I c
  · exact L2.passAt t.x σ pins H s e s' I c
theorem cx2_no {dt : Value → Prop} {P : Program} {w : World} {outer : List Env} {H : Hp} {s : Shared} {u : Value} {s' : Shared} (h : CX2 dt P w outer H s (fun _ _ _ => False) u s') : False := by
  rcases h with ⟨_, _, _, _, _, _, _, _, _, _, _, _, z⟩ | ⟨_, _, _, _, _, _, _, _, _, _, _, _, z⟩
  · exact z
  · exact z.2
/-- where a body runs -/
structure Fit (G : Cfg) (X : Cx) (Z : WX) (k : Nat) : Prop where
  K : X.K = G.K
  calm : X.calm = true
  own : PassesOwn (model X.prog X.w) X.A X.env X.xe
  tk : Tk2 G X Z
  room : Room k X.A
  base : G.xs = none
  gd : X.A.guards = some []
section
variable {G : Cfg} {X : Cx} {Z : WX} {k : Nat}
/-! ### what the operators do -/
def mulOk (i j : Int) : Bool := (decide (-(2 ^ 64) < i) && decide (i < 2 ^ 64)) || (decide (-(2 ^ 64) < j) && decide (j < 2 ^ 64))
/-- texts put together, by their lists -/
def appS (x y : Str) : Str := ⟨(x.cps.toList ++ y.cps.toList).toArray⟩
theorem appS_eq (x y : Str) : appS x y = x ++ y := by
  show Str.mk _ = Str.mk (x.cps ++ y.cps)
  congr 1
  exact Array.ext' (by simp)
def oAdd : W → W → IH → Out
  | .int i, .int j, h => .v (.int (i + j)) h
  | .str i, .str j, h => if i.length + j.length ≤ 16777216 then .v (.str (appS i j)) h else .no
  | .tup x, .tup y, h => if x.length + y.length ≤ 16777216 then .v (.tup (x ++ y)) h else .no
  | .ref x, .ref y, h => match h[x]?, h[y]? with
    | some (.lst xs), some (.lst ys) => if xs.length + ys.length ≤ 16777216 then .v (.ref h.length) (h ++ [.lst (xs ++ ys)]) else .no
    | _, _ => .no
  | _, _, _ => .no
def oSub : W → W → IH → Out
  | .int i, .int j, h => .v (.int (i - j)) h
  | _, _, _ => .no
def oMul : W → W → IH → Out
  | .int i, .int j, h => if mulOk i j = true then .v (.int (i * j)) h else .no
  | .ref x, .int k, h => match h[x]? with
    | some (.lst xs) => if 0 ≤ k ∧ k < 2 ^ 62 ∧ xs.length * k.toNat ≤ 16777216 then .v (.ref h.length) (h ++ [.lst (List.replicate k.toNat xs).flatten]) else .no
    | _ => .no
  | _, _, _ => .no
def oDiv : W → W → IH → Out
  | .int i, .int j, h => if 0 < j ∧ j < 1073741824 then .v (.int (i / j)) h else .no
  | _, _, _ => .no
def oMod : W → W → IH → Out
  | .int i, .int j, h => if 0 < j then .v (.int (i % j)) h else .no
  | _, _, _ => .no
def oPow : W → W → IH → Out
  | .int i, .int j, h => if 0 ≤ j ∧ j ≤ 1000000 ∧ i.natAbs < 2 ^ 64 then .v (.int (i ^ j.toNat)) h else .no
  | _, _, _ => .no
theorem lineSz : sizeLine = 16777216 := sizeLine_eq
theorem so_sub : SO G X (binaryOp .Sub) oSub := .mk fun m h H x y vx vy Z Q R rx ry P => by
  cases rx <;> cases ry <;> first | exact P.elim | exact ⟨_, op_sub, _, _, rfl, rfl, P m H _ Ext.refl R (.int _)⟩
theorem so_mod : SO G X (binaryOp .Mod) oMod := .mk fun m h H x y vx vy Z Q R rx ry P => by
  cases rx <;> cases ry <;> first | exact P.elim | skip
  rename_i i j
  simp only [oMod] at P
  split at P
  · rename_i c; exact ⟨_, op_mod, _, _, rfl, rfl, c, P m H _ Ext.refl R (.int _)⟩
  · exact P.elim
theorem so_div : SO G X (binaryOp .FloorDiv) oDiv := .mk fun m h H x y vx vy Z Q R rx ry P => by
  cases rx <;> cases ry <;> first | exact P.elim | skip
  rename_i i j
  simp only [oDiv] at P
  split at P
  · rename_i c; exact ⟨_, op_fdiv, _, _, rfl, rfl, c, P m H _ Ext.refl R (.int _)⟩
  · exact P.elim
theorem so_pow : SO G X (binaryOp .Pow) oPow := .mk fun m h H x y vx vy Z Q R rx ry P => by
  cases rx <;> cases ry <;> first | exact P.elim | skip
  rename_i i j
  simp only [oPow] at P
  split at P
  · rename_i c; exact ⟨_, op_pow, _, _, rfl, rfl, c, P m H _ Ext.refl R (.int _)⟩
  · exact P.elim
theorem CMul_of {i j : Int} (h : mulOk i j = true) : CMul i j := by
  unfold mulOk at h
  simp only [Bool.or_eq_true, Bool.and_eq_true, decide_eq_true_eq] at h
  exact h
theorem so_mul : SO G X (binaryOp .Mult) oMul := .mk fun m h H x y vx vy Z Q R rx ry P => by
  cases rx <;> cases ry <;> first | exact P.elim | skip
  · rename_i i j
    simp only [oMul] at P
    split at P
    · rename_i c; exact ⟨_, op_mul, _, _, rfl, rfl, CMul_of c, P m H _ Ext.refl R (.int _)⟩
    · exact P.elim
  · rename_i n hn k
    simp only [oMul] at P
    split at P
    · rename_i xs e
      split at P
      · rename_i c
        obtain ⟨vs, ha, hv⟩ := R.obj n _ e
        refine ⟨_, op_rep, m n, k, vs, rfl, rfl, ha, by omega, by omega, ?_, fun p hp => ?_⟩
        · rw [← hv.length, lineSz]; exact c.2.2
        · have rep : RWs G.K G.cl m h.length H (List.replicate k.toNat xs).flatten (List.replicate k.toNat vs).flatten := by
            generalize k.toNat = q
            induction q with
            | zero => exact .nil
            | succ q ih => rw [List.replicate_succ, List.replicate_succ, List.flatten_cons, List.flatten_cons]; exact hv.append ih
          have z := R.push (q := p) (u := .lst (List.replicate k.toNat vs).flatten) (o := .lst (List.replicate k.toNat xs).flatten) hp
          have e1 : Ext G.K m h.length H (ext1 m h.length p) (h.length + 1) (upd H p (.lst (List.replicate k.toNat vs).flatten))  := .add hp
          obtain ⟨R', E'⟩ := z ⟨_, upd_same, rep.mono e1⟩
          have w := P _ _ (.ref p) E' R' (by
            have q := RW.ref (K := G.K) (cl := G.cl) (m := ext1 m h.length p) (L := (h ++ [IO.lst (List.replicate k.toNat xs).flatten]).length) (H := upd H p (.lst (List.replicate k.toNat vs).flatten)) h.length (by simp)
            have l : ext1 m h.length p h.length = p := by unfold ext1; rw [if_pos rfl]
            rw [l] at q; exact q)
          exact w
      · exact P.elim
    · exact P.elim
/-- a new list -/
theorem new_lst {m : Nat → Addr} {h : IH} {H : Hp} {p : Addr} {ws : List W} {vs : List V} {Q : VK} (R : Rep G.K G.cl m h H) (hp : H p = none) (hv : RWs G.K G.cl m h.length H ws vs)
    (P : ∀ m' H' v, Ext G.K m h.length H m' (h ++ [IO.lst ws]).length H' → Rep G.K G.cl m' (h ++ [IO.lst ws]) H' → RW G.K G.cl m' (h ++ [IO.lst ws]).length H' (.ref h.length) v → Q v H') : Q (.ref p) (upd H p (.lst vs)) := by
  have e1 : Ext G.K m h.length H (ext1 m h.length p) (h.length + 1) (upd H p (.lst vs))  := .add hp
  obtain ⟨R', E'⟩ := R.push (q := p) (u := .lst vs) (o := .lst ws) hp ⟨_, upd_same, hv.mono e1⟩
  refine P _ _ (.ref p) E' R' ?_
  have q := RW.ref (K := G.K) (cl := G.cl) (m := ext1 m h.length p) (L := (h ++ [IO.lst ws]).length) (H := upd H p (.lst vs)) h.length (by simp)
  have l : ext1 m h.length p h.length = p := by unfold ext1; rw [if_pos rfl]
  rw [l] at q; exact q
/-- a new tuple -/
theorem new_tup {m : Nat → Addr} {h : IH} {H : Hp} {p : Addr} {ws : List W} {vs : List V} {Q : VK} (R : Rep G.K G.cl m h H) (hp : H p = none) (hv : RWs G.K G.cl m h.length H ws vs)
    (P : ∀ m' H' v, Ext G.K m h.length H m' h.length H' → Rep G.K G.cl m' h H' → RW G.K G.cl m' h.length H' (.tup ws) v → Q v H') : Q (.ref p) (upd H p (.tup vs)) := by
  obtain ⟨R', E'⟩ := R.aside (q := p) (o := .tup vs) hp
  exact P _ _ (.ref p) E' R' (.tup (.inl (.inl upd_same)) (hv.mono E'))
theorem so_add (F : Fit G X Z k) : SO G X (binaryOp .Add) oAdd := .mk fun m h H x y vx vy Z Q R rx ry P => by
  cases rx <;> cases ry <;> first | exact P.elim | skip
  · exact ⟨_, op_add, _, _, rfl, rfl, P m H _ Ext.refl R (.int _)⟩
  · rename_i i j
    simp only [oAdd, appS_eq] at P
    split at P
    · rename_i c; exact ⟨_, op_add_str, _, _, rfl, rfl, by rw [lineSz]; exact c, P m H _ Ext.refl R (.str _)⟩
    · exact P.elim
  · rename_i p vs ws hp hv q us zs hq hu
    simp only [oAdd] at P
    split at P
    · rename_i c
      refine ⟨_, op_catA, p, q, vs, us, rfl, rfl, F.K ▸ hp, F.K ▸ hq, by rw [← hv.length, ← hu.length, lineSz]; exact c, fun e => ?_, fun _ e => ?_, fun _ _ r hr => ?_⟩
      · subst e
        cases hv
        exact P m H _ Ext.refl R (.tup hq (by simpa using hu))
      · subst e
        cases hu
        exact P m H _ Ext.refl R (.tup hp (by simpa using hv))
      · exact new_tup R hr (hv.append hu) P
    · exact P.elim
  · rename_i n hn k hk
    simp only [oAdd] at P
    split at P
    · rename_i xs ys e1 e2
      split at P
      · rename_i c
        obtain ⟨vs, ha, hv⟩ := R.obj n _ e1
        obtain ⟨us, hb, hu⟩ := R.obj k _ e2
        exact ⟨_, op_cat, _, _, vs, us, rfl, rfl, ha, hb, by rw [← hv.length, ← hu.length, lineSz]; exact c, fun p hp => new_lst R hp (hv.append hu) P⟩
      · exact P.elim
    · exact P.elim
/-! ### order of ints -/
def oLt : W → W → IH → Out
  | .int i, .int j, h => .v (.bl (decide (i < j))) h
  | _, _, _ => .no
def oLe : W → W → IH → Out
  | .int i, .int j, h => .v (.bl (decide (i ≤ j))) h
  | _, _, _ => .no
def oGt : W → W → IH → Out
  | .int i, .int j, h => .v (.bl (decide (j < i))) h
  | _, _, _ => .no
def oGe : W → W → IH → Out
  | .int i, .int j, h => .v (.bl (decide (j ≤ i))) h
  | _, _, _ => .no
theorem so_lt : SO G X (compareOp .Lt) oLt := .mk fun m h H x y vx vy Z Q R rx ry P => by
  cases rx <;> cases ry <;> first | exact P.elim | exact ⟨_, op_lt, _, _, rfl, rfl, P m H _ Ext.refl R (.bl _)⟩
theorem so_le : SO G X (compareOp .LtE) oLe := .mk fun m h H x y vx vy Z Q R rx ry P => by
  cases rx <;> cases ry <;> first | exact P.elim | exact ⟨_, op_le, _, _, rfl, rfl, P m H _ Ext.refl R (.bl _)⟩
theorem so_gt : SO G X (compareOp .Gt) oGt := .mk fun m h H x y vx vy Z Q R rx ry P => by
  cases rx <;> cases ry <;> first | exact P.elim | exact ⟨_, op_gt, _, _, rfl, rfl, P m H _ Ext.refl R (.bl _)⟩
theorem so_ge : SO G X (compareOp .GtE) oGe := .mk fun m h H x y vx vy Z Q R rx ry P => by
  cases rx <;> cases ry <;> first | exact P.elim | exact ⟨_, op_ge, _, _, rfl, rfl, P m H _ Ext.refl R (.bl _)⟩
/-! ### is None -/
def W.isNon : W → Bool
  | .non => true
  | _ => false
def oIsN : W → W → IH → Out
  | x, .non, h => .v (.bl x.isNon) h
  | _, _, _ => .no
def oNotN : W → W → IH → Out
  | x, .non, h => .v (.bl (!x.isNon)) h
  | _, _, _ => .no
theorem isNon_of {m : Nat → Addr} {L : Nat} {H : Hp} {x : W} {v : V} (r : RW G.K G.cl m L H x v) : decide (v = .non) = x.isNon := by
  cases r <;> simp [W.isNon]
theorem so_isN : SO G X (compareOp .Is) oIsN := .mk fun m h H x y vx vy Z Q R rx ry P => by
  cases ry <;> first | exact P.elim | (cases x <;> exact P.elim) | skip
  refine ⟨_, op_isN, rfl, ?_⟩
  rw [isNon_of rx]
  exact P m H _ Ext.refl R (.bl _)
theorem so_notN : SO G X (compareOp .IsNot) oNotN := .mk fun m h H x y vx vy Z Q R rx ry P => by
  cases ry <;> first | exact P.elim | (cases x <;> exact P.elim) | skip
  refine ⟨_, op_notN, rfl, ?_⟩
  rw [isNon_of rx]
  exact P m H _ Ext.refl R (.bl _)
end
end Dr
namespace Dr
open PySem L2

section
variable {G : Cfg} {X : Cx} {Z : WX} {k : Nat} {a b c : Ev} {ea eb ec : Expr} {pos : Pos}
/-! ### and, or, not, if .. else -/
def eAnd (a b : Ev) : Ev := fun σ h => (a σ h).vb fun x h1 => match x with | .bl true => b σ h1 | .bl false => .v (.bl false) h1 | _ => .no
def eOr (a b : Ev) : Ev := fun σ h => (a σ h).vb fun x h1 => match x with | .bl true => .v (.bl true) h1 | .bl false => b σ h1 | _ => .no
def eNot (a : Ev) : Ev := fun σ h => (a σ h).vb fun x h1 => match x with | .bl q => .v (.bl (!q)) h1 | _ => .no
def eIf (c a b : Ev) : Ev := fun σ h => (c σ h).vb fun x h1 => match x with | .bl true => a σ h1 | .bl false => b σ h1 | _ => .no
theorem t_val (ha : SE G X Z a ea) (he : ∀ wh, isTrue ea X.env wh = (do let v ← wh; standAt ea.pos; holding [v] (truthy v)) := by intro _; rfl) : ST G X Z a ea :=
  .mk fun m h H σ τ Q R S P => WT.of (pt_val peM he) (ha m h H σ τ _ R S P)
theorem t_p (ha : SP' G X Z a ea) : ST G X Z a ea := .mk fun m h H σ τ Q R S P => WT.of (PW.pt pwM) (ha m h H σ τ Q R S P)
theorem p_and1 (ha : ST G X Z a ea) : SP' G X Z a (.BoolOp .And [ea] pos) := .mk fun m h H σ τ Q R S P => WP.of (pw_and1 ptM) (ha m h H σ τ Q R S P)
theorem p_or1 (ha : ST G X Z a ea) : SP' G X Z a (.BoolOp .Or [ea] pos) := .mk fun m h H σ τ Q R S P => WP.of (pw_or1 ptM) (ha m h H σ τ Q R S P)
theorem p_and {rest : List Expr} (ha : ST G X Z a ea) (hb : SP' G X Z b (.BoolOp .And (eb :: rest) pos)) : SP' G X Z (eAnd a b) (.BoolOp .And (ea :: eb :: rest) pos) := .mk fun m h H σ τ Q R S P => by
  refine WP.of (pw_and ptM pwM) (ha m h H σ τ _ R S (PoE.ee P fun x h1 m1 H1 v1 e1 R1 r1 P1 => ?_))
  cases r1 <;> first | exact P1.elim | skip
  rename_i q
  cases q
  · refine ⟨false, rfl, iteF ?_⟩
    obtain ⟨b', e, q⟩ := P1 m1 H1 _ Ext.refl R1 (.bl _)
    cases e; exact q
  · exact ⟨true, rfl, iteT (hb m1 h1 H1 σ τ Q R1 (S.mono e1) P1)⟩
theorem p_or {rest : List Expr} (ha : ST G X Z a ea) (hb : SP' G X Z b (.BoolOp .Or (eb :: rest) pos)) : SP' G X Z (eOr a b) (.BoolOp .Or (ea :: eb :: rest) pos) := .mk fun m h H σ τ Q R S P => by
  refine WP.of (pw_or ptM pwM) (ha m h H σ τ _ R S (PoE.ee P fun x h1 m1 H1 v1 e1 R1 r1 P1 => ?_))
  cases r1 <;> first | exact P1.elim | skip
  rename_i q
  cases q
  · exact ⟨false, rfl, iteF (hb m1 h1 H1 σ τ Q R1 (S.mono e1) P1)⟩
  · refine ⟨true, rfl, iteT ?_⟩
    obtain ⟨b', e, q⟩ := P1 m1 H1 _ Ext.refl R1 (.bl _)
    cases e; exact q
theorem t_not (ha : ST G X Z a ea) : ST G X Z (eNot a) (.UnaryOp .Not ea pos) := .mk fun m h H σ τ Q R S P => by
  refine WT.of (pt_not ptM) (ha m h H σ τ _ R S (PoE.ee P fun x h1 m1 H1 v1 e1 R1 r1 P1 => ?_))
  cases r1 <;> first | exact P1.elim | skip
  rename_i q
  obtain ⟨b', e, q⟩ := P1 m1 H1 _ Ext.refl R1 (.bl _)
  cases e
  exact ⟨_, rfl, q⟩
theorem s_one {op : BoolOp} (ha : SE G X Z a ea) : SE G X Z a (.BoolOp op [ea] pos) := .mk fun m h H σ τ Q R S P => WE.of (pe_one peM) (ha m h H σ τ Q R S P)
theorem s_and {rest : List Expr} (ha : SE G X Z a ea) (hb : SE G X Z b (.BoolOp .And (eb :: rest) pos)) : SE G X Z (eAnd a b) (.BoolOp .And (ea :: eb :: rest) pos) := .mk fun m h H σ τ Q R S P => by
  refine WE.of (pe_and peM peM) (ha m h H σ τ _ R S (PoE.ee P fun x h1 m1 H1 v1 e1 R1 r1 P1 => ?_))
  cases r1 <;> first | exact P1.elim | skip
  rename_i q
  cases q
  · exact ⟨false, rfl, iteF (P1 m1 H1 _ Ext.refl R1 (.bl _))⟩
  · exact ⟨true, rfl, iteT (hb m1 h1 H1 σ τ Q R1 (S.mono e1) P1)⟩
theorem s_or {rest : List Expr} (ha : SE G X Z a ea) (hb : SE G X Z b (.BoolOp .Or (eb :: rest) pos)) : SE G X Z (eOr a b) (.BoolOp .Or (ea :: eb :: rest) pos) := .mk fun m h H σ τ Q R S P => by
  refine WE.of (pe_or peM peM) (ha m h H σ τ _ R S (PoE.ee P fun x h1 m1 H1 v1 e1 R1 r1 P1 => ?_))
  cases r1 <;> first | exact P1.elim | skip
  rename_i q
  cases q
  · exact ⟨false, rfl, iteF (hb m1 h1 H1 σ τ Q R1 (S.mono e1) P1)⟩
  · exact ⟨true, rfl, iteT (P1 m1 H1 _ Ext.refl R1 (.bl _))⟩
theorem s_not (ha : SE G X Z a ea) : SE G X Z (eNot a) (.UnaryOp .Not ea pos) := .mk fun m h H σ τ Q R S P => by
  refine WE.of (pe_not peM) (ha m h H σ τ _ R S (PoE.ee P fun x h1 m1 H1 v1 e1 R1 r1 P1 => ?_))
  cases r1 <;> first | exact P1.elim | skip
  exact ⟨_, rfl, P1 m1 H1 _ Ext.refl R1 (.bl _)⟩
theorem s_if (hc : ST G X Z c ec) (ha : SE G X Z a ea) (hb : SE G X Z b eb) : SE G X Z (eIf c a b) (.IfExp ec ea eb pos) := .mk fun m h H σ τ Q R S P => by
  refine WE.of (pe_ifExp ptM peM peM) (hc m h H σ τ _ R S (PoE.ee P fun x h1 m1 H1 v1 e1 R1 r1 P1 => ?_))
  cases r1 <;> first | exact P1.elim | skip
  rename_i q
  cases q
  · exact ⟨false, rfl, iteF (hb m1 h1 H1 σ τ Q R1 (S.mono e1) P1)⟩
  · exact ⟨true, rfl, iteT (ha m1 h1 H1 σ τ Q R1 (S.mono e1) P1)⟩
/-! ### arguments, displays -/
def eNil : Ev := fun _ h => .vs [] h
def eCons (a r : Ev) : Ev := fun σ h => (a σ h).vb fun x h1 => (r σ h1).vsb fun xs h2 => .vs (x :: xs) h2
def eStar (a r : Ev) : Ev := fun σ h => (a σ h).vb fun x h1 => match x with
  | .tup xs => (r σ h1).vsb fun ys h2 => .vs (xs ++ ys) h2
  | .ref n => match h1[n]? with
    | some (.lst xs) => (r σ h1).vsb fun ys h2 => .vs (xs ++ ys) h2
    | _ => .no
  | _ => .no
theorem a_nil : SA G X Z eNil [] := .mk fun m h H σ τ Q R S P => WA.of pa_nil (P m H _ Ext.refl R .nil)
def notStar : Expr → Bool
  | .Starred .. => false
  | _ => true
theorem star_of {es : List Expr} {env : Env} (h : notStar ea = true) : starEach (ea :: es) env = (false, eval ea env) :: starEach es env := by
  cases ea <;> first | rfl | cases h
theorem a_cons {es : List Expr} {r : Ev} (ha : SE G X Z a ea) (hr : SA G X Z r es) (hs : notStar ea = true := by rfl) : SA G X Z (eCons a r) (ea :: es) := .mk fun m h H σ τ Q R S P => by
  refine WA.of (pa_cons peM paM (star_of hs)) (ha m h H σ τ _ R S (PoA.ea P fun x h1 m1 H1 v1 e1 R1 r1 P1 => ?_))
  refine hr m1 h1 H1 σ τ _ R1 (S.mono e1) (PoA.aa P1 fun y h2 m2 H2 v2 e2 R2 r2 P2 => ?_)
  exact P2 m2 H2 _ Ext.refl R2 (.cons (r1.mono e2) r2)
theorem a_star {es : List Expr} {r : Ev} {p : Pos} (F : Fit G X Z k) (ha : SE G X Z a ea) (hr : SA G X Z r es) (hs : starEach (.Starred ea p :: es) X.env = (true, eval ea X.env) :: starEach es X.env := by rfl) : SA G X Z (eStar a r) (.Starred ea p :: es) := .mk fun m h H σ τ Q R S P => by
  refine WA.of (StX.pa_star peM paM hs) (ha m h H σ τ _ R S (PoA.ea P fun x h1 m1 H1 v1 e1 R1 r1 P1 => ?_))
  cases r1 <;> first | exact P1.elim | skip
  · rename_i p' vs ws hp hv
    refine ⟨p', vs, rfl, .inl (F.K ▸ hp), ?_⟩
    refine hr m1 h1 H1 σ τ _ R1 (S.mono e1) (PoA.aa P1 fun y h2 m2 H2 v2 e2 R2 r2 P2 => ?_)
    exact P2 m2 H2 _ Ext.refl R2 ((hv.mono e2).append r2)
  · rename_i n hn
    simp only at P1
    split at P1
    · rename_i xs e
      obtain ⟨vs, hv, hw⟩ := R1.obj n _ e
      refine ⟨m1 n, vs, rfl, .inr (.inl (.inl hv)), ?_⟩
      refine hr m1 h1 H1 σ τ _ R1 (S.mono e1) (PoA.aa P1 fun y h2 m2 H2 v2 e2 R2 r2 P2 => ?_)
      exact P2 m2 H2 _ Ext.refl R2 ((hw.mono e2).append r2)
    · exact P1.elim
def eLst (r : Ev) : Ev := fun σ h => (r σ h).vsb fun ws h1 => if ws.length ≤ 16777216 then .v (.ref h1.length) (h1 ++ [.lst ws]) else .no
def eTup (r : Ev) : Ev := fun σ h => (r σ h).vsb fun ws h1 => if ws.length ≤ 16777216 then .v (.tup ws) h1 else .no
theorem s_lst {es : List Expr} {r : Ev} (hr : SA G X Z r es) : SE G X Z (eLst r) (.List es pos) := .mk fun m h H σ τ Q R S P => by
  refine WE.of (pe_lst paM) (hr m h H σ τ _ R S (PoE.ae P fun ws h1 m1 H1 vs e1 R1 r1 P1 => ?_))
  split at P1
  · rename_i q
    exact ⟨by rw [← r1.length, lineSz]; exact q, fun p hp => new_lst R1 hp r1 P1⟩
  · exact P1.elim
theorem s_tup {es : List Expr} {r : Ev} {x1} (hr : SA G X Z r es) : SE G X Z (eTup r) (.Tuple es x1 pos) := .mk fun m h H σ τ Q R S P => by
  refine WE.of (pe_tup paM) (hr m h H σ τ _ R S (PoE.ae P fun ws h1 m1 H1 vs e1 R1 r1 P1 => ?_))
  split at P1
  · rename_i q
    exact ⟨by rw [← r1.length, lineSz]; exact q, fun p hp => new_tup R1 hp r1 P1⟩
  · exact P1.elim
/-! ### a[i], a[i:j] -/
def WIx (X : Cx) : R2 := fun x y H Q => ∃ r, IxR X r ∧ r x y H Q
theorem ixM : IxR X (WIx X) := fun a b pins s σ H x y v u Q I rx ry h hs => let ⟨_, o, q⟩ := h; o a b pins s σ H x y v u Q I rx ry q hs
def ixW (ws : List W) (i : Int) (h : IH) : Out := match atI ws i with | some w => .v w h | none => .no
def oIx : W → W → IH → Out
  | .tup ws, .int i, h => ixW ws i h
  | .ref n, .int i, h => match h[n]? with
    | some (.lst ws) => ixW ws i h
    | some (.rol ws) => ixW ws i h
    | _ => .no
  | .str z, .int i, h => if z.length ≤ 16777216 then (match atI z.cps.toList i with | some q => .v (.str ⟨#[q]⟩) h | none => .no) else .no
  | _, _, _ => .no
theorem RWs.atI {m : Nat → Addr} {L : Nat} {H : Hp} {ws : List W} {vs : List V} {i : Int} {w : W} (r : RWs G.K G.cl m L H ws vs) (e : L2.atI ws i = some w) : ∃ v, L2.atI vs i = some v ∧ RW G.K G.cl m L H w v := by
  unfold L2.atI at e ⊢
  rw [r.length] at e
  cases q : ixN vs.length i with
  | none => rw [q] at e; cases e
  | some j =>
    rw [q] at e
    exact r.get e
theorem s_ix (F : Fit G X Z k) (ha : SE G X Z a ea) (hb : SE G X Z b eb) (hs : PlainIx eb := by exact fun _ _ => rfl) : SE G X Z (eBin oIx a b) (.Subscript ea eb pos) := .mk fun m h H σ τ Q R S P => by
  refine WE.of (pe_ix ixM peM peM hs) (ha m h H σ τ _ R S (PoE.ee P fun x h1 m1 H1 v1 e1 R1 r1 P1 => ?_))
  refine hb m1 h1 H1 σ τ _ R1 (S.mono e1) (PoE.ee P1 fun y h2 m2 H2 v2 e2 R2 r2 P2 => ?_)
  have r1' := r1.mono e2
  cases r1' <;> cases r2 <;> first | exact P2.elim | skip
  · rename_i z i
    simp only [oIx] at P2
    split at P2
    · rename_i q
      split at P2
      · rename_i d e
        exact ⟨_, ix_str, _, _, _, rfl, rfl, by rw [lineSz]; exact q, e, P2 m2 H2 _ Ext.refl R2 (.str _)⟩
      · exact P2.elim
    · exact P2.elim
  · rename_i p vs ws hp hv i
    simp only [oIx, ixW] at P2
    split at P2
    · rename_i w e
      obtain ⟨v, f, rv⟩ := hv.atI e
      exact ⟨_, ix_tup, p, vs, i, v, rfl, rfl, F.K ▸ hp, f, P2 m2 H2 _ Ext.refl R2 rv⟩
    · exact P2.elim
  · rename_i n hn i
    simp only [oIx] at P2
    split at P2
    · rename_i ws e
      obtain ⟨vs, hx, hv⟩ := R2.obj n _ e
      simp only [ixW] at P2
      split at P2
      · rename_i w e
        obtain ⟨v, f, rv⟩ := hv.atI e
        exact ⟨_, ix_list, m2 n, vs, i, v, rfl, rfl, .inl (.inl hx), f, P2 m2 H2 _ Ext.refl R2 rv⟩
      · exact P2.elim
    · rename_i ws e
      obtain ⟨vs, hx, hv⟩ := R2.obj n _ e
      simp only [ixW] at P2
      split at P2
      · rename_i w e
        obtain ⟨v, f, rv⟩ := (hv m2 h2.length H2).atI e
        exact ⟨_, ix_list, m2 n, vs, i, v, rfl, rfl, F.K ▸ rol_sq hx, f, P2 m2 H2 _ Ext.refl R2 rv⟩
      · exact P2.elim
    · exact P2.elim
def WPO (X : Cx) (e : Option Expr) : TO := fun σ H Q => ∀ (pins : List (Addr × Obj)) (s : Shared), Inv X pins σ H s → wpAny (model X.prog X.w) X.A (evalPart e X.env) (fun u s' => ∃ o H', Inv X pins σ H' s' ∧ IsPart u o ∧ Q o H') X.xe s
theorem poM' {e : Option Expr} : PO X e (WPO X e) := ⟨fun pins s _ _ _ I h => h pins s I⟩
def W.part : W → Option (Option Int)
  | .non => some none
  | .int i => some (some i)
  | _ => none
def partQ (Q : Option Int → Hp → Prop) : VK := fun v H => ∃ o, (v = .non ∧ o = none ∨ ∃ i, v = .int i ∧ o = some i) ∧ Q o H
structure SPO (G : Cfg) (X : Cx) (Z : WX) (c : Ev) (e : Option Expr) : Prop where
  go : ∀ m h H σ τ Q, Rep G.K G.cl m h H → RSt G m h.length H σ τ → PoE G m h.length H Z (partQ Q) (c σ h) → WPO X e τ H Q
instance {G : Cfg} {X : Cx} {Z : WX} {c : Ev} {e : Option Expr} : CoeFun (SPO G X Z c e) (fun _ => ∀ m h H σ τ Q, Rep G.K G.cl m h H → RSt G m h.length H σ τ → PoE G m h.length H Z (partQ Q) (c σ h) → WPO X e τ H Q) := ⟨SPO.go⟩
theorem o_none : SPO G X Z (eK .non) none := .mk fun m h H σ τ Q R S P pins s I => by
  obtain ⟨o, h1, q⟩ := P m H .non Ext.refl R .non
  rcases h1 with ⟨_, rfl⟩ | ⟨i, e, _⟩
  · exact (po_none (X := X)).run pins s τ H Q I q
  · cases e
def eInt (a : Ev) : Ev := fun σ h => (a σ h).vb fun x h1 => match x with | .int i => .v (.int i) h1 | _ => .no
theorem o_some (ha : SE G X Z a ea) : SPO G X Z (eInt a) (some ea) := .mk fun m h H σ τ Q R S P pins s I => by
  refine (po_some (X := X) peM).run pins s τ H Q I (ha m h H σ τ _ R S (PoE.ee P fun x h1 m1 H1 v1 e1 R1 r1 P1 => ?_))
  cases r1 <;> first | exact P1.elim | skip
  obtain ⟨o, h1, q⟩ := P1 m1 H1 _ Ext.refl R1 (.int _)
  rcases h1 with ⟨e, _⟩ | ⟨i, e, rfl⟩
  · cases e
  · cases e; exact ⟨_, rfl, q⟩
def WSl (X : Cx) : V → Option Int → Option Int → Hp → VK → Prop := fun x lo hi H Q => ∃ r, SlR X r ∧ r x lo hi H Q
theorem slM : L2.SlR X (WSl X) := fun pins s σ H x v vl vu lo hi sl Q I rx hs pl pu h => let ⟨_, o, q⟩ := h; o pins s σ H x v vl vu lo hi sl Q I rx hs pl pu q
def cutW (ws : List W) (lo hi : Option Int) : List W := (ws.drop (HT.sIx ws.length 0 lo)).take (HT.sIx ws.length ws.length hi - HT.sIx ws.length 0 lo)
def oSl (x : W) (lo hi : Option Int) (h : IH) : Out := match x with
  | .str z => if z.length ≤ 16777216 then .v (.str (cutS z lo hi)) h else .no
  | .tup ws => .v (.tup (cutW ws lo hi)) h
  | .ref n => (match h[n]? with
    | some (.lst ws) => .v (.ref h.length) (h ++ [.lst (cutW ws lo hi)])
    | some (.rol ws) => .v (.ref h.length) (h ++ [.lst (cutW ws lo hi)])
    | _ => .no)
  | _ => .no
def pm (f : Option Int → IH → Out) (y : W) (h : IH) : Out := match y.part with | some p => f p h | none => .no
def Out.pb (o : Out) (f : Option Int → IH → Out) : Out := o.vb (pm f)
def eSl (a l u : Ev) : Ev := fun σ h => (a σ h).vb fun x h1 => (l σ h1).pb fun lo h2 => (u σ h2).pb fun hi h3 => oSl x lo hi h3
theorem RWs.cut {m : Nat → Addr} {L : Nat} {H : Hp} {ws : List W} {vs : List V} (r : RWs G.K G.cl m L H ws vs) (lo hi : Option Int) : RWs G.K G.cl m L H (cutW ws lo hi) (cutV vs lo hi) := by
  unfold cutW cutV
  rw [r.length]
  exact (r.drop _).take _
theorem part_q {m : Nat → Addr} {L : Nat} {H : Hp} {y : W} {v : V} {Q : VK} {R : Option Int → Hp → Prop} {f : Option Int → IH → Out} {h : IH} (r : RW G.K G.cl m L H y v)
    (P : PoE G m L H Z Q (pm f y h)) (k : ∀ o, PoE G m L H Z Q (f o h) → R o H) : partQ R v H := by
  cases r <;> first
    | exact ⟨_, .inl ⟨rfl, rfl⟩, k _ P⟩
    | exact ⟨_, .inr ⟨_, rfl, rfl⟩, k _ P⟩
    | exact P.elim
theorem so_sl (F : Fit G X Z k) : ∀ m h H x vx lo hi Q, Rep G.K G.cl m h H → RW G.K G.cl m h.length H x vx → PoE G m h.length H Z Q (oSl x lo hi h) → WSl X vx lo hi H Q := fun m h H x vx lo hi Q R rx P => by
  cases rx <;> first | exact P.elim | skip
  · simp only [oSl] at P
    split at P
    · rename_i q
      exact ⟨_, sl_str, _, rfl, by rw [lineSz]; exact q, P m H _ Ext.refl R (.str _)⟩
    · exact P.elim
  · rename_i p vs ws hp hv
    refine ⟨_, sl_tupA, p, vs, rfl, F.K ▸ hp, fun q => ?_, fun _ r hr => new_tup R hr (hv.cut lo hi) P⟩
    have e : cutW ws lo hi = ws := by
      unfold cutW
      rw [hv.length, q.1, q.2, List.drop_zero, Nat.sub_zero, ← hv.length, List.take_length]
    have P' : ∀ m' H' v, Ext G.K m h.length H m' h.length H' → Rep G.K G.cl m' h H' → RW G.K G.cl m' h.length H' (.tup (cutW ws lo hi)) v → Q v H' := P
    rw [e] at P'
    exact P' m H _ Ext.refl R (.tup hp hv)
  · rename_i n hn
    simp only [oSl] at P
    split at P
    · rename_i ws e
      obtain ⟨vs, hx, hv⟩ := R.obj n _ e
      exact ⟨_, sl_list, m n, vs, rfl, .inl (.inl hx), fun p hp => new_lst R hp (hv.cut lo hi) P⟩
    · rename_i ws e
      obtain ⟨vs, hx, hv⟩ := R.obj n _ e
      exact ⟨_, sl_list, m n, vs, rfl, F.K ▸ rol_sq hx, fun p hp => new_lst R hp ((hv m h.length H).cut lo hi) P⟩
    · exact P.elim
theorem s_sl {l u : Ev} {lo hi : Option Expr} {p2 : Pos} (F : Fit G X Z k) (ha : SE G X Z a ea) (hl : SPO G X Z l lo) (hu : SPO G X Z u hi) : SE G X Z (eSl a l u) (.Subscript ea (.Slice lo hi none p2) pos) := .mk fun m h H σ τ Q R S P => by
  refine WE.of (pe_slice slM peM poM' poM') (ha m h H σ τ _ R S (PoE.ee P fun x h1 m1 H1 v1 e1 R1 r1 P1 => ?_))
  refine hl m1 h1 H1 σ τ _ R1 (S.mono e1) (PoE.ee P1 fun y h2 m2 H2 v2 e2 R2 r2 P2 => part_q r2 P2 fun lo P2 => ?_)
  refine hu m2 h2 H2 σ τ _ R2 ((S.mono e1).mono e2) (PoE.ee P2 fun z h3 m3 H3 v3 e3 R3 r3 P3 => part_q r3 P3 fun hi P3 => ?_)
  exact so_sl F m3 h3 H3 x v1 lo hi Q R3 ((r1.mono e2).mono e3) P3
end
end Dr
namespace Dr
open PySem L2

section
variable {G : Cfg} {X : Cx} {Z : WX} {k : Nat} {a b c : Ev} {ea eb ec : Expr} {pos : Pos} {st : Stmt} {sts sts' : List Stmt}
/-! ### plain statements -/
def eEnd : Ev := fun σ h => .nx σ h
def eSeq (a b : Ev) : Ev := fun σ h => (a σ h).nb b
def eDrop (a : Ev) : Ev := fun σ h => (a σ h).vb fun _ h1 => .nx σ h1
def eRet (a : Ev) : Ev := fun σ h => (a σ h).vb fun w h1 => .rt w h1
def eRetN : Ev := fun σ h => .rt .non h
def eBrk : Ev := fun σ h => .bk σ h
def eCnt : Ev := fun σ h => .ct σ h
def eIfS (c a b : Ev) : Ev := fun σ h => (c σ h).vb fun x h1 => match x with | .bl true => a σ h1 | .bl false => b σ h1 | _ => .no
theorem b_end : SB G X Z eEnd [] := .mk fun m h H σ τ D R S P => WB.of pss_nil (P m H τ Ext.refl R S)
theorem b_cons (h1 : SS G X Z a st) (h2 : SB G X Z b sts) : SB G X Z (eSeq a b) (st :: sts) := .mk fun m h H σ τ D R S P => by
  refine WB.of (pss_cons psM pbM) (h1 m h H σ τ _ R S (PoS.ss P fun s h1 m1 H1 τ1 e1 R1 S1 P1 => ?_))
  exact h2 m1 h1 H1 s τ1 D R1 S1 P1
theorem b_one (h1 : SS G X Z a st) : SB G X Z a [st] := .mk fun m h H σ τ D R S P => WB.of (pss_one psM) (h1 m h H σ τ D R S P)
theorem v_pass : SS G X Z eEnd (.Pass pos) := .mk fun m h H σ τ D R S P => WS.of ps_pass (P m H τ Ext.refl R S)
theorem v_brk : SS G X Z eBrk (.Break pos) := .mk fun m h H σ τ D R S P => WS.of ps_break (P m H τ Ext.refl R S)
theorem v_cnt : SS G X Z eCnt (.Continue pos) := .mk fun m h H σ τ D R S P => WS.of ps_continue (P m H τ Ext.refl R S)
theorem v_drop (ha : SE G X Z a ea) (hs : swapsWith ea none pos.line X.env = pure false := by rfl) : SS G X Z (eDrop a) (.Expr ea pos) := .mk fun m h H σ τ D R S P => by
  refine WS.of (ps_expr peM hs) (ha m h H σ τ _ R S (PoS.es P fun w h1 m1 H1 v1 e1 R1 r1 P1 => ?_))
  exact P1 m1 H1 τ Ext.refl R1 (S.mono e1)
theorem v_ret (ha : SE G X Z a ea) : SS G X Z (eRet a) (.Return (some ea) pos) := .mk fun m h H σ τ D R S P => by
  refine WS.of (ps_ret peM) (ha m h H σ τ _ R S (PoS.es P fun w h1 m1 H1 v1 e1 R1 r1 P1 => ?_))
  exact P1 m1 H1 v1 Ext.refl R1 r1
theorem v_retN : SS G X Z eRetN (.Return none pos) := .mk fun m h H σ τ D R S P => WS.of ps_retN (P m H _ Ext.refl R .non)
theorem v_if (hc : ST G X Z c ec) (ha : SB G X Z a sts) (hb : SB G X Z b sts') : SS G X Z (eIfS c a b) (.If ec sts sts' pos) := .mk fun m h H σ τ D R S P => by
  refine WS.of (ps_if ptM pbM pbM) (hc m h H σ τ _ R S (PoS.es P fun x h1 m1 H1 v1 e1 R1 r1 P1 => ?_))
  cases r1 <;> first | exact P1.elim | skip
  rename_i q
  cases q
  · exact ⟨false, rfl, iteF (hb m1 h1 H1 σ τ D R1 (S.mono e1) P1)⟩
  · exact ⟨true, rfl, iteT (ha m1 h1 H1 σ τ D R1 (S.mono e1) P1)⟩
/-! ### targets -/
def WG (X : Cx) (tg : Expr) : TG := fun v σ H Q => ∀ (pins : List (Addr × Obj)) (s : Shared) (u : Value), Inv X pins σ H s → RelV v u → wpAny (model X.prog X.w) X.A (assign tg X.env u) (fun _ s' => ∃ σ' H', Inv X pins σ' H' s' ∧ Q σ' H') X.xe s
theorem pgM {tg : Expr} : PG X tg (WG X tg) := ⟨fun pins s _ _ _ u _ I r h => h pins s u I r⟩
theorem WG.of {tg : Expr} {t : TG} {v : V} {σ : St} {H : Hp} {Q : St → Hp → Prop} (p : PG X tg t) (h : t v σ H Q) : WG X tg v σ H Q := fun pins s u I r => p.run pins s σ H v u Q I r h
abbrev Tg := W → Sg → Option Sg
def SG (G : Cfg) (X : Cx) (g : Tg) (tg : Expr) : Prop := ∀ m h H w v σ τ σ' Q, Rep G.K G.cl m h H → RW G.K G.cl m h.length H w v → RSt G m h.length H σ τ → g w σ = some σ' → (∀ τ', RSt G m h.length H σ' τ' → Q τ' H) → WG X tg v τ H Q
def gN (i : Nat) : Tg := fun w σ => some (σ.set i (some w))
def gs : List Nat → List W → Sg → Option Sg
  | [], [], σ => some σ
  | i :: is, w :: ws, σ => gs is ws (σ.set i (some w))
  | _, _, _ => none
def gT (is : List Nat) : Tg := fun w σ => match w with | .tup ws => gs is ws σ | _ => none
theorem g_name (i : Nat) {x : Str} (hN : X.N.Nodup) (hi : X.N[i]? = some x := by rfl) (hx : Loc X.env.scope x := by first | exact Or.inl rfl | exact Or.inr rfl) (hf : X.fn x = true ∨ X.env.scope.names.lookup x = some .local := by first | exact .inl rfl | exact .inr rfl) : SG G X (gN i) (.Name x pos) :=
  fun m h H w v σ τ σ' Q R r S e q => by
    cases e
    exact WG.of (pg_name hN hi hx hf) (q _ (S.set i r))
def SGs (G : Cfg) (X : Cx) (is : List Nat) (tgs : List Expr) : Prop := ∃ t, PGs X tgs t ∧ tgs.length = is.length ∧ ∀ m h H ws vs σ τ σ' Q, Rep G.K G.cl m h H → RWs G.K G.cl m h.length H ws vs → RSt G m h.length H σ τ → gs is ws σ = some σ' → (∀ τ', RSt G m h.length H σ' τ' → Q τ' H) → t vs τ H Q
theorem gs_nil : SGs G X [] [] := ⟨_, pgs_nil, rfl, fun m h H ws vs σ τ σ' Q R r S e q => by
  cases r with
  | nil => cases e; exact ⟨rfl, q _ S⟩
  | cons _ _ => cases e⟩
theorem gs_cons (i : Nat) {is : List Nat} {tgs : List Expr} {x : Str} (h2 : SGs G X is tgs) (hN : X.N.Nodup) (hi : X.N[i]? = some x := by rfl) (hx : Loc X.env.scope x := by first | exact Or.inl rfl | exact Or.inr rfl) (hf : X.fn x = true ∨ X.env.scope.names.lookup x = some .local := by first | exact .inl rfl | exact .inr rfl)
    (hs : (assignEach (.Name x pos :: tgs) X.env).map (·.2) = assign (.Name x pos) X.env :: (assignEach tgs X.env).map (·.2) := by rfl) : SGs G X (i :: is) (.Name x pos :: tgs) := by
  obtain ⟨t, p, hl, h2⟩ := h2
  refine ⟨_, pgs_cons (pg_name hN hi hx hf) p hs, by simp [hl], fun m h H ws vs σ τ σ' Q R r S e q => ?_⟩
  cases r with
  | nil => cases e
  | cons r1 r2 => exact ⟨_, _, rfl, h2 m h H _ _ _ _ σ' Q R r2 (S.set i r1) e q⟩
theorem g_tup {is : List Nat} {tgs : List Expr} {k' : Nat} (F : Fit G X Z k) (h : SGs G X is tgs) (hn : (assignEach tgs X.env).length = is.length := by rfl) (hst : (assignEach tgs X.env).findIdx? (·.1) = none := by rfl) : SG G X (gT is) (.Tuple tgs k' pos) := by
  obtain ⟨t, p, hl, h2⟩ := h
  refine fun m h H w v σ τ σ' Q R r S e q => WG.of (pg_tup F.calm p hn hst) ?_
  have len : ∀ (is : List Nat) (ws : List W) (σ σ' : Sg), gs is ws σ = some σ' → ws.length = is.length := by
    intro is
    induction is with
    | nil => intro ws σ σ' e; cases ws with | nil => rfl | cons _ _ => cases e
    | cons i is ih => intro ws σ σ' e; cases ws with | nil => cases e | cons w ws => simp [ih ws _ _ e]
  cases r <;> first | (cases e; done) | skip
  rename_i p' vs ws hp hv
  exact ⟨p', vs, rfl, F.K ▸ hp, by rw [← hv.length]; exact len _ _ _ _ e, h2 m h H ws vs σ τ σ' Q R hv S e q⟩
def eAsg (g : Tg) (a : Ev) : Ev := fun σ h => (a σ h).vb fun w h1 => match g w σ with | some σ' => .nx σ' h1 | none => .no
theorem v_set (i : Nat) {x : Str} {pos' : Pos} (ha : SE G X Z a ea) (hN : X.N.Nodup) (hi : X.N[i]? = some x := by rfl) (hx : Loc X.env.scope x := by first | exact Or.inl rfl | exact Or.inr rfl) (hs : swapsWith ea (some (.Name x pos')) pos.line X.env = pure false := by rfl)
    (hf : X.fn x = true ∨ X.env.scope.names.lookup x = some .local := by first | exact .inl rfl | exact .inr rfl) : SS G X Z (eAsg (gN i) a) (.Assign [.Name x pos'] ea pos) := .mk fun m h H σ τ D R S P => by
  refine WS.of (ps_set hN hi hx peM hs hf) (ha m h H σ τ _ R S (PoS.es P fun w h1 m1 H1 v1 e1 R1 r1 P1 => ?_))
  exact P1 m1 H1 _ Ext.refl R1 ((S.mono e1).set i r1)
theorem v_asg {g : Tg} {tg : Expr} (ha : SE G X Z a ea) (hg : SG G X g tg) (hs : swapsWithSole [tg] ea pos.line X.env = pure false := by rfl) (hw : swappedStores [tg] ea X.env = pure none := by rfl)
    (h1 : (assignEach [tg] X.env).map (·.2) = [assign tg X.env] := by rfl) : SS G X Z (eAsg g a) (.Assign [tg] ea pos) := .mk fun m h H σ τ D R S P => by
  refine WS.of (ps_asg peM pgM hs hw h1) (ha m h H σ τ _ R S (PoS.es P fun w h1 m1 H1 v1 e1 R1 r1 P1 => ?_))
  split at P1
  · rename_i σ' e
    exact hg m1 h1 H1 w v1 σ τ σ' _ R1 r1 (S.mono e1) e fun τ' S' => P1 m1 H1 τ' Ext.refl R1 S'
  · exact P1.elim
/-- x += e -/
def eAug (i : Nat) (g : W → W → IH → Out) (a : Ev) : Ev := fun σ h => match σ[i]? with
  | some (some x) => (a σ h).vb fun y h1 => (g x y h1).vb fun z h2 => .nx (σ.set i (some z)) h2
  | _ => .no
def oAddI : W → W → IH → Out
  | .int i, .int j, h => .v (.int (i + j)) h
  | _, _, _ => .no
theorem v_augI (i : Nat) {x : Str} {pos' : Pos} (ha : SE G X Z a ea) (hN : X.N.Nodup) (hi : X.N[i]? = some x := by rfl) (hx : Loc X.env.scope x := by first | exact Or.inl rfl | exact Or.inr rfl)
    (hf : X.fn x = true ∨ X.env.scope.names.lookup x = some .local := by first | exact .inl rfl | exact .inr rfl) : SS G X Z (eAug i oAddI a) (.AugAssign (.Name x pos') .Add ea pos) := .mk fun m h H σ τ D R S P => by
  refine WS.of (ps_aug hN hi hx peM ip_add hf) ?_
  unfold eAug at P
  cases e : σ[i]? with
  | none => rw [e] at P; exact P.elim
  | some o =>
    cases o with
    | none => rw [e] at P; exact P.elim
    | some w =>
      rw [e] at P
      obtain ⟨v, h1, h2⟩ := S.get i w e
      refine ⟨v, h1, ha m h H σ τ _ R S (PoS.es P fun y h1 m1 H1 v1 e1 R1 r1 P1 => ?_)⟩
      have h2' := h2.mono e1
      cases h2' <;> cases r1 <;> first | exact P1.elim | skip
      exact ⟨_, _, rfl, rfl, P1 m1 H1 _ Ext.refl R1 ((S.mono e1).set i (.int _))⟩
/-! ### while -/
def eWhl (c b : Ev) : Nat → Ev
  | 0 => fun _ _ => .no
  | n + 1 => fun σ h => (c σ h).vb fun x h1 => match x with
    | .bl false => .nx σ h1
    | .bl true => (match b σ h1 with
      | .nx s h2 => eWhl c b n s h2
      | .ct s h2 => eWhl c b n s h2
      | .bk s h2 => .nx s h2
      | .rt w h2 => .rt w h2
      | .ex c w s h2 => .ex c w s h2
      | _ => .no)
    | _ => .no
theorem v_while (n : Nat) (F : Fit G X Z k) (hc : ST G X Z c ec) (hb : SB G X Z b sts) : SS G X Z (eWhl c b n) (.While ec sts [] pos) := .mk fun m h H σ τ D R S P => by
  refine WS.of (ps_while F.own ptM pbM) ⟨fun n τ H => ∃ m h σ, Rep G.K G.cl m h H ∧ RSt G m h.length H σ τ ∧ PoS G m h.length H Z D (eWhl c b n σ h), ⟨n, m, h, σ, R, S, P⟩, ?_⟩
  rintro n τ H ⟨m, h, σ, R, S, P⟩
  cases n with
  | zero => exact P.elim
  | succ n =>
    refine hc m h H σ τ _ R S (PoS.es P fun x h1 m1 H1 v1 e1 R1 r1 P1 => ?_)
    cases r1 <;> first | exact P1.elim | skip
    rename_i q
    cases q
    · exact ⟨false, rfl, iteF (P1 m1 H1 τ Ext.refl R1 (S.mono e1))⟩
    · refine ⟨true, rfl, iteT ⟨fun τ' H' => ∃ m h σ, Rep G.K G.cl m h H' ∧ RSt G m h.length H' σ τ' ∧ PoS G m h.length H' Z D (eWhl c b n σ h), fun τ' H' z => ⟨n, Nat.lt_succ_self _, z⟩, ?_⟩⟩
      refine hb m1 h1 H1 σ τ _ R1 (S.mono e1) ?_
      simp only at P1
      cases e : b σ h1 with
      | nx s h2 => rw [e] at P1; exact fun m' H' τ' e' R' S' => ⟨m', h2, s, R', S', PoS.later e' P1⟩
      | ct s h2 => rw [e] at P1; exact fun m' H' τ' e' R' S' => ⟨m', h2, s, R', S', PoS.later e' P1⟩
      | bk s h2 => rw [e] at P1; exact P1
      | rt w h2 => rw [e] at P1; exact P1
      | ex c w s h2 => rw [e] at P1; exact P1
      | v w h2 => rw [e] at P1; exact P1
      | vs w h2 => rw [e] at P1; exact P1
      | no => rw [e] at P1; exact P1
/-! ### for -/
abbrev ItW := Nat → IH → Option (Option W)
inductive OutI where
  | it (J : ItW) (h : IH) | ex (c : Nat) (w : W) (s : Sg) (h : IH) | no
abbrev EvI := Sg → IH → OutI
def RJ (G : Cfg) (m0 : Nat → Addr) (L0 : Nat) (H0 : Hp) (J : ItW) (I : It) : Prop := ∀ i m h H, Ext G.K m0 L0 H0 m h.length H → Rep G.K G.cl m h H →
  match J i h with
  | none => True
  | some none => I.stop i H
  | some (some w) => I.go i H ∧ ∀ x H', I.yld i H x H' → ∃ m', Ext G.K m h.length H m' h.length H' ∧ Rep G.K G.cl m' h H' ∧ RW G.K G.cl m' h.length H' w x
def PoI (G : Cfg) (m : Nat → Addr) (L : Nat) (H : Hp) (Z : WX) (Q : It → Hp → Prop) : OutI → Prop
  | .it J h' => ∀ m' H' I, Ext G.K m L H m' h'.length H' → Rep G.K G.cl m' h' H' → RJ G m' h'.length H' J I → Q I H'
  | .ex c w s h' => PoX G m L H Z c w s h'
  | .no => False
def WI (X : Cx) (tg iter : Expr) : TI := fun σ H R => ∀ (pins : List (Addr × Obj)) (s : Shared), Inv X pins σ H s → wpAny (model X.prog X.w) X.A (eval iter X.env) (fun v s1 => wpAny (model X.prog X.w) X.A (pyIter v) (PIE X pins σ tg R) X.xe s1) X.xe s
theorem piM {tg iter : Expr} : PI X tg iter (WI X tg iter) := ⟨fun pins s _ _ _ I h => h pins s I⟩
theorem WI.of {tg iter : Expr} {t : TI} {σ : St} {H : Hp} {Q : It → Hp → Prop} (p : PI X tg iter t) (h : t σ H Q) : WI X tg iter σ H Q := fun pins s I => p.run pins s σ H Q I h
structure SI (G : Cfg) (X : Cx) (Z : WX) (c : EvI) (tg iter : Expr) : Prop where
  go : ∀ m h H σ τ Q, Rep G.K G.cl m h H → RSt G m h.length H σ τ → PoI G m h.length H Z Q (c σ h) → WI X tg iter τ H Q
instance {G : Cfg} {X : Cx} {Z : WX} {c : EvI} {tg iter : Expr} : CoeFun (SI G X Z c tg iter) (fun _ => ∀ m h H σ τ Q, Rep G.K G.cl m h H → RSt G m h.length H σ τ → PoI G m h.length H Z Q (c σ h) → WI X tg iter τ H Q) := ⟨SI.go⟩
def forL (J : ItW) (g : Tg) (b : Ev) : Nat → Nat → Ev
  | 0, _ => fun _ _ => .no
  | n + 1, i => fun σ h => match J i h with
    | none => .no
    | some none => .nx σ h
    | some (some w) => match g w σ with
      | none => .no
      | some σ' => (match b σ' h with
        | .nx s h2 => forL J g b n (i + 1) s h2
        | .ct s h2 => forL J g b n (i + 1) s h2
        | .bk s h2 => .nx s h2
        | .rt w h2 => .rt w h2
        | .ex c w s h2 => .ex c w s h2
        | _ => .no)
def eFor (n : Nat) (it : EvI) (g : Tg) (b : Ev) : Ev := fun σ h => match it σ h with
  | .it J h1 => forL J g b n 0 σ h1
  | .ex c w s h => .ex c w s h
  | .no => .no
theorem v_for (n : Nat) {it : EvI} {g : Tg} {tg iter : Expr} (F : Fit G X Z k) (hi : SI G X Z it tg iter) (hg : SG G X g tg) (hb : SB G X Z b sts) (hs : ∀ x, foldedSetIterable iter X.env x = pure x := by intro _; rfl) : SS G X Z (eFor n it g b) (.For tg iter sts [] pos) := .mk fun m h H σ τ D R S P => by
  refine WS.of (ps_for F.own F.calm piM pgM pbM hs) (hi m h H σ τ _ R S ?_)
  unfold eFor at P
  cases e : it σ h with
  | no => rw [e] at P; exact P
  | ex c w s h => rw [e] at P; exact P
  | it J h1 =>
    rw [e] at P
    intro m1 H1 I e1 R1 J1
    refine ⟨fun i n τ H => ∃ m h σ, Ext G.K m1 h1.length H1 m h.length H ∧ Rep G.K G.cl m h H ∧ RSt G m h.length H σ τ ∧ PoS G m h.length H Z D (forL J g b n i σ h), ⟨n, m1, h1, σ, Ext.refl, R1, S.mono e1, PoS.later e1 P⟩, ?_⟩
    rintro i n τ H ⟨m, h, σ, e2, R, S, P⟩
    cases n with
    | zero => exact P.elim
    | succ n =>
      have j := J1 i m h H e2 R
      unfold forL at P
      cases e3 : J i h with
      | none => rw [e3] at P; exact P.elim
      | some o =>
        rw [e3] at P j
        cases o with
        | none => exact .inl ⟨j, P m H τ Ext.refl R S⟩
        | some w =>
          refine .inr ⟨j.1, fun τ' H' => ∃ m h σ, Ext G.K m1 h1.length H1 m h.length H' ∧ Rep G.K G.cl m h H' ∧ RSt G m h.length H' σ τ' ∧ PoS G m h.length H' Z D (forL J g b n (i + 1) σ h), fun τ' H' z => ⟨n, Nat.lt_succ_self _, z⟩, fun x H' y => ?_⟩
          obtain ⟨m', e4, R4, r4⟩ := j.2 x H' y
          simp only at P
          cases e5 : g w σ with
          | none => rw [e5] at P; exact P.elim
          | some σ' =>
            rw [e5] at P
            refine hg m' h H' w x σ τ σ' _ R4 r4 (S.mono e4) e5 fun τ' S' => ?_
            refine hb m' h H' σ' τ' _ R4 S' ?_
            simp only at P
            have e24 := e2.trans e4
            cases e : b σ' h with
            | nx s h2 => rw [e] at P; exact fun m' H' τ' e' R' S' => ⟨m', h2, s, e24.trans e', R', S', PoS.later (e4.trans e') P⟩
            | ct s h2 => rw [e] at P; exact fun m' H' τ' e' R' S' => ⟨m', h2, s, e24.trans e', R', S', PoS.later (e4.trans e') P⟩
            | bk s h2 => rw [e] at P; exact PoS.later (Z := Z) (D := { D with bk := D.nx }) (o := .bk s h2) e4 P
            | rt w h2 => rw [e] at P; exact PoS.later (D := D) (o := .rt w h2) e4 P
            | ex c w s h2 => rw [e] at P; exact PoS.later (D := D) (o := .ex c w s h2) e4 P
            | v w h2 => rw [e] at P; exact P
            | vs w h2 => rw [e] at P; exact P
            | no => rw [e] at P; exact P
end
end Dr
namespace Dr
open PySem L2

section
variable {G : Cfg} {X : Cx} {Z : WX} {k : Nat} {a b c : Ev} {ea eb ec : Expr} {pos : Pos} {st : Stmt} {sts sts' : List Stmt} {tg : Expr}
/-! ### what is walked -/
def OutI.of (o : Out) (f : W → IH → OutI) : OutI := match o with
  | .v w h => f w h
  | .ex c w s h => .ex c w s h
  | _ => .no
def OutI.ofs (o : Out) (f : List W → IH → OutI) : OutI := match o with
  | .vs w h => f w h
  | .ex c w s h => .ex c w s h
  | _ => .no
theorem PoI.later {m m1 : Nat → Addr} {L L1 : Nat} {H H1 : Hp} {Q : It → Hp → Prop} {o : OutI} (e : Ext G.K m L H m1 L1 H1) (p : PoI G m L H Z Q o) : PoI G m1 L1 H1 Z Q o := by
  cases o <;> first | exact p | exact PoX.later e p | exact fun m' H' v e' => p m' H' v (e.trans e')
theorem PoI.ei {m : Nat → Addr} {L : Nat} {H : Hp} {Q : It → Hp → Prop} {Q' : VK} {o : Out} {f : W → IH → OutI} (p : PoI G m L H Z Q (OutI.of o f))
    (k : ∀ w h1 m1 H1 v, Ext G.K m L H m1 h1.length H1 → Rep G.K G.cl m1 h1 H1 → RW G.K G.cl m1 h1.length H1 w v → PoI G m1 h1.length H1 Z Q (f w h1) → Q' v H1) : PoE G m L H Z Q' o := by
  cases o <;> first | exact p | exact fun m1 H1 v e r x => k _ _ m1 H1 v e r x (PoI.later e p)
theorem PoI.ai {m : Nat → Addr} {L : Nat} {H : Hp} {Q : It → Hp → Prop} {Q' : List V → Hp → Prop} {o : Out} {f : List W → IH → OutI} (p : PoI G m L H Z Q (OutI.ofs o f))
    (k : ∀ w h1 m1 H1 v, Ext G.K m L H m1 h1.length H1 → Rep G.K G.cl m1 h1 H1 → RWs G.K G.cl m1 h1.length H1 w v → PoI G m1 h1.length H1 Z Q (f w h1) → Q' v H1) : PoA G m L H Z Q' o := by
  cases o <;> first | exact p | exact fun m1 H1 v e r x => k _ _ m1 H1 v e r x (PoI.later e p)
def nxt (ws : List W) (i : Nat) : Option (Option W) := some ws[i]?
def lstAt (h : IH) (n : Nat) : Option (List W) := match h[n]? with
  | some (.lst ws) => some ws
  | some (.rol ws) => some ws
  | _ => none
theorem lstAt_of {m : Nat → Addr} {h : IH} {H : Hp} {n : Nat} {ws : List W} (R : Rep G.K G.cl m h H) (e : lstAt h n = some ws) : ∃ vs, SqL G.K H (m n) vs ∧ RWs G.K G.cl m h.length H ws vs := by
  unfold lstAt at e
  split at e
  · rename_i ws' q
    cases e
    obtain ⟨vs, hx, hv⟩ := R.obj n _ q
    exact ⟨vs, .inl (.inl hx), hv⟩
  · rename_i ws' q
    cases e
    obtain ⟨vs, hx, hv⟩ := R.obj n _ q
    exact ⟨vs, rol_sq hx, hv _ _ _⟩
  · cases e
def jL (n : Nat) : ItW := fun i h => match lstAt h n with | some ws => some ws[i]? | none => none
def jT (ws : List W) : ItW := fun i _ => some ws[i]?
def jR (lo : Int) (n : Nat) : ItW := fun i _ => if i < n then some (some (.int (lo + i))) else some none
def jS (z : Str) : ItW := fun i _ => match z.cps[i]? with | some c => some (some (.str ⟨#[c]⟩)) | none => some none
def jE (n : Nat) : ItW := fun i h => match lstAt h n with | some ws => (match ws[i]? with | some w => some (some (.tup [.int (i : Nat), w])) | none => some none) | none => none
def jV (n len : Nat) : ItW := fun i h => if i < len then (match lstAt h n with | some ws => (match ws[len - 1 - i]? with | some w => some (some w) | none => none) | none => none) else some none
def iL (a : Ev) : EvI := fun σ h => .of (a σ h) fun w h1 => match w with | .ref n => (match lstAt h1 n with | some _ => .it (jL n) h1 | none => .no) | _ => .no
def iT (a : Ev) : EvI := fun σ h => .of (a σ h) fun w h1 => match w with | .tup ws => .it (jT ws) h1 | _ => .no
def iS (a : Ev) : EvI := fun σ h => .of (a σ h) fun w h1 => match w with | .str z => .it (jS z) h1 | _ => .no
def iR1 (r : Ev) : EvI := fun σ h => .ofs (r σ h) fun ws h1 => match ws with | [.int j] => if -(2 ^ 62) ≤ j ∧ j < 2 ^ 62 then .it (jR 0 j.toNat) h1 else .no | _ => .no
def iR2 (r : Ev) : EvI := fun σ h => .ofs (r σ h) fun ws h1 => match ws with | [.int i, .int j] => if -(2 ^ 62) ≤ i ∧ i < 2 ^ 62 ∧ -(2 ^ 62) ≤ j ∧ j < 2 ^ 62 then .it (jR i (j - i).toNat) h1 else .no | _ => .no
def iE (r : Ev) : EvI := fun σ h => .ofs (r σ h) fun ws h1 => match ws with | [.ref n] => (match lstAt h1 n with | some _ => .it (jE n) h1 | none => .no) | _ => .no
def iV (r : Ev) : EvI := fun σ h => .ofs (r σ h) fun ws h1 => match ws with | [.ref n] => (match lstAt h1 n with | some ws => .it (jV n ws.length) h1 | none => .no) | _ => .no
theorem rj_list {m : Nat → Addr} {h : IH} {H : Hp} {n : Nat} (hn : n < h.length) : RJ G m h.length H (jL n) (Itl G.K (m n)) := by
  intro i m1 h1 H1 e1 R1
  have em : m1 n = m n := e1.eq n hn
  unfold jL
  cases e : lstAt h1 n with
  | none => trivial
  | some ws =>
    obtain ⟨vs, hx, hv⟩ := lstAt_of R1 e
    rw [em] at hx
    simp only
    cases q : ws[i]? with
    | none => exact ⟨vs, hx, by rw [← hv.length]; exact List.getElem?_eq_none_iff.mp q⟩
    | some w =>
      obtain ⟨v, hv1, r1⟩ := hv.get q
      refine ⟨⟨vs, v, hx, hv1⟩, fun x H' y => ?_⟩
      obtain ⟨rfl, y⟩ := y
      have := y vs hx
      rw [hv1] at this
      cases this
      exact ⟨m1, Ext.refl, R1, r1⟩
theorem rj_tup {m : Nat → Addr} {L : Nat} {H : Hp} {p : Addr} {vs : List V} {ws : List W} (hx : SqT G.K H p vs) (hv : RWs G.K G.cl m L H ws vs) : RJ G m L H (jT ws) (Itt G.K p) := by
  intro i m1 h1 H1 e1 R1
  have hx1 := e1.tup _ _ hx
  have hv1 := hv.mono e1
  unfold jT
  cases q : ws[i]? with
  | none => exact ⟨vs, hx1, by rw [← hv.length]; exact List.getElem?_eq_none_iff.mp q⟩
  | some w =>
    obtain ⟨v, h1', r1⟩ := hv1.get q
    refine ⟨⟨vs, v, hx1, h1'⟩, fun x H' y => ?_⟩
    obtain ⟨rfl, y⟩ := y
    have := y vs hx1
    rw [h1'] at this
    cases this
    exact ⟨m1, Ext.refl, R1, r1⟩
theorem rj_range {m : Nat → Addr} {L : Nat} {H : Hp} {lo : Int} {n : Nat} : RJ G m L H (jR lo n) (Itr lo n) := by
  intro i m1 h1 H1 e1 R1
  unfold jR
  by_cases q : i < n
  · rw [if_pos q]
    refine ⟨q, fun x H' y => ?_⟩
    obtain ⟨rfl, rfl⟩ := y
    exact ⟨m1, Ext.refl, R1, .int _⟩
  · rw [if_neg q]
    exact Nat.le_of_not_lt q
theorem rj_str {m : Nat → Addr} {L : Nat} {H : Hp} {z : Str} : RJ G m L H (jS z) (Its z) := by
  intro i m1 h1 H1 e1 R1
  unfold jS
  cases q : z.cps[i]? with
  | none => exact Array.getElem?_eq_none_iff.mp q
  | some c =>
    refine ⟨(Array.getElem?_eq_some_iff.mp q).1, fun x H' y => ?_⟩
    obtain ⟨rfl, c', e, rfl⟩ := y
    rw [q] at e
    cases e
    exact ⟨m1, Ext.refl, R1, .str _⟩
theorem rj_enum {m : Nat → Addr} {h : IH} {H : Hp} {n : Nat} (hn : n < h.length) : RJ G m h.length H (jE n) (Ite G.K (m n)) := by
  intro i m1 h1 H1 e1 R1
  have em : m1 n = m n := e1.eq n hn
  unfold jE
  cases e : lstAt h1 n with
  | none => trivial
  | some ws =>
    obtain ⟨vs, hx, hv⟩ := lstAt_of R1 e
    rw [em] at hx
    simp only
    cases q : ws[i]? with
    | none => exact ⟨vs, hx, by rw [← hv.length]; exact List.getElem?_eq_none_iff.mp q⟩
    | some w =>
      obtain ⟨v, hv1, r1⟩ := hv.get q
      refine ⟨⟨vs, v, hx, hv1⟩, fun x H' y => ?_⟩
      obtain ⟨T, x', rfl, hT, rfl, y⟩ := y
      have := y vs hx
      rw [hv1] at this
      cases this
      obtain ⟨R2, E2⟩ := R1.aside (q := T) (o := .tup [.int (i : Nat), v]) hT
      exact ⟨m1, E2, R2, .tup (.inl (.inl upd_same)) (.cons (.int _) (.cons (r1.mono E2) .nil))⟩
theorem rj_rev {m : Nat → Addr} {h : IH} {H : Hp} {n len : Nat} (hn : n < h.length) : RJ G m h.length H (jV n len) (Itv G.K (m n) len) := by
  intro i m1 h1 H1 e1 R1
  have em : m1 n = m n := e1.eq n hn
  unfold jV
  by_cases q : i < len
  · rw [if_pos q]
    cases e : lstAt h1 n with
    | none => trivial
    | some ws =>
      obtain ⟨vs, hx, hv⟩ := lstAt_of R1 e
      rw [em] at hx
      simp only
      cases q' : ws[len - 1 - i]? with
      | none => trivial
      | some w =>
        obtain ⟨v, hv1, r1⟩ := hv.get q'
        refine ⟨⟨q, vs, v, hx, hv1⟩, fun x H' y => ?_⟩
        obtain ⟨rfl, y⟩ := y
        have := y vs hx
        rw [hv1] at this
        cases this
        exact ⟨m1, Ext.refl, R1, r1⟩
  · rw [if_neg q]
    exact Nat.le_of_not_lt q
theorem lstAt_lt {h : IH} {n : Nat} {ws : List W} (e : lstAt h n = some ws) : n < h.length := by
  unfold lstAt at e
  split at e
  · rename_i q; exact (List.getElem?_eq_some_iff.mp q).1
  · rename_i q; exact (List.getElem?_eq_some_iff.mp q).1
  · cases e
theorem i_list (F : Fit G X Z k) (ha : SE G X Z a ea) : SI G X Z (iL a) tg ea := .mk fun m h H σ τ Q R S P => by
  refine WI.of (pi_list peM) (ha m h H σ τ _ R S (PoI.ei P fun w h1 m1 H1 v1 e1 R1 r1 P1 => ?_))
  cases r1 <;> first | exact P1.elim | skip
  rename_i n hn
  simp only at P1
  split at P1
  · rename_i ws e
    obtain ⟨vs, hx, hv⟩ := lstAt_of R1 e
    refine ⟨m1 n, rfl, ⟨vs, F.K ▸ hx⟩, ?_⟩
    rw [F.K]
    exact P1 m1 H1 _ Ext.refl R1 (rj_list hn)
  · exact P1.elim
theorem i_tup (F : Fit G X Z k) (ha : SE G X Z a ea) : SI G X Z (iT a) tg ea := .mk fun m h H σ τ Q R S P => by
  refine WI.of (pi_tup peM) (ha m h H σ τ _ R S (PoI.ei P fun w h1 m1 H1 v1 e1 R1 r1 P1 => ?_))
  cases r1 <;> first | exact P1.elim | skip
  rename_i p vs ws hp hv
  refine ⟨p, rfl, ⟨vs, F.K ▸ hp⟩, ?_⟩
  rw [F.K]
  exact P1 m1 H1 _ Ext.refl R1 (rj_tup hp hv)
theorem i_str (ha : SE G X Z a ea) : SI G X Z (iS a) tg ea := .mk fun m h H σ τ Q R S P => by
  refine WI.of (pi_str peM) (ha m h H σ τ _ R S (PoI.ei P fun w h1 m1 H1 v1 e1 R1 r1 P1 => ?_))
  cases r1 <;> first | exact P1.elim | skip
  exact ⟨_, rfl, P1 m1 H1 _ Ext.refl R1 rj_str⟩
theorem i_rng1 {r : Ev} {p : Pos} (hm : X.mg "range" = none) (hr : SA G X Z r [ea]) (hg : Gl X "range" := by rfl) (hs : starEach [ea] X.env = [(false, eval ea X.env)] := by rfl) : SI G X Z (iR1 r) tg (.Call (.Name "range" p) [ea] [] pos) := .mk fun m h H σ τ Q R S P => by
  refine WI.of (pi_range1 hg hm paM hs) (hr m h H σ τ _ R S (PoI.ai P fun ws h1 m1 H1 vs e1 R1 r1 P1 => ?_))
  split at P1
  · rename_i j
    split at P1
    · rename_i q
      cases r1 with
      | cons r1 r2 => cases r1; cases r2; exact ⟨j, rfl, q.1, q.2, P1 m1 H1 _ Ext.refl R1 rj_range⟩
    · exact P1.elim
  · exact P1.elim
theorem i_rng2 {r : Ev} {p : Pos} (hm : X.mg "range" = none) (hr : SA G X Z r [ea, eb]) (hg : Gl X "range" := by rfl) (hs : starEach [ea, eb] X.env = [(false, eval ea X.env), (false, eval eb X.env)] := by rfl) (hs2 : starEach [eb] X.env = [(false, eval eb X.env)] := by rfl) : SI G X Z (iR2 r) tg (.Call (.Name "range" p) [ea, eb] [] pos) := .mk fun m h H σ τ Q R S P => by
  refine WI.of (pi_range2 hg hm paM hs hs2) (hr m h H σ τ _ R S (PoI.ai P fun ws h1 m1 H1 vs e1 R1 r1 P1 => ?_))
  split at P1
  · rename_i i j
    split at P1
    · rename_i q
      cases r1 with
      | cons r1 r2 => cases r1; cases r2 with
        | cons r2 r3 => cases r2; cases r3; exact ⟨i, j, rfl, q, P1 m1 H1 _ Ext.refl R1 rj_range⟩
    · exact P1.elim
  · exact P1.elim
theorem i_enum {r : Ev} {p tpos : Pos} {elts : List Expr} {kk : Nat} (F : Fit G X Z k) (hm : X.mg "enumerate" = none) (hr : SA G X Z r [ea]) (hg : Gl X "enumerate" := by rfl) (hs : starEach [ea] X.env = [(false, eval ea X.env)] := by rfl) : SI G X Z (iE r) (.Tuple elts kk tpos) (.Call (.Name "enumerate" p) [ea] [] pos) := .mk fun m h H σ τ Q R S P => by
  refine WI.of (pi_enum hg hm paM hs) (hr m h H σ τ _ R S (PoI.ai P fun ws h1 m1 H1 vs e1 R1 r1 P1 => ?_))
  split at P1
  · rename_i n
    split at P1
    · rename_i ws e
      obtain ⟨vs, hx, hv⟩ := lstAt_of R1 e
      cases r1 with
      | cons r1 r2 => cases r1; cases r2; rw [F.K]; exact ⟨m1 n, vs, rfl, hx, P1 m1 H1 _ Ext.refl R1 (rj_enum (lstAt_lt e))⟩
    · exact P1.elim
  · exact P1.elim
theorem i_rev {r : Ev} {p : Pos} (F : Fit G X Z k) (hm : X.mg "reversed" = none) (hr : SA G X Z r [ea]) (hg : Gl X "reversed" := by rfl) (hs : starEach [ea] X.env = [(false, eval ea X.env)] := by rfl) : SI G X Z (iV r) tg (.Call (.Name "reversed" p) [ea] [] pos) := .mk fun m h H σ τ Q R S P => by
  refine WI.of (pi_reversed hg hm paM hs) (hr m h H σ τ _ R S (PoI.ai P fun ws h1 m1 H1 vs e1 R1 r1 P1 => ?_))
  split at P1
  · rename_i n
    split at P1
    · rename_i ws e
      obtain ⟨vs, hx, hv⟩ := lstAt_of R1 e
      cases r1 with
      | cons r1 r2 =>
        cases r1; cases r2; rw [F.K]
        refine ⟨m1 n, vs, rfl, hx, ?_⟩
        rw [← hv.length]
        exact P1 m1 H1 _ Ext.refl R1 (rj_rev (lstAt_lt e))
    · exact P1.elim
  · exact P1.elim
end
end Dr
namespace Dr
open PySem L2

/-! ### list comprehensions -/
def wipeW (σ : Sg) : List Nat → Sg
  | [] => σ
  | v :: vs => (wipeW σ vs).set v none
def lcL (J : ItW) (g : Tg) (t e : Ev) (D : Nat) (σ0 : Sg) : Nat → Nat → IH → Out
  | 0, _, _ => .no
  | n + 1, i, h => match J i h with
    | none => .no
    | some none => .v (.ref D) h
    | some (some w) => match g w σ0 with
      | none => .no
      | some σ2 => match t σ2 h with
        | .v (.bl false) h1 => lcL J g t e D σ0 n (i + 1) h1
        | .v (.bl true) h1 => (match e σ2 h1 with
          | .v y h2 => (match h2[D]? with
            | some (.lst acc) => if acc.length < 16777216 then lcL J g t e D σ0 n (i + 1) (h2.set D (.lst (acc ++ [y]))) else .no
            | _ => .no)
          | _ => .no)
        | _ => .no
def eLc (n : Nat) (it : EvI) (own : List Nat) (g : Tg) (t e : Ev) : Ev := fun σ h => match it σ h with
  | .it J h1 => lcL J g t e h1.length (wipeW σ own) n 0 (h1 ++ [.lst []])
  | .ex c w s h => .ex c w s h
  | .no => .no
def eYes : Ev := fun _ h => .v (.bl true) h
abbrev Z0 : WX := fun _ _ _ _ => False
section
variable {G : Cfg} {X : Cx} {Z : WX} {k : Nat} {a b c : Ev} {ea eb ec : Expr} {pos : Pos} {st : Stmt} {sts sts' : List Stmt} {tg : Expr}
theorem Fit.blk (F : Fit G X Z k) {s : Shared} {H : Hp} {scope : Scope} {cenv : Env} {fp : List Addr} : Fit G (X.blk s H scope cenv fp) Z0 k := ⟨F.K, F.calm, PassesOwn.never, tk2_0 (fun _ _ _ _ z => z), F.room, F.base, F.gd⟩
theorem RSt.wipe (hx : G.xs = none) {m : Nat → Addr} {L : Nat} {H : Hp} {σ : Sg} {τ : St} (r : RSt G m L H σ τ) : ∀ vs : List Nat, RSt G m L H (wipeW σ vs) (L2.wipe τ vs)
  | [] => r
  | v :: vs => by
    have ih := RSt.wipe hx r vs
    refine ⟨by unfold wipeW L2.wipe; simp [ih.len], fun i w e => ?_, fun i a z => (by rw [hx] at z; cases z), ih.xd⟩
    unfold wipeW at e
    unfold L2.wipe
    by_cases q : i = v
    · subst q
      by_cases hl : i < (wipeW σ vs).length
      · rw [List.getElem?_set_self hl] at e; cases e
      · rw [List.getElem?_eq_none (by simpa using hl)] at e; cases e
    · rw [List.getElem?_set_ne (Ne.symm q)] at e
      rw [List.getElem?_set_ne (Ne.symm q)]
      exact ih.get i w e
theorem wipe_set (τ : St) (i : Nat) (x : Option V) : ∀ vs : List Nat, i ∈ vs → L2.wipe (τ.set i x) vs = L2.wipe τ vs
  | [], h => by cases h
  | v :: vs, h => by
    unfold L2.wipe
    by_cases q : i ∈ vs
    · rw [wipe_set τ i x vs q]
    · have e : i = v := by
        rcases List.mem_cons.mp h with e | e
        · exact e
        · exact absurd e q
      subst e
      have key : ∀ vs : List Nat, i ∉ vs → L2.wipe (τ.set i x) vs = (L2.wipe τ vs).set i x := by
        intro vs
        induction vs with
        | nil => intro _; rfl
        | cons u us ih =>
          intro hn
          simp only [List.mem_cons, not_or] at hn
          unfold L2.wipe
          rw [ih hn.2, List.set_comm _ _ (hn.1)]
      rw [key vs q, List.set_set]
theorem wipe_wipe (τ : St) : ∀ vs : List Nat, L2.wipe (L2.wipe τ vs) vs = L2.wipe τ vs
  | [] => rfl
  | v :: vs => by
    have h1 : L2.wipe ((L2.wipe τ vs).set v none) (v :: vs) = L2.wipe (L2.wipe τ vs) (v :: vs) := wipe_set _ v none (v :: vs) (List.mem_cons_self)
    show L2.wipe ((L2.wipe τ vs).set v none) (v :: vs) = _
    rw [h1]
    show (L2.wipe (L2.wipe τ vs) vs).set v none = _
    rw [wipe_wipe τ vs]
    rfl
/-- a target of a comprehension: its own slots alone change -/
def SGw (G : Cfg) (X : Cx) (vs : List Nat) (g : Tg) (tg : Expr) : Prop := ∀ m h H w v σ τ σ' Q, Rep G.K G.cl m h H → RW G.K G.cl m h.length H w v → RSt G m h.length H σ τ → g w σ = some σ' →
  (∀ τ', RSt G m h.length H σ' τ' → L2.wipe τ' vs = L2.wipe τ vs → Q τ' H) → WG X tg v τ H Q
theorem gw_name (i : Nat) {vs : List Nat} {x : Str} (hN : X.N.Nodup) (hm : i ∈ vs := by decide) (hi : X.N[i]? = some x := by rfl) (hx : Loc X.env.scope x := by first | exact Or.inl rfl | exact Or.inr rfl) (hf : X.fn x = true ∨ X.env.scope.names.lookup x = some .local := by first | exact .inl rfl | exact .inr rfl) : SGw G X vs (gN i) (.Name x pos) :=
  fun m h H w v σ τ σ' Q R r S e q => by
    cases e
    exact WG.of (pg_name hN hi hx hf) (q _ (S.set i r) (wipe_set τ i _ vs hm))
def SGws (G : Cfg) (X : Cx) (vs : List Nat) (is : List Nat) (tgs : List Expr) : Prop := ∃ t, PGs X tgs t ∧ tgs.length = is.length ∧ ∀ m h H ws us σ τ σ' Q, Rep G.K G.cl m h H → RWs G.K G.cl m h.length H ws us → RSt G m h.length H σ τ → gs is ws σ = some σ' →
  (∀ τ', RSt G m h.length H σ' τ' → L2.wipe τ' vs = L2.wipe τ vs → Q τ' H) → t us τ H Q
theorem gws_nil {vs : List Nat} : SGws G X vs [] [] := ⟨_, pgs_nil, rfl, fun m h H ws us σ τ σ' Q R r S e q => by
  cases r with
  | nil => cases e; exact ⟨rfl, q _ S rfl⟩
  | cons _ _ => cases e⟩
theorem gws_cons (i : Nat) {vs is : List Nat} {tgs : List Expr} {x : Str} (h2 : SGws G X vs is tgs) (hN : X.N.Nodup) (hm : i ∈ vs := by decide) (hi : X.N[i]? = some x := by rfl) (hx : Loc X.env.scope x := by first | exact Or.inl rfl | exact Or.inr rfl) (hf : X.fn x = true ∨ X.env.scope.names.lookup x = some .local := by first | exact .inl rfl | exact .inr rfl)
    (hs : (assignEach (.Name x pos :: tgs) X.env).map (·.2) = assign (.Name x pos) X.env :: (assignEach tgs X.env).map (·.2) := by rfl) : SGws G X vs (i :: is) (.Name x pos :: tgs) := by
  obtain ⟨t, p, hl, h2⟩ := h2
  refine ⟨_, pgs_cons (pg_name hN hi hx hf) p hs, by simp [hl], fun m h H ws us σ τ σ' Q R r S e q => ?_⟩
  cases r with
  | nil => cases e
  | cons r1 r2 => exact ⟨_, _, rfl, h2 m h H _ _ _ _ σ' Q R r2 (S.set i r1) e fun τ' S' w => q τ' S' (w.trans (wipe_set _ i _ vs hm))⟩
theorem gs_len : ∀ (is : List Nat) (ws : List W) (σ σ' : Sg), gs is ws σ = some σ' → ws.length = is.length := by
  intro is
  induction is with
  | nil => intro ws σ σ' e; cases ws with | nil => rfl | cons _ _ => cases e
  | cons i is ih => intro ws σ σ' e; cases ws with | nil => cases e | cons w ws => simp [ih ws _ _ e]
theorem gw_tup {vs is : List Nat} {tgs : List Expr} {k' : Nat} (F : Fit G X Z k) (h : SGws G X vs is tgs) (hn : (assignEach tgs X.env).length = is.length := by rfl) (hst : (assignEach tgs X.env).findIdx? (·.1) = none := by rfl) : SGw G X vs (gT is) (.Tuple tgs k' pos) := by
  obtain ⟨t, p, hl, h2⟩ := h
  refine fun m h H w v σ τ σ' Q R r S e q => WG.of (pg_tup F.calm p hn hst) ?_
  cases r <;> first | (cases e; done) | skip
  rename_i p' us ws hp hv
  exact ⟨p', us, rfl, F.K ▸ hp, by rw [← hv.length]; exact gs_len _ _ _ _ e, h2 m h H ws us σ τ σ' Q R hv S e q⟩
/-- the tests of a comprehension -/
def STs (G : Cfg) (X : Cx) (Z : WX) (c : Ev) (ifs : List Expr) : Prop := (ifs = [] ∧ c = eYes) ∨ ∃ e, ifs = [e] ∧ ST G X Z c e
theorem ts_nil : STs G X Z eYes [] := .inl ⟨rfl, rfl⟩
theorem ts_one (h : ST G X Z c ec) : STs G X Z c [ec] := .inr ⟨ec, rfl, h⟩
def WTs (X : Cx) (ifs : List Expr) : TT := fun σ H Q => ∃ t, PTs X ifs t ∧ t σ H Q
theorem STs.run {ifs : List Expr} (h : STs G X Z c ifs) {m : Nat → Addr} {hp : IH} {H : Hp} {σ : Sg} {τ : St} {Q : Bool → Hp → Prop} (R : Rep G.K G.cl m hp H) (S : RSt G m hp.length H σ τ) (P : PoE G m hp.length H Z (toB Q) (c σ hp)) : WTs X ifs τ H Q := by
  rcases h with ⟨rfl, rfl⟩ | ⟨e, rfl, h⟩
  · refine ⟨_, pts_nil, ?_⟩
    obtain ⟨b, e, q⟩ := P m H _ Ext.refl R (.bl true)
    cases e
    exact q
  · exact ⟨_, pts_one ptM, h m hp H σ τ Q R S P⟩

theorem lc_read {own : List Nat} {scope : Scope} {tg elt : Expr} {ifs : List Expr} {J : ItW} {I : It} {g : Tg} {t e : Ev} {n : Nat} {m1 : Nat → Addr} {h1 : IH} {H1 : Hp} {σ : Sg} {τ : St} {Q : VK}
    (hg : ∀ (s : Shared) (H : Hp) (C : Addr) (cl : List (Str × Addr)) (fp : List Addr), SGw G (X.blk s H scope (compEnvC scope cl C X.env) fp) own g tg)
    (ht : ∀ (s : Shared) (H : Hp) (C : Addr) (cl : List (Str × Addr)) (fp : List Addr), STs G (X.blk s H scope (compEnvC scope cl C X.env) fp) Z0 t ifs)
    (he : ∀ (s : Shared) (H : Hp) (C : Addr) (cl : List (Str × Addr)) (fp : List Addr), SE G (X.blk s H scope (compEnvC scope cl C X.env) fp) Z0 e elt)
    (hxs : G.xs = none) (R1 : Rep G.K G.cl m1 h1 H1) (S1 : RSt G m1 h1.length H1 σ τ) (J1 : RJ G m1 h1.length H1 J I) (P : PoE G m1 h1.length H1 Z Q (lcL J g t e h1.length (wipeW σ own) n 0 (h1 ++ [.lst []]))) (D : Addr) (hD : H1 D = none) :
    ∃ W : Nat → Nat → Hp → Prop, (∃ m, W 0 m (upd H1 D (.lst []))) ∧ ∀ i m H, W i m H →
      (I.stop i H ∧ Q (.ref D) H) ∨ (I.go i H ∧ ∃ Nx : Hp → Prop, (∀ H', Nx H' → ∃ m', m' < m ∧ W (i + 1) m' H') ∧ ∀ x H', I.yld i H x H' →
        (∀ (s : Shared) (H0 : Hp) (C : Addr) (cl : List (Str × Addr)) (fp : List Addr), WG (X.blk s H0 scope (compEnvC scope cl C X.env) fp) tg x (L2.wipe τ own) H' fun σ2 H2 => L2.wipe σ2 own = L2.wipe τ own ∧
          ∀ (s : Shared) (H0 : Hp) (C : Addr) (cl : List (Str × Addr)) (fp : List Addr), WTs (X.blk s H0 scope (compEnvC scope cl C X.env) fp) ifs σ2 H2 fun b H3 =>
            if b = true then (∀ (s : Shared) (H0 : Hp) (C : Addr) (cl : List (Str × Addr)) (fp : List Addr), WE (X.blk s H0 scope (compEnvC scope cl C X.env) fp) elt σ2 H3 fun y H4 => ∃ acc, H4 D = some (.lst acc) ∧ acc.length < sizeLine ∧ Nx (upd H4 D (.lst (acc ++ [y])))) else Nx H3)) := by
  obtain ⟨R2, E2⟩ := R1.push (q := D) (u := .lst []) (o := .lst []) hD ⟨_, upd_same, .nil⟩
  have last : ext1 m1 h1.length D h1.length = D := by unfold ext1; rw [if_pos rfl]
  let Inv' : Nat → Nat → Hp → Prop := fun i n H => ∃ m h, Ext G.K m1 h1.length H1 m h.length H ∧ Rep G.K G.cl m h H ∧ h1.length < h.length ∧ m h1.length = D ∧ PoE G m h.length H Z Q (lcL J g t e h1.length (wipeW σ own) n i h)
  refine ⟨Inv', ⟨n, _, _, E2, R2, by simp, last, PoE.later E2 P⟩, ?_⟩
  rintro i n H ⟨m, h, e2, R, hl, hm, P⟩
  cases n with
  | zero => exact P.elim
  | succ n =>
    have j := J1 i m h H e2 R
    unfold lcL at P
    cases e3 : J i h with
    | none => rw [e3] at P; exact P.elim
    | some o =>
      rw [e3] at P j
      cases o with
      | none =>
        refine .inl ⟨j, P m H _ Ext.refl R ?_⟩
        have q := RW.ref (K := G.K) (cl := G.cl) (m := m) (L := h.length) (H := H) h1.length hl
        rw [hm] at q
        exact q
      | some w =>
        refine .inr ⟨j.1, Inv' (i + 1) n, fun H' z => ⟨n, Nat.lt_succ_self _, z⟩, fun x H' y s H0 C cl fp => ?_⟩
        obtain ⟨m', e4, R4, r4⟩ := j.2 x H' y
        simp only at P
        cases e5 : g w (wipeW σ own) with
        | none => rw [e5] at P; exact P.elim
        | some σ2 =>
          rw [e5] at P
          have S4 := (RSt.wipe hxs S1 own).mono (e2.trans e4)
          refine hg s H0 C cl fp m' h H' w x _ _ σ2 _ R4 r4 S4 e5 fun τ2 S2 hw => ⟨hw.trans (wipe_wipe τ own), fun s H0 C cl fp => ?_⟩
          simp only at P
          refine (ht s H0 C cl fp).run R4 S2 ?_
          cases e6 : t σ2 h with
          | v w6 h6 =>
            rw [e6] at P
            cases w6 with
            | bl q =>
              intro m6 H6 v6 e7 R6 r6
              cases r6
              have em6 : m6 h1.length = D := by rw [e7.eq _ hl, e4.eq _ hl]; exact hm
              cases q with
              | false => exact ⟨false, rfl, iteF ⟨m6, h6, (e2.trans e4).trans e7, R6, Nat.lt_of_lt_of_le hl e7.le, em6, PoE.later (e4.trans e7) P⟩⟩
              | true =>
                refine ⟨true, rfl, iteT fun s H0 C cl fp => ?_⟩
                refine he s H0 C cl fp m6 h6 H6 σ2 τ2 _ R6 (S2.mono e7) ?_
                simp only at P
                cases e8 : e σ2 h6 with
                | v y8 h8 =>
                  rw [e8] at P
                  intro m8 H8 v8 e9 R8 r8
                  simp only at P
                  cases e10 : h8[h1.length]? with
                  | none => rw [e10] at P; exact P.elim
                  | some ob =>
                    rw [e10] at P
                    cases ob with
                    | lst acc =>
                      simp only at P
                      split at P
                      · rename_i q
                        obtain ⟨vs, hx, hv⟩ := R8.obj _ _ e10
                        have em8 : m8 h1.length = D := by rw [e9.eq _ (Nat.lt_of_lt_of_le hl e7.le)]; exact em6
                        rw [em8] at hx
                        refine ⟨vs, hx, by rw [← hv.length, lineSz]; exact q, ?_⟩
                        obtain ⟨R9, E9⟩ := R8.put (n := h1.length) (o' := .lst (acc ++ [y8])) (u := .lst (vs ++ [v8])) e10 (by rw [em8]; exact noTup_of hx (fun _ z => by cases z) (fun _ _ z => by cases z))
                          (fun ex => ⟨_, upd_same, (hv.append (.cons r8 .nil)).mono ex⟩)
                        rw [em8] at R9 E9
                        have l8 : h1.length < h8.length := Nat.lt_of_lt_of_le hl (Nat.le_trans e7.le e9.le)
                        exact ⟨m8, _, (((e2.trans e4).trans e7).trans e9).trans E9, R9, by rw [List.length_set]; exact l8, em8, PoE.later ((e4.trans e7).trans (e9.trans E9)) P⟩
                      · exact P.elim
                    | _ => exact P.elim
                | _ => rw [e8] at P; exact P.elim
            | _ => exact P.elim
          | _ => rw [e6] at P; exact P.elim
theorem s_lc (n : Nat) {it : EvI} {g : Tg} {t e : Ev} {elt tg iter : Expr} {ifs : List Expr} {scope : Scope} {own : List (Str × Nat)} (F : Fit G X Z k) (hN : X.N.Nodup) (hi : SI G X Z it tg iter) (ok : BlkOk X.N X.env.scope scope own)
    (hg : ∀ (s : Shared) (H : Hp) (C : Addr) (cl : List (Str × Addr)) (fp : List Addr), SGw G (X.blk s H scope (compEnvC scope cl C X.env) fp) (own.map (·.2)) g tg)
    (ht : ∀ (s : Shared) (H : Hp) (C : Addr) (cl : List (Str × Addr)) (fp : List Addr), STs G (X.blk s H scope (compEnvC scope cl C X.env) fp) Z0 t ifs)
    (he : ∀ (s : Shared) (H : Hp) (C : Addr) (cl : List (Str × Addr)) (fp : List Addr), SE G (X.blk s H scope (compEnvC scope cl C X.env) fp) Z0 e elt) (hs : ∀ x, foldedSetIterable iter X.env x = pure x := by intro _; rfl) :
    SE G X Z (eLc n it (own.map (·.2)) g t e) (.ListComp elt [⟨tg, iter, ifs, 0⟩] scope pos) := .mk fun m h H σ τ Q R S P => by
  refine WE.of (pe_lc (g := fun v σ H Q => ∀ (s : Shared) (H0 : Hp) (C : Addr) (cl : List (Str × Addr)) (fp : List Addr), WG (X.blk s H0 scope (compEnvC scope cl C X.env) fp) tg v σ H Q)
    (tt := fun σ H Q => ∀ (s : Shared) (H0 : Hp) (C : Addr) (cl : List (Str × Addr)) (fp : List Addr), WTs (X.blk s H0 scope (compEnvC scope cl C X.env) fp) ifs σ H Q)
    (te := fun σ H Q => ∀ (s : Shared) (H0 : Hp) (C : Addr) (cl : List (Str × Addr)) (fp : List Addr), WE (X.blk s H0 scope (compEnvC scope cl C X.env) fp) elt σ H Q)
    F.calm hN piM ok (fun s H C cl fp => ⟨fun pins s' σ H' v u Q I r h => h s H C cl fp pins s' u I r⟩)
    (fun s H C cl fp => ⟨fun pins s' σ H' Q I h => let ⟨_, p, q⟩ := h s H C cl fp; p.run pins s' σ H' Q I q⟩) (fun s H C cl fp => ⟨fun pins s' σ H' Q I h => h s H C cl fp pins s' I⟩) hs) ?_
  refine hi m h H σ τ _ R S ?_
  unfold eLc at P
  cases q : it σ h with
  | no => rw [q] at P; exact P
  | ex c w s h => rw [q] at P; exact P
  | it J h1 =>
    rw [q] at P
    exact fun m1 H1 I e1 R1 J1 D hD => lc_read hg ht he F.base R1 (S.mono e1) J1 (PoE.later e1 P) D hD
theorem v_setLc (n i : Nat) {y : Str} {py spos : Pos} {it : EvI} {g : Tg} {t e : Ev} {elt tg iter : Expr} {ifs : List Expr} {scope : Scope} {own : List (Str × Nat)} (F : Fit G X Z k) (hN : X.N.Nodup)
    (hsw : swapsWith (.ListComp elt [⟨tg, iter, ifs, 0⟩] scope pos) (some (.Name y py)) spos.line X.env = pure true) (hi : SI G X Z it tg iter) (ok : BlkOk X.N X.env.scope scope own)
    (hg : ∀ (s : Shared) (H : Hp) (C : Addr) (cl : List (Str × Addr)) (fp : List Addr), SGw G (X.blk s H scope (compEnvC scope cl C X.env) fp) (own.map (·.2)) g tg)
    (ht : ∀ (s : Shared) (H : Hp) (C : Addr) (cl : List (Str × Addr)) (fp : List Addr), STs G (X.blk s H scope (compEnvC scope cl C X.env) fp) Z0 t ifs)
    (he : ∀ (s : Shared) (H : Hp) (C : Addr) (cl : List (Str × Addr)) (fp : List Addr), SE G (X.blk s H scope (compEnvC scope cl C X.env) fp) Z0 e elt) (hy : X.N[i]? = some y := by rfl) (hyl : X.env.scope.names.lookup y = some .local := by rfl) (hs : ∀ x, foldedSetIterable iter X.env x = pure x := by intro _; rfl) :
    SS G X Z (eAsg (gN i) (eLc n it (own.map (·.2)) g t e)) (.Assign [.Name y py] (.ListComp elt [⟨tg, iter, ifs, 0⟩] scope pos) spos) := .mk fun m h H σ τ D' R S P => by
  refine WS.of (ps_setLc (g := fun v σ H Q => ∀ (s : Shared) (H0 : Hp) (C : Addr) (cl : List (Str × Addr)) (fp : List Addr), WG (X.blk s H0 scope (compEnvC scope cl C X.env) fp) tg v σ H Q)
    (tt := fun σ H Q => ∀ (s : Shared) (H0 : Hp) (C : Addr) (cl : List (Str × Addr)) (fp : List Addr), WTs (X.blk s H0 scope (compEnvC scope cl C X.env) fp) ifs σ H Q)
    (te := fun σ H Q => ∀ (s : Shared) (H0 : Hp) (C : Addr) (cl : List (Str × Addr)) (fp : List Addr), WE (X.blk s H0 scope (compEnvC scope cl C X.env) fp) elt σ H Q)
    F.calm hN hy hyl hsw piM ok (fun s H C cl fp => ⟨fun pins s' σ H' v u Q I r h => h s H C cl fp pins s' u I r⟩)
    (fun s H C cl fp => ⟨fun pins s' σ H' Q I h => let ⟨_, p, q⟩ := h s H C cl fp; p.run pins s' σ H' Q I q⟩) (fun s H C cl fp => ⟨fun pins s' σ H' Q I h => h s H C cl fp pins s' I⟩) hs) ?_
  have P' := PoS.es (Q' := fun v H1 => D'.nx (τ.set i (some v)) H1) P (fun w h1 m1 H1 v1 e1 R1 r1 P1 => P1 m1 H1 _ Ext.refl R1 ((S.mono e1).set i r1))
  refine hi m h H σ τ _ R S ?_
  unfold eLc at P'
  cases q : it σ h with
  | no => rw [q] at P'; exact P'
  | ex c w s h => rw [q] at P'; exact P'
  | it J h1 =>
    rw [q] at P'
    exact fun m1 H1 I e1 R1 J1 D hD => lc_read hg ht he F.base R1 (S.mono e1) J1 (PoE.later e1 P') D hD
end
end Dr
namespace Dr
open PySem L2
open PyProof.Rows (envOfC)

/-! ### defs -/
abbrev Fn := List W → IH → Out
def PoC (G : Cfg) (m : Nat → Addr) (L : Nat) (H : Hp) (Q : VK) (E : XK) : Out → Prop
  | .v w h' => ∀ m' H' v, Ext G.K m L H m' h'.length H' → Rep G.K G.cl m' h' H' → RW G.K G.cl m' h'.length H' w v → Q v H'
  | .ex c w _ h' => ∀ m' H' d v, Ext G.K m L H m' h'.length H' → Rep G.K G.cl m' h' H' → RW G.K G.cl m' h'.length H' w v → H' d = some (.xd [(G.fn c, v)]) → E (.ref (G.cl c)) (some d) H'
  | _ => False
/-- the promise: what the small language's function says -/
def spC (G : Cfg) (n : Nat) (f : Fn) : Sp := fun vs H Q E => ∃ m h ws, ws.length = n ∧ Rep G.K G.cl m h H ∧ RWs G.K G.cl m h.length H ws vs ∧ PoC G m h.length H Q E (f ws h)
def slots (N : Nat) (ws : List W) : Sg := ws.map some ++ List.replicate (N - ws.length) none
def fnOf (n N : Nat) (body : Ev) : Fn := fun ws h => if ws.length = n then (body (slots N ws) h).fin else .no
section
variable {G : Cfg} {X : Cx} {Z : WX} {k : Nat} {a b c : Ev} {ea eb ec : Expr} {pos : Pos} {st : Stmt} {sts sts' : List Stmt} {tg : Expr}
theorem RWs.slots {m : Nat → Addr} {L : Nat} {H : Hp} {ws : List W} {vs : List V} (r : RWs G.K G.cl m L H ws vs) (N : List Str) (hl : ws.length ≤ N.length) (hx : G.xs = none ∧ G.xd = none) : RSt G m L H (slots N.length ws) (L2.start N vs) := by
  unfold Dr.slots L2.start
  refine ⟨by simp [r.length], fun i w e => ?_, fun i a z => (by rw [hx.1] at z; cases z), fun d c w z => by rw [hx.2] at z; cases z⟩
  by_cases q : i < ws.length
  · rw [List.getElem?_append_left (by simpa using q), List.getElem?_map] at e
    rw [List.getElem?_append_left (by simpa [← r.length] using q), List.getElem?_map]
    cases z : ws[i]? with
    | none => rw [z] at e; cases e
    | some u =>
      rw [z] at e
      cases e
      obtain ⟨v, h1, h2⟩ := r.get z
      exact ⟨v, by rw [h1]; rfl, h2⟩
  · rw [List.getElem?_append_right (by simpa using q)] at e
    rw [List.getElem?_replicate] at e
    split at e
    · cases e
    · cases e
abbrev cxF (dt : Value → Prop) (P : Program) (w : World) (K : PySem.W.Frag) (mg : Str → Option Value) (base : Heap) (N : List Str) (qual : Str) (st : Stmt) (f : Addr) (cdv : Value) (A : Around) (outer : List Env) (s : Shared) (H : Hp) (E : XK) : Cx :=
  cxOf (CX2 dt P w) P w K mg base N qual (defScope st) f cdv A outer s H E
theorem fit_of {P : Program} {w : World} {K : PySem.W.Frag} {mg : Str → Option Value} {base : Heap} {N : List Str} {qual : Str} {st : Stmt} {f : Addr} {cdv : Value} {A : Around} {outer : List Env} {s : Shared} {H : Hp} {E : XK} (hK : K = G.K) (hx : G.xs = none) (hgd : A.guards = some [])
    (hr : Room k (A.deeper (envOfC qual (defScope st) s.heap.objs.size f cdv))) : Fit G (cxF G.dty P w K mg base N qual st f cdv A outer s H E) (fun cls d _ H => E cls d H) k :=
  ⟨hK, rfl, passes_of rfl, ⟨fun u s' x => wpAny_mono (L2N.XE.leave (E := E) rfl rfl rfl (fun _ _ _ _ h => h) x) (fun _ _ h => .inl h) (fun _ _ h => h),
    fun u s' x => wpAny_mono (L2.XE.leave (E := fun c d H' => G.dty c ∧ E c d H') rfl rfl rfl (fun _ _ _ _ h => h) x) (fun _ _ h => .inr h) (fun _ _ h => h)⟩, hr, hx, hgd⟩
theorem PoC.toS {m : Nat → Addr} {L : Nat} {H : Hp} {Q : VK} {E : XK} {o : Out} (p : PoC G m L H Q E o.fin) : PoS G m L H (fun cls d _ H => E cls d H) { nx := fun _ H' => Q .non H', rt := Q } o := by
  cases o with
  | nx s h => exact fun m' H' τ e R S => p m' H' .non e R .non
  | rt w h => exact p
  | ex c w s h => exact fun m' H' d v τ' e R r S hd => p m' H' d v e R r hd
  | v w h => exact p
  | vs w h => exact p
  | bk s h => exact False.elim p
  | ct s h => exact False.elim p
  | no => exact p
/-- what a def promises where no guard is up -/
structure FnG (dt : Value → Prop) (P : Program) (w : World) (K : PySem.W.Frag) (mg : Str → Option Value) (base : Heap) (k : Nat) (f : Addr) (fd : FuncData) (ps : List Str) (sp : Sp) : Prop where
  cnt : ∀ vs H Q E, sp vs H Q E → vs.length = ps.length
  go : ∀ (A : Around) (outer : List Env) (s : Shared) (H : Hp) (args : Args) (us : List Value) (vs : List V) (Q : VK) (E : XK), A.guards = some [] → Room k A → Env0 P w K mg base A outer s H →
    BindsTo s fd args (ps.zip us) → Vals vs us → sp vs H Q E → codeAny (model P w) A (.call (.ref f) args) (CR (CX2 dt P w) outer P w H s Q E) s
theorem FnG.imp {dt : Value → Prop} {P : Program} {w : World} {K : PySem.W.Frag} {mg : Str → Option Value} {base : Heap} {f : Addr} {fd : FuncData} {ps : List Str} {sp sp' : Sp} (F : FnG dt P w K mg base k f fd ps sp) (h : ∀ vs H Q E, sp' vs H Q E → sp vs H Q E) : FnG dt P w K mg base k f fd ps sp' :=
  ⟨fun vs H Q E z => F.cnt vs H Q E (h _ _ _ _ z), fun A o s H a us vs Q E g r e b v z => F.go A o s H a us vs Q E g r e b v (h _ _ _ _ z)⟩
theorem FnG.up {dt : Value → Prop} {P : Program} {w : World} {K : PySem.W.Frag} {mg : Str → Option Value} {base : Heap} {j : Nat} {f : Addr} {fd : FuncData} {ps : List Str} {sp : Sp} (F : FnG dt P w K mg base k f fd ps sp) (h : k ≤ j) : FnG dt P w K mg base j f fd ps sp :=
  ⟨F.cnt, fun A o s H a us vs Q E g r => F.go A o s H a us vs Q E g (r.mono h)⟩
/-- a def of the text, as it stands in the written part -/
structure DefAt (K : PySem.W.Frag) (qual : Str) (st : Stmt) (f : Addr) (fd : FuncData) : Prop where
  ex : ∃ (oc : Value) (od : Option Addr) (nm : Str) (dV kV doc pm : Value) (an : Option Addr) (cdv ct : Value) (osl : Array (Option Value)),
    fd = PySem.W.fnOf nm qual (defArgs st) (defBody st) (defScope st) dV kV doc pm an cdv ct ∧ K.lookup f = some ⟨oc, od, .func fd, osl⟩ ∧ PySem.W.codeIn K cdv qual = true
theorem DefAt.of {K : PySem.W.Frag} {x qual : Str} {st : Stmt} {f : Addr} {fd : FuncData} (F : L2.Fun K x qual st f fd) : DefAt K qual st f fd := by
  obtain ⟨oc, od, kV, doc, pm, an, cdv, ct, osl, e, l, c⟩ := F.ex
  exact ⟨oc, od, x, .none, kV, doc, pm, an, cdv, ct, osl, e, l, c⟩
theorem fn_ok {P : Program} {w : World} {K : PySem.W.Frag} {mg : Str → Option Value} {base : Heap} {qual : Str} {f : Addr} {fd : FuncData} {N ps : List Str} {body : Ev} (F : DefAt K qual st f fd) (S : FnScope N ps (defScope st)) (hps : ps.length ≤ N.length) (hx : G.xs = none ∧ G.xd = none)
    (hbody : ∀ (cdv : Value) (A : Around) (outer : List Env) (s : Shared) (H : Hp) (E : XK), A.guards = some [] → Room k (A.deeper (envOfC qual (defScope st) s.heap.objs.size f cdv)) →
      SB G (cxF G.dty P w K mg base N qual st f cdv A outer s H E) (fun cls d _ H => E cls d H) body (defBody st)) :
    FnG G.dty P w K mg base (k + 1) f fd ps (spC G ps.length (fnOf ps.length N.length body)) := by
  obtain ⟨oc, od, nm, dV, kV, doc, pm, an, cdv, ct, osl, rfl, lk, hcd⟩ := F.ex
  have cnt : ∀ vs H Q E, spC G ps.length (fnOf ps.length N.length body) vs H Q E → vs.length = ps.length := fun vs H Q E h => by
    obtain ⟨m, h, ws, hl, R, r, _⟩ := h
    rw [← r.length, hl]
  refine ⟨cnt, fun A outer s H args us vs Q E gd hr e0 hb r hsp => ?_⟩
  have wr : K.In s.heap := e0.mod.kin.keeps (fun b o z => (e0.bs b o z).1)
  have nl : s.heap.NoLimit := e0.mod.nolimit.keeps (fun b o z => (e0.bs b o z).1)
  refine codeAny_call_function hr.depth (wr _ _ lk) rfl S.co S.gen rfl (PySem.W.codeRec_of wr hcd) (hb _ _ _ _ (wpAny_newFunctionEnv_cells S.kind (fun y hy => ?_) fun env he s1 x => ?_))
  · rcases S.par y.1 (List.of_mem_zip (a := y.1) (b := y.2) hy).1 with z | z
    · exact Or.inl z
    · exact Or.inr ⟨z, PySem.W.cellsFrom_some _ _ _ (Or.inl z)⟩
  · subst he
    refine ⟨nl.keeps x.toInCall.keep, codeAny_func ?_⟩
    have I := inv_start (CX := CX2 G.dty P w) (E := E) S hr.hd e0 (cnt _ _ _ _ hsp) r x
    obtain ⟨m, h, ws, hl, R, rr, PP⟩ := hsp
    unfold Dr.fnOf at PP
    rw [if_pos hl] at PP
    have go := hbody cdv A outer s H E gd (hr.deeper _) m h H _ _ _ R (rr.slots N (by rw [hl]; exact hps) hx) (PoC.toS PP) [] s1 I
    refine wpAny_mono go (fun fl s' hs => ?_) (fun _ _ z => z)
    cases fl with
    | ret u => obtain ⟨v, τ, H', J, rv, z⟩ := hs; exact ⟨v, H', J.os, J.bare, J.base, J.hok, rv, z⟩
    | next => obtain ⟨τ, H', J, z⟩ := hs; exact ⟨.non, H', J.os, J.bare, J.base, J.hok, rfl, z⟩
    | brk => exact False.elim hs.choose_spec.choose_spec.2
    | cont => exact False.elim hs.choose_spec.choose_spec.2
/-! ### calls -/
/-- a def that may be called here -/
def FOk (G : Cfg) (X : Cx) (k : Nat) (f : Addr) (fn : Fn) (dw : List W) : Prop := ∃ fd ps ds dvs, FnG G.dty X.prog X.w X.K X.mg X.base k f fd ps (spC G ps.length fn) ∧ Binds X.K fd ps ds ∧ Vals dvs ds ∧ (∀ m L H, RWs G.K G.cl m L H dw dvs) ∧ ∀ ws h, ws.length ≠ ps.length → fn ws h = .no
theorem run_f {f : Addr} {fn : Fn} {dw ws : List W} {τ : St} {σ : Sg} {m : Nat → Addr} {h : IH} {H : Hp} {vs : List V} {us : List Value} {Q : VK} {pins : List (Addr × Obj)} {s : Shared} (F : Fit G X Z k) (ok : FOk G X k f fn dw) (R : Rep G.K G.cl m h H) (S : RSt G m h.length H σ τ)
    (r : RWs G.K G.cl m h.length H ws vs) (P : PoE G m h.length H Z Q ((fn (ws ++ dw) h).cb σ)) (I : Inv X pins τ H s) (rv : Vals vs us) : wpAny (model X.prog X.w) X.A (call (.ref f) us) (EP X pins τ Q) X.xe s := by
  obtain ⟨fd, ps, ds, dvs, Fo, hb, hd, hw, ar⟩ := ok
  have r2 : RWs G.K G.cl m h.length H (ws ++ dw) (vs ++ dvs) := r.append (hw _ _ _)
  have rv2 : Vals (vs ++ dvs) (us ++ ds) := rv.append hd
  by_cases hl : (ws ++ dw).length = ps.length
  · have sp : spC G ps.length fn (vs ++ dvs) H Q (fun cls d H' => Z cls d τ H') := by
      refine ⟨m, h, ws ++ dw, hl, R, r2, ?_⟩
      cases e : fn (ws ++ dw) h with
      | v w h' => rw [e] at P; exact P
      | ex c w s h' => rw [e] at P; exact fun m' H' d v e' R' r' hd' => P m' H' d v τ e' R' r' (S.mono e') hd'
      | vs w h => rw [e] at P; exact P
      | nx s h => rw [e] at P; exact P
      | rt w h => rw [e] at P; exact P
      | bk s h => rw [e] at P; exact P
      | ct s h => rw [e] at P; exact P
      | no => rw [e] at P; exact P
    have hl2 : (us ++ ds).length = ps.length := by rw [← rv2.length, ← r2.length]; exact hl
    refine wpAny_call (codeAny_mono (Fo.go X.A X.stack s H ⟨us, []⟩ (us ++ ds) (vs ++ dvs) Q _ F.gd F.room I.env0 (hb s us I.kIn hl2) rv2 sp) fun r s' hq => ?_)
    cases r with
    | error e => exact pass2 F.tk τ pins H s e s' I hq
    | ok fl =>
      cases fl with
      | ret u => exact I.after hq
      | next => exact False.elim hq
      | brk => exact False.elim hq
      | cont => exact False.elim hq
  · rw [ar _ h hl] at P
    exact False.elim P
def eCall (fn : Fn) (dw : List W) (r : Ev) : Ev := fun σ h => (r σ h).vsb fun ws h1 => (fn (ws ++ dw) h1).cb σ
theorem s_call {x : Str} {f : Addr} {fn : Fn} {dw : List W} {r : Ev} {e : Expr} {es : List Expr} {p : Pos} (F : Fit G X Z k) (ok : FOk G X k f fn dw) (hm : X.mg x = some (.ref f)) (hk : PySem.W.keepIn X.K (.ref f) = true) (hr : SA G X Z r (e :: es)) (hg : Gl X x := by rfl)
    (hdb : (x == ("__debug__" : Str)) = false := by decide) (he : starEach (e :: es) X.env = (false, eval e X.env) :: starEach es X.env := by rfl) (hpl : (backTo pos (starEach es X.env)).any (·.1) = false := by rfl) :
    SE G X Z (eCall fn dw r) (.Call (.Name x p) (e :: es) [] pos) := .mk fun m h H σ τ Q R S P pins s I => by
  refine wpAny_Call_Name_kw (ld_glob I hg hm ?_ hdb)
  refine PySem.W.callWith_K (h₀ := X.base) I.ok.mod.kin hk ?_ he hpl
  refine thn (hr m h H σ τ (fun vs H1 => ∃ m1 h1 ws, Ext G.K m h.length H m1 h1.length H1 ∧ Rep G.K G.cl m1 h1 H1 ∧ RWs G.K G.cl m1 h1.length H1 ws vs ∧ PoE G m1 h1.length H1 Z Q ((fn (ws ++ dw) h1).cb σ)) R S
    (PoE.ae P fun ws h1 m1 H1 vs e1 R1 r1 P1 => ⟨m1, h1, ws, e1, R1, r1, P1⟩) pos pins s I) fun us s1 ⟨vs, H1, I1, rv, m1, h1, ws, e1, R1, r1, P1⟩ => ⟨I1.kIn, run_f F ok R1 (S.mono e1) r1 P1 I1 rv⟩
theorem s_call0 {x : Str} {f : Addr} {fn : Fn} {dw : List W} {p : Pos} (F : Fit G X Z k) (ok : FOk G X k f fn dw) (hm : X.mg x = some (.ref f)) (hk : PySem.W.keepIn X.K (.ref f) = true) (hg : Gl X x := by rfl)
    (hdb : (x == ("__debug__" : Str)) = false := by decide) : SE G X Z (eCall fn dw eNil) (.Call (.Name x p) [] [] pos) := .mk fun m h H σ τ Q R S P pins s I => by
  refine wpAny_Call_Name_kw (ld_glob I hg hm ?_ hdb)
  exact PySem.W.callWith_K0 I.kIn hk (run_f (us := []) (vs := []) (ws := []) F ok R S .nil P I .nil)
/-! ### instances with a dict -/
/-- equality by lists -/
def eqL : List Nat → List Nat → Bool
  | [], [] => true
  | a :: as, b :: bs => Nat.beq a b && eqL as bs
  | _, _ => false
theorem eqL_iff : ∀ xs ys : List Nat, eqL xs ys = true ↔ xs = ys
  | [], [] => by simp [eqL]
  | [], _ :: _ => by simp [eqL]
  | _ :: _, [] => by simp [eqL]
  | a :: as, b :: bs => by
    unfold eqL
    rw [Bool.and_eq_true_iff, eqL_iff as bs, Nat.beq_eq]
    simp
def eqS (a b : Str) : Bool := eqL a.cps.toList b.cps.toList
theorem eqS_eq (a b : Str) : eqS a b = decide (a = b) := by
  have : eqS a b = true ↔ a = b := by
    unfold eqS
    rw [eqL_iff]
    constructor
    · intro h
      cases a; cases b
      exact congrArg Str.mk (Array.ext' h)
    · intro h; rw [h]
  by_cases q : a = b
  · rw [decide_eq_true q]; exact this.mpr q
  · rw [decide_eq_false q]
    cases e : eqS a b with
    | false => rfl
    | true => exact absurd (this.mp e) q
def lookW (f : Str) : List (Str × W) → Option W
  | [] => none
  | (g, w) :: r => if eqS f g = true then some w else lookW f r
theorem lookW_eq (f : Str) : ∀ fs : List (Str × W), lookW f fs = fs.lookup f
  | [] => rfl
  | (g, w) :: r => by
    unfold lookW
    rw [eqS_eq, lookW_eq f r]
    by_cases e : f = g
    · subst e; simp [List.lookup]
    · have e' : (f == g) = false := by simpa using e
      simp [List.lookup, e, e']
def putW (f : Str) (w : W) : List (Str × W) → List (Str × W)
  | [] => [(f, w)]
  | (g, x) :: r => if eqS g f = true then (g, w) :: r else (g, x) :: putW f w r
theorem RF.put {m : Nat → Addr} {L : Nat} {H : Hp} {fs : List (Str × W)} {vs : List (Str × V)} {f : Str} {w : W} {v : V} (r : RF G.K G.cl m L H fs vs) (a : RW G.K G.cl m L H w v) : RF G.K G.cl m L H (putW f w fs) (putF f v vs) := by
  induction r with
  | nil => exact .cons a .nil
  | cons b _ ih =>
    unfold putW putF
    rw [eqS_eq]
    split
    · rename_i q
      rw [if_pos (by simpa using q)]; exact .cons a (by assumption)
    · rename_i q
      rw [if_neg (by simpa using q)]; exact .cons b ih
theorem RF.len {m : Nat → Addr} {L : Nat} {H : Hp} {fs : List (Str × W)} {vs : List (Str × V)} (r : RF G.K G.cl m L H fs vs) : fs.length = vs.length := by
  induction r with
  | nil => rfl
  | cons _ _ ih => simp [ih]
/-- the classes whose instances have the field -/
def FldOk (G : Cfg) (X : Cx) (cs : List Nat) (f : Str) : Prop := ∀ c ∈ cs, Cls X.K (G.cl c) ∧ NoAttr X.K (G.cl c) f
def fldAt (cs : List Nat) (f : Str) (x : W) (h : IH) : Out := match x with
  | .ref n => (match h[n]? with
    | some (.ins c fs) => if cs.contains c = true then (match lookW f fs with | some w => .v w h | none => .no) else .no
    | _ => .no)
  | _ => .no
def eFld (cs : List Nat) (f : Str) (a : Ev) : Ev := fun σ h => (a σ h).vb (fldAt cs f)
theorem s_fld {cs : List Nat} {f : Str} (F : Fit G X Z k) (ok : FldOk G X cs f) (ha : SE G X Z a ea) (hb : attributeBase ea f X.env (eval ea X.env) = eval ea X.env := by rfl) : SE G X Z (eFld cs f a) (.Attribute ea f pos) := .mk fun m h H σ τ Q R S P => by
  refine WE.of (pe_fld peM hb) (ha m h H σ τ _ R S (PoE.ee P fun x h1 m1 H1 v1 e1 R1 r1 P1 => ?_))
  cases r1 <;> first | exact P1.elim | skip
  rename_i n hn
  unfold fldAt at P1
  simp only at P1
  split at P1
  · rename_i c fs e
    split at P1
    · rename_i q
      obtain ⟨dx, fvs, hx, rf⟩ := R1.obj n _ e
      have ck := ok c (by simpa using q)
      rw [lookW_eq] at P1
      rcases rf.look f with ⟨z, _⟩ | ⟨w, v, z, z', rw_⟩
      · rw [z] at P1; exact P1.elim
      · rw [z] at P1; exact ⟨m1 n, _, dx, fvs, v, rfl, hx, ck.1, ck.2, z', P1 m1 H1 v Ext.refl R1 rw_⟩
    · exact P1.elim
  · exact P1.elim
def setAt (cs : List Nat) (f : Str) (x y : W) (σ : Sg) (h : IH) : Out := match x with
  | .ref n => (match h[n]? with
    | some (.ins c fs) => if cs.contains c = true ∧ fs.length < 1000 then .nx σ (h.set n (.ins c (putW f y fs))) else .no
    | _ => .no)
  | _ => .no
def eSetF (cs : List Nat) (f : Str) (o a : Ev) : Ev := fun σ h => (a σ h).vb fun y h1 => (o σ h1).vb fun x h2 => setAt cs f x y σ h2
theorem set_at {cs : List Nat} {f : Str} {m : Nat → Addr} {h : IH} {H : Hp} {x y : W} {vx vy : V} {σ : Sg} {τ : St} {D : Ends} (ok : FldOk G X cs f) (R : Rep G.K G.cl m h H) (S : RSt G m h.length H σ τ) (rx : RW G.K G.cl m h.length H x vx) (ry : RW G.K G.cl m h.length H y vy)
    (P : PoS G m h.length H Z D (setAt cs f x y σ h)) : ∃ n c dx fvs, vx = .ref (m n) ∧ c ∈ cs ∧ H (m n) = some (.ins (G.cl c) dx fvs) ∧ Cls X.K (G.cl c) ∧ NoAttr X.K (G.cl c) f ∧ fvs.length < 1000 ∧ D.nx τ (upd H (m n) (.ins (G.cl c) dx (putF f vy fvs))) := by
  cases rx <;> first | exact P.elim | skip
  rename_i n hn
  unfold setAt at P
  simp only at P
  split at P
  · rename_i c fs e
    split at P
    · rename_i q
      obtain ⟨dx, fvs, hx, rf⟩ := R.obj n _ e
      have ck := ok c (by simpa using q.1)
      obtain ⟨R', E'⟩ := R.put (n := n) (o' := .ins c (putW f y fs)) (u := .ins (G.cl c) dx (putF f vy fvs)) e (noTup_of hx (fun _ z => by cases z) (fun _ _ z => by cases z)) (fun ex => ⟨dx, _, upd_same, (rf.put ry).mono ex⟩)
      exact ⟨n, c, dx, fvs, rfl, by simpa using q.1, hx, ck.1, ck.2, by rw [← rf.len]; exact q.2, P m _ τ E' R' (S.mono E')⟩
    · exact P.elim
  · exact P.elim
theorem v_setF {cs : List Nat} {f : Str} {o : Ev} {eo : Expr} {pos' : Pos} (F : Fit G X Z k) (ok : FldOk G X cs f) (ho : SE G X Z o eo) (ha : SE G X Z a ea) (hs : swapsWith ea (some (.Attribute eo f pos')) pos.line X.env = pure false := by rfl) : SS G X Z (eSetF cs f o a) (.Assign [.Attribute eo f pos'] ea pos) := .mk fun m h H σ τ D R S P => by
  refine WS.of (ps_fld peM peM hs) (ha m h H σ τ _ R S (PoS.es P fun y h1 m1 H1 v1 e1 R1 r1 P1 => ?_))
  refine ho m1 h1 H1 σ τ _ R1 (S.mono e1) (PoS.es P1 fun x h2 m2 H2 v2 e2 R2 r2 P2 => ?_)
  obtain ⟨n, c, dx, fvs, rfl, _, hx, c1, c2, hl, q⟩ := set_at (X := X) ok R2 ((S.mono e1).mono e2) r2 (r1.mono e2) P2
  exact ⟨m2 n, _, dx, fvs, rfl, hx, c1, c2, hl, q⟩
/-- o.f += e, ints -/
def augAt (cs : List Nat) (f : Str) (x : W) (h1 : IH) (k : Nat → W → Out) : Out := match x with
  | .ref n => (match h1[n]? with
    | some (.ins c fs) => if cs.contains c = true then (match lookW f fs with | some u => k c u | none => .no) else .no
    | _ => .no)
  | _ => .no
def eAugF (cs : List Nat) (f : Str) (o a : Ev) : Ev := fun σ h => (o σ h).vb fun x h1 => augAt cs f x h1 fun c u => (a σ h1).vb fun y h2 => (oAddI u y h2).vb fun z h3 => setAt [c] f x z σ h3
theorem v_augF {cs : List Nat} {f : Str} {o : Ev} {eo : Expr} {pos' : Pos} (F : Fit G X Z k) (ok : FldOk G X cs f) (ho : SE G X Z o eo) (ha : SE G X Z a ea) : SS G X Z (eAugF cs f o a) (.AugAssign (.Attribute eo f pos') .Add ea pos) := .mk fun m h H σ τ D R S P => by
  refine WS.of (ps_fldaug peM peM in_add) (ho m h H σ τ _ R S (PoS.es P fun x h1 m1 H1 v1 e1 R1 r1 P1 => ?_))
  cases r1 <;> first | exact P1.elim | skip
  rename_i n hn
  unfold augAt at P1
  simp only at P1
  split at P1
  · rename_i c fs e
    split at P1
    · rename_i q
      obtain ⟨dx, fvs, hx, rf⟩ := R1.obj n _ e
      have ck := ok c (by simpa using q)
      rw [lookW_eq] at P1
      rcases rf.look f with ⟨z, _⟩ | ⟨w, v, z, z', rw_⟩
      · rw [z] at P1; exact P1.elim
      · rw [z] at P1
        refine ⟨m1 n, _, dx, fvs, v, rfl, hx, ck.1, ck.2, z', ?_⟩
        refine ha m1 h1 H1 σ τ _ R1 (S.mono e1) (PoS.es P1 fun y h2 m2 H2 v2 e2 R2 r2 P2 => ?_)
        have rw2 := rw_.mono e2
        cases rw2 <;> cases r2 <;> first | exact P2.elim | skip
        refine ⟨_, _, rfl, rfl, ?_⟩
        have P3 : PoS G m2 h2.length H2 Z D (setAt [c] f (.ref n) _ σ h2) := P2
        have rn : RW G.K G.cl m2 h2.length H2 (.ref n) (.ref (m2 n)) := .ref n (Nat.lt_of_lt_of_le hn e2.le)
        obtain ⟨n', c', dx', fvs', e', hc, hx', c1, c2, hl, q'⟩ := set_at (X := X) (cs := [c]) (fun c0 h0 => by rw [List.mem_singleton.mp h0]; exact ck) R2 ((S.mono e1).mono e2) rn (.int _) P3
        have en : m2 n' = m1 n := by rw [← e2.eq n hn]; exact (V.ref.inj e').symm
        rw [List.mem_singleton.mp hc, en] at hx' q'
        exact ⟨dx', fvs', hx', hl, q'⟩
    · exact P1.elim
  · exact P1.elim
end
end Dr
namespace Dr
open PySem L2

section
variable {G : Cfg} {X : Cx} {Z : WX} {k : Nat} {a b c : Ev} {ea eb ec : Expr} {pos : Pos} {st : Stmt} {sts sts' : List Stmt} {tg : Expr}
/-! ### methods and making of instances with a dict -/
/-- what the classes do under a name -/
def MOk (G : Cfg) (X : Cx) (k : Nat) (nm : Str) (tbl : Nat → Option (Fn × List W)) : Prop := ∀ c fn dw, tbl c = some (fn, dw) → ∃ f, Cls X.K (G.cl c) ∧ Meth X.K (G.cl c) nm f ∧ FOk G X k f fn dw
def recv (nm : Str) (tbl : Nat → Option (Fn × List W)) (x : W) (h : IH) (q : Fn → List W → Out) : Out := match x with
  | .ref n => (match h[n]? with
    | some (.ins c fs) => if (fs.lookup nm).isNone = true then (match tbl c with | some (fn, dw) => q fn dw | none => .no) else .no
    | _ => .no)
  | _ => .no
def eMeth (nm : Str) (tbl : Nat → Option (Fn × List W)) (o r : Ev) : Ev := fun σ h => (o σ h).vb fun x h1 => recv nm tbl x h1 fun fn dw => (r σ h1).vsb fun ws h2 => (fn (x :: ws ++ dw) h2).cb σ
theorem recv_at {nm : Str} {tbl : Nat → Option (Fn × List W)} {x : W} {v : V} {m : Nat → Addr} {h : IH} {H : Hp} {q : Fn → List W → Out} {Q : VK} (ok : MOk G X k nm tbl) (R : Rep G.K G.cl m h H) (r : RW G.K G.cl m h.length H x v) (P : PoE G m h.length H Z Q (recv nm tbl x h q)) :
    ∃ n c dx fvs f fn dw, v = .ref (m n) ∧ H (m n) = some (.ins (G.cl c) dx fvs) ∧ fvs.lookup nm = none ∧ Cls X.K (G.cl c) ∧ Meth X.K (G.cl c) nm f ∧ FOk G X k f fn dw ∧ PoE G m h.length H Z Q (q fn dw) := by
  cases r <;> first | exact P.elim | skip
  rename_i n hn
  unfold recv at P
  simp only at P
  split at P
  · rename_i c fs e
    split at P
    · rename_i hz
      split at P
      · rename_i fn dw et
        obtain ⟨dx, fvs, hx, rf⟩ := R.obj n _ e
        obtain ⟨f, c1, c2, c3⟩ := ok c fn dw et
        refine ⟨n, c, dx, fvs, f, fn, dw, rfl, hx, ?_, c1, c2, c3, P⟩
        rcases rf.look nm with ⟨_, z⟩ | ⟨w, v, z, _⟩
        · exact z
        · rw [z] at hz; cases hz
      · exact P.elim
    · exact P.elim
  · exact P.elim
theorem s_meth {nm : Str} {tbl : Nat → Option (Fn × List W)} {o r : Ev} {eo e : Expr} {es : List Expr} {apos : Pos} {pl : Sem Bool} (F : Fit G X Z k) (ok : MOk G X k nm tbl) (ho : SE G X Z o eo) (hr : SA G X Z r (e :: es))
    (hst : starEach (e :: es) X.env = (false, eval e X.env) :: starEach es X.env := by rfl) (hpl : (backTo pos (starEach es X.env)).any (·.1) = false := by rfl)
    (ht : eval (.Call (.Attribute eo nm apos) (e :: es) [] pos) X.env = (do
      let ov ← eval eo X.env
      standAt apos.atName
      let (f, first) ← holding [ov] (getMethod ov nm pl)
      callWith pos f first (backTo pos (starEach (e :: es) X.env)) (backToKw pos (keywordEach [] X.env))) := by rfl) :
    SE G X Z (eMeth nm tbl o r) (.Call (.Attribute eo nm apos) (e :: es) [] pos) := .mk fun m h H σ τ Q R S P pins s I => by
  refine PySem.W.methodCall_KW (pl := pl) (thn (ho m h H σ τ (fun v H1 => ∃ m1 h1 x, Ext G.K m h.length H m1 h1.length H1 ∧ Rep G.K G.cl m1 h1 H1 ∧ RW G.K G.cl m1 h1.length H1 x v ∧ PoE G m1 h1.length H1 Z Q (recv nm tbl x h1 fun fn dw => (r σ h1).vsb fun ws h2 => (fn (x :: ws ++ dw) h2).cb σ)) R S
    (PoE.ee P fun x h1 m1 H1 v e1 R1 r1 P1 => ⟨m1, h1, x, e1, R1, r1, P1⟩) pins s I) fun u s1 ⟨v, H1, I1, rv, m1, h1, x, e1, R1, r1, P1⟩ => ?_) ht
  obtain ⟨n, c, dx, fvs, f, fn, dw, rfl, hx, hl, c1, c2, c3, P2⟩ := recv_at ok R1 r1 P1
  obtain rfl : u = Value.ref (m1 n) := rv
  refine getmeth_ok I1 hx c1 c2 hl ?_
  refine PySem.W.callWith_K (first := [.ref (m1 n)]) (h₀ := X.base) I.ok.mod.kin c2.kp ?_ hst hpl
  refine thn (hr m1 h1 H1 σ τ (fun vs H2 => ∃ m2 h2 ws, Ext G.K m1 h1.length H1 m2 h2.length H2 ∧ Rep G.K G.cl m2 h2 H2 ∧ RWs G.K G.cl m2 h2.length H2 ws vs ∧ PoE G m2 h2.length H2 Z Q ((fn (x :: ws ++ dw) h2).cb σ)) R1 (S.mono e1)
    (PoE.ae P2 fun ws h2 m2 H2 vs e2 R2 r2 P3 => ⟨m2, h2, ws, e2, R2, r2, P3⟩) pos pins s1 I1) fun us s2 ⟨vs, H2, I2, rvs, m2, h2, ws, e2, R2, r2, P3⟩ => ⟨I2.kIn, ?_⟩
  exact run_f (ws := x :: ws) F c3 R2 ((S.mono e1).mono e2) (.cons (r1.mono e2) r2) P3 I2 (.cons rfl rvs)
theorem s_meth0 {nm : Str} {tbl : Nat → Option (Fn × List W)} {o : Ev} {eo : Expr} {apos : Pos} {pl : Sem Bool} (F : Fit G X Z k) (ok : MOk G X k nm tbl) (ho : SE G X Z o eo)
    (ht : eval (.Call (.Attribute eo nm apos) [] [] pos) X.env = (do
      let ov ← eval eo X.env
      standAt apos.atName
      let (f, first) ← holding [ov] (getMethod ov nm pl)
      callWith pos f first (backTo pos (starEach [] X.env)) (backToKw pos (keywordEach [] X.env))) := by rfl) :
    SE G X Z (eMeth nm tbl o eNil) (.Call (.Attribute eo nm apos) [] [] pos) := .mk fun m h H σ τ Q R S P pins s I => by
  refine PySem.W.methodCall_KW (pl := pl) (thn (ho m h H σ τ (fun v H1 => ∃ m1 h1 x, Ext G.K m h.length H m1 h1.length H1 ∧ Rep G.K G.cl m1 h1 H1 ∧ RW G.K G.cl m1 h1.length H1 x v ∧ PoE G m1 h1.length H1 Z Q (recv nm tbl x h1 fun fn dw => (eNil σ h1).vsb fun ws h2 => (fn (x :: ws ++ dw) h2).cb σ)) R S
    (PoE.ee P fun x h1 m1 H1 v e1 R1 r1 P1 => ⟨m1, h1, x, e1, R1, r1, P1⟩) pins s I) fun u s1 ⟨v, H1, I1, rv, m1, h1, x, e1, R1, r1, P1⟩ => ?_) ht
  obtain ⟨n, c, dx, fvs, f, fn, dw, rfl, hx, hl, c1, c2, c3, P2⟩ := recv_at ok R1 r1 P1
  obtain rfl : u = Value.ref (m1 n) := rv
  refine getmeth_ok I1 hx c1 c2 hl ?_
  exact PySem.W.callWith_K0 (first := [.ref (m1 n)]) I1.kIn c2.kp (run_f (ws := [x]) (vs := [.ref (m1 n)]) (us := [.ref (m1 n)]) F c3 R1 (S.mono e1) (.cons r1 .nil) P2 I1 (.cons rfl .nil))
/-! ### o[i] = e -/
def oSetI (x i y : W) (σ : Sg) (h : IH) : Out := match x, i with
  | .ref n, .int j => (match h[n]? with
    | some (.lst ws) => (match ixN ws.length j with | some q => .nx σ (h.set n (.lst (ws.set q y))) | none => .no)
    | _ => .no)
  | _, _ => .no
def eSetI (o i a : Ev) : Ev := fun σ h => (a σ h).vb fun y h1 => (o σ h1).vb fun x h2 => (i σ h2).vb fun z h3 => oSetI x z y σ h3
theorem v_setI {o i : Ev} {eo ei : Expr} {pos' : Pos} (F : Fit G X Z k) (ho : SE G X Z o eo) (hi : SE G X Z i ei) (ha : SE G X Z a ea) (hs : swapsWithSole [.Subscript eo ei pos'] ea pos.line X.env = pure false := by rfl) (hw : swappedStores [.Subscript eo ei pos'] ea X.env = pure none := by rfl)
    (h1 : (assignEach [.Subscript eo ei pos'] X.env).map (·.2) = [assign (.Subscript eo ei pos') X.env] := by rfl)
    (hg : ∀ v, assign (.Subscript eo ei pos') X.env v = (do
      let ov ← holding [v] (eval eo X.env)
      let iv ← holding [v, ov] (eval ei X.env)
      standAt pos'
      holding [v, ov, iv] (setItem ov iv v)
      release [v, ov, iv] []) := by intro _; rfl) : SS G X Z (eSetI o i a) (.Assign [.Subscript eo ei pos'] ea pos) := .mk fun m h H σ τ D R S P => by
  refine WS.of (ps_asg peM (pg_sub peM peM set_list hg) hs hw h1) (ha m h H σ τ _ R S (PoS.es P fun y h1 m1 H1 v1 e1 R1 r1 P1 => ?_))
  refine ho m1 h1 H1 σ τ _ R1 (S.mono e1) (PoS.es P1 fun x h2 m2 H2 v2 e2 R2 r2 P2 => ?_)
  refine hi m2 h2 H2 σ τ _ R2 ((S.mono e1).mono e2) (PoS.es P2 fun z h3 m3 H3 v3 e3 R3 r3 P3 => ?_)
  have S3 := ((S.mono e1).mono e2).mono e3
  have ry := (r1.mono e2).mono e3
  have rx := r2.mono e3
  clear P P1 P2 r1 r2
  cases rx <;> cases r3 <;> first | exact P3.elim | skip
  rename_i n hn j
  unfold oSetI at P3
  simp only at P3
  split at P3
  · rename_i ws e
    split at P3
    · rename_i q eq
      obtain ⟨vs, hx, hv⟩ := R3.obj n _ e
      refine ⟨m3 n, vs, j, q, rfl, rfl, hx, by rw [← hv.length]; exact eq, ?_⟩
      obtain ⟨R', E'⟩ := R3.put (n := n) (o' := .lst (ws.set q y)) (u := .lst (vs.set q v1)) e (noTup_of hx (fun _ z => by cases z) (fun _ _ z => by cases z)) (fun ex => ⟨_, upd_same, (hv.set ry q).mono ex⟩)
      exact P3 m3 _ τ E' R' (S3.mono E')
    · exact P3.elim
  · exact P3.elim
/-! ### built-in functions -/
def WC (X : Cx) (f : Value) : List V → Hp → VK → Prop := fun vs H Q => ∃ r, CallR X f r ∧ r vs H Q
theorem pcM {f : Value} : CallR X f (WC X f) := fun pins s σ H xs us Q I r h => let ⟨_, o, q⟩ := h; o pins s σ H xs us Q I r q
structure SC (G : Cfg) (X : Cx) (f : Value) (g : Fn) : Prop where
  go : ∀ m h H ws vs Z Q, Rep G.K G.cl m h H → RWs G.K G.cl m h.length H ws vs → PoE G m h.length H Z Q (g ws h) → WC X f vs H Q
instance {G : Cfg} {X : Cx} {f : Value} {g : Fn} : CoeFun (SC G X f g) (fun _ => ∀ m h H ws vs Z Q, Rep G.K G.cl m h H → RWs G.K G.cl m h.length H ws vs → PoE G m h.length H Z Q (g ws h) → WC X f vs H Q) := ⟨SC.go⟩
def eBlt (g : Fn) (r : Ev) : Ev := fun σ h => (r σ h).vsb fun ws h1 => g ws h1
theorem s_blt {x : Str} {id : String} {g : Fn} {r : Ev} {e : Expr} {es : List Expr} {p : Pos} (hc : SC G X (.builtin id) g) (hm : X.mg x = none) (hv : bootBuiltins x = some (.builtin id)) (hr : SA G X Z r (e :: es)) (hg : Gl X x := by rfl) (hn : x ≠ "__name__" := by decide) (hdb : (x == ("__debug__" : Str)) = false := by decide)
    (he : starEach (e :: es) X.env = (false, eval e X.env) :: starEach es X.env := by rfl) (hpl : (backTo pos (starEach es X.env)).any (·.1) = false := by rfl) : SE G X Z (eBlt g r) (.Call (.Name x p) (e :: es) [] pos) := .mk fun m h H σ τ Q R S P => by
  refine WE.of (pe_callB pcM hg hm hv paM hn hdb he hpl) (hr m h H σ τ _ R S (PoE.ae P fun ws h1 m1 H1 vs e1 R1 r1 P1 => ?_))
  exact hc m1 h1 H1 ws vs Z Q R1 r1 P1
theorem s_blty {x : Str} {T : String} {g : Fn} {r : Ev} {e : Expr} {es : List Expr} {p : Pos} (hc : SC G X (.type T) g) (hm : X.mg x = none) (hv : bootBuiltins x = some (.type T)) (hr : SA G X Z r (e :: es)) (hg : Gl X x := by rfl) (hn : x ≠ "__name__" := by decide) (hdb : (x == ("__debug__" : Str)) = false := by decide)
    (he : starEach (e :: es) X.env = (false, eval e X.env) :: starEach es X.env := by rfl) (hpl : (backTo pos (starEach es X.env)).any (·.1) = false := by rfl) : SE G X Z (eBlt g r) (.Call (.Name x p) (e :: es) [] pos) := .mk fun m h H σ τ Q R S P => by
  refine WE.of (pe_callTy pcM hg hm hv paM hn hdb he hpl) (hr m h H σ τ _ R S (PoE.ae P fun ws h1 m1 H1 vs e1 R1 r1 P1 => ?_))
  exact hc m1 h1 H1 ws vs Z Q R1 r1 P1
def bLen : Fn := fun ws h => match ws with
  | [.str z] => if z.length ≤ 16777216 then .v (.int (z.length : Nat)) h else .no
  | [.tup ts] => .v (.int (ts.length : Nat)) h
  | [.ref n] => (match lstAt h n with | some ls => .v (.int (ls.length : Nat)) h | none => .no)
  | _ => .no
theorem c_len (hK : X.K = G.K) : SC G X (.builtin "len") bLen := .mk fun m h H ws vs Z Q R r P => by
  unfold bLen at P
  split at P
  · rename_i z
    split at P
    · rename_i q
      cases r with
      | cons r1 r2 => cases r1; cases r2; exact ⟨_, call_len_str, z, rfl, by rw [lineSz]; exact q, P m H _ Ext.refl R (.int _)⟩
    · exact P.elim
  · rename_i ts
    cases r with
    | cons r1 r2 =>
      cases r1; cases r2
      rename_i p us hp hu
      refine ⟨_, call_len_seq, p, us, rfl, .inr (hK ▸ hp), ?_⟩
      rw [← hu.length]
      exact P m H _ Ext.refl R (.int _)
  · rename_i n
    split at P
    · rename_i ls e
      cases r with
      | cons r1 r2 =>
        cases r1; cases r2
        obtain ⟨us, hx, hu⟩ := lstAt_of R e
        refine ⟨_, call_len_seq, m n, us, rfl, .inl (hK ▸ hx), ?_⟩
        rw [← hu.length]
        exact P m H _ Ext.refl R (.int _)
    · exact P.elim
  · exact P.elim
def bInt : Fn := fun ws h => match ws with
  | [.int i] => .v (.int i) h
  | [.bl q] => .v (.int (if q then 1 else 0)) h
  | _ => .no
theorem c_int : SC G X (.type "int") bInt := .mk fun m h H ws vs Z Q R r P => by
  unfold bInt at P
  split at P
  · cases r with
    | cons r1 r2 => cases r1; cases r2; exact ⟨_, call_int1, .inl ⟨_, rfl, P m H _ Ext.refl R (.int _)⟩⟩
  · cases r with
    | cons r1 r2 => cases r1; cases r2; exact ⟨_, call_int1, .inr ⟨_, rfl, P m H _ Ext.refl R (.int _)⟩⟩
  · exact P.elim
def bMin : Fn := fun ws h => match ws with
  | [.int i, .int j] => .v (.int (if j < i then j else i)) h
  | _ => .no
def bMax : Fn := fun ws h => match ws with
  | [.int i, .int j] => .v (.int (if j > i then j else i)) h
  | _ => .no
theorem c_min (hc : X.calm = true) : SC G X (.builtin "min") bMin := .mk fun m h H ws vs Z Q R r P => by
  unfold bMin at P
  split at P
  · cases r with
    | cons r1 r2 => cases r1; cases r2 with
      | cons r2 r3 => cases r2; cases r3; exact ⟨_, call_min2 hc, _, _, rfl, P m H _ Ext.refl R (.int _)⟩
  · exact P.elim
theorem c_max (hc : X.calm = true) : SC G X (.builtin "max") bMax := .mk fun m h H ws vs Z Q R r P => by
  unfold bMax at P
  split at P
  · cases r with
    | cons r1 r2 => cases r1; cases r2 with
      | cons r2 r3 => cases r2; cases r3; exact ⟨_, call_max2 hc, _, _, rfl, P m H _ Ext.refl R (.int _)⟩
  · exact P.elim
end
end Dr
namespace Dr
open PySem L2

section
variable {G : Cfg} {X : Cx} {Z : WX} {k : Nat} {a b c : Ev} {ea eb ec : Expr} {pos : Pos} {st : Stmt} {sts sts' : List Stmt} {tg : Expr}
/-! ### instances with slots -/
def SlotOk (G : Cfg) (X : Cx) (c : Nat) (f : Str) (i : Nat) : Prop := SlX.SCls X.K (G.cl c) ∧ ∃ p, SlX.Slot1 X.K (G.cl c) f p i
theorem slt_of {m : Nat → Addr} {h : IH} {H : Hp} {n c : Nat} {ws : List (Option W)} (R : Rep G.K G.cl m h H) (e : h[n]? = some (.slt c ws)) : ∃ dx vs, SlX.Slt H (m n) (G.cl c) dx vs ∧ ∀ (i : Nat) (w : W), ws[i]? = some (some w) → ∃ v : V, vs[i]? = some (some v) ∧ RW G.K G.cl m h.length H w v := by
  obtain ⟨dx, vs, hd, hv⟩ := R.obj n _ e
  refine ⟨dx, vs, ?_, hv⟩
  rcases hd with ⟨h1, h2, _⟩ | ⟨h1, h3⟩
  · exact .inl ⟨h1, h2⟩
  · exact .inr ⟨h1, h3⟩
def slotAt (c i : Nat) (x : W) (h : IH) : Out := match x with
  | .ref n => (match h[n]? with
    | some (.slt c' ws) => if c' = c then (match ws[i]? with | some (some w) => .v w h | _ => .no) else .no
    | _ => .no)
  | _ => .no
def eSlot (c i : Nat) (a : Ev) : Ev := fun σ h => (a σ h).vb (slotAt c i)
theorem s_slot {cc i : Nat} {f : Str} (F : Fit G X Z k) (ok : SlotOk G X cc f i) (ha : SE G X Z a ea) (hb : attributeBase ea f X.env (eval ea X.env) = eval ea X.env := by rfl) : SE G X Z (eSlot cc i a) (.Attribute ea f pos) := .mk fun m h H σ τ Q R S P => by
  refine WE.of (SlX.pe_sl peM hb) (ha m h H σ τ _ R S (PoE.ee P fun x h1 m1 H1 v1 e1 R1 r1 P1 => ?_))
  cases r1 <;> first | exact P1.elim | skip
  rename_i n hn
  unfold slotAt at P1
  simp only at P1
  split at P1
  · rename_i c' ws e
    split at P1
    · rename_i q
      subst q
      split at P1
      · rename_i w ew
        obtain ⟨dx, vs, hs, hv⟩ := slt_of R1 e
        obtain ⟨v, hv1, rv⟩ := hv i w ew
        obtain ⟨sc, p, sl⟩ := ok
        exact ⟨m1 n, _, dx, p, vs, i, v, rfl, hs, sc, sl, hv1, P1 m1 H1 v Ext.refl R1 rv⟩
      · exact P1.elim
    · exact P1.elim
  · exact P1.elim
def setSlot (c i : Nat) (x y : W) (σ : Sg) (h : IH) : Out := match x with
  | .ref n => (match h[n]? with
    | some (.slt c' ws) => if c' = c then .nx σ (h.set n (.slt c ((ws ++ List.replicate (i + 1 - ws.length) none).set i (some y)))) else .no
    | _ => .no)
  | _ => .no
def eSetS (c i : Nat) (o a : Ev) : Ev := fun σ h => (a σ h).vb fun y h1 => (o σ h1).vb fun x h2 => setSlot c i x y σ h2
theorem v_setS {cc i : Nat} {f : Str} {o : Ev} {eo : Expr} {pos' : Pos} (F : Fit G X Z k) (ok : SlotOk G X cc f i) (ho : SE G X Z o eo) (ha : SE G X Z a ea) (hs : swapsWith ea (some (.Attribute eo f pos')) pos.line X.env = pure false := by rfl) : SS G X Z (eSetS cc i o a) (.Assign [.Attribute eo f pos'] ea pos) := .mk fun m h H σ τ D R S P => by
  refine WS.of (SlX.ps_sl peM peM hs) (ha m h H σ τ _ R S (PoS.es P fun y h1 m1 H1 v1 e1 R1 r1 P1 => ?_))
  refine ho m1 h1 H1 σ τ _ R1 (S.mono e1) (PoS.es P1 fun x h2 m2 H2 v2 e2 R2 r2 P2 => ?_)
  have S2 := (S.mono e1).mono e2
  have ry := r1.mono e2
  clear P P1 r1
  cases r2 <;> first | exact P2.elim | skip
  rename_i n hn
  unfold setSlot at P2
  simp only at P2
  split at P2
  · rename_i c' ws e
    split at P2
    · rename_i q
      subst q
      obtain ⟨dx, vs, hsl, R3, E3⟩ := R2.putS e (i := i) ry
      obtain ⟨sc, p, sl⟩ := ok
      exact ⟨m2 n, _, dx, p, vs, i, rfl, hsl, sc, sl, P2 m2 _ τ E3 R3 (S2.mono E3)⟩
    · exact P2.elim
  · exact P2.elim
/-- methods of classes with slots -/
def MSOk (G : Cfg) (X : Cx) (k : Nat) (c : Nat) (nm : Str) (fn : Fn) (dw : List W) : Prop := ∃ f, SlX.SCls X.K (G.cl c) ∧ Meth X.K (G.cl c) nm f ∧ FOk G X k f fn dw
def recvS (c : Nat) (x : W) (h : IH) (q : Out) : Out := match x with
  | .ref n => (match h[n]? with
    | some (.slt c' _) => if c' = c then q else .no
    | _ => .no)
  | _ => .no
def eMethS (c : Nat) (fn : Fn) (dw : List W) (o r : Ev) : Ev := fun σ h => (o σ h).vb fun x h1 => recvS c x h1 ((r σ h1).vsb fun ws h2 => (fn (x :: ws ++ dw) h2).cb σ)
theorem recvS_at {cc : Nat} {x : W} {v : V} {m : Nat → Addr} {h : IH} {H : Hp} {q : Out} {Q : VK} (R : Rep G.K G.cl m h H) (r : RW G.K G.cl m h.length H x v) (P : PoE G m h.length H Z Q (recvS cc x h q)) :
    ∃ n dx vs, v = .ref (m n) ∧ SlX.Slt H (m n) (G.cl cc) dx vs ∧ PoE G m h.length H Z Q q := by
  cases r <;> first | exact P.elim | skip
  rename_i n hn
  unfold recvS at P
  simp only at P
  split at P
  · rename_i c' ws e
    split at P
    · rename_i q
      subst q
      obtain ⟨dx, vs, hs, _⟩ := slt_of R e
      exact ⟨n, dx, vs, rfl, hs, P⟩
    · exact P.elim
  · exact P.elim
theorem s_methS {cc : Nat} {nm : Str} {fn : Fn} {dw : List W} {o r : Ev} {eo e : Expr} {es : List Expr} {apos : Pos} {pl : Sem Bool} (F : Fit G X Z k) (ok : MSOk G X k cc nm fn dw) (ho : SE G X Z o eo) (hr : SA G X Z r (e :: es))
    (hst : starEach (e :: es) X.env = (false, eval e X.env) :: starEach es X.env := by rfl) (hpl : (backTo pos (starEach es X.env)).any (·.1) = false := by rfl)
    (ht : eval (.Call (.Attribute eo nm apos) (e :: es) [] pos) X.env = (do
      let ov ← eval eo X.env
      standAt apos.atName
      let (f, first) ← holding [ov] (getMethod ov nm pl)
      callWith pos f first (backTo pos (starEach (e :: es) X.env)) (backToKw pos (keywordEach [] X.env))) := by rfl) :
    SE G X Z (eMethS cc fn dw o r) (.Call (.Attribute eo nm apos) (e :: es) [] pos) := .mk fun m h H σ τ Q R S P pins s I => by
  refine PySem.W.methodCall_KW (pl := pl) (thn (ho m h H σ τ (fun v H1 => ∃ m1 h1 x, Ext G.K m h.length H m1 h1.length H1 ∧ Rep G.K G.cl m1 h1 H1 ∧ RW G.K G.cl m1 h1.length H1 x v ∧ PoE G m1 h1.length H1 Z Q (recvS cc x h1 ((r σ h1).vsb fun ws h2 => (fn (x :: ws ++ dw) h2).cb σ))) R S
    (PoE.ee P fun x h1 m1 H1 v e1 R1 r1 P1 => ⟨m1, h1, x, e1, R1, r1, P1⟩) pins s I) fun u s1 ⟨v, H1, I1, rv, m1, h1, x, e1, R1, r1, P1⟩ => ?_) ht
  obtain ⟨n, dx, vs, rfl, hsl, P2⟩ := recvS_at R1 r1 P1
  obtain ⟨f, c1, c2, c3⟩ := ok
  obtain rfl : u = Value.ref (m1 n) := rv
  refine SlX.getmethsl_ok I1 hsl c1 c2 ?_
  refine PySem.W.callWith_K (first := [.ref (m1 n)]) (h₀ := X.base) I.ok.mod.kin c2.kp ?_ hst hpl
  refine thn (hr m1 h1 H1 σ τ (fun vs H2 => ∃ m2 h2 ws, Ext G.K m1 h1.length H1 m2 h2.length H2 ∧ Rep G.K G.cl m2 h2 H2 ∧ RWs G.K G.cl m2 h2.length H2 ws vs ∧ PoE G m2 h2.length H2 Z Q ((fn (x :: ws ++ dw) h2).cb σ)) R1 (S.mono e1)
    (PoE.ae P2 fun ws h2 m2 H2 vs e2 R2 r2 P3 => ⟨m2, h2, ws, e2, R2, r2, P3⟩) pos pins s1 I1) fun us s2 ⟨vs, H2, I2, rvs, m2, h2, ws, e2, R2, r2, P3⟩ => ⟨I2.kIn, ?_⟩
  exact run_f (ws := x :: ws) F c3 R2 ((S.mono e1).mono e2) (.cons (r1.mono e2) r2) P3 I2 (.cons rfl rvs)
theorem s_methS0 {cc : Nat} {nm : Str} {fn : Fn} {dw : List W} {o : Ev} {eo : Expr} {apos : Pos} {pl : Sem Bool} (F : Fit G X Z k) (ok : MSOk G X k cc nm fn dw) (ho : SE G X Z o eo)
    (ht : eval (.Call (.Attribute eo nm apos) [] [] pos) X.env = (do
      let ov ← eval eo X.env
      standAt apos.atName
      let (f, first) ← holding [ov] (getMethod ov nm pl)
      callWith pos f first (backTo pos (starEach [] X.env)) (backToKw pos (keywordEach [] X.env))) := by rfl) :
    SE G X Z (eMethS cc fn dw o eNil) (.Call (.Attribute eo nm apos) [] [] pos) := .mk fun m h H σ τ Q R S P pins s I => by
  refine PySem.W.methodCall_KW (pl := pl) (thn (ho m h H σ τ (fun v H1 => ∃ m1 h1 x, Ext G.K m h.length H m1 h1.length H1 ∧ Rep G.K G.cl m1 h1 H1 ∧ RW G.K G.cl m1 h1.length H1 x v ∧ PoE G m1 h1.length H1 Z Q (recvS cc x h1 ((eNil σ h1).vsb fun ws h2 => (fn (x :: ws ++ dw) h2).cb σ))) R S
    (PoE.ee P fun x h1 m1 H1 v e1 R1 r1 P1 => ⟨m1, h1, x, e1, R1, r1, P1⟩) pins s I) fun u s1 ⟨v, H1, I1, rv, m1, h1, x, e1, R1, r1, P1⟩ => ?_) ht
  obtain ⟨n, dx, vs, rfl, hsl, P2⟩ := recvS_at R1 r1 P1
  obtain ⟨f, c1, c2, c3⟩ := ok
  obtain rfl : u = Value.ref (m1 n) := rv
  refine SlX.getmethsl_ok I1 hsl c1 c2 ?_
  exact PySem.W.callWith_K0 (first := [.ref (m1 n)]) I1.kIn c2.kp (run_f (ws := [x]) (vs := [.ref (m1 n)]) (us := [.ref (m1 n)]) F c3 R1 (S.mono e1) (.cons r1 .nil) P2 I1 (.cons rfl .nil))
/-! ### making an instance -/
def newObj (sl : Bool) (c : Nat) : IO := if sl then .slt c [] else .ins c []
def eNew (sl : Bool) (c : Nat) (fn : Fn) (dw : List W) (r : Ev) : Ev := fun σ h => (r σ h).vsb fun ws h1 => match fn (.ref h1.length :: ws ++ dw) (h1 ++ [newObj sl c]) with
  | .v .non h2 => .v (.ref h1.length) h2
  | .ex c w _ h2 => .ex c w σ h2
  | _ => .no
theorem run_new {sl : Bool} {cc : Nat} {f : Addr} {fn : Fn} {dw ws : List W} {τ : St} {σ : Sg} {m : Nat → Addr} {h : IH} {H : Hp} {vs : List V} {us : List Value} {Q : VK} {pins : List (Addr × Obj)} {s : Shared} (gd : X.A.guards = some []) (hr : Room (k + 1) X.A) (tk : Tk2 G X Z) (M : Mk X.K (G.cl cc) f) (ok : FOk G X k f fn dw) (R : Rep G.K G.cl m h H) (S : RSt G m h.length H σ τ)
    (r : RWs G.K G.cl m h.length H ws vs) (P : PoE G m h.length H Z Q (match fn (.ref h.length :: ws ++ dw) (h ++ [newObj sl cc]) with
      | .v .non h2 => .v (.ref h.length) h2
      | .ex c w _ h2 => .ex c w σ h2
      | _ => .no)) (I : Inv X pins τ H s) (rv : Vals vs us) : wpAny (model X.prog X.w) X.A (call (.ref (G.cl cc)) us) (EP X pins τ Q) X.xe s := by
  obtain ⟨fd, ps, ds, dvs, Fo, hb, hd, hw, ar⟩ := ok
  have fr0 : H s.heap.objs.size = none := I.hok.fresh (Nat.le_refl _)
  have fr1 : H (s.heap.objs.size + 1) = none := I.hok.fresh (Nat.le_succ _)
  have ne01 : s.heap.objs.size + 1 ≠ s.heap.objs.size := Nat.succ_ne_self _
  have I2 := Inv.made (C := G.cl cc) I
  obtain ⟨Ra, Ea⟩ := R.aside (q := s.heap.objs.size) (o := .own (s.heap.objs.size + 1)) fr0
  have fr1' : upd H s.heap.objs.size (.own (s.heap.objs.size + 1)) (s.heap.objs.size + 1) = none := by rw [upd_ne ne01]; exact fr1
  obtain ⟨Rb, Eb⟩ := Ra.push (q := s.heap.objs.size + 1) (u := .ins (G.cl cc) s.heap.objs.size []) (o := newObj sl cc) fr1' (by
    cases sl with
    | false => exact ⟨_, _, upd_same, .nil⟩
    | true => exact ⟨_, [], .inl ⟨upd_same, rfl, by rw [upd_ne (Ne.symm ne01), upd_same]⟩, fun i w z => by simp at z⟩)
  have E2 := Ea.trans Eb
  have last : ext1 m h.length (s.heap.objs.size + 1) h.length = s.heap.objs.size + 1 := by unfold ext1; rw [if_pos rfl]
  have rn : RW G.K G.cl (ext1 m h.length (s.heap.objs.size + 1)) (h ++ [newObj sl cc]).length (upd (upd H s.heap.objs.size (.own (s.heap.objs.size + 1))) (s.heap.objs.size + 1) (.ins (G.cl cc) s.heap.objs.size [])) (.ref h.length) (.ref (s.heap.objs.size + 1)) := by
    have q := RW.ref (K := G.K) (cl := G.cl) (m := ext1 m h.length (s.heap.objs.size + 1)) (L := (h ++ [newObj sl cc]).length) (H := upd (upd H s.heap.objs.size (.own (s.heap.objs.size + 1))) (s.heap.objs.size + 1) (.ins (G.cl cc) s.heap.objs.size [])) h.length (by simp)
    rw [last] at q; exact q
  have r2 := RWs.cons rn ((r.mono E2).append (hw (ext1 m h.length (s.heap.objs.size + 1)) (h ++ [newObj sl cc]).length (upd (upd H s.heap.objs.size (.own (s.heap.objs.size + 1))) (s.heap.objs.size + 1) (.ins (G.cl cc) s.heap.objs.size []))))
  have rv2 : Vals (V.ref (s.heap.objs.size + 1) :: (vs ++ dvs)) (Value.ref (s.heap.objs.size + 1) :: (us ++ ds)) := .cons rfl (rv.append hd)
  by_cases hl : (W.ref h.length :: ws ++ dw).length = ps.length
  · have sp : spC G ps.length fn (V.ref (s.heap.objs.size + 1) :: (vs ++ dvs)) (upd (upd H s.heap.objs.size (.own (s.heap.objs.size + 1))) (s.heap.objs.size + 1) (.ins (G.cl cc) s.heap.objs.size [])) (fun v H2 => v = .non ∧ Q (.ref (s.heap.objs.size + 1)) H2) (fun cls d H' => Z cls d τ H') := by
      refine ⟨_, _, _, hl, Rb, r2, ?_⟩
      cases e : fn (.ref h.length :: ws ++ dw) (h ++ [newObj sl cc]) with
      | v w h' =>
        rw [e] at P
        intro m' H' v e' R' r'
        cases w <;> first | exact P.elim | skip
        cases r'
        refine ⟨rfl, P m' H' _ (E2.trans e') R' ?_⟩
        have q := rn.mono e'
        exact q
      | ex c w s h' => rw [e] at P; exact fun m' H' d v e' R' r' hd' => P m' H' d v τ (E2.trans e') R' r' ((S.mono E2).mono e') hd'
      | vs w h => rw [e] at P; exact P
      | nx s h => rw [e] at P; exact P
      | rt w h => rw [e] at P; exact P
      | bk s h => rw [e] at P; exact P
      | ct s h => rw [e] at P; exact P
      | no => rw [e] at P; exact P
    have hl2 : (Value.ref (s.heap.objs.size + 1) :: us ++ ds).length = ps.length := by
      have z := rv2.length
      have z2 := r2.length
      have hl' : (W.ref h.length :: (ws ++ dw)).length = ps.length := hl
      rw [z2] at hl'
      rw [z] at hl'
      exact hl'
    refine wpAny_call (make_map (f := f) I.kIn M.makes M.init (beq_iff_eq.mp M.fn) (codeAny_mono (Fo.go _ X.stack _ _ ⟨Value.ref (s.heap.objs.size + 1) :: us, []⟩ (Value.ref (s.heap.objs.size + 1) :: (us ++ ds)) _ _ _ (by first | exact gd | (simpa [Around.under, Code.guards, Code.isGuard, pushGuards] using gd)) (hr.make (G.cl cc) us [])
      (I2.env0.make (G.cl cc) us []) (hb _ (Value.ref (s.heap.objs.size + 1) :: us) I2.kIn hl2) rv2 sp) fun r s' hq' => ?_))
    cases r with
    | error e => exact pass2 tk τ pins _ _ e s' I2 hq'
    | ok fl =>
      cases fl with
      | ret u =>
        obtain ⟨v, H', I3, rv, ev, q3⟩ := I2.after hq'
        subst ev
        exact ⟨rv, ⟨V.ref (s.heap.objs.size + 1), H', I3, rfl, q3⟩⟩
      | next => exact False.elim hq'
      | brk => exact False.elim hq'
      | cont => exact False.elim hq'
  · rw [ar _ (h ++ [newObj sl cc]) hl] at P
    exact False.elim P
theorem s_new {x : Str} {sl : Bool} {cc : Nat} {f : Addr} {fn : Fn} {dw : List W} {r : Ev} {e : Expr} {es : List Expr} {p : Pos} (F : Fit G X Z (k + 1)) (M : Mk X.K (G.cl cc) f) (ok : FOk G X k f fn dw) (hm : X.mg x = some (.ref (G.cl cc))) (hr : SA G X Z r (e :: es)) (hg : Gl X x := by rfl)
    (hdb : (x == ("__debug__" : Str)) = false := by decide) (he : starEach (e :: es) X.env = (false, eval e X.env) :: starEach es X.env := by rfl) (hpl : (backTo pos (starEach es X.env)).any (·.1) = false := by rfl) :
    SE G X Z (eNew sl cc fn dw r) (.Call (.Name x p) (e :: es) [] pos) := .mk fun m h H σ τ Q R S P pins s I => by
  refine wpAny_Call_Name_kw (ld_glob I hg hm ?_ hdb)
  refine PySem.W.callWith_K (h₀ := X.base) I.ok.mod.kin M.kp ?_ he hpl
  refine thn (hr m h H σ τ (fun vs H1 => ∃ m1 h1 ws, Ext G.K m h.length H m1 h1.length H1 ∧ Rep G.K G.cl m1 h1 H1 ∧ RWs G.K G.cl m1 h1.length H1 ws vs ∧ PoE G m1 h1.length H1 Z Q (match fn (.ref h1.length :: ws ++ dw) (h1 ++ [newObj sl cc]) with
      | .v .non h2 => .v (.ref h1.length) h2
      | .ex c w _ h2 => .ex c w σ h2
      | _ => .no)) R S
    (PoE.ae P fun ws h1 m1 H1 vs e1 R1 r1 P1 => ⟨m1, h1, ws, e1, R1, r1, P1⟩) pos pins s I) fun us s1 ⟨vs, H1, I1, rv, m1, h1, ws, e1, R1, r1, P1⟩ => ⟨I1.kIn, run_new F.gd F.room F.tk M ok R1 (S.mono e1) r1 P1 I1 rv⟩
end
end Dr
set_option maxHeartbeats 2000000
/-! An own error whose __init__ says super().__init__('..') and keeps its argument under a name. -/
namespace PySem
namespace XeX
open PySem.W PySem.Calls PyProof.Rows PySem.HandSPX Builtin Builtin.ObjectAttr
/-- own classes ahead of the built-in's own row -/
def tailIs (bm : List Value) : List Value → Bool
  | .ref _ :: r => tailIs bm r
  | l => l == bm
def typesOnly : List Value → Bool
  | [] => true
  | .type _ :: r => typesOnly r
  | _ => false
theorem tail_ind {bm : List Value} {P : List Value → Prop} (h0 : P bm) (h1 : ∀ c r, P r → P (.ref c :: r)) : ∀ l, tailIs bm l = true → P l
  | [], e => by rw [show ([] : List Value) = bm from beq_iff_eq.mp e]; exact h0
  | a :: r, e => by
    cases a with
    | ref c => exact h1 c r (tail_ind h0 h1 r e)
    | _ => have q := beq_iff_eq.mp (show ((_ :: r) == bm) = true from e); rw [q]; exact h0
theorem tail_pass {B : String} {bm : List Value} (SF : StoreFacts B bm "object.__setattr__" "object") (self : Value) (l : List Value) (h : tailIs bm l = true) : refuseLoop self "__setattr__" l = pure () :=
  tail_ind (P := fun l => refuseLoop self "__setattr__" l = pure ()) (SF.passes self) (fun c r ih => by rw [refuseLoop_ref]; exact ih) l h
theorem tail_has {bm : List Value} (X : String) (l : List Value) (h : tailIs bm l = true) : l.contains (.type X) = bm.contains (.type X) :=
  tail_ind (P := fun l => l.contains (.type X) = bm.contains (.type X)) rfl (fun c r ih => by rw [List.contains_cons, ih]; rfl) l h
section
variable {prog : Program} {w : World} {A : Around} {R : Result → Shared → Prop} {hp : Heap} {g : Array GenState} {d : Drawn} {t : Nat} {os : OsState}
/-- the first attribute of a fresh error is stored -/
theorem xosa {B : String} {bm : List Value} (SF : StoreFacts B bm "object.__setattr__" "object") {K : Frag} {name : Str} {tk : Tok} {v : Value} {x C : Addr} {fv : Array Value} {cd : ClassData}
    (X : K.In hp) (hx : hp.get? x = some { cls := .ref C, data := .fields fv }) (hcd : clsIn K C = some cd) (hm : tailIs bm cd.mro = true) (hne : cd.mro.isEmpty = false) (hh : cd.hasDict = true) (ha : findIn K (.ref C) name = some none)
    (hq : ∀ h' tk' dx, (∀ b o, b ≠ x → hp.get? b = some o → h'.get? b = some o) → hp.objs.size ≤ dx → dx ≠ x → h'.get? x = some { cls := .ref C, dict := some dx, data := .fields fv } →
      h'.Ns1 dx (fun y => if y = name then some v else none) → R (.ok (.ret .none)) ⟨h', g, d, tk', os⟩) :
    codeAny (model prog w) A (.call (.builtin "object.__setattr__") ⟨[.ref x, .str name tk, v], []⟩) R ⟨hp, g, d, t, os⟩ := by
  have I : InstAt hp x { cls := .ref C, data := .fields fv } C none := ⟨hx, rfl, rfl, trivial⟩
  have S0 := F.store_object
  have hob : cd.mro.contains (.type "object") = true := (tail_has "object" _ hm).trans SF.hasOwner
  have hxs : x ≠ hp.objs.size := Nat.ne_of_lt (Heap.lt_size hx)
  have sub : Looks (model prog w) hp (isInstance (.ref x) (.type "object")) true := I.type.andThen (looks_mroIn X (by
    unfold mroIn
    rw [hcd, Option.bind_some, if_neg (by rw [hne]; decide), hob]))
  have hmr : Looks (model prog w) hp (mroOf (.ref C)) cd.mro := (looks_clsIn X hcd).andThen .now
  have L3 : Looks (model prog w) hp (storeTaker? none) none := .now
  have hcls : Looks (model prog w) hp (classData C) cd := looks_clsIn X hcd
  refine codeAny_call_builtin S0.slot.plain S0.entry (@check_slot (model prog w) _ _ ⟨hp, g, d, t, os⟩ "object.__setattr__" "object" "__setattr__" (.ref x) [.str name tk, v] [] _ S0.kind S0.split sub (S0.args (.ref x) (.str name tk) v) ?_)
  rw [osa_eq, refuse_eq]
  refine wpAny_bind (wpAny_bind (I.type.at (wpAny_bind (hmr.at ?_))))
  rw [tail_pass SF _ _ hm]
  refine wpAny_pure (wpAny_bind (I.type.at (wpAny_bind ((looks_findIn X ha).at (wpAny_bind (L3.at ?_))))))
  show wpAny _ _ (storeInOwnDict (.ref x) (.ref C) (.str name tk) name v false) _ _ _
  obtain ⟨nm, bs, mro, ns, qn, hd, sn, sb, ab, col, del⟩ := cd
  dsimp only at hh
  subst hh
  unfold storeInOwnDict ownDictForStores
  repeat (first | with_reducible refine store_in_new ?_ ?_ | with_reducible refine wpAny_loadPart_at hx ?_ | with_reducible refine hcls.at ?_ | wp_step)
  · exact ⟨_, #[], _, (Heap.get?_update_ne _ _ _ _ hxs.symm).trans (Heap.get?_push_at rfl rfl), rfl, fun e he => absurd he (by simp), fun _ => rfl⟩
  · intro h' tk' hn' hs
    have hx1 : (hp.push { cls := .type "dict", data := .dict #[] }).get? x = some { cls := .ref C, data := .fields fv } := Heap.get?_push_of_some _ hx
    exact hq h' tk' hp.objs.size (fun b o hb ho => (hs.2 b (Nat.ne_of_lt (Heap.lt_size ho))).trans ((Heap.get?_update_ne _ _ _ _ hb).trans (Heap.get?_push_of_some _ ho))) (Nat.le_refl _) hxs.symm
      ((hs.2 x hxs).trans (Heap.get?_update_self _ hx1 rfl)) hn'
/-- the bound built-in __init__ is called: the args are laid anew -/
theorem call_mw {B newId i : String} {bmB bm : List Value} (FB : ExcBaseFacts B newId i bmB) {nm q : Str} {C N u x t0 : Addr} {bs : List Value} {hdct : Bool} {sn : List Str} {sub : List Value} {ab : Bool} {col : Option Bool} {dd : Option Addr} {k0 k1 k2 k3 k5 : Option Value} {rest : List Value} {E : Value → Shared → Prop} {Q : Value → Shared → Prop}
    (hC : hp.get? C = some (excClassObj nm q C N bs bm hdct sn sub ab col dd k0 k1 k2 k3 k5 newId)) (hu : hp.get? u = some (kxs_mw i x)) (hx : hp.get? x = some (excO C t0)) (hz : rest.length ≤ sizeLine)
    (hq : ∀ h' t', (∀ b o, b ≠ x → hp.get? b = some o → h'.get? b = some o) → h'.get? x = some (excO C t') → Q .none ⟨h', g, d, t, os⟩) : wpAny (model prog w) A (call (.ref u) rest) Q E ⟨hp, g, d, t, os⟩ := by
  refine wpAny_call (codeAny_of_tree ?_)
  show wpAny _ A.in1 (callAny (.ref u) ⟨rest, []⟩) _ _ _
  simp only [callAny]
  refine wpAny_bind (wpAny_load hu ?_)
  simp only [kxs_mw, show (Value.type "method-wrapper" == Value.type "method" || Value.type "method-wrapper" == Value.type "builtin_function_or_method" || Value.type "method-wrapper" == Value.type "method-wrapper") = true by decide, if_true]
  refine KFB.if_so (by decide) ?_
  refine wpAny_bind (check_bound_init FB.toExcCallFacts hC hx rfl ?_)
  refine wpAny_bind (wpAny_pure (wpAny_pure ?_))
  refine ⟨plainId_quiet FB.init.plain _, codeAny_builtin FB.initEntry ?_⟩
  exact exc_init_tree (cls := .ref C) (t0 := t0) (dv := none) (c2 := .none) (c3 := .none) (b4 := .bool false) hx hz fun h' k e' _ => hq h' _ k e'
end
/-- the text of such an __init__ -/
def iB (msg fld prm : Str) (j : Nat) (p0 p1 p2 p3 p4 p5 q1 q2 q3 q4 : Pos) : List Stmt :=
  [.Expr (.Call (.Attribute (.Call (.Name "super" p0) [] [] p1) "__init__" p2) [.Constant (.str msg) j p3] [] p4) p5, .Assign [.Attribute (.Name "self" q1) fld q2] (.Name prm q3) q4]
abbrev iSc (names : List (Str × NameKind)) : Scope := { kind := .function, names := names, isGenerator := false, isCoroutine := false, more := [] }
theorem ev_super {msg : Str} {j : Nat} {p0 p1 p2 p3 p4 : Pos} {env : Env} (hl : (p2.endLine == p4.line) = true) :
    eval (.Call (.Attribute (.Call (.Name "super" p0) [] [] p1) "__init__" p2) [.Constant (.str msg) j p3] [] p4) env = (do
      let ov ← attributeBase (.Call (.Name "super" p0) [] [] p1) "__init__" env (eval (.Call (.Name "super" p0) [] [] p1) env)
      standAt p2.atName
      let (f, first) ← holding [ov] (getMethod ov "__init__" (do return (← importBound (.Call (.Name "super" p0) [] [] p1) env).getD true))
      callWith p4 f first (backTo p4 (starEach [.Constant (.str msg) j p3] env)) []) := by
  have e : ∀ few, methodCallPos few (.Call (.Name "super" p0) [] [] p1) env p2 p4 = pure p4 := fun few => by
    unfold methodCallPos
    rw [hl]
    simp
  show (do
    let ov ← attributeBase (.Call (.Name "super" p0) [] [] p1) "__init__" env (eval (.Call (.Name "super" p0) [] [] p1) env)
    standAt p2.atName
    methodCall (.Call (.Name "super" p0) [] [] p1) "__init__" p2 p4 env ov (1 + 0) (backTo p4 (starEach [.Constant (.str msg) j p3] env)) (backToKw p4 (keywordEach [] env))) = _
  unfold methodCall
  simp only [e]
  rfl
/-- what the written part says of the class at C -/
structure XT (prog : Program) (K : Frag) (mg : Str → Option Value) (C fI : Addr) (x fld : Str) (B newId i : String) (bmB : List Value) : Prop where
  fb : ExcBaseFacts B newId i bmB
  sf : StoreFacts B bmB "object.__setattr__" "object"
  kf : KxsFacts B i
  gC : mg x = some (.ref C)
  gS : mg "super" = none
  cls : ∃ nm q N bs bm sn sub ab col dd k0 k1 k2 k3 k5, K.lookup C = some (excClassObj nm q C N bs bm true sn sub ab col dd k0 k1 k2 k3 k5 newId) ∧ tailIs bmB bm = true
  sa : findIn K (.ref C) "__setattr__" = some (some (.builtin "object.__setattr__"))
  noN : findIn K (.ref C) fld = some none
  iC : findIn K (.ref C) "__init__" = some (some (.ref fI))
  tC : typeIn K (.ref fI) = some (.type "function")
  kC : keepIn K (.ref C) = true
  exC : subIn K (.ref C) (.type "BaseException") = some true
  tyC : typeIn K (.ref C) = some (.type "type")
  sub : subIn K (.ref C) (.type B) = some true
  own : mroIn K C (.ref C) = some true
  sup : ks_superIn K C C "__init__" = some (some (.builtin i))
  opq : nsIn K cStatics "thirdparty.any" = some none
  top : (prog.main.scope.names.lookup ("super" : Str)).isSome = false
  fn : ∃ (oc : Value) (od : Option Addr) (doc pm : Value) (an : Option Addr) (cc cda : Addr) (ct : Value) (osl : Array (Option Value)) (qual msg prm : Str) (params : Arguments) (names : List (Str × NameKind)) (j : Nat) (p0 p1 p2 p3 p4 p5 q1 q2 q3 q4 : Pos) (cl ccl : Value) (cld cdd : Option Addr) (csl ccs : Array (Option Value)) (vs : Array Value) (file : Str) (tf : Tok) (ar : Arg),
    K.lookup fI = some ⟨oc, od, .func (fnX "__init__" qual params (iB msg fld prm j p0 p1 p2 p3 p4 p5 q1 q2 q3 q4) (iSc names) [("__class__", cc)] .none .none doc pm an (.ref cda) ct), osl⟩ ∧ codeIn K (.ref cda) qual = true ∧
    K.lookup cc = some ⟨cl, cld, .cell (some (.ref C)), csl⟩ ∧ K.lookup cda = some ⟨ccl, cdd, .fields vs, ccs⟩ ∧ vs[2]? = some (.str file tf) ∧ ((prog.main.file : Str) == file) = true ∧ (p2.endLine == p4.line) = true ∧
    (params.posonlyargs ++ params.args).head? = some ar ∧ ar.arg = "self" ∧ names.lookup ("super" : Str) = some .globalImplicit ∧ names.lookup ("__class__" : Str) = some .free ∧ names.lookup ("self" : Str) = some .local ∧ names.lookup prm = some .local ∧
    (∀ y ∈ names, y.2 ≠ .cell) ∧ (prm == ("__debug__" : Str)) = false ∧ prm ≠ "self" ∧
    ∀ (s : Shared) (a b : Value), BindsTo s (fnX "__init__" qual params (iB msg fld prm j p0 p1 p2 p3 p4 p5 q1 q2 q3 q4) (iSc names) [("__class__", cc)] .none .none doc pm an (.ref cda) ct) ⟨[a, b], []⟩ [("self", a), (prm, b)]
/-- a made error -/
structure Made (h h' : Heap) (e C d : Addr) (fld : Str) (v : Value) : Prop where
  keep : ∀ b o, h.get? b = some o → h'.get? b = some o
  new : h.objs.size ≤ e
  obj : ∃ oe vs, h'.get? e = some oe ∧ oe.cls = .ref C ∧ oe.dict = some d ∧ oe.data = .fields vs ∧ vs[1]? = some .none ∧ vs[2]? = some .none ∧ 4 < vs.size
  dbig : h.objs.size ≤ d
  dne : d ≠ e
  ns : h'.Ns1 d (fun y => if y = fld then some v else none)
structure InitEnd (h h' : Heap) (x C dx : Addr) (fld : Str) (v : Value) : Prop where
  keep : ∀ b o, b ≠ x → h.get? b = some o → h'.get? b = some o
  obj : ∃ t1, h'.get? x = some { cls := .ref C, dict := some dx, data := .fields #[.ref t1, .none, .none, .none, .bool false, .none] }
  dbig : h.objs.size ≤ dx
  dne : dx ≠ x
  ns : h'.Ns1 dx (fun y => if y = fld then some v else none)
section
variable {prog : Program} {w : World} {A : Around} {R : Result → Shared → Prop} {s : Shared} {K : Frag} {mg : Str → Option Value} {C fI : Addr} {xn fld : Str} {B newId i : String} {bmB : List Value}
theorem clsIn_of (T : XT prog K mg C fI xn fld B newId i bmB) : ∃ cd, clsIn K C = some cd ∧ tailIs bmB cd.mro = true ∧ cd.mro.isEmpty = false ∧ cd.hasDict = true := by
  obtain ⟨nm, q, N, bs, bm, sn, sub, ab, col, dd, k0, k1, k2, k3, k5, hC, hbm⟩ := T.cls
  refine ⟨{ name := nm, bases := bs, mro := .ref C :: bm, ns := N, qualname := q, hasDict := true, slotNames := sn, subclasses := sub, abstract := ab, collection := col, hasDel := false }, ?_, hbm, rfl, rfl⟩
  unfold clsIn
  rw [hC] <;> rfl
theorem x_init (T : XT prog K mg C fI xn fld B newId i bmB) {x t0 : Addr} {v : Value} (X : K.In s.heap) (hg : s.heap.Ns mainGlobals mg) (hb : ∃ mb, s.heap.Ns builtinsNs mb ∧ ∀ y : Str, y ≠ "__name__" → mb y = bootBuiltins y) (hlim : s.heap.NoLimit)
    (hx : s.heap.get? x = some (excO C t0)) (hnK : ∀ o, K.lookup x = some o → False) (hroom : A.depth < recursionLimit)
    (hq : ∀ h' tk dx, InitEnd s.heap h' x C dx fld v → R (.ok (.ret .none)) { s with heap := h', toks := tk }) :
    codeAny (model prog w) A (.call (.ref fI) ⟨[.ref x, v], []⟩) R s := by
  obtain ⟨oc, od, doc, pm, an, cc, cda, ct, osl, qual, msg, prm, params, names, j, p0, p1, p2, p3, p4, p5, q1, q2, q3, q4, cl, ccl, cld, cdd, csl, ccs, vs, file, tf, ar, lf, hcode, lcc, lcda, hvs, hfile, hline, hp, har, ksup, kcl, kself, kprm, kcell, hdb, hpn, hbind⟩ := T.fn
  obtain ⟨cd, hcd, hmro, hmne, hmhd⟩ := clsIn_of T
  obtain ⟨nm, q, N, bs, bm, sn, sub, ab, col, dd, k0, k1, k2, k3, k5, hC, hbm⟩ := T.cls
  refine ks_codeAny_call_defAt hroom (X _ _ lf) rfl hlim (codeRec_of X hcode) rfl (hbind _ _ _) kcell (fun y hy => ?_) (fun h0 hns hk => ?_)
  · rcases List.mem_cons.mp hy with rfl | hy
    · exact kself
    · rcases List.mem_cons.mp hy with rfl | hy
      · exact kprm
      · cases hy
  have X0 : K.In h0 := X.keeps hk
  have hx0 := hk _ _ hx
  have lxs : x < s.heap.objs.size := Heap.lt_size hx
  obtain ⟨mb, hbn, hbb⟩ := hb
  have hself : h0.Ns s.heap.objs.size (fun y => ([(("self" : Str), Value.ref x), (prm, v)] : List (Str × Value)).reverse.lookup y) := hns
  have lself : (([(("self" : Str), Value.ref x), (prm, v)] : List (Str × Value)).reverse.lookup ("self" : Str)) = some (Value.ref x) := by
    have : (("self" : Str) == prm) = false := by simpa using Ne.symm hpn
    simp [List.lookup, this]
  have lprm : (([(("self" : Str), Value.ref x), (prm, v)] : List (Str × Value)).reverse.lookup prm) = some v := by
    simp [List.lookup]
  obtain ⟨oD, hD1, hD2⟩ : ∃ oD, h0.get? C = some oD ∧ oD.data = .cls cd := by
    unfold clsIn at hcd
    split at hcd
    · rename_i c d cd' sl ho
      cases hcd
      exact ⟨_, X0 _ _ ho, rfl⟩
    · cases hcd
  have hnc : ∀ c, (excO C t0).data ≠ .cls c := fun c e => by cases e
  have I0 : InstAt h0 x (excO C t0) C none := ⟨hx0, rfl, rfl, trivial⟩
  refine ks_wpAt_execs_cons (ks_wpAt_Expr_any ?_)
  refine' ks_wpAt_MethodCall (pl := ?pl) ?hh ?ev
  case ev => exact ev_super hline
  refine ks_wpAt_super_base ksup kcl (by decide +kernel) rfl (X0 _ _ lf) rfl hp rfl (X0 _ _ lcda) rfl hvs hfile T.top ?_
  rw [har]
  refine ks_loadName_global rfl ksup (loadGlobal_builtin (hg.keeps hk) T.gS (hbn.keeps hk) ((hbb _ (by decide +kernel)).trans (by decide +kernel)) ⟨rfl, ?_⟩)
  refine wpAny_loadName_free rfl kcl rfl ⟨_, X0 _ _ lcc, rfl⟩ ?_
  refine wpAny_loadName_local rfl kself hself lself ?_
  refine ks_wpAny_isType_cls hD1 hD2 ⟨rfl, ?_⟩
  refine ks_wpAny_call_super hD1 hD2 hx0 rfl hnc (looks_mroIn X0 T.own) (fun h1 e1 k1 => ?_)
  have X1 : K.In h1 := X0.keeps k1
  have hx1 := k1 _ _ hx0
  have I1 : InstAt h1 x (excO C t0) C none := ⟨hx1, rfl, rfl, trivial⟩
  have supf := T.sup
  unfold ks_superIn at supf
  rw [hcd] at supf
  refine kxs_getMethod T.kf e1 (looks_opaque X1 T.opq) (l₀ := cd.mro) (fun A Q E s k q => wpAny_bind ((looks_clsIn X1 hcd) A _ E s k (wpAny_pure q))) rfl X1 supf (I1.type.andThen (looks_subIn X1 T.sub)) (ks_ne X1 I1 hcd) (by decide +kernel) ?_
  have k2 : ∀ b o, h1.get? b = some o → (h1.push (kxs_mw i x)).get? b = some o := fun b o e => Heap.get?_push_of_some _ e
  have hu2 : (h1.push (kxs_mw i x)).get? h1.objs.size = some (kxs_mw i x) := Heap.get?_push_at rfl rfl
  refine kxs_callWith (i := i) (x := x) rfl (evalArgs_plain (spliced_cons (Constant_str (k := j) (pos := p3) (spliced_nil ⟨hu2, ?_⟩))))
  have X2 : K.In (h1.push (kxs_mw i x)) := X1.keeps k2
  refine call_mw T.fb (X2 _ _ hC) hu2 (k2 _ _ hx1) (by show 1 ≤ sizeLine; rw [sizeLine_eq]; decide) fun h3 t3 k3 hx3 => ?_
  have big : s.heap.objs.size < h0.objs.size := hns.lt
  have kk : ∀ b o, b ≠ x → h0.get? b = some o → h3.get? b = some o := fun b o hb e => k3 b o hb (k2 b o (k1 b o e))
  have nLx : s.heap.objs.size ≠ x := Nat.ne_of_gt lxs
  have hns3 : h3.Ns s.heap.objs.size (fun y => ([(("self" : Str), Value.ref x), (prm, v)] : List (Str × Value)).reverse.lookup y) := by
    obtain ⟨o, es, ep, ho, r⟩ := hself
    exact ⟨o, es, ep, kk _ _ nLx ho, r⟩
  have nKx : K.lookup x = none := by
    cases e : K.lookup x with
    | none => rfl
    | some o =>
      exfalso
      exact hnK o e
  have X3 : K.In h3 := fun b o e => kk b o (fun z => by rw [z, nKx] at e; cases e) (X0 b o e)
  show wpAt _ _ _ (execs _ _) _ _ _
  refine ks_wpAt_execs_cons (ks_wpAt_Assign_Attr (wpAt_of_wpAny (wpAny_Name (wpAny_loadName_local rfl kprm hns3 lprm ?_) hdb)))
  refine wpAny_Name (wpAny_loadName_local rfl kself hns3 lself ?_) (by decide +kernel)
  refine set_plain X3 (ox := excO C t3) (od := none) ⟨hx3, rfl, rfl, trivial⟩ T.sa ?_
  refine xosa T.sf X3 hx3 hcd hmro hmne hmhd T.noN (fun h4 tk4 dx k4 dn dne hx4 hn4 => ?_)
  refine wpAt_of_wpAny (wpAny_execs_nil ?_)
  have sz : s.heap.objs.size ≤ h3.objs.size := by
    obtain ⟨o, _, _, ho, _⟩ := hns3
    exact Nat.le_of_lt (Heap.lt_size ho)
  exact hq h4 tk4 dx ⟨fun b o hb e => k4 b o hb (kk b o hb (hk b o e)), ⟨t3, hx4⟩, Nat.le_trans sz dn, dne, hn4⟩
theorem x_made (T : XT prog K mg C fI xn fld B newId i bmB) {v : Value} (X : K.In s.heap) (hg : s.heap.Ns mainGlobals mg) (hb : ∃ mb, s.heap.Ns builtinsNs mb ∧ ∀ y : Str, y ≠ "__name__" → mb y = bootBuiltins y) (hlim : s.heap.NoLimit) (hroom : A.depth + 1 < recursionLimit)
    (hq : ∀ h' tk e d, Made s.heap h' e C d fld v → R (.ok (.ret (.ref e))) { s with heap := h', toks := tk }) :
    codeAny (model prog w) A (.call (.ref C) ⟨[v], []⟩) R s := by
  obtain ⟨nm, q, N, bs, bm, sn, sub, ab, col, dd, k0, k1, k2, k3, k5, hC, hbm⟩ := T.cls
  obtain ⟨hp, g, dr, tk, os⟩ := s
  have k : ∀ b o, hp.get? b = some o → ((hp.push (kdv_tup [v])).push (excO C hp.objs.size)).get? b = some o := fun b o e => Heap.get?_push_of_some _ (Heap.get?_push_of_some _ e)
  have hget : ((hp.push (kdv_tup [v])).push (excO C hp.objs.size)).get? (hp.objs.size + 1) = some (excO C hp.objs.size) := by heap_get
  have hnx : ∀ o, K.lookup (hp.objs.size + 1) = some o → False := fun o e => absurd (Nat.lt_of_succ_lt (Heap.lt_size (show hp.get? (hp.objs.size + 1) = some o from X _ _ e))) (Nat.lt_irrefl _)
  have one : [v].length ≤ sizeLine := by rw [sizeLine_eq]; exact (by decide : 1 ≤ 16777216)
  refine call_own T.fb (fun X => tail_has X bm hbm) (X _ _ hC) (looks_findIn X T.iC) (fun self => bind_fn X self T.tC) one ?_
  obtain ⟨mb, b1, b2⟩ := hb
  refine x_init (s := ⟨(hp.push (kdv_tup [v])).push (excO C hp.objs.size), g, dr, tk, os⟩) T (X.keeps k) (hg.keeps k) ⟨mb, b1.keeps k, b2⟩ (hlim.keeps k) hget hnx ?_ fun h' tk' dx ⟨k', ⟨t1, hx⟩, dn, dne, hns⟩ => ?_
  · show A.depth + 1 < recursionLimit
    exact hroom
  · have old : ∀ b o, hp.get? b = some o → h'.get? b = some o := fun b o e => k' b o (Nat.ne_of_lt (Nat.lt_succ_of_lt (Heap.lt_size e))) (k b o e)
    have z : hp.objs.size + 1 + 1 ≤ dx := by
      first
        | (simpa only [Heap.size_push] using dn)
        | exact dn
        | (have q := dn; rw [Heap.size_push, Heap.size_push] at q; exact q)
    exact ⟨rfl, hq h' tk' (hp.objs.size + 1) dx ⟨old, Nat.le_succ _, ⟨_, _, hx, rfl, rfl, rfl, rfl, rfl, by show (4 : Nat) < 6; decide⟩, Nat.le_trans (Nat.le_trans (Nat.le_succ _) (Nat.le_succ _)) z, dne, hns⟩⟩
end
end XeX
end PySem
namespace Dr
open PySem L2
/-- an error's class, as the small language knows it -/
def XOk (G : Cfg) (X : Cx) (c : Nat) (x : Str) : Prop := ∃ fI B newId i bmB, PySem.XeX.XT X.prog X.K X.mg (G.cl c) fI x (G.fn c) B newId i bmB
def eRaise (c : Nat) (a : Ev) : Ev := fun σ h => (a σ h).vb fun w h1 => .ex c w σ h1
section
variable {G : Cfg} {X : Cx} {Z : WX} {k : Nat} {a : Ev} {ea : Expr} {pos : Pos}
theorem relO_x {v : V} {v' : Value} (fld : Str) (r : RelV v v') (f : Str) : RelO (List.lookup f [(fld, v)]) (if f = fld then some v' else none) := by
  by_cases hw : f = fld
  · subst hw
    rw [if_pos rfl]
    have q : List.lookup f [(f, v)] = some v := by simp [List.lookup]
    rw [q]
    exact r
  · rw [if_neg hw]
    have qw : (f == fld) = false := by simpa using hw
    have q2 : List.lookup f [(fld, v)] = none := by simp [List.lookup, qw]
    rw [q2]
    trivial
theorem pmk_x {c : Nat} {x : Str} {p : Pos} (ok : XOk G X c x) (hr : X.A.depth + 1 < recursionLimit) (hg : Gl X x) (hdb : (x == ("__debug__" : Str)) = false) (he : starEach (ea :: []) X.env = (false, eval ea X.env) :: starEach [] X.env)
    (hpl : (backTo pos (starEach [] X.env)).any (·.1) = false) :
    L2H.PMk5 X (.Call (.Name x p) [ea] [] pos) (fun σ H Q => WE X ea σ H fun v H1 => ∀ d, H1 d = none → Q (.ref (G.cl c)) (some d) (upd H1 d (.xd [(G.fn c, v)]))) := by
  obtain ⟨fI, B, newId, i, bmB, T⟩ := ok
  intro pins s σ H Q I h
  refine wpAny_Call_Name_kw (ld_glob I hg T.gC ?_ hdb)
  refine PySem.W.callWith_K (h₀ := X.base) I.ok.mod.kin T.kC ?_ he hpl
  refine thn ((pa_cons (peM (X := X) (e := ea)) pa_nil he).run pos pins s σ H (fun vs H1 => ∃ v, vs = [v] ∧ ∀ d, H1 d = none → Q (.ref (G.cl c)) (some d) (upd H1 d (.xd [(G.fn c, v)]))) I (fun pins s I => thn (h pins s I) fun u s1 ⟨v, H1, I1, r1, q1⟩ => ⟨v, H1, I1, r1, v, rfl, q1⟩)) fun us s1 hh => ?_
  obtain ⟨vs, H1, I1, r1, v, ev, q1⟩ := hh
  subst ev
  refine ⟨I1.kIn, ?_⟩
  cases r1 with
  | cons rv rn =>
    rename_i v' us'
    cases rn
    show wpAny _ _ (call (.ref (G.cl c)) [v']) _ _ _
    have hlim := I1.nolimit
    have hglob := I1.mod.glob.keeps I1.bk
    obtain ⟨mb, b1, b2⟩ := I1.mod.blt
    have hblt := b1.keeps I1.bk
    obtain ⟨hp, g, dr, tk, os⟩ := s1
    refine wpAny_call (PySem.XeX.x_made T I1.kIn hglob ⟨mb, hblt, b2⟩ hlim hr fun h' tk' e d M => ?_)
    show L2N.MkP X pins σ Q (.ref e) ⟨h', g, dr, tk', os⟩ ∧ L2H.Six (.ref e) ⟨h', g, dr, tk', os⟩
    obtain ⟨oe, fv, hoe, hc, hd, hdat, h1, h2, h4⟩ := M.obj
    have hns := M.ns
    obtain ⟨G', g1, g2⟩ := restrict h' fun b => decide (b ≠ e)
    have gk : ∀ b, b ≠ e → G'.get? b = h'.get? b := fun b hb => g1 b (decide_eq_true hb)
    have ge : G'.get? e = none := g2 e (by simp)
    have old : ∀ b o, hp.get? b = some o → G'.get? b = some o := fun b o q => (gk b (Nat.ne_of_lt (Nat.lt_of_lt_of_le (Heap.lt_size q) M.new))).trans (M.keep b o q)
    have ob : ObjOk X.prog X.w (upd H1 d (.xd [(G.fn c, v)])) G' d (.xd [(G.fn c, v)]) := ⟨_, hns.at (fun o q => (gk d M.dne).trans q), fun f => relO_x _ rv f⟩
    have J : Inv X pins σ (upd H1 d (.xd [(G.fn c, v)])) ⟨G', g, dr, tk', os⟩ := I1.laid (t' := tk') old M.dbig ob
    have six : L2H.Six (.ref e) ⟨h', g, dr, tk', os⟩ := fun a oe' vs' ea ha hd' => by
      cases ea
      have ha' : h'.get? e = some oe' := ha
      rw [hoe] at ha'; cases ha'
      rw [hdat] at hd'; cases hd'
      exact h4
    refine ⟨⟨e, oe, fv, ⟨G', g, dr, tk', os⟩, _, .ref (G.cl c), some d, rfl, J, fun b o q => ?_, ge, hoe, ⟨hc, hd, fun vs' z => ?_⟩, hdat, h1, ?_, rfl, I1.bare, raises_own T.exC T.tyC, q1 d (I1.hok.fresh M.dbig)⟩, six⟩
    · by_cases hb : b = e
      · have q' : G'.get? b = some o := q
        rw [hb, ge] at q'; cases q'
      · exact (gk b hb).symm.trans q
    · rw [hdat] at z; cases z; exact h2
    · rw [upd_ne (Ne.symm M.dne)]
      exact I1.hok.fresh M.new
theorem v_raise {c : Nat} {x : Str} {p pos2 : Pos} (F : Fit G X Z k) (ok : XOk G X c x) (ha : SE G X Z a ea) (hg : Gl X x := by rfl) (hdb : (x == ("__debug__" : Str)) = false := by decide) (he : starEach (ea :: []) X.env = (false, eval ea X.env) :: starEach [] X.env := by rfl)
    (hpl : (backTo pos (starEach [] X.env)).any (·.1) = false := by rfl) : SS G X Z (eRaise c a) (.Raise (some (.Call (.Name x p) [ea] [] pos)) none pos2) := .mk fun m h H σ τ D R S P => by
  refine WS.of (L2N.ps_raise F.calm F.tk.n (pmk_x ok (by have := F.room.dp; omega) hg hdb he hpl).pmk) (ha m h H σ τ _ R S (PoS.es P fun w h1 m1 H1 v e1 R1 r1 P1 => fun d hd => ?_))
  obtain ⟨R2, E2⟩ := R1.aside (q := d) (o := .xd [(G.fn c, v)]) hd
  exact P1 m1 _ d v τ E2 R2 (r1.mono E2) ((S.mono e1).mono E2) upd_same
end
end Dr
namespace Dr
open PySem L2

/-! ### data -/
def mapO {α β : Type} (f : α → Option β) : List α → Option (List β)
  | [] => some []
  | a :: as => match f a, mapO f as with
    | some b, some bs => some (b :: bs)
    | _, _ => none
def dat (h : IH) : Nat → W → Option PyData
  | 0, _ => none
  | n + 1, w => match w with
    | .non => some .none
    | .bl b => some (.bool b)
    | .int i => some (.int i)
    | .str x => some (.str x)
    | .tup ws => (match mapO (dat h n) ws with | some ds => some (.tuple ds) | none => none)
    | .ref a => (match lstAt h a with
      | some ws => (match mapO (dat h n) ws with | some ds => some (.list ds) | none => none)
      | none => none)
    | .cls _ => none
section
variable {G : Cfg} {X : Cx} {Z : WX} {k : Nat} {a b c : Ev} {ea eb ec : Expr} {pos : Pos}
theorem dp_of {m : Nat → Addr} {h : IH} {H : Hp} (R : Rep G.K G.cl m h H) : ∀ (n : Nat) (w : W) (v : V) (d : PyData), RW G.K G.cl m h.length H w v → dat h n w = some d → Dp G.K H v d
  | 0, _, _, _, _, e => by cases e
  | n + 1, w, v, d, r, e => by
    have all : ∀ (ws : List W) (vs : List V) (ds : List PyData), RWs G.K G.cl m h.length H ws vs → mapO (dat h n) ws = some ds → DpAll G.K H vs ds := by
      intro ws
      induction ws with
      | nil => intro vs ds r e; cases r; cases e; exact .nil
      | cons w ws ih =>
        intro vs ds r e
        cases r with
        | cons r1 r2 =>
          unfold mapO at e
          cases q1 : dat h n w with
          | none => rw [q1] at e; cases e
          | some d1 =>
            cases q2 : mapO (dat h n) ws with
            | none => rw [q1, q2] at e; cases e
            | some ds2 => rw [q1, q2] at e; cases e; exact .cons (dp_of R n w _ d1 r1 q1) (ih _ _ r2 q2)
    cases r with
    | non => cases e; exact .non
    | bl b => cases e; exact .bl b
    | int i => cases e; exact .int i
    | str x => cases e; exact .str x
    | tup hp hv =>
      unfold dat at e
      simp only at e
      split at e
      · rename_i ds q
        cases e
        exact .tup hp (all _ _ _ hv q)
      · cases e
    | ref a ha =>
      unfold dat at e
      simp only at e
      split at e
      · rename_i ws q
        obtain ⟨vs, hx, hv⟩ := lstAt_of R q
        split at e
        · rename_i ds q'
          cases e
          exact .lst hx (all _ _ _ hv q')
        · cases e
      · cases e
    | cls c => cases e
/-! ### == and != -/
def lenQ (x y : W) (h : IH) : Option Bool := match x, y with
  | .ref p, .ref q => (match lstAt h p, lstAt h q with
    | some xs, some ys => if xs.length ≠ ys.length then some false else if xs.length = 0 then some true else none
    | _, _ => none)
  | _, _ => none
mutual
def eqF : PyData → PyData → Bool
  | .str x, .str y => eqS x y
  | .list xs, .list ys => eqFs xs ys
  | .tuple xs, .tuple ys => eqFs xs ys
  | .none, b => PyData.eqv .none b
  | .bool a, b => PyData.eqv (.bool a) b
  | .int a, b => PyData.eqv (.int a) b
  | _, _ => false
def eqFs : List PyData → List PyData → Bool
  | [], [] => true
  | x :: xs, y :: ys => eqF x y && eqFs xs ys
  | _, _ => false
end
mutual
theorem eqF_eq : ∀ d e : PyData, eqF d e = PyData.eqv d e
  | .str x, e => by
    cases e <;> simp only [eqF, PyData.eqv, eqS_eq]
    rename_i y
    by_cases q : x = y
    · subst q; simp
    · simp [q]
  | .list xs, e => by cases e <;> simp only [eqF, PyData.eqv, eqFs_eq xs]
  | .tuple xs, e => by cases e <;> simp only [eqF, PyData.eqv, eqFs_eq xs]
  | .none, e => by simp only [eqF]
  | .bool a, e => by simp only [eqF]
  | .int a, e => by simp only [eqF]
  | .dict a, e => by cases e <;> simp only [eqF, PyData.eqv]
theorem eqFs_eq : ∀ ds es : List PyData, eqFs ds es = PyData.eqvAll ds es
  | [], es => by cases es <;> simp only [eqFs, PyData.eqvAll]
  | d :: ds, es => by cases es <;> simp only [eqFs, PyData.eqvAll, eqF_eq d, eqFs_eq ds]
end
mutual
def shF : PyData → Bool
  | .none | .bool _ | .int _ => true
  | .str x => x.cps.toList.all fun c => Nat.blt c 0x110000
  | .list xs | .tuple xs => shFs xs
  | .dict _ => false
def shFs : List PyData → Bool
  | [] => true
  | x :: xs => shF x && shFs xs
end
mutual
theorem shF_eq : ∀ d : PyData, shF d = d.canLay0
  | .none => by simp only [shF, PyData.canLay0]
  | .bool _ => by simp only [shF, PyData.canLay0]
  | .int _ => by simp only [shF, PyData.canLay0]
  | .str x => by
    simp only [shF, PyData.canLay0, PyData.strOk]
    rw [← Array.all_toList]
    congr 1
    funext c
    by_cases h : c < 0x110000
    · rw [decide_eq_true h]; exact (Nat.blt_eq).mpr h
    · rw [decide_eq_false h]
      cases e : Nat.blt c 0x110000 with
      | false => rfl
      | true => exact absurd ((Nat.blt_eq).mp e) h
  | .list xs => by simp only [shF, PyData.canLay0, shFs_eq xs]
  | .tuple xs => by simp only [shF, PyData.canLay0, shFs_eq xs]
  | .dict _ => by simp only [shF, PyData.canLay0]
theorem shFs_eq : ∀ ds : List PyData, shFs ds = PyData.canLayAll0 ds
  | [] => by simp only [shFs, PyData.canLayAll0]
  | d :: ds => by simp only [shFs, PyData.canLayAll0, shF_eq d, shFs_eq ds]
end
def shaped' (d : PyData) : Bool := shF d && decide (d.depth ≤ 64)
theorem shaped_eq (d : PyData) : shaped' d = SeqAt.shaped d := by unfold shaped' SeqAt.shaped; rw [shF_eq]
def eqD (x y : W) (h : IH) : Option Bool := match x, y with
  | .str a, .str b => some (eqS a b)
  | .int i, .int j => some (decide (i = j))
  | _, _ => match lenQ x y h with
    | some b => some b
    | none => match dat h 40 x, dat h 40 y with
      | some d, some e => if shaped' d = true ∧ shaped' e = true then some (eqF d e) else none
      | _, _ => none
def oEq (x y : W) (h : IH) : Out := match eqD x y h with | some b => .v (.bl b) h | none => .no
def oNe (x y : W) (h : IH) : Out := match eqD x y h with | some b => .v (.bl (!b)) h | none => .no
theorem isList_of {m : Nat → Addr} {h : IH} {H : Hp} {pins : List (Addr × Obj)} {σ : St} {s : Shared} {a : Addr} {xs : List V} (I : Inv X pins σ H s) (hx : SqL X.K H a xs) : ∃ its : List Value, Vals xs its ∧ s.heap.IsList a its.toArray := by
  obtain ⟨its, rv, ⟨o, n, ho, hc, _, hd⟩, _⟩ := I.list hx
  exact ⟨its, rv, o, ho, hc, n, hd⟩
def rLen (K : PySem.W.Frag) (neg : Bool) : R2 := fun x y H Q => ∃ p q xs ys b, x = .ref p ∧ y = .ref q ∧ SqL K H p xs ∧ SqL K H q ys ∧ ((xs.length ≠ ys.length ∧ b = false) ∨ (xs = [] ∧ ys = [] ∧ b = true)) ∧ Q (.bl (if neg then !b else b)) H
theorem op_lenE (hu : X.A.units < cLine) : OpR X (compareOp .Eq) (rLen X.K false) := by
  intro pins s σ H x y v u Q I rx ry h
  obtain ⟨p, q, xs, ys, b, rfl, rfl, hx, hy, hb, hq⟩ := h
  cases rx; cases ry
  obtain ⟨is, r1, l1⟩ := isList_of (m := fun _ => 0) (h := []) I hx
  obtain ⟨js, r2, l2⟩ := isList_of (m := fun _ => 0) (h := []) I hy
  rcases hb with ⟨hne, rfl⟩ | ⟨rfl, rfl, rfl⟩
  · exact SeqAt.eq_list_lengthsAt l1 l2 (by rw [List.size_toArray, List.size_toArray, ← r1.length, ← r2.length]; simpa using hne) hu ⟨.bl false, H, I, rfl, hq⟩
  · cases r1; cases r2
    exact SeqAt.eq_listAt (e := fun _ => true) l1 l2 rfl hu (fun j h1 _ => absurd h1 (by simp)) ⟨.bl true, H, I, rfl, hq⟩
theorem op_lenN (hu : X.A.units < cLine) : OpR X (compareOp .NotEq) (rLen X.K true) := by
  intro pins s σ H x y v u Q I rx ry h
  obtain ⟨p, q, xs, ys, b, rfl, rfl, hx, hy, hb, hq⟩ := h
  cases rx; cases ry
  obtain ⟨is, r1, l1⟩ := isList_of (m := fun _ => 0) (h := []) I hx
  obtain ⟨js, r2, l2⟩ := isList_of (m := fun _ => 0) (h := []) I hy
  rcases hb with ⟨hne, rfl⟩ | ⟨rfl, rfl, rfl⟩
  · exact SeqAt.RcNeAt.lists_lengths l1 l2 (by rw [List.size_toArray, List.size_toArray, ← r1.length, ← r2.length]; simpa using hne) hu X.prog X.w X.xe _ ⟨.bl true, H, I, rfl, hq⟩
  · cases r1; cases r2
    exact SeqAt.RcNeAt.lists (e := fun _ => true) l1 l2 rfl hu (fun j h1 _ => absurd h1 (by simp)) X.prog X.w X.xe _ ⟨.bl false, H, I, rfl, hq⟩
theorem eqD_cases {m : Nat → Addr} {h : IH} {H : Hp} {x y : W} {vx vy : V} {q : Bool} (F : Fit G X Z k) (R : Rep G.K G.cl m h H) (rx : RW G.K G.cl m h.length H x vx) (ry : RW G.K G.cl m h.length H y vy) (e : eqD x y h = some q) :
    (scal vx vy = true ∧ q = decide (vx = vy)) ∨ (∃ p r xs ys, vx = .ref p ∧ vy = .ref r ∧ SqL X.K H p xs ∧ SqL X.K H r ys ∧ ((xs.length ≠ ys.length ∧ q = false) ∨ (xs = [] ∧ ys = [] ∧ q = true))) ∨
    ∃ d e, Dp X.K H vx d ∧ Dp X.K H vy e ∧ SeqAt.shaped d = true ∧ SeqAt.shaped e = true ∧ q = PyData.eqv d e := by
  have deep : (match lenQ x y h with
    | some b => some b
    | none => match dat h 40 x, dat h 40 y with
      | some d, some e => if shaped' d = true ∧ shaped' e = true then some (eqF d e) else none
      | _, _ => none) = some q → (∃ p r xs ys, vx = .ref p ∧ vy = .ref r ∧ SqL X.K H p xs ∧ SqL X.K H r ys ∧ ((xs.length ≠ ys.length ∧ q = false) ∨ (xs = [] ∧ ys = [] ∧ q = true))) ∨
    ∃ d e, Dp X.K H vx d ∧ Dp X.K H vy e ∧ SeqAt.shaped d = true ∧ SeqAt.shaped e = true ∧ q = PyData.eqv d e := fun e => by
    cases el : lenQ x y h with
    | some b =>
      rw [el] at e
      cases e
      left
      unfold lenQ at el
      split at el
      · rename_i p r
        split at el
        · rename_i xs ys e1 e2
          obtain ⟨us, hx, hu⟩ := lstAt_of R e1
          obtain ⟨ws, hy, hw⟩ := lstAt_of R e2
          cases rx; cases ry
          refine ⟨_, _, us, ws, rfl, rfl, F.K ▸ hx, F.K ▸ hy, ?_⟩
          rw [← hu.length, ← hw.length]
          split at el
          · rename_i ne
            cases el
            exact .inl ⟨ne, rfl⟩
          · rename_i ne
            split at el
            · rename_i z
              cases el
              have z1 : us.length = 0 := by rw [← hu.length]; exact z
              have z2 : ws.length = 0 := by rw [← hw.length]; omega
              exact .inr ⟨List.length_eq_zero_iff.mp z1, List.length_eq_zero_iff.mp z2, rfl⟩
            · cases el
        · cases el
      · cases el
    | none =>
      rw [el] at e
      simp only at e
      right
      cases d1 : dat h 40 x with
      | none => rw [d1] at e; cases e
      | some d =>
        cases d2 : dat h 40 y with
        | none => rw [d1, d2] at e; cases e
        | some d' =>
          rw [d1, d2] at e
          simp only at e
          split at e
          · rename_i sh
            cases e
            exact ⟨d, d', F.K ▸ dp_of R 40 x vx d rx d1, F.K ▸ dp_of R 40 y vy d' ry d2, shaped_eq d ▸ sh.1, shaped_eq d' ▸ sh.2, eqF_eq d d'⟩
          · cases e
  cases rx <;> cases ry <;> first
    | (right; exact deep e)
    | (cases e; exact .inl ⟨rfl, by simp [V.str.injEq, V.int.injEq, eqS_eq]⟩)
theorem so_eq (F : Fit G X Z k) : SO G X (compareOp .Eq) oEq := .mk fun m h H x y vx vy Z' Q R rx ry P => by
  unfold oEq at P
  cases e : eqD x y h with
  | none => rw [e] at P; exact P.elim
  | some q =>
    rw [e] at P
    have hq := P m H _ Ext.refl R (.bl q)
    rcases eqD_cases F R rx ry e with ⟨s, rfl⟩ | ⟨p, r, xs, ys, rfl, rfl, hx, hy, hb⟩ | ⟨d, d', h1, h2, s1, s2, rfl⟩
    · exact ⟨_, op_eq, s, hq⟩
    · exact ⟨_, op_lenE F.room.units0, p, r, xs, ys, q, rfl, rfl, hx, hy, hb, hq⟩
    · exact ⟨_, op_eqD F.room.units, d, d', h1, h2, s1, s2, hq⟩
theorem so_ne (F : Fit G X Z k) : SO G X (compareOp .NotEq) oNe := .mk fun m h H x y vx vy Z' Q R rx ry P => by
  unfold oNe at P
  cases e : eqD x y h with
  | none => rw [e] at P; exact P.elim
  | some q =>
    rw [e] at P
    have hq := P m H _ Ext.refl R (.bl (!q))
    rcases eqD_cases F R rx ry e with ⟨s, rfl⟩ | ⟨p, r, xs, ys, rfl, rfl, hx, hy, hb⟩ | ⟨d, d', h1, h2, s1, s2, rfl⟩
    · exact ⟨_, op_ne, s, hq⟩
    · exact ⟨_, op_lenN F.room.units0, p, r, xs, ys, q, rfl, rfl, hx, hy, hb, hq⟩
    · exact ⟨_, op_neD F.room.units, d, d', h1, h2, s1, s2, hq⟩
end
end Dr
namespace Dr
open PySem L2

section
variable {G : Cfg} {X : Cx} {Z : WX} {k : Nat} {a b c : Ev} {ea eb ec : Expr} {pos : Pos}
/-! ### in, not in -/
def W.fl : W → Option V
  | .non => some .non
  | .bl b => some (.bl b)
  | .int i => some (.int i)
  | .str x => some (.str x)
  | _ => none
theorem fl_of {m : Nat → Addr} {L : Nat} {H : Hp} {w : W} {v u : V} (r : RW G.K G.cl m L H w v) (e : w.fl = some u) : v = u ∧ flatV v = true := by
  cases r <;> first | (cases e; exact ⟨rfl, rfl⟩) | cases e
theorem fls_of {m : Nat → Addr} {L : Nat} {H : Hp} : ∀ {ws : List W} {vs us : List V}, RWs G.K G.cl m L H ws vs → mapO W.fl ws = some us → vs = us ∧ vs.all flatV = true
  | _, _, _, .nil, e => by cases e; exact ⟨rfl, rfl⟩
  | _, _, _, .cons (w := w) (ws := ws) r1 r2, e => by
    unfold mapO at e
    cases q1 : w.fl with
    | none => rw [q1] at e; cases e
    | some u =>
      cases q2 : mapO W.fl ws with
      | none => rw [q1, q2] at e; cases e
      | some us =>
        rw [q1, q2] at e
        cases e
        obtain ⟨rfl, f1⟩ := fl_of r1 q1
        obtain ⟨rfl, f2⟩ := fls_of r2 q2
        exact ⟨rfl, by simp [f1, f2]⟩
def eqVF : V → V → Bool
  | .str a, .str b => eqS a b
  | a, b => eqV a b
theorem eqVF_eq (a b : V) : eqVF a b = eqV a b := by
  cases a <;> cases b <;> first | rfl | skip
  rename_i x y
  show eqS x y = (x == y)
  rw [eqS_eq]
  by_cases e : x = y
  · subst e; simp
  · simp [e]
def memL (q : Nat) : List Nat → Bool
  | [] => false
  | c :: r => if Nat.beq q c = true then true else memL q r
theorem memL_eq (q : Nat) : ∀ l : List Nat, memL q l = decide (q ∈ l)
  | [] => by simp [memL]
  | c :: r => by
    unfold memL
    rw [memL_eq q r]
    by_cases e : q = c
    · subst e; rw [if_pos (Nat.beq_refl q)]; simp
    · rw [if_neg (fun z => e (Nat.eq_of_beq_eq_true z))]; simp [e]
def seqIn (x : W) (ws : List W) : Option Bool := match x.fl, mapO W.fl ws with
  | some v, some vs => some (vs.any fun y => eqVF y v)
  | _, _ => none
def inD (x : W) (ws : List W) (h : IH) : Option Bool := match dat h 40 x, mapO (dat h 39) ws with
  | some d, some ds => if shaped' d = true ∧ shaped' (.list ds) = true then some (ds.any fun z => eqF z d) else none
  | _, _ => none
def isIn (x y : W) (h : IH) : Option Bool := match y with
  | .str z => (match x with
    | .str s => (match s.cps.toList with | [q] => some (memL q z.cps.toList) | _ => none)
    | _ => none)
  | .tup ws => seqIn x ws
  | .ref n => (match lstAt h n with
    | some ws => (match seqIn x ws with
      | some b => some b
      | none => inD x ws h)
    | none => none)
  | _ => none
def oIn (x y : W) (h : IH) : Out := match isIn x y h with | some b => .v (.bl b) h | none => .no
def oNotIn (x y : W) (h : IH) : Out := match isIn x y h with | some b => .v (.bl (!b)) h | none => .no
theorem isIn_cases {m : Nat → Addr} {h : IH} {H : Hp} {x y : W} {vx vy : V} {q : Bool} (F : Fit G X Z k) (R : Rep G.K G.cl m h H) (rx : RW G.K G.cl m h.length H x vx) (ry : RW G.K G.cl m h.length H y vy) (e : isIn x y h = some q) :
    (∃ (c : Nat) (z : Str), vx = .str ⟨#[c]⟩ ∧ vy = .str z ∧ q = decide (c ∈ z.cps.toList)) ∨ (∃ p xs, vy = .ref p ∧ (SqL X.K H p xs ∨ SqT X.K H p xs) ∧ flatV vx = true ∧ xs.all flatV = true ∧ q = inV vx xs) ∨
      ∃ d ds, Dp X.K H vx d ∧ Dp X.K H vy (.list ds) ∧ SeqAt.shaped d = true ∧ SeqAt.shaped (.list ds) = true ∧ q = ds.any fun z => PyData.eqv z d := by
  have seq : ∀ ws us, RWs G.K G.cl m h.length H ws us → seqIn x ws = some q → flatV vx = true ∧ us.all flatV = true ∧ q = inV vx us := fun ws us ru e => by
    unfold seqIn at e
    cases q1 : x.fl with
    | none => rw [q1] at e; cases e
    | some v =>
      cases q2 : mapO W.fl ws with
      | none => rw [q1, q2] at e; cases e
      | some vs =>
        rw [q1, q2] at e
        cases e
        obtain ⟨rfl, f1⟩ := fl_of rx q1
        obtain ⟨rfl, f2⟩ := fls_of ru q2
        exact ⟨f1, f2, by show _ = List.any _ _; simp only [eqVF_eq]⟩
  unfold isIn at e
  cases ry with
  | str z =>
    simp only at e
    split at e
    · rename_i s
      split at e
      · rename_i q' eq
        cases e
        cases rx
        refine .inl ⟨q', z, ?_, rfl, memL_eq _ _⟩
        obtain ⟨⟨l⟩⟩ := s
        have eq' : l = [q'] := eq
        rw [eq']
      · cases e
    · cases e
  | tup hp hv =>
    obtain ⟨f1, f2, f3⟩ := seq _ _ hv e
    exact .inr (.inl ⟨_, _, rfl, .inr (F.K ▸ hp), f1, f2, f3⟩)
  | ref n hn =>
    simp only at e
    split at e
    · rename_i ws el
      obtain ⟨us, hx, hu⟩ := lstAt_of R el
      split at e
      · rename_i b' es
        cases e
        obtain ⟨f1, f2, f3⟩ := seq _ _ hu es
        exact .inr (.inl ⟨_, us, rfl, .inl (F.K ▸ hx), f1, f2, f3⟩)
      · unfold inD at e
        cases d1 : dat h 40 x with
        | none => rw [d1] at e; cases e
        | some d =>
          cases d2 : mapO (dat h 39) ws with
          | none => rw [d1, d2] at e; cases e
          | some ds =>
            rw [d1, d2] at e
            simp only at e
            split at e
            · rename_i sh
              cases e
              refine .inr (.inr ⟨d, ds, F.K ▸ dp_of R 40 x vx d rx d1, F.K ▸ dp_of R 40 (.ref n) _ (.list ds) (.ref n hn) ?_, shaped_eq d ▸ sh.1, shaped_eq (.list ds) ▸ sh.2, by simp only [eqF_eq]⟩)
              show (match lstAt h n with | some ws => (match mapO (dat h 39) ws with | some ds => some (PyData.list ds) | none => none) | none => none) = _
              rw [el]
              simp only [d2]
            · cases e
    · cases e
  | non => cases e
  | bl b => cases e
  | int i => cases e
  | cls c => cases e
theorem so_in (F : Fit G X Z k) : SO G X (compareOp .In) oIn := .mk fun m h H x y vx vy Z' Q R rx ry P => by
  unfold oIn at P
  cases e : isIn x y h with
  | none => rw [e] at P; exact P.elim
  | some q =>
    rw [e] at P
    have hq := P m H _ Ext.refl R (.bl q)
    rcases isIn_cases F R rx ry e with ⟨c, z, rfl, rfl, rfl⟩ | ⟨p, xs, rfl, hp, f1, f2, rfl⟩ | ⟨d, ds, h1, h2, s1, s2, rfl⟩
    · exact ⟨_, op_in_sign, c, z, rfl, rfl, hq⟩
    · exact ⟨_, op_in_seq, p, xs, rfl, hp, f1, f2, hq⟩
    · exact ⟨_, op_inD (by have := F.room.un; omega), d, ds, h1, h2, s1, s2, hq⟩
theorem so_notIn (F : Fit G X Z k) : SO G X (compareOp .NotIn) oNotIn := .mk fun m h H x y vx vy Z' Q R rx ry P => by
  unfold oNotIn at P
  cases e : isIn x y h with
  | none => rw [e] at P; exact P.elim
  | some q =>
    rw [e] at P
    have hq := P m H _ Ext.refl R (.bl (!q))
    rcases isIn_cases F R rx ry e with ⟨c, z, rfl, rfl, rfl⟩ | ⟨p, xs, rfl, hp, f1, f2, rfl⟩ | ⟨d, ds, h1, h2, s1, s2, rfl⟩
    · exact ⟨_, op_notIn_sign, c, z, rfl, rfl, hq⟩
    · exact ⟨_, op_notIn_seq, p, xs, rfl, hp, f1, f2, hq⟩
    · exact ⟨_, op_notInD (by have := F.room.un; omega), d, ds, h1, h2, s1, s2, hq⟩
/-! ### methods of built-in types -/
def WM (X : Cx) (id : String) : V → List V → Hp → VK → Prop := fun x vs H Q => ∃ r, MtR X id r ∧ r x vs H Q
theorem pmM {id : String} : MtR X id (WM X id) := fun pins s σ H x xs v us Q I rx rv h => let ⟨_, o, q⟩ := h; o pins s σ H x xs v us Q I rx rv q
structure SM (G : Cfg) (X : Cx) (T id : String) (g : W → List W → IH → Out) : Prop where
  go : ∀ m h H x vx ws vs Z Q, Rep G.K G.cl m h H → RW G.K G.cl m h.length H x vx → RWs G.K G.cl m h.length H ws vs → PoE G m h.length H Z Q (g x ws h) → WM X id vx vs H Q
instance {G : Cfg} {X : Cx} {T id : String} {g : W → List W → IH → Out} : CoeFun (SM G X T id g) (fun _ => ∀ m h H x vx ws vs Z Q, Rep G.K G.cl m h H → RW G.K G.cl m h.length H x vx → RWs G.K G.cl m h.length H ws vs → PoE G m h.length H Z Q (g x ws h) → WM X id vx vs H Q) := ⟨SM.go⟩
/-- the receiver is of the type -/
def tyW (T : String) (x : W) (h : IH) : Bool := match x with
  | .str _ => T == "str"
  | .ref n => (T == "list" && (lstAt h n).isSome) || (T == "dict" && (match h[n]? with | some (.dic _) => true | _ => false))
  | _ => false
theorem tyW_of {m : Nat → Addr} {h : IH} {H : Hp} {T : String} {x : W} {v : V} (F : Fit G X Z k) (R : Rep G.K G.cl m h H) (r : RW G.K G.cl m h.length H x v) (e : tyW T x h = true) : tyV X.K T v H := by
  unfold tyW at e
  cases r <;> simp only at e <;> first | (cases e; done) | skip
  · exact eq_of_beq e
  · rename_i n hn
    rcases Bool.or_eq_true_iff.mp e with e | e
    · have e := Bool.and_eq_true_iff.mp e
      cases q : lstAt h n with
      | none => rw [q] at e; cases e.2
      | some ws =>
        obtain ⟨vs, hx, _⟩ := lstAt_of R q
        exact .inl ⟨eq_of_beq e.1, vs, F.K ▸ hx⟩
    · have e := Bool.and_eq_true_iff.mp e
      have e2 := e.2
      split at e2
      · rename_i kvs q
        obtain ⟨vs, hx, _⟩ := R.obj n _ q
        exact .inr (.inr (.inl ⟨eq_of_beq e.1, .inl ⟨vs, hx⟩⟩))
      · cases e2
def eBM (T : String) (g : W → List W → IH → Out) (o r : Ev) : Ev := fun σ h => (o σ h).vb fun x h1 => if tyW T x h1 = true then (r σ h1).vsb fun ws h2 => g x ws h2 else .no
theorem s_bm {T id : String} {name : Str} {g : W → List W → IH → Out} {o r : Ev} {eo e : Expr} {es : List Expr} {apos : Pos} (F : Fit G X Z k) (pa : PlainAttrs T) (slot : Slot T name id) (hty : typeOf (.builtin id) = pure (.type "method_descriptor")) (hm : SM G X T id g) (ho : SE G X Z o eo) (hr : SA G X Z r (e :: es))
    (hbase : attributeBase eo name X.env (eval eo X.env) = eval eo X.env := by rfl)
    (hfew : ((backTo pos (starEach (e :: es) X.env)).all (fun x => !x.1) && (backToKw pos (keywordEach [] X.env)).all (fun x => x.1.isSome)
      && decide ((e :: es).length + ([] : List Keyword).length + (if ([] : List Keyword).isEmpty then 0 else 1) < 30)) = true := by rfl)
    (hline : (apos.endLine == pos.line) = true := by rfl) (hs : starEach (e :: es) X.env = (false, eval e X.env) :: starEach es X.env := by rfl) (hplain : (backTo pos (starEach es X.env)).any (·.1) = false := by rfl) :
    SE G X Z (eBM T g o r) (.Call (.Attribute eo name apos) (e :: es) [] pos) := .mk fun m h H σ τ Q R S P => by
  refine WE.of (pe_bm pa slot hty pmM peM paM hbase hfew hline hs hplain) (ho m h H σ τ _ R S (PoE.ee P fun x h1 m1 H1 v1 e1 R1 r1 P1 => ?_))
  split at P1
  · rename_i q
    refine ⟨tyW_of F R1 r1 q, hr m1 h1 H1 σ τ _ R1 (S.mono e1) (PoE.ae P1 fun ws h2 m2 H2 vs e2 R2 r2 P2 => ?_)⟩
    exact hm m2 h2 H2 x v1 ws vs Z Q R2 (r1.mono e2) r2 P2
  · exact P1.elim
theorem s_bm0 {T id : String} {name : Str} {g : W → List W → IH → Out} {o : Ev} {eo : Expr} {apos : Pos} (F : Fit G X Z k) (pa : PlainAttrs T) (slot : Slot T name id) (hty : typeOf (.builtin id) = pure (.type "method_descriptor")) (hm : SM G X T id g) (ho : SE G X Z o eo)
    (hbase : attributeBase eo name X.env (eval eo X.env) = eval eo X.env := by rfl) (hline : (apos.endLine == pos.line) = true := by rfl) :
    SE G X Z (eBM T g o eNil) (.Call (.Attribute eo name apos) [] [] pos) := .mk fun m h H σ τ Q R S P => by
  refine WE.of (pe_bm0 pa slot hty pmM peM hbase hline) (ho m h H σ τ _ R S (PoE.ee P fun x h1 m1 H1 v1 e1 R1 r1 P1 => ?_))
  split at P1
  · rename_i q
    exact ⟨tyW_of F R1 r1 q, hm m1 h1 H1 x v1 [] [] Z Q R1 r1 .nil P1⟩
  · exact P1.elim
def mAppend (x : W) (ws : List W) (h : IH) : Out := match x, ws with
  | .ref n, [y] => (match h[n]? with
    | some (.lst xs) => if xs.length < 16777216 then .v .non (h.set n (.lst (xs ++ [y]))) else .no
    | _ => .no)
  | _, _ => .no
theorem put_lst {m : Nat → Addr} {h : IH} {H : Hp} {n : Nat} {ws ws' : List W} {vs vs' : List V} (R : Rep G.K G.cl m h H) (e : h[n]? = some (.lst ws)) (hx : H (m n) = some (.lst vs)) (hv : RWs G.K G.cl m h.length H ws' vs') :
    Rep G.K G.cl m (h.set n (.lst ws')) (upd H (m n) (.lst vs')) ∧ Ext G.K m h.length H m (h.set n (.lst ws')).length (upd H (m n) (.lst vs')) :=
  R.put e (noTup_of hx (fun _ z => by cases z) (fun _ _ z => by cases z)) (fun ex => ⟨_, upd_same, hv.mono ex⟩)
theorem m_append : SM G X "list" "list.append" mAppend := .mk fun m h H x vx ws vs Z Q R rx r P => by
  unfold mAppend at P
  split at P
  · rename_i n y
    split at P
    · rename_i xs e
      split at P
      · rename_i q
        obtain ⟨us, hx, hu⟩ := R.obj n _ e
        cases rx
        cases r with
        | cons r1 r2 =>
          cases r2
          obtain ⟨R', E'⟩ := put_lst R e hx (hu.append (.cons r1 .nil))
          exact ⟨_, mt_append, m n, us, _, rfl, rfl, hx, by rw [← hu.length, lineSz]; exact q, P m _ _ E' R' .non⟩
      · exact P.elim
    · exact P.elim
  · exact P.elim
def mPop (x : W) (ws : List W) (h : IH) : Out := match x, ws with
  | .ref n, [] => (match h[n]? with
    | some (.lst xs) => (match xs[xs.length - 1]? with | some y => .v y (h.set n (.lst xs.dropLast)) | none => .no)
    | _ => .no)
  | .ref n, [.int i] => (match h[n]? with
    | some (.lst xs) => if -(2 ^ 63) ≤ i ∧ i < 2 ^ 63 then (match seqIndex? i xs.length with
      | some j => (match xs[j]? with | some y => .v y (h.set n (.lst (xs.eraseIdx j))) | none => .no)
      | none => .no) else .no
    | _ => .no)
  | _, _ => .no
theorem RWs.dropLast {m : Nat → Addr} {L : Nat} {H : Hp} {ws : List W} {vs : List V} (r : RWs G.K G.cl m L H ws vs) : RWs G.K G.cl m L H ws.dropLast vs.dropLast := by
  rw [List.dropLast_eq_take, List.dropLast_eq_take, r.length]
  exact r.take _
theorem RWs.erase {m : Nat → Addr} {L : Nat} {H : Hp} {ws : List W} {vs : List V} (r : RWs G.K G.cl m L H ws vs) (i : Nat) : RWs G.K G.cl m L H (ws.eraseIdx i) (vs.eraseIdx i) := by
  rw [List.eraseIdx_eq_take_drop_succ, List.eraseIdx_eq_take_drop_succ]
  exact (r.take _).append (r.drop _)
theorem m_pop : SM G X "list" "list.pop" mPop := .mk fun m h H x vx ws vs Z Q R rx r P => by
  unfold mPop at P
  split at P
  · rename_i n
    split at P
    · rename_i xs e
      split at P
      · rename_i y ey
        obtain ⟨us, hx, hu⟩ := R.obj n _ e
        cases rx
        cases r
        obtain ⟨v, hv, rv⟩ := hu.get ey
        obtain ⟨R', E'⟩ := put_lst R e hx hu.dropLast
        exact ⟨_, mt_pop, m n, us, v, rfl, rfl, hx, by rw [← hu.length]; exact hv, P m _ _ E' R' (rv.mono E')⟩
      · exact P.elim
    · exact P.elim
  · rename_i n i
    split at P
    · rename_i xs e
      split at P
      · rename_i q
        split at P
        · rename_i j ej
          split at P
          · rename_i y ey
            obtain ⟨us, hx, hu⟩ := R.obj n _ e
            cases rx
            cases r with
            | cons r1 r2 =>
              cases r1; cases r2
              obtain ⟨v, hv, rv⟩ := hu.get ey
              obtain ⟨R', E'⟩ := put_lst R e hx (hu.erase j)
              exact ⟨_, mt_popAt, m n, us, i, j, v, rfl, rfl, hx, q.1, q.2, by rw [← hu.length]; exact ej, hv, P m _ _ E' R' (rv.mono E')⟩
          · exact P.elim
        · exact P.elim
      · exact P.elim
    · exact P.elim
  · exact P.elim
def mExtend (x : W) (ws : List W) (h : IH) : Out := match x, ws with
  | .ref n, [.ref q] => (match h[n]?, h[q]? with
    | some (.lst xs), some (.lst ys) => if xs.length + ys.length ≤ 16777216 then .v .non (h.set n (.lst (xs ++ ys))) else .no
    | _, _ => .no)
  | _, _ => .no
theorem m_extend : SM G X "list" "list.extend" mExtend := .mk fun m h H x vx ws vs Z Q R rx r P => by
  unfold mExtend at P
  split at P
  · rename_i n q
    split at P
    · rename_i xs ys e1 e2
      split at P
      · rename_i hz
        obtain ⟨us, hx, hu⟩ := R.obj n _ e1
        obtain ⟨ws, hy, hw⟩ := R.obj q _ e2
        cases rx
        cases r with
        | cons r1 r2 =>
          cases r1; cases r2
          obtain ⟨R', E'⟩ := put_lst R e1 hx (hu.append hw)
          exact ⟨_, mt_extend, m n, m q, us, ws, rfl, rfl, hx, hy, by rw [← hu.length, ← hw.length, lineSz]; exact hz, P m _ _ E' R' .non⟩
      · exact P.elim
    · exact P.elim
  · exact P.elim
/-- texts -/
def W.st : W → Option Str
  | .str x => some x
  | _ => none
theorem sts_of {m : Nat → Addr} {L : Nat} {H : Hp} : ∀ {ws : List W} {vs : List V} {ss : List Str}, RWs G.K G.cl m L H ws vs → mapO W.st ws = some ss → vs = ss.map V.str
  | _, _, _, .nil, e => by cases e; rfl
  | _, _, _, .cons (w := w) (ws := ws) r1 r2, e => by
    unfold mapO at e
    cases q1 : w.st with
    | none => rw [q1] at e; cases e
    | some u =>
      cases q2 : mapO W.st ws with
      | none => rw [q1, q2] at e; cases e
      | some us =>
        rw [q1, q2] at e
        cases e
        rw [sts_of r2 q2]
        cases r1 <;> first | (cases q1; rfl) | cases q1
def joinS (z : Str) (ws : List W) (h : IH) : Out := match mapO W.st ws with
  | some ss => if (ss.map (·.length)).sum + ss.length * z.length ≤ 16777216 then .v (.str (Txt.join z ss)) h else .no
  | none => .no
def mJoin (x : W) (ws : List W) (h : IH) : Out := match x, ws with
  | .str z, [.ref n] => (match lstAt h n with | some ls => joinS z ls h | none => .no)
  | .str z, [.tup ls] => joinS z ls h
  | _, _ => .no
theorem m_join (hK : X.K = G.K) : SM G X "str" "str.join" mJoin := .mk fun m h H x vx ws vs Z Q R rx r P => by
  unfold mJoin at P
  split at P
  · rename_i z n
    split at P
    · rename_i ls e
      unfold joinS at P
      split at P
      · rename_i ss es
        split at P
        · rename_i hz
          obtain ⟨us, hx, hu⟩ := lstAt_of R e
          cases rx
          cases r with
          | cons r1 r2 =>
            cases r1; cases r2
            rw [sts_of hu es] at hx
            exact ⟨_, mt_join, z, m n, ss, rfl, rfl, .inl (hK ▸ hx), hz, P m H _ Ext.refl R (.str _)⟩
        · exact P.elim
      · exact P.elim
    · exact P.elim
  · rename_i z ls
    unfold joinS at P
    split at P
    · rename_i ss es
      split at P
      · rename_i hz
        cases rx
        cases r with
        | cons r1 r2 =>
          cases r1; cases r2
          rename_i p us hp hu
          rw [sts_of hu es] at hp
          exact ⟨_, mt_join, z, p, ss, rfl, rfl, .inr (hK ▸ hp), hz, P m H _ Ext.refl R (.str _)⟩
      · exact P.elim
    · exact P.elim
  · exact P.elim
end
end Dr
namespace Dr
open PySem L2

section
variable {G : Cfg} {X : Cx} {Z : WX} {k : Nat} {a b c : Ev} {ea eb ec : Expr} {pos : Pos}
/-! ### -a -/
def eNeg (a : Ev) : Ev := fun σ h => (a σ h).vb fun x h1 => match x with | .int i => .v (.int (-i)) h1 | _ => .no
theorem s_neg (ha : SE G X Z a ea) : SE G X Z (eNeg a) (.UnaryOp .USub ea pos) := .mk fun m h H σ τ Q R S P => by
  refine WE.of (pe_un un_neg peM) (ha m h H σ τ _ R S (PoE.ee P fun x h1 m1 H1 v1 e1 R1 r1 P1 => ?_))
  cases r1 <;> first | exact P1.elim | skip
  exact ⟨_, rfl, P1 m1 H1 _ Ext.refl R1 (.int _)⟩
/-! ### s * n -/
def repS (x : Str) (n : Int) : Str := if n < 1 then Str.empty else if (n == 1 || x.length == 0) = true then x else ⟨((List.replicate n.toNat x.cps.toList).flatten).toArray⟩
theorem fold_arrs (xss : List (Array Nat)) : ∀ a : Array Nat, xss.foldl (· ++ ·) a = (a.toList ++ (xss.map Array.toList).flatten).toArray := by
  induction xss with
  | nil => intro a; simp
  | cons x xs ih => intro a; rw [List.foldl_cons, ih]; simp
theorem repS_eq (x : Str) (n : Int) : repS x n = if n < 1 then Str.empty else if (n == 1 || x.length == 0) = true then x else ⟨(List.replicate n.toNat x.cps).foldl (· ++ ·) #[]⟩ := by
  unfold repS
  rw [fold_arrs]
  simp
def oMulX (x y : W) (h : IH) : Out := match x, y with
  | .str z, .int n => if 0 ≤ n ∧ n < 1000000 ∧ z.length * n.toNat ≤ 1000000 ∧ (repS z n).length ≤ 16777216 then .v (.str (repS z n)) h else .no
  | _, _ => oMul x y h
theorem op_mul_str : OpR X (binaryOp .Mult) (fun x y H Q => ∃ z n, x = .str z ∧ y = .int n ∧ 0 ≤ n ∧ n < 1000000 ∧ z.length * n.toNat ≤ 1000000 ∧ (repS z n).length ≤ 16777216 ∧ Q (.str (repS z n)) H) := by
  intro pins s σ H x y v u Q I rx ry h
  obtain ⟨z, n, rfl, rfl, h0, h1, h2, h3, q⟩ := h
  obtain ⟨t, rfl⟩ := rx
  obtain ⟨t', rfl⟩ := ry
  refine P.mul_str (by simp; omega) (fun a1 a2 => ?_) (fun a1 a2 => ?_) ?_
  · have : (2 ^ 63 - 1) / n ≥ 1000000 := by
      have hn : 0 < n := by omega
      exact (Int.le_ediv_iff_mul_le hn).mpr (by omega)
    have hz : (z.length : Int) ≤ 1000000 := by
      have : 1 ≤ n.toNat := by omega
      have := Nat.le_mul_of_pos_right z.length this
      omega
    omega
  · show decide (z.length * n.toNat > sizeLine) = false
    rw [lineSz]
    simp only [decide_eq_false_iff_not]
    omega
  · rw [repS_eq] at q h3
    rw [← lineSz] at h3
    by_cases c1 : n < 1
    · rw [if_pos c1] at q h3 ⊢
      exact ⟨h3, .str _, H, I.tok _, ⟨_, rfl⟩, q⟩
    · rw [if_neg c1] at q h3 ⊢
      by_cases c2 : (n == 1 || z.length == 0) = true
      · rw [if_pos c2] at q ⊢
        exact ⟨.str _, H, I, ⟨_, rfl⟩, q⟩
      · rw [if_neg c2] at q h3 ⊢
        exact ⟨h3, .str _, H, I.tok _, ⟨_, rfl⟩, q⟩
theorem so_mulX : SO G X (binaryOp .Mult) oMulX := .mk fun m h H x y vx vy Z Q R rx ry P => by
  unfold oMulX at P
  split at P
  · split at P
    · rename_i q
      cases rx; cases ry
      exact ⟨_, op_mul_str, _, _, rfl, rfl, q.1, q.2.1, q.2.2.1, q.2.2.2, P m H _ Ext.refl R (.str _)⟩
    · exact P.elim
  · exact so_mul m h H x y vx vy Z Q R rx ry P
/-! ### a < b < c -/
def eChain (g g' : W → W → IH → Out) (a b c : Ev) : Ev := fun σ h => (a σ h).vb fun x h1 => (b σ h1).vb fun y h2 => (g x y h2).vb fun z h3 => match z with
  | .bl true => (c σ h3).vb fun w h4 => g' y w h4
  | .bl false => .v (.bl false) h3
  | _ => .no
/-- an operator whose outcome is plain -/
def SO' (G : Cfg) (X : Cx) (f : Value → Value → Sem Value) (g : W → W → IH → Out) : Prop := SO G X f g
theorem chain_read {g g' : W → W → IH → Out} {r r' : R2} {op op' : CmpOp} (F : Fit G X Z k) (ho : SO G X (compareOp op) g) (ho' : SO G X (compareOp op') g') (ha : SE G X Z a ea) (hb : SE G X Z b eb) (hc : SE G X Z c ec)
    (m : Nat → Addr) (h : IH) (H : Hp) (σ : Sg) (τ : St) (Q : VK) (R : Rep G.K G.cl m h H) (S : RSt G m h.length H σ τ) (P : PoE G m h.length H Z Q (eChain g g' a b c σ h)) : tChain (WO X (compareOp op)) (WO X (compareOp op')) (WE X ea) (WE X eb) (WE X ec) τ H Q := by
  refine ha m h H σ τ _ R S (PoE.ee P fun x h1 m1 H1 v1 e1 R1 r1 P1 => ?_)
  refine hb m1 h1 H1 σ τ _ R1 (S.mono e1) (PoE.ee P1 fun y h2 m2 H2 v2 e2 R2 r2 P2 => ?_)
  refine ho m2 h2 H2 x y v1 v2 Z _ R2 (r1.mono e2) r2 (PoE.ee P2 fun z h3 m3 H3 v3 e3 R3 r3 P3 => ?_)
  cases r3 <;> first | exact P3.elim | skip
  rename_i q
  cases q
  · exact ⟨false, rfl, iteF (P3 m3 H3 _ Ext.refl R3 (.bl _))⟩
  · refine ⟨true, rfl, iteT (hc m3 h3 H3 σ τ _ R3 (((S.mono e1).mono e2).mono e3) (PoE.ee P3 fun w h4 m4 H4 v4 e4 R4 r4 P4 => ?_))⟩
    exact ho' m4 h4 H4 y w v2 v4 Z Q R4 ((r2.mono e3).mono e4) r4 P4
theorem s_chain {g g' : W → W → IH → Out} {op op' : CmpOp} (F : Fit G X Z k) (ho : SO G X (compareOp op) g) (ho' : SO G X (compareOp op') g') (ha : SE G X Z a ea) (hb : SE G X Z b eb) (hc : SE G X Z c ec)
    (hm : lastMarks [op, op'] [eb, ec] = false := by with_unfolding_all rfl) : SE G X Z (eChain g g' a b c) (.Compare ea [op, op'] [eb, ec] pos) := .mk fun m h H σ τ Q R S P =>
  WE.of (pe_chain poM poM peM peM peM hm) (chain_read (r := WO X (compareOp op)) (r' := WO X (compareOp op')) F ho ho' ha hb hc m h H σ τ Q R S P)
theorem t_chain {g g' : W → W → IH → Out} {op op' : CmpOp} (F : Fit G X Z k) (ho : SO G X (compareOp op) g) (ho' : SO G X (compareOp op') g') (ha : SE G X Z a ea) (hb : SE G X Z b eb) (hc : SE G X Z c ec)
    (hm : lastMarks [op, op'] [eb, ec] = false := by with_unfolding_all rfl) : ST G X Z (eChain g g' a b c) (.Compare ea [op, op'] [eb, ec] pos) := .mk fun m h H σ τ Q R S P =>
  WT.of (pt_chain poM poM peM peM peM hm) (chain_read (r := WO X (compareOp op)) (r' := WO X (compareOp op')) F ho ho' ha hb hc m h H σ τ (toB Q) R S P)
/-! ### a, b = x, y -/
def ePar (i j : Nat) (r : Ev) : Ev := fun σ h => match r σ h with
  | .vs [v, w] h1 => .nx ((σ.set i (some v)).set j (some w)) h1
  | .ex c w s h => .ex c w s h
  | _ => .no
theorem v_par (i j : Nat) {x y : Str} {r : Ev} {px py pt : Pos} {kt k2 pt2} (F : Fit G X Z k) (hr : SA G X Z r [ea, eb]) (hN : X.N.Nodup) (hij : i ≠ j := by decide) (hi : X.N[i]? = some x := by rfl) (hj : X.N[j]? = some y := by rfl)
    (hx : X.env.scope.names.lookup x = some .local := by rfl) (hy : X.env.scope.names.lookup y = some .local := by rfl)
    (hw : swappedStores [.Tuple [.Name x px, .Name y py] kt pt] (.Tuple [ea, eb] k2 pt2) X.env = pure (some [x, y]) := by rfl)
    (hs : swapsWithSole [.Tuple [.Name x px, .Name y py] kt pt] (.Tuple [ea, eb] k2 pt2) pos.line X.env = pure false := by rfl) :
    SS G X Z (ePar i j r) (.Assign [.Tuple [.Name x px, .Name y py] kt pt] (.Tuple [ea, eb] k2 pt2) pos) := .mk fun m h H σ τ D R S P => by
  refine WS.of (ps_par F.calm hN hi hj hij hx hy paM hw hs) (hr m h H σ τ _ R S ?_)
  unfold ePar at P
  cases e : r σ h with
  | vs ws h1 =>
    rw [e] at P
    intro m1 H1 vs e1 R1 r1
    match ws, P with
    | [], P => exact P.elim
    | [_], P => exact P.elim
    | _ :: _ :: _ :: _, P => exact P.elim
    | [v, w], P =>
      cases r1 with
      | cons r1 r2 => cases r2 with
        | cons r2 r3 => cases r3; exact ⟨_, _, rfl, P m1 H1 _ e1 R1 (((S.mono e1).set i r1).set j r2)⟩
  | ex c w s h => rw [e] at P; exact P
  | v w h => rw [e] at P; exact P
  | nx s h => rw [e] at P; exact P.elim
  | rt w h => rw [e] at P; exact P.elim
  | bk s h => rw [e] at P; exact P.elim
  | ct s h => rw [e] at P; exact P.elim
  | no => rw [e] at P; exact P
/-! ### reversed(range(n)) -/
def jC (lo c : Int) (n : Nat) : ItW := fun i _ => if i < n then some (some (.int (lo + (i : Nat) * c))) else some none
theorem rj_c {m : Nat → Addr} {L : Nat} {H : Hp} {lo c : Int} {n : Nat} : RJ G m L H (jC lo c n) (Itc lo c n) := by
  intro i m1 h1 H1 e1 R1
  unfold jC
  by_cases q : i < n
  · rw [if_pos q]
    refine ⟨q, fun x H' y => ?_⟩
    obtain ⟨rfl, rfl⟩ := y
    exact ⟨m1, Ext.refl, R1, .int _⟩
  · rw [if_neg q]
    exact Nat.le_of_not_lt q
def iRR (a : Ev) : EvI := fun σ h => .of (a σ h) fun w h1 => match w with
  | .int n => if -(2 ^ 62) ≤ n ∧ n < 2 ^ 62 then .it (jC (0 + (((n - 0).toNat : Nat) : Int) - 1) (-1) (n - 0).toNat) h1 else .no
  | _ => .no
theorem i_rr {p p' pos' : Pos} {tg : Expr} (hm : X.mg "reversed" = none) (hm' : X.mg "range" = none) (ha : SE G X Z a ea) (hg : Gl X "reversed" := by rfl) (hg' : Gl X "range" := by rfl)
    (na : starEach [ea] X.env = (false, eval ea X.env) :: starEach [] X.env := by rfl) (hs : starEach [.Call (.Name "range" p') [ea] [] pos'] X.env = (false, eval (.Call (.Name "range" p') [ea] [] pos') X.env) :: starEach [] X.env := by rfl) :
    SI G X Z (iRR a) tg (.Call (.Name "reversed" p) [.Call (.Name "range" p') [ea] [] pos'] [] pos) := .mk fun m h H σ τ Q R S P => by
  refine WI.of (pi_revR hg hm (prg_1 hg' hm' peM na) hs) (ha m h H σ τ _ R S (PoI.ei P fun w h1 m1 H1 v1 e1 R1 r1 P1 => ?_))
  cases r1 <;> first | exact P1.elim | skip
  simp only at P1
  split at P1
  · rename_i q
    exact ⟨_, rfl, by decide, by decide, q.1, q.2, P1 m1 H1 _ Ext.refl R1 rj_c⟩
  · exact P1.elim
/-! ### functions of lists -/
def bTuple : Fn := fun ws h => match ws with
  | [.tup ts] => .v (.tup ts) h
  | [.ref n] => (match lstAt h n with | some ls => .v (.tup ls) h | none => .no)
  | _ => .no
theorem c_tuple (hK : X.K = G.K) : SC G X (.type "tuple") bTuple := .mk fun m h H ws vs Z Q R r P => by
  unfold bTuple at P
  split at P
  · cases r with
    | cons r1 r2 =>
      cases r1; cases r2
      rename_i p us hp hu
      exact ⟨_, call_tuple_of, p, us, rfl, .inr ⟨hK ▸ hp, P m H _ Ext.refl R (.tup hp hu)⟩⟩
  · rename_i n
    split at P
    · rename_i ls e
      obtain ⟨us, hx, hu⟩ := lstAt_of R e
      cases r with
      | cons r1 r2 =>
        cases r1; cases r2
        exact ⟨_, call_tuple_of, m n, us, rfl, .inl ⟨hK ▸ hx, fun l hl => new_tup R hl hu P⟩⟩
    · exact P.elim
  · exact P.elim
def bList : Fn := fun ws h => match ws with
  | [.tup ts] => .v (.ref h.length) (h ++ [.lst ts])
  | [.ref n] => (match lstAt h n with | some ls => .v (.ref h.length) (h ++ [.lst ls]) | none => .no)
  | _ => .no
theorem c_list (hK : X.K = G.K) : SC G X (.type "list") bList := .mk fun m h H ws vs Z Q R r P => by
  unfold bList at P
  split at P
  · cases r with
    | cons r1 r2 =>
      cases r1; cases r2
      rename_i p us hp hu
      exact ⟨_, call_list_of, p, us, rfl, .inr (hK ▸ hp), fun l hl => new_lst R hl hu P⟩
  · rename_i n
    split at P
    · rename_i ls e
      obtain ⟨us, hx, hu⟩ := lstAt_of R e
      cases r with
      | cons r1 r2 =>
        cases r1; cases r2
        exact ⟨_, call_list_of, m n, us, rfl, .inl (hK ▸ hx), fun l hl => new_lst R hl hu P⟩
    · exact P.elim
  · exact P.elim
def W.boo : W → Option Bool
  | .bl b => some b
  | _ => none
def W.num : W → Option Int
  | .int b => some b
  | _ => none
theorem boos_of {m : Nat → Addr} {L : Nat} {H : Hp} : ∀ {ws : List W} {vs : List V} {ss : List Bool}, RWs G.K G.cl m L H ws vs → mapO W.boo ws = some ss → vs = ss.map V.bl
  | _, _, _, .nil, e => by cases e; rfl
  | _, _, _, .cons (w := w) (ws := ws) r1 r2, e => by
    unfold mapO at e
    cases q1 : w.boo with
    | none => rw [q1] at e; cases e
    | some u =>
      cases q2 : mapO W.boo ws with
      | none => rw [q1, q2] at e; cases e
      | some us =>
        rw [q1, q2] at e
        cases e
        rw [boos_of r2 q2]
        cases r1 <;> first | (cases q1; rfl) | cases q1
theorem nums_of {m : Nat → Addr} {L : Nat} {H : Hp} : ∀ {ws : List W} {vs : List V} {ss : List Int}, RWs G.K G.cl m L H ws vs → mapO W.num ws = some ss → vs = ss.map V.int
  | _, _, _, .nil, e => by cases e; rfl
  | _, _, _, .cons (w := w) (ws := ws) r1 r2, e => by
    unfold mapO at e
    cases q1 : w.num with
    | none => rw [q1] at e; cases e
    | some u =>
      cases q2 : mapO W.num ws with
      | none => rw [q1, q2] at e; cases e
      | some us =>
        rw [q1, q2] at e
        cases e
        rw [nums_of r2 q2]
        cases r1 <;> first | (cases q1; rfl) | cases q1
def onL {β : Type} (f : W → Option β) (ws : List W) (h : IH) (q : List β → Out) : Out := match ws with
  | [.ref n] => (match lstAt h n with | some ls => (match mapO f ls with | some bs => q bs | none => .no) | none => .no)
  | _ => .no
def bAll : Fn := fun ws h => onL W.boo ws h fun bs => .v (.bl (bs.all id)) h
def bAny : Fn := fun ws h => onL W.boo ws h fun bs => .v (.bl (bs.any id)) h
def bSum : Fn := fun ws h => onL W.num ws h fun bs => .v (.int bs.sum) h
theorem onL_of {β : Type} {f : W → Option β} {ws : List W} {vs : List V} {m : Nat → Addr} {h : IH} {H : Hp} {q : List β → Out} {Q : VK} (R : Rep G.K G.cl m h H) (r : RWs G.K G.cl m h.length H ws vs) (P : PoE G m h.length H Z Q (onL f ws h q)) :
    ∃ n us ls bs, vs = [.ref (m n)] ∧ SqL G.K H (m n) us ∧ RWs G.K G.cl m h.length H ls us ∧ mapO f ls = some bs ∧ PoE G m h.length H Z Q (q bs) := by
  unfold onL at P
  split at P
  · rename_i n
    split at P
    · rename_i ls e
      split at P
      · rename_i bs eb
        obtain ⟨us, hx, hu⟩ := lstAt_of R e
        cases r with
        | cons r1 r2 => cases r1; cases r2; exact ⟨n, us, ls, bs, rfl, hx, hu, eb, P⟩
      · exact P.elim
    · exact P.elim
  · exact P.elim
theorem c_all (F : Fit G X Z k) : SC G X (.builtin "all") bAll := .mk fun m h H ws vs Z Q R r P => by
  obtain ⟨n, us, ls, bs, rfl, hx, hu, eb, P⟩ := onL_of R r P
  rw [boos_of hu eb] at hx
  exact ⟨_, cr_all F.calm, m n, bs, rfl, F.K ▸ hx, P m H _ Ext.refl R (.bl _)⟩
theorem c_any (F : Fit G X Z k) : SC G X (.builtin "any") bAny := .mk fun m h H ws vs Z Q R r P => by
  obtain ⟨n, us, ls, bs, rfl, hx, hu, eb, P⟩ := onL_of R r P
  rw [boos_of hu eb] at hx
  exact ⟨_, cr_any F.calm, m n, bs, rfl, F.K ▸ hx, P m H _ Ext.refl R (.bl _)⟩
theorem c_sum (F : Fit G X Z k) : SC G X (.builtin "sum") bSum := .mk fun m h H ws vs Z Q R r P => by
  obtain ⟨n, us, ls, bs, rfl, hx, hu, eb, P⟩ := onL_of R r P
  rw [nums_of hu eb] at hx
  exact ⟨_, cr_sum F.calm, m n, bs, rfl, F.K ▸ hx, P m H _ Ext.refl R (.int _)⟩
/-! ### texts -/
def mStripC (x : W) (ws : List W) (h : IH) : Out := match x, ws with
  | .str z, [.str y] => if z.length ≤ 16777216 then .v (.str (Txt.stripChars z y)) h else .no
  | _, _ => .no
theorem m_stripC : SM G X "str" "str.strip" mStripC := .mk fun m h H x vx ws vs Z Q R rx r P => by
  unfold mStripC at P
  split at P
  · split at P
    · rename_i q
      cases rx
      cases r with
      | cons r1 r2 => cases r1; cases r2; exact ⟨_, mt_stripChars, _, _, rfl, rfl, by rw [lineSz]; exact q, P m H _ Ext.refl R (.str _)⟩
    · exact P.elim
  · exact P.elim
def bIntX : Fn := fun ws h => match ws with
  | [.str z] => (match PySem.intText? z with | some n => if z.length ≤ 640 then .v (.int n) h else .no | none => .no)
  | _ => bInt ws h
theorem c_intX : SC G X (.type "int") bIntX := .mk fun m h H ws vs Z Q R r P => by
  unfold bIntX at P
  split at P
  · split at P
    · rename_i n e
      split at P
      · rename_i q
        cases r with
        | cons r1 r2 => cases r1; cases r2; exact ⟨_, call_int_str, _, n, rfl, e, q, P m H _ Ext.refl R (.int _)⟩
      · exact P.elim
    · exact P.elim
  · exact c_int m h H ws vs Z Q R r P
/-! ### f-strings -/
def fmtW (x : W) (h : IH) : Out := match x with
  | .str y => if y.length ≤ 16777216 then .v (.str y) h else .no
  | .int i => if i.natAbs.log2 < 1920 then .v (.str (toString i)) h else .no
  | _ => .no
def eFmt (a : Ev) : Ev := fun σ h => (a σ h).vb fmtW
theorem s_fmt (ha : SE G X Z a ea) : SE G X Z (eFmt a) (.FormattedValue ea (-1) none pos) := .mk fun m h H σ τ Q R S P => by
  refine WE.of (pe_fmt peM) (ha m h H σ τ _ R S (PoE.ee P fun x h1 m1 H1 v1 e1 R1 r1 P1 => ?_))
  unfold fmtW at P1
  cases r1 <;> first | exact P1.elim | skip
  · simp only at P1
    split at P1
    · rename_i q
      exact .inr ⟨_, rfl, q, P1 m1 H1 _ Ext.refl R1 (.str _)⟩
    · exact P1.elim
  · simp only at P1
    split at P1
    · rename_i q
      exact .inl ⟨_, rfl, by rw [lineSz]; exact q, P1 m1 H1 _ Ext.refl R1 (.str _)⟩
    · exact P1.elim
def eJs : List Ev → Str → Ev
  | [], acc => fun _ h => .v (.str acc) h
  | t :: ts, acc => fun σ h => (t σ h).vb fun x h1 => match x with
    | .str y => if (appS acc y).length ≤ 16777216 then eJs ts (appS acc y) σ h1 else .no
    | _ => .no
inductive SJ (G : Cfg) (X : Cx) (Z : WX) : List Ev → List Expr → Prop
  | nil : SJ G X Z [] []
  | cons {a : Ev} {e : Expr} {as : List Ev} {es : List Expr} : SE G X Z a e → SJ G X Z as es → SJ G X Z (a :: as) (e :: es)
theorem SJ.pj {as : List Ev} {es : List Expr} (h : SJ G X Z as es) : PJ X es (es.map (WE X)) := by
  induction h with
  | nil => exact .nil
  | cons _ _ ih => exact .cons peM ih
theorem SJ.read {as : List Ev} {es : List Expr} (hj : SJ G X Z as es) : ∀ (acc : Str) (m : Nat → Addr) (h : IH) (H : Hp) (σ : Sg) (τ : St) (Q : Str → Hp → Prop), Rep G.K G.cl m h H → RSt G m h.length H σ τ → PoE G m h.length H Z (fun v H1 => ∃ y, v = .str y ∧ Q y H1) (eJs as acc σ h) → tJs (es.map (WE X)) acc τ H Q := by
  induction hj with
  | nil =>
    intro acc m h H σ τ Q R S P
    obtain ⟨y, e, q⟩ := P m H _ Ext.refl R (.str acc)
    cases e; exact q
  | cons ha _ ih =>
    intro acc m h H σ τ Q R S P
    refine ha m h H σ τ _ R S (PoE.ee P fun x h1 m1 H1 v1 e1 R1 r1 P1 => ?_)
    cases r1 <;> first | exact P1.elim | skip
    simp only [appS_eq] at P1
    split at P1
    · rename_i q
      exact ⟨_, rfl, by rw [lineSz]; exact q, ih _ m1 h1 H1 σ τ Q R1 (S.mono e1) P1⟩
    · exact P1.elim
theorem s_joined {as : List Ev} {v1 v2 : Expr} {rest : List Expr} (h : SJ G X Z as (v1 :: v2 :: rest)) : SE G X Z (eJs as Str.empty) (.JoinedStr (v1 :: v2 :: rest) pos) := .mk fun m hp H σ τ Q R S P => by
  refine WE.of (pe_joined h.pj) (h.read Str.empty m hp H σ τ (fun out H1 => Q (.str out) H1) R S ?_)
  cases e : eJs as Str.empty σ hp with
  | v w h' =>
    rw [e] at P
    intro m' H' v e' R' r'
    have hw : ∀ (as : List Ev) (acc : Str) (σ : Sg) (h : IH) w h', eJs as acc σ h = .v w h' → ∃ y, w = .str y := by
      intro as
      induction as with
      | nil => intro acc σ h w h' e; cases e; exact ⟨_, rfl⟩
      | cons t ts ih =>
        intro acc σ h w h' e
        unfold eJs at e
        cases q : t σ h with
        | v x h1 =>
          rw [q] at e
          cases x <;> first | (cases e; done) | skip
          simp only [Out.vb] at e
          split at e
          · exact ih _ _ _ _ _ e
          · cases e
        | _ => rw [q] at e; cases e
    obtain ⟨y, rfl⟩ := hw as _ _ _ _ _ e
    have := P m' H' v e' R' r'
    cases r'
    exact ⟨_, rfl, this⟩
  | ex c w s h' => rw [e] at P; exact P
  | _ => rw [e] at P; exact P.elim
end
end Dr
set_option maxHeartbeats 2000000
namespace L2
open PySem PySem.Spec PyProof.Rows
/-- several clauses «except x as n», n the same name each time -/
def wNam (K : PySem.W.Frag) (i : Nat) (Wz : WX) (D : Ends) : List (Value × (Addr → Value → Option Addr → TS)) → WX
  | [] => Wz
  | (c, ts) :: r => fun cls d σ H => ∃ b, PySem.W.exmOne K cls c = some b ∧
      (b = true → ∀ a, H a = none → ts a cls d { nx := fun τ U => D.nx (τ.set i none) U, rt := D.rt, bk := fun τ U => D.bk (τ.set i none) U, ct := fun τ U => D.ct (τ.set i none) U } (σ.set i (some (.ref a))) H) ∧ (b = false → wNam K i Wz D r cls d σ H)
inductive HdsN (X : Cx) (n : Str) : List ExceptHandler → List (Value × (Addr → Value → Option Addr → TS)) → Prop
  | nil : HdsN X n [] []
  | cons {x : Str} {c : Value} {ts : Addr → Value → Option Addr → TS} {s0 : Stmt} {ss : List Stmt} {np p' : Pos} {hs : List ExceptHandler} {l : List (Value × (Addr → Value → Option Addr → TS))} (nam : Names X x c)
      (su : ∀ (a : Addr) (oe : Obj) (cls : Value) (d : Option Addr) (pn : List (Addr × Obj)), Zc cls d oe → (∃ fv, oe.data = .fields fv) → PSs (X.suite a ((a, oe) :: pn)) (s0 :: ss) (ts a cls d)) (r : HdsN X n hs l) :
      HdsN X n (.ExceptHandler (some (.Name x np)) (some n) (s0 :: ss) p' :: hs) ((c, ts) :: l)
section
variable {X : Cx} {body : List Stmt} {h0 : ExceptHandler} {hds : List ExceptHandler} {l : List (Value × (Addr → Value → Option Addr → TS))} {pos : Pos} {tb : WX → TS} {Wz : WX} {n : Str} {i : Nat}
theorem ps_tryN (est : X.stack = X.env :: X.outer) (efr : X.env.frame = some X.env.locals) (nd : X.N.Nodup) (hi : X.N[i]? = some n) (kn : X.env.kindOf n = some .local) (tk : Takes X Wz)
    (hb : ∀ (W : WX) (pn : List (Addr × Obj)) (xe : Value → Shared → Prop), Takes (X.tr pn xe) W → PassesOwn (model X.prog X.w) X.A X.env xe → PSs (X.tr pn xe) body (tb W))
    (hh : HdsN X n (h0 :: hds) l) : PS X (.Try body (h0 :: hds) [] [] pos) (fun D σ H => tb (wNam X.K i Wz D l) D σ H) := by
  refine ⟨fun pins s σ H D inv rd => ?_⟩
  have okX := inv.ok
  have frm : X.A.frames = some (X.env :: X.outer) := by rw [okX.frames, est]
  refine wpAny_Try_except (wpAny_mono ((hb (wNam X.K i Wz D l) (X.pn ++ pins) (fun e s1 => wpAny (model X.prog X.w) X.A (noteFrame e X.env) (fun _ s2 => wpAny (model X.prog X.w) X.A (setFlight e none) (fun _ s3 =>
    wpAny (model X.prog X.w) X.A (handleBy e X.env (h0 :: hds)) (SP X pins D) X.xe s3) X.xe s2) X.xe s1) (fun u s' air => ?_) PassesOwn.looking).run [] s σ H D (inv.toTry _) rd) (fun f s1 en => ?_) fun e s1 he => he)
  · obtain ⟨a, B, sI, pins', σ', H', cls, d, rfl, J0, nb, up, sky, na, os, ag, wish⟩ := air
    have J : Inv X pins σ' H' sI := J0.ofTry okX
    have sky2 : Sky B (X.env :: X.outer) a (Zc cls d) X.env.locals s'.heap := by rw [← est]; exact sky
    show wpAny (model X.prog X.w) X.A (noteFrame (.ref a) X.env) _ _ _
    refine Sky.land Zc.steady frm efr sky2 fun g3 fly up3 => ?_
    have K3 : Inv X pins σ' H' { s' with heap := g3 } := J.landed nb fly.1 (up.trans up3) os ag
    obtain ⟨o3, f3, e3, z3, d3⟩ := fly.there
    have out : a ∉ frs (X.env :: X.outer) := fun hm => by
      obtain ⟨_, o', e', no⟩ := fly.2.2.1.mem hm
      rw [e3] at e'; cases e'
      exact no _ d3
    have aL : a ≠ X.env.locals := fun z => out (List.mem_filterMap.mpr ⟨X.env, List.mem_cons_self, by rw [efr, z]⟩)
    have aF : a ∉ X.fs := fun hm => by
      obtain ⟨e, he, q⟩ := List.mem_filterMap.mp hm
      exact out (List.mem_filterMap.mpr ⟨e, List.mem_cons_of_mem _ he, q⟩)
    have T3 := K3.suite e3 d3 na aL aF
    have walk : ∀ {hs2 : List ExceptHandler} {l2 : List (Value × (Addr → Value → Option Addr → TS))}, HdsN X n hs2 l2 → wNam X.K i Wz D l2 cls d σ' H' →
        wpAny (model X.prog X.w) X.A (handleBy (.ref a) X.env hs2) (SP X pins D) X.xe { s' with heap := g3 } := by
      intro hs2 l2 hk
      induction hk with
      | nil =>
        intro wz
        obtain ⟨k1, k2, k3, oe, fv, tb, ot, ts', he, hz, hd, h1, hr⟩ := id fly
        refine wpAny_handleBy_nil ?_
        unfold PySem.passOn
        refine wpAny_bind (wpAny_field he hd h1 ?_)
        rw [if_neg (show ¬ ((Value.ref tb == Value.none) = true) from by simp)]
        have last : wpAny (model X.prog X.w) X.A (setFlight (.ref a) X.env.frame) (fun _ s4 => wpAny (model X.prog X.w) X.A (throw (.ref a) : Sem Flow) (SP X pins D) X.xe s4) X.xe { s' with heap := g3 } := by
          rw [efr]
          exact HandSPX.setFlight_upZ fly fun g4 hg4 up4 => wpAny_throw (tk _ _ ⟨a, B, sI, pins, σ', H', cls, d, rfl, J, nb, (up.trans up3).trans up4, .inr (.inr (by rw [est]; exact hg4)), na, os, ag, wz⟩)
        first
          | exact wpAny_bind (wpAny_pure (wpAny_bind last))
          | exact wpAny_bind last
      | @cons x c ts s0 ss np p' hs3 l3 nam su r ih =>
        intro wz
        obtain ⟨b, eb, yes, no⟩ := wz
        refine wpAny_handleBy_cons (codeAny_handlers_test ?_) (by intro q; cases q)
        have ty : PySem.W.Looks (model X.prog X.w) g3 (typeOf (.ref a)) cls := fun A Q E s k q => wpAny_typeOf_ref (k _ _ e3) (by rw [z3.1]; exact q)
        have ask : ∀ {Q : Value → Shared → Prop} {E : Value → Shared → Prop}, Q c { s' with heap := g3 } → wpAny (model X.prog X.w) (X.A.mark (some (.ref a))) (eval (.Name x np) X.env) Q E { s' with heap := g3 } := fun {Q E} q => by
          obtain ⟨hg, hdb, hm | ⟨hm, hv, hn⟩⟩ := nam
          · exact ld_glob (X := X.suite a ((a, o3) :: (X.pn ++ pins))) T3 hg hm q hdb
          · exact ld_blt (X := X.suite a ((a, o3) :: (X.pn ++ pins))) T3 hg hm hv q hn hdb
        refine ask ((PySem.W.exm_one (M := model X.prog X.w) K3.kIn ty eb).here ?_)
        cases b with
        | false => exact ih (no rfl)
        | true =>
          refine codeAny_handlers_suite_as (HandSPX.lands_againZ fly fun g4 fly4 up4 => ?_)
          have K4 : Inv X pins σ' H' { s' with heap := g4 } := J.landed nb fly4.1 ((up.trans up3).trans up4) os ag
          obtain ⟨o4, f4, e4, z4, d4⟩ := fly4.there
          refine store_ok (X := X.suite a ((a, o4) :: (X.pn ++ pins))) (v := .ref a) (K4.suite e4 d4 na aL aF) nd hi (.inl kn) rfl (fun s5 T5 => ?_) (.inr kn)
          refine wpAny_mono ((su a o4 cls d (X.pn ++ pins) z4 ⟨_, d4⟩).run [] s5 _ H' _ T5 (yes rfl a na)) (fun f s6 en => ?_) (fun _ _ z => False.elim z)
          have off : ∀ {τ : St} {U : Hp} {Q : Shared → Prop}, Inv (X.suite a ((a, o4) :: (X.pn ++ pins))) [] τ U s6 → (∀ s7, Inv X pins (τ.set i none) U s7 → Q s7) →
              wpAny (model X.prog X.w) X.A (do bindName X.env n .none; unbindBehindTheSuite X.env n p') (fun _ s7 => Q s7) X.xe s6 := fun {τ U Q} T6 hq => gone_ok (T6.unsuite okX) nd hi kn hq
          cases f with
          | next => obtain ⟨τ, U, T6, q6⟩ := en; exact off T6 fun s7 J7 => ⟨_, _, J7, q6⟩
          | brk => obtain ⟨τ, U, T6, q6⟩ := en; exact off T6 fun s7 J7 => ⟨_, _, J7, q6⟩
          | cont => obtain ⟨τ, U, T6, q6⟩ := en; exact off T6 fun s7 J7 => ⟨_, _, J7, q6⟩
          | ret u => obtain ⟨v6, τ, U, T6, r6, q6⟩ := en; exact off T6 fun s7 J7 => ⟨_, _, _, J7, r6, q6⟩
    exact walk hh wish
  · cases f with
    | next => obtain ⟨τ, U, J1, q⟩ := en; exact wpAny_execs_nil ⟨τ, U, J1.ofTry okX, q⟩
    | brk => obtain ⟨τ, U, J1, q⟩ := en; exact ⟨τ, U, J1.ofTry okX, q⟩
    | cont => obtain ⟨τ, U, J1, q⟩ := en; exact ⟨τ, U, J1.ofTry okX, q⟩
    | ret u => obtain ⟨v, τ, U, J1, r, q⟩ := en; exact ⟨v, τ, U, J1.ofTry okX, r, q⟩
end
end L2
set_option maxHeartbeats 2000000
namespace Dr
open PySem L2

/-! ### try: several clauses, each with the same name -/
structure Hd where
  sub : Nat → Option Bool
  ev : Nat → W → Ev
def Out.un (i : Nat) : Out → Out
  | .nx s h => .nx (s.set i none) h
  | .rt w h => .rt w h
  | .bk s h => .bk (s.set i none) h
  | .ct s h => .ct (s.set i none) h
  | _ => .no
def runH (i : Nat) : List Hd → Nat → W → Sg → IH → Out
  | [], _, _, _, _ => .no
  | hd :: r, c, w, σ, h => match hd.sub c with
    | some true => (hd.ev c w (σ.set i none) h).un i
    | some false => runH i r c w σ h
    | none => .no
def eTry (i : Nat) (b : Ev) (hs : List Hd) : Ev := fun σ h => match b σ h with
  | .ex c w s h' => runH i hs c w s h'
  | o => o
/-- within a suite -/
abbrev Cfg.sui (G : Cfg) (i : Nat) (a dd : Addr) (c : Nat) (w : W) : Cfg := { G with xs := some (i, a), xd := some (dd, c, w) }
def Zf : WX := fun _ _ _ _ => False
inductive SH (G : Cfg) (X : Cx) (i : Nat) (n : Str) : List Hd → List ExceptHandler → Prop
  | nil : SH G X i n [] []
  | cons {hd : Hd} {hs : List Hd} {x : Str} {cv : Value} {s0 : Stmt} {ss : List Stmt} {np p' : Pos} {hds : List ExceptHandler} (nam : Names X x cv) (hsub : ∀ c b, hd.sub c = some b → PySem.W.exmOne X.K (.ref (G.cl c)) cv = some b)
      (su : ∀ (a dd : Addr) (oe : Obj) (pn : List (Addr × Obj)) (c : Nat) (w : W), Zc (.ref (G.cl c)) (some dd) oe → (∃ fv, oe.data = .fields fv) → SB (G.sui i a dd c w) (X.suite a ((a, oe) :: pn)) Zf (hd.ev c w) (s0 :: ss)) (r : SH G X i n hs hds) :
      SH G X i n (hd :: hs) (.ExceptHandler (some (.Name x np)) (some n) (s0 :: ss) p' :: hds)
section
variable {G : Cfg} {X : Cx} {Z : WX} {k : Nat} {a b c : Ev} {ea eb ec : Expr} {pos : Pos}
theorem RSt.sui {m : Nat → Addr} {L : Nat} {H : Hp} {σ : Sg} {τ : St} {i c : Nat} {a dd : Addr} {w : W} {v : V} (r : RSt G m L H σ τ) (hd : H dd = some (.xd [(G.fn c, v)])) (rw_ : RW G.K G.cl m L H w v) : RSt (G.sui i a dd c w) m L H (σ.set i none) (τ.set i (some (.ref a))) := by
  refine ⟨by simp [r.len], fun j x h => ?_, fun j b hx hj => ?_, fun d' c' w' h => ?_⟩
  · by_cases e : j = i
    · subst e
      have hl : j < σ.length := by simpa using (List.getElem?_eq_some_iff.mp h).1
      rw [List.getElem?_set_self hl] at h
      cases h
    · rw [List.getElem?_set_ne (Ne.symm e)] at h ⊢
      exact r.get j x h
  · cases hx
    have hl : i < σ.length := by simpa using (List.getElem?_eq_some_iff.mp hj).1
    exact List.getElem?_set_self (by rw [← r.len]; exact hl)
  · cases h
    exact ⟨v, hd, rw_⟩
theorem RSt.unsui {m : Nat → Addr} {L : Nat} {H : Hp} {σ : Sg} {τ : St} {i c : Nat} {a dd : Addr} {w : W} (hx : G.xs = none ∧ G.xd = none) (r : RSt (G.sui i a dd c w) m L H σ τ) : RSt G m L H (σ.set i none) (τ.set i none) := by
  refine ⟨by simp [r.len], fun j x h => ?_, fun j b z => (by rw [hx.1] at z; cases z), fun d' c' w' z => by rw [hx.2] at z; cases z⟩
  by_cases e : j = i
  · subst e
    have hl : j < σ.length := by simpa using (List.getElem?_eq_some_iff.mp h).1
    rw [List.getElem?_set_self hl] at h
    cases h
  · rw [List.getElem?_set_ne (Ne.symm e)] at h ⊢
    exact r.get j x h
theorem SH.go {i : Nat} {n : Str} {hs : List Hd} {hds : List ExceptHandler} (hx : G.xs = none ∧ G.xd = none) (h : SH G X i n hs hds) : ∃ l, HdsN X n hds l ∧ ∀ (D : Ends) (m : Nat → Addr) (h' : IH) (H : Hp) (c : Nat) (w : W) (s : Sg) (d : Addr) (v : V) (τ : St),
    Rep G.K G.cl m h' H → RW G.K G.cl m h'.length H w v → RSt G m h'.length H s τ → H d = some (.xd [(G.fn c, v)]) → PoS G m h'.length H Z D (runH i hs c w s h') → wNam X.K i (fun c d σ H => G.dty c ∧ Z c d σ H) D l (.ref (G.cl c)) (some d) τ H := by
  induction h with
  | nil => exact ⟨[], .nil, fun D m h' H c w s d v τ R r S hd P => False.elim P⟩
  | @cons hd hs x cv s0 ss np p' hds nam hsub su r ih =>
    obtain ⟨l, hl, ih⟩ := ih
    refine ⟨(cv, fun a cls d D σ H => ∀ (oe : Obj) (pn : List (Addr × Obj)), Zc cls d oe → (∃ fv, oe.data = .fields fv) → WB (X.suite a ((a, oe) :: pn)) (s0 :: ss) D σ H) :: l,
      .cons nam (fun a oe cls d pn hz hf => ⟨fun pins s σ H D I hh => hh oe pn hz hf pins s I⟩) hl, fun D m h' H c w s d v τ R rr S hdd P => ?_⟩
    unfold runH at P
    split at P
    · rename_i es
      refine ⟨true, hsub c true es, fun _ a ha oe pn hz hf => ?_, fun z => by cases z⟩
      refine su a d oe pn c w hz hf m h' H _ _ _ R (S.sui hdd rr) ?_
      cases e : hd.ev c w (s.set i none) h' with
      | nx s2 h2 => rw [e] at P; exact fun m' H' τ' e' R' S' => P m' H' _ e' R' (S'.unsui hx)
      | bk s2 h2 => rw [e] at P; exact fun m' H' τ' e' R' S' => P m' H' _ e' R' (S'.unsui hx)
      | ct s2 h2 => rw [e] at P; exact fun m' H' τ' e' R' S' => P m' H' _ e' R' (S'.unsui hx)
      | rt w2 h2 => rw [e] at P; exact P
      | ex c2 w2 s2 h2 => rw [e] at P; exact False.elim P
      | v w2 h2 => rw [e] at P; exact False.elim P
      | vs w2 h2 => rw [e] at P; exact False.elim P
      | no => rw [e] at P; exact False.elim P
    · rename_i es
      exact ⟨false, hsub c false es, fun z => (by cases z), fun _ => ih D m h' H c w s d v τ R rr S hdd P⟩
    · exact False.elim P
theorem Fit.tr {pn : List (Addr × Obj)} {xe : Value → Shared → Prop} {W' : WX} (F : Fit G X Z k) (tk : Tk2 G (X.tr pn xe) W') (ow : PassesOwn (model X.prog X.w) X.A X.env xe) : Fit G (X.tr pn xe) W' k := ⟨F.K, F.calm, ow, tk, F.room, F.base, F.gd⟩
theorem v_try {i : Nat} {n : Str} {hs : List Hd} {h0 : ExceptHandler} {hds : List ExceptHandler} {body : List Stmt} (F : Fit G X Z k) (hx : G.xd = none) (nd : X.N.Nodup)
    (hb : ∀ (pn : List (Addr × Obj)) (xe : Value → Shared → Prop) (W' : WX), Fit G (X.tr pn xe) W' k → SB G (X.tr pn xe) W' b body) (hh : SH G X i n hs (h0 :: hds))
    (est : X.stack = X.env :: X.outer := by rfl) (efr : X.env.frame = some X.env.locals := by rfl) (hi : X.N[i]? = some n := by rfl) (kn : X.env.kindOf n = some .local := by rfl) :
    SS G X Z (eTry i b hs) (.Try body (h0 :: hds) [] [] pos) := .mk fun m h H σ τ D R S P => by
  obtain ⟨l, hl, go⟩ := hh.go (Z := Z) ⟨F.base, hx⟩
  refine WS.of (ps_tryN (tb := fun W' D σ H => ∀ (pn : List (Addr × Obj)) (xe : Value → Shared → Prop), Takes (X.tr pn xe) W' → PassesOwn (model X.prog X.w) X.A X.env xe → WB (X.tr pn xe) body D σ H) est efr nd hi kn F.tk.x
    (fun W' pn xe tk ow => ⟨fun pins s σ H D I hh => hh pn xe tk ow pins s I⟩) hl) ?_
  intro pn xe tk ow
  refine hb pn xe _ (F.tr (.of tk) ow) m h H σ τ D R S ?_
  unfold eTry at P
  cases e : b σ h with
  | ex c w s h' => rw [e] at P; exact fun m' H' d v τ' e' R' r' S' hd => go D m' h' H' c w s d v τ' R' r' S' hd (PoS.later e' P)
  | nx s2 h2 => rw [e] at P; exact P
  | bk s2 h2 => rw [e] at P; exact P
  | ct s2 h2 => rw [e] at P; exact P
  | rt w2 h2 => rw [e] at P; exact P
  | v w2 h2 => rw [e] at P; exact P
  | vs w2 h2 => rw [e] at P; exact P
  | no => rw [e] at P; exact P
end
end Dr
set_option maxHeartbeats 2000000
/-! isinstance of a caught error that has a dict -/
namespace PySem.W
open PySem PySem.Spec PySem.Calls PyProof.Rows
section
variable {prog : Program} {w : World} {A : Around} {E : Value → Shared → Prop} {s : Shared} {K : Frag} {x D : Addr} {ox : Obj} {od : Option Obj}
theorem drFind {name : Str} {a g : Value} (hc : (clsIn K D).isSome = true) (ha : findIn K (.ref D) name = some (some a)) (hg : specialIn K a "__get__" = some (some g)) (ht : takesIn K a = some true) : findObj K D od name = some (.bind g a) := by
  obtain ⟨cd, hc⟩ := Option.isSome_iff_exists.mp hc
  unfold findObj
  rw [hc, Option.bind_some, ha, Option.bind_some]
  simp [hg, ht]
theorem drClass {Q : Option Value → Shared → Prop} (C : L2.ExcC K D) (X : K.In s.heap) (I : InstAt s.heap x ox D od) (h : Q (some (.ref D)) { s with toks := s.toks + 1 }) : wpAny (model prog w) A (getAttr? (.ref x) "__class__") Q E s := by
  obtain ⟨hga, hgt, hsub, hdct, ha, hn, htk, hm⟩ := C
  have hf : findObj K D od "__class__" = some (.bind (.builtin "getset_descriptor.__get__") (.builtin "object.__class__")) := drFind (by obtain ⟨cd, hc, _⟩ := any_some hdct; rw [hc]; rfl) ha hn htk
  obtain ⟨hp, g, d, t, os⟩ := s
  have M0 := I.type (M := model prog w)
  have M1 := looks_findIn (M := model prog w) X hga
  have M2 := looks_findIn (M := model prog w) X hgt
  have M3 := looks_find (M := model prog w) X I hf
  have sb : Looks (model prog w) hp (isInstance (.ref x) (.type "BaseException")) true := M0.andThen (looks_subIn X hsub)
  have z0 : (false && onTheHeap (Value.builtin "BaseException.__getattribute__")) = false := rfl
  have z2 : (Value.builtin "BaseException.__getattribute__" == Value.builtin "object.__getattribute__") = false := by decide +kernel
  have z1 : (onTheHeap (Value.ref D) && Value.builtin "BaseException.__getattribute__" == Value.builtin "object.__getattribute__") = false := by rw [z2]; rfl
  unfold getAttr? getAttrBy? getAttrBy
  refine wpAny_bind (wpAny_mkText (wpAny_bind (wpAny_attempt (wpAny_holding (wpAny_bind (M0.at (wpAny_bind (M1.at ?_))))))))
  show wpAny _ _ (if (onTheHeap (Value.ref D) && Value.builtin "BaseException.__getattribute__" == Value.builtin "object.__getattribute__") = true then _ else _) _ _ _
  rw [z1, if_neg Bool.false_ne_true]
  unfold getAttrByItsOwn hookBefore
  refine wpAny_bind ?_
  rw [if_pos (show onTheHeap (Value.ref D) = true from rfl)]
  refine M2.at (wpAny_bind (wpAny_attempt (wpAny_holding ?_)))
  unfold callGetattribute
  rw [z0, if_neg Bool.false_ne_true]
  unfold boundAndCalled
  rw [PySem.F.excAttr_ValueError.ga.bind (.ref x)]
  refine wpAny_bind (wpAny_pure ?_)
  show wpAny _ _ (call (.builtin "BaseException.__getattribute__") [.ref x, .str "__class__" t]) _ _ _
  refine wpAny_call (codeAny_call_builtin PySem.F.excAttr_ValueError.ga.plain PySem.F.entry_bexc_ga (@check_slot (model prog w) _ _ ⟨hp, g, d, t + 1, os⟩ "BaseException.__getattribute__" "BaseException" "__getattribute__" (.ref x) [.str "__class__" t] [] _ (by decide +kernel) (by decide +kernel) sb (PySem.F.args_bexc_ga (.ref x) (.str "__class__" t)) ?_))
  unfold Builtin.«object.__getattribute__»
  refine wpAny_bind (wpAny_of_eq (a := ((Value.ref x : Value), [Value.str "__class__" t])) (by first | rfl | (simp only [slotArgs]; rfl)) (wpAny_bind (wpAny_pure (wpAny_bind (M0.at (wpAny_bind (M3.at ?_)))))))
  show wpAny _ _ (holding [Value.builtin "object.__class__"] (call (.builtin "getset_descriptor.__get__") [.builtin "object.__class__", .ref x, .ref D]) >>= ret) _ _ _
  refine wpAny_bind (wpAny_holding (wpAny_call (class_get (s := ⟨hp, g, d, t + 1, os⟩) (ox := ox) (od := od) X I hm (wpAny_pure ?_))))
  show wpAny _ _ (handedOut (.ref D)) _ _ _
  rw [handedOut_of (v := .ref D) rfl]
  first
    | exact wpAny_pure (wpAny_pure h)
    | exact wpAny_pure h
    | exact wpAny_pure (wpAny_bind (wpAny_pure (wpAny_pure h)))
theorem drKit (C : L2.ExcC K D) : KitX K (.ref x) (.ref D) (fun h => ∃ od, InstAt h x ox D od) where
  ty := fun _ _ _ ⟨_, I⟩ => I.type
  it := fun M h X _ => by
    obtain ⟨cdD, hcD, _⟩ := any_some C.hd
    unfold clsIn at hcD
    split at hcD
    · rename_i ho
      exact fun A1 Q1 E1 s1 k q => by
        unfold isType loadHead
        exact wpAny_bind (wpAny_loadPart (k _ _ (X _ _ ho)) (wpAny_pure q))
    · cases hcD
  ne := fun h tp dd its n sl X htp => (handS_kitx_exc (x := x) (ox := ox) C.hg C.hk C.hs C.hd C.ha C.hn C.ht C.hm).ne h tp dd its n sl X htp
  ca := fun X ⟨_, I⟩ k => drClass C X I k
end
end PySem.W
namespace Dr
open PySem L2
/-- what a cheap built-in call wants -/
structure Lit (G : Cfg) (X : Cx) : Prop where
  K : X.K = G.K
  gd : X.A.guards = some []
  un : X.A.units + 150 < cLine
section
variable {G : Cfg} {X : Cx} {Z : WX} {k : Nat} {a b c : Ev} {ea eb ec : Expr} {pos : Pos}
theorem Fit.lit (F : Fit G X Z k) : Lit G X := ⟨F.K, F.gd, by have := F.room.un; omega⟩
theorem Lit.sui (L : Lit G X) {i : Nat} {a dd : Addr} {c : Nat} {w : W} {pn : List (Addr × Obj)} : Lit (G.sui i a dd c w) (X.suite a pn) := ⟨L.K, L.gd, L.un⟩
/-! ### repr -/
def isDic0 (h : IH) (w : W) : Bool := match w with
  | .ref n => (match h[n]? with | some (.dic []) => true | _ => false)
  | _ => false
/-- the repr of a text, by its list -/
def reprQ (x : Str) : Nat := if x.cps.toList.contains 39 && !x.cps.toList.contains 34 then 34 else 39
theorem reprQ_eq (x : Str) : reprQ x = reprQuote x := by
  unfold reprQ reprQuote
  simp
theorem prints : ∀ c : Fin 127, 32 ≤ c.val → Unicode.isPrintable c.val = true := by decide +kernel
def reprC (q c : Nat) : List Nat := if (Nat.ble 32 c && Nat.blt c 127 && !(Nat.beq c 92) && !(Nat.beq c q)) = true then [c] else Builtin.Str.reprChar q c
theorem reprC_eq (q c : Nat) : reprC q c = Builtin.Str.reprChar q c := by
  unfold reprC
  split
  · rename_i h
    simp only [Bool.and_eq_true, Bool.not_eq_true', Nat.ble_eq, Nat.blt_eq] at h
    obtain ⟨⟨⟨h1, h2⟩, h3⟩, h4⟩ := h
    have h3 : c ≠ 92 := fun e => by subst e; cases h3
    have h4 : c ≠ q := fun e => by subst e; rw [Nat.beq_refl] at h4; cases h4
    have p := prints ⟨c, h2⟩ h1
    unfold Builtin.Str.reprChar
    have e10 : c ≠ 10 := by omega
    have e13 : c ≠ 13 := by omega
    have e9 : c ≠ 9 := by omega
    simp [h3, h4, e10, e13, e9, show Unicode.isPrintable c = true from p]
  · rfl
def reprS (x : Str) : Str := ⟨(reprQ x :: (x.cps.toList.flatMap (reprC (reprQ x)) ++ [reprQ x])).toArray⟩
theorem fold_repr (q : Nat) (cs : List Nat) : ∀ a : Array Nat, cs.foldl (fun out c => out ++ (Builtin.Str.reprChar q c).toArray) a = (a.toList ++ cs.flatMap (Builtin.Str.reprChar q)).toArray := by
  induction cs with
  | nil => intro a; simp
  | cons c cs ih => intro a; rw [List.foldl_cons, ih]; simp
theorem reprS_eq (x : Str) : reprS x = reprText x := by
  unfold reprS reprText
  rw [show reprC (reprQ x) = Builtin.Str.reprChar (reprQ x) from funext (reprC_eq _), reprQ_eq, ← Array.foldl_toList, fold_repr]
  congr 1
  exact Array.ext' (by simp)
def bRepr : Fn := fun ws h => match ws with
  | [.str x] => if (reprS x).length ≤ 16777216 then .v (.str (reprS x)) h else .no
  | [.int i] => if i.natAbs.log2 < 1920 then .v (.str (toString i)) h else .no
  | [.bl b] => .v (.str (if b then "True" else "False")) h
  | [.non] => .v (.str "None") h
  | [w] => if isDic0 h w = true then .v (.str "{}") h else (match dat h 40 w with
    | some d => if d.showable = true ∧ d.hasDict = false ∧ d.depth ≤ 100 ∧ d.shown.length ≤ 16777216 then .v (.str d.shown) h else .no
    | none => .no)
  | _ => .no
theorem repr_deep {w : W} {v : V} {m : Nat → Addr} {h : IH} {H : Hp} {Q : VK} {Z : WX} {a : Addr} (L : Lit G X) (R : Rep G.K G.cl m h H) (r : RW G.K G.cl m h.length H w v) (hv : v = .ref a) (P : PoE G m h.length H Z Q (if isDic0 h w = true then .v (.str "{}") h else (match dat h 40 w with
    | some d => if d.showable = true ∧ d.hasDict = false ∧ d.depth ≤ 100 ∧ d.shown.length ≤ 16777216 then .v (.str d.shown) h else .no
    | none => .no))) : WC X (.builtin "repr") [v] H Q := by
  subst hv
  split at P
  · rename_i hd
    unfold isDic0 at hd
    split at hd
    · rename_i n
      split at hd
      · rename_i e
        obtain ⟨vs, hx, rk⟩ := R.obj n _ e
        cases rk
        cases r
        refine ⟨fun xs H' Q' => xs = [.ref (m n)] ∧ H' (m n) = some (.dK []) ∧ Q' (.str "{}") H', ?_, rfl, hx, P m H _ Ext.refl R (.str _)⟩
        intro pins s σ H' xs us Q' I rv hh
        obtain ⟨rfl, hx', q⟩ := hh
        obtain ⟨u, rfl, ru⟩ := vals1 rv
        obtain rfl : u = Value.ref (m n) := ru
        obtain ⟨_, nsm, vs, kv, o, es, ep, ho, hxd, hd, ks, ps, nd⟩ := (show ObjOk X.prog X.w H' s.heap (m n) (.dK []) from I.hok _ _ hx')
        cases kv
        have es0 : es.toList = [] := by generalize es.toList = l at ps; cases ps; rfl
        have rd : Reads s.heap (.ref (m n)) (.dict []) ((m n) :: [] ++ []) := by
          refine Reads.dict ho hxd.1 hd ?_ ?_
          · rw [es0]; exact .nil
          · rw [es0]; exact .nil
        have nmem : sysModules ∉ ((m n) :: ([] : List Addr) ++ []) := fun z => by
          have z' : sysModules = m n := by simpa using z
          rw [z'] at nsm
          simp at nsm
        exact repr_of_reads' rd rfl (fun _ => nmem) L.gd (by have := L.un; show X.A.units + (PyData.depth (.dict []) + 1) < cLine; have : PyData.depth (.dict []) ≤ 100 := by decide
                                                             omega) (fun _ _ z => z) (fun h' u tk kp => ⟨.str "{}", H', I.kept (t' := tk) kp, ⟨u, by first | rfl | (show _ = Value.str (PyData.shown (.dict [])) u; rfl) | simp [PyData.shown]⟩, q⟩) (by decide +kernel)
      · cases hd
    · cases hd
  · split at P
    · rename_i d e
      split at P
      · rename_i q
        obtain ⟨q1, q2, q3, q4⟩ := q
        have dp := dp_of R 40 w _ d r e
        refine ⟨fun xs H' Q' => xs = [.ref a] ∧ Dp X.K H' (.ref a) d ∧ Q' (.str d.shown) H', ?_, rfl, L.K ▸ dp, P m H _ Ext.refl R (.str _)⟩
        intro pins s σ H' xs us Q' I rv hh
        obtain ⟨rfl, hx', q⟩ := hh
        obtain ⟨u, rfl, ru⟩ := vals1 rv
        obtain ⟨as, rd⟩ := Dp.reads I d _ u hx' ru
        obtain rfl : u = Value.ref a := ru
        exact repr_of_reads' rd q1 (PyData.noDict_hsm q2) L.gd (by have := L.un; omega) (fun _ _ z => z) (fun h' u tk kp => ⟨.str _, H', I.kept (t' := tk) kp, ⟨u, rfl⟩, q⟩) (by rw [lineSz]; exact q4)
      · exact P.elim
    · exact P.elim
theorem c_repr (L : Lit G X) : SC G X (.builtin "repr") bRepr := .mk fun m h H ws vs Z Q R r P => by
  unfold bRepr at P
  simp only [reprS_eq] at P
  split at P
  · rename_i x
    split at P
    · rename_i q
      cases r with
      | cons r1 r2 =>
        cases r1; cases r2
        refine ⟨fun xs H' Q' => xs = [.str x] ∧ Q' (.str (reprText x)) H', ?_, rfl, P m H _ Ext.refl R (.str _)⟩
        intro pins s σ H' xs us Q' I rv hh
        obtain ⟨rfl, hq⟩ := hh
        obtain ⟨u, rfl, t, rfl⟩ := vals1 rv
        exact PySem.P.repr_of_str ⟨.str _, H', I.tok _, ⟨_, rfl⟩, hq⟩ (by rw [lineSz]; exact q)
    · exact P.elim
  · rename_i i
    split at P
    · rename_i q
      cases r with
      | cons r1 r2 =>
        cases r1; cases r2
        refine ⟨fun xs H' Q' => xs = [.int i] ∧ Q' (.str (toString i)) H', ?_, rfl, P m H _ Ext.refl R (.str _)⟩
        intro pins s σ H' xs us Q' I rv hh
        obtain ⟨rfl, hq⟩ := hh
        obtain ⟨u, rfl, t, rfl⟩ := vals1 rv
        exact PySem.P.repr_of_int q ⟨.str _, H', I.tok _, ⟨_, rfl⟩, hq⟩
    · exact P.elim
  · rename_i y
    cases r with
    | cons r1 r2 =>
      cases r1; cases r2
      refine ⟨fun xs H' Q' => xs = [.bl y] ∧ Q' (.str (if y then "True" else "False")) H', ?_, rfl, P m H _ Ext.refl R (.str _)⟩
      intro pins s σ H' xs us Q' I rv hh
      obtain ⟨rfl, hq⟩ := hh
      obtain ⟨u, rfl, ru⟩ := vals1 rv
      obtain rfl : u = Value.bool y := ru
      exact PySem.P.repr_of_bool ⟨.str _, H', I.tok _, ⟨_, rfl⟩, hq⟩
  · cases r with
    | cons r1 r2 =>
      cases r1; cases r2
      refine ⟨fun xs H' Q' => xs = [.non] ∧ Q' (.str "None") H', ?_, rfl, P m H _ Ext.refl R (.str _)⟩
      intro pins s σ H' xs us Q' I rv hh
      obtain ⟨rfl, hq⟩ := hh
      obtain ⟨u, rfl, ru⟩ := vals1 rv
      obtain rfl : u = Value.none := ru
      exact PySem.P.repr_of_none ⟨.str _, H', I.tok _, ⟨_, rfl⟩, hq⟩
  · rename_i w h1 h2 h3 h4
    cases r with
    | cons r1 r2 =>
      cases r2
      cases r1 with
      | non => exact absurd rfl (h4 ·)
      | bl y => exact absurd rfl (h3 y ·)
      | int i => exact absurd rfl (h2 i ·)
      | str x => exact absurd rfl (h1 x ·)
      | tup hp hv => exact repr_deep L R (.tup hp hv) rfl P
      | ref n hn => exact repr_deep L R (.ref n hn) rfl P
      | cls c => exact repr_deep L R (.cls c) rfl P
  · exact P.elim
end
end Dr
set_option maxHeartbeats 2000000
namespace Dr
open PySem L2
/-! ### isinstance(x, T), T a built-in type -/
inductive Kd where
  | non | bl | int | str | tup | lst | dic
def Kd.nm : Kd → String
  | .non => "NoneType" | .bl => "bool" | .int => "int" | .str => "str" | .tup => "tuple" | .lst => "list" | .dic => "dict"
def tgOf (x : W) (h : IH) : Option Kd := match x with
  | .non => some .non
  | .bl _ => some .bl
  | .int _ => some .int
  | .str _ => some .str
  | .tup _ => some .tup
  | .ref n => (match h[n]? with
    | some (.lst _) => some .lst
    | some (.dic _) => some .dic
    | _ => none)
  | .cls _ => none
def eIsi (t : Kd → Bool) (a : Ev) : Ev := fun σ h => (a σ h).vb fun x h1 => match tgOf x h1 with
  | some g => .v (.bl (t g)) h1
  | none => .no
section
variable {G : Cfg} {X : Cx} {Z : WX} {k : Nat} {a b c : Ev} {ea eb ec : Expr} {pos : Pos}
theorem tg_of {m : Nat → Addr} {h : IH} {H : Hp} {x : W} {v : V} {g : Kd} (hK : X.K = G.K) (R : Rep G.K G.cl m h H) (r : RW G.K G.cl m h.length H x v) (e : tgOf x h = some g) : TyX X.K H v (.type g.nm) := by
  cases r with
  | non => cases e; exact .base .non
  | bl y => cases e; exact .base (.bl y)
  | int i => cases e; exact .base (.int i)
  | str y => cases e; exact .base (.str y)
  | tup hp hv =>
    cases e
    rcases hp with (hp | ⟨o, hp⟩) | hp
    · exact .base (.tup hp)
    · exact .fTuple hp
    · first
        | (obtain ⟨o, its, n, h1, h2, _⟩ := hp; exact .kTuple (hK ▸ h1) h2)
        | (obtain ⟨o, h1, h2, _⟩ := hp; exact .kTuple (hK ▸ h1) h2)
  | ref n hn =>
    unfold tgOf at e
    simp only at e
    split at e
    · rename_i ws q
      cases e
      obtain ⟨vs, hx, _⟩ := R.obj n _ q
      exact .base (.lst hx)
    · rename_i kvs q
      cases e
      obtain ⟨vs, hx, _⟩ := R.obj n _ q
      exact .base (.dK hx)
    · cases e
  | cls c => cases e
theorem s_isi {T : String} {x : Str} {t : Kd → Bool} {p p2 : Pos} (L : Lit G X) (ht : ∀ g, kitB g.nm T = some (t g)) (ha : SE G X Z a ea) (hm : X.mg "isinstance" = none) (hm2 : X.mg x = none) (hv2 : bootBuiltins x = some (.type T)) (hg : Gl X "isinstance" := by rfl) (hg2 : Gl X x := by rfl) (hn2 : x ≠ "__name__" := by decide) (hd2 : (x == ("__debug__" : Str)) = false := by decide)
    (he : starEach [ea, .Name x p2] X.env = (false, eval ea X.env) :: starEach [.Name x p2] X.env := by rfl) (he2 : starEach [.Name x p2] X.env = (false, eval (.Name x p2) X.env) :: starEach [] X.env := by rfl) (hpl : (backTo pos (starEach [.Name x p2] X.env)).any (·.1) = false := by rfl) :
    SE G X Z (eIsi t a) (.Call (.Name "isinstance" p) [ea, .Name x p2] [] pos) := .mk fun m h H σ τ Q R S P => by
  refine WE.of (pe_callB (call_isi (X := X)) hg hm (by decide +kernel) (pa_cons peM (pa_cons (pe_bltn (v := .ty T) hg2 hm2 hv2 rfl hn2 hd2) pa_nil he2) he) (by decide) (by decide) he hpl) (ha m h H σ τ _ R S (PoE.ee P fun w h1 m1 H1 v e1 R1 r1 P1 => ?_))
  split at P1
  · rename_i g e
    exact ⟨v, .ty T, .type g.nm, .type T, t g, rfl, .ty T, tg_of L.K R1 r1 e, kit_ty (ht g), P1 m1 H1 _ Ext.refl R1 (.bl _)⟩
  · exact P1.elim
/-! ### in a suite -/
def holds0 (σ : Sg) (i : Nat) : Bool := match σ[i]? with | some none => true | _ => false
theorem holds0_of {σ : Sg} {i : Nat} (h : holds0 σ i = true) : σ[i]? = some none := by
  unfold holds0 at h
  split at h
  · assumption
  · cases h
def eXf (i : Nat) (t : Nat → Bool) (c : Nat) (w : W) : Ev := fun σ h => if t c = true ∧ holds0 σ i = true then .v w h else .no
def XfOk (G : Cfg) (X : Cx) (t : Nat → Bool) (f : Str) : Prop := ∀ c, t c = true → XfC X.K (G.cl c) ∧ PySem.W.findIn X.K (.ref (G.cl c)) f = some none ∧ G.fn c = f
theorem s_xf {i : Nat} {f n : Str} {t : Nat → Bool} {ad dd : Addr} {oe : Obj} {pn : List (Addr × Obj)} {cc : Nat} {w : W} {p : Pos} (ok : XfOk G X t f) (hz : Zc (.ref (G.cl cc)) (some dd) oe) (hf : ∃ vs, oe.data = .fields vs)
    (hN : X.N[i]? = some n := by rfl) (hv : Vis X.env.scope n := by first | exact Or.inl rfl | exact Or.inr (Or.inl rfl) | exact Or.inr (Or.inr rfl)) (hd : (n == ("__debug__" : Str)) = false := by decide) (hcd : (n == ("__classdict__" : Str)) = false := by decide)
    (hb : attributeBase (.Name n p) f X.env (eval (.Name n p) X.env) = eval (.Name n p) X.env := by rfl) :
    SE (G.sui i ad dd cc w) (X.suite ad ((ad, oe) :: pn)) Z (eXf i t cc w) (.Attribute (.Name n p) f pos) := .mk fun m h H σ τ Q R S P => by
  unfold eXf at P
  split at P
  · rename_i q
    obtain ⟨o1, o2, o3⟩ := ok cc q.1
    refine WE.of (pe_xf (a := ad) (C := G.cl cc) o1 o2 hz hf (pe_var (X := X.suite ad ((ad, oe) :: pn)) (i := i) hN hv hd hcd) hb) ?_
    obtain ⟨v, h1, h2⟩ := S.xd dd cc w rfl
    exact ⟨_, S.xs i ad rfl (holds0_of q.2), rfl, rfl, dd, _, v, rfl, h1, by simp [List.lookup, o3], P m H v Ext.refl R h2⟩
  · exact P.elim
def eXi (i : Nat) (t : Nat → Option Bool) (c : Nat) : Ev := fun σ h => if holds0 σ i = true then (match t c with | some b => .v (.bl b) h | none => .no) else .no
theorem call_xi {ad dd D : Addr} {oe : Obj} {pn : List (Addr × Obj)} (C : ExcC X.K D) (hz : Zc (.ref D) (some dd) oe) (hf : ∃ vs, oe.data = .fields vs) : CallR (X.suite ad ((ad, oe) :: pn)) (.builtin "isinstance")
    (fun xs H Q => ∃ (c : V) (cv : Value) (b : Bool) (fs : List (Str × V)), xs = [.ref ad, c] ∧ ClsV c cv ∧ PySem.W.kitOne X.K (.ref D) cv = some b ∧ H dd = some (.xd fs) ∧ Q (.bl b) H) := by
  intro pins s σ H xs us Q I r h
  obtain ⟨c, cv, b, fs, rfl, k, e, hdd, q⟩ := h
  obtain ⟨u1, u2, rfl, r1, r2⟩ := vals2 r
  obtain rfl : u1 = Value.ref ad := r1
  have e2 := k.eq r2
  subst e2
  obtain ⟨hget, _⟩ := I.pin (ad, oe) (List.mem_append.mpr (.inl List.mem_cons_self))
  obtain ⟨vs, hv⟩ := hf
  obtain ⟨mA, hns, hr⟩ := (show ObjOk X.prog X.w H s.heap dd (.xd fs) from I.hok dd _ hdd)
  obtain ⟨od, ho, hl⟩ := lookIn_ns hns
  have J : PySem.W.InstAt s.heap ad oe D (some od) := ⟨hget, hz.1, by unfold PySem.W.notCls; rw [hv] <;> rfl, by rw [hz.2]; exact ho⟩
  exact PySem.W.kia_one (PySem.W.drKit (ox := oe) C) I.kIn ⟨_, J⟩ e (fun z => nomatch z) fun tk => ⟨.bl b, H, I.kept (t' := tk) fun _ _ z => z, rfl, q⟩
/-- a class by its name: an own one or a built-in one -/
def CName (X : Cx) (x : Str) (c : V) (cv : Value) : Prop := ClsV c cv ∧ RelV c cv ∧ (X.mg x = some cv ∨ (X.mg x = none ∧ bootBuiltins x = some cv))
theorem pe_cname {x : Str} {c : V} {cv : Value} {p : Pos} (h : CName X x c cv) (hg : Gl X x) (hn : x ≠ "__name__") (hd : (x == ("__debug__" : Str)) = false) : PE X (.Name x p) (tC c) := by
  obtain ⟨_, r, h | ⟨h1, h2⟩⟩ := h
  · exact pe_glob hg h r hd
  · exact pe_bltn hg h1 h2 r hn hd
def XiOk (G : Cfg) (X : Cx) (t : Nat → Option Bool) (cv : Value) : Prop := ∀ c b, t c = some b → ExcC X.K (G.cl c) ∧ PySem.W.kitOne X.K (.ref (G.cl c)) cv = some b
theorem s_xi {i : Nat} {n x : Str} {c : V} {cv : Value} {t : Nat → Option Bool} {ad dd : Addr} {oe : Obj} {pn : List (Addr × Obj)} {cc : Nat} {w : W} {p p1 p2 : Pos} (ok : XiOk G X t cv) (cn : CName X x c cv) (hz : Zc (.ref (G.cl cc)) (some dd) oe) (hf : ∃ vs, oe.data = .fields vs) (hm : X.mg "isinstance" = none)
    (hg : Gl X "isinstance" := by rfl) (hg2 : Gl X x := by rfl) (hn2 : x ≠ "__name__" := by decide) (hd2 : (x == ("__debug__" : Str)) = false := by decide)
    (hN : X.N[i]? = some n := by rfl) (hv : Vis X.env.scope n := by first | exact Or.inl rfl | exact Or.inr (Or.inl rfl) | exact Or.inr (Or.inr rfl)) (hd : (n == ("__debug__" : Str)) = false := by decide) (hcd : (n == ("__classdict__" : Str)) = false := by decide)
    (he : starEach [.Name n p1, .Name x p2] X.env = (false, eval (.Name n p1) X.env) :: starEach [.Name x p2] X.env := by rfl) (he2 : starEach [.Name x p2] X.env = (false, eval (.Name x p2) X.env) :: starEach [] X.env := by rfl) (hpl : (backTo pos (starEach [.Name x p2] X.env)).any (·.1) = false := by rfl) :
    SE (G.sui i ad dd cc w) (X.suite ad ((ad, oe) :: pn)) Z (eXi i t cc) (.Call (.Name "isinstance" p) [.Name n p1, .Name x p2] [] pos) := .mk fun m h H σ τ Q R S P => by
  unfold eXi at P
  split at P
  · rename_i q
    split at P
    · rename_i y ty
      obtain ⟨o1, o2⟩ := ok cc y ty
      refine WE.of (pe_callB (call_xi (X := X) (ad := ad) o1 hz hf) hg hm (by decide +kernel) (pa_cons (pe_var (X := X.suite ad ((ad, oe) :: pn)) (i := i) hN hv hd hcd) (pa_cons (pe_cname (X := X.suite ad ((ad, oe) :: pn)) cn hg2 hn2 hd2) pa_nil he2) he) (by decide) (by decide) he hpl) ?_
      obtain ⟨v, h1, h2⟩ := S.xd dd cc w rfl
      exact ⟨_, S.xs i ad rfl (holds0_of q), c, cv, y, _, rfl, cn.1, o2, h1, P m H _ Ext.refl R (.bl _)⟩
    · exact P.elim
  · exact P.elim
/-! ### {} -/
def eDic0 : Ev := fun _ h => .v (.ref h.length) (h ++ [.dic []])
theorem s_dic0 : SE G X Z eDic0 (.Dict [] [] pos) := .mk fun m h H σ τ Q R S P => by
  refine WE.of pe_dnewK (fun p hp => ?_)
  obtain ⟨R', E'⟩ := R.push (q := p) (u := .dK []) (o := .dic []) hp ⟨_, upd_same, .nil⟩
  refine P _ _ (.ref p) E' R' ?_
  have q := RW.ref (K := G.K) (cl := G.cl) (m := ext1 m h.length p) (L := (h ++ [IO.dic []]).length) (H := upd H p (.dK [])) h.length (by simp)
  have l : ext1 m h.length p h.length = p := by unfold ext1; rw [if_pos rfl]
  rw [l] at q; exact q
end
end Dr
set_option maxHeartbeats 2000000
namespace Dr
open PySem L2
/-! ### match of a text with texts -/
def hasS (z : Str) : List Str → Bool
  | [] => false
  | x :: r => if eqS z x = true then true else hasS z r
theorem hasS_eq (z : Str) : ∀ xs : List Str, hasS z xs = xs.contains z
  | [] => rfl
  | x :: r => by
    unfold hasS
    rw [eqS_eq, hasS_eq z r, List.contains_cons]
    by_cases e : z = x
    · subst e; simp
    · have e' : (z == x) = false := by simpa using e
      simp [e, e']
def runM : List (List Str × Ev) → Str → Ev
  | [], _ => fun σ h => .nx σ h
  | (ps, b) :: r, z => fun σ h => if hasS z ps = true then b σ h else runM r z σ h
def eMatch (a : Ev) (cs : List (List Str × Ev)) : Ev := fun σ h => (a σ h).vb fun x h1 => match x with
  | .str z => runM cs z σ h1
  | _ => .no
inductive Pats : List Str → List Pattern → Prop
  | nil : Pats [] []
  | cons {x : Str} {j : Nat} {p p2 : Pos} {xs : List Str} {ps : List Pattern} (r : Pats xs ps) : Pats (x :: xs) (.MatchValue (.Constant (.str x) j p) p2 :: ps)
inductive SMc (G : Cfg) (X : Cx) (Z : WX) : List (List Str × Ev) → List MatchCase → Prop
  | nil : SMc G X Z [] []
  | one {x : Str} {j : Nat} {p p2 : Pos} {b : Ev} {body : List Stmt} {cs : List (List Str × Ev)} {ms : List MatchCase} (hb : SB G X Z b body) (r : SMc G X Z cs ms) : SMc G X Z (([x], b) :: cs) (⟨.MatchValue (.Constant (.str x) j p) p2, none, body⟩ :: ms)
  | many {xs : List Str} {ps : List Pattern} {p3 : Pos} {b : Ev} {body : List Stmt} {cs : List (List Str × Ev)} {ms : List MatchCase} (hp : Pats xs ps) (hn : namesOfAll (ps.take 1) = []) (hb : SB G X Z b body) (r : SMc G X Z cs ms) : SMc G X Z ((xs, b) :: cs) (⟨.MatchOr ps p3, none, body⟩ :: ms)
section
variable {G : Cfg} {X : Cx} {Z : WX} {k : Nat} {a b c : Ev} {ea eb ec : Expr} {pos : Pos}
theorem pat_one {pins : List (Addr × Obj)} {s : Shared} {τ : St} {H : Hp} {z x : Str} {t : Tok} {j : Nat} {p p2 : Pos} {Q : Option (List (Str × Value)) → Shared → Prop} (I : Inv X pins τ H s) (h : ∀ s', Inv X pins τ H s' → Q (if z = x then some [] else none) s') :
    wpAny (model X.prog X.w) X.A (matchPattern (.MatchValue (.Constant (.str x) j p) p2) X.env (.str z t)) Q X.xe s := by
  refine wpAny_matchPattern_Value (thn ((pe_str (X := X) (x := x) (j := j) (pos := p)).run pins s τ H (fun v H' => v = .str x ∧ H' = H) I ⟨rfl, rfl⟩) fun u s1 hh => ?_)
  obtain ⟨v, H1, I1, r1, rfl, rfl⟩ := hh
  refine thn (op_eq pins s1 τ H1 (.str z) (.str x) (.str z t) u (fun v H' => v = .bl (decide (z = x)) ∧ H' = H1) I1 ⟨t, rfl⟩ r1 ⟨rfl, by simp, rfl⟩) fun w s2 hh2 => ?_
  obtain ⟨v2, H2, I2, r2, rfl, rfl⟩ := hh2
  obtain rfl : w = Value.bool (decide (z = x)) := r2
  refine wpAny_truthy_bool ?_
  have q := h s2 I2
  by_cases e : z = x
  · rw [if_pos e] at q
    rw [decide_eq_true e, if_pos rfl]
    exact q
  · rw [if_neg e] at q
    rw [decide_eq_false e, if_neg Bool.false_ne_true]
    exact q
theorem pat_all {pins : List (Addr × Obj)} {τ : St} {H : Hp} {z : Str} {t : Tok} {xs : List Str} {ps : List Pattern} (hp : Pats xs ps) : ∀ {s : Shared} {Q : Option (List (Str × Value)) → Shared → Prop}, Inv X pins τ H s → (∀ s', Inv X pins τ H s' → Q (if xs.contains z = true then some [] else none) s') →
    wpAny (model X.prog X.w) X.A (matchFirst ps X.env (.str z t)) Q X.xe s := by
  induction hp with
  | nil => intro s Q I h; exact wpAny_matchFirst_nil (h s I)
  | @cons x j p p2 xs ps r ih =>
    intro s Q I h
    refine wpAny_matchFirst_cons (pat_one I fun s1 I1 => ?_)
    by_cases e : z = x
    · rw [if_pos e]
      have q := h s1 I1
      rw [if_pos (by rw [List.contains_cons, e]; simp)] at q
      exact q
    · rw [if_neg e]
      refine ih I1 fun s2 I2 => ?_
      have q := h s2 I2
      rw [List.contains_cons] at q
      have e' : (z == x) = false := by simpa using e
      rw [e', Bool.false_or] at q
      exact q
theorem mc_run {cs : List (List Str × Ev)} {ms : List MatchCase} (hm : SMc G X Z cs ms) : ∀ {m : Nat → Addr} {h : IH} {H : Hp} {σ : Sg} {τ : St} {D : Ends} {z : Str} {t : Tok} {pins : List (Addr × Obj)} {s : Shared} {first : Bool}, Rep G.K G.cl m h H → RSt G m h.length H σ τ →
    PoS G m h.length H Z D (runM cs z σ h) → Inv X pins τ H s → wpAny (model X.prog X.w) X.A (matchCases ms X.env (.str z t) first) (SP X pins D) X.xe s := by
  induction hm with
  | nil => intro m h H σ τ D z t pins s first R S P I; exact wpAny_matchCases_nil ⟨τ, H, I, P m H τ Ext.refl R S⟩
  | @one x j p p2 b body cs ms hb r ih =>
    intro m h H σ τ D z t pins s first R S P I
    refine wpAny_matchCases_cons (pat_one I fun s1 I1 => ?_)
    unfold runM at P
    rw [hasS_eq] at P
    by_cases e : z = x
    · rw [if_pos e]
      rw [if_pos (by rw [e]; simp)] at P
      exact wpAny_assignInOrder_none (hb m h H σ τ D R S P pins s1 I1)
    · rw [if_neg e]
      rw [if_neg (by simpa using e)] at P
      exact ih R S P I1
  | @many xs ps p3 b body cs ms hp hn hb r ih =>
    intro m h H σ τ D z t pins s first R S P I
    refine wpAny_matchCases_cons (wpAny_matchPattern_Or (pat_all hp I fun s1 I1 => ?_))
    unfold runM at P
    rw [hasS_eq] at P
    by_cases e : xs.contains z = true
    · rw [if_pos e] at P ⊢
      simp only [hn]
      exact wpAny_assignInOrder_none (hb m h H σ τ D R S P pins s1 I1)
    · rw [if_neg e] at P ⊢
      exact ih R S P I1
theorem v_match {cs : List (List Str × Ev)} {ms : List MatchCase} (ha : SE G X Z a ea) (hm : SMc G X Z cs ms) : SS G X Z (eMatch a cs) (.Match ea ms pos) := .mk fun m h H σ τ D R S P pins s I => by
  refine wpAny_Match (thn (ha m h H σ τ (fun v H1 => ∃ z m1 h1, v = .str z ∧ Rep G.K G.cl m1 h1 H1 ∧ RSt G m1 h1.length H1 σ τ ∧ PoS G m1 h1.length H1 Z D (runM cs z σ h1)) R S (PoS.es P fun w h1 m1 H1 v e1 R1 r1 P1 => ?_) pins s I) fun u s1 hh => ?_)
  · cases r1 <;> first | exact P1.elim | exact ⟨_, m1, h1, rfl, R1, S.mono e1, P1⟩
  · obtain ⟨v, H1, I1, r1, z, m1, h1, rfl, R1, S1, P1⟩ := hh
    obtain ⟨t, rfl⟩ := r1
    exact mc_run hm R1 S1 P1 I1
/-! ### x or y as a value; the left one a text or None -/
def eOrV (a b : Ev) : Ev := fun σ h => (a σ h).vb fun x h1 => match x with
  | .str z => if z.length = 0 then b σ h1 else if z.length ≤ 16777216 then .v (.str z) h1 else .no
  | .non => b σ h1
  | _ => .no
theorem s_orV {rest : List Expr} (ha : SE G X Z a ea) (hb : SE G X Z b (.BoolOp .Or (eb :: rest) pos)) : SE G X Z (eOrV a b) (.BoolOp .Or (ea :: eb :: rest) pos) := .mk fun m h H σ τ Q R S P => by
  refine WE.of (pe_orT peM peM) (ha m h H σ τ _ R S (PoE.ee P fun x h1 m1 H1 v1 e1 R1 r1 P1 => ?_))
  cases r1 <;> first | exact P1.elim | skip
  · refine ⟨false, ?_, iteF (hb m1 h1 H1 σ τ Q R1 (S.mono e1) P1)⟩
    first | exact .non | exact TruV.non | rfl | trivial
  · rename_i z
    simp only at P1
    split at P1
    · rename_i q
      refine ⟨false, ⟨by rw [q]; exact Nat.zero_le _, by rw [q]; rfl⟩, iteF (hb m1 h1 H1 σ τ Q R1 (S.mono e1) P1)⟩
    · rename_i q
      split at P1
      · rename_i l
        exact ⟨true, ⟨by rw [lineSz]; exact l, by simp [bne, q]⟩, iteT (P1 m1 H1 _ Ext.refl R1 (.str _))⟩
      · exact P1.elim
/-! ### x += e, ints or texts -/
def oAddX : W → W → IH → Out
  | .int i, .int j, h => .v (.int (i + j)) h
  | .str i, .str j, h => if i.length + j.length ≤ 16777216 then .v (.str (appS i j)) h else .no
  | _, _, _ => .no
def WIpp (X : Cx) : TIp := fun x y H Q => ∃ ti, PIp X .Add ti ∧ ti x y H Q
theorem pipM : PIp X .Add (WIpp X) := fun pins s σ H x y v u Q I r1 r2 h => let ⟨_, o, q⟩ := h; o pins s σ H x y v u Q I r1 r2 q
theorem v_augX (i : Nat) {x : Str} {pos' : Pos} (ha : SE G X Z a ea) (hN : X.N.Nodup) (hi : X.N[i]? = some x := by rfl) (hx : Loc X.env.scope x := by first | exact Or.inl rfl | exact Or.inr rfl)
    (hf : X.fn x = true ∨ X.env.scope.names.lookup x = some .local := by first | exact .inl rfl | exact .inr rfl) : SS G X Z (eAug i oAddX a) (.AugAssign (.Name x pos') .Add ea pos) := .mk fun m h H σ τ D R S P => by
  refine WS.of (ps_aug hN hi hx peM pipM hf) ?_
  unfold eAug at P
  cases e : σ[i]? with
  | none => rw [e] at P; exact P.elim
  | some o =>
    cases o with
    | none => rw [e] at P; exact P.elim
    | some w =>
      rw [e] at P
      obtain ⟨v, h1, h2⟩ := S.get i w e
      refine ⟨v, h1, ha m h H σ τ _ R S (PoS.es P fun y h1 m1 H1 v1 e1 R1 r1 P1 => ?_)⟩
      have h2' := h2.mono e1
      cases h2' <;> cases r1 <;> first | exact P1.elim | skip
      · exact ⟨_, ip_add, _, _, rfl, rfl, P1 m1 H1 _ Ext.refl R1 ((S.mono e1).set i (.int _))⟩
      · rename_i p q
        simp only [oAddX, appS_eq] at P1
        split at P1
        · rename_i l
          exact ⟨_, iop_add_str, _, _, rfl, rfl, by rw [lineSz]; exact l, P1 m1 H1 _ Ext.refl R1 ((S.mono e1).set i (.str _))⟩
        · exact P1.elim
end
end Dr
set_option maxHeartbeats 2000000
namespace Dr
open PySem L2
/-! ### values without references -/
mutual
def W.flat : W → Bool
  | .ref _ => false
  | .tup ws => flats ws
  | _ => true
def flats : List W → Bool
  | [] => true
  | w :: ws => w.flat && flats ws
end
section
variable {G : Cfg} {K : PySem.W.Frag} {cl m m' : Nat → Addr} {L L' : Nat} {H H' : Hp}
mutual
theorem RW.flat : ∀ {w : W} {v : V}, w.flat = true → RW K cl m L H w v → RW K cl m' L' H w v
  | _, _, _, .non => .non
  | _, _, _, .bl b => .bl b
  | _, _, _, .int i => .int i
  | _, _, _, .str x => .str x
  | .tup ws, _, f, .tup h hs => .tup h (RWs.flat (by unfold W.flat at f; exact f) hs)
  | _, _, _, .cls c => .cls c
theorem RWs.flat : ∀ {ws : List W} {vs : List V}, flats ws = true → RWs K cl m L H ws vs → RWs K cl m' L' H ws vs
  | _, _, _, .nil => .nil
  | w :: ws, _, f, .cons a b => by
    unfold flats at f
    have f := Bool.and_eq_true_iff.mp f
    exact .cons (RW.flat f.1 a) (RWs.flat f.2 b)
end
/-- what a run that knows nothing of our objects leaves of them -/
theorem Ext.wide (e : Ext K m 0 H m' L' H') : Ext K m L H m L H' :=
  ⟨Nat.le_refl _, fun _ _ => rfl, e.tup, e.xd, fun a u h _ nb => e.fr a u h (fun n z => absurd z (Nat.not_lt_zero n)) nb, fun d x h hx _ => e.fd d x h hx fun n z => absurd z (Nat.not_lt_zero n), e.fx, fun n h1 h2 => absurd h2 (Nat.not_lt.mpr h1), e.dom⟩
theorem OR.wide {m2 : Nat → Addr} {L2 : Nat} {a : Addr} {o : IO} (q : OR K cl m L H a o) (e : Ext K m 0 H m' L' H') (ew : Ext K m L H m2 L2 H') : OR K cl m2 L2 H' a o := by
  have keep : ∀ a u, H a = some u → ¬ Bes u → H' a = some u := fun a u z nb => e.fr a u z (fun n z => absurd z (Nat.not_lt_zero n)) nb
  cases o with
  | lst ws => obtain ⟨vs, x, y⟩ := q; exact ⟨vs, keep _ _ x (fun z => by rcases z with ⟨_, z⟩ | z <;> cases z), y.mono ew⟩
  | rol ws =>
    obtain ⟨vs, x, y⟩ := q
    refine ⟨vs, ?_, y⟩
    rcases x with ⟨o, x⟩ | x
    · exact .inl ⟨o, keep _ _ x (fun z => by rcases z with ⟨_, z⟩ | z <;> cases z)⟩
    · exact .inr x
  | ins c fs => obtain ⟨dx, vs, x, y⟩ := q; exact ⟨dx, vs, keep _ _ x (fun z => by rcases z with ⟨_, z⟩ | z <;> cases z), y.mono ew⟩
  | dic kvs => obtain ⟨vs, x, y⟩ := q; exact ⟨vs, keep _ _ x (fun z => by rcases z with ⟨_, z⟩ | z <;> cases z), y.mono ew⟩
  | exc c f w => obtain ⟨d, v, x, z, y⟩ := q; exact ⟨d, v, keep _ _ x (fun z => by rcases z with ⟨_, z⟩ | z <;> cases z), e.xd _ _ _ z, y.mono ew⟩
  | slt c ws =>
    obtain ⟨dx, vs, x, y⟩ := q
    refine ⟨dx, vs, ?_, fun i w z => let ⟨v, z1, z2⟩ := y i w z; ⟨v, z1, z2.mono ew⟩⟩
    rcases x with ⟨x1, x2, x3⟩ | ⟨x1, x3⟩
    · exact .inl ⟨keep _ _ x1 (fun z => by rcases z with ⟨_, z⟩ | z <;> cases z), x2, e.fd _ _ x3 (by rw [x1]; exact fun z => by cases z) (fun n z => absurd z (Nat.not_lt_zero n))⟩
    · exact .inr ⟨keep _ _ x1 (fun z => by rcases z with ⟨_, z⟩ | z <;> cases z), e.fx _ x3⟩
theorem Rep.wide {h : IH} (R : Rep K cl m h H) (e : Ext K m 0 H m' L' H') : Rep K cl m h H' := ⟨fun n o hn => (R.obj n o hn).wide e e.wide, R.inj⟩
theorem Rep.none : Rep K cl m [] H := ⟨fun n o z => by simp at z, fun i j oi oj z => by simp at z⟩
/-- a list that the run made joins our objects -/
theorem Rep.join {h h' : IH} {n : Nat} {ls : List W} (R : Rep K cl m h H) (e : Ext K m 0 H m' h'.length H') (R' : Rep K cl m' h' H') (hn : h'[n]? = some (.lst ls)) (hf : flats ls = true) :
    Rep K cl (ext1 m h.length (m' n)) (h ++ [.lst ls]) H' ∧ Ext K m h.length H (ext1 m h.length (m' n)) (h ++ [IO.lst ls]).length H' := by
  have hl : n < h'.length := (List.getElem?_eq_some_iff.mp hn).1
  have free : H (m' n) = .none := e.new n (Nat.zero_le _) hl
  have ew : Ext K m h.length H m h.length H' := e.wide
  have last : ext1 m h.length (m' n) h.length = m' n := by unfold ext1; rw [if_pos rfl]
  have at_ : ∀ j, j < h.length → ext1 m h.length (m' n) j = m j := fun j hj => by unfold ext1; rw [if_neg (Nat.ne_of_lt hj)]
  have E : Ext K m h.length H (ext1 m h.length (m' n)) (h ++ [IO.lst ls]).length H' := by
    rw [List.length_append]
    refine ⟨Nat.le_succ _, at_, ew.tup, ew.xd, ew.fr, ew.fd, ew.fx, fun j h1 h2 => ?_, ew.dom⟩
    have : j = h.length := by simp at h2; omega
    subst this
    rw [last]; exact free
  have split : ∀ (j : Nat) ob, (h ++ [IO.lst ls])[j]? = some ob → (j < h.length ∧ h[j]? = some ob) ∨ (j = h.length ∧ ob = .lst ls) := fun j ob hj => by
    by_cases q : j < h.length
    · rw [List.getElem?_append_left q] at hj; exact .inl ⟨q, hj⟩
    · have hb : j < (h ++ [IO.lst ls]).length := (List.getElem?_eq_some_iff.mp hj).1
      rw [List.length_append, List.length_singleton] at hb
      have : j = h.length := by omega
      subst this
      rw [List.getElem?_append_right (Nat.le_refl _), Nat.sub_self] at hj
      cases hj
      exact .inr ⟨rfl, rfl⟩
  have off : ∀ j oj, h[j]? = some oj → oj.own = true → m j ≠ m' n := fun j oj hj wj z => by
    obtain ⟨u, hu, _⟩ := (R.obj j oj hj).has wj
    rw [z, free] at hu; cases hu
  refine ⟨⟨fun j ob hj => ?_, fun i j oi oj hi hj wi wj => ?_⟩, E⟩
  · rcases split j ob hj with ⟨q, hj⟩ | ⟨rfl, rfl⟩
    · rw [at_ j q]; exact (R.obj j ob hj).wide e E
    · rw [last]
      obtain ⟨vs, x, y⟩ := R'.obj n _ hn
      exact ⟨vs, x, y.flat hf⟩
  · rcases split i oi hi with ⟨qi, hi⟩ | ⟨rfl, rfl⟩
    · rcases split j oj hj with ⟨qj, hj⟩ | ⟨rfl, rfl⟩
      · rw [at_ i qi, at_ j qj]; exact R.inj i j oi oj hi hj wi wj
      · rw [at_ i qi, last]; exact fun z => absurd z (off i oi hi wi)
    · rcases split j oj hj with ⟨qj, hj⟩ | ⟨rfl, rfl⟩
      · rw [at_ j qj, last]; exact fun z => absurd z.symm (off j oj hj wj)
      · intro _; rfl
/-- a function that is asked and answers without references: it may run on an empty heap, and what it made is forgotten -/
def pureFn (f : Fn) : Fn := fun ws h => if flats ws = true then (match f ws [] with
  | .v (.ref n) h' => (match h'[n]? with | some (.lst ls) => if flats ls = true then .v (.ref h.length) (h ++ [.lst ls]) else .no | _ => .no)
  | .v w _ => if w.flat = true then .v w h else .no
  | .ex c w _ _ => if w.flat = true then .ex c w [] h else .no
  | _ => .no) else .no
theorem sp_pure {f : Fn} {n : Nat} (vs : List V) (H : Hp) (Q : VK) (E : XK) (sp : spC G n (pureFn f) vs H Q E) : spC G n f vs H Q E := by
  obtain ⟨m, h, ws, hl, R, r, P⟩ := sp
  unfold pureFn at P
  split at P
  · rename_i hf
    refine ⟨m, [], ws, hl, .none, r.flat hf, ?_⟩
    split at P
    · rename_i k h' e
      rw [e]
      split at P
      · rename_i ls el
        split at P
        · rename_i hfl
          intro m' H' v ex R' r'
          cases r'
          obtain ⟨R2, E2⟩ := R.join ex R' el hfl
          refine P _ H' _ E2 R2 ?_
          have q := RW.ref (K := G.K) (cl := G.cl) (m := ext1 m h.length (m' k)) (L := (h ++ [IO.lst ls]).length) (H := H') h.length (by simp)
          have l : ext1 m h.length (m' k) h.length = m' k := by unfold ext1; rw [if_pos rfl]
          rw [l] at q; exact q
        · exact P.elim
      · exact P.elim
    · rename_i w h' nr e
      rw [e]
      split at P
      · rename_i hw
        intro m' H' v ex R' r'
        exact P m H' v ex.wide (R.wide ex) (r'.flat hw)
      · exact P.elim
    · rename_i c w s h' e
      rw [e]
      split at P
      · rename_i hw
        intro m' H' d v ex R' r' hd
        exact P m H' d v ex.wide (R.wide ex) (r'.flat hw) hd
      · exact P.elim
    · exact P.elim
  · exact P.elim
theorem pureFn_len {f : Fn} {n : Nat} (hf : ∀ ws h, ws.length ≠ n → f ws h = .no) (ws : List W) (h : IH) (hl : ws.length ≠ n) : pureFn f ws h = .no := by
  unfold pureFn
  rw [hf ws [] hl]
  split <;> rfl
theorem FOk.pure {X : Cx} {k : Nat} {f : Addr} {fn : Fn} {dw : List W} (ok : FOk G X k f fn dw) : FOk G X k f (pureFn fn) dw := by
  obtain ⟨fd, ps, ds, dvs, Fo, hb, hd, hw, ar⟩ := ok
  exact ⟨fd, ps, ds, dvs, Fo.imp sp_pure, hb, hd, hw, fun ws h hl => pureFn_len ar ws h hl⟩
end
end Dr
set_option maxHeartbeats 2000000
namespace Dr
open PySem L2 PySem.Spec PyProof.Rows
/-! ### the law's own call -/
section
variable {P : Program} {w : World} {K : PySem.W.Frag} {mg mb : Str → Option Value} {k : Nat} {fa a : Addr} {fd : FuncData} {x : Str} {sp : Sp} {s₁ : Shared} {vs : List Value} {ns : List Int}
/-- the start of the tracked heap: at most the script -/
structure Sta (P : Program) (w : World) (K : PySem.W.Frag) (s₁ : Shared) (a : Addr) (ns : List Int) (H : Hp) : Prop where
  only : Only H
  sq : SqL K H a (ns.map V.int)
  ok : HOk P w H s₁.heap
  at_ : ∀ b, H b ≠ none → b = a
  off : H a ≠ none → K.lookup a = none
theorem sta_of (KX : K.In s₁.heap) (ha : s₁.heap.get? a = some { cls := .type "list", data := .seq vs.toArray }) (hi : IntsAre vs ns) (hl : ns.length ≤ sizeLine) : ∃ H, Sta P w K s₁ a ns H := by
  cases hk : K.lookup a with
  | some o =>
    have e := KX a o hk
    rw [ha] at e
    cases e
    refine ⟨fun _ => none, fun _ => .inl rfl, .inr ⟨_, vs.toArray, _, hk, rfl, rfl, rfl, ?_, by simpa using vals_ints hi⟩, fun b u z => ?_, fun b z => absurd rfl z, fun z => absurd rfl z⟩
    · rw [List.size_toArray, hi.length]; exact hl
    · exact absurd z (by simp)
  | none =>
    have pick : ∀ b, (b = a ∧ (fun b => if b = a then some (HO.frz { cls := .type "list", data := .seq vs.toArray } (.lst (ns.map V.int))) else none) b = some (HO.frz { cls := .type "list", data := .seq vs.toArray } (.lst (ns.map V.int)))) ∨
        (b ≠ a ∧ (fun b => if b = a then some (HO.frz { cls := .type "list", data := .seq vs.toArray } (.lst (ns.map V.int))) else none) b = none) := fun b => by
      by_cases q : b = a
      · exact .inl ⟨q, if_pos q⟩
      · exact .inr ⟨q, if_neg q⟩
    refine ⟨fun b => if b = a then some (.frz { cls := .type "list", data := .seq vs.toArray } (.lst (ns.map V.int))) else none, fun b => ?_, .inl (.inr ⟨_, if_pos rfl⟩), fun b u z => ?_, fun b z => ?_, fun _ => hk⟩
    · rcases pick b with ⟨_, q⟩ | ⟨_, q⟩
      · exact .inr ⟨_, _, q⟩
      · exact .inl q
    · rcases pick b with ⟨rfl, q⟩ | ⟨_, q⟩
      · have z' := q.symm.trans z
        cases z'
        exact ⟨ha, by rw [List.length_map]; exact hl, vs, _, vals_ints hi, ha⟩
      · have z' := q.symm.trans z
        cases z'
    · rcases pick b with ⟨e, _⟩ | ⟨_, q⟩
      · exact e
      · exact absurd q z
theorem head_go {dt : Value → Prop} (KX : K.In s₁.heap) (hns : s₁.heap.Ns mainGlobals mg) (hb : s₁.heap.Ns builtinsNs mb) (hbb : ∀ x : Str, x ≠ "__name__" → mb x = bootBuiltins x) (hlim : s₁.heap.NoLimit) (hg : s₁.gens = #[])
    (ha : s₁.heap.get? a = some { cls := .type "list", data := .seq vs.toArray }) (hi : IntsAre vs ns) (hl : ns.length ≤ sizeLine) (hr : Room k callerA)
    (F : ∀ base : Heap, K.In base → base.Ns mainGlobals mg → FnG dt P w K mg base k fa fd [x] sp) (hbind : ∀ (s : Shared) (u : Value), BindsTo s fd ⟨[u], []⟩ [(x, u)])
    (hsp : ∀ H : Hp, Only H → SqL K H a (ns.map V.int) → sp [.ref a] H (fun v _ => v = .bl true) fun _ _ _ => False) :
    codeAny (model P w) callerA (.call (.ref fa) ⟨[.ref a], []⟩) (fun r s' => r = .ok (.ret (.bool true)) ∧ OldK s₁.heap s'.heap ∧ s'.os = s₁.os ∧ AllBare s'.gens) s₁ := by
  obtain ⟨H, T⟩ := sta_of (P := P) (w := w) KX ha hi hl
  have free : ∀ {b : Addr} {o : Obj}, s₁.heap.get? b = some o → (∀ its n, o.data ≠ .seq its n) → H b = none := fun {b o} e nd => by
    cases q : H b with
    | none => rfl
    | some u =>
      have z : b = a := T.at_ b (by rw [q]; exact fun z => by cases z)
      subst z
      rw [ha] at e; cases e
      exact absurd rfl (nd _ _)
  have names : ∀ {b : Addr} {m : Str → Option Value}, s₁.heap.Ns b m → (hidT s₁.heap H).Ns b m := fun {b m} ⟨o, es, ep, e, d, r⟩ => ⟨o, es, ep, hidT_get e (free e fun its n z => by rw [d] at z; cases z), d, r⟩
  have inB : K.In (hidT s₁.heap H) := fun b o e => hidT_get (KX b o e) (by
    cases q : H b with
    | none => rfl
    | some u =>
      have nn : H b ≠ none := by rw [q]; exact fun z => by cases z
      have z : b = a := T.at_ b nn
      subst z
      rw [T.off nn] at e; cases e)
  obtain ⟨mc, l1, l2⟩ := hlim
  have e0 : Env0 P w K mg (hidT s₁.heap H) callerA [] s₁ H := ⟨rfl, ⟨inB, names hns, ⟨mb, names hb, hbb⟩, ⟨mc, names l1, l2⟩⟩, fun b o e => of_hidT e, Nat.le_of_eq (hidT_size _ _), trivial, (fun b z => absurd (show b ∈ ([] : List Addr) from z) (by simp)), T.ok, .of_eq hg⟩
  refine codeAny_mono ((F _ inB (names hns)).go callerA [] s₁ H ⟨[.ref a], []⟩ [.ref a] [.ref a] _ _ rfl hr e0 (hbind s₁ (.ref a)) (.cons rfl .nil) (hsp H T.only T.sq)) fun r s' h => ?_
  cases r with
  | error e =>
    exact (cx2_no h).elim
  | ok fl =>
    cases fl with
    | next => exact False.elim h
    | brk => exact False.elim h
    | cont => exact False.elim h
    | ret u =>
      obtain ⟨v, H', os, bare, un, hok', r', q⟩ := h
      have q' : v = .bl true := q
      subst q'
      obtain rfl : u = Value.bool true := r'
      refine ⟨rfl, OldK.of_keep fun b o e => ?_, os, bare⟩
      rcases T.only b with z | ⟨ob, xs, z⟩
      · exact un.keep b o e z (fun y => absurd (show b ∈ ([] : List Addr) from y) (by simp)) (by simp)
      · have z1 := T.ok b _ z
        have z2 := hok' b _ (un.frzs b ob _ z)
        have e1 := z1.1
        rw [e] at e1; cases e1
        exact z2.1
end
theorem walkG {l : PySem.W.OpenLaw} {n k : Nat} {q : Program} {loose : List Str} {XP : (Str → Option Value) → Heap → Prop} {YP : World → Heap → Prop} {d : DefRec} {K : Params → PySem.W.Frag} {sp : World → Sp} {x : Str}
    (hn : l.most = some n) (hn2 : n ≤ sizeLine) (hdf : d.params.defaults = []) (hr : Room k callerA) (hY : ∀ (w : World) (h : Heap), YP w h → (K w.params).In h)
    (F : ∀ (w : World) (mg : Str → Option Value) (fa : Addr) (h : Heap), (K w.params).In h → h.Ns mainGlobals mg → mg d.name = some (.ref fa) → ∃ fd : FuncData, (∀ (s : Shared) (u : Value), BindsTo s fd ⟨[u], []⟩ [(x, u)]) ∧
        ∃ dt : Value → Prop, ∀ base : Heap, (K w.params).In base → base.Ns mainGlobals mg → FnG dt l.prog w (K w.params) mg base k fa fd [x] (sp w))
    (hsp : ∀ (w : World) (H : Hp) (a : Addr) (ns : List Int), ns.length ≤ n → (∀ z ∈ ns, Builtin.Int.intBits z ≤ 1048576) → Only H → SqL (K w.params) H a (ns.map V.int) → sp w [.ref a] H (fun v _ => v = .bl true) fun _ _ _ => False) :
    PySem.W.WalkO q loose XP YP l.row.toRowW d [] (fun f vs => PySem.call f vs) :=
  Att.attach_callB hn hdf fun w s₀ s₁ mg mb fa o pm cd doc a vs ns G Y ho hd hcd hmg hobj hints hlen hbits hg => by
    have KX := hY w _ Y
    obtain ⟨fd, hb, dt, hF⟩ := F w mg fa _ KX G.T.g hmg
    exact head_go KX G.T.g G.T.b G.T.builtins G.T.nolimit hg hobj hints (Nat.le_trans hlen hn2) hr hF hb (fun H hO hS => hsp w H a ns hlen hbits hO hS)
/-- the start -/
theorem start_rep {K : PySem.W.Frag} {cl : Nat → Addr} {H : Hp} {a : Addr} {ns : List Int} (hO : Only H) (hS : SqL K H a (ns.map V.int)) : Rep K cl (fun _ => a) [.rol (ns.map W.int)] H := by
  have rv : ∀ (ns : List Int) m' L' H', RWs K cl m' L' H' (ns.map W.int) (ns.map V.int) := fun ns m' L' H' => by
    induction ns with
    | nil => exact .nil
    | cons i r ih => exact .cons (.int i) ih
  refine ⟨fun n o hn => ?_, fun i j oi oj hi hj wi wj _ => ?_⟩
  · cases n with
    | zero =>
      cases hn
      refine ⟨ns.map V.int, ?_, rv ns⟩
      rcases hS with (h | ⟨o, h⟩) | h
      · rcases hO a with z | ⟨o, xs, z⟩ <;> (rw [h] at z; cases z)
      · exact .inl ⟨o, h⟩
      · exact .inr h
    | succ n => simp at hn
  · cases i with
    | zero => cases hi; cases wi
    | succ i => simp at hi
end Dr
set_option maxHeartbeats 2000000
namespace Dr
open PySem L2 PyProof.Rows
/-! ### a def by its place, for all contexts -/
def FOkB (P : Program) (w : World) (mg : Str → Option Value) (base : Heap) (G : Cfg) (k : Nat) (f : Addr) (fn : Fn) (dw : List W) : Prop :=
  ∃ fd ps ds dvs, FnG G.dty P w G.K mg base k f fd ps (spC G ps.length fn) ∧ Binds G.K fd ps ds ∧ Vals dvs ds ∧ (∀ m L H, RWs G.K G.cl m L H dw dvs) ∧ ∀ ws h, ws.length ≠ ps.length → fn ws h = .no
def Dfn (G : Cfg) (qual : Str) (st : Stmt) (ps : List Str) (dw : List W) (f : Addr) : Prop := ∃ fd ds dvs, DefAt G.K qual st f fd ∧ Binds G.K fd ps ds ∧ Vals dvs ds ∧ ∀ m L H, RWs G.K G.cl m L H dw dvs
section
variable {P : Program} {w : World} {mg : Str → Option Value} {base : Heap} {G : Cfg} {k : Nat} {f : Addr} {fn : Fn} {dw : List W} {qual : Str} {st : Stmt} {ps N : List Str} {body : Ev}
theorem FOkB.up (h : FOkB P w mg base G k f fn dw) : FOkB P w mg base G (k + 1) f fn dw := by
  obtain ⟨fd, ps, ds, dvs, a, b, c, d, e⟩ := h
  exact ⟨fd, ps, ds, dvs, a.up (Nat.le_succ _), b, c, d, e⟩
theorem FOkB.more {j : Nat} (h : FOkB P w mg base G k f fn dw) (hj : k ≤ j) : FOkB P w mg base G j f fn dw := by
  obtain ⟨fd, ps, ds, dvs, a, b, c, d, e⟩ := h
  exact ⟨fd, ps, ds, dvs, a.up hj, b, c, d, e⟩
theorem FOkB.pure (h : FOkB P w mg base G k f fn dw) : FOkB P w mg base G k f (pureFn fn) dw := by
  obtain ⟨fd, ps, ds, dvs, a, b, c, d, e⟩ := h
  exact ⟨fd, ps, ds, dvs, a.imp sp_pure, b, c, d, fun ws h hl => pureFn_len e ws h hl⟩
theorem FOkB.no (u : Dfn G qual st ps dw f) : FOkB P w mg base G k f (fun _ _ => .no) dw := by
  obtain ⟨fd, ds, dvs, a, b, c, d⟩ := u
  refine ⟨fd, ps, ds, dvs, ⟨fun vs H Q E h => ?_, fun A o s H ar us vs Q E _ _ _ _ _ h => ?_⟩, b, c, d, fun _ _ _ => rfl⟩
  · obtain ⟨m, h, ws, hl, R, r, _⟩ := h
    rw [← r.length, hl]
  · obtain ⟨m, h, ws, hl, R, r, z⟩ := h
    exact False.elim z
theorem FOkB.of (u : Dfn G qual st ps dw f) (ok : ∀ fd, DefAt G.K qual st f fd → FnG G.dty P w G.K mg base k f fd ps (spC G ps.length (fnOf ps.length N.length body))) : FOkB P w mg base G k f (fnOf ps.length N.length body) dw := by
  obtain ⟨fd, ds, dvs, a, b, c, d⟩ := u
  refine ⟨fd, ps, ds, dvs, ok fd a, b, c, d, fun ws h hl => ?_⟩
  unfold Dr.fnOf
  rw [if_neg hl]
theorem Dfn.plain {x : Str} {oc : Value} {od an : Option Addr} {osl : Array (Option Value)} {kV doc pm cdv ct : Value} (l : G.K.lookup f = some ⟨oc, od, .func (PySem.W.fnOf x qual (defArgs st) (defBody st) (defScope st) .none kV doc pm an cdv ct), osl⟩) (c : PySem.W.codeIn G.K cdv qual = true)
    (h : ∀ (kV doc pm : Value) (an : Option Addr) (cdv ct : Value) (us : List Value), us.length = ps.length → bindArgs (PySem.W.fnOf x qual (defArgs st) (defBody st) (defScope st) .none kV doc pm an cdv ct) ⟨us, []⟩ = pure (ps.zip us)) : Dfn G qual st ps [] f :=
  ⟨_, [], [], ⟨oc, od, x, .none, kV, doc, pm, an, cdv, ct, osl, rfl, l, c⟩, .all (h kV doc pm an cdv ct), .nil, fun _ _ _ => .nil⟩
/-- a def with defaults, called with all its arguments or without the last ones -/
theorem Dfn.dfl {x : Str} {oc : Value} {od an : Option Addr} {osl : Array (Option Value)} {kV doc pm cdv ct : Value} {T : Addr} {oT : Obj} {its : List Value} {nT : Nat} {dvs : List V} (j : Nat) (l : G.K.lookup f = some ⟨oc, od, .func (PySem.W.fnOf x qual (defArgs st) (defBody st) (defScope st) (.ref T) kV doc pm an cdv ct), osl⟩) (c : PySem.W.codeIn G.K cdv qual = true)
    (lT : G.K.lookup T = some oT) (dT : oT.data = .seq its.toArray nT) (rv : Vals dvs its) (rw_ : ∀ m L H, RWs G.K G.cl m L H dw (dvs.drop j))
    (h : ∀ (T : Addr) (kV doc pm : Value) (an : Option Addr) (cdv ct : Value) (us its : List Value), us.length + (its.drop j).length = ps.length → its.length = dvs.length → ∃ k, bindArgs (PySem.W.fnOf x qual (defArgs st) (defBody st) (defScope st) (.ref T) kV doc pm an cdv ct) ⟨us, []⟩ = seqItems? (.ref T) >>= k ∧ k (some its.toArray) = pure (ps.zip (us ++ its.drop j))) : Dfn G qual st ps dw f := by
  refine ⟨_, its.drop j, dvs.drop j, ⟨oc, od, x, .ref T, kV, doc, pm, an, cdv, ct, osl, rfl, l, c⟩, fun s us X hl => ?_, rv.drop j, rw_⟩
  obtain ⟨k, e1, e2⟩ := h T kV doc pm an cdv ct us its (by rw [← List.length_append]; exact hl) rv.length.symm
  exact BindsTo.of_looks fun M => by
    rw [e1]
    exact looks_items X lT dT (PySem.W.Looks.of_pure e2)
end
end Dr
set_option maxHeartbeats 2000000
namespace Dr
open PySem L2
/-! ### what a turn of a loop made may be forgotten -/
mutual
def W.und (L : Nat) : W → Bool
  | .ref n => decide (n < L)
  | .tup ws => unds L ws
  | _ => true
def unds (L : Nat) : List W → Bool
  | [] => true
  | w :: ws => w.und L && unds L ws
end
def IO.und (L : Nat) : IO → Bool
  | .lst ws => unds L ws
  | .rol _ => true
  | .ins _ fs => fs.all fun p => p.2.und L
  | .slt _ vs => vs.all fun o => match o with | some w => w.und L | none => true
  | .dic kvs => kvs.all fun p => p.2.und L
  | .exc _ _ w => w.und L
/-- the slots that are kept -/
def keepS (ks : List Nat) (f : W → Bool) : Nat → Sg → Sg
  | _, [] => []
  | i, o :: r => (if ks.contains i = true then (match o with | some w => if f w = true then some w else none | none => none) else none) :: keepS ks f (i + 1) r
def gcOut (L : Nat) (ks : List Nat) : Out → Out
  | .nx s h' => if (h'.take L).all (IO.und L) = true then .nx (keepS ks (fun w => w.und L) 0 s) (h'.take L) else .no
  | .ct s h' => if (h'.take L).all (IO.und L) = true then .ct (keepS ks (fun w => w.und L) 0 s) (h'.take L) else .no
  | .bk s h' => if (h'.take L).all (IO.und L) = true then .bk (keepS ks (fun w => w.und L) 0 s) (h'.take L) else .no
  | o => o
def eGc (ks : List Nat) (b : Ev) : Ev := fun σ h => gcOut h.length ks (b σ h)
section
variable {G : Cfg} {X : Cx} {Z : WX} {k : Nat} {a b c e : Ev} {ea eb ec ex : Expr} {pos : Pos} {st : Stmt} {sts sts' : List Stmt}
section
variable {K : PySem.W.Frag} {cl m m' : Nat → Addr} {L L' : Nat} {H H' : Hp}
mutual
theorem RW.und : ∀ {w : W} {v : V}, w.und L' = true → RW K cl m L H w v → RW K cl m L' H w v
  | _, _, _, .non => .non
  | _, _, _, .bl b => .bl b
  | _, _, _, .int i => .int i
  | _, _, _, .str x => .str x
  | .tup ws, _, f, .tup h hs => .tup h (RWs.und (by unfold W.und at f; exact f) hs)
  | .ref n, _, f, .ref _ _ => .ref n (by unfold W.und at f; exact of_decide_eq_true f)
  | _, _, _, .cls c => .cls c
theorem RWs.und : ∀ {ws : List W} {vs : List V}, unds L' ws = true → RWs K cl m L H ws vs → RWs K cl m L' H ws vs
  | _, _, _, .nil => .nil
  | w :: ws, _, f, .cons a b => by
    unfold unds at f
    have f := Bool.and_eq_true_iff.mp f
    exact .cons (RW.und f.1 a) (RWs.und f.2 b)
end
theorem RF.und {fs : List (Str × W)} {vs : List (Str × V)} (r : RF K cl m L H fs vs) (f : (fs.all fun p => p.2.und L') = true) : RF K cl m L' H fs vs := by
  induction r with
  | nil => exact .nil
  | cons a _ ih =>
    rw [List.all_cons] at f
    have f := Bool.and_eq_true_iff.mp f
    exact .cons (a.und f.1) (ih f.2)
theorem RK.und {fs : List (Key × W)} {vs : List (Key × V)} (r : RK K cl m L H fs vs) (f : (fs.all fun p => p.2.und L') = true) : RK K cl m L' H fs vs := by
  induction r with
  | nil => exact .nil
  | cons a _ ih =>
    rw [List.all_cons] at f
    have f := Bool.and_eq_true_iff.mp f
    exact .cons (a.und f.1) (ih f.2)
theorem OR.und {a : Addr} {o : IO} (q : OR K cl m L H a o) (f : o.und L' = true) : OR K cl m L' H a o := by
  cases o with
  | lst ws => obtain ⟨vs, x, y⟩ := q; exact ⟨vs, x, y.und f⟩
  | rol ws => obtain ⟨vs, x, y⟩ := q; exact ⟨vs, x, y⟩
  | ins c fs => obtain ⟨dx, vs, x, y⟩ := q; exact ⟨dx, vs, x, y.und f⟩
  | dic kvs => obtain ⟨vs, x, y⟩ := q; exact ⟨vs, x, y.und f⟩
  | exc c g w => obtain ⟨d, v, x, z, y⟩ := q; exact ⟨d, v, x, z, y.und f⟩
  | slt c ws =>
    obtain ⟨dx, vs, x, y⟩ := q
    refine ⟨dx, vs, x, fun i w z => ?_⟩
    obtain ⟨v, z1, z2⟩ := y i w z
    have g := List.all_eq_true.mp f (some w) (List.mem_of_getElem? z)
    exact ⟨v, z1, z2.und g⟩
theorem Ext.cut (e : Ext K m L H m' L' H') : Ext K m L H m' L H' :=
  ⟨Nat.le_refl _, e.eq, e.tup, e.xd, e.fr, e.fd, e.fx, fun n h1 h2 => absurd h2 (Nat.not_lt.mpr h1), e.dom⟩
theorem Rep.cut {h : IH} (R : Rep K cl m h H) (hl : L ≤ h.length) (f : (h.take L).all (IO.und L) = true) : Rep K cl m (h.take L) H := by
  have ll : (h.take L).length = L := by rw [List.length_take]; omega
  have at_ : ∀ n o, (h.take L)[n]? = some o → h[n]? = some o := fun n o z => by
    rw [List.getElem?_take] at z
    split at z
    · exact z
    · cases z
  refine ⟨fun n o z => ?_, fun i j oi oj hi hj => R.inj i j oi oj (at_ _ _ hi) (at_ _ _ hj)⟩
  rw [ll]
  exact (R.obj n o (at_ _ _ z)).und (List.all_eq_true.mp f o (List.mem_of_getElem? z))
end
theorem keepS_len (ks : List Nat) (f : W → Bool) : ∀ (i : Nat) (s : Sg), (keepS ks f i s).length = s.length
  | _, [] => rfl
  | i, _ :: r => by unfold keepS; simp [keepS_len ks f (i + 1) r]
theorem keepS_get (ks : List Nat) (f : W → Bool) : ∀ (i : Nat) (s : Sg) (j : Nat) (w : W), (keepS ks f i s)[j]? = some (some w) → s[j]? = some (some w) ∧ f w = true
  | _, [], j, w, z => by simp [keepS] at z
  | i, o :: r, 0, w, z => by
    unfold keepS at z
    rw [List.getElem?_cons_zero, Option.some.injEq] at z
    split at z
    · cases o with
      | none => cases z
      | some u =>
        simp only at z
        split at z
        · rename_i q; cases z; exact ⟨rfl, q⟩
        · cases z
    · cases z
  | i, o :: r, j + 1, w, z => by
    unfold keepS at z
    rw [List.getElem?_cons_succ] at z
    obtain ⟨h1, h2⟩ := keepS_get ks f (i + 1) r j w z
    exact ⟨by rw [List.getElem?_cons_succ]; exact h1, h2⟩
theorem RSt.keep {m : Nat → Addr} {L L' : Nat} {H : Hp} {σ : Sg} {τ : St} {ks : List Nat} {f : W → Bool} (S : RSt G m L H σ τ) (hx : G.xs = none ∧ G.xd = none) (ht : ∀ w v, f w = true → RW G.K G.cl m L H w v → RW G.K G.cl m L' H w v) : RSt G m L' H (keepS ks f 0 σ) τ := by
  refine ⟨by rw [keepS_len]; exact S.len, fun i w z => ?_, fun i a z => (by rw [hx.1] at z; cases z), fun d c w z => by rw [hx.2] at z; cases z⟩
  obtain ⟨z1, z2⟩ := keepS_get ks f 0 σ i w z
  obtain ⟨v, h1, h2⟩ := S.get i w z1
  exact ⟨v, h1, ht w v z2 h2⟩
theorem gc_po {m : Nat → Addr} {L : Nat} {H : Hp} {D : Ends} {ks : List Nat} {o : Out} (hx : G.xs = none ∧ G.xd = none) (P : PoS G m L H Z D (gcOut L ks o)) : PoS G m L H Z D o := by
  have key : ∀ (s : Sg) (h' : IH) (N : St → Hp → Prop), (h'.take L).all (IO.und L) = true → (∀ m' H' τ, Ext G.K m L H m' (h'.take L).length H' → Rep G.K G.cl m' (h'.take L) H' → RSt G m' (h'.take L).length H' (keepS ks (fun w => w.und L) 0 s) τ → N τ H') →
      ∀ m' H' τ, Ext G.K m L H m' h'.length H' → Rep G.K G.cl m' h' H' → RSt G m' h'.length H' s τ → N τ H' := fun s h' N q p m' H' τ e' R' S' => by
    have ll : (h'.take L).length = L := by rw [List.length_take]; have := e'.le; omega
    have p := p m' H' τ
    rw [ll] at p
    exact p e'.cut (R'.cut e'.le q) (S'.keep hx fun w v z r => r.und z)
  cases o with
  | nx s h' =>
    unfold gcOut at P
    simp only at P
    split at P
    · rename_i q; exact key s h' _ q P
    · exact P.elim
  | ct s h' =>
    unfold gcOut at P
    simp only at P
    split at P
    · rename_i q; exact key s h' _ q P
    · exact P.elim
  | bk s h' =>
    unfold gcOut at P
    simp only at P
    split at P
    · rename_i q; exact key s h' _ q P
    · exact P.elim
  | v w h => exact P
  | vs w h => exact P
  | rt w h => exact P
  | ex c w s h => exact P
  | no => exact P
theorem b_gc (ks : List Nat) (hx : G.xs = none ∧ G.xd = none) (hb : SB G X Z b sts) : SB G X Z (eGc ks b) sts := .mk fun m h H σ τ D R S P => hb m h H σ τ D R S (gc_po hx P)
/-! ### an expression that asks for plain values alone may run on an empty heap -/
def flatS (s : Sg) : Bool := s.all fun o => match o with | some w => w.flat | none => true
def ePure (ks : List Nat) (e : Ev) : Ev := fun σ h => if flatS (keepS ks (fun _ => true) 0 σ) = true then (match e (keepS ks (fun _ => true) 0 σ) [] with
  | .v w _ => if w.flat = true then .v w h else .no
  | _ => .no) else e σ h
theorem pure_po {m : Nat → Addr} {h : IH} {H : Hp} {Q : VK} {o : Out} (R : Rep G.K G.cl m h H) (P : PoE G m h.length H Z Q (match o with
  | .v w _ => if w.flat = true then .v w h else .no
  | _ => .no)) : PoE G m 0 H Z Q o := by
  cases o with
  | v w h0 =>
    simp only at P
    split at P
    · rename_i hw
      exact fun m' H' v ex R' r => P m H' v ex.wide (R.wide ex) (r.flat hw)
    · exact P.elim
  | _ => exact P.elim
theorem pure_st {m : Nat → Addr} {L : Nat} {H : Hp} {σ : Sg} {τ : St} {ks : List Nat} {f : W → Bool} (S : RSt G m L H σ τ) (hx : G.xs = none ∧ G.xd = none) (hf : flatS (keepS ks f 0 σ) = true) : RSt G m 0 H (keepS ks f 0 σ) τ := by
  refine ⟨by rw [keepS_len]; exact S.len, fun i w z => ?_, fun i a z => (by rw [hx.1] at z; cases z), fun d c w z => by rw [hx.2] at z; cases z⟩
  obtain ⟨z1, z2⟩ := keepS_get ks f 0 σ i w z
  obtain ⟨v, h1, h2⟩ := S.get i w z1
  exact ⟨v, h1, h2.flat (List.all_eq_true.mp hf (some w) (List.mem_of_getElem? z))⟩
theorem s_pure (ks : List Nat) (hx : G.xs = none ∧ G.xd = none) (he : SE G X Z e ex) : SE G X Z (ePure ks e) ex := .mk fun m h H σ τ Q R S P => by
  unfold ePure at P
  split at P
  · rename_i hf
    exact he m [] H _ τ Q .none (pure_st S hx hf) (pure_po R P)
  · exact he m h H σ τ Q R S P
theorem t_pure (ks : List Nat) (hx : G.xs = none ∧ G.xd = none) (he : ST G X Z e ex) : ST G X Z (ePure ks e) ex := .mk fun m h H σ τ Q R S P => by
  unfold ePure at P
  split at P
  · rename_i hf
    exact he m [] H _ τ Q .none (pure_st S hx hf) (pure_po R P)
  · exact he m h H σ τ Q R S P
/-- a function that runs on an empty heap where its arguments are plain -/
def pureFn' (f : Fn) : Fn := fun ws h => if flats ws = true then pureFn f ws h else f ws h
theorem sp_pure' {f : Fn} {n : Nat} (vs : List V) (H : Hp) (Q : VK) (E : XK) (sp : spC G n (pureFn' f) vs H Q E) : spC G n f vs H Q E := by
  obtain ⟨m, h, ws, hl, R, r, P⟩ := sp
  unfold pureFn' at P
  split at P
  · exact sp_pure vs H Q E ⟨m, h, ws, hl, R, r, P⟩
  · exact ⟨m, h, ws, hl, R, r, P⟩
theorem FOkB.pure' {P : Program} {w : World} {mg : Str → Option Value} {base : Heap} {f : Addr} {fn : Fn} {dw : List W} (h : FOkB P w mg base G k f fn dw) : FOkB P w mg base G k f (pureFn' fn) dw := by
  obtain ⟨fd, ps, ds, dvs, a, b, c, d, e⟩ := h
  refine ⟨fd, ps, ds, dvs, a.imp sp_pure', b, c, d, fun ws h hl => ?_⟩
  unfold pureFn'
  split
  · exact pureFn_len e ws h hl
  · exact e ws h hl
/-! ### loops, told -/
theorem forR {lo : Int} {n : Nat} {g : Tg} {b : Ev} (I : Sg → IH → Prop)
    (hs : ∀ i, i < n → ∀ σ h, I σ h → ∃ σ' s h', g (.int (lo + (i : Nat))) σ = some σ' ∧ b σ' h = .nx s h' ∧ I s h') :
    ∀ (fuel i : Nat) (σ : Sg) (h : IH), i ≤ n → n - i < fuel → I σ h → ∃ s h', forL (jR lo n) g b fuel i σ h = .nx s h' ∧ I s h'
  | 0, i, σ, h, _, hf, _ => absurd hf (Nat.not_lt_zero _)
  | fuel + 1, i, σ, h, hi, hf, hI => by
    unfold forL jR
    by_cases q : i < n
    · obtain ⟨σ', s, h', e1, e2, hI'⟩ := hs i q σ h hI
      obtain ⟨s', h'', e3, hI''⟩ := forR I hs fuel (i + 1) s h' q (by omega) hI'
      refine ⟨s', h'', ?_, hI''⟩
      rw [if_pos q]
      simp only [e1, e2]
      exact e3
    · exact ⟨σ, h, by rw [if_neg q], hI⟩
theorem forW {p : Nat} {ws : List W} {g : Tg} {b : Ev} {h : IH} (I : Sg → Prop) (hl : lstAt h p = some ws)
    (hs : ∀ w ∈ ws, ∀ σ, I σ → ∃ σ' s, g w σ = some σ' ∧ b σ' h = .nx s h ∧ I s) :
    ∀ (fuel i : Nat) (σ : Sg), i ≤ ws.length → ws.length - i < fuel → I σ → ∃ s, forL (jL p) g b fuel i σ h = .nx s h ∧ I s
  | 0, i, σ, _, hf, _ => absurd hf (Nat.not_lt_zero _)
  | fuel + 1, i, σ, hi, hf, hI => by
    unfold forL jL
    simp only [hl]
    by_cases q : i < ws.length
    · obtain ⟨σ', s, e1, e2, hI'⟩ := hs ws[i] (List.getElem_mem q) σ hI
      obtain ⟨s', e3, hI''⟩ := forW I hl hs fuel (i + 1) s q (by omega) hI'
      refine ⟨s', ?_, hI''⟩
      rw [List.getElem?_eq_getElem q]
      simp only [e1, e2]
      exact e3
    · exact ⟨σ, by rw [List.getElem?_eq_none (Nat.le_of_not_lt q)], hI⟩
end
end Dr
set_option maxHeartbeats 2000000
namespace Dr
open PySem L2
/-! ### telling what small texts come to -/
def isF : Out → Bool
  | .v (.bl false) _ => true
  | _ => false
def isT : Out → Bool
  | .v (.bl true) _ => true
  | _ => false
def lstOut : Out → Option (List W)
  | .v (.ref n) h' => (match h'[n]? with | some (.lst ls) => some ls | _ => none)
  | _ => none
theorem pureFn_lst {f : Fn} {ws : List W} {h : IH} {ls : List W} (hf : flats ws = true) (e : lstOut (f ws []) = some ls) (hl : flats ls = true) : pureFn' f ws h = .v (.ref h.length) (h ++ [.lst ls]) := by
  unfold pureFn' pureFn
  rw [if_pos hf, if_pos hf]
  unfold lstOut at e
  split at e
  · rename_i n h' q
    rw [q]
    split at e
    · rename_i ls' q'
      cases e
      simp only [q', hl, if_true]
    · cases e
  · cases e
theorem isF_of {o : Out} (h : isF o = true) : ∃ h', o = .v (.bl false) h' := by
  unfold isF at h
  split at h
  · exact ⟨_, rfl⟩
  · cases h
theorem isT_of {o : Out} (h : isT o = true) : ∃ h', o = .v (.bl true) h' := by
  unfold isT at h
  split at h
  · exact ⟨_, rfl⟩
  · cases h
theorem ePure_F {ks : List Nat} {e : Ev} {σ : Sg} {h : IH} (hf : flatS (keepS ks (fun _ => true) 0 σ) = true) (h1 : isF (e (keepS ks (fun _ => true) 0 σ) []) = true) : ePure ks e σ h = .v (.bl false) h := by
  obtain ⟨h', q⟩ := isF_of h1
  unfold ePure
  rw [if_pos hf, q]
  rfl
theorem ePure_T {ks : List Nat} {e : Ev} {σ : Sg} {h : IH} (hf : flatS (keepS ks (fun _ => true) 0 σ) = true) (h1 : isT (e (keepS ks (fun _ => true) 0 σ) []) = true) : ePure ks e σ h = .v (.bl true) h := by
  obtain ⟨h', q⟩ := isT_of h1
  unfold ePure
  rw [if_pos hf, q]
  rfl
theorem mem_cutW {w : W} {ws : List W} {lo hi : Option Int} (h : w ∈ cutW ws lo hi) : w ∈ ws := List.mem_of_mem_drop (List.mem_of_mem_take h)
theorem flats_all : ∀ {ws : List W}, flats ws = true ↔ ∀ w ∈ ws, w.flat = true
  | [] => ⟨fun _ w h => (by cases h), fun _ => rfl⟩
  | u :: us => by
    unfold flats
    rw [Bool.and_eq_true_iff, flats_all]
    exact ⟨fun h w hw => by
      rcases List.mem_cons.mp hw with rfl | z
      · exact h.1
      · exact h.2 w z, fun h => ⟨h u (List.mem_cons_self), fun w hw => h w (List.mem_cons_of_mem _ hw)⟩⟩
theorem flats_app {xs ys : List W} (h1 : flats xs = true) (h2 : flats ys = true) : flats (xs ++ ys) = true :=
  flats_all.mpr fun w hw => by
    rcases List.mem_append.mp hw with z | z
    · exact flats_all.mp h1 w z
    · exact flats_all.mp h2 w z
theorem flats_cut {xs : List W} (lo hi : Option Int) (h1 : flats xs = true) : flats (cutW xs lo hi) = true := flats_all.mpr fun w hw => flats_all.mp h1 w (mem_cutW hw)
theorem flats_ints (ms : List Int) : flats (ms.map W.int) = true := flats_all.mpr fun w hw => by
  obtain ⟨i, _, rfl⟩ := List.mem_map.mp hw
  rfl
mutual
theorem flat_und (L : Nat) : ∀ w : W, w.flat = true → w.und L = true
  | .non, _ => rfl
  | .bl _, _ => rfl
  | .int _, _ => rfl
  | .str _, _ => rfl
  | .cls _, _ => rfl
  | .ref _, h => by cases h
  | .tup ws, h => by unfold W.flat at h; unfold W.und; exact flats_unds L ws h
theorem flats_unds (L : Nat) : ∀ ws : List W, flats ws = true → unds L ws = true
  | [], _ => rfl
  | w :: ws, h => by
    unfold flats at h
    have h := Bool.and_eq_true_iff.mp h
    unfold unds
    rw [flat_und L w h.1, flats_unds L ws h.2]
    rfl
end
/-- lists of plain values alone -/
def IO.fl : IO → Bool
  | .lst ws => flats ws
  | .rol ws => flats ws
  | _ => false
theorem fl_und {L : Nat} {o : IO} (h : o.fl = true) : o.und L = true := by
  cases o with
  | lst ws => exact flats_unds L ws h
  | rol ws => rfl
  | ins c fs => cases h
  | slt c fs => cases h
  | dic fs => cases h
  | exc c f w => cases h
theorem gc_nx {ks : List Nat} {b : Ev} {σ s : Sg} {h g : IH} (e : b σ h = .nx s (h ++ g)) (hf : h.all IO.fl = true) : eGc ks b σ h = .nx (keepS ks (fun w => w.und h.length) 0 s) h := by
  unfold eGc
  rw [e]
  unfold gcOut
  simp only
  rw [List.take_left, if_pos]
  exact List.all_eq_true.mpr fun o ho => fl_und (List.all_eq_true.mp hf o ho)
/-- the two draws' defs of the first family of laws -/
def poolB : Ev :=
  (eSeq (eAsg (gN 2) (eBin oIx (eBin oAdd (eSl (eLoc 0) (eInt (eLoc 1)) (eInt (eBin oAdd (eLoc 1) (eK (.int 1))))) (eLst (eCons (eK (.int 0)) eNil))) (eK (.int 0))))
    (eSeq (eAsg (gN 3) (eIf (eBin oGe (eLoc 2) (eK (.int 0))) (eLoc 2) (eBin oSub (eNeg (eK (.int 1))) (eLoc 2))))
    (eSeq (eAsg (gN 4) (eBin oMod (eBin oMulX (eBlt bIntX (eCons (eBin oAdd (eBin oAdd (eBin oAdd (eBin oMod (eLoc 3) (eK (.int 2147483629))) (eBin oMulX (eBin oMulX (eK (.int 7919)) (eLoc 1)) (eLoc 1))) (eBin oMulX (eK (.int 31)) (eLoc 1))) (eK (.int 17))) eNil)) (eK (.int 48271))) (eK (.int 2147483647))))
    (eRet (eLst (eCons (eBin oMulX (eLoc 3) (eBlt bIntX (eCons (eBin oGe (eLoc 3) (eBin oPow (eK (.int 10)) (eK (.int 18)))) eNil))) (eCons (eBin oMod (eBin oMulX (eLoc 4) (eLoc 4)) (eK (.int 2147483629))) eNil)))))))
def takeB : Ev :=
  (eSeq (eIfS (eBin oGt (eBin oIx (eLoc 0) (eK (.int 0))) (eK (.int 0))) (eSeq (eAsg (gN 2) (eBin oMod (eBlt bIntX (eCons (eBin oIx (eLoc 0) (eK (.int 0))) eNil)) (eLoc 1)))
    (eSeq (eSetI (eLoc 0) (eK (.int 0)) (eBin oDiv (eBin oIx (eLoc 0) (eK (.int 0))) (eLoc 1)))
    (eRet (eLoc 2)))) eEnd)
    (eSeq (eSetI (eLoc 0) (eK (.int 1)) (eBin oMod (eBlt bIntX (eCons (eBin oAdd (eBin oMulX (eBin oIx (eLoc 0) (eK (.int 1))) (eK (.int 48271))) (eK (.int 12345))) eNil)) (eK (.int 2147483647))))
    (eRet (eBin oMod (eBin oDiv (eBin oMod (eBlt bIntX (eCons (eBin oMulX (eBin oIx (eLoc 0) (eK (.int 1))) (eBin oIx (eLoc 0) (eK (.int 1)))) eNil)) (eK (.int 2147483629))) (eK (.int 64))) (eLoc 1)))))
/-- a pool of draws -/
structure Pool (h : IH) (p : Nat) (a b : Int) : Prop where
  at_ : h[p]? = some (.lst [.int a, .int b])
  ha : 0 ≤ a
  hb : 0 ≤ b
  hb2 : b < 2147483647
theorem take_ok {p : Nat} {m : Int} {h : IH} {a b : Int} (hp : Pool h p a b) (h0 : 0 < m) (h1 : m < 1073741824) :
    ∃ r a' b', 0 ≤ r ∧ r < m ∧ Pool (h.set p (.lst [.int a', .int b'])) p a' b' ∧ fnOf 2 3 takeB [.ref p, .int m] h = .v (.int r) (h.set p (.lst [.int a', .int b'])) := by
  have hl : p < h.length := (List.getElem?_eq_some_iff.mp hp.at_).1
  have i0 : oIx (.ref p) (.int 0) h = .v (.int a) h := by simp only [oIx, hp.at_]; rfl
  have i1 : oIx (.ref p) (.int 1) h = .v (.int b) h := by simp only [oIx, hp.at_]; rfl
  have pl : ∀ a' b' : Int, 0 ≤ a' → 0 ≤ b' → b' < 2147483647 → Pool (h.set p (.lst [.int a', .int b'])) p a' b' := fun a' b' x y z => ⟨List.getElem?_set_self hl, x, y, z⟩
  by_cases q : 0 < a
  · refine ⟨a % m, a / m, b, Int.emod_nonneg _ (by omega), Int.emod_lt_of_pos _ h0, pl _ _ (Int.ediv_nonneg hp.ha (by omega)) hp.hb hp.hb2, ?_⟩
    have sl : slots 3 [.ref p, .int m] = [some (.ref p), some (.int m), none] := rfl
    simp only [fnOf, takeB, eSeq, eIfS, eBin, eAsg, eSetI, eLoc, eK, eBlt, eCons, eNil, eRet, eEnd, gN, Out.vb, Out.vsb, Out.nb, Out.fin, List.length_cons, List.length_nil, if_true, sl, List.getElem?_cons_zero, List.getElem?_cons_succ, i0, oGt, q, decide_true, bIntX, bInt, oMod, h0, List.set_cons_succ, List.set_cons_zero, oDiv, h1, and_self, oSetI, hp.at_]
    rfl
  · have i1' : ∀ x : Int, oIx (.ref p) (.int 1) (h.set p (.lst [.int a, .int x])) = .v (.int x) (h.set p (.lst [.int a, .int x])) := fun x => by simp only [oIx, List.getElem?_set_self hl]; rfl
    have m1 : ∀ x : Int, 0 ≤ x → x < 2147483647 → oMulX (.int x) (.int 48271) h = .v (.int (x * 48271)) h := fun x y z => by
      show (if mulOk x 48271 = true then _ else _) = _
      rw [if_pos (by unfold mulOk; simp)]
    have m2 : ∀ (x : Int) (h : IH), 0 ≤ x → x < 2147483647 → oMulX (.int x) (.int x) h = .v (.int (x * x)) h := fun x h y z => by
      show (if mulOk x x = true then _ else _) = _
      rw [if_pos (by unfold mulOk; simp; omega)]
    have e0 : 0 ≤ (b * 48271 + 12345) % 2147483647 := Int.emod_nonneg _ (by decide)
    have e1 : (b * 48271 + 12345) % 2147483647 < 2147483647 := Int.emod_lt_of_pos _ (by decide)
    refine ⟨((b * 48271 + 12345) % 2147483647 * ((b * 48271 + 12345) % 2147483647)) % 2147483629 / 64 % m, a, (b * 48271 + 12345) % 2147483647, Int.emod_nonneg _ (by omega), Int.emod_lt_of_pos _ h0, pl _ _ hp.ha e0 e1, ?_⟩
    have sl : slots 3 [.ref p, .int m] = [some (.ref p), some (.int m), none] := rfl
    have c1 : (0 : Int) < 2147483647 := by decide
    have c2 : (0 : Int) < 2147483629 := by decide
    have c3 : (0 : Int) < 64 := by decide
    have c4 : (64 : Int) < 1073741824 := by decide
    have st : (ixN ([W.int a, W.int b] : List W).length 1) = some 1 := rfl
    simp only [fnOf, takeB, eSeq, eIfS, eBin, eAsg, eSetI, eLoc, eK, eBlt, eCons, eNil, eRet, eEnd, gN, Out.vb, Out.vsb, Out.nb, Out.fin, List.length_cons, List.length_nil, if_true, sl, List.getElem?_cons_zero, List.getElem?_cons_succ, i0, i1, oGt, q, decide_false, bIntX, bInt, oMod, h0, List.set_cons_succ, List.set_cons_zero, oDiv, h1, and_self, oSetI, hp.at_, m1 b hp.hb hp.hb2, oAdd, c1, c2, c3, c4]
    simp only [List.length_cons, List.length_nil] at st
    simp only [st, List.set_cons_succ, List.set_cons_zero, i1', m2 _ _ e0 e1, oMod, c2, c3, c4, if_true, and_self, h0]
    simp only [eRet, eBin, eBlt, eCons, eNil, eLoc, eK, Out.vb, Out.vsb, List.getElem?_cons_zero, List.getElem?_cons_succ, i1', m2 _ _ e0 e1, bIntX, bInt, oMod, oDiv, c2, c3, c4, if_true, and_self, h0]
theorem cut_ints (ns : List Int) (lo hi : Option Int) : ∃ ms : List Int, cutW (ns.map W.int) lo hi = ms.map W.int := by
  unfold cutW
  rw [List.length_map]
  exact ⟨(ns.drop (HT.sIx ns.length 0 lo)).take (HT.sIx ns.length ns.length hi - HT.sIx ns.length 0 lo), by rw [List.map_take, List.map_drop]⟩
theorem cut_len (ws : List W) (lo hi : Option Int) : (cutW ws lo hi).length ≤ ws.length := by
  unfold cutW
  rw [List.length_take, List.length_drop]
  omega
theorem pool_ok {n : Nat} {k : Int} {h : IH} {ns : List Int} (hn : h[n]? = some (.rol (ns.map W.int))) (hl : ns.length ≤ 63) (h0 : 0 ≤ k) (h1 : k ≤ 1000) :
    ∃ l1 l3 a b, flats l1 = true ∧ flats l3 = true ∧ 0 ≤ a ∧ 0 ≤ b ∧ b < 2147483647 ∧ fnOf 2 5 poolB [.ref n, .int k] h = .v (.ref (h.length + 3)) (h ++ [.lst l1, .lst [.int 0], .lst l3, .lst [.int a, .int b]]) := by
  obtain ⟨ms, em⟩ := cut_ints ns (some k) (some (k + 1))
  have ml : ms.length ≤ 63 := by
    have := cut_len (ns.map W.int) (some k) (some (k + 1))
    rw [em, List.length_map, List.length_map] at this
    omega
  obtain ⟨c, ec⟩ : ∃ c : Int, ∀ g, ixW (ms.map W.int ++ [.int 0]) 0 g = .v (.int c) g := by
    cases ms with
    | nil => exact ⟨0, fun _ => rfl⟩
    | cons x xs => exact ⟨x, fun g => by
      unfold ixW L2.atI L2.ixN
      rw [if_pos (by omega), if_pos (by simp; omega)]
      rfl⟩
  have sl : slots 5 [.ref n, .int k] = [some (.ref n), some (.int k), none, none, none] := rfl
  have x1 : oSl (.ref n) (some k) (some (k + 1)) h = .v (.ref h.length) (h ++ [.lst (ms.map W.int)]) := by simp only [oSl, hn, em]
  let h2 : IH := h ++ [.lst (ms.map W.int)] ++ [.lst [.int 0]]
  have x2 : oAdd (.ref h.length) (.ref (h ++ [IO.lst (ms.map W.int)]).length) h2 = .v (.ref h2.length) (h2 ++ [.lst (ms.map W.int ++ [.int 0])]) := by
    have a1 : h2[h.length]? = some (.lst (ms.map W.int)) := by simp [h2]
    have a2 : h2[(h ++ [IO.lst (ms.map W.int)]).length]? = some (.lst [.int 0]) := by simp [h2]
    simp only [oAdd, a1, a2]
    rw [if_pos (by simp; omega)]
  have x3 : oIx (.ref h2.length) (.int 0) (h2 ++ [.lst (ms.map W.int ++ [.int 0])]) = .v (.int c) (h2 ++ [.lst (ms.map W.int ++ [.int 0])]) := by
    have a1 : (h2 ++ [IO.lst (ms.map W.int ++ [.int 0])])[h2.length]? = some (.lst (ms.map W.int ++ [.int 0])) := by simp
    simp only [oIx, a1]
    exact ec _
  let h3 : IH := h2 ++ [.lst (ms.map W.int ++ [.int 0])]
  obtain ⟨u, hu, eu⟩ : ∃ u : Int, 0 ≤ u ∧ (if decide (0 ≤ c) = true then c else -1 - c) = u := ⟨_, by split <;> simp_all <;> omega, rfl⟩
  have km : k * k ≤ 1000000 := Int.le_trans (Int.mul_le_mul h1 h1 h0 (by decide)) (by decide)
  have km0 : 0 ≤ k * k := Int.mul_nonneg h0 h0
  have r0 : 0 ≤ u % 2147483629 := Int.emod_nonneg _ (by decide)
  have r1 : u % 2147483629 < 2147483629 := Int.emod_lt_of_pos _ (by decide)
  let M : Int := (u % 2147483629 + 7919 * k * k + 31 * k + 17) * 48271 % 2147483647
  have M0 : 0 ≤ M := Int.emod_nonneg _ (by decide)
  have M1 : M < 2147483647 := Int.emod_lt_of_pos _ (by decide)
  have mul : ∀ (i j : Int) (g : IH), mulOk i j = true → oMulX (.int i) (.int j) g = .v (.int (i * j)) g := fun i j g z => by
    show (if mulOk i j = true then _ else _) = _
    rw [if_pos z]
  refine ⟨ms.map W.int, ms.map W.int ++ [.int 0], u * (if decide ((10 : Int) ^ 18 ≤ u) = true then 1 else 0), M * M % 2147483629, flats_ints ms, flats_app (flats_ints ms) rfl, ?_, Int.emod_nonneg _ (by decide), Int.lt_of_lt_of_le (Int.emod_lt_of_pos _ (by decide)) (by decide), ?_⟩
  · split <;> omega
  · have w1 : oMulX (.int 7919) (.int k) h3 = .v (.int (7919 * k)) h3 := mul _ _ _ (by unfold mulOk; simp)
    have w2 : oMulX (.int (7919 * k)) (.int k) h3 = .v (.int (7919 * k * k)) h3 := mul _ _ _ (by unfold mulOk; simp; omega)
    have w3 : oMulX (.int 31) (.int k) h3 = .v (.int (31 * k)) h3 := mul _ _ _ (by unfold mulOk; simp)
    have w4 : ∀ i : Int, oMulX (.int i) (.int 48271) h3 = .v (.int (i * 48271)) h3 := fun i => mul _ _ _ (by unfold mulOk; simp)
    have w5 : oMulX (.int M) (.int M) h3 = .v (.int (M * M)) h3 := mul _ _ _ (by unfold mulOk; simp; omega)
    have w6 : oMulX (.int u) (.int (if decide ((10 : Int) ^ 18 ≤ u) = true then 1 else 0)) h3 = .v (.int (u * (if decide ((10 : Int) ^ 18 ≤ u) = true then 1 else 0))) h3 := mul _ _ _ (by unfold mulOk; split <;> simp)
    have c1 : (0 : Int) < 2147483647 := by decide
    have c2 : (0 : Int) < 2147483629 := by decide
    have pw : oPow (.int 10) (.int 18) h3 = .v (.int (10 ^ 18)) h3 := rfl
    have ifs : (match (W.bl (decide (0 ≤ c))) with | .bl true => Out.v (.int c) h3 | .bl false => .v (.int (-1 - c)) h3 | _ => .no) = Out.v (.int u) h3 := by
      rw [← eu]
      by_cases z : 0 ≤ c <;> simp [z]
    have ifs2 : eIf (eBin oGe (eLoc 2) (eK (.int 0))) (eLoc 2) (eBin oSub (eNeg (eK (.int 1))) (eLoc 2)) [some (.ref n), some (.int k), some (.int c), none, none] h3 = .v (.int u) h3 := by
      rw [← ifs]
      by_cases z : 0 ≤ c
      · simp only [eIf, eBin, eLoc, eK, Out.vb, List.getElem?_cons_zero, List.getElem?_cons_succ, oGe, z, decide_true]
      · simp only [eIf, eBin, eLoc, eK, Out.vb, List.getElem?_cons_zero, List.getElem?_cons_succ, oGe, z, decide_false, eNeg, oSub]
    have first : eBin oIx (eBin oAdd (eSl (eLoc 0) (eInt (eLoc 1)) (eInt (eBin oAdd (eLoc 1) (eK (.int 1))))) (eLst (eCons (eK (.int 0)) eNil))) (eK (.int 0)) [some (.ref n), some (.int k), none, none, none] h = .v (.int c) h3 := by
      have y2 : oAdd (.int k) (.int 1) h = .v (.int (k + 1)) h := rfl
      have y3 : (1 : Nat) ≤ 16777216 := by decide
      simp only [eBin, eSl, eLoc, eInt, eK, Out.vb, Out.pb, pm, W.part, List.getElem?_cons_zero, List.getElem?_cons_succ, y2, x1, eLst, eCons, eNil, Out.vsb, List.length_cons, List.length_nil, Nat.zero_add, y3, if_true]
      simp only [h2] at x2
      simp only [x2]
      simp only [h2] at x3
      simp only [x3]
      rfl
    simp only [fnOf, poolB, List.length_cons, List.length_nil, Nat.zero_add, if_true, sl]
    simp only [eSeq, eAsg, first, Out.vb, Out.nb, gN, List.set_cons_succ, List.set_cons_zero, ifs2]
    simp only [eBin, eBlt, eCons, eNil, eLoc, eK, Out.vb, Out.vsb, Out.nb, gN, List.getElem?_cons_zero, List.getElem?_cons_succ, oMod, c1, c2, if_true, w1, w2, w3, oAdd, bIntX, bInt, w4, List.set_cons_succ, List.set_cons_zero, eRet, eLst, oGe, pw, w6]
    simp only [M] at w5
    simp only [w5, c2, if_true, Out.vsb, Out.vb, List.length_cons, List.length_nil, Out.fin]
    simp only [h3, h2, M]
    simp [List.append_assoc]
end Dr
set_option maxHeartbeats 2000000
namespace Dr
open PySem L2
/-! ### what an applied text comes to, for simp -/
section
variable {w : W} {ws : List W} {h : IH} {s σ : Sg} {c : Nat}
@[simp] theorem vb_v {k : W → IH → Out} : Out.vb (.v w h) k = k w h := rfl
@[simp] theorem vb_ex {k : W → IH → Out} : Out.vb (.ex c w s h) k = .ex c w s h := rfl
@[simp] theorem vb_no {k : W → IH → Out} : Out.vb .no k = .no := rfl
@[simp] theorem vsb_vs {k : List W → IH → Out} : Out.vsb (.vs ws h) k = k ws h := rfl
@[simp] theorem vsb_ex {k : List W → IH → Out} : Out.vsb (.ex c w s h) k = .ex c w s h := rfl
@[simp] theorem nb_nx {k : Sg → IH → Out} : Out.nb (.nx s h) k = k s h := rfl
@[simp] theorem nb_rt {k : Sg → IH → Out} : Out.nb (.rt w h) k = .rt w h := rfl
@[simp] theorem nb_bk {k : Sg → IH → Out} : Out.nb (.bk s h) k = .bk s h := rfl
@[simp] theorem nb_ct {k : Sg → IH → Out} : Out.nb (.ct s h) k = .ct s h := rfl
@[simp] theorem nb_ex {k : Sg → IH → Out} : Out.nb (.ex c w s h) k = .ex c w s h := rfl
@[simp] theorem fin_rt : Out.fin (.rt w h) = .v w h := rfl
@[simp] theorem fin_nx : Out.fin (.nx s h) = .v .non h := rfl
@[simp] theorem fin_ex : Out.fin (.ex c w s h) = .ex c w s h := rfl
@[simp] theorem cb_v : Out.cb σ (.v w h) = .v w h := rfl
@[simp] theorem cb_ex : Out.cb σ (.ex c w s h) = .ex c w σ h := rfl
@[simp] theorem pb_v {f : Option Int → IH → Out} : Out.pb (.v w h) f = pm f w h := rfl
@[simp] theorem pm_non {f : Option Int → IH → Out} : pm f .non h = f none h := rfl
@[simp] theorem pm_int {f : Option Int → IH → Out} {i : Int} : pm f (.int i) h = f (some i) h := rfl
@[simp] theorem gN_ap {i : Nat} : gN i w σ = some (σ.set i (some w)) := rfl
def locO (o : Option (Option W)) (h : IH) : Out := match o with | some (some w) => .v w h | _ => .no
@[simp] theorem locO_s : locO (some (some w)) h = .v w h := rfl
@[simp] theorem eLoc_ap {i : Nat} : eLoc i σ h = locO σ[i]? h := rfl
@[simp] theorem oAdd_int {i j : Int} : oAdd (.int i) (.int j) h = .v (.int (i + j)) h := rfl
@[simp] theorem oSub_int {i j : Int} : oSub (.int i) (.int j) h = .v (.int (i - j)) h := rfl
@[simp] theorem oLt_int {i j : Int} : oLt (.int i) (.int j) h = .v (.bl (decide (i < j))) h := rfl
@[simp] theorem oLe_int {i j : Int} : oLe (.int i) (.int j) h = .v (.bl (decide (i ≤ j))) h := rfl
@[simp] theorem oGt_int {i j : Int} : oGt (.int i) (.int j) h = .v (.bl (decide (j < i))) h := rfl
@[simp] theorem oGe_int {i j : Int} : oGe (.int i) (.int j) h = .v (.bl (decide (j ≤ i))) h := rfl
@[simp] theorem bIntX_int {i : Int} : bIntX [.int i] h = .v (.int i) h := rfl
@[simp] theorem bIntX_bl {q : Bool} : bIntX [.bl q] h = .v (.int (if q then 1 else 0)) h := rfl
@[simp] theorem bMin_int {i j : Int} : bMin [.int i, .int j] h = .v (.int (if j < i then j else i)) h := rfl
@[simp] theorem bMax_int {i j : Int} : bMax [.int i, .int j] h = .v (.int (if j > i then j else i)) h := rfl
end
@[simp] theorem eK_ap  {w : W} {σ : Sg} {h : IH} : eK w σ h = (.v w h) := rfl
@[simp] theorem eBin_ap  {g : W → W → IH → Out} {a b : Ev} {σ : Sg} {h : IH} : eBin g a b σ h = ((a σ h).vb fun x h1 => (b σ h1).vb fun y h2 => g x y h2) := rfl
@[simp] theorem eAnd_ap  {a b : Ev} {σ : Sg} {h : IH} : eAnd a b σ h = ((a σ h).vb fun x h1 => match x with | .bl true => b σ h1 | .bl false => .v (.bl false) h1 | _ => .no) := rfl
@[simp] theorem eOr_ap  {a b : Ev} {σ : Sg} {h : IH} : eOr a b σ h = ((a σ h).vb fun x h1 => match x with | .bl true => .v (.bl true) h1 | .bl false => b σ h1 | _ => .no) := rfl
@[simp] theorem eNot_ap  {a : Ev} {σ : Sg} {h : IH} : eNot a σ h = ((a σ h).vb fun x h1 => match x with | .bl q => .v (.bl (!q)) h1 | _ => .no) := rfl
@[simp] theorem eIf_ap  {c a b : Ev} {σ : Sg} {h : IH} : eIf c a b σ h = ((c σ h).vb fun x h1 => match x with | .bl true => a σ h1 | .bl false => b σ h1 | _ => .no) := rfl
@[simp] theorem eNil_ap  {σ : Sg} {h : IH} : eNil  σ h = (.vs [] h) := rfl
@[simp] theorem eCons_ap  {a r : Ev} {σ : Sg} {h : IH} : eCons a r σ h = ((a σ h).vb fun x h1 => (r σ h1).vsb fun xs h2 => .vs (x :: xs) h2) := rfl
@[simp] theorem eStar_ap  {a r : Ev} {σ : Sg} {h : IH} : eStar a r σ h = ((a σ h).vb fun x h1 => match x with
  | .tup xs => (r σ h1).vsb fun ys h2 => .vs (xs ++ ys) h2
  | .ref n => match h1[n]? with
    | some (.lst xs) => (r σ h1).vsb fun ys h2 => .vs (xs ++ ys) h2
    | _ => .no
  | _ => .no) := rfl
@[simp] theorem eLst_ap  {r : Ev} {σ : Sg} {h : IH} : eLst r σ h = ((r σ h).vsb fun ws h1 => if ws.length ≤ 16777216 then .v (.ref h1.length) (h1 ++ [.lst ws]) else .no) := rfl
@[simp] theorem eTup_ap  {r : Ev} {σ : Sg} {h : IH} : eTup r σ h = ((r σ h).vsb fun ws h1 => if ws.length ≤ 16777216 then .v (.tup ws) h1 else .no) := rfl
@[simp] theorem eInt_ap  {a : Ev} {σ : Sg} {h : IH} : eInt a σ h = ((a σ h).vb fun x h1 => match x with | .int i => .v (.int i) h1 | _ => .no) := rfl
@[simp] theorem eSl_ap  {a l u : Ev} {σ : Sg} {h : IH} : eSl a l u σ h = ((a σ h).vb fun x h1 => (l σ h1).pb fun lo h2 => (u σ h2).pb fun hi h3 => oSl x lo hi h3) := rfl
@[simp] theorem eEnd_ap  {σ : Sg} {h : IH} : eEnd  σ h = (.nx σ h) := rfl
@[simp] theorem eSeq_ap  {a b : Ev} {σ : Sg} {h : IH} : eSeq a b σ h = ((a σ h).nb b) := rfl
@[simp] theorem eDrop_ap  {a : Ev} {σ : Sg} {h : IH} : eDrop a σ h = ((a σ h).vb fun _ h1 => .nx σ h1) := rfl
@[simp] theorem eRet_ap  {a : Ev} {σ : Sg} {h : IH} : eRet a σ h = ((a σ h).vb fun w h1 => .rt w h1) := rfl
@[simp] theorem eRetN_ap  {σ : Sg} {h : IH} : eRetN  σ h = (.rt .non h) := rfl
@[simp] theorem eBrk_ap  {σ : Sg} {h : IH} : eBrk  σ h = (.bk σ h) := rfl
@[simp] theorem eCnt_ap  {σ : Sg} {h : IH} : eCnt  σ h = (.ct σ h) := rfl
@[simp] theorem eIfS_ap  {c a b : Ev} {σ : Sg} {h : IH} : eIfS c a b σ h = ((c σ h).vb fun x h1 => match x with | .bl true => a σ h1 | .bl false => b σ h1 | _ => .no) := rfl
@[simp] theorem eAsg_ap  {g : Tg} {a : Ev} {σ : Sg} {h : IH} : eAsg g a σ h = ((a σ h).vb fun w h1 => match g w σ with | some σ' => .nx σ' h1 | none => .no) := rfl
@[simp] theorem eAug_ap  {i : Nat} {g : W → W → IH → Out} {a : Ev} {σ : Sg} {h : IH} : eAug i g a σ h = (match σ[i]? with
  | some (some x) => (a σ h).vb fun y h1 => (g x y h1).vb fun z h2 => .nx (σ.set i (some z)) h2
  | _ => .no) := rfl
@[simp] theorem eYes_ap  {σ : Sg} {h : IH} : eYes  σ h = (.v (.bl true) h) := rfl
@[simp] theorem eCall_ap  {fn : Fn} {dw : List W} {r : Ev} {σ : Sg} {h : IH} : eCall fn dw r σ h = ((r σ h).vsb fun ws h1 => (fn (ws ++ dw) h1).cb σ) := rfl
@[simp] theorem eFld_ap  {cs : List Nat} {f : Str} {a : Ev} {σ : Sg} {h : IH} : eFld cs f a σ h = ((a σ h).vb (fldAt cs f)) := rfl
@[simp] theorem eSetF_ap  {cs : List Nat} {f : Str} {o a : Ev} {σ : Sg} {h : IH} : eSetF cs f o a σ h = ((a σ h).vb fun y h1 => (o σ h1).vb fun x h2 => setAt cs f x y σ h2) := rfl
@[simp] theorem eAugF_ap  {cs : List Nat} {f : Str} {o a : Ev} {σ : Sg} {h : IH} : eAugF cs f o a σ h = ((o σ h).vb fun x h1 => augAt cs f x h1 fun c u => (a σ h1).vb fun y h2 => (oAddI u y h2).vb fun z h3 => setAt [c] f x z σ h3) := rfl
@[simp] theorem eMeth_ap  {nm : Str} {tbl : Nat → Option (Fn × List W)} {o r : Ev} {σ : Sg} {h : IH} : eMeth nm tbl o r σ h = ((o σ h).vb fun x h1 => recv nm tbl x h1 fun fn dw => (r σ h1).vsb fun ws h2 => (fn (x :: ws ++ dw) h2).cb σ) := rfl
@[simp] theorem eSetI_ap  {o i a : Ev} {σ : Sg} {h : IH} : eSetI o i a σ h = ((a σ h).vb fun y h1 => (o σ h1).vb fun x h2 => (i σ h2).vb fun z h3 => oSetI x z y σ h3) := rfl
@[simp] theorem eBlt_ap  {g : Fn} {r : Ev} {σ : Sg} {h : IH} : eBlt g r σ h = ((r σ h).vsb fun ws h1 => g ws h1) := rfl
@[simp] theorem eSlot_ap  {c i : Nat} {a : Ev} {σ : Sg} {h : IH} : eSlot c i a σ h = ((a σ h).vb (slotAt c i)) := rfl
@[simp] theorem eSetS_ap  {c i : Nat} {o a : Ev} {σ : Sg} {h : IH} : eSetS c i o a σ h = ((a σ h).vb fun y h1 => (o σ h1).vb fun x h2 => setSlot c i x y σ h2) := rfl
@[simp] theorem eMethS_ap  {c : Nat} {fn : Fn} {dw : List W} {o r : Ev} {σ : Sg} {h : IH} : eMethS c fn dw o r σ h = ((o σ h).vb fun x h1 => recvS c x h1 ((r σ h1).vsb fun ws h2 => (fn (x :: ws ++ dw) h2).cb σ)) := rfl
@[simp] theorem eNew_ap  {sl : Bool} {c : Nat} {fn : Fn} {dw : List W} {r : Ev} {σ : Sg} {h : IH} : eNew sl c fn dw r σ h = ((r σ h).vsb fun ws h1 => match fn (.ref h1.length :: ws ++ dw) (h1 ++ [newObj sl c]) with
  | .v .non h2 => .v (.ref h1.length) h2
  | .ex c w _ h2 => .ex c w σ h2
  | _ => .no) := rfl
@[simp] theorem eRaise_ap  {c : Nat} {a : Ev} {σ : Sg} {h : IH} : eRaise c a σ h = ((a σ h).vb fun w h1 => .ex c w σ h1) := rfl
@[simp] theorem eBM_ap  {T : String} {g : W → List W → IH → Out} {o r : Ev} {σ : Sg} {h : IH} : eBM T g o r σ h = ((o σ h).vb fun x h1 => if tyW T x h1 = true then (r σ h1).vsb fun ws h2 => g x ws h2 else .no) := rfl
@[simp] theorem eNeg_ap  {a : Ev} {σ : Sg} {h : IH} : eNeg a σ h = ((a σ h).vb fun x h1 => match x with | .int i => .v (.int (-i)) h1 | _ => .no) := rfl
@[simp] theorem eChain_ap  {g g' : W → W → IH → Out} {a b c : Ev} {σ : Sg} {h : IH} : eChain g g' a b c σ h = ((a σ h).vb fun x h1 => (b σ h1).vb fun y h2 => (g x y h2).vb fun z h3 => match z with
  | .bl true => (c σ h3).vb fun w h4 => g' y w h4
  | .bl false => .v (.bl false) h3
  | _ => .no) := rfl
@[simp] theorem ePar_ap  {i j : Nat} {r : Ev} {σ : Sg} {h : IH} : ePar i j r σ h = (match r σ h with
  | .vs [v, w] h1 => .nx ((σ.set i (some v)).set j (some w)) h1
  | .ex c w s h => .ex c w s h
  | _ => .no) := rfl
@[simp] theorem eFmt_ap  {a : Ev} {σ : Sg} {h : IH} : eFmt a σ h = ((a σ h).vb fmtW) := rfl
@[simp] theorem eTry_ap  {i : Nat} {b : Ev} {hs : List Hd} {σ : Sg} {h : IH} : eTry i b hs σ h = (match b σ h with
  | .ex c w s h' => runH i hs c w s h'
  | o => o) := rfl
@[simp] theorem eIsi_ap  {t : Kd → Bool} {a : Ev} {σ : Sg} {h : IH} : eIsi t a σ h = ((a σ h).vb fun x h1 => match tgOf x h1 with
  | some g => .v (.bl (t g)) h1
  | none => .no) := rfl
@[simp] theorem eXf_ap  {i : Nat} {t : Nat → Bool} {c : Nat} {w : W} {σ : Sg} {h : IH} : eXf i t c w σ h = (if t c = true ∧ holds0 σ i = true then .v w h else .no) := rfl
@[simp] theorem eXi_ap  {i : Nat} {t : Nat → Option Bool} {c : Nat} {σ : Sg} {h : IH} : eXi i t c σ h = (if holds0 σ i = true then (match t c with | some b => .v (.bl b) h | none => .no) else .no) := rfl
@[simp] theorem eDic0_ap  {σ : Sg} {h : IH} : eDic0  σ h = (.v (.ref h.length) (h ++ [.dic []])) := rfl
@[simp] theorem eMatch_ap  {a : Ev} {cs : List (List Str × Ev)} {σ : Sg} {h : IH} : eMatch a cs σ h = ((a σ h).vb fun x h1 => match x with
  | .str z => runM cs z σ h1
  | _ => .no) := rfl
@[simp] theorem eOrV_ap  {a b : Ev} {σ : Sg} {h : IH} : eOrV a b σ h = ((a σ h).vb fun x h1 => match x with
  | .str z => if z.length = 0 then b σ h1 else if z.length ≤ 16777216 then .v (.str z) h1 else .no
  | .non => b σ h1
  | _ => .no) := rfl
end Dr
set_option maxHeartbeats 2000000
namespace Dr
open PySem L2
/-! ### keys of dicts -/
def eqK : Key → Key → Bool
  | .inl i, .inl j => decide (i = j)
  | .inr a, .inr b => eqS a b
  | _, _ => false
theorem eqK_eq : ∀ a b : Key, eqK a b = decide (a = b)
  | .inl i, .inl j => by unfold eqK; simp
  | .inr a, .inr b => by show eqS a b = _; rw [eqS_eq]; simp
  | .inl _, .inr _ => by unfold eqK; simp
  | .inr _, .inl _ => by unfold eqK; simp
def keyW : W → Option Key
  | .int i => some (.inl i)
  | .str z => some (.inr z)
  | _ => none
def valW : List (Key × W) → Key → Option W
  | [], _ => none
  | (j, w) :: r, k => if eqK j k = true then some w else valW r k
def putKW (kvs : List (Key × W)) (k : Key) (w : W) : List (Key × W) :=
  if (kvs.any fun kv => eqK kv.1 k) = true then kvs.map (fun kv => if eqK kv.1 k = true then (kv.1, w) else kv) else kvs ++ [(k, w)]
section
variable {K : PySem.W.Frag} {cl m : Nat → Addr} {L : Nat} {H : Hp}
theorem RK.any {ks : List (Key × W)} {vs : List (Key × V)} (r : RK K cl m L H ks vs) (k : Key) : (ks.any fun kv => eqK kv.1 k) = (vs.any fun kv => decide (kv.1 = k)) := by
  induction r with
  | nil => rfl
  | cons a _ ih => rw [List.any_cons, List.any_cons, ih, eqK_eq]
theorem RK.val {ks : List (Key × W)} {vs : List (Key × V)} (r : RK K cl m L H ks vs) (k : Key) : (valW ks k = none ∧ valV vs k = none) ∨ ∃ w v, valW ks k = some w ∧ valV vs k = some v ∧ RW K cl m L H w v := by
  induction r with
  | nil => exact .inl ⟨rfl, rfl⟩
  | @cons f w v ws vs a b ih =>
    by_cases e : f = k
    · exact .inr ⟨w, v, by unfold valW; rw [eqK_eq, if_pos (decide_eq_true e)], valV_pos e, a⟩
    · rw [valV_neg e]
      unfold valW
      rw [eqK_eq, if_neg (by simpa using e)]
      exact ih
theorem RK.put {ks : List (Key × W)} {vs : List (Key × V)} {k : Key} {w : W} {v : V} (r : RK K cl m L H ks vs) (a : RW K cl m L H w v) : RK K cl m L H (putKW ks k w) (putK vs k v) := by
  unfold putKW putK
  rw [r.any]
  have mp : RK K cl m L H (ks.map fun kv => if eqK kv.1 k = true then (kv.1, w) else kv) (vs.map fun kv => if kv.1 = k then (kv.1, v) else kv) := by
    induction r with
    | nil => exact .nil
    | @cons f w' v' ws vs b _ ih =>
      rw [List.map_cons, List.map_cons]
      by_cases e : f = k
      · rw [if_pos (show eqK f k = true by rw [eqK_eq]; exact decide_eq_true e), if_pos e]
        exact .cons a ih
      · rw [if_neg (show ¬ eqK f k = true by rw [eqK_eq]; simpa using e), if_neg e]
        exact .cons b ih
  have ap : RK K cl m L H (ks ++ [(k, w)]) (vs ++ [(k, v)]) := by
    clear mp
    induction r with
    | nil => exact .cons a .nil
    | cons b _ ih => exact .cons b ih
  split
  · exact mp
  · exact ap
theorem RK.len {ks : List (Key × W)} {vs : List (Key × V)} (r : RK K cl m L H ks vs) : ks.length = vs.length := by
  induction r with
  | nil => rfl
  | cons _ _ ih => simp [ih]
theorem keyW_of {w : W} {v : V} {k : Key} (r : RW K cl m L H w v) (e : keyW w = some k) : v = kV k := by
  cases r <;> cases e <;> rfl
end
section
variable {G : Cfg} {X : Cx} {Z : WX} {k : Nat} {a b c : Ev} {ea eb ec : Expr} {pos : Pos} {st : Stmt} {sts sts' : List Stmt}
theorem Fit.u1 (F : Fit G X Z k) : X.A.units + 1 < cLine := by have := F.room.un; omega
/-! ### in -/
theorem op_inDk (hu : X.A.units + 1 < cLine) : OpR X (compareOp .In) (fun y x H Q => ∃ a o, x = .ref a ∧ DGet H a y o ∧ Q (.bl o.isSome) H) := by
  intro pins s σ H y x v u Q I ry rx h
  obtain ⟨a, o, rfl, g, q⟩ := h
  obtain rfl : u = Value.ref a := rx
  exact d_in hu I g ry fun s' I' => ⟨.bl _, H, I', rfl, q⟩
theorem op_notInDk (hu : X.A.units + 1 < cLine) : OpR X (compareOp .NotIn) (fun y x H Q => ∃ a o, x = .ref a ∧ DGet H a y o ∧ Q (.bl (!o.isSome)) H) := by
  intro pins s σ H y x v u Q I ry rx h
  obtain ⟨a, o, rfl, g, q⟩ := h
  obtain rfl : u = Value.ref a := rx
  exact d_notIn hu I g ry fun s' I' => ⟨.bl _, H, I', rfl, q⟩
def subS (z s : Str) : Bool := !(Builtin.Str.occurrences z s 0 z.length 1).isEmpty
def inMore (x y : W) (h : IH) : Option Bool := match y with
  | .str z => (match x with | .str s => some (subS z s) | _ => none)
  | .ref n => (match h[n]? with
    | some (.dic kvs) => (match keyW x with | some k => some (valW kvs k).isSome | none => none)
    | _ => none)
  | _ => none
def isInX (x y : W) (h : IH) : Option Bool := match isIn x y h with | some b => some b | none => inMore x y h
def oInX (x y : W) (h : IH) : Out := match isInX x y h with | some b => .v (.bl b) h | none => .no
def oNotInX (x y : W) (h : IH) : Out := match isInX x y h with | some b => .v (.bl (!b)) h | none => .no
theorem inMore_cases {m : Nat → Addr} {h : IH} {H : Hp} {x y : W} {vx vy : V} {q : Bool} (R : Rep G.K G.cl m h H) (rx : RW G.K G.cl m h.length H x vx) (ry : RW G.K G.cl m h.length H y vy) (e : inMore x y h = some q) :
    (∃ s z, vx = .str s ∧ vy = .str z ∧ q = subS z s) ∨ ∃ a o, vy = .ref a ∧ DGet H a vx o ∧ q = o.isSome := by
  unfold inMore at e
  split at e
  · split at e
    · cases e
      cases rx; cases ry
      exact .inl ⟨_, _, rfl, rfl, rfl⟩
    · cases e
  · rename_i n
    split at e
    · rename_i kvs hn
      split at e
      · rename_i k hk
        cases e
        obtain ⟨vs, hx, rk⟩ := R.obj n _ hn
        cases ry
        rw [keyW_of rx hk]
        refine .inr ⟨_, _, rfl, DGet.k hx, ?_⟩
        rcases rk.val k with ⟨z1, z2⟩ | ⟨w, v, z1, z2, _⟩ <;> rw [z1, z2] <;> rfl
      · cases e
    · cases e
  · cases e
theorem so_inX (F : Fit G X Z k) : SO G X (compareOp .In) oInX := .mk fun m h H x y vx vy Z' Q R rx ry P => by
  cases e : isIn x y h with
  | some b =>
    have e2 : oInX x y h = oIn x y h := by unfold oInX oIn isInX; rw [e]
    rw [e2] at P
    exact so_in F m h H x y vx vy Z' Q R rx ry P
  | none =>
    unfold oInX isInX at P
    rw [e] at P
    simp only at P
    cases e2 : inMore x y h with
    | none => rw [e2] at P; exact P.elim
    | some q =>
      rw [e2] at P
      have hq := P m H _ Ext.refl R (.bl q)
      rcases inMore_cases R rx ry e2 with ⟨s, z, rfl, rfl, rfl⟩ | ⟨a, o, rfl, g, rfl⟩
      · exact ⟨_, op_in_str, s, z, rfl, rfl, hq⟩
      · exact ⟨_, op_inDk F.u1, a, o, rfl, g, hq⟩
theorem so_notInX (F : Fit G X Z k) : SO G X (compareOp .NotIn) oNotInX := .mk fun m h H x y vx vy Z' Q R rx ry P => by
  cases e : isIn x y h with
  | some b =>
    have e2 : oNotInX x y h = oNotIn x y h := by unfold oNotInX oNotIn isInX; rw [e]
    rw [e2] at P
    exact so_notIn F m h H x y vx vy Z' Q R rx ry P
  | none =>
    unfold oNotInX isInX at P
    rw [e] at P
    simp only at P
    cases e2 : inMore x y h with
    | none => rw [e2] at P; exact P.elim
    | some q =>
      rw [e2] at P
      have hq := P m H _ Ext.refl R (.bl (!q))
      rcases inMore_cases R rx ry e2 with ⟨s, z, rfl, rfl, rfl⟩ | ⟨a, o, rfl, g, rfl⟩
      · exact ⟨_, op_notIn_str, s, z, rfl, rfl, hq⟩
      · exact ⟨_, op_notInDk F.u1, a, o, rfl, g, hq⟩
/-! ### d[k] -/
theorem ix_dk (hu : X.A.units + 1 < cLine) : IxR X (fun x y H Q => ∃ a v, x = .ref a ∧ DGet H a y (some v) ∧ Q v H) := by
  intro value slice pins s σ H x y v u Q I rx ry h hs
  obtain ⟨p, r, rfl, g, q⟩ := h
  obtain rfl : v = Value.ref p := rx
  exact PyProof.Rows.tail_any (dict_typeIs I g) PySem.F.slot_dict_getitem.lookup (d_getItem hu I g ry fun w' s' I' rw' => ⟨r, H, I', rw', q⟩) hs
def oIxX (x y : W) (h : IH) : Out := match x with
  | .ref n => (match h[n]? with
    | some (.dic kvs) => (match keyW y with | some k => (match valW kvs k with | some w => .v w h | none => .no) | none => .no)
    | _ => oIx x y h)
  | _ => oIx x y h
theorem ix_go {m : Nat → Addr} {h : IH} {H : Hp} {x y : W} {v1 v2 : V} {Q : VK} (F : Fit G X Z k) (R : Rep G.K G.cl m h H) (r1 : RW G.K G.cl m h.length H x v1) (r2 : RW G.K G.cl m h.length H y v2) (P : PoE G m h.length H Z Q (oIx x y h)) : WIx X v1 v2 H Q := by
  cases r1 <;> cases r2 <;> first | exact P.elim | skip
  · rename_i z i
    simp only [oIx] at P
    split at P
    · rename_i q
      split at P
      · rename_i d e
        exact ⟨_, ix_str, _, _, _, rfl, rfl, by rw [lineSz]; exact q, e, P m H _ Ext.refl R (.str _)⟩
      · exact P.elim
    · exact P.elim
  · rename_i p vs ws hp hv i
    simp only [oIx, ixW] at P
    split at P
    · rename_i w e
      obtain ⟨v, f, rv⟩ := hv.atI e
      exact ⟨_, ix_tup, p, vs, i, v, rfl, rfl, F.K ▸ hp, f, P m H _ Ext.refl R rv⟩
    · exact P.elim
  · rename_i n hn i
    simp only [oIx] at P
    split at P
    · rename_i ws e
      obtain ⟨vs, hx, hv⟩ := R.obj n _ e
      simp only [ixW] at P
      split at P
      · rename_i w e
        obtain ⟨v, f, rv⟩ := hv.atI e
        exact ⟨_, ix_list, m n, vs, i, v, rfl, rfl, .inl (.inl hx), f, P m H _ Ext.refl R rv⟩
      · exact P.elim
    · rename_i ws e
      obtain ⟨vs, hx, hv⟩ := R.obj n _ e
      simp only [ixW] at P
      split at P
      · rename_i w e
        obtain ⟨v, f, rv⟩ := (hv m h.length H).atI e
        exact ⟨_, ix_list, m n, vs, i, v, rfl, rfl, F.K ▸ rol_sq hx, f, P m H _ Ext.refl R rv⟩
      · exact P.elim
    · exact P.elim
theorem s_ixX (F : Fit G X Z k) (ha : SE G X Z a ea) (hb : SE G X Z b eb) (hs : PlainIx eb := by exact fun _ _ => rfl) : SE G X Z (eBin oIxX a b) (.Subscript ea eb pos) := .mk fun m h H σ τ Q R S P => by
  refine WE.of (pe_ix ixM peM peM hs) (ha m h H σ τ _ R S (PoE.ee P fun x h1 m1 H1 v1 e1 R1 r1 P1 => ?_))
  refine hb m1 h1 H1 σ τ _ R1 (S.mono e1) (PoE.ee P1 fun y h2 m2 H2 v2 e2 R2 r2 P2 => ?_)
  have r1' := r1.mono e2
  unfold oIxX at P2
  split at P2
  · rename_i n
    split at P2
    · rename_i kvs hn
      split at P2
      · rename_i k hk
        split at P2
        · rename_i w hw
          obtain ⟨vs, hx, rk⟩ := R2.obj n _ hn
          cases r1'
          rw [keyW_of r2 hk]
          rcases rk.val k with ⟨z1, z2⟩ | ⟨w', v, z1, z2, rv⟩
          · rw [z1] at hw; cases hw
          · rw [z1] at hw; cases hw
            have g := DGet.k (k := k) hx
            rw [z2] at g
            exact ⟨_, ix_dk F.u1, _, v, rfl, g, P2 m2 H2 v Ext.refl R2 rv⟩
        · exact P2.elim
      · exact P2.elim
    · exact ix_go F R2 r1' r2 P2
  · exact ix_go F R2 r1' r2 P2
/-! ### d[k] = v -/
def WSt (X : Cx) : TSet := fun o i v H Q => ∃ t, PSet X t ∧ t o i v H Q
theorem psetM : PSet X (WSt X) := fun pins s σ H o i v ov iv u Q I ro ri rv h => let ⟨_, p, q⟩ := h; p pins s σ H o i v ov iv u Q I ro ri rv q
def oSetIX (x i y : W) (σ : Sg) (h : IH) : Out := match x with
  | .ref n => (match h[n]? with
    | some (.dic kvs) => (match keyW i with | some k => if kvs.length < 16777216 then .nx σ (h.set n (.dic (putKW kvs k y))) else .no | none => .no)
    | _ => oSetI x i y σ h)
  | _ => oSetI x i y σ h
def eSetIX (o i a : Ev) : Ev := fun σ h => (a σ h).vb fun y h1 => (o σ h1).vb fun x h2 => (i σ h2).vb fun z h3 => oSetIX x z y σ h3
theorem set_go {m : Nat → Addr} {h : IH} {H : Hp} {x z y : W} {v2 v3 v1 : V} {σ : Sg} {τ : St} {D : Ends} (R : Rep G.K G.cl m h H) (S : RSt G m h.length H σ τ) (rx : RW G.K G.cl m h.length H x v2) (rz : RW G.K G.cl m h.length H z v3) (ry : RW G.K G.cl m h.length H y v1)
    (P : PoS G m h.length H Z D (oSetI x z y σ h)) : WSt X v2 v3 v1 H (fun H' => D.nx τ H') := by
  cases rx <;> cases rz <;> first | exact P.elim | skip
  rename_i n hn j
  unfold oSetI at P
  simp only at P
  split at P
  · rename_i ws e
    split at P
    · rename_i q eq
      obtain ⟨vs, hx, hv⟩ := R.obj n _ e
      refine ⟨_, set_list, m n, vs, j, q, rfl, rfl, hx, by rw [← hv.length]; exact eq, ?_⟩
      obtain ⟨R', E'⟩ := R.put (n := n) (o' := .lst (ws.set q y)) (u := .lst (vs.set q v1)) e (noTup_of hx (fun _ z => by cases z) (fun _ _ z => by cases z)) (fun ex => ⟨_, upd_same, (hv.set ry q).mono ex⟩)
      exact P m _ τ E' R' (S.mono E')
    · exact P.elim
  · exact P.elim
theorem v_setIX {o i : Ev} {eo ei : Expr} {pos' : Pos} (F : Fit G X Z k) (ho : SE G X Z o eo) (hi : SE G X Z i ei) (ha : SE G X Z a ea) (hs : swapsWithSole [.Subscript eo ei pos'] ea pos.line X.env = pure false := by rfl) (hw : swappedStores [.Subscript eo ei pos'] ea X.env = pure none := by rfl)
    (h1 : (assignEach [.Subscript eo ei pos'] X.env).map (·.2) = [assign (.Subscript eo ei pos') X.env] := by rfl)
    (hg : ∀ v, assign (.Subscript eo ei pos') X.env v = (do
      let ov ← holding [v] (eval eo X.env)
      let iv ← holding [v, ov] (eval ei X.env)
      standAt pos'
      holding [v, ov, iv] (setItem ov iv v)
      release [v, ov, iv] []) := by intro _; rfl) : SS G X Z (eSetIX o i a) (.Assign [.Subscript eo ei pos'] ea pos) := .mk fun m h H σ τ D R S P => by
  refine WS.of (ps_asg peM (pg_sub peM peM psetM hg) hs hw h1) (ha m h H σ τ _ R S (PoS.es P fun y h1 m1 H1 v1 e1 R1 r1 P1 => ?_))
  refine ho m1 h1 H1 σ τ _ R1 (S.mono e1) (PoS.es P1 fun x h2 m2 H2 v2 e2 R2 r2 P2 => ?_)
  refine hi m2 h2 H2 σ τ _ R2 ((S.mono e1).mono e2) (PoS.es P2 fun z h3 m3 H3 v3 e3 R3 r3 P3 => ?_)
  have S3 := ((S.mono e1).mono e2).mono e3
  have ry := (r1.mono e2).mono e3
  have rx := r2.mono e3
  clear P P1 P2 r1 r2
  unfold oSetIX at P3
  split at P3
  · rename_i n
    split at P3
    · rename_i kvs hn
      split at P3
      · rename_i k hk
        split at P3
        · rename_i ln
          obtain ⟨vs, hx, rk⟩ := R3.obj n _ hn
          cases rx
          rw [keyW_of r3 hk]
          refine ⟨_, set_dict F.u1, m3 n, _, rfl, DPut.k hx (by rw [← rk.len, lineSz]; exact ln), ?_⟩
          obtain ⟨R', E'⟩ := R3.put (n := n) (o' := .dic (putKW kvs k y)) (u := .dK (putK vs k v1)) hn (noTup_of hx (fun _ z => by cases z) (fun _ _ z => by cases z)) (fun ex => ⟨_, upd_same, (rk.put ry).mono ex⟩)
          exact P3 m3 _ τ E' R' (S3.mono E')
        · exact P3.elim
      · exact P3.elim
    · exact set_go R3 S3 rx r3 ry P3
  · exact set_go R3 S3 rx r3 ry P3
/-! ### d.get -/
theorem mt_get1 (hu : X.A.units + 1 < cLine) : MtR X "dict.get" (fun x xs H Q => ∃ a y o, x = .ref a ∧ xs = [y] ∧ DGet H a y o ∧ Q (o.getD .non) H) := by
  intro pins s σ H x xs v us Q I rx rs h
  obtain ⟨a, y, o, rfl, rfl, g, q⟩ := h
  cases rx
  cases rs with
  | cons r1 r2 => cases r2; exact d_get1 hu I g r1 fun w' s' I' rw' => ⟨_, H, I', rw', q⟩
theorem mt_get2 (hu : X.A.units + 1 < cLine) : MtR X "dict.get" (fun x xs H Q => ∃ a y d o, x = .ref a ∧ xs = [y, d] ∧ DGet H a y o ∧ Q (o.getD d) H) := by
  intro pins s σ H x xs v us Q I rx rs h
  obtain ⟨a, y, d, o, rfl, rfl, g, q⟩ := h
  cases rx
  cases rs with
  | cons r1 r2 =>
    cases r2 with
    | cons r2 r3 => cases r3; exact d_get2 hu I g r1 r2 fun w' s' I' rw' => ⟨_, H, I', rw', q⟩
def mGet (x : W) (ws : List W) (h : IH) : Out := match x with
  | .ref n => (match h[n]? with
    | some (.dic kvs) => (match ws with
      | [y] => (match keyW y with | some k => .v ((valW kvs k).getD .non) h | none => .no)
      | [y, d] => (match keyW y with | some k => .v ((valW kvs k).getD d) h | none => .no)
      | _ => .no)
    | _ => .no)
  | _ => .no
theorem m_get (F : Fit G X Z k) : SM G X "dict" "dict.get" mGet := .mk fun m h H x vx ws vs Z Q R rx r P => by
  unfold mGet at P
  split at P
  · rename_i n
    split at P
    · rename_i kvs hn
      obtain ⟨us, hx, rk⟩ := R.obj n _ hn
      cases rx
      split at P
      · rename_i y
        split at P
        · rename_i k hk
          cases r with
          | cons r1 r2 =>
            cases r2
            rw [keyW_of r1 hk]
            refine ⟨_, mt_get1 F.u1, m n, _, _, rfl, rfl, DGet.k hx, ?_⟩
            rcases rk.val k with ⟨z1, z2⟩ | ⟨w, v, z1, z2, rv⟩
            · rw [z1] at P; rw [z2]; exact P m H _ Ext.refl R .non
            · rw [z1] at P; rw [z2]; exact P m H _ Ext.refl R rv
        · exact P.elim
      · rename_i y d
        split at P
        · rename_i k hk
          cases r with
          | cons r1 r2 =>
            cases r2 with
            | cons r2 r3 =>
              cases r3
              rw [keyW_of r1 hk]
              refine ⟨_, mt_get2 F.u1, m n, _, _, _, rfl, rfl, DGet.k hx, ?_⟩
              rcases rk.val k with ⟨z1, z2⟩ | ⟨w, v, z1, z2, rv⟩
              · rw [z1] at P; rw [z2]; exact P m H _ Ext.refl R r2
              · rw [z1] at P; rw [z2]; exact P m H _ Ext.refl R rv
        · exact P.elim
      · exact P.elim
    · exact P.elim
  · exact P.elim
end
end Dr
set_option maxHeartbeats 2000000
namespace Dr
open PySem L2
section
variable {G : Cfg} {X : Cx} {Z : WX} {k : Nat} {a b c : Ev} {ea eb ec : Expr} {pos : Pos} {st : Stmt} {sts sts' : List Stmt}
/-! ### methods of texts -/
theorem RWs.strs {m : Nat → Addr} {L : Nat} {H : Hp} : ∀ ys : List Str, RWs G.K G.cl m L H (ys.map W.str) (ys.map V.str)
  | [] => .nil
  | y :: ys => .cons (.str y) (RWs.strs ys)
theorem RWs.ints {m : Nat → Addr} {L : Nat} {H : Hp} : ∀ ys : List Int, RWs G.K G.cl m L H (ys.map W.int) (ys.map V.int)
  | [] => .nil
  | y :: ys => .cons (.int y) (RWs.ints ys)
def strsOut (ys : List Str) (h : IH) : Out := .v (.ref h.length) (h ++ [.lst (ys.map W.str)])
def mSplit (x : W) (ws : List W) (h : IH) : Out := match x, ws with
  | .str a, [.str b] => if (b.length == 0) = false ∧ a.length + 2 ≤ 16777216 then strsOut (Txt.split a b) h else .no
  | .str a, [] => if a.length + 2 ≤ 16777216 then strsOut (Txt.words a) h else .no
  | _, _ => .no
theorem m_split : SM G X "str" "str.split" mSplit := .mk fun m h H x vx ws vs Z Q R rx r P => by
  unfold mSplit at P
  split at P
  · rename_i a b
    split at P
    · rename_i q
      cases rx
      cases r with
      | cons r1 r2 => cases r1; cases r2; exact ⟨_, mt_split, a, b, rfl, rfl, q.1, by rw [lineSz]; exact q.2, fun p hp => new_lst R hp (RWs.strs _) P⟩
    · exact P.elim
  · rename_i a
    split at P
    · rename_i q
      cases rx; cases r
      exact ⟨_, mt_words, a, rfl, rfl, by rw [lineSz]; exact q, fun p hp => new_lst R hp (RWs.strs _) P⟩
    · exact P.elim
  · exact P.elim
def mPart (x : W) (ws : List W) (h : IH) : Out := match x, ws with
  | .str a, [.str b] => if (b.length == 0) = false ∧ a.length ≤ 16777216 then .v (.tup [.str (Txt.partition a b).1, .str (Txt.partition a b).2.1, .str (Txt.partition a b).2.2]) h else .no
  | _, _ => .no
theorem m_part : SM G X "str" "str.partition" mPart := .mk fun m h H x vx ws vs Z Q R rx r P => by
  unfold mPart at P
  split at P
  · rename_i a b
    split at P
    · rename_i q
      cases rx
      cases r with
      | cons r1 r2 => cases r1; cases r2; exact ⟨_, mt_partition, a, b, rfl, rfl, q.1, by rw [lineSz]; exact q.2, fun p hp => new_tup R hp (.cons (.str _) (.cons (.str _) (.cons (.str _) .nil))) P⟩
    · exact P.elim
  · exact P.elim
def mEnds (x : W) (ws : List W) (h : IH) : Out := match x, ws with
  | .str a, [.str b] => .v (.bl (Txt.endswith a b)) h
  | _, _ => .no
theorem m_ends : SM G X "str" "str.endswith" mEnds := .mk fun m h H x vx ws vs Z Q R rx r P => by
  unfold mEnds at P
  split at P
  · rename_i a b
    cases rx
    cases r with
    | cons r1 r2 => cases r1; cases r2; exact ⟨_, mt_endswith, a, b, rfl, rfl, P m H _ Ext.refl R (.bl _)⟩
  · exact P.elim
def mStarts (x : W) (ws : List W) (h : IH) : Out := match x, ws with
  | .str a, [.str b] => .v (.bl (Txt.startswith a b)) h
  | _, _ => .no
theorem m_starts : SM G X "str" "str.startswith" mStarts := .mk fun m h H x vx ws vs Z Q R rx r P => by
  unfold mStarts at P
  split at P
  · rename_i a b
    cases rx
    cases r with
    | cons r1 r2 => cases r1; cases r2; exact ⟨_, mt_startswith, a, b, rfl, rfl, P m H _ Ext.refl R (.bl _)⟩
  · exact P.elim
def mLstripC (x : W) (ws : List W) (h : IH) : Out := match x, ws with
  | .str a, [.str b] => if a.length ≤ 16777216 then .v (.str (Txt.lstripChars a b)) h else .no
  | _, _ => .no
theorem m_lstripC : SM G X "str" "str.lstrip" mLstripC := .mk fun m h H x vx ws vs Z Q R rx r P => by
  unfold mLstripC at P
  split at P
  · rename_i a b
    split at P
    · rename_i q
      cases rx
      cases r with
      | cons r1 r2 => cases r1; cases r2; exact ⟨_, mt_lstripChars, a, b, rfl, rfl, by rw [lineSz]; exact q, P m H _ Ext.refl R (.str _)⟩
    · exact P.elim
  · exact P.elim
def mRstripC (x : W) (ws : List W) (h : IH) : Out := match x, ws with
  | .str a, [.str b] => if a.length ≤ 16777216 then .v (.str (Txt.rstripChars a b)) h else .no
  | _, _ => .no
theorem m_rstripC : SM G X "str" "str.rstrip" mRstripC := .mk fun m h H x vx ws vs Z Q R rx r P => by
  unfold mRstripC at P
  split at P
  · rename_i a b
    split at P
    · rename_i q
      cases rx
      cases r with
      | cons r1 r2 => cases r1; cases r2; exact ⟨_, mt_rstripChars, a, b, rfl, rfl, by rw [lineSz]; exact q, P m H _ Ext.refl R (.str _)⟩
    · exact P.elim
  · exact P.elim
/-! ### sorted -/
def insI (i : Int) : List Int → List Int
  | [] => [i]
  | j :: r => if i ≤ j then i :: j :: r else j :: insI i r
def sortI : List Int → List Int
  | [] => []
  | i :: r => insI i (sortI r)
theorem insI_perm (i : Int) : ∀ r : List Int, (insI i r).Perm (i :: r)
  | [] => .refl _
  | j :: r => by
    unfold insI
    split
    · exact .refl _
    · exact ((insI_perm i r).cons j).trans (.swap i j r)
theorem sortI_perm : ∀ r : List Int, (sortI r).Perm r
  | [] => .refl _
  | i :: r => (insI_perm i _).trans ((sortI_perm r).cons i)
theorem insI_pw (i : Int) : ∀ r : List Int, r.Pairwise (· ≤ ·) → (insI i r).Pairwise (· ≤ ·)
  | [], _ => by unfold insI; exact List.pairwise_singleton _ _
  | j :: r, h => by
    obtain ⟨h1, h2⟩ := List.pairwise_cons.mp h
    unfold insI
    split
    · rename_i q
      exact List.pairwise_cons.mpr ⟨fun z hz => by
        rcases List.mem_cons.mp hz with rfl | hz
        · exact q
        · exact Int.le_trans q (h1 z hz), h⟩
    · rename_i q
      refine List.pairwise_cons.mpr ⟨fun z hz => ?_, insI_pw i r h2⟩
      rcases List.mem_cons.mp ((insI_perm i r).mem_iff.mp hz) with rfl | hz
      · omega
      · exact h1 z hz
theorem sortI_pw : ∀ r : List Int, (sortI r).Pairwise (· ≤ ·)
  | [] => List.Pairwise.nil
  | i :: r => insI_pw i _ (sortI_pw r)
def bSorted : Fn := fun ws h => match ws with
  | [.ref n] => (match lstAt h n with
    | some ls => (match mapO W.num ls with
      | some ns => .v (.ref h.length) (h ++ [.lst ((sortI ns).map W.int)])
      | none => .no)
    | none => .no)
  | _ => .no
theorem c_sorted (hK : X.K = G.K) : SC G X (.builtin "sorted") bSorted := .mk fun m h H ws vs Z Q R r P => by
  unfold bSorted at P
  split at P
  · rename_i n
    split at P
    · rename_i ls e
      split at P
      · rename_i ns en
        obtain ⟨us, hx, hu⟩ := lstAt_of R e
        cases r with
        | cons r1 r2 =>
          cases r1; cases r2
          rw [nums_of hu en] at hx
          refine ⟨_, cr_sortedI, m n, ns, rfl, hK ▸ hx, fun ns' p hp hs hn => ?_⟩
          have e2 : ns' = sortI ns := PySem.W.ksm_same (hp.trans (sortI_perm ns).symm) hs (sortI_pw ns)
          rw [e2]
          exact new_lst R hn (RWs.ints _) P
      · exact P.elim
    · exact P.elim
  · exact P.elim
/-! ### x.f -= i -/
def oSubI : W → W → IH → Out
  | .int i, .int j, h => .v (.int (i - j)) h
  | _, _, _ => .no
def eAugFS (cs : List Nat) (f : Str) (o a : Ev) : Ev := fun σ h => (o σ h).vb fun x h1 => augAt cs f x h1 fun c u => (a σ h1).vb fun y h2 => (oSubI u y h2).vb fun z h3 => setAt [c] f x z σ h3
theorem v_augFS {cs : List Nat} {f : Str} {o : Ev} {eo : Expr} {pos' : Pos} (F : Fit G X Z k) (ok : FldOk G X cs f) (ho : SE G X Z o eo) (ha : SE G X Z a ea) : SS G X Z (eAugFS cs f o a) (.AugAssign (.Attribute eo f pos') .Sub ea pos) := .mk fun m h H σ τ D R S P => by
  refine WS.of (ps_fldaug peM peM in_sub) (ho m h H σ τ _ R S (PoS.es P fun x h1 m1 H1 v1 e1 R1 r1 P1 => ?_))
  cases r1 <;> first | exact P1.elim | skip
  rename_i n hn
  unfold augAt at P1
  simp only at P1
  split at P1
  · rename_i c fs e
    split at P1
    · rename_i q
      obtain ⟨dx, fvs, hx, rf⟩ := R1.obj n _ e
      have ck := ok c (by simpa using q)
      rw [lookW_eq] at P1
      rcases rf.look f with ⟨z, _⟩ | ⟨w, v, z, z', rw_⟩
      · rw [z] at P1; exact P1.elim
      · rw [z] at P1
        refine ⟨m1 n, _, dx, fvs, v, rfl, hx, ck.1, ck.2, z', ?_⟩
        refine ha m1 h1 H1 σ τ _ R1 (S.mono e1) (PoS.es P1 fun y h2 m2 H2 v2 e2 R2 r2 P2 => ?_)
        have rw2 := rw_.mono e2
        cases rw2 <;> cases r2 <;> first | exact P2.elim | skip
        refine ⟨_, _, rfl, rfl, ?_⟩
        have P3 : PoS G m2 h2.length H2 Z D (setAt [c] f (.ref n) _ σ h2) := P2
        have rn : RW G.K G.cl m2 h2.length H2 (.ref n) (.ref (m2 n)) := .ref n (Nat.lt_of_lt_of_le hn e2.le)
        obtain ⟨n', c', dx', fvs', e', hc, hx', c1, c2, hl, q'⟩ := set_at (X := X) (cs := [c]) (fun c0 h0 => by rw [List.mem_singleton.mp h0]; exact ck) R2 ((S.mono e1).mono e2) rn (.int _) P3
        have en : m2 n' = m1 n := by rw [← e2.eq n hn]; exact (V.ref.inj e').symm
        rw [List.mem_singleton.mp hc, en] at hx' q'
        exact ⟨dx', fvs', hx', hl, q'⟩
    · exact P1.elim
  · exact P1.elim
end
end Dr
set_option maxHeartbeats 4000000
namespace Dr.Kset
open PySem PySem.Spec PyProof.Rows L2
/-- what is met for the first time -/
def dd : List Key → List Key → List Key
  | acc, [] => acc
  | acc, k :: r => if (acc.any fun j => eqK j k) = true then dd acc r else dd (acc ++ [k]) r
theorem dd_snoc (k : Key) : ∀ (xs acc : List Key), dd acc (xs ++ [k]) = if ((dd acc xs).any fun j => eqK j k) = true then dd acc xs else dd acc xs ++ [k]
  | [], acc => rfl
  | x :: xs, acc => by
    simp only [List.cons_append, dd]
    split
    · exact dd_snoc k xs acc
    · exact dd_snoc k xs _
theorem dd_len : ∀ (xs acc : List Key), (dd acc xs).length ≤ acc.length + xs.length
  | [], acc => by simp [dd]
  | x :: xs, acc => by
    simp only [dd, List.length_cons]
    split
    · have := dd_len xs acc; omega
    · have := dd_len xs (acc ++ [x]); simp at this; omega
/-- the set of what is met -/
abbrev met (xs : List Key) (i : Nat) : List Key := dd [] (xs.take i)
abbrev isMet (xs : List Key) (i : Nat) : Key → Bool := fun j => (met xs i).any fun c => decide (c = j)
theorem met_succ {xs : List Key} {i : Nat} {k : Key} (h : xs[i]? = some k) : met xs (i + 1) = if isMet xs i k = true then met xs i else met xs i ++ [k] := by
  unfold met isMet
  rw [List.take_add_one, h]
  show dd [] (xs.take i ++ [k]) = _
  rw [dd_snoc]
  have e : ((dd [] (xs.take i)).any fun j => eqK j k) = (dd [] (xs.take i)).any fun c => decide (c = k) := by congr 1; funext j; exact eqK_eq j k
  rw [e]
theorem setCongr {pg : Program} {wd : World} {h : Heap} {a : Addr} {S S' : Key → Bool} {n n' : Nat} (z : h.SetOf (mixKind pg wd) a S n) (e : ∀ k, S k = S' k) (en : n = n') : h.SetOf (mixKind pg wd) a S' n' := by
  have w : S = S' := funext e
  subst w; subst en; exact z
section
variable {pg : Program} {wd : World} {Ar : Around} {Rr : Result → Shared → Prop} {It : Addr} {fs ws : List Addr} {Gg : Array GenState → Array GenState → Prop} {N : Nat} {Pp : Nat → Value → Prop} {Ss : Nat → Shared → Prop}
theorem loop_keys (Wk : WalksS pg wd Ar.in1 It fs ws Gg N Pp Ss) (B : Addr) (nin : B ∉ fs) (xs : List Key) (few : N + 1 < scanBound)
    (is_ : ∀ i v, Pp i v → ∃ k, xs[i]? = some k ∧ RelV (kV k) v) :
    ∀ (d i : Nat) (t : Shared), N - i = d → i ≤ N → Ss i t → t.heap.SetOf (mixKind pg wd) B (isMet xs i) (met xs i).length → (met xs i).length ≤ i →
      (∀ t', Moved (B :: ws) Gg t t' → t'.heap.SetOf (mixKind pg wd) B (isMet xs N) (met xs N).length → Rr (.ok (.ret .none)) t') →
      codeAny (model pg wd) Ar (.builtin "set.update.loop" ⟨[.ref B, .ref It], []⟩) Rr t := by
  have nw : B ∉ ws := fun z => nin (Wk.sub _ z)
  have up : ∀ b ∈ ws, b ∈ B :: ws := fun b z => List.mem_cons_of_mem _ z
  have stay : ∀ {t t' : Shared} {S : Key → Bool} {n : Nat}, Moved ws Gg t t' → t.heap.SetOf (mixKind pg wd) B S n → t'.heap.SetOf (mixKind pg wd) B S n := fun {t t' S n} mv z => by
    obtain ⟨o, es, ep, tb, ho, rest⟩ := z
    exact ⟨o, es, ep, tb, mv.heap B _ nw ho, rest⟩
  intro d
  induction d with
  | zero =>
    intro i t hd hi hs z _ fin
    obtain rfl : i = N := by omega
    refine codeAny_builtin PyProof.Rows.F.entry_set_update_loop ?_; rw [Around.under_plainId PyProof.Rows.F.plain_set_update_loop _]
    show wpAny _ Ar.in1 (pyNext (.ref It) >>= _) _ _ t
    refine wpAny_bind (Wk.done t _ _ hs fun t' mv => ?_)
    show wpAny _ Ar.in1 (ret Value.none) _ _ t'
    exact wpAny_pure (fin t' (mv.mono up) (stay mv z))
  | succ d ih =>
    intro i t hd hi hs z zl fin
    have lt : i < N := by omega
    refine codeAny_builtin PyProof.Rows.F.entry_set_update_loop ?_; rw [Around.under_plainId PyProof.Rows.F.plain_set_update_loop _]
    show wpAny _ Ar.in1 (pyNext (.ref It) >>= _) _ _ t
    refine wpAny_bind (Wk.item i t _ _ lt hs fun v t' pv hs' mv => ?_)
    obtain ⟨k, ek, rv⟩ := is_ i v pv
    have z' := stay mv z
    show wpAny _ Ar.in1 (holding [v] (setAdd B v) >>= _) _ _ t'
    refine wpAny_bind (wpAny_holding ?_)
    unfold setAdd
    refine wpAny_holding (wpAny_bind ((mixKind pg wd).pyHash (k := k) (kV_is rv) ?_))
    refine wpAny_setAddHashed_of (knd := mixKind pg wd) (s := { t' with toks := t'.toks + 1 }) (kV_is rv) (key_scan rv) z' (by omega) fun h' keep z2 => ?_
    have ms := met_succ ek
    have z3 : h'.SetOf (mixKind pg wd) B (isMet xs (i + 1)) (met xs (i + 1)).length := by
      refine setCongr z2 (fun j => ?_) ?_
      · show (isMet xs i j || decide (j = k)) = (met xs (i + 1)).any fun c => decide (c = j)
        rw [ms]
        split
        · rename_i q
          by_cases e : j = k
          · subst e; rw [show ((met xs i).any fun c => decide (c = j)) = isMet xs i j from rfl, q]; rfl
          · rw [decide_eq_false e, Bool.or_false]
        · rw [List.any_append]
          by_cases e : j = k
          · subst e; simp
          · have e' : ¬ k = j := fun w => e w.symm
            simp [e, e', isMet]
      · rw [ms]
        split
        · rfl
        · rw [List.length_append]; rfl
    have zl' : (met xs (i + 1)).length ≤ i + 1 := by
      rw [ms]
      split
      · omega
      · rw [List.length_append]; simp; omega
    refine wpAny_pure ⟨plainId_quiet PyProof.Rows.F.plain_set_update_loop _, ih (i + 1) _ (by omega) lt (Wk.frame _ t' _ _ hs' (Nat.le_succ _) fun b hb o e => ?_) z3 zl' fun t'' mv'' z'' => ?_⟩
    · rw [keep.2 b (fun w : b = B => nin (w ▸ hb))]; exact e
    · refine fin t'' (Moved.trans Wk.gtrans ((mv.mono up).then_heap (Nat.le_succ _) fun b o hb e => ?_) mv'') z''
      rw [keep.2 b (fun w : b = B => hb (w ▸ List.mem_cons_self))]; exact e
end
abbrev emp (led : Bool) : Obj := { cls := .type "set", dict := none, data := .set #[] 0 (.fresh 0 0 led) }
section
variable {pg : Program} {wd : World} {Ar : Around} {Er : Value → Shared → Prop} {t : Shared}
theorem set_keys {l : Addr} {us : Array Value} {xs : List Key} {Qq : Value → Shared → Prop} (calm : Ar.handled = none) (isl : t.heap.IsList l us) (rel : Vals (xs.map kV) us.toList) (few : us.size + 1 < scanBound)
    (go : ∀ (h' : Heap) (tk : Nat), h'.SetOf (mixKind pg wd) t.heap.objs.size (isMet xs us.size) (met xs us.size).length → (∀ b o, b < t.heap.objs.size → t.heap.get? b = some o → h'.get? b = some o) → Qq (.ref t.heap.objs.size) { t with heap := h', toks := tk }) :
    wpAny (model pg wd) Ar (call (.type "set") [.ref l]) Qq Er t := by
  obtain ⟨c, tl, hmro⟩ := PySem.F.called_set.mro
  have f1 := PySem.F.called_set.made
  have f2 := PySem.F.called_set.sub
  refine wpAny_call (codeAny_of_tree ?_)
  show wpAny _ _ (callAny (.type "set") _) _ _ _
  refine wpAny_pure ⟨Code.quiet_builtin _ (by decide +kernel), codeAny_builtin PySem.F.entry_type_call ?_⟩
  rw [Around.under_plain (weight_type_call_type "set" [.ref l] []) rfl]
  have f3 := PySem.F.called_set.notType
  have f4 := PySem.F.called_set.canCreate
  have f5 := PySem.F.typeCall_set_1 (.ref l)
  repeat (any_goals (first | assumption | wp_step))
  refine codeAny_mono (code_set_new_1 (.ref l) (E := Er) (Q₁ := fun ob s₁ => ∃ led : Bool, ob = .ref t.heap.objs.size ∧ s₁ = { t with heap := t.heap.push (emp led) }) fun led => ⟨led, rfl, rfl⟩) fun r s₁ hr => ?_
  cases r with
  | error e => exact hr
  | ok fl =>
    cases fl with
    | ret ob =>
      obtain ⟨led, rfl, rfl⟩ := hr
      have at1 : (t.heap.push (emp led)).get? t.heap.objs.size = some (emp led) := Heap.get?_push_size _ rfl
      have ty1 : Shared.TypeIs { t with heap := t.heap.push (emp led) } (.ref t.heap.objs.size) "set" := ⟨_, at1, rfl⟩
      have f6 := PySem.F.called_set.init.lookup
      have f7 := PySem.F.called_set.init.bind (.ref t.heap.objs.size)
      repeat (any_goals (first | assumption | wp_step))
      refine codeAny_mono (codeAny_call_builtin (R := wants (fun r s₂ => r = .none ∧ ∃ h' tk, s₂ = { t with heap := h', toks := tk } ∧ h'.SetOf (mixKind pg wd) t.heap.objs.size (isMet xs us.size) (met xs us.size).length ∧ (∀ b o, b < t.heap.objs.size → t.heap.get? b = some o → h'.get? b = some o)) Er)
        PySem.F.called_set.init.plain PySem.F.entry_set_init (check_set_init_1 ty1 ?_)) fun r₂ s₂ hr₂ => ?_
      · obtain ⟨ol, gol, hcl, nl, hdl⟩ := isl
        obtain ⟨oc, od, odt, osl⟩ := ol
        simp only at hcl hdl
        subst hcl; subst hdl
        have gol' : (t.heap.push (emp led)).get? l = some { cls := .type "list", dict := od, data := .seq us nl, slots := osl } := Heap.get?_push_of_some _ gol
        have f8 := PySem.F.sub_list_set
        have f9 := PySem.F.sub_list_frozenset
        have ne0 : (Value.type "list" == Value.type "dict") = false := by decide
        have isl1 : (t.heap.push (emp led)).IsList l us := ⟨_, gol', rfl, nl, rfl⟩
        unfold Builtin.«set.__init__» noKeywords Builtin.Frozenset.updateFrom
        generalize hPI : pyIter = PI
        wp_walk
        subst hPI
        refine wpAny_pyIter_list isl1 (wpAny_bind (wpAny_runValue ?_))
        have ls : l < t.heap.objs.size := Heap.lt_size gol
        have calm3 : Ar.in1.in1.in1.handled = none := by simp [calm]
        have ne1 : l ≠ (t.heap.push (emp led)).objs.size := by rw [Heap.size_push]; exact Nat.ne_of_lt (Nat.lt_succ_of_lt ls)
        have nin : t.heap.objs.size ∉ [(t.heap.push (emp led)).objs.size, l] := by
          rw [Heap.size_push]; simp only [List.mem_cons, List.mem_singleton, List.not_mem_nil, or_false, not_or]; exact ⟨Nat.ne_of_lt (Nat.lt_succ_self _), Nat.ne_of_gt ls⟩
        have sz : xs.length = us.size := by rw [← Array.length_toList, ← rel.length, List.length_map]
        have val : ∀ (i : Nat) (v : Value), us[i]? = some v → ∃ k, xs[i]? = some k ∧ RelV (kV k) v := fun i v hv => by
          have il : i < xs.length := by rw [sz]; exact (Array.getElem?_eq_some_iff.mp hv).1
          obtain ⟨u, hu, ru⟩ := rel.get (i := i) (x := kV xs[i]) (by simp [il])
          have e : us.toList[i]? = some v := by rw [Array.getElem?_toList]; exact hv
          rw [e] at hu
          cases hu
          exact ⟨xs[i], List.getElem?_eq_getElem il, ru⟩
        refine loop_keys ((Walks.list calm3 _ l ne1 us).toS) t.heap.objs.size nin xs few val (us.size - 0) 0 _ (by omega) (Nat.zero_le _) ⟨⟨_, Heap.get?_push_size _ rfl, rfl, rfl⟩, (isl1.push _)⟩ ?z0 (Nat.le_refl _) ?zR
        case z0 =>
          have at2 : ((t.heap.push (emp led)).push { cls := .type "list_iterator", data := .fields #[.ref l, .int 0 0] }).get? t.heap.objs.size = some (emp led) := Heap.get?_push_of_some _ at1
          exact ⟨_, #[], 0, _, at2, ⟨rfl, rfl, rfl⟩, rfl, (fun e he => by simp at he), (fun j => Iff.intro (fun w => by cases w) (fun w => by obtain ⟨_, w, _⟩ := w; simp at w)), (by decide), (by rfl), rfl⟩
        case zR =>
          intro t' mv z'
          obtain ⟨h', g', d', tk', os'⟩ := t'
          have eg : g' = t.gens := mv.gens
          have ed : d' = t.drawn := mv.drawn
          have eo : os' = t.os := mv.os
          subst eg; subst ed; subst eo
          show wpAny _ _ _ _ _ _
          refine wpAny_pure ?_
          show wpAny _ _ (ret Value.none) _ _ _
          refine wpAny_pure ⟨rfl, h', tk', rfl, z', fun b o hb e => ?_⟩
          have n1 : b ≠ t.heap.objs.size := Nat.ne_of_lt hb
          have n2 : b ≠ (t.heap.push (emp led)).objs.size := by rw [Heap.size_push]; exact Nat.ne_of_lt (Nat.lt_succ_of_lt hb)
          exact mv.heap b o (by simp only [List.mem_cons, List.mem_singleton, List.not_mem_nil, or_false, not_or]; exact ⟨n1, n2⟩) (Heap.get?_push_of_some _ (Heap.get?_push_of_some _ e))
      · cases r₂ with
        | error e => exact hr₂
        | ok fl₂ =>
          cases fl₂ with
          | ret r =>
            obtain ⟨rfl, h', tk, rfl, z', kp⟩ := hr₂
            repeat (any_goals (first | assumption | wp_step))
            exact go _ _ z' kp
          | _ => exact hr₂.elim
    | _ => exact hr.elim
end
/-- len(set(xs)) of keys -/
def tLenSetK (K : PySem.W.Frag) (ta : TE) : TE := fun σ H Q => ta σ H fun x H1 => ∃ (l : Addr) (xs : List Key), x = .ref l ∧ SqL K H1 l (xs.map kV) ∧ xs.length < 1000 ∧ Q (.int (dd [] xs).length) H1
theorem pe_lenSetK {X : Cx} {a : Expr} {ta : TE} {p p2 q pos : Pos} (hc : X.calm = true) (hg : Gl X "len") (hm : X.mg "len" = none) (hg2 : Gl X "set") (hm2 : X.mg "set" = none) (ha : PE X a ta)
    (na : starEach [a] X.env = (false, eval a X.env) :: starEach [] X.env := by rfl) : PE X (.Call (.Name "len" p) [.Call (.Name "set" p2) [a] [] q] [] pos) (tLenSetK X.K ta) := by
  refine ⟨fun pins s σ H Q I h => Call_ (ld_blt I hg hm boot_len (PyProof.Rows.callWith_builtin1 (PyProof.Rows.args_cons (Call_ (ld_blt I hg2 hm2 boot_set ?_)) rfl) rfl rfl))⟩
  refine PyProof.Rows.callWith_type1 (PyProof.Rows.args_cons (thn (ha.run pins s σ H _ I h) fun v s1 ⟨x, H1, I1, r1, q1⟩ => PyProof.Rows.args_nil ?_) na) na rfl
  obtain ⟨l, xs, rfl, hq, few, q1⟩ := q1
  cases r1
  obtain ⟨its, r, pl, hz⟩ := I1.list hq
  have sz : its.toArray.size = xs.length := by rw [List.size_toArray, ← r.length, List.length_map]
  refine set_keys (xs := xs) (I1.ok.hd hc) pl.isList (by simpa using r) (by rw [sz]; unfold scanBound; omega) fun h' tk z kp => PyProof.Rows.args_nil ?_
  rw [sz] at z
  obtain ⟨o, es, ep, tb, ho, hex, hd, _, _, _, hf, hn⟩ := z
  have I2 : Inv X pins σ H1 { s1 with heap := h', toks := tk } := I1.kept fun b o e => kp b o (Heap.lt_size e) e
  have le : (met xs xs.length).length ≤ xs.length := by
    have := dd_len (xs.take xs.length) []
    rw [List.length_nil, Nat.zero_add, List.length_take, Nat.min_self] at this
    exact this
  have em : met xs xs.length = dd [] xs := by unfold met; rw [List.take_length]
  refine call_len_set ho hex hd hf (by rw [hn]; omega) ⟨.int (dd [] xs).length, H1, I2.tok _, ⟨_, by rw [hn, em]⟩, q1⟩
end Dr.Kset
namespace Dr
open PySem L2
section
variable {G : Cfg} {X : Cx} {Z : WX} {k : Nat} {a b c : Ev} {ea eb ec : Expr} {pos : Pos}
def lenSet (x : W) (h : IH) : Out := match x with
  | .ref n => (match lstAt h n with
    | some ls => (match mapO keyW ls with
      | some ks => if ks.length < 1000 then .v (.int (Kset.dd [] ks).length) h else .no
      | none => .no)
    | none => .no)
  | _ => .no
def eLenSet (a : Ev) : Ev := fun σ h => (a σ h).vb lenSet
theorem keys_of {m : Nat → Addr} {L : Nat} {H : Hp} : ∀ {ws : List W} {vs : List V} {ks : List Key}, RWs G.K G.cl m L H ws vs → mapO keyW ws = some ks → vs = ks.map kV
  | _, _, _, .nil, e => by cases e; rfl
  | _, _, _, .cons (w := w) (ws := ws) r1 r2, e => by
    unfold mapO at e
    cases q1 : keyW w with
    | none => rw [q1] at e; cases e
    | some u =>
      cases q2 : mapO keyW ws with
      | none => rw [q1, q2] at e; cases e
      | some us =>
        rw [q1, q2] at e
        cases e
        rw [keys_of r2 q2, keyW_of r1 q1]
        rfl
theorem s_lenSet {p p2 q : Pos} (F : Fit G X Z k) (hm : X.mg "len" = none) (hm2 : X.mg "set" = none) (ha : SE G X Z a ea) (hg : Gl X "len" := by rfl) (hg2 : Gl X "set" := by rfl) (na : starEach [ea] X.env = (false, eval ea X.env) :: starEach [] X.env := by rfl) :
    SE G X Z (eLenSet a) (.Call (.Name "len" p) [.Call (.Name "set" p2) [ea] [] q] [] pos) := .mk fun m h H σ τ Q R S P => by
  refine WE.of (Kset.pe_lenSetK F.calm hg hm hg2 hm2 peM na) (ha m h H σ τ _ R S (PoE.ee P fun x h1 m1 H1 v1 e1 R1 r1 P1 => ?_))
  unfold lenSet at P1
  split at P1
  · rename_i n
    split at P1
    · rename_i ls e
      split at P1
      · rename_i ks ek
        split at P1
        · rename_i few
          obtain ⟨us, hx, hu⟩ := lstAt_of R1 e
          cases r1
          rw [keys_of hu ek] at hx
          exact ⟨m1 n, ks, rfl, F.K ▸ hx, few, P1 m1 H1 _ Ext.refl R1 (.int _)⟩
        · exact P1.elim
      · exact P1.elim
    · exact P1.elim
  · exact P1.elim
end
end Dr
set_option maxHeartbeats 2000000
namespace Dr
open PySem L2
/-! ### dict comprehensions -/
def dcL (J : ItW) (g : Tg) (t ek e : Ev) (D : Nat) (σ0 : Sg) : Nat → Nat → IH → Out
  | 0, _, _ => .no
  | n + 1, i, h => match J i h with
    | none => .no
    | some none => .v (.ref D) h
    | some (some w) => match g w σ0 with
      | none => .no
      | some σ2 => match t σ2 h with
        | .v (.bl false) h1 => dcL J g t ek e D σ0 n (i + 1) h1
        | .v (.bl true) h1 => (match ek σ2 h1 with
          | .v y h2 => (match e σ2 h2 with
            | .v z h3 => (match keyW y with
              | some k => (match h3[D]? with
                | some (.dic kvs) => if kvs.length < 16777216 then dcL J g t ek e D σ0 n (i + 1) (h3.set D (.dic (putKW kvs k z))) else .no
                | _ => .no)
              | none => .no)
            | _ => .no)
          | _ => .no)
        | _ => .no
def eDc (n : Nat) (it : EvI) (own : List Nat) (g : Tg) (t ek e : Ev) : Ev := fun σ h => match it σ h with
  | .it J h1 => dcL J g t ek e h1.length (wipeW σ own) n 0 (h1 ++ [.dic []])
  | .ex c w s h => .ex c w s h
  | .no => .no
section
variable {G : Cfg} {X : Cx} {Z : WX} {k : Nat} {a b c : Ev} {ea eb ec : Expr} {pos : Pos}
theorem dc_read {own : List Nat} {scope : Scope} {tg kx vx : Expr} {ifs : List Expr} {J : ItW} {I : It} {g : Tg} {t ek e : Ev} {n : Nat} {m1 : Nat → Addr} {h1 : IH} {H1 : Hp} {σ : Sg} {τ : St} {Q : VK}
    (hg : ∀ (s : Shared) (H : Hp) (C : Addr) (cl : List (Str × Addr)) (fp : List Addr), SGw G (X.blk s H scope (compEnvC scope cl C X.env) fp) own g tg)
    (ht : ∀ (s : Shared) (H : Hp) (C : Addr) (cl : List (Str × Addr)) (fp : List Addr), STs G (X.blk s H scope (compEnvC scope cl C X.env) fp) Z0 t ifs)
    (hk : ∀ (s : Shared) (H : Hp) (C : Addr) (cl : List (Str × Addr)) (fp : List Addr), SE G (X.blk s H scope (compEnvC scope cl C X.env) fp) Z0 ek kx)
    (he : ∀ (s : Shared) (H : Hp) (C : Addr) (cl : List (Str × Addr)) (fp : List Addr), SE G (X.blk s H scope (compEnvC scope cl C X.env) fp) Z0 e vx)
    (hxs : G.xs = none) (R1 : Rep G.K G.cl m1 h1 H1) (S1 : RSt G m1 h1.length H1 σ τ) (J1 : RJ G m1 h1.length H1 J I) (P : PoE G m1 h1.length H1 Z Q (dcL J g t ek e h1.length (wipeW σ own) n 0 (h1 ++ [.dic []]))) (D : Addr) (hD : H1 D = none) :
    ∃ W : Nat → Nat → Hp → Prop, (∃ m, W 0 m (upd H1 D (.dK []))) ∧ ∀ i m H, W i m H →
      (I.stop i H ∧ Q (.ref D) H) ∨ (I.go i H ∧ ∃ Nx : Hp → Prop, (∀ H', Nx H' → ∃ m', m' < m ∧ W (i + 1) m' H') ∧ ∀ x H', I.yld i H x H' →
        (∀ (s : Shared) (H0 : Hp) (C : Addr) (cl : List (Str × Addr)) (fp : List Addr), WG (X.blk s H0 scope (compEnvC scope cl C X.env) fp) tg x (L2.wipe τ own) H' fun σ2 H2 => L2.wipe σ2 own = L2.wipe τ own ∧
          ∀ (s : Shared) (H0 : Hp) (C : Addr) (cl : List (Str × Addr)) (fp : List Addr), WTs (X.blk s H0 scope (compEnvC scope cl C X.env) fp) ifs σ2 H2 fun b H3 =>
            if b = true then (∀ (s : Shared) (H0 : Hp) (C : Addr) (cl : List (Str × Addr)) (fp : List Addr), WE (X.blk s H0 scope (compEnvC scope cl C X.env) fp) kx σ2 H3 fun y H4 => ∀ (s : Shared) (H0 : Hp) (C : Addr) (cl : List (Str × Addr)) (fp : List Addr), WE (X.blk s H0 scope (compEnvC scope cl C X.env) fp) vx σ2 H4 fun z H5 => ∃ kvs k, y = kV k ∧ H5 D = some (.dK kvs) ∧ kvs.length < sizeLine ∧ Nx (upd H5 D (.dK (putK kvs k z)))) else Nx H3)) := by
  obtain ⟨R2, E2⟩ := R1.push (q := D) (u := .dK []) (o := .dic []) hD ⟨_, upd_same, .nil⟩
  have last : ext1 m1 h1.length D h1.length = D := by unfold ext1; rw [if_pos rfl]
  let Inv' : Nat → Nat → Hp → Prop := fun i n H => ∃ m h, Ext G.K m1 h1.length H1 m h.length H ∧ Rep G.K G.cl m h H ∧ h1.length < h.length ∧ m h1.length = D ∧ PoE G m h.length H Z Q (dcL J g t ek e h1.length (wipeW σ own) n i h)
  refine ⟨Inv', ⟨n, _, _, E2, R2, by simp, last, PoE.later E2 P⟩, ?_⟩
  rintro i n H ⟨m, h, e2, R, hl, hm, P⟩
  cases n with
  | zero => exact P.elim
  | succ n =>
    have j := J1 i m h H e2 R
    unfold dcL at P
    cases e3 : J i h with
    | none => rw [e3] at P; exact P.elim
    | some o =>
      rw [e3] at P j
      cases o with
      | none =>
        refine .inl ⟨j, P m H _ Ext.refl R ?_⟩
        have q := RW.ref (K := G.K) (cl := G.cl) (m := m) (L := h.length) (H := H) h1.length hl
        rw [hm] at q
        exact q
      | some w =>
        refine .inr ⟨j.1, Inv' (i + 1) n, fun H' z => ⟨n, Nat.lt_succ_self _, z⟩, fun x H' y s H0 C cl fp => ?_⟩
        obtain ⟨m', e4, R4, r4⟩ := j.2 x H' y
        simp only at P
        cases e5 : g w (wipeW σ own) with
        | none => rw [e5] at P; exact P.elim
        | some σ2 =>
          rw [e5] at P
          have S4 := (RSt.wipe hxs S1 own).mono (e2.trans e4)
          refine hg s H0 C cl fp m' h H' w x _ _ σ2 _ R4 r4 S4 e5 fun τ2 S2 hw => ⟨hw.trans (wipe_wipe τ own), fun s H0 C cl fp => ?_⟩
          simp only at P
          refine (ht s H0 C cl fp).run R4 S2 ?_
          cases e6 : t σ2 h with
          | v w6 h6 =>
            rw [e6] at P
            cases w6 with
            | bl q =>
              intro m6 H6 v6 e7 R6 r6
              cases r6
              have em6 : m6 h1.length = D := by rw [e7.eq _ hl, e4.eq _ hl]; exact hm
              cases q with
              | false => exact ⟨false, rfl, iteF ⟨m6, h6, (e2.trans e4).trans e7, R6, Nat.lt_of_lt_of_le hl e7.le, em6, PoE.later (e4.trans e7) P⟩⟩
              | true =>
                refine ⟨true, rfl, iteT fun s H0 C cl fp => ?_⟩
                refine hk s H0 C cl fp m6 h6 H6 σ2 τ2 _ R6 (S2.mono e7) ?_
                simp only at P
                cases ey : ek σ2 h6 with
                | v y7 h7 =>
                  rw [ey] at P
                  intro m7 H7 v7 e75 R7 r7 s H0 C cl fp
                  refine he s H0 C cl fp m7 h7 H7 σ2 τ2 _ R7 ((S2.mono e7).mono e75) ?_
                  simp only at P
                  cases e8 : e σ2 h7 with
                  | v y8 h8 =>
                    rw [e8] at P
                    intro m8 H8 v8 e9 R8 r8
                    simp only at P
                    cases ekw : keyW y7 with
                    | none => rw [ekw] at P; exact P.elim
                    | some kk =>
                      rw [ekw] at P
                      cases e10 : h8[h1.length]? with
                      | none => rw [e10] at P; exact P.elim
                      | some ob =>
                        rw [e10] at P
                        cases ob with
                        | dic acc =>
                          simp only at P
                          split at P
                          · rename_i q
                            obtain ⟨vs, hx, hv⟩ := R8.obj _ _ e10
                            have em7 : m7 h1.length = D := by rw [e75.eq _ (Nat.lt_of_lt_of_le hl e7.le)]; exact em6
                            have em8 : m8 h1.length = D := by rw [e9.eq _ (Nat.lt_of_lt_of_le (Nat.lt_of_lt_of_le hl e7.le) e75.le)]; exact em7
                            rw [em8] at hx
                            refine ⟨vs, kk, keyW_of r7 ekw, hx, by rw [← hv.len, lineSz]; exact q, ?_⟩
                            obtain ⟨R9, E9⟩ := R8.put (n := h1.length) (o' := .dic (putKW acc kk y8)) (u := .dK (putK vs kk v8)) e10 (by rw [em8]; exact noTup_of hx (fun _ z => by cases z) (fun _ _ z => by cases z))
                              (fun ex => ⟨_, upd_same, (hv.put r8).mono ex⟩)
                            rw [em8] at R9 E9
                            have l8 : h1.length < h8.length := Nat.lt_of_lt_of_le hl (Nat.le_trans e7.le (Nat.le_trans e75.le e9.le))
                            exact ⟨m8, _, ((((e2.trans e4).trans e7).trans e75).trans e9).trans E9, R9, by rw [List.length_set]; exact l8, em8, PoE.later ((e4.trans e7).trans (e75.trans (e9.trans E9))) P⟩
                          · exact P.elim
                        | _ => exact P.elim
                  | _ => rw [e8] at P; exact P.elim
                | _ => rw [ey] at P; exact P.elim
            | _ => exact P.elim
          | _ => rw [e6] at P; exact P.elim
theorem s_dc (n : Nat) {it : EvI} {g : Tg} {t ek e : Ev} {kx vx tg iter : Expr} {ifs : List Expr} {scope : Scope} {own : List (Str × Nat)} (F : Fit G X Z k) (hN : X.N.Nodup) (hi : SI G X Z it tg iter) (ok : BlkOk X.N X.env.scope scope own)
    (hg : ∀ (s : Shared) (H : Hp) (C : Addr) (cl : List (Str × Addr)) (fp : List Addr), SGw G (X.blk s H scope (compEnvC scope cl C X.env) fp) (own.map (·.2)) g tg)
    (ht : ∀ (s : Shared) (H : Hp) (C : Addr) (cl : List (Str × Addr)) (fp : List Addr), STs G (X.blk s H scope (compEnvC scope cl C X.env) fp) Z0 t ifs)
    (hk : ∀ (s : Shared) (H : Hp) (C : Addr) (cl : List (Str × Addr)) (fp : List Addr), SE G (X.blk s H scope (compEnvC scope cl C X.env) fp) Z0 ek kx)
    (he : ∀ (s : Shared) (H : Hp) (C : Addr) (cl : List (Str × Addr)) (fp : List Addr), SE G (X.blk s H scope (compEnvC scope cl C X.env) fp) Z0 e vx) (hs : ∀ x, foldedSetIterable iter X.env x = pure x := by intro _; rfl) :
    SE G X Z (eDc n it (own.map (·.2)) g t ek e) (.DictComp kx vx [⟨tg, iter, ifs, 0⟩] scope pos) := .mk fun m h H σ τ Q R S P => by
  refine WE.of (pe_dc (g := fun v σ H Q => ∀ (s : Shared) (H0 : Hp) (C : Addr) (cl : List (Str × Addr)) (fp : List Addr), WG (X.blk s H0 scope (compEnvC scope cl C X.env) fp) tg v σ H Q)
    (tt := fun σ H Q => ∀ (s : Shared) (H0 : Hp) (C : Addr) (cl : List (Str × Addr)) (fp : List Addr), WTs (X.blk s H0 scope (compEnvC scope cl C X.env) fp) ifs σ H Q)
    (tk := fun σ H Q => ∀ (s : Shared) (H0 : Hp) (C : Addr) (cl : List (Str × Addr)) (fp : List Addr), WE (X.blk s H0 scope (compEnvC scope cl C X.env) fp) kx σ H Q)
    (tv := fun σ H Q => ∀ (s : Shared) (H0 : Hp) (C : Addr) (cl : List (Str × Addr)) (fp : List Addr), WE (X.blk s H0 scope (compEnvC scope cl C X.env) fp) vx σ H Q)
    F.calm hN piM ok (fun s H C cl fp => ⟨fun pins s' σ H' v u Q I r h => h s H C cl fp pins s' u I r⟩)
    (fun s H C cl fp => ⟨fun pins s' σ H' Q I h => let ⟨_, p, q⟩ := h s H C cl fp; p.run pins s' σ H' Q I q⟩) (fun s H C cl fp => ⟨fun pins s' σ H' Q I h => h s H C cl fp pins s' I⟩) (fun s H C cl fp => ⟨fun pins s' σ H' Q I h => h s H C cl fp pins s' I⟩) hs) ?_
  refine hi m h H σ τ _ R S ?_
  unfold eDc at P
  cases q : it σ h with
  | no => rw [q] at P; exact P
  | ex c w s h => rw [q] at P; exact P
  | it J h1 =>
    rw [q] at P
    exact fun m1 H1 I e1 R1 J1 D hD => dc_read hg ht hk he F.base R1 (S.mono e1) J1 (PoE.later e1 P) D hD
end
end Dr
set_option maxHeartbeats 2000000
namespace Dr
open PySem L2
/-! ### what loops and small texts come to -/
theorem eFor_it {n : Nat} {it : EvI} {g : Tg} {b : Ev} {σ : Sg} {h h1 : IH} {J : ItW} (e : it σ h = .it J h1) : eFor n it g b σ h = forL J g b n 0 σ h1 := by
  unfold eFor
  rw [e]
theorem forL_step {p fuel i : Nat} {g : Tg} {b : Ev} {ws : List W} {w : W} {σ σ' s : Sg} {h h' : IH} (hl : lstAt h p = some ws) (hw : ws[i]? = some w) (hg : g w σ = some σ') (hb : b σ' h = .nx s h') :
    forL (jL p) g b (fuel + 1) i σ h = forL (jL p) g b fuel (i + 1) s h' := by
  show (match jL p i h with | none => _ | some none => _ | some (some w) => _) = _
  have : jL p i h = some (some w) := by simp only [jL, hl, hw]
  rw [this]
  show (match g w σ with | none => _ | some σ' => _) = _
  rw [hg]
  show (match b σ' h with | .nx s h2 => _ | .ct s h2 => _ | .bk s h2 => _ | .rt w h2 => _ | .ex c w s h2 => _ | _ => _) = _
  rw [hb]
theorem forL_end {p fuel i : Nat} {g : Tg} {b : Ev} {ws : List W} {σ : Sg} {h : IH} (hl : lstAt h p = some ws) (hw : ws[i]? = none) : forL (jL p) g b (fuel + 1) i σ h = .nx σ h := by
  show (match jL p i h with | none => _ | some none => _ | some (some w) => _) = _
  have : jL p i h = some none := by simp only [jL, hl, hw]
  rw [this]
theorem forWI {p : Nat} {ws : List W} {g : Tg} {b : Ev} (I : Sg → IH → Prop) (hl : ∀ σ h, I σ h → lstAt h p = some ws)
    (hs : ∀ w ∈ ws, ∀ σ h, I σ h → ∃ σ' s h', g w σ = some σ' ∧ b σ' h = .nx s h' ∧ I s h') :
    ∀ (fuel i : Nat) (σ : Sg) (h : IH), i ≤ ws.length → ws.length - i < fuel → I σ h → ∃ s h', forL (jL p) g b fuel i σ h = .nx s h' ∧ I s h'
  | 0, i, σ, h, _, hf, _ => absurd hf (Nat.not_lt_zero _)
  | fuel + 1, i, σ, h, hi, hf, hI => by
    by_cases q : i < ws.length
    · obtain ⟨σ', s, h', e1, e2, hI'⟩ := hs ws[i] (List.getElem_mem q) σ h hI
      obtain ⟨s', h'', e3, hI''⟩ := forWI I hl hs fuel (i + 1) s h' q (by omega) hI'
      exact ⟨s', h'', by rw [forL_step (hl σ h hI) (List.getElem?_eq_getElem q) e1 e2]; exact e3, hI''⟩
    · exact ⟨σ, h, forL_end (hl σ h hI) (List.getElem?_eq_none (Nat.le_of_not_lt q)), hI⟩
theorem lcW {p : Nat} {ws : List W} {g : Tg} {t e : Ev} {D : Nat} {σ0 : Sg} {h : IH} (hl : lstAt h p = some ws)
    (hs : ∀ w ∈ ws, ∃ σ', g w σ0 = some σ' ∧ t σ' h = .v (.bl false) h) :
    ∀ (fuel i : Nat), i ≤ ws.length → ws.length - i < fuel → lcL (jL p) g t e D σ0 fuel i h = .v (.ref D) h
  | 0, i, _, hf => absurd hf (Nat.not_lt_zero _)
  | fuel + 1, i, hi, hf => by
    unfold lcL jL
    simp only [hl]
    by_cases q : i < ws.length
    · obtain ⟨σ', e1, e2⟩ := hs ws[i] (List.getElem_mem q)
      rw [List.getElem?_eq_getElem q]
      simp only [e1, e2]
      exact lcW hl hs fuel (i + 1) q (by omega)
    · rw [List.getElem?_eq_none (Nat.le_of_not_lt q)]
theorem oMulX_str {z : Str} {n : Int} {h : IH} (c : 0 ≤ n ∧ n < 1000000 ∧ z.length * n.toNat ≤ 1000000 ∧ (repS z n).length ≤ 16777216) : oMulX (.str z) (.int n) h = .v (.str (repS z n)) h := by
  show (if _ then _ else _) = _
  rw [if_pos c]
theorem oAdd_str {x y : Str} {h : IH} (c : x.length + y.length ≤ 16777216) : oAdd (.str x) (.str y) h = .v (.str (appS x y)) h := by
  show (if _ then _ else _) = _
  rw [if_pos c]
theorem oAdd_lst {p q : Nat} {h : IH} {xs ys : List W} (hp : h[p]? = some (.lst xs)) (hq : h[q]? = some (.lst ys)) (c : xs.length + ys.length ≤ 16777216) : oAdd (.ref p) (.ref q) h = .v (.ref h.length) (h ++ [.lst (xs ++ ys)]) := by
  simp only [oAdd, hp, hq]
  rw [if_pos c]
theorem oSl_lst {p : Nat} {h : IH} {xs : List W} {lo hi : Option Int} (hp : h[p]? = some (.lst xs)) : oSl (.ref p) lo hi h = .v (.ref h.length) (h ++ [.lst (cutW xs lo hi)]) := by simp only [oSl, hp]
theorem cut_take (ws : List W) (n : Nat) : cutW ws none (some (n : Int)) = ws.take n := by
  unfold cutW
  rw [HT.sIx_none, HT.sIx_nat, List.drop_zero, Nat.sub_zero]
  by_cases q : n ≤ ws.length
  · rw [Nat.min_eq_left q]
  · rw [Nat.min_eq_right (by omega), List.take_length, List.take_of_length_le (by omega)]
theorem cut_drop (ws : List W) (n : Nat) : cutW ws (some (n : Int)) none = ws.drop n := by
  unfold cutW
  rw [HT.sIx_none, HT.sIx_nat]
  by_cases q : n ≤ ws.length
  · rw [Nat.min_eq_left q, List.take_of_length_le (by rw [List.length_drop]; omega)]
  · rw [Nat.min_eq_right (by omega), Nat.sub_self, List.take_zero, List.drop_eq_nil_of_le (by omega)]
theorem sts_map : ∀ ss : List Str, mapO W.st (ss.map W.str) = some ss
  | [] => rfl
  | s :: ss => by
    rw [List.map_cons]
    unfold mapO
    rw [sts_map ss]
    rfl
theorem mJoin_lst {z : Str} {p : Nat} {h : IH} {ss : List Str} (hp : h[p]? = some (.lst (ss.map W.str))) (c : (ss.map (·.length)).sum + ss.length * z.length ≤ 16777216) : mJoin (.str z) [.ref p] h = .v (.str (Txt.join z ss)) h := by
  show (match lstAt h p with | some ls => joinS z ls h | none => .no) = _
  have : lstAt h p = some (ss.map W.str) := by simp only [lstAt, hp]
  rw [this]
  show (match mapO W.st (ss.map W.str) with | some ss => _ | none => _) = _
  rw [sts_map]
  show (if _ then _ else _) = _
  rw [if_pos c]
theorem oNe_dat {p q : Nat} {h : IH} {xs ys : List W} {d : PyData} (hp : h[p]? = some (.lst xs)) (hq : h[q]? = some (.lst ys)) (hl : xs.length = ys.length ∧ xs.length ≠ 0) (dp : dat h 40 (.ref p) = some d) (dq : dat h 40 (.ref q) = some d) (s : shaped' d = true) (v : eqF d d = true) : oNe (.ref p) (.ref q) h = .v (.bl false) h := by
  have l : lenQ (.ref p) (.ref q) h = none := by simp [lenQ, lstAt, hp, hq, hl.1, hl.1 ▸ hl.2]
  have e : eqD (.ref p) (.ref q) h = some true := by
    show (match lenQ (.ref p) (.ref q) h with | some b => _ | none => _) = _
    rw [l]
    show (match dat h 40 (.ref p), dat h 40 (.ref q) with | some d, some e => _ | _, _ => _) = _
    rw [dp, dq]
    simp [s, v]
  show (match eqD (.ref p) (.ref q) h with | some b => _ | none => _) = _
  rw [e]
  rfl
/-- the turns of a law's loop over the script -/
theorem rng_it {c : Int} {ns : List Int} {h : IH} {σ : Sg} (c1 : 1 ≤ c) (c2 : c ≤ 1000) (h0 : h[0]? = some (.rol (ns.map W.int))) (s0 : σ[0]? = some (some (.ref 0))) : ∃ n : Nat, (n : Int) ≤ c ∧
    iR1 (eCons (eBlt bMax (eCons (eK (.int 1)) (eCons (eBlt bMin (eCons (eK (.int c)) (eCons (eBlt bLen (eCons (eLoc 0) eNil)) eNil))) eNil))) eNil) σ h = .it (jR 0 n) h := by
  obtain ⟨n, hn, en⟩ : ∃ n : Nat, (n : Int) ≤ c ∧ (if (if (ns.length : Int) < c then (ns.length : Int) else c) > 1 then (if (ns.length : Int) < c then (ns.length : Int) else c) else 1) = (n : Int) := by
    by_cases q1 : (ns.length : Int) < c
    · rw [if_pos q1]
      by_cases q2 : (ns.length : Int) > 1
      · exact ⟨ns.length, by omega, by rw [if_pos q2]⟩
      · exact ⟨1, by omega, by rw [if_neg q2]; rfl⟩
    · rw [if_neg q1]
      by_cases q2 : c > 1
      · exact ⟨c.toNat, by omega, by rw [if_pos q2]; omega⟩
      · exact ⟨1, by omega, by rw [if_neg q2]; rfl⟩
  have ln : bLen [.ref 0] h = .v (.int ns.length) h := by
    have : lstAt h 0 = some (ns.map W.int) := by simp only [lstAt, h0]
    show (match lstAt h 0 with | some ls => Out.v (.int (ls.length : Nat)) h | none => .no) = _
    rw [this]
    show Out.v (.int ((ns.map W.int).length : Nat)) h = _
    rw [List.length_map]
  have b : -(2 ^ 62) ≤ (n : Int) ∧ (n : Int) < 2 ^ 62 := by constructor <;> omega
  refine ⟨n, hn, ?_⟩
  simp only [iR1, eCons_ap, eBlt_ap, eK_ap, eLoc_ap, eNil_ap, vb_v, vsb_vs, s0, locO_s, ln, bMin_int, bMax_int, en, OutI.ofs]
  rw [if_pos b, Int.toNat_natCast]
end Dr
set_option maxHeartbeats 2000000
namespace Dr
open PySem L2 PyProof.Rows
/-! ### the order of texts -/
theorem lt_nil (a : List Nat) : PySem.Spec.ltCps a [] = false := by cases a <;> rfl
theorem lt_cons (a b : Nat) (r t : List Nat) : PySem.Spec.ltCps (a :: r) (b :: t) = (decide (a < b) || (a == b && PySem.Spec.ltCps r t)) := rfl
theorem lt_asym : ∀ a b : List Nat, PySem.Spec.ltCps a b = false → PySem.Spec.ltCps b a = false → a = b
  | [], [], _, _ => rfl
  | [], _ :: _, h, _ => by cases h
  | _ :: _, [], _, h => by cases h
  | a :: r, b :: t, h1, h2 => by
    rw [lt_cons] at h1 h2
    simp only [Bool.or_eq_false_iff, Bool.and_eq_false_iff, decide_eq_false_iff_not, beq_eq_false_iff_ne] at h1 h2
    have e : a = b := by omega
    subst e
    have h1' := h1.2.resolve_left (fun z => z rfl)
    have h2' := h2.2.resolve_left (fun z => z rfl)
    rw [lt_asym r t h1' h2']
theorem le_trans' : ∀ a b c : List Nat, PySem.Spec.ltCps b a = false → PySem.Spec.ltCps c b = false → PySem.Spec.ltCps c a = false
  | [], _, c, _, _ => lt_nil c
  | a :: r, [], c, h, _ => by cases h
  | a :: r, b :: t, [], _, h => by cases h
  | a :: r, b :: t, c :: u, h1, h2 => by
    rw [lt_cons] at h1 h2 ⊢
    simp only [Bool.or_eq_false_iff, Bool.and_eq_false_iff, decide_eq_false_iff_not, beq_eq_false_iff_ne] at h1 h2 ⊢
    refine ⟨by omega, ?_⟩
    by_cases e : c = a
    · right
      have e1 : b = a := by omega
      have e2 : c = b := by omega
      exact le_trans' r t u (h1.2.resolve_left (fun z => z e1)) (h2.2.resolve_left (fun z => z e2))
    · exact .inl e
def leS (a b : Str) : Prop := PySem.Spec.ltCps b.cps.toList a.cps.toList = false
theorem leS_asym {a b : Str} (h1 : leS a b) (h2 : leS b a) : a = b := by
  have e := lt_asym _ _ h2 h1
  cases a; cases b
  exact congrArg Str.mk (Array.ext' e)
theorem rising_pw : ∀ (r : List Str) (p : Str), PyProof.Rows.risingS p r = true → (p :: r).Pairwise leS
  | [], p, _ => List.pairwise_singleton _ _
  | x :: r, p, h => by
    have h := Bool.and_eq_true_iff.mp (show (_ && _) = true from h)
    have ih := rising_pw r x h.2
    have px : leS p x := by
      have := h.1
      show PySem.Spec.ltCps x.cps.toList p.cps.toList = false
      simpa using this
    refine List.pairwise_cons.mpr ⟨fun z hz => ?_, ih⟩
    rcases List.mem_cons.mp hz with rfl | hz
    · exact px
    · exact le_trans' _ _ _ px ((List.pairwise_cons.mp ih).1 z hz)
theorem sorted_pw {r : List Str} (h : PyProof.Rows.sortedS r = true) : r.Pairwise leS := by
  cases r with
  | nil => exact List.Pairwise.nil
  | cons x r => exact rising_pw r x h
theorem same_of : ∀ {a b : List Str}, a.Perm b → a.Pairwise leS → b.Pairwise leS → a = b
  | [], b, hp, _, _ => (List.nil_perm.mp hp).symm
  | x :: a, b, hp, ha, hb => by
    cases b with
    | nil => exact absurd (List.perm_nil.mp hp) (by simp)
    | cons y b =>
      have hx : x ∈ y :: b := hp.mem_iff.mp List.mem_cons_self
      have hy : y ∈ x :: a := hp.mem_iff.mpr List.mem_cons_self
      have e : x = y := by
        rcases List.mem_cons.mp hx with e | hx
        · exact e
        · rcases List.mem_cons.mp hy with e | hy
          · exact e.symm
          · exact leS_asym ((List.pairwise_cons.mp ha).1 y hy) ((List.pairwise_cons.mp hb).1 x hx)
      subst e
      rw [same_of (List.perm_cons x |>.mp hp) (List.pairwise_cons.mp ha).2 (List.pairwise_cons.mp hb).2]
def insS (x : Str) : List Str → List Str
  | [] => [x]
  | y :: r => if PySem.Spec.ltCps y.cps.toList x.cps.toList = true then y :: insS x r else x :: y :: r
def sortS : List Str → List Str
  | [] => []
  | x :: r => insS x (sortS r)
theorem insS_perm (x : Str) : ∀ r : List Str, (insS x r).Perm (x :: r)
  | [] => .refl _
  | y :: r => by
    unfold insS
    split
    · exact ((insS_perm x r).cons y).trans (.swap x y r)
    · exact .refl _
theorem sortS_perm : ∀ r : List Str, (sortS r).Perm r
  | [] => .refl _
  | x :: r => (insS_perm x _).trans ((sortS_perm r).cons x)
theorem lt_le {a b : List Nat} (h : PySem.Spec.ltCps a b = true) : PySem.Spec.ltCps b a = false := by
  induction a generalizing b with
  | nil => exact lt_nil b
  | cons x r ih =>
    cases b with
    | nil => cases h
    | cons y t =>
      rw [lt_cons] at h ⊢
      simp only [Bool.or_eq_true, Bool.and_eq_true, decide_eq_true_eq, beq_iff_eq] at h
      simp only [Bool.or_eq_false_iff, Bool.and_eq_false_iff, decide_eq_false_iff_not, beq_eq_false_iff_ne]
      rcases h with h | ⟨h1, h2⟩
      · exact ⟨by omega, .inl (by omega)⟩
      · exact ⟨by omega, .inr (ih h2)⟩
theorem insS_pw (x : Str) : ∀ r : List Str, r.Pairwise leS → (insS x r).Pairwise leS
  | [], _ => by unfold insS; exact List.pairwise_singleton _ _
  | y :: r, h => by
    obtain ⟨h1, h2⟩ := List.pairwise_cons.mp h
    unfold insS
    split
    · rename_i q
      refine List.pairwise_cons.mpr ⟨fun z hz => ?_, insS_pw x r h2⟩
      rcases List.mem_cons.mp ((insS_perm x r).mem_iff.mp hz) with rfl | hz
      · exact lt_le q
      · exact h1 z hz
    · rename_i q
      have q : leS x y := by unfold leS; simpa using q
      exact List.pairwise_cons.mpr ⟨fun z hz => by
        rcases List.mem_cons.mp hz with rfl | hz
        · exact q
        · exact le_trans' _ _ _ q (h1 z hz), h⟩
theorem sortS_pw : ∀ r : List Str, (sortS r).Pairwise leS
  | [] => List.Pairwise.nil
  | x :: r => insS_pw x _ (sortS_pw r)
section
variable {G : Cfg} {X : Cx} {Z : WX} {k : Nat}
/-- sorted: ints, or less than 64 texts -/
def bSortedX : Fn := fun ws h => match ws with
  | [.ref n] => (match lstAt h n with
    | some ls => (match mapO W.num ls with
      | some ns => .v (.ref h.length) (h ++ [.lst ((sortI ns).map W.int)])
      | none => (match mapO W.st ls with
        | some ss => if ss.length < 64 then .v (.ref h.length) (h ++ [.lst ((sortS ss).map W.str)]) else .no
        | none => .no))
    | none => .no)
  | _ => .no
theorem c_sortedX (hK : X.K = G.K) : SC G X (.builtin "sorted") bSortedX := .mk fun m h H ws vs Z Q R r P => by
  unfold bSortedX at P
  split at P
  · rename_i n
    split at P
    · rename_i ls e
      split at P
      · rename_i ns en
        refine c_sorted hK m h H _ vs Z Q R r ?_
        show PoE G m h.length H Z Q (match lstAt h n with | some ls => (match mapO W.num ls with | some ns => .v (.ref h.length) (h ++ [.lst ((sortI ns).map W.int)]) | none => .no) | none => .no)
        rw [e]
        simp only [en]
        exact P
      · split at P
        · rename_i ss es
          split at P
          · rename_i few
            obtain ⟨us, hx, hu⟩ := lstAt_of R e
            cases r with
            | cons r1 r2 =>
              cases r1; cases r2
              rw [sts_of hu es] at hx
              refine ⟨_, cr_sortedS, m n, ss, rfl, hK ▸ hx, few, fun ys p hp hs hn => ?_⟩
              have e2 : ys = sortS ss := same_of (hp.trans (sortS_perm ss).symm) (sorted_pw hs) (sortS_pw ss)
              rw [e2]
              exact new_lst R hn (RWs.strs _) P
          · exact P.elim
        · exact P.elim
    · exact P.elim
  · exact P.elim
end
end Dr
set_option maxHeartbeats 2000000
namespace Dr
open PySem L2
/-! ### errors held as values -/
def eMkX (c : Nat) (f : Str) (a : Ev) : Ev := fun σ h => (a σ h).vb fun w h1 => .v (.ref h1.length) (h1 ++ [.exc c f w])
section
variable {G : Cfg} {X : Cx} {Z : WX} {k : Nat} {a b : Ev} {ea eb : Expr} {pos : Pos}
theorem s_mkX {c : Nat} {x f : Str} {p : Pos} (F : Fit G X Z k) (ok : XOk G X c x) (hf : G.fn c = f) (ha : SE G X Z a ea) (hg : Gl X x := by rfl) (hdb : (x == ("__debug__" : Str)) = false := by decide) (he : starEach (ea :: []) X.env = (false, eval ea X.env) :: starEach [] X.env := by rfl)
    (hpl : (backTo pos (starEach [] X.env)).any (·.1) = false := by rfl) : SE G X Z (eMkX c f a) (.Call (.Name x p) [ea] [] pos) := .mk fun m h H σ τ Q R S P pins s I => by
  obtain ⟨fI, B, newId, i, bmB, T⟩ := ok
  have h0 : WE X ea τ H (fun v H1 => ∃ m1 h1 w, Rep G.K G.cl m1 h1 H1 ∧ RW G.K G.cl m1 h1.length H1 w v ∧ PoE G m1 h1.length H1 Z Q (.v (.ref h1.length) (h1 ++ [.exc c f w]))) :=
    ha m h H σ τ _ R S (PoE.ee P fun w h1 m1 H1 v1 e1 R1 r1 P1 => ⟨m1, h1, w, R1, r1, P1⟩)
  refine wpAny_Call_Name_kw (ld_glob I hg T.gC ?_ hdb)
  refine PySem.W.callWith_K (h₀ := X.base) I.ok.mod.kin T.kC ?_ he hpl
  refine thn ((pa_cons (peM (X := X) (e := ea)) pa_nil he).run pos pins s τ H (fun vs H1 => ∃ v, vs = [v] ∧ ∃ m1 h1 w, Rep G.K G.cl m1 h1 H1 ∧ RW G.K G.cl m1 h1.length H1 w v ∧ PoE G m1 h1.length H1 Z Q (.v (.ref h1.length) (h1 ++ [.exc c f w]))) I
    (fun pins s I => thn (h0 pins s I) fun u s1 ⟨v, H1, I1, r1, q1⟩ => ⟨v, H1, I1, r1, v, rfl, q1⟩)) fun us s1 hh => ?_
  obtain ⟨vs, H1, I1, r1, v, ev, m1, h1, w, R1, rw1, P1⟩ := hh
  subst ev
  refine ⟨I1.kIn, ?_⟩
  cases r1 with
  | cons rv rn =>
    rename_i v' us'
    cases rn
    show wpAny _ _ (call (.ref (G.cl c)) [v']) _ _ _
    have hlim := I1.nolimit
    have hglob := I1.mod.glob.keeps I1.bk
    obtain ⟨mb, b1, b2⟩ := I1.mod.blt
    have hblt := b1.keeps I1.bk
    obtain ⟨hp, g, dr, tk, os⟩ := s1
    refine wpAny_call (PySem.XeX.x_made T I1.kIn hglob ⟨mb, hblt, b2⟩ hlim (by have := F.room.dp; omega) fun h' tk' e d M => ?_)
    obtain ⟨oe, fv, hoe, hc, hd, hdat, h5, _, _⟩ := M.obj
    have hns := M.ns
    obtain ⟨G', g1, g2⟩ := restrict h' fun b => decide (b ≠ e)
    have gk : ∀ b, b ≠ e → G'.get? b = h'.get? b := fun b hb => g1 b (decide_eq_true hb)
    have ge : G'.get? e = none := g2 e (by simp)
    have old : ∀ b o, hp.get? b = some o → G'.get? b = some o := fun b o q => (gk b (Nat.ne_of_lt (Nat.lt_of_lt_of_le (Heap.lt_size q) M.new))).trans (M.keep b o q)
    have ob : ObjOk X.prog X.w (upd H1 d (.xd [(G.fn c, v)])) G' d (.xd [(G.fn c, v)]) := ⟨_, hns.at (fun o q => (gk d M.dne).trans q), fun f => relO_x _ rv f⟩
    have J : Inv X pins τ (upd H1 d (.xd [(G.fn c, v)])) ⟨G', g, dr, tk', os⟩ := I1.laid (t' := tk') old M.dbig ob
    have hn : upd H1 d (.xd [(G.fn c, v)]) e = none := by rw [upd_ne (Ne.symm M.dne)]; exact I1.hok.fresh M.new
    have J2 : Inv X pins τ (upd (upd H1 d (.xd [(G.fn c, v)])) e (ExV (.ref (G.cl c)) d e)) ⟨h', g, dr, tk', os⟩ :=
      J.laidN (t' := tk') (fun b o q => by
        by_cases hb : b = e
        · have q' : G'.get? b = some o := q
          rw [hb, ge] at q'; cases q'
        · exact (gk b hb).symm.trans q) ge hn ⟨⟨oe, fv, hoe, ⟨hc, hd⟩, hdat⟩, ⟨oe, hoe⟩, fun _ _ ⟨o, v, q, r⟩ k => ⟨o, v, k o q, r⟩⟩
    have hd0 : H1 d = none := I1.hok.fresh M.dbig
    obtain ⟨R2, E2⟩ := R1.aside (q := d) (o := .xd [(G.fn c, v)]) hd0
    have E3 : Ext G.K m1 h1.length (upd H1 d (.xd [(G.fn c, v)])) (ext1 m1 h1.length e) (h1.length + 1) (upd (upd H1 d (.xd [(G.fn c, v)])) e (ExV (.ref (G.cl c)) d e)) := .add hn
    obtain ⟨R3, E4⟩ := R2.push (q := e) (u := ExV (.ref (G.cl c)) d e) (o := .exc c f w) hn ⟨d, v, upd_same, by rw [upd_ne M.dne, upd_same, hf], (rw1.mono E2).mono E3⟩
    refine ⟨.ref e, _, J2, rfl, P1 _ _ (.ref e) (E2.trans E4) R3 ?_⟩
    have q := RW.ref (K := G.K) (cl := G.cl) (m := ext1 m1 h1.length e) (L := (h1 ++ [IO.exc c f w]).length) (H := upd (upd H1 d (.xd [(G.fn c, v)])) e (ExV (.ref (G.cl c)) d e)) h1.length (by simp)
    have l : ext1 m1 h1.length e h1.length = e := by unfold ext1; rw [if_pos rfl]
    rw [l] at q; exact q
/-! ### its field -/
def xfAt (t : Nat → Bool) (f : Str) (x : W) (h : IH) : Out := match x with
  | .ref n => (match h[n]? with
    | some (.exc c g w) => if t c = true ∧ eqS g f = true then .v w h else .no
    | _ => .no)
  | _ => .no
def eXfV (t : Nat → Bool) (f : Str) (a : Ev) : Ev := fun σ h => (a σ h).vb (xfAt t f)
theorem s_xfV {f : Str} {t : Nat → Bool} (F : Fit G X Z k) (ok : ∀ c, t c = true → XfC X.K (G.cl c) ∧ PySem.W.findIn X.K (.ref (G.cl c)) f = some none) (ha : SE G X Z a ea) (hb : attributeBase ea f X.env (eval ea X.env) = eval ea X.env := by rfl) : SE G X Z (eXfV t f a) (.Attribute ea f pos) := .mk fun m h H σ τ Q R S P pins s I => by
  have h0 : WE X ea τ H (fun v H1 => ∃ (b : Addr) (c : Nat) (d : Addr) (v2 : V), v = .ref b ∧ t c = true ∧ H1 b = some (ExV (.ref (G.cl c)) d b) ∧ H1 d = some (.xd [(f, v2)]) ∧ Q v2 H1) :=
    ha m h H σ τ _ R S (PoE.ee P fun x h1 m1 H1 v1 e1 R1 r1 P1 => by
      cases r1 <;> first | exact P1.elim | skip
      rename_i n hn
      unfold xfAt at P1
      simp only at P1
      split at P1
      · rename_i c g w e
        split at P1
        · rename_i q
          obtain ⟨d, v2, x1, x2, x3⟩ := R1.obj n _ e
          have eg : g = f := by have z := q.2; rw [eqS_eq] at z; exact of_decide_eq_true z
          subst eg
          exact ⟨_, c, d, v2, rfl, q.1, x1, x2, P1 m1 H1 v2 Ext.refl R1 x3⟩
        · exact P1.elim
      · exact P1.elim)
  refine attr_of hb (thn (h0 pins s I) fun u s1 hh => ?_)
  obtain ⟨x, H1, I1, rx, b, c, d, v2, ex, tc, hb1, hd1, q⟩ := hh
  subst ex
  obtain rfl : u = Value.ref b := rx
  obtain ⟨T, hno⟩ := ok c tc
  obtain ⟨⟨oe, vs, ho, hz, hd⟩, _, _⟩ := (show ObjOk X.prog X.w H1 s1.heap b (ExV (.ref (G.cl c)) d b) from I1.hok b _ hb1)
  obtain ⟨mA, hns, hr⟩ := (show ObjOk X.prog X.w H1 s1.heap d (.xd [(f, v2)]) from I1.hok d _ hd1)
  obtain ⟨od, hod, hl⟩ := lookIn_ns hns
  obtain ⟨u, hu, ru⟩ := RelO.some_of (v := v2) (o := mA f) (by have := hr f; simpa [List.lookup] using this)
  have J : PySem.W.InstAt s1.heap b oe (G.cl c) (some od) := ⟨ho, hz.1, by unfold PySem.W.notCls; rw [hd] <;> rfl, by rw [hz.2]; exact hod⟩
  exact HandSPX.exc_get I1.kIn J T.ga T.gg T.exC (PySem.W.findObj_own T.hdC hno rfl (by rw [hl, hu])) (handed_of ru) ⟨v2, H1, I1.tok _, ru, q⟩
/-! ### isinstance -/
def xiAt (t : Nat → Option Bool) (x : W) (h : IH) : Out := match x with
  | .ref n => (match h[n]? with
    | some (.exc c _ _) => (match t c with | some b => .v (.bl b) h | none => .no)
    | _ => .no)
  | _ => .no
def eXiV (t : Nat → Option Bool) (a : Ev) : Ev := fun σ h => (a σ h).vb (xiAt t)
theorem call_xiV : CallR X (.builtin "isinstance") (fun xs H Q => ∃ (ad D dd : Addr) (c : V) (cv : Value) (b : Bool) (fs : List (Str × V)), xs = [.ref ad, c] ∧ ExcC X.K D ∧ ClsV c cv ∧ PySem.W.kitOne X.K (.ref D) cv = some b ∧ H ad = some (ExV (.ref D) dd ad) ∧ H dd = some (.xd fs) ∧ Q (.bl b) H) := by
  intro pins s σ H xs us Q I r h
  obtain ⟨ad, D, dd, c, cv, b, fs, rfl, C, k, e, had, hdd, q⟩ := h
  obtain ⟨u1, u2, rfl, r1, r2⟩ := vals2 r
  obtain rfl : u1 = Value.ref ad := r1
  have e2 := k.eq r2
  subst e2
  obtain ⟨⟨oe, vs, ho, hz, hv⟩, _, _⟩ := (show ObjOk X.prog X.w H s.heap ad (ExV (.ref D) dd ad) from I.hok ad _ had)
  obtain ⟨mA, hns, hr⟩ := (show ObjOk X.prog X.w H s.heap dd (.xd fs) from I.hok dd _ hdd)
  obtain ⟨od, hod, hl⟩ := lookIn_ns hns
  have J : PySem.W.InstAt s.heap ad oe D (some od) := ⟨ho, hz.1, by unfold PySem.W.notCls; rw [hv] <;> rfl, by rw [hz.2]; exact hod⟩
  exact PySem.W.kia_one (PySem.W.drKit (ox := oe) C) I.kIn ⟨_, J⟩ e (fun z => nomatch z) fun tk => ⟨.bl b, H, I.kept (t' := tk) fun _ _ z => z, rfl, q⟩
theorem s_xiV {x : Str} {c : V} {cv : Value} {t : Nat → Option Bool} {p p2 : Pos} (ok : XiOk G X t cv) (cn : CName X x c cv) (ha : SE G X Z a ea) (hm : X.mg "isinstance" = none) (hg : Gl X "isinstance" := by rfl) (hg2 : Gl X x := by rfl) (hn2 : x ≠ "__name__" := by decide) (hd2 : (x == ("__debug__" : Str)) = false := by decide)
    (he : starEach [ea, .Name x p2] X.env = (false, eval ea X.env) :: starEach [.Name x p2] X.env := by rfl) (he2 : starEach [.Name x p2] X.env = (false, eval (.Name x p2) X.env) :: starEach [] X.env := by rfl) (hpl : (backTo pos (starEach [.Name x p2] X.env)).any (·.1) = false := by rfl) :
    SE G X Z (eXiV t a) (.Call (.Name "isinstance" p) [ea, .Name x p2] [] pos) := .mk fun m h H σ τ Q R S P => by
  refine WE.of (pe_callB (call_xiV (X := X)) hg hm (by decide +kernel) (pa_cons peM (pa_cons (pe_cname cn hg2 hn2 hd2) pa_nil he2) he) (by decide) (by decide) he hpl) (ha m h H σ τ _ R S (PoE.ee P fun w h1 m1 H1 v e1 R1 r1 P1 => ?_))
  cases r1 <;> first | exact P1.elim | skip
  rename_i n hn
  unfold xiAt at P1
  simp only at P1
  split at P1
  · rename_i c' g w e
    split at P1
    · rename_i y ty
      obtain ⟨o1, o2⟩ := ok c' y ty
      obtain ⟨d, v2, x1, x2, x3⟩ := R1.obj n _ e
      exact ⟨_, _, d, c, cv, y, _, rfl, o1, cn.1, o2, x1, x2, P1 m1 H1 _ Ext.refl R1 (.bl _)⟩
    · exact P1.elim
  · exact P1.elim
end
end Dr
set_option maxHeartbeats 2000000
namespace Dr
open PySem L2
section
variable {G : Cfg} {X : Cx} {Z : WX} {k : Nat} {a b c : Ev} {ea eb ec : Expr} {pos : Pos}
/-- a call of which the value alone is taken -/
theorem run_v {A : Around} {f : Addr} {fn : Fn} {dw ws : List W} {τ : St} {m : Nat → Addr} {h h' : IH} {H : Hp} {w : W} {vs : List V} {us : List Value} {Q : VK} {pins : List (Addr × Obj)} {s : Shared} (gd : A.guards = some []) (hr : Room k A) (e0 : Env0 X.prog X.w X.K X.mg X.base A X.stack s H)
    (ok : FOk G X k f fn dw) (R : Rep G.K G.cl m h H) (r : RWs G.K G.cl m h.length H ws vs) (e : fn (ws ++ dw) h = .v w h') (P : PoE G m h.length H Z Q (.v w h')) (I : Inv X pins τ H s) (rv : Vals vs us) :
    codeAny (model X.prog X.w) A (.call (.ref f) ⟨us, []⟩) (fun r s' => match r with | .ok (.ret v) => EP X pins τ Q v s' | _ => False) s := by
  obtain ⟨fd, ps, ds, dvs, Fo, hb, hd, hw, ar⟩ := ok
  have r2 : RWs G.K G.cl m h.length H (ws ++ dw) (vs ++ dvs) := r.append (hw _ _ _)
  have rv2 : Vals (vs ++ dvs) (us ++ ds) := rv.append hd
  by_cases hl : (ws ++ dw).length = ps.length
  · have sp : spC G ps.length fn (vs ++ dvs) H Q (fun _ _ _ => False) := ⟨m, h, ws ++ dw, hl, R, r2, by rw [e]; exact P⟩
    have hl2 : (us ++ ds).length = ps.length := by rw [← rv2.length, ← r2.length]; exact hl
    refine codeAny_mono (Fo.go A X.stack s H ⟨us, []⟩ (us ++ ds) (vs ++ dvs) Q _ gd hr e0 (hb s us I.kIn hl2) rv2 sp) fun r s' hq => ?_
    cases r with
    | error e =>
      exact cx2_no (show CX2 G.dty X.prog X.w X.stack H s (fun _ _ _ => False) e s' from hq)
    | ok fl =>
      cases fl with
      | ret u => exact I.after hq
      | next => exact hq
      | brk => exact hq
      | cont => exact hq
  · rw [ar _ h hl] at e
    cases e
/-! ### a property of a class with slots -/
def valO : Out → Out
  | .v w h => .v w h
  | _ => .no
structure PropOk (G : Cfg) (X : Cx) (c : Nat) (f : Str) (g : Addr) : Prop where
  sc : SlX.SCls X.K (G.cl c)
  pr : ∃ p, PySem.W.findIn X.K (.ref (G.cl c)) f = some (some (.ref p)) ∧ PySem.W.specialIn X.K (.ref p) "__get__" = some (some (.builtin "property.__get__")) ∧ PySem.W.takesIn X.K (.ref p) = some true ∧ ∃ rest, PySem.W.recIn X.K p "property" = some (.ref g :: rest)
def eProp (c : Nat) (fn : Fn) (a : Ev) : Ev := fun σ h => (a σ h).vb fun x h1 => recvS c x h1 (valO (fn [x] h1))
theorem valO_at {o : Out} {m : Nat → Addr} {L : Nat} {H : Hp} {Q : VK} (P : PoE G m L H Z Q (valO o)) : ∃ w h', o = .v w h' ∧ PoE G m L H Z Q (.v w h') := by
  cases o <;> first | exact P.elim | exact ⟨_, _, rfl, P⟩
theorem s_prop {cc : Nat} {f : Str} {g : Addr} {fn : Fn} (F : Fit G X Z (k + 1)) (po : PropOk G X cc f g) (ok : FOk G X k g fn []) (ha : SE G X Z a ea) (hb : attributeBase ea f X.env (eval ea X.env) = eval ea X.env := by rfl) :
    SE G X Z (eProp cc fn a) (.Attribute ea f pos) := .mk fun m h H σ τ Q R S P pins s I => by
  refine attr_of hb (thn (ha m h H σ τ (fun v H1 => ∃ m1 h1 x, Ext G.K m h.length H m1 h1.length H1 ∧ Rep G.K G.cl m1 h1 H1 ∧ RW G.K G.cl m1 h1.length H1 x v ∧ PoE G m1 h1.length H1 Z Q (recvS cc x h1 (valO (fn [x] h1)))) R S
    (PoE.ee P fun x h1 m1 H1 v e1 R1 r1 P1 => ⟨m1, h1, x, e1, R1, r1, P1⟩) pins s I) fun u s1 ⟨v, H1, I1, rv, m1, h1, x, e1, R1, r1, P1⟩ => ?_)
  obtain ⟨n, dx, vs, rfl, hsl, P2⟩ := recvS_at R1 r1 P1
  obtain ⟨w, h2, ew, P3⟩ := valO_at P2
  obtain rfl : u = Value.ref (m1 n) := rv
  obtain ⟨c1, p, at_, get, tk, rest, hrec⟩ := po
  obtain ⟨sl, od, _, J, _⟩ := SlX.slt_inst I1 hsl
  have I2 : Inv X pins τ H1 { s1 with toks := s1.toks + 1 } := I1.tok (s1.toks + 1)
  refine PySem.W.get_bind I1.kIn J (PySem.W.plainGet_of (c1.get f)).1 (PySem.W.findObj_data c1.ic at_ get tk) (PySem.W.plainGet_of (c1.get f)).2 (wpAny_call (PySem.W.prop_get (s := { s1 with toks := s1.toks + 1 }) I1.kIn hrec ?_))
  refine codeAny_mono (run_v (A := X.A.in1) (ws := [x]) (vs := [.ref (m1 n)]) (us := [.ref (m1 n)]) F.gd F.room.in1 I2.env0.in1 ok R1 (.cons r1 .nil) (by simpa using ew) P3 I2 (.cons rfl .nil)) fun r s' hq => ?_
  cases r with
  | error e => exact hq.elim
  | ok fl =>
    cases fl with
    | ret u =>
      obtain ⟨v, H', I3, rv, q⟩ := hq
      exact wpAny_of_eq (PySem.W.handedOut_of (handed_of rv)) ⟨v, H', I3, rv, q⟩
    | next => exact hq.elim
    | brk => exact hq.elim
    | cont => exact hq.elim
end
end Dr
set_option maxHeartbeats 2000000
namespace Dr
open PySem L2
/-! ### x in o, o an instance with slots and its own __contains__ -/
theorem contains_own {M : Model} {A : Around} {E : Value → Shared → Prop} {s : Shared} {K : PySem.W.Frag} {x C f : Addr} {ox : Obj} {od : Option Obj} {y : Value} {Q : Bool → Shared → Prop} (X : K.In s.heap) (I : PySem.W.InstAt s.heap x ox C od) (hs : PySem.W.findIn K (.ref C) "__contains__" = some (some (.ref f))) (hf : PySem.W.isFn K (.ref f) = true)
    (h : wpAny M A (call (.ref f) [.ref x, y]) (fun v s' => ∃ b, v = Value.bool b ∧ Q b s') E s) : wpAny M A (contains (.ref x) y) Q E s := by
  unfold contains
  refine wpAny_holding ?_
  simp only [stdlibNamesSay?]
  refine wpAny_bind (wpAny_bind (I.type.here ((PySem.W.looks_findIn X hs).here ?_)))
  rw [show ((some (Value.ref f) : Option Value) == some Value.none) = false from rfl]
  simp only [Bool.false_eq_true, if_false]
  refine wpAny_bind ?_
  unfold callSpecialUnlessNone?
  refine wpAny_bind (wpAny_bind (I.type.here ((PySem.W.looks_findIn X hs).here ?_)))
  refine wpAny_holding (wpAny_bind ((PySem.W.bind_fn X _ (beq_iff_eq.mp hf)).here ?_))
  simp only
  rw [show (Value.ref f == Value.none) = false from rfl]
  simp only [Bool.false_eq_true, if_false]
  refine wpAny_bind (wpAny_mono h (fun v s' hv => ?_) fun _ _ z => z)
  obtain ⟨b, rfl, q⟩ := hv
  exact wpAny_pure (wpAny_truthy_bool q)
def bolO : Out → Out
  | .v (.bl b) h => .v (.bl b) h
  | _ => .no
def notO : Out → Out
  | .v (.bl b) h => .v (.bl (!b)) h
  | _ => .no
def oInO (c : Nat) (fn : Fn) (x y : W) (h : IH) : Out := recvS c y h (bolO (fn [y, x] h))
def oNotInO (c : Nat) (fn : Fn) (x y : W) (h : IH) : Out := recvS c y h (notO (fn [y, x] h))
section
variable {G : Cfg} {X : Cx} {Z : WX} {k : Nat}
theorem bolO_at {o : Out} {Z : WX} {m : Nat → Addr} {L : Nat} {H : Hp} {Q : VK} (P : PoE G m L H Z Q (bolO o)) : ∃ b h', o = .v (.bl b) h' ∧ PoE G m L H Z Q (.v (.bl b) h') := by
  cases o with
  | v w h => cases w <;> first | exact P.elim | exact ⟨_, _, rfl, P⟩
  | vs w h => exact P.elim
  | nx s h => exact P.elim
  | rt w h => exact P.elim
  | bk s h => exact P.elim
  | ct s h => exact P.elim
  | ex c w s h => exact P.elim
  | no => exact P.elim
theorem notO_at {o : Out} {Z : WX} {m : Nat → Addr} {L : Nat} {H : Hp} {Q : VK} (P : PoE G m L H Z Q (notO o)) : ∃ b h', o = .v (.bl b) h' ∧ PoE G m L H Z Q (.v (.bl (!b)) h') := by
  cases o with
  | v w h => cases w <;> first | exact P.elim | exact ⟨_, _, rfl, P⟩
  | vs w h => exact P.elim
  | nx s h => exact P.elim
  | rt w h => exact P.elim
  | bk s h => exact P.elim
  | ct s h => exact P.elim
  | ex c w s h => exact P.elim
  | no => exact P.elim
structure OwnOk (G : Cfg) (X : Cx) (c : Nat) (nm : Str) (g : Addr) : Prop where
  sc : SlX.SCls X.K (G.cl c)
  at_ : PySem.W.findIn X.K (.ref (G.cl c)) nm = some (some (.ref g))
  fn : PySem.W.isFn X.K (.ref g) = true
/-- the call of an own def that answers a truth value, as a call from an operator -/
theorem run_b {f : Addr} {fn : Fn} {ws : List W} {τ : St} {m : Nat → Addr} {h h' : IH} {H : Hp} {bb : Bool} {vs : List V} {us : List Value} {pins : List (Addr × Obj)} {s : Shared} {A : Around} (gd : A.guards = some []) (hr : Room k A) (e0 : Env0 X.prog X.w X.K X.mg X.base A X.stack s H)
    (ok : FOk G X k f fn []) (R : Rep G.K G.cl m h H) (r : RWs G.K G.cl m h.length H ws vs) (e : fn ws h = .v (.bl bb) h') (I : Inv X pins τ H s) (rv : Vals vs us) {Q : Value → Shared → Prop} {E : Value → Shared → Prop} (q : ∀ s' m' H', Ext G.K m h.length H m' h'.length H' → Rep G.K G.cl m' h' H' → Inv X pins τ H' s' → Q (.bool bb) s') :
    wpAny (model X.prog X.w) A (call (.ref f) us) Q E s := by
  refine wpAny_call (codeAny_mono (run_v (Z := fun _ _ _ _ => False) (Q := fun v H' => v = .bl bb ∧ ∃ m', Ext G.K m h.length H m' h'.length H' ∧ Rep G.K G.cl m' h' H') gd hr e0 ok R r (by rw [List.append_nil]; exact e) (fun m' H' v e' R' r' => by cases r'; exact ⟨rfl, m', e', R'⟩) I rv) fun r s' hq => ?_)
  cases r with
  | error e => exact hq.elim
  | ok fl =>
    cases fl with
    | ret u =>
      obtain ⟨v, H', I', rv', rfl, m', e', R'⟩ := hq
      obtain rfl : u = Value.bool bb := rv'
      exact q s' m' H' e' R' I'
    | next => exact hq.elim
    | brk => exact hq.elim
    | cont => exact hq.elim
theorem so_inO {cc : Nat} {g : Addr} {fn : Fn} (F : Fit G X Z k) (po : OwnOk G X cc "__contains__" g) (ok : FOk G X k g fn []) : SO G X (compareOp .In) (oInO cc fn) := .mk fun m h H x y vx vy Z' Q R rx ry P => by
  refine ⟨fun x' y' H' Q' => x' = vx ∧ y' = vy ∧ H' = H ∧ Q' = Q, ?_, rfl, rfl, rfl, rfl⟩
  rintro pins s σ H' x' y' v u Q' I r1 r2 ⟨rfl, rfl, rfl, rfl⟩
  obtain ⟨n, dx, vs, rfl, hsl, P2⟩ := recvS_at R ry P
  obtain ⟨bb, h', eb, P3⟩ := bolO_at P2
  obtain rfl : u = Value.ref (m n) := r2
  obtain ⟨sl, od, _, J, _⟩ := SlX.slt_inst I hsl
  show wpAny _ _ (contains (.ref (m n)) v >>= fun b => pure (Value.bool b)) _ _ s
  refine wpAny_bind (contains_own I.kIn J po.at_ po.fn (run_b (ws := [y, x]) (vs := [.ref (m n), x']) F.gd F.room I.env0 ok R (.cons ry (.cons rx .nil)) eb I (.cons rfl (.cons r1 .nil)) fun s' m' H1 e' R' I' => ⟨bb, rfl, wpAny_pure ?_⟩))
  exact ⟨.bl bb, H1, I', rfl, P3 m' H1 _ e' R' (.bl _)⟩
theorem so_notInO {cc : Nat} {g : Addr} {fn : Fn} (F : Fit G X Z k) (po : OwnOk G X cc "__contains__" g) (ok : FOk G X k g fn []) : SO G X (compareOp .NotIn) (oNotInO cc fn) := .mk fun m h H x y vx vy Z' Q R rx ry P => by
  refine ⟨fun x' y' H' Q' => x' = vx ∧ y' = vy ∧ H' = H ∧ Q' = Q, ?_, rfl, rfl, rfl, rfl⟩
  rintro pins s σ H' x' y' v u Q' I r1 r2 ⟨rfl, rfl, rfl, rfl⟩
  obtain ⟨n, dx, vs, rfl, hsl, P2⟩ := recvS_at R ry P
  obtain ⟨bb, h', eb, P3⟩ := notO_at P2
  obtain rfl : u = Value.ref (m n) := r2
  obtain ⟨sl, od, _, J, _⟩ := SlX.slt_inst I hsl
  show wpAny _ _ (contains (.ref (m n)) v >>= fun b => pure (Value.bool (!b))) _ _ s
  refine wpAny_bind (contains_own I.kIn J po.at_ po.fn (run_b (ws := [y, x]) (vs := [.ref (m n), x']) F.gd F.room I.env0 ok R (.cons ry (.cons rx .nil)) eb I (.cons rfl (.cons r1 .nil)) fun s' m' H1 e' R' I' => ⟨bb, rfl, wpAny_pure ?_⟩))
  exact ⟨.bl (!bb), H1, I', rfl, P3 m' H1 _ e' R' (.bl _)⟩
end
end Dr
set_option maxHeartbeats 2000000
namespace Dr
open PySem L2
/-! ### o == y, o != y by an own __eq__ -/
section
variable {G : Cfg} {X : Cx} {Z : WX} {k : Nat}
/-- what may stand on the right: an int, a text, an instance of the same class -/
def rightOk (c : Nat) (y : W) (h : IH) : Bool := match y with
  | .int _ => true
  | .str _ => true
  | .ref n => (match h[n]? with | some (.slt c' _) => Nat.beq c' c | _ => false)
  | _ => false
def oEqO (c : Nat) (fn : Fn) (x y : W) (h : IH) : Out := if rightOk c y h = true then recvS c x h (bolO (fn [x, y] h)) else .no
def oNeO (c : Nat) (fn : Fn) (x y : W) (h : IH) : Out := if rightOk c y h = true then recvS c x h (notO (fn [x, y] h)) else .no
structure EqOk (G : Cfg) (X : Cx) (c : Nat) (g : Addr) : Prop where
  own : OwnOk G X c "__eq__" g
  ni : PySem.W.notFirst X.K (G.cl c) (.type "int") = true
  ns : PySem.W.notFirst X.K (G.cl c) (.type "str") = true
theorem right_at {c : Nat} {g : Addr} {y : W} {vy : V} {u : Value} {m : Nat → Addr} {h : IH} {H : Hp} {τ : St} {pins : List (Addr × Obj)} {s : Shared} (po : EqOk G X c g) (R : Rep G.K G.cl m h H) (ry : RW G.K G.cl m h.length H y vy) (q : rightOk c y h = true) (I : Inv X pins τ H s) (r2 : RelV vy u) :
    ∃ tb, PySem.W.Looks (model X.prog X.w) s.heap (typeOf u) tb ∧ PySem.W.notFirst X.K (G.cl c) tb = true := by
  unfold rightOk at q
  cases ry <;> first | cases q | skip
  · obtain ⟨t, rfl⟩ := (show ∃ t, u = Value.int _ t from r2)
    exact ⟨.type "int", .of_pure rfl, po.ni⟩
  · obtain ⟨t, rfl⟩ := (show ∃ t, u = Value.str _ t from r2)
    exact ⟨.type "str", .of_pure rfl, po.ns⟩
  · rename_i n hn
    simp only at q
    split at q
    · rename_i c' ws e
      have := Nat.eq_of_beq_eq_true q
      subst this
      obtain ⟨dx, vs, hs, _⟩ := slt_of R e
      obtain rfl : u = Value.ref (m n) := r2
      obtain ⟨sl, od, _, J, _⟩ := SlX.slt_inst I hs
      exact ⟨.ref (G.cl c'), J.type, by unfold PySem.W.notFirst; simp⟩
    · cases q
theorem so_eqO {cc : Nat} {g : Addr} {fn : Fn} (F : Fit G X Z k) (po : EqOk G X cc g) (ok : FOk G X k g fn []) : SO G X (compareOp .Eq) (oEqO cc fn) := .mk fun m h H x y vx vy Z' Q R rx ry P => by
  refine ⟨fun x' y' H' Q' => x' = vx ∧ y' = vy ∧ H' = H ∧ Q' = Q, ?_, rfl, rfl, rfl, rfl⟩
  rintro pins s σ H' x' y' v u Q' I r1 r2 ⟨rfl, rfl, rfl, rfl⟩
  unfold oEqO at P
  split at P
  · rename_i hq
    obtain ⟨tb, lk, nf⟩ := right_at po R ry hq I r2
    obtain ⟨n, dx, vs, rfl, hsl, P2⟩ := recvS_at R rx P
    obtain ⟨bb, h', eb, P3⟩ := bolO_at P2
    obtain rfl : v = Value.ref (m n) := r1
    obtain ⟨sl, od, _, J, _⟩ := SlX.slt_inst I hsl
    obtain ⟨m0, hF⟩ := I.fr
    show wpAny _ _ (richCompare .Eq (.ref (m n)) u) _ _ s
    refine PySem.W.cmp_K (op := .Eq) (tb := tb) F.room.units0 hF I.ok.mod.kin J lk nf po.own.at_ po.own.fn (run_b (ws := [x, y]) (vs := [.ref (m n), y']) F.gd F.room I.env0 ok R (.cons rx (.cons ry .nil)) eb I (.cons rfl (.cons r2 .nil)) fun s' m' H1 e' R' I' => ?_)
    exact ⟨.bl bb, H1, I', rfl, P3 m' H1 _ e' R' (.bl _)⟩
  · exact P.elim
end
end Dr
set_option maxHeartbeats 2000000
namespace Dr
open PySem L2
/-! ### o != y, by object.__ne__ over an own __eq__ -/
theorem bind_ne (self : Value) : bindSpecial (.builtin "object.__ne__") self = pure (.builtin "object.__ne__", [self]) := by
  first | rfl | kernel_rfl
theorem check_slotK {M : Model} {A : Around} {E : Value → Shared → Prop} {s : Shared} {K : PySem.W.Frag} {x C : Addr} {ox : Obj} {od : Option Obj} {id owner n : String} {rest : List Value} {Q : Unit → Shared → Prop} (hk : builtinKind id = some .slot) (hs : splitId id = some (owner, n)) (ha : argsOk id ⟨.ref x :: rest, []⟩)
    (X : K.In s.heap) (I : PySem.W.InstAt s.heap x ox C od) (e : PySem.W.subIn K (.ref C) (.type owner) = some true) (hq : Q () s) : wpAny M A (checkBuiltinCall id ⟨.ref x :: rest, []⟩) Q E s := by
  simp only [checkBuiltinCall, hk, hs]
  refine wpAny_bind ?_
  unfold isInstance
  refine wpAny_bind (I.type.here ((PySem.W.looks_subIn X e).here ?_))
  simp only [Bool.not_true, Bool.false_eq_true, if_false]
  cases hsig : Manifest.signature? id with
  | none => exact wpAny_pure hq
  | some sig =>
    simp only [argsOk, hsig] at ha
    have h2 : Bind.checkArgs id sig ⟨.ref x :: rest, []⟩ = pure () := ha
    show wpAny M A (Bind.checkArgs id sig ⟨.ref x :: rest, []⟩) Q E _
    rw [h2]; exact wpAny_pure hq
section
variable {prog : Program} {w : World} {A : Around} {E : Value → Shared → Prop} {s : Shared} {K : PySem.W.Frag} {x C f : Addr} {ox : Obj} {od : Option Obj} {y tb : Value}
theorem ne_entry {Q : Fin → Shared → Prop} (X : K.In s.heap) (I : PySem.W.InstAt s.heap x ox C od) (hs : PySem.W.findIn K (.ref C) "__eq__" = some (some (.ref f))) (hf : PySem.W.isFn K (.ref f) = true) (hu : A.units < cLine)
    (h : wpAny (model prog w) A (call (.ref f) [.ref x, y]) (fun v s' => ∃ b, v = Value.bool b ∧ Q (.done (.ret (.bool (!b)))) s') E s) : wpAny (model prog w) A (Builtin.«object.__ne__» ⟨[.ref x, y], []⟩) Q E s := by
  unfold Builtin.«object.__ne__»
  repeat (first
    | with_reducible refine wpAny_cRoomFor hu ?_
    | (refine wpAny_bind (m := callSpecialIfBound? (.ref x) (Str.ofString "__eq__") [y])
        (PySem.W.ifBound_K X I hs hf (wpAny_mono h (fun r s' hr => by
          obtain ⟨b, rfl, hq⟩ := hr
          repeat (first | exact hq | exact wpAny_pure hq | exact wpAny_truthy_bool hq | (refine wpAny_bind (m := truthy (.bool _)) (wpAny_truthy_bool ?_)) | wp_step)) fun _ _ e => e)))
    | wp_step)
theorem ifBound_ne {M : Model} {args : List Value} {Q : Option Value → Shared → Prop} (X : K.In s.heap) (I : PySem.W.InstAt s.heap x ox C od) (hs : PySem.W.findIn K (.ref C) "__ne__" = some (some (.builtin "object.__ne__")))
    (h : wpAny M A (call (.builtin "object.__ne__") (.ref x :: args)) (fun v => Q (some v)) E s) : wpAny M A (callSpecialIfBound? (.ref x) "__ne__" args) Q E s := by
  simp only [callSpecialIfBound?, bindSpecialIfBound?]
  refine wpAny_holding (wpAny_bind (wpAny_bind (wpAny_bind (I.type.here ((PySem.W.looks_findIn X hs).here ?_)))))
  simp only [bind_ne]
  refine wpAny_bind (wpAny_askSetting (wpAny_ite ?_))
  have fin : wpAny M A (call (.builtin "object.__ne__") ([.ref x] ++ args) >>= fun v => pure (some v)) Q E s := wpAny_bind (wpAny_mono h (fun v s' h' => wpAny_pure h') fun _ _ h' => h')
  split
  · exact wpAny_bind (wpAny_pure (wpAny_pure fin))
  · exact wpAny_tryCatch (wpAny_bind (wpAny_pure (wpAny_pure fin)))
theorem cmp_ne {Q : Value → Shared → Prop} {h₀ : Heap} {L : Addr} {m : Str → Option Value} (hu : A.units + 1 < cLine) (F : PyProof.Rows.Fr h₀ L s.heap m) (X₀ : K.In h₀) (I : PySem.W.InstAt s.heap x ox C od) (hb : PySem.W.Looks (model prog w) s.heap (typeOf y) tb) (hn : PySem.W.notFirst K C tb = true)
    (hs : PySem.W.findIn K (.ref C) "__ne__" = some (some (.builtin "object.__ne__"))) (hse : PySem.W.findIn K (.ref C) "__eq__" = some (some (.ref f))) (hf : PySem.W.isFn K (.ref f) = true) (ho : PySem.W.subIn K (.ref C) (.type "object") = some true)
    (h : wpAny (model prog w) A.in1 (call (.ref f) [.ref x, y]) (fun v s' => ∃ b, v = Value.bool b ∧ Q (.bool (!b)) s') E s) : wpAny (model prog w) A (richCompare .NotEq (.ref x) y) Q E s := by
  have X := X₀.keeps F.keep
  have one : wpAny (model prog w) A (tryCompare (.ref x) "__ne__" y) (fun r s' => ∃ v, r = some v ∧ Q v s') E s := by
    unfold tryCompare
    refine wpAny_bind (ifBound_ne X I hs (wpAny_call (codeAny_call_builtin (by decide +kernel) PySem.F.cmpEntry_ne (check_slotK PySem.F.cmpKind_ne PySem.F.cmpSplit_ne (PySem.F.cmpArgs_ne _ _) X I ho (ne_entry (A := A.in1) X I hse hf hu (wpAny_mono h (fun v s' hv => ?_) fun _ _ e => e))))))
    obtain ⟨b, rfl, hq⟩ := hv
    first | exact ⟨b, rfl, wpAny_pure ⟨_, rfl, hq⟩⟩ | exact ⟨b, rfl, wpAny_pure (wpAny_pure ⟨_, rfl, hq⟩)⟩
  unfold richCompare
  simp only [oneThing_ref]
  refine wpAny_holding (wpAny_bind (wpAny_cRoomFor (Nat.lt_of_succ_lt hu) ?_))
  refine wpAny_bind (I.type.here (wpAny_bind (hb.here ?_)))
  split
  · rename_i q
    have e : PySem.W.subIn K tb (.ref C) = some false := by
      rcases Bool.or_eq_true_iff.mp hn with e | e
      · rw [beq_iff_eq.mp e] at q; simp at q
      · exact beq_iff_eq.mp e
    refine wpAny_bind ((PySem.W.looks_subIn X e).here ?_)
    simp only [Bool.false_eq_true, if_false]
    refine wpAny_bind (wpAny_mono one (fun r s' z => ?_) fun _ _ e => e)
    obtain ⟨v, rfl, hq⟩ := z
    exact wpAny_pure hq
  · refine wpAny_bind (wpAny_pure ?_)
    simp only [Bool.false_eq_true, if_false]
    refine wpAny_bind (wpAny_mono one (fun r s' z => ?_) fun _ _ e => e)
    obtain ⟨v, rfl, hq⟩ := z
    exact wpAny_pure hq
end
section
variable {G : Cfg} {X : Cx} {Z : WX} {k : Nat}
structure NeOk (G : Cfg) (X : Cx) (c : Nat) (g : Addr) : Prop where
  eq : EqOk G X c g
  ne : PySem.W.findIn X.K (.ref (G.cl c)) "__ne__" = some (some (.builtin "object.__ne__"))
  ob : PySem.W.mroIn X.K (G.cl c) (.type "object") = some true
theorem so_neO {cc : Nat} {g : Addr} {fn : Fn} (F : Fit G X Z (k + 1)) (po : NeOk G X cc g) (ok : FOk G X k g fn []) : SO G X (compareOp .NotEq) (oNeO cc fn) := .mk fun m h H x y vx vy Z' Q R rx ry P => by
  refine ⟨fun x' y' H' Q' => x' = vx ∧ y' = vy ∧ H' = H ∧ Q' = Q, ?_, rfl, rfl, rfl, rfl⟩
  rintro pins s σ H' x' y' v u Q' I r1 r2 ⟨rfl, rfl, rfl, rfl⟩
  unfold oNeO at P
  split at P
  · rename_i hq
    obtain ⟨tb, lk, nf⟩ := right_at po.eq R ry hq I r2
    obtain ⟨n, dx, vs, rfl, hsl, P2⟩ := recvS_at R rx P
    obtain ⟨bb, h', eb, P3⟩ := notO_at P2
    obtain rfl : v = Value.ref (m n) := r1
    obtain ⟨sl, od, _, J, _⟩ := SlX.slt_inst I hsl
    obtain ⟨m0, hF⟩ := I.fr
    show wpAny _ _ (richCompare .NotEq (.ref (m n)) u) _ _ s
    refine cmp_ne (tb := tb) (by have := F.room.un; omega) hF I.ok.mod.kin J lk nf po.ne po.eq.own.at_ po.eq.own.fn po.ob (run_b (A := X.A.in1) (ws := [x, y]) (vs := [.ref (m n), y']) F.gd F.room.in1 I.env0.in1 ok R (.cons rx (.cons ry .nil)) eb I (.cons rfl (.cons r2 .nil)) fun s' m' H1 e' R' I' => ⟨bb, rfl, ?_⟩)
    exact ⟨.bl (!bb), H1, I', rfl, P3 m' H1 _ e' R' (.bl _)⟩
  · exact P.elim
end
end Dr
set_option maxHeartbeats 2000000
namespace Dr
open PySem L2
section
variable {G : Cfg} {X : Cx} {Z : WX} {k : Nat} {a b c : Ev} {ea eb ec : Expr} {pos : Pos}
/-! ### isinstance(x, C), C an own class -/
def slOf (x : W) (h : IH) : Option Nat := match x with
  | .ref n => (match h[n]? with | some (.slt c _) => some c | _ => none)
  | _ => none
def isO (ts : Nat → Option Bool) (tk : Kd → Option Bool) (x : W) (h : IH) : Option Bool := match slOf x h with
  | some c => ts c
  | none => match tgOf x h with
    | some g => tk g
    | none => none
def eIsO (ts : Nat → Option Bool) (tk : Kd → Option Bool) (a : Ev) : Ev := fun σ h => (a σ h).vb fun x h1 => match isO ts tk x h1 with
  | some q => .v (.bl q) h1
  | none => .no
structure IsOk (G : Cfg) (X : Cx) (cc : Nat) (ts : Nat → Option Bool) (tk : Kd → Option Bool) : Prop where
  s : ∀ c q, ts c = some q → SlX.SCls X.K (G.cl c) ∧ SlX.SIsi X.K (G.cl c) ∧ PySem.W.kitOne X.K (.ref (G.cl c)) (.ref (G.cl cc)) = some q
  k : ∀ g q, tk g = some q → PySem.W.kitOne X.K (.type (Kd.nm g)) (.ref (G.cl cc)) = some q
theorem s_isO {x : Str} {cc : Nat} {ts : Nat → Option Bool} {tk : Kd → Option Bool} {p p2 : Pos} (F : Fit G X Z k) (ok : IsOk G X cc ts tk) (ha : SE G X Z a ea) (hm : X.mg "isinstance" = none) (hc : X.mg x = some (.ref (G.cl cc))) (hg : Gl X "isinstance" := by rfl) (hg2 : Gl X x := by rfl) (hd2 : (x == ("__debug__" : Str)) = false := by decide)
    (he : starEach [ea, .Name x p2] X.env = (false, eval ea X.env) :: starEach [.Name x p2] X.env := by rfl) (he2 : starEach [.Name x p2] X.env = (false, eval (.Name x p2) X.env) :: starEach [] X.env := by rfl) (hpl : (backTo pos (starEach [.Name x p2] X.env)).any (·.1) = false := by rfl) :
    SE G X Z (eIsO ts tk a) (.Call (.Name "isinstance" p) [ea, .Name x p2] [] pos) := .mk fun m h H σ τ Q R S P => by
  refine WE.of (pe_callB (pcM (f := .builtin "isinstance")) hg hm (by decide +kernel) (pa_cons peM (pa_cons (pe_glob (v := .ref (G.cl cc)) hg2 hc rfl hd2) pa_nil he2) he) (by decide) (by decide) he hpl) (ha m h H σ τ _ R S (PoE.ee P fun w h1 m1 H1 v e1 R1 r1 P1 => ?_))
  split at P1
  · rename_i q e
    unfold isO at e
    split at e
    · rename_i c es
      obtain ⟨s1, s2, s3⟩ := ok.s c q e
      unfold slOf at es
      cases r1 <;> first | cases es | skip
      rename_i n hn
      simp only at es
      split at es
      · rename_i c' ws e'
        cases es
        obtain ⟨dx, vs, hs, _⟩ := slt_of R1 e'
        exact ⟨_, SlX.call_isiSl (.ref (G.cl cc)), m1 n, _, dx, vs, .ref (G.cl cc), q, rfl, rfl, fun w z => z, hs, s1, s2, s3, P1 m1 H1 _ Ext.refl R1 (.bl _)⟩
      · cases es
    · split at e
      · rename_i g eg
        exact ⟨_, call_isi, v, .ref (G.cl cc), .type g.nm, .ref (G.cl cc), q, rfl, .own _, tg_of F.K R1 r1 eg, ok.k g q e, P1 m1 H1 _ Ext.refl R1 (.bl _)⟩
      · cases e
  · exact P1.elim
/-! ### xs[::-1] -/
def oRev (x : W) (h : IH) : Out := match x with
  | .ref n => (match lstAt h n with | some ws => .v (.ref h.length) (h ++ [.lst ws.reverse]) | none => .no)
  | _ => .no
def eRev (a : Ev) : Ev := fun σ h => (a σ h).vb oRev
theorem RWs.rev {m : Nat → Addr} {L : Nat} {H : Hp} : ∀ {ws : List W} {vs : List V}, RWs G.K G.cl m L H ws vs → RWs G.K G.cl m L H ws.reverse vs.reverse
  | _, _, .nil => .nil
  | _, _, .cons a b => by rw [List.reverse_cons, List.reverse_cons]; exact (RWs.rev b).append (.cons a .nil)
theorem s_rev {kk : Nat} {p1 p2 p3 : Pos} (F : Fit G X Z k) (ha : SE G X Z a ea) : SE G X Z (eRev a) (.Subscript ea (.Slice none none (some (.UnaryOp .USub (.Constant (.int 1) kk p1) p2)) p3) pos) := .mk fun m h H σ τ Q R S P => by
  refine WE.of (pe_revL peM) (ha m h H σ τ _ R S (PoE.ee P fun x h1 m1 H1 v1 e1 R1 r1 P1 => ?_))
  unfold oRev at P1
  cases r1 <;> first | exact P1.elim | skip
  rename_i n hn
  simp only at P1
  split at P1
  · rename_i ws e
    obtain ⟨us, hx, hu⟩ := lstAt_of R1 e
    exact ⟨m1 n, us, rfl, F.K ▸ hx, fun p hp => new_lst R1 hp hu.rev P1⟩
  · exact P1.elim
end
end Dr
set_option maxHeartbeats 2000000
namespace Dr
open PySem L2
/-! ### calls with keywords -/
def pick {α : Type} (ix : List Nat) (l : List α) : List α := ix.filterMap (l[·]?)
def WK (X : Cx) (kws : List Keyword) : TA := fun σ H Q => ∀ (pos : Pos) (pins : List (Addr × Obj)) (s : Shared), Inv X pins σ H s → wpAny (model X.prog X.w) X.A (evalAll ((backToKw pos (keywordEach kws X.env)).map (·.2))) (AP X pins σ Q) X.xe s
theorem pkM {X : Cx} {kws : List Keyword} : PK X kws (WK X kws) := ⟨fun pos pins s _ _ _ I h => h pos pins s I⟩
theorem WK.of {X : Cx} {kws : List Keyword} {t : TA} {σ : St} {H : Hp} {Q : List V → Hp → Prop} (p : PK X kws t) (h : t σ H Q) : WK X kws σ H Q := fun pos pins s I => p.run pos pins s σ H Q I h
structure SK (G : Cfg) (X : Cx) (Z : WX) (c : Ev) (kws : List Keyword) : Prop where
  go : ∀ m h H σ τ Q, Rep G.K G.cl m h H → RSt G m h.length H σ τ → PoA G m h.length H Z Q (c σ h) → WK X kws τ H Q
section
variable {G : Cfg} {X : Cx} {Z : WX} {k : Nat} {a b c : Ev} {ea eb ec : Expr} {pos : Pos}
theorem k_nil : SK G X Z eNil [] := .mk fun m h H σ τ Q R S P => WK.of pk_nil (P m H _ Ext.refl R .nil)
theorem k_cons {kws : List Keyword} {nm : Option Str} {kpos : Pos} {r : Ev} (ha : SE G X Z a ea) (hr : SK G X Z r kws) : SK G X Z (eCons a r) (⟨nm, ea, kpos⟩ :: kws) := .mk fun m h H σ τ Q R S P => by
  refine WK.of (pk_cons peM pkM) (ha m h H σ τ _ R S (PoA.ea P fun x h1 m1 H1 v1 e1 R1 r1 P1 => ?_))
  refine hr.go m1 h1 H1 σ τ _ R1 (S.mono e1) (PoA.aa P1 fun y h2 m2 H2 v2 e2 R2 r2 P2 => ?_)
  exact P2 m2 H2 _ Ext.refl R2 (.cons (r1.mono e2) r2)
theorem RWs.pick {m : Nat → Addr} {L : Nat} {H : Hp} {ws : List W} {vs : List V} (r : RWs G.K G.cl m L H ws vs) : ∀ ix : List Nat, RWs G.K G.cl m L H (Dr.pick ix ws) (Dr.pick ix vs)
  | [] => .nil
  | i :: ix => by
    have ih := RWs.pick r ix
    unfold Dr.pick at ih ⊢
    cases e : ws[i]? with
    | none =>
      have e2 : vs[i]? = none := by
        rw [List.getElem?_eq_none_iff] at e ⊢
        rw [← r.length]; exact e
      rw [List.filterMap_cons, List.filterMap_cons, e, e2]
      exact ih
    | some w =>
      obtain ⟨v, h1, h2⟩ := r.get e
      rw [List.filterMap_cons, List.filterMap_cons, e, h1]
      exact .cons h2 ih
theorem vals_get : ∀ {vs : List V} {us : List Value} {i : Nat} {v : V}, Vals vs us → vs[i]? = some v → ∃ u, us[i]? = some u ∧ RelV v u
  | _, _, i, v, .nil, e => by simp at e
  | _, _, 0, v, .cons a _, e => by simp at e; subst e; exact ⟨_, rfl, a⟩
  | _, _, i + 1, v, .cons _ b, e => by
    obtain ⟨u, h1, h2⟩ := vals_get (i := i) b (by simpa using e)
    exact ⟨u, by simpa using h1, h2⟩
theorem vals_pick {vs : List V} {us : List Value} (r : Vals vs us) : ∀ ix : List Nat, Vals (Dr.pick ix vs) (Dr.pick ix us)
  | [] => .nil
  | i :: ix => by
    have ih := vals_pick r ix
    unfold Dr.pick at ih ⊢
    cases e : vs[i]? with
    | none =>
      have e2 : us[i]? = none := by
        rw [List.getElem?_eq_none_iff] at e ⊢
        rw [← r.length]; exact e
      rw [List.filterMap_cons, List.filterMap_cons, e, e2]
      exact ih
    | some w =>
      obtain ⟨v, h1, h2⟩ := vals_get r e
      rw [List.filterMap_cons, List.filterMap_cons, e, h1]
      exact .cons h2 ih
/-- a def that may be called so: n values by place, then the keywords ks; ix puts the keywords' values in the parameters' order -/
def FOkK (G : Cfg) (X : Cx) (k : Nat) (f : Addr) (fn : Fn) (n : Nat) (ks : List Str) (ix : List Nat) : Prop := ∃ fd ps, FnG G.dty X.prog X.w X.K X.mg X.base k f fd ps (spC G ps.length fn) ∧ (∀ (s : Shared) (us ws : List Value), us.length = n → ws.length = ks.length → BindsTo s fd ⟨us, ks.zip ws⟩ (ps.zip (us ++ pick ix ws))) ∧ ∀ ws h, ws.length ≠ ps.length → fn ws h = .no
theorem run_k {f : Addr} {fn : Fn} {n : Nat} {ks : List Str} {ix : List Nat} {ws zs : List W} {τ : St} {σ : Sg} {m : Nat → Addr} {h : IH} {H : Hp} {vs ys : List V} {us ts : List Value} {Q : VK} {pins : List (Addr × Obj)} {s : Shared} (F : Fit G X Z k) (ok : FOkK G X k f fn n ks ix) (R : Rep G.K G.cl m h H) (S : RSt G m h.length H σ τ)
    (r : RWs G.K G.cl m h.length H ws vs) (rz : RWs G.K G.cl m h.length H zs ys) (hn : ws.length = n) (hk : zs.length = ks.length) (P : PoE G m h.length H Z Q ((fn (ws ++ pick ix zs) h).cb σ)) (I : Inv X pins τ H s) (rv : Vals vs us) (ry : Vals ys ts) : wpAny (model X.prog X.w) X.A (call (.ref f) us (ks.zip ts)) (EP X pins τ Q) X.xe s := by
  obtain ⟨fd, ps, Fo, hb, ar⟩ := ok
  have r2 : RWs G.K G.cl m h.length H (ws ++ pick ix zs) (vs ++ pick ix ys) := r.append (rz.pick ix)
  have rv2 : Vals (vs ++ pick ix ys) (us ++ pick ix ts) := rv.append (vals_pick ry ix)
  by_cases hl : (ws ++ pick ix zs).length = ps.length
  · have sp : spC G ps.length fn (vs ++ pick ix ys) H Q (fun cls d H' => Z cls d τ H') := by
      refine ⟨m, h, ws ++ pick ix zs, hl, R, r2, ?_⟩
      cases e : fn (ws ++ pick ix zs) h with
      | v w h' => rw [e] at P; exact P
      | ex c w s h' => rw [e] at P; exact fun m' H' d v e' R' r' hd' => P m' H' d v τ e' R' r' (S.mono e') hd'
      | vs w h => rw [e] at P; exact P
      | nx s h => rw [e] at P; exact P
      | rt w h => rw [e] at P; exact P
      | bk s h => rw [e] at P; exact P
      | ct s h => rw [e] at P; exact P
      | no => rw [e] at P; exact P
    refine wpAny_call (codeAny_mono (Fo.go X.A X.stack s H ⟨us, ks.zip ts⟩ (us ++ pick ix ts) (vs ++ pick ix ys) Q _ F.gd F.room I.env0 (hb s us ts (by rw [← rv.length, ← r.length]; exact hn) (by rw [← ry.length, ← rz.length]; exact hk)) rv2 sp) fun r s' hq => ?_)
    cases r with
    | error e => exact pass2 F.tk τ pins H s e s' I hq
    | ok fl =>
      cases fl with
      | ret u => exact I.after hq
      | next => exact False.elim hq
      | brk => exact False.elim hq
      | cont => exact False.elim hq
  · rw [ar _ h hl] at P
    exact False.elim P
def lenO (n : Nat) (ws : List W) (o : Out) : Out := if ws.length = n then o else .no
theorem lenO_at {n : Nat} {ws : List W} {o : Out} {m : Nat → Addr} {L : Nat} {H : Hp} {Q : VK} (P : PoE G m L H Z Q (lenO n ws o)) : ws.length = n ∧ PoE G m L H Z Q o := by
  unfold lenO at P
  split at P
  · rename_i q; exact ⟨q, P⟩
  · exact P.elim
def eCallK (fn : Fn) (nk : Nat) (ix : List Nat) (rk : Ev) : Ev := fun σ h => (rk σ h).vsb fun zs h1 => lenO nk zs ((fn (pick ix zs) h1).cb σ)
/-- f(k = e, ..) -/
theorem s_callK {x : Str} {f : Addr} {fn : Fn} {ks : List Str} {ix : List Nat} {kws : List Keyword} {rk : Ev} {p : Pos} (F : Fit G X Z k) (ok : FOkK G X k f fn 0 ks ix) (hm : X.mg x = some (.ref f)) (hk : PySem.W.keepIn X.K (.ref f) = true) (hr : SK G X Z rk kws) (hg : Gl X x := by rfl)
    (hdb : (x == ("__debug__" : Str)) = false := by decide) (hall : (backToKw pos (keywordEach kws X.env)).all (·.1.isSome) = true := by rfl) (hks : (backToKw pos (keywordEach kws X.env)).filterMap (·.1) = ks := by rfl)
    (hpl : ((backTo pos (starEach [] X.env)).any (·.1) || (backToKw pos (keywordEach kws X.env)).any (·.1.isNone)) = false := by rfl) :
    SE G X Z (eCallK fn ks.length ix rk) (.Call (.Name x p) [] kws pos) := .mk fun m h H σ τ Q R S P pins s I => by
  refine wpAny_Call_Name_kw (ld_glob I hg hm ?_ hdb)
  refine PySem.W.callWith_KW0 (h₀ := X.base) I.ok.mod.kin hk hall ?_ hpl
  refine thn (hr.go m h H σ τ (fun vs H1 => ∃ m1 h1 zs, Ext G.K m h.length H m1 h1.length H1 ∧ Rep G.K G.cl m1 h1 H1 ∧ RWs G.K G.cl m1 h1.length H1 zs vs ∧ PoE G m1 h1.length H1 Z Q (lenO ks.length zs ((fn (pick ix zs) h1).cb σ))) R S
    (PoE.ae P fun zs h1 m1 H1 vs e1 R1 r1 P1 => ⟨m1, h1, zs, e1, R1, r1, P1⟩) pos pins s I) fun us s1 ⟨vs, H1, I1, rv, m1, h1, zs, e1, R1, r1, P1⟩ => ⟨I1.kIn, ?_⟩
  obtain ⟨hl, P2⟩ := lenO_at P1
  rw [hks]
  exact run_k (ws := []) (vs := []) (us := []) F ok R1 (S.mono e1) .nil r1 rfl hl P2 I1 .nil rv
/-- o.m(e, .., k = e, ..), o with slots -/
structure MKOk (G : Cfg) (X : Cx) (k : Nat) (c : Nat) (nm : Str) (fn : Fn) (n : Nat) (ks : List Str) (ix : List Nat) : Prop where
  ex : ∃ f, SlX.SCls X.K (G.cl c) ∧ Meth X.K (G.cl c) nm f ∧ FOkK G X k f fn n ks ix
def eMethK0 (c : Nat) (fn : Fn) (nk : Nat) (ix : List Nat) (o rk : Ev) : Ev := fun σ h => (o σ h).vb fun x h1 => recvS c x h1 ((rk σ h1).vsb fun zs h2 => lenO nk zs ((fn (x :: pick ix zs) h2).cb σ))
theorem s_methK0 {cc : Nat} {nm : Str} {fn : Fn} {ks : List Str} {ix : List Nat} {kws : List Keyword} {o rk : Ev} {eo : Expr} {apos : Pos} {pl : Sem Bool} (F : Fit G X Z k) (ok : MKOk G X k cc nm fn 1 ks ix) (ho : SE G X Z o eo) (hr : SK G X Z rk kws)
    (hall : (backToKw pos (keywordEach kws X.env)).all (·.1.isSome) = true := by rfl) (hks : (backToKw pos (keywordEach kws X.env)).filterMap (·.1) = ks := by rfl)
    (hpl : ((backTo pos (starEach [] X.env)).any (·.1) || (backToKw pos (keywordEach kws X.env)).any (·.1.isNone)) = false := by rfl)
    (ht : eval (.Call (.Attribute eo nm apos) [] kws pos) X.env = (do
      let ov ← eval eo X.env
      standAt apos.atName
      let (f, first) ← holding [ov] (getMethod ov nm pl)
      callWith pos f first (backTo pos (starEach [] X.env)) (backToKw pos (keywordEach kws X.env))) := by rfl) :
    SE G X Z (eMethK0 cc fn ks.length ix o rk) (.Call (.Attribute eo nm apos) [] kws pos) := .mk fun m h H σ τ Q R S P pins s I => by
  refine PySem.W.methodCall_KW (pl := pl) (thn (ho m h H σ τ (fun v H1 => ∃ m1 h1 x, Ext G.K m h.length H m1 h1.length H1 ∧ Rep G.K G.cl m1 h1 H1 ∧ RW G.K G.cl m1 h1.length H1 x v ∧ PoE G m1 h1.length H1 Z Q (recvS cc x h1 ((rk σ h1).vsb fun zs h2 => lenO ks.length zs ((fn (x :: pick ix zs) h2).cb σ)))) R S
    (PoE.ee P fun x h1 m1 H1 v e1 R1 r1 P1 => ⟨m1, h1, x, e1, R1, r1, P1⟩) pins s I) fun u s1 ⟨v, H1, I1, rv, m1, h1, x, e1, R1, r1, P1⟩ => ?_) ht
  obtain ⟨n, dx, vs, rfl, hsl, P2⟩ := recvS_at R1 r1 P1
  obtain ⟨f, c1, c2, c3⟩ := ok.ex
  obtain rfl : u = Value.ref (m1 n) := rv
  refine SlX.getmethsl_ok I1 hsl c1 c2 ?_
  refine PySem.W.callWith_KW0 (first := [.ref (m1 n)]) (h₀ := X.base) I.ok.mod.kin c2.kp hall ?_ hpl
  refine thn (hr.go m1 h1 H1 σ τ (fun vs H2 => ∃ m2 h2 zs, Ext G.K m1 h1.length H1 m2 h2.length H2 ∧ Rep G.K G.cl m2 h2 H2 ∧ RWs G.K G.cl m2 h2.length H2 zs vs ∧ PoE G m2 h2.length H2 Z Q (lenO ks.length zs ((fn (x :: pick ix zs) h2).cb σ))) R1 (S.mono e1)
    (PoE.ae P2 fun zs h2 m2 H2 vs e2 R2 r2 P3 => ⟨m2, h2, zs, e2, R2, r2, P3⟩) pos pins s1 I1) fun us s2 ⟨vs, H2, I2, rvs, m2, h2, zs, e2, R2, r2, P3⟩ => ⟨I2.kIn, ?_⟩
  obtain ⟨hl, P4⟩ := lenO_at P3
  rw [hks]
  exact run_k (ws := [x]) (vs := [.ref (m1 n)]) (us := [.ref (m1 n)]) F c3 R2 ((S.mono e1).mono e2) (.cons (r1.mono e2) .nil) r2 rfl hl P4 I2 (.cons rfl .nil) rvs
def eMethK (c : Nat) (fn : Fn) (n nk : Nat) (ix : List Nat) (o r rk : Ev) : Ev := fun σ h => (o σ h).vb fun x h1 => recvS c x h1 ((r σ h1).vsb fun ws h2 => (rk σ h2).vsb fun zs h3 => lenO n ws (lenO nk zs ((fn (x :: ws ++ pick ix zs) h3).cb σ)))
theorem s_methK {cc n0 : Nat} {nm : Str} {fn : Fn} {ks : List Str} {ix : List Nat} {kws : List Keyword} {o r rk : Ev} {eo e : Expr} {es : List Expr} {apos : Pos} {pl : Sem Bool} (F : Fit G X Z k) (ok : MKOk G X k cc nm fn (n0 + 1) ks ix) (ho : SE G X Z o eo) (hp : SA G X Z r (e :: es)) (hr : SK G X Z rk kws)
    (hst : starEach (e :: es) X.env = (false, eval e X.env) :: starEach es X.env := by rfl)
    (hall : (backToKw pos (keywordEach kws X.env)).all (·.1.isSome) = true := by rfl) (hks : (backToKw pos (keywordEach kws X.env)).filterMap (·.1) = ks := by rfl)
    (hpl : ((backTo pos (starEach (e :: es) X.env)).any (·.1) || (backToKw pos (keywordEach kws X.env)).any (·.1.isNone)) = false := by rfl)
    (ht : eval (.Call (.Attribute eo nm apos) (e :: es) kws pos) X.env = (do
      let ov ← eval eo X.env
      standAt apos.atName
      let (f, first) ← holding [ov] (getMethod ov nm pl)
      callWith pos f first (backTo pos (starEach (e :: es) X.env)) (backToKw pos (keywordEach kws X.env))) := by rfl) :
    SE G X Z (eMethK cc fn n0 ks.length ix o r rk) (.Call (.Attribute eo nm apos) (e :: es) kws pos) := .mk fun m h H σ τ Q R S P pins s I => by
  refine PySem.W.methodCall_KW (pl := pl) (thn (ho m h H σ τ (fun v H1 => ∃ m1 h1 x, Ext G.K m h.length H m1 h1.length H1 ∧ Rep G.K G.cl m1 h1 H1 ∧ RW G.K G.cl m1 h1.length H1 x v ∧ PoE G m1 h1.length H1 Z Q (recvS cc x h1 ((r σ h1).vsb fun ws h2 => (rk σ h2).vsb fun zs h3 => lenO n0 ws (lenO ks.length zs ((fn (x :: ws ++ pick ix zs) h3).cb σ))))) R S
    (PoE.ee P fun x h1 m1 H1 v e1 R1 r1 P1 => ⟨m1, h1, x, e1, R1, r1, P1⟩) pins s I) fun u s1 ⟨v, H1, I1, rv, m1, h1, x, e1, R1, r1, P1⟩ => ?_) ht
  obtain ⟨n, dx, vs, rfl, hsl, P2⟩ := recvS_at R1 r1 P1
  obtain ⟨f, c1, c2, c3⟩ := ok.ex
  obtain rfl : u = Value.ref (m1 n) := rv
  refine SlX.getmethsl_ok I1 hsl c1 c2 ?_
  refine PySem.W.callWith_KW (first := [.ref (m1 n)]) (h₀ := X.base) I.ok.mod.kin c2.kp hall ?_ hpl hst
  refine thn (hp m1 h1 H1 σ τ (fun vs H2 => ∃ m2 h2 ws, Ext G.K m1 h1.length H1 m2 h2.length H2 ∧ Rep G.K G.cl m2 h2 H2 ∧ RWs G.K G.cl m2 h2.length H2 ws vs ∧ PoE G m2 h2.length H2 Z Q ((rk σ h2).vsb fun zs h3 => lenO n0 ws (lenO ks.length zs ((fn (x :: ws ++ pick ix zs) h3).cb σ)))) R1 (S.mono e1)
    (PoE.ae P2 fun ws h2 m2 H2 vs e2 R2 r2 P3 => ⟨m2, h2, ws, e2, R2, r2, P3⟩) pos pins s1 I1) fun us s2 ⟨vs, H2, I2, rvs, m2, h2, ws, e2, R2, r2, P3⟩ => ?_
  refine thn (hr.go m2 h2 H2 σ τ (fun vs H3 => ∃ m3 h3 zs, Ext G.K m2 h2.length H2 m3 h3.length H3 ∧ Rep G.K G.cl m3 h3 H3 ∧ RWs G.K G.cl m3 h3.length H3 zs vs ∧ PoE G m3 h3.length H3 Z Q (lenO n0 ws (lenO ks.length zs ((fn (x :: ws ++ pick ix zs) h3).cb σ)))) R2 ((S.mono e1).mono e2)
    (PoE.ae P3 fun zs h3 m3 H3 vs e3 R3 r3 P4 => ⟨m3, h3, zs, e3, R3, r3, P4⟩) pos pins s2 I2) fun ts s3 ⟨ys, H3, I3, rys, m3, h3, zs, e3, R3, r3, P4⟩ => ⟨I3.kIn, ?_⟩
  obtain ⟨hn, P5⟩ := lenO_at P4
  obtain ⟨hl, P6⟩ := lenO_at P5
  rw [hks]
  exact run_k (ws := x :: ws) (vs := .ref (m1 n) :: vs) (us := .ref (m1 n) :: us) F c3 R3 (((S.mono e1).mono e2).mono e3) (.cons ((r1.mono e2).mono e3) (r2.mono e3)) r3 (by rw [List.length_cons, hn]) hl P6 I3 (.cons rfl rvs) rys
end
end Dr
set_option maxHeartbeats 2000000
namespace Dr
open PySem L2 PyProof.Rows
/-! ### a def called with keywords, for all contexts -/
def FOkBK (P : Program) (w : World) (mg : Str → Option Value) (base : Heap) (G : Cfg) (k : Nat) (f : Addr) (fn : Fn) (n : Nat) (ks : List Str) (ix : List Nat) : Prop :=
  ∃ fd ps, FnG G.dty P w G.K mg base k f fd ps (spC G ps.length fn) ∧ (∀ (s : Shared) (us ws : List Value), us.length = n → ws.length = ks.length → BindsTo s fd ⟨us, ks.zip ws⟩ (ps.zip (us ++ pick ix ws))) ∧ ∀ ws h, ws.length ≠ ps.length → fn ws h = .no
def DfnK (G : Cfg) (qual : Str) (st : Stmt) (ps : List Str) (n : Nat) (ks : List Str) (ix : List Nat) (f : Addr) : Prop := ∃ fd, DefAt G.K qual st f fd ∧ ∀ (s : Shared) (us ws : List Value), us.length = n → ws.length = ks.length → BindsTo s fd ⟨us, ks.zip ws⟩ (ps.zip (us ++ pick ix ws))
section
variable {P : Program} {w : World} {mg : Str → Option Value} {base : Heap} {G : Cfg} {k n : Nat} {f : Addr} {fn : Fn} {ks : List Str} {ix : List Nat} {qual : Str} {st : Stmt} {ps N : List Str} {body : Ev}
theorem FOkBK.up (h : FOkBK P w mg base G k f fn n ks ix) : FOkBK P w mg base G (k + 1) f fn n ks ix := by
  obtain ⟨fd, ps, a, b, e⟩ := h
  exact ⟨fd, ps, a.up (Nat.le_succ _), b, e⟩
theorem FOkBK.no (u : DfnK G qual st ps n ks ix f) : FOkBK P w mg base G k f (fun _ _ => .no) n ks ix := by
  obtain ⟨fd, a, b⟩ := u
  refine ⟨fd, ps, ⟨fun vs H Q E h => ?_, fun A o s H ar us vs Q E _ _ _ _ _ h => ?_⟩, b, fun _ _ _ => rfl⟩
  · obtain ⟨m, h, ws, hl, R, r, _⟩ := h
    rw [← r.length, hl]
  · obtain ⟨m, h, ws, hl, R, r, z⟩ := h
    exact False.elim z
theorem FOkBK.of (u : DfnK G qual st ps n ks ix f) (ok : ∀ fd, DefAt G.K qual st f fd → FnG G.dty P w G.K mg base k f fd ps (spC G ps.length (fnOf ps.length N.length body))) : FOkBK P w mg base G k f (fnOf ps.length N.length body) n ks ix := by
  obtain ⟨fd, a, b⟩ := u
  refine ⟨fd, ps, ok fd a, b, fun ws h hl => ?_⟩
  unfold Dr.fnOf
  rw [if_neg hl]
theorem FOkBK.pure' (h : FOkBK P w mg base G k f fn n ks ix) : FOkBK P w mg base G k f (pureFn' fn) n ks ix := by
  obtain ⟨fd, ps, a, b, e⟩ := h
  refine ⟨fd, ps, a.imp sp_pure', b, fun ws h hl => ?_⟩
  unfold pureFn'
  split
  · exact pureFn_len e ws h hl
  · exact e ws h hl
theorem DfnK.plain {x : Str} {oc : Value} {od an : Option Addr} {osl : Array (Option Value)} {kV doc pm cdv ct : Value} (l : G.K.lookup f = some ⟨oc, od, .func (PySem.W.fnOf x qual (defArgs st) (defBody st) (defScope st) .none kV doc pm an cdv ct), osl⟩) (c : PySem.W.codeIn G.K cdv qual = true)
    (h : ∀ (kV doc pm : Value) (an : Option Addr) (cdv ct : Value) (us ws : List Value), us.length = n → ws.length = ks.length → bindArgs (PySem.W.fnOf x qual (defArgs st) (defBody st) (defScope st) .none kV doc pm an cdv ct) ⟨us, ks.zip ws⟩ = pure (ps.zip (us ++ pick ix ws))) : DfnK G qual st ps n ks ix f :=
  ⟨_, ⟨oc, od, x, .none, kV, doc, pm, an, cdv, ct, osl, rfl, l, c⟩, fun s us ws h1 h2 => .of_eq (h kV doc pm an cdv ct us ws h1 h2)⟩
end
/-! what the new ones come to -/
@[simp] theorem eProp_ap {c : Nat} {fn : Fn} {a : Ev} {σ : Sg} {h : IH} : eProp c fn a σ h = ((a σ h).vb fun x h1 => recvS c x h1 (valO (fn [x] h1))) := rfl
@[simp] theorem eIsO_ap {ts : Nat → Option Bool} {tk : Kd → Option Bool} {a : Ev} {σ : Sg} {h : IH} : eIsO ts tk a σ h = ((a σ h).vb fun x h1 => match isO ts tk x h1 with
  | some q => .v (.bl q) h1
  | none => .no) := rfl
@[simp] theorem eRev_ap {a : Ev} {σ : Sg} {h : IH} : eRev a σ h = ((a σ h).vb oRev) := rfl
@[simp] theorem eCallK_ap {fn : Fn} {nk : Nat} {ix : List Nat} {rk : Ev} {σ : Sg} {h : IH} : eCallK fn nk ix rk σ h = ((rk σ h).vsb fun zs h1 => lenO nk zs ((fn (pick ix zs) h1).cb σ)) := rfl
@[simp] theorem eMethK0_ap {c : Nat} {fn : Fn} {nk : Nat} {ix : List Nat} {o rk : Ev} {σ : Sg} {h : IH} : eMethK0 c fn nk ix o rk σ h = ((o σ h).vb fun x h1 => recvS c x h1 ((rk σ h1).vsb fun zs h2 => lenO nk zs ((fn (x :: pick ix zs) h2).cb σ))) := rfl
@[simp] theorem eMethK_ap {c : Nat} {fn : Fn} {n nk : Nat} {ix : List Nat} {o r rk : Ev} {σ : Sg} {h : IH} : eMethK c fn n nk ix o r rk σ h = ((o σ h).vb fun x h1 => recvS c x h1 ((r σ h1).vsb fun ws h2 => (rk σ h2).vsb fun zs h3 => lenO n ws (lenO nk zs ((fn (x :: ws ++ pick ix zs) h3).cb σ)))) := rfl
end Dr
set_option maxHeartbeats 2000000
/-! An own error made by keyword. -/
namespace PySem
namespace XeX
open PySem.W PySem.Calls PyProof.Rows PySem.HandSPX Builtin Builtin.ObjectAttr
section
variable {M : Model} {A : Around} {E : Value → Shared → Prop} {h : Heap} {g : Array GenState} {d : Drawn} {t : Nat} {os : OsState}
variable {nm q : Str} {C N : Addr} {bs bm bmB : List Value} {hdct : Bool} {sn : List Str} {sub : List Value} {ab : Bool} {col : Option Bool} {dd : Option Addr} {k0 k1 k2 k3 k5 : Option Value} {B newId initId : String}
theorem check_newK (F : ExcBaseFacts B newId initId bmB) (hT : ∀ X : String, bm.contains (.type X) = bmB.contains (.type X)) {kws : List (Str × Value)} {Q : Unit → Shared → Prop}
    (hC : h.get? C = some (excClassObj nm q C N bs bm hdct sn sub ab col dd k0 k1 k2 k3 k5 newId)) (hq : Q () ⟨h, g, d, t, os⟩) : wpAny M A (checkBuiltinCall newId ⟨[.ref C], kws⟩) Q E ⟨h, g, d, t, os⟩ := by
  have hcont : (Value.ref C :: bm).contains (.type B) = true := by rw [List.contains_cons, hT, F.hasB, Bool.or_true]
  have hstar := F.noStar
  simp only [checkBuiltinCall, F.newKind, F.newSplit, F.newRow]
  repeat (first | refine wpAny_loadPart_at hC ?_ | (refine wpAny_isSubtype_exc hC ?_; rw [hcont]) | refine wpAny_staticBase_exc hC ?_ | refine wpAny_madeBy_exc hC ?_ | simp only [bne_self_eq_false, Bool.false_eq_true, if_false] | wp_step)
  exact hq
end
section
variable {prog : Program} {w : World} {A : Around} {E : Value → Shared → Prop} {R : Result → Shared → Prop} {h : Heap} {g : Array GenState} {d : Drawn} {t : Nat} {os : OsState}
variable {nm q : Str} {C N : Addr} {bs bm bmB : List Value} {hdct : Bool} {sn : List Str} {sub : List Value} {ab : Bool} {col : Option Bool} {dd : Option Addr} {k0 k1 k2 k3 k5 : Option Value} {B newId initId : String}
theorem newK (F : ExcBaseFacts B newId initId bmB) (hT : ∀ X : String, bm.contains (.type X) = bmB.contains (.type X)) {kws : List (Str × Value)}
    (hC : h.get? C = some (excClassObj nm q C N bs bm hdct sn sub ab col dd k0 k1 k2 k3 k5 newId))
    (hq : R (.ok (.ret (.ref (h.objs.size + 1)))) ⟨(h.push { cls := .type "tuple", data := .seq #[] }).push
      { cls := .ref C, data := .fields #[.ref h.objs.size, .none, .none, .none, .bool false, .none] }, g, d, t, os⟩) :
    codeAny (model prog w) A (.builtin newId ⟨[.ref C], kws⟩) R ⟨h, g, d, t, os⟩ := by
  have hends := F.ends
  have hcB : (Value.ref C :: bm).contains (.type B) = true := by rw [List.contains_cons, hT, F.hasB, Bool.or_true]
  have hcA : (Value.ref C :: bm).contains (.type "AttributeError") = false := by rw [List.contains_cons, hT, F.noAttr]; rfl
  have hcN : (Value.ref C :: bm).contains (.type "NameError") = false := by rw [List.contains_cons, hT, F.noName]; rfl
  refine codeAny_builtinAt F.entry ?_
  unfold Builtin.«BaseException.__new__»
  refine wpAt_bind ?_
  show wpAt _ _ _ (stack >>= _) _ _ _
  refine wpAt_bind (wpAt_stack fun p below => wpAt_of_wpAny ?_)
  wp_walk
  refine wpAt_of_wpAny ?_
  rw [F.owner]
  repeat (first | with_reducible refine wpAny_madeHere_exc F.canon hC ?_ | with_reducible refine wpAny_loadPart_at hC ?_ | (with_reducible refine wpAny_isSubtype_exc hC ?_; first | rw [hcB] | rw [hcA] | rw [hcN]) | wp_step)
  show R _ _
  rw [Heap.size_push]
  exact hq
theorem type_callK (F : ExcBaseFacts B newId initId bmB) (hT : ∀ X : String, bm.contains (.type X) = bmB.contains (.type X)) {kws : List (Str × Value)} {fI : Addr} {Q : Fin → Shared → Prop}
    (hC : h.get? C = some (excClassObj nm q C N bs bm hdct sn sub ab col dd k0 k1 k2 k3 k5 newId))
    (hi : W.Looks (model prog w) h (typeLookup (.ref C) "__init__") (some (.ref fI))) (hb : ∀ self, W.Looks (model prog w) h (bindSpecial (.ref fI) self) (.ref fI, [self]))
    (hq : codeAny (model prog w) A (.call (.ref fI) ⟨[.ref (h.objs.size + 1)], kws⟩)
      (fun r s' => match r with | .ok (.ret v) => v = .none ∧ Q (.done (.ret (.ref (h.objs.size + 1)))) s' | .ok _ => False | .error e => E e s')
      ⟨(h.push (W.kdv_tup [])).push (excO C h.objs.size), g, d, t, os⟩) :
    wpAny (model prog w) A (Builtin.«type.__call__» ⟨[.ref C], kws⟩) Q E ⟨h, g, d, t, os⟩ := by
  repeat (first | with_reducible refine wpAny_loadPart_at hC ?_ | with_reducible refine wpAny_madeBy_exc hC ?_ | wp_step)
  refine codeAny_call_builtin_code (Code.quiet_builtin _ F.quiet) (check_newK F hT hC ?_)
  refine newK F hT hC ?_
  show wpAny _ _ _ _ _ _
  have k : ∀ b o, h.get? b = some o → ((h.push (W.kdv_tup [])).push (excO C h.objs.size)).get? b = some o := fun b o e => Heap.get?_push_of_some _ (Heap.get?_push_of_some _ e)
  have hC₁ := k _ _ hC
  have hget : ((h.push (W.kdv_tup [])).push (excO C h.objs.size)).get? (h.objs.size + 1) = some (excO C h.objs.size) := by heap_get
  have hcC : (Value.ref C :: bm).contains (.ref C) = true := by simp
  have i1 := hi.keeps k
  have b1 := (hb (.ref (h.objs.size + 1))).keeps k
  unfold isInstance
  repeat (first | with_reducible refine wpAny_loadPart_at hget ?_ | (with_reducible refine wpAny_isSubtype_exc hC₁ ?_; rw [hcC]) | wp_step)
  show wpAny _ _ (typeLookup (.ref C) _) _ _ _
  refine i1.at ?_
  refine wpAny_holding (wpAny_bind (b1.at ?_))
  refine wpAny_bind (wpAny_call (codeAny_mono hq fun r s' z => ?_))
  rcases r with e | (v | _ | _ | _) <;> first | exact z | exact z.elim | skip
  obtain ⟨rfl, z⟩ := z
  first
    | exact wpAny_pure (wpAny_pure z)
    | (wp_walk; exact z)
theorem callK (F : ExcBaseFacts B newId initId bmB) (hT : ∀ X : String, bm.contains (.type X) = bmB.contains (.type X)) {kws : List (Str × Value)} {fI : Addr}
    (hC : h.get? C = some (excClassObj nm q C N bs bm hdct sn sub ab col dd k0 k1 k2 k3 k5 newId))
    (hi : W.Looks (model prog w) h (typeLookup (.ref C) "__init__") (some (.ref fI))) (hb : ∀ self, W.Looks (model prog w) h (bindSpecial (.ref fI) self) (.ref fI, [self]))
    (hq : codeAny (model prog w) (A.under (.builtin "type.__call__" ⟨[.ref C], kws⟩)) (.call (.ref fI) ⟨[.ref (h.objs.size + 1)], kws⟩) (W.InitBack (h.objs.size + 1) R)
      ⟨(h.push (W.kdv_tup [])).push (excO C h.objs.size), g, d, t, os⟩) :
    codeAny (model prog w) A (.call (.ref C) ⟨[], kws⟩) R ⟨h, g, d, t, os⟩ := by
  have f1 := tc_lookup
  have f2 := tc_bind (.ref C)
  have hTy : (⟨h, g, d, t, os⟩ : Shared).TypeIs (.ref C) "type" := ⟨_, hC, rfl⟩
  refine codeAny_of_tree ?_
  show wpAny _ _ (callAny (.ref C) _) _ _ _
  repeat (any_goals (first | assumption | with_reducible refine wpAny_loadPart_at hC ?_ | wp_step))
  refine ⟨rfl, ?_⟩
  refine codeAny_call_builtin_at (Code.quiet_builtin _ (by decide +kernel)) entry_typeCall (wpAny_check_type_call_sub hC (type_callK F hT hC hi hb ?_))
  refine codeAny_mono hq fun r s' z => ?_
  rcases r with e | (v | _ | _ | _) <;> exact z
end
end XeX
end PySem
set_option maxHeartbeats 2000000
namespace PySem
namespace XeX
open PySem.W PySem.Calls PyProof.Rows PySem.HandSPX Builtin Builtin.ObjectAttr
/-- the text of an __init__ that takes its argument by keyword too -/
def XFnK (prog : Program) (K : Frag) (C fI : Addr) (fld prm : Str) : Prop := ∃ (oc : Value) (od : Option Addr) (doc pm : Value) (an : Option Addr) (cc cda : Addr) (ct : Value) (osl : Array (Option Value)) (qual msg : Str) (params : Arguments) (names : List (Str × NameKind)) (j : Nat) (p0 p1 p2 p3 p4 p5 q1 q2 q3 q4 : Pos) (cl ccl : Value) (cld cdd : Option Addr) (csl ccs : Array (Option Value)) (vs : Array Value) (file : Str) (tf : Tok) (ar : Arg),
    K.lookup fI = some ⟨oc, od, .func (fnX "__init__" qual params (iB msg fld prm j p0 p1 p2 p3 p4 p5 q1 q2 q3 q4) (iSc names) [("__class__", cc)] .none .none doc pm an (.ref cda) ct), osl⟩ ∧ codeIn K (.ref cda) qual = true ∧
    K.lookup cc = some ⟨cl, cld, .cell (some (.ref C)), csl⟩ ∧ K.lookup cda = some ⟨ccl, cdd, .fields vs, ccs⟩ ∧ vs[2]? = some (.str file tf) ∧ ((prog.main.file : Str) == file) = true ∧ (p2.endLine == p4.line) = true ∧
    (params.posonlyargs ++ params.args).head? = some ar ∧ ar.arg = "self" ∧ names.lookup ("super" : Str) = some .globalImplicit ∧ names.lookup ("__class__" : Str) = some .free ∧ names.lookup ("self" : Str) = some .local ∧ names.lookup prm = some .local ∧
    (∀ y ∈ names, y.2 ≠ .cell) ∧ (prm == ("__debug__" : Str)) = false ∧ prm ≠ "self" ∧
    ∀ (s : Shared) (a b : Value), BindsTo s (fnX "__init__" qual params (iB msg fld prm j p0 p1 p2 p3 p4 p5 q1 q2 q3 q4) (iSc names) [("__class__", cc)] .none .none doc pm an (.ref cda) ct) ⟨[a], [(prm, b)]⟩ [("self", a), (prm, b)]
section
variable {prog : Program} {w : World} {A : Around} {R : Result → Shared → Prop} {s : Shared} {K : Frag} {mg : Str → Option Value} {C fI : Addr} {xn fld : Str} {B newId i : String} {bmB : List Value}
theorem x_initK {prm : Str} (T : XT prog K mg C fI xn fld B newId i bmB) (TF : XFnK prog K C fI fld prm) {x t0 : Addr} {v : Value} (X : K.In s.heap) (hg : s.heap.Ns mainGlobals mg) (hb : ∃ mb, s.heap.Ns builtinsNs mb ∧ ∀ y : Str, y ≠ "__name__" → mb y = bootBuiltins y) (hlim : s.heap.NoLimit)
    (hx : s.heap.get? x = some (excO C t0)) (hnK : ∀ o, K.lookup x = some o → False) (hroom : A.depth < recursionLimit)
    (hq : ∀ h' tk dx, InitEnd s.heap h' x C dx fld v → R (.ok (.ret .none)) { s with heap := h', toks := tk }) :
    codeAny (model prog w) A (.call (.ref fI) ⟨[.ref x], [(prm, v)]⟩) R s := by
  obtain ⟨oc, od, doc, pm, an, cc, cda, ct, osl, qual, msg, params, names, j, p0, p1, p2, p3, p4, p5, q1, q2, q3, q4, cl, ccl, cld, cdd, csl, ccs, vs, file, tf, ar, lf, hcode, lcc, lcda, hvs, hfile, hline, hp, har, ksup, kcl, kself, kprm, kcell, hdb, hpn, hbind⟩ := TF
  obtain ⟨cd, hcd, hmro, hmne, hmhd⟩ := clsIn_of T
  obtain ⟨nm, q, N, bs, bm, sn, sub, ab, col, dd, k0, k1, k2, k3, k5, hC, hbm⟩ := T.cls
  refine ks_codeAny_call_defAt hroom (X _ _ lf) rfl hlim (codeRec_of X hcode) rfl (hbind _ _ _) kcell (fun y hy => ?_) (fun h0 hns hk => ?_)
  · rcases List.mem_cons.mp hy with rfl | hy
    · exact kself
    · rcases List.mem_cons.mp hy with rfl | hy
      · exact kprm
      · cases hy
  have X0 : K.In h0 := X.keeps hk
  have hx0 := hk _ _ hx
  have lxs : x < s.heap.objs.size := Heap.lt_size hx
  obtain ⟨mb, hbn, hbb⟩ := hb
  have hself : h0.Ns s.heap.objs.size (fun y => ([(("self" : Str), Value.ref x), (prm, v)] : List (Str × Value)).reverse.lookup y) := hns
  have lself : (([(("self" : Str), Value.ref x), (prm, v)] : List (Str × Value)).reverse.lookup ("self" : Str)) = some (Value.ref x) := by
    have : (("self" : Str) == prm) = false := by simpa using Ne.symm hpn
    simp [List.lookup, this]
  have lprm : (([(("self" : Str), Value.ref x), (prm, v)] : List (Str × Value)).reverse.lookup prm) = some v := by
    simp [List.lookup]
  obtain ⟨oD, hD1, hD2⟩ : ∃ oD, h0.get? C = some oD ∧ oD.data = .cls cd := by
    unfold clsIn at hcd
    split at hcd
    · rename_i c d cd' sl ho
      cases hcd
      exact ⟨_, X0 _ _ ho, rfl⟩
    · cases hcd
  have hnc : ∀ c, (excO C t0).data ≠ .cls c := fun c e => by cases e
  have I0 : InstAt h0 x (excO C t0) C none := ⟨hx0, rfl, rfl, trivial⟩
  refine ks_wpAt_execs_cons (ks_wpAt_Expr_any ?_)
  refine' ks_wpAt_MethodCall (pl := ?pl) ?hh ?ev
  case ev => exact ev_super hline
  refine ks_wpAt_super_base ksup kcl (by decide +kernel) rfl (X0 _ _ lf) rfl hp rfl (X0 _ _ lcda) rfl hvs hfile T.top ?_
  rw [har]
  refine ks_loadName_global rfl ksup (loadGlobal_builtin (hg.keeps hk) T.gS (hbn.keeps hk) ((hbb _ (by decide +kernel)).trans (by decide +kernel)) ⟨rfl, ?_⟩)
  refine wpAny_loadName_free rfl kcl rfl ⟨_, X0 _ _ lcc, rfl⟩ ?_
  refine wpAny_loadName_local rfl kself hself lself ?_
  refine ks_wpAny_isType_cls hD1 hD2 ⟨rfl, ?_⟩
  refine ks_wpAny_call_super hD1 hD2 hx0 rfl hnc (looks_mroIn X0 T.own) (fun h1 e1 k1 => ?_)
  have X1 : K.In h1 := X0.keeps k1
  have hx1 := k1 _ _ hx0
  have I1 : InstAt h1 x (excO C t0) C none := ⟨hx1, rfl, rfl, trivial⟩
  have supf := T.sup
  unfold ks_superIn at supf
  rw [hcd] at supf
  refine kxs_getMethod T.kf e1 (looks_opaque X1 T.opq) (l₀ := cd.mro) (fun A Q E s k q => wpAny_bind ((looks_clsIn X1 hcd) A _ E s k (wpAny_pure q))) rfl X1 supf (I1.type.andThen (looks_subIn X1 T.sub)) (ks_ne X1 I1 hcd) (by decide +kernel) ?_
  have k2 : ∀ b o, h1.get? b = some o → (h1.push (kxs_mw i x)).get? b = some o := fun b o e => Heap.get?_push_of_some _ e
  have hu2 : (h1.push (kxs_mw i x)).get? h1.objs.size = some (kxs_mw i x) := Heap.get?_push_at rfl rfl
  refine kxs_callWith (i := i) (x := x) rfl (evalArgs_plain (spliced_cons (Constant_str (k := j) (pos := p3) (spliced_nil ⟨hu2, ?_⟩))))
  have X2 : K.In (h1.push (kxs_mw i x)) := X1.keeps k2
  refine call_mw T.fb (X2 _ _ hC) hu2 (k2 _ _ hx1) (by show 1 ≤ sizeLine; rw [sizeLine_eq]; decide) fun h3 t3 k3 hx3 => ?_
  have big : s.heap.objs.size < h0.objs.size := hns.lt
  have kk : ∀ b o, b ≠ x → h0.get? b = some o → h3.get? b = some o := fun b o hb e => k3 b o hb (k2 b o (k1 b o e))
  have nLx : s.heap.objs.size ≠ x := Nat.ne_of_gt lxs
  have hns3 : h3.Ns s.heap.objs.size (fun y => ([(("self" : Str), Value.ref x), (prm, v)] : List (Str × Value)).reverse.lookup y) := by
    obtain ⟨o, es, ep, ho, r⟩ := hself
    exact ⟨o, es, ep, kk _ _ nLx ho, r⟩
  have nKx : K.lookup x = none := by
    cases e : K.lookup x with
    | none => rfl
    | some o =>
      exfalso
      exact hnK o e
  have X3 : K.In h3 := fun b o e => kk b o (fun z => by rw [z, nKx] at e; cases e) (X0 b o e)
  show wpAt _ _ _ (execs _ _) _ _ _
  refine ks_wpAt_execs_cons (ks_wpAt_Assign_Attr (wpAt_of_wpAny (wpAny_Name (wpAny_loadName_local rfl kprm hns3 lprm ?_) hdb)))
  refine wpAny_Name (wpAny_loadName_local rfl kself hns3 lself ?_) (by decide +kernel)
  refine set_plain X3 (ox := excO C t3) (od := none) ⟨hx3, rfl, rfl, trivial⟩ T.sa ?_
  refine xosa T.sf X3 hx3 hcd hmro hmne hmhd T.noN (fun h4 tk4 dx k4 dn dne hx4 hn4 => ?_)
  refine wpAt_of_wpAny (wpAny_execs_nil ?_)
  have sz : s.heap.objs.size ≤ h3.objs.size := by
    obtain ⟨o, _, _, ho, _⟩ := hns3
    exact Nat.le_of_lt (Heap.lt_size ho)
  exact hq h4 tk4 dx ⟨fun b o hb e => k4 b o hb (kk b o hb (hk b o e)), ⟨t3, hx4⟩, Nat.le_trans sz dn, dne, hn4⟩
theorem x_madeK {prm : Str} (T : XT prog K mg C fI xn fld B newId i bmB) (TF : XFnK prog K C fI fld prm) {v : Value} (X : K.In s.heap) (hg : s.heap.Ns mainGlobals mg) (hb : ∃ mb, s.heap.Ns builtinsNs mb ∧ ∀ y : Str, y ≠ "__name__" → mb y = bootBuiltins y) (hlim : s.heap.NoLimit) (hroom : A.depth + 1 < recursionLimit)
    (hq : ∀ h' tk e d, Made s.heap h' e C d fld v → R (.ok (.ret (.ref e))) { s with heap := h', toks := tk }) :
    codeAny (model prog w) A (.call (.ref C) ⟨[], [(prm, v)]⟩) R s := by
  obtain ⟨nm, q, N, bs, bm, sn, sub, ab, col, dd, k0, k1, k2, k3, k5, hC, hbm⟩ := T.cls
  obtain ⟨hp, g, dr, tk, os⟩ := s
  have k : ∀ b o, hp.get? b = some o → ((hp.push (kdv_tup [])).push (excO C hp.objs.size)).get? b = some o := fun b o e => Heap.get?_push_of_some _ (Heap.get?_push_of_some _ e)
  have hget : ((hp.push (kdv_tup [])).push (excO C hp.objs.size)).get? (hp.objs.size + 1) = some (excO C hp.objs.size) := by heap_get
  have hnx : ∀ o, K.lookup (hp.objs.size + 1) = some o → False := fun o e => absurd (Nat.lt_of_succ_lt (Heap.lt_size (show hp.get? (hp.objs.size + 1) = some o from X _ _ e))) (Nat.lt_irrefl _)
  refine callK T.fb (fun X => tail_has X bm hbm) (X _ _ hC) (looks_findIn X T.iC) (fun self => bind_fn X self T.tC) ?_
  obtain ⟨mb, b1, b2⟩ := hb
  refine x_initK (s := ⟨(hp.push (kdv_tup [])).push (excO C hp.objs.size), g, dr, tk, os⟩) T TF (X.keeps k) (hg.keeps k) ⟨mb, b1.keeps k, b2⟩ (hlim.keeps k) hget hnx ?_ fun h' tk' dx ⟨k', ⟨t1, hx⟩, dn, dne, hns⟩ => ?_
  · show A.depth + 1 < recursionLimit
    exact hroom
  · have old : ∀ b o, hp.get? b = some o → h'.get? b = some o := fun b o e => k' b o (Nat.ne_of_lt (Nat.lt_succ_of_lt (Heap.lt_size e))) (k b o e)
    have z : hp.objs.size + 1 + 1 ≤ dx := by
      first
        | (simpa only [Heap.size_push] using dn)
        | exact dn
        | (have q := dn; rw [Heap.size_push, Heap.size_push] at q; exact q)
    exact ⟨rfl, hq h' tk' (hp.objs.size + 1) dx ⟨old, Nat.le_succ _, ⟨_, _, hx, rfl, rfl, rfl, rfl, rfl, by show (4 : Nat) < 6; decide⟩, Nat.le_trans (Nat.le_trans (Nat.le_succ _) (Nat.le_succ _)) z, dne, hns⟩⟩
end
end XeX
end PySem
namespace Dr
open PySem L2
def XOkK (G : Cfg) (X : Cx) (c : Nat) (x prm : Str) : Prop := ∃ fI B newId i bmB, PySem.XeX.XT X.prog X.K X.mg (G.cl c) fI x (G.fn c) B newId i bmB ∧ PySem.XeX.XFnK X.prog X.K (G.cl c) fI (G.fn c) prm
section
variable {G : Cfg} {X : Cx} {Z : WX} {k : Nat} {a b : Ev} {ea eb : Expr} {pos : Pos}
theorem s_mkXK {c : Nat} {x f prm : Str} {p kpos : Pos} (F : Fit G X Z k) (ok : XOkK G X c x prm) (hf : G.fn c = f) (ha : SE G X Z a ea) (hg : Gl X x := by rfl) (hdb : (x == ("__debug__" : Str)) = false := by decide) (hall : (backToKw pos (keywordEach [⟨some prm, ea, kpos⟩] X.env)).all (·.1.isSome) = true := by rfl) (hks : (backToKw pos (keywordEach [⟨some prm, ea, kpos⟩] X.env)).filterMap (·.1) = [prm] := by rfl)
    (hpl : ((backTo pos (starEach [] X.env)).any (·.1) || (backToKw pos (keywordEach [⟨some prm, ea, kpos⟩] X.env)).any (·.1.isNone)) = false := by rfl) : SE G X Z (eMkX c f a) (.Call (.Name x p) [] [⟨some prm, ea, kpos⟩] pos) := .mk fun m h H σ τ Q R S P pins s I => by
  obtain ⟨fI, B, newId, i, bmB, T, TF⟩ := ok
  have h0 : WE X ea τ H (fun v H1 => ∃ m1 h1 w, Rep G.K G.cl m1 h1 H1 ∧ RW G.K G.cl m1 h1.length H1 w v ∧ PoE G m1 h1.length H1 Z Q (.v (.ref h1.length) (h1 ++ [.exc c f w]))) :=
    ha m h H σ τ _ R S (PoE.ee P fun w h1 m1 H1 v1 e1 R1 r1 P1 => ⟨m1, h1, w, R1, r1, P1⟩)
  refine wpAny_Call_Name_kw (ld_glob I hg T.gC ?_ hdb)
  refine PySem.W.callWith_KW0 (h₀ := X.base) I.ok.mod.kin T.kC hall ?_ hpl
  refine thn ((pk_cons (nm := some prm) (kpos := kpos) (peM (X := X) (e := ea)) pk_nil).run pos pins s τ H (fun vs H1 => ∃ v, vs = [v] ∧ ∃ m1 h1 w, Rep G.K G.cl m1 h1 H1 ∧ RW G.K G.cl m1 h1.length H1 w v ∧ PoE G m1 h1.length H1 Z Q (.v (.ref h1.length) (h1 ++ [.exc c f w]))) I
    (fun pins s I => thn (h0 pins s I) fun u s1 ⟨v, H1, I1, r1, q1⟩ => ⟨v, H1, I1, r1, v, rfl, q1⟩)) fun us s1 hh => ?_
  obtain ⟨vs, H1, I1, r1, v, ev, m1, h1, w, R1, rw1, P1⟩ := hh
  subst ev
  refine ⟨I1.kIn, ?_⟩
  cases r1 with
  | cons rv rn =>
    rename_i v' us'
    cases rn
    rw [hks]
    show wpAny _ _ (call (.ref (G.cl c)) [] [(prm, v')]) _ _ _
    have hlim := I1.nolimit
    have hglob := I1.mod.glob.keeps I1.bk
    obtain ⟨mb, b1, b2⟩ := I1.mod.blt
    have hblt := b1.keeps I1.bk
    obtain ⟨hp, g, dr, tk, os⟩ := s1
    refine wpAny_call (PySem.XeX.x_madeK T TF I1.kIn hglob ⟨mb, hblt, b2⟩ hlim (by have := F.room.dp; omega) fun h' tk' e d M => ?_)
    obtain ⟨oe, fv, hoe, hc, hd, hdat, h5, _, _⟩ := M.obj
    have hns := M.ns
    obtain ⟨G', g1, g2⟩ := restrict h' fun b => decide (b ≠ e)
    have gk : ∀ b, b ≠ e → G'.get? b = h'.get? b := fun b hb => g1 b (decide_eq_true hb)
    have ge : G'.get? e = none := g2 e (by simp)
    have old : ∀ b o, hp.get? b = some o → G'.get? b = some o := fun b o q => (gk b (Nat.ne_of_lt (Nat.lt_of_lt_of_le (Heap.lt_size q) M.new))).trans (M.keep b o q)
    have ob : ObjOk X.prog X.w (upd H1 d (.xd [(G.fn c, v)])) G' d (.xd [(G.fn c, v)]) := ⟨_, hns.at (fun o q => (gk d M.dne).trans q), fun f => relO_x _ rv f⟩
    have J : Inv X pins τ (upd H1 d (.xd [(G.fn c, v)])) ⟨G', g, dr, tk', os⟩ := I1.laid (t' := tk') old M.dbig ob
    have hn : upd H1 d (.xd [(G.fn c, v)]) e = none := by rw [upd_ne (Ne.symm M.dne)]; exact I1.hok.fresh M.new
    have J2 : Inv X pins τ (upd (upd H1 d (.xd [(G.fn c, v)])) e (ExV (.ref (G.cl c)) d e)) ⟨h', g, dr, tk', os⟩ :=
      J.laidN (t' := tk') (fun b o q => by
        by_cases hb : b = e
        · have q' : G'.get? b = some o := q
          rw [hb, ge] at q'; cases q'
        · exact (gk b hb).symm.trans q) ge hn ⟨⟨oe, fv, hoe, ⟨hc, hd⟩, hdat⟩, ⟨oe, hoe⟩, fun _ _ ⟨o, v, q, r⟩ k => ⟨o, v, k o q, r⟩⟩
    have hd0 : H1 d = none := I1.hok.fresh M.dbig
    obtain ⟨R2, E2⟩ := R1.aside (q := d) (o := .xd [(G.fn c, v)]) hd0
    have E3 : Ext G.K m1 h1.length (upd H1 d (.xd [(G.fn c, v)])) (ext1 m1 h1.length e) (h1.length + 1) (upd (upd H1 d (.xd [(G.fn c, v)])) e (ExV (.ref (G.cl c)) d e)) := .add hn
    obtain ⟨R3, E4⟩ := R2.push (q := e) (u := ExV (.ref (G.cl c)) d e) (o := .exc c f w) hn ⟨d, v, upd_same, by rw [upd_ne M.dne, upd_same, hf], (rw1.mono E2).mono E3⟩
    refine ⟨.ref e, _, J2, rfl, P1 _ _ (.ref e) (E2.trans E4) R3 ?_⟩
    have q := RW.ref (K := G.K) (cl := G.cl) (m := ext1 m1 h1.length e) (L := (h1 ++ [IO.exc c f w]).length) (H := upd (upd H1 d (.xd [(G.fn c, v)])) e (ExV (.ref (G.cl c)) d e)) h1.length (by simp)
    have l : ext1 m1 h1.length e h1.length = e := by unfold ext1; rw [if_pos rfl]
    rw [l] at q; exact q
end
end Dr
set_option maxHeartbeats 2000000
namespace Dr
open PySem L2
/-! ### repr of a list of empty dicts -/
def allDic0 (h : IH) : List W → Bool
  | [] => true
  | w :: ws => isDic0 h w && allDic0 h ws
def dicLs (h : IH) (w : W) : Option (List PyData) := match w with
  | .ref n => (match h[n]? with
    | some (.lst (x :: ws)) => if allDic0 h (x :: ws) = true then some ((x :: ws).map fun _ => .dict []) else none
    | _ => none)
  | _ => none
def bReprD : Fn := fun ws h => match ws with
  | [w] => (match dicLs h w with
    | some ds => if (PyData.list ds).showable = true ∧ (PyData.list ds).depth ≤ 100 ∧ (PyData.list ds).shown.length ≤ 16777216 then .v (.str (PyData.list ds).shown) h else .no
    | none => bRepr ws h)
  | _ => bRepr ws h
section
variable {G : Cfg} {X : Cx} {Z : WX} {k : Nat} {a b : Ev} {ea eb : Expr} {pos : Pos}
theorem allD {m : Nat → Addr} {h : IH} {H : Hp} (R : Rep G.K G.cl m h H) : ∀ (ws : List W) (vs : List V), RWs G.K G.cl m h.length H ws vs → allDic0 h ws = true → ∀ x ∈ vs, ∃ p, x = V.ref p ∧ H p = some (.dK [])
  | _, _, .nil, _, x, hx => by cases hx
  | _, _, .cons (w := w) (v := v) (ws := ws) (vs := vs) a b, e, x, hx => by
    have e := Bool.and_eq_true_iff.mp e
    rcases List.mem_cons.mp hx with rfl | hx
    · have d := e.1
      unfold isDic0 at d
      cases a <;> first | cases d | skip
      rename_i n hn hy
      simp only at d
      split at d
      · rename_i q
        obtain ⟨us, hu, rk⟩ := R.obj n _ q
        cases rk
        exact ⟨_, rfl, hu⟩
      · cases d
    · exact allD R ws vs b e.2 x hx
theorem dic_reads {X : Cx} {pins : List (Addr × Obj)} {σ : St} {H : Hp} {s : Shared} (I : Inv X pins σ H s) : ∀ (xs : List V) (us : List Value), Vals xs us → (∀ x ∈ xs, ∃ p, x = V.ref p ∧ H p = some (.dK [])) → ∃ as, ReadsAll s.heap us (xs.map fun _ => PyData.dict []) as ∧ sysModules ∉ as
  | _, _, .nil, _ => ⟨[], .nil, by simp⟩
  | x :: xs, _, .cons a b, hx => by
    obtain ⟨as, r, n⟩ := dic_reads I _ _ b (fun y hy => hx y (List.mem_cons_of_mem _ hy))
    obtain ⟨p, rfl, hp⟩ := hx x List.mem_cons_self
    cases a
    obtain ⟨_, nsm, vs, kv, o, es, ep, ho, hxd, hd, ks, ps, nd⟩ := (show ObjOk X.prog X.w H s.heap p (.dK []) from I.hok _ _ hp)
    cases kv
    have es0 : es.toList = [] := by generalize es.toList = l at ps; cases ps; rfl
    have rd : Reads s.heap (.ref p) (.dict []) (p :: [] ++ []) := by
      refine Reads.dict ho hxd.1 hd ?_ ?_
      · rw [es0]; exact .nil
      · rw [es0]; exact .nil
    refine ⟨_, .cons rd r, ?_⟩
    intro z
    rcases List.mem_append.mp z with z | z
    · have z' : sysModules = p := by simpa using z
      rw [z'] at nsm
      simp at nsm
    · exact n z
theorem c_reprD (L : Lit G X) (sm : (G.K.lookup sysModules).isSome = true) : SC G X (.builtin "repr") bReprD := .mk fun m h H ws vs Z Q R r P => by
  unfold bReprD at P
  split at P
  · rename_i w
    split at P
    · rename_i ds e
      split at P
      · rename_i q
        obtain ⟨q1, q3, q4⟩ := q
        unfold dicLs at e
        split at e
        · rename_i n
          split at e
          · rename_i x ws' hn
            split at e
            · rename_i hd
              cases e
              obtain ⟨xs, hx, rws⟩ := R.obj n _ hn
              have al := allD R _ _ rws hd
              have hlen : xs.map (fun _ => PyData.dict []) = (x :: ws').map (fun _ => PyData.dict []) := by
                have := rws.length
                rw [List.map_const', List.map_const', this]
              cases r with
              | cons r1 r2 =>
                cases r1; cases r2
                refine ⟨fun ys H' Q' => ys = [.ref (m n)] ∧ H' (m n) = some (.lst xs) ∧ (∀ x ∈ xs, ∃ p, x = V.ref p ∧ H' p = some (.dK [])) ∧ Q' (.str (PyData.list ((x :: ws').map fun _ => .dict [])).shown) H', ?_, rfl, hx, al, P m H _ Ext.refl R (.str _)⟩
                intro pins s σ H' ys us Q' I rv hh
                obtain ⟨rfl, hx', al', q⟩ := hh
                obtain ⟨u, rfl, ru⟩ := vals1 rv
                obtain rfl : u = Value.ref (m n) := ru
                obtain ⟨z, its, nn, rr, hl, e⟩ := I.lstM hx'
                obtain ⟨as, ra, na⟩ := dic_reads I xs its rr al'
                rw [hlen] at ra
                have rd : Reads s.heap (.ref (m n)) (.list ((x :: ws').map fun _ => .dict [])) (m n :: as) := Reads.list e rfl rfl ra
                have nmem : sysModules ∉ m n :: as := fun z => by
                  rcases List.mem_cons.mp z with z | z
                  · obtain ⟨o, ho⟩ := Option.isSome_iff_exists.mp sm
                    have hb := I.ok.mod.kin sysModules o (by rw [L.K]; exact ho)
                    have := (I.bs _ _ hb).2
                    rw [z, hx'] at this
                    cases this
                  · exact na z
                exact repr_of_reads' rd q1 (fun _ => nmem) L.gd (by have := L.un; omega) (fun _ _ z => z) (fun h' u tk kp => ⟨.str _, H', I.kept (t' := tk) kp, ⟨u, rfl⟩, q⟩) (by rw [lineSz]; exact q4)
            · cases e
          · cases e
        · cases e
      · exact P.elim
    · exact (c_repr L).go m h H _ vs Z Q R r P
  · exact (c_repr L).go m h H _ vs Z Q R r P
end
end Dr
set_option maxHeartbeats 2000000
namespace Dr
open PySem L2
/-! ### isinstance(x, (S, T)) -/
section
variable {G : Cfg} {X : Cx} {Z : WX} {k : Nat} {a b c : Ev} {ea eb ec : Expr} {pos : Pos}
def tOr (t1 t2 : Kd → Bool) : Kd → Bool := fun g => t1 g || t2 g
theorem s_isT {T1 T2 : String} {x1 x2 : Str} {t1 t2 : Kd → Bool} {p p1 p2 pt : Pos} {kt : Nat} (L : Lit G X) (ht1 : ∀ g, kitB g.nm T1 = some (t1 g)) (ht2 : ∀ g, kitB g.nm T2 = some (t2 g)) (ha : SE G X Z a ea) (hm : X.mg "isinstance" = none) (hm1 : X.mg x1 = none) (hm2 : X.mg x2 = none) (hv1 : bootBuiltins x1 = some (.type T1)) (hv2 : bootBuiltins x2 = some (.type T2)) (hg : Gl X "isinstance" := by rfl) (hg1 : Gl X x1 := by rfl) (hg2 : Gl X x2 := by rfl) (hn1 : x1 ≠ "__name__" := by decide) (hn2 : x2 ≠ "__name__" := by decide) (hd1 : (x1 == ("__debug__" : Str)) = false := by decide) (hd2 : (x2 == ("__debug__" : Str)) = false := by decide)
    (he : starEach [ea, .Tuple [.Name x1 p1, .Name x2 p2] kt pt] X.env = (false, eval ea X.env) :: starEach [.Tuple [.Name x1 p1, .Name x2 p2] kt pt] X.env := by rfl) (he2 : starEach [.Tuple [.Name x1 p1, .Name x2 p2] kt pt] X.env = (false, eval (.Tuple [.Name x1 p1, .Name x2 p2] kt pt) X.env) :: starEach [] X.env := by rfl)
    (he3 : starEach [.Name x1 p1, .Name x2 p2] X.env = (false, eval (.Name x1 p1) X.env) :: starEach [.Name x2 p2] X.env := by rfl) (he4 : starEach [.Name x2 p2] X.env = (false, eval (.Name x2 p2) X.env) :: starEach [] X.env := by rfl) (hpl : (backTo pos (starEach [.Tuple [.Name x1 p1, .Name x2 p2] kt pt] X.env)).any (·.1) = false := by rfl) :
    SE G X Z (eIsi (tOr t1 t2) a) (.Call (.Name "isinstance" p) [ea, .Tuple [.Name x1 p1, .Name x2 p2] kt pt] [] pos) := .mk fun m h H σ τ Q R S P => by
  refine WE.of (pe_callB (call_isiT (X := X)) hg hm (by decide +kernel) (pa_cons peM (pa_cons (pe_tup (pa_cons (pe_bltn (v := .ty T1) hg1 hm1 hv1 rfl hn1 hd1) (pa_cons (pe_bltn (v := .ty T2) hg2 hm2 hv2 rfl hn2 hd2) pa_nil he4) he3)) pa_nil he2) he) (by decide) (by decide) he hpl) (ha m h H σ τ _ R S (PoE.ee P fun w h1 m1 H1 v e1 R1 r1 P1 => ?_))
  split at P1
  · rename_i g e
    refine ⟨by rw [lineSz]; show 2 ≤ 16777216; omega, fun q hq => ?_⟩
    obtain ⟨R2, E2⟩ := R1.aside (q := q) (o := .tup [V.ty T1, V.ty T2]) hq
    refine ⟨v, q, _, .type g.nm, [.type T1, .type T2], tOr t1 t2 g, rfl, upd_same, .cons (.ty _) (.cons (.ty _) .nil), tg_of L.K R2 (r1.mono E2) e, ?_, P1 m1 _ _ E2 R2 (.bl _)⟩
    refine kitAny_cons (kit_ty (ht1 g)) (fun e1 => kitAny_cons (kit_ty (ht2 g)) (fun e2 => ?_) (fun e2 => ?_)) (fun e1 => ?_)
    · rw [kitAny_nil]; unfold tOr; rw [e1, e2]; rfl
    · unfold tOr; rw [e1, e2]; rfl
    · unfold tOr; rw [e1]; rfl
  · exact P1.elim
end
/-! ### lists whose items are the same objects or plain data -/
def sameR : W → W → Bool
  | .ref a, .ref b => decide (a = b)
  | _, _ => false
def pairM (h : IH) (x y : W) : Option Bool := if sameR x y = true then some true else match x, y with
  | .str a, .str b => some (eqS a b)
  | x, y => (match dat h 39 x, dat h 39 y with
    | some d, some e => if shaped' d = true ∧ shaped' e = true then some (eqF d e) else none
    | _, _ => none)
def pairsM (h : IH) : List W → List W → Option (List Bool)
  | [], [] => some []
  | x :: xs, y :: ys => match pairM h x y with
    | some a => (match pairsM h xs ys with | some b => some (a :: b) | none => none)
    | none => none
  | _, _ => none
def eqM (x y : W) (h : IH) : Option Bool := match x, y with
  | .ref p, .ref q => (match lstAt h p, lstAt h q with
    | some xs, some ys => (match pairsM h xs ys with | some bs => some (bs.all id) | none => none)
    | _, _ => none)
  | _, _ => none
def oNeM (x y : W) (h : IH) : Out := match eqM x y h with
  | some b => .v (.bl (!b)) h
  | none => oNe x y h
def PV (K : PySem.W.Frag) (H : Hp) (x y : V) (a : Bool) : Prop := (∃ r, x = .ref r ∧ y = .ref r ∧ a = true) ∨ (∃ s t, x = .str s ∧ y = .str t ∧ a = (s == t)) ∨ ∃ d e, Dp K H x d ∧ Dp K H y e ∧ SeqAt.shaped d = true ∧ SeqAt.shaped e = true ∧ a = PyData.eqv d e
inductive PVs (K : PySem.W.Frag) (H : Hp) : List V → List V → List Bool → Prop
  | nil : PVs K H [] [] []
  | cons {x y : V} {a : Bool} {xs ys : List V} {bs : List Bool} : PV K H x y a → PVs K H xs ys bs → PVs K H (x :: xs) (y :: ys) (a :: bs)
theorem PVs.len1 {K : PySem.W.Frag} {H : Hp} {xs ys : List V} {bs : List Bool} (p : PVs K H xs ys bs) : xs.length = bs.length := by
  induction p with
  | nil => rfl
  | cons _ _ ih => simp [ih]
theorem PVs.len2 {K : PySem.W.Frag} {H : Hp} {xs ys : List V} {bs : List Bool} (p : PVs K H xs ys bs) : ys.length = bs.length := by
  induction p with
  | nil => rfl
  | cons _ _ ih => simp [ih]
theorem range_all : ∀ bs : List Bool, (List.range bs.length).all (fun j => bs.getD j true) = bs.all id
  | [] => rfl
  | b :: bs => by
    rw [List.length_cons, List.range_succ_eq_map, List.all_cons, List.all_map, List.all_cons]
    have := range_all bs
    rw [← this]
    rfl
section
variable {X : Cx} {pins : List (Addr × Obj)} {σ : St} {H : Hp} {s : Shared}
theorem PVs.at_ {A : Around} (hu : A.units + 64 < cLine) (I : Inv X pins σ H s) {xs ys : List V} {bs : List Bool} (p : PVs X.K H xs ys bs) : ∀ {is js : List Value}, Vals xs is → Vals ys js → ∀ j (h1 : j < is.length) (h2 : j < js.length), SeqAt.EqAt A s is[j] js[j] (bs.getD j true) := by
  induction p with
  | nil => intro is js r1 r2 j h1 h2; cases r1; exact absurd h1 (by simp)
  | cons hp hps ih =>
    intro is js r1 r2 j h1 h2
    cases r1 with
    | cons a1 b1 =>
      cases r2 with
      | cons a2 b2 =>
        cases j with
        | succ j => exact ih b1 b2 j (by simpa using h1) (by simpa using h2)
        | zero =>
          rcases hp with ⟨r, rfl, rfl, rfl⟩ | ⟨s', t', rfl, rfl, rfl⟩ | ⟨d, e, hd, he, sd, se, rfl⟩
          · cases a1; cases a2
            exact SeqAt.EqAt.same _
          · obtain ⟨u1, rfl⟩ := a1
            obtain ⟨u2, rfl⟩ := a2
            exact SeqAt.EqAt.str_str _ _ _ _
          · obtain ⟨as, q1⟩ := Dp.reads I d _ _ hd a1
            obtain ⟨bs', q2⟩ := Dp.reads I e _ _ he a2
            exact SeqAt.eqAt_reads d e A s _ _ as bs' q1 q2 (SeqAt.canLay_of_shaped sd) (SeqAt.canLay_of_shaped se) (SeqAt.room_of_shaped sd hu)
def rNeM (K : PySem.W.Frag) : R2 := fun x y H Q => ∃ p q xs ys bs, x = .ref p ∧ y = .ref q ∧ SqL K H p xs ∧ SqL K H q ys ∧ PVs K H xs ys bs ∧ Q (.bl (!bs.all id)) H
theorem op_neM (hu : X.A.units + 65 < cLine) : OpR X (compareOp .NotEq) (rNeM X.K) := by
  intro pins s σ H x y v u Q I rx ry h
  obtain ⟨p, q, xs, ys, bs, rfl, rfl, hx, hy, hb, hq⟩ := h
  cases rx; cases ry
  obtain ⟨is, r1, l1⟩ := isList_of (m := fun _ => 0) (h := []) I hx
  obtain ⟨js, r2, l2⟩ := isList_of (m := fun _ => 0) (h := []) I hy
  have n1 : is.length = bs.length := by rw [← r1.length, hb.len1]
  have n2 : js.length = bs.length := by rw [← r2.length, hb.len2]
  have e : (List.range is.toArray.size).all (fun j => bs.getD j true) = bs.all id := by rw [List.size_toArray, n1]; exact range_all bs
  refine SeqAt.RcNeAt.lists (e := fun j => bs.getD j true) l1 l2 (by rw [List.size_toArray, List.size_toArray, n1, n2]) (by omega) (fun j h1 h2 => ?_) X.prog X.w X.xe _ ⟨.bl (!bs.all id), H, I, by rw [e]; rfl, hq⟩
  have := hb.at_ (A := X.A.in1) (by show X.A.units + 1 + 64 < cLine; omega) I r1 r2 j (by simpa using h1) (by simpa using h2)
  simpa only [List.getElem_toArray] using this
end
section
variable {G : Cfg} {X : Cx} {Z : WX} {k : Nat}
theorem pairs_of {m : Nat → Addr} {h : IH} {H : Hp} (R : Rep G.K G.cl m h H) : ∀ (xs ys : List W) (bs : List Bool) (us vs : List V), RWs G.K G.cl m h.length H xs us → RWs G.K G.cl m h.length H ys vs → pairsM h xs ys = some bs → PVs G.K H us vs bs
  | [], [], bs, _, _, .nil, .nil, e => by cases e; exact .nil
  | x :: xs, y :: ys, bs, _, _, .cons a1 b1, .cons a2 b2, e => by
    unfold pairsM at e
    split at e
    · rename_i q eq
      split at e
      · rename_i bs' es
        cases e
        refine .cons ?_ (pairs_of R xs ys bs' _ _ b1 b2 es)
        unfold pairM at eq
        split at eq
        · rename_i sr
          cases eq
          unfold sameR at sr
          split at sr
          · have e := of_decide_eq_true sr
            subst e
            cases a1; cases a2
            exact .inl ⟨_, rfl, rfl, rfl⟩
          · cases sr
        · split at eq
          · cases eq
            cases a1; cases a2
            exact .inr (.inl ⟨_, _, rfl, rfl, by rw [eqS_eq, Bool.beq_eq_decide_eq]⟩)
          · split at eq
            · rename_i d e e1 e2
              split at eq
              · rename_i sh
                cases eq
                exact .inr (.inr ⟨d, e, dp_of R 39 x _ d a1 e1, dp_of R 39 y _ e a2 e2, shaped_eq d ▸ sh.1, shaped_eq e ▸ sh.2, eqF_eq d e⟩)
              · cases eq
            · cases eq
      · cases e
    · cases e
theorem so_neM (F : Fit G X Z k) : SO G X (compareOp .NotEq) oNeM := .mk fun m h H x y vx vy Z' Q R rx ry P => by
  unfold oNeM at P
  cases e2 : eqM x y h with
  | none => rw [e2] at P; exact (so_ne F).go m h H x y vx vy Z' Q R rx ry P
  | some q =>
    rw [e2] at P
    have hq := P m H _ Ext.refl R (.bl (!q))
    unfold eqM at e2
    split at e2
    · split at e2
      · rename_i xs ys l1 l2
        split at e2
        · rename_i bs eb
          cases e2
          obtain ⟨us, hx, hu⟩ := lstAt_of R l1
          obtain ⟨ws, hy, hw⟩ := lstAt_of R l2
          cases rx; cases ry
          exact ⟨_, op_neM (by have := F.room.un; omega), _, _, us, ws, bs, rfl, rfl, F.K ▸ hx, F.K ▸ hy, F.K ▸ pairs_of R xs ys bs us ws hu hw eb, hq⟩
        · cases e2
      · cases e2
    · cases e2
theorem RWs.repT {m : Nat → Addr} {L : Nat} {H : Hp} {ws : List W} {vs : List V} (r : RWs G.K G.cl m L H ws vs) : ∀ n : Nat, RWs G.K G.cl m L H (List.replicate n ws).flatten (List.replicate n vs).flatten
  | 0 => .nil
  | n + 1 => by
    rw [List.replicate_succ, List.replicate_succ, List.flatten_cons, List.flatten_cons]
    exact r.append (RWs.repT r n)
def oMulT (x y : W) (h : IH) : Out := match x, y with
  | .tup ws, .int n => if ws.length ≠ 0 ∧ 2 ≤ n ∧ n ≤ 1000 ∧ ws.length ≤ 1000 then .v (.tup (List.replicate n.toNat ws).flatten) h else .no
  | _, _ => oMulX x y h
theorem so_mulT (F : Fit G X Z k) : SO G X (binaryOp .Mult) oMulT := .mk fun m h H x y vx vy Z Q R rx ry P => by
  unfold oMulT at P
  split at P
  · split at P
    · rename_i q
      cases ry
      cases rx with
      | tup hp hv =>
        refine ⟨_, op_repT, _, _, _, rfl, rfl, F.K ▸ hp, fun e => q.1 (by rw [hv.length, e]; rfl), q.2.1, q.2.2.1, by rw [← hv.length]; exact q.2.2.2, fun p hp' => new_tup R hp' (hv.repT _) P⟩
    · exact P.elim
  · exact so_mulX.go m h H x y vx vy Z Q R rx ry P
end
end Dr
set_option maxHeartbeats 2000000
/-! {} == (): no; a walk over a list or a tuple -/
namespace PySem.SeqAt
open AutoSeq1 (wpAny_loadPart')
open MeetsSeq MeetsSeq2 MeetsSeq3 PySem.Spec
theorem dict_eq_declines_tuple (l b : Addr) (ol ob : Obj) (h1 : ol.cls = .type "dict") (h2 : ob.cls = .type "tuple") :
    Meets (Builtin.«dict.__eq__» ⟨[.ref l, .ref b], []⟩) (fun _ R s => s.heap.get? l = some ol ∧ s.heap.get? b = some ob ∧ R (.ok (.ret .notImplemented)) s) :=
  .of_wp fun prog w A R s h => by
    obtain ⟨hp, g, d, tk, os⟩ := s
    obtain ⟨hl, hb, h⟩ := h
    obtain ⟨c1, d1, t1, s1⟩ := ol
    obtain ⟨c2, d2, t2, s2⟩ := ob
    simp only at h1 h2
    subst h1 h2
    have f1 := F.sub_tuple_dict
    wp_walk using wpAny_loadPart' hl, wpAny_loadPart' hb
    exact ⟨_, rfl, h⟩
theorem tuple_eq_declines_dict (l b : Addr) (ol ob : Obj) (h1 : ol.cls = .type "tuple") (h2 : ob.cls = .type "dict") :
    Meets (Builtin.«tuple.__eq__» ⟨[.ref l, .ref b], []⟩) (fun _ R s => s.heap.get? l = some ol ∧ s.heap.get? b = some ob ∧ R (.ok (.ret .notImplemented)) s) :=
  .of_wp fun prog w A R s h => by
    obtain ⟨hp, g, d, tk, os⟩ := s
    obtain ⟨hl, hb, h⟩ := h
    obtain ⟨c1, d1, t1, s1⟩ := ol
    obtain ⟨c2, d2, t2, s2⟩ := ob
    simp only at h1 h2
    subst h1 h2
    have f1 := F.sub_dict_tuple
    wp_walk using wpAny_loadPart' hl, wpAny_loadPart' hb
    exact ⟨_, rfl, h⟩
end PySem.SeqAt
namespace Dr
open PySem L2 PySem.Spec
section
variable {X : Cx}
theorem op_eq_dt (hu : X.A.units < cLine) : OpR X (compareOp .Eq) (fun x y H Q => ∃ a b kvs ys, x = .ref a ∧ y = .ref b ∧ H a = some (.dK kvs) ∧ SqT X.K H b ys ∧ Q (.bl false) H) := by
  intro pins s σ H x y v u Q I rx ry h
  obtain ⟨a, b, kvs, ys, rfl, rfl, ea, hT, q⟩ := h
  obtain rfl : v = Value.ref a := rx
  obtain rfl : u = Value.ref b := ry
  obtain ⟨_, _, vs, kv, o, es, ep, ho, hxd, hd, ks⟩ := (show ObjOk X.prog X.w H s.heap a (.dK kvs) from I.hok a _ ea)
  obtain ⟨its, r, ⟨o2, ho2, hc2, n, hd2⟩, hs⟩ := I.tuple hT
  have hne : a ≠ b := fun e => by
    subst e
    rw [ho] at ho2
    cases ho2
    rw [hxd.1] at hc2
    exact absurd hc2 (by simp)
  exact PySem.SeqAt.rc_eq_decline_or (k := false) ⟨_, ho, hxd.1⟩ ⟨_, ho2, hc2⟩ (by decide) PySem.F.sub_tuple_dict PySem.F.slot_dict_eq PySem.F.slot_tuple_eq_refl
    (fun _ hq => call_meets PySem.F.slot_dict_eq ⟨_, ho, hxd.1⟩ PySem.F.entry_dict_eq (PySem.F.args_dict_eq_2 _ _) (PySem.SeqAt.dict_eq_declines_tuple a b _ _ hxd.1 hc2) ⟨ho, ho2, hq⟩)
    (fun _ hq => call_meets PySem.F.slot_tuple_eq_refl ⟨_, ho2, hc2⟩ PySem.F.entry_tuple_eq (PySem.F.args_tuple_eq_2 _ _) (PySem.SeqAt.tuple_eq_declines_dict b a _ _ hc2 hxd.1) ⟨ho2, ho, hq⟩)
    (fun _ hq => wpAny_isSame_ref_other hne ho ho2 (by rw [hxd.1]; simp) hq) (.inr hu) ⟨.bl false, H, I, rfl, q⟩
end
def isDic (h : IH) (w : W) : Bool := match w with
  | .ref n => (match h[n]? with | some (.dic _) => true | _ => false)
  | _ => false
def isTup : W → Bool
  | .tup _ => true
  | _ => false
def oEqT (x y : W) (h : IH) : Out := if isDic h x = true ∧ isTup y = true then .v (.bl false) h else oEq x y h
section
variable {G : Cfg} {X : Cx} {Z : WX} {k : Nat} {a b : Ev} {ea eb : Expr} {pos : Pos}
theorem so_eqT (F : Fit G X Z k) : SO G X (compareOp .Eq) oEqT := .mk fun m h H x y vx vy Z' Q R rx ry P => by
  unfold oEqT at P
  split at P
  · rename_i q
    obtain ⟨q1, q2⟩ := q
    cases ry <;> first | cases q2 | skip
    rename_i hp hv
    cases rx <;> first | cases q1 | skip
    rename_i n hn
    unfold isDic at q1
    simp only at q1
    split at q1
    · rename_i kvs e
      obtain ⟨vs, hx, _⟩ := R.obj n _ e
      exact ⟨_, op_eq_dt F.room.units0, _, _, vs, _, rfl, rfl, hx, F.K ▸ hp, P m H _ Ext.refl R (.bl _)⟩
    · cases q1
  · exact (so_eq F).go m h H x y vx vy Z' Q R rx ry P
/-! ### a walk over a list or a tuple -/
def iLT (a : Ev) : EvI := fun σ h => .of (a σ h) fun w h1 => match w with
  | .ref n => (match lstAt h1 n with | some _ => .it (jL n) h1 | none => .no)
  | .tup ws => .it (jT ws) h1
  | _ => .no
theorem pi_lt {tg : Expr} {l : Expr} {tl : TE} (hl : PE X l tl) : PI X tg l (fun σ H R => tl σ H fun x H1 => ∃ a, x = .ref a ∧ (((∃ xs, SqL X.K H1 a xs) ∧ R (Itl X.K a) H1) ∨ ((∃ xs, SqT X.K H1 a xs) ∧ R (Itt X.K a) H1))) := by
  refine ⟨fun pins s σ H R I h => ?_⟩
  refine thn (hl.run pins s σ H _ I h) fun v s1 ⟨x, H1, I1, r1, q1⟩ => ?_
  obtain ⟨a, e, q⟩ := q1
  subst e
  cases r1
  rcases q with ⟨⟨xs, hq⟩, q⟩ | ⟨⟨xs, hq⟩, q⟩
  · obtain ⟨its, rv, p, hz⟩ := I1.list hq
    refine wpAny_pyIter_list p.isList ?_
    refine ⟨s1.heap.objs.size, [s1.heap.objs.size], _, _, H1, rfl, I1.kept (t' := s1.toks) fun b o e => Heap.get?_push_of_some _ e, turn_list a _, ⟨_, Heap.get?_push_size _ rfl, rfl, rfl⟩, fun b hb => ?_, q⟩
    have e : b = s1.heap.objs.size := by simpa using hb
    subst e
    exact I1.fpOk (Nat.le_refl _) (I1.hok.fresh (Nat.le_refl _))
  · obtain ⟨its, rv, p, hz⟩ := I1.tuple hq
    refine wpAny_pyIter_tuple (show s1.heap.IsTuple a its.toArray from p) ?_
    refine ⟨s1.heap.objs.size, [s1.heap.objs.size], _, _, H1, rfl, I1.kept (t' := s1.toks) fun b o e => Heap.get?_push_of_some _ e, turn_tuple a _, ⟨_, Heap.get?_push_size _ rfl, rfl, rfl⟩, fun b hb => ?_, q⟩
    have e : b = s1.heap.objs.size := by simpa using hb
    subst e
    exact I1.fpOk (Nat.le_refl _) (I1.hok.fresh (Nat.le_refl _))
theorem i_lt {tg : Expr} (F : Fit G X Z k) (ha : SE G X Z a ea) : SI G X Z (iLT a) tg ea := .mk fun m h H σ τ Q R S P => by
  refine WI.of (pi_lt peM) (ha m h H σ τ _ R S (PoI.ei P fun w h1 m1 H1 v1 e1 R1 r1 P1 => ?_))
  cases r1 <;> first | exact P1.elim | skip
  · rename_i p vs ws hp hv
    refine ⟨p, rfl, .inr ⟨⟨vs, F.K ▸ hp⟩, ?_⟩⟩
    rw [F.K]
    exact P1 m1 H1 _ Ext.refl R1 (rj_tup hp hv)
  · rename_i n hn
    simp only at P1
    split at P1
    · rename_i ws e
      obtain ⟨vs, hx, hv⟩ := lstAt_of R1 e
      refine ⟨m1 n, rfl, .inl ⟨⟨vs, F.K ▸ hx⟩, ?_⟩⟩
      rw [F.K]
      exact P1 m1 H1 _ Ext.refl R1 (rj_list hn)
    · exact P1.elim
/-! ### two numbers (in a suite too) -/
def oNeI : W → W → IH → Out
  | .int i, .int j, h => .v (.bl (!decide (i = j))) h
  | _, _, _ => .no
theorem so_neI : SO G X (compareOp .NotEq) oNeI := .mk fun m h H x y vx vy Z' Q R rx ry P => by
  cases rx <;> first | exact P.elim | skip
  cases ry <;> first | exact P.elim | skip
  rename_i i j
  have hq := P m H _ Ext.refl R (.bl _)
  exact ⟨_, op_ne, rfl, by simpa [V.int.injEq] using hq⟩
end
end Dr
set_option maxHeartbeats 2000000
namespace Dr
open PySem L2
section
variable {G : Cfg} {X : Cx} {Z : WX} {k : Nat} {a b c : Ev} {ea eb ec : Expr} {pos : Pos}
/-! ### try: .. except X: raise Y(e) from None -/
def eTryR (sub : Nat → Option Bool) (b : Ev) (cY : Nat) (a : Ev) : Ev := fun σ h => match b σ h with
  | .ex c w s h' => (match sub c with
    | some true => (match a s h' with
      | .v w2 h2 => .ex cY w2 s h2
      | _ => .no)
    | some false => .ex c w s h'
    | none => .no)
  | o => o
theorem v_tryRN {sub : Nat → Option Bool} {cY t j : Nat} {x y : Str} {body : List Stmt} {np pos' p pos2 pos3 cpos : Pos} (F : Fit G X Z k) (ht : G.tc = some t) (nam : Names X x (.ref (G.cl t)))
    (hsub : ∀ c q, sub c = some q → PySem.W.exmOne X.K (.ref (G.cl c)) (.ref (G.cl t)) = some q) (hy : PySem.W.exmOne X.K (.ref (G.cl cY)) (.ref (G.cl t)) = some false) (ok : XOk G X cY y)
    (hb : ∀ (pn : List (Addr × Obj)) (xe : Value → Shared → Prop) (W' : WX), Fit G (X.tr pn xe) W' k → SB G (X.tr pn xe) W' b body)
    (ha : ∀ (q : Addr) (oe : Obj) (pn : List (Addr × Obj)), SE G (L2H.suiteX X q ((q, oe) :: pn)) Zf a ea)
    (hpa : ∀ hd : Option Value, PySem.PassesOwnAt (model X.prog X.w) (X.A.mark hd) X.A X.env X.xe := by exact fun hd => L2H.passesAt_of rfl hd)
    (est : X.stack = X.env :: X.outer := by rfl) (efr : X.env.frame = some X.env.locals := by rfl)
    (hg : ∀ (q : Addr) (oe : Obj) (pn : List (Addr × Obj)), Gl (L2H.suiteX X q ((q, oe) :: pn)) y := by exact fun _ _ _ => rfl) (hdb : (y == ("__debug__" : Str)) = false := by decide)
    (he : starEach (ea :: []) X.env = (false, eval ea X.env) :: starEach [] X.env := by rfl) (hpl : (backTo pos3 (starEach [] X.env)).any (·.1) = false := by rfl) :
    SS G X Z (eTryR sub b cY a) (.Try body [.ExceptHandler (some (.Name x np)) none [.Raise (some (.Call (.Name y p) [ea] [] pos3)) (some (.Constant .none j cpos)) pos2] pos'] [] [] pos) := .mk fun m h H σ τ D R S P => by
  have dt : ∀ v, G.dty v ↔ PySem.W.exmOne X.K v (.ref (G.cl t)) ≠ some true := fun v => by
    unfold Cfg.dty; rw [ht, F.K]
  refine WS.of (L2H.ps_try_onlyX (c := .ref (G.cl t)) (Wout := fun c d σ H => G.dty c ∧ Z c d σ H)
    (tb := fun W' D σ H => (∀ c d σ H, G.dty c ∧ W' c d σ H → L2H.wPass X.K (.ref (G.cl t)) (fun c d σ H => G.dty c ∧ Z c d σ H) c d σ H) ∧ ∀ (pn : List (Addr × Obj)) (xe : Value → Shared → Prop), Tk2 G (X.tr pn xe) W' → PassesOwn (model X.prog X.w) X.A X.env xe → WB (X.tr pn xe) body D σ H)
    (ts := fun q cls d D σ H => ∀ (oe : Obj) (pn : List (Addr × Obj)), L2N.Zn cls d oe → (∃ vs, oe.data = .fields vs) → Takes (L2H.suiteX X q ((q, oe) :: pn)) (fun c d σ H => G.dty c ∧ Z c d σ H) → L2H.HotC (L2H.suiteX X q ((q, oe) :: pn)) →
      WB (L2H.suiteX X q ((q, oe) :: pn)) [.Raise (some (.Call (.Name y p) [ea] [] pos3)) (some (.Constant .none j cpos)) pos2] D σ H)
    est efr nam hpa F.tk.x (fun W' pn xe tkn tkx ow => ⟨fun pins s σ H D I hh => hh.2 pn xe ⟨tkn, tkx.imp hh.1⟩ ow pins s I⟩)
    (fun q oe cls d pn zn vs tk hot => ⟨fun pins s σ H D I hh => hh oe pn zn vs tk hot pins s I⟩)) ?_
  refine ⟨fun c d σ H ⟨h1, q, h2, _, h4⟩ => ?_, fun pn xe tk ow => ?_⟩
  · cases q with
    | true => exact absurd h2 ((dt c).mp h1)
    | false => exact ⟨h2, h4 rfl⟩
  · refine hb pn xe _ (F.tr tk ow) m h H σ τ D R S ?_
    unfold eTryR at P
    cases e : b σ h with
    | ex c w s h' =>
      simp only [e] at P
      intro m' H' d v τ' e' R' r' S' hd
      show wOnly _ _ _ _ _ _ _ _ _
      cases es : sub c with
      | none => simp only [es] at P; exact P.elim
      | some q =>
        simp only [es] at P
        refine ⟨q, hsub c q es, fun hq => ?_, fun hq => ?_⟩
        · subst hq
          intro z hz oe pn2 zn vs tk2 hot
          refine WB.of (pss_one (L2H.ps_raiseHN hot tk2 (pmk_x (G := G) (X := L2H.suiteX X z ((z, oe) :: pn2)) (ok := ok) (by show X.A.depth + 1 < recursionLimit; have := F.room.dp; omega) (hg z oe pn2) hdb he hpl))) ?_
          refine ha z oe pn2 m' h' H' s τ' _ R' S' ?_
          cases ea' : a s h' with
          | v w2 h2 =>
            simp only [ea'] at P
            intro m2 H2 v2 e2 R2 r2 d2 hd2
            obtain ⟨R3, E3⟩ := R2.aside (q := d2) (o := .xd [(G.fn cY, v2)]) hd2
            refine ⟨(dt _).mpr (by rw [hy]; simp), P m2 _ d2 v2 τ' ((e'.trans e2).trans E3) R3 (r2.mono E3) ((S'.mono e2).mono E3) upd_same⟩
          | ex c2 w2 s2 h2 => simp only [ea'] at P; exact P.elim
          | vs w2 h2 => simp only [ea'] at P; exact P.elim
          | nx s2 h2 => simp only [ea'] at P; exact P.elim
          | rt w2 h2 => simp only [ea'] at P; exact P.elim
          | bk s2 h2 => simp only [ea'] at P; exact P.elim
          | ct s2 h2 => simp only [ea'] at P; exact P.elim
          | no => simp only [ea'] at P; exact P.elim
        · subst hq
          refine ⟨(dt _).mpr ?_, P m' H' d v τ' e' R' r' S' hd⟩
          rw [hsub c false es]; simp
    | nx s2 h2 => rw [e] at P; exact P
    | bk s2 h2 => rw [e] at P; exact P
    | ct s2 h2 => rw [e] at P; exact P
    | rt w2 h2 => rw [e] at P; exact P
    | v w2 h2 => rw [e] at P; exact P
    | vs w2 h2 => rw [e] at P; exact P
    | no => rw [e] at P; exact P
def oAddN : W → W → IH → Out
  | .int i, .int j, h => .v (.int (i + j)) h
  | _, _, _ => .no
theorem so_addN : SO G X (binaryOp .Add) oAddN := .mk fun m h H x y vx vy Z Q R rx ry P => by
  cases rx <;> cases ry <;> first | exact P.elim | exact ⟨_, op_add, _, _, rfl, rfl, P m H _ Ext.refl R (.int _)⟩
/-! ### max of a list of numbers -/
def maxI : Int → List Int → Int
  | a, [] => a
  | a, b :: r => maxI (if b > a then b else a) r
theorem maxI_ge : ∀ (r : List Int) (a : Int), a ≤ maxI a r ∧ ∀ y ∈ r, y ≤ maxI a r
  | [], a => ⟨Int.le_refl _, fun y h => by cases h⟩
  | b :: r, a => by
    obtain ⟨h1, h2⟩ := maxI_ge r (if b > a then b else a)
    unfold maxI
    refine ⟨Int.le_trans (by split <;> omega) h1, fun y hy => ?_⟩
    rcases List.mem_cons.mp hy with rfl | hy
    · exact Int.le_trans (by split <;> omega) h1
    · exact h2 y hy
theorem maxI_mem : ∀ (r : List Int) (a : Int), maxI a r ∈ a :: r
  | [], a => by simp [maxI]
  | b :: r, a => by
    have h := maxI_mem r (if b > a then b else a)
    unfold maxI
    rcases List.mem_cons.mp h with h | h
    · rw [h]; split <;> simp
    · exact List.mem_cons_of_mem _ (List.mem_cons_of_mem _ h)
def bMaxX : Fn := fun ws h => match ws with
  | [.ref n] => onL W.num [.ref n] h fun ns => match ns with
    | [] => .no
    | a :: r => .v (.int (maxI a r)) h
  | ws => bMax ws h
theorem c_maxX (F : Fit G X Z k) : SC G X (.builtin "max") bMaxX := .mk fun m h H ws vs Z Q R r P => by
  unfold bMaxX at P
  split at P
  · obtain ⟨n, us, ls, bs, rfl, hx, hu, eb, P⟩ := onL_of R r P
    rw [nums_of hu eb] at hx
    cases bs with
    | nil => exact P.elim
    | cons a r' =>
      refine ⟨_, cr_max F.calm, m n, _, rfl, F.K ▸ hx, by simp, fun z hz hy => ?_⟩
      have e : z = maxI a r' := Int.le_antisymm (by
        rcases List.mem_cons.mp hz with rfl | hz
        · exact (maxI_ge r' z).1
        · exact (maxI_ge r' a).2 z hz) (hy _ (maxI_mem r' a))
      rw [e]
      exact P m H _ Ext.refl R (.int _)
  · exact c_max F.calm m h H _ vs Z Q R r P
/-! ### a, b, c = x, y, z -/
def ePar3 (i j l : Nat) (r : Ev) : Ev := fun σ h => match r σ h with
  | .vs [u, v, w] h1 => .nx (((σ.set i (some u)).set j (some v)).set l (some w)) h1
  | .ex c w s h => .ex c w s h
  | _ => .no
theorem v_par3 (i j l : Nat) {x y z : Str} {r : Ev} {px py pz pt : Pos} {kt k2 pt2} (F : Fit G X Z k) (hr : SA G X Z r [ea, eb, ec]) (hN : X.N.Nodup) (hij : i ≠ j := by decide) (hil : i ≠ l := by decide) (hjl : j ≠ l := by decide) (hi : X.N[i]? = some x := by rfl) (hj : X.N[j]? = some y := by rfl) (hl : X.N[l]? = some z := by rfl)
    (hx : X.env.scope.names.lookup x = some .local := by rfl) (hy : X.env.scope.names.lookup y = some .local := by rfl) (hz : X.env.scope.names.lookup z = some .local := by rfl)
    (hw : swappedStores [.Tuple [.Name x px, .Name y py, .Name z pz] kt pt] (.Tuple [ea, eb, ec] k2 pt2) X.env = pure (some [x, y, z]) := by rfl)
    (hs : swapsWithSole [.Tuple [.Name x px, .Name y py, .Name z pz] kt pt] (.Tuple [ea, eb, ec] k2 pt2) pos.line X.env = pure false := by rfl) :
    SS G X Z (ePar3 i j l r) (.Assign [.Tuple [.Name x px, .Name y py, .Name z pz] kt pt] (.Tuple [ea, eb, ec] k2 pt2) pos) := .mk fun m h H σ τ D R S P => by
  refine WS.of (ps_par3 F.calm hN hi hj hl hij hil hjl hx hy hz paM hw hs) (hr m h H σ τ _ R S ?_)
  unfold ePar3 at P
  cases e : r σ h with
  | vs ws h1 =>
    rw [e] at P
    intro m1 H1 vs e1 R1 r1
    match ws, P with
    | [], P => exact P.elim
    | [_], P => exact P.elim
    | [_, _], P => exact P.elim
    | _ :: _ :: _ :: _ :: _, P => exact P.elim
    | [u, v, w], P =>
      cases r1 with
      | cons r1 r2 => cases r2 with
        | cons r2 r3 => cases r3 with
          | cons r3 r4 => cases r4; exact ⟨_, _, _, rfl, P m1 H1 _ e1 R1 ((((S.mono e1).set i r1).set j r2).set l r3)⟩
  | ex c w s h => rw [e] at P; exact P
  | v w h => rw [e] at P; exact P
  | nx s h => rw [e] at P; exact P.elim
  | rt w h => rw [e] at P; exact P.elim
  | bk s h => rw [e] at P; exact P.elim
  | ct s h => rw [e] at P; exact P.elim
  | no => rw [e] at P; exact P
/-! ### a tuple of texts, written at the top -/
def strB : Value → Str → Bool
  | .str x _, y => decide (x = y)
  | _, _ => false
theorem strB_ok {v : Value} {y : Str} (h : strB v y = true) : ∃ t, v = .str y t := by
  unfold strB at h
  split at h
  · have := of_decide_eq_true h
    subst this
    exact ⟨_, rfl⟩
  · cases h
def strsB : List Value → List Str → Bool
  | [], [] => true
  | v :: vs, y :: ys => strB v y && strsB vs ys
  | _, _ => false
theorem strsB_ok : ∀ {vs : List Value} {ys : List Str}, strsB vs ys = true → Vals (ys.map V.str) vs
  | [], [], _ => .nil
  | v :: vs, y :: ys, h => by
    have h := Bool.and_eq_true_iff.mp (show (strB v y && strsB vs ys) = true from h)
    obtain ⟨t, rfl⟩ := strB_ok h.1
    exact .cons ⟨t, rfl⟩ (strsB_ok h.2)
  | _ :: _, [], h => by cases h
  | [], _ :: _, h => by cases h
def tupK (K : PySem.W.Frag) (p : Addr) (ss : List Str) : Bool := match K.lookup p with
  | some ⟨.type ty, _, .seq its _, _⟩ => decide (ty = "tuple") && (strsB its.toList ss && Nat.ble its.size 16777216)
  | _ => false
theorem tupK_ok {K : PySem.W.Frag} {p : Addr} {ss : List Str} {H : Hp} (h : tupK K p ss = true) : SqT K H p (ss.map V.str) := by
  unfold tupK at h
  split at h
  · rename_i ty d its n sl e
    have h1 := Bool.and_eq_true_iff.mp h
    have h2 := Bool.and_eq_true_iff.mp h1.2
    have := of_decide_eq_true h1.1
    subst this
    exact .inr ⟨_, its, n, e, rfl, rfl, by rw [lineSz]; exact Nat.le_of_ble_eq_true h2.2, strsB_ok h2.1⟩
  · cases h
theorem rws_strs {K : PySem.W.Frag} {cl m : Nat → Addr} {L : Nat} {H : Hp} : ∀ ss : List Str, RWs K cl m L H (ss.map W.str) (ss.map V.str)
  | [] => .nil
  | s :: ss => .cons (.str s) (rws_strs ss)
theorem s_globT {x : Str} {ss : List Str} (hm : ∃ p, X.mg x = some (.ref p) ∧ tupK G.K p ss = true) (hg : Gl X x := by rfl) (hd : (x == ("__debug__" : Str)) = false := by decide) : SE G X Z (eK (.tup (ss.map W.str))) (.Name x pos) := by
  obtain ⟨p, h1, h2⟩ := hm
  exact s_glob (v := .ref p) h1 rfl (fun m L H => .tup (tupK_ok h2) (rws_strs ss)) hg hd
/-! ### xs.index(text), xs.insert(i, y) -/
def idxS (s : Str) : List Str → Option Nat
  | [] => none
  | x :: xs => if eqS x s then some 0 else (idxS s xs).map (· + 1)
theorem idxS_ok {s : Str} : ∀ {xs : List Str} {j : Nat}, idxS s xs = some j → xs[j]? = some s ∧ ∀ m z, m < j → xs[m]? = some z → z ≠ s
  | [], j, h => by cases h
  | x :: xs, j, h => by
    unfold idxS at h
    split at h
    · rename_i e
      rw [eqS_eq] at e
      have e : x = s := by simpa using e
      subst e
      cases h
      exact ⟨rfl, fun m z hm => absurd hm (by omega)⟩
    · rename_i e
      rw [eqS_eq] at e
      have e : x ≠ s := by simpa using e
      cases q : idxS s xs with
      | none => rw [q] at h; cases h
      | some i =>
        rw [q] at h
        cases h
        obtain ⟨h1, h2⟩ := idxS_ok q
        refine ⟨by simpa using h1, fun m z hm hz => ?_⟩
        cases m with
        | zero => simp at hz; subst hz; exact e
        | succ m => exact h2 m z (Nat.lt_of_succ_lt_succ hm) (by simpa using hz)
def mIndex (x : W) (ws : List W) (h : IH) : Out := match x, ws with
  | .ref n, [.str s] => (match lstAt h n with
    | some ls => (match mapO W.st ls with
      | some ss => (match idxS s ss with | some j => .v (.int (j : Nat)) h | none => .no)
      | none => .no)
    | none => .no)
  | _, _ => .no
theorem m_index (hK : X.K = G.K) : SM G X "list" "list.index" mIndex := .mk fun m h H x vx ws vs Z Q R rx r P => by
  unfold mIndex at P
  split at P
  · rename_i n s
    split at P
    · rename_i ls e
      split at P
      · rename_i ss es
        split at P
        · rename_i j ej
          obtain ⟨us, hx, hu⟩ := lstAt_of R e
          cases rx
          cases r with
          | cons r1 r2 =>
            cases r1; cases r2
            rw [sts_of hu es] at hx
            obtain ⟨h1, h2⟩ := idxS_ok ej
            refine ⟨_, mt_index, m n, _, .str s, j, .str s, rfl, rfl, hK ▸ hx, rfl, ?_, by rw [List.getElem?_map, h1]; rfl, by simp [eqV], fun i z hi hz => ?_, P m H _ Ext.refl R (.int _)⟩
            · rw [List.all_map]; exact List.all_eq_true.mpr fun _ _ => rfl
            · rw [List.getElem?_map] at hz
              cases q : ss[i]? with
              | none => rw [q] at hz; cases hz
              | some y =>
                rw [q] at hz; cases hz
                have := h2 i y hi q
                simpa [eqV] using this
        · exact P.elim
      · exact P.elim
    · exact P.elim
  · exact P.elim
def mInsert (x : W) (ws : List W) (h : IH) : Out := match x, ws with
  | .ref n, [.int i, y] => (match h[n]? with
    | some (.lst xs) => if xs.length < 16777216 ∧ 0 ≤ i ∧ i < 2 ^ 63 then .v .non (h.set n (.lst (xs.take i.toNat ++ [y] ++ xs.drop i.toNat))) else .no
    | _ => .no)
  | _, _ => .no
theorem m_insert : SM G X "list" "list.insert" mInsert := .mk fun m h H x vx ws vs Z Q R rx r P => by
  unfold mInsert at P
  split at P
  · rename_i n i y
    split at P
    · rename_i xs e
      split at P
      · rename_i q
        obtain ⟨us, hx, hu⟩ := R.obj n _ e
        cases rx
        cases r with
        | cons r0 r1 => cases r0; cases r1 with
          | cons r1 r2 =>
            cases r2
            obtain ⟨R', E'⟩ := put_lst R e hx (((hu.take i.toNat).append (.cons r1 .nil)).append (hu.drop i.toNat))
            exact ⟨_, mt_insert, m n, us, _, _, rfl, rfl, hx, by rw [← hu.length, lineSz]; exact q.1, q.2.1, q.2.2, P m _ _ E' R' .non⟩
      · exact P.elim
    · exact P.elim
  · exact P.elim
/-! ### partition at one sign, by lists -/
def hitC (c : Nat) : List Nat → Bool
  | [] => false
  | x :: r => if Nat.beq x c = true then true else hitC c r
def tkC (c : Nat) : List Nat → List Nat
  | [] => []
  | x :: r => if Nat.beq x c = true then [] else x :: tkC c r
def drC (c : Nat) : List Nat → List Nat
  | [] => []
  | x :: r => if Nat.beq x c = true then r else drC c r
theorem par_C (c : Nat) : ∀ (l acc : List Nat), TL.par [c] acc l = if hitC c l = true then some (acc ++ tkC c l, drC c l) else none
  | [], acc => rfl
  | x :: r, acc => by
    unfold TL.par hitC tkC drC
    have e : TL.pre [c] (x :: r) = Nat.beq x c := by
      unfold TL.pre
      show ([x] == [c]) = _
      rw [Bool.eq_iff_iff]
      simp
    rw [e]
    by_cases h : Nat.beq x c = true
    · rw [if_pos h, if_pos h, if_pos h, if_pos h, List.append_nil]; rfl
    · rw [if_neg h, if_neg h, if_neg h, if_neg h, par_C c r (acc ++ [x])]
      rw [List.append_assoc]; rfl
def mPartF (x : W) (ws : List W) (h : IH) : Out := match x, ws with
  | .str a, [.str b] => (match b.cps.toList with
    | [c] => if a.length ≤ 16777216 then (if hitC c a.cps.toList = true then .v (.tup [.str ⟨(tkC c a.cps.toList).toArray⟩, .str b, .str ⟨(drC c a.cps.toList).toArray⟩]) h else .v (.tup [.str a, .str Str.empty, .str Str.empty]) h) else .no
    | _ => mPart (.str a) [.str b] h)
  | x, ws => mPart x ws h
theorem mPartF_eq (x : W) (ws : List W) (h : IH) : mPartF x ws h = mPart x ws h := by
  unfold mPartF
  split
  · rename_i a b
    split
    · rename_i c hc
      unfold mPart
      simp only
      have hl : (b.length == 0) = false := by
        have : b.length = 1 := by
          show b.cps.size = 1
          rw [← Array.length_toList, hc]; rfl
        rw [this]; rfl
      have e := TL.partition_par a b (by show b.cps.toList ≠ []; rw [hc]; simp)
      have e2 : TL.par (TL.tl b) [] (TL.tl a) = if hitC c a.cps.toList = true then some (tkC c a.cps.toList, drC c a.cps.toList) else none := by
        show TL.par b.cps.toList [] a.cps.toList = _
        rw [hc]; exact par_C c a.cps.toList []
      rw [e2] at e
      by_cases hz : a.length ≤ 16777216
      · rw [if_pos hz, if_pos (show (b.length == 0) = false ∧ a.length ≤ 16777216 from ⟨hl, hz⟩)]
        by_cases hh : hitC c a.cps.toList = true
        · rw [if_pos hh]
          rw [if_pos hh] at e
          rw [e]
        · rw [if_neg hh]
          rw [if_neg hh] at e
          rw [e]
      · rw [if_neg hz, if_neg (show ¬ ((b.length == 0) = false ∧ a.length ≤ 16777216) from fun z => hz z.2)]
    · rfl
  · rfl
theorem m_partF : SM G X "str" "str.partition" mPartF := .mk fun m h H x vx ws vs Z Q R rx r P => by
  rw [mPartF_eq] at P
  exact m_part m h H x vx ws vs Z Q R rx r P
/-! ### split at one sign, by lists -/
def spF (c : Nat) : Nat → List Nat → List (List Nat)
  | 0, l => [l]
  | n + 1, l => if hitC c l = true then tkC c l :: spF c n (drC c l) else [l]
theorem pre1 (c x : Nat) (r : List Nat) : TL.pre [c] (x :: r) = Nat.beq x c := by
  unfold TL.pre
  show ([x] == [c]) = _
  rw [Bool.eq_iff_iff]
  simp
theorem spl_C (c : Nat) : ∀ (l acc : List Nat), TL.spl [c] 0 acc l = if hitC c l = true then (acc ++ tkC c l) :: TL.spl [c] 0 [] (drC c l) else [acc ++ l]
  | [], acc => by
    rw [TL.spl_nil, if_neg (by simp [hitC]), List.append_nil]
  | x :: r, acc => by
    by_cases h : Nat.beq x c = true
    · have e1 : hitC c (x :: r) = true := if_pos h
      have e2 : tkC c (x :: r) = [] := if_pos h
      have e3 : drC c (x :: r) = r := if_pos h
      rw [TL.spl_hit (by rw [pre1]; exact h), e1, e2, e3, if_pos rfl, List.append_nil]
      rfl
    · have e1 : hitC c (x :: r) = hitC c r := if_neg h
      have e2 : tkC c (x :: r) = x :: tkC c r := if_neg h
      have e3 : drC c (x :: r) = drC c r := if_neg h
      rw [TL.spl_miss (by rw [pre1]; exact Bool.eq_false_iff.mpr h), spl_C c r (acc ++ [x]), e1, e2, e3, List.append_assoc, List.append_assoc]
      rfl
theorem drC_len (c : Nat) : ∀ l : List Nat, hitC c l = true → (drC c l).length < l.length
  | [], h => by cases h
  | x :: r, h => by
    by_cases q : Nat.beq x c = true
    · rw [show drC c (x :: r) = r from if_pos q]; simp
    · rw [show hitC c (x :: r) = hitC c r from if_neg q] at h
      rw [show drC c (x :: r) = drC c r from if_neg q]
      have := drC_len c r h
      simp only [List.length_cons]; omega
theorem spF_ok (c : Nat) : ∀ (n : Nat) (l : List Nat), l.length ≤ n → spF c n l = TL.spl [c] 0 [] l
  | 0, l, h => by
    have : l = [] := List.eq_nil_of_length_eq_zero (by omega)
    subst this
    rfl
  | n + 1, l, h => by
    unfold spF
    rw [spl_C]
    by_cases q : hitC c l = true
    · have := drC_len c l q
      rw [if_pos q, if_pos q, spF_ok c n (drC c l) (by omega)]; rfl
    · rw [if_neg q, if_neg q]; rfl
theorem split_F {a b : Str} {c : Nat} (hc : b.cps.toList = [c]) (h2 : Nat.blt c 256 = true) : Txt.split a b = (spF c a.length a.cps.toList).map fun l => ⟨l.toArray⟩ := by
  have hk : b.cps.all (· < 256) = true := by
    rw [← Array.all_toList, hc]
    simpa using h2
  have hy : TL.tl b ≠ [] := by show b.cps.toList ≠ []; rw [hc]; simp
  have e : (Txt.split a b).map TL.tl = TL.spl (TL.tl b) 0 [] (TL.tl a) := TL.split_spl a b hy (TL.kind_ok hk)
  refine TL.map_tl_inj ?_
  rw [e, spF_ok c a.length a.cps.toList (by show a.cps.toList.length ≤ a.cps.size; simp), List.map_map]
  show TL.spl b.cps.toList 0 [] a.cps.toList = _
  rw [hc]
  conv => lhs; rw [← List.map_id (TL.spl [c] 0 [] a.cps.toList)]
  refine List.map_congr_left fun l _ => ?_
  simp
def mSplitF (x : W) (ws : List W) (h : IH) : Out := match x, ws with
  | .str a, [.str b] => (match b.cps.toList with
    | [c] => if Nat.blt c 256 = true then (if a.length + 2 ≤ 16777216 then .v (.ref h.length) (h ++ [.lst ((spF c a.length a.cps.toList).map fun l => .str ⟨l.toArray⟩)]) else .no) else .no
    | _ => .no)
  | x, ws => mSplit x ws h
theorem mSplitF_eq (x : W) (ws : List W) (h : IH) : mSplitF x ws h = mSplit x ws h ∨ mSplitF x ws h = .no := by
  unfold mSplitF
  split
  · rename_i a b
    split
    · rename_i c hc
      by_cases h2 : Nat.blt c 256 = true
      · refine .inl ?_
        have hl : (b.length == 0) = false := by
          have : b.length = 1 := by
            show b.cps.size = 1
            rw [← Array.length_toList, hc]; rfl
          rw [this]; rfl
        unfold mSplit
        simp only
        rw [if_pos h2]
        by_cases hz : a.length + 2 ≤ 16777216
        · rw [if_pos hz, if_pos (show (b.length == 0) = false ∧ a.length + 2 ≤ 16777216 from ⟨hl, hz⟩)]
          unfold strsOut
          rw [split_F hc h2, List.map_map]
          rfl
        · rw [if_neg hz, if_neg (show ¬ ((b.length == 0) = false ∧ a.length + 2 ≤ 16777216) from fun z => hz z.2)]
      · exact .inr (if_neg h2)
    · exact .inr rfl
  · exact .inl rfl
theorem m_splitF : SM G X "str" "str.split" mSplitF := .mk fun m h H x vx ws vs Z Q R rx r P => by
  rcases mSplitF_eq x ws h with e | e
  · rw [e] at P
    exact m_split m h H x vx ws vs Z Q R rx r P
  · rw [e] at P
    exact P.elim
end
end Dr
set_option maxHeartbeats 4000000
/-! the law's own text, written by mk.py -/
namespace Dr.L
open PySem L2 PyProof.Rows Dr
def top (i : Nat) : Stmt := PySem.Challenge.pw_deadrules_k18_sheets_refused.main.body.getD i (.Pass ⟨0, 0, 0, 0⟩)
def fnF : Nat → Str := fun i => (["", "line", "value", "", "limit", "", "", "", "", "", "", "", "", "", "", "", ""] : List Str).getD i ""
def clF (as : List Addr) : Nat → Addr := fun i => as.getD i 0
def nF : Nat := 100000
def is_str : Kd → Bool
  | .non => false
  | .bl => false
  | .int => false
  | .str => true
  | .tup => false
  | .lst => false
  | .dic => false
theorem his_str : ∀ g : Kd, kitB g.nm "str" = some (is_str g) := by intro g; cases g <;> decide +kernel
def cs5 : List Nat := [5, 8]
def mt5_skip_blanks_0 (cl : Nat → Fn) : Nat → Option (Fn × List W) := fun c => if c = 5 then some (cl 15, []) else if c = 8 then some (cl 15, []) else none
def mt8_read_chain_2 (cl : Nat → Fn) : Nat → Option (Fn × List W) := fun c => if c = 8 then some (cl 19, []) else none
def mt5_is_sign_1 (cl : Nat → Fn) : Nat → Option (Fn × List W) := fun c => if c = 5 then some (cl 11, []) else if c = 8 then some (cl 11, []) else none
def mt5_need_end_0 (cl : Nat → Fn) : Nat → Option (Fn × List W) := fun c => if c = 5 then some (cl 16, []) else if c = 8 then some (cl 16, []) else none
def mt5_fail_0 (cl : Nat → Fn) : Nat → Option (Fn × List W) := fun c => if c = 5 then some (cl 9, []) else if c = 8 then some (cl 9, []) else none
def mt5_peek_0 (cl : Nat → Fn) : Nat → Option (Fn × List W) := fun c => if c = 5 then some (cl 10, []) else if c = 8 then some (cl 10, []) else none
def mt8_read_compound_1 (cl : Nat → Fn) : Nat → Option (Fn × List W) := fun c => if c = 8 then some (cl 21, []) else none
def mt8_read_join_0 (cl : Nat → Fn) : Nat → Option (Fn × List W) := fun c => if c = 8 then some (cl 20, []) else none
def mt5_is_start_0 (cl : Nat → Fn) : Nat → Option (Fn × List W) := fun c => if c = 5 then some (cl 13, []) else if c = 8 then some (cl 13, []) else none
def mt5_read_name_0 (cl : Nat → Fn) : Nat → Option (Fn × List W) := fun c => if c = 5 then some (cl 14, []) else if c = 8 then some (cl 14, []) else none
def mt8_read_part_1 (cl : Nat → Fn) : Nat → Option (Fn × List W) := fun c => if c = 8 then some (cl 22, [(.bl true)]) else none
def mt5_need_1 (cl : Nat → Fn) : Nat → Option (Fn × List W) := fun c => if c = 5 then some (cl 12, []) else if c = 8 then some (cl 12, []) else none
def mt8_nth_0 (cl : Nat → Fn) : Nat → Option (Fn × List W) := fun c => if c = 8 then some (cl 23, []) else none
def mt8_negation_0 (cl : Nat → Fn) : Nat → Option (Fn × List W) := fun c => if c = 8 then some (cl 25, []) else none
def mt8_relation_0 (cl : Nat → Fn) : Nat → Option (Fn × List W) := fun c => if c = 8 then some (cl 26, []) else none
def mt8_read_part_2 (cl : Nat → Fn) : Nat → Option (Fn × List W) := fun c => if c = 8 then some (cl 22, []) else none
def mt8_digit_0 (cl : Nat → Fn) : Nat → Option (Fn × List W) := fun c => if c = 8 then some (cl 24, []) else none
def txf0 : Nat → Bool := fun c => ([1] : List Nat).contains c
def txf1 : Nat → Bool := fun c => ([4] : List Nat).contains c
def txi0 : Nat → Option Bool := fun c => ([(1, true)] : List (Nat × Bool)).lookup c
def txi1 : Nat → Option Bool := fun c => ([(4, true)] : List (Nat × Bool)).lookup c
def texm1 : Nat → Option Bool := fun c => ([(1, true), (2, false), (4, false)] : List (Nat × Bool)).lookup c
def texm4 : Nat → Option Bool := fun c => ([(1, false), (2, false), (4, true)] : List (Nat × Bool)).lookup c
def texm2 : Nat → Option Bool := fun c => ([(1, false), (2, true), (4, false)] : List (Nat × Bool)).lookup c
structure Txt (P : Program) (G : Cfg) (D : Nat → Addr) (mg : Str → Option Value) : Prop where
  b_range : mg "range" = none
  b_len : mg "len" = none
  b_min : mg "min" = none
  b_max : mg "max" = none
  b_tuple : mg "tuple" = none
  b_int : mg "int" = none
  b_isinstance : mg "isinstance" = none
  b_OverflowError : mg "OverflowError" = none
  b_str : mg "str" = none
  b_enumerate : mg "enumerate" = none
  b_sum : mg "sum" = none
  b_all : mg "all" = none
  b_set : mg "set" = none
  c_MOST_ROWS : ∃ u, mg "MOST_ROWS" = some u ∧ RelV (.int 24) u
  c_MOST_PROPERTIES : ∃ u, mg "MOST_PROPERTIES" = some u ∧ RelV (.int 12) u
  c_LETTERS : ∃ u, mg "LETTERS" = some u ∧ RelV (.str "abcdefghijklmnopqrstuvwxyz") u
  c_DIGITS : ∃ u, mg "DIGITS" = some u ∧ RelV (.str "0123456789") u
  c_MOST_SIGNS : ∃ u, mg "MOST_SIGNS" = some u ∧ RelV (.int 8) u
  c_MOST_COMPOUNDS : ∃ u, mg "MOST_COMPOUNDS" = some u ∧ RelV (.int 12) u
  c_JOINS : ∃ u, mg "JOINS" = some u ∧ RelV (.str ">+~") u
  c_MOST_DIGIT : ∃ u, mg "MOST_DIGIT" = some u ∧ RelV (.int 4) u
  ct_WORDS : ∃ p, mg "WORDS" = some (.ref p) ∧ tupK G.K p ["var", "hand", "own"] = true
  tc : G.tc = some 2
  g__law_bad_rules : mg "_law_bad_rules" = some (.ref (D 85))
  k85 : PySem.W.keepIn G.K (.ref (D 85)) = true
  g__law_bad_heads : mg "_law_bad_heads" = some (.ref (D 84))
  k84 : PySem.W.keepIn G.K (.ref (D 84)) = true
  g__law_said : mg "_law_said" = some (.ref (D 83))
  k83 : PySem.W.keepIn G.K (.ref (D 83)) = true
  g__law_pool : mg "_law_pool" = some (.ref (D 81))
  k81 : PySem.W.keepIn G.K (.ref (D 81)) = true
  g__law_take : mg "_law_take" = some (.ref (D 82))
  k82 : PySem.W.keepIn G.K (.ref (D 82)) = true
  g_parse_sheet : mg "parse_sheet" = some (.ref (D 70))
  k70 : PySem.W.keepIn G.K (.ref (D 70)) = true
  g_read_rule : mg "read_rule" = some (.ref (D 69))
  k69 : PySem.W.keepIn G.K (.ref (D 69)) = true
  g_read_property : mg "read_property" = some (.ref (D 64))
  k64 : PySem.W.keepIn G.K (.ref (D 64)) = true
  g_head_text : mg "head_text" = some (.ref (D 72))
  k72 : PySem.W.keepIn G.K (.ref (D 72)) = true
  g_rule_text : mg "rule_text" = some (.ref (D 71))
  k71 : PySem.W.keepIn G.K (.ref (D 71)) = true
  g_is_name : mg "is_name" = some (.ref (D 6))
  k6 : PySem.W.keepIn G.K (.ref (D 6)) = true
  g_is_word : mg "is_word" = some (.ref (D 7))
  k7 : PySem.W.keepIn G.K (.ref (D 7)) = true
  g_is_made_of : mg "is_made_of" = some (.ref (D 5))
  k5 : PySem.W.keepIn G.K (.ref (D 5)) = true
  g_layer_of : mg "layer_of" = some (.ref (D 68))
  k68 : PySem.W.keepIn G.K (.ref (D 68)) = true
  g_read_selectors : mg "read_selectors" = some (.ref (D 67))
  k67 : PySem.W.keepIn G.K (.ref (D 67)) = true
  g_read_declaration : mg "read_declaration" = some (.ref (D 66))
  k66 : PySem.W.keepIn G.K (.ref (D 66)) = true
  g_read_value : mg "read_value" = some (.ref (D 65))
  k65 : PySem.W.keepIn G.K (.ref (D 65)) = true
  g_chain_text : mg "chain_text" = some (.ref (D 28))
  k28 : PySem.W.keepIn G.K (.ref (D 28)) = true
  g_part_text : mg "part_text" = some (.ref (D 27))
  k27 : PySem.W.keepIn G.K (.ref (D 27)) = true
  gc1 : mg "ParseError" = some (.ref (G.cl 1))
  gc0 : mg "StyleError" = some (.ref (G.cl 0))
  gc4 : mg "LimitExceeded" = some (.ref (G.cl 4))
  gc2 : mg "InvalidText" = some (.ref (G.cl 2))
  gc16 : mg "Sheet" = some (.ref (G.cl 16))
  gc14 : mg "Property" = some (.ref (G.cl 14))
  gc15 : mg "Rule" = some (.ref (G.cl 15))
  gc8 : mg "SelectorReader" = some (.ref (G.cl 8))
  gc11 : mg "Selector" = some (.ref (G.cl 11))
  gc7 : mg "Chain" = some (.ref (G.cl 7))
  gc6 : mg "Compound" = some (.ref (G.cl 6))
  cl5 : Cls G.K (G.cl 5)
  cl8 : Cls G.K (G.cl 8)
  na5_spot : NoAttr G.K (G.cl 5) "spot"
  na8_spot : NoAttr G.K (G.cl 8) "spot"
  na5_source : NoAttr G.K (G.cl 5) "source"
  na8_source : NoAttr G.K (G.cl 8) "source"
  sc15 : SlX.SCls G.K (G.cl 15)
  sc16 : SlX.SCls G.K (G.cl 16)
  sc11 : SlX.SCls G.K (G.cl 11)
  sc14 : SlX.SCls G.K (G.cl 14)
  sc7 : SlX.SCls G.K (G.cl 7)
  sc6 : SlX.SCls G.K (G.cl 6)
  s15_selectors : ∃ p, SlX.Slot1 G.K (G.cl 15) "selectors" p 2
  s15_declarations : ∃ p, SlX.Slot1 G.K (G.cl 15) "declarations" p 0
  s16_heads : ∃ p, SlX.Slot1 G.K (G.cl 16) "heads" p 1
  s16_entries : ∃ p, SlX.Slot1 G.K (G.cl 16) "entries" p 0
  s16_written : ∃ p, SlX.Slot1 G.K (G.cl 16) "written" p 2
  s15_layer : ∃ p, SlX.Slot1 G.K (G.cl 15) "layer" p 1
  s11_written : ∃ p, SlX.Slot1 G.K (G.cl 11) "written" p 1
  s14_default : ∃ p, SlX.Slot1 G.K (G.cl 14) "default" p 0
  s14_word : ∃ p, SlX.Slot1 G.K (G.cl 14) "word" p 2
  s14_name : ∃ p, SlX.Slot1 G.K (G.cl 14) "name" p 1
  s11_chain : ∃ p, SlX.Slot1 G.K (G.cl 11) "chain" p 0
  s7_compounds : ∃ p, SlX.Slot1 G.K (G.cl 7) "compounds" p 0
  s6_parts : ∃ p, SlX.Slot1 G.K (G.cl 6) "parts" p 1
  s7_joins : ∃ p, SlX.Slot1 G.K (G.cl 7) "joins" p 1
  s6_own_kind : ∃ p, SlX.Slot1 G.K (G.cl 6) "own_kind" p 0
  me11_compound_total : Meth G.K (G.cl 11) "compound_total" (D 48)
  me5_skip_blanks : Meth G.K (G.cl 5) "skip_blanks" (D 15)
  me8_skip_blanks : Meth G.K (G.cl 8) "skip_blanks" (D 15)
  me8_read_chain : Meth G.K (G.cl 8) "read_chain" (D 19)
  me5_is_sign : Meth G.K (G.cl 5) "is_sign" (D 11)
  me8_is_sign : Meth G.K (G.cl 8) "is_sign" (D 11)
  me5_need_end : Meth G.K (G.cl 5) "need_end" (D 16)
  me8_need_end : Meth G.K (G.cl 8) "need_end" (D 16)
  me5_fail : Meth G.K (G.cl 5) "fail" (D 9)
  me8_fail : Meth G.K (G.cl 8) "fail" (D 9)
  me5_peek : Meth G.K (G.cl 5) "peek" (D 10)
  me8_peek : Meth G.K (G.cl 8) "peek" (D 10)
  me8_read_compound : Meth G.K (G.cl 8) "read_compound" (D 21)
  me8_read_join : Meth G.K (G.cl 8) "read_join" (D 20)
  me5_is_start : Meth G.K (G.cl 5) "is_start" (D 13)
  me8_is_start : Meth G.K (G.cl 8) "is_start" (D 13)
  me5_read_name : Meth G.K (G.cl 5) "read_name" (D 14)
  me8_read_name : Meth G.K (G.cl 8) "read_name" (D 14)
  me8_read_part : Meth G.K (G.cl 8) "read_part" (D 22)
  me5_need : Meth G.K (G.cl 5) "need" (D 12)
  me8_need : Meth G.K (G.cl 8) "need" (D 12)
  me8_nth : Meth G.K (G.cl 8) "nth" (D 23)
  me8_negation : Meth G.K (G.cl 8) "negation" (D 25)
  me8_relation : Meth G.K (G.cl 8) "relation" (D 26)
  me8_digit : Meth G.K (G.cl 8) "digit" (D 24)
  pr11_text : ∃ p, PySem.W.findIn G.K (.ref (G.cl 11)) "text" = some (some (.ref p)) ∧ PySem.W.specialIn G.K (.ref p) "__get__" = some (some (.builtin "property.__get__")) ∧ PySem.W.takesIn G.K (.ref p) = some true ∧ ∃ rest, PySem.W.recIn G.K p "property" = some (.ref (D 46) :: rest)
  mk16 : Mk G.K (G.cl 16) (D 73)
  mk14 : Mk G.K (G.cl 14) (D 62)
  mk15 : Mk G.K (G.cl 15) (D 63)
  mk8 : Mk G.K (G.cl 8) (D 8)
  mk11 : Mk G.K (G.cl 11) (D 45)
  mk7 : Mk G.K (G.cl 7) (D 18)
  mk6 : Mk G.K (G.cl 6) (D 17)
  x1 : ∃ fI B newId i bmB, PySem.XeX.XT P G.K mg (G.cl 1) fI "ParseError" (G.fn 1) B newId i bmB
  x4 : ∃ fI B newId i bmB, PySem.XeX.XT P G.K mg (G.cl 4) fI "LimitExceeded" (G.fn 4) B newId i bmB
  x2 : ∃ fI B newId i bmB, PySem.XeX.XT P G.K mg (G.cl 2) fI "InvalidText" (G.fn 2) B newId i bmB
  xf0 : ∀ c, txf0 c = true → XfC G.K (G.cl c) ∧ PySem.W.findIn G.K (.ref (G.cl c)) "line" = some none ∧ G.fn c = "line"
  xf1 : ∀ c, txf1 c = true → XfC G.K (G.cl c) ∧ PySem.W.findIn G.K (.ref (G.cl c)) "limit" = some none ∧ G.fn c = "limit"
  xi0 : ∀ c b, txi0 c = some b → ExcC G.K (G.cl c) ∧ PySem.W.kitOne G.K (.ref (G.cl c)) (.ref (G.cl 0)) = some b
  xi1 : ∀ c b, txi1 c = some b → ExcC G.K (G.cl c) ∧ PySem.W.kitOne G.K (.ref (G.cl c)) (.type "OverflowError") = some b
  exm1 : ∀ c b, texm1 c = some b → PySem.W.exmOne G.K (.ref (G.cl c)) (.ref (G.cl 1)) = some b
  exm4 : ∀ c b, texm4 c = some b → PySem.W.exmOne G.K (.ref (G.cl c)) (.ref (G.cl 4)) = some b
  exm2 : ∀ c b, texm2 c = some b → PySem.W.exmOne G.K (.ref (G.cl c)) (.ref (G.cl 2)) = some b
  u85 : Dfn G "_law_bad_rules" (top 53) [] [] (D 85)
  u84 : Dfn G "_law_bad_heads" (top 52) [] [] (D 84)
  u83 : Dfn G "_law_said" (top 51) ["_law_value"] [] (D 83)
  u81 : Dfn G "_law_pool" (top 49) ["_law_script", "_law_k"] [] (D 81)
  u82 : Dfn G "_law_take" (top 50) ["_law_pool_here", "_law_many"] [] (D 82)
  u70 : Dfn G "parse_sheet" (top 44) ["text"] [] (D 70)
  u69 : Dfn G "read_rule" (top 43) ["line", "heads"] [] (D 69)
  u64 : Dfn G "read_property" (top 38) ["line", "heads"] [] (D 64)
  u73 : Dfn G "Sheet.__init__" (inClass (top 47) 1) ["self", "heads", "entries"] [] (D 73)
  u72 : Dfn G "head_text" (top 46) ["head"] [] (D 72)
  u71 : Dfn G "rule_text" (top 45) ["rule"] [] (D 71)
  u46 : Dfn G "Selector.text" (inClass (top 29) 2) ["self"] [] (D 46)
  u6 : Dfn G "is_name" (top 12) ["value"] [] (D 6)
  u62 : Dfn G "Property.__init__" (inClass (top 36) 1) ["self", "word", "name", "default"] [] (D 62)
  u7 : Dfn G "is_word" (top 13) ["value"] [] (D 7)
  u5 : Dfn G "is_made_of" (top 11) ["value", "signs"] [] (D 5)
  u68 : Dfn G "layer_of" (top 42) ["text"] [] (D 68)
  u67 : Dfn G "read_selectors" (top 41) ["text"] [] (D 67)
  u66 : Dfn G "read_declaration" (top 40) ["text", "heads"] [] (D 66)
  u48 : Dfn G "Selector.compound_total" (inClass (top 29) 4) ["self"] [] (D 48)
  u63 : Dfn G "Rule.__init__" (inClass (top 37) 1) ["self", "layer", "selectors", "declarations"] [] (D 63)
  u65 : Dfn G "read_value" (top 39) ["text", "earlier"] [] (D 65)
  u8 : Dfn G "TextReader.__init__" (inClass (top 14) 0) ["self", "text"] [] (D 8)
  u15 : Dfn G "TextReader.skip_blanks" (inClass (top 14) 7) ["self"] [] (D 15)
  u19 : Dfn G "SelectorReader.read_chain" (inClass (top 20) 0) ["self", "join", "is_own"] [] (D 19)
  u45 : Dfn G "Selector.__init__" (inClass (top 29) 1) ["self", "chain"] [] (D 45)
  u11 : Dfn G "TextReader.is_sign" (inClass (top 14) 3) ["self", "sign"] [] (D 11)
  u16 : Dfn G "TextReader.need_end" (inClass (top 14) 8) ["self"] [] (D 16)
  u9 : Dfn G "TextReader.fail" (inClass (top 14) 1) ["self"] [] (D 9)
  u10 : Dfn G "TextReader.peek" (inClass (top 14) 2) ["self"] [] (D 10)
  u21 : Dfn G "SelectorReader.read_compound" (inClass (top 20) 2) ["self", "is_own"] [] (D 21)
  u20 : Dfn G "SelectorReader.read_join" (inClass (top 20) 1) ["self"] [] (D 20)
  u18 : Dfn G "Chain.__init__" (inClass (top 19) 1) ["self", "compounds", "joins"] [] (D 18)
  u13 : Dfn G "TextReader.is_start" (inClass (top 14) 5) ["self"] [] (D 13)
  u14 : Dfn G "TextReader.read_name" (inClass (top 14) 6) ["self"] [] (D 14)
  u22_1 : Dfn G "SelectorReader.read_part" (inClass (top 20) 3) ["self", "is_own", "may_negate"] [(.bl true)] (D 22)
  u17 : Dfn G "Compound.__init__" (inClass (top 18) 1) ["self", "own_kind", "parts"] [] (D 17)
  u12 : Dfn G "TextReader.need" (inClass (top 14) 4) ["self", "sign"] [] (D 12)
  u23 : Dfn G "SelectorReader.nth" (inClass (top 20) 4) ["self"] [] (D 23)
  u25 : Dfn G "SelectorReader.negation" (inClass (top 20) 6) ["self"] [] (D 25)
  u26 : Dfn G "SelectorReader.relation" (inClass (top 20) 7) ["self"] [] (D 26)
  u22 : Dfn G "SelectorReader.read_part" (inClass (top 20) 3) ["self", "is_own", "may_negate"] [] (D 22)
  u24 : Dfn G "SelectorReader.digit" (inClass (top 20) 5) ["self"] [] (D 24)
  u28 : Dfn G "chain_text" (top 22) ["chain"] [] (D 28)
  u27 : Dfn G "part_text" (top 21) ["part"] [] (D 27)
structure Al (P : Program) (w : World) (mg : Str → Option Value) (base : Heap) (G : Cfg) (k : Nat) (D : Nat → Addr) (cl : Nat → Fn) : Prop where
  f85 : FOkB P w mg base G k (D 85) (cl 85) []
  f84 : FOkB P w mg base G k (D 84) (cl 84) []
  f83 : FOkB P w mg base G k (D 83) (cl 83) []
  f81 : FOkB P w mg base G k (D 81) (cl 81) []
  f82 : FOkB P w mg base G k (D 82) (cl 82) []
  f70 : FOkB P w mg base G k (D 70) (cl 70) []
  f69 : FOkB P w mg base G k (D 69) (cl 69) []
  f64 : FOkB P w mg base G k (D 64) (cl 64) []
  f73 : FOkB P w mg base G k (D 73) (cl 73) []
  f72 : FOkB P w mg base G k (D 72) (cl 72) []
  f71 : FOkB P w mg base G k (D 71) (cl 71) []
  f46 : FOkB P w mg base G k (D 46) (cl 46) []
  f6 : FOkB P w mg base G k (D 6) (cl 6) []
  f62 : FOkB P w mg base G k (D 62) (cl 62) []
  f7 : FOkB P w mg base G k (D 7) (cl 7) []
  f5 : FOkB P w mg base G k (D 5) (cl 5) []
  f68 : FOkB P w mg base G k (D 68) (cl 68) []
  f67 : FOkB P w mg base G k (D 67) (cl 67) []
  f66 : FOkB P w mg base G k (D 66) (cl 66) []
  f48 : FOkB P w mg base G k (D 48) (cl 48) []
  f63 : FOkB P w mg base G k (D 63) (cl 63) []
  f65 : FOkB P w mg base G k (D 65) (cl 65) []
  f8 : FOkB P w mg base G k (D 8) (cl 8) []
  f15 : FOkB P w mg base G k (D 15) (cl 15) []
  f19 : FOkB P w mg base G k (D 19) (cl 19) []
  f45 : FOkB P w mg base G k (D 45) (cl 45) []
  f11 : FOkB P w mg base G k (D 11) (cl 11) []
  f16 : FOkB P w mg base G k (D 16) (cl 16) []
  f9 : FOkB P w mg base G k (D 9) (cl 9) []
  f10 : FOkB P w mg base G k (D 10) (cl 10) []
  f21 : FOkB P w mg base G k (D 21) (cl 21) []
  f20 : FOkB P w mg base G k (D 20) (cl 20) []
  f18 : FOkB P w mg base G k (D 18) (cl 18) []
  f13 : FOkB P w mg base G k (D 13) (cl 13) []
  f14 : FOkB P w mg base G k (D 14) (cl 14) []
  f22_1 : FOkB P w mg base G k (D 22) (cl 22) [(.bl true)]
  f17 : FOkB P w mg base G k (D 17) (cl 17) []
  f12 : FOkB P w mg base G k (D 12) (cl 12) []
  f23 : FOkB P w mg base G k (D 23) (cl 23) []
  f25 : FOkB P w mg base G k (D 25) (cl 25) []
  f26 : FOkB P w mg base G k (D 26) (cl 26) []
  f22 : FOkB P w mg base G k (D 22) (cl 22) []
  f24 : FOkB P w mg base G k (D 24) (cl 24) []
  f28 : FOkB P w mg base G k (D 28) (cl 28) []
  f27 : FOkB P w mg base G k (D 27) (cl 27) []
section
variable {P : Program} {w : World} {mg : Str → Option Value} {base : Heap} {G : Cfg} {k : Nat} {D : Nat → Addr} {cl : Nat → Fn} {fd : FuncData}
theorem fo5_spot (T : Txt P G D mg) : ∀ c ∈ cs5, Cls G.K (G.cl c) ∧ NoAttr G.K (G.cl c) "spot" := by
  intro c hc
  simp only [cs5, List.mem_cons, List.not_mem_nil, or_false] at hc
  rcases hc with rfl | rfl
  · exact ⟨T.cl5, T.na5_spot⟩
  · exact ⟨T.cl8, T.na8_spot⟩
theorem fo5_source (T : Txt P G D mg) : ∀ c ∈ cs5, Cls G.K (G.cl c) ∧ NoAttr G.K (G.cl c) "source" := by
  intro c hc
  simp only [cs5, List.mem_cons, List.not_mem_nil, or_false] at hc
  rcases hc with rfl | rfl
  · exact ⟨T.cl5, T.na5_source⟩
  · exact ⟨T.cl8, T.na8_source⟩
theorem mo5_skip_blanks_0 (T : Txt P G D mg) (A : Al P w mg base G k D cl) : ∀ c fn dw, mt5_skip_blanks_0 cl c = some (fn, dw) → ∃ f, Cls G.K (G.cl c) ∧ Meth G.K (G.cl c) "skip_blanks" f ∧ FOkB P w mg base G (k + 1) f fn dw := by
  intro c fn dw h
  unfold mt5_skip_blanks_0 at h
  split at h
  · rename_i e; subst e; cases h; exact ⟨_, T.cl5, T.me5_skip_blanks, A.f15.up⟩
  · skip
    split at h
    · rename_i e; subst e; cases h; exact ⟨_, T.cl8, T.me8_skip_blanks, A.f15.up⟩
    · cases h
theorem mo8_read_chain_2 (T : Txt P G D mg) (A : Al P w mg base G k D cl) : ∀ c fn dw, mt8_read_chain_2 cl c = some (fn, dw) → ∃ f, Cls G.K (G.cl c) ∧ Meth G.K (G.cl c) "read_chain" f ∧ FOkB P w mg base G (k + 1) f fn dw := by
  intro c fn dw h
  unfold mt8_read_chain_2 at h
  split at h
  · rename_i e; subst e; cases h; exact ⟨_, T.cl8, T.me8_read_chain, A.f19.up⟩
  · cases h
theorem mo5_is_sign_1 (T : Txt P G D mg) (A : Al P w mg base G k D cl) : ∀ c fn dw, mt5_is_sign_1 cl c = some (fn, dw) → ∃ f, Cls G.K (G.cl c) ∧ Meth G.K (G.cl c) "is_sign" f ∧ FOkB P w mg base G (k + 1) f fn dw := by
  intro c fn dw h
  unfold mt5_is_sign_1 at h
  split at h
  · rename_i e; subst e; cases h; exact ⟨_, T.cl5, T.me5_is_sign, A.f11.up⟩
  · skip
    split at h
    · rename_i e; subst e; cases h; exact ⟨_, T.cl8, T.me8_is_sign, A.f11.up⟩
    · cases h
theorem mo5_need_end_0 (T : Txt P G D mg) (A : Al P w mg base G k D cl) : ∀ c fn dw, mt5_need_end_0 cl c = some (fn, dw) → ∃ f, Cls G.K (G.cl c) ∧ Meth G.K (G.cl c) "need_end" f ∧ FOkB P w mg base G (k + 1) f fn dw := by
  intro c fn dw h
  unfold mt5_need_end_0 at h
  split at h
  · rename_i e; subst e; cases h; exact ⟨_, T.cl5, T.me5_need_end, A.f16.up⟩
  · skip
    split at h
    · rename_i e; subst e; cases h; exact ⟨_, T.cl8, T.me8_need_end, A.f16.up⟩
    · cases h
theorem mo5_fail_0 (T : Txt P G D mg) (A : Al P w mg base G k D cl) : ∀ c fn dw, mt5_fail_0 cl c = some (fn, dw) → ∃ f, Cls G.K (G.cl c) ∧ Meth G.K (G.cl c) "fail" f ∧ FOkB P w mg base G (k + 1) f fn dw := by
  intro c fn dw h
  unfold mt5_fail_0 at h
  split at h
  · rename_i e; subst e; cases h; exact ⟨_, T.cl5, T.me5_fail, A.f9.up⟩
  · skip
    split at h
    · rename_i e; subst e; cases h; exact ⟨_, T.cl8, T.me8_fail, A.f9.up⟩
    · cases h
theorem mo5_peek_0 (T : Txt P G D mg) (A : Al P w mg base G k D cl) : ∀ c fn dw, mt5_peek_0 cl c = some (fn, dw) → ∃ f, Cls G.K (G.cl c) ∧ Meth G.K (G.cl c) "peek" f ∧ FOkB P w mg base G (k + 1) f fn dw := by
  intro c fn dw h
  unfold mt5_peek_0 at h
  split at h
  · rename_i e; subst e; cases h; exact ⟨_, T.cl5, T.me5_peek, A.f10.up⟩
  · skip
    split at h
    · rename_i e; subst e; cases h; exact ⟨_, T.cl8, T.me8_peek, A.f10.up⟩
    · cases h
theorem mo8_read_compound_1 (T : Txt P G D mg) (A : Al P w mg base G k D cl) : ∀ c fn dw, mt8_read_compound_1 cl c = some (fn, dw) → ∃ f, Cls G.K (G.cl c) ∧ Meth G.K (G.cl c) "read_compound" f ∧ FOkB P w mg base G (k + 1) f fn dw := by
  intro c fn dw h
  unfold mt8_read_compound_1 at h
  split at h
  · rename_i e; subst e; cases h; exact ⟨_, T.cl8, T.me8_read_compound, A.f21.up⟩
  · cases h
theorem mo8_read_join_0 (T : Txt P G D mg) (A : Al P w mg base G k D cl) : ∀ c fn dw, mt8_read_join_0 cl c = some (fn, dw) → ∃ f, Cls G.K (G.cl c) ∧ Meth G.K (G.cl c) "read_join" f ∧ FOkB P w mg base G (k + 1) f fn dw := by
  intro c fn dw h
  unfold mt8_read_join_0 at h
  split at h
  · rename_i e; subst e; cases h; exact ⟨_, T.cl8, T.me8_read_join, A.f20.up⟩
  · cases h
theorem mo5_is_start_0 (T : Txt P G D mg) (A : Al P w mg base G k D cl) : ∀ c fn dw, mt5_is_start_0 cl c = some (fn, dw) → ∃ f, Cls G.K (G.cl c) ∧ Meth G.K (G.cl c) "is_start" f ∧ FOkB P w mg base G (k + 1) f fn dw := by
  intro c fn dw h
  unfold mt5_is_start_0 at h
  split at h
  · rename_i e; subst e; cases h; exact ⟨_, T.cl5, T.me5_is_start, A.f13.up⟩
  · skip
    split at h
    · rename_i e; subst e; cases h; exact ⟨_, T.cl8, T.me8_is_start, A.f13.up⟩
    · cases h
theorem mo5_read_name_0 (T : Txt P G D mg) (A : Al P w mg base G k D cl) : ∀ c fn dw, mt5_read_name_0 cl c = some (fn, dw) → ∃ f, Cls G.K (G.cl c) ∧ Meth G.K (G.cl c) "read_name" f ∧ FOkB P w mg base G (k + 1) f fn dw := by
  intro c fn dw h
  unfold mt5_read_name_0 at h
  split at h
  · rename_i e; subst e; cases h; exact ⟨_, T.cl5, T.me5_read_name, A.f14.up⟩
  · skip
    split at h
    · rename_i e; subst e; cases h; exact ⟨_, T.cl8, T.me8_read_name, A.f14.up⟩
    · cases h
theorem mo8_read_part_1 (T : Txt P G D mg) (A : Al P w mg base G k D cl) : ∀ c fn dw, mt8_read_part_1 cl c = some (fn, dw) → ∃ f, Cls G.K (G.cl c) ∧ Meth G.K (G.cl c) "read_part" f ∧ FOkB P w mg base G (k + 1) f fn dw := by
  intro c fn dw h
  unfold mt8_read_part_1 at h
  split at h
  · rename_i e; subst e; cases h; exact ⟨_, T.cl8, T.me8_read_part, A.f22_1.up⟩
  · cases h
theorem mo5_need_1 (T : Txt P G D mg) (A : Al P w mg base G k D cl) : ∀ c fn dw, mt5_need_1 cl c = some (fn, dw) → ∃ f, Cls G.K (G.cl c) ∧ Meth G.K (G.cl c) "need" f ∧ FOkB P w mg base G (k + 1) f fn dw := by
  intro c fn dw h
  unfold mt5_need_1 at h
  split at h
  · rename_i e; subst e; cases h; exact ⟨_, T.cl5, T.me5_need, A.f12.up⟩
  · skip
    split at h
    · rename_i e; subst e; cases h; exact ⟨_, T.cl8, T.me8_need, A.f12.up⟩
    · cases h
theorem mo8_nth_0 (T : Txt P G D mg) (A : Al P w mg base G k D cl) : ∀ c fn dw, mt8_nth_0 cl c = some (fn, dw) → ∃ f, Cls G.K (G.cl c) ∧ Meth G.K (G.cl c) "nth" f ∧ FOkB P w mg base G (k + 1) f fn dw := by
  intro c fn dw h
  unfold mt8_nth_0 at h
  split at h
  · rename_i e; subst e; cases h; exact ⟨_, T.cl8, T.me8_nth, A.f23.up⟩
  · cases h
theorem mo8_negation_0 (T : Txt P G D mg) (A : Al P w mg base G k D cl) : ∀ c fn dw, mt8_negation_0 cl c = some (fn, dw) → ∃ f, Cls G.K (G.cl c) ∧ Meth G.K (G.cl c) "negation" f ∧ FOkB P w mg base G (k + 1) f fn dw := by
  intro c fn dw h
  unfold mt8_negation_0 at h
  split at h
  · rename_i e; subst e; cases h; exact ⟨_, T.cl8, T.me8_negation, A.f25.up⟩
  · cases h
theorem mo8_relation_0 (T : Txt P G D mg) (A : Al P w mg base G k D cl) : ∀ c fn dw, mt8_relation_0 cl c = some (fn, dw) → ∃ f, Cls G.K (G.cl c) ∧ Meth G.K (G.cl c) "relation" f ∧ FOkB P w mg base G (k + 1) f fn dw := by
  intro c fn dw h
  unfold mt8_relation_0 at h
  split at h
  · rename_i e; subst e; cases h; exact ⟨_, T.cl8, T.me8_relation, A.f26.up⟩
  · cases h
theorem mo8_read_part_2 (T : Txt P G D mg) (A : Al P w mg base G k D cl) : ∀ c fn dw, mt8_read_part_2 cl c = some (fn, dw) → ∃ f, Cls G.K (G.cl c) ∧ Meth G.K (G.cl c) "read_part" f ∧ FOkB P w mg base G (k + 1) f fn dw := by
  intro c fn dw h
  unfold mt8_read_part_2 at h
  split at h
  · rename_i e; subst e; cases h; exact ⟨_, T.cl8, T.me8_read_part, A.f22.up⟩
  · cases h
theorem mo8_digit_0 (T : Txt P G D mg) (A : Al P w mg base G k D cl) : ∀ c fn dw, mt8_digit_0 cl c = some (fn, dw) → ∃ f, Cls G.K (G.cl c) ∧ Meth G.K (G.cl c) "digit" f ∧ FOkB P w mg base G (k + 1) f fn dw := by
  intro c fn dw h
  unfold mt8_digit_0 at h
  split at h
  · rename_i e; subst e; cases h; exact ⟨_, T.cl8, T.me8_digit, A.f24.up⟩
  · cases h
theorem sc5 : FnScope ["value", "signs", "sign"] ["value", "signs"] (defScope (top 11)) := ⟨rfl, rfl, rfl, by decide +kernel, rfl, by decide +kernel, by decide +kernel⟩
def b5 (cl : Nat → Fn) (nF : Nat) : Ev :=
  (eRet (eAnd (eIsi is_str (eLoc 0)) (eAnd (eChain oLe oLe (eK (.int 1)) (eBlt bLen (eCons (eLoc 0) eNil)) (eK (.int 8))) (eBlt bAll (eCons (eLc nF (iS (eLoc 0)) [2] (gN 2) eYes (eBin oIn (eLoc 2) (eLoc 1))) eNil)))))
theorem ok5 {nF : Nat} (T : Txt P G D mg) (hx : G.xs = none ∧ G.xd = none) (A : Al P w mg base G k D cl) (u : DefAt G.K "is_made_of" (top 11) (D 5) fd) :
    FnG G.dty P w G.K mg base (k + 2) (D 5) fd ["value", "signs"] (spC G (["value", "signs"] : List Str).length (fnOf (["value", "signs"] : List Str).length (["value", "signs", "sign"] : List Str).length (b5 cl nF))) := by
  refine fn_ok (G := G) (P := P) (w := w) (K := G.K) (mg := mg) (base := base) (qual := "is_made_of") (st := (top 11)) (f := D 5) (fd := fd) (N := ["value", "signs", "sign"]) (ps := ["value", "signs"]) (k := k + 1) (body := b5 cl nF) u sc5 (by decide) hx ?_
  intro cdv Ar outer s H E gd hr
  have F := fit_of (G := G) (k := k + 1) (P := P) (w := w) (mg := mg) (base := base) (N := ["value", "signs", "sign"]) (qual := "is_made_of") (st := (top 11)) (f := D 5) (cdv := cdv) (A := Ar) (outer := outer) (s := s) (H := H) (E := E) rfl hx.1 gd hr
  exact (b_one (v_ret (s_and (s_isi (T := "str") F.lit his_str (s_loc 0) T.b_isinstance T.b_str (by decide +kernel)) (s_and (s_chain F so_le so_le s_int (s_blt (c_len F.K) T.b_len PySem.boot_len (a_cons (s_loc 0) a_nil)) (s_glob (w := (.int 8)) (v := (.int 8)) T.c_MOST_SIGNS.choose_spec.1 T.c_MOST_SIGNS.choose_spec.2 (fun _ _ _ => .int _))) (s_one (s_blt (c_all F) T.b_all (by decide +kernel) (a_cons (s_lc nF F sc5.nd (i_str (s_loc 0)) (own := [("sign", 2)]) (blkOk_by rfl) (fun _ _ _ _ _ => (gw_name 2 sc5.nd)) (fun _ _ _ _ _ => ts_nil) (fun _ _ _ _ _ => (s_cmp (so_in (Fit.blk F)) (s_loc 2) (s_loc 1)))) a_nil)))))))
theorem sc6 : FnScope ["value"] ["value"] (defScope (top 12)) := ⟨rfl, rfl, rfl, by decide +kernel, rfl, by decide +kernel, by decide +kernel⟩
def b6 (cl : Nat → Fn) (nF : Nat) : Ev :=
  (eRet (eCall (cl 5) [] (eCons (eLoc 0) (eCons (eK (.str "abcdefghijklmnopqrstuvwxyz")) eNil))))
theorem ok6 {nF : Nat} (T : Txt P G D mg) (hx : G.xs = none ∧ G.xd = none) (A : Al P w mg base G k D cl) (u : DefAt G.K "is_name" (top 12) (D 6) fd) :
    FnG G.dty P w G.K mg base (k + 2) (D 6) fd ["value"] (spC G (["value"] : List Str).length (fnOf (["value"] : List Str).length (["value"] : List Str).length (b6 cl nF))) := by
  refine fn_ok (G := G) (P := P) (w := w) (K := G.K) (mg := mg) (base := base) (qual := "is_name") (st := (top 12)) (f := D 6) (fd := fd) (N := ["value"]) (ps := ["value"]) (k := k + 1) (body := b6 cl nF) u sc6 (by decide) hx ?_
  intro cdv Ar outer s H E gd hr
  have F := fit_of (G := G) (k := k + 1) (P := P) (w := w) (mg := mg) (base := base) (N := ["value"]) (qual := "is_name") (st := (top 12)) (f := D 6) (cdv := cdv) (A := Ar) (outer := outer) (s := s) (H := H) (E := E) rfl hx.1 gd hr
  exact (b_one (v_ret (s_call F A.f5.up T.g_is_made_of T.k5 (a_cons (s_loc 0) (a_cons (s_glob (w := (.str "abcdefghijklmnopqrstuvwxyz")) (v := (.str "abcdefghijklmnopqrstuvwxyz")) T.c_LETTERS.choose_spec.1 T.c_LETTERS.choose_spec.2 (fun _ _ _ => .str _)) a_nil)))))
theorem sc7 : FnScope ["value"] ["value"] (defScope (top 13)) := ⟨rfl, rfl, rfl, by decide +kernel, rfl, by decide +kernel, by decide +kernel⟩
def b7 (cl : Nat → Fn) (nF : Nat) : Ev :=
  (eRet (eAnd (eCall (cl 5) [] (eCons (eLoc 0) (eCons (eBin oAdd (eK (.str "abcdefghijklmnopqrstuvwxyz")) (eK (.str "0123456789"))) eNil))) (eBin oNe (eLoc 0) (eK (.str "inherit")))))
theorem ok7 {nF : Nat} (T : Txt P G D mg) (hx : G.xs = none ∧ G.xd = none) (A : Al P w mg base G k D cl) (u : DefAt G.K "is_word" (top 13) (D 7) fd) :
    FnG G.dty P w G.K mg base (k + 2) (D 7) fd ["value"] (spC G (["value"] : List Str).length (fnOf (["value"] : List Str).length (["value"] : List Str).length (b7 cl nF))) := by
  refine fn_ok (G := G) (P := P) (w := w) (K := G.K) (mg := mg) (base := base) (qual := "is_word") (st := (top 13)) (f := D 7) (fd := fd) (N := ["value"]) (ps := ["value"]) (k := k + 1) (body := b7 cl nF) u sc7 (by decide) hx ?_
  intro cdv Ar outer s H E gd hr
  have F := fit_of (G := G) (k := k + 1) (P := P) (w := w) (mg := mg) (base := base) (N := ["value"]) (qual := "is_word") (st := (top 13)) (f := D 7) (cdv := cdv) (A := Ar) (outer := outer) (s := s) (H := H) (E := E) rfl hx.1 gd hr
  exact (b_one (v_ret (s_and (s_call F A.f5.up T.g_is_made_of T.k5 (a_cons (s_loc 0) (a_cons (s_bin (so_add F) (s_glob (w := (.str "abcdefghijklmnopqrstuvwxyz")) (v := (.str "abcdefghijklmnopqrstuvwxyz")) T.c_LETTERS.choose_spec.1 T.c_LETTERS.choose_spec.2 (fun _ _ _ => .str _)) (s_glob (w := (.str "0123456789")) (v := (.str "0123456789")) T.c_DIGITS.choose_spec.1 T.c_DIGITS.choose_spec.2 (fun _ _ _ => .str _))) a_nil))) (s_one (s_cmp (so_ne F) (s_loc 0) s_str)))))
theorem sc8 : FnScope ["self", "text"] ["self", "text"] (defScope (inClass (top 14) 0)) := ⟨rfl, rfl, rfl, by decide +kernel, rfl, by decide +kernel, by decide +kernel⟩
def b8 (cl : Nat → Fn) (nF : Nat) : Ev :=
  (eSeq (eSetF cs5 "source" (eLoc 0) (eLoc 1))
    (eSetF cs5 "spot" (eLoc 0) (eK (.int 0))))
theorem ok8 {nF : Nat} (T : Txt P G D mg) (hx : G.xs = none ∧ G.xd = none) (A : Al P w mg base G k D cl) (u : DefAt G.K "TextReader.__init__" (inClass (top 14) 0) (D 8) fd) :
    FnG G.dty P w G.K mg base (k + 2) (D 8) fd ["self", "text"] (spC G (["self", "text"] : List Str).length (fnOf (["self", "text"] : List Str).length (["self", "text"] : List Str).length (b8 cl nF))) := by
  refine fn_ok (G := G) (P := P) (w := w) (K := G.K) (mg := mg) (base := base) (qual := "TextReader.__init__") (st := (inClass (top 14) 0)) (f := D 8) (fd := fd) (N := ["self", "text"]) (ps := ["self", "text"]) (k := k + 1) (body := b8 cl nF) u sc8 (by decide) hx ?_
  intro cdv Ar outer s H E gd hr
  have F := fit_of (G := G) (k := k + 1) (P := P) (w := w) (mg := mg) (base := base) (N := ["self", "text"]) (qual := "TextReader.__init__") (st := (inClass (top 14) 0)) (f := D 8) (cdv := cdv) (A := Ar) (outer := outer) (s := s) (H := H) (E := E) rfl hx.1 gd hr
  exact (b_cons (v_setF F (fo5_source T) (s_loc 0) (s_loc 1))
    (b_one (v_setF F (fo5_spot T) (s_loc 0) s_int)))
theorem sc9 : FnScope ["self"] ["self"] (defScope (inClass (top 14) 1)) := ⟨rfl, rfl, rfl, by decide +kernel, rfl, by decide +kernel, by decide +kernel⟩
def b9 (cl : Nat → Fn) (nF : Nat) : Ev :=
  (eRaise 2 (eFld cs5 "source" (eLoc 0)))
theorem ok9 {nF : Nat} (T : Txt P G D mg) (hx : G.xs = none ∧ G.xd = none) (A : Al P w mg base G k D cl) (u : DefAt G.K "TextReader.fail" (inClass (top 14) 1) (D 9) fd) :
    FnG G.dty P w G.K mg base (k + 2) (D 9) fd ["self"] (spC G (["self"] : List Str).length (fnOf (["self"] : List Str).length (["self"] : List Str).length (b9 cl nF))) := by
  refine fn_ok (G := G) (P := P) (w := w) (K := G.K) (mg := mg) (base := base) (qual := "TextReader.fail") (st := (inClass (top 14) 1)) (f := D 9) (fd := fd) (N := ["self"]) (ps := ["self"]) (k := k + 1) (body := b9 cl nF) u sc9 (by decide) hx ?_
  intro cdv Ar outer s H E gd hr
  have F := fit_of (G := G) (k := k + 1) (P := P) (w := w) (mg := mg) (base := base) (N := ["self"]) (qual := "TextReader.fail") (st := (inClass (top 14) 1)) (f := D 9) (cdv := cdv) (A := Ar) (outer := outer) (s := s) (H := H) (E := E) rfl hx.1 gd hr
  exact (b_one (v_raise F T.x2 (s_fld F (fo5_source T) (s_loc 0))))
theorem sc10 : FnScope ["self"] ["self"] (defScope (inClass (top 14) 2)) := ⟨rfl, rfl, rfl, by decide +kernel, rfl, by decide +kernel, by decide +kernel⟩
def b10 (cl : Nat → Fn) (nF : Nat) : Ev :=
  (eRet (eSl (eFld cs5 "source" (eLoc 0)) (eInt (eFld cs5 "spot" (eLoc 0))) (eInt (eBin oAdd (eFld cs5 "spot" (eLoc 0)) (eK (.int 1))))))
theorem ok10 {nF : Nat} (T : Txt P G D mg) (hx : G.xs = none ∧ G.xd = none) (A : Al P w mg base G k D cl) (u : DefAt G.K "TextReader.peek" (inClass (top 14) 2) (D 10) fd) :
    FnG G.dty P w G.K mg base (k + 2) (D 10) fd ["self"] (spC G (["self"] : List Str).length (fnOf (["self"] : List Str).length (["self"] : List Str).length (b10 cl nF))) := by
  refine fn_ok (G := G) (P := P) (w := w) (K := G.K) (mg := mg) (base := base) (qual := "TextReader.peek") (st := (inClass (top 14) 2)) (f := D 10) (fd := fd) (N := ["self"]) (ps := ["self"]) (k := k + 1) (body := b10 cl nF) u sc10 (by decide) hx ?_
  intro cdv Ar outer s H E gd hr
  have F := fit_of (G := G) (k := k + 1) (P := P) (w := w) (mg := mg) (base := base) (N := ["self"]) (qual := "TextReader.peek") (st := (inClass (top 14) 2)) (f := D 10) (cdv := cdv) (A := Ar) (outer := outer) (s := s) (H := H) (E := E) rfl hx.1 gd hr
  exact (b_one (v_ret (s_sl F (s_fld F (fo5_source T) (s_loc 0)) (o_some (s_fld F (fo5_spot T) (s_loc 0))) (o_some (s_bin (so_add F) (s_fld F (fo5_spot T) (s_loc 0)) s_int)))))
theorem sc11 : FnScope ["self", "sign"] ["self", "sign"] (defScope (inClass (top 14) 3)) := ⟨rfl, rfl, rfl, by decide +kernel, rfl, by decide +kernel, by decide +kernel⟩
def b11 (cl : Nat → Fn) (nF : Nat) : Ev :=
  (eSeq (eIfS (eBin oEq (eMeth "peek" (mt5_peek_0 cl) (eLoc 0) eNil) (eLoc 1)) (eSeq (eAugF cs5 "spot" (eLoc 0) (eK (.int 1)))
    (eRet (eK (.bl true)))) eEnd)
    (eRet (eK (.bl false))))
theorem ok11 {nF : Nat} (T : Txt P G D mg) (hx : G.xs = none ∧ G.xd = none) (A : Al P w mg base G k D cl) (u : DefAt G.K "TextReader.is_sign" (inClass (top 14) 3) (D 11) fd) :
    FnG G.dty P w G.K mg base (k + 2) (D 11) fd ["self", "sign"] (spC G (["self", "sign"] : List Str).length (fnOf (["self", "sign"] : List Str).length (["self", "sign"] : List Str).length (b11 cl nF))) := by
  refine fn_ok (G := G) (P := P) (w := w) (K := G.K) (mg := mg) (base := base) (qual := "TextReader.is_sign") (st := (inClass (top 14) 3)) (f := D 11) (fd := fd) (N := ["self", "sign"]) (ps := ["self", "sign"]) (k := k + 1) (body := b11 cl nF) u sc11 (by decide) hx ?_
  intro cdv Ar outer s H E gd hr
  have F := fit_of (G := G) (k := k + 1) (P := P) (w := w) (mg := mg) (base := base) (N := ["self", "sign"]) (qual := "TextReader.is_sign") (st := (inClass (top 14) 3)) (f := D 11) (cdv := cdv) (A := Ar) (outer := outer) (s := s) (H := H) (E := E) rfl hx.1 gd hr
  exact (b_cons (v_if (t_cmp (so_eq F) (s_meth0 F (mo5_peek_0 T A) (s_loc 0)) (s_loc 1)) (b_cons (v_augF F (fo5_spot T) (s_loc 0) s_int)
    (b_one (v_ret s_bl))) b_end)
    (b_one (v_ret s_bl)))
theorem sc12 : FnScope ["self", "sign"] ["self", "sign"] (defScope (inClass (top 14) 4)) := ⟨rfl, rfl, rfl, by decide +kernel, rfl, by decide +kernel, by decide +kernel⟩
def b12 (cl : Nat → Fn) (nF : Nat) : Ev :=
  (eIfS (eNot (eMeth "is_sign" (mt5_is_sign_1 cl) (eLoc 0) (eCons (eLoc 1) eNil))) (eDrop (eMeth "fail" (mt5_fail_0 cl) (eLoc 0) eNil)) eEnd)
theorem ok12 {nF : Nat} (T : Txt P G D mg) (hx : G.xs = none ∧ G.xd = none) (A : Al P w mg base G k D cl) (u : DefAt G.K "TextReader.need" (inClass (top 14) 4) (D 12) fd) :
    FnG G.dty P w G.K mg base (k + 2) (D 12) fd ["self", "sign"] (spC G (["self", "sign"] : List Str).length (fnOf (["self", "sign"] : List Str).length (["self", "sign"] : List Str).length (b12 cl nF))) := by
  refine fn_ok (G := G) (P := P) (w := w) (K := G.K) (mg := mg) (base := base) (qual := "TextReader.need") (st := (inClass (top 14) 4)) (f := D 12) (fd := fd) (N := ["self", "sign"]) (ps := ["self", "sign"]) (k := k + 1) (body := b12 cl nF) u sc12 (by decide) hx ?_
  intro cdv Ar outer s H E gd hr
  have F := fit_of (G := G) (k := k + 1) (P := P) (w := w) (mg := mg) (base := base) (N := ["self", "sign"]) (qual := "TextReader.need") (st := (inClass (top 14) 4)) (f := D 12) (cdv := cdv) (A := Ar) (outer := outer) (s := s) (H := H) (E := E) rfl hx.1 gd hr
  exact (b_one (v_if (t_not (t_val (s_meth F (mo5_is_sign_1 T A) (s_loc 0) (a_cons (s_loc 1) a_nil)))) (b_one (v_drop (s_meth0 F (mo5_fail_0 T A) (s_loc 0)))) b_end))
theorem sc13 : FnScope ["self"] ["self"] (defScope (inClass (top 14) 5)) := ⟨rfl, rfl, rfl, by decide +kernel, rfl, by decide +kernel, by decide +kernel⟩
def b13 (cl : Nat → Fn) (nF : Nat) : Ev :=
  (eRet (eAnd (eBin oNe (eMeth "peek" (mt5_peek_0 cl) (eLoc 0) eNil) (eK (.str ""))) (eBin oIn (eMeth "peek" (mt5_peek_0 cl) (eLoc 0) eNil) (eK (.str "abcdefghijklmnopqrstuvwxyz")))))
theorem ok13 {nF : Nat} (T : Txt P G D mg) (hx : G.xs = none ∧ G.xd = none) (A : Al P w mg base G k D cl) (u : DefAt G.K "TextReader.is_start" (inClass (top 14) 5) (D 13) fd) :
    FnG G.dty P w G.K mg base (k + 2) (D 13) fd ["self"] (spC G (["self"] : List Str).length (fnOf (["self"] : List Str).length (["self"] : List Str).length (b13 cl nF))) := by
  refine fn_ok (G := G) (P := P) (w := w) (K := G.K) (mg := mg) (base := base) (qual := "TextReader.is_start") (st := (inClass (top 14) 5)) (f := D 13) (fd := fd) (N := ["self"]) (ps := ["self"]) (k := k + 1) (body := b13 cl nF) u sc13 (by decide) hx ?_
  intro cdv Ar outer s H E gd hr
  have F := fit_of (G := G) (k := k + 1) (P := P) (w := w) (mg := mg) (base := base) (N := ["self"]) (qual := "TextReader.is_start") (st := (inClass (top 14) 5)) (f := D 13) (cdv := cdv) (A := Ar) (outer := outer) (s := s) (H := H) (E := E) rfl hx.1 gd hr
  exact (b_one (v_ret (s_and (s_cmp (so_ne F) (s_meth0 F (mo5_peek_0 T A) (s_loc 0)) s_str) (s_one (s_cmp (so_in F) (s_meth0 F (mo5_peek_0 T A) (s_loc 0)) (s_glob (w := (.str "abcdefghijklmnopqrstuvwxyz")) (v := (.str "abcdefghijklmnopqrstuvwxyz")) T.c_LETTERS.choose_spec.1 T.c_LETTERS.choose_spec.2 (fun _ _ _ => .str _)))))))
theorem sc14 : FnScope ["self", "begin"] ["self"] (defScope (inClass (top 14) 6)) := ⟨rfl, rfl, rfl, by decide +kernel, rfl, by decide +kernel, by decide +kernel⟩
def b14 (cl : Nat → Fn) (nF : Nat) : Ev :=
  (eSeq (eAsg (gN 1) (eFld cs5 "spot" (eLoc 0)))
    (eSeq (eWhl (eMeth "is_start" (mt5_is_start_0 cl) (eLoc 0) eNil) (eSeq (eIfS (eBin oEq (eBin oSub (eFld cs5 "spot" (eLoc 0)) (eLoc 1)) (eK (.int 8))) (eDrop (eMeth "fail" (mt5_fail_0 cl) (eLoc 0) eNil)) eEnd)
    (eAugF cs5 "spot" (eLoc 0) (eK (.int 1)))) nF)
    (eSeq (eIfS (eBin oEq (eFld cs5 "spot" (eLoc 0)) (eLoc 1)) (eDrop (eMeth "fail" (mt5_fail_0 cl) (eLoc 0) eNil)) eEnd)
    (eRet (eSl (eFld cs5 "source" (eLoc 0)) (eInt (eLoc 1)) (eInt (eFld cs5 "spot" (eLoc 0))))))))
theorem ok14 {nF : Nat} (T : Txt P G D mg) (hx : G.xs = none ∧ G.xd = none) (A : Al P w mg base G k D cl) (u : DefAt G.K "TextReader.read_name" (inClass (top 14) 6) (D 14) fd) :
    FnG G.dty P w G.K mg base (k + 2) (D 14) fd ["self"] (spC G (["self"] : List Str).length (fnOf (["self"] : List Str).length (["self", "begin"] : List Str).length (b14 cl nF))) := by
  refine fn_ok (G := G) (P := P) (w := w) (K := G.K) (mg := mg) (base := base) (qual := "TextReader.read_name") (st := (inClass (top 14) 6)) (f := D 14) (fd := fd) (N := ["self", "begin"]) (ps := ["self"]) (k := k + 1) (body := b14 cl nF) u sc14 (by decide) hx ?_
  intro cdv Ar outer s H E gd hr
  have F := fit_of (G := G) (k := k + 1) (P := P) (w := w) (mg := mg) (base := base) (N := ["self", "begin"]) (qual := "TextReader.read_name") (st := (inClass (top 14) 6)) (f := D 14) (cdv := cdv) (A := Ar) (outer := outer) (s := s) (H := H) (E := E) rfl hx.1 gd hr
  exact (b_cons (v_set 1 (s_fld F (fo5_spot T) (s_loc 0)) sc14.nd)
    (b_cons (v_while nF F (t_val (s_meth0 F (mo5_is_start_0 T A) (s_loc 0))) (b_cons (v_if (t_cmp (so_eq F) (s_bin so_sub (s_fld F (fo5_spot T) (s_loc 0)) (s_loc 1)) (s_glob (w := (.int 8)) (v := (.int 8)) T.c_MOST_SIGNS.choose_spec.1 T.c_MOST_SIGNS.choose_spec.2 (fun _ _ _ => .int _))) (b_one (v_drop (s_meth0 F (mo5_fail_0 T A) (s_loc 0)))) b_end)
    (b_one (v_augF F (fo5_spot T) (s_loc 0) s_int))))
    (b_cons (v_if (t_cmp (so_eq F) (s_fld F (fo5_spot T) (s_loc 0)) (s_loc 1)) (b_one (v_drop (s_meth0 F (mo5_fail_0 T A) (s_loc 0)))) b_end)
    (b_one (v_ret (s_sl F (s_fld F (fo5_source T) (s_loc 0)) (o_some (s_loc 1)) (o_some (s_fld F (fo5_spot T) (s_loc 0)))))))))
theorem sc15 : FnScope ["self", "begin"] ["self"] (defScope (inClass (top 14) 7)) := ⟨rfl, rfl, rfl, by decide +kernel, rfl, by decide +kernel, by decide +kernel⟩
def b15 (cl : Nat → Fn) (nF : Nat) : Ev :=
  (eSeq (eAsg (gN 1) (eFld cs5 "spot" (eLoc 0)))
    (eSeq (eWhl (eBin oEq (eMeth "peek" (mt5_peek_0 cl) (eLoc 0) eNil) (eK (.str " "))) (eAugF cs5 "spot" (eLoc 0) (eK (.int 1))) nF)
    (eRet (eBin oGt (eFld cs5 "spot" (eLoc 0)) (eLoc 1)))))
theorem ok15 {nF : Nat} (T : Txt P G D mg) (hx : G.xs = none ∧ G.xd = none) (A : Al P w mg base G k D cl) (u : DefAt G.K "TextReader.skip_blanks" (inClass (top 14) 7) (D 15) fd) :
    FnG G.dty P w G.K mg base (k + 2) (D 15) fd ["self"] (spC G (["self"] : List Str).length (fnOf (["self"] : List Str).length (["self", "begin"] : List Str).length (b15 cl nF))) := by
  refine fn_ok (G := G) (P := P) (w := w) (K := G.K) (mg := mg) (base := base) (qual := "TextReader.skip_blanks") (st := (inClass (top 14) 7)) (f := D 15) (fd := fd) (N := ["self", "begin"]) (ps := ["self"]) (k := k + 1) (body := b15 cl nF) u sc15 (by decide) hx ?_
  intro cdv Ar outer s H E gd hr
  have F := fit_of (G := G) (k := k + 1) (P := P) (w := w) (mg := mg) (base := base) (N := ["self", "begin"]) (qual := "TextReader.skip_blanks") (st := (inClass (top 14) 7)) (f := D 15) (cdv := cdv) (A := Ar) (outer := outer) (s := s) (H := H) (E := E) rfl hx.1 gd hr
  exact (b_cons (v_set 1 (s_fld F (fo5_spot T) (s_loc 0)) sc15.nd)
    (b_cons (v_while nF F (t_cmp (so_eq F) (s_meth0 F (mo5_peek_0 T A) (s_loc 0)) s_str) (b_one (v_augF F (fo5_spot T) (s_loc 0) s_int)))
    (b_one (v_ret (s_cmp so_gt (s_fld F (fo5_spot T) (s_loc 0)) (s_loc 1))))))
theorem sc16 : FnScope ["self"] ["self"] (defScope (inClass (top 14) 8)) := ⟨rfl, rfl, rfl, by decide +kernel, rfl, by decide +kernel, by decide +kernel⟩
def b16 (cl : Nat → Fn) (nF : Nat) : Ev :=
  (eIfS (eBin oLt (eFld cs5 "spot" (eLoc 0)) (eBlt bLen (eCons (eFld cs5 "source" (eLoc 0)) eNil))) (eDrop (eMeth "fail" (mt5_fail_0 cl) (eLoc 0) eNil)) eEnd)
theorem ok16 {nF : Nat} (T : Txt P G D mg) (hx : G.xs = none ∧ G.xd = none) (A : Al P w mg base G k D cl) (u : DefAt G.K "TextReader.need_end" (inClass (top 14) 8) (D 16) fd) :
    FnG G.dty P w G.K mg base (k + 2) (D 16) fd ["self"] (spC G (["self"] : List Str).length (fnOf (["self"] : List Str).length (["self"] : List Str).length (b16 cl nF))) := by
  refine fn_ok (G := G) (P := P) (w := w) (K := G.K) (mg := mg) (base := base) (qual := "TextReader.need_end") (st := (inClass (top 14) 8)) (f := D 16) (fd := fd) (N := ["self"]) (ps := ["self"]) (k := k + 1) (body := b16 cl nF) u sc16 (by decide) hx ?_
  intro cdv Ar outer s H E gd hr
  have F := fit_of (G := G) (k := k + 1) (P := P) (w := w) (mg := mg) (base := base) (N := ["self"]) (qual := "TextReader.need_end") (st := (inClass (top 14) 8)) (f := D 16) (cdv := cdv) (A := Ar) (outer := outer) (s := s) (H := H) (E := E) rfl hx.1 gd hr
  exact (b_one (v_if (t_cmp so_lt (s_fld F (fo5_spot T) (s_loc 0)) (s_blt (c_len F.K) T.b_len PySem.boot_len (a_cons (s_fld F (fo5_source T) (s_loc 0)) a_nil))) (b_one (v_drop (s_meth0 F (mo5_fail_0 T A) (s_loc 0)))) b_end))
theorem sc17 : FnScope ["self", "own_kind", "parts"] ["self", "own_kind", "parts"] (defScope (inClass (top 18) 1)) := ⟨rfl, rfl, rfl, by decide +kernel, rfl, by decide +kernel, by decide +kernel⟩
def b17 (cl : Nat → Fn) (nF : Nat) : Ev :=
  (eSeq (eSetS 6 0 (eLoc 0) (eLoc 1))
    (eSetS 6 1 (eLoc 0) (eLoc 2)))
theorem ok17 {nF : Nat} (T : Txt P G D mg) (hx : G.xs = none ∧ G.xd = none) (A : Al P w mg base G k D cl) (u : DefAt G.K "Compound.__init__" (inClass (top 18) 1) (D 17) fd) :
    FnG G.dty P w G.K mg base (k + 2) (D 17) fd ["self", "own_kind", "parts"] (spC G (["self", "own_kind", "parts"] : List Str).length (fnOf (["self", "own_kind", "parts"] : List Str).length (["self", "own_kind", "parts"] : List Str).length (b17 cl nF))) := by
  refine fn_ok (G := G) (P := P) (w := w) (K := G.K) (mg := mg) (base := base) (qual := "Compound.__init__") (st := (inClass (top 18) 1)) (f := D 17) (fd := fd) (N := ["self", "own_kind", "parts"]) (ps := ["self", "own_kind", "parts"]) (k := k + 1) (body := b17 cl nF) u sc17 (by decide) hx ?_
  intro cdv Ar outer s H E gd hr
  have F := fit_of (G := G) (k := k + 1) (P := P) (w := w) (mg := mg) (base := base) (N := ["self", "own_kind", "parts"]) (qual := "Compound.__init__") (st := (inClass (top 18) 1)) (f := D 17) (cdv := cdv) (A := Ar) (outer := outer) (s := s) (H := H) (E := E) rfl hx.1 gd hr
  exact (b_cons (v_setS F ⟨T.sc6, T.s6_own_kind⟩ (s_loc 0) (s_loc 1))
    (b_one (v_setS F ⟨T.sc6, T.s6_parts⟩ (s_loc 0) (s_loc 2))))
theorem sc18 : FnScope ["self", "compounds", "joins"] ["self", "compounds", "joins"] (defScope (inClass (top 19) 1)) := ⟨rfl, rfl, rfl, by decide +kernel, rfl, by decide +kernel, by decide +kernel⟩
def b18 (cl : Nat → Fn) (nF : Nat) : Ev :=
  (eSeq (eSetS 7 0 (eLoc 0) (eLoc 1))
    (eSetS 7 1 (eLoc 0) (eLoc 2)))
theorem ok18 {nF : Nat} (T : Txt P G D mg) (hx : G.xs = none ∧ G.xd = none) (A : Al P w mg base G k D cl) (u : DefAt G.K "Chain.__init__" (inClass (top 19) 1) (D 18) fd) :
    FnG G.dty P w G.K mg base (k + 2) (D 18) fd ["self", "compounds", "joins"] (spC G (["self", "compounds", "joins"] : List Str).length (fnOf (["self", "compounds", "joins"] : List Str).length (["self", "compounds", "joins"] : List Str).length (b18 cl nF))) := by
  refine fn_ok (G := G) (P := P) (w := w) (K := G.K) (mg := mg) (base := base) (qual := "Chain.__init__") (st := (inClass (top 19) 1)) (f := D 18) (fd := fd) (N := ["self", "compounds", "joins"]) (ps := ["self", "compounds", "joins"]) (k := k + 1) (body := b18 cl nF) u sc18 (by decide) hx ?_
  intro cdv Ar outer s H E gd hr
  have F := fit_of (G := G) (k := k + 1) (P := P) (w := w) (mg := mg) (base := base) (N := ["self", "compounds", "joins"]) (qual := "Chain.__init__") (st := (inClass (top 19) 1)) (f := D 18) (cdv := cdv) (A := Ar) (outer := outer) (s := s) (H := H) (E := E) rfl hx.1 gd hr
  exact (b_cons (v_setS F ⟨T.sc7, T.s7_compounds⟩ (s_loc 0) (s_loc 1))
    (b_one (v_setS F ⟨T.sc7, T.s7_joins⟩ (s_loc 0) (s_loc 2))))
theorem sc19 : FnScope ["self", "join", "is_own", "compounds", "joins"] ["self", "join", "is_own"] (defScope (inClass (top 20) 0)) := ⟨rfl, rfl, rfl, by decide +kernel, rfl, by decide +kernel, by decide +kernel⟩
def b19 (cl : Nat → Fn) (nF : Nat) : Ev :=
  (eSeq (eAsg (gN 3) (eLst (eCons (eMeth "read_compound" (mt8_read_compound_1 cl) (eLoc 0) (eCons (eLoc 2) eNil)) eNil)))
    (eSeq (eAsg (gN 4) (eLst (eCons (eLoc 1) eNil)))
    (eSeq (eAsg (gN 1) (eMeth "read_join" (mt8_read_join_0 cl) (eLoc 0) eNil))
    (eSeq (eWhl (eBin oNotN (eLoc 1) (eK .non)) (eSeq (eDrop (eBM "list" mAppend (eLoc 3) (eCons (eMeth "read_compound" (mt8_read_compound_1 cl) (eLoc 0) (eCons (eLoc 2) eNil)) eNil)))
    (eSeq (eDrop (eBM "list" mAppend (eLoc 4) (eCons (eLoc 1) eNil)))
    (eAsg (gN 1) (eMeth "read_join" (mt8_read_join_0 cl) (eLoc 0) eNil)))) nF)
    (eRet (eNew true 7 (cl 18) [] (eCons (eLoc 3) (eCons (eLoc 4) eNil))))))))
theorem ok19 {nF : Nat} (T : Txt P G D mg) (hx : G.xs = none ∧ G.xd = none) (A : Al P w mg base G k D cl) (u : DefAt G.K "SelectorReader.read_chain" (inClass (top 20) 0) (D 19) fd) :
    FnG G.dty P w G.K mg base (k + 2) (D 19) fd ["self", "join", "is_own"] (spC G (["self", "join", "is_own"] : List Str).length (fnOf (["self", "join", "is_own"] : List Str).length (["self", "join", "is_own", "compounds", "joins"] : List Str).length (b19 cl nF))) := by
  refine fn_ok (G := G) (P := P) (w := w) (K := G.K) (mg := mg) (base := base) (qual := "SelectorReader.read_chain") (st := (inClass (top 20) 0)) (f := D 19) (fd := fd) (N := ["self", "join", "is_own", "compounds", "joins"]) (ps := ["self", "join", "is_own"]) (k := k + 1) (body := b19 cl nF) u sc19 (by decide) hx ?_
  intro cdv Ar outer s H E gd hr
  have F := fit_of (G := G) (k := k + 1) (P := P) (w := w) (mg := mg) (base := base) (N := ["self", "join", "is_own", "compounds", "joins"]) (qual := "SelectorReader.read_chain") (st := (inClass (top 20) 0)) (f := D 19) (cdv := cdv) (A := Ar) (outer := outer) (s := s) (H := H) (E := E) rfl hx.1 gd hr
  exact (b_cons (v_set 3 (s_lst (a_cons (s_meth F (mo8_read_compound_1 T A) (s_loc 0) (a_cons (s_loc 2) a_nil)) a_nil)) sc19.nd)
    (b_cons (v_set 4 (s_lst (a_cons (s_loc 1) a_nil)) sc19.nd)
    (b_cons (v_set 1 (s_meth0 F (mo8_read_join_0 T A) (s_loc 0)) sc19.nd)
    (b_cons (v_while nF F (t_cmp so_notN (s_loc 1) s_non) (b_cons (v_drop (s_bm F PySem.F.plainAttrs_list PySem.F.slot_list_append PySem.F.type_list_append m_append (s_loc 3) (a_cons (s_meth F (mo8_read_compound_1 T A) (s_loc 0) (a_cons (s_loc 2) a_nil)) a_nil)))
    (b_cons (v_drop (s_bm F PySem.F.plainAttrs_list PySem.F.slot_list_append PySem.F.type_list_append m_append (s_loc 4) (a_cons (s_loc 1) a_nil)))
    (b_one (v_set 1 (s_meth0 F (mo8_read_join_0 T A) (s_loc 0)) sc19.nd)))))
    (b_one (v_ret (s_new F T.mk7 A.f18 T.gc7 (a_cons (s_loc 3) (a_cons (s_loc 4) a_nil)))))))))
theorem sc20 : FnScope ["self", "is_blank", "sign"] ["self"] (defScope (inClass (top 20) 1)) := ⟨rfl, rfl, rfl, by decide +kernel, rfl, by decide +kernel, by decide +kernel⟩
def b20 (cl : Nat → Fn) (nF : Nat) : Ev :=
  (eSeq (eAsg (gN 1) (eMeth "skip_blanks" (mt5_skip_blanks_0 cl) (eLoc 0) eNil))
    (eSeq (eAsg (gN 2) (eMeth "peek" (mt5_peek_0 cl) (eLoc 0) eNil))
    (eSeq (eIfS (eAnd (eBin oNe (eLoc 2) (eK (.str ""))) (eBin oIn (eLoc 2) (eK (.str ">+~")))) (eSeq (eAugF cs5 "spot" (eLoc 0) (eK (.int 1)))
    (eSeq (eDrop (eMeth "skip_blanks" (mt5_skip_blanks_0 cl) (eLoc 0) eNil))
    (eRet (eLoc 2)))) eEnd)
    (eRet (eIf (eAnd (eLoc 1) (eBin oNotIn (eLoc 2) (eTup (eCons (eK (.str "")) (eCons (eK (.str ",")) (eCons (eK (.str ")")) (eCons (eK (.str "{")) eNil))))))) (eK (.str " ")) (eK .non))))))
theorem ok20 {nF : Nat} (T : Txt P G D mg) (hx : G.xs = none ∧ G.xd = none) (A : Al P w mg base G k D cl) (u : DefAt G.K "SelectorReader.read_join" (inClass (top 20) 1) (D 20) fd) :
    FnG G.dty P w G.K mg base (k + 2) (D 20) fd ["self"] (spC G (["self"] : List Str).length (fnOf (["self"] : List Str).length (["self", "is_blank", "sign"] : List Str).length (b20 cl nF))) := by
  refine fn_ok (G := G) (P := P) (w := w) (K := G.K) (mg := mg) (base := base) (qual := "SelectorReader.read_join") (st := (inClass (top 20) 1)) (f := D 20) (fd := fd) (N := ["self", "is_blank", "sign"]) (ps := ["self"]) (k := k + 1) (body := b20 cl nF) u sc20 (by decide) hx ?_
  intro cdv Ar outer s H E gd hr
  have F := fit_of (G := G) (k := k + 1) (P := P) (w := w) (mg := mg) (base := base) (N := ["self", "is_blank", "sign"]) (qual := "SelectorReader.read_join") (st := (inClass (top 20) 1)) (f := D 20) (cdv := cdv) (A := Ar) (outer := outer) (s := s) (H := H) (E := E) rfl hx.1 gd hr
  exact (b_cons (v_set 1 (s_meth0 F (mo5_skip_blanks_0 T A) (s_loc 0)) sc20.nd)
    (b_cons (v_set 2 (s_meth0 F (mo5_peek_0 T A) (s_loc 0)) sc20.nd)
    (b_cons (v_if (t_p (p_and (t_cmp (so_ne F) (s_loc 2) s_str) (p_and1 (t_cmp (so_in F) (s_loc 2) (s_glob (w := (.str ">+~")) (v := (.str ">+~")) T.c_JOINS.choose_spec.1 T.c_JOINS.choose_spec.2 (fun _ _ _ => .str _)))))) (b_cons (v_augF F (fo5_spot T) (s_loc 0) s_int)
    (b_cons (v_drop (s_meth0 F (mo5_skip_blanks_0 T A) (s_loc 0)))
    (b_one (v_ret (s_loc 2))))) b_end)
    (b_one (v_ret (s_if (t_p (p_and (t_val (s_loc 1)) (p_and1 (t_cmp (so_notIn F) (s_loc 2) (s_tup (a_cons s_str (a_cons s_str (a_cons s_str (a_cons s_str a_nil))))))))) s_str s_non))))))
theorem sc21 : FnScope ["self", "is_own", "kind", "is_any", "parts"] ["self", "is_own"] (defScope (inClass (top 20) 2)) := ⟨rfl, rfl, rfl, by decide +kernel, rfl, by decide +kernel, by decide +kernel⟩
def b21 (cl : Nat → Fn) (nF : Nat) : Ev :=
  (eSeq (eAsg (gN 2) (eK .non))
    (eSeq (eAsg (gN 3) (eMeth "is_sign" (mt5_is_sign_1 cl) (eLoc 0) (eCons (eK (.str "*")) eNil)))
    (eSeq (eIfS (eAnd (eNot (eLoc 3)) (eMeth "is_start" (mt5_is_start_0 cl) (eLoc 0) eNil)) (eAsg (gN 2) (eMeth "read_name" (mt5_read_name_0 cl) (eLoc 0) eNil)) eEnd)
    (eSeq (eAsg (gN 4) (eLst eNil))
    (eSeq (eWhl (eAnd (eBin oNe (eMeth "peek" (mt5_peek_0 cl) (eLoc 0) eNil) (eK (.str ""))) (eBin oIn (eMeth "peek" (mt5_peek_0 cl) (eLoc 0) eNil) (eK (.str ".:")))) (eDrop (eBM "list" mAppend (eLoc 4) (eCons (eMeth "read_part" (mt8_read_part_1 cl) (eLoc 0) (eCons (eLoc 1) eNil)) eNil))) nF)
    (eSeq (eIfS (eAnd (eNot (eLoc 3)) (eAnd (eBin oIsN (eLoc 2) (eK .non)) (eBin oEq (eLoc 4) (eLst eNil)))) (eDrop (eMeth "fail" (mt5_fail_0 cl) (eLoc 0) eNil)) eEnd)
    (eRet (eNew true 6 (cl 17) [] (eCons (eLoc 2) (eCons (eBlt bTuple (eCons (eLoc 4) eNil)) eNil))))))))))
theorem ok21 {nF : Nat} (T : Txt P G D mg) (hx : G.xs = none ∧ G.xd = none) (A : Al P w mg base G k D cl) (u : DefAt G.K "SelectorReader.read_compound" (inClass (top 20) 2) (D 21) fd) :
    FnG G.dty P w G.K mg base (k + 2) (D 21) fd ["self", "is_own"] (spC G (["self", "is_own"] : List Str).length (fnOf (["self", "is_own"] : List Str).length (["self", "is_own", "kind", "is_any", "parts"] : List Str).length (b21 cl nF))) := by
  refine fn_ok (G := G) (P := P) (w := w) (K := G.K) (mg := mg) (base := base) (qual := "SelectorReader.read_compound") (st := (inClass (top 20) 2)) (f := D 21) (fd := fd) (N := ["self", "is_own", "kind", "is_any", "parts"]) (ps := ["self", "is_own"]) (k := k + 1) (body := b21 cl nF) u sc21 (by decide) hx ?_
  intro cdv Ar outer s H E gd hr
  have F := fit_of (G := G) (k := k + 1) (P := P) (w := w) (mg := mg) (base := base) (N := ["self", "is_own", "kind", "is_any", "parts"]) (qual := "SelectorReader.read_compound") (st := (inClass (top 20) 2)) (f := D 21) (cdv := cdv) (A := Ar) (outer := outer) (s := s) (H := H) (E := E) rfl hx.1 gd hr
  exact (b_cons (v_set 2 s_non sc21.nd)
    (b_cons (v_set 3 (s_meth F (mo5_is_sign_1 T A) (s_loc 0) (a_cons s_str a_nil)) sc21.nd)
    (b_cons (v_if (t_p (p_and (t_not (t_val (s_loc 3))) (p_and1 (t_val (s_meth0 F (mo5_is_start_0 T A) (s_loc 0)))))) (b_one (v_set 2 (s_meth0 F (mo5_read_name_0 T A) (s_loc 0)) sc21.nd)) b_end)
    (b_cons (v_set 4 (s_lst a_nil) sc21.nd)
    (b_cons (v_while nF F (t_p (p_and (t_cmp (so_ne F) (s_meth0 F (mo5_peek_0 T A) (s_loc 0)) s_str) (p_and1 (t_cmp (so_in F) (s_meth0 F (mo5_peek_0 T A) (s_loc 0)) s_str)))) (b_one (v_drop (s_bm F PySem.F.plainAttrs_list PySem.F.slot_list_append PySem.F.type_list_append m_append (s_loc 4) (a_cons (s_meth F (mo8_read_part_1 T A) (s_loc 0) (a_cons (s_loc 1) a_nil)) a_nil)))))
    (b_cons (v_if (t_p (p_and (t_not (t_val (s_loc 3))) (p_and (t_cmp so_isN (s_loc 2) s_non) (p_and1 (t_cmp (so_eq F) (s_loc 4) (s_lst a_nil)))))) (b_one (v_drop (s_meth0 F (mo5_fail_0 T A) (s_loc 0)))) b_end)
    (b_one (v_ret (s_new F T.mk6 A.f17 T.gc6 (a_cons (s_loc 2) (a_cons (s_blty (c_tuple F.K) T.b_tuple (by decide +kernel) (a_cons (s_loc 4) a_nil)) a_nil)))))))))))
theorem sc22 : FnScope ["self", "is_own", "may_negate", "word"] ["self", "is_own", "may_negate"] (defScope (inClass (top 20) 3)) := ⟨rfl, rfl, rfl, by decide +kernel, rfl, by decide +kernel, by decide +kernel⟩
def b22 (cl : Nat → Fn) (nF : Nat) : Ev :=
  (eSeq (eIfS (eMeth "is_sign" (mt5_is_sign_1 cl) (eLoc 0) (eCons (eK (.str ".")) eNil)) (eRet (eTup (eCons (eK (.str "mark")) (eCons (eMeth "read_name" (mt5_read_name_0 cl) (eLoc 0) eNil) eNil)))) eEnd)
    (eSeq (eDrop (eMeth "need" (mt5_need_1 cl) (eLoc 0) (eCons (eK (.str ":")) eNil)))
    (eSeq (eAsg (gN 3) (eMeth "read_name" (mt5_read_name_0 cl) (eLoc 0) eNil))
    (eSeq (eMatch (eLoc 3) [(["first", "last"], (eRet (eTup (eCons (eLoc 3) eNil)))),
    (["nth"], (eRet (eMeth "nth" (mt8_nth_0 cl) (eLoc 0) eNil))),
    (["not"], (eIfS (eLoc 2) (eRet (eMeth "negation" (mt8_negation_0 cl) (eLoc 0) eNil)) eEnd)),
    (["has"], (eIfS (eLoc 1) (eRet (eMeth "relation" (mt8_relation_0 cl) (eLoc 0) eNil)) eEnd))])
    (eRet (eMeth "fail" (mt5_fail_0 cl) (eLoc 0) eNil))))))
theorem ok22 {nF : Nat} (T : Txt P G D mg) (hx : G.xs = none ∧ G.xd = none) (A : Al P w mg base G k D cl) (u : DefAt G.K "SelectorReader.read_part" (inClass (top 20) 3) (D 22) fd) :
    FnG G.dty P w G.K mg base (k + 2) (D 22) fd ["self", "is_own", "may_negate"] (spC G (["self", "is_own", "may_negate"] : List Str).length (fnOf (["self", "is_own", "may_negate"] : List Str).length (["self", "is_own", "may_negate", "word"] : List Str).length (b22 cl nF))) := by
  refine fn_ok (G := G) (P := P) (w := w) (K := G.K) (mg := mg) (base := base) (qual := "SelectorReader.read_part") (st := (inClass (top 20) 3)) (f := D 22) (fd := fd) (N := ["self", "is_own", "may_negate", "word"]) (ps := ["self", "is_own", "may_negate"]) (k := k + 1) (body := b22 cl nF) u sc22 (by decide) hx ?_
  intro cdv Ar outer s H E gd hr
  have F := fit_of (G := G) (k := k + 1) (P := P) (w := w) (mg := mg) (base := base) (N := ["self", "is_own", "may_negate", "word"]) (qual := "SelectorReader.read_part") (st := (inClass (top 20) 3)) (f := D 22) (cdv := cdv) (A := Ar) (outer := outer) (s := s) (H := H) (E := E) rfl hx.1 gd hr
  exact (b_cons (v_if (t_val (s_meth F (mo5_is_sign_1 T A) (s_loc 0) (a_cons s_str a_nil))) (b_one (v_ret (s_tup (a_cons s_str (a_cons (s_meth0 F (mo5_read_name_0 T A) (s_loc 0)) a_nil))))) b_end)
    (b_cons (v_drop (s_meth F (mo5_need_1 T A) (s_loc 0) (a_cons s_str a_nil)))
    (b_cons (v_set 3 (s_meth0 F (mo5_read_name_0 T A) (s_loc 0)) sc22.nd)
    (b_cons (v_match (s_loc 3) (SMc.many (Pats.cons (Pats.cons Pats.nil)) rfl (b_one (v_ret (s_tup (a_cons (s_loc 3) a_nil))))
    (SMc.one (b_one (v_ret (s_meth0 F (mo8_nth_0 T A) (s_loc 0))))
    (SMc.one (b_one (v_if (t_val (s_loc 2)) (b_one (v_ret (s_meth0 F (mo8_negation_0 T A) (s_loc 0)))) b_end))
    (SMc.one (b_one (v_if (t_val (s_loc 1)) (b_one (v_ret (s_meth0 F (mo8_relation_0 T A) (s_loc 0)))) b_end))
    SMc.nil)))))
    (b_one (v_ret (s_meth0 F (mo5_fail_0 T A) (s_loc 0))))))))
theorem sc23 : FnScope ["self", "first", "second"] ["self"] (defScope (inClass (top 20) 4)) := ⟨rfl, rfl, rfl, by decide +kernel, rfl, by decide +kernel, by decide +kernel⟩
def b23 (cl : Nat → Fn) (nF : Nat) : Ev :=
  (eSeq (eDrop (eMeth "need" (mt5_need_1 cl) (eLoc 0) (eCons (eK (.str "(")) eNil)))
    (eSeq (eAsg (gN 1) (eMeth "digit" (mt8_digit_0 cl) (eLoc 0) eNil))
    (eSeq (eDrop (eMeth "need" (mt5_need_1 cl) (eLoc 0) (eCons (eK (.str ",")) eNil)))
    (eSeq (eAsg (gN 2) (eMeth "digit" (mt8_digit_0 cl) (eLoc 0) eNil))
    (eSeq (eDrop (eMeth "need" (mt5_need_1 cl) (eLoc 0) (eCons (eK (.str ")")) eNil)))
    (eRet (eTup (eCons (eK (.str "nth")) (eCons (eLoc 1) (eCons (eLoc 2) eNil))))))))))
theorem ok23 {nF : Nat} (T : Txt P G D mg) (hx : G.xs = none ∧ G.xd = none) (A : Al P w mg base G k D cl) (u : DefAt G.K "SelectorReader.nth" (inClass (top 20) 4) (D 23) fd) :
    FnG G.dty P w G.K mg base (k + 2) (D 23) fd ["self"] (spC G (["self"] : List Str).length (fnOf (["self"] : List Str).length (["self", "first", "second"] : List Str).length (b23 cl nF))) := by
  refine fn_ok (G := G) (P := P) (w := w) (K := G.K) (mg := mg) (base := base) (qual := "SelectorReader.nth") (st := (inClass (top 20) 4)) (f := D 23) (fd := fd) (N := ["self", "first", "second"]) (ps := ["self"]) (k := k + 1) (body := b23 cl nF) u sc23 (by decide) hx ?_
  intro cdv Ar outer s H E gd hr
  have F := fit_of (G := G) (k := k + 1) (P := P) (w := w) (mg := mg) (base := base) (N := ["self", "first", "second"]) (qual := "SelectorReader.nth") (st := (inClass (top 20) 4)) (f := D 23) (cdv := cdv) (A := Ar) (outer := outer) (s := s) (H := H) (E := E) rfl hx.1 gd hr
  exact (b_cons (v_drop (s_meth F (mo5_need_1 T A) (s_loc 0) (a_cons s_str a_nil)))
    (b_cons (v_set 1 (s_meth0 F (mo8_digit_0 T A) (s_loc 0)) sc23.nd)
    (b_cons (v_drop (s_meth F (mo5_need_1 T A) (s_loc 0) (a_cons s_str a_nil)))
    (b_cons (v_set 2 (s_meth0 F (mo8_digit_0 T A) (s_loc 0)) sc23.nd)
    (b_cons (v_drop (s_meth F (mo5_need_1 T A) (s_loc 0) (a_cons s_str a_nil)))
    (b_one (v_ret (s_tup (a_cons s_str (a_cons (s_loc 1) (a_cons (s_loc 2) a_nil)))))))))))
theorem sc24 : FnScope ["self", "sign"] ["self"] (defScope (inClass (top 20) 5)) := ⟨rfl, rfl, rfl, by decide +kernel, rfl, by decide +kernel, by decide +kernel⟩
def b24 (cl : Nat → Fn) (nF : Nat) : Ev :=
  (eSeq (eDrop (eMeth "skip_blanks" (mt5_skip_blanks_0 cl) (eLoc 0) eNil))
    (eSeq (eAsg (gN 1) (eMeth "peek" (mt5_peek_0 cl) (eLoc 0) eNil))
    (eSeq (eIfS (eOr (eBin oEq (eLoc 1) (eK (.str ""))) (eBin oNotIn (eLoc 1) (eSl (eK (.str "0123456789")) (eK .non) (eInt (eBin oAdd (eK (.int 4)) (eK (.int 1))))))) (eDrop (eMeth "fail" (mt5_fail_0 cl) (eLoc 0) eNil)) eEnd)
    (eSeq (eAugF cs5 "spot" (eLoc 0) (eK (.int 1)))
    (eSeq (eDrop (eMeth "skip_blanks" (mt5_skip_blanks_0 cl) (eLoc 0) eNil))
    (eRet (eBlt bIntX (eCons (eLoc 1) eNil))))))))
theorem ok24 {nF : Nat} (T : Txt P G D mg) (hx : G.xs = none ∧ G.xd = none) (A : Al P w mg base G k D cl) (u : DefAt G.K "SelectorReader.digit" (inClass (top 20) 5) (D 24) fd) :
    FnG G.dty P w G.K mg base (k + 2) (D 24) fd ["self"] (spC G (["self"] : List Str).length (fnOf (["self"] : List Str).length (["self", "sign"] : List Str).length (b24 cl nF))) := by
  refine fn_ok (G := G) (P := P) (w := w) (K := G.K) (mg := mg) (base := base) (qual := "SelectorReader.digit") (st := (inClass (top 20) 5)) (f := D 24) (fd := fd) (N := ["self", "sign"]) (ps := ["self"]) (k := k + 1) (body := b24 cl nF) u sc24 (by decide) hx ?_
  intro cdv Ar outer s H E gd hr
  have F := fit_of (G := G) (k := k + 1) (P := P) (w := w) (mg := mg) (base := base) (N := ["self", "sign"]) (qual := "SelectorReader.digit") (st := (inClass (top 20) 5)) (f := D 24) (cdv := cdv) (A := Ar) (outer := outer) (s := s) (H := H) (E := E) rfl hx.1 gd hr
  exact (b_cons (v_drop (s_meth0 F (mo5_skip_blanks_0 T A) (s_loc 0)))
    (b_cons (v_set 1 (s_meth0 F (mo5_peek_0 T A) (s_loc 0)) sc24.nd)
    (b_cons (v_if (t_p (p_or (t_cmp (so_eq F) (s_loc 1) s_str) (p_or1 (t_cmp (so_notIn F) (s_loc 1) (s_sl F (s_glob (w := (.str "0123456789")) (v := (.str "0123456789")) T.c_DIGITS.choose_spec.1 T.c_DIGITS.choose_spec.2 (fun _ _ _ => .str _)) o_none (o_some (s_bin (so_add F) (s_glob (w := (.int 4)) (v := (.int 4)) T.c_MOST_DIGIT.choose_spec.1 T.c_MOST_DIGIT.choose_spec.2 (fun _ _ _ => .int _)) s_int))))))) (b_one (v_drop (s_meth0 F (mo5_fail_0 T A) (s_loc 0)))) b_end)
    (b_cons (v_augF F (fo5_spot T) (s_loc 0) s_int)
    (b_cons (v_drop (s_meth0 F (mo5_skip_blanks_0 T A) (s_loc 0)))
    (b_one (v_ret (s_blty c_intX T.b_int (by decide +kernel) (a_cons (s_loc 1) a_nil)))))))))
theorem sc25 : FnScope ["self", "found"] ["self"] (defScope (inClass (top 20) 6)) := ⟨rfl, rfl, rfl, by decide +kernel, rfl, by decide +kernel, by decide +kernel⟩
def b25 (cl : Nat → Fn) (nF : Nat) : Ev :=
  (eSeq (eDrop (eMeth "need" (mt5_need_1 cl) (eLoc 0) (eCons (eK (.str "(")) eNil)))
    (eSeq (eDrop (eMeth "skip_blanks" (mt5_skip_blanks_0 cl) (eLoc 0) eNil))
    (eSeq (eIfS (eMeth "is_start" (mt5_is_start_0 cl) (eLoc 0) eNil) (eAsg (gN 1) (eTup (eCons (eK (.str "kind")) (eCons (eMeth "read_name" (mt5_read_name_0 cl) (eLoc 0) eNil) eNil)))) (eAsg (gN 1) (eMeth "read_part" (mt8_read_part_2 cl) (eLoc 0) (eCons (eK (.bl false)) (eCons (eK (.bl false)) eNil)))))
    (eSeq (eDrop (eMeth "skip_blanks" (mt5_skip_blanks_0 cl) (eLoc 0) eNil))
    (eSeq (eDrop (eMeth "need" (mt5_need_1 cl) (eLoc 0) (eCons (eK (.str ")")) eNil)))
    (eRet (eTup (eCons (eK (.str "not")) (eCons (eLoc 1) eNil)))))))))
theorem ok25 {nF : Nat} (T : Txt P G D mg) (hx : G.xs = none ∧ G.xd = none) (A : Al P w mg base G k D cl) (u : DefAt G.K "SelectorReader.negation" (inClass (top 20) 6) (D 25) fd) :
    FnG G.dty P w G.K mg base (k + 2) (D 25) fd ["self"] (spC G (["self"] : List Str).length (fnOf (["self"] : List Str).length (["self", "found"] : List Str).length (b25 cl nF))) := by
  refine fn_ok (G := G) (P := P) (w := w) (K := G.K) (mg := mg) (base := base) (qual := "SelectorReader.negation") (st := (inClass (top 20) 6)) (f := D 25) (fd := fd) (N := ["self", "found"]) (ps := ["self"]) (k := k + 1) (body := b25 cl nF) u sc25 (by decide) hx ?_
  intro cdv Ar outer s H E gd hr
  have F := fit_of (G := G) (k := k + 1) (P := P) (w := w) (mg := mg) (base := base) (N := ["self", "found"]) (qual := "SelectorReader.negation") (st := (inClass (top 20) 6)) (f := D 25) (cdv := cdv) (A := Ar) (outer := outer) (s := s) (H := H) (E := E) rfl hx.1 gd hr
  exact (b_cons (v_drop (s_meth F (mo5_need_1 T A) (s_loc 0) (a_cons s_str a_nil)))
    (b_cons (v_drop (s_meth0 F (mo5_skip_blanks_0 T A) (s_loc 0)))
    (b_cons (v_if (t_val (s_meth0 F (mo5_is_start_0 T A) (s_loc 0))) (b_one (v_set 1 (s_tup (a_cons s_str (a_cons (s_meth0 F (mo5_read_name_0 T A) (s_loc 0)) a_nil))) sc25.nd)) (b_one (v_set 1 (s_meth F (mo8_read_part_2 T A) (s_loc 0) (a_cons s_bl (a_cons s_bl a_nil))) sc25.nd)))
    (b_cons (v_drop (s_meth0 F (mo5_skip_blanks_0 T A) (s_loc 0)))
    (b_cons (v_drop (s_meth F (mo5_need_1 T A) (s_loc 0) (a_cons s_str a_nil)))
    (b_one (v_ret (s_tup (a_cons s_str (a_cons (s_loc 1) a_nil))))))))))
theorem sc26 : FnScope ["self", "join", "found"] ["self"] (defScope (inClass (top 20) 7)) := ⟨rfl, rfl, rfl, by decide +kernel, rfl, by decide +kernel, by decide +kernel⟩
def b26 (cl : Nat → Fn) (nF : Nat) : Ev :=
  (eSeq (eDrop (eMeth "need" (mt5_need_1 cl) (eLoc 0) (eCons (eK (.str "(")) eNil)))
    (eSeq (eDrop (eMeth "skip_blanks" (mt5_skip_blanks_0 cl) (eLoc 0) eNil))
    (eSeq (eAsg (gN 1) (eK (.str " ")))
    (eSeq (eIfS (eAnd (eBin oNe (eMeth "peek" (mt5_peek_0 cl) (eLoc 0) eNil) (eK (.str ""))) (eBin oIn (eMeth "peek" (mt5_peek_0 cl) (eLoc 0) eNil) (eK (.str ">+~")))) (eSeq (eAsg (gN 1) (eMeth "peek" (mt5_peek_0 cl) (eLoc 0) eNil))
    (eSeq (eAugF cs5 "spot" (eLoc 0) (eK (.int 1)))
    (eDrop (eMeth "skip_blanks" (mt5_skip_blanks_0 cl) (eLoc 0) eNil)))) eEnd)
    (eSeq (eAsg (gN 2) (eMeth "read_chain" (mt8_read_chain_2 cl) (eLoc 0) (eCons (eLoc 1) (eCons (eK (.bl false)) eNil))))
    (eSeq (eDrop (eMeth "need" (mt5_need_1 cl) (eLoc 0) (eCons (eK (.str ")")) eNil)))
    (eRet (eTup (eCons (eK (.str "has")) (eCons (eLoc 2) eNil))))))))))
theorem ok26 {nF : Nat} (T : Txt P G D mg) (hx : G.xs = none ∧ G.xd = none) (A : Al P w mg base G k D cl) (u : DefAt G.K "SelectorReader.relation" (inClass (top 20) 7) (D 26) fd) :
    FnG G.dty P w G.K mg base (k + 2) (D 26) fd ["self"] (spC G (["self"] : List Str).length (fnOf (["self"] : List Str).length (["self", "join", "found"] : List Str).length (b26 cl nF))) := by
  refine fn_ok (G := G) (P := P) (w := w) (K := G.K) (mg := mg) (base := base) (qual := "SelectorReader.relation") (st := (inClass (top 20) 7)) (f := D 26) (fd := fd) (N := ["self", "join", "found"]) (ps := ["self"]) (k := k + 1) (body := b26 cl nF) u sc26 (by decide) hx ?_
  intro cdv Ar outer s H E gd hr
  have F := fit_of (G := G) (k := k + 1) (P := P) (w := w) (mg := mg) (base := base) (N := ["self", "join", "found"]) (qual := "SelectorReader.relation") (st := (inClass (top 20) 7)) (f := D 26) (cdv := cdv) (A := Ar) (outer := outer) (s := s) (H := H) (E := E) rfl hx.1 gd hr
  exact (b_cons (v_drop (s_meth F (mo5_need_1 T A) (s_loc 0) (a_cons s_str a_nil)))
    (b_cons (v_drop (s_meth0 F (mo5_skip_blanks_0 T A) (s_loc 0)))
    (b_cons (v_set 1 s_str sc26.nd)
    (b_cons (v_if (t_p (p_and (t_cmp (so_ne F) (s_meth0 F (mo5_peek_0 T A) (s_loc 0)) s_str) (p_and1 (t_cmp (so_in F) (s_meth0 F (mo5_peek_0 T A) (s_loc 0)) (s_glob (w := (.str ">+~")) (v := (.str ">+~")) T.c_JOINS.choose_spec.1 T.c_JOINS.choose_spec.2 (fun _ _ _ => .str _)))))) (b_cons (v_set 1 (s_meth0 F (mo5_peek_0 T A) (s_loc 0)) sc26.nd)
    (b_cons (v_augF F (fo5_spot T) (s_loc 0) s_int)
    (b_one (v_drop (s_meth0 F (mo5_skip_blanks_0 T A) (s_loc 0)))))) b_end)
    (b_cons (v_set 2 (s_meth F (mo8_read_chain_2 T A) (s_loc 0) (a_cons (s_loc 1) (a_cons s_bl a_nil))) sc26.nd)
    (b_cons (v_drop (s_meth F (mo5_need_1 T A) (s_loc 0) (a_cons s_str a_nil)))
    (b_one (v_ret (s_tup (a_cons s_str (a_cons (s_loc 2) a_nil)))))))))))
theorem sc27 : FnScope ["part", "first", "head"] ["part"] (defScope (top 21)) := ⟨rfl, rfl, rfl, by decide +kernel, rfl, by decide +kernel, by decide +kernel⟩
def b27 (cl : Nat → Fn) (nF : Nat) : Ev :=
  (eSeq (eMatch (eBin oIx (eLoc 0) (eK (.int 0))) [(["mark"], (eRet (eBin oAdd (eK (.str ".")) (eBin oIx (eLoc 0) (eK (.int 1)))))),
    (["nth"], (eRet (eJs [(eK (.str ":nth(")), (eFmt (eBin oIx (eLoc 0) (eK (.int 1)))), (eK (.str ",")), (eFmt (eBin oIx (eLoc 0) (eK (.int 2)))), (eK (.str ")"))] Str.empty))),
    (["not"], (eRet (eJs [(eK (.str ":not(")), (eFmt (eCall (cl 27) [] (eCons (eBin oIx (eLoc 0) (eK (.int 1))) eNil))), (eK (.str ")"))] Str.empty))),
    (["kind"], (eRet (eBin oIx (eLoc 0) (eK (.int 1))))),
    (["has"], (eSeq (eAsg (gN 1) (eBin oIx (eSlot 7 1 (eBin oIx (eLoc 0) (eK (.int 1)))) (eK (.int 0))))
    (eSeq (eAsg (gN 2) (eIf (eBin oNe (eLoc 1) (eK (.str " "))) (eBin oAdd (eLoc 1) (eK (.str " "))) (eK (.str ""))))
    (eRet (eJs [(eK (.str ":has(")), (eFmt (eLoc 2)), (eFmt (eCall (cl 28) [] (eCons (eBin oIx (eLoc 0) (eK (.int 1))) eNil))), (eK (.str ")"))] Str.empty)))))])
    (eRet (eBin oAdd (eK (.str ":")) (eBin oIx (eLoc 0) (eK (.int 0))))))
theorem ok27 {nF : Nat} (T : Txt P G D mg) (hx : G.xs = none ∧ G.xd = none) (A : Al P w mg base G k D cl) (u : DefAt G.K "part_text" (top 21) (D 27) fd) :
    FnG G.dty P w G.K mg base (k + 2) (D 27) fd ["part"] (spC G (["part"] : List Str).length (fnOf (["part"] : List Str).length (["part", "first", "head"] : List Str).length (b27 cl nF))) := by
  refine fn_ok (G := G) (P := P) (w := w) (K := G.K) (mg := mg) (base := base) (qual := "part_text") (st := (top 21)) (f := D 27) (fd := fd) (N := ["part", "first", "head"]) (ps := ["part"]) (k := k + 1) (body := b27 cl nF) u sc27 (by decide) hx ?_
  intro cdv Ar outer s H E gd hr
  have F := fit_of (G := G) (k := k + 1) (P := P) (w := w) (mg := mg) (base := base) (N := ["part", "first", "head"]) (qual := "part_text") (st := (top 21)) (f := D 27) (cdv := cdv) (A := Ar) (outer := outer) (s := s) (H := H) (E := E) rfl hx.1 gd hr
  exact (b_cons (v_match (s_ix F (s_loc 0) s_int) (SMc.one (b_one (v_ret (s_bin (so_add F) s_str (s_ix F (s_loc 0) s_int))))
    (SMc.one (b_one (v_ret (s_joined (SJ.cons s_str (SJ.cons (s_fmt (s_ix F (s_loc 0) s_int)) (SJ.cons s_str (SJ.cons (s_fmt (s_ix F (s_loc 0) s_int)) (SJ.cons s_str SJ.nil))))))))
    (SMc.one (b_one (v_ret (s_joined (SJ.cons s_str (SJ.cons (s_fmt (s_call F A.f27.up T.g_part_text T.k27 (a_cons (s_ix F (s_loc 0) s_int) a_nil))) (SJ.cons s_str SJ.nil))))))
    (SMc.one (b_one (v_ret (s_ix F (s_loc 0) s_int)))
    (SMc.one (b_cons (v_set 1 (s_ix F (s_slot F ⟨T.sc7, T.s7_joins⟩ (s_ix F (s_loc 0) s_int)) s_int) sc27.nd)
    (b_cons (v_set 2 (s_if (t_cmp (so_ne F) (s_loc 1) s_str) (s_bin (so_add F) (s_loc 1) s_str) s_str) sc27.nd)
    (b_one (v_ret (s_joined (SJ.cons s_str (SJ.cons (s_fmt (s_loc 2)) (SJ.cons (s_fmt (s_call F A.f28.up T.g_chain_text T.k28 (a_cons (s_ix F (s_loc 0) s_int) a_nil))) (SJ.cons s_str SJ.nil)))))))))
    SMc.nil))))))
    (b_one (v_ret (s_bin (so_add F) s_str (s_ix F (s_loc 0) s_int)))))
theorem sc28 : FnScope ["chain", "found", "index", "compound", "join", "text", "part"] ["chain"] (defScope (top 22)) := ⟨rfl, rfl, rfl, by decide +kernel, rfl, by decide +kernel, by decide +kernel⟩
def b28 (cl : Nat → Fn) (nF : Nat) : Ev :=
  (eSeq (eAsg (gN 1) (eK (.str "")))
    (eSeq (eFor nF (iE (eCons (eSlot 7 0 (eLoc 0)) eNil)) (gT [2, 3])
    (eSeq (eIfS (eBin oGt (eLoc 2) (eK (.int 0))) (eSeq (eAsg (gN 4) (eBin oIx (eSlot 7 1 (eLoc 0)) (eLoc 2)))
    (eAug 1 oAddX (eIf (eBin oNe (eLoc 4) (eK (.str " "))) (eJs [(eK (.str " ")), (eFmt (eLoc 4)), (eK (.str " "))] Str.empty) (eK (.str " "))))) eEnd)
    (eSeq (eAsg (gN 5) (eBin oAdd (eOrV (eSlot 6 0 (eLoc 3)) (eK (.str ""))) (eBM "str" mJoin (eK (.str "")) (eCons (eLc nF (iT (eSlot 6 1 (eLoc 3))) [6] (gN 6) eYes (eCall (cl 27) [] (eCons (eLoc 6) eNil))) eNil))))
    (eAug 1 oAddX (eOrV (eLoc 5) (eK (.str "*")))))))
    (eRet (eLoc 1))))
theorem ok28 {nF : Nat} (T : Txt P G D mg) (hx : G.xs = none ∧ G.xd = none) (A : Al P w mg base G k D cl) (u : DefAt G.K "chain_text" (top 22) (D 28) fd) :
    FnG G.dty P w G.K mg base (k + 2) (D 28) fd ["chain"] (spC G (["chain"] : List Str).length (fnOf (["chain"] : List Str).length (["chain", "found", "index", "compound", "join", "text", "part"] : List Str).length (b28 cl nF))) := by
  refine fn_ok (G := G) (P := P) (w := w) (K := G.K) (mg := mg) (base := base) (qual := "chain_text") (st := (top 22)) (f := D 28) (fd := fd) (N := ["chain", "found", "index", "compound", "join", "text", "part"]) (ps := ["chain"]) (k := k + 1) (body := b28 cl nF) u sc28 (by decide) hx ?_
  intro cdv Ar outer s H E gd hr
  have F := fit_of (G := G) (k := k + 1) (P := P) (w := w) (mg := mg) (base := base) (N := ["chain", "found", "index", "compound", "join", "text", "part"]) (qual := "chain_text") (st := (top 22)) (f := D 28) (cdv := cdv) (A := Ar) (outer := outer) (s := s) (H := H) (E := E) rfl hx.1 gd hr
  exact (b_cons (v_set 1 s_str sc28.nd)
    (b_cons (v_for nF F (i_enum F T.b_enumerate (a_cons (s_slot F ⟨T.sc7, T.s7_compounds⟩ (s_loc 0)) a_nil)) (g_tup F (gs_cons 2 (gs_cons 3 gs_nil sc28.nd) sc28.nd))
    (b_cons (v_if (t_cmp so_gt (s_loc 2) s_int) (b_cons (v_set 4 (s_ix F (s_slot F ⟨T.sc7, T.s7_joins⟩ (s_loc 0)) (s_loc 2)) sc28.nd)
    (b_one (v_augX 1 (s_if (t_cmp (so_ne F) (s_loc 4) s_str) (s_joined (SJ.cons s_str (SJ.cons (s_fmt (s_loc 4)) (SJ.cons s_str SJ.nil)))) s_str) sc28.nd))) b_end)
    (b_cons (v_set 5 (s_bin (so_add F) (s_orV (s_slot F ⟨T.sc6, T.s6_own_kind⟩ (s_loc 3)) (s_one s_str)) (s_bm F PySem.F.plainAttrs_str PySem.F.slot_str_join PySem.F.type_str_join (m_join F.K) s_str (a_cons (s_lc nF F sc28.nd (i_tup F (s_slot F ⟨T.sc6, T.s6_parts⟩ (s_loc 3))) (own := [("part", 6)]) (blkOk_by rfl) (fun _ _ _ _ _ => (gw_name 6 sc28.nd)) (fun _ _ _ _ _ => ts_nil) (fun _ _ _ _ _ => (s_call (Fit.blk F) A.f27.up T.g_part_text T.k27 (a_cons (s_loc 6) a_nil)))) a_nil))) sc28.nd)
    (b_one (v_augX 1 (s_orV (s_loc 5) (s_one s_str)) sc28.nd)))))
    (b_one (v_ret (s_loc 1)))))
theorem sc45 : FnScope ["self", "chain"] ["self", "chain"] (defScope (inClass (top 29) 1)) := ⟨rfl, rfl, rfl, by decide +kernel, rfl, by decide +kernel, by decide +kernel⟩
def b45 (cl : Nat → Fn) (nF : Nat) : Ev :=
  (eSeq (eSetS 11 0 (eLoc 0) (eLoc 1))
    (eSetS 11 1 (eLoc 0) (eCall (cl 28) [] (eCons (eLoc 1) eNil))))
theorem ok45 {nF : Nat} (T : Txt P G D mg) (hx : G.xs = none ∧ G.xd = none) (A : Al P w mg base G k D cl) (u : DefAt G.K "Selector.__init__" (inClass (top 29) 1) (D 45) fd) :
    FnG G.dty P w G.K mg base (k + 2) (D 45) fd ["self", "chain"] (spC G (["self", "chain"] : List Str).length (fnOf (["self", "chain"] : List Str).length (["self", "chain"] : List Str).length (b45 cl nF))) := by
  refine fn_ok (G := G) (P := P) (w := w) (K := G.K) (mg := mg) (base := base) (qual := "Selector.__init__") (st := (inClass (top 29) 1)) (f := D 45) (fd := fd) (N := ["self", "chain"]) (ps := ["self", "chain"]) (k := k + 1) (body := b45 cl nF) u sc45 (by decide) hx ?_
  intro cdv Ar outer s H E gd hr
  have F := fit_of (G := G) (k := k + 1) (P := P) (w := w) (mg := mg) (base := base) (N := ["self", "chain"]) (qual := "Selector.__init__") (st := (inClass (top 29) 1)) (f := D 45) (cdv := cdv) (A := Ar) (outer := outer) (s := s) (H := H) (E := E) rfl hx.1 gd hr
  exact (b_cons (v_setS F ⟨T.sc11, T.s11_chain⟩ (s_loc 0) (s_loc 1))
    (b_one (v_setS F ⟨T.sc11, T.s11_written⟩ (s_loc 0) (s_call F A.f28.up T.g_chain_text T.k28 (a_cons (s_loc 1) a_nil)))))
theorem sc46 : FnScope ["self"] ["self"] (defScope (inClass (top 29) 2)) := ⟨rfl, rfl, rfl, by decide +kernel, rfl, by decide +kernel, by decide +kernel⟩
def b46 (cl : Nat → Fn) (nF : Nat) : Ev :=
  (eRet (eSlot 11 1 (eLoc 0)))
theorem ok46 {nF : Nat} (T : Txt P G D mg) (hx : G.xs = none ∧ G.xd = none) (A : Al P w mg base G k D cl) (u : DefAt G.K "Selector.text" (inClass (top 29) 2) (D 46) fd) :
    FnG G.dty P w G.K mg base (k + 2) (D 46) fd ["self"] (spC G (["self"] : List Str).length (fnOf (["self"] : List Str).length (["self"] : List Str).length (b46 cl nF))) := by
  refine fn_ok (G := G) (P := P) (w := w) (K := G.K) (mg := mg) (base := base) (qual := "Selector.text") (st := (inClass (top 29) 2)) (f := D 46) (fd := fd) (N := ["self"]) (ps := ["self"]) (k := k + 1) (body := b46 cl nF) u sc46 (by decide) hx ?_
  intro cdv Ar outer s H E gd hr
  have F := fit_of (G := G) (k := k + 1) (P := P) (w := w) (mg := mg) (base := base) (N := ["self"]) (qual := "Selector.text") (st := (inClass (top 29) 2)) (f := D 46) (cdv := cdv) (A := Ar) (outer := outer) (s := s) (H := H) (E := E) rfl hx.1 gd hr
  exact (b_one (v_ret (s_slot F ⟨T.sc11, T.s11_written⟩ (s_loc 0))))
theorem sc48 : FnScope ["self", "total", "compound", "part"] ["self"] (defScope (inClass (top 29) 4)) := ⟨rfl, rfl, rfl, by decide +kernel, rfl, by decide +kernel, by decide +kernel⟩
def b48 (cl : Nat → Fn) (nF : Nat) : Ev :=
  (eSeq (eAsg (gN 1) (eBlt bLen (eCons (eSlot 7 0 (eSlot 11 0 (eLoc 0))) eNil)))
    (eSeq (eFor nF (iL (eSlot 7 0 (eSlot 11 0 (eLoc 0)))) (gN 2)
    (eAug 1 oAddX (eBlt bSum (eCons (eLc nF (iT (eSlot 6 1 (eLoc 2))) [3] (gN 3) (eBin oEq (eBin oIx (eLoc 3) (eK (.int 0))) (eK (.str "has"))) (eBlt bLen (eCons (eSlot 7 0 (eBin oIx (eLoc 3) (eK (.int 1)))) eNil))) eNil))))
    (eRet (eLoc 1))))
theorem ok48 {nF : Nat} (T : Txt P G D mg) (hx : G.xs = none ∧ G.xd = none) (A : Al P w mg base G k D cl) (u : DefAt G.K "Selector.compound_total" (inClass (top 29) 4) (D 48) fd) :
    FnG G.dty P w G.K mg base (k + 2) (D 48) fd ["self"] (spC G (["self"] : List Str).length (fnOf (["self"] : List Str).length (["self", "total", "compound", "part"] : List Str).length (b48 cl nF))) := by
  refine fn_ok (G := G) (P := P) (w := w) (K := G.K) (mg := mg) (base := base) (qual := "Selector.compound_total") (st := (inClass (top 29) 4)) (f := D 48) (fd := fd) (N := ["self", "total", "compound", "part"]) (ps := ["self"]) (k := k + 1) (body := b48 cl nF) u sc48 (by decide) hx ?_
  intro cdv Ar outer s H E gd hr
  have F := fit_of (G := G) (k := k + 1) (P := P) (w := w) (mg := mg) (base := base) (N := ["self", "total", "compound", "part"]) (qual := "Selector.compound_total") (st := (inClass (top 29) 4)) (f := D 48) (cdv := cdv) (A := Ar) (outer := outer) (s := s) (H := H) (E := E) rfl hx.1 gd hr
  exact (b_cons (v_set 1 (s_blt (c_len F.K) T.b_len PySem.boot_len (a_cons (s_slot F ⟨T.sc7, T.s7_compounds⟩ (s_slot F ⟨T.sc11, T.s11_chain⟩ (s_loc 0))) a_nil)) sc48.nd)
    (b_cons (v_for nF F (i_list F (s_slot F ⟨T.sc7, T.s7_compounds⟩ (s_slot F ⟨T.sc11, T.s11_chain⟩ (s_loc 0)))) (g_name 2 sc48.nd)
    (b_one (v_augX 1 (s_blt (c_sum F) T.b_sum (by decide +kernel) (a_cons (s_lc nF F sc48.nd (i_tup F (s_slot F ⟨T.sc6, T.s6_parts⟩ (s_loc 2))) (own := [("part", 3)]) (blkOk_by rfl) (fun _ _ _ _ _ => (gw_name 3 sc48.nd)) (fun _ _ _ _ _ => (ts_one (t_cmp (so_eq (Fit.blk F)) (s_ix (Fit.blk F) (s_loc 3) s_int) s_str))) (fun _ _ _ _ _ => (s_blt (c_len (Fit.blk F).K) T.b_len PySem.boot_len (a_cons (s_slot (Fit.blk F) ⟨T.sc7, T.s7_compounds⟩ (s_ix (Fit.blk F) (s_loc 3) s_int)) a_nil)))) a_nil)) sc48.nd)))
    (b_one (v_ret (s_loc 1)))))
theorem sc62 : FnScope ["self", "word", "name", "default"] ["self", "word", "name", "default"] (defScope (inClass (top 36) 1)) := ⟨rfl, rfl, rfl, by decide +kernel, rfl, by decide +kernel, by decide +kernel⟩
def b62 (cl : Nat → Fn) (nF : Nat) : Ev :=
  (eSeq (eSetS 14 2 (eLoc 0) (eLoc 1))
    (eSeq (eSetS 14 1 (eLoc 0) (eLoc 2))
    (eSetS 14 0 (eLoc 0) (eLoc 3))))
theorem ok62 {nF : Nat} (T : Txt P G D mg) (hx : G.xs = none ∧ G.xd = none) (A : Al P w mg base G k D cl) (u : DefAt G.K "Property.__init__" (inClass (top 36) 1) (D 62) fd) :
    FnG G.dty P w G.K mg base (k + 2) (D 62) fd ["self", "word", "name", "default"] (spC G (["self", "word", "name", "default"] : List Str).length (fnOf (["self", "word", "name", "default"] : List Str).length (["self", "word", "name", "default"] : List Str).length (b62 cl nF))) := by
  refine fn_ok (G := G) (P := P) (w := w) (K := G.K) (mg := mg) (base := base) (qual := "Property.__init__") (st := (inClass (top 36) 1)) (f := D 62) (fd := fd) (N := ["self", "word", "name", "default"]) (ps := ["self", "word", "name", "default"]) (k := k + 1) (body := b62 cl nF) u sc62 (by decide) hx ?_
  intro cdv Ar outer s H E gd hr
  have F := fit_of (G := G) (k := k + 1) (P := P) (w := w) (mg := mg) (base := base) (N := ["self", "word", "name", "default"]) (qual := "Property.__init__") (st := (inClass (top 36) 1)) (f := D 62) (cdv := cdv) (A := Ar) (outer := outer) (s := s) (H := H) (E := E) rfl hx.1 gd hr
  exact (b_cons (v_setS F ⟨T.sc14, T.s14_word⟩ (s_loc 0) (s_loc 1))
    (b_cons (v_setS F ⟨T.sc14, T.s14_name⟩ (s_loc 0) (s_loc 2))
    (b_one (v_setS F ⟨T.sc14, T.s14_default⟩ (s_loc 0) (s_loc 3)))))
theorem sc63 : FnScope ["self", "layer", "selectors", "declarations"] ["self", "layer", "selectors", "declarations"] (defScope (inClass (top 37) 1)) := ⟨rfl, rfl, rfl, by decide +kernel, rfl, by decide +kernel, by decide +kernel⟩
def b63 (cl : Nat → Fn) (nF : Nat) : Ev :=
  (eSeq (eSetS 15 1 (eLoc 0) (eLoc 1))
    (eSeq (eSetS 15 2 (eLoc 0) (eLoc 2))
    (eSetS 15 0 (eLoc 0) (eLoc 3))))
theorem ok63 {nF : Nat} (T : Txt P G D mg) (hx : G.xs = none ∧ G.xd = none) (A : Al P w mg base G k D cl) (u : DefAt G.K "Rule.__init__" (inClass (top 37) 1) (D 63) fd) :
    FnG G.dty P w G.K mg base (k + 2) (D 63) fd ["self", "layer", "selectors", "declarations"] (spC G (["self", "layer", "selectors", "declarations"] : List Str).length (fnOf (["self", "layer", "selectors", "declarations"] : List Str).length (["self", "layer", "selectors", "declarations"] : List Str).length (b63 cl nF))) := by
  refine fn_ok (G := G) (P := P) (w := w) (K := G.K) (mg := mg) (base := base) (qual := "Rule.__init__") (st := (inClass (top 37) 1)) (f := D 63) (fd := fd) (N := ["self", "layer", "selectors", "declarations"]) (ps := ["self", "layer", "selectors", "declarations"]) (k := k + 1) (body := b63 cl nF) u sc63 (by decide) hx ?_
  intro cdv Ar outer s H E gd hr
  have F := fit_of (G := G) (k := k + 1) (P := P) (w := w) (mg := mg) (base := base) (N := ["self", "layer", "selectors", "declarations"]) (qual := "Rule.__init__") (st := (inClass (top 37) 1)) (f := D 63) (cdv := cdv) (A := Ar) (outer := outer) (s := s) (H := H) (E := E) rfl hx.1 gd hr
  exact (b_cons (v_setS F ⟨T.sc15, T.s15_layer⟩ (s_loc 0) (s_loc 1))
    (b_cons (v_setS F ⟨T.sc15, T.s15_selectors⟩ (s_loc 0) (s_loc 2))
    (b_one (v_setS F ⟨T.sc15, T.s15_declarations⟩ (s_loc 0) (s_loc 3)))))
theorem sc64 : FnScope ["line", "heads", "words", "head"] ["line", "heads"] (defScope (top 38)) := ⟨rfl, rfl, rfl, by decide +kernel, rfl, by decide +kernel, by decide +kernel⟩
def b64 (cl : Nat → Fn) (nF : Nat) : Ev :=
  (eSeq (eAsg (gN 2) (eBM "str" mSplit (eLoc 0) eNil))
    (eSeq (eIfS (eOr (eBin oEq (eLoc 2) (eLst eNil)) (eOr (eBin oNotIn (eBin oIx (eLoc 2) (eK (.int 0))) (eK (.tup ((["var", "hand", "own"] : List Str).map W.str)))) (eBin oNe (eBlt bLen (eCons (eLoc 2) eNil)) (eIf (eBin oEq (eBin oIx (eLoc 2) (eK (.int 0))) (eK (.str "var"))) (eK (.int 2)) (eK (.int 3)))))) (eRet (eK .non)) eEnd)
    (eSeq (eIfS (eOr (eNot (eCall (cl 6) [] (eCons (eBin oIx (eLoc 2) (eK (.int 1))) eNil))) (eOr (eBin oIn (eBin oIx (eLoc 2) (eK (.int 1))) (eLc nF (iL (eLoc 1)) [3] (gN 3) eYes (eSlot 14 1 (eLoc 3)))) (eBin oEq (eBlt bLen (eCons (eLoc 1) eNil)) (eK (.int 12))))) (eRet (eK .non)) eEnd)
    (eSeq (eIfS (eBin oEq (eBin oIx (eLoc 2) (eK (.int 0))) (eK (.str "var"))) (eRet (eNew true 14 (cl 62) [] (eCons (eK (.str "var")) (eCons (eBin oIx (eLoc 2) (eK (.int 1))) (eCons (eK .non) eNil))))) eEnd)
    (eRet (eIf (eCall (cl 7) [] (eCons (eBin oIx (eLoc 2) (eK (.int 2))) eNil)) (eNew true 14 (cl 62) [] (eCons (eBin oIx (eLoc 2) (eK (.int 0))) (eCons (eBin oIx (eLoc 2) (eK (.int 1))) (eCons (eBin oIx (eLoc 2) (eK (.int 2))) eNil)))) (eK .non)))))))
theorem ok64 {nF : Nat} (T : Txt P G D mg) (hx : G.xs = none ∧ G.xd = none) (A : Al P w mg base G k D cl) (u : DefAt G.K "read_property" (top 38) (D 64) fd) :
    FnG G.dty P w G.K mg base (k + 2) (D 64) fd ["line", "heads"] (spC G (["line", "heads"] : List Str).length (fnOf (["line", "heads"] : List Str).length (["line", "heads", "words", "head"] : List Str).length (b64 cl nF))) := by
  refine fn_ok (G := G) (P := P) (w := w) (K := G.K) (mg := mg) (base := base) (qual := "read_property") (st := (top 38)) (f := D 64) (fd := fd) (N := ["line", "heads", "words", "head"]) (ps := ["line", "heads"]) (k := k + 1) (body := b64 cl nF) u sc64 (by decide) hx ?_
  intro cdv Ar outer s H E gd hr
  have F := fit_of (G := G) (k := k + 1) (P := P) (w := w) (mg := mg) (base := base) (N := ["line", "heads", "words", "head"]) (qual := "read_property") (st := (top 38)) (f := D 64) (cdv := cdv) (A := Ar) (outer := outer) (s := s) (H := H) (E := E) rfl hx.1 gd hr
  exact (b_cons (v_set 2 (s_bm0 F PySem.F.plainAttrs_str PySem.F.slot_str_split PySem.F.type_str_split m_split (s_loc 0)) sc64.nd)
    (b_cons (v_if (t_p (p_or (t_cmp (so_eq F) (s_loc 2) (s_lst a_nil)) (p_or (t_cmp (so_notIn F) (s_ix F (s_loc 2) s_int) (s_globT T.ct_WORDS)) (p_or1 (t_cmp (so_ne F) (s_blt (c_len F.K) T.b_len PySem.boot_len (a_cons (s_loc 2) a_nil)) (s_if (t_cmp (so_eq F) (s_ix F (s_loc 2) s_int) s_str) s_int s_int)))))) (b_one (v_ret s_non)) b_end)
    (b_cons (v_if (t_p (p_or (t_not (t_val (s_call F A.f6.up T.g_is_name T.k6 (a_cons (s_ix F (s_loc 2) s_int) a_nil)))) (p_or (t_cmp (so_in F) (s_ix F (s_loc 2) s_int) (s_lc nF F sc64.nd (i_list F (s_loc 1)) (own := [("head", 3)]) (blkOk_by rfl) (fun _ _ _ _ _ => (gw_name 3 sc64.nd)) (fun _ _ _ _ _ => ts_nil) (fun _ _ _ _ _ => (s_slot (Fit.blk F) ⟨T.sc14, T.s14_name⟩ (s_loc 3))))) (p_or1 (t_cmp (so_eq F) (s_blt (c_len F.K) T.b_len PySem.boot_len (a_cons (s_loc 1) a_nil)) (s_glob (w := (.int 12)) (v := (.int 12)) T.c_MOST_PROPERTIES.choose_spec.1 T.c_MOST_PROPERTIES.choose_spec.2 (fun _ _ _ => .int _))))))) (b_one (v_ret s_non)) b_end)
    (b_cons (v_if (t_cmp (so_eq F) (s_ix F (s_loc 2) s_int) s_str) (b_one (v_ret (s_new F T.mk14 A.f62 T.gc14 (a_cons s_str (a_cons (s_ix F (s_loc 2) s_int) (a_cons s_non a_nil)))))) b_end)
    (b_one (v_ret (s_if (t_val (s_call F A.f7.up T.g_is_word T.k7 (a_cons (s_ix F (s_loc 2) s_int) a_nil))) (s_new F T.mk14 A.f62 T.gc14 (a_cons (s_ix F (s_loc 2) s_int) (a_cons (s_ix F (s_loc 2) s_int) (a_cons (s_ix F (s_loc 2) s_int) a_nil)))) s_non)))))))
theorem sc65 : FnScope ["text", "earlier", "words"] ["text", "earlier"] (defScope (top 39)) := ⟨rfl, rfl, rfl, by decide +kernel, rfl, by decide +kernel, by decide +kernel⟩
def b65 (cl : Nat → Fn) (nF : Nat) : Ev :=
  (eSeq (eAsg (gN 2) (eBM "str" mSplit (eLoc 0) eNil))
    (eSeq (eIfS (eAnd (eBin oEq (eBlt bLen (eCons (eLoc 2) eNil)) (eK (.int 1))) (eOr (eBin oEq (eBin oIx (eLoc 2) (eK (.int 0))) (eK (.str "inherit"))) (eCall (cl 7) [] (eCons (eBin oIx (eLoc 2) (eK (.int 0))) eNil)))) (eRet (eBin oIx (eLoc 2) (eK (.int 0)))) eEnd)
    (eSeq (eIfS (eOr (eBin oEq (eLoc 2) (eLst eNil)) (eOr (eNot (eBM "str" mStarts (eBin oIx (eLoc 2) (eK (.int 0))) (eCons (eK (.str "$")) eNil))) (eBin oNotIn (eSl (eBin oIx (eLoc 2) (eK (.int 0))) (eInt (eK (.int 1))) (eK .non)) (eLoc 1)))) (eRet (eK .non)) eEnd)
    (eSeq (eIfS (eBin oEq (eBlt bLen (eCons (eLoc 2) eNil)) (eK (.int 1))) (eRet (eBin oIx (eLoc 2) (eK (.int 0)))) eEnd)
    (eSeq (eIfS (eOr (eBin oNe (eBlt bLen (eCons (eLoc 2) eNil)) (eK (.int 3))) (eOr (eBin oNe (eBin oIx (eLoc 2) (eK (.int 1))) (eK (.str "or"))) (eNot (eCall (cl 7) [] (eCons (eBin oIx (eLoc 2) (eK (.int 2))) eNil))))) (eRet (eK .non)) eEnd)
    (eRet (eBM "str" mJoin (eK (.str " ")) (eCons (eLoc 2) eNil))))))))
theorem ok65 {nF : Nat} (T : Txt P G D mg) (hx : G.xs = none ∧ G.xd = none) (A : Al P w mg base G k D cl) (u : DefAt G.K "read_value" (top 39) (D 65) fd) :
    FnG G.dty P w G.K mg base (k + 2) (D 65) fd ["text", "earlier"] (spC G (["text", "earlier"] : List Str).length (fnOf (["text", "earlier"] : List Str).length (["text", "earlier", "words"] : List Str).length (b65 cl nF))) := by
  refine fn_ok (G := G) (P := P) (w := w) (K := G.K) (mg := mg) (base := base) (qual := "read_value") (st := (top 39)) (f := D 65) (fd := fd) (N := ["text", "earlier", "words"]) (ps := ["text", "earlier"]) (k := k + 1) (body := b65 cl nF) u sc65 (by decide) hx ?_
  intro cdv Ar outer s H E gd hr
  have F := fit_of (G := G) (k := k + 1) (P := P) (w := w) (mg := mg) (base := base) (N := ["text", "earlier", "words"]) (qual := "read_value") (st := (top 39)) (f := D 65) (cdv := cdv) (A := Ar) (outer := outer) (s := s) (H := H) (E := E) rfl hx.1 gd hr
  exact (b_cons (v_set 2 (s_bm0 F PySem.F.plainAttrs_str PySem.F.slot_str_split PySem.F.type_str_split m_split (s_loc 0)) sc65.nd)
    (b_cons (v_if (t_p (p_and (t_cmp (so_eq F) (s_blt (c_len F.K) T.b_len PySem.boot_len (a_cons (s_loc 2) a_nil)) s_int) (p_and1 (t_p (p_or (t_cmp (so_eq F) (s_ix F (s_loc 2) s_int) s_str) (p_or1 (t_val (s_call F A.f7.up T.g_is_word T.k7 (a_cons (s_ix F (s_loc 2) s_int) a_nil))))))))) (b_one (v_ret (s_ix F (s_loc 2) s_int))) b_end)
    (b_cons (v_if (t_p (p_or (t_cmp (so_eq F) (s_loc 2) (s_lst a_nil)) (p_or (t_not (t_val (s_bm F PySem.F.plainAttrs_str PySem.F.slot_str_startswith PySem.F.type_str_startswith m_starts (s_ix F (s_loc 2) s_int) (a_cons s_str a_nil)))) (p_or1 (t_cmp (so_notIn F) (s_sl F (s_ix F (s_loc 2) s_int) (o_some s_int) o_none) (s_loc 1)))))) (b_one (v_ret s_non)) b_end)
    (b_cons (v_if (t_cmp (so_eq F) (s_blt (c_len F.K) T.b_len PySem.boot_len (a_cons (s_loc 2) a_nil)) s_int) (b_one (v_ret (s_ix F (s_loc 2) s_int))) b_end)
    (b_cons (v_if (t_p (p_or (t_cmp (so_ne F) (s_blt (c_len F.K) T.b_len PySem.boot_len (a_cons (s_loc 2) a_nil)) s_int) (p_or (t_cmp (so_ne F) (s_ix F (s_loc 2) s_int) s_str) (p_or1 (t_not (t_val (s_call F A.f7.up T.g_is_word T.k7 (a_cons (s_ix F (s_loc 2) s_int) a_nil)))))))) (b_one (v_ret s_non)) b_end)
    (b_one (v_ret (s_bm F PySem.F.plainAttrs_str PySem.F.slot_str_join PySem.F.type_str_join (m_join F.K) s_str (a_cons (s_loc 2) a_nil)))))))))
theorem sc66 : FnScope ["text", "heads", "name", "sign", "value", "is_strong", "names", "earlier", "found", "head"] ["text", "heads"] (defScope (top 40)) := ⟨rfl, rfl, rfl, by decide +kernel, rfl, by decide +kernel, by decide +kernel⟩
def b66 (cl : Nat → Fn) (nF : Nat) : Ev :=
  (eSeq (eAsg (gT [2, 3, 4]) (eBM "str" mPartF (eLoc 0) (eCons (eK (.str ":")) eNil)))
    (eSeq (eAsg (gN 2) (eBM "str" mStripC (eLoc 2) (eCons (eK (.str " ")) eNil)))
    (eSeq (eAsg (gN 5) (eBM "str" mEnds (eLoc 2) (eCons (eK (.str "!")) eNil)))
    (eSeq (eIfS (eLoc 5) (eAsg (gN 2) (eBM "str" mStripC (eSl (eLoc 2) (eK .non) (eInt (eNeg (eK (.int 1))))) (eCons (eK (.str " ")) eNil))) eEnd)
    (eSeq (eAsg (gN 6) (eLc nF (iL (eLoc 1)) [9] (gN 9) eYes (eSlot 14 1 (eLoc 9))))
    (eSeq (eIfS (eOr (eBin oEq (eLoc 3) (eK (.str ""))) (eBin oNotIn (eLoc 2) (eLoc 6))) (eRet (eK .non)) eEnd)
    (eSeq (eAsg (gN 7) (eLc nF (iL (eSl (eLoc 1) (eK .non) (eInt (eBM "list" mIndex (eLoc 6) (eCons (eLoc 2) eNil))))) [9] (gN 9) (eBin oEq (eSlot 14 2 (eLoc 9)) (eK (.str "var"))) (eSlot 14 1 (eLoc 9))))
    (eSeq (eAsg (gN 8) (eCall (cl 65) [] (eCons (eLoc 4) (eCons (eLoc 7) eNil))))
    (eRet (eIf (eBin oNotN (eLoc 8) (eK .non)) (eTup (eCons (eLoc 2) (eCons (eLoc 8) (eCons (eLoc 5) eNil)))) (eK .non)))))))))))
theorem ok66 {nF : Nat} (T : Txt P G D mg) (hx : G.xs = none ∧ G.xd = none) (A : Al P w mg base G k D cl) (u : DefAt G.K "read_declaration" (top 40) (D 66) fd) :
    FnG G.dty P w G.K mg base (k + 2) (D 66) fd ["text", "heads"] (spC G (["text", "heads"] : List Str).length (fnOf (["text", "heads"] : List Str).length (["text", "heads", "name", "sign", "value", "is_strong", "names", "earlier", "found", "head"] : List Str).length (b66 cl nF))) := by
  refine fn_ok (G := G) (P := P) (w := w) (K := G.K) (mg := mg) (base := base) (qual := "read_declaration") (st := (top 40)) (f := D 66) (fd := fd) (N := ["text", "heads", "name", "sign", "value", "is_strong", "names", "earlier", "found", "head"]) (ps := ["text", "heads"]) (k := k + 1) (body := b66 cl nF) u sc66 (by decide) hx ?_
  intro cdv Ar outer s H E gd hr
  have F := fit_of (G := G) (k := k + 1) (P := P) (w := w) (mg := mg) (base := base) (N := ["text", "heads", "name", "sign", "value", "is_strong", "names", "earlier", "found", "head"]) (qual := "read_declaration") (st := (top 40)) (f := D 66) (cdv := cdv) (A := Ar) (outer := outer) (s := s) (H := H) (E := E) rfl hx.1 gd hr
  exact (b_cons (v_asg (s_bm F PySem.F.plainAttrs_str PySem.F.slot_str_partition PySem.F.type_str_partition m_partF (s_loc 0) (a_cons s_str a_nil)) (g_tup F (gs_cons 2 (gs_cons 3 (gs_cons 4 gs_nil sc66.nd) sc66.nd) sc66.nd)))
    (b_cons (v_set 2 (s_bm F PySem.F.plainAttrs_str PySem.F.slot_str_strip PySem.F.type_str_strip m_stripC (s_loc 2) (a_cons s_str a_nil)) sc66.nd)
    (b_cons (v_set 5 (s_bm F PySem.F.plainAttrs_str PySem.F.slot_str_endswith PySem.F.type_str_endswith m_ends (s_loc 2) (a_cons s_str a_nil)) sc66.nd)
    (b_cons (v_if (t_val (s_loc 5)) (b_one (v_set 2 (s_bm F PySem.F.plainAttrs_str PySem.F.slot_str_strip PySem.F.type_str_strip m_stripC (s_sl F (s_loc 2) o_none (o_some (s_neg s_int))) (a_cons s_str a_nil)) sc66.nd)) b_end)
    (b_cons (v_setLc nF 6 F sc66.nd (sw_true rfl rfl rfl (by decide +kernel)) (i_list F (s_loc 1)) (own := [("head", 9)]) (blkOk_by rfl) (fun _ _ _ _ _ => (gw_name 9 sc66.nd)) (fun _ _ _ _ _ => ts_nil) (fun _ _ _ _ _ => (s_slot (Fit.blk F) ⟨T.sc14, T.s14_name⟩ (s_loc 9))))
    (b_cons (v_if (t_p (p_or (t_cmp (so_eq F) (s_loc 3) s_str) (p_or1 (t_cmp (so_notIn F) (s_loc 2) (s_loc 6))))) (b_one (v_ret s_non)) b_end)
    (b_cons (v_setLc nF 7 F sc66.nd (sw_true rfl rfl rfl (by decide +kernel)) (i_list F (s_sl F (s_loc 1) o_none (o_some (s_bm F PySem.F.plainAttrs_list PySem.F.slot_list_index PySem.F.type_list_index (m_index F.K) (s_loc 6) (a_cons (s_loc 2) a_nil))))) (own := [("head", 9)]) (blkOk_by rfl) (fun _ _ _ _ _ => (gw_name 9 sc66.nd)) (fun _ _ _ _ _ => (ts_one (t_cmp (so_eq (Fit.blk F)) (s_slot (Fit.blk F) ⟨T.sc14, T.s14_word⟩ (s_loc 9)) s_str))) (fun _ _ _ _ _ => (s_slot (Fit.blk F) ⟨T.sc14, T.s14_name⟩ (s_loc 9))))
    (b_cons (v_set 8 (s_call F A.f65.up T.g_read_value T.k65 (a_cons (s_loc 4) (a_cons (s_loc 7) a_nil))) sc66.nd)
    (b_one (v_ret (s_if (t_cmp so_notN (s_loc 8) s_non) (s_tup (a_cons (s_loc 2) (a_cons (s_loc 8) (a_cons (s_loc 5) a_nil)))) s_non)))))))))))
theorem sc67 : FnScope ["text", "reader", "found"] ["text"] (defScope (top 41)) := ⟨rfl, rfl, rfl, by decide +kernel, rfl, by decide +kernel, by decide +kernel⟩
def b67 (cl : Nat → Fn) (nF : Nat) : Ev :=
  (eSeq (eAsg (gN 1) (eNew false 8 (cl 8) [] (eCons (eLoc 0) eNil)))
    (eSeq (eAsg (gN 2) (eLst eNil))
    (eSeq (eDrop (eMeth "skip_blanks" (mt5_skip_blanks_0 cl) (eLoc 1) eNil))
    (eSeq (eDrop (eBM "list" mAppend (eLoc 2) (eCons (eNew true 11 (cl 45) [] (eCons (eMeth "read_chain" (mt8_read_chain_2 cl) (eLoc 1) (eCons (eK .non) (eCons (eK (.bl true)) eNil))) eNil)) eNil)))
    (eSeq (eWhl (eMeth "is_sign" (mt5_is_sign_1 cl) (eLoc 1) (eCons (eK (.str ",")) eNil)) (eSeq (eDrop (eMeth "skip_blanks" (mt5_skip_blanks_0 cl) (eLoc 1) eNil))
    (eDrop (eBM "list" mAppend (eLoc 2) (eCons (eNew true 11 (cl 45) [] (eCons (eMeth "read_chain" (mt8_read_chain_2 cl) (eLoc 1) (eCons (eK .non) (eCons (eK (.bl true)) eNil))) eNil)) eNil)))) nF)
    (eSeq (eDrop (eMeth "need_end" (mt5_need_end_0 cl) (eLoc 1) eNil))
    (eRet (eBlt bTuple (eCons (eLoc 2) eNil)))))))))
theorem ok67 {nF : Nat} (T : Txt P G D mg) (hx : G.xs = none ∧ G.xd = none) (A : Al P w mg base G k D cl) (u : DefAt G.K "read_selectors" (top 41) (D 67) fd) :
    FnG G.dty P w G.K mg base (k + 2) (D 67) fd ["text"] (spC G (["text"] : List Str).length (fnOf (["text"] : List Str).length (["text", "reader", "found"] : List Str).length (b67 cl nF))) := by
  refine fn_ok (G := G) (P := P) (w := w) (K := G.K) (mg := mg) (base := base) (qual := "read_selectors") (st := (top 41)) (f := D 67) (fd := fd) (N := ["text", "reader", "found"]) (ps := ["text"]) (k := k + 1) (body := b67 cl nF) u sc67 (by decide) hx ?_
  intro cdv Ar outer s H E gd hr
  have F := fit_of (G := G) (k := k + 1) (P := P) (w := w) (mg := mg) (base := base) (N := ["text", "reader", "found"]) (qual := "read_selectors") (st := (top 41)) (f := D 67) (cdv := cdv) (A := Ar) (outer := outer) (s := s) (H := H) (E := E) rfl hx.1 gd hr
  exact (b_cons (v_set 1 (s_new F T.mk8 A.f8 T.gc8 (a_cons (s_loc 0) a_nil)) sc67.nd)
    (b_cons (v_set 2 (s_lst a_nil) sc67.nd)
    (b_cons (v_drop (s_meth0 F (mo5_skip_blanks_0 T A) (s_loc 1)))
    (b_cons (v_drop (s_bm F PySem.F.plainAttrs_list PySem.F.slot_list_append PySem.F.type_list_append m_append (s_loc 2) (a_cons (s_new F T.mk11 A.f45 T.gc11 (a_cons (s_meth F (mo8_read_chain_2 T A) (s_loc 1) (a_cons s_non (a_cons s_bl a_nil))) a_nil)) a_nil)))
    (b_cons (v_while nF F (t_val (s_meth F (mo5_is_sign_1 T A) (s_loc 1) (a_cons s_str a_nil))) (b_cons (v_drop (s_meth0 F (mo5_skip_blanks_0 T A) (s_loc 1)))
    (b_one (v_drop (s_bm F PySem.F.plainAttrs_list PySem.F.slot_list_append PySem.F.type_list_append m_append (s_loc 2) (a_cons (s_new F T.mk11 A.f45 T.gc11 (a_cons (s_meth F (mo8_read_chain_2 T A) (s_loc 1) (a_cons s_non (a_cons s_bl a_nil))) a_nil)) a_nil))))))
    (b_cons (v_drop (s_meth0 F (mo5_need_end_0 T A) (s_loc 1)))
    (b_one (v_ret (s_blty (c_tuple F.K) T.b_tuple (by decide +kernel) (a_cons (s_loc 2) a_nil))))))))))
theorem sc68 : FnScope ["text", "rest", "digit", "sign", "behind"] ["text"] (defScope (top 42)) := ⟨rfl, rfl, rfl, by decide +kernel, rfl, by decide +kernel, by decide +kernel⟩
def b68 (cl : Nat → Fn) (nF : Nat) : Ev :=
  (eSeq (eAsg (gN 1) (eBM "str" mLstripC (eLoc 0) (eCons (eK (.str " ")) eNil)))
    (eSeq (eIfS (eNot (eBM "str" mStarts (eLoc 1) (eCons (eK (.str "layer ")) eNil))) (eRet (eTup (eCons (eK (.int 0)) (eCons (eLoc 1) eNil)))) eEnd)
    (eSeq (eAsg (gT [2, 3, 4]) (eBM "str" mPartF (eBM "str" mLstripC (eSl (eLoc 1) (eInt (eBlt bLen (eCons (eK (.str "layer ")) eNil))) (eK .non)) (eCons (eK (.str " ")) eNil)) (eCons (eK (.str " ")) eNil)))
    (eSeq (eIfS (eAnd (eBin oEq (eBlt bLen (eCons (eLoc 2) eNil)) (eK (.int 1))) (eBin oIn (eLoc 2) (eK (.str "0123456789")))) (eRet (eTup (eCons (eBlt bIntX (eCons (eLoc 2) eNil)) (eCons (eLoc 4) eNil)))) eEnd)
    (eRet (eTup (eCons (eK (.int 0)) (eCons (eLoc 1) eNil))))))))
theorem ok68 {nF : Nat} (T : Txt P G D mg) (hx : G.xs = none ∧ G.xd = none) (A : Al P w mg base G k D cl) (u : DefAt G.K "layer_of" (top 42) (D 68) fd) :
    FnG G.dty P w G.K mg base (k + 2) (D 68) fd ["text"] (spC G (["text"] : List Str).length (fnOf (["text"] : List Str).length (["text", "rest", "digit", "sign", "behind"] : List Str).length (b68 cl nF))) := by
  refine fn_ok (G := G) (P := P) (w := w) (K := G.K) (mg := mg) (base := base) (qual := "layer_of") (st := (top 42)) (f := D 68) (fd := fd) (N := ["text", "rest", "digit", "sign", "behind"]) (ps := ["text"]) (k := k + 1) (body := b68 cl nF) u sc68 (by decide) hx ?_
  intro cdv Ar outer s H E gd hr
  have F := fit_of (G := G) (k := k + 1) (P := P) (w := w) (mg := mg) (base := base) (N := ["text", "rest", "digit", "sign", "behind"]) (qual := "layer_of") (st := (top 42)) (f := D 68) (cdv := cdv) (A := Ar) (outer := outer) (s := s) (H := H) (E := E) rfl hx.1 gd hr
  exact (b_cons (v_set 1 (s_bm F PySem.F.plainAttrs_str PySem.F.slot_str_lstrip PySem.F.type_str_lstrip m_lstripC (s_loc 0) (a_cons s_str a_nil)) sc68.nd)
    (b_cons (v_if (t_not (t_val (s_bm F PySem.F.plainAttrs_str PySem.F.slot_str_startswith PySem.F.type_str_startswith m_starts (s_loc 1) (a_cons s_str a_nil)))) (b_one (v_ret (s_tup (a_cons s_int (a_cons (s_loc 1) a_nil))))) b_end)
    (b_cons (v_asg (s_bm F PySem.F.plainAttrs_str PySem.F.slot_str_partition PySem.F.type_str_partition m_partF (s_bm F PySem.F.plainAttrs_str PySem.F.slot_str_lstrip PySem.F.type_str_lstrip m_lstripC (s_sl F (s_loc 1) (o_some (s_blt (c_len F.K) T.b_len PySem.boot_len (a_cons s_str a_nil))) o_none) (a_cons s_str a_nil)) (a_cons s_str a_nil)) (g_tup F (gs_cons 2 (gs_cons 3 (gs_cons 4 gs_nil sc68.nd) sc68.nd) sc68.nd)))
    (b_cons (v_if (t_p (p_and (t_cmp (so_eq F) (s_blt (c_len F.K) T.b_len PySem.boot_len (a_cons (s_loc 2) a_nil)) s_int) (p_and1 (t_cmp (so_in F) (s_loc 2) (s_glob (w := (.str "0123456789")) (v := (.str "0123456789")) T.c_DIGITS.choose_spec.1 T.c_DIGITS.choose_spec.2 (fun _ _ _ => .str _)))))) (b_one (v_ret (s_tup (a_cons (s_blty c_intX T.b_int (by decide +kernel) (a_cons (s_loc 2) a_nil)) (a_cons (s_loc 4) a_nil))))) b_end)
    (b_one (v_ret (s_tup (a_cons s_int (a_cons (s_loc 1) a_nil)))))))))
theorem sc69 : FnScope ["line", "heads", "head", "sign", "body", "layer", "text", "selectors", "declarations", "names", "part", "declaration", "one"] ["line", "heads"] (defScope (top 43)) := ⟨rfl, rfl, rfl, by decide +kernel, rfl, by decide +kernel, by decide +kernel⟩
def b69 (cl : Nat → Fn) (nF : Nat) : Ev :=
  (eSeq (eAsg (gT [2, 3, 4]) (eBM "str" mPartF (eLoc 0) (eCons (eK (.str "{")) eNil)))
    (eSeq (eAsg (gN 4) (eBM "str" mRstripC (eLoc 4) (eCons (eK (.str " ")) eNil)))
    (eSeq (eIfS (eNot (eBM "str" mEnds (eLoc 4) (eCons (eK (.str "}")) eNil))) (eRet (eK .non)) eEnd)
    (eSeq (eAsg (gT [5, 6]) (eCall (cl 68) [] (eCons (eLoc 2) eNil)))
    (eSeq (eAsg (gN 7) (eCall (cl 67) [] (eCons (eLoc 6) eNil)))
    (eSeq (eAsg (gN 8) (eLc nF (iL (eBM "str" mSplitF (eSl (eLoc 4) (eK .non) (eInt (eNeg (eK (.int 1))))) (eCons (eK (.str ";")) eNil))) [10] (gN 10) eYes (eCall (cl 66) [] (eCons (eLoc 10) (eCons (eLoc 1) eNil)))))
    (eSeq (eIfS (eBin oIn (eK .non) (eLoc 8)) (eRet (eK .non)) eEnd)
    (eSeq (eAsg (gN 9) (eLc nF (iL (eLoc 8)) [11] (gN 11) eYes (eBin oIx (eLoc 11) (eK (.int 0)))))
    (eSeq (eIfS (eOr (eBin oLt (eLenSet (eLoc 9)) (eBlt bLen (eCons (eLoc 9) eNil))) (eBin oGt (eBlt bMaxX (eCons (eLc nF (iT (eLoc 7)) [12] (gN 12) eYes (eMethS 11 (cl 48) [] (eLoc 12) eNil)) eNil)) (eK (.int 12)))) (eRet (eK .non)) eEnd)
    (eRet (eNew true 15 (cl 63) [] (eCons (eLoc 5) (eCons (eLoc 7) (eCons (eBlt bTuple (eCons (eLoc 8) eNil)) eNil))))))))))))))
theorem ok69 {nF : Nat} (T : Txt P G D mg) (hx : G.xs = none ∧ G.xd = none) (A : Al P w mg base G k D cl) (u : DefAt G.K "read_rule" (top 43) (D 69) fd) :
    FnG G.dty P w G.K mg base (k + 2) (D 69) fd ["line", "heads"] (spC G (["line", "heads"] : List Str).length (fnOf (["line", "heads"] : List Str).length (["line", "heads", "head", "sign", "body", "layer", "text", "selectors", "declarations", "names", "part", "declaration", "one"] : List Str).length (b69 cl nF))) := by
  refine fn_ok (G := G) (P := P) (w := w) (K := G.K) (mg := mg) (base := base) (qual := "read_rule") (st := (top 43)) (f := D 69) (fd := fd) (N := ["line", "heads", "head", "sign", "body", "layer", "text", "selectors", "declarations", "names", "part", "declaration", "one"]) (ps := ["line", "heads"]) (k := k + 1) (body := b69 cl nF) u sc69 (by decide) hx ?_
  intro cdv Ar outer s H E gd hr
  have F := fit_of (G := G) (k := k + 1) (P := P) (w := w) (mg := mg) (base := base) (N := ["line", "heads", "head", "sign", "body", "layer", "text", "selectors", "declarations", "names", "part", "declaration", "one"]) (qual := "read_rule") (st := (top 43)) (f := D 69) (cdv := cdv) (A := Ar) (outer := outer) (s := s) (H := H) (E := E) rfl hx.1 gd hr
  exact (b_cons (v_asg (s_bm F PySem.F.plainAttrs_str PySem.F.slot_str_partition PySem.F.type_str_partition m_partF (s_loc 0) (a_cons s_str a_nil)) (g_tup F (gs_cons 2 (gs_cons 3 (gs_cons 4 gs_nil sc69.nd) sc69.nd) sc69.nd)))
    (b_cons (v_set 4 (s_bm F PySem.F.plainAttrs_str PySem.F.slot_str_rstrip PySem.F.type_str_rstrip m_rstripC (s_loc 4) (a_cons s_str a_nil)) sc69.nd)
    (b_cons (v_if (t_not (t_val (s_bm F PySem.F.plainAttrs_str PySem.F.slot_str_endswith PySem.F.type_str_endswith m_ends (s_loc 4) (a_cons s_str a_nil)))) (b_one (v_ret s_non)) b_end)
    (b_cons (v_asg (s_call F A.f68.up T.g_layer_of T.k68 (a_cons (s_loc 2) a_nil)) (g_tup F (gs_cons 5 (gs_cons 6 gs_nil sc69.nd) sc69.nd)))
    (b_cons (v_set 7 (s_call F A.f67.up T.g_read_selectors T.k67 (a_cons (s_loc 6) a_nil)) sc69.nd)
    (b_cons (v_setLc nF 8 F sc69.nd (sw_true rfl rfl rfl (by decide +kernel)) (i_list F (s_bm F PySem.F.plainAttrs_str PySem.F.slot_str_split PySem.F.type_str_split m_splitF (s_sl F (s_loc 4) o_none (o_some (s_neg s_int))) (a_cons s_str a_nil))) (own := [("part", 10)]) (blkOk_by rfl) (fun _ _ _ _ _ => (gw_name 10 sc69.nd)) (fun _ _ _ _ _ => ts_nil) (fun _ _ _ _ _ => (s_call (Fit.blk F) A.f66.up T.g_read_declaration T.k66 (a_cons (s_loc 10) (a_cons (s_loc 1) a_nil)))))
    (b_cons (v_if (t_cmp (so_in F) s_non (s_loc 8)) (b_one (v_ret s_non)) b_end)
    (b_cons (v_setLc nF 9 F sc69.nd (sw_true rfl rfl rfl (by decide +kernel)) (i_list F (s_loc 8)) (own := [("declaration", 11)]) (blkOk_by rfl) (fun _ _ _ _ _ => (gw_name 11 sc69.nd)) (fun _ _ _ _ _ => ts_nil) (fun _ _ _ _ _ => (s_ix (Fit.blk F) (s_loc 11) s_int)))
    (b_cons (v_if (t_p (p_or (t_cmp so_lt (s_lenSet F T.b_len T.b_set (s_loc 9)) (s_blt (c_len F.K) T.b_len PySem.boot_len (a_cons (s_loc 9) a_nil))) (p_or1 (t_cmp so_gt (s_blt (c_maxX F) T.b_max (by decide +kernel) (a_cons (s_lc nF F sc69.nd (i_tup F (s_loc 7)) (own := [("one", 12)]) (blkOk_by rfl) (fun _ _ _ _ _ => (gw_name 12 sc69.nd)) (fun _ _ _ _ _ => ts_nil) (fun _ _ _ _ _ => (s_methS0 (Fit.blk F) ⟨_, T.sc11, T.me11_compound_total, A.f48.up⟩ (s_loc 12)))) a_nil)) (s_glob (w := (.int 12)) (v := (.int 12)) T.c_MOST_COMPOUNDS.choose_spec.1 T.c_MOST_COMPOUNDS.choose_spec.2 (fun _ _ _ => .int _)))))) (b_one (v_ret s_non)) b_end)
    (b_one (v_ret (s_new F T.mk15 A.f63 T.gc15 (a_cons (s_loc 5) (a_cons (s_loc 7) (a_cons (s_blty (c_tuple F.K) T.b_tuple (by decide +kernel) (a_cons (s_loc 8) a_nil)) a_nil)))))))))))))))
theorem sc70 : FnScope ["text", "heads", "rules", "number", "line", "found", "head", "rule"] ["text"] (defScope (top 44)) := ⟨rfl, rfl, rfl, by decide +kernel, rfl, by decide +kernel, by decide +kernel⟩
def q70_0 (cl : Nat → Fn) (nF : Nat) : Ev :=
  (eSeq (eIfS (eBin oEq (eBM "str" mStripC (eLoc 4) (eCons (eK (.str " ")) eNil)) (eK (.str ""))) eCnt eEnd)
    (eSeq (eTryR texm2 (eAsg (gN 5) (eIf (eBin oIn (eK (.str "{")) (eLoc 4)) (eCall (cl 69) [] (eCons (eLoc 4) (eCons (eLoc 1) eNil))) (eK .non))) 1 (eBin oAddN (eLoc 3) (eK (.int 1))))
    (eSeq (eIfS (eBin oNotN (eLoc 5) (eK .non)) (eSeq (eDrop (eBM "list" mAppend (eLoc 2) (eCons (eLoc 5) eNil)))
    eCnt) eEnd)
    (eSeq (eAsg (gN 6) (eIf (eBin oEq (eLoc 2) (eLst eNil)) (eCall (cl 64) [] (eCons (eLoc 4) (eCons (eLoc 1) eNil))) (eK .non)))
    (eSeq (eIfS (eBin oIsN (eLoc 6) (eK .non)) (eRaise 1 (eBin oAdd (eLoc 3) (eK (.int 1)))) eEnd)
    (eDrop (eBM "list" mAppend (eLoc 1) (eCons (eLoc 6) eNil))))))))
def q70_1 (cl : Nat → Fn) (nF : Nat) : Ev :=
  (eSeq (eIfS (eBin oGt (eBlt bSum (eCons (eLc nF (iL (eLoc 2)) [7] (gN 7) eYes (eBlt bLen (eCons (eSlot 15 2 (eLoc 7)) eNil))) eNil)) (eK (.int 24))) (eRaise 4 (eK (.int 24))) eEnd)
    (eSeq (eIfS (eBin oGt (eBlt bSum (eCons (eLc nF (iL (eLoc 2)) [7] (gN 7) eYes (eBlt bLen (eCons (eSlot 15 0 (eLoc 7)) eNil))) eNil)) (eK (.int 24))) (eRaise 4 (eK (.int 24))) eEnd)
    (eRet (eNew true 16 (cl 73) [] (eCons (eLoc 1) (eCons (eLoc 2) eNil))))))
def b70 (cl : Nat → Fn) (nF : Nat) : Ev :=
  (eSeq (eIfS (eNot (eIsi is_str (eLoc 0))) (eRaise 1 (eK .non)) eEnd)
    (eSeq (eAsg (gN 1) (eLst eNil))
    (eSeq (eAsg (gN 2) (eLst eNil))
    (eSeq (eFor nF (iE (eCons (eBM "str" mSplitF (eLoc 0) (eCons (eK (.str "\n")) eNil)) eNil)) (gT [3, 4])
    (q70_0 cl nF))
    (q70_1 cl nF)))))
theorem ok70 {nF : Nat} (T : Txt P G D mg) (hx : G.xs = none ∧ G.xd = none) (A : Al P w mg base G k D cl) (u : DefAt G.K "parse_sheet" (top 44) (D 70) fd) :
    FnG G.dty P w G.K mg base (k + 2) (D 70) fd ["text"] (spC G (["text"] : List Str).length (fnOf (["text"] : List Str).length (["text", "heads", "rules", "number", "line", "found", "head", "rule"] : List Str).length (b70 cl nF))) := by
  refine fn_ok (G := G) (P := P) (w := w) (K := G.K) (mg := mg) (base := base) (qual := "parse_sheet") (st := (top 44)) (f := D 70) (fd := fd) (N := ["text", "heads", "rules", "number", "line", "found", "head", "rule"]) (ps := ["text"]) (k := k + 1) (body := b70 cl nF) u sc70 (by decide) hx ?_
  intro cdv Ar outer s H E gd hr
  have F := fit_of (G := G) (k := k + 1) (P := P) (w := w) (mg := mg) (base := base) (N := ["text", "heads", "rules", "number", "line", "found", "head", "rule"]) (qual := "parse_sheet") (st := (top 44)) (f := D 70) (cdv := cdv) (A := Ar) (outer := outer) (s := s) (H := H) (E := E) rfl hx.1 gd hr
  exact (b_cons (v_if (t_not (t_val (s_isi (T := "str") F.lit his_str (s_loc 0) T.b_isinstance T.b_str (by decide +kernel)))) (b_one (v_raise F T.x1 s_non)) b_end)
    (b_cons (v_set 1 (s_lst a_nil) sc70.nd)
    (b_cons (v_set 2 (s_lst a_nil) sc70.nd)
    (b_cons (v_for nF F (i_enum F T.b_enumerate (a_cons (s_bm F PySem.F.plainAttrs_str PySem.F.slot_str_split PySem.F.type_str_split m_splitF (s_loc 0) (a_cons s_str a_nil)) a_nil)) (g_tup F (gs_cons 3 (gs_cons 4 gs_nil sc70.nd) sc70.nd))
    (b_cons (v_if (t_cmp (so_eq F) (s_bm F PySem.F.plainAttrs_str PySem.F.slot_str_strip PySem.F.type_str_strip m_stripC (s_loc 4) (a_cons s_str a_nil)) s_str) (b_one v_cnt) b_end)
    (b_cons (v_tryRN F T.tc ⟨rfl, by decide, .inl T.gc2⟩ (T.exm2) (T.exm2 _ _ (by decide)) T.x1 (fun _ _ _ F => (b_one (v_set 5 (s_if (t_cmp (so_in F) s_str (s_loc 4)) (s_call F A.f69.up T.g_read_rule T.k69 (a_cons (s_loc 4) (a_cons (s_loc 1) a_nil))) s_non) sc70.nd))) (fun _ _ _ => (s_bin so_addN (s_loc 3) s_int)))
    (b_cons (v_if (t_cmp so_notN (s_loc 5) s_non) (b_cons (v_drop (s_bm F PySem.F.plainAttrs_list PySem.F.slot_list_append PySem.F.type_list_append m_append (s_loc 2) (a_cons (s_loc 5) a_nil)))
    (b_one v_cnt)) b_end)
    (b_cons (v_set 6 (s_if (t_cmp (so_eq F) (s_loc 2) (s_lst a_nil)) (s_call F A.f64.up T.g_read_property T.k64 (a_cons (s_loc 4) (a_cons (s_loc 1) a_nil))) s_non) sc70.nd)
    (b_cons (v_if (t_cmp so_isN (s_loc 6) s_non) (b_one (v_raise F T.x1 (s_bin (so_add F) (s_loc 3) s_int))) b_end)
    (b_one (v_drop (s_bm F PySem.F.plainAttrs_list PySem.F.slot_list_append PySem.F.type_list_append m_append (s_loc 1) (a_cons (s_loc 6) a_nil))))))))))
    (b_cons (v_if (t_cmp so_gt (s_blt (c_sum F) T.b_sum (by decide +kernel) (a_cons (s_lc nF F sc70.nd (i_list F (s_loc 2)) (own := [("rule", 7)]) (blkOk_by rfl) (fun _ _ _ _ _ => (gw_name 7 sc70.nd)) (fun _ _ _ _ _ => ts_nil) (fun _ _ _ _ _ => (s_blt (c_len (Fit.blk F).K) T.b_len PySem.boot_len (a_cons (s_slot (Fit.blk F) ⟨T.sc15, T.s15_selectors⟩ (s_loc 7)) a_nil)))) a_nil)) (s_glob (w := (.int 24)) (v := (.int 24)) T.c_MOST_ROWS.choose_spec.1 T.c_MOST_ROWS.choose_spec.2 (fun _ _ _ => .int _))) (b_one (v_raise F T.x4 (s_glob (w := (.int 24)) (v := (.int 24)) T.c_MOST_ROWS.choose_spec.1 T.c_MOST_ROWS.choose_spec.2 (fun _ _ _ => .int _)))) b_end)
    (b_cons (v_if (t_cmp so_gt (s_blt (c_sum F) T.b_sum (by decide +kernel) (a_cons (s_lc nF F sc70.nd (i_list F (s_loc 2)) (own := [("rule", 7)]) (blkOk_by rfl) (fun _ _ _ _ _ => (gw_name 7 sc70.nd)) (fun _ _ _ _ _ => ts_nil) (fun _ _ _ _ _ => (s_blt (c_len (Fit.blk F).K) T.b_len PySem.boot_len (a_cons (s_slot (Fit.blk F) ⟨T.sc15, T.s15_declarations⟩ (s_loc 7)) a_nil)))) a_nil)) (s_glob (w := (.int 24)) (v := (.int 24)) T.c_MOST_ROWS.choose_spec.1 T.c_MOST_ROWS.choose_spec.2 (fun _ _ _ => .int _))) (b_one (v_raise F T.x4 (s_glob (w := (.int 24)) (v := (.int 24)) T.c_MOST_ROWS.choose_spec.1 T.c_MOST_ROWS.choose_spec.2 (fun _ _ _ => .int _)))) b_end)
    (b_one (v_ret (s_new F T.mk16 A.f73 T.gc16 (a_cons (s_loc 1) (a_cons (s_loc 2) a_nil)))))))))))
theorem sc71 : FnScope ["rule", "head", "selectors", "rows", "name", "value", "is_strong", "sign", "selector"] ["rule"] (defScope (top 45)) := ⟨rfl, rfl, rfl, by decide +kernel, rfl, by decide +kernel, by decide +kernel⟩
def b71 (cl : Nat → Fn) (nF : Nat) : Ev :=
  (eSeq (eAsg (gN 1) (eIf (eBin oNe (eSlot 15 1 (eLoc 0)) (eK (.int 0))) (eJs [(eK (.str "layer ")), (eFmt (eSlot 15 1 (eLoc 0))), (eK (.str " "))] Str.empty) (eK (.str ""))))
    (eSeq (eAsg (gN 2) (eBM "str" mJoin (eK (.str ", ")) (eCons (eLc nF (iT (eSlot 15 2 (eLoc 0))) [8] (gN 8) eYes (eProp 11 (cl 46) (eLoc 8))) eNil)))
    (eSeq (eAsg (gN 3) (eLst eNil))
    (eSeq (eFor nF (iT (eSlot 15 0 (eLoc 0))) (gT [4, 5, 6])
    (eSeq (eAsg (gN 7) (eIf (eLoc 6) (eK (.str "!")) (eK (.str ""))))
    (eDrop (eBM "list" mAppend (eLoc 3) (eCons (eJs [(eFmt (eLoc 4)), (eFmt (eLoc 7)), (eK (.str ": ")), (eFmt (eLoc 5))] Str.empty) eNil)))))
    (eRet (eBin oAdd (eBin oAdd (eBin oAdd (eBin oAdd (eLoc 1) (eLoc 2)) (eK (.str " { "))) (eBM "str" mJoin (eK (.str "; ")) (eCons (eLoc 3) eNil))) (eK (.str " }"))))))))
theorem ok71 {nF : Nat} (T : Txt P G D mg) (hx : G.xs = none ∧ G.xd = none) (A : Al P w mg base G k D cl) (u : DefAt G.K "rule_text" (top 45) (D 71) fd) :
    FnG G.dty P w G.K mg base (k + 2) (D 71) fd ["rule"] (spC G (["rule"] : List Str).length (fnOf (["rule"] : List Str).length (["rule", "head", "selectors", "rows", "name", "value", "is_strong", "sign", "selector"] : List Str).length (b71 cl nF))) := by
  refine fn_ok (G := G) (P := P) (w := w) (K := G.K) (mg := mg) (base := base) (qual := "rule_text") (st := (top 45)) (f := D 71) (fd := fd) (N := ["rule", "head", "selectors", "rows", "name", "value", "is_strong", "sign", "selector"]) (ps := ["rule"]) (k := k + 1) (body := b71 cl nF) u sc71 (by decide) hx ?_
  intro cdv Ar outer s H E gd hr
  have F := fit_of (G := G) (k := k + 1) (P := P) (w := w) (mg := mg) (base := base) (N := ["rule", "head", "selectors", "rows", "name", "value", "is_strong", "sign", "selector"]) (qual := "rule_text") (st := (top 45)) (f := D 71) (cdv := cdv) (A := Ar) (outer := outer) (s := s) (H := H) (E := E) rfl hx.1 gd hr
  exact (b_cons (v_set 1 (s_if (t_cmp (so_ne F) (s_slot F ⟨T.sc15, T.s15_layer⟩ (s_loc 0)) s_int) (s_joined (SJ.cons s_str (SJ.cons (s_fmt (s_slot F ⟨T.sc15, T.s15_layer⟩ (s_loc 0))) (SJ.cons s_str SJ.nil)))) s_str) sc71.nd)
    (b_cons (v_set 2 (s_bm F PySem.F.plainAttrs_str PySem.F.slot_str_join PySem.F.type_str_join (m_join F.K) s_str (a_cons (s_lc nF F sc71.nd (i_tup F (s_slot F ⟨T.sc15, T.s15_selectors⟩ (s_loc 0))) (own := [("selector", 8)]) (blkOk_by rfl) (fun _ _ _ _ _ => (gw_name 8 sc71.nd)) (fun _ _ _ _ _ => ts_nil) (fun _ _ _ _ _ => (s_prop (Fit.blk F) ⟨T.sc11, T.pr11_text⟩ A.f46 (s_loc 8)))) a_nil)) sc71.nd)
    (b_cons (v_set 3 (s_lst a_nil) sc71.nd)
    (b_cons (v_for nF F (i_tup F (s_slot F ⟨T.sc15, T.s15_declarations⟩ (s_loc 0))) (g_tup F (gs_cons 4 (gs_cons 5 (gs_cons 6 gs_nil sc71.nd) sc71.nd) sc71.nd))
    (b_cons (v_set 7 (s_if (t_val (s_loc 6)) s_str s_str) sc71.nd)
    (b_one (v_drop (s_bm F PySem.F.plainAttrs_list PySem.F.slot_list_append PySem.F.type_list_append m_append (s_loc 3) (a_cons (s_joined (SJ.cons (s_fmt (s_loc 4)) (SJ.cons (s_fmt (s_loc 7)) (SJ.cons s_str (SJ.cons (s_fmt (s_loc 5)) SJ.nil))))) a_nil))))))
    (b_one (v_ret (s_bin (so_add F) (s_bin (so_add F) (s_bin (so_add F) (s_bin (so_add F) (s_loc 1) (s_loc 2)) s_str) (s_bm F PySem.F.plainAttrs_str PySem.F.slot_str_join PySem.F.type_str_join (m_join F.K) s_str (a_cons (s_loc 3) a_nil))) s_str)))))))
theorem sc72 : FnScope ["head"] ["head"] (defScope (top 46)) := ⟨rfl, rfl, rfl, by decide +kernel, rfl, by decide +kernel, by decide +kernel⟩
def b72 (cl : Nat → Fn) (nF : Nat) : Ev :=
  (eRet (eIf (eBin oIsN (eSlot 14 0 (eLoc 0)) (eK .non)) (eJs [(eFmt (eSlot 14 2 (eLoc 0))), (eK (.str " ")), (eFmt (eSlot 14 1 (eLoc 0)))] Str.empty) (eJs [(eFmt (eSlot 14 2 (eLoc 0))), (eK (.str " ")), (eFmt (eSlot 14 1 (eLoc 0))), (eK (.str " ")), (eFmt (eSlot 14 0 (eLoc 0)))] Str.empty)))
theorem ok72 {nF : Nat} (T : Txt P G D mg) (hx : G.xs = none ∧ G.xd = none) (A : Al P w mg base G k D cl) (u : DefAt G.K "head_text" (top 46) (D 72) fd) :
    FnG G.dty P w G.K mg base (k + 2) (D 72) fd ["head"] (spC G (["head"] : List Str).length (fnOf (["head"] : List Str).length (["head"] : List Str).length (b72 cl nF))) := by
  refine fn_ok (G := G) (P := P) (w := w) (K := G.K) (mg := mg) (base := base) (qual := "head_text") (st := (top 46)) (f := D 72) (fd := fd) (N := ["head"]) (ps := ["head"]) (k := k + 1) (body := b72 cl nF) u sc72 (by decide) hx ?_
  intro cdv Ar outer s H E gd hr
  have F := fit_of (G := G) (k := k + 1) (P := P) (w := w) (mg := mg) (base := base) (N := ["head"]) (qual := "head_text") (st := (top 46)) (f := D 72) (cdv := cdv) (A := Ar) (outer := outer) (s := s) (H := H) (E := E) rfl hx.1 gd hr
  exact (b_one (v_ret (s_if (t_cmp so_isN (s_slot F ⟨T.sc14, T.s14_default⟩ (s_loc 0)) s_non) (s_joined (SJ.cons (s_fmt (s_slot F ⟨T.sc14, T.s14_word⟩ (s_loc 0))) (SJ.cons s_str (SJ.cons (s_fmt (s_slot F ⟨T.sc14, T.s14_name⟩ (s_loc 0))) SJ.nil)))) (s_joined (SJ.cons (s_fmt (s_slot F ⟨T.sc14, T.s14_word⟩ (s_loc 0))) (SJ.cons s_str (SJ.cons (s_fmt (s_slot F ⟨T.sc14, T.s14_name⟩ (s_loc 0))) (SJ.cons s_str (SJ.cons (s_fmt (s_slot F ⟨T.sc14, T.s14_default⟩ (s_loc 0))) SJ.nil)))))))))
theorem sc73 : FnScope ["self", "heads", "entries", "head", "rule"] ["self", "heads", "entries"] (defScope (inClass (top 47) 1)) := ⟨rfl, rfl, rfl, by decide +kernel, rfl, by decide +kernel, by decide +kernel⟩
def b73 (cl : Nat → Fn) (nF : Nat) : Ev :=
  (eSeq (eSetS 16 1 (eLoc 0) (eLoc 1))
    (eSeq (eSetS 16 0 (eLoc 0) (eLoc 2))
    (eSetS 16 2 (eLoc 0) (eBM "str" mJoin (eK (.str "\n")) (eCons (eBin oAdd (eLc nF (iL (eLoc 1)) [3] (gN 3) eYes (eCall (cl 72) [] (eCons (eLoc 3) eNil))) (eLc nF (iL (eLoc 2)) [4] (gN 4) eYes (eCall (cl 71) [] (eCons (eLoc 4) eNil)))) eNil)))))
theorem ok73 {nF : Nat} (T : Txt P G D mg) (hx : G.xs = none ∧ G.xd = none) (A : Al P w mg base G k D cl) (u : DefAt G.K "Sheet.__init__" (inClass (top 47) 1) (D 73) fd) :
    FnG G.dty P w G.K mg base (k + 2) (D 73) fd ["self", "heads", "entries"] (spC G (["self", "heads", "entries"] : List Str).length (fnOf (["self", "heads", "entries"] : List Str).length (["self", "heads", "entries", "head", "rule"] : List Str).length (b73 cl nF))) := by
  refine fn_ok (G := G) (P := P) (w := w) (K := G.K) (mg := mg) (base := base) (qual := "Sheet.__init__") (st := (inClass (top 47) 1)) (f := D 73) (fd := fd) (N := ["self", "heads", "entries", "head", "rule"]) (ps := ["self", "heads", "entries"]) (k := k + 1) (body := b73 cl nF) u sc73 (by decide) hx ?_
  intro cdv Ar outer s H E gd hr
  have F := fit_of (G := G) (k := k + 1) (P := P) (w := w) (mg := mg) (base := base) (N := ["self", "heads", "entries", "head", "rule"]) (qual := "Sheet.__init__") (st := (inClass (top 47) 1)) (f := D 73) (cdv := cdv) (A := Ar) (outer := outer) (s := s) (H := H) (E := E) rfl hx.1 gd hr
  exact (b_cons (v_setS F ⟨T.sc16, T.s16_heads⟩ (s_loc 0) (s_loc 1))
    (b_cons (v_setS F ⟨T.sc16, T.s16_entries⟩ (s_loc 0) (s_loc 2))
    (b_one (v_setS F ⟨T.sc16, T.s16_written⟩ (s_loc 0) (s_bm F PySem.F.plainAttrs_str PySem.F.slot_str_join PySem.F.type_str_join (m_join F.K) s_str (a_cons (s_bin (so_add F) (s_lc nF F sc73.nd (i_list F (s_loc 1)) (own := [("head", 3)]) (blkOk_by rfl) (fun _ _ _ _ _ => (gw_name 3 sc73.nd)) (fun _ _ _ _ _ => ts_nil) (fun _ _ _ _ _ => (s_call (Fit.blk F) A.f72.up T.g_head_text T.k72 (a_cons (s_loc 3) a_nil)))) (s_lc nF F sc73.nd (i_list F (s_loc 2)) (own := [("rule", 4)]) (blkOk_by rfl) (fun _ _ _ _ _ => (gw_name 4 sc73.nd)) (fun _ _ _ _ _ => ts_nil) (fun _ _ _ _ _ => (s_call (Fit.blk F) A.f71.up T.g_rule_text T.k71 (a_cons (s_loc 4) a_nil))))) a_nil))))))
theorem sc81 : FnScope ["_law_script", "_law_k", "_law_cell", "_law_number", "_law_mixed"] ["_law_script", "_law_k"] (defScope (top 49)) := ⟨rfl, rfl, rfl, by decide +kernel, rfl, by decide +kernel, by decide +kernel⟩
def b81 (cl : Nat → Fn) (nF : Nat) : Ev :=
  (eSeq (eAsg (gN 2) (eBin oIx (eBin oAdd (eSl (eLoc 0) (eInt (eLoc 1)) (eInt (eBin oAdd (eLoc 1) (eK (.int 1))))) (eLst (eCons (eK (.int 0)) eNil))) (eK (.int 0))))
    (eSeq (eAsg (gN 3) (eIf (eBin oGe (eLoc 2) (eK (.int 0))) (eLoc 2) (eBin oSub (eNeg (eK (.int 1))) (eLoc 2))))
    (eSeq (eAsg (gN 4) (eBin oMod (eBin oMulX (eBlt bIntX (eCons (eBin oAdd (eBin oAdd (eBin oAdd (eBin oMod (eLoc 3) (eK (.int 2147483629))) (eBin oMulX (eBin oMulX (eK (.int 7919)) (eLoc 1)) (eLoc 1))) (eBin oMulX (eK (.int 31)) (eLoc 1))) (eK (.int 17))) eNil)) (eK (.int 48271))) (eK (.int 2147483647))))
    (eRet (eLst (eCons (eBin oMulX (eLoc 3) (eBlt bIntX (eCons (eBin oGe (eLoc 3) (eBin oPow (eK (.int 10)) (eK (.int 18)))) eNil))) (eCons (eBin oMod (eBin oMulX (eLoc 4) (eLoc 4)) (eK (.int 2147483629))) eNil)))))))
theorem ok81 {nF : Nat} (T : Txt P G D mg) (hx : G.xs = none ∧ G.xd = none) (A : Al P w mg base G k D cl) (u : DefAt G.K "_law_pool" (top 49) (D 81) fd) :
    FnG G.dty P w G.K mg base (k + 2) (D 81) fd ["_law_script", "_law_k"] (spC G (["_law_script", "_law_k"] : List Str).length (fnOf (["_law_script", "_law_k"] : List Str).length (["_law_script", "_law_k", "_law_cell", "_law_number", "_law_mixed"] : List Str).length (b81 cl nF))) := by
  refine fn_ok (G := G) (P := P) (w := w) (K := G.K) (mg := mg) (base := base) (qual := "_law_pool") (st := (top 49)) (f := D 81) (fd := fd) (N := ["_law_script", "_law_k", "_law_cell", "_law_number", "_law_mixed"]) (ps := ["_law_script", "_law_k"]) (k := k + 1) (body := b81 cl nF) u sc81 (by decide) hx ?_
  intro cdv Ar outer s H E gd hr
  have F := fit_of (G := G) (k := k + 1) (P := P) (w := w) (mg := mg) (base := base) (N := ["_law_script", "_law_k", "_law_cell", "_law_number", "_law_mixed"]) (qual := "_law_pool") (st := (top 49)) (f := D 81) (cdv := cdv) (A := Ar) (outer := outer) (s := s) (H := H) (E := E) rfl hx.1 gd hr
  exact (b_cons (v_set 2 (s_ix F (s_bin (so_add F) (s_sl F (s_loc 0) (o_some (s_loc 1)) (o_some (s_bin (so_add F) (s_loc 1) s_int))) (s_lst (a_cons s_int a_nil))) s_int) sc81.nd)
    (b_cons (v_set 3 (s_if (t_cmp so_ge (s_loc 2) s_int) (s_loc 2) (s_bin so_sub (s_neg s_int) (s_loc 2))) sc81.nd)
    (b_cons (v_set 4 (s_bin so_mod (s_bin so_mulX (s_blty c_intX T.b_int (by decide +kernel) (a_cons (s_bin (so_add F) (s_bin (so_add F) (s_bin (so_add F) (s_bin so_mod (s_loc 3) s_int) (s_bin so_mulX (s_bin so_mulX s_int (s_loc 1)) (s_loc 1))) (s_bin so_mulX s_int (s_loc 1))) s_int) a_nil)) s_int) s_int) sc81.nd)
    (b_one (v_ret (s_lst (a_cons (s_bin so_mulX (s_loc 3) (s_blty c_intX T.b_int (by decide +kernel) (a_cons (s_cmp so_ge (s_loc 3) (s_bin so_pow s_int s_int)) a_nil))) (a_cons (s_bin so_mod (s_bin so_mulX (s_loc 4) (s_loc 4)) s_int) a_nil))))))))
theorem sc82 : FnScope ["_law_pool_here", "_law_many", "_law_digit"] ["_law_pool_here", "_law_many"] (defScope (top 50)) := ⟨rfl, rfl, rfl, by decide +kernel, rfl, by decide +kernel, by decide +kernel⟩
def b82 (cl : Nat → Fn) (nF : Nat) : Ev :=
  (eSeq (eIfS (eBin oGt (eBin oIx (eLoc 0) (eK (.int 0))) (eK (.int 0))) (eSeq (eAsg (gN 2) (eBin oMod (eBlt bIntX (eCons (eBin oIx (eLoc 0) (eK (.int 0))) eNil)) (eLoc 1)))
    (eSeq (eSetI (eLoc 0) (eK (.int 0)) (eBin oDiv (eBin oIx (eLoc 0) (eK (.int 0))) (eLoc 1)))
    (eRet (eLoc 2)))) eEnd)
    (eSeq (eSetI (eLoc 0) (eK (.int 1)) (eBin oMod (eBlt bIntX (eCons (eBin oAdd (eBin oMulX (eBin oIx (eLoc 0) (eK (.int 1))) (eK (.int 48271))) (eK (.int 12345))) eNil)) (eK (.int 2147483647))))
    (eRet (eBin oMod (eBin oDiv (eBin oMod (eBlt bIntX (eCons (eBin oMulX (eBin oIx (eLoc 0) (eK (.int 1))) (eBin oIx (eLoc 0) (eK (.int 1)))) eNil)) (eK (.int 2147483629))) (eK (.int 64))) (eLoc 1)))))
theorem ok82 {nF : Nat} (T : Txt P G D mg) (hx : G.xs = none ∧ G.xd = none) (A : Al P w mg base G k D cl) (u : DefAt G.K "_law_take" (top 50) (D 82) fd) :
    FnG G.dty P w G.K mg base (k + 2) (D 82) fd ["_law_pool_here", "_law_many"] (spC G (["_law_pool_here", "_law_many"] : List Str).length (fnOf (["_law_pool_here", "_law_many"] : List Str).length (["_law_pool_here", "_law_many", "_law_digit"] : List Str).length (b82 cl nF))) := by
  refine fn_ok (G := G) (P := P) (w := w) (K := G.K) (mg := mg) (base := base) (qual := "_law_take") (st := (top 50)) (f := D 82) (fd := fd) (N := ["_law_pool_here", "_law_many", "_law_digit"]) (ps := ["_law_pool_here", "_law_many"]) (k := k + 1) (body := b82 cl nF) u sc82 (by decide) hx ?_
  intro cdv Ar outer s H E gd hr
  have F := fit_of (G := G) (k := k + 1) (P := P) (w := w) (mg := mg) (base := base) (N := ["_law_pool_here", "_law_many", "_law_digit"]) (qual := "_law_take") (st := (top 50)) (f := D 82) (cdv := cdv) (A := Ar) (outer := outer) (s := s) (H := H) (E := E) rfl hx.1 gd hr
  exact (b_cons (v_if (t_cmp so_gt (s_ix F (s_loc 0) s_int) s_int) (b_cons (v_set 2 (s_bin so_mod (s_blty c_intX T.b_int (by decide +kernel) (a_cons (s_ix F (s_loc 0) s_int) a_nil)) (s_loc 1)) sc82.nd)
    (b_cons (v_setI F (s_loc 0) s_int (s_bin so_div (s_ix F (s_loc 0) s_int) (s_loc 1)))
    (b_one (v_ret (s_loc 2))))) b_end)
    (b_cons (v_setI F (s_loc 0) s_int (s_bin so_mod (s_blty c_intX T.b_int (by decide +kernel) (a_cons (s_bin (so_add F) (s_bin so_mulX (s_ix F (s_loc 0) s_int) s_int) s_int) a_nil)) s_int))
    (b_one (v_ret (s_bin so_mod (s_bin so_div (s_bin so_mod (s_blty c_intX T.b_int (by decide +kernel) (a_cons (s_bin so_mulX (s_ix F (s_loc 0) s_int) (s_ix F (s_loc 0) s_int)) a_nil)) s_int) s_int) (s_loc 1))))))
theorem sc83 : FnScope ["_law_value", "e"] ["_law_value"] (defScope (top 51)) := ⟨rfl, rfl, rfl, by decide +kernel, rfl, by decide +kernel, by decide +kernel⟩
def b83 (cl : Nat → Fn) (nF : Nat) : Ev :=
  (eSeq (eTry 1 (eDrop (eCall (cl 70) [] (eCons (eLoc 0) eNil))) [⟨texm1, fun c w => (eRet (eLst (eCons (eK (.str "line")) (eCons (eXf 1 txf0 c w) (eCons (eXi 1 txi0 c) eNil)))))⟩, ⟨texm4, fun c w => (eRet (eLst (eCons (eK (.str "limit")) (eCons (eXf 1 txf1 c w) (eCons (eXi 1 txi1 c) eNil)))))⟩])
    (eRet (eLst eNil)))
theorem ok83 {nF : Nat} (T : Txt P G D mg) (hx : G.xs = none ∧ G.xd = none) (A : Al P w mg base G k D cl) (u : DefAt G.K "_law_said" (top 51) (D 83) fd) :
    FnG G.dty P w G.K mg base (k + 2) (D 83) fd ["_law_value"] (spC G (["_law_value"] : List Str).length (fnOf (["_law_value"] : List Str).length (["_law_value", "e"] : List Str).length (b83 cl nF))) := by
  refine fn_ok (G := G) (P := P) (w := w) (K := G.K) (mg := mg) (base := base) (qual := "_law_said") (st := (top 51)) (f := D 83) (fd := fd) (N := ["_law_value", "e"]) (ps := ["_law_value"]) (k := k + 1) (body := b83 cl nF) u sc83 (by decide) hx ?_
  intro cdv Ar outer s H E gd hr
  have F := fit_of (G := G) (k := k + 1) (P := P) (w := w) (mg := mg) (base := base) (N := ["_law_value", "e"]) (qual := "_law_said") (st := (top 51)) (f := D 83) (cdv := cdv) (A := Ar) (outer := outer) (s := s) (H := H) (E := E) rfl hx.1 gd hr
  exact (b_cons (v_try F hx.2 sc83.nd (fun _ _ _ F => (b_one (v_drop (s_call F A.f70.up T.g_parse_sheet T.k70 (a_cons (s_loc 0) a_nil))))) (SH.cons ⟨rfl, by decide, .inl T.gc1⟩ (T.exm1) (fun _ _ _ _ c w hz hf => (b_one (v_ret (s_lst (a_cons s_str (a_cons (s_xf (T.xf0) hz hf) (a_cons (s_xi (T.xi0) ⟨.own _, rfl, .inl T.gc0⟩ hz hf T.b_isinstance) a_nil))))))) (SH.cons ⟨rfl, by decide, .inl T.gc4⟩ (T.exm4) (fun _ _ _ _ c w hz hf => (b_one (v_ret (s_lst (a_cons s_str (a_cons (s_xf (T.xf1) hz hf) (a_cons (s_xi (T.xi1) ⟨.ty "OverflowError", rfl, .inr ⟨T.b_OverflowError, by decide +kernel⟩⟩ hz hf T.b_isinstance) a_nil))))))) SH.nil)))
    (b_one (v_ret (s_lst a_nil))))
theorem sc84 : FnScope ["_law_found"] [] (defScope (top 52)) := ⟨rfl, rfl, rfl, by decide +kernel, rfl, by decide +kernel, by decide +kernel⟩
def b84 (cl : Nat → Fn) (nF : Nat) : Ev :=
  (eSeq (eAsg (gN 0) (eLst (eCons (eK (.str "var")) (eCons (eK (.str "hand size")) (eCons (eK (.str "own size")) (eCons (eK (.str "var new red")) (eCons (eK (.str "own size red blue")) (eCons (eK (.str "hand Size red")) eNil))))))))
    (eSeq (eAsg (gN 0) (eBin oAdd (eLoc 0) (eLst (eCons (eK (.str "own size inherit")) (eCons (eK (.str "a")) eNil)))))
    (eSeq (eAsg (gN 0) (eBin oAdd (eLoc 0) (eLst (eCons (eK (.str "var tone")) (eCons (eK (.str "own tone red")) (eCons (eK (.str "hand tone red")) (eCons (eK (.str "own abcdefghi red")) (eCons (eK (.str "own new abcdefghi")) eNil))))))))
    (eSeq (eAsg (gN 0) (eBin oAdd (eLoc 0) (eLst (eCons (eK (.str "own new a-b")) eNil))))
    (eRet (eBin oAdd (eLoc 0) (eLst (eCons (eK (.str "own new $tone")) (eCons (eK (.str "hold new red")) (eCons (eK (.str "own 1a red")) (eCons (eK (.str "var tone2")) (eCons (eK (.str "own new red;")) (eCons (eK (.str "Own new red")) (eCons (eK (.str "}")) eNil))))))))))))))
theorem ok84 {nF : Nat} (T : Txt P G D mg) (hx : G.xs = none ∧ G.xd = none) (A : Al P w mg base G k D cl) (u : DefAt G.K "_law_bad_heads" (top 52) (D 84) fd) :
    FnG G.dty P w G.K mg base (k + 2) (D 84) fd [] (spC G ([] : List Str).length (fnOf ([] : List Str).length (["_law_found"] : List Str).length (b84 cl nF))) := by
  refine fn_ok (G := G) (P := P) (w := w) (K := G.K) (mg := mg) (base := base) (qual := "_law_bad_heads") (st := (top 52)) (f := D 84) (fd := fd) (N := ["_law_found"]) (ps := []) (k := k + 1) (body := b84 cl nF) u sc84 (by decide) hx ?_
  intro cdv Ar outer s H E gd hr
  have F := fit_of (G := G) (k := k + 1) (P := P) (w := w) (mg := mg) (base := base) (N := ["_law_found"]) (qual := "_law_bad_heads") (st := (top 52)) (f := D 84) (cdv := cdv) (A := Ar) (outer := outer) (s := s) (H := H) (E := E) rfl hx.1 gd hr
  exact (b_cons (v_set 0 (s_lst (a_cons s_str (a_cons s_str (a_cons s_str (a_cons s_str (a_cons s_str (a_cons s_str a_nil))))))) sc84.nd)
    (b_cons (v_set 0 (s_bin (so_add F) (s_loc 0) (s_lst (a_cons s_str (a_cons s_str a_nil)))) sc84.nd)
    (b_cons (v_set 0 (s_bin (so_add F) (s_loc 0) (s_lst (a_cons s_str (a_cons s_str (a_cons s_str (a_cons s_str (a_cons s_str a_nil))))))) sc84.nd)
    (b_cons (v_set 0 (s_bin (so_add F) (s_loc 0) (s_lst (a_cons s_str a_nil))) sc84.nd)
    (b_one (v_ret (s_bin (so_add F) (s_loc 0) (s_lst (a_cons s_str (a_cons s_str (a_cons s_str (a_cons s_str (a_cons s_str (a_cons s_str (a_cons s_str a_nil)))))))))))))))
theorem sc85 : FnScope ["_law_found"] [] (defScope (top 53)) := ⟨rfl, rfl, rfl, by decide +kernel, rfl, by decide +kernel, by decide +kernel⟩
def b85 (cl : Nat → Fn) (nF : Nat) : Ev :=
  (eSeq (eAsg (gN 0) (eLst (eCons (eK (.str "{ tone: red }")) (eCons (eK (.str "a { }")) (eCons (eK (.str "a {}")) (eCons (eK (.str "a { tone red }")) (eCons (eK (.str "a { tone: }")) (eCons (eK (.str "a { : red }")) eNil))))))))
    (eSeq (eAsg (gN 0) (eBin oAdd (eLoc 0) (eLst (eCons (eK (.str "a { tone: red;}")) (eCons (eK (.str "a { ;tone: red }")) eNil)))))
    (eSeq (eAsg (gN 0) (eBin oAdd (eLoc 0) (eLst (eCons (eK (.str "a { none: red }")) (eCons (eK (.str "a { tone: red; tone: blue }")) (eCons (eK (.str "a { tone: red; tone!: red }")) eNil))))))
    (eSeq (eAsg (gN 0) (eBin oAdd (eLoc 0) (eLst (eCons (eK (.str "a { tone: Red }")) eNil))))
    (eSeq (eAsg (gN 0) (eBin oAdd (eLoc 0) (eLst (eCons (eK (.str "a { tone: abcdefghi }")) (eCons (eK (.str "a { box: $box }")) (eCons (eK (.str "a { box: $none }")) (eCons (eK (.str "a { tone: $tone }")) eNil)))))))
    (eSeq (eAsg (gN 0) (eBin oAdd (eLoc 0) (eLst (eCons (eK (.str "a { box: $size or a }")) eNil))))
    (eSeq (eAsg (gN 0) (eBin oAdd (eLoc 0) (eLst (eCons (eK (.str "a { box: $tone red }")) (eCons (eK (.str "a { box: $tone or }")) (eCons (eK (.str "a { box: $tone or inherit }")) eNil))))))
    (eSeq (eAsg (gN 0) (eBin oAdd (eLoc 0) (eLst (eCons (eK (.str "a { box: $tone or $tone }")) eNil))))
    (eSeq (eAsg (gN 0) (eBin oAdd (eLoc 0) (eLst (eCons (eK (.str "a { box: red blue }")) (eCons (eK (.str "a { box!!: red }")) (eCons (eK (.str "a { !box: red }")) (eCons (eK (.str "a { box: red! }")) eNil)))))))
    (eSeq (eAsg (gN 0) (eBin oAdd (eLoc 0) (eLst (eCons (eK (.str "a { box: red")) (eCons (eK (.str "a box: red }")) eNil)))))
    (eSeq (eAsg (gN 0) (eBin oAdd (eLoc 0) (eLst (eCons (eK (.str "a, { box: red }")) (eCons (eK (.str ", a { box: red }")) (eCons (eK (.str "a b, c > { box: red }")) (eCons (eK (.str "layer { box: red }b")) eNil)))))))
    (eSeq (eAsg (gN 0) (eBin oAdd (eLoc 0) (eLst (eCons (eK (.str "layer a1 { box: red }")) eNil))))
    (eSeq (eAsg (gN 0) (eBin oAdd (eLoc 0) (eLst (eCons (eK (.str "layer 10 a { box: red }")) (eCons (eK (.str "layer 1a { box: red }")) (eCons (eK (.str "layer -1 a { box: red }")) eNil))))))
    (eSeq (eAsg (gN 0) (eBin oAdd (eLoc 0) (eLst (eCons (eK (.str "layer 1 { box: red }")) (eCons (eK (.str "own late red")) eNil)))))
    (eSeq (eAsg (gN 0) (eBin oAdd (eLoc 0) (eLst (eCons (eK (.str "a { box: red } b")) (eCons (eK (.str "a { box: red } }")) (eCons (eK (.str "a { { box: red }")) (eCons (eK (.str "a:nth(5,1) { box: red }")) eNil)))))))
    (eSeq (eAsg (gN 0) (eBin oAdd (eLoc 0) (eLst (eCons (eK (.str "A { box: red }")) eNil))))
    (eRet (eBin oAdd (eLoc 0) (eLst (eCons (eBin oAdd (eBin oAdd (eK (.str "a")) (eBin oMulX (eK (.str " a")) (eK (.int 12)))) (eK (.str " { box: red }"))) (eCons (eBin oAdd (eBin oAdd (eK (.str "a, b:has(")) (eBin oMulX (eK (.str "c ")) (eK (.int 12)))) (eK (.str ") { box: red }"))) eNil)))))))))))))))))))))
theorem ok85 {nF : Nat} (T : Txt P G D mg) (hx : G.xs = none ∧ G.xd = none) (A : Al P w mg base G k D cl) (u : DefAt G.K "_law_bad_rules" (top 53) (D 85) fd) :
    FnG G.dty P w G.K mg base (k + 2) (D 85) fd [] (spC G ([] : List Str).length (fnOf ([] : List Str).length (["_law_found"] : List Str).length (b85 cl nF))) := by
  refine fn_ok (G := G) (P := P) (w := w) (K := G.K) (mg := mg) (base := base) (qual := "_law_bad_rules") (st := (top 53)) (f := D 85) (fd := fd) (N := ["_law_found"]) (ps := []) (k := k + 1) (body := b85 cl nF) u sc85 (by decide) hx ?_
  intro cdv Ar outer s H E gd hr
  have F := fit_of (G := G) (k := k + 1) (P := P) (w := w) (mg := mg) (base := base) (N := ["_law_found"]) (qual := "_law_bad_rules") (st := (top 53)) (f := D 85) (cdv := cdv) (A := Ar) (outer := outer) (s := s) (H := H) (E := E) rfl hx.1 gd hr
  exact (b_cons (v_set 0 (s_lst (a_cons s_str (a_cons s_str (a_cons s_str (a_cons s_str (a_cons s_str (a_cons s_str a_nil))))))) sc85.nd)
    (b_cons (v_set 0 (s_bin (so_add F) (s_loc 0) (s_lst (a_cons s_str (a_cons s_str a_nil)))) sc85.nd)
    (b_cons (v_set 0 (s_bin (so_add F) (s_loc 0) (s_lst (a_cons s_str (a_cons s_str (a_cons s_str a_nil))))) sc85.nd)
    (b_cons (v_set 0 (s_bin (so_add F) (s_loc 0) (s_lst (a_cons s_str a_nil))) sc85.nd)
    (b_cons (v_set 0 (s_bin (so_add F) (s_loc 0) (s_lst (a_cons s_str (a_cons s_str (a_cons s_str (a_cons s_str a_nil)))))) sc85.nd)
    (b_cons (v_set 0 (s_bin (so_add F) (s_loc 0) (s_lst (a_cons s_str a_nil))) sc85.nd)
    (b_cons (v_set 0 (s_bin (so_add F) (s_loc 0) (s_lst (a_cons s_str (a_cons s_str (a_cons s_str a_nil))))) sc85.nd)
    (b_cons (v_set 0 (s_bin (so_add F) (s_loc 0) (s_lst (a_cons s_str a_nil))) sc85.nd)
    (b_cons (v_set 0 (s_bin (so_add F) (s_loc 0) (s_lst (a_cons s_str (a_cons s_str (a_cons s_str (a_cons s_str a_nil)))))) sc85.nd)
    (b_cons (v_set 0 (s_bin (so_add F) (s_loc 0) (s_lst (a_cons s_str (a_cons s_str a_nil)))) sc85.nd)
    (b_cons (v_set 0 (s_bin (so_add F) (s_loc 0) (s_lst (a_cons s_str (a_cons s_str (a_cons s_str (a_cons s_str a_nil)))))) sc85.nd)
    (b_cons (v_set 0 (s_bin (so_add F) (s_loc 0) (s_lst (a_cons s_str a_nil))) sc85.nd)
    (b_cons (v_set 0 (s_bin (so_add F) (s_loc 0) (s_lst (a_cons s_str (a_cons s_str (a_cons s_str a_nil))))) sc85.nd)
    (b_cons (v_set 0 (s_bin (so_add F) (s_loc 0) (s_lst (a_cons s_str (a_cons s_str a_nil)))) sc85.nd)
    (b_cons (v_set 0 (s_bin (so_add F) (s_loc 0) (s_lst (a_cons s_str (a_cons s_str (a_cons s_str (a_cons s_str a_nil)))))) sc85.nd)
    (b_cons (v_set 0 (s_bin (so_add F) (s_loc 0) (s_lst (a_cons s_str a_nil))) sc85.nd)
    (b_one (v_ret (s_bin (so_add F) (s_loc 0) (s_lst (a_cons (s_bin (so_add F) (s_bin (so_add F) s_str (s_bin so_mulX s_str s_int)) s_str) (a_cons (s_bin (so_add F) (s_bin (so_add F) s_str (s_bin so_mulX s_str s_int)) s_str) a_nil))))))))))))))))))))))
theorem sc86 : FnScope ["_law_script", "_law_heads", "_law_bad", "_law_rows", "_law_rules", "_law_k", "_law_pool_here", "_law_turn", "_law_lines", "_law_line", "_law_at", "_law_odd", "_law_many", "_law_rule", "_law_wide", "_law_deep", "_law_sign"] ["_law_script"] (defScope (top 54)) := ⟨rfl, rfl, rfl, by decide +kernel, rfl, by decide +kernel, by decide +kernel⟩
def q86_0 (cl : Nat → Fn) (nF : Nat) : Ev :=
  (eSeq (eAsg (gN 8) (eBin oAdd (eLoc 1) (eSl (eLoc 4) (eK .non) (eInt (eBin oAdd (eK (.int 1)) (eCall (cl 82) [] (eCons (eLoc 6) (eCons (eK (.int 4)) eNil))))))))
    (eSeq (ePar 9 10 (eCons (eBin oIx (eLoc 3) (eCall (cl 82) [] (eCons (eLoc 6) (eCons (eBlt bLen (eCons (eLoc 3) eNil)) eNil)))) (eCons (eBin oAdd (eK (.int 3)) (eCall (cl 82) [] (eCons (eLoc 6) (eCons (eBin oSub (eBlt bLen (eCons (eLoc 8) eNil)) (eK (.int 3))) eNil)))) eNil)))
    (eSeq (eIfS (eBin oEq (eLoc 9) (eK (.str "own late red"))) (eAsg (gN 10) (eBlt bLen (eCons (eLoc 8) eNil))) eEnd)
    (eSeq (eIfS (eBin oEq (eCall (cl 82) [] (eCons (eLoc 6) (eCons (eK (.int 3)) eNil))) (eK (.int 0))) (ePar 9 10 (eCons (eBin oIx (eLoc 2) (eCall (cl 82) [] (eCons (eLoc 6) (eCons (eBlt bLen (eCons (eLoc 2) eNil)) eNil)))) (eCons (eBin oAdd (eK (.int 1)) (eCall (cl 82) [] (eCons (eLoc 6) (eCons (eK (.int 3)) eNil)))) eNil))) eEnd)
    (eIfS (eBin oNe (eCall (cl 83) [] (eCons (eBM "str" mJoin (eK (.str "\n")) (eCons (eBin oAdd (eBin oAdd (eSl (eLoc 8) (eK .non) (eInt (eLoc 10))) (eLst (eCons (eLoc 9) eNil))) (eSl (eLoc 8) (eInt (eLoc 10)) (eK .non))) eNil)) eNil)) (eLst (eCons (eK (.str "line")) (eCons (eBin oAdd (eLoc 10) (eK (.int 1))) (eCons (eK (.bl true)) eNil))))) (eRet (eK (.bl false))) eEnd)))))
def q86_1 (cl : Nat → Fn) (nF : Nat) : Ev :=
  (eSeq (eAsg (gN 6) (eCall (cl 81) [] (eCons (eLoc 0) (eCons (eLoc 5) eNil))))
    (eFor nF (iR1 (eCons (eK (.int 6)) eNil)) (gN 7)
    (eGc [0, 1, 2, 3, 4, 5, 6] (q86_0 cl nF))))
def q86_2 (cl : Nat → Fn) (nF : Nat) : Ev :=
  (eBin oAdd (eBin oAdd (eK (.str "a { ")) (eBM "str" mJoin (eK (.str "; ")) (eCons (eLc nF (iS (eK (.str "abcdefghijkl"))) [16] (gN 16) eYes (eBin oAdd (eBin oAdd (eK (.str "p")) (eLoc 16)) (eK (.str ": y")))) eNil))) (eK (.str " }")))
def q86_3 (cl : Nat → Fn) (nF : Nat) : Ev :=
  (eBin oAdd (eBM "str" mJoin (eK (.str ", ")) (eCons (eBin oMulX (eLst (eCons (eK (.str "a")) eNil)) (eK (.int 24))) eNil)) (eK (.str " { pa: y }")))
def q86_4 (cl : Nat → Fn) (nF : Nat) : Ev :=
  (eOr (eBin oNe (eCall (cl 83) [] (eCons (eBin oAdd (eK (.str "own pa x\n")) (eLoc 14)) eNil)) (eLst eNil)) (eBin oNe (eCall (cl 83) [] (eCons (eBin oAdd (eBin oAdd (eK (.str "own pa x\n")) (eLoc 14)) (eK (.str "\nb { pa: y }"))) eNil)) (eLst (eCons (eK (.str "limit")) (eCons (eK (.int 24)) (eCons (eK (.bl true)) eNil))))))
def q86_5 (cl : Nat → Fn) (nF : Nat) : Ev :=
  (eBin oAdd (eBin oAdd (eBin oAdd (eBin oAdd (eK (.str "own pa x\na { pa: y }\n")) (eBin oMulX (eK (.str ":not(")) (eK (.int 1200)))) (eK (.str "a"))) (eBin oMulX (eK (.str ")")) (eK (.int 1200)))) (eK (.str " { pa: y }")))
def q86_6 (cl : Nat → Fn) (nF : Nat) : Ev :=
  (eBin oNe (eCall (cl 83) [] (eCons (eLoc 15) eNil)) (eLst (eCons (eK (.str "line")) (eCons (eK (.int 3)) (eCons (eK (.bl true)) eNil)))))
def q86_7 (cl : Nat → Fn) (nF : Nat) : Ev :=
  (eBin oEq (eCall (cl 83) [] (eCons (eBin oAdd (eBin oAdd (eK (.str "own pa x\n")) (eLoc 14)) (eK (.str "\nb { pa: y }\nc"))) eNil)) (eLst (eCons (eK (.str "line")) (eCons (eK (.int 4)) (eCons (eK (.bl true)) eNil)))))
def q86_8 (cl : Nat → Fn) (nF : Nat) : Ev :=
  (eSeq (eFor nF (iL (eLst (eCons (eK .non) (eCons (eK (.int 5)) (eCons (eK (.bl true)) (eCons (eLoc 1) (eCons (eBlt bTuple (eCons (eLoc 1) eNil)) (eCons eDic0 eNil)))))))) (gN 11)
    (eIfS (eBin oNe (eCall (cl 83) [] (eCons (eLoc 11) eNil)) (eLst (eCons (eK (.str "line")) (eCons (eK .non) (eCons (eK (.bl true)) eNil))))) (eRet (eK (.bl false))) eEnd))
    (eSeq (eAsg (gN 12) (eLc nF (iS (eK (.str "abcdefghijkl"))) [16] (gN 16) eYes (eBin oAdd (eBin oAdd (eK (.str "own p")) (eLoc 16)) (eK (.str " x")))))
    (eSeq (eIfS (eOr (eBin oNe (eCall (cl 83) [] (eCons (eBM "str" mJoin (eK (.str "\n")) (eCons (eLoc 12) eNil)) eNil)) (eLst eNil)) (eBin oNe (eCall (cl 83) [] (eCons (eBM "str" mJoin (eK (.str "\n")) (eCons (eBin oAdd (eLoc 12) (eLst (eCons (eK (.str "own q x")) eNil))) eNil)) eNil)) (eLst (eCons (eK (.str "line")) (eCons (eK (.int 13)) (eCons (eK (.bl true)) eNil)))))) (eRet (eK (.bl false))) eEnd)
    (eSeq (eAsg (gN 13) (ePure [] (q86_2 cl nF)))
    (eSeq (eIfS (eBin oNe (eCall (cl 83) [] (eCons (eBM "str" mJoin (eK (.str "\n")) (eCons (eBin oAdd (eLoc 12) (eBin oMulX (eLst (eCons (eLoc 13) eNil)) (eK (.int 2)))) eNil)) eNil)) (eLst eNil)) (eRet (eK (.bl false))) eEnd)
    (eSeq (eIfS (eBin oNe (eSl (eCall (cl 83) [] (eCons (eBM "str" mJoin (eK (.str "\n")) (eCons (eBin oAdd (eBin oAdd (eLoc 12) (eBin oMulX (eLst (eCons (eLoc 13) eNil)) (eK (.int 2)))) (eLst (eCons (eK (.str "b { pa: y }")) eNil))) eNil)) eNil)) (eK .non) (eInt (eK (.int 2)))) (eLst (eCons (eK (.str "limit")) (eCons (eK (.int 24)) eNil)))) (eRet (eK (.bl false))) eEnd)
    (eSeq (eAsg (gN 14) (ePure [] (q86_3 cl nF)))
    (eSeq (eIfS (ePure [14] (q86_4 cl nF)) (eRet (eK (.bl false))) eEnd)
    (eSeq (eAsg (gN 15) (ePure [] (q86_5 cl nF)))
    (eSeq (eIfS (ePure [15] (q86_6 cl nF)) (eRet (eK (.bl false))) eEnd)
    (eRet (ePure [14] (q86_7 cl nF)))))))))))))
def q86_9 (cl : Nat → Fn) (nF : Nat) : Ev :=
  (eSeq (eFor nF (iR1 (eCons (eBlt bMax (eCons (eK (.int 1)) (eCons (eBlt bMin (eCons (eK (.int 12)) (eCons (eBlt bLen (eCons (eLoc 0) eNil)) eNil))) eNil))) eNil)) (gN 5)
    (eGc [0, 1, 2, 3, 4] (q86_1 cl nF)))
    (q86_8 cl nF))
def b86 (cl : Nat → Fn) (nF : Nat) : Ev :=
  (eSeq (ePar3 1 2 3 (eCons (eLst (eCons (eK (.str "var tone")) (eCons (eK (.str "hand size small")) (eCons (eK (.str "own box none")) eNil)))) (eCons (eCall (cl 84) [] eNil) (eCons (eCall (cl 85) [] eNil) eNil))))
    (eSeq (eAsg (gN 4) (eLst (eCons (eK (.str "a { tone: red }")) (eCons (eK (.str "")) (eCons (eK (.str "layer 2 b.x > c, *:first { box: $tone or red; size!: inherit }")) eNil)))))
    (eSeq (eAsg (gN 4) (eBin oAdd (eLoc 4) (eLst (eCons (eK (.str "layer { box: 1a }")) eNil))))
    (eSeq (eIfS (eBin oNe (eCall (cl 83) [] (eCons (eBM "str" mJoin (eK (.str "\n")) (eCons (eBin oAdd (eLoc 1) (eLoc 4)) eNil)) eNil)) (eLst eNil)) (eRet (eK (.bl false))) eEnd)
    (q86_9 cl nF)))))
theorem ok86 {nF : Nat} (T : Txt P G D mg) (hx : G.xs = none ∧ G.xd = none) (A : Al P w mg base G k D cl) (u : DefAt G.K "law" (top 54) (D 86) fd) :
    FnG G.dty P w G.K mg base (k + 2) (D 86) fd ["_law_script"] (spC G (["_law_script"] : List Str).length (fnOf (["_law_script"] : List Str).length (["_law_script", "_law_heads", "_law_bad", "_law_rows", "_law_rules", "_law_k", "_law_pool_here", "_law_turn", "_law_lines", "_law_line", "_law_at", "_law_odd", "_law_many", "_law_rule", "_law_wide", "_law_deep", "_law_sign"] : List Str).length (b86 cl nF))) := by
  refine fn_ok (G := G) (P := P) (w := w) (K := G.K) (mg := mg) (base := base) (qual := "law") (st := (top 54)) (f := D 86) (fd := fd) (N := ["_law_script", "_law_heads", "_law_bad", "_law_rows", "_law_rules", "_law_k", "_law_pool_here", "_law_turn", "_law_lines", "_law_line", "_law_at", "_law_odd", "_law_many", "_law_rule", "_law_wide", "_law_deep", "_law_sign"]) (ps := ["_law_script"]) (k := k + 1) (body := b86 cl nF) u sc86 (by decide) hx ?_
  intro cdv Ar outer s H E gd hr
  have F := fit_of (G := G) (k := k + 1) (P := P) (w := w) (mg := mg) (base := base) (N := ["_law_script", "_law_heads", "_law_bad", "_law_rows", "_law_rules", "_law_k", "_law_pool_here", "_law_turn", "_law_lines", "_law_line", "_law_at", "_law_odd", "_law_many", "_law_rule", "_law_wide", "_law_deep", "_law_sign"]) (qual := "law") (st := (top 54)) (f := D 86) (cdv := cdv) (A := Ar) (outer := outer) (s := s) (H := H) (E := E) rfl hx.1 gd hr
  exact (b_cons (v_par3 1 2 3 F (a_cons (s_lst (a_cons s_str (a_cons s_str (a_cons s_str a_nil)))) (a_cons (s_call0 F A.f84.up T.g__law_bad_heads T.k84) (a_cons (s_call0 F A.f85.up T.g__law_bad_rules T.k85) a_nil))) sc86.nd)
    (b_cons (v_set 4 (s_lst (a_cons s_str (a_cons s_str (a_cons s_str a_nil)))) sc86.nd)
    (b_cons (v_set 4 (s_bin (so_add F) (s_loc 4) (s_lst (a_cons s_str a_nil))) sc86.nd)
    (b_cons (v_if (t_cmp (so_ne F) (s_call F A.f83.up T.g__law_said T.k83 (a_cons (s_bm F PySem.F.plainAttrs_str PySem.F.slot_str_join PySem.F.type_str_join (m_join F.K) s_str (a_cons (s_bin (so_add F) (s_loc 1) (s_loc 4)) a_nil)) a_nil)) (s_lst a_nil)) (b_one (v_ret s_bl)) b_end)
    (b_cons (v_for nF F (i_rng1 T.b_range (a_cons (s_blt (c_max F.calm) T.b_max (by decide +kernel) (a_cons s_int (a_cons (s_blt (c_min F.calm) T.b_min (by decide +kernel) (a_cons s_int (a_cons (s_blt (c_len F.K) T.b_len PySem.boot_len (a_cons (s_loc 0) a_nil)) a_nil))) a_nil))) a_nil)) (g_name 5 sc86.nd)
    (b_gc [0, 1, 2, 3, 4] hx (b_cons (v_set 6 (s_call F A.f81.up T.g__law_pool T.k81 (a_cons (s_loc 0) (a_cons (s_loc 5) a_nil))) sc86.nd)
    (b_one (v_for nF F (i_rng1 T.b_range (a_cons s_int a_nil)) (g_name 7 sc86.nd)
    (b_gc [0, 1, 2, 3, 4, 5, 6] hx (b_cons (v_set 8 (s_bin (so_add F) (s_loc 1) (s_sl F (s_loc 4) o_none (o_some (s_bin (so_add F) s_int (s_call F A.f82.up T.g__law_take T.k82 (a_cons (s_loc 6) (a_cons s_int a_nil))))))) sc86.nd)
    (b_cons (v_par 9 10 F (a_cons (s_ix F (s_loc 3) (s_call F A.f82.up T.g__law_take T.k82 (a_cons (s_loc 6) (a_cons (s_blt (c_len F.K) T.b_len PySem.boot_len (a_cons (s_loc 3) a_nil)) a_nil)))) (a_cons (s_bin (so_add F) s_int (s_call F A.f82.up T.g__law_take T.k82 (a_cons (s_loc 6) (a_cons (s_bin so_sub (s_blt (c_len F.K) T.b_len PySem.boot_len (a_cons (s_loc 8) a_nil)) s_int) a_nil)))) a_nil)) sc86.nd)
    (b_cons (v_if (t_cmp (so_eq F) (s_loc 9) s_str) (b_one (v_set 10 (s_blt (c_len F.K) T.b_len PySem.boot_len (a_cons (s_loc 8) a_nil)) sc86.nd)) b_end)
    (b_cons (v_if (t_cmp (so_eq F) (s_call F A.f82.up T.g__law_take T.k82 (a_cons (s_loc 6) (a_cons s_int a_nil))) s_int) (b_one (v_par 9 10 F (a_cons (s_ix F (s_loc 2) (s_call F A.f82.up T.g__law_take T.k82 (a_cons (s_loc 6) (a_cons (s_blt (c_len F.K) T.b_len PySem.boot_len (a_cons (s_loc 2) a_nil)) a_nil)))) (a_cons (s_bin (so_add F) s_int (s_call F A.f82.up T.g__law_take T.k82 (a_cons (s_loc 6) (a_cons s_int a_nil)))) a_nil)) sc86.nd)) b_end)
    (b_one (v_if (t_cmp (so_ne F) (s_call F A.f83.up T.g__law_said T.k83 (a_cons (s_bm F PySem.F.plainAttrs_str PySem.F.slot_str_join PySem.F.type_str_join (m_join F.K) s_str (a_cons (s_bin (so_add F) (s_bin (so_add F) (s_sl F (s_loc 8) o_none (o_some (s_loc 10))) (s_lst (a_cons (s_loc 9) a_nil))) (s_sl F (s_loc 8) (o_some (s_loc 10)) o_none)) a_nil)) a_nil)) (s_lst (a_cons s_str (a_cons (s_bin (so_add F) (s_loc 10) s_int) (a_cons s_bl a_nil))))) (b_one (v_ret s_bl)) b_end))))))))))))
    (b_cons (v_for nF F (i_list F (s_lst (a_cons s_non (a_cons s_int (a_cons s_bl (a_cons (s_loc 1) (a_cons (s_blty (c_tuple F.K) T.b_tuple (by decide +kernel) (a_cons (s_loc 1) a_nil)) (a_cons s_dic0 a_nil)))))))) (g_name 11 sc86.nd)
    (b_one (v_if (t_cmp (so_ne F) (s_call F A.f83.up T.g__law_said T.k83 (a_cons (s_loc 11) a_nil)) (s_lst (a_cons s_str (a_cons s_non (a_cons s_bl a_nil))))) (b_one (v_ret s_bl)) b_end)))
    (b_cons (v_setLc nF 12 F sc86.nd (sw_true rfl rfl rfl (by decide +kernel)) (i_str s_str) (own := [("_law_sign", 16)]) (blkOk_by rfl) (fun _ _ _ _ _ => (gw_name 16 sc86.nd)) (fun _ _ _ _ _ => ts_nil) (fun _ _ _ _ _ => (s_bin (so_add (Fit.blk F)) (s_bin (so_add (Fit.blk F)) s_str (s_loc 16)) s_str)))
    (b_cons (v_if (t_p (p_or (t_cmp (so_ne F) (s_call F A.f83.up T.g__law_said T.k83 (a_cons (s_bm F PySem.F.plainAttrs_str PySem.F.slot_str_join PySem.F.type_str_join (m_join F.K) s_str (a_cons (s_loc 12) a_nil)) a_nil)) (s_lst a_nil)) (p_or1 (t_cmp (so_ne F) (s_call F A.f83.up T.g__law_said T.k83 (a_cons (s_bm F PySem.F.plainAttrs_str PySem.F.slot_str_join PySem.F.type_str_join (m_join F.K) s_str (a_cons (s_bin (so_add F) (s_loc 12) (s_lst (a_cons s_str a_nil))) a_nil)) a_nil)) (s_lst (a_cons s_str (a_cons s_int (a_cons s_bl a_nil)))))))) (b_one (v_ret s_bl)) b_end)
    (b_cons (v_set 13 (s_pure [] hx (s_bin (so_add F) (s_bin (so_add F) s_str (s_bm F PySem.F.plainAttrs_str PySem.F.slot_str_join PySem.F.type_str_join (m_join F.K) s_str (a_cons (s_lc nF F sc86.nd (i_str s_str) (own := [("_law_sign", 16)]) (blkOk_by rfl) (fun _ _ _ _ _ => (gw_name 16 sc86.nd)) (fun _ _ _ _ _ => ts_nil) (fun _ _ _ _ _ => (s_bin (so_add (Fit.blk F)) (s_bin (so_add (Fit.blk F)) s_str (s_loc 16)) s_str))) a_nil))) s_str)) sc86.nd)
    (b_cons (v_if (t_cmp (so_ne F) (s_call F A.f83.up T.g__law_said T.k83 (a_cons (s_bm F PySem.F.plainAttrs_str PySem.F.slot_str_join PySem.F.type_str_join (m_join F.K) s_str (a_cons (s_bin (so_add F) (s_loc 12) (s_bin so_mulX (s_lst (a_cons (s_loc 13) a_nil)) s_int)) a_nil)) a_nil)) (s_lst a_nil)) (b_one (v_ret s_bl)) b_end)
    (b_cons (v_if (t_cmp (so_ne F) (s_sl F (s_call F A.f83.up T.g__law_said T.k83 (a_cons (s_bm F PySem.F.plainAttrs_str PySem.F.slot_str_join PySem.F.type_str_join (m_join F.K) s_str (a_cons (s_bin (so_add F) (s_bin (so_add F) (s_loc 12) (s_bin so_mulX (s_lst (a_cons (s_loc 13) a_nil)) s_int)) (s_lst (a_cons s_str a_nil))) a_nil)) a_nil)) o_none (o_some s_int)) (s_lst (a_cons s_str (a_cons s_int a_nil)))) (b_one (v_ret s_bl)) b_end)
    (b_cons (v_set 14 (s_pure [] hx (s_bin (so_add F) (s_bm F PySem.F.plainAttrs_str PySem.F.slot_str_join PySem.F.type_str_join (m_join F.K) s_str (a_cons (s_bin so_mulX (s_lst (a_cons s_str a_nil)) s_int) a_nil)) s_str)) sc86.nd)
    (b_cons (v_if (t_pure [14] hx (t_p (p_or (t_cmp (so_ne F) (s_call F A.f83.up T.g__law_said T.k83 (a_cons (s_bin (so_add F) s_str (s_loc 14)) a_nil)) (s_lst a_nil)) (p_or1 (t_cmp (so_ne F) (s_call F A.f83.up T.g__law_said T.k83 (a_cons (s_bin (so_add F) (s_bin (so_add F) s_str (s_loc 14)) s_str) a_nil)) (s_lst (a_cons s_str (a_cons s_int (a_cons s_bl a_nil))))))))) (b_one (v_ret s_bl)) b_end)
    (b_cons (v_set 15 (s_pure [] hx (s_bin (so_add F) (s_bin (so_add F) (s_bin (so_add F) (s_bin (so_add F) s_str (s_bin so_mulX s_str s_int)) s_str) (s_bin so_mulX s_str s_int)) s_str)) sc86.nd)
    (b_cons (v_if (t_pure [15] hx (t_cmp (so_ne F) (s_call F A.f83.up T.g__law_said T.k83 (a_cons (s_loc 15) a_nil)) (s_lst (a_cons s_str (a_cons s_int (a_cons s_bl a_nil)))))) (b_one (v_ret s_bl)) b_end)
    (b_one (v_ret (s_pure [14] hx (s_cmp (so_eq F) (s_call F A.f83.up T.g__law_said T.k83 (a_cons (s_bin (so_add F) (s_bin (so_add F) s_str (s_loc 14)) s_str) a_nil)) (s_lst (a_cons s_str (a_cons s_int (a_cons s_bl a_nil)))))))))))))))))))))))
end
def prog (f : Nat) (cl : Nat → Fn) : Fn := match f with
  | 5 => fnOf (["value", "signs"] : List Str).length (["value", "signs", "sign"] : List Str).length (b5 cl nF)
  | 6 => fnOf (["value"] : List Str).length (["value"] : List Str).length (b6 cl nF)
  | 7 => fnOf (["value"] : List Str).length (["value"] : List Str).length (b7 cl nF)
  | 8 => fnOf (["self", "text"] : List Str).length (["self", "text"] : List Str).length (b8 cl nF)
  | 9 => fnOf (["self"] : List Str).length (["self"] : List Str).length (b9 cl nF)
  | 10 => fnOf (["self"] : List Str).length (["self"] : List Str).length (b10 cl nF)
  | 11 => fnOf (["self", "sign"] : List Str).length (["self", "sign"] : List Str).length (b11 cl nF)
  | 12 => fnOf (["self", "sign"] : List Str).length (["self", "sign"] : List Str).length (b12 cl nF)
  | 13 => fnOf (["self"] : List Str).length (["self"] : List Str).length (b13 cl nF)
  | 14 => fnOf (["self"] : List Str).length (["self", "begin"] : List Str).length (b14 cl nF)
  | 15 => fnOf (["self"] : List Str).length (["self", "begin"] : List Str).length (b15 cl nF)
  | 16 => fnOf (["self"] : List Str).length (["self"] : List Str).length (b16 cl nF)
  | 17 => fnOf (["self", "own_kind", "parts"] : List Str).length (["self", "own_kind", "parts"] : List Str).length (b17 cl nF)
  | 18 => fnOf (["self", "compounds", "joins"] : List Str).length (["self", "compounds", "joins"] : List Str).length (b18 cl nF)
  | 19 => fnOf (["self", "join", "is_own"] : List Str).length (["self", "join", "is_own", "compounds", "joins"] : List Str).length (b19 cl nF)
  | 20 => fnOf (["self"] : List Str).length (["self", "is_blank", "sign"] : List Str).length (b20 cl nF)
  | 21 => fnOf (["self", "is_own"] : List Str).length (["self", "is_own", "kind", "is_any", "parts"] : List Str).length (b21 cl nF)
  | 22 => fnOf (["self", "is_own", "may_negate"] : List Str).length (["self", "is_own", "may_negate", "word"] : List Str).length (b22 cl nF)
  | 23 => fnOf (["self"] : List Str).length (["self", "first", "second"] : List Str).length (b23 cl nF)
  | 24 => fnOf (["self"] : List Str).length (["self", "sign"] : List Str).length (b24 cl nF)
  | 25 => fnOf (["self"] : List Str).length (["self", "found"] : List Str).length (b25 cl nF)
  | 26 => fnOf (["self"] : List Str).length (["self", "join", "found"] : List Str).length (b26 cl nF)
  | 27 => fnOf (["part"] : List Str).length (["part", "first", "head"] : List Str).length (b27 cl nF)
  | 28 => fnOf (["chain"] : List Str).length (["chain", "found", "index", "compound", "join", "text", "part"] : List Str).length (b28 cl nF)
  | 45 => fnOf (["self", "chain"] : List Str).length (["self", "chain"] : List Str).length (b45 cl nF)
  | 46 => fnOf (["self"] : List Str).length (["self"] : List Str).length (b46 cl nF)
  | 48 => fnOf (["self"] : List Str).length (["self", "total", "compound", "part"] : List Str).length (b48 cl nF)
  | 62 => fnOf (["self", "word", "name", "default"] : List Str).length (["self", "word", "name", "default"] : List Str).length (b62 cl nF)
  | 63 => fnOf (["self", "layer", "selectors", "declarations"] : List Str).length (["self", "layer", "selectors", "declarations"] : List Str).length (b63 cl nF)
  | 64 => fnOf (["line", "heads"] : List Str).length (["line", "heads", "words", "head"] : List Str).length (b64 cl nF)
  | 65 => fnOf (["text", "earlier"] : List Str).length (["text", "earlier", "words"] : List Str).length (b65 cl nF)
  | 66 => fnOf (["text", "heads"] : List Str).length (["text", "heads", "name", "sign", "value", "is_strong", "names", "earlier", "found", "head"] : List Str).length (b66 cl nF)
  | 67 => fnOf (["text"] : List Str).length (["text", "reader", "found"] : List Str).length (b67 cl nF)
  | 68 => fnOf (["text"] : List Str).length (["text", "rest", "digit", "sign", "behind"] : List Str).length (b68 cl nF)
  | 69 => fnOf (["line", "heads"] : List Str).length (["line", "heads", "head", "sign", "body", "layer", "text", "selectors", "declarations", "names", "part", "declaration", "one"] : List Str).length (b69 cl nF)
  | 70 => fnOf (["text"] : List Str).length (["text", "heads", "rules", "number", "line", "found", "head", "rule"] : List Str).length (b70 cl nF)
  | 71 => fnOf (["rule"] : List Str).length (["rule", "head", "selectors", "rows", "name", "value", "is_strong", "sign", "selector"] : List Str).length (b71 cl nF)
  | 72 => fnOf (["head"] : List Str).length (["head"] : List Str).length (b72 cl nF)
  | 73 => fnOf (["self", "heads", "entries"] : List Str).length (["self", "heads", "entries", "head", "rule"] : List Str).length (b73 cl nF)
  | 81 => fnOf (["_law_script", "_law_k"] : List Str).length (["_law_script", "_law_k", "_law_cell", "_law_number", "_law_mixed"] : List Str).length (b81 cl nF)
  | 82 => fnOf (["_law_pool_here", "_law_many"] : List Str).length (["_law_pool_here", "_law_many", "_law_digit"] : List Str).length (b82 cl nF)
  | 83 => fnOf (["_law_value"] : List Str).length (["_law_value", "e"] : List Str).length (b83 cl nF)
  | 84 => fnOf ([] : List Str).length (["_law_found"] : List Str).length (b84 cl nF)
  | 85 => fnOf ([] : List Str).length (["_law_found"] : List Str).length (b85 cl nF)
  | 86 => fnOf (["_law_script"] : List Str).length (["_law_script", "_law_heads", "_law_bad", "_law_rows", "_law_rules", "_law_k", "_law_pool_here", "_law_turn", "_law_lines", "_law_line", "_law_at", "_law_odd", "_law_many", "_law_rule", "_law_wide", "_law_deep", "_law_sign"] : List Str).length (b86 cl nF)
  | _ => fun _ _ => .no
def run : Nat → Nat → Fn
  | 0, _ => fun _ _ => .no
  | d + 1, f => prog f (run d)
section
variable {P : Program} {w : World} {mg : Str → Option Value} {base : Heap} {G : Cfg} {k : Nat} {D : Nat → Addr} {cl : Nat → Fn}
theorem al_succ (T : Txt P G D mg) (hx : G.xs = none ∧ G.xd = none) (A : Al P w mg base G k D cl) : Al P w mg base G (k + 2) D (fun f => prog f cl) :=
  ⟨FOkB.of T.u85 (fun _ u => ok85 T hx A u),
   FOkB.of T.u84 (fun _ u => ok84 T hx A u),
   FOkB.of T.u83 (fun _ u => ok83 T hx A u),
   FOkB.of T.u81 (fun _ u => ok81 T hx A u),
   FOkB.of T.u82 (fun _ u => ok82 T hx A u),
   FOkB.of T.u70 (fun _ u => ok70 T hx A u),
   FOkB.of T.u69 (fun _ u => ok69 T hx A u),
   FOkB.of T.u64 (fun _ u => ok64 T hx A u),
   FOkB.of T.u73 (fun _ u => ok73 T hx A u),
   FOkB.of T.u72 (fun _ u => ok72 T hx A u),
   FOkB.of T.u71 (fun _ u => ok71 T hx A u),
   FOkB.of T.u46 (fun _ u => ok46 T hx A u),
   FOkB.of T.u6 (fun _ u => ok6 T hx A u),
   FOkB.of T.u62 (fun _ u => ok62 T hx A u),
   FOkB.of T.u7 (fun _ u => ok7 T hx A u),
   FOkB.of T.u5 (fun _ u => ok5 T hx A u),
   FOkB.of T.u68 (fun _ u => ok68 T hx A u),
   FOkB.of T.u67 (fun _ u => ok67 T hx A u),
   FOkB.of T.u66 (fun _ u => ok66 T hx A u),
   FOkB.of T.u48 (fun _ u => ok48 T hx A u),
   FOkB.of T.u63 (fun _ u => ok63 T hx A u),
   FOkB.of T.u65 (fun _ u => ok65 T hx A u),
   FOkB.of T.u8 (fun _ u => ok8 T hx A u),
   FOkB.of T.u15 (fun _ u => ok15 T hx A u),
   FOkB.of T.u19 (fun _ u => ok19 T hx A u),
   FOkB.of T.u45 (fun _ u => ok45 T hx A u),
   FOkB.of T.u11 (fun _ u => ok11 T hx A u),
   FOkB.of T.u16 (fun _ u => ok16 T hx A u),
   FOkB.of T.u9 (fun _ u => ok9 T hx A u),
   FOkB.of T.u10 (fun _ u => ok10 T hx A u),
   FOkB.of T.u21 (fun _ u => ok21 T hx A u),
   FOkB.of T.u20 (fun _ u => ok20 T hx A u),
   FOkB.of T.u18 (fun _ u => ok18 T hx A u),
   FOkB.of T.u13 (fun _ u => ok13 T hx A u),
   FOkB.of T.u14 (fun _ u => ok14 T hx A u),
   FOkB.of T.u22_1 (fun _ u => ok22 T hx A u),
   FOkB.of T.u17 (fun _ u => ok17 T hx A u),
   FOkB.of T.u12 (fun _ u => ok12 T hx A u),
   FOkB.of T.u23 (fun _ u => ok23 T hx A u),
   FOkB.of T.u25 (fun _ u => ok25 T hx A u),
   FOkB.of T.u26 (fun _ u => ok26 T hx A u),
   FOkB.of T.u22 (fun _ u => ok22 T hx A u),
   FOkB.of T.u24 (fun _ u => ok24 T hx A u),
   FOkB.of T.u28 (fun _ u => ok28 T hx A u),
   FOkB.of T.u27 (fun _ u => ok27 T hx A u)⟩
theorem al_all (T : Txt P G D mg) (hx : G.xs = none ∧ G.xd = none) : ∀ d, Al P w mg base G (2 * d) D (run d)
  | 0 => ⟨FOkB.no T.u85, FOkB.no T.u84, FOkB.no T.u83, FOkB.no T.u81, FOkB.no T.u82, FOkB.no T.u70, FOkB.no T.u69, FOkB.no T.u64, FOkB.no T.u73, FOkB.no T.u72, FOkB.no T.u71, FOkB.no T.u46, FOkB.no T.u6, FOkB.no T.u62, FOkB.no T.u7, FOkB.no T.u5, FOkB.no T.u68, FOkB.no T.u67, FOkB.no T.u66, FOkB.no T.u48, FOkB.no T.u63, FOkB.no T.u65, FOkB.no T.u8, FOkB.no T.u15, FOkB.no T.u19, FOkB.no T.u45, FOkB.no T.u11, FOkB.no T.u16, FOkB.no T.u9, FOkB.no T.u10, FOkB.no T.u21, FOkB.no T.u20, FOkB.no T.u18, FOkB.no T.u13, FOkB.no T.u14, FOkB.no T.u22_1, FOkB.no T.u17, FOkB.no T.u12, FOkB.no T.u23, FOkB.no T.u25, FOkB.no T.u26, FOkB.no T.u22, FOkB.no T.u24, FOkB.no T.u28, FOkB.no T.u27⟩
  | d + 1 => al_succ T hx (al_all T hx d)
def clP : Nat → Fn := fun f => match f with
  | 83 => pureFn' (run 60 83)
  | 84 => pureFn' (run 60 84)
  | 85 => pureFn' (run 60 85)
  | f => run 60 f
theorem al_P (T : Txt P G D mg) (hx : G.xs = none ∧ G.xd = none) : Al P w mg base G (2 * 60) D clP := by
  have A := al_all (P := P) (w := w) (mg := mg) (base := base) T hx 60
  exact ⟨A.f85.pure', A.f84.pure', A.f83.pure', A.f81, A.f82, A.f70, A.f69, A.f64, A.f73, A.f72, A.f71, A.f46, A.f6, A.f62, A.f7, A.f5, A.f68, A.f67, A.f66, A.f48, A.f63, A.f65, A.f8, A.f15, A.f19, A.f45, A.f11, A.f16, A.f9, A.f10, A.f21, A.f20, A.f18, A.f13, A.f14, A.f22_1, A.f17, A.f12, A.f23, A.f25, A.f26, A.f22, A.f24, A.f28, A.f27⟩
end
def lawF : Fn := fnOf (["_law_script"] : List Str).length (["_law_script", "_law_heads", "_law_bad", "_law_rows", "_law_rules", "_law_k", "_law_pool_here", "_law_turn", "_law_lines", "_law_line", "_law_at", "_law_odd", "_law_many", "_law_rule", "_law_wide", "_law_deep", "_law_sign"] : List Str).length (b86 clP nF)
def LawV : Prop := ∀ ns : List Int, ns.length ≤ 63 → (∀ z ∈ ns, Builtin.Int.intBits z ≤ 1048576) → ∃ h', lawF [.ref 0] [.rol (ns.map W.int)] = .v (.bl true) h'
end Dr.L
set_option maxHeartbeats 4000000
namespace Dr.L
open PySem L2 PyProof.Rows Dr
def HE : List Str := (["var tone", "hand size small", "own box none"] : List Str)
def RU : List Str := (["a { tone: red }", "", "layer 2 b.x > c, *:first { box: $tone or red; size!: inherit }", "layer { box: 1a }"] : List Str)
def BH : List Str := (["var", "hand size", "own size", "var new red", "own size red blue", "hand Size red", "own size inherit", "a", "var tone", "own tone red", "hand tone red", "own abcdefghi red", "own new abcdefghi", "own new a-b", "own new $tone", "hold new red", "own 1a red", "var tone2", "own new red;", "Own new red"] : List Str) ++ (["}"] : List Str)
def RO : List Str := (["{ tone: red }", "a { }", "a {}", "a { tone red }", "a { tone: }", "a { : red }", "a { tone: red;}", "a { ;tone: red }", "a { none: red }", "a { tone: red; tone: blue }", "a { tone: red; tone!: red }", "a { tone: Red }", "a { tone: abcdefghi }", "a { box: $box }", "a { box: $none }", "a { tone: $tone }", "a { box: $size or a }", "a { box: $tone red }", "a { box: $tone or }", "a { box: $tone or inherit }"] : List Str) ++ (["a { box: $tone or $tone }", "a { box: red blue }", "a { box!!: red }", "a { !box: red }", "a { box: red! }", "a { box: red", "a box: red }", "a, { box: red }", ", a { box: red }", "a b, c > { box: red }", "layer { box: red }b", "layer a1 { box: red }", "layer 10 a { box: red }", "layer 1a { box: red }", "layer -1 a { box: red }", "layer 1 { box: red }", "own late red", "a { box: red } b", "a { box: red } }", "a { { box: red }"] : List Str) ++ (["a:nth(5,1) { box: red }", "A { box: red }", "a a a a a a a a a a a a a { box: red }", "a, b:has(c c c c c c c c c c c c ) { box: red }"] : List Str)
theorem len1 : HE.length = 3 ∧ RU.length = 4 ∧ BH.length = 21 ∧ RO.length = 44 := ⟨rfl, rfl, rfl, rfl⟩
theorem bad84 : lstOut (run 60 84 [] []) = some (BH.map W.str) := by kernel_rfl
theorem bad85 : lstOut (run 60 85 [] []) = some (RO.map W.str) := by kernel_rfl
theorem flBH : flats (BH.map W.str) = true := by decide +kernel
theorem flRO : flats (RO.map W.str) = true := by decide +kernel
/-! ### the loop over the lines, turn by turn -/
abbrev gE : Tg := gT [3, 4]
abbrev bE : Ev := q70_0 (run 58) nF
def tr : List W → Nat → Sg → IH → Out
  | [], _, σ, h => .nx σ h
  | w :: ws, i, σ, h => match gE (.tup [.int (i : Nat), w]) σ with
    | none => .no
    | some σ' => match bE σ' h with
      | .nx s h2 => tr ws (i + 1) s h2
      | .ct s h2 => tr ws (i + 1) s h2
      | _ => .no
def kp (p : Nat) : List W → Nat → Sg → IH → List (Option IO)
  | [], _, _, h => [h[p]?]
  | w :: ws, i, σ, h => h[p]? :: match gE (.tup [.int (i : Nat), w]) σ with
    | none => []
    | some σ' => match bE σ' h with
      | .nx s h2 => kp p ws (i + 1) s h2
      | .ct s h2 => kp p ws (i + 1) s h2
      | _ => []
theorem tr_for {p : Nat} {all : List W} {N : Nat} : ∀ (ws : List W) (i : Nat) (σ : Sg) (h : IH) (s : Sg) (h' : IH), (∀ j, j < ws.length → all[i + j]? = ws[j]?) → kp p ws i σ h = List.replicate (ws.length + 1) (some (.lst all)) → tr ws i σ h = .nx s h' →
    forL (jE p) gE bE (N + ws.length) i σ h = forL (jE p) gE bE N (i + ws.length) s h' ∧ h'[p]? = some (.lst all)
  | [], i, σ, h, s, h', _, hk, e => by
    unfold tr at e
    cases e
    unfold kp at hk
    have : σ = σ := rfl
    refine ⟨rfl, ?_⟩
    simpa using hk
  | w :: ws, i, σ, h, s, h', ha, hk, e => by
    unfold tr at e
    unfold kp at hk
    rw [List.length_cons, List.replicate_succ] at hk
    injection hk with hk0 hk1
    have h0 : all[i]? = some w := by simpa using ha 0 (by simp)
    have hJ : jE p i h = some (some (.tup [.int (i : Nat), w])) := by
      unfold jE
      simp only [lstAt, hk0, h0]
    have ha' : ∀ j, j < ws.length → all[i + 1 + j]? = ws[j]? := fun j hj => by
      have := ha (j + 1) (by simpa using hj)
      rw [show i + 1 + j = i + (j + 1) by omega, this]; rfl
    cases eg : gE (.tup [.int (i : Nat), w]) σ with
    | none => rw [eg] at e; cases e
    | some σ' =>
      simp only [eg] at e hk1
      have st : forL (jE p) gE bE (N + (w :: ws).length) i σ h = (match bE σ' h with
          | .nx s h2 => forL (jE p) gE bE (N + ws.length) (i + 1) s h2
          | .ct s h2 => forL (jE p) gE bE (N + ws.length) (i + 1) s h2
          | .bk s h2 => .nx s h2
          | .rt w h2 => .rt w h2
          | .ex c w s h2 => .ex c w s h2
          | _ => .no) := by
        rw [List.length_cons, ← Nat.add_assoc]
        show (match jE p i h with
          | none => _
          | some none => _
          | some (some w) => _) = _
        simp only [hJ, eg] <;> cases bE σ' h <;> rfl
      rw [st, List.length_cons, show i + (ws.length + 1) = i + 1 + ws.length by omega]
      cases eb : bE σ' h with
      | nx s2 h2 => simp only [eb] at e hk1 ⊢; exact tr_for ws (i + 1) s2 h2 s h' ha' hk1 e
      | ct s2 h2 => simp only [eb] at e hk1 ⊢; exact tr_for ws (i + 1) s2 h2 s h' ha' hk1 e
      | bk s2 h2 => simp only [eb] at e; cases e
      | ex c v s2 h2 => simp only [eb] at e; cases e
      | v _ _ => simp only [eb] at e; cases e
      | vs _ _ => simp only [eb] at e; cases e
      | rt _ _ => simp only [eb] at e; cases e
      | no => simp only [eb] at e; cases e
def isX (n : Int) : Out → Bool
  | .ex c (.int i) _ _ => Nat.beq c 1 && decide (i = n)
  | _ => false
theorem isX_of {n : Int} {o : Out} (h : isX n o = true) : ∃ s h', o = .ex 1 (.int n) s h' := by
  unfold isX at h
  split at h
  · rename_i c i s h'
    have h := Bool.and_eq_true_iff.mp h
    have h1 : c = 1 := Nat.eq_of_beq_eq_true h.1
    have h2 := of_decide_eq_true h.2
    subst h1 h2
    exact ⟨_, _, rfl⟩
  · cases h
abbrev σS (t : Str) : Sg := [some (.str t), some (.ref 0), some (.ref 1), none, none, none, none, none]
/-- a line that is refused behind P -/
def okB (P : List Str) (t : Str) (o : IO) (bs : List Str) : Bool := match tr (P.map W.str) 0 (σS t) [.lst [], .lst [], o] with
  | .nx s h => bs.all fun b => match gE (.tup [.int (P.length : Nat), .str b]) s with
    | some σ' => isX ((P.length : Int) + 1) (bE σ' h)
    | none => false
  | _ => false
end Dr.L
set_option maxHeartbeats 4000000
namespace Dr.L
open PySem L2 PyProof.Rows Dr
def RN : List Str := RO.filter fun b => !(eqS b "own late red")
theorem cA0 (t : Str) (o : IO) : okB HE t o RN = true := by kernel_rfl
theorem cA1 (t : Str) (o : IO) : okB (HE ++ RU.take 1) t o RN = true := by kernel_rfl
theorem cA2 (t : Str) (o : IO) : okB (HE ++ RU.take 2) t o RN = true := by kernel_rfl
theorem cA3 (t : Str) (o : IO) : okB (HE ++ RU.take 3) t o RN = true := by kernel_rfl
theorem cB1 (t : Str) (o : IO) : okB (HE ++ RU.take 1) t o ["own late red"] = true := by kernel_rfl
theorem cB2 (t : Str) (o : IO) : okB (HE ++ RU.take 2) t o ["own late red"] = true := by kernel_rfl
theorem cB3 (t : Str) (o : IO) : okB (HE ++ RU.take 3) t o ["own late red"] = true := by kernel_rfl
theorem cB4 (t : Str) (o : IO) : okB (HE ++ RU.take 4) t o ["own late red"] = true := by kernel_rfl
theorem cC1 (t : Str) (o : IO) : okB (HE.take 1) t o BH = true := by kernel_rfl
theorem cC2 (t : Str) (o : IO) : okB (HE.take 2) t o BH = true := by kernel_rfl
theorem cC3 (t : Str) (o : IO) : okB (HE.take 3) t o BH = true := by kernel_rfl
theorem kpA (t : Str) (o : IO) : kp 2 ((HE ++ RU).map W.str) 0 (σS t) [.lst [], .lst [], o] = List.replicate 8 (some o) := by kernel_rfl
end Dr.L
set_option maxHeartbeats 4000000
namespace Dr.L
open PySem L2 PyProof.Rows Dr
def isLs (ws : List W) (o : Out) : Bool := match lstOut o, ws with
  | some [.str a, .int n, .bl b], [.str a', .int n', .bl b'] => eqS a a' && (decide (n = n') && (b == b'))
  | some [], [] => true
  | _, _ => false
def MANY : List Str := ["own pa x", "own pb x", "own pc x", "own pd x", "own pe x", "own pf x", "own pg x", "own ph x", "own pi x", "own pj x", "own pk x", "own pl x"]
def RULE : Str := "a { pa: y; pb: y; pc: y; pd: y; pe: y; pf: y; pg: y; ph: y; pi: y; pj: y; pk: y; pl: y }"
def WIDE : Str := appS (Txt.join ", " (List.replicate 24 "a")) " { pa: y }"
def DEEP : Str := appS (appS (appS (appS "own pa x\na { pa: y }\n" (repS ":not(" 1200)) "a") (repS ")" 1200)) " { pa: y }"
theorem m12 : isLs [] (run 60 83 [.str (Txt.join "\n" MANY)] []) = true := by decide +kernel
theorem m13 : isLs [.str "line", .int 13, .bl true] (run 60 83 [.str (Txt.join "\n" (MANY ++ (["own q x"] : List Str)))] []) = true := by decide +kernel
theorem r2 : isLs [] (run 60 83 [.str (Txt.join "\n" (MANY ++ [RULE, RULE]))] []) = true := by decide +kernel
theorem r3 : isLs [.str "limit", .int 24, .bl true] (run 60 83 [.str (Txt.join "\n" (MANY ++ [RULE, RULE] ++ (["b { pa: y }"] : List Str)))] []) = true := by decide +kernel
theorem w1 : isLs [] (run 60 83 [.str (appS "own pa x\n" WIDE)] []) = true := by decide +kernel
theorem w2 : isLs [.str "limit", .int 24, .bl true] (run 60 83 [.str (appS (appS "own pa x\n" WIDE) "\nb { pa: y }")] []) = true := by decide +kernel
theorem w3 : isLs [.str "line", .int 4, .bl true] (run 60 83 [.str (appS (appS "own pa x\n" WIDE) "\nb { pa: y }\nc")] []) = true := by decide +kernel
theorem dp : isLs [.str "line", .int 3, .bl true] (run 60 83 [.str DEEP] []) = true := by decide +kernel
end Dr.L
set_option maxHeartbeats 4000000
namespace Dr.L
open PySem L2 PyProof.Rows Dr
theorem kp_take (p : Nat) : ∀ (ws : List W) (n i : Nat) (σ : Sg) (h : IH), kp p (ws.take n) i σ h = (kp p ws i σ h).take (n + 1)
  | [], n, i, σ, h => by
    rw [List.take_nil]
    unfold kp
    simp
  | w :: ws, 0, i, σ, h => by
    rw [List.take_zero]
    unfold kp
    simp
  | w :: ws, n + 1, i, σ, h => by
    rw [List.take_succ_cons]
    show h[p]? :: _ = (h[p]? :: _).take (n + 1 + 1)
    rw [List.take_succ_cons]
    congr 1
    cases gE (.tup [.int (i : Nat), w]) σ with
    | none => rfl
    | some σ' =>
      simp only
      cases bE σ' h with
      | nx s h2 => exact kp_take p ws n (i + 1) s h2
      | ct s h2 => exact kp_take p ws n (i + 1) s h2
      | bk _ _ => rfl
      | ex _ _ _ _ => rfl
      | v _ _ => rfl
      | vs _ _ => rfl
      | rt _ _ => rfl
      | no => rfl
theorem kp_at {n : Nat} (hn : n ≤ 7) (t : Str) (o : IO) : kp 2 (((HE ++ RU).take n).map W.str) 0 (σS t) [.lst [], .lst [], o] = List.replicate (((HE ++ RU).take n).map W.str).length.succ (some o) := by
  rw [List.map_take, kp_take, kpA, List.take_replicate, List.length_take, List.length_map]
  congr 1
  have : (HE ++ RU).length = 7 := rfl
  omega
theorem forE_ex {p fuel i : Nat} {g : Tg} {b : Ev} {ws : List W} {w v : W} {σ σ' s : Sg} {h h' : IH} {c : Nat} (hl : h[p]? = some (.lst ws)) (hw : ws[i]? = some w) (hg : g (.tup [.int (i : Nat), w]) σ = some σ') (hb : b σ' h = .ex c v s h') :
    forL (jE p) g b (fuel + 1) i σ h = .ex c v s h' := by
  show (match jE p i h with | none => _ | some none => _ | some (some w) => _) = _
  have : jE p i h = some (some (.tup [.int (i : Nat), w])) := by simp only [jE, lstAt, hl, hw]
  rw [this]
  show (match g (.tup [.int (i : Nat), w]) σ with | none => _ | some σ' => _) = _
  rw [hg]
  show (match b σ' h with | .nx s h2 => _ | .ct s h2 => _ | .bk s h2 => _ | .rt w h2 => _ | .ex c w s h2 => _ | _ => _) = _
  rw [hb]
/-- what stands behind P does not matter -/
theorem loop_bad {n N : Nat} {t b : Str} {tail bs : List Str} (hn : n ≤ 7) (ok : ∀ t o, okB ((HE ++ RU).take n) t o bs = true) (hb : b ∈ bs) :
    ∃ s h, forL (jE 2) gE bE (N + 1 + n) 0 (σS t) [.lst [], .lst [], .lst (((HE ++ RU).take n ++ b :: tail).map W.str)] = .ex 1 (.int ((n : Int) + 1)) s h := by
  obtain ⟨P, hP⟩ : ∃ P, P = (HE ++ RU).take n := ⟨_, rfl⟩
  have lP : P.length = n := by
    have : (HE ++ RU).length = 7 := rfl
    rw [hP, List.length_take]; omega
  obtain ⟨all, ha⟩ : ∃ all, all = (P ++ b :: tail).map W.str := ⟨_, rfl⟩
  have k := kp_at hn t (.lst all)
  have q := ok t (.lst all)
  rw [← hP] at k q ⊢
  rw [← ha]
  unfold okB at q
  split at q
  · rename_i s h e
    have q := List.all_eq_true.mp q b hb
    split at q
    · rename_i σ' eg
      obtain ⟨s', h', eb⟩ := isX_of q
      have lm : (P.map W.str).length = n := by rw [List.length_map, lP]
      obtain ⟨t1, t2⟩ := tr_for (p := 2) (all := all) (N := N + 1) (P.map W.str) 0 (σS t) _ s h (fun j hj => by
        rw [ha, List.map_append, Nat.zero_add, List.getElem?_append_left hj]) k e
      rw [lm] at t1
      rw [lP] at eg eb
      refine ⟨s', h', ?_⟩
      rw [t1, Nat.zero_add]
      refine forE_ex t2 ?_ eg eb
      rw [ha, List.map_append, List.getElem?_append_right (by rw [lm]; omega), lm, Nat.sub_self]
      rfl
    · cases q
  · cases q
theorem split_it {t : Str} {L : List Str} (ht : t = Txt.join "\n" L) (hne : L ≠ []) (hl : ∀ p ∈ L, 10 ∉ p.cps.toList) (hz : t.length + 2 ≤ 16777216) {σ : Sg} {h : IH} (h0 : σ[0]? = some (some (.str t))) :
    iE (eCons (eBM "str" mSplitF (eLoc 0) (eCons (eK (.str "\n")) eNil)) eNil) σ h = .it (jE h.length) (h ++ [.lst (L.map W.str)]) := by
  have e : Txt.split t "\n" = L := by
    rw [ht]
    exact TL.split_join (y := ("\n" : Str)) (s := 10) (S := []) (by decide +kernel) (by decide +kernel) hne hl
  have s : mSplitF (.str t) [.str "\n"] h = .v (.ref h.length) (h ++ [.lst (L.map W.str)]) := by
    rcases mSplitF_eq (.str t) [.str "\n"] h with q | q
    · rw [q]
      unfold mSplit
      simp only
      rw [if_pos (show ((("\n" : Str).length == 0) = false ∧ t.length + 2 ≤ 16777216) from ⟨by decide +kernel, hz⟩), e]
      rfl
    · exfalso
      have : mSplitF (.str t) [.str "\n"] h = (if Nat.blt 10 256 = true then (if t.length + 2 ≤ 16777216 then .v (.ref h.length) (h ++ [.lst ((spF 10 t.length t.cps.toList).map fun l => .str ⟨l.toArray⟩)]) else .no) else .no) := rfl
      rw [this, if_pos (show Nat.blt 10 256 = true from rfl), if_pos hz] at q
      cases q
  have ev : eCons (eBM "str" mSplitF (eLoc 0) (eCons (eK (.str "\n")) eNil)) eNil σ h = .vs [.ref h.length] (h ++ [.lst (L.map W.str)]) := by
    rw [eCons_ap, eBM_ap, eLoc_ap, h0, locO_s, vb_v, if_pos (show tyW "str" (.str t) h = true from rfl), eCons_ap, eK_ap, vb_v, eNil_ap, vsb_vs, vsb_vs, s, vb_v, eNil_ap, vsb_vs]
  unfold iE
  rw [ev]
  show (match lstAt (h ++ [IO.lst (L.map W.str)]) h.length with | some _ => _ | none => _) = _
  have : lstAt (h ++ [IO.lst (L.map W.str)]) h.length = some (L.map W.str) := by simp [lstAt]
  rw [this]
theorem r70 {n : Nat} {t b : Str} {tail bs : List Str} (hn : n ≤ 7) (ok : ∀ t o, okB ((HE ++ RU).take n) t o bs = true) (hb : b ∈ bs) (ht : t = Txt.join "\n" ((HE ++ RU).take n ++ b :: tail)) (hl : ∀ p ∈ (HE ++ RU).take n ++ b :: tail, 10 ∉ p.cps.toList) (hz : t.length + 2 ≤ 16777216) :
    ∃ s h, run 59 70 [.str t] [] = .ex 1 (.int ((n : Int) + 1)) s h := by
  obtain ⟨N, hN⟩ : ∃ N, nF = N + 1 + n := ⟨99999 - n, by show 100000 = _; omega⟩
  obtain ⟨s, h, e⟩ := loop_bad (N := N) (t := t) (tail := tail) hn ok hb
  refine ⟨s, h, ?_⟩
  show (b70 (run 58) nF [some (.str t), none, none, none, none, none, none, none] []).fin = _
  have it := split_it (σ := σS t) (h := [.lst [], .lst []]) ht (by simp) hl hz rfl
  have ef : eFor nF (iE (eCons (eBM "str" mSplitF (eLoc 0) (eCons (eK (.str "\n")) eNil)) eNil)) (gT [3, 4]) (q70_0 (run 58) nF) (σS t) [.lst [], .lst []] = .ex 1 (.int ((n : Int) + 1)) s h := by
    rw [eFor_it it]
    rw [hN] at *
    exact e
  unfold b70
  rw [eSeq_ap]
  show (Out.nb (Out.nx [some (.str t), none, none, none, none, none, none, none] []) _).fin = _
  rw [nb_nx, eSeq_ap, show eAsg (gN 1) (eLst eNil) [some (.str t), none, none, none, none, none, none, none] [] = .nx [some (.str t), some (.ref 0), none, none, none, none, none, none] [.lst []] from rfl, nb_nx, eSeq_ap,
    show eAsg (gN 2) (eLst eNil) [some (.str t), some (.ref 0), none, none, none, none, none, none] [.lst []] = .nx (σS t) [.lst [], .lst []] from rfl, nb_nx, eSeq_ap, ef]
  rfl
theorem r83 {v : W} {n : W} {s : Sg} {h h' : IH} (e : run 59 70 [v] h = .ex 1 n s h') : run 60 83 [v] h = .v (.ref h'.length) (h' ++ [.lst [.str "line", n, .bl true]]) := by
  show fnOf 1 2 (b83 (run 59) nF) [v] h = _
  simp [fnOf, b83, slots, e, runH, texm1, txf0, txi0, holds0, Out.un]
/-- a wrong line behind the first n lines -/
theorem said_bad {n : Nat} {t b : Str} {tail bs : List Str} {h : IH} (hn : n ≤ 7) (ok : ∀ t o, okB ((HE ++ RU).take n) t o bs = true) (hb : b ∈ bs) (ht : t = Txt.join "\n" ((HE ++ RU).take n ++ b :: tail)) (hl : ∀ p ∈ (HE ++ RU).take n ++ b :: tail, 10 ∉ p.cps.toList) (hz : t.length + 2 ≤ 16777216) :
    clP 83 [.str t] h = .v (.ref h.length) (h ++ [.lst [.str "line", .int ((n : Int) + 1), .bl true]]) := by
  obtain ⟨s, h', e⟩ := r70 hn ok hb ht hl hz
  exact pureFn_lst (f := run 60 83) rfl (by rw [r83 e]; simp [lstOut]) rfl
end Dr.L
set_option maxHeartbeats 4000000
namespace Dr.L
open PySem L2 PyProof.Rows Dr
abbrev lsS (l : List Str) : IO := .lst (l.map W.str)
abbrev HH (R l1 l3 : List W) (a b : Int) : IH := [.rol R, lsS HE, lsS BH, lsS RO, lsS (RU.take 3), lsS (RU.drop 3), lsS RU, lsS (HE ++ RU), .lst [], .lst [], .lst l1, .lst [.int 0], .lst l3, .lst [.int a, .int b]]
abbrev σT (k i y8 y9 y10 : Option W) : Sg := [some (.ref 0), some (.ref 1), some (.ref 2), some (.ref 3), some (.ref 6), k, some (.ref 13), i, y8, y9, y10, none, none, none, none, none, none]
section
variable {R l1 l3 : List W} {a b : Int} {k i y8 y9 y10 : Option W} {g : IH}
theorem cl82 : clP 82 = fnOf 2 3 takeB := rfl
theorem cl81 : clP 81 = fnOf 2 5 poolB := rfl
theorem tk {m : Int} (ha : 0 ≤ a) (hb : 0 ≤ b) (hb2 : b < 2147483647) (h0 : 0 < m) (h1 : m < 1073741824) :
    ∃ r a' b', 0 ≤ r ∧ r < m ∧ 0 ≤ a' ∧ 0 ≤ b' ∧ b' < 2147483647 ∧ clP 82 [.ref 13, .int m] (HH R l1 l3 a b ++ g) = .v (.int r) (HH R l1 l3 a' b' ++ g) := by
  obtain ⟨r, a', b', r0, r1, hp, e⟩ := take_ok (h := HH R l1 l3 a b ++ g) (p := 13) (m := m) (a := a) (b := b) ⟨rfl, ha, hb, hb2⟩ h0 h1
  exact ⟨r, a', b', r0, r1, hp.ha, hp.hb, hp.hb2, by rw [cl82, e]; rfl⟩
theorem ln_ls {p : Nat} {l : List Str} {h : IH} (hp : h[p]? = some (lsS l)) : bLen [.ref p] h = .v (.int l.length) h := by
  show (match lstAt h p with | some ls => Out.v (.int (ls.length : Nat)) h | none => .no) = _
  unfold lstAt
  rw [hp]
  simp
theorem ix_ls {p j : Nat} {l : List Str} {h : IH} {s : Str} (hp : h[p]? = some (lsS l)) (hj : l[j]? = some s) : oIx (.ref p) (.int (j : Nat)) h = .v (.str s) h := by
  simp only [oIx, hp, ixW]
  have : L2.atI (l.map W.str) (j : Int) = some (.str s) := by
    unfold L2.atI L2.ixN
    have hl := (List.getElem?_eq_some_iff.mp hj).1
    rw [if_pos (by omega)]
    simp [hj, hl, (List.getElem?_eq_some_iff.mp hj).2]
  rw [this]
/-- the lines -/
theorem s1 (ha : 0 ≤ a) (hb : 0 ≤ b) (hb2 : b < 2147483647) : ∃ (n : Nat) (a' b' : Int) (g' : IH), 1 ≤ n ∧ n ≤ 4 ∧ 0 ≤ a' ∧ 0 ≤ b' ∧ b' < 2147483647 ∧
    eAsg (gN 8) (eBin oAdd (eLoc 1) (eSl (eLoc 4) (eK .non) (eInt (eBin oAdd (eK (.int 1)) (eCall (clP 82) [] (eCons (eLoc 6) (eCons (eK (.int 4)) eNil))))))) (σT k i y8 y9 y10) (HH R l1 l3 a b) = .nx (σT k i (some (.ref 15)) y9 y10) (HH R l1 l3 a' b' ++ [lsS (RU.take n), lsS ((HE ++ RU).take (3 + n))]) := by
  obtain ⟨r, a', b', r0, r4, ha', hb', hb2', e⟩ := tk (R := R) (l1 := l1) (l3 := l3) (g := []) ha hb hb2 (m := 4) (by decide) (by decide)
  rw [List.append_nil, List.append_nil] at e
  obtain ⟨n, hn, n1, n4⟩ : ∃ n : Nat, (1 : Int) + r = (n : Int) ∧ 1 ≤ n ∧ n ≤ 4 := ⟨(1 + r).toNat, by omega, by omega, by omega⟩
  refine ⟨n, a', b', [], n1, n4, ha', hb', hb2', ?_⟩
  have sl : oSl (.ref 6) none (some (n : Int)) (HH R l1 l3 a' b') = .v (.ref 14) (HH R l1 l3 a' b' ++ [lsS (RU.take n)]) := by
    rw [oSl_lst (xs := RU.map W.str) rfl, cut_take, ← List.map_take]; rfl
  have ad : oAdd (.ref 1) (.ref 14) (HH R l1 l3 a' b' ++ [lsS (RU.take n)]) = .v (.ref 15) (HH R l1 l3 a' b' ++ [lsS (RU.take n), lsS ((HE ++ RU).take (3 + n))]) := by
    have c : (HE.map W.str).length + ((RU.take n).map W.str).length ≤ 16777216 := by
      rw [List.length_map, List.length_map, List.length_take]
      have : HE.length = 3 := rfl
      have := Nat.min_le_left n RU.length
      omega
    rw [oAdd_lst (xs := HE.map W.str) (ys := (RU.take n).map W.str) rfl rfl c, ← List.map_append]
    have : HE ++ RU.take n = (HE ++ RU).take (3 + n) := by
      have h3 : HE.length = 3 := rfl
      have h4 : HE.length ≤ 3 + n := by rw [h3]; exact Nat.le_add_right _ _
      rw [List.take_append, List.take_of_length_le h4, h3, Nat.add_sub_cancel_left]
    rw [this]; rfl
  have e1 : eLoc 1 (σT k i y8 y9 y10) (HH R l1 l3 a b) = .v (.ref 1) (HH R l1 l3 a b) := rfl
  have e4 : eLoc 4 (σT k i y8 y9 y10) (HH R l1 l3 a b) = .v (.ref 6) (HH R l1 l3 a b) := rfl
  have ec : eBin oAdd (eK (.int 1)) (eCall (clP 82) [] (eCons (eLoc 6) (eCons (eK (.int 4)) eNil))) (σT k i y8 y9 y10) (HH R l1 l3 a b) = .v (.int n) (HH R l1 l3 a' b') := by
    rw [eBin_ap, eK_ap, vb_v, eCall_ap, eCons_ap, show eLoc 6 (σT k i y8 y9 y10) (HH R l1 l3 a b) = .v (.ref 13) (HH R l1 l3 a b) from rfl, vb_v, eCons_ap, eK_ap, vb_v, eNil_ap, vsb_vs, vsb_vs, vsb_vs, List.append_nil, e, cb_v, vb_v]
    show Out.v (.int (1 + r)) _ = _
    rw [hn]
  rw [eAsg_ap, eBin_ap, e1, vb_v, eSl_ap, e4, vb_v, eK_ap, pb_v, pm_non, eInt_ap, ec, vb_v, pb_v, pm_int, sl, vb_v, ad, vb_v]
  rfl
abbrev LATE : Str := "own late red"
theorem c82 {m : Int} {σ : Sg} {E : Ev} {h h1 h2 : IH} {r : Int} (h6 : σ[6]? = some (some (.ref 13))) (eE : E σ h = .v (.int m) h1) (e : clP 82 [.ref 13, .int m] h1 = .v (.int r) h2) : eCall (clP 82) [] (eCons (eLoc 6) (eCons E eNil)) σ h = .v (.int r) h2 := by
  rw [eCall_ap, eCons_ap, eLoc_ap, h6, locO_s, vb_v, eCons_ap, eE, vb_v, eNil_ap, vsb_vs, vsb_vs, vsb_vs, List.append_nil, e, cb_v]
theorem s2 {n : Nat} {o14 : IO} {L : List Str} (hL : L.length = 3 + n) (hn : 1 ≤ n) (hn4 : n ≤ 4) (ha : 0 ≤ a) (hb : 0 ≤ b) (hb2 : b < 2147483647) : ∃ (m : Nat) (line : Str) (a' b' : Int), m < n ∧ line ∈ RO ∧ 0 ≤ a' ∧ 0 ≤ b' ∧ b' < 2147483647 ∧
    ePar 9 10 (eCons (eBin oIx (eLoc 3) (eCall (clP 82) [] (eCons (eLoc 6) (eCons (eBlt bLen (eCons (eLoc 3) eNil)) eNil)))) (eCons (eBin oAdd (eK (.int 3)) (eCall (clP 82) [] (eCons (eLoc 6) (eCons (eBin oSub (eBlt bLen (eCons (eLoc 8) eNil)) (eK (.int 3))) eNil)))) eNil))
      (σT k i (some (.ref 15)) y9 y10) (HH R l1 l3 a b ++ [o14, lsS L]) = .nx (σT k i (some (.ref 15)) (some (.str line)) (some (.int ((3 + m : Nat) : Int)))) (HH R l1 l3 a' b' ++ [o14, lsS L]) := by
  have lRO : RO.length = 44 := rfl
  obtain ⟨r, a1, b1, r0, r4, ha1, hb1, hb21, e⟩ := tk (R := R) (l1 := l1) (l3 := l3) (g := [o14, lsS L]) ha hb hb2 (m := 44) (by decide) (by decide)
  obtain ⟨r', a2, b2, r0', r4', ha2, hb2', hb22, e'⟩ := tk (R := R) (l1 := l1) (l3 := l3) (g := [o14, lsS L]) ha1 hb1 hb21 (m := (n : Int)) (by omega) (by omega)
  obtain ⟨j, rfl⟩ : ∃ j : Nat, r = (j : Int) := ⟨r.toNat, by omega⟩
  obtain ⟨m, rfl⟩ : ∃ m : Nat, r' = (m : Int) := ⟨r'.toNat, by omega⟩
  have hj : j < RO.length := by omega
  refine ⟨m, RO[j], a2, b2, by omega, List.getElem_mem hj, ha2, hb2', hb22, ?_⟩
  have b3 : eBlt bLen (eCons (eLoc 3) eNil) (σT k i (some (.ref 15)) y9 y10) (HH R l1 l3 a b ++ [o14, lsS L]) = .v (.int 44) (HH R l1 l3 a b ++ [o14, lsS L]) := by
    rw [eBlt_ap, eCons_ap, show eLoc 3 (σT k i (some (.ref 15)) y9 y10) (HH R l1 l3 a b ++ [o14, lsS L]) = .v (.ref 3) (HH R l1 l3 a b ++ [o14, lsS L]) from rfl, vb_v, eNil_ap, vsb_vs, vsb_vs, ln_ls (l := RO) rfl, lRO]
    rfl
  have b8 : eBin oSub (eBlt bLen (eCons (eLoc 8) eNil)) (eK (.int 3)) (σT k i (some (.ref 15)) y9 y10) (HH R l1 l3 a1 b1 ++ [o14, lsS L]) = .v (.int n) (HH R l1 l3 a1 b1 ++ [o14, lsS L]) := by
    rw [eBin_ap, eBlt_ap, eCons_ap, show eLoc 8 (σT k i (some (.ref 15)) y9 y10) (HH R l1 l3 a1 b1 ++ [o14, lsS L]) = .v (.ref 15) (HH R l1 l3 a1 b1 ++ [o14, lsS L]) from rfl, vb_v, eNil_ap, vsb_vs, vsb_vs, ln_ls (l := L) rfl, hL, vb_v, eK_ap, vb_v]
    show Out.v (.int (((3 + n : Nat) : Int) - 3)) _ = _
    rw [show (((3 + n : Nat) : Int) - 3) = (n : Int) by omega]
  have x1 : eBin oIx (eLoc 3) (eCall (clP 82) [] (eCons (eLoc 6) (eCons (eBlt bLen (eCons (eLoc 3) eNil)) eNil))) (σT k i (some (.ref 15)) y9 y10) (HH R l1 l3 a b ++ [o14, lsS L]) = .v (.str RO[j]) (HH R l1 l3 a1 b1 ++ [o14, lsS L]) := by
    rw [eBin_ap, show eLoc 3 (σT k i (some (.ref 15)) y9 y10) (HH R l1 l3 a b ++ [o14, lsS L]) = .v (.ref 3) (HH R l1 l3 a b ++ [o14, lsS L]) from rfl, vb_v, c82 rfl b3 e, vb_v]
    exact ix_ls (l := RO) rfl (List.getElem?_eq_getElem hj)
  have x2 : eBin oAdd (eK (.int 3)) (eCall (clP 82) [] (eCons (eLoc 6) (eCons (eBin oSub (eBlt bLen (eCons (eLoc 8) eNil)) (eK (.int 3))) eNil))) (σT k i (some (.ref 15)) y9 y10) (HH R l1 l3 a1 b1 ++ [o14, lsS L]) = .v (.int ((3 + m : Nat) : Int)) (HH R l1 l3 a2 b2 ++ [o14, lsS L]) := by
    rw [eBin_ap, eK_ap, vb_v, c82 rfl b8 e', vb_v]
    rfl
  unfold ePar
  rw [eCons_ap, x1, vb_v, eCons_ap, x2, vb_v, eNil_ap, vsb_vs, vsb_vs]
  rfl
theorem s3 {n m : Nat} {o14 : IO} {L : List Str} {line : Str} (hL : L.length = 3 + n) :
    eIfS (eBin oEq (eLoc 9) (eK (.str "own late red"))) (eAsg (gN 10) (eBlt bLen (eCons (eLoc 8) eNil))) eEnd (σT k i (some (.ref 15)) (some (.str line)) (some (.int ((3 + m : Nat) : Int)))) (HH R l1 l3 a b ++ [o14, lsS L]) =
      .nx (σT k i (some (.ref 15)) (some (.str line)) (some (.int ((3 + (if line = LATE then n else m) : Nat) : Int)))) (HH R l1 l3 a b ++ [o14, lsS L]) := by
  have c : eBin oEq (eLoc 9) (eK (.str "own late red")) (σT k i (some (.ref 15)) (some (.str line)) (some (.int ((3 + m : Nat) : Int)))) (HH R l1 l3 a b ++ [o14, lsS L]) = .v (.bl (decide (line = LATE))) (HH R l1 l3 a b ++ [o14, lsS L]) := by
    rw [eBin_ap, show eLoc 9 (σT k i (some (.ref 15)) (some (.str line)) (some (.int ((3 + m : Nat) : Int)))) (HH R l1 l3 a b ++ [o14, lsS L]) = .v (.str line) (HH R l1 l3 a b ++ [o14, lsS L]) from rfl, vb_v, eK_ap, vb_v]
    show Out.v (.bl (eqS line LATE)) _ = _
    rw [eqS_eq]
  rw [eIfS_ap, c, vb_v]
  by_cases q : line = LATE
  · rw [if_pos q]
    simp only [q, decide_true]
    show eAsg (gN 10) (eBlt bLen (eCons (eLoc 8) eNil)) (σT k i (some (.ref 15)) (some (.str LATE)) (some (.int ((3 + m : Nat) : Int)))) (HH R l1 l3 a b ++ [o14, lsS L]) = _
    rw [eAsg_ap, eBlt_ap, eCons_ap, show eLoc 8 (σT k i (some (.ref 15)) (some (.str LATE)) (some (.int ((3 + m : Nat) : Int)))) (HH R l1 l3 a b ++ [o14, lsS L]) = .v (.ref 15) (HH R l1 l3 a b ++ [o14, lsS L]) from rfl, vb_v, eNil_ap, vsb_vs, vsb_vs, ln_ls (l := L) rfl, hL, vb_v]
    rfl
  · rw [if_neg q]
    simp only [q, decide_false]
    rfl
theorem s4 {o14 : IO} {L : List Str} {w9 : Str} {p : Nat} (ha : 0 ≤ a) (hb : 0 ≤ b) (hb2 : b < 2147483647) : ∃ (line : Str) (q : Nat) (a' b' : Int), ((line = w9 ∧ q = p) ∨ (line ∈ BH ∧ 1 ≤ q ∧ q ≤ 3)) ∧ 0 ≤ a' ∧ 0 ≤ b' ∧ b' < 2147483647 ∧
    eIfS (eBin oEq (eCall (clP 82) [] (eCons (eLoc 6) (eCons (eK (.int 3)) eNil))) (eK (.int 0))) (ePar 9 10 (eCons (eBin oIx (eLoc 2) (eCall (clP 82) [] (eCons (eLoc 6) (eCons (eBlt bLen (eCons (eLoc 2) eNil)) eNil)))) (eCons (eBin oAdd (eK (.int 1)) (eCall (clP 82) [] (eCons (eLoc 6) (eCons (eK (.int 3)) eNil)))) eNil))) eEnd
      (σT k i (some (.ref 15)) (some (.str w9)) (some (.int (p : Nat)))) (HH R l1 l3 a b ++ [o14, lsS L]) = .nx (σT k i (some (.ref 15)) (some (.str line)) (some (.int (q : Nat)))) (HH R l1 l3 a' b' ++ [o14, lsS L]) := by
  have lBH : BH.length = 21 := rfl
  obtain ⟨r, a1, b1, r0, r4, ha1, hb1, hb21, e⟩ := tk (R := R) (l1 := l1) (l3 := l3) (g := [o14, lsS L]) ha hb hb2 (m := 3) (by decide) (by decide)
  have c : eBin oEq (eCall (clP 82) [] (eCons (eLoc 6) (eCons (eK (.int 3)) eNil))) (eK (.int 0)) (σT k i (some (.ref 15)) (some (.str w9)) (some (.int (p : Nat)))) (HH R l1 l3 a b ++ [o14, lsS L]) = .v (.bl (decide (r = 0))) (HH R l1 l3 a1 b1 ++ [o14, lsS L]) := by
    rw [eBin_ap, c82 rfl (eK_ap ..) e, vb_v, eK_ap, vb_v]
    rfl
  by_cases q : r = 0
  · obtain ⟨x, a2, b2, x0, x4, ha2, hb2', hb22, e2⟩ := tk (R := R) (l1 := l1) (l3 := l3) (g := [o14, lsS L]) ha1 hb1 hb21 (m := 21) (by decide) (by decide)
    obtain ⟨y, a3, b3, y0, y4, ha3, hb3, hb23, e3⟩ := tk (R := R) (l1 := l1) (l3 := l3) (g := [o14, lsS L]) ha2 hb2' hb22 (m := 3) (by decide) (by decide)
    obtain ⟨j, rfl⟩ : ∃ j : Nat, x = (j : Int) := ⟨x.toNat, by omega⟩
    obtain ⟨m, rfl⟩ : ∃ m : Nat, y = (m : Int) := ⟨y.toNat, by omega⟩
    have hj : j < BH.length := by omega
    refine ⟨BH[j], 1 + m, a3, b3, .inr ⟨List.getElem_mem hj, by omega, by omega⟩, ha3, hb3, hb23, ?_⟩
    have b2l : eBlt bLen (eCons (eLoc 2) eNil) (σT k i (some (.ref 15)) (some (.str w9)) (some (.int (p : Nat)))) (HH R l1 l3 a1 b1 ++ [o14, lsS L]) = .v (.int 21) (HH R l1 l3 a1 b1 ++ [o14, lsS L]) := by
      rw [eBlt_ap, eCons_ap, show eLoc 2 (σT k i (some (.ref 15)) (some (.str w9)) (some (.int (p : Nat)))) (HH R l1 l3 a1 b1 ++ [o14, lsS L]) = .v (.ref 2) (HH R l1 l3 a1 b1 ++ [o14, lsS L]) from rfl, vb_v, eNil_ap, vsb_vs, vsb_vs, ln_ls (l := BH) rfl, lBH]
      rfl
    have x1 : eBin oIx (eLoc 2) (eCall (clP 82) [] (eCons (eLoc 6) (eCons (eBlt bLen (eCons (eLoc 2) eNil)) eNil))) (σT k i (some (.ref 15)) (some (.str w9)) (some (.int (p : Nat)))) (HH R l1 l3 a1 b1 ++ [o14, lsS L]) = .v (.str BH[j]) (HH R l1 l3 a2 b2 ++ [o14, lsS L]) := by
      rw [eBin_ap, show eLoc 2 (σT k i (some (.ref 15)) (some (.str w9)) (some (.int (p : Nat)))) (HH R l1 l3 a1 b1 ++ [o14, lsS L]) = .v (.ref 2) (HH R l1 l3 a1 b1 ++ [o14, lsS L]) from rfl, vb_v, c82 rfl b2l e2, vb_v]
      exact ix_ls (l := BH) rfl (List.getElem?_eq_getElem hj)
    have x2 : eBin oAdd (eK (.int 1)) (eCall (clP 82) [] (eCons (eLoc 6) (eCons (eK (.int 3)) eNil))) (σT k i (some (.ref 15)) (some (.str w9)) (some (.int (p : Nat)))) (HH R l1 l3 a2 b2 ++ [o14, lsS L]) = .v (.int ((1 + m : Nat) : Int)) (HH R l1 l3 a3 b3 ++ [o14, lsS L]) := by
      rw [eBin_ap, eK_ap, vb_v, c82 rfl (eK_ap ..) e3, vb_v]
      rfl
    rw [eIfS_ap, c, vb_v]
    simp only [q, decide_true]
    show ePar 9 10 _ (σT k i (some (.ref 15)) (some (.str w9)) (some (.int (p : Nat)))) (HH R l1 l3 a1 b1 ++ [o14, lsS L]) = _
    unfold ePar
    rw [eCons_ap, x1, vb_v, eCons_ap, x2, vb_v, eNil_ap, vsb_vs, vsb_vs]
    rfl
  · refine ⟨w9, p, a1, b1, .inl ⟨rfl, rfl⟩, ha1, hb1, hb21, ?_⟩
    rw [eIfS_ap, c, vb_v]
    simp only [q, decide_false]
    rfl
/-! ### the text -/
def jnl (z : List Nat) : List (List Nat) → List Nat
  | [] => []
  | [x] => x
  | x :: y :: r => x ++ (z ++ jnl z (y :: r))
theorem join_le (z : Str) : ∀ l : List Str, (Txt.join z l).length ≤ (l.map (·.length)).sum + l.length * z.length := by
  intro l
  have e : Txt.join z l = Str.join z l := TL.join_eq z l
  rw [e]
  have t := TL.tl_join z l
  have : (Str.join z l).length = (TL.tl (Str.join z l)).length := by simp [Str.length, TL.tl]
  rw [this, t]
  clear t this e
  induction l with
  | nil => simp [TL.joinL]
  | cons x r ih =>
    cases r with
    | nil => simp [TL.joinL, TL.tl, Str.length]
    | cons y r =>
      simp only [List.map_cons, TL.joinL, List.length_append, List.sum_cons, List.length_cons] at ih ⊢
      have hx : (TL.tl x).length = x.length := by simp [TL.tl, Str.length]
      have hz : (TL.tl z).length = z.length := by simp [TL.tl, Str.length]
      rw [hx, hz]
      have : (r.length + 1 + 1) * z.length = (r.length + 1) * z.length + z.length := by rw [Nat.add_mul, Nat.one_mul]
      omega
theorem sum_map_le (B : Nat) : ∀ l : List Str, (∀ x ∈ l, x.length ≤ B) → (l.map (·.length)).sum ≤ l.length * B
  | [], _ => by simp
  | x :: r, h => by
    have h1 := h x (List.mem_cons_self ..)
    have h2 := sum_map_le B r fun y hy => h y (List.mem_cons_of_mem _ hy)
    simp only [List.map_cons, List.sum_cons, List.length_cons, Nat.add_mul, Nat.one_mul]
    omega
def okS (s : Str) : Bool := Nat.ble s.length 200 && !(s.cps.toList.contains 10)
theorem all_ok : (HE ++ RU ++ RO ++ BH).all okS = true := by decide +kernel
theorem ok_of {s : Str} (h : s ∈ HE ++ RU ++ RO ++ BH) : s.length ≤ 200 ∧ 10 ∉ s.cps.toList := by
  have := List.all_eq_true.mp all_ok s h
  unfold okS at this
  have h2 := Bool.and_eq_true_iff.mp this
  exact ⟨Nat.le_of_ble_eq_true h2.1, by simpa using h2.2⟩
/-- what is drawn is refused -/
theorem drawn {n q : Nat} {line : Str} (hn : n ≤ 4) (h1 : 1 ≤ n) (h : (∃ w9 m, w9 ∈ RO ∧ m < n ∧ line = w9 ∧ q = 3 + (if w9 = LATE then n else m)) ∨ (line ∈ BH ∧ 1 ≤ q ∧ q ≤ 3)) :
    ∃ bs, line ∈ bs ∧ (∀ t o, okB ((HE ++ RU).take q) t o bs = true) ∧ q ≤ 3 + n ∧ line ∈ HE ++ RU ++ RO ++ BH := by
  rcases h with ⟨w9, m, hw, hm, rfl, rfl⟩ | ⟨hb, q1, q3⟩
  · have mem : line ∈ HE ++ RU ++ RO ++ BH := by
      simp only [List.mem_append]; exact .inl (.inr hw)
    by_cases z : line = LATE
    · rw [if_pos z]
      refine ⟨["own late red"], by rw [z]; exact List.mem_singleton.mpr rfl, ?_, Nat.le_refl _, mem⟩
      have : n = 1 ∨ n = 2 ∨ n = 3 ∨ n = 4 := by omega
      rcases this with rfl | rfl | rfl | rfl
      · exact cB1
      · exact cB2
      · exact cB3
      · exact cB4
    · rw [if_neg z]
      refine ⟨RN, ?_, ?_, by omega, mem⟩
      · unfold RN
        refine List.mem_filter.mpr ⟨hw, ?_⟩
        rw [eqS_eq]
        simpa using z
      · have : m = 0 ∨ m = 1 ∨ m = 2 ∨ m = 3 := by omega
        rcases this with rfl | rfl | rfl | rfl
        · exact cA0
        · exact cA1
        · exact cA2
        · exact cA3
  · refine ⟨BH, hb, ?_, by omega, by simp only [List.mem_append]; exact .inr hb⟩
    have : q = 1 ∨ q = 2 ∨ q = 3 := by omega
    rcases this with rfl | rfl | rfl
    · exact cC1
    · exact cC2
    · exact cC3
theorem ne_ln {p q : Nat} {h : IH} {n : Int} (hp : h[p]? = some (.lst [.str "line", .int n, .bl true])) (hq : h[q]? = some (.lst [.str "line", .int n, .bl true])) : oNe (.ref p) (.ref q) h = .v (.bl false) h := by
  have da : ∀ p, h[p]? = some (.lst [.str "line", .int n, .bl true]) → dat h 40 (.ref p) = some (.list [.str "line", .int n, .bool true]) := fun p e => by
    show (match lstAt h p with | some ws => (match mapO (dat h 39) ws with | some ds => some (PyData.list ds) | none => none) | none => none) = _
    unfold lstAt; rw [e]; rfl
  refine oNe_dat hp hq (by simp) (da p hp) (da q hq) (by rfl) ?_
  unfold eqF eqFs eqF eqFs eqF eqFs eqF
  simp [eqS_eq, PyData.eqv, eqFs]
end
end Dr.L
set_option maxHeartbeats 4000000
namespace Dr.L
open PySem L2 PyProof.Rows Dr
section
variable {R l1 l3 : List W} {a b : Int} {k i y8 y9 y10 : Option W} {g : IH}
theorem s5 {n q : Nat} {o14 : IO} {line : Str} (hn : n ≤ 4) (h1 : 1 ≤ n) {bs : List Str} (hb : line ∈ bs) (ok : ∀ t o, okB ((HE ++ RU).take q) t o bs = true) (hq : q ≤ 3 + n) (mem : line ∈ HE ++ RU ++ RO ++ BH) :
    ∃ g, eIfS (eBin oNe (eCall (clP 83) [] (eCons (eBM "str" mJoin (eK (.str "\n")) (eCons (eBin oAdd (eBin oAdd (eSl (eLoc 8) (eK .non) (eInt (eLoc 10))) (eLst (eCons (eLoc 9) eNil))) (eSl (eLoc 8) (eInt (eLoc 10)) (eK .non))) eNil)) eNil)) (eLst (eCons (eK (.str "line")) (eCons (eBin oAdd (eLoc 10) (eK (.int 1))) (eCons (eK (.bl true)) eNil))))) (eRet (eK (.bl false))) eEnd
      (σT k i (some (.ref 15)) (some (.str line)) (some (.int (q : Nat)))) (HH R l1 l3 a b ++ [o14, lsS ((HE ++ RU).take (3 + n))]) = .nx (σT k i (some (.ref 15)) (some (.str line)) (some (.int (q : Nat)))) (HH R l1 l3 a b ++ g) := by
  obtain ⟨L, hL⟩ : ∃ L, L = (HE ++ RU).take (3 + n) := ⟨_, rfl⟩
  have lL : L.length = 3 + n := by
    have : (HE ++ RU).length = 7 := rfl
    rw [hL, List.length_take]; omega
  have tq : L.take q = (HE ++ RU).take q := by rw [hL, List.take_take, Nat.min_eq_left hq]
  rw [← hL]
  obtain ⟨t, ht⟩ : ∃ t, t = Txt.join "\n" (L.take q ++ line :: L.drop q) := ⟨_, rfl⟩
  obtain ⟨σ, hσ⟩ : ∃ σ, σ = σT k i (some (.ref 15)) (some (.str line)) (some (.int (q : Nat))) := ⟨_, rfl⟩
  let h0 : IH := HH R l1 l3 a b ++ [o14, lsS L]
  have memL : ∀ s ∈ L.take q ++ line :: L.drop q, s ∈ HE ++ RU ++ RO ++ BH := fun s hs => by
    have inL : s ∈ L → s ∈ HE ++ RU ++ RO ++ BH := fun z => by
      rw [hL] at z
      have := List.mem_of_mem_take z
      simp only [List.mem_append] at this ⊢
      exact .inl (.inl this)
    rcases List.mem_append.mp hs with z | z
    · exact inL (List.mem_of_mem_take z)
    · rcases List.mem_cons.mp z with rfl | z
      · exact mem
      · exact inL (List.mem_of_mem_drop z)
  have cnt : (L.take q ++ line :: L.drop q).length ≤ 8 := by
    simp only [List.length_append, List.length_take, List.length_cons, List.length_drop]; omega
  have sm := sum_map_le 200 _ fun x hx => (ok_of (memL x hx)).1
  have sm2 : ((L.take q ++ line :: L.drop q).map (·.length)).sum + (L.take q ++ line :: L.drop q).length * (("\n" : Str)).length ≤ 2000 := by
    have : (("\n" : Str)).length = 1 := rfl
    rw [this]; omega
  have hz : t.length + 2 ≤ 16777216 := by
    have := join_le "\n" (L.take q ++ line :: L.drop q)
    rw [ht]; omega
  have said : ∀ h, clP 83 [.str t] h = .v (.ref h.length) (h ++ [.lst [.str "line", .int ((q : Int) + 1), .bl true]]) := fun h =>
    said_bad (n := q) (b := line) (tail := L.drop q) (by omega) ok hb (by rw [← tq]; exact ht) (fun p hp => (ok_of (memL p (by rw [tq]; exact hp))).2) hz
  have e8 : ∀ h, eLoc 8 σ h = .v (.ref 15) h := fun h => by rw [hσ]; rfl
  have e9 : ∀ h, eLoc 9 σ h = .v (.str line) h := fun h => by rw [hσ]; rfl
  have e10 : ∀ h, eLoc 10 σ h = .v (.int q) h := fun h => by rw [hσ]; rfl
  let h1 : IH := h0 ++ [lsS (L.take q)]
  let h2 : IH := h1 ++ [lsS [line]]
  let h3 : IH := h2 ++ [lsS (L.take q ++ [line])]
  let h4 : IH := h3 ++ [lsS (L.drop q)]
  let h5 : IH := h4 ++ [lsS (L.take q ++ [line] ++ L.drop q)]
  have x1 : eSl (eLoc 8) (eK .non) (eInt (eLoc 10)) σ h0 = .v (.ref 16) h1 := by
    rw [eSl_ap, e8, vb_v, eK_ap, pb_v, pm_non, eInt_ap, e10, vb_v, pb_v, pm_int, oSl_lst (xs := L.map W.str) (by rfl), cut_take, ← List.map_take]
    rfl
  have x2 : eLst (eCons (eLoc 9) eNil) σ h1 = .v (.ref 17) h2 := by
    rw [eLst_ap, eCons_ap, e9, vb_v, eNil_ap, vsb_vs, vsb_vs]
    rfl
  have x3 : oAdd (.ref 16) (.ref 17) h2 = .v (.ref 18) h3 := by
    rw [oAdd_lst (xs := (L.take q).map W.str) (ys := [line].map W.str) (by rfl) (by rfl) (by simp only [List.length_map, List.length_take, List.length_singleton]; omega), ← List.map_append]
    rfl
  have x4 : eSl (eLoc 8) (eInt (eLoc 10)) (eK .non) σ h3 = .v (.ref 19) h4 := by
    rw [eSl_ap, e8, vb_v, eInt_ap, e10, vb_v, pb_v, pm_int, eK_ap, pb_v, pm_non, oSl_lst (xs := L.map W.str) (by rfl), cut_drop, ← List.map_drop]
    rfl
  have x5 : oAdd (.ref 18) (.ref 19) h4 = .v (.ref 20) h5 := by
    rw [oAdd_lst (xs := (L.take q ++ [line]).map W.str) (ys := (L.drop q).map W.str) (by rfl) (by rfl) (by simp only [List.length_map, List.length_append, List.length_take, List.length_singleton, List.length_drop]; omega), ← List.map_append]
    rfl
  have x6 : mJoin (.str "\n") [.ref 20] h5 = .v (.str t) h5 := by
    rw [mJoin_lst (ss := L.take q ++ line :: L.drop q) (by show h5[20]? = _; show some (lsS (L.take q ++ [line] ++ L.drop q)) = _; rw [List.append_assoc]; rfl) (by omega), ← ht]
  have ej : eBM "str" mJoin (eK (.str "\n")) (eCons (eBin oAdd (eBin oAdd (eSl (eLoc 8) (eK .non) (eInt (eLoc 10))) (eLst (eCons (eLoc 9) eNil))) (eSl (eLoc 8) (eInt (eLoc 10)) (eK .non))) eNil) σ h0 = .v (.str t) h5 := by
    rw [eBM_ap, eK_ap, vb_v, if_pos (show tyW "str" (.str "\n") h0 = true from rfl), eCons_ap, eBin_ap, eBin_ap, x1, vb_v, x2, vb_v, x3, vb_v, x4, vb_v, x5, vb_v, eNil_ap, vsb_vs, vsb_vs, x6]
  let o : IO := .lst [.str "line", .int ((q : Int) + 1), .bl true]
  have ec : eCall (clP 83) [] (eCons (eBM "str" mJoin (eK (.str "\n")) (eCons (eBin oAdd (eBin oAdd (eSl (eLoc 8) (eK .non) (eInt (eLoc 10))) (eLst (eCons (eLoc 9) eNil))) (eSl (eLoc 8) (eInt (eLoc 10)) (eK .non))) eNil)) eNil) σ h0 = .v (.ref 21) (h5 ++ [o]) := by
    rw [eCall_ap, eCons_ap, ej, vb_v, eNil_ap, vsb_vs, vsb_vs, List.append_nil, said, cb_v]
    rfl
  have el : eLst (eCons (eK (.str "line")) (eCons (eBin oAdd (eLoc 10) (eK (.int 1))) (eCons (eK (.bl true)) eNil))) σ (h5 ++ [o]) = .v (.ref 22) (h5 ++ [o] ++ [o]) := by
    rw [eLst_ap, eCons_ap, eK_ap, vb_v, eCons_ap, eBin_ap, e10, vb_v, eK_ap, vb_v, show oAdd (.int (q : Nat)) (.int 1) (h5 ++ [o]) = .v (.int ((q : Int) + 1)) (h5 ++ [o]) from rfl, vb_v, eCons_ap, eK_ap, vb_v, eNil_ap, vsb_vs, vsb_vs, vsb_vs, vsb_vs]
    rfl
  have en : oNe (.ref 21) (.ref 22) (h5 ++ [o] ++ [o]) = .v (.bl false) (h5 ++ [o] ++ [o]) := ne_ln (n := (q : Int) + 1) (by rfl) (by rfl)
  refine ⟨[o14, lsS L, lsS (L.take q), lsS [line], lsS (L.take q ++ [line]), lsS (L.drop q), lsS (L.take q ++ [line] ++ L.drop q), o, o], ?_⟩
  rw [← hσ]
  show eIfS _ _ _ σ h0 = _
  rw [eIfS_ap, eBin_ap, ec, vb_v, el, vb_v, en, vb_v]
  rfl
/-- one turn -/
theorem turn (ha : 0 ≤ a) (hb : 0 ≤ b) (hb2 : b < 2147483647) : ∃ a' b' y8 y9 y10 g, 0 ≤ a' ∧ 0 ≤ b' ∧ b' < 2147483647 ∧ q86_0 clP nF (σT k i none none none) (HH R l1 l3 a b) = .nx (σT k i y8 y9 y10) (HH R l1 l3 a' b' ++ g) := by
  obtain ⟨n, a1, b1, _, n1, n4, ha1, hb1, hb21, e1⟩ := s1 (R := R) (l1 := l1) (l3 := l3) (k := k) (i := i) (y8 := none) (y9 := none) (y10 := none) ha hb hb2
  have lL : ((HE ++ RU).take (3 + n)).length = 3 + n := by
    have : (HE ++ RU).length = 7 := rfl
    rw [List.length_take]; omega
  obtain ⟨m, w9, a2, b2, hm, hw9, ha2, hb2', hb22, e2⟩ := s2 (R := R) (l1 := l1) (l3 := l3) (k := k) (i := i) (y9 := none) (y10 := none) (o14 := lsS (RU.take n)) lL n1 n4 ha1 hb1 hb21
  have e3 := s3 (R := R) (l1 := l1) (l3 := l3) (a := a2) (b := b2) (k := k) (i := i) (m := m) (o14 := lsS (RU.take n)) (line := w9) lL
  obtain ⟨line, q, a4, b4, hd, ha4, hb4, hb24, e4⟩ := s4 (R := R) (l1 := l1) (l3 := l3) (k := k) (i := i) (o14 := lsS (RU.take n)) (L := (HE ++ RU).take (3 + n)) (w9 := w9) (p := 3 + (if w9 = LATE then n else m)) ha2 hb2' hb22
  obtain ⟨bs, m1, m2, m3, m4⟩ := drawn (n := n) (q := q) (line := line) n4 n1 (by
    rcases hd with ⟨rfl, rfl⟩ | z
    · exact .inl ⟨line, m, hw9, hm, rfl, rfl⟩
    · exact .inr z)
  obtain ⟨g, e5⟩ := s5 (R := R) (l1 := l1) (l3 := l3) (a := a4) (b := b4) (k := k) (i := i) (o14 := lsS (RU.take n)) n4 n1 m1 m2 m3 m4
  refine ⟨a4, b4, some (.ref 15), some (.str line), some (.int (q : Nat)), g, ha4, hb4, hb24, ?_⟩
  unfold q86_0
  rw [eSeq_ap, e1, nb_nx, eSeq_ap, e2, nb_nx, eSeq_ap, e3, nb_nx, eSeq_ap, e4, nb_nx, e5]
end
end Dr.L
set_option maxHeartbeats 4000000
namespace Dr.L
open PySem L2 PyProof.Rows Dr
theorem gc_nx2 {ks : List Nat} {b : Ev} {σ s : Sg} {h h1 g : IH} (e : b σ h = .nx s (h1 ++ g)) (hl : h1.length = h.length) (hf : h1.all IO.fl = true) : eGc ks b σ h = .nx (keepS ks (fun w => w.und h.length) 0 s) h1 := by
  unfold eGc
  rw [e]
  unfold gcOut
  simp only
  rw [← hl, List.take_left, if_pos]
  exact List.all_eq_true.mpr fun o ho => fl_und (List.all_eq_true.mp hf o ho)
theorem fl_str : ∀ l : List Str, flats (l.map W.str) = true
  | [] => rfl
  | s :: l => by
    rw [List.map_cons]
    unfold flats
    rw [fl_str l]; rfl
theorem fl_H {ns : List Int} {l1 l3 : List W} {a b : Int} (g1 : flats l1 = true) (g3 : flats l3 = true) : (HH (ns.map W.int) l1 l3 a b).all IO.fl = true := by
  simp only [HH, lsS, List.all_cons, List.all_nil, IO.fl, flats_ints, fl_str, g1, g3, flats, W.flat, Bool.and_self]
abbrev H0 (R : List W) : IH := [.rol R, lsS HE, lsS BH, lsS RO, lsS (RU.take 3), lsS (RU.drop 3), lsS RU, lsS (HE ++ RU), .lst [], .lst []]
abbrev σO (y5 : Option W) : Sg := [some (.ref 0), some (.ref 1), some (.ref 2), some (.ref 3), some (.ref 6), y5, none, none, none, none, none, none, none, none, none, none, none]
theorem turnO {ns : List Int} {k : Nat} (hl : ns.length ≤ 63) (hk : k < 1000) : ∃ y6 y7 y8 y9 y10 g, q86_1 clP nF (σO (some (.int (k : Nat)))) (H0 (ns.map W.int)) = .nx [some (.ref 0), some (.ref 1), some (.ref 2), some (.ref 3), some (.ref 6), some (.int (k : Nat)), y6, y7, y8, y9, y10, none, none, none, none, none, none] (H0 (ns.map W.int) ++ g) := by
  obtain ⟨l1, l3, a, b, g1, g3, ha, hb, hb2, e⟩ := pool_ok (n := 0) (k := (k : Int)) (h := H0 (ns.map W.int)) (ns := ns) rfl hl (by omega) (by omega)
  rw [← cl81] at e
  have st : eAsg (gN 6) (eCall (clP 81) [] (eCons (eLoc 0) (eCons (eLoc 5) eNil))) (σO (some (.int (k : Nat)))) (H0 (ns.map W.int)) = .nx (σT (some (.int (k : Nat))) none none none none) (HH (ns.map W.int) l1 l3 a b) := by
    rw [eAsg_ap, eCall_ap, eCons_ap, show eLoc 0 (σO (some (.int (k : Nat)))) (H0 (ns.map W.int)) = .v (.ref 0) (H0 (ns.map W.int)) from rfl, vb_v, eCons_ap, show eLoc 5 (σO (some (.int (k : Nat)))) (H0 (ns.map W.int)) = .v (.int k) (H0 (ns.map W.int)) from rfl, vb_v, eNil_ap, vsb_vs, vsb_vs, vsb_vs, List.append_nil, e, cb_v, vb_v]
    rfl
  obtain ⟨s, h', e5, ⟨y7, rfl⟩, a9, b9, _, _, _, rfl⟩ := forR (lo := 0) (n := 6) (g := gN 7) (b := eGc [0, 1, 2, 3, 4, 5, 6] (q86_0 clP nF)) (fun σ h => (∃ y7, σ = σT (some (.int (k : Nat))) y7 none none none) ∧ ∃ a b, 0 ≤ a ∧ 0 ≤ b ∧ b < 2147483647 ∧ h = HH (ns.map W.int) l1 l3 a b) (fun i hi σ h z => by
      obtain ⟨⟨y7, rfl⟩, a, b, ha, hb, hb2, rfl⟩ := z
      obtain ⟨a', b', z8, z9, z10, g, ha', hb', hb2', et⟩ := turn (R := ns.map W.int) (l1 := l1) (l3 := l3) (k := some (.int (k : Nat))) (i := some (.int (0 + (i : Nat)))) ha hb hb2
      exact ⟨σT (some (.int (k : Nat))) (some (.int (0 + (i : Nat)))) none none none, _, HH (ns.map W.int) l1 l3 a' b', rfl, gc_nx2 (h := HH (ns.map W.int) l1 l3 a b) (h1 := HH (ns.map W.int) l1 l3 a' b') (g := g) et rfl (fl_H g1 g3), ⟨none, rfl⟩, a', b', ha', hb', hb2', rfl⟩)
    nF 0 (σT (some (.int (k : Nat))) none none none none) (HH (ns.map W.int) l1 l3 a b) (Nat.zero_le _) (by show 6 - 0 < 100000; omega) ⟨⟨_, rfl⟩, a, b, ha, hb, hb2, rfl⟩
  refine ⟨some (.ref 13), y7, none, none, none, [.lst l1, .lst [.int 0], .lst l3, .lst [.int a9, .int b9]], ?_⟩
  unfold q86_1
  rw [eSeq_ap, st, nb_nx]
  have it : iR1 (eCons (eK (.int 6)) eNil) (σT (some (.int (k : Nat))) none none none none) (HH (ns.map W.int) l1 l3 a b) = .it (jR 0 6) (HH (ns.map W.int) l1 l3 a b) := rfl
  rw [eFor_it it, e5]
  rfl
theorem fl_0 {ns : List Int} : (H0 (ns.map W.int)).all IO.fl = true := by
  simp only [H0, lsS, List.all_cons, List.all_nil, IO.fl, flats_ints, fl_str, flats, Bool.and_self]
/-- the loop over the script -/
theorem loopO {ns : List Int} (hl : ns.length ≤ 63) : ∃ y5, eFor nF (iR1 (eCons (eBlt bMax (eCons (eK (.int 1)) (eCons (eBlt bMin (eCons (eK (.int 12)) (eCons (eBlt bLen (eCons (eLoc 0) eNil)) eNil))) eNil))) eNil)) (gN 5) (eGc [0, 1, 2, 3, 4] (q86_1 clP nF)) (σO none) (H0 (ns.map W.int)) = .nx (σO y5) (H0 (ns.map W.int)) := by
  obtain ⟨n, hn, eit⟩ := rng_it (c := 12) (ns := ns) (h := H0 (ns.map W.int)) (σ := σO none) (by decide) (by decide) rfl rfl
  obtain ⟨s, h', e5, ⟨y5, rfl⟩, rfl⟩ := forR (lo := 0) (n := n) (g := gN 5) (b := eGc [0, 1, 2, 3, 4] (q86_1 clP nF)) (fun σ h => (∃ y5, σ = σO y5) ∧ h = H0 (ns.map W.int)) (fun i hi σ h z => by
      obtain ⟨⟨y5, rfl⟩, rfl⟩ := z
      obtain ⟨y6, y7, y8, y9, y10, g, e⟩ := turnO (ns := ns) (k := i) hl (by omega)
      rw [Int.zero_add]
      exact ⟨σO (some (.int (i : Nat))), _, H0 (ns.map W.int), rfl, gc_nx2 (h := H0 (ns.map W.int)) (g := g) e rfl fl_0, ⟨none, rfl⟩, rfl⟩) nF 0 (σO none) (H0 (ns.map W.int)) (Nat.zero_le _) (by show n - 0 < 100000; omega) ⟨⟨_, rfl⟩, rfl⟩
  exact ⟨y5, (eFor_it eit).trans e5⟩
end Dr.L
set_option maxHeartbeats 4000000
namespace Dr.L
open PySem L2 PyProof.Rows Dr
theorem isLs_n {s : Str} {n : Int} {b : Bool} {o : Out} (h : isLs [.str s, .int n, .bl b] o = true) : lstOut o = some [.str s, .int n, .bl b] := by
  unfold isLs at h
  split at h
  · rename_i a m c a' m' c' e e2
    have h1 := Bool.and_eq_true_iff.mp h
    have h2 := Bool.and_eq_true_iff.mp h1.2
    rw [eqS_eq] at h1
    have p1 : a = a' := by simpa using h1.1
    have p2 := of_decide_eq_true h2.1
    have p3 : c = c' := by simpa using h2.2
    cases e2
    rw [e, p1, p2, p3]
  · rename_i e e2; cases e2
  · cases h
theorem isLs_0 {o : Out} (h : isLs [] o = true) : lstOut o = some [] := by
  unfold isLs at h
  split at h
  · rename_i e; cases e
  · rename_i e e2; exact e
  · cases h
theorem sd_n {t s : Str} {n : Int} {b : Bool} (e : isLs [.str s, .int n, .bl b] (run 60 83 [.str t] []) = true) (h : IH) : clP 83 [.str t] h = .v (.ref h.length) (h ++ [.lst [.str s, .int n, .bl b]]) := pureFn_lst (f := run 60 83) rfl (isLs_n e) rfl
theorem sd_0 {t : Str} (e : isLs [] (run 60 83 [.str t] []) = true) (h : IH) : clP 83 [.str t] h = .v (.ref h.length) (h ++ [.lst []]) := pureFn_lst (f := run 60 83) rfl (isLs_0 e) rfl
theorem ne_sib {p q : Nat} {h : IH} {s : Str} {n : Int} {b : Bool} (hs : (s.cps.toList.all fun c => Nat.blt c 0x110000) = true) (hp : h[p]? = some (.lst [.str s, .int n, .bl b])) (hq : h[q]? = some (.lst [.str s, .int n, .bl b])) : oNe (.ref p) (.ref q) h = .v (.bl false) h := by
  have da : ∀ p, h[p]? = some (.lst [.str s, .int n, .bl b]) → dat h 40 (.ref p) = some (.list [.str s, .int n, .bool b]) := fun p e => by
    show (match lstAt h p with | some ws => (match mapO (dat h 39) ws with | some ds => some (PyData.list ds) | none => none) | none => none) = _
    unfold lstAt; rw [e]; rfl
  refine oNe_dat hp hq (by simp) (da p hp) (da q hq) ?_ ?_
  · unfold shaped'
    simp [shFs, shF, PyData.depth, PyData.depthAll, hs]
  · unfold eqF eqFs eqF eqFs eqF eqFs eqF
    simp [eqS_eq, PyData.eqv, eqFs]
theorem ne_nil {a b : Nat} {h : IH} (ha : h[a]? = some (.lst [])) (hb : h[b]? = some (.lst [])) : oNe (.ref a) (.ref b) h = .v (.bl false) h := by
  have la : lstAt h a = some [] := by unfold lstAt; rw [ha]
  have lb : lstAt h b = some [] := by unfold lstAt; rw [hb]
  have lq : lenQ (.ref a) (.ref b) h = some true := by
    unfold lenQ
    simp only [la, lb]
    rfl
  unfold oNe eqD
  simp only [lq]
  rfl
section
variable {σ : Sg} {h h1 : IH} {t : Str} {E : Ev}
/-- what is said of a text, beside what is due -/
theorem q_0 (eE : E σ h = .v (.str t) h1) (e : isLs [] (run 60 83 [.str t] []) = true) : eBin oNe (eCall (clP 83) [] (eCons E eNil)) (eLst eNil) σ h = .v (.bl false) (h1 ++ [.lst [], .lst []]) := by
  rw [eBin_ap, eCall_ap, eCons_ap, eE, vb_v, eNil_ap, vsb_vs, vsb_vs, List.append_nil, sd_0 e, cb_v, vb_v, show eLst eNil σ (h1 ++ [.lst []]) = .v (.ref (h1 ++ [IO.lst []]).length) (h1 ++ [.lst []] ++ [.lst []]) from rfl, vb_v, ne_nil (by simp) (by simp)]
  simp
theorem q_n {s : Str} {n : Int} {b : Bool} (hs : (s.cps.toList.all fun c => Nat.blt c 0x110000) = true) (eE : E σ h = .v (.str t) h1) (e : isLs [.str s, .int n, .bl b] (run 60 83 [.str t] []) = true) : eBin oNe (eCall (clP 83) [] (eCons E eNil)) (eLst (eCons (eK (.str s)) (eCons (eK (.int n)) (eCons (eK (.bl b)) eNil)))) σ h = .v (.bl false) (h1 ++ [.lst [.str s, .int n, .bl b], .lst [.str s, .int n, .bl b]]) := by
  rw [eBin_ap, eCall_ap, eCons_ap, eE, vb_v, eNil_ap, vsb_vs, vsb_vs, List.append_nil, sd_n e, cb_v, vb_v, show eLst (eCons (eK (.str s)) (eCons (eK (.int n)) (eCons (eK (.bl b)) eNil))) σ (h1 ++ [.lst [.str s, .int n, .bl b]]) = .v (.ref (h1 ++ [IO.lst [.str s, .int n, .bl b]]).length) (h1 ++ [.lst [.str s, .int n, .bl b]] ++ [.lst [.str s, .int n, .bl b]]) from rfl, vb_v, ne_sib (s := s) (n := n) (b := b) hs (by simp) (by simp)]
  simp
theorem if_F {c a : Ev} (e1 : c σ h = .v (.bl false) h1) : eIfS c a eEnd σ h = .nx σ h1 := by
  rw [eIfS_ap, e1, vb_v]; rfl
theorem or_F {a b : Ev} {h2 : IH} (e1 : a σ h = .v (.bl false) h1) (e2 : b σ h1 = .v (.bl false) h2) : eOr a b σ h = .v (.bl false) h2 := by
  show Out.vb _ _ = _; rw [e1]; exact e2
theorem pure_v {ks : List Nat} {e : Ev} {w : W} (hf : flatS (keepS ks (fun _ => true) 0 σ) = true) (hw : w.flat = true) (e1 : ∃ g, e (keepS ks (fun _ => true) 0 σ) [] = .v w g) : ePure ks e σ h = .v w h := by
  obtain ⟨g, e1⟩ := e1
  unfold ePure
  rw [if_pos hf, e1]
  simp only [hw, if_true]
theorem jn_E {l : List Str} {p : Nat} {X : Ev} (e : X σ h = .v (.ref p) h1) (hp : h1[p]? = some (lsS l)) (c : (l.map (·.length)).sum + l.length * (("\n" : Str)).length ≤ 16777216) : eBM "str" mJoin (eK (.str "\n")) (eCons X eNil) σ h = .v (.str (Txt.join "\n" l)) h1 := by
  rw [eBM_ap, eK_ap, vb_v, if_pos (show tyW "str" (.str "\n") h = true from rfl), eCons_ap, e, vb_v, eNil_ap, vsb_vs, vsb_vs, mJoin_lst hp c]
theorem ap_E {l l' : List Str} {p q : Nat} {X Y : Ev} {h2 : IH} (e : X σ h = .v (.ref p) h1) (e' : Y σ h1 = .v (.ref q) h2) (hp : h2[p]? = some (lsS l)) (hq : h2[q]? = some (lsS l')) (c : l.length + l'.length ≤ 16777216) : eBin oAdd X Y σ h = .v (.ref h2.length) (h2 ++ [lsS (l ++ l')]) := by
  rw [eBin_ap, e, vb_v, e', vb_v, oAdd_lst hp hq (by simpa using c), ← List.map_append]
end
/-! ### the first lines -/
theorem c84 (h : IH) : clP 84 [] h = .v (.ref h.length) (h ++ [lsS BH]) := pureFn_lst (f := run 60 84) rfl bad84 flBH
theorem c85 (h : IH) : clP 85 [] h = .v (.ref h.length) (h ++ [lsS RO]) := pureFn_lst (f := run 60 85) rfl bad85 flRO
theorem all_said : isLs [] (run 60 83 [.str (Txt.join "\n" (HE ++ RU))] []) = true := by decide +kernel
theorem law_1 (R : List W) : lawF [.ref 0] [.rol R] = (q86_9 clP nF (σO none) (H0 R)).fin := by
  show (b86 clP nF [some (.ref 0), none, none, none, none, none, none, none, none, none, none, none, none, none, none, none, none] [.rol R]).fin = _
  let σ1 : Sg := [some (.ref 0), some (.ref 1), some (.ref 2), some (.ref 3), none, none, none, none, none, none, none, none, none, none, none, none, none]
  let σ2 : Sg := [some (.ref 0), some (.ref 1), some (.ref 2), some (.ref 3), some (.ref 4), none, none, none, none, none, none, none, none, none, none, none, none]
  let k1 : IH := [.rol R, lsS HE]
  have a1 : eLst (eCons (eK (.str "var tone")) (eCons (eK (.str "hand size small")) (eCons (eK (.str "own box none")) eNil))) [some (.ref 0), none, none, none, none, none, none, none, none, none, none, none, none, none, none, none, none] [.rol R] = .v (.ref 1) k1 := rfl
  unfold b86
  rw [eSeq_ap]
  have s1 : ePar3 1 2 3 (eCons (eLst (eCons (eK (.str "var tone")) (eCons (eK (.str "hand size small")) (eCons (eK (.str "own box none")) eNil)))) (eCons (eCall (clP 84) [] eNil) (eCons (eCall (clP 85) [] eNil) eNil))) [some (.ref 0), none, none, none, none, none, none, none, none, none, none, none, none, none, none, none, none] [.rol R] = .nx σ1 [.rol R, lsS HE, lsS BH, lsS RO] := by
    unfold ePar3
    rw [eCons_ap, a1, vb_v, eCons_ap, eCall_ap, eNil_ap, vsb_vs, List.append_nil, c84, cb_v, vb_v, eCons_ap, eCall_ap, eNil_ap, vsb_vs, List.append_nil, c85, cb_v, vb_v, eNil_ap, vsb_vs, vsb_vs, vsb_vs]
    rfl
  have s2 : eAsg (gN 4) (eLst (eCons (eK (.str "a { tone: red }")) (eCons (eK (.str "")) (eCons (eK (.str "layer 2 b.x > c, *:first { box: $tone or red; size!: inherit }")) eNil)))) σ1 [.rol R, lsS HE, lsS BH, lsS RO] = .nx σ2 [.rol R, lsS HE, lsS BH, lsS RO, lsS (RU.take 3)] := rfl
  have s3 : eAsg (gN 4) (eBin oAdd (eLoc 4) (eLst (eCons (eK (.str "layer { box: 1a }")) eNil))) σ2 [.rol R, lsS HE, lsS BH, lsS RO, lsS (RU.take 3)] = .nx (σO none) [.rol R, lsS HE, lsS BH, lsS RO, lsS (RU.take 3), lsS (RU.drop 3), lsS RU] := by
    rw [eAsg_ap, ap_E (l := RU.take 3) (l' := RU.drop 3) (p := 4) (q := 5) (h1 := [.rol R, lsS HE, lsS BH, lsS RO, lsS (RU.take 3)]) (h2 := [.rol R, lsS HE, lsS BH, lsS RO, lsS (RU.take 3), lsS (RU.drop 3)]) rfl rfl rfl rfl (by decide), vb_v]
    rfl
  have s4 : eIfS (eBin oNe (eCall (clP 83) [] (eCons (eBM "str" mJoin (eK (.str "\n")) (eCons (eBin oAdd (eLoc 1) (eLoc 4)) eNil)) eNil)) (eLst eNil)) (eRet (eK (.bl false))) eEnd (σO none) [.rol R, lsS HE, lsS BH, lsS RO, lsS (RU.take 3), lsS (RU.drop 3), lsS RU] = .nx (σO none) (H0 R) := by
    have e1 := ap_E (σ := σO none) (h := [.rol R, lsS HE, lsS BH, lsS RO, lsS (RU.take 3), lsS (RU.drop 3), lsS RU]) (l := HE) (l' := RU) (p := 1) (q := 6) (X := eLoc 1) (Y := eLoc 4) rfl rfl rfl rfl (by decide)
    have e2 := jn_E (l := HE ++ RU) (p := 7) e1 rfl (by decide +kernel)
    exact if_F (q_0 e2 all_said)
  rw [s1, nb_nx, eSeq_ap, s2, nb_nx, eSeq_ap, s3, nb_nx, eSeq_ap, s4, nb_nx]
end Dr.L
set_option maxHeartbeats 4000000
namespace Dr.L
open PySem L2 PyProof.Rows Dr
abbrev LN : IO := .lst [.str "line", .non, .bl true]
abbrev σP (y5 y12 y13 y14 y15 : Option W) : Sg := [some (.ref 0), some (.ref 1), some (.ref 2), some (.ref 3), some (.ref 6), y5, none, none, none, none, none, some (.ref 10), y12, y13, y14, y15, none]
abbrev H1 (R : List W) : IH := H0 R ++ [.dic [], .lst [.non, .int 5, .bl true, .ref 1, .tup (HE.map W.str), .ref 10], LN, LN, LN, LN, LN, LN, LN, LN, LN, LN, LN, LN]
theorem odd_ok (R : List W) (y5 : Option W) : eFor nF (iL (eLst (eCons (eK .non) (eCons (eK (.int 5)) (eCons (eK (.bl true)) (eCons (eLoc 1) (eCons (eBlt bTuple (eCons (eLoc 1) eNil)) (eCons eDic0 eNil)))))))) (gN 11)
    (eIfS (eBin oNe (eCall (clP 83) [] (eCons (eLoc 11) eNil)) (eLst (eCons (eK (.str "line")) (eCons (eK .non) (eCons (eK (.bl true)) eNil))))) (eRet (eK (.bl false))) eEnd) (σO y5) (H0 R) = .nx (σP y5 none none none none) (H1 R) := by
  kernel_rfl
theorem many_ok (R : List W) (y5 : Option W) : eAsg (gN 12) (eLc nF (iS (eK (.str "abcdefghijkl"))) [16] (gN 16) eYes (eBin oAdd (eBin oAdd (eK (.str "own p")) (eLoc 16)) (eK (.str " x")))) (σP y5 none none none none) (H1 R) = .nx (σP y5 (some (.ref 24)) none none none) (H1 R ++ [lsS MANY]) := by
  kernel_rfl
theorem rule_ok (h : IH) (σ : Sg) (hs : σ.length = 17) : ePure [] (q86_2 clP nF) σ h = .v (.str RULE) h := by
  have e : keepS [] (fun _ => true) 0 σ = List.replicate 17 none := by
    match σ, hs with
    | [_, _, _, _, _, _, _, _, _, _, _, _, _, _, _, _, _], _ => rfl
  refine pure_v (by rw [e]; rfl) rfl ?_
  rw [e]
  exact ⟨[lsS ["pa: y", "pb: y", "pc: y", "pd: y", "pe: y", "pf: y", "pg: y", "ph: y", "pi: y", "pj: y", "pk: y", "pl: y"]], by kernel_rfl⟩
theorem wide_ok (h : IH) (σ : Sg) (hs : σ.length = 17) : ePure [] (q86_3 clP nF) σ h = .v (.str WIDE) h := by
  have e : keepS [] (fun _ => true) 0 σ = List.replicate 17 none := by
    match σ, hs with
    | [_, _, _, _, _, _, _, _, _, _, _, _, _, _, _, _, _], _ => rfl
  refine pure_v (by rw [e]; rfl) rfl ?_
  rw [e]
  exact ⟨[lsS ["a"], lsS (List.replicate 24 "a")], by kernel_rfl⟩
theorem deep_ok (h : IH) (σ : Sg) (hs : σ.length = 17) : ePure [] (q86_5 clP nF) σ h = .v (.str DEEP) h := by
  have e : keepS [] (fun _ => true) 0 σ = List.replicate 17 none := by
    match σ, hs with
    | [_, _, _, _, _, _, _, _, _, _, _, _, _, _, _, _, _], _ => rfl
  refine pure_v (by rw [e]; rfl) rfl ?_
  rw [e]
  exact ⟨[], by kernel_rfl⟩
end Dr.L
set_option maxHeartbeats 4000000
namespace Dr.L
open PySem L2 PyProof.Rows Dr
theorem eq_of_ne {x y : W} {h : IH} (e : oNe x y h = .v (.bl false) h) : oEq x y h = .v (.bl true) h := by
  unfold oNe at e
  unfold oEq
  split at e
  · rename_i b q
    cases b <;> simp_all
  · cases e
section
variable {K : IH} {y5 : Option W} {y13 y14 y15 : Option W}
theorem cond2 (h24 : K[24]? = some (lsS MANY)) : ∃ g, eIfS (eOr (eBin oNe (eCall (clP 83) [] (eCons (eBM "str" mJoin (eK (.str "\n")) (eCons (eLoc 12) eNil)) eNil)) (eLst eNil)) (eBin oNe (eCall (clP 83) [] (eCons (eBM "str" mJoin (eK (.str "\n")) (eCons (eBin oAdd (eLoc 12) (eLst (eCons (eK (.str "own q x")) eNil))) eNil)) eNil)) (eLst (eCons (eK (.str "line")) (eCons (eK (.int 13)) (eCons (eK (.bl true)) eNil)))))) (eRet (eK (.bl false))) eEnd (σP y5 (some (.ref 24)) y13 y14 y15) K = .nx (σP y5 (some (.ref 24)) y13 y14 y15) (K ++ g) := by
  obtain ⟨σ, hσ⟩ : ∃ σ, σ = σP y5 (some (.ref 24)) y13 y14 y15 := ⟨_, rfl⟩
  have e12 : ∀ h, eLoc 12 σ h = .v (.ref 24) h := fun h => by rw [hσ]; rfl
  rw [← hσ]
  have j1 := jn_E (σ := σ) (h := K) (l := MANY) (p := 24) (e12 K) h24 (by decide +kernel)
  have c1 := q_0 j1 m12
  have h24' : (K ++ [IO.lst [], IO.lst []])[24]? = some (lsS MANY) := by
    rw [List.getElem?_append_left (List.getElem?_eq_some_iff.mp h24).1]; exact h24
  have lx : eLst (eCons (eK (.str "own q x")) eNil) σ (K ++ [IO.lst [], IO.lst []]) = .v (.ref (K ++ [IO.lst [], IO.lst []]).length) (K ++ [IO.lst [], IO.lst []] ++ [lsS ["own q x"]]) := rfl
  have a2 := ap_E (σ := σ) (l := MANY) (l' := ["own q x"]) (e12 _) lx (by rw [List.getElem?_append_left (List.getElem?_eq_some_iff.mp h24').1]; exact h24') (by simp) (by decide)
  have j2 := jn_E (l := MANY ++ (["own q x"] : List Str)) a2 (by simp) (by decide +kernel)
  have c2 := q_n (s := "line") (n := 13) (b := true) (by decide +kernel) j2 m13
  have z := if_F (a := eRet (eK (.bl false))) (or_F c1 c2)
  rw [List.append_assoc, List.append_assoc, List.append_assoc] at z
  exact ⟨_, z⟩
theorem mul2 {h : IH} {p : Nat} {l : List W} (hp : h[p]? = some (.lst l)) (hl : l.length ≤ 10) : oMulX (.ref p) (.int 2) h = .v (.ref h.length) (h ++ [.lst (l ++ l)]) := by
  show oMul (.ref p) (.int 2) h = _
  simp only [oMul, hp]
  rw [if_pos (by refine ⟨by decide, by decide, ?_⟩; show l.length * 2 ≤ _; omega)]
  simp [List.replicate]
theorem two {h : IH} {σ : Sg} (e13 : ∀ h, eLoc 13 σ h = .v (.str RULE) h) : eBin oMulX (eLst (eCons (eLoc 13) eNil)) (eK (.int 2)) σ h = .v (.ref (h.length + 1)) (h ++ [lsS [RULE], lsS [RULE, RULE]]) := by
  have e : eLst (eCons (eLoc 13) eNil) σ h = .v (.ref h.length) (h ++ [lsS [RULE]]) := by
    rw [eLst_ap, eCons_ap, e13, vb_v, eNil_ap, vsb_vs, vsb_vs]; rfl
  rw [eBin_ap, e, vb_v, eK_ap, vb_v, mul2 (l := [.str RULE]) (by simp) (by decide)]
  simp
theorem cond5 (h24 : K[24]? = some (lsS MANY)) : ∃ g, eIfS (eBin oNe (eCall (clP 83) [] (eCons (eBM "str" mJoin (eK (.str "\n")) (eCons (eBin oAdd (eLoc 12) (eBin oMulX (eLst (eCons (eLoc 13) eNil)) (eK (.int 2)))) eNil)) eNil)) (eLst eNil)) (eRet (eK (.bl false))) eEnd (σP y5 (some (.ref 24)) (some (.str RULE)) y14 y15) K = .nx (σP y5 (some (.ref 24)) (some (.str RULE)) y14 y15) (K ++ g) := by
  obtain ⟨σ, hσ⟩ : ∃ σ, σ = σP y5 (some (.ref 24)) (some (.str RULE)) y14 y15 := ⟨_, rfl⟩
  have e12 : ∀ h, eLoc 12 σ h = .v (.ref 24) h := fun h => by rw [hσ]; rfl
  have e13 : ∀ h, eLoc 13 σ h = .v (.str RULE) h := fun h => by rw [hσ]; rfl
  rw [← hσ]
  have a2 := ap_E (σ := σ) (h := K) (l := MANY) (l' := [RULE, RULE]) (e12 _) (two e13) (by rw [List.getElem?_append_left (List.getElem?_eq_some_iff.mp h24).1]; exact h24) (by simp) (by decide)
  have j2 := jn_E (l := MANY ++ [RULE, RULE]) a2 (by simp) (by decide +kernel)
  have z := if_F (a := eRet (eK (.bl false))) (q_0 j2 r2)
  rw [List.append_assoc, List.append_assoc] at z
  exact ⟨_, z⟩
theorem ne_si {p q : Nat} {h : IH} {s : Str} {n : Int} (hs : (s.cps.toList.all fun c => Nat.blt c 0x110000) = true) (hp : h[p]? = some (.lst [.str s, .int n])) (hq : h[q]? = some (.lst [.str s, .int n])) : oNe (.ref p) (.ref q) h = .v (.bl false) h := by
  have da : ∀ p, h[p]? = some (.lst [.str s, .int n]) → dat h 40 (.ref p) = some (.list [.str s, .int n]) := fun p e => by
    show (match lstAt h p with | some ws => (match mapO (dat h 39) ws with | some ds => some (PyData.list ds) | none => none) | none => none) = _
    unfold lstAt; rw [e]; rfl
  refine oNe_dat hp hq (by simp) (da p hp) (da q hq) ?_ ?_
  · unfold shaped'
    simp [shFs, shF, PyData.depth, PyData.depthAll, hs]
  · unfold eqF eqFs eqF eqFs eqF
    simp [eqS_eq, PyData.eqv, eqFs]
theorem cond6 (h24 : K[24]? = some (lsS MANY)) : ∃ g, eIfS (eBin oNe (eSl (eCall (clP 83) [] (eCons (eBM "str" mJoin (eK (.str "\n")) (eCons (eBin oAdd (eBin oAdd (eLoc 12) (eBin oMulX (eLst (eCons (eLoc 13) eNil)) (eK (.int 2)))) (eLst (eCons (eK (.str "b { pa: y }")) eNil))) eNil)) eNil)) (eK .non) (eInt (eK (.int 2)))) (eLst (eCons (eK (.str "limit")) (eCons (eK (.int 24)) eNil)))) (eRet (eK (.bl false))) eEnd (σP y5 (some (.ref 24)) (some (.str RULE)) y14 y15) K = .nx (σP y5 (some (.ref 24)) (some (.str RULE)) y14 y15) (K ++ g) := by
  obtain ⟨σ, hσ⟩ : ∃ σ, σ = σP y5 (some (.ref 24)) (some (.str RULE)) y14 y15 := ⟨_, rfl⟩
  have e12 : ∀ h, eLoc 12 σ h = .v (.ref 24) h := fun h => by rw [hσ]; rfl
  have e13 : ∀ h, eLoc 13 σ h = .v (.str RULE) h := fun h => by rw [hσ]; rfl
  rw [← hσ]
  have a2 := ap_E (σ := σ) (h := K) (l := MANY) (l' := [RULE, RULE]) (e12 _) (two e13) (by rw [List.getElem?_append_left (List.getElem?_eq_some_iff.mp h24).1]; exact h24) (by simp) (by decide)
  obtain ⟨K2, hK2⟩ : ∃ K2, K2 = K ++ [lsS [RULE], lsS [RULE, RULE]] ++ [lsS (MANY ++ [RULE, RULE])] := ⟨_, rfl⟩
  have l2 : (K ++ [lsS [RULE], lsS [RULE, RULE]]).length = K2.length - 1 := by rw [hK2]; simp
  have g2 : K2[K2.length - 1]? = some (lsS (MANY ++ [RULE, RULE])) := by rw [hK2]; simp
  have lt2 : K2.length - 1 < K2.length := (List.getElem?_eq_some_iff.mp g2).1
  rw [← hK2, l2] at a2
  have lx : eLst (eCons (eK (.str "b { pa: y }")) eNil) σ K2 = .v (.ref K2.length) (K2 ++ [lsS ["b { pa: y }"]]) := rfl
  have a3 := ap_E (σ := σ) (l := MANY ++ [RULE, RULE]) (l' := ["b { pa: y }"]) a2 lx (by rw [List.getElem?_append_left lt2]; exact g2) (by simp) (by decide)
  have j3 := jn_E (l := MANY ++ [RULE, RULE] ++ (["b { pa: y }"] : List Str)) a3 (by simp) (by decide +kernel)
  obtain ⟨K3, hK3⟩ : ∃ K3, K3 = K2 ++ [lsS ["b { pa: y }"]] ++ [lsS (MANY ++ [RULE, RULE] ++ (["b { pa: y }"] : List Str))] := ⟨_, rfl⟩
  rw [← hK3] at j3
  have c : eBin oNe (eSl (eCall (clP 83) [] (eCons (eBM "str" mJoin (eK (.str "\n")) (eCons (eBin oAdd (eBin oAdd (eLoc 12) (eBin oMulX (eLst (eCons (eLoc 13) eNil)) (eK (.int 2)))) (eLst (eCons (eK (.str "b { pa: y }")) eNil))) eNil)) eNil)) (eK .non) (eInt (eK (.int 2)))) (eLst (eCons (eK (.str "limit")) (eCons (eK (.int 24)) eNil))) σ K = .v (.bl false) (K3 ++ [.lst [.str "limit", .int 24, .bl true], .lst [.str "limit", .int 24], .lst [.str "limit", .int 24]]) := by
    rw [eBin_ap, eSl_ap, eCall_ap, eCons_ap, j3, vb_v, eNil_ap, vsb_vs, vsb_vs, List.append_nil, sd_n r3, cb_v, vb_v, eK_ap, pb_v, pm_non, eInt_ap, eK_ap, vb_v, pb_v, pm_int, oSl_lst (xs := [.str "limit", .int 24, .bl true]) (by simp), vb_v]
    rw [show cutW [W.str "limit", W.int 24, W.bl true] none (some 2) = [W.str "limit", W.int 24] from rfl]
    rw [show eLst (eCons (eK (.str "limit")) (eCons (eK (.int 24)) eNil)) σ (K3 ++ [IO.lst [.str "limit", .int 24, .bl true]] ++ [IO.lst [.str "limit", .int 24]]) = .v (.ref (K3 ++ [IO.lst [.str "limit", .int 24, .bl true]] ++ [IO.lst [.str "limit", .int 24]]).length) (K3 ++ [IO.lst [.str "limit", .int 24, .bl true]] ++ [IO.lst [.str "limit", .int 24]] ++ [IO.lst [.str "limit", .int 24]]) from rfl, vb_v, ne_si (s := "limit") (n := 24) (by decide +kernel) (by simp) (by simp)]
    simp
  have z := if_F (a := eRet (eK (.bl false))) c
  rw [hK3, hK2, List.append_assoc, List.append_assoc, List.append_assoc, List.append_assoc] at z
  exact ⟨_, z⟩
end
theorem kp14 (y5 y12 y13 y15 : Option W) (t : Str) : keepS [14] (fun _ => true) 0 (σP y5 y12 y13 (some (.str t)) y15) = [none, none, none, none, none, none, none, none, none, none, none, none, none, none, some (.str t), none, none] := rfl
theorem kp15 (y5 y12 y13 y14 : Option W) (t : Str) : keepS [15] (fun _ => true) 0 (σP y5 y12 y13 y14 (some (.str t))) = [none, none, none, none, none, none, none, none, none, none, none, none, none, none, none, some (.str t), none] := rfl
section
variable {σ : Sg} {h : IH}
theorem ad_E {x y : Str} {X Y : Ev} {h1 h2 : IH} (e : X σ h = .v (.str x) h1) (e' : Y σ h1 = .v (.str y) h2) (c : Nat.ble (x.length + y.length) 16777216 = true) : eBin oAdd X Y σ h = .v (.str (appS x y)) h2 := by
  rw [eBin_ap, e, vb_v, e', vb_v, oAdd_str (Nat.le_of_ble_eq_true c)]
end
theorem w_ok {h : IH} {y5 y12 y13 y15 : Option W} : ePure [14] (q86_4 clP nF) (σP y5 y12 y13 (some (.str WIDE)) y15) h = .v (.bl false) h := by
  refine pure_v (by rw [kp14]; rfl) rfl ?_
  rw [kp14]
  obtain ⟨σ, hσ⟩ : ∃ σ : Sg, σ = [none, none, none, none, none, none, none, none, none, none, none, none, none, none, some (.str WIDE), none, none] := ⟨_, rfl⟩
  have e14 : ∀ h, eLoc 14 σ h = .v (.str WIDE) h := fun h => by rw [hσ]; rfl
  rw [← hσ]
  have t1 : eBin oAdd (eK (.str "own pa x\n")) (eLoc 14) σ [] = .v (.str (appS "own pa x\n" WIDE)) [] := ad_E (eK_ap ..) (e14 _) (by decide +kernel)
  have c1 := q_0 t1 w1
  have t2 : ∀ h, eBin oAdd (eBin oAdd (eK (.str "own pa x\n")) (eLoc 14)) (eK (.str "\nb { pa: y }")) σ h = .v (.str (appS (appS "own pa x\n" WIDE) "\nb { pa: y }")) h := fun h => ad_E (ad_E (eK_ap ..) (e14 _) (by decide +kernel)) (eK_ap ..) (by decide +kernel)
  have c2 := q_n (s := "limit") (n := 24) (b := true) (by decide +kernel) (t2 ([] ++ [.lst [], .lst []])) w2
  exact ⟨_, or_F c1 c2⟩
theorem d_ok {h : IH} {y5 y12 y13 y14 : Option W} : ePure [15] (q86_6 clP nF) (σP y5 y12 y13 y14 (some (.str DEEP))) h = .v (.bl false) h := by
  refine pure_v (by rw [kp15]; rfl) rfl ?_
  rw [kp15]
  obtain ⟨σ, hσ⟩ : ∃ σ : Sg, σ = [none, none, none, none, none, none, none, none, none, none, none, none, none, none, none, some (.str DEEP), none] := ⟨_, rfl⟩
  have e15 : ∀ h, eLoc 15 σ h = .v (.str DEEP) h := fun h => by rw [hσ]; rfl
  rw [← hσ]
  exact ⟨_, q_n (s := "line") (n := 3) (b := true) (by decide +kernel) (e15 []) dp⟩
theorem e_ok {h : IH} {y5 y12 y13 y15 : Option W} : ePure [14] (q86_7 clP nF) (σP y5 y12 y13 (some (.str WIDE)) y15) h = .v (.bl true) h := by
  refine pure_v (by rw [kp14]; rfl) rfl ?_
  rw [kp14]
  obtain ⟨σ, hσ⟩ : ∃ σ : Sg, σ = [none, none, none, none, none, none, none, none, none, none, none, none, none, none, some (.str WIDE), none, none] := ⟨_, rfl⟩
  have e14 : ∀ h, eLoc 14 σ h = .v (.str WIDE) h := fun h => by rw [hσ]; rfl
  rw [← hσ]
  have t2 : eBin oAdd (eBin oAdd (eK (.str "own pa x\n")) (eLoc 14)) (eK (.str "\nb { pa: y }\nc")) σ [] = .v (.str (appS (appS "own pa x\n" WIDE) "\nb { pa: y }\nc")) [] := ad_E (ad_E (eK_ap ..) (e14 _) (by decide +kernel)) (eK_ap ..) (by decide +kernel)
  refine ⟨[.lst [.str "line", .int 4, .bl true], .lst [.str "line", .int 4, .bl true]], ?_⟩
  unfold q86_7
  rw [eBin_ap, eCall_ap, eCons_ap, t2, vb_v, eNil_ap, vsb_vs, vsb_vs, List.append_nil, sd_n w3, cb_v, vb_v]
  rw [show eLst (eCons (eK (.str "line")) (eCons (eK (.int 4)) (eCons (eK (.bl true)) eNil))) σ ([] ++ [IO.lst [.str "line", .int 4, .bl true]]) = .v (.ref 1) [.lst [.str "line", .int 4, .bl true], .lst [.str "line", .int 4, .bl true]] from rfl, vb_v]
  exact eq_of_ne (ne_sib (s := "line") (n := 4) (b := true) (by decide +kernel) rfl rfl)
theorem tail_ok (R : List W) (y5 : Option W) : ∃ h', (q86_8 clP nF (σO y5) (H0 R)).fin = .v (.bl true) h' := by
  have h24 : (H1 R ++ [lsS MANY])[24]? = some (lsS MANY) := rfl
  obtain ⟨g2, c2⟩ := cond2 (y5 := y5) (y13 := none) (y14 := none) (y15 := none) h24
  have h24b : (H1 R ++ [lsS MANY] ++ g2)[24]? = some (lsS MANY) := by rw [List.getElem?_append_left (List.getElem?_eq_some_iff.mp h24).1]; exact h24
  have c3 : eAsg (gN 13) (ePure [] (q86_2 clP nF)) (σP y5 (some (.ref 24)) none none none) (H1 R ++ [lsS MANY] ++ g2) = .nx (σP y5 (some (.ref 24)) (some (.str RULE)) none none) (H1 R ++ [lsS MANY] ++ g2) := by
    rw [eAsg_ap, rule_ok _ _ rfl, vb_v]; rfl
  obtain ⟨g5, c5⟩ := cond5 (y5 := y5) (y14 := none) (y15 := none) h24b
  have h24c : (H1 R ++ [lsS MANY] ++ g2 ++ g5)[24]? = some (lsS MANY) := by rw [List.getElem?_append_left (List.getElem?_eq_some_iff.mp h24b).1]; exact h24b
  obtain ⟨g6, c6⟩ := cond6 (y5 := y5) (y14 := none) (y15 := none) h24c
  have c7 : eAsg (gN 14) (ePure [] (q86_3 clP nF)) (σP y5 (some (.ref 24)) (some (.str RULE)) none none) (H1 R ++ [lsS MANY] ++ g2 ++ g5 ++ g6) = .nx (σP y5 (some (.ref 24)) (some (.str RULE)) (some (.str WIDE)) none) (H1 R ++ [lsS MANY] ++ g2 ++ g5 ++ g6) := by
    rw [eAsg_ap, wide_ok _ _ rfl, vb_v]; rfl
  have c9 : eAsg (gN 15) (ePure [] (q86_5 clP nF)) (σP y5 (some (.ref 24)) (some (.str RULE)) (some (.str WIDE)) none) (H1 R ++ [lsS MANY] ++ g2 ++ g5 ++ g6) = .nx (σP y5 (some (.ref 24)) (some (.str RULE)) (some (.str WIDE)) (some (.str DEEP))) (H1 R ++ [lsS MANY] ++ g2 ++ g5 ++ g6) := by
    rw [eAsg_ap, deep_ok _ _ rfl, vb_v]; rfl
  refine ⟨H1 R ++ [lsS MANY] ++ g2 ++ g5 ++ g6, ?_⟩
  unfold q86_8
  rw [eSeq_ap, odd_ok, nb_nx, eSeq_ap, many_ok, nb_nx, eSeq_ap, c2, nb_nx, eSeq_ap, c3, nb_nx, eSeq_ap, c5, nb_nx, eSeq_ap, c6, nb_nx, eSeq_ap, c7, nb_nx, eSeq_ap, if_F w_ok, nb_nx, eSeq_ap, c9, nb_nx, eSeq_ap, if_F d_ok, nb_nx, eRet_ap, e_ok, vb_v]
  rfl
theorem LV : LawV := by
  intro ns hl hb
  rw [law_1]
  obtain ⟨y5, e⟩ := loopO (ns := ns) hl
  obtain ⟨h', et⟩ := tail_ok (ns.map W.int) y5
  refine ⟨h', ?_⟩
  unfold q86_9
  rw [eSeq_ap, e, nb_nx, et]
end Dr.L
set_option maxHeartbeats 2000000
namespace Dr
open PySem PySem.Spec PyProof.Rows L2
/-! ### the head's facts by an own Hook -/
abbrev FnY : Type := Option (Str × Str × Arguments × FuncBody × Scope × Addr × List Str × Addr)
def fnY (K : PySem.W.Frag) (f : Addr) : FnY := match K.lookup f with
  | some ⟨_, _, .func fd, _⟩ => some (fd.name, fd.qualname, fd.params, fd.body, fd.scope, fd.globals, fd.closure.map (·.1), fd.builtins)
  | _ => none
def dfltY (K : PySem.W.Frag) (f : Addr) : Value := match K.lookup f with
  | some ⟨_, _, .func fd, _⟩ => fd.defaults
  | _ => .none
def codeY (K : PySem.W.Frag) (f : Addr) (qual : Str) : Bool := match K.lookup f with
  | some ⟨_, _, .func fd, _⟩ => PySem.W.codeIn K fd.code qual
  | _ => false
/-- a property's getter, the rest of its record -/
def prgY (K : PySem.W.Frag) (p : Addr) : Addr := match PySem.W.recIn K p "property" with
  | some (.ref f :: _) => f
  | _ => 0
def prrY (K : PySem.W.Frag) (p : Addr) : List Value := match PySem.W.recIn K p "property" with
  | some (_ :: r) => r
  | _ => []
def tokY (K : PySem.W.Frag) (x : Str) : Tok := match PySem.W.nsIn K mainGlobals x with
  | some (some (.int _ t)) => t
  | some (some (.str _ t)) => t
  | _ => default
theorem fnY_ok {K : PySem.W.Frag} {f : Addr} {name qual : Str} {params : Arguments} {body : List Stmt} {scope : Scope} {dV : Value} (e : fnY K f = some (name, qual, params, FuncBody.stmts body, scope, mainGlobals, [], builtinsNs)) (c : codeY K f qual = true) (hd : dfltY K f = dV) :
    ∃ oc od osl kV doc pm an cdv ct, K.lookup f = some ⟨oc, od, .func (PySem.W.fnOf name qual params body scope dV kV doc pm an cdv ct), osl⟩ ∧ PySem.W.codeIn K cdv qual = true := by
  unfold fnY at e
  unfold codeY at c
  unfold dfltY at hd
  cases q : K.lookup f with
  | none => rw [q] at c; cases c
  | some o =>
    obtain ⟨oc, od, dt, osl⟩ := o
    rw [q] at c e hd
    cases dt with
    | func fd =>
      obtain ⟨n1, n2, n3, n4, n5, n6, n7, n8, n9, n10, n11, n12, n13, n14, n15⟩ := fd
      have e2 : (some (n1, n2, n3, n4, n5, n6, n7.map (·.1), n15) : FnY) = some (name, qual, params, .stmts body, scope, mainGlobals, [], builtinsNs) := e
      simp only [Option.some.injEq, Prod.mk.injEq, List.map_eq_nil_iff] at e2
      obtain ⟨h1, h2, h3, h4, h5, h6, h7, h8⟩ := e2
      subst h1 h2 h3 h4 h5 h6 h7 h8
      have hd2 : n8 = dV := hd
      subst hd2
      exact ⟨oc, od, osl, n9, n10, n11, n12, n13, n14, rfl, c⟩
    | _ => cases c
/-! a def's defaults: True, False, None -/
def dtY (K : PySem.W.Frag) (f : Addr) : Addr := match dfltY K f with
  | .ref t => t
  | _ => 0
def dvV : Option Bool → Value
  | some b => .bool b
  | none => .none
def dvO : Value → Option (Option Bool)
  | .bool b => some (some b)
  | .none => some none
  | _ => none
def dvB : List Value → List (Option Bool) → Bool
  | [], [] => true
  | v :: vs, b :: bs => decide (dvO v = some b) && dvB vs bs
  | _, _ => false
theorem dvO_ok {v : Value} {b : Option Bool} (h : dvO v = some b) : v = dvV b := by
  unfold dvO at h
  split at h
  · cases h; rfl
  · cases h; rfl
  · cases h
theorem dvB_ok : ∀ {vs : List Value} {bs : List (Option Bool)}, dvB vs bs = true → vs = bs.map dvV
  | [], [], _ => rfl
  | v :: vs, b :: bs, h => by
    have h := Bool.and_eq_true_iff.mp (show (decide (dvO v = some b) && dvB vs bs) = true from h)
    rw [dvO_ok (of_decide_eq_true h.1), dvB_ok h.2]
    rfl
  | _ :: _, [], h => by cases h
  | [], _ :: _, h => by cases h
def defK (K : PySem.W.Frag) (p : Addr) (bs : List (Option Bool)) : Bool := match K.lookup p with
  | some ⟨_, _, .seq its _, _⟩ => dvB its.toList bs
  | _ => false
theorem defK_ok {K : PySem.W.Frag} {p : Addr} {bs : List (Option Bool)} (h : defK K p bs = true) : ∃ o n, K.lookup p = some o ∧ o.data = .seq (bs.map dvV).toArray n := by
  unfold defK at h
  split at h
  · rename_i c d its n sl e
    refine ⟨_, n, e, ?_⟩
    rw [← dvB_ok h]
  · cases h
/-! an own error's __init__ -/
def fileY (vs : Array Value) (file : Str) : Bool := match vs[2]? with
  | some (Value.str fl _) => decide (fl = file)
  | _ => false
theorem fileY_ok {vs : Array Value} {file : Str} (h : fileY vs file = true) : ∃ tf, vs[2]? = some (Value.str file tf) := by
  unfold fileY at h
  split at h
  · rename_i fl tf e
    have hf := of_decide_eq_true h
    subst hf
    exact ⟨tf, e⟩
  · cases h
def initY (K : PySem.W.Frag) (f C : Addr) (qual file : Str) : Bool := match K.lookup f with
  | some ⟨_, _, .func fd, _⟩ => PySem.W.codeIn K fd.code qual && ((match fd.defaults with | .none => true | _ => false) && ((match fd.kwdefaults with | .none => true | _ => false) && ((match fd.closure with
    | [(_, cc)] => (match K.lookup cc with
      | some ⟨_, _, .cell (some (.ref D)), _⟩ => decide (D = C)
      | _ => false)
    | _ => false) && (match fd.code with
    | .ref cda => (match K.lookup cda with
      | some ⟨_, _, .fields vs, _⟩ => fileY vs file
      | _ => false)
    | _ => false))))
  | _ => false
theorem initY_ok {K : PySem.W.Frag} {f C : Addr} {name qual file : Str} {params : Arguments} {body : List Stmt} {scope : Scope} (e : fnY K f = some (name, qual, params, FuncBody.stmts body, scope, mainGlobals, [("__class__" : Str)], builtinsNs)) (c : initY K f C qual file = true) :
    ∃ oc od doc pm an cc cda ct osl xl cld csl ccl cdd vs ccs tf, K.lookup f = some ⟨oc, od, .func (PySem.W.fnX name qual params body scope [("__class__", cc)] .none .none doc pm an (.ref cda) ct), osl⟩ ∧ PySem.W.codeIn K (.ref cda) qual = true ∧
      K.lookup cc = some ⟨xl, cld, .cell (some (.ref C)), csl⟩ ∧ K.lookup cda = some ⟨ccl, cdd, .fields vs, ccs⟩ ∧ vs[2]? = some (.str file tf) := by
  unfold fnY at e
  unfold initY at c
  cases q : K.lookup f with
  | none => rw [q] at c; cases c
  | some o =>
    obtain ⟨oc, od, dt, osl⟩ := o
    rw [q] at c e
    cases dt with
    | func fd =>
      obtain ⟨n1, n2, n3, n4, n5, n6, n7, n8, n9, n10, n11, n12, n13, n14, n15⟩ := fd
      have e2 : (some (n1, n2, n3, n4, n5, n6, n7.map (·.1), n15) : FnY) = some (name, qual, params, .stmts body, scope, mainGlobals, [("__class__" : Str)], builtinsNs) := e
      simp only [Option.some.injEq, Prod.mk.injEq] at e2
      obtain ⟨h1, h2, h3, h4, h5, h6, h7, h8⟩ := e2
      subst h1 h2 h3 h4 h5 h6 h8
      simp only [Bool.and_eq_true] at c
      obtain ⟨c1, c2, c3, c4, c5⟩ := c
      cases n8 with
      | none =>
        cases n9 with
        | none =>
          cases n7 with
          | nil => cases h7
          | cons z zs =>
            cases zs with
            | cons _ _ => simp at h7
            | nil =>
              obtain ⟨nc, cc⟩ := z
              have hn : nc = ("__class__" : Str) := by simpa using h7
              subst hn
              cases n13 with
              | ref cda =>
                simp only at c4 c5
                split at c4
                · rename_i x1 x2 D x4 e4
                  have hD := of_decide_eq_true c4
                  subst hD
                  split at c5
                  · rename_i y1 y2 vs y4 e5
                    obtain ⟨tf, e6⟩ := fileY_ok c5
                    exact ⟨oc, od, n10, n11, n12, cc, cda, n14, osl, _, _, _, _, _, vs, _, tf, rfl, c1, e4, e5, e6⟩
                  · cases c5
                · cases c4
              | _ => cases c5
        | _ => cases c3
      | _ => cases c2
    | _ => cases c
/-! an own error's class -/
def excY (K : PySem.W.Frag) (C : Addr) (bmB : List Value) (newId : String) : Bool := match K.lookup C with
  | some ⟨.type ty, _, .cls cd, sl⟩ => decide (ty = "type") && ((match cd.mro with
    | .ref D :: bm => decide (D = C) && PySem.XeX.tailIs bmB bm
    | _ => false) && (cd.hasDict && (!cd.hasDel && (match sl.toList with
    | [_, _, _, _, some (.builtin n), _] => decide (n = newId)
    | _ => false))))
  | _ => false
theorem excY_ok {K : PySem.W.Frag} {C : Addr} {bmB : List Value} {newId : String} (c : excY K C bmB newId = true) :
    ∃ nm q N bs bm sn sub ab col dd k0 k1 k2 k3 k5, K.lookup C = some (excClassObj nm q C N bs bm true sn sub ab col dd k0 k1 k2 k3 k5 newId) ∧ PySem.XeX.tailIs bmB bm = true := by
  unfold excY at c
  split at c
  · rename_i ty od cd sl q
    obtain ⟨nm, bs, mro, ns, qn, hd, sn, sb, ab, col, del⟩ := cd
    simp only [Bool.and_eq_true] at c
    obtain ⟨c1, c2, c3, c4, c5⟩ := c
    have e1 := of_decide_eq_true c1
    subst e1
    have e3 : hd = true := c3
    have e4 : del = false := by simpa using c4
    subst e3 e4
    split at c2
    · rename_i D bm
      simp only [Bool.and_eq_true] at c2
      have e5 := of_decide_eq_true c2.1
      subst e5
      split at c5
      · rename_i k0 k1 k2 k3 n k5 e6
        have e7 := of_decide_eq_true c5
        have e8 : sl = #[k0, k1, k2, k3, some (Value.builtin n), k5] := by
          obtain ⟨l⟩ := sl
          have e6' : l = _ := e6
          rw [e6']
        subst e7 e8
        exact ⟨nm, qn, ns, bs, bm, sn, sb, ab, col, od, k0, k1, k2, k3, k5, q, c2.2⟩
      · cases c5
    · cases c2
  · cases c
/-! ### the addresses that are looked at: by levels, each once -/
inductive Tri where
  | lf
  | nd (b : Bool) (l r : Tri)
def Tri.ins : Nat → Tri → Nat → Tri
  | 0, _, _ => .lf
  | k + 1, t, a => match Nat.beq a 0 with
    | true => (match t with
      | .lf => .nd true .lf .lf
      | .nd _ l r => .nd true l r)
    | false => (match t with
      | .lf => (match Nat.beq (a % 2) 0 with
        | true => .nd false (Tri.ins k .lf (a / 2)) .lf
        | false => .nd false .lf (Tri.ins k .lf (a / 2)))
      | .nd b l r => (match Nat.beq (a % 2) 0 with
        | true => .nd b (Tri.ins k l (a / 2)) r
        | false => .nd b l (Tri.ins k r (a / 2))))
def Tri.has : Nat → Tri → Nat → Bool
  | 0, _, _ => false
  | _ + 1, .lf, _ => false
  | k + 1, .nd b l r, a => match Nat.beq a 0 with
    | true => b
    | false => (match Nat.beq (a % 2) 0 with
      | true => Tri.has k l (a / 2)
      | false => Tri.has k r (a / 2))
def newA : List Addr → Tri → List Addr → (Tri → List Addr → List Addr) → List Addr
  | [], t, acc, k => k t acc
  | a :: as, t, acc, k => match t.has 40 a with
    | true => newA as t acc k
    | false => newA as (t.ins 40 a) (a :: acc) k
def asL (g : Addr → Option Obj) : Nat → Tri → List Addr → List Addr → List Addr
  | 0, _, _, acc => acc
  | n + 1, t, fr, acc => newA (fr.flatMap fun a => match g a with
    | some o => He.refsD o
    | none => []) t [] fun t' new => asL g n t' new (acc ++ new)
def asY (g : Addr → Option Obj) (n : Nat) : List Addr := asL g n ((Tri.lf).ins 40 mainGlobals) [mainGlobals] [mainGlobals]
/-! ### the Hook -/
abbrev AlY : Type := Bool × List FnY
def obsY (n : Nat) (fa : PySem.W.Frag → Bool) (fn : List (PySem.W.Frag → Addr)) (g : Addr → Option Obj) : AlY := (fun K : PySem.W.Frag => (fa K, fn.map fun f => fnY K (f K))) (He.frG g (sysModules :: cStatics :: asY g n))
structure SaysY (fa : PySem.W.Frag → Bool) (fn : List (PySem.W.Frag → Addr)) (vals : List FnY) (K : PySem.W.Frag) : Prop where
  f : fa K = true
  d : (fn.map fun f => fnY K (f K)) = vals
def hookY (n : Nat) (fa : PySem.W.Frag → Bool) (fn : List (PySem.W.Frag → Addr)) (vals : List FnY) : PySem.W.Hook where
  α := AlY
  obs := fun s => obsY n fa fn s.heap.get?
  val := fun _ => (true, vals)
  says := fun _ h => ∃ K : PySem.W.Frag, K.In h ∧ SaysY fa fn vals K
  of := fun _ s e => ⟨_, He.frG_in, ⟨congrArg (fun z : AlY => z.1) e, congrArg (fun z : AlY => z.2) e⟩⟩
  keeps := fun _ _ _ ⟨K, hK, c⟩ k => ⟨K, PySem.W.Frag.In.keeps hK k, c⟩
theorem obsY_eq {n : Nat} {fa : PySem.W.Frag → Bool} {fn : List (PySem.W.Frag → Addr)} {vals : List FnY} {g : Addr → Option Obj} {s : Shared} (h : ∀ a, g a = s.heap.get? a) : obsY n fa fn g = (hookY n fa fn vals).obs s := by
  have e : g = s.heap.get? := funext h
  rw [e] <;> rfl
theorem SaysY.def_ {fa : PySem.W.Frag → Bool} {fn : List (PySem.W.Frag → Addr)} {vals : List FnY} {K : PySem.W.Frag} (c : SaysY fa fn vals K) (i : Nat) {f : PySem.W.Frag → Addr} {v : FnY} (h1 : fn[i]? = some f := by rfl) (h2 : vals[i]? = some v := by rfl) : fnY K (f K) = v := by
  have e := congrArg (fun l : List FnY => l[i]?) c.d
  simp only [List.getElem?_map, h1, h2, Option.map_some, Option.some.injEq] at e
  exact e
theorem allY {fs : List (PySem.W.Frag → Bool)} {K : PySem.W.Frag} (c : (fs.all fun f => f K) = true) (i : Nat) {f : PySem.W.Frag → Bool} (h : fs[i]? = some f := by rfl) : f K = true := List.all_eq_true.mp c f (List.mem_of_getElem? h)
/-! ### the end -/
theorem walkY {l : PySem.W.OpenLaw} {n k : Nat} {q : Program} {loose : List Str} {XP : (Str → Option Value) → Heap → Prop} {YP : World → Heap → Prop} {d : DefRec} {sp : PySem.W.Frag → Sp} {x : Str}
    (hn : l.most = some n) (hn2 : n ≤ sizeLine) (hdf : d.params.defaults = []) (hr : Room k callerA)
    (F : ∀ (w : World) (mg : Str → Option Value) (fa : Addr) (h : Heap), YP w h → h.Ns mainGlobals mg → mg d.name = some (.ref fa) → ∃ K : PySem.W.Frag, K.In h ∧ ∃ fd : FuncData, (∀ (s : Shared) (u : Value), BindsTo s fd ⟨[u], []⟩ [(x, u)]) ∧
        ∃ dt : Value → Prop, ∀ base : Heap, K.In base → base.Ns mainGlobals mg → FnG dt l.prog w K mg base k fa fd [x] (sp K))
    (hsp : ∀ (K : PySem.W.Frag) (H : Hp) (a : Addr) (ns : List Int), ns.length ≤ n → (∀ z ∈ ns, Builtin.Int.intBits z ≤ 1048576) → Only H → SqL K H a (ns.map V.int) → sp K [.ref a] H (fun v _ => v = .bl true) fun _ _ _ => False) :
    PySem.W.WalkO q loose XP YP l.row.toRowW d [] (fun f vs => PySem.call f vs) :=
  Att.attach_callB hn hdf fun w s₀ s₁ mg mb fa o pm cd doc a vs ns G Y ho hd hcd hmg hobj hints hlen hbits hg => by
    obtain ⟨K, KX, fd, hb, dt, hF⟩ := F w mg fa _ Y G.T.g hmg
    exact head_go KX G.T.g G.T.b G.T.builtins G.T.nolimit hg hobj hints (Nat.le_trans hlen hn2) hr hF hb (fun H hO hS => hsp K H a ns hlen hbits hO hS)
end Dr
set_option maxHeartbeats 4000000
namespace Dr.L
open PySem L2 PyProof.Rows Dr PySem.F
abbrev gG (K : PySem.W.Frag) (cs : List Addr) : Cfg := { K := K, cl := clF cs, fn := fnF, tc := some 2 }
def dF (f5 f6 f7 f8 f9 f10 f11 f12 f13 f14 f15 f16 f17 f18 f19 f20 f21 f22 f23 f24 f25 f26 f27 f28 f45 f46 f48 f62 f63 f64 f65 f66 f67 f68 f69 f70 f71 f72 f73 f81 f82 f83 f84 f85 f86 : Addr) : Nat → Addr := fun i => match i with
  | 5 => f5
  | 6 => f6
  | 7 => f7
  | 8 => f8
  | 9 => f9
  | 10 => f10
  | 11 => f11
  | 12 => f12
  | 13 => f13
  | 14 => f14
  | 15 => f15
  | 16 => f16
  | 17 => f17
  | 18 => f18
  | 19 => f19
  | 20 => f20
  | 21 => f21
  | 22 => f22
  | 23 => f23
  | 24 => f24
  | 25 => f25
  | 26 => f26
  | 27 => f27
  | 28 => f28
  | 45 => f45
  | 46 => f46
  | 48 => f48
  | 62 => f62
  | 63 => f63
  | 64 => f64
  | 65 => f65
  | 66 => f66
  | 67 => f67
  | 68 => f68
  | 69 => f69
  | 70 => f70
  | 71 => f71
  | 72 => f72
  | 73 => f73
  | 81 => f81
  | 82 => f82
  | 83 => f83
  | 84 => f84
  | 85 => f85
  | 86 => f86
  | _ => 0
def spL (K : PySem.W.Frag) : Sp := fun vs H Q _ => ∃ (a : Addr) (ns : List Int), vs = [.ref a] ∧ Only H ∧ SqL K H a (ns.map V.int) ∧ ns.length ≤ 63 ∧ (∀ z ∈ ns, Builtin.Int.intBits z ≤ 1048576) ∧ ∀ H', Q (.bl true) H'
theorem sp_law {G : Cfg} (LV : LawV) (vs : List V) (H : Hp) (Q : VK) (E : XK) (h : spL G.K vs H Q E) : spC G (["_law_script"] : List Str).length lawF vs H Q E := by
  obtain ⟨a, ns, rfl, hO, hS, hl, hb, hq⟩ := h
  obtain ⟨h', e⟩ := LV ns hl hb
  refine ⟨fun _ => a, [.rol (ns.map W.int)], [.ref 0], rfl, start_rep hO hS, .cons (.ref 0 (by simp)) .nil, ?_⟩
  rw [e]
  intro m' H' v _ _ r
  cases r
  exact hq H'
theorem all_mk {l : PySem.W.OpenLaw} {w : World} {K : PySem.W.Frag} {h : Heap} {mg : Str → Option Value} {fa : Addr} {f5 f6 f7 f8 f9 f10 f11 f12 f13 f14 f15 f16 f17 f18 f19 f20 f21 f22 f23 f24 f25 f26 f27 f28 f45 f46 f48 f62 f63 f64 f65 f66 f67 f68 f69 f70 f71 f72 f73 f81 f82 f83 f84 f85 f86 : Addr} {C0 C1 C2 C4 C5 C6 C7 C8 C11 C14 C15 C16 : Addr} {t_MOST_ROWS : Tok} {t_MOST_PROPERTIES : Tok} {t_LETTERS : Tok} {t_DIGITS : Tok} {t_MOST_SIGNS : Tok} {t_MOST_COMPOUNDS : Tok} {t_JOINS : Tok} {t_MOST_DIGIT : Tok} {w_WORDS : Addr} {p15_selectors : Addr} {p15_declarations : Addr} {p16_heads : Addr} {p16_entries : Addr} {p16_written : Addr} {p15_layer : Addr} {p11_written : Addr} {p14_default : Addr} {p14_word : Addr} {p14_name : Addr} {p11_chain : Addr} {p7_compounds : Addr} {p6_parts : Addr} {p7_joins : Addr} {p6_own_kind : Addr} {pp11_text : Addr} {pr_11_text : List Value} {nm1 q1 : Str} {N1 fI1 cc1 cda1 : Addr} {bs1 bm1 sub1 : List Value} {sn1 : List Str} {ab1 : Bool} {col1 : Option Bool} {dd1 od1 an1 cld1 cdd1 : Option Addr} {m01 m11 m21 m31 m51 : Option Value} {oc1 doc1 pm1 ct1 xl1 ccl1 : Value} {osl1 csl1 ccs1 : Array (Option Value)} {qual1 msg1 prm1 file1 : Str} {params1 : Arguments} {names1 : List (Str × NameKind)} {j1 : Nat} {pa1 pb1 pc1 pd1 pe1 ph1 qa1 qb1 qc1 qd1 : Pos} {vs1 : Array Value} {tf1 : Tok} {ar1 : Arg} {nm4 q4 : Str} {N4 fI4 cc4 cda4 : Addr} {bs4 bm4 sub4 : List Value} {sn4 : List Str} {ab4 : Bool} {col4 : Option Bool} {dd4 od4 an4 cld4 cdd4 : Option Addr} {m04 m14 m24 m34 m54 : Option Value} {oc4 doc4 pm4 ct4 xl4 ccl4 : Value} {osl4 csl4 ccs4 : Array (Option Value)} {qual4 msg4 prm4 file4 : Str} {params4 : Arguments} {names4 : List (Str × NameKind)} {j4 : Nat} {pa4 pb4 pc4 pd4 pe4 ph4 qa4 qb4 qc4 qd4 : Pos} {vs4 : Array Value} {tf4 : Tok} {ar4 : Arg} {nm2 q2 : Str} {N2 fI2 cc2 cda2 : Addr} {bs2 bm2 sub2 : List Value} {sn2 : List Str} {ab2 : Bool} {col2 : Option Bool} {dd2 od2 an2 cld2 cdd2 : Option Addr} {m02 m12 m22 m32 m52 : Option Value} {oc2 doc2 pm2 ct2 xl2 ccl2 : Value} {osl2 csl2 ccs2 : Array (Option Value)} {qual2 msg2 prm2 file2 : Str} {params2 : Arguments} {names2 : List (Str × NameKind)} {j2 : Nat} {pa2 pb2 pc2 pd2 pe2 ph2 qa2 qb2 qc2 qd2 : Pos} {vs2 : Array Value} {tf2 : Tok} {ar2 : Arg} {dc5 pf5 kv5 xc5 oo5 cx5 : Value} {of5 na5 : Option Addr} {sl5 : Array (Option Value)} {dc6 pf6 kv6 xc6 oo6 cx6 : Value} {of6 na6 : Option Addr} {sl6 : Array (Option Value)} {dc7 pf7 kv7 xc7 oo7 cx7 : Value} {of7 na7 : Option Addr} {sl7 : Array (Option Value)} {dc8 pf8 kv8 xc8 oo8 cx8 : Value} {of8 na8 : Option Addr} {sl8 : Array (Option Value)} {dc9 pf9 kv9 xc9 oo9 cx9 : Value} {of9 na9 : Option Addr} {sl9 : Array (Option Value)} {dc10 pf10 kv10 xc10 oo10 cx10 : Value} {of10 na10 : Option Addr} {sl10 : Array (Option Value)} {dc11 pf11 kv11 xc11 oo11 cx11 : Value} {of11 na11 : Option Addr} {sl11 : Array (Option Value)} {dc12 pf12 kv12 xc12 oo12 cx12 : Value} {of12 na12 : Option Addr} {sl12 : Array (Option Value)} {dc13 pf13 kv13 xc13 oo13 cx13 : Value} {of13 na13 : Option Addr} {sl13 : Array (Option Value)} {dc14 pf14 kv14 xc14 oo14 cx14 : Value} {of14 na14 : Option Addr} {sl14 : Array (Option Value)} {dc15 pf15 kv15 xc15 oo15 cx15 : Value} {of15 na15 : Option Addr} {sl15 : Array (Option Value)} {dc16 pf16 kv16 xc16 oo16 cx16 : Value} {of16 na16 : Option Addr} {sl16 : Array (Option Value)} {dc17 pf17 kv17 xc17 oo17 cx17 : Value} {of17 na17 : Option Addr} {sl17 : Array (Option Value)} {dc18 pf18 kv18 xc18 oo18 cx18 : Value} {of18 na18 : Option Addr} {sl18 : Array (Option Value)} {dc19 pf19 kv19 xc19 oo19 cx19 : Value} {of19 na19 : Option Addr} {sl19 : Array (Option Value)} {dc20 pf20 kv20 xc20 oo20 cx20 : Value} {of20 na20 : Option Addr} {sl20 : Array (Option Value)} {dc21 pf21 kv21 xc21 oo21 cx21 : Value} {of21 na21 : Option Addr} {sl21 : Array (Option Value)} {dc22 pf22 kv22 xc22 oo22 cx22 : Value} {of22 na22 : Option Addr} {sl22 : Array (Option Value)} {tt22 : Addr} {ot22 : Obj} {nt22 : Nat} {dc23 pf23 kv23 xc23 oo23 cx23 : Value} {of23 na23 : Option Addr} {sl23 : Array (Option Value)} {dc24 pf24 kv24 xc24 oo24 cx24 : Value} {of24 na24 : Option Addr} {sl24 : Array (Option Value)} {dc25 pf25 kv25 xc25 oo25 cx25 : Value} {of25 na25 : Option Addr} {sl25 : Array (Option Value)} {dc26 pf26 kv26 xc26 oo26 cx26 : Value} {of26 na26 : Option Addr} {sl26 : Array (Option Value)} {dc27 pf27 kv27 xc27 oo27 cx27 : Value} {of27 na27 : Option Addr} {sl27 : Array (Option Value)} {dc28 pf28 kv28 xc28 oo28 cx28 : Value} {of28 na28 : Option Addr} {sl28 : Array (Option Value)} {dc45 pf45 kv45 xc45 oo45 cx45 : Value} {of45 na45 : Option Addr} {sl45 : Array (Option Value)} {dc46 pf46 kv46 xc46 oo46 cx46 : Value} {of46 na46 : Option Addr} {sl46 : Array (Option Value)} {dc48 pf48 kv48 xc48 oo48 cx48 : Value} {of48 na48 : Option Addr} {sl48 : Array (Option Value)} {dc62 pf62 kv62 xc62 oo62 cx62 : Value} {of62 na62 : Option Addr} {sl62 : Array (Option Value)} {dc63 pf63 kv63 xc63 oo63 cx63 : Value} {of63 na63 : Option Addr} {sl63 : Array (Option Value)} {dc64 pf64 kv64 xc64 oo64 cx64 : Value} {of64 na64 : Option Addr} {sl64 : Array (Option Value)} {dc65 pf65 kv65 xc65 oo65 cx65 : Value} {of65 na65 : Option Addr} {sl65 : Array (Option Value)} {dc66 pf66 kv66 xc66 oo66 cx66 : Value} {of66 na66 : Option Addr} {sl66 : Array (Option Value)} {dc67 pf67 kv67 xc67 oo67 cx67 : Value} {of67 na67 : Option Addr} {sl67 : Array (Option Value)} {dc68 pf68 kv68 xc68 oo68 cx68 : Value} {of68 na68 : Option Addr} {sl68 : Array (Option Value)} {dc69 pf69 kv69 xc69 oo69 cx69 : Value} {of69 na69 : Option Addr} {sl69 : Array (Option Value)} {dc70 pf70 kv70 xc70 oo70 cx70 : Value} {of70 na70 : Option Addr} {sl70 : Array (Option Value)} {dc71 pf71 kv71 xc71 oo71 cx71 : Value} {of71 na71 : Option Addr} {sl71 : Array (Option Value)} {dc72 pf72 kv72 xc72 oo72 cx72 : Value} {of72 na72 : Option Addr} {sl72 : Array (Option Value)} {dc73 pf73 kv73 xc73 oo73 cx73 : Value} {of73 na73 : Option Addr} {sl73 : Array (Option Value)} {dc81 pf81 kv81 xc81 oo81 cx81 : Value} {of81 na81 : Option Addr} {sl81 : Array (Option Value)} {dc82 pf82 kv82 xc82 oo82 cx82 : Value} {of82 na82 : Option Addr} {sl82 : Array (Option Value)} {dc83 pf83 kv83 xc83 oo83 cx83 : Value} {of83 na83 : Option Addr} {sl83 : Array (Option Value)} {dc84 pf84 kv84 xc84 oo84 cx84 : Value} {of84 na84 : Option Addr} {sl84 : Array (Option Value)} {dc85 pf85 kv85 xc85 oo85 cx85 : Value} {of85 na85 : Option Addr} {sl85 : Array (Option Value)} {dc86 pf86 kv86 xc86 oo86 cx86 : Value} {of86 na86 : Option Addr} {sl86 : Array (Option Value)} (LV : LawV) (X : K.In h) (Gn : h.Ns mainGlobals mg) (hfa : mg "law" = some (.ref fa))
    (h0 : PySem.W.nsIn K mainGlobals "law" = some (some (.ref f86)))
    (h1 : PySem.W.nsIn K mainGlobals "StyleError" = some (some (.ref C0)))
    (h2 : PySem.W.nsIn K mainGlobals "ParseError" = some (some (.ref C1)))
    (h3 : PySem.W.nsIn K mainGlobals "InvalidText" = some (some (.ref C2)))
    (h4 : PySem.W.nsIn K mainGlobals "LimitExceeded" = some (some (.ref C4)))
    (h5 : PySem.W.nsIn K mainGlobals "TextReader" = some (some (.ref C5)))
    (h6 : PySem.W.nsIn K mainGlobals "Compound" = some (some (.ref C6)))
    (h7 : PySem.W.nsIn K mainGlobals "Chain" = some (some (.ref C7)))
    (h8 : PySem.W.nsIn K mainGlobals "SelectorReader" = some (some (.ref C8)))
    (h9 : PySem.W.nsIn K mainGlobals "Selector" = some (some (.ref C11)))
    (h10 : PySem.W.nsIn K mainGlobals "Property" = some (some (.ref C14)))
    (h11 : PySem.W.nsIn K mainGlobals "Rule" = some (some (.ref C15)))
    (h12 : PySem.W.nsIn K mainGlobals "Sheet" = some (some (.ref C16)))
    (h13 : PySem.W.nsIn K mainGlobals "range" = some none)
    (h14 : PySem.W.nsIn K mainGlobals "len" = some none)
    (h15 : PySem.W.nsIn K mainGlobals "min" = some none)
    (h16 : PySem.W.nsIn K mainGlobals "max" = some none)
    (h17 : PySem.W.nsIn K mainGlobals "tuple" = some none)
    (h18 : PySem.W.nsIn K mainGlobals "int" = some none)
    (h19 : PySem.W.nsIn K mainGlobals "isinstance" = some none)
    (h20 : PySem.W.nsIn K mainGlobals "OverflowError" = some none)
    (h21 : PySem.W.nsIn K mainGlobals "str" = some none)
    (h22 : PySem.W.nsIn K mainGlobals "enumerate" = some none)
    (h23 : PySem.W.nsIn K mainGlobals "sum" = some none)
    (h24 : PySem.W.nsIn K mainGlobals "all" = some none)
    (h25 : PySem.W.nsIn K mainGlobals "set" = some none)
    (h26 : PySem.W.nsIn K mainGlobals "MOST_ROWS" = some (some (.int 24 t_MOST_ROWS)))
    (h27 : PySem.W.nsIn K mainGlobals "MOST_PROPERTIES" = some (some (.int 12 t_MOST_PROPERTIES)))
    (h28 : PySem.W.nsIn K mainGlobals "LETTERS" = some (some (.str "abcdefghijklmnopqrstuvwxyz" t_LETTERS)))
    (h29 : PySem.W.nsIn K mainGlobals "DIGITS" = some (some (.str "0123456789" t_DIGITS)))
    (h30 : PySem.W.nsIn K mainGlobals "MOST_SIGNS" = some (some (.int 8 t_MOST_SIGNS)))
    (h31 : PySem.W.nsIn K mainGlobals "MOST_COMPOUNDS" = some (some (.int 12 t_MOST_COMPOUNDS)))
    (h32 : PySem.W.nsIn K mainGlobals "JOINS" = some (some (.str ">+~" t_JOINS)))
    (h33 : PySem.W.nsIn K mainGlobals "MOST_DIGIT" = some (some (.int 4 t_MOST_DIGIT)))
    (h34 : PySem.W.nsIn K mainGlobals "WORDS" = some (some (.ref w_WORDS)))
    (h35 : tupK K w_WORDS ["var", "hand", "own"] = true)
    (h36 : PySem.W.nsIn K mainGlobals "_law_bad_rules" = some (some (.ref f85)))
    (h37 : PySem.W.keepIn K (.ref f85) = true)
    (h38 : PySem.W.nsIn K mainGlobals "_law_bad_heads" = some (some (.ref f84)))
    (h39 : PySem.W.keepIn K (.ref f84) = true)
    (h40 : PySem.W.nsIn K mainGlobals "_law_said" = some (some (.ref f83)))
    (h41 : PySem.W.keepIn K (.ref f83) = true)
    (h42 : PySem.W.nsIn K mainGlobals "_law_pool" = some (some (.ref f81)))
    (h43 : PySem.W.keepIn K (.ref f81) = true)
    (h44 : PySem.W.nsIn K mainGlobals "_law_take" = some (some (.ref f82)))
    (h45 : PySem.W.keepIn K (.ref f82) = true)
    (h46 : PySem.W.nsIn K mainGlobals "parse_sheet" = some (some (.ref f70)))
    (h47 : PySem.W.keepIn K (.ref f70) = true)
    (h48 : PySem.W.nsIn K mainGlobals "read_rule" = some (some (.ref f69)))
    (h49 : PySem.W.keepIn K (.ref f69) = true)
    (h50 : PySem.W.nsIn K mainGlobals "read_property" = some (some (.ref f64)))
    (h51 : PySem.W.keepIn K (.ref f64) = true)
    (h52 : PySem.W.nsIn K mainGlobals "head_text" = some (some (.ref f72)))
    (h53 : PySem.W.keepIn K (.ref f72) = true)
    (h54 : PySem.W.nsIn K mainGlobals "rule_text" = some (some (.ref f71)))
    (h55 : PySem.W.keepIn K (.ref f71) = true)
    (h56 : PySem.W.nsIn K mainGlobals "is_name" = some (some (.ref f6)))
    (h57 : PySem.W.keepIn K (.ref f6) = true)
    (h58 : PySem.W.nsIn K mainGlobals "is_word" = some (some (.ref f7)))
    (h59 : PySem.W.keepIn K (.ref f7) = true)
    (h60 : PySem.W.nsIn K mainGlobals "is_made_of" = some (some (.ref f5)))
    (h61 : PySem.W.keepIn K (.ref f5) = true)
    (h62 : PySem.W.nsIn K mainGlobals "layer_of" = some (some (.ref f68)))
    (h63 : PySem.W.keepIn K (.ref f68) = true)
    (h64 : PySem.W.nsIn K mainGlobals "read_selectors" = some (some (.ref f67)))
    (h65 : PySem.W.keepIn K (.ref f67) = true)
    (h66 : PySem.W.nsIn K mainGlobals "read_declaration" = some (some (.ref f66)))
    (h67 : PySem.W.keepIn K (.ref f66) = true)
    (h68 : PySem.W.nsIn K mainGlobals "read_value" = some (some (.ref f65)))
    (h69 : PySem.W.keepIn K (.ref f65) = true)
    (h70 : PySem.W.nsIn K mainGlobals "chain_text" = some (some (.ref f28)))
    (h71 : PySem.W.keepIn K (.ref f28) = true)
    (h72 : PySem.W.nsIn K mainGlobals "part_text" = some (some (.ref f27)))
    (h73 : PySem.W.keepIn K (.ref f27) = true)
    (h74 : PySem.W.plainGet K C5 Str.empty = true)
    (h75 : PySem.W.hasDictIn K C5 = true)
    (h76 : PySem.W.plainOver K C5 = true)
    (h77 : PySem.W.findIn K (.ref C5) "__setattr__" = some (some (.builtin "object.__setattr__")))
    (h78 : PySem.W.plainGet K C8 Str.empty = true)
    (h79 : PySem.W.hasDictIn K C8 = true)
    (h80 : PySem.W.plainOver K C8 = true)
    (h81 : PySem.W.findIn K (.ref C8) "__setattr__" = some (some (.builtin "object.__setattr__")))
    (h82 : PySem.W.findIn K (.ref C5) "spot" = some none)
    (h83 : PySem.W.findIn K (.ref C8) "spot" = some none)
    (h84 : PySem.W.findIn K (.ref C5) "source" = some none)
    (h85 : PySem.W.findIn K (.ref C8) "source" = some none)
    (h86 : PySem.W.plainGet K C15 Str.empty = true)
    (h87 : PySem.W.isClsIn K C15 = true)
    (h88 : PySem.W.plainOver K C15 = true)
    (h89 : PySem.W.findIn K (.ref C15) "__setattr__" = some (some (.builtin "object.__setattr__")))
    (h90 : PySem.W.plainGet K C16 Str.empty = true)
    (h91 : PySem.W.isClsIn K C16 = true)
    (h92 : PySem.W.plainOver K C16 = true)
    (h93 : PySem.W.findIn K (.ref C16) "__setattr__" = some (some (.builtin "object.__setattr__")))
    (h94 : PySem.W.plainGet K C11 Str.empty = true)
    (h95 : PySem.W.isClsIn K C11 = true)
    (h96 : PySem.W.plainOver K C11 = true)
    (h97 : PySem.W.findIn K (.ref C11) "__setattr__" = some (some (.builtin "object.__setattr__")))
    (h98 : PySem.W.plainGet K C14 Str.empty = true)
    (h99 : PySem.W.isClsIn K C14 = true)
    (h100 : PySem.W.plainOver K C14 = true)
    (h101 : PySem.W.findIn K (.ref C14) "__setattr__" = some (some (.builtin "object.__setattr__")))
    (h102 : PySem.W.plainGet K C7 Str.empty = true)
    (h103 : PySem.W.isClsIn K C7 = true)
    (h104 : PySem.W.plainOver K C7 = true)
    (h105 : PySem.W.findIn K (.ref C7) "__setattr__" = some (some (.builtin "object.__setattr__")))
    (h106 : PySem.W.plainGet K C6 Str.empty = true)
    (h107 : PySem.W.isClsIn K C6 = true)
    (h108 : PySem.W.plainOver K C6 = true)
    (h109 : PySem.W.findIn K (.ref C6) "__setattr__" = some (some (.builtin "object.__setattr__")))
    (h110 : PySem.W.findIn K (.ref C15) "selectors" = some (some (.ref p15_selectors)))
    (h111 : PySem.W.specialIn K (.ref p15_selectors) "__get__" = some (some (.builtin "member_descriptor.__get__")))
    (h112 : PySem.W.takesIn K (.ref p15_selectors) = some true)
    (h113 : PySem.W.typeIn K (.ref p15_selectors) = some (.type "member_descriptor"))
    (h114 : PySem.W.slotIn K p15_selectors C15 = some 2)
    (h115 : PySem.W.findIn K (.ref C15) "declarations" = some (some (.ref p15_declarations)))
    (h116 : PySem.W.specialIn K (.ref p15_declarations) "__get__" = some (some (.builtin "member_descriptor.__get__")))
    (h117 : PySem.W.takesIn K (.ref p15_declarations) = some true)
    (h118 : PySem.W.typeIn K (.ref p15_declarations) = some (.type "member_descriptor"))
    (h119 : PySem.W.slotIn K p15_declarations C15 = some 0)
    (h120 : PySem.W.findIn K (.ref C16) "heads" = some (some (.ref p16_heads)))
    (h121 : PySem.W.specialIn K (.ref p16_heads) "__get__" = some (some (.builtin "member_descriptor.__get__")))
    (h122 : PySem.W.takesIn K (.ref p16_heads) = some true)
    (h123 : PySem.W.typeIn K (.ref p16_heads) = some (.type "member_descriptor"))
    (h124 : PySem.W.slotIn K p16_heads C16 = some 1)
    (h125 : PySem.W.findIn K (.ref C16) "entries" = some (some (.ref p16_entries)))
    (h126 : PySem.W.specialIn K (.ref p16_entries) "__get__" = some (some (.builtin "member_descriptor.__get__")))
    (h127 : PySem.W.takesIn K (.ref p16_entries) = some true)
    (h128 : PySem.W.typeIn K (.ref p16_entries) = some (.type "member_descriptor"))
    (h129 : PySem.W.slotIn K p16_entries C16 = some 0)
    (h130 : PySem.W.findIn K (.ref C16) "written" = some (some (.ref p16_written)))
    (h131 : PySem.W.specialIn K (.ref p16_written) "__get__" = some (some (.builtin "member_descriptor.__get__")))
    (h132 : PySem.W.takesIn K (.ref p16_written) = some true)
    (h133 : PySem.W.typeIn K (.ref p16_written) = some (.type "member_descriptor"))
    (h134 : PySem.W.slotIn K p16_written C16 = some 2)
    (h135 : PySem.W.findIn K (.ref C15) "layer" = some (some (.ref p15_layer)))
    (h136 : PySem.W.specialIn K (.ref p15_layer) "__get__" = some (some (.builtin "member_descriptor.__get__")))
    (h137 : PySem.W.takesIn K (.ref p15_layer) = some true)
    (h138 : PySem.W.typeIn K (.ref p15_layer) = some (.type "member_descriptor"))
    (h139 : PySem.W.slotIn K p15_layer C15 = some 1)
    (h140 : PySem.W.findIn K (.ref C11) "written" = some (some (.ref p11_written)))
    (h141 : PySem.W.specialIn K (.ref p11_written) "__get__" = some (some (.builtin "member_descriptor.__get__")))
    (h142 : PySem.W.takesIn K (.ref p11_written) = some true)
    (h143 : PySem.W.typeIn K (.ref p11_written) = some (.type "member_descriptor"))
    (h144 : PySem.W.slotIn K p11_written C11 = some 1)
    (h145 : PySem.W.findIn K (.ref C14) "default" = some (some (.ref p14_default)))
    (h146 : PySem.W.specialIn K (.ref p14_default) "__get__" = some (some (.builtin "member_descriptor.__get__")))
    (h147 : PySem.W.takesIn K (.ref p14_default) = some true)
    (h148 : PySem.W.typeIn K (.ref p14_default) = some (.type "member_descriptor"))
    (h149 : PySem.W.slotIn K p14_default C14 = some 0)
    (h150 : PySem.W.findIn K (.ref C14) "word" = some (some (.ref p14_word)))
    (h151 : PySem.W.specialIn K (.ref p14_word) "__get__" = some (some (.builtin "member_descriptor.__get__")))
    (h152 : PySem.W.takesIn K (.ref p14_word) = some true)
    (h153 : PySem.W.typeIn K (.ref p14_word) = some (.type "member_descriptor"))
    (h154 : PySem.W.slotIn K p14_word C14 = some 2)
    (h155 : PySem.W.findIn K (.ref C14) "name" = some (some (.ref p14_name)))
    (h156 : PySem.W.specialIn K (.ref p14_name) "__get__" = some (some (.builtin "member_descriptor.__get__")))
    (h157 : PySem.W.takesIn K (.ref p14_name) = some true)
    (h158 : PySem.W.typeIn K (.ref p14_name) = some (.type "member_descriptor"))
    (h159 : PySem.W.slotIn K p14_name C14 = some 1)
    (h160 : PySem.W.findIn K (.ref C11) "chain" = some (some (.ref p11_chain)))
    (h161 : PySem.W.specialIn K (.ref p11_chain) "__get__" = some (some (.builtin "member_descriptor.__get__")))
    (h162 : PySem.W.takesIn K (.ref p11_chain) = some true)
    (h163 : PySem.W.typeIn K (.ref p11_chain) = some (.type "member_descriptor"))
    (h164 : PySem.W.slotIn K p11_chain C11 = some 0)
    (h165 : PySem.W.findIn K (.ref C7) "compounds" = some (some (.ref p7_compounds)))
    (h166 : PySem.W.specialIn K (.ref p7_compounds) "__get__" = some (some (.builtin "member_descriptor.__get__")))
    (h167 : PySem.W.takesIn K (.ref p7_compounds) = some true)
    (h168 : PySem.W.typeIn K (.ref p7_compounds) = some (.type "member_descriptor"))
    (h169 : PySem.W.slotIn K p7_compounds C7 = some 0)
    (h170 : PySem.W.findIn K (.ref C6) "parts" = some (some (.ref p6_parts)))
    (h171 : PySem.W.specialIn K (.ref p6_parts) "__get__" = some (some (.builtin "member_descriptor.__get__")))
    (h172 : PySem.W.takesIn K (.ref p6_parts) = some true)
    (h173 : PySem.W.typeIn K (.ref p6_parts) = some (.type "member_descriptor"))
    (h174 : PySem.W.slotIn K p6_parts C6 = some 1)
    (h175 : PySem.W.findIn K (.ref C7) "joins" = some (some (.ref p7_joins)))
    (h176 : PySem.W.specialIn K (.ref p7_joins) "__get__" = some (some (.builtin "member_descriptor.__get__")))
    (h177 : PySem.W.takesIn K (.ref p7_joins) = some true)
    (h178 : PySem.W.typeIn K (.ref p7_joins) = some (.type "member_descriptor"))
    (h179 : PySem.W.slotIn K p7_joins C7 = some 1)
    (h180 : PySem.W.findIn K (.ref C6) "own_kind" = some (some (.ref p6_own_kind)))
    (h181 : PySem.W.specialIn K (.ref p6_own_kind) "__get__" = some (some (.builtin "member_descriptor.__get__")))
    (h182 : PySem.W.takesIn K (.ref p6_own_kind) = some true)
    (h183 : PySem.W.typeIn K (.ref p6_own_kind) = some (.type "member_descriptor"))
    (h184 : PySem.W.slotIn K p6_own_kind C6 = some 0)
    (h185 : PySem.W.findIn K (.ref C11) "compound_total" = some (some (.ref f48)))
    (h186 : PySem.W.isFn K (.ref f48) = true)
    (h187 : PySem.W.keepIn K (.ref f48) = true)
    (h188 : PySem.W.findIn K (.ref C5) "skip_blanks" = some (some (.ref f15)))
    (h189 : PySem.W.isFn K (.ref f15) = true)
    (h190 : PySem.W.keepIn K (.ref f15) = true)
    (h191 : PySem.W.findIn K (.ref C8) "skip_blanks" = some (some (.ref f15)))
    (h192 : PySem.W.findIn K (.ref C8) "read_chain" = some (some (.ref f19)))
    (h193 : PySem.W.isFn K (.ref f19) = true)
    (h194 : PySem.W.keepIn K (.ref f19) = true)
    (h195 : PySem.W.findIn K (.ref C5) "is_sign" = some (some (.ref f11)))
    (h196 : PySem.W.isFn K (.ref f11) = true)
    (h197 : PySem.W.keepIn K (.ref f11) = true)
    (h198 : PySem.W.findIn K (.ref C8) "is_sign" = some (some (.ref f11)))
    (h199 : PySem.W.findIn K (.ref C5) "need_end" = some (some (.ref f16)))
    (h200 : PySem.W.isFn K (.ref f16) = true)
    (h201 : PySem.W.keepIn K (.ref f16) = true)
    (h202 : PySem.W.findIn K (.ref C8) "need_end" = some (some (.ref f16)))
    (h203 : PySem.W.findIn K (.ref C5) "fail" = some (some (.ref f9)))
    (h204 : PySem.W.isFn K (.ref f9) = true)
    (h205 : PySem.W.keepIn K (.ref f9) = true)
    (h206 : PySem.W.findIn K (.ref C8) "fail" = some (some (.ref f9)))
    (h207 : PySem.W.findIn K (.ref C5) "peek" = some (some (.ref f10)))
    (h208 : PySem.W.isFn K (.ref f10) = true)
    (h209 : PySem.W.keepIn K (.ref f10) = true)
    (h210 : PySem.W.findIn K (.ref C8) "peek" = some (some (.ref f10)))
    (h211 : PySem.W.findIn K (.ref C8) "read_compound" = some (some (.ref f21)))
    (h212 : PySem.W.isFn K (.ref f21) = true)
    (h213 : PySem.W.keepIn K (.ref f21) = true)
    (h214 : PySem.W.findIn K (.ref C8) "read_join" = some (some (.ref f20)))
    (h215 : PySem.W.isFn K (.ref f20) = true)
    (h216 : PySem.W.keepIn K (.ref f20) = true)
    (h217 : PySem.W.findIn K (.ref C5) "is_start" = some (some (.ref f13)))
    (h218 : PySem.W.isFn K (.ref f13) = true)
    (h219 : PySem.W.keepIn K (.ref f13) = true)
    (h220 : PySem.W.findIn K (.ref C8) "is_start" = some (some (.ref f13)))
    (h221 : PySem.W.findIn K (.ref C5) "read_name" = some (some (.ref f14)))
    (h222 : PySem.W.isFn K (.ref f14) = true)
    (h223 : PySem.W.keepIn K (.ref f14) = true)
    (h224 : PySem.W.findIn K (.ref C8) "read_name" = some (some (.ref f14)))
    (h225 : PySem.W.findIn K (.ref C8) "read_part" = some (some (.ref f22)))
    (h226 : PySem.W.isFn K (.ref f22) = true)
    (h227 : PySem.W.keepIn K (.ref f22) = true)
    (h228 : PySem.W.findIn K (.ref C5) "need" = some (some (.ref f12)))
    (h229 : PySem.W.isFn K (.ref f12) = true)
    (h230 : PySem.W.keepIn K (.ref f12) = true)
    (h231 : PySem.W.findIn K (.ref C8) "need" = some (some (.ref f12)))
    (h232 : PySem.W.findIn K (.ref C8) "nth" = some (some (.ref f23)))
    (h233 : PySem.W.isFn K (.ref f23) = true)
    (h234 : PySem.W.keepIn K (.ref f23) = true)
    (h235 : PySem.W.findIn K (.ref C8) "negation" = some (some (.ref f25)))
    (h236 : PySem.W.isFn K (.ref f25) = true)
    (h237 : PySem.W.keepIn K (.ref f25) = true)
    (h238 : PySem.W.findIn K (.ref C8) "relation" = some (some (.ref f26)))
    (h239 : PySem.W.isFn K (.ref f26) = true)
    (h240 : PySem.W.keepIn K (.ref f26) = true)
    (h241 : PySem.W.findIn K (.ref C8) "digit" = some (some (.ref f24)))
    (h242 : PySem.W.isFn K (.ref f24) = true)
    (h243 : PySem.W.keepIn K (.ref f24) = true)
    (h244 : PySem.W.makesIn K C16 = true)
    (h245 : PySem.W.findIn K (.ref C16) "__init__" = some (some (.ref f73)))
    (h246 : PySem.W.isFn K (.ref f73) = true)
    (h247 : PySem.W.keepIn K (.ref C16) = true)
    (h248 : PySem.W.makesIn K C14 = true)
    (h249 : PySem.W.findIn K (.ref C14) "__init__" = some (some (.ref f62)))
    (h250 : PySem.W.isFn K (.ref f62) = true)
    (h251 : PySem.W.keepIn K (.ref C14) = true)
    (h252 : PySem.W.makesIn K C15 = true)
    (h253 : PySem.W.findIn K (.ref C15) "__init__" = some (some (.ref f63)))
    (h254 : PySem.W.isFn K (.ref f63) = true)
    (h255 : PySem.W.keepIn K (.ref C15) = true)
    (h256 : PySem.W.makesIn K C8 = true)
    (h257 : PySem.W.findIn K (.ref C8) "__init__" = some (some (.ref f8)))
    (h258 : PySem.W.isFn K (.ref f8) = true)
    (h259 : PySem.W.keepIn K (.ref C8) = true)
    (h260 : PySem.W.makesIn K C11 = true)
    (h261 : PySem.W.findIn K (.ref C11) "__init__" = some (some (.ref f45)))
    (h262 : PySem.W.isFn K (.ref f45) = true)
    (h263 : PySem.W.keepIn K (.ref C11) = true)
    (h264 : PySem.W.makesIn K C7 = true)
    (h265 : PySem.W.findIn K (.ref C7) "__init__" = some (some (.ref f18)))
    (h266 : PySem.W.isFn K (.ref f18) = true)
    (h267 : PySem.W.keepIn K (.ref C7) = true)
    (h268 : PySem.W.makesIn K C6 = true)
    (h269 : PySem.W.findIn K (.ref C6) "__init__" = some (some (.ref f17)))
    (h270 : PySem.W.isFn K (.ref f17) = true)
    (h271 : PySem.W.keepIn K (.ref C6) = true)
    (h272 : PySem.W.findIn K (.ref C11) "text" = some (some (.ref pp11_text)))
    (h273 : PySem.W.specialIn K (.ref pp11_text) "__get__" = some (some (.builtin "property.__get__")))
    (h274 : PySem.W.takesIn K (.ref pp11_text) = some true)
    (h275 : PySem.W.recIn K pp11_text "property" = some (.ref f46 :: pr_11_text))
    (h276 : K.lookup C1 = some (excClassObj nm1 q1 C1 N1 bs1 bm1 true sn1 sub1 ab1 col1 dd1 m01 m11 m21 m31 m51 "ValueError.__new__"))
    (h277 : PySem.XeX.tailIs [.type "ValueError", .type "Exception", .type "BaseException", .type "object"] bm1 = true)
    (h278 : PySem.W.findIn K (.ref C1) "__init__" = some (some (.ref fI1)))
    (h279 : K.lookup fI1 = some ⟨oc1, od1, .func (PySem.W.fnX "__init__" qual1 params1 (PySem.XeX.iB msg1 "line" prm1 j1 pa1 pb1 pc1 pd1 pe1 ph1 qa1 qb1 qc1 qd1) (PySem.XeX.iSc names1) [("__class__", cc1)] .none .none doc1 pm1 an1 (.ref cda1) ct1), osl1⟩)
    (h280 : PySem.W.codeIn K (.ref cda1) qual1 = true)
    (h281 : K.lookup cc1 = some ⟨xl1, cld1, .cell (some (.ref C1)), csl1⟩)
    (h282 : K.lookup cda1 = some ⟨ccl1, cdd1, .fields vs1, ccs1⟩)
    (h283 : vs1[2]? = some (.str file1 tf1))
    (h284 : ((l.prog.main.file : Str) == file1) = true)
    (h285 : (pc1.endLine == pe1.line) = true)
    (h286 : (params1.posonlyargs ++ params1.args).head? = some ar1)
    (h287 : ar1.arg = "self")
    (h288 : names1.lookup ("super" : Str) = some .globalImplicit)
    (h289 : names1.lookup ("__class__" : Str) = some .free)
    (h290 : names1.lookup ("self" : Str) = some .local)
    (h291 : names1.lookup prm1 = some .local)
    (h292 : ∀ y ∈ names1, y.2 ≠ .cell)
    (h293 : (prm1 == ("__debug__" : Str)) = false)
    (h294 : prm1 ≠ "self")
    (h295 : ∀ (s : Shared) (a b : Value), BindsTo s (PySem.W.fnX "__init__" qual1 params1 (PySem.XeX.iB msg1 "line" prm1 j1 pa1 pb1 pc1 pd1 pe1 ph1 qa1 qb1 qc1 qd1) (PySem.XeX.iSc names1) [("__class__", cc1)] .none .none doc1 pm1 an1 (.ref cda1) ct1) ⟨[a, b], []⟩ [("self", a), (prm1, b)])
    (h296 : PySem.W.nsIn K mainGlobals "super" = some none)
    (h297 : PySem.W.findIn K (.ref C1) "__setattr__" = some (some (.builtin "object.__setattr__")))
    (h298 : PySem.W.findIn K (.ref C1) "line" = some none)
    (h299 : PySem.W.typeIn K (.ref fI1) = some (.type "function"))
    (h300 : PySem.W.keepIn K (.ref C1) = true)
    (h301 : PySem.W.subIn K (.ref C1) (.type "BaseException") = some true)
    (h302 : PySem.W.typeIn K (.ref C1) = some (.type "type"))
    (h303 : PySem.W.subIn K (.ref C1) (.type "ValueError") = some true)
    (h304 : PySem.W.mroIn K C1 (.ref C1) = some true)
    (h305 : PySem.W.ks_superIn K C1 C1 "__init__" = some (some (.builtin "ValueError.__init__")))
    (h306 : PySem.W.nsIn K cStatics "thirdparty.any" = some none)
    (h307 : (l.prog.main.scope.names.lookup ("super" : Str)).isSome = false)
    (h308 : K.lookup C4 = some (excClassObj nm4 q4 C4 N4 bs4 bm4 true sn4 sub4 ab4 col4 dd4 m04 m14 m24 m34 m54 "OverflowError.__new__"))
    (h309 : PySem.XeX.tailIs [.type "OverflowError", .type "ArithmeticError", .type "Exception", .type "BaseException", .type "object"] bm4 = true)
    (h310 : PySem.W.findIn K (.ref C4) "__init__" = some (some (.ref fI4)))
    (h311 : K.lookup fI4 = some ⟨oc4, od4, .func (PySem.W.fnX "__init__" qual4 params4 (PySem.XeX.iB msg4 "limit" prm4 j4 pa4 pb4 pc4 pd4 pe4 ph4 qa4 qb4 qc4 qd4) (PySem.XeX.iSc names4) [("__class__", cc4)] .none .none doc4 pm4 an4 (.ref cda4) ct4), osl4⟩)
    (h312 : PySem.W.codeIn K (.ref cda4) qual4 = true)
    (h313 : K.lookup cc4 = some ⟨xl4, cld4, .cell (some (.ref C4)), csl4⟩)
    (h314 : K.lookup cda4 = some ⟨ccl4, cdd4, .fields vs4, ccs4⟩)
    (h315 : vs4[2]? = some (.str file4 tf4))
    (h316 : ((l.prog.main.file : Str) == file4) = true)
    (h317 : (pc4.endLine == pe4.line) = true)
    (h318 : (params4.posonlyargs ++ params4.args).head? = some ar4)
    (h319 : ar4.arg = "self")
    (h320 : names4.lookup ("super" : Str) = some .globalImplicit)
    (h321 : names4.lookup ("__class__" : Str) = some .free)
    (h322 : names4.lookup ("self" : Str) = some .local)
    (h323 : names4.lookup prm4 = some .local)
    (h324 : ∀ y ∈ names4, y.2 ≠ .cell)
    (h325 : (prm4 == ("__debug__" : Str)) = false)
    (h326 : prm4 ≠ "self")
    (h327 : ∀ (s : Shared) (a b : Value), BindsTo s (PySem.W.fnX "__init__" qual4 params4 (PySem.XeX.iB msg4 "limit" prm4 j4 pa4 pb4 pc4 pd4 pe4 ph4 qa4 qb4 qc4 qd4) (PySem.XeX.iSc names4) [("__class__", cc4)] .none .none doc4 pm4 an4 (.ref cda4) ct4) ⟨[a, b], []⟩ [("self", a), (prm4, b)])
    (h328 : PySem.W.findIn K (.ref C4) "__setattr__" = some (some (.builtin "object.__setattr__")))
    (h329 : PySem.W.findIn K (.ref C4) "limit" = some none)
    (h330 : PySem.W.typeIn K (.ref fI4) = some (.type "function"))
    (h331 : PySem.W.keepIn K (.ref C4) = true)
    (h332 : PySem.W.subIn K (.ref C4) (.type "BaseException") = some true)
    (h333 : PySem.W.typeIn K (.ref C4) = some (.type "type"))
    (h334 : PySem.W.subIn K (.ref C4) (.type "OverflowError") = some true)
    (h335 : PySem.W.mroIn K C4 (.ref C4) = some true)
    (h336 : PySem.W.ks_superIn K C4 C4 "__init__" = some (some (.builtin "OverflowError.__init__")))
    (h337 : K.lookup C2 = some (excClassObj nm2 q2 C2 N2 bs2 bm2 true sn2 sub2 ab2 col2 dd2 m02 m12 m22 m32 m52 "ValueError.__new__"))
    (h338 : PySem.XeX.tailIs [.type "ValueError", .type "Exception", .type "BaseException", .type "object"] bm2 = true)
    (h339 : PySem.W.findIn K (.ref C2) "__init__" = some (some (.ref fI2)))
    (h340 : K.lookup fI2 = some ⟨oc2, od2, .func (PySem.W.fnX "__init__" qual2 params2 (PySem.XeX.iB msg2 "value" prm2 j2 pa2 pb2 pc2 pd2 pe2 ph2 qa2 qb2 qc2 qd2) (PySem.XeX.iSc names2) [("__class__", cc2)] .none .none doc2 pm2 an2 (.ref cda2) ct2), osl2⟩)
    (h341 : PySem.W.codeIn K (.ref cda2) qual2 = true)
    (h342 : K.lookup cc2 = some ⟨xl2, cld2, .cell (some (.ref C2)), csl2⟩)
    (h343 : K.lookup cda2 = some ⟨ccl2, cdd2, .fields vs2, ccs2⟩)
    (h344 : vs2[2]? = some (.str file2 tf2))
    (h345 : ((l.prog.main.file : Str) == file2) = true)
    (h346 : (pc2.endLine == pe2.line) = true)
    (h347 : (params2.posonlyargs ++ params2.args).head? = some ar2)
    (h348 : ar2.arg = "self")
    (h349 : names2.lookup ("super" : Str) = some .globalImplicit)
    (h350 : names2.lookup ("__class__" : Str) = some .free)
    (h351 : names2.lookup ("self" : Str) = some .local)
    (h352 : names2.lookup prm2 = some .local)
    (h353 : ∀ y ∈ names2, y.2 ≠ .cell)
    (h354 : (prm2 == ("__debug__" : Str)) = false)
    (h355 : prm2 ≠ "self")
    (h356 : ∀ (s : Shared) (a b : Value), BindsTo s (PySem.W.fnX "__init__" qual2 params2 (PySem.XeX.iB msg2 "value" prm2 j2 pa2 pb2 pc2 pd2 pe2 ph2 qa2 qb2 qc2 qd2) (PySem.XeX.iSc names2) [("__class__", cc2)] .none .none doc2 pm2 an2 (.ref cda2) ct2) ⟨[a, b], []⟩ [("self", a), (prm2, b)])
    (h357 : PySem.W.findIn K (.ref C2) "__setattr__" = some (some (.builtin "object.__setattr__")))
    (h358 : PySem.W.findIn K (.ref C2) "value" = some none)
    (h359 : PySem.W.typeIn K (.ref fI2) = some (.type "function"))
    (h360 : PySem.W.keepIn K (.ref C2) = true)
    (h361 : PySem.W.subIn K (.ref C2) (.type "BaseException") = some true)
    (h362 : PySem.W.typeIn K (.ref C2) = some (.type "type"))
    (h363 : PySem.W.subIn K (.ref C2) (.type "ValueError") = some true)
    (h364 : PySem.W.mroIn K C2 (.ref C2) = some true)
    (h365 : PySem.W.ks_superIn K C2 C2 "__init__" = some (some (.builtin "ValueError.__init__")))
    (h366 : PySem.W.findIn K (.ref C1) "__getattribute__" = some (some (.builtin "BaseException.__getattribute__")))
    (h367 : PySem.W.findIn K (.ref C1) "__getattr__" = some none)
    (h368 : PySem.W.hasDictIn K C1 = true)
    (h369 : PySem.W.findIn K (.ref C4) "__getattribute__" = some (some (.builtin "BaseException.__getattribute__")))
    (h370 : PySem.W.findIn K (.ref C4) "__getattr__" = some none)
    (h371 : PySem.W.hasDictIn K C4 = true)
    (h372 : PySem.W.findIn K (.ref C1) "__class__" = some (some (.builtin "object.__class__")))
    (h373 : PySem.W.specialIn K (.builtin "object.__class__") "__get__" = some (some (.builtin "getset_descriptor.__get__")))
    (h374 : PySem.W.takesIn K (.builtin "object.__class__") = some true)
    (h375 : PySem.W.mroIn K C1 (.type "object") = some true)
    (h376 : PySem.W.kitOne K (.ref C1) (.ref C0) = some true)
    (h377 : PySem.W.findIn K (.ref C4) "__class__" = some (some (.builtin "object.__class__")))
    (h378 : PySem.W.mroIn K C4 (.type "object") = some true)
    (h379 : PySem.W.kitOne K (.ref C4) (.type "OverflowError") = some true)
    (h380 : PySem.W.exmOne K (.ref C1) (.ref C1) = some true)
    (h381 : PySem.W.exmOne K (.ref C2) (.ref C1) = some false)
    (h382 : PySem.W.exmOne K (.ref C4) (.ref C1) = some false)
    (h383 : PySem.W.exmOne K (.ref C1) (.ref C4) = some false)
    (h384 : PySem.W.exmOne K (.ref C2) (.ref C4) = some false)
    (h385 : PySem.W.exmOne K (.ref C4) (.ref C4) = some true)
    (h386 : PySem.W.exmOne K (.ref C1) (.ref C2) = some false)
    (h387 : PySem.W.exmOne K (.ref C2) (.ref C2) = some true)
    (h388 : PySem.W.exmOne K (.ref C4) (.ref C2) = some false)
    (h389 : K.lookup f5 = some ⟨oo5, of5, .func (PySem.W.fnOf "is_made_of" "is_made_of" (defArgs (top 11)) (defBody (top 11)) (defScope (top 11)) .none kv5 dc5 pf5 na5 xc5 cx5), sl5⟩)
    (h390 : PySem.W.codeIn K xc5 "is_made_of" = true)
    (h391 : K.lookup f6 = some ⟨oo6, of6, .func (PySem.W.fnOf "is_name" "is_name" (defArgs (top 12)) (defBody (top 12)) (defScope (top 12)) .none kv6 dc6 pf6 na6 xc6 cx6), sl6⟩)
    (h392 : PySem.W.codeIn K xc6 "is_name" = true)
    (h393 : K.lookup f7 = some ⟨oo7, of7, .func (PySem.W.fnOf "is_word" "is_word" (defArgs (top 13)) (defBody (top 13)) (defScope (top 13)) .none kv7 dc7 pf7 na7 xc7 cx7), sl7⟩)
    (h394 : PySem.W.codeIn K xc7 "is_word" = true)
    (h395 : K.lookup f8 = some ⟨oo8, of8, .func (PySem.W.fnOf "__init__" "TextReader.__init__" (defArgs (inClass (top 14) 0)) (defBody (inClass (top 14) 0)) (defScope (inClass (top 14) 0)) .none kv8 dc8 pf8 na8 xc8 cx8), sl8⟩)
    (h396 : PySem.W.codeIn K xc8 "TextReader.__init__" = true)
    (h397 : K.lookup f9 = some ⟨oo9, of9, .func (PySem.W.fnOf "fail" "TextReader.fail" (defArgs (inClass (top 14) 1)) (defBody (inClass (top 14) 1)) (defScope (inClass (top 14) 1)) .none kv9 dc9 pf9 na9 xc9 cx9), sl9⟩)
    (h398 : PySem.W.codeIn K xc9 "TextReader.fail" = true)
    (h399 : K.lookup f10 = some ⟨oo10, of10, .func (PySem.W.fnOf "peek" "TextReader.peek" (defArgs (inClass (top 14) 2)) (defBody (inClass (top 14) 2)) (defScope (inClass (top 14) 2)) .none kv10 dc10 pf10 na10 xc10 cx10), sl10⟩)
    (h400 : PySem.W.codeIn K xc10 "TextReader.peek" = true)
    (h401 : K.lookup f11 = some ⟨oo11, of11, .func (PySem.W.fnOf "is_sign" "TextReader.is_sign" (defArgs (inClass (top 14) 3)) (defBody (inClass (top 14) 3)) (defScope (inClass (top 14) 3)) .none kv11 dc11 pf11 na11 xc11 cx11), sl11⟩)
    (h402 : PySem.W.codeIn K xc11 "TextReader.is_sign" = true)
    (h403 : K.lookup f12 = some ⟨oo12, of12, .func (PySem.W.fnOf "need" "TextReader.need" (defArgs (inClass (top 14) 4)) (defBody (inClass (top 14) 4)) (defScope (inClass (top 14) 4)) .none kv12 dc12 pf12 na12 xc12 cx12), sl12⟩)
    (h404 : PySem.W.codeIn K xc12 "TextReader.need" = true)
    (h405 : K.lookup f13 = some ⟨oo13, of13, .func (PySem.W.fnOf "is_start" "TextReader.is_start" (defArgs (inClass (top 14) 5)) (defBody (inClass (top 14) 5)) (defScope (inClass (top 14) 5)) .none kv13 dc13 pf13 na13 xc13 cx13), sl13⟩)
    (h406 : PySem.W.codeIn K xc13 "TextReader.is_start" = true)
    (h407 : K.lookup f14 = some ⟨oo14, of14, .func (PySem.W.fnOf "read_name" "TextReader.read_name" (defArgs (inClass (top 14) 6)) (defBody (inClass (top 14) 6)) (defScope (inClass (top 14) 6)) .none kv14 dc14 pf14 na14 xc14 cx14), sl14⟩)
    (h408 : PySem.W.codeIn K xc14 "TextReader.read_name" = true)
    (h409 : K.lookup f15 = some ⟨oo15, of15, .func (PySem.W.fnOf "skip_blanks" "TextReader.skip_blanks" (defArgs (inClass (top 14) 7)) (defBody (inClass (top 14) 7)) (defScope (inClass (top 14) 7)) .none kv15 dc15 pf15 na15 xc15 cx15), sl15⟩)
    (h410 : PySem.W.codeIn K xc15 "TextReader.skip_blanks" = true)
    (h411 : K.lookup f16 = some ⟨oo16, of16, .func (PySem.W.fnOf "need_end" "TextReader.need_end" (defArgs (inClass (top 14) 8)) (defBody (inClass (top 14) 8)) (defScope (inClass (top 14) 8)) .none kv16 dc16 pf16 na16 xc16 cx16), sl16⟩)
    (h412 : PySem.W.codeIn K xc16 "TextReader.need_end" = true)
    (h413 : K.lookup f17 = some ⟨oo17, of17, .func (PySem.W.fnOf "__init__" "Compound.__init__" (defArgs (inClass (top 18) 1)) (defBody (inClass (top 18) 1)) (defScope (inClass (top 18) 1)) .none kv17 dc17 pf17 na17 xc17 cx17), sl17⟩)
    (h414 : PySem.W.codeIn K xc17 "Compound.__init__" = true)
    (h415 : K.lookup f18 = some ⟨oo18, of18, .func (PySem.W.fnOf "__init__" "Chain.__init__" (defArgs (inClass (top 19) 1)) (defBody (inClass (top 19) 1)) (defScope (inClass (top 19) 1)) .none kv18 dc18 pf18 na18 xc18 cx18), sl18⟩)
    (h416 : PySem.W.codeIn K xc18 "Chain.__init__" = true)
    (h417 : K.lookup f19 = some ⟨oo19, of19, .func (PySem.W.fnOf "read_chain" "SelectorReader.read_chain" (defArgs (inClass (top 20) 0)) (defBody (inClass (top 20) 0)) (defScope (inClass (top 20) 0)) .none kv19 dc19 pf19 na19 xc19 cx19), sl19⟩)
    (h418 : PySem.W.codeIn K xc19 "SelectorReader.read_chain" = true)
    (h419 : K.lookup f20 = some ⟨oo20, of20, .func (PySem.W.fnOf "read_join" "SelectorReader.read_join" (defArgs (inClass (top 20) 1)) (defBody (inClass (top 20) 1)) (defScope (inClass (top 20) 1)) .none kv20 dc20 pf20 na20 xc20 cx20), sl20⟩)
    (h420 : PySem.W.codeIn K xc20 "SelectorReader.read_join" = true)
    (h421 : K.lookup f21 = some ⟨oo21, of21, .func (PySem.W.fnOf "read_compound" "SelectorReader.read_compound" (defArgs (inClass (top 20) 2)) (defBody (inClass (top 20) 2)) (defScope (inClass (top 20) 2)) .none kv21 dc21 pf21 na21 xc21 cx21), sl21⟩)
    (h422 : PySem.W.codeIn K xc21 "SelectorReader.read_compound" = true)
    (h423 : K.lookup f22 = some ⟨oo22, of22, .func (PySem.W.fnOf "read_part" "SelectorReader.read_part" (defArgs (inClass (top 20) 3)) (defBody (inClass (top 20) 3)) (defScope (inClass (top 20) 3)) (.ref tt22) kv22 dc22 pf22 na22 xc22 cx22), sl22⟩)
    (h424 : PySem.W.codeIn K xc22 "SelectorReader.read_part" = true)
    (h425 : K.lookup tt22 = some ot22)
    (h426 : ot22.data = .seq ([.bool true] : List Value).toArray nt22)
    (h427 : K.lookup f23 = some ⟨oo23, of23, .func (PySem.W.fnOf "nth" "SelectorReader.nth" (defArgs (inClass (top 20) 4)) (defBody (inClass (top 20) 4)) (defScope (inClass (top 20) 4)) .none kv23 dc23 pf23 na23 xc23 cx23), sl23⟩)
    (h428 : PySem.W.codeIn K xc23 "SelectorReader.nth" = true)
    (h429 : K.lookup f24 = some ⟨oo24, of24, .func (PySem.W.fnOf "digit" "SelectorReader.digit" (defArgs (inClass (top 20) 5)) (defBody (inClass (top 20) 5)) (defScope (inClass (top 20) 5)) .none kv24 dc24 pf24 na24 xc24 cx24), sl24⟩)
    (h430 : PySem.W.codeIn K xc24 "SelectorReader.digit" = true)
    (h431 : K.lookup f25 = some ⟨oo25, of25, .func (PySem.W.fnOf "negation" "SelectorReader.negation" (defArgs (inClass (top 20) 6)) (defBody (inClass (top 20) 6)) (defScope (inClass (top 20) 6)) .none kv25 dc25 pf25 na25 xc25 cx25), sl25⟩)
    (h432 : PySem.W.codeIn K xc25 "SelectorReader.negation" = true)
    (h433 : K.lookup f26 = some ⟨oo26, of26, .func (PySem.W.fnOf "relation" "SelectorReader.relation" (defArgs (inClass (top 20) 7)) (defBody (inClass (top 20) 7)) (defScope (inClass (top 20) 7)) .none kv26 dc26 pf26 na26 xc26 cx26), sl26⟩)
    (h434 : PySem.W.codeIn K xc26 "SelectorReader.relation" = true)
    (h435 : K.lookup f27 = some ⟨oo27, of27, .func (PySem.W.fnOf "part_text" "part_text" (defArgs (top 21)) (defBody (top 21)) (defScope (top 21)) .none kv27 dc27 pf27 na27 xc27 cx27), sl27⟩)
    (h436 : PySem.W.codeIn K xc27 "part_text" = true)
    (h437 : K.lookup f28 = some ⟨oo28, of28, .func (PySem.W.fnOf "chain_text" "chain_text" (defArgs (top 22)) (defBody (top 22)) (defScope (top 22)) .none kv28 dc28 pf28 na28 xc28 cx28), sl28⟩)
    (h438 : PySem.W.codeIn K xc28 "chain_text" = true)
    (h439 : K.lookup f45 = some ⟨oo45, of45, .func (PySem.W.fnOf "__init__" "Selector.__init__" (defArgs (inClass (top 29) 1)) (defBody (inClass (top 29) 1)) (defScope (inClass (top 29) 1)) .none kv45 dc45 pf45 na45 xc45 cx45), sl45⟩)
    (h440 : PySem.W.codeIn K xc45 "Selector.__init__" = true)
    (h441 : K.lookup f46 = some ⟨oo46, of46, .func (PySem.W.fnOf "text" "Selector.text" (defArgs (inClass (top 29) 2)) (defBody (inClass (top 29) 2)) (defScope (inClass (top 29) 2)) .none kv46 dc46 pf46 na46 xc46 cx46), sl46⟩)
    (h442 : PySem.W.codeIn K xc46 "Selector.text" = true)
    (h443 : K.lookup f48 = some ⟨oo48, of48, .func (PySem.W.fnOf "compound_total" "Selector.compound_total" (defArgs (inClass (top 29) 4)) (defBody (inClass (top 29) 4)) (defScope (inClass (top 29) 4)) .none kv48 dc48 pf48 na48 xc48 cx48), sl48⟩)
    (h444 : PySem.W.codeIn K xc48 "Selector.compound_total" = true)
    (h445 : K.lookup f62 = some ⟨oo62, of62, .func (PySem.W.fnOf "__init__" "Property.__init__" (defArgs (inClass (top 36) 1)) (defBody (inClass (top 36) 1)) (defScope (inClass (top 36) 1)) .none kv62 dc62 pf62 na62 xc62 cx62), sl62⟩)
    (h446 : PySem.W.codeIn K xc62 "Property.__init__" = true)
    (h447 : K.lookup f63 = some ⟨oo63, of63, .func (PySem.W.fnOf "__init__" "Rule.__init__" (defArgs (inClass (top 37) 1)) (defBody (inClass (top 37) 1)) (defScope (inClass (top 37) 1)) .none kv63 dc63 pf63 na63 xc63 cx63), sl63⟩)
    (h448 : PySem.W.codeIn K xc63 "Rule.__init__" = true)
    (h449 : K.lookup f64 = some ⟨oo64, of64, .func (PySem.W.fnOf "read_property" "read_property" (defArgs (top 38)) (defBody (top 38)) (defScope (top 38)) .none kv64 dc64 pf64 na64 xc64 cx64), sl64⟩)
    (h450 : PySem.W.codeIn K xc64 "read_property" = true)
    (h451 : K.lookup f65 = some ⟨oo65, of65, .func (PySem.W.fnOf "read_value" "read_value" (defArgs (top 39)) (defBody (top 39)) (defScope (top 39)) .none kv65 dc65 pf65 na65 xc65 cx65), sl65⟩)
    (h452 : PySem.W.codeIn K xc65 "read_value" = true)
    (h453 : K.lookup f66 = some ⟨oo66, of66, .func (PySem.W.fnOf "read_declaration" "read_declaration" (defArgs (top 40)) (defBody (top 40)) (defScope (top 40)) .none kv66 dc66 pf66 na66 xc66 cx66), sl66⟩)
    (h454 : PySem.W.codeIn K xc66 "read_declaration" = true)
    (h455 : K.lookup f67 = some ⟨oo67, of67, .func (PySem.W.fnOf "read_selectors" "read_selectors" (defArgs (top 41)) (defBody (top 41)) (defScope (top 41)) .none kv67 dc67 pf67 na67 xc67 cx67), sl67⟩)
    (h456 : PySem.W.codeIn K xc67 "read_selectors" = true)
    (h457 : K.lookup f68 = some ⟨oo68, of68, .func (PySem.W.fnOf "layer_of" "layer_of" (defArgs (top 42)) (defBody (top 42)) (defScope (top 42)) .none kv68 dc68 pf68 na68 xc68 cx68), sl68⟩)
    (h458 : PySem.W.codeIn K xc68 "layer_of" = true)
    (h459 : K.lookup f69 = some ⟨oo69, of69, .func (PySem.W.fnOf "read_rule" "read_rule" (defArgs (top 43)) (defBody (top 43)) (defScope (top 43)) .none kv69 dc69 pf69 na69 xc69 cx69), sl69⟩)
    (h460 : PySem.W.codeIn K xc69 "read_rule" = true)
    (h461 : K.lookup f70 = some ⟨oo70, of70, .func (PySem.W.fnOf "parse_sheet" "parse_sheet" (defArgs (top 44)) (defBody (top 44)) (defScope (top 44)) .none kv70 dc70 pf70 na70 xc70 cx70), sl70⟩)
    (h462 : PySem.W.codeIn K xc70 "parse_sheet" = true)
    (h463 : K.lookup f71 = some ⟨oo71, of71, .func (PySem.W.fnOf "rule_text" "rule_text" (defArgs (top 45)) (defBody (top 45)) (defScope (top 45)) .none kv71 dc71 pf71 na71 xc71 cx71), sl71⟩)
    (h464 : PySem.W.codeIn K xc71 "rule_text" = true)
    (h465 : K.lookup f72 = some ⟨oo72, of72, .func (PySem.W.fnOf "head_text" "head_text" (defArgs (top 46)) (defBody (top 46)) (defScope (top 46)) .none kv72 dc72 pf72 na72 xc72 cx72), sl72⟩)
    (h466 : PySem.W.codeIn K xc72 "head_text" = true)
    (h467 : K.lookup f73 = some ⟨oo73, of73, .func (PySem.W.fnOf "__init__" "Sheet.__init__" (defArgs (inClass (top 47) 1)) (defBody (inClass (top 47) 1)) (defScope (inClass (top 47) 1)) .none kv73 dc73 pf73 na73 xc73 cx73), sl73⟩)
    (h468 : PySem.W.codeIn K xc73 "Sheet.__init__" = true)
    (h469 : K.lookup f81 = some ⟨oo81, of81, .func (PySem.W.fnOf "_law_pool" "_law_pool" (defArgs (top 49)) (defBody (top 49)) (defScope (top 49)) .none kv81 dc81 pf81 na81 xc81 cx81), sl81⟩)
    (h470 : PySem.W.codeIn K xc81 "_law_pool" = true)
    (h471 : K.lookup f82 = some ⟨oo82, of82, .func (PySem.W.fnOf "_law_take" "_law_take" (defArgs (top 50)) (defBody (top 50)) (defScope (top 50)) .none kv82 dc82 pf82 na82 xc82 cx82), sl82⟩)
    (h472 : PySem.W.codeIn K xc82 "_law_take" = true)
    (h473 : K.lookup f83 = some ⟨oo83, of83, .func (PySem.W.fnOf "_law_said" "_law_said" (defArgs (top 51)) (defBody (top 51)) (defScope (top 51)) .none kv83 dc83 pf83 na83 xc83 cx83), sl83⟩)
    (h474 : PySem.W.codeIn K xc83 "_law_said" = true)
    (h475 : K.lookup f84 = some ⟨oo84, of84, .func (PySem.W.fnOf "_law_bad_heads" "_law_bad_heads" (defArgs (top 52)) (defBody (top 52)) (defScope (top 52)) .none kv84 dc84 pf84 na84 xc84 cx84), sl84⟩)
    (h476 : PySem.W.codeIn K xc84 "_law_bad_heads" = true)
    (h477 : K.lookup f85 = some ⟨oo85, of85, .func (PySem.W.fnOf "_law_bad_rules" "_law_bad_rules" (defArgs (top 53)) (defBody (top 53)) (defScope (top 53)) .none kv85 dc85 pf85 na85 xc85 cx85), sl85⟩)
    (h478 : PySem.W.codeIn K xc85 "_law_bad_rules" = true)
    (h479 : K.lookup f86 = some ⟨oo86, of86, .func (PySem.W.fnOf "law" "law" (defArgs (top 54)) (defBody (top 54)) (defScope (top 54)) .none kv86 dc86 pf86 na86 xc86 cx86), sl86⟩)
    (h480 : PySem.W.codeIn K xc86 "law" = true) :
    ∃ fd : FuncData, (∀ (s : Shared) (v : Value), BindsTo s fd ⟨[v], []⟩ [("_law_script", v)]) ∧ ∃ dt : Value → Prop, ∀ base : Heap, K.In base → base.Ns mainGlobals mg → FnG dt l.prog w K mg base (2 * 60 + 2) fa fd ["_law_script"] (spL K) := by
  have e : f86 = fa := by
    have e0 := hfa.symm.trans (PySem.W.mg_of X Gn h0)
    cases e0; rfl
  subst e
  have T : Txt l.prog (gG K [C0, C1, C2, 0, C4, C5, C6, C7, C8, 0, 0, C11, 0, 0, C14, C15, C16]) (dF f5 f6 f7 f8 f9 f10 f11 f12 f13 f14 f15 f16 f17 f18 f19 f20 f21 f22 f23 f24 f25 f26 f27 f28 f45 f46 f48 f62 f63 f64 f65 f66 f67 f68 f69 f70 f71 f72 f73 f81 f82 f83 f84 f85 f86) mg :=
    { b_range := PySem.W.mg_none_of X Gn h13,
      b_len := PySem.W.mg_none_of X Gn h14,
      b_min := PySem.W.mg_none_of X Gn h15,
      b_max := PySem.W.mg_none_of X Gn h16,
      b_tuple := PySem.W.mg_none_of X Gn h17,
      b_int := PySem.W.mg_none_of X Gn h18,
      b_isinstance := PySem.W.mg_none_of X Gn h19,
      b_OverflowError := PySem.W.mg_none_of X Gn h20,
      b_str := PySem.W.mg_none_of X Gn h21,
      b_enumerate := PySem.W.mg_none_of X Gn h22,
      b_sum := PySem.W.mg_none_of X Gn h23,
      b_all := PySem.W.mg_none_of X Gn h24,
      b_set := PySem.W.mg_none_of X Gn h25,
      c_MOST_ROWS := ⟨_, PySem.W.mg_of X Gn h26, _, rfl⟩,
      c_MOST_PROPERTIES := ⟨_, PySem.W.mg_of X Gn h27, _, rfl⟩,
      c_LETTERS := ⟨_, PySem.W.mg_of X Gn h28, _, rfl⟩,
      c_DIGITS := ⟨_, PySem.W.mg_of X Gn h29, _, rfl⟩,
      c_MOST_SIGNS := ⟨_, PySem.W.mg_of X Gn h30, _, rfl⟩,
      c_MOST_COMPOUNDS := ⟨_, PySem.W.mg_of X Gn h31, _, rfl⟩,
      c_JOINS := ⟨_, PySem.W.mg_of X Gn h32, _, rfl⟩,
      c_MOST_DIGIT := ⟨_, PySem.W.mg_of X Gn h33, _, rfl⟩,
      ct_WORDS := ⟨_, PySem.W.mg_of X Gn h34, h35⟩,
      tc := rfl,
      g__law_bad_rules := PySem.W.mg_of X Gn h36,
      k85 := h37,
      g__law_bad_heads := PySem.W.mg_of X Gn h38,
      k84 := h39,
      g__law_said := PySem.W.mg_of X Gn h40,
      k83 := h41,
      g__law_pool := PySem.W.mg_of X Gn h42,
      k81 := h43,
      g__law_take := PySem.W.mg_of X Gn h44,
      k82 := h45,
      g_parse_sheet := PySem.W.mg_of X Gn h46,
      k70 := h47,
      g_read_rule := PySem.W.mg_of X Gn h48,
      k69 := h49,
      g_read_property := PySem.W.mg_of X Gn h50,
      k64 := h51,
      g_head_text := PySem.W.mg_of X Gn h52,
      k72 := h53,
      g_rule_text := PySem.W.mg_of X Gn h54,
      k71 := h55,
      g_is_name := PySem.W.mg_of X Gn h56,
      k6 := h57,
      g_is_word := PySem.W.mg_of X Gn h58,
      k7 := h59,
      g_is_made_of := PySem.W.mg_of X Gn h60,
      k5 := h61,
      g_layer_of := PySem.W.mg_of X Gn h62,
      k68 := h63,
      g_read_selectors := PySem.W.mg_of X Gn h64,
      k67 := h65,
      g_read_declaration := PySem.W.mg_of X Gn h66,
      k66 := h67,
      g_read_value := PySem.W.mg_of X Gn h68,
      k65 := h69,
      g_chain_text := PySem.W.mg_of X Gn h70,
      k28 := h71,
      g_part_text := PySem.W.mg_of X Gn h72,
      k27 := h73,
      gc1 := PySem.W.mg_of X Gn h2,
      gc0 := PySem.W.mg_of X Gn h1,
      gc4 := PySem.W.mg_of X Gn h4,
      gc2 := PySem.W.mg_of X Gn h3,
      gc16 := PySem.W.mg_of X Gn h12,
      gc14 := PySem.W.mg_of X Gn h10,
      gc15 := PySem.W.mg_of X Gn h11,
      gc8 := PySem.W.mg_of X Gn h8,
      gc11 := PySem.W.mg_of X Gn h9,
      gc7 := PySem.W.mg_of X Gn h7,
      gc6 := PySem.W.mg_of X Gn h6,
      cl5 := ⟨h74, h75, h76, h77⟩,
      cl8 := ⟨h78, h79, h80, h81⟩,
      na5_spot := h82,
      na8_spot := h83,
      na5_source := h84,
      na8_source := h85,
      sc15 := ⟨h86, h87, h88, h89⟩,
      sc16 := ⟨h90, h91, h92, h93⟩,
      sc11 := ⟨h94, h95, h96, h97⟩,
      sc14 := ⟨h98, h99, h100, h101⟩,
      sc7 := ⟨h102, h103, h104, h105⟩,
      sc6 := ⟨h106, h107, h108, h109⟩,
      s15_selectors := ⟨_, h110, h111, h112, h113, h114, by decide⟩,
      s15_declarations := ⟨_, h115, h116, h117, h118, h119, by decide⟩,
      s16_heads := ⟨_, h120, h121, h122, h123, h124, by decide⟩,
      s16_entries := ⟨_, h125, h126, h127, h128, h129, by decide⟩,
      s16_written := ⟨_, h130, h131, h132, h133, h134, by decide⟩,
      s15_layer := ⟨_, h135, h136, h137, h138, h139, by decide⟩,
      s11_written := ⟨_, h140, h141, h142, h143, h144, by decide⟩,
      s14_default := ⟨_, h145, h146, h147, h148, h149, by decide⟩,
      s14_word := ⟨_, h150, h151, h152, h153, h154, by decide⟩,
      s14_name := ⟨_, h155, h156, h157, h158, h159, by decide⟩,
      s11_chain := ⟨_, h160, h161, h162, h163, h164, by decide⟩,
      s7_compounds := ⟨_, h165, h166, h167, h168, h169, by decide⟩,
      s6_parts := ⟨_, h170, h171, h172, h173, h174, by decide⟩,
      s7_joins := ⟨_, h175, h176, h177, h178, h179, by decide⟩,
      s6_own_kind := ⟨_, h180, h181, h182, h183, h184, by decide⟩,
      me11_compound_total := ⟨h185, h186, h187⟩,
      me5_skip_blanks := ⟨h188, h189, h190⟩,
      me8_skip_blanks := ⟨h191, h189, h190⟩,
      me8_read_chain := ⟨h192, h193, h194⟩,
      me5_is_sign := ⟨h195, h196, h197⟩,
      me8_is_sign := ⟨h198, h196, h197⟩,
      me5_need_end := ⟨h199, h200, h201⟩,
      me8_need_end := ⟨h202, h200, h201⟩,
      me5_fail := ⟨h203, h204, h205⟩,
      me8_fail := ⟨h206, h204, h205⟩,
      me5_peek := ⟨h207, h208, h209⟩,
      me8_peek := ⟨h210, h208, h209⟩,
      me8_read_compound := ⟨h211, h212, h213⟩,
      me8_read_join := ⟨h214, h215, h216⟩,
      me5_is_start := ⟨h217, h218, h219⟩,
      me8_is_start := ⟨h220, h218, h219⟩,
      me5_read_name := ⟨h221, h222, h223⟩,
      me8_read_name := ⟨h224, h222, h223⟩,
      me8_read_part := ⟨h225, h226, h227⟩,
      me5_need := ⟨h228, h229, h230⟩,
      me8_need := ⟨h231, h229, h230⟩,
      me8_nth := ⟨h232, h233, h234⟩,
      me8_negation := ⟨h235, h236, h237⟩,
      me8_relation := ⟨h238, h239, h240⟩,
      me8_digit := ⟨h241, h242, h243⟩,
      mk16 := ⟨h244, h245, h246, h247⟩,
      mk14 := ⟨h248, h249, h250, h251⟩,
      mk15 := ⟨h252, h253, h254, h255⟩,
      mk8 := ⟨h256, h257, h258, h259⟩,
      mk11 := ⟨h260, h261, h262, h263⟩,
      mk7 := ⟨h264, h265, h266, h267⟩,
      mk6 := ⟨h268, h269, h270, h271⟩,
      pr11_text := ⟨_, h272, h273, h274, _, h275⟩,
      x1 := ⟨fI1, "ValueError", "ValueError.__new__", "ValueError.__init__", [.type "ValueError", .type "Exception", .type "BaseException", .type "object"], { fb := excBase_ValueError, sf := store_ValueError, kf := PySem.W.kxs_ValueError, gC := PySem.W.mg_of X Gn h2, gS := PySem.W.mg_none_of X Gn h296, cls := ⟨_, _, _, _, _, _, _, _, _, _, _, _, _, _, _, h276, h277⟩, sa := h297, noN := h298, iC := h278, tC := h299, kC := h300, exC := h301, tyC := h302, sub := h303, own := h304, sup := h305, opq := h306, top := h307, fn := ⟨_, _, _, _, _, _, _, _, _, _, _, _, _, _, _, _, _, _, _, _, _, _, _, _, _, _, _, _, _, _, _, _, _, _, _, h279, h280, h281, h282, h283, h284, h285, h286, h287, h288, h289, h290, h291, h292, h293, h294, h295⟩ }⟩,
      x4 := ⟨fI4, "OverflowError", "OverflowError.__new__", "OverflowError.__init__", [.type "OverflowError", .type "ArithmeticError", .type "Exception", .type "BaseException", .type "object"], { fb := excBase_OverflowError, sf := store_OverflowError, kf := PySem.W.kxs_OverflowError, gC := PySem.W.mg_of X Gn h4, gS := PySem.W.mg_none_of X Gn h296, cls := ⟨_, _, _, _, _, _, _, _, _, _, _, _, _, _, _, h308, h309⟩, sa := h328, noN := h329, iC := h310, tC := h330, kC := h331, exC := h332, tyC := h333, sub := h334, own := h335, sup := h336, opq := h306, top := h307, fn := ⟨_, _, _, _, _, _, _, _, _, _, _, _, _, _, _, _, _, _, _, _, _, _, _, _, _, _, _, _, _, _, _, _, _, _, _, h311, h312, h313, h314, h315, h316, h317, h318, h319, h320, h321, h322, h323, h324, h325, h326, h327⟩ }⟩,
      x2 := ⟨fI2, "ValueError", "ValueError.__new__", "ValueError.__init__", [.type "ValueError", .type "Exception", .type "BaseException", .type "object"], { fb := excBase_ValueError, sf := store_ValueError, kf := PySem.W.kxs_ValueError, gC := PySem.W.mg_of X Gn h3, gS := PySem.W.mg_none_of X Gn h296, cls := ⟨_, _, _, _, _, _, _, _, _, _, _, _, _, _, _, h337, h338⟩, sa := h357, noN := h358, iC := h339, tC := h359, kC := h360, exC := h361, tyC := h362, sub := h363, own := h364, sup := h365, opq := h306, top := h307, fn := ⟨_, _, _, _, _, _, _, _, _, _, _, _, _, _, _, _, _, _, _, _, _, _, _, _, _, _, _, _, _, _, _, _, _, _, _, h340, h341, h342, h343, h344, h345, h346, h347, h348, h349, h350, h351, h352, h353, h354, h355, h356⟩ }⟩,
      xf0 := fun c h => by
          have h' : c ∈ ([1] : List Nat) := by simpa [txf0] using h
          simp only [List.mem_cons, List.not_mem_nil, or_false] at h'
          rcases h' with rfl
          · exact ⟨⟨h366, h367, h301, h368⟩, h298, rfl⟩,
      xf1 := fun c h => by
          have h' : c ∈ ([4] : List Nat) := by simpa [txf1] using h
          simp only [List.mem_cons, List.not_mem_nil, or_false] at h'
          rcases h' with rfl
          · exact ⟨⟨h369, h370, h332, h371⟩, h329, rfl⟩,
      xi0 := fun c b h => by
          unfold txi0 at h
          by_cases e0 : c ∈ ([1] : List Nat)
          · simp only [List.mem_cons, List.not_mem_nil, or_false] at e0
            rcases e0 with rfl
            · cases h; exact ⟨⟨h366, h367, h301, h368, h372, h373, h374, h375⟩, h376⟩
          · exfalso
            simp only [List.mem_cons, List.not_mem_nil, or_false, not_or] at e0
            simp [List.lookup, beq_eq_false_iff_ne.mpr e0] at h,
      xi1 := fun c b h => by
          unfold txi1 at h
          by_cases e0 : c ∈ ([4] : List Nat)
          · simp only [List.mem_cons, List.not_mem_nil, or_false] at e0
            rcases e0 with rfl
            · cases h; exact ⟨⟨h369, h370, h332, h371, h377, h373, h374, h378⟩, h379⟩
          · exfalso
            simp only [List.mem_cons, List.not_mem_nil, or_false, not_or] at e0
            simp [List.lookup, beq_eq_false_iff_ne.mpr e0] at h,
      exm1 := fun c b h => by
          unfold texm1 at h
          by_cases e0 : c ∈ ([1, 2, 4] : List Nat)
          · simp only [List.mem_cons, List.not_mem_nil, or_false] at e0
            rcases e0 with rfl | rfl | rfl
            · cases h; exact h380
            · cases h; exact h381
            · cases h; exact h382
          · exfalso
            simp only [List.mem_cons, List.not_mem_nil, or_false, not_or] at e0
            simp [List.lookup, beq_eq_false_iff_ne.mpr e0.1, beq_eq_false_iff_ne.mpr e0.2.1, beq_eq_false_iff_ne.mpr e0.2.2] at h,
      exm4 := fun c b h => by
          unfold texm4 at h
          by_cases e0 : c ∈ ([1, 2, 4] : List Nat)
          · simp only [List.mem_cons, List.not_mem_nil, or_false] at e0
            rcases e0 with rfl | rfl | rfl
            · cases h; exact h383
            · cases h; exact h384
            · cases h; exact h385
          · exfalso
            simp only [List.mem_cons, List.not_mem_nil, or_false, not_or] at e0
            simp [List.lookup, beq_eq_false_iff_ne.mpr e0.1, beq_eq_false_iff_ne.mpr e0.2.1, beq_eq_false_iff_ne.mpr e0.2.2] at h,
      exm2 := fun c b h => by
          unfold texm2 at h
          by_cases e0 : c ∈ ([1, 2, 4] : List Nat)
          · simp only [List.mem_cons, List.not_mem_nil, or_false] at e0
            rcases e0 with rfl | rfl | rfl
            · cases h; exact h386
            · cases h; exact h387
            · cases h; exact h388
          · exfalso
            simp only [List.mem_cons, List.not_mem_nil, or_false, not_or] at e0
            simp [List.lookup, beq_eq_false_iff_ne.mpr e0.1, beq_eq_false_iff_ne.mpr e0.2.1, beq_eq_false_iff_ne.mpr e0.2.2] at h,
      u5 := Dfn.plain (G := gG K [C0, C1, C2, 0, C4, C5, C6, C7, C8, 0, 0, C11, 0, 0, C14, C15, C16]) h389 h390 fun _ _ _ _ _ _ us hl => match us, hl with | [_, _], _ => rfl,
      u6 := Dfn.plain (G := gG K [C0, C1, C2, 0, C4, C5, C6, C7, C8, 0, 0, C11, 0, 0, C14, C15, C16]) h391 h392 fun _ _ _ _ _ _ us hl => match us, hl with | [_], _ => rfl,
      u7 := Dfn.plain (G := gG K [C0, C1, C2, 0, C4, C5, C6, C7, C8, 0, 0, C11, 0, 0, C14, C15, C16]) h393 h394 fun _ _ _ _ _ _ us hl => match us, hl with | [_], _ => rfl,
      u8 := Dfn.plain (G := gG K [C0, C1, C2, 0, C4, C5, C6, C7, C8, 0, 0, C11, 0, 0, C14, C15, C16]) h395 h396 fun _ _ _ _ _ _ us hl => match us, hl with | [_, _], _ => rfl,
      u9 := Dfn.plain (G := gG K [C0, C1, C2, 0, C4, C5, C6, C7, C8, 0, 0, C11, 0, 0, C14, C15, C16]) h397 h398 fun _ _ _ _ _ _ us hl => match us, hl with | [_], _ => rfl,
      u10 := Dfn.plain (G := gG K [C0, C1, C2, 0, C4, C5, C6, C7, C8, 0, 0, C11, 0, 0, C14, C15, C16]) h399 h400 fun _ _ _ _ _ _ us hl => match us, hl with | [_], _ => rfl,
      u11 := Dfn.plain (G := gG K [C0, C1, C2, 0, C4, C5, C6, C7, C8, 0, 0, C11, 0, 0, C14, C15, C16]) h401 h402 fun _ _ _ _ _ _ us hl => match us, hl with | [_, _], _ => rfl,
      u12 := Dfn.plain (G := gG K [C0, C1, C2, 0, C4, C5, C6, C7, C8, 0, 0, C11, 0, 0, C14, C15, C16]) h403 h404 fun _ _ _ _ _ _ us hl => match us, hl with | [_, _], _ => rfl,
      u13 := Dfn.plain (G := gG K [C0, C1, C2, 0, C4, C5, C6, C7, C8, 0, 0, C11, 0, 0, C14, C15, C16]) h405 h406 fun _ _ _ _ _ _ us hl => match us, hl with | [_], _ => rfl,
      u14 := Dfn.plain (G := gG K [C0, C1, C2, 0, C4, C5, C6, C7, C8, 0, 0, C11, 0, 0, C14, C15, C16]) h407 h408 fun _ _ _ _ _ _ us hl => match us, hl with | [_], _ => rfl,
      u15 := Dfn.plain (G := gG K [C0, C1, C2, 0, C4, C5, C6, C7, C8, 0, 0, C11, 0, 0, C14, C15, C16]) h409 h410 fun _ _ _ _ _ _ us hl => match us, hl with | [_], _ => rfl,
      u16 := Dfn.plain (G := gG K [C0, C1, C2, 0, C4, C5, C6, C7, C8, 0, 0, C11, 0, 0, C14, C15, C16]) h411 h412 fun _ _ _ _ _ _ us hl => match us, hl with | [_], _ => rfl,
      u17 := Dfn.plain (G := gG K [C0, C1, C2, 0, C4, C5, C6, C7, C8, 0, 0, C11, 0, 0, C14, C15, C16]) h413 h414 fun _ _ _ _ _ _ us hl => match us, hl with | [_, _, _], _ => rfl,
      u18 := Dfn.plain (G := gG K [C0, C1, C2, 0, C4, C5, C6, C7, C8, 0, 0, C11, 0, 0, C14, C15, C16]) h415 h416 fun _ _ _ _ _ _ us hl => match us, hl with | [_, _, _], _ => rfl,
      u19 := Dfn.plain (G := gG K [C0, C1, C2, 0, C4, C5, C6, C7, C8, 0, 0, C11, 0, 0, C14, C15, C16]) h417 h418 fun _ _ _ _ _ _ us hl => match us, hl with | [_, _, _], _ => rfl,
      u20 := Dfn.plain (G := gG K [C0, C1, C2, 0, C4, C5, C6, C7, C8, 0, 0, C11, 0, 0, C14, C15, C16]) h419 h420 fun _ _ _ _ _ _ us hl => match us, hl with | [_], _ => rfl,
      u21 := Dfn.plain (G := gG K [C0, C1, C2, 0, C4, C5, C6, C7, C8, 0, 0, C11, 0, 0, C14, C15, C16]) h421 h422 fun _ _ _ _ _ _ us hl => match us, hl with | [_, _], _ => rfl,
      u22 := Dfn.dfl (G := gG K [C0, C1, C2, 0, C4, C5, C6, C7, C8, 0, 0, C11, 0, 0, C14, C15, C16]) (dvs := [(.bl true)]) 1 h423 h424 h425 h426 (Paired.cons rfl (Paired.nil)) (fun _ _ _ => .nil) fun _ _ _ _ _ _ _ us its hl h2 => by
          rcases its with _ | ⟨x0, _ | ⟨_, _⟩⟩ <;> simp at h2
          rcases us with _ | ⟨x0, _ | ⟨x1, _ | ⟨x2, _ | ⟨_, _⟩⟩⟩⟩ <;> simp at hl
          exact ⟨_, rfl, rfl⟩,
      u22_1 := Dfn.dfl (G := gG K [C0, C1, C2, 0, C4, C5, C6, C7, C8, 0, 0, C11, 0, 0, C14, C15, C16]) (dvs := [(.bl true)]) 0 h423 h424 h425 h426 (Paired.cons rfl (Paired.nil)) (fun _ _ _ => .cons (.bl _) (.nil)) fun _ _ _ _ _ _ _ us its hl h2 => by
          rcases its with _ | ⟨x0, _ | ⟨_, _⟩⟩ <;> simp at h2
          rcases us with _ | ⟨x0, _ | ⟨x1, _ | ⟨_, _⟩⟩⟩ <;> simp at hl
          exact ⟨_, rfl, rfl⟩,
      u23 := Dfn.plain (G := gG K [C0, C1, C2, 0, C4, C5, C6, C7, C8, 0, 0, C11, 0, 0, C14, C15, C16]) h427 h428 fun _ _ _ _ _ _ us hl => match us, hl with | [_], _ => rfl,
      u24 := Dfn.plain (G := gG K [C0, C1, C2, 0, C4, C5, C6, C7, C8, 0, 0, C11, 0, 0, C14, C15, C16]) h429 h430 fun _ _ _ _ _ _ us hl => match us, hl with | [_], _ => rfl,
      u25 := Dfn.plain (G := gG K [C0, C1, C2, 0, C4, C5, C6, C7, C8, 0, 0, C11, 0, 0, C14, C15, C16]) h431 h432 fun _ _ _ _ _ _ us hl => match us, hl with | [_], _ => rfl,
      u26 := Dfn.plain (G := gG K [C0, C1, C2, 0, C4, C5, C6, C7, C8, 0, 0, C11, 0, 0, C14, C15, C16]) h433 h434 fun _ _ _ _ _ _ us hl => match us, hl with | [_], _ => rfl,
      u27 := Dfn.plain (G := gG K [C0, C1, C2, 0, C4, C5, C6, C7, C8, 0, 0, C11, 0, 0, C14, C15, C16]) h435 h436 fun _ _ _ _ _ _ us hl => match us, hl with | [_], _ => rfl,
      u28 := Dfn.plain (G := gG K [C0, C1, C2, 0, C4, C5, C6, C7, C8, 0, 0, C11, 0, 0, C14, C15, C16]) h437 h438 fun _ _ _ _ _ _ us hl => match us, hl with | [_], _ => rfl,
      u45 := Dfn.plain (G := gG K [C0, C1, C2, 0, C4, C5, C6, C7, C8, 0, 0, C11, 0, 0, C14, C15, C16]) h439 h440 fun _ _ _ _ _ _ us hl => match us, hl with | [_, _], _ => rfl,
      u46 := Dfn.plain (G := gG K [C0, C1, C2, 0, C4, C5, C6, C7, C8, 0, 0, C11, 0, 0, C14, C15, C16]) h441 h442 fun _ _ _ _ _ _ us hl => match us, hl with | [_], _ => rfl,
      u48 := Dfn.plain (G := gG K [C0, C1, C2, 0, C4, C5, C6, C7, C8, 0, 0, C11, 0, 0, C14, C15, C16]) h443 h444 fun _ _ _ _ _ _ us hl => match us, hl with | [_], _ => rfl,
      u62 := Dfn.plain (G := gG K [C0, C1, C2, 0, C4, C5, C6, C7, C8, 0, 0, C11, 0, 0, C14, C15, C16]) h445 h446 fun _ _ _ _ _ _ us hl => match us, hl with | [_, _, _, _], _ => rfl,
      u63 := Dfn.plain (G := gG K [C0, C1, C2, 0, C4, C5, C6, C7, C8, 0, 0, C11, 0, 0, C14, C15, C16]) h447 h448 fun _ _ _ _ _ _ us hl => match us, hl with | [_, _, _, _], _ => rfl,
      u64 := Dfn.plain (G := gG K [C0, C1, C2, 0, C4, C5, C6, C7, C8, 0, 0, C11, 0, 0, C14, C15, C16]) h449 h450 fun _ _ _ _ _ _ us hl => match us, hl with | [_, _], _ => rfl,
      u65 := Dfn.plain (G := gG K [C0, C1, C2, 0, C4, C5, C6, C7, C8, 0, 0, C11, 0, 0, C14, C15, C16]) h451 h452 fun _ _ _ _ _ _ us hl => match us, hl with | [_, _], _ => rfl,
      u66 := Dfn.plain (G := gG K [C0, C1, C2, 0, C4, C5, C6, C7, C8, 0, 0, C11, 0, 0, C14, C15, C16]) h453 h454 fun _ _ _ _ _ _ us hl => match us, hl with | [_, _], _ => rfl,
      u67 := Dfn.plain (G := gG K [C0, C1, C2, 0, C4, C5, C6, C7, C8, 0, 0, C11, 0, 0, C14, C15, C16]) h455 h456 fun _ _ _ _ _ _ us hl => match us, hl with | [_], _ => rfl,
      u68 := Dfn.plain (G := gG K [C0, C1, C2, 0, C4, C5, C6, C7, C8, 0, 0, C11, 0, 0, C14, C15, C16]) h457 h458 fun _ _ _ _ _ _ us hl => match us, hl with | [_], _ => rfl,
      u69 := Dfn.plain (G := gG K [C0, C1, C2, 0, C4, C5, C6, C7, C8, 0, 0, C11, 0, 0, C14, C15, C16]) h459 h460 fun _ _ _ _ _ _ us hl => match us, hl with | [_, _], _ => rfl,
      u70 := Dfn.plain (G := gG K [C0, C1, C2, 0, C4, C5, C6, C7, C8, 0, 0, C11, 0, 0, C14, C15, C16]) h461 h462 fun _ _ _ _ _ _ us hl => match us, hl with | [_], _ => rfl,
      u71 := Dfn.plain (G := gG K [C0, C1, C2, 0, C4, C5, C6, C7, C8, 0, 0, C11, 0, 0, C14, C15, C16]) h463 h464 fun _ _ _ _ _ _ us hl => match us, hl with | [_], _ => rfl,
      u72 := Dfn.plain (G := gG K [C0, C1, C2, 0, C4, C5, C6, C7, C8, 0, 0, C11, 0, 0, C14, C15, C16]) h465 h466 fun _ _ _ _ _ _ us hl => match us, hl with | [_], _ => rfl,
      u73 := Dfn.plain (G := gG K [C0, C1, C2, 0, C4, C5, C6, C7, C8, 0, 0, C11, 0, 0, C14, C15, C16]) h467 h468 fun _ _ _ _ _ _ us hl => match us, hl with | [_, _, _], _ => rfl,
      u81 := Dfn.plain (G := gG K [C0, C1, C2, 0, C4, C5, C6, C7, C8, 0, 0, C11, 0, 0, C14, C15, C16]) h469 h470 fun _ _ _ _ _ _ us hl => match us, hl with | [_, _], _ => rfl,
      u82 := Dfn.plain (G := gG K [C0, C1, C2, 0, C4, C5, C6, C7, C8, 0, 0, C11, 0, 0, C14, C15, C16]) h471 h472 fun _ _ _ _ _ _ us hl => match us, hl with | [_, _], _ => rfl,
      u83 := Dfn.plain (G := gG K [C0, C1, C2, 0, C4, C5, C6, C7, C8, 0, 0, C11, 0, 0, C14, C15, C16]) h473 h474 fun _ _ _ _ _ _ us hl => match us, hl with | [_], _ => rfl,
      u84 := Dfn.plain (G := gG K [C0, C1, C2, 0, C4, C5, C6, C7, C8, 0, 0, C11, 0, 0, C14, C15, C16]) h475 h476 fun _ _ _ _ _ _ us hl => match us, hl with | [], _ => rfl,
      u85 := Dfn.plain (G := gG K [C0, C1, C2, 0, C4, C5, C6, C7, C8, 0, 0, C11, 0, 0, C14, C15, C16]) h477 h478 fun _ _ _ _ _ _ us hl => match us, hl with | [], _ => rfl }
  have A : ∀ base, Al l.prog w mg base (gG K [C0, C1, C2, 0, C4, C5, C6, C7, C8, 0, 0, C11, 0, 0, C14, C15, C16]) (2 * 60) (dF f5 f6 f7 f8 f9 f10 f11 f12 f13 f14 f15 f16 f17 f18 f19 f20 f21 f22 f23 f24 f25 f26 f27 f28 f45 f46 f48 f62 f63 f64 f65 f66 f67 f68 f69 f70 f71 f72 f73 f81 f82 f83 f84 f85 f86) clP := fun base => al_P T ⟨rfl, rfl⟩
  refine ⟨_, fun s v => .of_eq rfl, _, fun base _ _ => FnG.imp (ok86 (G := gG K [C0, C1, C2, 0, C4, C5, C6, C7, C8, 0, 0, C11, 0, 0, C14, C15, C16]) (D := (dF f5 f6 f7 f8 f9 f10 f11 f12 f13 f14 f15 f16 f17 f18 f19 f20 f21 f22 f23 f24 f25 f26 f27 f28 f45 f46 f48 f62 f63 f64 f65 f66 f67 f68 f69 f70 f71 f72 f73 f81 f82 f83 f84 f85 f86)) (nF := nF) T ⟨rfl, rfl⟩ (A base) ⟨_, _, _, _, _, _, _, _, _, _, _, rfl, h479, h480⟩) (sp_law (G := gG K [C0, C1, C2, 0, C4, C5, C6, C7, C8, 0, 0, C11, 0, 0, C14, C15, C16]) LV)⟩
theorem walk {l : PySem.W.OpenLaw} {q : Program} {loose : List Str} {XP : (Str → Option Value) → Heap → Prop} {YP : World → Heap → Prop} {d : DefRec} {K : Params → PySem.W.Frag} (hn : l.most = some 63) (hdf : d.params.defaults = []) (hY : ∀ (w : World) (h : Heap), YP w h → (K w.params).In h)
    (F : ∀ (w : World) (mg : Str → Option Value) (fa : Addr) (h : Heap), (K w.params).In h → h.Ns mainGlobals mg → mg d.name = some (.ref fa) → ∃ fd : FuncData, (∀ (s : Shared) (u : Value), BindsTo s fd ⟨[u], []⟩ [("_law_script", u)]) ∧ ∃ dt : Value → Prop, ∀ base : Heap, (K w.params).In base → base.Ns mainGlobals mg → FnG dt l.prog w (K w.params) mg base (2 * 60 + 2) fa fd ["_law_script"] (spL (K w.params))) :
    PySem.W.WalkO q loose XP YP l.row.toRowW d [] (fun f vs => PySem.call f vs) :=
  walkG (n := 63) (k := 2 * 60 + 2) (x := "_law_script") (sp := fun w => spL (K w.params)) hn (by decide) hdf ⟨rfl, by decide, by decide⟩ hY F (fun w H a ns hl hb hO hS => ⟨a, ns, rfl, hO, hS, hl, hb, fun _ => rfl⟩)
end Dr.L
set_option maxHeartbeats 4000000
namespace Dr.L
open PySem L2 PyProof.Rows Dr PySem.F
abbrev R : PySem.W.OpenRow := PySem.W.OpenLaw.row PySem.Challenge.rw_deadrules_k18_sheets_refused
def a_C0 (K : PySem.W.Frag) : Addr := He.ga K "StyleError"
def a_C1 (K : PySem.W.Frag) : Addr := He.ga K "ParseError"
def a_C2 (K : PySem.W.Frag) : Addr := He.ga K "InvalidText"
def a_C4 (K : PySem.W.Frag) : Addr := He.ga K "LimitExceeded"
def a_C5 (K : PySem.W.Frag) : Addr := He.ga K "TextReader"
def a_C6 (K : PySem.W.Frag) : Addr := He.ga K "Compound"
def a_C7 (K : PySem.W.Frag) : Addr := He.ga K "Chain"
def a_C8 (K : PySem.W.Frag) : Addr := He.ga K "SelectorReader"
def a_C11 (K : PySem.W.Frag) : Addr := He.ga K "Selector"
def a_C14 (K : PySem.W.Frag) : Addr := He.ga K "Property"
def a_C15 (K : PySem.W.Frag) : Addr := He.ga K "Rule"
def a_C16 (K : PySem.W.Frag) : Addr := He.ga K "Sheet"
def a_f5 (K : PySem.W.Frag) : Addr := He.ga K "is_made_of"
def a_f6 (K : PySem.W.Frag) : Addr := He.ga K "is_name"
def a_f7 (K : PySem.W.Frag) : Addr := He.ga K "is_word"
def a_f8 (K : PySem.W.Frag) : Addr := He.ma K (He.ga K "TextReader") "__init__"
def a_f9 (K : PySem.W.Frag) : Addr := He.ma K (He.ga K "TextReader") "fail"
def a_f10 (K : PySem.W.Frag) : Addr := He.ma K (He.ga K "TextReader") "peek"
def a_f11 (K : PySem.W.Frag) : Addr := He.ma K (He.ga K "TextReader") "is_sign"
def a_f12 (K : PySem.W.Frag) : Addr := He.ma K (He.ga K "TextReader") "need"
def a_f13 (K : PySem.W.Frag) : Addr := He.ma K (He.ga K "TextReader") "is_start"
def a_f14 (K : PySem.W.Frag) : Addr := He.ma K (He.ga K "TextReader") "read_name"
def a_f15 (K : PySem.W.Frag) : Addr := He.ma K (He.ga K "TextReader") "skip_blanks"
def a_f16 (K : PySem.W.Frag) : Addr := He.ma K (He.ga K "TextReader") "need_end"
def a_f17 (K : PySem.W.Frag) : Addr := He.ma K (He.ga K "Compound") "__init__"
def a_f18 (K : PySem.W.Frag) : Addr := He.ma K (He.ga K "Chain") "__init__"
def a_f19 (K : PySem.W.Frag) : Addr := He.ma K (He.ga K "SelectorReader") "read_chain"
def a_f20 (K : PySem.W.Frag) : Addr := He.ma K (He.ga K "SelectorReader") "read_join"
def a_f21 (K : PySem.W.Frag) : Addr := He.ma K (He.ga K "SelectorReader") "read_compound"
def a_f22 (K : PySem.W.Frag) : Addr := He.ma K (He.ga K "SelectorReader") "read_part"
def a_f23 (K : PySem.W.Frag) : Addr := He.ma K (He.ga K "SelectorReader") "nth"
def a_f24 (K : PySem.W.Frag) : Addr := He.ma K (He.ga K "SelectorReader") "digit"
def a_f25 (K : PySem.W.Frag) : Addr := He.ma K (He.ga K "SelectorReader") "negation"
def a_f26 (K : PySem.W.Frag) : Addr := He.ma K (He.ga K "SelectorReader") "relation"
def a_f27 (K : PySem.W.Frag) : Addr := He.ga K "part_text"
def a_f28 (K : PySem.W.Frag) : Addr := He.ga K "chain_text"
def a_f45 (K : PySem.W.Frag) : Addr := He.ma K (He.ga K "Selector") "__init__"
def a_f46 (K : PySem.W.Frag) : Addr := prgY K (He.ma K (He.ga K "Selector") "text")
def a_f48 (K : PySem.W.Frag) : Addr := He.ma K (He.ga K "Selector") "compound_total"
def a_f62 (K : PySem.W.Frag) : Addr := He.ma K (He.ga K "Property") "__init__"
def a_f63 (K : PySem.W.Frag) : Addr := He.ma K (He.ga K "Rule") "__init__"
def a_f64 (K : PySem.W.Frag) : Addr := He.ga K "read_property"
def a_f65 (K : PySem.W.Frag) : Addr := He.ga K "read_value"
def a_f66 (K : PySem.W.Frag) : Addr := He.ga K "read_declaration"
def a_f67 (K : PySem.W.Frag) : Addr := He.ga K "read_selectors"
def a_f68 (K : PySem.W.Frag) : Addr := He.ga K "layer_of"
def a_f69 (K : PySem.W.Frag) : Addr := He.ga K "read_rule"
def a_f70 (K : PySem.W.Frag) : Addr := He.ga K "parse_sheet"
def a_f71 (K : PySem.W.Frag) : Addr := He.ga K "rule_text"
def a_f72 (K : PySem.W.Frag) : Addr := He.ga K "head_text"
def a_f73 (K : PySem.W.Frag) : Addr := He.ma K (He.ga K "Sheet") "__init__"
def a_f81 (K : PySem.W.Frag) : Addr := He.ga K "_law_pool"
def a_f82 (K : PySem.W.Frag) : Addr := He.ga K "_law_take"
def a_f83 (K : PySem.W.Frag) : Addr := He.ga K "_law_said"
def a_f84 (K : PySem.W.Frag) : Addr := He.ga K "_law_bad_heads"
def a_f85 (K : PySem.W.Frag) : Addr := He.ga K "_law_bad_rules"
def a_f86 (K : PySem.W.Frag) : Addr := He.ga K "law"
def a_fI1 (K : PySem.W.Frag) : Addr := He.ma K (He.ga K "ParseError") "__init__"
def a_fI2 (K : PySem.W.Frag) : Addr := He.ma K (He.ga K "InvalidText") "__init__"
def a_fI4 (K : PySem.W.Frag) : Addr := He.ma K (He.ga K "LimitExceeded") "__init__"
def qf0 (K : PySem.W.Frag) : Bool := decide (PySem.W.nsIn K mainGlobals "law" = some (some (.ref (a_f86 K))))
def qf1 (K : PySem.W.Frag) : Bool := decide (PySem.W.nsIn K mainGlobals "StyleError" = some (some (.ref (a_C0 K))))
def qf2 (K : PySem.W.Frag) : Bool := decide (PySem.W.nsIn K mainGlobals "ParseError" = some (some (.ref (a_C1 K))))
def qf3 (K : PySem.W.Frag) : Bool := decide (PySem.W.nsIn K mainGlobals "InvalidText" = some (some (.ref (a_C2 K))))
def qf4 (K : PySem.W.Frag) : Bool := decide (PySem.W.nsIn K mainGlobals "LimitExceeded" = some (some (.ref (a_C4 K))))
def qf5 (K : PySem.W.Frag) : Bool := decide (PySem.W.nsIn K mainGlobals "TextReader" = some (some (.ref (a_C5 K))))
def qf6 (K : PySem.W.Frag) : Bool := decide (PySem.W.nsIn K mainGlobals "Compound" = some (some (.ref (a_C6 K))))
def qf7 (K : PySem.W.Frag) : Bool := decide (PySem.W.nsIn K mainGlobals "Chain" = some (some (.ref (a_C7 K))))
def qf8 (K : PySem.W.Frag) : Bool := decide (PySem.W.nsIn K mainGlobals "SelectorReader" = some (some (.ref (a_C8 K))))
def qf9 (K : PySem.W.Frag) : Bool := decide (PySem.W.nsIn K mainGlobals "Selector" = some (some (.ref (a_C11 K))))
def qf10 (K : PySem.W.Frag) : Bool := decide (PySem.W.nsIn K mainGlobals "Property" = some (some (.ref (a_C14 K))))
def qf11 (K : PySem.W.Frag) : Bool := decide (PySem.W.nsIn K mainGlobals "Rule" = some (some (.ref (a_C15 K))))
def qf12 (K : PySem.W.Frag) : Bool := decide (PySem.W.nsIn K mainGlobals "Sheet" = some (some (.ref (a_C16 K))))
def qf13 (K : PySem.W.Frag) : Bool := decide (PySem.W.nsIn K mainGlobals "range" = some none)
def qf14 (K : PySem.W.Frag) : Bool := decide (PySem.W.nsIn K mainGlobals "len" = some none)
def qf15 (K : PySem.W.Frag) : Bool := decide (PySem.W.nsIn K mainGlobals "min" = some none)
def qf16 (K : PySem.W.Frag) : Bool := decide (PySem.W.nsIn K mainGlobals "max" = some none)
def qf17 (K : PySem.W.Frag) : Bool := decide (PySem.W.nsIn K mainGlobals "tuple" = some none)
def qf18 (K : PySem.W.Frag) : Bool := decide (PySem.W.nsIn K mainGlobals "int" = some none)
def qf19 (K : PySem.W.Frag) : Bool := decide (PySem.W.nsIn K mainGlobals "isinstance" = some none)
def qf20 (K : PySem.W.Frag) : Bool := decide (PySem.W.nsIn K mainGlobals "OverflowError" = some none)
def qf21 (K : PySem.W.Frag) : Bool := decide (PySem.W.nsIn K mainGlobals "str" = some none)
def qf22 (K : PySem.W.Frag) : Bool := decide (PySem.W.nsIn K mainGlobals "enumerate" = some none)
def qf23 (K : PySem.W.Frag) : Bool := decide (PySem.W.nsIn K mainGlobals "sum" = some none)
def qf24 (K : PySem.W.Frag) : Bool := decide (PySem.W.nsIn K mainGlobals "all" = some none)
def qf25 (K : PySem.W.Frag) : Bool := decide (PySem.W.nsIn K mainGlobals "set" = some none)
def qf26 (K : PySem.W.Frag) : Bool := decide (PySem.W.nsIn K mainGlobals "MOST_ROWS" = some (some (.int 24 (tokY K "MOST_ROWS"))))
def qf27 (K : PySem.W.Frag) : Bool := decide (PySem.W.nsIn K mainGlobals "MOST_PROPERTIES" = some (some (.int 12 (tokY K "MOST_PROPERTIES"))))
def qf28 (K : PySem.W.Frag) : Bool := decide (PySem.W.nsIn K mainGlobals "LETTERS" = some (some (.str "abcdefghijklmnopqrstuvwxyz" (tokY K "LETTERS"))))
def qf29 (K : PySem.W.Frag) : Bool := decide (PySem.W.nsIn K mainGlobals "DIGITS" = some (some (.str "0123456789" (tokY K "DIGITS"))))
def qf30 (K : PySem.W.Frag) : Bool := decide (PySem.W.nsIn K mainGlobals "MOST_SIGNS" = some (some (.int 8 (tokY K "MOST_SIGNS"))))
def qf31 (K : PySem.W.Frag) : Bool := decide (PySem.W.nsIn K mainGlobals "MOST_COMPOUNDS" = some (some (.int 12 (tokY K "MOST_COMPOUNDS"))))
def qf32 (K : PySem.W.Frag) : Bool := decide (PySem.W.nsIn K mainGlobals "JOINS" = some (some (.str ">+~" (tokY K "JOINS"))))
def qf33 (K : PySem.W.Frag) : Bool := decide (PySem.W.nsIn K mainGlobals "MOST_DIGIT" = some (some (.int 4 (tokY K "MOST_DIGIT"))))
def qf34 (K : PySem.W.Frag) : Bool := decide (PySem.W.nsIn K mainGlobals "WORDS" = some (some (.ref (He.ga K "WORDS"))))
def qf35 (K : PySem.W.Frag) : Bool := decide (tupK K (He.ga K "WORDS") ["var", "hand", "own"] = true)
def qf36 (K : PySem.W.Frag) : Bool := decide (PySem.W.nsIn K mainGlobals "_law_bad_rules" = some (some (.ref (a_f85 K))))
def qf37 (K : PySem.W.Frag) : Bool := decide (PySem.W.keepIn K (.ref (a_f85 K)) = true)
def qf38 (K : PySem.W.Frag) : Bool := decide (PySem.W.nsIn K mainGlobals "_law_bad_heads" = some (some (.ref (a_f84 K))))
def qf39 (K : PySem.W.Frag) : Bool := decide (PySem.W.keepIn K (.ref (a_f84 K)) = true)
def qf40 (K : PySem.W.Frag) : Bool := decide (PySem.W.nsIn K mainGlobals "_law_said" = some (some (.ref (a_f83 K))))
def qf41 (K : PySem.W.Frag) : Bool := decide (PySem.W.keepIn K (.ref (a_f83 K)) = true)
def qf42 (K : PySem.W.Frag) : Bool := decide (PySem.W.nsIn K mainGlobals "_law_pool" = some (some (.ref (a_f81 K))))
def qf43 (K : PySem.W.Frag) : Bool := decide (PySem.W.keepIn K (.ref (a_f81 K)) = true)
def qf44 (K : PySem.W.Frag) : Bool := decide (PySem.W.nsIn K mainGlobals "_law_take" = some (some (.ref (a_f82 K))))
def qf45 (K : PySem.W.Frag) : Bool := decide (PySem.W.keepIn K (.ref (a_f82 K)) = true)
def qf46 (K : PySem.W.Frag) : Bool := decide (PySem.W.nsIn K mainGlobals "parse_sheet" = some (some (.ref (a_f70 K))))
def qf47 (K : PySem.W.Frag) : Bool := decide (PySem.W.keepIn K (.ref (a_f70 K)) = true)
def qf48 (K : PySem.W.Frag) : Bool := decide (PySem.W.nsIn K mainGlobals "read_rule" = some (some (.ref (a_f69 K))))
def qf49 (K : PySem.W.Frag) : Bool := decide (PySem.W.keepIn K (.ref (a_f69 K)) = true)
def qf50 (K : PySem.W.Frag) : Bool := decide (PySem.W.nsIn K mainGlobals "read_property" = some (some (.ref (a_f64 K))))
def qf51 (K : PySem.W.Frag) : Bool := decide (PySem.W.keepIn K (.ref (a_f64 K)) = true)
def qf52 (K : PySem.W.Frag) : Bool := decide (PySem.W.nsIn K mainGlobals "head_text" = some (some (.ref (a_f72 K))))
def qf53 (K : PySem.W.Frag) : Bool := decide (PySem.W.keepIn K (.ref (a_f72 K)) = true)
def qf54 (K : PySem.W.Frag) : Bool := decide (PySem.W.nsIn K mainGlobals "rule_text" = some (some (.ref (a_f71 K))))
def qf55 (K : PySem.W.Frag) : Bool := decide (PySem.W.keepIn K (.ref (a_f71 K)) = true)
def qf56 (K : PySem.W.Frag) : Bool := decide (PySem.W.nsIn K mainGlobals "is_name" = some (some (.ref (a_f6 K))))
def qf57 (K : PySem.W.Frag) : Bool := decide (PySem.W.keepIn K (.ref (a_f6 K)) = true)
def qf58 (K : PySem.W.Frag) : Bool := decide (PySem.W.nsIn K mainGlobals "is_word" = some (some (.ref (a_f7 K))))
def qf59 (K : PySem.W.Frag) : Bool := decide (PySem.W.keepIn K (.ref (a_f7 K)) = true)
def qf60 (K : PySem.W.Frag) : Bool := decide (PySem.W.nsIn K mainGlobals "is_made_of" = some (some (.ref (a_f5 K))))
def qf61 (K : PySem.W.Frag) : Bool := decide (PySem.W.keepIn K (.ref (a_f5 K)) = true)
def qf62 (K : PySem.W.Frag) : Bool := decide (PySem.W.nsIn K mainGlobals "layer_of" = some (some (.ref (a_f68 K))))
def qf63 (K : PySem.W.Frag) : Bool := decide (PySem.W.keepIn K (.ref (a_f68 K)) = true)
def qf64 (K : PySem.W.Frag) : Bool := decide (PySem.W.nsIn K mainGlobals "read_selectors" = some (some (.ref (a_f67 K))))
def qf65 (K : PySem.W.Frag) : Bool := decide (PySem.W.keepIn K (.ref (a_f67 K)) = true)
def qf66 (K : PySem.W.Frag) : Bool := decide (PySem.W.nsIn K mainGlobals "read_declaration" = some (some (.ref (a_f66 K))))
def qf67 (K : PySem.W.Frag) : Bool := decide (PySem.W.keepIn K (.ref (a_f66 K)) = true)
def qf68 (K : PySem.W.Frag) : Bool := decide (PySem.W.nsIn K mainGlobals "read_value" = some (some (.ref (a_f65 K))))
def qf69 (K : PySem.W.Frag) : Bool := decide (PySem.W.keepIn K (.ref (a_f65 K)) = true)
def qf70 (K : PySem.W.Frag) : Bool := decide (PySem.W.nsIn K mainGlobals "chain_text" = some (some (.ref (a_f28 K))))
def qf71 (K : PySem.W.Frag) : Bool := decide (PySem.W.keepIn K (.ref (a_f28 K)) = true)
def qf72 (K : PySem.W.Frag) : Bool := decide (PySem.W.nsIn K mainGlobals "part_text" = some (some (.ref (a_f27 K))))
def qf73 (K : PySem.W.Frag) : Bool := decide (PySem.W.keepIn K (.ref (a_f27 K)) = true)
def qf74 (K : PySem.W.Frag) : Bool := decide (PySem.W.plainGet K (a_C5 K) Str.empty = true)
def qf75 (K : PySem.W.Frag) : Bool := decide (PySem.W.hasDictIn K (a_C5 K) = true)
def qf76 (K : PySem.W.Frag) : Bool := decide (PySem.W.plainOver K (a_C5 K) = true)
def qf77 (K : PySem.W.Frag) : Bool := decide (PySem.W.findIn K (.ref (a_C5 K)) "__setattr__" = some (some (.builtin "object.__setattr__")))
def qf78 (K : PySem.W.Frag) : Bool := decide (PySem.W.plainGet K (a_C8 K) Str.empty = true)
def qf79 (K : PySem.W.Frag) : Bool := decide (PySem.W.hasDictIn K (a_C8 K) = true)
def qf80 (K : PySem.W.Frag) : Bool := decide (PySem.W.plainOver K (a_C8 K) = true)
def qf81 (K : PySem.W.Frag) : Bool := decide (PySem.W.findIn K (.ref (a_C8 K)) "__setattr__" = some (some (.builtin "object.__setattr__")))
def qf82 (K : PySem.W.Frag) : Bool := decide (PySem.W.findIn K (.ref (a_C5 K)) "spot" = some none)
def qf83 (K : PySem.W.Frag) : Bool := decide (PySem.W.findIn K (.ref (a_C8 K)) "spot" = some none)
def qf84 (K : PySem.W.Frag) : Bool := decide (PySem.W.findIn K (.ref (a_C5 K)) "source" = some none)
def qf85 (K : PySem.W.Frag) : Bool := decide (PySem.W.findIn K (.ref (a_C8 K)) "source" = some none)
def qf86 (K : PySem.W.Frag) : Bool := decide (PySem.W.plainGet K (a_C15 K) Str.empty = true)
def qf87 (K : PySem.W.Frag) : Bool := decide (PySem.W.isClsIn K (a_C15 K) = true)
def qf88 (K : PySem.W.Frag) : Bool := decide (PySem.W.plainOver K (a_C15 K) = true)
def qf89 (K : PySem.W.Frag) : Bool := decide (PySem.W.findIn K (.ref (a_C15 K)) "__setattr__" = some (some (.builtin "object.__setattr__")))
def qf90 (K : PySem.W.Frag) : Bool := decide (PySem.W.plainGet K (a_C16 K) Str.empty = true)
def qf91 (K : PySem.W.Frag) : Bool := decide (PySem.W.isClsIn K (a_C16 K) = true)
def qf92 (K : PySem.W.Frag) : Bool := decide (PySem.W.plainOver K (a_C16 K) = true)
def qf93 (K : PySem.W.Frag) : Bool := decide (PySem.W.findIn K (.ref (a_C16 K)) "__setattr__" = some (some (.builtin "object.__setattr__")))
def qf94 (K : PySem.W.Frag) : Bool := decide (PySem.W.plainGet K (a_C11 K) Str.empty = true)
def qf95 (K : PySem.W.Frag) : Bool := decide (PySem.W.isClsIn K (a_C11 K) = true)
def qf96 (K : PySem.W.Frag) : Bool := decide (PySem.W.plainOver K (a_C11 K) = true)
def qf97 (K : PySem.W.Frag) : Bool := decide (PySem.W.findIn K (.ref (a_C11 K)) "__setattr__" = some (some (.builtin "object.__setattr__")))
def qf98 (K : PySem.W.Frag) : Bool := decide (PySem.W.plainGet K (a_C14 K) Str.empty = true)
def qf99 (K : PySem.W.Frag) : Bool := decide (PySem.W.isClsIn K (a_C14 K) = true)
def qf100 (K : PySem.W.Frag) : Bool := decide (PySem.W.plainOver K (a_C14 K) = true)
def qf101 (K : PySem.W.Frag) : Bool := decide (PySem.W.findIn K (.ref (a_C14 K)) "__setattr__" = some (some (.builtin "object.__setattr__")))
def qf102 (K : PySem.W.Frag) : Bool := decide (PySem.W.plainGet K (a_C7 K) Str.empty = true)
def qf103 (K : PySem.W.Frag) : Bool := decide (PySem.W.isClsIn K (a_C7 K) = true)
def qf104 (K : PySem.W.Frag) : Bool := decide (PySem.W.plainOver K (a_C7 K) = true)
def qf105 (K : PySem.W.Frag) : Bool := decide (PySem.W.findIn K (.ref (a_C7 K)) "__setattr__" = some (some (.builtin "object.__setattr__")))
def qf106 (K : PySem.W.Frag) : Bool := decide (PySem.W.plainGet K (a_C6 K) Str.empty = true)
def qf107 (K : PySem.W.Frag) : Bool := decide (PySem.W.isClsIn K (a_C6 K) = true)
def qf108 (K : PySem.W.Frag) : Bool := decide (PySem.W.plainOver K (a_C6 K) = true)
def qf109 (K : PySem.W.Frag) : Bool := decide (PySem.W.findIn K (.ref (a_C6 K)) "__setattr__" = some (some (.builtin "object.__setattr__")))
def qf110 (K : PySem.W.Frag) : Bool := decide (PySem.W.findIn K (.ref (a_C15 K)) "selectors" = some (some (.ref (He.ma K (a_C15 K) "selectors"))))
def qf111 (K : PySem.W.Frag) : Bool := decide (PySem.W.specialIn K (.ref (He.ma K (a_C15 K) "selectors")) "__get__" = some (some (.builtin "member_descriptor.__get__")))
def qf112 (K : PySem.W.Frag) : Bool := decide (PySem.W.takesIn K (.ref (He.ma K (a_C15 K) "selectors")) = some true)
def qf113 (K : PySem.W.Frag) : Bool := decide (PySem.W.typeIn K (.ref (He.ma K (a_C15 K) "selectors")) = some (.type "member_descriptor"))
def qf114 (K : PySem.W.Frag) : Bool := decide (PySem.W.slotIn K (He.ma K (a_C15 K) "selectors") (a_C15 K) = some 2)
def qf115 (K : PySem.W.Frag) : Bool := decide (PySem.W.findIn K (.ref (a_C15 K)) "declarations" = some (some (.ref (He.ma K (a_C15 K) "declarations"))))
def qf116 (K : PySem.W.Frag) : Bool := decide (PySem.W.specialIn K (.ref (He.ma K (a_C15 K) "declarations")) "__get__" = some (some (.builtin "member_descriptor.__get__")))
def qf117 (K : PySem.W.Frag) : Bool := decide (PySem.W.takesIn K (.ref (He.ma K (a_C15 K) "declarations")) = some true)
def qf118 (K : PySem.W.Frag) : Bool := decide (PySem.W.typeIn K (.ref (He.ma K (a_C15 K) "declarations")) = some (.type "member_descriptor"))
def qf119 (K : PySem.W.Frag) : Bool := decide (PySem.W.slotIn K (He.ma K (a_C15 K) "declarations") (a_C15 K) = some 0)
def qf120 (K : PySem.W.Frag) : Bool := decide (PySem.W.findIn K (.ref (a_C16 K)) "heads" = some (some (.ref (He.ma K (a_C16 K) "heads"))))
def qf121 (K : PySem.W.Frag) : Bool := decide (PySem.W.specialIn K (.ref (He.ma K (a_C16 K) "heads")) "__get__" = some (some (.builtin "member_descriptor.__get__")))
def qf122 (K : PySem.W.Frag) : Bool := decide (PySem.W.takesIn K (.ref (He.ma K (a_C16 K) "heads")) = some true)
def qf123 (K : PySem.W.Frag) : Bool := decide (PySem.W.typeIn K (.ref (He.ma K (a_C16 K) "heads")) = some (.type "member_descriptor"))
def qf124 (K : PySem.W.Frag) : Bool := decide (PySem.W.slotIn K (He.ma K (a_C16 K) "heads") (a_C16 K) = some 1)
def qf125 (K : PySem.W.Frag) : Bool := decide (PySem.W.findIn K (.ref (a_C16 K)) "entries" = some (some (.ref (He.ma K (a_C16 K) "entries"))))
def qf126 (K : PySem.W.Frag) : Bool := decide (PySem.W.specialIn K (.ref (He.ma K (a_C16 K) "entries")) "__get__" = some (some (.builtin "member_descriptor.__get__")))
def qf127 (K : PySem.W.Frag) : Bool := decide (PySem.W.takesIn K (.ref (He.ma K (a_C16 K) "entries")) = some true)
def qf128 (K : PySem.W.Frag) : Bool := decide (PySem.W.typeIn K (.ref (He.ma K (a_C16 K) "entries")) = some (.type "member_descriptor"))
def qf129 (K : PySem.W.Frag) : Bool := decide (PySem.W.slotIn K (He.ma K (a_C16 K) "entries") (a_C16 K) = some 0)
def qf130 (K : PySem.W.Frag) : Bool := decide (PySem.W.findIn K (.ref (a_C16 K)) "written" = some (some (.ref (He.ma K (a_C16 K) "written"))))
def qf131 (K : PySem.W.Frag) : Bool := decide (PySem.W.specialIn K (.ref (He.ma K (a_C16 K) "written")) "__get__" = some (some (.builtin "member_descriptor.__get__")))
def qf132 (K : PySem.W.Frag) : Bool := decide (PySem.W.takesIn K (.ref (He.ma K (a_C16 K) "written")) = some true)
def qf133 (K : PySem.W.Frag) : Bool := decide (PySem.W.typeIn K (.ref (He.ma K (a_C16 K) "written")) = some (.type "member_descriptor"))
def qf134 (K : PySem.W.Frag) : Bool := decide (PySem.W.slotIn K (He.ma K (a_C16 K) "written") (a_C16 K) = some 2)
def qf135 (K : PySem.W.Frag) : Bool := decide (PySem.W.findIn K (.ref (a_C15 K)) "layer" = some (some (.ref (He.ma K (a_C15 K) "layer"))))
def qf136 (K : PySem.W.Frag) : Bool := decide (PySem.W.specialIn K (.ref (He.ma K (a_C15 K) "layer")) "__get__" = some (some (.builtin "member_descriptor.__get__")))
def qf137 (K : PySem.W.Frag) : Bool := decide (PySem.W.takesIn K (.ref (He.ma K (a_C15 K) "layer")) = some true)
def qf138 (K : PySem.W.Frag) : Bool := decide (PySem.W.typeIn K (.ref (He.ma K (a_C15 K) "layer")) = some (.type "member_descriptor"))
def qf139 (K : PySem.W.Frag) : Bool := decide (PySem.W.slotIn K (He.ma K (a_C15 K) "layer") (a_C15 K) = some 1)
def qf140 (K : PySem.W.Frag) : Bool := decide (PySem.W.findIn K (.ref (a_C11 K)) "written" = some (some (.ref (He.ma K (a_C11 K) "written"))))
def qf141 (K : PySem.W.Frag) : Bool := decide (PySem.W.specialIn K (.ref (He.ma K (a_C11 K) "written")) "__get__" = some (some (.builtin "member_descriptor.__get__")))
def qf142 (K : PySem.W.Frag) : Bool := decide (PySem.W.takesIn K (.ref (He.ma K (a_C11 K) "written")) = some true)
def qf143 (K : PySem.W.Frag) : Bool := decide (PySem.W.typeIn K (.ref (He.ma K (a_C11 K) "written")) = some (.type "member_descriptor"))
def qf144 (K : PySem.W.Frag) : Bool := decide (PySem.W.slotIn K (He.ma K (a_C11 K) "written") (a_C11 K) = some 1)
def qf145 (K : PySem.W.Frag) : Bool := decide (PySem.W.findIn K (.ref (a_C14 K)) "default" = some (some (.ref (He.ma K (a_C14 K) "default"))))
def qf146 (K : PySem.W.Frag) : Bool := decide (PySem.W.specialIn K (.ref (He.ma K (a_C14 K) "default")) "__get__" = some (some (.builtin "member_descriptor.__get__")))
def qf147 (K : PySem.W.Frag) : Bool := decide (PySem.W.takesIn K (.ref (He.ma K (a_C14 K) "default")) = some true)
def qf148 (K : PySem.W.Frag) : Bool := decide (PySem.W.typeIn K (.ref (He.ma K (a_C14 K) "default")) = some (.type "member_descriptor"))
def qf149 (K : PySem.W.Frag) : Bool := decide (PySem.W.slotIn K (He.ma K (a_C14 K) "default") (a_C14 K) = some 0)
def qf150 (K : PySem.W.Frag) : Bool := decide (PySem.W.findIn K (.ref (a_C14 K)) "word" = some (some (.ref (He.ma K (a_C14 K) "word"))))
def qf151 (K : PySem.W.Frag) : Bool := decide (PySem.W.specialIn K (.ref (He.ma K (a_C14 K) "word")) "__get__" = some (some (.builtin "member_descriptor.__get__")))
def qf152 (K : PySem.W.Frag) : Bool := decide (PySem.W.takesIn K (.ref (He.ma K (a_C14 K) "word")) = some true)
def qf153 (K : PySem.W.Frag) : Bool := decide (PySem.W.typeIn K (.ref (He.ma K (a_C14 K) "word")) = some (.type "member_descriptor"))
def qf154 (K : PySem.W.Frag) : Bool := decide (PySem.W.slotIn K (He.ma K (a_C14 K) "word") (a_C14 K) = some 2)
def qf155 (K : PySem.W.Frag) : Bool := decide (PySem.W.findIn K (.ref (a_C14 K)) "name" = some (some (.ref (He.ma K (a_C14 K) "name"))))
def qf156 (K : PySem.W.Frag) : Bool := decide (PySem.W.specialIn K (.ref (He.ma K (a_C14 K) "name")) "__get__" = some (some (.builtin "member_descriptor.__get__")))
def qf157 (K : PySem.W.Frag) : Bool := decide (PySem.W.takesIn K (.ref (He.ma K (a_C14 K) "name")) = some true)
def qf158 (K : PySem.W.Frag) : Bool := decide (PySem.W.typeIn K (.ref (He.ma K (a_C14 K) "name")) = some (.type "member_descriptor"))
def qf159 (K : PySem.W.Frag) : Bool := decide (PySem.W.slotIn K (He.ma K (a_C14 K) "name") (a_C14 K) = some 1)
def qf160 (K : PySem.W.Frag) : Bool := decide (PySem.W.findIn K (.ref (a_C11 K)) "chain" = some (some (.ref (He.ma K (a_C11 K) "chain"))))
def qf161 (K : PySem.W.Frag) : Bool := decide (PySem.W.specialIn K (.ref (He.ma K (a_C11 K) "chain")) "__get__" = some (some (.builtin "member_descriptor.__get__")))
def qf162 (K : PySem.W.Frag) : Bool := decide (PySem.W.takesIn K (.ref (He.ma K (a_C11 K) "chain")) = some true)
def qf163 (K : PySem.W.Frag) : Bool := decide (PySem.W.typeIn K (.ref (He.ma K (a_C11 K) "chain")) = some (.type "member_descriptor"))
def qf164 (K : PySem.W.Frag) : Bool := decide (PySem.W.slotIn K (He.ma K (a_C11 K) "chain") (a_C11 K) = some 0)
def qf165 (K : PySem.W.Frag) : Bool := decide (PySem.W.findIn K (.ref (a_C7 K)) "compounds" = some (some (.ref (He.ma K (a_C7 K) "compounds"))))
def qf166 (K : PySem.W.Frag) : Bool := decide (PySem.W.specialIn K (.ref (He.ma K (a_C7 K) "compounds")) "__get__" = some (some (.builtin "member_descriptor.__get__")))
def qf167 (K : PySem.W.Frag) : Bool := decide (PySem.W.takesIn K (.ref (He.ma K (a_C7 K) "compounds")) = some true)
def qf168 (K : PySem.W.Frag) : Bool := decide (PySem.W.typeIn K (.ref (He.ma K (a_C7 K) "compounds")) = some (.type "member_descriptor"))
def qf169 (K : PySem.W.Frag) : Bool := decide (PySem.W.slotIn K (He.ma K (a_C7 K) "compounds") (a_C7 K) = some 0)
def qf170 (K : PySem.W.Frag) : Bool := decide (PySem.W.findIn K (.ref (a_C6 K)) "parts" = some (some (.ref (He.ma K (a_C6 K) "parts"))))
def qf171 (K : PySem.W.Frag) : Bool := decide (PySem.W.specialIn K (.ref (He.ma K (a_C6 K) "parts")) "__get__" = some (some (.builtin "member_descriptor.__get__")))
def qf172 (K : PySem.W.Frag) : Bool := decide (PySem.W.takesIn K (.ref (He.ma K (a_C6 K) "parts")) = some true)
def qf173 (K : PySem.W.Frag) : Bool := decide (PySem.W.typeIn K (.ref (He.ma K (a_C6 K) "parts")) = some (.type "member_descriptor"))
def qf174 (K : PySem.W.Frag) : Bool := decide (PySem.W.slotIn K (He.ma K (a_C6 K) "parts") (a_C6 K) = some 1)
def qf175 (K : PySem.W.Frag) : Bool := decide (PySem.W.findIn K (.ref (a_C7 K)) "joins" = some (some (.ref (He.ma K (a_C7 K) "joins"))))
def qf176 (K : PySem.W.Frag) : Bool := decide (PySem.W.specialIn K (.ref (He.ma K (a_C7 K) "joins")) "__get__" = some (some (.builtin "member_descriptor.__get__")))
def qf177 (K : PySem.W.Frag) : Bool := decide (PySem.W.takesIn K (.ref (He.ma K (a_C7 K) "joins")) = some true)
def qf178 (K : PySem.W.Frag) : Bool := decide (PySem.W.typeIn K (.ref (He.ma K (a_C7 K) "joins")) = some (.type "member_descriptor"))
def qf179 (K : PySem.W.Frag) : Bool := decide (PySem.W.slotIn K (He.ma K (a_C7 K) "joins") (a_C7 K) = some 1)
def qf180 (K : PySem.W.Frag) : Bool := decide (PySem.W.findIn K (.ref (a_C6 K)) "own_kind" = some (some (.ref (He.ma K (a_C6 K) "own_kind"))))
def qf181 (K : PySem.W.Frag) : Bool := decide (PySem.W.specialIn K (.ref (He.ma K (a_C6 K) "own_kind")) "__get__" = some (some (.builtin "member_descriptor.__get__")))
def qf182 (K : PySem.W.Frag) : Bool := decide (PySem.W.takesIn K (.ref (He.ma K (a_C6 K) "own_kind")) = some true)
def qf183 (K : PySem.W.Frag) : Bool := decide (PySem.W.typeIn K (.ref (He.ma K (a_C6 K) "own_kind")) = some (.type "member_descriptor"))
def qf184 (K : PySem.W.Frag) : Bool := decide (PySem.W.slotIn K (He.ma K (a_C6 K) "own_kind") (a_C6 K) = some 0)
def qf185 (K : PySem.W.Frag) : Bool := decide (PySem.W.findIn K (.ref (a_C11 K)) "compound_total" = some (some (.ref (a_f48 K))))
def qf186 (K : PySem.W.Frag) : Bool := decide (PySem.W.isFn K (.ref (a_f48 K)) = true)
def qf187 (K : PySem.W.Frag) : Bool := decide (PySem.W.keepIn K (.ref (a_f48 K)) = true)
def qf188 (K : PySem.W.Frag) : Bool := decide (PySem.W.findIn K (.ref (a_C5 K)) "skip_blanks" = some (some (.ref (a_f15 K))))
def qf189 (K : PySem.W.Frag) : Bool := decide (PySem.W.isFn K (.ref (a_f15 K)) = true)
def qf190 (K : PySem.W.Frag) : Bool := decide (PySem.W.keepIn K (.ref (a_f15 K)) = true)
def qf191 (K : PySem.W.Frag) : Bool := decide (PySem.W.findIn K (.ref (a_C8 K)) "skip_blanks" = some (some (.ref (a_f15 K))))
def qf192 (K : PySem.W.Frag) : Bool := decide (PySem.W.findIn K (.ref (a_C8 K)) "read_chain" = some (some (.ref (a_f19 K))))
def qf193 (K : PySem.W.Frag) : Bool := decide (PySem.W.isFn K (.ref (a_f19 K)) = true)
def qf194 (K : PySem.W.Frag) : Bool := decide (PySem.W.keepIn K (.ref (a_f19 K)) = true)
def qf195 (K : PySem.W.Frag) : Bool := decide (PySem.W.findIn K (.ref (a_C5 K)) "is_sign" = some (some (.ref (a_f11 K))))
def qf196 (K : PySem.W.Frag) : Bool := decide (PySem.W.isFn K (.ref (a_f11 K)) = true)
def qf197 (K : PySem.W.Frag) : Bool := decide (PySem.W.keepIn K (.ref (a_f11 K)) = true)
def qf198 (K : PySem.W.Frag) : Bool := decide (PySem.W.findIn K (.ref (a_C8 K)) "is_sign" = some (some (.ref (a_f11 K))))
def qf199 (K : PySem.W.Frag) : Bool := decide (PySem.W.findIn K (.ref (a_C5 K)) "need_end" = some (some (.ref (a_f16 K))))
def qf200 (K : PySem.W.Frag) : Bool := decide (PySem.W.isFn K (.ref (a_f16 K)) = true)
def qf201 (K : PySem.W.Frag) : Bool := decide (PySem.W.keepIn K (.ref (a_f16 K)) = true)
def qf202 (K : PySem.W.Frag) : Bool := decide (PySem.W.findIn K (.ref (a_C8 K)) "need_end" = some (some (.ref (a_f16 K))))
def qf203 (K : PySem.W.Frag) : Bool := decide (PySem.W.findIn K (.ref (a_C5 K)) "fail" = some (some (.ref (a_f9 K))))
def qf204 (K : PySem.W.Frag) : Bool := decide (PySem.W.isFn K (.ref (a_f9 K)) = true)
def qf205 (K : PySem.W.Frag) : Bool := decide (PySem.W.keepIn K (.ref (a_f9 K)) = true)
def qf206 (K : PySem.W.Frag) : Bool := decide (PySem.W.findIn K (.ref (a_C8 K)) "fail" = some (some (.ref (a_f9 K))))
def qf207 (K : PySem.W.Frag) : Bool := decide (PySem.W.findIn K (.ref (a_C5 K)) "peek" = some (some (.ref (a_f10 K))))
def qf208 (K : PySem.W.Frag) : Bool := decide (PySem.W.isFn K (.ref (a_f10 K)) = true)
def qf209 (K : PySem.W.Frag) : Bool := decide (PySem.W.keepIn K (.ref (a_f10 K)) = true)
def qf210 (K : PySem.W.Frag) : Bool := decide (PySem.W.findIn K (.ref (a_C8 K)) "peek" = some (some (.ref (a_f10 K))))
def qf211 (K : PySem.W.Frag) : Bool := decide (PySem.W.findIn K (.ref (a_C8 K)) "read_compound" = some (some (.ref (a_f21 K))))
def qf212 (K : PySem.W.Frag) : Bool := decide (PySem.W.isFn K (.ref (a_f21 K)) = true)
def qf213 (K : PySem.W.Frag) : Bool := decide (PySem.W.keepIn K (.ref (a_f21 K)) = true)
def qf214 (K : PySem.W.Frag) : Bool := decide (PySem.W.findIn K (.ref (a_C8 K)) "read_join" = some (some (.ref (a_f20 K))))
def qf215 (K : PySem.W.Frag) : Bool := decide (PySem.W.isFn K (.ref (a_f20 K)) = true)
def qf216 (K : PySem.W.Frag) : Bool := decide (PySem.W.keepIn K (.ref (a_f20 K)) = true)
def qf217 (K : PySem.W.Frag) : Bool := decide (PySem.W.findIn K (.ref (a_C5 K)) "is_start" = some (some (.ref (a_f13 K))))
def qf218 (K : PySem.W.Frag) : Bool := decide (PySem.W.isFn K (.ref (a_f13 K)) = true)
def qf219 (K : PySem.W.Frag) : Bool := decide (PySem.W.keepIn K (.ref (a_f13 K)) = true)
def qf220 (K : PySem.W.Frag) : Bool := decide (PySem.W.findIn K (.ref (a_C8 K)) "is_start" = some (some (.ref (a_f13 K))))
def qf221 (K : PySem.W.Frag) : Bool := decide (PySem.W.findIn K (.ref (a_C5 K)) "read_name" = some (some (.ref (a_f14 K))))
def qf222 (K : PySem.W.Frag) : Bool := decide (PySem.W.isFn K (.ref (a_f14 K)) = true)
def qf223 (K : PySem.W.Frag) : Bool := decide (PySem.W.keepIn K (.ref (a_f14 K)) = true)
def qf224 (K : PySem.W.Frag) : Bool := decide (PySem.W.findIn K (.ref (a_C8 K)) "read_name" = some (some (.ref (a_f14 K))))
def qf225 (K : PySem.W.Frag) : Bool := decide (PySem.W.findIn K (.ref (a_C8 K)) "read_part" = some (some (.ref (a_f22 K))))
def qf226 (K : PySem.W.Frag) : Bool := decide (PySem.W.isFn K (.ref (a_f22 K)) = true)
def qf227 (K : PySem.W.Frag) : Bool := decide (PySem.W.keepIn K (.ref (a_f22 K)) = true)
def qf228 (K : PySem.W.Frag) : Bool := decide (PySem.W.findIn K (.ref (a_C5 K)) "need" = some (some (.ref (a_f12 K))))
def qf229 (K : PySem.W.Frag) : Bool := decide (PySem.W.isFn K (.ref (a_f12 K)) = true)
def qf230 (K : PySem.W.Frag) : Bool := decide (PySem.W.keepIn K (.ref (a_f12 K)) = true)
def qf231 (K : PySem.W.Frag) : Bool := decide (PySem.W.findIn K (.ref (a_C8 K)) "need" = some (some (.ref (a_f12 K))))
def qf232 (K : PySem.W.Frag) : Bool := decide (PySem.W.findIn K (.ref (a_C8 K)) "nth" = some (some (.ref (a_f23 K))))
def qf233 (K : PySem.W.Frag) : Bool := decide (PySem.W.isFn K (.ref (a_f23 K)) = true)
def qf234 (K : PySem.W.Frag) : Bool := decide (PySem.W.keepIn K (.ref (a_f23 K)) = true)
def qf235 (K : PySem.W.Frag) : Bool := decide (PySem.W.findIn K (.ref (a_C8 K)) "negation" = some (some (.ref (a_f25 K))))
def qf236 (K : PySem.W.Frag) : Bool := decide (PySem.W.isFn K (.ref (a_f25 K)) = true)
def qf237 (K : PySem.W.Frag) : Bool := decide (PySem.W.keepIn K (.ref (a_f25 K)) = true)
def qf238 (K : PySem.W.Frag) : Bool := decide (PySem.W.findIn K (.ref (a_C8 K)) "relation" = some (some (.ref (a_f26 K))))
def qf239 (K : PySem.W.Frag) : Bool := decide (PySem.W.isFn K (.ref (a_f26 K)) = true)
def qf240 (K : PySem.W.Frag) : Bool := decide (PySem.W.keepIn K (.ref (a_f26 K)) = true)
def qf241 (K : PySem.W.Frag) : Bool := decide (PySem.W.findIn K (.ref (a_C8 K)) "digit" = some (some (.ref (a_f24 K))))
def qf242 (K : PySem.W.Frag) : Bool := decide (PySem.W.isFn K (.ref (a_f24 K)) = true)
def qf243 (K : PySem.W.Frag) : Bool := decide (PySem.W.keepIn K (.ref (a_f24 K)) = true)
def qf244 (K : PySem.W.Frag) : Bool := decide (PySem.W.makesIn K (a_C16 K) = true)
def qf245 (K : PySem.W.Frag) : Bool := decide (PySem.W.findIn K (.ref (a_C16 K)) "__init__" = some (some (.ref (a_f73 K))))
def qf246 (K : PySem.W.Frag) : Bool := decide (PySem.W.isFn K (.ref (a_f73 K)) = true)
def qf247 (K : PySem.W.Frag) : Bool := decide (PySem.W.keepIn K (.ref (a_C16 K)) = true)
def qf248 (K : PySem.W.Frag) : Bool := decide (PySem.W.makesIn K (a_C14 K) = true)
def qf249 (K : PySem.W.Frag) : Bool := decide (PySem.W.findIn K (.ref (a_C14 K)) "__init__" = some (some (.ref (a_f62 K))))
def qf250 (K : PySem.W.Frag) : Bool := decide (PySem.W.isFn K (.ref (a_f62 K)) = true)
def qf251 (K : PySem.W.Frag) : Bool := decide (PySem.W.keepIn K (.ref (a_C14 K)) = true)
def qf252 (K : PySem.W.Frag) : Bool := decide (PySem.W.makesIn K (a_C15 K) = true)
def qf253 (K : PySem.W.Frag) : Bool := decide (PySem.W.findIn K (.ref (a_C15 K)) "__init__" = some (some (.ref (a_f63 K))))
def qf254 (K : PySem.W.Frag) : Bool := decide (PySem.W.isFn K (.ref (a_f63 K)) = true)
def qf255 (K : PySem.W.Frag) : Bool := decide (PySem.W.keepIn K (.ref (a_C15 K)) = true)
def qf256 (K : PySem.W.Frag) : Bool := decide (PySem.W.makesIn K (a_C8 K) = true)
def qf257 (K : PySem.W.Frag) : Bool := decide (PySem.W.findIn K (.ref (a_C8 K)) "__init__" = some (some (.ref (a_f8 K))))
def qf258 (K : PySem.W.Frag) : Bool := decide (PySem.W.isFn K (.ref (a_f8 K)) = true)
def qf259 (K : PySem.W.Frag) : Bool := decide (PySem.W.keepIn K (.ref (a_C8 K)) = true)
def qf260 (K : PySem.W.Frag) : Bool := decide (PySem.W.makesIn K (a_C11 K) = true)
def qf261 (K : PySem.W.Frag) : Bool := decide (PySem.W.findIn K (.ref (a_C11 K)) "__init__" = some (some (.ref (a_f45 K))))
def qf262 (K : PySem.W.Frag) : Bool := decide (PySem.W.isFn K (.ref (a_f45 K)) = true)
def qf263 (K : PySem.W.Frag) : Bool := decide (PySem.W.keepIn K (.ref (a_C11 K)) = true)
def qf264 (K : PySem.W.Frag) : Bool := decide (PySem.W.makesIn K (a_C7 K) = true)
def qf265 (K : PySem.W.Frag) : Bool := decide (PySem.W.findIn K (.ref (a_C7 K)) "__init__" = some (some (.ref (a_f18 K))))
def qf266 (K : PySem.W.Frag) : Bool := decide (PySem.W.isFn K (.ref (a_f18 K)) = true)
def qf267 (K : PySem.W.Frag) : Bool := decide (PySem.W.keepIn K (.ref (a_C7 K)) = true)
def qf268 (K : PySem.W.Frag) : Bool := decide (PySem.W.makesIn K (a_C6 K) = true)
def qf269 (K : PySem.W.Frag) : Bool := decide (PySem.W.findIn K (.ref (a_C6 K)) "__init__" = some (some (.ref (a_f17 K))))
def qf270 (K : PySem.W.Frag) : Bool := decide (PySem.W.isFn K (.ref (a_f17 K)) = true)
def qf271 (K : PySem.W.Frag) : Bool := decide (PySem.W.keepIn K (.ref (a_C6 K)) = true)
def qf272 (K : PySem.W.Frag) : Bool := decide (PySem.W.findIn K (.ref (a_C11 K)) "text" = some (some (.ref (He.ma K (a_C11 K) "text"))))
def qf273 (K : PySem.W.Frag) : Bool := decide (PySem.W.specialIn K (.ref (He.ma K (a_C11 K) "text")) "__get__" = some (some (.builtin "property.__get__")))
def qf274 (K : PySem.W.Frag) : Bool := decide (PySem.W.takesIn K (.ref (He.ma K (a_C11 K) "text")) = some true)
def qf275 (K : PySem.W.Frag) : Bool := decide (PySem.W.recIn K (He.ma K (a_C11 K) "text") "property" = some (.ref (a_f46 K) :: (prrY K (He.ma K (a_C11 K) "text"))))
def qf276 (K : PySem.W.Frag) : Bool := excY K (a_C1 K) [.type "ValueError", .type "Exception", .type "BaseException", .type "object"] "ValueError.__new__"
def qf277 (K : PySem.W.Frag) : Bool := initY K (a_fI1 K) (a_C1 K) "ParseError.__init__" (R.prog.main.file : Str)
def qf278 (K : PySem.W.Frag) : Bool := decide (PySem.W.findIn K (.ref (a_C1 K)) "__init__" = some (some (.ref (a_fI1 K))))
def qf279 (K : PySem.W.Frag) : Bool := decide (PySem.W.nsIn K mainGlobals "super" = some none)
def qf280 (K : PySem.W.Frag) : Bool := decide (PySem.W.findIn K (.ref (a_C1 K)) "__setattr__" = some (some (.builtin "object.__setattr__")))
def qf281 (K : PySem.W.Frag) : Bool := decide (PySem.W.findIn K (.ref (a_C1 K)) "line" = some none)
def qf282 (K : PySem.W.Frag) : Bool := decide (PySem.W.typeIn K (.ref (a_fI1 K)) = some (.type "function"))
def qf283 (K : PySem.W.Frag) : Bool := decide (PySem.W.keepIn K (.ref (a_C1 K)) = true)
def qf284 (K : PySem.W.Frag) : Bool := decide (PySem.W.subIn K (.ref (a_C1 K)) (.type "BaseException") = some true)
def qf285 (K : PySem.W.Frag) : Bool := decide (PySem.W.typeIn K (.ref (a_C1 K)) = some (.type "type"))
def qf286 (K : PySem.W.Frag) : Bool := decide (PySem.W.subIn K (.ref (a_C1 K)) (.type "ValueError") = some true)
def qf287 (K : PySem.W.Frag) : Bool := decide (PySem.W.mroIn K (a_C1 K) (.ref (a_C1 K)) = some true)
def qf288 (K : PySem.W.Frag) : Bool := decide (PySem.W.ks_superIn K (a_C1 K) (a_C1 K) "__init__" = some (some (.builtin "ValueError.__init__")))
def qf289 (K : PySem.W.Frag) : Bool := decide (PySem.W.nsIn K cStatics "thirdparty.any" = some none)
def qf290 (K : PySem.W.Frag) : Bool := excY K (a_C4 K) [.type "OverflowError", .type "ArithmeticError", .type "Exception", .type "BaseException", .type "object"] "OverflowError.__new__"
def qf291 (K : PySem.W.Frag) : Bool := initY K (a_fI4 K) (a_C4 K) "LimitExceeded.__init__" (R.prog.main.file : Str)
def qf292 (K : PySem.W.Frag) : Bool := decide (PySem.W.findIn K (.ref (a_C4 K)) "__init__" = some (some (.ref (a_fI4 K))))
def qf293 (K : PySem.W.Frag) : Bool := decide (PySem.W.findIn K (.ref (a_C4 K)) "__setattr__" = some (some (.builtin "object.__setattr__")))
def qf294 (K : PySem.W.Frag) : Bool := decide (PySem.W.findIn K (.ref (a_C4 K)) "limit" = some none)
def qf295 (K : PySem.W.Frag) : Bool := decide (PySem.W.typeIn K (.ref (a_fI4 K)) = some (.type "function"))
def qf296 (K : PySem.W.Frag) : Bool := decide (PySem.W.keepIn K (.ref (a_C4 K)) = true)
def qf297 (K : PySem.W.Frag) : Bool := decide (PySem.W.subIn K (.ref (a_C4 K)) (.type "BaseException") = some true)
def qf298 (K : PySem.W.Frag) : Bool := decide (PySem.W.typeIn K (.ref (a_C4 K)) = some (.type "type"))
def qf299 (K : PySem.W.Frag) : Bool := decide (PySem.W.subIn K (.ref (a_C4 K)) (.type "OverflowError") = some true)
def qf300 (K : PySem.W.Frag) : Bool := decide (PySem.W.mroIn K (a_C4 K) (.ref (a_C4 K)) = some true)
def qf301 (K : PySem.W.Frag) : Bool := decide (PySem.W.ks_superIn K (a_C4 K) (a_C4 K) "__init__" = some (some (.builtin "OverflowError.__init__")))
def qf302 (K : PySem.W.Frag) : Bool := excY K (a_C2 K) [.type "ValueError", .type "Exception", .type "BaseException", .type "object"] "ValueError.__new__"
def qf303 (K : PySem.W.Frag) : Bool := initY K (a_fI2 K) (a_C2 K) "InvalidText.__init__" (R.prog.main.file : Str)
def qf304 (K : PySem.W.Frag) : Bool := decide (PySem.W.findIn K (.ref (a_C2 K)) "__init__" = some (some (.ref (a_fI2 K))))
def qf305 (K : PySem.W.Frag) : Bool := decide (PySem.W.findIn K (.ref (a_C2 K)) "__setattr__" = some (some (.builtin "object.__setattr__")))
def qf306 (K : PySem.W.Frag) : Bool := decide (PySem.W.findIn K (.ref (a_C2 K)) "value" = some none)
def qf307 (K : PySem.W.Frag) : Bool := decide (PySem.W.typeIn K (.ref (a_fI2 K)) = some (.type "function"))
def qf308 (K : PySem.W.Frag) : Bool := decide (PySem.W.keepIn K (.ref (a_C2 K)) = true)
def qf309 (K : PySem.W.Frag) : Bool := decide (PySem.W.subIn K (.ref (a_C2 K)) (.type "BaseException") = some true)
def qf310 (K : PySem.W.Frag) : Bool := decide (PySem.W.typeIn K (.ref (a_C2 K)) = some (.type "type"))
def qf311 (K : PySem.W.Frag) : Bool := decide (PySem.W.subIn K (.ref (a_C2 K)) (.type "ValueError") = some true)
def qf312 (K : PySem.W.Frag) : Bool := decide (PySem.W.mroIn K (a_C2 K) (.ref (a_C2 K)) = some true)
def qf313 (K : PySem.W.Frag) : Bool := decide (PySem.W.ks_superIn K (a_C2 K) (a_C2 K) "__init__" = some (some (.builtin "ValueError.__init__")))
def qf314 (K : PySem.W.Frag) : Bool := decide (PySem.W.findIn K (.ref (a_C1 K)) "__getattribute__" = some (some (.builtin "BaseException.__getattribute__")))
def qf315 (K : PySem.W.Frag) : Bool := decide (PySem.W.findIn K (.ref (a_C1 K)) "__getattr__" = some none)
def qf316 (K : PySem.W.Frag) : Bool := decide (PySem.W.hasDictIn K (a_C1 K) = true)
def qf317 (K : PySem.W.Frag) : Bool := decide (PySem.W.findIn K (.ref (a_C4 K)) "__getattribute__" = some (some (.builtin "BaseException.__getattribute__")))
def qf318 (K : PySem.W.Frag) : Bool := decide (PySem.W.findIn K (.ref (a_C4 K)) "__getattr__" = some none)
def qf319 (K : PySem.W.Frag) : Bool := decide (PySem.W.hasDictIn K (a_C4 K) = true)
def qf320 (K : PySem.W.Frag) : Bool := decide (PySem.W.findIn K (.ref (a_C1 K)) "__class__" = some (some (.builtin "object.__class__")))
def qf321 (K : PySem.W.Frag) : Bool := decide (PySem.W.specialIn K (.builtin "object.__class__") "__get__" = some (some (.builtin "getset_descriptor.__get__")))
def qf322 (K : PySem.W.Frag) : Bool := decide (PySem.W.takesIn K (.builtin "object.__class__") = some true)
def qf323 (K : PySem.W.Frag) : Bool := decide (PySem.W.mroIn K (a_C1 K) (.type "object") = some true)
def qf324 (K : PySem.W.Frag) : Bool := decide (PySem.W.kitOne K (.ref (a_C1 K)) (.ref (a_C0 K)) = some true)
def qf325 (K : PySem.W.Frag) : Bool := decide (PySem.W.findIn K (.ref (a_C4 K)) "__class__" = some (some (.builtin "object.__class__")))
def qf326 (K : PySem.W.Frag) : Bool := decide (PySem.W.mroIn K (a_C4 K) (.type "object") = some true)
def qf327 (K : PySem.W.Frag) : Bool := decide (PySem.W.kitOne K (.ref (a_C4 K)) (.type "OverflowError") = some true)
def qf328 (K : PySem.W.Frag) : Bool := decide (PySem.W.exmOne K (.ref (a_C1 K)) (.ref (a_C1 K)) = some true)
def qf329 (K : PySem.W.Frag) : Bool := decide (PySem.W.exmOne K (.ref (a_C2 K)) (.ref (a_C1 K)) = some false)
def qf330 (K : PySem.W.Frag) : Bool := decide (PySem.W.exmOne K (.ref (a_C4 K)) (.ref (a_C1 K)) = some false)
def qf331 (K : PySem.W.Frag) : Bool := decide (PySem.W.exmOne K (.ref (a_C1 K)) (.ref (a_C4 K)) = some false)
def qf332 (K : PySem.W.Frag) : Bool := decide (PySem.W.exmOne K (.ref (a_C2 K)) (.ref (a_C4 K)) = some false)
def qf333 (K : PySem.W.Frag) : Bool := decide (PySem.W.exmOne K (.ref (a_C4 K)) (.ref (a_C4 K)) = some true)
def qf334 (K : PySem.W.Frag) : Bool := decide (PySem.W.exmOne K (.ref (a_C1 K)) (.ref (a_C2 K)) = some false)
def qf335 (K : PySem.W.Frag) : Bool := decide (PySem.W.exmOne K (.ref (a_C2 K)) (.ref (a_C2 K)) = some true)
def qf336 (K : PySem.W.Frag) : Bool := decide (PySem.W.exmOne K (.ref (a_C4 K)) (.ref (a_C2 K)) = some false)
def qf337 (K : PySem.W.Frag) : Bool := codeY K (a_f5 K) "is_made_of"
def qf338 (K : PySem.W.Frag) : Bool := decide (dfltY K (a_f5 K) = .none)
def qf339 (K : PySem.W.Frag) : Bool := codeY K (a_f6 K) "is_name"
def qf340 (K : PySem.W.Frag) : Bool := decide (dfltY K (a_f6 K) = .none)
def qf341 (K : PySem.W.Frag) : Bool := codeY K (a_f7 K) "is_word"
def qf342 (K : PySem.W.Frag) : Bool := decide (dfltY K (a_f7 K) = .none)
def qf343 (K : PySem.W.Frag) : Bool := codeY K (a_f8 K) "TextReader.__init__"
def qf344 (K : PySem.W.Frag) : Bool := decide (dfltY K (a_f8 K) = .none)
def qf345 (K : PySem.W.Frag) : Bool := codeY K (a_f9 K) "TextReader.fail"
def qf346 (K : PySem.W.Frag) : Bool := decide (dfltY K (a_f9 K) = .none)
def qf347 (K : PySem.W.Frag) : Bool := codeY K (a_f10 K) "TextReader.peek"
def qf348 (K : PySem.W.Frag) : Bool := decide (dfltY K (a_f10 K) = .none)
def qf349 (K : PySem.W.Frag) : Bool := codeY K (a_f11 K) "TextReader.is_sign"
def qf350 (K : PySem.W.Frag) : Bool := decide (dfltY K (a_f11 K) = .none)
def qf351 (K : PySem.W.Frag) : Bool := codeY K (a_f12 K) "TextReader.need"
def qf352 (K : PySem.W.Frag) : Bool := decide (dfltY K (a_f12 K) = .none)
def qf353 (K : PySem.W.Frag) : Bool := codeY K (a_f13 K) "TextReader.is_start"
def qf354 (K : PySem.W.Frag) : Bool := decide (dfltY K (a_f13 K) = .none)
def qf355 (K : PySem.W.Frag) : Bool := codeY K (a_f14 K) "TextReader.read_name"
def qf356 (K : PySem.W.Frag) : Bool := decide (dfltY K (a_f14 K) = .none)
def qf357 (K : PySem.W.Frag) : Bool := codeY K (a_f15 K) "TextReader.skip_blanks"
def qf358 (K : PySem.W.Frag) : Bool := decide (dfltY K (a_f15 K) = .none)
def qf359 (K : PySem.W.Frag) : Bool := codeY K (a_f16 K) "TextReader.need_end"
def qf360 (K : PySem.W.Frag) : Bool := decide (dfltY K (a_f16 K) = .none)
def qf361 (K : PySem.W.Frag) : Bool := codeY K (a_f17 K) "Compound.__init__"
def qf362 (K : PySem.W.Frag) : Bool := decide (dfltY K (a_f17 K) = .none)
def qf363 (K : PySem.W.Frag) : Bool := codeY K (a_f18 K) "Chain.__init__"
def qf364 (K : PySem.W.Frag) : Bool := decide (dfltY K (a_f18 K) = .none)
def qf365 (K : PySem.W.Frag) : Bool := codeY K (a_f19 K) "SelectorReader.read_chain"
def qf366 (K : PySem.W.Frag) : Bool := decide (dfltY K (a_f19 K) = .none)
def qf367 (K : PySem.W.Frag) : Bool := codeY K (a_f20 K) "SelectorReader.read_join"
def qf368 (K : PySem.W.Frag) : Bool := decide (dfltY K (a_f20 K) = .none)
def qf369 (K : PySem.W.Frag) : Bool := codeY K (a_f21 K) "SelectorReader.read_compound"
def qf370 (K : PySem.W.Frag) : Bool := decide (dfltY K (a_f21 K) = .none)
def qf371 (K : PySem.W.Frag) : Bool := codeY K (a_f22 K) "SelectorReader.read_part"
def qf372 (K : PySem.W.Frag) : Bool := decide (dfltY K (a_f22 K) = (.ref (dtY K (a_f22 K))))
def qf373 (K : PySem.W.Frag) : Bool := defK K (dtY K (a_f22 K)) [some true]
def qf374 (K : PySem.W.Frag) : Bool := codeY K (a_f23 K) "SelectorReader.nth"
def qf375 (K : PySem.W.Frag) : Bool := decide (dfltY K (a_f23 K) = .none)
def qf376 (K : PySem.W.Frag) : Bool := codeY K (a_f24 K) "SelectorReader.digit"
def qf377 (K : PySem.W.Frag) : Bool := decide (dfltY K (a_f24 K) = .none)
def qf378 (K : PySem.W.Frag) : Bool := codeY K (a_f25 K) "SelectorReader.negation"
def qf379 (K : PySem.W.Frag) : Bool := decide (dfltY K (a_f25 K) = .none)
def qf380 (K : PySem.W.Frag) : Bool := codeY K (a_f26 K) "SelectorReader.relation"
def qf381 (K : PySem.W.Frag) : Bool := decide (dfltY K (a_f26 K) = .none)
def qf382 (K : PySem.W.Frag) : Bool := codeY K (a_f27 K) "part_text"
def qf383 (K : PySem.W.Frag) : Bool := decide (dfltY K (a_f27 K) = .none)
def qf384 (K : PySem.W.Frag) : Bool := codeY K (a_f28 K) "chain_text"
def qf385 (K : PySem.W.Frag) : Bool := decide (dfltY K (a_f28 K) = .none)
def qf386 (K : PySem.W.Frag) : Bool := codeY K (a_f45 K) "Selector.__init__"
def qf387 (K : PySem.W.Frag) : Bool := decide (dfltY K (a_f45 K) = .none)
def qf388 (K : PySem.W.Frag) : Bool := codeY K (a_f46 K) "Selector.text"
def qf389 (K : PySem.W.Frag) : Bool := decide (dfltY K (a_f46 K) = .none)
def qf390 (K : PySem.W.Frag) : Bool := codeY K (a_f48 K) "Selector.compound_total"
def qf391 (K : PySem.W.Frag) : Bool := decide (dfltY K (a_f48 K) = .none)
def qf392 (K : PySem.W.Frag) : Bool := codeY K (a_f62 K) "Property.__init__"
def qf393 (K : PySem.W.Frag) : Bool := decide (dfltY K (a_f62 K) = .none)
def qf394 (K : PySem.W.Frag) : Bool := codeY K (a_f63 K) "Rule.__init__"
def qf395 (K : PySem.W.Frag) : Bool := decide (dfltY K (a_f63 K) = .none)
def qf396 (K : PySem.W.Frag) : Bool := codeY K (a_f64 K) "read_property"
def qf397 (K : PySem.W.Frag) : Bool := decide (dfltY K (a_f64 K) = .none)
def qf398 (K : PySem.W.Frag) : Bool := codeY K (a_f65 K) "read_value"
def qf399 (K : PySem.W.Frag) : Bool := decide (dfltY K (a_f65 K) = .none)
def qf400 (K : PySem.W.Frag) : Bool := codeY K (a_f66 K) "read_declaration"
def qf401 (K : PySem.W.Frag) : Bool := decide (dfltY K (a_f66 K) = .none)
def qf402 (K : PySem.W.Frag) : Bool := codeY K (a_f67 K) "read_selectors"
def qf403 (K : PySem.W.Frag) : Bool := decide (dfltY K (a_f67 K) = .none)
def qf404 (K : PySem.W.Frag) : Bool := codeY K (a_f68 K) "layer_of"
def qf405 (K : PySem.W.Frag) : Bool := decide (dfltY K (a_f68 K) = .none)
def qf406 (K : PySem.W.Frag) : Bool := codeY K (a_f69 K) "read_rule"
def qf407 (K : PySem.W.Frag) : Bool := decide (dfltY K (a_f69 K) = .none)
def qf408 (K : PySem.W.Frag) : Bool := codeY K (a_f70 K) "parse_sheet"
def qf409 (K : PySem.W.Frag) : Bool := decide (dfltY K (a_f70 K) = .none)
def qf410 (K : PySem.W.Frag) : Bool := codeY K (a_f71 K) "rule_text"
def qf411 (K : PySem.W.Frag) : Bool := decide (dfltY K (a_f71 K) = .none)
def qf412 (K : PySem.W.Frag) : Bool := codeY K (a_f72 K) "head_text"
def qf413 (K : PySem.W.Frag) : Bool := decide (dfltY K (a_f72 K) = .none)
def qf414 (K : PySem.W.Frag) : Bool := codeY K (a_f73 K) "Sheet.__init__"
def qf415 (K : PySem.W.Frag) : Bool := decide (dfltY K (a_f73 K) = .none)
def qf416 (K : PySem.W.Frag) : Bool := codeY K (a_f81 K) "_law_pool"
def qf417 (K : PySem.W.Frag) : Bool := decide (dfltY K (a_f81 K) = .none)
def qf418 (K : PySem.W.Frag) : Bool := codeY K (a_f82 K) "_law_take"
def qf419 (K : PySem.W.Frag) : Bool := decide (dfltY K (a_f82 K) = .none)
def qf420 (K : PySem.W.Frag) : Bool := codeY K (a_f83 K) "_law_said"
def qf421 (K : PySem.W.Frag) : Bool := decide (dfltY K (a_f83 K) = .none)
def qf422 (K : PySem.W.Frag) : Bool := codeY K (a_f84 K) "_law_bad_heads"
def qf423 (K : PySem.W.Frag) : Bool := decide (dfltY K (a_f84 K) = .none)
def qf424 (K : PySem.W.Frag) : Bool := codeY K (a_f85 K) "_law_bad_rules"
def qf425 (K : PySem.W.Frag) : Bool := decide (dfltY K (a_f85 K) = .none)
def qf426 (K : PySem.W.Frag) : Bool := codeY K (a_f86 K) "law"
def qf427 (K : PySem.W.Frag) : Bool := decide (dfltY K (a_f86 K) = .none)
def fsY : List (PySem.W.Frag → Bool) := ([qf0, qf1, qf2, qf3, qf4, qf5, qf6, qf7, qf8, qf9, qf10, qf11, qf12, qf13, qf14, qf15, qf16, qf17, qf18, qf19, qf20, qf21, qf22, qf23, qf24, qf25, qf26, qf27, qf28, qf29] : List (PySem.W.Frag → Bool)) ++ ([qf30, qf31, qf32, qf33, qf34, qf35, qf36, qf37, qf38, qf39, qf40, qf41, qf42, qf43, qf44, qf45, qf46, qf47, qf48, qf49, qf50, qf51, qf52, qf53, qf54, qf55, qf56, qf57, qf58, qf59] : List (PySem.W.Frag → Bool)) ++ ([qf60, qf61, qf62, qf63, qf64, qf65, qf66, qf67, qf68, qf69, qf70, qf71, qf72, qf73, qf74, qf75, qf76, qf77, qf78, qf79, qf80, qf81, qf82, qf83, qf84, qf85, qf86, qf87, qf88, qf89] : List (PySem.W.Frag → Bool)) ++ ([qf90, qf91, qf92, qf93, qf94, qf95, qf96, qf97, qf98, qf99, qf100, qf101, qf102, qf103, qf104, qf105, qf106, qf107, qf108, qf109, qf110, qf111, qf112, qf113, qf114, qf115, qf116, qf117, qf118, qf119] : List (PySem.W.Frag → Bool)) ++ ([qf120, qf121, qf122, qf123, qf124, qf125, qf126, qf127, qf128, qf129, qf130, qf131, qf132, qf133, qf134, qf135, qf136, qf137, qf138, qf139, qf140, qf141, qf142, qf143, qf144, qf145, qf146, qf147, qf148, qf149] : List (PySem.W.Frag → Bool)) ++ ([qf150, qf151, qf152, qf153, qf154, qf155, qf156, qf157, qf158, qf159, qf160, qf161, qf162, qf163, qf164, qf165, qf166, qf167, qf168, qf169, qf170, qf171, qf172, qf173, qf174, qf175, qf176, qf177, qf178, qf179] : List (PySem.W.Frag → Bool)) ++ ([qf180, qf181, qf182, qf183, qf184, qf185, qf186, qf187, qf188, qf189, qf190, qf191, qf192, qf193, qf194, qf195, qf196, qf197, qf198, qf199, qf200, qf201, qf202, qf203, qf204, qf205, qf206, qf207, qf208, qf209] : List (PySem.W.Frag → Bool)) ++ ([qf210, qf211, qf212, qf213, qf214, qf215, qf216, qf217, qf218, qf219, qf220, qf221, qf222, qf223, qf224, qf225, qf226, qf227, qf228, qf229, qf230, qf231, qf232, qf233, qf234, qf235, qf236, qf237, qf238, qf239] : List (PySem.W.Frag → Bool)) ++ ([qf240, qf241, qf242, qf243, qf244, qf245, qf246, qf247, qf248, qf249, qf250, qf251, qf252, qf253, qf254, qf255, qf256, qf257, qf258, qf259, qf260, qf261, qf262, qf263, qf264, qf265, qf266, qf267, qf268, qf269] : List (PySem.W.Frag → Bool)) ++ ([qf270, qf271, qf272, qf273, qf274, qf275, qf276, qf277, qf278, qf279, qf280, qf281, qf282, qf283, qf284, qf285, qf286, qf287, qf288, qf289, qf290, qf291, qf292, qf293, qf294, qf295, qf296, qf297, qf298, qf299] : List (PySem.W.Frag → Bool)) ++ ([qf300, qf301, qf302, qf303, qf304, qf305, qf306, qf307, qf308, qf309, qf310, qf311, qf312, qf313, qf314, qf315, qf316, qf317, qf318, qf319, qf320, qf321, qf322, qf323, qf324, qf325, qf326, qf327, qf328, qf329] : List (PySem.W.Frag → Bool)) ++ ([qf330, qf331, qf332, qf333, qf334, qf335, qf336, qf337, qf338, qf339, qf340, qf341, qf342, qf343, qf344, qf345, qf346, qf347, qf348, qf349, qf350, qf351, qf352, qf353, qf354, qf355, qf356, qf357, qf358, qf359] : List (PySem.W.Frag → Bool)) ++ ([qf360, qf361, qf362, qf363, qf364, qf365, qf366, qf367, qf368, qf369, qf370, qf371, qf372, qf373, qf374, qf375, qf376, qf377, qf378, qf379, qf380, qf381, qf382, qf383, qf384, qf385, qf386, qf387, qf388, qf389] : List (PySem.W.Frag → Bool)) ++ ([qf390, qf391, qf392, qf393, qf394, qf395, qf396, qf397, qf398, qf399, qf400, qf401, qf402, qf403, qf404, qf405, qf406, qf407, qf408, qf409, qf410, qf411, qf412, qf413, qf414, qf415, qf416, qf417, qf418, qf419] : List (PySem.W.Frag → Bool)) ++ ([qf420, qf421, qf422, qf423, qf424, qf425, qf426, qf427] : List (PySem.W.Frag → Bool))
def faY (K : PySem.W.Frag) : Bool := fsY.all fun f => f K
def fnL : List (PySem.W.Frag → Addr) := ([a_fI1, a_fI4, a_fI2, a_f5, a_f6, a_f7, a_f8, a_f9, a_f10, a_f11, a_f12, a_f13, a_f14, a_f15, a_f16, a_f17, a_f18, a_f19, a_f20, a_f21, a_f22, a_f23, a_f24, a_f25, a_f26] : List (PySem.W.Frag → Addr)) ++ ([a_f27, a_f28, a_f45, a_f46, a_f48, a_f62, a_f63, a_f64, a_f65, a_f66, a_f67, a_f68, a_f69, a_f70, a_f71, a_f72, a_f73, a_f81, a_f82, a_f83, a_f84, a_f85, a_f86] : List (PySem.W.Frag → Addr))
def valL : List FnY := ([
  some ("__init__", "ParseError.__init__", defArgs (inClass (top 3) 0), FuncBody.stmts (defBody (inClass (top 3) 0)), defScope (inClass (top 3) 0), mainGlobals, [("__class__" : Str)], builtinsNs),
  some ("__init__", "LimitExceeded.__init__", defArgs (inClass (top 6) 0), FuncBody.stmts (defBody (inClass (top 6) 0)), defScope (inClass (top 6) 0), mainGlobals, [("__class__" : Str)], builtinsNs),
  some ("__init__", "InvalidText.__init__", defArgs (inClass (top 4) 0), FuncBody.stmts (defBody (inClass (top 4) 0)), defScope (inClass (top 4) 0), mainGlobals, [("__class__" : Str)], builtinsNs),
  some ("is_made_of", "is_made_of", defArgs (top 11), FuncBody.stmts (defBody (top 11)), defScope (top 11), mainGlobals, [], builtinsNs),
  some ("is_name", "is_name", defArgs (top 12), FuncBody.stmts (defBody (top 12)), defScope (top 12), mainGlobals, [], builtinsNs),
  some ("is_word", "is_word", defArgs (top 13), FuncBody.stmts (defBody (top 13)), defScope (top 13), mainGlobals, [], builtinsNs),
  some ("__init__", "TextReader.__init__", defArgs (inClass (top 14) 0), FuncBody.stmts (defBody (inClass (top 14) 0)), defScope (inClass (top 14) 0), mainGlobals, [], builtinsNs),
  some ("fail", "TextReader.fail", defArgs (inClass (top 14) 1), FuncBody.stmts (defBody (inClass (top 14) 1)), defScope (inClass (top 14) 1), mainGlobals, [], builtinsNs),
  some ("peek", "TextReader.peek", defArgs (inClass (top 14) 2), FuncBody.stmts (defBody (inClass (top 14) 2)), defScope (inClass (top 14) 2), mainGlobals, [], builtinsNs),
  some ("is_sign", "TextReader.is_sign", defArgs (inClass (top 14) 3), FuncBody.stmts (defBody (inClass (top 14) 3)), defScope (inClass (top 14) 3), mainGlobals, [], builtinsNs),
  some ("need", "TextReader.need", defArgs (inClass (top 14) 4), FuncBody.stmts (defBody (inClass (top 14) 4)), defScope (inClass (top 14) 4), mainGlobals, [], builtinsNs),
  some ("is_start", "TextReader.is_start", defArgs (inClass (top 14) 5), FuncBody.stmts (defBody (inClass (top 14) 5)), defScope (inClass (top 14) 5), mainGlobals, [], builtinsNs),
  some ("read_name", "TextReader.read_name", defArgs (inClass (top 14) 6), FuncBody.stmts (defBody (inClass (top 14) 6)), defScope (inClass (top 14) 6), mainGlobals, [], builtinsNs),
  some ("skip_blanks", "TextReader.skip_blanks", defArgs (inClass (top 14) 7), FuncBody.stmts (defBody (inClass (top 14) 7)), defScope (inClass (top 14) 7), mainGlobals, [], builtinsNs),
  some ("need_end", "TextReader.need_end", defArgs (inClass (top 14) 8), FuncBody.stmts (defBody (inClass (top 14) 8)), defScope (inClass (top 14) 8), mainGlobals, [], builtinsNs),
  some ("__init__", "Compound.__init__", defArgs (inClass (top 18) 1), FuncBody.stmts (defBody (inClass (top 18) 1)), defScope (inClass (top 18) 1), mainGlobals, [], builtinsNs),
  some ("__init__", "Chain.__init__", defArgs (inClass (top 19) 1), FuncBody.stmts (defBody (inClass (top 19) 1)), defScope (inClass (top 19) 1), mainGlobals, [], builtinsNs),
  some ("read_chain", "SelectorReader.read_chain", defArgs (inClass (top 20) 0), FuncBody.stmts (defBody (inClass (top 20) 0)), defScope (inClass (top 20) 0), mainGlobals, [], builtinsNs),
  some ("read_join", "SelectorReader.read_join", defArgs (inClass (top 20) 1), FuncBody.stmts (defBody (inClass (top 20) 1)), defScope (inClass (top 20) 1), mainGlobals, [], builtinsNs),
  some ("read_compound", "SelectorReader.read_compound", defArgs (inClass (top 20) 2), FuncBody.stmts (defBody (inClass (top 20) 2)), defScope (inClass (top 20) 2), mainGlobals, [], builtinsNs),
  some ("read_part", "SelectorReader.read_part", defArgs (inClass (top 20) 3), FuncBody.stmts (defBody (inClass (top 20) 3)), defScope (inClass (top 20) 3), mainGlobals, [], builtinsNs),
  some ("nth", "SelectorReader.nth", defArgs (inClass (top 20) 4), FuncBody.stmts (defBody (inClass (top 20) 4)), defScope (inClass (top 20) 4), mainGlobals, [], builtinsNs),
  some ("digit", "SelectorReader.digit", defArgs (inClass (top 20) 5), FuncBody.stmts (defBody (inClass (top 20) 5)), defScope (inClass (top 20) 5), mainGlobals, [], builtinsNs),
  some ("negation", "SelectorReader.negation", defArgs (inClass (top 20) 6), FuncBody.stmts (defBody (inClass (top 20) 6)), defScope (inClass (top 20) 6), mainGlobals, [], builtinsNs),
  some ("relation", "SelectorReader.relation", defArgs (inClass (top 20) 7), FuncBody.stmts (defBody (inClass (top 20) 7)), defScope (inClass (top 20) 7), mainGlobals, [], builtinsNs)] : List FnY) ++
  ([
  some ("part_text", "part_text", defArgs (top 21), FuncBody.stmts (defBody (top 21)), defScope (top 21), mainGlobals, [], builtinsNs),
  some ("chain_text", "chain_text", defArgs (top 22), FuncBody.stmts (defBody (top 22)), defScope (top 22), mainGlobals, [], builtinsNs),
  some ("__init__", "Selector.__init__", defArgs (inClass (top 29) 1), FuncBody.stmts (defBody (inClass (top 29) 1)), defScope (inClass (top 29) 1), mainGlobals, [], builtinsNs),
  some ("text", "Selector.text", defArgs (inClass (top 29) 2), FuncBody.stmts (defBody (inClass (top 29) 2)), defScope (inClass (top 29) 2), mainGlobals, [], builtinsNs),
  some ("compound_total", "Selector.compound_total", defArgs (inClass (top 29) 4), FuncBody.stmts (defBody (inClass (top 29) 4)), defScope (inClass (top 29) 4), mainGlobals, [], builtinsNs),
  some ("__init__", "Property.__init__", defArgs (inClass (top 36) 1), FuncBody.stmts (defBody (inClass (top 36) 1)), defScope (inClass (top 36) 1), mainGlobals, [], builtinsNs),
  some ("__init__", "Rule.__init__", defArgs (inClass (top 37) 1), FuncBody.stmts (defBody (inClass (top 37) 1)), defScope (inClass (top 37) 1), mainGlobals, [], builtinsNs),
  some ("read_property", "read_property", defArgs (top 38), FuncBody.stmts (defBody (top 38)), defScope (top 38), mainGlobals, [], builtinsNs),
  some ("read_value", "read_value", defArgs (top 39), FuncBody.stmts (defBody (top 39)), defScope (top 39), mainGlobals, [], builtinsNs),
  some ("read_declaration", "read_declaration", defArgs (top 40), FuncBody.stmts (defBody (top 40)), defScope (top 40), mainGlobals, [], builtinsNs),
  some ("read_selectors", "read_selectors", defArgs (top 41), FuncBody.stmts (defBody (top 41)), defScope (top 41), mainGlobals, [], builtinsNs),
  some ("layer_of", "layer_of", defArgs (top 42), FuncBody.stmts (defBody (top 42)), defScope (top 42), mainGlobals, [], builtinsNs),
  some ("read_rule", "read_rule", defArgs (top 43), FuncBody.stmts (defBody (top 43)), defScope (top 43), mainGlobals, [], builtinsNs),
  some ("parse_sheet", "parse_sheet", defArgs (top 44), FuncBody.stmts (defBody (top 44)), defScope (top 44), mainGlobals, [], builtinsNs),
  some ("rule_text", "rule_text", defArgs (top 45), FuncBody.stmts (defBody (top 45)), defScope (top 45), mainGlobals, [], builtinsNs),
  some ("head_text", "head_text", defArgs (top 46), FuncBody.stmts (defBody (top 46)), defScope (top 46), mainGlobals, [], builtinsNs),
  some ("__init__", "Sheet.__init__", defArgs (inClass (top 47) 1), FuncBody.stmts (defBody (inClass (top 47) 1)), defScope (inClass (top 47) 1), mainGlobals, [], builtinsNs),
  some ("_law_pool", "_law_pool", defArgs (top 49), FuncBody.stmts (defBody (top 49)), defScope (top 49), mainGlobals, [], builtinsNs),
  some ("_law_take", "_law_take", defArgs (top 50), FuncBody.stmts (defBody (top 50)), defScope (top 50), mainGlobals, [], builtinsNs),
  some ("_law_said", "_law_said", defArgs (top 51), FuncBody.stmts (defBody (top 51)), defScope (top 51), mainGlobals, [], builtinsNs),
  some ("_law_bad_heads", "_law_bad_heads", defArgs (top 52), FuncBody.stmts (defBody (top 52)), defScope (top 52), mainGlobals, [], builtinsNs),
  some ("_law_bad_rules", "_law_bad_rules", defArgs (top 53), FuncBody.stmts (defBody (top 53)), defScope (top 53), mainGlobals, [], builtinsNs),
  some ("law", "law", defArgs (top 54), FuncBody.stmts (defBody (top 54)), defScope (top 54), mainGlobals, [], builtinsNs)] : List FnY)
theorem ib_1 : ∃ (j : Nat) (pa pb pc pd pe pf qa qb qc qd : Pos) (names : List (Str × NameKind)) (ar : Arg), defBody (inClass (top 3) 0) = PySem.XeX.iB "cannot be read" "line" "line" j pa pb pc pd pe pf qa qb qc qd ∧ defScope (inClass (top 3) 0) = PySem.XeX.iSc names ∧ (pc.endLine == pe.line) = true ∧
    ((defArgs (inClass (top 3) 0)).posonlyargs ++ (defArgs (inClass (top 3) 0)).args).head? = some ar ∧ ar.arg = "self" ∧ names.lookup ("super" : Str) = some .globalImplicit ∧ names.lookup ("__class__" : Str) = some .free ∧ names.lookup ("self" : Str) = some .local ∧ names.lookup ("line" : Str) = some .local ∧ (∀ y ∈ names, y.2 ≠ .cell) ∧ (("line" : Str) == ("__debug__" : Str)) = false ∧ ("line" : Str) ≠ "self" :=
  ⟨_, _, _, _, _, _, _, _, _, _, _, _, _, rfl, rfl, rfl, rfl, rfl, rfl, rfl, rfl, rfl, by decide +kernel, by decide +kernel, by decide +kernel⟩
theorem ib_4 : ∃ (j : Nat) (pa pb pc pd pe pf qa qb qc qd : Pos) (names : List (Str × NameKind)) (ar : Arg), defBody (inClass (top 6) 0) = PySem.XeX.iB "limit exceeded" "limit" "limit" j pa pb pc pd pe pf qa qb qc qd ∧ defScope (inClass (top 6) 0) = PySem.XeX.iSc names ∧ (pc.endLine == pe.line) = true ∧
    ((defArgs (inClass (top 6) 0)).posonlyargs ++ (defArgs (inClass (top 6) 0)).args).head? = some ar ∧ ar.arg = "self" ∧ names.lookup ("super" : Str) = some .globalImplicit ∧ names.lookup ("__class__" : Str) = some .free ∧ names.lookup ("self" : Str) = some .local ∧ names.lookup ("limit" : Str) = some .local ∧ (∀ y ∈ names, y.2 ≠ .cell) ∧ (("limit" : Str) == ("__debug__" : Str)) = false ∧ ("limit" : Str) ≠ "self" :=
  ⟨_, _, _, _, _, _, _, _, _, _, _, _, _, rfl, rfl, rfl, rfl, rfl, rfl, rfl, rfl, rfl, by decide +kernel, by decide +kernel, by decide +kernel⟩
theorem ib_2 : ∃ (j : Nat) (pa pb pc pd pe pf qa qb qc qd : Pos) (names : List (Str × NameKind)) (ar : Arg), defBody (inClass (top 4) 0) = PySem.XeX.iB "invalid text" "value" "value" j pa pb pc pd pe pf qa qb qc qd ∧ defScope (inClass (top 4) 0) = PySem.XeX.iSc names ∧ (pc.endLine == pe.line) = true ∧
    ((defArgs (inClass (top 4) 0)).posonlyargs ++ (defArgs (inClass (top 4) 0)).args).head? = some ar ∧ ar.arg = "self" ∧ names.lookup ("super" : Str) = some .globalImplicit ∧ names.lookup ("__class__" : Str) = some .free ∧ names.lookup ("self" : Str) = some .local ∧ names.lookup ("value" : Str) = some .local ∧ (∀ y ∈ names, y.2 ≠ .cell) ∧ (("value" : Str) == ("__debug__" : Str)) = false ∧ ("value" : Str) ≠ "self" :=
  ⟨_, _, _, _, _, _, _, _, _, _, _, _, _, rfl, rfl, rfl, rfl, rfl, rfl, rfl, rfl, rfl, by decide +kernel, by decide +kernel, by decide +kernel⟩
abbrev hk : PySem.W.Hook := hookY 6 faY fnL valL
def ob (s : PySem.W.SharedT) : AlY := obsY 6 faY fnL (HandSHeadRun.getT s)
theorem ob_eq (s : PySem.W.SharedT) : ob s = hk.obs s.abs := obsY_eq (HandSHeadRun.getT_eq s)
def loose : List Str := (["_wall", "__name__", "StyleError", "ParseError", "InvalidText", "InvalidPath", "LimitExceeded", "LETTERS", "DIGITS", "MOST_SIGNS", "is_made_of", "is_name", "is_word", "TextReader", "JOINS", "MOST_DIGIT", "Compound", "Chain", "SelectorReader", "part_text", "chain_text", "fits_number", "MOST_COMPOUNDS", "Spot", "spot_of", "Matcher", "Selector", "Selection", "Found", "MOST_PROPERTIES"] : List Str) ++ (["MOST_ROWS", "WORDS", "Property", "Rule", "read_property", "read_value", "read_declaration", "read_selectors", "layer_of", "read_rule", "parse_sheet", "rule_text", "head_text", "Sheet", "_law_pool", "_law_take", "_law_said", "_law_bad_heads", "_law_bad_rules"] : List Str)
theorem facts {w : World} {K : PySem.W.Frag} {h : Heap} {mg : Str → Option Value} {fa : Addr} (KX : K.In h) (G : h.Ns mainGlobals mg) (hmg : mg "law" = some (.ref fa)) (c : SaysY faY fnL valL K) :
    ∃ fd : FuncData, (∀ (s : Shared) (v : Value), BindsTo s fd ⟨[v], []⟩ [("_law_script", v)]) ∧ ∃ dt : Value → Prop, ∀ base : Heap, K.In base → base.Ns mainGlobals mg → FnG dt PySem.Challenge.rw_deadrules_k18_sheets_refused.prog w K mg base (2 * 60 + 2) fa fd ["_law_script"] (spL K) := by
  obtain ⟨nm1, q1, N1, bs1, bm1, sn1, sub1, ab1, col1, dd1, m01, m11, m21, m31, m51, xl_1, xt_1⟩ := excY_ok (allY c.f 276)
  obtain ⟨j1, pa1, pb1, pc1, pd1, pe1, pf_1, qa1, qb1, qc1, qd1, names1, ar1, eb1, es1, g0_1, g1_1, g2_1, g3_1, g4_1, g5_1, g6_1, g7_1, g8_1, g9_1⟩ := ib_1
  obtain ⟨oc1, od1, doc1, pm1, an1, cc1, cda1, ct1, osl1, xl1, cld1, csl1, ccl1, cdd1, vs1, ccs1, tf1, i0_1, i1_1, i2_1, i3_1, i4_1⟩ := initY_ok (c.def_ 0) (allY c.f 277)
  rw [eb1, es1] at i0_1
  obtain ⟨nm4, q4, N4, bs4, bm4, sn4, sub4, ab4, col4, dd4, m04, m14, m24, m34, m54, xl_4, xt_4⟩ := excY_ok (allY c.f 290)
  obtain ⟨j4, pa4, pb4, pc4, pd4, pe4, pf_4, qa4, qb4, qc4, qd4, names4, ar4, eb4, es4, g0_4, g1_4, g2_4, g3_4, g4_4, g5_4, g6_4, g7_4, g8_4, g9_4⟩ := ib_4
  obtain ⟨oc4, od4, doc4, pm4, an4, cc4, cda4, ct4, osl4, xl4, cld4, csl4, ccl4, cdd4, vs4, ccs4, tf4, i0_4, i1_4, i2_4, i3_4, i4_4⟩ := initY_ok (c.def_ 1) (allY c.f 291)
  rw [eb4, es4] at i0_4
  obtain ⟨nm2, q2, N2, bs2, bm2, sn2, sub2, ab2, col2, dd2, m02, m12, m22, m32, m52, xl_2, xt_2⟩ := excY_ok (allY c.f 302)
  obtain ⟨j2, pa2, pb2, pc2, pd2, pe2, pf_2, qa2, qb2, qc2, qd2, names2, ar2, eb2, es2, g0_2, g1_2, g2_2, g3_2, g4_2, g5_2, g6_2, g7_2, g8_2, g9_2⟩ := ib_2
  obtain ⟨oc2, od2, doc2, pm2, an2, cc2, cda2, ct2, osl2, xl2, cld2, csl2, ccl2, cdd2, vs2, ccs2, tf2, i0_2, i1_2, i2_2, i3_2, i4_2⟩ := initY_ok (c.def_ 2) (allY c.f 303)
  rw [eb2, es2] at i0_2
  obtain ⟨oo5, of5, sl5, kv5, dc5, pf5, na5, xc5, cx5, l5, k5⟩ := fnY_ok (c.def_ 3) (allY c.f 337) (of_decide_eq_true (allY c.f 338))
  obtain ⟨oo6, of6, sl6, kv6, dc6, pf6, na6, xc6, cx6, l6, k6⟩ := fnY_ok (c.def_ 4) (allY c.f 339) (of_decide_eq_true (allY c.f 340))
  obtain ⟨oo7, of7, sl7, kv7, dc7, pf7, na7, xc7, cx7, l7, k7⟩ := fnY_ok (c.def_ 5) (allY c.f 341) (of_decide_eq_true (allY c.f 342))
  obtain ⟨oo8, of8, sl8, kv8, dc8, pf8, na8, xc8, cx8, l8, k8⟩ := fnY_ok (c.def_ 6) (allY c.f 343) (of_decide_eq_true (allY c.f 344))
  obtain ⟨oo9, of9, sl9, kv9, dc9, pf9, na9, xc9, cx9, l9, k9⟩ := fnY_ok (c.def_ 7) (allY c.f 345) (of_decide_eq_true (allY c.f 346))
  obtain ⟨oo10, of10, sl10, kv10, dc10, pf10, na10, xc10, cx10, l10, k10⟩ := fnY_ok (c.def_ 8) (allY c.f 347) (of_decide_eq_true (allY c.f 348))
  obtain ⟨oo11, of11, sl11, kv11, dc11, pf11, na11, xc11, cx11, l11, k11⟩ := fnY_ok (c.def_ 9) (allY c.f 349) (of_decide_eq_true (allY c.f 350))
  obtain ⟨oo12, of12, sl12, kv12, dc12, pf12, na12, xc12, cx12, l12, k12⟩ := fnY_ok (c.def_ 10) (allY c.f 351) (of_decide_eq_true (allY c.f 352))
  obtain ⟨oo13, of13, sl13, kv13, dc13, pf13, na13, xc13, cx13, l13, k13⟩ := fnY_ok (c.def_ 11) (allY c.f 353) (of_decide_eq_true (allY c.f 354))
  obtain ⟨oo14, of14, sl14, kv14, dc14, pf14, na14, xc14, cx14, l14, k14⟩ := fnY_ok (c.def_ 12) (allY c.f 355) (of_decide_eq_true (allY c.f 356))
  obtain ⟨oo15, of15, sl15, kv15, dc15, pf15, na15, xc15, cx15, l15, k15⟩ := fnY_ok (c.def_ 13) (allY c.f 357) (of_decide_eq_true (allY c.f 358))
  obtain ⟨oo16, of16, sl16, kv16, dc16, pf16, na16, xc16, cx16, l16, k16⟩ := fnY_ok (c.def_ 14) (allY c.f 359) (of_decide_eq_true (allY c.f 360))
  obtain ⟨oo17, of17, sl17, kv17, dc17, pf17, na17, xc17, cx17, l17, k17⟩ := fnY_ok (c.def_ 15) (allY c.f 361) (of_decide_eq_true (allY c.f 362))
  obtain ⟨oo18, of18, sl18, kv18, dc18, pf18, na18, xc18, cx18, l18, k18⟩ := fnY_ok (c.def_ 16) (allY c.f 363) (of_decide_eq_true (allY c.f 364))
  obtain ⟨oo19, of19, sl19, kv19, dc19, pf19, na19, xc19, cx19, l19, k19⟩ := fnY_ok (c.def_ 17) (allY c.f 365) (of_decide_eq_true (allY c.f 366))
  obtain ⟨oo20, of20, sl20, kv20, dc20, pf20, na20, xc20, cx20, l20, k20⟩ := fnY_ok (c.def_ 18) (allY c.f 367) (of_decide_eq_true (allY c.f 368))
  obtain ⟨oo21, of21, sl21, kv21, dc21, pf21, na21, xc21, cx21, l21, k21⟩ := fnY_ok (c.def_ 19) (allY c.f 369) (of_decide_eq_true (allY c.f 370))
  obtain ⟨oo22, of22, sl22, kv22, dc22, pf22, na22, xc22, cx22, l22, k22⟩ := fnY_ok (c.def_ 20) (allY c.f 371) (of_decide_eq_true (allY c.f 372))
  obtain ⟨ot22, nt22, lt22, dd_22⟩ := defK_ok (allY c.f 373)
  obtain ⟨oo23, of23, sl23, kv23, dc23, pf23, na23, xc23, cx23, l23, k23⟩ := fnY_ok (c.def_ 21) (allY c.f 374) (of_decide_eq_true (allY c.f 375))
  obtain ⟨oo24, of24, sl24, kv24, dc24, pf24, na24, xc24, cx24, l24, k24⟩ := fnY_ok (c.def_ 22) (allY c.f 376) (of_decide_eq_true (allY c.f 377))
  obtain ⟨oo25, of25, sl25, kv25, dc25, pf25, na25, xc25, cx25, l25, k25⟩ := fnY_ok (c.def_ 23) (allY c.f 378) (of_decide_eq_true (allY c.f 379))
  obtain ⟨oo26, of26, sl26, kv26, dc26, pf26, na26, xc26, cx26, l26, k26⟩ := fnY_ok (c.def_ 24) (allY c.f 380) (of_decide_eq_true (allY c.f 381))
  obtain ⟨oo27, of27, sl27, kv27, dc27, pf27, na27, xc27, cx27, l27, k27⟩ := fnY_ok (c.def_ 25) (allY c.f 382) (of_decide_eq_true (allY c.f 383))
  obtain ⟨oo28, of28, sl28, kv28, dc28, pf28, na28, xc28, cx28, l28, k28⟩ := fnY_ok (c.def_ 26) (allY c.f 384) (of_decide_eq_true (allY c.f 385))
  obtain ⟨oo45, of45, sl45, kv45, dc45, pf45, na45, xc45, cx45, l45, k45⟩ := fnY_ok (c.def_ 27) (allY c.f 386) (of_decide_eq_true (allY c.f 387))
  obtain ⟨oo46, of46, sl46, kv46, dc46, pf46, na46, xc46, cx46, l46, k46⟩ := fnY_ok (c.def_ 28) (allY c.f 388) (of_decide_eq_true (allY c.f 389))
  obtain ⟨oo48, of48, sl48, kv48, dc48, pf48, na48, xc48, cx48, l48, k48⟩ := fnY_ok (c.def_ 29) (allY c.f 390) (of_decide_eq_true (allY c.f 391))
  obtain ⟨oo62, of62, sl62, kv62, dc62, pf62, na62, xc62, cx62, l62, k62⟩ := fnY_ok (c.def_ 30) (allY c.f 392) (of_decide_eq_true (allY c.f 393))
  obtain ⟨oo63, of63, sl63, kv63, dc63, pf63, na63, xc63, cx63, l63, k63⟩ := fnY_ok (c.def_ 31) (allY c.f 394) (of_decide_eq_true (allY c.f 395))
  obtain ⟨oo64, of64, sl64, kv64, dc64, pf64, na64, xc64, cx64, l64, k64⟩ := fnY_ok (c.def_ 32) (allY c.f 396) (of_decide_eq_true (allY c.f 397))
  obtain ⟨oo65, of65, sl65, kv65, dc65, pf65, na65, xc65, cx65, l65, k65⟩ := fnY_ok (c.def_ 33) (allY c.f 398) (of_decide_eq_true (allY c.f 399))
  obtain ⟨oo66, of66, sl66, kv66, dc66, pf66, na66, xc66, cx66, l66, k66⟩ := fnY_ok (c.def_ 34) (allY c.f 400) (of_decide_eq_true (allY c.f 401))
  obtain ⟨oo67, of67, sl67, kv67, dc67, pf67, na67, xc67, cx67, l67, k67⟩ := fnY_ok (c.def_ 35) (allY c.f 402) (of_decide_eq_true (allY c.f 403))
  obtain ⟨oo68, of68, sl68, kv68, dc68, pf68, na68, xc68, cx68, l68, k68⟩ := fnY_ok (c.def_ 36) (allY c.f 404) (of_decide_eq_true (allY c.f 405))
  obtain ⟨oo69, of69, sl69, kv69, dc69, pf69, na69, xc69, cx69, l69, k69⟩ := fnY_ok (c.def_ 37) (allY c.f 406) (of_decide_eq_true (allY c.f 407))
  obtain ⟨oo70, of70, sl70, kv70, dc70, pf70, na70, xc70, cx70, l70, k70⟩ := fnY_ok (c.def_ 38) (allY c.f 408) (of_decide_eq_true (allY c.f 409))
  obtain ⟨oo71, of71, sl71, kv71, dc71, pf71, na71, xc71, cx71, l71, k71⟩ := fnY_ok (c.def_ 39) (allY c.f 410) (of_decide_eq_true (allY c.f 411))
  obtain ⟨oo72, of72, sl72, kv72, dc72, pf72, na72, xc72, cx72, l72, k72⟩ := fnY_ok (c.def_ 40) (allY c.f 412) (of_decide_eq_true (allY c.f 413))
  obtain ⟨oo73, of73, sl73, kv73, dc73, pf73, na73, xc73, cx73, l73, k73⟩ := fnY_ok (c.def_ 41) (allY c.f 414) (of_decide_eq_true (allY c.f 415))
  obtain ⟨oo81, of81, sl81, kv81, dc81, pf81, na81, xc81, cx81, l81, k81⟩ := fnY_ok (c.def_ 42) (allY c.f 416) (of_decide_eq_true (allY c.f 417))
  obtain ⟨oo82, of82, sl82, kv82, dc82, pf82, na82, xc82, cx82, l82, k82⟩ := fnY_ok (c.def_ 43) (allY c.f 418) (of_decide_eq_true (allY c.f 419))
  obtain ⟨oo83, of83, sl83, kv83, dc83, pf83, na83, xc83, cx83, l83, k83⟩ := fnY_ok (c.def_ 44) (allY c.f 420) (of_decide_eq_true (allY c.f 421))
  obtain ⟨oo84, of84, sl84, kv84, dc84, pf84, na84, xc84, cx84, l84, k84⟩ := fnY_ok (c.def_ 45) (allY c.f 422) (of_decide_eq_true (allY c.f 423))
  obtain ⟨oo85, of85, sl85, kv85, dc85, pf85, na85, xc85, cx85, l85, k85⟩ := fnY_ok (c.def_ 46) (allY c.f 424) (of_decide_eq_true (allY c.f 425))
  obtain ⟨oo86, of86, sl86, kv86, dc86, pf86, na86, xc86, cx86, l86, k86⟩ := fnY_ok (c.def_ 47) (allY c.f 426) (of_decide_eq_true (allY c.f 427))
  refine' all_mk (l := PySem.Challenge.rw_deadrules_k18_sheets_refused) LV KX G hmg ?h0 ?h1 ?h2 ?h3 ?h4 ?h5 ?h6 ?h7 ?h8 ?h9 ?h10 ?h11 ?h12 ?h13 ?h14 ?h15 ?h16 ?h17 ?h18 ?h19 ?h20 ?h21 ?h22 ?h23 ?h24 ?h25 ?h26 ?h27 ?h28 ?h29 ?h30 ?h31 ?h32 ?h33 ?h34 ?h35 ?h36 ?h37 ?h38 ?h39 ?h40 ?h41 ?h42 ?h43 ?h44 ?h45 ?h46 ?h47 ?h48 ?h49 ?h50 ?h51 ?h52 ?h53 ?h54 ?h55 ?h56 ?h57 ?h58 ?h59 ?h60 ?h61 ?h62 ?h63 ?h64 ?h65 ?h66 ?h67 ?h68 ?h69 ?h70 ?h71 ?h72 ?h73 ?h74 ?h75 ?h76 ?h77 ?h78 ?h79 ?h80 ?h81 ?h82 ?h83 ?h84 ?h85 ?h86 ?h87 ?h88 ?h89 ?h90 ?h91 ?h92 ?h93 ?h94 ?h95 ?h96 ?h97 ?h98 ?h99 ?h100 ?h101 ?h102 ?h103 ?h104 ?h105 ?h106 ?h107 ?h108 ?h109 ?h110 ?h111 ?h112 ?h113 ?h114 ?h115 ?h116 ?h117 ?h118 ?h119 ?h120 ?h121 ?h122 ?h123 ?h124 ?h125 ?h126 ?h127 ?h128 ?h129 ?h130 ?h131 ?h132 ?h133 ?h134 ?h135 ?h136 ?h137 ?h138 ?h139 ?h140 ?h141 ?h142 ?h143 ?h144 ?h145 ?h146 ?h147 ?h148 ?h149 ?h150 ?h151 ?h152 ?h153 ?h154 ?h155 ?h156 ?h157 ?h158 ?h159 ?h160 ?h161 ?h162 ?h163 ?h164 ?h165 ?h166 ?h167 ?h168 ?h169 ?h170 ?h171 ?h172 ?h173 ?h174 ?h175 ?h176 ?h177 ?h178 ?h179 ?h180 ?h181 ?h182 ?h183 ?h184 ?h185 ?h186 ?h187 ?h188 ?h189 ?h190 ?h191 ?h192 ?h193 ?h194 ?h195 ?h196 ?h197 ?h198 ?h199 ?h200 ?h201 ?h202 ?h203 ?h204 ?h205 ?h206 ?h207 ?h208 ?h209 ?h210 ?h211 ?h212 ?h213 ?h214 ?h215 ?h216 ?h217 ?h218 ?h219 ?h220 ?h221 ?h222 ?h223 ?h224 ?h225 ?h226 ?h227 ?h228 ?h229 ?h230 ?h231 ?h232 ?h233 ?h234 ?h235 ?h236 ?h237 ?h238 ?h239 ?h240 ?h241 ?h242 ?h243 ?h244 ?h245 ?h246 ?h247 ?h248 ?h249 ?h250 ?h251 ?h252 ?h253 ?h254 ?h255 ?h256 ?h257 ?h258 ?h259 ?h260 ?h261 ?h262 ?h263 ?h264 ?h265 ?h266 ?h267 ?h268 ?h269 ?h270 ?h271 ?h272 ?h273 ?h274 ?h275 ?h276 ?h277 ?h278 ?h279 ?h280 ?h281 ?h282 ?h283 ?h284 ?h285 ?h286 ?h287 ?h288 ?h289 ?h290 ?h291 ?h292 ?h293 ?h294 ?h295 ?h296 ?h297 ?h298 ?h299 ?h300 ?h301 ?h302 ?h303 ?h304 ?h305 ?h306 ?h307 ?h308 ?h309 ?h310 ?h311 ?h312 ?h313 ?h314 ?h315 ?h316 ?h317 ?h318 ?h319 ?h320 ?h321 ?h322 ?h323 ?h324 ?h325 ?h326 ?h327 ?h328 ?h329 ?h330 ?h331 ?h332 ?h333 ?h334 ?h335 ?h336 ?h337 ?h338 ?h339 ?h340 ?h341 ?h342 ?h343 ?h344 ?h345 ?h346 ?h347 ?h348 ?h349 ?h350 ?h351 ?h352 ?h353 ?h354 ?h355 ?h356 ?h357 ?h358 ?h359 ?h360 ?h361 ?h362 ?h363 ?h364 ?h365 ?h366 ?h367 ?h368 ?h369 ?h370 ?h371 ?h372 ?h373 ?h374 ?h375 ?h376 ?h377 ?h378 ?h379 ?h380 ?h381 ?h382 ?h383 ?h384 ?h385 ?h386 ?h387 ?h388 ?h389 ?h390 ?h391 ?h392 ?h393 ?h394 ?h395 ?h396 ?h397 ?h398 ?h399 ?h400 ?h401 ?h402 ?h403 ?h404 ?h405 ?h406 ?h407 ?h408 ?h409 ?h410 ?h411 ?h412 ?h413 ?h414 ?h415 ?h416 ?h417 ?h418 ?h419 ?h420 ?h421 ?h422 ?h423 ?h424 ?h425 ?h426 ?h427 ?h428 ?h429 ?h430 ?h431 ?h432 ?h433 ?h434 ?h435 ?h436 ?h437 ?h438 ?h439 ?h440 ?h441 ?h442 ?h443 ?h444 ?h445 ?h446 ?h447 ?h448 ?h449 ?h450 ?h451 ?h452 ?h453 ?h454 ?h455 ?h456 ?h457 ?h458 ?h459 ?h460 ?h461 ?h462 ?h463 ?h464 ?h465 ?h466 ?h467 ?h468 ?h469 ?h470 ?h471 ?h472 ?h473 ?h474 ?h475 ?h476 ?h477 ?h478 ?h479 ?h480
  (case h0 => exact of_decide_eq_true (allY c.f 0))
  (case h1 => exact of_decide_eq_true (allY c.f 1))
  (case h2 => exact of_decide_eq_true (allY c.f 2))
  (case h3 => exact of_decide_eq_true (allY c.f 3))
  (case h4 => exact of_decide_eq_true (allY c.f 4))
  (case h5 => exact of_decide_eq_true (allY c.f 5))
  (case h6 => exact of_decide_eq_true (allY c.f 6))
  (case h7 => exact of_decide_eq_true (allY c.f 7))
  (case h8 => exact of_decide_eq_true (allY c.f 8))
  (case h9 => exact of_decide_eq_true (allY c.f 9))
  (case h10 => exact of_decide_eq_true (allY c.f 10))
  (case h11 => exact of_decide_eq_true (allY c.f 11))
  (case h12 => exact of_decide_eq_true (allY c.f 12))
  (case h13 => exact of_decide_eq_true (allY c.f 13))
  (case h14 => exact of_decide_eq_true (allY c.f 14))
  (case h15 => exact of_decide_eq_true (allY c.f 15))
  (case h16 => exact of_decide_eq_true (allY c.f 16))
  (case h17 => exact of_decide_eq_true (allY c.f 17))
  (case h18 => exact of_decide_eq_true (allY c.f 18))
  (case h19 => exact of_decide_eq_true (allY c.f 19))
  (case h20 => exact of_decide_eq_true (allY c.f 20))
  (case h21 => exact of_decide_eq_true (allY c.f 21))
  (case h22 => exact of_decide_eq_true (allY c.f 22))
  (case h23 => exact of_decide_eq_true (allY c.f 23))
  (case h24 => exact of_decide_eq_true (allY c.f 24))
  (case h25 => exact of_decide_eq_true (allY c.f 25))
  (case h26 => exact of_decide_eq_true (allY c.f 26))
  (case h27 => exact of_decide_eq_true (allY c.f 27))
  (case h28 => exact of_decide_eq_true (allY c.f 28))
  (case h29 => exact of_decide_eq_true (allY c.f 29))
  (case h30 => exact of_decide_eq_true (allY c.f 30))
  (case h31 => exact of_decide_eq_true (allY c.f 31))
  (case h32 => exact of_decide_eq_true (allY c.f 32))
  (case h33 => exact of_decide_eq_true (allY c.f 33))
  (case h34 => exact of_decide_eq_true (allY c.f 34))
  (case h35 => exact of_decide_eq_true (allY c.f 35))
  (case h36 => exact of_decide_eq_true (allY c.f 36))
  (case h37 => exact of_decide_eq_true (allY c.f 37))
  (case h38 => exact of_decide_eq_true (allY c.f 38))
  (case h39 => exact of_decide_eq_true (allY c.f 39))
  (case h40 => exact of_decide_eq_true (allY c.f 40))
  (case h41 => exact of_decide_eq_true (allY c.f 41))
  (case h42 => exact of_decide_eq_true (allY c.f 42))
  (case h43 => exact of_decide_eq_true (allY c.f 43))
  (case h44 => exact of_decide_eq_true (allY c.f 44))
  (case h45 => exact of_decide_eq_true (allY c.f 45))
  (case h46 => exact of_decide_eq_true (allY c.f 46))
  (case h47 => exact of_decide_eq_true (allY c.f 47))
  (case h48 => exact of_decide_eq_true (allY c.f 48))
  (case h49 => exact of_decide_eq_true (allY c.f 49))
  (case h50 => exact of_decide_eq_true (allY c.f 50))
  (case h51 => exact of_decide_eq_true (allY c.f 51))
  (case h52 => exact of_decide_eq_true (allY c.f 52))
  (case h53 => exact of_decide_eq_true (allY c.f 53))
  (case h54 => exact of_decide_eq_true (allY c.f 54))
  (case h55 => exact of_decide_eq_true (allY c.f 55))
  (case h56 => exact of_decide_eq_true (allY c.f 56))
  (case h57 => exact of_decide_eq_true (allY c.f 57))
  (case h58 => exact of_decide_eq_true (allY c.f 58))
  (case h59 => exact of_decide_eq_true (allY c.f 59))
  (case h60 => exact of_decide_eq_true (allY c.f 60))
  (case h61 => exact of_decide_eq_true (allY c.f 61))
  (case h62 => exact of_decide_eq_true (allY c.f 62))
  (case h63 => exact of_decide_eq_true (allY c.f 63))
  (case h64 => exact of_decide_eq_true (allY c.f 64))
  (case h65 => exact of_decide_eq_true (allY c.f 65))
  (case h66 => exact of_decide_eq_true (allY c.f 66))
  (case h67 => exact of_decide_eq_true (allY c.f 67))
  (case h68 => exact of_decide_eq_true (allY c.f 68))
  (case h69 => exact of_decide_eq_true (allY c.f 69))
  (case h70 => exact of_decide_eq_true (allY c.f 70))
  (case h71 => exact of_decide_eq_true (allY c.f 71))
  (case h72 => exact of_decide_eq_true (allY c.f 72))
  (case h73 => exact of_decide_eq_true (allY c.f 73))
  (case h74 => exact of_decide_eq_true (allY c.f 74))
  (case h75 => exact of_decide_eq_true (allY c.f 75))
  (case h76 => exact of_decide_eq_true (allY c.f 76))
  (case h77 => exact of_decide_eq_true (allY c.f 77))
  (case h78 => exact of_decide_eq_true (allY c.f 78))
  (case h79 => exact of_decide_eq_true (allY c.f 79))
  (case h80 => exact of_decide_eq_true (allY c.f 80))
  (case h81 => exact of_decide_eq_true (allY c.f 81))
  (case h82 => exact of_decide_eq_true (allY c.f 82))
  (case h83 => exact of_decide_eq_true (allY c.f 83))
  (case h84 => exact of_decide_eq_true (allY c.f 84))
  (case h85 => exact of_decide_eq_true (allY c.f 85))
  (case h86 => exact of_decide_eq_true (allY c.f 86))
  (case h87 => exact of_decide_eq_true (allY c.f 87))
  (case h88 => exact of_decide_eq_true (allY c.f 88))
  (case h89 => exact of_decide_eq_true (allY c.f 89))
  (case h90 => exact of_decide_eq_true (allY c.f 90))
  (case h91 => exact of_decide_eq_true (allY c.f 91))
  (case h92 => exact of_decide_eq_true (allY c.f 92))
  (case h93 => exact of_decide_eq_true (allY c.f 93))
  (case h94 => exact of_decide_eq_true (allY c.f 94))
  (case h95 => exact of_decide_eq_true (allY c.f 95))
  (case h96 => exact of_decide_eq_true (allY c.f 96))
  (case h97 => exact of_decide_eq_true (allY c.f 97))
  (case h98 => exact of_decide_eq_true (allY c.f 98))
  (case h99 => exact of_decide_eq_true (allY c.f 99))
  (case h100 => exact of_decide_eq_true (allY c.f 100))
  (case h101 => exact of_decide_eq_true (allY c.f 101))
  (case h102 => exact of_decide_eq_true (allY c.f 102))
  (case h103 => exact of_decide_eq_true (allY c.f 103))
  (case h104 => exact of_decide_eq_true (allY c.f 104))
  (case h105 => exact of_decide_eq_true (allY c.f 105))
  (case h106 => exact of_decide_eq_true (allY c.f 106))
  (case h107 => exact of_decide_eq_true (allY c.f 107))
  (case h108 => exact of_decide_eq_true (allY c.f 108))
  (case h109 => exact of_decide_eq_true (allY c.f 109))
  (case h110 => exact of_decide_eq_true (allY c.f 110))
  (case h111 => exact of_decide_eq_true (allY c.f 111))
  (case h112 => exact of_decide_eq_true (allY c.f 112))
  (case h113 => exact of_decide_eq_true (allY c.f 113))
  (case h114 => exact of_decide_eq_true (allY c.f 114))
  (case h115 => exact of_decide_eq_true (allY c.f 115))
  (case h116 => exact of_decide_eq_true (allY c.f 116))
  (case h117 => exact of_decide_eq_true (allY c.f 117))
  (case h118 => exact of_decide_eq_true (allY c.f 118))
  (case h119 => exact of_decide_eq_true (allY c.f 119))
  (case h120 => exact of_decide_eq_true (allY c.f 120))
  (case h121 => exact of_decide_eq_true (allY c.f 121))
  (case h122 => exact of_decide_eq_true (allY c.f 122))
  (case h123 => exact of_decide_eq_true (allY c.f 123))
  (case h124 => exact of_decide_eq_true (allY c.f 124))
  (case h125 => exact of_decide_eq_true (allY c.f 125))
  (case h126 => exact of_decide_eq_true (allY c.f 126))
  (case h127 => exact of_decide_eq_true (allY c.f 127))
  (case h128 => exact of_decide_eq_true (allY c.f 128))
  (case h129 => exact of_decide_eq_true (allY c.f 129))
  (case h130 => exact of_decide_eq_true (allY c.f 130))
  (case h131 => exact of_decide_eq_true (allY c.f 131))
  (case h132 => exact of_decide_eq_true (allY c.f 132))
  (case h133 => exact of_decide_eq_true (allY c.f 133))
  (case h134 => exact of_decide_eq_true (allY c.f 134))
  (case h135 => exact of_decide_eq_true (allY c.f 135))
  (case h136 => exact of_decide_eq_true (allY c.f 136))
  (case h137 => exact of_decide_eq_true (allY c.f 137))
  (case h138 => exact of_decide_eq_true (allY c.f 138))
  (case h139 => exact of_decide_eq_true (allY c.f 139))
  (case h140 => exact of_decide_eq_true (allY c.f 140))
  (case h141 => exact of_decide_eq_true (allY c.f 141))
  (case h142 => exact of_decide_eq_true (allY c.f 142))
  (case h143 => exact of_decide_eq_true (allY c.f 143))
  (case h144 => exact of_decide_eq_true (allY c.f 144))
  (case h145 => exact of_decide_eq_true (allY c.f 145))
  (case h146 => exact of_decide_eq_true (allY c.f 146))
  (case h147 => exact of_decide_eq_true (allY c.f 147))
  (case h148 => exact of_decide_eq_true (allY c.f 148))
  (case h149 => exact of_decide_eq_true (allY c.f 149))
  (case h150 => exact of_decide_eq_true (allY c.f 150))
  (case h151 => exact of_decide_eq_true (allY c.f 151))
  (case h152 => exact of_decide_eq_true (allY c.f 152))
  (case h153 => exact of_decide_eq_true (allY c.f 153))
  (case h154 => exact of_decide_eq_true (allY c.f 154))
  (case h155 => exact of_decide_eq_true (allY c.f 155))
  (case h156 => exact of_decide_eq_true (allY c.f 156))
  (case h157 => exact of_decide_eq_true (allY c.f 157))
  (case h158 => exact of_decide_eq_true (allY c.f 158))
  (case h159 => exact of_decide_eq_true (allY c.f 159))
  (case h160 => exact of_decide_eq_true (allY c.f 160))
  (case h161 => exact of_decide_eq_true (allY c.f 161))
  (case h162 => exact of_decide_eq_true (allY c.f 162))
  (case h163 => exact of_decide_eq_true (allY c.f 163))
  (case h164 => exact of_decide_eq_true (allY c.f 164))
  (case h165 => exact of_decide_eq_true (allY c.f 165))
  (case h166 => exact of_decide_eq_true (allY c.f 166))
  (case h167 => exact of_decide_eq_true (allY c.f 167))
  (case h168 => exact of_decide_eq_true (allY c.f 168))
  (case h169 => exact of_decide_eq_true (allY c.f 169))
  (case h170 => exact of_decide_eq_true (allY c.f 170))
  (case h171 => exact of_decide_eq_true (allY c.f 171))
  (case h172 => exact of_decide_eq_true (allY c.f 172))
  (case h173 => exact of_decide_eq_true (allY c.f 173))
  (case h174 => exact of_decide_eq_true (allY c.f 174))
  (case h175 => exact of_decide_eq_true (allY c.f 175))
  (case h176 => exact of_decide_eq_true (allY c.f 176))
  (case h177 => exact of_decide_eq_true (allY c.f 177))
  (case h178 => exact of_decide_eq_true (allY c.f 178))
  (case h179 => exact of_decide_eq_true (allY c.f 179))
  (case h180 => exact of_decide_eq_true (allY c.f 180))
  (case h181 => exact of_decide_eq_true (allY c.f 181))
  (case h182 => exact of_decide_eq_true (allY c.f 182))
  (case h183 => exact of_decide_eq_true (allY c.f 183))
  (case h184 => exact of_decide_eq_true (allY c.f 184))
  (case h185 => exact of_decide_eq_true (allY c.f 185))
  (case h186 => exact of_decide_eq_true (allY c.f 186))
  (case h187 => exact of_decide_eq_true (allY c.f 187))
  (case h188 => exact of_decide_eq_true (allY c.f 188))
  (case h189 => exact of_decide_eq_true (allY c.f 189))
  (case h190 => exact of_decide_eq_true (allY c.f 190))
  (case h191 => exact of_decide_eq_true (allY c.f 191))
  (case h192 => exact of_decide_eq_true (allY c.f 192))
  (case h193 => exact of_decide_eq_true (allY c.f 193))
  (case h194 => exact of_decide_eq_true (allY c.f 194))
  (case h195 => exact of_decide_eq_true (allY c.f 195))
  (case h196 => exact of_decide_eq_true (allY c.f 196))
  (case h197 => exact of_decide_eq_true (allY c.f 197))
  (case h198 => exact of_decide_eq_true (allY c.f 198))
  (case h199 => exact of_decide_eq_true (allY c.f 199))
  (case h200 => exact of_decide_eq_true (allY c.f 200))
  (case h201 => exact of_decide_eq_true (allY c.f 201))
  (case h202 => exact of_decide_eq_true (allY c.f 202))
  (case h203 => exact of_decide_eq_true (allY c.f 203))
  (case h204 => exact of_decide_eq_true (allY c.f 204))
  (case h205 => exact of_decide_eq_true (allY c.f 205))
  (case h206 => exact of_decide_eq_true (allY c.f 206))
  (case h207 => exact of_decide_eq_true (allY c.f 207))
  (case h208 => exact of_decide_eq_true (allY c.f 208))
  (case h209 => exact of_decide_eq_true (allY c.f 209))
  (case h210 => exact of_decide_eq_true (allY c.f 210))
  (case h211 => exact of_decide_eq_true (allY c.f 211))
  (case h212 => exact of_decide_eq_true (allY c.f 212))
  (case h213 => exact of_decide_eq_true (allY c.f 213))
  (case h214 => exact of_decide_eq_true (allY c.f 214))
  (case h215 => exact of_decide_eq_true (allY c.f 215))
  (case h216 => exact of_decide_eq_true (allY c.f 216))
  (case h217 => exact of_decide_eq_true (allY c.f 217))
  (case h218 => exact of_decide_eq_true (allY c.f 218))
  (case h219 => exact of_decide_eq_true (allY c.f 219))
  (case h220 => exact of_decide_eq_true (allY c.f 220))
  (case h221 => exact of_decide_eq_true (allY c.f 221))
  (case h222 => exact of_decide_eq_true (allY c.f 222))
  (case h223 => exact of_decide_eq_true (allY c.f 223))
  (case h224 => exact of_decide_eq_true (allY c.f 224))
  (case h225 => exact of_decide_eq_true (allY c.f 225))
  (case h226 => exact of_decide_eq_true (allY c.f 226))
  (case h227 => exact of_decide_eq_true (allY c.f 227))
  (case h228 => exact of_decide_eq_true (allY c.f 228))
  (case h229 => exact of_decide_eq_true (allY c.f 229))
  (case h230 => exact of_decide_eq_true (allY c.f 230))
  (case h231 => exact of_decide_eq_true (allY c.f 231))
  (case h232 => exact of_decide_eq_true (allY c.f 232))
  (case h233 => exact of_decide_eq_true (allY c.f 233))
  (case h234 => exact of_decide_eq_true (allY c.f 234))
  (case h235 => exact of_decide_eq_true (allY c.f 235))
  (case h236 => exact of_decide_eq_true (allY c.f 236))
  (case h237 => exact of_decide_eq_true (allY c.f 237))
  (case h238 => exact of_decide_eq_true (allY c.f 238))
  (case h239 => exact of_decide_eq_true (allY c.f 239))
  (case h240 => exact of_decide_eq_true (allY c.f 240))
  (case h241 => exact of_decide_eq_true (allY c.f 241))
  (case h242 => exact of_decide_eq_true (allY c.f 242))
  (case h243 => exact of_decide_eq_true (allY c.f 243))
  (case h244 => exact of_decide_eq_true (allY c.f 244))
  (case h245 => exact of_decide_eq_true (allY c.f 245))
  (case h246 => exact of_decide_eq_true (allY c.f 246))
  (case h247 => exact of_decide_eq_true (allY c.f 247))
  (case h248 => exact of_decide_eq_true (allY c.f 248))
  (case h249 => exact of_decide_eq_true (allY c.f 249))
  (case h250 => exact of_decide_eq_true (allY c.f 250))
  (case h251 => exact of_decide_eq_true (allY c.f 251))
  (case h252 => exact of_decide_eq_true (allY c.f 252))
  (case h253 => exact of_decide_eq_true (allY c.f 253))
  (case h254 => exact of_decide_eq_true (allY c.f 254))
  (case h255 => exact of_decide_eq_true (allY c.f 255))
  (case h256 => exact of_decide_eq_true (allY c.f 256))
  (case h257 => exact of_decide_eq_true (allY c.f 257))
  (case h258 => exact of_decide_eq_true (allY c.f 258))
  (case h259 => exact of_decide_eq_true (allY c.f 259))
  (case h260 => exact of_decide_eq_true (allY c.f 260))
  (case h261 => exact of_decide_eq_true (allY c.f 261))
  (case h262 => exact of_decide_eq_true (allY c.f 262))
  (case h263 => exact of_decide_eq_true (allY c.f 263))
  (case h264 => exact of_decide_eq_true (allY c.f 264))
  (case h265 => exact of_decide_eq_true (allY c.f 265))
  (case h266 => exact of_decide_eq_true (allY c.f 266))
  (case h267 => exact of_decide_eq_true (allY c.f 267))
  (case h268 => exact of_decide_eq_true (allY c.f 268))
  (case h269 => exact of_decide_eq_true (allY c.f 269))
  (case h270 => exact of_decide_eq_true (allY c.f 270))
  (case h271 => exact of_decide_eq_true (allY c.f 271))
  (case h272 => exact of_decide_eq_true (allY c.f 272))
  (case h273 => exact of_decide_eq_true (allY c.f 273))
  (case h274 => exact of_decide_eq_true (allY c.f 274))
  (case h275 => exact of_decide_eq_true (allY c.f 275))
  (case h276 => exact xl_1)
  (case h277 => exact xt_1)
  (case h278 => exact of_decide_eq_true (allY c.f 278))
  (case h279 => exact i0_1)
  (case h280 => exact i1_1)
  (case h281 => exact i2_1)
  (case h282 => exact i3_1)
  (case h283 => exact i4_1)
  (case h284 => exact beq_self_eq_true _)
  (case h285 => exact g0_1)
  (case h286 => exact g1_1)
  (case h287 => exact g2_1)
  (case h288 => exact g3_1)
  (case h289 => exact g4_1)
  (case h290 => exact g5_1)
  (case h291 => exact g6_1)
  (case h292 => exact g7_1)
  (case h293 => exact g8_1)
  (case h294 => exact g9_1)
  (case h295 => exact fun s a b => BindsTo.of_eq rfl)
  (case h296 => exact of_decide_eq_true (allY c.f 279))
  (case h297 => exact of_decide_eq_true (allY c.f 280))
  (case h298 => exact of_decide_eq_true (allY c.f 281))
  (case h299 => exact of_decide_eq_true (allY c.f 282))
  (case h300 => exact of_decide_eq_true (allY c.f 283))
  (case h301 => exact of_decide_eq_true (allY c.f 284))
  (case h302 => exact of_decide_eq_true (allY c.f 285))
  (case h303 => exact of_decide_eq_true (allY c.f 286))
  (case h304 => exact of_decide_eq_true (allY c.f 287))
  (case h305 => exact of_decide_eq_true (allY c.f 288))
  (case h306 => exact of_decide_eq_true (allY c.f 289))
  (case h307 => decide +kernel)
  (case h308 => exact xl_4)
  (case h309 => exact xt_4)
  (case h310 => exact of_decide_eq_true (allY c.f 292))
  (case h311 => exact i0_4)
  (case h312 => exact i1_4)
  (case h313 => exact i2_4)
  (case h314 => exact i3_4)
  (case h315 => exact i4_4)
  (case h316 => exact beq_self_eq_true _)
  (case h317 => exact g0_4)
  (case h318 => exact g1_4)
  (case h319 => exact g2_4)
  (case h320 => exact g3_4)
  (case h321 => exact g4_4)
  (case h322 => exact g5_4)
  (case h323 => exact g6_4)
  (case h324 => exact g7_4)
  (case h325 => exact g8_4)
  (case h326 => exact g9_4)
  (case h327 => exact fun s a b => BindsTo.of_eq rfl)
  (case h328 => exact of_decide_eq_true (allY c.f 293))
  (case h329 => exact of_decide_eq_true (allY c.f 294))
  (case h330 => exact of_decide_eq_true (allY c.f 295))
  (case h331 => exact of_decide_eq_true (allY c.f 296))
  (case h332 => exact of_decide_eq_true (allY c.f 297))
  (case h333 => exact of_decide_eq_true (allY c.f 298))
  (case h334 => exact of_decide_eq_true (allY c.f 299))
  (case h335 => exact of_decide_eq_true (allY c.f 300))
  (case h336 => exact of_decide_eq_true (allY c.f 301))
  (case h337 => exact xl_2)
  (case h338 => exact xt_2)
  (case h339 => exact of_decide_eq_true (allY c.f 304))
  (case h340 => exact i0_2)
  (case h341 => exact i1_2)
  (case h342 => exact i2_2)
  (case h343 => exact i3_2)
  (case h344 => exact i4_2)
  (case h345 => exact beq_self_eq_true _)
  (case h346 => exact g0_2)
  (case h347 => exact g1_2)
  (case h348 => exact g2_2)
  (case h349 => exact g3_2)
  (case h350 => exact g4_2)
  (case h351 => exact g5_2)
  (case h352 => exact g6_2)
  (case h353 => exact g7_2)
  (case h354 => exact g8_2)
  (case h355 => exact g9_2)
  (case h356 => exact fun s a b => BindsTo.of_eq rfl)
  (case h357 => exact of_decide_eq_true (allY c.f 305))
  (case h358 => exact of_decide_eq_true (allY c.f 306))
  (case h359 => exact of_decide_eq_true (allY c.f 307))
  (case h360 => exact of_decide_eq_true (allY c.f 308))
  (case h361 => exact of_decide_eq_true (allY c.f 309))
  (case h362 => exact of_decide_eq_true (allY c.f 310))
  (case h363 => exact of_decide_eq_true (allY c.f 311))
  (case h364 => exact of_decide_eq_true (allY c.f 312))
  (case h365 => exact of_decide_eq_true (allY c.f 313))
  (case h366 => exact of_decide_eq_true (allY c.f 314))
  (case h367 => exact of_decide_eq_true (allY c.f 315))
  (case h368 => exact of_decide_eq_true (allY c.f 316))
  (case h369 => exact of_decide_eq_true (allY c.f 317))
  (case h370 => exact of_decide_eq_true (allY c.f 318))
  (case h371 => exact of_decide_eq_true (allY c.f 319))
  (case h372 => exact of_decide_eq_true (allY c.f 320))
  (case h373 => exact of_decide_eq_true (allY c.f 321))
  (case h374 => exact of_decide_eq_true (allY c.f 322))
  (case h375 => exact of_decide_eq_true (allY c.f 323))
  (case h376 => exact of_decide_eq_true (allY c.f 324))
  (case h377 => exact of_decide_eq_true (allY c.f 325))
  (case h378 => exact of_decide_eq_true (allY c.f 326))
  (case h379 => exact of_decide_eq_true (allY c.f 327))
  (case h380 => exact of_decide_eq_true (allY c.f 328))
  (case h381 => exact of_decide_eq_true (allY c.f 329))
  (case h382 => exact of_decide_eq_true (allY c.f 330))
  (case h383 => exact of_decide_eq_true (allY c.f 331))
  (case h384 => exact of_decide_eq_true (allY c.f 332))
  (case h385 => exact of_decide_eq_true (allY c.f 333))
  (case h386 => exact of_decide_eq_true (allY c.f 334))
  (case h387 => exact of_decide_eq_true (allY c.f 335))
  (case h388 => exact of_decide_eq_true (allY c.f 336))
  (case h389 => exact l5)
  (case h390 => exact k5)
  (case h391 => exact l6)
  (case h392 => exact k6)
  (case h393 => exact l7)
  (case h394 => exact k7)
  (case h395 => exact l8)
  (case h396 => exact k8)
  (case h397 => exact l9)
  (case h398 => exact k9)
  (case h399 => exact l10)
  (case h400 => exact k10)
  (case h401 => exact l11)
  (case h402 => exact k11)
  (case h403 => exact l12)
  (case h404 => exact k12)
  (case h405 => exact l13)
  (case h406 => exact k13)
  (case h407 => exact l14)
  (case h408 => exact k14)
  (case h409 => exact l15)
  (case h410 => exact k15)
  (case h411 => exact l16)
  (case h412 => exact k16)
  (case h413 => exact l17)
  (case h414 => exact k17)
  (case h415 => exact l18)
  (case h416 => exact k18)
  (case h417 => exact l19)
  (case h418 => exact k19)
  (case h419 => exact l20)
  (case h420 => exact k20)
  (case h421 => exact l21)
  (case h422 => exact k21)
  (case h423 => exact l22)
  (case h424 => exact k22)
  (case h425 => exact lt22)
  (case h426 => exact dd_22)
  (case h427 => exact l23)
  (case h428 => exact k23)
  (case h429 => exact l24)
  (case h430 => exact k24)
  (case h431 => exact l25)
  (case h432 => exact k25)
  (case h433 => exact l26)
  (case h434 => exact k26)
  (case h435 => exact l27)
  (case h436 => exact k27)
  (case h437 => exact l28)
  (case h438 => exact k28)
  (case h439 => exact l45)
  (case h440 => exact k45)
  (case h441 => exact l46)
  (case h442 => exact k46)
  (case h443 => exact l48)
  (case h444 => exact k48)
  (case h445 => exact l62)
  (case h446 => exact k62)
  (case h447 => exact l63)
  (case h448 => exact k63)
  (case h449 => exact l64)
  (case h450 => exact k64)
  (case h451 => exact l65)
  (case h452 => exact k65)
  (case h453 => exact l66)
  (case h454 => exact k66)
  (case h455 => exact l67)
  (case h456 => exact k67)
  (case h457 => exact l68)
  (case h458 => exact k68)
  (case h459 => exact l69)
  (case h460 => exact k69)
  (case h461 => exact l70)
  (case h462 => exact k70)
  (case h463 => exact l71)
  (case h464 => exact k71)
  (case h465 => exact l72)
  (case h466 => exact k72)
  (case h467 => exact l73)
  (case h468 => exact k73)
  (case h469 => exact l81)
  (case h470 => exact k81)
  (case h471 => exact l82)
  (case h472 => exact k82)
  (case h473 => exact l83)
  (case h474 => exact k83)
  (case h475 => exact l84)
  (case h476 => exact k84)
  (case h477 => exact l85)
  (case h478 => exact k85)
  (case h479 => exact l86)
  (case h480 => exact k86)
theorem runY (w : World) : HandSHeadRun.RunEq R (PySem.W.view R.prog [54]) hk ob 40000 loose w := by
  intro os
  kernel_rfl
end Dr.L
open PySem PySem.W PySem.Calls PyProof.Rows Dr in
set_option maxRecDepth 100000 in
set_option maxHeartbeats 0 in
theorem PySem.Challenge.cw_deadrules_k18_sheets_refused_holds : PySem.Challenge.rw_deadrules_k18_sheets_refused.Holds := by
  w_on; o_law
  refine HandSHeadRun.head_any (r := OpenLaw.row PySem.Challenge.rw_deadrules_k18_sheets_refused) (q := view (OpenLaw.row PySem.Challenge.rw_deadrules_k18_sheets_refused).prog [54]) (H := Dr.L.hk) (ob := Dr.L.ob) (M := 40000) (loose := Dr.L.loose) (d := HandSHeadRun.topDef (OpenLaw.row PySem.Challenge.rw_deadrules_k18_sheets_refused).prog 54) (kwd := []) Dr.L.ob_eq
    (by kernel_rfl) (fun s => by kernel_rfl) Dr.L.runY (by kernel_rfl) (by kernel_rfl) (by kernel_rfl) (by rfl) (by first | assumption | decide +kernel) (by decide +kernel) ⟨rfl, rfl, rfl, rfl, rfl, by decide +kernel⟩ ?hw ?hc
  case hw => w_witness2
  case hc =>
    refine Dr.walkY (l := PySem.Challenge.rw_deadrules_k18_sheets_refused) (n := 63) (k := 2 * 60 + 2) (x := "_law_script") (sp := Dr.L.spL) rfl (by decide) (by kernel_rfl) ⟨rfl, by decide, by decide⟩ ?F (fun K H a ns hl hb hO hS => ⟨a, ns, rfl, hO, hS, hl, hb, fun _ => rfl⟩)
    intro w mg fa h Y G hmg0
    obtain ⟨K, KX, c⟩ := Y
    refine ⟨K, KX, ?_⟩
    have hmg : mg ("law" : PySem.Str) = some (.ref fa) := by
      have e : (HandSHeadRun.topDef (OpenLaw.row PySem.Challenge.rw_deadrules_k18_sheets_refused).prog 54).name = ("law" : PySem.Str) := by kernel_rfl
      rw [← e]
      exact hmg0
    exact Dr.L.facts KX G hmg c
