import PyProof.Rows.All
import Wide.All
import OpenK.AllK
import Wide.FinOn
import HandS.ForMost
import HandS.ForExc
import HandS.Slots
import HandS.TupAny
import HandS.Star
import HandS.RevRange
import HandS.SlotsOwn
import KE.KExcSuper
import KE.KExcInit
import HandS.Deep
import HandS.IsInst
import HandS.StrMore
import HandS.FStr
import HandS.Style
import HandS.TryMany
import HandS.ExcField
import HandS.ExcIs
import PyProof.ReprRoads
import PyProof.RulesMatch
import HandS.Flow
import HandS.EndBits
import HandS.Defaults
import HandS.SortInts
import HandS.SetKeys
import HandS.Small
import KE.KSortedM
import HandS.Strs
import HandS.DictComp
import HandS.ExcValue
import KE.KExcLine
import PySem.Challenge.RW_deadrules_k01_whole_documents_read
set_option Elab.async false
set_option linter.all false
set_option maxRecDepth 100000
namespace Dr
open PySem L2

/-! values and objects of the small language -/
inductive W where
  | non | bl (b : Bool) | int (i : Int) | str (x : Str) | tup (ws : List W) | ref (n : Nat) | cls (c : Nat)
  deriving Inhabited
inductive IO where
  | lst (ws : List W) | rol (ws : List W) | ins (c : Nat) (fs : List (Str × W)) | slt (c : Nat) (vs : List (Option W)) | dic (kvs : List (Key × W)) | exc (c : Nat) (f : Str) (w : W)
  deriving Inhabited
abbrev IH := List IO
abbrev Sg := List (Option W)
/-- what a piece of text comes to -/
inductive Out where
  | v (w : W) (h : IH) | vs (ws : List W) (h : IH) | nx (s : Sg) (h : IH) | rt (w : W) (h : IH) | bk (s : Sg) (h : IH) | ct (s : Sg) (h : IH)
  | ex (c : Nat) (w : W) (s : Sg) (h : IH) | no

def Out.vb : Out → (W → IH → Out) → Out
  | .v w h, k => k w h
  | .ex c w s h, _ => .ex c w s h
  | _, _ => .no
def Out.vsb : Out → (List W → IH → Out) → Out
  | .vs w h, k => k w h
  | .ex c w s h, _ => .ex c w s h
  | _, _ => .no
def Out.nb : Out → (Sg → IH → Out) → Out
  | .nx s h, k => k s h
  | .v _ _, _ => .no
  | .vs _ _, _ => .no
  | o, _ => o
def Out.cb (s : Sg) : Out → Out
  | .v w h => .v w h
  | .ex c w _ h => .ex c w s h
  | _ => .no
/-- a call's end -/
def Out.fin : Out → Out
  | .rt w h => .v w h
  | .nx _ h => .v .non h
  | .ex c w s h => .ex c w s h
  | _ => .no

/-! how they stand in the heap -/
section
variable (K : PySem.W.Frag) (cl : Nat → Addr)
mutual
inductive RW (m : Nat → Addr) (L : Nat) (H : Hp) : W → V → Prop
  | non : RW m L H .non .non
  | bl (b : Bool) : RW m L H (.bl b) (.bl b)
  | int (i : Int) : RW m L H (.int i) (.int i)
  | str (x : Str) : RW m L H (.str x) (.str x)
  | tup {p : Addr} {vs : List V} {ws : List W} : SqT K H p vs → RWs m L H ws vs → RW m L H (.tup ws) (.ref p)
  | ref (n : Nat) : n < L → RW m L H (.ref n) (.ref (m n))
  | cls (c : Nat) : RW m L H (.cls c) (.ref (cl c))
inductive RWs (m : Nat → Addr) (L : Nat) (H : Hp) : List W → List V → Prop
  | nil : RWs m L H [] []
  | cons {w : W} {v : V} {ws : List W} {vs : List V} : RW m L H w v → RWs m L H ws vs → RWs m L H (w :: ws) (v :: vs)
end
/-- what stands beside an instance -/
def Bes (u : HO) : Prop := (∃ x, u = .own x) ∨ u = .xd []
/-- from one state to a later one -/
structure Ext (m : Nat → Addr) (L : Nat) (H : Hp) (m' : Nat → Addr) (L' : Nat) (H' : Hp) : Prop where
  le : L ≤ L'
  eq : ∀ n, n < L → m' n = m n
  tup : ∀ p xs, SqT K H p xs → SqT K H' p xs
  xd : ∀ d p ps, H d = some (.xd (p :: ps)) → H' d = some (.xd (p :: ps))
  fr : ∀ a u, H a = some u → (∀ n, n < L → m n ≠ a) → ¬ Bes u → H' a = some u
  fd : ∀ d x, H d = some (.own x) → H x ≠ none → (∀ n, n < L → m n ≠ x) → H' d = some (.own x)
  fx : ∀ d, H d = some (.xd []) → H' d = some (.xd [])
  new : ∀ n, L ≤ n → n < L' → H (m' n) = none
  dom : ∀ a, H a ≠ none → H' a ≠ none
end
section
variable {K : PySem.W.Frag} {cl : Nat → Addr} {m m' m'' : Nat → Addr} {L L' L'' : Nat} {H H' H'' : Hp}
theorem Ext.refl : Ext K m L H m L H := ⟨Nat.le_refl _, fun _ _ => rfl, fun _ _ h => h, fun _ _ _ h => h, fun _ _ h _ _ => h, fun _ _ h _ _ => h, fun _ h => h, fun n h1 h2 => absurd h2 (Nat.not_lt.mpr h1), fun _ h => h⟩
theorem off {x : Addr} {u : HO} (a : Ext K m L H m' L' H') (h : H x = some u) (hn : ∀ n, n < L → m n ≠ x) : ∀ n, n < L' → m' n ≠ x := fun n hl e => by
  by_cases q : n < L
  · rw [a.eq n q] at e; exact hn n q e
  · have z := a.new n (Nat.le_of_not_lt q) hl
    rw [e, h] at z
    cases z
theorem Ext.trans (a : Ext K m L H m' L' H') (b : Ext K m' L' H' m'' L'' H'') : Ext K m L H m'' L'' H'' :=
  ⟨Nat.le_trans a.le b.le, fun n hn => (b.eq n (Nat.lt_of_lt_of_le hn a.le)).trans (a.eq n hn), fun p xs h => b.tup p xs (a.tup p xs h), fun d p ps h => b.xd d p ps (a.xd d p ps h),
    fun x u h hn nb => b.fr x u (a.fr x u h hn nb) (off a h hn) nb,
    fun d x h hx hn => by
      obtain ⟨u, hu⟩ := Option.ne_none_iff_exists'.mp hx
      exact b.fd d x (a.fd d x h hx hn) (a.dom x hx) (off a hu hn),
    fun d h => b.fx d (a.fx d h),
    fun n h1 h2 => by
      by_cases q : n < L'
      · rw [b.eq n q]; exact a.new n h1 q
      · have z := b.new n (Nat.le_of_not_lt q) h2
        cases e : H (m'' n) with
        | none => rfl
        | some u => exact absurd z (a.dom _ (by rw [e]; exact fun h => by cases h)),
    fun x h => b.dom x (a.dom x h)⟩
mutual
theorem RW.mono (e : Ext K m L H m' L' H') : ∀ {w : W} {v : V}, RW K cl m L H w v → RW K cl m' L' H' w v
  | _, _, .non => .non
  | _, _, .bl b => .bl b
  | _, _, .int i => .int i
  | _, _, .str x => .str x
  | _, _, .tup h hs => .tup (e.tup _ _ h) (RWs.mono e hs)
  | _, _, .ref n hn => by
    have q := RW.ref (K := K) (cl := cl) (m := m') (L := L') (H := H') n (Nat.lt_of_lt_of_le hn e.le)
    rw [e.eq n hn] at q
    exact q
  | _, _, .cls c => .cls c
theorem RWs.mono (e : Ext K m L H m' L' H') : ∀ {ws : List W} {vs : List V}, RWs K cl m L H ws vs → RWs K cl m' L' H' ws vs
  | _, _, .nil => .nil
  | _, _, .cons a b => .cons (RW.mono e a) (RWs.mono e b)
end
theorem RWs.length : ∀ {ws : List W} {vs : List V}, RWs K cl m L H ws vs → ws.length = vs.length
  | _, _, .nil => rfl
  | _, _, .cons _ b => by simp [RWs.length b]
theorem RWs.get : ∀ {ws : List W} {vs : List V} {i : Nat} {w : W}, RWs K cl m L H ws vs → ws[i]? = some w → ∃ v, vs[i]? = some v ∧ RW K cl m L H w v
  | _, _, _, _, .nil, e => by simp at e
  | _, _, 0, _, .cons a _, e => by simp at e; subst e; exact ⟨_, rfl, a⟩
  | _, _, i + 1, w, .cons _ b, e => by
    obtain ⟨v, h1, h2⟩ := RWs.get (i := i) (w := w) b (by simpa using e)
    exact ⟨v, by simpa using h1, h2⟩
theorem RWs.append : ∀ {ws : List W} {vs : List V} {ws' : List W} {vs' : List V}, RWs K cl m L H ws vs → RWs K cl m L H ws' vs' → RWs K cl m L H (ws ++ ws') (vs ++ vs')
  | _, _, _, _, .nil, s => s
  | _, _, _, _, .cons a b, s => .cons a (RWs.append b s)
theorem RWs.take : ∀ {ws : List W} {vs : List V} (n : Nat), RWs K cl m L H ws vs → RWs K cl m L H (ws.take n) (vs.take n)
  | _, _, 0, _ => .nil
  | _, _, _ + 1, .nil => .nil
  | _, _, n + 1, .cons a b => .cons a (RWs.take n b)
theorem RWs.drop : ∀ {ws : List W} {vs : List V} (n : Nat), RWs K cl m L H ws vs → RWs K cl m L H (ws.drop n) (vs.drop n)
  | _, _, 0, r => r
  | _, _, _ + 1, .nil => .nil
  | _, _, n + 1, .cons _ b => RWs.drop n b
theorem RWs.set {w : W} {v : V} (a : RW K cl m L H w v) : ∀ {ws : List W} {vs : List V} (i : Nat), RWs K cl m L H ws vs → RWs K cl m L H (ws.set i w) (vs.set i v)
  | _, _, _, .nil => .nil
  | _, _, 0, .cons _ b => .cons a b
  | _, _, i + 1, .cons q b => .cons q (RWs.set a i b)
end

/-- what a proof holds fixed: the written part, the classes' places, the errors' field names; within an except suite the slot and place of the error, its dict, class and value -/
structure Cfg where
  K : PySem.W.Frag
  cl : Nat → Addr
  fn : Nat → Str
  xs : Option (Nat × Addr) := none
  xd : Option (Addr × Nat × W) := none
/-- the slots -/
structure RSt (G : Cfg) (m : Nat → Addr) (L : Nat) (H : Hp) (σ : Sg) (τ : St) : Prop where
  len : σ.length = τ.length
  get : ∀ (i : Nat) (w : W), σ[i]? = some (some w) → ∃ v : V, τ[i]? = some (some v) ∧ RW G.K G.cl m L H w v
  xs : ∀ i a, G.xs = some (i, a) → σ[i]? = some none → τ[i]? = some (some (.ref a))
  xd : ∀ d c w, G.xd = some (d, c, w) → ∃ v : V, H d = some (.xd [(G.fn c, v)]) ∧ RW G.K G.cl m L H w v
/-- fields -/
inductive RF (K : PySem.W.Frag) (cl m : Nat → Addr) (L : Nat) (H : Hp) : List (Str × W) → List (Str × V) → Prop
  | nil : RF K cl m L H [] []
  | cons {f : Str} {w : W} {v : V} {ws : List (Str × W)} {vs : List (Str × V)} : RW K cl m L H w v → RF K cl m L H ws vs → RF K cl m L H ((f, w) :: ws) ((f, v) :: vs)
inductive RK (K : PySem.W.Frag) (cl m : Nat → Addr) (L : Nat) (H : Hp) : List (Key × W) → List (Key × V) → Prop
  | nil : RK K cl m L H [] []
  | cons {f : Key} {w : W} {v : V} {ws : List (Key × W)} {vs : List (Key × V)} : RW K cl m L H w v → RK K cl m L H ws vs → RK K cl m L H ((f, w) :: ws) ((f, v) :: vs)
/-- a list of the written part -/
def KL (K : PySem.W.Frag) (a : Addr) (xs : List V) : Prop := ∃ (o : Obj) (its : Array Value) (n : Nat), K.lookup a = some o ∧ o.cls = .type "list" ∧ o.dict = none ∧ o.data = .seq its n ∧ its.size ≤ sizeLine ∧ Vals xs its.toList
/-- an error held as a value -/
abbrev ExV (cls : Value) (d a : Addr) : HO := .ext fun h => ∃ (oe : Obj) (vs : Array Value), h.get? a = some oe ∧ Zc cls (some d) oe ∧ oe.data = .fields vs
def IO.own : IO → Bool
  | .rol _ => false
  | _ => true
/-- an object -/
def OR (K : PySem.W.Frag) (cl m : Nat → Addr) (L : Nat) (H : Hp) (a : Addr) : IO → Prop
  | .lst ws => ∃ vs, H a = some (.lst vs) ∧ RWs K cl m L H ws vs
  | .rol ws => ∃ vs, ((∃ o, H a = some (.frz o (.lst vs))) ∨ KL K a vs) ∧ RWs K cl m L H ws vs
  | .ins c fs => ∃ dx fvs, H a = some (.ins (cl c) dx fvs) ∧ RF K cl m L H fs fvs
  | .dic kvs => ∃ vs, H a = some (.dK vs) ∧ RK K cl m L H kvs vs
  | .exc c f w => ∃ d v, H a = some (ExV (.ref (cl c)) d a) ∧ H d = some (.xd [(f, v)]) ∧ RW K cl m L H w v
  | .slt c ws => ∃ dx vs, ((H a = some (.ins (cl c) dx []) ∧ vs = [] ∧ H dx = some (.own a)) ∨ (H a = some (SlX.SlO a (cl c) dx vs) ∧ H dx = some (.xd []))) ∧
      ∀ (i : Nat) (w : W), ws[i]? = some (some w) → ∃ v : V, vs[i]? = some (some v) ∧ RW K cl m L H w v
structure Rep (K : PySem.W.Frag) (cl m : Nat → Addr) (h : IH) (H : Hp) : Prop where
  obj : ∀ n o, h[n]? = some o → OR K cl m h.length H (m n) o
  inj : ∀ i j oi oj, h[i]? = some oi → h[j]? = some oj → oi.own = true → oj.own = true → m i = m j → i = j

section
variable {K : PySem.W.Frag} {cl m m' : Nat → Addr} {L L' : Nat} {H H' : Hp}
theorem RSt.mono {G : Cfg} {σ : Sg} {τ : St} (e : Ext G.K m L H m' L' H') (r : RSt G m L H σ τ) : RSt G m' L' H' σ τ :=
  ⟨r.len, fun i w h => let ⟨v, a, b⟩ := r.get i w h; ⟨v, a, b.mono e⟩, r.xs, fun d c w h => let ⟨v, a, b⟩ := r.xd d c w h; ⟨v, e.xd _ _ _ a, b.mono e⟩⟩
theorem RSt.set {G : Cfg} {σ : Sg} {τ : St} {w : W} {v : V} (i : Nat) (r : RSt G m L H σ τ) (a : RW G.K G.cl m L H w v) : RSt G m L H (σ.set i (some w)) (τ.set i (some v)) := by
  refine ⟨by simp [r.len], fun j x h => ?_, fun j b hx hj => ?_, r.xd⟩
  · by_cases e : j = i
    · subst e
      have hl : j < σ.length := by
        have := (List.getElem?_eq_some_iff.mp h).1
        simpa using this
      rw [List.getElem?_set_self hl] at h
      rw [List.getElem?_set_self (by rw [← r.len]; exact hl)]
      cases h
      exact ⟨v, rfl, a⟩
    · rw [List.getElem?_set_ne (Ne.symm e)] at h
      rw [List.getElem?_set_ne (Ne.symm e)]
      exact r.get j x h
  · by_cases e : j = i
    · subst e
      have hl : j < σ.length := by
        have := (List.getElem?_eq_some_iff.mp hj).1
        simpa using this
      rw [List.getElem?_set_self hl] at hj
      cases hj
    · rw [List.getElem?_set_ne (Ne.symm e)] at hj
      rw [List.getElem?_set_ne (Ne.symm e)]
      exact r.xs j b hx hj
theorem RF.mono {fs : List (Str × W)} {vs : List (Str × V)} (e : Ext K m L H m' L' H') (r : RF K cl m L H fs vs) : RF K cl m' L' H' fs vs := by
  induction r with
  | nil => exact .nil
  | cons a _ ih => exact .cons (a.mono e) ih
theorem RK.mono {fs : List (Key × W)} {vs : List (Key × V)} (e : Ext K m L H m' L' H') (r : RK K cl m L H fs vs) : RK K cl m' L' H' fs vs := by
  induction r with
  | nil => exact .nil
  | cons a _ ih => exact .cons (a.mono e) ih
theorem RF.look {fs : List (Str × W)} {vs : List (Str × V)} (r : RF K cl m L H fs vs) (f : Str) : (fs.lookup f = none ∧ vs.lookup f = none) ∨ ∃ w v, fs.lookup f = some w ∧ vs.lookup f = some v ∧ RW K cl m L H w v := by
  induction r with
  | nil => exact .inl ⟨rfl, rfl⟩
  | @cons g w v ws vs a b ih =>
    by_cases e : f = g
    · subst e
      exact .inr ⟨w, v, by simp [List.lookup], by simp [List.lookup], a⟩
    · have e' : (f == g) = false := by simpa using e
      simp only [List.lookup, e']
      exact ih

/-! changes of the heap -/
theorem sqT_upd {a p : Addr} {o : HO} {xs : List V} (ha : ∀ ys, ¬ Rd H a (.tup ys)) (h : SqT K H p xs) : SqT K (upd H a o) p xs := by
  rcases h with h | h
  · have ne : p ≠ a := fun e => ha xs (e ▸ h)
    refine .inl ?_
    rcases h with h | ⟨u, h⟩
    · exact .inl (by rw [upd_ne ne]; exact h)
    · exact .inr ⟨u, by rw [upd_ne ne]; exact h⟩
  · exact .inr h
theorem xd_upd {a d : Addr} {o : HO} {p : Str × V} {ps : List (Str × V)} (ha : ∀ q qs, H a ≠ some (.xd (q :: qs))) (h : H d = some (.xd (p :: ps))) : upd H a o d = some (.xd (p :: ps)) := by
  have ne : d ≠ a := fun e => ha p ps (by rw [← e]; exact h)
  rw [upd_ne ne]
  exact h
theorem noTup_none {a : Addr} (h : H a = none) : ∀ ys, ¬ Rd H a (.tup ys) := fun ys r => by
  rcases r with r | ⟨o, r⟩ <;> rw [h] at r <;> cases r
theorem noTup_of {a : Addr} {o : HO} (h : H a = some o) (h1 : ∀ ys, o ≠ .tup ys) (h2 : ∀ u ys, o ≠ .frz u (.tup ys)) : ∀ ys, ¬ Rd H a (.tup ys) := fun ys r => by
  rcases r with r | ⟨u, r⟩ <;> rw [h] at r
  · exact h1 ys (Option.some.inj r)
  · exact h2 u ys (Option.some.inj r)
theorem OR.has {a : Addr} {o : IO} (h : OR K cl m L H a o) (ow : o.own = true) : ∃ u, H a = some u ∧ (∀ z v, u ≠ .frz z v) ∧ ¬ Bes u ∧ ∀ fs, u ≠ .xd fs := by
  cases o with
  | lst ws => obtain ⟨vs, e, _⟩ := h; exact ⟨_, e, fun _ _ z => (by cases z), fun z => (by rcases z with ⟨_, z⟩ | z <;> cases z), fun _ z => by cases z⟩
  | rol ws => cases ow
  | ins c fs => obtain ⟨dx, fvs, e, _⟩ := h; exact ⟨_, e, fun _ _ z => (by cases z), fun z => (by rcases z with ⟨_, z⟩ | z <;> cases z), fun _ z => by cases z⟩
  | dic kvs => obtain ⟨fvs, e, _⟩ := h; exact ⟨_, e, fun _ _ z => (by cases z), fun z => (by rcases z with ⟨_, z⟩ | z <;> cases z), fun _ z => by cases z⟩
  | exc c f w => obtain ⟨d, v, e, _⟩ := h; exact ⟨_, e, fun _ _ z => (by cases z), fun z => (by rcases z with ⟨_, z⟩ | z <;> cases z), fun _ z => by cases z⟩
  | slt c vs =>
    obtain ⟨dx, us, h, _⟩ := h
    rcases h with ⟨e, _⟩ | ⟨e, _⟩
    · exact ⟨_, e, fun _ _ z => (by cases z), fun z => (by rcases z with ⟨_, z⟩ | z <;> cases z), fun _ z => by cases z⟩
    · exact ⟨_, e, fun _ _ z => (by cases z), fun z => (by rcases z with ⟨_, z⟩ | z <;> cases z), fun _ z => by cases z⟩
theorem OR.mono {a : Addr} {o : IO} (e : Ext K m L H m' L' H') (q : ∀ u, H a = some u → H' a = some u) (q2 : ∀ b u, H b = some u → Bes u → H' b = some u) (h : OR K cl m L H a o) : OR K cl m' L' H' a o := by
  cases o with
  | lst ws => obtain ⟨vs, x, y⟩ := h; exact ⟨vs, q _ x, y.mono e⟩
  | rol ws =>
    obtain ⟨vs, x, y⟩ := h
    refine ⟨vs, ?_, y.mono e⟩
    rcases x with ⟨o, x⟩ | x
    · exact .inl ⟨o, q _ x⟩
    · exact .inr x
  | ins c fs => obtain ⟨dx, fvs, x, y⟩ := h; exact ⟨dx, fvs, q _ x, y.mono e⟩
  | dic kvs => obtain ⟨fvs, x, y⟩ := h; exact ⟨fvs, q _ x, y.mono e⟩
  | exc c f w => obtain ⟨d, v, x, z, y⟩ := h; exact ⟨d, v, q _ x, e.xd _ _ _ z, y.mono e⟩
  | slt c ws =>
    obtain ⟨dx, us, h, y⟩ := h
    refine ⟨dx, us, ?_, fun i w z => let ⟨v, z1, z2⟩ := y i w z; ⟨v, z1, z2.mono e⟩⟩
    rcases h with ⟨h1, h2, h3⟩ | ⟨h1, h3⟩
    · exact .inl ⟨q _ h1, h2, q2 _ _ h3 (.inl ⟨_, rfl⟩)⟩
    · exact .inr ⟨q _ h1, q2 _ _ h3 (.inr rfl)⟩
theorem upd_some {q : Addr} {o : HO} (a : Addr) (h : H a ≠ none) : upd H q o a ≠ none := by
  by_cases e : a = q
  · subst e; rw [upd_same]; exact fun z => by cases z
  · rw [upd_ne e]; exact h
theorem Ext.aside {q : Addr} {o : HO} (hq : H q = none) : Ext K m L H m L (upd H q o) :=
  ⟨Nat.le_refl _, fun _ _ => rfl, fun p xs z => sqT_upd (noTup_none hq) z, fun d p ps z => xd_upd (fun q qs y => by rw [hq] at y; cases y) z, fun a u h _ _ => by rw [upd_ne (ne_of_none h hq)]; exact h,
    fun d x h _ _ => by rw [upd_ne (ne_of_none h hq)]; exact h, fun d h => by rw [upd_ne (ne_of_none h hq)]; exact h, fun n h1 h2 => absurd h2 (Nat.not_lt.mpr h1), upd_some⟩
/-- a new thing that is no object of ours (a tuple) -/
theorem Rep.aside {h : IH} {q : Addr} {o : HO} (r : Rep K cl m h H) (hq : H q = none) : Rep K cl m h (upd H q o) ∧ Ext K m h.length H m h.length (upd H q o) := by
  have e : Ext K m h.length H m h.length (upd H q o) := .aside hq
  exact ⟨⟨fun n ob hn => (r.obj n ob hn).mono e (fun u hu => by rw [upd_ne (ne_of_none hu hq)]; exact hu) (fun b u hu _ => by rw [upd_ne (ne_of_none hu hq)]; exact hu), r.inj⟩, e⟩
/-- a new object -/
def ext1 (m : Nat → Addr) (L : Nat) (q : Addr) : Nat → Addr := fun n => if n = L then q else m n
theorem Ext.add {q : Addr} {o : HO} (hq : H q = none) : Ext K m L H (ext1 m L q) (L + 1) (upd H q o) :=
  ⟨Nat.le_succ _, fun n hn => by unfold ext1; rw [if_neg (Nat.ne_of_lt hn)], fun p xs z => sqT_upd (noTup_none hq) z, fun d p ps z => xd_upd (fun q qs y => by rw [hq] at y; cases y) z, fun a u h _ _ => by rw [upd_ne (ne_of_none h hq)]; exact h,
    fun d x h _ _ => by rw [upd_ne (ne_of_none h hq)]; exact h, fun d h => by rw [upd_ne (ne_of_none h hq)]; exact h,
    fun n h1 h2 => by
      have e : n = L := by omega
      subst e
      unfold ext1
      rw [if_pos rfl]; exact hq, upd_some⟩
theorem Rep.push {h : IH} {q : Addr} {u : HO} {o : IO} (r : Rep K cl m h H) (hq : H q = none)
    (new : OR K cl (ext1 m h.length q) (h.length + 1) (upd H q u) q o) : Rep K cl (ext1 m h.length q) (h ++ [o]) (upd H q u) ∧ Ext K m h.length H (ext1 m h.length q) (h ++ [o]).length (upd H q u) := by
  have e : Ext K m h.length H (ext1 m h.length q) (h.length + 1) (upd H q u) := .add hq
  have e' : Ext K m h.length H (ext1 m h.length q) (h ++ [o]).length (upd H q u) := by rw [List.length_append]; exact e
  have at_ : ∀ n, n < h.length → ext1 m h.length q n = m n := fun n hn => by unfold ext1; rw [if_neg (Nat.ne_of_lt hn)]
  have last : ext1 m h.length q h.length = q := by unfold ext1; rw [if_pos rfl]
  have split : ∀ (n : Nat) ob, (h ++ [o])[n]? = some ob → (n < h.length ∧ h[n]? = some ob) ∨ (n = h.length ∧ ob = o) := fun n ob hn => by
    by_cases hl : n < h.length
    · rw [List.getElem?_append_left hl] at hn; exact .inl ⟨hl, hn⟩
    · have hb : n < (h ++ [o]).length := (List.getElem?_eq_some_iff.mp hn).1
      rw [List.length_append, List.length_singleton] at hb
      have hn' : n = h.length := by omega
      subst hn'
      rw [List.getElem?_append_right (Nat.le_refl _), Nat.sub_self] at hn
      cases hn
      exact .inr ⟨rfl, rfl⟩
  refine ⟨⟨fun n ob hn => ?_, fun i j oi oj hi hj wi wj => ?_⟩, e'⟩
  · rcases split n ob hn with ⟨hl, hn⟩ | ⟨rfl, rfl⟩
    · rw [at_ n hl]
      exact (r.obj n ob hn).mono e' (fun u' hu => by rw [upd_ne (ne_of_none hu hq)]; exact hu) (fun b u hu _ => by rw [upd_ne (ne_of_none hu hq)]; exact hu)
    · rw [last, List.length_append]
      exact new
  · rcases split i oi hi with ⟨li, hi'⟩ | ⟨rfl, rfl⟩
    · rcases split j oj hj with ⟨lj, hj'⟩ | ⟨rfl, rfl⟩
      · rw [at_ i li, at_ j lj]
        exact r.inj i j oi oj hi' hj' wi wj
      · rw [at_ i li, last]
        obtain ⟨u', hu, _, _⟩ := (r.obj i oi hi').has wi
        exact fun z => absurd z (ne_of_none hu hq)
    · rcases split j oj hj with ⟨lj, hj'⟩ | ⟨rfl, rfl⟩
      · rw [at_ j lj, last]
        obtain ⟨u', hu, _, _⟩ := (r.obj j oj hj').has wj
        exact fun z => absurd z.symm (ne_of_none hu hq)
      · intro _; rfl
/-- an object is changed -/
theorem Rep.put {h : IH} {n : Nat} {o o' : IO} {u : HO} (r : Rep K cl m h H) (hn : h[n]? = some o) (nt : ∀ ys, ¬ Rd H (m n) (.tup ys))
    (new : Ext K m h.length H m h.length (upd H (m n) u) → OR K cl m h.length (upd H (m n) u) (m n) o') (ow : o.own = true := by rfl) (ow' : o'.own = true := by rfl) : Rep K cl m (h.set n o') (upd H (m n) u) ∧ Ext K m h.length H m (h.set n o').length (upd H (m n) u) := by
  obtain ⟨un, hun, nfz, nbes, nxd⟩ := (r.obj n o hn).has ow
  have hl : n < h.length := (List.getElem?_eq_some_iff.mp hn).1
  have e : Ext K m h.length H m h.length (upd H (m n) u) := ⟨Nat.le_refl _, fun _ _ => rfl, fun p xs z => sqT_upd nt z, fun d p ps z => xd_upd (fun q qs y => by rw [hun] at y; exact nxd _ (Option.some.inj y)) z,
    fun a x hx hn _ => by rw [upd_ne fun z => hn n hl z.symm]; exact hx,
    fun d x hx _ _ => by rw [upd_ne fun z => nbes (by rw [z, hun] at hx; cases hx; exact .inl ⟨_, rfl⟩)]; exact hx,
    fun d hx => by rw [upd_ne fun z => nbes (by rw [z, hun] at hx; cases hx; exact .inr rfl)]; exact hx, fun j h1 h2 => absurd h2 (Nat.not_lt.mpr h1), upd_some⟩
  have e' : Ext K m h.length H m (h.set n o').length (upd H (m n) u) := by rw [List.length_set]; exact e
  have split : ∀ (j : Nat) ob, (h.set n o')[j]? = some ob → (j = n ∧ ob = o') ∨ (j ≠ n ∧ h[j]? = some ob) := fun j ob hj => by
    by_cases q : j = n
    · subst q
      rw [List.getElem?_set_self hl] at hj
      cases hj
      exact .inl ⟨rfl, rfl⟩
    · rw [List.getElem?_set_ne (Ne.symm q)] at hj
      exact .inr ⟨q, hj⟩
  refine ⟨⟨fun j ob hj => ?_, fun i j oi oj hi hj wi wj => ?_⟩, e'⟩
  · rw [List.length_set]
    rcases split j ob hj with ⟨rfl, rfl⟩ | ⟨q, hj⟩
    · exact new e
    · have own_ : ob.own = true → OR K cl m h.length (upd H (m n) u) (m j) ob := fun w =>
        (r.obj j ob hj).mono e (fun u' hu => by rw [upd_ne fun z => q (r.inj j n ob o hj hn w ow z)]; exact hu) (fun b u' hu hb => by rw [upd_ne fun z => nbes (by rw [z, hun] at hu; cases hu; exact hb)]; exact hu)
      cases ob with
      | rol ws =>
        obtain ⟨vs, x, y⟩ := r.obj j _ hj
        refine ⟨vs, ?_, y.mono e⟩
        rcases x with ⟨z', x⟩ | x
        · refine .inl ⟨z', ?_⟩
          rw [upd_ne]
          · exact x
          · intro z; rw [z, hun] at x; exact nfz _ _ (Option.some.inj x)
        · exact .inr x
      | lst ws => exact own_ rfl
      | ins c fs => exact own_ rfl
      | slt c vs => exact own_ rfl
      | dic kvs => exact own_ rfl
      | exc c f w => exact own_ rfl
  · rcases split i oi hi with ⟨rfl, rfl⟩ | ⟨qi, hi'⟩
    · rcases split j oj hj with ⟨rfl, rfl⟩ | ⟨qj, hj'⟩
      · intro _; rfl
      · exact r.inj i j o oj hn hj' ow wj
    · rcases split j oj hj with ⟨rfl, rfl⟩ | ⟨qj, hj'⟩
      · exact r.inj i j oi o hi' hn wi ow
      · exact r.inj i j oi oj hi' hj' wi wj
theorem rol_sq {a : Addr} {vs : List V} (h : (∃ o, H a = some (.frz o (.lst vs))) ∨ KL K a vs) : SqL K H a vs := by
  rcases h with ⟨o, h⟩ | h
  · exact .inl (.inr ⟨o, h⟩)
  · exact .inr h
/-- a slot is stored -/
theorem Rep.putS {h : IH} {n c : Nat} {ws : List (Option W)} (r : Rep K cl m h H) (hn : h[n]? = some (.slt c ws)) {i : Nat} {w : W} {v : V} (rw_ : RW K cl m h.length H w v) :
    ∃ dx vs, SlX.Slt H (m n) (cl c) dx vs ∧ Rep K cl m (h.set n (.slt c ((ws ++ List.replicate (i + 1 - ws.length) none).set i (some w)))) (SlX.slH H (m n) (cl c) dx (SlX.putS i v vs)) ∧
      Ext K m h.length H m (h.set n (.slt c ((ws ++ List.replicate (i + 1 - ws.length) none).set i (some w)))).length (SlX.slH H (m n) (cl c) dx (SlX.putS i v vs)) := by
  obtain ⟨dx, vs, hd, hv⟩ := r.obj n _ hn
  refine ⟨dx, vs, ?_, ?_⟩
  · rcases hd with ⟨h1, h2, _⟩ | ⟨h1, h3⟩
    · exact .inl ⟨h1, h2⟩
    · exact .inr ⟨h1, h3⟩
  have hbes : ∃ u, H dx = some u ∧ Bes u := by
    rcases hd with ⟨_, _, h3⟩ | ⟨_, h3⟩
    · exact ⟨_, h3, .inl ⟨_, rfl⟩⟩
    · exact ⟨_, h3, .inr rfl⟩
  obtain ⟨ud, hud, bud⟩ := hbes
  obtain ⟨un, hun, nfz, nbes, nxd⟩ := (r.obj n _ hn).has rfl
  have hl : n < h.length := (List.getElem?_eq_some_iff.mp hn).1
  have ndx : dx ≠ m n := fun z => nbes (by rw [z, hun] at hud; cases hud; exact bud)
  have nt1 : ∀ ys, ¬ Rd H dx (.tup ys) := noTup_of hud (fun _ z => by rw [z] at bud; rcases bud with ⟨_, q⟩ | q <;> cases q) (fun _ _ z => by rw [z] at bud; rcases bud with ⟨_, q⟩ | q <;> cases q)
  have ffr : ∀ a u, H a = some u → (∀ n, n < h.length → m n ≠ a) → ¬ Bes u → SlX.slH H (m n) (cl c) dx (SlX.putS i v vs) a = some u := fun a x hx hn nb => by
    unfold SlX.slH
    rw [upd_ne fun z => hn n hl z.symm, upd_ne fun z => nb (by rw [z, hud] at hx; cases hx; exact bud)]; exact hx
  have ffd : ∀ d x, H d = some (.own x) → H x ≠ none → (∀ n, n < h.length → m n ≠ x) → SlX.slH H (m n) (cl c) dx (SlX.putS i v vs) d = some (.own x) := fun d x hx _ hn => by
    have nd : d ≠ dx := fun z => by
      rw [z] at hx
      rcases hd with ⟨_, _, h3⟩ | ⟨_, h3⟩
      · rw [h3] at hx; exact hn n hl (HO.own.inj (Option.some.inj hx))
      · rw [h3] at hx; cases hx
    unfold SlX.slH
    rw [upd_ne fun z => nbes (by rw [z, hun] at hx; cases hx; exact .inl ⟨_, rfl⟩), upd_ne nd]; exact hx
  have ffx : ∀ d, H d = some (.xd []) → SlX.slH H (m n) (cl c) dx (SlX.putS i v vs) d = some (.xd []) := fun d hx => by
    unfold SlX.slH
    rw [upd_ne fun z => nbes (by rw [z, hun] at hx; cases hx; exact .inr rfl)]
    by_cases z : d = dx
    · rw [z, upd_same]
    · rw [upd_ne z]; exact hx
  have e : Ext K m h.length H m h.length (SlX.slH H (m n) (cl c) dx (SlX.putS i v vs)) := ⟨Nat.le_refl _, fun _ _ => rfl, fun p xs z => by
    unfold SlX.slH
    refine sqT_upd ?_ (sqT_upd nt1 z)
    intro ys q
    have ne : m n ≠ dx := Ne.symm ndx
    have e0 : upd H dx (.xd []) (m n) = H (m n) := upd_ne ne
    rcases q with q | ⟨u, q⟩
    · rw [e0, hun] at q
      have q := Option.some.inj q
      rcases hd with ⟨h1, _⟩ | ⟨h1, _⟩ <;> (rw [hun] at h1; rw [Option.some.inj h1] at q; cases q)
    · rw [e0, hun] at q
      exact nfz _ _ (Option.some.inj q), fun d p ps z => by
    unfold SlX.slH
    refine xd_upd (fun q qs y => ?_) (xd_upd (fun q qs y => ?_) z)
    · rw [upd_ne (Ne.symm ndx), hun] at y; exact nxd _ (Option.some.inj y)
    · rw [hud] at y
      have y := Option.some.inj y
      rw [y] at bud
      (rcases bud with ⟨_, b⟩ | b <;> cases b), ffr, ffd, ffx, fun j h1 h2 => absurd h2 (Nat.not_lt.mpr h1), fun a ha => upd_some a (upd_some a ha)⟩
  have e' : Ext K m h.length H m (h.set n (.slt c ((ws ++ List.replicate (i + 1 - ws.length) none).set i (some w)))).length (SlX.slH H (m n) (cl c) dx (SlX.putS i v vs)) := by rw [List.length_set]; exact e
  have split : ∀ (j : Nat) ob, (h.set n (.slt c ((ws ++ List.replicate (i + 1 - ws.length) none).set i (some w))))[j]? = some ob → (j = n ∧ ob = .slt c ((ws ++ List.replicate (i + 1 - ws.length) none).set i (some w))) ∨ (j ≠ n ∧ h[j]? = some ob) := fun j ob hj => by
    by_cases q : j = n
    · subst q
      rw [List.getElem?_set_self hl] at hj
      cases hj
      exact .inl ⟨rfl, rfl⟩
    · rw [List.getElem?_set_ne (Ne.symm q)] at hj
      exact .inr ⟨q, hj⟩
  refine ⟨⟨fun j ob hj => ?_, fun i' j oi oj hi hj wi wj => ?_⟩, e'⟩
  · rw [List.length_set]
    rcases split j ob hj with ⟨rfl, rfl⟩ | ⟨q, hj⟩
    · refine ⟨dx, SlX.putS i v vs, .inr ⟨?_, ?_⟩, fun i' w' z => ?_⟩
      · unfold SlX.slH; rw [upd_same]
      · unfold SlX.slH; rw [upd_ne ndx, upd_same]
      · unfold SlX.putS
        by_cases q : i' = i
        · subst q
          have l1 : i' < (ws ++ List.replicate (i' + 1 - ws.length) none).length := by simp; omega
          have l2 : i' < (vs ++ List.replicate (i' + 1 - vs.length) none).length := by simp; omega
          rw [List.getElem?_set_self l1] at z
          cases z
          exact ⟨v, List.getElem?_set_self l2, rw_.mono e⟩
        · rw [List.getElem?_set_ne (Ne.symm q)] at z
          rw [List.getElem?_set_ne (Ne.symm q)]
          by_cases l : i' < ws.length
          · rw [List.getElem?_append_left l] at z
            obtain ⟨v', z1, z2⟩ := hv i' w' z
            have l3 : i' < vs.length := (List.getElem?_eq_some_iff.mp z1).1
            exact ⟨v', by rw [List.getElem?_append_left l3]; exact z1, z2.mono e⟩
          · rw [List.getElem?_append_right (Nat.le_of_not_lt l), List.getElem?_replicate] at z
            split at z <;> cases z
    · have key : ∀ b u, H b = some u → b ≠ m n → b ≠ dx → SlX.slH H (m n) (cl c) dx (SlX.putS i v vs) b = some u := fun b u hb h1 h2 => by
        unfold SlX.slH; rw [upd_ne h1, upd_ne h2]; exact hb
      have ndxj : ∀ b u, H b = some u → ¬ Bes u → b ≠ dx := fun b u hb nb z => nb (by rw [z, hud] at hb; cases hb; exact bud)
      cases ob with
      | rol ws' =>
        obtain ⟨us, x, y⟩ := r.obj j _ hj
        refine ⟨us, ?_, y.mono e⟩
        rcases x with ⟨z', x⟩ | x
        · refine .inl ⟨z', key _ _ x (fun z => ?_) (ndxj _ _ x fun z => by rcases z with ⟨_, z⟩ | z <;> cases z)⟩
          rw [z, hun] at x; exact nfz _ _ (Option.some.inj x)
        · exact .inr x
      | lst ws' =>
        obtain ⟨us, x, y⟩ := r.obj j _ hj
        exact ⟨us, key _ _ x (fun z => q (r.inj j n _ _ hj hn rfl rfl z)) (ndxj _ _ x fun z => by rcases z with ⟨_, z⟩ | z <;> cases z), y.mono e⟩
      | ins c' fs =>
        obtain ⟨dy, us, x, y⟩ := r.obj j _ hj
        exact ⟨dy, us, key _ _ x (fun z => q (r.inj j n _ _ hj hn rfl rfl z)) (ndxj _ _ x fun z => by rcases z with ⟨_, z⟩ | z <;> cases z), y.mono e⟩
      | exc c' f' w' =>
        obtain ⟨d', v', x, z', y⟩ := r.obj j _ hj
        exact ⟨d', v', key _ _ x (fun z => q (r.inj j n _ _ hj hn rfl rfl z)) (ndxj _ _ x fun z => by rcases z with ⟨_, z⟩ | z <;> cases z), e.xd _ _ _ z', y.mono e⟩
      | dic kvs =>
        obtain ⟨us, x, y⟩ := r.obj j _ hj
        exact ⟨us, key _ _ x (fun z => q (r.inj j n _ _ hj hn rfl rfl z)) (ndxj _ _ x fun z => by rcases z with ⟨_, z⟩ | z <;> cases z), y.mono e⟩
      | slt c' ws' =>
        obtain ⟨dy, us, x, y⟩ := r.obj j _ hj
        have nj : m j ≠ m n := fun z => q (r.inj j n _ _ hj hn rfl rfl z)
        refine ⟨dy, us, ?_, fun i' w' z => let ⟨v', z1, z2⟩ := y i' w' z; ⟨v', z1, z2.mono e⟩⟩
        rcases x with ⟨x1, x2, x3⟩ | ⟨x1, x3⟩
        · refine .inl ⟨key _ _ x1 nj (ndxj _ _ x1 fun z => by rcases z with ⟨_, z⟩ | z <;> cases z), x2, ?_⟩
          have ndy : dy ≠ m n := fun z => nbes (by rw [z, hun] at x3; cases x3; exact .inl ⟨_, rfl⟩)
          refine key _ _ x3 ndy fun z => ?_
          rw [z] at x3
          rcases hd with ⟨_, _, h3⟩ | ⟨_, h3⟩
          · rw [h3] at x3
            have z2 := HO.own.inj (Option.some.inj x3)
            exact nj z2.symm
          · rw [h3] at x3; cases x3
        · refine .inr ⟨key _ _ x1 nj (ndxj _ _ x1 fun z => by rcases z with ⟨_, z⟩ | z <;> cases z), ?_⟩
          have ndy : dy ≠ m n := fun z => nbes (by rw [z, hun] at x3; cases x3; exact .inr rfl)
          unfold SlX.slH
          rw [upd_ne ndy]
          by_cases z : dy = dx
          · rw [z, upd_same]
          · rw [upd_ne z]; exact x3
  · rcases split i' oi hi with ⟨rfl, rfl⟩ | ⟨qi, hi'⟩
    · rcases split j oj hj with ⟨rfl, rfl⟩ | ⟨qj, hj'⟩
      · intro _; rfl
      · exact r.inj i' j _ oj hn hj' rfl wj
    · rcases split j oj hj with ⟨rfl, rfl⟩ | ⟨qj, hj'⟩
      · exact r.inj i' j oi _ hi' hn wi rfl
      · exact r.inj i' j oi oj hi' hj' wi wj
end
end Dr
namespace Dr
open PySem L2

/-! the judgements by their greatest readings -/
def WE (X : Cx) (e : Expr) : TE := fun σ H Q => ∀ (pins : List (Addr × Obj)) (s : Shared), Inv X pins σ H s → wpAny (model X.prog X.w) X.A (eval e X.env) (EP X pins σ Q) X.xe s
def WT (X : Cx) (e : Expr) : TT := fun σ H Q => ∀ (pins : List (Addr × Obj)) (s : Shared), Inv X pins σ H s → wpAny (model X.prog X.w) X.A (isTrue e X.env (eval e X.env)) (TP X pins σ Q) X.xe s
def WP (X : Cx) (e : Expr) : TT := fun σ H Q => ∀ (wh : Sem Value) (pins : List (Addr × Obj)) (s : Shared), Inv X pins σ H s → wpAny (model X.prog X.w) X.A (isTrue e X.env wh) (TP X pins σ Q) X.xe s
def WA (X : Cx) (es : List Expr) : TA := fun σ H Q => ∀ (pos : Pos) (pins : List (Addr × Obj)) (s : Shared), Inv X pins σ H s → wpAny (model X.prog X.w) X.A (spliced (backTo pos (starEach es X.env))) (AP X pins σ Q) X.xe s
def WS (X : Cx) (st : Stmt) : TS := fun D σ H => ∀ (pins : List (Addr × Obj)) (s : Shared), Inv X pins σ H s → wpAny (model X.prog X.w) X.A (exec st X.env) (SP X pins D) X.xe s
def WB (X : Cx) (st : List Stmt) : TS := fun D σ H => ∀ (pins : List (Addr × Obj)) (s : Shared), Inv X pins σ H s → wpAny (model X.prog X.w) X.A (execs st X.env) (SP X pins D) X.xe s
def WO (X : Cx) (f : Value → Value → Sem Value) : R2 := fun x y H Q => ∃ r, OpR X f r ∧ r x y H Q
theorem peM {X : Cx} {e : Expr} : PE X e (WE X e) := ⟨fun pins s _ _ _ I h => h pins s I⟩
theorem ptM {X : Cx} {e : Expr} : PT X e (WT X e) := ⟨fun pins s _ _ _ I h => h pins s I⟩
theorem pwM {X : Cx} {e : Expr} : PW X e (WP X e) := ⟨fun wh pins s _ _ _ I h => h wh pins s I⟩
theorem paM {X : Cx} {es : List Expr} : PA X es (WA X es) := ⟨fun pos pins s _ _ _ I h => h pos pins s I⟩
theorem psM {X : Cx} {st : Stmt} : PS X st (WS X st) := ⟨fun pins s _ _ _ I h => h pins s I⟩
theorem pbM {X : Cx} {st : List Stmt} : PSs X st (WB X st) := ⟨fun pins s _ _ _ I h => h pins s I⟩
theorem poM {X : Cx} {f : Value → Value → Sem Value} : OpR X f (WO X f) := fun pins s σ H x y v u Q I rx ry h => let ⟨_, o, q⟩ := h; o pins s σ H x y v u Q I rx ry q
theorem WE.of {X : Cx} {e : Expr} {t : TE} {σ : St} {H : Hp} {Q : VK} (p : PE X e t) (h : t σ H Q) : WE X e σ H Q := fun pins s I => p.run pins s σ H Q I h
theorem WT.of {X : Cx} {e : Expr} {t : TT} {σ : St} {H : Hp} {Q : Bool → Hp → Prop} (p : PT X e t) (h : t σ H Q) : WT X e σ H Q := fun pins s I => p.run pins s σ H Q I h
theorem WP.of {X : Cx} {e : Expr} {t : TT} {σ : St} {H : Hp} {Q : Bool → Hp → Prop} (p : PW X e t) (h : t σ H Q) : WP X e σ H Q := fun wh pins s I => p.run wh pins s σ H Q I h
theorem WA.of {X : Cx} {e : List Expr} {t : TA} {σ : St} {H : Hp} {Q : List V → Hp → Prop} (p : PA X e t) (h : t σ H Q) : WA X e σ H Q := fun pos pins s I => p.run pos pins s σ H Q I h
theorem WS.of {X : Cx} {e : Stmt} {t : TS} {σ : St} {H : Hp} {D : Ends} (p : PS X e t) (h : t D σ H) : WS X e D σ H := fun pins s I => p.run pins s σ H D I h
theorem WB.of {X : Cx} {e : List Stmt} {t : TS} {σ : St} {H : Hp} {D : Ends} (p : PSs X e t) (h : t D σ H) : WB X e D σ H := fun pins s I => p.run pins s σ H D I h

/-! what is to hold of an outcome -/
/-- an error comes out -/
def PoX (G : Cfg) (m : Nat → Addr) (L : Nat) (H : Hp) (Z : WX) (c : Nat) (w : W) (s : Sg) (h' : IH) : Prop :=
  ∀ m' H' d v τ', Ext G.K m L H m' h'.length H' → Rep G.K G.cl m' h' H' → RW G.K G.cl m' h'.length H' w v → RSt G m' h'.length H' s τ' → H' d = some (.xd [(G.fn c, v)]) → Z (.ref (G.cl c)) (some d) τ' H'
def PoE (G : Cfg) (m : Nat → Addr) (L : Nat) (H : Hp) (Z : WX) (Q : VK) : Out → Prop
  | .v w h' => ∀ m' H' v, Ext G.K m L H m' h'.length H' → Rep G.K G.cl m' h' H' → RW G.K G.cl m' h'.length H' w v → Q v H'
  | .ex c w s h' => PoX G m L H Z c w s h'
  | _ => False
def PoA (G : Cfg) (m : Nat → Addr) (L : Nat) (H : Hp) (Z : WX) (Q : List V → Hp → Prop) : Out → Prop
  | .vs w h' => ∀ m' H' v, Ext G.K m L H m' h'.length H' → Rep G.K G.cl m' h' H' → RWs G.K G.cl m' h'.length H' w v → Q v H'
  | .ex c w s h' => PoX G m L H Z c w s h'
  | _ => False
def PoS (G : Cfg) (m : Nat → Addr) (L : Nat) (H : Hp) (Z : WX) (D : Ends) : Out → Prop
  | .nx s h' => ∀ m' H' τ, Ext G.K m L H m' h'.length H' → Rep G.K G.cl m' h' H' → RSt G m' h'.length H' s τ → D.nx τ H'
  | .bk s h' => ∀ m' H' τ, Ext G.K m L H m' h'.length H' → Rep G.K G.cl m' h' H' → RSt G m' h'.length H' s τ → D.bk τ H'
  | .ct s h' => ∀ m' H' τ, Ext G.K m L H m' h'.length H' → Rep G.K G.cl m' h' H' → RSt G m' h'.length H' s τ → D.ct τ H'
  | .rt w h' => ∀ m' H' v, Ext G.K m L H m' h'.length H' → Rep G.K G.cl m' h' H' → RW G.K G.cl m' h'.length H' w v → D.rt v H'
  | .ex c w s h' => PoX G m L H Z c w s h'
  | _ => False
section
variable {G : Cfg} {m m1 : Nat → Addr} {L L1 : Nat} {H H1 : Hp} {Z : WX}
theorem PoX.later {c : Nat} {w : W} {s : Sg} {h' : IH} (e : Ext G.K m L H m1 L1 H1) (p : PoX G m L H Z c w s h') : PoX G m1 L1 H1 Z c w s h' := fun m' H' d v τ' e' => p m' H' d v τ' (e.trans e')
theorem PoE.later {Q : VK} {o : Out} (e : Ext G.K m L H m1 L1 H1) (p : PoE G m L H Z Q o) : PoE G m1 L1 H1 Z Q o := by
  cases o <;> first | exact p | exact PoX.later e p | exact fun m' H' v e' => p m' H' v (e.trans e')
theorem PoA.later {Q : List V → Hp → Prop} {o : Out} (e : Ext G.K m L H m1 L1 H1) (p : PoA G m L H Z Q o) : PoA G m1 L1 H1 Z Q o := by
  cases o <;> first | exact p | exact PoX.later e p | exact fun m' H' v e' => p m' H' v (e.trans e')
theorem PoS.later {D : Ends} {o : Out} (e : Ext G.K m L H m1 L1 H1) (p : PoS G m L H Z D o) : PoS G m1 L1 H1 Z D o := by
  cases o <;> first | exact p | exact PoX.later e p | exact fun m' H' v e' => p m' H' v (e.trans e')
/-- one step of an expression, then the rest -/
theorem PoE.ee {Q Q' : VK} {o : Out} {k : W → IH → Out} (p : PoE G m L H Z Q (o.vb k))
    (f : ∀ w h1 m1 H1 v, Ext G.K m L H m1 h1.length H1 → Rep G.K G.cl m1 h1 H1 → RW G.K G.cl m1 h1.length H1 w v → PoE G m1 h1.length H1 Z Q (k w h1) → Q' v H1) : PoE G m L H Z Q' o := by
  cases o <;> first | exact p | exact fun m1 H1 v e r x => f _ _ m1 H1 v e r x (PoE.later e p)
theorem PoE.ae {Q : VK} {Q' : List V → Hp → Prop} {o : Out} {k : List W → IH → Out} (p : PoE G m L H Z Q (o.vsb k))
    (f : ∀ w h1 m1 H1 v, Ext G.K m L H m1 h1.length H1 → Rep G.K G.cl m1 h1 H1 → RWs G.K G.cl m1 h1.length H1 w v → PoE G m1 h1.length H1 Z Q (k w h1) → Q' v H1) : PoA G m L H Z Q' o := by
  cases o <;> first | exact p | exact fun m1 H1 v e r x => f _ _ m1 H1 v e r x (PoE.later e p)
theorem PoA.ea {Q : List V → Hp → Prop} {Q' : VK} {o : Out} {k : W → IH → Out} (p : PoA G m L H Z Q (o.vb k))
    (f : ∀ w h1 m1 H1 v, Ext G.K m L H m1 h1.length H1 → Rep G.K G.cl m1 h1 H1 → RW G.K G.cl m1 h1.length H1 w v → PoA G m1 h1.length H1 Z Q (k w h1) → Q' v H1) : PoE G m L H Z Q' o := by
  cases o <;> first | exact p | exact fun m1 H1 v e r x => f _ _ m1 H1 v e r x (PoA.later e p)
theorem PoA.aa {Q Q' : List V → Hp → Prop} {o : Out} {k : List W → IH → Out} (p : PoA G m L H Z Q (o.vsb k))
    (f : ∀ w h1 m1 H1 v, Ext G.K m L H m1 h1.length H1 → Rep G.K G.cl m1 h1 H1 → RWs G.K G.cl m1 h1.length H1 w v → PoA G m1 h1.length H1 Z Q (k w h1) → Q' v H1) : PoA G m L H Z Q' o := by
  cases o <;> first | exact p | exact fun m1 H1 v e r x => f _ _ m1 H1 v e r x (PoA.later e p)
theorem PoS.es {D : Ends} {Q' : VK} {o : Out} {k : W → IH → Out} (p : PoS G m L H Z D (o.vb k))
    (f : ∀ w h1 m1 H1 v, Ext G.K m L H m1 h1.length H1 → Rep G.K G.cl m1 h1 H1 → RW G.K G.cl m1 h1.length H1 w v → PoS G m1 h1.length H1 Z D (k w h1) → Q' v H1) : PoE G m L H Z Q' o := by
  cases o <;> first | exact p | exact fun m1 H1 v e r x => f _ _ m1 H1 v e r x (PoS.later e p)
/-- a statement, then the rest of the block -/
theorem PoS.ss {D : Ends} {N : St → Hp → Prop} {o : Out} {k : Sg → IH → Out} (p : PoS G m L H Z D (o.nb k))
    (f : ∀ s h1 m1 H1 τ, Ext G.K m L H m1 h1.length H1 → Rep G.K G.cl m1 h1 H1 → RSt G m1 h1.length H1 s τ → PoS G m1 h1.length H1 Z D (k s h1) → N τ H1) : PoS G m L H Z { D with nx := N } o := by
  cases o <;> first | exact p | exact fun m1 H1 v e r x => f _ _ m1 H1 v e r x (PoS.later e p)
end

/-! soundness -/
abbrev Ev := Sg → IH → Out
structure SE (G : Cfg) (X : Cx) (Z : WX) (c : Ev) (e : Expr) : Prop where
  go : ∀ m h H σ τ Q, Rep G.K G.cl m h H → RSt G m h.length H σ τ → PoE G m h.length H Z Q (c σ h) → WE X e τ H Q
instance {G : Cfg} {X : Cx} {Z : WX} {c : Ev} {e : Expr} : CoeFun (SE G X Z c e) (fun _ => ∀ m h H σ τ Q, Rep G.K G.cl m h H → RSt G m h.length H σ τ → PoE G m h.length H Z Q (c σ h) → WE X e τ H Q) := ⟨SE.go⟩
structure SA (G : Cfg) (X : Cx) (Z : WX) (c : Ev) (e : List Expr) : Prop where
  go : ∀ m h H σ τ Q, Rep G.K G.cl m h H → RSt G m h.length H σ τ → PoA G m h.length H Z Q (c σ h) → WA X e τ H Q
instance {G : Cfg} {X : Cx} {Z : WX} {c : Ev} {e : List Expr} : CoeFun (SA G X Z c e) (fun _ => ∀ m h H σ τ Q, Rep G.K G.cl m h H → RSt G m h.length H σ τ → PoA G m h.length H Z Q (c σ h) → WA X e τ H Q) := ⟨SA.go⟩
structure SS (G : Cfg) (X : Cx) (Z : WX) (c : Ev) (e : Stmt) : Prop where
  go : ∀ m h H σ τ D, Rep G.K G.cl m h H → RSt G m h.length H σ τ → PoS G m h.length H Z D (c σ h) → WS X e D τ H
instance {G : Cfg} {X : Cx} {Z : WX} {c : Ev} {e : Stmt} : CoeFun (SS G X Z c e) (fun _ => ∀ m h H σ τ D, Rep G.K G.cl m h H → RSt G m h.length H σ τ → PoS G m h.length H Z D (c σ h) → WS X e D τ H) := ⟨SS.go⟩
structure SB (G : Cfg) (X : Cx) (Z : WX) (c : Ev) (e : List Stmt) : Prop where
  go : ∀ m h H σ τ D, Rep G.K G.cl m h H → RSt G m h.length H σ τ → PoS G m h.length H Z D (c σ h) → WB X e D τ H
instance {G : Cfg} {X : Cx} {Z : WX} {c : Ev} {e : List Stmt} : CoeFun (SB G X Z c e) (fun _ => ∀ m h H σ τ D, Rep G.K G.cl m h H → RSt G m h.length H σ τ → PoS G m h.length H Z D (c σ h) → WB X e D τ H) := ⟨SB.go⟩
/-- a test: the value's truth (a bool here) -/
def toB (Q : Bool → Hp → Prop) : VK := fun v H => ∃ b, v = .bl b ∧ Q b H
structure ST (G : Cfg) (X : Cx) (Z : WX) (c : Ev) (e : Expr) : Prop where
  go : ∀ m h H σ τ Q, Rep G.K G.cl m h H → RSt G m h.length H σ τ → PoE G m h.length H Z (toB Q) (c σ h) → WT X e τ H Q
instance {G : Cfg} {X : Cx} {Z : WX} {c : Ev} {e : Expr} : CoeFun (ST G X Z c e) (fun _ => ∀ m h H σ τ Q, Rep G.K G.cl m h H → RSt G m h.length H σ τ → PoE G m h.length H Z (toB Q) (c σ h) → WT X e τ H Q) := ⟨ST.go⟩
structure SP' (G : Cfg) (X : Cx) (Z : WX) (c : Ev) (e : Expr) : Prop where
  go : ∀ m h H σ τ Q, Rep G.K G.cl m h H → RSt G m h.length H σ τ → PoE G m h.length H Z (toB Q) (c σ h) → WP X e τ H Q
instance {G : Cfg} {X : Cx} {Z : WX} {c : Ev} {e : Expr} : CoeFun (SP' G X Z c e) (fun _ => ∀ m h H σ τ Q, Rep G.K G.cl m h H → RSt G m h.length H σ τ → PoE G m h.length H Z (toB Q) (c σ h) → WP X e τ H Q) := ⟨SP'.go⟩
structure SO (G : Cfg) (X : Cx) (f : Value → Value → Sem Value) (g : W → W → IH → Out) : Prop where
  go : ∀ m h H x y vx vy Z Q, Rep G.K G.cl m h H → RW G.K G.cl m h.length H x vx → RW G.K G.cl m h.length H y vy → PoE G m h.length H Z Q (g x y h) → WO X f vx vy H Q
instance {G : Cfg} {X : Cx} {f : Value → Value → Sem Value} {g : W → W → IH → Out} : CoeFun (SO G X f g) (fun _ => ∀ m h H x y vx vy Z Q, Rep G.K G.cl m h H → RW G.K G.cl m h.length H x vx → RW G.K G.cl m h.length H y vy → PoE G m h.length H Z Q (g x y h) → WO X f vx vy H Q) := ⟨SO.go⟩

section
variable {G : Cfg} {X : Cx} {Z : WX} {a b c : Ev} {ea eb ec : Expr} {pos : Pos}
/-! ### the leaves -/
def eK (w : W) : Ev := fun _ h => .v w h
def eLoc (i : Nat) : Ev := fun σ h => match σ[i]? with | some (some w) => .v w h | _ => .no
theorem s_int {i : Int} {j : Nat} : SE G X Z (eK (.int i)) (.Constant (.int i) j pos) := .mk fun m h H σ τ Q R S P => WE.of pe_int (P m H _ Ext.refl R (.int i))
theorem s_bl {i : Bool} {j : Nat} : SE G X Z (eK (.bl i)) (.Constant (.bool i) j pos) := .mk fun m h H σ τ Q R S P => WE.of pe_bl (P m H _ Ext.refl R (.bl i))
theorem s_non {j : Nat} : SE G X Z (eK .non) (.Constant .none j pos) := .mk fun m h H σ τ Q R S P => WE.of pe_non (P m H _ Ext.refl R .non)
theorem s_str {x : Str} {j : Nat} : SE G X Z (eK (.str x)) (.Constant (.str x) j pos) := .mk fun m h H σ τ Q R S P => WE.of pe_str (P m H _ Ext.refl R (.str x))
theorem s_loc (i : Nat) {x : Str} (hN : X.N[i]? = some x := by rfl) (hv : Vis X.env.scope x := by first | exact Or.inl rfl | exact Or.inr (Or.inl rfl) | exact Or.inr (Or.inr rfl))
    (hd : (x == ("__debug__" : Str)) = false := by decide) (hcd : (x == ("__classdict__" : Str)) = false := by decide) : SE G X Z (eLoc i) (.Name x pos) := .mk fun m h H σ τ Q R S P => by
  refine WE.of (pe_var (i := i) hN hv hd hcd) ?_
  unfold eLoc at P
  cases e : σ[i]? with
  | none => rw [e] at P; exact P.elim
  | some o =>
    cases o with
    | none => rw [e] at P; exact P.elim
    | some w =>
      rw [e] at P
      obtain ⟨v, h1, h2⟩ := S.get i w e
      exact ⟨v, h1, P m H v Ext.refl R h2⟩
theorem s_glob {x : Str} {w : W} {v : V} {u : Value} (hm : X.mg x = some u) (r : RelV v u) (rw_ : ∀ m L H, RW G.K G.cl m L H w v) (hg : Gl X x := by rfl) (hd : (x == ("__debug__" : Str)) = false := by decide) : SE G X Z (eK w) (.Name x pos) :=
  .mk fun m h H σ τ Q R S P => WE.of (pe_glob hg hm r hd) (P m H v Ext.refl R (rw_ m _ H))
/-! ### operators -/
def eBin (g : W → W → IH → Out) (a b : Ev) : Ev := fun σ h => (a σ h).vb fun x h1 => (b σ h1).vb fun y h2 => g x y h2
theorem s_bin {op : Operator} {g : W → W → IH → Out} (ho : SO G X (binaryOp op) g) (ha : SE G X Z a ea) (hb : SE G X Z b eb) : SE G X Z (eBin g a b) (.BinOp ea op eb pos) := .mk fun m h H σ τ Q R S P => by
  refine WE.of (pe_op poM peM peM) (ha m h H σ τ _ R S (PoE.ee P fun x h1 m1 H1 v1 e1 R1 r1 P1 => ?_))
  refine hb m1 h1 H1 σ τ _ R1 (S.mono e1) (PoE.ee P1 fun y h2 m2 H2 v2 e2 R2 r2 P2 => ?_)
  exact ho m2 h2 H2 x y v1 v2 Z Q R2 (r1.mono e2) r2 P2
theorem s_cmp {op : CmpOp} {g : W → W → IH → Out} (ho : SO G X (compareOp op) g) (ha : SE G X Z a ea) (hb : SE G X Z b eb) (hm : behindInMarks op eb = false := by first | rfl | exact nobehind _ (by decide) (by decide)) : SE G X Z (eBin g a b) (.Compare ea [op] [eb] pos) := .mk fun m h H σ τ Q R S P => by
  refine WE.of (pe_cmpR poM peM peM hm) (ha m h H σ τ _ R S (PoE.ee P fun x h1 m1 H1 v1 e1 R1 r1 P1 => ?_))
  refine hb m1 h1 H1 σ τ _ R1 (S.mono e1) (PoE.ee P1 fun y h2 m2 H2 v2 e2 R2 r2 P2 => ?_)
  exact ho m2 h2 H2 x y v1 v2 Z Q R2 (r1.mono e2) r2 P2
theorem t_cmp {op : CmpOp} {g : W → W → IH → Out} (ho : SO G X (compareOp op) g) (ha : SE G X Z a ea) (hb : SE G X Z b eb) (hm : behindInMarks op eb = false := by first | rfl | exact nobehind _ (by decide) (by decide)) : ST G X Z (eBin g a b) (.Compare ea [op] [eb] pos) := .mk fun m h H σ τ Q R S P => by
  refine WT.of (pt_cmpR poM peM peM hm) (ha m h H σ τ _ R S (PoE.ee P fun x h1 m1 H1 v1 e1 R1 r1 P1 => ?_))
  refine hb m1 h1 H1 σ τ _ R1 (S.mono e1) (PoE.ee P1 fun y h2 m2 H2 v2 e2 R2 r2 P2 => ?_)
  exact ho m2 h2 H2 x y v1 v2 Z _ R2 (r1.mono e2) r2 P2
end
end Dr
namespace Dr
open PySem L2

/-- where a body runs -/
structure Fit (G : Cfg) (X : Cx) (Z : WX) (k : Nat) : Prop where
  K : X.K = G.K
  calm : X.calm = true
  own : PassesOwn (model X.prog X.w) X.A X.env X.xe
  tk : Takes X Z
  room : Room k X.A
  base : G.xs = none
  gd : X.A.guards = some []
section
variable {G : Cfg} {X : Cx} {Z : WX} {k : Nat}
/-! ### what the operators do -/
def mulOk (i j : Int) : Bool := (decide (-(2 ^ 64) < i) && decide (i < 2 ^ 64)) || (decide (-(2 ^ 64) < j) && decide (j < 2 ^ 64))
/-- texts put together, by their lists -/
def appS (x y : Str) : Str := ⟨(x.cps.toList ++ y.cps.toList).toArray⟩
theorem appS_eq (x y : Str) : appS x y = x ++ y := by
  show Str.mk _ = Str.mk (x.cps ++ y.cps)
  congr 1
  exact Array.ext' (by simp)
def oAdd : W → W → IH → Out
  | .int i, .int j, h => .v (.int (i + j)) h
  | .str i, .str j, h => if i.length + j.length ≤ 16777216 then .v (.str (appS i j)) h else .no
  | .tup x, .tup y, h => if x.length + y.length ≤ 16777216 then .v (.tup (x ++ y)) h else .no
  | .ref x, .ref y, h => match h[x]?, h[y]? with
    | some (.lst xs), some (.lst ys) => if xs.length + ys.length ≤ 16777216 then .v (.ref h.length) (h ++ [.lst (xs ++ ys)]) else .no
    | _, _ => .no
  | _, _, _ => .no
def oSub : W → W → IH → Out
  | .int i, .int j, h => .v (.int (i - j)) h
  | _, _, _ => .no
def oMul : W → W → IH → Out
  | .int i, .int j, h => if mulOk i j = true then .v (.int (i * j)) h else .no
  | .ref x, .int k, h => match h[x]? with
    | some (.lst xs) => if 0 ≤ k ∧ k < 2 ^ 62 ∧ xs.length * k.toNat ≤ 16777216 then .v (.ref h.length) (h ++ [.lst (List.replicate k.toNat xs).flatten]) else .no
    | _ => .no
  | _, _, _ => .no
def oDiv : W → W → IH → Out
  | .int i, .int j, h => if 0 < j ∧ j < 1073741824 then .v (.int (i / j)) h else .no
  | _, _, _ => .no
def oMod : W → W → IH → Out
  | .int i, .int j, h => if 0 < j then .v (.int (i % j)) h else .no
  | _, _, _ => .no
def oPow : W → W → IH → Out
  | .int i, .int j, h => if 0 ≤ j ∧ j ≤ 1000000 ∧ i.natAbs < 2 ^ 64 then .v (.int (i ^ j.toNat)) h else .no
  | _, _, _ => .no
theorem lineSz : sizeLine = 16777216 := sizeLine_eq
theorem so_sub : SO G X (binaryOp .Sub) oSub := .mk fun m h H x y vx vy Z Q R rx ry P => by
  cases rx <;> cases ry <;> first | exact P.elim | exact ⟨_, op_sub, _, _, rfl, rfl, P m H _ Ext.refl R (.int _)⟩
theorem so_mod : SO G X (binaryOp .Mod) oMod := .mk fun m h H x y vx vy Z Q R rx ry P => by
  cases rx <;> cases ry <;> first | exact P.elim | skip
  rename_i i j
  simp only [oMod] at P
  split at P
  · rename_i c; exact ⟨_, op_mod, _, _, rfl, rfl, c, P m H _ Ext.refl R (.int _)⟩
  · exact P.elim
theorem so_div : SO G X (binaryOp .FloorDiv) oDiv := .mk fun m h H x y vx vy Z Q R rx ry P => by
  cases rx <;> cases ry <;> first | exact P.elim | skip
  rename_i i j
  simp only [oDiv] at P
  split at P
  · rename_i c; exact ⟨_, op_fdiv, _, _, rfl, rfl, c, P m H _ Ext.refl R (.int _)⟩
  · exact P.elim
theorem so_pow : SO G X (binaryOp .Pow) oPow := .mk fun m h H x y vx vy Z Q R rx ry P => by
  cases rx <;> cases ry <;> first | exact P.elim | skip
  rename_i i j
  simp only [oPow] at P
  split at P
  · rename_i c; exact ⟨_, op_pow, _, _, rfl, rfl, c, P m H _ Ext.refl R (.int _)⟩
  · exact P.elim
theorem CMul_of {i j : Int} (h : mulOk i j = true) : CMul i j := by
  unfold mulOk at h
  simp only [Bool.or_eq_true, Bool.and_eq_true, decide_eq_true_eq] at h
  exact h
theorem so_mul : SO G X (binaryOp .Mult) oMul := .mk fun m h H x y vx vy Z Q R rx ry P => by
  cases rx <;> cases ry <;> first | exact P.elim | skip
  · rename_i i j
    simp only [oMul] at P
    split at P
    · rename_i c; exact ⟨_, op_mul, _, _, rfl, rfl, CMul_of c, P m H _ Ext.refl R (.int _)⟩
    · exact P.elim
  · rename_i n hn k
    simp only [oMul] at P
    split at P
    · rename_i xs e
      split at P
      · rename_i c
        obtain ⟨vs, ha, hv⟩ := R.obj n _ e
        refine ⟨_, op_rep, m n, k, vs, rfl, rfl, ha, by omega, by omega, ?_, fun p hp => ?_⟩
        · rw [← hv.length, lineSz]; exact c.2.2
        · have rep : RWs G.K G.cl m h.length H (List.replicate k.toNat xs).flatten (List.replicate k.toNat vs).flatten := by
            generalize k.toNat = q
            induction q with
            | zero => exact .nil
            | succ q ih => rw [List.replicate_succ, List.replicate_succ, List.flatten_cons, List.flatten_cons]; exact hv.append ih
          have z := R.push (q := p) (u := .lst (List.replicate k.toNat vs).flatten) (o := .lst (List.replicate k.toNat xs).flatten) hp
          have e1 : Ext G.K m h.length H (ext1 m h.length p) (h.length + 1) (upd H p (.lst (List.replicate k.toNat vs).flatten))  := .add hp
          obtain ⟨R', E'⟩ := z ⟨_, upd_same, rep.mono e1⟩
          have w := P _ _ (.ref p) E' R' (by
            have q := RW.ref (K := G.K) (cl := G.cl) (m := ext1 m h.length p) (L := (h ++ [IO.lst (List.replicate k.toNat xs).flatten]).length) (H := upd H p (.lst (List.replicate k.toNat vs).flatten)) h.length (by simp)
            have l : ext1 m h.length p h.length = p := by unfold ext1; rw [if_pos rfl]
            rw [l] at q; exact q)
          exact w
      · exact P.elim
    · exact P.elim
/-- a new list -/
theorem new_lst {m : Nat → Addr} {h : IH} {H : Hp} {p : Addr} {ws : List W} {vs : List V} {Q : VK} (R : Rep G.K G.cl m h H) (hp : H p = none) (hv : RWs G.K G.cl m h.length H ws vs)
    (P : ∀ m' H' v, Ext G.K m h.length H m' (h ++ [IO.lst ws]).length H' → Rep G.K G.cl m' (h ++ [IO.lst ws]) H' → RW G.K G.cl m' (h ++ [IO.lst ws]).length H' (.ref h.length) v → Q v H') : Q (.ref p) (upd H p (.lst vs)) := by
  have e1 : Ext G.K m h.length H (ext1 m h.length p) (h.length + 1) (upd H p (.lst vs))  := .add hp
  obtain ⟨R', E'⟩ := R.push (q := p) (u := .lst vs) (o := .lst ws) hp ⟨_, upd_same, hv.mono e1⟩
  refine P _ _ (.ref p) E' R' ?_
  have q := RW.ref (K := G.K) (cl := G.cl) (m := ext1 m h.length p) (L := (h ++ [IO.lst ws]).length) (H := upd H p (.lst vs)) h.length (by simp)
  have l : ext1 m h.length p h.length = p := by unfold ext1; rw [if_pos rfl]
  rw [l] at q; exact q
/-- a new tuple -/
theorem new_tup {m : Nat → Addr} {h : IH} {H : Hp} {p : Addr} {ws : List W} {vs : List V} {Q : VK} (R : Rep G.K G.cl m h H) (hp : H p = none) (hv : RWs G.K G.cl m h.length H ws vs)
    (P : ∀ m' H' v, Ext G.K m h.length H m' h.length H' → Rep G.K G.cl m' h H' → RW G.K G.cl m' h.length H' (.tup ws) v → Q v H') : Q (.ref p) (upd H p (.tup vs)) := by
  obtain ⟨R', E'⟩ := R.aside (q := p) (o := .tup vs) hp
  exact P _ _ (.ref p) E' R' (.tup (.inl (.inl upd_same)) (hv.mono E'))
theorem so_add (F : Fit G X Z k) : SO G X (binaryOp .Add) oAdd := .mk fun m h H x y vx vy Z Q R rx ry P => by
  cases rx <;> cases ry <;> first | exact P.elim | skip
  · exact ⟨_, op_add, _, _, rfl, rfl, P m H _ Ext.refl R (.int _)⟩
  · rename_i i j
    simp only [oAdd, appS_eq] at P
    split at P
    · rename_i c; exact ⟨_, op_add_str, _, _, rfl, rfl, by rw [lineSz]; exact c, P m H _ Ext.refl R (.str _)⟩
    · exact P.elim
  · rename_i p vs ws hp hv q us zs hq hu
    simp only [oAdd] at P
    split at P
    · rename_i c
      refine ⟨_, op_catA, p, q, vs, us, rfl, rfl, F.K ▸ hp, F.K ▸ hq, by rw [← hv.length, ← hu.length, lineSz]; exact c, fun e => ?_, fun _ e => ?_, fun _ _ r hr => ?_⟩
      · subst e
        cases hv
        exact P m H _ Ext.refl R (.tup hq (by simpa using hu))
      · subst e
        cases hu
        exact P m H _ Ext.refl R (.tup hp (by simpa using hv))
      · exact new_tup R hr (hv.append hu) P
    · exact P.elim
  · rename_i n hn k hk
    simp only [oAdd] at P
    split at P
    · rename_i xs ys e1 e2
      split at P
      · rename_i c
        obtain ⟨vs, ha, hv⟩ := R.obj n _ e1
        obtain ⟨us, hb, hu⟩ := R.obj k _ e2
        exact ⟨_, op_cat, _, _, vs, us, rfl, rfl, ha, hb, by rw [← hv.length, ← hu.length, lineSz]; exact c, fun p hp => new_lst R hp (hv.append hu) P⟩
      · exact P.elim
    · exact P.elim
/-! ### order of ints -/
def oLt : W → W → IH → Out
  | .int i, .int j, h => .v (.bl (decide (i < j))) h
  | _, _, _ => .no
def oLe : W → W → IH → Out
  | .int i, .int j, h => .v (.bl (decide (i ≤ j))) h
  | _, _, _ => .no
def oGt : W → W → IH → Out
  | .int i, .int j, h => .v (.bl (decide (j < i))) h
  | _, _, _ => .no
def oGe : W → W → IH → Out
  | .int i, .int j, h => .v (.bl (decide (j ≤ i))) h
  | _, _, _ => .no
theorem so_lt : SO G X (compareOp .Lt) oLt := .mk fun m h H x y vx vy Z Q R rx ry P => by
  cases rx <;> cases ry <;> first | exact P.elim | exact ⟨_, op_lt, _, _, rfl, rfl, P m H _ Ext.refl R (.bl _)⟩
theorem so_le : SO G X (compareOp .LtE) oLe := .mk fun m h H x y vx vy Z Q R rx ry P => by
  cases rx <;> cases ry <;> first | exact P.elim | exact ⟨_, op_le, _, _, rfl, rfl, P m H _ Ext.refl R (.bl _)⟩
theorem so_gt : SO G X (compareOp .Gt) oGt := .mk fun m h H x y vx vy Z Q R rx ry P => by
  cases rx <;> cases ry <;> first | exact P.elim | exact ⟨_, op_gt, _, _, rfl, rfl, P m H _ Ext.refl R (.bl _)⟩
theorem so_ge : SO G X (compareOp .GtE) oGe := .mk fun m h H x y vx vy Z Q R rx ry P => by
  cases rx <;> cases ry <;> first | exact P.elim | exact ⟨_, op_ge, _, _, rfl, rfl, P m H _ Ext.refl R (.bl _)⟩
/-! ### is None -/
def W.isNon : W → Bool
  | .non => true
  | _ => false
def oIsN : W → W → IH → Out
  | x, .non, h => .v (.bl x.isNon) h
  | _, _, _ => .no
def oNotN : W → W → IH → Out
  | x, .non, h => .v (.bl (!x.isNon)) h
  | _, _, _ => .no
theorem isNon_of {m : Nat → Addr} {L : Nat} {H : Hp} {x : W} {v : V} (r : RW G.K G.cl m L H x v) : decide (v = .non) = x.isNon := by
  cases r <;> simp [W.isNon]
theorem so_isN : SO G X (compareOp .Is) oIsN := .mk fun m h H x y vx vy Z Q R rx ry P => by
  cases ry <;> first | exact P.elim | (cases x <;> exact P.elim) | skip
  refine ⟨_, op_isN, rfl, ?_⟩
  rw [isNon_of rx]
  exact P m H _ Ext.refl R (.bl _)
theorem so_notN : SO G X (compareOp .IsNot) oNotN := .mk fun m h H x y vx vy Z Q R rx ry P => by
  cases ry <;> first | exact P.elim | (cases x <;> exact P.elim) | skip
  refine ⟨_, op_notN, rfl, ?_⟩
  rw [isNon_of rx]
  exact P m H _ Ext.refl R (.bl _)
end
end Dr
namespace Dr
open PySem L2

section
variable {G : Cfg} {X : Cx} {Z : WX} {k : Nat} {a b c : Ev} {ea eb ec : Expr} {pos : Pos}
/-! ### and, or, not, if .. else -/
def eAnd (a b : Ev) : Ev := fun σ h => (a σ h).vb fun x h1 => match x with | .bl true => b σ h1 | .bl false => .v (.bl false) h1 | _ => .no
def eOr (a b : Ev) : Ev := fun σ h => (a σ h).vb fun x h1 => match x with | .bl true => .v (.bl true) h1 | .bl false => b σ h1 | _ => .no
def eNot (a : Ev) : Ev := fun σ h => (a σ h).vb fun x h1 => match x with | .bl q => .v (.bl (!q)) h1 | _ => .no
def eIf (c a b : Ev) : Ev := fun σ h => (c σ h).vb fun x h1 => match x with | .bl true => a σ h1 | .bl false => b σ h1 | _ => .no
theorem t_val (ha : SE G X Z a ea) (he : ∀ wh, isTrue ea X.env wh = (do let v ← wh; standAt ea.pos; holding [v] (truthy v)) := by intro _; rfl) : ST G X Z a ea :=
  .mk fun m h H σ τ Q R S P => WT.of (pt_val peM he) (ha m h H σ τ _ R S P)
theorem t_p (ha : SP' G X Z a ea) : ST G X Z a ea := .mk fun m h H σ τ Q R S P => WT.of (PW.pt pwM) (ha m h H σ τ Q R S P)
theorem p_and1 (ha : ST G X Z a ea) : SP' G X Z a (.BoolOp .And [ea] pos) := .mk fun m h H σ τ Q R S P => WP.of (pw_and1 ptM) (ha m h H σ τ Q R S P)
theorem p_or1 (ha : ST G X Z a ea) : SP' G X Z a (.BoolOp .Or [ea] pos) := .mk fun m h H σ τ Q R S P => WP.of (pw_or1 ptM) (ha m h H σ τ Q R S P)
theorem p_and {rest : List Expr} (ha : ST G X Z a ea) (hb : SP' G X Z b (.BoolOp .And (eb :: rest) pos)) : SP' G X Z (eAnd a b) (.BoolOp .And (ea :: eb :: rest) pos) := .mk fun m h H σ τ Q R S P => by
  refine WP.of (pw_and ptM pwM) (ha m h H σ τ _ R S (PoE.ee P fun x h1 m1 H1 v1 e1 R1 r1 P1 => ?_))
  cases r1 <;> first | exact P1.elim | skip
  rename_i q
  cases q
  · refine ⟨false, rfl, iteF ?_⟩
    obtain ⟨b', e, q⟩ := P1 m1 H1 _ Ext.refl R1 (.bl _)
    cases e; exact q
  · exact ⟨true, rfl, iteT (hb m1 h1 H1 σ τ Q R1 (S.mono e1) P1)⟩
theorem p_or {rest : List Expr} (ha : ST G X Z a ea) (hb : SP' G X Z b (.BoolOp .Or (eb :: rest) pos)) : SP' G X Z (eOr a b) (.BoolOp .Or (ea :: eb :: rest) pos) := .mk fun m h H σ τ Q R S P => by
  refine WP.of (pw_or ptM pwM) (ha m h H σ τ _ R S (PoE.ee P fun x h1 m1 H1 v1 e1 R1 r1 P1 => ?_))
  cases r1 <;> first | exact P1.elim | skip
  rename_i q
  cases q
  · exact ⟨false, rfl, iteF (hb m1 h1 H1 σ τ Q R1 (S.mono e1) P1)⟩
  · refine ⟨true, rfl, iteT ?_⟩
    obtain ⟨b', e, q⟩ := P1 m1 H1 _ Ext.refl R1 (.bl _)
    cases e; exact q
theorem t_not (ha : ST G X Z a ea) : ST G X Z (eNot a) (.UnaryOp .Not ea pos) := .mk fun m h H σ τ Q R S P => by
  refine WT.of (pt_not ptM) (ha m h H σ τ _ R S (PoE.ee P fun x h1 m1 H1 v1 e1 R1 r1 P1 => ?_))
  cases r1 <;> first | exact P1.elim | skip
  rename_i q
  obtain ⟨b', e, q⟩ := P1 m1 H1 _ Ext.refl R1 (.bl _)
  cases e
  exact ⟨_, rfl, q⟩
theorem s_one {op : BoolOp} (ha : SE G X Z a ea) : SE G X Z a (.BoolOp op [ea] pos) := .mk fun m h H σ τ Q R S P => WE.of (pe_one peM) (ha m h H σ τ Q R S P)
theorem s_and {rest : List Expr} (ha : SE G X Z a ea) (hb : SE G X Z b (.BoolOp .And (eb :: rest) pos)) : SE G X Z (eAnd a b) (.BoolOp .And (ea :: eb :: rest) pos) := .mk fun m h H σ τ Q R S P => by
  refine WE.of (pe_and peM peM) (ha m h H σ τ _ R S (PoE.ee P fun x h1 m1 H1 v1 e1 R1 r1 P1 => ?_))
  cases r1 <;> first | exact P1.elim | skip
  rename_i q
  cases q
  · exact ⟨false, rfl, iteF (P1 m1 H1 _ Ext.refl R1 (.bl _))⟩
  · exact ⟨true, rfl, iteT (hb m1 h1 H1 σ τ Q R1 (S.mono e1) P1)⟩
theorem s_or {rest : List Expr} (ha : SE G X Z a ea) (hb : SE G X Z b (.BoolOp .Or (eb :: rest) pos)) : SE G X Z (eOr a b) (.BoolOp .Or (ea :: eb :: rest) pos) := .mk fun m h H σ τ Q R S P => by
  refine WE.of (pe_or peM peM) (ha m h H σ τ _ R S (PoE.ee P fun x h1 m1 H1 v1 e1 R1 r1 P1 => ?_))
  cases r1 <;> first | exact P1.elim | skip
  rename_i q
  cases q
  · exact ⟨false, rfl, iteF (hb m1 h1 H1 σ τ Q R1 (S.mono e1) P1)⟩
  · exact ⟨true, rfl, iteT (P1 m1 H1 _ Ext.refl R1 (.bl _))⟩
theorem s_not (ha : SE G X Z a ea) : SE G X Z (eNot a) (.UnaryOp .Not ea pos) := .mk fun m h H σ τ Q R S P => by
  refine WE.of (pe_not peM) (ha m h H σ τ _ R S (PoE.ee P fun x h1 m1 H1 v1 e1 R1 r1 P1 => ?_))
  cases r1 <;> first | exact P1.elim | skip
  exact ⟨_, rfl, P1 m1 H1 _ Ext.refl R1 (.bl _)⟩
theorem s_if (hc : ST G X Z c ec) (ha : SE G X Z a ea) (hb : SE G X Z b eb) : SE G X Z (eIf c a b) (.IfExp ec ea eb pos) := .mk fun m h H σ τ Q R S P => by
  refine WE.of (pe_ifExp ptM peM peM) (hc m h H σ τ _ R S (PoE.ee P fun x h1 m1 H1 v1 e1 R1 r1 P1 => ?_))
  cases r1 <;> first | exact P1.elim | skip
  rename_i q
  cases q
  · exact ⟨false, rfl, iteF (hb m1 h1 H1 σ τ Q R1 (S.mono e1) P1)⟩
  · exact ⟨true, rfl, iteT (ha m1 h1 H1 σ τ Q R1 (S.mono e1) P1)⟩
/-! ### arguments, displays -/
def eNil : Ev := fun _ h => .vs [] h
def eCons (a r : Ev) : Ev := fun σ h => (a σ h).vb fun x h1 => (r σ h1).vsb fun xs h2 => .vs (x :: xs) h2
def eStar (a r : Ev) : Ev := fun σ h => (a σ h).vb fun x h1 => match x with
  | .tup xs => (r σ h1).vsb fun ys h2 => .vs (xs ++ ys) h2
  | .ref n => match h1[n]? with
    | some (.lst xs) => (r σ h1).vsb fun ys h2 => .vs (xs ++ ys) h2
    | _ => .no
  | _ => .no
theorem a_nil : SA G X Z eNil [] := .mk fun m h H σ τ Q R S P => WA.of pa_nil (P m H _ Ext.refl R .nil)
def notStar : Expr → Bool
  | .Starred .. => false
  | _ => true
theorem star_of {es : List Expr} {env : Env} (h : notStar ea = true) : starEach (ea :: es) env = (false, eval ea env) :: starEach es env := by
  cases ea <;> first | rfl | cases h
theorem a_cons {es : List Expr} {r : Ev} (ha : SE G X Z a ea) (hr : SA G X Z r es) (hs : notStar ea = true := by rfl) : SA G X Z (eCons a r) (ea :: es) := .mk fun m h H σ τ Q R S P => by
  refine WA.of (pa_cons peM paM (star_of hs)) (ha m h H σ τ _ R S (PoA.ea P fun x h1 m1 H1 v1 e1 R1 r1 P1 => ?_))
  refine hr m1 h1 H1 σ τ _ R1 (S.mono e1) (PoA.aa P1 fun y h2 m2 H2 v2 e2 R2 r2 P2 => ?_)
  exact P2 m2 H2 _ Ext.refl R2 (.cons (r1.mono e2) r2)
theorem a_star {es : List Expr} {r : Ev} {p : Pos} (F : Fit G X Z k) (ha : SE G X Z a ea) (hr : SA G X Z r es) (hs : starEach (.Starred ea p :: es) X.env = (true, eval ea X.env) :: starEach es X.env := by rfl) : SA G X Z (eStar a r) (.Starred ea p :: es) := .mk fun m h H σ τ Q R S P => by
  refine WA.of (StX.pa_star peM paM hs) (ha m h H σ τ _ R S (PoA.ea P fun x h1 m1 H1 v1 e1 R1 r1 P1 => ?_))
  cases r1 <;> first | exact P1.elim | skip
  · rename_i p' vs ws hp hv
    refine ⟨p', vs, rfl, .inl (F.K ▸ hp), ?_⟩
    refine hr m1 h1 H1 σ τ _ R1 (S.mono e1) (PoA.aa P1 fun y h2 m2 H2 v2 e2 R2 r2 P2 => ?_)
    exact P2 m2 H2 _ Ext.refl R2 ((hv.mono e2).append r2)
  · rename_i n hn
    simp only at P1
    split at P1
    · rename_i xs e
      obtain ⟨vs, hv, hw⟩ := R1.obj n _ e
      refine ⟨m1 n, vs, rfl, .inr (.inl (.inl hv)), ?_⟩
      refine hr m1 h1 H1 σ τ _ R1 (S.mono e1) (PoA.aa P1 fun y h2 m2 H2 v2 e2 R2 r2 P2 => ?_)
      exact P2 m2 H2 _ Ext.refl R2 ((hw.mono e2).append r2)
    · exact P1.elim
def eLst (r : Ev) : Ev := fun σ h => (r σ h).vsb fun ws h1 => if ws.length ≤ 16777216 then .v (.ref h1.length) (h1 ++ [.lst ws]) else .no
def eTup (r : Ev) : Ev := fun σ h => (r σ h).vsb fun ws h1 => if ws.length ≤ 16777216 then .v (.tup ws) h1 else .no
theorem s_lst {es : List Expr} {r : Ev} (hr : SA G X Z r es) : SE G X Z (eLst r) (.List es pos) := .mk fun m h H σ τ Q R S P => by
  refine WE.of (pe_lst paM) (hr m h H σ τ _ R S (PoE.ae P fun ws h1 m1 H1 vs e1 R1 r1 P1 => ?_))
  split at P1
  · rename_i q
    exact ⟨by rw [← r1.length, lineSz]; exact q, fun p hp => new_lst R1 hp r1 P1⟩
  · exact P1.elim
theorem s_tup {es : List Expr} {r : Ev} {x1} (hr : SA G X Z r es) : SE G X Z (eTup r) (.Tuple es x1 pos) := .mk fun m h H σ τ Q R S P => by
  refine WE.of (pe_tup paM) (hr m h H σ τ _ R S (PoE.ae P fun ws h1 m1 H1 vs e1 R1 r1 P1 => ?_))
  split at P1
  · rename_i q
    exact ⟨by rw [← r1.length, lineSz]; exact q, fun p hp => new_tup R1 hp r1 P1⟩
  · exact P1.elim
/-! ### a[i], a[i:j] -/
def WIx (X : Cx) : R2 := fun x y H Q => ∃ r, IxR X r ∧ r x y H Q
theorem ixM : IxR X (WIx X) := fun a b pins s σ H x y v u Q I rx ry h hs => let ⟨_, o, q⟩ := h; o a b pins s σ H x y v u Q I rx ry q hs
def ixW (ws : List W) (i : Int) (h : IH) : Out := match atI ws i with | some w => .v w h | none => .no
def oIx : W → W → IH → Out
  | .tup ws, .int i, h => ixW ws i h
  | .ref n, .int i, h => match h[n]? with
    | some (.lst ws) => ixW ws i h
    | some (.rol ws) => ixW ws i h
    | _ => .no
  | .str z, .int i, h => if z.length ≤ 16777216 then (match atI z.cps.toList i with | some q => .v (.str ⟨#[q]⟩) h | none => .no) else .no
  | _, _, _ => .no
theorem RWs.atI {m : Nat → Addr} {L : Nat} {H : Hp} {ws : List W} {vs : List V} {i : Int} {w : W} (r : RWs G.K G.cl m L H ws vs) (e : L2.atI ws i = some w) : ∃ v, L2.atI vs i = some v ∧ RW G.K G.cl m L H w v := by
  unfold L2.atI at e ⊢
  rw [r.length] at e
  cases q : ixN vs.length i with
  | none => rw [q] at e; cases e
  | some j =>
    rw [q] at e
    exact r.get e
theorem s_ix (F : Fit G X Z k) (ha : SE G X Z a ea) (hb : SE G X Z b eb) (hs : PlainIx eb := by exact fun _ _ => rfl) : SE G X Z (eBin oIx a b) (.Subscript ea eb pos) := .mk fun m h H σ τ Q R S P => by
  refine WE.of (pe_ix ixM peM peM hs) (ha m h H σ τ _ R S (PoE.ee P fun x h1 m1 H1 v1 e1 R1 r1 P1 => ?_))
  refine hb m1 h1 H1 σ τ _ R1 (S.mono e1) (PoE.ee P1 fun y h2 m2 H2 v2 e2 R2 r2 P2 => ?_)
  have r1' := r1.mono e2
  cases r1' <;> cases r2 <;> first | exact P2.elim | skip
  · rename_i z i
    simp only [oIx] at P2
    split at P2
    · rename_i q
      split at P2
      · rename_i d e
        exact ⟨_, ix_str, _, _, _, rfl, rfl, by rw [lineSz]; exact q, e, P2 m2 H2 _ Ext.refl R2 (.str _)⟩
      · exact P2.elim
    · exact P2.elim
  · rename_i p vs ws hp hv i
    simp only [oIx, ixW] at P2
    split at P2
    · rename_i w e
      obtain ⟨v, f, rv⟩ := hv.atI e
      exact ⟨_, ix_tup, p, vs, i, v, rfl, rfl, F.K ▸ hp, f, P2 m2 H2 _ Ext.refl R2 rv⟩
    · exact P2.elim
  · rename_i n hn i
    simp only [oIx] at P2
    split at P2
    · rename_i ws e
      obtain ⟨vs, hx, hv⟩ := R2.obj n _ e
      simp only [ixW] at P2
      split at P2
      · rename_i w e
        obtain ⟨v, f, rv⟩ := hv.atI e
        exact ⟨_, ix_list, m2 n, vs, i, v, rfl, rfl, .inl (.inl hx), f, P2 m2 H2 _ Ext.refl R2 rv⟩
      · exact P2.elim
    · rename_i ws e
      obtain ⟨vs, hx, hv⟩ := R2.obj n _ e
      simp only [ixW] at P2
      split at P2
      · rename_i w e
        obtain ⟨v, f, rv⟩ := hv.atI e
        exact ⟨_, ix_list, m2 n, vs, i, v, rfl, rfl, F.K ▸ rol_sq hx, f, P2 m2 H2 _ Ext.refl R2 rv⟩
      · exact P2.elim
    · exact P2.elim
def WPO (X : Cx) (e : Option Expr) : TO := fun σ H Q => ∀ (pins : List (Addr × Obj)) (s : Shared), Inv X pins σ H s → wpAny (model X.prog X.w) X.A (evalPart e X.env) (fun u s' => ∃ o H', Inv X pins σ H' s' ∧ IsPart u o ∧ Q o H') X.xe s
theorem poM' {e : Option Expr} : PO X e (WPO X e) := ⟨fun pins s _ _ _ I h => h pins s I⟩
def W.part : W → Option (Option Int)
  | .non => some none
  | .int i => some (some i)
  | _ => none
def partQ (Q : Option Int → Hp → Prop) : VK := fun v H => ∃ o, (v = .non ∧ o = none ∨ ∃ i, v = .int i ∧ o = some i) ∧ Q o H
structure SPO (G : Cfg) (X : Cx) (Z : WX) (c : Ev) (e : Option Expr) : Prop where
  go : ∀ m h H σ τ Q, Rep G.K G.cl m h H → RSt G m h.length H σ τ → PoE G m h.length H Z (partQ Q) (c σ h) → WPO X e τ H Q
instance {G : Cfg} {X : Cx} {Z : WX} {c : Ev} {e : Option Expr} : CoeFun (SPO G X Z c e) (fun _ => ∀ m h H σ τ Q, Rep G.K G.cl m h H → RSt G m h.length H σ τ → PoE G m h.length H Z (partQ Q) (c σ h) → WPO X e τ H Q) := ⟨SPO.go⟩
theorem o_none : SPO G X Z (eK .non) none := .mk fun m h H σ τ Q R S P pins s I => by
  obtain ⟨o, h1, q⟩ := P m H .non Ext.refl R .non
  rcases h1 with ⟨_, rfl⟩ | ⟨i, e, _⟩
  · exact (po_none (X := X)).run pins s τ H Q I q
  · cases e
def eInt (a : Ev) : Ev := fun σ h => (a σ h).vb fun x h1 => match x with | .int i => .v (.int i) h1 | _ => .no
theorem o_some (ha : SE G X Z a ea) : SPO G X Z (eInt a) (some ea) := .mk fun m h H σ τ Q R S P pins s I => by
  refine (po_some (X := X) peM).run pins s τ H Q I (ha m h H σ τ _ R S (PoE.ee P fun x h1 m1 H1 v1 e1 R1 r1 P1 => ?_))
  cases r1 <;> first | exact P1.elim | skip
  obtain ⟨o, h1, q⟩ := P1 m1 H1 _ Ext.refl R1 (.int _)
  rcases h1 with ⟨e, _⟩ | ⟨i, e, rfl⟩
  · cases e
  · cases e; exact ⟨_, rfl, q⟩
def WSl (X : Cx) : V → Option Int → Option Int → Hp → VK → Prop := fun x lo hi H Q => ∃ r, SlR X r ∧ r x lo hi H Q
theorem slM : L2.SlR X (WSl X) := fun pins s σ H x v vl vu lo hi sl Q I rx hs pl pu h => let ⟨_, o, q⟩ := h; o pins s σ H x v vl vu lo hi sl Q I rx hs pl pu q
def cutW (ws : List W) (lo hi : Option Int) : List W := (ws.drop (HT.sIx ws.length 0 lo)).take (HT.sIx ws.length ws.length hi - HT.sIx ws.length 0 lo)
def oSl (x : W) (lo hi : Option Int) (h : IH) : Out := match x with
  | .str z => if z.length ≤ 16777216 then .v (.str (cutS z lo hi)) h else .no
  | .tup ws => .v (.tup (cutW ws lo hi)) h
  | .ref n => (match h[n]? with
    | some (.lst ws) => .v (.ref h.length) (h ++ [.lst (cutW ws lo hi)])
    | some (.rol ws) => .v (.ref h.length) (h ++ [.lst (cutW ws lo hi)])
    | _ => .no)
  | _ => .no
def pm (f : Option Int → IH → Out) (y : W) (h : IH) : Out := match y.part with | some p => f p h | none => .no
def Out.pb (o : Out) (f : Option Int → IH → Out) : Out := o.vb (pm f)
def eSl (a l u : Ev) : Ev := fun σ h => (a σ h).vb fun x h1 => (l σ h1).pb fun lo h2 => (u σ h2).pb fun hi h3 => oSl x lo hi h3
theorem RWs.cut {m : Nat → Addr} {L : Nat} {H : Hp} {ws : List W} {vs : List V} (r : RWs G.K G.cl m L H ws vs) (lo hi : Option Int) : RWs G.K G.cl m L H (cutW ws lo hi) (cutV vs lo hi) := by
  unfold cutW cutV
  rw [r.length]
  exact (r.drop _).take _
theorem part_q {m : Nat → Addr} {L : Nat} {H : Hp} {y : W} {v : V} {Q : VK} {R : Option Int → Hp → Prop} {f : Option Int → IH → Out} {h : IH} (r : RW G.K G.cl m L H y v)
    (P : PoE G m L H Z Q (pm f y h)) (k : ∀ o, PoE G m L H Z Q (f o h) → R o H) : partQ R v H := by
  cases r <;> first
    | exact ⟨_, .inl ⟨rfl, rfl⟩, k _ P⟩
    | exact ⟨_, .inr ⟨_, rfl, rfl⟩, k _ P⟩
    | exact P.elim
theorem so_sl (F : Fit G X Z k) : ∀ m h H x vx lo hi Q, Rep G.K G.cl m h H → RW G.K G.cl m h.length H x vx → PoE G m h.length H Z Q (oSl x lo hi h) → WSl X vx lo hi H Q := fun m h H x vx lo hi Q R rx P => by
  cases rx <;> first | exact P.elim | skip
  · simp only [oSl] at P
    split at P
    · rename_i q
      exact ⟨_, sl_str, _, rfl, by rw [lineSz]; exact q, P m H _ Ext.refl R (.str _)⟩
    · exact P.elim
  · rename_i p vs ws hp hv
    refine ⟨_, sl_tupA, p, vs, rfl, F.K ▸ hp, fun q => ?_, fun _ r hr => new_tup R hr (hv.cut lo hi) P⟩
    have e : cutW ws lo hi = ws := by
      unfold cutW
      rw [hv.length, q.1, q.2, List.drop_zero, Nat.sub_zero, ← hv.length, List.take_length]
    have P' : ∀ m' H' v, Ext G.K m h.length H m' h.length H' → Rep G.K G.cl m' h H' → RW G.K G.cl m' h.length H' (.tup (cutW ws lo hi)) v → Q v H' := P
    rw [e] at P'
    exact P' m H _ Ext.refl R (.tup hp hv)
  · rename_i n hn
    simp only [oSl] at P
    split at P
    · rename_i ws e
      obtain ⟨vs, hx, hv⟩ := R.obj n _ e
      exact ⟨_, sl_list, m n, vs, rfl, .inl (.inl hx), fun p hp => new_lst R hp (hv.cut lo hi) P⟩
    · rename_i ws e
      obtain ⟨vs, hx, hv⟩ := R.obj n _ e
      exact ⟨_, sl_list, m n, vs, rfl, F.K ▸ rol_sq hx, fun p hp => new_lst R hp (hv.cut lo hi) P⟩
    · exact P.elim
theorem s_sl {l u : Ev} {lo hi : Option Expr} {p2 : Pos} (F : Fit G X Z k) (ha : SE G X Z a ea) (hl : SPO G X Z l lo) (hu : SPO G X Z u hi) : SE G X Z (eSl a l u) (.Subscript ea (.Slice lo hi none p2) pos) := .mk fun m h H σ τ Q R S P => by
  refine WE.of (pe_slice slM peM poM' poM') (ha m h H σ τ _ R S (PoE.ee P fun x h1 m1 H1 v1 e1 R1 r1 P1 => ?_))
  refine hl m1 h1 H1 σ τ _ R1 (S.mono e1) (PoE.ee P1 fun y h2 m2 H2 v2 e2 R2 r2 P2 => part_q r2 P2 fun lo P2 => ?_)
  refine hu m2 h2 H2 σ τ _ R2 ((S.mono e1).mono e2) (PoE.ee P2 fun z h3 m3 H3 v3 e3 R3 r3 P3 => part_q r3 P3 fun hi P3 => ?_)
  exact so_sl F m3 h3 H3 x v1 lo hi Q R3 ((r1.mono e2).mono e3) P3
end
end Dr
namespace Dr
open PySem L2

section
variable {G : Cfg} {X : Cx} {Z : WX} {k : Nat} {a b c : Ev} {ea eb ec : Expr} {pos : Pos} {st : Stmt} {sts sts' : List Stmt}
/-! ### plain statements -/
def eEnd : Ev := fun σ h => .nx σ h
def eSeq (a b : Ev) : Ev := fun σ h => (a σ h).nb b
def eDrop (a : Ev) : Ev := fun σ h => (a σ h).vb fun _ h1 => .nx σ h1
def eRet (a : Ev) : Ev := fun σ h => (a σ h).vb fun w h1 => .rt w h1
def eRetN : Ev := fun σ h => .rt .non h
def eBrk : Ev := fun σ h => .bk σ h
def eCnt : Ev := fun σ h => .ct σ h
def eIfS (c a b : Ev) : Ev := fun σ h => (c σ h).vb fun x h1 => match x with | .bl true => a σ h1 | .bl false => b σ h1 | _ => .no
theorem b_end : SB G X Z eEnd [] := .mk fun m h H σ τ D R S P => WB.of pss_nil (P m H τ Ext.refl R S)
theorem b_cons (h1 : SS G X Z a st) (h2 : SB G X Z b sts) : SB G X Z (eSeq a b) (st :: sts) := .mk fun m h H σ τ D R S P => by
  refine WB.of (pss_cons psM pbM) (h1 m h H σ τ _ R S (PoS.ss P fun s h1 m1 H1 τ1 e1 R1 S1 P1 => ?_))
  exact h2 m1 h1 H1 s τ1 D R1 S1 P1
theorem b_one (h1 : SS G X Z a st) : SB G X Z a [st] := .mk fun m h H σ τ D R S P => WB.of (pss_one psM) (h1 m h H σ τ D R S P)
theorem v_pass : SS G X Z eEnd (.Pass pos) := .mk fun m h H σ τ D R S P => WS.of ps_pass (P m H τ Ext.refl R S)
theorem v_brk : SS G X Z eBrk (.Break pos) := .mk fun m h H σ τ D R S P => WS.of ps_break (P m H τ Ext.refl R S)
theorem v_cnt : SS G X Z eCnt (.Continue pos) := .mk fun m h H σ τ D R S P => WS.of ps_continue (P m H τ Ext.refl R S)
theorem v_drop (ha : SE G X Z a ea) (hs : swapsWith ea none pos.line X.env = pure false := by rfl) : SS G X Z (eDrop a) (.Expr ea pos) := .mk fun m h H σ τ D R S P => by
  refine WS.of (ps_expr peM hs) (ha m h H σ τ _ R S (PoS.es P fun w h1 m1 H1 v1 e1 R1 r1 P1 => ?_))
  exact P1 m1 H1 τ Ext.refl R1 (S.mono e1)
theorem v_ret (ha : SE G X Z a ea) : SS G X Z (eRet a) (.Return (some ea) pos) := .mk fun m h H σ τ D R S P => by
  refine WS.of (ps_ret peM) (ha m h H σ τ _ R S (PoS.es P fun w h1 m1 H1 v1 e1 R1 r1 P1 => ?_))
  exact P1 m1 H1 v1 Ext.refl R1 r1
theorem v_retN : SS G X Z eRetN (.Return none pos) := .mk fun m h H σ τ D R S P => WS.of ps_retN (P m H _ Ext.refl R .non)
theorem v_if (hc : ST G X Z c ec) (ha : SB G X Z a sts) (hb : SB G X Z b sts') : SS G X Z (eIfS c a b) (.If ec sts sts' pos) := .mk fun m h H σ τ D R S P => by
  refine WS.of (ps_if ptM pbM pbM) (hc m h H σ τ _ R S (PoS.es P fun x h1 m1 H1 v1 e1 R1 r1 P1 => ?_))
  cases r1 <;> first | exact P1.elim | skip
  rename_i q
  cases q
  · exact ⟨false, rfl, iteF (hb m1 h1 H1 σ τ D R1 (S.mono e1) P1)⟩
  · exact ⟨true, rfl, iteT (ha m1 h1 H1 σ τ D R1 (S.mono e1) P1)⟩
/-! ### targets -/
def WG (X : Cx) (tg : Expr) : TG := fun v σ H Q => ∀ (pins : List (Addr × Obj)) (s : Shared) (u : Value), Inv X pins σ H s → RelV v u → wpAny (model X.prog X.w) X.A (assign tg X.env u) (fun _ s' => ∃ σ' H', Inv X pins σ' H' s' ∧ Q σ' H') X.xe s
theorem pgM {tg : Expr} : PG X tg (WG X tg) := ⟨fun pins s _ _ _ u _ I r h => h pins s u I r⟩
theorem WG.of {tg : Expr} {t : TG} {v : V} {σ : St} {H : Hp} {Q : St → Hp → Prop} (p : PG X tg t) (h : t v σ H Q) : WG X tg v σ H Q := fun pins s u I r => p.run pins s σ H v u Q I r h
abbrev Tg := W → Sg → Option Sg
def SG (G : Cfg) (X : Cx) (g : Tg) (tg : Expr) : Prop := ∀ m h H w v σ τ σ' Q, Rep G.K G.cl m h H → RW G.K G.cl m h.length H w v → RSt G m h.length H σ τ → g w σ = some σ' → (∀ τ', RSt G m h.length H σ' τ' → Q τ' H) → WG X tg v τ H Q
def gN (i : Nat) : Tg := fun w σ => some (σ.set i (some w))
def gs : List Nat → List W → Sg → Option Sg
  | [], [], σ => some σ
  | i :: is, w :: ws, σ => gs is ws (σ.set i (some w))
  | _, _, _ => none
def gT (is : List Nat) : Tg := fun w σ => match w with | .tup ws => gs is ws σ | _ => none
theorem g_name (i : Nat) {x : Str} (hN : X.N.Nodup) (hi : X.N[i]? = some x := by rfl) (hx : Loc X.env.scope x := by first | exact Or.inl rfl | exact Or.inr rfl) (hf : X.fn x = true ∨ X.env.scope.names.lookup x = some .local := by first | exact .inl rfl | exact .inr rfl) : SG G X (gN i) (.Name x pos) :=
  fun m h H w v σ τ σ' Q R r S e q => by
    cases e
    exact WG.of (pg_name hN hi hx hf) (q _ (S.set i r))
def SGs (G : Cfg) (X : Cx) (is : List Nat) (tgs : List Expr) : Prop := ∃ t, PGs X tgs t ∧ tgs.length = is.length ∧ ∀ m h H ws vs σ τ σ' Q, Rep G.K G.cl m h H → RWs G.K G.cl m h.length H ws vs → RSt G m h.length H σ τ → gs is ws σ = some σ' → (∀ τ', RSt G m h.length H σ' τ' → Q τ' H) → t vs τ H Q
theorem gs_nil : SGs G X [] [] := ⟨_, pgs_nil, rfl, fun m h H ws vs σ τ σ' Q R r S e q => by
  cases r with
  | nil => cases e; exact ⟨rfl, q _ S⟩
  | cons _ _ => cases e⟩
theorem gs_cons (i : Nat) {is : List Nat} {tgs : List Expr} {x : Str} (h2 : SGs G X is tgs) (hN : X.N.Nodup) (hi : X.N[i]? = some x := by rfl) (hx : Loc X.env.scope x := by first | exact Or.inl rfl | exact Or.inr rfl) (hf : X.fn x = true ∨ X.env.scope.names.lookup x = some .local := by first | exact .inl rfl | exact .inr rfl)
    (hs : (assignEach (.Name x pos :: tgs) X.env).map (·.2) = assign (.Name x pos) X.env :: (assignEach tgs X.env).map (·.2) := by rfl) : SGs G X (i :: is) (.Name x pos :: tgs) := by
  obtain ⟨t, p, hl, h2⟩ := h2
  refine ⟨_, pgs_cons (pg_name hN hi hx hf) p hs, by simp [hl], fun m h H ws vs σ τ σ' Q R r S e q => ?_⟩
  cases r with
  | nil => cases e
  | cons r1 r2 => exact ⟨_, _, rfl, h2 m h H _ _ _ _ σ' Q R r2 (S.set i r1) e q⟩
theorem g_tup {is : List Nat} {tgs : List Expr} {k' : Nat} (F : Fit G X Z k) (h : SGs G X is tgs) (hn : (assignEach tgs X.env).length = is.length := by rfl) (hst : (assignEach tgs X.env).findIdx? (·.1) = none := by rfl) : SG G X (gT is) (.Tuple tgs k' pos) := by
  obtain ⟨t, p, hl, h2⟩ := h
  refine fun m h H w v σ τ σ' Q R r S e q => WG.of (pg_tup F.calm p hn hst) ?_
  have len : ∀ (is : List Nat) (ws : List W) (σ σ' : Sg), gs is ws σ = some σ' → ws.length = is.length := by
    intro is
    induction is with
    | nil => intro ws σ σ' e; cases ws with | nil => rfl | cons _ _ => cases e
    | cons i is ih => intro ws σ σ' e; cases ws with | nil => cases e | cons w ws => simp [ih ws _ _ e]
  cases r <;> first | (cases e; done) | skip
  rename_i p' vs ws hp hv
  exact ⟨p', vs, rfl, F.K ▸ hp, by rw [← hv.length]; exact len _ _ _ _ e, h2 m h H ws vs σ τ σ' Q R hv S e q⟩
def eAsg (g : Tg) (a : Ev) : Ev := fun σ h => (a σ h).vb fun w h1 => match g w σ with | some σ' => .nx σ' h1 | none => .no
theorem v_set (i : Nat) {x : Str} {pos' : Pos} (ha : SE G X Z a ea) (hN : X.N.Nodup) (hi : X.N[i]? = some x := by rfl) (hx : Loc X.env.scope x := by first | exact Or.inl rfl | exact Or.inr rfl) (hs : swapsWith ea (some (.Name x pos')) pos.line X.env = pure false := by rfl)
    (hf : X.fn x = true ∨ X.env.scope.names.lookup x = some .local := by first | exact .inl rfl | exact .inr rfl) : SS G X Z (eAsg (gN i) a) (.Assign [.Name x pos'] ea pos) := .mk fun m h H σ τ D R S P => by
  refine WS.of (ps_set hN hi hx peM hs hf) (ha m h H σ τ _ R S (PoS.es P fun w h1 m1 H1 v1 e1 R1 r1 P1 => ?_))
  exact P1 m1 H1 _ Ext.refl R1 ((S.mono e1).set i r1)
theorem v_asg {g : Tg} {tg : Expr} (ha : SE G X Z a ea) (hg : SG G X g tg) (hs : swapsWithSole [tg] ea pos.line X.env = pure false := by rfl) (hw : swappedStores [tg] ea X.env = pure none := by rfl)
    (h1 : (assignEach [tg] X.env).map (·.2) = [assign tg X.env] := by rfl) : SS G X Z (eAsg g a) (.Assign [tg] ea pos) := .mk fun m h H σ τ D R S P => by
  refine WS.of (ps_asg peM pgM hs hw h1) (ha m h H σ τ _ R S (PoS.es P fun w h1 m1 H1 v1 e1 R1 r1 P1 => ?_))
  split at P1
  · rename_i σ' e
    exact hg m1 h1 H1 w v1 σ τ σ' _ R1 r1 (S.mono e1) e fun τ' S' => P1 m1 H1 τ' Ext.refl R1 S'
  · exact P1.elim
/-- x += e -/
def eAug (i : Nat) (g : W → W → IH → Out) (a : Ev) : Ev := fun σ h => match σ[i]? with
  | some (some x) => (a σ h).vb fun y h1 => (g x y h1).vb fun z h2 => .nx (σ.set i (some z)) h2
  | _ => .no
def oAddI : W → W → IH → Out
  | .int i, .int j, h => .v (.int (i + j)) h
  | _, _, _ => .no
theorem v_augI (i : Nat) {x : Str} {pos' : Pos} (ha : SE G X Z a ea) (hN : X.N.Nodup) (hi : X.N[i]? = some x := by rfl) (hx : Loc X.env.scope x := by first | exact Or.inl rfl | exact Or.inr rfl)
    (hf : X.fn x = true ∨ X.env.scope.names.lookup x = some .local := by first | exact .inl rfl | exact .inr rfl) : SS G X Z (eAug i oAddI a) (.AugAssign (.Name x pos') .Add ea pos) := .mk fun m h H σ τ D R S P => by
  refine WS.of (ps_aug hN hi hx peM ip_add hf) ?_
  unfold eAug at P
  cases e : σ[i]? with
  | none => rw [e] at P; exact P.elim
  | some o =>
    cases o with
    | none => rw [e] at P; exact P.elim
    | some w =>
      rw [e] at P
      obtain ⟨v, h1, h2⟩ := S.get i w e
      refine ⟨v, h1, ha m h H σ τ _ R S (PoS.es P fun y h1 m1 H1 v1 e1 R1 r1 P1 => ?_)⟩
      have h2' := h2.mono e1
      cases h2' <;> cases r1 <;> first | exact P1.elim | skip
      exact ⟨_, _, rfl, rfl, P1 m1 H1 _ Ext.refl R1 ((S.mono e1).set i (.int _))⟩
/-! ### while -/
def eWhl (c b : Ev) : Nat → Ev
  | 0 => fun _ _ => .no
  | n + 1 => fun σ h => (c σ h).vb fun x h1 => match x with
    | .bl false => .nx σ h1
    | .bl true => (match b σ h1 with
      | .nx s h2 => eWhl c b n s h2
      | .ct s h2 => eWhl c b n s h2
      | .bk s h2 => .nx s h2
      | .rt w h2 => .rt w h2
      | .ex c w s h2 => .ex c w s h2
      | _ => .no)
    | _ => .no
theorem v_while (n : Nat) (F : Fit G X Z k) (hc : ST G X Z c ec) (hb : SB G X Z b sts) : SS G X Z (eWhl c b n) (.While ec sts [] pos) := .mk fun m h H σ τ D R S P => by
  refine WS.of (ps_while F.own ptM pbM) ⟨fun n τ H => ∃ m h σ, Rep G.K G.cl m h H ∧ RSt G m h.length H σ τ ∧ PoS G m h.length H Z D (eWhl c b n σ h), ⟨n, m, h, σ, R, S, P⟩, ?_⟩
  rintro n τ H ⟨m, h, σ, R, S, P⟩
  cases n with
  | zero => exact P.elim
  | succ n =>
    refine hc m h H σ τ _ R S (PoS.es P fun x h1 m1 H1 v1 e1 R1 r1 P1 => ?_)
    cases r1 <;> first | exact P1.elim | skip
    rename_i q
    cases q
    · exact ⟨false, rfl, iteF (P1 m1 H1 τ Ext.refl R1 (S.mono e1))⟩
    · refine ⟨true, rfl, iteT ⟨fun τ' H' => ∃ m h σ, Rep G.K G.cl m h H' ∧ RSt G m h.length H' σ τ' ∧ PoS G m h.length H' Z D (eWhl c b n σ h), fun τ' H' z => ⟨n, Nat.lt_succ_self _, z⟩, ?_⟩⟩
      refine hb m1 h1 H1 σ τ _ R1 (S.mono e1) ?_
      simp only at P1
      cases e : b σ h1 with
      | nx s h2 => rw [e] at P1; exact fun m' H' τ' e' R' S' => ⟨m', h2, s, R', S', PoS.later e' P1⟩
      | ct s h2 => rw [e] at P1; exact fun m' H' τ' e' R' S' => ⟨m', h2, s, R', S', PoS.later e' P1⟩
      | bk s h2 => rw [e] at P1; exact P1
      | rt w h2 => rw [e] at P1; exact P1
      | ex c w s h2 => rw [e] at P1; exact P1
      | v w h2 => rw [e] at P1; exact P1
      | vs w h2 => rw [e] at P1; exact P1
      | no => rw [e] at P1; exact P1
/-! ### for -/
abbrev ItW := Nat → IH → Option (Option W)
inductive OutI where
  | it (J : ItW) (h : IH) | ex (c : Nat) (w : W) (s : Sg) (h : IH) | no
abbrev EvI := Sg → IH → OutI
def RJ (G : Cfg) (m0 : Nat → Addr) (L0 : Nat) (H0 : Hp) (J : ItW) (I : It) : Prop := ∀ i m h H, Ext G.K m0 L0 H0 m h.length H → Rep G.K G.cl m h H →
  match J i h with
  | none => True
  | some none => I.stop i H
  | some (some w) => I.go i H ∧ ∀ x H', I.yld i H x H' → ∃ m', Ext G.K m h.length H m' h.length H' ∧ Rep G.K G.cl m' h H' ∧ RW G.K G.cl m' h.length H' w x
def PoI (G : Cfg) (m : Nat → Addr) (L : Nat) (H : Hp) (Z : WX) (Q : It → Hp → Prop) : OutI → Prop
  | .it J h' => ∀ m' H' I, Ext G.K m L H m' h'.length H' → Rep G.K G.cl m' h' H' → RJ G m' h'.length H' J I → Q I H'
  | .ex c w s h' => PoX G m L H Z c w s h'
  | .no => False
def WI (X : Cx) (tg iter : Expr) : TI := fun σ H R => ∀ (pins : List (Addr × Obj)) (s : Shared), Inv X pins σ H s → wpAny (model X.prog X.w) X.A (eval iter X.env) (fun v s1 => wpAny (model X.prog X.w) X.A (pyIter v) (PIE X pins σ tg R) X.xe s1) X.xe s
theorem piM {tg iter : Expr} : PI X tg iter (WI X tg iter) := ⟨fun pins s _ _ _ I h => h pins s I⟩
theorem WI.of {tg iter : Expr} {t : TI} {σ : St} {H : Hp} {Q : It → Hp → Prop} (p : PI X tg iter t) (h : t σ H Q) : WI X tg iter σ H Q := fun pins s I => p.run pins s σ H Q I h
structure SI (G : Cfg) (X : Cx) (Z : WX) (c : EvI) (tg iter : Expr) : Prop where
  go : ∀ m h H σ τ Q, Rep G.K G.cl m h H → RSt G m h.length H σ τ → PoI G m h.length H Z Q (c σ h) → WI X tg iter τ H Q
instance {G : Cfg} {X : Cx} {Z : WX} {c : EvI} {tg iter : Expr} : CoeFun (SI G X Z c tg iter) (fun _ => ∀ m h H σ τ Q, Rep G.K G.cl m h H → RSt G m h.length H σ τ → PoI G m h.length H Z Q (c σ h) → WI X tg iter τ H Q) := ⟨SI.go⟩
def forL (J : ItW) (g : Tg) (b : Ev) : Nat → Nat → Ev
  | 0, _ => fun _ _ => .no
  | n + 1, i => fun σ h => match J i h with
    | none => .no
    | some none => .nx σ h
    | some (some w) => match g w σ with
      | none => .no
      | some σ' => (match b σ' h with
        | .nx s h2 => forL J g b n (i + 1) s h2
        | .ct s h2 => forL J g b n (i + 1) s h2
        | .bk s h2 => .nx s h2
        | .rt w h2 => .rt w h2
        | .ex c w s h2 => .ex c w s h2
        | _ => .no)
def eFor (n : Nat) (it : EvI) (g : Tg) (b : Ev) : Ev := fun σ h => match it σ h with
  | .it J h1 => forL J g b n 0 σ h1
  | .ex c w s h => .ex c w s h
  | .no => .no
theorem v_for (n : Nat) {it : EvI} {g : Tg} {tg iter : Expr} (F : Fit G X Z k) (hi : SI G X Z it tg iter) (hg : SG G X g tg) (hb : SB G X Z b sts) (hs : ∀ x, foldedSetIterable iter X.env x = pure x := by intro _; rfl) : SS G X Z (eFor n it g b) (.For tg iter sts [] pos) := .mk fun m h H σ τ D R S P => by
  refine WS.of (ps_for F.own F.calm piM pgM pbM hs) (hi m h H σ τ _ R S ?_)
  unfold eFor at P
  cases e : it σ h with
  | no => rw [e] at P; exact P
  | ex c w s h => rw [e] at P; exact P
  | it J h1 =>
    rw [e] at P
    intro m1 H1 I e1 R1 J1
    refine ⟨fun i n τ H => ∃ m h σ, Ext G.K m1 h1.length H1 m h.length H ∧ Rep G.K G.cl m h H ∧ RSt G m h.length H σ τ ∧ PoS G m h.length H Z D (forL J g b n i σ h), ⟨n, m1, h1, σ, Ext.refl, R1, S.mono e1, PoS.later e1 P⟩, ?_⟩
    rintro i n τ H ⟨m, h, σ, e2, R, S, P⟩
    cases n with
    | zero => exact P.elim
    | succ n =>
      have j := J1 i m h H e2 R
      unfold forL at P
      cases e3 : J i h with
      | none => rw [e3] at P; exact P.elim
      | some o =>
        rw [e3] at P j
        cases o with
        | none => exact .inl ⟨j, P m H τ Ext.refl R S⟩
        | some w =>
          refine .inr ⟨j.1, fun τ' H' => ∃ m h σ, Ext G.K m1 h1.length H1 m h.length H' ∧ Rep G.K G.cl m h H' ∧ RSt G m h.length H' σ τ' ∧ PoS G m h.length H' Z D (forL J g b n (i + 1) σ h), fun τ' H' z => ⟨n, Nat.lt_succ_self _, z⟩, fun x H' y => ?_⟩
          obtain ⟨m', e4, R4, r4⟩ := j.2 x H' y
          simp only at P
          cases e5 : g w σ with
          | none => rw [e5] at P; exact P.elim
          | some σ' =>
            rw [e5] at P
            refine hg m' h H' w x σ τ σ' _ R4 r4 (S.mono e4) e5 fun τ' S' => ?_
            refine hb m' h H' σ' τ' _ R4 S' ?_
            simp only at P
            have e24 := e2.trans e4
            cases e : b σ' h with
            | nx s h2 => rw [e] at P; exact fun m' H' τ' e' R' S' => ⟨m', h2, s, e24.trans e', R', S', PoS.later (e4.trans e') P⟩
            | ct s h2 => rw [e] at P; exact fun m' H' τ' e' R' S' => ⟨m', h2, s, e24.trans e', R', S', PoS.later (e4.trans e') P⟩
            | bk s h2 => rw [e] at P; exact PoS.later (Z := Z) (D := { D with bk := D.nx }) (o := .bk s h2) e4 P
            | rt w h2 => rw [e] at P; exact PoS.later (D := D) (o := .rt w h2) e4 P
            | ex c w s h2 => rw [e] at P; exact PoS.later (D := D) (o := .ex c w s h2) e4 P
            | v w h2 => rw [e] at P; exact P
            | vs w h2 => rw [e] at P; exact P
            | no => rw [e] at P; exact P
end
end Dr
namespace Dr
open PySem L2

section
variable {G : Cfg} {X : Cx} {Z : WX} {k : Nat} {a b c : Ev} {ea eb ec : Expr} {pos : Pos} {st : Stmt} {sts sts' : List Stmt} {tg : Expr}
/-! ### what is walked -/
def OutI.of (o : Out) (f : W → IH → OutI) : OutI := match o with
  | .v w h => f w h
  | .ex c w s h => .ex c w s h
  | _ => .no
def OutI.ofs (o : Out) (f : List W → IH → OutI) : OutI := match o with
  | .vs w h => f w h
  | .ex c w s h => .ex c w s h
  | _ => .no
theorem PoI.later {m m1 : Nat → Addr} {L L1 : Nat} {H H1 : Hp} {Q : It → Hp → Prop} {o : OutI} (e : Ext G.K m L H m1 L1 H1) (p : PoI G m L H Z Q o) : PoI G m1 L1 H1 Z Q o := by
  cases o <;> first | exact p | exact PoX.later e p | exact fun m' H' v e' => p m' H' v (e.trans e')
theorem PoI.ei {m : Nat → Addr} {L : Nat} {H : Hp} {Q : It → Hp → Prop} {Q' : VK} {o : Out} {f : W → IH → OutI} (p : PoI G m L H Z Q (OutI.of o f))
    (k : ∀ w h1 m1 H1 v, Ext G.K m L H m1 h1.length H1 → Rep G.K G.cl m1 h1 H1 → RW G.K G.cl m1 h1.length H1 w v → PoI G m1 h1.length H1 Z Q (f w h1) → Q' v H1) : PoE G m L H Z Q' o := by
  cases o <;> first | exact p | exact fun m1 H1 v e r x => k _ _ m1 H1 v e r x (PoI.later e p)
theorem PoI.ai {m : Nat → Addr} {L : Nat} {H : Hp} {Q : It → Hp → Prop} {Q' : List V → Hp → Prop} {o : Out} {f : List W → IH → OutI} (p : PoI G m L H Z Q (OutI.ofs o f))
    (k : ∀ w h1 m1 H1 v, Ext G.K m L H m1 h1.length H1 → Rep G.K G.cl m1 h1 H1 → RWs G.K G.cl m1 h1.length H1 w v → PoI G m1 h1.length H1 Z Q (f w h1) → Q' v H1) : PoA G m L H Z Q' o := by
  cases o <;> first | exact p | exact fun m1 H1 v e r x => k _ _ m1 H1 v e r x (PoI.later e p)
def nxt (ws : List W) (i : Nat) : Option (Option W) := some ws[i]?
def lstAt (h : IH) (n : Nat) : Option (List W) := match h[n]? with
  | some (.lst ws) => some ws
  | some (.rol ws) => some ws
  | _ => none
theorem lstAt_of {m : Nat → Addr} {h : IH} {H : Hp} {n : Nat} {ws : List W} (R : Rep G.K G.cl m h H) (e : lstAt h n = some ws) : ∃ vs, SqL G.K H (m n) vs ∧ RWs G.K G.cl m h.length H ws vs := by
  unfold lstAt at e
  split at e
  · rename_i ws' q
    cases e
    obtain ⟨vs, hx, hv⟩ := R.obj n _ q
    exact ⟨vs, .inl (.inl hx), hv⟩
  · rename_i ws' q
    cases e
    obtain ⟨vs, hx, hv⟩ := R.obj n _ q
    exact ⟨vs, rol_sq hx, hv⟩
  · cases e
def jL (n : Nat) : ItW := fun i h => match lstAt h n with | some ws => some ws[i]? | none => none
def jT (ws : List W) : ItW := fun i _ => some ws[i]?
def jR (lo : Int) (n : Nat) : ItW := fun i _ => if i < n then some (some (.int (lo + i))) else some none
def jS (z : Str) : ItW := fun i _ => match z.cps[i]? with | some c => some (some (.str ⟨#[c]⟩)) | none => some none
def jE (n : Nat) : ItW := fun i h => match lstAt h n with | some ws => (match ws[i]? with | some w => some (some (.tup [.int (i : Nat), w])) | none => some none) | none => none
def jV (n len : Nat) : ItW := fun i h => if i < len then (match lstAt h n with | some ws => (match ws[len - 1 - i]? with | some w => some (some w) | none => none) | none => none) else some none
def iL (a : Ev) : EvI := fun σ h => .of (a σ h) fun w h1 => match w with | .ref n => (match lstAt h1 n with | some _ => .it (jL n) h1 | none => .no) | _ => .no
def iT (a : Ev) : EvI := fun σ h => .of (a σ h) fun w h1 => match w with | .tup ws => .it (jT ws) h1 | _ => .no
def iS (a : Ev) : EvI := fun σ h => .of (a σ h) fun w h1 => match w with | .str z => .it (jS z) h1 | _ => .no
def iR1 (r : Ev) : EvI := fun σ h => .ofs (r σ h) fun ws h1 => match ws with | [.int j] => if -(2 ^ 62) ≤ j ∧ j < 2 ^ 62 then .it (jR 0 j.toNat) h1 else .no | _ => .no
def iR2 (r : Ev) : EvI := fun σ h => .ofs (r σ h) fun ws h1 => match ws with | [.int i, .int j] => if -(2 ^ 62) ≤ i ∧ i < 2 ^ 62 ∧ -(2 ^ 62) ≤ j ∧ j < 2 ^ 62 then .it (jR i (j - i).toNat) h1 else .no | _ => .no
def iE (r : Ev) : EvI := fun σ h => .ofs (r σ h) fun ws h1 => match ws with | [.ref n] => (match lstAt h1 n with | some _ => .it (jE n) h1 | none => .no) | _ => .no
def iV (r : Ev) : EvI := fun σ h => .ofs (r σ h) fun ws h1 => match ws with | [.ref n] => (match lstAt h1 n with | some ws => .it (jV n ws.length) h1 | none => .no) | _ => .no
theorem rj_list {m : Nat → Addr} {h : IH} {H : Hp} {n : Nat} (hn : n < h.length) : RJ G m h.length H (jL n) (Itl G.K (m n)) := by
  intro i m1 h1 H1 e1 R1
  have em : m1 n = m n := e1.eq n hn
  unfold jL
  cases e : lstAt h1 n with
  | none => trivial
  | some ws =>
    obtain ⟨vs, hx, hv⟩ := lstAt_of R1 e
    rw [em] at hx
    simp only
    cases q : ws[i]? with
    | none => exact ⟨vs, hx, by rw [← hv.length]; exact List.getElem?_eq_none_iff.mp q⟩
    | some w =>
      obtain ⟨v, hv1, r1⟩ := hv.get q
      refine ⟨⟨vs, v, hx, hv1⟩, fun x H' y => ?_⟩
      obtain ⟨rfl, y⟩ := y
      have := y vs hx
      rw [hv1] at this
      cases this
      exact ⟨m1, Ext.refl, R1, r1⟩
theorem rj_tup {m : Nat → Addr} {L : Nat} {H : Hp} {p : Addr} {vs : List V} {ws : List W} (hx : SqT G.K H p vs) (hv : RWs G.K G.cl m L H ws vs) : RJ G m L H (jT ws) (Itt G.K p) := by
  intro i m1 h1 H1 e1 R1
  have hx1 := e1.tup _ _ hx
  have hv1 := hv.mono e1
  unfold jT
  cases q : ws[i]? with
  | none => exact ⟨vs, hx1, by rw [← hv.length]; exact List.getElem?_eq_none_iff.mp q⟩
  | some w =>
    obtain ⟨v, h1', r1⟩ := hv1.get q
    refine ⟨⟨vs, v, hx1, h1'⟩, fun x H' y => ?_⟩
    obtain ⟨rfl, y⟩ := y
    have := y vs hx1
    rw [h1'] at this
    cases this
    exact ⟨m1, Ext.refl, R1, r1⟩
theorem rj_range {m : Nat → Addr} {L : Nat} {H : Hp} {lo : Int} {n : Nat} : RJ G m L H (jR lo n) (Itr lo n) := by
  intro i m1 h1 H1 e1 R1
  unfold jR
  by_cases q : i < n
  · rw [if_pos q]
    refine ⟨q, fun x H' y => ?_⟩
    obtain ⟨rfl, rfl⟩ := y
    exact ⟨m1, Ext.refl, R1, .int _⟩
  · rw [if_neg q]
    exact Nat.le_of_not_lt q
theorem rj_str {m : Nat → Addr} {L : Nat} {H : Hp} {z : Str} : RJ G m L H (jS z) (Its z) := by
  intro i m1 h1 H1 e1 R1
  unfold jS
  cases q : z.cps[i]? with
  | none => exact Array.getElem?_eq_none_iff.mp q
  | some c =>
    refine ⟨(Array.getElem?_eq_some_iff.mp q).1, fun x H' y => ?_⟩
    obtain ⟨rfl, c', e, rfl⟩ := y
    rw [q] at e
    cases e
    exact ⟨m1, Ext.refl, R1, .str _⟩
theorem rj_enum {m : Nat → Addr} {h : IH} {H : Hp} {n : Nat} (hn : n < h.length) : RJ G m h.length H (jE n) (Ite G.K (m n)) := by
  intro i m1 h1 H1 e1 R1
  have em : m1 n = m n := e1.eq n hn
  unfold jE
  cases e : lstAt h1 n with
  | none => trivial
  | some ws =>
    obtain ⟨vs, hx, hv⟩ := lstAt_of R1 e
    rw [em] at hx
    simp only
    cases q : ws[i]? with
    | none => exact ⟨vs, hx, by rw [← hv.length]; exact List.getElem?_eq_none_iff.mp q⟩
    | some w =>
      obtain ⟨v, hv1, r1⟩ := hv.get q
      refine ⟨⟨vs, v, hx, hv1⟩, fun x H' y => ?_⟩
      obtain ⟨T, x', rfl, hT, rfl, y⟩ := y
      have := y vs hx
      rw [hv1] at this
      cases this
      obtain ⟨R2, E2⟩ := R1.aside (q := T) (o := .tup [.int (i : Nat), v]) hT
      exact ⟨m1, E2, R2, .tup (.inl (.inl upd_same)) (.cons (.int _) (.cons (r1.mono E2) .nil))⟩
theorem rj_rev {m : Nat → Addr} {h : IH} {H : Hp} {n len : Nat} (hn : n < h.length) : RJ G m h.length H (jV n len) (Itv G.K (m n) len) := by
  intro i m1 h1 H1 e1 R1
  have em : m1 n = m n := e1.eq n hn
  unfold jV
  by_cases q : i < len
  · rw [if_pos q]
    cases e : lstAt h1 n with
    | none => trivial
    | some ws =>
      obtain ⟨vs, hx, hv⟩ := lstAt_of R1 e
      rw [em] at hx
      simp only
      cases q' : ws[len - 1 - i]? with
      | none => trivial
      | some w =>
        obtain ⟨v, hv1, r1⟩ := hv.get q'
        refine ⟨⟨q, vs, v, hx, hv1⟩, fun x H' y => ?_⟩
        obtain ⟨rfl, y⟩ := y
        have := y vs hx
        rw [hv1] at this
        cases this
        exact ⟨m1, Ext.refl, R1, r1⟩
  · rw [if_neg q]
    exact Nat.le_of_not_lt q
theorem lstAt_lt {h : IH} {n : Nat} {ws : List W} (e : lstAt h n = some ws) : n < h.length := by
  unfold lstAt at e
  split at e
  · rename_i q; exact (List.getElem?_eq_some_iff.mp q).1
  · rename_i q; exact (List.getElem?_eq_some_iff.mp q).1
  · cases e
theorem i_list (F : Fit G X Z k) (ha : SE G X Z a ea) : SI G X Z (iL a) tg ea := .mk fun m h H σ τ Q R S P => by
  refine WI.of (pi_list peM) (ha m h H σ τ _ R S (PoI.ei P fun w h1 m1 H1 v1 e1 R1 r1 P1 => ?_))
  cases r1 <;> first | exact P1.elim | skip
  rename_i n hn
  simp only at P1
  split at P1
  · rename_i ws e
    obtain ⟨vs, hx, hv⟩ := lstAt_of R1 e
    refine ⟨m1 n, rfl, ⟨vs, F.K ▸ hx⟩, ?_⟩
    rw [F.K]
    exact P1 m1 H1 _ Ext.refl R1 (rj_list hn)
  · exact P1.elim
theorem i_tup (F : Fit G X Z k) (ha : SE G X Z a ea) : SI G X Z (iT a) tg ea := .mk fun m h H σ τ Q R S P => by
  refine WI.of (pi_tup peM) (ha m h H σ τ _ R S (PoI.ei P fun w h1 m1 H1 v1 e1 R1 r1 P1 => ?_))
  cases r1 <;> first | exact P1.elim | skip
  rename_i p vs ws hp hv
  refine ⟨p, rfl, ⟨vs, F.K ▸ hp⟩, ?_⟩
  rw [F.K]
  exact P1 m1 H1 _ Ext.refl R1 (rj_tup hp hv)
theorem i_str (ha : SE G X Z a ea) : SI G X Z (iS a) tg ea := .mk fun m h H σ τ Q R S P => by
  refine WI.of (pi_str peM) (ha m h H σ τ _ R S (PoI.ei P fun w h1 m1 H1 v1 e1 R1 r1 P1 => ?_))
  cases r1 <;> first | exact P1.elim | skip
  exact ⟨_, rfl, P1 m1 H1 _ Ext.refl R1 rj_str⟩
theorem i_rng1 {r : Ev} {p : Pos} (hm : X.mg "range" = none) (hr : SA G X Z r [ea]) (hg : Gl X "range" := by rfl) (hs : starEach [ea] X.env = [(false, eval ea X.env)] := by rfl) : SI G X Z (iR1 r) tg (.Call (.Name "range" p) [ea] [] pos) := .mk fun m h H σ τ Q R S P => by
  refine WI.of (pi_range1 hg hm paM hs) (hr m h H σ τ _ R S (PoI.ai P fun ws h1 m1 H1 vs e1 R1 r1 P1 => ?_))
  split at P1
  · rename_i j
    split at P1
    · rename_i q
      cases r1 with
      | cons r1 r2 => cases r1; cases r2; exact ⟨j, rfl, q.1, q.2, P1 m1 H1 _ Ext.refl R1 rj_range⟩
    · exact P1.elim
  · exact P1.elim
theorem i_rng2 {r : Ev} {p : Pos} (hm : X.mg "range" = none) (hr : SA G X Z r [ea, eb]) (hg : Gl X "range" := by rfl) (hs : starEach [ea, eb] X.env = [(false, eval ea X.env), (false, eval eb X.env)] := by rfl) (hs2 : starEach [eb] X.env = [(false, eval eb X.env)] := by rfl) : SI G X Z (iR2 r) tg (.Call (.Name "range" p) [ea, eb] [] pos) := .mk fun m h H σ τ Q R S P => by
  refine WI.of (pi_range2 hg hm paM hs hs2) (hr m h H σ τ _ R S (PoI.ai P fun ws h1 m1 H1 vs e1 R1 r1 P1 => ?_))
  split at P1
  · rename_i i j
    split at P1
    · rename_i q
      cases r1 with
      | cons r1 r2 => cases r1; cases r2 with
        | cons r2 r3 => cases r2; cases r3; exact ⟨i, j, rfl, q, P1 m1 H1 _ Ext.refl R1 rj_range⟩
    · exact P1.elim
  · exact P1.elim
theorem i_enum {r : Ev} {p tpos : Pos} {elts : List Expr} {kk : Nat} (F : Fit G X Z k) (hm : X.mg "enumerate" = none) (hr : SA G X Z r [ea]) (hg : Gl X "enumerate" := by rfl) (hs : starEach [ea] X.env = [(false, eval ea X.env)] := by rfl) : SI G X Z (iE r) (.Tuple elts kk tpos) (.Call (.Name "enumerate" p) [ea] [] pos) := .mk fun m h H σ τ Q R S P => by
  refine WI.of (pi_enum hg hm paM hs) (hr m h H σ τ _ R S (PoI.ai P fun ws h1 m1 H1 vs e1 R1 r1 P1 => ?_))
  split at P1
  · rename_i n
    split at P1
    · rename_i ws e
      obtain ⟨vs, hx, hv⟩ := lstAt_of R1 e
      cases r1 with
      | cons r1 r2 => cases r1; cases r2; rw [F.K]; exact ⟨m1 n, vs, rfl, hx, P1 m1 H1 _ Ext.refl R1 (rj_enum (lstAt_lt e))⟩
    · exact P1.elim
  · exact P1.elim
theorem i_rev {r : Ev} {p : Pos} (F : Fit G X Z k) (hm : X.mg "reversed" = none) (hr : SA G X Z r [ea]) (hg : Gl X "reversed" := by rfl) (hs : starEach [ea] X.env = [(false, eval ea X.env)] := by rfl) : SI G X Z (iV r) tg (.Call (.Name "reversed" p) [ea] [] pos) := .mk fun m h H σ τ Q R S P => by
  refine WI.of (pi_reversed hg hm paM hs) (hr m h H σ τ _ R S (PoI.ai P fun ws h1 m1 H1 vs e1 R1 r1 P1 => ?_))
  split at P1
  · rename_i n
    split at P1
    · rename_i ws e
      obtain ⟨vs, hx, hv⟩ := lstAt_of R1 e
      cases r1 with
      | cons r1 r2 =>
        cases r1; cases r2; rw [F.K]
        refine ⟨m1 n, vs, rfl, hx, ?_⟩
        rw [← hv.length]
        exact P1 m1 H1 _ Ext.refl R1 (rj_rev (lstAt_lt e))
    · exact P1.elim
  · exact P1.elim
end
end Dr
namespace Dr
open PySem L2

/-! ### list comprehensions -/
def wipeW (σ : Sg) : List Nat → Sg
  | [] => σ
  | v :: vs => (wipeW σ vs).set v none
def lcL (J : ItW) (g : Tg) (t e : Ev) (D : Nat) (σ0 : Sg) : Nat → Nat → IH → Out
  | 0, _, _ => .no
  | n + 1, i, h => match J i h with
    | none => .no
    | some none => .v (.ref D) h
    | some (some w) => match g w σ0 with
      | none => .no
      | some σ2 => match t σ2 h with
        | .v (.bl false) h1 => lcL J g t e D σ0 n (i + 1) h1
        | .v (.bl true) h1 => (match e σ2 h1 with
          | .v y h2 => (match h2[D]? with
            | some (.lst acc) => if acc.length < 16777216 then lcL J g t e D σ0 n (i + 1) (h2.set D (.lst (acc ++ [y]))) else .no
            | _ => .no)
          | _ => .no)
        | _ => .no
def eLc (n : Nat) (it : EvI) (own : List Nat) (g : Tg) (t e : Ev) : Ev := fun σ h => match it σ h with
  | .it J h1 => lcL J g t e h1.length (wipeW σ own) n 0 (h1 ++ [.lst []])
  | .ex c w s h => .ex c w s h
  | .no => .no
def eYes : Ev := fun _ h => .v (.bl true) h
abbrev Z0 : WX := fun _ _ _ _ => False
section
variable {G : Cfg} {X : Cx} {Z : WX} {k : Nat} {a b c : Ev} {ea eb ec : Expr} {pos : Pos} {st : Stmt} {sts sts' : List Stmt} {tg : Expr}
theorem Fit.blk (F : Fit G X Z k) {s : Shared} {H : Hp} {scope : Scope} {cenv : Env} {fp : List Addr} : Fit G (X.blk s H scope cenv fp) Z0 k := ⟨F.K, F.calm, PassesOwn.never, takes0, F.room, F.base, F.gd⟩
theorem RSt.wipe (hx : G.xs = none) {m : Nat → Addr} {L : Nat} {H : Hp} {σ : Sg} {τ : St} (r : RSt G m L H σ τ) : ∀ vs : List Nat, RSt G m L H (wipeW σ vs) (L2.wipe τ vs)
  | [] => r
  | v :: vs => by
    have ih := RSt.wipe hx r vs
    refine ⟨by unfold wipeW L2.wipe; simp [ih.len], fun i w e => ?_, fun i a z => (by rw [hx] at z; cases z), ih.xd⟩
    unfold wipeW at e
    unfold L2.wipe
    by_cases q : i = v
    · subst q
      by_cases hl : i < (wipeW σ vs).length
      · rw [List.getElem?_set_self hl] at e; cases e
      · rw [List.getElem?_eq_none (by simpa using hl)] at e; cases e
    · rw [List.getElem?_set_ne (Ne.symm q)] at e
      rw [List.getElem?_set_ne (Ne.symm q)]
      exact ih.get i w e
theorem wipe_set (τ : St) (i : Nat) (x : Option V) : ∀ vs : List Nat, i ∈ vs → L2.wipe (τ.set i x) vs = L2.wipe τ vs
  | [], h => by cases h
  | v :: vs, h => by
    unfold L2.wipe
    by_cases q : i ∈ vs
    · rw [wipe_set τ i x vs q]
    · have e : i = v := by
        rcases List.mem_cons.mp h with e | e
        · exact e
        · exact absurd e q
      subst e
      have key : ∀ vs : List Nat, i ∉ vs → L2.wipe (τ.set i x) vs = (L2.wipe τ vs).set i x := by
        intro vs
        induction vs with
        | nil => intro _; rfl
        | cons u us ih =>
          intro hn
          simp only [List.mem_cons, not_or] at hn
          unfold L2.wipe
          rw [ih hn.2, List.set_comm _ _ (hn.1)]
      rw [key vs q, List.set_set]
theorem wipe_wipe (τ : St) : ∀ vs : List Nat, L2.wipe (L2.wipe τ vs) vs = L2.wipe τ vs
  | [] => rfl
  | v :: vs => by
    have h1 : L2.wipe ((L2.wipe τ vs).set v none) (v :: vs) = L2.wipe (L2.wipe τ vs) (v :: vs) := wipe_set _ v none (v :: vs) (List.mem_cons_self)
    show L2.wipe ((L2.wipe τ vs).set v none) (v :: vs) = _
    rw [h1]
    show (L2.wipe (L2.wipe τ vs) vs).set v none = _
    rw [wipe_wipe τ vs]
    rfl
/-- a target of a comprehension: its own slots alone change -/
def SGw (G : Cfg) (X : Cx) (vs : List Nat) (g : Tg) (tg : Expr) : Prop := ∀ m h H w v σ τ σ' Q, Rep G.K G.cl m h H → RW G.K G.cl m h.length H w v → RSt G m h.length H σ τ → g w σ = some σ' →
  (∀ τ', RSt G m h.length H σ' τ' → L2.wipe τ' vs = L2.wipe τ vs → Q τ' H) → WG X tg v τ H Q
theorem gw_name (i : Nat) {vs : List Nat} {x : Str} (hN : X.N.Nodup) (hm : i ∈ vs := by decide) (hi : X.N[i]? = some x := by rfl) (hx : Loc X.env.scope x := by first | exact Or.inl rfl | exact Or.inr rfl) (hf : X.fn x = true ∨ X.env.scope.names.lookup x = some .local := by first | exact .inl rfl | exact .inr rfl) : SGw G X vs (gN i) (.Name x pos) :=
  fun m h H w v σ τ σ' Q R r S e q => by
    cases e
    exact WG.of (pg_name hN hi hx hf) (q _ (S.set i r) (wipe_set τ i _ vs hm))
def SGws (G : Cfg) (X : Cx) (vs : List Nat) (is : List Nat) (tgs : List Expr) : Prop := ∃ t, PGs X tgs t ∧ tgs.length = is.length ∧ ∀ m h H ws us σ τ σ' Q, Rep G.K G.cl m h H → RWs G.K G.cl m h.length H ws us → RSt G m h.length H σ τ → gs is ws σ = some σ' →
  (∀ τ', RSt G m h.length H σ' τ' → L2.wipe τ' vs = L2.wipe τ vs → Q τ' H) → t us τ H Q
theorem gws_nil {vs : List Nat} : SGws G X vs [] [] := ⟨_, pgs_nil, rfl, fun m h H ws us σ τ σ' Q R r S e q => by
  cases r with
  | nil => cases e; exact ⟨rfl, q _ S rfl⟩
  | cons _ _ => cases e⟩
theorem gws_cons (i : Nat) {vs is : List Nat} {tgs : List Expr} {x : Str} (h2 : SGws G X vs is tgs) (hN : X.N.Nodup) (hm : i ∈ vs := by decide) (hi : X.N[i]? = some x := by rfl) (hx : Loc X.env.scope x := by first | exact Or.inl rfl | exact Or.inr rfl) (hf : X.fn x = true ∨ X.env.scope.names.lookup x = some .local := by first | exact .inl rfl | exact .inr rfl)
    (hs : (assignEach (.Name x pos :: tgs) X.env).map (·.2) = assign (.Name x pos) X.env :: (assignEach tgs X.env).map (·.2) := by rfl) : SGws G X vs (i :: is) (.Name x pos :: tgs) := by
  obtain ⟨t, p, hl, h2⟩ := h2
  refine ⟨_, pgs_cons (pg_name hN hi hx hf) p hs, by simp [hl], fun m h H ws us σ τ σ' Q R r S e q => ?_⟩
  cases r with
  | nil => cases e
  | cons r1 r2 => exact ⟨_, _, rfl, h2 m h H _ _ _ _ σ' Q R r2 (S.set i r1) e fun τ' S' w => q τ' S' (w.trans (wipe_set _ i _ vs hm))⟩
theorem gs_len : ∀ (is : List Nat) (ws : List W) (σ σ' : Sg), gs is ws σ = some σ' → ws.length = is.length := by
  intro is
  induction is with
  | nil => intro ws σ σ' e; cases ws with | nil => rfl | cons _ _ => cases e
  | cons i is ih => intro ws σ σ' e; cases ws with | nil => cases e | cons w ws => simp [ih ws _ _ e]
theorem gw_tup {vs is : List Nat} {tgs : List Expr} {k' : Nat} (F : Fit G X Z k) (h : SGws G X vs is tgs) (hn : (assignEach tgs X.env).length = is.length := by rfl) (hst : (assignEach tgs X.env).findIdx? (·.1) = none := by rfl) : SGw G X vs (gT is) (.Tuple tgs k' pos) := by
  obtain ⟨t, p, hl, h2⟩ := h
  refine fun m h H w v σ τ σ' Q R r S e q => WG.of (pg_tup F.calm p hn hst) ?_
  cases r <;> first | (cases e; done) | skip
  rename_i p' us ws hp hv
  exact ⟨p', us, rfl, F.K ▸ hp, by rw [← hv.length]; exact gs_len _ _ _ _ e, h2 m h H ws us σ τ σ' Q R hv S e q⟩
/-- the tests of a comprehension -/
def STs (G : Cfg) (X : Cx) (Z : WX) (c : Ev) (ifs : List Expr) : Prop := (ifs = [] ∧ c = eYes) ∨ ∃ e, ifs = [e] ∧ ST G X Z c e
theorem ts_nil : STs G X Z eYes [] := .inl ⟨rfl, rfl⟩
theorem ts_one (h : ST G X Z c ec) : STs G X Z c [ec] := .inr ⟨ec, rfl, h⟩
def WTs (X : Cx) (ifs : List Expr) : TT := fun σ H Q => ∃ t, PTs X ifs t ∧ t σ H Q
theorem STs.run {ifs : List Expr} (h : STs G X Z c ifs) {m : Nat → Addr} {hp : IH} {H : Hp} {σ : Sg} {τ : St} {Q : Bool → Hp → Prop} (R : Rep G.K G.cl m hp H) (S : RSt G m hp.length H σ τ) (P : PoE G m hp.length H Z (toB Q) (c σ hp)) : WTs X ifs τ H Q := by
  rcases h with ⟨rfl, rfl⟩ | ⟨e, rfl, h⟩
  · refine ⟨_, pts_nil, ?_⟩
    obtain ⟨b, e, q⟩ := P m H _ Ext.refl R (.bl true)
    cases e
    exact q
  · exact ⟨_, pts_one ptM, h m hp H σ τ Q R S P⟩

theorem lc_read {own : List Nat} {scope : Scope} {tg elt : Expr} {ifs : List Expr} {J : ItW} {I : It} {g : Tg} {t e : Ev} {n : Nat} {m1 : Nat → Addr} {h1 : IH} {H1 : Hp} {σ : Sg} {τ : St} {Q : VK}
    (hg : ∀ (s : Shared) (H : Hp) (C : Addr) (cl : List (Str × Addr)) (fp : List Addr), SGw G (X.blk s H scope (compEnvC scope cl C X.env) fp) own g tg)
    (ht : ∀ (s : Shared) (H : Hp) (C : Addr) (cl : List (Str × Addr)) (fp : List Addr), STs G (X.blk s H scope (compEnvC scope cl C X.env) fp) Z0 t ifs)
    (he : ∀ (s : Shared) (H : Hp) (C : Addr) (cl : List (Str × Addr)) (fp : List Addr), SE G (X.blk s H scope (compEnvC scope cl C X.env) fp) Z0 e elt)
    (hxs : G.xs = none) (R1 : Rep G.K G.cl m1 h1 H1) (S1 : RSt G m1 h1.length H1 σ τ) (J1 : RJ G m1 h1.length H1 J I) (P : PoE G m1 h1.length H1 Z Q (lcL J g t e h1.length (wipeW σ own) n 0 (h1 ++ [.lst []]))) (D : Addr) (hD : H1 D = none) :
    ∃ W : Nat → Nat → Hp → Prop, (∃ m, W 0 m (upd H1 D (.lst []))) ∧ ∀ i m H, W i m H →
      (I.stop i H ∧ Q (.ref D) H) ∨ (I.go i H ∧ ∃ Nx : Hp → Prop, (∀ H', Nx H' → ∃ m', m' < m ∧ W (i + 1) m' H') ∧ ∀ x H', I.yld i H x H' →
        (∀ (s : Shared) (H0 : Hp) (C : Addr) (cl : List (Str × Addr)) (fp : List Addr), WG (X.blk s H0 scope (compEnvC scope cl C X.env) fp) tg x (L2.wipe τ own) H' fun σ2 H2 => L2.wipe σ2 own = L2.wipe τ own ∧
          ∀ (s : Shared) (H0 : Hp) (C : Addr) (cl : List (Str × Addr)) (fp : List Addr), WTs (X.blk s H0 scope (compEnvC scope cl C X.env) fp) ifs σ2 H2 fun b H3 =>
            if b = true then (∀ (s : Shared) (H0 : Hp) (C : Addr) (cl : List (Str × Addr)) (fp : List Addr), WE (X.blk s H0 scope (compEnvC scope cl C X.env) fp) elt σ2 H3 fun y H4 => ∃ acc, H4 D = some (.lst acc) ∧ acc.length < sizeLine ∧ Nx (upd H4 D (.lst (acc ++ [y])))) else Nx H3)) := by
  obtain ⟨R2, E2⟩ := R1.push (q := D) (u := .lst []) (o := .lst []) hD ⟨_, upd_same, .nil⟩
  have last : ext1 m1 h1.length D h1.length = D := by unfold ext1; rw [if_pos rfl]
  let Inv' : Nat → Nat → Hp → Prop := fun i n H => ∃ m h, Ext G.K m1 h1.length H1 m h.length H ∧ Rep G.K G.cl m h H ∧ h1.length < h.length ∧ m h1.length = D ∧ PoE G m h.length H Z Q (lcL J g t e h1.length (wipeW σ own) n i h)
  refine ⟨Inv', ⟨n, _, _, E2, R2, by simp, last, PoE.later E2 P⟩, ?_⟩
  rintro i n H ⟨m, h, e2, R, hl, hm, P⟩
  cases n with
  | zero => exact P.elim
  | succ n =>
    have j := J1 i m h H e2 R
    unfold lcL at P
    cases e3 : J i h with
    | none => rw [e3] at P; exact P.elim
    | some o =>
      rw [e3] at P j
      cases o with
      | none =>
        refine .inl ⟨j, P m H _ Ext.refl R ?_⟩
        have q := RW.ref (K := G.K) (cl := G.cl) (m := m) (L := h.length) (H := H) h1.length hl
        rw [hm] at q
        exact q
      | some w =>
        refine .inr ⟨j.1, Inv' (i + 1) n, fun H' z => ⟨n, Nat.lt_succ_self _, z⟩, fun x H' y s H0 C cl fp => ?_⟩
        obtain ⟨m', e4, R4, r4⟩ := j.2 x H' y
        simp only at P
        cases e5 : g w (wipeW σ own) with
        | none => rw [e5] at P; exact P.elim
        | some σ2 =>
          rw [e5] at P
          have S4 := (RSt.wipe hxs S1 own).mono (e2.trans e4)
          refine hg s H0 C cl fp m' h H' w x _ _ σ2 _ R4 r4 S4 e5 fun τ2 S2 hw => ⟨hw.trans (wipe_wipe τ own), fun s H0 C cl fp => ?_⟩
          simp only at P
          refine (ht s H0 C cl fp).run R4 S2 ?_
          cases e6 : t σ2 h with
          | v w6 h6 =>
            rw [e6] at P
            cases w6 with
            | bl q =>
              intro m6 H6 v6 e7 R6 r6
              cases r6
              have em6 : m6 h1.length = D := by rw [e7.eq _ hl, e4.eq _ hl]; exact hm
              cases q with
              | false => exact ⟨false, rfl, iteF ⟨m6, h6, (e2.trans e4).trans e7, R6, Nat.lt_of_lt_of_le hl e7.le, em6, PoE.later (e4.trans e7) P⟩⟩
              | true =>
                refine ⟨true, rfl, iteT fun s H0 C cl fp => ?_⟩
                refine he s H0 C cl fp m6 h6 H6 σ2 τ2 _ R6 (S2.mono e7) ?_
                simp only at P
                cases e8 : e σ2 h6 with
                | v y8 h8 =>
                  rw [e8] at P
                  intro m8 H8 v8 e9 R8 r8
                  simp only at P
                  cases e10 : h8[h1.length]? with
                  | none => rw [e10] at P; exact P.elim
                  | some ob =>
                    rw [e10] at P
                    cases ob with
                    | lst acc =>
                      simp only at P
                      split at P
                      · rename_i q
                        obtain ⟨vs, hx, hv⟩ := R8.obj _ _ e10
                        have em8 : m8 h1.length = D := by rw [e9.eq _ (Nat.lt_of_lt_of_le hl e7.le)]; exact em6
                        rw [em8] at hx
                        refine ⟨vs, hx, by rw [← hv.length, lineSz]; exact q, ?_⟩
                        obtain ⟨R9, E9⟩ := R8.put (n := h1.length) (o' := .lst (acc ++ [y8])) (u := .lst (vs ++ [v8])) e10 (by rw [em8]; exact noTup_of hx (fun _ z => by cases z) (fun _ _ z => by cases z))
                          (fun ex => ⟨_, upd_same, (hv.append (.cons r8 .nil)).mono ex⟩)
                        rw [em8] at R9 E9
                        have l8 : h1.length < h8.length := Nat.lt_of_lt_of_le hl (Nat.le_trans e7.le e9.le)
                        exact ⟨m8, _, (((e2.trans e4).trans e7).trans e9).trans E9, R9, by rw [List.length_set]; exact l8, em8, PoE.later ((e4.trans e7).trans (e9.trans E9)) P⟩
                      · exact P.elim
                    | _ => exact P.elim
                | _ => rw [e8] at P; exact P.elim
            | _ => exact P.elim
          | _ => rw [e6] at P; exact P.elim
theorem s_lc (n : Nat) {it : EvI} {g : Tg} {t e : Ev} {elt tg iter : Expr} {ifs : List Expr} {scope : Scope} {own : List (Str × Nat)} (F : Fit G X Z k) (hN : X.N.Nodup) (hi : SI G X Z it tg iter) (ok : BlkOk X.N X.env.scope scope own)
    (hg : ∀ (s : Shared) (H : Hp) (C : Addr) (cl : List (Str × Addr)) (fp : List Addr), SGw G (X.blk s H scope (compEnvC scope cl C X.env) fp) (own.map (·.2)) g tg)
    (ht : ∀ (s : Shared) (H : Hp) (C : Addr) (cl : List (Str × Addr)) (fp : List Addr), STs G (X.blk s H scope (compEnvC scope cl C X.env) fp) Z0 t ifs)
    (he : ∀ (s : Shared) (H : Hp) (C : Addr) (cl : List (Str × Addr)) (fp : List Addr), SE G (X.blk s H scope (compEnvC scope cl C X.env) fp) Z0 e elt) (hs : ∀ x, foldedSetIterable iter X.env x = pure x := by intro _; rfl) :
    SE G X Z (eLc n it (own.map (·.2)) g t e) (.ListComp elt [⟨tg, iter, ifs, 0⟩] scope pos) := .mk fun m h H σ τ Q R S P => by
  refine WE.of (pe_lc (g := fun v σ H Q => ∀ (s : Shared) (H0 : Hp) (C : Addr) (cl : List (Str × Addr)) (fp : List Addr), WG (X.blk s H0 scope (compEnvC scope cl C X.env) fp) tg v σ H Q)
    (tt := fun σ H Q => ∀ (s : Shared) (H0 : Hp) (C : Addr) (cl : List (Str × Addr)) (fp : List Addr), WTs (X.blk s H0 scope (compEnvC scope cl C X.env) fp) ifs σ H Q)
    (te := fun σ H Q => ∀ (s : Shared) (H0 : Hp) (C : Addr) (cl : List (Str × Addr)) (fp : List Addr), WE (X.blk s H0 scope (compEnvC scope cl C X.env) fp) elt σ H Q)
    F.calm hN piM ok (fun s H C cl fp => ⟨fun pins s' σ H' v u Q I r h => h s H C cl fp pins s' u I r⟩)
    (fun s H C cl fp => ⟨fun pins s' σ H' Q I h => let ⟨_, p, q⟩ := h s H C cl fp; p.run pins s' σ H' Q I q⟩) (fun s H C cl fp => ⟨fun pins s' σ H' Q I h => h s H C cl fp pins s' I⟩) hs) ?_
  refine hi m h H σ τ _ R S ?_
  unfold eLc at P
  cases q : it σ h with
  | no => rw [q] at P; exact P
  | ex c w s h => rw [q] at P; exact P
  | it J h1 =>
    rw [q] at P
    exact fun m1 H1 I e1 R1 J1 D hD => lc_read hg ht he F.base R1 (S.mono e1) J1 (PoE.later e1 P) D hD
theorem v_setLc (n i : Nat) {y : Str} {py spos : Pos} {it : EvI} {g : Tg} {t e : Ev} {elt tg iter : Expr} {ifs : List Expr} {scope : Scope} {own : List (Str × Nat)} (F : Fit G X Z k) (hN : X.N.Nodup)
    (hsw : swapsWith (.ListComp elt [⟨tg, iter, ifs, 0⟩] scope pos) (some (.Name y py)) spos.line X.env = pure true) (hi : SI G X Z it tg iter) (ok : BlkOk X.N X.env.scope scope own)
    (hg : ∀ (s : Shared) (H : Hp) (C : Addr) (cl : List (Str × Addr)) (fp : List Addr), SGw G (X.blk s H scope (compEnvC scope cl C X.env) fp) (own.map (·.2)) g tg)
    (ht : ∀ (s : Shared) (H : Hp) (C : Addr) (cl : List (Str × Addr)) (fp : List Addr), STs G (X.blk s H scope (compEnvC scope cl C X.env) fp) Z0 t ifs)
    (he : ∀ (s : Shared) (H : Hp) (C : Addr) (cl : List (Str × Addr)) (fp : List Addr), SE G (X.blk s H scope (compEnvC scope cl C X.env) fp) Z0 e elt) (hy : X.N[i]? = some y := by rfl) (hyl : X.env.scope.names.lookup y = some .local := by rfl) (hs : ∀ x, foldedSetIterable iter X.env x = pure x := by intro _; rfl) :
    SS G X Z (eAsg (gN i) (eLc n it (own.map (·.2)) g t e)) (.Assign [.Name y py] (.ListComp elt [⟨tg, iter, ifs, 0⟩] scope pos) spos) := .mk fun m h H σ τ D' R S P => by
  refine WS.of (ps_setLc (g := fun v σ H Q => ∀ (s : Shared) (H0 : Hp) (C : Addr) (cl : List (Str × Addr)) (fp : List Addr), WG (X.blk s H0 scope (compEnvC scope cl C X.env) fp) tg v σ H Q)
    (tt := fun σ H Q => ∀ (s : Shared) (H0 : Hp) (C : Addr) (cl : List (Str × Addr)) (fp : List Addr), WTs (X.blk s H0 scope (compEnvC scope cl C X.env) fp) ifs σ H Q)
    (te := fun σ H Q => ∀ (s : Shared) (H0 : Hp) (C : Addr) (cl : List (Str × Addr)) (fp : List Addr), WE (X.blk s H0 scope (compEnvC scope cl C X.env) fp) elt σ H Q)
    F.calm hN hy hyl hsw piM ok (fun s H C cl fp => ⟨fun pins s' σ H' v u Q I r h => h s H C cl fp pins s' u I r⟩)
    (fun s H C cl fp => ⟨fun pins s' σ H' Q I h => let ⟨_, p, q⟩ := h s H C cl fp; p.run pins s' σ H' Q I q⟩) (fun s H C cl fp => ⟨fun pins s' σ H' Q I h => h s H C cl fp pins s' I⟩) hs) ?_
  have P' := PoS.es (Q' := fun v H1 => D'.nx (τ.set i (some v)) H1) P (fun w h1 m1 H1 v1 e1 R1 r1 P1 => P1 m1 H1 _ Ext.refl R1 ((S.mono e1).set i r1))
  refine hi m h H σ τ _ R S ?_
  unfold eLc at P'
  cases q : it σ h with
  | no => rw [q] at P'; exact P'
  | ex c w s h => rw [q] at P'; exact P'
  | it J h1 =>
    rw [q] at P'
    exact fun m1 H1 I e1 R1 J1 D hD => lc_read hg ht he F.base R1 (S.mono e1) J1 (PoE.later e1 P') D hD
end
end Dr
namespace Dr
open PySem L2
open PyProof.Rows (envOfC)

/-! ### defs -/
abbrev Fn := List W → IH → Out
def PoC (G : Cfg) (m : Nat → Addr) (L : Nat) (H : Hp) (Q : VK) (E : XK) : Out → Prop
  | .v w h' => ∀ m' H' v, Ext G.K m L H m' h'.length H' → Rep G.K G.cl m' h' H' → RW G.K G.cl m' h'.length H' w v → Q v H'
  | .ex c w _ h' => ∀ m' H' d v, Ext G.K m L H m' h'.length H' → Rep G.K G.cl m' h' H' → RW G.K G.cl m' h'.length H' w v → H' d = some (.xd [(G.fn c, v)]) → E (.ref (G.cl c)) (some d) H'
  | _ => False
/-- the promise: what the small language's function says -/
def spC (G : Cfg) (n : Nat) (f : Fn) : Sp := fun vs H Q E => ∃ m h ws, ws.length = n ∧ Rep G.K G.cl m h H ∧ RWs G.K G.cl m h.length H ws vs ∧ PoC G m h.length H Q E (f ws h)
def slots (N : Nat) (ws : List W) : Sg := ws.map some ++ List.replicate (N - ws.length) none
def fnOf (n N : Nat) (body : Ev) : Fn := fun ws h => if ws.length = n then (body (slots N ws) h).fin else .no
section
variable {G : Cfg} {X : Cx} {Z : WX} {k : Nat} {a b c : Ev} {ea eb ec : Expr} {pos : Pos} {st : Stmt} {sts sts' : List Stmt} {tg : Expr}
theorem RWs.slots {m : Nat → Addr} {L : Nat} {H : Hp} {ws : List W} {vs : List V} (r : RWs G.K G.cl m L H ws vs) (N : List Str) (hl : ws.length ≤ N.length) (hx : G.xs = none ∧ G.xd = none) : RSt G m L H (slots N.length ws) (L2.start N vs) := by
  unfold Dr.slots L2.start
  refine ⟨by simp [r.length], fun i w e => ?_, fun i a z => (by rw [hx.1] at z; cases z), fun d c w z => by rw [hx.2] at z; cases z⟩
  by_cases q : i < ws.length
  · rw [List.getElem?_append_left (by simpa using q), List.getElem?_map] at e
    rw [List.getElem?_append_left (by simpa [← r.length] using q), List.getElem?_map]
    cases z : ws[i]? with
    | none => rw [z] at e; cases e
    | some u =>
      rw [z] at e
      cases e
      obtain ⟨v, h1, h2⟩ := r.get z
      exact ⟨v, by rw [h1]; rfl, h2⟩
  · rw [List.getElem?_append_right (by simpa using q)] at e
    rw [List.getElem?_replicate] at e
    split at e
    · cases e
    · cases e
abbrev cxF (P : Program) (w : World) (K : PySem.W.Frag) (mg : Str → Option Value) (base : Heap) (N : List Str) (qual : Str) (st : Stmt) (f : Addr) (cdv : Value) (A : Around) (outer : List Env) (s : Shared) (H : Hp) (E : XK) : Cx :=
  cxOf (L2.CX P w) P w K mg base N qual (defScope st) f cdv A outer s H E
theorem fit_of {P : Program} {w : World} {K : PySem.W.Frag} {mg : Str → Option Value} {base : Heap} {N : List Str} {qual : Str} {st : Stmt} {f : Addr} {cdv : Value} {A : Around} {outer : List Env} {s : Shared} {H : Hp} {E : XK} (hK : K = G.K) (hx : G.xs = none) (hgd : A.guards = some [])
    (hr : Room k (A.deeper (envOfC qual (defScope st) s.heap.objs.size f cdv))) : Fit G (cxF P w K mg base N qual st f cdv A outer s H E) (fun cls d _ H => E cls d H) k :=
  ⟨hK, rfl, passes_of rfl, takes_of rfl rfl rfl rfl, hr, hx, hgd⟩
theorem PoC.toS {m : Nat → Addr} {L : Nat} {H : Hp} {Q : VK} {E : XK} {o : Out} (p : PoC G m L H Q E o.fin) : PoS G m L H (fun cls d _ H => E cls d H) { nx := fun _ H' => Q .non H', rt := Q } o := by
  cases o with
  | nx s h => exact fun m' H' τ e R S => p m' H' .non e R .non
  | rt w h => exact p
  | ex c w s h => exact fun m' H' d v τ' e R r S hd => p m' H' d v e R r hd
  | v w h => exact p
  | vs w h => exact p
  | bk s h => exact False.elim p
  | ct s h => exact False.elim p
  | no => exact p
/-- what a def promises where no guard is up -/
structure FnG (P : Program) (w : World) (K : PySem.W.Frag) (mg : Str → Option Value) (base : Heap) (k : Nat) (f : Addr) (fd : FuncData) (ps : List Str) (sp : Sp) : Prop where
  cnt : ∀ vs H Q E, sp vs H Q E → vs.length = ps.length
  go : ∀ (A : Around) (outer : List Env) (s : Shared) (H : Hp) (args : Args) (us : List Value) (vs : List V) (Q : VK) (E : XK), A.guards = some [] → Room k A → Env0 P w K mg base A outer s H →
    BindsTo s fd args (ps.zip us) → Vals vs us → sp vs H Q E → codeAny (model P w) A (.call (.ref f) args) (CR (L2.CX P w) outer P w H s Q E) s
theorem FnG.imp {P : Program} {w : World} {K : PySem.W.Frag} {mg : Str → Option Value} {base : Heap} {f : Addr} {fd : FuncData} {ps : List Str} {sp sp' : Sp} (F : FnG P w K mg base k f fd ps sp) (h : ∀ vs H Q E, sp' vs H Q E → sp vs H Q E) : FnG P w K mg base k f fd ps sp' :=
  ⟨fun vs H Q E z => F.cnt vs H Q E (h _ _ _ _ z), fun A o s H a us vs Q E g r e b v z => F.go A o s H a us vs Q E g r e b v (h _ _ _ _ z)⟩
theorem FnG.up {P : Program} {w : World} {K : PySem.W.Frag} {mg : Str → Option Value} {base : Heap} {j : Nat} {f : Addr} {fd : FuncData} {ps : List Str} {sp : Sp} (F : FnG P w K mg base k f fd ps sp) (h : k ≤ j) : FnG P w K mg base j f fd ps sp :=
  ⟨F.cnt, fun A o s H a us vs Q E g r => F.go A o s H a us vs Q E g (r.mono h)⟩
/-- a def of the text, as it stands in the written part -/
structure DefAt (K : PySem.W.Frag) (qual : Str) (st : Stmt) (f : Addr) (fd : FuncData) : Prop where
  ex : ∃ (oc : Value) (od : Option Addr) (nm : Str) (dV kV doc pm : Value) (an : Option Addr) (cdv ct : Value) (osl : Array (Option Value)),
    fd = PySem.W.fnOf nm qual (defArgs st) (defBody st) (defScope st) dV kV doc pm an cdv ct ∧ K.lookup f = some ⟨oc, od, .func fd, osl⟩ ∧ PySem.W.codeIn K cdv qual = true
theorem DefAt.of {K : PySem.W.Frag} {x qual : Str} {st : Stmt} {f : Addr} {fd : FuncData} (F : L2.Fun K x qual st f fd) : DefAt K qual st f fd := by
  obtain ⟨oc, od, kV, doc, pm, an, cdv, ct, osl, e, l, c⟩ := F.ex
  exact ⟨oc, od, x, .none, kV, doc, pm, an, cdv, ct, osl, e, l, c⟩
theorem fn_ok {P : Program} {w : World} {K : PySem.W.Frag} {mg : Str → Option Value} {base : Heap} {qual : Str} {f : Addr} {fd : FuncData} {N ps : List Str} {body : Ev} (F : DefAt K qual st f fd) (S : FnScope N ps (defScope st)) (hps : ps.length ≤ N.length) (hx : G.xs = none ∧ G.xd = none)
    (hbody : ∀ (cdv : Value) (A : Around) (outer : List Env) (s : Shared) (H : Hp) (E : XK), A.guards = some [] → Room k (A.deeper (envOfC qual (defScope st) s.heap.objs.size f cdv)) →
      SB G (cxF P w K mg base N qual st f cdv A outer s H E) (fun cls d _ H => E cls d H) body (defBody st)) :
    FnG P w K mg base (k + 1) f fd ps (spC G ps.length (fnOf ps.length N.length body)) := by
  obtain ⟨oc, od, nm, dV, kV, doc, pm, an, cdv, ct, osl, rfl, lk, hcd⟩ := F.ex
  have cnt : ∀ vs H Q E, spC G ps.length (fnOf ps.length N.length body) vs H Q E → vs.length = ps.length := fun vs H Q E h => by
    obtain ⟨m, h, ws, hl, R, r, _⟩ := h
    rw [← r.length, hl]
  refine ⟨cnt, fun A outer s H args us vs Q E gd hr e0 hb r hsp => ?_⟩
  have wr : K.In s.heap := e0.mod.kin.keeps (fun b o z => (e0.bs b o z).1)
  have nl : s.heap.NoLimit := e0.mod.nolimit.keeps (fun b o z => (e0.bs b o z).1)
  refine codeAny_call_function hr.depth (wr _ _ lk) rfl S.co S.gen rfl (PySem.W.codeRec_of wr hcd) (hb _ _ _ _ (wpAny_newFunctionEnv_cells S.kind (fun y hy => ?_) fun env he s1 x => ?_))
  · rcases S.par y.1 (List.of_mem_zip (a := y.1) (b := y.2) hy).1 with z | z
    · exact Or.inl z
    · exact Or.inr ⟨z, PySem.W.cellsFrom_some _ _ _ (Or.inl z)⟩
  · subst he
    refine ⟨nl.keeps x.toInCall.keep, codeAny_func ?_⟩
    have I := inv_start (CX := L2.CX P w) (E := E) S hr.hd e0 (cnt _ _ _ _ hsp) r x
    obtain ⟨m, h, ws, hl, R, rr, PP⟩ := hsp
    unfold Dr.fnOf at PP
    rw [if_pos hl] at PP
    have go := hbody cdv A outer s H E gd (hr.deeper _) m h H _ _ _ R (rr.slots N (by rw [hl]; exact hps) hx) (PoC.toS PP) [] s1 I
    refine wpAny_mono go (fun fl s' hs => ?_) (fun _ _ z => z)
    cases fl with
    | ret u => obtain ⟨v, τ, H', J, rv, z⟩ := hs; exact ⟨v, H', J.os, J.bare, J.base, J.hok, rv, z⟩
    | next => obtain ⟨τ, H', J, z⟩ := hs; exact ⟨.non, H', J.os, J.bare, J.base, J.hok, rfl, z⟩
    | brk => exact False.elim hs.choose_spec.choose_spec.2
    | cont => exact False.elim hs.choose_spec.choose_spec.2
/-! ### calls -/
/-- a def that may be called here -/
def FOk (G : Cfg) (X : Cx) (k : Nat) (f : Addr) (fn : Fn) (dw : List W) : Prop := ∃ fd ps ds dvs, FnG X.prog X.w X.K X.mg X.base k f fd ps (spC G ps.length fn) ∧ Binds X.K fd ps ds ∧ Vals dvs ds ∧ (∀ m L H, RWs G.K G.cl m L H dw dvs) ∧ ∀ ws h, ws.length ≠ ps.length → fn ws h = .no
theorem run_f {f : Addr} {fn : Fn} {dw ws : List W} {τ : St} {σ : Sg} {m : Nat → Addr} {h : IH} {H : Hp} {vs : List V} {us : List Value} {Q : VK} {pins : List (Addr × Obj)} {s : Shared} (F : Fit G X Z k) (ok : FOk G X k f fn dw) (R : Rep G.K G.cl m h H) (S : RSt G m h.length H σ τ)
    (r : RWs G.K G.cl m h.length H ws vs) (P : PoE G m h.length H Z Q ((fn (ws ++ dw) h).cb σ)) (I : Inv X pins τ H s) (rv : Vals vs us) : wpAny (model X.prog X.w) X.A (call (.ref f) us) (EP X pins τ Q) X.xe s := by
  obtain ⟨fd, ps, ds, dvs, Fo, hb, hd, hw, ar⟩ := ok
  have r2 : RWs G.K G.cl m h.length H (ws ++ dw) (vs ++ dvs) := r.append (hw _ _ _)
  have rv2 : Vals (vs ++ dvs) (us ++ ds) := rv.append hd
  by_cases hl : (ws ++ dw).length = ps.length
  · have sp : spC G ps.length fn (vs ++ dvs) H Q (fun cls d H' => Z cls d τ H') := by
      refine ⟨m, h, ws ++ dw, hl, R, r2, ?_⟩
      cases e : fn (ws ++ dw) h with
      | v w h' => rw [e] at P; exact P
      | ex c w s h' => rw [e] at P; exact fun m' H' d v e' R' r' hd' => P m' H' d v τ e' R' r' (S.mono e') hd'
      | vs w h => rw [e] at P; exact P
      | nx s h => rw [e] at P; exact P
      | rt w h => rw [e] at P; exact P
      | bk s h => rw [e] at P; exact P
      | ct s h => rw [e] at P; exact P
      | no => rw [e] at P; exact P
    have hl2 : (us ++ ds).length = ps.length := by rw [← rv2.length, ← r2.length]; exact hl
    refine wpAny_call (codeAny_mono (Fo.go X.A X.stack s H ⟨us, []⟩ (us ++ ds) (vs ++ dvs) Q _ F.gd F.room I.env0 (hb s us I.kIn hl2) rv2 sp) fun r s' hq => ?_)
    cases r with
    | error e => exact passAt F.tk τ pins H s e s' I hq
    | ok fl =>
      cases fl with
      | ret u => exact I.after hq
      | next => exact False.elim hq
      | brk => exact False.elim hq
      | cont => exact False.elim hq
  · rw [ar _ h hl] at P
    exact False.elim P
def eCall (fn : Fn) (dw : List W) (r : Ev) : Ev := fun σ h => (r σ h).vsb fun ws h1 => (fn (ws ++ dw) h1).cb σ
theorem s_call {x : Str} {f : Addr} {fn : Fn} {dw : List W} {r : Ev} {e : Expr} {es : List Expr} {p : Pos} (F : Fit G X Z k) (ok : FOk G X k f fn dw) (hm : X.mg x = some (.ref f)) (hk : PySem.W.keepIn X.K (.ref f) = true) (hr : SA G X Z r (e :: es)) (hg : Gl X x := by rfl)
    (hdb : (x == ("__debug__" : Str)) = false := by decide) (he : starEach (e :: es) X.env = (false, eval e X.env) :: starEach es X.env := by rfl) (hpl : (backTo pos (starEach es X.env)).any (·.1) = false := by rfl) :
    SE G X Z (eCall fn dw r) (.Call (.Name x p) (e :: es) [] pos) := .mk fun m h H σ τ Q R S P pins s I => by
  refine wpAny_Call_Name_kw (ld_glob I hg hm ?_ hdb)
  refine PySem.W.callWith_K (h₀ := X.base) I.ok.mod.kin hk ?_ he hpl
  refine thn (hr m h H σ τ (fun vs H1 => ∃ m1 h1 ws, Ext G.K m h.length H m1 h1.length H1 ∧ Rep G.K G.cl m1 h1 H1 ∧ RWs G.K G.cl m1 h1.length H1 ws vs ∧ PoE G m1 h1.length H1 Z Q ((fn (ws ++ dw) h1).cb σ)) R S
    (PoE.ae P fun ws h1 m1 H1 vs e1 R1 r1 P1 => ⟨m1, h1, ws, e1, R1, r1, P1⟩) pos pins s I) fun us s1 ⟨vs, H1, I1, rv, m1, h1, ws, e1, R1, r1, P1⟩ => ⟨I1.kIn, run_f F ok R1 (S.mono e1) r1 P1 I1 rv⟩
theorem s_call0 {x : Str} {f : Addr} {fn : Fn} {dw : List W} {p : Pos} (F : Fit G X Z k) (ok : FOk G X k f fn dw) (hm : X.mg x = some (.ref f)) (hk : PySem.W.keepIn X.K (.ref f) = true) (hg : Gl X x := by rfl)
    (hdb : (x == ("__debug__" : Str)) = false := by decide) : SE G X Z (eCall fn dw eNil) (.Call (.Name x p) [] [] pos) := .mk fun m h H σ τ Q R S P pins s I => by
  refine wpAny_Call_Name_kw (ld_glob I hg hm ?_ hdb)
  exact PySem.W.callWith_K0 I.kIn hk (run_f (us := []) (vs := []) (ws := []) F ok R S .nil P I .nil)
/-! ### instances with a dict -/
/-- equality by lists -/
def eqL : List Nat → List Nat → Bool
  | [], [] => true
  | a :: as, b :: bs => Nat.beq a b && eqL as bs
  | _, _ => false
theorem eqL_iff : ∀ xs ys : List Nat, eqL xs ys = true ↔ xs = ys
  | [], [] => by simp [eqL]
  | [], _ :: _ => by simp [eqL]
  | _ :: _, [] => by simp [eqL]
  | a :: as, b :: bs => by
    unfold eqL
    rw [Bool.and_eq_true_iff, eqL_iff as bs, Nat.beq_eq]
    simp
def eqS (a b : Str) : Bool := eqL a.cps.toList b.cps.toList
theorem eqS_eq (a b : Str) : eqS a b = decide (a = b) := by
  have : eqS a b = true ↔ a = b := by
    unfold eqS
    rw [eqL_iff]
    constructor
    · intro h
      cases a; cases b
      exact congrArg Str.mk (Array.ext' h)
    · intro h; rw [h]
  by_cases q : a = b
  · rw [decide_eq_true q]; exact this.mpr q
  · rw [decide_eq_false q]
    cases e : eqS a b with
    | false => rfl
    | true => exact absurd (this.mp e) q
def lookW (f : Str) : List (Str × W) → Option W
  | [] => none
  | (g, w) :: r => if eqS f g = true then some w else lookW f r
theorem lookW_eq (f : Str) : ∀ fs : List (Str × W), lookW f fs = fs.lookup f
  | [] => rfl
  | (g, w) :: r => by
    unfold lookW
    rw [eqS_eq, lookW_eq f r]
    by_cases e : f = g
    · subst e; simp [List.lookup]
    · have e' : (f == g) = false := by simpa using e
      simp [List.lookup, e, e']
def putW (f : Str) (w : W) : List (Str × W) → List (Str × W)
  | [] => [(f, w)]
  | (g, x) :: r => if eqS g f = true then (g, w) :: r else (g, x) :: putW f w r
theorem RF.put {m : Nat → Addr} {L : Nat} {H : Hp} {fs : List (Str × W)} {vs : List (Str × V)} {f : Str} {w : W} {v : V} (r : RF G.K G.cl m L H fs vs) (a : RW G.K G.cl m L H w v) : RF G.K G.cl m L H (putW f w fs) (putF f v vs) := by
  induction r with
  | nil => exact .cons a .nil
  | cons b _ ih =>
    unfold putW putF
    rw [eqS_eq]
    split
    · rename_i q
      rw [if_pos (by simpa using q)]; exact .cons a (by assumption)
    · rename_i q
      rw [if_neg (by simpa using q)]; exact .cons b ih
theorem RF.len {m : Nat → Addr} {L : Nat} {H : Hp} {fs : List (Str × W)} {vs : List (Str × V)} (r : RF G.K G.cl m L H fs vs) : fs.length = vs.length := by
  induction r with
  | nil => rfl
  | cons _ _ ih => simp [ih]
/-- the classes whose instances have the field -/
def FldOk (G : Cfg) (X : Cx) (cs : List Nat) (f : Str) : Prop := ∀ c ∈ cs, Cls X.K (G.cl c) ∧ NoAttr X.K (G.cl c) f
def fldAt (cs : List Nat) (f : Str) (x : W) (h : IH) : Out := match x with
  | .ref n => (match h[n]? with
    | some (.ins c fs) => if cs.contains c = true then (match lookW f fs with | some w => .v w h | none => .no) else .no
    | _ => .no)
  | _ => .no
def eFld (cs : List Nat) (f : Str) (a : Ev) : Ev := fun σ h => (a σ h).vb (fldAt cs f)
theorem s_fld {cs : List Nat} {f : Str} (F : Fit G X Z k) (ok : FldOk G X cs f) (ha : SE G X Z a ea) (hb : attributeBase ea f X.env (eval ea X.env) = eval ea X.env := by rfl) : SE G X Z (eFld cs f a) (.Attribute ea f pos) := .mk fun m h H σ τ Q R S P => by
  refine WE.of (pe_fld peM hb) (ha m h H σ τ _ R S (PoE.ee P fun x h1 m1 H1 v1 e1 R1 r1 P1 => ?_))
  cases r1 <;> first | exact P1.elim | skip
  rename_i n hn
  unfold fldAt at P1
  simp only at P1
  split at P1
  · rename_i c fs e
    split at P1
    · rename_i q
      obtain ⟨dx, fvs, hx, rf⟩ := R1.obj n _ e
      have ck := ok c (by simpa using q)
      rw [lookW_eq] at P1
      rcases rf.look f with ⟨z, _⟩ | ⟨w, v, z, z', rw_⟩
      · rw [z] at P1; exact P1.elim
      · rw [z] at P1; exact ⟨m1 n, _, dx, fvs, v, rfl, hx, ck.1, ck.2, z', P1 m1 H1 v Ext.refl R1 rw_⟩
    · exact P1.elim
  · exact P1.elim
def setAt (cs : List Nat) (f : Str) (x y : W) (σ : Sg) (h : IH) : Out := match x with
  | .ref n => (match h[n]? with
    | some (.ins c fs) => if cs.contains c = true ∧ fs.length < 1000 then .nx σ (h.set n (.ins c (putW f y fs))) else .no
    | _ => .no)
  | _ => .no
def eSetF (cs : List Nat) (f : Str) (o a : Ev) : Ev := fun σ h => (a σ h).vb fun y h1 => (o σ h1).vb fun x h2 => setAt cs f x y σ h2
theorem set_at {cs : List Nat} {f : Str} {m : Nat → Addr} {h : IH} {H : Hp} {x y : W} {vx vy : V} {σ : Sg} {τ : St} {D : Ends} (ok : FldOk G X cs f) (R : Rep G.K G.cl m h H) (S : RSt G m h.length H σ τ) (rx : RW G.K G.cl m h.length H x vx) (ry : RW G.K G.cl m h.length H y vy)
    (P : PoS G m h.length H Z D (setAt cs f x y σ h)) : ∃ n c dx fvs, vx = .ref (m n) ∧ c ∈ cs ∧ H (m n) = some (.ins (G.cl c) dx fvs) ∧ Cls X.K (G.cl c) ∧ NoAttr X.K (G.cl c) f ∧ fvs.length < 1000 ∧ D.nx τ (upd H (m n) (.ins (G.cl c) dx (putF f vy fvs))) := by
  cases rx <;> first | exact P.elim | skip
  rename_i n hn
  unfold setAt at P
  simp only at P
  split at P
  · rename_i c fs e
    split at P
    · rename_i q
      obtain ⟨dx, fvs, hx, rf⟩ := R.obj n _ e
      have ck := ok c (by simpa using q.1)
      obtain ⟨R', E'⟩ := R.put (n := n) (o' := .ins c (putW f y fs)) (u := .ins (G.cl c) dx (putF f vy fvs)) e (noTup_of hx (fun _ z => by cases z) (fun _ _ z => by cases z)) (fun ex => ⟨dx, _, upd_same, (rf.put ry).mono ex⟩)
      exact ⟨n, c, dx, fvs, rfl, by simpa using q.1, hx, ck.1, ck.2, by rw [← rf.len]; exact q.2, P m _ τ E' R' (S.mono E')⟩
    · exact P.elim
  · exact P.elim
theorem v_setF {cs : List Nat} {f : Str} {o : Ev} {eo : Expr} {pos' : Pos} (F : Fit G X Z k) (ok : FldOk G X cs f) (ho : SE G X Z o eo) (ha : SE G X Z a ea) (hs : swapsWith ea (some (.Attribute eo f pos')) pos.line X.env = pure false := by rfl) : SS G X Z (eSetF cs f o a) (.Assign [.Attribute eo f pos'] ea pos) := .mk fun m h H σ τ D R S P => by
  refine WS.of (ps_fld peM peM hs) (ha m h H σ τ _ R S (PoS.es P fun y h1 m1 H1 v1 e1 R1 r1 P1 => ?_))
  refine ho m1 h1 H1 σ τ _ R1 (S.mono e1) (PoS.es P1 fun x h2 m2 H2 v2 e2 R2 r2 P2 => ?_)
  obtain ⟨n, c, dx, fvs, rfl, _, hx, c1, c2, hl, q⟩ := set_at (X := X) ok R2 ((S.mono e1).mono e2) r2 (r1.mono e2) P2
  exact ⟨m2 n, _, dx, fvs, rfl, hx, c1, c2, hl, q⟩
/-- o.f += e, ints -/
def augAt (cs : List Nat) (f : Str) (x : W) (h1 : IH) (k : Nat → W → Out) : Out := match x with
  | .ref n => (match h1[n]? with
    | some (.ins c fs) => if cs.contains c = true then (match lookW f fs with | some u => k c u | none => .no) else .no
    | _ => .no)
  | _ => .no
def eAugF (cs : List Nat) (f : Str) (o a : Ev) : Ev := fun σ h => (o σ h).vb fun x h1 => augAt cs f x h1 fun c u => (a σ h1).vb fun y h2 => (oAddI u y h2).vb fun z h3 => setAt [c] f x z σ h3
theorem v_augF {cs : List Nat} {f : Str} {o : Ev} {eo : Expr} {pos' : Pos} (F : Fit G X Z k) (ok : FldOk G X cs f) (ho : SE G X Z o eo) (ha : SE G X Z a ea) : SS G X Z (eAugF cs f o a) (.AugAssign (.Attribute eo f pos') .Add ea pos) := .mk fun m h H σ τ D R S P => by
  refine WS.of (ps_fldaug peM peM in_add) (ho m h H σ τ _ R S (PoS.es P fun x h1 m1 H1 v1 e1 R1 r1 P1 => ?_))
  cases r1 <;> first | exact P1.elim | skip
  rename_i n hn
  unfold augAt at P1
  simp only at P1
  split at P1
  · rename_i c fs e
    split at P1
    · rename_i q
      obtain ⟨dx, fvs, hx, rf⟩ := R1.obj n _ e
      have ck := ok c (by simpa using q)
      rw [lookW_eq] at P1
      rcases rf.look f with ⟨z, _⟩ | ⟨w, v, z, z', rw_⟩
      · rw [z] at P1; exact P1.elim
      · rw [z] at P1
        refine ⟨m1 n, _, dx, fvs, v, rfl, hx, ck.1, ck.2, z', ?_⟩
        refine ha m1 h1 H1 σ τ _ R1 (S.mono e1) (PoS.es P1 fun y h2 m2 H2 v2 e2 R2 r2 P2 => ?_)
        have rw2 := rw_.mono e2
        cases rw2 <;> cases r2 <;> first | exact P2.elim | skip
        refine ⟨_, _, rfl, rfl, ?_⟩
        have P3 : PoS G m2 h2.length H2 Z D (setAt [c] f (.ref n) _ σ h2) := P2
        have rn : RW G.K G.cl m2 h2.length H2 (.ref n) (.ref (m2 n)) := .ref n (Nat.lt_of_lt_of_le hn e2.le)
        obtain ⟨n', c', dx', fvs', e', hc, hx', c1, c2, hl, q'⟩ := set_at (X := X) (cs := [c]) (fun c0 h0 => by rw [List.mem_singleton.mp h0]; exact ck) R2 ((S.mono e1).mono e2) rn (.int _) P3
        have en : m2 n' = m1 n := by rw [← e2.eq n hn]; exact (V.ref.inj e').symm
        rw [List.mem_singleton.mp hc, en] at hx' q'
        exact ⟨dx', fvs', hx', hl, q'⟩
    · exact P1.elim
  · exact P1.elim
end
end Dr
namespace Dr
open PySem L2

section
variable {G : Cfg} {X : Cx} {Z : WX} {k : Nat} {a b c : Ev} {ea eb ec : Expr} {pos : Pos} {st : Stmt} {sts sts' : List Stmt} {tg : Expr}
/-! ### methods and making of instances with a dict -/
/-- what the classes do under a name -/
def MOk (G : Cfg) (X : Cx) (k : Nat) (nm : Str) (tbl : Nat → Option (Fn × List W)) : Prop := ∀ c fn dw, tbl c = some (fn, dw) → ∃ f, Cls X.K (G.cl c) ∧ Meth X.K (G.cl c) nm f ∧ FOk G X k f fn dw
def recv (nm : Str) (tbl : Nat → Option (Fn × List W)) (x : W) (h : IH) (q : Fn → List W → Out) : Out := match x with
  | .ref n => (match h[n]? with
    | some (.ins c fs) => if (fs.lookup nm).isNone = true then (match tbl c with | some (fn, dw) => q fn dw | none => .no) else .no
    | _ => .no)
  | _ => .no
def eMeth (nm : Str) (tbl : Nat → Option (Fn × List W)) (o r : Ev) : Ev := fun σ h => (o σ h).vb fun x h1 => recv nm tbl x h1 fun fn dw => (r σ h1).vsb fun ws h2 => (fn (x :: ws ++ dw) h2).cb σ
theorem recv_at {nm : Str} {tbl : Nat → Option (Fn × List W)} {x : W} {v : V} {m : Nat → Addr} {h : IH} {H : Hp} {q : Fn → List W → Out} {Q : VK} (ok : MOk G X k nm tbl) (R : Rep G.K G.cl m h H) (r : RW G.K G.cl m h.length H x v) (P : PoE G m h.length H Z Q (recv nm tbl x h q)) :
    ∃ n c dx fvs f fn dw, v = .ref (m n) ∧ H (m n) = some (.ins (G.cl c) dx fvs) ∧ fvs.lookup nm = none ∧ Cls X.K (G.cl c) ∧ Meth X.K (G.cl c) nm f ∧ FOk G X k f fn dw ∧ PoE G m h.length H Z Q (q fn dw) := by
  cases r <;> first | exact P.elim | skip
  rename_i n hn
  unfold recv at P
  simp only at P
  split at P
  · rename_i c fs e
    split at P
    · rename_i hz
      split at P
      · rename_i fn dw et
        obtain ⟨dx, fvs, hx, rf⟩ := R.obj n _ e
        obtain ⟨f, c1, c2, c3⟩ := ok c fn dw et
        refine ⟨n, c, dx, fvs, f, fn, dw, rfl, hx, ?_, c1, c2, c3, P⟩
        rcases rf.look nm with ⟨_, z⟩ | ⟨w, v, z, _⟩
        · exact z
        · rw [z] at hz; cases hz
      · exact P.elim
    · exact P.elim
  · exact P.elim
theorem s_meth {nm : Str} {tbl : Nat → Option (Fn × List W)} {o r : Ev} {eo e : Expr} {es : List Expr} {apos : Pos} {pl : Sem Bool} (F : Fit G X Z k) (ok : MOk G X k nm tbl) (ho : SE G X Z o eo) (hr : SA G X Z r (e :: es))
    (hst : starEach (e :: es) X.env = (false, eval e X.env) :: starEach es X.env := by rfl) (hpl : (backTo pos (starEach es X.env)).any (·.1) = false := by rfl)
    (ht : eval (.Call (.Attribute eo nm apos) (e :: es) [] pos) X.env = (do
      let ov ← eval eo X.env
      standAt apos.atName
      let (f, first) ← holding [ov] (getMethod ov nm pl)
      callWith pos f first (backTo pos (starEach (e :: es) X.env)) (backToKw pos (keywordEach [] X.env))) := by rfl) :
    SE G X Z (eMeth nm tbl o r) (.Call (.Attribute eo nm apos) (e :: es) [] pos) := .mk fun m h H σ τ Q R S P pins s I => by
  refine PySem.W.methodCall_KW (pl := pl) (thn (ho m h H σ τ (fun v H1 => ∃ m1 h1 x, Ext G.K m h.length H m1 h1.length H1 ∧ Rep G.K G.cl m1 h1 H1 ∧ RW G.K G.cl m1 h1.length H1 x v ∧ PoE G m1 h1.length H1 Z Q (recv nm tbl x h1 fun fn dw => (r σ h1).vsb fun ws h2 => (fn (x :: ws ++ dw) h2).cb σ)) R S
    (PoE.ee P fun x h1 m1 H1 v e1 R1 r1 P1 => ⟨m1, h1, x, e1, R1, r1, P1⟩) pins s I) fun u s1 ⟨v, H1, I1, rv, m1, h1, x, e1, R1, r1, P1⟩ => ?_) ht
  obtain ⟨n, c, dx, fvs, f, fn, dw, rfl, hx, hl, c1, c2, c3, P2⟩ := recv_at ok R1 r1 P1
  obtain rfl : u = Value.ref (m1 n) := rv
  refine getmeth_ok I1 hx c1 c2 hl ?_
  refine PySem.W.callWith_K (first := [.ref (m1 n)]) (h₀ := X.base) I.ok.mod.kin c2.kp ?_ hst hpl
  refine thn (hr m1 h1 H1 σ τ (fun vs H2 => ∃ m2 h2 ws, Ext G.K m1 h1.length H1 m2 h2.length H2 ∧ Rep G.K G.cl m2 h2 H2 ∧ RWs G.K G.cl m2 h2.length H2 ws vs ∧ PoE G m2 h2.length H2 Z Q ((fn (x :: ws ++ dw) h2).cb σ)) R1 (S.mono e1)
    (PoE.ae P2 fun ws h2 m2 H2 vs e2 R2 r2 P3 => ⟨m2, h2, ws, e2, R2, r2, P3⟩) pos pins s1 I1) fun us s2 ⟨vs, H2, I2, rvs, m2, h2, ws, e2, R2, r2, P3⟩ => ⟨I2.kIn, ?_⟩
  exact run_f (ws := x :: ws) F c3 R2 ((S.mono e1).mono e2) (.cons (r1.mono e2) r2) P3 I2 (.cons rfl rvs)
theorem s_meth0 {nm : Str} {tbl : Nat → Option (Fn × List W)} {o : Ev} {eo : Expr} {apos : Pos} {pl : Sem Bool} (F : Fit G X Z k) (ok : MOk G X k nm tbl) (ho : SE G X Z o eo)
    (ht : eval (.Call (.Attribute eo nm apos) [] [] pos) X.env = (do
      let ov ← eval eo X.env
      standAt apos.atName
      let (f, first) ← holding [ov] (getMethod ov nm pl)
      callWith pos f first (backTo pos (starEach [] X.env)) (backToKw pos (keywordEach [] X.env))) := by rfl) :
    SE G X Z (eMeth nm tbl o eNil) (.Call (.Attribute eo nm apos) [] [] pos) := .mk fun m h H σ τ Q R S P pins s I => by
  refine PySem.W.methodCall_KW (pl := pl) (thn (ho m h H σ τ (fun v H1 => ∃ m1 h1 x, Ext G.K m h.length H m1 h1.length H1 ∧ Rep G.K G.cl m1 h1 H1 ∧ RW G.K G.cl m1 h1.length H1 x v ∧ PoE G m1 h1.length H1 Z Q (recv nm tbl x h1 fun fn dw => (eNil σ h1).vsb fun ws h2 => (fn (x :: ws ++ dw) h2).cb σ)) R S
    (PoE.ee P fun x h1 m1 H1 v e1 R1 r1 P1 => ⟨m1, h1, x, e1, R1, r1, P1⟩) pins s I) fun u s1 ⟨v, H1, I1, rv, m1, h1, x, e1, R1, r1, P1⟩ => ?_) ht
  obtain ⟨n, c, dx, fvs, f, fn, dw, rfl, hx, hl, c1, c2, c3, P2⟩ := recv_at ok R1 r1 P1
  obtain rfl : u = Value.ref (m1 n) := rv
  refine getmeth_ok I1 hx c1 c2 hl ?_
  exact PySem.W.callWith_K0 (first := [.ref (m1 n)]) I1.kIn c2.kp (run_f (ws := [x]) (vs := [.ref (m1 n)]) (us := [.ref (m1 n)]) F c3 R1 (S.mono e1) (.cons r1 .nil) P2 I1 (.cons rfl .nil))
/-! ### o[i] = e -/
def oSetI (x i y : W) (σ : Sg) (h : IH) : Out := match x, i with
  | .ref n, .int j => (match h[n]? with
    | some (.lst ws) => (match ixN ws.length j with | some q => .nx σ (h.set n (.lst (ws.set q y))) | none => .no)
    | _ => .no)
  | _, _ => .no
def eSetI (o i a : Ev) : Ev := fun σ h => (a σ h).vb fun y h1 => (o σ h1).vb fun x h2 => (i σ h2).vb fun z h3 => oSetI x z y σ h3
theorem v_setI {o i : Ev} {eo ei : Expr} {pos' : Pos} (F : Fit G X Z k) (ho : SE G X Z o eo) (hi : SE G X Z i ei) (ha : SE G X Z a ea) (hs : swapsWithSole [.Subscript eo ei pos'] ea pos.line X.env = pure false := by rfl) (hw : swappedStores [.Subscript eo ei pos'] ea X.env = pure none := by rfl)
    (h1 : (assignEach [.Subscript eo ei pos'] X.env).map (·.2) = [assign (.Subscript eo ei pos') X.env] := by rfl)
    (hg : ∀ v, assign (.Subscript eo ei pos') X.env v = (do
      let ov ← holding [v] (eval eo X.env)
      let iv ← holding [v, ov] (eval ei X.env)
      standAt pos'
      holding [v, ov, iv] (setItem ov iv v)
      release [v, ov, iv] []) := by intro _; rfl) : SS G X Z (eSetI o i a) (.Assign [.Subscript eo ei pos'] ea pos) := .mk fun m h H σ τ D R S P => by
  refine WS.of (ps_asg peM (pg_sub peM peM set_list hg) hs hw h1) (ha m h H σ τ _ R S (PoS.es P fun y h1 m1 H1 v1 e1 R1 r1 P1 => ?_))
  refine ho m1 h1 H1 σ τ _ R1 (S.mono e1) (PoS.es P1 fun x h2 m2 H2 v2 e2 R2 r2 P2 => ?_)
  refine hi m2 h2 H2 σ τ _ R2 ((S.mono e1).mono e2) (PoS.es P2 fun z h3 m3 H3 v3 e3 R3 r3 P3 => ?_)
  have S3 := ((S.mono e1).mono e2).mono e3
  have ry := (r1.mono e2).mono e3
  have rx := r2.mono e3
  clear P P1 P2 r1 r2
  cases rx <;> cases r3 <;> first | exact P3.elim | skip
  rename_i n hn j
  unfold oSetI at P3
  simp only at P3
  split at P3
  · rename_i ws e
    split at P3
    · rename_i q eq
      obtain ⟨vs, hx, hv⟩ := R3.obj n _ e
      refine ⟨m3 n, vs, j, q, rfl, rfl, hx, by rw [← hv.length]; exact eq, ?_⟩
      obtain ⟨R', E'⟩ := R3.put (n := n) (o' := .lst (ws.set q y)) (u := .lst (vs.set q v1)) e (noTup_of hx (fun _ z => by cases z) (fun _ _ z => by cases z)) (fun ex => ⟨_, upd_same, (hv.set ry q).mono ex⟩)
      exact P3 m3 _ τ E' R' (S3.mono E')
    · exact P3.elim
  · exact P3.elim
/-! ### built-in functions -/
def WC (X : Cx) (f : Value) : List V → Hp → VK → Prop := fun vs H Q => ∃ r, CallR X f r ∧ r vs H Q
theorem pcM {f : Value} : CallR X f (WC X f) := fun pins s σ H xs us Q I r h => let ⟨_, o, q⟩ := h; o pins s σ H xs us Q I r q
structure SC (G : Cfg) (X : Cx) (f : Value) (g : Fn) : Prop where
  go : ∀ m h H ws vs Z Q, Rep G.K G.cl m h H → RWs G.K G.cl m h.length H ws vs → PoE G m h.length H Z Q (g ws h) → WC X f vs H Q
instance {G : Cfg} {X : Cx} {f : Value} {g : Fn} : CoeFun (SC G X f g) (fun _ => ∀ m h H ws vs Z Q, Rep G.K G.cl m h H → RWs G.K G.cl m h.length H ws vs → PoE G m h.length H Z Q (g ws h) → WC X f vs H Q) := ⟨SC.go⟩
def eBlt (g : Fn) (r : Ev) : Ev := fun σ h => (r σ h).vsb fun ws h1 => g ws h1
theorem s_blt {x : Str} {id : String} {g : Fn} {r : Ev} {e : Expr} {es : List Expr} {p : Pos} (hc : SC G X (.builtin id) g) (hm : X.mg x = none) (hv : bootBuiltins x = some (.builtin id)) (hr : SA G X Z r (e :: es)) (hg : Gl X x := by rfl) (hn : x ≠ "__name__" := by decide) (hdb : (x == ("__debug__" : Str)) = false := by decide)
    (he : starEach (e :: es) X.env = (false, eval e X.env) :: starEach es X.env := by rfl) (hpl : (backTo pos (starEach es X.env)).any (·.1) = false := by rfl) : SE G X Z (eBlt g r) (.Call (.Name x p) (e :: es) [] pos) := .mk fun m h H σ τ Q R S P => by
  refine WE.of (pe_callB pcM hg hm hv paM hn hdb he hpl) (hr m h H σ τ _ R S (PoE.ae P fun ws h1 m1 H1 vs e1 R1 r1 P1 => ?_))
  exact hc m1 h1 H1 ws vs Z Q R1 r1 P1
theorem s_blty {x : Str} {T : String} {g : Fn} {r : Ev} {e : Expr} {es : List Expr} {p : Pos} (hc : SC G X (.type T) g) (hm : X.mg x = none) (hv : bootBuiltins x = some (.type T)) (hr : SA G X Z r (e :: es)) (hg : Gl X x := by rfl) (hn : x ≠ "__name__" := by decide) (hdb : (x == ("__debug__" : Str)) = false := by decide)
    (he : starEach (e :: es) X.env = (false, eval e X.env) :: starEach es X.env := by rfl) (hpl : (backTo pos (starEach es X.env)).any (·.1) = false := by rfl) : SE G X Z (eBlt g r) (.Call (.Name x p) (e :: es) [] pos) := .mk fun m h H σ τ Q R S P => by
  refine WE.of (pe_callTy pcM hg hm hv paM hn hdb he hpl) (hr m h H σ τ _ R S (PoE.ae P fun ws h1 m1 H1 vs e1 R1 r1 P1 => ?_))
  exact hc m1 h1 H1 ws vs Z Q R1 r1 P1
def bLen : Fn := fun ws h => match ws with
  | [.str z] => if z.length ≤ 16777216 then .v (.int (z.length : Nat)) h else .no
  | [.tup ts] => .v (.int (ts.length : Nat)) h
  | [.ref n] => (match lstAt h n with | some ls => .v (.int (ls.length : Nat)) h | none => .no)
  | _ => .no
theorem c_len (hK : X.K = G.K) : SC G X (.builtin "len") bLen := .mk fun m h H ws vs Z Q R r P => by
  unfold bLen at P
  split at P
  · rename_i z
    split at P
    · rename_i q
      cases r with
      | cons r1 r2 => cases r1; cases r2; exact ⟨_, call_len_str, z, rfl, by rw [lineSz]; exact q, P m H _ Ext.refl R (.int _)⟩
    · exact P.elim
  · rename_i ts
    cases r with
    | cons r1 r2 =>
      cases r1; cases r2
      rename_i p us hp hu
      refine ⟨_, call_len_seq, p, us, rfl, .inr (hK ▸ hp), ?_⟩
      rw [← hu.length]
      exact P m H _ Ext.refl R (.int _)
  · rename_i n
    split at P
    · rename_i ls e
      cases r with
      | cons r1 r2 =>
        cases r1; cases r2
        obtain ⟨us, hx, hu⟩ := lstAt_of R e
        refine ⟨_, call_len_seq, m n, us, rfl, .inl (hK ▸ hx), ?_⟩
        rw [← hu.length]
        exact P m H _ Ext.refl R (.int _)
    · exact P.elim
  · exact P.elim
def bInt : Fn := fun ws h => match ws with
  | [.int i] => .v (.int i) h
  | [.bl q] => .v (.int (if q then 1 else 0)) h
  | _ => .no
theorem c_int : SC G X (.type "int") bInt := .mk fun m h H ws vs Z Q R r P => by
  unfold bInt at P
  split at P
  · cases r with
    | cons r1 r2 => cases r1; cases r2; exact ⟨_, call_int1, .inl ⟨_, rfl, P m H _ Ext.refl R (.int _)⟩⟩
  · cases r with
    | cons r1 r2 => cases r1; cases r2; exact ⟨_, call_int1, .inr ⟨_, rfl, P m H _ Ext.refl R (.int _)⟩⟩
  · exact P.elim
def bMin : Fn := fun ws h => match ws with
  | [.int i, .int j] => .v (.int (if j < i then j else i)) h
  | _ => .no
def bMax : Fn := fun ws h => match ws with
  | [.int i, .int j] => .v (.int (if j > i then j else i)) h
  | _ => .no
theorem c_min (hc : X.calm = true) : SC G X (.builtin "min") bMin := .mk fun m h H ws vs Z Q R r P => by
  unfold bMin at P
  split at P
  · cases r with
    | cons r1 r2 => cases r1; cases r2 with
      | cons r2 r3 => cases r2; cases r3; exact ⟨_, call_min2 hc, _, _, rfl, P m H _ Ext.refl R (.int _)⟩
  · exact P.elim
theorem c_max (hc : X.calm = true) : SC G X (.builtin "max") bMax := .mk fun m h H ws vs Z Q R r P => by
  unfold bMax at P
  split at P
  · cases r with
    | cons r1 r2 => cases r1; cases r2 with
      | cons r2 r3 => cases r2; cases r3; exact ⟨_, call_max2 hc, _, _, rfl, P m H _ Ext.refl R (.int _)⟩
  · exact P.elim
end
end Dr
namespace Dr
open PySem L2

section
variable {G : Cfg} {X : Cx} {Z : WX} {k : Nat} {a b c : Ev} {ea eb ec : Expr} {pos : Pos} {st : Stmt} {sts sts' : List Stmt} {tg : Expr}
/-! ### instances with slots -/
def SlotOk (G : Cfg) (X : Cx) (c : Nat) (f : Str) (i : Nat) : Prop := SlX.SCls X.K (G.cl c) ∧ ∃ p, SlX.Slot1 X.K (G.cl c) f p i
theorem slt_of {m : Nat → Addr} {h : IH} {H : Hp} {n c : Nat} {ws : List (Option W)} (R : Rep G.K G.cl m h H) (e : h[n]? = some (.slt c ws)) : ∃ dx vs, SlX.Slt H (m n) (G.cl c) dx vs ∧ ∀ (i : Nat) (w : W), ws[i]? = some (some w) → ∃ v : V, vs[i]? = some (some v) ∧ RW G.K G.cl m h.length H w v := by
  obtain ⟨dx, vs, hd, hv⟩ := R.obj n _ e
  refine ⟨dx, vs, ?_, hv⟩
  rcases hd with ⟨h1, h2, _⟩ | ⟨h1, h3⟩
  · exact .inl ⟨h1, h2⟩
  · exact .inr ⟨h1, h3⟩
def slotAt (c i : Nat) (x : W) (h : IH) : Out := match x with
  | .ref n => (match h[n]? with
    | some (.slt c' ws) => if c' = c then (match ws[i]? with | some (some w) => .v w h | _ => .no) else .no
    | _ => .no)
  | _ => .no
def eSlot (c i : Nat) (a : Ev) : Ev := fun σ h => (a σ h).vb (slotAt c i)
theorem s_slot {cc i : Nat} {f : Str} (F : Fit G X Z k) (ok : SlotOk G X cc f i) (ha : SE G X Z a ea) (hb : attributeBase ea f X.env (eval ea X.env) = eval ea X.env := by rfl) : SE G X Z (eSlot cc i a) (.Attribute ea f pos) := .mk fun m h H σ τ Q R S P => by
  refine WE.of (SlX.pe_sl peM hb) (ha m h H σ τ _ R S (PoE.ee P fun x h1 m1 H1 v1 e1 R1 r1 P1 => ?_))
  cases r1 <;> first | exact P1.elim | skip
  rename_i n hn
  unfold slotAt at P1
  simp only at P1
  split at P1
  · rename_i c' ws e
    split at P1
    · rename_i q
      subst q
      split at P1
      · rename_i w ew
        obtain ⟨dx, vs, hs, hv⟩ := slt_of R1 e
        obtain ⟨v, hv1, rv⟩ := hv i w ew
        obtain ⟨sc, p, sl⟩ := ok
        exact ⟨m1 n, _, dx, p, vs, i, v, rfl, hs, sc, sl, hv1, P1 m1 H1 v Ext.refl R1 rv⟩
      · exact P1.elim
    · exact P1.elim
  · exact P1.elim
def setSlot (c i : Nat) (x y : W) (σ : Sg) (h : IH) : Out := match x with
  | .ref n => (match h[n]? with
    | some (.slt c' ws) => if c' = c then .nx σ (h.set n (.slt c ((ws ++ List.replicate (i + 1 - ws.length) none).set i (some y)))) else .no
    | _ => .no)
  | _ => .no
def eSetS (c i : Nat) (o a : Ev) : Ev := fun σ h => (a σ h).vb fun y h1 => (o σ h1).vb fun x h2 => setSlot c i x y σ h2
theorem v_setS {cc i : Nat} {f : Str} {o : Ev} {eo : Expr} {pos' : Pos} (F : Fit G X Z k) (ok : SlotOk G X cc f i) (ho : SE G X Z o eo) (ha : SE G X Z a ea) (hs : swapsWith ea (some (.Attribute eo f pos')) pos.line X.env = pure false := by rfl) : SS G X Z (eSetS cc i o a) (.Assign [.Attribute eo f pos'] ea pos) := .mk fun m h H σ τ D R S P => by
  refine WS.of (SlX.ps_sl peM peM hs) (ha m h H σ τ _ R S (PoS.es P fun y h1 m1 H1 v1 e1 R1 r1 P1 => ?_))
  refine ho m1 h1 H1 σ τ _ R1 (S.mono e1) (PoS.es P1 fun x h2 m2 H2 v2 e2 R2 r2 P2 => ?_)
  have S2 := (S.mono e1).mono e2
  have ry := r1.mono e2
  clear P P1 r1
  cases r2 <;> first | exact P2.elim | skip
  rename_i n hn
  unfold setSlot at P2
  simp only at P2
  split at P2
  · rename_i c' ws e
    split at P2
    · rename_i q
      subst q
      obtain ⟨dx, vs, hsl, R3, E3⟩ := R2.putS e (i := i) ry
      obtain ⟨sc, p, sl⟩ := ok
      exact ⟨m2 n, _, dx, p, vs, i, rfl, hsl, sc, sl, P2 m2 _ τ E3 R3 (S2.mono E3)⟩
    · exact P2.elim
  · exact P2.elim
/-- methods of classes with slots -/
def MSOk (G : Cfg) (X : Cx) (k : Nat) (c : Nat) (nm : Str) (fn : Fn) (dw : List W) : Prop := ∃ f, SlX.SCls X.K (G.cl c) ∧ Meth X.K (G.cl c) nm f ∧ FOk G X k f fn dw
def recvS (c : Nat) (x : W) (h : IH) (q : Out) : Out := match x with
  | .ref n => (match h[n]? with
    | some (.slt c' _) => if c' = c then q else .no
    | _ => .no)
  | _ => .no
def eMethS (c : Nat) (fn : Fn) (dw : List W) (o r : Ev) : Ev := fun σ h => (o σ h).vb fun x h1 => recvS c x h1 ((r σ h1).vsb fun ws h2 => (fn (x :: ws ++ dw) h2).cb σ)
theorem recvS_at {cc : Nat} {x : W} {v : V} {m : Nat → Addr} {h : IH} {H : Hp} {q : Out} {Q : VK} (R : Rep G.K G.cl m h H) (r : RW G.K G.cl m h.length H x v) (P : PoE G m h.length H Z Q (recvS cc x h q)) :
    ∃ n dx vs, v = .ref (m n) ∧ SlX.Slt H (m n) (G.cl cc) dx vs ∧ PoE G m h.length H Z Q q := by
  cases r <;> first | exact P.elim | skip
  rename_i n hn
  unfold recvS at P
  simp only at P
  split at P
  · rename_i c' ws e
    split at P
    · rename_i q
      subst q
      obtain ⟨dx, vs, hs, _⟩ := slt_of R e
      exact ⟨n, dx, vs, rfl, hs, P⟩
    · exact P.elim
  · exact P.elim
theorem s_methS {cc : Nat} {nm : Str} {fn : Fn} {dw : List W} {o r : Ev} {eo e : Expr} {es : List Expr} {apos : Pos} {pl : Sem Bool} (F : Fit G X Z k) (ok : MSOk G X k cc nm fn dw) (ho : SE G X Z o eo) (hr : SA G X Z r (e :: es))
    (hst : starEach (e :: es) X.env = (false, eval e X.env) :: starEach es X.env := by rfl) (hpl : (backTo pos (starEach es X.env)).any (·.1) = false := by rfl)
    (ht : eval (.Call (.Attribute eo nm apos) (e :: es) [] pos) X.env = (do
      let ov ← eval eo X.env
      standAt apos.atName
      let (f, first) ← holding [ov] (getMethod ov nm pl)
      callWith pos f first (backTo pos (starEach (e :: es) X.env)) (backToKw pos (keywordEach [] X.env))) := by rfl) :
    SE G X Z (eMethS cc fn dw o r) (.Call (.Attribute eo nm apos) (e :: es) [] pos) := .mk fun m h H σ τ Q R S P pins s I => by
  refine PySem.W.methodCall_KW (pl := pl) (thn (ho m h H σ τ (fun v H1 => ∃ m1 h1 x, Ext G.K m h.length H m1 h1.length H1 ∧ Rep G.K G.cl m1 h1 H1 ∧ RW G.K G.cl m1 h1.length H1 x v ∧ PoE G m1 h1.length H1 Z Q (recvS cc x h1 ((r σ h1).vsb fun ws h2 => (fn (x :: ws ++ dw) h2).cb σ))) R S
    (PoE.ee P fun x h1 m1 H1 v e1 R1 r1 P1 => ⟨m1, h1, x, e1, R1, r1, P1⟩) pins s I) fun u s1 ⟨v, H1, I1, rv, m1, h1, x, e1, R1, r1, P1⟩ => ?_) ht
  obtain ⟨n, dx, vs, rfl, hsl, P2⟩ := recvS_at R1 r1 P1
  obtain ⟨f, c1, c2, c3⟩ := ok
  obtain rfl : u = Value.ref (m1 n) := rv
  refine SlX.getmethsl_ok I1 hsl c1 c2 ?_
  refine PySem.W.callWith_K (first := [.ref (m1 n)]) (h₀ := X.base) I.ok.mod.kin c2.kp ?_ hst hpl
  refine thn (hr m1 h1 H1 σ τ (fun vs H2 => ∃ m2 h2 ws, Ext G.K m1 h1.length H1 m2 h2.length H2 ∧ Rep G.K G.cl m2 h2 H2 ∧ RWs G.K G.cl m2 h2.length H2 ws vs ∧ PoE G m2 h2.length H2 Z Q ((fn (x :: ws ++ dw) h2).cb σ)) R1 (S.mono e1)
    (PoE.ae P2 fun ws h2 m2 H2 vs e2 R2 r2 P3 => ⟨m2, h2, ws, e2, R2, r2, P3⟩) pos pins s1 I1) fun us s2 ⟨vs, H2, I2, rvs, m2, h2, ws, e2, R2, r2, P3⟩ => ⟨I2.kIn, ?_⟩
  exact run_f (ws := x :: ws) F c3 R2 ((S.mono e1).mono e2) (.cons (r1.mono e2) r2) P3 I2 (.cons rfl rvs)
theorem s_methS0 {cc : Nat} {nm : Str} {fn : Fn} {dw : List W} {o : Ev} {eo : Expr} {apos : Pos} {pl : Sem Bool} (F : Fit G X Z k) (ok : MSOk G X k cc nm fn dw) (ho : SE G X Z o eo)
    (ht : eval (.Call (.Attribute eo nm apos) [] [] pos) X.env = (do
      let ov ← eval eo X.env
      standAt apos.atName
      let (f, first) ← holding [ov] (getMethod ov nm pl)
      callWith pos f first (backTo pos (starEach [] X.env)) (backToKw pos (keywordEach [] X.env))) := by rfl) :
    SE G X Z (eMethS cc fn dw o eNil) (.Call (.Attribute eo nm apos) [] [] pos) := .mk fun m h H σ τ Q R S P pins s I => by
  refine PySem.W.methodCall_KW (pl := pl) (thn (ho m h H σ τ (fun v H1 => ∃ m1 h1 x, Ext G.K m h.length H m1 h1.length H1 ∧ Rep G.K G.cl m1 h1 H1 ∧ RW G.K G.cl m1 h1.length H1 x v ∧ PoE G m1 h1.length H1 Z Q (recvS cc x h1 ((eNil σ h1).vsb fun ws h2 => (fn (x :: ws ++ dw) h2).cb σ))) R S
    (PoE.ee P fun x h1 m1 H1 v e1 R1 r1 P1 => ⟨m1, h1, x, e1, R1, r1, P1⟩) pins s I) fun u s1 ⟨v, H1, I1, rv, m1, h1, x, e1, R1, r1, P1⟩ => ?_) ht
  obtain ⟨n, dx, vs, rfl, hsl, P2⟩ := recvS_at R1 r1 P1
  obtain ⟨f, c1, c2, c3⟩ := ok
  obtain rfl : u = Value.ref (m1 n) := rv
  refine SlX.getmethsl_ok I1 hsl c1 c2 ?_
  exact PySem.W.callWith_K0 (first := [.ref (m1 n)]) I1.kIn c2.kp (run_f (ws := [x]) (vs := [.ref (m1 n)]) (us := [.ref (m1 n)]) F c3 R1 (S.mono e1) (.cons r1 .nil) P2 I1 (.cons rfl .nil))
/-! ### making an instance -/
def newObj (sl : Bool) (c : Nat) : IO := if sl then .slt c [] else .ins c []
def eNew (sl : Bool) (c : Nat) (fn : Fn) (dw : List W) (r : Ev) : Ev := fun σ h => (r σ h).vsb fun ws h1 => match fn (.ref h1.length :: ws ++ dw) (h1 ++ [newObj sl c]) with
  | .v .non h2 => .v (.ref h1.length) h2
  | .ex c w _ h2 => .ex c w σ h2
  | _ => .no
theorem run_new {sl : Bool} {cc : Nat} {f : Addr} {fn : Fn} {dw ws : List W} {τ : St} {σ : Sg} {m : Nat → Addr} {h : IH} {H : Hp} {vs : List V} {us : List Value} {Q : VK} {pins : List (Addr × Obj)} {s : Shared} (gd : X.A.guards = some []) (hr : Room (k + 1) X.A) (tk : Takes X Z) (M : Mk X.K (G.cl cc) f) (ok : FOk G X k f fn dw) (R : Rep G.K G.cl m h H) (S : RSt G m h.length H σ τ)
    (r : RWs G.K G.cl m h.length H ws vs) (P : PoE G m h.length H Z Q (match fn (.ref h.length :: ws ++ dw) (h ++ [newObj sl cc]) with
      | .v .non h2 => .v (.ref h.length) h2
      | .ex c w _ h2 => .ex c w σ h2
      | _ => .no)) (I : Inv X pins τ H s) (rv : Vals vs us) : wpAny (model X.prog X.w) X.A (call (.ref (G.cl cc)) us) (EP X pins τ Q) X.xe s := by
  obtain ⟨fd, ps, ds, dvs, Fo, hb, hd, hw, ar⟩ := ok
  have fr0 : H s.heap.objs.size = none := I.hok.fresh (Nat.le_refl _)
  have fr1 : H (s.heap.objs.size + 1) = none := I.hok.fresh (Nat.le_succ _)
  have ne01 : s.heap.objs.size + 1 ≠ s.heap.objs.size := Nat.succ_ne_self _
  have I2 := Inv.made (C := G.cl cc) I
  obtain ⟨Ra, Ea⟩ := R.aside (q := s.heap.objs.size) (o := .own (s.heap.objs.size + 1)) fr0
  have fr1' : upd H s.heap.objs.size (.own (s.heap.objs.size + 1)) (s.heap.objs.size + 1) = none := by rw [upd_ne ne01]; exact fr1
  obtain ⟨Rb, Eb⟩ := Ra.push (q := s.heap.objs.size + 1) (u := .ins (G.cl cc) s.heap.objs.size []) (o := newObj sl cc) fr1' (by
    cases sl with
    | false => exact ⟨_, _, upd_same, .nil⟩
    | true => exact ⟨_, [], .inl ⟨upd_same, rfl, by rw [upd_ne (Ne.symm ne01), upd_same]⟩, fun i w z => by simp at z⟩)
  have E2 := Ea.trans Eb
  have last : ext1 m h.length (s.heap.objs.size + 1) h.length = s.heap.objs.size + 1 := by unfold ext1; rw [if_pos rfl]
  have rn : RW G.K G.cl (ext1 m h.length (s.heap.objs.size + 1)) (h ++ [newObj sl cc]).length (upd (upd H s.heap.objs.size (.own (s.heap.objs.size + 1))) (s.heap.objs.size + 1) (.ins (G.cl cc) s.heap.objs.size [])) (.ref h.length) (.ref (s.heap.objs.size + 1)) := by
    have q := RW.ref (K := G.K) (cl := G.cl) (m := ext1 m h.length (s.heap.objs.size + 1)) (L := (h ++ [newObj sl cc]).length) (H := upd (upd H s.heap.objs.size (.own (s.heap.objs.size + 1))) (s.heap.objs.size + 1) (.ins (G.cl cc) s.heap.objs.size [])) h.length (by simp)
    rw [last] at q; exact q
  have r2 := RWs.cons rn ((r.mono E2).append (hw (ext1 m h.length (s.heap.objs.size + 1)) (h ++ [newObj sl cc]).length (upd (upd H s.heap.objs.size (.own (s.heap.objs.size + 1))) (s.heap.objs.size + 1) (.ins (G.cl cc) s.heap.objs.size []))))
  have rv2 : Vals (V.ref (s.heap.objs.size + 1) :: (vs ++ dvs)) (Value.ref (s.heap.objs.size + 1) :: (us ++ ds)) := .cons rfl (rv.append hd)
  by_cases hl : (W.ref h.length :: ws ++ dw).length = ps.length
  · have sp : spC G ps.length fn (V.ref (s.heap.objs.size + 1) :: (vs ++ dvs)) (upd (upd H s.heap.objs.size (.own (s.heap.objs.size + 1))) (s.heap.objs.size + 1) (.ins (G.cl cc) s.heap.objs.size [])) (fun v H2 => v = .non ∧ Q (.ref (s.heap.objs.size + 1)) H2) (fun cls d H' => Z cls d τ H') := by
      refine ⟨_, _, _, hl, Rb, r2, ?_⟩
      cases e : fn (.ref h.length :: ws ++ dw) (h ++ [newObj sl cc]) with
      | v w h' =>
        rw [e] at P
        intro m' H' v e' R' r'
        cases w <;> first | exact P.elim | skip
        cases r'
        refine ⟨rfl, P m' H' _ (E2.trans e') R' ?_⟩
        have q := rn.mono e'
        exact q
      | ex c w s h' => rw [e] at P; exact fun m' H' d v e' R' r' hd' => P m' H' d v τ (E2.trans e') R' r' ((S.mono E2).mono e') hd'
      | vs w h => rw [e] at P; exact P
      | nx s h => rw [e] at P; exact P
      | rt w h => rw [e] at P; exact P
      | bk s h => rw [e] at P; exact P
      | ct s h => rw [e] at P; exact P
      | no => rw [e] at P; exact P
    have hl2 : (Value.ref (s.heap.objs.size + 1) :: us ++ ds).length = ps.length := by
      have z := rv2.length
      have z2 := r2.length
      have hl' : (W.ref h.length :: (ws ++ dw)).length = ps.length := hl
      rw [z2] at hl'
      rw [z] at hl'
      exact hl'
    refine wpAny_call (make_map (f := f) I.kIn M.makes M.init (beq_iff_eq.mp M.fn) (codeAny_mono (Fo.go _ X.stack _ _ ⟨Value.ref (s.heap.objs.size + 1) :: us, []⟩ (Value.ref (s.heap.objs.size + 1) :: (us ++ ds)) _ _ _ (by first | exact gd | (simpa [Around.under, Code.guards, Code.isGuard, pushGuards] using gd)) (hr.make (G.cl cc) us [])
      (I2.env0.make (G.cl cc) us []) (hb _ (Value.ref (s.heap.objs.size + 1) :: us) I2.kIn hl2) rv2 sp) fun r s' hq' => ?_))
    cases r with
    | error e => exact passAt tk τ pins _ _ e s' I2 hq'
    | ok fl =>
      cases fl with
      | ret u =>
        obtain ⟨v, H', I3, rv, ev, q3⟩ := I2.after hq'
        subst ev
        exact ⟨rv, ⟨V.ref (s.heap.objs.size + 1), H', I3, rfl, q3⟩⟩
      | next => exact False.elim hq'
      | brk => exact False.elim hq'
      | cont => exact False.elim hq'
  · rw [ar _ (h ++ [newObj sl cc]) hl] at P
    exact False.elim P
theorem s_new {x : Str} {sl : Bool} {cc : Nat} {f : Addr} {fn : Fn} {dw : List W} {r : Ev} {e : Expr} {es : List Expr} {p : Pos} (F : Fit G X Z (k + 1)) (M : Mk X.K (G.cl cc) f) (ok : FOk G X k f fn dw) (hm : X.mg x = some (.ref (G.cl cc))) (hr : SA G X Z r (e :: es)) (hg : Gl X x := by rfl)
    (hdb : (x == ("__debug__" : Str)) = false := by decide) (he : starEach (e :: es) X.env = (false, eval e X.env) :: starEach es X.env := by rfl) (hpl : (backTo pos (starEach es X.env)).any (·.1) = false := by rfl) :
    SE G X Z (eNew sl cc fn dw r) (.Call (.Name x p) (e :: es) [] pos) := .mk fun m h H σ τ Q R S P pins s I => by
  refine wpAny_Call_Name_kw (ld_glob I hg hm ?_ hdb)
  refine PySem.W.callWith_K (h₀ := X.base) I.ok.mod.kin M.kp ?_ he hpl
  refine thn (hr m h H σ τ (fun vs H1 => ∃ m1 h1 ws, Ext G.K m h.length H m1 h1.length H1 ∧ Rep G.K G.cl m1 h1 H1 ∧ RWs G.K G.cl m1 h1.length H1 ws vs ∧ PoE G m1 h1.length H1 Z Q (match fn (.ref h1.length :: ws ++ dw) (h1 ++ [newObj sl cc]) with
      | .v .non h2 => .v (.ref h1.length) h2
      | .ex c w _ h2 => .ex c w σ h2
      | _ => .no)) R S
    (PoE.ae P fun ws h1 m1 H1 vs e1 R1 r1 P1 => ⟨m1, h1, ws, e1, R1, r1, P1⟩) pos pins s I) fun us s1 ⟨vs, H1, I1, rv, m1, h1, ws, e1, R1, r1, P1⟩ => ⟨I1.kIn, run_new F.gd F.room F.tk M ok R1 (S.mono e1) r1 P1 I1 rv⟩
end
end Dr
set_option maxHeartbeats 2000000
/-! An own error whose __init__ says super().__init__('..') and keeps its argument under a name. -/
namespace PySem
namespace XeX
open PySem.W PySem.Calls PyProof.Rows PySem.HandSPX Builtin Builtin.ObjectAttr
/-- own classes ahead of the built-in's own row -/
def tailIs (bm : List Value) : List Value → Bool
  | .ref _ :: r => tailIs bm r
  | l => l == bm
def typesOnly : List Value → Bool
  | [] => true
  | .type _ :: r => typesOnly r
  | _ => false
theorem tail_ind {bm : List Value} {P : List Value → Prop} (h0 : P bm) (h1 : ∀ c r, P r → P (.ref c :: r)) : ∀ l, tailIs bm l = true → P l
  | [], e => by rw [show ([] : List Value) = bm from beq_iff_eq.mp e]; exact h0
  | a :: r, e => by
    cases a with
    | ref c => exact h1 c r (tail_ind h0 h1 r e)
    | _ => have q := beq_iff_eq.mp (show ((_ :: r) == bm) = true from e); rw [q]; exact h0
theorem tail_pass {B : String} {bm : List Value} (SF : StoreFacts B bm "object.__setattr__" "object") (self : Value) (l : List Value) (h : tailIs bm l = true) : refuseLoop self "__setattr__" l = pure () :=
  tail_ind (P := fun l => refuseLoop self "__setattr__" l = pure ()) (SF.passes self) (fun c r ih => by rw [refuseLoop_ref]; exact ih) l h
theorem tail_has {bm : List Value} (X : String) (l : List Value) (h : tailIs bm l = true) : l.contains (.type X) = bm.contains (.type X) :=
  tail_ind (P := fun l => l.contains (.type X) = bm.contains (.type X)) rfl (fun c r ih => by rw [List.contains_cons, ih]; rfl) l h
section
variable {prog : Program} {w : World} {A : Around} {R : Result → Shared → Prop} {hp : Heap} {g : Array GenState} {d : Drawn} {t : Nat} {os : OsState}
/-- the first attribute of a fresh error is stored -/
theorem xosa {B : String} {bm : List Value} (SF : StoreFacts B bm "object.__setattr__" "object") {K : Frag} {name : Str} {tk : Tok} {v : Value} {x C : Addr} {fv : Array Value} {cd : ClassData}
    (X : K.In hp) (hx : hp.get? x = some { cls := .ref C, data := .fields fv }) (hcd : clsIn K C = some cd) (hm : tailIs bm cd.mro = true) (hne : cd.mro.isEmpty = false) (hh : cd.hasDict = true) (ha : findIn K (.ref C) name = some none)
    (hq : ∀ h' tk' dx, (∀ b o, b ≠ x → hp.get? b = some o → h'.get? b = some o) → hp.objs.size ≤ dx → dx ≠ x → h'.get? x = some { cls := .ref C, dict := some dx, data := .fields fv } →
      h'.Ns1 dx (fun y => if y = name then some v else none) → R (.ok (.ret .none)) ⟨h', g, d, tk', os⟩) :
    codeAny (model prog w) A (.call (.builtin "object.__setattr__") ⟨[.ref x, .str name tk, v], []⟩) R ⟨hp, g, d, t, os⟩ := by
  have I : InstAt hp x { cls := .ref C, data := .fields fv } C none := ⟨hx, rfl, rfl, trivial⟩
  have S0 := F.store_object
  have hob : cd.mro.contains (.type "object") = true := (tail_has "object" _ hm).trans SF.hasOwner
  have hxs : x ≠ hp.objs.size := Nat.ne_of_lt (Heap.lt_size hx)
  have sub : Looks (model prog w) hp (isInstance (.ref x) (.type "object")) true := I.type.andThen (looks_mroIn X (by
    unfold mroIn
    rw [hcd, Option.bind_some, if_neg (by rw [hne]; decide), hob]))
  have hmr : Looks (model prog w) hp (mroOf (.ref C)) cd.mro := (looks_clsIn X hcd).andThen .now
  have L3 : Looks (model prog w) hp (storeTaker? none) none := .now
  have hcls : Looks (model prog w) hp (classData C) cd := looks_clsIn X hcd
  refine codeAny_call_builtin S0.slot.plain S0.entry (@check_slot (model prog w) _ _ ⟨hp, g, d, t, os⟩ "object.__setattr__" "object" "__setattr__" (.ref x) [.str name tk, v] [] _ S0.kind S0.split sub (S0.args (.ref x) (.str name tk) v) ?_)
  rw [osa_eq, refuse_eq]
  refine wpAny_bind (wpAny_bind (I.type.at (wpAny_bind (hmr.at ?_))))
  rw [tail_pass SF _ _ hm]
  refine wpAny_pure (wpAny_bind (I.type.at (wpAny_bind ((looks_findIn X ha).at (wpAny_bind (L3.at ?_))))))
  show wpAny _ _ (storeInOwnDict (.ref x) (.ref C) (.str name tk) name v false) _ _ _
  obtain ⟨nm, bs, mro, ns, qn, hd, sn, sb, ab, col, del⟩ := cd
  dsimp only at hh
  subst hh
  unfold storeInOwnDict ownDictForStores
  repeat (first | with_reducible refine store_in_new ?_ ?_ | with_reducible refine wpAny_loadPart_at hx ?_ | with_reducible refine hcls.at ?_ | wp_step)
  · exact ⟨_, #[], _, (Heap.get?_update_ne _ _ _ _ hxs.symm).trans (Heap.get?_push_at rfl rfl), rfl, fun e he => absurd he (by simp), fun _ => rfl⟩
  · intro h' tk' hn' hs
    have hx1 : (hp.push { cls := .type "dict", data := .dict #[] }).get? x = some { cls := .ref C, data := .fields fv } := Heap.get?_push_of_some _ hx
    exact hq h' tk' hp.objs.size (fun b o hb ho => (hs.2 b (Nat.ne_of_lt (Heap.lt_size ho))).trans ((Heap.get?_update_ne _ _ _ _ hb).trans (Heap.get?_push_of_some _ ho))) (Nat.le_refl _) hxs.symm
      ((hs.2 x hxs).trans (Heap.get?_update_self _ hx1 rfl)) hn'
/-- the bound built-in __init__ is called: the args are laid anew -/
theorem call_mw {B newId i : String} {bmB bm : List Value} (FB : ExcBaseFacts B newId i bmB) {nm q : Str} {C N u x t0 : Addr} {bs : List Value} {hdct : Bool} {sn : List Str} {sub : List Value} {ab : Bool} {col : Option Bool} {dd : Option Addr} {k0 k1 k2 k3 k5 : Option Value} {rest : List Value} {E : Value → Shared → Prop} {Q : Value → Shared → Prop}
    (hC : hp.get? C = some (excClassObj nm q C N bs bm hdct sn sub ab col dd k0 k1 k2 k3 k5 newId)) (hu : hp.get? u = some (kxs_mw i x)) (hx : hp.get? x = some (excO C t0)) (hz : rest.length ≤ sizeLine)
    (hq : ∀ h' t', (∀ b o, b ≠ x → hp.get? b = some o → h'.get? b = some o) → h'.get? x = some (excO C t') → Q .none ⟨h', g, d, t, os⟩) : wpAny (model prog w) A (call (.ref u) rest) Q E ⟨hp, g, d, t, os⟩ := by
  refine wpAny_call (codeAny_of_tree ?_)
  show wpAny _ A.in1 (callAny (.ref u) ⟨rest, []⟩) _ _ _
  simp only [callAny]
  refine wpAny_bind (wpAny_load hu ?_)
  simp only [kxs_mw, show (Value.type "method-wrapper" == Value.type "method" || Value.type "method-wrapper" == Value.type "builtin_function_or_method" || Value.type "method-wrapper" == Value.type "method-wrapper") = true by decide, if_true]
  refine KFB.if_so (by decide) ?_
  refine wpAny_bind (check_bound_init FB.toExcCallFacts hC hx rfl ?_)
  refine wpAny_bind (wpAny_pure (wpAny_pure ?_))
  refine ⟨plainId_quiet FB.init.plain _, codeAny_builtin FB.initEntry ?_⟩
  exact exc_init_tree (cls := .ref C) (t0 := t0) (dv := none) (c2 := .none) (c3 := .none) (b4 := .bool false) hx hz fun h' k e' _ => hq h' _ k e'
end
/-- the text of such an __init__ -/
def iB (msg fld prm : Str) (j : Nat) (p0 p1 p2 p3 p4 p5 q1 q2 q3 q4 : Pos) : List Stmt :=
  [.Expr (.Call (.Attribute (.Call (.Name "super" p0) [] [] p1) "__init__" p2) [.Constant (.str msg) j p3] [] p4) p5, .Assign [.Attribute (.Name "self" q1) fld q2] (.Name prm q3) q4]
abbrev iSc (names : List (Str × NameKind)) : Scope := { kind := .function, names := names, isGenerator := false, isCoroutine := false, more := [] }
theorem ev_super {msg : Str} {j : Nat} {p0 p1 p2 p3 p4 : Pos} {env : Env} (hl : (p2.endLine == p4.line) = true) :
    eval (.Call (.Attribute (.Call (.Name "super" p0) [] [] p1) "__init__" p2) [.Constant (.str msg) j p3] [] p4) env = (do
      let ov ← attributeBase (.Call (.Name "super" p0) [] [] p1) "__init__" env (eval (.Call (.Name "super" p0) [] [] p1) env)
      standAt p2.atName
      let (f, first) ← holding [ov] (getMethod ov "__init__" (do return (← importBound (.Call (.Name "super" p0) [] [] p1) env).getD true))
      callWith p4 f first (backTo p4 (starEach [.Constant (.str msg) j p3] env)) []) := by
  have e : ∀ few, methodCallPos few (.Call (.Name "super" p0) [] [] p1) env p2 p4 = pure p4 := fun few => by
    unfold methodCallPos
    rw [hl]
    simp
  show (do
    let ov ← attributeBase (.Call (.Name "super" p0) [] [] p1) "__init__" env (eval (.Call (.Name "super" p0) [] [] p1) env)
    standAt p2.atName
    methodCall (.Call (.Name "super" p0) [] [] p1) "__init__" p2 p4 env ov (1 + 0) (backTo p4 (starEach [.Constant (.str msg) j p3] env)) (backToKw p4 (keywordEach [] env))) = _
  unfold methodCall
  simp only [e]
  rfl
/-- what the written part says of the class at C -/
structure XT (prog : Program) (K : Frag) (mg : Str → Option Value) (C fI : Addr) (x fld : Str) (B newId i : String) (bmB : List Value) : Prop where
  fb : ExcBaseFacts B newId i bmB
  sf : StoreFacts B bmB "object.__setattr__" "object"
  kf : KxsFacts B i
  gC : mg x = some (.ref C)
  gS : mg "super" = none
  cls : ∃ nm q N bs bm sn sub ab col dd k0 k1 k2 k3 k5, K.lookup C = some (excClassObj nm q C N bs bm true sn sub ab col dd k0 k1 k2 k3 k5 newId) ∧ tailIs bmB bm = true
  sa : findIn K (.ref C) "__setattr__" = some (some (.builtin "object.__setattr__"))
  noN : findIn K (.ref C) fld = some none
  iC : findIn K (.ref C) "__init__" = some (some (.ref fI))
  tC : typeIn K (.ref fI) = some (.type "function")
  kC : keepIn K (.ref C) = true
  exC : subIn K (.ref C) (.type "BaseException") = some true
  tyC : typeIn K (.ref C) = some (.type "type")
  sub : subIn K (.ref C) (.type B) = some true
  own : mroIn K C (.ref C) = some true
  sup : ks_superIn K C C "__init__" = some (some (.builtin i))
  opq : nsIn K cStatics "thirdparty.any" = some none
  top : (prog.main.scope.names.lookup ("super" : Str)).isSome = false
  fn : ∃ (oc : Value) (od : Option Addr) (doc pm : Value) (an : Option Addr) (cc cda : Addr) (ct : Value) (osl : Array (Option Value)) (qual msg prm : Str) (params : Arguments) (names : List (Str × NameKind)) (j : Nat) (p0 p1 p2 p3 p4 p5 q1 q2 q3 q4 : Pos) (cl ccl : Value) (cld cdd : Option Addr) (csl ccs : Array (Option Value)) (vs : Array Value) (file : Str) (tf : Tok) (ar : Arg),
    K.lookup fI = some ⟨oc, od, .func (fnX "__init__" qual params (iB msg fld prm j p0 p1 p2 p3 p4 p5 q1 q2 q3 q4) (iSc names) [("__class__", cc)] .none .none doc pm an (.ref cda) ct), osl⟩ ∧ codeIn K (.ref cda) qual = true ∧
    K.lookup cc = some ⟨cl, cld, .cell (some (.ref C)), csl⟩ ∧ K.lookup cda = some ⟨ccl, cdd, .fields vs, ccs⟩ ∧ vs[2]? = some (.str file tf) ∧ ((prog.main.file : Str) == file) = true ∧ (p2.endLine == p4.line) = true ∧
    (params.posonlyargs ++ params.args).head? = some ar ∧ ar.arg = "self" ∧ names.lookup ("super" : Str) = some .globalImplicit ∧ names.lookup ("__class__" : Str) = some .free ∧ names.lookup ("self" : Str) = some .local ∧ names.lookup prm = some .local ∧
    (∀ y ∈ names, y.2 ≠ .cell) ∧ (prm == ("__debug__" : Str)) = false ∧ prm ≠ "self" ∧
    ∀ (s : Shared) (a b : Value), BindsTo s (fnX "__init__" qual params (iB msg fld prm j p0 p1 p2 p3 p4 p5 q1 q2 q3 q4) (iSc names) [("__class__", cc)] .none .none doc pm an (.ref cda) ct) ⟨[a, b], []⟩ [("self", a), (prm, b)]
/-- a made error -/
structure Made (h h' : Heap) (e C d : Addr) (fld : Str) (v : Value) : Prop where
  keep : ∀ b o, h.get? b = some o → h'.get? b = some o
  new : h.objs.size ≤ e
  obj : ∃ oe vs, h'.get? e = some oe ∧ oe.cls = .ref C ∧ oe.dict = some d ∧ oe.data = .fields vs ∧ vs[1]? = some .none
  dbig : h.objs.size ≤ d
  dne : d ≠ e
  ns : h'.Ns1 d (fun y => if y = fld then some v else none)
structure InitEnd (h h' : Heap) (x C dx : Addr) (fld : Str) (v : Value) : Prop where
  keep : ∀ b o, b ≠ x → h.get? b = some o → h'.get? b = some o
  obj : ∃ t1, h'.get? x = some { cls := .ref C, dict := some dx, data := .fields #[.ref t1, .none, .none, .none, .bool false, .none] }
  dbig : h.objs.size ≤ dx
  dne : dx ≠ x
  ns : h'.Ns1 dx (fun y => if y = fld then some v else none)
section
variable {prog : Program} {w : World} {A : Around} {R : Result → Shared → Prop} {s : Shared} {K : Frag} {mg : Str → Option Value} {C fI : Addr} {xn fld : Str} {B newId i : String} {bmB : List Value}
theorem clsIn_of (T : XT prog K mg C fI xn fld B newId i bmB) : ∃ cd, clsIn K C = some cd ∧ tailIs bmB cd.mro = true ∧ cd.mro.isEmpty = false ∧ cd.hasDict = true := by
  obtain ⟨nm, q, N, bs, bm, sn, sub, ab, col, dd, k0, k1, k2, k3, k5, hC, hbm⟩ := T.cls
  refine ⟨{ name := nm, bases := bs, mro := .ref C :: bm, ns := N, qualname := q, hasDict := true, slotNames := sn, subclasses := sub, abstract := ab, collection := col, hasDel := false }, ?_, hbm, rfl, rfl⟩
  unfold clsIn
  rw [hC] <;> rfl
theorem x_init (T : XT prog K mg C fI xn fld B newId i bmB) {x t0 : Addr} {v : Value} (X : K.In s.heap) (hg : s.heap.Ns mainGlobals mg) (hb : ∃ mb, s.heap.Ns builtinsNs mb ∧ ∀ y : Str, y ≠ "__name__" → mb y = bootBuiltins y) (hlim : s.heap.NoLimit)
    (hx : s.heap.get? x = some (excO C t0)) (hnK : ∀ o, K.lookup x = some o → False) (hroom : A.depth < recursionLimit)
    (hq : ∀ h' tk dx, InitEnd s.heap h' x C dx fld v → R (.ok (.ret .none)) { s with heap := h', toks := tk }) :
    codeAny (model prog w) A (.call (.ref fI) ⟨[.ref x, v], []⟩) R s := by
  obtain ⟨oc, od, doc, pm, an, cc, cda, ct, osl, qual, msg, prm, params, names, j, p0, p1, p2, p3, p4, p5, q1, q2, q3, q4, cl, ccl, cld, cdd, csl, ccs, vs, file, tf, ar, lf, hcode, lcc, lcda, hvs, hfile, hline, hp, har, ksup, kcl, kself, kprm, kcell, hdb, hpn, hbind⟩ := T.fn
  obtain ⟨cd, hcd, hmro, hmne, hmhd⟩ := clsIn_of T
  obtain ⟨nm, q, N, bs, bm, sn, sub, ab, col, dd, k0, k1, k2, k3, k5, hC, hbm⟩ := T.cls
  refine ks_codeAny_call_defAt hroom (X _ _ lf) rfl hlim (codeRec_of X hcode) rfl (hbind _ _ _) kcell (fun y hy => ?_) (fun h0 hns hk => ?_)
  · rcases List.mem_cons.mp hy with rfl | hy
    · exact kself
    · rcases List.mem_cons.mp hy with rfl | hy
      · exact kprm
      · cases hy
  have X0 : K.In h0 := X.keeps hk
  have hx0 := hk _ _ hx
  have lxs : x < s.heap.objs.size := Heap.lt_size hx
  obtain ⟨mb, hbn, hbb⟩ := hb
  have hself : h0.Ns s.heap.objs.size (fun y => ([(("self" : Str), Value.ref x), (prm, v)] : List (Str × Value)).reverse.lookup y) := hns
  have lself : (([(("self" : Str), Value.ref x), (prm, v)] : List (Str × Value)).reverse.lookup ("self" : Str)) = some (Value.ref x) := by
    have : (("self" : Str) == prm) = false := by simpa using Ne.symm hpn
    simp [List.lookup, this]
  have lprm : (([(("self" : Str), Value.ref x), (prm, v)] : List (Str × Value)).reverse.lookup prm) = some v := by
    simp [List.lookup]
  obtain ⟨oD, hD1, hD2⟩ : ∃ oD, h0.get? C = some oD ∧ oD.data = .cls cd := by
    unfold clsIn at hcd
    split at hcd
    · rename_i c d cd' sl ho
      cases hcd
      exact ⟨_, X0 _ _ ho, rfl⟩
    · cases hcd
  have hnc : ∀ c, (excO C t0).data ≠ .cls c := fun c e => by cases e
  have I0 : InstAt h0 x (excO C t0) C none := ⟨hx0, rfl, rfl, trivial⟩
  refine ks_wpAt_execs_cons (ks_wpAt_Expr_any ?_)
  refine' ks_wpAt_MethodCall (pl := ?pl) ?hh ?ev
  case ev => exact ev_super hline
  refine ks_wpAt_super_base ksup kcl (by decide +kernel) rfl (X0 _ _ lf) rfl hp rfl (X0 _ _ lcda) rfl hvs hfile T.top ?_
  rw [har]
  refine ks_loadName_global rfl ksup (loadGlobal_builtin (hg.keeps hk) T.gS (hbn.keeps hk) ((hbb _ (by decide +kernel)).trans (by decide +kernel)) ⟨rfl, ?_⟩)
  refine wpAny_loadName_free rfl kcl rfl ⟨_, X0 _ _ lcc, rfl⟩ ?_
  refine wpAny_loadName_local rfl kself hself lself ?_
  refine ks_wpAny_isType_cls hD1 hD2 ⟨rfl, ?_⟩
  refine ks_wpAny_call_super hD1 hD2 hx0 rfl hnc (looks_mroIn X0 T.own) (fun h1 e1 k1 => ?_)
  have X1 : K.In h1 := X0.keeps k1
  have hx1 := k1 _ _ hx0
  have I1 : InstAt h1 x (excO C t0) C none := ⟨hx1, rfl, rfl, trivial⟩
  have supf := T.sup
  unfold ks_superIn at supf
  rw [hcd] at supf
  refine kxs_getMethod T.kf e1 (looks_opaque X1 T.opq) (l₀ := cd.mro) (fun A Q E s k q => wpAny_bind ((looks_clsIn X1 hcd) A _ E s k (wpAny_pure q))) rfl X1 supf (I1.type.andThen (looks_subIn X1 T.sub)) (ks_ne X1 I1 hcd) (by decide +kernel) ?_
  have k2 : ∀ b o, h1.get? b = some o → (h1.push (kxs_mw i x)).get? b = some o := fun b o e => Heap.get?_push_of_some _ e
  have hu2 : (h1.push (kxs_mw i x)).get? h1.objs.size = some (kxs_mw i x) := Heap.get?_push_at rfl rfl
  refine kxs_callWith (i := i) (x := x) rfl (evalArgs_plain (spliced_cons (Constant_str (k := j) (pos := p3) (spliced_nil ⟨hu2, ?_⟩))))
  have X2 : K.In (h1.push (kxs_mw i x)) := X1.keeps k2
  refine call_mw T.fb (X2 _ _ hC) hu2 (k2 _ _ hx1) (by show 1 ≤ sizeLine; rw [sizeLine_eq]; decide) fun h3 t3 k3 hx3 => ?_
  have big : s.heap.objs.size < h0.objs.size := hns.lt
  have kk : ∀ b o, b ≠ x → h0.get? b = some o → h3.get? b = some o := fun b o hb e => k3 b o hb (k2 b o (k1 b o e))
  have nLx : s.heap.objs.size ≠ x := Nat.ne_of_gt lxs
  have hns3 : h3.Ns s.heap.objs.size (fun y => ([(("self" : Str), Value.ref x), (prm, v)] : List (Str × Value)).reverse.lookup y) := by
    obtain ⟨o, es, ep, ho, r⟩ := hself
    exact ⟨o, es, ep, kk _ _ nLx ho, r⟩
  have nKx : K.lookup x = none := by
    cases e : K.lookup x with
    | none => rfl
    | some o =>
      exfalso
      exact hnK o e
  have X3 : K.In h3 := fun b o e => kk b o (fun z => by rw [z, nKx] at e; cases e) (X0 b o e)
  show wpAt _ _ _ (execs _ _) _ _ _
  refine ks_wpAt_execs_cons (ks_wpAt_Assign_Attr (wpAt_of_wpAny (wpAny_Name (wpAny_loadName_local rfl kprm hns3 lprm ?_) hdb)))
  refine wpAny_Name (wpAny_loadName_local rfl kself hns3 lself ?_) (by decide +kernel)
  refine set_plain X3 (ox := excO C t3) (od := none) ⟨hx3, rfl, rfl, trivial⟩ T.sa ?_
  refine xosa T.sf X3 hx3 hcd hmro hmne hmhd T.noN (fun h4 tk4 dx k4 dn dne hx4 hn4 => ?_)
  refine wpAt_of_wpAny (wpAny_execs_nil ?_)
  have sz : s.heap.objs.size ≤ h3.objs.size := by
    obtain ⟨o, _, _, ho, _⟩ := hns3
    exact Nat.le_of_lt (Heap.lt_size ho)
  exact hq h4 tk4 dx ⟨fun b o hb e => k4 b o hb (kk b o hb (hk b o e)), ⟨t3, hx4⟩, Nat.le_trans sz dn, dne, hn4⟩
theorem x_made (T : XT prog K mg C fI xn fld B newId i bmB) {v : Value} (X : K.In s.heap) (hg : s.heap.Ns mainGlobals mg) (hb : ∃ mb, s.heap.Ns builtinsNs mb ∧ ∀ y : Str, y ≠ "__name__" → mb y = bootBuiltins y) (hlim : s.heap.NoLimit) (hroom : A.depth + 1 < recursionLimit)
    (hq : ∀ h' tk e d, Made s.heap h' e C d fld v → R (.ok (.ret (.ref e))) { s with heap := h', toks := tk }) :
    codeAny (model prog w) A (.call (.ref C) ⟨[v], []⟩) R s := by
  obtain ⟨nm, q, N, bs, bm, sn, sub, ab, col, dd, k0, k1, k2, k3, k5, hC, hbm⟩ := T.cls
  obtain ⟨hp, g, dr, tk, os⟩ := s
  have k : ∀ b o, hp.get? b = some o → ((hp.push (kdv_tup [v])).push (excO C hp.objs.size)).get? b = some o := fun b o e => Heap.get?_push_of_some _ (Heap.get?_push_of_some _ e)
  have hget : ((hp.push (kdv_tup [v])).push (excO C hp.objs.size)).get? (hp.objs.size + 1) = some (excO C hp.objs.size) := by heap_get
  have hnx : ∀ o, K.lookup (hp.objs.size + 1) = some o → False := fun o e => absurd (Nat.lt_of_succ_lt (Heap.lt_size (show hp.get? (hp.objs.size + 1) = some o from X _ _ e))) (Nat.lt_irrefl _)
  have one : [v].length ≤ sizeLine := by rw [sizeLine_eq]; exact (by decide : 1 ≤ 16777216)
  refine call_own T.fb (fun X => tail_has X bm hbm) (X _ _ hC) (looks_findIn X T.iC) (fun self => bind_fn X self T.tC) one ?_
  obtain ⟨mb, b1, b2⟩ := hb
  refine x_init (s := ⟨(hp.push (kdv_tup [v])).push (excO C hp.objs.size), g, dr, tk, os⟩) T (X.keeps k) (hg.keeps k) ⟨mb, b1.keeps k, b2⟩ (hlim.keeps k) hget hnx ?_ fun h' tk' dx ⟨k', ⟨t1, hx⟩, dn, dne, hns⟩ => ?_
  · show A.depth + 1 < recursionLimit
    exact hroom
  · have old : ∀ b o, hp.get? b = some o → h'.get? b = some o := fun b o e => k' b o (Nat.ne_of_lt (Nat.lt_succ_of_lt (Heap.lt_size e))) (k b o e)
    have z : hp.objs.size + 1 + 1 ≤ dx := by
      first
        | (simpa only [Heap.size_push] using dn)
        | exact dn
        | (have q := dn; rw [Heap.size_push, Heap.size_push] at q; exact q)
    exact ⟨rfl, hq h' tk' (hp.objs.size + 1) dx ⟨old, Nat.le_succ _, ⟨_, _, hx, rfl, rfl, rfl, rfl⟩, Nat.le_trans (Nat.le_trans (Nat.le_succ _) (Nat.le_succ _)) z, dne, hns⟩⟩
end
end XeX
end PySem
namespace Dr
open PySem L2
/-- an error's class, as the small language knows it -/
def XOk (G : Cfg) (X : Cx) (c : Nat) (x : Str) : Prop := ∃ fI B newId i bmB, PySem.XeX.XT X.prog X.K X.mg (G.cl c) fI x (G.fn c) B newId i bmB
def eRaise (c : Nat) (a : Ev) : Ev := fun σ h => (a σ h).vb fun w h1 => .ex c w σ h1
section
variable {G : Cfg} {X : Cx} {Z : WX} {k : Nat} {a : Ev} {ea : Expr} {pos : Pos}
theorem relO_x {v : V} {v' : Value} (fld : Str) (r : RelV v v') (f : Str) : RelO (List.lookup f [(fld, v)]) (if f = fld then some v' else none) := by
  by_cases hw : f = fld
  · subst hw
    rw [if_pos rfl]
    have q : List.lookup f [(f, v)] = some v := by simp [List.lookup]
    rw [q]
    exact r
  · rw [if_neg hw]
    have qw : (f == fld) = false := by simpa using hw
    have q2 : List.lookup f [(fld, v)] = none := by simp [List.lookup, qw]
    rw [q2]
    trivial
theorem pmk_x {c : Nat} {x : Str} {p : Pos} (ok : XOk G X c x) (hr : Room k X.A) (hg : Gl X x) (hdb : (x == ("__debug__" : Str)) = false) (he : starEach (ea :: []) X.env = (false, eval ea X.env) :: starEach [] X.env)
    (hpl : (backTo pos (starEach [] X.env)).any (·.1) = false) :
    PMk X (.Call (.Name x p) [ea] [] pos) (fun σ H Q => WE X ea σ H fun v H1 => ∀ d, H1 d = none → Q (.ref (G.cl c)) (some d) (upd H1 d (.xd [(G.fn c, v)]))) := by
  obtain ⟨fI, B, newId, i, bmB, T⟩ := ok
  intro pins s σ H Q I h
  refine wpAny_Call_Name_kw (ld_glob I hg T.gC ?_ hdb)
  refine PySem.W.callWith_K (h₀ := X.base) I.ok.mod.kin T.kC ?_ he hpl
  refine thn ((pa_cons (peM (X := X) (e := ea)) pa_nil he).run pos pins s σ H (fun vs H1 => ∃ v, vs = [v] ∧ ∀ d, H1 d = none → Q (.ref (G.cl c)) (some d) (upd H1 d (.xd [(G.fn c, v)]))) I (fun pins s I => thn (h pins s I) fun u s1 ⟨v, H1, I1, r1, q1⟩ => ⟨v, H1, I1, r1, v, rfl, q1⟩)) fun us s1 hh => ?_
  obtain ⟨vs, H1, I1, r1, v, ev, q1⟩ := hh
  subst ev
  refine ⟨I1.kIn, ?_⟩
  cases r1 with
  | cons rv rn =>
    rename_i v' us'
    cases rn
    show wpAny _ _ (call (.ref (G.cl c)) [v']) _ _ _
    have hlim := I1.nolimit
    have hglob := I1.mod.glob.keeps I1.bk
    obtain ⟨mb, b1, b2⟩ := I1.mod.blt
    have hblt := b1.keeps I1.bk
    obtain ⟨hp, g, dr, tk, os⟩ := s1
    refine wpAny_call (PySem.XeX.x_made T I1.kIn hglob ⟨mb, hblt, b2⟩ hlim (by have := hr.dp; omega) fun h' tk' e d M => ?_)
    show MkP X pins σ Q (.ref e) ⟨h', g, dr, tk', os⟩
    obtain ⟨oe, fv, hoe, hc, hd, hdat, h1⟩ := M.obj
    have hns := M.ns
    obtain ⟨G', g1, g2⟩ := restrict h' fun b => decide (b ≠ e)
    have gk : ∀ b, b ≠ e → G'.get? b = h'.get? b := fun b hb => g1 b (decide_eq_true hb)
    have ge : G'.get? e = none := g2 e (by simp)
    have old : ∀ b o, hp.get? b = some o → G'.get? b = some o := fun b o q => (gk b (Nat.ne_of_lt (Nat.lt_of_lt_of_le (Heap.lt_size q) M.new))).trans (M.keep b o q)
    have ob : ObjOk X.prog X.w (upd H1 d (.xd [(G.fn c, v)])) G' d (.xd [(G.fn c, v)]) := ⟨_, hns.at (fun o q => (gk d M.dne).trans q), fun f => relO_x _ rv f⟩
    have J : Inv X pins σ (upd H1 d (.xd [(G.fn c, v)])) ⟨G', g, dr, tk', os⟩ := I1.laid (t' := tk') old M.dbig ob
    refine ⟨e, oe, fv, ⟨G', g, dr, tk', os⟩, _, .ref (G.cl c), some d, rfl, J, fun b o q => ?_, ge, hoe, ⟨hc, hd⟩, hdat, h1, ?_, rfl, I1.bare, raises_own T.exC T.tyC, q1 d (I1.hok.fresh M.dbig)⟩
    · by_cases hb : b = e
      · have q' : G'.get? b = some o := q
        rw [hb, ge] at q'; cases q'
      · exact (gk b hb).symm.trans q
    · rw [upd_ne (Ne.symm M.dne)]
      exact I1.hok.fresh M.new
theorem v_raise {c : Nat} {x : Str} {p pos2 : Pos} (F : Fit G X Z k) (ok : XOk G X c x) (ha : SE G X Z a ea) (hg : Gl X x := by rfl) (hdb : (x == ("__debug__" : Str)) = false := by decide) (he : starEach (ea :: []) X.env = (false, eval ea X.env) :: starEach [] X.env := by rfl)
    (hpl : (backTo pos (starEach [] X.env)).any (·.1) = false := by rfl) : SS G X Z (eRaise c a) (.Raise (some (.Call (.Name x p) [ea] [] pos)) none pos2) := .mk fun m h H σ τ D R S P => by
  refine WS.of (ps_raise F.calm F.tk (pmk_x ok F.room hg hdb he hpl)) (ha m h H σ τ _ R S (PoS.es P fun w h1 m1 H1 v e1 R1 r1 P1 => fun d hd => ?_))
  obtain ⟨R2, E2⟩ := R1.aside (q := d) (o := .xd [(G.fn c, v)]) hd
  exact P1 m1 _ d v τ E2 R2 (r1.mono E2) ((S.mono e1).mono E2) upd_same
end
end Dr
namespace Dr
open PySem L2

/-! ### data -/
def mapO {α β : Type} (f : α → Option β) : List α → Option (List β)
  | [] => some []
  | a :: as => match f a, mapO f as with
    | some b, some bs => some (b :: bs)
    | _, _ => none
def dat (h : IH) : Nat → W → Option PyData
  | 0, _ => none
  | n + 1, w => match w with
    | .non => some .none
    | .bl b => some (.bool b)
    | .int i => some (.int i)
    | .str x => some (.str x)
    | .tup ws => (match mapO (dat h n) ws with | some ds => some (.tuple ds) | none => none)
    | .ref a => (match lstAt h a with
      | some ws => (match mapO (dat h n) ws with | some ds => some (.list ds) | none => none)
      | none => none)
    | .cls _ => none
section
variable {G : Cfg} {X : Cx} {Z : WX} {k : Nat} {a b c : Ev} {ea eb ec : Expr} {pos : Pos}
theorem dp_of {m : Nat → Addr} {h : IH} {H : Hp} (R : Rep G.K G.cl m h H) : ∀ (n : Nat) (w : W) (v : V) (d : PyData), RW G.K G.cl m h.length H w v → dat h n w = some d → Dp G.K H v d
  | 0, _, _, _, _, e => by cases e
  | n + 1, w, v, d, r, e => by
    have all : ∀ (ws : List W) (vs : List V) (ds : List PyData), RWs G.K G.cl m h.length H ws vs → mapO (dat h n) ws = some ds → DpAll G.K H vs ds := by
      intro ws
      induction ws with
      | nil => intro vs ds r e; cases r; cases e; exact .nil
      | cons w ws ih =>
        intro vs ds r e
        cases r with
        | cons r1 r2 =>
          unfold mapO at e
          cases q1 : dat h n w with
          | none => rw [q1] at e; cases e
          | some d1 =>
            cases q2 : mapO (dat h n) ws with
            | none => rw [q1, q2] at e; cases e
            | some ds2 => rw [q1, q2] at e; cases e; exact .cons (dp_of R n w _ d1 r1 q1) (ih _ _ r2 q2)
    cases r with
    | non => cases e; exact .non
    | bl b => cases e; exact .bl b
    | int i => cases e; exact .int i
    | str x => cases e; exact .str x
    | tup hp hv =>
      unfold dat at e
      simp only at e
      split at e
      · rename_i ds q
        cases e
        exact .tup hp (all _ _ _ hv q)
      · cases e
    | ref a ha =>
      unfold dat at e
      simp only at e
      split at e
      · rename_i ws q
        obtain ⟨vs, hx, hv⟩ := lstAt_of R q
        split at e
        · rename_i ds q'
          cases e
          exact .lst hx (all _ _ _ hv q')
        · cases e
      · cases e
    | cls c => cases e
/-! ### == and != -/
def lenQ (x y : W) (h : IH) : Option Bool := match x, y with
  | .ref p, .ref q => (match lstAt h p, lstAt h q with
    | some xs, some ys => if xs.length ≠ ys.length then some false else if xs.length = 0 then some true else none
    | _, _ => none)
  | _, _ => none
mutual
def eqF : PyData → PyData → Bool
  | .str x, .str y => eqS x y
  | .list xs, .list ys => eqFs xs ys
  | .tuple xs, .tuple ys => eqFs xs ys
  | .none, b => PyData.eqv .none b
  | .bool a, b => PyData.eqv (.bool a) b
  | .int a, b => PyData.eqv (.int a) b
  | _, _ => false
def eqFs : List PyData → List PyData → Bool
  | [], [] => true
  | x :: xs, y :: ys => eqF x y && eqFs xs ys
  | _, _ => false
end
mutual
theorem eqF_eq : ∀ d e : PyData, eqF d e = PyData.eqv d e
  | .str x, e => by
    cases e <;> simp only [eqF, PyData.eqv, eqS_eq]
    rename_i y
    by_cases q : x = y
    · subst q; simp
    · simp [q]
  | .list xs, e => by cases e <;> simp only [eqF, PyData.eqv, eqFs_eq xs]
  | .tuple xs, e => by cases e <;> simp only [eqF, PyData.eqv, eqFs_eq xs]
  | .none, e => by simp only [eqF]
  | .bool a, e => by simp only [eqF]
  | .int a, e => by simp only [eqF]
  | .dict a, e => by cases e <;> simp only [eqF, PyData.eqv]
theorem eqFs_eq : ∀ ds es : List PyData, eqFs ds es = PyData.eqvAll ds es
  | [], es => by cases es <;> simp only [eqFs, PyData.eqvAll]
  | d :: ds, es => by cases es <;> simp only [eqFs, PyData.eqvAll, eqF_eq d, eqFs_eq ds]
end
mutual
def shF : PyData → Bool
  | .none | .bool _ | .int _ => true
  | .str x => x.cps.toList.all fun c => Nat.blt c 0x110000
  | .list xs | .tuple xs => shFs xs
  | .dict _ => false
def shFs : List PyData → Bool
  | [] => true
  | x :: xs => shF x && shFs xs
end
mutual
theorem shF_eq : ∀ d : PyData, shF d = d.canLay0
  | .none => by simp only [shF, PyData.canLay0]
  | .bool _ => by simp only [shF, PyData.canLay0]
  | .int _ => by simp only [shF, PyData.canLay0]
  | .str x => by
    simp only [shF, PyData.canLay0, PyData.strOk]
    rw [← Array.all_toList]
    congr 1
    funext c
    by_cases h : c < 0x110000
    · rw [decide_eq_true h]; exact (Nat.blt_eq).mpr h
    · rw [decide_eq_false h]
      cases e : Nat.blt c 0x110000 with
      | false => rfl
      | true => exact absurd ((Nat.blt_eq).mp e) h
  | .list xs => by simp only [shF, PyData.canLay0, shFs_eq xs]
  | .tuple xs => by simp only [shF, PyData.canLay0, shFs_eq xs]
  | .dict _ => by simp only [shF, PyData.canLay0]
theorem shFs_eq : ∀ ds : List PyData, shFs ds = PyData.canLayAll0 ds
  | [] => by simp only [shFs, PyData.canLayAll0]
  | d :: ds => by simp only [shFs, PyData.canLayAll0, shF_eq d, shFs_eq ds]
end
def shaped' (d : PyData) : Bool := shF d && decide (d.depth ≤ 64)
theorem shaped_eq (d : PyData) : shaped' d = SeqAt.shaped d := by unfold shaped' SeqAt.shaped; rw [shF_eq]
def eqD (x y : W) (h : IH) : Option Bool := match x, y with
  | .str a, .str b => some (eqS a b)
  | .int i, .int j => some (decide (i = j))
  | _, _ => match lenQ x y h with
    | some b => some b
    | none => match dat h 40 x, dat h 40 y with
      | some d, some e => if shaped' d = true ∧ shaped' e = true then some (eqF d e) else none
      | _, _ => none
def oEq (x y : W) (h : IH) : Out := match eqD x y h with | some b => .v (.bl b) h | none => .no
def oNe (x y : W) (h : IH) : Out := match eqD x y h with | some b => .v (.bl (!b)) h | none => .no
theorem isList_of {m : Nat → Addr} {h : IH} {H : Hp} {pins : List (Addr × Obj)} {σ : St} {s : Shared} {a : Addr} {xs : List V} (I : Inv X pins σ H s) (hx : SqL X.K H a xs) : ∃ its : List Value, Vals xs its ∧ s.heap.IsList a its.toArray := by
  obtain ⟨its, rv, ⟨o, n, ho, hc, _, hd⟩, _⟩ := I.list hx
  exact ⟨its, rv, o, ho, hc, n, hd⟩
def rLen (K : PySem.W.Frag) (neg : Bool) : R2 := fun x y H Q => ∃ p q xs ys b, x = .ref p ∧ y = .ref q ∧ SqL K H p xs ∧ SqL K H q ys ∧ ((xs.length ≠ ys.length ∧ b = false) ∨ (xs = [] ∧ ys = [] ∧ b = true)) ∧ Q (.bl (if neg then !b else b)) H
theorem op_lenE (hu : X.A.units < cLine) : OpR X (compareOp .Eq) (rLen X.K false) := by
  intro pins s σ H x y v u Q I rx ry h
  obtain ⟨p, q, xs, ys, b, rfl, rfl, hx, hy, hb, hq⟩ := h
  cases rx; cases ry
  obtain ⟨is, r1, l1⟩ := isList_of (m := fun _ => 0) (h := []) I hx
  obtain ⟨js, r2, l2⟩ := isList_of (m := fun _ => 0) (h := []) I hy
  rcases hb with ⟨hne, rfl⟩ | ⟨rfl, rfl, rfl⟩
  · exact SeqAt.eq_list_lengthsAt l1 l2 (by rw [List.size_toArray, List.size_toArray, ← r1.length, ← r2.length]; simpa using hne) hu ⟨.bl false, H, I, rfl, hq⟩
  · cases r1; cases r2
    exact SeqAt.eq_listAt (e := fun _ => true) l1 l2 rfl hu (fun j h1 _ => absurd h1 (by simp)) ⟨.bl true, H, I, rfl, hq⟩
theorem op_lenN (hu : X.A.units < cLine) : OpR X (compareOp .NotEq) (rLen X.K true) := by
  intro pins s σ H x y v u Q I rx ry h
  obtain ⟨p, q, xs, ys, b, rfl, rfl, hx, hy, hb, hq⟩ := h
  cases rx; cases ry
  obtain ⟨is, r1, l1⟩ := isList_of (m := fun _ => 0) (h := []) I hx
  obtain ⟨js, r2, l2⟩ := isList_of (m := fun _ => 0) (h := []) I hy
  rcases hb with ⟨hne, rfl⟩ | ⟨rfl, rfl, rfl⟩
  · exact SeqAt.RcNeAt.lists_lengths l1 l2 (by rw [List.size_toArray, List.size_toArray, ← r1.length, ← r2.length]; simpa using hne) hu X.prog X.w X.xe _ ⟨.bl true, H, I, rfl, hq⟩
  · cases r1; cases r2
    exact SeqAt.RcNeAt.lists (e := fun _ => true) l1 l2 rfl hu (fun j h1 _ => absurd h1 (by simp)) X.prog X.w X.xe _ ⟨.bl false, H, I, rfl, hq⟩
theorem eqD_cases {m : Nat → Addr} {h : IH} {H : Hp} {x y : W} {vx vy : V} {q : Bool} (F : Fit G X Z k) (R : Rep G.K G.cl m h H) (rx : RW G.K G.cl m h.length H x vx) (ry : RW G.K G.cl m h.length H y vy) (e : eqD x y h = some q) :
    (scal vx vy = true ∧ q = decide (vx = vy)) ∨ (∃ p r xs ys, vx = .ref p ∧ vy = .ref r ∧ SqL X.K H p xs ∧ SqL X.K H r ys ∧ ((xs.length ≠ ys.length ∧ q = false) ∨ (xs = [] ∧ ys = [] ∧ q = true))) ∨
    ∃ d e, Dp X.K H vx d ∧ Dp X.K H vy e ∧ SeqAt.shaped d = true ∧ SeqAt.shaped e = true ∧ q = PyData.eqv d e := by
  have deep : (match lenQ x y h with
    | some b => some b
    | none => match dat h 40 x, dat h 40 y with
      | some d, some e => if shaped' d = true ∧ shaped' e = true then some (eqF d e) else none
      | _, _ => none) = some q → (∃ p r xs ys, vx = .ref p ∧ vy = .ref r ∧ SqL X.K H p xs ∧ SqL X.K H r ys ∧ ((xs.length ≠ ys.length ∧ q = false) ∨ (xs = [] ∧ ys = [] ∧ q = true))) ∨
    ∃ d e, Dp X.K H vx d ∧ Dp X.K H vy e ∧ SeqAt.shaped d = true ∧ SeqAt.shaped e = true ∧ q = PyData.eqv d e := fun e => by
    cases el : lenQ x y h with
    | some b =>
      rw [el] at e
      cases e
      left
      unfold lenQ at el
      split at el
      · rename_i p r
        split at el
        · rename_i xs ys e1 e2
          obtain ⟨us, hx, hu⟩ := lstAt_of R e1
          obtain ⟨ws, hy, hw⟩ := lstAt_of R e2
          cases rx; cases ry
          refine ⟨_, _, us, ws, rfl, rfl, F.K ▸ hx, F.K ▸ hy, ?_⟩
          rw [← hu.length, ← hw.length]
          split at el
          · rename_i ne
            cases el
            exact .inl ⟨ne, rfl⟩
          · rename_i ne
            split at el
            · rename_i z
              cases el
              have z1 : us.length = 0 := by rw [← hu.length]; exact z
              have z2 : ws.length = 0 := by rw [← hw.length]; omega
              exact .inr ⟨List.length_eq_zero_iff.mp z1, List.length_eq_zero_iff.mp z2, rfl⟩
            · cases el
        · cases el
      · cases el
    | none =>
      rw [el] at e
      simp only at e
      right
      cases d1 : dat h 40 x with
      | none => rw [d1] at e; cases e
      | some d =>
        cases d2 : dat h 40 y with
        | none => rw [d1, d2] at e; cases e
        | some d' =>
          rw [d1, d2] at e
          simp only at e
          split at e
          · rename_i sh
            cases e
            exact ⟨d, d', F.K ▸ dp_of R 40 x vx d rx d1, F.K ▸ dp_of R 40 y vy d' ry d2, shaped_eq d ▸ sh.1, shaped_eq d' ▸ sh.2, eqF_eq d d'⟩
          · cases e
  cases rx <;> cases ry <;> first
    | (right; exact deep e)
    | (cases e; exact .inl ⟨rfl, by simp [V.str.injEq, V.int.injEq, eqS_eq]⟩)
theorem so_eq (F : Fit G X Z k) : SO G X (compareOp .Eq) oEq := .mk fun m h H x y vx vy Z' Q R rx ry P => by
  unfold oEq at P
  cases e : eqD x y h with
  | none => rw [e] at P; exact P.elim
  | some q =>
    rw [e] at P
    have hq := P m H _ Ext.refl R (.bl q)
    rcases eqD_cases F R rx ry e with ⟨s, rfl⟩ | ⟨p, r, xs, ys, rfl, rfl, hx, hy, hb⟩ | ⟨d, d', h1, h2, s1, s2, rfl⟩
    · exact ⟨_, op_eq, s, hq⟩
    · exact ⟨_, op_lenE F.room.units0, p, r, xs, ys, q, rfl, rfl, hx, hy, hb, hq⟩
    · exact ⟨_, op_eqD F.room.units, d, d', h1, h2, s1, s2, hq⟩
theorem so_ne (F : Fit G X Z k) : SO G X (compareOp .NotEq) oNe := .mk fun m h H x y vx vy Z' Q R rx ry P => by
  unfold oNe at P
  cases e : eqD x y h with
  | none => rw [e] at P; exact P.elim
  | some q =>
    rw [e] at P
    have hq := P m H _ Ext.refl R (.bl (!q))
    rcases eqD_cases F R rx ry e with ⟨s, rfl⟩ | ⟨p, r, xs, ys, rfl, rfl, hx, hy, hb⟩ | ⟨d, d', h1, h2, s1, s2, rfl⟩
    · exact ⟨_, op_ne, s, hq⟩
    · exact ⟨_, op_lenN F.room.units0, p, r, xs, ys, q, rfl, rfl, hx, hy, hb, hq⟩
    · exact ⟨_, op_neD F.room.units, d, d', h1, h2, s1, s2, hq⟩
end
end Dr
namespace Dr
open PySem L2

section
variable {G : Cfg} {X : Cx} {Z : WX} {k : Nat} {a b c : Ev} {ea eb ec : Expr} {pos : Pos}
/-! ### in, not in -/
def W.fl : W → Option V
  | .non => some .non
  | .bl b => some (.bl b)
  | .int i => some (.int i)
  | .str x => some (.str x)
  | _ => none
theorem fl_of {m : Nat → Addr} {L : Nat} {H : Hp} {w : W} {v u : V} (r : RW G.K G.cl m L H w v) (e : w.fl = some u) : v = u ∧ flatV v = true := by
  cases r <;> first | (cases e; exact ⟨rfl, rfl⟩) | cases e
theorem fls_of {m : Nat → Addr} {L : Nat} {H : Hp} : ∀ {ws : List W} {vs us : List V}, RWs G.K G.cl m L H ws vs → mapO W.fl ws = some us → vs = us ∧ vs.all flatV = true
  | _, _, _, .nil, e => by cases e; exact ⟨rfl, rfl⟩
  | _, _, _, .cons (w := w) (ws := ws) r1 r2, e => by
    unfold mapO at e
    cases q1 : w.fl with
    | none => rw [q1] at e; cases e
    | some u =>
      cases q2 : mapO W.fl ws with
      | none => rw [q1, q2] at e; cases e
      | some us =>
        rw [q1, q2] at e
        cases e
        obtain ⟨rfl, f1⟩ := fl_of r1 q1
        obtain ⟨rfl, f2⟩ := fls_of r2 q2
        exact ⟨rfl, by simp [f1, f2]⟩
def eqVF : V → V → Bool
  | .str a, .str b => eqS a b
  | a, b => eqV a b
theorem eqVF_eq (a b : V) : eqVF a b = eqV a b := by
  cases a <;> cases b <;> first | rfl | skip
  rename_i x y
  show eqS x y = (x == y)
  rw [eqS_eq]
  by_cases e : x = y
  · subst e; simp
  · simp [e]
def memL (q : Nat) : List Nat → Bool
  | [] => false
  | c :: r => if Nat.beq q c = true then true else memL q r
theorem memL_eq (q : Nat) : ∀ l : List Nat, memL q l = decide (q ∈ l)
  | [] => by simp [memL]
  | c :: r => by
    unfold memL
    rw [memL_eq q r]
    by_cases e : q = c
    · subst e; rw [if_pos (Nat.beq_refl q)]; simp
    · rw [if_neg (fun z => e (Nat.eq_of_beq_eq_true z))]; simp [e]
def seqIn (x : W) (ws : List W) : Option Bool := match x.fl, mapO W.fl ws with
  | some v, some vs => some (vs.any fun y => eqVF y v)
  | _, _ => none
def inD (x : W) (ws : List W) (h : IH) : Option Bool := match dat h 40 x, mapO (dat h 39) ws with
  | some d, some ds => if shaped' d = true ∧ shaped' (.list ds) = true then some (ds.any fun z => eqF z d) else none
  | _, _ => none
def isIn (x y : W) (h : IH) : Option Bool := match y with
  | .str z => (match x with
    | .str s => (match s.cps.toList with | [q] => some (memL q z.cps.toList) | _ => none)
    | _ => none)
  | .tup ws => seqIn x ws
  | .ref n => (match lstAt h n with
    | some ws => (match seqIn x ws with
      | some b => some b
      | none => inD x ws h)
    | none => none)
  | _ => none
def oIn (x y : W) (h : IH) : Out := match isIn x y h with | some b => .v (.bl b) h | none => .no
def oNotIn (x y : W) (h : IH) : Out := match isIn x y h with | some b => .v (.bl (!b)) h | none => .no
theorem isIn_cases {m : Nat → Addr} {h : IH} {H : Hp} {x y : W} {vx vy : V} {q : Bool} (F : Fit G X Z k) (R : Rep G.K G.cl m h H) (rx : RW G.K G.cl m h.length H x vx) (ry : RW G.K G.cl m h.length H y vy) (e : isIn x y h = some q) :
    (∃ (c : Nat) (z : Str), vx = .str ⟨#[c]⟩ ∧ vy = .str z ∧ q = decide (c ∈ z.cps.toList)) ∨ (∃ p xs, vy = .ref p ∧ (SqL X.K H p xs ∨ SqT X.K H p xs) ∧ flatV vx = true ∧ xs.all flatV = true ∧ q = inV vx xs) ∨
      ∃ d ds, Dp X.K H vx d ∧ Dp X.K H vy (.list ds) ∧ SeqAt.shaped d = true ∧ SeqAt.shaped (.list ds) = true ∧ q = ds.any fun z => PyData.eqv z d := by
  have seq : ∀ ws us, RWs G.K G.cl m h.length H ws us → seqIn x ws = some q → flatV vx = true ∧ us.all flatV = true ∧ q = inV vx us := fun ws us ru e => by
    unfold seqIn at e
    cases q1 : x.fl with
    | none => rw [q1] at e; cases e
    | some v =>
      cases q2 : mapO W.fl ws with
      | none => rw [q1, q2] at e; cases e
      | some vs =>
        rw [q1, q2] at e
        cases e
        obtain ⟨rfl, f1⟩ := fl_of rx q1
        obtain ⟨rfl, f2⟩ := fls_of ru q2
        exact ⟨f1, f2, by show _ = List.any _ _; simp only [eqVF_eq]⟩
  unfold isIn at e
  cases ry with
  | str z =>
    simp only at e
    split at e
    · rename_i s
      split at e
      · rename_i q' eq
        cases e
        cases rx
        refine .inl ⟨q', z, ?_, rfl, memL_eq _ _⟩
        obtain ⟨⟨l⟩⟩ := s
        have eq' : l = [q'] := eq
        rw [eq']
      · cases e
    · cases e
  | tup hp hv =>
    obtain ⟨f1, f2, f3⟩ := seq _ _ hv e
    exact .inr (.inl ⟨_, _, rfl, .inr (F.K ▸ hp), f1, f2, f3⟩)
  | ref n hn =>
    simp only at e
    split at e
    · rename_i ws el
      obtain ⟨us, hx, hu⟩ := lstAt_of R el
      split at e
      · rename_i b' es
        cases e
        obtain ⟨f1, f2, f3⟩ := seq _ _ hu es
        exact .inr (.inl ⟨_, us, rfl, .inl (F.K ▸ hx), f1, f2, f3⟩)
      · unfold inD at e
        cases d1 : dat h 40 x with
        | none => rw [d1] at e; cases e
        | some d =>
          cases d2 : mapO (dat h 39) ws with
          | none => rw [d1, d2] at e; cases e
          | some ds =>
            rw [d1, d2] at e
            simp only at e
            split at e
            · rename_i sh
              cases e
              refine .inr (.inr ⟨d, ds, F.K ▸ dp_of R 40 x vx d rx d1, F.K ▸ dp_of R 40 (.ref n) _ (.list ds) (.ref n hn) ?_, shaped_eq d ▸ sh.1, shaped_eq (.list ds) ▸ sh.2, by simp only [eqF_eq]⟩)
              show (match lstAt h n with | some ws => (match mapO (dat h 39) ws with | some ds => some (PyData.list ds) | none => none) | none => none) = _
              rw [el]
              simp only [d2]
            · cases e
    · cases e
  | non => cases e
  | bl b => cases e
  | int i => cases e
  | cls c => cases e
theorem so_in (F : Fit G X Z k) : SO G X (compareOp .In) oIn := .mk fun m h H x y vx vy Z' Q R rx ry P => by
  unfold oIn at P
  cases e : isIn x y h with
  | none => rw [e] at P; exact P.elim
  | some q =>
    rw [e] at P
    have hq := P m H _ Ext.refl R (.bl q)
    rcases isIn_cases F R rx ry e with ⟨c, z, rfl, rfl, rfl⟩ | ⟨p, xs, rfl, hp, f1, f2, rfl⟩ | ⟨d, ds, h1, h2, s1, s2, rfl⟩
    · exact ⟨_, op_in_sign, c, z, rfl, rfl, hq⟩
    · exact ⟨_, op_in_seq, p, xs, rfl, hp, f1, f2, hq⟩
    · exact ⟨_, op_inD (by have := F.room.un; omega), d, ds, h1, h2, s1, s2, hq⟩
theorem so_notIn (F : Fit G X Z k) : SO G X (compareOp .NotIn) oNotIn := .mk fun m h H x y vx vy Z' Q R rx ry P => by
  unfold oNotIn at P
  cases e : isIn x y h with
  | none => rw [e] at P; exact P.elim
  | some q =>
    rw [e] at P
    have hq := P m H _ Ext.refl R (.bl (!q))
    rcases isIn_cases F R rx ry e with ⟨c, z, rfl, rfl, rfl⟩ | ⟨p, xs, rfl, hp, f1, f2, rfl⟩ | ⟨d, ds, h1, h2, s1, s2, rfl⟩
    · exact ⟨_, op_notIn_sign, c, z, rfl, rfl, hq⟩
    · exact ⟨_, op_notIn_seq, p, xs, rfl, hp, f1, f2, hq⟩
    · exact ⟨_, op_notInD (by have := F.room.un; omega), d, ds, h1, h2, s1, s2, hq⟩
/-! ### methods of built-in types -/
def WM (X : Cx) (id : String) : V → List V → Hp → VK → Prop := fun x vs H Q => ∃ r, MtR X id r ∧ r x vs H Q
theorem pmM {id : String} : MtR X id (WM X id) := fun pins s σ H x xs v us Q I rx rv h => let ⟨_, o, q⟩ := h; o pins s σ H x xs v us Q I rx rv q
structure SM (G : Cfg) (X : Cx) (T id : String) (g : W → List W → IH → Out) : Prop where
  go : ∀ m h H x vx ws vs Z Q, Rep G.K G.cl m h H → RW G.K G.cl m h.length H x vx → RWs G.K G.cl m h.length H ws vs → PoE G m h.length H Z Q (g x ws h) → WM X id vx vs H Q
instance {G : Cfg} {X : Cx} {T id : String} {g : W → List W → IH → Out} : CoeFun (SM G X T id g) (fun _ => ∀ m h H x vx ws vs Z Q, Rep G.K G.cl m h H → RW G.K G.cl m h.length H x vx → RWs G.K G.cl m h.length H ws vs → PoE G m h.length H Z Q (g x ws h) → WM X id vx vs H Q) := ⟨SM.go⟩
/-- the receiver is of the type -/
def tyW (T : String) (x : W) (h : IH) : Bool := match x with
  | .str _ => T == "str"
  | .ref n => (T == "list" && (lstAt h n).isSome) || (T == "dict" && (match h[n]? with | some (.dic _) => true | _ => false))
  | _ => false
theorem tyW_of {m : Nat → Addr} {h : IH} {H : Hp} {T : String} {x : W} {v : V} (F : Fit G X Z k) (R : Rep G.K G.cl m h H) (r : RW G.K G.cl m h.length H x v) (e : tyW T x h = true) : tyV X.K T v H := by
  unfold tyW at e
  cases r <;> simp only at e <;> first | (cases e; done) | skip
  · exact eq_of_beq e
  · rename_i n hn
    rcases Bool.or_eq_true_iff.mp e with e | e
    · have e := Bool.and_eq_true_iff.mp e
      cases q : lstAt h n with
      | none => rw [q] at e; cases e.2
      | some ws =>
        obtain ⟨vs, hx, _⟩ := lstAt_of R q
        exact .inl ⟨eq_of_beq e.1, vs, F.K ▸ hx⟩
    · have e := Bool.and_eq_true_iff.mp e
      have e2 := e.2
      split at e2
      · rename_i kvs q
        obtain ⟨vs, hx, _⟩ := R.obj n _ q
        exact .inr (.inr (.inl ⟨eq_of_beq e.1, .inl ⟨vs, hx⟩⟩))
      · cases e2
def eBM (T : String) (g : W → List W → IH → Out) (o r : Ev) : Ev := fun σ h => (o σ h).vb fun x h1 => if tyW T x h1 = true then (r σ h1).vsb fun ws h2 => g x ws h2 else .no
theorem s_bm {T id : String} {name : Str} {g : W → List W → IH → Out} {o r : Ev} {eo e : Expr} {es : List Expr} {apos : Pos} (F : Fit G X Z k) (pa : PlainAttrs T) (slot : Slot T name id) (hty : typeOf (.builtin id) = pure (.type "method_descriptor")) (hm : SM G X T id g) (ho : SE G X Z o eo) (hr : SA G X Z r (e :: es))
    (hbase : attributeBase eo name X.env (eval eo X.env) = eval eo X.env := by rfl)
    (hfew : ((backTo pos (starEach (e :: es) X.env)).all (fun x => !x.1) && (backToKw pos (keywordEach [] X.env)).all (fun x => x.1.isSome)
      && decide ((e :: es).length + ([] : List Keyword).length + (if ([] : List Keyword).isEmpty then 0 else 1) < 30)) = true := by rfl)
    (hline : (apos.endLine == pos.line) = true := by rfl) (hs : starEach (e :: es) X.env = (false, eval e X.env) :: starEach es X.env := by rfl) (hplain : (backTo pos (starEach es X.env)).any (·.1) = false := by rfl) :
    SE G X Z (eBM T g o r) (.Call (.Attribute eo name apos) (e :: es) [] pos) := .mk fun m h H σ τ Q R S P => by
  refine WE.of (pe_bm pa slot hty pmM peM paM hbase hfew hline hs hplain) (ho m h H σ τ _ R S (PoE.ee P fun x h1 m1 H1 v1 e1 R1 r1 P1 => ?_))
  split at P1
  · rename_i q
    refine ⟨tyW_of F R1 r1 q, hr m1 h1 H1 σ τ _ R1 (S.mono e1) (PoE.ae P1 fun ws h2 m2 H2 vs e2 R2 r2 P2 => ?_)⟩
    exact hm m2 h2 H2 x v1 ws vs Z Q R2 (r1.mono e2) r2 P2
  · exact P1.elim
theorem s_bm0 {T id : String} {name : Str} {g : W → List W → IH → Out} {o : Ev} {eo : Expr} {apos : Pos} (F : Fit G X Z k) (pa : PlainAttrs T) (slot : Slot T name id) (hty : typeOf (.builtin id) = pure (.type "method_descriptor")) (hm : SM G X T id g) (ho : SE G X Z o eo)
    (hbase : attributeBase eo name X.env (eval eo X.env) = eval eo X.env := by rfl) (hline : (apos.endLine == pos.line) = true := by rfl) :
    SE G X Z (eBM T g o eNil) (.Call (.Attribute eo name apos) [] [] pos) := .mk fun m h H σ τ Q R S P => by
  refine WE.of (pe_bm0 pa slot hty pmM peM hbase hline) (ho m h H σ τ _ R S (PoE.ee P fun x h1 m1 H1 v1 e1 R1 r1 P1 => ?_))
  split at P1
  · rename_i q
    exact ⟨tyW_of F R1 r1 q, hm m1 h1 H1 x v1 [] [] Z Q R1 r1 .nil P1⟩
  · exact P1.elim
def mAppend (x : W) (ws : List W) (h : IH) : Out := match x, ws with
  | .ref n, [y] => (match h[n]? with
    | some (.lst xs) => if xs.length < 16777216 then .v .non (h.set n (.lst (xs ++ [y]))) else .no
    | _ => .no)
  | _, _ => .no
theorem put_lst {m : Nat → Addr} {h : IH} {H : Hp} {n : Nat} {ws ws' : List W} {vs vs' : List V} (R : Rep G.K G.cl m h H) (e : h[n]? = some (.lst ws)) (hx : H (m n) = some (.lst vs)) (hv : RWs G.K G.cl m h.length H ws' vs') :
    Rep G.K G.cl m (h.set n (.lst ws')) (upd H (m n) (.lst vs')) ∧ Ext G.K m h.length H m (h.set n (.lst ws')).length (upd H (m n) (.lst vs')) :=
  R.put e (noTup_of hx (fun _ z => by cases z) (fun _ _ z => by cases z)) (fun ex => ⟨_, upd_same, hv.mono ex⟩)
theorem m_append : SM G X "list" "list.append" mAppend := .mk fun m h H x vx ws vs Z Q R rx r P => by
  unfold mAppend at P
  split at P
  · rename_i n y
    split at P
    · rename_i xs e
      split at P
      · rename_i q
        obtain ⟨us, hx, hu⟩ := R.obj n _ e
        cases rx
        cases r with
        | cons r1 r2 =>
          cases r2
          obtain ⟨R', E'⟩ := put_lst R e hx (hu.append (.cons r1 .nil))
          exact ⟨_, mt_append, m n, us, _, rfl, rfl, hx, by rw [← hu.length, lineSz]; exact q, P m _ _ E' R' .non⟩
      · exact P.elim
    · exact P.elim
  · exact P.elim
def mPop (x : W) (ws : List W) (h : IH) : Out := match x, ws with
  | .ref n, [] => (match h[n]? with
    | some (.lst xs) => (match xs[xs.length - 1]? with | some y => .v y (h.set n (.lst xs.dropLast)) | none => .no)
    | _ => .no)
  | .ref n, [.int i] => (match h[n]? with
    | some (.lst xs) => if -(2 ^ 63) ≤ i ∧ i < 2 ^ 63 then (match seqIndex? i xs.length with
      | some j => (match xs[j]? with | some y => .v y (h.set n (.lst (xs.eraseIdx j))) | none => .no)
      | none => .no) else .no
    | _ => .no)
  | _, _ => .no
theorem RWs.dropLast {m : Nat → Addr} {L : Nat} {H : Hp} {ws : List W} {vs : List V} (r : RWs G.K G.cl m L H ws vs) : RWs G.K G.cl m L H ws.dropLast vs.dropLast := by
  rw [List.dropLast_eq_take, List.dropLast_eq_take, r.length]
  exact r.take _
theorem RWs.erase {m : Nat → Addr} {L : Nat} {H : Hp} {ws : List W} {vs : List V} (r : RWs G.K G.cl m L H ws vs) (i : Nat) : RWs G.K G.cl m L H (ws.eraseIdx i) (vs.eraseIdx i) := by
  rw [List.eraseIdx_eq_take_drop_succ, List.eraseIdx_eq_take_drop_succ]
  exact (r.take _).append (r.drop _)
theorem m_pop : SM G X "list" "list.pop" mPop := .mk fun m h H x vx ws vs Z Q R rx r P => by
  unfold mPop at P
  split at P
  · rename_i n
    split at P
    · rename_i xs e
      split at P
      · rename_i y ey
        obtain ⟨us, hx, hu⟩ := R.obj n _ e
        cases rx
        cases r
        obtain ⟨v, hv, rv⟩ := hu.get ey
        obtain ⟨R', E'⟩ := put_lst R e hx hu.dropLast
        exact ⟨_, mt_pop, m n, us, v, rfl, rfl, hx, by rw [← hu.length]; exact hv, P m _ _ E' R' (rv.mono E')⟩
      · exact P.elim
    · exact P.elim
  · rename_i n i
    split at P
    · rename_i xs e
      split at P
      · rename_i q
        split at P
        · rename_i j ej
          split at P
          · rename_i y ey
            obtain ⟨us, hx, hu⟩ := R.obj n _ e
            cases rx
            cases r with
            | cons r1 r2 =>
              cases r1; cases r2
              obtain ⟨v, hv, rv⟩ := hu.get ey
              obtain ⟨R', E'⟩ := put_lst R e hx (hu.erase j)
              exact ⟨_, mt_popAt, m n, us, i, j, v, rfl, rfl, hx, q.1, q.2, by rw [← hu.length]; exact ej, hv, P m _ _ E' R' (rv.mono E')⟩
          · exact P.elim
        · exact P.elim
      · exact P.elim
    · exact P.elim
  · exact P.elim
def mExtend (x : W) (ws : List W) (h : IH) : Out := match x, ws with
  | .ref n, [.ref q] => (match h[n]?, h[q]? with
    | some (.lst xs), some (.lst ys) => if xs.length + ys.length ≤ 16777216 then .v .non (h.set n (.lst (xs ++ ys))) else .no
    | _, _ => .no)
  | _, _ => .no
theorem m_extend : SM G X "list" "list.extend" mExtend := .mk fun m h H x vx ws vs Z Q R rx r P => by
  unfold mExtend at P
  split at P
  · rename_i n q
    split at P
    · rename_i xs ys e1 e2
      split at P
      · rename_i hz
        obtain ⟨us, hx, hu⟩ := R.obj n _ e1
        obtain ⟨ws, hy, hw⟩ := R.obj q _ e2
        cases rx
        cases r with
        | cons r1 r2 =>
          cases r1; cases r2
          obtain ⟨R', E'⟩ := put_lst R e1 hx (hu.append hw)
          exact ⟨_, mt_extend, m n, m q, us, ws, rfl, rfl, hx, hy, by rw [← hu.length, ← hw.length, lineSz]; exact hz, P m _ _ E' R' .non⟩
      · exact P.elim
    · exact P.elim
  · exact P.elim
/-- texts -/
def W.st : W → Option Str
  | .str x => some x
  | _ => none
theorem sts_of {m : Nat → Addr} {L : Nat} {H : Hp} : ∀ {ws : List W} {vs : List V} {ss : List Str}, RWs G.K G.cl m L H ws vs → mapO W.st ws = some ss → vs = ss.map V.str
  | _, _, _, .nil, e => by cases e; rfl
  | _, _, _, .cons (w := w) (ws := ws) r1 r2, e => by
    unfold mapO at e
    cases q1 : w.st with
    | none => rw [q1] at e; cases e
    | some u =>
      cases q2 : mapO W.st ws with
      | none => rw [q1, q2] at e; cases e
      | some us =>
        rw [q1, q2] at e
        cases e
        rw [sts_of r2 q2]
        cases r1 <;> first | (cases q1; rfl) | cases q1
def joinS (z : Str) (ws : List W) (h : IH) : Out := match mapO W.st ws with
  | some ss => if (ss.map (·.length)).sum + ss.length * z.length ≤ 16777216 then .v (.str (Txt.join z ss)) h else .no
  | none => .no
def mJoin (x : W) (ws : List W) (h : IH) : Out := match x, ws with
  | .str z, [.ref n] => (match lstAt h n with | some ls => joinS z ls h | none => .no)
  | .str z, [.tup ls] => joinS z ls h
  | _, _ => .no
theorem m_join (hK : X.K = G.K) : SM G X "str" "str.join" mJoin := .mk fun m h H x vx ws vs Z Q R rx r P => by
  unfold mJoin at P
  split at P
  · rename_i z n
    split at P
    · rename_i ls e
      unfold joinS at P
      split at P
      · rename_i ss es
        split at P
        · rename_i hz
          obtain ⟨us, hx, hu⟩ := lstAt_of R e
          cases rx
          cases r with
          | cons r1 r2 =>
            cases r1; cases r2
            rw [sts_of hu es] at hx
            exact ⟨_, mt_join, z, m n, ss, rfl, rfl, .inl (hK ▸ hx), hz, P m H _ Ext.refl R (.str _)⟩
        · exact P.elim
      · exact P.elim
    · exact P.elim
  · rename_i z ls
    unfold joinS at P
    split at P
    · rename_i ss es
      split at P
      · rename_i hz
        cases rx
        cases r with
        | cons r1 r2 =>
          cases r1; cases r2
          rename_i p us hp hu
          rw [sts_of hu es] at hp
          exact ⟨_, mt_join, z, p, ss, rfl, rfl, .inr (hK ▸ hp), hz, P m H _ Ext.refl R (.str _)⟩
      · exact P.elim
    · exact P.elim
  · exact P.elim
end
end Dr
namespace Dr
open PySem L2

section
variable {G : Cfg} {X : Cx} {Z : WX} {k : Nat} {a b c : Ev} {ea eb ec : Expr} {pos : Pos}
/-! ### -a -/
def eNeg (a : Ev) : Ev := fun σ h => (a σ h).vb fun x h1 => match x with | .int i => .v (.int (-i)) h1 | _ => .no
theorem s_neg (ha : SE G X Z a ea) : SE G X Z (eNeg a) (.UnaryOp .USub ea pos) := .mk fun m h H σ τ Q R S P => by
  refine WE.of (pe_un un_neg peM) (ha m h H σ τ _ R S (PoE.ee P fun x h1 m1 H1 v1 e1 R1 r1 P1 => ?_))
  cases r1 <;> first | exact P1.elim | skip
  exact ⟨_, rfl, P1 m1 H1 _ Ext.refl R1 (.int _)⟩
/-! ### s * n -/
def repS (x : Str) (n : Int) : Str := if n < 1 then Str.empty else if (n == 1 || x.length == 0) = true then x else ⟨((List.replicate n.toNat x.cps.toList).flatten).toArray⟩
theorem fold_arrs (xss : List (Array Nat)) : ∀ a : Array Nat, xss.foldl (· ++ ·) a = (a.toList ++ (xss.map Array.toList).flatten).toArray := by
  induction xss with
  | nil => intro a; simp
  | cons x xs ih => intro a; rw [List.foldl_cons, ih]; simp
theorem repS_eq (x : Str) (n : Int) : repS x n = if n < 1 then Str.empty else if (n == 1 || x.length == 0) = true then x else ⟨(List.replicate n.toNat x.cps).foldl (· ++ ·) #[]⟩ := by
  unfold repS
  rw [fold_arrs]
  simp
def oMulX (x y : W) (h : IH) : Out := match x, y with
  | .str z, .int n => if 0 ≤ n ∧ n < 1000000 ∧ z.length * n.toNat ≤ 1000000 ∧ (repS z n).length ≤ 16777216 then .v (.str (repS z n)) h else .no
  | _, _ => oMul x y h
theorem op_mul_str : OpR X (binaryOp .Mult) (fun x y H Q => ∃ z n, x = .str z ∧ y = .int n ∧ 0 ≤ n ∧ n < 1000000 ∧ z.length * n.toNat ≤ 1000000 ∧ (repS z n).length ≤ 16777216 ∧ Q (.str (repS z n)) H) := by
  intro pins s σ H x y v u Q I rx ry h
  obtain ⟨z, n, rfl, rfl, h0, h1, h2, h3, q⟩ := h
  obtain ⟨t, rfl⟩ := rx
  obtain ⟨t', rfl⟩ := ry
  refine P.mul_str (by simp; omega) (fun a1 a2 => ?_) (fun a1 a2 => ?_) ?_
  · have : (2 ^ 63 - 1) / n ≥ 1000000 := by
      have hn : 0 < n := by omega
      exact (Int.le_ediv_iff_mul_le hn).mpr (by omega)
    have hz : (z.length : Int) ≤ 1000000 := by
      have : 1 ≤ n.toNat := by omega
      have := Nat.le_mul_of_pos_right z.length this
      omega
    omega
  · show decide (z.length * n.toNat > sizeLine) = false
    rw [lineSz]
    simp only [decide_eq_false_iff_not]
    omega
  · rw [repS_eq] at q h3
    rw [← lineSz] at h3
    by_cases c1 : n < 1
    · rw [if_pos c1] at q h3 ⊢
      exact ⟨h3, .str _, H, I.tok _, ⟨_, rfl⟩, q⟩
    · rw [if_neg c1] at q h3 ⊢
      by_cases c2 : (n == 1 || z.length == 0) = true
      · rw [if_pos c2] at q ⊢
        exact ⟨.str _, H, I, ⟨_, rfl⟩, q⟩
      · rw [if_neg c2] at q h3 ⊢
        exact ⟨h3, .str _, H, I.tok _, ⟨_, rfl⟩, q⟩
theorem so_mulX : SO G X (binaryOp .Mult) oMulX := .mk fun m h H x y vx vy Z Q R rx ry P => by
  unfold oMulX at P
  split at P
  · split at P
    · rename_i q
      cases rx; cases ry
      exact ⟨_, op_mul_str, _, _, rfl, rfl, q.1, q.2.1, q.2.2.1, q.2.2.2, P m H _ Ext.refl R (.str _)⟩
    · exact P.elim
  · exact so_mul m h H x y vx vy Z Q R rx ry P
/-! ### a < b < c -/
def eChain (g g' : W → W → IH → Out) (a b c : Ev) : Ev := fun σ h => (a σ h).vb fun x h1 => (b σ h1).vb fun y h2 => (g x y h2).vb fun z h3 => match z with
  | .bl true => (c σ h3).vb fun w h4 => g' y w h4
  | .bl false => .v (.bl false) h3
  | _ => .no
/-- an operator whose outcome is plain -/
def SO' (G : Cfg) (X : Cx) (f : Value → Value → Sem Value) (g : W → W → IH → Out) : Prop := SO G X f g
theorem chain_read {g g' : W → W → IH → Out} {r r' : R2} {op op' : CmpOp} (F : Fit G X Z k) (ho : SO G X (compareOp op) g) (ho' : SO G X (compareOp op') g') (ha : SE G X Z a ea) (hb : SE G X Z b eb) (hc : SE G X Z c ec)
    (m : Nat → Addr) (h : IH) (H : Hp) (σ : Sg) (τ : St) (Q : VK) (R : Rep G.K G.cl m h H) (S : RSt G m h.length H σ τ) (P : PoE G m h.length H Z Q (eChain g g' a b c σ h)) : tChain (WO X (compareOp op)) (WO X (compareOp op')) (WE X ea) (WE X eb) (WE X ec) τ H Q := by
  refine ha m h H σ τ _ R S (PoE.ee P fun x h1 m1 H1 v1 e1 R1 r1 P1 => ?_)
  refine hb m1 h1 H1 σ τ _ R1 (S.mono e1) (PoE.ee P1 fun y h2 m2 H2 v2 e2 R2 r2 P2 => ?_)
  refine ho m2 h2 H2 x y v1 v2 Z _ R2 (r1.mono e2) r2 (PoE.ee P2 fun z h3 m3 H3 v3 e3 R3 r3 P3 => ?_)
  cases r3 <;> first | exact P3.elim | skip
  rename_i q
  cases q
  · exact ⟨false, rfl, iteF (P3 m3 H3 _ Ext.refl R3 (.bl _))⟩
  · refine ⟨true, rfl, iteT (hc m3 h3 H3 σ τ _ R3 (((S.mono e1).mono e2).mono e3) (PoE.ee P3 fun w h4 m4 H4 v4 e4 R4 r4 P4 => ?_))⟩
    exact ho' m4 h4 H4 y w v2 v4 Z Q R4 ((r2.mono e3).mono e4) r4 P4
theorem s_chain {g g' : W → W → IH → Out} {op op' : CmpOp} (F : Fit G X Z k) (ho : SO G X (compareOp op) g) (ho' : SO G X (compareOp op') g') (ha : SE G X Z a ea) (hb : SE G X Z b eb) (hc : SE G X Z c ec)
    (hm : lastMarks [op, op'] [eb, ec] = false := by with_unfolding_all rfl) : SE G X Z (eChain g g' a b c) (.Compare ea [op, op'] [eb, ec] pos) := .mk fun m h H σ τ Q R S P =>
  WE.of (pe_chain poM poM peM peM peM hm) (chain_read (r := WO X (compareOp op)) (r' := WO X (compareOp op')) F ho ho' ha hb hc m h H σ τ Q R S P)
theorem t_chain {g g' : W → W → IH → Out} {op op' : CmpOp} (F : Fit G X Z k) (ho : SO G X (compareOp op) g) (ho' : SO G X (compareOp op') g') (ha : SE G X Z a ea) (hb : SE G X Z b eb) (hc : SE G X Z c ec)
    (hm : lastMarks [op, op'] [eb, ec] = false := by with_unfolding_all rfl) : ST G X Z (eChain g g' a b c) (.Compare ea [op, op'] [eb, ec] pos) := .mk fun m h H σ τ Q R S P =>
  WT.of (pt_chain poM poM peM peM peM hm) (chain_read (r := WO X (compareOp op)) (r' := WO X (compareOp op')) F ho ho' ha hb hc m h H σ τ (toB Q) R S P)
/-! ### a, b = x, y -/
def ePar (i j : Nat) (r : Ev) : Ev := fun σ h => match r σ h with
  | .vs [v, w] h1 => .nx ((σ.set i (some v)).set j (some w)) h1
  | .ex c w s h => .ex c w s h
  | _ => .no
theorem v_par (i j : Nat) {x y : Str} {r : Ev} {px py pt : Pos} {kt k2 pt2} (F : Fit G X Z k) (hr : SA G X Z r [ea, eb]) (hN : X.N.Nodup) (hij : i ≠ j := by decide) (hi : X.N[i]? = some x := by rfl) (hj : X.N[j]? = some y := by rfl)
    (hx : X.env.scope.names.lookup x = some .local := by rfl) (hy : X.env.scope.names.lookup y = some .local := by rfl)
    (hw : swappedStores [.Tuple [.Name x px, .Name y py] kt pt] (.Tuple [ea, eb] k2 pt2) X.env = pure (some [x, y]) := by rfl)
    (hs : swapsWithSole [.Tuple [.Name x px, .Name y py] kt pt] (.Tuple [ea, eb] k2 pt2) pos.line X.env = pure false := by rfl) :
    SS G X Z (ePar i j r) (.Assign [.Tuple [.Name x px, .Name y py] kt pt] (.Tuple [ea, eb] k2 pt2) pos) := .mk fun m h H σ τ D R S P => by
  refine WS.of (ps_par F.calm hN hi hj hij hx hy paM hw hs) (hr m h H σ τ _ R S ?_)
  unfold ePar at P
  cases e : r σ h with
  | vs ws h1 =>
    rw [e] at P
    intro m1 H1 vs e1 R1 r1
    match ws, P with
    | [], P => exact P.elim
    | [_], P => exact P.elim
    | _ :: _ :: _ :: _, P => exact P.elim
    | [v, w], P =>
      cases r1 with
      | cons r1 r2 => cases r2 with
        | cons r2 r3 => cases r3; exact ⟨_, _, rfl, P m1 H1 _ e1 R1 (((S.mono e1).set i r1).set j r2)⟩
  | ex c w s h => rw [e] at P; exact P
  | v w h => rw [e] at P; exact P
  | nx s h => rw [e] at P; exact P.elim
  | rt w h => rw [e] at P; exact P.elim
  | bk s h => rw [e] at P; exact P.elim
  | ct s h => rw [e] at P; exact P.elim
  | no => rw [e] at P; exact P
/-! ### reversed(range(n)) -/
def jC (lo c : Int) (n : Nat) : ItW := fun i _ => if i < n then some (some (.int (lo + (i : Nat) * c))) else some none
theorem rj_c {m : Nat → Addr} {L : Nat} {H : Hp} {lo c : Int} {n : Nat} : RJ G m L H (jC lo c n) (Itc lo c n) := by
  intro i m1 h1 H1 e1 R1
  unfold jC
  by_cases q : i < n
  · rw [if_pos q]
    refine ⟨q, fun x H' y => ?_⟩
    obtain ⟨rfl, rfl⟩ := y
    exact ⟨m1, Ext.refl, R1, .int _⟩
  · rw [if_neg q]
    exact Nat.le_of_not_lt q
def iRR (a : Ev) : EvI := fun σ h => .of (a σ h) fun w h1 => match w with
  | .int n => if -(2 ^ 62) ≤ n ∧ n < 2 ^ 62 then .it (jC (0 + (((n - 0).toNat : Nat) : Int) - 1) (-1) (n - 0).toNat) h1 else .no
  | _ => .no
theorem i_rr {p p' pos' : Pos} {tg : Expr} (hm : X.mg "reversed" = none) (hm' : X.mg "range" = none) (ha : SE G X Z a ea) (hg : Gl X "reversed" := by rfl) (hg' : Gl X "range" := by rfl)
    (na : starEach [ea] X.env = (false, eval ea X.env) :: starEach [] X.env := by rfl) (hs : starEach [.Call (.Name "range" p') [ea] [] pos'] X.env = (false, eval (.Call (.Name "range" p') [ea] [] pos') X.env) :: starEach [] X.env := by rfl) :
    SI G X Z (iRR a) tg (.Call (.Name "reversed" p) [.Call (.Name "range" p') [ea] [] pos'] [] pos) := .mk fun m h H σ τ Q R S P => by
  refine WI.of (pi_revR hg hm (prg_1 hg' hm' peM na) hs) (ha m h H σ τ _ R S (PoI.ei P fun w h1 m1 H1 v1 e1 R1 r1 P1 => ?_))
  cases r1 <;> first | exact P1.elim | skip
  simp only at P1
  split at P1
  · rename_i q
    exact ⟨_, rfl, by decide, by decide, q.1, q.2, P1 m1 H1 _ Ext.refl R1 rj_c⟩
  · exact P1.elim
/-! ### functions of lists -/
def bTuple : Fn := fun ws h => match ws with
  | [.tup ts] => .v (.tup ts) h
  | [.ref n] => (match lstAt h n with | some ls => .v (.tup ls) h | none => .no)
  | _ => .no
theorem c_tuple (hK : X.K = G.K) : SC G X (.type "tuple") bTuple := .mk fun m h H ws vs Z Q R r P => by
  unfold bTuple at P
  split at P
  · cases r with
    | cons r1 r2 =>
      cases r1; cases r2
      rename_i p us hp hu
      exact ⟨_, call_tuple_of, p, us, rfl, .inr ⟨hK ▸ hp, P m H _ Ext.refl R (.tup hp hu)⟩⟩
  · rename_i n
    split at P
    · rename_i ls e
      obtain ⟨us, hx, hu⟩ := lstAt_of R e
      cases r with
      | cons r1 r2 =>
        cases r1; cases r2
        exact ⟨_, call_tuple_of, m n, us, rfl, .inl ⟨hK ▸ hx, fun l hl => new_tup R hl hu P⟩⟩
    · exact P.elim
  · exact P.elim
def bList : Fn := fun ws h => match ws with
  | [.tup ts] => .v (.ref h.length) (h ++ [.lst ts])
  | [.ref n] => (match lstAt h n with | some ls => .v (.ref h.length) (h ++ [.lst ls]) | none => .no)
  | _ => .no
theorem c_list (hK : X.K = G.K) : SC G X (.type "list") bList := .mk fun m h H ws vs Z Q R r P => by
  unfold bList at P
  split at P
  · cases r with
    | cons r1 r2 =>
      cases r1; cases r2
      rename_i p us hp hu
      exact ⟨_, call_list_of, p, us, rfl, .inr (hK ▸ hp), fun l hl => new_lst R hl hu P⟩
  · rename_i n
    split at P
    · rename_i ls e
      obtain ⟨us, hx, hu⟩ := lstAt_of R e
      cases r with
      | cons r1 r2 =>
        cases r1; cases r2
        exact ⟨_, call_list_of, m n, us, rfl, .inl (hK ▸ hx), fun l hl => new_lst R hl hu P⟩
    · exact P.elim
  · exact P.elim
def W.boo : W → Option Bool
  | .bl b => some b
  | _ => none
def W.num : W → Option Int
  | .int b => some b
  | _ => none
theorem boos_of {m : Nat → Addr} {L : Nat} {H : Hp} : ∀ {ws : List W} {vs : List V} {ss : List Bool}, RWs G.K G.cl m L H ws vs → mapO W.boo ws = some ss → vs = ss.map V.bl
  | _, _, _, .nil, e => by cases e; rfl
  | _, _, _, .cons (w := w) (ws := ws) r1 r2, e => by
    unfold mapO at e
    cases q1 : w.boo with
    | none => rw [q1] at e; cases e
    | some u =>
      cases q2 : mapO W.boo ws with
      | none => rw [q1, q2] at e; cases e
      | some us =>
        rw [q1, q2] at e
        cases e
        rw [boos_of r2 q2]
        cases r1 <;> first | (cases q1; rfl) | cases q1
theorem nums_of {m : Nat → Addr} {L : Nat} {H : Hp} : ∀ {ws : List W} {vs : List V} {ss : List Int}, RWs G.K G.cl m L H ws vs → mapO W.num ws = some ss → vs = ss.map V.int
  | _, _, _, .nil, e => by cases e; rfl
  | _, _, _, .cons (w := w) (ws := ws) r1 r2, e => by
    unfold mapO at e
    cases q1 : w.num with
    | none => rw [q1] at e; cases e
    | some u =>
      cases q2 : mapO W.num ws with
      | none => rw [q1, q2] at e; cases e
      | some us =>
        rw [q1, q2] at e
        cases e
        rw [nums_of r2 q2]
        cases r1 <;> first | (cases q1; rfl) | cases q1
def onL {β : Type} (f : W → Option β) (ws : List W) (h : IH) (q : List β → Out) : Out := match ws with
  | [.ref n] => (match lstAt h n with | some ls => (match mapO f ls with | some bs => q bs | none => .no) | none => .no)
  | _ => .no
def bAll : Fn := fun ws h => onL W.boo ws h fun bs => .v (.bl (bs.all id)) h
def bAny : Fn := fun ws h => onL W.boo ws h fun bs => .v (.bl (bs.any id)) h
def bSum : Fn := fun ws h => onL W.num ws h fun bs => .v (.int bs.sum) h
theorem onL_of {β : Type} {f : W → Option β} {ws : List W} {vs : List V} {m : Nat → Addr} {h : IH} {H : Hp} {q : List β → Out} {Q : VK} (R : Rep G.K G.cl m h H) (r : RWs G.K G.cl m h.length H ws vs) (P : PoE G m h.length H Z Q (onL f ws h q)) :
    ∃ n us ls bs, vs = [.ref (m n)] ∧ SqL G.K H (m n) us ∧ RWs G.K G.cl m h.length H ls us ∧ mapO f ls = some bs ∧ PoE G m h.length H Z Q (q bs) := by
  unfold onL at P
  split at P
  · rename_i n
    split at P
    · rename_i ls e
      split at P
      · rename_i bs eb
        obtain ⟨us, hx, hu⟩ := lstAt_of R e
        cases r with
        | cons r1 r2 => cases r1; cases r2; exact ⟨n, us, ls, bs, rfl, hx, hu, eb, P⟩
      · exact P.elim
    · exact P.elim
  · exact P.elim
theorem c_all (F : Fit G X Z k) : SC G X (.builtin "all") bAll := .mk fun m h H ws vs Z Q R r P => by
  obtain ⟨n, us, ls, bs, rfl, hx, hu, eb, P⟩ := onL_of R r P
  rw [boos_of hu eb] at hx
  exact ⟨_, cr_all F.calm, m n, bs, rfl, F.K ▸ hx, P m H _ Ext.refl R (.bl _)⟩
theorem c_any (F : Fit G X Z k) : SC G X (.builtin "any") bAny := .mk fun m h H ws vs Z Q R r P => by
  obtain ⟨n, us, ls, bs, rfl, hx, hu, eb, P⟩ := onL_of R r P
  rw [boos_of hu eb] at hx
  exact ⟨_, cr_any F.calm, m n, bs, rfl, F.K ▸ hx, P m H _ Ext.refl R (.bl _)⟩
theorem c_sum (F : Fit G X Z k) : SC G X (.builtin "sum") bSum := .mk fun m h H ws vs Z Q R r P => by
  obtain ⟨n, us, ls, bs, rfl, hx, hu, eb, P⟩ := onL_of R r P
  rw [nums_of hu eb] at hx
  exact ⟨_, cr_sum F.calm, m n, bs, rfl, F.K ▸ hx, P m H _ Ext.refl R (.int _)⟩
/-! ### texts -/
def mStripC (x : W) (ws : List W) (h : IH) : Out := match x, ws with
  | .str z, [.str y] => if z.length ≤ 16777216 then .v (.str (Txt.stripChars z y)) h else .no
  | _, _ => .no
theorem m_stripC : SM G X "str" "str.strip" mStripC := .mk fun m h H x vx ws vs Z Q R rx r P => by
  unfold mStripC at P
  split at P
  · split at P
    · rename_i q
      cases rx
      cases r with
      | cons r1 r2 => cases r1; cases r2; exact ⟨_, mt_stripChars, _, _, rfl, rfl, by rw [lineSz]; exact q, P m H _ Ext.refl R (.str _)⟩
    · exact P.elim
  · exact P.elim
def bIntX : Fn := fun ws h => match ws with
  | [.str z] => (match PySem.intText? z with | some n => if z.length ≤ 640 then .v (.int n) h else .no | none => .no)
  | _ => bInt ws h
theorem c_intX : SC G X (.type "int") bIntX := .mk fun m h H ws vs Z Q R r P => by
  unfold bIntX at P
  split at P
  · split at P
    · rename_i n e
      split at P
      · rename_i q
        cases r with
        | cons r1 r2 => cases r1; cases r2; exact ⟨_, call_int_str, _, n, rfl, e, q, P m H _ Ext.refl R (.int _)⟩
      · exact P.elim
    · exact P.elim
  · exact c_int m h H ws vs Z Q R r P
/-! ### f-strings -/
def fmtW (x : W) (h : IH) : Out := match x with
  | .str y => if y.length ≤ 16777216 then .v (.str y) h else .no
  | .int i => if i.natAbs.log2 < 1920 then .v (.str (toString i)) h else .no
  | _ => .no
def eFmt (a : Ev) : Ev := fun σ h => (a σ h).vb fmtW
theorem s_fmt (ha : SE G X Z a ea) : SE G X Z (eFmt a) (.FormattedValue ea (-1) none pos) := .mk fun m h H σ τ Q R S P => by
  refine WE.of (pe_fmt peM) (ha m h H σ τ _ R S (PoE.ee P fun x h1 m1 H1 v1 e1 R1 r1 P1 => ?_))
  unfold fmtW at P1
  cases r1 <;> first | exact P1.elim | skip
  · simp only at P1
    split at P1
    · rename_i q
      exact .inr ⟨_, rfl, q, P1 m1 H1 _ Ext.refl R1 (.str _)⟩
    · exact P1.elim
  · simp only at P1
    split at P1
    · rename_i q
      exact .inl ⟨_, rfl, by rw [lineSz]; exact q, P1 m1 H1 _ Ext.refl R1 (.str _)⟩
    · exact P1.elim
def eJs : List Ev → Str → Ev
  | [], acc => fun _ h => .v (.str acc) h
  | t :: ts, acc => fun σ h => (t σ h).vb fun x h1 => match x with
    | .str y => if (appS acc y).length ≤ 16777216 then eJs ts (appS acc y) σ h1 else .no
    | _ => .no
inductive SJ (G : Cfg) (X : Cx) (Z : WX) : List Ev → List Expr → Prop
  | nil : SJ G X Z [] []
  | cons {a : Ev} {e : Expr} {as : List Ev} {es : List Expr} : SE G X Z a e → SJ G X Z as es → SJ G X Z (a :: as) (e :: es)
theorem SJ.pj {as : List Ev} {es : List Expr} (h : SJ G X Z as es) : PJ X es (es.map (WE X)) := by
  induction h with
  | nil => exact .nil
  | cons _ _ ih => exact .cons peM ih
theorem SJ.read {as : List Ev} {es : List Expr} (hj : SJ G X Z as es) : ∀ (acc : Str) (m : Nat → Addr) (h : IH) (H : Hp) (σ : Sg) (τ : St) (Q : Str → Hp → Prop), Rep G.K G.cl m h H → RSt G m h.length H σ τ → PoE G m h.length H Z (fun v H1 => ∃ y, v = .str y ∧ Q y H1) (eJs as acc σ h) → tJs (es.map (WE X)) acc τ H Q := by
  induction hj with
  | nil =>
    intro acc m h H σ τ Q R S P
    obtain ⟨y, e, q⟩ := P m H _ Ext.refl R (.str acc)
    cases e; exact q
  | cons ha _ ih =>
    intro acc m h H σ τ Q R S P
    refine ha m h H σ τ _ R S (PoE.ee P fun x h1 m1 H1 v1 e1 R1 r1 P1 => ?_)
    cases r1 <;> first | exact P1.elim | skip
    simp only [appS_eq] at P1
    split at P1
    · rename_i q
      exact ⟨_, rfl, by rw [lineSz]; exact q, ih _ m1 h1 H1 σ τ Q R1 (S.mono e1) P1⟩
    · exact P1.elim
theorem s_joined {as : List Ev} {v1 v2 : Expr} {rest : List Expr} (h : SJ G X Z as (v1 :: v2 :: rest)) : SE G X Z (eJs as Str.empty) (.JoinedStr (v1 :: v2 :: rest) pos) := .mk fun m hp H σ τ Q R S P => by
  refine WE.of (pe_joined h.pj) (h.read Str.empty m hp H σ τ (fun out H1 => Q (.str out) H1) R S ?_)
  cases e : eJs as Str.empty σ hp with
  | v w h' =>
    rw [e] at P
    intro m' H' v e' R' r'
    have hw : ∀ (as : List Ev) (acc : Str) (σ : Sg) (h : IH) w h', eJs as acc σ h = .v w h' → ∃ y, w = .str y := by
      intro as
      induction as with
      | nil => intro acc σ h w h' e; cases e; exact ⟨_, rfl⟩
      | cons t ts ih =>
        intro acc σ h w h' e
        unfold eJs at e
        cases q : t σ h with
        | v x h1 =>
          rw [q] at e
          cases x <;> first | (cases e; done) | skip
          simp only [Out.vb] at e
          split at e
          · exact ih _ _ _ _ _ e
          · cases e
        | _ => rw [q] at e; cases e
    obtain ⟨y, rfl⟩ := hw as _ _ _ _ _ e
    have := P m' H' v e' R' r'
    cases r'
    exact ⟨_, rfl, this⟩
  | ex c w s h' => rw [e] at P; exact P
  | _ => rw [e] at P; exact P.elim
end
end Dr
set_option maxHeartbeats 2000000
namespace L2
open PySem PySem.Spec PyProof.Rows
/-- several clauses «except x as n», n the same name each time -/
def wNam (K : PySem.W.Frag) (i : Nat) (Wz : WX) (D : Ends) : List (Value × (Addr → Value → Option Addr → TS)) → WX
  | [] => Wz
  | (c, ts) :: r => fun cls d σ H => ∃ b, PySem.W.exmOne K cls c = some b ∧
      (b = true → ∀ a, H a = none → ts a cls d { nx := fun τ U => D.nx (τ.set i none) U, rt := D.rt, bk := fun τ U => D.bk (τ.set i none) U, ct := fun τ U => D.ct (τ.set i none) U } (σ.set i (some (.ref a))) H) ∧ (b = false → wNam K i Wz D r cls d σ H)
inductive HdsN (X : Cx) (n : Str) : List ExceptHandler → List (Value × (Addr → Value → Option Addr → TS)) → Prop
  | nil : HdsN X n [] []
  | cons {x : Str} {c : Value} {ts : Addr → Value → Option Addr → TS} {s0 : Stmt} {ss : List Stmt} {np p' : Pos} {hs : List ExceptHandler} {l : List (Value × (Addr → Value → Option Addr → TS))} (nam : Names X x c)
      (su : ∀ (a : Addr) (oe : Obj) (cls : Value) (d : Option Addr) (pn : List (Addr × Obj)), Zc cls d oe → (∃ fv, oe.data = .fields fv) → PSs (X.suite a ((a, oe) :: pn)) (s0 :: ss) (ts a cls d)) (r : HdsN X n hs l) :
      HdsN X n (.ExceptHandler (some (.Name x np)) (some n) (s0 :: ss) p' :: hs) ((c, ts) :: l)
section
variable {X : Cx} {body : List Stmt} {h0 : ExceptHandler} {hds : List ExceptHandler} {l : List (Value × (Addr → Value → Option Addr → TS))} {pos : Pos} {tb : WX → TS} {Wz : WX} {n : Str} {i : Nat}
theorem ps_tryN (est : X.stack = X.env :: X.outer) (efr : X.env.frame = some X.env.locals) (nd : X.N.Nodup) (hi : X.N[i]? = some n) (kn : X.env.kindOf n = some .local) (tk : Takes X Wz)
    (hb : ∀ (W : WX) (pn : List (Addr × Obj)) (xe : Value → Shared → Prop), Takes (X.tr pn xe) W → PassesOwn (model X.prog X.w) X.A X.env xe → PSs (X.tr pn xe) body (tb W))
    (hh : HdsN X n (h0 :: hds) l) : PS X (.Try body (h0 :: hds) [] [] pos) (fun D σ H => tb (wNam X.K i Wz D l) D σ H) := by
  refine ⟨fun pins s σ H D inv rd => ?_⟩
  have okX := inv.ok
  have frm : X.A.frames = some (X.env :: X.outer) := by rw [okX.frames, est]
  refine wpAny_Try_except (wpAny_mono ((hb (wNam X.K i Wz D l) (X.pn ++ pins) (fun e s1 => wpAny (model X.prog X.w) X.A (noteFrame e X.env) (fun _ s2 => wpAny (model X.prog X.w) X.A (setFlight e none) (fun _ s3 =>
    wpAny (model X.prog X.w) X.A (handleBy e X.env (h0 :: hds)) (SP X pins D) X.xe s3) X.xe s2) X.xe s1) (fun u s' air => ?_) PassesOwn.looking).run [] s σ H D (inv.toTry _) rd) (fun f s1 en => ?_) fun e s1 he => he)
  · obtain ⟨a, B, sI, pins', σ', H', cls, d, rfl, J0, nb, up, sky, na, os, ag, wish⟩ := air
    have J : Inv X pins σ' H' sI := J0.ofTry okX
    have sky2 : Sky B (X.env :: X.outer) a (Zc cls d) X.env.locals s'.heap := by rw [← est]; exact sky
    show wpAny (model X.prog X.w) X.A (noteFrame (.ref a) X.env) _ _ _
    refine Sky.land Zc.steady frm efr sky2 fun g3 fly up3 => ?_
    have K3 : Inv X pins σ' H' { s' with heap := g3 } := J.landed nb fly.1 (up.trans up3) os ag
    obtain ⟨o3, f3, e3, z3, d3⟩ := fly.there
    have out : a ∉ frs (X.env :: X.outer) := fun hm => by
      obtain ⟨_, o', e', no⟩ := fly.2.2.1.mem hm
      rw [e3] at e'; cases e'
      exact no _ d3
    have aL : a ≠ X.env.locals := fun z => out (List.mem_filterMap.mpr ⟨X.env, List.mem_cons_self, by rw [efr, z]⟩)
    have aF : a ∉ X.fs := fun hm => by
      obtain ⟨e, he, q⟩ := List.mem_filterMap.mp hm
      exact out (List.mem_filterMap.mpr ⟨e, List.mem_cons_of_mem _ he, q⟩)
    have T3 := K3.suite e3 d3 na aL aF
    have walk : ∀ {hs2 : List ExceptHandler} {l2 : List (Value × (Addr → Value → Option Addr → TS))}, HdsN X n hs2 l2 → wNam X.K i Wz D l2 cls d σ' H' →
        wpAny (model X.prog X.w) X.A (handleBy (.ref a) X.env hs2) (SP X pins D) X.xe { s' with heap := g3 } := by
      intro hs2 l2 hk
      induction hk with
      | nil =>
        intro wz
        obtain ⟨k1, k2, k3, oe, fv, tb, ot, ts', he, hz, hd, h1, hr⟩ := id fly
        refine wpAny_handleBy_nil ?_
        unfold PySem.passOn
        refine wpAny_bind (wpAny_field he hd h1 ?_)
        rw [if_neg (show ¬ ((Value.ref tb == Value.none) = true) from by simp)]
        have last : wpAny (model X.prog X.w) X.A (setFlight (.ref a) X.env.frame) (fun _ s4 => wpAny (model X.prog X.w) X.A (throw (.ref a) : Sem Flow) (SP X pins D) X.xe s4) X.xe { s' with heap := g3 } := by
          rw [efr]
          exact HandSPX.setFlight_upZ fly fun g4 hg4 up4 => wpAny_throw (tk _ _ ⟨a, B, sI, pins, σ', H', cls, d, rfl, J, nb, (up.trans up3).trans up4, .inr (.inr (by rw [est]; exact hg4)), na, os, ag, wz⟩)
        first
          | exact wpAny_bind (wpAny_pure (wpAny_bind last))
          | exact wpAny_bind last
      | @cons x c ts s0 ss np p' hs3 l3 nam su r ih =>
        intro wz
        obtain ⟨b, eb, yes, no⟩ := wz
        refine wpAny_handleBy_cons (codeAny_handlers_test ?_) (by intro q; cases q)
        have ty : PySem.W.Looks (model X.prog X.w) g3 (typeOf (.ref a)) cls := fun A Q E s k q => wpAny_typeOf_ref (k _ _ e3) (by rw [z3.1]; exact q)
        have ask : ∀ {Q : Value → Shared → Prop} {E : Value → Shared → Prop}, Q c { s' with heap := g3 } → wpAny (model X.prog X.w) (X.A.mark (some (.ref a))) (eval (.Name x np) X.env) Q E { s' with heap := g3 } := fun {Q E} q => by
          obtain ⟨hg, hdb, hm | ⟨hm, hv, hn⟩⟩ := nam
          · exact ld_glob (X := X.suite a ((a, o3) :: (X.pn ++ pins))) T3 hg hm q hdb
          · exact ld_blt (X := X.suite a ((a, o3) :: (X.pn ++ pins))) T3 hg hm hv q hn hdb
        refine ask ((PySem.W.exm_one (M := model X.prog X.w) K3.kIn ty eb).here ?_)
        cases b with
        | false => exact ih (no rfl)
        | true =>
          refine codeAny_handlers_suite_as (HandSPX.lands_againZ fly fun g4 fly4 up4 => ?_)
          have K4 : Inv X pins σ' H' { s' with heap := g4 } := J.landed nb fly4.1 ((up.trans up3).trans up4) os ag
          obtain ⟨o4, f4, e4, z4, d4⟩ := fly4.there
          refine store_ok (X := X.suite a ((a, o4) :: (X.pn ++ pins))) (v := .ref a) (K4.suite e4 d4 na aL aF) nd hi (.inl kn) rfl (fun s5 T5 => ?_) (.inr kn)
          refine wpAny_mono ((su a o4 cls d (X.pn ++ pins) z4 ⟨_, d4⟩).run [] s5 _ H' _ T5 (yes rfl a na)) (fun f s6 en => ?_) (fun _ _ z => False.elim z)
          have off : ∀ {τ : St} {U : Hp} {Q : Shared → Prop}, Inv (X.suite a ((a, o4) :: (X.pn ++ pins))) [] τ U s6 → (∀ s7, Inv X pins (τ.set i none) U s7 → Q s7) →
              wpAny (model X.prog X.w) X.A (do bindName X.env n .none; unbindBehindTheSuite X.env n p') (fun _ s7 => Q s7) X.xe s6 := fun {τ U Q} T6 hq => gone_ok (T6.unsuite okX) nd hi kn hq
          cases f with
          | next => obtain ⟨τ, U, T6, q6⟩ := en; exact off T6 fun s7 J7 => ⟨_, _, J7, q6⟩
          | brk => obtain ⟨τ, U, T6, q6⟩ := en; exact off T6 fun s7 J7 => ⟨_, _, J7, q6⟩
          | cont => obtain ⟨τ, U, T6, q6⟩ := en; exact off T6 fun s7 J7 => ⟨_, _, J7, q6⟩
          | ret u => obtain ⟨v6, τ, U, T6, r6, q6⟩ := en; exact off T6 fun s7 J7 => ⟨_, _, _, J7, r6, q6⟩
    exact walk hh wish
  · cases f with
    | next => obtain ⟨τ, U, J1, q⟩ := en; exact wpAny_execs_nil ⟨τ, U, J1.ofTry okX, q⟩
    | brk => obtain ⟨τ, U, J1, q⟩ := en; exact ⟨τ, U, J1.ofTry okX, q⟩
    | cont => obtain ⟨τ, U, J1, q⟩ := en; exact ⟨τ, U, J1.ofTry okX, q⟩
    | ret u => obtain ⟨v, τ, U, J1, r, q⟩ := en; exact ⟨v, τ, U, J1.ofTry okX, r, q⟩
end
end L2
set_option maxHeartbeats 2000000
namespace Dr
open PySem L2

/-! ### try: several clauses, each with the same name -/
structure Hd where
  sub : Nat → Option Bool
  ev : Nat → W → Ev
def Out.un (i : Nat) : Out → Out
  | .nx s h => .nx (s.set i none) h
  | .rt w h => .rt w h
  | .bk s h => .bk (s.set i none) h
  | .ct s h => .ct (s.set i none) h
  | _ => .no
def runH (i : Nat) : List Hd → Nat → W → Sg → IH → Out
  | [], c, w, σ, h => .ex c w σ h
  | hd :: r, c, w, σ, h => match hd.sub c with
    | some true => (hd.ev c w (σ.set i none) h).un i
    | some false => runH i r c w σ h
    | none => .no
def eTry (i : Nat) (b : Ev) (hs : List Hd) : Ev := fun σ h => match b σ h with
  | .ex c w s h' => runH i hs c w s h'
  | o => o
/-- within a suite -/
abbrev Cfg.sui (G : Cfg) (i : Nat) (a dd : Addr) (c : Nat) (w : W) : Cfg := { G with xs := some (i, a), xd := some (dd, c, w) }
def Zf : WX := fun _ _ _ _ => False
inductive SH (G : Cfg) (X : Cx) (i : Nat) (n : Str) : List Hd → List ExceptHandler → Prop
  | nil : SH G X i n [] []
  | cons {hd : Hd} {hs : List Hd} {x : Str} {cv : Value} {s0 : Stmt} {ss : List Stmt} {np p' : Pos} {hds : List ExceptHandler} (nam : Names X x cv) (hsub : ∀ c b, hd.sub c = some b → PySem.W.exmOne X.K (.ref (G.cl c)) cv = some b)
      (su : ∀ (a dd : Addr) (oe : Obj) (pn : List (Addr × Obj)) (c : Nat) (w : W), Zc (.ref (G.cl c)) (some dd) oe → (∃ fv, oe.data = .fields fv) → SB (G.sui i a dd c w) (X.suite a ((a, oe) :: pn)) Zf (hd.ev c w) (s0 :: ss)) (r : SH G X i n hs hds) :
      SH G X i n (hd :: hs) (.ExceptHandler (some (.Name x np)) (some n) (s0 :: ss) p' :: hds)
section
variable {G : Cfg} {X : Cx} {Z : WX} {k : Nat} {a b c : Ev} {ea eb ec : Expr} {pos : Pos}
theorem RSt.sui {m : Nat → Addr} {L : Nat} {H : Hp} {σ : Sg} {τ : St} {i c : Nat} {a dd : Addr} {w : W} {v : V} (r : RSt G m L H σ τ) (hd : H dd = some (.xd [(G.fn c, v)])) (rw_ : RW G.K G.cl m L H w v) : RSt (G.sui i a dd c w) m L H (σ.set i none) (τ.set i (some (.ref a))) := by
  refine ⟨by simp [r.len], fun j x h => ?_, fun j b hx hj => ?_, fun d' c' w' h => ?_⟩
  · by_cases e : j = i
    · subst e
      have hl : j < σ.length := by simpa using (List.getElem?_eq_some_iff.mp h).1
      rw [List.getElem?_set_self hl] at h
      cases h
    · rw [List.getElem?_set_ne (Ne.symm e)] at h ⊢
      exact r.get j x h
  · cases hx
    have hl : i < σ.length := by simpa using (List.getElem?_eq_some_iff.mp hj).1
    exact List.getElem?_set_self (by rw [← r.len]; exact hl)
  · cases h
    exact ⟨v, hd, rw_⟩
theorem RSt.unsui {m : Nat → Addr} {L : Nat} {H : Hp} {σ : Sg} {τ : St} {i c : Nat} {a dd : Addr} {w : W} (hx : G.xs = none ∧ G.xd = none) (r : RSt (G.sui i a dd c w) m L H σ τ) : RSt G m L H (σ.set i none) (τ.set i none) := by
  refine ⟨by simp [r.len], fun j x h => ?_, fun j b z => (by rw [hx.1] at z; cases z), fun d' c' w' z => by rw [hx.2] at z; cases z⟩
  by_cases e : j = i
  · subst e
    have hl : j < σ.length := by simpa using (List.getElem?_eq_some_iff.mp h).1
    rw [List.getElem?_set_self hl] at h
    cases h
  · rw [List.getElem?_set_ne (Ne.symm e)] at h ⊢
    exact r.get j x h
theorem SH.go {i : Nat} {n : Str} {hs : List Hd} {hds : List ExceptHandler} (hx : G.xs = none ∧ G.xd = none) (h : SH G X i n hs hds) : ∃ l, HdsN X n hds l ∧ ∀ (D : Ends) (m : Nat → Addr) (h' : IH) (H : Hp) (c : Nat) (w : W) (s : Sg) (d : Addr) (v : V) (τ : St),
    Rep G.K G.cl m h' H → RW G.K G.cl m h'.length H w v → RSt G m h'.length H s τ → H d = some (.xd [(G.fn c, v)]) → PoS G m h'.length H Z D (runH i hs c w s h') → wNam X.K i Z D l (.ref (G.cl c)) (some d) τ H := by
  induction h with
  | nil => exact ⟨[], .nil, fun D m h' H c w s d v τ R r S hd P => P m H d v τ Ext.refl R r S hd⟩
  | @cons hd hs x cv s0 ss np p' hds nam hsub su r ih =>
    obtain ⟨l, hl, ih⟩ := ih
    refine ⟨(cv, fun a cls d D σ H => ∀ (oe : Obj) (pn : List (Addr × Obj)), Zc cls d oe → (∃ fv, oe.data = .fields fv) → WB (X.suite a ((a, oe) :: pn)) (s0 :: ss) D σ H) :: l,
      .cons nam (fun a oe cls d pn hz hf => ⟨fun pins s σ H D I hh => hh oe pn hz hf pins s I⟩) hl, fun D m h' H c w s d v τ R rr S hdd P => ?_⟩
    unfold runH at P
    split at P
    · rename_i es
      refine ⟨true, hsub c true es, fun _ a ha oe pn hz hf => ?_, fun z => by cases z⟩
      refine su a d oe pn c w hz hf m h' H _ _ _ R (S.sui hdd rr) ?_
      cases e : hd.ev c w (s.set i none) h' with
      | nx s2 h2 => rw [e] at P; exact fun m' H' τ' e' R' S' => P m' H' _ e' R' (S'.unsui hx)
      | bk s2 h2 => rw [e] at P; exact fun m' H' τ' e' R' S' => P m' H' _ e' R' (S'.unsui hx)
      | ct s2 h2 => rw [e] at P; exact fun m' H' τ' e' R' S' => P m' H' _ e' R' (S'.unsui hx)
      | rt w2 h2 => rw [e] at P; exact P
      | ex c2 w2 s2 h2 => rw [e] at P; exact False.elim P
      | v w2 h2 => rw [e] at P; exact False.elim P
      | vs w2 h2 => rw [e] at P; exact False.elim P
      | no => rw [e] at P; exact False.elim P
    · rename_i es
      exact ⟨false, hsub c false es, fun z => (by cases z), fun _ => ih D m h' H c w s d v τ R rr S hdd P⟩
    · exact False.elim P
theorem Fit.tr {pn : List (Addr × Obj)} {xe : Value → Shared → Prop} {W' : WX} (F : Fit G X Z k) (tk : Takes (X.tr pn xe) W') (ow : PassesOwn (model X.prog X.w) X.A X.env xe) : Fit G (X.tr pn xe) W' k := ⟨F.K, F.calm, ow, tk, F.room, F.base, F.gd⟩
theorem v_try {i : Nat} {n : Str} {hs : List Hd} {h0 : ExceptHandler} {hds : List ExceptHandler} {body : List Stmt} (F : Fit G X Z k) (hx : G.xd = none) (nd : X.N.Nodup)
    (hb : ∀ (pn : List (Addr × Obj)) (xe : Value → Shared → Prop) (W' : WX), Fit G (X.tr pn xe) W' k → SB G (X.tr pn xe) W' b body) (hh : SH G X i n hs (h0 :: hds))
    (est : X.stack = X.env :: X.outer := by rfl) (efr : X.env.frame = some X.env.locals := by rfl) (hi : X.N[i]? = some n := by rfl) (kn : X.env.kindOf n = some .local := by rfl) :
    SS G X Z (eTry i b hs) (.Try body (h0 :: hds) [] [] pos) := .mk fun m h H σ τ D R S P => by
  obtain ⟨l, hl, go⟩ := hh.go (Z := Z) ⟨F.base, hx⟩
  refine WS.of (ps_tryN (tb := fun W' D σ H => ∀ (pn : List (Addr × Obj)) (xe : Value → Shared → Prop), Takes (X.tr pn xe) W' → PassesOwn (model X.prog X.w) X.A X.env xe → WB (X.tr pn xe) body D σ H) est efr nd hi kn F.tk
    (fun W' pn xe tk ow => ⟨fun pins s σ H D I hh => hh pn xe tk ow pins s I⟩) hl) ?_
  intro pn xe tk ow
  refine hb pn xe _ (F.tr tk ow) m h H σ τ D R S ?_
  unfold eTry at P
  cases e : b σ h with
  | ex c w s h' => rw [e] at P; exact fun m' H' d v τ' e' R' r' S' hd => go D m' h' H' c w s d v τ' R' r' S' hd (PoS.later e' P)
  | nx s2 h2 => rw [e] at P; exact P
  | bk s2 h2 => rw [e] at P; exact P
  | ct s2 h2 => rw [e] at P; exact P
  | rt w2 h2 => rw [e] at P; exact P
  | v w2 h2 => rw [e] at P; exact P
  | vs w2 h2 => rw [e] at P; exact P
  | no => rw [e] at P; exact P
end
end Dr
set_option maxHeartbeats 2000000
/-! isinstance of a caught error that has a dict -/
namespace PySem.W
open PySem PySem.Spec PySem.Calls PyProof.Rows
section
variable {prog : Program} {w : World} {A : Around} {E : Value → Shared → Prop} {s : Shared} {K : Frag} {x D : Addr} {ox : Obj} {od : Option Obj}
theorem drFind {name : Str} {a g : Value} (hc : (clsIn K D).isSome = true) (ha : findIn K (.ref D) name = some (some a)) (hg : specialIn K a "__get__" = some (some g)) (ht : takesIn K a = some true) : findObj K D od name = some (.bind g a) := by
  obtain ⟨cd, hc⟩ := Option.isSome_iff_exists.mp hc
  unfold findObj
  rw [hc, Option.bind_some, ha, Option.bind_some]
  simp [hg, ht]
theorem drClass {Q : Option Value → Shared → Prop} (C : L2.ExcC K D) (X : K.In s.heap) (I : InstAt s.heap x ox D od) (h : Q (some (.ref D)) { s with toks := s.toks + 1 }) : wpAny (model prog w) A (getAttr? (.ref x) "__class__") Q E s := by
  obtain ⟨hga, hgt, hsub, hdct, ha, hn, htk, hm⟩ := C
  have hf : findObj K D od "__class__" = some (.bind (.builtin "getset_descriptor.__get__") (.builtin "object.__class__")) := drFind (by obtain ⟨cd, hc, _⟩ := any_some hdct; rw [hc]; rfl) ha hn htk
  obtain ⟨hp, g, d, t, os⟩ := s
  have M0 := I.type (M := model prog w)
  have M1 := looks_findIn (M := model prog w) X hga
  have M2 := looks_findIn (M := model prog w) X hgt
  have M3 := looks_find (M := model prog w) X I hf
  have sb : Looks (model prog w) hp (isInstance (.ref x) (.type "BaseException")) true := M0.andThen (looks_subIn X hsub)
  have z0 : (false && onTheHeap (Value.builtin "BaseException.__getattribute__")) = false := rfl
  have z2 : (Value.builtin "BaseException.__getattribute__" == Value.builtin "object.__getattribute__") = false := by decide +kernel
  have z1 : (onTheHeap (Value.ref D) && Value.builtin "BaseException.__getattribute__" == Value.builtin "object.__getattribute__") = false := by rw [z2]; rfl
  unfold getAttr? getAttrBy? getAttrBy
  refine wpAny_bind (wpAny_mkText (wpAny_bind (wpAny_attempt (wpAny_holding (wpAny_bind (M0.at (wpAny_bind (M1.at ?_))))))))
  show wpAny _ _ (if (onTheHeap (Value.ref D) && Value.builtin "BaseException.__getattribute__" == Value.builtin "object.__getattribute__") = true then _ else _) _ _ _
  rw [z1, if_neg Bool.false_ne_true]
  unfold getAttrByItsOwn hookBefore
  refine wpAny_bind ?_
  rw [if_pos (show onTheHeap (Value.ref D) = true from rfl)]
  refine M2.at (wpAny_bind (wpAny_attempt (wpAny_holding ?_)))
  unfold callGetattribute
  rw [z0, if_neg Bool.false_ne_true]
  unfold boundAndCalled
  rw [PySem.F.excAttr_ValueError.ga.bind (.ref x)]
  refine wpAny_bind (wpAny_pure ?_)
  show wpAny _ _ (call (.builtin "BaseException.__getattribute__") [.ref x, .str "__class__" t]) _ _ _
  refine wpAny_call (codeAny_call_builtin PySem.F.excAttr_ValueError.ga.plain PySem.F.entry_bexc_ga (@check_slot (model prog w) _ _ ⟨hp, g, d, t + 1, os⟩ "BaseException.__getattribute__" "BaseException" "__getattribute__" (.ref x) [.str "__class__" t] [] _ (by decide +kernel) (by decide +kernel) sb (PySem.F.args_bexc_ga (.ref x) (.str "__class__" t)) ?_))
  unfold Builtin.«object.__getattribute__»
  refine wpAny_bind (wpAny_of_eq (a := ((Value.ref x : Value), [Value.str "__class__" t])) (by first | rfl | (simp only [slotArgs]; rfl)) (wpAny_bind (wpAny_pure (wpAny_bind (M0.at (wpAny_bind (M3.at ?_)))))))
  show wpAny _ _ (holding [Value.builtin "object.__class__"] (call (.builtin "getset_descriptor.__get__") [.builtin "object.__class__", .ref x, .ref D]) >>= ret) _ _ _
  refine wpAny_bind (wpAny_holding (wpAny_call (class_get (s := ⟨hp, g, d, t + 1, os⟩) (ox := ox) (od := od) X I hm (wpAny_pure ?_))))
  show wpAny _ _ (handedOut (.ref D)) _ _ _
  rw [handedOut_of (v := .ref D) rfl]
  first
    | exact wpAny_pure (wpAny_pure h)
    | exact wpAny_pure h
    | exact wpAny_pure (wpAny_bind (wpAny_pure (wpAny_pure h)))
theorem drKit (C : L2.ExcC K D) : KitX K (.ref x) (.ref D) (fun h => ∃ od, InstAt h x ox D od) where
  ty := fun _ _ _ ⟨_, I⟩ => I.type
  it := fun M h X _ => by
    obtain ⟨cdD, hcD, _⟩ := any_some C.hd
    unfold clsIn at hcD
    split at hcD
    · rename_i ho
      exact fun A1 Q1 E1 s1 k q => by
        unfold isType loadHead
        exact wpAny_bind (wpAny_loadPart (k _ _ (X _ _ ho)) (wpAny_pure q))
    · cases hcD
  ne := fun h tp dd its n sl X htp => (handS_kitx_exc (x := x) (ox := ox) C.hg C.hk C.hs C.hd C.ha C.hn C.ht C.hm).ne h tp dd its n sl X htp
  ca := fun X ⟨_, I⟩ k => drClass C X I k
end
end PySem.W
namespace Dr
open PySem L2
/-- what a cheap built-in call wants -/
structure Lit (G : Cfg) (X : Cx) : Prop where
  K : X.K = G.K
  gd : X.A.guards = some []
  un : X.A.units + 150 < cLine
section
variable {G : Cfg} {X : Cx} {Z : WX} {k : Nat} {a b c : Ev} {ea eb ec : Expr} {pos : Pos}
theorem Fit.lit (F : Fit G X Z k) : Lit G X := ⟨F.K, F.gd, by have := F.room.un; omega⟩
theorem Lit.sui (L : Lit G X) {i : Nat} {a dd : Addr} {c : Nat} {w : W} {pn : List (Addr × Obj)} : Lit (G.sui i a dd c w) (X.suite a pn) := ⟨L.K, L.gd, L.un⟩
/-! ### repr -/
def isDic0 (h : IH) (w : W) : Bool := match w with
  | .ref n => (match h[n]? with | some (.dic []) => true | _ => false)
  | _ => false
/-- the repr of a text, by its list -/
def reprQ (x : Str) : Nat := if x.cps.toList.contains 39 && !x.cps.toList.contains 34 then 34 else 39
theorem reprQ_eq (x : Str) : reprQ x = reprQuote x := by
  unfold reprQ reprQuote
  simp
theorem prints : ∀ c : Fin 127, 32 ≤ c.val → Unicode.isPrintable c.val = true := by decide +kernel
def reprC (q c : Nat) : List Nat := if (Nat.ble 32 c && Nat.blt c 127 && !(Nat.beq c 92) && !(Nat.beq c q)) = true then [c] else Builtin.Str.reprChar q c
theorem reprC_eq (q c : Nat) : reprC q c = Builtin.Str.reprChar q c := by
  unfold reprC
  split
  · rename_i h
    simp only [Bool.and_eq_true, Bool.not_eq_true', Nat.ble_eq, Nat.blt_eq] at h
    obtain ⟨⟨⟨h1, h2⟩, h3⟩, h4⟩ := h
    have h3 : c ≠ 92 := fun e => by subst e; cases h3
    have h4 : c ≠ q := fun e => by subst e; rw [Nat.beq_refl] at h4; cases h4
    have p := prints ⟨c, h2⟩ h1
    unfold Builtin.Str.reprChar
    have e10 : c ≠ 10 := by omega
    have e13 : c ≠ 13 := by omega
    have e9 : c ≠ 9 := by omega
    simp [h3, h4, e10, e13, e9, show Unicode.isPrintable c = true from p]
  · rfl
def reprS (x : Str) : Str := ⟨(reprQ x :: (x.cps.toList.flatMap (reprC (reprQ x)) ++ [reprQ x])).toArray⟩
theorem fold_repr (q : Nat) (cs : List Nat) : ∀ a : Array Nat, cs.foldl (fun out c => out ++ (Builtin.Str.reprChar q c).toArray) a = (a.toList ++ cs.flatMap (Builtin.Str.reprChar q)).toArray := by
  induction cs with
  | nil => intro a; simp
  | cons c cs ih => intro a; rw [List.foldl_cons, ih]; simp
theorem reprS_eq (x : Str) : reprS x = reprText x := by
  unfold reprS reprText
  rw [show reprC (reprQ x) = Builtin.Str.reprChar (reprQ x) from funext (reprC_eq _), reprQ_eq, ← Array.foldl_toList, fold_repr]
  congr 1
  exact Array.ext' (by simp)
def bRepr : Fn := fun ws h => match ws with
  | [.str x] => if (reprS x).length ≤ 16777216 then .v (.str (reprS x)) h else .no
  | [.int i] => if i.natAbs.log2 < 1920 then .v (.str (toString i)) h else .no
  | [.bl b] => .v (.str (if b then "True" else "False")) h
  | [.non] => .v (.str "None") h
  | [w] => if isDic0 h w = true then .v (.str "{}") h else (match dat h 40 w with
    | some d => if d.showable = true ∧ d.hasDict = false ∧ d.depth ≤ 100 ∧ d.shown.length ≤ 16777216 then .v (.str d.shown) h else .no
    | none => .no)
  | _ => .no
theorem repr_deep {w : W} {v : V} {m : Nat → Addr} {h : IH} {H : Hp} {Q : VK} {Z : WX} {a : Addr} (L : Lit G X) (R : Rep G.K G.cl m h H) (r : RW G.K G.cl m h.length H w v) (hv : v = .ref a) (P : PoE G m h.length H Z Q (if isDic0 h w = true then .v (.str "{}") h else (match dat h 40 w with
    | some d => if d.showable = true ∧ d.hasDict = false ∧ d.depth ≤ 100 ∧ d.shown.length ≤ 16777216 then .v (.str d.shown) h else .no
    | none => .no))) : WC X (.builtin "repr") [v] H Q := by
  subst hv
  split at P
  · rename_i hd
    unfold isDic0 at hd
    split at hd
    · rename_i n
      split at hd
      · rename_i e
        obtain ⟨vs, hx, rk⟩ := R.obj n _ e
        cases rk
        cases r
        refine ⟨fun xs H' Q' => xs = [.ref (m n)] ∧ H' (m n) = some (.dK []) ∧ Q' (.str "{}") H', ?_, rfl, hx, P m H _ Ext.refl R (.str _)⟩
        intro pins s σ H' xs us Q' I rv hh
        obtain ⟨rfl, hx', q⟩ := hh
        obtain ⟨u, rfl, ru⟩ := vals1 rv
        obtain rfl : u = Value.ref (m n) := ru
        obtain ⟨_, nsm, vs, kv, o, es, ep, ho, hxd, hd, ks, ps, nd⟩ := (show ObjOk X.prog X.w H' s.heap (m n) (.dK []) from I.hok _ _ hx')
        cases kv
        have es0 : es.toList = [] := by generalize es.toList = l at ps; cases ps; rfl
        have rd : Reads s.heap (.ref (m n)) (.dict []) ((m n) :: [] ++ []) := by
          refine Reads.dict ho hxd.1 hd ?_ ?_
          · rw [es0]; exact .nil
          · rw [es0]; exact .nil
        have nmem : sysModules ∉ ((m n) :: ([] : List Addr) ++ []) := fun z => by
          have z' : sysModules = m n := by simpa using z
          rw [z'] at nsm
          simp at nsm
        exact repr_of_reads' rd rfl (fun _ => nmem) L.gd (by have := L.un; show X.A.units + (PyData.depth (.dict []) + 1) < cLine; have : PyData.depth (.dict []) ≤ 100 := by decide
                                                             omega) (fun _ _ z => z) (fun h' u tk kp => ⟨.str "{}", H', I.kept (t' := tk) kp, ⟨u, by first | rfl | (show _ = Value.str (PyData.shown (.dict [])) u; rfl) | simp [PyData.shown]⟩, q⟩) (by decide +kernel)
      · cases hd
    · cases hd
  · split at P
    · rename_i d e
      split at P
      · rename_i q
        obtain ⟨q1, q2, q3, q4⟩ := q
        have dp := dp_of R 40 w _ d r e
        refine ⟨fun xs H' Q' => xs = [.ref a] ∧ Dp X.K H' (.ref a) d ∧ Q' (.str d.shown) H', ?_, rfl, L.K ▸ dp, P m H _ Ext.refl R (.str _)⟩
        intro pins s σ H' xs us Q' I rv hh
        obtain ⟨rfl, hx', q⟩ := hh
        obtain ⟨u, rfl, ru⟩ := vals1 rv
        obtain ⟨as, rd⟩ := Dp.reads I d _ u hx' ru
        obtain rfl : u = Value.ref a := ru
        exact repr_of_reads' rd q1 (PyData.noDict_hsm q2) L.gd (by have := L.un; omega) (fun _ _ z => z) (fun h' u tk kp => ⟨.str _, H', I.kept (t' := tk) kp, ⟨u, rfl⟩, q⟩) (by rw [lineSz]; exact q4)
      · exact P.elim
    · exact P.elim
theorem c_repr (L : Lit G X) : SC G X (.builtin "repr") bRepr := .mk fun m h H ws vs Z Q R r P => by
  unfold bRepr at P
  simp only [reprS_eq] at P
  split at P
  · rename_i x
    split at P
    · rename_i q
      cases r with
      | cons r1 r2 =>
        cases r1; cases r2
        refine ⟨fun xs H' Q' => xs = [.str x] ∧ Q' (.str (reprText x)) H', ?_, rfl, P m H _ Ext.refl R (.str _)⟩
        intro pins s σ H' xs us Q' I rv hh
        obtain ⟨rfl, hq⟩ := hh
        obtain ⟨u, rfl, t, rfl⟩ := vals1 rv
        exact PySem.P.repr_of_str ⟨.str _, H', I.tok _, ⟨_, rfl⟩, hq⟩ (by rw [lineSz]; exact q)
    · exact P.elim
  · rename_i i
    split at P
    · rename_i q
      cases r with
      | cons r1 r2 =>
        cases r1; cases r2
        refine ⟨fun xs H' Q' => xs = [.int i] ∧ Q' (.str (toString i)) H', ?_, rfl, P m H _ Ext.refl R (.str _)⟩
        intro pins s σ H' xs us Q' I rv hh
        obtain ⟨rfl, hq⟩ := hh
        obtain ⟨u, rfl, t, rfl⟩ := vals1 rv
        exact PySem.P.repr_of_int q ⟨.str _, H', I.tok _, ⟨_, rfl⟩, hq⟩
    · exact P.elim
  · rename_i y
    cases r with
    | cons r1 r2 =>
      cases r1; cases r2
      refine ⟨fun xs H' Q' => xs = [.bl y] ∧ Q' (.str (if y then "True" else "False")) H', ?_, rfl, P m H _ Ext.refl R (.str _)⟩
      intro pins s σ H' xs us Q' I rv hh
      obtain ⟨rfl, hq⟩ := hh
      obtain ⟨u, rfl, ru⟩ := vals1 rv
      obtain rfl : u = Value.bool y := ru
      exact PySem.P.repr_of_bool ⟨.str _, H', I.tok _, ⟨_, rfl⟩, hq⟩
  · cases r with
    | cons r1 r2 =>
      cases r1; cases r2
      refine ⟨fun xs H' Q' => xs = [.non] ∧ Q' (.str "None") H', ?_, rfl, P m H _ Ext.refl R (.str _)⟩
      intro pins s σ H' xs us Q' I rv hh
      obtain ⟨rfl, hq⟩ := hh
      obtain ⟨u, rfl, ru⟩ := vals1 rv
      obtain rfl : u = Value.none := ru
      exact PySem.P.repr_of_none ⟨.str _, H', I.tok _, ⟨_, rfl⟩, hq⟩
  · rename_i w h1 h2 h3 h4
    cases r with
    | cons r1 r2 =>
      cases r2
      cases r1 with
      | non => exact absurd rfl (h4 ·)
      | bl y => exact absurd rfl (h3 y ·)
      | int i => exact absurd rfl (h2 i ·)
      | str x => exact absurd rfl (h1 x ·)
      | tup hp hv => exact repr_deep L R (.tup hp hv) rfl P
      | ref n hn => exact repr_deep L R (.ref n hn) rfl P
      | cls c => exact repr_deep L R (.cls c) rfl P
  · exact P.elim
end
end Dr
set_option maxHeartbeats 2000000
namespace Dr
open PySem L2
/-! ### isinstance(x, T), T a built-in type -/
inductive Kd where
  | non | bl | int | str | tup | lst | dic
def Kd.nm : Kd → String
  | .non => "NoneType" | .bl => "bool" | .int => "int" | .str => "str" | .tup => "tuple" | .lst => "list" | .dic => "dict"
def tgOf (x : W) (h : IH) : Option Kd := match x with
  | .non => some .non
  | .bl _ => some .bl
  | .int _ => some .int
  | .str _ => some .str
  | .tup _ => some .tup
  | .ref n => (match h[n]? with
    | some (.lst _) => some .lst
    | some (.dic _) => some .dic
    | _ => none)
  | .cls _ => none
def eIsi (t : Kd → Bool) (a : Ev) : Ev := fun σ h => (a σ h).vb fun x h1 => match tgOf x h1 with
  | some g => .v (.bl (t g)) h1
  | none => .no
section
variable {G : Cfg} {X : Cx} {Z : WX} {k : Nat} {a b c : Ev} {ea eb ec : Expr} {pos : Pos}
theorem tg_of {m : Nat → Addr} {h : IH} {H : Hp} {x : W} {v : V} {g : Kd} (hK : X.K = G.K) (R : Rep G.K G.cl m h H) (r : RW G.K G.cl m h.length H x v) (e : tgOf x h = some g) : TyX X.K H v (.type g.nm) := by
  cases r with
  | non => cases e; exact .base .non
  | bl y => cases e; exact .base (.bl y)
  | int i => cases e; exact .base (.int i)
  | str y => cases e; exact .base (.str y)
  | tup hp hv =>
    cases e
    rcases hp with (hp | ⟨o, hp⟩) | hp
    · exact .base (.tup hp)
    · exact .fTuple hp
    · first
        | (obtain ⟨o, its, n, h1, h2, _⟩ := hp; exact .kTuple (hK ▸ h1) h2)
        | (obtain ⟨o, h1, h2, _⟩ := hp; exact .kTuple (hK ▸ h1) h2)
  | ref n hn =>
    unfold tgOf at e
    simp only at e
    split at e
    · rename_i ws q
      cases e
      obtain ⟨vs, hx, _⟩ := R.obj n _ q
      exact .base (.lst hx)
    · rename_i kvs q
      cases e
      obtain ⟨vs, hx, _⟩ := R.obj n _ q
      exact .base (.dK hx)
    · cases e
  | cls c => cases e
theorem s_isi {T : String} {x : Str} {t : Kd → Bool} {p p2 : Pos} (L : Lit G X) (ht : ∀ g, kitB g.nm T = some (t g)) (ha : SE G X Z a ea) (hm : X.mg "isinstance" = none) (hm2 : X.mg x = none) (hv2 : bootBuiltins x = some (.type T)) (hg : Gl X "isinstance" := by rfl) (hg2 : Gl X x := by rfl) (hn2 : x ≠ "__name__" := by decide) (hd2 : (x == ("__debug__" : Str)) = false := by decide)
    (he : starEach [ea, .Name x p2] X.env = (false, eval ea X.env) :: starEach [.Name x p2] X.env := by rfl) (he2 : starEach [.Name x p2] X.env = (false, eval (.Name x p2) X.env) :: starEach [] X.env := by rfl) (hpl : (backTo pos (starEach [.Name x p2] X.env)).any (·.1) = false := by rfl) :
    SE G X Z (eIsi t a) (.Call (.Name "isinstance" p) [ea, .Name x p2] [] pos) := .mk fun m h H σ τ Q R S P => by
  refine WE.of (pe_callB (call_isi (X := X)) hg hm (by decide +kernel) (pa_cons peM (pa_cons (pe_bltn (v := .ty T) hg2 hm2 hv2 rfl hn2 hd2) pa_nil he2) he) (by decide) (by decide) he hpl) (ha m h H σ τ _ R S (PoE.ee P fun w h1 m1 H1 v e1 R1 r1 P1 => ?_))
  split at P1
  · rename_i g e
    exact ⟨v, .ty T, .type g.nm, .type T, t g, rfl, .ty T, tg_of L.K R1 r1 e, kit_ty (ht g), P1 m1 H1 _ Ext.refl R1 (.bl _)⟩
  · exact P1.elim
/-! ### in a suite -/
def holds0 (σ : Sg) (i : Nat) : Bool := match σ[i]? with | some none => true | _ => false
theorem holds0_of {σ : Sg} {i : Nat} (h : holds0 σ i = true) : σ[i]? = some none := by
  unfold holds0 at h
  split at h
  · assumption
  · cases h
def eXf (i : Nat) (t : Nat → Bool) (c : Nat) (w : W) : Ev := fun σ h => if t c = true ∧ holds0 σ i = true then .v w h else .no
def XfOk (G : Cfg) (X : Cx) (t : Nat → Bool) (f : Str) : Prop := ∀ c, t c = true → XfC X.K (G.cl c) ∧ PySem.W.findIn X.K (.ref (G.cl c)) f = some none ∧ G.fn c = f
theorem s_xf {i : Nat} {f n : Str} {t : Nat → Bool} {ad dd : Addr} {oe : Obj} {pn : List (Addr × Obj)} {cc : Nat} {w : W} {p : Pos} (ok : XfOk G X t f) (hz : Zc (.ref (G.cl cc)) (some dd) oe) (hf : ∃ vs, oe.data = .fields vs)
    (hN : X.N[i]? = some n := by rfl) (hv : Vis X.env.scope n := by first | exact Or.inl rfl | exact Or.inr (Or.inl rfl) | exact Or.inr (Or.inr rfl)) (hd : (n == ("__debug__" : Str)) = false := by decide) (hcd : (n == ("__classdict__" : Str)) = false := by decide)
    (hb : attributeBase (.Name n p) f X.env (eval (.Name n p) X.env) = eval (.Name n p) X.env := by rfl) :
    SE (G.sui i ad dd cc w) (X.suite ad ((ad, oe) :: pn)) Z (eXf i t cc w) (.Attribute (.Name n p) f pos) := .mk fun m h H σ τ Q R S P => by
  unfold eXf at P
  split at P
  · rename_i q
    obtain ⟨o1, o2, o3⟩ := ok cc q.1
    refine WE.of (pe_xf (a := ad) (C := G.cl cc) o1 o2 hz hf (pe_var (X := X.suite ad ((ad, oe) :: pn)) (i := i) hN hv hd hcd) hb) ?_
    obtain ⟨v, h1, h2⟩ := S.xd dd cc w rfl
    exact ⟨_, S.xs i ad rfl (holds0_of q.2), rfl, rfl, dd, _, v, rfl, h1, by simp [List.lookup, o3], P m H v Ext.refl R h2⟩
  · exact P.elim
def eXi (i : Nat) (t : Nat → Option Bool) (c : Nat) : Ev := fun σ h => if holds0 σ i = true then (match t c with | some b => .v (.bl b) h | none => .no) else .no
theorem call_xi {ad dd D : Addr} {oe : Obj} {pn : List (Addr × Obj)} (C : ExcC X.K D) (hz : Zc (.ref D) (some dd) oe) (hf : ∃ vs, oe.data = .fields vs) : CallR (X.suite ad ((ad, oe) :: pn)) (.builtin "isinstance")
    (fun xs H Q => ∃ (c : V) (cv : Value) (b : Bool) (fs : List (Str × V)), xs = [.ref ad, c] ∧ ClsV c cv ∧ PySem.W.kitOne X.K (.ref D) cv = some b ∧ H dd = some (.xd fs) ∧ Q (.bl b) H) := by
  intro pins s σ H xs us Q I r h
  obtain ⟨c, cv, b, fs, rfl, k, e, hdd, q⟩ := h
  obtain ⟨u1, u2, rfl, r1, r2⟩ := vals2 r
  obtain rfl : u1 = Value.ref ad := r1
  have e2 := k.eq r2
  subst e2
  obtain ⟨hget, _⟩ := I.pin (ad, oe) (List.mem_append.mpr (.inl List.mem_cons_self))
  obtain ⟨vs, hv⟩ := hf
  obtain ⟨mA, hns, hr⟩ := (show ObjOk X.prog X.w H s.heap dd (.xd fs) from I.hok dd _ hdd)
  obtain ⟨od, ho, hl⟩ := lookIn_ns hns
  have J : PySem.W.InstAt s.heap ad oe D (some od) := ⟨hget, hz.1, by unfold PySem.W.notCls; rw [hv] <;> rfl, by rw [hz.2]; exact ho⟩
  exact PySem.W.kia_one (PySem.W.drKit (ox := oe) C) I.kIn ⟨_, J⟩ e (fun z => nomatch z) fun tk => ⟨.bl b, H, I.kept (t' := tk) fun _ _ z => z, rfl, q⟩
/-- a class by its name: an own one or a built-in one -/
def CName (X : Cx) (x : Str) (c : V) (cv : Value) : Prop := ClsV c cv ∧ RelV c cv ∧ (X.mg x = some cv ∨ (X.mg x = none ∧ bootBuiltins x = some cv))
theorem pe_cname {x : Str} {c : V} {cv : Value} {p : Pos} (h : CName X x c cv) (hg : Gl X x) (hn : x ≠ "__name__") (hd : (x == ("__debug__" : Str)) = false) : PE X (.Name x p) (tC c) := by
  obtain ⟨_, r, h | ⟨h1, h2⟩⟩ := h
  · exact pe_glob hg h r hd
  · exact pe_bltn hg h1 h2 r hn hd
def XiOk (G : Cfg) (X : Cx) (t : Nat → Option Bool) (cv : Value) : Prop := ∀ c b, t c = some b → ExcC X.K (G.cl c) ∧ PySem.W.kitOne X.K (.ref (G.cl c)) cv = some b
theorem s_xi {i : Nat} {n x : Str} {c : V} {cv : Value} {t : Nat → Option Bool} {ad dd : Addr} {oe : Obj} {pn : List (Addr × Obj)} {cc : Nat} {w : W} {p p1 p2 : Pos} (ok : XiOk G X t cv) (cn : CName X x c cv) (hz : Zc (.ref (G.cl cc)) (some dd) oe) (hf : ∃ vs, oe.data = .fields vs) (hm : X.mg "isinstance" = none)
    (hg : Gl X "isinstance" := by rfl) (hg2 : Gl X x := by rfl) (hn2 : x ≠ "__name__" := by decide) (hd2 : (x == ("__debug__" : Str)) = false := by decide)
    (hN : X.N[i]? = some n := by rfl) (hv : Vis X.env.scope n := by first | exact Or.inl rfl | exact Or.inr (Or.inl rfl) | exact Or.inr (Or.inr rfl)) (hd : (n == ("__debug__" : Str)) = false := by decide) (hcd : (n == ("__classdict__" : Str)) = false := by decide)
    (he : starEach [.Name n p1, .Name x p2] X.env = (false, eval (.Name n p1) X.env) :: starEach [.Name x p2] X.env := by rfl) (he2 : starEach [.Name x p2] X.env = (false, eval (.Name x p2) X.env) :: starEach [] X.env := by rfl) (hpl : (backTo pos (starEach [.Name x p2] X.env)).any (·.1) = false := by rfl) :
    SE (G.sui i ad dd cc w) (X.suite ad ((ad, oe) :: pn)) Z (eXi i t cc) (.Call (.Name "isinstance" p) [.Name n p1, .Name x p2] [] pos) := .mk fun m h H σ τ Q R S P => by
  unfold eXi at P
  split at P
  · rename_i q
    split at P
    · rename_i y ty
      obtain ⟨o1, o2⟩ := ok cc y ty
      refine WE.of (pe_callB (call_xi (X := X) (ad := ad) o1 hz hf) hg hm (by decide +kernel) (pa_cons (pe_var (X := X.suite ad ((ad, oe) :: pn)) (i := i) hN hv hd hcd) (pa_cons (pe_cname (X := X.suite ad ((ad, oe) :: pn)) cn hg2 hn2 hd2) pa_nil he2) he) (by decide) (by decide) he hpl) ?_
      obtain ⟨v, h1, h2⟩ := S.xd dd cc w rfl
      exact ⟨_, S.xs i ad rfl (holds0_of q), c, cv, y, _, rfl, cn.1, o2, h1, P m H _ Ext.refl R (.bl _)⟩
    · exact P.elim
  · exact P.elim
/-! ### {} -/
def eDic0 : Ev := fun _ h => .v (.ref h.length) (h ++ [.dic []])
theorem s_dic0 : SE G X Z eDic0 (.Dict [] [] pos) := .mk fun m h H σ τ Q R S P => by
  refine WE.of pe_dnewK (fun p hp => ?_)
  obtain ⟨R', E'⟩ := R.push (q := p) (u := .dK []) (o := .dic []) hp ⟨_, upd_same, .nil⟩
  refine P _ _ (.ref p) E' R' ?_
  have q := RW.ref (K := G.K) (cl := G.cl) (m := ext1 m h.length p) (L := (h ++ [IO.dic []]).length) (H := upd H p (.dK [])) h.length (by simp)
  have l : ext1 m h.length p h.length = p := by unfold ext1; rw [if_pos rfl]
  rw [l] at q; exact q
end
end Dr
set_option maxHeartbeats 2000000
namespace Dr
open PySem L2
/-! ### match of a text with texts -/
def hasS (z : Str) : List Str → Bool
  | [] => false
  | x :: r => if eqS z x = true then true else hasS z r
theorem hasS_eq (z : Str) : ∀ xs : List Str, hasS z xs = xs.contains z
  | [] => rfl
  | x :: r => by
    unfold hasS
    rw [eqS_eq, hasS_eq z r, List.contains_cons]
    by_cases e : z = x
    · subst e; simp
    · have e' : (z == x) = false := by simpa using e
      simp [e, e']
def runM : List (List Str × Ev) → Str → Ev
  | [], _ => fun σ h => .nx σ h
  | (ps, b) :: r, z => fun σ h => if hasS z ps = true then b σ h else runM r z σ h
def eMatch (a : Ev) (cs : List (List Str × Ev)) : Ev := fun σ h => (a σ h).vb fun x h1 => match x with
  | .str z => runM cs z σ h1
  | _ => .no
inductive Pats : List Str → List Pattern → Prop
  | nil : Pats [] []
  | cons {x : Str} {j : Nat} {p p2 : Pos} {xs : List Str} {ps : List Pattern} (r : Pats xs ps) : Pats (x :: xs) (.MatchValue (.Constant (.str x) j p) p2 :: ps)
inductive SMc (G : Cfg) (X : Cx) (Z : WX) : List (List Str × Ev) → List MatchCase → Prop
  | nil : SMc G X Z [] []
  | one {x : Str} {j : Nat} {p p2 : Pos} {b : Ev} {body : List Stmt} {cs : List (List Str × Ev)} {ms : List MatchCase} (hb : SB G X Z b body) (r : SMc G X Z cs ms) : SMc G X Z (([x], b) :: cs) (⟨.MatchValue (.Constant (.str x) j p) p2, none, body⟩ :: ms)
  | many {xs : List Str} {ps : List Pattern} {p3 : Pos} {b : Ev} {body : List Stmt} {cs : List (List Str × Ev)} {ms : List MatchCase} (hp : Pats xs ps) (hn : namesOfAll (ps.take 1) = []) (hb : SB G X Z b body) (r : SMc G X Z cs ms) : SMc G X Z ((xs, b) :: cs) (⟨.MatchOr ps p3, none, body⟩ :: ms)
section
variable {G : Cfg} {X : Cx} {Z : WX} {k : Nat} {a b c : Ev} {ea eb ec : Expr} {pos : Pos}
theorem pat_one {pins : List (Addr × Obj)} {s : Shared} {τ : St} {H : Hp} {z x : Str} {t : Tok} {j : Nat} {p p2 : Pos} {Q : Option (List (Str × Value)) → Shared → Prop} (I : Inv X pins τ H s) (h : ∀ s', Inv X pins τ H s' → Q (if z = x then some [] else none) s') :
    wpAny (model X.prog X.w) X.A (matchPattern (.MatchValue (.Constant (.str x) j p) p2) X.env (.str z t)) Q X.xe s := by
  refine wpAny_matchPattern_Value (thn ((pe_str (X := X) (x := x) (j := j) (pos := p)).run pins s τ H (fun v H' => v = .str x ∧ H' = H) I ⟨rfl, rfl⟩) fun u s1 hh => ?_)
  obtain ⟨v, H1, I1, r1, rfl, rfl⟩ := hh
  refine thn (op_eq pins s1 τ H1 (.str z) (.str x) (.str z t) u (fun v H' => v = .bl (decide (z = x)) ∧ H' = H1) I1 ⟨t, rfl⟩ r1 ⟨rfl, by simp, rfl⟩) fun w s2 hh2 => ?_
  obtain ⟨v2, H2, I2, r2, rfl, rfl⟩ := hh2
  obtain rfl : w = Value.bool (decide (z = x)) := r2
  refine wpAny_truthy_bool ?_
  have q := h s2 I2
  by_cases e : z = x
  · rw [if_pos e] at q
    rw [decide_eq_true e, if_pos rfl]
    exact q
  · rw [if_neg e] at q
    rw [decide_eq_false e, if_neg Bool.false_ne_true]
    exact q
theorem pat_all {pins : List (Addr × Obj)} {τ : St} {H : Hp} {z : Str} {t : Tok} {xs : List Str} {ps : List Pattern} (hp : Pats xs ps) : ∀ {s : Shared} {Q : Option (List (Str × Value)) → Shared → Prop}, Inv X pins τ H s → (∀ s', Inv X pins τ H s' → Q (if xs.contains z = true then some [] else none) s') →
    wpAny (model X.prog X.w) X.A (matchFirst ps X.env (.str z t)) Q X.xe s := by
  induction hp with
  | nil => intro s Q I h; exact wpAny_matchFirst_nil (h s I)
  | @cons x j p p2 xs ps r ih =>
    intro s Q I h
    refine wpAny_matchFirst_cons (pat_one I fun s1 I1 => ?_)
    by_cases e : z = x
    · rw [if_pos e]
      have q := h s1 I1
      rw [if_pos (by rw [List.contains_cons, e]; simp)] at q
      exact q
    · rw [if_neg e]
      refine ih I1 fun s2 I2 => ?_
      have q := h s2 I2
      rw [List.contains_cons] at q
      have e' : (z == x) = false := by simpa using e
      rw [e', Bool.false_or] at q
      exact q
theorem mc_run {cs : List (List Str × Ev)} {ms : List MatchCase} (hm : SMc G X Z cs ms) : ∀ {m : Nat → Addr} {h : IH} {H : Hp} {σ : Sg} {τ : St} {D : Ends} {z : Str} {t : Tok} {pins : List (Addr × Obj)} {s : Shared} {first : Bool}, Rep G.K G.cl m h H → RSt G m h.length H σ τ →
    PoS G m h.length H Z D (runM cs z σ h) → Inv X pins τ H s → wpAny (model X.prog X.w) X.A (matchCases ms X.env (.str z t) first) (SP X pins D) X.xe s := by
  induction hm with
  | nil => intro m h H σ τ D z t pins s first R S P I; exact wpAny_matchCases_nil ⟨τ, H, I, P m H τ Ext.refl R S⟩
  | @one x j p p2 b body cs ms hb r ih =>
    intro m h H σ τ D z t pins s first R S P I
    refine wpAny_matchCases_cons (pat_one I fun s1 I1 => ?_)
    unfold runM at P
    rw [hasS_eq] at P
    by_cases e : z = x
    · rw [if_pos e]
      rw [if_pos (by rw [e]; simp)] at P
      exact wpAny_assignInOrder_none (hb m h H σ τ D R S P pins s1 I1)
    · rw [if_neg e]
      rw [if_neg (by simpa using e)] at P
      exact ih R S P I1
  | @many xs ps p3 b body cs ms hp hn hb r ih =>
    intro m h H σ τ D z t pins s first R S P I
    refine wpAny_matchCases_cons (wpAny_matchPattern_Or (pat_all hp I fun s1 I1 => ?_))
    unfold runM at P
    rw [hasS_eq] at P
    by_cases e : xs.contains z = true
    · rw [if_pos e] at P ⊢
      simp only [hn]
      exact wpAny_assignInOrder_none (hb m h H σ τ D R S P pins s1 I1)
    · rw [if_neg e] at P ⊢
      exact ih R S P I1
theorem v_match {cs : List (List Str × Ev)} {ms : List MatchCase} (ha : SE G X Z a ea) (hm : SMc G X Z cs ms) : SS G X Z (eMatch a cs) (.Match ea ms pos) := .mk fun m h H σ τ D R S P pins s I => by
  refine wpAny_Match (thn (ha m h H σ τ (fun v H1 => ∃ z m1 h1, v = .str z ∧ Rep G.K G.cl m1 h1 H1 ∧ RSt G m1 h1.length H1 σ τ ∧ PoS G m1 h1.length H1 Z D (runM cs z σ h1)) R S (PoS.es P fun w h1 m1 H1 v e1 R1 r1 P1 => ?_) pins s I) fun u s1 hh => ?_)
  · cases r1 <;> first | exact P1.elim | exact ⟨_, m1, h1, rfl, R1, S.mono e1, P1⟩
  · obtain ⟨v, H1, I1, r1, z, m1, h1, rfl, R1, S1, P1⟩ := hh
    obtain ⟨t, rfl⟩ := r1
    exact mc_run hm R1 S1 P1 I1
/-! ### x or y as a value; the left one a text or None -/
def eOrV (a b : Ev) : Ev := fun σ h => (a σ h).vb fun x h1 => match x with
  | .str z => if z.length = 0 then b σ h1 else if z.length ≤ 16777216 then .v (.str z) h1 else .no
  | .non => b σ h1
  | _ => .no
theorem s_orV {rest : List Expr} (ha : SE G X Z a ea) (hb : SE G X Z b (.BoolOp .Or (eb :: rest) pos)) : SE G X Z (eOrV a b) (.BoolOp .Or (ea :: eb :: rest) pos) := .mk fun m h H σ τ Q R S P => by
  refine WE.of (pe_orT peM peM) (ha m h H σ τ _ R S (PoE.ee P fun x h1 m1 H1 v1 e1 R1 r1 P1 => ?_))
  cases r1 <;> first | exact P1.elim | skip
  · refine ⟨false, ?_, iteF (hb m1 h1 H1 σ τ Q R1 (S.mono e1) P1)⟩
    first | exact .non | exact TruV.non | rfl | trivial
  · rename_i z
    simp only at P1
    split at P1
    · rename_i q
      refine ⟨false, ⟨by rw [q]; exact Nat.zero_le _, by rw [q]; rfl⟩, iteF (hb m1 h1 H1 σ τ Q R1 (S.mono e1) P1)⟩
    · rename_i q
      split at P1
      · rename_i l
        exact ⟨true, ⟨by rw [lineSz]; exact l, by simp [bne, q]⟩, iteT (P1 m1 H1 _ Ext.refl R1 (.str _))⟩
      · exact P1.elim
/-! ### x += e, ints or texts -/
def oAddX : W → W → IH → Out
  | .int i, .int j, h => .v (.int (i + j)) h
  | .str i, .str j, h => if i.length + j.length ≤ 16777216 then .v (.str (appS i j)) h else .no
  | _, _, _ => .no
def WIpp (X : Cx) : TIp := fun x y H Q => ∃ ti, PIp X .Add ti ∧ ti x y H Q
theorem pipM : PIp X .Add (WIpp X) := fun pins s σ H x y v u Q I r1 r2 h => let ⟨_, o, q⟩ := h; o pins s σ H x y v u Q I r1 r2 q
theorem v_augX (i : Nat) {x : Str} {pos' : Pos} (ha : SE G X Z a ea) (hN : X.N.Nodup) (hi : X.N[i]? = some x := by rfl) (hx : Loc X.env.scope x := by first | exact Or.inl rfl | exact Or.inr rfl)
    (hf : X.fn x = true ∨ X.env.scope.names.lookup x = some .local := by first | exact .inl rfl | exact .inr rfl) : SS G X Z (eAug i oAddX a) (.AugAssign (.Name x pos') .Add ea pos) := .mk fun m h H σ τ D R S P => by
  refine WS.of (ps_aug hN hi hx peM pipM hf) ?_
  unfold eAug at P
  cases e : σ[i]? with
  | none => rw [e] at P; exact P.elim
  | some o =>
    cases o with
    | none => rw [e] at P; exact P.elim
    | some w =>
      rw [e] at P
      obtain ⟨v, h1, h2⟩ := S.get i w e
      refine ⟨v, h1, ha m h H σ τ _ R S (PoS.es P fun y h1 m1 H1 v1 e1 R1 r1 P1 => ?_)⟩
      have h2' := h2.mono e1
      cases h2' <;> cases r1 <;> first | exact P1.elim | skip
      · exact ⟨_, ip_add, _, _, rfl, rfl, P1 m1 H1 _ Ext.refl R1 ((S.mono e1).set i (.int _))⟩
      · rename_i p q
        simp only [oAddX, appS_eq] at P1
        split at P1
        · rename_i l
          exact ⟨_, iop_add_str, _, _, rfl, rfl, by rw [lineSz]; exact l, P1 m1 H1 _ Ext.refl R1 ((S.mono e1).set i (.str _))⟩
        · exact P1.elim
end
end Dr
set_option maxHeartbeats 2000000
namespace Dr
open PySem L2
/-! ### values without references -/
mutual
def W.flat : W → Bool
  | .ref _ => false
  | .tup ws => flats ws
  | _ => true
def flats : List W → Bool
  | [] => true
  | w :: ws => w.flat && flats ws
end
section
variable {G : Cfg} {K : PySem.W.Frag} {cl m m' : Nat → Addr} {L L' : Nat} {H H' : Hp}
mutual
theorem RW.flat : ∀ {w : W} {v : V}, w.flat = true → RW K cl m L H w v → RW K cl m' L' H w v
  | _, _, _, .non => .non
  | _, _, _, .bl b => .bl b
  | _, _, _, .int i => .int i
  | _, _, _, .str x => .str x
  | .tup ws, _, f, .tup h hs => .tup h (RWs.flat (by unfold W.flat at f; exact f) hs)
  | _, _, _, .cls c => .cls c
theorem RWs.flat : ∀ {ws : List W} {vs : List V}, flats ws = true → RWs K cl m L H ws vs → RWs K cl m' L' H ws vs
  | _, _, _, .nil => .nil
  | w :: ws, _, f, .cons a b => by
    unfold flats at f
    have f := Bool.and_eq_true_iff.mp f
    exact .cons (RW.flat f.1 a) (RWs.flat f.2 b)
end
/-- what a run that knows nothing of our objects leaves of them -/
theorem Ext.wide (e : Ext K m 0 H m' L' H') : Ext K m L H m L H' :=
  ⟨Nat.le_refl _, fun _ _ => rfl, e.tup, e.xd, fun a u h _ nb => e.fr a u h (fun n z => absurd z (Nat.not_lt_zero n)) nb, fun d x h hx _ => e.fd d x h hx fun n z => absurd z (Nat.not_lt_zero n), e.fx, fun n h1 h2 => absurd h2 (Nat.not_lt.mpr h1), e.dom⟩
theorem OR.wide {m2 : Nat → Addr} {L2 : Nat} {a : Addr} {o : IO} (q : OR K cl m L H a o) (e : Ext K m 0 H m' L' H') (ew : Ext K m L H m2 L2 H') : OR K cl m2 L2 H' a o := by
  have keep : ∀ a u, H a = some u → ¬ Bes u → H' a = some u := fun a u z nb => e.fr a u z (fun n z => absurd z (Nat.not_lt_zero n)) nb
  cases o with
  | lst ws => obtain ⟨vs, x, y⟩ := q; exact ⟨vs, keep _ _ x (fun z => by rcases z with ⟨_, z⟩ | z <;> cases z), y.mono ew⟩
  | rol ws =>
    obtain ⟨vs, x, y⟩ := q
    refine ⟨vs, ?_, y.mono ew⟩
    rcases x with ⟨o, x⟩ | x
    · exact .inl ⟨o, keep _ _ x (fun z => by rcases z with ⟨_, z⟩ | z <;> cases z)⟩
    · exact .inr x
  | ins c fs => obtain ⟨dx, vs, x, y⟩ := q; exact ⟨dx, vs, keep _ _ x (fun z => by rcases z with ⟨_, z⟩ | z <;> cases z), y.mono ew⟩
  | dic kvs => obtain ⟨vs, x, y⟩ := q; exact ⟨vs, keep _ _ x (fun z => by rcases z with ⟨_, z⟩ | z <;> cases z), y.mono ew⟩
  | exc c f w => obtain ⟨d, v, x, z, y⟩ := q; exact ⟨d, v, keep _ _ x (fun z => by rcases z with ⟨_, z⟩ | z <;> cases z), e.xd _ _ _ z, y.mono ew⟩
  | slt c ws =>
    obtain ⟨dx, vs, x, y⟩ := q
    refine ⟨dx, vs, ?_, fun i w z => let ⟨v, z1, z2⟩ := y i w z; ⟨v, z1, z2.mono ew⟩⟩
    rcases x with ⟨x1, x2, x3⟩ | ⟨x1, x3⟩
    · exact .inl ⟨keep _ _ x1 (fun z => by rcases z with ⟨_, z⟩ | z <;> cases z), x2, e.fd _ _ x3 (by rw [x1]; exact fun z => by cases z) (fun n z => absurd z (Nat.not_lt_zero n))⟩
    · exact .inr ⟨keep _ _ x1 (fun z => by rcases z with ⟨_, z⟩ | z <;> cases z), e.fx _ x3⟩
theorem Rep.wide {h : IH} (R : Rep K cl m h H) (e : Ext K m 0 H m' L' H') : Rep K cl m h H' := ⟨fun n o hn => (R.obj n o hn).wide e e.wide, R.inj⟩
theorem Rep.none : Rep K cl m [] H := ⟨fun n o z => by simp at z, fun i j oi oj z => by simp at z⟩
/-- a list that the run made joins our objects -/
theorem Rep.join {h h' : IH} {n : Nat} {ls : List W} (R : Rep K cl m h H) (e : Ext K m 0 H m' h'.length H') (R' : Rep K cl m' h' H') (hn : h'[n]? = some (.lst ls)) (hf : flats ls = true) :
    Rep K cl (ext1 m h.length (m' n)) (h ++ [.lst ls]) H' ∧ Ext K m h.length H (ext1 m h.length (m' n)) (h ++ [IO.lst ls]).length H' := by
  have hl : n < h'.length := (List.getElem?_eq_some_iff.mp hn).1
  have free : H (m' n) = .none := e.new n (Nat.zero_le _) hl
  have ew : Ext K m h.length H m h.length H' := e.wide
  have last : ext1 m h.length (m' n) h.length = m' n := by unfold ext1; rw [if_pos rfl]
  have at_ : ∀ j, j < h.length → ext1 m h.length (m' n) j = m j := fun j hj => by unfold ext1; rw [if_neg (Nat.ne_of_lt hj)]
  have E : Ext K m h.length H (ext1 m h.length (m' n)) (h ++ [IO.lst ls]).length H' := by
    rw [List.length_append]
    refine ⟨Nat.le_succ _, at_, ew.tup, ew.xd, ew.fr, ew.fd, ew.fx, fun j h1 h2 => ?_, ew.dom⟩
    have : j = h.length := by simp at h2; omega
    subst this
    rw [last]; exact free
  have split : ∀ (j : Nat) ob, (h ++ [IO.lst ls])[j]? = some ob → (j < h.length ∧ h[j]? = some ob) ∨ (j = h.length ∧ ob = .lst ls) := fun j ob hj => by
    by_cases q : j < h.length
    · rw [List.getElem?_append_left q] at hj; exact .inl ⟨q, hj⟩
    · have hb : j < (h ++ [IO.lst ls]).length := (List.getElem?_eq_some_iff.mp hj).1
      rw [List.length_append, List.length_singleton] at hb
      have : j = h.length := by omega
      subst this
      rw [List.getElem?_append_right (Nat.le_refl _), Nat.sub_self] at hj
      cases hj
      exact .inr ⟨rfl, rfl⟩
  have off : ∀ j oj, h[j]? = some oj → oj.own = true → m j ≠ m' n := fun j oj hj wj z => by
    obtain ⟨u, hu, _⟩ := (R.obj j oj hj).has wj
    rw [z, free] at hu; cases hu
  refine ⟨⟨fun j ob hj => ?_, fun i j oi oj hi hj wi wj => ?_⟩, E⟩
  · rcases split j ob hj with ⟨q, hj⟩ | ⟨rfl, rfl⟩
    · rw [at_ j q]; exact (R.obj j ob hj).wide e E
    · rw [last]
      obtain ⟨vs, x, y⟩ := R'.obj n _ hn
      exact ⟨vs, x, y.flat hf⟩
  · rcases split i oi hi with ⟨qi, hi⟩ | ⟨rfl, rfl⟩
    · rcases split j oj hj with ⟨qj, hj⟩ | ⟨rfl, rfl⟩
      · rw [at_ i qi, at_ j qj]; exact R.inj i j oi oj hi hj wi wj
      · rw [at_ i qi, last]; exact fun z => absurd z (off i oi hi wi)
    · rcases split j oj hj with ⟨qj, hj⟩ | ⟨rfl, rfl⟩
      · rw [at_ j qj, last]; exact fun z => absurd z.symm (off j oj hj wj)
      · intro _; rfl
/-- a function that is asked and answers without references: it may run on an empty heap, and what it made is forgotten -/
def pureFn (f : Fn) : Fn := fun ws h => if flats ws = true then (match f ws [] with
  | .v (.ref n) h' => (match h'[n]? with | some (.lst ls) => if flats ls = true then .v (.ref h.length) (h ++ [.lst ls]) else .no | _ => .no)
  | .v w _ => if w.flat = true then .v w h else .no
  | .ex c w _ _ => if w.flat = true then .ex c w [] h else .no
  | _ => .no) else .no
theorem sp_pure {f : Fn} {n : Nat} (vs : List V) (H : Hp) (Q : VK) (E : XK) (sp : spC G n (pureFn f) vs H Q E) : spC G n f vs H Q E := by
  obtain ⟨m, h, ws, hl, R, r, P⟩ := sp
  unfold pureFn at P
  split at P
  · rename_i hf
    refine ⟨m, [], ws, hl, .none, r.flat hf, ?_⟩
    split at P
    · rename_i k h' e
      rw [e]
      split at P
      · rename_i ls el
        split at P
        · rename_i hfl
          intro m' H' v ex R' r'
          cases r'
          obtain ⟨R2, E2⟩ := R.join ex R' el hfl
          refine P _ H' _ E2 R2 ?_
          have q := RW.ref (K := G.K) (cl := G.cl) (m := ext1 m h.length (m' k)) (L := (h ++ [IO.lst ls]).length) (H := H') h.length (by simp)
          have l : ext1 m h.length (m' k) h.length = m' k := by unfold ext1; rw [if_pos rfl]
          rw [l] at q; exact q
        · exact P.elim
      · exact P.elim
    · rename_i w h' nr e
      rw [e]
      split at P
      · rename_i hw
        intro m' H' v ex R' r'
        exact P m H' v ex.wide (R.wide ex) (r'.flat hw)
      · exact P.elim
    · rename_i c w s h' e
      rw [e]
      split at P
      · rename_i hw
        intro m' H' d v ex R' r' hd
        exact P m H' d v ex.wide (R.wide ex) (r'.flat hw) hd
      · exact P.elim
    · exact P.elim
  · exact P.elim
theorem pureFn_len {f : Fn} {n : Nat} (hf : ∀ ws h, ws.length ≠ n → f ws h = .no) (ws : List W) (h : IH) (hl : ws.length ≠ n) : pureFn f ws h = .no := by
  unfold pureFn
  rw [hf ws [] hl]
  split <;> rfl
theorem FOk.pure {X : Cx} {k : Nat} {f : Addr} {fn : Fn} {dw : List W} (ok : FOk G X k f fn dw) : FOk G X k f (pureFn fn) dw := by
  obtain ⟨fd, ps, ds, dvs, Fo, hb, hd, hw, ar⟩ := ok
  exact ⟨fd, ps, ds, dvs, Fo.imp sp_pure, hb, hd, hw, fun ws h hl => pureFn_len ar ws h hl⟩
end
end Dr
set_option maxHeartbeats 2000000
namespace Dr
open PySem L2 PySem.Spec PyProof.Rows
/-! ### the law's own call -/
section
variable {P : Program} {w : World} {K : PySem.W.Frag} {mg mb : Str → Option Value} {k : Nat} {fa a : Addr} {fd : FuncData} {x : Str} {sp : Sp} {s₁ : Shared} {vs : List Value} {ns : List Int}
/-- the start of the tracked heap: at most the script -/
structure Sta (P : Program) (w : World) (K : PySem.W.Frag) (s₁ : Shared) (a : Addr) (ns : List Int) (H : Hp) : Prop where
  only : Only H
  sq : SqL K H a (ns.map V.int)
  ok : HOk P w H s₁.heap
  at_ : ∀ b, H b ≠ none → b = a
  off : H a ≠ none → K.lookup a = none
theorem sta_of (KX : K.In s₁.heap) (ha : s₁.heap.get? a = some { cls := .type "list", data := .seq vs.toArray }) (hi : IntsAre vs ns) (hl : ns.length ≤ sizeLine) : ∃ H, Sta P w K s₁ a ns H := by
  cases hk : K.lookup a with
  | some o =>
    have e := KX a o hk
    rw [ha] at e
    cases e
    refine ⟨fun _ => none, fun _ => .inl rfl, .inr ⟨_, vs.toArray, _, hk, rfl, rfl, rfl, ?_, by simpa using vals_ints hi⟩, fun b u z => ?_, fun b z => absurd rfl z, fun z => absurd rfl z⟩
    · rw [List.size_toArray, hi.length]; exact hl
    · exact absurd z (by simp)
  | none =>
    have pick : ∀ b, (b = a ∧ (fun b => if b = a then some (HO.frz { cls := .type "list", data := .seq vs.toArray } (.lst (ns.map V.int))) else none) b = some (HO.frz { cls := .type "list", data := .seq vs.toArray } (.lst (ns.map V.int)))) ∨
        (b ≠ a ∧ (fun b => if b = a then some (HO.frz { cls := .type "list", data := .seq vs.toArray } (.lst (ns.map V.int))) else none) b = none) := fun b => by
      by_cases q : b = a
      · exact .inl ⟨q, if_pos q⟩
      · exact .inr ⟨q, if_neg q⟩
    refine ⟨fun b => if b = a then some (.frz { cls := .type "list", data := .seq vs.toArray } (.lst (ns.map V.int))) else none, fun b => ?_, .inl (.inr ⟨_, if_pos rfl⟩), fun b u z => ?_, fun b z => ?_, fun _ => hk⟩
    · rcases pick b with ⟨_, q⟩ | ⟨_, q⟩
      · exact .inr ⟨_, _, q⟩
      · exact .inl q
    · rcases pick b with ⟨rfl, q⟩ | ⟨_, q⟩
      · have z' := q.symm.trans z
        cases z'
        exact ⟨ha, by rw [List.length_map]; exact hl, vs, _, vals_ints hi, ha⟩
      · have z' := q.symm.trans z
        cases z'
    · rcases pick b with ⟨e, _⟩ | ⟨_, q⟩
      · exact e
      · exact absurd q z
theorem head_go (KX : K.In s₁.heap) (hns : s₁.heap.Ns mainGlobals mg) (hb : s₁.heap.Ns builtinsNs mb) (hbb : ∀ x : Str, x ≠ "__name__" → mb x = bootBuiltins x) (hlim : s₁.heap.NoLimit) (hg : s₁.gens = #[])
    (ha : s₁.heap.get? a = some { cls := .type "list", data := .seq vs.toArray }) (hi : IntsAre vs ns) (hl : ns.length ≤ sizeLine) (hr : Room k callerA)
    (F : ∀ base : Heap, K.In base → base.Ns mainGlobals mg → FnG P w K mg base k fa fd [x] sp) (hbind : ∀ (s : Shared) (u : Value), BindsTo s fd ⟨[u], []⟩ [(x, u)])
    (hsp : ∀ H : Hp, Only H → SqL K H a (ns.map V.int) → sp [.ref a] H (fun v _ => v = .bl true) fun _ _ _ => False) :
    codeAny (model P w) callerA (.call (.ref fa) ⟨[.ref a], []⟩) (fun r s' => r = .ok (.ret (.bool true)) ∧ OldK s₁.heap s'.heap ∧ s'.os = s₁.os ∧ AllBare s'.gens) s₁ := by
  obtain ⟨H, T⟩ := sta_of (P := P) (w := w) KX ha hi hl
  have free : ∀ {b : Addr} {o : Obj}, s₁.heap.get? b = some o → (∀ its n, o.data ≠ .seq its n) → H b = none := fun {b o} e nd => by
    cases q : H b with
    | none => rfl
    | some u =>
      have z : b = a := T.at_ b (by rw [q]; exact fun z => by cases z)
      subst z
      rw [ha] at e; cases e
      exact absurd rfl (nd _ _)
  have names : ∀ {b : Addr} {m : Str → Option Value}, s₁.heap.Ns b m → (hidT s₁.heap H).Ns b m := fun {b m} ⟨o, es, ep, e, d, r⟩ => ⟨o, es, ep, hidT_get e (free e fun its n z => by rw [d] at z; cases z), d, r⟩
  have inB : K.In (hidT s₁.heap H) := fun b o e => hidT_get (KX b o e) (by
    cases q : H b with
    | none => rfl
    | some u =>
      have nn : H b ≠ none := by rw [q]; exact fun z => by cases z
      have z : b = a := T.at_ b nn
      subst z
      rw [T.off nn] at e; cases e)
  obtain ⟨mc, l1, l2⟩ := hlim
  have e0 : Env0 P w K mg (hidT s₁.heap H) callerA [] s₁ H := ⟨rfl, ⟨inB, names hns, ⟨mb, names hb, hbb⟩, ⟨mc, names l1, l2⟩⟩, fun b o e => of_hidT e, Nat.le_of_eq (hidT_size _ _), trivial, (fun b z => absurd (show b ∈ ([] : List Addr) from z) (by simp)), T.ok, .of_eq hg⟩
  refine codeAny_mono ((F _ inB (names hns)).go callerA [] s₁ H ⟨[.ref a], []⟩ [.ref a] [.ref a] _ _ rfl hr e0 (hbind s₁ (.ref a)) (.cons rfl .nil) (hsp H T.only T.sq)) fun r s' h => ?_
  cases r with
  | error e =>
    obtain ⟨_, _, _, _, _, _, _, _, _, _, _, _, z⟩ := h
    exact z.elim
  | ok fl =>
    cases fl with
    | next => exact False.elim h
    | brk => exact False.elim h
    | cont => exact False.elim h
    | ret u =>
      obtain ⟨v, H', os, bare, un, hok', r', q⟩ := h
      have q' : v = .bl true := q
      subst q'
      obtain rfl : u = Value.bool true := r'
      refine ⟨rfl, OldK.of_keep fun b o e => ?_, os, bare⟩
      rcases T.only b with z | ⟨ob, xs, z⟩
      · exact un.keep b o e z (fun y => absurd (show b ∈ ([] : List Addr) from y) (by simp)) (by simp)
      · have z1 := T.ok b _ z
        have z2 := hok' b _ (un.frzs b ob _ z)
        have e1 := z1.1
        rw [e] at e1; cases e1
        exact z2.1
end
theorem walkG {l : PySem.W.OpenLaw} {n k : Nat} {q : Program} {loose : List Str} {XP : (Str → Option Value) → Heap → Prop} {YP : World → Heap → Prop} {d : DefRec} {K : Params → PySem.W.Frag} {sp : World → Sp} {x : Str}
    (hn : l.most = some n) (hn2 : n ≤ sizeLine) (hdf : d.params.defaults = []) (hr : Room k callerA) (hY : ∀ (w : World) (h : Heap), YP w h → (K w.params).In h)
    (F : ∀ (w : World) (mg : Str → Option Value) (fa : Addr) (h : Heap), (K w.params).In h → h.Ns mainGlobals mg → mg d.name = some (.ref fa) → ∃ fd : FuncData, (∀ (s : Shared) (u : Value), BindsTo s fd ⟨[u], []⟩ [(x, u)]) ∧
        ∀ base : Heap, (K w.params).In base → base.Ns mainGlobals mg → FnG l.prog w (K w.params) mg base k fa fd [x] (sp w))
    (hsp : ∀ (w : World) (H : Hp) (a : Addr) (ns : List Int), ns.length ≤ n → (∀ z ∈ ns, Builtin.Int.intBits z ≤ 1048576) → Only H → SqL (K w.params) H a (ns.map V.int) → sp w [.ref a] H (fun v _ => v = .bl true) fun _ _ _ => False) :
    PySem.W.WalkO q loose XP YP l.row.toRowW d [] (fun f vs => PySem.call f vs) :=
  Att.attach_callB hn hdf fun w s₀ s₁ mg mb fa o pm cd doc a vs ns G Y ho hd hcd hmg hobj hints hlen hbits hg => by
    have KX := hY w _ Y
    obtain ⟨fd, hb, hF⟩ := F w mg fa _ KX G.T.g hmg
    exact head_go KX G.T.g G.T.b G.T.builtins G.T.nolimit hg hobj hints (Nat.le_trans hlen hn2) hr hF hb (fun H hO hS => hsp w H a ns hlen hbits hO hS)
/-- the start -/
theorem start_rep {K : PySem.W.Frag} {cl : Nat → Addr} {H : Hp} {a : Addr} {ns : List Int} (hO : Only H) (hS : SqL K H a (ns.map V.int)) : Rep K cl (fun _ => a) [.rol (ns.map W.int)] H := by
  have rv : ∀ ns : List Int, RWs K cl (fun _ => a) 1 H (ns.map W.int) (ns.map V.int) := fun ns => by
    induction ns with
    | nil => exact .nil
    | cons i r ih => exact .cons (.int i) ih
  refine ⟨fun n o hn => ?_, fun i j oi oj hi hj wi wj _ => ?_⟩
  · cases n with
    | zero =>
      cases hn
      refine ⟨ns.map V.int, ?_, rv ns⟩
      rcases hS with (h | ⟨o, h⟩) | h
      · rcases hO a with z | ⟨o, xs, z⟩ <;> (rw [h] at z; cases z)
      · exact .inl ⟨o, h⟩
      · exact .inr h
    | succ n => simp at hn
  · cases i with
    | zero => cases hi; cases wi
    | succ i => simp at hi
end Dr
set_option maxHeartbeats 2000000
namespace Dr
open PySem L2 PyProof.Rows
/-! ### a def by its place, for all contexts -/
def FOkB (P : Program) (w : World) (mg : Str → Option Value) (base : Heap) (G : Cfg) (k : Nat) (f : Addr) (fn : Fn) (dw : List W) : Prop :=
  ∃ fd ps ds dvs, FnG P w G.K mg base k f fd ps (spC G ps.length fn) ∧ Binds G.K fd ps ds ∧ Vals dvs ds ∧ (∀ m L H, RWs G.K G.cl m L H dw dvs) ∧ ∀ ws h, ws.length ≠ ps.length → fn ws h = .no
def Dfn (G : Cfg) (qual : Str) (st : Stmt) (ps : List Str) (dw : List W) (f : Addr) : Prop := ∃ fd ds dvs, DefAt G.K qual st f fd ∧ Binds G.K fd ps ds ∧ Vals dvs ds ∧ ∀ m L H, RWs G.K G.cl m L H dw dvs
section
variable {P : Program} {w : World} {mg : Str → Option Value} {base : Heap} {G : Cfg} {k : Nat} {f : Addr} {fn : Fn} {dw : List W} {qual : Str} {st : Stmt} {ps N : List Str} {body : Ev}
theorem FOkB.up (h : FOkB P w mg base G k f fn dw) : FOkB P w mg base G (k + 1) f fn dw := by
  obtain ⟨fd, ps, ds, dvs, a, b, c, d, e⟩ := h
  exact ⟨fd, ps, ds, dvs, a.up (Nat.le_succ _), b, c, d, e⟩
theorem FOkB.more {j : Nat} (h : FOkB P w mg base G k f fn dw) (hj : k ≤ j) : FOkB P w mg base G j f fn dw := by
  obtain ⟨fd, ps, ds, dvs, a, b, c, d, e⟩ := h
  exact ⟨fd, ps, ds, dvs, a.up hj, b, c, d, e⟩
theorem FOkB.pure (h : FOkB P w mg base G k f fn dw) : FOkB P w mg base G k f (pureFn fn) dw := by
  obtain ⟨fd, ps, ds, dvs, a, b, c, d, e⟩ := h
  exact ⟨fd, ps, ds, dvs, a.imp sp_pure, b, c, d, fun ws h hl => pureFn_len e ws h hl⟩
theorem FOkB.no (u : Dfn G qual st ps dw f) : FOkB P w mg base G k f (fun _ _ => .no) dw := by
  obtain ⟨fd, ds, dvs, a, b, c, d⟩ := u
  refine ⟨fd, ps, ds, dvs, ⟨fun vs H Q E h => ?_, fun A o s H ar us vs Q E _ _ _ _ _ h => ?_⟩, b, c, d, fun _ _ _ => rfl⟩
  · obtain ⟨m, h, ws, hl, R, r, _⟩ := h
    rw [← r.length, hl]
  · obtain ⟨m, h, ws, hl, R, r, z⟩ := h
    exact False.elim z
theorem FOkB.of (u : Dfn G qual st ps dw f) (ok : ∀ fd, DefAt G.K qual st f fd → FnG P w G.K mg base k f fd ps (spC G ps.length (fnOf ps.length N.length body))) : FOkB P w mg base G k f (fnOf ps.length N.length body) dw := by
  obtain ⟨fd, ds, dvs, a, b, c, d⟩ := u
  refine ⟨fd, ps, ds, dvs, ok fd a, b, c, d, fun ws h hl => ?_⟩
  unfold Dr.fnOf
  rw [if_neg hl]
theorem Dfn.plain {x : Str} {oc : Value} {od an : Option Addr} {osl : Array (Option Value)} {kV doc pm cdv ct : Value} (l : G.K.lookup f = some ⟨oc, od, .func (PySem.W.fnOf x qual (defArgs st) (defBody st) (defScope st) .none kV doc pm an cdv ct), osl⟩) (c : PySem.W.codeIn G.K cdv qual = true)
    (h : ∀ (kV doc pm : Value) (an : Option Addr) (cdv ct : Value) (us : List Value), us.length = ps.length → bindArgs (PySem.W.fnOf x qual (defArgs st) (defBody st) (defScope st) .none kV doc pm an cdv ct) ⟨us, []⟩ = pure (ps.zip us)) : Dfn G qual st ps [] f :=
  ⟨_, [], [], ⟨oc, od, x, .none, kV, doc, pm, an, cdv, ct, osl, rfl, l, c⟩, .all (h kV doc pm an cdv ct), .nil, fun _ _ _ => .nil⟩
/-- a def with defaults, called with all its arguments or without the last ones -/
theorem Dfn.dfl {x : Str} {oc : Value} {od an : Option Addr} {osl : Array (Option Value)} {kV doc pm cdv ct : Value} {T : Addr} {oT : Obj} {its : List Value} {nT : Nat} {dvs : List V} (j : Nat) (l : G.K.lookup f = some ⟨oc, od, .func (PySem.W.fnOf x qual (defArgs st) (defBody st) (defScope st) (.ref T) kV doc pm an cdv ct), osl⟩) (c : PySem.W.codeIn G.K cdv qual = true)
    (lT : G.K.lookup T = some oT) (dT : oT.data = .seq its.toArray nT) (rv : Vals dvs its) (rw_ : ∀ m L H, RWs G.K G.cl m L H dw (dvs.drop j))
    (h : ∀ (T : Addr) (kV doc pm : Value) (an : Option Addr) (cdv ct : Value) (us its : List Value), us.length + (its.drop j).length = ps.length → its.length = dvs.length → ∃ k, bindArgs (PySem.W.fnOf x qual (defArgs st) (defBody st) (defScope st) (.ref T) kV doc pm an cdv ct) ⟨us, []⟩ = seqItems? (.ref T) >>= k ∧ k (some its.toArray) = pure (ps.zip (us ++ its.drop j))) : Dfn G qual st ps dw f := by
  refine ⟨_, its.drop j, dvs.drop j, ⟨oc, od, x, .ref T, kV, doc, pm, an, cdv, ct, osl, rfl, l, c⟩, fun s us X hl => ?_, rv.drop j, rw_⟩
  obtain ⟨k, e1, e2⟩ := h T kV doc pm an cdv ct us its (by rw [← List.length_append]; exact hl) rv.length.symm
  exact BindsTo.of_looks fun M => by
    rw [e1]
    exact looks_items X lT dT (PySem.W.Looks.of_pure e2)
end
end Dr
set_option maxHeartbeats 2000000
namespace Dr
open PySem L2
/-! ### what a turn of a loop made may be forgotten -/
mutual
def W.und (L : Nat) : W → Bool
  | .ref n => decide (n < L)
  | .tup ws => unds L ws
  | _ => true
def unds (L : Nat) : List W → Bool
  | [] => true
  | w :: ws => w.und L && unds L ws
end
def IO.und (L : Nat) : IO → Bool
  | .lst ws => unds L ws
  | .rol ws => unds L ws
  | .ins _ fs => fs.all fun p => p.2.und L
  | .slt _ vs => vs.all fun o => match o with | some w => w.und L | none => true
  | .dic kvs => kvs.all fun p => p.2.und L
  | .exc _ _ w => w.und L
/-- the slots that are kept -/
def keepS (ks : List Nat) (f : W → Bool) : Nat → Sg → Sg
  | _, [] => []
  | i, o :: r => (if ks.contains i = true then (match o with | some w => if f w = true then some w else none | none => none) else none) :: keepS ks f (i + 1) r
def gcOut (L : Nat) (ks : List Nat) : Out → Out
  | .nx s h' => if (h'.take L).all (IO.und L) = true then .nx (keepS ks (fun w => w.und L) 0 s) (h'.take L) else .no
  | .ct s h' => if (h'.take L).all (IO.und L) = true then .ct (keepS ks (fun w => w.und L) 0 s) (h'.take L) else .no
  | .bk s h' => if (h'.take L).all (IO.und L) = true then .bk (keepS ks (fun w => w.und L) 0 s) (h'.take L) else .no
  | o => o
def eGc (ks : List Nat) (b : Ev) : Ev := fun σ h => gcOut h.length ks (b σ h)
section
variable {G : Cfg} {X : Cx} {Z : WX} {k : Nat} {a b c e : Ev} {ea eb ec ex : Expr} {pos : Pos} {st : Stmt} {sts sts' : List Stmt}
section
variable {K : PySem.W.Frag} {cl m m' : Nat → Addr} {L L' : Nat} {H H' : Hp}
mutual
theorem RW.und : ∀ {w : W} {v : V}, w.und L' = true → RW K cl m L H w v → RW K cl m L' H w v
  | _, _, _, .non => .non
  | _, _, _, .bl b => .bl b
  | _, _, _, .int i => .int i
  | _, _, _, .str x => .str x
  | .tup ws, _, f, .tup h hs => .tup h (RWs.und (by unfold W.und at f; exact f) hs)
  | .ref n, _, f, .ref _ _ => .ref n (by unfold W.und at f; exact of_decide_eq_true f)
  | _, _, _, .cls c => .cls c
theorem RWs.und : ∀ {ws : List W} {vs : List V}, unds L' ws = true → RWs K cl m L H ws vs → RWs K cl m L' H ws vs
  | _, _, _, .nil => .nil
  | w :: ws, _, f, .cons a b => by
    unfold unds at f
    have f := Bool.and_eq_true_iff.mp f
    exact .cons (RW.und f.1 a) (RWs.und f.2 b)
end
theorem RF.und {fs : List (Str × W)} {vs : List (Str × V)} (r : RF K cl m L H fs vs) (f : (fs.all fun p => p.2.und L') = true) : RF K cl m L' H fs vs := by
  induction r with
  | nil => exact .nil
  | cons a _ ih =>
    rw [List.all_cons] at f
    have f := Bool.and_eq_true_iff.mp f
    exact .cons (a.und f.1) (ih f.2)
theorem RK.und {fs : List (Key × W)} {vs : List (Key × V)} (r : RK K cl m L H fs vs) (f : (fs.all fun p => p.2.und L') = true) : RK K cl m L' H fs vs := by
  induction r with
  | nil => exact .nil
  | cons a _ ih =>
    rw [List.all_cons] at f
    have f := Bool.and_eq_true_iff.mp f
    exact .cons (a.und f.1) (ih f.2)
theorem OR.und {a : Addr} {o : IO} (q : OR K cl m L H a o) (f : o.und L' = true) : OR K cl m L' H a o := by
  cases o with
  | lst ws => obtain ⟨vs, x, y⟩ := q; exact ⟨vs, x, y.und f⟩
  | rol ws => obtain ⟨vs, x, y⟩ := q; exact ⟨vs, x, y.und f⟩
  | ins c fs => obtain ⟨dx, vs, x, y⟩ := q; exact ⟨dx, vs, x, y.und f⟩
  | dic kvs => obtain ⟨vs, x, y⟩ := q; exact ⟨vs, x, y.und f⟩
  | exc c g w => obtain ⟨d, v, x, z, y⟩ := q; exact ⟨d, v, x, z, y.und f⟩
  | slt c ws =>
    obtain ⟨dx, vs, x, y⟩ := q
    refine ⟨dx, vs, x, fun i w z => ?_⟩
    obtain ⟨v, z1, z2⟩ := y i w z
    have g := List.all_eq_true.mp f (some w) (List.mem_of_getElem? z)
    exact ⟨v, z1, z2.und g⟩
theorem Ext.cut (e : Ext K m L H m' L' H') : Ext K m L H m' L H' :=
  ⟨Nat.le_refl _, e.eq, e.tup, e.xd, e.fr, e.fd, e.fx, fun n h1 h2 => absurd h2 (Nat.not_lt.mpr h1), e.dom⟩
theorem Rep.cut {h : IH} (R : Rep K cl m h H) (hl : L ≤ h.length) (f : (h.take L).all (IO.und L) = true) : Rep K cl m (h.take L) H := by
  have ll : (h.take L).length = L := by rw [List.length_take]; omega
  have at_ : ∀ n o, (h.take L)[n]? = some o → h[n]? = some o := fun n o z => by
    rw [List.getElem?_take] at z
    split at z
    · exact z
    · cases z
  refine ⟨fun n o z => ?_, fun i j oi oj hi hj => R.inj i j oi oj (at_ _ _ hi) (at_ _ _ hj)⟩
  rw [ll]
  exact (R.obj n o (at_ _ _ z)).und (List.all_eq_true.mp f o (List.mem_of_getElem? z))
end
theorem keepS_len (ks : List Nat) (f : W → Bool) : ∀ (i : Nat) (s : Sg), (keepS ks f i s).length = s.length
  | _, [] => rfl
  | i, _ :: r => by unfold keepS; simp [keepS_len ks f (i + 1) r]
theorem keepS_get (ks : List Nat) (f : W → Bool) : ∀ (i : Nat) (s : Sg) (j : Nat) (w : W), (keepS ks f i s)[j]? = some (some w) → s[j]? = some (some w) ∧ f w = true
  | _, [], j, w, z => by simp [keepS] at z
  | i, o :: r, 0, w, z => by
    unfold keepS at z
    rw [List.getElem?_cons_zero, Option.some.injEq] at z
    split at z
    · cases o with
      | none => cases z
      | some u =>
        simp only at z
        split at z
        · rename_i q; cases z; exact ⟨rfl, q⟩
        · cases z
    · cases z
  | i, o :: r, j + 1, w, z => by
    unfold keepS at z
    rw [List.getElem?_cons_succ] at z
    obtain ⟨h1, h2⟩ := keepS_get ks f (i + 1) r j w z
    exact ⟨by rw [List.getElem?_cons_succ]; exact h1, h2⟩
theorem RSt.keep {m : Nat → Addr} {L L' : Nat} {H : Hp} {σ : Sg} {τ : St} {ks : List Nat} {f : W → Bool} (S : RSt G m L H σ τ) (hx : G.xs = none ∧ G.xd = none) (ht : ∀ w v, f w = true → RW G.K G.cl m L H w v → RW G.K G.cl m L' H w v) : RSt G m L' H (keepS ks f 0 σ) τ := by
  refine ⟨by rw [keepS_len]; exact S.len, fun i w z => ?_, fun i a z => (by rw [hx.1] at z; cases z), fun d c w z => by rw [hx.2] at z; cases z⟩
  obtain ⟨z1, z2⟩ := keepS_get ks f 0 σ i w z
  obtain ⟨v, h1, h2⟩ := S.get i w z1
  exact ⟨v, h1, ht w v z2 h2⟩
theorem gc_po {m : Nat → Addr} {L : Nat} {H : Hp} {D : Ends} {ks : List Nat} {o : Out} (hx : G.xs = none ∧ G.xd = none) (P : PoS G m L H Z D (gcOut L ks o)) : PoS G m L H Z D o := by
  have key : ∀ (s : Sg) (h' : IH) (N : St → Hp → Prop), (h'.take L).all (IO.und L) = true → (∀ m' H' τ, Ext G.K m L H m' (h'.take L).length H' → Rep G.K G.cl m' (h'.take L) H' → RSt G m' (h'.take L).length H' (keepS ks (fun w => w.und L) 0 s) τ → N τ H') →
      ∀ m' H' τ, Ext G.K m L H m' h'.length H' → Rep G.K G.cl m' h' H' → RSt G m' h'.length H' s τ → N τ H' := fun s h' N q p m' H' τ e' R' S' => by
    have ll : (h'.take L).length = L := by rw [List.length_take]; have := e'.le; omega
    have p := p m' H' τ
    rw [ll] at p
    exact p e'.cut (R'.cut e'.le q) (S'.keep hx fun w v z r => r.und z)
  cases o with
  | nx s h' =>
    unfold gcOut at P
    simp only at P
    split at P
    · rename_i q; exact key s h' _ q P
    · exact P.elim
  | ct s h' =>
    unfold gcOut at P
    simp only at P
    split at P
    · rename_i q; exact key s h' _ q P
    · exact P.elim
  | bk s h' =>
    unfold gcOut at P
    simp only at P
    split at P
    · rename_i q; exact key s h' _ q P
    · exact P.elim
  | v w h => exact P
  | vs w h => exact P
  | rt w h => exact P
  | ex c w s h => exact P
  | no => exact P
theorem b_gc (ks : List Nat) (hx : G.xs = none ∧ G.xd = none) (hb : SB G X Z b sts) : SB G X Z (eGc ks b) sts := .mk fun m h H σ τ D R S P => hb m h H σ τ D R S (gc_po hx P)
/-! ### an expression that asks for plain values alone may run on an empty heap -/
def flatS (s : Sg) : Bool := s.all fun o => match o with | some w => w.flat | none => true
def ePure (ks : List Nat) (e : Ev) : Ev := fun σ h => if flatS (keepS ks (fun _ => true) 0 σ) = true then (match e (keepS ks (fun _ => true) 0 σ) [] with
  | .v w _ => if w.flat = true then .v w h else .no
  | _ => .no) else e σ h
theorem pure_po {m : Nat → Addr} {h : IH} {H : Hp} {Q : VK} {o : Out} (R : Rep G.K G.cl m h H) (P : PoE G m h.length H Z Q (match o with
  | .v w _ => if w.flat = true then .v w h else .no
  | _ => .no)) : PoE G m 0 H Z Q o := by
  cases o with
  | v w h0 =>
    simp only at P
    split at P
    · rename_i hw
      exact fun m' H' v ex R' r => P m H' v ex.wide (R.wide ex) (r.flat hw)
    · exact P.elim
  | _ => exact P.elim
theorem pure_st {m : Nat → Addr} {L : Nat} {H : Hp} {σ : Sg} {τ : St} {ks : List Nat} {f : W → Bool} (S : RSt G m L H σ τ) (hx : G.xs = none ∧ G.xd = none) (hf : flatS (keepS ks f 0 σ) = true) : RSt G m 0 H (keepS ks f 0 σ) τ := by
  refine ⟨by rw [keepS_len]; exact S.len, fun i w z => ?_, fun i a z => (by rw [hx.1] at z; cases z), fun d c w z => by rw [hx.2] at z; cases z⟩
  obtain ⟨z1, z2⟩ := keepS_get ks f 0 σ i w z
  obtain ⟨v, h1, h2⟩ := S.get i w z1
  exact ⟨v, h1, h2.flat (List.all_eq_true.mp hf (some w) (List.mem_of_getElem? z))⟩
theorem s_pure (ks : List Nat) (hx : G.xs = none ∧ G.xd = none) (he : SE G X Z e ex) : SE G X Z (ePure ks e) ex := .mk fun m h H σ τ Q R S P => by
  unfold ePure at P
  split at P
  · rename_i hf
    exact he m [] H _ τ Q .none (pure_st S hx hf) (pure_po R P)
  · exact he m h H σ τ Q R S P
theorem t_pure (ks : List Nat) (hx : G.xs = none ∧ G.xd = none) (he : ST G X Z e ex) : ST G X Z (ePure ks e) ex := .mk fun m h H σ τ Q R S P => by
  unfold ePure at P
  split at P
  · rename_i hf
    exact he m [] H _ τ Q .none (pure_st S hx hf) (pure_po R P)
  · exact he m h H σ τ Q R S P
/-- a function that runs on an empty heap where its arguments are plain -/
def pureFn' (f : Fn) : Fn := fun ws h => if flats ws = true then pureFn f ws h else f ws h
theorem sp_pure' {f : Fn} {n : Nat} (vs : List V) (H : Hp) (Q : VK) (E : XK) (sp : spC G n (pureFn' f) vs H Q E) : spC G n f vs H Q E := by
  obtain ⟨m, h, ws, hl, R, r, P⟩ := sp
  unfold pureFn' at P
  split at P
  · exact sp_pure vs H Q E ⟨m, h, ws, hl, R, r, P⟩
  · exact ⟨m, h, ws, hl, R, r, P⟩
theorem FOkB.pure' {P : Program} {w : World} {mg : Str → Option Value} {base : Heap} {f : Addr} {fn : Fn} {dw : List W} (h : FOkB P w mg base G k f fn dw) : FOkB P w mg base G k f (pureFn' fn) dw := by
  obtain ⟨fd, ps, ds, dvs, a, b, c, d, e⟩ := h
  refine ⟨fd, ps, ds, dvs, a.imp sp_pure', b, c, d, fun ws h hl => ?_⟩
  unfold pureFn'
  split
  · exact pureFn_len e ws h hl
  · exact e ws h hl
/-! ### loops, told -/
theorem forR {lo : Int} {n : Nat} {g : Tg} {b : Ev} (I : Sg → IH → Prop)
    (hs : ∀ i, i < n → ∀ σ h, I σ h → ∃ σ' s h', g (.int (lo + (i : Nat))) σ = some σ' ∧ b σ' h = .nx s h' ∧ I s h') :
    ∀ (fuel i : Nat) (σ : Sg) (h : IH), i ≤ n → n - i < fuel → I σ h → ∃ s h', forL (jR lo n) g b fuel i σ h = .nx s h' ∧ I s h'
  | 0, i, σ, h, _, hf, _ => absurd hf (Nat.not_lt_zero _)
  | fuel + 1, i, σ, h, hi, hf, hI => by
    unfold forL jR
    by_cases q : i < n
    · obtain ⟨σ', s, h', e1, e2, hI'⟩ := hs i q σ h hI
      obtain ⟨s', h'', e3, hI''⟩ := forR I hs fuel (i + 1) s h' q (by omega) hI'
      refine ⟨s', h'', ?_, hI''⟩
      rw [if_pos q]
      simp only [e1, e2]
      exact e3
    · exact ⟨σ, h, by rw [if_neg q], hI⟩
theorem forW {p : Nat} {ws : List W} {g : Tg} {b : Ev} {h : IH} (I : Sg → Prop) (hl : lstAt h p = some ws)
    (hs : ∀ w ∈ ws, ∀ σ, I σ → ∃ σ' s, g w σ = some σ' ∧ b σ' h = .nx s h ∧ I s) :
    ∀ (fuel i : Nat) (σ : Sg), i ≤ ws.length → ws.length - i < fuel → I σ → ∃ s, forL (jL p) g b fuel i σ h = .nx s h ∧ I s
  | 0, i, σ, _, hf, _ => absurd hf (Nat.not_lt_zero _)
  | fuel + 1, i, σ, hi, hf, hI => by
    unfold forL jL
    simp only [hl]
    by_cases q : i < ws.length
    · obtain ⟨σ', s, e1, e2, hI'⟩ := hs ws[i] (List.getElem_mem q) σ hI
      obtain ⟨s', e3, hI''⟩ := forW I hl hs fuel (i + 1) s q (by omega) hI'
      refine ⟨s', ?_, hI''⟩
      rw [List.getElem?_eq_getElem q]
      simp only [e1, e2]
      exact e3
    · exact ⟨σ, by rw [List.getElem?_eq_none (Nat.le_of_not_lt q)], hI⟩
end
end Dr
set_option maxHeartbeats 2000000
namespace Dr
open PySem L2
/-! ### telling what small texts come to -/
def isF : Out → Bool
  | .v (.bl false) _ => true
  | _ => false
def isT : Out → Bool
  | .v (.bl true) _ => true
  | _ => false
def lstOut : Out → Option (List W)
  | .v (.ref n) h' => (match h'[n]? with | some (.lst ls) => some ls | _ => none)
  | _ => none
theorem pureFn_lst {f : Fn} {ws : List W} {h : IH} {ls : List W} (hf : flats ws = true) (e : lstOut (f ws []) = some ls) (hl : flats ls = true) : pureFn' f ws h = .v (.ref h.length) (h ++ [.lst ls]) := by
  unfold pureFn' pureFn
  rw [if_pos hf, if_pos hf]
  unfold lstOut at e
  split at e
  · rename_i n h' q
    rw [q]
    split at e
    · rename_i ls' q'
      cases e
      simp only [q', hl, if_true]
    · cases e
  · cases e
theorem isF_of {o : Out} (h : isF o = true) : ∃ h', o = .v (.bl false) h' := by
  unfold isF at h
  split at h
  · exact ⟨_, rfl⟩
  · cases h
theorem isT_of {o : Out} (h : isT o = true) : ∃ h', o = .v (.bl true) h' := by
  unfold isT at h
  split at h
  · exact ⟨_, rfl⟩
  · cases h
theorem ePure_F {ks : List Nat} {e : Ev} {σ : Sg} {h : IH} (hf : flatS (keepS ks (fun _ => true) 0 σ) = true) (h1 : isF (e (keepS ks (fun _ => true) 0 σ) []) = true) : ePure ks e σ h = .v (.bl false) h := by
  obtain ⟨h', q⟩ := isF_of h1
  unfold ePure
  rw [if_pos hf, q]
  rfl
theorem ePure_T {ks : List Nat} {e : Ev} {σ : Sg} {h : IH} (hf : flatS (keepS ks (fun _ => true) 0 σ) = true) (h1 : isT (e (keepS ks (fun _ => true) 0 σ) []) = true) : ePure ks e σ h = .v (.bl true) h := by
  obtain ⟨h', q⟩ := isT_of h1
  unfold ePure
  rw [if_pos hf, q]
  rfl
theorem mem_cutW {w : W} {ws : List W} {lo hi : Option Int} (h : w ∈ cutW ws lo hi) : w ∈ ws := List.mem_of_mem_drop (List.mem_of_mem_take h)
theorem flats_all : ∀ {ws : List W}, flats ws = true ↔ ∀ w ∈ ws, w.flat = true
  | [] => ⟨fun _ w h => (by cases h), fun _ => rfl⟩
  | u :: us => by
    unfold flats
    rw [Bool.and_eq_true_iff, flats_all]
    exact ⟨fun h w hw => by
      rcases List.mem_cons.mp hw with rfl | z
      · exact h.1
      · exact h.2 w z, fun h => ⟨h u (List.mem_cons_self), fun w hw => h w (List.mem_cons_of_mem _ hw)⟩⟩
theorem flats_app {xs ys : List W} (h1 : flats xs = true) (h2 : flats ys = true) : flats (xs ++ ys) = true :=
  flats_all.mpr fun w hw => by
    rcases List.mem_append.mp hw with z | z
    · exact flats_all.mp h1 w z
    · exact flats_all.mp h2 w z
theorem flats_cut {xs : List W} (lo hi : Option Int) (h1 : flats xs = true) : flats (cutW xs lo hi) = true := flats_all.mpr fun w hw => flats_all.mp h1 w (mem_cutW hw)
theorem flats_ints (ms : List Int) : flats (ms.map W.int) = true := flats_all.mpr fun w hw => by
  obtain ⟨i, _, rfl⟩ := List.mem_map.mp hw
  rfl
mutual
theorem flat_und (L : Nat) : ∀ w : W, w.flat = true → w.und L = true
  | .non, _ => rfl
  | .bl _, _ => rfl
  | .int _, _ => rfl
  | .str _, _ => rfl
  | .cls _, _ => rfl
  | .ref _, h => by cases h
  | .tup ws, h => by unfold W.flat at h; unfold W.und; exact flats_unds L ws h
theorem flats_unds (L : Nat) : ∀ ws : List W, flats ws = true → unds L ws = true
  | [], _ => rfl
  | w :: ws, h => by
    unfold flats at h
    have h := Bool.and_eq_true_iff.mp h
    unfold unds
    rw [flat_und L w h.1, flats_unds L ws h.2]
    rfl
end
/-- lists of plain values alone -/
def IO.fl : IO → Bool
  | .lst ws => flats ws
  | .rol ws => flats ws
  | _ => false
theorem fl_und {L : Nat} {o : IO} (h : o.fl = true) : o.und L = true := by
  cases o with
  | lst ws => exact flats_unds L ws h
  | rol ws => exact flats_unds L ws h
  | ins c fs => cases h
  | slt c fs => cases h
  | dic fs => cases h
  | exc c f w => cases h
theorem gc_nx {ks : List Nat} {b : Ev} {σ s : Sg} {h g : IH} (e : b σ h = .nx s (h ++ g)) (hf : h.all IO.fl = true) : eGc ks b σ h = .nx (keepS ks (fun w => w.und h.length) 0 s) h := by
  unfold eGc
  rw [e]
  unfold gcOut
  simp only
  rw [List.take_left, if_pos]
  exact List.all_eq_true.mpr fun o ho => fl_und (List.all_eq_true.mp hf o ho)
/-- the two draws' defs of the first family of laws -/
def poolB : Ev :=
  (eSeq (eAsg (gN 2) (eBin oIx (eBin oAdd (eSl (eLoc 0) (eInt (eLoc 1)) (eInt (eBin oAdd (eLoc 1) (eK (.int 1))))) (eLst (eCons (eK (.int 0)) eNil))) (eK (.int 0))))
    (eSeq (eAsg (gN 3) (eIf (eBin oGe (eLoc 2) (eK (.int 0))) (eLoc 2) (eBin oSub (eNeg (eK (.int 1))) (eLoc 2))))
    (eSeq (eAsg (gN 4) (eBin oMod (eBin oMulX (eBlt bIntX (eCons (eBin oAdd (eBin oAdd (eBin oAdd (eBin oMod (eLoc 3) (eK (.int 2147483629))) (eBin oMulX (eBin oMulX (eK (.int 7919)) (eLoc 1)) (eLoc 1))) (eBin oMulX (eK (.int 31)) (eLoc 1))) (eK (.int 17))) eNil)) (eK (.int 48271))) (eK (.int 2147483647))))
    (eRet (eLst (eCons (eBin oMulX (eLoc 3) (eBlt bIntX (eCons (eBin oGe (eLoc 3) (eBin oPow (eK (.int 10)) (eK (.int 18)))) eNil))) (eCons (eBin oMod (eBin oMulX (eLoc 4) (eLoc 4)) (eK (.int 2147483629))) eNil)))))))
def takeB : Ev :=
  (eSeq (eIfS (eBin oGt (eBin oIx (eLoc 0) (eK (.int 0))) (eK (.int 0))) (eSeq (eAsg (gN 2) (eBin oMod (eBlt bIntX (eCons (eBin oIx (eLoc 0) (eK (.int 0))) eNil)) (eLoc 1)))
    (eSeq (eSetI (eLoc 0) (eK (.int 0)) (eBin oDiv (eBin oIx (eLoc 0) (eK (.int 0))) (eLoc 1)))
    (eRet (eLoc 2)))) eEnd)
    (eSeq (eSetI (eLoc 0) (eK (.int 1)) (eBin oMod (eBlt bIntX (eCons (eBin oAdd (eBin oMulX (eBin oIx (eLoc 0) (eK (.int 1))) (eK (.int 48271))) (eK (.int 12345))) eNil)) (eK (.int 2147483647))))
    (eRet (eBin oMod (eBin oDiv (eBin oMod (eBlt bIntX (eCons (eBin oMulX (eBin oIx (eLoc 0) (eK (.int 1))) (eBin oIx (eLoc 0) (eK (.int 1)))) eNil)) (eK (.int 2147483629))) (eK (.int 64))) (eLoc 1)))))
/-- a pool of draws -/
structure Pool (h : IH) (p : Nat) (a b : Int) : Prop where
  at_ : h[p]? = some (.lst [.int a, .int b])
  ha : 0 ≤ a
  hb : 0 ≤ b
  hb2 : b < 2147483647
theorem take_ok {p : Nat} {m : Int} {h : IH} {a b : Int} (hp : Pool h p a b) (h0 : 0 < m) (h1 : m < 1073741824) :
    ∃ r a' b', 0 ≤ r ∧ r < m ∧ Pool (h.set p (.lst [.int a', .int b'])) p a' b' ∧ fnOf 2 3 takeB [.ref p, .int m] h = .v (.int r) (h.set p (.lst [.int a', .int b'])) := by
  have hl : p < h.length := (List.getElem?_eq_some_iff.mp hp.at_).1
  have i0 : oIx (.ref p) (.int 0) h = .v (.int a) h := by simp only [oIx, hp.at_]; rfl
  have i1 : oIx (.ref p) (.int 1) h = .v (.int b) h := by simp only [oIx, hp.at_]; rfl
  have pl : ∀ a' b' : Int, 0 ≤ a' → 0 ≤ b' → b' < 2147483647 → Pool (h.set p (.lst [.int a', .int b'])) p a' b' := fun a' b' x y z => ⟨List.getElem?_set_self hl, x, y, z⟩
  by_cases q : 0 < a
  · refine ⟨a % m, a / m, b, Int.emod_nonneg _ (by omega), Int.emod_lt_of_pos _ h0, pl _ _ (Int.ediv_nonneg hp.ha (by omega)) hp.hb hp.hb2, ?_⟩
    have sl : slots 3 [.ref p, .int m] = [some (.ref p), some (.int m), none] := rfl
    simp only [fnOf, takeB, eSeq, eIfS, eBin, eAsg, eSetI, eLoc, eK, eBlt, eCons, eNil, eRet, eEnd, gN, Out.vb, Out.vsb, Out.nb, Out.fin, List.length_cons, List.length_nil, if_true, sl, List.getElem?_cons_zero, List.getElem?_cons_succ, i0, oGt, q, decide_true, bIntX, bInt, oMod, h0, List.set_cons_succ, List.set_cons_zero, oDiv, h1, and_self, oSetI, hp.at_]
    rfl
  · have i1' : ∀ x : Int, oIx (.ref p) (.int 1) (h.set p (.lst [.int a, .int x])) = .v (.int x) (h.set p (.lst [.int a, .int x])) := fun x => by simp only [oIx, List.getElem?_set_self hl]; rfl
    have m1 : ∀ x : Int, 0 ≤ x → x < 2147483647 → oMulX (.int x) (.int 48271) h = .v (.int (x * 48271)) h := fun x y z => by
      show (if mulOk x 48271 = true then _ else _) = _
      rw [if_pos (by unfold mulOk; simp)]
    have m2 : ∀ (x : Int) (h : IH), 0 ≤ x → x < 2147483647 → oMulX (.int x) (.int x) h = .v (.int (x * x)) h := fun x h y z => by
      show (if mulOk x x = true then _ else _) = _
      rw [if_pos (by unfold mulOk; simp; omega)]
    have e0 : 0 ≤ (b * 48271 + 12345) % 2147483647 := Int.emod_nonneg _ (by decide)
    have e1 : (b * 48271 + 12345) % 2147483647 < 2147483647 := Int.emod_lt_of_pos _ (by decide)
    refine ⟨((b * 48271 + 12345) % 2147483647 * ((b * 48271 + 12345) % 2147483647)) % 2147483629 / 64 % m, a, (b * 48271 + 12345) % 2147483647, Int.emod_nonneg _ (by omega), Int.emod_lt_of_pos _ h0, pl _ _ hp.ha e0 e1, ?_⟩
    have sl : slots 3 [.ref p, .int m] = [some (.ref p), some (.int m), none] := rfl
    have c1 : (0 : Int) < 2147483647 := by decide
    have c2 : (0 : Int) < 2147483629 := by decide
    have c3 : (0 : Int) < 64 := by decide
    have c4 : (64 : Int) < 1073741824 := by decide
    have st : (ixN ([W.int a, W.int b] : List W).length 1) = some 1 := rfl
    simp only [fnOf, takeB, eSeq, eIfS, eBin, eAsg, eSetI, eLoc, eK, eBlt, eCons, eNil, eRet, eEnd, gN, Out.vb, Out.vsb, Out.nb, Out.fin, List.length_cons, List.length_nil, if_true, sl, List.getElem?_cons_zero, List.getElem?_cons_succ, i0, i1, oGt, q, decide_false, bIntX, bInt, oMod, h0, List.set_cons_succ, List.set_cons_zero, oDiv, h1, and_self, oSetI, hp.at_, m1 b hp.hb hp.hb2, oAdd, c1, c2, c3, c4]
    simp only [List.length_cons, List.length_nil] at st
    simp only [st, List.set_cons_succ, List.set_cons_zero, i1', m2 _ _ e0 e1, oMod, c2, c3, c4, if_true, and_self, h0]
    simp only [eRet, eBin, eBlt, eCons, eNil, eLoc, eK, Out.vb, Out.vsb, List.getElem?_cons_zero, List.getElem?_cons_succ, i1', m2 _ _ e0 e1, bIntX, bInt, oMod, oDiv, c2, c3, c4, if_true, and_self, h0]
theorem cut_ints (ns : List Int) (lo hi : Option Int) : ∃ ms : List Int, cutW (ns.map W.int) lo hi = ms.map W.int := by
  unfold cutW
  rw [List.length_map]
  exact ⟨(ns.drop (HT.sIx ns.length 0 lo)).take (HT.sIx ns.length ns.length hi - HT.sIx ns.length 0 lo), by rw [List.map_take, List.map_drop]⟩
theorem cut_len (ws : List W) (lo hi : Option Int) : (cutW ws lo hi).length ≤ ws.length := by
  unfold cutW
  rw [List.length_take, List.length_drop]
  omega
theorem pool_ok {n : Nat} {k : Int} {h : IH} {ns : List Int} (hn : h[n]? = some (.rol (ns.map W.int))) (hl : ns.length ≤ 63) (h0 : 0 ≤ k) (h1 : k ≤ 1000) :
    ∃ l1 l3 a b, flats l1 = true ∧ flats l3 = true ∧ 0 ≤ a ∧ 0 ≤ b ∧ b < 2147483647 ∧ fnOf 2 5 poolB [.ref n, .int k] h = .v (.ref (h.length + 3)) (h ++ [.lst l1, .lst [.int 0], .lst l3, .lst [.int a, .int b]]) := by
  obtain ⟨ms, em⟩ := cut_ints ns (some k) (some (k + 1))
  have ml : ms.length ≤ 63 := by
    have := cut_len (ns.map W.int) (some k) (some (k + 1))
    rw [em, List.length_map, List.length_map] at this
    omega
  obtain ⟨c, ec⟩ : ∃ c : Int, ∀ g, ixW (ms.map W.int ++ [.int 0]) 0 g = .v (.int c) g := by
    cases ms with
    | nil => exact ⟨0, fun _ => rfl⟩
    | cons x xs => exact ⟨x, fun g => by
      unfold ixW L2.atI L2.ixN
      rw [if_pos (by omega), if_pos (by simp; omega)]
      rfl⟩
  have sl : slots 5 [.ref n, .int k] = [some (.ref n), some (.int k), none, none, none] := rfl
  have x1 : oSl (.ref n) (some k) (some (k + 1)) h = .v (.ref h.length) (h ++ [.lst (ms.map W.int)]) := by simp only [oSl, hn, em]
  let h2 : IH := h ++ [.lst (ms.map W.int)] ++ [.lst [.int 0]]
  have x2 : oAdd (.ref h.length) (.ref (h ++ [IO.lst (ms.map W.int)]).length) h2 = .v (.ref h2.length) (h2 ++ [.lst (ms.map W.int ++ [.int 0])]) := by
    have a1 : h2[h.length]? = some (.lst (ms.map W.int)) := by simp [h2]
    have a2 : h2[(h ++ [IO.lst (ms.map W.int)]).length]? = some (.lst [.int 0]) := by simp [h2]
    simp only [oAdd, a1, a2]
    rw [if_pos (by simp; omega)]
  have x3 : oIx (.ref h2.length) (.int 0) (h2 ++ [.lst (ms.map W.int ++ [.int 0])]) = .v (.int c) (h2 ++ [.lst (ms.map W.int ++ [.int 0])]) := by
    have a1 : (h2 ++ [IO.lst (ms.map W.int ++ [.int 0])])[h2.length]? = some (.lst (ms.map W.int ++ [.int 0])) := by simp
    simp only [oIx, a1]
    exact ec _
  let h3 : IH := h2 ++ [.lst (ms.map W.int ++ [.int 0])]
  obtain ⟨u, hu, eu⟩ : ∃ u : Int, 0 ≤ u ∧ (if decide (0 ≤ c) = true then c else -1 - c) = u := ⟨_, by split <;> simp_all <;> omega, rfl⟩
  have km : k * k ≤ 1000000 := Int.le_trans (Int.mul_le_mul h1 h1 h0 (by decide)) (by decide)
  have km0 : 0 ≤ k * k := Int.mul_nonneg h0 h0
  have r0 : 0 ≤ u % 2147483629 := Int.emod_nonneg _ (by decide)
  have r1 : u % 2147483629 < 2147483629 := Int.emod_lt_of_pos _ (by decide)
  let M : Int := (u % 2147483629 + 7919 * k * k + 31 * k + 17) * 48271 % 2147483647
  have M0 : 0 ≤ M := Int.emod_nonneg _ (by decide)
  have M1 : M < 2147483647 := Int.emod_lt_of_pos _ (by decide)
  have mul : ∀ (i j : Int) (g : IH), mulOk i j = true → oMulX (.int i) (.int j) g = .v (.int (i * j)) g := fun i j g z => by
    show (if mulOk i j = true then _ else _) = _
    rw [if_pos z]
  refine ⟨ms.map W.int, ms.map W.int ++ [.int 0], u * (if decide ((10 : Int) ^ 18 ≤ u) = true then 1 else 0), M * M % 2147483629, flats_ints ms, flats_app (flats_ints ms) rfl, ?_, Int.emod_nonneg _ (by decide), Int.lt_of_lt_of_le (Int.emod_lt_of_pos _ (by decide)) (by decide), ?_⟩
  · split <;> omega
  · have w1 : oMulX (.int 7919) (.int k) h3 = .v (.int (7919 * k)) h3 := mul _ _ _ (by unfold mulOk; simp)
    have w2 : oMulX (.int (7919 * k)) (.int k) h3 = .v (.int (7919 * k * k)) h3 := mul _ _ _ (by unfold mulOk; simp; omega)
    have w3 : oMulX (.int 31) (.int k) h3 = .v (.int (31 * k)) h3 := mul _ _ _ (by unfold mulOk; simp)
    have w4 : ∀ i : Int, oMulX (.int i) (.int 48271) h3 = .v (.int (i * 48271)) h3 := fun i => mul _ _ _ (by unfold mulOk; simp)
    have w5 : oMulX (.int M) (.int M) h3 = .v (.int (M * M)) h3 := mul _ _ _ (by unfold mulOk; simp; omega)
    have w6 : oMulX (.int u) (.int (if decide ((10 : Int) ^ 18 ≤ u) = true then 1 else 0)) h3 = .v (.int (u * (if decide ((10 : Int) ^ 18 ≤ u) = true then 1 else 0))) h3 := mul _ _ _ (by unfold mulOk; split <;> simp)
    have c1 : (0 : Int) < 2147483647 := by decide
    have c2 : (0 : Int) < 2147483629 := by decide
    have pw : oPow (.int 10) (.int 18) h3 = .v (.int (10 ^ 18)) h3 := rfl
    have ifs : (match (W.bl (decide (0 ≤ c))) with | .bl true => Out.v (.int c) h3 | .bl false => .v (.int (-1 - c)) h3 | _ => .no) = Out.v (.int u) h3 := by
      rw [← eu]
      by_cases z : 0 ≤ c <;> simp [z]
    have ifs2 : eIf (eBin oGe (eLoc 2) (eK (.int 0))) (eLoc 2) (eBin oSub (eNeg (eK (.int 1))) (eLoc 2)) [some (.ref n), some (.int k), some (.int c), none, none] h3 = .v (.int u) h3 := by
      rw [← ifs]
      by_cases z : 0 ≤ c
      · simp only [eIf, eBin, eLoc, eK, Out.vb, List.getElem?_cons_zero, List.getElem?_cons_succ, oGe, z, decide_true]
      · simp only [eIf, eBin, eLoc, eK, Out.vb, List.getElem?_cons_zero, List.getElem?_cons_succ, oGe, z, decide_false, eNeg, oSub]
    have first : eBin oIx (eBin oAdd (eSl (eLoc 0) (eInt (eLoc 1)) (eInt (eBin oAdd (eLoc 1) (eK (.int 1))))) (eLst (eCons (eK (.int 0)) eNil))) (eK (.int 0)) [some (.ref n), some (.int k), none, none, none] h = .v (.int c) h3 := by
      have y2 : oAdd (.int k) (.int 1) h = .v (.int (k + 1)) h := rfl
      have y3 : (1 : Nat) ≤ 16777216 := by decide
      simp only [eBin, eSl, eLoc, eInt, eK, Out.vb, Out.pb, pm, W.part, List.getElem?_cons_zero, List.getElem?_cons_succ, y2, x1, eLst, eCons, eNil, Out.vsb, List.length_cons, List.length_nil, Nat.zero_add, y3, if_true]
      simp only [h2] at x2
      simp only [x2]
      simp only [h2] at x3
      simp only [x3]
      rfl
    simp only [fnOf, poolB, List.length_cons, List.length_nil, Nat.zero_add, if_true, sl]
    simp only [eSeq, eAsg, first, Out.vb, Out.nb, gN, List.set_cons_succ, List.set_cons_zero, ifs2]
    simp only [eBin, eBlt, eCons, eNil, eLoc, eK, Out.vb, Out.vsb, Out.nb, gN, List.getElem?_cons_zero, List.getElem?_cons_succ, oMod, c1, c2, if_true, w1, w2, w3, oAdd, bIntX, bInt, w4, List.set_cons_succ, List.set_cons_zero, eRet, eLst, oGe, pw, w6]
    simp only [M] at w5
    simp only [w5, c2, if_true, Out.vsb, Out.vb, List.length_cons, List.length_nil, Out.fin]
    simp only [h3, h2, M]
    simp [List.append_assoc]
end Dr
set_option maxHeartbeats 2000000
namespace Dr
open PySem L2
/-! ### what an applied text comes to, for simp -/
section
variable {w : W} {ws : List W} {h : IH} {s σ : Sg} {c : Nat}
@[simp] theorem vb_v {k : W → IH → Out} : Out.vb (.v w h) k = k w h := rfl
@[simp] theorem vb_ex {k : W → IH → Out} : Out.vb (.ex c w s h) k = .ex c w s h := rfl
@[simp] theorem vb_no {k : W → IH → Out} : Out.vb .no k = .no := rfl
@[simp] theorem vsb_vs {k : List W → IH → Out} : Out.vsb (.vs ws h) k = k ws h := rfl
@[simp] theorem vsb_ex {k : List W → IH → Out} : Out.vsb (.ex c w s h) k = .ex c w s h := rfl
@[simp] theorem nb_nx {k : Sg → IH → Out} : Out.nb (.nx s h) k = k s h := rfl
@[simp] theorem nb_rt {k : Sg → IH → Out} : Out.nb (.rt w h) k = .rt w h := rfl
@[simp] theorem nb_bk {k : Sg → IH → Out} : Out.nb (.bk s h) k = .bk s h := rfl
@[simp] theorem nb_ct {k : Sg → IH → Out} : Out.nb (.ct s h) k = .ct s h := rfl
@[simp] theorem nb_ex {k : Sg → IH → Out} : Out.nb (.ex c w s h) k = .ex c w s h := rfl
@[simp] theorem fin_rt : Out.fin (.rt w h) = .v w h := rfl
@[simp] theorem fin_nx : Out.fin (.nx s h) = .v .non h := rfl
@[simp] theorem fin_ex : Out.fin (.ex c w s h) = .ex c w s h := rfl
@[simp] theorem cb_v : Out.cb σ (.v w h) = .v w h := rfl
@[simp] theorem cb_ex : Out.cb σ (.ex c w s h) = .ex c w σ h := rfl
@[simp] theorem pb_v {f : Option Int → IH → Out} : Out.pb (.v w h) f = pm f w h := rfl
@[simp] theorem pm_non {f : Option Int → IH → Out} : pm f .non h = f none h := rfl
@[simp] theorem pm_int {f : Option Int → IH → Out} {i : Int} : pm f (.int i) h = f (some i) h := rfl
@[simp] theorem gN_ap {i : Nat} : gN i w σ = some (σ.set i (some w)) := rfl
def locO (o : Option (Option W)) (h : IH) : Out := match o with | some (some w) => .v w h | _ => .no
@[simp] theorem locO_s : locO (some (some w)) h = .v w h := rfl
@[simp] theorem eLoc_ap {i : Nat} : eLoc i σ h = locO σ[i]? h := rfl
@[simp] theorem oAdd_int {i j : Int} : oAdd (.int i) (.int j) h = .v (.int (i + j)) h := rfl
@[simp] theorem oSub_int {i j : Int} : oSub (.int i) (.int j) h = .v (.int (i - j)) h := rfl
@[simp] theorem oLt_int {i j : Int} : oLt (.int i) (.int j) h = .v (.bl (decide (i < j))) h := rfl
@[simp] theorem oLe_int {i j : Int} : oLe (.int i) (.int j) h = .v (.bl (decide (i ≤ j))) h := rfl
@[simp] theorem oGt_int {i j : Int} : oGt (.int i) (.int j) h = .v (.bl (decide (j < i))) h := rfl
@[simp] theorem oGe_int {i j : Int} : oGe (.int i) (.int j) h = .v (.bl (decide (j ≤ i))) h := rfl
@[simp] theorem bIntX_int {i : Int} : bIntX [.int i] h = .v (.int i) h := rfl
@[simp] theorem bIntX_bl {q : Bool} : bIntX [.bl q] h = .v (.int (if q then 1 else 0)) h := rfl
@[simp] theorem bMin_int {i j : Int} : bMin [.int i, .int j] h = .v (.int (if j < i then j else i)) h := rfl
@[simp] theorem bMax_int {i j : Int} : bMax [.int i, .int j] h = .v (.int (if j > i then j else i)) h := rfl
end
@[simp] theorem eK_ap  {w : W} {σ : Sg} {h : IH} : eK w σ h = (.v w h) := rfl
@[simp] theorem eBin_ap  {g : W → W → IH → Out} {a b : Ev} {σ : Sg} {h : IH} : eBin g a b σ h = ((a σ h).vb fun x h1 => (b σ h1).vb fun y h2 => g x y h2) := rfl
@[simp] theorem eAnd_ap  {a b : Ev} {σ : Sg} {h : IH} : eAnd a b σ h = ((a σ h).vb fun x h1 => match x with | .bl true => b σ h1 | .bl false => .v (.bl false) h1 | _ => .no) := rfl
@[simp] theorem eOr_ap  {a b : Ev} {σ : Sg} {h : IH} : eOr a b σ h = ((a σ h).vb fun x h1 => match x with | .bl true => .v (.bl true) h1 | .bl false => b σ h1 | _ => .no) := rfl
@[simp] theorem eNot_ap  {a : Ev} {σ : Sg} {h : IH} : eNot a σ h = ((a σ h).vb fun x h1 => match x with | .bl q => .v (.bl (!q)) h1 | _ => .no) := rfl
@[simp] theorem eIf_ap  {c a b : Ev} {σ : Sg} {h : IH} : eIf c a b σ h = ((c σ h).vb fun x h1 => match x with | .bl true => a σ h1 | .bl false => b σ h1 | _ => .no) := rfl
@[simp] theorem eNil_ap  {σ : Sg} {h : IH} : eNil  σ h = (.vs [] h) := rfl
@[simp] theorem eCons_ap  {a r : Ev} {σ : Sg} {h : IH} : eCons a r σ h = ((a σ h).vb fun x h1 => (r σ h1).vsb fun xs h2 => .vs (x :: xs) h2) := rfl
@[simp] theorem eStar_ap  {a r : Ev} {σ : Sg} {h : IH} : eStar a r σ h = ((a σ h).vb fun x h1 => match x with
  | .tup xs => (r σ h1).vsb fun ys h2 => .vs (xs ++ ys) h2
  | .ref n => match h1[n]? with
    | some (.lst xs) => (r σ h1).vsb fun ys h2 => .vs (xs ++ ys) h2
    | _ => .no
  | _ => .no) := rfl
@[simp] theorem eLst_ap  {r : Ev} {σ : Sg} {h : IH} : eLst r σ h = ((r σ h).vsb fun ws h1 => if ws.length ≤ 16777216 then .v (.ref h1.length) (h1 ++ [.lst ws]) else .no) := rfl
@[simp] theorem eTup_ap  {r : Ev} {σ : Sg} {h : IH} : eTup r σ h = ((r σ h).vsb fun ws h1 => if ws.length ≤ 16777216 then .v (.tup ws) h1 else .no) := rfl
@[simp] theorem eInt_ap  {a : Ev} {σ : Sg} {h : IH} : eInt a σ h = ((a σ h).vb fun x h1 => match x with | .int i => .v (.int i) h1 | _ => .no) := rfl
@[simp] theorem eSl_ap  {a l u : Ev} {σ : Sg} {h : IH} : eSl a l u σ h = ((a σ h).vb fun x h1 => (l σ h1).pb fun lo h2 => (u σ h2).pb fun hi h3 => oSl x lo hi h3) := rfl
@[simp] theorem eEnd_ap  {σ : Sg} {h : IH} : eEnd  σ h = (.nx σ h) := rfl
@[simp] theorem eSeq_ap  {a b : Ev} {σ : Sg} {h : IH} : eSeq a b σ h = ((a σ h).nb b) := rfl
@[simp] theorem eDrop_ap  {a : Ev} {σ : Sg} {h : IH} : eDrop a σ h = ((a σ h).vb fun _ h1 => .nx σ h1) := rfl
@[simp] theorem eRet_ap  {a : Ev} {σ : Sg} {h : IH} : eRet a σ h = ((a σ h).vb fun w h1 => .rt w h1) := rfl
@[simp] theorem eRetN_ap  {σ : Sg} {h : IH} : eRetN  σ h = (.rt .non h) := rfl
@[simp] theorem eBrk_ap  {σ : Sg} {h : IH} : eBrk  σ h = (.bk σ h) := rfl
@[simp] theorem eCnt_ap  {σ : Sg} {h : IH} : eCnt  σ h = (.ct σ h) := rfl
@[simp] theorem eIfS_ap  {c a b : Ev} {σ : Sg} {h : IH} : eIfS c a b σ h = ((c σ h).vb fun x h1 => match x with | .bl true => a σ h1 | .bl false => b σ h1 | _ => .no) := rfl
@[simp] theorem eAsg_ap  {g : Tg} {a : Ev} {σ : Sg} {h : IH} : eAsg g a σ h = ((a σ h).vb fun w h1 => match g w σ with | some σ' => .nx σ' h1 | none => .no) := rfl
@[simp] theorem eAug_ap  {i : Nat} {g : W → W → IH → Out} {a : Ev} {σ : Sg} {h : IH} : eAug i g a σ h = (match σ[i]? with
  | some (some x) => (a σ h).vb fun y h1 => (g x y h1).vb fun z h2 => .nx (σ.set i (some z)) h2
  | _ => .no) := rfl
@[simp] theorem eYes_ap  {σ : Sg} {h : IH} : eYes  σ h = (.v (.bl true) h) := rfl
@[simp] theorem eCall_ap  {fn : Fn} {dw : List W} {r : Ev} {σ : Sg} {h : IH} : eCall fn dw r σ h = ((r σ h).vsb fun ws h1 => (fn (ws ++ dw) h1).cb σ) := rfl
@[simp] theorem eFld_ap  {cs : List Nat} {f : Str} {a : Ev} {σ : Sg} {h : IH} : eFld cs f a σ h = ((a σ h).vb (fldAt cs f)) := rfl
@[simp] theorem eSetF_ap  {cs : List Nat} {f : Str} {o a : Ev} {σ : Sg} {h : IH} : eSetF cs f o a σ h = ((a σ h).vb fun y h1 => (o σ h1).vb fun x h2 => setAt cs f x y σ h2) := rfl
@[simp] theorem eAugF_ap  {cs : List Nat} {f : Str} {o a : Ev} {σ : Sg} {h : IH} : eAugF cs f o a σ h = ((o σ h).vb fun x h1 => augAt cs f x h1 fun c u => (a σ h1).vb fun y h2 => (oAddI u y h2).vb fun z h3 => setAt [c] f x z σ h3) := rfl
@[simp] theorem eMeth_ap  {nm : Str} {tbl : Nat → Option (Fn × List W)} {o r : Ev} {σ : Sg} {h : IH} : eMeth nm tbl o r σ h = ((o σ h).vb fun x h1 => recv nm tbl x h1 fun fn dw => (r σ h1).vsb fun ws h2 => (fn (x :: ws ++ dw) h2).cb σ) := rfl
@[simp] theorem eSetI_ap  {o i a : Ev} {σ : Sg} {h : IH} : eSetI o i a σ h = ((a σ h).vb fun y h1 => (o σ h1).vb fun x h2 => (i σ h2).vb fun z h3 => oSetI x z y σ h3) := rfl
@[simp] theorem eBlt_ap  {g : Fn} {r : Ev} {σ : Sg} {h : IH} : eBlt g r σ h = ((r σ h).vsb fun ws h1 => g ws h1) := rfl
@[simp] theorem eSlot_ap  {c i : Nat} {a : Ev} {σ : Sg} {h : IH} : eSlot c i a σ h = ((a σ h).vb (slotAt c i)) := rfl
@[simp] theorem eSetS_ap  {c i : Nat} {o a : Ev} {σ : Sg} {h : IH} : eSetS c i o a σ h = ((a σ h).vb fun y h1 => (o σ h1).vb fun x h2 => setSlot c i x y σ h2) := rfl
@[simp] theorem eMethS_ap  {c : Nat} {fn : Fn} {dw : List W} {o r : Ev} {σ : Sg} {h : IH} : eMethS c fn dw o r σ h = ((o σ h).vb fun x h1 => recvS c x h1 ((r σ h1).vsb fun ws h2 => (fn (x :: ws ++ dw) h2).cb σ)) := rfl
@[simp] theorem eNew_ap  {sl : Bool} {c : Nat} {fn : Fn} {dw : List W} {r : Ev} {σ : Sg} {h : IH} : eNew sl c fn dw r σ h = ((r σ h).vsb fun ws h1 => match fn (.ref h1.length :: ws ++ dw) (h1 ++ [newObj sl c]) with
  | .v .non h2 => .v (.ref h1.length) h2
  | .ex c w _ h2 => .ex c w σ h2
  | _ => .no) := rfl
@[simp] theorem eRaise_ap  {c : Nat} {a : Ev} {σ : Sg} {h : IH} : eRaise c a σ h = ((a σ h).vb fun w h1 => .ex c w σ h1) := rfl
@[simp] theorem eBM_ap  {T : String} {g : W → List W → IH → Out} {o r : Ev} {σ : Sg} {h : IH} : eBM T g o r σ h = ((o σ h).vb fun x h1 => if tyW T x h1 = true then (r σ h1).vsb fun ws h2 => g x ws h2 else .no) := rfl
@[simp] theorem eNeg_ap  {a : Ev} {σ : Sg} {h : IH} : eNeg a σ h = ((a σ h).vb fun x h1 => match x with | .int i => .v (.int (-i)) h1 | _ => .no) := rfl
@[simp] theorem eChain_ap  {g g' : W → W → IH → Out} {a b c : Ev} {σ : Sg} {h : IH} : eChain g g' a b c σ h = ((a σ h).vb fun x h1 => (b σ h1).vb fun y h2 => (g x y h2).vb fun z h3 => match z with
  | .bl true => (c σ h3).vb fun w h4 => g' y w h4
  | .bl false => .v (.bl false) h3
  | _ => .no) := rfl
@[simp] theorem ePar_ap  {i j : Nat} {r : Ev} {σ : Sg} {h : IH} : ePar i j r σ h = (match r σ h with
  | .vs [v, w] h1 => .nx ((σ.set i (some v)).set j (some w)) h1
  | .ex c w s h => .ex c w s h
  | _ => .no) := rfl
@[simp] theorem eFmt_ap  {a : Ev} {σ : Sg} {h : IH} : eFmt a σ h = ((a σ h).vb fmtW) := rfl
@[simp] theorem eTry_ap  {i : Nat} {b : Ev} {hs : List Hd} {σ : Sg} {h : IH} : eTry i b hs σ h = (match b σ h with
  | .ex c w s h' => runH i hs c w s h'
  | o => o) := rfl
@[simp] theorem eIsi_ap  {t : Kd → Bool} {a : Ev} {σ : Sg} {h : IH} : eIsi t a σ h = ((a σ h).vb fun x h1 => match tgOf x h1 with
  | some g => .v (.bl (t g)) h1
  | none => .no) := rfl
@[simp] theorem eXf_ap  {i : Nat} {t : Nat → Bool} {c : Nat} {w : W} {σ : Sg} {h : IH} : eXf i t c w σ h = (if t c = true ∧ holds0 σ i = true then .v w h else .no) := rfl
@[simp] theorem eXi_ap  {i : Nat} {t : Nat → Option Bool} {c : Nat} {σ : Sg} {h : IH} : eXi i t c σ h = (if holds0 σ i = true then (match t c with | some b => .v (.bl b) h | none => .no) else .no) := rfl
@[simp] theorem eDic0_ap  {σ : Sg} {h : IH} : eDic0  σ h = (.v (.ref h.length) (h ++ [.dic []])) := rfl
@[simp] theorem eMatch_ap  {a : Ev} {cs : List (List Str × Ev)} {σ : Sg} {h : IH} : eMatch a cs σ h = ((a σ h).vb fun x h1 => match x with
  | .str z => runM cs z σ h1
  | _ => .no) := rfl
@[simp] theorem eOrV_ap  {a b : Ev} {σ : Sg} {h : IH} : eOrV a b σ h = ((a σ h).vb fun x h1 => match x with
  | .str z => if z.length = 0 then b σ h1 else if z.length ≤ 16777216 then .v (.str z) h1 else .no
  | .non => b σ h1
  | _ => .no) := rfl
end Dr
set_option maxHeartbeats 2000000
namespace Dr
open PySem L2
/-! ### keys of dicts -/
def eqK : Key → Key → Bool
  | .inl i, .inl j => decide (i = j)
  | .inr a, .inr b => eqS a b
  | _, _ => false
theorem eqK_eq : ∀ a b : Key, eqK a b = decide (a = b)
  | .inl i, .inl j => by unfold eqK; simp
  | .inr a, .inr b => by show eqS a b = _; rw [eqS_eq]; simp
  | .inl _, .inr _ => by unfold eqK; simp
  | .inr _, .inl _ => by unfold eqK; simp
def keyW : W → Option Key
  | .int i => some (.inl i)
  | .str z => some (.inr z)
  | _ => none
def valW : List (Key × W) → Key → Option W
  | [], _ => none
  | (j, w) :: r, k => if eqK j k = true then some w else valW r k
def putKW (kvs : List (Key × W)) (k : Key) (w : W) : List (Key × W) :=
  if (kvs.any fun kv => eqK kv.1 k) = true then kvs.map (fun kv => if eqK kv.1 k = true then (kv.1, w) else kv) else kvs ++ [(k, w)]
section
variable {K : PySem.W.Frag} {cl m : Nat → Addr} {L : Nat} {H : Hp}
theorem RK.any {ks : List (Key × W)} {vs : List (Key × V)} (r : RK K cl m L H ks vs) (k : Key) : (ks.any fun kv => eqK kv.1 k) = (vs.any fun kv => decide (kv.1 = k)) := by
  induction r with
  | nil => rfl
  | cons a _ ih => rw [List.any_cons, List.any_cons, ih, eqK_eq]
theorem RK.val {ks : List (Key × W)} {vs : List (Key × V)} (r : RK K cl m L H ks vs) (k : Key) : (valW ks k = none ∧ valV vs k = none) ∨ ∃ w v, valW ks k = some w ∧ valV vs k = some v ∧ RW K cl m L H w v := by
  induction r with
  | nil => exact .inl ⟨rfl, rfl⟩
  | @cons f w v ws vs a b ih =>
    by_cases e : f = k
    · exact .inr ⟨w, v, by unfold valW; rw [eqK_eq, if_pos (decide_eq_true e)], valV_pos e, a⟩
    · rw [valV_neg e]
      unfold valW
      rw [eqK_eq, if_neg (by simpa using e)]
      exact ih
theorem RK.put {ks : List (Key × W)} {vs : List (Key × V)} {k : Key} {w : W} {v : V} (r : RK K cl m L H ks vs) (a : RW K cl m L H w v) : RK K cl m L H (putKW ks k w) (putK vs k v) := by
  unfold putKW putK
  rw [r.any]
  have mp : RK K cl m L H (ks.map fun kv => if eqK kv.1 k = true then (kv.1, w) else kv) (vs.map fun kv => if kv.1 = k then (kv.1, v) else kv) := by
    induction r with
    | nil => exact .nil
    | @cons f w' v' ws vs b _ ih =>
      rw [List.map_cons, List.map_cons]
      by_cases e : f = k
      · rw [if_pos (show eqK f k = true by rw [eqK_eq]; exact decide_eq_true e), if_pos e]
        exact .cons a ih
      · rw [if_neg (show ¬ eqK f k = true by rw [eqK_eq]; simpa using e), if_neg e]
        exact .cons b ih
  have ap : RK K cl m L H (ks ++ [(k, w)]) (vs ++ [(k, v)]) := by
    clear mp
    induction r with
    | nil => exact .cons a .nil
    | cons b _ ih => exact .cons b ih
  split
  · exact mp
  · exact ap
theorem RK.len {ks : List (Key × W)} {vs : List (Key × V)} (r : RK K cl m L H ks vs) : ks.length = vs.length := by
  induction r with
  | nil => rfl
  | cons _ _ ih => simp [ih]
theorem keyW_of {w : W} {v : V} {k : Key} (r : RW K cl m L H w v) (e : keyW w = some k) : v = kV k := by
  cases r <;> cases e <;> rfl
end
section
variable {G : Cfg} {X : Cx} {Z : WX} {k : Nat} {a b c : Ev} {ea eb ec : Expr} {pos : Pos} {st : Stmt} {sts sts' : List Stmt}
theorem Fit.u1 (F : Fit G X Z k) : X.A.units + 1 < cLine := by have := F.room.un; omega
/-! ### in -/
theorem op_inDk (hu : X.A.units + 1 < cLine) : OpR X (compareOp .In) (fun y x H Q => ∃ a o, x = .ref a ∧ DGet H a y o ∧ Q (.bl o.isSome) H) := by
  intro pins s σ H y x v u Q I ry rx h
  obtain ⟨a, o, rfl, g, q⟩ := h
  obtain rfl : u = Value.ref a := rx
  exact d_in hu I g ry fun s' I' => ⟨.bl _, H, I', rfl, q⟩
theorem op_notInDk (hu : X.A.units + 1 < cLine) : OpR X (compareOp .NotIn) (fun y x H Q => ∃ a o, x = .ref a ∧ DGet H a y o ∧ Q (.bl (!o.isSome)) H) := by
  intro pins s σ H y x v u Q I ry rx h
  obtain ⟨a, o, rfl, g, q⟩ := h
  obtain rfl : u = Value.ref a := rx
  exact d_notIn hu I g ry fun s' I' => ⟨.bl _, H, I', rfl, q⟩
def subS (z s : Str) : Bool := !(Builtin.Str.occurrences z s 0 z.length 1).isEmpty
def inMore (x y : W) (h : IH) : Option Bool := match y with
  | .str z => (match x with | .str s => some (subS z s) | _ => none)
  | .ref n => (match h[n]? with
    | some (.dic kvs) => (match keyW x with | some k => some (valW kvs k).isSome | none => none)
    | _ => none)
  | _ => none
def isInX (x y : W) (h : IH) : Option Bool := match isIn x y h with | some b => some b | none => inMore x y h
def oInX (x y : W) (h : IH) : Out := match isInX x y h with | some b => .v (.bl b) h | none => .no
def oNotInX (x y : W) (h : IH) : Out := match isInX x y h with | some b => .v (.bl (!b)) h | none => .no
theorem inMore_cases {m : Nat → Addr} {h : IH} {H : Hp} {x y : W} {vx vy : V} {q : Bool} (R : Rep G.K G.cl m h H) (rx : RW G.K G.cl m h.length H x vx) (ry : RW G.K G.cl m h.length H y vy) (e : inMore x y h = some q) :
    (∃ s z, vx = .str s ∧ vy = .str z ∧ q = subS z s) ∨ ∃ a o, vy = .ref a ∧ DGet H a vx o ∧ q = o.isSome := by
  unfold inMore at e
  split at e
  · split at e
    · cases e
      cases rx; cases ry
      exact .inl ⟨_, _, rfl, rfl, rfl⟩
    · cases e
  · rename_i n
    split at e
    · rename_i kvs hn
      split at e
      · rename_i k hk
        cases e
        obtain ⟨vs, hx, rk⟩ := R.obj n _ hn
        cases ry
        rw [keyW_of rx hk]
        refine .inr ⟨_, _, rfl, DGet.k hx, ?_⟩
        rcases rk.val k with ⟨z1, z2⟩ | ⟨w, v, z1, z2, _⟩ <;> rw [z1, z2] <;> rfl
      · cases e
    · cases e
  · cases e
theorem so_inX (F : Fit G X Z k) : SO G X (compareOp .In) oInX := .mk fun m h H x y vx vy Z' Q R rx ry P => by
  cases e : isIn x y h with
  | some b =>
    have e2 : oInX x y h = oIn x y h := by unfold oInX oIn isInX; rw [e]
    rw [e2] at P
    exact so_in F m h H x y vx vy Z' Q R rx ry P
  | none =>
    unfold oInX isInX at P
    rw [e] at P
    simp only at P
    cases e2 : inMore x y h with
    | none => rw [e2] at P; exact P.elim
    | some q =>
      rw [e2] at P
      have hq := P m H _ Ext.refl R (.bl q)
      rcases inMore_cases R rx ry e2 with ⟨s, z, rfl, rfl, rfl⟩ | ⟨a, o, rfl, g, rfl⟩
      · exact ⟨_, op_in_str, s, z, rfl, rfl, hq⟩
      · exact ⟨_, op_inDk F.u1, a, o, rfl, g, hq⟩
theorem so_notInX (F : Fit G X Z k) : SO G X (compareOp .NotIn) oNotInX := .mk fun m h H x y vx vy Z' Q R rx ry P => by
  cases e : isIn x y h with
  | some b =>
    have e2 : oNotInX x y h = oNotIn x y h := by unfold oNotInX oNotIn isInX; rw [e]
    rw [e2] at P
    exact so_notIn F m h H x y vx vy Z' Q R rx ry P
  | none =>
    unfold oNotInX isInX at P
    rw [e] at P
    simp only at P
    cases e2 : inMore x y h with
    | none => rw [e2] at P; exact P.elim
    | some q =>
      rw [e2] at P
      have hq := P m H _ Ext.refl R (.bl (!q))
      rcases inMore_cases R rx ry e2 with ⟨s, z, rfl, rfl, rfl⟩ | ⟨a, o, rfl, g, rfl⟩
      · exact ⟨_, op_notIn_str, s, z, rfl, rfl, hq⟩
      · exact ⟨_, op_notInDk F.u1, a, o, rfl, g, hq⟩
/-! ### d[k] -/
theorem ix_dk (hu : X.A.units + 1 < cLine) : IxR X (fun x y H Q => ∃ a v, x = .ref a ∧ DGet H a y (some v) ∧ Q v H) := by
  intro value slice pins s σ H x y v u Q I rx ry h hs
  obtain ⟨p, r, rfl, g, q⟩ := h
  obtain rfl : v = Value.ref p := rx
  exact PyProof.Rows.tail_any (dict_typeIs I g) PySem.F.slot_dict_getitem.lookup (d_getItem hu I g ry fun w' s' I' rw' => ⟨r, H, I', rw', q⟩) hs
def oIxX (x y : W) (h : IH) : Out := match x with
  | .ref n => (match h[n]? with
    | some (.dic kvs) => (match keyW y with | some k => (match valW kvs k with | some w => .v w h | none => .no) | none => .no)
    | _ => oIx x y h)
  | _ => oIx x y h
theorem ix_go {m : Nat → Addr} {h : IH} {H : Hp} {x y : W} {v1 v2 : V} {Q : VK} (F : Fit G X Z k) (R : Rep G.K G.cl m h H) (r1 : RW G.K G.cl m h.length H x v1) (r2 : RW G.K G.cl m h.length H y v2) (P : PoE G m h.length H Z Q (oIx x y h)) : WIx X v1 v2 H Q := by
  cases r1 <;> cases r2 <;> first | exact P.elim | skip
  · rename_i z i
    simp only [oIx] at P
    split at P
    · rename_i q
      split at P
      · rename_i d e
        exact ⟨_, ix_str, _, _, _, rfl, rfl, by rw [lineSz]; exact q, e, P m H _ Ext.refl R (.str _)⟩
      · exact P.elim
    · exact P.elim
  · rename_i p vs ws hp hv i
    simp only [oIx, ixW] at P
    split at P
    · rename_i w e
      obtain ⟨v, f, rv⟩ := hv.atI e
      exact ⟨_, ix_tup, p, vs, i, v, rfl, rfl, F.K ▸ hp, f, P m H _ Ext.refl R rv⟩
    · exact P.elim
  · rename_i n hn i
    simp only [oIx] at P
    split at P
    · rename_i ws e
      obtain ⟨vs, hx, hv⟩ := R.obj n _ e
      simp only [ixW] at P
      split at P
      · rename_i w e
        obtain ⟨v, f, rv⟩ := hv.atI e
        exact ⟨_, ix_list, m n, vs, i, v, rfl, rfl, .inl (.inl hx), f, P m H _ Ext.refl R rv⟩
      · exact P.elim
    · rename_i ws e
      obtain ⟨vs, hx, hv⟩ := R.obj n _ e
      simp only [ixW] at P
      split at P
      · rename_i w e
        obtain ⟨v, f, rv⟩ := hv.atI e
        exact ⟨_, ix_list, m n, vs, i, v, rfl, rfl, F.K ▸ rol_sq hx, f, P m H _ Ext.refl R rv⟩
      · exact P.elim
    · exact P.elim
theorem s_ixX (F : Fit G X Z k) (ha : SE G X Z a ea) (hb : SE G X Z b eb) (hs : PlainIx eb := by exact fun _ _ => rfl) : SE G X Z (eBin oIxX a b) (.Subscript ea eb pos) := .mk fun m h H σ τ Q R S P => by
  refine WE.of (pe_ix ixM peM peM hs) (ha m h H σ τ _ R S (PoE.ee P fun x h1 m1 H1 v1 e1 R1 r1 P1 => ?_))
  refine hb m1 h1 H1 σ τ _ R1 (S.mono e1) (PoE.ee P1 fun y h2 m2 H2 v2 e2 R2 r2 P2 => ?_)
  have r1' := r1.mono e2
  unfold oIxX at P2
  split at P2
  · rename_i n
    split at P2
    · rename_i kvs hn
      split at P2
      · rename_i k hk
        split at P2
        · rename_i w hw
          obtain ⟨vs, hx, rk⟩ := R2.obj n _ hn
          cases r1'
          rw [keyW_of r2 hk]
          rcases rk.val k with ⟨z1, z2⟩ | ⟨w', v, z1, z2, rv⟩
          · rw [z1] at hw; cases hw
          · rw [z1] at hw; cases hw
            have g := DGet.k (k := k) hx
            rw [z2] at g
            exact ⟨_, ix_dk F.u1, _, v, rfl, g, P2 m2 H2 v Ext.refl R2 rv⟩
        · exact P2.elim
      · exact P2.elim
    · exact ix_go F R2 r1' r2 P2
  · exact ix_go F R2 r1' r2 P2
/-! ### d[k] = v -/
def WSt (X : Cx) : TSet := fun o i v H Q => ∃ t, PSet X t ∧ t o i v H Q
theorem psetM : PSet X (WSt X) := fun pins s σ H o i v ov iv u Q I ro ri rv h => let ⟨_, p, q⟩ := h; p pins s σ H o i v ov iv u Q I ro ri rv q
def oSetIX (x i y : W) (σ : Sg) (h : IH) : Out := match x with
  | .ref n => (match h[n]? with
    | some (.dic kvs) => (match keyW i with | some k => if kvs.length < 16777216 then .nx σ (h.set n (.dic (putKW kvs k y))) else .no | none => .no)
    | _ => oSetI x i y σ h)
  | _ => oSetI x i y σ h
def eSetIX (o i a : Ev) : Ev := fun σ h => (a σ h).vb fun y h1 => (o σ h1).vb fun x h2 => (i σ h2).vb fun z h3 => oSetIX x z y σ h3
theorem set_go {m : Nat → Addr} {h : IH} {H : Hp} {x z y : W} {v2 v3 v1 : V} {σ : Sg} {τ : St} {D : Ends} (R : Rep G.K G.cl m h H) (S : RSt G m h.length H σ τ) (rx : RW G.K G.cl m h.length H x v2) (rz : RW G.K G.cl m h.length H z v3) (ry : RW G.K G.cl m h.length H y v1)
    (P : PoS G m h.length H Z D (oSetI x z y σ h)) : WSt X v2 v3 v1 H (fun H' => D.nx τ H') := by
  cases rx <;> cases rz <;> first | exact P.elim | skip
  rename_i n hn j
  unfold oSetI at P
  simp only at P
  split at P
  · rename_i ws e
    split at P
    · rename_i q eq
      obtain ⟨vs, hx, hv⟩ := R.obj n _ e
      refine ⟨_, set_list, m n, vs, j, q, rfl, rfl, hx, by rw [← hv.length]; exact eq, ?_⟩
      obtain ⟨R', E'⟩ := R.put (n := n) (o' := .lst (ws.set q y)) (u := .lst (vs.set q v1)) e (noTup_of hx (fun _ z => by cases z) (fun _ _ z => by cases z)) (fun ex => ⟨_, upd_same, (hv.set ry q).mono ex⟩)
      exact P m _ τ E' R' (S.mono E')
    · exact P.elim
  · exact P.elim
theorem v_setIX {o i : Ev} {eo ei : Expr} {pos' : Pos} (F : Fit G X Z k) (ho : SE G X Z o eo) (hi : SE G X Z i ei) (ha : SE G X Z a ea) (hs : swapsWithSole [.Subscript eo ei pos'] ea pos.line X.env = pure false := by rfl) (hw : swappedStores [.Subscript eo ei pos'] ea X.env = pure none := by rfl)
    (h1 : (assignEach [.Subscript eo ei pos'] X.env).map (·.2) = [assign (.Subscript eo ei pos') X.env] := by rfl)
    (hg : ∀ v, assign (.Subscript eo ei pos') X.env v = (do
      let ov ← holding [v] (eval eo X.env)
      let iv ← holding [v, ov] (eval ei X.env)
      standAt pos'
      holding [v, ov, iv] (setItem ov iv v)
      release [v, ov, iv] []) := by intro _; rfl) : SS G X Z (eSetIX o i a) (.Assign [.Subscript eo ei pos'] ea pos) := .mk fun m h H σ τ D R S P => by
  refine WS.of (ps_asg peM (pg_sub peM peM psetM hg) hs hw h1) (ha m h H σ τ _ R S (PoS.es P fun y h1 m1 H1 v1 e1 R1 r1 P1 => ?_))
  refine ho m1 h1 H1 σ τ _ R1 (S.mono e1) (PoS.es P1 fun x h2 m2 H2 v2 e2 R2 r2 P2 => ?_)
  refine hi m2 h2 H2 σ τ _ R2 ((S.mono e1).mono e2) (PoS.es P2 fun z h3 m3 H3 v3 e3 R3 r3 P3 => ?_)
  have S3 := ((S.mono e1).mono e2).mono e3
  have ry := (r1.mono e2).mono e3
  have rx := r2.mono e3
  clear P P1 P2 r1 r2
  unfold oSetIX at P3
  split at P3
  · rename_i n
    split at P3
    · rename_i kvs hn
      split at P3
      · rename_i k hk
        split at P3
        · rename_i ln
          obtain ⟨vs, hx, rk⟩ := R3.obj n _ hn
          cases rx
          rw [keyW_of r3 hk]
          refine ⟨_, set_dict F.u1, m3 n, _, rfl, DPut.k hx (by rw [← rk.len, lineSz]; exact ln), ?_⟩
          obtain ⟨R', E'⟩ := R3.put (n := n) (o' := .dic (putKW kvs k y)) (u := .dK (putK vs k v1)) hn (noTup_of hx (fun _ z => by cases z) (fun _ _ z => by cases z)) (fun ex => ⟨_, upd_same, (rk.put ry).mono ex⟩)
          exact P3 m3 _ τ E' R' (S3.mono E')
        · exact P3.elim
      · exact P3.elim
    · exact set_go R3 S3 rx r3 ry P3
  · exact set_go R3 S3 rx r3 ry P3
/-! ### d.get -/
theorem mt_get1 (hu : X.A.units + 1 < cLine) : MtR X "dict.get" (fun x xs H Q => ∃ a y o, x = .ref a ∧ xs = [y] ∧ DGet H a y o ∧ Q (o.getD .non) H) := by
  intro pins s σ H x xs v us Q I rx rs h
  obtain ⟨a, y, o, rfl, rfl, g, q⟩ := h
  cases rx
  cases rs with
  | cons r1 r2 => cases r2; exact d_get1 hu I g r1 fun w' s' I' rw' => ⟨_, H, I', rw', q⟩
theorem mt_get2 (hu : X.A.units + 1 < cLine) : MtR X "dict.get" (fun x xs H Q => ∃ a y d o, x = .ref a ∧ xs = [y, d] ∧ DGet H a y o ∧ Q (o.getD d) H) := by
  intro pins s σ H x xs v us Q I rx rs h
  obtain ⟨a, y, d, o, rfl, rfl, g, q⟩ := h
  cases rx
  cases rs with
  | cons r1 r2 =>
    cases r2 with
    | cons r2 r3 => cases r3; exact d_get2 hu I g r1 r2 fun w' s' I' rw' => ⟨_, H, I', rw', q⟩
def mGet (x : W) (ws : List W) (h : IH) : Out := match x with
  | .ref n => (match h[n]? with
    | some (.dic kvs) => (match ws with
      | [y] => (match keyW y with | some k => .v ((valW kvs k).getD .non) h | none => .no)
      | [y, d] => (match keyW y with | some k => .v ((valW kvs k).getD d) h | none => .no)
      | _ => .no)
    | _ => .no)
  | _ => .no
theorem m_get (F : Fit G X Z k) : SM G X "dict" "dict.get" mGet := .mk fun m h H x vx ws vs Z Q R rx r P => by
  unfold mGet at P
  split at P
  · rename_i n
    split at P
    · rename_i kvs hn
      obtain ⟨us, hx, rk⟩ := R.obj n _ hn
      cases rx
      split at P
      · rename_i y
        split at P
        · rename_i k hk
          cases r with
          | cons r1 r2 =>
            cases r2
            rw [keyW_of r1 hk]
            refine ⟨_, mt_get1 F.u1, m n, _, _, rfl, rfl, DGet.k hx, ?_⟩
            rcases rk.val k with ⟨z1, z2⟩ | ⟨w, v, z1, z2, rv⟩
            · rw [z1] at P; rw [z2]; exact P m H _ Ext.refl R .non
            · rw [z1] at P; rw [z2]; exact P m H _ Ext.refl R rv
        · exact P.elim
      · rename_i y d
        split at P
        · rename_i k hk
          cases r with
          | cons r1 r2 =>
            cases r2 with
            | cons r2 r3 =>
              cases r3
              rw [keyW_of r1 hk]
              refine ⟨_, mt_get2 F.u1, m n, _, _, _, rfl, rfl, DGet.k hx, ?_⟩
              rcases rk.val k with ⟨z1, z2⟩ | ⟨w, v, z1, z2, rv⟩
              · rw [z1] at P; rw [z2]; exact P m H _ Ext.refl R r2
              · rw [z1] at P; rw [z2]; exact P m H _ Ext.refl R rv
        · exact P.elim
      · exact P.elim
    · exact P.elim
  · exact P.elim
end
end Dr
set_option maxHeartbeats 2000000
namespace Dr
open PySem L2
section
variable {G : Cfg} {X : Cx} {Z : WX} {k : Nat} {a b c : Ev} {ea eb ec : Expr} {pos : Pos} {st : Stmt} {sts sts' : List Stmt}
/-! ### methods of texts -/
theorem RWs.strs {m : Nat → Addr} {L : Nat} {H : Hp} : ∀ ys : List Str, RWs G.K G.cl m L H (ys.map W.str) (ys.map V.str)
  | [] => .nil
  | y :: ys => .cons (.str y) (RWs.strs ys)
theorem RWs.ints {m : Nat → Addr} {L : Nat} {H : Hp} : ∀ ys : List Int, RWs G.K G.cl m L H (ys.map W.int) (ys.map V.int)
  | [] => .nil
  | y :: ys => .cons (.int y) (RWs.ints ys)
def strsOut (ys : List Str) (h : IH) : Out := .v (.ref h.length) (h ++ [.lst (ys.map W.str)])
def mSplit (x : W) (ws : List W) (h : IH) : Out := match x, ws with
  | .str a, [.str b] => if (b.length == 0) = false ∧ a.length + 2 ≤ 16777216 then strsOut (Txt.split a b) h else .no
  | .str a, [] => if a.length + 2 ≤ 16777216 then strsOut (Txt.words a) h else .no
  | _, _ => .no
theorem m_split : SM G X "str" "str.split" mSplit := .mk fun m h H x vx ws vs Z Q R rx r P => by
  unfold mSplit at P
  split at P
  · rename_i a b
    split at P
    · rename_i q
      cases rx
      cases r with
      | cons r1 r2 => cases r1; cases r2; exact ⟨_, mt_split, a, b, rfl, rfl, q.1, by rw [lineSz]; exact q.2, fun p hp => new_lst R hp (RWs.strs _) P⟩
    · exact P.elim
  · rename_i a
    split at P
    · rename_i q
      cases rx; cases r
      exact ⟨_, mt_words, a, rfl, rfl, by rw [lineSz]; exact q, fun p hp => new_lst R hp (RWs.strs _) P⟩
    · exact P.elim
  · exact P.elim
def mPart (x : W) (ws : List W) (h : IH) : Out := match x, ws with
  | .str a, [.str b] => if (b.length == 0) = false ∧ a.length ≤ 16777216 then .v (.tup [.str (Txt.partition a b).1, .str (Txt.partition a b).2.1, .str (Txt.partition a b).2.2]) h else .no
  | _, _ => .no
theorem m_part : SM G X "str" "str.partition" mPart := .mk fun m h H x vx ws vs Z Q R rx r P => by
  unfold mPart at P
  split at P
  · rename_i a b
    split at P
    · rename_i q
      cases rx
      cases r with
      | cons r1 r2 => cases r1; cases r2; exact ⟨_, mt_partition, a, b, rfl, rfl, q.1, by rw [lineSz]; exact q.2, fun p hp => new_tup R hp (.cons (.str _) (.cons (.str _) (.cons (.str _) .nil))) P⟩
    · exact P.elim
  · exact P.elim
def mEnds (x : W) (ws : List W) (h : IH) : Out := match x, ws with
  | .str a, [.str b] => .v (.bl (Txt.endswith a b)) h
  | _, _ => .no
theorem m_ends : SM G X "str" "str.endswith" mEnds := .mk fun m h H x vx ws vs Z Q R rx r P => by
  unfold mEnds at P
  split at P
  · rename_i a b
    cases rx
    cases r with
    | cons r1 r2 => cases r1; cases r2; exact ⟨_, mt_endswith, a, b, rfl, rfl, P m H _ Ext.refl R (.bl _)⟩
  · exact P.elim
def mStarts (x : W) (ws : List W) (h : IH) : Out := match x, ws with
  | .str a, [.str b] => .v (.bl (Txt.startswith a b)) h
  | _, _ => .no
theorem m_starts : SM G X "str" "str.startswith" mStarts := .mk fun m h H x vx ws vs Z Q R rx r P => by
  unfold mStarts at P
  split at P
  · rename_i a b
    cases rx
    cases r with
    | cons r1 r2 => cases r1; cases r2; exact ⟨_, mt_startswith, a, b, rfl, rfl, P m H _ Ext.refl R (.bl _)⟩
  · exact P.elim
def mLstripC (x : W) (ws : List W) (h : IH) : Out := match x, ws with
  | .str a, [.str b] => if a.length ≤ 16777216 then .v (.str (Txt.lstripChars a b)) h else .no
  | _, _ => .no
theorem m_lstripC : SM G X "str" "str.lstrip" mLstripC := .mk fun m h H x vx ws vs Z Q R rx r P => by
  unfold mLstripC at P
  split at P
  · rename_i a b
    split at P
    · rename_i q
      cases rx
      cases r with
      | cons r1 r2 => cases r1; cases r2; exact ⟨_, mt_lstripChars, a, b, rfl, rfl, by rw [lineSz]; exact q, P m H _ Ext.refl R (.str _)⟩
    · exact P.elim
  · exact P.elim
def mRstripC (x : W) (ws : List W) (h : IH) : Out := match x, ws with
  | .str a, [.str b] => if a.length ≤ 16777216 then .v (.str (Txt.rstripChars a b)) h else .no
  | _, _ => .no
theorem m_rstripC : SM G X "str" "str.rstrip" mRstripC := .mk fun m h H x vx ws vs Z Q R rx r P => by
  unfold mRstripC at P
  split at P
  · rename_i a b
    split at P
    · rename_i q
      cases rx
      cases r with
      | cons r1 r2 => cases r1; cases r2; exact ⟨_, mt_rstripChars, a, b, rfl, rfl, by rw [lineSz]; exact q, P m H _ Ext.refl R (.str _)⟩
    · exact P.elim
  · exact P.elim
/-! ### sorted -/
def insI (i : Int) : List Int → List Int
  | [] => [i]
  | j :: r => if i ≤ j then i :: j :: r else j :: insI i r
def sortI : List Int → List Int
  | [] => []
  | i :: r => insI i (sortI r)
theorem insI_perm (i : Int) : ∀ r : List Int, (insI i r).Perm (i :: r)
  | [] => .refl _
  | j :: r => by
    unfold insI
    split
    · exact .refl _
    · exact ((insI_perm i r).cons j).trans (.swap i j r)
theorem sortI_perm : ∀ r : List Int, (sortI r).Perm r
  | [] => .refl _
  | i :: r => (insI_perm i _).trans ((sortI_perm r).cons i)
theorem insI_pw (i : Int) : ∀ r : List Int, r.Pairwise (· ≤ ·) → (insI i r).Pairwise (· ≤ ·)
  | [], _ => by unfold insI; exact List.pairwise_singleton _ _
  | j :: r, h => by
    obtain ⟨h1, h2⟩ := List.pairwise_cons.mp h
    unfold insI
    split
    · rename_i q
      exact List.pairwise_cons.mpr ⟨fun z hz => by
        rcases List.mem_cons.mp hz with rfl | hz
        · exact q
        · exact Int.le_trans q (h1 z hz), h⟩
    · rename_i q
      refine List.pairwise_cons.mpr ⟨fun z hz => ?_, insI_pw i r h2⟩
      rcases List.mem_cons.mp ((insI_perm i r).mem_iff.mp hz) with rfl | hz
      · omega
      · exact h1 z hz
theorem sortI_pw : ∀ r : List Int, (sortI r).Pairwise (· ≤ ·)
  | [] => List.Pairwise.nil
  | i :: r => insI_pw i _ (sortI_pw r)
def bSorted : Fn := fun ws h => match ws with
  | [.ref n] => (match lstAt h n with
    | some ls => (match mapO W.num ls with
      | some ns => .v (.ref h.length) (h ++ [.lst ((sortI ns).map W.int)])
      | none => .no)
    | none => .no)
  | _ => .no
theorem c_sorted (hK : X.K = G.K) : SC G X (.builtin "sorted") bSorted := .mk fun m h H ws vs Z Q R r P => by
  unfold bSorted at P
  split at P
  · rename_i n
    split at P
    · rename_i ls e
      split at P
      · rename_i ns en
        obtain ⟨us, hx, hu⟩ := lstAt_of R e
        cases r with
        | cons r1 r2 =>
          cases r1; cases r2
          rw [nums_of hu en] at hx
          refine ⟨_, cr_sortedI, m n, ns, rfl, hK ▸ hx, fun ns' p hp hs hn => ?_⟩
          have e2 : ns' = sortI ns := PySem.W.ksm_same (hp.trans (sortI_perm ns).symm) hs (sortI_pw ns)
          rw [e2]
          exact new_lst R hn (RWs.ints _) P
      · exact P.elim
    · exact P.elim
  · exact P.elim
/-! ### x.f -= i -/
def oSubI : W → W → IH → Out
  | .int i, .int j, h => .v (.int (i - j)) h
  | _, _, _ => .no
def eAugFS (cs : List Nat) (f : Str) (o a : Ev) : Ev := fun σ h => (o σ h).vb fun x h1 => augAt cs f x h1 fun c u => (a σ h1).vb fun y h2 => (oSubI u y h2).vb fun z h3 => setAt [c] f x z σ h3
theorem v_augFS {cs : List Nat} {f : Str} {o : Ev} {eo : Expr} {pos' : Pos} (F : Fit G X Z k) (ok : FldOk G X cs f) (ho : SE G X Z o eo) (ha : SE G X Z a ea) : SS G X Z (eAugFS cs f o a) (.AugAssign (.Attribute eo f pos') .Sub ea pos) := .mk fun m h H σ τ D R S P => by
  refine WS.of (ps_fldaug peM peM in_sub) (ho m h H σ τ _ R S (PoS.es P fun x h1 m1 H1 v1 e1 R1 r1 P1 => ?_))
  cases r1 <;> first | exact P1.elim | skip
  rename_i n hn
  unfold augAt at P1
  simp only at P1
  split at P1
  · rename_i c fs e
    split at P1
    · rename_i q
      obtain ⟨dx, fvs, hx, rf⟩ := R1.obj n _ e
      have ck := ok c (by simpa using q)
      rw [lookW_eq] at P1
      rcases rf.look f with ⟨z, _⟩ | ⟨w, v, z, z', rw_⟩
      · rw [z] at P1; exact P1.elim
      · rw [z] at P1
        refine ⟨m1 n, _, dx, fvs, v, rfl, hx, ck.1, ck.2, z', ?_⟩
        refine ha m1 h1 H1 σ τ _ R1 (S.mono e1) (PoS.es P1 fun y h2 m2 H2 v2 e2 R2 r2 P2 => ?_)
        have rw2 := rw_.mono e2
        cases rw2 <;> cases r2 <;> first | exact P2.elim | skip
        refine ⟨_, _, rfl, rfl, ?_⟩
        have P3 : PoS G m2 h2.length H2 Z D (setAt [c] f (.ref n) _ σ h2) := P2
        have rn : RW G.K G.cl m2 h2.length H2 (.ref n) (.ref (m2 n)) := .ref n (Nat.lt_of_lt_of_le hn e2.le)
        obtain ⟨n', c', dx', fvs', e', hc, hx', c1, c2, hl, q'⟩ := set_at (X := X) (cs := [c]) (fun c0 h0 => by rw [List.mem_singleton.mp h0]; exact ck) R2 ((S.mono e1).mono e2) rn (.int _) P3
        have en : m2 n' = m1 n := by rw [← e2.eq n hn]; exact (V.ref.inj e').symm
        rw [List.mem_singleton.mp hc, en] at hx' q'
        exact ⟨dx', fvs', hx', hl, q'⟩
    · exact P1.elim
  · exact P1.elim
end
end Dr
set_option maxHeartbeats 4000000
namespace Dr.Kset
open PySem PySem.Spec PyProof.Rows L2
/-- what is met for the first time -/
def dd : List Key → List Key → List Key
  | acc, [] => acc
  | acc, k :: r => if (acc.any fun j => eqK j k) = true then dd acc r else dd (acc ++ [k]) r
theorem dd_snoc (k : Key) : ∀ (xs acc : List Key), dd acc (xs ++ [k]) = if ((dd acc xs).any fun j => eqK j k) = true then dd acc xs else dd acc xs ++ [k]
  | [], acc => rfl
  | x :: xs, acc => by
    simp only [List.cons_append, dd]
    split
    · exact dd_snoc k xs acc
    · exact dd_snoc k xs _
theorem dd_len : ∀ (xs acc : List Key), (dd acc xs).length ≤ acc.length + xs.length
  | [], acc => by simp [dd]
  | x :: xs, acc => by
    simp only [dd, List.length_cons]
    split
    · have := dd_len xs acc; omega
    · have := dd_len xs (acc ++ [x]); simp at this; omega
/-- the set of what is met -/
abbrev met (xs : List Key) (i : Nat) : List Key := dd [] (xs.take i)
abbrev isMet (xs : List Key) (i : Nat) : Key → Bool := fun j => (met xs i).any fun c => decide (c = j)
theorem met_succ {xs : List Key} {i : Nat} {k : Key} (h : xs[i]? = some k) : met xs (i + 1) = if isMet xs i k = true then met xs i else met xs i ++ [k] := by
  unfold met isMet
  rw [List.take_add_one, h]
  show dd [] (xs.take i ++ [k]) = _
  rw [dd_snoc]
  have e : ((dd [] (xs.take i)).any fun j => eqK j k) = (dd [] (xs.take i)).any fun c => decide (c = k) := by congr 1; funext j; exact eqK_eq j k
  rw [e]
theorem setCongr {pg : Program} {wd : World} {h : Heap} {a : Addr} {S S' : Key → Bool} {n n' : Nat} (z : h.SetOf (mixKind pg wd) a S n) (e : ∀ k, S k = S' k) (en : n = n') : h.SetOf (mixKind pg wd) a S' n' := by
  have w : S = S' := funext e
  subst w; subst en; exact z
section
variable {pg : Program} {wd : World} {Ar : Around} {Rr : Result → Shared → Prop} {It : Addr} {fs ws : List Addr} {Gg : Array GenState → Array GenState → Prop} {N : Nat} {Pp : Nat → Value → Prop} {Ss : Nat → Shared → Prop}
theorem loop_keys (Wk : WalksS pg wd Ar.in1 It fs ws Gg N Pp Ss) (B : Addr) (nin : B ∉ fs) (xs : List Key) (few : N + 1 < scanBound)
    (is_ : ∀ i v, Pp i v → ∃ k, xs[i]? = some k ∧ RelV (kV k) v) :
    ∀ (d i : Nat) (t : Shared), N - i = d → i ≤ N → Ss i t → t.heap.SetOf (mixKind pg wd) B (isMet xs i) (met xs i).length → (met xs i).length ≤ i →
      (∀ t', Moved (B :: ws) Gg t t' → t'.heap.SetOf (mixKind pg wd) B (isMet xs N) (met xs N).length → Rr (.ok (.ret .none)) t') →
      codeAny (model pg wd) Ar (.builtin "set.update.loop" ⟨[.ref B, .ref It], []⟩) Rr t := by
  have nw : B ∉ ws := fun z => nin (Wk.sub _ z)
  have up : ∀ b ∈ ws, b ∈ B :: ws := fun b z => List.mem_cons_of_mem _ z
  have stay : ∀ {t t' : Shared} {S : Key → Bool} {n : Nat}, Moved ws Gg t t' → t.heap.SetOf (mixKind pg wd) B S n → t'.heap.SetOf (mixKind pg wd) B S n := fun {t t' S n} mv z => by
    obtain ⟨o, es, ep, tb, ho, rest⟩ := z
    exact ⟨o, es, ep, tb, mv.heap B _ nw ho, rest⟩
  intro d
  induction d with
  | zero =>
    intro i t hd hi hs z _ fin
    obtain rfl : i = N := by omega
    refine codeAny_builtin PyProof.Rows.F.entry_set_update_loop ?_; rw [Around.under_plainId PyProof.Rows.F.plain_set_update_loop _]
    show wpAny _ Ar.in1 (pyNext (.ref It) >>= _) _ _ t
    refine wpAny_bind (Wk.done t _ _ hs fun t' mv => ?_)
    show wpAny _ Ar.in1 (ret Value.none) _ _ t'
    exact wpAny_pure (fin t' (mv.mono up) (stay mv z))
  | succ d ih =>
    intro i t hd hi hs z zl fin
    have lt : i < N := by omega
    refine codeAny_builtin PyProof.Rows.F.entry_set_update_loop ?_; rw [Around.under_plainId PyProof.Rows.F.plain_set_update_loop _]
    show wpAny _ Ar.in1 (pyNext (.ref It) >>= _) _ _ t
    refine wpAny_bind (Wk.item i t _ _ lt hs fun v t' pv hs' mv => ?_)
    obtain ⟨k, ek, rv⟩ := is_ i v pv
    have z' := stay mv z
    show wpAny _ Ar.in1 (holding [v] (setAdd B v) >>= _) _ _ t'
    refine wpAny_bind (wpAny_holding ?_)
    unfold setAdd
    refine wpAny_holding (wpAny_bind ((mixKind pg wd).pyHash (k := k) (kV_is rv) ?_))
    refine wpAny_setAddHashed_of (knd := mixKind pg wd) (s := { t' with toks := t'.toks + 1 }) (kV_is rv) (key_scan rv) z' (by omega) fun h' keep z2 => ?_
    have ms := met_succ ek
    have z3 : h'.SetOf (mixKind pg wd) B (isMet xs (i + 1)) (met xs (i + 1)).length := by
      refine setCongr z2 (fun j => ?_) ?_
      · show (isMet xs i j || decide (j = k)) = (met xs (i + 1)).any fun c => decide (c = j)
        rw [ms]
        split
        · rename_i q
          by_cases e : j = k
          · subst e; rw [show ((met xs i).any fun c => decide (c = j)) = isMet xs i j from rfl, q]; rfl
          · rw [decide_eq_false e, Bool.or_false]
        · rw [List.any_append]
          by_cases e : j = k
          · subst e; simp
          · have e' : ¬ k = j := fun w => e w.symm
            simp [e, e', isMet]
      · rw [ms]
        split
        · rfl
        · rw [List.length_append]; rfl
    have zl' : (met xs (i + 1)).length ≤ i + 1 := by
      rw [ms]
      split
      · omega
      · rw [List.length_append]; simp; omega
    refine wpAny_pure ⟨plainId_quiet PyProof.Rows.F.plain_set_update_loop _, ih (i + 1) _ (by omega) lt (Wk.frame _ t' _ _ hs' (Nat.le_succ _) fun b hb o e => ?_) z3 zl' fun t'' mv'' z'' => ?_⟩
    · rw [keep.2 b (fun w : b = B => nin (w ▸ hb))]; exact e
    · refine fin t'' (Moved.trans Wk.gtrans ((mv.mono up).then_heap (Nat.le_succ _) fun b o hb e => ?_) mv'') z''
      rw [keep.2 b (fun w : b = B => hb (w ▸ List.mem_cons_self))]; exact e
end
abbrev emp (led : Bool) : Obj := { cls := .type "set", dict := none, data := .set #[] 0 (.fresh 0 0 led) }
section
variable {pg : Program} {wd : World} {Ar : Around} {Er : Value → Shared → Prop} {t : Shared}
theorem set_keys {l : Addr} {us : Array Value} {xs : List Key} {Qq : Value → Shared → Prop} (calm : Ar.handled = none) (isl : t.heap.IsList l us) (rel : Vals (xs.map kV) us.toList) (few : us.size + 1 < scanBound)
    (go : ∀ (h' : Heap) (tk : Nat), h'.SetOf (mixKind pg wd) t.heap.objs.size (isMet xs us.size) (met xs us.size).length → (∀ b o, b < t.heap.objs.size → t.heap.get? b = some o → h'.get? b = some o) → Qq (.ref t.heap.objs.size) { t with heap := h', toks := tk }) :
    wpAny (model pg wd) Ar (call (.type "set") [.ref l]) Qq Er t := by
  obtain ⟨c, tl, hmro⟩ := PySem.F.called_set.mro
  have f1 := PySem.F.called_set.made
  have f2 := PySem.F.called_set.sub
  refine wpAny_call (codeAny_of_tree ?_)
  show wpAny _ _ (callAny (.type "set") _) _ _ _
  refine wpAny_pure ⟨Code.quiet_builtin _ (by decide +kernel), codeAny_builtin PySem.F.entry_type_call ?_⟩
  rw [Around.under_plain (weight_type_call_type "set" [.ref l] []) rfl]
  have f3 := PySem.F.called_set.notType
  have f4 := PySem.F.called_set.canCreate
  have f5 := PySem.F.typeCall_set_1 (.ref l)
  repeat (any_goals (first | assumption | wp_step))
  refine codeAny_mono (code_set_new_1 (.ref l) (E := Er) (Q₁ := fun ob s₁ => ∃ led : Bool, ob = .ref t.heap.objs.size ∧ s₁ = { t with heap := t.heap.push (emp led) }) fun led => ⟨led, rfl, rfl⟩) fun r s₁ hr => ?_
  cases r with
  | error e => exact hr
  | ok fl =>
    cases fl with
    | ret ob =>
      obtain ⟨led, rfl, rfl⟩ := hr
      have at1 : (t.heap.push (emp led)).get? t.heap.objs.size = some (emp led) := Heap.get?_push_size _ rfl
      have ty1 : Shared.TypeIs { t with heap := t.heap.push (emp led) } (.ref t.heap.objs.size) "set" := ⟨_, at1, rfl⟩
      have f6 := PySem.F.called_set.init.lookup
      have f7 := PySem.F.called_set.init.bind (.ref t.heap.objs.size)
      repeat (any_goals (first | assumption | wp_step))
      refine codeAny_mono (codeAny_call_builtin (R := wants (fun r s₂ => r = .none ∧ ∃ h' tk, s₂ = { t with heap := h', toks := tk } ∧ h'.SetOf (mixKind pg wd) t.heap.objs.size (isMet xs us.size) (met xs us.size).length ∧ (∀ b o, b < t.heap.objs.size → t.heap.get? b = some o → h'.get? b = some o)) Er)
        PySem.F.called_set.init.plain PySem.F.entry_set_init (check_set_init_1 ty1 ?_)) fun r₂ s₂ hr₂ => ?_
      · obtain ⟨ol, gol, hcl, nl, hdl⟩ := isl
        obtain ⟨oc, od, odt, osl⟩ := ol
        simp only at hcl hdl
        subst hcl; subst hdl
        have gol' : (t.heap.push (emp led)).get? l = some { cls := .type "list", dict := od, data := .seq us nl, slots := osl } := Heap.get?_push_of_some _ gol
        have f8 := PySem.F.sub_list_set
        have f9 := PySem.F.sub_list_frozenset
        have ne0 : (Value.type "list" == Value.type "dict") = false := by decide
        have isl1 : (t.heap.push (emp led)).IsList l us := ⟨_, gol', rfl, nl, rfl⟩
        unfold Builtin.«set.__init__» noKeywords Builtin.Frozenset.updateFrom
        generalize hPI : pyIter = PI
        wp_walk
        subst hPI
        refine wpAny_pyIter_list isl1 (wpAny_bind (wpAny_runValue ?_))
        have ls : l < t.heap.objs.size := Heap.lt_size gol
        have calm3 : Ar.in1.in1.in1.handled = none := by simp [calm]
        have ne1 : l ≠ (t.heap.push (emp led)).objs.size := by rw [Heap.size_push]; exact Nat.ne_of_lt (Nat.lt_succ_of_lt ls)
        have nin : t.heap.objs.size ∉ [(t.heap.push (emp led)).objs.size, l] := by
          rw [Heap.size_push]; simp only [List.mem_cons, List.mem_singleton, List.not_mem_nil, or_false, not_or]; exact ⟨Nat.ne_of_lt (Nat.lt_succ_self _), Nat.ne_of_gt ls⟩
        have sz : xs.length = us.size := by rw [← Array.length_toList, ← rel.length, List.length_map]
        have val : ∀ (i : Nat) (v : Value), us[i]? = some v → ∃ k, xs[i]? = some k ∧ RelV (kV k) v := fun i v hv => by
          have il : i < xs.length := by rw [sz]; exact (Array.getElem?_eq_some_iff.mp hv).1
          obtain ⟨u, hu, ru⟩ := rel.get (i := i) (x := kV xs[i]) (by simp [il])
          have e : us.toList[i]? = some v := by rw [Array.getElem?_toList]; exact hv
          rw [e] at hu
          cases hu
          exact ⟨xs[i], List.getElem?_eq_getElem il, ru⟩
        refine loop_keys ((Walks.list calm3 _ l ne1 us).toS) t.heap.objs.size nin xs few val (us.size - 0) 0 _ (by omega) (Nat.zero_le _) ⟨⟨_, Heap.get?_push_size _ rfl, rfl, rfl⟩, (isl1.push _)⟩ ?z0 (Nat.le_refl _) ?zR
        case z0 =>
          have at2 : ((t.heap.push (emp led)).push { cls := .type "list_iterator", data := .fields #[.ref l, .int 0 0] }).get? t.heap.objs.size = some (emp led) := Heap.get?_push_of_some _ at1
          exact ⟨_, #[], 0, _, at2, ⟨rfl, rfl, rfl⟩, rfl, (fun e he => by simp at he), (fun j => Iff.intro (fun w => by cases w) (fun w => by obtain ⟨_, w, _⟩ := w; simp at w)), (by decide), (by rfl), rfl⟩
        case zR =>
          intro t' mv z'
          obtain ⟨h', g', d', tk', os'⟩ := t'
          have eg : g' = t.gens := mv.gens
          have ed : d' = t.drawn := mv.drawn
          have eo : os' = t.os := mv.os
          subst eg; subst ed; subst eo
          show wpAny _ _ _ _ _ _
          refine wpAny_pure ?_
          show wpAny _ _ (ret Value.none) _ _ _
          refine wpAny_pure ⟨rfl, h', tk', rfl, z', fun b o hb e => ?_⟩
          have n1 : b ≠ t.heap.objs.size := Nat.ne_of_lt hb
          have n2 : b ≠ (t.heap.push (emp led)).objs.size := by rw [Heap.size_push]; exact Nat.ne_of_lt (Nat.lt_succ_of_lt hb)
          exact mv.heap b o (by simp only [List.mem_cons, List.mem_singleton, List.not_mem_nil, or_false, not_or]; exact ⟨n1, n2⟩) (Heap.get?_push_of_some _ (Heap.get?_push_of_some _ e))
      · cases r₂ with
        | error e => exact hr₂
        | ok fl₂ =>
          cases fl₂ with
          | ret r =>
            obtain ⟨rfl, h', tk, rfl, z', kp⟩ := hr₂
            repeat (any_goals (first | assumption | wp_step))
            exact go _ _ z' kp
          | _ => exact hr₂.elim
    | _ => exact hr.elim
end
/-- len(set(xs)) of keys -/
def tLenSetK (K : PySem.W.Frag) (ta : TE) : TE := fun σ H Q => ta σ H fun x H1 => ∃ (l : Addr) (xs : List Key), x = .ref l ∧ SqL K H1 l (xs.map kV) ∧ xs.length < 1000 ∧ Q (.int (dd [] xs).length) H1
theorem pe_lenSetK {X : Cx} {a : Expr} {ta : TE} {p p2 q pos : Pos} (hc : X.calm = true) (hg : Gl X "len") (hm : X.mg "len" = none) (hg2 : Gl X "set") (hm2 : X.mg "set" = none) (ha : PE X a ta)
    (na : starEach [a] X.env = (false, eval a X.env) :: starEach [] X.env := by rfl) : PE X (.Call (.Name "len" p) [.Call (.Name "set" p2) [a] [] q] [] pos) (tLenSetK X.K ta) := by
  refine ⟨fun pins s σ H Q I h => Call_ (ld_blt I hg hm boot_len (PyProof.Rows.callWith_builtin1 (PyProof.Rows.args_cons (Call_ (ld_blt I hg2 hm2 boot_set ?_)) rfl) rfl rfl))⟩
  refine PyProof.Rows.callWith_type1 (PyProof.Rows.args_cons (thn (ha.run pins s σ H _ I h) fun v s1 ⟨x, H1, I1, r1, q1⟩ => PyProof.Rows.args_nil ?_) na) na rfl
  obtain ⟨l, xs, rfl, hq, few, q1⟩ := q1
  cases r1
  obtain ⟨its, r, pl, hz⟩ := I1.list hq
  have sz : its.toArray.size = xs.length := by rw [List.size_toArray, ← r.length, List.length_map]
  refine set_keys (xs := xs) (I1.ok.hd hc) pl.isList (by simpa using r) (by rw [sz]; unfold scanBound; omega) fun h' tk z kp => PyProof.Rows.args_nil ?_
  rw [sz] at z
  obtain ⟨o, es, ep, tb, ho, hex, hd, _, _, _, hf, hn⟩ := z
  have I2 : Inv X pins σ H1 { s1 with heap := h', toks := tk } := I1.kept fun b o e => kp b o (Heap.lt_size e) e
  have le : (met xs xs.length).length ≤ xs.length := by
    have := dd_len (xs.take xs.length) []
    rw [List.length_nil, Nat.zero_add, List.length_take, Nat.min_self] at this
    exact this
  have em : met xs xs.length = dd [] xs := by unfold met; rw [List.take_length]
  refine call_len_set ho hex hd hf (by rw [hn]; omega) ⟨.int (dd [] xs).length, H1, I2.tok _, ⟨_, by rw [hn, em]⟩, q1⟩
end Dr.Kset
namespace Dr
open PySem L2
section
variable {G : Cfg} {X : Cx} {Z : WX} {k : Nat} {a b c : Ev} {ea eb ec : Expr} {pos : Pos}
def lenSet (x : W) (h : IH) : Out := match x with
  | .ref n => (match lstAt h n with
    | some ls => (match mapO keyW ls with
      | some ks => if ks.length < 1000 then .v (.int (Kset.dd [] ks).length) h else .no
      | none => .no)
    | none => .no)
  | _ => .no
def eLenSet (a : Ev) : Ev := fun σ h => (a σ h).vb lenSet
theorem keys_of {m : Nat → Addr} {L : Nat} {H : Hp} : ∀ {ws : List W} {vs : List V} {ks : List Key}, RWs G.K G.cl m L H ws vs → mapO keyW ws = some ks → vs = ks.map kV
  | _, _, _, .nil, e => by cases e; rfl
  | _, _, _, .cons (w := w) (ws := ws) r1 r2, e => by
    unfold mapO at e
    cases q1 : keyW w with
    | none => rw [q1] at e; cases e
    | some u =>
      cases q2 : mapO keyW ws with
      | none => rw [q1, q2] at e; cases e
      | some us =>
        rw [q1, q2] at e
        cases e
        rw [keys_of r2 q2, keyW_of r1 q1]
        rfl
theorem s_lenSet {p p2 q : Pos} (F : Fit G X Z k) (hm : X.mg "len" = none) (hm2 : X.mg "set" = none) (ha : SE G X Z a ea) (hg : Gl X "len" := by rfl) (hg2 : Gl X "set" := by rfl) (na : starEach [ea] X.env = (false, eval ea X.env) :: starEach [] X.env := by rfl) :
    SE G X Z (eLenSet a) (.Call (.Name "len" p) [.Call (.Name "set" p2) [ea] [] q] [] pos) := .mk fun m h H σ τ Q R S P => by
  refine WE.of (Kset.pe_lenSetK F.calm hg hm hg2 hm2 peM na) (ha m h H σ τ _ R S (PoE.ee P fun x h1 m1 H1 v1 e1 R1 r1 P1 => ?_))
  unfold lenSet at P1
  split at P1
  · rename_i n
    split at P1
    · rename_i ls e
      split at P1
      · rename_i ks ek
        split at P1
        · rename_i few
          obtain ⟨us, hx, hu⟩ := lstAt_of R1 e
          cases r1
          rw [keys_of hu ek] at hx
          exact ⟨m1 n, ks, rfl, F.K ▸ hx, few, P1 m1 H1 _ Ext.refl R1 (.int _)⟩
        · exact P1.elim
      · exact P1.elim
    · exact P1.elim
  · exact P1.elim
end
end Dr
set_option maxHeartbeats 2000000
namespace Dr
open PySem L2
/-! ### dict comprehensions -/
def dcL (J : ItW) (g : Tg) (t ek e : Ev) (D : Nat) (σ0 : Sg) : Nat → Nat → IH → Out
  | 0, _, _ => .no
  | n + 1, i, h => match J i h with
    | none => .no
    | some none => .v (.ref D) h
    | some (some w) => match g w σ0 with
      | none => .no
      | some σ2 => match t σ2 h with
        | .v (.bl false) h1 => dcL J g t ek e D σ0 n (i + 1) h1
        | .v (.bl true) h1 => (match ek σ2 h1 with
          | .v y h2 => (match e σ2 h2 with
            | .v z h3 => (match keyW y with
              | some k => (match h3[D]? with
                | some (.dic kvs) => if kvs.length < 16777216 then dcL J g t ek e D σ0 n (i + 1) (h3.set D (.dic (putKW kvs k z))) else .no
                | _ => .no)
              | none => .no)
            | _ => .no)
          | _ => .no)
        | _ => .no
def eDc (n : Nat) (it : EvI) (own : List Nat) (g : Tg) (t ek e : Ev) : Ev := fun σ h => match it σ h with
  | .it J h1 => dcL J g t ek e h1.length (wipeW σ own) n 0 (h1 ++ [.dic []])
  | .ex c w s h => .ex c w s h
  | .no => .no
section
variable {G : Cfg} {X : Cx} {Z : WX} {k : Nat} {a b c : Ev} {ea eb ec : Expr} {pos : Pos}
theorem dc_read {own : List Nat} {scope : Scope} {tg kx vx : Expr} {ifs : List Expr} {J : ItW} {I : It} {g : Tg} {t ek e : Ev} {n : Nat} {m1 : Nat → Addr} {h1 : IH} {H1 : Hp} {σ : Sg} {τ : St} {Q : VK}
    (hg : ∀ (s : Shared) (H : Hp) (C : Addr) (cl : List (Str × Addr)) (fp : List Addr), SGw G (X.blk s H scope (compEnvC scope cl C X.env) fp) own g tg)
    (ht : ∀ (s : Shared) (H : Hp) (C : Addr) (cl : List (Str × Addr)) (fp : List Addr), STs G (X.blk s H scope (compEnvC scope cl C X.env) fp) Z0 t ifs)
    (hk : ∀ (s : Shared) (H : Hp) (C : Addr) (cl : List (Str × Addr)) (fp : List Addr), SE G (X.blk s H scope (compEnvC scope cl C X.env) fp) Z0 ek kx)
    (he : ∀ (s : Shared) (H : Hp) (C : Addr) (cl : List (Str × Addr)) (fp : List Addr), SE G (X.blk s H scope (compEnvC scope cl C X.env) fp) Z0 e vx)
    (hxs : G.xs = none) (R1 : Rep G.K G.cl m1 h1 H1) (S1 : RSt G m1 h1.length H1 σ τ) (J1 : RJ G m1 h1.length H1 J I) (P : PoE G m1 h1.length H1 Z Q (dcL J g t ek e h1.length (wipeW σ own) n 0 (h1 ++ [.dic []]))) (D : Addr) (hD : H1 D = none) :
    ∃ W : Nat → Nat → Hp → Prop, (∃ m, W 0 m (upd H1 D (.dK []))) ∧ ∀ i m H, W i m H →
      (I.stop i H ∧ Q (.ref D) H) ∨ (I.go i H ∧ ∃ Nx : Hp → Prop, (∀ H', Nx H' → ∃ m', m' < m ∧ W (i + 1) m' H') ∧ ∀ x H', I.yld i H x H' →
        (∀ (s : Shared) (H0 : Hp) (C : Addr) (cl : List (Str × Addr)) (fp : List Addr), WG (X.blk s H0 scope (compEnvC scope cl C X.env) fp) tg x (L2.wipe τ own) H' fun σ2 H2 => L2.wipe σ2 own = L2.wipe τ own ∧
          ∀ (s : Shared) (H0 : Hp) (C : Addr) (cl : List (Str × Addr)) (fp : List Addr), WTs (X.blk s H0 scope (compEnvC scope cl C X.env) fp) ifs σ2 H2 fun b H3 =>
            if b = true then (∀ (s : Shared) (H0 : Hp) (C : Addr) (cl : List (Str × Addr)) (fp : List Addr), WE (X.blk s H0 scope (compEnvC scope cl C X.env) fp) kx σ2 H3 fun y H4 => ∀ (s : Shared) (H0 : Hp) (C : Addr) (cl : List (Str × Addr)) (fp : List Addr), WE (X.blk s H0 scope (compEnvC scope cl C X.env) fp) vx σ2 H4 fun z H5 => ∃ kvs k, y = kV k ∧ H5 D = some (.dK kvs) ∧ kvs.length < sizeLine ∧ Nx (upd H5 D (.dK (putK kvs k z)))) else Nx H3)) := by
  obtain ⟨R2, E2⟩ := R1.push (q := D) (u := .dK []) (o := .dic []) hD ⟨_, upd_same, .nil⟩
  have last : ext1 m1 h1.length D h1.length = D := by unfold ext1; rw [if_pos rfl]
  let Inv' : Nat → Nat → Hp → Prop := fun i n H => ∃ m h, Ext G.K m1 h1.length H1 m h.length H ∧ Rep G.K G.cl m h H ∧ h1.length < h.length ∧ m h1.length = D ∧ PoE G m h.length H Z Q (dcL J g t ek e h1.length (wipeW σ own) n i h)
  refine ⟨Inv', ⟨n, _, _, E2, R2, by simp, last, PoE.later E2 P⟩, ?_⟩
  rintro i n H ⟨m, h, e2, R, hl, hm, P⟩
  cases n with
  | zero => exact P.elim
  | succ n =>
    have j := J1 i m h H e2 R
    unfold dcL at P
    cases e3 : J i h with
    | none => rw [e3] at P; exact P.elim
    | some o =>
      rw [e3] at P j
      cases o with
      | none =>
        refine .inl ⟨j, P m H _ Ext.refl R ?_⟩
        have q := RW.ref (K := G.K) (cl := G.cl) (m := m) (L := h.length) (H := H) h1.length hl
        rw [hm] at q
        exact q
      | some w =>
        refine .inr ⟨j.1, Inv' (i + 1) n, fun H' z => ⟨n, Nat.lt_succ_self _, z⟩, fun x H' y s H0 C cl fp => ?_⟩
        obtain ⟨m', e4, R4, r4⟩ := j.2 x H' y
        simp only at P
        cases e5 : g w (wipeW σ own) with
        | none => rw [e5] at P; exact P.elim
        | some σ2 =>
          rw [e5] at P
          have S4 := (RSt.wipe hxs S1 own).mono (e2.trans e4)
          refine hg s H0 C cl fp m' h H' w x _ _ σ2 _ R4 r4 S4 e5 fun τ2 S2 hw => ⟨hw.trans (wipe_wipe τ own), fun s H0 C cl fp => ?_⟩
          simp only at P
          refine (ht s H0 C cl fp).run R4 S2 ?_
          cases e6 : t σ2 h with
          | v w6 h6 =>
            rw [e6] at P
            cases w6 with
            | bl q =>
              intro m6 H6 v6 e7 R6 r6
              cases r6
              have em6 : m6 h1.length = D := by rw [e7.eq _ hl, e4.eq _ hl]; exact hm
              cases q with
              | false => exact ⟨false, rfl, iteF ⟨m6, h6, (e2.trans e4).trans e7, R6, Nat.lt_of_lt_of_le hl e7.le, em6, PoE.later (e4.trans e7) P⟩⟩
              | true =>
                refine ⟨true, rfl, iteT fun s H0 C cl fp => ?_⟩
                refine hk s H0 C cl fp m6 h6 H6 σ2 τ2 _ R6 (S2.mono e7) ?_
                simp only at P
                cases ey : ek σ2 h6 with
                | v y7 h7 =>
                  rw [ey] at P
                  intro m7 H7 v7 e75 R7 r7 s H0 C cl fp
                  refine he s H0 C cl fp m7 h7 H7 σ2 τ2 _ R7 ((S2.mono e7).mono e75) ?_
                  simp only at P
                  cases e8 : e σ2 h7 with
                  | v y8 h8 =>
                    rw [e8] at P
                    intro m8 H8 v8 e9 R8 r8
                    simp only at P
                    cases ekw : keyW y7 with
                    | none => rw [ekw] at P; exact P.elim
                    | some kk =>
                      rw [ekw] at P
                      cases e10 : h8[h1.length]? with
                      | none => rw [e10] at P; exact P.elim
                      | some ob =>
                        rw [e10] at P
                        cases ob with
                        | dic acc =>
                          simp only at P
                          split at P
                          · rename_i q
                            obtain ⟨vs, hx, hv⟩ := R8.obj _ _ e10
                            have em7 : m7 h1.length = D := by rw [e75.eq _ (Nat.lt_of_lt_of_le hl e7.le)]; exact em6
                            have em8 : m8 h1.length = D := by rw [e9.eq _ (Nat.lt_of_lt_of_le (Nat.lt_of_lt_of_le hl e7.le) e75.le)]; exact em7
                            rw [em8] at hx
                            refine ⟨vs, kk, keyW_of r7 ekw, hx, by rw [← hv.len, lineSz]; exact q, ?_⟩
                            obtain ⟨R9, E9⟩ := R8.put (n := h1.length) (o' := .dic (putKW acc kk y8)) (u := .dK (putK vs kk v8)) e10 (by rw [em8]; exact noTup_of hx (fun _ z => by cases z) (fun _ _ z => by cases z))
                              (fun ex => ⟨_, upd_same, (hv.put r8).mono ex⟩)
                            rw [em8] at R9 E9
                            have l8 : h1.length < h8.length := Nat.lt_of_lt_of_le hl (Nat.le_trans e7.le (Nat.le_trans e75.le e9.le))
                            exact ⟨m8, _, ((((e2.trans e4).trans e7).trans e75).trans e9).trans E9, R9, by rw [List.length_set]; exact l8, em8, PoE.later ((e4.trans e7).trans (e75.trans (e9.trans E9))) P⟩
                          · exact P.elim
                        | _ => exact P.elim
                  | _ => rw [e8] at P; exact P.elim
                | _ => rw [ey] at P; exact P.elim
            | _ => exact P.elim
          | _ => rw [e6] at P; exact P.elim
theorem s_dc (n : Nat) {it : EvI} {g : Tg} {t ek e : Ev} {kx vx tg iter : Expr} {ifs : List Expr} {scope : Scope} {own : List (Str × Nat)} (F : Fit G X Z k) (hN : X.N.Nodup) (hi : SI G X Z it tg iter) (ok : BlkOk X.N X.env.scope scope own)
    (hg : ∀ (s : Shared) (H : Hp) (C : Addr) (cl : List (Str × Addr)) (fp : List Addr), SGw G (X.blk s H scope (compEnvC scope cl C X.env) fp) (own.map (·.2)) g tg)
    (ht : ∀ (s : Shared) (H : Hp) (C : Addr) (cl : List (Str × Addr)) (fp : List Addr), STs G (X.blk s H scope (compEnvC scope cl C X.env) fp) Z0 t ifs)
    (hk : ∀ (s : Shared) (H : Hp) (C : Addr) (cl : List (Str × Addr)) (fp : List Addr), SE G (X.blk s H scope (compEnvC scope cl C X.env) fp) Z0 ek kx)
    (he : ∀ (s : Shared) (H : Hp) (C : Addr) (cl : List (Str × Addr)) (fp : List Addr), SE G (X.blk s H scope (compEnvC scope cl C X.env) fp) Z0 e vx) (hs : ∀ x, foldedSetIterable iter X.env x = pure x := by intro _; rfl) :
    SE G X Z (eDc n it (own.map (·.2)) g t ek e) (.DictComp kx vx [⟨tg, iter, ifs, 0⟩] scope pos) := .mk fun m h H σ τ Q R S P => by
  refine WE.of (pe_dc (g := fun v σ H Q => ∀ (s : Shared) (H0 : Hp) (C : Addr) (cl : List (Str × Addr)) (fp : List Addr), WG (X.blk s H0 scope (compEnvC scope cl C X.env) fp) tg v σ H Q)
    (tt := fun σ H Q => ∀ (s : Shared) (H0 : Hp) (C : Addr) (cl : List (Str × Addr)) (fp : List Addr), WTs (X.blk s H0 scope (compEnvC scope cl C X.env) fp) ifs σ H Q)
    (tk := fun σ H Q => ∀ (s : Shared) (H0 : Hp) (C : Addr) (cl : List (Str × Addr)) (fp : List Addr), WE (X.blk s H0 scope (compEnvC scope cl C X.env) fp) kx σ H Q)
    (tv := fun σ H Q => ∀ (s : Shared) (H0 : Hp) (C : Addr) (cl : List (Str × Addr)) (fp : List Addr), WE (X.blk s H0 scope (compEnvC scope cl C X.env) fp) vx σ H Q)
    F.calm hN piM ok (fun s H C cl fp => ⟨fun pins s' σ H' v u Q I r h => h s H C cl fp pins s' u I r⟩)
    (fun s H C cl fp => ⟨fun pins s' σ H' Q I h => let ⟨_, p, q⟩ := h s H C cl fp; p.run pins s' σ H' Q I q⟩) (fun s H C cl fp => ⟨fun pins s' σ H' Q I h => h s H C cl fp pins s' I⟩) (fun s H C cl fp => ⟨fun pins s' σ H' Q I h => h s H C cl fp pins s' I⟩) hs) ?_
  refine hi m h H σ τ _ R S ?_
  unfold eDc at P
  cases q : it σ h with
  | no => rw [q] at P; exact P
  | ex c w s h => rw [q] at P; exact P
  | it J h1 =>
    rw [q] at P
    exact fun m1 H1 I e1 R1 J1 D hD => dc_read hg ht hk he F.base R1 (S.mono e1) J1 (PoE.later e1 P) D hD
end
end Dr
set_option maxHeartbeats 2000000
namespace Dr
open PySem L2
/-! ### what loops and small texts come to -/
theorem eFor_it {n : Nat} {it : EvI} {g : Tg} {b : Ev} {σ : Sg} {h h1 : IH} {J : ItW} (e : it σ h = .it J h1) : eFor n it g b σ h = forL J g b n 0 σ h1 := by
  unfold eFor
  rw [e]
theorem forL_step {p fuel i : Nat} {g : Tg} {b : Ev} {ws : List W} {w : W} {σ σ' s : Sg} {h h' : IH} (hl : lstAt h p = some ws) (hw : ws[i]? = some w) (hg : g w σ = some σ') (hb : b σ' h = .nx s h') :
    forL (jL p) g b (fuel + 1) i σ h = forL (jL p) g b fuel (i + 1) s h' := by
  show (match jL p i h with | none => _ | some none => _ | some (some w) => _) = _
  have : jL p i h = some (some w) := by simp only [jL, hl, hw]
  rw [this]
  show (match g w σ with | none => _ | some σ' => _) = _
  rw [hg]
  show (match b σ' h with | .nx s h2 => _ | .ct s h2 => _ | .bk s h2 => _ | .rt w h2 => _ | .ex c w s h2 => _ | _ => _) = _
  rw [hb]
theorem forL_end {p fuel i : Nat} {g : Tg} {b : Ev} {ws : List W} {σ : Sg} {h : IH} (hl : lstAt h p = some ws) (hw : ws[i]? = none) : forL (jL p) g b (fuel + 1) i σ h = .nx σ h := by
  show (match jL p i h with | none => _ | some none => _ | some (some w) => _) = _
  have : jL p i h = some none := by simp only [jL, hl, hw]
  rw [this]
theorem forWI {p : Nat} {ws : List W} {g : Tg} {b : Ev} (I : Sg → IH → Prop) (hl : ∀ σ h, I σ h → lstAt h p = some ws)
    (hs : ∀ w ∈ ws, ∀ σ h, I σ h → ∃ σ' s h', g w σ = some σ' ∧ b σ' h = .nx s h' ∧ I s h') :
    ∀ (fuel i : Nat) (σ : Sg) (h : IH), i ≤ ws.length → ws.length - i < fuel → I σ h → ∃ s h', forL (jL p) g b fuel i σ h = .nx s h' ∧ I s h'
  | 0, i, σ, h, _, hf, _ => absurd hf (Nat.not_lt_zero _)
  | fuel + 1, i, σ, h, hi, hf, hI => by
    by_cases q : i < ws.length
    · obtain ⟨σ', s, h', e1, e2, hI'⟩ := hs ws[i] (List.getElem_mem q) σ h hI
      obtain ⟨s', h'', e3, hI''⟩ := forWI I hl hs fuel (i + 1) s h' q (by omega) hI'
      exact ⟨s', h'', by rw [forL_step (hl σ h hI) (List.getElem?_eq_getElem q) e1 e2]; exact e3, hI''⟩
    · exact ⟨σ, h, forL_end (hl σ h hI) (List.getElem?_eq_none (Nat.le_of_not_lt q)), hI⟩
theorem lcW {p : Nat} {ws : List W} {g : Tg} {t e : Ev} {D : Nat} {σ0 : Sg} {h : IH} (hl : lstAt h p = some ws)
    (hs : ∀ w ∈ ws, ∃ σ', g w σ0 = some σ' ∧ t σ' h = .v (.bl false) h) :
    ∀ (fuel i : Nat), i ≤ ws.length → ws.length - i < fuel → lcL (jL p) g t e D σ0 fuel i h = .v (.ref D) h
  | 0, i, _, hf => absurd hf (Nat.not_lt_zero _)
  | fuel + 1, i, hi, hf => by
    unfold lcL jL
    simp only [hl]
    by_cases q : i < ws.length
    · obtain ⟨σ', e1, e2⟩ := hs ws[i] (List.getElem_mem q)
      rw [List.getElem?_eq_getElem q]
      simp only [e1, e2]
      exact lcW hl hs fuel (i + 1) q (by omega)
    · rw [List.getElem?_eq_none (Nat.le_of_not_lt q)]
theorem oMulX_str {z : Str} {n : Int} {h : IH} (c : 0 ≤ n ∧ n < 1000000 ∧ z.length * n.toNat ≤ 1000000 ∧ (repS z n).length ≤ 16777216) : oMulX (.str z) (.int n) h = .v (.str (repS z n)) h := by
  show (if _ then _ else _) = _
  rw [if_pos c]
theorem oAdd_str {x y : Str} {h : IH} (c : x.length + y.length ≤ 16777216) : oAdd (.str x) (.str y) h = .v (.str (appS x y)) h := by
  show (if _ then _ else _) = _
  rw [if_pos c]
theorem oAdd_lst {p q : Nat} {h : IH} {xs ys : List W} (hp : h[p]? = some (.lst xs)) (hq : h[q]? = some (.lst ys)) (c : xs.length + ys.length ≤ 16777216) : oAdd (.ref p) (.ref q) h = .v (.ref h.length) (h ++ [.lst (xs ++ ys)]) := by
  simp only [oAdd, hp, hq]
  rw [if_pos c]
theorem oSl_lst {p : Nat} {h : IH} {xs : List W} {lo hi : Option Int} (hp : h[p]? = some (.lst xs)) : oSl (.ref p) lo hi h = .v (.ref h.length) (h ++ [.lst (cutW xs lo hi)]) := by simp only [oSl, hp]
theorem cut_take (ws : List W) (n : Nat) : cutW ws none (some (n : Int)) = ws.take n := by
  unfold cutW
  rw [HT.sIx_none, HT.sIx_nat, List.drop_zero, Nat.sub_zero]
  by_cases q : n ≤ ws.length
  · rw [Nat.min_eq_left q]
  · rw [Nat.min_eq_right (by omega), List.take_length, List.take_of_length_le (by omega)]
theorem cut_drop (ws : List W) (n : Nat) : cutW ws (some (n : Int)) none = ws.drop n := by
  unfold cutW
  rw [HT.sIx_none, HT.sIx_nat]
  by_cases q : n ≤ ws.length
  · rw [Nat.min_eq_left q, List.take_of_length_le (by rw [List.length_drop]; omega)]
  · rw [Nat.min_eq_right (by omega), Nat.sub_self, List.take_zero, List.drop_eq_nil_of_le (by omega)]
theorem sts_map : ∀ ss : List Str, mapO W.st (ss.map W.str) = some ss
  | [] => rfl
  | s :: ss => by
    rw [List.map_cons]
    unfold mapO
    rw [sts_map ss]
    rfl
theorem mJoin_lst {z : Str} {p : Nat} {h : IH} {ss : List Str} (hp : h[p]? = some (.lst (ss.map W.str))) (c : (ss.map (·.length)).sum + ss.length * z.length ≤ 16777216) : mJoin (.str z) [.ref p] h = .v (.str (Txt.join z ss)) h := by
  show (match lstAt h p with | some ls => joinS z ls h | none => .no) = _
  have : lstAt h p = some (ss.map W.str) := by simp only [lstAt, hp]
  rw [this]
  show (match mapO W.st (ss.map W.str) with | some ss => _ | none => _) = _
  rw [sts_map]
  show (if _ then _ else _) = _
  rw [if_pos c]
theorem oNe_dat {p q : Nat} {h : IH} {xs ys : List W} {d : PyData} (hp : h[p]? = some (.lst xs)) (hq : h[q]? = some (.lst ys)) (hl : xs.length = ys.length ∧ xs.length ≠ 0) (dp : dat h 40 (.ref p) = some d) (dq : dat h 40 (.ref q) = some d) (s : shaped' d = true) (v : eqF d d = true) : oNe (.ref p) (.ref q) h = .v (.bl false) h := by
  have l : lenQ (.ref p) (.ref q) h = none := by simp [lenQ, lstAt, hp, hq, hl.1, hl.1 ▸ hl.2]
  have e : eqD (.ref p) (.ref q) h = some true := by
    show (match lenQ (.ref p) (.ref q) h with | some b => _ | none => _) = _
    rw [l]
    show (match dat h 40 (.ref p), dat h 40 (.ref q) with | some d, some e => _ | _, _ => _) = _
    rw [dp, dq]
    simp [s, v]
  show (match eqD (.ref p) (.ref q) h with | some b => _ | none => _) = _
  rw [e]
  rfl
/-- the turns of a law's loop over the script -/
theorem rng_it {c : Int} {ns : List Int} {h : IH} {σ : Sg} (c1 : 1 ≤ c) (c2 : c ≤ 1000) (h0 : h[0]? = some (.rol (ns.map W.int))) (s0 : σ[0]? = some (some (.ref 0))) : ∃ n : Nat, (n : Int) ≤ c ∧
    iR1 (eCons (eBlt bMax (eCons (eK (.int 1)) (eCons (eBlt bMin (eCons (eK (.int c)) (eCons (eBlt bLen (eCons (eLoc 0) eNil)) eNil))) eNil))) eNil) σ h = .it (jR 0 n) h := by
  obtain ⟨n, hn, en⟩ : ∃ n : Nat, (n : Int) ≤ c ∧ (if (if (ns.length : Int) < c then (ns.length : Int) else c) > 1 then (if (ns.length : Int) < c then (ns.length : Int) else c) else 1) = (n : Int) := by
    by_cases q1 : (ns.length : Int) < c
    · rw [if_pos q1]
      by_cases q2 : (ns.length : Int) > 1
      · exact ⟨ns.length, by omega, by rw [if_pos q2]⟩
      · exact ⟨1, by omega, by rw [if_neg q2]; rfl⟩
    · rw [if_neg q1]
      by_cases q2 : c > 1
      · exact ⟨c.toNat, by omega, by rw [if_pos q2]; omega⟩
      · exact ⟨1, by omega, by rw [if_neg q2]; rfl⟩
  have ln : bLen [.ref 0] h = .v (.int ns.length) h := by
    have : lstAt h 0 = some (ns.map W.int) := by simp only [lstAt, h0]
    show (match lstAt h 0 with | some ls => Out.v (.int (ls.length : Nat)) h | none => .no) = _
    rw [this]
    show Out.v (.int ((ns.map W.int).length : Nat)) h = _
    rw [List.length_map]
  have b : -(2 ^ 62) ≤ (n : Int) ∧ (n : Int) < 2 ^ 62 := by constructor <;> omega
  refine ⟨n, hn, ?_⟩
  simp only [iR1, eCons_ap, eBlt_ap, eK_ap, eLoc_ap, eNil_ap, vb_v, vsb_vs, s0, locO_s, ln, bMin_int, bMax_int, en, OutI.ofs]
  rw [if_pos b, Int.toNat_natCast]
end Dr
set_option maxHeartbeats 2000000
namespace Dr
open PySem L2 PyProof.Rows
/-! ### the order of texts -/
theorem lt_nil (a : List Nat) : PySem.Spec.ltCps a [] = false := by cases a <;> rfl
theorem lt_cons (a b : Nat) (r t : List Nat) : PySem.Spec.ltCps (a :: r) (b :: t) = (decide (a < b) || (a == b && PySem.Spec.ltCps r t)) := rfl
theorem lt_asym : ∀ a b : List Nat, PySem.Spec.ltCps a b = false → PySem.Spec.ltCps b a = false → a = b
  | [], [], _, _ => rfl
  | [], _ :: _, h, _ => by cases h
  | _ :: _, [], _, h => by cases h
  | a :: r, b :: t, h1, h2 => by
    rw [lt_cons] at h1 h2
    simp only [Bool.or_eq_false_iff, Bool.and_eq_false_iff, decide_eq_false_iff_not, beq_eq_false_iff_ne] at h1 h2
    have e : a = b := by omega
    subst e
    have h1' := h1.2.resolve_left (fun z => z rfl)
    have h2' := h2.2.resolve_left (fun z => z rfl)
    rw [lt_asym r t h1' h2']
theorem le_trans' : ∀ a b c : List Nat, PySem.Spec.ltCps b a = false → PySem.Spec.ltCps c b = false → PySem.Spec.ltCps c a = false
  | [], _, c, _, _ => lt_nil c
  | a :: r, [], c, h, _ => by cases h
  | a :: r, b :: t, [], _, h => by cases h
  | a :: r, b :: t, c :: u, h1, h2 => by
    rw [lt_cons] at h1 h2 ⊢
    simp only [Bool.or_eq_false_iff, Bool.and_eq_false_iff, decide_eq_false_iff_not, beq_eq_false_iff_ne] at h1 h2 ⊢
    refine ⟨by omega, ?_⟩
    by_cases e : c = a
    · right
      have e1 : b = a := by omega
      have e2 : c = b := by omega
      exact le_trans' r t u (h1.2.resolve_left (fun z => z e1)) (h2.2.resolve_left (fun z => z e2))
    · exact .inl e
def leS (a b : Str) : Prop := PySem.Spec.ltCps b.cps.toList a.cps.toList = false
theorem leS_asym {a b : Str} (h1 : leS a b) (h2 : leS b a) : a = b := by
  have e := lt_asym _ _ h2 h1
  cases a; cases b
  exact congrArg Str.mk (Array.ext' e)
theorem rising_pw : ∀ (r : List Str) (p : Str), PyProof.Rows.risingS p r = true → (p :: r).Pairwise leS
  | [], p, _ => List.pairwise_singleton _ _
  | x :: r, p, h => by
    have h := Bool.and_eq_true_iff.mp (show (_ && _) = true from h)
    have ih := rising_pw r x h.2
    have px : leS p x := by
      have := h.1
      show PySem.Spec.ltCps x.cps.toList p.cps.toList = false
      simpa using this
    refine List.pairwise_cons.mpr ⟨fun z hz => ?_, ih⟩
    rcases List.mem_cons.mp hz with rfl | hz
    · exact px
    · exact le_trans' _ _ _ px ((List.pairwise_cons.mp ih).1 z hz)
theorem sorted_pw {r : List Str} (h : PyProof.Rows.sortedS r = true) : r.Pairwise leS := by
  cases r with
  | nil => exact List.Pairwise.nil
  | cons x r => exact rising_pw r x h
theorem same_of : ∀ {a b : List Str}, a.Perm b → a.Pairwise leS → b.Pairwise leS → a = b
  | [], b, hp, _, _ => (List.nil_perm.mp hp).symm
  | x :: a, b, hp, ha, hb => by
    cases b with
    | nil => exact absurd (List.perm_nil.mp hp) (by simp)
    | cons y b =>
      have hx : x ∈ y :: b := hp.mem_iff.mp List.mem_cons_self
      have hy : y ∈ x :: a := hp.mem_iff.mpr List.mem_cons_self
      have e : x = y := by
        rcases List.mem_cons.mp hx with e | hx
        · exact e
        · rcases List.mem_cons.mp hy with e | hy
          · exact e.symm
          · exact leS_asym ((List.pairwise_cons.mp ha).1 y hy) ((List.pairwise_cons.mp hb).1 x hx)
      subst e
      rw [same_of (List.perm_cons x |>.mp hp) (List.pairwise_cons.mp ha).2 (List.pairwise_cons.mp hb).2]
def insS (x : Str) : List Str → List Str
  | [] => [x]
  | y :: r => if PySem.Spec.ltCps y.cps.toList x.cps.toList = true then y :: insS x r else x :: y :: r
def sortS : List Str → List Str
  | [] => []
  | x :: r => insS x (sortS r)
theorem insS_perm (x : Str) : ∀ r : List Str, (insS x r).Perm (x :: r)
  | [] => .refl _
  | y :: r => by
    unfold insS
    split
    · exact ((insS_perm x r).cons y).trans (.swap x y r)
    · exact .refl _
theorem sortS_perm : ∀ r : List Str, (sortS r).Perm r
  | [] => .refl _
  | x :: r => (insS_perm x _).trans ((sortS_perm r).cons x)
theorem lt_le {a b : List Nat} (h : PySem.Spec.ltCps a b = true) : PySem.Spec.ltCps b a = false := by
  induction a generalizing b with
  | nil => exact lt_nil b
  | cons x r ih =>
    cases b with
    | nil => cases h
    | cons y t =>
      rw [lt_cons] at h ⊢
      simp only [Bool.or_eq_true, Bool.and_eq_true, decide_eq_true_eq, beq_iff_eq] at h
      simp only [Bool.or_eq_false_iff, Bool.and_eq_false_iff, decide_eq_false_iff_not, beq_eq_false_iff_ne]
      rcases h with h | ⟨h1, h2⟩
      · exact ⟨by omega, .inl (by omega)⟩
      · exact ⟨by omega, .inr (ih h2)⟩
theorem insS_pw (x : Str) : ∀ r : List Str, r.Pairwise leS → (insS x r).Pairwise leS
  | [], _ => by unfold insS; exact List.pairwise_singleton _ _
  | y :: r, h => by
    obtain ⟨h1, h2⟩ := List.pairwise_cons.mp h
    unfold insS
    split
    · rename_i q
      refine List.pairwise_cons.mpr ⟨fun z hz => ?_, insS_pw x r h2⟩
      rcases List.mem_cons.mp ((insS_perm x r).mem_iff.mp hz) with rfl | hz
      · exact lt_le q
      · exact h1 z hz
    · rename_i q
      have q : leS x y := by unfold leS; simpa using q
      exact List.pairwise_cons.mpr ⟨fun z hz => by
        rcases List.mem_cons.mp hz with rfl | hz
        · exact q
        · exact le_trans' _ _ _ q (h1 z hz), h⟩
theorem sortS_pw : ∀ r : List Str, (sortS r).Pairwise leS
  | [] => List.Pairwise.nil
  | x :: r => insS_pw x _ (sortS_pw r)
section
variable {G : Cfg} {X : Cx} {Z : WX} {k : Nat}
/-- sorted: ints, or less than 64 texts -/
def bSortedX : Fn := fun ws h => match ws with
  | [.ref n] => (match lstAt h n with
    | some ls => (match mapO W.num ls with
      | some ns => .v (.ref h.length) (h ++ [.lst ((sortI ns).map W.int)])
      | none => (match mapO W.st ls with
        | some ss => if ss.length < 64 then .v (.ref h.length) (h ++ [.lst ((sortS ss).map W.str)]) else .no
        | none => .no))
    | none => .no)
  | _ => .no
theorem c_sortedX (hK : X.K = G.K) : SC G X (.builtin "sorted") bSortedX := .mk fun m h H ws vs Z Q R r P => by
  unfold bSortedX at P
  split at P
  · rename_i n
    split at P
    · rename_i ls e
      split at P
      · rename_i ns en
        refine c_sorted hK m h H _ vs Z Q R r ?_
        show PoE G m h.length H Z Q (match lstAt h n with | some ls => (match mapO W.num ls with | some ns => .v (.ref h.length) (h ++ [.lst ((sortI ns).map W.int)]) | none => .no) | none => .no)
        rw [e]
        simp only [en]
        exact P
      · split at P
        · rename_i ss es
          split at P
          · rename_i few
            obtain ⟨us, hx, hu⟩ := lstAt_of R e
            cases r with
            | cons r1 r2 =>
              cases r1; cases r2
              rw [sts_of hu es] at hx
              refine ⟨_, cr_sortedS, m n, ss, rfl, hK ▸ hx, few, fun ys p hp hs hn => ?_⟩
              have e2 : ys = sortS ss := same_of (hp.trans (sortS_perm ss).symm) (sorted_pw hs) (sortS_pw ss)
              rw [e2]
              exact new_lst R hn (RWs.strs _) P
          · exact P.elim
        · exact P.elim
    · exact P.elim
  · exact P.elim
end
end Dr
set_option maxHeartbeats 2000000
namespace Dr
open PySem L2
/-! ### errors held as values -/
def eMkX (c : Nat) (f : Str) (a : Ev) : Ev := fun σ h => (a σ h).vb fun w h1 => .v (.ref h1.length) (h1 ++ [.exc c f w])
section
variable {G : Cfg} {X : Cx} {Z : WX} {k : Nat} {a b : Ev} {ea eb : Expr} {pos : Pos}
theorem s_mkX {c : Nat} {x f : Str} {p : Pos} (F : Fit G X Z k) (ok : XOk G X c x) (hf : G.fn c = f) (ha : SE G X Z a ea) (hg : Gl X x := by rfl) (hdb : (x == ("__debug__" : Str)) = false := by decide) (he : starEach (ea :: []) X.env = (false, eval ea X.env) :: starEach [] X.env := by rfl)
    (hpl : (backTo pos (starEach [] X.env)).any (·.1) = false := by rfl) : SE G X Z (eMkX c f a) (.Call (.Name x p) [ea] [] pos) := .mk fun m h H σ τ Q R S P pins s I => by
  obtain ⟨fI, B, newId, i, bmB, T⟩ := ok
  have h0 : WE X ea τ H (fun v H1 => ∃ m1 h1 w, Rep G.K G.cl m1 h1 H1 ∧ RW G.K G.cl m1 h1.length H1 w v ∧ PoE G m1 h1.length H1 Z Q (.v (.ref h1.length) (h1 ++ [.exc c f w]))) :=
    ha m h H σ τ _ R S (PoE.ee P fun w h1 m1 H1 v1 e1 R1 r1 P1 => ⟨m1, h1, w, R1, r1, P1⟩)
  refine wpAny_Call_Name_kw (ld_glob I hg T.gC ?_ hdb)
  refine PySem.W.callWith_K (h₀ := X.base) I.ok.mod.kin T.kC ?_ he hpl
  refine thn ((pa_cons (peM (X := X) (e := ea)) pa_nil he).run pos pins s τ H (fun vs H1 => ∃ v, vs = [v] ∧ ∃ m1 h1 w, Rep G.K G.cl m1 h1 H1 ∧ RW G.K G.cl m1 h1.length H1 w v ∧ PoE G m1 h1.length H1 Z Q (.v (.ref h1.length) (h1 ++ [.exc c f w]))) I
    (fun pins s I => thn (h0 pins s I) fun u s1 ⟨v, H1, I1, r1, q1⟩ => ⟨v, H1, I1, r1, v, rfl, q1⟩)) fun us s1 hh => ?_
  obtain ⟨vs, H1, I1, r1, v, ev, m1, h1, w, R1, rw1, P1⟩ := hh
  subst ev
  refine ⟨I1.kIn, ?_⟩
  cases r1 with
  | cons rv rn =>
    rename_i v' us'
    cases rn
    show wpAny _ _ (call (.ref (G.cl c)) [v']) _ _ _
    have hlim := I1.nolimit
    have hglob := I1.mod.glob.keeps I1.bk
    obtain ⟨mb, b1, b2⟩ := I1.mod.blt
    have hblt := b1.keeps I1.bk
    obtain ⟨hp, g, dr, tk, os⟩ := s1
    refine wpAny_call (PySem.XeX.x_made T I1.kIn hglob ⟨mb, hblt, b2⟩ hlim (by have := F.room.dp; omega) fun h' tk' e d M => ?_)
    obtain ⟨oe, fv, hoe, hc, hd, hdat, h5⟩ := M.obj
    have hns := M.ns
    obtain ⟨G', g1, g2⟩ := restrict h' fun b => decide (b ≠ e)
    have gk : ∀ b, b ≠ e → G'.get? b = h'.get? b := fun b hb => g1 b (decide_eq_true hb)
    have ge : G'.get? e = none := g2 e (by simp)
    have old : ∀ b o, hp.get? b = some o → G'.get? b = some o := fun b o q => (gk b (Nat.ne_of_lt (Nat.lt_of_lt_of_le (Heap.lt_size q) M.new))).trans (M.keep b o q)
    have ob : ObjOk X.prog X.w (upd H1 d (.xd [(G.fn c, v)])) G' d (.xd [(G.fn c, v)]) := ⟨_, hns.at (fun o q => (gk d M.dne).trans q), fun f => relO_x _ rv f⟩
    have J : Inv X pins τ (upd H1 d (.xd [(G.fn c, v)])) ⟨G', g, dr, tk', os⟩ := I1.laid (t' := tk') old M.dbig ob
    have hn : upd H1 d (.xd [(G.fn c, v)]) e = none := by rw [upd_ne (Ne.symm M.dne)]; exact I1.hok.fresh M.new
    have J2 : Inv X pins τ (upd (upd H1 d (.xd [(G.fn c, v)])) e (ExV (.ref (G.cl c)) d e)) ⟨h', g, dr, tk', os⟩ :=
      J.laidN (t' := tk') (fun b o q => by
        by_cases hb : b = e
        · have q' : G'.get? b = some o := q
          rw [hb, ge] at q'; cases q'
        · exact (gk b hb).symm.trans q) ge hn ⟨⟨oe, fv, hoe, ⟨hc, hd⟩, hdat⟩, ⟨oe, hoe⟩, fun _ _ ⟨o, v, q, r⟩ k => ⟨o, v, k o q, r⟩⟩
    have hd0 : H1 d = none := I1.hok.fresh M.dbig
    obtain ⟨R2, E2⟩ := R1.aside (q := d) (o := .xd [(G.fn c, v)]) hd0
    have E3 : Ext G.K m1 h1.length (upd H1 d (.xd [(G.fn c, v)])) (ext1 m1 h1.length e) (h1.length + 1) (upd (upd H1 d (.xd [(G.fn c, v)])) e (ExV (.ref (G.cl c)) d e)) := .add hn
    obtain ⟨R3, E4⟩ := R2.push (q := e) (u := ExV (.ref (G.cl c)) d e) (o := .exc c f w) hn ⟨d, v, upd_same, by rw [upd_ne M.dne, upd_same, hf], (rw1.mono E2).mono E3⟩
    refine ⟨.ref e, _, J2, rfl, P1 _ _ (.ref e) (E2.trans E4) R3 ?_⟩
    have q := RW.ref (K := G.K) (cl := G.cl) (m := ext1 m1 h1.length e) (L := (h1 ++ [IO.exc c f w]).length) (H := upd (upd H1 d (.xd [(G.fn c, v)])) e (ExV (.ref (G.cl c)) d e)) h1.length (by simp)
    have l : ext1 m1 h1.length e h1.length = e := by unfold ext1; rw [if_pos rfl]
    rw [l] at q; exact q
/-! ### its field -/
def xfAt (t : Nat → Bool) (f : Str) (x : W) (h : IH) : Out := match x with
  | .ref n => (match h[n]? with
    | some (.exc c g w) => if t c = true ∧ eqS g f = true then .v w h else .no
    | _ => .no)
  | _ => .no
def eXfV (t : Nat → Bool) (f : Str) (a : Ev) : Ev := fun σ h => (a σ h).vb (xfAt t f)
theorem s_xfV {f : Str} {t : Nat → Bool} (F : Fit G X Z k) (ok : ∀ c, t c = true → XfC X.K (G.cl c) ∧ PySem.W.findIn X.K (.ref (G.cl c)) f = some none) (ha : SE G X Z a ea) (hb : attributeBase ea f X.env (eval ea X.env) = eval ea X.env := by rfl) : SE G X Z (eXfV t f a) (.Attribute ea f pos) := .mk fun m h H σ τ Q R S P pins s I => by
  have h0 : WE X ea τ H (fun v H1 => ∃ (b : Addr) (c : Nat) (d : Addr) (v2 : V), v = .ref b ∧ t c = true ∧ H1 b = some (ExV (.ref (G.cl c)) d b) ∧ H1 d = some (.xd [(f, v2)]) ∧ Q v2 H1) :=
    ha m h H σ τ _ R S (PoE.ee P fun x h1 m1 H1 v1 e1 R1 r1 P1 => by
      cases r1 <;> first | exact P1.elim | skip
      rename_i n hn
      unfold xfAt at P1
      simp only at P1
      split at P1
      · rename_i c g w e
        split at P1
        · rename_i q
          obtain ⟨d, v2, x1, x2, x3⟩ := R1.obj n _ e
          have eg : g = f := by have z := q.2; rw [eqS_eq] at z; exact of_decide_eq_true z
          subst eg
          exact ⟨_, c, d, v2, rfl, q.1, x1, x2, P1 m1 H1 v2 Ext.refl R1 x3⟩
        · exact P1.elim
      · exact P1.elim)
  refine attr_of hb (thn (h0 pins s I) fun u s1 hh => ?_)
  obtain ⟨x, H1, I1, rx, b, c, d, v2, ex, tc, hb1, hd1, q⟩ := hh
  subst ex
  obtain rfl : u = Value.ref b := rx
  obtain ⟨T, hno⟩ := ok c tc
  obtain ⟨⟨oe, vs, ho, hz, hd⟩, _, _⟩ := (show ObjOk X.prog X.w H1 s1.heap b (ExV (.ref (G.cl c)) d b) from I1.hok b _ hb1)
  obtain ⟨mA, hns, hr⟩ := (show ObjOk X.prog X.w H1 s1.heap d (.xd [(f, v2)]) from I1.hok d _ hd1)
  obtain ⟨od, hod, hl⟩ := lookIn_ns hns
  obtain ⟨u, hu, ru⟩ := RelO.some_of (v := v2) (o := mA f) (by have := hr f; simpa [List.lookup] using this)
  have J : PySem.W.InstAt s1.heap b oe (G.cl c) (some od) := ⟨ho, hz.1, by unfold PySem.W.notCls; rw [hd] <;> rfl, by rw [hz.2]; exact hod⟩
  exact HandSPX.exc_get I1.kIn J T.ga T.gg T.exC (PySem.W.findObj_own T.hdC hno rfl (by rw [hl, hu])) (handed_of ru) ⟨v2, H1, I1.tok _, ru, q⟩
/-! ### isinstance -/
def xiAt (t : Nat → Option Bool) (x : W) (h : IH) : Out := match x with
  | .ref n => (match h[n]? with
    | some (.exc c _ _) => (match t c with | some b => .v (.bl b) h | none => .no)
    | _ => .no)
  | _ => .no
def eXiV (t : Nat → Option Bool) (a : Ev) : Ev := fun σ h => (a σ h).vb (xiAt t)
theorem call_xiV : CallR X (.builtin "isinstance") (fun xs H Q => ∃ (ad D dd : Addr) (c : V) (cv : Value) (b : Bool) (fs : List (Str × V)), xs = [.ref ad, c] ∧ ExcC X.K D ∧ ClsV c cv ∧ PySem.W.kitOne X.K (.ref D) cv = some b ∧ H ad = some (ExV (.ref D) dd ad) ∧ H dd = some (.xd fs) ∧ Q (.bl b) H) := by
  intro pins s σ H xs us Q I r h
  obtain ⟨ad, D, dd, c, cv, b, fs, rfl, C, k, e, had, hdd, q⟩ := h
  obtain ⟨u1, u2, rfl, r1, r2⟩ := vals2 r
  obtain rfl : u1 = Value.ref ad := r1
  have e2 := k.eq r2
  subst e2
  obtain ⟨⟨oe, vs, ho, hz, hv⟩, _, _⟩ := (show ObjOk X.prog X.w H s.heap ad (ExV (.ref D) dd ad) from I.hok ad _ had)
  obtain ⟨mA, hns, hr⟩ := (show ObjOk X.prog X.w H s.heap dd (.xd fs) from I.hok dd _ hdd)
  obtain ⟨od, hod, hl⟩ := lookIn_ns hns
  have J : PySem.W.InstAt s.heap ad oe D (some od) := ⟨ho, hz.1, by unfold PySem.W.notCls; rw [hv] <;> rfl, by rw [hz.2]; exact hod⟩
  exact PySem.W.kia_one (PySem.W.drKit (ox := oe) C) I.kIn ⟨_, J⟩ e (fun z => nomatch z) fun tk => ⟨.bl b, H, I.kept (t' := tk) fun _ _ z => z, rfl, q⟩
theorem s_xiV {x : Str} {c : V} {cv : Value} {t : Nat → Option Bool} {p p2 : Pos} (ok : XiOk G X t cv) (cn : CName X x c cv) (ha : SE G X Z a ea) (hm : X.mg "isinstance" = none) (hg : Gl X "isinstance" := by rfl) (hg2 : Gl X x := by rfl) (hn2 : x ≠ "__name__" := by decide) (hd2 : (x == ("__debug__" : Str)) = false := by decide)
    (he : starEach [ea, .Name x p2] X.env = (false, eval ea X.env) :: starEach [.Name x p2] X.env := by rfl) (he2 : starEach [.Name x p2] X.env = (false, eval (.Name x p2) X.env) :: starEach [] X.env := by rfl) (hpl : (backTo pos (starEach [.Name x p2] X.env)).any (·.1) = false := by rfl) :
    SE G X Z (eXiV t a) (.Call (.Name "isinstance" p) [ea, .Name x p2] [] pos) := .mk fun m h H σ τ Q R S P => by
  refine WE.of (pe_callB (call_xiV (X := X)) hg hm (by decide +kernel) (pa_cons peM (pa_cons (pe_cname cn hg2 hn2 hd2) pa_nil he2) he) (by decide) (by decide) he hpl) (ha m h H σ τ _ R S (PoE.ee P fun w h1 m1 H1 v e1 R1 r1 P1 => ?_))
  cases r1 <;> first | exact P1.elim | skip
  rename_i n hn
  unfold xiAt at P1
  simp only at P1
  split at P1
  · rename_i c' g w e
    split at P1
    · rename_i y ty
      obtain ⟨o1, o2⟩ := ok c' y ty
      obtain ⟨d, v2, x1, x2, x3⟩ := R1.obj n _ e
      exact ⟨_, _, d, c, cv, y, _, rfl, o1, cn.1, o2, x1, x2, P1 m1 H1 _ Ext.refl R1 (.bl _)⟩
    · exact P1.elim
  · exact P1.elim
end
end Dr
set_option maxHeartbeats 2000000
namespace Dr
open PySem L2
section
variable {G : Cfg} {X : Cx} {Z : WX} {k : Nat} {a b c : Ev} {ea eb ec : Expr} {pos : Pos}
/-- a call of which the value alone is taken -/
theorem run_v {A : Around} {f : Addr} {fn : Fn} {dw ws : List W} {τ : St} {m : Nat → Addr} {h h' : IH} {H : Hp} {w : W} {vs : List V} {us : List Value} {Q : VK} {pins : List (Addr × Obj)} {s : Shared} (gd : A.guards = some []) (hr : Room k A) (e0 : Env0 X.prog X.w X.K X.mg X.base A X.stack s H)
    (ok : FOk G X k f fn dw) (R : Rep G.K G.cl m h H) (r : RWs G.K G.cl m h.length H ws vs) (e : fn (ws ++ dw) h = .v w h') (P : PoE G m h.length H Z Q (.v w h')) (I : Inv X pins τ H s) (rv : Vals vs us) :
    codeAny (model X.prog X.w) A (.call (.ref f) ⟨us, []⟩) (fun r s' => match r with | .ok (.ret v) => EP X pins τ Q v s' | _ => False) s := by
  obtain ⟨fd, ps, ds, dvs, Fo, hb, hd, hw, ar⟩ := ok
  have r2 : RWs G.K G.cl m h.length H (ws ++ dw) (vs ++ dvs) := r.append (hw _ _ _)
  have rv2 : Vals (vs ++ dvs) (us ++ ds) := rv.append hd
  by_cases hl : (ws ++ dw).length = ps.length
  · have sp : spC G ps.length fn (vs ++ dvs) H Q (fun _ _ _ => False) := ⟨m, h, ws ++ dw, hl, R, r2, by rw [e]; exact P⟩
    have hl2 : (us ++ ds).length = ps.length := by rw [← rv2.length, ← r2.length]; exact hl
    refine codeAny_mono (Fo.go A X.stack s H ⟨us, []⟩ (us ++ ds) (vs ++ dvs) Q _ gd hr e0 (hb s us I.kIn hl2) rv2 sp) fun r s' hq => ?_
    cases r with
    | error e =>
      obtain ⟨_, _, _, _, _, _, _, _, _, _, _, _, z⟩ := (show L2.CX X.prog X.w X.stack H s (fun _ _ _ => False) e s' from hq)
      exact z
    | ok fl =>
      cases fl with
      | ret u => exact I.after hq
      | next => exact hq
      | brk => exact hq
      | cont => exact hq
  · rw [ar _ h hl] at e
    cases e
/-! ### a property of a class with slots -/
def valO : Out → Out
  | .v w h => .v w h
  | _ => .no
structure PropOk (G : Cfg) (X : Cx) (c : Nat) (f : Str) (g : Addr) : Prop where
  sc : SlX.SCls X.K (G.cl c)
  pr : ∃ p, PySem.W.findIn X.K (.ref (G.cl c)) f = some (some (.ref p)) ∧ PySem.W.specialIn X.K (.ref p) "__get__" = some (some (.builtin "property.__get__")) ∧ PySem.W.takesIn X.K (.ref p) = some true ∧ ∃ rest, PySem.W.recIn X.K p "property" = some (.ref g :: rest)
def eProp (c : Nat) (fn : Fn) (a : Ev) : Ev := fun σ h => (a σ h).vb fun x h1 => recvS c x h1 (valO (fn [x] h1))
theorem valO_at {o : Out} {m : Nat → Addr} {L : Nat} {H : Hp} {Q : VK} (P : PoE G m L H Z Q (valO o)) : ∃ w h', o = .v w h' ∧ PoE G m L H Z Q (.v w h') := by
  cases o <;> first | exact P.elim | exact ⟨_, _, rfl, P⟩
theorem s_prop {cc : Nat} {f : Str} {g : Addr} {fn : Fn} (F : Fit G X Z (k + 1)) (po : PropOk G X cc f g) (ok : FOk G X k g fn []) (ha : SE G X Z a ea) (hb : attributeBase ea f X.env (eval ea X.env) = eval ea X.env := by rfl) :
    SE G X Z (eProp cc fn a) (.Attribute ea f pos) := .mk fun m h H σ τ Q R S P pins s I => by
  refine attr_of hb (thn (ha m h H σ τ (fun v H1 => ∃ m1 h1 x, Ext G.K m h.length H m1 h1.length H1 ∧ Rep G.K G.cl m1 h1 H1 ∧ RW G.K G.cl m1 h1.length H1 x v ∧ PoE G m1 h1.length H1 Z Q (recvS cc x h1 (valO (fn [x] h1)))) R S
    (PoE.ee P fun x h1 m1 H1 v e1 R1 r1 P1 => ⟨m1, h1, x, e1, R1, r1, P1⟩) pins s I) fun u s1 ⟨v, H1, I1, rv, m1, h1, x, e1, R1, r1, P1⟩ => ?_)
  obtain ⟨n, dx, vs, rfl, hsl, P2⟩ := recvS_at R1 r1 P1
  obtain ⟨w, h2, ew, P3⟩ := valO_at P2
  obtain rfl : u = Value.ref (m1 n) := rv
  obtain ⟨c1, p, at_, get, tk, rest, hrec⟩ := po
  obtain ⟨sl, od, _, J, _⟩ := SlX.slt_inst I1 hsl
  have I2 : Inv X pins τ H1 { s1 with toks := s1.toks + 1 } := I1.tok (s1.toks + 1)
  refine PySem.W.get_bind I1.kIn J (PySem.W.plainGet_of (c1.get f)).1 (PySem.W.findObj_data c1.ic at_ get tk) (PySem.W.plainGet_of (c1.get f)).2 (wpAny_call (PySem.W.prop_get (s := { s1 with toks := s1.toks + 1 }) I1.kIn hrec ?_))
  refine codeAny_mono (run_v (A := X.A.in1) (ws := [x]) (vs := [.ref (m1 n)]) (us := [.ref (m1 n)]) F.gd F.room.in1 I2.env0.in1 ok R1 (.cons r1 .nil) (by simpa using ew) P3 I2 (.cons rfl .nil)) fun r s' hq => ?_
  cases r with
  | error e => exact hq.elim
  | ok fl =>
    cases fl with
    | ret u =>
      obtain ⟨v, H', I3, rv, q⟩ := hq
      exact wpAny_of_eq (PySem.W.handedOut_of (handed_of rv)) ⟨v, H', I3, rv, q⟩
    | next => exact hq.elim
    | brk => exact hq.elim
    | cont => exact hq.elim
end
end Dr
set_option maxHeartbeats 2000000
namespace Dr
open PySem L2
/-! ### x in o, o an instance with slots and its own __contains__ -/
theorem contains_own {M : Model} {A : Around} {E : Value → Shared → Prop} {s : Shared} {K : PySem.W.Frag} {x C f : Addr} {ox : Obj} {od : Option Obj} {y : Value} {Q : Bool → Shared → Prop} (X : K.In s.heap) (I : PySem.W.InstAt s.heap x ox C od) (hs : PySem.W.findIn K (.ref C) "__contains__" = some (some (.ref f))) (hf : PySem.W.isFn K (.ref f) = true)
    (h : wpAny M A (call (.ref f) [.ref x, y]) (fun v s' => ∃ b, v = Value.bool b ∧ Q b s') E s) : wpAny M A (contains (.ref x) y) Q E s := by
  unfold contains
  refine wpAny_holding ?_
  simp only [stdlibNamesSay?]
  refine wpAny_bind (wpAny_bind (I.type.here ((PySem.W.looks_findIn X hs).here ?_)))
  rw [show ((some (Value.ref f) : Option Value) == some Value.none) = false from rfl]
  simp only [Bool.false_eq_true, if_false]
  refine wpAny_bind ?_
  unfold callSpecialUnlessNone?
  refine wpAny_bind (wpAny_bind (I.type.here ((PySem.W.looks_findIn X hs).here ?_)))
  refine wpAny_holding (wpAny_bind ((PySem.W.bind_fn X _ (beq_iff_eq.mp hf)).here ?_))
  simp only
  rw [show (Value.ref f == Value.none) = false from rfl]
  simp only [Bool.false_eq_true, if_false]
  refine wpAny_bind (wpAny_mono h (fun v s' hv => ?_) fun _ _ z => z)
  obtain ⟨b, rfl, q⟩ := hv
  exact wpAny_pure (wpAny_truthy_bool q)
def bolO : Out → Out
  | .v (.bl b) h => .v (.bl b) h
  | _ => .no
def notO : Out → Out
  | .v (.bl b) h => .v (.bl (!b)) h
  | _ => .no
def oInO (c : Nat) (fn : Fn) (x y : W) (h : IH) : Out := recvS c y h (bolO (fn [y, x] h))
def oNotInO (c : Nat) (fn : Fn) (x y : W) (h : IH) : Out := recvS c y h (notO (fn [y, x] h))
section
variable {G : Cfg} {X : Cx} {Z : WX} {k : Nat}
theorem bolO_at {o : Out} {Z : WX} {m : Nat → Addr} {L : Nat} {H : Hp} {Q : VK} (P : PoE G m L H Z Q (bolO o)) : ∃ b h', o = .v (.bl b) h' ∧ PoE G m L H Z Q (.v (.bl b) h') := by
  cases o with
  | v w h => cases w <;> first | exact P.elim | exact ⟨_, _, rfl, P⟩
  | vs w h => exact P.elim
  | nx s h => exact P.elim
  | rt w h => exact P.elim
  | bk s h => exact P.elim
  | ct s h => exact P.elim
  | ex c w s h => exact P.elim
  | no => exact P.elim
theorem notO_at {o : Out} {Z : WX} {m : Nat → Addr} {L : Nat} {H : Hp} {Q : VK} (P : PoE G m L H Z Q (notO o)) : ∃ b h', o = .v (.bl b) h' ∧ PoE G m L H Z Q (.v (.bl (!b)) h') := by
  cases o with
  | v w h => cases w <;> first | exact P.elim | exact ⟨_, _, rfl, P⟩
  | vs w h => exact P.elim
  | nx s h => exact P.elim
  | rt w h => exact P.elim
  | bk s h => exact P.elim
  | ct s h => exact P.elim
  | ex c w s h => exact P.elim
  | no => exact P.elim
structure OwnOk (G : Cfg) (X : Cx) (c : Nat) (nm : Str) (g : Addr) : Prop where
  sc : SlX.SCls X.K (G.cl c)
  at_ : PySem.W.findIn X.K (.ref (G.cl c)) nm = some (some (.ref g))
  fn : PySem.W.isFn X.K (.ref g) = true
/-- the call of an own def that answers a truth value, as a call from an operator -/
theorem run_b {f : Addr} {fn : Fn} {ws : List W} {τ : St} {m : Nat → Addr} {h h' : IH} {H : Hp} {bb : Bool} {vs : List V} {us : List Value} {pins : List (Addr × Obj)} {s : Shared} {A : Around} (gd : A.guards = some []) (hr : Room k A) (e0 : Env0 X.prog X.w X.K X.mg X.base A X.stack s H)
    (ok : FOk G X k f fn []) (R : Rep G.K G.cl m h H) (r : RWs G.K G.cl m h.length H ws vs) (e : fn ws h = .v (.bl bb) h') (I : Inv X pins τ H s) (rv : Vals vs us) {Q : Value → Shared → Prop} {E : Value → Shared → Prop} (q : ∀ s' m' H', Ext G.K m h.length H m' h'.length H' → Rep G.K G.cl m' h' H' → Inv X pins τ H' s' → Q (.bool bb) s') :
    wpAny (model X.prog X.w) A (call (.ref f) us) Q E s := by
  refine wpAny_call (codeAny_mono (run_v (Z := fun _ _ _ _ => False) (Q := fun v H' => v = .bl bb ∧ ∃ m', Ext G.K m h.length H m' h'.length H' ∧ Rep G.K G.cl m' h' H') gd hr e0 ok R r (by rw [List.append_nil]; exact e) (fun m' H' v e' R' r' => by cases r'; exact ⟨rfl, m', e', R'⟩) I rv) fun r s' hq => ?_)
  cases r with
  | error e => exact hq.elim
  | ok fl =>
    cases fl with
    | ret u =>
      obtain ⟨v, H', I', rv', rfl, m', e', R'⟩ := hq
      obtain rfl : u = Value.bool bb := rv'
      exact q s' m' H' e' R' I'
    | next => exact hq.elim
    | brk => exact hq.elim
    | cont => exact hq.elim
theorem so_inO {cc : Nat} {g : Addr} {fn : Fn} (F : Fit G X Z k) (po : OwnOk G X cc "__contains__" g) (ok : FOk G X k g fn []) : SO G X (compareOp .In) (oInO cc fn) := .mk fun m h H x y vx vy Z' Q R rx ry P => by
  refine ⟨fun x' y' H' Q' => x' = vx ∧ y' = vy ∧ H' = H ∧ Q' = Q, ?_, rfl, rfl, rfl, rfl⟩
  rintro pins s σ H' x' y' v u Q' I r1 r2 ⟨rfl, rfl, rfl, rfl⟩
  obtain ⟨n, dx, vs, rfl, hsl, P2⟩ := recvS_at R ry P
  obtain ⟨bb, h', eb, P3⟩ := bolO_at P2
  obtain rfl : u = Value.ref (m n) := r2
  obtain ⟨sl, od, _, J, _⟩ := SlX.slt_inst I hsl
  show wpAny _ _ (contains (.ref (m n)) v >>= fun b => pure (Value.bool b)) _ _ s
  refine wpAny_bind (contains_own I.kIn J po.at_ po.fn (run_b (ws := [y, x]) (vs := [.ref (m n), x']) F.gd F.room I.env0 ok R (.cons ry (.cons rx .nil)) eb I (.cons rfl (.cons r1 .nil)) fun s' m' H1 e' R' I' => ⟨bb, rfl, wpAny_pure ?_⟩))
  exact ⟨.bl bb, H1, I', rfl, P3 m' H1 _ e' R' (.bl _)⟩
theorem so_notInO {cc : Nat} {g : Addr} {fn : Fn} (F : Fit G X Z k) (po : OwnOk G X cc "__contains__" g) (ok : FOk G X k g fn []) : SO G X (compareOp .NotIn) (oNotInO cc fn) := .mk fun m h H x y vx vy Z' Q R rx ry P => by
  refine ⟨fun x' y' H' Q' => x' = vx ∧ y' = vy ∧ H' = H ∧ Q' = Q, ?_, rfl, rfl, rfl, rfl⟩
  rintro pins s σ H' x' y' v u Q' I r1 r2 ⟨rfl, rfl, rfl, rfl⟩
  obtain ⟨n, dx, vs, rfl, hsl, P2⟩ := recvS_at R ry P
  obtain ⟨bb, h', eb, P3⟩ := notO_at P2
  obtain rfl : u = Value.ref (m n) := r2
  obtain ⟨sl, od, _, J, _⟩ := SlX.slt_inst I hsl
  show wpAny _ _ (contains (.ref (m n)) v >>= fun b => pure (Value.bool (!b))) _ _ s
  refine wpAny_bind (contains_own I.kIn J po.at_ po.fn (run_b (ws := [y, x]) (vs := [.ref (m n), x']) F.gd F.room I.env0 ok R (.cons ry (.cons rx .nil)) eb I (.cons rfl (.cons r1 .nil)) fun s' m' H1 e' R' I' => ⟨bb, rfl, wpAny_pure ?_⟩))
  exact ⟨.bl (!bb), H1, I', rfl, P3 m' H1 _ e' R' (.bl _)⟩
end
end Dr
set_option maxHeartbeats 2000000
namespace Dr
open PySem L2
/-! ### o == y, o != y by an own __eq__ -/
section
variable {G : Cfg} {X : Cx} {Z : WX} {k : Nat}
/-- what may stand on the right: an int, a text, an instance of the same class -/
def rightOk (c : Nat) (y : W) (h : IH) : Bool := match y with
  | .int _ => true
  | .str _ => true
  | .ref n => (match h[n]? with | some (.slt c' _) => Nat.beq c' c | _ => false)
  | _ => false
def oEqO (c : Nat) (fn : Fn) (x y : W) (h : IH) : Out := if rightOk c y h = true then recvS c x h (bolO (fn [x, y] h)) else .no
def oNeO (c : Nat) (fn : Fn) (x y : W) (h : IH) : Out := if rightOk c y h = true then recvS c x h (notO (fn [x, y] h)) else .no
structure EqOk (G : Cfg) (X : Cx) (c : Nat) (g : Addr) : Prop where
  own : OwnOk G X c "__eq__" g
  ni : PySem.W.notFirst X.K (G.cl c) (.type "int") = true
  ns : PySem.W.notFirst X.K (G.cl c) (.type "str") = true
theorem right_at {c : Nat} {g : Addr} {y : W} {vy : V} {u : Value} {m : Nat → Addr} {h : IH} {H : Hp} {τ : St} {pins : List (Addr × Obj)} {s : Shared} (po : EqOk G X c g) (R : Rep G.K G.cl m h H) (ry : RW G.K G.cl m h.length H y vy) (q : rightOk c y h = true) (I : Inv X pins τ H s) (r2 : RelV vy u) :
    ∃ tb, PySem.W.Looks (model X.prog X.w) s.heap (typeOf u) tb ∧ PySem.W.notFirst X.K (G.cl c) tb = true := by
  unfold rightOk at q
  cases ry <;> first | cases q | skip
  · obtain ⟨t, rfl⟩ := (show ∃ t, u = Value.int _ t from r2)
    exact ⟨.type "int", .of_pure rfl, po.ni⟩
  · obtain ⟨t, rfl⟩ := (show ∃ t, u = Value.str _ t from r2)
    exact ⟨.type "str", .of_pure rfl, po.ns⟩
  · rename_i n hn
    simp only at q
    split at q
    · rename_i c' ws e
      have := Nat.eq_of_beq_eq_true q
      subst this
      obtain ⟨dx, vs, hs, _⟩ := slt_of R e
      obtain rfl : u = Value.ref (m n) := r2
      obtain ⟨sl, od, _, J, _⟩ := SlX.slt_inst I hs
      exact ⟨.ref (G.cl c'), J.type, by unfold PySem.W.notFirst; simp⟩
    · cases q
theorem so_eqO {cc : Nat} {g : Addr} {fn : Fn} (F : Fit G X Z k) (po : EqOk G X cc g) (ok : FOk G X k g fn []) : SO G X (compareOp .Eq) (oEqO cc fn) := .mk fun m h H x y vx vy Z' Q R rx ry P => by
  refine ⟨fun x' y' H' Q' => x' = vx ∧ y' = vy ∧ H' = H ∧ Q' = Q, ?_, rfl, rfl, rfl, rfl⟩
  rintro pins s σ H' x' y' v u Q' I r1 r2 ⟨rfl, rfl, rfl, rfl⟩
  unfold oEqO at P
  split at P
  · rename_i hq
    obtain ⟨tb, lk, nf⟩ := right_at po R ry hq I r2
    obtain ⟨n, dx, vs, rfl, hsl, P2⟩ := recvS_at R rx P
    obtain ⟨bb, h', eb, P3⟩ := bolO_at P2
    obtain rfl : v = Value.ref (m n) := r1
    obtain ⟨sl, od, _, J, _⟩ := SlX.slt_inst I hsl
    obtain ⟨m0, hF⟩ := I.fr
    show wpAny _ _ (richCompare .Eq (.ref (m n)) u) _ _ s
    refine PySem.W.cmp_K (op := .Eq) (tb := tb) F.room.units0 hF I.ok.mod.kin J lk nf po.own.at_ po.own.fn (run_b (ws := [x, y]) (vs := [.ref (m n), y']) F.gd F.room I.env0 ok R (.cons rx (.cons ry .nil)) eb I (.cons rfl (.cons r2 .nil)) fun s' m' H1 e' R' I' => ?_)
    exact ⟨.bl bb, H1, I', rfl, P3 m' H1 _ e' R' (.bl _)⟩
  · exact P.elim
end
end Dr
set_option maxHeartbeats 2000000
namespace Dr
open PySem L2
/-! ### o != y, by object.__ne__ over an own __eq__ -/
theorem bind_ne (self : Value) : bindSpecial (.builtin "object.__ne__") self = pure (.builtin "object.__ne__", [self]) := by
  first | rfl | kernel_rfl
theorem check_slotK {M : Model} {A : Around} {E : Value → Shared → Prop} {s : Shared} {K : PySem.W.Frag} {x C : Addr} {ox : Obj} {od : Option Obj} {id owner n : String} {rest : List Value} {Q : Unit → Shared → Prop} (hk : builtinKind id = some .slot) (hs : splitId id = some (owner, n)) (ha : argsOk id ⟨.ref x :: rest, []⟩)
    (X : K.In s.heap) (I : PySem.W.InstAt s.heap x ox C od) (e : PySem.W.subIn K (.ref C) (.type owner) = some true) (hq : Q () s) : wpAny M A (checkBuiltinCall id ⟨.ref x :: rest, []⟩) Q E s := by
  simp only [checkBuiltinCall, hk, hs]
  refine wpAny_bind ?_
  unfold isInstance
  refine wpAny_bind (I.type.here ((PySem.W.looks_subIn X e).here ?_))
  simp only [Bool.not_true, Bool.false_eq_true, if_false]
  cases hsig : Manifest.signature? id with
  | none => exact wpAny_pure hq
  | some sig =>
    simp only [argsOk, hsig] at ha
    have h2 : Bind.checkArgs id sig ⟨.ref x :: rest, []⟩ = pure () := ha
    show wpAny M A (Bind.checkArgs id sig ⟨.ref x :: rest, []⟩) Q E _
    rw [h2]; exact wpAny_pure hq
section
variable {prog : Program} {w : World} {A : Around} {E : Value → Shared → Prop} {s : Shared} {K : PySem.W.Frag} {x C f : Addr} {ox : Obj} {od : Option Obj} {y tb : Value}
theorem ne_entry {Q : Fin → Shared → Prop} (X : K.In s.heap) (I : PySem.W.InstAt s.heap x ox C od) (hs : PySem.W.findIn K (.ref C) "__eq__" = some (some (.ref f))) (hf : PySem.W.isFn K (.ref f) = true) (hu : A.units < cLine)
    (h : wpAny (model prog w) A (call (.ref f) [.ref x, y]) (fun v s' => ∃ b, v = Value.bool b ∧ Q (.done (.ret (.bool (!b)))) s') E s) : wpAny (model prog w) A (Builtin.«object.__ne__» ⟨[.ref x, y], []⟩) Q E s := by
  unfold Builtin.«object.__ne__»
  repeat (first
    | with_reducible refine wpAny_cRoomFor hu ?_
    | (refine wpAny_bind (m := callSpecialIfBound? (.ref x) (Str.ofString "__eq__") [y])
        (PySem.W.ifBound_K X I hs hf (wpAny_mono h (fun r s' hr => by
          obtain ⟨b, rfl, hq⟩ := hr
          repeat (first | exact hq | exact wpAny_pure hq | exact wpAny_truthy_bool hq | (refine wpAny_bind (m := truthy (.bool _)) (wpAny_truthy_bool ?_)) | wp_step)) fun _ _ e => e)))
    | wp_step)
theorem ifBound_ne {M : Model} {args : List Value} {Q : Option Value → Shared → Prop} (X : K.In s.heap) (I : PySem.W.InstAt s.heap x ox C od) (hs : PySem.W.findIn K (.ref C) "__ne__" = some (some (.builtin "object.__ne__")))
    (h : wpAny M A (call (.builtin "object.__ne__") (.ref x :: args)) (fun v => Q (some v)) E s) : wpAny M A (callSpecialIfBound? (.ref x) "__ne__" args) Q E s := by
  simp only [callSpecialIfBound?, bindSpecialIfBound?]
  refine wpAny_holding (wpAny_bind (wpAny_bind (wpAny_bind (I.type.here ((PySem.W.looks_findIn X hs).here ?_)))))
  simp only [bind_ne]
  refine wpAny_bind (wpAny_askSetting (wpAny_ite ?_))
  have fin : wpAny M A (call (.builtin "object.__ne__") ([.ref x] ++ args) >>= fun v => pure (some v)) Q E s := wpAny_bind (wpAny_mono h (fun v s' h' => wpAny_pure h') fun _ _ h' => h')
  split
  · exact wpAny_bind (wpAny_pure (wpAny_pure fin))
  · exact wpAny_tryCatch (wpAny_bind (wpAny_pure (wpAny_pure fin)))
theorem cmp_ne {Q : Value → Shared → Prop} {h₀ : Heap} {L : Addr} {m : Str → Option Value} (hu : A.units + 1 < cLine) (F : PyProof.Rows.Fr h₀ L s.heap m) (X₀ : K.In h₀) (I : PySem.W.InstAt s.heap x ox C od) (hb : PySem.W.Looks (model prog w) s.heap (typeOf y) tb) (hn : PySem.W.notFirst K C tb = true)
    (hs : PySem.W.findIn K (.ref C) "__ne__" = some (some (.builtin "object.__ne__"))) (hse : PySem.W.findIn K (.ref C) "__eq__" = some (some (.ref f))) (hf : PySem.W.isFn K (.ref f) = true) (ho : PySem.W.subIn K (.ref C) (.type "object") = some true)
    (h : wpAny (model prog w) A.in1 (call (.ref f) [.ref x, y]) (fun v s' => ∃ b, v = Value.bool b ∧ Q (.bool (!b)) s') E s) : wpAny (model prog w) A (richCompare .NotEq (.ref x) y) Q E s := by
  have X := X₀.keeps F.keep
  have one : wpAny (model prog w) A (tryCompare (.ref x) "__ne__" y) (fun r s' => ∃ v, r = some v ∧ Q v s') E s := by
    unfold tryCompare
    refine wpAny_bind (ifBound_ne X I hs (wpAny_call (codeAny_call_builtin (by decide +kernel) PySem.F.cmpEntry_ne (check_slotK PySem.F.cmpKind_ne PySem.F.cmpSplit_ne (PySem.F.cmpArgs_ne _ _) X I ho (ne_entry (A := A.in1) X I hse hf hu (wpAny_mono h (fun v s' hv => ?_) fun _ _ e => e))))))
    obtain ⟨b, rfl, hq⟩ := hv
    first | exact ⟨b, rfl, wpAny_pure ⟨_, rfl, hq⟩⟩ | exact ⟨b, rfl, wpAny_pure (wpAny_pure ⟨_, rfl, hq⟩)⟩
  unfold richCompare
  simp only [oneThing_ref]
  refine wpAny_holding (wpAny_bind (wpAny_cRoomFor (Nat.lt_of_succ_lt hu) ?_))
  refine wpAny_bind (I.type.here (wpAny_bind (hb.here ?_)))
  split
  · rename_i q
    have e : PySem.W.subIn K tb (.ref C) = some false := by
      rcases Bool.or_eq_true_iff.mp hn with e | e
      · rw [beq_iff_eq.mp e] at q; simp at q
      · exact beq_iff_eq.mp e
    refine wpAny_bind ((PySem.W.looks_subIn X e).here ?_)
    simp only [Bool.false_eq_true, if_false]
    refine wpAny_bind (wpAny_mono one (fun r s' z => ?_) fun _ _ e => e)
    obtain ⟨v, rfl, hq⟩ := z
    exact wpAny_pure hq
  · refine wpAny_bind (wpAny_pure ?_)
    simp only [Bool.false_eq_true, if_false]
    refine wpAny_bind (wpAny_mono one (fun r s' z => ?_) fun _ _ e => e)
    obtain ⟨v, rfl, hq⟩ := z
    exact wpAny_pure hq
end
section
variable {G : Cfg} {X : Cx} {Z : WX} {k : Nat}
structure NeOk (G : Cfg) (X : Cx) (c : Nat) (g : Addr) : Prop where
  eq : EqOk G X c g
  ne : PySem.W.findIn X.K (.ref (G.cl c)) "__ne__" = some (some (.builtin "object.__ne__"))
  ob : PySem.W.mroIn X.K (G.cl c) (.type "object") = some true
theorem so_neO {cc : Nat} {g : Addr} {fn : Fn} (F : Fit G X Z (k + 1)) (po : NeOk G X cc g) (ok : FOk G X k g fn []) : SO G X (compareOp .NotEq) (oNeO cc fn) := .mk fun m h H x y vx vy Z' Q R rx ry P => by
  refine ⟨fun x' y' H' Q' => x' = vx ∧ y' = vy ∧ H' = H ∧ Q' = Q, ?_, rfl, rfl, rfl, rfl⟩
  rintro pins s σ H' x' y' v u Q' I r1 r2 ⟨rfl, rfl, rfl, rfl⟩
  unfold oNeO at P
  split at P
  · rename_i hq
    obtain ⟨tb, lk, nf⟩ := right_at po.eq R ry hq I r2
    obtain ⟨n, dx, vs, rfl, hsl, P2⟩ := recvS_at R rx P
    obtain ⟨bb, h', eb, P3⟩ := notO_at P2
    obtain rfl : v = Value.ref (m n) := r1
    obtain ⟨sl, od, _, J, _⟩ := SlX.slt_inst I hsl
    obtain ⟨m0, hF⟩ := I.fr
    show wpAny _ _ (richCompare .NotEq (.ref (m n)) u) _ _ s
    refine cmp_ne (tb := tb) (by have := F.room.un; omega) hF I.ok.mod.kin J lk nf po.ne po.eq.own.at_ po.eq.own.fn po.ob (run_b (A := X.A.in1) (ws := [x, y]) (vs := [.ref (m n), y']) F.gd F.room.in1 I.env0.in1 ok R (.cons rx (.cons ry .nil)) eb I (.cons rfl (.cons r2 .nil)) fun s' m' H1 e' R' I' => ⟨bb, rfl, ?_⟩)
    exact ⟨.bl (!bb), H1, I', rfl, P3 m' H1 _ e' R' (.bl _)⟩
  · exact P.elim
end
end Dr
set_option maxHeartbeats 2000000
namespace Dr
open PySem L2
section
variable {G : Cfg} {X : Cx} {Z : WX} {k : Nat} {a b c : Ev} {ea eb ec : Expr} {pos : Pos}
/-! ### isinstance(x, C), C an own class -/
def slOf (x : W) (h : IH) : Option Nat := match x with
  | .ref n => (match h[n]? with | some (.slt c _) => some c | _ => none)
  | _ => none
def isO (ts : Nat → Option Bool) (tk : Kd → Option Bool) (x : W) (h : IH) : Option Bool := match slOf x h with
  | some c => ts c
  | none => match tgOf x h with
    | some g => tk g
    | none => none
def eIsO (ts : Nat → Option Bool) (tk : Kd → Option Bool) (a : Ev) : Ev := fun σ h => (a σ h).vb fun x h1 => match isO ts tk x h1 with
  | some q => .v (.bl q) h1
  | none => .no
structure IsOk (G : Cfg) (X : Cx) (cc : Nat) (ts : Nat → Option Bool) (tk : Kd → Option Bool) : Prop where
  s : ∀ c q, ts c = some q → SlX.SCls X.K (G.cl c) ∧ SlX.SIsi X.K (G.cl c) ∧ PySem.W.kitOne X.K (.ref (G.cl c)) (.ref (G.cl cc)) = some q
  k : ∀ g q, tk g = some q → PySem.W.kitOne X.K (.type (Kd.nm g)) (.ref (G.cl cc)) = some q
theorem s_isO {x : Str} {cc : Nat} {ts : Nat → Option Bool} {tk : Kd → Option Bool} {p p2 : Pos} (F : Fit G X Z k) (ok : IsOk G X cc ts tk) (ha : SE G X Z a ea) (hm : X.mg "isinstance" = none) (hc : X.mg x = some (.ref (G.cl cc))) (hg : Gl X "isinstance" := by rfl) (hg2 : Gl X x := by rfl) (hd2 : (x == ("__debug__" : Str)) = false := by decide)
    (he : starEach [ea, .Name x p2] X.env = (false, eval ea X.env) :: starEach [.Name x p2] X.env := by rfl) (he2 : starEach [.Name x p2] X.env = (false, eval (.Name x p2) X.env) :: starEach [] X.env := by rfl) (hpl : (backTo pos (starEach [.Name x p2] X.env)).any (·.1) = false := by rfl) :
    SE G X Z (eIsO ts tk a) (.Call (.Name "isinstance" p) [ea, .Name x p2] [] pos) := .mk fun m h H σ τ Q R S P => by
  refine WE.of (pe_callB (pcM (f := .builtin "isinstance")) hg hm (by decide +kernel) (pa_cons peM (pa_cons (pe_glob (v := .ref (G.cl cc)) hg2 hc rfl hd2) pa_nil he2) he) (by decide) (by decide) he hpl) (ha m h H σ τ _ R S (PoE.ee P fun w h1 m1 H1 v e1 R1 r1 P1 => ?_))
  split at P1
  · rename_i q e
    unfold isO at e
    split at e
    · rename_i c es
      obtain ⟨s1, s2, s3⟩ := ok.s c q e
      unfold slOf at es
      cases r1 <;> first | cases es | skip
      rename_i n hn
      simp only at es
      split at es
      · rename_i c' ws e'
        cases es
        obtain ⟨dx, vs, hs, _⟩ := slt_of R1 e'
        exact ⟨_, SlX.call_isiSl (.ref (G.cl cc)), m1 n, _, dx, vs, .ref (G.cl cc), q, rfl, rfl, fun w z => z, hs, s1, s2, s3, P1 m1 H1 _ Ext.refl R1 (.bl _)⟩
      · cases es
    · split at e
      · rename_i g eg
        exact ⟨_, call_isi, v, .ref (G.cl cc), .type g.nm, .ref (G.cl cc), q, rfl, .own _, tg_of F.K R1 r1 eg, ok.k g q e, P1 m1 H1 _ Ext.refl R1 (.bl _)⟩
      · cases e
  · exact P1.elim
/-! ### xs[::-1] -/
def oRev (x : W) (h : IH) : Out := match x with
  | .ref n => (match lstAt h n with | some ws => .v (.ref h.length) (h ++ [.lst ws.reverse]) | none => .no)
  | _ => .no
def eRev (a : Ev) : Ev := fun σ h => (a σ h).vb oRev
theorem RWs.rev {m : Nat → Addr} {L : Nat} {H : Hp} : ∀ {ws : List W} {vs : List V}, RWs G.K G.cl m L H ws vs → RWs G.K G.cl m L H ws.reverse vs.reverse
  | _, _, .nil => .nil
  | _, _, .cons a b => by rw [List.reverse_cons, List.reverse_cons]; exact (RWs.rev b).append (.cons a .nil)
theorem s_rev {kk : Nat} {p1 p2 p3 : Pos} (F : Fit G X Z k) (ha : SE G X Z a ea) : SE G X Z (eRev a) (.Subscript ea (.Slice none none (some (.UnaryOp .USub (.Constant (.int 1) kk p1) p2)) p3) pos) := .mk fun m h H σ τ Q R S P => by
  refine WE.of (pe_revL peM) (ha m h H σ τ _ R S (PoE.ee P fun x h1 m1 H1 v1 e1 R1 r1 P1 => ?_))
  unfold oRev at P1
  cases r1 <;> first | exact P1.elim | skip
  rename_i n hn
  simp only at P1
  split at P1
  · rename_i ws e
    obtain ⟨us, hx, hu⟩ := lstAt_of R1 e
    exact ⟨m1 n, us, rfl, F.K ▸ hx, fun p hp => new_lst R1 hp hu.rev P1⟩
  · exact P1.elim
end
end Dr
set_option maxHeartbeats 2000000
namespace Dr
open PySem L2
/-! ### calls with keywords -/
def pick {α : Type} (ix : List Nat) (l : List α) : List α := ix.filterMap (l[·]?)
def WK (X : Cx) (kws : List Keyword) : TA := fun σ H Q => ∀ (pos : Pos) (pins : List (Addr × Obj)) (s : Shared), Inv X pins σ H s → wpAny (model X.prog X.w) X.A (evalAll ((backToKw pos (keywordEach kws X.env)).map (·.2))) (AP X pins σ Q) X.xe s
theorem pkM {X : Cx} {kws : List Keyword} : PK X kws (WK X kws) := ⟨fun pos pins s _ _ _ I h => h pos pins s I⟩
theorem WK.of {X : Cx} {kws : List Keyword} {t : TA} {σ : St} {H : Hp} {Q : List V → Hp → Prop} (p : PK X kws t) (h : t σ H Q) : WK X kws σ H Q := fun pos pins s I => p.run pos pins s σ H Q I h
structure SK (G : Cfg) (X : Cx) (Z : WX) (c : Ev) (kws : List Keyword) : Prop where
  go : ∀ m h H σ τ Q, Rep G.K G.cl m h H → RSt G m h.length H σ τ → PoA G m h.length H Z Q (c σ h) → WK X kws τ H Q
section
variable {G : Cfg} {X : Cx} {Z : WX} {k : Nat} {a b c : Ev} {ea eb ec : Expr} {pos : Pos}
theorem k_nil : SK G X Z eNil [] := .mk fun m h H σ τ Q R S P => WK.of pk_nil (P m H _ Ext.refl R .nil)
theorem k_cons {kws : List Keyword} {nm : Option Str} {kpos : Pos} {r : Ev} (ha : SE G X Z a ea) (hr : SK G X Z r kws) : SK G X Z (eCons a r) (⟨nm, ea, kpos⟩ :: kws) := .mk fun m h H σ τ Q R S P => by
  refine WK.of (pk_cons peM pkM) (ha m h H σ τ _ R S (PoA.ea P fun x h1 m1 H1 v1 e1 R1 r1 P1 => ?_))
  refine hr.go m1 h1 H1 σ τ _ R1 (S.mono e1) (PoA.aa P1 fun y h2 m2 H2 v2 e2 R2 r2 P2 => ?_)
  exact P2 m2 H2 _ Ext.refl R2 (.cons (r1.mono e2) r2)
theorem RWs.pick {m : Nat → Addr} {L : Nat} {H : Hp} {ws : List W} {vs : List V} (r : RWs G.K G.cl m L H ws vs) : ∀ ix : List Nat, RWs G.K G.cl m L H (Dr.pick ix ws) (Dr.pick ix vs)
  | [] => .nil
  | i :: ix => by
    have ih := RWs.pick r ix
    unfold Dr.pick at ih ⊢
    cases e : ws[i]? with
    | none =>
      have e2 : vs[i]? = none := by
        rw [List.getElem?_eq_none_iff] at e ⊢
        rw [← r.length]; exact e
      rw [List.filterMap_cons, List.filterMap_cons, e, e2]
      exact ih
    | some w =>
      obtain ⟨v, h1, h2⟩ := r.get e
      rw [List.filterMap_cons, List.filterMap_cons, e, h1]
      exact .cons h2 ih
theorem vals_get : ∀ {vs : List V} {us : List Value} {i : Nat} {v : V}, Vals vs us → vs[i]? = some v → ∃ u, us[i]? = some u ∧ RelV v u
  | _, _, i, v, .nil, e => by simp at e
  | _, _, 0, v, .cons a _, e => by simp at e; subst e; exact ⟨_, rfl, a⟩
  | _, _, i + 1, v, .cons _ b, e => by
    obtain ⟨u, h1, h2⟩ := vals_get (i := i) b (by simpa using e)
    exact ⟨u, by simpa using h1, h2⟩
theorem vals_pick {vs : List V} {us : List Value} (r : Vals vs us) : ∀ ix : List Nat, Vals (Dr.pick ix vs) (Dr.pick ix us)
  | [] => .nil
  | i :: ix => by
    have ih := vals_pick r ix
    unfold Dr.pick at ih ⊢
    cases e : vs[i]? with
    | none =>
      have e2 : us[i]? = none := by
        rw [List.getElem?_eq_none_iff] at e ⊢
        rw [← r.length]; exact e
      rw [List.filterMap_cons, List.filterMap_cons, e, e2]
      exact ih
    | some w =>
      obtain ⟨v, h1, h2⟩ := vals_get r e
      rw [List.filterMap_cons, List.filterMap_cons, e, h1]
      exact .cons h2 ih
/-- a def that may be called so: n values by place, then the keywords ks; ix puts the keywords' values in the parameters' order -/
def FOkK (G : Cfg) (X : Cx) (k : Nat) (f : Addr) (fn : Fn) (n : Nat) (ks : List Str) (ix : List Nat) : Prop := ∃ fd ps, FnG X.prog X.w X.K X.mg X.base k f fd ps (spC G ps.length fn) ∧ (∀ (s : Shared) (us ws : List Value), us.length = n → ws.length = ks.length → BindsTo s fd ⟨us, ks.zip ws⟩ (ps.zip (us ++ pick ix ws))) ∧ ∀ ws h, ws.length ≠ ps.length → fn ws h = .no
theorem run_k {f : Addr} {fn : Fn} {n : Nat} {ks : List Str} {ix : List Nat} {ws zs : List W} {τ : St} {σ : Sg} {m : Nat → Addr} {h : IH} {H : Hp} {vs ys : List V} {us ts : List Value} {Q : VK} {pins : List (Addr × Obj)} {s : Shared} (F : Fit G X Z k) (ok : FOkK G X k f fn n ks ix) (R : Rep G.K G.cl m h H) (S : RSt G m h.length H σ τ)
    (r : RWs G.K G.cl m h.length H ws vs) (rz : RWs G.K G.cl m h.length H zs ys) (hn : ws.length = n) (hk : zs.length = ks.length) (P : PoE G m h.length H Z Q ((fn (ws ++ pick ix zs) h).cb σ)) (I : Inv X pins τ H s) (rv : Vals vs us) (ry : Vals ys ts) : wpAny (model X.prog X.w) X.A (call (.ref f) us (ks.zip ts)) (EP X pins τ Q) X.xe s := by
  obtain ⟨fd, ps, Fo, hb, ar⟩ := ok
  have r2 : RWs G.K G.cl m h.length H (ws ++ pick ix zs) (vs ++ pick ix ys) := r.append (rz.pick ix)
  have rv2 : Vals (vs ++ pick ix ys) (us ++ pick ix ts) := rv.append (vals_pick ry ix)
  by_cases hl : (ws ++ pick ix zs).length = ps.length
  · have sp : spC G ps.length fn (vs ++ pick ix ys) H Q (fun cls d H' => Z cls d τ H') := by
      refine ⟨m, h, ws ++ pick ix zs, hl, R, r2, ?_⟩
      cases e : fn (ws ++ pick ix zs) h with
      | v w h' => rw [e] at P; exact P
      | ex c w s h' => rw [e] at P; exact fun m' H' d v e' R' r' hd' => P m' H' d v τ e' R' r' (S.mono e') hd'
      | vs w h => rw [e] at P; exact P
      | nx s h => rw [e] at P; exact P
      | rt w h => rw [e] at P; exact P
      | bk s h => rw [e] at P; exact P
      | ct s h => rw [e] at P; exact P
      | no => rw [e] at P; exact P
    refine wpAny_call (codeAny_mono (Fo.go X.A X.stack s H ⟨us, ks.zip ts⟩ (us ++ pick ix ts) (vs ++ pick ix ys) Q _ F.gd F.room I.env0 (hb s us ts (by rw [← rv.length, ← r.length]; exact hn) (by rw [← ry.length, ← rz.length]; exact hk)) rv2 sp) fun r s' hq => ?_)
    cases r with
    | error e => exact passAt F.tk τ pins H s e s' I hq
    | ok fl =>
      cases fl with
      | ret u => exact I.after hq
      | next => exact False.elim hq
      | brk => exact False.elim hq
      | cont => exact False.elim hq
  · rw [ar _ h hl] at P
    exact False.elim P
def lenO (n : Nat) (ws : List W) (o : Out) : Out := if ws.length = n then o else .no
theorem lenO_at {n : Nat} {ws : List W} {o : Out} {m : Nat → Addr} {L : Nat} {H : Hp} {Q : VK} (P : PoE G m L H Z Q (lenO n ws o)) : ws.length = n ∧ PoE G m L H Z Q o := by
  unfold lenO at P
  split at P
  · rename_i q; exact ⟨q, P⟩
  · exact P.elim
def eCallK (fn : Fn) (nk : Nat) (ix : List Nat) (rk : Ev) : Ev := fun σ h => (rk σ h).vsb fun zs h1 => lenO nk zs ((fn (pick ix zs) h1).cb σ)
/-- f(k = e, ..) -/
theorem s_callK {x : Str} {f : Addr} {fn : Fn} {ks : List Str} {ix : List Nat} {kws : List Keyword} {rk : Ev} {p : Pos} (F : Fit G X Z k) (ok : FOkK G X k f fn 0 ks ix) (hm : X.mg x = some (.ref f)) (hk : PySem.W.keepIn X.K (.ref f) = true) (hr : SK G X Z rk kws) (hg : Gl X x := by rfl)
    (hdb : (x == ("__debug__" : Str)) = false := by decide) (hall : (backToKw pos (keywordEach kws X.env)).all (·.1.isSome) = true := by rfl) (hks : (backToKw pos (keywordEach kws X.env)).filterMap (·.1) = ks := by rfl)
    (hpl : ((backTo pos (starEach [] X.env)).any (·.1) || (backToKw pos (keywordEach kws X.env)).any (·.1.isNone)) = false := by rfl) :
    SE G X Z (eCallK fn ks.length ix rk) (.Call (.Name x p) [] kws pos) := .mk fun m h H σ τ Q R S P pins s I => by
  refine wpAny_Call_Name_kw (ld_glob I hg hm ?_ hdb)
  refine PySem.W.callWith_KW0 (h₀ := X.base) I.ok.mod.kin hk hall ?_ hpl
  refine thn (hr.go m h H σ τ (fun vs H1 => ∃ m1 h1 zs, Ext G.K m h.length H m1 h1.length H1 ∧ Rep G.K G.cl m1 h1 H1 ∧ RWs G.K G.cl m1 h1.length H1 zs vs ∧ PoE G m1 h1.length H1 Z Q (lenO ks.length zs ((fn (pick ix zs) h1).cb σ))) R S
    (PoE.ae P fun zs h1 m1 H1 vs e1 R1 r1 P1 => ⟨m1, h1, zs, e1, R1, r1, P1⟩) pos pins s I) fun us s1 ⟨vs, H1, I1, rv, m1, h1, zs, e1, R1, r1, P1⟩ => ⟨I1.kIn, ?_⟩
  obtain ⟨hl, P2⟩ := lenO_at P1
  rw [hks]
  exact run_k (ws := []) (vs := []) (us := []) F ok R1 (S.mono e1) .nil r1 rfl hl P2 I1 .nil rv
/-- o.m(e, .., k = e, ..), o with slots -/
structure MKOk (G : Cfg) (X : Cx) (k : Nat) (c : Nat) (nm : Str) (fn : Fn) (n : Nat) (ks : List Str) (ix : List Nat) : Prop where
  ex : ∃ f, SlX.SCls X.K (G.cl c) ∧ Meth X.K (G.cl c) nm f ∧ FOkK G X k f fn n ks ix
def eMethK0 (c : Nat) (fn : Fn) (nk : Nat) (ix : List Nat) (o rk : Ev) : Ev := fun σ h => (o σ h).vb fun x h1 => recvS c x h1 ((rk σ h1).vsb fun zs h2 => lenO nk zs ((fn (x :: pick ix zs) h2).cb σ))
theorem s_methK0 {cc : Nat} {nm : Str} {fn : Fn} {ks : List Str} {ix : List Nat} {kws : List Keyword} {o rk : Ev} {eo : Expr} {apos : Pos} {pl : Sem Bool} (F : Fit G X Z k) (ok : MKOk G X k cc nm fn 1 ks ix) (ho : SE G X Z o eo) (hr : SK G X Z rk kws)
    (hall : (backToKw pos (keywordEach kws X.env)).all (·.1.isSome) = true := by rfl) (hks : (backToKw pos (keywordEach kws X.env)).filterMap (·.1) = ks := by rfl)
    (hpl : ((backTo pos (starEach [] X.env)).any (·.1) || (backToKw pos (keywordEach kws X.env)).any (·.1.isNone)) = false := by rfl)
    (ht : eval (.Call (.Attribute eo nm apos) [] kws pos) X.env = (do
      let ov ← eval eo X.env
      standAt apos.atName
      let (f, first) ← holding [ov] (getMethod ov nm pl)
      callWith pos f first (backTo pos (starEach [] X.env)) (backToKw pos (keywordEach kws X.env))) := by rfl) :
    SE G X Z (eMethK0 cc fn ks.length ix o rk) (.Call (.Attribute eo nm apos) [] kws pos) := .mk fun m h H σ τ Q R S P pins s I => by
  refine PySem.W.methodCall_KW (pl := pl) (thn (ho m h H σ τ (fun v H1 => ∃ m1 h1 x, Ext G.K m h.length H m1 h1.length H1 ∧ Rep G.K G.cl m1 h1 H1 ∧ RW G.K G.cl m1 h1.length H1 x v ∧ PoE G m1 h1.length H1 Z Q (recvS cc x h1 ((rk σ h1).vsb fun zs h2 => lenO ks.length zs ((fn (x :: pick ix zs) h2).cb σ)))) R S
    (PoE.ee P fun x h1 m1 H1 v e1 R1 r1 P1 => ⟨m1, h1, x, e1, R1, r1, P1⟩) pins s I) fun u s1 ⟨v, H1, I1, rv, m1, h1, x, e1, R1, r1, P1⟩ => ?_) ht
  obtain ⟨n, dx, vs, rfl, hsl, P2⟩ := recvS_at R1 r1 P1
  obtain ⟨f, c1, c2, c3⟩ := ok.ex
  obtain rfl : u = Value.ref (m1 n) := rv
  refine SlX.getmethsl_ok I1 hsl c1 c2 ?_
  refine PySem.W.callWith_KW0 (first := [.ref (m1 n)]) (h₀ := X.base) I.ok.mod.kin c2.kp hall ?_ hpl
  refine thn (hr.go m1 h1 H1 σ τ (fun vs H2 => ∃ m2 h2 zs, Ext G.K m1 h1.length H1 m2 h2.length H2 ∧ Rep G.K G.cl m2 h2 H2 ∧ RWs G.K G.cl m2 h2.length H2 zs vs ∧ PoE G m2 h2.length H2 Z Q (lenO ks.length zs ((fn (x :: pick ix zs) h2).cb σ))) R1 (S.mono e1)
    (PoE.ae P2 fun zs h2 m2 H2 vs e2 R2 r2 P3 => ⟨m2, h2, zs, e2, R2, r2, P3⟩) pos pins s1 I1) fun us s2 ⟨vs, H2, I2, rvs, m2, h2, zs, e2, R2, r2, P3⟩ => ⟨I2.kIn, ?_⟩
  obtain ⟨hl, P4⟩ := lenO_at P3
  rw [hks]
  exact run_k (ws := [x]) (vs := [.ref (m1 n)]) (us := [.ref (m1 n)]) F c3 R2 ((S.mono e1).mono e2) (.cons (r1.mono e2) .nil) r2 rfl hl P4 I2 (.cons rfl .nil) rvs
def eMethK (c : Nat) (fn : Fn) (n nk : Nat) (ix : List Nat) (o r rk : Ev) : Ev := fun σ h => (o σ h).vb fun x h1 => recvS c x h1 ((r σ h1).vsb fun ws h2 => (rk σ h2).vsb fun zs h3 => lenO n ws (lenO nk zs ((fn (x :: ws ++ pick ix zs) h3).cb σ)))
theorem s_methK {cc n0 : Nat} {nm : Str} {fn : Fn} {ks : List Str} {ix : List Nat} {kws : List Keyword} {o r rk : Ev} {eo e : Expr} {es : List Expr} {apos : Pos} {pl : Sem Bool} (F : Fit G X Z k) (ok : MKOk G X k cc nm fn (n0 + 1) ks ix) (ho : SE G X Z o eo) (hp : SA G X Z r (e :: es)) (hr : SK G X Z rk kws)
    (hst : starEach (e :: es) X.env = (false, eval e X.env) :: starEach es X.env := by rfl)
    (hall : (backToKw pos (keywordEach kws X.env)).all (·.1.isSome) = true := by rfl) (hks : (backToKw pos (keywordEach kws X.env)).filterMap (·.1) = ks := by rfl)
    (hpl : ((backTo pos (starEach (e :: es) X.env)).any (·.1) || (backToKw pos (keywordEach kws X.env)).any (·.1.isNone)) = false := by rfl)
    (ht : eval (.Call (.Attribute eo nm apos) (e :: es) kws pos) X.env = (do
      let ov ← eval eo X.env
      standAt apos.atName
      let (f, first) ← holding [ov] (getMethod ov nm pl)
      callWith pos f first (backTo pos (starEach (e :: es) X.env)) (backToKw pos (keywordEach kws X.env))) := by rfl) :
    SE G X Z (eMethK cc fn n0 ks.length ix o r rk) (.Call (.Attribute eo nm apos) (e :: es) kws pos) := .mk fun m h H σ τ Q R S P pins s I => by
  refine PySem.W.methodCall_KW (pl := pl) (thn (ho m h H σ τ (fun v H1 => ∃ m1 h1 x, Ext G.K m h.length H m1 h1.length H1 ∧ Rep G.K G.cl m1 h1 H1 ∧ RW G.K G.cl m1 h1.length H1 x v ∧ PoE G m1 h1.length H1 Z Q (recvS cc x h1 ((r σ h1).vsb fun ws h2 => (rk σ h2).vsb fun zs h3 => lenO n0 ws (lenO ks.length zs ((fn (x :: ws ++ pick ix zs) h3).cb σ))))) R S
    (PoE.ee P fun x h1 m1 H1 v e1 R1 r1 P1 => ⟨m1, h1, x, e1, R1, r1, P1⟩) pins s I) fun u s1 ⟨v, H1, I1, rv, m1, h1, x, e1, R1, r1, P1⟩ => ?_) ht
  obtain ⟨n, dx, vs, rfl, hsl, P2⟩ := recvS_at R1 r1 P1
  obtain ⟨f, c1, c2, c3⟩ := ok.ex
  obtain rfl : u = Value.ref (m1 n) := rv
  refine SlX.getmethsl_ok I1 hsl c1 c2 ?_
  refine PySem.W.callWith_KW (first := [.ref (m1 n)]) (h₀ := X.base) I.ok.mod.kin c2.kp hall ?_ hpl hst
  refine thn (hp m1 h1 H1 σ τ (fun vs H2 => ∃ m2 h2 ws, Ext G.K m1 h1.length H1 m2 h2.length H2 ∧ Rep G.K G.cl m2 h2 H2 ∧ RWs G.K G.cl m2 h2.length H2 ws vs ∧ PoE G m2 h2.length H2 Z Q ((rk σ h2).vsb fun zs h3 => lenO n0 ws (lenO ks.length zs ((fn (x :: ws ++ pick ix zs) h3).cb σ)))) R1 (S.mono e1)
    (PoE.ae P2 fun ws h2 m2 H2 vs e2 R2 r2 P3 => ⟨m2, h2, ws, e2, R2, r2, P3⟩) pos pins s1 I1) fun us s2 ⟨vs, H2, I2, rvs, m2, h2, ws, e2, R2, r2, P3⟩ => ?_
  refine thn (hr.go m2 h2 H2 σ τ (fun vs H3 => ∃ m3 h3 zs, Ext G.K m2 h2.length H2 m3 h3.length H3 ∧ Rep G.K G.cl m3 h3 H3 ∧ RWs G.K G.cl m3 h3.length H3 zs vs ∧ PoE G m3 h3.length H3 Z Q (lenO n0 ws (lenO ks.length zs ((fn (x :: ws ++ pick ix zs) h3).cb σ)))) R2 ((S.mono e1).mono e2)
    (PoE.ae P3 fun zs h3 m3 H3 vs e3 R3 r3 P4 => ⟨m3, h3, zs, e3, R3, r3, P4⟩) pos pins s2 I2) fun ts s3 ⟨ys, H3, I3, rys, m3, h3, zs, e3, R3, r3, P4⟩ => ⟨I3.kIn, ?_⟩
  obtain ⟨hn, P5⟩ := lenO_at P4
  obtain ⟨hl, P6⟩ := lenO_at P5
  rw [hks]
  exact run_k (ws := x :: ws) (vs := .ref (m1 n) :: vs) (us := .ref (m1 n) :: us) F c3 R3 (((S.mono e1).mono e2).mono e3) (.cons ((r1.mono e2).mono e3) (r2.mono e3)) r3 (by rw [List.length_cons, hn]) hl P6 I3 (.cons rfl rvs) rys
end
end Dr
set_option maxHeartbeats 2000000
namespace Dr
open PySem L2 PyProof.Rows
/-! ### a def called with keywords, for all contexts -/
def FOkBK (P : Program) (w : World) (mg : Str → Option Value) (base : Heap) (G : Cfg) (k : Nat) (f : Addr) (fn : Fn) (n : Nat) (ks : List Str) (ix : List Nat) : Prop :=
  ∃ fd ps, FnG P w G.K mg base k f fd ps (spC G ps.length fn) ∧ (∀ (s : Shared) (us ws : List Value), us.length = n → ws.length = ks.length → BindsTo s fd ⟨us, ks.zip ws⟩ (ps.zip (us ++ pick ix ws))) ∧ ∀ ws h, ws.length ≠ ps.length → fn ws h = .no
def DfnK (G : Cfg) (qual : Str) (st : Stmt) (ps : List Str) (n : Nat) (ks : List Str) (ix : List Nat) (f : Addr) : Prop := ∃ fd, DefAt G.K qual st f fd ∧ ∀ (s : Shared) (us ws : List Value), us.length = n → ws.length = ks.length → BindsTo s fd ⟨us, ks.zip ws⟩ (ps.zip (us ++ pick ix ws))
section
variable {P : Program} {w : World} {mg : Str → Option Value} {base : Heap} {G : Cfg} {k n : Nat} {f : Addr} {fn : Fn} {ks : List Str} {ix : List Nat} {qual : Str} {st : Stmt} {ps N : List Str} {body : Ev}
theorem FOkBK.up (h : FOkBK P w mg base G k f fn n ks ix) : FOkBK P w mg base G (k + 1) f fn n ks ix := by
  obtain ⟨fd, ps, a, b, e⟩ := h
  exact ⟨fd, ps, a.up (Nat.le_succ _), b, e⟩
theorem FOkBK.no (u : DfnK G qual st ps n ks ix f) : FOkBK P w mg base G k f (fun _ _ => .no) n ks ix := by
  obtain ⟨fd, a, b⟩ := u
  refine ⟨fd, ps, ⟨fun vs H Q E h => ?_, fun A o s H ar us vs Q E _ _ _ _ _ h => ?_⟩, b, fun _ _ _ => rfl⟩
  · obtain ⟨m, h, ws, hl, R, r, _⟩ := h
    rw [← r.length, hl]
  · obtain ⟨m, h, ws, hl, R, r, z⟩ := h
    exact False.elim z
theorem FOkBK.of (u : DfnK G qual st ps n ks ix f) (ok : ∀ fd, DefAt G.K qual st f fd → FnG P w G.K mg base k f fd ps (spC G ps.length (fnOf ps.length N.length body))) : FOkBK P w mg base G k f (fnOf ps.length N.length body) n ks ix := by
  obtain ⟨fd, a, b⟩ := u
  refine ⟨fd, ps, ok fd a, b, fun ws h hl => ?_⟩
  unfold Dr.fnOf
  rw [if_neg hl]
theorem FOkBK.pure' (h : FOkBK P w mg base G k f fn n ks ix) : FOkBK P w mg base G k f (pureFn' fn) n ks ix := by
  obtain ⟨fd, ps, a, b, e⟩ := h
  refine ⟨fd, ps, a.imp sp_pure', b, fun ws h hl => ?_⟩
  unfold pureFn'
  split
  · exact pureFn_len e ws h hl
  · exact e ws h hl
theorem DfnK.plain {x : Str} {oc : Value} {od an : Option Addr} {osl : Array (Option Value)} {kV doc pm cdv ct : Value} (l : G.K.lookup f = some ⟨oc, od, .func (PySem.W.fnOf x qual (defArgs st) (defBody st) (defScope st) .none kV doc pm an cdv ct), osl⟩) (c : PySem.W.codeIn G.K cdv qual = true)
    (h : ∀ (kV doc pm : Value) (an : Option Addr) (cdv ct : Value) (us ws : List Value), us.length = n → ws.length = ks.length → bindArgs (PySem.W.fnOf x qual (defArgs st) (defBody st) (defScope st) .none kV doc pm an cdv ct) ⟨us, ks.zip ws⟩ = pure (ps.zip (us ++ pick ix ws))) : DfnK G qual st ps n ks ix f :=
  ⟨_, ⟨oc, od, x, .none, kV, doc, pm, an, cdv, ct, osl, rfl, l, c⟩, fun s us ws h1 h2 => .of_eq (h kV doc pm an cdv ct us ws h1 h2)⟩
end
/-! what the new ones come to -/
@[simp] theorem eProp_ap {c : Nat} {fn : Fn} {a : Ev} {σ : Sg} {h : IH} : eProp c fn a σ h = ((a σ h).vb fun x h1 => recvS c x h1 (valO (fn [x] h1))) := rfl
@[simp] theorem eIsO_ap {ts : Nat → Option Bool} {tk : Kd → Option Bool} {a : Ev} {σ : Sg} {h : IH} : eIsO ts tk a σ h = ((a σ h).vb fun x h1 => match isO ts tk x h1 with
  | some q => .v (.bl q) h1
  | none => .no) := rfl
@[simp] theorem eRev_ap {a : Ev} {σ : Sg} {h : IH} : eRev a σ h = ((a σ h).vb oRev) := rfl
@[simp] theorem eCallK_ap {fn : Fn} {nk : Nat} {ix : List Nat} {rk : Ev} {σ : Sg} {h : IH} : eCallK fn nk ix rk σ h = ((rk σ h).vsb fun zs h1 => lenO nk zs ((fn (pick ix zs) h1).cb σ)) := rfl
@[simp] theorem eMethK0_ap {c : Nat} {fn : Fn} {nk : Nat} {ix : List Nat} {o rk : Ev} {σ : Sg} {h : IH} : eMethK0 c fn nk ix o rk σ h = ((o σ h).vb fun x h1 => recvS c x h1 ((rk σ h1).vsb fun zs h2 => lenO nk zs ((fn (x :: pick ix zs) h2).cb σ))) := rfl
@[simp] theorem eMethK_ap {c : Nat} {fn : Fn} {n nk : Nat} {ix : List Nat} {o r rk : Ev} {σ : Sg} {h : IH} : eMethK c fn n nk ix o r rk σ h = ((o σ h).vb fun x h1 => recvS c x h1 ((r σ h1).vsb fun ws h2 => (rk σ h2).vsb fun zs h3 => lenO n ws (lenO nk zs ((fn (x :: ws ++ pick ix zs) h3).cb σ)))) := rfl
end Dr
set_option maxHeartbeats 4000000
/-! the law's own text, written by mk.py -/
namespace Dr.L
open PySem L2 PyProof.Rows Dr
def top (i : Nat) : Stmt := PySem.Challenge.pw_deadrules_k01_whole_documents_read.main.body.getD i (.Pass ⟨0, 0, 0, 0⟩)
def fnF : Nat → Str := fun i => (["", "value", "path", "limit", "", ""] : List Str).getD i ""
def clF (as : List Addr) : Nat → Addr := fun i => as.getD i 0
def nF : Nat := 100000
def is_bool : Kd → Bool
  | .non => false
  | .bl => true
  | .int => false
  | .str => false
  | .tup => false
  | .lst => false
  | .dic => false
theorem his_bool : ∀ g : Kd, kitB g.nm "bool" = some (is_bool g) := by intro g; cases g <;> decide +kernel
def is_int : Kd → Bool
  | .non => false
  | .bl => true
  | .int => true
  | .str => false
  | .tup => false
  | .lst => false
  | .dic => false
theorem his_int : ∀ g : Kd, kitB g.nm "int" = some (is_int g) := by intro g; cases g <;> decide +kernel
def is_str : Kd → Bool
  | .non => false
  | .bl => false
  | .int => false
  | .str => true
  | .tup => false
  | .lst => false
  | .dic => false
theorem his_str : ∀ g : Kd, kitB g.nm "str" = some (is_str g) := by intro g; cases g <;> decide +kernel
def is_tuple : Kd → Bool
  | .non => false
  | .bl => false
  | .int => false
  | .str => false
  | .tup => true
  | .lst => false
  | .dic => false
theorem his_tuple : ∀ g : Kd, kitB g.nm "tuple" = some (is_tuple g) := by intro g; cases g <;> decide +kernel
def cs4 : List Nat := [4]
def mt4_need_end_0 (cl : Nat → Fn) : Nat → Option (Fn × List W) := fun c => if c = 4 then some (cl 13, []) else none
def mt4_fail_0 (cl : Nat → Fn) : Nat → Option (Fn × List W) := fun c => if c = 4 then some (cl 6, []) else none
def mt4_is_sign_1 (cl : Nat → Fn) : Nat → Option (Fn × List W) := fun c => if c = 4 then some (cl 8, []) else none
def mt4_need_1 (cl : Nat → Fn) : Nat → Option (Fn × List W) := fun c => if c = 4 then some (cl 9, []) else none
def mt4_peek_0 (cl : Nat → Fn) : Nat → Option (Fn × List W) := fun c => if c = 4 then some (cl 7, []) else none
def mt4_read_name_0 (cl : Nat → Fn) : Nat → Option (Fn × List W) := fun c => if c = 4 then some (cl 11, []) else none
def mt4_is_start_0 (cl : Nat → Fn) : Nat → Option (Fn × List W) := fun c => if c = 4 then some (cl 10, []) else none
def tkO : Kd → Option Bool := fun _ => some false
def tsO5 : Nat → Option Bool := fun c => ([(5, true)] : List (Nat × Bool)).lookup c
structure Txt (P : Program) (G : Cfg) (D : Nat → Addr) (mg : Str → Option Value) : Prop where
  b_range : mg "range" = none
  b_len : mg "len" = none
  b_min : mg "min" = none
  b_max : mg "max" = none
  b_isinstance : mg "isinstance" = none
  b_tuple : mg "tuple" = none
  b_all : mg "all" = none
  b_int : mg "int" = none
  b_bool : mg "bool" = none
  b_sorted : mg "sorted" = none
  b_list : mg "list" = none
  b_str : mg "str" = none
  b_reversed : mg "reversed" = none
  b_enumerate : mg "enumerate" = none
  c_MOST_NODES : ∃ u, mg "MOST_NODES" = some u ∧ RelV (.int 200) u
  c_MOST_SIGNS : ∃ u, mg "MOST_SIGNS" = some u ∧ RelV (.int 8) u
  c_LETTERS : ∃ u, mg "LETTERS" = some u ∧ RelV (.str "abcdefghijklmnopqrstuvwxyz") u
  g__law_pool : mg "_law_pool" = some (.ref (D 35))
  k35 : PySem.W.keepIn G.K (.ref (D 35)) = true
  g__law_take : mg "_law_take" = some (.ref (D 36))
  k36 : PySem.W.keepIn G.K (.ref (D 36)) = true
  g__law_node : mg "_law_node" = some (.ref (D 37))
  k37 : PySem.W.keepIn G.K (.ref (D 37)) = true
  g__law_paths : mg "_law_paths" = some (.ref (D 39))
  k39 : PySem.W.keepIn G.K (.ref (D 39)) = true
  g__law_mixed : mg "_law_mixed" = some (.ref (D 41))
  k41 : PySem.W.keepIn G.K (.ref (D 41)) = true
  g_parse_document : mg "parse_document" = some (.ref (D 14))
  k14 : PySem.W.keepIn G.K (.ref (D 14)) = true
  g__law_text : mg "_law_text" = some (.ref (D 38))
  k38 : PySem.W.keepIn G.K (.ref (D 38)) = true
  g__law_every : mg "_law_every" = some (.ref (D 43))
  k43 : PySem.W.keepIn G.K (.ref (D 43)) = true
  g__law_nodes_right : mg "_law_nodes_right" = some (.ref (D 42))
  k42 : PySem.W.keepIn G.K (.ref (D 42)) = true
  g_is_integer : mg "is_integer" = some (.ref (D 4))
  k4 : PySem.W.keepIn G.K (.ref (D 4)) = true
  g__law_at : mg "_law_at" = some (.ref (D 40))
  k40 : PySem.W.keepIn G.K (.ref (D 40)) = true
  g_node_paths : mg "node_paths" = some (.ref (D 18))
  k18 : PySem.W.keepIn G.K (.ref (D 18)) = true
  g_node_text : mg "node_text" = some (.ref (D 17))
  k17 : PySem.W.keepIn G.K (.ref (D 17)) = true
  g_read_node : mg "read_node" = some (.ref (D 15))
  k15 : PySem.W.keepIn G.K (.ref (D 15)) = true
  g_read_head : mg "read_head" = some (.ref (D 16))
  k16 : PySem.W.keepIn G.K (.ref (D 16)) = true
  gc5 : mg "Document" = some (.ref (G.cl 5))
  gc4 : mg "TextReader" = some (.ref (G.cl 4))
  cl4 : Cls G.K (G.cl 4)
  na4_spot : NoAttr G.K (G.cl 4) "spot"
  na4_source : NoAttr G.K (G.cl 4) "source"
  sc5 : SlX.SCls G.K (G.cl 5)
  s5_paths : ∃ p, SlX.Slot1 G.K (G.cl 5) "paths" p 0
  s5_top : ∃ p, SlX.Slot1 G.K (G.cl 5) "top" p 1
  s5_written : ∃ p, SlX.Slot1 G.K (G.cl 5) "written" p 2
  me5_kind : Meth G.K (G.cl 5) "kind" (D 25)
  me5_marks : Meth G.K (G.cl 5) "marks" (D 26)
  me5_width : Meth G.K (G.cl 5) "width" (D 27)
  me5_part : Meth G.K (G.cl 5) "part" (D 28)
  me5_node : Meth G.K (G.cl 5) "node" (D 24)
  me4_need_end : Meth G.K (G.cl 4) "need_end" (D 13)
  me4_fail : Meth G.K (G.cl 4) "fail" (D 6)
  me4_is_sign : Meth G.K (G.cl 4) "is_sign" (D 8)
  me4_need : Meth G.K (G.cl 4) "need" (D 9)
  me4_peek : Meth G.K (G.cl 4) "peek" (D 7)
  me4_read_name : Meth G.K (G.cl 4) "read_name" (D 11)
  me4_is_start : Meth G.K (G.cl 4) "is_start" (D 10)
  pr5_text : ∃ p, PySem.W.findIn G.K (.ref (G.cl 5)) "text" = some (some (.ref p)) ∧ PySem.W.specialIn G.K (.ref p) "__get__" = some (some (.builtin "property.__get__")) ∧ PySem.W.takesIn G.K (.ref p) = some true ∧ ∃ rest, PySem.W.recIn G.K p "property" = some (.ref (D 20) :: rest)
  pr5_size : ∃ p, PySem.W.findIn G.K (.ref (G.cl 5)) "size" = some (some (.ref p)) ∧ PySem.W.specialIn G.K (.ref p) "__get__" = some (some (.builtin "property.__get__")) ∧ PySem.W.takesIn G.K (.ref p) = some true ∧ ∃ rest, PySem.W.recIn G.K p "property" = some (.ref (D 21) :: rest)
  ow5___eq__ : PySem.W.findIn G.K (.ref (G.cl 5)) "__eq__" = some (some (.ref (D 34))) ∧ PySem.W.isFn G.K (.ref (D 34)) = true
  ow5___contains__ : PySem.W.findIn G.K (.ref (G.cl 5)) "__contains__" = some (some (.ref (D 23))) ∧ PySem.W.isFn G.K (.ref (D 23)) = true
  oe5 : PySem.W.notFirst G.K (G.cl 5) (.type "int") = true ∧ PySem.W.notFirst G.K (G.cl 5) (.type "str") = true
  on5 : PySem.W.findIn G.K (.ref (G.cl 5)) "__ne__" = some (some (.builtin "object.__ne__")) ∧ PySem.W.mroIn G.K (G.cl 5) (.type "object") = some true
  ioS5 : ∀ c q, tsO5 c = some q → SlX.SCls G.K (G.cl c) ∧ SlX.SIsi G.K (G.cl c) ∧ PySem.W.kitOne G.K (.ref (G.cl c)) (.ref (G.cl 5)) = some q
  ioK5 : ∀ g q, tkO g = some q → PySem.W.kitOne G.K (.type (Kd.nm g)) (.ref (G.cl 5)) = some q
  mk5 : Mk G.K (G.cl 5) (D 19)
  mk4 : Mk G.K (G.cl 4) (D 5)
  x2 : ∃ fI B newId i bmB, PySem.XeX.XT P G.K mg (G.cl 2) fI "InvalidPath" (G.fn 2) B newId i bmB
  x3 : ∃ fI B newId i bmB, PySem.XeX.XT P G.K mg (G.cl 3) fI "LimitExceeded" (G.fn 3) B newId i bmB
  x1 : ∃ fI B newId i bmB, PySem.XeX.XT P G.K mg (G.cl 1) fI "InvalidText" (G.fn 1) B newId i bmB
  u35 : Dfn G "_law_pool" (top 20) ["_law_script", "_law_k"] [] (D 35)
  u36 : Dfn G "_law_take" (top 21) ["_law_pool_here", "_law_many"] [] (D 36)
  u37 : Dfn G "_law_node" (top 22) ["_law_pool_here", "_law_depth", "_law_kinds", "_law_marks"] [] (D 37)
  u39 : Dfn G "_law_paths" (top 24) ["_law_node_here", "_law_path_here"] [] (D 39)
  u14 : Dfn G "parse_document" (top 13) ["text"] [] (D 14)
  u41 : Dfn G "_law_mixed" (top 26) ["_law_pool_here", "_law_node_here"] [] (D 41)
  u20 : Dfn G "Document.text" (inClass (top 18) 2) ["self"] [] (D 20)
  u38 : Dfn G "_law_text" (top 23) ["_law_node_here"] [] (D 38)
  u21 : Dfn G "Document.size" (inClass (top 18) 3) ["self"] [] (D 21)
  u43 : Dfn G "_law_every" (top 28) ["_law_one"] [] (D 43)
  u42 : Dfn G "_law_nodes_right" (top 27) ["_law_document", "_law_node_here", "_law_paths_here"] [] (D 42)
  u34 : Dfn G "Document.__eq__" (inClass (top 18) 16) ["self", "other"] [] (D 34)
  u23 : Dfn G "Document.__contains__" (inClass (top 18) 5) ["self", "other"] [] (D 23)
  u4 : Dfn G "is_integer" (top 9) ["value"] [] (D 4)
  u40 : Dfn G "_law_at" (top 25) ["_law_node_here", "_law_path_here"] [] (D 40)
  u25 : Dfn G "Document.kind" (inClass (top 18) 7) ["self", "path"] [] (D 25)
  u26 : Dfn G "Document.marks" (inClass (top 18) 8) ["self", "path"] [] (D 26)
  u27 : Dfn G "Document.width" (inClass (top 18) 9) ["self", "path"] [] (D 27)
  u28 : Dfn G "Document.part" (inClass (top 18) 10) ["self", "path"] [] (D 28)
  u24 : Dfn G "Document.node" (inClass (top 18) 6) ["self", "path"] [] (D 24)
  u19 : Dfn G "Document.__init__" (inClass (top 18) 1) ["self", "top"] [] (D 19)
  u18 : Dfn G "node_paths" (top 17) ["node"] [] (D 18)
  u17 : Dfn G "node_text" (top 16) ["node"] [] (D 17)
  u5 : Dfn G "TextReader.__init__" (inClass (top 10) 0) ["self", "text"] [] (D 5)
  u15 : Dfn G "read_node" (top 14) ["reader"] [] (D 15)
  u13 : Dfn G "TextReader.need_end" (inClass (top 10) 8) ["self"] [] (D 13)
  u6 : Dfn G "TextReader.fail" (inClass (top 10) 1) ["self"] [] (D 6)
  u16 : Dfn G "read_head" (top 15) ["reader"] [] (D 16)
  u8 : Dfn G "TextReader.is_sign" (inClass (top 10) 3) ["self", "sign"] [] (D 8)
  u9 : Dfn G "TextReader.need" (inClass (top 10) 4) ["self", "sign"] [] (D 9)
  u7 : Dfn G "TextReader.peek" (inClass (top 10) 2) ["self"] [] (D 7)
  u11 : Dfn G "TextReader.read_name" (inClass (top 10) 6) ["self"] [] (D 11)
  u10 : Dfn G "TextReader.is_start" (inClass (top 10) 5) ["self"] [] (D 10)
  u14_k0 : DfnK G "parse_document" (top 13) ["text"] 0 ["text"] [0] (D 14)
  u26_k1 : DfnK G "Document.marks" (inClass (top 18) 8) ["self", "path"] 1 ["path"] [0] (D 26)
structure Al (P : Program) (w : World) (mg : Str → Option Value) (base : Heap) (G : Cfg) (k : Nat) (D : Nat → Addr) (cl : Nat → Fn) : Prop where
  f35 : FOkB P w mg base G k (D 35) (cl 35) []
  f36 : FOkB P w mg base G k (D 36) (cl 36) []
  f37 : FOkB P w mg base G k (D 37) (cl 37) []
  f39 : FOkB P w mg base G k (D 39) (cl 39) []
  f14 : FOkB P w mg base G k (D 14) (cl 14) []
  f41 : FOkB P w mg base G k (D 41) (cl 41) []
  f20 : FOkB P w mg base G k (D 20) (cl 20) []
  f38 : FOkB P w mg base G k (D 38) (cl 38) []
  f21 : FOkB P w mg base G k (D 21) (cl 21) []
  f43 : FOkB P w mg base G k (D 43) (cl 43) []
  f42 : FOkB P w mg base G k (D 42) (cl 42) []
  f34 : FOkB P w mg base G k (D 34) (cl 34) []
  f23 : FOkB P w mg base G k (D 23) (cl 23) []
  f4 : FOkB P w mg base G k (D 4) (cl 4) []
  f40 : FOkB P w mg base G k (D 40) (cl 40) []
  f25 : FOkB P w mg base G k (D 25) (cl 25) []
  f26 : FOkB P w mg base G k (D 26) (cl 26) []
  f27 : FOkB P w mg base G k (D 27) (cl 27) []
  f28 : FOkB P w mg base G k (D 28) (cl 28) []
  f24 : FOkB P w mg base G k (D 24) (cl 24) []
  f19 : FOkB P w mg base G k (D 19) (cl 19) []
  f18 : FOkB P w mg base G k (D 18) (cl 18) []
  f17 : FOkB P w mg base G k (D 17) (cl 17) []
  f5 : FOkB P w mg base G k (D 5) (cl 5) []
  f15 : FOkB P w mg base G k (D 15) (cl 15) []
  f13 : FOkB P w mg base G k (D 13) (cl 13) []
  f6 : FOkB P w mg base G k (D 6) (cl 6) []
  f16 : FOkB P w mg base G k (D 16) (cl 16) []
  f8 : FOkB P w mg base G k (D 8) (cl 8) []
  f9 : FOkB P w mg base G k (D 9) (cl 9) []
  f7 : FOkB P w mg base G k (D 7) (cl 7) []
  f11 : FOkB P w mg base G k (D 11) (cl 11) []
  f10 : FOkB P w mg base G k (D 10) (cl 10) []
  f14_k0 : FOkBK P w mg base G k (D 14) (cl 14) 0 ["text"] [0]
  f26_k1 : FOkBK P w mg base G k (D 26) (cl 26) 1 ["path"] [0]
section
variable {P : Program} {w : World} {mg : Str → Option Value} {base : Heap} {G : Cfg} {k : Nat} {D : Nat → Addr} {cl : Nat → Fn} {fd : FuncData}
theorem fo4_spot (T : Txt P G D mg) : ∀ c ∈ cs4, Cls G.K (G.cl c) ∧ NoAttr G.K (G.cl c) "spot" := by
  intro c hc
  simp only [cs4, List.mem_cons, List.not_mem_nil, or_false] at hc
  rcases hc with rfl
  · exact ⟨T.cl4, T.na4_spot⟩
theorem fo4_source (T : Txt P G D mg) : ∀ c ∈ cs4, Cls G.K (G.cl c) ∧ NoAttr G.K (G.cl c) "source" := by
  intro c hc
  simp only [cs4, List.mem_cons, List.not_mem_nil, or_false] at hc
  rcases hc with rfl
  · exact ⟨T.cl4, T.na4_source⟩
theorem mo4_need_end_0 (T : Txt P G D mg) (A : Al P w mg base G k D cl) : ∀ c fn dw, mt4_need_end_0 cl c = some (fn, dw) → ∃ f, Cls G.K (G.cl c) ∧ Meth G.K (G.cl c) "need_end" f ∧ FOkB P w mg base G (k + 1) f fn dw := by
  intro c fn dw h
  unfold mt4_need_end_0 at h
  split at h
  · rename_i e; subst e; cases h; exact ⟨_, T.cl4, T.me4_need_end, A.f13.up⟩
  · cases h
theorem mo4_fail_0 (T : Txt P G D mg) (A : Al P w mg base G k D cl) : ∀ c fn dw, mt4_fail_0 cl c = some (fn, dw) → ∃ f, Cls G.K (G.cl c) ∧ Meth G.K (G.cl c) "fail" f ∧ FOkB P w mg base G (k + 1) f fn dw := by
  intro c fn dw h
  unfold mt4_fail_0 at h
  split at h
  · rename_i e; subst e; cases h; exact ⟨_, T.cl4, T.me4_fail, A.f6.up⟩
  · cases h
theorem mo4_is_sign_1 (T : Txt P G D mg) (A : Al P w mg base G k D cl) : ∀ c fn dw, mt4_is_sign_1 cl c = some (fn, dw) → ∃ f, Cls G.K (G.cl c) ∧ Meth G.K (G.cl c) "is_sign" f ∧ FOkB P w mg base G (k + 1) f fn dw := by
  intro c fn dw h
  unfold mt4_is_sign_1 at h
  split at h
  · rename_i e; subst e; cases h; exact ⟨_, T.cl4, T.me4_is_sign, A.f8.up⟩
  · cases h
theorem mo4_need_1 (T : Txt P G D mg) (A : Al P w mg base G k D cl) : ∀ c fn dw, mt4_need_1 cl c = some (fn, dw) → ∃ f, Cls G.K (G.cl c) ∧ Meth G.K (G.cl c) "need" f ∧ FOkB P w mg base G (k + 1) f fn dw := by
  intro c fn dw h
  unfold mt4_need_1 at h
  split at h
  · rename_i e; subst e; cases h; exact ⟨_, T.cl4, T.me4_need, A.f9.up⟩
  · cases h
theorem mo4_peek_0 (T : Txt P G D mg) (A : Al P w mg base G k D cl) : ∀ c fn dw, mt4_peek_0 cl c = some (fn, dw) → ∃ f, Cls G.K (G.cl c) ∧ Meth G.K (G.cl c) "peek" f ∧ FOkB P w mg base G (k + 1) f fn dw := by
  intro c fn dw h
  unfold mt4_peek_0 at h
  split at h
  · rename_i e; subst e; cases h; exact ⟨_, T.cl4, T.me4_peek, A.f7.up⟩
  · cases h
theorem mo4_read_name_0 (T : Txt P G D mg) (A : Al P w mg base G k D cl) : ∀ c fn dw, mt4_read_name_0 cl c = some (fn, dw) → ∃ f, Cls G.K (G.cl c) ∧ Meth G.K (G.cl c) "read_name" f ∧ FOkB P w mg base G (k + 1) f fn dw := by
  intro c fn dw h
  unfold mt4_read_name_0 at h
  split at h
  · rename_i e; subst e; cases h; exact ⟨_, T.cl4, T.me4_read_name, A.f11.up⟩
  · cases h
theorem mo4_is_start_0 (T : Txt P G D mg) (A : Al P w mg base G k D cl) : ∀ c fn dw, mt4_is_start_0 cl c = some (fn, dw) → ∃ f, Cls G.K (G.cl c) ∧ Meth G.K (G.cl c) "is_start" f ∧ FOkB P w mg base G (k + 1) f fn dw := by
  intro c fn dw h
  unfold mt4_is_start_0 at h
  split at h
  · rename_i e; subst e; cases h; exact ⟨_, T.cl4, T.me4_is_start, A.f10.up⟩
  · cases h
theorem sc4 : FnScope ["value"] ["value"] (defScope (top 9)) := ⟨rfl, rfl, rfl, by decide +kernel, rfl, by decide +kernel, by decide +kernel⟩
def b4 (cl : Nat → Fn) (nF : Nat) : Ev :=
  (eRet (eAnd (eIsi is_int (eLoc 0)) (eNot (eIsi is_bool (eLoc 0)))))
theorem ok4 {nF : Nat} (T : Txt P G D mg) (hx : G.xs = none ∧ G.xd = none) (A : Al P w mg base G k D cl) (u : DefAt G.K "is_integer" (top 9) (D 4) fd) :
    FnG P w G.K mg base (k + 2) (D 4) fd ["value"] (spC G (["value"] : List Str).length (fnOf (["value"] : List Str).length (["value"] : List Str).length (b4 cl nF))) := by
  refine fn_ok (G := G) (P := P) (w := w) (K := G.K) (mg := mg) (base := base) (qual := "is_integer") (st := (top 9)) (f := D 4) (fd := fd) (N := ["value"]) (ps := ["value"]) (k := k + 1) (body := b4 cl nF) u sc4 (by decide) hx ?_
  intro cdv Ar outer s H E gd hr
  have F := fit_of (G := G) (k := k + 1) (P := P) (w := w) (mg := mg) (base := base) (N := ["value"]) (qual := "is_integer") (st := (top 9)) (f := D 4) (cdv := cdv) (A := Ar) (outer := outer) (s := s) (H := H) (E := E) rfl hx.1 gd hr
  exact (b_one (v_ret (s_and (s_isi (T := "int") F.lit his_int (s_loc 0) T.b_isinstance T.b_int (by decide +kernel)) (s_one (s_not (s_isi (T := "bool") F.lit his_bool (s_loc 0) T.b_isinstance T.b_bool (by decide +kernel)))))))
theorem sc5 : FnScope ["self", "text"] ["self", "text"] (defScope (inClass (top 10) 0)) := ⟨rfl, rfl, rfl, by decide +kernel, rfl, by decide +kernel, by decide +kernel⟩
def b5 (cl : Nat → Fn) (nF : Nat) : Ev :=
  (eSeq (eSetF cs4 "source" (eLoc 0) (eLoc 1))
    (eSetF cs4 "spot" (eLoc 0) (eK (.int 0))))
theorem ok5 {nF : Nat} (T : Txt P G D mg) (hx : G.xs = none ∧ G.xd = none) (A : Al P w mg base G k D cl) (u : DefAt G.K "TextReader.__init__" (inClass (top 10) 0) (D 5) fd) :
    FnG P w G.K mg base (k + 2) (D 5) fd ["self", "text"] (spC G (["self", "text"] : List Str).length (fnOf (["self", "text"] : List Str).length (["self", "text"] : List Str).length (b5 cl nF))) := by
  refine fn_ok (G := G) (P := P) (w := w) (K := G.K) (mg := mg) (base := base) (qual := "TextReader.__init__") (st := (inClass (top 10) 0)) (f := D 5) (fd := fd) (N := ["self", "text"]) (ps := ["self", "text"]) (k := k + 1) (body := b5 cl nF) u sc5 (by decide) hx ?_
  intro cdv Ar outer s H E gd hr
  have F := fit_of (G := G) (k := k + 1) (P := P) (w := w) (mg := mg) (base := base) (N := ["self", "text"]) (qual := "TextReader.__init__") (st := (inClass (top 10) 0)) (f := D 5) (cdv := cdv) (A := Ar) (outer := outer) (s := s) (H := H) (E := E) rfl hx.1 gd hr
  exact (b_cons (v_setF F (fo4_source T) (s_loc 0) (s_loc 1))
    (b_one (v_setF F (fo4_spot T) (s_loc 0) s_int)))
theorem sc6 : FnScope ["self"] ["self"] (defScope (inClass (top 10) 1)) := ⟨rfl, rfl, rfl, by decide +kernel, rfl, by decide +kernel, by decide +kernel⟩
def b6 (cl : Nat → Fn) (nF : Nat) : Ev :=
  (eRaise 1 (eFld cs4 "source" (eLoc 0)))
theorem ok6 {nF : Nat} (T : Txt P G D mg) (hx : G.xs = none ∧ G.xd = none) (A : Al P w mg base G k D cl) (u : DefAt G.K "TextReader.fail" (inClass (top 10) 1) (D 6) fd) :
    FnG P w G.K mg base (k + 2) (D 6) fd ["self"] (spC G (["self"] : List Str).length (fnOf (["self"] : List Str).length (["self"] : List Str).length (b6 cl nF))) := by
  refine fn_ok (G := G) (P := P) (w := w) (K := G.K) (mg := mg) (base := base) (qual := "TextReader.fail") (st := (inClass (top 10) 1)) (f := D 6) (fd := fd) (N := ["self"]) (ps := ["self"]) (k := k + 1) (body := b6 cl nF) u sc6 (by decide) hx ?_
  intro cdv Ar outer s H E gd hr
  have F := fit_of (G := G) (k := k + 1) (P := P) (w := w) (mg := mg) (base := base) (N := ["self"]) (qual := "TextReader.fail") (st := (inClass (top 10) 1)) (f := D 6) (cdv := cdv) (A := Ar) (outer := outer) (s := s) (H := H) (E := E) rfl hx.1 gd hr
  exact (b_one (v_raise F T.x1 (s_fld F (fo4_source T) (s_loc 0))))
theorem sc7 : FnScope ["self"] ["self"] (defScope (inClass (top 10) 2)) := ⟨rfl, rfl, rfl, by decide +kernel, rfl, by decide +kernel, by decide +kernel⟩
def b7 (cl : Nat → Fn) (nF : Nat) : Ev :=
  (eRet (eSl (eFld cs4 "source" (eLoc 0)) (eInt (eFld cs4 "spot" (eLoc 0))) (eInt (eBin oAdd (eFld cs4 "spot" (eLoc 0)) (eK (.int 1))))))
theorem ok7 {nF : Nat} (T : Txt P G D mg) (hx : G.xs = none ∧ G.xd = none) (A : Al P w mg base G k D cl) (u : DefAt G.K "TextReader.peek" (inClass (top 10) 2) (D 7) fd) :
    FnG P w G.K mg base (k + 2) (D 7) fd ["self"] (spC G (["self"] : List Str).length (fnOf (["self"] : List Str).length (["self"] : List Str).length (b7 cl nF))) := by
  refine fn_ok (G := G) (P := P) (w := w) (K := G.K) (mg := mg) (base := base) (qual := "TextReader.peek") (st := (inClass (top 10) 2)) (f := D 7) (fd := fd) (N := ["self"]) (ps := ["self"]) (k := k + 1) (body := b7 cl nF) u sc7 (by decide) hx ?_
  intro cdv Ar outer s H E gd hr
  have F := fit_of (G := G) (k := k + 1) (P := P) (w := w) (mg := mg) (base := base) (N := ["self"]) (qual := "TextReader.peek") (st := (inClass (top 10) 2)) (f := D 7) (cdv := cdv) (A := Ar) (outer := outer) (s := s) (H := H) (E := E) rfl hx.1 gd hr
  exact (b_one (v_ret (s_sl F (s_fld F (fo4_source T) (s_loc 0)) (o_some (s_fld F (fo4_spot T) (s_loc 0))) (o_some (s_bin (so_add F) (s_fld F (fo4_spot T) (s_loc 0)) s_int)))))
theorem sc8 : FnScope ["self", "sign"] ["self", "sign"] (defScope (inClass (top 10) 3)) := ⟨rfl, rfl, rfl, by decide +kernel, rfl, by decide +kernel, by decide +kernel⟩
def b8 (cl : Nat → Fn) (nF : Nat) : Ev :=
  (eSeq (eIfS (eBin oEq (eMeth "peek" (mt4_peek_0 cl) (eLoc 0) eNil) (eLoc 1)) (eSeq (eAugF cs4 "spot" (eLoc 0) (eK (.int 1)))
    (eRet (eK (.bl true)))) eEnd)
    (eRet (eK (.bl false))))
theorem ok8 {nF : Nat} (T : Txt P G D mg) (hx : G.xs = none ∧ G.xd = none) (A : Al P w mg base G k D cl) (u : DefAt G.K "TextReader.is_sign" (inClass (top 10) 3) (D 8) fd) :
    FnG P w G.K mg base (k + 2) (D 8) fd ["self", "sign"] (spC G (["self", "sign"] : List Str).length (fnOf (["self", "sign"] : List Str).length (["self", "sign"] : List Str).length (b8 cl nF))) := by
  refine fn_ok (G := G) (P := P) (w := w) (K := G.K) (mg := mg) (base := base) (qual := "TextReader.is_sign") (st := (inClass (top 10) 3)) (f := D 8) (fd := fd) (N := ["self", "sign"]) (ps := ["self", "sign"]) (k := k + 1) (body := b8 cl nF) u sc8 (by decide) hx ?_
  intro cdv Ar outer s H E gd hr
  have F := fit_of (G := G) (k := k + 1) (P := P) (w := w) (mg := mg) (base := base) (N := ["self", "sign"]) (qual := "TextReader.is_sign") (st := (inClass (top 10) 3)) (f := D 8) (cdv := cdv) (A := Ar) (outer := outer) (s := s) (H := H) (E := E) rfl hx.1 gd hr
  exact (b_cons (v_if (t_cmp (so_eq F) (s_meth0 F (mo4_peek_0 T A) (s_loc 0)) (s_loc 1)) (b_cons (v_augF F (fo4_spot T) (s_loc 0) s_int)
    (b_one (v_ret s_bl))) b_end)
    (b_one (v_ret s_bl)))
theorem sc9 : FnScope ["self", "sign"] ["self", "sign"] (defScope (inClass (top 10) 4)) := ⟨rfl, rfl, rfl, by decide +kernel, rfl, by decide +kernel, by decide +kernel⟩
def b9 (cl : Nat → Fn) (nF : Nat) : Ev :=
  (eIfS (eNot (eMeth "is_sign" (mt4_is_sign_1 cl) (eLoc 0) (eCons (eLoc 1) eNil))) (eDrop (eMeth "fail" (mt4_fail_0 cl) (eLoc 0) eNil)) eEnd)
theorem ok9 {nF : Nat} (T : Txt P G D mg) (hx : G.xs = none ∧ G.xd = none) (A : Al P w mg base G k D cl) (u : DefAt G.K "TextReader.need" (inClass (top 10) 4) (D 9) fd) :
    FnG P w G.K mg base (k + 2) (D 9) fd ["self", "sign"] (spC G (["self", "sign"] : List Str).length (fnOf (["self", "sign"] : List Str).length (["self", "sign"] : List Str).length (b9 cl nF))) := by
  refine fn_ok (G := G) (P := P) (w := w) (K := G.K) (mg := mg) (base := base) (qual := "TextReader.need") (st := (inClass (top 10) 4)) (f := D 9) (fd := fd) (N := ["self", "sign"]) (ps := ["self", "sign"]) (k := k + 1) (body := b9 cl nF) u sc9 (by decide) hx ?_
  intro cdv Ar outer s H E gd hr
  have F := fit_of (G := G) (k := k + 1) (P := P) (w := w) (mg := mg) (base := base) (N := ["self", "sign"]) (qual := "TextReader.need") (st := (inClass (top 10) 4)) (f := D 9) (cdv := cdv) (A := Ar) (outer := outer) (s := s) (H := H) (E := E) rfl hx.1 gd hr
  exact (b_one (v_if (t_not (t_val (s_meth F (mo4_is_sign_1 T A) (s_loc 0) (a_cons (s_loc 1) a_nil)))) (b_one (v_drop (s_meth0 F (mo4_fail_0 T A) (s_loc 0)))) b_end))
theorem sc10 : FnScope ["self"] ["self"] (defScope (inClass (top 10) 5)) := ⟨rfl, rfl, rfl, by decide +kernel, rfl, by decide +kernel, by decide +kernel⟩
def b10 (cl : Nat → Fn) (nF : Nat) : Ev :=
  (eRet (eAnd (eBin oNe (eMeth "peek" (mt4_peek_0 cl) (eLoc 0) eNil) (eK (.str ""))) (eBin oIn (eMeth "peek" (mt4_peek_0 cl) (eLoc 0) eNil) (eK (.str "abcdefghijklmnopqrstuvwxyz")))))
theorem ok10 {nF : Nat} (T : Txt P G D mg) (hx : G.xs = none ∧ G.xd = none) (A : Al P w mg base G k D cl) (u : DefAt G.K "TextReader.is_start" (inClass (top 10) 5) (D 10) fd) :
    FnG P w G.K mg base (k + 2) (D 10) fd ["self"] (spC G (["self"] : List Str).length (fnOf (["self"] : List Str).length (["self"] : List Str).length (b10 cl nF))) := by
  refine fn_ok (G := G) (P := P) (w := w) (K := G.K) (mg := mg) (base := base) (qual := "TextReader.is_start") (st := (inClass (top 10) 5)) (f := D 10) (fd := fd) (N := ["self"]) (ps := ["self"]) (k := k + 1) (body := b10 cl nF) u sc10 (by decide) hx ?_
  intro cdv Ar outer s H E gd hr
  have F := fit_of (G := G) (k := k + 1) (P := P) (w := w) (mg := mg) (base := base) (N := ["self"]) (qual := "TextReader.is_start") (st := (inClass (top 10) 5)) (f := D 10) (cdv := cdv) (A := Ar) (outer := outer) (s := s) (H := H) (E := E) rfl hx.1 gd hr
  exact (b_one (v_ret (s_and (s_cmp (so_ne F) (s_meth0 F (mo4_peek_0 T A) (s_loc 0)) s_str) (s_one (s_cmp (so_in F) (s_meth0 F (mo4_peek_0 T A) (s_loc 0)) (s_glob (w := (.str "abcdefghijklmnopqrstuvwxyz")) (v := (.str "abcdefghijklmnopqrstuvwxyz")) T.c_LETTERS.choose_spec.1 T.c_LETTERS.choose_spec.2 (fun _ _ _ => .str _)))))))
theorem sc11 : FnScope ["self", "begin"] ["self"] (defScope (inClass (top 10) 6)) := ⟨rfl, rfl, rfl, by decide +kernel, rfl, by decide +kernel, by decide +kernel⟩
def b11 (cl : Nat → Fn) (nF : Nat) : Ev :=
  (eSeq (eAsg (gN 1) (eFld cs4 "spot" (eLoc 0)))
    (eSeq (eWhl (eMeth "is_start" (mt4_is_start_0 cl) (eLoc 0) eNil) (eSeq (eIfS (eBin oEq (eBin oSub (eFld cs4 "spot" (eLoc 0)) (eLoc 1)) (eK (.int 8))) (eDrop (eMeth "fail" (mt4_fail_0 cl) (eLoc 0) eNil)) eEnd)
    (eAugF cs4 "spot" (eLoc 0) (eK (.int 1)))) nF)
    (eSeq (eIfS (eBin oEq (eFld cs4 "spot" (eLoc 0)) (eLoc 1)) (eDrop (eMeth "fail" (mt4_fail_0 cl) (eLoc 0) eNil)) eEnd)
    (eRet (eSl (eFld cs4 "source" (eLoc 0)) (eInt (eLoc 1)) (eInt (eFld cs4 "spot" (eLoc 0))))))))
theorem ok11 {nF : Nat} (T : Txt P G D mg) (hx : G.xs = none ∧ G.xd = none) (A : Al P w mg base G k D cl) (u : DefAt G.K "TextReader.read_name" (inClass (top 10) 6) (D 11) fd) :
    FnG P w G.K mg base (k + 2) (D 11) fd ["self"] (spC G (["self"] : List Str).length (fnOf (["self"] : List Str).length (["self", "begin"] : List Str).length (b11 cl nF))) := by
  refine fn_ok (G := G) (P := P) (w := w) (K := G.K) (mg := mg) (base := base) (qual := "TextReader.read_name") (st := (inClass (top 10) 6)) (f := D 11) (fd := fd) (N := ["self", "begin"]) (ps := ["self"]) (k := k + 1) (body := b11 cl nF) u sc11 (by decide) hx ?_
  intro cdv Ar outer s H E gd hr
  have F := fit_of (G := G) (k := k + 1) (P := P) (w := w) (mg := mg) (base := base) (N := ["self", "begin"]) (qual := "TextReader.read_name") (st := (inClass (top 10) 6)) (f := D 11) (cdv := cdv) (A := Ar) (outer := outer) (s := s) (H := H) (E := E) rfl hx.1 gd hr
  exact (b_cons (v_set 1 (s_fld F (fo4_spot T) (s_loc 0)) sc11.nd)
    (b_cons (v_while nF F (t_val (s_meth0 F (mo4_is_start_0 T A) (s_loc 0))) (b_cons (v_if (t_cmp (so_eq F) (s_bin so_sub (s_fld F (fo4_spot T) (s_loc 0)) (s_loc 1)) (s_glob (w := (.int 8)) (v := (.int 8)) T.c_MOST_SIGNS.choose_spec.1 T.c_MOST_SIGNS.choose_spec.2 (fun _ _ _ => .int _))) (b_one (v_drop (s_meth0 F (mo4_fail_0 T A) (s_loc 0)))) b_end)
    (b_one (v_augF F (fo4_spot T) (s_loc 0) s_int))))
    (b_cons (v_if (t_cmp (so_eq F) (s_fld F (fo4_spot T) (s_loc 0)) (s_loc 1)) (b_one (v_drop (s_meth0 F (mo4_fail_0 T A) (s_loc 0)))) b_end)
    (b_one (v_ret (s_sl F (s_fld F (fo4_source T) (s_loc 0)) (o_some (s_loc 1)) (o_some (s_fld F (fo4_spot T) (s_loc 0)))))))))
theorem sc13 : FnScope ["self"] ["self"] (defScope (inClass (top 10) 8)) := ⟨rfl, rfl, rfl, by decide +kernel, rfl, by decide +kernel, by decide +kernel⟩
def b13 (cl : Nat → Fn) (nF : Nat) : Ev :=
  (eIfS (eBin oLt (eFld cs4 "spot" (eLoc 0)) (eBlt bLen (eCons (eFld cs4 "source" (eLoc 0)) eNil))) (eDrop (eMeth "fail" (mt4_fail_0 cl) (eLoc 0) eNil)) eEnd)
theorem ok13 {nF : Nat} (T : Txt P G D mg) (hx : G.xs = none ∧ G.xd = none) (A : Al P w mg base G k D cl) (u : DefAt G.K "TextReader.need_end" (inClass (top 10) 8) (D 13) fd) :
    FnG P w G.K mg base (k + 2) (D 13) fd ["self"] (spC G (["self"] : List Str).length (fnOf (["self"] : List Str).length (["self"] : List Str).length (b13 cl nF))) := by
  refine fn_ok (G := G) (P := P) (w := w) (K := G.K) (mg := mg) (base := base) (qual := "TextReader.need_end") (st := (inClass (top 10) 8)) (f := D 13) (fd := fd) (N := ["self"]) (ps := ["self"]) (k := k + 1) (body := b13 cl nF) u sc13 (by decide) hx ?_
  intro cdv Ar outer s H E gd hr
  have F := fit_of (G := G) (k := k + 1) (P := P) (w := w) (mg := mg) (base := base) (N := ["self"]) (qual := "TextReader.need_end") (st := (inClass (top 10) 8)) (f := D 13) (cdv := cdv) (A := Ar) (outer := outer) (s := s) (H := H) (E := E) rfl hx.1 gd hr
  exact (b_one (v_if (t_cmp so_lt (s_fld F (fo4_spot T) (s_loc 0)) (s_blt (c_len F.K) T.b_len PySem.boot_len (a_cons (s_fld F (fo4_source T) (s_loc 0)) a_nil))) (b_one (v_drop (s_meth0 F (mo4_fail_0 T A) (s_loc 0)))) b_end))
theorem sc14 : FnScope ["text", "reader", "found", "many"] ["text"] (defScope (top 13)) := ⟨rfl, rfl, rfl, by decide +kernel, rfl, by decide +kernel, by decide +kernel⟩
def b14 (cl : Nat → Fn) (nF : Nat) : Ev :=
  (eSeq (eIfS (eNot (eIsi is_str (eLoc 0))) (eRaise 1 (eLoc 0)) eEnd)
    (eSeq (eAsg (gN 1) (eNew false 4 (cl 5) [] (eCons (eLoc 0) eNil)))
    (eSeq (eAsg (gT [2, 3]) (eCall (cl 15) [] (eCons (eLoc 1) eNil)))
    (eSeq (eDrop (eMeth "need_end" (mt4_need_end_0 cl) (eLoc 1) eNil))
    (eSeq (eIfS (eBin oGt (eLoc 3) (eK (.int 200))) (eRaise 3 (eK (.int 200))) eEnd)
    (eRet (eNew true 5 (cl 19) [] (eCons (eLoc 2) eNil))))))))
theorem ok14 {nF : Nat} (T : Txt P G D mg) (hx : G.xs = none ∧ G.xd = none) (A : Al P w mg base G k D cl) (u : DefAt G.K "parse_document" (top 13) (D 14) fd) :
    FnG P w G.K mg base (k + 2) (D 14) fd ["text"] (spC G (["text"] : List Str).length (fnOf (["text"] : List Str).length (["text", "reader", "found", "many"] : List Str).length (b14 cl nF))) := by
  refine fn_ok (G := G) (P := P) (w := w) (K := G.K) (mg := mg) (base := base) (qual := "parse_document") (st := (top 13)) (f := D 14) (fd := fd) (N := ["text", "reader", "found", "many"]) (ps := ["text"]) (k := k + 1) (body := b14 cl nF) u sc14 (by decide) hx ?_
  intro cdv Ar outer s H E gd hr
  have F := fit_of (G := G) (k := k + 1) (P := P) (w := w) (mg := mg) (base := base) (N := ["text", "reader", "found", "many"]) (qual := "parse_document") (st := (top 13)) (f := D 14) (cdv := cdv) (A := Ar) (outer := outer) (s := s) (H := H) (E := E) rfl hx.1 gd hr
  exact (b_cons (v_if (t_not (t_val (s_isi (T := "str") F.lit his_str (s_loc 0) T.b_isinstance T.b_str (by decide +kernel)))) (b_one (v_raise F T.x1 (s_loc 0))) b_end)
    (b_cons (v_set 1 (s_new F T.mk4 A.f5 T.gc4 (a_cons (s_loc 0) a_nil)) sc14.nd)
    (b_cons (v_asg (s_call F A.f15.up T.g_read_node T.k15 (a_cons (s_loc 1) a_nil)) (g_tup F (gs_cons 2 (gs_cons 3 gs_nil sc14.nd) sc14.nd)))
    (b_cons (v_drop (s_meth0 F (mo4_need_end_0 T A) (s_loc 1)))
    (b_cons (v_if (t_cmp so_gt (s_loc 3) (s_glob (w := (.int 200)) (v := (.int 200)) T.c_MOST_NODES.choose_spec.1 T.c_MOST_NODES.choose_spec.2 (fun _ _ _ => .int _))) (b_one (v_raise F T.x3 (s_glob (w := (.int 200)) (v := (.int 200)) T.c_MOST_NODES.choose_spec.1 T.c_MOST_NODES.choose_spec.2 (fun _ _ _ => .int _)))) b_end)
    (b_one (v_ret (s_new F T.mk5 A.f19 T.gc5 (a_cons (s_loc 2) a_nil)))))))))
theorem sc15 : FnScope ["reader", "stack", "node", "many"] ["reader"] (defScope (top 14)) := ⟨rfl, rfl, rfl, by decide +kernel, rfl, by decide +kernel, by decide +kernel⟩
def b15 (cl : Nat → Fn) (nF : Nat) : Ev :=
  (eSeq (eAsg (gN 1) (eLst eNil))
    (eSeq (eAsg (gN 2) (eCall (cl 16) [] (eCons (eLoc 0) eNil)))
    (eSeq (eAsg (gN 3) (eK (.int 1)))
    (eWhl (eK (.bl true)) (eSeq (eIfS (eMeth "is_sign" (mt4_is_sign_1 cl) (eLoc 0) (eCons (eK (.str "(")) eNil)) (eSeq (eDrop (eBM "list" mAppend (eLoc 1) (eCons (eLoc 2) eNil)))
    (eSeq (eAsg (gN 2) (eCall (cl 16) [] (eCons (eLoc 0) eNil)))
    (eSeq (eAug 3 oAddX (eK (.int 1)))
    eCnt))) eEnd)
    (eSeq (eWhl (eAnd (eBin oNe (eLoc 1) (eLst eNil)) (eMeth "is_sign" (mt4_is_sign_1 cl) (eLoc 0) (eCons (eK (.str ")")) eNil))) (eSeq (eDrop (eBM "list" mAppend (eBin oIx (eBin oIx (eLoc 1) (eNeg (eK (.int 1)))) (eK (.int 2))) (eCons (eLoc 2) eNil)))
    (eAsg (gN 2) (eBM "list" mPop (eLoc 1) eNil))) nF)
    (eSeq (eIfS (eBin oEq (eLoc 1) (eLst eNil)) (eRet (eTup (eCons (eLoc 2) (eCons (eLoc 3) eNil)))) eEnd)
    (eSeq (eDrop (eMeth "need" (mt4_need_1 cl) (eLoc 0) (eCons (eK (.str ",")) eNil)))
    (eSeq (eDrop (eBM "list" mAppend (eBin oIx (eBin oIx (eLoc 1) (eNeg (eK (.int 1)))) (eK (.int 2))) (eCons (eLoc 2) eNil)))
    (eSeq (eAsg (gN 2) (eCall (cl 16) [] (eCons (eLoc 0) eNil)))
    (eAug 3 oAddX (eK (.int 1))))))))) nF))))
theorem ok15 {nF : Nat} (T : Txt P G D mg) (hx : G.xs = none ∧ G.xd = none) (A : Al P w mg base G k D cl) (u : DefAt G.K "read_node" (top 14) (D 15) fd) :
    FnG P w G.K mg base (k + 2) (D 15) fd ["reader"] (spC G (["reader"] : List Str).length (fnOf (["reader"] : List Str).length (["reader", "stack", "node", "many"] : List Str).length (b15 cl nF))) := by
  refine fn_ok (G := G) (P := P) (w := w) (K := G.K) (mg := mg) (base := base) (qual := "read_node") (st := (top 14)) (f := D 15) (fd := fd) (N := ["reader", "stack", "node", "many"]) (ps := ["reader"]) (k := k + 1) (body := b15 cl nF) u sc15 (by decide) hx ?_
  intro cdv Ar outer s H E gd hr
  have F := fit_of (G := G) (k := k + 1) (P := P) (w := w) (mg := mg) (base := base) (N := ["reader", "stack", "node", "many"]) (qual := "read_node") (st := (top 14)) (f := D 15) (cdv := cdv) (A := Ar) (outer := outer) (s := s) (H := H) (E := E) rfl hx.1 gd hr
  exact (b_cons (v_set 1 (s_lst a_nil) sc15.nd)
    (b_cons (v_set 2 (s_call F A.f16.up T.g_read_head T.k16 (a_cons (s_loc 0) a_nil)) sc15.nd)
    (b_cons (v_set 3 s_int sc15.nd)
    (b_one (v_while nF F (t_val s_bl) (b_cons (v_if (t_val (s_meth F (mo4_is_sign_1 T A) (s_loc 0) (a_cons s_str a_nil))) (b_cons (v_drop (s_bm F PySem.F.plainAttrs_list PySem.F.slot_list_append PySem.F.type_list_append m_append (s_loc 1) (a_cons (s_loc 2) a_nil)))
    (b_cons (v_set 2 (s_call F A.f16.up T.g_read_head T.k16 (a_cons (s_loc 0) a_nil)) sc15.nd)
    (b_cons (v_augX 3 s_int sc15.nd)
    (b_one v_cnt)))) b_end)
    (b_cons (v_while nF F (t_p (p_and (t_cmp (so_ne F) (s_loc 1) (s_lst a_nil)) (p_and1 (t_val (s_meth F (mo4_is_sign_1 T A) (s_loc 0) (a_cons s_str a_nil)))))) (b_cons (v_drop (s_bm F PySem.F.plainAttrs_list PySem.F.slot_list_append PySem.F.type_list_append m_append (s_ix F (s_ix F (s_loc 1) (s_neg s_int)) s_int) (a_cons (s_loc 2) a_nil)))
    (b_one (v_set 2 (s_bm0 F PySem.F.plainAttrs_list PySem.F.slot_list_pop PySem.F.type_list_pop m_pop (s_loc 1)) sc15.nd))))
    (b_cons (v_if (t_cmp (so_eq F) (s_loc 1) (s_lst a_nil)) (b_one (v_ret (s_tup (a_cons (s_loc 2) (a_cons (s_loc 3) a_nil))))) b_end)
    (b_cons (v_drop (s_meth F (mo4_need_1 T A) (s_loc 0) (a_cons s_str a_nil)))
    (b_cons (v_drop (s_bm F PySem.F.plainAttrs_list PySem.F.slot_list_append PySem.F.type_list_append m_append (s_ix F (s_ix F (s_loc 1) (s_neg s_int)) s_int) (a_cons (s_loc 2) a_nil)))
    (b_cons (v_set 2 (s_call F A.f16.up T.g_read_head T.k16 (a_cons (s_loc 0) a_nil)) sc15.nd)
    (b_one (v_augX 3 s_int sc15.nd)))))))))))))
theorem sc16 : FnScope ["reader", "kind", "marks", "mark"] ["reader"] (defScope (top 15)) := ⟨rfl, rfl, rfl, by decide +kernel, rfl, by decide +kernel, by decide +kernel⟩
def b16 (cl : Nat → Fn) (nF : Nat) : Ev :=
  (eSeq (eAsg (gN 1) (eMeth "read_name" (mt4_read_name_0 cl) (eLoc 0) eNil))
    (eSeq (eAsg (gN 2) (eLst eNil))
    (eSeq (eWhl (eMeth "is_sign" (mt4_is_sign_1 cl) (eLoc 0) (eCons (eK (.str ".")) eNil)) (eSeq (eAsg (gN 3) (eMeth "read_name" (mt4_read_name_0 cl) (eLoc 0) eNil))
    (eSeq (eIfS (eBin oIn (eLoc 3) (eLoc 2)) (eDrop (eMeth "fail" (mt4_fail_0 cl) (eLoc 0) eNil)) eEnd)
    (eDrop (eBM "list" mAppend (eLoc 2) (eCons (eLoc 3) eNil))))) nF)
    (eRet (eTup (eCons (eLoc 1) (eCons (eBlt bTuple (eCons (eBlt bSortedX (eCons (eLoc 2) eNil)) eNil)) (eCons (eLst eNil) eNil))))))))
theorem ok16 {nF : Nat} (T : Txt P G D mg) (hx : G.xs = none ∧ G.xd = none) (A : Al P w mg base G k D cl) (u : DefAt G.K "read_head" (top 15) (D 16) fd) :
    FnG P w G.K mg base (k + 2) (D 16) fd ["reader"] (spC G (["reader"] : List Str).length (fnOf (["reader"] : List Str).length (["reader", "kind", "marks", "mark"] : List Str).length (b16 cl nF))) := by
  refine fn_ok (G := G) (P := P) (w := w) (K := G.K) (mg := mg) (base := base) (qual := "read_head") (st := (top 15)) (f := D 16) (fd := fd) (N := ["reader", "kind", "marks", "mark"]) (ps := ["reader"]) (k := k + 1) (body := b16 cl nF) u sc16 (by decide) hx ?_
  intro cdv Ar outer s H E gd hr
  have F := fit_of (G := G) (k := k + 1) (P := P) (w := w) (mg := mg) (base := base) (N := ["reader", "kind", "marks", "mark"]) (qual := "read_head") (st := (top 15)) (f := D 16) (cdv := cdv) (A := Ar) (outer := outer) (s := s) (H := H) (E := E) rfl hx.1 gd hr
  exact (b_cons (v_set 1 (s_meth0 F (mo4_read_name_0 T A) (s_loc 0)) sc16.nd)
    (b_cons (v_set 2 (s_lst a_nil) sc16.nd)
    (b_cons (v_while nF F (t_val (s_meth F (mo4_is_sign_1 T A) (s_loc 0) (a_cons s_str a_nil))) (b_cons (v_set 3 (s_meth0 F (mo4_read_name_0 T A) (s_loc 0)) sc16.nd)
    (b_cons (v_if (t_cmp (so_in F) (s_loc 3) (s_loc 2)) (b_one (v_drop (s_meth0 F (mo4_fail_0 T A) (s_loc 0)))) b_end)
    (b_one (v_drop (s_bm F PySem.F.plainAttrs_list PySem.F.slot_list_append PySem.F.type_list_append m_append (s_loc 2) (a_cons (s_loc 3) a_nil)))))))
    (b_one (v_ret (s_tup (a_cons (s_loc 1) (a_cons (s_blty (c_tuple F.K) T.b_tuple (by decide +kernel) (a_cons (s_blt (c_sortedX F.K) T.b_sorted (by decide +kernel) (a_cons (s_loc 2) a_nil)) a_nil)) (a_cons (s_lst a_nil) a_nil)))))))))
theorem sc17 : FnScope ["node", "found", "stack", "item", "kind", "marks", "children", "child", "mark"] ["node"] (defScope (top 16)) := ⟨rfl, rfl, rfl, by decide +kernel, rfl, by decide +kernel, by decide +kernel⟩
def b17 (cl : Nat → Fn) (nF : Nat) : Ev :=
  (eSeq (eAsg (gN 1) (eLst eNil))
    (eSeq (eAsg (gN 2) (eLst (eCons (eLoc 0) eNil)))
    (eSeq (eWhl (eBin oNe (eLoc 2) (eLst eNil)) (eSeq (eAsg (gN 3) (eBM "list" mPop (eLoc 2) eNil))
    (eSeq (eIfS (eIsi is_str (eLoc 3)) (eSeq (eDrop (eBM "list" mAppend (eLoc 1) (eCons (eLoc 3) eNil)))
    eCnt) eEnd)
    (eSeq (eAsg (gT [4, 5, 6]) (eLoc 3))
    (eSeq (eDrop (eBM "list" mAppend (eLoc 1) (eCons (eBin oAdd (eLoc 4) (eBM "str" mJoin (eK (.str "")) (eCons (eLc nF (iT (eLoc 5)) [8] (gN 8) eYes (eBin oAdd (eK (.str ".")) (eLoc 8))) eNil))) eNil)))
    (eIfS (eBin oNe (eLoc 6) (eLst eNil)) (eSeq (eDrop (eBM "list" mAppend (eLoc 2) (eCons (eK (.str ")")) eNil)))
    (eSeq (eFor nF (iV (eCons (eLoc 6) eNil)) (gN 7)
    (eDrop (eBM "list" mExtend (eLoc 2) (eCons (eLst (eCons (eLoc 7) (eCons (eK (.str ",")) eNil))) eNil))))
    (eSetI (eLoc 2) (eNeg (eK (.int 1))) (eK (.str "("))))) eEnd))))) nF)
    (eRet (eBM "str" mJoin (eK (.str "")) (eCons (eLoc 1) eNil))))))
theorem ok17 {nF : Nat} (T : Txt P G D mg) (hx : G.xs = none ∧ G.xd = none) (A : Al P w mg base G k D cl) (u : DefAt G.K "node_text" (top 16) (D 17) fd) :
    FnG P w G.K mg base (k + 2) (D 17) fd ["node"] (spC G (["node"] : List Str).length (fnOf (["node"] : List Str).length (["node", "found", "stack", "item", "kind", "marks", "children", "child", "mark"] : List Str).length (b17 cl nF))) := by
  refine fn_ok (G := G) (P := P) (w := w) (K := G.K) (mg := mg) (base := base) (qual := "node_text") (st := (top 16)) (f := D 17) (fd := fd) (N := ["node", "found", "stack", "item", "kind", "marks", "children", "child", "mark"]) (ps := ["node"]) (k := k + 1) (body := b17 cl nF) u sc17 (by decide) hx ?_
  intro cdv Ar outer s H E gd hr
  have F := fit_of (G := G) (k := k + 1) (P := P) (w := w) (mg := mg) (base := base) (N := ["node", "found", "stack", "item", "kind", "marks", "children", "child", "mark"]) (qual := "node_text") (st := (top 16)) (f := D 17) (cdv := cdv) (A := Ar) (outer := outer) (s := s) (H := H) (E := E) rfl hx.1 gd hr
  exact (b_cons (v_set 1 (s_lst a_nil) sc17.nd)
    (b_cons (v_set 2 (s_lst (a_cons (s_loc 0) a_nil)) sc17.nd)
    (b_cons (v_while nF F (t_cmp (so_ne F) (s_loc 2) (s_lst a_nil)) (b_cons (v_set 3 (s_bm0 F PySem.F.plainAttrs_list PySem.F.slot_list_pop PySem.F.type_list_pop m_pop (s_loc 2)) sc17.nd)
    (b_cons (v_if (t_val (s_isi (T := "str") F.lit his_str (s_loc 3) T.b_isinstance T.b_str (by decide +kernel))) (b_cons (v_drop (s_bm F PySem.F.plainAttrs_list PySem.F.slot_list_append PySem.F.type_list_append m_append (s_loc 1) (a_cons (s_loc 3) a_nil)))
    (b_one v_cnt)) b_end)
    (b_cons (v_asg (s_loc 3) (g_tup F (gs_cons 4 (gs_cons 5 (gs_cons 6 gs_nil sc17.nd) sc17.nd) sc17.nd)))
    (b_cons (v_drop (s_bm F PySem.F.plainAttrs_list PySem.F.slot_list_append PySem.F.type_list_append m_append (s_loc 1) (a_cons (s_bin (so_add F) (s_loc 4) (s_bm F PySem.F.plainAttrs_str PySem.F.slot_str_join PySem.F.type_str_join (m_join F.K) s_str (a_cons (s_lc nF F sc17.nd (i_tup F (s_loc 5)) (own := [("mark", 8)]) (blkOk_by rfl) (fun _ _ _ _ _ => (gw_name 8 sc17.nd)) (fun _ _ _ _ _ => ts_nil) (fun _ _ _ _ _ => (s_bin (so_add (Fit.blk F)) s_str (s_loc 8)))) a_nil))) a_nil)))
    (b_one (v_if (t_cmp (so_ne F) (s_loc 6) (s_lst a_nil)) (b_cons (v_drop (s_bm F PySem.F.plainAttrs_list PySem.F.slot_list_append PySem.F.type_list_append m_append (s_loc 2) (a_cons s_str a_nil)))
    (b_cons (v_for nF F (i_rev F T.b_reversed (a_cons (s_loc 6) a_nil)) (g_name 7 sc17.nd)
    (b_one (v_drop (s_bm F PySem.F.plainAttrs_list PySem.F.slot_list_extend PySem.F.type_list_extend m_extend (s_loc 2) (a_cons (s_lst (a_cons (s_loc 7) (a_cons s_str a_nil))) a_nil)))))
    (b_one (v_setI F (s_loc 2) (s_neg s_int) s_str)))) b_end)))))))
    (b_one (v_ret (s_bm F PySem.F.plainAttrs_str PySem.F.slot_str_join PySem.F.type_str_join (m_join F.K) s_str (a_cons (s_loc 1) a_nil)))))))
theorem sc18 : FnScope ["node", "found", "stack", "path", "item", "index"] ["node"] (defScope (top 17)) := ⟨rfl, rfl, rfl, by decide +kernel, rfl, by decide +kernel, by decide +kernel⟩
def b18 (cl : Nat → Fn) (nF : Nat) : Ev :=
  (eSeq (eAsg (gN 1) (eLst eNil))
    (eSeq (eAsg (gN 2) (eLst (eCons (eTup (eCons (eTup eNil) (eCons (eLoc 0) eNil))) eNil)))
    (eSeq (eWhl (eBin oNe (eLoc 2) (eLst eNil)) (eSeq (eAsg (gT [3, 4]) (eBM "list" mPop (eLoc 2) eNil))
    (eSeq (eDrop (eBM "list" mAppend (eLoc 1) (eCons (eLoc 3) eNil)))
    (eFor nF (iRR (eBlt bLen (eCons (eBin oIx (eLoc 4) (eK (.int 2))) eNil))) (gN 5)
    (eDrop (eBM "list" mAppend (eLoc 2) (eCons (eTup (eCons (eTup (eStar (eLoc 3) (eCons (eLoc 5) eNil))) (eCons (eBin oIx (eBin oIx (eLoc 4) (eK (.int 2))) (eLoc 5)) eNil))) eNil)))))) nF)
    (eRet (eLoc 1)))))
theorem ok18 {nF : Nat} (T : Txt P G D mg) (hx : G.xs = none ∧ G.xd = none) (A : Al P w mg base G k D cl) (u : DefAt G.K "node_paths" (top 17) (D 18) fd) :
    FnG P w G.K mg base (k + 2) (D 18) fd ["node"] (spC G (["node"] : List Str).length (fnOf (["node"] : List Str).length (["node", "found", "stack", "path", "item", "index"] : List Str).length (b18 cl nF))) := by
  refine fn_ok (G := G) (P := P) (w := w) (K := G.K) (mg := mg) (base := base) (qual := "node_paths") (st := (top 17)) (f := D 18) (fd := fd) (N := ["node", "found", "stack", "path", "item", "index"]) (ps := ["node"]) (k := k + 1) (body := b18 cl nF) u sc18 (by decide) hx ?_
  intro cdv Ar outer s H E gd hr
  have F := fit_of (G := G) (k := k + 1) (P := P) (w := w) (mg := mg) (base := base) (N := ["node", "found", "stack", "path", "item", "index"]) (qual := "node_paths") (st := (top 17)) (f := D 18) (cdv := cdv) (A := Ar) (outer := outer) (s := s) (H := H) (E := E) rfl hx.1 gd hr
  exact (b_cons (v_set 1 (s_lst a_nil) sc18.nd)
    (b_cons (v_set 2 (s_lst (a_cons (s_tup (a_cons (s_tup a_nil) (a_cons (s_loc 0) a_nil))) a_nil)) sc18.nd)
    (b_cons (v_while nF F (t_cmp (so_ne F) (s_loc 2) (s_lst a_nil)) (b_cons (v_asg (s_bm0 F PySem.F.plainAttrs_list PySem.F.slot_list_pop PySem.F.type_list_pop m_pop (s_loc 2)) (g_tup F (gs_cons 3 (gs_cons 4 gs_nil sc18.nd) sc18.nd)))
    (b_cons (v_drop (s_bm F PySem.F.plainAttrs_list PySem.F.slot_list_append PySem.F.type_list_append m_append (s_loc 1) (a_cons (s_loc 3) a_nil)))
    (b_one (v_for nF F (i_rr T.b_reversed T.b_range (s_blt (c_len F.K) T.b_len PySem.boot_len (a_cons (s_ix F (s_loc 4) s_int) a_nil))) (g_name 5 sc18.nd)
    (b_one (v_drop (s_bm F PySem.F.plainAttrs_list PySem.F.slot_list_append PySem.F.type_list_append m_append (s_loc 2) (a_cons (s_tup (a_cons (s_tup (a_star F (s_loc 3) (a_cons (s_loc 5) a_nil))) (a_cons (s_ix F (s_ix F (s_loc 4) s_int) (s_loc 5)) a_nil))) a_nil)))))))))
    (b_one (v_ret (s_loc 1))))))
theorem sc19 : FnScope ["self", "top"] ["self", "top"] (defScope (inClass (top 18) 1)) := ⟨rfl, rfl, rfl, by decide +kernel, rfl, by decide +kernel, by decide +kernel⟩
def b19 (cl : Nat → Fn) (nF : Nat) : Ev :=
  (eSeq (eSetS 5 1 (eLoc 0) (eLoc 1))
    (eSeq (eSetS 5 0 (eLoc 0) (eCall (cl 18) [] (eCons (eLoc 1) eNil)))
    (eSeq (eIfS (eBin oGt (eBlt bLen (eCons (eSlot 5 0 (eLoc 0)) eNil)) (eK (.int 200))) (eRaise 3 (eK (.int 200))) eEnd)
    (eSetS 5 2 (eLoc 0) (eCall (cl 17) [] (eCons (eLoc 1) eNil))))))
theorem ok19 {nF : Nat} (T : Txt P G D mg) (hx : G.xs = none ∧ G.xd = none) (A : Al P w mg base G k D cl) (u : DefAt G.K "Document.__init__" (inClass (top 18) 1) (D 19) fd) :
    FnG P w G.K mg base (k + 2) (D 19) fd ["self", "top"] (spC G (["self", "top"] : List Str).length (fnOf (["self", "top"] : List Str).length (["self", "top"] : List Str).length (b19 cl nF))) := by
  refine fn_ok (G := G) (P := P) (w := w) (K := G.K) (mg := mg) (base := base) (qual := "Document.__init__") (st := (inClass (top 18) 1)) (f := D 19) (fd := fd) (N := ["self", "top"]) (ps := ["self", "top"]) (k := k + 1) (body := b19 cl nF) u sc19 (by decide) hx ?_
  intro cdv Ar outer s H E gd hr
  have F := fit_of (G := G) (k := k + 1) (P := P) (w := w) (mg := mg) (base := base) (N := ["self", "top"]) (qual := "Document.__init__") (st := (inClass (top 18) 1)) (f := D 19) (cdv := cdv) (A := Ar) (outer := outer) (s := s) (H := H) (E := E) rfl hx.1 gd hr
  exact (b_cons (v_setS F ⟨T.sc5, T.s5_top⟩ (s_loc 0) (s_loc 1))
    (b_cons (v_setS F ⟨T.sc5, T.s5_paths⟩ (s_loc 0) (s_call F A.f18.up T.g_node_paths T.k18 (a_cons (s_loc 1) a_nil)))
    (b_cons (v_if (t_cmp so_gt (s_blt (c_len F.K) T.b_len PySem.boot_len (a_cons (s_slot F ⟨T.sc5, T.s5_paths⟩ (s_loc 0)) a_nil)) (s_glob (w := (.int 200)) (v := (.int 200)) T.c_MOST_NODES.choose_spec.1 T.c_MOST_NODES.choose_spec.2 (fun _ _ _ => .int _))) (b_one (v_raise F T.x3 (s_glob (w := (.int 200)) (v := (.int 200)) T.c_MOST_NODES.choose_spec.1 T.c_MOST_NODES.choose_spec.2 (fun _ _ _ => .int _)))) b_end)
    (b_one (v_setS F ⟨T.sc5, T.s5_written⟩ (s_loc 0) (s_call F A.f17.up T.g_node_text T.k17 (a_cons (s_loc 1) a_nil)))))))
theorem sc20 : FnScope ["self"] ["self"] (defScope (inClass (top 18) 2)) := ⟨rfl, rfl, rfl, by decide +kernel, rfl, by decide +kernel, by decide +kernel⟩
def b20 (cl : Nat → Fn) (nF : Nat) : Ev :=
  (eRet (eSlot 5 2 (eLoc 0)))
theorem ok20 {nF : Nat} (T : Txt P G D mg) (hx : G.xs = none ∧ G.xd = none) (A : Al P w mg base G k D cl) (u : DefAt G.K "Document.text" (inClass (top 18) 2) (D 20) fd) :
    FnG P w G.K mg base (k + 2) (D 20) fd ["self"] (spC G (["self"] : List Str).length (fnOf (["self"] : List Str).length (["self"] : List Str).length (b20 cl nF))) := by
  refine fn_ok (G := G) (P := P) (w := w) (K := G.K) (mg := mg) (base := base) (qual := "Document.text") (st := (inClass (top 18) 2)) (f := D 20) (fd := fd) (N := ["self"]) (ps := ["self"]) (k := k + 1) (body := b20 cl nF) u sc20 (by decide) hx ?_
  intro cdv Ar outer s H E gd hr
  have F := fit_of (G := G) (k := k + 1) (P := P) (w := w) (mg := mg) (base := base) (N := ["self"]) (qual := "Document.text") (st := (inClass (top 18) 2)) (f := D 20) (cdv := cdv) (A := Ar) (outer := outer) (s := s) (H := H) (E := E) rfl hx.1 gd hr
  exact (b_one (v_ret (s_slot F ⟨T.sc5, T.s5_written⟩ (s_loc 0))))
theorem sc21 : FnScope ["self"] ["self"] (defScope (inClass (top 18) 3)) := ⟨rfl, rfl, rfl, by decide +kernel, rfl, by decide +kernel, by decide +kernel⟩
def b21 (cl : Nat → Fn) (nF : Nat) : Ev :=
  (eRet (eBlt bLen (eCons (eSlot 5 0 (eLoc 0)) eNil)))
theorem ok21 {nF : Nat} (T : Txt P G D mg) (hx : G.xs = none ∧ G.xd = none) (A : Al P w mg base G k D cl) (u : DefAt G.K "Document.size" (inClass (top 18) 3) (D 21) fd) :
    FnG P w G.K mg base (k + 2) (D 21) fd ["self"] (spC G (["self"] : List Str).length (fnOf (["self"] : List Str).length (["self"] : List Str).length (b21 cl nF))) := by
  refine fn_ok (G := G) (P := P) (w := w) (K := G.K) (mg := mg) (base := base) (qual := "Document.size") (st := (inClass (top 18) 3)) (f := D 21) (fd := fd) (N := ["self"]) (ps := ["self"]) (k := k + 1) (body := b21 cl nF) u sc21 (by decide) hx ?_
  intro cdv Ar outer s H E gd hr
  have F := fit_of (G := G) (k := k + 1) (P := P) (w := w) (mg := mg) (base := base) (N := ["self"]) (qual := "Document.size") (st := (inClass (top 18) 3)) (f := D 21) (cdv := cdv) (A := Ar) (outer := outer) (s := s) (H := H) (E := E) rfl hx.1 gd hr
  exact (b_one (v_ret (s_blt (c_len F.K) T.b_len PySem.boot_len (a_cons (s_slot F ⟨T.sc5, T.s5_paths⟩ (s_loc 0)) a_nil))))
theorem sc23 : FnScope ["self", "other", "index"] ["self", "other"] (defScope (inClass (top 18) 5)) := ⟨rfl, rfl, rfl, by decide +kernel, rfl, by decide +kernel, by decide +kernel⟩
def b23 (cl : Nat → Fn) (nF : Nat) : Ev :=
  (eSeq (eIfS (eOr (eNot (eIsi is_tuple (eLoc 1))) (eNot (eBlt bAll (eCons (eLc nF (iT (eLoc 1)) [2] (gN 2) eYes (eCall (cl 4) [] (eCons (eLoc 2) eNil))) eNil)))) (eRet (eK (.bl false))) eEnd)
    (eRet (eBin oIn (eLoc 1) (eSlot 5 0 (eLoc 0)))))
theorem ok23 {nF : Nat} (T : Txt P G D mg) (hx : G.xs = none ∧ G.xd = none) (A : Al P w mg base G k D cl) (u : DefAt G.K "Document.__contains__" (inClass (top 18) 5) (D 23) fd) :
    FnG P w G.K mg base (k + 2) (D 23) fd ["self", "other"] (spC G (["self", "other"] : List Str).length (fnOf (["self", "other"] : List Str).length (["self", "other", "index"] : List Str).length (b23 cl nF))) := by
  refine fn_ok (G := G) (P := P) (w := w) (K := G.K) (mg := mg) (base := base) (qual := "Document.__contains__") (st := (inClass (top 18) 5)) (f := D 23) (fd := fd) (N := ["self", "other", "index"]) (ps := ["self", "other"]) (k := k + 1) (body := b23 cl nF) u sc23 (by decide) hx ?_
  intro cdv Ar outer s H E gd hr
  have F := fit_of (G := G) (k := k + 1) (P := P) (w := w) (mg := mg) (base := base) (N := ["self", "other", "index"]) (qual := "Document.__contains__") (st := (inClass (top 18) 5)) (f := D 23) (cdv := cdv) (A := Ar) (outer := outer) (s := s) (H := H) (E := E) rfl hx.1 gd hr
  exact (b_cons (v_if (t_p (p_or (t_not (t_val (s_isi (T := "tuple") F.lit his_tuple (s_loc 1) T.b_isinstance T.b_tuple (by decide +kernel)))) (p_or1 (t_not (t_val (s_blt (c_all F) T.b_all (by decide +kernel) (a_cons (s_lc nF F sc23.nd (i_tup F (s_loc 1)) (own := [("index", 2)]) (blkOk_by rfl) (fun _ _ _ _ _ => (gw_name 2 sc23.nd)) (fun _ _ _ _ _ => ts_nil) (fun _ _ _ _ _ => (s_call (Fit.blk F) A.f4.up T.g_is_integer T.k4 (a_cons (s_loc 2) a_nil)))) a_nil))))))) (b_one (v_ret s_bl)) b_end)
    (b_one (v_ret (s_cmp (so_in F) (s_loc 1) (s_slot F ⟨T.sc5, T.s5_paths⟩ (s_loc 0))))))
theorem sc24 : FnScope ["self", "path", "found", "index"] ["self", "path"] (defScope (inClass (top 18) 6)) := ⟨rfl, rfl, rfl, by decide +kernel, rfl, by decide +kernel, by decide +kernel⟩
def b24 (cl : Nat → Fn) (nF : Nat) : Ev :=
  (eSeq (eIfS (eBin (oNotInO 5 (cl 23)) (eLoc 1) (eLoc 0)) (eRaise 2 (eLoc 1)) eEnd)
    (eSeq (eAsg (gN 2) (eSlot 5 1 (eLoc 0)))
    (eSeq (eFor nF (iT (eLoc 1)) (gN 3)
    (eAsg (gN 2) (eBin oIx (eBin oIx (eLoc 2) (eK (.int 2))) (eLoc 3))))
    (eRet (eLoc 2)))))
theorem ok24 {nF : Nat} (T : Txt P G D mg) (hx : G.xs = none ∧ G.xd = none) (A : Al P w mg base G k D cl) (u : DefAt G.K "Document.node" (inClass (top 18) 6) (D 24) fd) :
    FnG P w G.K mg base (k + 2) (D 24) fd ["self", "path"] (spC G (["self", "path"] : List Str).length (fnOf (["self", "path"] : List Str).length (["self", "path", "found", "index"] : List Str).length (b24 cl nF))) := by
  refine fn_ok (G := G) (P := P) (w := w) (K := G.K) (mg := mg) (base := base) (qual := "Document.node") (st := (inClass (top 18) 6)) (f := D 24) (fd := fd) (N := ["self", "path", "found", "index"]) (ps := ["self", "path"]) (k := k + 1) (body := b24 cl nF) u sc24 (by decide) hx ?_
  intro cdv Ar outer s H E gd hr
  have F := fit_of (G := G) (k := k + 1) (P := P) (w := w) (mg := mg) (base := base) (N := ["self", "path", "found", "index"]) (qual := "Document.node") (st := (inClass (top 18) 6)) (f := D 24) (cdv := cdv) (A := Ar) (outer := outer) (s := s) (H := H) (E := E) rfl hx.1 gd hr
  exact (b_cons (v_if (t_cmp (so_notInO F ⟨T.sc5, T.ow5___contains__.1, T.ow5___contains__.2⟩ A.f23.up) (s_loc 1) (s_loc 0)) (b_one (v_raise F T.x2 (s_loc 1))) b_end)
    (b_cons (v_set 2 (s_slot F ⟨T.sc5, T.s5_top⟩ (s_loc 0)) sc24.nd)
    (b_cons (v_for nF F (i_tup F (s_loc 1)) (g_name 3 sc24.nd)
    (b_one (v_set 2 (s_ix F (s_ix F (s_loc 2) s_int) (s_loc 3)) sc24.nd)))
    (b_one (v_ret (s_loc 2))))))
theorem sc25 : FnScope ["self", "path"] ["self", "path"] (defScope (inClass (top 18) 7)) := ⟨rfl, rfl, rfl, by decide +kernel, rfl, by decide +kernel, by decide +kernel⟩
def b25 (cl : Nat → Fn) (nF : Nat) : Ev :=
  (eRet (eBin oIx (eMethS 5 (cl 24) [] (eLoc 0) (eCons (eLoc 1) eNil)) (eK (.int 0))))
theorem ok25 {nF : Nat} (T : Txt P G D mg) (hx : G.xs = none ∧ G.xd = none) (A : Al P w mg base G k D cl) (u : DefAt G.K "Document.kind" (inClass (top 18) 7) (D 25) fd) :
    FnG P w G.K mg base (k + 2) (D 25) fd ["self", "path"] (spC G (["self", "path"] : List Str).length (fnOf (["self", "path"] : List Str).length (["self", "path"] : List Str).length (b25 cl nF))) := by
  refine fn_ok (G := G) (P := P) (w := w) (K := G.K) (mg := mg) (base := base) (qual := "Document.kind") (st := (inClass (top 18) 7)) (f := D 25) (fd := fd) (N := ["self", "path"]) (ps := ["self", "path"]) (k := k + 1) (body := b25 cl nF) u sc25 (by decide) hx ?_
  intro cdv Ar outer s H E gd hr
  have F := fit_of (G := G) (k := k + 1) (P := P) (w := w) (mg := mg) (base := base) (N := ["self", "path"]) (qual := "Document.kind") (st := (inClass (top 18) 7)) (f := D 25) (cdv := cdv) (A := Ar) (outer := outer) (s := s) (H := H) (E := E) rfl hx.1 gd hr
  exact (b_one (v_ret (s_ix F (s_methS F ⟨_, T.sc5, T.me5_node, A.f24.up⟩ (s_loc 0) (a_cons (s_loc 1) a_nil)) s_int)))
theorem sc26 : FnScope ["self", "path"] ["self", "path"] (defScope (inClass (top 18) 8)) := ⟨rfl, rfl, rfl, by decide +kernel, rfl, by decide +kernel, by decide +kernel⟩
def b26 (cl : Nat → Fn) (nF : Nat) : Ev :=
  (eRet (eBin oIx (eMethS 5 (cl 24) [] (eLoc 0) (eCons (eLoc 1) eNil)) (eK (.int 1))))
theorem ok26 {nF : Nat} (T : Txt P G D mg) (hx : G.xs = none ∧ G.xd = none) (A : Al P w mg base G k D cl) (u : DefAt G.K "Document.marks" (inClass (top 18) 8) (D 26) fd) :
    FnG P w G.K mg base (k + 2) (D 26) fd ["self", "path"] (spC G (["self", "path"] : List Str).length (fnOf (["self", "path"] : List Str).length (["self", "path"] : List Str).length (b26 cl nF))) := by
  refine fn_ok (G := G) (P := P) (w := w) (K := G.K) (mg := mg) (base := base) (qual := "Document.marks") (st := (inClass (top 18) 8)) (f := D 26) (fd := fd) (N := ["self", "path"]) (ps := ["self", "path"]) (k := k + 1) (body := b26 cl nF) u sc26 (by decide) hx ?_
  intro cdv Ar outer s H E gd hr
  have F := fit_of (G := G) (k := k + 1) (P := P) (w := w) (mg := mg) (base := base) (N := ["self", "path"]) (qual := "Document.marks") (st := (inClass (top 18) 8)) (f := D 26) (cdv := cdv) (A := Ar) (outer := outer) (s := s) (H := H) (E := E) rfl hx.1 gd hr
  exact (b_one (v_ret (s_ix F (s_methS F ⟨_, T.sc5, T.me5_node, A.f24.up⟩ (s_loc 0) (a_cons (s_loc 1) a_nil)) s_int)))
theorem sc27 : FnScope ["self", "path"] ["self", "path"] (defScope (inClass (top 18) 9)) := ⟨rfl, rfl, rfl, by decide +kernel, rfl, by decide +kernel, by decide +kernel⟩
def b27 (cl : Nat → Fn) (nF : Nat) : Ev :=
  (eRet (eBlt bLen (eCons (eBin oIx (eMethS 5 (cl 24) [] (eLoc 0) (eCons (eLoc 1) eNil)) (eK (.int 2))) eNil)))
theorem ok27 {nF : Nat} (T : Txt P G D mg) (hx : G.xs = none ∧ G.xd = none) (A : Al P w mg base G k D cl) (u : DefAt G.K "Document.width" (inClass (top 18) 9) (D 27) fd) :
    FnG P w G.K mg base (k + 2) (D 27) fd ["self", "path"] (spC G (["self", "path"] : List Str).length (fnOf (["self", "path"] : List Str).length (["self", "path"] : List Str).length (b27 cl nF))) := by
  refine fn_ok (G := G) (P := P) (w := w) (K := G.K) (mg := mg) (base := base) (qual := "Document.width") (st := (inClass (top 18) 9)) (f := D 27) (fd := fd) (N := ["self", "path"]) (ps := ["self", "path"]) (k := k + 1) (body := b27 cl nF) u sc27 (by decide) hx ?_
  intro cdv Ar outer s H E gd hr
  have F := fit_of (G := G) (k := k + 1) (P := P) (w := w) (mg := mg) (base := base) (N := ["self", "path"]) (qual := "Document.width") (st := (inClass (top 18) 9)) (f := D 27) (cdv := cdv) (A := Ar) (outer := outer) (s := s) (H := H) (E := E) rfl hx.1 gd hr
  exact (b_one (v_ret (s_blt (c_len F.K) T.b_len PySem.boot_len (a_cons (s_ix F (s_methS F ⟨_, T.sc5, T.me5_node, A.f24.up⟩ (s_loc 0) (a_cons (s_loc 1) a_nil)) s_int) a_nil))))
theorem sc28 : FnScope ["self", "path"] ["self", "path"] (defScope (inClass (top 18) 10)) := ⟨rfl, rfl, rfl, by decide +kernel, rfl, by decide +kernel, by decide +kernel⟩
def b28 (cl : Nat → Fn) (nF : Nat) : Ev :=
  (eRet (eNew true 5 (cl 19) [] (eCons (eMethS 5 (cl 24) [] (eLoc 0) (eCons (eLoc 1) eNil)) eNil)))
theorem ok28 {nF : Nat} (T : Txt P G D mg) (hx : G.xs = none ∧ G.xd = none) (A : Al P w mg base G k D cl) (u : DefAt G.K "Document.part" (inClass (top 18) 10) (D 28) fd) :
    FnG P w G.K mg base (k + 2) (D 28) fd ["self", "path"] (spC G (["self", "path"] : List Str).length (fnOf (["self", "path"] : List Str).length (["self", "path"] : List Str).length (b28 cl nF))) := by
  refine fn_ok (G := G) (P := P) (w := w) (K := G.K) (mg := mg) (base := base) (qual := "Document.part") (st := (inClass (top 18) 10)) (f := D 28) (fd := fd) (N := ["self", "path"]) (ps := ["self", "path"]) (k := k + 1) (body := b28 cl nF) u sc28 (by decide) hx ?_
  intro cdv Ar outer s H E gd hr
  have F := fit_of (G := G) (k := k + 1) (P := P) (w := w) (mg := mg) (base := base) (N := ["self", "path"]) (qual := "Document.part") (st := (inClass (top 18) 10)) (f := D 28) (cdv := cdv) (A := Ar) (outer := outer) (s := s) (H := H) (E := E) rfl hx.1 gd hr
  exact (b_one (v_ret (s_new F T.mk5 A.f19 T.gc5 (a_cons (s_methS F ⟨_, T.sc5, T.me5_node, A.f24.up⟩ (s_loc 0) (a_cons (s_loc 1) a_nil)) a_nil))))
theorem sc34 : FnScope ["self", "other"] ["self", "other"] (defScope (inClass (top 18) 16)) := ⟨rfl, rfl, rfl, by decide +kernel, rfl, by decide +kernel, by decide +kernel⟩
def b34 (cl : Nat → Fn) (nF : Nat) : Ev :=
  (eSeq (eIfS (eNot (eIsO tsO5 tkO (eLoc 1))) (eRet (eK (.bl false))) eEnd)
    (eRet (eBin oEq (eProp 5 (cl 20) (eLoc 0)) (eProp 5 (cl 20) (eLoc 1)))))
theorem ok34 {nF : Nat} (T : Txt P G D mg) (hx : G.xs = none ∧ G.xd = none) (A : Al P w mg base G k D cl) (u : DefAt G.K "Document.__eq__" (inClass (top 18) 16) (D 34) fd) :
    FnG P w G.K mg base (k + 2) (D 34) fd ["self", "other"] (spC G (["self", "other"] : List Str).length (fnOf (["self", "other"] : List Str).length (["self", "other"] : List Str).length (b34 cl nF))) := by
  refine fn_ok (G := G) (P := P) (w := w) (K := G.K) (mg := mg) (base := base) (qual := "Document.__eq__") (st := (inClass (top 18) 16)) (f := D 34) (fd := fd) (N := ["self", "other"]) (ps := ["self", "other"]) (k := k + 1) (body := b34 cl nF) u sc34 (by decide) hx ?_
  intro cdv Ar outer s H E gd hr
  have F := fit_of (G := G) (k := k + 1) (P := P) (w := w) (mg := mg) (base := base) (N := ["self", "other"]) (qual := "Document.__eq__") (st := (inClass (top 18) 16)) (f := D 34) (cdv := cdv) (A := Ar) (outer := outer) (s := s) (H := H) (E := E) rfl hx.1 gd hr
  exact (b_cons (v_if (t_not (t_val (s_isO F ⟨T.ioS5, T.ioK5⟩ (s_loc 1) T.b_isinstance T.gc5))) (b_one (v_ret s_bl)) b_end)
    (b_one (v_ret (s_cmp (so_eq F) (s_prop F ⟨T.sc5, T.pr5_text⟩ A.f20 (s_loc 0)) (s_prop F ⟨T.sc5, T.pr5_text⟩ A.f20 (s_loc 1))))))
theorem sc35 : FnScope ["_law_script", "_law_k", "_law_cell", "_law_number", "_law_mixed_here"] ["_law_script", "_law_k"] (defScope (top 20)) := ⟨rfl, rfl, rfl, by decide +kernel, rfl, by decide +kernel, by decide +kernel⟩
def b35 (cl : Nat → Fn) (nF : Nat) : Ev :=
  (eSeq (eAsg (gN 2) (eBin oIx (eBin oAdd (eSl (eLoc 0) (eInt (eLoc 1)) (eInt (eBin oAdd (eLoc 1) (eK (.int 1))))) (eLst (eCons (eK (.int 0)) eNil))) (eK (.int 0))))
    (eSeq (eAsg (gN 3) (eIf (eBin oGe (eLoc 2) (eK (.int 0))) (eLoc 2) (eBin oSub (eNeg (eK (.int 1))) (eLoc 2))))
    (eSeq (eAsg (gN 4) (eBin oMod (eBin oMulX (eBlt bIntX (eCons (eBin oAdd (eBin oAdd (eBin oAdd (eBin oMod (eLoc 3) (eK (.int 2147483629))) (eBin oMulX (eBin oMulX (eK (.int 7919)) (eLoc 1)) (eLoc 1))) (eBin oMulX (eK (.int 31)) (eLoc 1))) (eK (.int 17))) eNil)) (eK (.int 48271))) (eK (.int 2147483647))))
    (eRet (eLst (eCons (eBin oMulX (eLoc 3) (eBlt bIntX (eCons (eBin oGe (eLoc 3) (eBin oPow (eK (.int 10)) (eK (.int 18)))) eNil))) (eCons (eBin oMod (eBin oMulX (eLoc 4) (eLoc 4)) (eK (.int 2147483629))) eNil)))))))
theorem ok35 {nF : Nat} (T : Txt P G D mg) (hx : G.xs = none ∧ G.xd = none) (A : Al P w mg base G k D cl) (u : DefAt G.K "_law_pool" (top 20) (D 35) fd) :
    FnG P w G.K mg base (k + 2) (D 35) fd ["_law_script", "_law_k"] (spC G (["_law_script", "_law_k"] : List Str).length (fnOf (["_law_script", "_law_k"] : List Str).length (["_law_script", "_law_k", "_law_cell", "_law_number", "_law_mixed_here"] : List Str).length (b35 cl nF))) := by
  refine fn_ok (G := G) (P := P) (w := w) (K := G.K) (mg := mg) (base := base) (qual := "_law_pool") (st := (top 20)) (f := D 35) (fd := fd) (N := ["_law_script", "_law_k", "_law_cell", "_law_number", "_law_mixed_here"]) (ps := ["_law_script", "_law_k"]) (k := k + 1) (body := b35 cl nF) u sc35 (by decide) hx ?_
  intro cdv Ar outer s H E gd hr
  have F := fit_of (G := G) (k := k + 1) (P := P) (w := w) (mg := mg) (base := base) (N := ["_law_script", "_law_k", "_law_cell", "_law_number", "_law_mixed_here"]) (qual := "_law_pool") (st := (top 20)) (f := D 35) (cdv := cdv) (A := Ar) (outer := outer) (s := s) (H := H) (E := E) rfl hx.1 gd hr
  exact (b_cons (v_set 2 (s_ix F (s_bin (so_add F) (s_sl F (s_loc 0) (o_some (s_loc 1)) (o_some (s_bin (so_add F) (s_loc 1) s_int))) (s_lst (a_cons s_int a_nil))) s_int) sc35.nd)
    (b_cons (v_set 3 (s_if (t_cmp so_ge (s_loc 2) s_int) (s_loc 2) (s_bin so_sub (s_neg s_int) (s_loc 2))) sc35.nd)
    (b_cons (v_set 4 (s_bin so_mod (s_bin so_mulX (s_blty c_intX T.b_int (by decide +kernel) (a_cons (s_bin (so_add F) (s_bin (so_add F) (s_bin (so_add F) (s_bin so_mod (s_loc 3) s_int) (s_bin so_mulX (s_bin so_mulX s_int (s_loc 1)) (s_loc 1))) (s_bin so_mulX s_int (s_loc 1))) s_int) a_nil)) s_int) s_int) sc35.nd)
    (b_one (v_ret (s_lst (a_cons (s_bin so_mulX (s_loc 3) (s_blty c_intX T.b_int (by decide +kernel) (a_cons (s_cmp so_ge (s_loc 3) (s_bin so_pow s_int s_int)) a_nil))) (a_cons (s_bin so_mod (s_bin so_mulX (s_loc 4) (s_loc 4)) s_int) a_nil))))))))
theorem sc36 : FnScope ["_law_pool_here", "_law_many", "_law_digit"] ["_law_pool_here", "_law_many"] (defScope (top 21)) := ⟨rfl, rfl, rfl, by decide +kernel, rfl, by decide +kernel, by decide +kernel⟩
def b36 (cl : Nat → Fn) (nF : Nat) : Ev :=
  (eSeq (eIfS (eBin oGt (eBin oIx (eLoc 0) (eK (.int 0))) (eK (.int 0))) (eSeq (eAsg (gN 2) (eBin oMod (eBlt bIntX (eCons (eBin oIx (eLoc 0) (eK (.int 0))) eNil)) (eLoc 1)))
    (eSeq (eSetI (eLoc 0) (eK (.int 0)) (eBin oDiv (eBin oIx (eLoc 0) (eK (.int 0))) (eLoc 1)))
    (eRet (eLoc 2)))) eEnd)
    (eSeq (eSetI (eLoc 0) (eK (.int 1)) (eBin oMod (eBlt bIntX (eCons (eBin oAdd (eBin oMulX (eBin oIx (eLoc 0) (eK (.int 1))) (eK (.int 48271))) (eK (.int 12345))) eNil)) (eK (.int 2147483647))))
    (eRet (eBin oMod (eBin oDiv (eBin oMod (eBlt bIntX (eCons (eBin oMulX (eBin oIx (eLoc 0) (eK (.int 1))) (eBin oIx (eLoc 0) (eK (.int 1)))) eNil)) (eK (.int 2147483629))) (eK (.int 64))) (eLoc 1)))))
theorem ok36 {nF : Nat} (T : Txt P G D mg) (hx : G.xs = none ∧ G.xd = none) (A : Al P w mg base G k D cl) (u : DefAt G.K "_law_take" (top 21) (D 36) fd) :
    FnG P w G.K mg base (k + 2) (D 36) fd ["_law_pool_here", "_law_many"] (spC G (["_law_pool_here", "_law_many"] : List Str).length (fnOf (["_law_pool_here", "_law_many"] : List Str).length (["_law_pool_here", "_law_many", "_law_digit"] : List Str).length (b36 cl nF))) := by
  refine fn_ok (G := G) (P := P) (w := w) (K := G.K) (mg := mg) (base := base) (qual := "_law_take") (st := (top 21)) (f := D 36) (fd := fd) (N := ["_law_pool_here", "_law_many", "_law_digit"]) (ps := ["_law_pool_here", "_law_many"]) (k := k + 1) (body := b36 cl nF) u sc36 (by decide) hx ?_
  intro cdv Ar outer s H E gd hr
  have F := fit_of (G := G) (k := k + 1) (P := P) (w := w) (mg := mg) (base := base) (N := ["_law_pool_here", "_law_many", "_law_digit"]) (qual := "_law_take") (st := (top 21)) (f := D 36) (cdv := cdv) (A := Ar) (outer := outer) (s := s) (H := H) (E := E) rfl hx.1 gd hr
  exact (b_cons (v_if (t_cmp so_gt (s_ix F (s_loc 0) s_int) s_int) (b_cons (v_set 2 (s_bin so_mod (s_blty c_intX T.b_int (by decide +kernel) (a_cons (s_ix F (s_loc 0) s_int) a_nil)) (s_loc 1)) sc36.nd)
    (b_cons (v_setI F (s_loc 0) s_int (s_bin so_div (s_ix F (s_loc 0) s_int) (s_loc 1)))
    (b_one (v_ret (s_loc 2))))) b_end)
    (b_cons (v_setI F (s_loc 0) s_int (s_bin so_mod (s_blty c_intX T.b_int (by decide +kernel) (a_cons (s_bin (so_add F) (s_bin so_mulX (s_ix F (s_loc 0) s_int) s_int) s_int) a_nil)) s_int))
    (b_one (v_ret (s_bin so_mod (s_bin so_div (s_bin so_mod (s_blty c_intX T.b_int (by decide +kernel) (a_cons (s_bin so_mulX (s_ix F (s_loc 0) s_int) (s_ix F (s_loc 0) s_int)) a_nil)) s_int) s_int) (s_loc 1))))))
theorem sc37 : FnScope ["_law_pool_here", "_law_depth", "_law_kinds", "_law_marks", "_law_kind", "_law_own", "_law_many", "_law_mark", "_law_turn"] ["_law_pool_here", "_law_depth", "_law_kinds", "_law_marks"] (defScope (top 22)) := ⟨rfl, rfl, rfl, by decide +kernel, rfl, by decide +kernel, by decide +kernel⟩
def b37 (cl : Nat → Fn) (nF : Nat) : Ev :=
  (eSeq (eAsg (gN 4) (eBin oIx (eLoc 2) (eCall (cl 36) [] (eCons (eLoc 0) (eCons (eBlt bLen (eCons (eLoc 2) eNil)) eNil)))))
    (eSeq (eAsg (gN 5) (eLc nF (iL (eLoc 3)) [7] (gN 7) (eBin oEq (eCall (cl 36) [] (eCons (eLoc 0) (eCons (eK (.int 3)) eNil))) (eK (.int 0))) (eLoc 7)))
    (eSeq (eAsg (gN 6) (eIf (eBin oGt (eLoc 1) (eK (.int 0))) (eCall (cl 36) [] (eCons (eLoc 0) (eCons (eK (.int 4)) eNil))) (eK (.int 0))))
    (eRet (eLst (eCons (eLoc 4) (eCons (eLoc 5) (eCons (eLc nF (iR1 (eCons (eLoc 6) eNil)) [8] (gN 8) eYes (eCall (cl 37) [] (eCons (eLoc 0) (eCons (eBin oSub (eLoc 1) (eK (.int 1))) (eCons (eLoc 2) (eCons (eLoc 3) eNil)))))) eNil))))))))
theorem ok37 {nF : Nat} (T : Txt P G D mg) (hx : G.xs = none ∧ G.xd = none) (A : Al P w mg base G k D cl) (u : DefAt G.K "_law_node" (top 22) (D 37) fd) :
    FnG P w G.K mg base (k + 2) (D 37) fd ["_law_pool_here", "_law_depth", "_law_kinds", "_law_marks"] (spC G (["_law_pool_here", "_law_depth", "_law_kinds", "_law_marks"] : List Str).length (fnOf (["_law_pool_here", "_law_depth", "_law_kinds", "_law_marks"] : List Str).length (["_law_pool_here", "_law_depth", "_law_kinds", "_law_marks", "_law_kind", "_law_own", "_law_many", "_law_mark", "_law_turn"] : List Str).length (b37 cl nF))) := by
  refine fn_ok (G := G) (P := P) (w := w) (K := G.K) (mg := mg) (base := base) (qual := "_law_node") (st := (top 22)) (f := D 37) (fd := fd) (N := ["_law_pool_here", "_law_depth", "_law_kinds", "_law_marks", "_law_kind", "_law_own", "_law_many", "_law_mark", "_law_turn"]) (ps := ["_law_pool_here", "_law_depth", "_law_kinds", "_law_marks"]) (k := k + 1) (body := b37 cl nF) u sc37 (by decide) hx ?_
  intro cdv Ar outer s H E gd hr
  have F := fit_of (G := G) (k := k + 1) (P := P) (w := w) (mg := mg) (base := base) (N := ["_law_pool_here", "_law_depth", "_law_kinds", "_law_marks", "_law_kind", "_law_own", "_law_many", "_law_mark", "_law_turn"]) (qual := "_law_node") (st := (top 22)) (f := D 37) (cdv := cdv) (A := Ar) (outer := outer) (s := s) (H := H) (E := E) rfl hx.1 gd hr
  exact (b_cons (v_set 4 (s_ix F (s_loc 2) (s_call F A.f36.up T.g__law_take T.k36 (a_cons (s_loc 0) (a_cons (s_blt (c_len F.K) T.b_len PySem.boot_len (a_cons (s_loc 2) a_nil)) a_nil)))) sc37.nd)
    (b_cons (v_setLc nF 5 F sc37.nd (sw_true rfl rfl rfl (by decide +kernel)) (i_list F (s_loc 3)) (own := [("_law_mark", 7)]) (blkOk_by rfl) (fun _ _ _ _ _ => (gw_name 7 sc37.nd)) (fun _ _ _ _ _ => (ts_one (t_cmp (so_eq (Fit.blk F)) (s_call (Fit.blk F) A.f36.up T.g__law_take T.k36 (a_cons (s_loc 0) (a_cons s_int a_nil))) s_int))) (fun _ _ _ _ _ => (s_loc 7)))
    (b_cons (v_set 6 (s_if (t_cmp so_gt (s_loc 1) s_int) (s_call F A.f36.up T.g__law_take T.k36 (a_cons (s_loc 0) (a_cons s_int a_nil))) s_int) sc37.nd)
    (b_one (v_ret (s_lst (a_cons (s_loc 4) (a_cons (s_loc 5) (a_cons (s_lc nF F sc37.nd (i_rng1 T.b_range (a_cons (s_loc 6) a_nil)) (own := [("_law_turn", 8)]) (blkOk_by rfl) (fun _ _ _ _ _ => (gw_name 8 sc37.nd)) (fun _ _ _ _ _ => ts_nil) (fun _ _ _ _ _ => (s_call (Fit.blk F) A.f37.up T.g__law_node T.k37 (a_cons (s_loc 0) (a_cons (s_bin so_sub (s_loc 1) s_int) (a_cons (s_loc 2) (a_cons (s_loc 3) a_nil))))))) a_nil)))))))))
theorem sc38 : FnScope ["_law_node_here", "_law_head", "_law_inner", "_law_mark", "_law_child"] ["_law_node_here"] (defScope (top 23)) := ⟨rfl, rfl, rfl, by decide +kernel, rfl, by decide +kernel, by decide +kernel⟩
def b38 (cl : Nat → Fn) (nF : Nat) : Ev :=
  (eSeq (eAsg (gN 1) (eBin oAdd (eBin oIx (eLoc 0) (eK (.int 0))) (eBM "str" mJoin (eK (.str "")) (eCons (eLc nF (iL (eBlt bSortedX (eCons (eBin oIx (eLoc 0) (eK (.int 1))) eNil))) [3] (gN 3) eYes (eBin oAdd (eK (.str ".")) (eLoc 3))) eNil))))
    (eSeq (eAsg (gN 2) (eBM "str" mJoin (eK (.str ",")) (eCons (eLc nF (iL (eBin oIx (eLoc 0) (eK (.int 2)))) [4] (gN 4) eYes (eCall (cl 38) [] (eCons (eLoc 4) eNil))) eNil)))
    (eRet (eIf (eBin oNe (eLoc 2) (eK (.str ""))) (eBin oAdd (eBin oAdd (eBin oAdd (eLoc 1) (eK (.str "("))) (eLoc 2)) (eK (.str ")"))) (eLoc 1)))))
theorem ok38 {nF : Nat} (T : Txt P G D mg) (hx : G.xs = none ∧ G.xd = none) (A : Al P w mg base G k D cl) (u : DefAt G.K "_law_text" (top 23) (D 38) fd) :
    FnG P w G.K mg base (k + 2) (D 38) fd ["_law_node_here"] (spC G (["_law_node_here"] : List Str).length (fnOf (["_law_node_here"] : List Str).length (["_law_node_here", "_law_head", "_law_inner", "_law_mark", "_law_child"] : List Str).length (b38 cl nF))) := by
  refine fn_ok (G := G) (P := P) (w := w) (K := G.K) (mg := mg) (base := base) (qual := "_law_text") (st := (top 23)) (f := D 38) (fd := fd) (N := ["_law_node_here", "_law_head", "_law_inner", "_law_mark", "_law_child"]) (ps := ["_law_node_here"]) (k := k + 1) (body := b38 cl nF) u sc38 (by decide) hx ?_
  intro cdv Ar outer s H E gd hr
  have F := fit_of (G := G) (k := k + 1) (P := P) (w := w) (mg := mg) (base := base) (N := ["_law_node_here", "_law_head", "_law_inner", "_law_mark", "_law_child"]) (qual := "_law_text") (st := (top 23)) (f := D 38) (cdv := cdv) (A := Ar) (outer := outer) (s := s) (H := H) (E := E) rfl hx.1 gd hr
  exact (b_cons (v_set 1 (s_bin (so_add F) (s_ix F (s_loc 0) s_int) (s_bm F PySem.F.plainAttrs_str PySem.F.slot_str_join PySem.F.type_str_join (m_join F.K) s_str (a_cons (s_lc nF F sc38.nd (i_list F (s_blt (c_sortedX F.K) T.b_sorted (by decide +kernel) (a_cons (s_ix F (s_loc 0) s_int) a_nil))) (own := [("_law_mark", 3)]) (blkOk_by rfl) (fun _ _ _ _ _ => (gw_name 3 sc38.nd)) (fun _ _ _ _ _ => ts_nil) (fun _ _ _ _ _ => (s_bin (so_add (Fit.blk F)) s_str (s_loc 3)))) a_nil))) sc38.nd)
    (b_cons (v_set 2 (s_bm F PySem.F.plainAttrs_str PySem.F.slot_str_join PySem.F.type_str_join (m_join F.K) s_str (a_cons (s_lc nF F sc38.nd (i_list F (s_ix F (s_loc 0) s_int)) (own := [("_law_child", 4)]) (blkOk_by rfl) (fun _ _ _ _ _ => (gw_name 4 sc38.nd)) (fun _ _ _ _ _ => ts_nil) (fun _ _ _ _ _ => (s_call (Fit.blk F) A.f38.up T.g__law_text T.k38 (a_cons (s_loc 4) a_nil)))) a_nil)) sc38.nd)
    (b_one (v_ret (s_if (t_cmp (so_ne F) (s_loc 2) s_str) (s_bin (so_add F) (s_bin (so_add F) (s_bin (so_add F) (s_loc 1) s_str) (s_loc 2)) s_str) (s_loc 1))))))
theorem sc39 : FnScope ["_law_node_here", "_law_path_here", "_law_found", "_law_index", "_law_child"] ["_law_node_here", "_law_path_here"] (defScope (top 24)) := ⟨rfl, rfl, rfl, by decide +kernel, rfl, by decide +kernel, by decide +kernel⟩
def b39 (cl : Nat → Fn) (nF : Nat) : Ev :=
  (eSeq (eAsg (gN 2) (eLst (eCons (eLoc 1) eNil)))
    (eSeq (eFor nF (iE (eCons (eBin oIx (eLoc 0) (eK (.int 2))) eNil)) (gT [3, 4])
    (eAsg (gN 2) (eBin oAdd (eLoc 2) (eCall (cl 39) [] (eCons (eLoc 4) (eCons (eBin oAdd (eLoc 1) (eTup (eCons (eLoc 3) eNil))) eNil))))))
    (eRet (eLoc 2))))
theorem ok39 {nF : Nat} (T : Txt P G D mg) (hx : G.xs = none ∧ G.xd = none) (A : Al P w mg base G k D cl) (u : DefAt G.K "_law_paths" (top 24) (D 39) fd) :
    FnG P w G.K mg base (k + 2) (D 39) fd ["_law_node_here", "_law_path_here"] (spC G (["_law_node_here", "_law_path_here"] : List Str).length (fnOf (["_law_node_here", "_law_path_here"] : List Str).length (["_law_node_here", "_law_path_here", "_law_found", "_law_index", "_law_child"] : List Str).length (b39 cl nF))) := by
  refine fn_ok (G := G) (P := P) (w := w) (K := G.K) (mg := mg) (base := base) (qual := "_law_paths") (st := (top 24)) (f := D 39) (fd := fd) (N := ["_law_node_here", "_law_path_here", "_law_found", "_law_index", "_law_child"]) (ps := ["_law_node_here", "_law_path_here"]) (k := k + 1) (body := b39 cl nF) u sc39 (by decide) hx ?_
  intro cdv Ar outer s H E gd hr
  have F := fit_of (G := G) (k := k + 1) (P := P) (w := w) (mg := mg) (base := base) (N := ["_law_node_here", "_law_path_here", "_law_found", "_law_index", "_law_child"]) (qual := "_law_paths") (st := (top 24)) (f := D 39) (cdv := cdv) (A := Ar) (outer := outer) (s := s) (H := H) (E := E) rfl hx.1 gd hr
  exact (b_cons (v_set 2 (s_lst (a_cons (s_loc 1) a_nil)) sc39.nd)
    (b_cons (v_for nF F (i_enum F T.b_enumerate (a_cons (s_ix F (s_loc 0) s_int) a_nil)) (g_tup F (gs_cons 3 (gs_cons 4 gs_nil sc39.nd) sc39.nd))
    (b_one (v_set 2 (s_bin (so_add F) (s_loc 2) (s_call F A.f39.up T.g__law_paths T.k39 (a_cons (s_loc 4) (a_cons (s_bin (so_add F) (s_loc 1) (s_tup (a_cons (s_loc 3) a_nil))) a_nil)))) sc39.nd)))
    (b_one (v_ret (s_loc 2)))))
theorem sc40 : FnScope ["_law_node_here", "_law_path_here", "_law_index"] ["_law_node_here", "_law_path_here"] (defScope (top 25)) := ⟨rfl, rfl, rfl, by decide +kernel, rfl, by decide +kernel, by decide +kernel⟩
def b40 (cl : Nat → Fn) (nF : Nat) : Ev :=
  (eSeq (eFor nF (iT (eLoc 1)) (gN 2)
    (eAsg (gN 0) (eBin oIx (eBin oIx (eLoc 0) (eK (.int 2))) (eLoc 2))))
    (eRet (eLoc 0)))
theorem ok40 {nF : Nat} (T : Txt P G D mg) (hx : G.xs = none ∧ G.xd = none) (A : Al P w mg base G k D cl) (u : DefAt G.K "_law_at" (top 25) (D 40) fd) :
    FnG P w G.K mg base (k + 2) (D 40) fd ["_law_node_here", "_law_path_here"] (spC G (["_law_node_here", "_law_path_here"] : List Str).length (fnOf (["_law_node_here", "_law_path_here"] : List Str).length (["_law_node_here", "_law_path_here", "_law_index"] : List Str).length (b40 cl nF))) := by
  refine fn_ok (G := G) (P := P) (w := w) (K := G.K) (mg := mg) (base := base) (qual := "_law_at") (st := (top 25)) (f := D 40) (fd := fd) (N := ["_law_node_here", "_law_path_here", "_law_index"]) (ps := ["_law_node_here", "_law_path_here"]) (k := k + 1) (body := b40 cl nF) u sc40 (by decide) hx ?_
  intro cdv Ar outer s H E gd hr
  have F := fit_of (G := G) (k := k + 1) (P := P) (w := w) (mg := mg) (base := base) (N := ["_law_node_here", "_law_path_here", "_law_index"]) (qual := "_law_at") (st := (top 25)) (f := D 40) (cdv := cdv) (A := Ar) (outer := outer) (s := s) (H := H) (E := E) rfl hx.1 gd hr
  exact (b_cons (v_for nF F (i_tup F (s_loc 1)) (g_name 2 sc40.nd)
    (b_one (v_set 0 (s_ix F (s_ix F (s_loc 0) s_int) (s_loc 2)) sc40.nd)))
    (b_one (v_ret (s_loc 0))))
theorem sc41 : FnScope ["_law_pool_here", "_law_node_here", "_law_left", "_law_found", "_law_turn", "_law_inner", "_law_child"] ["_law_pool_here", "_law_node_here"] (defScope (top 26)) := ⟨rfl, rfl, rfl, by decide +kernel, rfl, by decide +kernel, by decide +kernel⟩
def b41 (cl : Nat → Fn) (nF : Nat) : Ev :=
  (eSeq (ePar 2 3 (eCons (eBlt bList (eCons (eBin oIx (eLoc 1) (eK (.int 1))) eNil)) (eCons (eBin oIx (eLoc 1) (eK (.int 0))) eNil)))
    (eSeq (eFor nF (iR1 (eCons (eBlt bLen (eCons (eBin oIx (eLoc 1) (eK (.int 1))) eNil)) eNil)) (gN 4)
    (eAsg (gN 3) (eBin oAdd (eBin oAdd (eLoc 3) (eK (.str "."))) (eBM "list" mPop (eLoc 2) (eCons (eCall (cl 36) [] (eCons (eLoc 0) (eCons (eBlt bLen (eCons (eLoc 2) eNil)) eNil))) eNil)))))
    (eSeq (eAsg (gN 5) (eBM "str" mJoin (eK (.str ",")) (eCons (eLc nF (iL (eBin oIx (eLoc 1) (eK (.int 2)))) [6] (gN 6) eYes (eCall (cl 41) [] (eCons (eLoc 0) (eCons (eLoc 6) eNil)))) eNil)))
    (eRet (eIf (eBin oNe (eLoc 5) (eK (.str ""))) (eBin oAdd (eBin oAdd (eBin oAdd (eLoc 3) (eK (.str "("))) (eLoc 5)) (eK (.str ")"))) (eLoc 3))))))
theorem ok41 {nF : Nat} (T : Txt P G D mg) (hx : G.xs = none ∧ G.xd = none) (A : Al P w mg base G k D cl) (u : DefAt G.K "_law_mixed" (top 26) (D 41) fd) :
    FnG P w G.K mg base (k + 2) (D 41) fd ["_law_pool_here", "_law_node_here"] (spC G (["_law_pool_here", "_law_node_here"] : List Str).length (fnOf (["_law_pool_here", "_law_node_here"] : List Str).length (["_law_pool_here", "_law_node_here", "_law_left", "_law_found", "_law_turn", "_law_inner", "_law_child"] : List Str).length (b41 cl nF))) := by
  refine fn_ok (G := G) (P := P) (w := w) (K := G.K) (mg := mg) (base := base) (qual := "_law_mixed") (st := (top 26)) (f := D 41) (fd := fd) (N := ["_law_pool_here", "_law_node_here", "_law_left", "_law_found", "_law_turn", "_law_inner", "_law_child"]) (ps := ["_law_pool_here", "_law_node_here"]) (k := k + 1) (body := b41 cl nF) u sc41 (by decide) hx ?_
  intro cdv Ar outer s H E gd hr
  have F := fit_of (G := G) (k := k + 1) (P := P) (w := w) (mg := mg) (base := base) (N := ["_law_pool_here", "_law_node_here", "_law_left", "_law_found", "_law_turn", "_law_inner", "_law_child"]) (qual := "_law_mixed") (st := (top 26)) (f := D 41) (cdv := cdv) (A := Ar) (outer := outer) (s := s) (H := H) (E := E) rfl hx.1 gd hr
  exact (b_cons (v_par 2 3 F (a_cons (s_blty (c_list F.K) T.b_list (by decide +kernel) (a_cons (s_ix F (s_loc 1) s_int) a_nil)) (a_cons (s_ix F (s_loc 1) s_int) a_nil)) sc41.nd)
    (b_cons (v_for nF F (i_rng1 T.b_range (a_cons (s_blt (c_len F.K) T.b_len PySem.boot_len (a_cons (s_ix F (s_loc 1) s_int) a_nil)) a_nil)) (g_name 4 sc41.nd)
    (b_one (v_set 3 (s_bin (so_add F) (s_bin (so_add F) (s_loc 3) s_str) (s_bm F PySem.F.plainAttrs_list PySem.F.slot_list_pop PySem.F.type_list_pop m_pop (s_loc 2) (a_cons (s_call F A.f36.up T.g__law_take T.k36 (a_cons (s_loc 0) (a_cons (s_blt (c_len F.K) T.b_len PySem.boot_len (a_cons (s_loc 2) a_nil)) a_nil))) a_nil))) sc41.nd)))
    (b_cons (v_set 5 (s_bm F PySem.F.plainAttrs_str PySem.F.slot_str_join PySem.F.type_str_join (m_join F.K) s_str (a_cons (s_lc nF F sc41.nd (i_list F (s_ix F (s_loc 1) s_int)) (own := [("_law_child", 6)]) (blkOk_by rfl) (fun _ _ _ _ _ => (gw_name 6 sc41.nd)) (fun _ _ _ _ _ => ts_nil) (fun _ _ _ _ _ => (s_call (Fit.blk F) A.f41.up T.g__law_mixed T.k41 (a_cons (s_loc 0) (a_cons (s_loc 6) a_nil))))) a_nil)) sc41.nd)
    (b_one (v_ret (s_if (t_cmp (so_ne F) (s_loc 5) s_str) (s_bin (so_add F) (s_bin (so_add F) (s_bin (so_add F) (s_loc 3) s_str) (s_loc 5)) s_str) (s_loc 3)))))))
theorem sc42 : FnScope ["_law_document", "_law_node_here", "_law_paths_here", "_law_path_here", "_law_one"] ["_law_document", "_law_node_here", "_law_paths_here"] (defScope (top 27)) := ⟨rfl, rfl, rfl, by decide +kernel, rfl, by decide +kernel, by decide +kernel⟩
def b42 (cl : Nat → Fn) (nF : Nat) : Ev :=
  (eSeq (eFor nF (iL (eLoc 2)) (gN 3)
    (eSeq (eAsg (gN 4) (eCall (cl 40) [] (eCons (eLoc 1) (eCons (eLoc 3) eNil))))
    (eSeq (eIfS (eOr (eBin oNe (eMethS 5 (cl 25) [] (eLoc 0) (eCons (eLoc 3) eNil)) (eBin oIx (eLoc 4) (eK (.int 0)))) (eBin oNe (eMethK0 5 (cl 26) 1 [0] (eLoc 0) (eCons (eLoc 3) eNil)) (eBlt bTuple (eCons (eBlt bSortedX (eCons (eBin oIx (eLoc 4) (eK (.int 1))) eNil)) eNil)))) (eRet (eK (.bl false))) eEnd)
    (eSeq (eIfS (eOr (eBin oNe (eMethS 5 (cl 27) [] (eLoc 0) (eCons (eLoc 3) eNil)) (eBlt bLen (eCons (eBin oIx (eLoc 4) (eK (.int 2))) eNil))) (eBin oNe (eProp 5 (cl 20) (eMethS 5 (cl 28) [] (eLoc 0) (eCons (eLoc 3) eNil))) (eCall (cl 38) [] (eCons (eLoc 4) eNil)))) (eRet (eK (.bl false))) eEnd)
    (eIfS (eOr (eBin (oInO 5 (cl 23)) (eBin oAdd (eLoc 3) (eTup (eCons (eBlt bLen (eCons (eBin oIx (eLoc 4) (eK (.int 2))) eNil)) eNil))) (eLoc 0)) (eOr (eBin (oNotInO 5 (cl 23)) (eLoc 3) (eLoc 0)) (eBin (oInO 5 (cl 23)) (eBlt bList (eCons (eLoc 3) eNil)) (eLoc 0)))) (eRet (eK (.bl false))) eEnd)))))
    (eRet (eK (.bl true))))
theorem ok42 {nF : Nat} (T : Txt P G D mg) (hx : G.xs = none ∧ G.xd = none) (A : Al P w mg base G k D cl) (u : DefAt G.K "_law_nodes_right" (top 27) (D 42) fd) :
    FnG P w G.K mg base (k + 2) (D 42) fd ["_law_document", "_law_node_here", "_law_paths_here"] (spC G (["_law_document", "_law_node_here", "_law_paths_here"] : List Str).length (fnOf (["_law_document", "_law_node_here", "_law_paths_here"] : List Str).length (["_law_document", "_law_node_here", "_law_paths_here", "_law_path_here", "_law_one"] : List Str).length (b42 cl nF))) := by
  refine fn_ok (G := G) (P := P) (w := w) (K := G.K) (mg := mg) (base := base) (qual := "_law_nodes_right") (st := (top 27)) (f := D 42) (fd := fd) (N := ["_law_document", "_law_node_here", "_law_paths_here", "_law_path_here", "_law_one"]) (ps := ["_law_document", "_law_node_here", "_law_paths_here"]) (k := k + 1) (body := b42 cl nF) u sc42 (by decide) hx ?_
  intro cdv Ar outer s H E gd hr
  have F := fit_of (G := G) (k := k + 1) (P := P) (w := w) (mg := mg) (base := base) (N := ["_law_document", "_law_node_here", "_law_paths_here", "_law_path_here", "_law_one"]) (qual := "_law_nodes_right") (st := (top 27)) (f := D 42) (cdv := cdv) (A := Ar) (outer := outer) (s := s) (H := H) (E := E) rfl hx.1 gd hr
  exact (b_cons (v_for nF F (i_list F (s_loc 2)) (g_name 3 sc42.nd)
    (b_cons (v_set 4 (s_call F A.f40.up T.g__law_at T.k40 (a_cons (s_loc 1) (a_cons (s_loc 3) a_nil))) sc42.nd)
    (b_cons (v_if (t_p (p_or (t_cmp (so_ne F) (s_methS F ⟨_, T.sc5, T.me5_kind, A.f25.up⟩ (s_loc 0) (a_cons (s_loc 3) a_nil)) (s_ix F (s_loc 4) s_int)) (p_or1 (t_cmp (so_ne F) (s_methK0 F ⟨_, T.sc5, T.me5_marks, A.f26_k1.up⟩ (s_loc 0) (k_cons (s_loc 3) k_nil)) (s_blty (c_tuple F.K) T.b_tuple (by decide +kernel) (a_cons (s_blt (c_sortedX F.K) T.b_sorted (by decide +kernel) (a_cons (s_ix F (s_loc 4) s_int) a_nil)) a_nil)))))) (b_one (v_ret s_bl)) b_end)
    (b_cons (v_if (t_p (p_or (t_cmp (so_ne F) (s_methS F ⟨_, T.sc5, T.me5_width, A.f27.up⟩ (s_loc 0) (a_cons (s_loc 3) a_nil)) (s_blt (c_len F.K) T.b_len PySem.boot_len (a_cons (s_ix F (s_loc 4) s_int) a_nil))) (p_or1 (t_cmp (so_ne F) (s_prop F ⟨T.sc5, T.pr5_text⟩ A.f20 (s_methS F ⟨_, T.sc5, T.me5_part, A.f28.up⟩ (s_loc 0) (a_cons (s_loc 3) a_nil))) (s_call F A.f38.up T.g__law_text T.k38 (a_cons (s_loc 4) a_nil)))))) (b_one (v_ret s_bl)) b_end)
    (b_one (v_if (t_p (p_or (t_cmp (so_inO F ⟨T.sc5, T.ow5___contains__.1, T.ow5___contains__.2⟩ A.f23.up) (s_bin (so_add F) (s_loc 3) (s_tup (a_cons (s_blt (c_len F.K) T.b_len PySem.boot_len (a_cons (s_ix F (s_loc 4) s_int) a_nil)) a_nil))) (s_loc 0)) (p_or (t_cmp (so_notInO F ⟨T.sc5, T.ow5___contains__.1, T.ow5___contains__.2⟩ A.f23.up) (s_loc 3) (s_loc 0)) (p_or1 (t_cmp (so_inO F ⟨T.sc5, T.ow5___contains__.1, T.ow5___contains__.2⟩ A.f23.up) (s_blty (c_list F.K) T.b_list (by decide +kernel) (a_cons (s_loc 3) a_nil)) (s_loc 0)))))) (b_one (v_ret s_bl)) b_end))))))
    (b_one (v_ret s_bl)))
theorem sc43 : FnScope ["_law_one", "_law_found", "_law_left", "_law_at_here", "_law_place"] ["_law_one"] (defScope (top 28)) := ⟨rfl, rfl, rfl, by decide +kernel, rfl, by decide +kernel, by decide +kernel⟩
def b43 (cl : Nat → Fn) (nF : Nat) : Ev :=
  (eSeq (ePar 1 2 (eCons (eLst eNil) (eCons (eLst (eCons (eTup eNil) eNil)) eNil)))
    (eSeq (eWhl (eAnd (eBin oNe (eLoc 2) (eLst eNil)) (eBin oLt (eBlt bLen (eCons (eLoc 1) eNil)) (eK (.int 200)))) (eSeq (eAsg (gN 3) (eBM "list" mPop (eLoc 2) eNil))
    (eSeq (eDrop (eBM "list" mAppend (eLoc 1) (eCons (eLoc 3) eNil)))
    (eAsg (gN 2) (eBin oAdd (eLoc 2) (eRev (eLc nF (iR1 (eCons (eMethS 5 (cl 27) [] (eLoc 0) (eCons (eLoc 3) eNil)) eNil)) [4] (gN 4) eYes (eBin oAdd (eLoc 3) (eTup (eCons (eLoc 4) eNil))))))))) nF)
    (eRet (eLoc 1))))
theorem ok43 {nF : Nat} (T : Txt P G D mg) (hx : G.xs = none ∧ G.xd = none) (A : Al P w mg base G k D cl) (u : DefAt G.K "_law_every" (top 28) (D 43) fd) :
    FnG P w G.K mg base (k + 2) (D 43) fd ["_law_one"] (spC G (["_law_one"] : List Str).length (fnOf (["_law_one"] : List Str).length (["_law_one", "_law_found", "_law_left", "_law_at_here", "_law_place"] : List Str).length (b43 cl nF))) := by
  refine fn_ok (G := G) (P := P) (w := w) (K := G.K) (mg := mg) (base := base) (qual := "_law_every") (st := (top 28)) (f := D 43) (fd := fd) (N := ["_law_one", "_law_found", "_law_left", "_law_at_here", "_law_place"]) (ps := ["_law_one"]) (k := k + 1) (body := b43 cl nF) u sc43 (by decide) hx ?_
  intro cdv Ar outer s H E gd hr
  have F := fit_of (G := G) (k := k + 1) (P := P) (w := w) (mg := mg) (base := base) (N := ["_law_one", "_law_found", "_law_left", "_law_at_here", "_law_place"]) (qual := "_law_every") (st := (top 28)) (f := D 43) (cdv := cdv) (A := Ar) (outer := outer) (s := s) (H := H) (E := E) rfl hx.1 gd hr
  exact (b_cons (v_par 1 2 F (a_cons (s_lst a_nil) (a_cons (s_lst (a_cons (s_tup a_nil) a_nil)) a_nil)) sc43.nd)
    (b_cons (v_while nF F (t_p (p_and (t_cmp (so_ne F) (s_loc 2) (s_lst a_nil)) (p_and1 (t_cmp so_lt (s_blt (c_len F.K) T.b_len PySem.boot_len (a_cons (s_loc 1) a_nil)) s_int)))) (b_cons (v_set 3 (s_bm0 F PySem.F.plainAttrs_list PySem.F.slot_list_pop PySem.F.type_list_pop m_pop (s_loc 2)) sc43.nd)
    (b_cons (v_drop (s_bm F PySem.F.plainAttrs_list PySem.F.slot_list_append PySem.F.type_list_append m_append (s_loc 1) (a_cons (s_loc 3) a_nil)))
    (b_one (v_set 2 (s_bin (so_add F) (s_loc 2) (s_rev F (s_lc nF F sc43.nd (i_rng1 T.b_range (a_cons (s_methS F ⟨_, T.sc5, T.me5_width, A.f27.up⟩ (s_loc 0) (a_cons (s_loc 3) a_nil)) a_nil)) (own := [("_law_place", 4)]) (blkOk_by rfl) (fun _ _ _ _ _ => (gw_name 4 sc43.nd)) (fun _ _ _ _ _ => ts_nil) (fun _ _ _ _ _ => (s_bin (so_add (Fit.blk F)) (s_loc 3) (s_tup (a_cons (s_loc 4) a_nil))))))) sc43.nd)))))
    (b_one (v_ret (s_loc 1)))))
theorem sc44 : FnScope ["_law_script", "_law_k", "_law_pool_here", "_law_node_here", "_law_paths_here", "_law_document", "_law_odd"] ["_law_script"] (defScope (top 29)) := ⟨rfl, rfl, rfl, by decide +kernel, rfl, by decide +kernel, by decide +kernel⟩
def b44 (cl : Nat → Fn) (nF : Nat) : Ev :=
  (eSeq (eFor nF (iR1 (eCons (eBlt bMax (eCons (eK (.int 1)) (eCons (eBlt bMin (eCons (eK (.int 12)) (eCons (eBlt bLen (eCons (eLoc 0) eNil)) eNil))) eNil))) eNil)) (gN 1)
    (eSeq (eAsg (gN 2) (eCall (cl 35) [] (eCons (eLoc 0) (eCons (eLoc 1) eNil))))
    (eSeq (eAsg (gN 3) (eCall (cl 37) [] (eCons (eLoc 2) (eCons (eCall (cl 36) [] (eCons (eLoc 2) (eCons (eK (.int 5)) eNil))) (eCons (eLst (eCons (eK (.str "a")) (eCons (eK (.str "item")) (eCons (eK (.str "longname")) eNil)))) (eCons (eLst (eCons (eK (.str "hot")) (eCons (eK (.str "new")) (eCons (eK (.str "z")) eNil)))) eNil))))))
    (eSeq (eAsg (gN 4) (eCall (cl 39) [] (eCons (eLoc 3) (eCons (eTup eNil) eNil))))
    (eSeq (eIfS (eBin oGt (eBlt bLen (eCons (eLoc 4) eNil)) (eK (.int 200))) eCnt eEnd)
    (eSeq (eAsg (gN 5) (eCallK (cl 14) 1 [0] (eCons (eCall (cl 41) [] (eCons (eLoc 2) (eCons (eLoc 3) eNil))) eNil)))
    (eSeq (eIfS (eOr (eBin oNe (eProp 5 (cl 20) (eLoc 5)) (eCall (cl 38) [] (eCons (eLoc 3) eNil))) (eOr (eBin oNe (eProp 5 (cl 21) (eLoc 5)) (eBlt bLen (eCons (eLoc 4) eNil))) (eBin oNe (eCall (cl 43) [] (eCons (eLoc 5) eNil)) (eLoc 4)))) (eRet (eK (.bl false))) eEnd)
    (eSeq (eIfS (eNot (eCall (cl 42) [] (eCons (eLoc 5) (eCons (eLoc 3) (eCons (eLoc 4) eNil))))) (eRet (eK (.bl false))) eEnd)
    (eSeq (eIfS (eOr (eNot (eBin (oEqO 5 (cl 34)) (eCall (cl 14) [] (eCons (eProp 5 (cl 20) (eLoc 5)) eNil)) (eLoc 5))) (eOr (eBin (oEqO 5 (cl 34)) (eLoc 5) (eK (.int 5))) (eBin (oEqO 5 (cl 34)) (eLoc 5) (eProp 5 (cl 20) (eLoc 5))))) (eRet (eK (.bl false))) eEnd)
    (eSeq (eFor nF (iL (eLst (eCons (eK .non) (eCons (eK (.int 5)) (eCons (eK (.str "")) (eCons (eTup (eCons (eK (.bl true)) eNil)) (eCons (eTup (eCons (eNeg (eK (.int 1))) eNil)) (eCons (eTup (eCons (eK .non) eNil)) (eCons (eTup (eCons (eK (.int 0)) (eCons (eK (.str "0")) eNil))) (eCons (eLst (eCons (eK (.int 0)) eNil)) (eCons (eTup (eCons (eK (.str "")) eNil)) eNil))))))))))) (gN 6)
    (eIfS (eBin (oInO 5 (cl 23)) (eLoc 6) (eLoc 5)) (eRet (eK (.bl false))) eEnd))
    (eIfS (eOr (eNot (eIsO tsO5 tkO (eLoc 5))) (eBin (oNeO 5 (cl 34)) (eLoc 5) (eCall (cl 14) [] (eCons (eCall (cl 38) [] (eCons (eLoc 3) eNil)) eNil)))) (eRet (eK (.bl false))) eEnd)))))))))))
    (eRet (eK (.bl true))))
theorem ok44 {nF : Nat} (T : Txt P G D mg) (hx : G.xs = none ∧ G.xd = none) (A : Al P w mg base G k D cl) (u : DefAt G.K "law" (top 29) (D 44) fd) :
    FnG P w G.K mg base (k + 2) (D 44) fd ["_law_script"] (spC G (["_law_script"] : List Str).length (fnOf (["_law_script"] : List Str).length (["_law_script", "_law_k", "_law_pool_here", "_law_node_here", "_law_paths_here", "_law_document", "_law_odd"] : List Str).length (b44 cl nF))) := by
  refine fn_ok (G := G) (P := P) (w := w) (K := G.K) (mg := mg) (base := base) (qual := "law") (st := (top 29)) (f := D 44) (fd := fd) (N := ["_law_script", "_law_k", "_law_pool_here", "_law_node_here", "_law_paths_here", "_law_document", "_law_odd"]) (ps := ["_law_script"]) (k := k + 1) (body := b44 cl nF) u sc44 (by decide) hx ?_
  intro cdv Ar outer s H E gd hr
  have F := fit_of (G := G) (k := k + 1) (P := P) (w := w) (mg := mg) (base := base) (N := ["_law_script", "_law_k", "_law_pool_here", "_law_node_here", "_law_paths_here", "_law_document", "_law_odd"]) (qual := "law") (st := (top 29)) (f := D 44) (cdv := cdv) (A := Ar) (outer := outer) (s := s) (H := H) (E := E) rfl hx.1 gd hr
  exact (b_cons (v_for nF F (i_rng1 T.b_range (a_cons (s_blt (c_max F.calm) T.b_max (by decide +kernel) (a_cons s_int (a_cons (s_blt (c_min F.calm) T.b_min (by decide +kernel) (a_cons s_int (a_cons (s_blt (c_len F.K) T.b_len PySem.boot_len (a_cons (s_loc 0) a_nil)) a_nil))) a_nil))) a_nil)) (g_name 1 sc44.nd)
    (b_cons (v_set 2 (s_call F A.f35.up T.g__law_pool T.k35 (a_cons (s_loc 0) (a_cons (s_loc 1) a_nil))) sc44.nd)
    (b_cons (v_set 3 (s_call F A.f37.up T.g__law_node T.k37 (a_cons (s_loc 2) (a_cons (s_call F A.f36.up T.g__law_take T.k36 (a_cons (s_loc 2) (a_cons s_int a_nil))) (a_cons (s_lst (a_cons s_str (a_cons s_str (a_cons s_str a_nil)))) (a_cons (s_lst (a_cons s_str (a_cons s_str (a_cons s_str a_nil)))) a_nil))))) sc44.nd)
    (b_cons (v_set 4 (s_call F A.f39.up T.g__law_paths T.k39 (a_cons (s_loc 3) (a_cons (s_tup a_nil) a_nil))) sc44.nd)
    (b_cons (v_if (t_cmp so_gt (s_blt (c_len F.K) T.b_len PySem.boot_len (a_cons (s_loc 4) a_nil)) s_int) (b_one v_cnt) b_end)
    (b_cons (v_set 5 (s_callK F A.f14_k0.up T.g_parse_document T.k14 (k_cons (s_call F A.f41.up T.g__law_mixed T.k41 (a_cons (s_loc 2) (a_cons (s_loc 3) a_nil))) k_nil)) sc44.nd)
    (b_cons (v_if (t_p (p_or (t_cmp (so_ne F) (s_prop F ⟨T.sc5, T.pr5_text⟩ A.f20 (s_loc 5)) (s_call F A.f38.up T.g__law_text T.k38 (a_cons (s_loc 3) a_nil))) (p_or (t_cmp (so_ne F) (s_prop F ⟨T.sc5, T.pr5_size⟩ A.f21 (s_loc 5)) (s_blt (c_len F.K) T.b_len PySem.boot_len (a_cons (s_loc 4) a_nil))) (p_or1 (t_cmp (so_ne F) (s_call F A.f43.up T.g__law_every T.k43 (a_cons (s_loc 5) a_nil)) (s_loc 4)))))) (b_one (v_ret s_bl)) b_end)
    (b_cons (v_if (t_not (t_val (s_call F A.f42.up T.g__law_nodes_right T.k42 (a_cons (s_loc 5) (a_cons (s_loc 3) (a_cons (s_loc 4) a_nil)))))) (b_one (v_ret s_bl)) b_end)
    (b_cons (v_if (t_p (p_or (t_not (t_cmp (so_eqO F ⟨⟨T.sc5, T.ow5___eq__.1, T.ow5___eq__.2⟩, T.oe5.1, T.oe5.2⟩ A.f34.up) (s_call F A.f14.up T.g_parse_document T.k14 (a_cons (s_prop F ⟨T.sc5, T.pr5_text⟩ A.f20 (s_loc 5)) a_nil)) (s_loc 5))) (p_or (t_cmp (so_eqO F ⟨⟨T.sc5, T.ow5___eq__.1, T.ow5___eq__.2⟩, T.oe5.1, T.oe5.2⟩ A.f34.up) (s_loc 5) s_int) (p_or1 (t_cmp (so_eqO F ⟨⟨T.sc5, T.ow5___eq__.1, T.ow5___eq__.2⟩, T.oe5.1, T.oe5.2⟩ A.f34.up) (s_loc 5) (s_prop F ⟨T.sc5, T.pr5_text⟩ A.f20 (s_loc 5))))))) (b_one (v_ret s_bl)) b_end)
    (b_cons (v_for nF F (i_list F (s_lst (a_cons s_non (a_cons s_int (a_cons s_str (a_cons (s_tup (a_cons s_bl a_nil)) (a_cons (s_tup (a_cons (s_neg s_int) a_nil)) (a_cons (s_tup (a_cons s_non a_nil)) (a_cons (s_tup (a_cons s_int (a_cons s_str a_nil))) (a_cons (s_lst (a_cons s_int a_nil)) (a_cons (s_tup (a_cons s_str a_nil)) a_nil))))))))))) (g_name 6 sc44.nd)
    (b_one (v_if (t_cmp (so_inO F ⟨T.sc5, T.ow5___contains__.1, T.ow5___contains__.2⟩ A.f23.up) (s_loc 6) (s_loc 5)) (b_one (v_ret s_bl)) b_end)))
    (b_one (v_if (t_p (p_or (t_not (t_val (s_isO F ⟨T.ioS5, T.ioK5⟩ (s_loc 5) T.b_isinstance T.gc5))) (p_or1 (t_cmp (so_neO F ⟨⟨⟨T.sc5, T.ow5___eq__.1, T.ow5___eq__.2⟩, T.oe5.1, T.oe5.2⟩, T.on5.1, T.on5.2⟩ A.f34) (s_loc 5) (s_call F A.f14.up T.g_parse_document T.k14 (a_cons (s_call F A.f38.up T.g__law_text T.k38 (a_cons (s_loc 3) a_nil)) a_nil)))))) (b_one (v_ret s_bl)) b_end))))))))))))
    (b_one (v_ret s_bl)))
end
def prog (f : Nat) (cl : Nat → Fn) : Fn := match f with
  | 4 => fnOf (["value"] : List Str).length (["value"] : List Str).length (b4 cl nF)
  | 5 => fnOf (["self", "text"] : List Str).length (["self", "text"] : List Str).length (b5 cl nF)
  | 6 => fnOf (["self"] : List Str).length (["self"] : List Str).length (b6 cl nF)
  | 7 => fnOf (["self"] : List Str).length (["self"] : List Str).length (b7 cl nF)
  | 8 => fnOf (["self", "sign"] : List Str).length (["self", "sign"] : List Str).length (b8 cl nF)
  | 9 => fnOf (["self", "sign"] : List Str).length (["self", "sign"] : List Str).length (b9 cl nF)
  | 10 => fnOf (["self"] : List Str).length (["self"] : List Str).length (b10 cl nF)
  | 11 => fnOf (["self"] : List Str).length (["self", "begin"] : List Str).length (b11 cl nF)
  | 13 => fnOf (["self"] : List Str).length (["self"] : List Str).length (b13 cl nF)
  | 14 => fnOf (["text"] : List Str).length (["text", "reader", "found", "many"] : List Str).length (b14 cl nF)
  | 15 => fnOf (["reader"] : List Str).length (["reader", "stack", "node", "many"] : List Str).length (b15 cl nF)
  | 16 => fnOf (["reader"] : List Str).length (["reader", "kind", "marks", "mark"] : List Str).length (b16 cl nF)
  | 17 => fnOf (["node"] : List Str).length (["node", "found", "stack", "item", "kind", "marks", "children", "child", "mark"] : List Str).length (b17 cl nF)
  | 18 => fnOf (["node"] : List Str).length (["node", "found", "stack", "path", "item", "index"] : List Str).length (b18 cl nF)
  | 19 => fnOf (["self", "top"] : List Str).length (["self", "top"] : List Str).length (b19 cl nF)
  | 20 => fnOf (["self"] : List Str).length (["self"] : List Str).length (b20 cl nF)
  | 21 => fnOf (["self"] : List Str).length (["self"] : List Str).length (b21 cl nF)
  | 23 => fnOf (["self", "other"] : List Str).length (["self", "other", "index"] : List Str).length (b23 cl nF)
  | 24 => fnOf (["self", "path"] : List Str).length (["self", "path", "found", "index"] : List Str).length (b24 cl nF)
  | 25 => fnOf (["self", "path"] : List Str).length (["self", "path"] : List Str).length (b25 cl nF)
  | 26 => fnOf (["self", "path"] : List Str).length (["self", "path"] : List Str).length (b26 cl nF)
  | 27 => fnOf (["self", "path"] : List Str).length (["self", "path"] : List Str).length (b27 cl nF)
  | 28 => fnOf (["self", "path"] : List Str).length (["self", "path"] : List Str).length (b28 cl nF)
  | 34 => fnOf (["self", "other"] : List Str).length (["self", "other"] : List Str).length (b34 cl nF)
  | 35 => fnOf (["_law_script", "_law_k"] : List Str).length (["_law_script", "_law_k", "_law_cell", "_law_number", "_law_mixed_here"] : List Str).length (b35 cl nF)
  | 36 => fnOf (["_law_pool_here", "_law_many"] : List Str).length (["_law_pool_here", "_law_many", "_law_digit"] : List Str).length (b36 cl nF)
  | 37 => fnOf (["_law_pool_here", "_law_depth", "_law_kinds", "_law_marks"] : List Str).length (["_law_pool_here", "_law_depth", "_law_kinds", "_law_marks", "_law_kind", "_law_own", "_law_many", "_law_mark", "_law_turn"] : List Str).length (b37 cl nF)
  | 38 => fnOf (["_law_node_here"] : List Str).length (["_law_node_here", "_law_head", "_law_inner", "_law_mark", "_law_child"] : List Str).length (b38 cl nF)
  | 39 => fnOf (["_law_node_here", "_law_path_here"] : List Str).length (["_law_node_here", "_law_path_here", "_law_found", "_law_index", "_law_child"] : List Str).length (b39 cl nF)
  | 40 => fnOf (["_law_node_here", "_law_path_here"] : List Str).length (["_law_node_here", "_law_path_here", "_law_index"] : List Str).length (b40 cl nF)
  | 41 => fnOf (["_law_pool_here", "_law_node_here"] : List Str).length (["_law_pool_here", "_law_node_here", "_law_left", "_law_found", "_law_turn", "_law_inner", "_law_child"] : List Str).length (b41 cl nF)
  | 42 => fnOf (["_law_document", "_law_node_here", "_law_paths_here"] : List Str).length (["_law_document", "_law_node_here", "_law_paths_here", "_law_path_here", "_law_one"] : List Str).length (b42 cl nF)
  | 43 => fnOf (["_law_one"] : List Str).length (["_law_one", "_law_found", "_law_left", "_law_at_here", "_law_place"] : List Str).length (b43 cl nF)
  | 44 => fnOf (["_law_script"] : List Str).length (["_law_script", "_law_k", "_law_pool_here", "_law_node_here", "_law_paths_here", "_law_document", "_law_odd"] : List Str).length (b44 cl nF)
  | _ => fun _ _ => .no
def run : Nat → Nat → Fn
  | 0, _ => fun _ _ => .no
  | d + 1, f => prog f (run d)
section
variable {P : Program} {w : World} {mg : Str → Option Value} {base : Heap} {G : Cfg} {k : Nat} {D : Nat → Addr} {cl : Nat → Fn}
theorem al_succ (T : Txt P G D mg) (hx : G.xs = none ∧ G.xd = none) (A : Al P w mg base G k D cl) : Al P w mg base G (k + 2) D (fun f => prog f cl) :=
  ⟨FOkB.of T.u35 (fun _ u => ok35 T hx A u),
   FOkB.of T.u36 (fun _ u => ok36 T hx A u),
   FOkB.of T.u37 (fun _ u => ok37 T hx A u),
   FOkB.of T.u39 (fun _ u => ok39 T hx A u),
   FOkB.of T.u14 (fun _ u => ok14 T hx A u),
   FOkB.of T.u41 (fun _ u => ok41 T hx A u),
   FOkB.of T.u20 (fun _ u => ok20 T hx A u),
   FOkB.of T.u38 (fun _ u => ok38 T hx A u),
   FOkB.of T.u21 (fun _ u => ok21 T hx A u),
   FOkB.of T.u43 (fun _ u => ok43 T hx A u),
   FOkB.of T.u42 (fun _ u => ok42 T hx A u),
   FOkB.of T.u34 (fun _ u => ok34 T hx A u),
   FOkB.of T.u23 (fun _ u => ok23 T hx A u),
   FOkB.of T.u4 (fun _ u => ok4 T hx A u),
   FOkB.of T.u40 (fun _ u => ok40 T hx A u),
   FOkB.of T.u25 (fun _ u => ok25 T hx A u),
   FOkB.of T.u26 (fun _ u => ok26 T hx A u),
   FOkB.of T.u27 (fun _ u => ok27 T hx A u),
   FOkB.of T.u28 (fun _ u => ok28 T hx A u),
   FOkB.of T.u24 (fun _ u => ok24 T hx A u),
   FOkB.of T.u19 (fun _ u => ok19 T hx A u),
   FOkB.of T.u18 (fun _ u => ok18 T hx A u),
   FOkB.of T.u17 (fun _ u => ok17 T hx A u),
   FOkB.of T.u5 (fun _ u => ok5 T hx A u),
   FOkB.of T.u15 (fun _ u => ok15 T hx A u),
   FOkB.of T.u13 (fun _ u => ok13 T hx A u),
   FOkB.of T.u6 (fun _ u => ok6 T hx A u),
   FOkB.of T.u16 (fun _ u => ok16 T hx A u),
   FOkB.of T.u8 (fun _ u => ok8 T hx A u),
   FOkB.of T.u9 (fun _ u => ok9 T hx A u),
   FOkB.of T.u7 (fun _ u => ok7 T hx A u),
   FOkB.of T.u11 (fun _ u => ok11 T hx A u),
   FOkB.of T.u10 (fun _ u => ok10 T hx A u),
   FOkBK.of T.u14_k0 (fun _ u => ok14 T hx A u),
   FOkBK.of T.u26_k1 (fun _ u => ok26 T hx A u)⟩
theorem al_all (T : Txt P G D mg) (hx : G.xs = none ∧ G.xd = none) : ∀ d, Al P w mg base G (2 * d) D (run d)
  | 0 => ⟨FOkB.no T.u35, FOkB.no T.u36, FOkB.no T.u37, FOkB.no T.u39, FOkB.no T.u14, FOkB.no T.u41, FOkB.no T.u20, FOkB.no T.u38, FOkB.no T.u21, FOkB.no T.u43, FOkB.no T.u42, FOkB.no T.u34, FOkB.no T.u23, FOkB.no T.u4, FOkB.no T.u40, FOkB.no T.u25, FOkB.no T.u26, FOkB.no T.u27, FOkB.no T.u28, FOkB.no T.u24, FOkB.no T.u19, FOkB.no T.u18, FOkB.no T.u17, FOkB.no T.u5, FOkB.no T.u15, FOkB.no T.u13, FOkB.no T.u6, FOkB.no T.u16, FOkB.no T.u8, FOkB.no T.u9, FOkB.no T.u7, FOkB.no T.u11, FOkB.no T.u10, FOkBK.no T.u14_k0, FOkBK.no T.u26_k1⟩
  | d + 1 => al_succ T hx (al_all T hx d)
def clP : Nat → Fn := fun f => match f with
  | f => run 60 f
theorem al_P (T : Txt P G D mg) (hx : G.xs = none ∧ G.xd = none) : Al P w mg base G (2 * 60) D clP := by
  have A := al_all (P := P) (w := w) (mg := mg) (base := base) T hx 60
  exact ⟨A.f35, A.f36, A.f37, A.f39, A.f14, A.f41, A.f20, A.f38, A.f21, A.f43, A.f42, A.f34, A.f23, A.f4, A.f40, A.f25, A.f26, A.f27, A.f28, A.f24, A.f19, A.f18, A.f17, A.f5, A.f15, A.f13, A.f6, A.f16, A.f8, A.f9, A.f7, A.f11, A.f10, A.f14_k0, A.f26_k1⟩
end
def lawF : Fn := fnOf (["_law_script"] : List Str).length (["_law_script", "_law_k", "_law_pool_here", "_law_node_here", "_law_paths_here", "_law_document", "_law_odd"] : List Str).length (b44 clP nF)
def LawV : Prop := ∀ ns : List Int, ns.length ≤ 63 → (∀ z ∈ ns, Builtin.Int.intBits z ≤ 1048576) → ∃ h', lawF [.ref 0] [.rol (ns.map W.int)] = .v (.bl true) h'
end Dr.L
set_option maxHeartbeats 4000000
namespace Dr.L
open PySem L2 PyProof.Rows Dr
/-! ### texts -/
def sl (t : Str) (i j : Nat) : Str := ⟨((t.cps.toList.drop i).take (j - i)).toArray⟩
def ch (t : Str) (i : Nat) : Option Nat := t.cps.toList[i]?
def pk (t : Str) (i : Nat) : Str := match ch t i with | some c => ⟨#[c]⟩ | none => ⟨#[]⟩
theorem cut_nn (t : Str) (i j : Nat) : cutS t (some (i : Int)) (some (j : Int)) = sl t i j := by
  unfold cutS sl
  rw [HT.sIx_nat, HT.sIx_nat]
  congr 2
  have hl : t.length = t.cps.toList.length := by simp [Str.length]
  rw [hl]
  by_cases q : i ≤ t.cps.toList.length
  · rw [Nat.min_eq_left q]
    by_cases q2 : j ≤ t.cps.toList.length
    · rw [Nat.min_eq_left q2]
    · rw [Nat.min_eq_right (by omega), List.take_of_length_le (by simp), List.take_of_length_le (by rw [List.length_drop]; omega)]
  · rw [List.drop_of_length_le (by omega), List.drop_of_length_le (by omega)]; simp
theorem sl_pk (t : Str) (i : Nat) : sl t i (i + 1) = pk t i := by
  unfold sl pk ch
  rw [show i + 1 - i = 1 by omega]
  cases q : t.cps.toList[i]? with
  | none => rw [List.drop_of_length_le (List.getElem?_eq_none_iff.mp q)]; rfl
  | some c =>
    obtain ⟨h, rfl⟩ := List.getElem?_eq_some_iff.mp q
    rw [List.drop_eq_getElem_cons h]; rfl
theorem cut_pk (t : Str) (i : Nat) : cutS t (some (i : Int)) (some ((i : Int) + 1)) = pk t i := by
  rw [← sl_pk, ← cut_nn]; rfl
theorem eqS_pk (t : Str) (i c : Nat) : eqS (pk t i) ⟨#[c]⟩ = decide (ch t i = some c) := by
  rw [eqS_eq]
  unfold pk
  cases q : ch t i with
  | none => rfl
  | some d => simp
theorem eqS_pk0 (t : Str) (i : Nat) : eqS (pk t i) ⟨#[]⟩ = decide (ch t i = none) := by
  rw [eqS_eq]
  unfold pk
  cases q : ch t i with
  | none => rfl
  | some d => simp
def isL (c : Nat) : Bool := memL c ("abcdefghijklmnopqrstuvwxyz" : Str).cps.toList
def isLo : Option Nat → Bool
  | some c => isL c
  | none => false
def wlen : List Nat → Nat
  | [] => 0
  | c :: r => if isL c = true then wlen r + 1 else 0
theorem wlen_le : ∀ cs : List Nat, wlen cs ≤ cs.length
  | [] => Nat.le_refl _
  | c :: r => by unfold wlen; split <;> simp [wlen_le r]
theorem wlen_drop (t : Str) (i : Nat) : wlen (t.cps.toList.drop i) = if isLo (ch t i) = true then wlen (t.cps.toList.drop (i + 1)) + 1 else 0 := by
  unfold ch
  cases q : t.cps.toList[i]? with
  | none => rw [List.drop_of_length_le (List.getElem?_eq_none_iff.mp q)]; rfl
  | some c =>
    obtain ⟨h, rfl⟩ := List.getElem?_eq_some_iff.mp q
    rw [List.drop_eq_getElem_cons h]; rfl
def word (t : Str) (i : Nat) : Option Nat := if 1 ≤ wlen (t.cps.toList.drop i) ∧ wlen (t.cps.toList.drop i) ≤ 8 then some (i + wlen (t.cps.toList.drop i)) else none
theorem word_le {t : Str} {i e : Nat} (h : word t i = some e) : i < e ∧ e ≤ t.length := by
  unfold word at h
  split at h
  · rename_i q
    cases h
    have := wlen_le (t.cps.toList.drop i)
    rw [List.length_drop] at this
    have hl : t.length = t.cps.toList.length := by simp [Str.length]
    omega
  · cases h
theorem len_cps (t : Str) : t.cps.toList.length = t.length := by simp [Str.length]
/-! ### the reader -/
def rdr (t : Str) (i : Nat) : IO := .ins 4 [("source", .str t), ("spot", .int i)]
theorem look1 (a b : W) : lookW "source" [("source", a), ("spot", b)] = some a := rfl
theorem look2 (a b : W) : lookW "spot" [("source", a), ("spot", b)] = some b := rfl
theorem put2 (a b c : W) : putW "spot" c [("source", a), ("spot", b)] = ([("source", a), ("spot", c)] : List (Str × W)) := rfl
theorem fld_src {h : IH} {r i : Nat} {t : Str} (hr : h[r]? = some (rdr t i)) : fldAt cs4 "source" (.ref r) h = .v (.str t) h := by
  unfold fldAt; simp only [hr, rdr, look1]; rfl
theorem fld_spot {h : IH} {r i : Nat} {t : Str} (hr : h[r]? = some (rdr t i)) : fldAt cs4 "spot" (.ref r) h = .v (.int i) h := by
  unfold fldAt; simp only [hr, rdr, look2]; rfl
theorem recv_ok {h : IH} {r i : Nat} {t : Str} {nm : Str} {tbl : Nat → Option (Fn × List W)} {fn : Fn} {dw : List W} {q : Fn → List W → Out} (hr : h[r]? = some (rdr t i)) (hn : (([("source", .str t), ("spot", .int i)] : List (Str × W)).lookup nm).isNone = true) (ht : tbl 4 = some (fn, dw)) :
    recv nm tbl (.ref r) h q = q fn dw := by
  unfold recv; simp only [hr, rdr, hn, ht, if_true]

theorem set_same {h : IH} {r : Nat} {o : IO} (hr : h[r]? = some o) : h.set r o = h := by
  obtain ⟨q, e⟩ := List.getElem?_eq_some_iff.mp hr
  rw [← e]; exact List.set_getElem_self q
theorem get_set {h : IH} {r : Nat} {o o' : IO} (hr : h[r]? = some o) : (h.set r o')[r]? = some o' := by
  obtain ⟨q, e⟩ := List.getElem?_eq_some_iff.mp hr
  simp [q]
theorem fn_run {d f n N : Nat} {b : (Nat → Fn) → Nat → Ev} {ws : List W} {h : IH} (e : prog f (run d) = fnOf n N (b (run d) nF)) (hl : ws.length = n) : run (d + 1) f ws h = (b (run d) nF (slots N ws) h).fin := by
  show prog f (run d) ws h = _
  rw [e]; unfold fnOf; rw [if_pos hl]
variable {t : Str} {i r d : Nat} {h : IH}
theorem fail_ok (hr : h[r]? = some (rdr t i)) : run (d + 1) 6 [.ref r] h = .ex 1 (.str t) [some (.ref r)] h := by
  rw [fn_run (b := b6) (n := 1) (N := 1) rfl rfl]
  simp [b6, slots, fld_src hr]
theorem peek_ok (hb : t.length ≤ 16777216) (hr : h[r]? = some (rdr t i)) : run (d + 1) 7 [.ref r] h = .v (.str (pk t i)) h := by
  rw [fn_run (b := b7) (n := 1) (N := 1) rfl rfl]
  simp [b7, slots, fld_src hr, fld_spot hr, oSl, hb, cut_pk]
theorem rc_peek {n : Str} (hr : h[r]? = some (rdr t i)) : recv "peek" (mt4_peek_0 (run d)) (.ref r) h = fun q => q (run d 7) [] := by
  funext q; exact recv_ok hr rfl rfl
theorem rc_fail (hr : h[r]? = some (rdr t i)) : recv "fail" (mt4_fail_0 (run d)) (.ref r) h = fun q => q (run d 6) [] := by
  funext q; exact recv_ok hr rfl rfl
theorem rc_sign (hr : h[r]? = some (rdr t i)) : recv "is_sign" (mt4_is_sign_1 (run d)) (.ref r) h = fun q => q (run d 8) [] := by
  funext q; exact recv_ok hr rfl rfl
theorem rc_need (hr : h[r]? = some (rdr t i)) : recv "need" (mt4_need_1 (run d)) (.ref r) h = fun q => q (run d 9) [] := by
  funext q; exact recv_ok hr rfl rfl
theorem rc_start (hr : h[r]? = some (rdr t i)) : recv "is_start" (mt4_is_start_0 (run d)) (.ref r) h = fun q => q (run d 10) [] := by
  funext q; exact recv_ok hr rfl rfl
theorem rc_name (hr : h[r]? = some (rdr t i)) : recv "read_name" (mt4_read_name_0 (run d)) (.ref r) h = fun q => q (run d 11) [] := by
  funext q; exact recv_ok hr rfl rfl
theorem rc_end (hr : h[r]? = some (rdr t i)) : recv "need_end" (mt4_need_end_0 (run d)) (.ref r) h = fun q => q (run d 13) [] := by
  funext q; exact recv_ok hr rfl rfl
theorem aug_spot {k : W} {σ : Sg} (hr : h[r]? = some (rdr t i)) : eAugF cs4 "spot" (eLoc 0) (eK (.int 1)) (some (.ref r) :: σ) h = .nx (some (.ref r) :: σ) (h.set r (rdr t (i + 1))) := by
  simp [augAt, hr, rdr, cs4, look2, put2, setAt, oAddI]
theorem sign_ok {c : Nat} (hb : t.length ≤ 16777216) (hr : h[r]? = some (rdr t i)) : run (d + 2) 8 [.ref r, .str ⟨#[c]⟩] h = if ch t i = some c then .v (.bl true) (h.set r (rdr t (i + 1))) else .v (.bl false) h := by
  rw [fn_run (b := b8) (n := 2) (N := 2) rfl rfl]
  have e1 := aug_spot (k := .non) (σ := [some (.str ⟨#[c]⟩)]) hr
  simp only [eAugF_ap, eLoc_ap, eK_ap] at e1
  by_cases q : ch t i = some c
  · simp [b8, slots, rc_peek (n := "") hr, peek_ok hb hr, oEq, eqD, eqS_pk, q, e1]
    simp at e1
    simp [e1]
  · simp [b8, slots, rc_peek (n := "") hr, peek_ok hb hr, oEq, eqD, eqS_pk, q]
theorem need_ok {c : Nat} (hb : t.length ≤ 16777216) (hr : h[r]? = some (rdr t i)) : run (d + 3) 9 [.ref r, .str ⟨#[c]⟩] h = if ch t i = some c then .v .non (h.set r (rdr t (i + 1))) else .ex 1 (.str t) [some (.ref r), some (.str ⟨#[c]⟩)] h := by
  rw [fn_run (b := b9) (n := 2) (N := 2) rfl rfl]
  by_cases q : ch t i = some c
  · simp [b9, slots, rc_sign hr, sign_ok hb hr, q]
  · simp [b9, slots, rc_sign hr, rc_fail hr, sign_ok hb hr, fail_ok hr, q]
theorem isIn_pk (hc : ch t i ≠ none) : isIn (.str (pk t i)) (.str "abcdefghijklmnopqrstuvwxyz") h = some (isLo (ch t i)) := by
  unfold isIn pk
  cases q : ch t i with
  | none => exact absurd q hc
  | some c => rfl
theorem start_ok (hb : t.length ≤ 16777216) (hr : h[r]? = some (rdr t i)) : run (d + 2) 10 [.ref r] h = .v (.bl (isLo (ch t i))) h := by
  rw [fn_run (b := b10) (n := 1) (N := 1) rfl rfl]
  have e0 : ("" : Str) = ⟨#[]⟩ := rfl
  by_cases q : ch t i = none
  · simp [b10, slots, rc_peek (n := "") hr, peek_ok hb hr, oNe, eqD, e0, eqS_pk0, q, isLo]
  · simp [b10, slots, rc_peek (n := "") hr, peek_ok hb hr, oNe, oIn, eqD, e0, eqS_pk0, q, isIn_pk q]
theorem end_ok (hb : t.length ≤ 16777216) (hr : h[r]? = some (rdr t i)) : run (d + 2) 13 [.ref r] h = if i < t.length then .ex 1 (.str t) [some (.ref r)] h else .v .non h := by
  rw [fn_run (b := b13) (n := 1) (N := 1) rfl rfl]
  by_cases q : i < t.length
  · simp [b13, slots, fld_src hr, fld_spot hr, bLen, hb, q, rc_fail hr, fail_ok hr]
  · simp [b13, slots, fld_src hr, fld_spot hr, bLen, hb, q]
end Dr.L
set_option maxHeartbeats 4000000
namespace Dr.L
open PySem L2 PyProof.Rows Dr
variable {t : Str} {i r d : Nat} {h : IH}
section
variable {c b : Ev} {n : Nat} {σ s : Sg} {h h1 h2 : IH} {w : W} {k : Nat}
theorem whl_f (hc : c σ h = .v (.bl false) h1) : eWhl c b (n + 1) σ h = .nx σ h1 := by show Out.vb _ _ = _; rw [hc]; rfl
theorem whl_nx (hc : c σ h = .v (.bl true) h1) (hb : b σ h1 = .nx s h2) : eWhl c b (n + 1) σ h = eWhl c b n s h2 := by show Out.vb _ _ = _; rw [hc, vb_v]; simp only [hb]
theorem whl_ct (hc : c σ h = .v (.bl true) h1) (hb : b σ h1 = .ct s h2) : eWhl c b (n + 1) σ h = eWhl c b n s h2 := by show Out.vb _ _ = _; rw [hc, vb_v]; simp only [hb]
theorem whl_rt (hc : c σ h = .v (.bl true) h1) (hb : b σ h1 = .rt w h2) : eWhl c b (n + 1) σ h = .rt w h2 := by show Out.vb _ _ = _; rw [hc, vb_v]; simp only [hb]
theorem whl_ex (hc : c σ h = .v (.bl true) h1) (hb : b σ h1 = .ex k w s h2) : eWhl c b (n + 1) σ h = .ex k w s h2 := by show Out.vb _ _ = _; rw [hc, vb_v]; simp only [hb]
theorem whl_cx (hc : c σ h = .ex k w s h2) : eWhl c b (n + 1) σ h = .ex k w s h2 := by show Out.vb _ _ = _; rw [hc, vb_ex]
end
/-- an end with the reader's own error -/
def Bad (t : Str) (o : Out) : Prop := ∃ s h', o = .ex 1 (.str t) s h'
theorem set2 {h : IH} {r : Nat} {a b : IO} : (h.set r a).set r b = h.set r b := List.set_set ..
def nameW (d : Nat) : Ev := eWhl (eMeth "is_start" (mt4_is_start_0 (run d)) (eLoc 0) eNil) (eSeq (eIfS (eBin oEq (eBin oSub (eFld cs4 "spot" (eLoc 0)) (eLoc 1)) (eK (.int 8))) (eDrop (eMeth "fail" (mt4_fail_0 (run d)) (eLoc 0) eNil)) eEnd)
    (eAugF cs4 "spot" (eLoc 0) (eK (.int 1)))) nF
theorem name_loop (hb : t.length ≤ 16777216) (hr : h[r]? = some (rdr t i)) : ∀ (n k : Nat), k ≤ 8 → wlen (t.cps.toList.drop (i + k)) < n → (k ≤ 8) →
    if wlen (t.cps.toList.drop (i + k)) + k ≤ 8 then eWhl (eMeth "is_start" (mt4_is_start_0 (run (d + 2))) (eLoc 0) eNil) (eSeq (eIfS (eBin oEq (eBin oSub (eFld cs4 "spot" (eLoc 0)) (eLoc 1)) (eK (.int 8))) (eDrop (eMeth "fail" (mt4_fail_0 (run (d + 2))) (eLoc 0) eNil)) eEnd)
    (eAugF cs4 "spot" (eLoc 0) (eK (.int 1)))) n [some (.ref r), some (.int i)] (h.set r (rdr t (i + k))) = .nx [some (.ref r), some (.int i)] (h.set r (rdr t (i + k + wlen (t.cps.toList.drop (i + k)))))
    else Bad t (eWhl (eMeth "is_start" (mt4_is_start_0 (run (d + 2))) (eLoc 0) eNil) (eSeq (eIfS (eBin oEq (eBin oSub (eFld cs4 "spot" (eLoc 0)) (eLoc 1)) (eK (.int 8))) (eDrop (eMeth "fail" (mt4_fail_0 (run (d + 2))) (eLoc 0) eNil)) eEnd)
    (eAugF cs4 "spot" (eLoc 0) (eK (.int 1)))) n [some (.ref r), some (.int i)] (h.set r (rdr t (i + k))))
  | 0, _, _, hf, _ => absurd hf (Nat.not_lt_zero _)
  | n + 1, k, hk, hf, _ => by
    have hr' : (h.set r (rdr t (i + k)))[r]? = some (rdr t (i + k)) := get_set hr
    have hs := start_ok (d := d) hb hr'
    have hrc := rc_start (d := d + 2) hr'
    have e1 := aug_spot (k := .non) (σ := [some (.int i)]) hr'
    by_cases q : isLo (ch t (i + k)) = true
    · have hw := wlen_drop t (i + k)
      rw [if_pos q] at hw
      by_cases q8 : k = 8
      · subst q8
        rw [if_neg (by omega)]
        have e8 : (((i : Int) + 8) - i = 8) := by omega
        refine ⟨[some (.ref r), some (.int i)], h.set r (rdr t (i + 8)), ?_⟩
        unfold eWhl
        simp [hrc, hs, q, fld_spot hr', oEq, eqD, e8, rc_fail (d := d + 2) hr', fail_ok (d := d + 1) hr']
      · have ih := name_loop hb hr n (k + 1) (by omega) (by rw [← Nat.add_assoc]; omega) (by omega)
        have e8 : ¬ (((i + k : Nat) : Int) - i = 8) := by omega
        have eb : (eSeq (eIfS (eBin oEq (eBin oSub (eFld cs4 "spot" (eLoc 0)) (eLoc 1)) (eK (.int 8))) (eDrop (eMeth "fail" (mt4_fail_0 (run (d + 2))) (eLoc 0) eNil)) eEnd) (eAugF cs4 "spot" (eLoc 0) (eK (.int 1)))) [some (.ref r), some (.int i)] (h.set r (rdr t (i + k))) = .nx [some (.ref r), some (.int i)] (h.set r (rdr t (i + (k + 1)))) := by
          rw [eSeq_ap]
          have : (eIfS (eBin oEq (eBin oSub (eFld cs4 "spot" (eLoc 0)) (eLoc 1)) (eK (.int 8))) (eDrop (eMeth "fail" (mt4_fail_0 (run (d + 2))) (eLoc 0) eNil)) eEnd) [some (.ref r), some (.int i)] (h.set r (rdr t (i + k))) = .nx [some (.ref r), some (.int i)] (h.set r (rdr t (i + k))) := by
            simp only [eIfS_ap, eBin_ap, eFld_ap, eLoc_ap, eK_ap, List.getElem?_cons_zero, List.getElem?_cons_succ, locO_s, vb_v, fld_spot hr', oSub_int, oEq, eqD, decide_eq_false e8, eEnd_ap]
          rw [this, nb_nx, e1, set2, Nat.add_assoc]
        rw [whl_nx (by simp [hrc, hs, q]) eb]
        rw [hw]
        rw [show i + (k + 1) = i + k + 1 by omega] at ih ⊢
        split
        · rw [if_pos (by omega)] at ih
          rw [ih]; congr 3; omega
        · rw [if_neg (by omega)] at ih
          exact ih
    · have hw := wlen_drop t (i + k)
      rw [if_neg q] at hw
      rw [hw, if_pos (by omega)]
      unfold eWhl
      have q : isLo (ch t (i + k)) = false := by simpa using q
      simp [hrc, hs, q]
theorem name_ok (hb : t.length < 100000) (hr : h[r]? = some (rdr t i)) : match word t i with
    | some e => run (d + 3) 11 [.ref r] h = .v (.str (sl t i e)) (h.set r (rdr t e))
    | none => Bad t (run (d + 3) 11 [.ref r] h) := by
  have hb' : t.length ≤ 16777216 := by omega
  have e0 : run (d + 3) 11 [.ref r] h = (b11 (run (d + 2)) nF [some (.ref r), none] h).fin := fn_run (b := b11) (n := 1) (N := 2) rfl rfl
  have L := name_loop (d := d) hb' hr nF 0 (by omega) (by have := wlen_le (t.cps.toList.drop (i + 0)); rw [List.length_drop, len_cps] at this; show _ < 100000; omega) (by omega)
  simp only [Nat.add_zero, set_same hr] at L
  have ea : eAsg (gN 1) (eFld cs4 "spot" (eLoc 0)) [some (.ref r), none] h = .nx [some (.ref r), some (.int i)] h := by simp [fld_spot hr]
  rw [e0]
  unfold b11
  rw [eSeq_ap, ea, nb_nx, eSeq_ap]
  unfold word
  by_cases q8 : wlen (t.cps.toList.drop i) ≤ 8
  · rw [if_pos q8] at L
    rw [L, nb_nx, eSeq_ap]
    have hr' : (h.set r (rdr t (i + wlen (t.cps.toList.drop i))))[r]? = some (rdr t (i + wlen (t.cps.toList.drop i))) := get_set hr
    by_cases q0 : wlen (t.cps.toList.drop i) = 0
    · rw [if_neg (by omega)]
      rw [q0, Nat.add_zero] at hr' ⊢
      refine ⟨[some (.ref r), some (.int i)], h.set r (rdr t i), ?_⟩
      simp [fld_spot hr', oEq, eqD, rc_fail (d := d + 2) hr', fail_ok (d := d + 1) hr']
    · rw [if_pos (by omega)]
      have e8 : ¬ (((i + wlen (t.cps.toList.drop i) : Nat) : Int) = i) := by omega
      have : (eIfS (eBin oEq (eFld cs4 "spot" (eLoc 0)) (eLoc 1)) (eDrop (eMeth "fail" (mt4_fail_0 (run (d + 2))) (eLoc 0) eNil)) eEnd) [some (.ref r), some (.int i)] (h.set r (rdr t (i + wlen (t.cps.toList.drop i)))) = .nx [some (.ref r), some (.int i)] (h.set r (rdr t (i + wlen (t.cps.toList.drop i)))) := by
        simp only [eIfS_ap, eBin_ap, eFld_ap, eLoc_ap, eK_ap, List.getElem?_cons_zero, List.getElem?_cons_succ, locO_s, vb_v, fld_spot hr', oSub_int, oEq, eqD, decide_eq_false e8, eEnd_ap]
      rw [this, nb_nx]
      simp only [eRet_ap, eSl_ap, eInt_ap, eFld_ap, eLoc_ap, List.getElem?_cons_zero, List.getElem?_cons_succ, locO_s, vb_v, fld_spot hr', fld_src hr', pb_v, pm_int, oSl, if_pos hb', fin_rt, cut_nn]
  · rw [if_neg q8] at L
    rw [if_neg (by omega)]
    obtain ⟨s, h', e⟩ := L
    exact ⟨s, h', by rw [e]; rfl⟩
end Dr.L
set_option maxHeartbeats 4000000
namespace Dr.L
open PySem L2 PyProof.Rows Dr
variable {t : Str} {i r d : Nat} {h : IH}
theorem mapO_fl : ∀ ss : List Str, mapO W.fl (ss.map W.str) = some (ss.map V.str)
  | [] => rfl
  | s :: ss => by simp only [List.map_cons, mapO, mapO_fl ss, W.fl]
theorem mapO_st : ∀ ss : List Str, mapO W.st (ss.map W.str) = some ss
  | [] => rfl
  | s :: ss => by simp only [List.map_cons, mapO, mapO_st ss, W.st]
theorem mapO_num {s : Str} {ss : List Str} : mapO W.num ((s :: ss).map W.str) = none := rfl
theorem any_eq (s : Str) : ∀ ss : List Str, ((ss.map V.str).any fun y => eqVF y (.str s)) = decide (s ∈ ss)
  | [] => by simp
  | x :: ss => by
    rw [List.map_cons, List.any_cons, any_eq s ss]
    show (eqS x s || _) = _
    rw [eqS_eq]
    by_cases q : x = s
    · subst q; simp
    · have q' : s ≠ x := fun e => q e.symm
      simp [q, q']
theorem in_strs {n : Nat} {s : Str} {ss : List Str} (hn : h[n]? = some (.lst (ss.map W.str))) : oIn (.str s) (.ref n) h = .v (.bl (decide (s ∈ ss))) h := by
  unfold oIn isIn lstAt seqIn
  simp only [hn, W.fl, mapO_fl, any_eq]
def marksF (t : Str) : Nat → Nat → List Str → Option (Nat × List Str)
  | 0, _, _ => none
  | n + 1, i, acc => if ch t i = some 46 then (match word t (i + 1) with
    | none => none
    | some e => if sl t (i + 1) e ∈ acc then none else marksF t n e (acc ++ [sl t (i + 1) e])) else some (i, acc)
def headF (t : Str) (i : Nat) : Option (Nat × Str × List Str) := match word t i with
  | none => none
  | some e => match marksF t (t.length + 1) e [] with
    | none => none
    | some (j, ms) => some (j, sl t i e, ms)
def Few (t : Str) : Prop := ∀ n i j ms, marksF t n i [] = some (j, ms) → ms.length < 64
theorem marksF_le {t : Str} : ∀ {n i : Nat} {acc ms : List Str} {j : Nat}, marksF t n i acc = some (j, ms) → i ≤ j ∧ (j ≤ i ∨ j ≤ t.length)
  | 0, _, _, _, _, e => by cases e
  | n + 1, i, acc, ms, j, e => by
    unfold marksF at e
    split at e
    · split at e
      · cases e
      · rename_i e' q
        split at e
        · cases e
        · have := marksF_le e
          have := word_le q
          omega
    · cases e; omega
theorem headF_le {j : Nat} {k : Str} {ms : List Str} (e : headF t i = some (j, k, ms)) : i < j ∧ j ≤ t.length := by
  unfold headF at e
  split at e
  · cases e
  · rename_i e' q
    split at e
    · cases e
    · rename_i j' ms' q'
      cases e
      have := marksF_le q'
      have := word_le q
      omega
theorem marks_len {t : Str} : ∀ {n i : Nat} {acc ms : List Str} {j : Nat}, marksF t n i acc = some (j, ms) → ms.length ≤ acc.length + (t.length - i)
  | 0, _, _, _, _, e => by cases e
  | n + 1, i, acc, ms, j, e => by
    unfold marksF at e
    split at e
    · split at e
      · cases e
      · rename_i e' q
        split at e
        · cases e
        · have := marks_len e
          have := word_le q
          simp only [List.length_append, List.length_cons, List.length_nil] at *
          omega
    · cases e; omega
theorem Bad.nb {o : Out} {k : Sg → IH → Out} (b : Bad t o) : Bad t (o.nb k) := by obtain ⟨s, h', rfl⟩ := b; exact ⟨s, h', rfl⟩
theorem Bad.fin {o : Out} (b : Bad t o) : Bad t o.fin := by obtain ⟨s, h', rfl⟩ := b; exact ⟨s, h', rfl⟩
theorem Bad.vb {o : Out} {k : W → IH → Out} (b : Bad t o) : Bad t (o.vb k) := by obtain ⟨s, h', rfl⟩ := b; exact ⟨s, h', rfl⟩
theorem Bad.cb {o : Out} {σ : Sg} (b : Bad t o) : Bad t (o.cb σ) := by obtain ⟨s, h', rfl⟩ := b; exact ⟨σ, h', rfl⟩
theorem Bad.whl {c b : Ev} {n : Nat} {σ : Sg} {h h1 : IH} (hc : c σ h = .v (.bl true) h1) (hb : Bad t (b σ h1)) : Bad t (eWhl c b (n + 1) σ h) := by
  obtain ⟨s, h', e⟩ := hb
  exact ⟨s, h', whl_ex hc e⟩
theorem get_app {h : IH} {r : Nat} {o : IO} {g : IH} (hr : h[r]? = some o) : (h ++ g)[r]? = some o := by
  rw [List.getElem?_append_left (List.getElem?_eq_some_iff.mp hr).1]; exact hr
theorem set_app {h : IH} {r : Nat} {o o' : IO} {g : IH} (hr : h[r]? = some o) : (h ++ g).set r o' = h.set r o' ++ g := List.set_append_left _ _ (List.getElem?_eq_some_iff.mp hr).1
theorem lt_of {h : IH} {r : Nat} {o : IO} (hr : h[r]? = some o) : r < h.length := (List.getElem?_eq_some_iff.mp hr).1
abbrev headC (d : Nat) : Ev := eMeth "is_sign" (mt4_is_sign_1 (run d)) (eLoc 0) (eCons (eK (.str ".")) eNil)
abbrev headB (d : Nat) : Ev := eSeq (eAsg (gN 3) (eMeth "read_name" (mt4_read_name_0 (run d)) (eLoc 0) eNil))
    (eSeq (eIfS (eBin oIn (eLoc 3) (eLoc 2)) (eDrop (eMeth "fail" (mt4_fail_0 (run d)) (eLoc 0) eNil)) eEnd)
    (eDrop (eBM "list" mAppend (eLoc 2) (eCons (eLoc 3) eNil))))
theorem sign_loc {c : Nat} {a : Str} {σ : Sg} (ha : a = ⟨#[c]⟩) (hb : t.length ≤ 16777216) (hr : h[r]? = some (rdr t i)) : eMeth "is_sign" (mt4_is_sign_1 (run (d + 2))) (eLoc 0) (eCons (eK (.str a)) eNil) (some (.ref r) :: σ) h = if ch t i = some c then .v (.bl true) (h.set r (rdr t (i + 1))) else .v (.bl false) h := by
  subst ha
  simp only [eMeth_ap, eLoc_ap, List.getElem?_cons_zero, locO_s, vb_v, rc_sign hr, eCons_ap, eK_ap, eNil_ap, vsb_vs, List.append_nil, sign_ok hb hr]
  split <;> rfl
theorem name_loc {σ : Sg} (hb : t.length < 100000) (hr : h[r]? = some (rdr t i)) : match word t i with
    | some e => eMeth "read_name" (mt4_read_name_0 (run (d + 3))) (eLoc 0) eNil (some (.ref r) :: σ) h = .v (.str (sl t i e)) (h.set r (rdr t e))
    | none => Bad t (eMeth "read_name" (mt4_read_name_0 (run (d + 3))) (eLoc 0) eNil (some (.ref r) :: σ) h) := by
  have q := name_ok (d := d) hb hr
  have e : eMeth "read_name" (mt4_read_name_0 (run (d + 3))) (eLoc 0) eNil (some (.ref r) :: σ) h = (run (d + 3) 11 [.ref r] h).cb (some (.ref r) :: σ) := by
    simp only [eMeth_ap, eLoc_ap, List.getElem?_cons_zero, locO_s, vb_v, rc_name hr, eNil_ap, vsb_vs, List.append_nil]
  rw [e]
  split
  · rename_i e' qe
    rw [qe] at q
    simp only at q
    rw [q]; rfl
  · rename_i qe
    rw [qe] at q
    exact Bad.cb q
theorem marks_loop {k : W} (hb : t.length < 100000) {h : IH} {p : Nat} : ∀ (n i : Nat) (h : IH) (acc : List Str) (y : Option W), t.length - i < n → h[r]? = some (rdr t i) → h[p]? = some (.lst (acc.map W.str)) → r ≠ p → acc.length ≤ i → match marksF t n i acc with
    | some (j, ms) => ∃ y', eWhl (headC (d + 3)) (headB (d + 3)) n [some (.ref r), some k, some (.ref p), y] h = .nx [some (.ref r), some k, some (.ref p), y'] ((h.set r (rdr t j)).set p (.lst (ms.map W.str)))
    | none => Bad t (eWhl (headC (d + 3)) (headB (d + 3)) n [some (.ref r), some k, some (.ref p), y] h)
  | 0, _, _, _, _, hf, _, _, _, _ => absurd hf (Nat.not_lt_zero _)
  | n + 1, i, h, acc, y, hf, hr, hp, hrp, ha => by
    have hc := sign_loc (d := d + 1) (a := ".") (c := 46) (σ := [some k, some (.ref p), y]) rfl (by omega : t.length ≤ 16777216) hr
    unfold marksF
    by_cases q : ch t i = some 46
    · rw [if_pos q] at hc ⊢
      have hr1 : (h.set r (rdr t (i + 1)))[r]? = some (rdr t (i + 1)) := get_set hr
      have hp1 : (h.set r (rdr t (i + 1)))[p]? = some (.lst (acc.map W.str)) := by rw [List.getElem?_set_ne hrp]; exact hp
      have hn := name_loc (d := d) (σ := [some k, some (.ref p), y]) hb hr1
      cases qw : word t (i + 1) with
      | none =>
        rw [qw] at hn
        exact Bad.whl hc (Bad.nb (Bad.vb hn))
      | some e =>
        rw [qw] at hn
        simp only at hn ⊢
        have we := word_le qw
        rw [set2] at hn
        have hr2 : (h.set r (rdr t e))[r]? = some (rdr t e) := get_set hr
        have hp2 : (h.set r (rdr t e))[p]? = some (.lst (acc.map W.str)) := by rw [List.getElem?_set_ne hrp]; exact hp
        by_cases qm : sl t (i + 1) e ∈ acc
        · rw [if_pos qm]
          refine Bad.whl hc ⟨[some (.ref r), some k, some (.ref p), some (.str (sl t (i + 1) e))], h.set r (rdr t e), ?_⟩
          unfold headB
          rw [eSeq_ap, eAsg_ap, hn]
          simp [in_strs hp2, qm, rc_fail (d := d + 3) hr2, fail_ok (d := d + 2) hr2]
        · rw [if_neg qm]
          have ih := marks_loop (k := k) hb (h := h) (p := p) n e ((h.set r (rdr t e)).set p (.lst ((acc ++ [sl t (i + 1) e]).map W.str))) (acc ++ [sl t (i + 1) e]) (some (.str (sl t (i + 1) e))) (by omega) (by rw [List.getElem?_set_ne (Ne.symm hrp)]; exact hr2) (get_set hp2) hrp (by simp; omega)
          have eb : headB (d + 3) [some (.ref r), some k, some (.ref p), y] (h.set r (rdr t (i + 1))) = .nx [some (.ref r), some k, some (.ref p), some (.str (sl t (i + 1) e))] ((h.set r (rdr t e)).set p (.lst ((acc ++ [sl t (i + 1) e]).map W.str))) := by
            unfold headB
            rw [eSeq_ap, eAsg_ap, hn]
            have ty : tyW "list" (.ref p) (h.set r (rdr t e)) = true := by unfold tyW lstAt; simp only [hp2]; rfl
            have hl : acc.length < 16777216 := by omega
            simp [in_strs hp2, qm, ty, mAppend, hp2, hl]
          rw [whl_nx hc eb]
          have e2 : ∀ (j : Nat) (ms : List Str), (((((h.set r (rdr t e)).set p (IO.lst ((acc ++ [sl t (i + 1) e]).map W.str))).set r (rdr t j)).set p (IO.lst (ms.map W.str)))) = ((h.set r (rdr t j)).set p (.lst (ms.map W.str))) := by
            intro j ms
            rw [List.set_comm (IO.lst ((acc ++ [sl t (i + 1) e]).map W.str)) (rdr t j) (Ne.symm hrp), set2, set2]
          cases qj : marksF t n e (acc ++ [sl t (i + 1) e]) with
          | some jm =>
            obtain ⟨j, ms⟩ := jm
            rw [qj] at ih
            obtain ⟨y', ih⟩ := ih
            exact ⟨y', by rw [ih]; exact congrArg _ (e2 j ms)⟩
          | none =>
            rw [qj] at ih; exact ih
    · rw [if_neg q] at hc ⊢
      refine ⟨y, ?_⟩
      rw [whl_f hc, set_same hr, set_same hp]
theorem whl_more : ∀ (c b : Ev) (n m : Nat) (σ : Sg) (h : IH), eWhl c b n σ h ≠ .no → n ≤ m → eWhl c b m σ h = eWhl c b n σ h := by
  intro c b n
  induction n with
  | zero => intro m σ h hne; exact absurd rfl hne
  | succ n ih =>
    intro m σ h hne hm
    obtain ⟨m, rfl⟩ : ∃ m', m = m' + 1 := ⟨m - 1, by omega⟩
    have e : ∀ k, eWhl c b (k + 1) σ h = (c σ h).vb fun x h1 => match x with
      | .bl false => .nx σ h1
      | .bl true => (match b σ h1 with
        | .nx s h2 => eWhl c b k s h2
        | .ct s h2 => eWhl c b k s h2
        | .bk s h2 => .nx s h2
        | .rt w h2 => .rt w h2
        | .ex c w s h2 => .ex c w s h2
        | _ => .no)
      | _ => .no := fun k => rfl
    rw [e m, e n]
    rw [e n] at hne
    cases qc : c σ h <;> rw [qc] at hne <;> try rfl
    rename_i w h1
    simp only [vb_v] at hne ⊢
    cases w <;> try rfl
    rename_i bb
    cases bb <;> try rfl
    simp only at hne ⊢
    cases qb : b σ h1 <;> rw [qb] at hne <;> try rfl
    · exact ih m _ _ hne (by omega)
    · exact ih m _ _ hne (by omega)

/-- what a head is -/
def hnode (k : Str) (ms : List Str) (p : Nat) : W := .tup [.str k, .tup ((sortS ms).map W.str), .ref p]
theorem head_ok (hb : t.length < 100000) (fw : Few t) (hr : h[r]? = some (rdr t i)) : match headF t i with
    | some (j, k, ms) => run (d + 4) 16 [.ref r] h = .v (hnode k ms (h.length + 2)) (h.set r (rdr t j) ++ [.lst (ms.map W.str), .lst ((sortS ms).map W.str), .lst []])
    | none => Bad t (run (d + 4) 16 [.ref r] h) := by
  have e0 : run (d + 4) 16 [.ref r] h = (b16 (run (d + 3)) nF [some (.ref r), none, none, none] h).fin := fn_run (b := b16) (n := 1) (N := 4) rfl rfl
  have hn := name_loc (d := d) (σ := [none, none, none]) hb hr
  have hlt := lt_of hr
  rw [e0]
  unfold headF b16
  rw [eSeq_ap, eAsg_ap]
  cases qw : word t i with
  | none =>
    rw [qw] at hn
    exact Bad.fin (Bad.nb (Bad.vb hn))
  | some e =>
    rw [qw] at hn
    simp only at hn ⊢
    have we := word_le qw
    rw [hn, vb_v]
    simp only [gN_ap, nb_nx, List.set_cons_succ, List.set_cons_zero]
    have hr1 : (h.set r (rdr t e))[r]? = some (rdr t e) := get_set hr
    have ea : eAsg (gN 2) (eLst eNil) [some (.ref r), some (.str (sl t i e)), none, none] (h.set r (rdr t e)) = .nx [some (.ref r), some (.str (sl t i e)), some (.ref h.length), none] (h.set r (rdr t e) ++ [.lst []]) := by simp
    rw [eSeq_ap, ea, nb_nx, eSeq_ap]
    have L := marks_loop (d := d) (r := r) (k := .str (sl t i e)) hb (h := h) (p := h.length) (t.length + 1) e (h.set r (rdr t e) ++ [.lst []]) [] none (by omega) (get_app hr1) (by simp) (by omega) (by simp)
    cases qm : marksF t (t.length + 1) e [] with
    | none =>
      rw [qm] at L
      have L2 := whl_more _ _ _ nF _ _ (by obtain ⟨s, h', e'⟩ := L; rw [e']; simp) (by show _ ≤ 100000; omega)
      exact Bad.fin (Bad.nb (by rw [L2]; exact L))
    | some jm =>
      obtain ⟨j, ms⟩ := jm
      rw [qm] at L
      obtain ⟨y', L⟩ := L
      have L2 := whl_more _ _ _ nF _ _ (by rw [L]; simp) (by show _ ≤ 100000; omega)
      rw [L2, L, nb_nx]
      have f64 := fw _ _ _ _ qm
      have eh : (((h.set r (rdr t e) ++ [IO.lst []]).set r (rdr t j)).set h.length (.lst (ms.map W.str))) = h.set r (rdr t j) ++ [.lst (ms.map W.str)] := by
        rw [set_app hr1, set2, List.set_append_right _ _ (by simp)]
        simp
      rw [eh]
      have es : bSortedX [.ref h.length] (h.set r (rdr t j) ++ [.lst (ms.map W.str)]) = .v (.ref (h.length + 1)) (h.set r (rdr t j) ++ [.lst (ms.map W.str)] ++ [.lst ((sortS ms).map W.str)]) := by
        unfold bSortedX
        have : lstAt (h.set r (rdr t j) ++ [.lst (ms.map W.str)]) h.length = some (ms.map W.str) := by unfold lstAt; simp
        simp only [this]
        cases ms with
        | nil => simp; rfl
        | cons a ms =>
          simp only [mapO_num, mapO_st, if_pos f64]
          simp
      have et : bTuple [.ref (h.length + 1)] (h.set r (rdr t j) ++ [.lst (ms.map W.str)] ++ [.lst ((sortS ms).map W.str)]) = .v (.tup ((sortS ms).map W.str)) (h.set r (rdr t j) ++ [.lst (ms.map W.str)] ++ [.lst ((sortS ms).map W.str)]) := by
        unfold bTuple
        have : lstAt (h.set r (rdr t j) ++ [.lst (ms.map W.str)] ++ [.lst ((sortS ms).map W.str)]) (h.length + 1) = some ((sortS ms).map W.str) := by unfold lstAt; simp
        simp only [this]
      simp only [eRet_ap, eTup_ap, eCons_ap, eLoc_ap, List.getElem?_cons_zero, List.getElem?_cons_succ, locO_s, vb_v, eBlt_ap, eNil_ap, vsb_vs, es, et, eLst_ap]
      simp [hnode]
end Dr.L
set_option maxHeartbeats 4000000
namespace Dr.L
open PySem L2 PyProof.Rows Dr
variable {t : Str} {i r d : Nat} {h : IH}
inductive Tr where
  | mk (k : Str) (ms : List Str) (cs : List Tr)
mutual
def Tr.size : Tr → Nat
  | .mk _ _ cs => 1 + sizes cs
def sizes : List Tr → Nat
  | [] => 0
  | T :: Ts => T.size + sizes Ts
end
theorem sizes_app : ∀ (a b : List Tr), sizes (a ++ b) = sizes a + sizes b
  | [], b => by simp [sizes]
  | T :: a, b => by simp only [List.cons_append, sizes, sizes_app a b]; omega
def kids (f : Nat → Option (Nat × Tr)) (t : Str) : Nat → Nat → Str → List Str → List Tr → Option (Nat × Tr)
  | 0, _, _, _, _ => none
  | m + 1, i, k, ms, acc => match f i with
    | none => none
    | some (j, T) => if ch t j = some 41 then some (j + 1, .mk k ms (acc ++ [T])) else if ch t j = some 44 then kids f t m (j + 1) k ms (acc ++ [T]) else none
def rd (t : Str) : Nat → Nat → Option (Nat × Tr)
  | 0, _ => none
  | n + 1, i => match headF t i with
    | none => none
    | some (j, k, ms) => if ch t j = some 40 then kids (rd t n) t (t.length + 1) (j + 1) k ms [] else some (j, .mk k ms [])
/-- open brackets from here on -/
def pc (t : Str) (i : Nat) : Nat := (t.cps.toList.drop i).count 40
theorem pc_mono {i j : Nat} (hij : i ≤ j) : pc t j ≤ pc t i := by
  unfold pc
  exact (List.drop_sublist_drop_left _ hij).count_le _
theorem pc_at (q : ch t i = some 40) : pc t i = pc t (i + 1) + 1 := by
  unfold pc
  unfold ch at q
  obtain ⟨hl, e⟩ := List.getElem?_eq_some_iff.mp q
  rw [List.drop_eq_getElem_cons hl, e, List.count_cons_self]
theorem ch_lt {c : Nat} (q : ch t i = some c) : i < t.length := by
  unfold ch at q
  rw [← len_cps]
  exact (List.getElem?_eq_some_iff.mp q).1
theorem kids_le {f : Nat → Option (Nat × Tr)} (hf : ∀ i j T, f i = some (j, T) → i < j ∧ j ≤ t.length) : ∀ {m i : Nat} {k : Str} {ms : List Str} {acc : List Tr} {j : Nat} {T : Tr}, kids f t m i k ms acc = some (j, T) → i < j ∧ j ≤ t.length
  | 0, _, _, _, _, _, _, e => by cases e
  | m + 1, i, k, ms, acc, j, T, e => by
    unfold kids at e
    split at e
    · cases e
    · rename_i j' T' q
      have := hf _ _ _ q
      split at e
      · rename_i q1
        cases e
        have := ch_lt q1
        omega
      · split at e
        · have := kids_le hf e
          omega
        · cases e
theorem rd_le : ∀ {n i j : Nat} {T : Tr}, rd t n i = some (j, T) → i < j ∧ j ≤ t.length
  | 0, _, _, _, e => by cases e
  | n + 1, i, j, T, e => by
    unfold rd at e
    split at e
    · cases e
    · rename_i j' k ms q
      have := headF_le q
      split at e
      · have := kids_le (fun i j T e => rd_le e) e
        omega
      · cases e; omega
/-! ### trees in the heap -/
mutual
inductive TreeIn (h : IH) (lo hi : Nat) : W → Tr → Prop
  | mk {k : Str} {ms : List Str} {cs : List Tr} {ws : List W} (p : Nat) : lo ≤ p → p < hi → h[p]? = some (.lst ws) → TreesIn h lo hi ws cs → TreeIn h lo hi (hnode k ms p) (.mk k ms cs)
inductive TreesIn (h : IH) (lo hi : Nat) : List W → List Tr → Prop
  | nil : TreesIn h lo hi [] []
  | cons {w : W} {T : Tr} {ws : List W} {Ts : List Tr} : TreeIn h lo hi w T → TreesIn h lo hi ws Ts → TreesIn h lo hi (w :: ws) (T :: Ts)
end
mutual
theorem TreeIn.mono {h h' : IH} {lo hi lo' hi' : Nat} (ag : ∀ a, lo ≤ a → a < hi → h'[a]? = h[a]?) (h1 : lo' ≤ lo) (h2 : hi ≤ hi') : ∀ {w : W} {T : Tr}, TreeIn h lo hi w T → TreeIn h' lo' hi' w T
  | _, _, .mk p a b e x => .mk p (Nat.le_trans h1 a) (Nat.lt_of_lt_of_le b h2) ((ag p a b).trans e) (TreesIn.mono ag h1 h2 x)
theorem TreesIn.mono {h h' : IH} {lo hi lo' hi' : Nat} (ag : ∀ a, lo ≤ a → a < hi → h'[a]? = h[a]?) (h1 : lo' ≤ lo) (h2 : hi ≤ hi') : ∀ {ws : List W} {Ts : List Tr}, TreesIn h lo hi ws Ts → TreesIn h' lo' hi' ws Ts
  | _, _, .nil => .nil
  | _, _, .cons a b => .cons (TreeIn.mono ag h1 h2 a) (TreesIn.mono ag h1 h2 b)
end
theorem TreesIn.app {h : IH} {lo hi : Nat} : ∀ {ws : List W} {Ts : List Tr} {ws' : List W} {Ts' : List Tr}, TreesIn h lo hi ws Ts → TreesIn h lo hi ws' Ts' → TreesIn h lo hi (ws ++ ws') (Ts ++ Ts')
  | _, _, _, _, .nil, s => s
  | _, _, _, _, .cons a b, s => .cons a (TreesIn.app b s)
theorem TreesIn.len {h : IH} {lo hi : Nat} : ∀ {ws : List W} {Ts : List Tr}, TreesIn h lo hi ws Ts → ws.length = Ts.length
  | _, _, .nil => rfl
  | _, _, .cons _ b => by simp [TreesIn.len b]
/-! ### the machine -/
abbrev nC : Ev := eK (.bl true)
abbrev iC (d : Nat) : Ev := eAnd (eBin oNe (eLoc 1) (eLst eNil)) (eMeth "is_sign" (mt4_is_sign_1 (run d)) (eLoc 0) (eCons (eK (.str ")")) eNil))
abbrev iB : Ev := eSeq (eDrop (eBM "list" mAppend (eBin oIx (eBin oIx (eLoc 1) (eNeg (eK (.int 1)))) (eK (.int 2))) (eCons (eLoc 2) eNil))) (eAsg (gN 2) (eBM "list" mPop (eLoc 1) eNil))
abbrev nRest (d : Nat) : Ev := eSeq (eIfS (eBin oEq (eLoc 1) (eLst eNil)) (eRet (eTup (eCons (eLoc 2) (eCons (eLoc 3) eNil)))) eEnd)
    (eSeq (eDrop (eMeth "need" (mt4_need_1 (run d)) (eLoc 0) (eCons (eK (.str ",")) eNil)))
    (eSeq (eDrop (eBM "list" mAppend (eBin oIx (eBin oIx (eLoc 1) (eNeg (eK (.int 1)))) (eK (.int 2))) (eCons (eLoc 2) eNil)))
    (eSeq (eAsg (gN 2) (eCall (run d 16) [] (eCons (eLoc 0) eNil)))
    (eAug 3 oAddX (eK (.int 1))))))
abbrev nIf (d : Nat) : Ev := eIfS (eMeth "is_sign" (mt4_is_sign_1 (run d)) (eLoc 0) (eCons (eK (.str "(")) eNil)) (eSeq (eDrop (eBM "list" mAppend (eLoc 1) (eCons (eLoc 2) eNil)))
    (eSeq (eAsg (gN 2) (eCall (run d 16) [] (eCons (eLoc 0) eNil)))
    (eSeq (eAug 3 oAddX (eK (.int 1))) eCnt))) eEnd
abbrev nB (d : Nat) : Ev := eSeq (nIf d) (eSeq (eWhl (iC d) iB nF) (nRest d))
def lpO (c b : Ev) (f : Nat) : Out → Out
  | .nx s h2 => eWhl c b f s h2
  | .ct s h2 => eWhl c b f s h2
  | .bk s h2 => .nx s h2
  | .rt w h2 => .rt w h2
  | .ex c w s h2 => .ex c w s h2
  | _ => .no
theorem whl_lp {b : Ev} {f : Nat} {σ : Sg} {h : IH} : eWhl nC b (f + 1) σ h = lpO nC b f (b σ h) := by
  show (match b σ h with
      | .nx s h2 => eWhl nC b f s h2
      | .ct s h2 => eWhl nC b f s h2
      | .bk s h2 => .nx s h2
      | .rt w h2 => .rt w h2
      | .ex c w s h2 => .ex c w s h2
      | _ => .no) = _
  cases b σ h <;> rfl
theorem Bad.lp {c b : Ev} {f : Nat} {o : Out} (x : Bad t o) : Bad t (lpO c b f o) := by obtain ⟨s, h', rfl⟩ := x; exact ⟨s, h', rfl⟩
/-- behind a whole node -/
def Rst (d f fi : Nat) (σ : Sg) (h : IH) : Out := lpO nC (nB d) f ((eWhl (iC d) iB fi σ h).nb (nRest d))
abbrev sg (r q : Nat) (w : W) (many : Nat) : Sg := [some (.ref r), some (.ref q), some w, some (.int many)]
structure Hs (t : Str) (r q pos : Nat) (S : List W) (h : IH) : Prop where
  r : h[r]? = some (rdr t pos)
  q : h[q]? = some (.lst S)
theorem Hs.rlt {q pos : Nat} {S : List W} (x : Hs t r q pos S h) : r < h.length := lt_of x.r
theorem Hs.qlt {q pos : Nat} {S : List W} (x : Hs t r q pos S h) : q < h.length := lt_of x.q
theorem Hs.ne {q pos : Nat} {S : List W} (x : Hs t r q pos S h) : r ≠ q := fun e => by
  have := x.r; rw [e, x.q] at this; cases this
theorem app_ok {n : Nat} {ws : List W} {w : W} (hn : h[n]? = some (.lst ws)) (hl : ws.length < 16777216) : (if tyW "list" (.ref n) h = true then mAppend (.ref n) [w] h else .no) = .v .non (h.set n (.lst (ws ++ [w]))) := by
  have ty : tyW "list" (.ref n) h = true := by unfold tyW lstAt; simp only [hn]; rfl
  rw [if_pos ty]
  simp [mAppend, hn, hl]
theorem nIf_no {q pos many : Nat} {S : List W} {w : W} (hb : t.length ≤ 16777216) (x : Hs t r q pos S h) (hc : ch t pos ≠ some 40) : nIf (d + 2) (sg r q w many) h = .nx (sg r q w many) h := by
  have hs := sign_loc (d := d) (a := "(") (c := 40) (σ := [some (.ref q), some w, some (.int many)]) rfl hb x.r
  rw [if_neg hc] at hs
  unfold nIf
  rw [eIfS_ap, hs]; rfl
theorem nIf_yes {q pos many : Nat} {S : List W} {w : W} (hb : t.length < 100000) (fw : Few t) (hl : S.length ≤ pos) (x : Hs t r q pos S h) (hc : ch t pos = some 40) : match headF t (pos + 1) with
    | none => Bad t (nIf (d + 4) (sg r q w many) h)
    | some (j, k, ms) => nIf (d + 4) (sg r q w many) h = .ct (sg r q (hnode k ms (h.length + 2)) (many + 1)) (((h.set r (rdr t j)).set q (.lst (S ++ [w]))) ++ [.lst (ms.map W.str), .lst ((sortS ms).map W.str), .lst []]) := by
  have hs := sign_loc (d := d + 2) (a := "(") (c := 40) (σ := [some (.ref q), some w, some (.int many)]) rfl (by omega : t.length ≤ 16777216) x.r
  rw [if_pos hc] at hs
  have cl := ch_lt hc
  have h1q : (h.set r (rdr t (pos + 1)))[q]? = some (.lst S) := by rw [List.getElem?_set_ne x.ne]; exact x.q
  have ap := app_ok (w := w) h1q (by omega)
  have hr2 : ((h.set r (rdr t (pos + 1))).set q (.lst (S ++ [w])))[r]? = some (rdr t (pos + 1)) := by rw [List.getElem?_set_ne (Ne.symm x.ne)]; exact get_set x.r
  have hh := head_ok (d := d) hb fw hr2
  have e1 : nIf (d + 4) (sg r q w many) h = (eSeq (eAsg (gN 2) (eCall (run (d + 4) 16) [] (eCons (eLoc 0) eNil))) (eSeq (eAug 3 oAddX (eK (.int 1))) eCnt)) (sg r q w many) ((h.set r (rdr t (pos + 1))).set q (.lst (S ++ [w]))) := by
    unfold nIf
    rw [eIfS_ap, hs, vb_v]
    simp only
    rw [eSeq_ap, eDrop_ap, eBM_ap]
    simp only [eLoc_ap, List.getElem?_cons_zero, List.getElem?_cons_succ, locO_s, vb_v, eCons_ap, eNil_ap, vsb_vs]
    rw [ap]; rfl
  rw [e1, eSeq_ap, eAsg_ap, eCall_ap]
  simp only [eLoc_ap, List.getElem?_cons_zero, locO_s, vb_v, eCons_ap, eNil_ap, vsb_vs, List.append_nil]
  cases qh : headF t (pos + 1) with
  | none => rw [qh] at hh; exact Bad.nb (Bad.vb (Bad.cb hh))
  | some a =>
    obtain ⟨j, k, ms⟩ := a
    rw [qh] at hh
    simp only at hh ⊢
    rw [hh]
    simp only [cb_v, vb_v, gN_ap, List.set_cons_succ, List.set_cons_zero, nb_nx, eSeq_ap, eAug_ap, List.getElem?_cons_succ, List.getElem?_cons_zero, eK_ap, oAddX, oAdd_int, eCnt_ap, List.length_set]
    rw [List.set_comm _ _ (Ne.symm x.ne), set2]
    rfl
end Dr.L
set_option maxHeartbeats 4000000
namespace Dr.L
open PySem L2 PyProof.Rows Dr
variable {t : Str} {i r d : Nat} {h : IH}
theorem ne_nil {q pos many : Nat} {S : List W} {w : W} (x : Hs t r q pos S h) : eBin oNe (eLoc 1) (eLst eNil) (sg r q w many) h = .v (.bl (decide (S ≠ []))) (h ++ [IO.lst []]) := by
  have l1 : lstAt (h ++ [IO.lst []]) q = some S := by unfold lstAt; rw [get_app x.q]
  have l2 : lstAt (h ++ [IO.lst []]) h.length = some [] := by unfold lstAt; simp
  simp only [eBin_ap, eLoc_ap, List.getElem?_cons_zero, List.getElem?_cons_succ, locO_s, vb_v, eLst_ap, eNil_ap, vsb_vs, List.length_nil, Nat.zero_le, if_true]
  cases S with
  | nil => simp [oNe, eqD, lenQ, l1, l2]
  | cons a S => simp [oNe, eqD, lenQ, l1, l2]
theorem eq_nil {q pos many : Nat} {S : List W} {w : W} (x : Hs t r q pos S h) : eBin oEq (eLoc 1) (eLst eNil) (sg r q w many) h = .v (.bl (decide (S = []))) (h ++ [IO.lst []]) := by
  have l1 : lstAt (h ++ [IO.lst []]) q = some S := by unfold lstAt; rw [get_app x.q]
  have l2 : lstAt (h ++ [IO.lst []]) h.length = some [] := by unfold lstAt; simp
  simp only [eBin_ap, eLoc_ap, List.getElem?_cons_zero, List.getElem?_cons_succ, locO_s, vb_v, eLst_ap, eNil_ap, vsb_vs, List.length_nil, Nat.zero_le, if_true]
  cases S with
  | nil => simp [oEq, eqD, lenQ, l1, l2]
  | cons a S => simp [oEq, eqD, lenQ, l1, l2]
theorem Hs.gar {q pos : Nat} {S : List W} {g : IH} (x : Hs t r q pos S h) : Hs t r q pos S (h ++ g) := ⟨get_app x.r, get_app x.q⟩
theorem iC_ok {q pos many : Nat} {S : List W} {w : W} (hb : t.length ≤ 16777216) (x : Hs t r q pos S h) : iC (d + 2) (sg r q w many) h = if S ≠ [] ∧ ch t pos = some 41 then .v (.bl true) ((h ++ [IO.lst []]).set r (rdr t (pos + 1))) else .v (.bl false) (h ++ [IO.lst []]) := by
  have hs := sign_loc (d := d) (a := ")") (c := 41) (σ := [some (.ref q), some w, some (.int many)]) rfl hb (x.gar (g := [IO.lst []])).r
  unfold iC
  rw [eAnd_ap, ne_nil x, vb_v]
  by_cases q1 : S = []
  · subst q1; simp
  · rw [decide_eq_true q1]
    simp only
    by_cases q2 : ch t pos = some 41
    · rw [if_pos q2] at hs
      rw [if_pos ⟨q1, q2⟩]; exact hs
    · rw [if_neg q2] at hs
      rw [if_neg (fun z => q2 z.2)]; exact hs
theorem atI_last (S : List W) (x : W) : L2.atI (S ++ [x]) (-1) = some x := by
  have e : L2.ixN (S ++ [x]).length (-1) = some S.length := by
    unfold L2.ixN
    rw [if_neg (by decide), if_pos (by simp; omega)]
    simp; omega
  unfold L2.atI
  rw [e]
  simp
/-- the last one's list -/
theorem last_ok {q p many : Nat} {S : List W} {k : Str} {ms : List Str} {w : W} (hq : h[q]? = some (IO.lst (S ++ [hnode k ms p]))) : eBin oIx (eBin oIx (eLoc 1) (eNeg (eK (.int 1)))) (eK (.int 2)) (sg r q w many) h = .v (.ref p) h := by
  simp only [eBin_ap, eLoc_ap, List.getElem?_cons_zero, List.getElem?_cons_succ, locO_s, vb_v, eNeg_ap, eK_ap]
  rw [show oIx (.ref q) (.int (-1)) h = .v (hnode k ms p) h by simp only [oIx, hq, ixW, atI_last]]
  rfl
theorem put_last {q p many : Nat} {S ws : List W} {k : Str} {ms : List Str} {w : W} (hq : h[q]? = some (IO.lst (S ++ [hnode k ms p]))) (hp : h[p]? = some (IO.lst ws)) (hl : ws.length < 16777216) :
    eDrop (eBM "list" mAppend (eBin oIx (eBin oIx (eLoc 1) (eNeg (eK (.int 1)))) (eK (.int 2))) (eCons (eLoc 2) eNil)) (sg r q w many) h = .nx (sg r q w many) (h.set p (IO.lst (ws ++ [w]))) := by
  rw [eDrop_ap, eBM_ap, last_ok hq, vb_v]
  simp only [eCons_ap, eLoc_ap, eNil_ap, List.getElem?_cons_zero, List.getElem?_cons_succ, locO_s, vb_v, vsb_vs]
  rw [app_ok (w := w) hp hl]; rfl
theorem iB_ok {q p many : Nat} {S ws : List W} {k : Str} {ms : List Str} {w : W} (hq : h[q]? = some (IO.lst (S ++ [hnode k ms p]))) (hp : h[p]? = some (IO.lst ws)) (hqp : p ≠ q) (hl : ws.length < 16777216) :
    iB (sg r q w many) h = .nx (sg r q (hnode k ms p) many) ((h.set p (IO.lst (ws ++ [w]))).set q (IO.lst S)) := by
  unfold iB
  rw [eSeq_ap, put_last hq hp hl, nb_nx]
  have hq' : (h.set p (IO.lst (ws ++ [w])))[q]? = some (IO.lst (S ++ [hnode k ms p])) := by rw [List.getElem?_set_ne hqp]; exact hq
  have ty : tyW "list" (.ref q) (h.set p (IO.lst (ws ++ [w]))) = true := by unfold tyW lstAt; simp only [hq']; rfl
  rw [eAsg_ap, eBM_ap]
  simp only [eLoc_ap, List.getElem?_cons_zero, List.getElem?_cons_succ, locO_s, vb_v, ty, if_true, eNil_ap, vsb_vs]
  simp [mPop, hq']
theorem rest_end {q pos many : Nat} {w : W} (x : Hs t r q pos [] h) : nRest d (sg r q w many) h = .rt (.tup [w, .int many]) (h ++ [IO.lst []]) := by
  unfold nRest
  rw [eSeq_ap, eIfS_ap, eq_nil x, vb_v]
  simp
theorem rest_ok {q p pos many : Nat} {S ws : List W} {k : Str} {ms : List Str} {w : W} (hb : t.length < 100000) (fw : Few t) (x : Hs t r q pos (S ++ [hnode k ms p]) h) (hp : h[p]? = some (IO.lst ws)) (hqp : p ≠ q) (hrp : p ≠ r) (hl : ws.length < 16777216) :
    (ch t pos ≠ some 44 → Bad t (nRest (d + 4) (sg r q w many) h)) ∧ (ch t pos = some 44 → match headF t (pos + 1) with
      | none => Bad t (nRest (d + 4) (sg r q w many) h)
      | some (j, k', ms') => nRest (d + 4) (sg r q w many) h = .nx (sg r q (hnode k' ms' (h.length + 3)) (many + 1)) ((((h ++ [IO.lst []]).set r (rdr t j)).set p (IO.lst (ws ++ [w]))) ++ [IO.lst (ms'.map W.str), IO.lst ((sortS ms').map W.str), IO.lst []])) := by
  have x1 : Hs t r q pos (S ++ [hnode k ms p]) (h ++ [IO.lst []]) := x.gar
  have hp1 : (h ++ [IO.lst []])[p]? = some (IO.lst ws) := get_app hp
  have hn : eMeth "need" (mt4_need_1 (run (d + 4))) (eLoc 0) (eCons (eK (.str ",")) eNil) (sg r q w many) (h ++ [IO.lst []]) = (run (d + 4) 9 [.ref r, .str ⟨#[44]⟩] (h ++ [IO.lst []])).cb (sg r q w many) := by
    have e : ("," : Str) = ⟨#[44]⟩ := rfl
    rw [e]
    simp only [eMeth_ap, eLoc_ap, List.getElem?_cons_zero, locO_s, vb_v, rc_need x1.r, eCons_ap, eK_ap, eNil_ap, vsb_vs, List.append_nil]
  rw [need_ok (d := d + 1) (by omega : t.length ≤ 16777216) x1.r] at hn
  have e0 : nRest (d + 4) (sg r q w many) h = (eSeq (eDrop (eMeth "need" (mt4_need_1 (run (d + 4))) (eLoc 0) (eCons (eK (.str ",")) eNil)))
    (eSeq (eDrop (eBM "list" mAppend (eBin oIx (eBin oIx (eLoc 1) (eNeg (eK (.int 1)))) (eK (.int 2))) (eCons (eLoc 2) eNil)))
    (eSeq (eAsg (gN 2) (eCall (run (d + 4) 16) [] (eCons (eLoc 0) eNil)))
    (eAug 3 oAddX (eK (.int 1)))))) (sg r q w many) (h ++ [IO.lst []]) := by
    unfold nRest
    rw [eSeq_ap, eIfS_ap, eq_nil x, vb_v]
    simp only [List.append_eq_nil_iff, List.cons_ne_nil, and_false, decide_false, eEnd_ap, nb_nx]
  rw [e0, eSeq_ap, eDrop_ap]
  constructor
  · intro hc
    rw [if_neg hc] at hn
    rw [hn]
    exact ⟨_, _, rfl⟩
  · intro hc
    rw [if_pos hc] at hn
    rw [hn]
    simp only [cb_v, vb_v, nb_nx]
    have hq2 : ((h ++ [IO.lst []]).set r (rdr t (pos + 1)))[q]? = some (IO.lst (S ++ [hnode k ms p])) := by rw [List.getElem?_set_ne x.ne]; exact x1.q
    have hp2 : ((h ++ [IO.lst []]).set r (rdr t (pos + 1)))[p]? = some (IO.lst ws) := by rw [List.getElem?_set_ne (Ne.symm hrp)]; exact hp1
    rw [eSeq_ap, put_last hq2 hp2 hl, nb_nx]
    have hr3 : (((h ++ [IO.lst []]).set r (rdr t (pos + 1))).set p (IO.lst (ws ++ [w])))[r]? = some (rdr t (pos + 1)) := by rw [List.getElem?_set_ne hrp]; exact get_set x1.r
    have hh := head_ok (d := d) hb fw hr3
    rw [eSeq_ap, eAsg_ap, eCall_ap]
    simp only [eLoc_ap, List.getElem?_cons_zero, locO_s, vb_v, eCons_ap, eNil_ap, vsb_vs, List.append_nil]
    cases qh : headF t (pos + 1) with
    | none => rw [qh] at hh; exact Bad.nb (Bad.vb (Bad.cb hh))
    | some a =>
      obtain ⟨j, k', ms'⟩ := a
      rw [qh] at hh
      simp only at hh ⊢
      rw [hh]
      simp only [cb_v, vb_v, gN_ap, List.set_cons_succ, List.set_cons_zero, nb_nx, eAug_ap, List.getElem?_cons_succ, List.getElem?_cons_zero, eK_ap, oAddX, List.length_set, List.length_append, List.length_cons, List.length_nil]
      rw [List.set_comm _ _ hrp, set2]
      rfl
theorem set_ag {h : IH} {r p q a : Nat} {x y z g} (h1 : a ≠ r) (h2 : a ≠ p) (h3 : a ≠ q) (hl : a < h.length) : ((((h ++ [g]).set r x).set p y).set q z)[a]? = h[a]? := by
  rw [List.getElem?_set_ne (Ne.symm h3), List.getElem?_set_ne (Ne.symm h2), List.getElem?_set_ne (Ne.symm h1), List.getElem?_append_left hl]
theorem set_ag2 {h : IH} {r p a : Nat} {x y g} {gs : IH} (h1 : a ≠ r) (h2 : a ≠ p) (hl : a < h.length) : ((((h ++ [g]).set r x).set p y) ++ gs)[a]? = h[a]? := by
  rw [List.getElem?_append_left (by simp; omega), List.getElem?_set_ne (Ne.symm h2), List.getElem?_set_ne (Ne.symm h1), List.getElem?_append_left hl]
/-- what is done when a node is whole -/
def Done (d : Nat) (t : Str) (r q e : Nat) (S : List W) (p : Nat) (h : IH) (w0 : Option W) (T : Tr) (m' : Nat) (o : Out) : Prop :=
  ∃ h' w f' fi', o = Rst (d + 4) f' fi' (sg r q w m') h' ∧ (∀ w', w0 = some w' → w = w') ∧ Hs t r q e S h' ∧ h.length ≤ h'.length ∧ (∀ a, a < p → a ≠ r → a ≠ q → h'[a]? = h[a]?) ∧ TreeIn h' p h'.length w T ∧ t.length - e ≤ f' ∧ t.length - e < fi'
def NodeOk (d : Nat) (t : Str) (r q n : Nat) : Prop := ∀ i j k ms S h f many p, headF t i = some (j, k, ms) → pc t i < n → Hs t r q j S h → h[p]? = some (IO.lst []) → r < p → q < p → S.length ≤ i → t.length - j < f →
  match rd t n i with
  | none => Bad t (eWhl nC (nB (d + 4)) f (sg r q (hnode k ms p) many) h)
  | some (e, T) => ∃ m', m' + 1 = many + T.size ∧ Done d t r q e S p h none T m' (eWhl nC (nB (d + 4)) f (sg r q (hnode k ms p) many) h)
theorem size_pos : ∀ T : Tr, 1 ≤ T.size
  | .mk _ _ _ => by unfold Tr.size; omega
theorem kids_ok {q n : Nat} (hb : t.length < 100000) (fw : Few t) (A : NodeOk d t r q n) : ∀ m i j k' ms' k ms p ws acc S h f many p', headF t i = some (j, k', ms') → pc t i < n → t.length - i < m → Hs t r q j (S ++ [hnode k ms p]) h → h[p']? = some (IO.lst []) → p < p' → r < p → q < p → h[p]? = some (IO.lst ws) → TreesIn h (p + 1) p' ws acc → S.length + 1 ≤ i → acc.length ≤ i → t.length - j < f →
    match kids (rd t n) t m i k ms acc with
    | none => Bad t (eWhl nC (nB (d + 4)) f (sg r q (hnode k' ms' p') many) h)
    | some (e, T) => ∃ m', m' + 2 + sizes acc = many + T.size ∧ Done d t r q e S p h (some (hnode k ms p)) T m' (eWhl nC (nB (d + 4)) f (sg r q (hnode k' ms' p') many) h)
  | 0, _, _, _, _, _, _, _, _, _, _, _, _, _, _, _, _, hf, _, _, _, _, _, _, _, _, _, _ => absurd hf (Nat.not_lt_zero _)
  | m + 1, i, j, k', ms', k, ms, p, ws, acc, S, h, f, many, p', hh, hpc, hm, x, hp', hpp, hrp, hqp, hp, tr, hS, hacc, hf => by
    have a := A i j k' ms' _ h f many p' hh hpc x hp' (by omega) (by omega) (by simp; omega) hf
    have hle := headF_le hh
    unfold kids
    cases qr : rd t n i with
    | none => rw [qr] at a; exact a
    | some eT =>
      obtain ⟨e2, T2⟩ := eT
      rw [qr] at a
      obtain ⟨m2, hm2, h2, w2, f2, fi2, eo, _, x2, hl2, ag2, tr2, hf2, hfi2⟩ := a
      have le2 := rd_le qr
      have hp2 : h2[p]? = some (IO.lst ws) := by rw [ag2 p hpp (by omega) (by omega)]; exact hp
      have hwl : ws.length < 16777216 := by have := tr.len; omega
      have pl := lt_of hp2
      have tr' : TreesIn h2 (p + 1) h2.length ws acc := tr.mono (fun a h1 h3 => ag2 a h3 (by omega) (by omega)) (Nat.le_refl _) (by have := lt_of hp'; omega)
      have tr2' : TreeIn h2 (p + 1) h2.length w2 T2 := tr2.mono (fun a _ _ => rfl) hpp (Nat.le_refl _)
      have trs : TreesIn h2 (p + 1) h2.length (ws ++ [w2]) (acc ++ [T2]) := tr'.app (.cons tr2' .nil)
      obtain ⟨fi2, rfl⟩ : ∃ z, fi2 = z + 1 := ⟨fi2 - 1, by omega⟩
      have ic := iC_ok (d := d + 2) (w := w2) (many := m2) (by omega : t.length ≤ 16777216) x2
      simp only
      by_cases q41 : ch t e2 = some 41
      · have l41 := ch_lt q41
        rw [if_pos q41]
        rw [if_pos ⟨by simp, q41⟩] at ic
        have ib := iB_ok (h := (h2 ++ [IO.lst []]).set r (rdr t (e2 + 1))) (r := r) (q := q) (p := p) (many := m2) (S := S) (ws := ws) (k := k) (ms := ms) (w := w2) (by rw [List.getElem?_set_ne x2.ne]; exact get_app x2.q) (by rw [List.getElem?_set_ne (by omega)]; exact get_app hp2) (by omega) hwl
        refine ⟨m2, by simp only [Tr.size, sizes_app, sizes]; omega, (((h2 ++ [IO.lst []]).set r (rdr t (e2 + 1))).set p (IO.lst (ws ++ [w2]))).set q (IO.lst S), hnode k ms p, f2, fi2, ?_, fun w' e => by cases e; rfl, ⟨?_, ?_⟩, ?_, ?_, ?_, by omega, by omega⟩
        · rw [eo]; unfold Rst; rw [whl_nx ic ib]
        · rw [List.getElem?_set_ne (Ne.symm x2.ne), List.getElem?_set_ne (by omega)]
          exact get_set (get_app x2.r)
        · exact get_set (o := IO.lst (S ++ [hnode k ms p])) (by rw [List.getElem?_set_ne (by omega), List.getElem?_set_ne x2.ne]; exact get_app x2.q)
        · simp; omega
        · intro a h1 h3 h4
          rw [set_ag h3 (by omega) h4 (by omega)]
          exact ag2 a (by omega) h3 h4
        · refine TreeIn.mk (ws := ws ++ [w2]) p (Nat.le_refl _) (by simp; omega) ?_ (trs.mono (fun a h1 h3 => set_ag (by omega) (by omega) (by omega) h3) (by omega) (by simp))
          rw [List.getElem?_set_ne (by omega)]
          exact get_set (by rw [List.getElem?_set_ne (by omega)]; exact get_app hp2)
      · rw [if_neg q41]
        rw [if_neg (fun z => q41 z.2)] at ic
        have x3 : Hs t r q e2 (S ++ [hnode k ms p]) (h2 ++ [IO.lst []]) := x2.gar
        have rs := rest_ok (d := d) (w := w2) (many := m2) hb fw x3 (get_app hp2) (by omega) (by omega) hwl
        have er : Rst (d + 4) f2 (fi2 + 1) (sg r q w2 m2) h2 = lpO nC (nB (d + 4)) f2 (nRest (d + 4) (sg r q w2 m2) (h2 ++ [IO.lst []])) := by
          unfold Rst; rw [whl_f ic, nb_nx]
        by_cases q44 : ch t e2 = some 44
        · rw [if_pos q44]
          have l44 := ch_lt q44
          have rs := rs.2 q44
          cases qh : headF t (e2 + 1) with
          | none =>
            rw [qh] at rs
            have kn : ∀ m, kids (rd t n) t m (e2 + 1) k ms (acc ++ [T2]) = none := by
              intro m
              cases m with
              | zero => rfl
              | succ m =>
                unfold kids
                have : rd t n (e2 + 1) = none := by cases n <;> simp [rd, qh]
                rw [this]
            rw [kn, eo, er]
            exact Bad.lp rs
          | some jk =>
            obtain ⟨j3, k3, ms3⟩ := jk
            rw [qh] at rs
            simp only at rs
            have le3 := headF_le qh
            have ih := kids_ok hb fw A m (e2 + 1) j3 k3 ms3 k ms p (ws ++ [w2]) (acc ++ [T2]) S f2 (m2 + 1) ((h2 ++ [IO.lst []]).length + 3) qh (Nat.lt_of_le_of_lt (pc_mono (by omega)) hpc) (by omega)
              (h := (((h2 ++ [IO.lst []] ++ [IO.lst []]).set r (rdr t j3)).set p (IO.lst (ws ++ [w2]))) ++ [IO.lst (ms3.map W.str), IO.lst ((sortS ms3).map W.str), IO.lst []])
              ⟨get_app (by rw [List.getElem?_set_ne (by omega)]; exact get_set (get_app x3.r)), get_app (by rw [List.getElem?_set_ne (by omega), List.getElem?_set_ne x2.ne]; exact get_app x3.q)⟩
              (by rw [List.getElem?_append_right (by simp)]; simp) (by simp; omega) hrp hqp (get_app (get_set (by rw [List.getElem?_set_ne (by omega)]; exact get_app (get_app hp2))))
              (trs.mono (fun a h1 h3 => by rw [set_ag2 (by omega) (by omega) (by simp; omega)]; exact List.getElem?_append_left h3) (Nat.le_refl _) (by simp; omega)) (by omega) (by simp; omega) (by omega)
            have eq : eWhl nC (nB (d + 4)) f (sg r q (hnode k' ms' p') many) h = eWhl nC (nB (d + 4)) f2 (sg r q (hnode k3 ms3 ((h2 ++ [IO.lst []]).length + 3)) (m2 + 1)) ((((h2 ++ [IO.lst []] ++ [IO.lst []]).set r (rdr t j3)).set p (IO.lst (ws ++ [w2]))) ++ [IO.lst (ms3.map W.str), IO.lst ((sortS ms3).map W.str), IO.lst []]) := by
              rw [eo, er, rs]; rfl
            rw [eq]
            cases qk : kids (rd t n) t m (e2 + 1) k ms (acc ++ [T2]) with
            | none => rw [qk] at ih; exact ih
            | some eT =>
              obtain ⟨e4, T4⟩ := eT
              rw [qk] at ih
              obtain ⟨m', hm', h', w', f', fi', a1, a2, a3, a4, a5, a6, a7, a8⟩ := ih
              refine ⟨m', by rw [sizes_app] at hm'; simp only [sizes] at hm'; omega, h', w', f', fi', a1, a2, a3, by simp at a4; omega, fun a h1 h3 h4 => ?_, a6, a7, a8⟩
              rw [a5 a h1 h3 h4, set_ag2 h3 (by omega) (by simp; omega), List.getElem?_append_left (by omega)]
              exact ag2 a (by omega) h3 h4
        · rw [if_neg q44, eo, er]
          exact Bad.lp (rs.1 q44)
theorem node_ok {q : Nat} (hb : t.length < 100000) (fw : Few t) : ∀ n, NodeOk d t r q n
  | 0 => fun i j k ms S h f many p _ hpc => absurd hpc (Nat.not_lt_zero _)
  | n + 1 => fun i j k ms S h f many p hh hpc x hp hr hq hS hf => by
    have hle := headF_le hh
    obtain ⟨f, rfl⟩ : ∃ z, f = z + 1 := ⟨f - 1, by omega⟩
    unfold rd
    rw [hh]
    simp only
    rw [whl_lp]
    unfold nB
    rw [eSeq_ap]
    by_cases q40 : ch t j = some 40
    · rw [if_pos q40]
      have l40 := ch_lt q40
      have y := nIf_yes (d := d) (w := hnode k ms p) (many := many) hb fw (by omega) x q40
      have pc1 := pc_at q40
      have pc2 := pc_mono (t := t) (i := i) (j := j) (by omega)
      cases qh : headF t (j + 1) with
      | none =>
        rw [qh] at y
        have kn : ∀ m, kids (rd t n) t m (j + 1) k ms [] = none := by
          intro m
          cases m with
          | zero => rfl
          | succ m =>
            unfold kids
            have : rd t n (j + 1) = none := by cases n <;> simp [rd, qh]
            rw [this]
        rw [kn]
        exact Bad.lp (Bad.nb y)
      | some jk =>
        obtain ⟨j3, k3, ms3⟩ := jk
        rw [qh] at y
        simp only at y
        have le3 := headF_le qh
        have pl := lt_of hp
        rw [y, nb_ct]
        have K := kids_ok hb fw (node_ok hb fw n) (t.length + 1) (j + 1) j3 k3 ms3 k ms p [] [] S (((h.set r (rdr t j3)).set q (IO.lst (S ++ [hnode k ms p]))) ++ [IO.lst (ms3.map W.str), IO.lst ((sortS ms3).map W.str), IO.lst []]) f (many + 1) (h.length + 2) qh (by omega) (by omega)
          ⟨get_app (by rw [List.getElem?_set_ne (Ne.symm x.ne)]; exact get_set x.r), get_app (get_set (by rw [List.getElem?_set_ne x.ne]; exact x.q))⟩
          (by rw [List.getElem?_append_right (by simp)]; simp) (by omega) hr hq (get_app (by rw [List.getElem?_set_ne (by omega), List.getElem?_set_ne (by omega)]; exact hp)) .nil (by omega) (by simp) (by omega)
        show match kids (rd t n) t (t.length + 1) (j + 1) k ms [] with
          | none => Bad t (eWhl nC (nB (d + 4)) f _ _)
          | some (e, T) => ∃ m', m' + 1 = many + T.size ∧ Done d t r q e S p h none T m' (eWhl nC (nB (d + 4)) f _ _)
        cases qk : kids (rd t n) t (t.length + 1) (j + 1) k ms [] with
        | none => rw [qk] at K; exact K
        | some eT =>
          obtain ⟨e4, T4⟩ := eT
          rw [qk] at K
          obtain ⟨m', hm', h', w', f', fi', a1, a2, a3, a4, a5, a6, a7, a8⟩ := K
          refine ⟨m', by simp only [sizes] at hm'; omega, h', w', f', fi', a1, (fun _ e => nomatch e), a3, by simp at a4; omega, fun a h1 h3 h4 => ?_, a6, a7, a8⟩
          rw [a5 a h1 h3 h4, List.getElem?_append_left (by simp; omega), List.getElem?_set_ne (Ne.symm h4), List.getElem?_set_ne (Ne.symm h3)]
    · rw [if_neg q40]
      have y := nIf_no (d := d + 2) (w := hnode k ms p) (many := many) (by omega : t.length ≤ 16777216) x q40
      rw [y, nb_nx]
      refine ⟨many, by simp [Tr.size, sizes], h, hnode k ms p, f, nF, rfl, (fun _ e => nomatch e), x, Nat.le_refl _, fun a _ _ _ => rfl, TreeIn.mk p (Nat.le_refl _) (lt_of hp) hp TreesIn.nil, by omega, ?_⟩
      show _ < 100000; omega
end Dr.L
set_option maxHeartbeats 4000000
namespace Dr.L
open PySem L2 PyProof.Rows Dr
variable {t : Str} {i r d : Nat} {h : IH}
theorem forI {J : ItW} {g : Tg} {b : Ev} {n : Nat} (I : Nat → Sg → IH → Prop) (hgo : ∀ i σ h, i < n → I i σ h → ∃ w σ' s h', J i h = some (some w) ∧ g w σ = some σ' ∧ b σ' h = .nx s h' ∧ I (i + 1) s h') (hst : ∀ σ h, I n σ h → J n h = some none) :
    ∀ (fuel i : Nat) (σ : Sg) (h : IH), i ≤ n → n - i < fuel → I i σ h → ∃ s h', forL J g b fuel i σ h = .nx s h' ∧ I n s h'
  | 0, i, _, _, _, hf, _ => absurd hf (Nat.not_lt_zero _)
  | fuel + 1, i, σ, h, hi, hf, hI => by
    unfold forL
    by_cases q : i = n
    · subst q
      rw [hst σ h hI]
      exact ⟨σ, h, rfl, hI⟩
    · obtain ⟨w, σ', s, h', e1, e2, e3, e4⟩ := hgo i σ h (by omega) hI
      simp only [e1, e2, e3]
      exact forI I hgo hst fuel (i + 1) s h' (by omega) (by omega) e4
theorem lcI {J : ItW} {g : Tg} {t e : Ev} {D : Nat} {σ0 : Sg} {n : Nat} (I : Nat → IH → Prop) (hgo : ∀ i h, i < n → I i h → ∃ w σ2 y h2 acc, J i h = some (some w) ∧ g w σ0 = some σ2 ∧ t σ2 h = .v (.bl true) h ∧ e σ2 h = .v y h2 ∧ h2[D]? = some (.lst acc) ∧ acc.length < 16777216 ∧ I (i + 1) (h2.set D (.lst (acc ++ [y])))) (hst : ∀ h, I n h → J n h = some none) :
    ∀ (fuel i : Nat) (h : IH), i ≤ n → n - i < fuel → I i h → ∃ h', lcL J g t e D σ0 fuel i h = .v (.ref D) h' ∧ I n h'
  | 0, i, _, _, hf, _ => absurd hf (Nat.not_lt_zero _)
  | fuel + 1, i, h, hi, hf, hI => by
    unfold lcL
    by_cases q : i = n
    · subst q
      rw [hst h hI]
      exact ⟨h, rfl, hI⟩
    · obtain ⟨w, σ2, y, h2, acc, e1, e2, e3, e4, e5, e6, e7⟩ := hgo i h (by omega) hI
      simp only [e1, e2, e3, e4, e5, if_pos e6]
      exact lcI I hgo hst fuel (i + 1) _ (by omega) (by omega) e7
/-! ### read_node -/
theorem rn_ok {n : Nat} (hb : t.length < 100000) (fw : Few t) (hr : h[r]? = some (rdr t i)) (hn : pc t i < n) : match rd t n i with
    | none => Bad t (run (d + 5) 15 [.ref r] h)
    | some (e, T) => ∃ h' w, run (d + 5) 15 [.ref r] h = .v (.tup [w, .int T.size]) h' ∧ h'[r]? = some (rdr t e) ∧ h.length ≤ h'.length ∧ TreeIn h' h.length h'.length w T ∧ (∀ a, a < h.length → a ≠ r → h'[a]? = h[a]?) := by
  have e0 : run (d + 5) 15 [.ref r] h = (b15 (run (d + 4)) nF [some (.ref r), none, none, none] h).fin := fn_run (b := b15) (n := 1) (N := 4) rfl rfl
  have rl := lt_of hr
  have hr1 : (h ++ [IO.lst []])[r]? = some (rdr t i) := get_app hr
  have hh := head_ok (d := d) hb fw hr1
  have s1 : eAsg (gN 1) (eLst eNil) [some (.ref r), none, none, none] h = .nx [some (.ref r), some (.ref h.length), none, none] (h ++ [IO.lst []]) := by simp
  have e1 : b15 (run (d + 4)) nF [some (.ref r), none, none, none] h = (eSeq (eAsg (gN 2) (eCall (run (d + 4) 16) [] (eCons (eLoc 0) eNil))) (eSeq (eAsg (gN 3) (eK (.int 1))) (eWhl nC (nB (d + 4)) nF))) [some (.ref r), some (.ref h.length), none, none] (h ++ [IO.lst []]) := by
    unfold b15
    rw [eSeq_ap, s1, nb_nx]
  rw [e0, e1, eSeq_ap, eAsg_ap, eCall_ap]
  simp only [eLoc_ap, List.getElem?_cons_zero, locO_s, vb_v, eCons_ap, eNil_ap, vsb_vs, List.append_nil]
  cases qh : headF t i with
  | none =>
    rw [qh] at hh
    have : rd t n i = none := by cases n <;> simp [rd, qh]
    rw [this]
    exact Bad.fin (Bad.nb (Bad.vb (Bad.cb hh)))
  | some a =>
    obtain ⟨j, k, ms⟩ := a
    rw [qh] at hh
    simp only at hh
    have le := headF_le qh
    rw [hh]
    simp only [cb_v, vb_v, gN_ap, List.set_cons_succ, List.set_cons_zero, nb_nx, eSeq_ap, eAsg_ap, eK_ap]
    have A := node_ok (d := d) (r := r) (q := h.length) hb fw n i j k ms [] ((h ++ [IO.lst []]).set r (rdr t j) ++ [IO.lst (ms.map W.str), IO.lst ((sortS ms).map W.str), IO.lst []]) nF 1 ((h ++ [IO.lst []]).length + 2) qh hn
      ⟨get_app (get_set hr1), get_app (by rw [List.getElem?_set_ne (by omega)]; simp)⟩ (by rw [List.getElem?_append_right (by simp)]; simp) (by simp; omega) (by simp; omega) (by simp) (by show _ < 100000; omega)
    cases qr : rd t n i with
    | none => rw [qr] at A; exact Bad.fin A
    | some eT =>
      obtain ⟨e, T⟩ := eT
      rw [qr] at A
      obtain ⟨m', hm', h', w', f', fi', a1, a2, a3, a4, a5, a6, a7, a8⟩ := A
      have hm : m' = T.size := by omega
      subst hm
      obtain ⟨fi', rfl⟩ : ∃ z, fi' = z + 1 := ⟨fi' - 1, by omega⟩
      have ic := iC_ok (d := d + 2) (w := w') (many := T.size) (by omega : t.length ≤ 16777216) a3
      rw [if_neg (fun z => z.1 rfl)] at ic
      simp only [List.length_append, List.length_set, List.length_cons, List.length_nil] at a4
      have ew : eWhl nC (nB (d + 4)) nF [some (.ref r), some (.ref h.length), some (hnode k ms ((h ++ [IO.lst []]).length + 2)), some (.int 1)] ((h ++ [IO.lst []]).set r (rdr t j) ++ [IO.lst (ms.map W.str), IO.lst ((sortS ms).map W.str), IO.lst []]) = .rt (.tup [w', .int T.size]) (h' ++ [IO.lst []] ++ [IO.lst []]) := by
        refine Eq.trans a1 ?_
        unfold Rst
        rw [whl_f ic, nb_nx, rest_end a3.gar]; rfl
      refine ⟨h' ++ [IO.lst []] ++ [IO.lst []], w', ?_, get_app (get_app a3.r), by simp; omega, a6.mono (fun a h1 h2 => ?_) (by simp; omega) (by simp), fun a h1 h2 => ?_⟩
      · rw [ew]; rfl
      · rw [List.getElem?_append_left (by simp; omega), List.getElem?_append_left h2]
      · rw [List.getElem?_append_left (by simp; omega), List.getElem?_append_left (by omega), a5 a (by simp; omega) h2 (by omega), List.getElem?_append_left (by simp; omega), List.getElem?_set_ne (Ne.symm h2), List.getElem?_append_left h1]
/-! ### node_paths -/
mutual
def pathsW (pa : List W) : Tr → List W
  | .mk _ _ cs => .tup pa :: pathsK pa 0 cs
def pathsK (pa : List W) (i : Nat) : List Tr → List W
  | [] => []
  | T :: Ts => pathsW (pa ++ [.int i]) T ++ pathsK pa (i + 1) Ts
end
mutual
theorem pathsW_len (pa : List W) : ∀ T : Tr, (pathsW pa T).length = T.size
  | .mk _ _ cs => by unfold pathsW Tr.size; rw [List.length_cons, pathsK_len pa 0 cs]; omega
theorem pathsK_len (pa : List W) (i : Nat) : ∀ Ts : List Tr, (pathsK pa i Ts).length = sizes Ts
  | [] => by unfold pathsK sizes; rfl
  | T :: Ts => by unfold pathsK sizes; rw [List.length_append, pathsW_len _ T, pathsK_len _ _ Ts]
end
structure PI where
  pa : List W
  w : W
  T : Tr
def PI.it (x : PI) : W := .tup [.tup x.pa, x.w]
def kidP (pa : List W) (i : Nat) : List W → List Tr → List PI
  | w :: ws, T :: Ts => ⟨pa ++ [.int i], w, T⟩ :: kidP pa (i + 1) ws Ts
  | _, _ => []
theorem kidP_paths (pa : List W) : ∀ (i : Nat) (ws : List W) (Ts : List Tr), ws.length = Ts.length → (kidP pa i ws Ts).flatMap (fun x => pathsW x.pa x.T) = pathsK pa i Ts
  | i, [], [], _ => by simp [kidP, pathsK]
  | i, w :: ws, T :: Ts, hl => by simp only [kidP, List.flatMap_cons, pathsK, kidP_paths pa (i + 1) ws Ts (by simpa using hl)]
  | i, [], _ :: _, hl => by simp at hl
  | i, _ :: _, [], hl => by simp at hl
theorem kidP_len (pa : List W) : ∀ (i : Nat) (ws : List W) (Ts : List Tr), ws.length = Ts.length → (kidP pa i ws Ts).length = ws.length
  | i, [], [], _ => rfl
  | i, w :: ws, T :: Ts, hl => by simp [kidP, kidP_len pa (i + 1) ws Ts (by simpa using hl)]
  | i, [], _ :: _, hl => by simp at hl
  | i, _ :: _, [], hl => by simp at hl
theorem kidP_get (pa : List W) : ∀ (i : Nat) (ws : List W) (Ts : List Tr) (j : Nat) (w : W), ws.length = Ts.length → ws[j]? = some w → ∃ T, (kidP pa i ws Ts)[j]? = some ⟨pa ++ [.int (i + j : Nat)], w, T⟩
  | i, [], [], j, w, _, e => by simp at e
  | i, x :: ws, T :: Ts, 0, w, hl, e => by simp at e; subst e; exact ⟨T, rfl⟩
  | i, x :: ws, T :: Ts, j + 1, w, hl, e => by
    obtain ⟨T', q⟩ := kidP_get pa (i + 1) ws Ts j w (by simpa using hl) (by simpa using e)
    exact ⟨T', by simp only [kidP, List.getElem?_cons_succ, q]; rw [show i + 1 + j = i + (j + 1) by omega]⟩
  | i, [], _ :: _, j, w, hl, _ => by simp at hl
  | i, _ :: _, [], j, w, hl, _ => by simp at hl
theorem kidP_in (pa : List W) {h : IH} {lo hi : Nat} : ∀ (i : Nat) (ws : List W) (Ts : List Tr), TreesIn h lo hi ws Ts → ∀ x ∈ kidP pa i ws Ts, TreeIn h lo hi x.w x.T
  | i, _, _, .nil => by intro x hx; simp [kidP] at hx
  | i, w :: ws, T :: Ts, .cons a b => by
    intro x hx
    rcases List.mem_cons.mp hx with rfl | hx
    · exact a
    · exact kidP_in pa (i + 1) ws Ts b x hx
abbrev pC : Ev := eBin oNe (eLoc 2) (eLst eNil)
abbrev pF : Ev := eFor nF (iRR (eBlt bLen (eCons (eBin oIx (eLoc 4) (eK (.int 2))) eNil))) (gN 5)
    (eDrop (eBM "list" mAppend (eLoc 2) (eCons (eTup (eCons (eTup (eStar (eLoc 3) (eCons (eLoc 5) eNil))) (eCons (eBin oIx (eBin oIx (eLoc 4) (eK (.int 2))) (eLoc 5)) eNil))) eNil)))
abbrev pB : Ev := eSeq (eAsg (gT [3, 4]) (eBM "list" mPop (eLoc 2) eNil)) (eSeq (eDrop (eBM "list" mAppend (eLoc 1) (eCons (eLoc 3) eNil))) pF)
theorem ne_nil2 {q : Nat} {S : List W} {σ : Sg} (hs : σ[2]? = some (some (.ref q))) (x : h[q]? = some (IO.lst S)) : pC σ h = .v (.bl (decide (S ≠ []))) (h ++ [IO.lst []]) := by
  have l1 : lstAt (h ++ [IO.lst []]) q = some S := by unfold lstAt; rw [get_app x]
  have l2 : lstAt (h ++ [IO.lst []]) h.length = some [] := by unfold lstAt; simp
  unfold pC
  simp only [eBin_ap, eLoc_ap, hs, locO_s, vb_v, eLst_ap, eNil_ap, vsb_vs, List.length_nil, Nat.zero_le, if_true]
  cases S with
  | nil => simp [oNe, eqD, lenQ, l1, l2]
  | cons a S => simp [oNe, eqD, lenQ, l1, l2]
theorem ty_list {n : Nat} {ws : List W} (hn : h[n]? = some (IO.lst ws)) : tyW "list" (.ref n) h = true := by unfold tyW lstAt; simp only [hn]; rfl
theorem drop_rev {α : Type} (l : List α) (n : Nat) (x : α) (h : l[n]? = some x) : (l.drop (n + 1)).reverse ++ [x] = (l.drop n).reverse := by
  obtain ⟨hl, e⟩ := List.getElem?_eq_some_iff.mp h
  rw [List.drop_eq_getElem_cons hl, e, List.reverse_cons]
/-- the inner loop -/
theorem pF_ok {A B p : Nat} {pa R ws : List W} {k : Str} {ms : List Str} {Ts : List Tr} {w0 : W} {y : Option W} (hp : h[p]? = some (IO.lst ws)) (hB : h[B]? = some (IO.lst R)) (hpB : p ≠ B) (hl : ws.length = Ts.length) (hz : R.length + ws.length < 1000000) (hz2 : ws.length < 90000) (hz3 : pa.length < 1000000) :
    ∃ y', pF [some w0, some (.ref A), some (.ref B), some (.tup pa), some (hnode k ms p), y] h = .nx [some w0, some (.ref A), some (.ref B), some (.tup pa), some (hnode k ms p), y'] (h.set B (IO.lst (R ++ ((kidP pa 0 ws Ts).map PI.it).reverse))) := by
  have ei : ∀ (h : IH) (y : Option W), h[p]? = some (IO.lst ws) → eBin oIx (eLoc 4) (eK (.int 2)) [some w0, some (.ref A), some (.ref B), some (.tup pa), some (hnode k ms p), y] h = .v (.ref p) h := fun h y e => rfl
  have el : bLen [.ref p] h = .v (.int ws.length) h := by
    show (match lstAt h p with | some ls => Out.v (.int (ls.length : Nat)) h | none => .no) = _
    unfold lstAt; rw [hp]
  have it : iRR (eBlt bLen (eCons (eBin oIx (eLoc 4) (eK (.int 2))) eNil)) [some w0, some (.ref A), some (.ref B), some (.tup pa), some (hnode k ms p), y] h = .it (jC (0 + ((((ws.length : Int) - 0).toNat : Nat) : Int) - 1) (-1) ((ws.length : Int) - 0).toNat) h := by
    unfold iRR
    rw [eBlt_ap, eCons_ap, ei h y hp]
    simp only [vb_v, eNil_ap, vsb_vs, el, OutI.of]
    rw [if_pos (by omega)]
  have et : ((ws.length : Int) - 0).toNat = ws.length := by omega
  rw [et] at it
  have L := forI (J := jC (0 + ((ws.length : Nat) : Int) - 1) (-1) ws.length) (g := gN 5) (n := ws.length) (b := eDrop (eBM "list" mAppend (eLoc 2) (eCons (eTup (eCons (eTup (eStar (eLoc 3) (eCons (eLoc 5) eNil))) (eCons (eBin oIx (eBin oIx (eLoc 4) (eK (.int 2))) (eLoc 5)) eNil))) eNil)))
    (fun s σ h' => ∃ y', σ = [some w0, some (.ref A), some (.ref B), some (.tup pa), some (hnode k ms p), y'] ∧ h' = h.set B (IO.lst (R ++ (((kidP pa 0 ws Ts).map PI.it).drop (ws.length - s)).reverse)))
    (by
      rintro s σ h' hs ⟨y', rfl, rfl⟩
      have hw : ws.length - 1 - s < ws.length := by omega
      have ew : ws[ws.length - 1 - s]? = some ws[ws.length - 1 - s] := List.getElem?_eq_getElem hw
      obtain ⟨T, eT⟩ := kidP_get pa 0 ws Ts (ws.length - 1 - s) _ hl ew
      have eI : ((kidP pa 0 ws Ts).map PI.it)[ws.length - 1 - s]? = some (.tup [.tup (pa ++ [.int (ws.length - 1 - s : Nat)]), ws[ws.length - 1 - s]]) := by
        rw [List.getElem?_map, eT, Nat.zero_add]; rfl
      have hdr := drop_rev _ _ _ eI
      have hp' : (h.set B (IO.lst (R ++ (((kidP pa 0 ws Ts).map PI.it).drop (ws.length - s)).reverse)))[p]? = some (IO.lst ws) := by rw [List.getElem?_set_ne (Ne.symm hpB)]; exact hp
      have hB' : (h.set B (IO.lst (R ++ (((kidP pa 0 ws Ts).map PI.it).drop (ws.length - s)).reverse)))[B]? = some (IO.lst (R ++ (((kidP pa 0 ws Ts).map PI.it).drop (ws.length - s)).reverse)) := get_set hB
      refine ⟨.int (ws.length - 1 - s : Nat), _, _, _, ?_, rfl, ?_, some (.int (ws.length - 1 - s : Nat)), rfl, rfl⟩
      · unfold jC
        rw [if_pos hs]
        congr 3
        omega
      · have hlen : (R ++ (((kidP pa 0 ws Ts).map PI.it).drop (ws.length - s)).reverse).length < 16777216 := by
          simp [kidP_len pa 0 ws Ts hl]; omega
        have eix : oIx (.ref p) (.int (ws.length - 1 - s : Nat)) (h.set B (IO.lst (R ++ (((kidP pa 0 ws Ts).map PI.it).drop (ws.length - s)).reverse))) = .v ws[ws.length - 1 - s] (h.set B (IO.lst (R ++ (((kidP pa 0 ws Ts).map PI.it).drop (ws.length - s)).reverse))) := by
          simp only [oIx, hp', ixW]
          have : L2.atI ws ((ws.length - 1 - s : Nat) : Int) = some ws[ws.length - 1 - s] := by
            unfold L2.atI L2.ixN
            rw [if_pos (by omega), if_pos (by omega)]
            simp [ew]
          rw [this]
        have hpl : (pa ++ [W.int ((ws.length - 1 - s : Nat) : Int)]).length ≤ 16777216 := by simp; omega
        simp only [List.set_cons_succ, List.set_cons_zero]
        rw [eDrop_ap, eBM_ap]
        simp only [eLoc_ap, List.getElem?_cons_zero, List.getElem?_cons_succ, locO_s, vb_v, ty_list hB', if_true, eCons_ap, eTup_ap, eStar_ap, eNil_ap, vsb_vs, if_pos hpl, eBin_ap, eK_ap]
        rw [show oIx (hnode k ms p) (.int 2) (h.set B (IO.lst (R ++ (((kidP pa 0 ws Ts).map PI.it).drop (ws.length - s)).reverse))) = .v (.ref p) (h.set B (IO.lst (R ++ (((kidP pa 0 ws Ts).map PI.it).drop (ws.length - s)).reverse))) from rfl]
        simp only [vb_v, eix, List.length_cons, List.length_nil, vsb_vs]
        rw [if_pos (by decide)]
        simp only [vb_v, vsb_vs, mAppend, hB', if_pos hlen, set2]
        congr 3
        rw [List.append_assoc, show ws.length - s = ws.length - 1 - s + 1 by omega, hdr, show ws.length - (s + 1) = ws.length - 1 - s by omega])
    (by
      rintro σ h' ⟨y', rfl, rfl⟩
      unfold jC
      rw [if_neg (by omega)])
    nF 0 [some w0, some (.ref A), some (.ref B), some (.tup pa), some (hnode k ms p), y] h (Nat.zero_le _) (by show _ < 100000; omega) ⟨y, rfl, by
      rw [List.drop_of_length_le (by simp [kidP_len pa 0 ws Ts hl])]
      simp only [List.reverse_nil, List.append_nil]
      exact (set_same hB).symm⟩
  obtain ⟨s, h', e1, y', rfl, rfl⟩ := L
  refine ⟨y', ?_⟩
  unfold pF eFor
  rw [it]
  simp only
  rw [e1, Nat.sub_self, List.drop_zero]
end Dr.L
set_option maxHeartbeats 4000000
namespace Dr.L
open PySem L2 PyProof.Rows Dr
variable {t : Str} {i r d : Nat} {h : IH}
def szs : List PI → Nat
  | [] => 0
  | x :: xs => x.T.size + szs xs
theorem szs_app : ∀ a b : List PI, szs (a ++ b) = szs a + szs b
  | [], b => by simp [szs]
  | x :: a, b => by simp only [List.cons_append, szs, szs_app a b]; omega
theorem szs_len : ∀ a : List PI, a.length ≤ szs a
  | [] => Nat.le_refl _
  | x :: a => by have := szs_len a; have := size_pos x.T; simp only [List.length_cons, szs]; omega
theorem kidP_sz (pa : List W) : ∀ (i : Nat) (ws : List W) (Ts : List Tr), ws.length = Ts.length → szs (kidP pa i ws Ts) = sizes Ts
  | i, [], [], _ => by simp [kidP, szs, sizes]
  | i, w :: ws, T :: Ts, hl => by simp only [kidP, szs, sizes, kidP_sz pa (i + 1) ws Ts (by simpa using hl)]
  | i, [], _ :: _, hl => by simp at hl
  | i, _ :: _, [], hl => by simp at hl
theorem kidP_pa (pa : List W) : ∀ (i : Nat) (ws : List W) (Ts : List Tr), ∀ x ∈ kidP pa i ws Ts, x.pa.length = pa.length + 1 ∧ x.T.size ≤ sizes Ts
  | i, [], [], x, hx => by simp [kidP] at hx
  | i, [], _ :: _, x, hx => by simp [kidP] at hx
  | i, _ :: _, [], x, hx => by simp [kidP] at hx
  | i, w :: ws, T :: Ts, x, hx => by
    rcases List.mem_cons.mp hx with rfl | hx
    · simp [sizes]
    · have := kidP_pa pa (i + 1) ws Ts x hx
      simp only [sizes]; omega
theorem pop_ok {q : Nat} {S : List W} {x : W} (hq : h[q]? = some (IO.lst (S ++ [x]))) : (if tyW "list" (.ref q) h = true then mPop (.ref q) [] h else .no) = .v x (h.set q (IO.lst S)) := by
  rw [if_pos (ty_list hq)]
  simp [mPop, hq]
theorem paths_loop {w0 : W} {A B lo hi : Nat} (hA : hi ≤ A) (hB : hi ≤ B) (hAB : A ≠ B) : ∀ (n : Nat) (st : List PI) (h : IH) (acc : List W) (y3 y4 y5 : Option W), szs st < n → szs st + acc.length < 90000 → h[A]? = some (IO.lst acc) → h[B]? = some (IO.lst (st.map PI.it).reverse) → (∀ x ∈ st, TreeIn h lo hi x.w x.T ∧ x.pa.length + x.T.size < 90000) →
    ∃ y3' y4' y5' h', eWhl pC pB n [some w0, some (.ref A), some (.ref B), y3, y4, y5] h = .nx [some w0, some (.ref A), some (.ref B), y3', y4', y5'] h' ∧ h'[A]? = some (IO.lst (acc ++ st.flatMap (fun x => pathsW x.pa x.T))) ∧ h.length ≤ h'.length ∧ (∀ a, a < hi → h'[a]? = h[a]?)
  | 0, _, _, _, _, _, _, hf, _, _, _, _ => absurd hf (Nat.not_lt_zero _)
  | n + 1, [], h, acc, y3, y4, y5, hf, hz, eA, eB, hx => by
    refine ⟨y3, y4, y5, h ++ [IO.lst []], whl_f ?_, ?_, by simp, fun a ha => ?_⟩
    · rw [ne_nil2 rfl eB]; rfl
    · rw [get_app eA]; simp
    · exact List.getElem?_append_left (by have := lt_of eA; omega)
  | n + 1, x :: st, h, acc, y3, y4, y5, hf, hz, eA, eB, hx => by
    obtain ⟨tr, hpa⟩ := hx x (List.mem_cons_self ..)
    obtain ⟨pa, w, T⟩ := x
    simp only at tr hpa
    cases tr with
    | mk p h1 h2 ep trs =>
    rename_i k ms cs ws
    simp only [szs] at hf hz
    have lA := lt_of eA
    have lB := lt_of eB
    have tl := trs.len
    have cl : cs.length ≤ sizes cs := by rw [← tl, ← kidP_len pa 0 ws cs tl, ← kidP_sz pa 0 ws cs tl]; exact szs_len _
    have sl := szs_len st
    have hT : (Tr.mk k ms cs).size = 1 + sizes cs := by simp [Tr.size]
    have hc := ne_nil2 (h := h) (σ := [some w0, some (.ref A), some (.ref B), y3, y4, y5]) rfl eB
    rw [decide_eq_true (by simp)] at hc
    have eB1 : (h ++ [IO.lst []])[B]? = some (IO.lst ((st.map PI.it).reverse ++ [PI.it ⟨pa, hnode k ms p, .mk k ms cs⟩])) := by rw [get_app eB]; simp
    have eA1 : (h ++ [IO.lst []])[A]? = some (IO.lst acc) := get_app eA
    have s1 : eAsg (gT [3, 4]) (eBM "list" mPop (eLoc 2) eNil) [some w0, some (.ref A), some (.ref B), y3, y4, y5] (h ++ [IO.lst []]) = .nx [some w0, some (.ref A), some (.ref B), some (.tup pa), some (hnode k ms p), y5] ((h ++ [IO.lst []]).set B (IO.lst (st.map PI.it).reverse)) := by
      rw [eAsg_ap, eBM_ap]
      simp only [eLoc_ap, List.getElem?_cons_zero, List.getElem?_cons_succ, locO_s, vb_v, eNil_ap, vsb_vs]
      rw [pop_ok eB1]; rfl
    have eA2 : ((h ++ [IO.lst []]).set B (IO.lst (st.map PI.it).reverse))[A]? = some (IO.lst acc) := by rw [List.getElem?_set_ne (Ne.symm hAB)]; exact eA1
    have s2 : eDrop (eBM "list" mAppend (eLoc 1) (eCons (eLoc 3) eNil)) [some w0, some (.ref A), some (.ref B), some (.tup pa), some (hnode k ms p), y5] ((h ++ [IO.lst []]).set B (IO.lst (st.map PI.it).reverse)) = .nx [some w0, some (.ref A), some (.ref B), some (.tup pa), some (hnode k ms p), y5] (((h ++ [IO.lst []]).set B (IO.lst (st.map PI.it).reverse)).set A (IO.lst (acc ++ [.tup pa]))) := by
      rw [eDrop_ap, eBM_ap]
      simp only [eLoc_ap, List.getElem?_cons_zero, List.getElem?_cons_succ, locO_s, vb_v, eCons_ap, eNil_ap, vsb_vs]
      rw [app_ok eA2 (by omega)]; rfl
    have ag : ∀ a, a < hi → (((h ++ [IO.lst []]).set B (IO.lst (st.map PI.it).reverse)).set A (IO.lst (acc ++ [.tup pa])))[a]? = h[a]? := fun a ha => by
      rw [List.getElem?_set_ne (by omega), List.getElem?_set_ne (by omega), List.getElem?_append_left (by omega)]
    have eB3 : (((h ++ [IO.lst []]).set B (IO.lst (st.map PI.it).reverse)).set A (IO.lst (acc ++ [.tup pa])))[B]? = some (IO.lst (st.map PI.it).reverse) := by rw [List.getElem?_set_ne hAB]; exact get_set eB1
    have eA3 : (((h ++ [IO.lst []]).set B (IO.lst (st.map PI.it).reverse)).set A (IO.lst (acc ++ [.tup pa])))[A]? = some (IO.lst (acc ++ [.tup pa])) := get_set eA2
    obtain ⟨y', s3⟩ := pF_ok (A := A) (B := B) (p := p) (pa := pa) (R := (st.map PI.it).reverse) (ws := ws) (k := k) (ms := ms) (Ts := cs) (w0 := w0) (y := y5) ((ag p h2).trans ep) eB3 (by omega) tl (by simp; omega) (by omega) (by omega)
    have hb : pB [some w0, some (.ref A), some (.ref B), y3, y4, y5] (h ++ [IO.lst []]) = .nx [some w0, some (.ref A), some (.ref B), some (.tup pa), some (hnode k ms p), y'] ((((h ++ [IO.lst []]).set B (IO.lst (st.map PI.it).reverse)).set A (IO.lst (acc ++ [.tup pa]))).set B (IO.lst ((st.map PI.it).reverse ++ ((kidP pa 0 ws cs).map PI.it).reverse))) := by
      unfold pB
      rw [eSeq_ap, s1, nb_nx, eSeq_ap, s2, nb_nx, s3]
    rw [whl_nx hc hb]
    have ag4 : ∀ a, a < hi → ((((h ++ [IO.lst []]).set B (IO.lst (st.map PI.it).reverse)).set A (IO.lst (acc ++ [.tup pa]))).set B (IO.lst ((st.map PI.it).reverse ++ ((kidP pa 0 ws cs).map PI.it).reverse)))[a]? = h[a]? := fun a ha => by
      rw [List.getElem?_set_ne (by omega)]; exact ag a ha
    obtain ⟨y3', y4', y5', h', r1, r2, r3, r4⟩ := paths_loop (w0 := w0) hA hB hAB n (kidP pa 0 ws cs ++ st) (y3 := some (.tup pa)) (y4 := some (hnode k ms p)) (y5 := y') (acc := acc ++ [W.tup pa]) (by rw [szs_app, kidP_sz pa 0 ws cs tl]; omega) (by rw [szs_app, kidP_sz pa 0 ws cs tl]; simp; omega)
      (h := ((((h ++ [IO.lst []]).set B (IO.lst (st.map PI.it).reverse)).set A (IO.lst (acc ++ [.tup pa]))).set B (IO.lst ((st.map PI.it).reverse ++ ((kidP pa 0 ws cs).map PI.it).reverse))))
      (by rw [List.getElem?_set_ne (Ne.symm hAB)]; exact eA3) (by rw [get_set eB3]; simp) (fun x hx' => by
        rcases List.mem_append.mp hx' with hx' | hx'
        · have := kidP_pa pa 0 ws cs x hx'
          exact ⟨(kidP_in pa 0 ws cs trs x hx').mono (fun a _ ha => ag4 a ha) (Nat.le_refl _) (Nat.le_refl _), by omega⟩
        · have := hx x (List.mem_cons_of_mem _ hx')
          exact ⟨this.1.mono (fun a _ ha => ag4 a ha) (Nat.le_refl _) (Nat.le_refl _), this.2⟩)
    refine ⟨y3', y4', y5', h', r1, ?_, by simp at r3; omega, fun a ha => (r4 a ha).trans (ag4 a ha)⟩
    rw [r2, List.flatMap_append, kidP_paths pa 0 ws cs tl, List.flatMap_cons]
    simp [pathsW]
theorem paths_ok {w : W} {T : Tr} {lo hi : Nat} (tr : TreeIn h lo hi w T) (hh : hi ≤ h.length) (hz : T.size < 80000) : ∃ A h', run (d + 1) 18 [w] h = .v (.ref A) h' ∧ hi ≤ A ∧ h'[A]? = some (IO.lst (pathsW [] T)) ∧ h.length ≤ h'.length ∧ (∀ a, a < h.length → h'[a]? = h[a]?) := by
  have e0 : run (d + 1) 18 [w] h = (b18 (run d) nF [some w, none, none, none, none, none] h).fin := fn_run (b := b18) (n := 1) (N := 6) rfl rfl
  have s1 : eAsg (gN 1) (eLst eNil) [some w, none, none, none, none, none] h = .nx [some w, some (.ref h.length), none, none, none, none] (h ++ [IO.lst []]) := by simp
  have s2 : eAsg (gN 2) (eLst (eCons (eTup (eCons (eTup eNil) (eCons (eLoc 0) eNil))) eNil)) [some w, some (.ref h.length), none, none, none, none] (h ++ [IO.lst []]) = .nx [some w, some (.ref h.length), some (.ref (h.length + 1)), none, none, none] (h ++ [IO.lst []] ++ [IO.lst [PI.it ⟨[], w, T⟩]]) := by simp [PI.it]
  have trm : TreeIn (h ++ [IO.lst []] ++ [IO.lst [PI.it ⟨[], w, T⟩]]) lo h.length w T := tr.mono (fun a _ ha => by rw [List.getElem?_append_left (by simp; omega), List.getElem?_append_left (by omega)]) (Nat.le_refl _) hh
  obtain ⟨y3', y4', y5', h', r1, r2, r3, r4⟩ := paths_loop (w0 := w) (A := h.length) (B := h.length + 1) (lo := lo) (hi := h.length) (by omega) (by omega) (by omega) nF [⟨[], w, T⟩] (h ++ [IO.lst []] ++ [IO.lst [PI.it ⟨[], w, T⟩]]) [] none none none (by simp only [szs]; show _ < 100000; omega) (by simp only [szs, List.length_nil]; omega) (by simp) (by simp)
    (fun x hx => by simp at hx; subst hx; exact ⟨trm, by simp; omega⟩)
  refine ⟨h.length, h', ?_, hh, by rw [r2]; simp, by simp at r3; omega, fun a ha => ?_⟩
  · rw [e0]
    unfold b18
    rw [eSeq_ap, s1, nb_nx, eSeq_ap, s2, nb_nx, eSeq_ap]
    have r1' : eWhl pC pB nF [some w, some (.ref h.length), some (.ref (h.length + 1)), none, none, none] (h ++ [IO.lst []] ++ [IO.lst [PI.it ⟨[], w, T⟩]]) = _ := r1
    unfold pC pB pF at r1'
    rw [r1']; rfl
  · rw [r4 a ha, List.getElem?_append_left (by simp; omega), List.getElem?_append_left ha]
end Dr.L
set_option maxHeartbeats 4000000
namespace Dr.L
open PySem L2 PyProof.Rows Dr
variable {t : Str} {i r d : Nat} {h : IH}
/-! ### node_text -/
mutual
def Tr.ok : Tr → Prop
  | .mk k ms cs => k.length ≤ 8 ∧ ms.length < 64 ∧ (∀ m ∈ ms, m.length ≤ 8) ∧ oks cs
def oks : List Tr → Prop
  | [] => True
  | T :: Ts => T.ok ∧ oks Ts
end
def hdS (k : Str) (ms : List Str) : Str := appS k (Txt.join "" ((sortS ms).map fun m => appS "." m))
mutual
def pieces : Tr → List Str
  | .mk k ms [] => [hdS k ms]
  | .mk k ms (T :: Ts) => hdS k ms :: "(" :: (pieces T ++ piecesK Ts)
def piecesK : List Tr → List Str
  | [] => [")"]
  | T :: Ts => "," :: (pieces T ++ piecesK Ts)
end
inductive TI where
  | s (x : Str)
  | n (w : W) (T : Tr)
def TI.it : TI → W
  | .s x => .str x
  | .n w _ => w
def TI.pcs : TI → List Str
  | .s x => [x]
  | .n _ T => pieces T
def kidT : List W → List Tr → List TI
  | w :: ws, T :: Ts => .s "," :: .n w T :: kidT ws Ts
  | _, _ => [.s ")"]
def kidT1 : List W → List Tr → List TI
  | w :: ws, T :: Ts => .s "(" :: .n w T :: kidT ws Ts
  | _, _ => []
theorem kidT_pcs : ∀ (ws : List W) (Ts : List Tr), ws.length = Ts.length → (kidT ws Ts).flatMap TI.pcs = piecesK Ts
  | [], [], _ => by simp [kidT, piecesK, TI.pcs]
  | w :: ws, T :: Ts, hl => by simp only [kidT, List.flatMap_cons, piecesK, TI.pcs, kidT_pcs ws Ts (by simpa using hl)]; rfl
  | [], _ :: _, hl => by simp at hl
  | _ :: _, [], hl => by simp at hl
theorem kidT1_pcs (k : Str) (ms : List Str) : ∀ (ws : List W) (Ts : List Tr), ws.length = Ts.length → hdS k ms :: (kidT1 ws Ts).flatMap TI.pcs = pieces (.mk k ms Ts)
  | [], [], _ => by simp [kidT1, pieces]
  | w :: ws, T :: Ts, hl => by simp only [kidT1, List.flatMap_cons, pieces, TI.pcs, kidT_pcs ws Ts (by simpa using hl)]; rfl
  | [], _ :: _, hl => by simp at hl
  | _ :: _, [], hl => by simp at hl
theorem kidT_it : ∀ (ws : List W) (Ts : List Tr), ws.length = Ts.length → (kidT ws Ts).map TI.it = ws.flatMap (fun c => [.str ",", c]) ++ [.str ")"]
  | [], [], _ => rfl
  | w :: ws, T :: Ts, hl => by simp only [kidT, List.map_cons, TI.it, kidT_it ws Ts (by simpa using hl), List.flatMap_cons]; rfl
  | [], _ :: _, hl => by simp at hl
  | _ :: _, [], hl => by simp at hl
def TI.good (h : IH) (lo hi : Nat) : TI → Prop
  | .s _ => True
  | .n w T => TreeIn h lo hi w T ∧ T.ok
theorem kidT_good {lo hi : Nat} : ∀ (ws : List W) (Ts : List Tr), TreesIn h lo hi ws Ts → oks Ts → ∀ x ∈ kidT ws Ts, x.good h lo hi
  | _, _, .nil, _, x, hx => by simp [kidT] at hx; subst hx; trivial
  | w :: ws, T :: Ts, .cons a b, ok, x, hx => by
    unfold oks at ok
    simp only [kidT, List.mem_cons] at hx
    rcases hx with rfl | rfl | hx
    · trivial
    · exact ⟨a, ok.1⟩
    · exact kidT_good ws Ts b ok.2 x hx
theorem kidT1_good {lo hi : Nat} : ∀ (ws : List W) (Ts : List Tr), TreesIn h lo hi ws Ts → oks Ts → ∀ x ∈ kidT1 ws Ts, x.good h lo hi
  | _, _, .nil, _, x, hx => by simp [kidT1] at hx
  | w :: ws, T :: Ts, .cons a b, ok, x, hx => by
    unfold oks at ok
    simp only [kidT1, List.mem_cons] at hx
    rcases hx with rfl | rfl | hx
    · trivial
    · exact ⟨a, ok.1⟩
    · exact kidT_good ws Ts b ok.2 x hx
theorem TI.good.mono {h h' : IH} {lo hi : Nat} (ag : ∀ a, a < hi → h'[a]? = h[a]?) : ∀ {x : TI}, x.good h lo hi → x.good h' lo hi
  | .s _, _ => trivial
  | .n w T, g => ⟨g.1.mono (fun a _ ha => ag a ha) (Nat.le_refl _) (Nat.le_refl _), g.2⟩
theorem pieces_pos : ∀ T : Tr, 1 ≤ (pieces T).length
  | .mk k ms [] => by simp [pieces]
  | .mk k ms (T :: Ts) => by simp [pieces]
theorem pcs_pos : ∀ x : TI, 1 ≤ x.pcs.length
  | .s _ => by simp [TI.pcs]
  | .n _ T => pieces_pos T
theorem pcs_len : ∀ st : List TI, st.length ≤ (st.flatMap TI.pcs).length
  | [] => by simp
  | x :: st => by have := pcs_len st; have := pcs_pos x; simp only [List.length_cons, List.flatMap_cons, List.length_append]; omega
abbrev tI : Ev := eIfS (eIsi is_str (eLoc 3)) (eSeq (eDrop (eBM "list" mAppend (eLoc 1) (eCons (eLoc 3) eNil))) eCnt) eEnd
abbrev tH : Ev := eDrop (eBM "list" mAppend (eLoc 1) (eCons (eBin oAdd (eLoc 4) (eBM "str" mJoin (eK (.str "")) (eCons (eLc nF (iT (eLoc 5)) [8] (gN 8) eYes (eBin oAdd (eK (.str ".")) (eLoc 8))) eNil))) eNil))
abbrev tF : Ev := eFor nF (iV (eCons (eLoc 6) eNil)) (gN 7) (eDrop (eBM "list" mExtend (eLoc 2) (eCons (eLst (eCons (eLoc 7) (eCons (eK (.str ",")) eNil))) eNil)))
abbrev tK : Ev := eIfS (eBin oNe (eLoc 6) (eLst eNil)) (eSeq (eDrop (eBM "list" mAppend (eLoc 2) (eCons (eK (.str ")")) eNil))) (eSeq tF (eSetI (eLoc 2) (eNeg (eK (.int 1))) (eK (.str "("))))) eEnd
abbrev tB : Ev := eSeq (eAsg (gN 3) (eBM "list" mPop (eLoc 2) eNil)) (eSeq tI (eSeq (eAsg (gT [4, 5, 6]) (eLoc 3)) (eSeq tH tK)))
theorem sum_le {α : Type} (f : α → Nat) (b : Nat) : ∀ l : List α, (∀ x ∈ l, f x ≤ b) → (l.map f).sum ≤ b * l.length
  | [], _ => by simp
  | x :: l, hx => by
    have := sum_le f b l (fun y hy => hx y (List.mem_cons_of_mem _ hy))
    have := hx x (List.mem_cons_self ..)
    simp only [List.map_cons, List.sum_cons, List.length_cons, Nat.mul_add, Nat.mul_one]; omega
theorem appS_len (a b : Str) : (appS a b).length = a.length + b.length := by simp [appS, Str.length]
theorem sort_len (ms : List Str) : (sortS ms).length = ms.length := (sortS_perm ms).length_eq
theorem join0_len (l : List Str) : (Txt.join "" l).length ≤ (l.map (·.length)).sum := by
  have e0 : (("" : Str)).length = 0 := rfl
  have e1 : Txt.join "" l = Str.join "" l := StrLaws.glued_eq_join "" l
  have := StrLaws.join_length_le "" l
  rw [e0] at this
  rw [e1]; omega
/-- the marks' texts -/
theorem lc_ok {σ : Sg} {ss : List Str} (hs : σ[5]? = some (some (.tup (ss.map W.str)))) (h8 : σ.length = 9) (hl : ss.length < 64) (hm : ∀ m ∈ ss, m.length ≤ 8) :
    eLc nF (iT (eLoc 5)) [8] (gN 8) eYes (eBin oAdd (eK (.str ".")) (eLoc 8)) σ h = .v (.ref h.length) (h ++ [IO.lst ((ss.map fun m => appS "." m).map W.str)]) := by
  have L := lcI (J := jT (ss.map W.str)) (g := gN 8) (t := eYes) (e := eBin oAdd (eK (.str ".")) (eLoc 8)) (D := h.length) (σ0 := wipeW σ [8]) (n := ss.length) (fun s h' => h' = h ++ [IO.lst (((ss.take s).map fun m => appS "." m).map W.str)])
    (by
      rintro s h' hs' rfl
      have em : ss[s]? = some ss[s] := List.getElem?_eq_getElem hs'
      have hm' := hm ss[s] (List.getElem_mem hs')
      refine ⟨.str ss[s], (wipeW σ [8]).set 8 (some (.str ss[s])), .str (appS "." ss[s]), h ++ [IO.lst (((ss.take s).map fun m => appS "." m).map W.str)], ((ss.take s).map fun m => appS "." m).map W.str, ?_, rfl, rfl, ?_, by simp, by simp; omega, ?_⟩
      · unfold jT; rw [List.getElem?_map, em]; rfl
      · have e8 : ((wipeW σ [8]).set 8 (some (.str ss[s])))[8]? = some (some (.str ss[s])) := by
          unfold wipeW wipeW; simp [h8]
        simp only [eBin_ap, eK_ap, eLoc_ap, e8, locO_s, vb_v]
        show (if _ then _ else _) = _
        rw [if_pos (by have : (("." : Str)).length = 1 := rfl; omega)]
      · rw [List.set_append_right _ _ (Nat.le_refl _)]
        rw [Nat.sub_self, List.set_cons_zero, List.take_succ, em]
        simp only [Option.toList_some, List.map_append, List.map_cons, List.map_nil])
    (by rintro h' rfl; unfold jT; simp)
    nF 0 (h ++ [IO.lst []]) (Nat.zero_le _) (by show _ < 100000; omega) (by simp)
  obtain ⟨h', e1, rfl⟩ := L
  unfold eLc iT
  rw [eLoc_ap, hs, locO_s]
  simp only [OutI.of]
  rw [e1, List.take_length]
theorem tH_ok {A B p : Nat} {w0 y3 : W} {k : Str} {ms acc : List Str} {y7 y8 : Option W} (eA : h[A]? = some (IO.lst (acc.map W.str))) (hk : k.length ≤ 8) (hl : ms.length < 64) (hm : ∀ m ∈ ms, m.length ≤ 8) (ha : acc.length < 1000000) :
    tH [some w0, some (.ref A), some (.ref B), some y3, some (.str k), some (.tup ((sortS ms).map W.str)), some (.ref p), y7, y8] h = .nx [some w0, some (.ref A), some (.ref B), some y3, some (.str k), some (.tup ((sortS ms).map W.str)), some (.ref p), y7, y8] ((h ++ [IO.lst (((sortS ms).map fun m => appS "." m).map W.str)]).set A (IO.lst ((acc ++ [hdS k ms]).map W.str))) := by
  have hm' : ∀ m ∈ sortS ms, m.length ≤ 8 := fun m hx => hm m ((sortS_perm ms).mem_iff.mp hx)
  have lc := lc_ok (h := h) (σ := [some w0, some (.ref A), some (.ref B), some y3, some (.str k), some (.tup ((sortS ms).map W.str)), some (.ref p), y7, y8]) (ss := sortS ms) rfl rfl (by rw [sort_len]; exact hl) hm'
  have eA1 : (h ++ [IO.lst (((sortS ms).map fun m => appS "." m).map W.str)])[A]? = some (IO.lst (acc.map W.str)) := get_app eA
  have hsum : ((((sortS ms).map fun m => appS "." m)).map (·.length)).sum ≤ 9 * 64 := by
    refine Nat.le_trans (sum_le _ 9 _ fun x hx => ?_) ?_
    · obtain ⟨m, hx2, rfl⟩ := List.mem_map.mp hx
      have := hm' m hx2
      have : (("." : Str)).length = 1 := rfl
      rw [appS_len]; omega
    · rw [List.length_map, sort_len]; omega
  have ej : mJoin (.str "") [.ref h.length] (h ++ [IO.lst (((sortS ms).map fun m => appS "." m).map W.str)]) = .v (.str (Txt.join "" ((sortS ms).map fun m => appS "." m))) (h ++ [IO.lst (((sortS ms).map fun m => appS "." m).map W.str)]) := by
    have : lstAt (h ++ [IO.lst (((sortS ms).map fun m => appS "." m).map W.str)]) h.length = some (((sortS ms).map fun m => appS "." m).map W.str) := by unfold lstAt; simp
    simp only [mJoin, this, joinS, mapO_st]
    rw [if_pos]
    have : (("" : Str)).length = 0 := rfl
    rw [this]; omega
  have hj : (Txt.join "" ((sortS ms).map fun m => appS "." m)).length ≤ 10000 := by
    exact Nat.le_trans (join0_len _) (by omega)
  unfold tH
  rw [eDrop_ap, eBM_ap]
  simp only [eLoc_ap, List.getElem?_cons_zero, List.getElem?_cons_succ, locO_s, vb_v, eCons_ap, eNil_ap, eBin_ap, eBM_ap, eK_ap]
  rw [if_pos (ty_list eA)]
  rw [if_pos (show tyW "str" (.str "") h = true from rfl), lc]
  simp only [vb_v, vsb_vs, ej]
  rw [show oAdd (.str k) (.str (Txt.join "" ((sortS ms).map fun m => appS "." m))) (h ++ [IO.lst (((sortS ms).map fun m => appS "." m).map W.str)]) = .v (.str (hdS k ms)) (h ++ [IO.lst (((sortS ms).map fun m => appS "." m).map W.str)]) from if_pos (by omega)]
  simp only [vb_v, vsb_vs, mAppend, eA1]
  rw [if_pos (by simp; omega)]
  simp
theorem tF_ok {A B p : Nat} {w0 y3 : W} {k : Str} {mw : List W} {R ws : List W} {y7 y8 : Option W} (hp : h[p]? = some (IO.lst ws)) (hB : h[B]? = some (IO.lst R)) (hpB : p ≠ B) (hz : R.length + 2 * ws.length < 1000000) (hz2 : ws.length < 90000) :
    ∃ y7' g, tF [some w0, some (.ref A), some (.ref B), some y3, some (.str k), some (.tup mw), some (.ref p), y7, y8] h = .nx [some w0, some (.ref A), some (.ref B), some y3, some (.str k), some (.tup mw), some (.ref p), y7', y8] (h.set B (IO.lst (R ++ (ws.flatMap fun c => [.str ",", c]).reverse)) ++ g) := by
  have it : iV (eCons (eLoc 6) eNil) [some w0, some (.ref A), some (.ref B), some y3, some (.str k), some (.tup mw), some (.ref p), y7, y8] h = .it (jV p ws.length) h := by
    unfold iV
    simp only [eCons_ap, eLoc_ap, List.getElem?_cons_zero, List.getElem?_cons_succ, locO_s, vb_v, eNil_ap, vsb_vs, OutI.ofs]
    have : lstAt h p = some ws := by unfold lstAt; rw [hp]
    rw [this]
  have L := forI (J := jV p ws.length) (g := gN 7) (n := ws.length) (b := eDrop (eBM "list" mExtend (eLoc 2) (eCons (eLst (eCons (eLoc 7) (eCons (eK (.str ",")) eNil))) eNil)))
    (fun s σ h' => ∃ y' g, σ = [some w0, some (.ref A), some (.ref B), some y3, some (.str k), some (.tup mw), some (.ref p), y', y8] ∧ h' = h.set B (IO.lst (R ++ ((ws.drop (ws.length - s)).flatMap fun c => [.str ",", c]).reverse)) ++ g)
    (by
      rintro s σ h' hs ⟨y', g, rfl, rfl⟩
      have hw : ws.length - 1 - s < ws.length := by omega
      have ew : ws[ws.length - 1 - s]? = some ws[ws.length - 1 - s] := List.getElem?_eq_getElem hw
      generalize ws[ws.length - 1 - s] = c at ew
      have hp' : (h.set B (IO.lst (R ++ ((ws.drop (ws.length - s)).flatMap fun c => [.str ",", c]).reverse)) ++ g)[p]? = some (IO.lst ws) := get_app (by rw [List.getElem?_set_ne (Ne.symm hpB)]; exact hp)
      have hB' : (h.set B (IO.lst (R ++ ((ws.drop (ws.length - s)).flatMap fun c => [.str ",", c]).reverse)) ++ g)[B]? = some (IO.lst (R ++ ((ws.drop (ws.length - s)).flatMap fun c => [.str ",", c]).reverse)) := get_app (get_set hB)
      have hl0 : ((ws.drop (ws.length - s)).flatMap fun c => [W.str ",", c]).length ≤ 2 * ws.length := by
        rw [List.length_flatMap]
        refine Nat.le_trans (sum_le _ 2 _ fun x _ => by simp) ?_
        rw [List.length_drop]; omega
      have hB2 : (h.set B (IO.lst (R ++ ((ws.drop (ws.length - s)).flatMap fun c => [.str ",", c]).reverse)) ++ g ++ [IO.lst [c, .str ","]])[B]? = some (IO.lst (R ++ ((ws.drop (ws.length - s)).flatMap fun c => [.str ",", c]).reverse)) := get_app hB'
      have hq : (h.set B (IO.lst (R ++ ((ws.drop (ws.length - s)).flatMap fun c => [.str ",", c]).reverse)) ++ g ++ [IO.lst [c, .str ","]])[(h.set B (IO.lst (R ++ ((ws.drop (ws.length - s)).flatMap fun c => [.str ",", c]).reverse)) ++ g).length]? = some (IO.lst [c, .str ","]) := by simp
      refine ⟨c, _, _, _, ?_, rfl, ?_, some c, g ++ [IO.lst [c, .str ","]], rfl, rfl⟩
      · unfold jV
        have : lstAt (h.set B (IO.lst (R ++ ((ws.drop (ws.length - s)).flatMap fun c => [.str ",", c]).reverse)) ++ g) p = some ws := by unfold lstAt; rw [hp']
        rw [if_pos hs, this]
        simp only [ew]
      · simp only [List.set_cons_succ, List.set_cons_zero]
        rw [eDrop_ap, eBM_ap]
        simp only [eLoc_ap, List.getElem?_cons_zero, List.getElem?_cons_succ, locO_s, vb_v, ty_list hB', if_true, eCons_ap, eLst_ap, eK_ap, eNil_ap, vsb_vs, List.length_cons, List.length_nil]
        rw [if_pos (by decide)]
        simp only [vb_v, vsb_vs, mExtend, hB2, hq]
        rw [if_pos (by simp only [List.length_append, List.length_reverse, List.length_cons, List.length_nil]; omega)]
        simp only [vb_v]
        congr 1
        rw [List.append_assoc (h.set B _) g, set_app (get_set hB), set2]
        congr 3
        have e2 : ws.drop (ws.length - (s + 1)) = c :: ws.drop (ws.length - s) := by
          obtain ⟨hl, e⟩ := List.getElem?_eq_some_iff.mp ew
          rw [show ws.length - (s + 1) = ws.length - 1 - s by omega, List.drop_eq_getElem_cons hl, e, show ws.length - 1 - s + 1 = ws.length - s by omega]
        rw [e2, List.flatMap_cons, List.reverse_append, List.append_assoc]; rfl)
    (by
      rintro σ h' ⟨y', g, rfl, rfl⟩
      unfold jV
      rw [if_neg (by omega)])
    nF 0 [some w0, some (.ref A), some (.ref B), some y3, some (.str k), some (.tup mw), some (.ref p), y7, y8] h (Nat.zero_le _) (by show _ < 100000; omega) ⟨y7, [], rfl, by
      rw [Nat.sub_zero, List.drop_length]
      simp only [List.flatMap_nil, List.reverse_nil, List.append_nil]
      exact (set_same hB).symm⟩
  obtain ⟨s, h', e1, y', g, rfl, rfl⟩ := L
  refine ⟨y', g, ?_⟩
  unfold tF eFor
  rw [it]
  simp only
  rw [e1, Nat.sub_self, List.drop_zero]
theorem tK_ok {A B p : Nat} {w0 y3 : W} {k : Str} {mw : List W} {R ws : List W} {Ts : List Tr} {y7 y8 : Option W} (hp : h[p]? = some (IO.lst ws)) (hB : h[B]? = some (IO.lst R)) (hpB : p ≠ B) (hl : ws.length = Ts.length) (hz : R.length + 2 * ws.length < 900000) (hz2 : ws.length < 90000) :
    ∃ y7' g, tK [some w0, some (.ref A), some (.ref B), some y3, some (.str k), some (.tup mw), some (.ref p), y7, y8] h = .nx [some w0, some (.ref A), some (.ref B), some y3, some (.str k), some (.tup mw), some (.ref p), y7', y8] (h.set B (IO.lst (R ++ ((kidT1 ws Ts).map TI.it).reverse)) ++ g) := by
  have l1 : lstAt (h ++ [IO.lst []]) p = some ws := by unfold lstAt; rw [get_app hp]
  have l2 : lstAt (h ++ [IO.lst []]) h.length = some [] := by unfold lstAt; simp
  have hc : eBin oNe (eLoc 6) (eLst eNil) [some w0, some (.ref A), some (.ref B), some y3, some (.str k), some (.tup mw), some (.ref p), y7, y8] h = .v (.bl (decide (ws ≠ []))) (h ++ [IO.lst []]) := by
    simp only [eBin_ap, eLoc_ap, List.getElem?_cons_zero, List.getElem?_cons_succ, locO_s, vb_v, eLst_ap, eNil_ap, vsb_vs, List.length_nil, Nat.zero_le, if_true]
    cases ws with
    | nil => simp [oNe, eqD, lenQ, l1, l2]
    | cons a S => simp [oNe, eqD, lenQ, l1, l2]
  unfold tK
  cases ws with
  | nil =>
    refine ⟨y7, [IO.lst []], ?_⟩
    rw [eIfS_ap, hc, vb_v]
    have : kidT1 [] Ts = [] := by cases Ts <;> rfl
    rw [this]
    simp only [List.map_nil, List.reverse_nil, List.append_nil]
    rw [set_same hB]; rfl
  | cons c ws =>
    cases Ts with
    | nil => simp at hl
    | cons T Ts =>
      have hB1 : (h ++ [IO.lst []])[B]? = some (IO.lst R) := get_app hB
      have s1 : eDrop (eBM "list" mAppend (eLoc 2) (eCons (eK (.str ")")) eNil)) [some w0, some (.ref A), some (.ref B), some y3, some (.str k), some (.tup mw), some (.ref p), y7, y8] (h ++ [IO.lst []]) = .nx [some w0, some (.ref A), some (.ref B), some y3, some (.str k), some (.tup mw), some (.ref p), y7, y8] ((h ++ [IO.lst []]).set B (IO.lst (R ++ [.str ")"]))) := by
        rw [eDrop_ap, eBM_ap]
        simp only [eLoc_ap, eK_ap, List.getElem?_cons_zero, List.getElem?_cons_succ, locO_s, vb_v, eCons_ap, eNil_ap, vsb_vs]
        rw [app_ok hB1 (by simp at hz; omega)]; rfl
      have hB2 : ((h ++ [IO.lst []]).set B (IO.lst (R ++ [.str ")"])))[B]? = some (IO.lst (R ++ [.str ")"])) := get_set hB1
      obtain ⟨y7', g, s2⟩ := tF_ok (A := A) (w0 := w0) (y3 := y3) (k := k) (mw := mw) (y7 := y7) (y8 := y8) (h := (h ++ [IO.lst []]).set B (IO.lst (R ++ [.str ")"]))) (p := p) (ws := c :: ws) (by rw [List.getElem?_set_ne (Ne.symm hpB)]; exact get_app hp) hB2 hpB (by simp at hz ⊢; omega) hz2
      rw [set2] at s2
      have ex : R ++ [W.str ")"] ++ ((c :: ws).flatMap fun c => [W.str ",", c]).reverse = R ++ [W.str ")"] ++ (ws.flatMap fun c => [W.str ",", c]).reverse ++ [c] ++ [.str ","] := by
        rw [List.flatMap_cons, List.reverse_append]; simp
      rw [ex] at s2
      have hB3 : ((h ++ [IO.lst []]).set B (IO.lst (R ++ [W.str ")"] ++ (ws.flatMap fun c => [W.str ",", c]).reverse ++ [c] ++ [.str ","])) ++ g)[B]? = some (IO.lst (R ++ [W.str ")"] ++ (ws.flatMap fun c => [W.str ",", c]).reverse ++ [c] ++ [.str ","])) := get_app (get_set hB1)
      have s3 : eSetI (eLoc 2) (eNeg (eK (.int 1))) (eK (.str "(")) [some w0, some (.ref A), some (.ref B), some y3, some (.str k), some (.tup mw), some (.ref p), y7', y8] ((h ++ [IO.lst []]).set B (IO.lst (R ++ [W.str ")"] ++ (ws.flatMap fun c => [W.str ",", c]).reverse ++ [c] ++ [.str ","])) ++ g) = .nx [some w0, some (.ref A), some (.ref B), some y3, some (.str k), some (.tup mw), some (.ref p), y7', y8] ((h ++ [IO.lst []]).set B (IO.lst (R ++ [W.str ")"] ++ (ws.flatMap fun c => [W.str ",", c]).reverse ++ [c] ++ [.str "("])) ++ g) := by
        have ei : ∀ (S : List W) (x : W), L2.ixN (S ++ [x]).length (-1) = some S.length := by
          intro S x
          unfold L2.ixN
          rw [if_neg (by decide), if_pos (by simp; omega)]
          simp; omega
        simp only [eSetI_ap, eK_ap, vb_v, eLoc_ap, List.getElem?_cons_zero, List.getElem?_cons_succ, locO_s, eNeg_ap]
        unfold oSetI
        simp only [hB3, ei]
        rw [List.set_append_right _ _ (Nat.le_refl _), Nat.sub_self, List.set_cons_zero, set_app (get_set hB1), set2]
      refine ⟨y7', [IO.lst []] ++ g, ?_⟩
      rw [eIfS_ap, hc, vb_v]
      simp only [ne_eq, List.cons_ne_nil, not_false_eq_true, decide_true]
      rw [eSeq_ap, s1, nb_nx, eSeq_ap, s2, nb_nx, s3]
      have ef : (kidT1 (c :: ws) (T :: Ts)).map TI.it = .str "(" :: c :: (ws.flatMap (fun c => [.str ",", c]) ++ [.str ")"]) := by
        simp only [kidT1, List.map_cons, TI.it, kidT_it ws Ts (by simpa using hl)]
      rw [ef, set_app hB, List.append_assoc]
      congr 3
      simp
end Dr.L
set_option maxHeartbeats 4000000
namespace Dr.L
open PySem L2 PyProof.Rows Dr
variable {t : Str} {i r d : Nat} {h : IH}
theorem kidT_len : ∀ (ws : List W) (Ts : List Tr), ws.length = Ts.length → (kidT ws Ts).length = 2 * ws.length + 1
  | [], [], _ => rfl
  | w :: ws, T :: Ts, hl => by simp only [kidT, List.length_cons, kidT_len ws Ts (by simpa using hl)]; omega
  | [], _ :: _, hl => by simp at hl
  | _ :: _, [], hl => by simp at hl
theorem kidT1_len : ∀ (ws : List W) (Ts : List Tr), ws.length = Ts.length → 2 * ws.length ≤ (kidT1 ws Ts).length
  | [], [], _ => by simp
  | w :: ws, T :: Ts, hl => by simp only [kidT1, List.length_cons, kidT_len ws Ts (by simpa using hl)]; omega
  | [], _ :: _, hl => by simp at hl
  | _ :: _, [], hl => by simp at hl
theorem text_loop {w0 : W} {A B lo hi : Nat} (hA : hi ≤ A) (hB : hi ≤ B) (hAB : A ≠ B) : ∀ (n : Nat) (st : List TI) (h : IH) (acc : List Str) (y3 y4 y5 y6 y7 y8 : Option W), (st.flatMap TI.pcs).length < n → (st.flatMap TI.pcs).length + acc.length < 90000 → h[A]? = some (IO.lst (acc.map W.str)) → h[B]? = some (IO.lst (st.map TI.it).reverse) → (∀ x ∈ st, x.good h lo hi) →
    ∃ y3' y4' y5' y6' y7' y8' h', eWhl pC tB n [some w0, some (.ref A), some (.ref B), y3, y4, y5, y6, y7, y8] h = .nx [some w0, some (.ref A), some (.ref B), y3', y4', y5', y6', y7', y8'] h' ∧ h'[A]? = some (IO.lst ((acc ++ st.flatMap TI.pcs).map W.str)) ∧ h.length ≤ h'.length ∧ (∀ a, a < hi → h'[a]? = h[a]?)
  | 0, _, _, _, _, _, _, _, _, _, hf, _, _, _, _ => absurd hf (Nat.not_lt_zero _)
  | n + 1, [], h, acc, y3, y4, y5, y6, y7, y8, hf, hz, eA, eB, hx => by
    refine ⟨y3, y4, y5, y6, y7, y8, h ++ [IO.lst []], whl_f ?_, ?_, by simp, fun a ha => ?_⟩
    · rw [ne_nil2 rfl eB]; rfl
    · rw [get_app eA]; simp
    · exact List.getElem?_append_left (by have := lt_of eA; omega)
  | n + 1, x :: st, h, acc, y3, y4, y5, y6, y7, y8, hf, hz, eA, eB, hx => by
    have gx := hx x (List.mem_cons_self ..)
    have lA := lt_of eA
    have lB := lt_of eB
    have sl := pcs_len st
    simp only [List.flatMap_cons, List.length_append] at hf hz
    have hc := ne_nil2 (h := h) (σ := [some w0, some (.ref A), some (.ref B), y3, y4, y5, y6, y7, y8]) rfl eB
    rw [decide_eq_true (by simp)] at hc
    have eB1 : (h ++ [IO.lst []])[B]? = some (IO.lst ((st.map TI.it).reverse ++ [x.it])) := by rw [get_app eB]; simp
    have eA1 : (h ++ [IO.lst []])[A]? = some (IO.lst (acc.map W.str)) := get_app eA
    have s1 : eAsg (gN 3) (eBM "list" mPop (eLoc 2) eNil) [some w0, some (.ref A), some (.ref B), y3, y4, y5, y6, y7, y8] (h ++ [IO.lst []]) = .nx [some w0, some (.ref A), some (.ref B), some x.it, y4, y5, y6, y7, y8] ((h ++ [IO.lst []]).set B (IO.lst (st.map TI.it).reverse)) := by
      rw [eAsg_ap, eBM_ap]
      simp only [eLoc_ap, List.getElem?_cons_zero, List.getElem?_cons_succ, locO_s, vb_v, eNil_ap, vsb_vs]
      rw [pop_ok eB1]; rfl
    have eA2 : ((h ++ [IO.lst []]).set B (IO.lst (st.map TI.it).reverse))[A]? = some (IO.lst (acc.map W.str)) := by rw [List.getElem?_set_ne (Ne.symm hAB)]; exact eA1
    have eB2 : ((h ++ [IO.lst []]).set B (IO.lst (st.map TI.it).reverse))[B]? = some (IO.lst (st.map TI.it).reverse) := get_set eB1
    have ag2 : ∀ a, a < hi → ((h ++ [IO.lst []]).set B (IO.lst (st.map TI.it).reverse))[a]? = h[a]? := fun a ha => by
      rw [List.getElem?_set_ne (by omega), List.getElem?_append_left (by omega)]
    generalize hh2 : (h ++ [IO.lst []]).set B (IO.lst (st.map TI.it).reverse) = h2 at s1 eA2 eB2 ag2
    have l2 : h2.length = h.length + 1 := by rw [← hh2]; simp
    cases x with
    | s z =>
      have s2 : tI [some w0, some (.ref A), some (.ref B), some (.str z), y4, y5, y6, y7, y8] h2 = .ct [some w0, some (.ref A), some (.ref B), some (.str z), y4, y5, y6, y7, y8] (h2.set A (IO.lst (acc.map W.str ++ [.str z]))) := by
        unfold tI
        rw [eIfS_ap, eIsi_ap]
        simp only [eLoc_ap, List.getElem?_cons_zero, List.getElem?_cons_succ, locO_s, vb_v, tgOf, is_str]
        rw [eSeq_ap, eDrop_ap, eBM_ap]
        simp only [eLoc_ap, List.getElem?_cons_zero, List.getElem?_cons_succ, locO_s, vb_v, eCons_ap, eNil_ap, vsb_vs]
        rw [app_ok eA2 (by simp; omega)]; rfl
      have hb : tB [some w0, some (.ref A), some (.ref B), y3, y4, y5, y6, y7, y8] (h ++ [IO.lst []]) = .ct [some w0, some (.ref A), some (.ref B), some (.str z), y4, y5, y6, y7, y8] (h2.set A (IO.lst (acc.map W.str ++ [.str z]))) := by
        unfold tB
        rw [eSeq_ap, s1, nb_nx, eSeq_ap]
        show Out.nb (tI _ _) _ = _
        rw [show TI.it (.s z) = W.str z from rfl, s2, nb_ct]
      have ag3 : ∀ a, a < hi → (h2.set A (IO.lst (acc.map W.str ++ [.str z])))[a]? = h[a]? := fun a ha => by
        rw [List.getElem?_set_ne (by omega)]; exact ag2 a ha
      rw [whl_ct hc hb]
      obtain ⟨y3', y4', y5', y6', y7', y8', h', r1, r2, r3, r4⟩ := text_loop (w0 := w0) hA hB hAB n st (h2.set A (IO.lst (acc.map W.str ++ [.str z]))) (acc ++ [z]) (some (.str z)) y4 y5 y6 y7 y8 (by simp only [TI.pcs, List.length_cons, List.length_nil] at hf; omega) (by simp only [TI.pcs, List.length_cons, List.length_nil, List.length_append] at hz ⊢; omega)
        (by rw [get_set eA2]; simp) (by rw [List.getElem?_set_ne hAB]; exact eB2) (fun x hx' => (hx x (List.mem_cons_of_mem _ hx')).mono ag3)
      refine ⟨y3', y4', y5', y6', y7', y8', h', r1, ?_, by simp at r3; omega, fun a ha => (r4 a ha).trans (ag3 a ha)⟩
      rw [r2]; simp [TI.pcs]
    | n w T =>
      obtain ⟨tr, ok⟩ := gx
      cases tr with
      | mk p h1 h3 ep trs =>
      rename_i k ms cs ws
      unfold Tr.ok at ok
      obtain ⟨ok1, ok2, ok3, ok4⟩ := ok
      have tl := trs.len
      have kl := kidT1_len ws cs tl
      have kp := pcs_len (kidT1 ws cs)
      have kc := kidT1_pcs k ms ws cs tl
      have hT : (TI.n (hnode k ms p) (.mk k ms cs)).pcs.length = ((kidT1 ws cs).flatMap TI.pcs).length + 1 := by
        show (pieces _).length = _
        rw [← kc]; simp
      rw [hT] at hf hz
      have s2 : tI [some w0, some (.ref A), some (.ref B), some (hnode k ms p), y4, y5, y6, y7, y8] h2 = .nx [some w0, some (.ref A), some (.ref B), some (hnode k ms p), y4, y5, y6, y7, y8] h2 := rfl
      have s3 : eAsg (gT [4, 5, 6]) (eLoc 3) [some w0, some (.ref A), some (.ref B), some (hnode k ms p), y4, y5, y6, y7, y8] h2 = .nx [some w0, some (.ref A), some (.ref B), some (hnode k ms p), some (.str k), some (.tup ((sortS ms).map W.str)), some (.ref p), y7, y8] h2 := rfl
      have s4 := tH_ok (h := h2) (A := A) (B := B) (p := p) (w0 := w0) (y3 := hnode k ms p) (k := k) (ms := ms) (acc := acc) (y7 := y7) (y8 := y8) eA2 ok1 ok2 ok3 (by omega)
      generalize hh3 : (h2 ++ [IO.lst (((sortS ms).map fun m => appS "." m).map W.str)]).set A (IO.lst ((acc ++ [hdS k ms]).map W.str)) = h3' at s4
      have l3 : h3'.length = h2.length + 1 := by rw [← hh3]; simp
      have ag3 : ∀ a, a < hi → h3'[a]? = h[a]? := fun a ha => by
        rw [← hh3, List.getElem?_set_ne (by omega), List.getElem?_append_left (by omega)]; exact ag2 a ha
      have eA3 : h3'[A]? = some (IO.lst ((acc ++ [hdS k ms]).map W.str)) := by rw [← hh3]; exact get_set (get_app eA2)
      have eB3 : h3'[B]? = some (IO.lst (st.map TI.it).reverse) := by rw [← hh3, List.getElem?_set_ne hAB]; exact get_app eB2
      obtain ⟨y7', g, s5⟩ := tK_ok (A := A) (B := B) (p := p) (w0 := w0) (y3 := hnode k ms p) (k := k) (mw := (sortS ms).map W.str) (R := (st.map TI.it).reverse) (ws := ws) (Ts := cs) (y7 := y7) (y8 := y8) ((ag3 p h3).trans ep) eB3 (by omega) tl (by simp; omega) (by omega)
      have hb : tB [some w0, some (.ref A), some (.ref B), y3, y4, y5, y6, y7, y8] (h ++ [IO.lst []]) = .nx [some w0, some (.ref A), some (.ref B), some (hnode k ms p), some (.str k), some (.tup ((sortS ms).map W.str)), some (.ref p), y7', y8] (h3'.set B (IO.lst ((st.map TI.it).reverse ++ ((kidT1 ws cs).map TI.it).reverse)) ++ g) := by
        unfold tB
        rw [eSeq_ap, s1, nb_nx, eSeq_ap, show TI.it (.n (hnode k ms p) (.mk k ms cs)) = hnode k ms p from rfl, s2, nb_nx, eSeq_ap, s3, nb_nx, eSeq_ap, s4, nb_nx, s5]
      have ag4 : ∀ a, a < hi → (h3'.set B (IO.lst ((st.map TI.it).reverse ++ ((kidT1 ws cs).map TI.it).reverse)) ++ g)[a]? = h[a]? := fun a ha => by
        rw [List.getElem?_append_left (by simp; omega), List.getElem?_set_ne (by omega)]; exact ag3 a ha
      rw [whl_nx hc hb]
      obtain ⟨y3', y4', y5', y6', y7'', y8', h', r1, r2, r3, r4⟩ := text_loop (w0 := w0) hA hB hAB n (kidT1 ws cs ++ st) (h3'.set B (IO.lst ((st.map TI.it).reverse ++ ((kidT1 ws cs).map TI.it).reverse)) ++ g) (acc ++ [hdS k ms]) (some (hnode k ms p)) (some (.str k)) (some (.tup ((sortS ms).map W.str))) (some (.ref p)) y7' y8 (by rw [List.flatMap_append, List.length_append]; omega) (by rw [List.flatMap_append, List.length_append]; simp only [List.length_append, List.length_cons, List.length_nil]; omega)
        (get_app (by rw [List.getElem?_set_ne (Ne.symm hAB)]; exact eA3)) (get_app (by rw [get_set eB3]; simp)) (fun x hx' => by
          rcases List.mem_append.mp hx' with hx' | hx'
          · exact (kidT1_good ws cs trs ok4 x hx').mono ag4
          · exact (hx x (List.mem_cons_of_mem _ hx')).mono ag4)
      refine ⟨y3', y4', y5', y6', y7'', y8', h', r1, ?_, by simp at r3; omega, fun a ha => (r4 a ha).trans (ag4 a ha)⟩
      rw [r2, List.flatMap_append, List.flatMap_cons, show TI.pcs (.n (hnode k ms p) (.mk k ms cs)) = pieces (.mk k ms cs) from rfl, ← kc]
      simp
mutual
theorem pieces_len : ∀ T : Tr, (pieces T).length + 2 ≤ 3 * T.size
  | .mk k ms [] => by simp [pieces, Tr.size, sizes]
  | .mk k ms (T :: Ts) => by
    have := pieces_len T
    have := piecesK_len Ts
    simp only [pieces, Tr.size, sizes, List.length_cons, List.length_append]; omega
theorem piecesK_len : ∀ Ts : List Tr, (piecesK Ts).length ≤ 1 + 3 * sizes Ts
  | [] => by simp [piecesK]
  | T :: Ts => by
    have := pieces_len T
    have := piecesK_len Ts
    simp only [piecesK, sizes, List.length_cons, List.length_append]; omega
end
theorem hdS_len {k : Str} {ms : List Str} (h1 : k.length ≤ 8) (h2 : ms.length < 64) (h3 : ∀ m ∈ ms, m.length ≤ 8) : (hdS k ms).length ≤ 1000 := by
  unfold hdS
  rw [appS_len]
  have := join0_len ((sortS ms).map fun m => appS "." m)
  have hs : (((sortS ms).map fun m => appS "." m).map (·.length)).sum ≤ 9 * ((sortS ms).map fun m => appS "." m).length := sum_le _ 9 _ fun x hx => by
    obtain ⟨m, hx2, rfl⟩ := List.mem_map.mp hx
    have := h3 m ((sortS_perm ms).mem_iff.mp hx2)
    have : (("." : Str)).length = 1 := rfl
    rw [appS_len]; omega
  rw [List.length_map, sort_len] at hs
  omega
mutual
theorem pieces_each : ∀ T : Tr, T.ok → ∀ p ∈ pieces T, p.length ≤ 1000
  | .mk k ms [], ok, p, hp => by
    unfold Tr.ok at ok
    simp only [pieces, List.mem_cons, List.not_mem_nil, or_false] at hp
    subst hp
    exact hdS_len ok.1 ok.2.1 ok.2.2.1
  | .mk k ms (T :: Ts), ok, p, hp => by
    unfold Tr.ok oks at ok
    simp only [pieces, List.mem_cons, List.mem_append] at hp
    rcases hp with rfl | rfl | hp | hp
    · exact hdS_len ok.1 ok.2.1 ok.2.2.1
    · show (1 : Nat) ≤ 1000; omega
    · exact pieces_each T ok.2.2.2.1 p hp
    · exact piecesK_each Ts ok.2.2.2.2 p hp
theorem piecesK_each : ∀ Ts : List Tr, oks Ts → ∀ p ∈ piecesK Ts, p.length ≤ 1000
  | [], _, p, hp => by
    simp only [piecesK, List.mem_cons, List.not_mem_nil, or_false] at hp
    subst hp; show (1 : Nat) ≤ 1000; omega
  | T :: Ts, ok, p, hp => by
    unfold oks at ok
    simp only [piecesK, List.mem_cons, List.mem_append] at hp
    rcases hp with rfl | hp | hp
    · show (1 : Nat) ≤ 1000; omega
    · exact pieces_each T ok.1 p hp
    · exact piecesK_each Ts ok.2 p hp
end
theorem text_ok {w : W} {T : Tr} {lo hi : Nat} (tr : TreeIn h lo hi w T) (hh : hi ≤ h.length) (hz : T.size ≤ 200) (ok : T.ok) : ∃ h', run (d + 1) 17 [w] h = .v (.str (Txt.join "" (pieces T))) h' ∧ h.length ≤ h'.length ∧ (∀ a, a < h.length → h'[a]? = h[a]?) := by
  have e0 : run (d + 1) 17 [w] h = (b17 (run d) nF [some w, none, none, none, none, none, none, none, none] h).fin := fn_run (b := b17) (n := 1) (N := 9) rfl rfl
  have s1 : eAsg (gN 1) (eLst eNil) [some w, none, none, none, none, none, none, none, none] h = .nx [some w, some (.ref h.length), none, none, none, none, none, none, none] (h ++ [IO.lst []]) := by simp
  have s2 : eAsg (gN 2) (eLst (eCons (eLoc 0) eNil)) [some w, some (.ref h.length), none, none, none, none, none, none, none] (h ++ [IO.lst []]) = .nx [some w, some (.ref h.length), some (.ref (h.length + 1)), none, none, none, none, none, none] (h ++ [IO.lst []] ++ [IO.lst [w]]) := by simp
  have trm : TreeIn (h ++ [IO.lst []] ++ [IO.lst [w]]) lo h.length w T := tr.mono (fun a _ ha => by rw [List.getElem?_append_left (by simp; omega), List.getElem?_append_left (by omega)]) (Nat.le_refl _) hh
  have pl := pieces_len T
  obtain ⟨y3', y4', y5', y6', y7', y8', h', r1, r2, r3, r4⟩ := text_loop (w0 := w) (A := h.length) (B := h.length + 1) (lo := lo) (hi := h.length) (by omega) (by omega) (by omega) nF [.n w T] (h ++ [IO.lst []] ++ [IO.lst [w]]) [] none none none none none none (by simp only [List.flatMap_cons, List.flatMap_nil, List.append_nil, TI.pcs]; show _ < 100000; omega) (by simp only [List.flatMap_cons, List.flatMap_nil, List.append_nil, TI.pcs, List.length_nil]; omega) (by simp) (by simp [TI.it])
    (fun x hx => by simp at hx; subst hx; exact ⟨trm, ok⟩)
  have eA : h'[h.length]? = some (IO.lst ((pieces T).map W.str)) := by rw [r2]; simp [TI.pcs]
  refine ⟨h', ?_, by simp at r3; omega, fun a ha => ?_⟩
  · rw [e0]
    unfold b17
    rw [eSeq_ap, s1, nb_nx, eSeq_ap, s2, nb_nx, eSeq_ap]
    have r1' : eWhl pC tB nF [some w, some (.ref h.length), some (.ref (h.length + 1)), none, none, none, none, none, none] (h ++ [IO.lst []] ++ [IO.lst [w]]) = _ := r1
    unfold pC tB tI tH tK tF at r1'
    rw [r1', nb_nx, eRet_ap, eBM_ap]
    simp only [eK_ap, vb_v, eCons_ap, eLoc_ap, List.getElem?_cons_zero, List.getElem?_cons_succ, locO_s, eNil_ap, vsb_vs]
    rw [if_pos (show tyW "str" (.str "") h' = true from rfl)]
    have : lstAt h' h.length = some ((pieces T).map W.str) := by unfold lstAt; rw [eA]
    simp only [mJoin, this, joinS, mapO_st]
    rw [if_pos]
    · rfl
    · have e0 : (("" : Str)).length = 0 := rfl
      have := sum_le (fun x : Str => x.length) 1000 (pieces T) (pieces_each T ok)
      rw [e0]; omega
  · rw [r4 a ha, List.getElem?_append_left (by simp; omega), List.getElem?_append_left ha]
end Dr.L
set_option maxHeartbeats 4000000
namespace Dr.L
open PySem L2 PyProof.Rows Dr
variable {t : Str} {i r d : Nat} {h : IH}
/-! ### what is read is small -/
theorem sl_len (t : Str) (i j : Nat) : (sl t i j).length ≤ j - i := by
  show (sl t i j).cps.size ≤ _
  unfold sl
  simp only [List.size_toArray, List.length_take]
  omega
theorem word_len {e : Nat} (q : word t i = some e) : (sl t i e).length ≤ 8 := by
  have := sl_len t i e
  unfold word at q
  split at q
  · cases q; omega
  · cases q
theorem marksF_each : ∀ {n i : Nat} {acc ms : List Str} {j : Nat}, marksF t n i acc = some (j, ms) → (∀ m ∈ acc, m.length ≤ 8) → ∀ m ∈ ms, m.length ≤ 8
  | 0, _, _, _, _, e, _ => by cases e
  | n + 1, i, acc, ms, j, e, ha => by
    unfold marksF at e
    split at e
    · split at e
      · cases e
      · rename_i e' q
        split at e
        · cases e
        · refine marksF_each e fun m hm => ?_
          rcases List.mem_append.mp hm with hm | hm
          · exact ha m hm
          · simp only [List.mem_cons, List.not_mem_nil, or_false] at hm
            subst hm
            exact word_len q
    · cases e; exact ha
theorem headF_each {j : Nat} {k : Str} {ms : List Str} (fw : Few t) (e : headF t i = some (j, k, ms)) : k.length ≤ 8 ∧ ms.length < 64 ∧ ∀ m ∈ ms, m.length ≤ 8 := by
  unfold headF at e
  split at e
  · cases e
  · rename_i e' q
    split at e
    · cases e
    · rename_i j' ms' q'
      cases e
      exact ⟨word_len q, fw _ _ _ _ q', marksF_each q' (fun m hm => by simp at hm)⟩
theorem oks_app : ∀ (a b : List Tr), oks a → oks b → oks (a ++ b)
  | [], b, _, hb => hb
  | T :: a, b, ha, hb => by
    unfold oks at ha
    show oks (T :: (a ++ b))
    unfold oks
    exact ⟨ha.1, oks_app a b ha.2 hb⟩
theorem kids_okT {f : Nat → Option (Nat × Tr)} (hf : ∀ i j T, f i = some (j, T) → T.ok) : ∀ {m i : Nat} {k : Str} {ms : List Str} {acc : List Tr} {j : Nat} {T : Tr}, kids f t m i k ms acc = some (j, T) → (k.length ≤ 8 ∧ ms.length < 64 ∧ ∀ m ∈ ms, m.length ≤ 8) → oks acc → T.ok
  | 0, _, _, _, _, _, _, e, _, _ => by cases e
  | m + 1, i, k, ms, acc, j, T, e, hk, ha => by
    unfold kids at e
    split at e
    · cases e
    · rename_i j' T' q
      have ho : oks (acc ++ [T']) := oks_app _ _ ha (by unfold oks oks; exact ⟨hf _ _ _ q, trivial⟩)
      split at e
      · cases e
        unfold Tr.ok
        exact ⟨hk.1, hk.2.1, hk.2.2, ho⟩
      · split at e
        · exact kids_okT hf e hk ho
        · cases e
theorem rd_okT (fw : Few t) : ∀ {n i j : Nat} {T : Tr}, rd t n i = some (j, T) → T.ok
  | 0, _, _, _, e => by cases e
  | n + 1, i, j, T, e => by
    unfold rd at e
    split at e
    · cases e
    · rename_i j' k ms q
      have hk := headF_each fw q
      split at e
      · exact kids_okT (fun i j T e => rd_okT fw e) e hk (by unfold oks; trivial)
      · cases e
        unfold Tr.ok oks
        exact ⟨hk.1, hk.2.1, hk.2.2, trivial⟩
/-- brackets and commas from here on -/
def cp (t : Str) (i : Nat) : Nat := (t.cps.toList.drop i).countP (fun c => c == 40 || c == 44)
theorem cp_mono {i j : Nat} (hij : i ≤ j) : cp t j ≤ cp t i := by
  unfold cp
  exact (List.drop_sublist_drop_left _ hij).countP_le
theorem cp_at {c : Nat} (q : ch t i = some c) (hc : (c == 40 || c == 44) = true) : cp t i = cp t (i + 1) + 1 := by
  unfold cp
  unfold ch at q
  obtain ⟨hl, e⟩ := List.getElem?_eq_some_iff.mp q
  rw [List.drop_eq_getElem_cons hl, e, List.countP_cons_of_pos (p := fun c => c == 40 || c == 44) hc]
theorem kids_size {f : Nat → Option (Nat × Tr)} (hf : ∀ i j T, f i = some (j, T) → T.size + cp t j ≤ 1 + cp t i) : ∀ {m i : Nat} {k : Str} {ms : List Str} {acc : List Tr} {j : Nat} {T : Tr}, kids f t m i k ms acc = some (j, T) → T.size + cp t j ≤ 2 + sizes acc + cp t i
  | 0, _, _, _, _, _, _, e => by cases e
  | m + 1, i, k, ms, acc, j, T, e => by
    unfold kids at e
    split at e
    · cases e
    · rename_i j' T' q
      have h1 := hf _ _ _ q
      split at e
      · cases e
        have := cp_mono (t := t) (Nat.le_succ j')
        unfold Tr.size
        rw [sizes_app]
        simp only [sizes, Nat.succ_eq_add_one] at *
        omega
      · split at e
        · rename_i q2
          have h2 := kids_size hf e
          have h3 := cp_at q2 (by rfl)
          rw [sizes_app] at h2
          simp only [sizes] at h2
          omega
        · cases e
theorem rd_size : ∀ {n i j : Nat} {T : Tr}, rd t n i = some (j, T) → T.size + cp t j ≤ 1 + cp t i
  | 0, _, _, _, e => by cases e
  | n + 1, i, j, T, e => by
    unfold rd at e
    split at e
    · cases e
    · rename_i j' k ms q
      have hl := headF_le q
      have c1 := cp_mono (t := t) (i := i) (j := j') (by omega)
      split at e
      · rename_i q40
        have h2 := kids_size (fun i j T e => rd_size e) e
        have h3 := cp_at q40 (by rfl)
        simp only [sizes] at h2
        omega
      · cases e
        simp only [Tr.size, sizes]; omega
/-! ### Document(..) -/
def docO (A : Nat) (w : W) (T : Tr) : IO := .slt 5 [some (.ref A), some w, some (.str (Txt.join "" (pieces T)))]
theorem doc_ok {w : W} {T : Tr} {lo hi n : Nat} (hn : h[n]? = some (.slt 5 [])) (tr : TreeIn h lo hi w T) (hh : hi ≤ n) (hz : T.size ≤ 200) (ok : T.ok) :
    ∃ A h', run (d + 2) 19 [.ref n, w] h = .v .non h' ∧ h'[n]? = some (docO A w T) ∧ h'[A]? = some (IO.lst (pathsW [] T)) ∧ h.length ≤ A ∧ h.length ≤ h'.length ∧ (∀ a, a < h.length → a ≠ n → h'[a]? = h[a]?) := by
  have e0 : run (d + 2) 19 [.ref n, w] h = (b19 (run (d + 1)) nF [some (.ref n), some w] h).fin := fn_run (b := b19) (n := 2) (N := 2) rfl rfl
  have nl := lt_of hn
  have s1 : eSetS 5 1 (eLoc 0) (eLoc 1) [some (.ref n), some w] h = .nx [some (.ref n), some w] (h.set n (.slt 5 [none, some w])) := by
    simp only [eSetS_ap, eLoc_ap, List.getElem?_cons_zero, List.getElem?_cons_succ, locO_s, vb_v, setSlot, hn]; rfl
  have hn1 : (h.set n (.slt 5 [none, some w]))[n]? = some (.slt 5 [none, some w]) := get_set hn
  have ag1 : ∀ a, a ≠ n → (h.set n (.slt 5 [none, some w]))[a]? = h[a]? := fun a ha => List.getElem?_set_ne (Ne.symm ha)
  have l1 : (h.set n (.slt 5 [none, some w])).length = h.length := by simp
  generalize h.set n (.slt 5 [none, some w]) = h1 at s1 hn1 ag1 l1
  have tr1 : TreeIn h1 lo h1.length w T := tr.mono (fun a _ ha => ag1 a (by omega)) (Nat.le_refl _) (by omega)
  obtain ⟨A, h2, p1, p2, p3, p4, p5⟩ := paths_ok (d := d) tr1 (Nat.le_refl _) (by omega)
  have hn2 : h2[n]? = some (.slt 5 [none, some w]) := by rw [p5 n (by omega)]; exact hn1
  have s2 : eSetS 5 0 (eLoc 0) (eCall (run (d + 1) 18) [] (eCons (eLoc 1) eNil)) [some (.ref n), some w] h1 = .nx [some (.ref n), some w] (h2.set n (.slt 5 [some (.ref A), some w])) := by
    simp only [eSetS_ap, eCall_ap, eCons_ap, eNil_ap, eLoc_ap, List.getElem?_cons_zero, List.getElem?_cons_succ, locO_s, vb_v, vsb_vs, List.append_nil, p1, cb_v, setSlot, hn2]; rfl
  have hn3 : (h2.set n (.slt 5 [some (.ref A), some w]))[n]? = some (.slt 5 [some (.ref A), some w]) := get_set hn2
  have ag3 : ∀ a, a ≠ n → (h2.set n (.slt 5 [some (.ref A), some w]))[a]? = h2[a]? := fun a ha => List.getElem?_set_ne (Ne.symm ha)
  have l3 : (h2.set n (.slt 5 [some (.ref A), some w])).length = h2.length := by simp
  generalize h2.set n (.slt 5 [some (.ref A), some w]) = h3 at s2 hn3 ag3 l3
  have hA3 : h3[A]? = some (IO.lst (pathsW [] T)) := by rw [ag3 A (by omega)]; exact p3
  have s3 : eIfS (eBin oGt (eBlt bLen (eCons (eSlot 5 0 (eLoc 0)) eNil)) (eK (.int 200))) (eRaise 3 (eK (.int 200))) eEnd [some (.ref n), some w] h3 = .nx [some (.ref n), some w] h3 := by
    have e1 : slotAt 5 0 (.ref n) h3 = .v (.ref A) h3 := by simp only [slotAt, hn3]; rfl
    have e2 : bLen [.ref A] h3 = .v (.int T.size) h3 := by
      show (match lstAt h3 A with | some ls => Out.v (.int (ls.length : Nat)) h3 | none => .no) = _
      unfold lstAt; rw [hA3]; simp only [pathsW_len]
    simp only [eIfS_ap, eBin_ap, eBlt_ap, eCons_ap, eSlot_ap, eLoc_ap, eNil_ap, eK_ap, List.getElem?_cons_zero, locO_s, vb_v, vsb_vs, e1, e2, oGt_int]
    rw [decide_eq_false (by omega)]; rfl
  have tr3 : TreeIn h3 lo h3.length w T := tr.mono (fun a _ ha => by rw [ag3 a (by omega), p5 a (by omega), ag1 a (by omega)]) (Nat.le_refl _) (by omega)
  obtain ⟨h4, q1, q2, q3⟩ := text_ok (d := d) tr3 (Nat.le_refl _) hz ok
  have hn4 : h4[n]? = some (.slt 5 [some (.ref A), some w]) := by rw [q3 n (by omega)]; exact hn3
  have s4 : eSetS 5 2 (eLoc 0) (eCall (run (d + 1) 17) [] (eCons (eLoc 1) eNil)) [some (.ref n), some w] h3 = .nx [some (.ref n), some w] (h4.set n (docO A w T)) := by
    simp only [eSetS_ap, eCall_ap, eCons_ap, eNil_ap, eLoc_ap, List.getElem?_cons_zero, List.getElem?_cons_succ, locO_s, vb_v, vsb_vs, List.append_nil, q1, cb_v, setSlot, hn4]; rfl
  refine ⟨A, h4.set n (docO A w T), ?_, get_set hn4, ?_, by omega, by simp; omega, fun a ha hne => ?_⟩
  · rw [e0]
    unfold b19
    rw [eSeq_ap, s1, nb_nx, eSeq_ap, s2, nb_nx, eSeq_ap, s3, nb_nx, s4]; rfl
  · rw [List.getElem?_set_ne (by omega), q3 A (by have := lt_of hA3; omega)]; exact hA3
  · rw [List.getElem?_set_ne (Ne.symm hne), q3 a (by omega), ag3 a hne, p5 a (by omega), ag1 a hne]
/-! ### parse_document -/
def prs (t : Str) (n : Nat) : Option Tr := match rd t n 0 with
  | some (e, T) => if e = t.length then some T else none
  | none => none
theorem new_ok {σ : Sg} : eNew false 4 (run (d + 1) 5) [] (eCons (eLoc 0) eNil) (some (.str t) :: σ) h = .v (.ref h.length) (h ++ [rdr t 0]) := by
  have e0 : run (d + 1) 5 [.ref h.length, .str t] (h ++ [.ins 4 []]) = (b5 (run d) nF [some (.ref h.length), some (.str t)] (h ++ [.ins 4 []])).fin := fn_run (b := b5) (n := 2) (N := 2) rfl rfl
  have g1 : (h ++ [IO.ins 4 []])[h.length]? = some (.ins 4 []) := by simp
  have g2 : (h ++ [IO.ins 4 [("source", .str t)]])[h.length]? = some (.ins 4 [("source", .str t)]) := by simp
  have c4 : cs4.contains 4 = true := rfl
  have s1 : eSetF cs4 "source" (eLoc 0) (eLoc 1) [some (.ref h.length), some (.str t)] (h ++ [.ins 4 []]) = .nx [some (.ref h.length), some (.str t)] (h ++ [.ins 4 [("source", .str t)]]) := by
    simp only [eSetF_ap, eLoc_ap, List.getElem?_cons_zero, List.getElem?_cons_succ, locO_s, vb_v, setAt, g1, c4]
    simp [putW]
  have s2 : eSetF cs4 "spot" (eLoc 0) (eK (.int 0)) [some (.ref h.length), some (.str t)] (h ++ [.ins 4 [("source", .str t)]]) = .nx [some (.ref h.length), some (.str t)] (h ++ [rdr t 0]) := by
    have pw : putW "spot" (.int 0) [("source", W.str t)] = ([("source", .str t), ("spot", .int 0)] : List (Str × W)) := rfl
    simp only [eSetF_ap, eLoc_ap, eK_ap, List.getElem?_cons_zero, List.getElem?_cons_succ, locO_s, vb_v, setAt, g2, c4, pw]
    simp [rdr]
  have e1 : run (d + 1) 5 [.ref h.length, .str t] (h ++ [.ins 4 []]) = .v .non (h ++ [rdr t 0]) := by
    rw [e0]; unfold b5; rw [eSeq_ap, s1, nb_nx, s2]; rfl
  simp only [eNew_ap, eCons_ap, eLoc_ap, List.getElem?_cons_zero, locO_s, vb_v, eNil_ap, vsb_vs, newObj]
  simp only [List.append_nil]
  rw [show (if (false : Bool) = true then IO.slt 4 [] else IO.ins 4 []) = IO.ins 4 [] from rfl, e1]
theorem end_loc {σ : Sg} {x : Option W} (hb : t.length ≤ 16777216) (hr : h[r]? = some (rdr t i)) : eDrop (eMeth "need_end" (mt4_need_end_0 (run (d + 2))) (eLoc 1) eNil) (x :: some (.ref r) :: σ) h = if i < t.length then .ex 1 (.str t) (x :: some (.ref r) :: σ) h else .nx (x :: some (.ref r) :: σ) h := by
  simp only [eDrop_ap, eMeth_ap, eLoc_ap, List.getElem?_cons_zero, List.getElem?_cons_succ, locO_s, vb_v, rc_end hr, eNil_ap, vsb_vs, List.append_nil, end_ok hb hr]
  split <;> rfl
theorem pd_ok {n : Nat} (hb : t.length < 100000) (fw : Few t) (hn : pc t 0 < n) (hz : ∀ T, prs t n = some T → T.size ≤ 200) : match prs t n with
    | none => Bad t (run (d + 6) 14 [.str t] h)
    | some T => ∃ h' w A D, run (d + 6) 14 [.str t] h = .v (.ref D) h' ∧ h'[D]? = some (docO A w T) ∧ h'[A]? = some (IO.lst (pathsW [] T)) ∧ TreeIn h' h.length D w T ∧ T.ok ∧ T.size ≤ 200 ∧ h.length ≤ D ∧ h.length ≤ A ∧ (∀ a, a < h.length → h'[a]? = h[a]?) := by
  have e0 : run (d + 6) 14 [.str t] h = (b14 (run (d + 5)) nF [some (.str t), none, none, none] h).fin := fn_run (b := b14) (n := 1) (N := 4) rfl rfl
  have s1 : eIfS (eNot (eIsi is_str (eLoc 0))) (eRaise 1 (eLoc 0)) eEnd [some (.str t), none, none, none] h = .nx [some (.str t), none, none, none] h := rfl
  have s2 : eAsg (gN 1) (eNew false 4 (run (d + 5) 5) [] (eCons (eLoc 0) eNil)) [some (.str t), none, none, none] h = .nx [some (.str t), some (.ref h.length), none, none] (h ++ [rdr t 0]) := by
    rw [eAsg_ap, new_ok (d := d + 4)]; rfl
  have hr : (h ++ [rdr t 0])[h.length]? = some (rdr t 0) := by simp
  have R := rn_ok (d := d) hb fw hr hn
  have s3 : eAsg (gT [2, 3]) (eCall (run (d + 5) 15) [] (eCons (eLoc 1) eNil)) [some (.str t), some (.ref h.length), none, none] (h ++ [rdr t 0]) = ((run (d + 5) 15 [.ref h.length] (h ++ [rdr t 0])).cb [some (.str t), some (.ref h.length), none, none]).vb fun w h1 => match gT [2, 3] w [some (.str t), some (.ref h.length), none, none] with | some σ' => .nx σ' h1 | none => .no := by
    simp only [eAsg_ap, eCall_ap, eCons_ap, eNil_ap, eLoc_ap, List.getElem?_cons_zero, List.getElem?_cons_succ, locO_s, vb_v, vsb_vs, List.append_nil] <;> rfl
  have e1 : run (d + 6) 14 [.str t] h = ((eSeq (eAsg (gT [2, 3]) (eCall (run (d + 5) 15) [] (eCons (eLoc 1) eNil)))
    (eSeq (eDrop (eMeth "need_end" (mt4_need_end_0 (run (d + 5))) (eLoc 1) eNil))
    (eSeq (eIfS (eBin oGt (eLoc 3) (eK (.int 200))) (eRaise 3 (eK (.int 200))) eEnd)
    (eRet (eNew true 5 (run (d + 5) 19) [] (eCons (eLoc 2) eNil)))))) [some (.str t), some (.ref h.length), none, none] (h ++ [rdr t 0])).fin := by
    rw [e0]
    unfold b14
    rw [eSeq_ap, s1, nb_nx, eSeq_ap, s2, nb_nx]
  rw [eSeq_ap, s3] at e1
  unfold prs at hz ⊢
  cases qr : rd t n 0 with
  | none =>
    rw [qr] at R
    rw [e1]
    exact Bad.fin (Bad.nb (Bad.vb (Bad.cb R)))
  | some eT =>
    obtain ⟨e, T⟩ := eT
    rw [qr] at R
    obtain ⟨h1, w, r1, r2, r3, r4, r5⟩ := R
    have le := rd_le qr
    have ok := rd_okT fw qr
    rw [r1, cb_v, vb_v] at e1
    have g2 : gT [2, 3] (.tup [w, .int T.size]) [some (.str t), some (.ref h.length), none, none] = some [some (.str t), some (.ref h.length), some w, some (.int T.size)] := rfl
    simp only [g2, nb_nx] at e1
    rw [eSeq_ap, end_loc (d := d + 3) (by omega) r2] at e1
    simp only
    by_cases q : e = t.length
    · rw [if_pos q]
      have sz : T.size ≤ 200 := hz T (by rw [qr]; simp only; rw [if_pos q])
      rw [if_neg (by omega), nb_nx, eSeq_ap] at e1
      have s4 : eIfS (eBin oGt (eLoc 3) (eK (.int 200))) (eRaise 3 (eK (.int 200))) eEnd [some (.str t), some (.ref h.length), some w, some (.int T.size)] h1 = .nx [some (.str t), some (.ref h.length), some w, some (.int T.size)] h1 := by
        simp only [eIfS_ap, eBin_ap, eLoc_ap, eK_ap, List.getElem?_cons_zero, List.getElem?_cons_succ, locO_s, vb_v, oGt_int]
        rw [decide_eq_false (by omega)]; rfl
      rw [s4, nb_nx] at e1
      simp only [List.length_append, List.length_cons, List.length_nil] at r3 r4
      have gn : (h1 ++ [IO.slt 5 []])[h1.length]? = some (.slt 5 []) := by simp
      obtain ⟨A, h2, p1, p2, p3, p4, p5, p6⟩ := doc_ok (d := d + 3) gn (r4.mono (h' := h1 ++ [IO.slt 5 []]) (fun a _ ha => List.getElem?_append_left ha) (Nat.le_refl _) (Nat.le_refl _)) (Nat.le_refl _) (by omega) ok
      simp only [List.length_append, List.length_cons, List.length_nil] at p4 p5 p6
      refine ⟨h2, w, A, h1.length, ?_, p2, p3, r4.mono (fun a _ ha => ?_) (by omega) (Nat.le_refl _), ok, by omega, by omega, by omega, fun a ha => ?_⟩
      · rw [e1]
        simp only [eRet_ap, eNew_ap, eCons_ap, eLoc_ap, eNil_ap, List.getElem?_cons_zero, List.getElem?_cons_succ, locO_s, vb_v, vsb_vs, newObj]
        simp only [List.append_nil]
        rw [show (if True then IO.slt 5 [] else IO.ins 5 []) = IO.slt 5 [] from if_pos trivial, p1]; rfl
      · rw [p6 a (by omega) (by omega), List.getElem?_append_left ha]
      · rw [p6 a (by omega) (by omega), List.getElem?_append_left (by omega), r5 a (by simp; omega) (by omega), List.getElem?_append_left ha]
    · rw [if_neg q]
      rw [if_pos (by omega)] at e1
      rw [e1]
      exact ⟨_, _, rfl⟩
end Dr.L
set_option maxHeartbeats 4000000
namespace Dr.L
open PySem L2 PyProof.Rows Dr
variable {t : Str} {i r d : Nat} {h : IH}
/-! ### the law's trees -/
mutual
inductive LIn (h : IH) (lo hi : Nat) : W → Tr → Prop
  | mk {k : Str} {ms : List Str} {cs : List Tr} {ws : List W} (n a c : Nat) : lo ≤ n → n < hi → lo ≤ a → a < hi → lo ≤ c → c < hi → h[n]? = some (.lst [.str k, .ref a, .ref c]) → h[a]? = some (.lst (ms.map W.str)) → h[c]? = some (.lst ws) → LsIn h lo hi ws cs → LIn h lo hi (.ref n) (.mk k ms cs)
inductive LsIn (h : IH) (lo hi : Nat) : List W → List Tr → Prop
  | nil : LsIn h lo hi [] []
  | cons {w : W} {T : Tr} {ws : List W} {Ts : List Tr} : LIn h lo hi w T → LsIn h lo hi ws Ts → LsIn h lo hi (w :: ws) (T :: Ts)
end
mutual
theorem LIn.mono {h h' : IH} {lo hi lo' hi' : Nat} (ag : ∀ a, lo ≤ a → a < hi → h'[a]? = h[a]?) (h1 : lo' ≤ lo) (h2 : hi ≤ hi') : ∀ {w : W} {T : Tr}, LIn h lo hi w T → LIn h' lo' hi' w T
  | _, _, .mk n a c a1 a2 a3 a4 a5 a6 e1 e2 e3 x => .mk n a c (Nat.le_trans h1 a1) (Nat.lt_of_lt_of_le a2 h2) (Nat.le_trans h1 a3) (Nat.lt_of_lt_of_le a4 h2) (Nat.le_trans h1 a5) (Nat.lt_of_lt_of_le a6 h2) ((ag n a1 a2).trans e1) ((ag a a3 a4).trans e2) ((ag c a5 a6).trans e3) (LsIn.mono ag h1 h2 x)
theorem LsIn.mono {h h' : IH} {lo hi lo' hi' : Nat} (ag : ∀ a, lo ≤ a → a < hi → h'[a]? = h[a]?) (h1 : lo' ≤ lo) (h2 : hi ≤ hi') : ∀ {ws : List W} {Ts : List Tr}, LsIn h lo hi ws Ts → LsIn h' lo' hi' ws Ts
  | _, _, .nil => .nil
  | _, _, .cons a b => .cons (LIn.mono ag h1 h2 a) (LsIn.mono ag h1 h2 b)
end
theorem LsIn.app {h : IH} {lo hi : Nat} : ∀ {ws : List W} {Ts : List Tr} {ws' : List W} {Ts' : List Tr}, LsIn h lo hi ws Ts → LsIn h lo hi ws' Ts' → LsIn h lo hi (ws ++ ws') (Ts ++ Ts')
  | _, _, _, _, .nil, s => s
  | _, _, _, _, .cons a b, s => .cons a (LsIn.app b s)
theorem LsIn.len {h : IH} {lo hi : Nat} : ∀ {ws : List W} {Ts : List Tr}, LsIn h lo hi ws Ts → ws.length = Ts.length
  | _, _, .nil => rfl
  | _, _, .cons _ b => by simp [LsIn.len b]
theorem LsIn.get {h : IH} {lo hi : Nat} : ∀ {ws : List W} {Ts : List Tr} {i : Nat} {w : W}, LsIn h lo hi ws Ts → ws[i]? = some w → ∃ T, Ts[i]? = some T ∧ LIn h lo hi w T
  | _, _, i, w, .nil, e => by simp at e
  | _, _, 0, w, .cons a b, e => by simp at e; subst e; exact ⟨_, rfl, a⟩
  | _, _, i + 1, w, .cons a b, e => by simpa using LsIn.get b (by simpa using e)
/-! drawn of these kinds and marks, at most so deep -/
mutual
def Tr.dr (ks ms0 : List Str) : Tr → Nat → Prop
  | .mk k ms cs, m => k ∈ ks ∧ ms.Sublist ms0 ∧ cs.length ≤ 3 ∧ (m = 0 → cs = []) ∧ drs ks ms0 cs (m - 1)
def drs (ks ms0 : List Str) : List Tr → Nat → Prop
  | [], _ => True
  | T :: Ts, m => T.dr ks ms0 m ∧ drs ks ms0 Ts m
end
theorem drs_app {ks ms0 : List Str} {m : Nat} : ∀ (a b : List Tr), drs ks ms0 a m → drs ks ms0 b m → drs ks ms0 (a ++ b) m
  | [], b, _, hb => hb
  | T :: a, b, ha, hb => by
    unfold drs at ha
    show drs ks ms0 (T :: (a ++ b)) m
    unfold drs
    exact ⟨ha.1, drs_app a b ha.2 hb⟩
/-- from one heap to a later one, the pool drawn from -/
structure Pl (p : Nat) (h h' : IH) : Prop where
  pool : ∃ a b, Pool h' p a b
  len : h.length ≤ h'.length
  ag : ∀ x, x < h.length → x ≠ p → h'[x]? = h[x]?
theorem Pl.trans {p : Nat} {h h1 h2 : IH} (a : Pl p h h1) (b : Pl p h1 h2) : Pl p h h2 :=
  ⟨b.pool, Nat.le_trans a.len b.len, fun x hx hp => (b.ag x (Nat.lt_of_lt_of_le hx a.len) hp).trans (a.ag x hx hp)⟩
theorem Pl.refl {p : Nat} {h : IH} {a b : Int} (q : Pool h p a b) : Pl p h h := ⟨⟨a, b, q⟩, Nat.le_refl _, fun _ _ _ => rfl⟩
theorem Pl.app {p : Nat} {h h1 g : IH} (a : Pl p h h1) : Pl p h (h1 ++ g) := by
  obtain ⟨⟨x, y, q⟩, l, ag⟩ := a
  exact ⟨⟨x, y, get_app q.at_, q.ha, q.hb, q.hb2⟩, by simp; omega, fun z hz hp => by rw [List.getElem?_append_left (by omega)]; exact ag z hz hp⟩
theorem tk_ok {p : Nat} {m : Int} {h : IH} {a b : Int} (hp : Pool h p a b) (h0 : 0 < m) (h1 : m < 1073741824) :
    ∃ r a' b', 0 ≤ r ∧ r < m ∧ Pool (h.set p (.lst [.int a', .int b'])) p a' b' ∧ run (d + 1) 36 [.ref p, .int m] h = .v (.int r) (h.set p (.lst [.int a', .int b'])) := take_ok hp h0 h1
theorem tk_pl {p m : Nat} {h : IH} {a b : Int} (hp : Pool h p a b) (h0 : 0 < m) (h1 : m < 1073741824) :
    ∃ r h', r < m ∧ Pl p h h' ∧ h'.length = h.length ∧ run (d + 1) 36 [.ref p, .int m] h = .v (.int (r : Nat)) h' := by
  obtain ⟨r, a', b', r0, r1, q, e⟩ := tk_ok (d := d) (m := (m : Int)) hp (by omega) (by omega)
  obtain ⟨n, rfl⟩ := Int.eq_ofNat_of_zero_le r0
  exact ⟨n, _, by omega, ⟨⟨a', b', q⟩, by simp, fun x hx hne => List.getElem?_set_ne (Ne.symm hne)⟩, by simp, e⟩
/-- comprehensions with a test -/
theorem lcG {J : ItW} {g : Tg} {t e : Ev} {D : Nat} {σ0 : Sg} {n : Nat} (I : Nat → IH → Prop)
    (hgo : ∀ i h, i < n → I i h → ∃ w σ2 b h1, J i h = some (some w) ∧ g w σ0 = some σ2 ∧ t σ2 h = .v (.bl b) h1 ∧ (b = false → I (i + 1) h1) ∧ (b = true → ∃ y h2 acc, e σ2 h1 = .v y h2 ∧ h2[D]? = some (.lst acc) ∧ acc.length < 16777216 ∧ I (i + 1) (h2.set D (.lst (acc ++ [y])))))
    (hst : ∀ h, I n h → J n h = some none) :
    ∀ (fuel i : Nat) (h : IH), i ≤ n → n - i < fuel → I i h → ∃ h', lcL J g t e D σ0 fuel i h = .v (.ref D) h' ∧ I n h'
  | 0, i, _, _, hf, _ => absurd hf (Nat.not_lt_zero _)
  | fuel + 1, i, h, hi, hf, hI => by
    unfold lcL
    by_cases q : i = n
    · subst q
      rw [hst h hI]
      exact ⟨h, rfl, hI⟩
    · obtain ⟨w, σ2, b, h1, e1, e2, e3, e4, e5⟩ := hgo i h (by omega) hI
      cases b with
      | false =>
        simp only [e1, e2, e3]
        exact lcG I hgo hst fuel (i + 1) _ (by omega) (by omega) (e4 rfl)
      | true =>
        obtain ⟨y, h2, acc, e6, e7, e8, e9⟩ := e5 rfl
        simp only [e1, e2, e3, e6, e7, if_pos e8]
        exact lcG I hgo hst fuel (i + 1) _ (by omega) (by omega) e9
theorem sub_take {α : Type} {l : List α} {i : Nat} {x : α} (h : l[i]? = some x) {acc : List α} (s : acc.Sublist (l.take i)) : (acc ++ [x]).Sublist (l.take (i + 1)) := by
  rw [List.take_succ, h]
  exact List.Sublist.append s (List.Sublist.refl _)
theorem sub_take' {α : Type} {l : List α} {i : Nat} {acc : List α} (s : acc.Sublist (l.take i)) : acc.Sublist (l.take (i + 1)) :=
  s.trans (List.take_sublist_take_left (Nat.le_succ i))
section
variable {ks ms0 : List Str} {p kk mm : Nat}
abbrev σN (p m kk mm : Nat) (y4 y5 y6 y7 y8 : Option W) : Sg := [some (.ref p), some (.int m), some (.ref kk), some (.ref mm), y4, y5, y6, y7, y8]
/-- the marks drawn -/
theorem own_ok {m : Nat} {y4 y5 y6 y7 y8 : Option W} {a b : Int} (hp : Pool h p a b) (hm : h[mm]? = some (.lst (ms0.map W.str))) (hmp : mm ≠ p) (hl : ms0.length < 1000) :
    ∃ (ms : List Str) (h' : IH), eLc nF (iL (eLoc 3)) [7] (gN 7) (eBin oEq (eCall (run (d + 1) 36) [] (eCons (eLoc 0) (eCons (eK (.int 3)) eNil))) (eK (.int 0))) (eLoc 7) (σN p m kk mm y4 y5 y6 y7 y8) h = .v (.ref h.length) h' ∧ Pl p h h' ∧ h'[h.length]? = some (.lst (ms.map W.str)) ∧ ms.Sublist ms0 ∧ h.length < h'.length := by
  have pl := lt_of hp.at_
  have ml := lt_of hm
  have L := lcG (J := jL mm) (g := gN 7) (t := eBin oEq (eCall (run (d + 1) 36) [] (eCons (eLoc 0) (eCons (eK (.int 3)) eNil))) (eK (.int 0))) (e := eLoc 7) (D := h.length) (σ0 := wipeW (σN p m kk mm y4 y5 y6 y7 y8) [7]) (n := ms0.length)
    (fun s h' => Pl p h h' ∧ h.length < h'.length ∧ ∃ acc, h'[h.length]? = some (.lst (acc.map W.str)) ∧ acc.Sublist (ms0.take s))
    (by
      rintro s h' hs ⟨P1, hlt, acc, e1, e2⟩
      obtain ⟨⟨x, y, q⟩, l, ag⟩ := P1
      have em : ms0[s]? = some ms0[s] := List.getElem?_eq_getElem hs
      obtain ⟨r, h1, r1, P2, l2, e3⟩ := tk_pl (d := d) (m := 3) q (by omega) (by omega)
      have e1' : h1[h.length]? = some (.lst (acc.map W.str)) := by rw [P2.ag _ hlt (by omega)]; exact e1
      refine ⟨.str ms0[s], (wipeW (σN p m kk mm y4 y5 y6 y7 y8) [7]).set 7 (some (.str ms0[s])), decide (r = 0), h1, ?_, rfl, ?_, fun _ => ?_, fun _ => ?_⟩
      · unfold jL lstAt
        rw [ag mm ml hmp, hm]
        simp [em]
      · have e3' : run (d + 1) 36 [.ref p, .int 3] h' = .v (.int r) h1 := e3
        show Out.vb (eCall (run (d + 1) 36) [] (eCons (eLoc 0) (eCons (eK (.int 3)) eNil)) [some (.ref p), some (.int m), some (.ref kk), some (.ref mm), y4, y5, y6, some (.str ms0[s]), y8] h') _ = _
        simp only [eCall_ap, eCons_ap, eNil_ap, eLoc_ap, eK_ap, List.getElem?_cons_zero, locO_s, vb_v, vsb_vs, List.append_nil, e3', cb_v, oEq, eqD]
        congr 3
        by_cases z : r = 0 <;> simp [z]
      · exact ⟨Pl.trans ⟨⟨x, y, q⟩, l, ag⟩ P2, by omega, acc, e1', sub_take' e2⟩
      · refine ⟨.str ms0[s], h1, acc.map W.str, rfl, e1', ?_, ?_⟩
        · rw [List.length_map]; have := e2.length_le; rw [List.length_take] at this; omega
        · obtain ⟨⟨x', y', q'⟩, l', ag'⟩ := P2
          refine ⟨⟨⟨x', y', ?_, q'.ha, q'.hb, q'.hb2⟩, by simp; omega, fun z hz hne => ?_⟩, by simp; omega, acc ++ [ms0[s]], ?_, sub_take em e2⟩
          · rw [List.getElem?_set_ne (by omega)]; exact q'.at_
          · rw [List.getElem?_set_ne (by omega), ag' z (by omega) hne, ag z hz hne]
          · rw [get_set e1']; simp)
    (by
      rintro h' ⟨P1, hlt, acc, e1, e2⟩
      unfold jL lstAt
      rw [P1.ag mm ml hmp, hm]
      simp)
    nF 0 (h ++ [.lst []]) (Nat.zero_le _) (by show _ < 100000; omega) ⟨(Pl.refl hp).app, by simp, [], by simp, by simp⟩
  obtain ⟨h', e, P1, hlt, acc, e1, e2⟩ := L
  refine ⟨acc, h', ?_, P1, e1, by rw [List.take_length] at e2; exact e2, hlt⟩
  have it : iL (eLoc 3) (σN p m kk mm y4 y5 y6 y7 y8) h = .it (jL mm) h := by
    unfold iL
    simp only [eLoc_ap, List.getElem?_cons_zero, List.getElem?_cons_succ, locO_s, OutI.of]
    have : lstAt h mm = some (ms0.map W.str) := by unfold lstAt; rw [hm]
    rw [this]
  unfold eLc
  rw [it]
  exact e
end
end Dr.L
set_option maxHeartbeats 4000000
namespace Dr.L
open PySem L2 PyProof.Rows Dr
variable {t : Str} {i r d : Nat} {h : IH}
section
variable {ks ms0 : List Str} {p kk mm : Nat}
theorem eLc_it {n : Nat} {it : EvI} {own : List Nat} {g : Tg} {t e : Ev} {σ : Sg} {h h1 : IH} {J : ItW} (q : it σ h = .it J h1) : eLc n it own g t e σ h = lcL J g t e h1.length (wipeW σ own) n 0 (h1 ++ [.lst []]) := by
  unfold eLc
  rw [q]
theorem it_R1 {q : Nat} (hq : q ≤ 1000) {σ : Sg} {h h1 : IH} {r : Ev} (e : r σ h = .vs [.int q] h1) : iR1 r σ h = .it (jR 0 q) h1 := by
  have c : -(2 ^ 62) ≤ (q : Int) ∧ (q : Int) < 2 ^ 62 := by constructor <;> omega
  simp only [iR1, e, OutI.ofs]
  rw [if_pos c, Int.toNat_natCast]
/-- what the law's node comes to -/
def LnOk (ks ms0 : List Str) (p kk mm d : Nat) (z : Int) (m : Nat) : Prop := ∀ (h : IH) (a b : Int), Pool h p a b → h[kk]? = some (.lst (ks.map W.str)) → h[mm]? = some (.lst (ms0.map W.str)) →
  ∃ n T h', run d 37 [.ref p, .int z, .ref kk, .ref mm] h = .v (.ref n) h' ∧ Pl p h h' ∧ LIn h' h.length h'.length (.ref n) T ∧ T.dr ks ms0 m
theorem kc_ok {q m d : Nat} {y4 y5 y7 y8 : Option W} {a b : Int} (hq : q ≤ 3) (A : q ≠ 0 → LnOk ks ms0 p kk mm d ((m : Int) - 1) (m - 1)) (hp : Pool h p a b) (hk : h[kk]? = some (.lst (ks.map W.str))) (hm : h[mm]? = some (.lst (ms0.map W.str))) (hkp : kk ≠ p) (hmp : mm ≠ p) :
    ∃ cs ws h', eLc nF (iR1 (eCons (eLoc 6) eNil)) [8] (gN 8) eYes (eCall (run d 37) [] (eCons (eLoc 0) (eCons (eBin oSub (eLoc 1) (eK (.int 1))) (eCons (eLoc 2) (eCons (eLoc 3) eNil))))) (σN p m kk mm y4 y5 (some (.int q)) y7 y8) h = .v (.ref h.length) h' ∧ Pl p h h' ∧ h'[h.length]? = some (.lst ws) ∧ LsIn h' h.length h'.length ws cs ∧ cs.length = q ∧ drs ks ms0 cs (m - 1) ∧ h.length < h'.length := by
  have pl := lt_of hp.at_
  have ml := lt_of hm
  have kl := lt_of hk
  have L := lcG (J := jR 0 q) (g := gN 8) (t := eYes) (e := eCall (run d 37) [] (eCons (eLoc 0) (eCons (eBin oSub (eLoc 1) (eK (.int 1))) (eCons (eLoc 2) (eCons (eLoc 3) eNil))))) (D := h.length) (σ0 := wipeW (σN p m kk mm y4 y5 (some (.int q)) y7 y8) [8]) (n := q)
    (fun s h' => Pl p h h' ∧ h.length < h'.length ∧ ∃ ws cs, h'[h.length]? = some (.lst ws) ∧ LsIn h' (h.length + 1) h'.length ws cs ∧ cs.length = s ∧ drs ks ms0 cs (m - 1))
    (by
      rintro s h' hs ⟨P1, hlt, ws, cs, e1, e2, e3, e4⟩
      obtain ⟨⟨x, y, q'⟩, l, ag⟩ := P1
      obtain ⟨n, T, h1, r1, P2, r3, r4⟩ := A (by omega) h' x y q' (by rw [ag kk kl hkp]; exact hk) (by rw [ag mm ml hmp]; exact hm)
      have e1' : h1[h.length]? = some (.lst ws) := by rw [P2.ag _ hlt (by omega)]; exact e1
      have hws := e2.len
      refine ⟨.int (0 + (s : Nat)), (wipeW (σN p m kk mm y4 y5 (some (.int q)) y7 y8) [8]).set 8 (some (.int (0 + (s : Nat)))), true, h', ?_, rfl, rfl, (fun z => by cases z), fun _ => ⟨.ref n, h1, ws, ?_, e1', by omega, ?_⟩⟩
      · unfold jR; rw [if_pos hs]
      · show eCall (run d 37) [] (eCons (eLoc 0) (eCons (eBin oSub (eLoc 1) (eK (.int 1))) (eCons (eLoc 2) (eCons (eLoc 3) eNil)))) [some (.ref p), some (.int m), some (.ref kk), some (.ref mm), y4, y5, some (.int q), y7, some (.int (0 + (s : Nat)))] h' = _
        simp only [eCall_ap, eCons_ap, eNil_ap, eBin_ap, eLoc_ap, eK_ap, List.getElem?_cons_zero, List.getElem?_cons_succ, locO_s, vb_v, vsb_vs, List.append_nil, oSub_int, r1, cb_v]
      · obtain ⟨⟨x', y', q2⟩, l', ag'⟩ := P2
        have agD : ∀ a, h.length + 1 ≤ a → (h1.set h.length (IO.lst (ws ++ [.ref n])))[a]? = h1[a]? := fun a ha => List.getElem?_set_ne (by omega)
        refine ⟨⟨⟨x', y', ?_, q2.ha, q2.hb, q2.hb2⟩, by simp; omega, fun z hz hne => ?_⟩, by simp; omega, ws ++ [.ref n], cs ++ [T], get_set e1', ?_, by simp [e3], drs_app _ _ e4 (by unfold drs drs; exact ⟨r4, trivial⟩)⟩
        · rw [List.getElem?_set_ne (by omega)]; exact q2.at_
        · rw [List.getElem?_set_ne (by omega), ag' z (by omega) hne, ag z hz hne]
        · refine LsIn.app (e2.mono (fun a ha1 ha2 => ?_) (Nat.le_refl _) (by simp; omega)) (.cons (r3.mono (fun a ha1 ha2 => agD a (by omega)) (by omega) (by simp)) .nil)
          rw [agD a ha1, ag' a ha2 (by omega)])
    (by
      rintro h' _
      unfold jR
      rw [if_neg (by omega)])
    nF 0 (h ++ [.lst []]) (Nat.zero_le _) (by show _ < 100000; omega) ⟨(Pl.refl hp).app, by simp, [], [], by simp, .nil, rfl, by unfold drs; trivial⟩
  obtain ⟨h', e, P1, hlt, ws, cs, e1, e2, e3, e4⟩ := L
  refine ⟨cs, ws, h', ?_, P1, e1, e2.mono (fun _ _ _ => rfl) (by omega) (Nat.le_refl _), e3, e4, hlt⟩
  exact (eLc_it (it_R1 (q := q) (by omega) rfl)).trans e
theorem atI_nat {α : Type} {l : List α} {i : Nat} {x : α} (e : l[i]? = some x) : L2.atI l (i : Int) = some x := by
  have := (List.getElem?_eq_some_iff.mp e).1
  unfold L2.atI L2.ixN
  rw [if_pos (by omega), if_pos (by omega)]
  simpa using e
theorem ln_step {m : Nat} (hk0 : 0 < ks.length) (hk1 : ks.length < 1000) (hm1 : ms0.length < 1000) (hkp : kk ≠ p) (hmp : mm ≠ p) (ih : m ≠ 0 → LnOk ks ms0 p kk mm (d + m + 1) ((m : Int) - 1) (m - 1)) : LnOk ks ms0 p kk mm (d + m + 2) m m :=
  fun h a b hp hk hm => by
    have e0 : run (d + m + 2) 37 [.ref p, .int m, .ref kk, .ref mm] h = (b37 (run (d + m + 1)) nF (σN p m kk mm none none none none none) h).fin := fn_run (d := d + m + 1) (b := b37) (n := 4) (N := 9) rfl rfl
    have pl := lt_of hp.at_
    have ml := lt_of hm
    have kl := lt_of hk
    obtain ⟨r, h1, r1, P1, l1, t1⟩ := tk_pl (d := d + m) (m := ks.length) hp hk0 (by omega)
    have hk1' : h1[kk]? = some (.lst (ks.map W.str)) := by rw [P1.ag kk kl hkp]; exact hk
    have hm1' : h1[mm]? = some (.lst (ms0.map W.str)) := by rw [P1.ag mm ml hmp]; exact hm
    have ek : ks[r]? = some ks[r] := List.getElem?_eq_getElem r1
    have s4 : eAsg (gN 4) (eBin oIx (eLoc 2) (eCall (run (d + m + 1) 36) [] (eCons (eLoc 0) (eCons (eBlt bLen (eCons (eLoc 2) eNil)) eNil)))) (σN p m kk mm none none none none none) h = .nx (σN p m kk mm (some (.str ks[r])) none none none none) h1 := by
      have bl : bLen [.ref kk] h = .v (.int ks.length) h := by
        show (match lstAt h kk with | some ls => Out.v (.int (ls.length : Nat)) h | none => .no) = _
        unfold lstAt; rw [hk]; simp
      have ix : oIx (.ref kk) (.int r) h1 = .v (.str ks[r]) h1 := by
        simp only [oIx, hk1', ixW]
        rw [atI_nat (x := W.str ks[r]) (by rw [List.getElem?_map, ek]; rfl)]
      simp only [eAsg_ap, eBin_ap, eCall_ap, eCons_ap, eNil_ap, eBlt_ap, eLoc_ap, List.getElem?_cons_zero, List.getElem?_cons_succ, locO_s, vb_v, vsb_vs, List.append_nil, bl, t1, cb_v, ix, gN_ap, List.set_cons_succ, List.set_cons_zero]
    obtain ⟨⟨x1, z1, q1⟩, _, _⟩ := P1
    obtain ⟨ms, h2, o1, P2, o3, o4, o5⟩ := own_ok (d := d + m) (kk := kk) (m := m) (y4 := some (.str ks[r])) (y5 := none) (y6 := none) (y7 := none) (y8 := none) q1 hm1' hmp hm1
    have s5 : eAsg (gN 5) (eLc nF (iL (eLoc 3)) [7] (gN 7) (eBin oEq (eCall (run (d + m + 1) 36) [] (eCons (eLoc 0) (eCons (eK (.int 3)) eNil))) (eK (.int 0))) (eLoc 7)) (σN p m kk mm (some (.str ks[r])) none none none none) h1 = .nx (σN p m kk mm (some (.str ks[r])) (some (.ref h1.length)) none none none) h2 := by
      rw [eAsg_ap, o1]; rfl
    obtain ⟨⟨x2, z2, q2⟩, _, _⟩ := id P2
    have s6 : ∃ q h3, q ≤ 3 ∧ (m = 0 → q = 0) ∧ Pl p h2 h3 ∧ eAsg (gN 6) (eIf (eBin oGt (eLoc 1) (eK (.int 0))) (eCall (run (d + m + 1) 36) [] (eCons (eLoc 0) (eCons (eK (.int 4)) eNil))) (eK (.int 0))) (σN p m kk mm (some (.str ks[r])) (some (.ref h1.length)) none none none) h2 = .nx (σN p m kk mm (some (.str ks[r])) (some (.ref h1.length)) (some (.int (q : Nat))) none none) h3 := by
      by_cases hz : m = 0
      · refine ⟨0, h2, by omega, fun _ => rfl, Pl.refl q2, ?_⟩
        subst hz
        simp only [eAsg_ap, eIf_ap, eBin_ap, eLoc_ap, eK_ap, List.getElem?_cons_zero, List.getElem?_cons_succ, locO_s, vb_v, oGt_int]
        rfl
      · obtain ⟨q, h3, v1, v2, v3, v4⟩ := tk_pl (d := d + m) (m := 4) q2 (by omega) (by omega)
        refine ⟨q, h3, by omega, fun z => absurd z hz, v2, ?_⟩
        have v4' : run (d + m + 1) 36 [.ref p, .int 4] h2 = .v (.int q) h3 := v4
        simp only [eAsg_ap, eIf_ap, eBin_ap, eCall_ap, eCons_ap, eNil_ap, eLoc_ap, eK_ap, List.getElem?_cons_zero, List.getElem?_cons_succ, locO_s, vb_v, vsb_vs, List.append_nil, oGt_int]
        rw [decide_eq_true (show (0 : Int) < (m : Int) by omega)]
        simp only [v4', cb_v, vb_v, gN_ap, List.set_cons_succ, List.set_cons_zero]
    obtain ⟨q, h3, hq, hq0, P3, s6⟩ := s6
    obtain ⟨⟨x3, z3, q3⟩, _, _⟩ := id P3
    have P13 : Pl p h1 h3 := P2.trans P3
    obtain ⟨cs, ws, h4, c1, P4, c3, c4, c5, c6, c7⟩ := kc_ok (d := d + m + 1) (q := q) (m := m) (y4 := some (.str ks[r])) (y5 := some (.ref h1.length)) (y7 := none) (y8 := none) hq (fun z => ih (fun z' => z (hq0 z'))) q3 (by rw [P13.ag kk (by omega) hkp]; exact hk1') (by rw [P13.ag mm (by omega) hmp]; exact hm1') hkp hmp
    have s7 : eRet (eLst (eCons (eLoc 4) (eCons (eLoc 5) (eCons (eLc nF (iR1 (eCons (eLoc 6) eNil)) [8] (gN 8) eYes (eCall (run (d + m + 1) 37) [] (eCons (eLoc 0) (eCons (eBin oSub (eLoc 1) (eK (.int 1))) (eCons (eLoc 2) (eCons (eLoc 3) eNil)))))) eNil)))) (σN p m kk mm (some (.str ks[r])) (some (.ref h1.length)) (some (.int (q : Nat))) none none) h3 = .rt (.ref h4.length) (h4 ++ [.lst [.str ks[r], .ref h1.length, .ref h3.length]]) := by
      have l4 : eLoc 4 (σN p m kk mm (some (.str ks[r])) (some (.ref h1.length)) (some (.int (q : Nat))) none none) h3 = .v (.str ks[r]) h3 := rfl
      have l5 : eLoc 5 (σN p m kk mm (some (.str ks[r])) (some (.ref h1.length)) (some (.int (q : Nat))) none none) h3 = .v (.ref h1.length) h3 := rfl
      rw [eRet_ap, eLst_ap, eCons_ap, l4, vb_v, eCons_ap, l5, vb_v, eCons_ap, c1, vb_v, eNil_ap, vsb_vs, vsb_vs, vsb_vs, vsb_vs, if_pos (show ([W.str ks[r], W.ref h1.length, W.ref h3.length] : List W).length ≤ 16777216 by simp only [List.length_cons, List.length_nil]; omega)]
      rfl
    have P14 := (Pl.mk (p := p) (h := h) (h' := h1) ⟨x1, z1, q1⟩ (by omega) (by assumption)).trans (P13.trans P4)
    have P24 := P3.trans P4
    refine ⟨h4.length, .mk ks[r] ms cs, h4 ++ [.lst [.str ks[r], .ref h1.length, .ref h3.length]], ?_, P14.app, ?_, ?_⟩
    · rw [e0]
      unfold b37
      rw [eSeq_ap, s4, nb_nx, eSeq_ap, s5, nb_nx, eSeq_ap, s6, nb_nx, s7]; rfl
    · have L2 := P2.len
      have L3 := P3.len
      have L4 := P4.len
      refine .mk (ws := ws) h4.length h1.length h3.length (by omega) (by simp) (by omega) (by simp; omega) (by omega) (by simp; omega) (by simp) (get_app ?_) (get_app c3) (c4.mono (fun a ha1 ha2 => List.getElem?_append_left ha2) (by omega) (by simp))
      rw [P24.ag _ o5 (by omega)]; exact o3
    · unfold Tr.dr
      exact ⟨List.getElem_mem r1, o4, by omega, fun z => by
        have := hq0 z
        cases cs with
        | nil => rfl
        | cons => simp at c5; omega, c6⟩
theorem ln_ok (hk0 : 0 < ks.length) (hk1 : ks.length < 1000) (hm1 : ms0.length < 1000) (hkp : kk ≠ p) (hmp : mm ≠ p) : ∀ (m : Nat), LnOk ks ms0 p kk mm (d + m + 2) m m
  | 0 => ln_step (d := d) (m := 0) hk0 hk1 hm1 hkp hmp (fun z => absurd rfl z)
  | m + 1 => by
    have A := ln_ok hk0 hk1 hm1 hkp hmp m
    have B : LnOk ks ms0 p kk mm (d + (m + 1) + 1) (((m + 1 : Nat) : Int) - 1) (m + 1 - 1) := by
      rw [show ((m + 1 : Nat) : Int) - 1 = (m : Int) by omega, show d + (m + 1) + 1 = d + m + 2 by omega, show m + 1 - 1 = m by omega]
      exact A
    exact ln_step (d := d) (m := m + 1) hk0 hk1 hm1 hkp hmp (fun _ => B)
end
end Dr.L
set_option maxHeartbeats 1000000
namespace Dr.L
open PySem L2 PyProof.Rows Dr
variable {t : Str} {i r d : Nat} {h : IH}
/-! ### texts of trees -/
def jnL (z : List Nat) : List (List Nat) → List Nat
  | [] => []
  | [x] => x
  | x :: y :: r => x ++ z ++ jnL z (y :: r)
theorem join_cps (z : Str) : ∀ l : List Str, (Txt.join z l).cps.toList = jnL z.cps.toList (l.map (·.cps.toList)) := by
  intro l
  have e1 : Txt.join z l = Str.join z l := StrLaws.glued_eq_join z l
  rw [e1]
  clear e1
  induction l with
  | nil => rfl
  | cons x l ih =>
    cases l with
    | nil => rfl
    | cons y r =>
      show ((x ++ z ++ Str.join z (y :: r) : Str)).cps.toList = _
      rw [← appS_eq, ← appS_eq]
      simp only [appS, List.map_cons, jnL] at ih ⊢
      rw [ih]
theorem jnL_nil : ∀ l : List (List Nat), jnL [] l = l.flatten
  | [] => rfl
  | [x] => by simp [jnL]
  | x :: y :: r => by rw [jnL, jnL_nil (y :: r)]; simp
def hdL (k : Str) (ms : List Str) : List Nat := k.cps.toList ++ (sortS ms).flatMap (fun m => 46 :: m.cps.toList)
theorem hdS_cps (k : Str) (ms : List Str) : (hdS k ms).cps.toList = hdL k ms := by
  unfold hdS hdL appS
  simp only
  rw [join_cps, show (("" : Str)).cps.toList = [] from rfl, jnL_nil]
  congr 1
  induction sortS ms with
  | nil => rfl
  | cons m r ih => simp only [List.map_cons, List.flatten_cons, List.flatMap_cons, ih]; rfl
mutual
def txL : Tr → List Nat
  | .mk k ms [] => hdL k ms
  | .mk k ms (T :: Ts) => hdL k ms ++ 40 :: (txL T ++ txK Ts)
def txK : List Tr → List Nat
  | [] => [41]
  | T :: Ts => 44 :: (txL T ++ txK Ts)
end
def txS (T : Tr) : Str := ⟨(txL T).toArray⟩
theorem str_ext {a b : Str} (e : a.cps.toList = b.cps.toList) : a = b := by
  cases a; cases b
  congr 1
  exact Array.ext' e
mutual
theorem pieces_cps : ∀ T : Tr, ((pieces T).map (·.cps.toList)).flatten = txL T
  | .mk k ms [] => by simp only [pieces, txL, List.map_cons, List.map_nil, List.flatten_cons, List.flatten_nil, List.append_nil, hdS_cps]
  | .mk k ms (T :: Ts) => by
    simp only [pieces, txL, List.map_cons, List.flatten_cons, List.map_append, List.flatten_append, hdS_cps, pieces_cps T, piecesK_cps Ts]
    rfl
theorem piecesK_cps : ∀ Ts : List Tr, ((piecesK Ts).map (·.cps.toList)).flatten = txK Ts
  | [] => rfl
  | T :: Ts => by
    simp only [piecesK, txK, List.map_cons, List.flatten_cons, List.map_append, List.flatten_append, pieces_cps T, piecesK_cps Ts]
    rfl
end
theorem text_txS (T : Tr) : Txt.join "" (pieces T) = txS T := by
  refine str_ext ?_
  rw [join_cps, show (("" : Str)).cps.toList = [] from rfl, jnL_nil, pieces_cps]
  simp [txS]
theorem jnL_kids : ∀ (T : Tr) (Ts : List Tr), jnL [44] ((T :: Ts).map txL) ++ [41] = txL T ++ txK Ts
  | T, [] => by simp [jnL, txK]
  | T, T' :: Ts => by
    have := jnL_kids T' Ts
    simp only [List.map_cons, jnL, txK] at this ⊢
    rw [List.append_assoc, this]
    simp
/-! how long they are -/
structure Nm (ks ms0 : List Str) : Prop where
  k1 : ∀ k ∈ ks, 0 < k.length ∧ k.length ≤ 8
  m1 : ∀ m ∈ ms0, m.length ≤ 8
  m3 : ms0.length ≤ 3
def LB : Nat → Nat
  | 0 => 40
  | m + 1 => 44 + 3 * LB m
section
variable {ks ms0 : List Str}
theorem flat_len {ms : List Str} (hm : ∀ m ∈ ms, m.length ≤ 8) : (ms.flatMap (fun m => 46 :: m.cps.toList)).length ≤ 9 * ms.length := by
  rw [List.length_flatMap]
  refine sum_le _ 9 _ fun x hx => ?_
  have := hm x hx
  simp only [List.length_cons, len_cps]; omega
theorem hdL_len {k : Str} {ms : List Str} (N : Nm ks ms0) (hk : k ∈ ks) (hm : ms.Sublist ms0) : (hdL k ms).length ≤ 35 ∧ 0 < (hdL k ms).length := by
  have h1 := flat_len (ms := sortS ms) (fun m hx => N.m1 m (hm.subset ((sortS_perm ms).mem_iff.mp hx)))
  have h2 := N.k1 k hk
  have h3 := hm.length_le
  have h4 := N.m3
  rw [sort_len] at h1
  unfold hdL
  rw [List.length_append, len_cps]
  omega
mutual
theorem txL_len (N : Nm ks ms0) : ∀ (T : Tr) (m : Nat), T.dr ks ms0 m → (txL T).length ≤ LB m ∧ 0 < (txL T).length
  | .mk k ms [], m, e => by
    unfold Tr.dr at e
    have := hdL_len N e.1 e.2.1
    have : 40 ≤ LB m := by cases m <;> unfold LB <;> omega
    unfold txL; omega
  | .mk k ms (T :: Ts), 0, e => by
    unfold Tr.dr at e
    exact absurd (e.2.2.2.1 rfl) (by simp)
  | .mk k ms (T :: Ts), m + 1, e => by
    unfold Tr.dr drs at e
    obtain ⟨e1, e2, e3, _, e5, e6⟩ := e
    have h1 := hdL_len N e1 e2
    have h2 := txL_len N T m e5
    have h3 := txK_len N Ts m e6
    simp only [List.length_cons] at e3
    have h4 : Ts.length * (LB m + 1) ≤ 2 * (LB m + 1) := Nat.mul_le_mul_right _ (by omega)
    unfold txL LB
    simp only [List.length_append, List.length_cons]
    omega
theorem txK_len (N : Nm ks ms0) : ∀ (Ts : List Tr) (m : Nat), drs ks ms0 Ts m → (txK Ts).length ≤ 1 + Ts.length * (LB m + 1)
  | [], m, _ => by simp [txK]
  | T :: Ts, m, e => by
    unfold drs at e
    have h2 := txL_len N T m e.1
    have h3 := txK_len N Ts m e.2
    unfold txK
    simp only [List.length_append, List.length_cons, Nat.add_mul]
    omega
end
theorem txS_len (T : Tr) : (txS T).length = (txL T).length := by simp [txS, Str.length]
/-! ### the law's text -/
theorem join_of {z : Str} {E : Ev} {σ : Sg} {h h' : IH} {D : Nat} {ss : List Str} (e : E σ h = .v (.ref D) h') (hD : h'[D]? = some (.lst (ss.map W.str))) (hl : (ss.map (·.length)).sum + ss.length * z.length ≤ 16777216) : eBM "str" mJoin (eK (.str z)) (eCons E eNil) σ h = .v (.str (Txt.join z ss)) h' := by
  have l : lstAt h' D = some (ss.map W.str) := by unfold lstAt; rw [hD]
  rw [eBM_ap, eK_ap, vb_v, if_pos (show tyW "str" (.str z) h = true from rfl), eCons_ap, e, vb_v, eNil_ap, vsb_vs, vsb_vs]
  simp only [mJoin, l, joinS, mapO_st]
  rw [if_pos hl]
theorem sortedX_ok {a : Nat} {ms : List Str} (ha : h[a]? = some (.lst (ms.map W.str))) (hl : ms.length < 64) : bSortedX [.ref a] h = .v (.ref h.length) (h ++ [.lst ((sortS ms).map W.str)]) := by
  unfold bSortedX
  have : lstAt h a = some (ms.map W.str) := by unfold lstAt; rw [ha]
  simp only [this]
  cases ms with
  | nil => simp; rfl
  | cons b ms => simp only [mapO_num, mapO_st, if_pos hl]
theorem it_L {E : Ev} {σ : Sg} {h h1 : IH} {n : Nat} {ws : List W} (e : E σ h = .v (.ref n) h1) (hn : h1[n]? = some (.lst ws)) : iL E σ h = .it (jL n) h1 := by
  have l : lstAt h1 n = some ws := by unfold lstAt; rw [hn]
  simp only [iL, e, OutI.of, l]
/-- a comprehension over a list, whose items give texts -/
theorem lcT {it : EvI} {own : List Nat} {v : Nat} {e : Ev} {σ : Sg} {h h1 : IH} {n : Nat} {ws : List W} {ss : List Str} (q : it σ h = .it (jL n) h1) (hn : h1[n]? = some (.lst ws)) (hl : ws.length = ss.length) (hz : ss.length < 1000)
    (he : ∀ (s : Nat) (g : IH) (w : W) (x : Str), ws[s]? = some w → ss[s]? = some x → ∃ g', e ((wipeW σ own).set v (some w)) (h1 ++ g) = .v (.str x) (h1 ++ g ++ g')) :
    ∃ g, eLc nF it own (gN v) eYes e σ h = .v (.ref h1.length) (h1 ++ [.lst (ss.map W.str)] ++ g) := by
  have nl := lt_of hn
  have L := lcI (J := jL n) (g := gN v) (t := eYes) (e := e) (D := h1.length) (σ0 := wipeW σ own) (n := ws.length) (fun s h' => ∃ g, h' = h1 ++ [IO.lst ((ss.take s).map W.str)] ++ g)
    (by
      rintro s h' hs ⟨g, rfl⟩
      have ew : ws[s]? = some ws[s] := List.getElem?_eq_getElem hs
      have ex : ss[s]? = some (ss[s]'(by omega)) := List.getElem?_eq_getElem (by omega)
      generalize hx0 : ss[s]'(by omega) = x at ex
      obtain ⟨g', e1⟩ := he s ([IO.lst ((ss.take s).map W.str)] ++ g) ws[s] x ew ex
      rw [← List.append_assoc] at e1
      have gD : (h1 ++ [IO.lst ((ss.take s).map W.str)] ++ g ++ g')[h1.length]? = some (.lst ((ss.take s).map W.str)) := get_app (get_app (by simp))
      refine ⟨ws[s], (wipeW σ own).set v (some ws[s]), .str x, _, _, ?_, rfl, rfl, e1, gD, by simp; omega, g ++ g', ?_⟩
      · have : lstAt (h1 ++ [IO.lst ((ss.take s).map W.str)] ++ g) n = some ws := by unfold lstAt; rw [get_app (get_app hn)]
        unfold jL
        simp only [this, ew]
      · rw [List.append_assoc (h1 ++ _) g g', set_app (g := g ++ g') (by simp : (h1 ++ [IO.lst ((ss.take s).map W.str)])[h1.length]? = some (.lst ((ss.take s).map W.str)))]
        congr 1
        rw [List.set_append_right _ _ (Nat.le_refl _), Nat.sub_self, List.set_cons_zero, List.take_succ, ex]
        simp)
    (by
      rintro h' ⟨g, rfl⟩
      have : lstAt (h1 ++ [IO.lst ((ss.take ws.length).map W.str)] ++ g) n = some ws := by unfold lstAt; rw [get_app (get_app hn)]
      unfold jL
      simp only [this]
      simp)
    nF 0 (h1 ++ [.lst []]) (Nat.zero_le _) (by show _ < 100000; omega) ⟨[], by simp⟩
  obtain ⟨h', e1, g, rfl⟩ := L
  refine ⟨g, ?_⟩
  rw [hl, List.take_length] at e1
  exact (eLc_it q).trans e1
end
end Dr.L
set_option maxHeartbeats 1000000
namespace Dr.L
open PySem L2 PyProof.Rows Dr
variable {t : Str} {i r d : Nat} {h : IH}
section
variable {ks ms0 : List Str}
theorem oAdd_s {x y : Str} (c : x.length + y.length ≤ 16777216) : oAdd (.str x) (.str y) h = .v (.str (appS x y)) h := if_pos c
theorem drs_get {m : Nat} : ∀ {Ts : List Tr} {i : Nat} {T : Tr}, drs ks ms0 Ts m → Ts[i]? = some T → T.dr ks ms0 m
  | [], i, T, _, e => by simp at e
  | T' :: Ts, 0, T, a, e => by unfold drs at a; simp at e; subst e; exact a.1
  | T' :: Ts, i + 1, T, a, e => by unfold drs at a; exact drs_get a.2 (by simpa using e)
abbrev σT (w : W) (y1 y2 y3 y4 : Option W) : Sg := [some w, y1, y2, y3, y4]
abbrev lcM : Ev := eLc nF (iL (eBlt bSortedX (eCons (eBin oIx (eLoc 0) (eK (.int 1))) eNil))) [3] (gN 3) eYes (eBin oAdd (eK (.str ".")) (eLoc 3))
abbrev lcC (d : Nat) : Ev := eLc nF (iL (eBin oIx (eLoc 0) (eK (.int 2)))) [4] (gN 4) eYes (eCall (run d 38) [] (eCons (eLoc 4) eNil))
def LtOk (ks ms0 : List Str) (d m : Nat) : Prop := ∀ (T : Tr) (h : IH) (w : W) (lo hi : Nat), LIn h lo hi w T → hi ≤ h.length → T.dr ks ms0 m → ∃ g, run d 38 [w] h = .v (.str (txS T)) (h ++ g)
theorem lcM_ok {n a c : Nat} {k : Str} {ms : List Str} {y1 y2 y3 y4 : Option W} (hn : h[n]? = some (.lst [.str k, .ref a, .ref c])) (ha : h[a]? = some (.lst (ms.map W.str))) (hl : ms.length < 64) (hm : ∀ m ∈ ms, m.length ≤ 8) :
    ∃ g, lcM (σT (.ref n) y1 y2 y3 y4) h = .v (.ref (h.length + 1)) (h ++ [.lst ((sortS ms).map W.str)] ++ [.lst (((sortS ms).map fun m => appS "." m).map W.str)] ++ g) := by
  have e1 : eBlt bSortedX (eCons (eBin oIx (eLoc 0) (eK (.int 1))) eNil) (σT (.ref n) y1 y2 y3 y4) h = .v (.ref h.length) (h ++ [.lst ((sortS ms).map W.str)]) := by
    have : oIx (.ref n) (.int 1) h = .v (.ref a) h := by simp only [oIx, hn]; rfl
    simp only [eBlt_ap, eCons_ap, eBin_ap, eLoc_ap, eK_ap, eNil_ap, List.getElem?_cons_zero, locO_s, vb_v, vsb_vs, this, sortedX_ok ha hl]
  have gl : (h ++ [IO.lst ((sortS ms).map W.str)])[h.length]? = some (.lst ((sortS ms).map W.str)) := by simp
  obtain ⟨g, e2⟩ := lcT (own := [3]) (v := 3) (e := eBin oAdd (eK (.str ".")) (eLoc 3)) (ss := (sortS ms).map fun m => appS "." m) (it_L e1 gl) gl (by simp) (by rw [List.length_map, sort_len]; omega) (by
    intro s g w x hw hx
    rw [List.getElem?_map] at hw hx
    cases q : (sortS ms)[s]? with
    | none => rw [q] at hw; cases hw
    | some m =>
      rw [q] at hw hx
      cases hw; cases hx
      have hm' := hm m ((sortS_perm ms).mem_iff.mp (List.mem_of_getElem? q))
      refine ⟨[], ?_⟩
      have : (("." : Str)).length = 1 := rfl
      show Out.vb _ _ = _
      rw [eK_ap, vb_v]
      show oAdd (.str ".") (.str m) _ = _
      rw [oAdd_s (by omega)]; simp)
  refine ⟨g, ?_⟩
  show lcM _ _ = _
  rw [show h.length + 1 = (h ++ [IO.lst ((sortS ms).map W.str)]).length by simp]
  exact e2
theorem lcC_ok {n a c m d : Nat} {k : Str} {cs : List Tr} {ws : List W} {lo hi : Nat} {y1 y2 y3 y4 : Option W} {h : IH} (A : LtOk ks ms0 d m) (hn : h[n]? = some (.lst [.str k, .ref a, .ref c])) (hc : h[c]? = some (.lst ws)) (tr : LsIn h lo hi ws cs) (hh : hi ≤ h.length) (hd : drs ks ms0 cs m) (h3 : cs.length ≤ 3) :
    ∃ g, lcC d (σT (.ref n) y1 y2 y3 y4) h = .v (.ref h.length) (h ++ [.lst ((cs.map txS).map W.str)] ++ g) := by
  have e1 : eBin oIx (eLoc 0) (eK (.int 2)) (σT (.ref n) y1 y2 y3 y4) h = .v (.ref c) h := by
    have : oIx (.ref n) (.int 2) h = .v (.ref c) h := by simp only [oIx, hn]; rfl
    simp only [eBin_ap, eLoc_ap, eK_ap, List.getElem?_cons_zero, locO_s, vb_v, this]
  have tl := tr.len
  exact lcT (own := [4]) (v := 4) (e := eCall (run d 38) [] (eCons (eLoc 4) eNil)) (ss := cs.map txS) (it_L e1 hc) hc (by simp [tl]) (by rw [List.length_map]; omega) (by
    intro s g w x hw hx
    obtain ⟨T, eT, tT⟩ := tr.get hw
    rw [List.getElem?_map, eT] at hx
    cases hx
    obtain ⟨g', e2⟩ := A T (h ++ g) w lo hi (tT.mono (fun a _ ha => List.getElem?_append_left (by omega)) (Nat.le_refl _) (Nat.le_refl _)) (by simp; omega) (drs_get hd eT)
    refine ⟨g', ?_⟩
    show eCall (run d 38) [] (eCons (eLoc 4) eNil) [some (.ref n), y1, y2, y3, some w] (h ++ g) = _
    simp only [eCall_ap, eCons_ap, eNil_ap, eLoc_ap, List.getElem?_cons_zero, List.getElem?_cons_succ, locO_s, vb_v, vsb_vs, List.append_nil, e2, cb_v])
theorem LB_le : ∀ m, m ≤ 4 → LB m ≤ 6000 := by decide
theorem txS_hd {k : Str} {ms : List Str} : txS (.mk k ms []) = hdS k ms := str_ext (by rw [hdS_cps]; simp [txS, txL])
theorem txS_in {k : Str} {ms : List Str} {T : Tr} {Ts : List Tr} : appS (appS (appS (hdS k ms) "(") (Txt.join "," ((T :: Ts).map txS))) ")" = txS (.mk k ms (T :: Ts)) := by
  refine str_ext ?_
  have e1 : (Txt.join "," ((T :: Ts).map txS)).cps.toList ++ [41] = txL T ++ txK Ts := by
    rw [join_cps, ← jnL_kids]
    congr 2
    simp [txS]
  simp only [appS, hdS_cps, txS, txL]
  rw [show (("(" : Str)).cps.toList = [40] from rfl, show ((")" : Str)).cps.toList = [41] from rfl]
  simp only [List.append_assoc]
  rw [e1]
  simp
theorem join_len {m : Nat} (N : Nm ks ms0) {cs : List Tr} (hd : drs ks ms0 cs m) (hm : m ≤ 4) (h3 : cs.length ≤ 3) : ((cs.map txS).map (·.length)).sum + (cs.map txS).length * (("," : Str)).length ≤ 20000 := by
  have e0 : (("," : Str)).length = 1 := rfl
  have := sum_le (fun x : Str => x.length) 6000 (cs.map txS) (fun x hx => by
    obtain ⟨T, hT, rfl⟩ := List.mem_map.mp hx
    obtain ⟨i, hi, e⟩ := List.mem_iff_getElem.mp hT
    have := (txL_len N T m (drs_get hd (by rw [List.getElem?_eq_getElem hi, e]))).1
    have := LB_le m hm
    rw [txS_len]; omega)
  rw [List.length_map] at this ⊢
  rw [e0]
  omega
theorem lt_step {m : Nat} (N : Nm ks ms0) (hm4 : m ≤ 4) (ih : m ≠ 0 → LtOk ks ms0 (d + m) (m - 1)) : LtOk ks ms0 (d + m + 1) m := by
  intro T h w lo hi tr hh dr
  cases tr with
  | mk n a c a1 a2 a3 a4 a5 a6 en ea ec trs =>
  rename_i k ms cs ws
  unfold Tr.dr at dr
  obtain ⟨d1, d2, d3, d4, d5⟩ := dr
  have e0 : run (d + m + 1) 38 [.ref n] h = (b38 (run (d + m)) nF (σT (.ref n) none none none none) h).fin := fn_run (d := d + m) (b := b38) (n := 1) (N := 5) rfl rfl
  have m8 : ∀ x ∈ ms, x.length ≤ 8 := fun x hx => N.m1 x (d2.subset hx)
  have ml := d2.length_le
  have m3 := N.m3
  have k8 := N.k1 k d1
  obtain ⟨g1, f1⟩ := lcM_ok (y1 := none) (y2 := none) (y3 := none) (y4 := none) en ea (by omega) m8
  have hsum : ((((sortS ms).map fun m => appS "." m)).map (·.length)).sum ≤ 9 * 3 := by
    refine Nat.le_trans (sum_le (fun x : Str => x.length) 9 _ fun x hx => ?_) ?_
    · obtain ⟨y, hx2, rfl⟩ := List.mem_map.mp hx
      have := m8 y ((sortS_perm ms).mem_iff.mp hx2)
      have : (("." : Str)).length = 1 := rfl
      rw [appS_len]; omega
    · rw [List.length_map, sort_len]; omega
  have j1 := join_of (z := "") f1 (ss := (sortS ms).map fun m => appS "." m) (get_app (by simp)) (by
    have : (("" : Str)).length = 0 := rfl
    rw [this]; omega)
  have i0 : eBin oIx (eLoc 0) (eK (.int 0)) (σT (.ref n) none none none none) h = .v (.str k) h := by
    have : oIx (.ref n) (.int 0) h = .v (.str k) h := by simp only [oIx, en]; rfl
    simp only [eBin_ap, eLoc_ap, eK_ap, List.getElem?_cons_zero, locO_s, vb_v, this]
  have jl : (Txt.join "" ((sortS ms).map fun m => appS "." m)).length ≤ 27 := Nat.le_trans (join0_len _) hsum
  have s1 : eAsg (gN 1) (eBin oAdd (eBin oIx (eLoc 0) (eK (.int 0))) (eBM "str" mJoin (eK (.str "")) (eCons lcM eNil))) (σT (.ref n) none none none none) h = .nx (σT (.ref n) (some (.str (hdS k ms))) none none none) (h ++ [.lst ((sortS ms).map W.str)] ++ [.lst (((sortS ms).map fun m => appS "." m).map W.str)] ++ g1) := by
    rw [eAsg_ap, eBin_ap, i0, vb_v, j1, vb_v, oAdd_s (by omega), vb_v]; rfl
  rw [List.append_assoc, List.append_assoc] at s1
  generalize ([IO.lst ((sortS ms).map W.str)] ++ ([IO.lst (((sortS ms).map fun m => appS "." m).map W.str)] ++ g1)) = G at s1
  have s2 : ∃ g2, eAsg (gN 2) (eBM "str" mJoin (eK (.str ",")) (eCons (lcC (d + m)) eNil)) (σT (.ref n) (some (.str (hdS k ms))) none none none) (h ++ G) = .nx (σT (.ref n) (some (.str (hdS k ms))) (some (.str (Txt.join "," (cs.map txS)))) none none) (h ++ G ++ g2) := by
    have A : LtOk ks ms0 (d + m) (m - 1) ∨ cs = [] := by
      by_cases z : m = 0
      · exact .inr (d4 z)
      · exact .inl (ih z)
    have trs' : LsIn (h ++ G) lo hi ws cs := trs.mono (fun a _ ha => List.getElem?_append_left (by omega)) (Nat.le_refl _) (Nat.le_refl _)
    have f2 : ∃ g, lcC (d + m) (σT (.ref n) (some (.str (hdS k ms))) none none none) (h ++ G) = .v (.ref (h ++ G).length) (h ++ G ++ [.lst ((cs.map txS).map W.str)] ++ g) := by
      rcases A with A | A
      · exact lcC_ok A (get_app en) (get_app ec) trs' (by simp; omega) d5 d3
      · subst A
        have wn : ws = [] := by have := trs.len; simpa using this
        subst wn
        have e1 : eBin oIx (eLoc 0) (eK (.int 2)) (σT (.ref n) (some (.str (hdS k ms))) none none none) (h ++ G) = .v (.ref c) (h ++ G) := by
          have : oIx (.ref n) (.int 2) (h ++ G) = .v (.ref c) (h ++ G) := by simp only [oIx, get_app en]; rfl
          simp only [eBin_ap, eLoc_ap, eK_ap, List.getElem?_cons_zero, locO_s, vb_v, this]
        exact lcT (own := [4]) (v := 4) (e := eCall (run (d + m) 38) [] (eCons (eLoc 4) eNil)) (ss := []) (it_L e1 (get_app ec)) (get_app ec) rfl (by simp) (by intro s g w x hw; simp at hw)
    obtain ⟨g, f2⟩ := f2
    have jl2 := join_len (m := m - 1) N d5 (by omega) d3
    have j2 := join_of (z := ",") f2 (ss := cs.map txS) (get_app (by simp)) (by omega)
    refine ⟨[.lst ((cs.map txS).map W.str)] ++ g, ?_⟩
    rw [eAsg_ap, j2, vb_v, List.append_assoc]; rfl
  obtain ⟨g2, s2⟩ := s2
  refine ⟨G ++ g2, ?_⟩
  rw [e0]
  unfold b38
  rw [eSeq_ap, s1, nb_nx, eSeq_ap, s2, nb_nx, List.append_assoc h G g2]
  cases cs with
  | nil =>
    rw [txS_hd]
    rfl
  | cons T Ts =>
    have jl2 := join_len (m := m - 1) N d5 (by omega) d3
    have jl3 : (Txt.join "," ((T :: Ts).map txS)).length ≤ 20000 := by
      have e1 : Txt.join "," ((T :: Ts).map txS) = Str.join "," ((T :: Ts).map txS) := StrLaws.glued_eq_join "," _
      have := StrLaws.join_length_le "," ((T :: Ts).map txS)
      rw [e1]; omega
    have hl := hdL_len N d1 d2
    have hsl : (hdS k ms).length ≤ 35 := by rw [← len_cps, hdS_cps]; omega
    have e1 : (("(" : Str)).length = 1 := rfl
    have e2 : ((")" : Str)).length = 1 := rfl
    have ne : oNe (.str (Txt.join "," ((T :: Ts).map txS))) (.str "") (h ++ (G ++ g2)) = .v (.bl true) (h ++ (G ++ g2)) := by
      have : eqS (Txt.join "," ((T :: Ts).map txS)) "" = false := by
        rw [eqS_eq]
        refine decide_eq_false fun z => ?_
        have z2 : (Txt.join "," ((T :: Ts).map txS)).cps.toList = (("" : Str)).cps.toList := by rw [z]
        rw [join_cps, show (("" : Str)).cps.toList = [] from rfl] at z2
        have h0 := (txL_len N T (m - 1) (by unfold drs at d5; exact d5.1)).2
        have e3 : (txS T).cps.toList = txL T := by simp [txS]
        cases Ts with
        | nil => simp only [List.map_cons, List.map_nil, jnL, e3] at z2; rw [z2] at h0; simp at h0
        | cons T2 Ts => 
          simp only [List.map_cons, jnL, e3] at z2
          rw [List.append_assoc] at z2
          rw [(List.append_eq_nil_iff.mp z2).1] at h0
          simp at h0
      simp only [oNe, eqD, this]; rfl
    rw [eRet_ap, eIf_ap]
    simp only [eBin_ap, eLoc_ap, eK_ap, List.getElem?_cons_zero, List.getElem?_cons_succ, locO_s, vb_v, ne]
    rw [oAdd_s (by omega), vb_v, oAdd_s (by rw [appS_len]; omega), vb_v, oAdd_s (by rw [appS_len, appS_len]; omega), vb_v, fin_rt, txS_in]
theorem lt_ok (N : Nm ks ms0) : ∀ m, m ≤ 4 → LtOk ks ms0 (d + m + 1) m
  | 0, _ => lt_step (d := d) (m := 0) N (by omega) (fun z => absurd rfl z)
  | m + 1, hm => by
    have A := lt_ok N m (by omega)
    have B : LtOk ks ms0 (d + (m + 1)) (m + 1 - 1) := by
      rw [show d + (m + 1) = d + m + 1 by omega, show m + 1 - 1 = m by omega]
      exact A
    exact lt_step (d := d) (m := m + 1) N hm (fun _ => B)
end
end Dr.L
set_option maxHeartbeats 1000000
namespace Dr.L
open PySem L2 PyProof.Rows Dr
variable {t : Str} {i r d : Nat} {h : IH}
/-! ### few marks at one head -/
def sep (c : Nat) : Bool := c == 40 || c == 41 || c == 44
def dots : List Nat → Nat
  | [] => 0
  | c :: r => if sep c = true then 0 else if c = 46 then dots r + 1 else dots r
def Rn (k : Nat) (cs : List Nat) : Prop := ∀ i, dots (cs.drop i) ≤ k
theorem dots_app : ∀ a b : List Nat, dots (a ++ b) ≤ dots a + dots b
  | [], b => by simp [dots]
  | c :: a, b => by
    have := dots_app a b
    simp only [List.cons_append, dots]
    split
    · omega
    · split <;> omega
theorem dots_sep {s : Nat} (hs : sep s = true) : ∀ a b : List Nat, dots (a ++ s :: b) ≤ dots a
  | [], b => by simp [dots, hs]
  | c :: a, b => by
    have := dots_sep hs a b
    simp only [List.cons_append, dots]
    split
    · omega
    · split <;> omega
theorem dots_count : ∀ a : List Nat, dots a ≤ a.count 46
  | [] => by simp [dots]
  | c :: a => by
    have := dots_count a
    unfold dots
    rw [List.count_cons]
    split
    · omega
    · split
      · rename_i q; subst q; simp; omega
      · omega
theorem dots_take : ∀ (n : Nat) (a : List Nat), dots (a.take n) ≤ dots a
  | 0, a => by simp [dots]
  | n + 1, [] => by simp
  | n + 1, c :: a => by
    have := dots_take n a
    simp only [List.take_succ_cons, dots]
    split
    · omega
    · split <;> omega
theorem Rn.app {k l : Nat} {a b : List Nat} (ha : Rn k a) (hb : Rn l b) : Rn (k + l) (a ++ b) := fun i => by
  rw [List.drop_append]
  have := dots_app (a.drop i) (b.drop (i - a.length))
  have := ha i
  have := hb (i - a.length)
  omega
theorem Rn.cons {k s : Nat} {b : List Nat} (hs : sep s = true) (hb : Rn k b) : Rn k (s :: b)
  | 0 => by simp [dots, hs]
  | i + 1 => by rw [List.drop_succ_cons]; exact hb i
theorem Rn.sep {k s : Nat} {a b : List Nat} (hs : sep s = true) (ha : Rn k a) (hb : Rn k (s :: b)) : Rn k (a ++ s :: b) := fun i => by
  rw [List.drop_append]
  by_cases q : i ≤ a.length
  · rw [show i - a.length = 0 by omega, List.drop_zero]
    exact Nat.le_trans (dots_sep hs _ _) (ha i)
  · rw [List.drop_of_length_le (by omega), List.nil_append]
    exact hb _
theorem Rn.take {k : Nat} {a : List Nat} (ha : Rn k a) (n : Nat) : Rn k (a.take n) := fun i => by
  rw [List.drop_take]
  exact Nat.le_trans (dots_take _ _) (ha i)
theorem Rn.drop {k : Nat} {a : List Nat} (ha : Rn k a) (n : Nat) : Rn k (a.drop n) := fun i => by
  rw [List.drop_drop]
  exact ha _
theorem Rn.one (c : Nat) : Rn 1 [c]
  | 0 => by
    rw [List.drop_zero]
    simp only [dots]
    split
    · omega
    · split <;> omega
  | i + 1 => by simp [dots]
theorem Rn.count {k : Nat} {a : List Nat} (ha : a.count 46 ≤ k) : Rn k a := fun i => by
  refine Nat.le_trans (dots_count _) (Nat.le_trans ?_ ha)
  exact (List.drop_sublist i a).count_le _
theorem isL_sep {c : Nat} (q : isL c = true) : sep c = false ∧ c ≠ 46 := by
  have : ∀ c : Fin 200, isL c.val = true → sep c.val = false ∧ c.val ≠ 46 := by decide +kernel
  by_cases z : c < 200
  · exact this ⟨c, z⟩ q
  · have h1 : sep c = false := by unfold sep; simp; omega
    exact ⟨h1, by omega⟩
theorem dots_wlen : ∀ cs : List Nat, dots (cs.drop (wlen cs)) = dots cs
  | [] => rfl
  | c :: r => by
    unfold wlen
    split
    · rename_i q
      obtain ⟨h1, h2⟩ := isL_sep q
      rw [List.drop_succ_cons, dots_wlen r]
      simp [dots, h1, h2]
    · rfl
theorem marks_dots {t : Str} : ∀ {n i : Nat} {acc ms : List Str} {j : Nat}, marksF t n i acc = some (j, ms) → ms.length ≤ acc.length + dots (t.cps.toList.drop i)
  | 0, _, _, _, _, e => by cases e
  | n + 1, i, acc, ms, j, e => by
    unfold marksF at e
    split at e
    · rename_i q
      split at e
      · cases e
      · rename_i e' qw
        split at e
        · cases e
        · have ih := marks_dots e
          have he : e' = i + 1 + wlen (t.cps.toList.drop (i + 1)) := by
            unfold word at qw
            split at qw
            · cases qw; rfl
            · cases qw
          have h1 := dots_wlen (t.cps.toList.drop (i + 1))
          rw [List.drop_drop, ← he] at h1
          unfold ch at q
          obtain ⟨hl, e1⟩ := List.getElem?_eq_some_iff.mp q
          rw [List.drop_eq_getElem_cons hl, e1]
          rw [h1] at ih
          simp only [List.length_append, List.length_cons, List.length_nil] at ih
          have : dots (46 :: t.cps.toList.drop (i + 1)) = dots (t.cps.toList.drop (i + 1)) + 1 := by
            simp [dots, sep]
          omega
    · cases e; omega
theorem few_of (q : Rn 63 t.cps.toList) : Few t := fun n i j ms e => by
  have := marks_dots e
  have := q i
  simp at *
  omega
/-! ### drawn texts -/
def Lt (s : Str) : Prop := ∀ c ∈ s.cps.toList, isL c = true
structure NmL (ks ms0 : List Str) : Prop extends Nm ks ms0 where
  kl : ∀ k ∈ ks, Lt k
  ml : ∀ m ∈ ms0, Lt m
/-- signs that a text may hold -/
def okC (c : Nat) : Bool := Nat.ble 32 c && Nat.blt c 127 && !(Nat.beq c 34) && !(Nat.beq c 39) && !(Nat.beq c 92)
theorem isL_ok {c : Nat} (q : isL c = true) : okC c = true ∧ c ≠ 40 ∧ c ≠ 44 ∧ c ≠ 46 := by
  have : ∀ c : Fin 200, isL c.val = true → okC c.val = true ∧ c.val ≠ 40 ∧ c.val ≠ 44 ∧ c.val ≠ 46 := by decide +kernel
  have h2 : ∀ c ∈ ("abcdefghijklmnopqrstuvwxyz" : Str).cps.toList, c < 200 := by decide +kernel
  have h3 : c < 200 := by
    unfold isL at q
    rw [memL_eq] at q
    exact h2 c (of_decide_eq_true q)
  exact this ⟨c, h3⟩ q
section
variable {ks ms0 : List Str}
theorem lt_count {s : Str} (q : Lt s) {x : Nat} (hx : isL x = false) : s.cps.toList.count x = 0 := List.count_eq_zero.mpr fun z => by
  have := q x z
  rw [hx] at this; cases this
theorem flat_count : ∀ l : List Str, (∀ m ∈ l, Lt m) → (l.flatMap (fun m => 46 :: m.cps.toList)).count 46 ≤ l.length
  | [], _ => by simp
  | m :: l, h => by
    have := flat_count l (fun x hx => h x (List.mem_cons_of_mem _ hx))
    have e0 := lt_count (h m (List.mem_cons_self ..)) (x := 46) (by decide +kernel)
    rw [List.flatMap_cons, List.count_append, List.count_cons, e0, if_pos (by rfl)]
    simp only [List.length_cons]
    omega
theorem hdL_mem {k : Str} {ms : List Str} (N : NmL ks ms0) (hk : k ∈ ks) (hm : ms.Sublist ms0) {c : Nat} (hc : c ∈ hdL k ms) : isL c = true ∨ c = 46 := by
  unfold hdL at hc
  rcases List.mem_append.mp hc with hc | hc
  · exact .inl (N.kl k hk c hc)
  · obtain ⟨m, h1, h2⟩ := List.mem_flatMap.mp hc
    rcases List.mem_cons.mp h2 with h2 | h2
    · exact .inr h2
    · exact .inl (N.ml m (hm.subset ((sortS_perm ms).mem_iff.mp h1)) c h2)
theorem hdL_rn {k : Str} {ms : List Str} (N : NmL ks ms0) (hk : k ∈ ks) (hm : ms.Sublist ms0) : Rn ms0.length (hdL k ms) := Rn.count (by
  unfold hdL
  have h1 := lt_count (N.kl k hk) (x := 46) (by decide +kernel)
  have h2 := flat_count (sortS ms) (fun m hx => N.ml m (hm.subset ((sortS_perm ms).mem_iff.mp hx)))
  have h3 := hm.length_le
  rw [sort_len] at h2
  rw [List.count_append]; omega)
theorem hdL_c40 {k : Str} {ms : List Str} (N : NmL ks ms0) (hk : k ∈ ks) (hm : ms.Sublist ms0) : (hdL k ms).count 40 = 0 := List.count_eq_zero.mpr fun z => by
  rcases hdL_mem N hk hm z with q | q
  · exact (isL_ok q).2.1 rfl
  · cases q
theorem hdL_cp {k : Str} {ms : List Str} (N : NmL ks ms0) (hk : k ∈ ks) (hm : ms.Sublist ms0) : (hdL k ms).countP (fun c => c == 40 || c == 44) = 0 := List.countP_eq_zero.mpr fun c z => by
  rcases hdL_mem N hk hm z with q | q
  · have := isL_ok q
    simp [this.2.1, this.2.2.1]
  · subst q; decide
theorem txK_hd : ∀ Ts : List Tr, ∃ s r, txK Ts = s :: r ∧ sep s = true
  | [] => ⟨41, [], rfl, rfl⟩
  | T :: Ts => ⟨44, _, by unfold txK; rfl, rfl⟩
def IB : Nat → Nat
  | 0 => 0
  | m + 1 => 1 + 3 * IB m
def CB : Nat → Nat
  | 0 => 0
  | m + 1 => 3 + 3 * CB m
/-- what is known of drawn signs -/
structure Dn (n i c : Nat) (cs : List Nat) : Prop where
  rn : Rn n cs
  ok : ∀ x ∈ cs, okC x = true
  c40 : cs.count 40 ≤ i
  cp : cs.countP (fun c => c == 40 || c == 44) ≤ c
mutual
theorem txL_dn (N : NmL ks ms0) : ∀ (T : Tr) (m : Nat), T.dr ks ms0 m → Dn ms0.length (IB m) (CB m) (txL T)
  | .mk k ms [], m, e => by
    unfold Tr.dr at e
    unfold txL
    exact ⟨hdL_rn N e.1 e.2.1, fun x hx => by
      rcases hdL_mem N e.1 e.2.1 hx with q | q
      · exact (isL_ok q).1
      · subst q; rfl, by rw [hdL_c40 N e.1 e.2.1]; omega, by rw [hdL_cp N e.1 e.2.1]; omega⟩
  | .mk k ms (T :: Ts), 0, e => by
    unfold Tr.dr at e
    exact absurd (e.2.2.2.1 rfl) (by simp)
  | .mk k ms (T :: Ts), m + 1, e => by
    unfold Tr.dr drs at e
    obtain ⟨e1, e2, e3, _, e5, e6⟩ := e
    have h2 := txL_dn N T m e5
    have h3 := txK_dn N Ts m e6
    simp only [List.length_cons] at e3
    have q1 : Ts.length * (CB m + 1) ≤ 2 * (CB m + 1) := Nat.mul_le_mul_right _ (by omega)
    have q2 : Ts.length * IB m ≤ 2 * IB m := Nat.mul_le_mul_right _ (by omega)
    have a1 := hdL_c40 N e1 e2
    have a2 := hdL_cp N e1 e2
    unfold txL
    refine ⟨Rn.sep rfl (hdL_rn N e1 e2) (Rn.cons rfl ?_), fun x hx => ?_, ?_, ?_⟩
    · obtain ⟨s, r, q, hs⟩ := txK_hd Ts
      rw [q]
      exact Rn.sep hs h2.rn (by rw [← q]; exact h3.rn)
    · rcases List.mem_append.mp hx with hx | hx
      · rcases hdL_mem N e1 e2 hx with q | q
        · exact (isL_ok q).1
        · subst q; rfl
      · rcases List.mem_cons.mp hx with rfl | hx
        · rfl
        · rcases List.mem_append.mp hx with hx | hx
          · exact h2.ok x hx
          · exact h3.ok x hx
    · have := h2.c40
      have := h3.c40
      rw [List.count_append, List.count_cons, List.count_append]
      unfold IB
      simp
      omega
    · have := h2.cp
      have := h3.cp
      rw [List.countP_append, List.countP_cons, List.countP_append]
      unfold CB
      simp
      omega
theorem txK_dn (N : NmL ks ms0) : ∀ (Ts : List Tr) (m : Nat), drs ks ms0 Ts m → Dn ms0.length (Ts.length * IB m) (Ts.length * (CB m + 1)) (txK Ts)
  | [], m, _ => by
    unfold txK
    exact ⟨Rn.cons rfl (fun i => by simp [dots]), fun x hx => by simp at hx; subst hx; rfl, by simp, by simp⟩
  | T :: Ts, m, e => by
    unfold drs at e
    have h2 := txL_dn N T m e.1
    have h3 := txK_dn N Ts m e.2
    unfold txK
    refine ⟨Rn.cons rfl ?_, fun x hx => ?_, ?_, ?_⟩
    · obtain ⟨s, r, q, hs⟩ := txK_hd Ts
      rw [q]
      exact Rn.sep hs h2.rn (by rw [← q]; exact h3.rn)
    · rcases List.mem_cons.mp hx with rfl | hx
      · rfl
      · rcases List.mem_append.mp hx with hx | hx
        · exact h2.ok x hx
        · exact h3.ok x hx
    · have := h2.c40
      have := h3.c40
      rw [List.count_cons, List.count_append]
      simp [Nat.add_mul]
      omega
    · have := h2.cp
      have := h3.cp
      rw [List.countP_cons, List.countP_append]
      simp [Nat.add_mul]
      omega
end
end
/-! one sign more, less or another -/
theorem Dn.app {n1 i1 c1 n2 i2 c2 : Nat} {a b : List Nat} (x : Dn n1 i1 c1 a) (y : Dn n2 i2 c2 b) : Dn (n1 + n2) (i1 + i2) (c1 + c2) (a ++ b) :=
  ⟨x.rn.app y.rn, fun z hz => by
    rcases List.mem_append.mp hz with hz | hz
    · exact x.ok z hz
    · exact y.ok z hz, by rw [List.count_append]; have := x.c40; have := y.c40; omega, by rw [List.countP_append]; have := x.cp; have := y.cp; omega⟩
theorem Dn.one {c : Nat} (h : okC c = true) : Dn 1 1 1 [c] := ⟨Rn.one c, fun x hx => by simp at hx; subst hx; exact h, by rw [List.count_cons]; simp; split <;> omega, by rw [List.countP_cons]; simp; split <;> omega⟩
theorem Dn.split {n i c : Nat} {a : List Nat} (x : Dn n i c a) (j k : Nat) (hjk : j ≤ k) : ∃ i1 c1 i2 c2, i1 + i2 ≤ i ∧ c1 + c2 ≤ c ∧ Dn n i1 c1 (a.take j) ∧ Dn n i2 c2 (a.drop k) := by
  refine ⟨(a.take j).count 40, (a.take j).countP (fun c => c == 40 || c == 44), (a.drop k).count 40, (a.drop k).countP (fun c => c == 40 || c == 44), ?_, ?_, ⟨x.rn.take j, fun z hz => x.ok z (List.mem_of_mem_take hz), Nat.le_refl _, Nat.le_refl _⟩, ⟨x.rn.drop k, fun z hz => x.ok z (List.mem_of_mem_drop hz), Nat.le_refl _, Nat.le_refl _⟩⟩
  · have h1 : a.count 40 = (a.take j).count 40 + (a.drop j).count 40 := by rw [← List.count_append, List.take_append_drop]
    have h2 : (a.drop k).count 40 ≤ (a.drop j).count 40 := (List.drop_sublist_drop_left a hjk).count_le _
    have := x.c40
    omega
  · have h1 : a.countP (fun c => c == 40 || c == 44) = (a.take j).countP (fun c => c == 40 || c == 44) + (a.drop j).countP (fun c => c == 40 || c == 44) := by rw [← List.countP_append, List.take_append_drop]
    have h2 : (a.drop k).countP (fun c => c == 40 || c == 44) ≤ (a.drop j).countP (fun c => c == 40 || c == 44) := (List.drop_sublist_drop_left a hjk).countP_le
    have := x.cp
    omega
end Dr.L
set_option maxHeartbeats 1000000
namespace Dr.L
open PySem L2 PyProof.Rows Dr
variable {t : Str} {i r d : Nat} {h : IH}
/-! ### a written text is read back -/
def Nme (s : Str) : Prop := Lt s ∧ 0 < s.length ∧ s.length ≤ 8
def noL : List Nat → Prop
  | [] => True
  | c :: _ => isL c = false
theorem wlen_app : ∀ (k rest : List Nat), (∀ c ∈ k, isL c = true) → noL rest → wlen (k ++ rest) = k.length
  | [], rest, _, hr => by
    cases rest with
    | nil => rfl
    | cons c r =>
      unfold noL at hr
      simp [wlen, hr]
  | c :: k, rest, hk, hr => by
    have := wlen_app k rest (fun x hx => hk x (List.mem_cons_of_mem _ hx)) hr
    simp [wlen, hk c (List.mem_cons_self ..), this]
theorem word_at {k : Str} {rest : List Nat} (n : Nme k) (e : t.cps.toList.drop i = k.cps.toList ++ rest) (hr : noL rest) : word t i = some (i + k.length) := by
  have w := wlen_app k.cps.toList rest n.1 hr
  rw [len_cps] at w
  unfold word
  rw [e, w, if_pos ⟨n.2.1, n.2.2⟩]
theorem sl_at {k : Str} {rest : List Nat} (e : t.cps.toList.drop i = k.cps.toList ++ rest) : sl t i (i + k.length) = k := by
  refine str_ext ?_
  unfold sl
  simp only
  rw [e, show i + k.length - i = k.cps.toList.length by rw [len_cps]; omega, List.take_left]
theorem drop_at {a rest : List Nat} (e : t.cps.toList.drop i = a ++ rest) : t.cps.toList.drop (i + a.length) = rest := by
  rw [← List.drop_drop, e, List.drop_left]
theorem ch_at {c : Nat} {rest : List Nat} (e : t.cps.toList.drop i = c :: rest) : ch t i = some c := by
  unfold ch
  have : (t.cps.toList.drop i)[0]? = some c := by rw [e]; rfl
  rw [List.getElem?_drop] at this
  simpa using this
theorem ch_end (e : t.cps.toList.drop i = []) : ch t i = none := by
  unfold ch
  exact List.getElem?_eq_none_iff.mpr (List.drop_eq_nil_iff.mp e)
def mkU (ms : List Str) : List Nat := ms.flatMap (fun m => 46 :: m.cps.toList)
def hdU (k : Str) (ms : List Str) : List Nat := k.cps.toList ++ mkU ms
/-- what may follow a head -/
def noH : List Nat → Prop
  | [] => True
  | c :: _ => isL c = false ∧ c ≠ 46
theorem noH.l {r : List Nat} (h : noH r) : noL r := by
  cases r with
  | nil => trivial
  | cons c r => exact h.1
theorem mkU_noL : ∀ (ms : List Str) {rest : List Nat}, noH rest → noL (mkU ms ++ rest)
  | [], rest, h => h.l
  | m :: ms, rest, h => by
    show isL 46 = false
    decide +kernel
theorem marks_at : ∀ (ms : List Str) (n i : Nat) (acc : List Str) (rest : List Nat), (∀ m ∈ ms, Nme m) → (acc ++ ms).Nodup → noH rest → ms.length < n → t.cps.toList.drop i = mkU ms ++ rest → marksF t n i acc = some (i + (mkU ms).length, acc ++ ms)
  | _, 0, _, _, _, _, _, _, hn, _ => absurd hn (Nat.not_lt_zero _)
  | [], n + 1, i, acc, rest, _, _, hr, _, e => by
    unfold marksF
    have c : ch t i ≠ some 46 := by
      cases rest with
      | nil => rw [ch_end (by simpa [mkU] using e)]; simp
      | cons c r => rw [ch_at (by simpa [mkU] using e)]; intro z; cases z; exact hr.2 rfl
    rw [if_neg c]
    simp [mkU]
  | m :: ms, n + 1, i, acc, rest, hm, nd, hr, hn, e => by
    have e1 : t.cps.toList.drop i = 46 :: (m.cps.toList ++ (mkU ms ++ rest)) := by rw [e]; simp [mkU]
    have e2 : t.cps.toList.drop (i + 1) = m.cps.toList ++ (mkU ms ++ rest) := by
      have := drop_at (a := [46]) (rest := m.cps.toList ++ (mkU ms ++ rest)) (by rw [e1]; rfl)
      simpa using this
    have nm := hm m (List.mem_cons_self ..)
    have w := word_at nm e2 (mkU_noL ms hr)
    have s := sl_at e2
    have e3 := drop_at e2
    rw [len_cps] at e3
    have nd' : m ∉ acc := by
      intro z
      have := (List.nodup_append.mp nd).2.2 m z m (List.mem_cons_self ..)
      exact this rfl
    have ih := marks_at ms n (i + 1 + m.length) (acc ++ [m]) rest (fun x hx => hm x (List.mem_cons_of_mem _ hx)) (by rw [List.append_assoc]; exact nd) hr (by simp only [List.length_cons] at hn; omega) e3
    unfold marksF
    rw [if_pos (ch_at e1), w]
    simp only
    rw [s, if_neg nd', ih]
    have l : (mkU (m :: ms)).length = 1 + m.length + (mkU ms).length := by simp only [mkU, List.flatMap_cons, List.length_append, List.length_cons, len_cps]; omega
    rw [l, List.append_assoc]
    simp only [List.cons_append, List.nil_append, Option.some.injEq, Prod.mk.injEq, and_true]
    omega
theorem head_at {k : Str} {ms : List Str} {rest : List Nat} (hk : Nme k) (hm : ∀ m ∈ ms, Nme m) (nd : ms.Nodup) (hr : noH rest) (e : t.cps.toList.drop i = hdU k ms ++ rest) : headF t i = some (i + (hdU k ms).length, k, ms) := by
  have e1 : t.cps.toList.drop i = k.cps.toList ++ (mkU ms ++ rest) := by rw [e]; simp [hdU]
  have w := word_at hk e1 (mkU_noL ms hr)
  have e2 := drop_at e1
  rw [len_cps] at e2
  have hl : ms.length < t.length + 1 := by
    have h1 : (mkU ms ++ rest).length ≤ t.length := by rw [← e2, List.length_drop, len_cps]; omega
    have h2 : ms.length ≤ (mkU ms).length := by
      clear e e1 e2 hr nd hm h1 w
      induction ms with
      | nil => simp
      | cons m ms ih => simp only [mkU, List.flatMap_cons, List.length_append, List.length_cons] at ih ⊢; omega
    rw [List.length_append] at h1
    omega
  have m := marks_at ms (t.length + 1) (i + k.length) [] rest hm (by simpa using nd) hr hl e2
  unfold headF
  rw [w]
  simp only
  rw [m]
  simp only [List.nil_append, hdU, List.length_append, len_cps]
  rw [sl_at e1, Nat.add_assoc]
mutual
def txU : Tr → List Nat
  | .mk k ms [] => hdU k ms
  | .mk k ms (T :: Ts) => hdU k ms ++ 40 :: (txU T ++ txUK Ts)
def txUK : List Tr → List Nat
  | [] => [41]
  | T :: Ts => 44 :: (txU T ++ txUK Ts)
end
mutual
def Tr.vd : Tr → Nat → Prop
  | .mk k ms cs, m => Nme k ∧ (∀ x ∈ ms, Nme x) ∧ ms.Nodup ∧ (m = 0 → cs = []) ∧ vds cs (m - 1)
def vds : List Tr → Nat → Prop
  | [], _ => True
  | T :: Ts, m => T.vd m ∧ vds Ts m
end
def stp : List Nat → Prop
  | [] => True
  | c :: _ => c = 41 ∨ c = 44
theorem stp_noH {r : List Nat} (h : stp r) : noH r := by
  cases r with
  | nil => trivial
  | cons c r =>
    rcases h with rfl | rfl
    · exact ⟨by decide +kernel, by decide⟩
    · exact ⟨by decide +kernel, by decide⟩
theorem txUK_stp (Ts : List Tr) (rest : List Nat) : stp (txUK Ts ++ rest) := by
  cases Ts with
  | nil => unfold txUK; exact .inl rfl
  | cons T Ts => unfold txUK; exact .inr rfl
def RdOk (t : Str) (n m : Nat) : Prop := ∀ (T : Tr) (i : Nat) (rest : List Nat), T.vd m → t.cps.toList.drop i = txU T ++ rest → stp rest → rd t n i = some (i + (txU T).length, T)
theorem kids_at {n m : Nat} (A : RdOk t n m) : ∀ (Ts : List Tr) (T : Tr) (q i : Nat) (k : Str) (ms : List Str) (acc : List Tr) (rest : List Nat), T.vd m → vds Ts m → Ts.length < q → t.cps.toList.drop i = txU T ++ (txUK Ts ++ rest) → kids (rd t n) t q i k ms acc = some (i + (txU T).length + (txUK Ts).length, .mk k ms (acc ++ T :: Ts))
  | _, _, 0, _, _, _, _, _, _, _, hq, _ => absurd hq (Nat.not_lt_zero _)
  | [], T, q + 1, i, k, ms, acc, rest, h1, h2, hq, e => by
    have a := A T i (txUK [] ++ rest) h1 e (txUK_stp [] rest)
    have e1 := drop_at e
    unfold kids
    rw [a]
    simp only
    rw [if_pos (ch_at (rest := rest) (by rw [e1]; unfold txUK; rfl))]
    unfold txUK
    simp
  | T2 :: Ts, T, q + 1, i, k, ms, acc, rest, h1, h2, hq, e => by
    unfold vds at h2
    have a := A T i (txUK (T2 :: Ts) ++ rest) h1 e (txUK_stp (T2 :: Ts) rest)
    have e1 := drop_at e
    have e2 : t.cps.toList.drop (i + (txU T).length) = 44 :: (txU T2 ++ (txUK Ts ++ rest)) := by rw [e1, txUK]; simp
    have e3 : t.cps.toList.drop (i + (txU T).length + 1) = txU T2 ++ (txUK Ts ++ rest) := by
      have := drop_at (a := [44]) (rest := txU T2 ++ (txUK Ts ++ rest)) (by rw [e2]; rfl)
      simpa using this
    have ih := kids_at A Ts T2 q (i + (txU T).length + 1) k ms (acc ++ [T]) rest h2.1 h2.2 (by simp only [List.length_cons] at hq; omega) e3
    have c := ch_at e2
    unfold kids
    rw [a]
    simp only
    rw [if_neg (by rw [c]; simp), if_pos c, ih]
    rw [txUK]
    simp only [List.append_assoc, List.cons_append, List.nil_append, List.length_cons, List.length_append, Option.some.injEq, Prod.mk.injEq, and_true]
    omega
theorem txUK_len : ∀ Ts : List Tr, Ts.length < (txUK Ts).length
  | [] => by simp [txUK]
  | T :: Ts => by
    have := txUK_len Ts
    rw [txUK]
    simp only [List.length_cons, List.length_append]; omega
theorem rd_at : ∀ (m n : Nat), m < n → RdOk t n m
  | _, 0, hn => absurd hn (Nat.not_lt_zero _)
  | m, n + 1, hn => fun T i rest hv e hs => by
    cases T with
    | mk k ms cs =>
    unfold Tr.vd at hv
    obtain ⟨v1, v2, v3, v4, v5⟩ := hv
    cases cs with
    | nil =>
      have e1 : t.cps.toList.drop i = hdU k ms ++ rest := by rw [e, txU]
      have hd := head_at v1 v2 v3 (stp_noH hs) e1
      have e2 := drop_at e1
      unfold rd
      rw [hd]
      simp only
      have c : ch t (i + (hdU k ms).length) ≠ some 40 := by
        cases rest with
        | nil => rw [ch_end e2]; simp
        | cons c r =>
          rw [ch_at e2]
          intro z; cases z
          rcases hs with z | z <;> cases z
      rw [if_neg c, txU]
    | cons T Ts =>
      have hm : m ≠ 0 := fun z => by simpa using v4 z
      unfold vds at v5
      have e1 : t.cps.toList.drop i = hdU k ms ++ (40 :: (txU T ++ (txUK Ts ++ rest))) := by rw [e, txU]; simp
      have hd := head_at (rest := 40 :: (txU T ++ (txUK Ts ++ rest))) v1 v2 v3 ⟨by decide +kernel, by decide⟩ e1
      have e2 := drop_at e1
      have e3 : t.cps.toList.drop (i + (hdU k ms).length + 1) = txU T ++ (txUK Ts ++ rest) := by
        have := drop_at (a := [40]) (rest := txU T ++ (txUK Ts ++ rest)) (by rw [e2]; rfl)
        simpa using this
      have hl : Ts.length < t.length + 1 := by
        have h1 : (txU T ++ (txUK Ts ++ rest)).length ≤ t.length := by rw [← e3, List.length_drop, len_cps]; omega
        have := txUK_len Ts
        simp only [List.length_append] at h1
        omega
      have K := kids_at (rd_at (m - 1) n (by omega)) Ts T (t.length + 1) (i + (hdU k ms).length + 1) k ms [] rest v5.1 v5.2 hl e3
      unfold rd
      rw [hd]
      simp only
      rw [if_pos (ch_at e2), K]
      rw [txU]
      simp only [List.nil_append, List.length_append, List.length_cons, Option.some.injEq, Prod.mk.injEq, and_true]
      omega
/-- the whole text -/
theorem prs_at {T : Tr} {m n : Nat} (hv : T.vd m) (hn : m < n) : prs ⟨(txU T).toArray⟩ n = some T := by
  have A := rd_at (t := ⟨(txU T).toArray⟩) m n hn T 0 [] hv (by simp) trivial
  unfold prs
  rw [A]
  simp only [Nat.zero_add]
  rw [if_pos (by rw [← len_cps])]
end Dr.L
set_option maxHeartbeats 1000000
namespace Dr.L
open PySem L2 PyProof.Rows Dr
variable {t : Str} {i r d : Nat} {h : IH}
theorem eFor_it {n : Nat} {it : EvI} {g : Tg} {b : Ev} {σ : Sg} {h h1 : IH} {J : ItW} (e : it σ h = .it J h1) : eFor n it g b σ h = forL J g b n 0 σ h1 := by
  unfold eFor
  rw [e]
section
variable {ks ms0 : List Str}
/-! ### how many nodes -/
def SB : Nat → Nat
  | 0 => 1
  | m + 1 => 1 + 3 * SB m
theorem SB_le : ∀ m, m ≤ 4 → SB m ≤ 121 := by decide
mutual
theorem dr_size : ∀ (T : Tr) (m : Nat), T.dr ks ms0 m → T.size ≤ SB m
  | .mk k ms [], m, e => by
    have : 1 ≤ SB m := by cases m <;> unfold SB <;> omega
    simp only [Tr.size, sizes]; omega
  | .mk k ms (T :: Ts), 0, e => by
    unfold Tr.dr at e
    exact absurd (e.2.2.2.1 rfl) (by simp)
  | .mk k ms (T :: Ts), m + 1, e => by
    unfold Tr.dr drs at e
    obtain ⟨e1, e2, e3, _, e5, e6⟩ := e
    have h2 := dr_size T m e5
    have h3 := drs_size Ts m e6
    simp only [List.length_cons] at e3
    have q1 : Ts.length * SB m ≤ 2 * SB m := Nat.mul_le_mul_right _ (by omega)
    simp only [Tr.size, sizes, SB]; omega
theorem drs_size : ∀ (Ts : List Tr) (m : Nat), drs ks ms0 Ts m → sizes Ts ≤ Ts.length * SB m
  | [], m, _ => by simp [sizes]
  | T :: Ts, m, e => by
    unfold drs at e
    have h2 := dr_size T m e.1
    have h3 := drs_size Ts m e.2
    simp only [sizes, List.length_cons, Nat.add_mul]; omega
end
/-! ### the law's paths -/
theorem pathsK_app (pa : List W) : ∀ (i : Nat) (a : List Tr) (T : Tr), pathsK pa i (a ++ [T]) = pathsK pa i a ++ pathsW (pa ++ [.int (i + a.length : Nat)]) T
  | i, [], T => by simp [pathsK]
  | i, A :: a, T => by
    simp only [List.cons_append, pathsK, pathsK_app pa (i + 1) a T, List.append_assoc, List.length_cons]
    rw [show i + 1 + a.length = i + (a.length + 1) by omega]
theorem sizes_take : ∀ (s : Nat) (Ts : List Tr), sizes (Ts.take s) ≤ sizes Ts
  | 0, Ts => by simp [sizes]
  | s + 1, [] => by simp
  | s + 1, T :: Ts => by
    have := sizes_take s Ts
    simp only [List.take_succ_cons, sizes]; omega
def LpOk (ks ms0 : List Str) (d m : Nat) : Prop := ∀ (T : Tr) (h : IH) (w : W) (lo hi : Nat) (pa : List W), LIn h lo hi w T → hi ≤ h.length → T.dr ks ms0 m → pa.length + m < 1000 → ∃ P g, run d 39 [w, .tup pa] h = .v (.ref P) (h ++ g) ∧ (h ++ g)[P]? = some (.lst (pathsW pa T))
abbrev σP (w : W) (pa : List W) (y2 y3 y4 : Option W) : Sg := [some w, some (.tup pa), y2, y3, y4]
abbrev lpB (d : Nat) : Ev := eAsg (gN 2) (eBin oAdd (eLoc 2) (eCall (run d 39) [] (eCons (eLoc 4) (eCons (eBin oAdd (eLoc 1) (eTup (eCons (eLoc 3) eNil))) eNil))))
theorem oAdd_l {a b : Nat} {xs ys : List W} (ha : h[a]? = some (.lst xs)) (hb : h[b]? = some (.lst ys)) (hl : xs.length + ys.length ≤ 16777216) : oAdd (.ref a) (.ref b) h = .v (.ref h.length) (h ++ [.lst (xs ++ ys)]) := by
  simp only [oAdd, ha, hb]
  rw [if_pos hl]
theorem lp_step {m : Nat} (hm4 : m ≤ 4) (ih : m ≠ 0 → LpOk ks ms0 (d + m) (m - 1)) : LpOk ks ms0 (d + m + 1) m := by
  intro T h w lo hi pa tr hh dr hpa
  have hsz := dr_size T m dr
  have hsb := SB_le m hm4
  cases tr with
  | mk n a c a1 a2 a3 a4 a5 a6 en ea ec trs =>
  rename_i k ms cs ws
  unfold Tr.dr at dr
  obtain ⟨d1, d2, d3, d4, d5⟩ := dr
  have tl := trs.len
  have e0 : run (d + m + 1) 39 [.ref n, .tup pa] h = (b39 (run (d + m)) nF (σP (.ref n) pa none none none) h).fin := fn_run (d := d + m) (b := b39) (n := 2) (N := 5) rfl rfl
  have s1 : eAsg (gN 2) (eLst (eCons (eLoc 1) eNil)) (σP (.ref n) pa none none none) h = .nx (σP (.ref n) pa (some (.ref h.length)) none none) (h ++ [.lst [.tup pa]]) := rfl
  have i2 : eCons (eBin oIx (eLoc 0) (eK (.int 2))) eNil (σP (.ref n) pa (some (.ref h.length)) none none) (h ++ [.lst [.tup pa]]) = .vs [.ref c] (h ++ [.lst [.tup pa]]) := by
    have : oIx (.ref n) (.int 2) (h ++ [.lst [.tup pa]]) = .v (.ref c) (h ++ [.lst [.tup pa]]) := by simp only [oIx, get_app en]; rfl
    simp only [eCons_ap, eBin_ap, eLoc_ap, eK_ap, eNil_ap, List.getElem?_cons_zero, locO_s, vb_v, vsb_vs, this]
  have it : iE (eCons (eBin oIx (eLoc 0) (eK (.int 2))) eNil) (σP (.ref n) pa (some (.ref h.length)) none none) (h ++ [.lst [.tup pa]]) = .it (jE c) (h ++ [.lst [.tup pa]]) := by
    have l : lstAt (h ++ [.lst [.tup pa]]) c = some ws := by unfold lstAt; rw [get_app ec]
    simp only [iE, i2, OutI.ofs, l]
  obtain ⟨s, h', e1, ⟨P, g, y3, y4, rfl, rfl, eP, _⟩⟩ := forI (J := jE c) (g := gT [3, 4]) (b := lpB (d + m)) (n := ws.length) (fun s σ h' => ∃ P g y3 y4, σ = σP (.ref n) pa (some (.ref P)) y3 y4 ∧ h' = h ++ g ∧ (h ++ g)[P]? = some (.lst (.tup pa :: pathsK pa 0 (cs.take s))) ∧ 0 ≤ P)
    (by
      rintro s σ h' hs ⟨P, g, y3, y4, rfl, rfl, eP, _⟩
      have hm : m ≠ 0 := fun z => by
        have := d4 z
        rw [tl, this] at hs
        simp at hs
      have ew : ws[s]? = some ws[s] := List.getElem?_eq_getElem hs
      obtain ⟨T, eT, tT⟩ := trs.get ew
      have l : lstAt (h ++ g) c = some ws := by unfold lstAt; rw [get_app ec]
      obtain ⟨P2, g2, r1, r2⟩ := ih hm T (h ++ g) ws[s] lo hi (pa ++ [.int (s : Nat)]) (tT.mono (fun a _ ha => List.getElem?_append_left (by omega)) (Nat.le_refl _) (Nat.le_refl _)) (by simp; omega) (drs_get d5 eT) (by simp; omega)
      have l1 := pathsK_len pa 0 (cs.take s)
      have l2 := pathsW_len (pa ++ [.int (s : Nat)]) T
      have hst := sizes_take s cs
      have hTs : T.size ≤ SB (m - 1) := dr_size T (m - 1) (drs_get d5 eT)
      have hsb2 := SB_le (m - 1) (by omega)
      have hcs : sizes cs < 200 := by simp only [Tr.size] at hsz; omega
      have add := oAdd_l (h := h ++ g ++ g2) (get_app eP) r2 (by simp only [List.length_cons]; omega)
      refine ⟨.tup [.int (s : Nat), ws[s]], σP (.ref n) pa (some (.ref P)) (some (.int (s : Nat))) (some ws[s]), σP (.ref n) pa (some (.ref (h ++ g ++ g2).length)) (some (.int (s : Nat))) (some ws[s]), h ++ g ++ g2 ++ [.lst (.tup pa :: pathsK pa 0 (cs.take s) ++ pathsW (pa ++ [.int (s : Nat)]) T)], ?_, rfl, ?_, (h ++ g ++ g2).length, g ++ g2 ++ [.lst (.tup pa :: pathsK pa 0 (cs.take s) ++ pathsW (pa ++ [.int (s : Nat)]) T)], some (.int (s : Nat)), some ws[s], rfl, by simp, ?_, Nat.zero_le _⟩
      · unfold jE
        simp only [l, ew]
      · unfold lpB
        have ta : oAdd (.tup pa) (.tup [.int (s : Nat)]) (h ++ g) = .v (.tup (pa ++ [.int (s : Nat)])) (h ++ g) := if_pos (by simp; omega)
        have ag : eCons (eLoc 4) (eCons (eBin oAdd (eLoc 1) (eTup (eCons (eLoc 3) eNil))) eNil) (σP (.ref n) pa (some (.ref P)) (some (.int (s : Nat))) (some ws[s])) (h ++ g) = .vs [ws[s], .tup (pa ++ [.int (s : Nat)])] (h ++ g) := by
          simp only [eCons_ap, eBin_ap, eTup_ap, eLoc_ap, eNil_ap, List.getElem?_cons_zero, List.getElem?_cons_succ, locO_s, vb_v, vsb_vs, List.length_cons, List.length_nil]
          rw [if_pos (by omega)]
          simp only [vb_v, ta, vsb_vs]
        rw [eAsg_ap, eBin_ap, show eLoc 2 (σP (.ref n) pa (some (.ref P)) (some (.int (s : Nat))) (some ws[s])) (h ++ g) = .v (.ref P) (h ++ g) from rfl, vb_v, eCall_ap, ag, vsb_vs]
        show Out.vb (Out.vb (Out.cb _ (run (d + m) 39 [ws[s], .tup (pa ++ [.int (s : Nat)])] (h ++ g))) _) _ = _
        rw [r1, cb_v, vb_v, add]
        rfl
      · have e3 : cs.take (s + 1) = cs.take s ++ [T] := by rw [List.take_succ, eT]; rfl
        have l3 : (cs.take s).length = s := by rw [List.length_take, ← tl]; omega
        rw [e3, pathsK_app, l3]
        have : (h ++ (g ++ g2 ++ [IO.lst (.tup pa :: pathsK pa 0 (cs.take s) ++ pathsW (pa ++ [.int (s : Nat)]) T)]))[(h ++ g ++ g2).length]? = some (.lst (.tup pa :: pathsK pa 0 (cs.take s) ++ pathsW (pa ++ [.int (s : Nat)]) T)) := by
          rw [show h ++ (g ++ g2 ++ [IO.lst (.tup pa :: pathsK pa 0 (cs.take s) ++ pathsW (pa ++ [.int (s : Nat)]) T)]) = (h ++ g ++ g2) ++ [IO.lst (.tup pa :: pathsK pa 0 (cs.take s) ++ pathsW (pa ++ [.int (s : Nat)]) T)] by simp]
          simp
        rw [this]
        simp)
    (by
      rintro σ h' ⟨P, g, y3, y4, rfl, rfl, eP, _⟩
      have l : lstAt (h ++ g) c = some ws := by unfold lstAt; rw [get_app ec]
      unfold jE
      simp only [l]
      simp)
    nF 0 (σP (.ref n) pa (some (.ref h.length)) none none) (h ++ [.lst [.tup pa]]) (Nat.zero_le _) (by show _ < 100000; omega) ⟨h.length, [.lst [.tup pa]], none, none, rfl, rfl, by simp [pathsK], Nat.zero_le _⟩
  refine ⟨P, g, ?_, ?_⟩
  · rw [e0]
    unfold b39
    rw [eSeq_ap, s1, nb_nx, eSeq_ap]
    have fe := (eFor_it (g := gT [3, 4]) (b := lpB (d + m)) (n := nF) it).trans e1
    rw [fe]
    rfl
  · rw [eP, tl, List.take_length]
    rw [pathsW]
theorem lp_ok : ∀ m, m ≤ 4 → LpOk ks ms0 (d + m + 1) m
  | 0, _ => lp_step (d := d) (m := 0) (by omega) (fun z => absurd rfl z)
  | m + 1, hm => by
    have A := lp_ok m (by omega)
    have B : LpOk ks ms0 (d + (m + 1)) (m + 1 - 1) := by
      rw [show d + (m + 1) = d + m + 1 by omega, show m + 1 - 1 = m by omega]
      exact A
    exact lp_step (d := d) (m := m + 1) hm (fun _ => B)
end
end Dr.L
set_option maxHeartbeats 1000000
namespace Dr.L
open PySem L2 PyProof.Rows Dr
variable {t : Str} {i r d : Nat} {h : IH}
/-! ### trees that differ in the marks' order alone -/
mutual
def Tr.sim : Tr → Tr → Prop
  | .mk k ms cs, .mk k' ms' cs' => k = k' ∧ ms.Perm ms' ∧ sims cs cs'
def sims : List Tr → List Tr → Prop
  | [], [] => True
  | T :: Ts, T' :: Ts' => T.sim T' ∧ sims Ts Ts'
  | _, _ => False
end
theorem sims_len : ∀ (a b : List Tr), sims a b → a.length = b.length
  | [], [], _ => rfl
  | [], _ :: _, h => by simp [sims] at h
  | _ :: _, [], h => by simp [sims] at h
  | T :: a, T' :: b, h => by
    unfold sims at h
    simp [sims_len a b h.2]
theorem sims_app : ∀ (a b : List Tr) (T T' : Tr), sims a b → T.sim T' → sims (a ++ [T]) (b ++ [T'])
  | [], [], T, T', _, hT => by
    show sims [T] [T']
    unfold sims sims
    exact ⟨hT, trivial⟩
  | [], _ :: _, _, _, h, _ => by simp [sims] at h
  | _ :: _, [], _, _, h, _ => by simp [sims] at h
  | A :: a, B :: b, T, T', h, hT => by
    unfold sims at h
    show sims (A :: (a ++ [T])) (B :: (b ++ [T']))
    unfold sims
    exact ⟨h.1, sims_app a b T T' h.2 hT⟩
def txUS (T : Tr) : Str := ⟨(txU T).toArray⟩
theorem txUS_cps (T : Tr) : (txUS T).cps.toList = txU T := by simp [txUS]
theorem jnU_kids : ∀ (T : Tr) (Ts : List Tr), jnL [44] ((T :: Ts).map txU) ++ [41] = txU T ++ txUK Ts
  | T, [] => by simp [jnL, txUK]
  | T, T' :: Ts => by
    have := jnU_kids T' Ts
    simp only [List.map_cons, jnL, txUK] at this ⊢
    rw [List.append_assoc, this]
    simp
theorem mkU_app (a : List Str) (m : Str) : mkU (a ++ [m]) = mkU a ++ 46 :: m.cps.toList := by simp [mkU]
section
variable {ks ms0 : List Str} {p : Nat}
abbrev σX (p : Nat) (w : W) (y2 y3 y4 y5 y6 : Option W) : Sg := [some (.ref p), some w, y2, y3, y4, y5, y6]
abbrev mxB (d : Nat) : Ev := eAsg (gN 3) (eBin oAdd (eBin oAdd (eLoc 3) (eK (.str "."))) (eBM "list" mPop (eLoc 2) (eCons (eCall (run d 36) [] (eCons (eLoc 0) (eCons (eBlt bLen (eCons (eLoc 2) eNil)) eNil))) eNil)))
theorem seqIx {r n : Nat} (hr : r < n) : seqIndex? (r : Int) n = some r := by
  unfold seqIndex?
  simp only [show ¬ ((r : Int) < 0) by omega, if_false]
  rw [if_pos (by simp; omega)]
  simp
theorem erase_map {α β : Type} (f : α → β) (l : List α) (j : Nat) : (l.map f).eraseIdx j = (l.eraseIdx j).map f := by
  simp [List.eraseIdx_eq_take_drop_succ, List.map_take, List.map_drop]
/-- one mark more -/
theorem mxB_ok {w : W} {D : Nat} {k : Str} {pk rem : List Str} {y4 y5 y6 : Option W} {a b : Int} (hp : Pool h p a b) (hD : h[D]? = some (.lst (rem.map W.str))) (hDp : D ≠ p) (hr : 0 < rem.length) (hl : rem.length < 100) (hm : ∀ m ∈ rem, m.length ≤ 8) (hc : (mkU pk).length ≤ 1000) (hk : k.length ≤ 8) :
    ∃ m j h', j < rem.length ∧ rem[j]? = some m ∧ Pl p h h' ∧ mxB (d + 1) (σX p w (some (.ref D)) (some (.str ⟨(hdU k pk).toArray⟩)) y4 y5 y6) h = .nx (σX p w (some (.ref D)) (some (.str ⟨(hdU k (pk ++ [m])).toArray⟩)) y4 y5 y6) (h'.set D (.lst ((rem.eraseIdx j).map W.str))) ∧ h'[D]? = some (.lst (rem.map W.str)) := by
  obtain ⟨j, h1, j1, P1, l1, e1⟩ := tk_pl (d := d) (m := rem.length) hp hr (by omega)
  have hD1 : h1[D]? = some (.lst (rem.map W.str)) := by rw [P1.ag D (lt_of hD) hDp]; exact hD
  have em : rem[j]? = some rem[j] := List.getElem?_eq_getElem j1
  have hm8 := hm rem[j] (List.getElem_mem j1)
  refine ⟨rem[j], j, h1, j1, em, P1, ?_, hD1⟩
  have bl : bLen [.ref D] h = .v (.int rem.length) h := by
    show (match lstAt h D with | some ls => Out.v (.int (ls.length : Nat)) h | none => .no) = _
    unfold lstAt; rw [hD]; simp
  have pp : mPop (.ref D) [.int (j : Nat)] h1 = .v (.str rem[j]) (h1.set D (.lst ((rem.eraseIdx j).map W.str))) := by
    simp only [mPop, hD1]
    rw [if_pos (by constructor <;> omega), List.length_map, seqIx j1]
    simp only [List.getElem?_map, em, Option.map_some]
    rw [erase_map]
  have d1 : (⟨(hdU k pk).toArray⟩ : Str).length ≤ 1008 := by
    have : (⟨(hdU k pk).toArray⟩ : Str).length = (hdU k pk).length := by simp [Str.length]
    rw [this]
    simp only [hdU, List.length_append, len_cps]; omega
  have dd : (("." : Str)).length = 1 := rfl
  have e2 : appS (appS ⟨(hdU k pk).toArray⟩ ".") rem[j] = ⟨(hdU k (pk ++ [rem[j]])).toArray⟩ := by
    refine str_ext ?_
    simp only [appS, hdU, mkU_app]
    rw [show (("." : Str)).cps.toList = [46] from rfl]
    simp
  unfold mxB
  rw [eAsg_ap, eBin_ap, eBin_ap, show eLoc 3 (σX p w (some (.ref D)) (some (.str ⟨(hdU k pk).toArray⟩)) y4 y5 y6) h = .v (.str ⟨(hdU k pk).toArray⟩) h from rfl, vb_v, eK_ap, vb_v, oAdd_s (by omega), vb_v, eBM_ap, show eLoc 2 (σX p w (some (.ref D)) (some (.str ⟨(hdU k pk).toArray⟩)) y4 y5 y6) h = .v (.ref D) h from rfl, vb_v, if_pos (ty_list hD)]
  simp only [eCall_ap, eCons_ap, eNil_ap, eBlt_ap, eLoc_ap, List.getElem?_cons_zero, List.getElem?_cons_succ, locO_s, vb_v, vsb_vs, List.append_nil, bl, e1, cb_v, pp]
  rw [oAdd_s (by rw [appS_len]; omega), vb_v, e2]
  rfl
end
end Dr.L
set_option maxHeartbeats 1000000
namespace Dr.L
open PySem L2 PyProof.Rows Dr
variable {t : Str} {i r d : Nat} {h : IH}
section
variable {ks ms0 : List Str} {p : Nat}
theorem mkU_len {ms : List Str} (hm : ∀ m ∈ ms, m.length ≤ 8) : (mkU ms).length ≤ 9 * ms.length := flat_len hm
theorem erase_perm {α : Type} : ∀ (l : List α) (j : Nat) (x : α), l[j]? = some x → (x :: l.eraseIdx j).Perm l
  | [], j, x, e => by simp at e
  | a :: l, 0, x, e => by simp at e; subst e; exact List.Perm.refl _
  | a :: l, j + 1, x, e => (List.Perm.swap a x _).trans ((erase_perm l j x (by simpa using e)).cons a)
/-- the marks, in any order -/
theorem mxF_ok {n a c : Nat} {k : Str} {ms : List Str} {y5 y6 : Option W} {x b : Int} (hp : Pool h p x b) (en : h[n]? = some (.lst [.str k, .ref a, .ref c])) (ea : h[a]? = some (.lst (ms.map W.str))) (hnp : n ≠ p) (hap : a ≠ p) (hl : ms.length ≤ 3) (hm : ∀ m ∈ ms, m.length ≤ 8) (hk : k.length ≤ 8) :
    ∃ pk y4 h', pk.Perm ms ∧ Pl p h h' ∧ h.length < h'.length ∧ (eSeq (ePar 2 3 (eCons (eBlt bList (eCons (eBin oIx (eLoc 1) (eK (.int 1))) eNil)) (eCons (eBin oIx (eLoc 1) (eK (.int 0))) eNil))) (eFor nF (iR1 (eCons (eBlt bLen (eCons (eBin oIx (eLoc 1) (eK (.int 1))) eNil)) eNil)) (gN 4) (mxB (d + 1)))) (σX p (.ref n) none none none y5 y6) h = .nx (σX p (.ref n) (some (.ref h.length)) (some (.str ⟨(hdU k pk).toArray⟩)) y4 y5 y6) h' := by
  have pl := lt_of hp.at_
  have nl := lt_of en
  have al := lt_of ea
  have ix1 : ∀ g : IH, g[n]? = some (.lst [.str k, .ref a, .ref c]) → oIx (.ref n) (.int 1) g = .v (.ref a) g := fun g e => by simp only [oIx, e]; rfl
  have ix0 : ∀ g : IH, g[n]? = some (.lst [.str k, .ref a, .ref c]) → oIx (.ref n) (.int 0) g = .v (.str k) g := fun g e => by simp only [oIx, e]; rfl
  have bl : bList [.ref a] h = .v (.ref h.length) (h ++ [.lst (ms.map W.str)]) := by
    show (match lstAt h a with | some ls => Out.v (.ref h.length) (h ++ [IO.lst ls]) | none => .no) = _
    unfold lstAt; rw [ea]
  have hk0 : k = ⟨(hdU k []).toArray⟩ := str_ext (by simp [hdU, mkU])
  have s1 : ePar 2 3 (eCons (eBlt bList (eCons (eBin oIx (eLoc 1) (eK (.int 1))) eNil)) (eCons (eBin oIx (eLoc 1) (eK (.int 0))) eNil)) (σX p (.ref n) none none none y5 y6) h = .nx (σX p (.ref n) (some (.ref h.length)) (some (.str k)) none y5 y6) (h ++ [.lst (ms.map W.str)]) := by
    simp only [ePar_ap, eCons_ap, eNil_ap, eBin_ap, eBlt_ap, eLoc_ap, eK_ap, List.getElem?_cons_zero, List.getElem?_cons_succ, locO_s, vb_v, vsb_vs, ix1 h en, bl, ix0 _ (get_app en), List.set_cons_succ, List.set_cons_zero]
  have er : eCons (eBlt bLen (eCons (eBin oIx (eLoc 1) (eK (.int 1))) eNil)) eNil (σX p (.ref n) (some (.ref h.length)) (some (.str k)) none y5 y6) (h ++ [.lst (ms.map W.str)]) = .vs [.int ms.length] (h ++ [.lst (ms.map W.str)]) := by
    have bl2 : bLen [.ref a] (h ++ [.lst (ms.map W.str)]) = .v (.int ms.length) (h ++ [.lst (ms.map W.str)]) := by
      show (match lstAt (h ++ [IO.lst (ms.map W.str)]) a with | some ls => Out.v (.int (ls.length : Nat)) (h ++ [IO.lst (ms.map W.str)]) | none => .no) = _
      unfold lstAt; rw [get_app ea]; simp
    simp only [eCons_ap, eNil_ap, eBin_ap, eBlt_ap, eLoc_ap, eK_ap, List.getElem?_cons_zero, List.getElem?_cons_succ, locO_s, vb_v, vsb_vs, ix1 _ (get_app en), bl2]
  have L := forI (J := jR 0 ms.length) (g := gN 4) (b := mxB (d + 1)) (n := ms.length) (fun s σ h' => ∃ pk rem y4, σ = σX p (.ref n) (some (.ref h.length)) (some (.str ⟨(hdU k pk).toArray⟩)) y4 y5 y6 ∧ Pl p h h' ∧ h'[h.length]? = some (.lst (rem.map W.str)) ∧ pk.length = s ∧ (pk ++ rem).Perm ms)
    (by
      rintro s σ h' hs ⟨pk, rem, y4, rfl, P1, eD, hpk, pm⟩
      obtain ⟨⟨x1, b1, q1⟩, l, ag⟩ := P1
      have lens := pm.length_eq
      rw [List.length_append] at lens
      have hall : ∀ m ∈ pk ++ rem, m.length ≤ 8 := fun m hx => hm m (pm.mem_iff.mp hx)
      have hmk := mkU_len (ms := pk) (fun m hx => hall m (List.mem_append_left _ hx))
      obtain ⟨m, j, h1, j1, ej, P2, e1, eD1⟩ := mxB_ok (d := d) (w := .ref n) (k := k) (pk := pk) (y4 := some (.int (0 + (s : Nat)))) (y5 := y5) (y6 := y6) q1 eD (by omega) (by omega) (by omega) (fun m hx => hall m (List.mem_append_right _ hx)) (by omega) hk
      have l' := P2.len
      have dl := lt_of eD1
      refine ⟨.int (0 + (s : Nat)), σX p (.ref n) (some (.ref h.length)) (some (.str ⟨(hdU k pk).toArray⟩)) (some (.int (0 + (s : Nat)))) y5 y6, _, _, ?_, rfl, e1, pk ++ [m], rem.eraseIdx j, some (.int (0 + (s : Nat))), rfl, ?_, get_set eD1, by simp [hpk], ?_⟩
      · unfold jR; rw [if_pos hs]
      · obtain ⟨⟨x2, b2, q2⟩, l2, ag2⟩ := P2
        refine ⟨⟨x2, b2, ?_, q2.ha, q2.hb, q2.hb2⟩, by simp; omega, fun z hz hne => ?_⟩
        · rw [List.getElem?_set_ne (by omega)]; exact q2.at_
        · rw [List.getElem?_set_ne (by omega), ag2 z (by omega) hne, ag z hz hne]
      · have ge : rem[j] = m := by
          have := List.getElem?_eq_getElem j1
          rw [ej] at this
          exact (Option.some.inj this).symm
        have pe := erase_perm rem j m ej
        refine List.Perm.trans ?_ pm
        rw [List.append_assoc]
        exact List.Perm.append_left pk pe)
    (by
      rintro σ h' _
      unfold jR
      rw [if_neg (by omega)])
    nF 0 (σX p (.ref n) (some (.ref h.length)) (some (.str k)) none y5 y6) (h ++ [.lst (ms.map W.str)]) (Nat.zero_le _) (by show _ < 100000; omega) ⟨[], ms, none, by rw [← hk0], (Pl.refl hp).app, by simp, rfl, by simp⟩
  obtain ⟨s, h', e2, pk, rem, y4, rfl, P1, eD, hpk, pm⟩ := L
  have lens := pm.length_eq
  rw [List.length_append] at lens
  have hrem : rem = [] := by cases rem with | nil => rfl | cons => simp at lens; omega
  subst hrem
  refine ⟨pk, y4, h', by simpa using pm, P1, lt_of eD, ?_⟩
  rw [eSeq_ap, s1, nb_nx, eFor_it (it_R1 (q := ms.length) (by omega) er)]
  exact e2
/-! lengths -/
theorem hd_sim {k : Str} {ms ms' : List Str} (hp : ms.Perm ms') : (hdU k ms).length = (hdL k ms').length := by
  unfold hdU hdL mkU
  rw [List.length_append, List.length_append]
  have := (List.Perm.flatMap_right (fun m : Str => 46 :: m.cps.toList) (hp.trans (sortS_perm ms').symm)).length_eq
  omega
mutual
theorem sim_len : ∀ (M T : Tr), M.sim T → (txU M).length = (txL T).length
  | .mk k ms [], .mk k' ms' [], e => by
    unfold Tr.sim at e
    obtain ⟨rfl, e2, _⟩ := e
    rw [txU, txL]; exact hd_sim e2
  | .mk k ms (M :: Ms), .mk k' ms' (T :: Ts), e => by
    unfold Tr.sim sims at e
    obtain ⟨rfl, e2, e3, e4⟩ := e
    have := sim_len M T e3
    have := sims_lenK Ms Ts e4
    have := hd_sim (k := k) e2
    rw [txU, txL]
    simp only [List.length_append, List.length_cons]; omega
  | .mk k ms [], .mk k' ms' (T :: Ts), e => by unfold Tr.sim at e; simp [sims] at e
  | .mk k ms (M :: Ms), .mk k' ms' [], e => by unfold Tr.sim at e; simp [sims] at e
theorem sims_lenK : ∀ (Ms Ts : List Tr), sims Ms Ts → (txUK Ms).length = (txK Ts).length
  | [], [], _ => by rw [txUK, txK]
  | M :: Ms, T :: Ts, e => by
    unfold sims at e
    have := sim_len M T e.1
    have := sims_lenK Ms Ts e.2
    rw [txUK, txK]
    simp only [List.length_append, List.length_cons]; omega
  | [], _ :: _, e => by simp [sims] at e
  | _ :: _, [], e => by simp [sims] at e
end
theorem sims_get : ∀ {Ms Ts : List Tr} {i : Nat} {M : Tr}, sims Ms Ts → Ms[i]? = some M → ∃ T, Ts[i]? = some T ∧ M.sim T
  | [], [], i, M, _, e => by simp at e
  | [], _ :: _, i, M, h, _ => by simp [sims] at h
  | _ :: _, [], i, M, h, _ => by simp [sims] at h
  | A :: Ms, B :: Ts, 0, M, h, e => by unfold sims at h; simp at e; subst e; exact ⟨B, rfl, h.1⟩
  | A :: Ms, B :: Ts, i + 1, M, h, e => by unfold sims at h; simpa using sims_get h.2 (by simpa using e)
theorem txUS_len (M : Tr) : (txUS M).length = (txU M).length := by rw [← len_cps, txUS_cps]
end
end Dr.L
set_option maxHeartbeats 1000000
namespace Dr.L
open PySem L2 PyProof.Rows Dr
variable {t : Str} {i r d : Nat} {h : IH}
section
variable {ks ms0 : List Str} {p : Nat}
def MxOk (ks ms0 : List Str) (p d m : Nat) : Prop := ∀ (T : Tr) (h : IH) (w : W) (lo hi : Nat) (x b : Int), LIn h lo hi w T → hi ≤ h.length → T.dr ks ms0 m → Pool h p x b → p < lo → ∃ M h', run d 41 [.ref p, w] h = .v (.str (txUS M)) h' ∧ Pl p h h' ∧ M.sim T
theorem LIn.pl {h h' : IH} {lo hi : Nat} {w : W} {T : Tr} (tr : LIn h lo hi w T) (P : Pl p h h') (hh : hi ≤ h.length) (hp : p < lo) : LIn h' lo hi w T :=
  tr.mono (fun a h1 h2 => P.ag a (by omega) (by omega)) (Nat.le_refl _) (Nat.le_refl _)
theorem LsIn.pl {h h' : IH} {lo hi : Nat} {ws : List W} {Ts : List Tr} (tr : LsIn h lo hi ws Ts) (P : Pl p h h') (hh : hi ≤ h.length) (hp : p < lo) : LsIn h' lo hi ws Ts :=
  tr.mono (fun a h1 h2 => P.ag a (by omega) (by omega)) (Nat.le_refl _) (Nat.le_refl _)
abbrev mxC (d : Nat) : Ev := eLc nF (iL (eBin oIx (eLoc 1) (eK (.int 2)))) [6] (gN 6) eYes (eCall (run d 41) [] (eCons (eLoc 0) (eCons (eLoc 6) eNil)))
theorem mxC_ok {n a c m d : Nat} {k : Str} {cs : List Tr} {ws : List W} {lo hi : Nat} {y2 y3 y4 y5 y6 : Option W} {x b : Int} {h : IH} (A : cs ≠ [] → MxOk ks ms0 p d m) (hp : Pool h p x b) (hn : h[n]? = some (.lst [.str k, .ref a, .ref c])) (hc : h[c]? = some (.lst ws)) (hcp : c ≠ p) (tr : LsIn h lo hi ws cs) (hh : hi ≤ h.length) (hlo : p < lo) (hd : drs ks ms0 cs m) (h3 : cs.length ≤ 3) :
    ∃ Ms h', mxC d (σX p (.ref n) y2 y3 y4 y5 y6) h = .v (.ref h.length) h' ∧ Pl p h h' ∧ h'[h.length]? = some (.lst ((Ms.map txUS).map W.str)) ∧ sims Ms cs := by
  have pl := lt_of hp.at_
  have cl := lt_of hc
  have tl := tr.len
  have e1 : eBin oIx (eLoc 1) (eK (.int 2)) (σX p (.ref n) y2 y3 y4 y5 y6) h = .v (.ref c) h := by
    have : oIx (.ref n) (.int 2) h = .v (.ref c) h := by simp only [oIx, hn]; rfl
    simp only [eBin_ap, eLoc_ap, eK_ap, List.getElem?_cons_zero, List.getElem?_cons_succ, locO_s, vb_v, this]
  have L := lcG (J := jL c) (g := gN 6) (t := eYes) (e := eCall (run d 41) [] (eCons (eLoc 0) (eCons (eLoc 6) eNil))) (D := h.length) (σ0 := wipeW (σX p (.ref n) y2 y3 y4 y5 y6) [6]) (n := ws.length)
    (fun s h' => Pl p h h' ∧ h.length < h'.length ∧ ∃ Ms, h'[h.length]? = some (.lst ((Ms.map txUS).map W.str)) ∧ sims Ms (cs.take s))
    (by
      rintro s h' hs ⟨P1, hlt, Ms, e2, e3⟩
      obtain ⟨⟨x1, b1, q1⟩, l, ag⟩ := id P1
      have ew : ws[s]? = some ws[s] := List.getElem?_eq_getElem hs
      obtain ⟨T, eT, tT⟩ := tr.get ew
      have ls := sims_len _ _ e3
      rw [List.length_take] at ls
      obtain ⟨M, h1, r1, P2, r3⟩ := A (fun z => by rw [z] at eT; simp at eT) T h' ws[s] lo hi x1 b1 (tT.pl P1 hh hlo) (by omega) (drs_get hd eT) q1 hlo
      have e2' : h1[h.length]? = some (.lst ((Ms.map txUS).map W.str)) := by rw [P2.ag _ hlt (by omega)]; exact e2
      refine ⟨ws[s], (wipeW (σX p (.ref n) y2 y3 y4 y5 y6) [6]).set 6 (some ws[s]), true, h', ?_, rfl, rfl, (fun z => by cases z), fun _ => ⟨.str (txUS M), h1, (Ms.map txUS).map W.str, ?_, e2', by simp; omega, ?_⟩⟩
      · have : lstAt h' c = some ws := by unfold lstAt; rw [ag c cl hcp, hc]
        unfold jL
        simp only [this, ew]
      · show eCall (run d 41) [] (eCons (eLoc 0) (eCons (eLoc 6) eNil)) [some (.ref p), some (.ref n), y2, y3, y4, y5, some ws[s]] h' = _
        simp only [eCall_ap, eCons_ap, eNil_ap, eLoc_ap, List.getElem?_cons_zero, List.getElem?_cons_succ, locO_s, vb_v, vsb_vs, List.append_nil, r1, cb_v]
      · obtain ⟨⟨x2, b2, q2⟩, l2, ag2⟩ := id P2
        refine ⟨⟨⟨x2, b2, ?_, q2.ha, q2.hb, q2.hb2⟩, by simp; omega, fun z hz hne => ?_⟩, by simp; omega, Ms ++ [M], ?_, ?_⟩
        · rw [List.getElem?_set_ne (by omega)]; exact q2.at_
        · rw [List.getElem?_set_ne (by omega), ag2 z (by omega) hne, ag z hz hne]
        · rw [get_set e2']; simp
        · rw [List.take_succ, eT]
          exact sims_app _ _ _ _ e3 r3)
    (by
      rintro h' ⟨P1, hlt, Ms, e2, e3⟩
      have : lstAt h' c = some ws := by unfold lstAt; rw [P1.ag c cl hcp, hc]
      unfold jL
      simp only [this]
      simp)
    nF 0 (h ++ [.lst []]) (Nat.zero_le _) (by show _ < 100000; omega) ⟨(Pl.refl hp).app, by simp, [], by simp, by simp [sims]⟩
  obtain ⟨h', e, P1, hlt, Ms, e2, e3⟩ := L
  rw [tl, List.take_length] at e3
  exact ⟨Ms, h', (eLc_it (it_L e1 hc)).trans e, P1, e2, e3⟩
theorem txU_in {k : Str} {ms : List Str} {T : Tr} {Ts : List Tr} : appS (appS (appS ⟨(hdU k ms).toArray⟩ "(") (Txt.join "," ((T :: Ts).map txUS))) ")" = txUS (.mk k ms (T :: Ts)) := by
  refine str_ext ?_
  have e1 : (Txt.join "," ((T :: Ts).map txUS)).cps.toList ++ [41] = txU T ++ txUK Ts := by
    rw [join_cps, ← jnU_kids]
    congr 2
    simp [txUS]
  rw [txUS_cps, txU]
  simp only [appS]
  rw [show (("(" : Str)).cps.toList = [40] from rfl, show ((")" : Str)).cps.toList = [41] from rfl]
  simp only [List.append_assoc]
  rw [e1]
  simp
theorem mx_step {m : Nat} (N : Nm ks ms0) (hm4 : m ≤ 4) (ih : m ≠ 0 → MxOk ks ms0 p (d + m + 1) (m - 1)) : MxOk ks ms0 p (d + m + 2) m := by
  intro T h w lo hi x b tr hh dr hp hlo
  have tr0 := tr
  cases tr with
  | mk n a c a1 a2 a3 a4 a5 a6 en ea ec trs =>
  rename_i k ms cs ws
  unfold Tr.dr at dr
  obtain ⟨d1, d2, d3, d4, d5⟩ := dr
  have e0 : run (d + m + 2) 41 [.ref p, .ref n] h = (b41 (run (d + m + 1)) nF (σX p (.ref n) none none none none none) h).fin := fn_run (d := d + m + 1) (b := b41) (n := 2) (N := 7) rfl rfl
  have m8 : ∀ x ∈ ms, x.length ≤ 8 := fun x hx => N.m1 x (d2.subset hx)
  have ml := d2.length_le
  have m3 := N.m3
  have k8 := N.k1 k d1
  obtain ⟨pk, y4, h1, pm, P1, hlt, s1⟩ := mxF_ok (d := d + m) (y5 := none) (y6 := none) hp en ea (by omega) (by omega) (by omega) m8 k8.2
  obtain ⟨⟨x1, b1, q1⟩, _, _⟩ := id P1
  have l1 := P1.len
  obtain ⟨Ms, h2, f2, P2, e2, sm⟩ := mxC_ok (d := d + m + 1) (m := m - 1) (y2 := some (.ref h.length)) (y3 := some (.str ⟨(hdU k pk).toArray⟩)) (y4 := y4) (y5 := none) (y6 := none) (fun hne => ih (fun z => hne (d4 z))) q1 (by rw [P1.ag n (by omega) (by omega)]; exact en) (by rw [P1.ag c (by omega) (by omega)]; exact ec) (by omega) (trs.pl P1 hh hlo) (by omega) hlo d5 d3
  have ls := sims_len _ _ sm
  have hsum : ((Ms.map txUS).map (·.length)).sum + (Ms.map txUS).length * (("," : Str)).length ≤ 20000 := by
    have e0 : (("," : Str)).length = 1 := rfl
    have := sum_le (fun x : Str => x.length) 6000 (Ms.map txUS) (fun x hx => by
      obtain ⟨M, hM, rfl⟩ := List.mem_map.mp hx
      obtain ⟨i, hi, e⟩ := List.mem_iff_getElem.mp hM
      obtain ⟨T, eT, sT⟩ := sims_get sm (by rw [List.getElem?_eq_getElem hi, e])
      have := (txL_len N T (m - 1) (drs_get d5 eT)).1
      have := LB_le (m - 1) (by omega)
      have := sim_len M T sT
      rw [txUS_len]; omega)
    rw [List.length_map] at this ⊢
    rw [e0]
    omega
  have j2 := join_of (z := ",") f2 e2 (by omega)
  have s2 : eAsg (gN 5) (eBM "str" mJoin (eK (.str ",")) (eCons (mxC (d + m + 1)) eNil)) (σX p (.ref n) (some (.ref h.length)) (some (.str ⟨(hdU k pk).toArray⟩)) y4 none none) h1 = .nx (σX p (.ref n) (some (.ref h.length)) (some (.str ⟨(hdU k pk).toArray⟩)) y4 (some (.str (Txt.join "," (Ms.map txUS)))) none) h2 := by
    rw [eAsg_ap, j2, vb_v]; rfl
  refine ⟨.mk k pk Ms, h2, ?_, P1.trans P2, by unfold Tr.sim; exact ⟨rfl, pm, sm⟩⟩
  rw [e0]
  unfold b41
  rw [eSeq_ap] at s1 ⊢
  generalize hE : ePar 2 3 (eCons (eBlt bList (eCons (eBin oIx (eLoc 1) (eK (.int 1))) eNil)) (eCons (eBin oIx (eLoc 1) (eK (.int 0))) eNil)) (σX p (.ref n) none none none none none) h = E0 at s1 ⊢
  cases E0 with
  | nx σ1 g1 =>
    rw [nb_nx] at s1 ⊢
    rw [eSeq_ap, s1, nb_nx, eSeq_ap, s2, nb_nx]
    have hdl : (⟨(hdU k pk).toArray⟩ : Str).length ≤ 35 := by
      have e3 : (⟨(hdU k pk).toArray⟩ : Str).length = (hdU k pk).length := by simp [Str.length]
      have := mkU_len (ms := pk) (fun m hx => m8 m (pm.mem_iff.mp hx))
      have := pm.length_eq
      rw [e3]
      simp only [hdU, List.length_append, len_cps]; omega
    cases Ms with
    | nil =>
      rw [show txUS (.mk k pk []) = ⟨(hdU k pk).toArray⟩ from str_ext (by rw [txUS_cps, txU])]
      rfl
    | cons M Ms =>
      have jl3 : (Txt.join "," ((M :: Ms).map txUS)).length ≤ 20000 := by
        have e1 : Txt.join "," ((M :: Ms).map txUS) = Str.join "," ((M :: Ms).map txUS) := StrLaws.glued_eq_join "," _
        have := StrLaws.join_length_le "," ((M :: Ms).map txUS)
        rw [e1]; omega
      have e1 : (("(" : Str)).length = 1 := rfl
      have e2' : ((")" : Str)).length = 1 := rfl
      have ne : oNe (.str (Txt.join "," ((M :: Ms).map txUS))) (.str "") h2 = .v (.bl true) h2 := by
        have : eqS (Txt.join "," ((M :: Ms).map txUS)) "" = false := by
          rw [eqS_eq]
          refine decide_eq_false fun z => ?_
          have z2 : (Txt.join "," ((M :: Ms).map txUS)).cps.toList = (("" : Str)).cps.toList := by rw [z]
          rw [join_cps, show (("" : Str)).cps.toList = [] from rfl] at z2
          have h0 : 0 < (txU M).length := by
            cases cs with
            | nil => simp [sims] at sm
            | cons T Ts =>
              unfold sims at sm
              unfold drs at d5
              rw [sim_len M T sm.1]
              exact (txL_len N T (m - 1) d5.1).2
          cases Ms with
          | nil => simp only [List.map_cons, List.map_nil, jnL, txUS_cps] at z2; rw [z2] at h0; simp at h0
          | cons T2 Ts =>
            simp only [List.map_cons, jnL, txUS_cps] at z2
            rw [List.append_assoc] at z2
            rw [(List.append_eq_nil_iff.mp z2).1] at h0
            simp at h0
        simp only [oNe, eqD, this]; rfl
      rw [eRet_ap, eIf_ap]
      simp only [eBin_ap, eLoc_ap, eK_ap, List.getElem?_cons_zero, List.getElem?_cons_succ, locO_s, vb_v, ne]
      rw [oAdd_s (by omega), vb_v, oAdd_s (by rw [appS_len]; omega), vb_v, oAdd_s (by rw [appS_len, appS_len]; omega), vb_v, fin_rt, txU_in]
  | v _ _ => exact absurd s1 (by simp [Out.nb])
  | vs _ _ => exact absurd s1 (by simp [Out.nb])
  | rt _ _ => exact absurd s1 (by simp [Out.nb])
  | bk _ _ => exact absurd s1 (by simp [Out.nb])
  | ct _ _ => exact absurd s1 (by simp [Out.nb])
  | ex _ _ _ _ => exact absurd s1 (by simp [Out.nb])
  | no => exact absurd s1 (by simp [Out.nb])
theorem mx_ok (N : Nm ks ms0) : ∀ m, m ≤ 4 → MxOk ks ms0 p (d + m + 2) m
  | 0, _ => mx_step (d := d) (m := 0) N (by omega) (fun z => absurd rfl z)
  | m + 1, hm => by
    have A := mx_ok N m (by omega)
    have B : MxOk ks ms0 p (d + (m + 1) + 1) (m + 1 - 1) := by
      rw [show d + (m + 1) + 1 = d + m + 2 by omega, show m + 1 - 1 = m by omega]
      exact A
    exact mx_step (d := d) (m := m + 1) N hm (fun _ => B)
end
end Dr.L
set_option maxHeartbeats 1000000
namespace Dr.L
open PySem L2 PyProof.Rows Dr
variable {t : Str} {i r d : Nat} {h : IH}
section
variable {ks ms0 : List Str}
structure NmX (ks ms0 : List Str) : Prop extends NmL ks ms0 where
  mpos : ∀ m ∈ ms0, 0 < m.length
  nd : ms0.Nodup
theorem sort_sim {ms ms' : List Str} (hp : ms.Perm ms') : sortS ms = sortS ms' := same_of ((sortS_perm ms).trans (hp.trans (sortS_perm ms').symm)) (sortS_pw ms) (sortS_pw ms')
mutual
theorem sim_size : ∀ (M T : Tr), M.sim T → M.size = T.size
  | .mk k ms cs, .mk k' ms' cs', e => by
    unfold Tr.sim at e
    rw [Tr.size, Tr.size, sims_size cs cs' e.2.2]
theorem sims_size : ∀ (Ms Ts : List Tr), sims Ms Ts → sizes Ms = sizes Ts
  | [], [], _ => rfl
  | M :: Ms, T :: Ts, e => by
    unfold sims at e
    rw [sizes, sizes, sim_size M T e.1, sims_size Ms Ts e.2]
  | [], _ :: _, e => by simp [sims] at e
  | _ :: _, [], e => by simp [sims] at e
end
mutual
theorem sim_paths : ∀ (M T : Tr) (pa : List W), M.sim T → pathsW pa M = pathsW pa T
  | .mk k ms cs, .mk k' ms' cs', pa, e => by
    unfold Tr.sim at e
    rw [pathsW, pathsW, sims_paths cs cs' pa 0 e.2.2]
theorem sims_paths : ∀ (Ms Ts : List Tr) (pa : List W) (i : Nat), sims Ms Ts → pathsK pa i Ms = pathsK pa i Ts
  | [], [], _, _, _ => rfl
  | M :: Ms, T :: Ts, pa, i, e => by
    unfold sims at e
    rw [pathsK, pathsK, sim_paths M T _ e.1, sims_paths Ms Ts pa (i + 1) e.2]
  | [], _ :: _, _, _, e => by simp [sims] at e
  | _ :: _, [], _, _, e => by simp [sims] at e
end
theorem hdL_sim {k : Str} {ms ms' : List Str} (hp : ms.Perm ms') : hdL k ms = hdL k ms' := by unfold hdL; rw [sort_sim hp]
mutual
theorem sim_txL : ∀ (M T : Tr), M.sim T → txL M = txL T
  | .mk k ms [], .mk k' ms' [], e => by
    unfold Tr.sim at e
    obtain ⟨rfl, e2, _⟩ := e
    rw [txL, txL, hdL_sim e2]
  | .mk k ms (M :: Ms), .mk k' ms' (T :: Ts), e => by
    unfold Tr.sim sims at e
    obtain ⟨rfl, e2, e3, e4⟩ := e
    rw [txL, txL, hdL_sim e2, sim_txL M T e3, sims_txK Ms Ts e4]
  | .mk k ms [], .mk k' ms' (T :: Ts), e => by unfold Tr.sim at e; simp [sims] at e
  | .mk k ms (M :: Ms), .mk k' ms' [], e => by unfold Tr.sim at e; simp [sims] at e
theorem sims_txK : ∀ (Ms Ts : List Tr), sims Ms Ts → txK Ms = txK Ts
  | [], [], _ => rfl
  | M :: Ms, T :: Ts, e => by
    unfold sims at e
    rw [txK, txK, sim_txL M T e.1, sims_txK Ms Ts e.2]
  | [], _ :: _, e => by simp [sims] at e
  | _ :: _, [], e => by simp [sims] at e
end
theorem sim_txS {M T : Tr} (e : M.sim T) : txS M = txS T := by unfold txS; rw [sim_txL M T e]
mutual
theorem sim_vd (N : NmX ks ms0) : ∀ (M T : Tr) (m : Nat), M.sim T → T.dr ks ms0 m → M.vd m
  | .mk k ms cs, .mk k' ms' cs', m, e, dr => by
    unfold Tr.sim at e
    unfold Tr.dr at dr
    obtain ⟨rfl, e2, e3⟩ := e
    obtain ⟨d1, d2, d3, d4, d5⟩ := dr
    unfold Tr.vd
    refine ⟨⟨N.kl k d1, N.k1 k d1⟩, fun x hx => ?_, e2.nodup_iff.mpr (N.nd.sublist d2), fun z => ?_, sims_vd N cs cs' (m - 1) e3 d5⟩
    · have hx' := d2.subset (e2.mem_iff.mp hx)
      exact ⟨N.ml x hx', N.mpos x hx', N.m1 x hx'⟩
    · have := sims_len _ _ e3
      rw [d4 z] at this
      exact List.length_eq_zero_iff.mp this
theorem sims_vd (N : NmX ks ms0) : ∀ (Ms Ts : List Tr) (m : Nat), sims Ms Ts → drs ks ms0 Ts m → vds Ms m
  | [], [], m, _, _ => by unfold vds; trivial
  | M :: Ms, T :: Ts, m, e, dr => by
    unfold sims at e
    unfold drs at dr
    unfold vds
    exact ⟨sim_vd N M T m e.1 dr.1, sims_vd N Ms Ts m e.2 dr.2⟩
  | [], _ :: _, _, e, _ => by simp [sims] at e
  | _ :: _, [], _, e, _ => by simp [sims] at e
end
/-! what is known of the signs -/
theorem hdU_perm {k : Str} {ms ms' : List Str} (hp : ms.Perm ms') : (hdU k ms).Perm (hdL k ms') := by
  unfold hdU hdL mkU
  exact List.Perm.append_left _ (List.Perm.flatMap_right (fun m : Str => 46 :: m.cps.toList) (hp.trans (sortS_perm ms').symm))
theorem txUK_hd : ∀ Ts : List Tr, ∃ s r, txUK Ts = s :: r ∧ sep s = true
  | [] => ⟨41, [], by rw [txUK], rfl⟩
  | T :: Ts => ⟨44, _, by rw [txUK], rfl⟩
theorem hdU_rn {k : Str} {ms ms' : List Str} (N : NmL ks ms0) (hk : k ∈ ks) (hm : ms'.Sublist ms0) (hp : ms.Perm ms') : Rn ms0.length (hdU k ms) := Rn.count (by
  rw [(hdU_perm hp).count_eq]
  unfold hdL
  have h1 := lt_count (N.kl k hk) (x := 46) (by decide +kernel)
  have h2 := flat_count (sortS ms') (fun m hx => N.ml m (hm.subset ((sortS_perm ms').mem_iff.mp hx)))
  have h3 := hm.length_le
  rw [sort_len] at h2
  rw [List.count_append]; omega)
mutual
theorem txU_perm : ∀ (M T : Tr), M.sim T → (txU M).Perm (txL T)
  | .mk k ms [], .mk k' ms' [], e => by
    unfold Tr.sim at e
    obtain ⟨rfl, e2, _⟩ := e
    rw [txU, txL]; exact hdU_perm e2
  | .mk k ms (M :: Ms), .mk k' ms' (T :: Ts), e => by
    unfold Tr.sim sims at e
    obtain ⟨rfl, e2, e3, e4⟩ := e
    rw [txU, txL]
    exact (hdU_perm e2).append (((txU_perm M T e3).append (txUK_perm Ms Ts e4)).cons 40)
  | .mk k ms [], .mk k' ms' (T :: Ts), e => by unfold Tr.sim at e; simp [sims] at e
  | .mk k ms (M :: Ms), .mk k' ms' [], e => by unfold Tr.sim at e; simp [sims] at e
theorem txUK_perm : ∀ (Ms Ts : List Tr), sims Ms Ts → (txUK Ms).Perm (txK Ts)
  | [], [], _ => by rw [txUK, txK]
  | M :: Ms, T :: Ts, e => by
    unfold sims at e
    rw [txUK, txK]
    exact ((txU_perm M T e.1).append (txUK_perm Ms Ts e.2)).cons 44
  | [], _ :: _, e => by simp [sims] at e
  | _ :: _, [], e => by simp [sims] at e
end
mutual
theorem txU_rn (N : NmL ks ms0) : ∀ (M T : Tr) (m : Nat), M.sim T → T.dr ks ms0 m → Rn ms0.length (txU M)
  | .mk k ms [], .mk k' ms' [], m, e, dr => by
    unfold Tr.sim at e
    unfold Tr.dr at dr
    obtain ⟨rfl, e2, _⟩ := e
    rw [txU]; exact hdU_rn N dr.1 dr.2.1 e2
  | .mk k ms (M :: Ms), .mk k' ms' (T :: Ts), m, e, dr => by
    unfold Tr.sim sims at e
    unfold Tr.dr drs at dr
    obtain ⟨rfl, e2, e3, e4⟩ := e
    obtain ⟨d1, d2, d3, d4, d5, d6⟩ := dr
    rw [txU]
    refine Rn.sep rfl (hdU_rn N d1 d2 e2) (Rn.cons rfl ?_)
    obtain ⟨s, r, q, hs⟩ := txUK_hd Ms
    have := txUK_rn N Ms Ts (m - 1) e4 d6
    rw [q] at this ⊢
    exact Rn.sep hs (txU_rn N M T (m - 1) e3 d5) this
  | .mk k ms [], .mk k' ms' (T :: Ts), _, e, _ => by unfold Tr.sim at e; simp [sims] at e
  | .mk k ms (M :: Ms), .mk k' ms' [], _, e, _ => by unfold Tr.sim at e; simp [sims] at e
theorem txUK_rn (N : NmL ks ms0) : ∀ (Ms Ts : List Tr) (m : Nat), sims Ms Ts → drs ks ms0 Ts m → Rn ms0.length (txUK Ms)
  | [], [], m, _, _ => by rw [txUK]; exact Rn.cons rfl (fun i => by simp [dots])
  | M :: Ms, T :: Ts, m, e, dr => by
    unfold sims at e
    unfold drs at dr
    rw [txUK]
    obtain ⟨s, r, q, hs⟩ := txUK_hd Ms
    have := txUK_rn N Ms Ts m e.2 dr.2
    rw [q] at this ⊢
    exact Rn.cons rfl (Rn.sep hs (txU_rn N M T m e.1 dr.1) this)
  | [], _ :: _, _, e, _ => by simp [sims] at e
  | _ :: _, [], _, e, _ => by simp [sims] at e
end
theorem IB_le : ∀ m, m ≤ 4 → IB m ≤ 40 := by decide
/-- such a text is parsed -/
theorem parse_sim {M T : Tr} {m : Nat} (N : NmX ks ms0) (hm : m ≤ 4) (e : M.sim T) (dr : T.dr ks ms0 m) : ∃ h' w A D, run (d + 6) 14 [.str (txUS M)] h = .v (.ref D) h' ∧ h'[D]? = some (docO A w M) ∧ h'[A]? = some (IO.lst (pathsW [] M)) ∧ TreeIn h' h.length D w M ∧ M.ok ∧ M.size ≤ 200 ∧ h.length ≤ D ∧ h.length ≤ A ∧ (∀ a, a < h.length → h'[a]? = h[a]?) := by
  have p := prs_at (n := 60) (sim_vd N M T m e dr) (by omega)
  have dn := txL_dn N.toNmL T m dr
  have l := (txL_len N.toNm T m dr).1
  have lb := LB_le m hm
  have q := pd_ok (d := d) (h := h) (t := txUS M) (n := 60) (by rw [txUS_len, sim_len M T e]; omega) (few_of (fun j => by
      rw [txUS_cps]
      have := txU_rn N.toNmL M T m e dr j
      have := N.m3
      omega)) (by
    unfold pc
    rw [List.drop_zero, txUS_cps, (txU_perm M T e).count_eq]
    have := dn.c40
    have := IB_le m hm
    omega) (fun T' z => by
    rw [show prs (txUS M) 60 = some M from p] at z
    cases z
    have := sim_size M T e
    have := dr_size T m dr
    have := SB_le m hm
    omega)
  rw [show prs (txUS M) 60 = some M from p] at q
  exact q
/-! the tree with sorted marks -/
mutual
def Tr.srt : Tr → Tr
  | .mk k ms cs => .mk k (sortS ms) (srts cs)
def srts : List Tr → List Tr
  | [] => []
  | T :: Ts => T.srt :: srts Ts
end
mutual
theorem srt_sim : ∀ T : Tr, T.srt.sim T
  | .mk k ms cs => by unfold Tr.srt Tr.sim; exact ⟨rfl, sortS_perm ms, srts_sims cs⟩
theorem srts_sims : ∀ Ts : List Tr, sims (srts Ts) Ts
  | [] => by unfold srts sims; trivial
  | T :: Ts => by unfold srts sims; exact ⟨srt_sim T, srts_sims Ts⟩
end
mutual
theorem srt_txU : ∀ T : Tr, txU T.srt = txL T
  | .mk k ms [] => by rw [Tr.srt, srts, txU, txL]; rfl
  | .mk k ms (T :: Ts) => by rw [Tr.srt, srts, txU, txL, srt_txU T, srts_txUK Ts]; rfl
theorem srts_txUK : ∀ Ts : List Tr, txUK (srts Ts) = txK Ts
  | [] => by rw [srts, txUK, txK]
  | T :: Ts => by rw [srts, txUK, txK, srt_txU T, srts_txUK Ts]
end
theorem srt_txUS (T : Tr) : txUS T.srt = txS T := by unfold txUS txS; rw [srt_txU]
end
end Dr.L
set_option maxHeartbeats 1000000
namespace Dr.L
open PySem L2 PyProof.Rows Dr
variable {t : Str} {i r d : Nat} {h : IH}
/-! ### paths as rows of numbers -/
def wI (q : List Int) : W := .tup (q.map W.int)
def nI (q : List Nat) : List Int := q.map fun n : Nat => (n : Int)
def wp (q : List Nat) : W := wI (nI q)
mutual
def pathsN (q : List Nat) : Tr → List (List Nat)
  | .mk _ _ cs => q :: pathsNK q 0 cs
def pathsNK (q : List Nat) (i : Nat) : List Tr → List (List Nat)
  | [] => []
  | T :: Ts => pathsN (q ++ [i]) T ++ pathsNK q (i + 1) Ts
end
theorem nI_app (q : List Nat) (i : Nat) : (nI q).map W.int ++ [.int (i : Nat)] = (nI (q ++ [i])).map W.int := by simp [nI]
mutual
theorem pathsW_N : ∀ (T : Tr) (q : List Nat), pathsW ((nI q).map W.int) T = (pathsN q T).map wp
  | .mk k ms cs, q => by
    rw [pathsW, pathsN, List.map_cons, pathsK_N cs q 0]; rfl
theorem pathsK_N : ∀ (Ts : List Tr) (q : List Nat) (i : Nat), pathsK ((nI q).map W.int) i Ts = (pathsNK q i Ts).map wp
  | [], q, i => by rw [pathsK, pathsNK]; rfl
  | T :: Ts, q, i => by
    rw [pathsK, pathsNK, List.map_append, nI_app, pathsW_N T (q ++ [i]), pathsK_N Ts q (i + 1)]
end
theorem pathsW_0 (T : Tr) : pathsW [] T = (pathsN [] T).map wp := pathsW_N T []
/-! ### in a list of paths -/
def dI (q : List Int) : PyData := .tuple (q.map PyData.int)
theorem mapO_ints (n : Nat) : ∀ q : List Int, mapO (dat h (n + 1)) (q.map W.int) = some (q.map PyData.int)
  | [] => rfl
  | x :: q => by
    rw [List.map_cons, List.map_cons]
    unfold mapO
    rw [mapO_ints n q]
    rfl
theorem dat_I (n : Nat) (q : List Int) : dat h (n + 2) (wI q) = some (dI q) := by
  show (match mapO (dat h (n + 1)) (q.map W.int) with | some ds => some (PyData.tuple ds) | none => none) = _
  rw [mapO_ints]; rfl
theorem mapO_paths (n : Nat) : ∀ ps : List (List Nat), mapO (dat h (n + 2)) (ps.map wp) = some (ps.map fun q => dI (nI q))
  | [] => rfl
  | q :: ps => by
    rw [List.map_cons, List.map_cons]
    unfold mapO
    rw [mapO_paths n ps, wp, dat_I]
theorem shI : ∀ q : List Int, shFs (q.map PyData.int) = true ∧ PyData.depthAll (q.map PyData.int) = 0
  | [] => ⟨rfl, rfl⟩
  | x :: q => by
    obtain ⟨h1, h2⟩ := shI q
    simp [shFs, shF, PyData.depthAll, PyData.depth, h1, h2]
theorem shaped_I (q : List Int) : shaped' (dI q) = true := by
  obtain ⟨h1, h2⟩ := shI q
  unfold shaped' dI
  simp [shF, PyData.depth, h1, h2]
theorem shL : ∀ ps : List (List Nat), shFs (ps.map fun q => dI (nI q)) = true ∧ PyData.depthAll (ps.map fun q => dI (nI q)) ≤ 1
  | [] => ⟨rfl, by simp [PyData.depthAll]⟩
  | q :: ps => by
    obtain ⟨h1, h2⟩ := shL ps
    obtain ⟨h3, h4⟩ := shI (nI q)
    constructor
    · simp only [List.map_cons, shFs, dI, shF, h3, Bool.true_and]
      exact h1
    · simp only [List.map_cons, PyData.depthAll, dI, PyData.depth, h4]
      simp only [dI] at h2
      omega
theorem shaped_L (ps : List (List Nat)) : shaped' (.list (ps.map fun q => dI (nI q))) = true := by
  obtain ⟨h1, h2⟩ := shL ps
  show (shFs (ps.map fun q => dI (nI q)) && decide (PyData.depthAll (ps.map fun q => dI (nI q)) + 1 ≤ 64)) = true
  rw [h1, decide_eq_true (by omega)]; rfl
theorem eqFs_I : ∀ a b : List Int, eqFs (a.map PyData.int) (b.map PyData.int) = decide (a = b)
  | [], [] => rfl
  | [], _ :: _ => by simp [eqFs]
  | _ :: _, [] => by simp [eqFs]
  | x :: a, y :: b => by
    have e : eqF (.int x) (.int y) = decide (x = y) := by
      show PyData.eqv (.int x) (.int y) = _
      simp only [PyData.eqv]
      by_cases z : x = y
      · subst z; simp
      · simp [z]
    simp only [List.map_cons, eqFs, eqFs_I a b, e]
    by_cases z : x = y
    · subst z; simp
    · simp [z]
theorem eqF_I (a b : List Int) : eqF (dI a) (dI b) = decide (a = b) := by
  unfold dI
  rw [eqF]; exact eqFs_I a b
theorem any_I (z : List Int) : ∀ ps : List (List Nat), ((ps.map fun q => dI (nI q)).any fun y => eqF y (dI z)) = decide (z ∈ ps.map nI)
  | [] => by simp
  | q :: ps => by
    rw [List.map_cons, List.any_cons, any_I z ps, eqF_I]
    by_cases e : nI q = z
    · subst e; simp
    · have e' : z ≠ nI q := fun x => e x.symm
      simp [e, e']
theorem in_paths {A : Nat} {ps : List (List Nat)} {z : List Int} (hA : h[A]? = some (.lst (ps.map wp))) : oIn (wI z) (.ref A) h = .v (.bl (decide (z ∈ ps.map nI))) h := by
  have l : lstAt h A = some (ps.map wp) := by unfold lstAt; rw [hA]
  have e : isIn (wI z) (.ref A) h = some (decide (z ∈ ps.map nI)) := by
    show (match lstAt h A with | some ws => (match seqIn (wI z) ws with | some b => some b | none => inD (wI z) ws h) | none => none) = _
    rw [l]
    show inD (wI z) (ps.map wp) h = _
    unfold inD
    rw [show dat h 40 (wI z) = some (dI z) from dat_I 38 z, show mapO (dat h 39) (ps.map wp) = some (ps.map fun q => dI (nI q)) from mapO_paths 37 ps]
    simp only
    rw [if_pos ⟨shaped_I z, shaped_L ps⟩, any_I]
  unfold oIn
  rw [e]
/-! ### path in document -/
def sc : W → Bool
  | .non => true
  | .bl _ => true
  | .int _ => true
  | .str _ => true
  | _ => false
def isI : W → Bool
  | .int _ => true
  | _ => false
theorem isint_ok {w : W} (hs : sc w = true) : run (d + 1) 4 [w] h = .v (.bl (isI w)) h := by
  have e0 : run (d + 1) 4 [w] h = (b4 (run d) nF [some w] h).fin := fn_run (d := d) (b := b4) (n := 1) (N := 1) rfl rfl
  rw [e0]
  cases w <;> first | (cases hs; done) | rfl
/-- a comprehension over a tuple, nothing made but the list -/
theorem lcV {own : List Nat} {v : Nat} {it : EvI} {e : Ev} {σ : Sg} {h h1 : IH} {ws : List W} {f : W → W} (q : it σ h = .it (jT ws) h1) (hz : ws.length < 1000) (he : ∀ w ∈ ws, ∀ g, e ((wipeW σ own).set v (some w)) g = .v (f w) g) :
    eLc nF it own (gN v) eYes e σ h = .v (.ref h1.length) (h1 ++ [.lst (ws.map f)]) := by
  have L := lcI (J := jT ws) (g := gN v) (t := eYes) (e := e) (D := h1.length) (σ0 := wipeW σ own) (n := ws.length) (fun s h' => h' = h1 ++ [IO.lst ((ws.take s).map f)])
    (by
      rintro s h' hs rfl
      have ew : ws[s]? = some ws[s] := List.getElem?_eq_getElem hs
      refine ⟨ws[s], (wipeW σ own).set v (some ws[s]), f ws[s], h1 ++ [IO.lst ((ws.take s).map f)], (ws.take s).map f, ?_, rfl, rfl, he _ (List.getElem_mem hs) _, by simp, by simp; omega, ?_⟩
      · unfold jT; rw [ew]
      · rw [List.set_append_right _ _ (Nat.le_refl _), Nat.sub_self, List.set_cons_zero, List.take_succ, ew]
        simp only [Option.toList_some, List.map_append, List.map_cons, List.map_nil])
    (by rintro h' rfl; unfold jT; simp)
    nF 0 (h1 ++ [.lst []]) (Nat.zero_le _) (by show _ < 100000; omega) (by simp)
  obtain ⟨h', e1, rfl⟩ := L
  rw [List.take_length] at e1
  exact (eLc_it q).trans e1
structure Doc (h : IH) (D A : Nat) (w : W) (M : Tr) : Prop where
  d : h[D]? = some (docO A w M)
  a : h[A]? = some (.lst ((pathsN [] M).map wp))
theorem Doc.app {D A : Nat} {w : W} {M : Tr} {g : IH} (x : Doc h D A w M) : Doc (h ++ g) D A w M := ⟨get_app x.d, get_app x.a⟩
theorem slot0 {D A : Nat} {w : W} {M : Tr} (x : Doc h D A w M) : slotAt 5 0 (.ref D) h = .v (.ref A) h := by simp only [slotAt, x.d, docO]; rfl
theorem slot1 {D A : Nat} {w : W} {M : Tr} (x : Doc h D A w M) : slotAt 5 1 (.ref D) h = .v w h := by simp only [slotAt, x.d, docO]; rfl
theorem slot2 {D A : Nat} {w : W} {M : Tr} (x : Doc h D A w M) : slotAt 5 2 (.ref D) h = .v (.str (txS M)) h := by simp only [slotAt, x.d, docO, text_txS]; rfl
abbrev ctI (d : Nat) : Ev := eLc nF (iT (eLoc 1)) [2] (gN 2) eYes (eCall (run d 4) [] (eCons (eLoc 2) eNil))
theorem ctI_ok {ws : List W} {x y : W} {z : Option W} (hs : ∀ w ∈ ws, sc w = true) (hz : ws.length < 1000) : ctI (d + 1) [some x, some (.tup ws), z] h = .v (.ref h.length) (h ++ [.lst (ws.map fun w => .bl (isI w))]) := by
  refine lcV (ws := ws) (h1 := h) rfl hz fun w hw g => ?_
  show eCall (run (d + 1) 4) [] (eCons (eLoc 2) eNil) [some x, some (.tup ws), some w] g = _
  simp only [eCall_ap, eCons_ap, eNil_ap, eLoc_ap, List.getElem?_cons_zero, List.getElem?_cons_succ, locO_s, vb_v, vsb_vs, List.append_nil, isint_ok (hs w hw), cb_v]
theorem mapO_boo : ∀ ws : List W, mapO W.boo (ws.map fun w => .bl (isI w)) = some (ws.map isI)
  | [] => rfl
  | w :: ws => by simp only [List.map_cons, mapO, mapO_boo ws, W.boo]
theorem ct_tup {D A : Nat} {w : W} {M : Tr} {ws : List W} (x : Doc h D A w M) (hs : ∀ w ∈ ws, sc w = true) (hz : ws.length < 1000) :
    run (d + 2) 23 [.ref D, .tup ws] h = (if ws.all isI = true then oIn (.tup ws) (.ref A) (h ++ [.lst (ws.map fun w => .bl (isI w))]) else .v (.bl false) (h ++ [.lst (ws.map fun w => .bl (isI w))])) := by
  have e0 : run (d + 2) 23 [.ref D, .tup ws] h = (b23 (run (d + 1)) nF [some (.ref D), some (.tup ws), none] h).fin := fn_run (d := d + 1) (b := b23) (n := 2) (N := 3) rfl rfl
  have c := ctI_ok (d := d) (h := h) (x := .ref D) (y := .non) (z := none) hs hz
  have al : bAll [.ref h.length] (h ++ [.lst (ws.map fun w => .bl (isI w))]) = .v (.bl (ws.all isI)) (h ++ [.lst (ws.map fun w => .bl (isI w))]) := by
    have l : lstAt (h ++ [.lst (ws.map fun w => .bl (isI w))]) h.length = some (ws.map fun w => .bl (isI w)) := by unfold lstAt; simp
    simp only [bAll, onL, l, mapO_boo]
    rw [List.all_map]
    rfl
  have cond : (eOr (eNot (eIsi is_tuple (eLoc 1))) (eNot (eBlt bAll (eCons (ctI (d + 1)) eNil)))) [some (.ref D), some (.tup ws), none] h = .v (.bl (!(ws.all isI))) (h ++ [.lst (ws.map fun w => .bl (isI w))]) := by
    rw [eOr_ap, show eNot (eIsi is_tuple (eLoc 1)) [some (.ref D), some (.tup ws), none] h = .v (.bl false) h from rfl, vb_v]
    simp only
    rw [eNot_ap, eBlt_ap, eCons_ap, c, vb_v, eNil_ap, vsb_vs, vsb_vs, al, vb_v]
  rw [e0]
  unfold b23
  rw [eSeq_ap, eIfS_ap, cond, vb_v]
  by_cases q : ws.all isI = true
  · rw [if_pos q, q]
    have s0 := slot0 (x.app (g := [.lst (ws.map fun w => .bl (isI w))]))
    show ((eRet (eBin oIn (eLoc 1) (eSlot 5 0 (eLoc 0)))) [some (.ref D), some (.tup ws), none] (h ++ [.lst (ws.map fun w => .bl (isI w))])).fin = _
    rw [eRet_ap, eBin_ap, show eLoc 1 [some (.ref D), some (.tup ws), none] (h ++ [.lst (ws.map fun w => .bl (isI w))]) = .v (.tup ws) (h ++ [.lst (ws.map fun w => .bl (isI w))]) from rfl, vb_v, eSlot_ap, show eLoc 0 [some (.ref D), some (.tup ws), none] (h ++ [.lst (ws.map fun w => .bl (isI w))]) = .v (.ref D) (h ++ [.lst (ws.map fun w => .bl (isI w))]) from rfl, vb_v, s0, vb_v]
    unfold oIn
    cases isIn (.tup ws) (.ref A) (h ++ [.lst (ws.map fun w => .bl (isI w))]) <;> rfl
  · have q' : ws.all isI = false := by simpa using q
    rw [if_neg q, q']
    rfl
theorem all_ints : ∀ z : List Int, (z.map W.int).all isI = true
  | [] => rfl
  | x :: z => by simp only [List.map_cons, List.all_cons, all_ints z]; rfl
theorem sc_ints (z : List Int) : ∀ w ∈ z.map W.int, sc w = true := fun w hw => by
  obtain ⟨i, _, rfl⟩ := List.mem_map.mp hw; rfl
/-- a row of ints is asked for -/
theorem ct_ints {D A : Nat} {w : W} {M : Tr} {z : List Int} (x : Doc h D A w M) (hz : z.length < 1000) : ∃ g, run (d + 2) 23 [.ref D, wI z] h = .v (.bl (decide (z ∈ (pathsN [] M).map nI))) (h ++ g) := by
  refine ⟨[.lst ((z.map W.int).map fun w => .bl (isI w))], (ct_tup (d := d) x (sc_ints z) (by simpa using hz)).trans ?_⟩
  rw [if_pos (all_ints z)]
  exact in_paths (x.app (g := [.lst ((z.map W.int).map fun w => .bl (isI w))])).a
/-- no row of ints -/
theorem ct_odd {D A : Nat} {w : W} {M : Tr} {ws : List W} (x : Doc h D A w M) (hs : ∀ w ∈ ws, sc w = true) (hz : ws.length < 1000) (hn : ws.all isI = false) : ∃ g, run (d + 2) 23 [.ref D, .tup ws] h = .v (.bl false) (h ++ g) :=
  ⟨_, (ct_tup (d := d) x hs hz).trans (if_neg (by rw [hn]; simp))⟩
/-- no tuple -/
theorem ct_non {D A : Nat} {w y : W} {M : Tr} {g : Kd} (x : Doc h D A w M) (hk : tgOf y h = some g) (hg : is_tuple g = false) : run (d + 2) 23 [.ref D, y] h = .v (.bl false) h := by
  have e0 : run (d + 2) 23 [.ref D, y] h = (b23 (run (d + 1)) nF [some (.ref D), some y, none] h).fin := fn_run (d := d + 1) (b := b23) (n := 2) (N := 3) rfl rfl
  have c : eNot (eIsi is_tuple (eLoc 1)) [some (.ref D), some y, none] h = .v (.bl true) h := by
    simp only [eNot_ap, eIsi_ap, eLoc_ap, List.getElem?_cons_zero, List.getElem?_cons_succ, locO_s, vb_v, hk, hg]
    rfl
  rw [e0]
  unfold b23
  rw [eSeq_ap, eIfS_ap, eOr_ap, c]
  rfl
end Dr.L
set_option maxHeartbeats 1000000
namespace Dr.L
open PySem L2 PyProof.Rows Dr
variable {t : Str} {i r d : Nat} {h : IH}
/-! ### parts of trees -/
def Tr.cs : Tr → List Tr
  | .mk _ _ cs => cs
def sub : List Nat → Tr → Option Tr
  | [], T => some T
  | i :: q, T => match T.cs[i]? with
    | some c => sub q c
    | none => none
theorem sub_app : ∀ (a b : List Nat) (T S : Tr), sub a T = some S → sub (a ++ b) T = sub b S
  | [], b, T, S, e => by cases e; rfl
  | i :: a, b, T, S, e => by
    simp only [sub, List.cons_append] at e ⊢
    cases q : T.cs[i]? with
    | none => rw [q] at e; cases e
    | some c => rw [q] at e; exact sub_app a b c S e
mutual
theorem mem_paths : ∀ (T : Tr) (a q : List Nat), q ∈ pathsN a T ↔ ∃ r S, q = a ++ r ∧ sub r T = some S
  | .mk k ms cs, a, q => by
    rw [pathsN, List.mem_cons, mem_pathsK cs a q 0]
    constructor
    · rintro (rfl | ⟨j, T, r, S, h1, h2, h3⟩)
      · exact ⟨[], _, by simp, rfl⟩
      · exact ⟨j :: r, S, by rw [h2]; simp, by simp only [sub, Tr.cs, h1]; exact h3⟩
    · rintro ⟨r, S, rfl, e⟩
      cases r with
      | nil => exact .inl (by simp)
      | cons j r =>
        simp only [sub, Tr.cs] at e
        cases q : cs[j]? with
        | none => rw [q] at e; cases e
        | some c => rw [q] at e; exact .inr ⟨j, c, r, S, q, by simp, e⟩
theorem mem_pathsK : ∀ (Ts : List Tr) (a q : List Nat) (i : Nat), q ∈ pathsNK a i Ts ↔ ∃ j T r S, Ts[j]? = some T ∧ q = a ++ (i + j) :: r ∧ sub r T = some S
  | [], a, q, i => by rw [pathsNK]; simp
  | T :: Ts, a, q, i => by
    rw [pathsNK, List.mem_append, mem_paths T (a ++ [i]) q, mem_pathsK Ts a q (i + 1)]
    constructor
    · rintro (⟨r, S, rfl, e⟩ | ⟨j, T', r, S, h1, rfl, h3⟩)
      · exact ⟨0, T, r, S, rfl, by simp, e⟩
      · exact ⟨j + 1, T', r, S, by simpa using h1, by rw [show i + 1 + j = i + (j + 1) by omega], h3⟩
    · rintro ⟨j, T', r, S, h1, rfl, h3⟩
      cases j with
      | zero =>
        simp at h1; subst h1
        exact .inl ⟨r, S, by simp, h3⟩
      | succ j => exact .inr ⟨j, T', r, S, by simpa using h1, by rw [show i + 1 + j = i + (j + 1) by omega], h3⟩
end
theorem mem_0 {T : Tr} {q : List Nat} : q ∈ pathsN [] T ↔ ∃ S, sub q T = some S := by
  rw [mem_paths]
  constructor
  · rintro ⟨r, S, rfl, e⟩; exact ⟨S, by simpa using e⟩
  · rintro ⟨S, e⟩; exact ⟨q, S, by simp, e⟩
theorem nI_inj : ∀ (a b : List Nat), nI a = nI b → a = b
  | [], [], _ => rfl
  | [], _ :: _, e => by simp [nI] at e
  | _ :: _, [], e => by simp [nI] at e
  | x :: a, y :: b, e => by
    simp only [nI, List.map_cons, List.cons.injEq] at e
    have := nI_inj a b e.2
    rw [this, show x = y by omega]
theorem mem_nI {q : List Nat} {ps : List (List Nat)} : nI q ∈ ps.map nI ↔ q ∈ ps := by
  constructor
  · intro z
    obtain ⟨b, h1, h2⟩ := List.mem_map.mp z
    rw [← nI_inj _ _ h2]; exact h1
  · exact fun z => List.mem_map.mpr ⟨q, z, rfl⟩
mutual
theorem ok_get : ∀ (Ts : List Tr) (i : Nat) (T : Tr), oks Ts → Ts[i]? = some T → T.ok
  | [], i, T, _, e => by simp at e
  | A :: Ts, 0, T, o, e => by unfold oks at o; simp at e; subst e; exact o.1
  | A :: Ts, i + 1, T, o, e => by unfold oks at o; exact ok_get Ts i T o.2 (by simpa using e)
end
theorem size_get : ∀ (Ts : List Tr) (i : Nat) (T : Tr), Ts[i]? = some T → T.size ≤ sizes Ts
  | [], i, T, e => by simp at e
  | A :: Ts, 0, T, e => by simp at e; subst e; simp only [sizes]; omega
  | A :: Ts, i + 1, T, e => by have := size_get Ts i T (by simpa using e); simp only [sizes]; omega
theorem sub_ok : ∀ (q : List Nat) (T S : Tr), sub q T = some S → T.ok → S.ok
  | [], T, S, e, o => by cases e; exact o
  | i :: q, .mk k ms cs, S, e, o => by
    simp only [sub, Tr.cs] at e
    unfold Tr.ok at o
    cases z : cs[i]? with
    | none => rw [z] at e; cases e
    | some c => rw [z] at e; exact sub_ok q c S e (ok_get cs i c o.2.2.2 z)
theorem sub_size : ∀ (q : List Nat) (T S : Tr), sub q T = some S → S.size + q.length ≤ T.size
  | [], T, S, e => by cases e; simp
  | i :: q, .mk k ms cs, S, e => by
    simp only [sub, Tr.cs] at e
    cases z : cs[i]? with
    | none => rw [z] at e; cases e
    | some c =>
      rw [z] at e
      have := sub_size q c S e
      have := size_get cs i c z
      simp only [Tr.size, List.length_cons]; omega
theorem sims_get2 : ∀ {Ms Ts : List Tr} {i : Nat} {T : Tr}, sims Ms Ts → Ts[i]? = some T → ∃ M, Ms[i]? = some M ∧ M.sim T
  | [], [], i, M, _, e => by simp at e
  | [], _ :: _, i, M, h, _ => by simp [sims] at h
  | _ :: _, [], i, M, h, _ => by simp [sims] at h
  | A :: Ms, B :: Ts, 0, T, h, e => by unfold sims at h; simp at e; subst e; exact ⟨A, rfl, h.1⟩
  | A :: Ms, B :: Ts, i + 1, T, h, e => by unfold sims at h; simpa using sims_get2 h.2 (by simpa using e)
theorem sub_sim : ∀ (q : List Nat) (M T S : Tr), M.sim T → sub q T = some S → ∃ S', sub q M = some S' ∧ S'.sim S
  | [], M, T, S, e, z => by cases z; exact ⟨M, rfl, e⟩
  | i :: q, .mk k ms cs, .mk k' ms' cs', S, e, z => by
    unfold Tr.sim at e
    simp only [sub, Tr.cs] at z ⊢
    cases y : cs'[i]? with
    | none => rw [y] at z; cases z
    | some c =>
      rw [y] at z
      obtain ⟨c', h1, h2⟩ := sims_get2 e.2.2 y
      rw [h1]
      exact sub_sim q c' c S h2 z
/-! ### Document.node -/
structure DX (h : IH) (D A lo : Nat) (w : W) (M : Tr) : Prop extends Doc h D A w M where
  tr : TreeIn h lo D w M
  ok : M.ok
  sz : M.size ≤ 200
theorem DX.app {D A lo : Nat} {w : W} {M : Tr} {g : IH} (x : DX h D A lo w M) : DX (h ++ g) D A lo w M :=
  ⟨x.toDoc.app, x.tr.mono (fun a _ ha => List.getElem?_append_left (by have := lt_of x.d; omega)) (Nat.le_refl _) (Nat.le_refl _), x.ok, x.sz⟩
theorem TreesIn.get {h : IH} {lo hi : Nat} : ∀ {ws : List W} {Ts : List Tr} {i : Nat} {T : Tr}, TreesIn h lo hi ws Ts → Ts[i]? = some T → ∃ w, ws[i]? = some w ∧ TreeIn h lo hi w T
  | _, _, i, w, .nil, e => by simp at e
  | _, _, 0, w, .cons a b, e => by simp at e; subst e; exact ⟨_, rfl, a⟩
  | _, _, i + 1, w, .cons a b, e => by simpa using TreesIn.get b (by simpa using e)
theorem recvS_ok {D A : Nat} {w : W} {M : Tr} {q : Out} (x : Doc h D A w M) : recvS 5 (.ref D) h q = q := by
  unfold recvS
  simp only [x.d, docO, if_true]
theorem nin_ok {D A : Nat} {w : W} {M S : Tr} {q : List Nat} (x : Doc h D A w M) (hq : sub q M = some S) (hz : q.length < 1000) : ∃ g, oNotInO 5 (run (d + 2) 23) (wp q) (.ref D) h = .v (.bl false) (h ++ g) := by
  obtain ⟨g, e⟩ := ct_ints (d := d) (z := nI q) x (by simpa [nI] using hz)
  rw [decide_eq_true (mem_nI.mpr (mem_0.mpr ⟨S, hq⟩))] at e
  refine ⟨g, ?_⟩
  unfold oNotInO
  rw [recvS_ok x]
  show notO (run (d + 2) 23 [.ref D, wI (nI q)] h) = _
  rw [e]; rfl
abbrev ndB : Ev := eAsg (gN 2) (eBin oIx (eBin oIx (eLoc 2) (eK (.int 2))) (eLoc 3))
theorem ndB_ok {x0 x1 w : W} {lo hi j : Nat} {T S : Tr} (tr : TreeIn h lo hi w T) (e : T.cs[j]? = some S) : ∃ w', ndB [some x0, some x1, some w, some (.int (j : Nat))] h = .nx [some x0, some x1, some w', some (.int (j : Nat))] h ∧ TreeIn h lo hi w' S := by
  cases tr with
  | mk p h1 h2 ep trs =>
  rename_i k ms cs ws
  obtain ⟨w', e1, t1⟩ := trs.get e
  refine ⟨w', ?_, t1⟩
  have ix : oIx (.ref p) (.int (j : Nat)) h = .v w' h := by
    simp only [oIx, ep, ixW]
    rw [atI_nat e1]
  unfold ndB
  rw [eAsg_ap, eBin_ap, eBin_ap, show eLoc 2 [some x0, some x1, some (hnode k ms p), some (.int (j : Nat))] h = .v (hnode k ms p) h from rfl, vb_v, eK_ap, vb_v, show oIx (hnode k ms p) (.int 2) h = .v (.ref p) h from rfl, vb_v, show eLoc 3 [some x0, some x1, some (hnode k ms p), some (.int (j : Nat))] h = .v (.int (j : Nat)) h from rfl, vb_v, ix]
  rfl
theorem node_ok' {D A lo : Nat} {w : W} {M S : Tr} {q : List Nat} (x : DX h D A lo w M) (hq : sub q M = some S) : ∃ g w', run (d + 3) 24 [.ref D, wp q] h = .v w' (h ++ g) ∧ TreeIn (h ++ g) lo D w' S := by
  have e0 : run (d + 3) 24 [.ref D, wp q] h = (b24 (run (d + 2)) nF [some (.ref D), some (wp q), none, none] h).fin := fn_run (d := d + 2) (b := b24) (n := 2) (N := 4) rfl rfl
  have hl := sub_size q M S hq
  have hz := x.sz
  obtain ⟨g, e1⟩ := nin_ok (d := d) x.toDoc hq (by omega)
  have x1 : DX (h ++ g) D A lo w M := x.app
  have s1 : eIfS (eBin (oNotInO 5 (run (d + 2) 23)) (eLoc 1) (eLoc 0)) (eRaise 2 (eLoc 1)) eEnd [some (.ref D), some (wp q), none, none] h = .nx [some (.ref D), some (wp q), none, none] (h ++ g) := by
    rw [eIfS_ap, eBin_ap, show eLoc 1 [some (.ref D), some (wp q), none, none] h = .v (wp q) h from rfl, vb_v, show eLoc 0 [some (.ref D), some (wp q), none, none] h = .v (.ref D) h from rfl, vb_v, e1]
    rfl
  have s2 : eAsg (gN 2) (eSlot 5 1 (eLoc 0)) [some (.ref D), some (wp q), none, none] (h ++ g) = .nx [some (.ref D), some (wp q), some w, none] (h ++ g) := by
    rw [eAsg_ap, eSlot_ap, show eLoc 0 [some (.ref D), some (wp q), none, none] (h ++ g) = .v (.ref D) (h ++ g) from rfl, vb_v, slot1 x1.toDoc]
    rfl
  obtain ⟨s, h', e2, w', y3, rfl, rfl, t2⟩ := forI (J := jT ((nI q).map W.int)) (g := gN 3) (b := ndB) (n := q.length) (fun s σ h' => ∃ w' y3, σ = [some (.ref D), some (wp q), some w', y3] ∧ h' = h ++ g ∧ ∃ S', sub (q.take s) M = some S' ∧ TreeIn (h ++ g) lo D w' S')
    (by
      rintro s σ h' hs ⟨w', y3, rfl, rfl, S', e3, t3⟩
      have ej : q[s]? = some q[s] := List.getElem?_eq_getElem hs
      have hd : q.drop s = q[s] :: q.drop (s + 1) := List.drop_eq_getElem_cons hs
      have full : sub (q.take s ++ q.drop s) M = some S := by rw [List.take_append_drop]; exact hq
      rw [sub_app _ _ _ _ e3, hd] at full
      simp only [sub] at full
      cases ec : S'.cs[q[s]]? with
      | none => rw [ec] at full; cases full
      | some c =>
        obtain ⟨w2, e4, t4⟩ := ndB_ok (x0 := .ref D) (x1 := wp q) t3 ec
        refine ⟨.int (q[s] : Nat), [some (.ref D), some (wp q), some w', some (.int (q[s] : Nat))], _, _, ?_, rfl, e4, w2, _, rfl, rfl, c, ?_, t4⟩
        · unfold jT
          simp [nI, ej]
        · rw [List.take_succ, ej]
          show sub (q.take s ++ [q[s]]) M = some c
          rw [sub_app _ _ _ _ e3]
          simp only [sub, ec])
    (by
      rintro σ h' _
      unfold jT
      simp [nI])
    nF 0 [some (.ref D), some (wp q), some w, none] (h ++ g) (Nat.zero_le _) (by show _ < 100000; omega) ⟨w, none, rfl, rfl, M, by simp [sub], x1.tr⟩
  obtain ⟨S', e3, t3⟩ := t2
  rw [List.take_length, hq] at e3
  cases e3
  refine ⟨g, w', ?_, t3⟩
  rw [e0]
  unfold b24
  rw [eSeq_ap, s1, nb_nx, eSeq_ap, s2, nb_nx, eSeq_ap]
  have fe := (eFor_it (g := gN 3) (b := ndB) (n := nF) (show iT (eLoc 1) [some (.ref D), some (wp q), some w, none] (h ++ g) = .it (jT ((nI q).map W.int)) (h ++ g) from rfl)).trans e2
  rw [fe]
  rfl
end Dr.L
set_option maxHeartbeats 1000000
namespace Dr.L
open PySem L2 PyProof.Rows Dr
variable {t : Str} {i r d : Nat} {h : IH}
theorem ext_of {h h' : IH} (hl : h.length ≤ h'.length) (ag : ∀ a, a < h.length → h'[a]? = h[a]?) : ∃ g, h' = h ++ g := by
  refine ⟨h'.drop h.length, List.ext_getElem? fun a => ?_⟩
  by_cases q : a < h.length
  · rw [List.getElem?_append_left q, ag a q]
  · rw [List.getElem?_append_right (by omega), List.getElem?_drop]
    congr 1
    omega
section
variable {D A lo : Nat} {w : W} {M : Tr} {q : List Nat} {k : Str} {ms : List Str} {cs : List Tr}
theorem ndM_ok (x : DX h D A lo w M) (hq : sub q M = some (.mk k ms cs)) : ∃ g p ws, eMethS 5 (run (d + 3) 24) [] (eLoc 0) (eCons (eLoc 1) eNil) [some (.ref D), some (wp q)] h = .v (hnode k ms p) (h ++ g) ∧ (h ++ g)[p]? = some (.lst ws) ∧ ws.length = cs.length ∧ TreeIn (h ++ g) lo D (hnode k ms p) (.mk k ms cs) := by
  obtain ⟨g, w', e1, t1⟩ := node_ok' (d := d) x hq
  have t0 := t1
  cases t1 with
  | mk p h1 h2 ep trs =>
  rename_i ws
  refine ⟨g, p, ws, ?_, ep, trs.len, t0⟩
  rw [eMethS_ap, show eLoc 0 [some (.ref D), some (wp q)] h = .v (.ref D) h from rfl, vb_v, recvS_ok x.toDoc, eCons_ap, show eLoc 1 [some (.ref D), some (wp q)] h = .v (wp q) h from rfl, vb_v, eNil_ap, vsb_vs, vsb_vs]
  show Out.cb _ (run (d + 3) 24 [.ref D, wp q] h) = _
  rw [e1]; rfl
theorem kind_ok (x : DX h D A lo w M) (hq : sub q M = some (.mk k ms cs)) : ∃ g, run (d + 4) 25 [.ref D, wp q] h = .v (.str k) (h ++ g) := by
  have e0 : run (d + 4) 25 [.ref D, wp q] h = (b25 (run (d + 3)) nF [some (.ref D), some (wp q)] h).fin := fn_run (d := d + 3) (b := b25) (n := 2) (N := 2) rfl rfl
  obtain ⟨g, p, ws, e1, _, _, _⟩ := ndM_ok (d := d) x hq
  refine ⟨g, ?_⟩
  rw [e0]
  unfold b25
  rw [eRet_ap, eBin_ap, e1, vb_v, eK_ap, vb_v]; rfl
theorem marks_ok (x : DX h D A lo w M) (hq : sub q M = some (.mk k ms cs)) : ∃ g, run (d + 4) 26 [.ref D, wp q] h = .v (.tup ((sortS ms).map W.str)) (h ++ g) := by
  have e0 : run (d + 4) 26 [.ref D, wp q] h = (b26 (run (d + 3)) nF [some (.ref D), some (wp q)] h).fin := fn_run (d := d + 3) (b := b26) (n := 2) (N := 2) rfl rfl
  obtain ⟨g, p, ws, e1, _, _, _⟩ := ndM_ok (d := d) x hq
  refine ⟨g, ?_⟩
  rw [e0]
  unfold b26
  rw [eRet_ap, eBin_ap, e1, vb_v, eK_ap, vb_v]; rfl
theorem width_ok (x : DX h D A lo w M) (hq : sub q M = some (.mk k ms cs)) : ∃ g, run (d + 4) 27 [.ref D, wp q] h = .v (.int cs.length) (h ++ g) := by
  have e0 : run (d + 4) 27 [.ref D, wp q] h = (b27 (run (d + 3)) nF [some (.ref D), some (wp q)] h).fin := fn_run (d := d + 3) (b := b27) (n := 2) (N := 2) rfl rfl
  obtain ⟨g, p, ws, e1, ep, el, _⟩ := ndM_ok (d := d) x hq
  refine ⟨g, ?_⟩
  have bl : bLen [.ref p] (h ++ g) = .v (.int cs.length) (h ++ g) := by
    show (match lstAt (h ++ g) p with | some ls => Out.v (.int (ls.length : Nat)) (h ++ g) | none => .no) = _
    unfold lstAt; rw [ep]; simp [el]
  rw [e0]
  unfold b27
  rw [eRet_ap, eBlt_ap, eCons_ap, eBin_ap, e1, vb_v, eK_ap, vb_v, show oIx (hnode k ms p) (.int 2) (h ++ g) = .v (.ref p) (h ++ g) from rfl, vb_v, eNil_ap, vsb_vs, vsb_vs, bl]; rfl
theorem part_ok (x : DX h D A lo w M) (hq : sub q M = some (.mk k ms cs)) : ∃ g D' A' w', run (d + 4) 28 [.ref D, wp q] h = .v (.ref D') (h ++ g) ∧ Doc (h ++ g) D' A' w' (.mk k ms cs) := by
  have e0 : run (d + 4) 28 [.ref D, wp q] h = (b28 (run (d + 3)) nF [some (.ref D), some (wp q)] h).fin := fn_run (d := d + 3) (b := b28) (n := 2) (N := 2) rfl rfl
  obtain ⟨g, p, ws, e1, ep, el, t1⟩ := ndM_ok (d := d) x hq
  have dl := lt_of (x.app (g := g)).d
  have hz := sub_size q M _ hq
  have xz := x.sz
  have gn : (h ++ g ++ [IO.slt 5 []])[(h ++ g).length]? = some (.slt 5 []) := by simp
  obtain ⟨A', h2, p1, p2, p3, p4, p5, p6⟩ := doc_ok (d := d + 1) gn (t1.mono (h' := h ++ g ++ [IO.slt 5 []]) (fun a _ ha => List.getElem?_append_left (by omega)) (Nat.le_refl _) (Nat.le_refl _)) (by omega) (by omega) (sub_ok q M _ hq x.ok)
  simp only [List.length_append, List.length_cons, List.length_nil] at p5 p6
  obtain ⟨g2, rfl⟩ := ext_of (h := h) (h' := h2) (by omega) (fun a ha => by rw [p6 a (by omega) (by simp; omega), List.getElem?_append_left (by simp; omega), List.getElem?_append_left ha])
  refine ⟨g2, (h ++ g).length, A', hnode k ms p, ?_, p2, by rw [p3, pathsW_0]⟩
  rw [e0]
  unfold b28
  rw [eRet_ap, eNew_ap, eCons_ap, e1, vb_v, eNil_ap, vsb_vs, vsb_vs]
  simp only [newObj, List.append_nil]
  show Out.fin (Out.vb (match run (d + 3) 19 [.ref (h ++ g).length, hnode k ms p] (h ++ g ++ [IO.slt 5 []]) with
    | .v .non h2 => .v (.ref (h ++ g).length) h2
    | .ex c w _ h2 => .ex c w _ h2
    | _ => .no) _) = _
  rw [p1]; rfl
/-! ### the law's own look -/
theorem at_ok {w0 : W} {T S : Tr} {lo hi : Nat} (tr : LIn h lo hi w0 T) (hq : sub q T = some S) (hz : q.length < 1000) : ∃ w', run (d + 1) 40 [w0, wp q] h = .v w' h ∧ LIn h lo hi w' S := by
  have e0 : run (d + 1) 40 [w0, wp q] h = (b40 (run d) nF [some w0, some (wp q), none] h).fin := fn_run (d := d) (b := b40) (n := 2) (N := 3) rfl rfl
  obtain ⟨s, h', e2, w', y3, rfl, rfl, S', e3, t3⟩ := forI (J := jT ((nI q).map W.int)) (g := gN 2) (b := eAsg (gN 0) (eBin oIx (eBin oIx (eLoc 0) (eK (.int 2))) (eLoc 2))) (n := q.length) (fun s σ h' => ∃ w' y3, σ = [some w', some (wp q), y3] ∧ h' = h ∧ ∃ S', sub (q.take s) T = some S' ∧ LIn h lo hi w' S')
    (by
      rintro s σ h' hs ⟨w', y3, rfl, rfl, S', e3, t3⟩
      have ej : q[s]? = some q[s] := List.getElem?_eq_getElem hs
      have hd : q.drop s = q[s] :: q.drop (s + 1) := List.drop_eq_getElem_cons hs
      have full : sub (q.take s ++ q.drop s) T = some S := by rw [List.take_append_drop]; exact hq
      rw [sub_app _ _ _ _ e3, hd] at full
      simp only [sub] at full
      cases ec : S'.cs[q[s]]? with
      | none => rw [ec] at full; cases full
      | some c =>
        cases t3 with
        | mk n a cc a1 a2 a3 a4 a5 a6 en ea ecc trs =>
        rename_i k ms cs ws
        have ec' : cs[q[s]]? = some c := ec
        have hlen := trs.len
        have hlt := (List.getElem?_eq_some_iff.mp ec').1
        have ew : ws[q[s]]? = some (ws[q[s]]'(by omega)) := List.getElem?_eq_getElem (by omega)
        obtain ⟨c2, e5, t5⟩ := trs.get ew
        rw [ec'] at e5
        cases e5
        have ix2 : oIx (.ref n) (.int 2) h' = .v (.ref cc) h' := by simp only [oIx, en]; rfl
        have ix : oIx (.ref cc) (.int (q[s] : Nat)) h' = .v (ws[q[s]]'(by omega)) h' := by
          simp only [oIx, ecc, ixW]
          rw [atI_nat ew]
        refine ⟨.int (q[s] : Nat), [some (.ref n), some (wp q), some (.int (q[s] : Nat))], [some (ws[q[s]]'(by omega)), some (wp q), some (.int (q[s] : Nat))], h', ?_, rfl, ?_, _, _, rfl, rfl, c, ?_, t5⟩
        · unfold jT
          simp [nI, ej]
        · rw [eAsg_ap, eBin_ap, eBin_ap, show eLoc 0 [some (.ref n), some (wp q), some (.int (q[s] : Nat))] h' = .v (.ref n) h' from rfl, vb_v, eK_ap, vb_v, ix2, vb_v, show eLoc 2 [some (.ref n), some (wp q), some (.int (q[s] : Nat))] h' = .v (.int (q[s] : Nat)) h' from rfl, vb_v, ix]
          rfl
        · rw [List.take_succ, ej]
          show sub (q.take s ++ [q[s]]) T = some c
          rw [sub_app _ _ _ _ e3]
          simp only [sub, Tr.cs, ec'])
    (by
      rintro σ h' _
      unfold jT
      simp [nI])
    nF 0 [some w0, some (wp q), none] h (Nat.zero_le _) (by show _ < 100000; omega) ⟨w0, none, rfl, rfl, T, by simp [sub], tr⟩
  rw [List.take_length, hq] at e3
  cases e3
  refine ⟨w', ?_, t3⟩
  rw [e0]
  unfold b40
  rw [eSeq_ap]
  have fe := (eFor_it (g := gN 2) (b := eAsg (gN 0) (eBin oIx (eBin oIx (eLoc 0) (eK (.int 2))) (eLoc 2))) (n := nF) (show iT (eLoc 1) [some w0, some (wp q), none] h' = .it (jT ((nI q).map W.int)) h' from rfl)).trans e2
  rw [fe]
  rfl
end
end Dr.L
set_option maxHeartbeats 1000000
namespace Dr.L
open PySem L2 PyProof.Rows Dr
variable {t : Str} {i r d : Nat} {h : IH}
/-! ### comparing -/
theorem ne_str {a : Str} : oNe (.str a) (.str a) h = .v (.bl false) h := by
  have : eqS a a = true := by rw [eqS_eq]; simp
  simp only [oNe, eqD, this]; rfl
theorem ne_int {a : Int} : oNe (.int a) (.int a) h = .v (.bl false) h := by
  simp only [oNe, eqD, decide_true]; rfl
theorem mapO_strs (n : Nat) : ∀ q : List Str, mapO (dat h (n + 1)) (q.map W.str) = some (q.map PyData.str)
  | [] => rfl
  | x :: q => by
    rw [List.map_cons, List.map_cons]
    unfold mapO
    rw [mapO_strs n q]
    rfl
theorem shS : ∀ q : List Str, (∀ s ∈ q, (s.cps.toList.all fun c => Nat.blt c 0x110000) = true) → shFs (q.map PyData.str) = true ∧ PyData.depthAll (q.map PyData.str) = 0
  | [], _ => ⟨rfl, rfl⟩
  | x :: q, hx => by
    obtain ⟨h1, h2⟩ := shS q (fun s hs => hx s (List.mem_cons_of_mem _ hs))
    have h3 := hx x (List.mem_cons_self ..)
    constructor
    · simp only [List.map_cons, shFs, shF, h3, h1, Bool.and_self]
    · simp [PyData.depthAll, PyData.depth, h2]
theorem eqFs_S : ∀ q : List Str, eqFs (q.map PyData.str) (q.map PyData.str) = true
  | [] => rfl
  | x :: q => by
    have : eqS x x = true := by rw [eqS_eq]; simp
    simp only [List.map_cons, eqFs, eqF, this, eqFs_S q, Bool.and_self]
theorem ne_tup {q : List Str} (hx : ∀ s ∈ q, (s.cps.toList.all fun c => Nat.blt c 0x110000) = true) : oNe (.tup (q.map W.str)) (.tup (q.map W.str)) h = .v (.bl false) h := by
  obtain ⟨h1, h2⟩ := shS q hx
  have da : dat h 40 (.tup (q.map W.str)) = some (.tuple (q.map PyData.str)) := by
    show (match mapO (dat h 39) (q.map W.str) with | some ds => some (PyData.tuple ds) | none => none) = _
    rw [mapO_strs 38]
  have sh : shaped' (.tuple (q.map PyData.str)) = true := by
    show (shFs (q.map PyData.str) && decide (PyData.depthAll (q.map PyData.str) + 1 ≤ 64)) = true
    rw [h1, h2]; rfl
  have ef : eqF (.tuple (q.map PyData.str)) (.tuple (q.map PyData.str)) = true := by rw [eqF]; exact eqFs_S q
  have lq : lenQ (.tup (q.map W.str)) (.tup (q.map W.str)) h = none := rfl
  unfold oNe eqD
  simp only [lq, da, sh, ef, and_self, if_true]
  rfl
theorem lt_chars {s : Str} (hs : Lt s) : (s.cps.toList.all fun c => Nat.blt c 0x110000) = true := List.all_eq_true.mpr fun c hc => (Nat.blt_eq).mpr (by
  have q := (isL_ok (hs c hc)).1
  unfold okC at q
  simp only [Bool.and_eq_true, Nat.blt_eq, Nat.ble_eq] at q
  omega)
section
variable {ks ms0 : List Str}
theorem sub_dr : ∀ (q : List Nat) (T S : Tr) (m : Nat), sub q T = some S → T.dr ks ms0 m → ∃ m', m' ≤ m ∧ S.dr ks ms0 m'
  | [], T, S, m, e, dr => by cases e; exact ⟨m, Nat.le_refl _, dr⟩
  | i :: q, .mk k ms cs, S, m, e, dr => by
    simp only [sub, Tr.cs] at e
    unfold Tr.dr at dr
    cases z : cs[i]? with
    | none => rw [z] at e; cases e
    | some c =>
      rw [z] at e
      obtain ⟨m', h1, h2⟩ := sub_dr q c S (m - 1) e (drs_get dr.2.2.2.2 z)
      exact ⟨m', by omega, h2⟩
variable {D A lo : Nat} {w : W} {M : Tr}
theorem meth_S {f j : Nat} {σ : Sg} {y v : W} {h' : IH} (x : Doc h D A w M) (h0 : σ[0]? = some (some (.ref D))) (h3 : σ[j]? = some (some y)) (e : run d f [.ref D, y] h = .v v h') : eMethS 5 (run d f) [] (eLoc 0) (eCons (eLoc j) eNil) σ h = .v v h' := by
  rw [eMethS_ap, eLoc_ap, h0, locO_s, vb_v, recvS_ok x, eCons_ap, eLoc_ap, h3, locO_s, vb_v, eNil_ap, vsb_vs, vsb_vs]
  show Out.cb σ (run d f [.ref D, y] h) = _
  rw [e]; rfl
theorem meth_K {f j : Nat} {σ : Sg} {y v : W} {h' : IH} (x : Doc h D A w M) (h0 : σ[0]? = some (some (.ref D))) (h3 : σ[j]? = some (some y)) (e : run d f [.ref D, y] h = .v v h') : eMethK0 5 (run d f) 1 [0] (eLoc 0) (eCons (eLoc j) eNil) σ h = .v v h' := by
  rw [eMethK0_ap, eLoc_ap, h0, locO_s, vb_v, recvS_ok x, eCons_ap, eLoc_ap, h3, locO_s, vb_v, eNil_ap, vsb_vs, vsb_vs]
  show Out.cb σ (run d f [.ref D, y] h) = _
  rw [e]; rfl
theorem text_prop {o : Ev} {σ : Sg} {h' : IH} (x : Doc h' D A w M) (e : o σ h = .v (.ref D) h') : eProp 5 (run (d + 1) 20) o σ h = .v (.str (txS M)) h' := by
  have e0 : run (d + 1) 20 [.ref D] h' = (b20 (run d) nF [some (.ref D)] h').fin := fn_run (d := d) (b := b20) (n := 1) (N := 1) rfl rfl
  have e1 : run (d + 1) 20 [.ref D] h' = .v (.str (txS M)) h' := by
    rw [e0]
    unfold b20
    rw [eRet_ap, eSlot_ap, show eLoc 0 [some (.ref D)] h' = .v (.ref D) h' from rfl, vb_v, slot2 x]; rfl
  rw [eProp_ap, e, vb_v, recvS_ok x, e1]; rfl
theorem in_O {y : W} {b : Bool} {h' : IH} (x : Doc h D A w M) (e : run d 23 [.ref D, y] h = .v (.bl b) h') : oInO 5 (run d 23) y (.ref D) h = .v (.bl b) h' := by
  unfold oInO
  rw [recvS_ok x, e]; rfl
theorem notin_O {y : W} {b : Bool} {h' : IH} (x : Doc h D A w M) (e : run d 23 [.ref D, y] h = .v (.bl b) h') : oNotInO 5 (run d 23) y (.ref D) h = .v (.bl (!b)) h' := by
  unfold oNotInO
  rw [recvS_ok x, e]; rfl
theorem or_ff {a b : Ev} {σ : Sg} {h h1 h2 : IH} (e1 : a σ h = .v (.bl false) h1) (e2 : b σ h1 = .v (.bl false) h2) : eOr a b σ h = .v (.bl false) h2 := by
  rw [eOr_ap, e1, vb_v]; exact e2
theorem if_f {c a : Ev} {σ : Sg} {h h1 : IH} (e1 : c σ h = .v (.bl false) h1) : eIfS c a eEnd σ h = .nx σ h1 := by
  rw [eIfS_ap, e1, vb_v]; rfl
theorem bin_ {g : W → W → IH → Out} {a b : Ev} {σ : Sg} {h h1 h2 : IH} {x y : W} (e1 : a σ h = .v x h1) (e2 : b σ h1 = .v y h2) : eBin g a b σ h = g x y h2 := by
  rw [eBin_ap, e1, vb_v, e2, vb_v]
theorem LIn.app {h g : IH} {lo hi : Nat} {w : W} {T : Tr} (tr : LIn h lo hi w T) (hh : hi ≤ h.length) : LIn (h ++ g) lo hi w T := tr.mono (fun a _ ha => List.getElem?_append_left (by omega)) (Nat.le_refl _) (Nat.le_refl _)
/-- one node is right -/
abbrev nrB (d : Nat) : Ev := eSeq (eAsg (gN 4) (eCall (run d 40) [] (eCons (eLoc 1) (eCons (eLoc 3) eNil))))
    (eSeq (eIfS (eOr (eBin oNe (eMethS 5 (run d 25) [] (eLoc 0) (eCons (eLoc 3) eNil)) (eBin oIx (eLoc 4) (eK (.int 0)))) (eBin oNe (eMethK0 5 (run d 26) 1 [0] (eLoc 0) (eCons (eLoc 3) eNil)) (eBlt bTuple (eCons (eBlt bSortedX (eCons (eBin oIx (eLoc 4) (eK (.int 1))) eNil)) eNil)))) (eRet (eK (.bl false))) eEnd)
    (eSeq (eIfS (eOr (eBin oNe (eMethS 5 (run d 27) [] (eLoc 0) (eCons (eLoc 3) eNil)) (eBlt bLen (eCons (eBin oIx (eLoc 4) (eK (.int 2))) eNil))) (eBin oNe (eProp 5 (run d 20) (eMethS 5 (run d 28) [] (eLoc 0) (eCons (eLoc 3) eNil))) (eCall (run d 38) [] (eCons (eLoc 4) eNil)))) (eRet (eK (.bl false))) eEnd)
    (eIfS (eOr (eBin (oInO 5 (run d 23)) (eBin oAdd (eLoc 3) (eTup (eCons (eBlt bLen (eCons (eBin oIx (eLoc 4) (eK (.int 2))) eNil)) eNil))) (eLoc 0)) (eOr (eBin (oNotInO 5 (run d 23)) (eLoc 3) (eLoc 0)) (eBin (oInO 5 (run d 23)) (eBlt bList (eCons (eLoc 3) eNil)) (eLoc 0)))) (eRet (eK (.bl false))) eEnd)))
theorem nrB_ok {T S : Tr} {w0 : W} {lo' hi' P m : Nat} {q : List Nat} {y4 : Option W} (N : NmX ks ms0) (hm : m ≤ 4) (x : DX h D A lo w M) (sm : M.sim T) (dr : T.dr ks ms0 m) (tr : LIn h lo' hi' w0 T) (hh : hi' ≤ h.length) (hq : sub q T = some S) :
    ∃ y4' g, nrB (d + 6) [some (.ref D), some w0, some (.ref P), some (wp q), y4] h = .nx [some (.ref D), some w0, some (.ref P), some (wp q), y4'] (h ++ g) := by
  have hsz := sub_size q T S hq
  have htz := sim_size M T sm
  have hxz := x.sz
  obtain ⟨m', hm', drS⟩ := sub_dr q T S m hq dr
  obtain ⟨S', hq', smS⟩ := sub_sim q M T S sm hq
  obtain ⟨w1, e1, t1⟩ := at_ok (d := d + 5) (q := q) tr hq (by omega)
  have t10 := t1
  cases t1 with
  | mk n a c a1 a2 a3 a4 a5 a6 en ea ec trs =>
  rename_i k ms cs ws
  obtain ⟨k', ms', cs'⟩ := S'
  unfold Tr.sim at smS
  obtain ⟨rfl, pm, smK⟩ := smS
  have drS0 := drS
  unfold Tr.dr at drS
  obtain ⟨d1, d2, d3, d4, d5⟩ := drS
  have hcl := sims_len _ _ smK
  have tl := trs.len
  -- at
  have s1 : eAsg (gN 4) (eCall (run (d + 6) 40) [] (eCons (eLoc 1) (eCons (eLoc 3) eNil))) [some (.ref D), some w0, some (.ref P), some (wp q), y4] h = .nx [some (.ref D), some w0, some (.ref P), some (wp q), some (.ref n)] h := by
    simp only [eAsg_ap, eCall_ap, eCons_ap, eNil_ap, eLoc_ap, List.getElem?_cons_zero, List.getElem?_cons_succ, locO_s, vb_v, vsb_vs, List.append_nil, e1, cb_v]
    rfl
  have ixn : ∀ (g : IH) (j : Int) (v : W), (([.str k', .ref a, .ref c] : List W)[j.toNat]? = some v) → 0 ≤ j → eBin oIx (eLoc 4) (eK (.int j)) [some (.ref D), some w0, some (.ref P), some (wp q), some (.ref n)] (h ++ g) = .v v (h ++ g) := fun g j v e hj => by
    have : oIx (.ref n) (.int j) (h ++ g) = .v v (h ++ g) := by
      obtain ⟨jn, rfl⟩ := Int.eq_ofNat_of_zero_le hj
      simp only [oIx, get_app en, ixW]
      rw [atI_nat (by simpa using e)]
    simp only [eBin_ap, eLoc_ap, eK_ap, List.getElem?_cons_zero, List.getElem?_cons_succ, locO_s, vb_v, this]
  -- kind, marks
  obtain ⟨g1, k1⟩ := kind_ok (d := d + 2) x hq'
  have c1 : eBin oNe (eMethS 5 (run (d + 6) 25) [] (eLoc 0) (eCons (eLoc 3) eNil)) (eBin oIx (eLoc 4) (eK (.int 0))) [some (.ref D), some w0, some (.ref P), some (wp q), some (.ref n)] h = .v (.bl false) (h ++ g1) :=
    (bin_ (meth_S x.toDoc rfl rfl k1) (ixn g1 0 (.str k') rfl (by omega))).trans ne_str
  obtain ⟨g2, k2⟩ := marks_ok (d := d + 2) (x.app (g := g1)) hq'
  rw [List.append_assoc] at k2
  have sl : ms.length < 64 := by have := d2.length_le; have := N.m3; omega
  have so := sortedX_ok (h := h ++ (g1 ++ g2)) (get_app ea) sl
  have tu : eBlt bTuple (eCons (eBlt bSortedX (eCons (eBin oIx (eLoc 4) (eK (.int 1))) eNil)) eNil) [some (.ref D), some w0, some (.ref P), some (wp q), some (.ref n)] (h ++ (g1 ++ g2)) = .v (.tup ((sortS ms).map W.str)) (h ++ (g1 ++ g2) ++ [.lst ((sortS ms).map W.str)]) := by
    have bt : bTuple [.ref (h ++ (g1 ++ g2)).length] (h ++ (g1 ++ g2) ++ [.lst ((sortS ms).map W.str)]) = .v (.tup ((sortS ms).map W.str)) (h ++ (g1 ++ g2) ++ [.lst ((sortS ms).map W.str)]) := by
      have l : lstAt (h ++ (g1 ++ g2) ++ [.lst ((sortS ms).map W.str)]) (h ++ (g1 ++ g2)).length = some ((sortS ms).map W.str) := by unfold lstAt; simp
      show (match lstAt (h ++ (g1 ++ g2) ++ [IO.lst ((sortS ms).map W.str)]) (h ++ (g1 ++ g2)).length with | some ls => Out.v (.tup ls) (h ++ (g1 ++ g2) ++ [IO.lst ((sortS ms).map W.str)]) | none => .no) = _
      rw [l]
    rw [eBlt_ap, eCons_ap, eBlt_ap, eCons_ap, ixn (g1 ++ g2) 1 (.ref a) rfl (by omega), vb_v, eNil_ap, vsb_vs, vsb_vs, so, vb_v, eNil_ap, vsb_vs, vsb_vs, bt]
  have c2 : eBin oNe (eMethK0 5 (run (d + 6) 26) 1 [0] (eLoc 0) (eCons (eLoc 3) eNil)) (eBlt bTuple (eCons (eBlt bSortedX (eCons (eBin oIx (eLoc 4) (eK (.int 1))) eNil)) eNil)) [some (.ref D), some w0, some (.ref P), some (wp q), some (.ref n)] (h ++ g1) = .v (.bl false) (h ++ (g1 ++ g2) ++ [.lst ((sortS ms).map W.str)]) := by
    refine (bin_ (meth_K (x.app (g := g1)).toDoc rfl rfl k2) tu).trans ?_
    rw [sort_sim pm]
    exact ne_tup fun s hs => lt_chars (N.ml s (d2.subset ((sortS_perm ms).mem_iff.mp hs)))
  have s2 := if_f (a := eRet (eK (.bl false))) (or_ff c1 c2)
  rw [List.append_assoc] at s2
  generalize g1 ++ g2 ++ [IO.lst ((sortS ms).map W.str)] = G1 at s2
  -- width, text
  have x1 : DX (h ++ G1) D A lo w M := x.app
  obtain ⟨g3, k3⟩ := width_ok (d := d + 2) x1 hq'
  rw [List.append_assoc] at k3
  have bl : ∀ g : IH, eBlt bLen (eCons (eBin oIx (eLoc 4) (eK (.int 2))) eNil) [some (.ref D), some w0, some (.ref P), some (wp q), some (.ref n)] (h ++ g) = .v (.int cs.length) (h ++ g) := fun g => by
    have b0 : bLen [.ref c] (h ++ g) = .v (.int cs.length) (h ++ g) := by
      show (match lstAt (h ++ g) c with | some ls => Out.v (.int (ls.length : Nat)) (h ++ g) | none => .no) = _
      unfold lstAt; rw [get_app ec]; simp [tl]
    rw [eBlt_ap, eCons_ap, ixn g 2 (.ref c) rfl (by omega), vb_v, eNil_ap, vsb_vs, vsb_vs, b0]
  have c3 : eBin oNe (eMethS 5 (run (d + 6) 27) [] (eLoc 0) (eCons (eLoc 3) eNil)) (eBlt bLen (eCons (eBin oIx (eLoc 4) (eK (.int 2))) eNil)) [some (.ref D), some w0, some (.ref P), some (wp q), some (.ref n)] (h ++ G1) = .v (.bl false) (h ++ (G1 ++ g3)) := by
    refine (bin_ (meth_S x1.toDoc rfl rfl k3) (bl (G1 ++ g3))).trans ?_
    rw [hcl]; exact ne_int
  have x2 : DX (h ++ (G1 ++ g3)) D A lo w M := x.app
  obtain ⟨g4, D4, A4, w4, k4, dc⟩ := part_ok (d := d + 2) x2 hq'
  rw [List.append_assoc] at k4 dc
  have px := text_prop (d := d + 5) dc (meth_S (σ := [some (.ref D), some w0, some (.ref P), some (wp q), some (.ref n)]) (j := 3) x2.toDoc rfl rfl k4)
  obtain ⟨g5, lt⟩ := lt_ok (d := d + 6 - m' - 1) N.toNm m' (by omega) (.mk k' ms cs) (h ++ (G1 ++ g3 ++ g4)) (.ref n) lo' hi' (t10.app hh) (by simp; omega) drS0
  rw [show d + 6 - m' - 1 + m' + 1 = d + 6 by omega] at lt
  have c4 : eBin oNe (eProp 5 (run (d + 6) 20) (eMethS 5 (run (d + 6) 28) [] (eLoc 0) (eCons (eLoc 3) eNil))) (eCall (run (d + 6) 38) [] (eCons (eLoc 4) eNil)) [some (.ref D), some w0, some (.ref P), some (wp q), some (.ref n)] (h ++ (G1 ++ g3)) = .v (.bl false) (h ++ (G1 ++ g3 ++ g4) ++ g5) := by
    have ca : eCall (run (d + 6) 38) [] (eCons (eLoc 4) eNil) [some (.ref D), some w0, some (.ref P), some (wp q), some (.ref n)] (h ++ (G1 ++ g3 ++ g4)) = .v (.str (txS (.mk k' ms cs))) (h ++ (G1 ++ g3 ++ g4) ++ g5) := by
      simp only [eCall_ap, eCons_ap, eNil_ap, eLoc_ap, List.getElem?_cons_zero, List.getElem?_cons_succ, locO_s, vb_v, vsb_vs, List.append_nil, lt, cb_v]
    refine (bin_ px ca).trans ?_
    rw [sim_txS (M := .mk k' ms' cs') (T := .mk k' ms cs) (by unfold Tr.sim; exact ⟨rfl, pm, smK⟩)]
    exact ne_str
  have s3 := if_f (a := eRet (eK (.bl false))) (or_ff c3 c4)
  rw [List.append_assoc h] at s3
  generalize G1 ++ g3 ++ g4 ++ g5 = G2 at s3
  -- in
  have x3 : DX (h ++ G2) D A lo w M := x.app
  obtain ⟨g6, k6⟩ := ct_ints (d := d + 4) (z := nI (q ++ [cs.length])) x3.toDoc (by simp [nI]; omega)
  rw [decide_eq_false (fun z => by
    obtain ⟨S2, e2⟩ := mem_0.mp (mem_nI.mp z)
    rw [sub_app _ _ _ _ hq'] at e2
    simp only [sub, Tr.cs] at e2
    rw [List.getElem?_eq_none (by omega)] at e2
    cases e2), List.append_assoc] at k6
  have pa : eBin oAdd (eLoc 3) (eTup (eCons (eBlt bLen (eCons (eBin oIx (eLoc 4) (eK (.int 2))) eNil)) eNil)) [some (.ref D), some w0, some (.ref P), some (wp q), some (.ref n)] (h ++ G2) = .v (wI (nI (q ++ [cs.length]))) (h ++ G2) := by
    have tq : eTup (eCons (eBlt bLen (eCons (eBin oIx (eLoc 4) (eK (.int 2))) eNil)) eNil) [some (.ref D), some w0, some (.ref P), some (wp q), some (.ref n)] (h ++ G2) = .v (.tup [.int cs.length]) (h ++ G2) := by
      rw [eTup_ap, eCons_ap, bl G2, vb_v, eNil_ap, vsb_vs, vsb_vs, if_pos (by simp)]
    refine (bin_ (show eLoc 3 [some (.ref D), some w0, some (.ref P), some (wp q), some (.ref n)] (h ++ G2) = .v (wp q) (h ++ G2) from rfl) tq).trans ?_
    show (if ((nI q).map W.int).length + [W.int (cs.length : Int)].length ≤ 16777216 then Out.v (.tup ((nI q).map W.int ++ [.int cs.length])) (h ++ G2) else .no) = _
    rw [if_pos (by simp [nI]; omega)]
    rw [wI, ← nI_app]
  have c5 : eBin (oInO 5 (run (d + 6) 23)) (eBin oAdd (eLoc 3) (eTup (eCons (eBlt bLen (eCons (eBin oIx (eLoc 4) (eK (.int 2))) eNil)) eNil))) (eLoc 0) [some (.ref D), some w0, some (.ref P), some (wp q), some (.ref n)] (h ++ G2) = .v (.bl false) (h ++ (G2 ++ g6)) :=
    (bin_ pa (show eLoc 0 [some (.ref D), some w0, some (.ref P), some (wp q), some (.ref n)] (h ++ G2) = .v (.ref D) (h ++ G2) from rfl)).trans (in_O x3.toDoc k6)
  have x4 : DX (h ++ (G2 ++ g6)) D A lo w M := x.app
  obtain ⟨g7, k7⟩ := ct_ints (d := d + 4) (z := nI q) x4.toDoc (by simp [nI]; omega)
  rw [decide_eq_true (mem_nI.mpr (mem_0.mpr ⟨_, hq'⟩)), List.append_assoc] at k7
  have c6 : eBin (oNotInO 5 (run (d + 6) 23)) (eLoc 3) (eLoc 0) [some (.ref D), some w0, some (.ref P), some (wp q), some (.ref n)] (h ++ (G2 ++ g6)) = .v (.bl false) (h ++ (G2 ++ g6 ++ g7)) :=
    (bin_ (show eLoc 3 [some (.ref D), some w0, some (.ref P), some (wp q), some (.ref n)] (h ++ (G2 ++ g6)) = .v (wp q) (h ++ (G2 ++ g6)) from rfl) (show eLoc 0 [some (.ref D), some w0, some (.ref P), some (wp q), some (.ref n)] (h ++ (G2 ++ g6)) = .v (.ref D) (h ++ (G2 ++ g6)) from rfl)).trans (notin_O x4.toDoc k7)
  have x5 : DX (h ++ (G2 ++ g6 ++ g7) ++ [.lst ((nI q).map W.int)]) D A lo w M := (x.app (g := G2 ++ g6 ++ g7)).app
  have k8 := ct_non (d := d + 4) (y := .ref (h ++ (G2 ++ g6 ++ g7)).length) (g := .lst) x5.toDoc (by unfold tgOf; simp) rfl
  have c7 : eBin (oInO 5 (run (d + 6) 23)) (eBlt bList (eCons (eLoc 3) eNil)) (eLoc 0) [some (.ref D), some w0, some (.ref P), some (wp q), some (.ref n)] (h ++ (G2 ++ g6 ++ g7)) = .v (.bl false) (h ++ (G2 ++ g6 ++ g7) ++ [.lst ((nI q).map W.int)]) :=
    (bin_ (show eBlt bList (eCons (eLoc 3) eNil) [some (.ref D), some w0, some (.ref P), some (wp q), some (.ref n)] (h ++ (G2 ++ g6 ++ g7)) = .v (.ref (h ++ (G2 ++ g6 ++ g7)).length) (h ++ (G2 ++ g6 ++ g7) ++ [.lst ((nI q).map W.int)]) from rfl) (show eLoc 0 [some (.ref D), some w0, some (.ref P), some (wp q), some (.ref n)] (h ++ (G2 ++ g6 ++ g7) ++ [.lst ((nI q).map W.int)]) = .v (.ref D) (h ++ (G2 ++ g6 ++ g7) ++ [.lst ((nI q).map W.int)]) from rfl)).trans (in_O x5.toDoc k8)
  have s4 := if_f (a := eRet (eK (.bl false))) (or_ff c5 (or_ff c6 c7))
  refine ⟨some (.ref n), G2 ++ g6 ++ g7 ++ [.lst ((nI q).map W.int)], ?_⟩
  unfold nrB
  rw [eSeq_ap, s1, nb_nx, eSeq_ap, s2, nb_nx, eSeq_ap, s3, nb_nx, s4, List.append_assoc h]
end
end Dr.L
set_option maxHeartbeats 1000000
namespace Dr.L
open PySem L2 PyProof.Rows Dr
variable {t : Str} {i r d : Nat} {h : IH}
/-- a loop over a list whose turns only make things -/
theorem forA {n : Nat} {ws : List W} {v : Nat} {b : Ev} {H : IH} (I : Sg → Prop) (hn : H[n]? = some (.lst ws)) (hz : ws.length < 1000)
    (hs : ∀ w ∈ ws, ∀ σ g, I σ → ∃ s g', b (σ.set v (some w)) (H ++ g) = .nx s (H ++ g ++ g') ∧ I s) {σ : Sg} (h0 : I σ) : ∃ s g, forL (jL n) (gN v) b nF 0 σ H = .nx s (H ++ g) ∧ I s := by
  obtain ⟨s, h', e, ⟨g, rfl⟩, q⟩ := forI (J := jL n) (g := gN v) (b := b) (n := ws.length) (fun _ σ h => (∃ g, h = H ++ g) ∧ I σ) (by
    rintro s σ h' hl ⟨⟨g, rfl⟩, q⟩
    have ew : ws[s]? = some ws[s] := List.getElem?_eq_getElem hl
    obtain ⟨σ2, g', e, q2⟩ := hs ws[s] (List.getElem_mem hl) σ g q
    refine ⟨ws[s], _, σ2, _, ?_, rfl, e, ⟨g ++ g', by rw [List.append_assoc]⟩, q2⟩
    have : lstAt (H ++ g) n = some ws := by unfold lstAt; rw [get_app hn]
    unfold jL
    simp only [this, ew]) (by
    rintro σ h' ⟨⟨g, rfl⟩, q⟩
    have : lstAt (H ++ g) n = some ws := by unfold lstAt; rw [get_app hn]
    unfold jL
    simp only [this]
    simp) nF 0 σ H (Nat.zero_le _) (by show _ < 100000; omega) ⟨⟨[], by simp⟩, h0⟩
  exact ⟨s, g, e, q⟩
section
variable {ks ms0 : List Str} {D A lo : Nat} {w : W} {M : Tr}
mutual
theorem pathsN_len : ∀ (T : Tr) (q : List Nat), (pathsN q T).length = T.size
  | .mk k ms cs, q => by rw [pathsN, List.length_cons, pathsNK_len cs q 0, Tr.size]; omega
theorem pathsNK_len : ∀ (Ts : List Tr) (q : List Nat) (i : Nat), (pathsNK q i Ts).length = sizes Ts
  | [], q, i => by rw [pathsNK]; rfl
  | T :: Ts, q, i => by rw [pathsNK, List.length_append, pathsN_len T, pathsNK_len Ts, sizes]
end
theorem nodes_ok {T : Tr} {w0 : W} {lo' hi' P m : Nat} (N : NmX ks ms0) (hm : m ≤ 4) (x : DX h D A lo w M) (sm : M.sim T) (dr : T.dr ks ms0 m) (tr : LIn h lo' hi' w0 T) (hh : hi' ≤ h.length) (hP : h[P]? = some (.lst ((pathsN [] T).map wp))) :
    ∃ g, run (d + 7) 42 [.ref D, w0, .ref P] h = .v (.bl true) (h ++ g) := by
  have e0 : run (d + 7) 42 [.ref D, w0, .ref P] h = (b42 (run (d + 6)) nF [some (.ref D), some w0, some (.ref P), none, none] h).fin := fn_run (d := d + 6) (b := b42) (n := 3) (N := 5) rfl rfl
  have hsz := dr_size T m dr
  have hsb := SB_le m hm
  obtain ⟨s, g, e1, y3, y4, rfl⟩ := forA (v := 3) (b := nrB (d + 6)) (fun σ => ∃ y3 y4, σ = [some (.ref D), some w0, some (.ref P), y3, y4]) hP (by rw [List.length_map, pathsN_len]; omega) (by
    rintro v hv σ g ⟨y3, y4, rfl⟩
    obtain ⟨q, hq, rfl⟩ := List.mem_map.mp hv
    obtain ⟨S, hS⟩ := mem_0.mp hq
    obtain ⟨y4', g', e⟩ := nrB_ok (d := d) (P := P) (y4 := y4) N hm (x.app (g := g)) sm dr (tr.app hh) (by simp; omega) hS
    exact ⟨_, g', e, _, _, rfl⟩) ⟨none, none, rfl⟩
  refine ⟨g, ?_⟩
  rw [e0]
  unfold b42
  rw [eSeq_ap]
  have fe := (eFor_it (g := gN 3) (b := nrB (d + 6)) (n := nF) (it_L (E := eLoc 2) (σ := [some (.ref D), some w0, some (.ref P), none, none]) (h := h) (h1 := h) rfl hP)).trans e1
  rw [fe]
  rfl
/-! ### the law's walk over all nodes -/
theorem lcR {own : List Nat} {v : Nat} {it : EvI} {e : Ev} {σ : Sg} {h h1 : IH} {n : Nat} {f : Nat → W} (q : it σ h = .it (jR 0 n) h1) (hz : n < 1000) (he : ∀ i g, i < n → e ((wipeW σ own).set v (some (.int (0 + (i : Nat))))) g = .v (f i) g) :
    eLc nF it own (gN v) eYes e σ h = .v (.ref h1.length) (h1 ++ [.lst ((List.range n).map f)]) := by
  have L := lcI (J := jR 0 n) (g := gN v) (t := eYes) (e := e) (D := h1.length) (σ0 := wipeW σ own) (n := n) (fun s h' => h' = h1 ++ [IO.lst ((List.range s).map f)])
    (by
      rintro s h' hs rfl
      refine ⟨.int (0 + (s : Nat)), (wipeW σ own).set v (some (.int (0 + (s : Nat)))), f s, h1 ++ [IO.lst ((List.range s).map f)], (List.range s).map f, ?_, rfl, rfl, he _ _ hs, by simp, by simp; omega, ?_⟩
      · unfold jR; rw [if_pos hs]
      · rw [List.set_append_right _ _ (Nat.le_refl _), Nat.sub_self, List.set_cons_zero, List.range_succ]
        simp only [List.map_append, List.map_cons, List.map_nil])
    (by rintro h' rfl; unfold jR; rw [if_neg (by omega)])
    nF 0 (h1 ++ [.lst []]) (Nat.zero_le _) (by show _ < 100000; omega) (by simp)
  obtain ⟨h', e1, rfl⟩ := L
  exact (eLc_it q).trans e1
def kidQ (q : List Nat) (i : Nat) : List Tr → List (List Nat × Tr)
  | [] => []
  | T :: Ts => (q ++ [i], T) :: kidQ q (i + 1) Ts
theorem kidQ_paths (q : List Nat) : ∀ (i : Nat) (Ts : List Tr), (kidQ q i Ts).flatMap (fun x => pathsN x.1 x.2) = pathsNK q i Ts
  | i, [] => by rw [kidQ, pathsNK]; rfl
  | i, T :: Ts => by rw [kidQ, List.flatMap_cons, pathsNK, kidQ_paths q (i + 1) Ts]
theorem kidQ_fst (q : List Nat) : ∀ (i : Nat) (Ts : List Tr), (kidQ q i Ts).map Prod.fst = (List.range' i Ts.length).map (fun j => q ++ [j])
  | i, [] => rfl
  | i, T :: Ts => by
    rw [kidQ, List.map_cons, kidQ_fst q (i + 1) Ts, List.length_cons, List.range'_succ, List.map_cons]
theorem kidQ_mem (q : List Nat) : ∀ (i : Nat) (Ts : List Tr) (x : List Nat × Tr), x ∈ kidQ q i Ts → ∃ j, Ts[j]? = some x.2 ∧ x.1 = q ++ [i + j]
  | i, [], x, hx => by simp [kidQ] at hx
  | i, T :: Ts, x, hx => by
    rcases List.mem_cons.mp hx with rfl | hx
    · exact ⟨0, rfl, rfl⟩
    · obtain ⟨j, h1, h2⟩ := kidQ_mem q (i + 1) Ts x hx
      exact ⟨j + 1, by simpa using h1, by rw [h2, show i + 1 + j = i + (j + 1) by omega]⟩
def szQ : List (List Nat × Tr) → Nat
  | [] => 0
  | x :: xs => x.2.size + szQ xs
theorem szQ_app : ∀ a b, szQ (a ++ b) = szQ a + szQ b
  | [], b => by simp [szQ]
  | x :: a, b => by simp only [List.cons_append, szQ, szQ_app a b]; omega
theorem szQ_kid (q : List Nat) : ∀ (i : Nat) (Ts : List Tr), szQ (kidQ q i Ts) = sizes Ts
  | i, [] => rfl
  | i, T :: Ts => by rw [kidQ, szQ, sizes, szQ_kid q (i + 1) Ts]
theorem szQ_len : ∀ st : List (List Nat × Tr), st.length ≤ szQ st
  | [] => by simp
  | x :: st => by have := szQ_len st; have := size_pos x.2; simp only [List.length_cons, szQ]; omega
abbrev evC : Ev := eAnd (eBin oNe (eLoc 2) (eLst eNil)) (eBin oLt (eBlt bLen (eCons (eLoc 1) eNil)) (eK (.int 200)))
abbrev evK (d : Nat) : Ev := eLc nF (iR1 (eCons (eMethS 5 (run d 27) [] (eLoc 0) (eCons (eLoc 3) eNil)) eNil)) [4] (gN 4) eYes (eBin oAdd (eLoc 3) (eTup (eCons (eLoc 4) eNil)))
abbrev evB (d : Nat) : Ev := eSeq (eAsg (gN 3) (eBM "list" mPop (eLoc 2) eNil)) (eSeq (eDrop (eBM "list" mAppend (eLoc 1) (eCons (eLoc 3) eNil))) (eAsg (gN 2) (eBin oAdd (eLoc 2) (eRev (evK d)))))
theorem evC_ok {F L : Nat} {st : List W} {acc : List W} {y3 y4 : Option W} (hF : h[F]? = some (.lst acc)) (hL : h[L]? = some (.lst st)) (ha : acc.length < 200) :
    evC [some (.ref D), some (.ref F), some (.ref L), y3, y4] h = .v (.bl (decide (st ≠ []))) (h ++ [.lst []]) := by
  have l1 : lstAt (h ++ [IO.lst []]) L = some st := by unfold lstAt; rw [get_app hL]
  have l2 : lstAt (h ++ [IO.lst []]) h.length = some [] := by unfold lstAt; simp
  have ne : eBin oNe (eLoc 2) (eLst eNil) [some (.ref D), some (.ref F), some (.ref L), y3, y4] h = .v (.bl (decide (st ≠ []))) (h ++ [IO.lst []]) := by
    simp only [eBin_ap, eLoc_ap, List.getElem?_cons_zero, List.getElem?_cons_succ, locO_s, vb_v, eLst_ap, eNil_ap, vsb_vs, List.length_nil, Nat.zero_le, if_true]
    cases st with
    | nil => simp [oNe, eqD, lenQ, l1, l2]
    | cons a S => simp [oNe, eqD, lenQ, l1, l2]
  have bl : bLen [.ref F] (h ++ [IO.lst []]) = .v (.int acc.length) (h ++ [IO.lst []]) := by
    show (match lstAt (h ++ [IO.lst []]) F with | some ls => Out.v (.int (ls.length : Nat)) (h ++ [IO.lst []]) | none => .no) = _
    unfold lstAt; rw [get_app hF]
  unfold evC
  rw [eAnd_ap, ne, vb_v]
  cases st with
  | nil => rfl
  | cons a S =>
    simp only [ne_eq, reduceCtorEq, not_false_eq_true, decide_true, eBin_ap, eBlt_ap, eCons_ap, eNil_ap, eLoc_ap, eK_ap, List.getElem?_cons_zero, List.getElem?_cons_succ, locO_s, vb_v, vsb_vs, bl, oLt_int]
    rw [decide_eq_true (by omega)]
theorem evK_ok {F L : Nat} {q : List Nat} {k : Str} {ms : List Str} {cs : List Tr} {y4 : Option W} (x : DX h D A lo w M) (hq : sub q M = some (.mk k ms cs)) :
    ∃ g, evK (d + 4) [some (.ref D), some (.ref F), some (.ref L), some (wp q), y4] h = .v (.ref (h ++ g).length) (h ++ g ++ [.lst ((List.range cs.length).map fun j => wp (q ++ [j]))]) := by
  obtain ⟨g, e1⟩ := width_ok (d := d) x hq
  have hz := sub_size q M _ hq
  have xz := x.sz
  have cz : cs.length ≤ sizes cs := by rw [← szQ_kid q 0 cs]; have := szQ_len (kidQ q 0 cs); have l : (kidQ q 0 cs).length = cs.length := by have := congrArg List.length (kidQ_fst q 0 cs); simpa using this
                                       omega
  simp only [Tr.size] at hz
  refine ⟨g, lcR (n := cs.length) (h1 := h ++ g) (it_R1 (by omega) ?_) (by omega) fun j g' hj => ?_⟩
  · rw [eCons_ap, meth_S (y := wp q) x.toDoc rfl rfl e1, vb_v, eNil_ap, vsb_vs]
  · show eBin oAdd (eLoc 3) (eTup (eCons (eLoc 4) eNil)) [some (.ref D), some (.ref F), some (.ref L), some (wp q), some (.int (0 + (j : Nat)))] g' = _
    rw [Int.zero_add]
    refine (bin_ (show eLoc 3 [some (.ref D), some (.ref F), some (.ref L), some (wp q), some (.int (j : Nat))] g' = .v (wp q) g' from rfl) (show eTup (eCons (eLoc 4) eNil) [some (.ref D), some (.ref F), some (.ref L), some (wp q), some (.int (j : Nat))] g' = .v (.tup [.int (j : Nat)]) g' from rfl)).trans ?_
    show (if ((nI q).map W.int).length + [W.int (j : Int)].length ≤ 16777216 then Out.v (.tup ((nI q).map W.int ++ [.int j])) g' else .no) = _
    rw [if_pos (by simp [nI]; omega), wp, wI, ← nI_app]
end
end Dr.L
set_option maxHeartbeats 1000000
namespace Dr.L
open PySem L2 PyProof.Rows Dr
variable {t : Str} {i r d : Nat} {h : IH}
section
variable {D A lo : Nat} {w : W} {M : Tr}
theorem ev_loop (x : DX h D A lo w M) {F : Nat} (hFh : h.length ≤ F) : ∀ (n : Nat) (st : List (List Nat × Tr)) (g : IH) (acc : List (List Nat)) (L : Nat) (y3 y4 : Option W), szQ st < n → szQ st + acc.length < 200 → (∀ z ∈ st, sub z.1 M = some z.2) → (h ++ g)[F]? = some (.lst (acc.map wp)) → (h ++ g)[L]? = some (.lst ((st.map Prod.fst).map wp).reverse) → F ≠ L → h.length ≤ L →
    ∃ L' y3' y4' g', eWhl evC (evB (d + 4)) n [some (.ref D), some (.ref F), some (.ref L), y3, y4] (h ++ g) = .nx [some (.ref D), some (.ref F), some (.ref L'), y3', y4'] (h ++ g') ∧ (h ++ g')[F]? = some (.lst ((acc ++ st.flatMap (fun z => pathsN z.1 z.2)).map wp))
  | 0, _, _, _, _, _, _, hf, _, _, _, _, _, _ => absurd hf (Nat.not_lt_zero _)
  | n + 1, [], g, acc, L, y3, y4, hf, hz, hs, eF, eL, hne, hL => by
    have hc := evC_ok (D := D) (y3 := y3) (y4 := y4) eF eL (by simp only [List.length_map]; simp only [szQ] at hz; omega)
    refine ⟨L, y3, y4, g ++ [IO.lst []], ?_, ?_⟩
    · rw [whl_f hc, List.append_assoc]
    · rw [← List.append_assoc, get_app eF]; simp
  | n + 1, (q, S) :: st, g, acc, L, y3, y4, hf, hz, hs, eF, eL, hne, hL => by
    have hq := hs (q, S) (List.mem_cons_self ..)
    obtain ⟨k, ms, cs⟩ := S
    simp only at hq
    simp only [szQ, Tr.size] at hf hz
    have hsz := sub_size q M _ hq
    have xz := x.sz
    have hc := evC_ok (D := D) (y3 := y3) (y4 := y4) eF eL (by simp only [List.length_map]; omega)
    rw [decide_eq_true (by simp)] at hc
    have eL1 : (h ++ g ++ [IO.lst []])[L]? = some (IO.lst (((st.map Prod.fst).map wp).reverse ++ [wp q])) := by rw [get_app eL]; simp
    have eF1 : (h ++ g ++ [IO.lst []])[F]? = some (IO.lst (acc.map wp)) := get_app eF
    have s1 : eAsg (gN 3) (eBM "list" mPop (eLoc 2) eNil) [some (.ref D), some (.ref F), some (.ref L), y3, y4] (h ++ g ++ [IO.lst []]) = .nx [some (.ref D), some (.ref F), some (.ref L), some (wp q), y4] ((h ++ g ++ [IO.lst []]).set L (IO.lst ((st.map Prod.fst).map wp).reverse)) := by
      rw [eAsg_ap, eBM_ap]
      simp only [eLoc_ap, List.getElem?_cons_zero, List.getElem?_cons_succ, locO_s, vb_v, eNil_ap, vsb_vs]
      rw [pop_ok eL1]; rfl
    have eF2 : ((h ++ g ++ [IO.lst []]).set L (IO.lst ((st.map Prod.fst).map wp).reverse))[F]? = some (IO.lst (acc.map wp)) := by rw [List.getElem?_set_ne (Ne.symm hne)]; exact eF1
    have eL2 : ((h ++ g ++ [IO.lst []]).set L (IO.lst ((st.map Prod.fst).map wp).reverse))[L]? = some (IO.lst ((st.map Prod.fst).map wp).reverse) := get_set eL1
    have s2 : eDrop (eBM "list" mAppend (eLoc 1) (eCons (eLoc 3) eNil)) [some (.ref D), some (.ref F), some (.ref L), some (wp q), y4] ((h ++ g ++ [IO.lst []]).set L (IO.lst ((st.map Prod.fst).map wp).reverse)) = .nx [some (.ref D), some (.ref F), some (.ref L), some (wp q), y4] (((h ++ g ++ [IO.lst []]).set L (IO.lst ((st.map Prod.fst).map wp).reverse)).set F (IO.lst ((acc ++ [q]).map wp))) := by
      rw [eDrop_ap, eBM_ap]
      simp only [eLoc_ap, List.getElem?_cons_zero, List.getElem?_cons_succ, locO_s, vb_v, eCons_ap, eNil_ap, vsb_vs]
      rw [app_ok eF2 (by simp only [List.length_map]; omega)]
      simp
    have eF3 : (((h ++ g ++ [IO.lst []]).set L (IO.lst ((st.map Prod.fst).map wp).reverse)).set F (IO.lst ((acc ++ [q]).map wp)))[F]? = some (IO.lst ((acc ++ [q]).map wp)) := get_set eF2
    have eL3 : (((h ++ g ++ [IO.lst []]).set L (IO.lst ((st.map Prod.fst).map wp).reverse)).set F (IO.lst ((acc ++ [q]).map wp)))[L]? = some (IO.lst ((st.map Prod.fst).map wp).reverse) := by rw [List.getElem?_set_ne hne]; exact eL2
    obtain ⟨g3, e3⟩ := ext_of (h := h) (h' := ((h ++ g ++ [IO.lst []]).set L (IO.lst ((st.map Prod.fst).map wp).reverse)).set F (IO.lst ((acc ++ [q]).map wp))) (by simp only [List.length_set, List.length_append]; omega) (fun a ha => by rw [List.getElem?_set_ne (by omega), List.getElem?_set_ne (by omega), List.getElem?_append_left (by simp; omega), List.getElem?_append_left ha])
    rw [e3] at s2 eF3 eL3
    obtain ⟨g4, s3⟩ := evK_ok (d := d) (F := F) (L := L) (y4 := y4) (x.app (g := g3)) hq
    have hkq : ((kidQ q 0 cs).map Prod.fst).map wp = (List.range cs.length).map fun j => wp (q ++ [j]) := by
      rw [kidQ_fst, List.map_map, List.range_eq_range']; rfl
    have kl : (kidQ q 0 cs).length = cs.length := by have := congrArg List.length (kidQ_fst q 0 cs); simpa using this
    generalize ((List.range cs.length).map fun j => wp (q ++ [j])) = KS at s3 hkq
    have ksl : KS.length = cs.length := by rw [← hkq, List.length_map, List.length_map, kl]
    have lr : lstAt (h ++ g3 ++ g4 ++ [IO.lst KS]) (h ++ g3 ++ g4).length = some KS := by unfold lstAt; simp
    have s4 : eRev (evK (d + 4)) [some (.ref D), some (.ref F), some (.ref L), some (wp q), y4] (h ++ g3) = .v (.ref (h ++ g3 ++ g4 ++ [IO.lst KS]).length) (h ++ g3 ++ g4 ++ [IO.lst KS] ++ [IO.lst KS.reverse]) := by
      rw [eRev_ap, s3, vb_v]
      unfold oRev
      simp only [lr]
    have cz : cs.length ≤ sizes cs := by rw [← szQ_kid q 0 cs, ← kl]; exact szQ_len _
    have sl := szQ_len st
    have s5 : eAsg (gN 2) (eBin oAdd (eLoc 2) (eRev (evK (d + 4)))) [some (.ref D), some (.ref F), some (.ref L), some (wp q), y4] (h ++ g3) = .nx [some (.ref D), some (.ref F), some (.ref (h ++ g3 ++ g4 ++ [IO.lst KS] ++ [IO.lst KS.reverse]).length), some (wp q), y4] (h ++ g3 ++ g4 ++ [IO.lst KS] ++ [IO.lst KS.reverse] ++ [IO.lst (((st.map Prod.fst).map wp).reverse ++ KS.reverse)]) := by
      have ad := oAdd_l (xs := ((st.map Prod.fst).map wp).reverse) (ys := KS.reverse) (h := h ++ g3 ++ g4 ++ [IO.lst KS] ++ [IO.lst KS.reverse]) (a := L) (b := (h ++ g3 ++ g4 ++ [IO.lst KS]).length) (get_app (get_app (get_app eL3))) (by simp) (by simp only [List.length_reverse, List.length_map]; omega)
      rw [eAsg_ap, bin_ (show eLoc 2 [some (.ref D), some (.ref F), some (.ref L), some (wp q), y4] (h ++ g3) = .v (.ref L) (h ++ g3) from rfl) s4, ad]
      rfl
    have hb : evB (d + 4) [some (.ref D), some (.ref F), some (.ref L), y3, y4] (h ++ g ++ [IO.lst []]) = .nx [some (.ref D), some (.ref F), some (.ref (h ++ g3 ++ g4 ++ [IO.lst KS] ++ [IO.lst KS.reverse]).length), some (wp q), y4] (h ++ g3 ++ g4 ++ [IO.lst KS] ++ [IO.lst KS.reverse] ++ [IO.lst (((st.map Prod.fst).map wp).reverse ++ KS.reverse)]) := by
      unfold evB
      rw [eSeq_ap, s1, nb_nx, eSeq_ap, s2, nb_nx, s5]
    rw [whl_nx hc hb]
    have l3 := lt_of eF3
    have ih := ev_loop x hFh n (kidQ q 0 cs ++ st) (g3 ++ (g4 ++ ([IO.lst KS] ++ ([IO.lst KS.reverse] ++ [IO.lst (((st.map Prod.fst).map wp).reverse ++ KS.reverse)])))) (acc ++ [q]) (h ++ g3 ++ g4 ++ [IO.lst KS] ++ [IO.lst KS.reverse]).length (some (wp q)) y4
      (by rw [szQ_app, szQ_kid]; omega) (by rw [szQ_app, szQ_kid]; simp only [List.length_append, List.length_cons, List.length_nil]; omega) (fun z hz' => by
        rcases List.mem_append.mp hz' with hz' | hz'
        · obtain ⟨j, h1, h2⟩ := kidQ_mem q 0 cs z hz'
          rw [h2, sub_app _ _ _ _ hq]
          simp only [sub, Tr.cs, Nat.zero_add, h1]
        · exact hs z (List.mem_cons_of_mem _ hz')) (by rw [← List.append_assoc]; exact get_app eF3) (by
        rw [show h ++ (g3 ++ (g4 ++ ([IO.lst KS] ++ ([IO.lst KS.reverse] ++ [IO.lst (((st.map Prod.fst).map wp).reverse ++ KS.reverse)])))) = (h ++ g3 ++ g4 ++ [IO.lst KS] ++ [IO.lst KS.reverse]) ++ [IO.lst (((st.map Prod.fst).map wp).reverse ++ KS.reverse)] by simp, List.getElem?_append_right (Nat.le_refl _), Nat.sub_self, List.map_append, List.map_append, List.reverse_append, hkq]
        rfl) (by simp only [List.length_append, List.length_cons, List.length_nil] at l3 ⊢; omega) (by simp only [List.length_append]; omega)
    obtain ⟨L', y3', y4', g', r1, r2⟩ := ih
    refine ⟨L', y3', y4', g', ?_, ?_⟩
    · rw [← r1]
      congr 1
      simp only [List.append_assoc]
    · rw [r2, List.flatMap_append, kidQ_paths, List.flatMap_cons, pathsN]
      simp
theorem every_ok (x : DX h D A lo w M) (hz : M.size < 200) : ∃ F g, run (d + 5) 43 [.ref D] h = .v (.ref F) (h ++ g) ∧ (h ++ g)[F]? = some (.lst ((pathsN [] M).map wp)) := by
  have e0 : run (d + 5) 43 [.ref D] h = (b43 (run (d + 4)) nF [some (.ref D), none, none, none, none] h).fin := fn_run (d := d + 4) (b := b43) (n := 1) (N := 5) rfl rfl
  have s1 : ePar 1 2 (eCons (eLst eNil) (eCons (eLst (eCons (eTup eNil) eNil)) eNil)) [some (.ref D), none, none, none, none] h = .nx [some (.ref D), some (.ref h.length), some (.ref (h.length + 1)), none, none] (h ++ [IO.lst [], .lst [.tup []]]) := by
    simp only [ePar_ap, eCons_ap, eLst_ap, eTup_ap, eNil_ap, vsb_vs, vb_v, List.length_nil, List.length_cons, Nat.zero_le, if_true]
    rw [if_pos (by omega)]
    simp
  obtain ⟨L', y3', y4', g', r1, r2⟩ := ev_loop (d := d) x (Nat.le_refl _) nF [([], M)] [IO.lst [], .lst [.tup []]] [] (h.length + 1) none none (by simp only [szQ]; show _ < 100000; omega) (by simp only [szQ, List.length_nil]; omega) (fun z hz' => by simp at hz'; subst hz'; rfl) (by simp) (by rw [List.getElem?_append_right (by omega)]; simp; rfl) (by omega) (by omega)
  refine ⟨h.length, g', ?_, by rw [r2]; simp⟩
  rw [e0]
  unfold b43
  rw [eSeq_ap, s1, nb_nx, eSeq_ap]
  show ((eWhl evC (evB (d + 4)) nF [some (.ref D), some (.ref h.length), some (.ref (h.length + 1)), none, none] (h ++ [IO.lst [], .lst [.tup []]])).nb (eRet (eLoc 1))).fin = _
  rw [r1]
  rfl
end
end Dr.L
set_option maxHeartbeats 1000000
namespace Dr.L
open PySem L2 PyProof.Rows Dr
variable {t : Str} {i r d : Nat} {h : IH}
section
variable {D A : Nat} {w : W} {M : Tr}
theorem isO_doc (x : Doc h D A w M) : isO tsO5 tkO (.ref D) h = some true := by
  unfold isO slOf
  simp only [x.d, docO]
  rfl
theorem eq_doc {D2 A2 : Nat} {w2 : W} {M2 : Tr} (x : Doc h D A w M) (y : Doc h D2 A2 w2 M2) : run (d + 2) 34 [.ref D, .ref D2] h = .v (.bl (decide (txS M = txS M2))) h := by
  have e0 : run (d + 2) 34 [.ref D, .ref D2] h = (b34 (run (d + 1)) nF [some (.ref D), some (.ref D2)] h).fin := fn_run (d := d + 1) (b := b34) (n := 2) (N := 2) rfl rfl
  have p1 := text_prop (d := d) (o := eLoc 0) (σ := [some (.ref D), some (.ref D2)]) (h := h) x rfl
  have p2 := text_prop (d := d) (o := eLoc 1) (σ := [some (.ref D), some (.ref D2)]) (h := h) y rfl
  rw [e0]
  unfold b34
  rw [eSeq_ap, eIfS_ap, eNot_ap, eIsO_ap, show eLoc 1 [some (.ref D), some (.ref D2)] h = .v (.ref D2) h from rfl, vb_v, isO_doc y]
  simp only [vb_v]
  show (Out.nb (.nx [some (.ref D), some (.ref D2)] h) (eRet (eBin oEq (eProp 5 (run (d + 1) 20) (eLoc 0)) (eProp 5 (run (d + 1) 20) (eLoc 1))))).fin = _
  rw [nb_nx, eRet_ap, bin_ p1 p2]
  simp only [oEq, eqD, eqS_eq]
  rfl
theorem eq_int (x : Doc h D A w M) : run (d + 2) 34 [.ref D, .int i] h = .v (.bl false) h := by
  have e0 : run (d + 2) 34 [.ref D, .int i] h = (b34 (run (d + 1)) nF [some (.ref D), some (.int i)] h).fin := fn_run (d := d + 1) (b := b34) (n := 2) (N := 2) rfl rfl
  rw [e0]; rfl
theorem eq_str (x : Doc h D A w M) : run (d + 2) 34 [.ref D, .str t] h = .v (.bl false) h := by
  have e0 : run (d + 2) 34 [.ref D, .str t] h = (b34 (run (d + 1)) nF [some (.ref D), some (.str t)] h).fin := fn_run (d := d + 1) (b := b34) (n := 2) (N := 2) rfl rfl
  rw [e0]; rfl
theorem right_doc (x : Doc h D A w M) : rightOk 5 (.ref D) h = true := by
  unfold rightOk
  simp only [x.d, docO]
  rfl
theorem size_prop {o : Ev} {σ : Sg} {h' : IH} (x : Doc h' D A w M) (e : o σ h = .v (.ref D) h') : eProp 5 (run (d + 1) 21) o σ h = .v (.int M.size) h' := by
  have e0 : run (d + 1) 21 [.ref D] h' = (b21 (run d) nF [some (.ref D)] h').fin := fn_run (d := d) (b := b21) (n := 1) (N := 1) rfl rfl
  have bl : bLen [.ref A] h' = .v (.int M.size) h' := by
    show (match lstAt h' A with | some ls => Out.v (.int (ls.length : Nat)) h' | none => .no) = _
    unfold lstAt; rw [x.a]; simp only [List.length_map, pathsN_len]
  have e1 : run (d + 1) 21 [.ref D] h' = .v (.int M.size) h' := by
    rw [e0]
    unfold b21
    rw [eRet_ap, eBlt_ap, eCons_ap, eSlot_ap, show eLoc 0 [some (.ref D)] h' = .v (.ref D) h' from rfl, vb_v, slot0 x, vb_v, eNil_ap, vsb_vs, vsb_vs, bl]; rfl
  rw [eProp_ap, e, vb_v, recvS_ok x, e1]; rfl
end
theorem ne_paths {a b : Nat} {ps : List (List Nat)} (ha : h[a]? = some (.lst (ps.map wp))) (hb : h[b]? = some (.lst (ps.map wp))) (hne : ps ≠ []) : oNe (.ref a) (.ref b) h = .v (.bl false) h := by
  have la : lstAt h a = some (ps.map wp) := by unfold lstAt; rw [ha]
  have lb : lstAt h b = some (ps.map wp) := by unfold lstAt; rw [hb]
  have da : ∀ n, lstAt h n = some (ps.map wp) → dat h 40 (.ref n) = some (.list (ps.map fun q => dI (nI q))) := fun n l => by
    show (match lstAt h n with | some ws => (match mapO (dat h 39) ws with | some ds => some (PyData.list ds) | none => none) | none => none) = _
    rw [l]
    simp only
    rw [show mapO (dat h 39) (ps.map wp) = some (ps.map fun q => dI (nI q)) from mapO_paths 37 ps]
  have ef : ∀ ps : List (List Nat), eqFs (ps.map fun q => dI (nI q)) (ps.map fun q => dI (nI q)) = true := by
    intro ps
    induction ps with
    | nil => rfl
    | cons q ps ih => simp only [List.map_cons, eqFs, eqF_I, decide_true, ih, Bool.and_self]
  have lq : lenQ (.ref a) (.ref b) h = none := by
    unfold lenQ
    simp only [la, lb]
    rw [if_neg (by simp), if_neg (by simp; exact hne)]
  unfold oNe eqD
  simp only [lq, da a la, da b lb, shaped_L, and_self, if_true]
  rw [eqF, ef]
  rfl
theorem nmX : NmX ["a", "item", "longname"] ["hot", "new", "z"] := by
  have A0 : ∀ s ∈ (["a", "item", "longname", "hot", "new", "z"] : List Str), (s.cps.toList.all isL && Nat.blt 0 s.length && Nat.ble s.length 8) = true := by decide +kernel
  have B : ∀ s ∈ (["a", "item", "longname", "hot", "new", "z"] : List Str), Lt s ∧ 0 < s.length ∧ s.length ≤ 8 := fun s hs => by
    have := A0 s hs
    simp only [Bool.and_eq_true, Nat.blt_eq, Nat.ble_eq, List.all_eq_true] at this
    exact ⟨this.1.1, this.1.2, this.2⟩
  have C1 : ∀ k ∈ (["a", "item", "longname"] : List Str), k ∈ (["a", "item", "longname", "hot", "new", "z"] : List Str) := fun k hk => (show k ∈ (["a", "item", "longname"] : List Str) ++ (["hot", "new", "z"] : List Str) from List.mem_append_left _ hk)
  have C2 : ∀ k ∈ (["hot", "new", "z"] : List Str), k ∈ (["a", "item", "longname", "hot", "new", "z"] : List Str) := fun k hk => (show k ∈ (["a", "item", "longname"] : List Str) ++ (["hot", "new", "z"] : List Str) from List.mem_append_right _ hk)
  exact ⟨⟨⟨fun k hk => (B k (C1 k hk)).2, fun m hm => (B m (C2 m hm)).2.2, by decide⟩, fun k hk => (B k (C1 k hk)).1, fun m hm => (B m (C2 m hm)).1⟩, fun m hm => (B m (C2 m hm)).2.1, by decide +kernel⟩
/-! ### odd values -/
def oddL (n : Nat) : List W := [.non, .int 5, .str "", .tup [.bl true], .tup [.int (-1)], .tup [.non], .tup [.int 0, .str "0"], .ref n, .tup [.str ""]]
abbrev oddE : Ev := eLst (eCons (eK .non) (eCons (eK (.int 5)) (eCons (eK (.str "")) (eCons (eTup (eCons (eK (.bl true)) eNil)) (eCons (eTup (eCons (eNeg (eK (.int 1))) eNil)) (eCons (eTup (eCons (eK .non) eNil)) (eCons (eTup (eCons (eK (.int 0)) (eCons (eK (.str "0")) eNil))) (eCons (eLst (eCons (eK (.int 0)) eNil)) (eCons (eTup (eCons (eK (.str "")) eNil)) eNil)))))))))
theorem oddE_ok {σ : Sg} : oddE σ h = .v (.ref (h.length + 1)) (h ++ [.lst [.int 0], .lst (oddL h.length)]) := by
  have : oddE σ h = .v (.ref (h ++ [IO.lst [.int 0]]).length) (h ++ [IO.lst [.int 0]] ++ [.lst (oddL h.length)]) := rfl
  rw [this]
  simp
section
variable {D A : Nat} {w : W} {M : Tr}
theorem odd_in {H g : IH} {n : Nat} {v : W} (x : Doc H D A w M) (hn : H[n]? = some (.lst [.int 0])) (hv : v ∈ oddL n) : ∃ g', oInO 5 (run (d + 2) 23) v (.ref D) (H ++ g) = .v (.bl false) (H ++ g ++ g') := by
  have x1 : Doc (H ++ g) D A w M := x.app
  have key : ∃ g', run (d + 2) 23 [.ref D, v] (H ++ g) = .v (.bl false) (H ++ g ++ g') := by
    unfold oddL at hv
    simp only [List.mem_cons, List.not_mem_nil, or_false] at hv
    rcases hv with rfl | rfl | rfl | rfl | rfl | rfl | rfl | rfl | rfl
    · exact ⟨[], by rw [List.append_nil]; exact ct_non (g := .non) x1 rfl rfl⟩
    · exact ⟨[], by rw [List.append_nil]; exact ct_non (g := .int) x1 rfl rfl⟩
    · exact ⟨[], by rw [List.append_nil]; exact ct_non (g := .str) x1 rfl rfl⟩
    · exact ct_odd x1 (fun w hw => by simp at hw; subst hw; rfl) (by simp) rfl
    · obtain ⟨g', e⟩ := ct_ints (d := d) (z := [-1]) x1 (by simp)
      rw [decide_eq_false (fun z => by
        obtain ⟨q, h1, h2⟩ := List.mem_map.mp z
        cases q with
        | nil => simp [nI] at h2
        | cons y q => simp only [nI, List.map_cons, List.cons.injEq] at h2; omega)] at e
      exact ⟨g', e⟩
    · exact ct_odd x1 (fun w hw => by simp at hw; subst hw; rfl) (by simp) rfl
    · exact ct_odd x1 (fun w hw => by simp at hw; rcases hw with rfl | rfl <;> rfl) (by simp) rfl
    · exact ⟨[], by rw [List.append_nil]; exact ct_non (g := .lst) x1 (by unfold tgOf; simp only [get_app hn]) rfl⟩
    · exact ct_odd x1 (fun w hw => by simp at hw; subst hw; rfl) (by simp) rfl
  obtain ⟨g', e⟩ := key
  exact ⟨g', in_O x1 e⟩
end
end Dr.L
set_option maxHeartbeats 1000000
namespace Dr.L
open PySem L2 PyProof.Rows Dr
variable {t : Str} {i r d : Nat} {h : IH}
abbrev σM (y1 y2 y3 y4 y5 y6 : Option W) : Sg := [some (.ref 0), y1, y2, y3, y4, y5, y6]
abbrev kE : Ev := eLst (eCons (eK (.str "a")) (eCons (eK (.str "item")) (eCons (eK (.str "longname")) eNil)))
abbrev mE : Ev := eLst (eCons (eK (.str "hot")) (eCons (eK (.str "new")) (eCons (eK (.str "z")) eNil)))
theorem kE_ok {σ : Sg} : kE σ h = .v (.ref h.length) (h ++ [.lst ((["a", "item", "longname"] : List Str).map W.str)]) := rfl
theorem mE_ok {σ : Sg} : mE σ h = .v (.ref h.length) (h ++ [.lst ((["hot", "new", "z"] : List Str).map W.str)]) := rfl
abbrev u1 : Ev := eAsg (gN 2) (eCall (run 60 35) [] (eCons (eLoc 0) (eCons (eLoc 1) eNil)))
abbrev u2 : Ev := eAsg (gN 3) (eCall (run 60 37) [] (eCons (eLoc 2) (eCons (eCall (run 60 36) [] (eCons (eLoc 2) (eCons (eK (.int 5)) eNil))) (eCons kE (eCons mE eNil)))))
abbrev u3 : Ev := eAsg (gN 4) (eCall (run 60 39) [] (eCons (eLoc 3) (eCons (eTup eNil) eNil)))
abbrev u4 : Ev := eIfS (eBin oGt (eBlt bLen (eCons (eLoc 4) eNil)) (eK (.int 200))) eCnt eEnd
abbrev u5 : Ev := eAsg (gN 5) (eCallK (run 60 14) 1 [0] (eCons (eCall (run 60 41) [] (eCons (eLoc 2) (eCons (eLoc 3) eNil))) eNil))
abbrev u6 : Ev := eIfS (eOr (eBin oNe (eProp 5 (run 60 20) (eLoc 5)) (eCall (run 60 38) [] (eCons (eLoc 3) eNil))) (eOr (eBin oNe (eProp 5 (run 60 21) (eLoc 5)) (eBlt bLen (eCons (eLoc 4) eNil))) (eBin oNe (eCall (run 60 43) [] (eCons (eLoc 5) eNil)) (eLoc 4)))) (eRet (eK (.bl false))) eEnd
abbrev u7 : Ev := eIfS (eNot (eCall (run 60 42) [] (eCons (eLoc 5) (eCons (eLoc 3) (eCons (eLoc 4) eNil))))) (eRet (eK (.bl false))) eEnd
abbrev u8 : Ev := eIfS (eOr (eNot (eBin (oEqO 5 (run 60 34)) (eCall (run 60 14) [] (eCons (eProp 5 (run 60 20) (eLoc 5)) eNil)) (eLoc 5))) (eOr (eBin (oEqO 5 (run 60 34)) (eLoc 5) (eK (.int 5))) (eBin (oEqO 5 (run 60 34)) (eLoc 5) (eProp 5 (run 60 20) (eLoc 5))))) (eRet (eK (.bl false))) eEnd
abbrev u9 : Ev := eFor nF (iL oddE) (gN 6) (eIfS (eBin (oInO 5 (run 60 23)) (eLoc 6) (eLoc 5)) (eRet (eK (.bl false))) eEnd)
abbrev u10 : Ev := eIfS (eOr (eNot (eIsO tsO5 tkO (eLoc 5))) (eBin (oNeO 5 (run 60 34)) (eLoc 5) (eCall (run 60 14) [] (eCons (eCall (run 60 38) [] (eCons (eLoc 3) eNil)) eNil)))) (eRet (eK (.bl false))) eEnd
abbrev KS : List Str := ["a", "item", "longname"]
abbrev MS : List Str := ["hot", "new", "z"]
/-- what stands behind the first five rows -/
structure Got (h : IH) (D A lo n P lo' hi' m : Nat) (w : W) (M T : Tr) : Prop where
  x : DX h D A lo w M
  sm : M.sim T
  dr : T.dr KS MS m
  m4 : m ≤ 4
  tr : LIn h lo' hi' (.ref n) T
  hh : hi' ≤ h.length
  p : h[P]? = some (.lst ((pathsN [] T).map wp))
theorem Got.app {D A lo n P lo' hi' m : Nat} {w : W} {M T : Tr} {g : IH} (x : Got h D A lo n P lo' hi' m w M T) : Got (h ++ g) D A lo n P lo' hi' m w M T :=
  ⟨x.x.app, x.sm, x.dr, x.m4, x.tr.app x.hh, by have := x.hh; simp; omega, get_app x.p⟩
theorem first5 {ns : List Int} {k : Nat} {y2 y3 y4 y5 y6 : Option W} (hl : ns.length ≤ 63) (hk : k ≤ 12) (h0 : h[0]? = some (.rol (ns.map W.int))) :
    ∃ z2 n P D A lo lo' hi' m w M T h', (eSeq u1 (eSeq u2 (eSeq u3 (eSeq u4 u5)))) (σM (some (.int k)) y2 y3 y4 y5 y6) h = .nx (σM (some (.int k)) z2 (some (.ref n)) (some (.ref P)) (some (.ref D)) y6) h' ∧ Got h' D A lo n P lo' hi' m w M T ∧ h'[0]? = some (.rol (ns.map W.int)) := by
  obtain ⟨l1, l3, a, b, _, _, ha, hb, hb2, e1⟩ := pool_ok (k := (k : Int)) h0 hl (by omega) (by omega)
  have e1' : run 60 35 [.ref 0, .int k] h = .v (.ref (h.length + 3)) (h ++ [.lst l1, .lst [.int 0], .lst l3, .lst [.int a, .int b]]) := e1
  have hpos := lt_of h0
  have hh0 : (h ++ [IO.lst l1, .lst [.int 0], .lst l3, .lst [.int a, .int b]])[0]? = some (.rol (ns.map W.int)) := get_app h0
  have hpl : Pool (h ++ [IO.lst l1, .lst [.int 0], .lst l3, .lst [.int a, .int b]]) (h.length + 3) a b := ⟨by rw [List.getElem?_append_right (by omega)]; simp, ha, hb, hb2⟩
  have ln : (h ++ [IO.lst l1, .lst [.int 0], .lst l3, .lst [.int a, .int b]]).length = h.length + 4 := by simp
  generalize h ++ [IO.lst l1, .lst [.int 0], .lst l3, .lst [.int a, .int b]] = h1 at e1' hh0 hpl ln
  have s1 : u1 (σM (some (.int k)) y2 y3 y4 y5 y6) h = .nx (σM (some (.int k)) (some (.ref (h.length + 3))) y3 y4 y5 y6) h1 := by
    simp only [eAsg_ap, eCall_ap, eCons_ap, eNil_ap, eLoc_ap, List.getElem?_cons_zero, List.getElem?_cons_succ, locO_s, vb_v, vsb_vs, List.append_nil, e1', cb_v, gN_ap, List.set_cons_succ, List.set_cons_zero]
  -- the depth
  obtain ⟨m, h2, m5, P1, l2, e2⟩ := tk_pl (d := 59) (m := 5) hpl (by omega) (by omega)
  have e2' : run 60 36 [.ref (h.length + 3), .int 5] h1 = .v (.int m) h2 := e2
  obtain ⟨⟨a2, b2, q2⟩, _, _⟩ := id P1
  let h3 : IH := h2 ++ [.lst (KS.map W.str)] ++ [.lst (MS.map W.str)]
  have hp3 : Pool h3 (h.length + 3) a2 b2 := ⟨get_app (get_app q2.at_), q2.ha, q2.hb, q2.hb2⟩
  have B := ln_ok (d := 58 - m) (ks := KS) (ms0 := MS) (p := h.length + 3) (kk := h2.length) (mm := h2.length + 1) (by decide) (by decide) (by decide) (by omega) (by omega) m
  rw [show 58 - m + m + 2 = 60 by omega] at B
  obtain ⟨n, T, h4, r1, P3, r3, dr⟩ := B h3 a2 b2 hp3 (get_app (by simp)) (by show (h2 ++ [IO.lst _] ++ [IO.lst _])[h2.length + 1]? = _; rw [List.getElem?_append_right (by simp)]; simp)
  have s2 : u2 (σM (some (.int k)) (some (.ref (h.length + 3))) y3 y4 y5 y6) h1 = .nx (σM (some (.int k)) (some (.ref (h.length + 3))) (some (.ref n)) y4 y5 y6) h4 := by
    have ml : (h2 ++ [IO.lst (KS.map W.str)]).length = h2.length + 1 := by simp
    have ca : eCall (run 60 36) [] (eCons (eLoc 2) (eCons (eK (.int 5)) eNil)) (σM (some (.int k)) (some (.ref (h.length + 3))) y3 y4 y5 y6) h1 = .v (.int m) h2 := by
      simp only [eCall_ap, eCons_ap, eNil_ap, eLoc_ap, eK_ap, List.getElem?_cons_zero, List.getElem?_cons_succ, locO_s, vb_v, vsb_vs, List.append_nil, e2', cb_v]
    have as : eCons (eLoc 2) (eCons (eCall (run 60 36) [] (eCons (eLoc 2) (eCons (eK (.int 5)) eNil))) (eCons kE (eCons mE eNil))) (σM (some (.int k)) (some (.ref (h.length + 3))) y3 y4 y5 y6) h1 = .vs [.ref (h.length + 3), .int m, .ref h2.length, .ref (h2.length + 1)] h3 := by
      rw [eCons_ap, show eLoc 2 (σM (some (.int k)) (some (.ref (h.length + 3))) y3 y4 y5 y6) h1 = .v (.ref (h.length + 3)) h1 from rfl, vb_v, eCons_ap, ca, vb_v, eCons_ap, kE_ok, vb_v, eCons_ap, mE_ok, vb_v, eNil_ap, vsb_vs, vsb_vs, vsb_vs, vsb_vs, ml]
    unfold u2
    rw [eAsg_ap, eCall_ap, as, vsb_vs]
    show Out.vb (Out.cb _ (run 60 37 [.ref (h.length + 3), .int m, .ref h2.length, .ref (h2.length + 1)] h3)) _ = _
    rw [r1]; rfl
  -- its paths
  have C := lp_ok (d := 59 - m) (ks := KS) (ms0 := MS) m (by omega)
  rw [show 59 - m + m + 1 = 60 by omega] at C
  obtain ⟨P, g5, r4, r5⟩ := C T h4 (.ref n) h3.length h4.length [] r3 (Nat.le_refl _) dr (by simp; omega)
  rw [pathsW_0] at r5
  have s3 : u3 (σM (some (.int k)) (some (.ref (h.length + 3))) (some (.ref n)) y4 y5 y6) h4 = .nx (σM (some (.int k)) (some (.ref (h.length + 3))) (some (.ref n)) (some (.ref P)) y5 y6) (h4 ++ g5) := by
    have as : eCons (eLoc 3) (eCons (eTup eNil) eNil) (σM (some (.int k)) (some (.ref (h.length + 3))) (some (.ref n)) y4 y5 y6) h4 = .vs [.ref n, .tup []] h4 := rfl
    unfold u3
    rw [eAsg_ap, eCall_ap, as, vsb_vs]
    show Out.vb (Out.cb _ (run 60 39 [.ref n, .tup []] h4)) _ = _
    rw [r4]; rfl
  have hsz := dr_size T m dr
  have hsb := SB_le m (by omega)
  have s4 : u4 (σM (some (.int k)) (some (.ref (h.length + 3))) (some (.ref n)) (some (.ref P)) y5 y6) (h4 ++ g5) = .nx (σM (some (.int k)) (some (.ref (h.length + 3))) (some (.ref n)) (some (.ref P)) y5 y6) (h4 ++ g5) := by
    have bl : bLen [.ref P] (h4 ++ g5) = .v (.int T.size) (h4 ++ g5) := by
      show (match lstAt (h4 ++ g5) P with | some ls => Out.v (.int (ls.length : Nat)) (h4 ++ g5) | none => .no) = _
      unfold lstAt; rw [r5]; simp only [List.length_map, pathsN_len]
    simp only [eIfS_ap, eBin_ap, eBlt_ap, eCons_ap, eNil_ap, eLoc_ap, eK_ap, List.getElem?_cons_zero, List.getElem?_cons_succ, locO_s, vb_v, vsb_vs, bl, oGt_int]
    rw [decide_eq_false (by omega)]; rfl
  -- the text and the document
  have P4 : Pl (h.length + 3) h3 (h4 ++ g5) := P3.app
  obtain ⟨⟨a6, b6, q6⟩, _, _⟩ := id P4
  have E := mx_ok (d := 58 - m) (p := h.length + 3) nmX.toNm m (by omega)
  rw [show 58 - m + m + 2 = 60 by omega] at E
  have l3 : h3.length = h.length + 6 := by show (h2 ++ [IO.lst _] ++ [IO.lst _]).length = _; simp; omega
  obtain ⟨M, h6, r6, P6, sm⟩ := E T (h4 ++ g5) (.ref n) h3.length h4.length a6 b6 (r3.app (Nat.le_refl _)) (by simp) dr q6 (by omega)
  obtain ⟨h7, w, A, D, r7, rD, rA, rT, rok, rsz, rl1, rl2, rag⟩ := parse_sim (d := 54) (h := h6) nmX (by omega : m ≤ 4) sm dr
  have s5 : u5 (σM (some (.int k)) (some (.ref (h.length + 3))) (some (.ref n)) (some (.ref P)) y5 y6) (h4 ++ g5) = .nx (σM (some (.int k)) (some (.ref (h.length + 3))) (some (.ref n)) (some (.ref P)) (some (.ref D)) y6) h7 := by
    have ca : eCall (run 60 41) [] (eCons (eLoc 2) (eCons (eLoc 3) eNil)) (σM (some (.int k)) (some (.ref (h.length + 3))) (some (.ref n)) (some (.ref P)) y5 y6) (h4 ++ g5) = .v (.str (txUS M)) h6 := by
      simp only [eCall_ap, eCons_ap, eNil_ap, eLoc_ap, List.getElem?_cons_zero, List.getElem?_cons_succ, locO_s, vb_v, vsb_vs, List.append_nil, r6, cb_v]
    unfold u5
    rw [eAsg_ap, eCallK_ap, eCons_ap, ca, vb_v, eNil_ap, vsb_vs, vsb_vs]
    show Out.vb (Out.cb _ (run 60 14 [.str (txUS M)] h6)) _ = _
    rw [show run 60 14 [.str (txUS M)] h6 = .v (.ref D) h7 from r7]; rfl
  have l6 := P6.len
  simp only [List.length_append] at l6
  have l7 : h6.length ≤ h7.length := by have := lt_of rD; omega
  have P37 : Pl (h.length + 3) h3 h6 := P4.trans P6
  have l34 := P3.len
  refine ⟨some (.ref (h.length + 3)), n, P, D, A, h6.length, h3.length, h4.length, m, w, M, T, h7, ?_, ⟨⟨⟨rD, by rw [rA, pathsW_0]⟩, rT, rok, rsz⟩, sm, dr, by omega, ?_, by omega, ?_⟩, ?_⟩
  · rw [eSeq_ap, s1, nb_nx, eSeq_ap, s2, nb_nx, eSeq_ap, s3, nb_nx, eSeq_ap, s4, nb_nx, s5]
  · exact (r3.app (Nat.le_refl _)).mono (h' := h7) (fun c c1 c2 => by rw [rag c (by omega), P6.ag c (by simp; omega) (by omega)]) (Nat.le_refl _) (Nat.le_refl _)
  · have lP := lt_of r5
    have hPp : P ≠ h.length + 3 := fun z => by
      rw [z, q6.at_] at r5
      cases hT : pathsN [] T with
      | nil => have := pathsN_len T []; rw [hT] at this; have := size_pos T; simp at *; omega
      | cons q ps => rw [hT] at r5; simp [wp, wI] at r5
    rw [rag P (by simp at lP; omega), P6.ag P lP hPp]; exact r5
  · rw [rag 0 (by omega), P37.ag 0 (by omega) (by omega)]
    show (h2 ++ [IO.lst _] ++ [IO.lst _])[0]? = _
    rw [get_app (get_app (show h2[0]? = some (.rol (ns.map W.int)) by rw [P1.ag 0 (by omega) (by omega)]; exact hh0))]
end Dr.L
set_option maxHeartbeats 1000000
namespace Dr.L
open PySem L2 PyProof.Rows Dr
variable {t : Str} {i r d : Nat} {h : IH}
section
variable {D A lo n P lo' hi' m : Nat} {w : W} {M T : Tr} {y1 y2 y6 : Option W}
theorem ltx (G : Got h D A lo n P lo' hi' m w M T) : ∃ g, run 60 38 [.ref n] h = .v (.str (txS T)) (h ++ g) := by
  have m4 := G.m4
  obtain ⟨g, e⟩ := lt_ok (d := 59 - m) nmX.toNm m G.m4 T h (.ref n) lo' hi' G.tr G.hh G.dr
  rw [show 59 - m + m + 1 = 60 by omega] at e
  exact ⟨g, e⟩
theorem ltx_ca (G : Got h D A lo n P lo' hi' m w M T) : ∃ g, eCall (run 60 38) [] (eCons (eLoc 3) eNil) (σM y1 y2 (some (.ref n)) (some (.ref P)) (some (.ref D)) y6) h = .v (.str (txS T)) (h ++ g) := by
  obtain ⟨g, e⟩ := ltx G
  refine ⟨g, ?_⟩
  simp only [eCall_ap, eCons_ap, eNil_ap, eLoc_ap, List.getElem?_cons_zero, List.getElem?_cons_succ, locO_s, vb_v, vsb_vs, List.append_nil, e, cb_v]
theorem u6_ok (G : Got h D A lo n P lo' hi' m w M T) : ∃ g, u6 (σM y1 y2 (some (.ref n)) (some (.ref P)) (some (.ref D)) y6) h = .nx (σM y1 y2 (some (.ref n)) (some (.ref P)) (some (.ref D)) y6) (h ++ g) := by
  obtain ⟨g1, e1⟩ := ltx_ca (y1 := y1) (y2 := y2) (y6 := y6) G
  have p1 : eProp 5 (run 60 20) (eLoc 5) (σM y1 y2 (some (.ref n)) (some (.ref P)) (some (.ref D)) y6) h = .v (.str (txS M)) h := text_prop (d := 59) (o := eLoc 5) (σ := σM y1 y2 (some (.ref n)) (some (.ref P)) (some (.ref D)) y6) (h := h) G.x.toDoc rfl
  have c1 : eBin oNe (eProp 5 (run 60 20) (eLoc 5)) (eCall (run 60 38) [] (eCons (eLoc 3) eNil)) (σM y1 y2 (some (.ref n)) (some (.ref P)) (some (.ref D)) y6) h = .v (.bl false) (h ++ g1) := (bin_ (g := oNe) p1 e1).trans (by rw [sim_txS G.sm]; exact ne_str)
  have G1 : Got (h ++ g1) D A lo n P lo' hi' m w M T := G.app
  have p2 : eProp 5 (run 60 21) (eLoc 5) (σM y1 y2 (some (.ref n)) (some (.ref P)) (some (.ref D)) y6) (h ++ g1) = .v (.int M.size) (h ++ g1) := size_prop (d := 59) (o := eLoc 5) (σ := σM y1 y2 (some (.ref n)) (some (.ref P)) (some (.ref D)) y6) (h := h ++ g1) G1.x.toDoc rfl
  have bl : eBlt bLen (eCons (eLoc 4) eNil) (σM y1 y2 (some (.ref n)) (some (.ref P)) (some (.ref D)) y6) (h ++ g1) = .v (.int T.size) (h ++ g1) := by
    have b0 : bLen [.ref P] (h ++ g1) = .v (.int T.size) (h ++ g1) := by
      show (match lstAt (h ++ g1) P with | some ls => Out.v (.int (ls.length : Nat)) (h ++ g1) | none => .no) = _
      unfold lstAt; rw [G1.p]; simp only [List.length_map, pathsN_len]
    simp only [eBlt_ap, eCons_ap, eNil_ap, eLoc_ap, List.getElem?_cons_zero, List.getElem?_cons_succ, locO_s, vb_v, vsb_vs, b0]
  have c2 : eBin oNe (eProp 5 (run 60 21) (eLoc 5)) (eBlt bLen (eCons (eLoc 4) eNil)) (σM y1 y2 (some (.ref n)) (some (.ref P)) (some (.ref D)) y6) (h ++ g1) = .v (.bl false) (h ++ g1) := (bin_ (g := oNe) p2 bl).trans (by rw [sim_size M T G.sm]; exact ne_int)
  have hsz := dr_size T m G.dr
  have hsb := SB_le m G.m4
  obtain ⟨F, g2, e3, eF⟩ := every_ok (d := 55) G1.x (by rw [sim_size M T G.sm]; omega)
  have ca : eCall (run 60 43) [] (eCons (eLoc 5) eNil) (σM y1 y2 (some (.ref n)) (some (.ref P)) (some (.ref D)) y6) (h ++ g1) = .v (.ref F) (h ++ g1 ++ g2) := by
    have e3' : run 60 43 [.ref D] (h ++ g1) = .v (.ref F) (h ++ g1 ++ g2) := e3
    simp only [eCall_ap, eCons_ap, eNil_ap, eLoc_ap, List.getElem?_cons_zero, List.getElem?_cons_succ, locO_s, vb_v, vsb_vs, List.append_nil, e3', cb_v]
  have eN : pathsN [] M = pathsN [] T := by
    have := sim_paths M T [] G.sm
    rw [pathsW_0, pathsW_0] at this
    refine List.map_inj_right ?_ |>.mp this
    intro a b e
    have : nI a = nI b := by
      simp only [wp, wI, W.tup.injEq] at e
      exact List.map_inj_right (fun x y z => by cases z; rfl) |>.mp e
    exact nI_inj a b this
  rw [eN] at eF
  have c3 := (bin_ (g := oNe) ca (show eLoc 4 (σM y1 y2 (some (.ref n)) (some (.ref P)) (some (.ref D)) y6) (h ++ g1 ++ g2) = .v (.ref P) (h ++ g1 ++ g2) from rfl)).trans (ne_paths eF (get_app G1.p) (fun z => by have := pathsN_len T []; rw [z] at this; have := size_pos T; simp at *; omega))
  refine ⟨g1 ++ g2, ?_⟩
  rw [← List.append_assoc]
  exact if_f (or_ff c1 (or_ff c2 c3))
theorem u7_ok (G : Got h D A lo n P lo' hi' m w M T) : ∃ g, u7 (σM y1 y2 (some (.ref n)) (some (.ref P)) (some (.ref D)) y6) h = .nx (σM y1 y2 (some (.ref n)) (some (.ref P)) (some (.ref D)) y6) (h ++ g) := by
  obtain ⟨g, e⟩ := nodes_ok (d := 53) (P := P) nmX G.m4 G.x G.sm G.dr G.tr G.hh G.p
  have e' : run 60 42 [.ref D, .ref n, .ref P] h = .v (.bl true) (h ++ g) := e
  refine ⟨g, if_f ?_⟩
  simp only [eNot_ap, eCall_ap, eCons_ap, eNil_ap, eLoc_ap, List.getElem?_cons_zero, List.getElem?_cons_succ, locO_s, vb_v, vsb_vs, List.append_nil, e', cb_v]
  rfl
/-- the text is read once more -/
theorem again (G : Got h D A lo n P lo' hi' m w M T) : ∃ g D2 A2 w2 M2, run 60 14 [.str (txS T)] h = .v (.ref D2) (h ++ g) ∧ Doc (h ++ g) D2 A2 w2 M2 ∧ txS M2 = txS T := by
  obtain ⟨h7, w2, A2, D2, r7, rD, rA, _, _, _, rl1, _, rag⟩ := parse_sim (d := 54) (h := h) nmX G.m4 (srt_sim T) G.dr
  rw [srt_txUS] at r7
  obtain ⟨g, rfl⟩ := ext_of (h := h) (h' := h7) (by have := lt_of rD; omega) rag
  exact ⟨g, D2, A2, w2, T.srt, r7, ⟨rD, by rw [rA, pathsW_0]⟩, sim_txS (srt_sim T)⟩
theorem u8_ok (G : Got h D A lo n P lo' hi' m w M T) : ∃ g, u8 (σM y1 y2 (some (.ref n)) (some (.ref P)) (some (.ref D)) y6) h = .nx (σM y1 y2 (some (.ref n)) (some (.ref P)) (some (.ref D)) y6) (h ++ g) := by
  have p1 : eProp 5 (run 60 20) (eLoc 5) (σM y1 y2 (some (.ref n)) (some (.ref P)) (some (.ref D)) y6) h = .v (.str (txS M)) h := text_prop (d := 59) (o := eLoc 5) (σ := σM y1 y2 (some (.ref n)) (some (.ref P)) (some (.ref D)) y6) (h := h) G.x.toDoc rfl
  rw [sim_txS G.sm] at p1
  obtain ⟨g, D2, A2, w2, M2, e1, dc, et⟩ := again G
  have ca : eCall (run 60 14) [] (eCons (eProp 5 (run 60 20) (eLoc 5)) eNil) (σM y1 y2 (some (.ref n)) (some (.ref P)) (some (.ref D)) y6) h = .v (.ref D2) (h ++ g) := by
    rw [eCall_ap, eCons_ap, p1, vb_v, eNil_ap, vsb_vs, vsb_vs]
    show Out.cb _ (run 60 14 [.str (txS T)] h) = _
    rw [e1]; rfl
  have x1 : Doc (h ++ g) D A w M := G.x.toDoc.app
  have q1 : oEqO 5 (run 60 34) (.ref D2) (.ref D) (h ++ g) = .v (.bl true) (h ++ g) := by
    have e := eq_doc (d := 58) dc x1
    rw [et, sim_txS G.sm, decide_eq_true rfl] at e
    have e' : run 60 34 [.ref D2, .ref D] (h ++ g) = .v (.bl true) (h ++ g) := e
    unfold oEqO
    rw [if_pos (right_doc x1), recvS_ok dc, e']; rfl
  have c1 : eNot (eBin (oEqO 5 (run 60 34)) (eCall (run 60 14) [] (eCons (eProp 5 (run 60 20) (eLoc 5)) eNil)) (eLoc 5)) (σM y1 y2 (some (.ref n)) (some (.ref P)) (some (.ref D)) y6) h = .v (.bl false) (h ++ g) := by
    rw [eNot_ap, bin_ ca (show eLoc 5 (σM y1 y2 (some (.ref n)) (some (.ref P)) (some (.ref D)) y6) (h ++ g) = .v (.ref D) (h ++ g) from rfl), q1]; rfl
  have q2 : oEqO 5 (run 60 34) (.ref D) (.int 5) (h ++ g) = .v (.bl false) (h ++ g) := by
    have e' : run 60 34 [.ref D, .int 5] (h ++ g) = .v (.bl false) (h ++ g) := eq_int (d := 58) (i := 5) x1
    unfold oEqO
    rw [if_pos (show rightOk 5 (.int 5) (h ++ g) = true from rfl), recvS_ok x1, e']; rfl
  have c2 : eBin (oEqO 5 (run 60 34)) (eLoc 5) (eK (.int 5)) (σM y1 y2 (some (.ref n)) (some (.ref P)) (some (.ref D)) y6) (h ++ g) = .v (.bl false) (h ++ g) :=
    (bin_ (show eLoc 5 (σM y1 y2 (some (.ref n)) (some (.ref P)) (some (.ref D)) y6) (h ++ g) = .v (.ref D) (h ++ g) from rfl) (show eK (.int 5) (σM y1 y2 (some (.ref n)) (some (.ref P)) (some (.ref D)) y6) (h ++ g) = .v (.int 5) (h ++ g) from rfl)).trans q2
  have p2 : eProp 5 (run 60 20) (eLoc 5) (σM y1 y2 (some (.ref n)) (some (.ref P)) (some (.ref D)) y6) (h ++ g) = .v (.str (txS M)) (h ++ g) := text_prop (d := 59) (o := eLoc 5) (σ := σM y1 y2 (some (.ref n)) (some (.ref P)) (some (.ref D)) y6) (h := h ++ g) x1 rfl
  have q3 : oEqO 5 (run 60 34) (.ref D) (.str (txS M)) (h ++ g) = .v (.bl false) (h ++ g) := by
    have e' : run 60 34 [.ref D, .str (txS M)] (h ++ g) = .v (.bl false) (h ++ g) := eq_str (d := 58) x1
    unfold oEqO
    rw [if_pos (show rightOk 5 (.str (txS M)) (h ++ g) = true from rfl), recvS_ok x1, e']; rfl
  have c3 : eBin (oEqO 5 (run 60 34)) (eLoc 5) (eProp 5 (run 60 20) (eLoc 5)) (σM y1 y2 (some (.ref n)) (some (.ref P)) (some (.ref D)) y6) (h ++ g) = .v (.bl false) (h ++ g) :=
    (bin_ (show eLoc 5 (σM y1 y2 (some (.ref n)) (some (.ref P)) (some (.ref D)) y6) (h ++ g) = .v (.ref D) (h ++ g) from rfl) p2).trans q3
  exact ⟨g, if_f (or_ff c1 (or_ff c2 c3))⟩
theorem u9_ok (G : Got h D A lo n P lo' hi' m w M T) : ∃ z6 g, u9 (σM y1 y2 (some (.ref n)) (some (.ref P)) (some (.ref D)) y6) h = .nx (σM y1 y2 (some (.ref n)) (some (.ref P)) (some (.ref D)) z6) (h ++ g) := by
  have e1 := oddE_ok (h := h) (σ := σM y1 y2 (some (.ref n)) (some (.ref P)) (some (.ref D)) y6)
  have x1 : Doc (h ++ [IO.lst [.int 0], .lst (oddL h.length)]) D A w M := G.x.toDoc.app
  have gn : (h ++ [IO.lst [.int 0], .lst (oddL h.length)])[h.length + 1]? = some (.lst (oddL h.length)) := by rw [List.getElem?_append_right (by omega)]; simp
  have g0 : (h ++ [IO.lst [.int 0], .lst (oddL h.length)])[h.length]? = some (.lst [.int 0]) := by rw [List.getElem?_append_right (by omega)]; simp
  obtain ⟨s, g, e, z, rfl⟩ := forA (v := 6) (b := eIfS (eBin (oInO 5 (run 60 23)) (eLoc 6) (eLoc 5)) (eRet (eK (.bl false))) eEnd) (fun σ => ∃ z, σ = σM y1 y2 (some (.ref n)) (some (.ref P)) (some (.ref D)) z) gn (by simp [oddL]) (by
    rintro v hv σ g ⟨z, rfl⟩
    obtain ⟨g', e⟩ := odd_in (d := 58) (g := g) x1 g0 hv
    exact ⟨σM y1 y2 (some (.ref n)) (some (.ref P)) (some (.ref D)) (some v), g', if_f ((bin_ (show eLoc 6 (σM y1 y2 (some (.ref n)) (some (.ref P)) (some (.ref D)) (some v)) (h ++ [IO.lst [.int 0], .lst (oddL h.length)] ++ g) = .v v (h ++ [IO.lst [.int 0], .lst (oddL h.length)] ++ g) from rfl) (show eLoc 5 (σM y1 y2 (some (.ref n)) (some (.ref P)) (some (.ref D)) (some v)) (h ++ [IO.lst [.int 0], .lst (oddL h.length)] ++ g) = .v (.ref D) (h ++ [IO.lst [.int 0], .lst (oddL h.length)] ++ g) from rfl)).trans e), _, rfl⟩) ⟨y6, rfl⟩
  refine ⟨z, [IO.lst [.int 0], .lst (oddL h.length)] ++ g, ?_⟩
  unfold u9
  rw [eFor_it (it_L e1 gn), e, List.append_assoc]
theorem u10_ok (G : Got h D A lo n P lo' hi' m w M T) : ∃ g, u10 (σM y1 y2 (some (.ref n)) (some (.ref P)) (some (.ref D)) y6) h = .nx (σM y1 y2 (some (.ref n)) (some (.ref P)) (some (.ref D)) y6) (h ++ g) := by
  have c1 : eNot (eIsO tsO5 tkO (eLoc 5)) (σM y1 y2 (some (.ref n)) (some (.ref P)) (some (.ref D)) y6) h = .v (.bl false) h := by
    rw [eNot_ap, eIsO_ap, show eLoc 5 (σM y1 y2 (some (.ref n)) (some (.ref P)) (some (.ref D)) y6) h = .v (.ref D) h from rfl, vb_v, isO_doc G.x.toDoc]; rfl
  obtain ⟨g1, e1⟩ := ltx_ca (y1 := y1) (y2 := y2) (y6 := y6) G
  obtain ⟨g, D2, A2, w2, M2, e2, dc, et⟩ := again (G.app (g := g1))
  have ca : eCall (run 60 14) [] (eCons (eCall (run 60 38) [] (eCons (eLoc 3) eNil)) eNil) (σM y1 y2 (some (.ref n)) (some (.ref P)) (some (.ref D)) y6) h = .v (.ref D2) (h ++ g1 ++ g) := by
    rw [eCall_ap, eCons_ap, e1, vb_v, eNil_ap, vsb_vs, vsb_vs]
    show Out.cb _ (run 60 14 [.str (txS T)] (h ++ g1)) = _
    rw [e2]; rfl
  have x1 : Doc (h ++ g1 ++ g) D A w M := G.x.toDoc.app.app
  have q1 : oNeO 5 (run 60 34) (.ref D) (.ref D2) (h ++ g1 ++ g) = .v (.bl false) (h ++ g1 ++ g) := by
    have e := eq_doc (d := 58) x1 dc
    rw [et, sim_txS G.sm, decide_eq_true rfl] at e
    have e' : run 60 34 [.ref D, .ref D2] (h ++ g1 ++ g) = .v (.bl true) (h ++ g1 ++ g) := e
    unfold oNeO
    rw [if_pos (right_doc dc), recvS_ok x1, e']; rfl
  have c2 : eBin (oNeO 5 (run 60 34)) (eLoc 5) (eCall (run 60 14) [] (eCons (eCall (run 60 38) [] (eCons (eLoc 3) eNil)) eNil)) (σM y1 y2 (some (.ref n)) (some (.ref P)) (some (.ref D)) y6) h = .v (.bl false) (h ++ g1 ++ g) :=
    (bin_ (show eLoc 5 (σM y1 y2 (some (.ref n)) (some (.ref P)) (some (.ref D)) y6) h = .v (.ref D) h from rfl) ca).trans q1
  refine ⟨g1 ++ g, ?_⟩
  rw [← List.append_assoc]
  exact if_f (or_ff c1 c2)
end
theorem nb_assoc {a : Out} {f g : Sg → IH → Out} (ha : ∃ s h, a = .nx s h) : (a.nb f).nb g = a.nb (fun s h => (f s h).nb g) := by
  obtain ⟨s, h, rfl⟩ := ha
  rfl
abbrev turnB : Ev := eSeq u1 (eSeq u2 (eSeq u3 (eSeq u4 (eSeq u5 (eSeq u6 (eSeq u7 (eSeq u8 (eSeq u9 u10))))))))
theorem seq5 {a b c e f g : Ev} {σ s : Sg} {h h' : IH} (q : (eSeq a (eSeq b (eSeq c (eSeq e f)))) σ h = .nx s h') : (eSeq a (eSeq b (eSeq c (eSeq e (eSeq f g))))) σ h = g s h' := by
  have st : ∀ (x : Out) (k : Sg → IH → Out), x.nb k = .nx s h' → ∃ s1 h1, x = .nx s1 h1 ∧ k s1 h1 = .nx s h' := fun x k z => by
    cases x <;> first | exact ⟨_, _, rfl, z⟩ | cases z
  simp only [eSeq_ap] at q ⊢
  obtain ⟨s1, h1, e1, q⟩ := st _ _ q
  rw [e1, nb_nx]
  simp only [eSeq_ap] at q ⊢
  obtain ⟨s2, h2, e2, q⟩ := st _ _ q
  rw [e2, nb_nx]
  simp only [eSeq_ap] at q ⊢
  obtain ⟨s3, h3, e3, q⟩ := st _ _ q
  rw [e3, nb_nx]
  simp only [eSeq_ap] at q ⊢
  obtain ⟨s4, h4, e4, q⟩ := st _ _ q
  rw [e4, nb_nx, eSeq_ap, q, nb_nx]
theorem turn_ok {ns : List Int} {k : Nat} {y2 y3 y4 y5 y6 : Option W} (hl : ns.length ≤ 63) (hk : k ≤ 12) (h0 : h[0]? = some (.rol (ns.map W.int))) :
    ∃ z2 z3 z4 z5 z6 h', turnB (σM (some (.int k)) y2 y3 y4 y5 y6) h = .nx (σM (some (.int k)) z2 z3 z4 z5 z6) h' ∧ h'[0]? = some (.rol (ns.map W.int)) := by
  obtain ⟨z2, n, P, D, A, lo, lo', hi', m, w, M, T, h1, e1, G1, q1⟩ := first5 (y2 := y2) (y3 := y3) (y4 := y4) (y5 := y5) (y6 := y6) hl hk h0
  obtain ⟨g6, e6⟩ := u6_ok (y1 := some (.int k)) (y2 := z2) (y6 := y6) G1
  obtain ⟨g7, e7⟩ := u7_ok (y1 := some (.int k)) (y2 := z2) (y6 := y6) (G1.app (g := g6))
  obtain ⟨g8, e8⟩ := u8_ok (y1 := some (.int k)) (y2 := z2) (y6 := y6) ((G1.app (g := g6)).app (g := g7))
  obtain ⟨z6, g9, e9⟩ := u9_ok (y1 := some (.int k)) (y2 := z2) (y6 := y6) (((G1.app (g := g6)).app (g := g7)).app (g := g8))
  obtain ⟨g10, e10⟩ := u10_ok (y1 := some (.int k)) (y2 := z2) (y6 := z6) ((((G1.app (g := g6)).app (g := g7)).app (g := g8)).app (g := g9))
  refine ⟨z2, some (.ref n), some (.ref P), some (.ref D), z6, h1 ++ g6 ++ g7 ++ g8 ++ g9 ++ g10, ?_, get_app (get_app (get_app (get_app (get_app q1))))⟩
  unfold turnB
  rw [seq5 e1, eSeq_ap, e6, nb_nx, eSeq_ap, e7, nb_nx, eSeq_ap, e8, nb_nx, eSeq_ap, e9, nb_nx, e10]
theorem cnt (k : Nat) : ∃ n : Nat, n ≤ 12 ∧ (if (if (k : Int) < 12 then (k : Int) else 12) > 1 then (if (k : Int) < 12 then (k : Int) else 12) else 1) = (n : Int) := by
  by_cases q1 : (k : Int) < 12
  · rw [if_pos q1]
    by_cases q2 : (k : Int) > 1
    · exact ⟨k, by omega, by rw [if_pos q2]⟩
    · exact ⟨1, by omega, by rw [if_neg q2]; rfl⟩
  · rw [if_neg q1]; exact ⟨12, by omega, by decide⟩
theorem nums_ok {ns : List Int} (hl : ns.length ≤ 63) (h0 : h[0]? = some (.rol (ns.map W.int))) :
    ∃ s1 s2 s3 s4 s5 s6 h', eFor nF (iR1 (eCons (eBlt bMax (eCons (eK (.int 1)) (eCons (eBlt bMin (eCons (eK (.int 12)) (eCons (eBlt bLen (eCons (eLoc 0) eNil)) eNil))) eNil))) eNil)) (gN 1) turnB (σM none none none none none none) h = .nx (σM s1 s2 s3 s4 s5 s6) h' := by
  obtain ⟨n, hn, en⟩ := cnt ns.length
  have lb : bLen [.ref 0] h = .v (.int ns.length) h := by
    show (match lstAt h 0 with | some ls => Out.v (.int (ls.length : Nat)) h | none => .no) = _
    unfold lstAt; rw [h0]; simp
  have er : eCons (eBlt bMax (eCons (eK (.int 1)) (eCons (eBlt bMin (eCons (eK (.int 12)) (eCons (eBlt bLen (eCons (eLoc 0) eNil)) eNil))) eNil))) eNil (σM none none none none none none) h = .vs [.int n] h := by
    simp only [eCons_ap, eBlt_ap, eK_ap, eLoc_ap, eNil_ap, vb_v, vsb_vs, List.getElem?_cons_zero, locO_s, lb, bMin_int, bMax_int, en]
  rw [eFor_it (it_R1 (q := n) (by omega) er)]
  obtain ⟨s, h', e, ⟨s1, s2, s3, s4, s5, s6, rfl⟩, q⟩ := forR (lo := 0) (n := n) (g := gN 1) (b := turnB) (fun σ h' => (∃ s1 s2 s3 s4 s5 s6, σ = σM s1 s2 s3 s4 s5 s6) ∧ h'[0]? = some (.rol (ns.map W.int))) (by
    rintro i hi σ h' ⟨⟨s1, s2, s3, s4, s5, s6, rfl⟩, q⟩
    obtain ⟨z2, z3, z4, z5, z6, h2, e, q2⟩ := turn_ok (k := i) (y2 := s2) (y3 := s3) (y4 := s4) (y5 := s5) (y6 := s6) hl (by omega) q
    rw [Int.zero_add]
    exact ⟨σM (some (.int i)) s2 s3 s4 s5 s6, _, h2, rfl, e, ⟨_, _, _, _, _, _, rfl⟩, q2⟩) nF 0 (σM none none none none none none) h (Nat.zero_le _) (by show n - 0 < 100000; omega) ⟨⟨_, _, _, _, _, _, rfl⟩, h0⟩
  exact ⟨s1, s2, s3, s4, s5, s6, h', e⟩
theorem fn_gen {n N : Nat} {b : Ev} {ws : List W} {h : IH} {σ : Sg} (hl : ws.length = n) (hs : slots N ws = σ) : fnOf n N b ws h = (b σ h).fin := by
  unfold fnOf
  rw [if_pos hl, hs]
theorem clP_run : clP = run 60 := rfl
theorem law_run (R : List W) : lawF [.ref 0] [.rol R] = (b44 (run 60) nF (σM none none none none none none) [.rol R]).fin := by
  unfold lawF
  rw [clP_run]
  exact fn_gen rfl rfl
theorem LV : LawV := by
  intro ns hl hb
  obtain ⟨s1, s2, s3, s4, s5, s6, h', e⟩ := nums_ok (h := [.rol (ns.map W.int)]) hl rfl
  refine ⟨h', ?_⟩
  rw [law_run]
  unfold b44
  rw [eSeq_ap, e]
  rfl
end Dr.L
set_option maxHeartbeats 4000000
namespace Dr.L
open PySem L2 PyProof.Rows Dr PySem.F
abbrev gG (K : PySem.W.Frag) (cs : List Addr) : Cfg := { K := K, cl := clF cs, fn := fnF }
def dF (f4 f5 f6 f7 f8 f9 f10 f11 f13 f14 f15 f16 f17 f18 f19 f20 f21 f23 f24 f25 f26 f27 f28 f34 f35 f36 f37 f38 f39 f40 f41 f42 f43 f44 : Addr) : Nat → Addr := fun i => match i with
  | 4 => f4
  | 5 => f5
  | 6 => f6
  | 7 => f7
  | 8 => f8
  | 9 => f9
  | 10 => f10
  | 11 => f11
  | 13 => f13
  | 14 => f14
  | 15 => f15
  | 16 => f16
  | 17 => f17
  | 18 => f18
  | 19 => f19
  | 20 => f20
  | 21 => f21
  | 23 => f23
  | 24 => f24
  | 25 => f25
  | 26 => f26
  | 27 => f27
  | 28 => f28
  | 34 => f34
  | 35 => f35
  | 36 => f36
  | 37 => f37
  | 38 => f38
  | 39 => f39
  | 40 => f40
  | 41 => f41
  | 42 => f42
  | 43 => f43
  | 44 => f44
  | _ => 0
def spL (K : PySem.W.Frag) : Sp := fun vs H Q _ => ∃ (a : Addr) (ns : List Int), vs = [.ref a] ∧ Only H ∧ SqL K H a (ns.map V.int) ∧ ns.length ≤ 63 ∧ (∀ z ∈ ns, Builtin.Int.intBits z ≤ 1048576) ∧ ∀ H', Q (.bl true) H'
theorem sp_law {G : Cfg} (LV : LawV) (vs : List V) (H : Hp) (Q : VK) (E : XK) (h : spL G.K vs H Q E) : spC G (["_law_script"] : List Str).length lawF vs H Q E := by
  obtain ⟨a, ns, rfl, hO, hS, hl, hb, hq⟩ := h
  obtain ⟨h', e⟩ := LV ns hl hb
  refine ⟨fun _ => a, [.rol (ns.map W.int)], [.ref 0], rfl, start_rep hO hS, .cons (.ref 0 (by simp)) .nil, ?_⟩
  rw [e]
  intro m' H' v _ _ r
  cases r
  exact hq H'
theorem all_mk {l : PySem.W.OpenLaw} {w : World} {K : PySem.W.Frag} {h : Heap} {mg : Str → Option Value} {fa : Addr} {f4 f5 f6 f7 f8 f9 f10 f11 f13 f14 f15 f16 f17 f18 f19 f20 f21 f23 f24 f25 f26 f27 f28 f34 f35 f36 f37 f38 f39 f40 f41 f42 f43 f44 : Addr} {C1 C2 C3 C4 C5 : Addr} {t_MOST_NODES : Tok} {t_MOST_SIGNS : Tok} {t_LETTERS : Tok} {p5_paths : Addr} {p5_top : Addr} {p5_written : Addr} {pp5_text : Addr} {pr_5_text : List Value} {pp5_size : Addr} {pr_5_size : List Value} {nm2 q2 : Str} {N2 fI2 cc2 cda2 : Addr} {bs2 bm2 sub2 : List Value} {sn2 : List Str} {ab2 : Bool} {col2 : Option Bool} {dd2 od2 an2 cld2 cdd2 : Option Addr} {m02 m12 m22 m32 m52 : Option Value} {oc2 doc2 pm2 ct2 xl2 ccl2 : Value} {osl2 csl2 ccs2 : Array (Option Value)} {qual2 msg2 prm2 file2 : Str} {params2 : Arguments} {names2 : List (Str × NameKind)} {j2 : Nat} {pa2 pb2 pc2 pd2 pe2 pf2 qa2 qb2 qc2 qd2 : Pos} {vs2 : Array Value} {tf2 : Tok} {ar2 : Arg} {nm3 q3 : Str} {N3 fI3 cc3 cda3 : Addr} {bs3 bm3 sub3 : List Value} {sn3 : List Str} {ab3 : Bool} {col3 : Option Bool} {dd3 od3 an3 cld3 cdd3 : Option Addr} {m03 m13 m23 m33 m53 : Option Value} {oc3 doc3 pm3 ct3 xl3 ccl3 : Value} {osl3 csl3 ccs3 : Array (Option Value)} {qual3 msg3 prm3 file3 : Str} {params3 : Arguments} {names3 : List (Str × NameKind)} {j3 : Nat} {pa3 pb3 pc3 pd3 pe3 pf3 qa3 qb3 qc3 qd3 : Pos} {vs3 : Array Value} {tf3 : Tok} {ar3 : Arg} {nm1 q1 : Str} {N1 fI1 cc1 cda1 : Addr} {bs1 bm1 sub1 : List Value} {sn1 : List Str} {ab1 : Bool} {col1 : Option Bool} {dd1 od1 an1 cld1 cdd1 : Option Addr} {m01 m11 m21 m31 m51 : Option Value} {oc1 doc1 pm1 ct1 xl1 ccl1 : Value} {osl1 csl1 ccs1 : Array (Option Value)} {qual1 msg1 prm1 file1 : Str} {params1 : Arguments} {names1 : List (Str × NameKind)} {j1 : Nat} {pa1 pb1 pc1 pd1 pe1 pf1 qa1 qb1 qc1 qd1 : Pos} {vs1 : Array Value} {tf1 : Tok} {ar1 : Arg} {dc4 pf4 kv4 xc4 oo4 cx4 : Value} {of4 na4 : Option Addr} {sl4 : Array (Option Value)} {dc5 pf5 kv5 xc5 oo5 cx5 : Value} {of5 na5 : Option Addr} {sl5 : Array (Option Value)} {dc6 pf6 kv6 xc6 oo6 cx6 : Value} {of6 na6 : Option Addr} {sl6 : Array (Option Value)} {dc7 pf7 kv7 xc7 oo7 cx7 : Value} {of7 na7 : Option Addr} {sl7 : Array (Option Value)} {dc8 pf8 kv8 xc8 oo8 cx8 : Value} {of8 na8 : Option Addr} {sl8 : Array (Option Value)} {dc9 pf9 kv9 xc9 oo9 cx9 : Value} {of9 na9 : Option Addr} {sl9 : Array (Option Value)} {dc10 pf10 kv10 xc10 oo10 cx10 : Value} {of10 na10 : Option Addr} {sl10 : Array (Option Value)} {dc11 pf11 kv11 xc11 oo11 cx11 : Value} {of11 na11 : Option Addr} {sl11 : Array (Option Value)} {dc13 pf13 kv13 xc13 oo13 cx13 : Value} {of13 na13 : Option Addr} {sl13 : Array (Option Value)} {dc14 pf14 kv14 xc14 oo14 cx14 : Value} {of14 na14 : Option Addr} {sl14 : Array (Option Value)} {dc15 pf15 kv15 xc15 oo15 cx15 : Value} {of15 na15 : Option Addr} {sl15 : Array (Option Value)} {dc16 pf16 kv16 xc16 oo16 cx16 : Value} {of16 na16 : Option Addr} {sl16 : Array (Option Value)} {dc17 pf17 kv17 xc17 oo17 cx17 : Value} {of17 na17 : Option Addr} {sl17 : Array (Option Value)} {dc18 pf18 kv18 xc18 oo18 cx18 : Value} {of18 na18 : Option Addr} {sl18 : Array (Option Value)} {dc19 pf19 kv19 xc19 oo19 cx19 : Value} {of19 na19 : Option Addr} {sl19 : Array (Option Value)} {dc20 pf20 kv20 xc20 oo20 cx20 : Value} {of20 na20 : Option Addr} {sl20 : Array (Option Value)} {dc21 pf21 kv21 xc21 oo21 cx21 : Value} {of21 na21 : Option Addr} {sl21 : Array (Option Value)} {dc23 pf23 kv23 xc23 oo23 cx23 : Value} {of23 na23 : Option Addr} {sl23 : Array (Option Value)} {dc24 pf24 kv24 xc24 oo24 cx24 : Value} {of24 na24 : Option Addr} {sl24 : Array (Option Value)} {dc25 pf25 kv25 xc25 oo25 cx25 : Value} {of25 na25 : Option Addr} {sl25 : Array (Option Value)} {dc26 pf26 kv26 xc26 oo26 cx26 : Value} {of26 na26 : Option Addr} {sl26 : Array (Option Value)} {dc27 pf27 kv27 xc27 oo27 cx27 : Value} {of27 na27 : Option Addr} {sl27 : Array (Option Value)} {dc28 pf28 kv28 xc28 oo28 cx28 : Value} {of28 na28 : Option Addr} {sl28 : Array (Option Value)} {dc34 pf34 kv34 xc34 oo34 cx34 : Value} {of34 na34 : Option Addr} {sl34 : Array (Option Value)} {dc35 pf35 kv35 xc35 oo35 cx35 : Value} {of35 na35 : Option Addr} {sl35 : Array (Option Value)} {dc36 pf36 kv36 xc36 oo36 cx36 : Value} {of36 na36 : Option Addr} {sl36 : Array (Option Value)} {dc37 pf37 kv37 xc37 oo37 cx37 : Value} {of37 na37 : Option Addr} {sl37 : Array (Option Value)} {dc38 pf38 kv38 xc38 oo38 cx38 : Value} {of38 na38 : Option Addr} {sl38 : Array (Option Value)} {dc39 pf39 kv39 xc39 oo39 cx39 : Value} {of39 na39 : Option Addr} {sl39 : Array (Option Value)} {dc40 pf40 kv40 xc40 oo40 cx40 : Value} {of40 na40 : Option Addr} {sl40 : Array (Option Value)} {dc41 pf41 kv41 xc41 oo41 cx41 : Value} {of41 na41 : Option Addr} {sl41 : Array (Option Value)} {dc42 pf42 kv42 xc42 oo42 cx42 : Value} {of42 na42 : Option Addr} {sl42 : Array (Option Value)} {dc43 pf43 kv43 xc43 oo43 cx43 : Value} {of43 na43 : Option Addr} {sl43 : Array (Option Value)} {dc44 pf44 kv44 xc44 oo44 cx44 : Value} {of44 na44 : Option Addr} {sl44 : Array (Option Value)} (LV : LawV) (X : K.In h) (Gn : h.Ns mainGlobals mg) (hfa : mg "law" = some (.ref fa))
    (h0 : PySem.W.nsIn K mainGlobals "law" = some (some (.ref f44)))
    (h1 : PySem.W.nsIn K mainGlobals "InvalidText" = some (some (.ref C1)))
    (h2 : PySem.W.nsIn K mainGlobals "InvalidPath" = some (some (.ref C2)))
    (h3 : PySem.W.nsIn K mainGlobals "LimitExceeded" = some (some (.ref C3)))
    (h4 : PySem.W.nsIn K mainGlobals "TextReader" = some (some (.ref C4)))
    (h5 : PySem.W.nsIn K mainGlobals "Document" = some (some (.ref C5)))
    (h6 : PySem.W.nsIn K mainGlobals "range" = some none)
    (h7 : PySem.W.nsIn K mainGlobals "len" = some none)
    (h8 : PySem.W.nsIn K mainGlobals "min" = some none)
    (h9 : PySem.W.nsIn K mainGlobals "max" = some none)
    (h10 : PySem.W.nsIn K mainGlobals "isinstance" = some none)
    (h11 : PySem.W.nsIn K mainGlobals "tuple" = some none)
    (h12 : PySem.W.nsIn K mainGlobals "all" = some none)
    (h13 : PySem.W.nsIn K mainGlobals "int" = some none)
    (h14 : PySem.W.nsIn K mainGlobals "bool" = some none)
    (h15 : PySem.W.nsIn K mainGlobals "sorted" = some none)
    (h16 : PySem.W.nsIn K mainGlobals "list" = some none)
    (h17 : PySem.W.nsIn K mainGlobals "str" = some none)
    (h18 : PySem.W.nsIn K mainGlobals "reversed" = some none)
    (h19 : PySem.W.nsIn K mainGlobals "enumerate" = some none)
    (h20 : PySem.W.nsIn K mainGlobals "MOST_NODES" = some (some (.int 200 t_MOST_NODES)))
    (h21 : PySem.W.nsIn K mainGlobals "MOST_SIGNS" = some (some (.int 8 t_MOST_SIGNS)))
    (h22 : PySem.W.nsIn K mainGlobals "LETTERS" = some (some (.str "abcdefghijklmnopqrstuvwxyz" t_LETTERS)))
    (h23 : PySem.W.nsIn K mainGlobals "_law_pool" = some (some (.ref f35)))
    (h24 : PySem.W.keepIn K (.ref f35) = true)
    (h25 : PySem.W.nsIn K mainGlobals "_law_take" = some (some (.ref f36)))
    (h26 : PySem.W.keepIn K (.ref f36) = true)
    (h27 : PySem.W.nsIn K mainGlobals "_law_node" = some (some (.ref f37)))
    (h28 : PySem.W.keepIn K (.ref f37) = true)
    (h29 : PySem.W.nsIn K mainGlobals "_law_paths" = some (some (.ref f39)))
    (h30 : PySem.W.keepIn K (.ref f39) = true)
    (h31 : PySem.W.nsIn K mainGlobals "_law_mixed" = some (some (.ref f41)))
    (h32 : PySem.W.keepIn K (.ref f41) = true)
    (h33 : PySem.W.nsIn K mainGlobals "parse_document" = some (some (.ref f14)))
    (h34 : PySem.W.keepIn K (.ref f14) = true)
    (h35 : PySem.W.nsIn K mainGlobals "_law_text" = some (some (.ref f38)))
    (h36 : PySem.W.keepIn K (.ref f38) = true)
    (h37 : PySem.W.nsIn K mainGlobals "_law_every" = some (some (.ref f43)))
    (h38 : PySem.W.keepIn K (.ref f43) = true)
    (h39 : PySem.W.nsIn K mainGlobals "_law_nodes_right" = some (some (.ref f42)))
    (h40 : PySem.W.keepIn K (.ref f42) = true)
    (h41 : PySem.W.nsIn K mainGlobals "is_integer" = some (some (.ref f4)))
    (h42 : PySem.W.keepIn K (.ref f4) = true)
    (h43 : PySem.W.nsIn K mainGlobals "_law_at" = some (some (.ref f40)))
    (h44 : PySem.W.keepIn K (.ref f40) = true)
    (h45 : PySem.W.nsIn K mainGlobals "node_paths" = some (some (.ref f18)))
    (h46 : PySem.W.keepIn K (.ref f18) = true)
    (h47 : PySem.W.nsIn K mainGlobals "node_text" = some (some (.ref f17)))
    (h48 : PySem.W.keepIn K (.ref f17) = true)
    (h49 : PySem.W.nsIn K mainGlobals "read_node" = some (some (.ref f15)))
    (h50 : PySem.W.keepIn K (.ref f15) = true)
    (h51 : PySem.W.nsIn K mainGlobals "read_head" = some (some (.ref f16)))
    (h52 : PySem.W.keepIn K (.ref f16) = true)
    (h53 : PySem.W.plainGet K C4 Str.empty = true)
    (h54 : PySem.W.hasDictIn K C4 = true)
    (h55 : PySem.W.plainOver K C4 = true)
    (h56 : PySem.W.findIn K (.ref C4) "__setattr__" = some (some (.builtin "object.__setattr__")))
    (h57 : PySem.W.findIn K (.ref C4) "spot" = some none)
    (h58 : PySem.W.findIn K (.ref C4) "source" = some none)
    (h59 : PySem.W.plainGet K C5 Str.empty = true)
    (h60 : PySem.W.isClsIn K C5 = true)
    (h61 : PySem.W.plainOver K C5 = true)
    (h62 : PySem.W.findIn K (.ref C5) "__setattr__" = some (some (.builtin "object.__setattr__")))
    (h63 : PySem.W.findIn K (.ref C5) "paths" = some (some (.ref p5_paths)))
    (h64 : PySem.W.specialIn K (.ref p5_paths) "__get__" = some (some (.builtin "member_descriptor.__get__")))
    (h65 : PySem.W.takesIn K (.ref p5_paths) = some true)
    (h66 : PySem.W.typeIn K (.ref p5_paths) = some (.type "member_descriptor"))
    (h67 : PySem.W.slotIn K p5_paths C5 = some 0)
    (h68 : PySem.W.findIn K (.ref C5) "top" = some (some (.ref p5_top)))
    (h69 : PySem.W.specialIn K (.ref p5_top) "__get__" = some (some (.builtin "member_descriptor.__get__")))
    (h70 : PySem.W.takesIn K (.ref p5_top) = some true)
    (h71 : PySem.W.typeIn K (.ref p5_top) = some (.type "member_descriptor"))
    (h72 : PySem.W.slotIn K p5_top C5 = some 1)
    (h73 : PySem.W.findIn K (.ref C5) "written" = some (some (.ref p5_written)))
    (h74 : PySem.W.specialIn K (.ref p5_written) "__get__" = some (some (.builtin "member_descriptor.__get__")))
    (h75 : PySem.W.takesIn K (.ref p5_written) = some true)
    (h76 : PySem.W.typeIn K (.ref p5_written) = some (.type "member_descriptor"))
    (h77 : PySem.W.slotIn K p5_written C5 = some 2)
    (h78 : PySem.W.findIn K (.ref C5) "kind" = some (some (.ref f25)))
    (h79 : PySem.W.isFn K (.ref f25) = true)
    (h80 : PySem.W.keepIn K (.ref f25) = true)
    (h81 : PySem.W.findIn K (.ref C5) "marks" = some (some (.ref f26)))
    (h82 : PySem.W.isFn K (.ref f26) = true)
    (h83 : PySem.W.keepIn K (.ref f26) = true)
    (h84 : PySem.W.findIn K (.ref C5) "width" = some (some (.ref f27)))
    (h85 : PySem.W.isFn K (.ref f27) = true)
    (h86 : PySem.W.keepIn K (.ref f27) = true)
    (h87 : PySem.W.findIn K (.ref C5) "part" = some (some (.ref f28)))
    (h88 : PySem.W.isFn K (.ref f28) = true)
    (h89 : PySem.W.keepIn K (.ref f28) = true)
    (h90 : PySem.W.findIn K (.ref C5) "node" = some (some (.ref f24)))
    (h91 : PySem.W.isFn K (.ref f24) = true)
    (h92 : PySem.W.keepIn K (.ref f24) = true)
    (h93 : PySem.W.findIn K (.ref C4) "need_end" = some (some (.ref f13)))
    (h94 : PySem.W.isFn K (.ref f13) = true)
    (h95 : PySem.W.keepIn K (.ref f13) = true)
    (h96 : PySem.W.findIn K (.ref C4) "fail" = some (some (.ref f6)))
    (h97 : PySem.W.isFn K (.ref f6) = true)
    (h98 : PySem.W.keepIn K (.ref f6) = true)
    (h99 : PySem.W.findIn K (.ref C4) "is_sign" = some (some (.ref f8)))
    (h100 : PySem.W.isFn K (.ref f8) = true)
    (h101 : PySem.W.keepIn K (.ref f8) = true)
    (h102 : PySem.W.findIn K (.ref C4) "need" = some (some (.ref f9)))
    (h103 : PySem.W.isFn K (.ref f9) = true)
    (h104 : PySem.W.keepIn K (.ref f9) = true)
    (h105 : PySem.W.findIn K (.ref C4) "peek" = some (some (.ref f7)))
    (h106 : PySem.W.isFn K (.ref f7) = true)
    (h107 : PySem.W.keepIn K (.ref f7) = true)
    (h108 : PySem.W.findIn K (.ref C4) "read_name" = some (some (.ref f11)))
    (h109 : PySem.W.isFn K (.ref f11) = true)
    (h110 : PySem.W.keepIn K (.ref f11) = true)
    (h111 : PySem.W.findIn K (.ref C4) "is_start" = some (some (.ref f10)))
    (h112 : PySem.W.isFn K (.ref f10) = true)
    (h113 : PySem.W.keepIn K (.ref f10) = true)
    (h114 : PySem.W.makesIn K C5 = true)
    (h115 : PySem.W.findIn K (.ref C5) "__init__" = some (some (.ref f19)))
    (h116 : PySem.W.isFn K (.ref f19) = true)
    (h117 : PySem.W.keepIn K (.ref C5) = true)
    (h118 : PySem.W.makesIn K C4 = true)
    (h119 : PySem.W.findIn K (.ref C4) "__init__" = some (some (.ref f5)))
    (h120 : PySem.W.isFn K (.ref f5) = true)
    (h121 : PySem.W.keepIn K (.ref C4) = true)
    (h122 : PySem.W.findIn K (.ref C5) "text" = some (some (.ref pp5_text)))
    (h123 : PySem.W.specialIn K (.ref pp5_text) "__get__" = some (some (.builtin "property.__get__")))
    (h124 : PySem.W.takesIn K (.ref pp5_text) = some true)
    (h125 : PySem.W.recIn K pp5_text "property" = some (.ref f20 :: pr_5_text))
    (h126 : PySem.W.findIn K (.ref C5) "size" = some (some (.ref pp5_size)))
    (h127 : PySem.W.specialIn K (.ref pp5_size) "__get__" = some (some (.builtin "property.__get__")))
    (h128 : PySem.W.takesIn K (.ref pp5_size) = some true)
    (h129 : PySem.W.recIn K pp5_size "property" = some (.ref f21 :: pr_5_size))
    (h130 : PySem.W.findIn K (.ref C5) "__eq__" = some (some (.ref f34)))
    (h131 : PySem.W.isFn K (.ref f34) = true)
    (h132 : PySem.W.findIn K (.ref C5) "__contains__" = some (some (.ref f23)))
    (h133 : PySem.W.isFn K (.ref f23) = true)
    (h134 : PySem.W.notFirst K C5 (.type "int") = true)
    (h135 : PySem.W.notFirst K C5 (.type "str") = true)
    (h136 : PySem.W.findIn K (.ref C5) "__ne__" = some (some (.builtin "object.__ne__")))
    (h137 : PySem.W.mroIn K C5 (.type "object") = some true)
    (h138 : PySem.W.kitOne K (.type "NoneType") (.ref C5) = some false)
    (h139 : PySem.W.kitOne K (.type "bool") (.ref C5) = some false)
    (h140 : PySem.W.kitOne K (.type "int") (.ref C5) = some false)
    (h141 : PySem.W.kitOne K (.type "str") (.ref C5) = some false)
    (h142 : PySem.W.kitOne K (.type "tuple") (.ref C5) = some false)
    (h143 : PySem.W.kitOne K (.type "list") (.ref C5) = some false)
    (h144 : PySem.W.kitOne K (.type "dict") (.ref C5) = some false)
    (h145 : K.lookup C2 = some (excClassObj nm2 q2 C2 N2 bs2 bm2 true sn2 sub2 ab2 col2 dd2 m02 m12 m22 m32 m52 "ValueError.__new__"))
    (h146 : PySem.XeX.tailIs [.type "ValueError", .type "Exception", .type "BaseException", .type "object"] bm2 = true)
    (h147 : PySem.W.findIn K (.ref C2) "__init__" = some (some (.ref fI2)))
    (h148 : K.lookup fI2 = some ⟨oc2, od2, .func (PySem.W.fnX "__init__" qual2 params2 (PySem.XeX.iB msg2 "path" prm2 j2 pa2 pb2 pc2 pd2 pe2 pf2 qa2 qb2 qc2 qd2) (PySem.XeX.iSc names2) [("__class__", cc2)] .none .none doc2 pm2 an2 (.ref cda2) ct2), osl2⟩)
    (h149 : PySem.W.codeIn K (.ref cda2) qual2 = true)
    (h150 : K.lookup cc2 = some ⟨xl2, cld2, .cell (some (.ref C2)), csl2⟩)
    (h151 : K.lookup cda2 = some ⟨ccl2, cdd2, .fields vs2, ccs2⟩)
    (h152 : vs2[2]? = some (.str file2 tf2))
    (h153 : ((l.prog.main.file : Str) == file2) = true)
    (h154 : (pc2.endLine == pe2.line) = true)
    (h155 : (params2.posonlyargs ++ params2.args).head? = some ar2)
    (h156 : ar2.arg = "self")
    (h157 : names2.lookup ("super" : Str) = some .globalImplicit)
    (h158 : names2.lookup ("__class__" : Str) = some .free)
    (h159 : names2.lookup ("self" : Str) = some .local)
    (h160 : names2.lookup prm2 = some .local)
    (h161 : ∀ y ∈ names2, y.2 ≠ .cell)
    (h162 : (prm2 == ("__debug__" : Str)) = false)
    (h163 : prm2 ≠ "self")
    (h164 : ∀ (s : Shared) (a b : Value), BindsTo s (PySem.W.fnX "__init__" qual2 params2 (PySem.XeX.iB msg2 "path" prm2 j2 pa2 pb2 pc2 pd2 pe2 pf2 qa2 qb2 qc2 qd2) (PySem.XeX.iSc names2) [("__class__", cc2)] .none .none doc2 pm2 an2 (.ref cda2) ct2) ⟨[a, b], []⟩ [("self", a), (prm2, b)])
    (h165 : PySem.W.nsIn K mainGlobals "super" = some none)
    (h166 : PySem.W.findIn K (.ref C2) "__setattr__" = some (some (.builtin "object.__setattr__")))
    (h167 : PySem.W.findIn K (.ref C2) "path" = some none)
    (h168 : PySem.W.typeIn K (.ref fI2) = some (.type "function"))
    (h169 : PySem.W.keepIn K (.ref C2) = true)
    (h170 : PySem.W.subIn K (.ref C2) (.type "BaseException") = some true)
    (h171 : PySem.W.typeIn K (.ref C2) = some (.type "type"))
    (h172 : PySem.W.subIn K (.ref C2) (.type "ValueError") = some true)
    (h173 : PySem.W.mroIn K C2 (.ref C2) = some true)
    (h174 : PySem.W.ks_superIn K C2 C2 "__init__" = some (some (.builtin "ValueError.__init__")))
    (h175 : PySem.W.nsIn K cStatics "thirdparty.any" = some none)
    (h176 : (l.prog.main.scope.names.lookup ("super" : Str)).isSome = false)
    (h177 : K.lookup C3 = some (excClassObj nm3 q3 C3 N3 bs3 bm3 true sn3 sub3 ab3 col3 dd3 m03 m13 m23 m33 m53 "OverflowError.__new__"))
    (h178 : PySem.XeX.tailIs [.type "OverflowError", .type "ArithmeticError", .type "Exception", .type "BaseException", .type "object"] bm3 = true)
    (h179 : PySem.W.findIn K (.ref C3) "__init__" = some (some (.ref fI3)))
    (h180 : K.lookup fI3 = some ⟨oc3, od3, .func (PySem.W.fnX "__init__" qual3 params3 (PySem.XeX.iB msg3 "limit" prm3 j3 pa3 pb3 pc3 pd3 pe3 pf3 qa3 qb3 qc3 qd3) (PySem.XeX.iSc names3) [("__class__", cc3)] .none .none doc3 pm3 an3 (.ref cda3) ct3), osl3⟩)
    (h181 : PySem.W.codeIn K (.ref cda3) qual3 = true)
    (h182 : K.lookup cc3 = some ⟨xl3, cld3, .cell (some (.ref C3)), csl3⟩)
    (h183 : K.lookup cda3 = some ⟨ccl3, cdd3, .fields vs3, ccs3⟩)
    (h184 : vs3[2]? = some (.str file3 tf3))
    (h185 : ((l.prog.main.file : Str) == file3) = true)
    (h186 : (pc3.endLine == pe3.line) = true)
    (h187 : (params3.posonlyargs ++ params3.args).head? = some ar3)
    (h188 : ar3.arg = "self")
    (h189 : names3.lookup ("super" : Str) = some .globalImplicit)
    (h190 : names3.lookup ("__class__" : Str) = some .free)
    (h191 : names3.lookup ("self" : Str) = some .local)
    (h192 : names3.lookup prm3 = some .local)
    (h193 : ∀ y ∈ names3, y.2 ≠ .cell)
    (h194 : (prm3 == ("__debug__" : Str)) = false)
    (h195 : prm3 ≠ "self")
    (h196 : ∀ (s : Shared) (a b : Value), BindsTo s (PySem.W.fnX "__init__" qual3 params3 (PySem.XeX.iB msg3 "limit" prm3 j3 pa3 pb3 pc3 pd3 pe3 pf3 qa3 qb3 qc3 qd3) (PySem.XeX.iSc names3) [("__class__", cc3)] .none .none doc3 pm3 an3 (.ref cda3) ct3) ⟨[a, b], []⟩ [("self", a), (prm3, b)])
    (h197 : PySem.W.findIn K (.ref C3) "__setattr__" = some (some (.builtin "object.__setattr__")))
    (h198 : PySem.W.findIn K (.ref C3) "limit" = some none)
    (h199 : PySem.W.typeIn K (.ref fI3) = some (.type "function"))
    (h200 : PySem.W.keepIn K (.ref C3) = true)
    (h201 : PySem.W.subIn K (.ref C3) (.type "BaseException") = some true)
    (h202 : PySem.W.typeIn K (.ref C3) = some (.type "type"))
    (h203 : PySem.W.subIn K (.ref C3) (.type "OverflowError") = some true)
    (h204 : PySem.W.mroIn K C3 (.ref C3) = some true)
    (h205 : PySem.W.ks_superIn K C3 C3 "__init__" = some (some (.builtin "OverflowError.__init__")))
    (h206 : K.lookup C1 = some (excClassObj nm1 q1 C1 N1 bs1 bm1 true sn1 sub1 ab1 col1 dd1 m01 m11 m21 m31 m51 "ValueError.__new__"))
    (h207 : PySem.XeX.tailIs [.type "ValueError", .type "Exception", .type "BaseException", .type "object"] bm1 = true)
    (h208 : PySem.W.findIn K (.ref C1) "__init__" = some (some (.ref fI1)))
    (h209 : K.lookup fI1 = some ⟨oc1, od1, .func (PySem.W.fnX "__init__" qual1 params1 (PySem.XeX.iB msg1 "value" prm1 j1 pa1 pb1 pc1 pd1 pe1 pf1 qa1 qb1 qc1 qd1) (PySem.XeX.iSc names1) [("__class__", cc1)] .none .none doc1 pm1 an1 (.ref cda1) ct1), osl1⟩)
    (h210 : PySem.W.codeIn K (.ref cda1) qual1 = true)
    (h211 : K.lookup cc1 = some ⟨xl1, cld1, .cell (some (.ref C1)), csl1⟩)
    (h212 : K.lookup cda1 = some ⟨ccl1, cdd1, .fields vs1, ccs1⟩)
    (h213 : vs1[2]? = some (.str file1 tf1))
    (h214 : ((l.prog.main.file : Str) == file1) = true)
    (h215 : (pc1.endLine == pe1.line) = true)
    (h216 : (params1.posonlyargs ++ params1.args).head? = some ar1)
    (h217 : ar1.arg = "self")
    (h218 : names1.lookup ("super" : Str) = some .globalImplicit)
    (h219 : names1.lookup ("__class__" : Str) = some .free)
    (h220 : names1.lookup ("self" : Str) = some .local)
    (h221 : names1.lookup prm1 = some .local)
    (h222 : ∀ y ∈ names1, y.2 ≠ .cell)
    (h223 : (prm1 == ("__debug__" : Str)) = false)
    (h224 : prm1 ≠ "self")
    (h225 : ∀ (s : Shared) (a b : Value), BindsTo s (PySem.W.fnX "__init__" qual1 params1 (PySem.XeX.iB msg1 "value" prm1 j1 pa1 pb1 pc1 pd1 pe1 pf1 qa1 qb1 qc1 qd1) (PySem.XeX.iSc names1) [("__class__", cc1)] .none .none doc1 pm1 an1 (.ref cda1) ct1) ⟨[a, b], []⟩ [("self", a), (prm1, b)])
    (h226 : PySem.W.findIn K (.ref C1) "__setattr__" = some (some (.builtin "object.__setattr__")))
    (h227 : PySem.W.findIn K (.ref C1) "value" = some none)
    (h228 : PySem.W.typeIn K (.ref fI1) = some (.type "function"))
    (h229 : PySem.W.keepIn K (.ref C1) = true)
    (h230 : PySem.W.subIn K (.ref C1) (.type "BaseException") = some true)
    (h231 : PySem.W.typeIn K (.ref C1) = some (.type "type"))
    (h232 : PySem.W.subIn K (.ref C1) (.type "ValueError") = some true)
    (h233 : PySem.W.mroIn K C1 (.ref C1) = some true)
    (h234 : PySem.W.ks_superIn K C1 C1 "__init__" = some (some (.builtin "ValueError.__init__")))
    (h235 : PySem.W.findIn K (.ref C5) "__class__" = some (some (.builtin "object.__class__")))
    (h236 : PySem.W.specialIn K (.builtin "object.__class__") "__get__" = some (some (.builtin "getset_descriptor.__get__")))
    (h237 : PySem.W.takesIn K (.builtin "object.__class__") = some true)
    (h238 : PySem.W.kitOne K (.ref C5) (.ref C5) = some true)
    (h239 : K.lookup f4 = some ⟨oo4, of4, .func (PySem.W.fnOf "is_integer" "is_integer" (defArgs (top 9)) (defBody (top 9)) (defScope (top 9)) .none kv4 dc4 pf4 na4 xc4 cx4), sl4⟩)
    (h240 : PySem.W.codeIn K xc4 "is_integer" = true)
    (h241 : K.lookup f5 = some ⟨oo5, of5, .func (PySem.W.fnOf "__init__" "TextReader.__init__" (defArgs (inClass (top 10) 0)) (defBody (inClass (top 10) 0)) (defScope (inClass (top 10) 0)) .none kv5 dc5 pf5 na5 xc5 cx5), sl5⟩)
    (h242 : PySem.W.codeIn K xc5 "TextReader.__init__" = true)
    (h243 : K.lookup f6 = some ⟨oo6, of6, .func (PySem.W.fnOf "fail" "TextReader.fail" (defArgs (inClass (top 10) 1)) (defBody (inClass (top 10) 1)) (defScope (inClass (top 10) 1)) .none kv6 dc6 pf6 na6 xc6 cx6), sl6⟩)
    (h244 : PySem.W.codeIn K xc6 "TextReader.fail" = true)
    (h245 : K.lookup f7 = some ⟨oo7, of7, .func (PySem.W.fnOf "peek" "TextReader.peek" (defArgs (inClass (top 10) 2)) (defBody (inClass (top 10) 2)) (defScope (inClass (top 10) 2)) .none kv7 dc7 pf7 na7 xc7 cx7), sl7⟩)
    (h246 : PySem.W.codeIn K xc7 "TextReader.peek" = true)
    (h247 : K.lookup f8 = some ⟨oo8, of8, .func (PySem.W.fnOf "is_sign" "TextReader.is_sign" (defArgs (inClass (top 10) 3)) (defBody (inClass (top 10) 3)) (defScope (inClass (top 10) 3)) .none kv8 dc8 pf8 na8 xc8 cx8), sl8⟩)
    (h248 : PySem.W.codeIn K xc8 "TextReader.is_sign" = true)
    (h249 : K.lookup f9 = some ⟨oo9, of9, .func (PySem.W.fnOf "need" "TextReader.need" (defArgs (inClass (top 10) 4)) (defBody (inClass (top 10) 4)) (defScope (inClass (top 10) 4)) .none kv9 dc9 pf9 na9 xc9 cx9), sl9⟩)
    (h250 : PySem.W.codeIn K xc9 "TextReader.need" = true)
    (h251 : K.lookup f10 = some ⟨oo10, of10, .func (PySem.W.fnOf "is_start" "TextReader.is_start" (defArgs (inClass (top 10) 5)) (defBody (inClass (top 10) 5)) (defScope (inClass (top 10) 5)) .none kv10 dc10 pf10 na10 xc10 cx10), sl10⟩)
    (h252 : PySem.W.codeIn K xc10 "TextReader.is_start" = true)
    (h253 : K.lookup f11 = some ⟨oo11, of11, .func (PySem.W.fnOf "read_name" "TextReader.read_name" (defArgs (inClass (top 10) 6)) (defBody (inClass (top 10) 6)) (defScope (inClass (top 10) 6)) .none kv11 dc11 pf11 na11 xc11 cx11), sl11⟩)
    (h254 : PySem.W.codeIn K xc11 "TextReader.read_name" = true)
    (h255 : K.lookup f13 = some ⟨oo13, of13, .func (PySem.W.fnOf "need_end" "TextReader.need_end" (defArgs (inClass (top 10) 8)) (defBody (inClass (top 10) 8)) (defScope (inClass (top 10) 8)) .none kv13 dc13 pf13 na13 xc13 cx13), sl13⟩)
    (h256 : PySem.W.codeIn K xc13 "TextReader.need_end" = true)
    (h257 : K.lookup f14 = some ⟨oo14, of14, .func (PySem.W.fnOf "parse_document" "parse_document" (defArgs (top 13)) (defBody (top 13)) (defScope (top 13)) .none kv14 dc14 pf14 na14 xc14 cx14), sl14⟩)
    (h258 : PySem.W.codeIn K xc14 "parse_document" = true)
    (h259 : K.lookup f15 = some ⟨oo15, of15, .func (PySem.W.fnOf "read_node" "read_node" (defArgs (top 14)) (defBody (top 14)) (defScope (top 14)) .none kv15 dc15 pf15 na15 xc15 cx15), sl15⟩)
    (h260 : PySem.W.codeIn K xc15 "read_node" = true)
    (h261 : K.lookup f16 = some ⟨oo16, of16, .func (PySem.W.fnOf "read_head" "read_head" (defArgs (top 15)) (defBody (top 15)) (defScope (top 15)) .none kv16 dc16 pf16 na16 xc16 cx16), sl16⟩)
    (h262 : PySem.W.codeIn K xc16 "read_head" = true)
    (h263 : K.lookup f17 = some ⟨oo17, of17, .func (PySem.W.fnOf "node_text" "node_text" (defArgs (top 16)) (defBody (top 16)) (defScope (top 16)) .none kv17 dc17 pf17 na17 xc17 cx17), sl17⟩)
    (h264 : PySem.W.codeIn K xc17 "node_text" = true)
    (h265 : K.lookup f18 = some ⟨oo18, of18, .func (PySem.W.fnOf "node_paths" "node_paths" (defArgs (top 17)) (defBody (top 17)) (defScope (top 17)) .none kv18 dc18 pf18 na18 xc18 cx18), sl18⟩)
    (h266 : PySem.W.codeIn K xc18 "node_paths" = true)
    (h267 : K.lookup f19 = some ⟨oo19, of19, .func (PySem.W.fnOf "__init__" "Document.__init__" (defArgs (inClass (top 18) 1)) (defBody (inClass (top 18) 1)) (defScope (inClass (top 18) 1)) .none kv19 dc19 pf19 na19 xc19 cx19), sl19⟩)
    (h268 : PySem.W.codeIn K xc19 "Document.__init__" = true)
    (h269 : K.lookup f20 = some ⟨oo20, of20, .func (PySem.W.fnOf "text" "Document.text" (defArgs (inClass (top 18) 2)) (defBody (inClass (top 18) 2)) (defScope (inClass (top 18) 2)) .none kv20 dc20 pf20 na20 xc20 cx20), sl20⟩)
    (h270 : PySem.W.codeIn K xc20 "Document.text" = true)
    (h271 : K.lookup f21 = some ⟨oo21, of21, .func (PySem.W.fnOf "size" "Document.size" (defArgs (inClass (top 18) 3)) (defBody (inClass (top 18) 3)) (defScope (inClass (top 18) 3)) .none kv21 dc21 pf21 na21 xc21 cx21), sl21⟩)
    (h272 : PySem.W.codeIn K xc21 "Document.size" = true)
    (h273 : K.lookup f23 = some ⟨oo23, of23, .func (PySem.W.fnOf "__contains__" "Document.__contains__" (defArgs (inClass (top 18) 5)) (defBody (inClass (top 18) 5)) (defScope (inClass (top 18) 5)) .none kv23 dc23 pf23 na23 xc23 cx23), sl23⟩)
    (h274 : PySem.W.codeIn K xc23 "Document.__contains__" = true)
    (h275 : K.lookup f24 = some ⟨oo24, of24, .func (PySem.W.fnOf "node" "Document.node" (defArgs (inClass (top 18) 6)) (defBody (inClass (top 18) 6)) (defScope (inClass (top 18) 6)) .none kv24 dc24 pf24 na24 xc24 cx24), sl24⟩)
    (h276 : PySem.W.codeIn K xc24 "Document.node" = true)
    (h277 : K.lookup f25 = some ⟨oo25, of25, .func (PySem.W.fnOf "kind" "Document.kind" (defArgs (inClass (top 18) 7)) (defBody (inClass (top 18) 7)) (defScope (inClass (top 18) 7)) .none kv25 dc25 pf25 na25 xc25 cx25), sl25⟩)
    (h278 : PySem.W.codeIn K xc25 "Document.kind" = true)
    (h279 : K.lookup f26 = some ⟨oo26, of26, .func (PySem.W.fnOf "marks" "Document.marks" (defArgs (inClass (top 18) 8)) (defBody (inClass (top 18) 8)) (defScope (inClass (top 18) 8)) .none kv26 dc26 pf26 na26 xc26 cx26), sl26⟩)
    (h280 : PySem.W.codeIn K xc26 "Document.marks" = true)
    (h281 : K.lookup f27 = some ⟨oo27, of27, .func (PySem.W.fnOf "width" "Document.width" (defArgs (inClass (top 18) 9)) (defBody (inClass (top 18) 9)) (defScope (inClass (top 18) 9)) .none kv27 dc27 pf27 na27 xc27 cx27), sl27⟩)
    (h282 : PySem.W.codeIn K xc27 "Document.width" = true)
    (h283 : K.lookup f28 = some ⟨oo28, of28, .func (PySem.W.fnOf "part" "Document.part" (defArgs (inClass (top 18) 10)) (defBody (inClass (top 18) 10)) (defScope (inClass (top 18) 10)) .none kv28 dc28 pf28 na28 xc28 cx28), sl28⟩)
    (h284 : PySem.W.codeIn K xc28 "Document.part" = true)
    (h285 : K.lookup f34 = some ⟨oo34, of34, .func (PySem.W.fnOf "__eq__" "Document.__eq__" (defArgs (inClass (top 18) 16)) (defBody (inClass (top 18) 16)) (defScope (inClass (top 18) 16)) .none kv34 dc34 pf34 na34 xc34 cx34), sl34⟩)
    (h286 : PySem.W.codeIn K xc34 "Document.__eq__" = true)
    (h287 : K.lookup f35 = some ⟨oo35, of35, .func (PySem.W.fnOf "_law_pool" "_law_pool" (defArgs (top 20)) (defBody (top 20)) (defScope (top 20)) .none kv35 dc35 pf35 na35 xc35 cx35), sl35⟩)
    (h288 : PySem.W.codeIn K xc35 "_law_pool" = true)
    (h289 : K.lookup f36 = some ⟨oo36, of36, .func (PySem.W.fnOf "_law_take" "_law_take" (defArgs (top 21)) (defBody (top 21)) (defScope (top 21)) .none kv36 dc36 pf36 na36 xc36 cx36), sl36⟩)
    (h290 : PySem.W.codeIn K xc36 "_law_take" = true)
    (h291 : K.lookup f37 = some ⟨oo37, of37, .func (PySem.W.fnOf "_law_node" "_law_node" (defArgs (top 22)) (defBody (top 22)) (defScope (top 22)) .none kv37 dc37 pf37 na37 xc37 cx37), sl37⟩)
    (h292 : PySem.W.codeIn K xc37 "_law_node" = true)
    (h293 : K.lookup f38 = some ⟨oo38, of38, .func (PySem.W.fnOf "_law_text" "_law_text" (defArgs (top 23)) (defBody (top 23)) (defScope (top 23)) .none kv38 dc38 pf38 na38 xc38 cx38), sl38⟩)
    (h294 : PySem.W.codeIn K xc38 "_law_text" = true)
    (h295 : K.lookup f39 = some ⟨oo39, of39, .func (PySem.W.fnOf "_law_paths" "_law_paths" (defArgs (top 24)) (defBody (top 24)) (defScope (top 24)) .none kv39 dc39 pf39 na39 xc39 cx39), sl39⟩)
    (h296 : PySem.W.codeIn K xc39 "_law_paths" = true)
    (h297 : K.lookup f40 = some ⟨oo40, of40, .func (PySem.W.fnOf "_law_at" "_law_at" (defArgs (top 25)) (defBody (top 25)) (defScope (top 25)) .none kv40 dc40 pf40 na40 xc40 cx40), sl40⟩)
    (h298 : PySem.W.codeIn K xc40 "_law_at" = true)
    (h299 : K.lookup f41 = some ⟨oo41, of41, .func (PySem.W.fnOf "_law_mixed" "_law_mixed" (defArgs (top 26)) (defBody (top 26)) (defScope (top 26)) .none kv41 dc41 pf41 na41 xc41 cx41), sl41⟩)
    (h300 : PySem.W.codeIn K xc41 "_law_mixed" = true)
    (h301 : K.lookup f42 = some ⟨oo42, of42, .func (PySem.W.fnOf "_law_nodes_right" "_law_nodes_right" (defArgs (top 27)) (defBody (top 27)) (defScope (top 27)) .none kv42 dc42 pf42 na42 xc42 cx42), sl42⟩)
    (h302 : PySem.W.codeIn K xc42 "_law_nodes_right" = true)
    (h303 : K.lookup f43 = some ⟨oo43, of43, .func (PySem.W.fnOf "_law_every" "_law_every" (defArgs (top 28)) (defBody (top 28)) (defScope (top 28)) .none kv43 dc43 pf43 na43 xc43 cx43), sl43⟩)
    (h304 : PySem.W.codeIn K xc43 "_law_every" = true)
    (h305 : K.lookup f44 = some ⟨oo44, of44, .func (PySem.W.fnOf "law" "law" (defArgs (top 29)) (defBody (top 29)) (defScope (top 29)) .none kv44 dc44 pf44 na44 xc44 cx44), sl44⟩)
    (h306 : PySem.W.codeIn K xc44 "law" = true) :
    ∃ fd : FuncData, (∀ (s : Shared) (v : Value), BindsTo s fd ⟨[v], []⟩ [("_law_script", v)]) ∧ ∀ base : Heap, K.In base → base.Ns mainGlobals mg → FnG l.prog w K mg base (2 * 60 + 2) fa fd ["_law_script"] (spL K) := by
  have e : f44 = fa := by
    have e0 := hfa.symm.trans (PySem.W.mg_of X Gn h0)
    cases e0; rfl
  subst e
  have T : Txt l.prog (gG K [0, C1, C2, C3, C4, C5]) (dF f4 f5 f6 f7 f8 f9 f10 f11 f13 f14 f15 f16 f17 f18 f19 f20 f21 f23 f24 f25 f26 f27 f28 f34 f35 f36 f37 f38 f39 f40 f41 f42 f43 f44) mg :=
    { b_range := PySem.W.mg_none_of X Gn h6,
      b_len := PySem.W.mg_none_of X Gn h7,
      b_min := PySem.W.mg_none_of X Gn h8,
      b_max := PySem.W.mg_none_of X Gn h9,
      b_isinstance := PySem.W.mg_none_of X Gn h10,
      b_tuple := PySem.W.mg_none_of X Gn h11,
      b_all := PySem.W.mg_none_of X Gn h12,
      b_int := PySem.W.mg_none_of X Gn h13,
      b_bool := PySem.W.mg_none_of X Gn h14,
      b_sorted := PySem.W.mg_none_of X Gn h15,
      b_list := PySem.W.mg_none_of X Gn h16,
      b_str := PySem.W.mg_none_of X Gn h17,
      b_reversed := PySem.W.mg_none_of X Gn h18,
      b_enumerate := PySem.W.mg_none_of X Gn h19,
      c_MOST_NODES := ⟨_, PySem.W.mg_of X Gn h20, _, rfl⟩,
      c_MOST_SIGNS := ⟨_, PySem.W.mg_of X Gn h21, _, rfl⟩,
      c_LETTERS := ⟨_, PySem.W.mg_of X Gn h22, _, rfl⟩,
      g__law_pool := PySem.W.mg_of X Gn h23,
      k35 := h24,
      g__law_take := PySem.W.mg_of X Gn h25,
      k36 := h26,
      g__law_node := PySem.W.mg_of X Gn h27,
      k37 := h28,
      g__law_paths := PySem.W.mg_of X Gn h29,
      k39 := h30,
      g__law_mixed := PySem.W.mg_of X Gn h31,
      k41 := h32,
      g_parse_document := PySem.W.mg_of X Gn h33,
      k14 := h34,
      g__law_text := PySem.W.mg_of X Gn h35,
      k38 := h36,
      g__law_every := PySem.W.mg_of X Gn h37,
      k43 := h38,
      g__law_nodes_right := PySem.W.mg_of X Gn h39,
      k42 := h40,
      g_is_integer := PySem.W.mg_of X Gn h41,
      k4 := h42,
      g__law_at := PySem.W.mg_of X Gn h43,
      k40 := h44,
      g_node_paths := PySem.W.mg_of X Gn h45,
      k18 := h46,
      g_node_text := PySem.W.mg_of X Gn h47,
      k17 := h48,
      g_read_node := PySem.W.mg_of X Gn h49,
      k15 := h50,
      g_read_head := PySem.W.mg_of X Gn h51,
      k16 := h52,
      gc5 := PySem.W.mg_of X Gn h5,
      gc4 := PySem.W.mg_of X Gn h4,
      cl4 := ⟨h53, h54, h55, h56⟩,
      na4_spot := h57,
      na4_source := h58,
      sc5 := ⟨h59, h60, h61, h62⟩,
      s5_paths := ⟨_, h63, h64, h65, h66, h67, by decide⟩,
      s5_top := ⟨_, h68, h69, h70, h71, h72, by decide⟩,
      s5_written := ⟨_, h73, h74, h75, h76, h77, by decide⟩,
      me5_kind := ⟨h78, h79, h80⟩,
      me5_marks := ⟨h81, h82, h83⟩,
      me5_width := ⟨h84, h85, h86⟩,
      me5_part := ⟨h87, h88, h89⟩,
      me5_node := ⟨h90, h91, h92⟩,
      me4_need_end := ⟨h93, h94, h95⟩,
      me4_fail := ⟨h96, h97, h98⟩,
      me4_is_sign := ⟨h99, h100, h101⟩,
      me4_need := ⟨h102, h103, h104⟩,
      me4_peek := ⟨h105, h106, h107⟩,
      me4_read_name := ⟨h108, h109, h110⟩,
      me4_is_start := ⟨h111, h112, h113⟩,
      mk5 := ⟨h114, h115, h116, h117⟩,
      mk4 := ⟨h118, h119, h120, h121⟩,
      pr5_text := ⟨_, h122, h123, h124, _, h125⟩,
      pr5_size := ⟨_, h126, h127, h128, _, h129⟩,
      ow5___eq__ := ⟨h130, h131⟩,
      ow5___contains__ := ⟨h132, h133⟩,
      oe5 := ⟨h134, h135⟩,
      on5 := ⟨h136, h137⟩,
      ioK5 := fun g q h => by
          cases h
          cases g
          · exact h138
          · exact h139
          · exact h140
          · exact h141
          · exact h142
          · exact h143
          · exact h144,
      x2 := ⟨fI2, "ValueError", "ValueError.__new__", "ValueError.__init__", [.type "ValueError", .type "Exception", .type "BaseException", .type "object"], { fb := excBase_ValueError, sf := store_ValueError, kf := PySem.W.kxs_ValueError, gC := PySem.W.mg_of X Gn h2, gS := PySem.W.mg_none_of X Gn h165, cls := ⟨_, _, _, _, _, _, _, _, _, _, _, _, _, _, _, h145, h146⟩, sa := h166, noN := h167, iC := h147, tC := h168, kC := h169, exC := h170, tyC := h171, sub := h172, own := h173, sup := h174, opq := h175, top := h176, fn := ⟨_, _, _, _, _, _, _, _, _, _, _, _, _, _, _, _, _, _, _, _, _, _, _, _, _, _, _, _, _, _, _, _, _, _, _, h148, h149, h150, h151, h152, h153, h154, h155, h156, h157, h158, h159, h160, h161, h162, h163, h164⟩ }⟩,
      x3 := ⟨fI3, "OverflowError", "OverflowError.__new__", "OverflowError.__init__", [.type "OverflowError", .type "ArithmeticError", .type "Exception", .type "BaseException", .type "object"], { fb := excBase_OverflowError, sf := store_OverflowError, kf := PySem.W.kxs_OverflowError, gC := PySem.W.mg_of X Gn h3, gS := PySem.W.mg_none_of X Gn h165, cls := ⟨_, _, _, _, _, _, _, _, _, _, _, _, _, _, _, h177, h178⟩, sa := h197, noN := h198, iC := h179, tC := h199, kC := h200, exC := h201, tyC := h202, sub := h203, own := h204, sup := h205, opq := h175, top := h176, fn := ⟨_, _, _, _, _, _, _, _, _, _, _, _, _, _, _, _, _, _, _, _, _, _, _, _, _, _, _, _, _, _, _, _, _, _, _, h180, h181, h182, h183, h184, h185, h186, h187, h188, h189, h190, h191, h192, h193, h194, h195, h196⟩ }⟩,
      x1 := ⟨fI1, "ValueError", "ValueError.__new__", "ValueError.__init__", [.type "ValueError", .type "Exception", .type "BaseException", .type "object"], { fb := excBase_ValueError, sf := store_ValueError, kf := PySem.W.kxs_ValueError, gC := PySem.W.mg_of X Gn h1, gS := PySem.W.mg_none_of X Gn h165, cls := ⟨_, _, _, _, _, _, _, _, _, _, _, _, _, _, _, h206, h207⟩, sa := h226, noN := h227, iC := h208, tC := h228, kC := h229, exC := h230, tyC := h231, sub := h232, own := h233, sup := h234, opq := h175, top := h176, fn := ⟨_, _, _, _, _, _, _, _, _, _, _, _, _, _, _, _, _, _, _, _, _, _, _, _, _, _, _, _, _, _, _, _, _, _, _, h209, h210, h211, h212, h213, h214, h215, h216, h217, h218, h219, h220, h221, h222, h223, h224, h225⟩ }⟩,
      ioS5 := fun c b h => by
          unfold tsO5 at h
          by_cases e0 : c ∈ ([5] : List Nat)
          · simp only [List.mem_cons, List.not_mem_nil, or_false] at e0
            rcases e0 with rfl
            · cases h; exact ⟨⟨h59, h60, h61, h62⟩, ⟨h235, h236, h237, h137⟩, h238⟩
          · exfalso
            simp only [List.mem_cons, List.not_mem_nil, or_false, not_or] at e0
            simp [List.lookup, beq_eq_false_iff_ne.mpr e0] at h,
      u4 := Dfn.plain (G := gG K [0, C1, C2, C3, C4, C5]) h239 h240 fun _ _ _ _ _ _ us hl => match us, hl with | [_], _ => rfl,
      u5 := Dfn.plain (G := gG K [0, C1, C2, C3, C4, C5]) h241 h242 fun _ _ _ _ _ _ us hl => match us, hl with | [_, _], _ => rfl,
      u6 := Dfn.plain (G := gG K [0, C1, C2, C3, C4, C5]) h243 h244 fun _ _ _ _ _ _ us hl => match us, hl with | [_], _ => rfl,
      u7 := Dfn.plain (G := gG K [0, C1, C2, C3, C4, C5]) h245 h246 fun _ _ _ _ _ _ us hl => match us, hl with | [_], _ => rfl,
      u8 := Dfn.plain (G := gG K [0, C1, C2, C3, C4, C5]) h247 h248 fun _ _ _ _ _ _ us hl => match us, hl with | [_, _], _ => rfl,
      u9 := Dfn.plain (G := gG K [0, C1, C2, C3, C4, C5]) h249 h250 fun _ _ _ _ _ _ us hl => match us, hl with | [_, _], _ => rfl,
      u10 := Dfn.plain (G := gG K [0, C1, C2, C3, C4, C5]) h251 h252 fun _ _ _ _ _ _ us hl => match us, hl with | [_], _ => rfl,
      u11 := Dfn.plain (G := gG K [0, C1, C2, C3, C4, C5]) h253 h254 fun _ _ _ _ _ _ us hl => match us, hl with | [_], _ => rfl,
      u13 := Dfn.plain (G := gG K [0, C1, C2, C3, C4, C5]) h255 h256 fun _ _ _ _ _ _ us hl => match us, hl with | [_], _ => rfl,
      u14_k0 := DfnK.plain (G := gG K [0, C1, C2, C3, C4, C5]) h257 h258 fun _ _ _ _ _ _ us ws h1 h2 => match us, ws, h1, h2 with | [], [_], _, _ => rfl,
      u14 := Dfn.plain (G := gG K [0, C1, C2, C3, C4, C5]) h257 h258 fun _ _ _ _ _ _ us hl => match us, hl with | [_], _ => rfl,
      u15 := Dfn.plain (G := gG K [0, C1, C2, C3, C4, C5]) h259 h260 fun _ _ _ _ _ _ us hl => match us, hl with | [_], _ => rfl,
      u16 := Dfn.plain (G := gG K [0, C1, C2, C3, C4, C5]) h261 h262 fun _ _ _ _ _ _ us hl => match us, hl with | [_], _ => rfl,
      u17 := Dfn.plain (G := gG K [0, C1, C2, C3, C4, C5]) h263 h264 fun _ _ _ _ _ _ us hl => match us, hl with | [_], _ => rfl,
      u18 := Dfn.plain (G := gG K [0, C1, C2, C3, C4, C5]) h265 h266 fun _ _ _ _ _ _ us hl => match us, hl with | [_], _ => rfl,
      u19 := Dfn.plain (G := gG K [0, C1, C2, C3, C4, C5]) h267 h268 fun _ _ _ _ _ _ us hl => match us, hl with | [_, _], _ => rfl,
      u20 := Dfn.plain (G := gG K [0, C1, C2, C3, C4, C5]) h269 h270 fun _ _ _ _ _ _ us hl => match us, hl with | [_], _ => rfl,
      u21 := Dfn.plain (G := gG K [0, C1, C2, C3, C4, C5]) h271 h272 fun _ _ _ _ _ _ us hl => match us, hl with | [_], _ => rfl,
      u23 := Dfn.plain (G := gG K [0, C1, C2, C3, C4, C5]) h273 h274 fun _ _ _ _ _ _ us hl => match us, hl with | [_, _], _ => rfl,
      u24 := Dfn.plain (G := gG K [0, C1, C2, C3, C4, C5]) h275 h276 fun _ _ _ _ _ _ us hl => match us, hl with | [_, _], _ => rfl,
      u25 := Dfn.plain (G := gG K [0, C1, C2, C3, C4, C5]) h277 h278 fun _ _ _ _ _ _ us hl => match us, hl with | [_, _], _ => rfl,
      u26_k1 := DfnK.plain (G := gG K [0, C1, C2, C3, C4, C5]) h279 h280 fun _ _ _ _ _ _ us ws h1 h2 => match us, ws, h1, h2 with | [_], [_], _, _ => rfl,
      u26 := Dfn.plain (G := gG K [0, C1, C2, C3, C4, C5]) h279 h280 fun _ _ _ _ _ _ us hl => match us, hl with | [_, _], _ => rfl,
      u27 := Dfn.plain (G := gG K [0, C1, C2, C3, C4, C5]) h281 h282 fun _ _ _ _ _ _ us hl => match us, hl with | [_, _], _ => rfl,
      u28 := Dfn.plain (G := gG K [0, C1, C2, C3, C4, C5]) h283 h284 fun _ _ _ _ _ _ us hl => match us, hl with | [_, _], _ => rfl,
      u34 := Dfn.plain (G := gG K [0, C1, C2, C3, C4, C5]) h285 h286 fun _ _ _ _ _ _ us hl => match us, hl with | [_, _], _ => rfl,
      u35 := Dfn.plain (G := gG K [0, C1, C2, C3, C4, C5]) h287 h288 fun _ _ _ _ _ _ us hl => match us, hl with | [_, _], _ => rfl,
      u36 := Dfn.plain (G := gG K [0, C1, C2, C3, C4, C5]) h289 h290 fun _ _ _ _ _ _ us hl => match us, hl with | [_, _], _ => rfl,
      u37 := Dfn.plain (G := gG K [0, C1, C2, C3, C4, C5]) h291 h292 fun _ _ _ _ _ _ us hl => match us, hl with | [_, _, _, _], _ => rfl,
      u38 := Dfn.plain (G := gG K [0, C1, C2, C3, C4, C5]) h293 h294 fun _ _ _ _ _ _ us hl => match us, hl with | [_], _ => rfl,
      u39 := Dfn.plain (G := gG K [0, C1, C2, C3, C4, C5]) h295 h296 fun _ _ _ _ _ _ us hl => match us, hl with | [_, _], _ => rfl,
      u40 := Dfn.plain (G := gG K [0, C1, C2, C3, C4, C5]) h297 h298 fun _ _ _ _ _ _ us hl => match us, hl with | [_, _], _ => rfl,
      u41 := Dfn.plain (G := gG K [0, C1, C2, C3, C4, C5]) h299 h300 fun _ _ _ _ _ _ us hl => match us, hl with | [_, _], _ => rfl,
      u42 := Dfn.plain (G := gG K [0, C1, C2, C3, C4, C5]) h301 h302 fun _ _ _ _ _ _ us hl => match us, hl with | [_, _, _], _ => rfl,
      u43 := Dfn.plain (G := gG K [0, C1, C2, C3, C4, C5]) h303 h304 fun _ _ _ _ _ _ us hl => match us, hl with | [_], _ => rfl }
  have A : ∀ base, Al l.prog w mg base (gG K [0, C1, C2, C3, C4, C5]) (2 * 60) (dF f4 f5 f6 f7 f8 f9 f10 f11 f13 f14 f15 f16 f17 f18 f19 f20 f21 f23 f24 f25 f26 f27 f28 f34 f35 f36 f37 f38 f39 f40 f41 f42 f43 f44) clP := fun base => al_P T ⟨rfl, rfl⟩
  refine ⟨_, fun s v => .of_eq rfl, fun base _ _ => FnG.imp (ok44 (G := gG K [0, C1, C2, C3, C4, C5]) (D := (dF f4 f5 f6 f7 f8 f9 f10 f11 f13 f14 f15 f16 f17 f18 f19 f20 f21 f23 f24 f25 f26 f27 f28 f34 f35 f36 f37 f38 f39 f40 f41 f42 f43 f44)) (nF := nF) T ⟨rfl, rfl⟩ (A base) ⟨_, _, _, _, _, _, _, _, _, _, _, rfl, h305, h306⟩) (sp_law (G := gG K [0, C1, C2, C3, C4, C5]) LV)⟩
theorem walk {l : PySem.W.OpenLaw} {q : Program} {loose : List Str} {XP : (Str → Option Value) → Heap → Prop} {YP : World → Heap → Prop} {d : DefRec} {K : Params → PySem.W.Frag} (hn : l.most = some 63) (hdf : d.params.defaults = []) (hY : ∀ (w : World) (h : Heap), YP w h → (K w.params).In h)
    (F : ∀ (w : World) (mg : Str → Option Value) (fa : Addr) (h : Heap), (K w.params).In h → h.Ns mainGlobals mg → mg d.name = some (.ref fa) → ∃ fd : FuncData, (∀ (s : Shared) (u : Value), BindsTo s fd ⟨[u], []⟩ [("_law_script", u)]) ∧ ∀ base : Heap, (K w.params).In base → base.Ns mainGlobals mg → FnG l.prog w (K w.params) mg base (2 * 60 + 2) fa fd ["_law_script"] (spL (K w.params))) :
    PySem.W.WalkO q loose XP YP l.row.toRowW d [] (fun f vs => PySem.call f vs) :=
  walkG (n := 63) (k := 2 * 60 + 2) (x := "_law_script") (sp := fun w => spL (K w.params)) hn (by decide) hdf ⟨rfl, by decide, by decide⟩ hY F (fun w H a ns hl hb hO hS => ⟨a, ns, rfl, hO, hS, hl, hb, fun _ => rfl⟩)
end Dr.L
open PySem PySem.W PyProof.Rows in
set_option maxRecDepth 100000 in
set_option maxHeartbeats 0 in
theorem PySem.Challenge.cw_deadrules_k01_whole_documents_read_holds : PySem.Challenge.rw_deadrules_k01_whole_documents_read.Holds := by
  w_on; o_law; k_head; (case hw => w_witness2)
  k_fill
  refine Dr.L.walk (l := PySem.Challenge.rw_deadrules_k01_whole_documents_read) rfl rfl (fun w h Y => PySem.W.kIn_of Y) ?F
  case F =>
    intro w mg fa h KX G hmg
    refine' Dr.L.all_mk Dr.L.LV KX G hmg ?h0 ?h1 ?h2 ?h3 ?h4 ?h5 ?h6 ?h7 ?h8 ?h9 ?h10 ?h11 ?h12 ?h13 ?h14 ?h15 ?h16 ?h17 ?h18 ?h19 ?h20 ?h21 ?h22 ?h23 ?h24 ?h25 ?h26 ?h27 ?h28 ?h29 ?h30 ?h31 ?h32 ?h33 ?h34 ?h35 ?h36 ?h37 ?h38 ?h39 ?h40 ?h41 ?h42 ?h43 ?h44 ?h45 ?h46 ?h47 ?h48 ?h49 ?h50 ?h51 ?h52 ?h53 ?h54 ?h55 ?h56 ?h57 ?h58 ?h59 ?h60 ?h61 ?h62 ?h63 ?h64 ?h65 ?h66 ?h67 ?h68 ?h69 ?h70 ?h71 ?h72 ?h73 ?h74 ?h75 ?h76 ?h77 ?h78 ?h79 ?h80 ?h81 ?h82 ?h83 ?h84 ?h85 ?h86 ?h87 ?h88 ?h89 ?h90 ?h91 ?h92 ?h93 ?h94 ?h95 ?h96 ?h97 ?h98 ?h99 ?h100 ?h101 ?h102 ?h103 ?h104 ?h105 ?h106 ?h107 ?h108 ?h109 ?h110 ?h111 ?h112 ?h113 ?h114 ?h115 ?h116 ?h117 ?h118 ?h119 ?h120 ?h121 ?h122 ?h123 ?h124 ?h125 ?h126 ?h127 ?h128 ?h129 ?h130 ?h131 ?h132 ?h133 ?h134 ?h135 ?h136 ?h137 ?h138 ?h139 ?h140 ?h141 ?h142 ?h143 ?h144 ?h145 ?h146 ?h147 ?h148 ?h149 ?h150 ?h151 ?h152 ?h153 ?h154 ?h155 ?h156 ?h157 ?h158 ?h159 ?h160 ?h161 ?h162 ?h163 ?h164 ?h165 ?h166 ?h167 ?h168 ?h169 ?h170 ?h171 ?h172 ?h173 ?h174 ?h175 ?h176 ?h177 ?h178 ?h179 ?h180 ?h181 ?h182 ?h183 ?h184 ?h185 ?h186 ?h187 ?h188 ?h189 ?h190 ?h191 ?h192 ?h193 ?h194 ?h195 ?h196 ?h197 ?h198 ?h199 ?h200 ?h201 ?h202 ?h203 ?h204 ?h205 ?h206 ?h207 ?h208 ?h209 ?h210 ?h211 ?h212 ?h213 ?h214 ?h215 ?h216 ?h217 ?h218 ?h219 ?h220 ?h221 ?h222 ?h223 ?h224 ?h225 ?h226 ?h227 ?h228 ?h229 ?h230 ?h231 ?h232 ?h233 ?h234 ?h235 ?h236 ?h237 ?h238 ?h239 ?h240 ?h241 ?h242 ?h243 ?h244 ?h245 ?h246 ?h247 ?h248 ?h249 ?h250 ?h251 ?h252 ?h253 ?h254 ?h255 ?h256 ?h257 ?h258 ?h259 ?h260 ?h261 ?h262 ?h263 ?h264 ?h265 ?h266 ?h267 ?h268 ?h269 ?h270 ?h271 ?h272 ?h273 ?h274 ?h275 ?h276 ?h277 ?h278 ?h279 ?h280 ?h281 ?h282 ?h283 ?h284 ?h285 ?h286 ?h287 ?h288 ?h289 ?h290 ?h291 ?h292 ?h293 ?h294 ?h295 ?h296 ?h297 ?h298 ?h299 ?h300 ?h301 ?h302 ?h303 ?h304 ?h305 ?h306
    (case h0 => k_is)
    (case h1 => k_is)
    (case h2 => k_is)
    (case h3 => k_is)
    (case h4 => k_is)
    (case h5 => k_is)
    (case h6 => k_is)
    (case h7 => k_is)
    (case h8 => k_is)
    (case h9 => k_is)
    (case h10 => k_is)
    (case h11 => k_is)
    (case h12 => k_is)
    (case h13 => k_is)
    (case h14 => k_is)
    (case h15 => k_is)
    (case h16 => k_is)
    (case h17 => k_is)
    (case h18 => k_is)
    (case h19 => k_is)
    (case h20 => k_is)
    (case h21 => k_is)
    (case h22 => k_is)
    (case h23 => k_is)
    (case h24 => k_is)
    (case h25 => k_is)
    (case h26 => k_is)
    (case h27 => k_is)
    (case h28 => k_is)
    (case h29 => k_is)
    (case h30 => k_is)
    (case h31 => k_is)
    (case h32 => k_is)
    (case h33 => k_is)
    (case h34 => k_is)
    (case h35 => k_is)
    (case h36 => k_is)
    (case h37 => k_is)
    (case h38 => k_is)
    (case h39 => k_is)
    (case h40 => k_is)
    (case h41 => k_is)
    (case h42 => k_is)
    (case h43 => k_is)
    (case h44 => k_is)
    (case h45 => k_is)
    (case h46 => k_is)
    (case h47 => k_is)
    (case h48 => k_is)
    (case h49 => k_is)
    (case h50 => k_is)
    (case h51 => k_is)
    (case h52 => k_is)
    (case h53 => k_is)
    (case h54 => k_is)
    (case h55 => k_is)
    (case h56 => k_is)
    (case h57 => k_is)
    (case h58 => k_is)
    (case h59 => k_is)
    (case h60 => k_is)
    (case h61 => k_is)
    (case h62 => k_is)
    (case h63 => k_is)
    (case h64 => k_is)
    (case h65 => k_is)
    (case h66 => k_is)
    (case h67 => k_is)
    (case h68 => k_is)
    (case h69 => k_is)
    (case h70 => k_is)
    (case h71 => k_is)
    (case h72 => k_is)
    (case h73 => k_is)
    (case h74 => k_is)
    (case h75 => k_is)
    (case h76 => k_is)
    (case h77 => k_is)
    (case h78 => k_is)
    (case h79 => k_is)
    (case h80 => k_is)
    (case h81 => k_is)
    (case h82 => k_is)
    (case h83 => k_is)
    (case h84 => k_is)
    (case h85 => k_is)
    (case h86 => k_is)
    (case h87 => k_is)
    (case h88 => k_is)
    (case h89 => k_is)
    (case h90 => k_is)
    (case h91 => k_is)
    (case h92 => k_is)
    (case h93 => k_is)
    (case h94 => k_is)
    (case h95 => k_is)
    (case h96 => k_is)
    (case h97 => k_is)
    (case h98 => k_is)
    (case h99 => k_is)
    (case h100 => k_is)
    (case h101 => k_is)
    (case h102 => k_is)
    (case h103 => k_is)
    (case h104 => k_is)
    (case h105 => k_is)
    (case h106 => k_is)
    (case h107 => k_is)
    (case h108 => k_is)
    (case h109 => k_is)
    (case h110 => k_is)
    (case h111 => k_is)
    (case h112 => k_is)
    (case h113 => k_is)
    (case h114 => k_is)
    (case h115 => k_is)
    (case h116 => k_is)
    (case h117 => k_is)
    (case h118 => k_is)
    (case h119 => k_is)
    (case h120 => k_is)
    (case h121 => k_is)
    (case h122 => k_is)
    (case h123 => k_is)
    (case h124 => k_is)
    (case h125 => k_is)
    (case h126 => k_is)
    (case h127 => k_is)
    (case h128 => k_is)
    (case h129 => k_is)
    (case h130 => k_is)
    (case h131 => k_is)
    (case h132 => k_is)
    (case h133 => k_is)
    (case h134 => k_is)
    (case h135 => k_is)
    (case h136 => k_is)
    (case h137 => k_is)
    (case h138 => kit_is)
    (case h139 => kit_is)
    (case h140 => kit_is)
    (case h141 => kit_is)
    (case h142 => kit_is)
    (case h143 => kit_is)
    (case h144 => kit_is)
    (case h145 => k_is)
    (case h146 => decide +kernel)
    (case h147 => k_is)
    (case h148 => k_is)
    (case h149 => k_is)
    (case h150 => k_is)
    (case h151 => k_is)
    (case h152 => rfl)
    (case h153 => decide +kernel)
    (case h154 => rfl)
    (case h155 => rfl)
    (case h156 => rfl)
    (case h157 => rfl)
    (case h158 => rfl)
    (case h159 => rfl)
    (case h160 => rfl)
    (case h161 => decide +kernel)
    (case h162 => decide +kernel)
    (case h163 => decide +kernel)
    (case h164 => exact fun s a b => BindsTo.of_eq rfl)
    (case h165 => k_is)
    (case h166 => k_is)
    (case h167 => k_is)
    (case h168 => k_is)
    (case h169 => k_is)
    (case h170 => k_is)
    (case h171 => k_is)
    (case h172 => k_is)
    (case h173 => k_is)
    (case h174 => ks_is)
    (case h175 => k_is)
    (case h176 => decide +kernel)
    (case h177 => k_is)
    (case h178 => decide +kernel)
    (case h179 => k_is)
    (case h180 => k_is)
    (case h181 => k_is)
    (case h182 => k_is)
    (case h183 => k_is)
    (case h184 => rfl)
    (case h185 => decide +kernel)
    (case h186 => rfl)
    (case h187 => rfl)
    (case h188 => rfl)
    (case h189 => rfl)
    (case h190 => rfl)
    (case h191 => rfl)
    (case h192 => rfl)
    (case h193 => decide +kernel)
    (case h194 => decide +kernel)
    (case h195 => decide +kernel)
    (case h196 => exact fun s a b => BindsTo.of_eq rfl)
    (case h197 => k_is)
    (case h198 => k_is)
    (case h199 => k_is)
    (case h200 => k_is)
    (case h201 => k_is)
    (case h202 => k_is)
    (case h203 => k_is)
    (case h204 => k_is)
    (case h205 => ks_is)
    (case h206 => k_is)
    (case h207 => decide +kernel)
    (case h208 => k_is)
    (case h209 => k_is)
    (case h210 => k_is)
    (case h211 => k_is)
    (case h212 => k_is)
    (case h213 => rfl)
    (case h214 => decide +kernel)
    (case h215 => rfl)
    (case h216 => rfl)
    (case h217 => rfl)
    (case h218 => rfl)
    (case h219 => rfl)
    (case h220 => rfl)
    (case h221 => rfl)
    (case h222 => decide +kernel)
    (case h223 => decide +kernel)
    (case h224 => decide +kernel)
    (case h225 => exact fun s a b => BindsTo.of_eq rfl)
    (case h226 => k_is)
    (case h227 => k_is)
    (case h228 => k_is)
    (case h229 => k_is)
    (case h230 => k_is)
    (case h231 => k_is)
    (case h232 => k_is)
    (case h233 => k_is)
    (case h234 => ks_is)
    (case h235 => k_is)
    (case h236 => k_is)
    (case h237 => k_is)
    (case h238 => kit_is)
    (case h239 => k_is)
    (case h240 => k_is)
    (case h241 => k_is)
    (case h242 => k_is)
    (case h243 => k_is)
    (case h244 => k_is)
    (case h245 => k_is)
    (case h246 => k_is)
    (case h247 => k_is)
    (case h248 => k_is)
    (case h249 => k_is)
    (case h250 => k_is)
    (case h251 => k_is)
    (case h252 => k_is)
    (case h253 => k_is)
    (case h254 => k_is)
    (case h255 => k_is)
    (case h256 => k_is)
    (case h257 => k_is)
    (case h258 => k_is)
    (case h259 => k_is)
    (case h260 => k_is)
    (case h261 => k_is)
    (case h262 => k_is)
    (case h263 => k_is)
    (case h264 => k_is)
    (case h265 => k_is)
    (case h266 => k_is)
    (case h267 => k_is)
    (case h268 => k_is)
    (case h269 => k_is)
    (case h270 => k_is)
    (case h271 => k_is)
    (case h272 => k_is)
    (case h273 => k_is)
    (case h274 => k_is)
    (case h275 => k_is)
    (case h276 => k_is)
    (case h277 => k_is)
    (case h278 => k_is)
    (case h279 => k_is)
    (case h280 => k_is)
    (case h281 => k_is)
    (case h282 => k_is)
    (case h283 => k_is)
    (case h284 => k_is)
    (case h285 => k_is)
    (case h286 => k_is)
    (case h287 => k_is)
    (case h288 => k_is)
    (case h289 => k_is)
    (case h290 => k_is)
    (case h291 => k_is)
    (case h292 => k_is)
    (case h293 => k_is)
    (case h294 => k_is)
    (case h295 => k_is)
    (case h296 => k_is)
    (case h297 => k_is)
    (case h298 => k_is)
    (case h299 => k_is)
    (case h300 => k_is)
    (case h301 => k_is)
    (case h302 => k_is)
    (case h303 => k_is)
    (case h304 => k_is)
    (case h305 => k_is)
    (case h306 => k_is)
