import PyProof.Rows.All
import Wide.All
import OpenK.AllK
import Wide.FinOn
import HandS.ForMost
import HandS.ForExc
import HandS.Zip
import HandS.Wide
import HandS.IsInst
import HandS.TupMul
import HandS.TupAny
import HandS.ExcIs
import HandS.Defaults
import KE.DataMinMax
import HandS.SortKw
import HandS.CallSlots
import HandS.Iter
import PyProof.Rows.ChunkLeaf
import HandS.TryOnly
import HandS.TryMany
import HandS.Rev
import HandS.EndBits
import HandS.More
import HandS.TupLe
import KE.GoesMore
import PySem.Challenge.RW_hydrahouse_k26_factors
set_option Elab.async false
set_option linter.all false
set_option maxRecDepth 100000
set_option maxHeartbeats 4000000
namespace Pu
open PySem PySem.Spec PyProof.Rows L2
/-- an answer by values: a value, an error by its class's name, nothing said -/
inductive R (α : Type) where
  | ok (a : α) | err (c : Str) | bad
def R.bind {α β : Type} (x : R α) (f : α → R β) : R β := match x with
  | .ok a => f a
  | .err c => .err c
  | .bad => .bad
@[simp] theorem R.bind_ok {α β : Type} (a : α) (f : α → R β) : R.bind (.ok a) f = f a := rfl
@[simp] theorem R.bind_err {α β : Type} (c : Str) (f : α → R β) : R.bind (.err c) f = .err c := rfl
@[simp] theorem R.bind_bad {α β : Type} (f : α → R β) : R.bind .bad f = .bad := rfl
/-- a value, or nothing said -/
def R.of {α : Type} : Option α → R α
  | some a => .ok a
  | none => .bad
@[simp] theorem R.of_some {α : Type} (a : α) : R.of (some a) = .ok a := rfl
@[simp] theorem R.of_none {α : Type} : R.of (none : Option α) = .bad := rfl
abbrev Vars := List (Option PyData)
/-! ### the heap without some objects -/
def hide (O : List Addr) (H : Hp) : Hp := fun a => if a ∈ O then none else H a
theorem hide_nil (H : Hp) : hide [] H = H := by
  funext a
  unfold hide
  rw [if_neg (by simp)]
theorem hide_some {O : List Addr} {H : Hp} {a : Addr} {o : HO} (h : hide O H a = some o) : a ∉ O ∧ H a = some o := by
  unfold hide at h
  by_cases c : a ∈ O
  · rw [if_pos c] at h; cases h
  · rw [if_neg c] at h; exact ⟨c, h⟩
theorem hide_of {O : List Addr} {H : Hp} {a : Addr} {o : HO} (c : a ∉ O) (h : H a = some o) : hide O H a = some o := by
  unfold hide
  rw [if_neg c]; exact h
theorem hide_same {O : List Addr} {H H' : Hp} (s : Same H H') : Same (hide O H) (hide O H') := fun a o h => by
  obtain ⟨c, e⟩ := hide_some h
  exact hide_of c (s a o e)
theorem hide_sub {O : List Addr} {H : Hp} : Same (hide O H) H := fun a o h => (hide_some h).2
theorem hide_less {O O' : List Addr} {H : Hp} (s : ∀ a ∈ O', a ∈ O) : Same (hide O H) (hide O' H) := fun a o h => by
  obtain ⟨c, e⟩ := hide_some h
  exact hide_of (fun z => c (s a z)) e
theorem same_new {H : Hp} {p : Addr} {o : HO} (h : H p = none) : Same H (upd H p o) := fun b u e => by
  rw [upd_ne (ne_of_none e h)]; exact e
/-- every hidden object stands -/
def Stands (O : List Addr) (H : Hp) : Prop := ∀ a ∈ O, H a ≠ none
theorem Stands.same {O : List Addr} {H H' : Hp} (h : Stands O H) (s : Same H H') : Stands O H' := fun a ha => by
  cases q : H a with
  | none => exact absurd q (h a ha)
  | some o => rw [s a o q]; exact fun z => nomatch z
theorem Stands.new {O : List Addr} {H : Hp} {p : Addr} (h : Stands O H) (n : H p = none) : p ∉ O := fun z => h p z n
theorem seqL {K : PySem.W.Frag} {H H' : Hp} {a : Addr} {xs : List V} (e : Same H H') (h : SqL K H a xs) : SqL K H' a xs := e.seq h
theorem seqT {K : PySem.W.Frag} {H H' : Hp} {a : Addr} {xs : List V} (e : Same H H') (h : SqT K H a xs) : SqT K H' a xs := by
  rcases h with (h | ⟨o, h⟩) | h
  · exact .inl (.inl (e _ _ h))
  · exact .inl (.inr ⟨o, e _ _ h⟩)
  · exact .inr h
/-! ### values stand for data -/
def kD : Key → PyData
  | .inl i => .int i
  | .inr x => .str x
mutual
inductive Rp (K : PySem.W.Frag) (H : Hp) : V → PyData → Prop
  | non : Rp K H .non .none
  | bl (b : Bool) : Rp K H (.bl b) (.bool b)
  | int (i : Int) : Rp K H (.int i) (.int i)
  | str (x : Str) : Rp K H (.str x) (.str x)
  | lst {a : Addr} {xs : List V} {ds : List PyData} : SqL K H a xs → Rps K H xs ds → Rp K H (.ref a) (.list ds)
  | tup {a : Addr} {xs : List V} {ds : List PyData} : SqT K H a xs → Rps K H xs ds → Rp K H (.ref a) (.tuple ds)
  | dic {a : Addr} {kvs : List (Key × V)} {ds : List (PyData × PyData)} : H a = some (.dK kvs) → Rpd K H kvs ds → Rp K H (.ref a) (.dict ds)
inductive Rps (K : PySem.W.Frag) (H : Hp) : List V → List PyData → Prop
  | nil : Rps K H [] []
  | cons {v : V} {vs : List V} {d : PyData} {ds : List PyData} : Rp K H v d → Rps K H vs ds → Rps K H (v :: vs) (d :: ds)
inductive Rpd (K : PySem.W.Frag) (H : Hp) : List (Key × V) → List (PyData × PyData) → Prop
  | nil : Rpd K H [] []
  | cons {k : Key} {v : V} {vs : List (Key × V)} {d : PyData} {ds : List (PyData × PyData)} : Rp K H v d → Rpd K H vs ds → Rpd K H ((k, v) :: vs) ((kD k, d) :: ds)
end
section
variable {K : PySem.W.Frag} {H H' : Hp}
mutual
theorem Rp.mono (s : Same H H') : ∀ {v : V} {d : PyData}, Rp K H v d → Rp K H' v d
  | _, _, .non => .non
  | _, _, .bl b => .bl b
  | _, _, .int i => .int i
  | _, _, .str x => .str x
  | _, _, .lst h r => .lst (seqL s h) (Rps.mono s r)
  | _, _, .tup h r => .tup (seqT s h) (Rps.mono s r)
  | _, _, .dic h r => .dic (s _ _ h) (Rpd.mono s r)
theorem Rps.mono (s : Same H H') : ∀ {vs : List V} {ds : List PyData}, Rps K H vs ds → Rps K H' vs ds
  | _, _, .nil => .nil
  | _, _, .cons h r => .cons (Rp.mono s h) (Rps.mono s r)
theorem Rpd.mono (s : Same H H') : ∀ {vs : List (Key × V)} {ds : List (PyData × PyData)}, Rpd K H vs ds → Rpd K H' vs ds
  | _, _, .nil => .nil
  | _, _, .cons h r => .cons (Rp.mono s h) (Rpd.mono s r)
end
theorem Rps.length : ∀ {vs : List V} {ds : List PyData}, Rps K H vs ds → vs.length = ds.length
  | _, _, .nil => rfl
  | _, _, .cons _ r => congrArg Nat.succ (Rps.length r)
theorem Rps.get : ∀ {vs : List V} {ds : List PyData} {i : Nat} {d : PyData}, Rps K H vs ds → ds[i]? = some d → ∃ v, vs[i]? = some v ∧ Rp K H v d
  | _, _, _, _, .nil, e => by simp at e
  | _, _, 0, _, .cons h _, e => by simp at e; subst e; exact ⟨_, rfl, h⟩
  | _, _, i + 1, _, .cons _ r, e => by
    obtain ⟨v, h1, h2⟩ := Rps.get (i := i) r (by simpa using e)
    exact ⟨v, by simpa using h1, h2⟩
theorem Rps.append : ∀ {vs ws : List V} {ds es : List PyData}, Rps K H vs ds → Rps K H ws es → Rps K H (vs ++ ws) (ds ++ es)
  | _, _, _, _, .nil, s => s
  | _, _, _, _, .cons h r, s => .cons h (Rps.append r s)
theorem Rps.take : ∀ {vs : List V} {ds : List PyData} (n : Nat), Rps K H vs ds → Rps K H (vs.take n) (ds.take n)
  | _, _, 0, _ => .nil
  | _, _, _ + 1, .nil => .nil
  | _, _, n + 1, .cons h r => .cons h (Rps.take n r)
theorem Rps.drop : ∀ {vs : List V} {ds : List PyData} (n : Nat), Rps K H vs ds → Rps K H (vs.drop n) (ds.drop n)
  | _, _, 0, r => r
  | _, _, _ + 1, .nil => .nil
  | _, _, n + 1, .cons _ r => Rps.drop n r
theorem Rps.reverse {vs : List V} {ds : List PyData} (h : Rps K H vs ds) : Rps K H vs.reverse ds.reverse := by
  have go : ∀ {vs : List V} {ds : List PyData}, Rps K H vs ds → Rps K H vs.reverse ds.reverse := by
    intro vs
    induction vs with
    | nil => intro ds h; cases h; exact .nil
    | cons v vs ih =>
      intro ds h
      cases h with
      | cons h r => rw [List.reverse_cons, List.reverse_cons]; exact Rps.append (ih r) (.cons h .nil)
  exact go h
theorem Rps.set : ∀ {vs : List V} {ds : List PyData} {v : V} {d : PyData} (i : Nat), Rps K H vs ds → Rp K H v d → Rps K H (vs.set i v) (ds.set i d)
  | _, _, _, _, _, .nil, _ => .nil
  | _, _, _, _, 0, .cons _ t, r => .cons r t
  | _, _, _, _, i + 1, .cons q t, r => .cons q (Rps.set i t r)
theorem Rps.rep {vs : List V} {ds : List PyData} (h : Rps K H vs ds) : ∀ k : Nat, Rps K H (List.replicate k vs).flatten (List.replicate k ds).flatten
  | 0 => .nil
  | k + 1 => by
    rw [List.replicate_succ, List.replicate_succ, List.flatten_cons, List.flatten_cons]
    exact Rps.append h (Rps.rep h k)
/-- ints -/
theorem Rps.ints : ∀ {vs : List V} {ns : List Int}, Rps K H vs (ns.map PyData.int) → vs = ns.map V.int
  | _, [], h => by cases h; rfl
  | _, n :: ns, h => by
    cases h with
    | cons h r =>
      cases h
      rw [Rps.ints r]; rfl
theorem Rps.ofInts : ∀ (ns : List Int), Rps K H (ns.map V.int) (ns.map PyData.int)
  | [] => .nil
  | n :: ns => .cons (.int n) (Rps.ofInts ns)
/-! data without lists and dicts never change -/
mutual
def imm : PyData → Bool
  | .none | .bool _ | .int _ | .str _ => true
  | .tuple xs => imms xs
  | .list _ | .dict _ => false
def imms : List PyData → Bool
  | [] => true
  | x :: xs => imm x && imms xs
end
mutual
theorem Rp.imm (s : ∀ a xs, SqT K H a xs → SqT K H' a xs) : ∀ {d : PyData} {v : V}, Rp K H v d → imm d = true → Rp K H' v d
  | .none, _, h, _ => by cases h; exact .non
  | .bool _, _, h, _ => by cases h; exact .bl _
  | .int _, _, h, _ => by cases h; exact .int _
  | .str _, _, h, _ => by cases h; exact .str _
  | .tuple ds, _, h, e => by
    cases h with
    | tup q r => exact .tup (s _ _ q) (Rps.imm s r (by simpa [Pu.imm] using e))
  | .list _, _, _, e => by simp [Pu.imm] at e
  | .dict _, _, _, e => by simp [Pu.imm] at e
theorem Rps.imm (s : ∀ a xs, SqT K H a xs → SqT K H' a xs) : ∀ {ds : List PyData} {vs : List V}, Rps K H vs ds → imms ds = true → Rps K H' vs ds
  | [], _, h, _ => by cases h; exact .nil
  | d :: ds, _, h, e => by
    cases h with
    | cons h r =>
      have e' : Pu.imm d = true ∧ imms ds = true := by simpa [imms] using e
      exact .cons (Rp.imm s h e'.1) (Rps.imm s r e'.2)
end
/-! as the library's data -/
mutual
theorem Rp.dp : ∀ {d : PyData} {v : V}, Rp K H v d → d.canLay0 = true → Same H H' → Dp K H' v d
  | .none, _, h, _, _ => by cases h; exact .non
  | .bool _, _, h, _, _ => by cases h; exact .bl _
  | .int _, _, h, _, _ => by cases h; exact .int _
  | .str _, _, h, _, _ => by cases h; exact .str _
  | .tuple ds, _, h, e, s => by
    cases h with
    | tup q r => exact .tup (seqT s q) (Rps.dp r (by simpa [PyData.canLay0] using e) s)
  | .list ds, _, h, e, s => by
    cases h with
    | lst q r => exact .lst (seqL s q) (Rps.dp r (by simpa [PyData.canLay0] using e) s)
  | .dict _, _, _, e, _ => by simp [PyData.canLay0] at e
theorem Rps.dp : ∀ {ds : List PyData} {vs : List V}, Rps K H vs ds → PyData.canLayAll0 ds = true → Same H H' → DpAll K H' vs ds
  | [], _, h, _, _ => by cases h; exact .nil
  | d :: ds, _, h, e, s => by
    cases h with
    | cons h r =>
      have e' : d.canLay0 = true ∧ PyData.canLayAll0 ds = true := by simpa [PyData.canLayAll0] using e
      exact .cons (Rp.dp h e'.1 s) (Rps.dp r e'.2 s)
end
end
/-! ### the variables -/
structure VRel (K : PySem.W.Frag) (F : Hp) (σ : L2.St) (ρ : Vars) : Prop where
  len : σ.length = ρ.length
  get : ∀ (i : Nat) (d : PyData), ρ[i]? = some (some d) → ∃ v, σ[i]? = some (some v) ∧ Rp K F v d
theorem VRel.mono {K : PySem.W.Frag} {F F' : Hp} {σ : L2.St} {ρ : Vars} (h : VRel K F σ ρ) (s : Same F F') : VRel K F' σ ρ := ⟨h.len, fun i d e => by
  obtain ⟨v, h1, h2⟩ := h.get i d e
  exact ⟨v, h1, h2.mono s⟩⟩
theorem VRel.set {K : PySem.W.Frag} {F : Hp} {σ : L2.St} {ρ : Vars} {i : Nat} {v : V} {d : PyData} (h : VRel K F σ ρ) (r : Rp K F v d) : VRel K F (σ.set i (some v)) (ρ.set i (some d)) := ⟨by simpa using h.len, fun j e q => by
  have hl := h.len
  by_cases c : i = j
  · subst c
    by_cases hi : i < ρ.length
    · rw [List.getElem?_set_self hi] at q
      cases q
      exact ⟨v, List.getElem?_set_self (by omega), r⟩
    · rw [List.getElem?_eq_none (by simpa using hi)] at q; cases q
  · rw [List.getElem?_set_ne c] at q
    obtain ⟨w, h1, h2⟩ := h.get j e q
    exact ⟨w, by rw [List.getElem?_set_ne c]; exact h1, h2⟩⟩
/-! ### expressions -/
/-- the class object of an own error -/
def exV (mg : Str → Option Value) (c : Str) : Value := (mg c).getD .none
section
variable (X : Cx) (W : WX)
def EOut (O : List Addr) (σ : L2.St) (H : Hp) (Q : VK) : R PyData → Prop
  | .ok d => ∀ v H', Same H H' → Rp X.K (hide O H') v d → Q v H'
  | .err c => ∀ H', Same H H' → W (exV X.mg c) none σ H'
  | .bad => False
def AOut (O : List Addr) (σ : L2.St) (H : Hp) (Q : List V → Hp → Prop) : R (List PyData) → Prop
  | .ok ds => ∀ vs H', Same H H' → Rps X.K (hide O H') vs ds → Q vs H'
  | .err c => ∀ H', Same H H' → W (exV X.mg c) none σ H'
  | .bad => False
def TOut (σ : L2.St) (H : Hp) (Q : Bool → Hp → Prop) : R Bool → Prop
  | .ok b => ∀ H', Same H H' → Q b H'
  | .err c => ∀ H', Same H H' → W (exV X.mg c) none σ H'
  | .bad => False
def EX (e : Expr) (f : Vars → R PyData) : Prop :=
  ∃ t, PE X e t ∧ ∀ σ H O ρ Q, Stands O H → VRel X.K (hide O H) σ ρ → EOut X W O σ H Q (f ρ) → t σ H Q
def AX (es : List Expr) (f : Vars → R (List PyData)) : Prop :=
  ∃ t, PA X es t ∧ ∀ σ H O ρ Q, Stands O H → VRel X.K (hide O H) σ ρ → AOut X W O σ H Q (f ρ) → t σ H Q
def TX (e : Expr) (f : Vars → R Bool) : Prop :=
  ∃ t, PT X e t ∧ ∀ σ H O ρ Q, Stands O H → VRel X.K (hide O H) σ ρ → TOut X W σ H Q (f ρ) → t σ H Q
/-- parts of 'and', 'or' -/
def WX' (e : Expr) (f : Vars → R Bool) : Prop :=
  ∃ t, PW X e t ∧ ∀ σ H O ρ Q, Stands O H → VRel X.K (hide O H) σ ρ → TOut X W σ H Q (f ρ) → t σ H Q
def OX (e : Option Expr) (f : Vars → R (Option Int)) : Prop :=
  ∃ t, PO X e t ∧ ∀ σ H O ρ (Q : Option Int → Hp → Prop), Stands O H → VRel X.K (hide O H) σ ρ →
    (match f ρ with
      | .ok o => ∀ H', Same H H' → Q o H'
      | .err c => ∀ H', Same H H' → W (exV X.mg c) none σ H'
      | .bad => False) → t σ H Q
end
section
variable (X : Cx) (W : WX)
def tE (f : Vars → R PyData) : TE := fun σ H Q => ∃ O ρ, Stands O H ∧ VRel X.K (hide O H) σ ρ ∧ EOut X W O σ H Q (f ρ)
def tT (f : Vars → R Bool) : TT := fun σ H Q => ∃ O ρ, Stands O H ∧ VRel X.K (hide O H) σ ρ ∧ TOut X W σ H Q (f ρ)
end
theorem EX.pe {X : Cx} {W : WX} {e : Expr} {f : Vars → R PyData} (h : EX X W e f) : PE X e (tE X W f) := by
  obtain ⟨t, p, ht⟩ := h
  exact ⟨fun pins s σ H Q I ⟨O, ρ, h1, h2, h3⟩ => p.run pins s σ H Q I (ht σ H O ρ Q h1 h2 h3)⟩
theorem TX.pt {X : Cx} {W : WX} {e : Expr} {f : Vars → R Bool} (h : TX X W e f) : PT X e (tT X W f) := by
  obtain ⟨t, p, ht⟩ := h
  exact ⟨fun pins s σ H Q I ⟨O, ρ, h1, h2, h3⟩ => p.run pins s σ H Q I (ht σ H O ρ Q h1 h2 h3)⟩
section
variable {X : Cx} {W : WX}
theorem EOut.from {O : List Addr} {σ : L2.St} {H H1 : Hp} {Q : VK} {r : R PyData} (h : EOut X W O σ H Q r) (s : Same H H1) : EOut X W O σ H1 Q r := by
  cases r with
  | ok d => exact fun v H' s' r => h v H' (s.trans s') r
  | err c => exact fun H' s' => h H' (s.trans s')
  | bad => exact h
theorem AOut.from {O : List Addr} {σ : L2.St} {H H1 : Hp} {Q : List V → Hp → Prop} {r : R (List PyData)} (h : AOut X W O σ H Q r) (s : Same H H1) : AOut X W O σ H1 Q r := by
  cases r with
  | ok d => exact fun v H' s' r => h v H' (s.trans s') r
  | err c => exact fun H' s' => h H' (s.trans s')
  | bad => exact h
theorem TOut.from {σ : L2.St} {H H1 : Hp} {Q : Bool → Hp → Prop} {r : R Bool} (h : TOut X W σ H Q r) (s : Same H H1) : TOut X W σ H1 Q r := by
  cases r with
  | ok d => exact fun H' s' => h H' (s.trans s')
  | err c => exact fun H' s' => h H' (s.trans s')
  | bad => exact h
/-- a value first, then the rest -/
theorem EOut.then {O : List Addr} {σ : L2.St} {H : Hp} {r : R PyData} {β : Type} {g : PyData → R β} {P : R β → Prop} {Q : VK} (hb : P .bad → False) (he : ∀ c, P (.err c) → ∀ H', Same H H' → W (exV X.mg c) none σ H')
    (h : P (r.bind g)) (k : ∀ d v H', Same H H' → Rp X.K (hide O H') v d → P (g d) → Q v H') : EOut X W O σ H Q r := by
  cases r with
  | ok d => exact fun v H' s r => k d v H' s r h
  | err c => exact he c h
  | bad => exact hb h
theorem TOut.then {σ : L2.St} {H : Hp} {r : R Bool} {β : Type} {g : Bool → R β} {P : R β → Prop} {Q : Bool → Hp → Prop} (hb : P .bad → False) (he : ∀ c, P (.err c) → ∀ H', Same H H' → W (exV X.mg c) none σ H')
    (h : P (r.bind g)) (k : ∀ d H', Same H H' → P (g d) → Q d H') : TOut X W σ H Q r := by
  cases r with
  | ok d => exact fun H' s => k d H' s h
  | err c => exact he c h
  | bad => exact hb h
theorem AOut.then {O : List Addr} {σ : L2.St} {H : Hp} {r : R (List PyData)} {β : Type} {g : List PyData → R β} {P : R β → Prop} {Q : List V → Hp → Prop} (hb : P .bad → False) (he : ∀ c, P (.err c) → ∀ H', Same H H' → W (exV X.mg c) none σ H')
    (h : P (r.bind g)) (k : ∀ d v H', Same H H' → Rps X.K (hide O H') v d → P (g d) → Q v H') : AOut X W O σ H Q r := by
  cases r with
  | ok d => exact fun v H' s r => k d v H' s r h
  | err c => exact he c h
  | bad => exact hb h
/-- the two first premises of the rules above, where P is the wish at the end -/
theorem EOut.b {O : List Addr} {σ : L2.St} {H : Hp} {Q : VK} : EOut X W O σ H Q .bad → False := fun z => z
theorem EOut.e {O : List Addr} {σ : L2.St} {H : Hp} {Q : VK} (c : Str) : EOut X W O σ H Q (.err c) → ∀ H', Same H H' → W (exV X.mg c) none σ H' := fun z => z
theorem AOut.b {O : List Addr} {σ : L2.St} {H : Hp} {Q : List V → Hp → Prop} : AOut X W O σ H Q .bad → False := fun z => z
theorem AOut.e {O : List Addr} {σ : L2.St} {H : Hp} {Q : List V → Hp → Prop} (c : Str) : AOut X W O σ H Q (.err c) → ∀ H', Same H H' → W (exV X.mg c) none σ H' := fun z => z
theorem TOut.b {σ : L2.St} {H : Hp} {Q : Bool → Hp → Prop} : TOut X W σ H Q .bad → False := fun z => z
theorem TOut.e {σ : L2.St} {H : Hp} {Q : Bool → Hp → Prop} (c : Str) : TOut X W σ H Q (.err c) → ∀ H', Same H H' → W (exV X.mg c) none σ H' := fun z => z
/-! names and constants -/
def eVar (i : Nat) (ρ : Vars) : R PyData := R.of (ρ.getD i none)
theorem ex_var (i : Nat) {x : Str} {pos : Pos} (hN : X.N[i]? = some x := by rfl) (hv : Vis X.env.scope x := by first | exact Or.inl rfl | exact Or.inr (Or.inl rfl) | exact Or.inr (Or.inr rfl)) (hd : (x == ("__debug__" : Str)) = false := by decide)
    (hcd : (x == ("__classdict__" : Str)) = false := by decide) : EX X W (.Name x pos) (eVar i) := by
  refine ⟨_, pe_var hN hv hd hcd, fun σ H O ρ Q hO h q => ?_⟩
  unfold eVar at q
  rw [List.getD_eq_getElem?_getD] at q
  cases e : ρ[i]? with
  | none => rw [e] at q; exact q.elim
  | some o =>
    cases o with
    | none => rw [e] at q; exact q.elim
    | some d =>
      rw [e] at q
      obtain ⟨v, h1, h2⟩ := h.get i d e
      exact ⟨v, h1, q v H (Same.refl H) h2⟩
def eC (d : PyData) (_ : Vars) : R PyData := .ok d
theorem ex_c {e : Expr} {v : V} {d : PyData} (h : PE X e (tC v)) (r : ∀ H, Rp X.K H v d) : EX X W e (eC d) :=
  ⟨_, h, fun σ H O ρ Q _ _ q => q v H (Same.refl H) (r _)⟩
theorem ex_int {i j pos} : EX X W (.Constant (.int i) j pos) (eC (.int i)) := ex_c pe_int fun _ => .int i
theorem ex_bl {i j pos} : EX X W (.Constant (.bool i) j pos) (eC (.bool i)) := ex_c pe_bl fun _ => .bl i
theorem ex_non {j pos} : EX X W (.Constant .none j pos) (eC .none) := ex_c pe_non fun _ => .non
theorem ex_str {i j pos} : EX X W (.Constant (.str i) j pos) (eC (.str i)) := ex_c pe_str fun _ => .str i
theorem ex_globI {x : Str} {i : Int} {t : Tok} {pos : Pos} (hg : Gl X x) (hm : X.mg x = some (.int i t)) (hd : (x == ("__debug__" : Str)) = false := by decide) : EX X W (.Name x pos) (eC (.int i)) := ex_c (pe_glob (v := .int i) hg hm ⟨t, rfl⟩ hd) fun _ => .int i
theorem ex_globS {x : Str} {i : Str} {t : Tok} {pos : Pos} (hg : Gl X x) (hm : X.mg x = some (.str i t)) (hd : (x == ("__debug__" : Str)) = false := by decide) : EX X W (.Name x pos) (eC (.str i)) := ex_c (pe_glob (v := .str i) hg hm ⟨t, rfl⟩ hd) fun _ => .str i
/-! arguments -/
def aNil (_ : Vars) : R (List PyData) := .ok []
def aCons (f : Vars → R PyData) (g : Vars → R (List PyData)) (ρ : Vars) : R (List PyData) := (f ρ).bind fun d => (g ρ).bind fun ds => .ok (d :: ds)
theorem ax_nil : AX X W [] aNil := ⟨_, pa_nil, fun σ H O ρ Q _ _ q => q [] H (Same.refl H) .nil⟩
theorem ax_cons {e : Expr} {es : List Expr} {f : Vars → R PyData} {g : Vars → R (List PyData)} (h : EX X W e f) (k : AX X W es g) (hs : starEach (e :: es) X.env = (false, eval e X.env) :: starEach es X.env := by rfl) : AX X W (e :: es) (aCons f g) := by
  obtain ⟨t, p, ht⟩ := h
  obtain ⟨u, q, hu⟩ := k
  refine ⟨_, pa_cons p q hs, fun σ H O ρ Q hO hr z => ht σ H O ρ _ hO hr (EOut.then (g := fun d => (g ρ).bind fun ds => .ok (d :: ds)) AOut.b AOut.e z fun d v H1 s1 r1 z1 => ?_)⟩
  refine hu σ H1 O ρ _ (hO.same s1) (hr.mono (hide_same s1)) (AOut.then (g := fun ds => .ok (d :: ds)) AOut.b AOut.e (z1.from s1) fun ds vs H2 s2 r2 z2 => ?_)
  exact z2 (v :: vs) H2 s2 (.cons (r1.mono (hide_same s2)) r2)
/-- a tuple, a list of written items -/
def eTup (f : Vars → R (List PyData)) (ρ : Vars) : R PyData := (f ρ).bind fun ds => if ds.length ≤ sizeLine then .ok (.tuple ds) else .bad
def eLst (f : Vars → R (List PyData)) (ρ : Vars) : R PyData := (f ρ).bind fun ds => if ds.length ≤ sizeLine then .ok (.list ds) else .bad
theorem AOut.from' {O : List Addr} {σ : L2.St} {H H1 : Hp} {Q : VK} {r : R PyData} (h : EOut X W O σ H Q r) (s : Same H H1) : EOut X W O σ H1 Q r := h.from s
/-- a new object -/
theorem new_rep {K : PySem.W.Frag} {O : List Addr} {H : Hp} {p : Addr} {vs : List V} {ds : List PyData} (hO : Stands O H) (hp : H p = none) (r : Rps K (hide O H) vs ds) : Rp K (hide O (upd H p (.tup vs))) (.ref p) (.tuple ds) :=
  .tup (.inl (.inl (hide_of (hO.new hp) upd_same))) (r.mono (hide_same (same_new hp)))
theorem new_repL {K : PySem.W.Frag} {O : List Addr} {H : Hp} {p : Addr} {vs : List V} {ds : List PyData} (hO : Stands O H) (hp : H p = none) (r : Rps K (hide O H) vs ds) : Rp K (hide O (upd H p (.lst vs))) (.ref p) (.list ds) :=
  .lst (.inl (.inl (hide_of (hO.new hp) upd_same))) (r.mono (hide_same (same_new hp)))
theorem ex_tup {es : List Expr} {f : Vars → R (List PyData)} {k : Nat} {pos : Pos} (h : AX X W es f) : EX X W (.Tuple es k pos) (eTup f) := by
  obtain ⟨t, p, ht⟩ := h
  refine ⟨_, pe_tup p, fun σ H O ρ Q hO hr z => ht σ H O ρ _ hO hr (AOut.then EOut.b EOut.e z fun ds vs H1 s1 r1 z1 => ?_)⟩
  by_cases c : ds.length ≤ sizeLine
  · rw [if_pos c] at z1
    exact ⟨by rw [r1.length]; exact c, fun p hp => z1 _ _ (s1.trans (same_new hp)) (new_rep (hO.same s1) hp r1)⟩
  · rw [if_neg c] at z1; exact z1.elim
theorem ex_lst {es : List Expr} {f : Vars → R (List PyData)} {pos : Pos} (h : AX X W es f) : EX X W (.List es pos) (eLst f) := by
  obtain ⟨t, p, ht⟩ := h
  refine ⟨_, pe_lst p, fun σ H O ρ Q hO hr z => ht σ H O ρ _ hO hr (AOut.then EOut.b EOut.e z fun ds vs H1 s1 r1 z1 => ?_)⟩
  by_cases c : ds.length ≤ sizeLine
  · rw [if_pos c] at z1
    exact ⟨by rw [r1.length]; exact c, fun p hp => z1 _ _ (s1.trans (same_new hp)) (new_repL (hO.same s1) hp r1)⟩
  · rw [if_neg c] at z1; exact z1.elim
/-! ### operators by data -/
/-- an operator's reading answers by data, o: nothing said -/
def Op2 (K : PySem.W.Frag) (r : R2) (g : PyData → PyData → Option PyData) : Prop :=
  ∀ (H : Hp) (O : List Addr) (x y : V) (d e : PyData) (z : PyData) (Q : VK), Stands O H → Rp K (hide O H) x d → Rp K (hide O H) y e → g d e = some z → (∀ v H', Same H H' → Rp K (hide O H') v z → Q v H') → r x y H Q
def eOp (g : PyData → PyData → Option PyData) (f h : Vars → R PyData) (ρ : Vars) : R PyData := (f ρ).bind fun d => (h ρ).bind fun e => R.of (g d e)
theorem op_run {r : R2} {g : PyData → PyData → Option PyData} (ho : Op2 X.K r g) {ta tb : TE} {f h : Vars → R PyData}
    (ha : ∀ σ H O ρ Q, Stands O H → VRel X.K (hide O H) σ ρ → EOut X W O σ H Q (f ρ) → ta σ H Q) (hb : ∀ σ H O ρ Q, Stands O H → VRel X.K (hide O H) σ ρ → EOut X W O σ H Q (h ρ) → tb σ H Q) :
    ∀ σ H O ρ Q, Stands O H → VRel X.K (hide O H) σ ρ → EOut X W O σ H Q (eOp g f h ρ) → tOp r ta tb σ H Q := fun σ H O ρ Q hO hr z =>
  ha σ H O ρ _ hO hr (EOut.then (g := fun d => (h ρ).bind fun e => R.of (g d e)) EOut.b EOut.e z fun d v H1 s1 r1 z1 =>
    hb σ H1 O ρ _ (hO.same s1) (hr.mono (hide_same s1)) (EOut.then (g := fun e => R.of (g d e)) EOut.b EOut.e (z1.from s1) fun e v2 H2 s2 r2 z2 => by
      cases q : g d e with
      | none => rw [q] at z2; exact z2.elim
      | some w =>
        rw [q] at z2
        exact ho H2 O v v2 d e w Q ((hO.same s1).same s2) (r1.mono (hide_same s2)) r2 q fun v' H' s' r' => z2 v' H' (s2.trans s') r'))
theorem ex_op {op : Operator} {r : R2} {g : PyData → PyData → Option PyData} {a b : Expr} {f h : Vars → R PyData} {pos : Pos} (hr : OpR X (binaryOp op) r) (ho : Op2 X.K r g) (ha : EX X W a f) (hb : EX X W b h) : EX X W (.BinOp a op b pos) (eOp g f h) := by
  obtain ⟨ta, p, hta⟩ := ha
  obtain ⟨tb, q, htb⟩ := hb
  exact ⟨_, pe_op hr p q, op_run ho hta htb⟩
theorem ex_cmp {op : CmpOp} {r : R2} {g : PyData → PyData → Option PyData} {a b : Expr} {f h : Vars → R PyData} {pos : Pos} (hr : OpR X (compareOp op) r) (ho : Op2 X.K r g) (ha : EX X W a f) (hb : EX X W b h) (hm : behindInMarks op b = false) : EX X W (.Compare a [op] [b] pos) (eOp g f h) := by
  obtain ⟨ta, p, hta⟩ := ha
  obtain ⟨tb, q, htb⟩ := hb
  exact ⟨_, pe_cmpR hr p q hm, op_run ho hta htb⟩
theorem ex_ix {r : R2} {g : PyData → PyData → Option PyData} {a b : Expr} {f h : Vars → R PyData} {pos : Pos} (hr : IxR X r) (ho : Op2 X.K r g) (ha : EX X W a f) (hb : EX X W b h) (hs : PlainIx b) : EX X W (.Subscript a b pos) (eOp g f h) := by
  obtain ⟨ta, p, hta⟩ := ha
  obtain ⟨tb, q, htb⟩ := hb
  exact ⟨_, pe_ix hr p q hs, op_run ho hta htb⟩
/-- a value as a test: a bool -/
def tOf (f : Vars → R PyData) (ρ : Vars) : R Bool := (f ρ).bind fun d => match d with
  | .bool b => .ok b
  | _ => .bad
theorem tx_cmp {op : CmpOp} {r : R2} {g : PyData → PyData → Option PyData} {a b : Expr} {f h : Vars → R PyData} {pos : Pos} (hr : OpR X (compareOp op) r) (ho : Op2 X.K r g) (ha : EX X W a f) (hb : EX X W b h) (hm : behindInMarks op b = false) : TX X W (.Compare a [op] [b] pos) (tOf (eOp g f h)) := by
  obtain ⟨ta, p, hta⟩ := ha
  obtain ⟨tb, q, htb⟩ := hb
  refine ⟨_, pt_cmpR hr p q hm, fun σ H O ρ Q hO hv z => op_run ho hta htb σ H O ρ _ hO hv (EOut.then TOut.b TOut.e z fun d v H1 s1 r1 z1 => ?_)⟩
  cases r1 with
  | bl b => exact ⟨b, rfl, z1 H1 s1⟩
  | _ => exact z1.elim
/-- by the value's truth -/
def truD : PyData → Option Bool
  | .none => some false
  | .bool b => some b
  | .int i => some (i != 0)
  | .str x => if x.length ≤ sizeLine then some ((x.length : Int) != 0) else none
  | .list xs => some (!xs.isEmpty)
  | .tuple xs => some (!xs.isEmpty)
  | .dict _ => none
def tTru (f : Vars → R PyData) (ρ : Vars) : R Bool := (f ρ).bind fun d => R.of (truD d)
theorem Rps.isEmpty {K : PySem.W.Frag} {H : Hp} {vs : List V} {ds : List PyData} (r : Rps K H vs ds) : vs.isEmpty = ds.isEmpty := by
  cases r <;> rfl
theorem truV_of {K : PySem.W.Frag} {H : Hp} {v : V} {d : PyData} {b : Bool} (r : Rp K H v d) (e : truD d = some b) {H' : Hp} (s : Same H H') : TruV K v H' b := by
  cases r with
  | non => cases e; rfl
  | bl _ => cases e; rfl
  | int _ => cases e; rfl
  | str x =>
    unfold truD at e
    dsimp only at e
    by_cases c : x.length ≤ sizeLine
    · rw [if_pos c] at e; cases e; exact ⟨c, rfl⟩
    · rw [if_neg c] at e; cases e
  | lst h r => cases e; exact .inl ⟨_, seqL s h, by rw [r.isEmpty]⟩
  | tup h r => cases e; exact .inr (.inl ⟨_, seqT s h, by rw [r.isEmpty]⟩)
  | dic _ _ => cases e
theorem tx_tru {a : Expr} {f : Vars → R PyData} (h : EX X W a f) (he : ∀ whole, isTrue a X.env whole = (do let v ← whole; standAt a.pos; holding [v] (truthy v)) := by intro _; rfl) : TX X W a (tTru f) := by
  obtain ⟨t, p, ht⟩ := h
  refine ⟨_, pt_truth p he, fun σ H O ρ Q hO hv z => ht σ H O ρ _ hO hv (EOut.then TOut.b TOut.e z fun d v H1 s1 r1 z1 => ?_)⟩
  cases q : truD d with
  | none => rw [q] at z1; exact z1.elim
  | some b =>
    rw [q] at z1
    exact ⟨b, truV_of r1 q hide_sub, z1 H1 s1⟩
/-! and, or, not as tests -/
def tNotR (f : Vars → R Bool) (ρ : Vars) : R Bool := (f ρ).bind fun b => .ok (!b)
def tAndR (f g : Vars → R Bool) (ρ : Vars) : R Bool := (f ρ).bind fun b => if b = true then g ρ else .ok false
def tOrR (f g : Vars → R Bool) (ρ : Vars) : R Bool := (f ρ).bind fun b => if b = true then .ok true else g ρ
theorem tx_not {a : Expr} {f : Vars → R Bool} {pos : Pos} (h : TX X W a f) : TX X W (.UnaryOp .Not a pos) (tNotR f) := by
  obtain ⟨t, p, ht⟩ := h
  exact ⟨_, pt_not p, fun σ H O ρ Q hO hv z => ht σ H O ρ _ hO hv (TOut.then TOut.b TOut.e z fun d H1 s1 z1 => z1 H1 s1)⟩
theorem wx_and1 {a : Expr} {f : Vars → R Bool} {pos : Pos} (h : TX X W a f) : WX' X W (.BoolOp .And [a] pos) f := by
  obtain ⟨t, p, ht⟩ := h
  exact ⟨_, pw_and1 p, ht⟩
theorem wx_or1 {a : Expr} {f : Vars → R Bool} {pos : Pos} (h : TX X W a f) : WX' X W (.BoolOp .Or [a] pos) f := by
  obtain ⟨t, p, ht⟩ := h
  exact ⟨_, pw_or1 p, ht⟩
theorem wx_and {a b : Expr} {rest : List Expr} {f g : Vars → R Bool} {pos : Pos} (h : TX X W a f) (k : WX' X W (.BoolOp .And (b :: rest) pos) g) : WX' X W (.BoolOp .And (a :: b :: rest) pos) (tAndR f g) := by
  obtain ⟨t, p, ht⟩ := h
  obtain ⟨u, q, hu⟩ := k
  refine ⟨_, pw_and p q, fun σ H O ρ Q hO hv z => ht σ H O ρ _ hO hv (TOut.then (g := fun b => if b = true then g ρ else .ok false) TOut.b TOut.e z fun d H1 s1 z1 => ?_)⟩
  cases d with
  | true => exact hu σ H1 O ρ Q (hO.same s1) (hv.mono (hide_same s1)) (z1.from s1)
  | false => exact z1 H1 s1
theorem wx_or {a b : Expr} {rest : List Expr} {f g : Vars → R Bool} {pos : Pos} (h : TX X W a f) (k : WX' X W (.BoolOp .Or (b :: rest) pos) g) : WX' X W (.BoolOp .Or (a :: b :: rest) pos) (tOrR f g) := by
  obtain ⟨t, p, ht⟩ := h
  obtain ⟨u, q, hu⟩ := k
  refine ⟨_, pw_or p q, fun σ H O ρ Q hO hv z => ht σ H O ρ _ hO hv (TOut.then (g := fun b => if b = true then .ok true else g ρ) TOut.b TOut.e z fun d H1 s1 z1 => ?_)⟩
  cases d with
  | true => exact z1 H1 s1
  | false => exact hu σ H1 O ρ Q (hO.same s1) (hv.mono (hide_same s1)) (z1.from s1)
theorem WX'.tx {e : Expr} {f : Vars → R Bool} (h : WX' X W e f) : TX X W e f := by
  obtain ⟨t, p, ht⟩ := h
  exact ⟨_, p.pt, ht⟩
/-! .. as values -/
def eAnd (f g : Vars → R PyData) (ρ : Vars) : R PyData := (tOf f ρ).bind fun b => if b = true then g ρ else .ok (.bool false)
def eOr (f g : Vars → R PyData) (ρ : Vars) : R PyData := (tOf f ρ).bind fun b => if b = true then .ok (.bool true) else g ρ
def eNot (f : Vars → R PyData) (ρ : Vars) : R PyData := (tOf f ρ).bind fun b => .ok (.bool (!b))
theorem tOf_run {f : Vars → R PyData} {t : TE} (ht : ∀ σ H O ρ Q, Stands O H → VRel X.K (hide O H) σ ρ → EOut X W O σ H Q (f ρ) → t σ H Q) {σ : L2.St} {H : Hp} {O : List Addr} {ρ : Vars} {Q : VK} {β : Type} {g : Bool → R β} {P : R β → Prop} (hO : Stands O H) (hv : VRel X.K (hide O H) σ ρ)
    (hb : P .bad → False) (he : ∀ c, P (.err c) → ∀ H', Same H H' → W (exV X.mg c) none σ H') (z : P ((tOf f ρ).bind g)) (k : ∀ b H', Same H H' → P (g b) → Q (.bl b) H') : t σ H Q := by
  refine ht σ H O ρ _ hO hv ?_
  unfold tOf at z
  cases q : f ρ with
  | bad => rw [q] at z; exact hb z
  | err c => rw [q] at z; exact he c z
  | ok d =>
    rw [q] at z
    refine fun v H1 s1 r1 => ?_
    cases r1 with
    | bl b => exact k b H1 s1 z
    | _ => exact (hb z).elim
theorem ex_one {op} {a : Expr} {f : Vars → R PyData} {pos : Pos} (h : EX X W a f) : EX X W (.BoolOp op [a] pos) f := by
  obtain ⟨t, p, ht⟩ := h
  exact ⟨_, pe_one p, ht⟩
theorem ex_and {a b : Expr} {rest : List Expr} {f g : Vars → R PyData} {pos : Pos} (h : EX X W a f) (k : EX X W (.BoolOp .And (b :: rest) pos) g) : EX X W (.BoolOp .And (a :: b :: rest) pos) (eAnd f g) := by
  obtain ⟨t, p, ht⟩ := h
  obtain ⟨u, q, hu⟩ := k
  refine ⟨_, pe_and p q, fun σ H O ρ Q hO hv z => tOf_run (g := fun b => if b = true then g ρ else .ok (.bool false)) ht hO hv EOut.b EOut.e z fun b H1 s1 z1 => ⟨b, rfl, ?_⟩⟩
  cases b with
  | true => exact hu σ H1 O ρ Q (hO.same s1) (hv.mono (hide_same s1)) (z1.from s1)
  | false => exact z1 _ H1 s1 (.bl false)
theorem ex_or {a b : Expr} {rest : List Expr} {f g : Vars → R PyData} {pos : Pos} (h : EX X W a f) (k : EX X W (.BoolOp .Or (b :: rest) pos) g) : EX X W (.BoolOp .Or (a :: b :: rest) pos) (eOr f g) := by
  obtain ⟨t, p, ht⟩ := h
  obtain ⟨u, q, hu⟩ := k
  refine ⟨_, pe_or p q, fun σ H O ρ Q hO hv z => tOf_run (g := fun b => if b = true then .ok (.bool true) else g ρ) ht hO hv EOut.b EOut.e z fun b H1 s1 z1 => ⟨b, rfl, ?_⟩⟩
  cases b with
  | true => exact z1 _ H1 s1 (.bl true)
  | false => exact hu σ H1 O ρ Q (hO.same s1) (hv.mono (hide_same s1)) (z1.from s1)
theorem ex_not {a : Expr} {f : Vars → R PyData} {pos : Pos} (h : EX X W a f) : EX X W (.UnaryOp .Not a pos) (eNot f) := by
  obtain ⟨t, p, ht⟩ := h
  exact ⟨_, pe_not p, fun σ H O ρ Q hO hv z => tOf_run (g := fun b => .ok (.bool (!b))) ht hO hv EOut.b EOut.e z fun b H1 s1 z1 => ⟨b, rfl, z1 _ H1 s1 (.bl _)⟩⟩
def eIf (c : Vars → R Bool) (f g : Vars → R PyData) (ρ : Vars) : R PyData := (c ρ).bind fun b => if b = true then f ρ else g ρ
theorem ex_if {c a b : Expr} {h : Vars → R Bool} {f g : Vars → R PyData} {pos : Pos} (hc : TX X W c h) (ha : EX X W a f) (hb : EX X W b g) : EX X W (.IfExp c a b pos) (eIf h f g) := by
  obtain ⟨t, p, ht⟩ := hc
  obtain ⟨ta, pa, hta⟩ := ha
  obtain ⟨tb, pb, htb⟩ := hb
  refine ⟨_, pe_ifExp p pa pb, fun σ H O ρ Q hO hv z => ht σ H O ρ _ hO hv (TOut.then (g := fun b => if b = true then f ρ else g ρ) EOut.b EOut.e z fun d H1 s1 z1 => ?_)⟩
  cases d with
  | true => exact hta σ H1 O ρ Q (hO.same s1) (hv.mono (hide_same s1)) (z1.from s1)
  | false => exact htb σ H1 O ρ Q (hO.same s1) (hv.mono (hide_same s1)) (z1.from s1)
end
end Pu
set_option Elab.async false
set_option linter.all false
set_option maxRecDepth 100000
set_option maxHeartbeats 4000000
namespace Pu
open PySem PySem.Spec PyProof.Rows L2
/-! ### the operators -/
theorem int_sub_bool_bool (a b : Bool) : Gives (Builtin.«int.__sub__» ⟨[.bool a, .bool b], []⟩) (.int ((if a = true then (1 : Int) else 0) - (if b = true then (1 : Int) else 0))) :=
  .of_wp fun M A E s Q h => by obtain ⟨hp, g, d, tk, os⟩ := s; wp_walk; exact ⟨_, rfl, h⟩
theorem sub_bb {prog : Program} {w : World} {A : Around} {E : Value → Shared → Prop} {s : Shared} {a b : Bool} {Q : Value → Shared → Prop}
    (h : Q (.int ((if a = true then (1 : Int) else 0) - (if b = true then (1 : Int) else 0)) s.toks) { s with toks := s.toks + 1 }) : wpAny (model prog w) A (binaryOp .Sub (.bool a) (.bool b)) Q E s :=
  binaryOp_gives (op := .Sub) (T := "bool") rfl rfl F.fills_bool_sub F.slot_bool_sub F.entry_int_sub (F.args_int_sub_2 _ _) (int_sub_bool_bool a b) trivial h
section
variable {X : Cx}
def rSubB : R2 := fun x y H Q => ∃ a b, x = .bl a ∧ y = .bl b ∧ Q (.int ((if a = true then (1 : Int) else 0) - (if b = true then (1 : Int) else 0))) H
theorem op_subB : OpR X (binaryOp .Sub) rSubB := by
  intro pins s σ H x y v u Q I rx ry h
  obtain ⟨a, b, rfl, rfl, q⟩ := h
  cases rx
  cases ry
  exact sub_bb ⟨.int _, H, I.tok _, ⟨_, rfl⟩, q⟩
/-- list + list, read only -/
def rCatL (K : PySem.W.Frag) : R2 := fun x y H Q => ∃ l b xs zs, x = .ref l ∧ y = .ref b ∧ SqL K H l xs ∧ SqL K H b zs ∧ xs.length + zs.length ≤ sizeLine ∧ ∀ p, H p = none → Q (.ref p) (upd H p (.lst (xs ++ zs)))
theorem plain_get {h : Heap} {a : Addr} {its : Array Value} (p : PlainL h a its) : ∃ (n : Nat) (sl : Array (Option Value)), h.get? a = some { cls := .type "list", data := .seq its n, slots := sl } := by
  obtain ⟨⟨c, d, dt, sl⟩, n, e, hc, hd, hs⟩ := p
  simp only at hc hd hs
  subst hc hd hs
  exact ⟨n, sl, e⟩
end
theorem op_catL {X : Cx} : OpR X (binaryOp .Add) (rCatL X.K) := by
  intro pins s σ H x y v u Q I rx ry h
  obtain ⟨l, b, xs, zs, rfl, rfl, hH, hB, hz, q⟩ := h
  cases rx
  cases ry
  obtain ⟨its, r, pl, hl⟩ := I.list hH
  obtain ⟨its2, r2, pl2, hl2⟩ := I.list hB
  obtain ⟨n, sl, e⟩ := plain_get pl
  obtain ⟨n2, sl2, e2⟩ := plain_get pl2
  have l1 := r.length
  have l2 := r2.length
  refine concat_meets ⟨_, e, rfl⟩ ⟨_, e2, rfl⟩ noFill_list_add seq_list_add PySem.F.slot_list_add PySem.F.entry_list_add (PySem.F.args_list_add_2 _ _)
    (PyProof.Rows.list_addW l b its.toArray its2.toArray n n2 none none sl sl2 (by rw [List.size_toArray, List.size_toArray]; omega)) ⟨e, e2, ?_⟩
  have ea : its.toArray ++ its2.toArray = (its ++ its2).toArray := by simp
  rw [ea]
  exact ⟨.ref _, _, I.lnew (t' := s.toks) (r.append r2) (by rw [List.length_append]; omega), rfl, q _ I.fresh⟩
/-- the sum -/
def gAdd : PyData → PyData → Option PyData
  | .int i, .int j => some (.int (i + j))
  | .tuple xs, .tuple ys => if xs.length + ys.length ≤ sizeLine then some (.tuple (xs ++ ys)) else none
  | .list xs, .list ys => if xs.length + ys.length ≤ sizeLine then some (.list (xs ++ ys)) else none
  | .str x, .str y => if x.length + y.length ≤ sizeLine then some (.str (x ++ y)) else none
  | _, _ => none
abbrev rAddD (K : PySem.W.Frag) : R2 := fun x y H Q => (∃ i j, x = .int i ∧ y = .int j ∧ Q (.int (i + j)) H) ∨ rCatA K x y H Q ∨ (∃ i j, x = .str i ∧ y = .str j ∧ i.length + j.length ≤ sizeLine ∧ Q (.str (i ++ j)) H) ∨ rCatL K x y H Q
theorem opr_add {X : Cx} : OpR X (binaryOp .Add) (rAddD X.K) := op_add.or (op_catA.or (op_add_str.or op_catL))
theorem rps_nil {K : PySem.W.Frag} {H : Hp} {xs : List V} {ds : List PyData} (r : Rps K H xs ds) : xs = [] ↔ ds = [] := by
  constructor
  · intro e; subst e; cases r; rfl
  · intro e; subst e; cases r; rfl
theorem op2_add {K : PySem.W.Frag} : Op2 K (rAddD K) gAdd := by
  intro H O x y d e z Q hO rx ry h q
  cases rx with
  | int i =>
    cases ry with
    | int j => cases h; exact .inl ⟨i, j, rfl, rfl, q _ H (Same.refl H) (.int _)⟩
    | _ => cases h
  | str i =>
    cases ry with
    | str j =>
      unfold gAdd at h
      dsimp only at h
      by_cases c : i.length + j.length ≤ sizeLine
      · rw [if_pos c] at h; cases h
        exact .inr (.inr (.inl ⟨i, j, rfl, rfl, c, q _ H (Same.refl H) (.str _)⟩))
      · rw [if_neg c] at h; cases h
    | _ => cases h
  | @tup a xs ds hx rs =>
    cases ry with
    | @tup b ys es hy rt =>
      unfold gAdd at h
      dsimp only at h
      by_cases c : ds.length + es.length ≤ sizeLine
      · rw [if_pos c] at h; cases h
        have hx' := seqT (hide_sub (O := O)) hx
        have hy' := seqT (hide_sub (O := O)) hy
        refine .inr (.inl ⟨a, b, xs, ys, rfl, rfl, hx', hy', by rw [rs.length, rt.length]; exact c, fun n => ?_, fun n n2 => ?_, fun n n2 p hp => ?_⟩)
        · have : ds = [] := (rps_nil rs).mp n
          subst this
          exact q _ H (Same.refl H) (.tup hy rt)
        · have : es = [] := (rps_nil rt).mp n2
          subst this
          rw [List.append_nil] at q
          exact q _ H (Same.refl H) (.tup hx rs)
        · exact q _ _ (same_new hp) (new_rep hO hp (rs.append rt))
      · rw [if_neg c] at h; cases h
    | _ => cases h
  | @lst a xs ds hx rs =>
    cases ry with
    | @lst b ys es hy rt =>
      unfold gAdd at h
      dsimp only at h
      by_cases c : ds.length + es.length ≤ sizeLine
      · rw [if_pos c] at h; cases h
        exact .inr (.inr (.inr ⟨a, b, xs, ys, rfl, rfl, seqL hide_sub hx, seqL hide_sub hy, by rw [rs.length, rt.length]; exact c, fun p hp => q _ _ (same_new hp) (new_repL hO hp (rs.append rt))⟩))
      · rw [if_neg c] at h; cases h
    | _ => cases h
  | _ => cases h
def gSub : PyData → PyData → Option PyData
  | .int i, .int j => some (.int (i - j))
  | .bool a, .bool b => some (.int ((if a = true then (1 : Int) else 0) - (if b = true then (1 : Int) else 0)))
  | _, _ => none
abbrev rSubD : R2 := fun x y H Q => (∃ i j, x = .int i ∧ y = .int j ∧ Q (.int (i - j)) H) ∨ rSubB x y H Q
theorem opr_sub {X : Cx} : OpR X (binaryOp .Sub) rSubD := op_sub.or op_subB
theorem op2_sub {K : PySem.W.Frag} : Op2 K rSubD gSub := by
  intro H O x y d e z Q hO rx ry h q
  cases rx with
  | int i =>
    cases ry with
    | int j => cases h; exact .inl ⟨i, j, rfl, rfl, q _ H (Same.refl H) (.int _)⟩
    | _ => cases h
  | bl i =>
    cases ry with
    | bl j => cases h; exact .inr ⟨i, j, rfl, rfl, q _ H (Same.refl H) (.int _)⟩
    | _ => cases h
  | _ => cases h
/-- an operator of two ints under a condition -/
def gInt (C : Int → Int → Bool) (g : Int → Int → PyData) : PyData → PyData → Option PyData
  | .int i, .int j => if C i j = true then some (g i j) else none
  | _, _ => none
theorem op2_int {K : PySem.W.Frag} {P : Int → Int → Prop} {C : Int → Int → Bool} {g : Int → Int → PyData} {gv : Int → Int → V} (hc : ∀ i j, C i j = true → P i j) (hg : ∀ H i j, Rp K H (gv i j) (g i j)) : Op2 K (rI P gv) (gInt C g) := by
  intro H O x y d e z Q hO rx ry h q
  cases rx with
  | int i =>
    cases ry with
    | int j =>
      unfold gInt at h
      dsimp only at h
      by_cases c : C i j = true
      · rw [if_pos c] at h; cases h
        exact ⟨i, j, rfl, rfl, hc i j c, q _ H (Same.refl H) (hg _ i j)⟩
      · rw [if_neg c] at h; cases h
    | _ => cases h
  | _ => cases h
def cMul (i j : Int) : Bool := decide (i.natAbs.log2 + j.natAbs.log2 < 1000000)
def cDiv (_ j : Int) : Bool := decide (0 < j) && decide (j.natAbs.log2 < 9000)
def cMod (_ j : Int) : Bool := decide (0 < j)
def cPow (i j : Int) : Bool := decide (0 ≤ j) && decide (j ≤ 1000000) && decide (i.natAbs < 2 ^ 64)
abbrev gMul := gInt cMul fun i j => .int (i * j)
abbrev gDiv := gInt cDiv fun i j => .int (i / j)
abbrev gMod := gInt cMod fun i j => .int (i % j)
abbrev gPow := gInt cPow fun i j => .int (i ^ j.toNat)
theorem op2_mul {K : PySem.W.Frag} : Op2 K (rI CMulW fun i j => .int (i * j)) gMul := op2_int (fun i j h => (of_decide_eq_true h : i.natAbs.log2 + j.natAbs.log2 < 1000000)) fun _ _ _ => .int _
theorem op2_div {K : PySem.W.Frag} : Op2 K (rI CDivW fun i j => .int (i / j)) gDiv := op2_int (fun _ _ h => by unfold cDiv at h; rw [Bool.and_eq_true] at h; exact ⟨of_decide_eq_true h.1, of_decide_eq_true h.2⟩) fun _ _ _ => .int _
theorem op2_mod {K : PySem.W.Frag} : Op2 K (rI (fun _ j => 0 < j) fun i j => .int (i % j)) gMod := op2_int (fun _ _ h => of_decide_eq_true h) fun _ _ _ => .int _
theorem op2_pow {K : PySem.W.Frag} : Op2 K (rI CPow fun i j => .int (i ^ j.toNat)) gPow := op2_int (fun _ _ h => by
  unfold cPow at h; rw [Bool.and_eq_true, Bool.and_eq_true] at h; exact ⟨of_decide_eq_true h.1.1, of_decide_eq_true h.1.2, of_decide_eq_true h.2⟩) fun _ _ _ => .int _
/-- a comparison of two ints -/
def gCmp (p : Int → Int → Bool) : PyData → PyData → Option PyData
  | .int i, .int j => some (.bool (p i j))
  | _, _ => none
theorem op2_cmp {K : PySem.W.Frag} {p : Int → Int → Bool} : Op2 K (rI0 fun i j => .bl (p i j)) (gCmp p) := by
  intro H O x y d e z Q hO rx ry h q
  cases rx with
  | int i =>
    cases ry with
    | int j => cases h; exact ⟨i, j, rfl, rfl, q _ H (Same.refl H) (.bl _)⟩
    | _ => cases h
  | _ => cases h
abbrev gLt := gCmp fun i j => decide (i < j)
abbrev gLe := gCmp fun i j => decide (i ≤ j)
abbrev gGt := gCmp fun i j => decide (j < i)
abbrev gGe := gCmp fun i j => decide (j ≤ i)
/-- == by data -/
def gEq (d e : PyData) : Option PyData := if (SeqAt.shaped d && SeqAt.shaped e) = true then some (.bool (PyData.eqv d e)) else none
def gNe (d e : PyData) : Option PyData := if (SeqAt.shaped d && SeqAt.shaped e) = true then some (.bool (!PyData.eqv d e)) else none
theorem op2_eq {K : PySem.W.Frag} : Op2 K (rEqD K) gEq := by
  intro H O x y d e z Q hO rx ry h q
  unfold gEq at h
  by_cases c : (SeqAt.shaped d && SeqAt.shaped e) = true
  · rw [if_pos c] at h; cases h
    rw [Bool.and_eq_true] at c
    exact ⟨d, e, rx.dp (SeqAt.canLay_of_shaped c.1) hide_sub, ry.dp (SeqAt.canLay_of_shaped c.2) hide_sub, c.1, c.2, q _ H (Same.refl H) (.bl _)⟩
  · rw [if_neg c] at h; cases h
theorem op2_ne {K : PySem.W.Frag} : Op2 K (rNeD K) gNe := by
  intro H O x y d e z Q hO rx ry h q
  unfold gNe at h
  by_cases c : (SeqAt.shaped d && SeqAt.shaped e) = true
  · rw [if_pos c] at h; cases h
    rw [Bool.and_eq_true] at c
    exact ⟨d, e, rx.dp (SeqAt.canLay_of_shaped c.1) hide_sub, ry.dp (SeqAt.canLay_of_shaped c.2) hide_sub, c.1, c.2, q _ H (Same.refl H) (.bl _)⟩
  · rw [if_neg c] at h; cases h
/-- is None -/
def isN : PyData → Bool
  | .none => true
  | _ => false
def gIsN (d e : PyData) : Option PyData := if isN e = true then some (.bool (isN d)) else none
def gNotN (d e : PyData) : Option PyData := if isN e = true then some (.bool (!isN d)) else none
theorem isN_rp {K : PySem.W.Frag} {H : Hp} {x : V} {d : PyData} (r : Rp K H x d) : decide (x = .non) = isN d := by
  cases r <;> simp [isN]
theorem op2_isN {K : PySem.W.Frag} : Op2 K (fun x y H Q => y = .non ∧ Q (.bl (decide (x = .non))) H) gIsN := by
  intro H O x y d e z Q hO rx ry h q
  unfold gIsN at h
  cases ry with
  | non =>
    cases h
    rw [isN_rp rx]
    exact ⟨rfl, q _ H (Same.refl H) (.bl _)⟩
  | _ => cases h
theorem op2_notN {K : PySem.W.Frag} : Op2 K (fun x y H Q => y = .non ∧ Q (.bl (!decide (x = .non))) H) gNotN := by
  intro H O x y d e z Q hO rx ry h q
  unfold gNotN at h
  cases ry with
  | non =>
    cases h
    rw [isN_rp rx]
    exact ⟨rfl, q _ H (Same.refl H) (.bl _)⟩
  | _ => cases h
/-- an item by its place -/
def gIx : PyData → PyData → Option PyData
  | .tuple xs, .int i => atI xs i
  | .list xs, .int i => atI xs i
  | .str x, .int i => if x.length ≤ sizeLine then (atI x.cps.toList i).map fun c => .str ⟨#[c]⟩ else none
  | _, _ => none
theorem atI_rps {K : PySem.W.Frag} {H : Hp} {xs : List V} {ds : List PyData} {i : Int} {d : PyData} (r : Rps K H xs ds) (h : atI ds i = some d) : ∃ v, atI xs i = some v ∧ Rp K H v d := by
  unfold atI at h ⊢
  rw [r.length]
  cases e : ixN ds.length i with
  | none => rw [e] at h; cases h
  | some j =>
    rw [e] at h
    exact r.get (i := j) h
theorem op2_ix {K : PySem.W.Frag} : Op2 K (rIx K) gIx := by
  intro H O x y d e z Q hO rx ry h q
  cases rx with
  | @tup a xs ds hx rs =>
    cases ry with
    | int i =>
      obtain ⟨v, h1, h2⟩ := atI_rps rs (show atI ds i = some z from h)
      exact .inr (.inl ⟨a, xs, i, v, rfl, rfl, seqT hide_sub hx, h1, q v H (Same.refl H) h2⟩)
    | _ => cases h
  | @lst a xs ds hx rs =>
    cases ry with
    | int i =>
      obtain ⟨v, h1, h2⟩ := atI_rps rs (show atI ds i = some z from h)
      exact .inl ⟨a, xs, i, v, rfl, rfl, seqL hide_sub hx, h1, q v H (Same.refl H) h2⟩
    | _ => cases h
  | str x =>
    cases ry with
    | int i =>
      unfold gIx at h
      dsimp only at h
      by_cases c : x.length ≤ sizeLine
      · rw [if_pos c] at h
        cases e : atI x.cps.toList i with
        | none => rw [e] at h; cases h
        | some k =>
          rw [e] at h
          cases h
          exact .inr (.inr ⟨x, i, k, rfl, rfl, c, e, q _ H (Same.refl H) (.str _)⟩)
      · rw [if_neg c] at h; cases h
    | _ => cases h
  | _ => cases h
/-! ### slices -/
def cutD {α : Type} (xs : List α) (lo hi : Option Int) : List α := (xs.drop (HT.sIx xs.length 0 lo)).take (HT.sIx xs.length xs.length hi - HT.sIx xs.length 0 lo)
def gSl : PyData → Option Int → Option Int → Option PyData
  | .tuple xs, lo, hi => some (.tuple (cutD xs lo hi))
  | .list xs, lo, hi => some (.list (cutD xs lo hi))
  | _, _, _ => none
theorem rps_cut {K : PySem.W.Frag} {H : Hp} {xs : List V} {ds : List PyData} {lo hi : Option Int} (r : Rps K H xs ds) : Rps K H (cutV xs lo hi) (cutD ds lo hi) := by
  unfold cutV cutD
  rw [r.length]
  exact (r.drop _).take _
theorem cut_whole {α : Type} {xs : List α} {lo hi : Option Int} (h : HT.sIx xs.length 0 lo = 0 ∧ HT.sIx xs.length xs.length hi = xs.length) : cutD xs lo hi = xs := by
  unfold cutD
  rw [h.1, h.2]
  simp
section
variable {X : Cx} {W : WX}
def eSl (f : Vars → R PyData) (g h : Vars → R (Option Int)) (ρ : Vars) : R PyData := (f ρ).bind fun d => (g ρ).bind fun l => (h ρ).bind fun u => R.of (gSl d l u)
def oNone (_ : Vars) : R (Option Int) := .ok none
def oSome (f : Vars → R PyData) (ρ : Vars) : R (Option Int) := (f ρ).bind fun d => match d with
  | .int i => .ok (some i)
  | _ => .bad
theorem ox_none : OX X W none oNone := ⟨_, po_none, fun σ H O ρ Q _ _ q => q H (Same.refl H)⟩
theorem ox_some {e : Expr} {f : Vars → R PyData} (h : EX X W e f) : OX X W (some e) (oSome f) := by
  obtain ⟨t, p, ht⟩ := h
  refine ⟨_, po_some p, fun σ H O ρ Q hO hv z => ht σ H O ρ _ hO hv ?_⟩
  unfold oSome at z
  cases q : f ρ with
  | bad => rw [q] at z; exact z
  | err c => rw [q] at z; exact z
  | ok d =>
    rw [q] at z
    intro v H1 s1 r1
    cases r1 with
    | int i => exact ⟨i, rfl, z H1 s1⟩
    | _ => exact z.elim
theorem ex_slice {e : Expr} {lo hi : Option Expr} {f : Vars → R PyData} {g h : Vars → R (Option Int)} {p2 pos : Pos} (he : EX X W e f) (hl : OX X W lo g) (hu : OX X W hi h) : EX X W (.Subscript e (.Slice lo hi none p2) pos) (eSl f g h) := by
  obtain ⟨t, p, ht⟩ := he
  obtain ⟨tl, pl, htl⟩ := hl
  obtain ⟨tu, pu, htu⟩ := hu
  refine ⟨_, pe_slice (sl_tupA.or sl_list) p pl pu, fun σ H O ρ Q hO hv z => ht σ H O ρ _ hO hv (EOut.then (g := fun d => (g ρ).bind fun l => (h ρ).bind fun u => R.of (gSl d l u)) EOut.b EOut.e z fun d v H1 s1 r1 z1 => ?_)⟩
  refine htl σ H1 O ρ _ (hO.same s1) (hv.mono (hide_same s1)) ?_
  cases q1 : g ρ with
  | bad => rw [q1] at z1; exact z1.elim
  | err c => rw [q1] at z1; exact fun H2 s2 => z1 H2 (s1.trans s2)
  | ok l =>
    rw [q1] at z1
    intro H2 s2
    refine htu σ H2 O ρ _ ((hO.same s1).same s2) (hv.mono (hide_same (s1.trans s2))) ?_
    cases q2 : h ρ with
    | bad => rw [q2] at z1; exact z1.elim
    | err c => rw [q2] at z1; exact fun H3 s3 => z1 H3 ((s1.trans s2).trans s3)
    | ok u =>
      rw [q2] at z1
      intro H3 s3
      have r3 := r1.mono (hide_same (O := O) (s2.trans s3))
      have hO3 := (hO.same s1).same (s2.trans s3)
      have s13 : Same H H3 := s1.trans (s2.trans s3)
      cases r3 with
      | @tup a xs ds hx rs =>
        have hx' := seqT (hide_sub (O := O)) hx
        refine .inl ⟨a, xs, rfl, hx', fun w => ?_, fun w p hp => ?_⟩
        · refine z1 _ H3 s13 ?_
          rw [cut_whole (by rw [← rs.length]; exact w)]
          exact .tup hx rs
        · exact z1 _ _ (s13.trans (same_new hp)) (new_rep hO3 hp (rps_cut rs))
      | @lst a xs ds hx rs =>
        refine .inr ⟨a, xs, rfl, seqL hide_sub hx, fun p hp => ?_⟩
        exact z1 _ _ (s13.trans (same_new hp)) (new_repL hO3 hp (rps_cut rs))
      | _ => exact z1.elim
/-! ### minus -/
def eNeg (f : Vars → R PyData) (ρ : Vars) : R PyData := (f ρ).bind fun d => match d with
  | .int i => .ok (.int (-i))
  | _ => .bad
theorem ex_neg {a : Expr} {f : Vars → R PyData} {pos : Pos} (h : EX X W a f) : EX X W (.UnaryOp .USub a pos) (eNeg f) := by
  obtain ⟨t, p, ht⟩ := h
  refine ⟨_, pe_un un_neg p, fun σ H O ρ Q hO hv z => ht σ H O ρ _ hO hv ?_⟩
  unfold eNeg at z
  cases q : f ρ with
  | bad => rw [q] at z; exact z
  | err c => rw [q] at z; exact z
  | ok d =>
    rw [q] at z
    intro v H1 s1 r1
    cases r1 with
    | int i => exact ⟨i, rfl, z _ H1 s1 (.int _)⟩
    | _ => exact z.elim
/-! ### calls of built-ins by data -/
def CallD (K : PySem.W.Frag) (r : List V → Hp → VK → Prop) (g : List PyData → Option PyData) : Prop :=
  ∀ (H : Hp) (O : List Addr) (xs : List V) (ds : List PyData) (z : PyData) (Q : VK), Stands O H → Rps K (hide O H) xs ds → g ds = some z → (∀ v H', Same H H' → Rp K (hide O H') v z → Q v H') → r xs H Q
def eCall (g : List PyData → Option PyData) (f : Vars → R (List PyData)) (ρ : Vars) : R PyData := (f ρ).bind fun ds => R.of (g ds)
theorem call_run {r : List V → Hp → VK → Prop} {g : List PyData → Option PyData} (ho : CallD X.K r g) {ta : TA} {f : Vars → R (List PyData)}
    (ha : ∀ σ H O ρ Q, Stands O H → VRel X.K (hide O H) σ ρ → AOut X W O σ H Q (f ρ) → ta σ H Q) :
    ∀ σ H O ρ Q, Stands O H → VRel X.K (hide O H) σ ρ → EOut X W O σ H Q (eCall g f ρ) → tCB r ta σ H Q := fun σ H O ρ Q hO hr z =>
  ha σ H O ρ _ hO hr (AOut.then (g := fun ds => R.of (g ds)) EOut.b EOut.e z fun ds vs H1 s1 r1 z1 => by
    cases q : g ds with
    | none => rw [q] at z1; exact z1.elim
    | some w =>
      rw [q] at z1
      exact ho H1 O vs ds w Q (hO.same s1) r1 q fun v H2 s2 r2 => z1 v H2 (s1.trans s2) r2)
theorem ex_callB {id : String} {x : Str} {r : List V → Hp → VK → Prop} {g : List PyData → Option PyData} {e : Expr} {es : List Expr} {f : Vars → R (List PyData)} {p pos : Pos} (hc : CallR X (.builtin id) r) (ho : CallD X.K r g) (hg : Gl X x) (hm : X.mg x = none) (hv : bootBuiltins x = some (.builtin id)) (ha : AX X W (e :: es) f)
    (hn : x ≠ "__name__" := by decide) (hdb : (x == ("__debug__" : Str)) = false := by decide)
    (he : starEach (e :: es) X.env = (false, eval e X.env) :: starEach es X.env := by rfl) (hpl : (backTo pos (starEach es X.env)).any (·.1) = false := by rfl) : EX X W (.Call (.Name x p) (e :: es) [] pos) (eCall g f) := by
  obtain ⟨t, q, ht⟩ := ha
  exact ⟨_, pe_callB hc hg hm hv q hn hdb he hpl, call_run ho ht⟩
theorem ex_callT {T : String} {x : Str} {r : List V → Hp → VK → Prop} {g : List PyData → Option PyData} {e : Expr} {es : List Expr} {f : Vars → R (List PyData)} {p pos : Pos} (hc : CallR X (.type T) r) (ho : CallD X.K r g) (hg : Gl X x) (hm : X.mg x = none) (hv : bootBuiltins x = some (.type T)) (ha : AX X W (e :: es) f)
    (hn : x ≠ "__name__" := by decide) (hdb : (x == ("__debug__" : Str)) = false := by decide)
    (he : starEach (e :: es) X.env = (false, eval e X.env) :: starEach es X.env := by rfl) (hpl : (backTo pos (starEach es X.env)).any (·.1) = false := by rfl) : EX X W (.Call (.Name x p) (e :: es) [] pos) (eCall g f) := by
  obtain ⟨t, q, ht⟩ := ha
  exact ⟨_, pe_callTy hc hg hm hv q hn hdb he hpl, call_run ho ht⟩
end
/-- len -/
def gLen : List PyData → Option PyData
  | [.tuple xs] => some (.int xs.length)
  | [.list xs] => some (.int xs.length)
  | [.str x] => if x.length ≤ sizeLine then some (.int x.length) else none
  | _ => none
theorem rps_one {K : PySem.W.Frag} {H : Hp} {vs : List V} {d : PyData} (r : Rps K H vs [d]) : ∃ v, vs = [v] ∧ Rp K H v d := by
  cases r with
  | cons h t => cases t; exact ⟨_, rfl, h⟩
theorem rps_two {K : PySem.W.Frag} {H : Hp} {vs : List V} {d e : PyData} (r : Rps K H vs [d, e]) : ∃ v w, vs = [v, w] ∧ Rp K H v d ∧ Rp K H w e := by
  cases r with
  | cons h t => cases t with | cons h2 t => cases t; exact ⟨_, _, rfl, h, h2⟩
theorem rps_three {K : PySem.W.Frag} {H : Hp} {vs : List V} {d e f : PyData} (r : Rps K H vs [d, e, f]) : ∃ v w u, vs = [v, w, u] ∧ Rp K H v d ∧ Rp K H w e ∧ Rp K H u f := by
  cases r with
  | cons h t => cases t with | cons h2 t => cases t with | cons h3 t => cases t; exact ⟨_, _, _, rfl, h, h2, h3⟩
theorem calld_len {K : PySem.W.Frag} : CallD K (fun xs H Q => ∃ x n, xs = [x] ∧ LenV K x H n ∧ Q (.int n) H) gLen := by
  intro H O xs ds z Q hO r h q
  unfold gLen at h
  split at h
  · cases h
    obtain ⟨v, rfl, rv⟩ := rps_one r
    cases rv with
    | tup hx rs => rw [← rs.length] at q; exact ⟨_, _, rfl, .inr ⟨_, seqT hide_sub hx, rfl⟩, q _ H (Same.refl H) (.int _)⟩
  · cases h
    obtain ⟨v, rfl, rv⟩ := rps_one r
    cases rv with
    | lst hx rs => rw [← rs.length] at q; exact ⟨_, _, rfl, .inl ⟨_, seqL hide_sub hx, rfl⟩, q _ H (Same.refl H) (.int _)⟩
  · rename_i x
    by_cases c : x.length ≤ sizeLine
    · rw [if_pos c] at h; cases h
      obtain ⟨v, rfl, rv⟩ := rps_one r
      cases rv
      exact ⟨_, _, rfl, ⟨c, rfl⟩, q _ H (Same.refl H) (.int _)⟩
    · rw [if_neg c] at h; cases h
  · cases h
/-- tuple(..) -/
def gTuple : List PyData → Option PyData
  | [.tuple xs] => some (.tuple xs)
  | [.list xs] => some (.tuple xs)
  | _ => none
theorem calld_tuple {K : PySem.W.Frag} : CallD K (fun xs H Q => ∃ p ys, xs = [.ref p] ∧ ((SqL K H p ys ∧ ∀ l, H l = none → Q (.ref l) (upd H l (.tup ys))) ∨ (SqT K H p ys ∧ Q (.ref p) H))) gTuple := by
  intro H O xs ds z Q hO r h q
  unfold gTuple at h
  split at h
  · cases h
    obtain ⟨v, rfl, rv⟩ := rps_one r
    cases rv with
    | tup hx rs => exact ⟨_, _, rfl, .inr ⟨seqT hide_sub hx, q _ H (Same.refl H) (.tup hx rs)⟩⟩
  · cases h
    obtain ⟨v, rfl, rv⟩ := rps_one r
    cases rv with
    | lst hx rs => exact ⟨_, _, rfl, .inl ⟨seqL hide_sub hx, fun l hl => q _ _ (same_new hl) (new_rep hO hl rs)⟩⟩
  · cases h
/-- list(..) -/
def gList : List PyData → Option PyData
  | [.tuple xs] => some (.list xs)
  | [.list xs] => some (.list xs)
  | _ => none
theorem calld_list {K : PySem.W.Frag} : CallD K (fun xs H Q => ∃ p ys, xs = [.ref p] ∧ (SqL K H p ys ∨ SqT K H p ys) ∧ ∀ l, H l = none → Q (.ref l) (upd H l (.lst ys))) gList := by
  intro H O xs ds z Q hO r h q
  unfold gList at h
  split at h
  · cases h
    obtain ⟨v, rfl, rv⟩ := rps_one r
    cases rv with
    | tup hx rs => exact ⟨_, _, rfl, .inr (seqT hide_sub hx), fun l hl => q _ _ (same_new hl) (new_repL hO hl rs)⟩
  · cases h
    obtain ⟨v, rfl, rv⟩ := rps_one r
    cases rv with
    | lst hx rs => exact ⟨_, _, rfl, .inl (seqL hide_sub hx), fun l hl => q _ _ (same_new hl) (new_repL hO hl rs)⟩
  · cases h
/-- int(..) -/
def gIntC : List PyData → Option PyData
  | [.int i] => some (.int i)
  | [.bool b] => some (.int (if b then 1 else 0))
  | _ => none
theorem calld_int {K : PySem.W.Frag} : CallD K (fun xs H Q => (∃ i, xs = [.int i] ∧ Q (.int i) H) ∨ ∃ k, xs = [.bl k] ∧ Q (.int (if k then 1 else 0)) H) gIntC := by
  intro H O xs ds z Q hO r h q
  unfold gIntC at h
  split at h
  · cases h
    obtain ⟨v, rfl, rv⟩ := rps_one r
    cases rv
    exact .inl ⟨_, rfl, q _ H (Same.refl H) (.int _)⟩
  · cases h
    obtain ⟨v, rfl, rv⟩ := rps_one r
    cases rv
    exact .inr ⟨_, rfl, q _ H (Same.refl H) (.int _)⟩
  · cases h
/-- max, min of two ints -/
def gMax2 : List PyData → Option PyData
  | [.int i, .int j] => some (.int (if j > i then j else i))
  | _ => none
def gMin2 : List PyData → Option PyData
  | [.int i, .int j] => some (.int (if j < i then j else i))
  | _ => none
theorem calld_max2 {K : PySem.W.Frag} : CallD K (fun xs H Q => ∃ i j, xs = [.int i, .int j] ∧ Q (.int (if j > i then j else i)) H) gMax2 := by
  intro H O xs ds z Q hO r h q
  unfold gMax2 at h
  split at h
  · cases h
    obtain ⟨v, w, rfl, rv, rw'⟩ := rps_two r
    cases rv
    cases rw'
    exact ⟨_, _, rfl, q _ H (Same.refl H) (.int _)⟩
  · cases h
theorem calld_min2 {K : PySem.W.Frag} : CallD K (fun xs H Q => ∃ i j, xs = [.int i, .int j] ∧ Q (.int (if j < i then j else i)) H) gMin2 := by
  intro H O xs ds z Q hO r h q
  unfold gMin2 at h
  split at h
  · cases h
    obtain ⟨v, w, rfl, rv, rw'⟩ := rps_two r
    cases rv
    cases rw'
    exact ⟨_, _, rfl, q _ H (Same.refl H) (.int _)⟩
  · cases h
/-- max of three ints -/
def rMax3 : List V → Hp → VK → Prop := fun xs H Q => ∃ i j k, xs = [.int i, .int j, .int k] ∧ Q (.int (if k > (if j > i then j else i) then k else (if j > i then j else i))) H
theorem call_max3i {X : Cx} (hc : X.calm = true) : CallR X (.builtin "max") rMax3 := by
  intro pins s σ H xs us Q I r h
  obtain ⟨i, j, k, rfl, q⟩ := h
  cases r with
  | cons r1 r => cases r with
    | cons r2 r => cases r with
      | cons r3 r =>
        cases r
        obtain ⟨t1, rfl⟩ := r1
        obtain ⟨t2, rfl⟩ := r2
        obtain ⟨t3, rfl⟩ := r3
        refine max_three_ints (I.ok.hd hc) fun h' tk kk => ⟨_, H, I.kept kk, ?_, q⟩
        by_cases h1 : j > i
        · simp only [if_pos h1]
          by_cases h2 : k > j
          · simp only [if_pos h2]; exact ⟨_, rfl⟩
          · simp only [if_neg h2]; exact ⟨_, rfl⟩
        · simp only [if_neg h1]
          by_cases h2 : k > i
          · simp only [if_pos h2]; exact ⟨_, rfl⟩
          · simp only [if_neg h2]; exact ⟨_, rfl⟩
def gMax3 : List PyData → Option PyData
  | [.int i, .int j, .int k] => some (.int (if k > (if j > i then j else i) then k else (if j > i then j else i)))
  | _ => none
theorem calld_max3 {K : PySem.W.Frag} : CallD K rMax3 gMax3 := by
  intro H O xs ds z Q hO r h q
  unfold gMax3 at h
  split at h
  · cases h
    obtain ⟨v, w, u, rfl, rv, rw', ru⟩ := rps_three r
    cases rv
    cases rw'
    cases ru
    exact ⟨_, _, _, rfl, q _ H (Same.refl H) (.int _)⟩
  · cases h
/-- the ints of a list of ints -/
def intsOf : List PyData → Option (List Int)
  | [] => some []
  | .int i :: r => (intsOf r).map fun ns => i :: ns
  | _ => none
theorem intsOf_eq : ∀ {ds : List PyData} {ns : List Int}, intsOf ds = some ns → ds = ns.map PyData.int
  | [], ns, h => by cases h; rfl
  | .int i :: r, ns, h => by
    unfold intsOf at h
    cases e : intsOf r with
    | none => rw [e] at h; cases h
    | some ms => rw [e] at h; cases h; rw [intsOf_eq e]; rfl
  | .none :: _, _, h => by cases h
  | .bool _ :: _, _, h => by cases h
  | .str _ :: _, _, h => by cases h
  | .list _ :: _, _, h => by cases h
  | .tuple _ :: _, _, h => by cases h
  | .dict _ :: _, _, h => by cases h
theorem intsOf_map : ∀ ns : List Int, intsOf (ns.map PyData.int) = some ns
  | [] => rfl
  | n :: ns => by
    show (intsOf (ns.map PyData.int)).map _ = _
    rw [intsOf_map ns]; rfl
/-- sum of a list of ints -/
def gSum : List PyData → Option PyData
  | [.list ds] => (intsOf ds).map fun ns => .int ns.sum
  | _ => none
theorem calld_sum {K : PySem.W.Frag} : CallD K (rSum K) gSum := by
  intro H O xs ds z Q hO r h q
  unfold gSum at h
  split at h
  · rename_i ds
    cases e : intsOf ds with
    | none => rw [e] at h; cases h
    | some ns =>
      rw [e] at h; cases h
      obtain ⟨v, rfl, rv⟩ := rps_one r
      have e2 := intsOf_eq e
      subst e2
      cases rv with
      | lst hx rs =>
        have e3 := rs.ints
        subst e3
        exact ⟨_, ns, rfl, seqL hide_sub hx, q _ H (Same.refl H) (.int _)⟩
  · cases h
/-- max of a list of ints -/
def maxI : Int → List Int → Int
  | m, [] => m
  | m, n :: ns => maxI (if n > m then n else m) ns
theorem maxI_mem : ∀ (m : Int) (ns : List Int), maxI m ns ∈ m :: ns
  | m, [] => by simp [maxI]
  | m, n :: ns => by
    unfold maxI
    have h := maxI_mem (if n > m then n else m) ns
    rcases List.mem_cons.mp h with h | h
    · rw [h]
      by_cases c : n > m
      · rw [if_pos c]; simp
      · rw [if_neg c]; simp
    · simp [h]
theorem maxI_le : ∀ (m : Int) (ns : List Int) (y : Int), y ∈ m :: ns → y ≤ maxI m ns
  | m, [], y, h => by simp at h; subst h; exact Int.le_refl _
  | m, n :: ns, y, h => by
    unfold maxI
    have h0 := maxI_le (if n > m then n else m) ns (if n > m then n else m) (by simp)
    have h1 := maxI_le (if n > m then n else m) ns
    by_cases c : n > m
    · rw [if_pos c] at h0 h1 ⊢
      simp only [List.mem_cons] at h
      rcases h with h | h | h
      · subst h; omega
      · subst h; exact h0
      · exact h1 y (by simp [h])
    · rw [if_neg c] at h0 h1 ⊢
      simp only [List.mem_cons] at h
      rcases h with h | h | h
      · subst h; exact h0
      · subst h; omega
      · exact h1 y (by simp [h])
def gMaxL : List PyData → Option PyData
  | [.list ds] => match intsOf ds with
    | some (n :: ns) => some (.int (maxI n ns))
    | _ => none
  | _ => none
theorem calld_maxL {K : PySem.W.Frag} : CallD K (rMax K) gMaxL := by
  intro H O xs ds z Q hO r h q
  unfold gMaxL at h
  split at h
  · rename_i ds
    split at h
    · rename_i n ns e
      cases h
      obtain ⟨v, rfl, rv⟩ := rps_one r
      have e2 := intsOf_eq e
      subst e2
      cases rv with
      | lst hx rs =>
        have e3 := rs.ints
        subst e3
        refine ⟨_, n :: ns, rfl, seqL hide_sub hx, by simp, fun m h1 h2 => ?_⟩
        have e4 : m = maxI n ns := Int.le_antisymm (maxI_le n ns m h1) (h2 _ (maxI_mem n ns))
        rw [e4]
        exact q _ H (Same.refl H) (.int _)
    · cases h
  · cases h
/-- divmod -/
def gDivmod : List PyData → Option PyData
  | [.int i, .int j] => if decide (0 < j) && decide (j < 1073741824) then some (.tuple [.int (i / j), .int (i % j)]) else none
  | _ => none
theorem calld_divmod {K : PySem.W.Frag} : CallD K (fun xs H Q => ∃ i j, xs = [.int i, .int j] ∧ CDiv i j ∧ ∀ p, H p = none → Q (.ref p) (upd H p (.tup [.int (i / j), .int (i % j)]))) gDivmod := by
  intro H O xs ds z Q hO r h q
  unfold gDivmod at h
  split at h
  · rename_i i j
    by_cases c : (decide (0 < j) && decide (j < 1073741824)) = true
    · rw [if_pos c] at h; cases h
      rw [Bool.and_eq_true] at c
      obtain ⟨v, w, rfl, rv, rw'⟩ := rps_two r
      cases rv
      cases rw'
      exact ⟨_, _, rfl, ⟨of_decide_eq_true c.1, of_decide_eq_true c.2⟩, fun p hp => q _ _ (same_new hp) (new_rep hO hp (.cons (.int _) (.cons (.int _) .nil)))⟩
    · rw [if_neg c] at h; cases h
  · cases h
/-! ### isinstance(x, T) of a built-in type -/
def tyN : PyData → String
  | .none => "NoneType"
  | .bool _ => "bool"
  | .int _ => "int"
  | .str _ => "str"
  | .list _ => "list"
  | .tuple _ => "tuple"
  | .dict _ => "dict"
theorem tyX_of {K : PySem.W.Frag} {H : Hp} {v : V} {d : PyData} (r : Rp K H v d) : TyX K H v (.type (tyN d)) := by
  cases r with
  | non => exact .base .non
  | bl b => exact .base (.bl b)
  | int b => exact .base (.int b)
  | str b => exact .base (.str b)
  | lst h _ =>
    rcases h with (h | ⟨o, h⟩) | ⟨o, its, n, h, hc, _⟩
    · exact .base (.lst h)
    · exact .base (.frz h)
    · exact .kList h hc
  | tup h _ =>
    rcases h with (h | ⟨o, h⟩) | ⟨o, its, n, h, hc, _⟩
    · exact .base (.tup h)
    · exact .fTuple h
    · exact .kTuple h hc
  | dic h _ => exact .base (.dK h)
theorem kitB_none_int : kitB "NoneType" "int" = some false := by decide +kernel
/-- the table: T one of int, bool, tuple, str, list, dict -/
def isiB (T : String) (d : PyData) : Bool := match d with
  | .none => false
  | .bool _ => T == "bool" || T == "int"
  | .int _ => T == "int"
  | .str _ => T == "str"
  | .list _ => T == "list"
  | .tuple _ => T == "tuple"
  | .dict _ => T == "dict"
def kitAll (T : String) : Bool := decide (kitB "NoneType" T = some false) && decide (kitB "bool" T = some (T == "bool" || T == "int")) && decide (kitB "int" T = some (T == "int")) && decide (kitB "str" T = some (T == "str")) && decide (kitB "list" T = some (T == "list")) && decide (kitB "tuple" T = some (T == "tuple")) && decide (kitB "dict" T = some (T == "dict"))
theorem kit_int : kitAll "int" = true := by decide +kernel
theorem kit_bool : kitAll "bool" = true := by decide +kernel
theorem kit_tuple : kitAll "tuple" = true := by decide +kernel
theorem kit_str : kitAll "str" = true := by decide +kernel
theorem kit_list : kitAll "list" = true := by decide +kernel
theorem kit_dict : kitAll "dict" = true := by decide +kernel
theorem kit_is {T : String} (h : kitAll T = true) (d : PyData) : kitB (tyN d) T = some (isiB T d) := by
  unfold kitAll at h
  simp only [Bool.and_eq_true, decide_eq_true_eq] at h
  obtain ⟨⟨⟨⟨⟨⟨h1, h2⟩, h3⟩, h4⟩, h5⟩, h6⟩, h7⟩ := h
  cases d <;> assumption
section
variable {X : Cx} {W : WX}
def eIsi (T : String) (f : Vars → R PyData) (ρ : Vars) : R PyData := (f ρ).bind fun d => .ok (.bool (isiB T d))
theorem ex_isi {T : String} {x : Str} {a : Expr} {f : Vars → R PyData} {p p2 pos : Pos} (hk : kitAll T = true) (hg : Gl X "isinstance") (hm : X.mg "isinstance" = none) (hgT : Gl X x) (hmT : X.mg x = none) (hvT : bootBuiltins x = some (.type T)) (ha : EX X W a f)
    (hn : x ≠ "__name__" := by decide) (hdb : (x == ("__debug__" : Str)) = false := by decide)
    (he : starEach [a, .Name x p2] X.env = (false, eval a X.env) :: starEach [.Name x p2] X.env := by rfl) (hpl : (backTo pos (starEach [.Name x p2] X.env)).any (·.1) = false := by rfl)
    (he2 : starEach [.Name x p2] X.env = (false, eval (.Name x p2) X.env) :: starEach [] X.env := by rfl) : EX X W (.Call (.Name "isinstance" p) [a, .Name x p2] [] pos) (eIsi T f) := by
  obtain ⟨t, q, ht⟩ := ha
  refine ⟨_, pe_callB call_isi hg hm (by decide +kernel) (pa_cons q (pa_cons (pe_bltn (v := .ty T) hgT hmT hvT rfl hn hdb) pa_nil he2) he) (by decide) (by decide) he hpl, fun σ H O ρ Q hO hv z => ht σ H O ρ _ hO hv (EOut.then (g := fun d => .ok (.bool (isiB T d))) EOut.b EOut.e z fun d v H1 s1 r1 z1 => ?_)⟩
  exact ⟨v, .ty T, _, _, _, rfl, .ty T, tyX_of (r1.mono hide_sub), kit_ty (kit_is hk d), z1 _ H1 s1 (.bl _)⟩
end
end Pu
set_option Elab.async false
set_option linter.all false
set_option maxRecDepth 100000
set_option maxHeartbeats 4000000
namespace Pu
open PySem PySem.Spec PyProof.Rows L2
/-! ### a def by data -/
def SpOut (K : PySem.W.Frag) (mg : Str → Option Value) (O : List Addr) (H : Hp) (Q : VK) (E : XK) : R PyData → Prop
  | .ok d => ∀ v H', Same H H' → Rp K (hide O H') v d → Q v H'
  | .err c => ∀ H', Same H H' → E (exV mg c) none H'
  | .bad => False
def spD (K : PySem.W.Frag) (mg : Str → Option Value) (n : Nat) (f : List PyData → R PyData) : Sp := fun vs H Q E =>
  vs.length = n ∧ ∃ O ds, Stands O H ∧ Rps K (hide O H) vs ds ∧ SpOut K mg O H Q E (f ds)
/-- the def that the module's name x holds answers as f says; k: the calls that it may nest -/
def Cal (P : Program) (w : World) (K : PySem.W.Frag) (mg : Str → Option Value) (base : Heap) (k : Nat) (x : Str) (n : Nat) (f : List PyData → R PyData) : Prop :=
  ∃ (fa : Addr) (fd : FuncData) (ps : List Str), ps.length = n ∧ FnOk P w K mg base (L2.CX P w) k fa fd ps (spD K mg n f) ∧ mg x = some (.ref fa) ∧ PySem.W.keepIn K (.ref fa) = true ∧ Binds K fd ps []
theorem Cal.mono {P : Program} {w : World} {K : PySem.W.Frag} {mg : Str → Option Value} {base : Heap} {k k' n : Nat} {x : Str} {f : List PyData → R PyData} (h : Cal P w K mg base k x n f) (l : k ≤ k') : Cal P w K mg base k' x n f := by
  obtain ⟨fa, fd, ps, h1, h2, h3⟩ := h
  exact ⟨fa, fd, ps, h1, h2.mono l, h3⟩
def eFn (g : List PyData → R PyData) (f : Vars → R (List PyData)) (ρ : Vars) : R PyData := (f ρ).bind g
section
variable {X : Cx} {W : WX}
theorem ex_fn {k n : Nat} {x : Str} {g : List PyData → R PyData} {e : Expr} {es : List Expr} {f : Vars → R (List PyData)} {p pos : Pos} (tk : Takes X W) (F : Cal X.prog X.w X.K X.mg X.base k x n g) (hr : Room k X.A) (hg : Gl X x) (ha : AX X W (e :: es) f) (hn : es.length + 1 = n)
    (hdb : (x == ("__debug__" : Str)) = false := by decide) (he : starEach (e :: es) X.env = (false, eval e X.env) :: starEach es X.env := by rfl) (hpl : (backTo pos (starEach es X.env)).any (·.1) = false := by rfl) (hlen : ∀ ρ ds, f ρ = .ok ds → ds.length = n) :
    EX X W (.Call (.Name x p) (e :: es) [] pos) (eFn g f) := by
  obtain ⟨fa, fd, ps, h1, h2, h3, h4, h5⟩ := F
  obtain ⟨t, q, ht⟩ := ha
  refine ⟨_, pe_callS h2 hr hg h3 h4 h5 (fun σ => passAt tk σ) q hdb he hpl, fun σ H O ρ Q hO hv z => ht σ H O ρ _ hO hv ?_⟩
  unfold eFn at z
  cases e1 : f ρ with
  | bad => rw [e1] at z; exact z
  | err c => rw [e1] at z; exact z
  | ok ds =>
    rw [e1] at z
    intro vs H1 s1 r1
    refine ⟨by rw [r1.length]; exact hlen ρ ds e1, O, ds, hO.same s1, r1, ?_⟩
    cases e2 : g ds with
    | bad => rw [R.bind_ok, e2] at z; exact z.elim
    | err c => rw [R.bind_ok, e2] at z; exact fun H' s' => z H' (s1.trans s')
    | ok d => rw [R.bind_ok, e2] at z; exact fun v H' s' r' => z v H' (s1.trans s') r'
theorem aNil_len {ρ : Vars} {ds : List PyData} (h : aNil ρ = .ok ds) : ds.length = 0 := by cases h; rfl
theorem aCons_len {f : Vars → R PyData} {g : Vars → R (List PyData)} {n : Nat} (h : ∀ ρ ds, g ρ = .ok ds → ds.length = n) : ∀ ρ ds, aCons f g ρ = .ok ds → ds.length = n + 1 := fun ρ ds e => by
  unfold aCons at e
  cases e1 : f ρ with
  | bad => rw [e1] at e; cases e
  | err c => rw [e1] at e; cases e
  | ok d =>
    rw [e1, R.bind_ok] at e
    cases e2 : g ρ with
    | bad => rw [e2] at e; cases e
    | err c => rw [e2] at e; cases e
    | ok ds' => rw [e2] at e; cases e; rw [List.length_cons, h ρ ds' e2]
theorem ex_fn0 {k : Nat} {x : Str} {g : List PyData → R PyData} {p pos : Pos} (tk : Takes X W) (F : Cal X.prog X.w X.K X.mg X.base k x 0 g) (hr : Room k X.A) (hg : Gl X x)
    (hdb : (x == ("__debug__" : Str)) = false := by decide) : EX X W (.Call (.Name x p) [] [] pos) (eFn g aNil) := by
  obtain ⟨fa, fd, ps, h1, h2, h3, h4, h5⟩ := F
  have key : PE X (.Call (.Name x p) [] [] pos) (tCallS (spD X.K X.mg 0 g) (WE W) tNil) := by
    refine ⟨fun pins s σ H Q I h => ?_⟩
    refine wpAny_Call_Name_kw (ld_glob I hg h3 ?_ hdb)
    exact PySem.W.callWith_K0 I.kIn h4 (run_fnS (us := []) (vs := []) h2 hr h5 (passAt tk σ) I .nil h)
  refine ⟨_, key, fun σ H O ρ Q hO hv z => ?_⟩
  refine ⟨rfl, O, [], hO, .nil, ?_⟩
  unfold eFn aNil at z
  rw [R.bind_ok] at z
  cases e2 : g [] with
  | bad => rw [e2] at z; exact z
  | err c => rw [e2] at z; exact z
  | ok d => rw [e2] at z; exact z
end
/-! ### targets -/
/-- some slots not to be read -/
def maskF (own : List Nat) : Nat → Vars → Vars
  | _, [] => []
  | k, x :: r => (if own.contains k = true then none else x) :: maskF own (k + 1) r
abbrev mask (own : List Nat) (ρ : Vars) : Vars := maskF own 0 ρ
theorem maskF_len (own : List Nat) : ∀ (k : Nat) (ρ : Vars), (maskF own k ρ).length = ρ.length
  | _, [] => rfl
  | k, x :: r => by unfold maskF; rw [List.length_cons, List.length_cons, maskF_len own (k + 1) r]
theorem maskF_get (own : List Nat) : ∀ (k : Nat) (ρ : Vars) (i : Nat), (maskF own k ρ)[i]? = if k + i ∈ own then (ρ[i]?).map fun _ => none else ρ[i]?
  | k, [], i => by simp [maskF]
  | k, x :: r, 0 => by
    unfold maskF
    by_cases c : k ∈ own <;> simp [c]
  | k, x :: r, i + 1 => by
    unfold maskF
    rw [List.getElem?_cons_succ, List.getElem?_cons_succ, maskF_get own (k + 1) r i, show k + 1 + i = k + (i + 1) by omega]
theorem mask_some {own : List Nat} {ρ : Vars} {i : Nat} {d : PyData} (h : (mask own ρ)[i]? = some (some d)) : i ∉ own ∧ ρ[i]? = some (some d) := by
  unfold mask at h
  rw [maskF_get, Nat.zero_add] at h
  by_cases c : i ∈ own
  · rw [if_pos c] at h
    cases e : ρ[i]? <;> rw [e] at h <;> cases h
  · rw [if_neg c] at h; exact ⟨c, h⟩
theorem mask_of {own : List Nat} {ρ : Vars} {i : Nat} {d : PyData} (c : i ∉ own) (h : ρ[i]? = some (some d)) : (mask own ρ)[i]? = some (some d) := by
  unfold mask
  rw [maskF_get, Nat.zero_add, if_neg c]; exact h
theorem mask_set {own : List Nat} {ρ : Vars} {i : Nat} {x : Option PyData} (c : i ∉ own) : mask own (ρ.set i x) = (mask own ρ).set i x := by
  apply List.ext_getElem?
  intro j
  unfold mask
  rw [maskF_get, Nat.zero_add]
  by_cases z : i = j
  · subst z
    rw [if_neg c]
    by_cases hl : i < ρ.length
    · rw [List.getElem?_set_self hl, List.getElem?_set_self (by rw [maskF_len]; exact hl)]
    · rw [List.getElem?_eq_none (by simpa using hl), List.getElem?_eq_none (by simp [maskF_len]; omega)]
  · rw [List.getElem?_set_ne z, List.getElem?_set_ne z, maskF_get, Nat.zero_add]
section
variable (X : Cx)
structure GtOk (js : List Nat) (gt : PyData → Vars → Option Vars) : Prop where
  len : ∀ d ρ ρ', gt d ρ = some ρ' → ρ'.length = ρ.length
  msk : ∀ own d ρ ρ', (∀ j ∈ js, j ∉ own) → gt d ρ = some ρ' → gt d (mask own ρ) = some (mask own ρ')
structure GtsOk (js : List Nat) (gt : List PyData → Vars → Option Vars) : Prop where
  len : ∀ d ρ ρ', gt d ρ = some ρ' → ρ'.length = ρ.length
  msk : ∀ own d ρ ρ', (∀ j ∈ js, j ∉ own) → gt d ρ = some ρ' → gt d (mask own ρ) = some (mask own ρ')
def GX (tg : Expr) (js : List Nat) (gt : PyData → Vars → Option Vars) : Prop := GtOk js gt ∧
  ∃ g, PG X tg g ∧ ∀ v d σ H O ρ ρ' Q, Stands O H → VRel X.K (hide O H) σ ρ → Rp X.K (hide O H) v d → gt d ρ = some ρ' →
    (∀ σ', VRel X.K (hide O H) σ' ρ' → σ'.length = σ.length → (∀ j : Nat, j ∉ js → σ'[j]? = σ[j]? ∧ ρ'[j]? = ρ[j]?) → Q σ' H) → g v σ H Q
def GsX (ts : List Expr) (js : List Nat) (gt : List PyData → Vars → Option Vars) : Prop := GtsOk js gt ∧
  ∃ g, PGs X ts g ∧ ∀ vs ds σ H O ρ ρ' Q, Stands O H → VRel X.K (hide O H) σ ρ → Rps X.K (hide O H) vs ds → gt ds ρ = some ρ' →
    (∀ σ', VRel X.K (hide O H) σ' ρ' → σ'.length = σ.length → (∀ j : Nat, j ∉ js → σ'[j]? = σ[j]? ∧ ρ'[j]? = ρ[j]?) → Q σ' H) → g vs σ H Q
end
def gtName (i : Nat) (d : PyData) (ρ : Vars) : Option Vars := some (ρ.set i (some d))
def gtNil (ds : List PyData) (ρ : Vars) : Option Vars := match ds with
  | [] => some ρ
  | _ => none
def gtCons (g : PyData → Vars → Option Vars) (h : List PyData → Vars → Option Vars) (ds : List PyData) (ρ : Vars) : Option Vars := match ds with
  | d :: r => (g d ρ).bind fun ρ' => h r ρ'
  | [] => none
def gtTup (n : Nat) (h : List PyData → Vars → Option Vars) (d : PyData) (ρ : Vars) : Option Vars := match d with
  | .tuple ds => if ds.length = n then h ds ρ else none
  | _ => none
theorem gtName_ok (i : Nat) : GtOk [i] (gtName i) where
  len := fun d ρ ρ' e => by cases e; simp
  msk := fun own d ρ ρ' h e => by cases e; unfold gtName; rw [mask_set (h i (by simp))]
theorem gtNil_ok : GtsOk [] gtNil where
  len := fun d ρ ρ' e => by cases d <;> cases e; rfl
  msk := fun own d ρ ρ' h e => by cases d <;> cases e; rfl
theorem gtCons_ok {js ks : List Nat} {g : PyData → Vars → Option Vars} {h : List PyData → Vars → Option Vars} (a : GtOk js g) (b : GtsOk ks h) : GtsOk (js ++ ks) (gtCons g h) where
  len := fun d ρ ρ' e => by
    cases d with
    | nil => cases e
    | cons d r =>
      have e' : (g d ρ).bind (fun ρ' => h r ρ') = some ρ' := e
      cases e1 : g d ρ with
      | none => rw [e1] at e'; cases e'
      | some ρ1 => rw [e1] at e'; rw [b.len r ρ1 ρ' e', a.len d ρ ρ1 e1]
  msk := fun own d ρ ρ' hj e => by
    cases d with
    | nil => cases e
    | cons d r =>
      have e' : (g d ρ).bind (fun ρ' => h r ρ') = some ρ' := e
      cases e1 : g d ρ with
      | none => rw [e1] at e'; cases e'
      | some ρ1 =>
        rw [e1] at e'
        show (g d (mask own ρ)).bind (fun ρ' => h r ρ') = _
        rw [a.msk own d ρ ρ1 (fun j hh => hj j (List.mem_append_left _ hh)) e1]
        exact b.msk own r ρ1 ρ' (fun j hh => hj j (List.mem_append_right _ hh)) e'
theorem gtTup_ok {n : Nat} {js : List Nat} {h : List PyData → Vars → Option Vars} (b : GtsOk js h) : GtOk js (gtTup n h) where
  len := fun d ρ ρ' e => by
    cases d <;> try cases e
    rename_i ds
    unfold gtTup at e
    dsimp only at e
    by_cases c : ds.length = n
    · rw [if_pos c] at e; exact b.len _ _ _ e
    · rw [if_neg c] at e; cases e
  msk := fun own d ρ ρ' hj e => by
    cases d <;> try cases e
    rename_i ds
    unfold gtTup at e ⊢
    dsimp only at e ⊢
    by_cases c : ds.length = n
    · rw [if_pos c] at e ⊢; exact b.msk _ _ _ _ hj e
    · rw [if_neg c] at e; cases e
section
variable {X : Cx}
theorem gx_name {i : Nat} {x : Str} {pos : Pos} (hN : X.N.Nodup) (hi : X.N[i]? = some x) (hx : Loc X.env.scope x) (hf : X.fn x = true ∨ X.env.scope.names.lookup x = some .local := by first | exact .inl rfl | exact .inr rfl | assumption) : GX X (.Name x pos) [i] (gtName i) := by
  refine ⟨gtName_ok i, _, pg_name hN hi hx hf, fun v d σ H O ρ ρ' Q hO hv r e k => ?_⟩
  cases e
  refine k _ (hv.set r) (by simp) fun j hj => ?_
  have c : i ≠ j := fun e => hj (by simp [e])
  exact ⟨by rw [List.getElem?_set_ne c], by rw [List.getElem?_set_ne c]⟩
theorem gsx_nil : GsX X [] [] gtNil := by
  refine ⟨gtNil_ok, _, pgs_nil, fun vs ds σ H O ρ ρ' Q hO hv r e k => ?_⟩
  cases r with
  | nil => cases e; exact ⟨rfl, k σ hv rfl fun _ _ => ⟨rfl, rfl⟩⟩
  | cons _ _ => cases e
theorem gsx_cons {e : Expr} {es : List Expr} {js ks : List Nat} {g : PyData → Vars → Option Vars} {h : List PyData → Vars → Option Vars} (hg : GX X e js g) (hh : GsX X es ks h) (hs : (assignEach (e :: es) X.env).map (·.2) = assign e X.env :: (assignEach es X.env).map (·.2) := by rfl) : GsX X (e :: es) (js ++ ks) (gtCons g h) := by
  obtain ⟨a, t, p, ht⟩ := hg
  obtain ⟨b, u, q, hu⟩ := hh
  refine ⟨gtCons_ok a b, _, pgs_cons p q hs, fun vs ds σ H O ρ ρ' Q hO hv r e k => ?_⟩
  cases r with
  | nil => cases e
  | @cons v vs d ds r rs =>
    have e' : (g d ρ).bind (fun ρ' => h ds ρ') = some ρ' := e
    cases e1 : g d ρ with
    | none => rw [e1] at e'; cases e'
    | some ρ1 =>
      rw [e1] at e'
      refine ⟨v, vs, rfl, ht v d σ H O ρ ρ1 _ hO hv r e1 fun σ1 v1 m1 f1 => hu vs ds σ1 H O ρ1 ρ' Q hO v1 rs e' fun σ2 v2 m2 f2 => k σ2 v2 (m2.trans m1) fun j hj => ?_⟩
      have h1 := f1 j (fun z => hj (List.mem_append_left _ z))
      have h2 := f2 j (fun z => hj (List.mem_append_right _ z))
      exact ⟨h2.1.trans h1.1, h2.2.trans h1.2⟩
theorem gx_tup {es : List Expr} {k n : Nat} {js : List Nat} {h : List PyData → Vars → Option Vars} {pos : Pos} (hc : X.calm = true) (hh : GsX X es js h) (hn : (assignEach es X.env).length = n := by rfl) (hst : (assignEach es X.env).findIdx? (·.1) = none := by rfl) : GX X (.Tuple es k pos) js (gtTup n h) := by
  obtain ⟨b, u, q, hu⟩ := hh
  refine ⟨gtTup_ok b, _, pg_tup hc q hn hst, fun v d σ H O ρ ρ' Q hO hv r e kk => ?_⟩
  cases r with
  | @tup a xs ds hx rs =>
    unfold gtTup at e
    dsimp only at e
    by_cases c : ds.length = n
    · rw [if_pos c] at e
      exact ⟨a, xs, rfl, seqT hide_sub hx, by rw [rs.length]; exact c, hu xs ds σ H O ρ ρ' Q hO hv rs e kk⟩
    · rw [if_neg c] at e; cases e
  | _ => cases e
def tG (X : Cx) (js : List Nat) (gt : PyData → Vars → Option Vars) : TG := fun v σ H Q => ∃ d O ρ ρ', Stands O H ∧ VRel X.K (hide O H) σ ρ ∧ Rp X.K (hide O H) v d ∧ gt d ρ = some ρ' ∧
  ∀ σ', VRel X.K (hide O H) σ' ρ' → σ'.length = σ.length → (∀ j : Nat, j ∉ js → σ'[j]? = σ[j]? ∧ ρ'[j]? = ρ[j]?) → Q σ' H
theorem GX.pg {tg : Expr} {js : List Nat} {gt : PyData → Vars → Option Vars} (h : GX X tg js gt) : PG X tg (tG X js gt) := by
  obtain ⟨_, t, p, ht⟩ := h
  exact ⟨fun pins s σ H v u Q I r ⟨d, O, ρ, ρ', h1, h2, h3, h4, h5⟩ => p.run pins s σ H v u Q I r (ht v d σ H O ρ ρ' Q h1 h2 h3 h4 h5)⟩
end
/-! ### what is walked -/
def IterOk (K : PySem.W.Frag) (J : It) (F : Hp) (ds : List PyData) : Prop := ∀ (i : Nat) (H : Hp) (O : List Addr), Stands O H → Same F (hide O H) →
  (∀ d, ds[i]? = some d → J.go i H ∧ ∀ x H', J.yld i H x H' → Same H H' ∧ Rp K (hide O H') x d) ∧ (ds.length ≤ i → J.stop i H)
def IX (X : Cx) (W : WX) (tg e : Expr) (f : Vars → R (List PyData)) : Prop :=
  ∃ wi, PI X tg e wi ∧ ∀ σ H O ρ (Q : It → Hp → Prop), Stands O H → VRel X.K (hide O H) σ ρ →
    (match f ρ with
      | .ok ds => ∀ J H', Same H H' → IterOk X.K J (hide O H') ds → Q J H'
      | .err c => ∀ H', Same H H' → W (exV X.mg c) none σ H'
      | .bad => False) → wi σ H Q
section
variable {X : Cx} {W : WX} {tg : Expr}
theorem iter_list {K : PySem.W.Frag} {F : Hp} {a : Addr} {xs : List V} {ds : List PyData} (h : SqL K F a xs) (r : Rps K F xs ds) (inj : ∀ H, Same F H → ∀ ys, SqL K H a ys → ys = xs) : IterOk K (Itl K a) F ds := fun i H O hO s => by
  have s' : Same F H := s.trans hide_sub
  have hH : SqL K H a xs := seqL s' h
  refine ⟨fun d e => ?_, fun l => ⟨xs, hH, by rw [r.length]; exact l⟩⟩
  obtain ⟨v, h1, h2⟩ := r.get e
  refine ⟨⟨xs, v, hH, h1⟩, fun x H' y => ?_⟩
  obtain ⟨rfl, y⟩ := y
  have h3 := y xs hH
  rw [h1] at h3
  cases h3
  exact ⟨Same.refl _, h2.mono s⟩
/-- the list at a, if the heap is some state's -/
theorem iterL {K : PySem.W.Frag} {F : Hp} {a : Addr} {xs : List V} {ds : List PyData} (h : SqL K F a xs) (r : Rps K F xs ds) : IterOk K (Itl K a) F ds := fun i H O hO s => by
  have s' : Same F H := s.trans hide_sub
  have hH : SqL K H a xs := seqL s' h
  refine ⟨fun d e => ?_, fun l => ⟨xs, hH, by rw [r.length]; exact l⟩⟩
  obtain ⟨v, h1, h2⟩ := r.get e
  refine ⟨⟨xs, v, hH, h1⟩, fun x H' y => ?_⟩
  obtain ⟨rfl, y⟩ := y
  have h3 := y xs hH
  rw [h1] at h3
  cases h3
  exact ⟨Same.refl _, h2.mono s⟩
theorem iterT {K : PySem.W.Frag} {F : Hp} {a : Addr} {xs : List V} {ds : List PyData} (h : SqT K F a xs) (r : Rps K F xs ds) : IterOk K (Itt K a) F ds := fun i H O hO s => by
  have s' : Same F H := s.trans hide_sub
  have hH : SqT K H a xs := seqT s' h
  refine ⟨fun d e => ?_, fun l => ⟨xs, hH, by rw [r.length]; exact l⟩⟩
  obtain ⟨v, h1, h2⟩ := r.get e
  refine ⟨⟨xs, v, hH, h1⟩, fun x H' y => ?_⟩
  obtain ⟨rfl, y⟩ := y
  have h3 := y xs hH
  rw [h1] at h3
  cases h3
  exact ⟨Same.refl _, h2.mono s⟩
/-- the items of a list, of a tuple -/
def iSeq (f : Vars → R PyData) (ρ : Vars) : R (List PyData) := (f ρ).bind fun d => match d with
  | .list ds => .ok ds
  | .tuple ds => .ok ds
  | _ => .bad
def iLst (f : Vars → R PyData) (ρ : Vars) : R (List PyData) := (f ρ).bind fun d => match d with
  | .list ds => .ok ds
  | _ => .bad
def iTupl (f : Vars → R PyData) (ρ : Vars) : R (List PyData) := (f ρ).bind fun d => match d with
  | .tuple ds => .ok ds
  | _ => .bad
theorem ix_lst {e : Expr} {f : Vars → R PyData} (h : EX X W e f) : IX X W tg e (iLst f) := by
  obtain ⟨t, p, ht⟩ := h
  refine ⟨_, pi_list p, fun σ H O ρ Q hO hv z => ht σ H O ρ _ hO hv ?_⟩
  unfold iLst at z
  cases q : f ρ with
  | bad => rw [q] at z; exact z
  | err c => rw [q] at z; exact z
  | ok d =>
    rw [q] at z
    intro v H1 s1 r1
    cases r1 with
    | lst hx rs => exact ⟨_, rfl, ⟨_, seqL hide_sub hx⟩, z _ H1 s1 (iterL hx rs)⟩
    | _ => exact z.elim
theorem ix_tpl {e : Expr} {f : Vars → R PyData} (h : EX X W e f) : IX X W tg e (iTupl f) := by
  obtain ⟨t, p, ht⟩ := h
  refine ⟨_, pi_tup p, fun σ H O ρ Q hO hv z => ht σ H O ρ _ hO hv ?_⟩
  unfold iTupl at z
  cases q : f ρ with
  | bad => rw [q] at z; exact z
  | err c => rw [q] at z; exact z
  | ok d =>
    rw [q] at z
    intro v H1 s1 r1
    cases r1 with
    | tup hx rs => exact ⟨_, rfl, ⟨_, seqT hide_sub hx⟩, z _ H1 s1 (iterT hx rs)⟩
    | _ => exact z.elim
/-- a list or a tuple -/
theorem pi_seq {l : Expr} {tl : TE} (hl : PE X l tl) : PI X tg l (fun σ H R => tl σ H fun x H1 => ∃ a, x = .ref a ∧ ((∃ xs, SqL X.K H1 a xs) ∧ R (Itl X.K a) H1 ∨ (∃ xs, SqT X.K H1 a xs) ∧ R (Itt X.K a) H1)) := by
  refine ⟨fun pins s σ H R I h => ?_⟩
  refine thn (hl.run pins s σ H _ I h) fun v s1 ⟨x, H1, I1, r1, q1⟩ => ?_
  obtain ⟨a, e, q1⟩ := q1
  subst e
  cases r1
  rcases q1 with ⟨⟨xs, hq⟩, q⟩ | ⟨⟨xs, hq⟩, q⟩
  · obtain ⟨its, rv, p, hz⟩ := I1.list hq
    refine wpAny_pyIter_list p.isList ?_
    refine ⟨s1.heap.objs.size, [s1.heap.objs.size], _, _, H1, rfl, I1.kept (t' := s1.toks) fun b o e => Heap.get?_push_of_some _ e, turn_list a _, ⟨_, Heap.get?_push_size _ rfl, rfl, rfl⟩, fun b hb => ?_, q⟩
    have e : b = s1.heap.objs.size := by simpa using hb
    subst e
    exact I1.fpOk (Nat.le_refl _) (I1.hok.fresh (Nat.le_refl _))
  · obtain ⟨its, rv, p, hz⟩ := I1.tuple hq
    refine wpAny_pyIter_tuple (show s1.heap.IsTuple a its.toArray from p) ?_
    refine ⟨s1.heap.objs.size, [s1.heap.objs.size], _, _, H1, rfl, I1.kept (t' := s1.toks) fun b o e => Heap.get?_push_of_some _ e, turn_tuple a _, ⟨_, Heap.get?_push_size _ rfl, rfl, rfl⟩, fun b hb => ?_, q⟩
    have e : b = s1.heap.objs.size := by simpa using hb
    subst e
    exact I1.fpOk (Nat.le_refl _) (I1.hok.fresh (Nat.le_refl _))
theorem ix_seq {e : Expr} {f : Vars → R PyData} (h : EX X W e f) : IX X W tg e (iSeq f) := by
  obtain ⟨t, p, ht⟩ := h
  refine ⟨_, pi_seq p, fun σ H O ρ Q hO hv z => ht σ H O ρ _ hO hv ?_⟩
  unfold iSeq at z
  cases q : f ρ with
  | bad => rw [q] at z; exact z
  | err c => rw [q] at z; exact z
  | ok d =>
    rw [q] at z
    intro v H1 s1 r1
    cases r1 with
    | tup hx rs => exact ⟨_, rfl, .inr ⟨⟨_, seqT hide_sub hx⟩, z _ H1 s1 (iterT hx rs)⟩⟩
    | lst hx rs => exact ⟨_, rfl, .inl ⟨⟨_, seqL hide_sub hx⟩, z _ H1 s1 (iterL hx rs)⟩⟩
    | _ => exact z.elim
/-! ranges -/
def rngD (lo : Int) (n : Nat) : List PyData := (List.range n).map fun i => .int (lo + (i : Nat))
theorem rngD_get {lo : Int} {n i : Nat} : (rngD lo n)[i]? = if i < n then some (.int (lo + (i : Nat))) else none := by
  unfold rngD
  rw [List.getElem?_map]
  by_cases h : i < n
  · rw [if_pos h, List.getElem?_range h]; rfl
  · rw [if_neg h, List.getElem?_eq_none (by simpa using h)]; rfl
theorem rngD_len {lo : Int} {n : Nat} : (rngD lo n).length = n := by simp [rngD]
theorem iterR {K : PySem.W.Frag} {F : Hp} {lo : Int} {n : Nat} : IterOk K (Itr lo n) F (rngD lo n) := fun i H O hO s => by
  refine ⟨fun d e => ?_, fun l => by rw [rngD_len] at l; exact l⟩
  rw [rngD_get] at e
  by_cases h : i < n
  · rw [if_pos h] at e
    cases e
    refine ⟨h, fun x H' y => ?_⟩
    obtain ⟨rfl, rfl⟩ := y
    exact ⟨Same.refl _, .int _⟩
  · rw [if_neg h] at e; cases e
def okI (j : Int) : Bool := decide (j.natAbs < 2 ^ 62)
theorem okI_of {j : Int} (h : okI j = true) : -(2 ^ 62) ≤ j ∧ j < 2 ^ 62 := by
  unfold okI at h
  have := of_decide_eq_true h
  omega
theorem okI_small {j : Int} (h0 : -1000000 ≤ j) (h1 : j ≤ 1000000) : okI j = true := by
  unfold okI
  exact decide_eq_true (by omega)
def iRange (f : Vars → R (List PyData)) (ρ : Vars) : R (List PyData) := (f ρ).bind fun ds => match ds with
  | [.int j] => if okI j = true then .ok (rngD 0 j.toNat) else .bad
  | [.int i, .int j] => if (okI i && okI j) = true then .ok (rngD i (j - i).toNat) else .bad
  | _ => .bad
theorem ix_range1 {a : Expr} {f : Vars → R (List PyData)} {p pos : Pos} (hg : Gl X "range") (hm : X.mg "range" = none) (ha : AX X W [a] f) (hs : starEach [a] X.env = [(false, eval a X.env)] := by rfl) (hl : ∀ ρ ds, f ρ = .ok ds → ds.length = 1) : IX X W tg (.Call (.Name "range" p) [a] [] pos) (iRange f) := by
  obtain ⟨t, q, ht⟩ := ha
  refine ⟨_, pi_range1 hg hm q hs, fun σ H O ρ Q hO hv z => ht σ H O ρ _ hO hv ?_⟩
  unfold iRange at z
  cases e : f ρ with
  | bad => rw [e] at z; exact z
  | err c => rw [e] at z; exact z
  | ok ds =>
    rw [e, R.bind_ok] at z
    have l := hl ρ ds e
    intro vs H1 s1 r1
    match ds, l, r1, z with
    | [.int j], _, r1, z =>
      obtain ⟨v, rfl, rv⟩ := rps_one r1
      cases rv
      by_cases c : okI j = true
      · simp only [if_pos c] at z
        obtain ⟨h1, h2⟩ := okI_of c
        exact ⟨j, rfl, h1, h2, z _ H1 s1 iterR⟩
      · simp only [if_neg c] at z
    | [.none], _, _, z => exact z.elim
    | [.bool _], _, _, z => exact z.elim
    | [.str _], _, _, z => exact z.elim
    | [.list _], _, _, z => exact z.elim
    | [.tuple _], _, _, z => exact z.elim
    | [.dict _], _, _, z => exact z.elim
theorem ix_range2 {a b : Expr} {f : Vars → R (List PyData)} {p pos : Pos} (hg : Gl X "range") (hm : X.mg "range" = none) (ha : AX X W [a, b] f) (hs : starEach [a, b] X.env = [(false, eval a X.env), (false, eval b X.env)] := by rfl) (hs2 : starEach [b] X.env = [(false, eval b X.env)] := by rfl) (hl : ∀ ρ ds, f ρ = .ok ds → ds.length = 2) : IX X W tg (.Call (.Name "range" p) [a, b] [] pos) (iRange f) := by
  obtain ⟨t, q, ht⟩ := ha
  refine ⟨_, pi_range2 hg hm q hs hs2, fun σ H O ρ Q hO hv z => ht σ H O ρ _ hO hv ?_⟩
  unfold iRange at z
  cases e : f ρ with
  | bad => rw [e] at z; exact z
  | err c => rw [e] at z; exact z
  | ok ds =>
    rw [e, R.bind_ok] at z
    have l := hl ρ ds e
    intro vs H1 s1 r1
    match ds, l, r1, z with
    | [d1, d2], _, r1, z =>
      obtain ⟨v, w, rfl, rv, rw'⟩ := rps_two r1
      cases rv with
      | int i =>
        cases rw' with
        | int j =>
          by_cases c : (okI i && okI j) = true
          · simp only [if_pos c] at z
            rw [Bool.and_eq_true] at c
            obtain ⟨h1, h2⟩ := okI_of c.1
            obtain ⟨h3, h4⟩ := okI_of c.2
            exact ⟨i, j, rfl, ⟨h1, h2, h3, h4⟩, z _ H1 s1 iterR⟩
          · simp only [if_neg c] at z
        | _ => exact z.elim
      | _ => exact z.elim
/-! zip -/
def zipD : List PyData → List PyData → List PyData
  | d :: ds, e :: es => .tuple [d, e] :: zipD ds es
  | _, _ => []
theorem zipD_get : ∀ {ds es : List PyData} {i : Nat} {z : PyData}, (zipD ds es)[i]? = some z → ∃ d e, ds[i]? = some d ∧ es[i]? = some e ∧ z = .tuple [d, e]
  | [], _, _, _, h => by simp [zipD] at h
  | _ :: _, [], _, _, h => by simp [zipD] at h
  | d :: ds, e :: es, 0, z, h => by simp [zipD] at h; exact ⟨d, e, rfl, rfl, h.symm⟩
  | d :: ds, e :: es, i + 1, z, h => by
    have h' : (zipD ds es)[i]? = some z := by simpa [zipD] using h
    obtain ⟨x, y, h1, h2, h3⟩ := zipD_get h'
    exact ⟨x, y, by simpa using h1, by simpa using h2, h3⟩
theorem zipD_len : ∀ {ds es : List PyData} {i : Nat}, (zipD ds es).length ≤ i → ds.length ≤ i ∨ es.length ≤ i
  | [], _, _, _ => .inl (Nat.zero_le _)
  | _ :: _, [], _, _ => .inr (Nat.zero_le _)
  | d :: ds, e :: es, 0, h => by simp [zipD] at h
  | d :: ds, e :: es, i + 1, h => by
    rcases zipD_len (ds := ds) (es := es) (i := i) (by simpa [zipD] using h) with h | h
    · exact .inl (by simpa using h)
    · exact .inr (by simpa using h)
theorem iterZL {K : PySem.W.Frag} {F : Hp} {a b : Addr} {xs ys : List V} {ds es : List PyData} (h : SqL K F a xs) (r : Rps K F xs ds) (h' : SqL K F b ys) (r' : Rps K F ys es) : IterOk K (Itz K a b) F (zipD ds es) := fun i H O hO s => by
  have s' : Same F H := s.trans hide_sub
  have hH := seqL s' h
  have hH' := seqL s' h'
  refine ⟨fun d e => ?_, fun l => ⟨xs, ys, hH, hH', by rw [r.length, r'.length]; exact zipD_len l⟩⟩
  obtain ⟨d1, d2, e1, e2, rfl⟩ := zipD_get e
  obtain ⟨v, h1, h2⟩ := r.get e1
  obtain ⟨v', h1', h2'⟩ := r'.get e2
  refine ⟨⟨xs, ys, v, v', hH, hH', h1, h1'⟩, fun x H' y => ?_⟩
  obtain ⟨T, x1, x2, rfl, hT, rfl, y1, y2⟩ := y
  have h3 := y1 xs hH
  have h4 := y2 ys hH'
  rw [h1] at h3
  rw [h1'] at h4
  cases h3
  cases h4
  exact ⟨same_new hT, new_rep hO hT (.cons (h2.mono s) (.cons (h2'.mono s) .nil))⟩
theorem iterZT {K : PySem.W.Frag} {F : Hp} {a b : Addr} {xs ys : List V} {ds es : List PyData} (h : SqT K F a xs) (r : Rps K F xs ds) (h' : SqT K F b ys) (r' : Rps K F ys es) : IterOk K (RZ.ItzT K a b) F (zipD ds es) := fun i H O hO s => by
  have s' : Same F H := s.trans hide_sub
  have hH := seqT s' h
  have hH' := seqT s' h'
  refine ⟨fun d e => ?_, fun l => ⟨xs, ys, hH, hH', by rw [r.length, r'.length]; exact zipD_len l⟩⟩
  obtain ⟨d1, d2, e1, e2, rfl⟩ := zipD_get e
  obtain ⟨v, h1, h2⟩ := r.get e1
  obtain ⟨v', h1', h2'⟩ := r'.get e2
  refine ⟨⟨xs, ys, v, v', hH, hH', h1, h1'⟩, fun x H' y => ?_⟩
  obtain ⟨T, x1, x2, rfl, hT, rfl, y1, y2⟩ := y
  have h3 := y1 xs hH
  have h4 := y2 ys hH'
  rw [h1] at h3
  rw [h1'] at h4
  cases h3
  cases h4
  exact ⟨same_new hT, new_rep hO hT (.cons (h2.mono s) (.cons (h2'.mono s) .nil))⟩
def iZipD (f : Vars → R (List PyData)) (ρ : Vars) : R (List PyData) := (f ρ).bind fun ds => match ds with
  | [.list xs, .list ys] => .ok (zipD xs ys)
  | [.tuple xs, .tuple ys] => .ok (zipD xs ys)
  | _ => .bad
theorem ix_zip {e e2 : Expr} {f : Vars → R (List PyData)} {p pos tpos : Pos} {elts : List Expr} {kk : Nat} (hg : Gl X "zip") (hm : X.mg "zip" = none) (ha : AX X W [e, e2] f)
    (hs : starEach [e, e2] X.env = (false, eval e X.env) :: starEach [e2] X.env := by rfl) (hpl : (backTo pos (starEach [e2] X.env)).any (·.1) = false := by rfl) : IX X W (.Tuple elts kk tpos) (.Call (.Name "zip" p) [e, e2] [] pos) (iZipD f) := by
  obtain ⟨t, q, ht⟩ := ha
  refine ⟨_, RZ.pi_zipA hg hm q hs hpl, fun σ H O ρ Q hO hv z => ht σ H O ρ _ hO hv ?_⟩
  unfold iZipD at z
  cases e : f ρ with
  | bad => rw [e] at z; exact z
  | err c => rw [e] at z; exact z
  | ok ds =>
    rw [e, R.bind_ok] at z
    have key : (∃ xs ys, ds = [.list xs, .list ys] ∧ ∀ J H', Same H H' → IterOk X.K J (hide O H') (zipD xs ys) → Q J H') ∨ (∃ xs ys, ds = [.tuple xs, .tuple ys] ∧ ∀ J H', Same H H' → IterOk X.K J (hide O H') (zipD xs ys) → Q J H') := by
      clear e
      split at z
      · rename_i q
        split at q
        · cases q; exact .inl ⟨_, _, rfl, z⟩
        · cases q; exact .inr ⟨_, _, rfl, z⟩
        · cases q
      · rename_i q
        split at q <;> cases q
      · exact z.elim
    intro vs H1 s1 r1
    rcases key with ⟨xs, ys, rfl, z⟩ | ⟨xs, ys, rfl, z⟩
    · obtain ⟨v, w, rfl, rv, rw'⟩ := rps_two r1
      cases rv with
      | lst hx rs => cases rw' with
        | lst hy rt => exact ⟨_, _, _, _, rfl, .inl ⟨seqL hide_sub hx, seqL hide_sub hy, z _ H1 s1 (iterZL hx rs hy rt)⟩⟩
    · obtain ⟨v, w, rfl, rv, rw'⟩ := rps_two r1
      cases rv with
      | tup hx rs => cases rw' with
        | tup hy rt => exact ⟨_, _, _, _, rfl, .inr ⟨seqT hide_sub hx, seqT hide_sub hy, z _ H1 s1 (iterZT hx rs hy rt)⟩⟩
end
end Pu
set_option Elab.async false
set_option linter.all false
set_option maxRecDepth 100000
set_option maxHeartbeats 4000000
namespace Pu
open PySem PySem.Spec PyProof.Rows L2
/-! ### comprehensions -/
def W0 : WX := fun _ _ _ _ => False
theorem takesBlk {X : Cx} : Takes X W0 := takes0
/-- the slots of the block's own names forgotten -/
def wipeD (ρ : Vars) : List Nat → Vars
  | [] => ρ
  | v :: vs => (wipeD ρ vs).set v none
theorem wipeD_length (ρ : Vars) : ∀ vs : List Nat, (wipeD ρ vs).length = ρ.length
  | [] => rfl
  | v :: vs => by unfold wipeD; rw [List.length_set, wipeD_length ρ vs]
theorem wipeD_some {ρ : Vars} {i : Nat} {d : PyData} : ∀ {vs : List Nat}, (wipeD ρ vs)[i]? = some (some d) → ρ[i]? = some (some d) ∧ i ∉ vs
  | [], h => ⟨h, by simp⟩
  | v :: vs, h => by
    unfold wipeD at h
    by_cases hi : v = i
    · subst hi
      by_cases hv : v < (wipeD ρ vs).length
      · rw [List.getElem?_set_self hv] at h; cases h
      · rw [List.getElem?_eq_none (by simpa using hv)] at h; cases h
    · rw [List.getElem?_set_ne hi] at h
      obtain ⟨h1, h2⟩ := wipeD_some h
      exact ⟨h1, by simp only [List.mem_cons, not_or]; exact ⟨fun e => hi e.symm, h2⟩⟩
theorem wipe_at {σ : L2.St} {i : Nat} : ∀ {vs : List Nat}, i ∉ vs → (wipe σ vs)[i]? = σ[i]?
  | [], _ => rfl
  | v :: vs, h => by
    simp only [List.mem_cons, not_or] at h
    unfold wipe
    rw [List.getElem?_set_ne (fun e => h.1 e.symm), wipe_at h.2]
theorem wipe_in {σ : L2.St} {i : Nat} : ∀ {vs : List Nat}, i ∈ vs → i < σ.length → (wipe σ vs)[i]? = some none
  | [], h, _ => absurd h (by simp)
  | v :: vs, h, hl => by
    unfold wipe
    by_cases c : v = i
    · subst c
      rw [List.getElem?_set_self (by rw [wipe_length]; exact hl)]
    · rw [List.getElem?_set_ne c]
      refine wipe_in ?_ hl
      rcases List.mem_cons.mp h with e | h
      · exact absurd e.symm c
      · exact h
theorem vrel_wipe {K : PySem.W.Frag} {F : Hp} {σ : L2.St} {ρ : Vars} {vs : List Nat} (h : VRel K F σ ρ) : VRel K F (wipe σ vs) (wipeD ρ vs) := ⟨by rw [wipe_length, wipeD_length]; exact h.len, fun i d e => by
  obtain ⟨h1, h2⟩ := wipeD_some e
  obtain ⟨v, h3, h4⟩ := h.get i d h1
  exact ⟨v, by rw [wipe_at h2]; exact h3, h4⟩⟩
theorem wipe_eq {σ σ' : L2.St} {js vs : List Nat} (hl : σ'.length = (wipe σ vs).length) (h : ∀ j : Nat, j ∉ js → σ'[j]? = (wipe σ vs)[j]?) (hs : ∀ j ∈ js, j ∈ vs) : wipe σ' vs = wipe σ vs := by
  apply List.ext_getElem?
  intro i
  rw [wipe_length] at hl
  by_cases hi : i ∈ vs
  · by_cases c : i < σ.length
    · rw [wipe_in hi c, wipe_in hi (by omega)]
    · rw [List.getElem?_eq_none (by rw [wipe_length]; omega), List.getElem?_eq_none (by rw [wipe_length]; omega)]
  · rw [wipe_at hi, h i fun z => hi (hs i z)]
/-- the elements that a comprehension makes of the items -/
def lcL (gt : PyData → Vars → Option Vars) (tt : Vars → R Bool) (f : Vars → R PyData) (ρ : Vars) : List PyData → R (List PyData)
  | [] => .ok []
  | d :: ds => match gt d ρ with
    | none => .bad
    | some ρ' => (tt ρ').bind fun b => if b = true then (f ρ').bind fun y => (lcL gt tt f ρ ds).bind fun ys => .ok (y :: ys) else lcL gt tt f ρ ds
def nLc (fi : Vars → R (List PyData)) (gt : PyData → Vars → Option Vars) (tt : Vars → R Bool) (f : Vars → R PyData) (vs : List Nat) (ρ : Vars) : R (List PyData) :=
  (fi ρ).bind fun ds => match lcL gt tt f (wipeD ρ vs) ds with
    | .ok ys => if ys.length < sizeLine then .ok ys else .bad
    | _ => .bad
def eLc (fi : Vars → R (List PyData)) (gt : PyData → Vars → Option Vars) (tt : Vars → R Bool) (f : Vars → R PyData) (vs : List Nat) (ρ : Vars) : R PyData := (nLc fi gt tt f vs ρ).bind fun ys => .ok (.list ys)
/-- a new list: its items -/
def NOut (X : Cx) (W : WX) (O : List Addr) (σ : L2.St) (H : Hp) (Q : VK) : R (List PyData) → Prop
  | .ok ds => ∀ p vs H', Same H H' → H p = none → H' p = some (.lst vs) → Rps X.K (hide (p :: O) H') vs ds → Q (.ref p) H'
  | .err c => ∀ H', Same H H' → W (exV X.mg c) none σ H'
  | .bad => False
def tYesD (_ : Vars) : R Bool := .ok true
def TsX (X : Cx) (W : WX) (ifs : List Expr) (f : Vars → R Bool) : Prop :=
  ∃ t, PTs X ifs t ∧ ∀ σ H O ρ Q, Stands O H → VRel X.K (hide O H) σ ρ → TOut X W σ H Q (f ρ) → t σ H Q
section
variable {X : Cx} {W : WX}
theorem TsX.pts {ifs : List Expr} {f : Vars → R Bool} (h : TsX X W ifs f) : PTs X ifs (tT X W f) := by
  obtain ⟨t, p, ht⟩ := h
  exact ⟨fun pins s σ H Q I ⟨O, ρ, h1, h2, h3⟩ => p.run pins s σ H Q I (ht σ H O ρ Q h1 h2 h3)⟩
theorem tsx_nil : TsX X W [] tYesD := ⟨_, pts_nil, fun σ H O ρ Q _ _ q => q H (Same.refl H)⟩
theorem tsx_one {c : Expr} {f : Vars → R Bool} (h : TX X W c f) : TsX X W [c] f := by
  obtain ⟨t, p, ht⟩ := h
  exact ⟨_, pts_one p, ht⟩
end
section
variable {X : Cx} {W : WX}
/-- the new list's reading: Q is asked at each new list whose items stand for the data -/
theorem lc_run {wi : TI} {vs js : List Nat} {fi : Vars → R (List PyData)} {gt : PyData → Vars → Option Vars} {ft : Vars → R Bool} {f : Vars → R PyData}
    (hi : ∀ σ H O ρ (Q : It → Hp → Prop), Stands O H → VRel X.K (hide O H) σ ρ → (match fi ρ with
      | .ok ds => ∀ J H', Same H H' → IterOk X.K J (hide O H') ds → Q J H'
      | .err c => ∀ H', Same H H' → W (exV X.mg c) none σ H'
      | .bad => False) → wi σ H Q)
    (hjs : ∀ j ∈ js, j ∈ vs) {σ : L2.St} {H : Hp} {O : List Addr} {ρ : Vars} {Q : VK} (hO : Stands O H) (hv : VRel X.K (hide O H) σ ρ)
    (z : NOut X W O σ H Q (nLc fi gt ft f vs ρ)) : tLc wi (tG X js gt) (tT X W0 ft) (tE X W0 f) vs σ H Q := by
  refine hi σ H O ρ _ hO hv ?_
  unfold nLc at z
  cases e : fi ρ with
  | bad => rw [e] at z; exact z
  | err c => rw [e] at z; exact z
  | ok ds =>
    rw [e, R.bind_ok] at z
    intro J H1 s1 hJ D hD
    cases e2 : lcL gt ft f (wipeD ρ vs) ds with
    | bad => rw [e2] at z; exact z.elim
    | err c => rw [e2] at z; exact z.elim
    | ok ys =>
      rw [e2] at z
      dsimp only at z
      by_cases hsz : ys.length < sizeLine
      case neg => rw [if_neg hsz] at z; exact z.elim
      rw [if_pos hsz] at z
      have hO1 := hO.same s1
      have hDO : D ∉ O := hO1.new hD
      have hHD : H D = none := s1.free hD
      -- the invariant
      refine ⟨fun i m H2 => m = ds.length - i ∧ i ≤ ds.length ∧ Same (hide O H1) (hide (D :: O) H2) ∧ Same H1 (fun a => if a = D then none else H2 a) ∧ ∃ acc as rest, H2 D = some (.lst acc) ∧ Rps X.K (hide (D :: O) H2) acc as ∧ lcL gt ft f (wipeD ρ vs) (ds.drop i) = .ok rest ∧ as ++ rest = ys, ⟨ds.length, rfl, Nat.zero_le _, fun a o h => ?_, fun a o h => ?_, [], [], ys, upd_same, .nil, by rw [List.drop_zero]; exact e2, rfl⟩, ?_⟩
      · obtain ⟨c, q⟩ := hide_some h
        have n : a ≠ D := ne_of_none q hD
        refine hide_of (fun zz => ?_) (by rw [upd_ne n]; exact q)
        rcases List.mem_cons.mp zz with r | r
        · exact n r
        · exact c r
      · have n : a ≠ D := ne_of_none h hD
        show (if a = D then none else upd H1 D (.lst []) a) = some o
        rw [if_neg n, upd_ne n]; exact h
      rintro i m H2 ⟨rfl, hle, sF, sH, acc, as, rest, hD2, rAcc, eRest, eYs⟩
      have hO2 : Stands (D :: O) H2 := fun a ha => by
        rcases List.mem_cons.mp ha with r | r
        · rw [r, hD2]; exact fun z => nomatch z
        · have n : a ≠ D := fun z => hDO (z ▸ r)
          cases q : H1 a with
          | none => exact absurd q (hO1 a r)
          | some o =>
            have := sH a o q
            rw [show (fun a => if a = D then none else H2 a) a = H2 a from if_neg n] at this
            rw [this]; exact fun z => nomatch z
      obtain ⟨j1, j2⟩ := hJ i H2 (D :: O) hO2 sF
      have s12 : Same H1 H2 := fun a o h => by
        have n : a ≠ D := ne_of_none h hD
        have := sH a o h
        rw [show (fun a => if a = D then none else H2 a) a = H2 a from if_neg n] at this
        exact this
      by_cases hlt : i < ds.length
      · have hd : ds[i]? = some ds[i] := List.getElem?_eq_getElem hlt
        obtain ⟨g1, g2⟩ := j1 _ hd
        have hdrop : ds.drop i = ds[i] :: ds.drop (i + 1) := List.drop_eq_getElem_cons hlt
        rw [hdrop] at eRest
        unfold lcL at eRest
        cases eg : gt ds[i] (wipeD ρ vs) with
        | none => rw [eg] at eRest; cases eRest
        | some ρ1 =>
          rw [eg] at eRest
          dsimp only at eRest
          refine .inr ⟨g1, fun H' => (i + 1 ≤ ds.length ∧ Same (hide O H1) (hide (D :: O) H') ∧ Same H1 (fun a => if a = D then none else H' a) ∧ ∃ acc as rest, H' D = some (.lst acc) ∧ Rps X.K (hide (D :: O) H') acc as ∧ lcL gt ft f (wipeD ρ vs) (ds.drop (i + 1)) = .ok rest ∧ as ++ rest = ys),
            fun H' hn => ⟨ds.length - (i + 1), by omega, rfl, hn.1, hn.2⟩, fun x H3 y => ?_⟩
          obtain ⟨s23, rx⟩ := g2 x H3 y
          have hO3 := hO2.same s23
          have v2 : VRel X.K (hide (D :: O) H3) (wipe σ vs) (wipeD ρ vs) := by
            exact (vrel_wipe (hv.mono (hide_same s1))).mono (sF.trans (hide_same s23))
          have nx : ∀ (H' : Hp) (acc' : List V) (as' rest' : List PyData), Same H3 H' ∨ (∃ H5, Same H3 H5 ∧ H' = upd H5 D (.lst acc')) → H' D = some (.lst acc') → Rps X.K (hide (D :: O) H') acc' as' → lcL gt ft f (wipeD ρ vs) (ds.drop (i + 1)) = .ok rest' → as' ++ rest' = ys →
              i + 1 ≤ ds.length ∧ Same (hide O H1) (hide (D :: O) H') ∧ Same H1 (fun a => if a = D then none else H' a) ∧ ∃ acc as rest, H' D = some (.lst acc) ∧ Rps X.K (hide (D :: O) H') acc as ∧ lcL gt ft f (wipeD ρ vs) (ds.drop (i + 1)) = .ok rest ∧ as ++ rest = ys := fun H' acc' as' rest' hs hD' rr el ey => by
            have tr : ∀ a o, a ≠ D → H3 a = some o → H' a = some o := fun a o n h => by
              rcases hs with hs | ⟨H5, hs, rfl⟩
              · exact hs a o h
              · rw [upd_ne n]; exact hs a o h
            refine ⟨hlt, fun a o h => ?_, fun a o h => ?_, acc', as', rest', hD', rr, el, ey⟩
            · obtain ⟨c, q⟩ := hide_some (sF a o h)
              exact hide_of c (tr a o (fun z => c (by simp [z])) (s23 a o q))
            · have n : a ≠ D := ne_of_none h hD
              show (if a = D then none else H' a) = some o
              rw [if_neg n]
              exact tr a o n (s23 a o (s12 a o h))
          refine ⟨ds[i], D :: O, _, ρ1, hO3, v2, rx, eg, fun σ3 v3 m3 f3 => ⟨wipe_eq m3 (fun j hj => (f3 j hj).1) hjs, ?_⟩⟩
          refine ⟨D :: O, ρ1, hO3, v3, ?_⟩
          cases et : ft ρ1 with
          | bad => rw [et] at eRest; cases eRest
          | err c => rw [et] at eRest; cases eRest
          | ok b =>
            rw [et, R.bind_ok] at eRest
            intro H4 s34
            cases b with
            | false =>
              simp only [Bool.false_eq_true, if_false] at eRest ⊢
              exact nx H4 acc as rest (.inl s34) (s34 _ _ (s23 _ _ hD2)) (rAcc.mono (hide_same (s23.trans s34))) eRest eYs
            | true =>
              simp only [if_true] at eRest ⊢
              refine ⟨D :: O, ρ1, hO3.same s34, v3.mono (hide_same s34), ?_⟩
              cases ef : f ρ1 with
              | bad => rw [ef] at eRest; cases eRest
              | err c => rw [ef] at eRest; cases eRest
              | ok yv =>
                rw [ef, R.bind_ok] at eRest
                obtain ⟨rr, el⟩ : ∃ rr, lcL gt ft f (wipeD ρ vs) (ds.drop (i + 1)) = rr := ⟨_, rfl⟩
                cases rr with
                | bad => rw [el] at eRest; cases eRest
                | err c => rw [el] at eRest; cases eRest
                | ok rest' =>
                  rw [el, R.bind_ok] at eRest
                  have er : yv :: rest' = rest := R.ok.inj eRest
                  subst er
                  intro v H5 s45 rv
                  have s25 := (s23.trans s34).trans s45
                  refine ⟨acc, s25 _ _ hD2, ?_, ?_⟩
                  · have l1 := rAcc.length
                    rw [← eYs, List.length_append, List.length_cons] at hsz
                    omega
                  · have hid : ∀ o', hide (D :: O) (upd H5 D o') = hide (D :: O) H5 := fun o' => by
                      funext a
                      unfold hide
                      by_cases c : a ∈ D :: O
                      · rw [if_pos c, if_pos c]
                      · rw [if_neg c, if_neg c, upd_ne (fun z => c (by simp [z]))]
                    refine nx _ (acc ++ [v]) (as ++ [yv]) rest' (.inr ⟨H5, s34.trans s45, rfl⟩) upd_same ?_ el (by rw [List.append_assoc]; exact eYs)
                    rw [hid]
                    exact (rAcc.mono (hide_same s25)).append (.cons rv .nil)
      · have e3 : i = ds.length := by omega
        subst e3
        refine .inl ⟨j2 (Nat.le_refl _), ?_⟩
        rw [List.drop_length] at eRest
        cases eRest
        rw [List.append_nil] at eYs
        subst eYs
        exact z D acc H2 (s1.trans s12) hHD hD2 rAcc
theorem rps_less {K : PySem.W.Frag} {H : Hp} {p : Addr} {O : List Addr} {xs : List V} {ys : List PyData} (h : Rps K (hide (p :: O) H) xs ys) : Rps K (hide O H) xs ys := h.mono (hide_less fun a ha => List.mem_cons_of_mem _ ha)
section
variable {elt tg iter : Expr} {ifs : List Expr} {scope : Scope} {own : List (Str × Nat)} {pos : Pos} {js : List Nat} {fi : Vars → R (List PyData)} {gt : PyData → Vars → Option Vars} {ft : Vars → R Bool} {f : Vars → R PyData}
theorem pe_lcD (hc : X.calm = true) (hN : X.N.Nodup) (hi : IX X W tg iter fi) (ok : BlkOk X.N X.env.scope scope own)
    (hg : ∀ (s : Shared) (H : Hp) (C : Addr) (cl : List (Str × Addr)) (fp : List Addr), GX (X.blk s H scope (compEnvC scope cl C X.env) fp) tg js gt) (ht : ∀ (s : Shared) (H : Hp) (C : Addr) (cl : List (Str × Addr)) (fp : List Addr), TsX (X.blk s H scope (compEnvC scope cl C X.env) fp) W0 ifs ft)
    (he : ∀ (s : Shared) (H : Hp) (C : Addr) (cl : List (Str × Addr)) (fp : List Addr), EX (X.blk s H scope (compEnvC scope cl C X.env) fp) W0 elt f) (hs : ∀ x, foldedSetIterable iter X.env x = pure x := by intro _; rfl) :
    ∃ wi : TI, PE X (.ListComp elt [⟨tg, iter, ifs, 0⟩] scope pos) (tLc wi (tG X js gt) (tT X W0 ft) (tE X W0 f) (own.map (·.2))) ∧ ∀ σ H O ρ (Q : It → Hp → Prop), Stands O H → VRel X.K (hide O H) σ ρ → (match fi ρ with
      | .ok ds => ∀ J H', Same H H' → IterOk X.K J (hide O H') ds → Q J H'
      | .err c => ∀ H', Same H H' → W (exV X.mg c) none σ H'
      | .bad => False) → wi σ H Q := by
  obtain ⟨wi, p, hwi⟩ := hi
  exact ⟨wi, pe_lc hc hN p ok (fun s H C cl fp => (hg s H C cl fp).pg) (fun s H C cl fp => (ht s H C cl fp).pts) (fun s H C cl fp => (he s H C cl fp).pe) hs, hwi⟩
theorem eLc_to {vs : List Nat} {σ : L2.St} {H : Hp} {O : List Addr} {ρ : Vars} {Q : VK} (hO : Stands O H) (z : EOut X W O σ H Q (eLc fi gt ft f vs ρ)) : NOut X W O σ H Q (nLc fi gt ft f vs ρ) := by
  unfold eLc at z
  cases e : nLc fi gt ft f vs ρ with
  | bad => rw [e] at z; exact z
  | err c => rw [e] at z; exact z
  | ok ys =>
    rw [e, R.bind_ok] at z
    exact fun p xs H' s hp h' r => z _ H' s (.lst (.inl (.inl (hide_of (hO.new hp) h'))) (rps_less r))
theorem ex_lc (hc : X.calm = true) (hN : X.N.Nodup) (hi : IX X W tg iter fi) (ok : BlkOk X.N X.env.scope scope own)
    (hg : ∀ (s : Shared) (H : Hp) (C : Addr) (cl : List (Str × Addr)) (fp : List Addr), GX (X.blk s H scope (compEnvC scope cl C X.env) fp) tg js gt) (ht : ∀ (s : Shared) (H : Hp) (C : Addr) (cl : List (Str × Addr)) (fp : List Addr), TsX (X.blk s H scope (compEnvC scope cl C X.env) fp) W0 ifs ft)
    (he : ∀ (s : Shared) (H : Hp) (C : Addr) (cl : List (Str × Addr)) (fp : List Addr), EX (X.blk s H scope (compEnvC scope cl C X.env) fp) W0 elt f) (hjs : (js.all fun j => (own.map (·.2)).contains j) = true) (hs : ∀ x, foldedSetIterable iter X.env x = pure x := by intro _; rfl) :
    EX X W (.ListComp elt [⟨tg, iter, ifs, 0⟩] scope pos) (eLc fi gt ft f (own.map (·.2))) := by
  obtain ⟨wi, p, hwi⟩ := pe_lcD (pos := pos) hc hN hi ok hg ht he hs
  have hj : ∀ j ∈ js, j ∈ own.map (·.2) := fun j h => by simpa using List.all_eq_true.mp hjs j h
  exact ⟨_, p, fun σ H O ρ Q hO hv z => lc_run hwi hj hO hv (eLc_to hO z)⟩
end
end
end Pu
set_option Elab.async false
set_option linter.all false
set_option maxRecDepth 100000
set_option maxHeartbeats 4000000
namespace Pu
open PySem PySem.Spec PyProof.Rows L2
/-! ### statements -/
inductive Out where
  | nx (ρ : Vars) | rt (d : PyData) | bk (ρ : Vars) | ct (ρ : Vars) | err (c : Str) (ρ : Vars) | bad
def Out.then (o : Out) (f : Vars → Out) : Out := match o with
  | .nx ρ => f ρ
  | .rt d => .rt d
  | .bk ρ => .bk ρ
  | .ct ρ => .ct ρ
  | .err c ρ => .err c ρ
  | .bad => .bad
@[simp] theorem Out.then_nx (ρ : Vars) (f : Vars → Out) : (Out.nx ρ).then f = f ρ := rfl
@[simp] theorem Out.then_rt (d : PyData) (f : Vars → Out) : (Out.rt d).then f = .rt d := rfl
@[simp] theorem Out.then_bk (ρ : Vars) (f : Vars → Out) : (Out.bk ρ).then f = .bk ρ := rfl
@[simp] theorem Out.then_ct (ρ : Vars) (f : Vars → Out) : (Out.ct ρ).then f = .ct ρ := rfl
@[simp] theorem Out.then_err (c : Str) (ρ : Vars) (f : Vars → Out) : (Out.err c ρ).then f = .err c ρ := rfl
@[simp] theorem Out.then_bad (f : Vars → Out) : Out.bad.then f = .bad := rfl
/-- an expression's answer goes on -/
def R.run {α : Type} (r : R α) (ρ : Vars) (k : α → Out) : Out := match r with
  | .ok a => k a
  | .err c => .err c ρ
  | .bad => .bad
@[simp] theorem R.run_ok {α : Type} (a : α) (ρ : Vars) (k : α → Out) : (R.ok a).run ρ k = k a := rfl
@[simp] theorem R.run_err {α : Type} (c : Str) (ρ : Vars) (k : α → Out) : (R.err c : R α).run ρ k = .err c ρ := rfl
@[simp] theorem R.run_bad {α : Type} (ρ : Vars) (k : α → Out) : (R.bad : R α).run ρ k = .bad := rfl
/-- a body's state. own: the slots of lists that are changed here; O0: what is hidden from the def; O: and those lists -/
structure Rel (K : PySem.W.Frag) (own : List Nat) (H0 : Hp) (O0 O : List Addr) (σ : L2.St) (H : Hp) (ρ : Vars) : Prop where
  same : Same H0 H
  st0 : Stands O0 H0
  len : σ.length = ρ.length
  sub : ∀ a ∈ O0, a ∈ O
  lists : ∀ a ∈ O, a ∈ O0 ∨ (H0 a = none ∧ ∃ xs, H a = some (.lst xs))
  free : ∀ (i : Nat) (d : PyData), i ∉ own → ρ[i]? = some (some d) → ∃ v, σ[i]? = some (some v) ∧ Rp K (hide O H) v d
  mine : ∀ (i : Nat) (d : PyData), i ∈ own → ρ[i]? = some (some d) → ∃ a vs ds, d = .list ds ∧ σ[i]? = some (some (.ref a)) ∧ a ∈ O ∧ H0 a = none ∧ H a = some (.lst vs) ∧ Rps K (hide O H) vs ds
  apart : ∀ (i j : Nat) (d e : PyData) (a : Addr), i ∈ own → j ∈ own → ρ[i]? = some (some d) → ρ[j]? = some (some e) → σ[i]? = some (some (.ref a)) → σ[j]? = some (some (.ref a)) → i = j
section
variable {K : PySem.W.Frag} {own : List Nat} {H0 : Hp} {O0 O : List Addr} {σ : L2.St} {H H' : Hp} {ρ : Vars}
theorem Rel.notO0 (r : Rel K own H0 O0 O σ H ρ) {a : Addr} (h : H0 a = none) : a ∉ O0 := fun z => r.st0 a z h
theorem Rel.stands0 (r : Rel K own H0 O0 O σ H ρ) : Stands O0 H := r.st0.same r.same
theorem Rel.stands (r : Rel K own H0 O0 O σ H ρ) : Stands O H := fun a ha => by
  rcases r.lists a ha with h | ⟨_, xs, h⟩
  · exact r.stands0 a h
  · rw [h]; exact fun z => nomatch z
/-- every variable may be read: the own lists are shown -/
theorem Rel.vrel0 (r : Rel K own H0 O0 O σ H ρ) : VRel K (hide O0 H) σ ρ := ⟨r.len, fun i d e => by
  by_cases c : i ∈ own
  · obtain ⟨a, vs, ds, rfl, h1, _, h3, h4, h5⟩ := r.mine i d c e
    exact ⟨.ref a, h1, .lst (.inl (.inl (hide_of (r.notO0 h3) h4))) (h5.mono (hide_less r.sub))⟩
  · obtain ⟨v, h1, h2⟩ := r.free i d c e
    exact ⟨v, h1, h2.mono (hide_less r.sub)⟩⟩
theorem Rel.vrel (r : Rel K [] H0 O0 O σ H ρ) : VRel K (hide O H) σ ρ := ⟨r.len, fun i d e => r.free i d (by simp) e⟩
theorem Rel.step (r : Rel K own H0 O0 O σ H ρ) (s : Same H H') : Rel K own H0 O0 O σ H' ρ where
  same := r.same.trans s
  st0 := r.st0
  len := r.len
  sub := r.sub
  lists := fun a ha => (r.lists a ha).imp id fun ⟨h1, xs, h2⟩ => ⟨h1, xs, s _ _ h2⟩
  free := fun i d c e => by
    obtain ⟨v, h1, h2⟩ := r.free i d c e
    exact ⟨v, h1, h2.mono (hide_same s)⟩
  mine := fun i d c e => by
    obtain ⟨a, vs, ds, h0, h1, h2, h3, h4, h5⟩ := r.mine i d c e
    exact ⟨a, vs, ds, h0, h1, h2, h3, s _ _ h4, h5.mono (hide_same s)⟩
  apart := r.apart
/-- data without lists stand for themselves whatever is hidden -/
theorem Rel.imm (r : Rel K own H0 O0 O σ H ρ) {v : V} {d : PyData} (h : Rp K (hide O0 H) v d) (e : imm d = true) : Rp K (hide O H) v d :=
  h.imm (fun a xs q => by
    rcases q with (q | ⟨o, q⟩) | q
    · obtain ⟨c, q⟩ := hide_some q
      refine .inl (.inl (hide_of (fun z => ?_) q))
      rcases r.lists a z with h | ⟨_, ys, h⟩
      · exact c h
      · rw [q] at h; cases h
    · obtain ⟨c, q⟩ := hide_some q
      refine .inl (.inr ⟨o, hide_of (fun z => ?_) q⟩)
      rcases r.lists a z with h | ⟨_, ys, h⟩
      · exact c h
      · rw [q] at h; cases h
    · exact .inr q) e
/-- a slot of no own list is set -/
theorem Rel.set (r : Rel K own H0 O0 O σ H ρ) {i : Nat} {v : V} {d : PyData} (c : i ∉ own) (h : Rp K (hide O H) v d) : Rel K own H0 O0 O (σ.set i (some v)) H (ρ.set i (some d)) where
  same := r.same
  st0 := r.st0
  len := by simpa using r.len
  sub := r.sub
  lists := r.lists
  free := fun j e cj q => by
    have hl := r.len
    by_cases z : i = j
    · subst z
      by_cases hi : i < ρ.length
      · rw [List.getElem?_set_self hi] at q
        cases q
        exact ⟨v, List.getElem?_set_self (by omega), h⟩
      · rw [List.getElem?_eq_none (by simpa using hi)] at q; cases q
    · rw [List.getElem?_set_ne z] at q
      rw [List.getElem?_set_ne z]
      exact r.free j e cj q
  mine := fun j e cj q => by
    have z : i ≠ j := fun z => c (z ▸ cj)
    rw [List.getElem?_set_ne z] at q
    rw [List.getElem?_set_ne z]
    exact r.mine j e cj q
  apart := fun j k d e a cj ck q1 q2 e1 e2 => by
    have z : i ≠ j := fun z => c (z ▸ cj)
    have z2 : i ≠ k := fun z => c (z ▸ ck)
    rw [List.getElem?_set_ne z] at q1 e1
    rw [List.getElem?_set_ne z2] at q2 e2
    exact r.apart j k d e a cj ck q1 q2 e1 e2
/-- the other variables -/
theorem Rel.vrelM (r : Rel K own H0 O0 O σ H ρ) : VRel K (hide O H) σ (mask own ρ) := ⟨by unfold mask; rw [maskF_len]; exact r.len, fun i d e => by
  obtain ⟨c, q⟩ := mask_some e
  exact r.free i d c q⟩
/-- slots of no own list are changed -/
theorem Rel.other (r : Rel K own H0 O0 O σ H ρ) {σ' : L2.St} {ρ' : Vars} {js : List Nat} (hj : ∀ j ∈ js, j ∉ own) (hl : σ'.length = σ.length) (v : VRel K (hide O H) σ' (mask own ρ')) (f : ∀ j : Nat, j ∉ js → σ'[j]? = σ[j]? ∧ (mask own ρ')[j]? = (mask own ρ)[j]?) (f2 : ∀ j ∈ own, ρ'[j]? = ρ[j]?) : Rel K own H0 O0 O σ' H ρ' where
  same := r.same
  st0 := r.st0
  len := by have := v.len; unfold mask at this; rw [maskF_len] at this; exact this
  sub := r.sub
  lists := r.lists
  free := fun i d c e => v.get i d (mask_of c e)
  mine := fun i d c e => by
    have nj : i ∉ js := fun z => hj i z c
    rw [f2 i c] at e
    rw [(f i nj).1]
    exact r.mine i d c e
  apart := fun i j d e a ci cj q1 q2 e1 e2 => by
    have ni : i ∉ js := fun z => hj i z ci
    have nj : j ∉ js := fun z => hj j z cj
    rw [f2 i ci] at q1
    rw [f2 j cj] at q2
    rw [(f i ni).1] at e1
    rw [(f j nj).1] at e2
    exact r.apart i j d e a ci cj q1 q2 e1 e2
/-- an own list is from now on a list like others -/
theorem Rel.freeze (r : Rel K own H0 O0 O σ H ρ) {own' : List Nat} (h : ∀ i ∈ own', i ∈ own) : ∃ O', Rel K own' H0 O0 O' σ H ρ ∧ Same (hide O H) (hide O' H) := by
  classical
  let P : Addr → Prop := fun a => a ∈ O0 ∨ ∃ i ∈ own', σ[i]? = some (some (V.ref a)) ∧ ∃ d, ρ[i]? = some (some d)
  have hm : ∀ a, a ∈ O.filter (fun a => decide (P a)) ↔ a ∈ O ∧ P a := fun a => by simp [List.mem_filter]
  have sF : Same (hide O H) (hide (O.filter fun a => decide (P a)) H) := hide_less fun a ha => ((hm a).mp ha).1
  refine ⟨O.filter fun a => decide (P a), ⟨r.same, r.st0, r.len, fun a ha => (hm a).mpr ⟨r.sub a ha, .inl ha⟩, fun a ha => r.lists a ((hm a).mp ha).1, fun i d c e => ?_, fun i d c e => ?_, fun i j d e a ci cj => r.apart i j d e a (h i ci) (h j cj)⟩, sF⟩
  · by_cases ci : i ∈ own
    · obtain ⟨a, vs, ds, rfl, h1, h2, h3, h4, h5⟩ := r.mine i d ci e
      refine ⟨.ref a, h1, .lst (.inl (.inl (hide_of (fun z => ?_) h4))) (h5.mono sF)⟩
      rcases ((hm a).mp z).2 with z | ⟨j, hj, e1, d', e2⟩
      · exact r.notO0 h3 z
      · exact c (r.apart i j _ _ a ci (h j hj) e e2 h1 e1 ▸ hj)
    · obtain ⟨v, h1, h2⟩ := r.free i d ci e
      exact ⟨v, h1, h2.mono sF⟩
  · obtain ⟨a, vs, ds, h0, h1, h2, h3, h4, h5⟩ := r.mine i d (h i c) e
    exact ⟨a, vs, ds, h0, h1, (hm a).mpr ⟨h2, .inr ⟨i, c, h1, d, e⟩⟩, h3, h4, h5.mono sF⟩
end
/-! ### the judgement -/
section
variable (X : Cx) (W : WX) (own : List Nat)
def SOut (H0 : Hp) (O0 O : List Addr) (H : Hp) (D : Ends) : Out → Prop
  | .nx ρ => ∀ σ' H' O', Rel X.K own H0 O0 O' σ' H' ρ → Same (hide O H) (hide O' H') → D.nx σ' H'
  | .rt d => ∀ v H', Same H0 H' → Rp X.K (hide O0 H') v d → D.rt v H'
  | .bk ρ => ∀ σ' H' O', Rel X.K own H0 O0 O' σ' H' ρ → Same (hide O H) (hide O' H') → D.bk σ' H'
  | .ct ρ => ∀ σ' H' O', Rel X.K own H0 O0 O' σ' H' ρ → Same (hide O H) (hide O' H') → D.ct σ' H'
  | .err c ρ => ∀ σ' H' O', Rel X.K own H0 O0 O' σ' H' ρ → Same (hide O H) (hide O' H') → W (exV X.mg c) none σ' H'
  | .bad => False
def tS (g : Vars → Out) : TS := fun D σ H => ∃ H0 O0 O ρ, Rel X.K own H0 O0 O σ H ρ ∧ SOut X W own H0 O0 O H D (g ρ)
def SX (st : Stmt) (g : Vars → Out) : Prop :=
  ∃ t, PS X st t ∧ ∀ σ H ρ D H0 O0 O, Rel X.K own H0 O0 O σ H ρ → SOut X W own H0 O0 O H D (g ρ) → t D σ H
def SsX (sts : List Stmt) (g : Vars → Out) : Prop :=
  ∃ t, PSs X sts t ∧ ∀ σ H ρ D H0 O0 O, Rel X.K own H0 O0 O σ H ρ → SOut X W own H0 O0 O H D (g ρ) → t D σ H
end
section
variable {X : Cx} {W : WX} {own : List Nat}
theorem SsX.pss {sts : List Stmt} {g : Vars → Out} (h : SsX X W own sts g) : PSs X sts (tS X W own g) := by
  obtain ⟨t, p, ht⟩ := h
  exact ⟨fun pins s σ H D I ⟨H0, O0, O, ρ, h1, h2⟩ => p.run pins s σ H D I (ht σ H ρ D H0 O0 O h1 h2)⟩
theorem SOut.from {H0 : Hp} {O0 O O' : List Addr} {H H' : Hp} {D : Ends} {o : Out} (h : SOut X W own H0 O0 O H D o) (s : Same (hide O H) (hide O' H')) : SOut X W own H0 O0 O' H' D o := by
  cases o with
  | nx ρ => exact fun σ' H'' O'' r s' => h σ' H'' O'' r (s.trans s')
  | rt d => exact h
  | bk ρ => exact fun σ' H'' O'' r s' => h σ' H'' O'' r (s.trans s')
  | ct ρ => exact fun σ' H'' O'' r s' => h σ' H'' O'' r (s.trans s')
  | err c ρ => exact fun σ' H'' O'' r s' => h σ' H'' O'' r (s.trans s')
  | bad => exact h
/-- what is wanted at an expression's end, from what is wanted of the statement -/
theorem EOut.run {f : R PyData} {k : PyData → Out} {O : List Addr} {H0 : Hp} {O0 O1 : List Addr} {σ : L2.St} {H : Hp} {ρ : Vars} {D : Ends} {Q : VK} (r : Rel X.K own H0 O0 O1 σ H ρ) (z : SOut X W own H0 O0 O1 H D (f.run ρ k))
    (q : ∀ d v H', Same H H' → Rp X.K (hide O H') v d → SOut X W own H0 O0 O1 H' D (k d) → Rel X.K own H0 O0 O1 σ H' ρ → Q v H') : EOut X W O σ H Q f := by
  cases f with
  | ok d => exact fun v H' s rv => q d v H' s rv (SOut.from z (hide_same s)) (r.step s)
  | err c => exact fun H' s => z σ H' O1 (r.step s) (hide_same s)
  | bad => exact z
theorem TOut.run {f : R Bool} {k : Bool → Out} {H0 : Hp} {O0 O1 : List Addr} {σ : L2.St} {H : Hp} {ρ : Vars} {D : Ends} {Q : Bool → Hp → Prop} (r : Rel X.K own H0 O0 O1 σ H ρ) (z : SOut X W own H0 O0 O1 H D (f.run ρ k))
    (q : ∀ d H', Same H H' → SOut X W own H0 O0 O1 H' D (k d) → Rel X.K own H0 O0 O1 σ H' ρ → Q d H') : TOut X W σ H Q f := by
  cases f with
  | ok d => exact fun H' s => q d H' s (SOut.from z (hide_same s)) (r.step s)
  | err c => exact fun H' s => z σ H' O1 (r.step s) (hide_same s)
  | bad => exact z
/-! blocks -/
def sNil (ρ : Vars) : Out := .nx ρ
def sSeq (g h : Vars → Out) (ρ : Vars) : Out := (g ρ).then h
theorem ssx_nil : SsX X W own [] sNil := ⟨_, pss_nil, fun σ H ρ D H0 O0 O r z => z σ H O r (Same.refl _)⟩
theorem ssx_cons {st : Stmt} {rest : List Stmt} {g h : Vars → Out} (a : SX X W own st g) (b : SsX X W own rest h) : SsX X W own (st :: rest) (sSeq g h) := by
  obtain ⟨t, p, ht⟩ := a
  obtain ⟨u, q, hu⟩ := b
  refine ⟨_, pss_cons p q, fun σ H ρ D H0 O0 O r z => ht σ H ρ _ H0 O0 O r ?_⟩
  unfold sSeq at z
  cases e : g ρ with
  | nx ρ1 => rw [e] at z; exact fun σ1 H1 O1 r1 s1 => hu σ1 H1 ρ1 D H0 O0 O1 r1 (SOut.from z s1)
  | rt d => rw [e] at z; exact z
  | bk ρ1 => rw [e] at z; exact z
  | ct ρ1 => rw [e] at z; exact z
  | err c ρ1 => rw [e] at z; exact z
  | bad => rw [e] at z; exact z
theorem ssx_one {st : Stmt} {g : Vars → Out} (a : SX X W own st g) : SsX X W own [st] g := by
  obtain ⟨t, p, ht⟩ := a
  exact ⟨_, pss_one p, ht⟩
/-! small statements -/
def sRet (f : Vars → R PyData) (ρ : Vars) : Out := (f ρ).run ρ fun d => .rt d
theorem sx_ret {e : Expr} {f : Vars → R PyData} {pos : Pos} (h : EX X W e f) : SX X W own (.Return (some e) pos) (sRet f) := by
  obtain ⟨t, p, ht⟩ := h
  exact ⟨_, ps_ret p, fun σ H ρ D H0 O0 O r z => ht σ H O0 ρ _ r.stands0 r.vrel0 (EOut.run r z fun d v H' s rv z' r' => z' v H' r'.same rv)⟩
def sRetN (_ : Vars) : Out := .rt .none
theorem sx_retN {pos : Pos} : SX X W own (.Return none pos) sRetN := ⟨_, ps_retN, fun σ H ρ D H0 O0 O r z => z .non H r.same .non⟩
theorem sx_pass {pos : Pos} : SX X W own (.Pass pos) sNil := ⟨_, ps_pass, fun σ H ρ D H0 O0 O r z => z σ H O r (Same.refl _)⟩
def sBrk (ρ : Vars) : Out := .bk ρ
theorem sx_break {pos : Pos} : SX X W own (.Break pos) sBrk := ⟨_, ps_break, fun σ H ρ D H0 O0 O r z => z σ H O r (Same.refl _)⟩
def sCt (ρ : Vars) : Out := .ct ρ
theorem sx_continue {pos : Pos} : SX X W own (.Continue pos) sCt := ⟨_, ps_continue, fun σ H ρ D H0 O0 O r z => z σ H O r (Same.refl _)⟩
theorem sx_doc {x j pos pos'} : SX X W own (.Expr (.Constant (.str x) j pos) pos') sNil := ⟨_, ps_doc, fun σ H ρ D H0 O0 O r z => z σ H O r (Same.refl _)⟩
/-- a value that is dropped -/
def sExpr (f : Vars → R PyData) (ρ : Vars) : Out := (f ρ).run ρ fun _ => .nx ρ
theorem sx_expr {e : Expr} {f : Vars → R PyData} {pos : Pos} (h : EX X W e f) (hs : swapsWith e none pos.line X.env = pure false := by rfl) : SX X W own (.Expr e pos) (sExpr f) := by
  obtain ⟨t, p, ht⟩ := h
  exact ⟨_, ps_expr p hs, fun σ H ρ D H0 O0 O r z => ht σ H O0 ρ _ r.stands0 r.vrel0 (EOut.run r z fun d v H' s rv z' r' => z' σ H' O r' (Same.refl _))⟩
def sIf (c : Vars → R Bool) (g h : Vars → Out) (ρ : Vars) : Out := (c ρ).run ρ fun b => if b = true then g ρ else h ρ
theorem sx_if {c : Expr} {a b : List Stmt} {tc : Vars → R Bool} {g h : Vars → Out} {pos : Pos} (hc : TX X W c tc) (ha : SsX X W own a g) (hb : SsX X W own b h) : SX X W own (.If c a b pos) (sIf tc g h) := by
  obtain ⟨t, p, ht⟩ := hc
  obtain ⟨ta, pa, hta⟩ := ha
  obtain ⟨tb, pb, htb⟩ := hb
  refine ⟨_, ps_if p pa pb, fun σ H ρ D H0 O0 O r z => ht σ H O0 ρ _ r.stands0 r.vrel0 (TOut.run r z fun d H' s z' r' => ?_)⟩
  cases d with
  | true => exact hta σ H' ρ D H0 O0 O r' z'
  | false => exact htb σ H' ρ D H0 O0 O r' z'
/-- name = value: all variables may be read, the value has no list (or no list is own) -/
def sSet (own : List Nat) (i : Nat) (f : Vars → R PyData) (ρ : Vars) : Out := (f ρ).run ρ fun d => if (own.isEmpty || imm d) = true then .nx (ρ.set i (some d)) else .bad
theorem set_end {i : Nat} {H0 : Hp} {O0 O : List Addr} {σ : L2.St} {H' : Hp} {ρ : Vars} {D : Ends} {v : V} {d : PyData} (hi : i ∉ own) (r' : Rel X.K own H0 O0 O σ H' ρ) (rv : Rp X.K (hide O0 H') v d) (z' : SOut X W own H0 O0 O H' D (if (own.isEmpty || imm d) = true then .nx (ρ.set i (some d)) else .bad)) (h2 : own = [] → Rp X.K (hide O H') v d) : D.nx (σ.set i (some v)) H' := by
  by_cases c : (own.isEmpty || imm d) = true
  · rw [if_pos c] at z'
    have rO : Rp X.K (hide O H') v d := by
      rw [Bool.or_eq_true] at c
      rcases c with c | c
      · exact h2 (List.isEmpty_iff.mp c)
      · exact r'.imm rv c
    exact z' _ H' O (r'.set hi rO) (Same.refl _)
  · rw [if_neg c] at z'; exact z'.elim
theorem sx_set {i : Nat} {x : Str} {e : Expr} {f : Vars → R PyData} {pos' pos : Pos} (hN : X.N.Nodup) (hi : X.N[i]? = some x) (hx : Loc X.env.scope x) (h : EX X W e f) (ho : own.contains i = false) (hs : swapsWith e (some (.Name x pos')) pos.line X.env = pure false := by rfl) (hf : X.fn x = true ∨ X.env.scope.names.lookup x = some .local := by first | exact .inl rfl | exact .inr rfl | assumption) :
    SX X W own (.Assign [.Name x pos'] e pos) (sSet own i f) := by
  obtain ⟨t, p, ht⟩ := h
  have hi' : i ∉ own := fun z => by rw [List.contains_iff_mem.mpr z] at ho; cases ho
  refine ⟨_, ps_set hN hi hx p hs hf, fun σ H ρ D H0 O0 O r z => ?_⟩
  by_cases c : own = []
  · subst c
    exact ht σ H O ρ _ r.stands r.vrel (EOut.run r z fun d v H' s rv z' r' => set_end hi' r' (rv.mono (hide_less r'.sub)) z' fun _ => rv)
  · exact ht σ H O0 ρ _ r.stands0 r.vrel0 (EOut.run r z fun d v H' s rv z' r' => set_end hi' r' rv z' fun e => absurd e c)
/-- .. the own lists are not read -/
def sSetM (own : List Nat) (i : Nat) (f : Vars → R PyData) (ρ : Vars) : Out := (f (mask own ρ)).run ρ fun d => .nx (ρ.set i (some d))
theorem sx_setM {i : Nat} {x : Str} {e : Expr} {f : Vars → R PyData} {pos' pos : Pos} (hN : X.N.Nodup) (hi : X.N[i]? = some x) (hx : Loc X.env.scope x) (h : EX X W e f) (ho : own.contains i = false) (hs : swapsWith e (some (.Name x pos')) pos.line X.env = pure false := by rfl) (hf : X.fn x = true ∨ X.env.scope.names.lookup x = some .local := by first | exact .inl rfl | exact .inr rfl | assumption) :
    SX X W own (.Assign [.Name x pos'] e pos) (sSetM own i f) := by
  obtain ⟨t, p, ht⟩ := h
  have hi' : i ∉ own := fun z => by rw [List.contains_iff_mem.mpr z] at ho; cases ho
  refine ⟨_, ps_set hN hi hx p hs hf, fun σ H ρ D H0 O0 O r z => ?_⟩
  exact ht σ H O _ _ r.stands r.vrelM (EOut.run r z fun d v H' s rv z' r' => z' _ H' O (r'.set hi' rv) (Same.refl _))
/-- targets = value -/
theorem other_of {js : List Nat} {gt : PyData → Vars → Option Vars} (ok : GtOk js gt) (hj : ∀ j ∈ js, j ∉ own) {H0 : Hp} {O0 O : List Addr} {σ σ' : L2.St} {H : Hp} {ρ ρ' : Vars} {d : PyData} (r : Rel X.K own H0 O0 O σ H ρ) (e : gt d ρ = some ρ') (v : VRel X.K (hide O H) σ' (mask own ρ')) (l : σ'.length = σ.length)
    (f : ∀ j : Nat, j ∉ js → σ'[j]? = σ[j]? ∧ (mask own ρ')[j]? = (mask own ρ)[j]?) (f2 : ∀ j : Nat, j ∉ js → ρ'[j]? = ρ[j]?) : Rel X.K own H0 O0 O σ' H ρ' := r.other hj l v f fun j ho => f2 j fun z => hj j z ho
structure GtIn (js : List Nat) (gt : PyData → Vars → Option Vars) : Prop where
  out : ∀ d ρ ρ', gt d ρ = some ρ' → ∀ j : Nat, j ∉ js → ρ'[j]? = ρ[j]?
def sAsg (own : List Nat) (gt : PyData → Vars → Option Vars) (f : Vars → R PyData) (ρ : Vars) : Out := (f (mask own ρ)).run ρ fun d => match gt d ρ with
  | some ρ' => .nx ρ'
  | none => .bad
theorem sx_asg {tg e : Expr} {js : List Nat} {gt : PyData → Vars → Option Vars} {f : Vars → R PyData} {pos : Pos} (h : EX X W e f) (hg : GX X tg js gt) (hin : GtIn js gt) (ho : (js.all fun j => !own.contains j) = true) (hs : swapsWithSole [tg] e pos.line X.env = pure false := by rfl) (hw : swappedStores [tg] e X.env = pure none := by rfl)
    (h1 : (assignEach [tg] X.env).map (·.2) = [assign tg X.env] := by rfl) : SX X W own (.Assign [tg] e pos) (sAsg own gt f) := by
  obtain ⟨t, p, ht⟩ := h
  obtain ⟨ok, g, q, hgt⟩ := hg
  have hj : ∀ j ∈ js, j ∉ own := fun j h z => by
    have := List.all_eq_true.mp ho j h
    rw [List.contains_iff_mem.mpr z] at this; cases this
  refine ⟨_, ps_asg p q hs hw h1, fun σ H ρ D H0 O0 O r z => ht σ H O _ _ r.stands r.vrelM (EOut.run r z fun d v H' s rv z' r' => ?_)⟩
  cases e : gt d ρ with
  | none => rw [e] at z'; exact z'.elim
  | some ρ' =>
    rw [e] at z'
    refine hgt v d σ H' O (mask own ρ) (mask own ρ') _ r'.stands r'.vrelM rv (ok.msk own d ρ ρ' hj e) fun σ' v' l' f' => ?_
    exact z' σ' H' O (other_of ok hj r' e v' l' f' (hin.out d ρ ρ' e)) (Same.refl _)
theorem gtName_in (i : Nat) : GtIn [i] (gtName i) := ⟨fun d ρ ρ' e j hj => by
  cases e
  rw [List.getElem?_set_ne (fun z => hj (by simp [z]))]⟩
structure GtsIn (js : List Nat) (gt : List PyData → Vars → Option Vars) : Prop where
  out : ∀ d ρ ρ', gt d ρ = some ρ' → ∀ j : Nat, j ∉ js → ρ'[j]? = ρ[j]?
theorem gtNil_in : GtsIn [] gtNil := ⟨fun d ρ ρ' e j hj => by cases d <;> cases e; rfl⟩
theorem gtCons_in {js ks : List Nat} {g : PyData → Vars → Option Vars} {h : List PyData → Vars → Option Vars} (a : GtIn js g) (b : GtsIn ks h) : GtsIn (js ++ ks) (gtCons g h) := ⟨fun d ρ ρ' e j hj => by
  cases d with
  | nil => cases e
  | cons d r =>
    have e' : (g d ρ).bind (fun ρ' => h r ρ') = some ρ' := e
    cases e1 : g d ρ with
    | none => rw [e1] at e'; cases e'
    | some ρ1 =>
      rw [e1] at e'
      rw [b.out r ρ1 ρ' e' j (fun z => hj (List.mem_append_right _ z)), a.out d ρ ρ1 e1 j (fun z => hj (List.mem_append_left _ z))]⟩
theorem gtTup_in {n : Nat} {js : List Nat} {h : List PyData → Vars → Option Vars} (b : GtsIn js h) : GtIn js (gtTup n h) := ⟨fun d ρ ρ' e j hj => by
  cases d <;> try cases e
  rename_i ds
  unfold gtTup at e
  dsimp only at e
  by_cases c : ds.length = n
  · rw [if_pos c] at e; exact b.out _ _ _ e j hj
  · rw [if_neg c] at e; cases e⟩
/-! ### own lists -/
/-- an expression that makes a new list: its items -/
def NX (X : Cx) (W : WX) (e : Expr) (f : Vars → R (List PyData)) : Prop :=
  ∃ t, PE X e t ∧ ∀ σ H O ρ (Q : VK), Stands O H → VRel X.K (hide O H) σ ρ → NOut X W O σ H Q (f ρ) → t σ H Q
def nLst (f : Vars → R (List PyData)) (ρ : Vars) : R (List PyData) := (f ρ).bind fun ds => if ds.length ≤ sizeLine then .ok ds else .bad
theorem nx_lst {es : List Expr} {f : Vars → R (List PyData)} {pos : Pos} (h : AX X W es f) : NX X W (.List es pos) (nLst f) := by
  obtain ⟨t, p, ht⟩ := h
  refine ⟨_, pe_lst p, fun σ H O ρ Q hO hr z => ht σ H O ρ _ hO hr ?_⟩
  unfold nLst at z
  cases e : f ρ with
  | bad => rw [e] at z; exact z
  | err c => rw [e] at z; exact z
  | ok ds =>
    rw [e, R.bind_ok] at z
    intro vs H1 s1 r1
    by_cases c : ds.length ≤ sizeLine
    · rw [if_pos c] at z
      refine ⟨by rw [r1.length]; exact c, fun p hp => z p vs _ (s1.trans (same_new hp)) (s1.free hp) upd_same (r1.mono fun a o h => ?_)⟩
      obtain ⟨c1, h1⟩ := hide_some h
      have n := ne_of_none h1 hp
      exact hide_of (fun z => (List.mem_cons.mp z).elim n c1) (by rw [upd_ne n]; exact h1)
    · rw [if_neg c] at z; exact z.elim
theorem nx_lc {elt tg iter : Expr} {ifs : List Expr} {scope : Scope} {ownc : List (Str × Nat)} {pos : Pos} {js : List Nat} {fi : Vars → R (List PyData)} {gt : PyData → Vars → Option Vars} {ft : Vars → R Bool} {f : Vars → R PyData} (hc : X.calm = true) (hN : X.N.Nodup) (hi : IX X W tg iter fi) (ok : BlkOk X.N X.env.scope scope ownc)
    (hg : ∀ (s : Shared) (H : Hp) (C : Addr) (cl : List (Str × Addr)) (fp : List Addr), GX (X.blk s H scope (compEnvC scope cl C X.env) fp) tg js gt) (ht : ∀ (s : Shared) (H : Hp) (C : Addr) (cl : List (Str × Addr)) (fp : List Addr), TsX (X.blk s H scope (compEnvC scope cl C X.env) fp) W0 ifs ft)
    (he : ∀ (s : Shared) (H : Hp) (C : Addr) (cl : List (Str × Addr)) (fp : List Addr), EX (X.blk s H scope (compEnvC scope cl C X.env) fp) W0 elt f) (hjs : (js.all fun j => (ownc.map (·.2)).contains j) = true) (hs : ∀ x, foldedSetIterable iter X.env x = pure x := by intro _; rfl) :
    NX X W (.ListComp elt [⟨tg, iter, ifs, 0⟩] scope pos) (nLc fi gt ft f (ownc.map (·.2))) := by
  obtain ⟨wi, p, hwi⟩ := pe_lcD (pos := pos) hc hN hi ok hg ht he hs
  have hj : ∀ j ∈ js, j ∈ ownc.map (·.2) := fun j h => by simpa using List.all_eq_true.mp hjs j h
  exact ⟨_, p, fun σ H O ρ Q hO hv z => lc_run hwi hj hO hv z⟩
/-- name = a new list that is changed later; the own lists are not read -/
def sNew (own : List Nat) (i : Nat) (f : Vars → R (List PyData)) (ρ : Vars) : Out := (f (mask own ρ)).run ρ fun ds => .nx (ρ.set i (some (.list ds)))
/-- a new list laid: nothing that was shown leans on it -/
theorem Rel.laid {H0 : Hp} {O0 O : List Addr} {σ : L2.St} {H H' : Hp} {ρ : Vars} {i : Nat} (hi : i ∈ own) {p : Addr} {vs : List V} {ds : List PyData} (r : Rel X.K own H0 O0 O σ H ρ) (s : Same H H') (hp : H p = none) (hp' : H' p = some (.lst vs)) (rs : Rps X.K (hide (p :: O) H') vs ds) :
    Rel X.K own H0 O0 (p :: O) (σ.set i (some (.ref p))) H' (ρ.set i (some (.list ds))) ∧ Same (hide O H) (hide (p :: O) H') := by
  have sF : Same (hide O H) (hide (p :: O) H') := fun a o h => by
    obtain ⟨c, e⟩ := hide_some h
    exact hide_of (fun z => (List.mem_cons.mp z).elim (ne_of_none e hp) c) (s a o e)
  refine ⟨?_, sF⟩
  -- the state ahead of the store, in the later heap
  have r1 : Rel X.K own H0 O0 O σ H' ρ := r.step s
  have np : p ∉ O := r.stands.new hp
  refine ⟨r1.same, r1.st0, by simpa using r1.len, fun a ha => List.mem_cons_of_mem _ (r1.sub a ha), fun a ha => ?_, fun j d cj q => ?_, fun j d cj q => ?_, fun j k d e a cj ck q1 q2 e1 e2 => ?_⟩
  · rcases List.mem_cons.mp ha with e | ha
    · rw [e]; exact .inr ⟨r.same.free hp, vs, hp'⟩
    · exact r1.lists a ha
  · have z : i ≠ j := fun z => cj (z ▸ hi)
    rw [List.getElem?_set_ne z] at q
    rw [List.getElem?_set_ne z]
    obtain ⟨v, h1, h2⟩ := r.free j d cj q
    exact ⟨v, h1, h2.mono sF⟩
  · have hl := r.len
    by_cases z : i = j
    · subst z
      by_cases hlt : i < ρ.length
      · rw [List.getElem?_set_self hlt] at q
        cases q
        exact ⟨p, vs, ds, rfl, List.getElem?_set_self (by omega), List.mem_cons_self, r.same.free hp, hp', rs⟩
      · rw [List.getElem?_eq_none (by simpa using hlt)] at q; cases q
    · rw [List.getElem?_set_ne z] at q
      rw [List.getElem?_set_ne z]
      obtain ⟨a, us, es, h0, h1, h2, h3, h4, h5⟩ := r.mine j d cj q
      exact ⟨a, us, es, h0, h1, List.mem_cons_of_mem _ h2, h3, s _ _ h4, h5.mono sF⟩
  · have key : ∀ (m : Nat) (d : PyData), m ∈ own → i ≠ m → (ρ.set i (some (.list ds)))[m]? = some (some d) → (σ.set i (some (V.ref p)))[m]? ≠ some (some (V.ref p)) := fun m d cm z q1 e1 => by
      rw [List.getElem?_set_ne z] at q1 e1
      obtain ⟨a', us, es, h0, h1, h2, h3, h4, h5⟩ := r.mine m d cm q1
      rw [e1] at h1
      cases h1
      exact np h2
    by_cases z : i = j
    · by_cases z2 : i = k
      · exact z.symm.trans z2
      · subst z
        have hlt : i < σ.length := by
          rcases Nat.lt_or_ge i σ.length with h | h
          · exact h
          · rw [List.getElem?_eq_none (by simpa using h)] at e1; cases e1
        rw [List.getElem?_set_self hlt] at e1
        cases e1
        exact absurd e2 (key k e ck z2 q2)
    · by_cases z2 : i = k
      · subst z2
        have hlt : i < σ.length := by
          rcases Nat.lt_or_ge i σ.length with h | h
          · exact h
          · rw [List.getElem?_eq_none (by simpa using h)] at e2; cases e2
        rw [List.getElem?_set_self hlt] at e2
        cases e2
        exact absurd e1 (key j d cj z q1)
      · rw [List.getElem?_set_ne z] at q1 e1
        rw [List.getElem?_set_ne z2] at q2 e2
        exact r.apart j k d e a cj ck q1 q2 e1 e2
theorem NOut.run {f : R (List PyData)} {k : List PyData → Out} {O : List Addr} {H0 : Hp} {O0 O1 : List Addr} {σ : L2.St} {H : Hp} {ρ : Vars} {D : Ends} {Q : VK} (r : Rel X.K own H0 O0 O1 σ H ρ) (z : SOut X W own H0 O0 O1 H D (f.run ρ k))
    (q : ∀ ds p vs H', Same H H' → H p = none → H' p = some (.lst vs) → Rps X.K (hide (p :: O) H') vs ds → SOut X W own H0 O0 O1 H D (k ds) → Q (.ref p) H') : NOut X W O σ H Q f := by
  cases f with
  | ok d => exact fun p vs H' s h1 h2 h3 => q d p vs H' s h1 h2 h3 z
  | err c => exact fun H' s => z σ H' O1 (r.step s) (hide_same s)
  | bad => exact z
theorem sx_new {i : Nat} {x : Str} {e : Expr} {f : Vars → R (List PyData)} {pos' pos : Pos} (hN : X.N.Nodup) (hi : X.N[i]? = some x) (hx : Loc X.env.scope x) (h : NX X W e f) (ho : own.contains i = true) (hs : swapsWith e (some (.Name x pos')) pos.line X.env = pure false := by rfl) (hf : X.fn x = true ∨ X.env.scope.names.lookup x = some .local := by first | exact .inl rfl | exact .inr rfl | assumption) :
    SX X W own (.Assign [.Name x pos'] e pos) (sNew own i f) := by
  obtain ⟨t, p, ht⟩ := h
  have hi' : i ∈ own := List.contains_iff_mem.mp ho
  refine ⟨_, ps_set hN hi hx p hs hf, fun σ H ρ D H0 O0 O r z => ht σ H O _ _ r.stands r.vrelM (NOut.run r z fun ds p vs H' s h1 h2 h3 z' => ?_)⟩
  obtain ⟨r', sF⟩ := r.laid hi' s h1 h2 h3
  exact z' _ H' _ r' sF
/-- name = [.. for ..] on one line -/
theorem sx_setLc {i : Nat} {y : Str} {py : Pos} {elt tg iter : Expr} {ifs : List Expr} {scope : Scope} {ownc : List (Str × Nat)} {pos spos : Pos} {js : List Nat} {fi : Vars → R (List PyData)} {gt : PyData → Vars → Option Vars} {ft : Vars → R Bool} {f : Vars → R PyData} (hc : X.calm = true) (hN : X.N.Nodup) (hy : X.N[i]? = some y) (hyl : X.env.scope.names.lookup y = some .local)
    (hsw : swapsWith (.ListComp elt [⟨tg, iter, ifs, 0⟩] scope pos) (some (.Name y py)) spos.line X.env = pure true) (hi : IX X W tg iter fi) (ok : BlkOk X.N X.env.scope scope ownc)
    (hg : ∀ (s : Shared) (H : Hp) (C : Addr) (cl : List (Str × Addr)) (fp : List Addr), GX (X.blk s H scope (compEnvC scope cl C X.env) fp) tg js gt) (ht : ∀ (s : Shared) (H : Hp) (C : Addr) (cl : List (Str × Addr)) (fp : List Addr), TsX (X.blk s H scope (compEnvC scope cl C X.env) fp) W0 ifs ft)
    (he : ∀ (s : Shared) (H : Hp) (C : Addr) (cl : List (Str × Addr)) (fp : List Addr), EX (X.blk s H scope (compEnvC scope cl C X.env) fp) W0 elt f) (hjs : (js.all fun j => (ownc.map (·.2)).contains j) = true) (ho : own.contains i = true) (hs : ∀ x, foldedSetIterable iter X.env x = pure x := by intro _; rfl) :
    SX X W own (.Assign [.Name y py] (.ListComp elt [⟨tg, iter, ifs, 0⟩] scope pos) spos) (sNew own i (nLc fi gt ft f (ownc.map (·.2)))) := by
  obtain ⟨wi, p, hwi⟩ := hi
  have hi' : i ∈ own := List.contains_iff_mem.mp ho
  have hj : ∀ j ∈ js, j ∈ ownc.map (·.2) := fun j h => by simpa using List.all_eq_true.mp hjs j h
  refine ⟨_, ps_setLc (g := tG X js gt) (tt := tT X W0 ft) (te := tE X W0 f) hc hN hy hyl hsw p ok (fun s H C cl fp => (hg s H C cl fp).pg) (fun s H C cl fp => (ht s H C cl fp).pts) (fun s H C cl fp => (he s H C cl fp).pe) hs, fun σ H ρ D H0 O0 O r z => ?_⟩
  refine lc_run (O := O) (ρ := mask own ρ) hwi hj r.stands r.vrelM (NOut.run r z fun ds p vs H' s h1 h2 h3 z' => ?_)
  obtain ⟨r', sF⟩ := r.laid hi' s h1 h2 h3
  exact z' _ H' _ r' sF
/-- .. where the list is not changed later -/
def sSetLc (own : List Nat) (i : Nat) (f : Vars → R (List PyData)) (ρ : Vars) : Out := (f (mask own ρ)).run ρ fun ds => .nx (ρ.set i (some (.list ds)))
theorem sx_setLc' {i : Nat} {y : Str} {py : Pos} {elt tg iter : Expr} {ifs : List Expr} {scope : Scope} {ownc : List (Str × Nat)} {pos spos : Pos} {js : List Nat} {fi : Vars → R (List PyData)} {gt : PyData → Vars → Option Vars} {ft : Vars → R Bool} {f : Vars → R PyData} (hc : X.calm = true) (hN : X.N.Nodup) (hy : X.N[i]? = some y) (hyl : X.env.scope.names.lookup y = some .local)
    (hsw : swapsWith (.ListComp elt [⟨tg, iter, ifs, 0⟩] scope pos) (some (.Name y py)) spos.line X.env = pure true) (hi : IX X W tg iter fi) (ok : BlkOk X.N X.env.scope scope ownc)
    (hg : ∀ (s : Shared) (H : Hp) (C : Addr) (cl : List (Str × Addr)) (fp : List Addr), GX (X.blk s H scope (compEnvC scope cl C X.env) fp) tg js gt) (ht : ∀ (s : Shared) (H : Hp) (C : Addr) (cl : List (Str × Addr)) (fp : List Addr), TsX (X.blk s H scope (compEnvC scope cl C X.env) fp) W0 ifs ft)
    (he : ∀ (s : Shared) (H : Hp) (C : Addr) (cl : List (Str × Addr)) (fp : List Addr), EX (X.blk s H scope (compEnvC scope cl C X.env) fp) W0 elt f) (hjs : (js.all fun j => (ownc.map (·.2)).contains j) = true) (ho : own.contains i = false) (hs : ∀ x, foldedSetIterable iter X.env x = pure x := by intro _; rfl) :
    SX X W own (.Assign [.Name y py] (.ListComp elt [⟨tg, iter, ifs, 0⟩] scope pos) spos) (sSetLc own i (nLc fi gt ft f (ownc.map (·.2)))) := by
  obtain ⟨wi, p, hwi⟩ := hi
  have hi' : i ∉ own := fun z => by rw [List.contains_iff_mem.mpr z] at ho; cases ho
  have hj : ∀ j ∈ js, j ∈ ownc.map (·.2) := fun j h => by simpa using List.all_eq_true.mp hjs j h
  refine ⟨_, ps_setLc (g := tG X js gt) (tt := tT X W0 ft) (te := tE X W0 f) hc hN hy hyl hsw p ok (fun s H C cl fp => (hg s H C cl fp).pg) (fun s H C cl fp => (ht s H C cl fp).pts) (fun s H C cl fp => (he s H C cl fp).pe) hs, fun σ H ρ D H0 O0 O r z => ?_⟩
  refine lc_run (O := O) (ρ := mask own ρ) hwi hj r.stands r.vrelM (NOut.run r z fun ds p vs H' s h1 h2 h3 z' => ?_)
  exact z' _ H' O ((r.step s).set hi' (.lst (.inl (.inl (hide_of (r.stands.new h1) h2))) (h3.mono (hide_less fun a ha => List.mem_cons_of_mem _ ha)))) (hide_same s)
/-- a change of an own list -/
theorem Rel.write {H0 : Hp} {O0 O : List Addr} {σ : L2.St} {H : Hp} {ρ : Vars} {i : Nat} (hi : i ∈ own) {a : Addr} {vs vs' : List V} {d : PyData} {es : List PyData} (r : Rel X.K own H0 O0 O σ H ρ) (q : ρ[i]? = some (some d)) (e : σ[i]? = some (some (.ref a))) (ha : a ∈ O) (h0 : H0 a = none) (h : H a = some (.lst vs)) (rs : Rps X.K (hide O H) vs' es) :
    Rel X.K own H0 O0 O σ (upd H a (.lst vs')) (ρ.set i (some (.list es))) ∧ Same (hide O H) (hide O (upd H a (.lst vs'))) := by
  have hid : ∀ o', hide O (upd H a o') = hide O H := fun o' => by
    funext b
    unfold hide
    by_cases c : b ∈ O
    · rw [if_pos c, if_pos c]
    · rw [if_neg c, if_neg c, upd_ne (fun z => c (by rw [z]; exact ha))]
  have hlt : i < ρ.length := (List.getElem?_eq_some_iff.mp q).1
  refine ⟨⟨fun b o hb => ?_, r.st0, by simpa using r.len, r.sub, fun b hb => ?_, fun j d' cj q' => ?_, fun j d' cj q' => ?_, fun j k d1 d2 b cj ck q1 q2 e1 e2 => ?_⟩, by rw [hid]; exact Same.refl _⟩
  · have n : b ≠ a := ne_of_none hb h0
    rw [upd_ne n]; exact r.same b o hb
  · by_cases n : b = a
    · subst n; exact .inr ⟨h0, vs', upd_same⟩
    · rw [upd_ne n]; exact r.lists b hb
  · have z : i ≠ j := fun z => cj (z ▸ hi)
    rw [List.getElem?_set_ne z] at q'
    rw [hid]
    exact r.free j d' cj q'
  · by_cases z : i = j
    · subst z
      rw [List.getElem?_set_self hlt] at q'
      cases q'
      exact ⟨a, vs', es, rfl, e, ha, h0, upd_same, by rw [hid]; exact rs⟩
    · rw [List.getElem?_set_ne z] at q'
      obtain ⟨b, us, fs, g0, g1, g2, g3, g4, g5⟩ := r.mine j d' cj q'
      have n : b ≠ a := fun n => by
        subst n
        exact z (r.apart i j _ _ b hi cj q q' e g1)
      exact ⟨b, us, fs, g0, g1, g2, g3, by rw [upd_ne n]; exact g4, by rw [hid]; exact g5⟩
  · have as : ∀ (m : Nat) (d : PyData), (ρ.set i (some (.list es)))[m]? = some (some d) → ∃ d', ρ[m]? = some (some d') := fun m d hm => by
      by_cases z : i = m
      · subst z; exact ⟨_, q⟩
      · rw [List.getElem?_set_ne z] at hm; exact ⟨_, hm⟩
    obtain ⟨d1', q1'⟩ := as j d1 q1
    obtain ⟨d2', q2'⟩ := as k d2 q2
    exact r.apart j k d1' d2' b cj ck q1' q2' e1 e2
/-- x.append(e): all variables may be read, the item has no list -/
def sApp (i : Nat) (f : Vars → R PyData) (ρ : Vars) : Out := match ρ.getD i none with
  | some (.list ds) => (f ρ).run ρ fun d => if (decide (ds.length < sizeLine) && imm d) = true then .nx (ρ.set i (some (.list (ds ++ [d])))) else .bad
  | _ => .bad
def sAppM (own : List Nat) (i : Nat) (f : Vars → R PyData) (ρ : Vars) : Out := match ρ.getD i none with
  | some (.list ds) => (f (mask own ρ)).run ρ fun d => if ds.length < sizeLine then .nx (ρ.set i (some (.list (ds ++ [d])))) else .bad
  | _ => .bad
theorem getD_some {ρ : Vars} {i : Nat} {d : PyData} (h : ρ.getD i none = some d) : ρ[i]? = some (some d) := by
  rw [List.getD_eq_getElem?_getD] at h
  cases e : ρ[i]? with
  | none => rw [e] at h; cases h
  | some o => rw [e] at h; exact congrArg some h
theorem own_list {i : Nat} (hi : i ∈ own) {H0 : Hp} {O0 O : List Addr} {σ : L2.St} {H : Hp} {ρ : Vars} {ds : List PyData} (r : Rel X.K own H0 O0 O σ H ρ) (e : ρ.getD i none = some (.list ds)) : ∃ a vs, σ[i]? = some (some (.ref a)) ∧ a ∈ O ∧ H0 a = none ∧ H a = some (.lst vs) ∧ Rps X.K (hide O H) vs ds := by
  obtain ⟨a, vs, ds', h0, h1, h2, h3, h4, h5⟩ := r.mine i _ hi (getD_some e)
  cases h0
  exact ⟨a, vs, h1, h2, h3, h4, h5⟩
theorem getD_list {ρ : Vars} {i : Nat} {k : List PyData → Out} {H0 : Hp} {O0 O : List Addr} {H : Hp} {D : Ends} (z : SOut X W own H0 O0 O H D (match ρ.getD i none with
    | some (.list ds) => k ds
    | _ => .bad)) : ∃ ds, ρ.getD i none = some (.list ds) ∧ SOut X W own H0 O0 O H D (k ds) := by
  cases e : ρ.getD i none with
  | none => rw [e] at z; exact z.elim
  | some d =>
    rw [e] at z
    cases d with
    | list ds => exact ⟨ds, rfl, z⟩
    | _ => exact z.elim
section
variable {i : Nat} {x : Str} {e : Expr} {f : Vars → R PyData} {p apos cpos pos : Pos}
theorem sx_app (h : EX X W e f) (ho : own.contains i = true) (hN : X.N[i]? = some x := by rfl) (hv : Vis X.env.scope x := by first | exact Or.inl rfl | exact Or.inr (Or.inl rfl) | exact Or.inr (Or.inr rfl)) (hd : (x == ("__debug__" : Str)) = false := by decide)
    (hcd : (x == ("__classdict__" : Str)) = false := by decide)
    (hbase : attributeBase (.Name x p) "append" X.env (eval (.Name x p) X.env) = eval (.Name x p) X.env := by rfl)
    (hfew : ((backTo cpos (starEach [e] X.env)).all (fun x => !x.1) && (backToKw cpos (keywordEach [] X.env)).all (fun x => x.1.isSome)
      && decide (([e] : List Expr).length + ([] : List Keyword).length + (if ([] : List Keyword).isEmpty then 0 else 1) < 30)) = true := by rfl)
    (hline : (apos.endLine == cpos.line) = true := by rfl) (hs : starEach [e] X.env = (false, eval e X.env) :: starEach [] X.env := by rfl) (hplain : (backTo cpos (starEach [] X.env)).any (·.1) = false := by rfl)
    (hsw : swapsWith (.Call (.Attribute (.Name x p) "append" apos) [e] [] cpos) none pos.line X.env = pure false := by rfl) :
    SX X W own (.Expr (.Call (.Attribute (.Name x p) "append" apos) [e] [] cpos) pos) (sApp i f) := by
  obtain ⟨t, q, ht⟩ := h
  have hi : i ∈ own := List.contains_iff_mem.mp ho
  refine ⟨_, ps_expr (pe_bm PySem.F.plainAttrs_list PySem.F.slot_list_append PySem.F.type_list_append mt_append (pe_var hN hv hd hcd) (pa_cons q pa_nil hs) hbase hfew hline hs hplain) hsw, fun σ H ρ D H0 O0 O r z => ?_⟩
  unfold sApp at z
  obtain ⟨ds, e1, z⟩ := getD_list z
  obtain ⟨a, vs, g1, g2, g3, g4, g5⟩ := own_list hi r e1
  refine ⟨.ref a, g1, .inl ⟨rfl, vs, .inl (.inl g4)⟩, ht σ H O0 ρ _ r.stands0 r.vrel0 (EOut.run r z fun d v H' s rv z' r' => ?_)⟩
  by_cases c : (decide (ds.length < sizeLine) && imm d) = true
  · rw [if_pos c] at z'
    rw [Bool.and_eq_true] at c
    have rO := r'.imm rv c.2
    obtain ⟨r2, sF⟩ := r'.write hi (getD_some e1) g1 g2 g3 (s _ _ g4) ((g5.mono (hide_same s)).append (.cons rO .nil))
    exact ⟨a, vs, v, rfl, rfl, s _ _ g4, by rw [g5.length]; exact of_decide_eq_true c.1, z' σ _ O r2 sF⟩
  · rw [if_neg c] at z'; exact z'.elim
theorem sx_appM (h : EX X W e f) (ho : own.contains i = true) (hN : X.N[i]? = some x := by rfl) (hv : Vis X.env.scope x := by first | exact Or.inl rfl | exact Or.inr (Or.inl rfl) | exact Or.inr (Or.inr rfl)) (hd : (x == ("__debug__" : Str)) = false := by decide)
    (hcd : (x == ("__classdict__" : Str)) = false := by decide)
    (hbase : attributeBase (.Name x p) "append" X.env (eval (.Name x p) X.env) = eval (.Name x p) X.env := by rfl)
    (hfew : ((backTo cpos (starEach [e] X.env)).all (fun x => !x.1) && (backToKw cpos (keywordEach [] X.env)).all (fun x => x.1.isSome)
      && decide (([e] : List Expr).length + ([] : List Keyword).length + (if ([] : List Keyword).isEmpty then 0 else 1) < 30)) = true := by rfl)
    (hline : (apos.endLine == cpos.line) = true := by rfl) (hs : starEach [e] X.env = (false, eval e X.env) :: starEach [] X.env := by rfl) (hplain : (backTo cpos (starEach [] X.env)).any (·.1) = false := by rfl)
    (hsw : swapsWith (.Call (.Attribute (.Name x p) "append" apos) [e] [] cpos) none pos.line X.env = pure false := by rfl) :
    SX X W own (.Expr (.Call (.Attribute (.Name x p) "append" apos) [e] [] cpos) pos) (sAppM own i f) := by
  obtain ⟨t, q, ht⟩ := h
  have hi : i ∈ own := List.contains_iff_mem.mp ho
  refine ⟨_, ps_expr (pe_bm PySem.F.plainAttrs_list PySem.F.slot_list_append PySem.F.type_list_append mt_append (pe_var hN hv hd hcd) (pa_cons q pa_nil hs) hbase hfew hline hs hplain) hsw, fun σ H ρ D H0 O0 O r z => ?_⟩
  unfold sAppM at z
  obtain ⟨ds, e1, z⟩ := getD_list z
  obtain ⟨a, vs, g1, g2, g3, g4, g5⟩ := own_list hi r e1
  refine ⟨.ref a, g1, .inl ⟨rfl, vs, .inl (.inl g4)⟩, ht σ H O _ _ r.stands r.vrelM (EOut.run r z fun d v H' s rv z' r' => ?_)⟩
  by_cases c : ds.length < sizeLine
  · rw [if_pos c] at z'
    obtain ⟨r2, sF⟩ := r'.write hi (getD_some e1) g1 g2 g3 (s _ _ g4) ((g5.mono (hide_same s)).append (.cons rv .nil))
    exact ⟨a, vs, v, rfl, rfl, s _ _ g4, by rw [g5.length]; exact c, z' σ _ O r2 sF⟩
  · rw [if_neg c] at z'; exact z'.elim
end
end
end Pu
set_option Elab.async false
set_option linter.all false
set_option maxRecDepth 100000
set_option maxHeartbeats 4000000
namespace Pu
open PySem PySem.Spec PyProof.Rows L2
section
variable {X : Cx} {W : WX} {own : List Nat}
/-! ### loops -/
def forL (gt : PyData → Vars → Option Vars) (g : Vars → Out) : List PyData → Vars → Out
  | [], ρ => .nx ρ
  | d :: ds, ρ => match gt d ρ with
    | none => .bad
    | some ρ1 => match g ρ1 with
      | .nx ρ2 => forL gt g ds ρ2
      | .ct ρ2 => forL gt g ds ρ2
      | .bk ρ2 => .nx ρ2
      | .rt d => .rt d
      | .err c ρ2 => .err c ρ2
      | .bad => .bad
def sFor (own : List Nat) (fi : Vars → R (List PyData)) (gt : PyData → Vars → Option Vars) (g : Vars → Out) (ρ : Vars) : Out := (fi (mask own ρ)).run ρ fun ds => forL gt g ds ρ
theorem sx_for {tg iter : Expr} {body : List Stmt} {js : List Nat} {fi : Vars → R (List PyData)} {gt : PyData → Vars → Option Vars} {g : Vars → Out} {pos : Pos} (hp : PassesOwn (model X.prog X.w) X.A X.env X.xe) (hc : X.calm = true) (hi : IX X W tg iter fi) (hg : GX X tg js gt) (hin : GtIn js gt) (ho : (js.all fun j => !own.contains j) = true)
    (hb : SsX X W own body g) (hs : ∀ x, foldedSetIterable iter X.env x = pure x := by intro _; rfl) : SX X W own (.For tg iter body [] pos) (sFor own fi gt g) := by
  obtain ⟨wi, p, hwi⟩ := hi
  obtain ⟨ok, tgt, q, hgt⟩ := hg
  obtain ⟨tb, pb, htb⟩ := hb
  have hj : ∀ j ∈ js, j ∉ own := fun j h z => by
    have := List.all_eq_true.mp ho j h
    rw [List.contains_iff_mem.mpr z] at this; cases this
  refine ⟨_, ps_for hp hc p q pb hs, fun σ H ρ D H0 O0 O r z => ?_⟩
  refine hwi σ H O (mask own ρ) _ r.stands r.vrelM ?_
  unfold sFor at z
  cases e : fi (mask own ρ) with
  | bad => rw [e] at z; exact z
  | err c => rw [e] at z; exact fun H' s => z σ H' O (r.step s) (hide_same s)
  | ok ds =>
    rw [e, R.run_ok] at z
    intro J H1 s1 hJ
    refine ⟨fun i m σ2 H2 => m = ds.length - i ∧ i ≤ ds.length ∧ ∃ O2 ρ2, Rel X.K own H0 O0 O2 σ2 H2 ρ2 ∧ Same (hide O H1) (hide O2 H2) ∧ SOut X W own H0 O0 O2 H2 D (forL gt g (ds.drop i) ρ2), ⟨ds.length, rfl, Nat.zero_le _, O, ρ, r.step s1, Same.refl _, SOut.from z (hide_same s1)⟩, ?_⟩
    rintro i m σ2 H2 ⟨rfl, hle, O2, ρ2, r2, sF, z2⟩
    obtain ⟨j1, j2⟩ := hJ i H2 O2 r2.stands sF
    by_cases hlt : i < ds.length
    · have hd : ds[i]? = some ds[i] := List.getElem?_eq_getElem hlt
      obtain ⟨g1, g2⟩ := j1 _ hd
      have hdrop : ds.drop i = ds[i] :: ds.drop (i + 1) := List.drop_eq_getElem_cons hlt
      rw [hdrop] at z2
      unfold forL at z2
      cases eg : gt ds[i] ρ2 with
      | none => rw [eg] at z2; exact z2.elim
      | some ρ3 =>
        rw [eg] at z2
        dsimp only at z2
        refine .inr ⟨g1, fun σ' H' => (i + 1 ≤ ds.length ∧ ∃ O2 ρ2, Rel X.K own H0 O0 O2 σ' H' ρ2 ∧ Same (hide O H1) (hide O2 H') ∧ SOut X W own H0 O0 O2 H' D (forL gt g (ds.drop (i + 1)) ρ2)),
          fun σ' H' hn => ⟨ds.length - (i + 1), by omega, rfl, hn.1, hn.2⟩, fun x H3 y => ?_⟩
        obtain ⟨s23, rx⟩ := g2 x H3 y
        have r3 := r2.step s23
        refine hgt x ds[i] σ2 H3 O2 (mask own ρ2) (mask own ρ3) _ r3.stands r3.vrelM rx (ok.msk own _ ρ2 ρ3 hj eg) fun σ3 v3 l3 f3 => ?_
        have r4 : Rel X.K own H0 O0 O2 σ3 H3 ρ3 := other_of ok hj r3 eg v3 l3 f3 (hin.out _ ρ2 ρ3 eg)
        have sF3 : Same (hide O H1) (hide O2 H3) := sF.trans (hide_same s23)
        refine htb σ3 H3 ρ3 _ H0 O0 O2 r4 ?_
        cases eb : g ρ3 with
        | nx ρ4 =>
          rw [eb] at z2
          exact fun σ5 H5 O5 r5 s5 => ⟨hlt, O5, ρ4, r5, sF3.trans s5, SOut.from z2 ((hide_same s23).trans s5)⟩
        | ct ρ4 =>
          rw [eb] at z2
          exact fun σ5 H5 O5 r5 s5 => ⟨hlt, O5, ρ4, r5, sF3.trans s5, SOut.from z2 ((hide_same s23).trans s5)⟩
        | bk ρ4 =>
          rw [eb] at z2
          exact fun σ5 H5 O5 r5 s5 => z2 σ5 H5 O5 r5 ((hide_same s23).trans s5)
        | rt d => rw [eb] at z2; exact z2
        | err c ρ4 =>
          rw [eb] at z2
          exact fun σ5 H5 O5 r5 s5 => z2 σ5 H5 O5 r5 ((hide_same s23).trans s5)
        | bad => rw [eb] at z2; exact z2
    · have e3 : i = ds.length := by omega
      subst e3
      refine .inl ⟨j2 (Nat.le_refl _), ?_⟩
      rw [List.drop_length] at z2
      exact z2 σ2 H2 O2 r2 (Same.refl _)
def whileL (c : Vars → R Bool) (g : Vars → Out) : Nat → Vars → Out
  | 0, _ => .bad
  | n + 1, ρ => (c ρ).run ρ fun b => if b = true then (match g ρ with
      | .nx ρ2 => whileL c g n ρ2
      | .ct ρ2 => whileL c g n ρ2
      | .bk ρ2 => .nx ρ2
      | .rt d => .rt d
      | .err c ρ2 => .err c ρ2
      | .bad => .bad) else .nx ρ
theorem sx_while {c : Expr} {body : List Stmt} {tc : Vars → R Bool} {g : Vars → Out} {pos : Pos} (n : Nat) (hp : PassesOwn (model X.prog X.w) X.A X.env X.xe) (hc : TX X W c tc) (hb : SsX X W own body g) : SX X W own (.While c body [] pos) (whileL tc g n) := by
  obtain ⟨t, p, ht⟩ := hc
  obtain ⟨tb, pb, htb⟩ := hb
  refine ⟨_, ps_while hp p pb, fun σ H ρ D H0 O0 O r z => ?_⟩
  refine ⟨fun m σ2 H2 => ∃ O2 ρ2, Rel X.K own H0 O0 O2 σ2 H2 ρ2 ∧ SOut X W own H0 O0 O2 H2 D (whileL tc g m ρ2), ⟨n, O, ρ, r, z⟩, ?_⟩
  rintro m σ2 H2 ⟨O2, ρ2, r2, z2⟩
  cases m with
  | zero => exact z2.elim
  | succ m =>
    unfold whileL at z2
    refine ht σ2 H2 O0 ρ2 _ r2.stands0 r2.vrel0 (TOut.run r2 z2 fun b H3 s3 z3 r3 => ?_)
    cases b with
    | false =>
      simp only [Bool.false_eq_true, if_false] at z3 ⊢
      exact z3 σ2 H3 O2 r3 (Same.refl _)
    | true =>
      simp only [if_true] at z3 ⊢
      refine ⟨fun σ' H' => ∃ O2 ρ2, Rel X.K own H0 O0 O2 σ' H' ρ2 ∧ SOut X W own H0 O0 O2 H' D (whileL tc g m ρ2), fun σ' H' h => ⟨m, Nat.lt_succ_self m, h⟩, ?_⟩
      refine htb σ2 H3 ρ2 _ H0 O0 O2 r3 ?_
      cases eb : g ρ2 with
      | nx ρ4 => rw [eb] at z3; exact fun σ5 H5 O5 r5 s5 => ⟨O5, ρ4, r5, SOut.from z3 s5⟩
      | ct ρ4 => rw [eb] at z3; exact fun σ5 H5 O5 r5 s5 => ⟨O5, ρ4, r5, SOut.from z3 s5⟩
      | bk ρ4 => rw [eb] at z3; exact z3
      | rt d => rw [eb] at z3; exact z3
      | err c ρ4 => rw [eb] at z3; exact z3
      | bad => rw [eb] at z3; exact z3
/-! ### name op= e: ints, texts, tuples -/
def IpX (X : Cx) (op : Operator) (g : PyData → PyData → Option PyData) : Prop := ∃ r, PIp X op r ∧ Op2 X.K r g
/-- list += list would change the list: not here -/
theorem ipx_addI : IpX X .Add (gInt (fun _ _ => true) fun i j => .int (i + j)) := by
  refine ⟨_, ip_add, fun H O x y d e z Q hO rx ry h q => ?_⟩
  cases rx with
  | int i =>
    cases ry with
    | int j => cases h; exact ⟨i, j, rfl, rfl, q _ H (Same.refl H) (.int _)⟩
    | _ => cases h
  | _ => cases h
theorem ipx_subI : IpX X .Sub (gInt (fun _ _ => true) fun i j => .int (i - j)) := by
  refine ⟨_, ip_sub, fun H O x y d e z Q hO rx ry h q => ?_⟩
  cases rx with
  | int i =>
    cases ry with
    | int j => cases h; exact ⟨i, j, rfl, rfl, q _ H (Same.refl H) (.int _)⟩
    | _ => cases h
  | _ => cases h
theorem ipx_addS : IpX X .Add (fun d e => match d, e with
    | .str x, .str y => if x.length + y.length ≤ sizeLine then some (.str (x ++ y)) else none
    | _, _ => none) := by
  refine ⟨fun x y H Q => ∃ i j, x = .str i ∧ y = .str j ∧ i.length + j.length ≤ sizeLine ∧ Q (.str (i ++ j)) H, fun pins s σ H x y v u Q I r1 r2 h => iop_add_str pins s σ H x y v u Q I r1 r2 h, fun H O x y d e z Q hO rx ry h q => ?_⟩
  cases rx with
  | str i =>
    cases ry with
    | str j =>
      dsimp only at h
      by_cases c : i.length + j.length ≤ sizeLine
      · rw [if_pos c] at h; cases h; exact ⟨i, j, rfl, rfl, c, q _ H (Same.refl H) (.str _)⟩
      · rw [if_neg c] at h; cases h
    | _ => cases h
  | _ => cases h
def sAug (own : List Nat) (i : Nat) (g : PyData → PyData → Option PyData) (f : Vars → R PyData) (ρ : Vars) : Out := match ρ.getD i none with
  | some d => (f (mask own ρ)).run ρ fun e => match g d e with
    | some z => .nx (ρ.set i (some z))
    | none => .bad
  | none => .bad
theorem sx_aug {i : Nat} {x : Str} {e : Expr} {op : Operator} {g : PyData → PyData → Option PyData} {f : Vars → R PyData} {pos' pos : Pos} (hN : X.N.Nodup) (hi : X.N[i]? = some x) (hx : Loc X.env.scope x) (hg : IpX X op g) (h : EX X W e f) (ho : own.contains i = false) (hf : X.fn x = true ∨ X.env.scope.names.lookup x = some .local := by first | exact .inl rfl | exact .inr rfl | assumption) :
    SX X W own (.AugAssign (.Name x pos') op e pos) (sAug own i g f) := by
  obtain ⟨t, p, ht⟩ := h
  obtain ⟨r, pr, hr⟩ := hg
  have hi' : i ∉ own := fun z => by rw [List.contains_iff_mem.mpr z] at ho; cases ho
  refine ⟨_, ps_aug hN hi hx p pr hf, fun σ H ρ D H0 O0 O rl z => ?_⟩
  unfold sAug at z
  cases e1 : ρ.getD i none with
  | none => rw [e1] at z; exact z.elim
  | some d =>
    rw [e1] at z
    obtain ⟨v, h1, h2⟩ := rl.free i d hi' (getD_some e1)
    refine ⟨v, h1, ht σ H O _ _ rl.stands rl.vrelM (EOut.run rl z fun e w H' s rw' z' r' => ?_)⟩
    cases e2 : g d e with
    | none => rw [e2] at z'; exact z'.elim
    | some y =>
      rw [e2] at z'
      exact hr H' O v w d e y _ r'.stands (h2.mono (hide_same s)) rw' e2 fun v2 H2 s2 r2 => z' _ H2 O ((r'.step s2).set hi' r2) (hide_same s2)
/-- a, b = e1, e2 -/
def sPar (own : List Nat) (i j : Nat) (f : Vars → R (List PyData)) (ρ : Vars) : Out := (f (mask own ρ)).run ρ fun ds => match ds with
  | [d, e] => .nx ((ρ.set i (some d)).set j (some e))
  | _ => .bad
theorem sx_par {i j : Nat} {x y : Str} {a b : Expr} {f : Vars → R (List PyData)} {px py pt pos : Pos} {kt k2 pt2} (hc : X.calm = true) (hN : X.N.Nodup) (hi : X.N[i]? = some x) (hj : X.N[j]? = some y) (hij : i ≠ j)
    (hx : X.env.scope.names.lookup x = some .local) (hy : X.env.scope.names.lookup y = some .local) (ha : AX X W [a, b] f)
    (hw : swappedStores [.Tuple [.Name x px, .Name y py] kt pt] (.Tuple [a, b] k2 pt2) X.env = pure (some [x, y])) (ho : (own.contains i || own.contains j) = false)
    (hs : swapsWithSole [.Tuple [.Name x px, .Name y py] kt pt] (.Tuple [a, b] k2 pt2) pos.line X.env = pure false := by rfl) :
    SX X W own (.Assign [.Tuple [.Name x px, .Name y py] kt pt] (.Tuple [a, b] k2 pt2) pos) (sPar own i j f) := by
  obtain ⟨t, p, ht⟩ := ha
  rw [Bool.or_eq_false_iff] at ho
  have hi' : i ∉ own := fun z => by have := List.contains_iff_mem.mpr z; rw [ho.1] at this; cases this
  have hj' : j ∉ own := fun z => by have := List.contains_iff_mem.mpr z; rw [ho.2] at this; cases this
  refine ⟨_, ps_par hc hN hi hj hij hx hy p hw hs, fun σ H ρ D H0 O0 O r z => ht σ H O _ _ r.stands r.vrelM ?_⟩
  unfold sPar at z
  cases e : f (mask own ρ) with
  | bad => rw [e] at z; exact z
  | err c => rw [e] at z; exact fun H' s => z σ H' O (r.step s) (hide_same s)
  | ok ds =>
    rw [e, R.run_ok] at z
    intro vs H1 s1 r1
    have key : ∃ d e', ds = [d, e'] ∧ SOut X W own H0 O0 O H D (.nx ((ρ.set i (some d)).set j (some e'))) := by
      match ds, z with
      | [d, e'], z => exact ⟨d, e', rfl, z⟩
      | [], z => exact z.elim
      | [_], z => exact z.elim
      | _ :: _ :: _ :: _, z => exact z.elim
    obtain ⟨d, e', rfl, z⟩ := key
    obtain ⟨v, w, rfl, rv, rw'⟩ := rps_two r1
    exact ⟨v, w, rfl, z _ H1 O (((r.step s1).set hi' rv).set hj' rw') (hide_same s1)⟩
end
/-! ### a def's body -/
section
variable (X : Cx) (E : XK)
def BOut (H0 : Hp) (O0 : List Addr) (Q : VK) : Out → Prop
  | .nx _ => ∀ H', Same H0 H' → Q .non H'
  | .rt d => ∀ v H', Same H0 H' → Rp X.K (hide O0 H') v d → Q v H'
  | .err c _ => ∀ H', Same H0 H' → E (exV X.mg c) none H'
  | _ => False
abbrev WD : WX := fun c d _ H => E c d H
def BX (own : List Nat) (sts : List Stmt) (g : Vars → Out) : Prop :=
  ∃ t, PSs X sts t ∧ ∀ σ H ρ Q H0 O0 O, Rel X.K own H0 O0 O σ H ρ → BOut X E H0 O0 Q (g ρ) → t { nx := fun _ H' => Q .non H', rt := Q } σ H
end
section
variable {X : Cx} {E : XK} {own : List Nat}
theorem BX.of {sts : List Stmt} {g : Vars → Out} (h : SsX X (WD E) own sts g) : BX X E own sts g := by
  obtain ⟨t, p, ht⟩ := h
  refine ⟨t, p, fun σ H ρ Q H0 O0 O r z => ht σ H ρ _ H0 O0 O r ?_⟩
  cases e : g ρ with
  | nx ρ' => rw [e] at z; exact fun σ' H' O' r' s' => z H' r'.same
  | rt d => rw [e] at z; exact z
  | err c ρ' => rw [e] at z; exact fun σ' H' O' r' s' => z H' r'.same
  | bk _ => rw [e] at z; exact z.elim
  | ct _ => rw [e] at z; exact z.elim
  | bad => rw [e] at z; exact z.elim
/-- a statement, then the rest; from here on fewer lists are own -/
theorem BX.cons {st : Stmt} {rest : List Stmt} {g h : Vars → Out} {own' : List Nat} (a : SX X (WD E) own st g) (b : BX X E own' rest h) (ho : (own'.all fun i => own.contains i) = true) : BX X E own (st :: rest) (sSeq g h) := by
  obtain ⟨t, p, ht⟩ := a
  obtain ⟨u, q, hu⟩ := b
  refine ⟨_, pss_cons p q, fun σ H ρ Q H0 O0 O r z => ht σ H ρ _ H0 O0 O r ?_⟩
  unfold sSeq at z
  cases e : g ρ with
  | nx ρ1 =>
    rw [e] at z
    intro σ1 H1 O1 r1 s1
    obtain ⟨O2, r2, _⟩ := r1.freeze (own' := own') fun i hi => List.contains_iff_mem.mp (List.all_eq_true.mp ho i hi)
    exact hu σ1 H1 ρ1 Q H0 O0 O2 r2 z
  | rt d => rw [e] at z; exact z
  | err c ρ' => rw [e] at z; exact fun σ' H' O' r' s' => z H' r'.same
  | bk _ => rw [e] at z; exact z.elim
  | ct _ => rw [e] at z; exact z.elim
  | bad => rw [e] at z; exact z.elim
end
/-- what the def answers: N its slots -/
def fnD (N : Nat) (g : Vars → Out) (ds : List PyData) : R PyData := match g (ds.map some ++ List.replicate (N - ds.length) none) with
  | .nx _ => .ok .none
  | .rt d => .ok d
  | .err c _ => .err c
  | _ => .bad
section
variable {P : Program} {w : World} {K : PySem.W.Frag} {mg : Str → Option Value} {base : Heap}
theorem start_rel {K : PySem.W.Frag} {own : List Nat} {N : List Str} {H : Hp} {O : List Addr} {vs : List V} {ds : List PyData} (hO : Stands O H) (r : Rps K (hide O H) vs ds) (hl : ds.length ≤ N.length) (ho : ∀ i ∈ own, ds.length ≤ i) :
    Rel K own H O O (L2.start N vs) H (ds.map some ++ List.replicate (N.length - ds.length) none) where
  same := Same.refl H
  st0 := hO
  len := by
    unfold L2.start
    rw [List.length_append, List.length_append, List.length_map, List.length_map, List.length_replicate, List.length_replicate, r.length]
  sub := fun a ha => ha
  lists := fun a ha => .inl ha
  free := fun i d _ e => by
    by_cases h : i < ds.length
    · rw [List.getElem?_append_left (by simpa using h), List.getElem?_map] at e
      cases q : ds[i]? with
      | none => rw [q] at e; cases e
      | some x =>
        rw [q] at e
        cases e
        obtain ⟨v, h1, h2⟩ := r.get q
        refine ⟨v, ?_, h2⟩
        unfold L2.start
        rw [List.getElem?_append_left (by rw [List.length_map, r.length]; exact h), List.getElem?_map, h1]
        rfl
    · rw [List.getElem?_append_right (by simpa using h), List.getElem?_replicate] at e
      split at e <;> cases e
  mine := fun i d c e => by
    have h := ho i c
    rw [List.getElem?_append_right (by simpa using h), List.getElem?_replicate] at e
    split at e <;> cases e
  apart := fun i j d e a c _ q1 _ _ _ => by
    have h := ho i c
    rw [List.getElem?_append_right (by simpa using h), List.getElem?_replicate] at q1
    split at q1 <;> cases q1
/-- THE RULE for a def by data -/
theorem fn_data {x qual : Str} {st : Stmt} {f : Addr} {fd : FuncData} {N ps : List Str} {k n : Nat} {own : List Nat} {g : Vars → Out} (F : Fun K x qual st f fd) (S : FnScope N ps (defScope st)) (hn : ps.length = n) (ho : (own.all fun i => decide (n ≤ i)) = true)
    (hb : ∀ (cdv : Value) (A : Around) (outer : List Env) (s : Shared) (H : Hp) (E : XK), Room k (A.deeper (envOfC qual (defScope st) s.heap.objs.size f cdv)) → BX (cxOf (L2.CX P w) P w K mg base N qual (defScope st) f cdv A outer s H E) E own (defBody st) g) :
    FnOk P w K mg base (L2.CX P w) (k + 1) f fd ps (spD K mg n (fnD N.length g)) := by
  refine F.okX S (fun vs H Q E h => ?_) fun cdv A outer s H vs Q E hr h => ?_
  · rw [h.1]; exact hn.symm
  obtain ⟨hl, O, ds, hO, r, z⟩ := h
  obtain ⟨t, p, ht⟩ := hb cdv A outer s H E hr
  have hpl : ps.length ≤ N.length := by have := congrArg List.length S.pre; rw [List.length_take] at this; omega
  have hdl : ds.length = n := by rw [← r.length]; exact hl
  refine ⟨t, p, ht _ H _ Q H O O (start_rel hO r (by omega) fun i hi => by have := of_decide_eq_true (List.all_eq_true.mp ho i hi); omega) ?_⟩
  unfold fnD at z
  cases e : g (ds.map some ++ List.replicate (N.length - ds.length) none) with
  | nx ρ' => rw [e] at z; exact fun H' s' => z .non H' s' .non
  | rt d => rw [e] at z; exact z
  | err c ρ' => rw [e] at z; exact z
  | bk _ => rw [e] at z; exact z.elim
  | ct _ => rw [e] at z; exact z.elim
  | bad => rw [e] at z; exact z.elim
/-- .. as a callee -/
theorem cal_data {x qual : Str} {st : Stmt} {f : Addr} {fd : FuncData} {N ps : List Str} {k n : Nat} {own : List Nat} {g : Vars → Out} (F : Fun K x qual st f fd) (hm : mg x = some (.ref f)) (hbn : Binds K fd ps []) (S : FnScope N ps (defScope st)) (hn : ps.length = n) (ho : (own.all fun i => decide (n ≤ i)) = true)
    (hb : ∀ (cdv : Value) (A : Around) (outer : List Env) (s : Shared) (H : Hp) (E : XK), Room k (A.deeper (envOfC qual (defScope st) s.heap.objs.size f cdv)) → BX (cxOf (L2.CX P w) P w K mg base N qual (defScope st) f cdv A outer s H E) E own (defBody st) g) :
    Cal P w K mg base (k + 1) x n (fnD N.length g) := ⟨f, fd, ps, hn, fn_data F S hn ho hb, hm, F.kp, hbn⟩
/-- no call is left: nothing is said -/
theorem cal_zero {x qual : Str} {st : Stmt} {f : Addr} {fd : FuncData} {ps : List Str} {n : Nat} (F : Fun K x qual st f fd) (hm : mg x = some (.ref f)) (hbn : Binds K fd ps []) (hn : ps.length = n) : Cal P w K mg base 0 x n fun _ => .bad := by
  have no : ∀ vs H Q E, ¬ spD K mg n (fun _ => .bad) vs H Q E := fun vs H Q E h => by
    obtain ⟨_, _, _, _, _, z⟩ := h
    exact z
  exact ⟨f, fd, ps, hn, ⟨fun vs H Q E h => absurd h (no vs H Q E), fun A outer s H args us vs Q E _ _ _ _ h => absurd h (no vs H Q E)⟩, hm, F.kp, hbn⟩
theorem takesD {N : List Str} {qual : Str} {scope : Scope} {f : Addr} {cdv : Value} {A : Around} {outer : List Env} {s : Shared} {H : Hp} {E : XK} : Takes (cxOf (L2.CX P w) P w K mg base N qual scope f cdv A outer s H E) (WD E) := takes_of rfl rfl rfl rfl
theorem passD {N : List Str} {qual : Str} {scope : Scope} {f : Addr} {cdv : Value} {A : Around} {outer : List Env} {s : Shared} {H : Hp} {E : XK} : PassesOwn (model (cxOf (L2.CX P w) P w K mg base N qual scope f cdv A outer s H E).prog (cxOf (L2.CX P w) P w K mg base N qual scope f cdv A outer s H E).w) (cxOf (L2.CX P w) P w K mg base N qual scope f cdv A outer s H E).A (cxOf (L2.CX P w) P w K mg base N qual scope f cdv A outer s H E).env (cxOf (L2.CX P w) P w K mg base N qual scope f cdv A outer s H E).xe := passes_of rfl
end
end Pu
set_option Elab.async false
set_option linter.all false
set_option maxRecDepth 100000
set_option maxHeartbeats 4000000
namespace Pu
open PySem PySem.Spec PyProof.Rows L2
/-- fuel of a while -/
abbrev wfuel : Nat := 1000000
def gAddI : PyData → PyData → Option PyData := gInt (fun _ _ => true) fun i j => .int (i + j)
def gSubI : PyData → PyData → Option PyData := gInt (fun _ _ => true) fun i j => .int (i - j)
/-- the law's own promise -/
def spLaw (K : PySem.W.Frag) : Sp := fun vs H Q _ => ∃ (a : Addr) (ns : List Int), vs = [.ref a] ∧ SqL K H a (ns.map V.int) ∧ ns.length ≤ 63 ∧ ∀ H', Q (.bl true) H'
theorem law_imp {K : PySem.W.Frag} {mg : Str → Option Value} {f : List PyData → R PyData} (hl : ∀ ns : List Int, ns.length ≤ 63 → f [.list (ns.map .int)] = .ok (.bool true)) : ∀ vs H Q E, spLaw K vs H Q E → spD K mg 1 f vs H Q E := fun vs H Q E h => by
  obtain ⟨a, ns, rfl, hS, h63, q⟩ := h
  refine ⟨rfl, [], [.list (ns.map .int)], fun a z => absurd z (by simp), .cons (.lst (by rw [hide_nil]; exact hS) (Rps.ofInts ns)) .nil, ?_⟩
  rw [hl ns h63]
  intro v H' s r
  cases r
  exact q H'
theorem walkL {l : PySem.W.OpenLaw} {q : Program} {loose : List Str} {XP : (Str → Option Value) → Heap → Prop} {YP : World → Heap → Prop} {d : DefRec} {K : Params → PySem.W.Frag} {k : Nat} {x : Str} (hn : l.most = some 63) (hdf : d.params.defaults = []) (hr : Room k callerA)
    (hY : ∀ (w : World) (h : Heap), YP w h → (K w.params).In h)
    (F : ∀ (w : World) (mg : Str → Option Value) (fa : Addr) (h : Heap), (K w.params).In h → h.Ns mainGlobals mg → mg d.name = some (.ref fa) →
      ∃ fd : FuncData, (∀ (s : Shared) (u : Value), BindsTo s fd ⟨[u], []⟩ [(x, u)]) ∧ ∀ base : Heap, (K w.params).In base → base.Ns mainGlobals mg → FnOk l.prog w (K w.params) mg base (L2.CX l.prog w) k fa fd [x] (spLaw (K w.params))) :
    PySem.W.WalkO q loose XP YP l.row.toRowW d [] (fun f vs => PySem.call f vs) :=
  L2.walk_of (n := 63) (k := k) (x := x) (CX := fun w => L2.CX l.prog w) (sp := fun w => spLaw (K w.params)) hn (by decide) hdf hr hY F (fun _ _ a ns hl _ hS => ⟨a, ns, rfl, hS, hl, fun _ => rfl⟩) fun _ _ _ _ _ z => by
    obtain ⟨_, _, _, _, _, _, _, _, _, _, _, _, z⟩ := z
    exact z
/-! ### raise -/
/-- an own error class over ValueError -/
def ErrF (K : PySem.W.Frag) (mg : Str → Option Value) (c : Str) : Prop := ∃ C, mg c = some (.ref C) ∧ PySem.W.excIn K C [.type "ValueError", .type "Exception", .type "BaseException", .type "object"] "ValueError.__new__" = true ∧ PySem.W.keepIn K (.ref C) = true ∧
  PySem.W.subIn K (.ref C) (.type "BaseException") = some true ∧ PySem.W.typeIn K (.ref C) = some (.type "type")
def sRaise (c : Str) (ρ : Vars) : Out := .err c ρ
theorem sx_raise {X : Cx} {W : WX} {own : List Nat} {x m : Str} {j : Nat} {p p2 pos' pos : Pos} (hc : X.calm = true) (tk : Takes X W) (F : ErrF X.K X.mg x) (hg : Gl X x) (hdb : (x == ("__debug__" : Str)) = false := by decide) :
    SX X W own (.Raise (some (.Call (.Name x p) [.Constant (.str m) j p2] [] pos')) none pos) (sRaise x) := by
  obtain ⟨C, h1, h2, h3, h4, h5⟩ := F
  refine ⟨_, ps_raise hc tk (pmk_own PySem.F.excBase_ValueError h2 h1 h3 (raises_own h4 h5) hg hdb), fun σ H ρ D H0 O0 O r z => ?_⟩
  have e : exV X.mg x = .ref C := by unfold exV; rw [h1]; rfl
  rw [← e]
  exact z σ H O r (Same.refl _)
end Pu
set_option Elab.async false
set_option linter.all false
set_option maxRecDepth 100000
set_option maxHeartbeats 4000000
namespace Pu
open PySem PySem.Spec PyProof.Rows L2
section
variable (ρ : Vars)
@[simp] theorem u_sSeq (g h : Vars → Out) : sSeq g h ρ = (g ρ).then h := rfl
@[simp] theorem u_sNil : sNil ρ = .nx ρ := rfl
@[simp] theorem u_sRaise (c : Str) : sRaise c ρ = .err c ρ := rfl
@[simp] theorem u_sBrk : sBrk ρ = .bk ρ := rfl
@[simp] theorem u_sCt : sCt ρ = .ct ρ := rfl
@[simp] theorem u_sRet (f : Vars → R PyData) : sRet f ρ = (f ρ).run ρ fun d => .rt d := rfl
@[simp] theorem u_sRetN : sRetN ρ = .rt .none := rfl
@[simp] theorem u_sExpr (f : Vars → R PyData) : sExpr f ρ = (f ρ).run ρ fun _ => .nx ρ := rfl
@[simp] theorem u_sIf (c : Vars → R Bool) (g h : Vars → Out) : sIf c g h ρ = (c ρ).run ρ fun b => if b = true then g ρ else h ρ := rfl
@[simp] theorem u_sSet0 (i : Nat) (f : Vars → R PyData) : sSet [] i f ρ = (f ρ).run ρ fun d => .nx (ρ.set i (some d)) := rfl
@[simp] theorem u_sSet1 (o : Nat) (os : List Nat) (i : Nat) (f : Vars → R PyData) : sSet (o :: os) i f ρ = (f ρ).run ρ fun d => if imm d = true then .nx (ρ.set i (some d)) else .bad := rfl
@[simp] theorem u_sSetM (own : List Nat) (i : Nat) (f : Vars → R PyData) : sSetM own i f ρ = (f (mask own ρ)).run ρ fun d => .nx (ρ.set i (some d)) := rfl
@[simp] theorem mask_nil : mask [] ρ = ρ := by
  have h : ∀ (k : Nat) (ρ : Vars), maskF [] k ρ = ρ := by
    intro k ρ
    induction ρ generalizing k with
    | nil => rfl
    | cons x r ih => unfold maskF; rw [ih]; rfl
  exact h 0 ρ
@[simp] theorem u_mask_c (own : List Nat) (k : Nat) (x : Option PyData) : maskF own k (x :: ρ) = (if own.contains k = true then none else x) :: maskF own (k + 1) ρ := rfl
@[simp] theorem u_mask_n (own : List Nat) (k : Nat) : maskF own k [] = [] := rfl
@[simp] theorem u_sFor (own : List Nat) (fi : Vars → R (List PyData)) (gt : PyData → Vars → Option Vars) (g : Vars → Out) : sFor own fi gt g ρ = (fi (mask own ρ)).run ρ fun ds => forL gt g ds ρ := rfl
@[simp] theorem u_sAsg (own : List Nat) (gt : PyData → Vars → Option Vars) (f : Vars → R PyData) : sAsg own gt f ρ = (f (mask own ρ)).run ρ fun d => match gt d ρ with
  | some ρ' => .nx ρ'
  | none => .bad := rfl
@[simp] theorem u_sAug (own : List Nat) (i : Nat) (g : PyData → PyData → Option PyData) (f : Vars → R PyData) : sAug own i g f ρ = match ρ.getD i none with
  | some d => (f (mask own ρ)).run ρ fun e => match g d e with
    | some z => .nx (ρ.set i (some z))
    | none => .bad
  | none => .bad := rfl
@[simp] theorem u_sPar (own : List Nat) (i j : Nat) (f : Vars → R (List PyData)) : sPar own i j f ρ = (f (mask own ρ)).run ρ fun ds => match ds with
  | [d, e] => .nx ((ρ.set i (some d)).set j (some e))
  | _ => .bad := rfl
@[simp] theorem u_sNew (own : List Nat) (i : Nat) (f : Vars → R (List PyData)) : sNew own i f ρ = (f (mask own ρ)).run ρ fun ds => .nx (ρ.set i (some (.list ds))) := rfl
@[simp] theorem u_sSetLc (own : List Nat) (i : Nat) (f : Vars → R (List PyData)) : sSetLc own i f ρ = (f (mask own ρ)).run ρ fun ds => .nx (ρ.set i (some (.list ds))) := rfl
@[simp] theorem u_sApp (i : Nat) (f : Vars → R PyData) : sApp i f ρ = match ρ.getD i none with
  | some (.list ds) => (f ρ).run ρ fun d => if (decide (ds.length < sizeLine) && imm d) = true then .nx (ρ.set i (some (.list (ds ++ [d])))) else .bad
  | _ => .bad := rfl
@[simp] theorem u_sAppM (own : List Nat) (i : Nat) (f : Vars → R PyData) : sAppM own i f ρ = match ρ.getD i none with
  | some (.list ds) => (f (mask own ρ)).run ρ fun d => if ds.length < sizeLine then .nx (ρ.set i (some (.list (ds ++ [d])))) else .bad
  | _ => .bad := rfl
@[simp] theorem u_eVar (i : Nat) : eVar i ρ = R.of (ρ.getD i none) := rfl
@[simp] theorem u_eC (d : PyData) : eC d ρ = .ok d := rfl
@[simp] theorem u_aNil : aNil ρ = .ok [] := rfl
@[simp] theorem u_aCons (f : Vars → R PyData) (g : Vars → R (List PyData)) : aCons f g ρ = (f ρ).bind fun d => (g ρ).bind fun ds => .ok (d :: ds) := rfl
@[simp] theorem u_eTup (f : Vars → R (List PyData)) : eTup f ρ = (f ρ).bind fun ds => if ds.length ≤ sizeLine then .ok (.tuple ds) else .bad := rfl
@[simp] theorem u_eLst (f : Vars → R (List PyData)) : eLst f ρ = (f ρ).bind fun ds => if ds.length ≤ sizeLine then .ok (.list ds) else .bad := rfl
@[simp] theorem u_nLst (f : Vars → R (List PyData)) : nLst f ρ = (f ρ).bind fun ds => if ds.length ≤ sizeLine then .ok ds else .bad := rfl
@[simp] theorem u_eOp (g : PyData → PyData → Option PyData) (f h : Vars → R PyData) : eOp g f h ρ = (f ρ).bind fun d => (h ρ).bind fun e => R.of (g d e) := rfl
@[simp] theorem u_eCall (g : List PyData → Option PyData) (f : Vars → R (List PyData)) : eCall g f ρ = (f ρ).bind fun ds => R.of (g ds) := rfl
@[simp] theorem u_eFn (g : List PyData → R PyData) (f : Vars → R (List PyData)) : eFn g f ρ = (f ρ).bind g := rfl
@[simp] theorem u_tOf (f : Vars → R PyData) : tOf f ρ = (f ρ).bind fun d => match d with
  | .bool b => .ok b
  | _ => .bad := rfl
@[simp] theorem u_tTru (f : Vars → R PyData) : tTru f ρ = (f ρ).bind fun d => R.of (truD d) := rfl
@[simp] theorem u_tNotR (f : Vars → R Bool) : tNotR f ρ = (f ρ).bind fun b => .ok (!b) := rfl
@[simp] theorem u_tAndR (f g : Vars → R Bool) : tAndR f g ρ = (f ρ).bind fun b => if b = true then g ρ else .ok false := rfl
@[simp] theorem u_tOrR (f g : Vars → R Bool) : tOrR f g ρ = (f ρ).bind fun b => if b = true then .ok true else g ρ := rfl
@[simp] theorem u_tYesD : tYesD ρ = .ok true := rfl
@[simp] theorem u_eAnd (f g : Vars → R PyData) : eAnd f g ρ = (tOf f ρ).bind fun b => if b = true then g ρ else .ok (.bool false) := rfl
@[simp] theorem u_eOr (f g : Vars → R PyData) : eOr f g ρ = (tOf f ρ).bind fun b => if b = true then .ok (.bool true) else g ρ := rfl
@[simp] theorem u_eNot (f : Vars → R PyData) : eNot f ρ = (tOf f ρ).bind fun b => .ok (.bool (!b)) := rfl
@[simp] theorem u_eIf (c : Vars → R Bool) (f g : Vars → R PyData) : eIf c f g ρ = (c ρ).bind fun b => if b = true then f ρ else g ρ := rfl
@[simp] theorem u_eNeg (f : Vars → R PyData) : eNeg f ρ = (f ρ).bind fun d => match d with
  | .int i => .ok (.int (-i))
  | _ => .bad := rfl
@[simp] theorem u_eIsi (T : String) (f : Vars → R PyData) : eIsi T f ρ = (f ρ).bind fun d => .ok (.bool (isiB T d)) := rfl
@[simp] theorem u_oNone : oNone ρ = .ok none := rfl
@[simp] theorem u_oSome (f : Vars → R PyData) : oSome f ρ = (f ρ).bind fun d => match d with
  | .int i => .ok (some i)
  | _ => .bad := rfl
@[simp] theorem u_eSl (f : Vars → R PyData) (g h : Vars → R (Option Int)) : eSl f g h ρ = (f ρ).bind fun d => (g ρ).bind fun l => (h ρ).bind fun u => R.of (gSl d l u) := rfl
@[simp] theorem u_iSeq (f : Vars → R PyData) : iSeq f ρ = (f ρ).bind fun d => match d with
  | .list ds => .ok ds
  | .tuple ds => .ok ds
  | _ => .bad := rfl
@[simp] theorem u_iRange (f : Vars → R (List PyData)) : iRange f ρ = (f ρ).bind fun ds => match ds with
  | [.int j] => if okI j = true then .ok (rngD 0 j.toNat) else .bad
  | [.int i, .int j] => if (okI i && okI j) = true then .ok (rngD i (j - i).toNat) else .bad
  | _ => .bad := rfl
@[simp] theorem u_iZipD (f : Vars → R (List PyData)) : iZipD f ρ = (f ρ).bind fun ds => match ds with
  | [.list xs, .list ys] => .ok (zipD xs ys)
  | [.tuple xs, .tuple ys] => .ok (zipD xs ys)
  | _ => .bad := rfl
@[simp] theorem u_eLc (fi : Vars → R (List PyData)) (gt : PyData → Vars → Option Vars) (tt : Vars → R Bool) (f : Vars → R PyData) (vs : List Nat) : eLc fi gt tt f vs ρ = (nLc fi gt tt f vs ρ).bind fun ys => .ok (.list ys) := rfl
@[simp] theorem u_nLc (fi : Vars → R (List PyData)) (gt : PyData → Vars → Option Vars) (tt : Vars → R Bool) (f : Vars → R PyData) (vs : List Nat) : nLc fi gt tt f vs ρ = (fi ρ).bind fun ds => match lcL gt tt f (wipeD ρ vs) ds with
    | .ok ys => if ys.length < sizeLine then .ok ys else .bad
    | _ => .bad := rfl
@[simp] theorem u_wipe_n : wipeD ρ [] = ρ := rfl
@[simp] theorem u_wipe_c (v : Nat) (vs : List Nat) : wipeD ρ (v :: vs) = (wipeD ρ vs).set v none := rfl
@[simp] theorem u_gtName (i : Nat) (d : PyData) : gtName i d ρ = some (ρ.set i (some d)) := rfl
@[simp] theorem u_gtNil : gtNil [] ρ = some ρ := rfl
@[simp] theorem u_gtCons (g : PyData → Vars → Option Vars) (h : List PyData → Vars → Option Vars) (d : PyData) (ds : List PyData) : gtCons g h (d :: ds) ρ = (g d ρ).bind fun ρ' => h ds ρ' := rfl
@[simp] theorem u_gtTup (n : Nat) (h : List PyData → Vars → Option Vars) (ds : List PyData) : gtTup n h (.tuple ds) ρ = if ds.length = n then h ds ρ else none := rfl
@[simp] theorem u_forL_n (gt : PyData → Vars → Option Vars) (g : Vars → Out) : forL gt g [] ρ = .nx ρ := rfl
theorem u_forL_c (gt : PyData → Vars → Option Vars) (g : Vars → Out) (d : PyData) (ds : List PyData) : forL gt g (d :: ds) ρ = match gt d ρ with
    | none => .bad
    | some ρ1 => match g ρ1 with
      | .nx ρ2 => forL gt g ds ρ2
      | .ct ρ2 => forL gt g ds ρ2
      | .bk ρ2 => .nx ρ2
      | .rt d => .rt d
      | .err c ρ2 => .err c ρ2
      | .bad => .bad := rfl
@[simp] theorem u_lcL_n (gt : PyData → Vars → Option Vars) (tt : Vars → R Bool) (f : Vars → R PyData) : lcL gt tt f ρ [] = .ok [] := rfl
theorem u_lcL_c (gt : PyData → Vars → Option Vars) (tt : Vars → R Bool) (f : Vars → R PyData) (d : PyData) (ds : List PyData) : lcL gt tt f ρ (d :: ds) = match gt d ρ with
    | none => .bad
    | some ρ' => (tt ρ').bind fun b => if b = true then (f ρ').bind fun y => (lcL gt tt f ρ ds).bind fun ys => .ok (y :: ys) else lcL gt tt f ρ ds := rfl
end
@[simp] theorem u_gInt (C : Int → Int → Bool) (g : Int → Int → PyData) (i j : Int) : gInt C g (.int i) (.int j) = if C i j = true then some (g i j) else none := rfl
@[simp] theorem u_gCmp (p : Int → Int → Bool) (i j : Int) : gCmp p (.int i) (.int j) = some (.bool (p i j)) := rfl
@[simp] theorem u_gAdd_i (i j : Int) : gAdd (.int i) (.int j) = some (.int (i + j)) := rfl
@[simp] theorem u_gAdd_t (xs ys : List PyData) : gAdd (.tuple xs) (.tuple ys) = if xs.length + ys.length ≤ sizeLine then some (.tuple (xs ++ ys)) else none := rfl
@[simp] theorem u_gAdd_l (xs ys : List PyData) : gAdd (.list xs) (.list ys) = if xs.length + ys.length ≤ sizeLine then some (.list (xs ++ ys)) else none := rfl
@[simp] theorem u_gSub_i (i j : Int) : gSub (.int i) (.int j) = some (.int (i - j)) := rfl
@[simp] theorem u_gSub_b (a b : Bool) : gSub (.bool a) (.bool b) = some (.int ((if a = true then (1 : Int) else 0) - (if b = true then (1 : Int) else 0))) := rfl
@[simp] theorem u_gIx_t (xs : List PyData) (i : Int) : gIx (.tuple xs) (.int i) = atI xs i := rfl
@[simp] theorem u_gIx_l (xs : List PyData) (i : Int) : gIx (.list xs) (.int i) = atI xs i := rfl
@[simp] theorem u_gSl_t (xs : List PyData) (l u : Option Int) : gSl (.tuple xs) l u = some (.tuple (cutD xs l u)) := rfl
@[simp] theorem u_gSl_l (xs : List PyData) (l u : Option Int) : gSl (.list xs) l u = some (.list (cutD xs l u)) := rfl
@[simp] theorem u_gLen_t (xs : List PyData) : gLen [.tuple xs] = some (.int xs.length) := rfl
@[simp] theorem u_gLen_l (xs : List PyData) : gLen [.list xs] = some (.int xs.length) := rfl
@[simp] theorem u_gTuple_t (xs : List PyData) : gTuple [.tuple xs] = some (.tuple xs) := rfl
@[simp] theorem u_gTuple_l (xs : List PyData) : gTuple [.list xs] = some (.tuple xs) := rfl
@[simp] theorem u_gList_t (xs : List PyData) : gList [.tuple xs] = some (.list xs) := rfl
@[simp] theorem u_gList_l (xs : List PyData) : gList [.list xs] = some (.list xs) := rfl
@[simp] theorem u_gIntC_i (i : Int) : gIntC [.int i] = some (.int i) := rfl
@[simp] theorem u_gIntC_b (b : Bool) : gIntC [.bool b] = some (.int (if b then 1 else 0)) := rfl
@[simp] theorem u_truD_b (b : Bool) : truD (.bool b) = some b := rfl
/-- items by places -/
@[simp] theorem atI_zero {α : Type} (x : α) (r : List α) : atI (x :: r) 0 = some x := atI_nat (j := 0) rfl
@[simp] theorem atI_one {α : Type} (x y : α) (r : List α) : atI (x :: y :: r) 1 = some y := atI_nat (j := 1) rfl
@[simp] theorem atI_two {α : Type} (x y z : α) (r : List α) : atI (x :: y :: z :: r) 2 = some z := atI_nat (j := 2) rfl
theorem sz1000 {n : Nat} (h : n ≤ 10000000) : n ≤ sizeLine := Nat.le_trans h (by decide)
theorem sz1000' {n : Nat} (h : n ≤ 10000000) : n < sizeLine := Nat.lt_of_le_of_lt h (by decide)
@[simp] theorem sz0 : (0 : Nat) ≤ sizeLine := by decide
@[simp] theorem sz1 : (1 : Nat) ≤ sizeLine := by decide
@[simp] theorem sz2 : (2 : Nat) ≤ sizeLine := by decide
@[simp] theorem sz3 : (3 : Nat) ≤ sizeLine := by decide
@[simp] theorem sz4 : (4 : Nat) ≤ sizeLine := by decide
theorem fnD_of {N : Nat} {g : Vars → Out} {ds : List PyData} {d : PyData} (h : g (ds.map some ++ List.replicate (N - ds.length) none) = .rt d) : fnD N g ds = .ok d := by unfold fnD; rw [h]
@[simp] theorem then_ite {c : Prop} [Decidable c] (x y : Out) (f : Vars → Out) : (if c then x else y).then f = if c then x.then f else y.then f := by split <;> rfl
@[simp] theorem bind_ite {α β : Type} {c : Prop} [Decidable c] (x y : R α) (f : α → R β) : (if c then x else y).bind f = if c then x.bind f else y.bind f := by split <;> rfl
@[simp] theorem run_ite {α : Type} {c : Prop} [Decidable c] (x y : R α) (ρ : Vars) (k : α → Out) : (if c then x else y).run ρ k = if c then x.run ρ k else y.run ρ k := by split <;> rfl
@[simp] theorem of_ite {α : Type} {c : Prop} [Decidable c] (x y : Option α) : R.of (if c then x else y) = if c then R.of x else R.of y := by split <;> rfl
end Pu
set_option Elab.async false
set_option linter.all false
set_option maxRecDepth 100000
set_option maxHeartbeats 4000000
namespace Nm
open PySem Pu
/-- a number: its first part's exponent and times, and the rest -/
inductive O where
  | z | c (e : O) (n : Int) (r : O)
  deriving DecidableEq
namespace O
def parts : O → List (O × Int)
  | z => []
  | c e n r => (e, n) :: r.parts
def of : List (O × Int) → O
  | [] => z
  | (e, n) :: r => c e n (of r)
@[simp] theorem of_parts : ∀ a : O, of a.parts = a
  | z => rfl
  | c e n r => by show c e n (of r.parts) = _; rw [of_parts r]
@[simp] theorem parts_of : ∀ ps : List (O × Int), (of ps).parts = ps
  | [] => rfl
  | (e, n) :: r => by show (e, n) :: (of r).parts = _; rw [parts_of r]
theorem parts_inj {a b : O} (h : a.parts = b.parts) : a = b := by rw [← of_parts a, h, of_parts]
/-- nesting, parts in all, own parts -/
def h : O → Nat
  | z => 0
  | c e _ r => max (e.h + 1) r.h
def size : O → Nat
  | z => 0
  | c e _ r => 1 + e.size + r.size
def len : O → Nat
  | z => 0
  | c _ _ r => r.len + 1
theorem len_parts : ∀ a : O, a.parts.length = a.len
  | z => rfl
  | c e n r => by show r.parts.length + 1 = _; rw [len_parts r]; rfl
theorem h_le_size : ∀ a : O, a.h ≤ a.size
  | z => Nat.le_refl _
  | c e n r => by
    have h1 := h_le_size e
    have h2 := h_le_size r
    show max (e.h + 1) r.h ≤ 1 + e.size + r.size
    omega
theorem len_le_size : ∀ a : O, a.len ≤ a.size
  | z => Nat.le_refl _
  | c e n r => by
    have h2 := len_le_size r
    show r.len + 1 ≤ 1 + e.size + r.size
    omega
end O
open O
/-- as Python's data -/
def encL : O → List PyData
  | .z => []
  | .c e n r => .tuple [.tuple (encL e), .int n] :: encL r
abbrev enc (a : O) : PyData := .tuple (encL a)
abbrev encP (p : O × Int) : PyData := .tuple [enc p.1, .int p.2]
@[simp] theorem encL_z : encL .z = [] := rfl
@[simp] theorem encL_c (e : O) (n : Int) (r : O) : encL (.c e n r) = .tuple [.tuple (encL e), .int n] :: encL r := rfl
theorem encL_parts : ∀ a : O, encL a = a.parts.map encP
  | .z => rfl
  | .c e n r => by show _ :: encL r = _ :: (r.parts.map encP); rw [encL_parts r]
theorem encL_of (ps : List (O × Int)) : encL (of ps) = ps.map encP := by rw [encL_parts, parts_of]
@[simp] theorem encL_len (a : O) : (encL a).length = a.len := by rw [encL_parts, List.length_map, len_parts]
theorem enc_depth : ∀ a : O, (enc a).depth = 2 * a.h + 1
  | .z => by simp [PyData.depth, PyData.depthAll, O.h]
  | .c e n r => by
    have h1 := enc_depth e
    have h2 := enc_depth r
    simp only [PyData.depth] at h1 h2
    simp only [encL_c, PyData.depth, PyData.depthAll, O.h]
    omega
theorem enc_lay : ∀ a : O, (enc a).canLay0 = true
  | .z => by simp [PyData.canLay0, PyData.canLayAll0]
  | .c e n r => by
    have h1 := enc_lay e
    have h2 := enc_lay r
    simp only [PyData.canLay0] at h1 h2
    simp only [encL_c, PyData.canLay0, PyData.canLayAll0, h1, h2, Bool.and_self]
theorem enc_shaped {a : O} (h : a.h ≤ 31) : SeqAt.shaped (enc a) = true := by
  unfold SeqAt.shaped
  rw [enc_lay, enc_depth, Bool.true_and]
  exact decide_eq_true (by omega)
theorem enc_imm : ∀ a : O, imm (enc a) = true
  | .z => by simp [imm, imms]
  | .c e n r => by
    have h1 := enc_imm e
    have h2 := enc_imm r
    simp only [imm] at h1 h2
    simp only [encL_c, imm, imms, h1, h2, Bool.and_self]
theorem enc_eqv : ∀ a b : O, PyData.eqv (enc a) (enc b) = decide (a = b)
  | .z, .z => by simp [PyData.eqv, PyData.eqvAll]
  | .z, .c e n r => by simp [PyData.eqv, PyData.eqvAll]
  | .c e n r, .z => by simp [PyData.eqv, PyData.eqvAll]
  | .c e n r, .c e' n' r' => by
    have h1 := enc_eqv e e'
    have h2 := enc_eqv r r'
    simp only [PyData.eqv] at h1 h2
    simp only [encL_c, PyData.eqv, PyData.eqvAll, h1, h2, Bool.and_true, O.c.injEq]
    by_cases c1 : e = e' <;> by_cases c2 : n = n' <;> by_cases c3 : r = r' <;> simp [c1, c2, c3]
theorem gEq_enc {a b : O} (ha : a.h ≤ 31) (hb : b.h ≤ 31) : gEq (enc a) (enc b) = some (.bool (decide (a = b))) := by
  unfold gEq
  rw [enc_shaped ha, enc_shaped hb, enc_eqv]; rfl
theorem gNe_enc {a b : O} (ha : a.h ≤ 31) (hb : b.h ≤ 31) : gNe (enc a) (enc b) = some (.bool (!decide (a = b))) := by
  unfold gNe
  rw [enc_shaped ha, enc_shaped hb, enc_eqv]; rfl
@[simp] theorem gEq_int (i j : Int) : gEq (.int i) (.int j) = some (.bool (decide (i = j))) := by
  unfold gEq SeqAt.shaped
  simp [PyData.canLay0, PyData.depth, PyData.eqv, Bool.beq_eq_decide_eq]
@[simp] theorem gNe_int (i j : Int) : gNe (.int i) (.int j) = some (.bool (!decide (i = j))) := by
  unfold gNe SeqAt.shaped
  simp [PyData.canLay0, PyData.depth, PyData.eqv, Bool.beq_eq_decide_eq]
theorem gEq_nil {a : O} (ha : a.h ≤ 31) : gEq (enc a) (.tuple []) = some (.bool (decide (a = .z))) := gEq_enc (b := .z) ha (by decide)
theorem gNe_nil {a : O} (ha : a.h ≤ 31) : gNe (enc a) (.tuple []) = some (.bool (!decide (a = .z))) := gNe_enc (b := .z) ha (by decide)
/-! ### the order -/
def cmp : O → O → Int
  | .z, .z => 0
  | .z, .c _ _ _ => -1
  | .c _ _ _, .z => 1
  | .c e n r, .c e' n' r' => if cmp e e' ≠ 0 then cmp e e' else if n ≠ n' then (if n > n' then 1 else -1) else cmp r r'
theorem cmp_range : ∀ a b : O, cmp a b = -1 ∨ cmp a b = 0 ∨ cmp a b = 1
  | .z, .z => by simp [cmp]
  | .z, .c _ _ _ => by simp [cmp]
  | .c _ _ _, .z => by simp [cmp]
  | .c e n r, .c e' n' r' => by
    unfold cmp
    have h1 := cmp_range e e'
    have h2 := cmp_range r r'
    split
    · exact h1
    · split
      · split <;> simp
      · exact h2
theorem cmp_eq : ∀ a b : O, cmp a b = 0 ↔ a = b
  | .z, .z => by simp [cmp]
  | .z, .c _ _ _ => by simp [cmp]
  | .c _ _ _, .z => by simp [cmp]
  | .c e n r, .c e' n' r' => by
    unfold cmp
    have h1 := cmp_eq e e'
    have h2 := cmp_eq r r'
    by_cases c1 : cmp e e' = 0
    · rw [if_neg (by simp [c1])]
      by_cases c2 : n = n'
      · rw [if_neg (by simp [c2]), h2]
        simp [h1.mp c1, c2]
      · rw [if_pos c2]
        constructor
        · intro h; split at h <;> simp at h
        · intro h; exact absurd (O.c.inj h).2.1 c2
    · rw [if_pos c1]
      constructor
      · intro h; exact absurd h c1
      · intro h; exact absurd (h1.mpr (O.c.inj h).1) c1
@[simp] theorem cmp_self (a : O) : cmp a a = 0 := (cmp_eq a a).mpr rfl
theorem cmp_neg : ∀ a b : O, cmp b a = - cmp a b
  | .z, .z => by simp [cmp]
  | .z, .c _ _ _ => by simp [cmp]
  | .c _ _ _, .z => by simp [cmp]
  | .c e n r, .c e' n' r' => by
    unfold cmp
    have h1 := cmp_neg e e'
    have h2 := cmp_neg r r'
    by_cases c1 : cmp e e' = 0
    · have c1' : cmp e' e = 0 := by rw [h1, c1]; rfl
      rw [if_neg (show ¬ cmp e e' ≠ 0 from fun h => h c1), if_neg (show ¬ cmp e' e ≠ 0 from fun h => h c1')]
      by_cases c2 : n = n'
      · rw [if_neg (show ¬ n ≠ n' from fun h => h c2), if_neg (show ¬ n' ≠ n from fun h => h c2.symm), h2]
      · rw [if_pos (show n ≠ n' from c2), if_pos (show n' ≠ n from fun h => c2 h.symm)]
        by_cases c3 : n > n'
        · rw [if_pos c3, if_neg (show ¬ n' > n by omega)]
        · rw [if_neg c3, if_pos (show n' > n by omega)]; rfl
    · have c1' : cmp e' e ≠ 0 := by rw [h1]; omega
      rw [if_pos c1, if_pos c1', h1]
end Nm
set_option Elab.async false
set_option linter.all false
set_option maxRecDepth 100000
namespace Pu
open PySem
-- k01 k02 k15 k16 k23 k24 k26 k27 k28 k29 k30 k31 k32 k33 k34 k35 k36 k37 k41 k43 k44 k45 k47 k48 k49 k51 k52 k54 k55 k56 k57 k58 k61 k62 k63 k64 k65 k66 k68 k69 k71 k72 k73 k75 k76 k81 k82 k83 k84 slots 1 params 1
def G_is_whole (S : Nat → List PyData → R PyData) : Vars → Out :=
  (sRet (eAnd (eIsi "int" (eVar 0)) (eAnd (eNot (eIsi "bool" (eVar 0))) (eOp gGe (eVar 0) (eC (.int 0))))))
-- k01 k16 k23 k24 k26 k27 k28 k29 k30 k61 k62 k63 k64 k65 k66 k68 k69 k71 k72 k73 k75 k76 k81 k83 k84 slots 1 params 1
def G_whole (c0 : Nat) (S : Nat → List PyData → R PyData) : Vars → Out :=
  (sRet (eFn (S c0) (aCons (eTup aNil) (aCons (eVar 0) aNil))))
-- k01 k62 k63 k64 k65 k66 k69 k71 k72 k73 k75 k76 k83 k84 slots 0 params 0
def G_endless (c0 c1 : Nat) (S : Nat → List PyData → R PyData) : Vars → Out :=
  (sRet (eFn (fun ds => S c1 (ds ++ [.int 1])) (aCons (eFn (S c0) (aCons (eC (.int 1)) aNil)) aNil)))
-- k01 k16 k23 k24 k26 k27 k28 k29 k30 k31 k32 k33 k34 k35 k36 k37 k41 k44 k45 k47 k48 k61 k62 k63 k64 k65 k66 k68 k69 k71 k72 k73 k75 k76 k81 k82 k83 k84 slots 2 params 2
def G_raised (c0 : Nat) (S : Nat → List PyData → R PyData) : Vars → Out :=
  (sSeq (sIf (tNotR (tTru (eFn (S c0) (aCons (eVar 1) aNil)))) (sRaise "NoNumber") sNil)
    (sSeq (sIf (tOf (eOp gEq (eVar 1) (eC (.int 0)))) (sRet (eTup aNil)) sNil)
    (sRet (eTup (aCons (eTup (aCons (eVar 0) (aCons (eVar 1) aNil))) aNil)))))
-- k01 k02 k03 k04 k11 k12 k13 k14 k15 k16 k71 k72 k73 k75 k76 slots 5 params 2
def G_l_compare (c0 : Nat) (S : Nat → List PyData → R PyData) : Vars → Out :=
  (sSeq (sFor [] (iZipD (aCons (eVar 0) (aCons (eVar 1) aNil))) (gtTup 2 (gtCons (gtName 2) (gtCons (gtName 3) gtNil))) (sSeq (sSet [] 4 (eFn (S c0) (aCons (eOp gIx (eVar 2) (eC (.int 0))) (aCons (eOp gIx (eVar 3) (eC (.int 0))) aNil)))) (sSeq (sIf (tOf (eOp gEq (eVar 4) (eC (.int 0)))) (sSet [] 4 (eOp gSub (eOp gGt (eOp gIx (eVar 2) (eC (.int 1))) (eOp gIx (eVar 3) (eC (.int 1)))) (eOp gLt (eOp gIx (eVar 2) (eC (.int 1))) (eOp gIx (eVar 3) (eC (.int 1)))))) sNil) (sIf (tOf (eOp gNe (eVar 4) (eC (.int 0)))) (sRet (eVar 4)) sNil))))
    (sRet (eOp gSub (eOp gGt (eCall gLen (aCons (eVar 0) aNil)) (eCall gLen (aCons (eVar 1) aNil))) (eOp gLt (eCall gLen (aCons (eVar 0) aNil)) (eCall gLen (aCons (eVar 1) aNil))))))
-- k01 k02 k03 k04 k11 k12 k13 k14 k15 k16 k71 k72 k73 k75 k76 slots 7 params 3
def G_l_with (c0 : Nat) (S : Nat → List PyData → R PyData) : Vars → Out :=
  (sSeq (sSetLc [] 3 (nLc (iSeq (eVar 0)) (gtName 6) (tOf (eOp gGt (eFn (S c0) (aCons (eOp gIx (eVar 6) (eC (.int 0))) (aCons (eVar 1) aNil))) (eC (.int 0)))) (eVar 6) [6]))
    (sSeq (sSetLc [] 4 (nLc (iSeq (eVar 0)) (gtName 6) (tOf (eOp gLt (eFn (S c0) (aCons (eOp gIx (eVar 6) (eC (.int 0))) (aCons (eVar 1) aNil))) (eC (.int 0)))) (eVar 6) [6]))
    (sSeq (sSet [] 5 (eCall gSum (aCons (eLc (iSeq (eVar 0)) (gtName 6) (tOf (eOp gEq (eOp gIx (eVar 6) (eC (.int 0))) (eVar 1))) (eOp gIx (eVar 6) (eC (.int 1))) [6]) aNil)))
    (sRet (eCall gTuple (aCons (eOp gAdd (eOp gAdd (eVar 3) (eLst (aCons (eTup (aCons (eVar 1) (aCons (eOp gAdd (eVar 5) (eVar 2)) aNil))) aNil))) (eVar 4)) aNil))))))
-- k01 k02 k03 k04 k11 k12 k13 k14 k15 k16 k71 k72 k73 k75 k76 slots 2 params 1
def G_l_size (c0 : Nat) (S : Nat → List PyData → R PyData) : Vars → Out :=
  (sRet (eOp gAdd (eCall gLen (aCons (eVar 0) aNil)) (eCall gSum (aCons (eLc (iSeq (eVar 0)) (gtName 1) tYesD (eFn (S c0) (aCons (eOp gIx (eVar 1) (eC (.int 0))) aNil)) [1]) aNil))))
-- k01 k02 k03 k04 k11 k12 k13 k14 k15 k16 slots 7 params 2
def G_l_next (c0 c1 : Nat) (S : Nat → List PyData → R PyData) : Vars → Out :=
  (sSeq (sSet [] 1 (eOp gMod (eVar 1) (eOp gPow (eC (.int 10)) (eC (.int 60)))))
    (sSeq (sSet [] 2 (eOp gIx (eVar 0) (eOp gMod (eOp gMod (eOp gMul (eVar 1) (eC (.int 48271))) (eC (.int 1000003))) (eCall gLen (aCons (eVar 0) aNil)))))
    (sSeq (sSet [] 3 (eOp gIx (eVar 0) (eOp gMod (eOp gMod (eOp gMul (eVar 1) (eC (.int 69621))) (eC (.int 999983))) (eCall gLen (aCons (eVar 0) aNil)))))
    (sSeq (sSet [] 4 (eOp gAdd (eC (.int 1)) (eOp gIx (eLst (aCons (eOp gMod (eOp gDiv (eVar 1) (eC (.int 8))) (eC (.int 5))) (aCons (eOp gMod (eOp gDiv (eVar 1) (eC (.int 16))) (eOp gPow (eC (.int 10)) (eC (.int 50)))) aNil))) (eOp gMod (eOp gDiv (eVar 1) (eC (.int 8))) (eC (.int 2))))))
    (sSeq (sSet [] 5 (eOp gMod (eVar 1) (eC (.int 8))))
    (sSeq (sIf (tOf (eOp gEq (eVar 5) (eC (.int 4)))) (sRet (eSl (eVar 2) oNone (oSome (eNeg (eC (.int 1)))))) sNil)
    (sSeq (sIf (tOf (eOp gEq (eVar 5) (eC (.int 5)))) (sRet (eSl (eVar 2) (oSome (eNeg (eC (.int 1)))) oNone)) sNil)
    (sSeq (sIf (tOf (eOp gEq (eVar 5) (eC (.int 6)))) (sRet (eTup (aCons (eTup (aCons (eTup aNil) (aCons (eVar 4) aNil))) aNil))) sNil)
    (sSeq (sIf (tAndR (tOf (eOp gEq (eVar 5) (eC (.int 7)))) (tOf (eOp gNe (eVar 2) (eTup aNil)))) (sSeq (sSet [] 3 (eOp gIx (eOp gIx (eVar 2) (eNeg (eC (.int 1)))) (eC (.int 0)))) (sSet [] 4 (eC (.int 1)))) sNil)
    (sSeq (sSet [] 6 (eFn (S c0) (aCons (eVar 2) (aCons (eVar 3) (aCons (eVar 4) aNil)))))
    (sSeq (sIf (tOf (eOp gGt (eFn (S c1) (aCons (eVar 6) aNil)) (eC (.int 24)))) (sRet (eVar 2)) sNil)
    (sRet (eVar 6)))))))))))))
-- k01 k02 k03 k04 k11 k12 k13 k14 k15 k16 k72 k75 k76 slots 3 params 1
def G_l_pool (c0 : Nat) (S : Nat → List PyData → R PyData) : Vars → Out :=
  (sSeq (sNew [1] 1 (nLst (aCons (eTup aNil) (aCons (eTup (aCons (eTup (aCons (eTup aNil) (aCons (eC (.int 1)) aNil))) aNil)) (aCons (eTup (aCons (eTup (aCons (eTup (aCons (eTup (aCons (eTup aNil) (aCons (eC (.int 1)) aNil))) aNil)) (aCons (eC (.int 1)) aNil))) aNil)) aNil)))))
    (sSeq (sFor [1] (iSeq (eSl (eVar 0) oNone (oSome (eC (.int 24))))) (gtName 2) (sApp 1 (eFn (S c0) (aCons (eVar 1) (aCons (eVar 2) aNil)))))
    (sRet (eVar 1))))
-- k01 k04 k11 k13 k14 k15 k71 k72 slots 2 params 1
def G_l_pure (c0 : Nat) (S : Nat → List PyData → R PyData) : Vars → Out :=
  (sSeq (sFor [] (iSeq (eVar 0)) (gtName 1) (sIf (tOrR (tTru (eIsi "bool" (eOp gIx (eVar 1) (eC (.int 1))))) (tNotR (tTru (eFn (S c0) (aCons (eOp gIx (eVar 1) (eC (.int 0))) aNil))))) (sRet (eC (.bool false))) sNil))
    (sRet (eC (.bool true))))
-- k01 k04 k11 k13 k14 k71 k72 slots 2 params 2
def G_l_is (c0 : Nat) (S : Nat → List PyData → R PyData) : Vars → Out :=
  (sRet (eAnd (eIsi "tuple" (eVar 0)) (eAnd (eOp gEq (eVar 0) (eVar 1)) (eFn (S c0) (aCons (eVar 0) aNil)))))
-- k02 k03 k11 k12 k13 k14 k15 k16 k21 k22 k23 k24 k25 k26 k27 k28 k29 k30 k32 k33 k34 k41 k44 k45 k47 k48 k61 k62 k63 k64 k65 k66 k68 k69 k71 k72 k73 k75 k76 k81 k82 k83 k84 slots 5 params 2
def G_compare (c0 : Nat) (S : Nat → List PyData → R PyData) : Vars → Out :=
  (sSeq (sFor [] (iZipD (aCons (eVar 0) (aCons (eVar 1) aNil))) (gtTup 2 (gtCons (gtName 2) (gtCons (gtName 3) gtNil))) (sSeq (sSet [] 4 (eFn (S c0) (aCons (eOp gIx (eVar 2) (eC (.int 0))) (aCons (eOp gIx (eVar 3) (eC (.int 0))) aNil)))) (sSeq (sIf (tOf (eOp gNe (eVar 4) (eC (.int 0)))) (sRet (eVar 4)) sNil) (sIf (tOf (eOp gNe (eOp gIx (eVar 2) (eC (.int 1))) (eOp gIx (eVar 3) (eC (.int 1))))) (sRet (eIf (tOf (eOp gGt (eOp gIx (eVar 2) (eC (.int 1))) (eOp gIx (eVar 3) (eC (.int 1))))) (eC (.int 1)) (eNeg (eC (.int 1))))) sNil))))
    (sSeq (sIf (tOf (eOp gEq (eCall gLen (aCons (eVar 0) aNil)) (eCall gLen (aCons (eVar 1) aNil)))) (sRet (eC (.int 0))) sNil)
    (sRet (eIf (tOf (eOp gGt (eCall gLen (aCons (eVar 0) aNil)) (eCall gLen (aCons (eVar 1) aNil)))) (eC (.int 1)) (eNeg (eC (.int 1)))))))
-- k02 slots 3 params 1
def G_is_number (c0 c1 c2 : Nat) (S : Nat → List PyData → R PyData) : Vars → Out :=
  (sSeq (sIf (tNotR (tTru (eIsi "tuple" (eVar 0)))) (sRet (eC (.bool false))) sNil)
    (sSeq (sFor [] (iSeq (eVar 0)) (gtName 1) (sSeq (sIf (tOrR (tNotR (tTru (eIsi "tuple" (eVar 1)))) (tOf (eOp gNe (eCall gLen (aCons (eVar 1) aNil)) (eC (.int 2))))) (sRet (eC (.bool false))) sNil) (sIf (tOrR (tNotR (tTru (eFn (S c0) (aCons (eOp gIx (eVar 1) (eC (.int 1))) aNil)))) (tOrR (tOf (eOp gEq (eOp gIx (eVar 1) (eC (.int 1))) (eC (.int 0)))) (tNotR (tTru (eFn (S c1) (aCons (eOp gIx (eVar 1) (eC (.int 0))) aNil)))))) (sRet (eC (.bool false))) sNil)))
    (sSeq (sFor [] (iRange (aCons (eC (.int 1)) (aCons (eCall gLen (aCons (eVar 0) aNil)) aNil))) (gtName 2) (sIf (tOf (eOp gNe (eFn (S c2) (aCons (eOp gIx (eOp gIx (eVar 0) (eOp gSub (eVar 2) (eC (.int 1)))) (eC (.int 0))) (aCons (eOp gIx (eOp gIx (eVar 0) (eVar 2)) (eC (.int 0))) aNil))) (eC (.int 1)))) (sRet (eC (.bool false))) sNil))
    (sRet (eC (.bool true))))))
-- k03 k04 slots 2 params 2
def G_l_side (S : Nat → List PyData → R PyData) : Vars → Out :=
  (sRet (eAnd (eIsi "int" (eVar 0)) (eAnd (eNot (eIsi "bool" (eVar 0))) (eOp gEq (eVar 0) (eVar 1)))))
-- k03 slots 3 params 2
def G_l_both (c0 c1 c2 : Nat) (S : Nat → List PyData → R PyData) : Vars → Out :=
  (sSeq (sSet [] 2 (eFn (S c0) (aCons (eVar 0) (aCons (eVar 1) aNil))))
    (sRet (eAnd (eFn (S c1) (aCons (eFn (S c2) (aCons (eVar 0) (aCons (eVar 1) aNil))) (aCons (eVar 2) aNil))) (eFn (S c1) (aCons (eFn (S c2) (aCons (eVar 1) (aCons (eVar 0) aNil))) (aCons (eOp gSub (eC (.int 0)) (eVar 2)) aNil))))))
-- k11 k12 k13 k14 k15 k21 k22 k23 k24 k25 k26 k27 k28 k29 k30 k32 k61 k62 k63 k64 k65 k66 k69 k71 k72 k73 k75 k76 k81 k83 k84 slots 7 params 2
def G_plus (c0 : Nat) (S : Nat → List PyData → R PyData) : Vars → Out :=
  (sSeq (sIf (tOf (eOp gEq (eVar 1) (eTup aNil))) (sRet (eVar 0)) sNil)
    (sSeq (sAsg [] (gtTup 2 (gtCons (gtName 2) (gtCons (gtName 3) gtNil))) (eOp gIx (eVar 1) (eC (.int 0))))
    (sSeq (sSetLc [] 4 (nLc (iSeq (eVar 0)) (gtName 6) (tOf (eOp gEq (eFn (S c0) (aCons (eOp gIx (eVar 6) (eC (.int 0))) (aCons (eVar 2) aNil))) (eC (.int 1)))) (eVar 6) [6]))
    (sSeq (sSet [] 5 (eCall gLen (aCons (eVar 4) aNil)))
    (sSeq (sIf (tAndR (tOf (eOp gLt (eVar 5) (eCall gLen (aCons (eVar 0) aNil)))) (tOf (eOp gEq (eOp gIx (eOp gIx (eVar 0) (eVar 5)) (eC (.int 0))) (eVar 2)))) (sAug [] 3 gAddI (eOp gIx (eOp gIx (eVar 0) (eVar 5)) (eC (.int 1)))) sNil)
    (sRet (eOp gAdd (eOp gAdd (eCall gTuple (aCons (eVar 4) aNil)) (eTup (aCons (eTup (aCons (eVar 2) (aCons (eVar 3) aNil))) aNil))) (eSl (eVar 1) (oSome (eC (.int 1))) oNone))))))))
-- k11 k13 k71 slots 6 params 2
def G_l_plus (c0 : Nat) (S : Nat → List PyData → R PyData) : Vars → Out :=
  (sSeq (sIf (tOf (eOp gEq (eVar 1) (eTup aNil))) (sRet (eVar 0)) sNil)
    (sSeq (sSet [] 2 (eOp gIx (eOp gIx (eVar 1) (eC (.int 0))) (eC (.int 0))))
    (sSeq (sSetLc [] 3 (nLc (iSeq (eVar 0)) (gtName 5) (tOf (eOp gGt (eFn (S c0) (aCons (eOp gIx (eVar 5) (eC (.int 0))) (aCons (eVar 2) aNil))) (eC (.int 0)))) (eVar 5) [5]))
    (sSeq (sSet [] 4 (eCall gSum (aCons (eLc (iSeq (eVar 0)) (gtName 5) (tOf (eOp gEq (eOp gIx (eVar 5) (eC (.int 0))) (eVar 2))) (eOp gIx (eVar 5) (eC (.int 1))) [5]) aNil)))
    (sRet (eOp gAdd (eOp gAdd (eCall gTuple (aCons (eVar 3) aNil)) (eTup (aCons (eTup (aCons (eVar 2) (aCons (eOp gAdd (eVar 4) (eOp gIx (eOp gIx (eVar 1) (eC (.int 0))) (eC (.int 1)))) aNil))) aNil))) (eSl (eVar 1) (oSome (eC (.int 1))) oNone)))))))
-- k12 k61 k62 k63 k64 k65 k66 k69 k81 k83 slots 3 params 1
def G_total (c0 : Nat) (S : Nat → List PyData → R PyData) : Vars → Out :=
  (sSeq (sSet [] 1 (eTup aNil))
    (sSeq (sFor [] (iSeq (eVar 0)) (gtName 2) (sSet [] 1 (eFn (S c0) (aCons (eVar 1) (aCons (eVar 2) aNil)))))
    (sRet (eVar 1))))
-- k13 k16 k23 k24 k26 k27 k28 k29 k30 k33 k34 k71 k72 k73 k75 k76 k81 k84 slots 5 params 2
def G_minus (c0 : Nat) (S : Nat → List PyData → R PyData) : Vars → Out :=
  (sSeq (sIf (tOf (eOp gEq (eFn (S c0) (aCons (eVar 1) (aCons (eVar 0) aNil))) (eC (.int 1)))) (sRaise "TooHigh") sNil)
    (sSeq (sSet [] 2 (eC (.int 0)))
    (sSeq (whileL (tAndR (tOf (eOp gLt (eVar 2) (eCall gLen (aCons (eVar 1) aNil)))) (tOf (eOp gEq (eOp gIx (eVar 0) (eVar 2)) (eOp gIx (eVar 1) (eVar 2))))) (sAug [] 2 gAddI (eC (.int 1))) wfuel)
    (sSeq (sIf (tOf (eOp gEq (eVar 2) (eCall gLen (aCons (eVar 1) aNil)))) (sRet (eSl (eVar 0) (oSome (eVar 2)) oNone)) sNil)
    (sSeq (sAsg [] (gtTup 2 (gtCons (gtName 3) (gtCons (gtName 4) gtNil))) (eOp gIx (eVar 0) (eVar 2)))
    (sSeq (sIf (tOf (eOp gEq (eVar 3) (eOp gIx (eOp gIx (eVar 1) (eVar 2)) (eC (.int 0))))) (sRet (eOp gAdd (eTup (aCons (eTup (aCons (eVar 3) (aCons (eOp gSub (eVar 4) (eOp gIx (eOp gIx (eVar 1) (eVar 2)) (eC (.int 1)))) aNil))) aNil)) (eSl (eVar 0) (oSome (eOp gAdd (eVar 2) (eC (.int 1)))) oNone))) sNil)
    (sRet (eSl (eVar 0) (oSome (eVar 2)) oNone))))))))
-- k14 k25 k41 k44 k45 k47 k48 k63 k64 k65 k66 k68 k69 k75 k76 k82 k83 k84 slots 6 params 2
def G_merged (c0 : Nat) (S : Nat → List PyData → R PyData) : Vars → Out :=
  (sSeq (sNew [2] 2 (nLst aNil))
    (sSeq (sSetM [2] 3 (eC (.int 0)))
    (sSeq (sSetM [2] 4 (eC (.int 0)))
    (sSeq (whileL (tAndR (tOf (eOp gLt (eVar 3) (eCall gLen (aCons (eVar 0) aNil)))) (tOf (eOp gLt (eVar 4) (eCall gLen (aCons (eVar 1) aNil))))) (sSeq (sSetM [2] 5 (eFn (S c0) (aCons (eOp gIx (eOp gIx (eVar 0) (eVar 3)) (eC (.int 0))) (aCons (eOp gIx (eOp gIx (eVar 1) (eVar 4)) (eC (.int 0))) aNil)))) (sIf (tOf (eOp gEq (eVar 5) (eC (.int 1)))) (sSeq (sAppM [2] 2 (eOp gIx (eVar 0) (eVar 3))) (sAug [2] 3 gAddI (eC (.int 1)))) (sIf (tOf (eOp gEq (eVar 5) (eNeg (eC (.int 1))))) (sSeq (sAppM [2] 2 (eOp gIx (eVar 1) (eVar 4))) (sAug [2] 4 gAddI (eC (.int 1)))) (sSeq (sAppM [2] 2 (eTup (aCons (eOp gIx (eOp gIx (eVar 0) (eVar 3)) (eC (.int 0))) (aCons (eOp gAdd (eOp gIx (eOp gIx (eVar 0) (eVar 3)) (eC (.int 1))) (eOp gIx (eOp gIx (eVar 1) (eVar 4)) (eC (.int 1)))) aNil)))) (sSeq (sAug [2] 3 gAddI (eC (.int 1))) (sAug [2] 4 gAddI (eC (.int 1)))))))) wfuel)
    (sRet (eOp gAdd (eOp gAdd (eCall gTuple (aCons (eVar 2) aNil)) (eSl (eVar 0) (oSome (eVar 3)) oNone)) (eSl (eVar 1) (oSome (eVar 4)) oNone)))))))
-- k15 k75 k76 k84 slots 2 params 2
def G_divisor (S : Nat → List PyData → R PyData) : Vars → Out :=
  (sSeq (whileL (tOf (eOp gNe (eVar 1) (eC (.int 0)))) (sPar [] 0 1 (aCons (eVar 1) (aCons (eOp gMod (eVar 0) (eVar 1)) aNil))) wfuel)
    (sRet (eVar 0)))
-- k15 k75 k76 k84 slots 3 params 2
def G_common (c0 : Nat) (S : Nat → List PyData → R PyData) : Vars → Out :=
  (sSeq (sIf (tAndR (tOf (eOp gEq (eVar 0) (eTup aNil))) (tOf (eOp gEq (eVar 1) (eTup aNil)))) (sRet (eTup (aCons (eTup aNil) (aCons (eC (.int 0)) (aCons (eC (.int 0)) aNil))))) sNil)
    (sSeq (sIf (tOf (eOp gEq (eVar 1) (eTup aNil))) (sRet (eTup (aCons (eVar 0) (aCons (eC (.int 1)) (aCons (eC (.int 0)) aNil))))) sNil)
    (sSeq (sIf (tOf (eOp gEq (eVar 0) (eTup aNil))) (sRet (eTup (aCons (eVar 1) (aCons (eC (.int 0)) (aCons (eC (.int 1)) aNil))))) sNil)
    (sSeq (sIf (tOrR (tOf (eOp gNe (eOp gIx (eOp gIx (eVar 0) (eC (.int 0))) (eC (.int 0))) (eOp gIx (eOp gIx (eVar 1) (eC (.int 0))) (eC (.int 0))))) (tOf (eOp gNe (eSl (eVar 0) (oSome (eC (.int 1))) oNone) (eSl (eVar 1) (oSome (eC (.int 1))) oNone)))) (sRet (eC .none)) sNil)
    (sSeq (sSet [] 2 (eFn (S c0) (aCons (eOp gIx (eOp gIx (eVar 0) (eC (.int 0))) (eC (.int 1))) (aCons (eOp gIx (eOp gIx (eVar 1) (eC (.int 0))) (eC (.int 1))) aNil))))
    (sRet (eTup (aCons (eOp gAdd (eTup (aCons (eTup (aCons (eOp gIx (eOp gIx (eVar 0) (eC (.int 0))) (eC (.int 0))) (aCons (eVar 2) aNil))) aNil)) (eSl (eVar 0) (oSome (eC (.int 1))) oNone)) (aCons (eOp gDiv (eOp gIx (eOp gIx (eVar 0) (eC (.int 0))) (eC (.int 1))) (eVar 2)) (aCons (eOp gDiv (eOp gIx (eOp gIx (eVar 1) (eC (.int 0))) (eC (.int 1))) (eVar 2)) aNil))))))))))
-- k21 k22 k23 k24 k25 k26 k27 k28 k29 k30 k31 k32 k33 k34 k35 k36 k37 k41 k42 k43 k44 k45 k46 k48 k49 k51 k52 k53 k54 k55 k56 k57 k58 k61 k62 k63 k65 k66 k67 k68 k69 k83 k84 slots 2 params 2
def G_l_cell_at (S : Nat → List PyData → R PyData) : Vars → Out :=
  (sSeq (sIf (tOf (eOp gLt (eVar 1) (eCall gLen (aCons (eVar 0) aNil)))) (sRet (eOp gIx (eVar 0) (eVar 1))) sNil)
    (sRet (eC (.int 0))))
end Pu
set_option Elab.async false
set_option linter.all false
set_option maxRecDepth 100000
set_option maxHeartbeats 4000000
namespace Nm
open PySem Pu
abbrev Fn := List PyData → R PyData
/-- by the first places alone -/
def lead (e : O) (n : Int) (e' : O) (n' : Int) : Int := if cmp e e' ≠ 0 then cmp e e' else if n ≠ n' then (if n > n' then 1 else -1) else 0
def first : O → O → Int
  | .c e n r, .c e' n' r' => if lead e n e' n' ≠ 0 then lead e n e' n' else first r r'
  | _, _ => 0
def lenc (a b : O) : Int := if a.len > b.len then 1 else if a.len < b.len then -1 else 0
theorem cmp_first : ∀ a b : O, cmp a b = if first a b ≠ 0 then first a b else lenc a b
  | .z, .z => by simp [cmp, first, lenc, O.len]
  | .z, .c _ _ _ => by simp [cmp, first, lenc, O.len]
  | .c _ _ _, .z => by simp [cmp, first, lenc, O.len]
  | .c e n r, .c e' n' r' => by
    have h2 := cmp_first r r'
    unfold cmp first lead
    by_cases c1 : cmp e e' = 0
    · by_cases c2 : n = n'
      · simp only [c1, c2, ne_eq, not_true_eq_false, if_false, h2, lenc, O.len]
        simp
      · by_cases c3 : n > n' <;> simp [c1, c2, c3]
    · simp [c1]
abbrev gt2 := gtTup 2 (gtCons (gtName 2) (gtCons (gtName 3) gtNil))
theorem zip_loop {k : Nat} {g : Vars → Out} {A B : Option PyData} (hg : ∀ (e : O) (n : Int) (e' : O) (n' : Int) (s : Option PyData), e.h < k → ∃ s', g [A, B, some (encP (e, n)), some (encP (e', n')), s] =
      if lead e n e' n' ≠ 0 then .rt (.int (lead e n e' n')) else .nx [A, B, some (encP (e, n)), some (encP (e', n')), s']) :
    ∀ (a b : O) (x y s : Option PyData), a.h < k + 1 → ∃ x' y' s', forL gt2 g (zipD (encL a) (encL b)) [A, B, x, y, s] = if first a b ≠ 0 then .rt (.int (first a b)) else .nx [A, B, x', y', s']
  | .z, b, x, y, s, _ => ⟨x, y, s, by cases b <;> simp [zipD, first]⟩
  | .c e n r, .z, x, y, s, _ => ⟨x, y, s, by simp [zipD, first]⟩
  | .c e n r, .c e' n' r', x, y, s, h => by
    have he : e.h < k := by have : max (e.h + 1) r.h < k + 1 := h; omega
    have hr : r.h < k + 1 := by have : max (e.h + 1) r.h < k + 1 := h; omega
    obtain ⟨s1, e1⟩ := hg e n e' n' s he
    obtain ⟨x2, y2, s2, e2⟩ := zip_loop hg r r' (some (encP (e, n))) (some (encP (e', n'))) s1 hr
    by_cases c : lead e n e' n' = 0
    · refine ⟨x2, y2, s2, ?_⟩
      rw [if_neg (show ¬ lead e n e' n' ≠ 0 from fun z => z c)] at e1
      have ef : first (.c e n r) (.c e' n' r') = first r r' := by
        show (if lead e n e' n' ≠ 0 then lead e n e' n' else first r r') = _
        rw [if_neg (show ¬ lead e n e' n' ≠ 0 from fun z => z c)]
      rw [ef, ← e2]
      show forL gt2 g (.tuple [encP (e, n), encP (e', n')] :: zipD (encL r) (encL r')) _ = _
      rw [u_forL_c]
      simp only [u_gtTup, u_gtCons, u_gtName, u_gtNil, List.length_cons, List.length_nil, Nat.zero_add, Nat.reduceAdd, if_true, Option.bind_some, List.set_cons_succ, List.set_cons_zero, e1]
    · refine ⟨x, y, s, ?_⟩
      rw [if_pos c] at e1
      have ef : first (.c e n r) (.c e' n' r') = lead e n e' n' := by
        show (if lead e n e' n' ≠ 0 then lead e n e' n' else first r r') = _
        rw [if_pos c]
      rw [ef, if_pos c]
      show forL gt2 g (.tuple [encP (e, n), encP (e', n')] :: zipD (encL r) (encL r')) _ = _
      rw [u_forL_c]
      simp only [u_gtTup, u_gtCons, u_gtName, u_gtNil, List.length_cons, List.length_nil, Nat.zero_add, Nat.reduceAdd, if_true, Option.bind_some, List.set_cons_succ, List.set_cons_zero, e1]
theorem zip_then {k : Nat} {g K : Vars → Out} {A B x y s : Option PyData} {a b : O} {out : Out} (hg : ∀ (e : O) (n : Int) (e' : O) (n' : Int) (s : Option PyData), e.h < k → ∃ s', g [A, B, some (encP (e, n)), some (encP (e', n')), s] =
      if lead e n e' n' ≠ 0 then .rt (.int (lead e n e' n')) else .nx [A, B, some (encP (e, n)), some (encP (e', n')), s']) (ha : a.h < k + 1) (h1 : first a b ≠ 0 → .rt (.int (first a b)) = out) (h2 : first a b = 0 → ∀ x y s, K [A, B, x, y, s] = out) :
    (forL gt2 g (zipD (encL a) (encL b)) [A, B, x, y, s]).then K = out := by
  obtain ⟨x', y', s', e⟩ := zip_loop hg a b x y s ha
  rw [e]
  by_cases c : first a b = 0
  · rw [if_neg (fun z => z c)]; exact h2 c x' y' s'
  · rw [if_pos c]; exact h1 c
def CmpOk (k : Nat) (F : Fn) : Prop := ∀ a b : O, a.h < k → F [enc a, enc b] = .ok (.int (cmp a b))
theorem compare_step {S : Nat → Fn} {c0 k : Nat} (h : CmpOk k (S c0)) : CmpOk (k + 1) (fun ds => fnD 5 (G_compare c0 S) ds) := by
  intro a b ha
  refine fnD_of ?_
  unfold G_compare
  simp only [u_sSeq, u_sFor, mask_nil, u_iZipD, u_aCons, u_aNil, u_eVar, List.map_cons, List.map_nil, List.length_cons, List.length_nil, List.cons_append, List.nil_append, List.replicate, List.getD_cons_zero, List.getD_cons_succ, R.of_some, R.bind_ok, R.run_ok, Nat.reduceAdd, Nat.reduceSub, Nat.zero_add]
  refine zip_then (k := k) (fun e n e' n' s he => ⟨some (.int (cmp e e')), ?_⟩) ha (fun c => ?_) (fun c x y s => ?_)
  · have hc := h e e' he
    by_cases c1 : cmp e e' = 0
    · by_cases c2 : n = n'
      · simp [hc, c1, c2, lead]
      · by_cases c3 : n > n' <;> simp [hc, c1, c2, c3, lead]
    · simp [hc, c1, lead]
  · rw [cmp_first, if_pos c]
  · rw [cmp_first, if_neg (fun z => z c)]
    by_cases c1 : a.len = b.len
    · simp [lenc, c1]
    · by_cases c2 : a.len > b.len
      · simp [lenc, c1, c2]; omega
      · have c3 : a.len < b.len := by omega
        simp [lenc, c1, c2, c3]; omega
theorem l_compare_step {S : Nat → Fn} {c0 k : Nat} (h : CmpOk k (S c0)) : CmpOk (k + 1) (fun ds => fnD 5 (G_l_compare c0 S) ds) := by
  intro a b ha
  refine fnD_of ?_
  unfold G_l_compare
  simp only [u_sSeq, u_sFor, mask_nil, u_iZipD, u_aCons, u_aNil, u_eVar, List.map_cons, List.map_nil, List.length_cons, List.length_nil, List.cons_append, List.nil_append, List.replicate, List.getD_cons_zero, List.getD_cons_succ, R.of_some, R.bind_ok, R.run_ok, Nat.reduceAdd, Nat.reduceSub, Nat.zero_add]
  refine zip_then (k := k) (fun e n e' n' s he => ⟨some (.int (lead e n e' n')), ?_⟩) ha (fun c => ?_) (fun c x y s => ?_)
  · have hc := h e e' he
    by_cases c1 : cmp e e' = 0
    · rcases Int.lt_trichotomy n n' with c2 | c2 | c2
      · have c3 : ¬ n' < n := by omega
        have c4 : n ≠ n' := by omega
        simp [hc, c1, c2, c3, c4, lead]
      · simp [hc, c1, c2, lead]
      · have c3 : ¬ n < n' := by omega
        have c4 : n ≠ n' := by omega
        simp [hc, c1, c2, c3, c4, lead]
    · simp [hc, c1, lead]
  · rw [cmp_first, if_pos c]
  · rw [cmp_first, if_neg (fun z => z c)]
    rcases Nat.lt_trichotomy a.len b.len with c2 | c2 | c2
    · have c3 : ¬ b.len < a.len := by omega
      simp [lenc, c2, c3]
    · simp [lenc, c2]
    · have c3 : ¬ a.len < b.len := by omega
      simp [lenc, c2, c3]
end Nm
set_option Elab.async false
set_option linter.all false
set_option maxRecDepth 100000
set_option maxHeartbeats 4000000
namespace Nm
open PySem Pu O
/-! ### the order is one -/
abbrev Lt (a b : O) : Prop := cmp a b = -1
theorem cmp_gt {a b : O} : cmp a b = 1 ↔ cmp b a = -1 := by rw [cmp_neg a b]; omega
theorem cmp_c {e : O} {n : Int} {r e' : O} {n' : Int} {r' : O} : cmp (.c e n r) (.c e' n' r') = -1 ↔ cmp e e' = -1 ∨ (e = e' ∧ (n < n' ∨ (n = n' ∧ cmp r r' = -1))) := by
  have h0 : cmp (.c e n r) (.c e' n' r') = if cmp e e' ≠ 0 then cmp e e' else if n ≠ n' then (if n > n' then 1 else -1) else cmp r r' := rfl
  rw [h0]
  by_cases c1 : cmp e e' = 0
  · have c1' := (cmp_eq e e').mp c1
    rw [if_neg (show ¬ cmp e e' ≠ 0 from fun h => h c1)]
    by_cases c2 : n = n'
    · rw [if_neg (show ¬ n ≠ n' from fun h => h c2)]
      subst c1' c2
      simp
    · rw [if_pos c2]
      by_cases c3 : n > n'
      · rw [if_pos c3]
        constructor
        · intro h; cases h
        · rintro (h | ⟨_, h | ⟨h, _⟩⟩)
          · rw [c1] at h; cases h
          · omega
          · exact absurd h c2
      · rw [if_neg c3]
        exact ⟨fun _ => .inr ⟨c1', .inl (by omega)⟩, fun _ => rfl⟩
  · rw [if_pos c1]
    constructor
    · exact .inl
    · rintro (h | ⟨h, _⟩)
      · exact h
      · exact absurd ((cmp_eq e e').mpr h) c1
theorem lt_trans : ∀ {a b d : O}, cmp a b = -1 → cmp b d = -1 → cmp a d = -1
  | a, .z, _, h, _ => by cases a <;> simp [cmp] at h
  | .z, .c _ _ _, .z, _, h => by simp [cmp] at h
  | .z, .c _ _ _, .c _ _ _, _, _ => rfl
  | .c _ _ _, .c _ _ _, .z, _, h => by simp [cmp] at h
  | .c e n r, .c e' n' r', .c e'' n'' r'', h1, h2 => by
    rw [cmp_c] at h1 h2 ⊢
    rcases h1 with h1 | ⟨rfl, h1⟩
    · rcases h2 with h2 | ⟨rfl, h2⟩
      · exact .inl (lt_trans h1 h2)
      · exact .inl h1
    · rcases h2 with h2 | ⟨rfl, h2⟩
      · exact .inl h2
      · refine .inr ⟨rfl, ?_⟩
        rcases h1 with h1 | ⟨rfl, h1⟩ <;> rcases h2 with h2 | ⟨rfl, h2⟩
        · exact .inl (by omega)
        · exact .inl h1
        · exact .inl h2
        · exact .inr ⟨rfl, lt_trans h1 h2⟩
theorem lt_irrefl (a : O) : ¬ cmp a a = -1 := by rw [cmp_self]; decide
theorem gt_trans {a b d : O} (h1 : cmp a b = 1) (h2 : cmp b d = 1) : cmp a d = 1 := cmp_gt.mpr (lt_trans (cmp_gt.mp h2) (cmp_gt.mp h1))
theorem cmp_tri (a b : O) : cmp a b = -1 ∨ a = b ∨ cmp a b = 1 := by
  rcases cmp_range a b with h | h | h
  · exact .inl h
  · exact .inr (.inl ((cmp_eq a b).mp h))
  · exact .inr (.inr h)
/-! ### true numbers -/
def NF : O → Prop
  | .z => True
  | .c e n r => NF e ∧ 1 ≤ n ∧ NF r ∧ ∀ p ∈ r.parts, cmp e p.1 = 1
theorem nf_parts : ∀ a : O, NF a ↔ a.parts.Pairwise (fun p q => cmp p.1 q.1 = 1) ∧ ∀ p ∈ a.parts, NF p.1 ∧ 1 ≤ p.2
  | .z => by simp [NF, O.parts]
  | .c e n r => by
    have ih := nf_parts r
    show NF e ∧ 1 ≤ n ∧ NF r ∧ (∀ p ∈ r.parts, cmp e p.1 = 1) ↔ _
    simp only [O.parts, List.pairwise_cons, List.mem_cons, forall_eq_or_imp]
    rw [ih]
    constructor
    · rintro ⟨h1, h2, ⟨h3, h4⟩, h5⟩; exact ⟨⟨h5, h3⟩, ⟨h1, h2⟩, h4⟩
    · rintro ⟨⟨h5, h3⟩, ⟨h1, h2⟩, h4⟩; exact ⟨h1, h2, ⟨h3, h4⟩, h5⟩
theorem nf_of {ps : List (O × Int)} : NF (of ps) ↔ ps.Pairwise (fun p q => cmp p.1 q.1 = 1) ∧ ∀ p ∈ ps, NF p.1 ∧ 1 ≤ p.2 := by rw [nf_parts, parts_of]
/-- the greatest times -/
def mx : O → Int
  | .z => 0
  | .c e n r => max n (max (mx e) (mx r))
theorem mx_nonneg : ∀ a : O, 0 ≤ mx a
  | .z => Int.le_refl _
  | .c e n r => by
    have := mx_nonneg r
    show 0 ≤ max n (max (mx e) (mx r))
    omega
theorem mx_parts {B : Int} (hB : 0 ≤ B) : ∀ a : O, mx a ≤ B ↔ ∀ p ∈ a.parts, p.2 ≤ B ∧ mx p.1 ≤ B
  | .z => by simp [mx, O.parts, hB]
  | .c e n r => by
    have ih := mx_parts hB r
    simp only [mx, O.parts, List.mem_cons, forall_eq_or_imp]
    rw [← ih]
    constructor
    · intro h; exact ⟨⟨by omega, by omega⟩, by omega⟩
    · rintro ⟨⟨h1, h2⟩, h3⟩; omega
theorem mx_of {B : Int} (hB : 0 ≤ B) {ps : List (O × Int)} : mx (of ps) ≤ B ↔ ∀ p ∈ ps, p.2 ≤ B ∧ mx p.1 ≤ B := by rw [mx_parts hB, parts_of]
theorem h_parts {k : Nat} : ∀ a : O, a.h ≤ k ↔ ∀ p ∈ a.parts, p.1.h + 1 ≤ k
  | .z => by simp [O.h, O.parts]
  | .c e n r => by
    have ih := h_parts (k := k) r
    simp only [O.h, O.parts, List.mem_cons, forall_eq_or_imp]
    rw [← ih]
    omega
theorem h_of {k : Nat} {ps : List (O × Int)} : (of ps).h ≤ k ↔ ∀ p ∈ ps, p.1.h + 1 ≤ k := by rw [h_parts, parts_of]
theorem len_of (ps : List (O × Int)) : (of ps).len = ps.length := by rw [← len_parts, parts_of]
theorem size_of : ∀ ps : List (O × Int), (of ps).size = ps.length + (ps.map fun p => p.1.size).sum
  | [] => rfl
  | (e, n) :: r => by
    have ih := size_of r
    show 1 + e.size + (of r).size = _
    rw [ih]
    simp only [List.length_cons, List.map_cons, List.sum_cons]
    omega
/-- parts of a list of parts taken -/
theorem nf_sub {ps qs : List (O × Int)} (h : NF (of ps)) (s : qs.Sublist ps) : NF (of qs) := by
  rw [nf_of] at h ⊢
  exact ⟨h.1.sublist s, fun p hp => h.2 p (s.subset hp)⟩
theorem size_sub : ∀ {ps qs : List (O × Int)}, qs.Sublist ps → (of qs).size ≤ (of ps).size
  | _, _, .slnil => Nat.le_refl _
  | _, _, .cons (l₂ := l) a s => by
    have := size_sub s
    show _ ≤ 1 + a.1.size + (of l).size
    omega
  | _, _, .cons₂ (l₁ := l1) (l₂ := l2) a s => by
    have := size_sub s
    show 1 + a.1.size + (of l1).size ≤ 1 + a.1.size + (of l2).size
    omega
theorem mx_sub {B : Int} (hB : 0 ≤ B) {ps qs : List (O × Int)} (h : mx (of ps) ≤ B) (s : qs.Sublist ps) : mx (of qs) ≤ B := by
  rw [mx_of hB] at h ⊢
  exact fun p hp => h p (s.subset hp)
/-! ### a part put in -/
def above (a e : O) : List (O × Int) := a.parts.filter fun p => decide (0 < cmp p.1 e)
def under (a e : O) : List (O × Int) := a.parts.filter fun p => decide (cmp p.1 e < 0)
def sameN (a e : O) : Int := ((a.parts.filter fun p => decide (p.1 = e)).map fun p => p.2).sum
def putP (a e : O) (m : Int) : O := of (above a e ++ [(e, sameN a e + m)] ++ under a e)
theorem sameN_bound {a e : O} {B : Int} (h : NF a) (hB : 0 ≤ B) (hm : mx a ≤ B) : 0 ≤ sameN a e ∧ sameN a e ≤ B := by
  unfold sameN
  have h1 := (nf_parts a).mp h
  have h2 := (mx_parts hB a).mp hm
  have key : ∀ ps : List (O × Int), ps.Pairwise (fun p q => cmp p.1 q.1 = 1) → (∀ p ∈ ps, NF p.1 ∧ 1 ≤ p.2) → (∀ p ∈ ps, p.2 ≤ B ∧ mx p.1 ≤ B) → 0 ≤ ((ps.filter fun p => decide (p.1 = e)).map fun p => p.2).sum ∧ ((ps.filter fun p => decide (p.1 = e)).map fun p => p.2).sum ≤ B := by
    intro ps
    induction ps with
    | nil => intro _ _ _; simp [hB]
    | cons p ps ih =>
      intro g1 g2 g3
      rw [List.pairwise_cons] at g1
      have g3' := g3 p (by simp)
      have g2' := g2 p (by simp)
      by_cases c : p.1 = e
      · have none : ps.filter (fun p => decide (p.1 = e)) = [] := by
          rw [List.filter_eq_nil_iff]
          intro q hq
          have := g1.1 q hq
          rw [c] at this
          simp only [decide_eq_true_eq]
          intro z
          rw [z, cmp_self] at this
          cases this
        rw [List.filter_cons_of_pos (by simp [c]), none]
        simp
        omega
      · rw [List.filter_cons_of_neg (by simp [c])]
        exact ih g1.2 (fun q hq => g2 q (List.mem_cons_of_mem _ hq)) (fun q hq => g3 q (List.mem_cons_of_mem _ hq))
  exact key _ h1.1 h1.2 h2
theorem putP_nf {a e : O} {m : Int} (ha : NF a) (he : NF e) (hm : 1 ≤ m) : NF (putP a e m) := by
  unfold putP
  have h1 := (nf_parts a).mp ha
  have hs := (sameN_bound (e := e) ha (mx_nonneg a) (Int.le_refl _)).1
  rw [nf_of]
  have hu : ∀ p ∈ above a e, p ∈ a.parts ∧ cmp p.1 e = 1 := fun p hp => by
    have := List.mem_filter.mp hp
    refine ⟨this.1, ?_⟩
    have h2 := of_decide_eq_true this.2
    rcases cmp_range p.1 e with h | h | h <;> omega
  have hd : ∀ p ∈ under a e, p ∈ a.parts ∧ cmp p.1 e = -1 := fun p hp => by
    have := List.mem_filter.mp hp
    refine ⟨this.1, ?_⟩
    have h2 := of_decide_eq_true this.2
    rcases cmp_range p.1 e with h | h | h <;> omega
  refine ⟨?_, fun p hp => ?_⟩
  · rw [List.pairwise_append, List.pairwise_append]
    refine ⟨⟨h1.1.sublist List.filter_sublist, by simp, fun p hp q hq => ?_⟩, h1.1.sublist List.filter_sublist, fun p hp q hq => ?_⟩
    · simp only [List.mem_singleton] at hq
      subst hq
      exact (hu p hp).2
    · have h3 : cmp e q.1 = 1 := cmp_gt.mpr (hd q hq).2
      rcases List.mem_append.mp hp with hp | hp
      · exact gt_trans (hu p hp).2 h3
      · simp only [List.mem_singleton] at hp
        subst hp
        exact h3
  · rcases List.mem_append.mp hp with hp | hp
    · rcases List.mem_append.mp hp with hp | hp
      · exact h1.2 p (hu p hp).1
      · simp only [List.mem_singleton] at hp
        subst hp
        exact ⟨he, by show 1 ≤ sameN a e + m; omega⟩
    · exact h1.2 p (hd p hp).1
theorem putP_mx {a e : O} {m B : Int} (ha : NF a) (hB : 0 ≤ B) (h1 : mx a ≤ B) (h2 : mx e ≤ B) (hm : 0 ≤ m) : mx (putP a e m) ≤ B + m := by
  unfold putP
  have hs := (sameN_bound (e := e) ha hB h1).2
  have hp1 := (mx_parts hB a).mp h1
  rw [mx_of (by omega)]
  intro p hp
  rcases List.mem_append.mp hp with hp | hp
  · rcases List.mem_append.mp hp with hp | hp
    · have := hp1 p (List.mem_filter.mp hp).1
      omega
    · simp only [List.mem_singleton] at hp
      subst hp
      show sameN a e + m ≤ _ ∧ mx e ≤ _
      omega
  · have := hp1 p (List.mem_filter.mp hp).1
    omega
theorem putP_h {a e : O} {m : Int} {k : Nat} (h1 : a.h ≤ k) (h2 : e.h + 1 ≤ k) : (putP a e m).h ≤ k := by
  unfold putP
  have hp1 := (h_parts a).mp h1
  rw [h_of]
  intro p hp
  rcases List.mem_append.mp hp with hp | hp
  · rcases List.mem_append.mp hp with hp | hp
    · exact hp1 p (List.mem_filter.mp hp).1
    · simp only [List.mem_singleton] at hp
      subst hp
      exact h2
  · exact hp1 p (List.mem_filter.mp hp).1
theorem putP_len {a e : O} {m : Int} : (putP a e m).len ≤ 2 * a.len + 1 := by
  unfold putP
  rw [len_of, List.length_append, List.length_append]
  have h1 : (above a e).length ≤ a.len := by rw [← len_parts]; exact List.length_filter_le _ _
  have h2 : (under a e).length ≤ a.len := by rw [← len_parts]; exact List.length_filter_le _ _
  simp only [List.length_singleton]
  omega
end Nm
set_option Elab.async false
set_option linter.all false
set_option maxRecDepth 100000
set_option maxHeartbeats 4000000
namespace Nm
open PySem Pu O L2
/-! ### comprehensions over parts -/
theorem lc_gen {α : Type} {E : α → PyData} {ρ : Vars} {i : Nat} {tt : Vars → R Bool} {f : Vars → R PyData} {P : α → Bool} {F : α → PyData} : ∀ {ps : List α}, (∀ p ∈ ps, tt (ρ.set i (some (E p))) = .ok (P p)) → (∀ p ∈ ps, P p = true → f (ρ.set i (some (E p))) = .ok (F p)) →
    lcL (gtName i) tt f ρ (ps.map E) = .ok ((ps.filter P).map F)
  | [], _, _ => rfl
  | p :: ps, h1, h2 => by
    have ih := lc_gen (ps := ps) (fun q hq => h1 q (List.mem_cons_of_mem _ hq)) (fun q hq => h2 q (List.mem_cons_of_mem _ hq))
    rw [List.map_cons, u_lcL_c]
    simp only [u_gtName, h1 p (by simp), R.bind_ok]
    cases c : P p with
    | true =>
      rw [if_pos rfl, h2 p (by simp) c, R.bind_ok, ih, R.bind_ok, List.filter_cons_of_pos c, List.map_cons]
    | false =>
      rw [if_neg Bool.false_ne_true, ih, List.filter_cons_of_neg (by simp [c])]
theorem lc_parts {a : O} {ρ : Vars} {i : Nat} {tt : Vars → R Bool} {f : Vars → R PyData} {P : O × Int → Bool} {F : O × Int → PyData} (h1 : ∀ p ∈ a.parts, tt (ρ.set i (some (encP p))) = .ok (P p)) (h2 : ∀ p ∈ a.parts, P p = true → f (ρ.set i (some (encP p))) = .ok (F p)) :
    lcL (gtName i) tt f ρ (encL a) = .ok ((a.parts.filter P).map F) := by
  rw [encL_parts]
  exact lc_gen h1 h2
theorem lc_partsT {a : O} {ρ : Vars} {i : Nat} {f : Vars → R PyData} {F : O × Int → PyData} (h2 : ∀ p ∈ a.parts, f (ρ.set i (some (encP p))) = .ok (F p)) :
    lcL (gtName i) tYesD f ρ (encL a) = .ok (a.parts.map F) := by
  rw [lc_parts (P := fun _ => true) (fun _ _ => rfl) fun p hp _ => h2 p hp, List.filter_eq_self.mpr fun _ _ => rfl]
theorem intsOf_mapF {α : Type} (F : α → Int) (ps : List α) : intsOf (ps.map fun p => PyData.int (F p)) = some (ps.map F) := by
  have := intsOf_map (ps.map F)
  rw [List.map_map] at this
  exact this
theorem part_mem_h {a : O} {p : O × Int} (hp : p ∈ a.parts) : p.1.h + 1 ≤ a.h := (h_parts a).mp (Nat.le_refl _) p hp
abbrev WithOk (k : Nat) (F : Fn) : Prop := ∀ (a e : O) (m : Int), a.h < k → a.h ≤ 30 → e.h ≤ 30 → a.len ≤ 1000 → F [enc a, enc e, .int m] = .ok (enc (putP a e m))
theorem l_with_step {S : Nat → Fn} {c0 k : Nat} (hc : CmpOk k (S c0)) : WithOk (k + 1) (fun ds => fnD 7 (G_l_with c0 S) ds) := by
  intro a e m hk ha he hl
  refine fnD_of ?_
  unfold G_l_with
  have e1 : lcL (gtName 6) (tOf (eOp gGt (eFn (S c0) (aCons (eOp gIx (eVar 6) (eC (.int 0))) (aCons (eVar 1) aNil))) (eC (.int 0)))) (eVar 6) [some (enc a), some (enc e), some (.int m), none, none, none, none] (encL a) = .ok ((above a e).map encP) := by
    refine lc_parts (P := fun p => decide (0 < cmp p.1 e)) (fun p hp => ?_) fun p hp _ => by simp
    have := part_mem_h hp
    have h1 := hc p.1 e (by omega)
    simp [h1]
  have e2 : lcL (gtName 6) (tOf (eOp gLt (eFn (S c0) (aCons (eOp gIx (eVar 6) (eC (.int 0))) (aCons (eVar 1) aNil))) (eC (.int 0)))) (eVar 6) [some (enc a), some (enc e), some (.int m), some (.list ((above a e).map encP)), none, none, none] (encL a) = .ok ((under a e).map encP) := by
    refine lc_parts (P := fun p => decide (cmp p.1 e < 0)) (fun p hp => ?_) fun p hp _ => by simp
    have := part_mem_h hp
    have h1 := hc p.1 e (by omega)
    simp [h1]
  have e3 : lcL (gtName 6) (tOf (eOp gEq (eOp gIx (eVar 6) (eC (.int 0))) (eVar 1))) (eOp gIx (eVar 6) (eC (.int 1))) [some (enc a), some (enc e), some (.int m), some (.list ((above a e).map encP)), some (.list ((under a e).map encP)), none, none] (encL a) = .ok ((a.parts.filter fun p => decide (p.1 = e)).map fun p => PyData.int p.2) := by
    refine lc_parts (P := fun p => decide (p.1 = e)) (fun p hp => ?_) fun p hp _ => by simp
    have := part_mem_h hp
    have h1 := gEq_enc (a := p.1) (b := e) (by omega) (by omega)
    simp [h1]
  have lu : (above a e).length ≤ a.len := by rw [← len_parts]; exact List.length_filter_le _ _
  have lw : (under a e).length ≤ a.len := by rw [← len_parts]; exact List.length_filter_le _ _
  have lx : (a.parts.filter fun p => decide (p.1 = e)).length ≤ a.len := by rw [← len_parts]; exact List.length_filter_le _ _
  have s1 : (above a e).length < sizeLine := sz1000' (by omega)
  have s2 : (under a e).length < sizeLine := sz1000' (by omega)
  have s3 : (a.parts.filter fun p => decide (p.1 = e)).length < sizeLine := sz1000' (by omega)
  have s4 : (above a e).length + 1 ≤ sizeLine := sz1000 (by omega)
  have s5 : (above a e).length + 1 + (under a e).length ≤ sizeLine := sz1000 (by omega)
  have es := intsOf_mapF (fun p : O × Int => p.2) (a.parts.filter fun p => decide (p.1 = e))
  have ep : encL (putP a e m) = (above a e).map encP ++ (encP (e, sameN a e + m) :: (under a e).map encP) := by
    unfold putP
    rw [encL_of]
    simp
  simp [e1, e2, e3, s1, s2, s3, s4, s5, gSum, es, ep, sameN]
abbrev SizeOk (k : Nat) (F : Fn) : Prop := ∀ a : O, a.h < k → a.size ≤ 1000 → F [enc a] = .ok (.int a.size)
theorem size_part : ∀ {a : O} {p : O × Int}, p ∈ a.parts → p.1.size ≤ a.size
  | .c e n r, p, hp => by
    rcases List.mem_cons.mp (show p ∈ (e, n) :: r.parts from hp) with h | h
    · subst h; show e.size ≤ 1 + e.size + r.size; omega
    · have := size_part h; show _ ≤ 1 + e.size + r.size; omega
theorem size_sum (a : O) : (a.size : Int) = a.len + (a.parts.map fun p => (p.1.size : Int)).sum := by
  induction a with
  | z => rfl
  | c e n r _ ih =>
    show ((1 + e.size + r.size : Nat) : Int) = ((r.len + 1 : Nat) : Int) + ((e.size : Int) :: r.parts.map fun p => (p.1.size : Int)).sum
    rw [List.sum_cons]
    omega
theorem l_size_step {S : Nat → Fn} {c0 k : Nat} (hs : SizeOk k (S c0)) : SizeOk (k + 1) (fun ds => fnD 2 (G_l_size c0 S) ds) := by
  intro a hk hz
  refine fnD_of ?_
  unfold G_l_size
  have e1 : lcL (gtName 1) tYesD (eFn (S c0) (aCons (eOp gIx (eVar 1) (eC (.int 0))) aNil)) [some (enc a), none] (encL a) = .ok (a.parts.map fun p => PyData.int p.1.size) := by
    refine lc_partsT fun p hp => ?_
    have h1 := part_mem_h hp
    have h2 := size_part hp
    have h3 := hs p.1 (by omega) (by omega)
    simp [h3]
  have es := intsOf_mapF (fun p : O × Int => (p.1.size : Int)) a.parts
  have hl := len_le_size a
  have s1 : a.len < sizeLine := sz1000' (by omega)
  have s2 : a.parts.length < sizeLine := by rw [len_parts]; exact s1
  simp [e1, s1, s2, gSum, es, ← size_sum]
/-! ### the pool -/
theorem log2_lt {i : Int} {n : Nat} (h : i.natAbs < 2 ^ n) (h0 : 0 < n) : i.natAbs.log2 < n := PySem.Flt.log2_lt_of h0 h
theorem cMul_of {i j : Int} (a b : Nat) (ha : i.natAbs < 2 ^ a) (hb : j.natAbs < 2 ^ b) (h0 : 0 < a) (h1 : 0 < b) (h : a + b ≤ 1000000) : cMul i j = true := by
  have x := log2_lt ha h0
  have y := log2_lt hb h1
  unfold cMul
  exact decide_eq_true (by omega)
theorem cDiv_of {i j : Int} (b : Nat) (hp : 0 < j) (hb : j.natAbs < 2 ^ b) (h0 : 0 < b) (h9 : b ≤ 9000) : cDiv i j = true := by
  have y := log2_lt hb h0
  unfold cDiv
  simp [hp]
  omega
theorem cMod_of {i j : Int} (h : 0 < j) : cMod i j = true := decide_eq_true h
/-- great powers, as letters -/
def E60 : Int := 10 ^ 60
def E50 : Int := 10 ^ 50
theorem E60_eq : E60 = 10 ^ 60 := rfl
theorem E50_eq : E50 = 10 ^ 50 := rfl
@[simp high] theorem p60 : gPow (.int 10) (.int 60) = some (.int E60) := by
  show (if cPow 10 60 = true then some (PyData.int (10 ^ (60 : Int).toNat)) else none) = _
  rw [if_pos (by decide +kernel)]; rfl
@[simp high] theorem p50 : gPow (.int 10) (.int 50) = some (.int E50) := by
  show (if cPow 10 50 = true then some (PyData.int (10 ^ (50 : Int).toNat)) else none) = _
  rw [if_pos (by decide +kernel)]; rfl
/-- what stands in the pool -/
structure PO (B : Int) (a : O) : Prop where
  nf : NF a
  sz : a.size ≤ 24
  mx : mx a ≤ B
theorem PO.hh {B : Int} {a : O} (p : PO B a) : a.h ≤ 24 := Nat.le_trans (h_le_size a) p.sz
theorem PO.ll {B : Int} {a : O} (p : PO B a) : a.len ≤ 24 := Nat.le_trans (len_le_size a) p.sz
theorem atI_map {ps : List O} {i : Int} (h0 : 0 ≤ i) (h1 : i < ps.length) : ∃ a ∈ ps, atI (ps.map enc) i = some (enc a) ∧ ps[i.toNat]? = some a := by
  obtain ⟨j, rfl⟩ := Int.eq_ofNat_of_zero_le h0
  have hk : j < ps.length := by omega
  refine ⟨ps[j], List.getElem_mem hk, L2.atI_nat ?_, ?_⟩
  · rw [List.getElem?_map, List.getElem?_eq_getElem hk]; rfl
  · rw [Int.toNat_natCast, List.getElem?_eq_getElem hk]
/-- t[:-1], t[-1:] of parts -/
theorem sIx_m1 (n d : Nat) : HT.sIx n d (some (-1)) = n - 1 := by
  show (if (-1 : Int) < 0 then ((-1 : Int) + (n : Int)).toNat else min (-1 : Int).toNat n) = _
  rw [if_pos (by decide)]
  omega
theorem cut_init {α : Type} (xs : List α) : cutD xs none (some (-1)) = xs.take (xs.length - 1) := by
  unfold cutD
  rw [sIx_m1]
  show (xs.drop 0).take (xs.length - 1 - 0) = _
  simp
theorem cut_tail {α : Type} (xs : List α) : cutD xs (some (-1)) none = xs.drop (xs.length - 1) := by
  unfold cutD
  rw [sIx_m1]
  show (xs.drop (xs.length - 1)).take (xs.length - (xs.length - 1)) = _
  apply List.take_of_length_le
  simp
theorem encL_take (a : O) (n : Nat) : (encL a).take n = encL (of (a.parts.take n)) := by rw [encL_of, encL_parts, List.map_take]
theorem encL_drop (a : O) (n : Nat) : (encL a).drop n = encL (of (a.parts.drop n)) := by rw [encL_of, encL_parts, List.map_drop]
theorem PO.sub {B : Int} (hB : 0 ≤ B) {a : O} (p : PO B a) {qs : List (O × Int)} (s : qs.Sublist a.parts) : PO B (of qs) where
  nf := nf_sub (ps := a.parts) (by rw [of_parts]; exact p.nf) s
  sz := by have := size_sub s; rw [of_parts] at this; have := p.sz; omega
  mx := mx_sub hB (by rw [of_parts]; exact p.mx) s
theorem part_last {a : O} (ha : a ≠ .z) : ∃ p ∈ a.parts, atI (encL a) (-1) = some (encP p) ∧ a.parts.getLast? = some p := by
  have hne : a.parts ≠ [] := fun e => ha (parts_inj (b := .z) e)
  refine ⟨a.parts.getLast hne, List.getLast_mem hne, ?_, List.getLast?_eq_getLast hne⟩
  rw [encL_parts]
  have e : a.parts.map encP = (a.parts.dropLast.map encP) ++ [encP (a.parts.getLast hne)] := by
    rw [← List.map_singleton (f := encP), ← List.map_append, List.dropLast_concat_getLast]
  rw [e]
  exact atI_last _ _
theorem size_app (ps qs : List (O × Int)) : (of (ps ++ qs)).size = (of ps).size + (of qs).size := by
  rw [size_of, size_of, size_of, List.length_append, List.map_append, List.sum_append]
  omega
theorem putP_size {a e : O} {m : Int} : (putP a e m).size ≤ 2 * a.size + e.size + 1 := by
  unfold putP
  rw [size_app, size_app]
  have h1 : (of (above a e)).size ≤ (of a.parts).size := size_sub List.filter_sublist
  have h2 : (of (under a e)).size ≤ (of a.parts).size := size_sub List.filter_sublist
  rw [of_parts] at h1 h2
  show _ + (1 + e.size + (of []).size) + _ ≤ _
  show _ + (1 + e.size + 0) + _ ≤ _
  omega
def NextOk (k : Nat) (F : Fn) : Prop := ∀ (B : Int) (ps : List O) (v : Int), 0 ≤ B → ps ≠ [] → ps.length ≤ 1000 → (∀ a ∈ ps, PO B a) → ∃ r, F [.list (ps.map enc), .int v] = .ok (enc r) ∧ PO (B + E50) r
theorem l_next_step {S : Nat → Fn} {c0 c1 k : Nat} (hk : 60 ≤ k) (hw : WithOk k (S c0)) (hs : SizeOk k (S c1)) : NextOk (k + 1) (fun ds => fnD 7 (G_l_next c0 c1 S) ds) := by
  intro B ps v hB hne hlen hp
  have e50 := E50_eq
  have e60 := E60_eq
  have hl0 : 0 < ps.length := List.length_pos_iff.mpr hne
  have hB2 : B ≤ B + E50 := by omega
  have weak : ∀ {a : O}, PO B a → PO (B + E50) a := fun p => ⟨p.nf, p.sz, Int.le_trans p.mx hB2⟩
  obtain ⟨c, hc⟩ : ∃ c : Int, v % E60 = c := ⟨_, rfl⟩
  have hc0 : 0 ≤ c := by rw [← hc]; exact Int.emod_nonneg _ (by omega)
  have hc1 : c < E60 := by rw [← hc]; exact Int.emod_lt_of_pos _ (by omega)
  have m1 : cMod v E60 = true := cMod_of (by omega)
  have m2 : cMul c 48271 = true := cMul_of 300 300 (by omega) (by omega) (by decide) (by decide) (by decide)
  have m3 : cMul c 69621 = true := cMul_of 300 300 (by omega) (by omega) (by decide) (by decide) (by decide)
  have m4 : ∀ i : Int, cMod i 1000003 = true := fun i => cMod_of (by decide)
  have m5 : ∀ i : Int, cMod i 999983 = true := fun i => cMod_of (by decide)
  have m6 : ∀ i : Int, cMod i (ps.length : Int) = true := fun i => cMod_of (by omega)
  have m7 : ∀ i : Int, cDiv i 8 = true := fun i => cDiv_of 10 (by decide) (by decide) (by decide) (by decide)
  have m8 : ∀ i : Int, cDiv i 16 = true := fun i => cDiv_of 10 (by decide) (by decide) (by decide) (by decide)
  have m9 : ∀ i : Int, cMod i 5 = true := fun i => cMod_of (by decide)
  have m10 : ∀ i : Int, cMod i 2 = true := fun i => cMod_of (by decide)
  have m11 : ∀ i : Int, cMod i 8 = true := fun i => cMod_of (by decide)
  have m12 : ∀ i : Int, cMod i E50 = true := fun i => cMod_of (by omega)
  have pl : (0 : Int) < ps.length := by omega
  obtain ⟨one, one_in, e_one, _⟩ := atI_map (ps := ps) (Int.emod_nonneg (c * 48271 % 1000003) (by omega)) (Int.emod_lt_of_pos (c * 48271 % 1000003) pl)
  obtain ⟨oth, oth_in, e_oth, _⟩ := atI_map (ps := ps) (Int.emod_nonneg (c * 69621 % 999983) (by omega)) (Int.emod_lt_of_pos (c * 69621 % 999983) pl)
  obtain ⟨m, em, hm1, hm2⟩ : ∃ m : Int, atI [PyData.int (c / 8 % 5), .int (c / 16 % E50)] (c / 8 % 2) = some (.int m) ∧ 0 ≤ m ∧ 1 + m ≤ E50 := by
    have h2 : c / 8 % 2 = 0 ∨ c / 8 % 2 = 1 := by omega
    rcases h2 with h2 | h2 <;> rw [h2]
    · exact ⟨_, atI_zero _ _, by omega, by omega⟩
    · refine ⟨_, atI_one _ _ _, Int.emod_nonneg _ (by omega), ?_⟩
      have := Int.emod_lt_of_pos (c / 16) (show (0 : Int) < E50 by omega)
      omega
  have p1 := hp one one_in
  have p2 := hp oth oth_in
  have n1 : gNe (enc one) (.tuple []) = some (.bool (!decide (one = .z))) := gNe_nil (by have := p1.hh; omega)
  suffices hh : ∃ r, G_l_next c0 c1 S ([some (.list (ps.map enc)), some (.int v), none, none, none, none, none]) = .rt (enc r) ∧ PO (B + E50) r by
    obtain ⟨r, h1, h2⟩ := hh
    exact ⟨r, fnD_of h1, h2⟩
  unfold G_l_next
  simp [hc, m1, m2, m3, m4, m5, m6, m7, m8, m9, m10, m11, m12, e_one, e_oth, em, n1]
  -- the way behind the four ways
  have tail : ∀ (e2 : O) (m2 : Int), PO B e2 → 1 ≤ m2 → m2 ≤ E50 → ∃ r, (((S c0 [enc one, enc e2, PyData.int m2]).run
      [some (.list (ps.map enc)), some (.int c), some (enc one), some (enc e2), some (.int m2), some (.int (c % 8)), none] fun d =>
        Out.nx [some (.list (ps.map enc)), some (.int c), some (enc one), some (enc e2), some (.int m2), some (.int (c % 8)), some d]).then
      (sSeq (sIf (tOf (eOp gGt (eFn (S c1) (aCons (eVar 6) aNil)) (eC (PyData.int 24)))) (sRet (eVar 2)) sNil) (sRet (eVar 6)))) = .rt (enc r) ∧ PO (B + E50) r := by
    intro e2 m2 p3 hm3 hm4
    have z1 := p1.hh
    have z2 := p1.ll
    have z3 := p1.sz
    have z4 := p3.hh
    have z5 := p3.sz
    have w1 := hw one e2 m2 (by omega) (by omega) (by omega) (by omega)
    have hs1 := putP_size (a := one) (e := e2) (m := m2)
    have hh1 := putP_h (a := one) (e := e2) (m := m2) (k := 25) (by omega) (by omega)
    have w2 := hs (putP one e2 m2) (by omega) (by omega)
    by_cases q : 24 < (putP one e2 m2).size
    · refine ⟨one, ?_, weak p1⟩
      simp [w1, w2]
      omega
    · refine ⟨putP one e2 m2, ?_, ⟨putP_nf p1.nf p3.nf hm3, by omega, ?_⟩⟩
      · simp [w1, w2]
        omega
      · have := putP_mx (a := one) (e := e2) (m := m2) p1.nf hB p1.mx p3.mx (by omega)
        omega
  by_cases q4 : c % 8 = 4
  · refine ⟨of (one.parts.take (one.len - 1)), ?_, weak (p1.sub hB (List.take_sublist _ _))⟩
    simp only [q4, if_true, cut_init, encL_take, encL_len]
  by_cases q5 : c % 8 = 5
  · refine ⟨of (one.parts.drop (one.len - 1)), ?_, weak (p1.sub hB (List.drop_sublist _ _))⟩
    simp [q5, cut_tail, encL_drop]
  by_cases q6 : c % 8 = 6
  · refine ⟨.c .z (1 + m) .z, by simp [q6], ⟨⟨trivial, by omega, trivial, by simp [O.parts]⟩, by show 1 + 0 + 0 ≤ 24; decide, ?_⟩⟩
    show max (1 + m) (max 0 0) ≤ _
    omega
  by_cases q7 : c % 8 = 7
  · by_cases qz : one = .z
    · obtain ⟨r, h1, h2⟩ := tail oth (1 + m) p2 (by omega) hm2
      refine ⟨r, ?_, h2⟩
      rw [if_neg q4, if_neg q5, if_neg q6, if_pos q7, if_pos qz]
      exact h1
    · obtain ⟨p, hpin, he, _⟩ := part_last qz
      have pp : PO B p.1 := by
        have g1 := (nf_parts one).mp p1.nf
        have g2 := (mx_parts hB one).mp p1.mx
        exact ⟨(g1.2 p hpin).1, Nat.le_trans (size_part hpin) p1.sz, (g2 p hpin).2⟩
      obtain ⟨r, h1, h2⟩ := tail p.1 1 pp (by omega) (by omega)
      refine ⟨r, ?_, h2⟩
      rw [if_neg q4, if_neg q5, if_neg q6, if_pos q7, if_neg qz, he]
      simpa using h1
  · obtain ⟨r, h1, h2⟩ := tail oth (1 + m) p2 (by omega) hm2
    refine ⟨r, ?_, h2⟩
    rw [if_neg q4, if_neg q5, if_neg q6, if_neg q7]
    exact h1
theorem cut_front {α : Type} (xs : List α) (k : Nat) : cutD xs none (some (k : Int)) = xs.take k := by
  unfold cutD
  rw [HT.sIx_nat]
  show (xs.drop 0).take (min k xs.length - 0) = _
  rw [List.drop_zero, Nat.sub_zero, List.take_eq_take_iff]
  omega
theorem pool_loop {k : Nat} {F : Fn} (hF : NextOk k F) {script : Option PyData} : ∀ (vs : List Int) (B : Int) (ps : List O) (x : Option PyData), 0 ≤ B → ps ≠ [] → ps.length + vs.length ≤ 1000 → (∀ a ∈ ps, PO B a) →
    ∃ qs y, forL (gtName 2) (sApp 1 (eFn F (aCons (eVar 1) (aCons (eVar 2) aNil)))) (vs.map .int) [script, some (.list (ps.map enc)), x] = .nx [script, some (.list ((ps ++ qs).map enc)), y] ∧ qs.length = vs.length ∧ ∀ a ∈ ps ++ qs, PO (B + vs.length * E50) a
  | [], B, ps, x, _, _, _, hp => ⟨[], x, by simp, rfl, fun a ha => by
    have := hp a (by simpa using ha)
    simpa using this⟩
  | v :: vs, B, ps, x, hB, hne, hl, hp => by
    have e50 := E50_eq
    rw [List.length_cons] at hl
    obtain ⟨r, h1, h2⟩ := hF B ps v hB hne (by omega) hp
    have hp' : ∀ a ∈ ps ++ [r], PO (B + E50) a := fun a ha => by
      rcases List.mem_append.mp ha with ha | ha
      · have := hp a ha
        exact ⟨this.nf, this.sz, by have := this.mx; omega⟩
      · simp only [List.mem_singleton] at ha; subst ha; exact h2
    obtain ⟨qs, y, g1, g2, g3⟩ := pool_loop hF (script := script) vs (B + E50) (ps ++ [r]) (some (.int v)) (by omega) (by simp) (by rw [List.length_append, List.length_singleton]; omega) hp'
    refine ⟨r :: qs, y, ?_, by rw [List.length_cons, List.length_cons, g2], fun a ha => ?_⟩
    · rw [List.map_cons, u_forL_c]
      have s1 : ps.length < sizeLine := sz1000' (by omega)
      have i1 := enc_imm r
      simp only [u_gtName, List.set_cons_succ, List.set_cons_zero, u_sApp, List.getD_cons_succ, List.getD_cons_zero, u_eFn, u_aCons, u_aNil, u_eVar, R.of_some, R.bind_ok, h1, R.run_ok, List.length_map, s1, i1, decide_true, Bool.and_self, if_true]
      rw [show ps ++ r :: qs = (ps ++ [r]) ++ qs by simp, ← g1, List.map_append, List.map_singleton]
    · have := g3 a (by simpa using ha)
      refine ⟨this.nf, this.sz, ?_⟩
      have h3 := this.mx
      have : B + E50 + (vs.length : Int) * E50 = B + ((vs.length + 1 : Nat) : Int) * E50 := by
        rw [Int.natCast_add, Int.add_mul]
        omega
      rw [List.length_cons]
      omega
/-- the pool: so many numbers -/
def PoolOk (F : Fn) : Prop := ∀ ns : List Int, ns.length ≤ 63 → ∃ ps : List O, F [.list (ns.map .int)] = .ok (.list (ps.map enc)) ∧ 3 ≤ ps.length ∧ ps.length ≤ 27 ∧ (∀ a ∈ ps, PO (25 * E50) a) ∧ ∃ qs, ps = O.z :: .c .z 1 .z :: .c (.c .z 1 .z) 1 .z :: qs
theorem l_pool_step {S : Nat → Fn} {c0 k : Nat} (h : NextOk k (S c0)) : PoolOk (fun ds => fnD 3 (G_l_pool c0 S) ds) := by
  intro ns hn
  have e50 := E50_eq
  have h0 : ∀ a ∈ [O.z, .c .z 1 .z, .c (.c .z 1 .z) 1 .z], PO 1 a := by
    intro a ha
    simp only [List.mem_cons, List.not_mem_nil, or_false] at ha
    rcases ha with rfl | rfl | rfl
    · exact ⟨trivial, by decide, by decide⟩
    · exact ⟨⟨trivial, by decide, trivial, by simp [O.parts]⟩, by decide, by decide⟩
    · exact ⟨⟨⟨trivial, by decide, trivial, by simp [O.parts]⟩, by decide, trivial, by simp [O.parts]⟩, by decide, by decide⟩
  obtain ⟨qs, y, g1, g2, g3⟩ := pool_loop h (script := some (.list (ns.map .int))) (ns.take 24) 1 [O.z, .c .z 1 .z, .c (.c .z 1 .z) 1 .z] none (by decide) (by simp) (by simp; omega) h0
  have hq : qs.length ≤ 24 := by rw [g2, List.length_take]; omega
  refine ⟨[O.z, .c .z 1 .z, .c (.c .z 1 .z) 1 .z] ++ qs, ?_, by simp, by simp; omega, fun a ha => ?_, qs, rfl⟩
  · refine fnD_of ?_
    unfold G_l_pool
    have e1 : cutD (ns.map PyData.int) none (some 24) = (ns.take 24).map .int := by
      rw [show (24 : Int) = ((24 : Nat) : Int) from rfl, cut_front, List.map_take]
    simp only [List.map_take] at g1 e1
    simp [e1]
    show (forL _ _ _ [some (.list (ns.map .int)), some (.list ([O.z, .c .z 1 .z, .c (.c .z 1 .z) 1 .z].map enc)), none]).then _ = _
    rw [g1]
    simp
  · have := g3 a ha
    refine ⟨this.nf, this.sz, ?_⟩
    have h3 := this.mx
    have h4 : ((ns.take 24).length : Int) ≤ 24 := by rw [List.length_take]; omega
    have h5 : ((ns.take 24).length : Int) * E50 ≤ 24 * E50 := Int.mul_le_mul_of_nonneg_right h4 (by omega)
    omega
end Nm
set_option Elab.async false
set_option linter.all false
set_option maxRecDepth 100000
set_option maxHeartbeats 4000000
namespace Pu
open PySem PySem.Spec PyProof.Rows L2
/-- a loop that goes on to its end -/
theorem forL_inv {gt : PyData → Vars → Option Vars} {g : Vars → Out} (I : Nat → Vars → Prop) : ∀ (ds : List PyData) (i : Nat) (ρ : Vars), I i ρ →
    (∀ (j : Nat) (d : PyData) (ρ : Vars), ds[j]? = some d → I (i + j) ρ → ∃ ρ1 ρ2, gt d ρ = some ρ1 ∧ (g ρ1 = .nx ρ2 ∨ g ρ1 = .ct ρ2) ∧ I (i + j + 1) ρ2) →
    ∃ ρ', forL gt g ds ρ = .nx ρ' ∧ I (i + ds.length) ρ'
  | [], i, ρ, h, _ => ⟨ρ, rfl, h⟩
  | d :: ds, i, ρ, h, hs => by
    obtain ⟨ρ1, ρ2, h1, h2, h3⟩ := hs 0 d ρ rfl h
    obtain ⟨ρ', h4, h5⟩ := forL_inv I ds (i + 1) ρ2 h3 fun j d ρ hd hi => by
      have := hs (j + 1) d ρ hd (by rw [show i + (j + 1) = i + 1 + j by omega]; exact hi)
      rw [show i + (j + 1) = i + 1 + j by omega] at this
      exact this
    refine ⟨ρ', ?_, by rw [List.length_cons, show i + (ds.length + 1) = i + 1 + ds.length by omega]; exact h5⟩
    rw [u_forL_c, h1]
    rcases h2 with h2 | h2 <;> simp only [h2, h4]
/-- ... over a range -/
theorem forL_rng {n : Nat} {i : Nat} {g : Vars → Out} (I : Nat → Vars → Prop) (ρ : Vars) (h : I 0 ρ)
    (hs : ∀ (j : Nat) (ρ : Vars), j < n → I j ρ → ∃ ρ2, (g (ρ.set i (some (.int (j : Nat)))) = .nx ρ2 ∨ g (ρ.set i (some (.int (j : Nat)))) = .ct ρ2) ∧ I (j + 1) ρ2) :
    ∃ ρ', forL (gtName i) g (rngD 0 n) ρ = .nx ρ' ∧ I n ρ' := by
  obtain ⟨ρ', h1, h2⟩ := forL_inv (gt := gtName i) (g := g) I (rngD 0 n) 0 ρ h fun j d ρ hd hi => by
    rw [rngD_get] at hd
    by_cases q : j < n
    · rw [if_pos q] at hd
      cases hd
      rw [Nat.zero_add] at hi ⊢
      obtain ⟨ρ2, h3, h4⟩ := hs j ρ q hi
      exact ⟨_, ρ2, rfl, by rw [show (0 : Int) + (j : Nat) = (j : Nat) by omega]; exact h3, h4⟩
    · rw [if_neg q] at hd; cases hd
  rw [rngD_len, Nat.zero_add] at h2
  exact ⟨ρ', h1, h2⟩
theorem atI_int {ns : List Int} {j : Nat} (h : j < ns.length) : ∃ v, atI (ns.map PyData.int) (j : Int) = some (.int v) := ⟨ns[j], L2.atI_nat (by rw [List.getElem?_map, List.getElem?_eq_getElem h]; rfl)⟩
end Pu
namespace Nm
open PySem PySem.Spec PyProof.Rows L2 Pu
/-- one of the pool's numbers -/
theorem atI_nth {ps : List O} {j : Nat} (h : j < ps.length) : atI (ps.map enc) (j : Int) = some (enc ps[j]) := L2.atI_nat (by rw [List.getElem?_map, List.getElem?_eq_getElem h]; rfl)
theorem atI_modP {ps : List O} (h : 0 < ps.length) (v : Int) : ∃ a ∈ ps, atI (ps.map enc) (v % (ps.length : Int)) = some (enc a) := by
  obtain ⟨a, h1, h2, _⟩ := atI_map (ps := ps) (Int.emod_nonneg v (by omega)) (Int.emod_lt_of_pos v (show (0 : Int) < ps.length by omega))
  exact ⟨a, h1, h2⟩
def SideOk (F : Fn) : Prop := ∀ i j : Int, F [.int i, .int j] = .ok (.bool (decide (i = j)))
theorem l_side_step (S : Nat → Fn) : SideOk (fun ds => fnD 2 (G_l_side S) ds) := by
  intro i j
  refine fnD_of ?_
  unfold G_l_side
  simp [isiB]
/-- the cell of this place, else d; below 10 ** 60 -/
def cellD (d : Int) (ns : List Int) (j : Nat) : Int := match ns[j]? with
  | some v => v % E60
  | none => d
abbrev cellAt (ns : List Int) (j : Nat) : Int := cellD 5 ns j
theorem cellD_lt {d : Int} (h0 : 0 ≤ d) (h1 : d < 1000) (ns : List Int) (j : Nat) : 0 ≤ cellD d ns j ∧ cellD d ns j < E60 := by
  unfold cellD
  have e := E60_eq
  split
  · exact ⟨Int.emod_nonneg _ (by omega), Int.emod_lt_of_pos _ (by omega)⟩
  · omega
theorem cellAt_lt (ns : List Int) (j : Nat) : 0 ≤ cellAt ns j ∧ cellAt ns j < E60 := cellD_lt (by decide) (by decide) ns j
/-- the first rows of a law's turn -/
theorem cell_head (d : Int) (ns : List Int) (j : Nat) (W : Vars → Out) (p b : Option PyData) (t : Vars) :
    sSeq (sSet [] 3 (eC (.int d))) (sSeq (sIf (tOf (eOp gLt (eVar 2) (eCall gLen (aCons (eVar 0) aNil)))) (sSet [] 3 (eOp gMod (eOp gIx (eVar 0) (eVar 2)) (eOp gPow (eC (.int 10)) (eC (.int 60))))) sNil) W)
      (some (.list (ns.map .int)) :: p :: some (.int (j : Nat)) :: b :: t) = W (some (.list (ns.map .int)) :: p :: some (.int (j : Nat)) :: some (.int (cellD d ns j)) :: t) := by
  have m5 : ∀ i : Int, cMod i E60 = true := fun i => cMod_of (by have e := E60_eq; omega)
  by_cases q : j < ns.length
  · have hv : atI (ns.map PyData.int) (j : Int) = some (.int ns[j]) := L2.atI_nat (by rw [List.getElem?_map, List.getElem?_eq_getElem q]; rfl)
    have hc : cellD d ns j = ns[j] % E60 := by unfold cellD; rw [List.getElem?_eq_getElem q]
    have q' : (j : Int) < (ns.length : Int) := by omega
    rw [hc, u_sSeq]
    simp only [u_sSet0, u_eC, R.run_ok, Out.then_nx, List.set_cons_zero, List.set_cons_succ]
    rw [u_sSeq]
    simp only [u_sSet0, u_eC, R.run_ok, Out.then_nx, u_sIf, u_tOf, u_eOp, u_eVar, u_eCall, u_aCons, u_aNil, R.of_some, R.bind_ok, List.set_cons_zero, List.set_cons_succ, List.getD_cons_zero, List.getD_cons_succ, u_gLen_l, List.length_map, u_gCmp, q', decide_true, if_true, hv, u_gIx_l, p60]
    simp only [u_gInt, m5, if_true, R.of_some, R.run_ok, Out.then_nx]
  · have hc : cellD d ns j = d := by unfold cellD; rw [List.getElem?_eq_none (by omega)]
    have q' : ¬ (j : Int) < (ns.length : Int) := by omega
    rw [hc, u_sSeq]
    simp only [u_sSet0, u_eC, R.run_ok, Out.then_nx, List.set_cons_zero, List.set_cons_succ]
    rw [u_sSeq]
    simp only [u_sSet0, u_eC, R.run_ok, Out.then_nx, u_sIf, u_tOf, u_eOp, u_eVar, u_eCall, u_aCons, u_aNil, R.of_some, R.bind_ok, List.set_cons_zero, List.set_cons_succ, List.getD_cons_zero, List.getD_cons_succ, u_gLen_l, List.length_map, u_gCmp, q', decide_false, Bool.false_eq_true, if_false, u_sNil]
theorem atI_part {a : O} (h : 0 < a.len) (v : Int) : ∃ p ∈ a.parts, atI (encL a) (v % (a.len : Int)) = some (encP p) := by
  have h0 : 0 ≤ v % (a.len : Int) := Int.emod_nonneg v (by omega)
  have h1 : v % (a.len : Int) < a.len := Int.emod_lt_of_pos v (by omega)
  obtain ⟨j, hj⟩ := Int.eq_ofNat_of_zero_le h0
  rw [hj] at h1 ⊢
  have hl : j < a.parts.length := by rw [O.len_parts]; omega
  refine ⟨a.parts[j], List.getElem_mem hl, ?_⟩
  rw [encL_parts]
  exact L2.atI_nat (by rw [List.getElem?_map, List.getElem?_eq_getElem hl]; rfl)
/-- one of the pool, one more: bounds of the numbers -/
theorem cell_mul {c k : Int} (c0 : 0 ≤ c ∧ c < E60) (h0 : 0 ≤ k) (h : k < 10 ^ 9) : cMul c k = true := by
  have e := E60_eq
  exact cMul_of 300 300 (by omega) (by omega) (by decide) (by decide) (by decide)
theorem cMod_len {ps : List O} (h : 3 ≤ ps.length) (i : Int) : cMod i (ps.length : Int) = true := cMod_of (by omega)
theorem okI_len {ps : List O} (h : ps.length ≤ 27) : okI (ps.length : Int) = true := okI_small (by omega) (by omega)
/-- the last rows of a law with a loop over the pool -/
theorem pool_for {ns : List Int} {ps : List O} {g : Vars → Out} {t : Vars} (h3 : ps.length ≤ 27) (n : Nat) (hn : t.length = n)
    (turn : ∀ (j : Nat) (b : Option PyData) (t : Vars), j < ps.length → t.length = n → ∃ b' t', t'.length = n ∧ g (some (.list (ns.map .int)) :: some (.list (ps.map enc)) :: some (.int (j : Nat)) :: b :: t) = .nx (some (.list (ns.map .int)) :: some (.list (ps.map enc)) :: some (.int (j : Nat)) :: b' :: t')) :
    (sSeq (sFor [] (iRange (aCons (eCall gLen (aCons (eVar 1) aNil)) aNil)) (gtName 2) g) (sRet (eC (.bool true)))) (some (.list (ns.map .int)) :: some (.list (ps.map enc)) :: none :: none :: t) = .rt (.bool true) := by
  have ok := okI_len h3
  obtain ⟨ρ', r1, a, b, t', ht, rfl⟩ := forL_rng (n := ps.length) (i := 2) (g := g) (fun _ ρ => ∃ a b t', t'.length = n ∧ ρ = some (.list (ns.map .int)) :: some (.list (ps.map enc)) :: a :: b :: t')
    (some (.list (ns.map .int)) :: some (.list (ps.map enc)) :: none :: none :: t) ⟨_, _, t, hn, rfl⟩ fun j ρ hj hi => by
      obtain ⟨a, b, t', ht, rfl⟩ := hi
      obtain ⟨b2, t2, l2, h⟩ := turn j b t' hj ht
      exact ⟨_, Or.inl h, ⟨_, _, _, l2, rfl⟩⟩
  simp [ok, r1]
end Nm
set_option Elab.async false
set_option linter.all false
set_option maxRecDepth 100000
set_option maxHeartbeats 4000000
namespace Nm
open PySem Pu O L2
theorem split_aux (e : O) : ∀ ps : List (O × Int), ps.Pairwise (fun p q => cmp p.1 q.1 = 1) →
    ps = (ps.filter fun p => decide (0 < cmp p.1 e)) ++ (ps.filter fun p => decide (p.1 = e)) ++ (ps.filter fun p => decide (cmp p.1 e < 0)) ∧
    ((ps.filter fun p => decide (p.1 = e)) = [] ∨ ∃ n, (ps.filter fun p => decide (p.1 = e)) = [(e, n)])
  | [], _ => ⟨rfl, Or.inl rfl⟩
  | p :: ps, h => by
    rw [List.pairwise_cons] at h
    obtain ⟨i1, i2⟩ := split_aux e ps h.2
    have low : cmp p.1 e ≤ 0 → (ps.filter fun q => decide (0 < cmp q.1 e)) = [] ∧ (ps.filter fun q => decide (q.1 = e)) = [] ∧ (ps.filter fun q => decide (cmp q.1 e < 0)) = ps := fun c => by
      have all : ∀ q ∈ ps, cmp q.1 e = -1 := fun q hq => by
        have h1 := h.1 q hq
        rcases cmp_range p.1 e with c1 | c1 | c1
        · exact lt_trans (cmp_gt.mp h1) c1
        · rw [← (cmp_eq p.1 e).mp c1]; exact cmp_gt.mp h1
        · omega
      refine ⟨?_, ?_, ?_⟩
      · rw [List.filter_eq_nil_iff]; intro q hq; have := all q hq; simp; omega
      · rw [List.filter_eq_nil_iff]; intro q hq; have := all q hq; simp; intro z; rw [z, cmp_self] at this; cases this
      · rw [List.filter_eq_self]; intro q hq; have := all q hq; simp; omega
    rcases cmp_range p.1 e with c | c | c
    · obtain ⟨l1, l2, l3⟩ := low (by omega)
      have ne : ¬ p.1 = e := fun z => by rw [z, cmp_self] at c; cases c
      rw [List.filter_cons_of_neg (by simp [c]), List.filter_cons_of_neg (by simp [ne]), List.filter_cons_of_pos (by simp [c]), l1, l2, l3]
      exact ⟨rfl, Or.inl rfl⟩
    · obtain ⟨l1, l2, l3⟩ := low (by omega)
      have eq := (cmp_eq p.1 e).mp c
      rw [List.filter_cons_of_neg (by simp [c]), List.filter_cons_of_pos (by simp [eq]), List.filter_cons_of_neg (by simp [c]), l1, l2, l3]
      exact ⟨rfl, Or.inr ⟨p.2, by rw [← eq]⟩⟩
    · have ne : ¬ p.1 = e := fun z => by rw [z, cmp_self] at c; cases c
      rw [List.filter_cons_of_pos (by simp [c]), List.filter_cons_of_neg (by simp [ne]), List.filter_cons_of_neg (by simp [c])]
      refine ⟨?_, i2⟩
      rw [List.cons_append, List.cons_append]
      exact congrArg _ i1
/-- the sum -/
def plusO (a : O) : O → O
  | .z => a
  | .c e n r => of (above a e ++ (e, sameN a e + n) :: r.parts)
theorem encL_plus {a e r : O} {n : Int} : encL (plusO a (.c e n r)) = (above a e).map encP ++ encP (e, sameN a e + n) :: encL r := by
  show encL (of _) = _
  rw [encL_of, encL_parts r, List.map_append, List.map_cons]
def PlusOk (k : Nat) (F : Fn) : Prop := ∀ a b : O, NF a → a.h < k → a.h ≤ 30 → b.h ≤ 30 → a.len ≤ 1000000 → b.len ≤ 1000000 → F [enc a, enc b] = .ok (enc (plusO a b))
theorem cut_tl {α : Type} (x : α) (r : List α) : cutD (x :: r) (some 1) none = r := by
  unfold cutD
  rw [show HT.sIx (x :: r).length 0 (some 1) = 1 from by
    have := HT.sIx_nat (x :: r).length 0 1
    rw [show ((1 : Nat) : Int) = 1 from rfl] at this
    rw [this]
    simp]
  show ((x :: r).drop 1).take ((x :: r).length - 1) = _
  simp
theorem above_len (a e : O) : (above a e).length ≤ a.len := by rw [← len_parts]; exact List.length_filter_le _ _
theorem plus_step {S : Nat → Fn} {c0 k : Nat} (hc : CmpOk k (S c0)) : PlusOk (k + 1) (fun ds => fnD 7 (G_plus c0 S) ds) := by
  intro a b na hk ha hb hla hlb
  refine fnD_of ?_
  unfold G_plus
  have hcs : b = .z ∨ ∃ e n r, b = .c e n r := by cases b with
    | z => exact Or.inl rfl
    | c e n r => exact Or.inr ⟨e, n, r, rfl⟩
  rcases hcs with hbz | ⟨e, n, r, hbz⟩
  · subst hbz; simp [gEq_nil (a := .z) (by decide), plusO]
  · have he : e.h ≤ 30 := by rw [hbz] at hb; have : (O.c e n r).h = max (e.h + 1) r.h := rfl; omega
    have n1 : gEq (enc b) (.tuple []) = some (.bool false) := by rw [gEq_nil (by omega), hbz]; rfl
    have b0 : atI (encL b) 0 = some (encP (e, n)) := by rw [hbz]; exact atI_zero _ _
    have b1 : cutD (encL b) (some 1) none = encL r := by rw [hbz]; exact cut_tl _ _
    have e1 : lcL (gtName 6) (tOf (eOp gEq (eFn (S c0) (aCons (eOp gIx (eVar 6) (eC (.int 0))) (aCons (eVar 2) aNil))) (eC (.int 1)))) (eVar 6) [some (enc a), some (enc b), some (enc e), some (.int n), none, none, none] (encL a) = .ok ((above a e).map encP) := by
      refine lc_parts (P := fun p => decide (0 < cmp p.1 e)) (fun p hp => ?_) fun p hp _ => by simp
      have := part_mem_h hp
      have h1 := hc p.1 e (by omega)
      have h2 := cmp_range p.1 e
      have h3 : decide (cmp p.1 e = 1) = decide (0 < cmp p.1 e) := by
        rcases h2 with h2 | h2 | h2 <;> rw [h2] <;> decide
      simp [h1, h3]
    have la := above_len a e
    have s1 : (above a e).length < sizeLine := sz1000' (by omega)
    have s2 : (above a e).length + 1 ≤ sizeLine := sz1000 (by omega)
    have lr : (encL r).length ≤ 1000000 := by rw [hbz] at hlb; have h1 := encL_len r; have : (O.c e n r).len = r.len + 1 := rfl; omega
    have s3 : (above a e).length + 1 + r.len ≤ sizeLine := sz1000 (by have := encL_len r; omega)
    obtain ⟨q1, q2⟩ := split_aux e a.parts ((nf_parts a).mp na).1
    have ep := encL_plus (a := a) (e := e) (r := r) (n := n)
    rw [← hbz] at ep
    by_cases ht : (above a e).length < a.len
    · obtain ⟨p, hp, ha⟩ : ∃ p, atI (encL a) ((above a e).length : Int) = some (encP p) ∧ (decide (p.1 = e) = true → sameN a e = p.2) ∧ (decide (p.1 = e) = false → sameN a e = 0) ∧ p ∈ a.parts := by
        have hl : (above a e).length < a.parts.length := by rw [len_parts]; exact ht
        refine ⟨a.parts[(above a e).length], ?_, ?_⟩
        · rw [encL_parts]
          exact L2.atI_nat (by rw [List.getElem?_map, List.getElem?_eq_getElem hl]; rfl)
        · have hg : a.parts[(above a e).length]? = ((a.parts.filter fun p => decide (p.1 = e)) ++ under a e)[0]? := by
            have : a.parts = above a e ++ ((a.parts.filter fun p => decide (p.1 = e)) ++ under a e) := by rw [← List.append_assoc]; exact q1
            rw [this, List.getElem?_append_right (Nat.le_refl _), Nat.sub_self]
            rw [← this]
          rw [List.getElem?_eq_getElem hl] at hg
          refine ⟨fun hd => ?_, fun hd => ?_, List.getElem_mem hl⟩
          · rcases q2 with q2 | ⟨m, q2⟩
            · rw [q2, List.nil_append] at hg
              have hm : a.parts[(above a e).length] ∈ under a e := List.mem_of_getElem? hg.symm
              have := of_decide_eq_true (List.mem_filter.mp hm).2
              rw [of_decide_eq_true hd, cmp_self] at this
              omega
            · rw [q2] at hg
              have : a.parts[(above a e).length] = (e, m) := by simpa using hg
              rw [this]
              unfold sameN
              rw [q2]
              simp
          · rcases q2 with q2 | ⟨m, q2⟩
            · unfold sameN; rw [q2]; rfl
            · rw [q2] at hg
              have : a.parts[(above a e).length] = (e, m) := by simpa using hg
              rw [this] at hd
              simp at hd
      have hph := part_mem_h ha.2.2
      have g1 := gEq_enc (a := p.1) (b := e) (by omega) (by omega)
      have ht' : ((above a e).length : Int) < (a.len : Int) := by omega
      by_cases hd : p.1 = e
      · have hs := ha.1 (decide_eq_true hd)
        rw [hd] at g1
        simp [n1, b0, b1, e1, s1, s2, s3, ht', hp, g1, hd, ep, hs, gAddI, Int.add_comm]
      · have hs := ha.2.1 (decide_eq_false hd)
        simp [n1, b0, b1, e1, s1, s2, s3, ht', hp, g1, hd, ep, hs]
    · have hs : sameN a e = 0 := by
        rcases q2 with q2 | ⟨m, q2⟩
        · unfold sameN; rw [q2]; rfl
        · exfalso
          have := congrArg List.length q1
          rw [List.length_append, List.length_append, q2, len_parts] at this
          simp only [List.length_singleton] at this
          have h0 : (above a e).length = (List.filter (fun p => decide (0 < cmp p.1 e)) a.parts).length := rfl
          omega
      have ht' : ¬ ((above a e).length : Int) < (a.len : Int) := by omega
      simp [n1, b0, b1, e1, s1, s2, s3, ht', ep, hs]
end Nm
set_option Elab.async false
set_option linter.all false
set_option maxRecDepth 100000
set_option maxHeartbeats 4000000
namespace Nm
open PySem Pu O L2
/-! ### how a law looks at numbers -/
def PureOk (k : Nat) (F : Fn) : Prop := ∀ a : O, a.h < k → F [enc a] = .ok (.bool true)
theorem l_pure_step {S : Nat → Fn} {c0 k : Nat} (h : PureOk k (S c0)) : PureOk (k + 1) (fun ds => fnD 2 (G_l_pure c0 S) ds) := by
  intro a hk
  refine fnD_of ?_
  obtain ⟨ρ', r1, x, rfl⟩ := forL_inv (gt := gtName 1) (g := sIf (tOrR (tTru (eIsi "bool" (eOp gIx (eVar 1) (eC (.int 1))))) (tNotR (tTru (eFn (S c0) (aCons (eOp gIx (eVar 1) (eC (.int 0))) aNil))))) (sRet (eC (.bool false))) sNil)
    (fun _ ρ => ∃ x, ρ = [some (enc a), x]) (encL a) 0 [some (enc a), none] ⟨_, rfl⟩ fun j d ρ hd hi => by
      obtain ⟨x, rfl⟩ := hi
      rw [encL_parts, List.getElem?_map] at hd
      obtain ⟨p, hp, rfl⟩ := Option.map_eq_some_iff.mp hd
      have hm := part_mem_h (List.mem_of_getElem? hp)
      have h1 := h p.1 (by omega)
      refine ⟨_, _, rfl, Or.inl ?_, ⟨some (encP p), rfl⟩⟩
      simp [h1, isiB]
  unfold G_l_pure
  simp [r1]
def IsOk (k : Nat) (F : Fn) : Prop := ∀ a b : O, a.h < k → a.h ≤ 30 → b.h ≤ 30 → F [enc a, enc b] = .ok (.bool (decide (a = b)))
theorem l_is_step {S : Nat → Fn} {c0 k : Nat} (h : PureOk k (S c0)) : IsOk k (fun ds => fnD 2 (G_l_is c0 S) ds) := by
  intro a b hk ha hb
  refine fnD_of ?_
  have h1 := h a hk
  have h2 := gEq_enc (a := a) (b := b) (by omega) (by omega)
  unfold G_l_is
  by_cases c : a = b
  · subst c; simp at h2; simp [h1, h2, isiB]
  · simp [h1, h2, isiB, c]
def LPlusOk (k : Nat) (F : Fn) : Prop := ∀ a b : O, a.h < k → a.h ≤ 30 → b.h ≤ 30 → a.len ≤ 1000000 → b.len ≤ 1000000 → F [enc a, enc b] = .ok (enc (plusO a b))
theorem l_plus_step {S : Nat → Fn} {c0 k : Nat} (hc : CmpOk k (S c0)) : LPlusOk k (fun ds => fnD 6 (G_l_plus c0 S) ds) := by
  intro a b hk ha hb hla hlb
  refine fnD_of ?_
  unfold G_l_plus
  have hcs : b = .z ∨ ∃ e n r, b = .c e n r := by cases b with
    | z => exact Or.inl rfl
    | c e n r => exact Or.inr ⟨e, n, r, rfl⟩
  rcases hcs with hbz | ⟨e, n, r, hbz⟩
  · subst hbz; simp [gEq_nil (a := .z) (by decide), plusO]
  · have he : e.h ≤ 30 := by rw [hbz] at hb; have : (O.c e n r).h = max (e.h + 1) r.h := rfl; omega
    have n1 : gEq (enc b) (.tuple []) = some (.bool false) := by rw [gEq_nil (by omega), hbz]; rfl
    have b0 : atI (encL b) 0 = some (encP (e, n)) := by rw [hbz]; exact atI_zero _ _
    have b1 : cutD (encL b) (some 1) none = encL r := by rw [hbz]; exact cut_tl _ _
    have e1 : lcL (gtName 5) (tOf (eOp gGt (eFn (S c0) (aCons (eOp gIx (eVar 5) (eC (.int 0))) (aCons (eVar 2) aNil))) (eC (.int 0)))) (eVar 5) [some (enc a), some (enc b), some (enc e), none, none, none] (encL a) = .ok ((above a e).map encP) := by
      refine lc_parts (P := fun p => decide (0 < cmp p.1 e)) (fun p hp => ?_) fun p hp _ => by simp
      have := part_mem_h hp
      have h1 := hc p.1 e (by omega)
      simp [h1]
    have e3 : lcL (gtName 5) (tOf (eOp gEq (eOp gIx (eVar 5) (eC (.int 0))) (eVar 2))) (eOp gIx (eVar 5) (eC (.int 1))) [some (enc a), some (enc b), some (enc e), some (.list ((above a e).map encP)), none, none] (encL a) = .ok ((a.parts.filter fun p => decide (p.1 = e)).map fun p => PyData.int p.2) := by
      refine lc_parts (P := fun p => decide (p.1 = e)) (fun p hp => ?_) fun p hp _ => by simp
      have := part_mem_h hp
      have h1 := gEq_enc (a := p.1) (b := e) (by omega) (by omega)
      simp [h1]
    have la := above_len a e
    have lx : (a.parts.filter fun p => decide (p.1 = e)).length ≤ a.len := by rw [← len_parts]; exact List.length_filter_le _ _
    have s1 : (above a e).length < sizeLine := sz1000' (by omega)
    have s2 : (above a e).length + 1 ≤ sizeLine := sz1000 (by omega)
    have lr : (encL r).length ≤ 1000000 := by rw [hbz] at hlb; have h1 := encL_len r; have : (O.c e n r).len = r.len + 1 := rfl; omega
    have s3 : (above a e).length + 1 + r.len ≤ sizeLine := sz1000 (by have := encL_len r; omega)
    have s4 : (a.parts.filter fun p => decide (p.1 = e)).length < sizeLine := sz1000' (by omega)
    have es := intsOf_mapF (fun p : O × Int => p.2) (a.parts.filter fun p => decide (p.1 = e))
    have ep := encL_plus (a := a) (e := e) (r := r) (n := n)
    rw [← hbz] at ep
    simp [n1, b0, b1, e1, e3, s1, s2, s3, s4, gSum, es, ep, sameN]
/-- the sum's bounds -/
theorem plusO_h {a b : O} {k : Nat} (ha : a.h ≤ k) (hb : b.h ≤ k) : (plusO a b).h ≤ k := by
  cases b with
  | z => exact ha
  | c e n r =>
    show (of _).h ≤ k
    rw [h_of]
    intro p hp
    have hb1 := (h_parts (.c e n r)).mp hb
    rcases List.mem_append.mp hp with hp | hp
    · exact (h_parts a).mp ha p (List.mem_filter.mp hp).1
    · rcases List.mem_cons.mp hp with hp | hp
      · subst hp; exact hb1 (e, n) (by show _ ∈ (e, n) :: r.parts; simp)
      · exact hb1 p (by show _ ∈ (e, n) :: r.parts; simp [hp])
theorem plusO_len {a b : O} : (plusO a b).len ≤ a.len + b.len := by
  cases b with
  | z => exact Nat.le_refl _
  | c e n r =>
    show (of _).len ≤ a.len + (r.len + 1)
    rw [len_of, List.length_append, List.length_cons, len_parts]
    have := above_len a e
    omega
theorem plusO_nf {a b : O} (ha : NF a) (hb : NF b) : NF (plusO a b) := by
  cases b with
  | z => exact ha
  | c e n r =>
    have h1 := (nf_parts a).mp ha
    have h2 := (nf_parts _).mp hb
    have h3 : ((e, n) :: r.parts).Pairwise (fun p q => cmp p.1 q.1 = 1) := h2.1
    rw [List.pairwise_cons] at h3
    have h4 : ∀ p ∈ (e, n) :: r.parts, NF p.1 ∧ 1 ≤ p.2 := h2.2
    have hs := (sameN_bound (e := e) ha (mx_nonneg a) (Int.le_refl _)).1
    have hu : ∀ p ∈ above a e, p ∈ a.parts ∧ cmp p.1 e = 1 := fun p hp => by
      have := List.mem_filter.mp hp
      refine ⟨this.1, ?_⟩
      have h2 := of_decide_eq_true this.2
      rcases cmp_range p.1 e with h | h | h <;> omega
    show NF (of _)
    rw [nf_of, List.pairwise_append, List.pairwise_cons]
    refine ⟨⟨h1.1.sublist List.filter_sublist, ⟨h3.1, h3.2⟩, fun p hp q hq => ?_⟩, fun p hp => ?_⟩
    · rcases List.mem_cons.mp hq with hq | hq
      · subst hq; exact (hu p hp).2
      · exact gt_trans (hu p hp).2 (h3.1 q hq)
    · rcases List.mem_append.mp hp with hp | hp
      · exact h1.2 p (hu p hp).1
      · rcases List.mem_cons.mp hp with hp | hp
        · subst hp
          have := h4 (e, n) (by simp)
          exact ⟨this.1, by have := this.2; show 1 ≤ sameN a e + n; simp at this; omega⟩
        · exact h4 p (List.mem_cons_of_mem _ hp)
end Nm
set_option Elab.async false
set_option linter.all false
set_option maxRecDepth 100000
set_option maxHeartbeats 4000000
namespace Nm
open PySem Pu O L2
/-! ### the sum, place by place -/
theorem nf_tail {f r : O} {m : Int} (h : NF (.c f m r)) : NF r ∧ NF f ∧ 1 ≤ m ∧ ∀ q ∈ r.parts, cmp f q.1 = 1 := by
  have h1 := (nf_parts _).mp h
  have h2 : ((f, m) :: r.parts).Pairwise (fun p q => cmp p.1 q.1 = 1) := h1.1
  have h3 : ∀ p ∈ (f, m) :: r.parts, NF p.1 ∧ 1 ≤ p.2 := h1.2
  rw [List.pairwise_cons] at h2
  have h4 := h3 (f, m) (by simp)
  exact ⟨(nf_parts r).mpr ⟨h2.2, fun p hp => h3 p (List.mem_cons_of_mem _ hp)⟩, h4.1, h4.2, h2.1⟩
theorem lows {a e : O} (h : ∀ q ∈ a.parts, cmp q.1 e = -1) : above a e = [] ∧ sameN a e = 0 := by
  refine ⟨?_, ?_⟩
  · unfold above
    rw [List.filter_eq_nil_iff]; intro q hq; have := h q hq; simp; omega
  · unfold sameN
    have : (a.parts.filter fun p => decide (p.1 = e)) = [] := by
      rw [List.filter_eq_nil_iff]; intro q hq; have := h q hq; simp; intro z; rw [z, cmp_self] at this; cases this
    rw [this]; rfl
theorem tail_low {f r e : O} {m : Int} (h : NF (.c f m r)) (c : cmp f e = -1 ∨ f = e) : ∀ q ∈ r.parts, cmp q.1 e = -1 := fun q hq => by
  have h1 := cmp_gt.mp ((nf_tail h).2.2.2 q hq)
  rcases c with c | c
  · exact lt_trans h1 c
  · rw [← c]; exact h1
theorem plus_lt {f r e s : O} {m n : Int} (h : NF (.c f m r)) (c : cmp f e = -1) : plusO (.c f m r) (.c e n s) = .c e n s := by
  have hl : ∀ q ∈ (O.c f m r).parts, cmp q.1 e = -1 := fun q hq => by
    rcases List.mem_cons.mp (show q ∈ (f, m) :: r.parts from hq) with hq | hq
    · rw [hq]; exact c
    · exact tail_low h (Or.inl c) q hq
  obtain ⟨h1, h2⟩ := lows hl
  show of (above _ e ++ (e, sameN _ e + n) :: s.parts) = _
  rw [h1, h2, List.nil_append, Int.zero_add]
  exact congrArg (O.c e n) (of_parts s)
theorem plus_eq {f r s : O} {m n : Int} (h : NF (.c f m r)) : plusO (.c f m r) (.c f n s) = .c f (m + n) s := by
  obtain ⟨h1, h2⟩ := lows (tail_low h (Or.inr rfl))
  have h3 : above (.c f m r) f = [] := by
    show ((f, m) :: r.parts).filter _ = []
    rw [List.filter_cons_of_neg (by simp [cmp_self])]; exact h1
  have h4 : sameN (.c f m r) f = m := by
    show ((((f, m) :: r.parts).filter _).map _).sum = m
    rw [List.filter_cons_of_pos (by simp), List.map_cons, List.sum_cons]
    have : ((r.parts.filter fun p => decide (p.1 = f)).map fun p => p.2).sum = 0 := h2
    rw [this, Int.add_zero]
  show of (above _ f ++ (f, sameN _ f + n) :: s.parts) = _
  rw [h3, h4, List.nil_append]
  exact congrArg (O.c f (m + n)) (of_parts s)
theorem plus_gt {f r e s : O} {m n : Int} (c : cmp f e = 1) : plusO (.c f m r) (.c e n s) = .c f m (plusO r (.c e n s)) := by
  have h3 : above (.c f m r) e = (f, m) :: above r e := by
    show ((f, m) :: r.parts).filter _ = _
    rw [List.filter_cons_of_pos (by simp [c])]; rfl
  have ne : ¬ f = e := fun z => by rw [z, cmp_self] at c; cases c
  have h4 : sameN (.c f m r) e = sameN r e := by
    show ((((f, m) :: r.parts).filter _).map _).sum = _
    rw [List.filter_cons_of_neg (by simp [ne])]; rfl
  show of (above _ e ++ (e, sameN _ e + n) :: s.parts) = _
  rw [h3, h4]
  rfl
theorem plus_z {a : O} : plusO .z a = a := by
  cases a with
  | z => rfl
  | c e n r =>
    show of ([] ++ (e, 0 + n) :: r.parts) = _
    rw [Int.zero_add, List.nil_append]
    exact congrArg _ (of_parts r)
theorem cmp_lt_head {e e' r r' : O} {n n' : Int} (c : cmp e e' = -1) : cmp (.c e n r) (.c e' n' r') = -1 := cmp_c.mpr (Or.inl c)
theorem cmp_zc {e r : O} {n : Int} : cmp .z (.c e n r) = -1 := by simp [cmp]
theorem plus_assoc : ∀ a b d : O, NF a → NF b → NF d → plusO (plusO a b) d = plusO a (plusO b d)
  | .z, b, d, _, _, _ => by rw [plus_z, plus_z]
  | .c f m r, .z, d, _, _, _ => by rw [plus_z]; rfl
  | .c f m r, .c e n s, .z, _, _, _ => rfl
  | .c f m r, .c e n s, .c g k t, ha, hb, hd => by
    have hr := (nf_tail ha).1
    rcases cmp_tri f e with c1 | c1 | c1
    · rw [plus_lt ha c1]
      rcases cmp_tri e g with c2 | c2 | c2
      · rw [plus_lt hb c2, plus_lt ha (lt_trans c1 c2)]
      · subst c2; rw [plus_eq hb, plus_lt ha c1]
      · rw [plus_gt c2, plus_lt ha c1]
    · subst c1
      rw [plus_eq ha]
      have hab : NF (.c f (m + n) s) := by have := plusO_nf ha hb; rw [plus_eq ha] at this; exact this
      rcases cmp_tri f g with c2 | c2 | c2
      · rw [plus_lt hb c2, plus_lt ha c2, plus_lt hab c2]
      · subst c2; rw [plus_eq hb, plus_eq ha, plus_eq hab, Int.add_assoc]
      · rw [plus_gt c2, plus_gt c2, plus_eq ha]
    · rw [plus_gt c1]
      have hab : NF (.c f m (plusO r (.c e n s))) := by have := plusO_nf ha hb; rw [plus_gt c1] at this; exact this
      rcases cmp_tri f g with c2 | c2 | c2
      · rw [plus_lt hab c2, plus_lt hb (lt_trans (cmp_gt.mp c1) c2), plus_lt ha c2]
      · subst c2; rw [plus_eq hab, plus_lt hb (cmp_gt.mp c1), plus_eq ha]
      · rw [plus_gt c2, plus_assoc r (.c e n s) (.c g k t) hr hb hd]
        rcases cmp_tri e g with c3 | c3 | c3
        · rw [plus_lt hb c3, plus_gt c2]
        · subst c3; rw [plus_eq hb, plus_gt c1]
        · rw [plus_gt c3, plus_gt c1]
theorem plus_mono : ∀ a b d : O, NF a → NF b → NF d → cmp b d = -1 → cmp (plusO a b) (plusO a d) = -1
  | .z, b, d, _, _, _, h => by rw [plus_z, plus_z]; exact h
  | .c f m r, b, .z, _, _, _, h => by cases b <;> simp [cmp] at h
  | .c f m r, .z, .c g k t, ha, hb, hd, h => by
    have hr := (nf_tail ha).1
    have hk := (nf_tail hd).2.2.1
    show cmp (.c f m r) _ = -1
    rcases cmp_tri f g with c2 | c2 | c2
    · rw [plus_lt ha c2]; exact cmp_lt_head c2
    · subst c2; rw [plus_eq ha]; exact cmp_c.mpr (Or.inr ⟨rfl, Or.inl (by omega)⟩)
    · rw [plus_gt c2]; exact cmp_c.mpr (Or.inr ⟨rfl, Or.inr ⟨rfl, plus_mono r .z (.c g k t) hr hb hd h⟩⟩)
  | .c f m r, .c e n s, .c g k t, ha, hb, hd, h => by
    have hr := (nf_tail ha).1
    have hk := (nf_tail hd).2.2.1
    have h' := cmp_c.mp h
    rcases cmp_tri f e with c1 | c1 | c1
    · rw [plus_lt ha c1]
      have : cmp f g = -1 := by
        rcases h' with q | ⟨q, _⟩
        · exact lt_trans c1 q
        · rw [← q]; exact c1
      rw [plus_lt ha this]; exact h
    · subst c1
      rw [plus_eq ha]
      rcases h' with q | ⟨q, q2⟩
      · rw [plus_lt ha q]; exact cmp_lt_head q
      · subst q
        rw [plus_eq ha]
        refine cmp_c.mpr (Or.inr ⟨rfl, ?_⟩)
        rcases q2 with q2 | ⟨q2, q3⟩
        · exact Or.inl (by omega)
        · exact Or.inr ⟨by omega, q3⟩
    · rw [plus_gt c1]
      rcases cmp_tri f g with c2 | c2 | c2
      · rw [plus_lt ha c2]; exact cmp_lt_head c2
      · subst c2; rw [plus_eq ha]; exact cmp_c.mpr (Or.inr ⟨rfl, Or.inl (by omega)⟩)
      · rw [plus_gt c2]; exact cmp_c.mpr (Or.inr ⟨rfl, Or.inr ⟨rfl, plus_mono r (.c e n s) (.c g k t) hr hb hd h⟩⟩)
theorem plus_weak : ∀ b d a : O, NF a → NF b → NF d → cmp b d = -1 → cmp (plusO b a) (plusO d a) = -1 ∨ cmp (plusO b a) (plusO d a) = 0
  | b, d, .z, _, _, _, h => Or.inl h
  | b, .z, .c f m r, _, _, _, h => by cases b <;> simp [cmp] at h
  | .z, .c g k t, .c f m r, ha, hb, hd, h => by
    have hk := (nf_tail hd).2.2.1
    rw [plus_z]
    rcases cmp_tri g f with c2 | c2 | c2
    · rw [plus_lt hd c2, cmp_self]; exact Or.inr rfl
    · subst c2; rw [plus_eq hd]; exact Or.inl (cmp_c.mpr (Or.inr ⟨rfl, Or.inl (by omega)⟩))
    · rw [plus_gt c2]; exact Or.inl (cmp_lt_head (cmp_gt.mp c2))
  | .c e n s, .c g k t, .c f m r, ha, hb, hd, h => by
    have hk := (nf_tail hd).2.2.1
    have h' := cmp_c.mp h
    rcases h' with q | ⟨q, q2⟩
    · rcases cmp_tri g f with c2 | c2 | c2
      · rw [plus_lt hd c2, plus_lt hb (lt_trans q c2), cmp_self]; exact Or.inr rfl
      · subst c2; rw [plus_eq hd, plus_lt hb q]; exact Or.inl (cmp_c.mpr (Or.inr ⟨rfl, Or.inl (by omega)⟩))
      · rw [plus_gt c2]
        rcases cmp_tri e f with c3 | c3 | c3
        · rw [plus_lt hb c3]; exact Or.inl (cmp_lt_head (cmp_gt.mp c2))
        · subst c3; rw [plus_eq hb]; exact Or.inl (cmp_lt_head q)
        · rw [plus_gt c3]; exact Or.inl (cmp_lt_head q)
    · subst q
      rcases cmp_tri e f with c3 | c3 | c3
      · rw [plus_lt hb c3, plus_lt hd c3, cmp_self]; exact Or.inr rfl
      · subst c3
        rw [plus_eq hb, plus_eq hd]
        rcases q2 with q2 | ⟨q2, q3⟩
        · exact Or.inl (cmp_c.mpr (Or.inr ⟨rfl, Or.inl (by omega)⟩))
        · subst q2; rw [cmp_self]; exact Or.inr rfl
      · rw [plus_gt c3, plus_gt c3]
        rcases q2 with q2 | ⟨q2, q3⟩
        · exact Or.inl (cmp_c.mpr (Or.inr ⟨rfl, Or.inl q2⟩))
        · subst q2
          have hs := (nf_tail hb).1
          have ht := (nf_tail hd).1
          rcases plus_weak s t (.c f m r) ha hs ht q3 with z | z
          · exact Or.inl (cmp_c.mpr (Or.inr ⟨rfl, Or.inr ⟨rfl, z⟩⟩))
          · rw [(cmp_eq _ _).mp z, cmp_self]; exact Or.inr rfl
theorem plus_cmp {a b d : O} (ha : NF a) (hb : NF b) (hd : NF d) : cmp (plusO a b) (plusO a d) = cmp b d := by
  rcases cmp_tri b d with c | c | c
  · rw [c, plus_mono a b d ha hb hd c]
  · subst c; rw [cmp_self, cmp_self]
  · rw [c]; exact cmp_gt.mpr (plus_mono a d b ha hd hb (cmp_gt.mp c))
theorem plus_inj {a b d : O} (ha : NF a) (hb : NF b) (hd : NF d) (h : plusO a b = plusO a d) : b = d := by
  have := plus_cmp ha hb hd
  rw [h, cmp_self] at this
  exact (cmp_eq b d).mp this.symm
theorem plus_turn {a b d : O} (ha : NF a) (hb : NF b) (hd : NF d) : cmp (plusO b a) (plusO d a) = cmp b d ∨ cmp (plusO b a) (plusO d a) = 0 := by
  rcases cmp_tri b d with c | c | c
  · rw [c]; exact plus_weak b d a ha hb hd c
  · subst c; rw [cmp_self]; exact Or.inr rfl
  · rw [c]
    have := plus_weak d b a ha hd hb (cmp_gt.mp c)
    rw [cmp_neg (plusO d a) (plusO b a)]
    rcases this with h | h <;> rw [h]
    · exact Or.inl rfl
    · exact Or.inr rfl
/-- sums the same either way round -/
theorem plus_comm_c {e r e' r' : O} {n n' : Int} (ha : NF (.c e n r)) (hb : NF (.c e' n' r')) : plusO (.c e n r) (.c e' n' r') = plusO (.c e' n' r') (.c e n r) ↔ e = e' ∧ r = r' := by
  have gt : ∀ {e r e' r' : O} {n n' : Int}, NF (.c e n r) → NF (.c e' n' r') → cmp e e' = 1 → plusO (.c e n r) (.c e' n' r') ≠ plusO (.c e' n' r') (.c e n r) := fun ha hb c h => by
    rw [plus_lt hb (cmp_gt.mp c)] at h
    have := plus_inj ha hb (d := .z) trivial h
    cases this
  rcases cmp_tri e e' with c | c | c
  · refine ⟨fun h => absurd h.symm (gt hb ha (cmp_gt.mpr c)), fun h => ?_⟩
    rw [h.1, cmp_self] at c; cases c
  · subst c
    rw [plus_eq ha, plus_eq hb, Int.add_comm n' n]
    refine ⟨fun h => ⟨rfl, ?_⟩, fun h => ?_⟩
    · injection h with _ _ h3; exact h3.symm
    · rw [h.2]
  · refine ⟨fun h => absurd h (gt ha hb c), fun h => ?_⟩
    rw [h.1, cmp_self] at c; cases c
end Nm
set_option Elab.async false
set_option linter.all false
set_option maxRecDepth 100000
set_option maxHeartbeats 4000000
namespace Nm
open PySem PySem.Spec PyProof.Rows L2 Pu O
theorem getD_set_ne {α : Type} {d : α} {ρ : List α} {i m : Nat} {x : α} (h : m ≠ i) : (ρ.set m x).getD i d = ρ.getD i d := by
  rw [List.getD_eq_getElem?_getD, List.getD_eq_getElem?_getD, List.getElem?_set_ne h]
/-- the first rows of a law's turn, wherever its names stand -/
theorem cell_headG (d : Int) (ns : List Int) (j : Nat) (W : Vars → Out) (ρ : Vars) (i m : Nat) (h0 : ρ.getD 0 none = some (.list (ns.map .int))) (hi : ρ.getD i none = some (.int (j : Nat))) (n0 : m ≠ 0) (ni : m ≠ i) :
    sSeq (sSet [] m (eC (.int d))) (sSeq (sIf (tOf (eOp gLt (eVar i) (eCall gLen (aCons (eVar 0) aNil)))) (sSet [] m (eOp gMod (eOp gIx (eVar 0) (eVar i)) (eOp gPow (eC (.int 10)) (eC (.int 60))))) sNil) W) ρ = W (ρ.set m (some (.int (cellD d ns j)))) := by
  have m5 : ∀ i : Int, cMod i E60 = true := fun i => cMod_of (by have e := E60_eq; omega)
  rw [u_sSeq]
  simp only [u_sSet0, u_eC, R.run_ok, Out.then_nx]
  rw [u_sSeq]
  by_cases q : j < ns.length
  · have hv : atI (ns.map PyData.int) (j : Int) = some (.int ns[j]) := L2.atI_nat (by rw [List.getElem?_map, List.getElem?_eq_getElem q]; rfl)
    have hc : cellD d ns j = ns[j] % E60 := by unfold cellD; rw [List.getElem?_eq_getElem q]
    have q' : (j : Int) < (ns.length : Int) := by omega
    simp only [u_sSet0, u_eC, R.run_ok, Out.then_nx, u_sIf, u_tOf, u_eOp, u_eVar, u_eCall, u_aCons, u_aNil, getD_set_ne n0, getD_set_ne ni, h0, hi, R.of_some, R.bind_ok, u_gLen_l, List.length_map, u_gCmp, q', decide_true, if_true, hv, u_gIx_l, p60]
    simp only [u_gInt, m5, if_true, R.of_some, R.run_ok, Out.then_nx, List.set_set, hc]
  · have hc : cellD d ns j = d := by unfold cellD; rw [List.getElem?_eq_none (by omega)]
    have q' : ¬ (j : Int) < (ns.length : Int) := by omega
    simp only [u_sSet0, u_eC, R.run_ok, Out.then_nx, u_sIf, u_tOf, u_eOp, u_eVar, u_eCall, u_aCons, u_aNil, getD_set_ne n0, getD_set_ne ni, h0, hi, R.of_some, R.bind_ok, u_gLen_l, List.length_map, u_gCmp, q', decide_false, Bool.false_eq_true, if_false, u_sNil, hc]
/-- numbers of a bounded size -/
structure G (m : Nat) (a : O) : Prop where
  nf : NF a
  h : a.h ≤ 25
  l : a.len ≤ m
theorem G.of_po {B : Int} {a : O} {m : Nat} (hm : 24 ≤ m) (p : PO B a) : G m a := ⟨p.nf, by have := p.hh; omega, by have := p.ll; omega⟩
theorem G.plus {m n : Nat} {a b : O} (ha : G m a) (hb : G n b) : G (m + n) (plusO a b) := ⟨plusO_nf ha.nf hb.nf, plusO_h ha.h hb.h, by have := plusO_len (a := a) (b := b); have := ha.l; have := hb.l; omega⟩
theorem plusG {F : Fn} {k m n : Nat} (h : PlusOk k F) (hk : 26 ≤ k) {a b : O} (ha : G m a) (hb : G n b) (hm : m ≤ 1000) (hn : n ≤ 1000) : F [enc a, enc b] = .ok (enc (plusO a b)) :=
  h a b ha.nf (by have := ha.h; omega) (by have := ha.h; omega) (by have := hb.h; omega) (by have := ha.l; omega) (by have := hb.l; omega)
def sumO (x : O) (ps : List O) : O := ps.foldl plusO x
theorem sumO_G {m : Nat} : ∀ {ps : List O} {x : O} {n : Nat}, G n x → (∀ a ∈ ps, G m a) → G (n + ps.length * m) (sumO x ps)
  | [], x, n, h, _ => by show G (n + 0 * m) x; rw [Nat.zero_mul]; exact h
  | p :: ps, x, n, h, hp => by
    have := sumO_G (ps := ps) (h.plus (hp p (by simp))) fun a ha => hp a (List.mem_cons_of_mem _ ha)
    rw [List.length_cons, Nat.succ_mul]
    rw [show n + (ps.length * m + m) = n + m + ps.length * m by omega]
    exact this
theorem sumO_from : ∀ (ps : List O) (x : O), NF x → (∀ a ∈ ps, NF a) → sumO x ps = plusO x (sumO .z ps)
  | [], x, _, _ => rfl
  | p :: ps, x, hx, hp => by
    have h1 := hp p (by simp)
    have h2 : ∀ a ∈ ps, NF a := fun a ha => hp a (List.mem_cons_of_mem _ ha)
    have nfs : ∀ (ps : List O) (x : O), NF x → (∀ a ∈ ps, NF a) → NF (sumO x ps) := by
      intro ps
      induction ps with
      | nil => intro x hx _; exact hx
      | cons q qs ih => intro x hx hq; exact ih _ (plusO_nf hx (hq q (by simp))) fun a ha => hq a (List.mem_cons_of_mem _ ha)
    show sumO (plusO x p) ps = plusO x (sumO (plusO .z p) ps)
    rw [sumO_from ps (plusO x p) (plusO_nf hx h1) h2, plus_z, sumO_from ps p h1 h2, plus_assoc x p _ hx h1 (nfs ps .z trivial h2)]
theorem total_loop {F : Fn} {k m : Nat} (h : PlusOk k F) (hk : 26 ≤ k) {some0 : Option PyData} : ∀ (ps : List O) (x : O) (n : Nat) (t : Option PyData), G n x → (∀ a ∈ ps, G m a) → n + ps.length * m ≤ 1000 →
    ∃ t', forL (gtName 2) (sSet [] 1 (eFn F (aCons (eVar 1) (aCons (eVar 2) aNil)))) (ps.map enc) [some0, some (enc x), t] = .nx [some0, some (enc (sumO x ps)), t']
  | [], x, n, t, _, _, _ => ⟨t, rfl⟩
  | p :: ps, x, n, t, hx, hp, hb => by
    rw [List.length_cons, Nat.succ_mul] at hb
    have h1 := hp p (by simp)
    have e1 := plusG h hk hx h1 (by omega) (by omega)
    obtain ⟨t', e2⟩ := total_loop h hk ps (plusO x p) (n + m) (some (enc p)) (hx.plus h1) (fun a ha => hp a (List.mem_cons_of_mem _ ha)) (by omega)
    refine ⟨t', ?_⟩
    rw [List.map_cons, u_forL_c]
    simp only [u_gtName, List.set_cons_succ, List.set_cons_zero, u_sSet0, u_eFn, u_aCons, u_aNil, u_eVar, List.getD_cons_succ, List.getD_cons_zero, R.of_some, R.bind_ok, e1, R.run_ok]
    exact e2
def TotalOk (F : Fn) : Prop := ∀ ps : List O, (∀ a ∈ ps, G 24 a) → ps.length ≤ 27 → F [.list (ps.map enc)] = .ok (enc (sumO .z ps))
theorem total_step {S : Nat → Fn} {c0 k : Nat} (h : PlusOk k (S c0)) (hk : 26 ≤ k) : TotalOk (fun ds => fnD 3 (G_total c0 S) ds) := by
  intro ps hp hl
  refine fnD_of ?_
  obtain ⟨t', e⟩ := total_loop h hk (some0 := some (.list (ps.map enc))) ps .z 0 none ⟨trivial, by decide, by decide⟩ hp (by omega)
  unfold G_total
  have e' : forL (gtName 2) (sSet [] 1 (eFn (S c0) (aCons (eVar 1) (aCons (eVar 2) aNil)))) (ps.map enc) [some (.list (ps.map enc)), some (.tuple []), none] = _ := e
  simp [e']
theorem cut_back {α : Type} (xs : List α) (k : Nat) : Pu.cutD xs (some (k : Int)) none = xs.drop (min k xs.length) := by
  unfold Pu.cutD
  rw [HT.sIx_nat]
  show (xs.drop (min k xs.length)).take (xs.length - min k xs.length) = _
  apply List.take_of_length_le
  simp
/-- lists of numbers, compared -/
theorem depthAll_le {n : Nat} : ∀ {ds : List PyData}, (∀ d ∈ ds, d.depth ≤ n) → PyData.depthAll ds ≤ n
  | [], _ => by simp [PyData.depthAll]
  | d :: ds, h => by
    have h1 := h d (by simp)
    have h2 := depthAll_le (ds := ds) fun x hx => h x (List.mem_cons_of_mem _ hx)
    simp only [PyData.depthAll]
    omega
theorem layAll_of : ∀ {ds : List PyData}, (∀ d ∈ ds, d.canLay0 = true) → PyData.canLayAll0 ds = true
  | [], _ => by simp [PyData.canLayAll0]
  | d :: ds, h => by
    have h1 := h d (by simp)
    have h2 := layAll_of (ds := ds) fun x hx => h x (List.mem_cons_of_mem _ hx)
    simp only [PyData.canLayAll0, h1, h2, Bool.and_self]
theorem eqvAll_self : ∀ {ps : List O}, PyData.eqvAll (ps.map enc) (ps.map enc) = true
  | [] => by simp [PyData.eqvAll]
  | p :: ps => by
    have h1 := enc_eqv p p
    have h2 := eqvAll_self (ps := ps)
    simp only [List.map_cons, PyData.eqvAll, h2, h1, decide_true, Bool.and_self]
theorem gNe_list {ps : List O} (h : ∀ a ∈ ps, a.h ≤ 30) : gNe (.list (ps.map enc)) (.list (ps.map enc)) = some (.bool false) := by
  have h1 : PyData.depthAll (ps.map enc) ≤ 61 := depthAll_le fun d hd => by
    obtain ⟨a, ha, rfl⟩ := List.mem_map.mp hd
    rw [enc_depth]; have := h a ha; omega
  have h2 : PyData.canLayAll0 (ps.map enc) = true := layAll_of fun d hd => by
    obtain ⟨a, ha, rfl⟩ := List.mem_map.mp hd
    exact enc_lay a
  unfold gNe SeqAt.shaped
  have h3 : PyData.depth (.list (ps.map enc)) ≤ 64 := by simp only [PyData.depth]; omega
  have h4 : PyData.canLay0 (.list (ps.map enc)) = true := by simp only [PyData.canLay0, h2]
  have h5 : PyData.eqv (.list (ps.map enc)) (.list (ps.map enc)) = true := by simp only [PyData.eqv, eqvAll_self]
  simp [h3, h4, h5]
end Nm
set_option Elab.async false
set_option linter.all false
set_option maxRecDepth 100000
set_option maxHeartbeats 4000000
namespace Nm
open PySem Pu O L2
/-! ### times of an exponent -/
theorem co_z {x : O} : sameN .z x = 0 := rfl
theorem co_c {e r x : O} {n : Int} : sameN (.c e n r) x = (if e = x then n else 0) + sameN r x := by
  unfold sameN
  show ((((e, n) :: r.parts).filter fun p => decide (p.1 = x)).map fun p => p.2).sum = _
  by_cases c : e = x
  · rw [List.filter_cons_of_pos (by simp [c]), if_pos c, List.map_cons, List.sum_cons]
  · rw [List.filter_cons_of_neg (by simp [c]), if_neg c, Int.zero_add]
theorem nf_mk {e r : O} {n : Int} (he : NF e) (hn : 1 ≤ n) (hr : NF r) (hp : ∀ q ∈ r.parts, cmp e q.1 = 1) : NF (.c e n r) := by
  refine (nf_parts _).mpr ⟨?_, fun p hp => ?_⟩
  · show ((e, n) :: r.parts).Pairwise _
    exact List.pairwise_cons.mpr ⟨hp, ((nf_parts r).mp hr).1⟩
  · rcases List.mem_cons.mp (show p ∈ (e, n) :: r.parts from hp) with h | h
    · subst h; exact ⟨he, hn⟩
    · exact ((nf_parts r).mp hr).2 p h
theorem co_tail {e r x : O} {n : Int} (h : NF (.c e n r)) (c : cmp x e = 1 ∨ x = e) : sameN r x = 0 := by
  refine (lows (fun q hq => ?_)).2
  have h1 := cmp_gt.mp ((nf_tail h).2.2.2 q hq)
  rcases c with c | c
  · exact lt_trans h1 (cmp_gt.mp c)
  · rw [c]; exact h1
theorem ne_of_gt {x e : O} (c : cmp x e = 1) : ¬ e = x := fun z => by rw [z, cmp_self] at c; cases c
theorem co_high {e r x : O} {n : Int} (h : NF (.c e n r)) (c : cmp x e = 1) : sameN (.c e n r) x = 0 := by
  rw [co_c, if_neg (ne_of_gt c), co_tail h (Or.inl c)]; rfl
theorem co_head {e r : O} {n : Int} (h : NF (.c e n r)) : sameN (.c e n r) e = n := by
  rw [co_c, if_pos rfl, co_tail h (Or.inr rfl)]; omega
theorem co_nonneg {a x : O} (h : NF a) : 0 ≤ sameN a x := (sameN_bound h (mx_nonneg a) (Int.le_refl _)).1
theorem lt_co : ∀ a b : O, NF a → NF b → cmp a b = -1 → ∃ x, sameN a x < sameN b x ∧ ∀ y, cmp y x = 1 → sameN a y = sameN b y
  | a, .z, _, _, h => by cases a <;> simp [cmp] at h
  | .z, .c e n r, _, hb, h => ⟨e, by rw [co_z, co_head hb]; have := (nf_tail hb).2.2.1; omega, fun y hy => by rw [co_z, co_high hb hy]⟩
  | .c e n r, .c e' n' r', ha, hb, h => by
    rcases cmp_c.mp h with q | ⟨q, q2⟩
    · have g := cmp_gt.mpr q
      refine ⟨e', ?_, fun y hy => ?_⟩
      · rw [co_high ha g, co_head hb]; have := (nf_tail hb).2.2.1; omega
      · rw [co_high ha (gt_trans hy g), co_high hb hy]
    · subst q
      rcases q2 with q2 | ⟨q2, q3⟩
      · exact ⟨e, by rw [co_head ha, co_head hb]; exact q2, fun y hy => by rw [co_high ha hy, co_high hb hy]⟩
      · subst q2
        obtain ⟨x, h1, h2⟩ := lt_co r r' (nf_tail ha).1 (nf_tail hb).1 q3
        exact ⟨x, by rw [co_c, co_c]; omega, fun y hy => by rw [co_c, co_c, h2 y hy]⟩
theorem co_lt {a b : O} (ha : NF a) (hb : NF b) (h : ∃ x, sameN a x < sameN b x ∧ ∀ y, cmp y x = 1 → sameN a y = sameN b y) : cmp a b = -1 := by
  obtain ⟨x, h1, h2⟩ := h
  rcases cmp_tri a b with c | c | c
  · exact c
  · subst c; omega
  · obtain ⟨x', h3, h4⟩ := lt_co b a hb ha (cmp_gt.mp c)
    rcases cmp_tri x x' with d | d | d
    · have := h2 x' (cmp_gt.mpr d); omega
    · subst d; omega
    · have := h4 x d; omega
theorem co_ext {a b : O} (ha : NF a) (hb : NF b) (h : ∀ x, sameN a x = sameN b x) : a = b := by
  rcases cmp_tri a b with c | c | c
  · obtain ⟨x, h1, _⟩ := lt_co a b ha hb c
    have := h x; omega
  · exact c
  · obtain ⟨x, h1, _⟩ := lt_co b a hb ha (cmp_gt.mp c)
    have := h x; omega
theorem co_le {a b : O} (ha : NF a) (hb : NF b) (h : ∀ x, sameN a x ≤ sameN b x) : ¬ cmp b a < 0 := fun c => by
  have c' : cmp b a = -1 := by rcases cmp_range b a with z | z | z <;> omega
  obtain ⟨x, h1, _⟩ := lt_co b a hb ha c'
  have := h x; omega
/-! ### merged -/
def mrgO : O → O → O
  | .z, b => b
  | .c e n r, .z => .c e n r
  | .c e n r, .c e' n' r' => if cmp e e' = 1 then .c e n (mrgO r (.c e' n' r')) else if cmp e e' = -1 then .c e' n' (mrgO (.c e n r) r') else .c e (n + n') (mrgO r r')
termination_by a b => a.len + b.len
decreasing_by all_goals (simp only [O.len]; omega)
theorem mrg_z {a : O} : mrgO a .z = a := by cases a <;> simp [mrgO]
theorem mrg_gt {e r e' r' : O} {n n' : Int} (c : cmp e e' = 1) : mrgO (.c e n r) (.c e' n' r') = .c e n (mrgO r (.c e' n' r')) := by rw [mrgO, if_pos c]
theorem mrg_lt {e r e' r' : O} {n n' : Int} (c : cmp e e' = -1) : mrgO (.c e n r) (.c e' n' r') = .c e' n' (mrgO (.c e n r) r') := by rw [mrgO, if_neg (by omega), if_pos c]
theorem mrg_eq {e r r' : O} {n n' : Int} : mrgO (.c e n r) (.c e n' r') = .c e (n + n') (mrgO r r') := by rw [mrgO, if_neg (by rw [cmp_self]; decide), if_neg (by rw [cmp_self]; decide)]
theorem mrg_co (x : O) : ∀ a b : O, sameN (mrgO a b) x = sameN a x + sameN b x
  | .z, b => by rw [mrgO, co_z, Int.zero_add]
  | .c e n r, .z => by rw [mrgO, co_z, Int.add_zero]
  | .c e n r, .c e' n' r' => by
    rcases cmp_tri e e' with c | c | c
    · rw [mrg_lt c, co_c, mrg_co x (.c e n r) r', co_c (e := e')]; omega
    · subst c; rw [mrg_eq, co_c, mrg_co x r r', co_c, co_c]; split <;> omega
    · rw [mrg_gt c, co_c, mrg_co x r (.c e' n' r'), co_c (e := e)]; omega
termination_by a b => a.len + b.len
decreasing_by all_goals (simp only [O.len]; omega)
theorem mrg_exp : ∀ (a b : O) (p : O × Int), p ∈ (mrgO a b).parts → ∃ q, (q ∈ a.parts ∨ q ∈ b.parts) ∧ q.1 = p.1
  | .z, b, p, h => by rw [mrgO] at h; exact ⟨p, Or.inr h, rfl⟩
  | .c e n r, .z, p, h => by rw [mrgO] at h; exact ⟨p, Or.inl h, rfl⟩
  | .c e n r, .c e' n' r', p, h => by
    have inA : ∀ q ∈ r.parts, q ∈ (O.c e n r).parts := fun q hq => by show q ∈ (e, n) :: r.parts; simp [hq]
    have inB : ∀ q ∈ r'.parts, q ∈ (O.c e' n' r').parts := fun q hq => by show q ∈ (e', n') :: r'.parts; simp [hq]
    have hA : (e, n) ∈ (O.c e n r).parts := by show _ ∈ (e, n) :: r.parts; simp
    have hB : (e', n') ∈ (O.c e' n' r').parts := by show _ ∈ (e', n') :: r'.parts; simp
    rcases cmp_tri e e' with c | c | c
    · rw [mrg_lt c] at h
      rcases List.mem_cons.mp (show p ∈ (e', n') :: (mrgO (.c e n r) r').parts from h) with h | h
      · exact ⟨_, Or.inr hB, by rw [h]⟩
      · obtain ⟨q, q1, q2⟩ := mrg_exp (.c e n r) r' p h
        exact ⟨q, q1.imp id (inB q), q2⟩
    · subst c
      rw [mrg_eq] at h
      rcases List.mem_cons.mp (show p ∈ (e, n + n') :: (mrgO r r').parts from h) with h | h
      · exact ⟨_, Or.inl hA, by rw [h]⟩
      · obtain ⟨q, q1, q2⟩ := mrg_exp r r' p h
        exact ⟨q, q1.imp (inA q) (inB q), q2⟩
    · rw [mrg_gt c] at h
      rcases List.mem_cons.mp (show p ∈ (e, n) :: (mrgO r (.c e' n' r')).parts from h) with h | h
      · exact ⟨_, Or.inl hA, by rw [h]⟩
      · obtain ⟨q, q1, q2⟩ := mrg_exp r (.c e' n' r') p h
        exact ⟨q, q1.imp (inA q) id, q2⟩
termination_by a b => a.len + b.len
decreasing_by all_goals (simp only [O.len]; omega)
theorem mrg_nf : ∀ a b : O, NF a → NF b → NF (mrgO a b)
  | .z, b, _, hb => by rw [mrgO]; exact hb
  | .c e n r, .z, ha, _ => by rw [mrgO]; exact ha
  | .c e n r, .c e' n' r', ha, hb => by
    have ta := nf_tail ha
    have tb := nf_tail hb
    rcases cmp_tri e e' with c | c | c
    · rw [mrg_lt c]
      refine nf_mk tb.2.1 tb.2.2.1 (mrg_nf _ _ ha tb.1) fun p hp => ?_
      obtain ⟨q, q1, q2⟩ := mrg_exp _ _ p hp
      rw [← q2]
      rcases q1 with q1 | q1
      · rcases List.mem_cons.mp (show q ∈ (e, n) :: r.parts from q1) with h | h
        · rw [h]; exact cmp_gt.mpr c
        · exact gt_trans (cmp_gt.mpr c) (ta.2.2.2 q h)
      · exact tb.2.2.2 q q1
    · subst c
      rw [mrg_eq]
      refine nf_mk ta.2.1 (by have := ta.2.2.1; have := tb.2.2.1; omega) (mrg_nf _ _ ta.1 tb.1) fun p hp => ?_
      obtain ⟨q, q1, q2⟩ := mrg_exp _ _ p hp
      rw [← q2]
      rcases q1 with q1 | q1
      · exact ta.2.2.2 q q1
      · exact tb.2.2.2 q q1
    · rw [mrg_gt c]
      refine nf_mk ta.2.1 ta.2.2.1 (mrg_nf _ _ ta.1 hb) fun p hp => ?_
      obtain ⟨q, q1, q2⟩ := mrg_exp _ _ p hp
      rw [← q2]
      rcases q1 with q1 | q1
      · exact ta.2.2.2 q q1
      · rcases List.mem_cons.mp (show q ∈ (e', n') :: r'.parts from q1) with h | h
        · rw [h]; exact c
        · exact gt_trans c (tb.2.2.2 q h)
termination_by a b => a.len + b.len
decreasing_by all_goals (simp only [O.len]; omega)
theorem mrg_len : ∀ a b : O, (mrgO a b).len ≤ a.len + b.len
  | .z, b => by rw [mrgO]; simp only [O.len]; omega
  | .c e n r, .z => by rw [mrgO]; exact Nat.le_add_right _ _
  | .c e n r, .c e' n' r' => by
    rcases cmp_tri e e' with c | c | c
    · rw [mrg_lt c]; have := mrg_len (.c e n r) r'; simp only [O.len] at this ⊢; omega
    · subst c; rw [mrg_eq]; have := mrg_len r r'; simp only [O.len] at this ⊢; omega
    · rw [mrg_gt c]; have := mrg_len r (.c e' n' r'); simp only [O.len] at this ⊢; omega
termination_by a b => a.len + b.len
decreasing_by all_goals (simp only [O.len]; omega)
theorem mrg_h {a b : O} {k : Nat} (ha : a.h ≤ k) (hb : b.h ≤ k) : (mrgO a b).h ≤ k := by
  rw [h_parts]
  intro p hp
  obtain ⟨q, q1, q2⟩ := mrg_exp a b p hp
  rw [← q2]
  rcases q1 with q1 | q1
  · exact (h_parts a).mp ha q q1
  · exact (h_parts b).mp hb q q1
theorem G.mrg {m n : Nat} {a b : O} (ha : G m a) (hb : G n b) : G (m + n) (mrgO a b) := ⟨mrg_nf _ _ ha.nf hb.nf, mrg_h ha.h hb.h, by have := mrg_len a b; have := ha.l; have := hb.l; omega⟩
theorem mrg_comm {a b : O} (ha : NF a) (hb : NF b) : mrgO a b = mrgO b a := co_ext (mrg_nf _ _ ha hb) (mrg_nf _ _ hb ha) fun x => by rw [mrg_co, mrg_co]; omega
theorem mrg_assoc {a b d : O} (ha : NF a) (hb : NF b) (hd : NF d) : mrgO (mrgO a b) d = mrgO a (mrgO b d) := co_ext (mrg_nf _ _ (mrg_nf _ _ ha hb) hd) (mrg_nf _ _ ha (mrg_nf _ _ hb hd)) fun x => by rw [mrg_co, mrg_co, mrg_co, mrg_co]; omega
theorem mrg_mono {a b d : O} (ha : NF a) (hb : NF b) (hd : NF d) (h : cmp b d = -1) : cmp (mrgO a b) (mrgO a d) = -1 := by
  obtain ⟨x, h1, h2⟩ := lt_co b d hb hd h
  exact co_lt (mrg_nf _ _ ha hb) (mrg_nf _ _ ha hd) ⟨x, by rw [mrg_co, mrg_co]; omega, fun y hy => by rw [mrg_co, mrg_co, h2 y hy]⟩
theorem mrg_cmp {a b d : O} (ha : NF a) (hb : NF b) (hd : NF d) : cmp (mrgO a b) (mrgO a d) = cmp b d := by
  rcases cmp_tri b d with c | c | c
  · rw [c, mrg_mono ha hb hd c]
  · subst c; rw [cmp_self, cmp_self]
  · rw [c]; exact cmp_gt.mpr (mrg_mono ha hd hb (cmp_gt.mp c))
theorem plus_co_le : ∀ a b x : O, NF a → NF b → sameN (plusO a b) x ≤ sameN a x + sameN b x
  | a, .z, x, ha, _ => by show sameN a x ≤ _; rw [co_z]; omega
  | .z, b, x, _, hb => by rw [plus_z, co_z]; omega
  | .c e n r, .c e' n' r', x, ha, hb => by
    have h1 := co_nonneg (x := x) ha
    have h2 := co_nonneg (x := x) (nf_tail ha).1
    rcases cmp_tri e e' with c | c | c
    · rw [plus_lt ha c]; omega
    · subst c; rw [plus_eq ha, co_c, co_c, co_c]; split <;> omega
    · rw [plus_gt c, co_c, co_c (e := e)]
      have := plus_co_le r (.c e' n' r') x (nf_tail ha).1 hb
      omega
theorem mrg_ge {a b : O} (ha : NF a) (hb : NF b) : ¬ cmp (mrgO a b) (plusO a b) < 0 :=
  co_le (plusO_nf ha hb) (mrg_nf _ _ ha hb) fun x => by rw [mrg_co]; exact plus_co_le a b x ha hb
theorem putP_co {a e x : O} {m : Int} (ha : NF a) : sameN (putP a e m) x = sameN a x + (if e = x then m else 0) := by
  have key : ∀ ps qs : List (O × Int), sameN (of (ps ++ qs)) x = sameN (of ps) x + sameN (of qs) x := fun ps qs => by
    unfold sameN
    rw [parts_of, parts_of, parts_of, List.filter_append, List.map_append, List.sum_append]
  obtain ⟨s1, s2⟩ := split_aux e a.parts ((nf_parts a).mp ha).1
  have e1 : sameN a x = sameN (of (above a e)) x + sameN (of (a.parts.filter fun p => decide (p.1 = e))) x + sameN (of (under a e)) x := by
    rw [← key, ← key]
    exact congrArg (fun z => sameN z x) ((of_parts a).symm.trans (congrArg of s1))
  have e2 : sameN (of (a.parts.filter fun p => decide (p.1 = e))) x = if e = x then sameN a e else 0 := by
    rcases s2 with s2 | ⟨k, s2⟩
    · have : sameN a e = 0 := by unfold sameN; rw [s2]; rfl
      rw [s2, this]; simp [sameN, of, O.parts]
    · have : sameN a e = k := by unfold sameN; rw [s2]; simp
      rw [s2, this]
      show sameN (.c e k .z) x = _
      rw [co_c, co_z]; omega
  unfold putP
  rw [key, key, e1, e2]
  show _ + sameN (.c e (sameN a e + m) .z) x + _ = _
  rw [co_c, co_z]
  split <;> omega
theorem fold_put : ∀ (b a : O), NF a → NF b → (b.parts.foldl (fun x p => putP x p.1 p.2) a) = mrgO a b
  | .z, a, _, _ => mrg_z.symm
  | .c e n s, a, ha, hb => by
    have tb := nf_tail hb
    show (s.parts.foldl (fun x p => putP x p.1 p.2) (putP a e n)) = _
    have hp := putP_nf (m := n) ha tb.2.1 tb.2.2.1
    rw [fold_put s (putP a e n) hp tb.1]
    refine co_ext (mrg_nf _ _ hp tb.1) (mrg_nf _ _ ha hb) fun x => ?_
    rw [mrg_co, mrg_co, putP_co ha, co_c]
    omega
end Nm
set_option Elab.async false
set_option linter.all false
set_option maxRecDepth 100000
set_option maxHeartbeats 4000000
namespace Pu
open PySem
theorem whileL_t {T : Vars → R Bool} {B : Vars → Out} {f : Nat} {ρ ρ2 : Vars} (h1 : T ρ = .ok true) (h2 : B ρ = .nx ρ2) : whileL T B (f + 1) ρ = whileL T B f ρ2 := by
  show (T ρ).run ρ _ = _
  rw [h1, R.run_ok, if_pos rfl, h2]
theorem whileL_f {T : Vars → R Bool} {B : Vars → Out} {f : Nat} {ρ : Vars} (h1 : T ρ = .ok false) : whileL T B (f + 1) ρ = .nx ρ := by
  show (T ρ).run ρ _ = _
  rw [h1, R.run_ok, if_neg Bool.false_ne_true]
end Pu
namespace Nm
open PySem Pu O L2
abbrev mT : Vars → R Bool := tAndR (tOf (eOp gLt (eVar 3) (eCall gLen (aCons (eVar 0) aNil)))) (tOf (eOp gLt (eVar 4) (eCall gLen (aCons (eVar 1) aNil))))
abbrev mB (F : Fn) : Vars → Out := sSeq (sSetM [2] 5 (eFn F (aCons (eOp gIx (eOp gIx (eVar 0) (eVar 3)) (eC (.int 0))) (aCons (eOp gIx (eOp gIx (eVar 1) (eVar 4)) (eC (.int 0))) aNil)))) (sIf (tOf (eOp gEq (eVar 5) (eC (.int 1)))) (sSeq (sAppM [2] 2 (eOp gIx (eVar 0) (eVar 3))) (sAug [2] 3 gAddI (eC (.int 1)))) (sIf (tOf (eOp gEq (eVar 5) (eNeg (eC (.int 1))))) (sSeq (sAppM [2] 2 (eOp gIx (eVar 1) (eVar 4))) (sAug [2] 4 gAddI (eC (.int 1)))) (sSeq (sAppM [2] 2 (eTup (aCons (eOp gIx (eOp gIx (eVar 0) (eVar 3)) (eC (.int 0))) (aCons (eOp gAdd (eOp gIx (eOp gIx (eVar 0) (eVar 3)) (eC (.int 1))) (eOp gIx (eOp gIx (eVar 1) (eVar 4)) (eC (.int 1)))) aNil)))) (sSeq (sAug [2] 3 gAddI (eC (.int 1))) (sAug [2] 4 gAddI (eC (.int 1)))))))
theorem drop_at {ps : List (O × Int)} {i : Nat} {p : O × Int} {r : List (O × Int)} (h : ps.drop i = p :: r) : ps[i]? = some p ∧ ps.drop (i + 1) = r ∧ i < ps.length := by
  have h1 : i < ps.length := by
    rcases Nat.lt_or_ge i ps.length with c | c
    · exact c
    · rw [List.drop_eq_nil_of_le c] at h; cases h
  have h2 := List.drop_eq_getElem_cons h1
  rw [h2] at h
  injection h with h3 h4
  exact ⟨by rw [List.getElem?_eq_getElem h1, h3], h4, h1⟩
theorem atI_at {a : O} {i : Nat} {p : O × Int} (h : a.parts[i]? = some p) : atI (encL a) (i : Int) = some (encP p) := by
  rw [encL_parts]
  exact L2.atI_nat (by rw [List.getElem?_map, h]; rfl)
theorem mrg_loop {k : Nat} {F : Fn} (hF : CmpOk k F) {a b : O} (ha : a.h ≤ k) : ∀ (f : Nat) (x y : O) (i j : Nat) (Fd : List (O × Int)) (s : Option PyData), a.parts.drop i = x.parts → b.parts.drop j = y.parts → i ≤ a.len → j ≤ b.len → x.len + y.len + 1 ≤ f → Fd.length + x.len + y.len ≤ 2000 →
    ∃ (i' j' : Nat) (F' : List (O × Int)) (s' : Option PyData), whileL mT (mB F) f [some (enc a), some (enc b), some (.list (Fd.map encP)), some (.int (i : Nat)), some (.int (j : Nat)), s] = .nx [some (enc a), some (enc b), some (.list (F'.map encP)), some (.int (i' : Nat)), some (.int (j' : Nat)), s'] ∧
      F' ++ a.parts.drop i' ++ b.parts.drop j' = Fd ++ (mrgO x y).parts ∧ i' ≤ a.len ∧ j' ≤ b.len ∧ F'.length ≤ 2000
  | 0, x, y, i, j, Fd, s, _, _, _, _, hf, _ => by omega
  | f + 1, .z, y, i, j, Fd, s, hx, hy, hi, hj, hf, hl => by
    have hi2 : a.parts.length ≤ i := by
      rcases Nat.lt_or_ge i a.parts.length with c | c
      · rw [List.drop_eq_getElem_cons c] at hx; cases hx
      · exact c
    rw [len_parts] at hi2
    have t : mT [some (enc a), some (enc b), some (.list (Fd.map encP)), some (.int (i : Nat)), some (.int (j : Nat)), s] = .ok false := by
      have : ¬ (i : Int) < (a.len : Int) := by omega
      simp [this]
    refine ⟨i, j, Fd, s, whileL_f t, ?_, hi, hj, by omega⟩
    rw [hx, hy, mrgO]
    show Fd ++ [] ++ y.parts = _
    rw [List.append_nil]
  | f + 1, .c e n r, .z, i, j, Fd, s, hx, hy, hi, hj, hf, hl => by
    have hj2 : b.parts.length ≤ j := by
      rcases Nat.lt_or_ge j b.parts.length with c | c
      · rw [List.drop_eq_getElem_cons c] at hy; cases hy
      · exact c
    rw [len_parts] at hj2
    have t : mT [some (enc a), some (enc b), some (.list (Fd.map encP)), some (.int (i : Nat)), some (.int (j : Nat)), s] = .ok false := by
      have : ¬ (j : Int) < (b.len : Int) := by omega
      by_cases c : (i : Int) < (a.len : Int) <;> simp [this, c] <;> omega
    refine ⟨i, j, Fd, s, whileL_f t, ?_, hi, hj, by omega⟩
    rw [hx, hy, mrgO]
    show Fd ++ _ ++ [] = _
    rw [List.append_nil]
  | f + 1, .c e n r, .c e' n' r', i, j, Fd, s, hx, hy, hi, hj, hf, hl => by
    obtain ⟨x1, x2, x3⟩ := drop_at (show a.parts.drop i = (e, n) :: r.parts from hx)
    obtain ⟨y1, y2, y3⟩ := drop_at (show b.parts.drop j = (e', n') :: r'.parts from hy)
    rw [len_parts] at x3 y3
    simp only [O.len] at hf hl
    have pe : e.h + 1 ≤ a.h := part_mem_h (List.mem_of_getElem? x1)
    have ax := atI_at x1
    have ay := atI_at y1
    have cc := hF e e' (by omega)
    have t : mT [some (enc a), some (enc b), some (.list (Fd.map encP)), some (.int (i : Nat)), some (.int (j : Nat)), s] = .ok true := by
      have h1 : (i : Int) < (a.len : Int) := by omega
      have h2 : (j : Int) < (b.len : Int) := by omega
      simp [h1, h2]
    have s1 : Fd.length < sizeLine := sz1000' (by omega)
    rcases cmp_tri e e' with c | c | c
    · rw [c] at cc
      have bd : mB F [some (enc a), some (enc b), some (.list (Fd.map encP)), some (.int (i : Nat)), some (.int (j : Nat)), s] = .nx [some (enc a), some (enc b), some (.list ((Fd ++ [(e', n')]).map encP)), some (.int (i : Nat)), some (.int ((j + 1 : Nat) : Nat)), some (.int (-1))] := by
        simp [mask, ax, ay, cc, s1, gAddI]
      obtain ⟨i', j', F', s', g1, g2, g3, g4, g5⟩ := mrg_loop hF ha f (.c e n r) r' i (j + 1) (Fd ++ [(e', n')]) (some (.int (-1))) hx y2 hi (by omega) (by simp only [O.len]; omega) (by rw [List.length_append, List.length_singleton]; simp only [O.len]; omega)
      refine ⟨i', j', F', s', by rw [whileL_t t bd]; exact g1, ?_, g3, g4, g5⟩
      rw [g2, mrg_lt c]
      show Fd ++ [(e', n')] ++ _ = Fd ++ (e', n') :: _
      simp
    · subst c
      rw [cmp_self] at cc
      have bd : mB F [some (enc a), some (enc b), some (.list (Fd.map encP)), some (.int (i : Nat)), some (.int (j : Nat)), s] = .nx [some (enc a), some (enc b), some (.list ((Fd ++ [(e, n + n')]).map encP)), some (.int ((i + 1 : Nat) : Nat)), some (.int ((j + 1 : Nat) : Nat)), some (.int 0)] := by
        simp [mask, ax, ay, cc, s1, gAddI]
      obtain ⟨i', j', F', s', g1, g2, g3, g4, g5⟩ := mrg_loop hF ha f r r' (i + 1) (j + 1) (Fd ++ [(e, n + n')]) (some (.int 0)) x2 y2 (by omega) (by omega) (by omega) (by rw [List.length_append, List.length_singleton]; omega)
      refine ⟨i', j', F', s', by rw [whileL_t t bd]; exact g1, ?_, g3, g4, g5⟩
      rw [g2, mrg_eq]
      show Fd ++ [(e, n + n')] ++ _ = Fd ++ (e, n + n') :: _
      simp
    · rw [c] at cc
      have bd : mB F [some (enc a), some (enc b), some (.list (Fd.map encP)), some (.int (i : Nat)), some (.int (j : Nat)), s] = .nx [some (enc a), some (enc b), some (.list ((Fd ++ [(e, n)]).map encP)), some (.int ((i + 1 : Nat) : Nat)), some (.int (j : Nat)), some (.int 1)] := by
        simp [mask, ax, ay, cc, s1, gAddI]
      obtain ⟨i', j', F', s', g1, g2, g3, g4, g5⟩ := mrg_loop hF ha f r (.c e' n' r') (i + 1) j (Fd ++ [(e, n)]) (some (.int 1)) x2 hy (by omega) hj (by simp only [O.len]; omega) (by rw [List.length_append, List.length_singleton]; simp only [O.len]; omega)
      refine ⟨i', j', F', s', by rw [whileL_t t bd]; exact g1, ?_, g3, g4, g5⟩
      rw [g2, mrg_gt c]
      show Fd ++ [(e, n)] ++ _ = Fd ++ (e, n) :: _
      simp
def MrgOk (k : Nat) (F : Fn) : Prop := ∀ a b : O, a.h ≤ k → a.len ≤ 900 → b.len ≤ 900 → F [enc a, enc b] = .ok (enc (mrgO a b))
theorem merged_step {S : Nat → Fn} {c0 k : Nat} (hc : CmpOk k (S c0)) : MrgOk k (fun ds => fnD 6 (G_merged c0 S) ds) := by
  intro a b ha la lb
  refine fnD_of ?_
  obtain ⟨i, j, F', s', g1, g2, g3, g4, g5⟩ := mrg_loop hc (a := a) (b := b) ha wfuel a b 0 0 [] none rfl rfl (Nat.zero_le _) (Nat.zero_le _) (by show _ ≤ 1000000; omega) (by simp; omega)
  have ep : encL (mrgO a b) = F'.map encP ++ (encL a).drop i ++ (encL b).drop j := by
    rw [List.nil_append] at g2
    rw [encL_parts, ← g2, encL_parts a, encL_parts b, List.map_append, List.map_append, List.map_drop, List.map_drop]
  have c1 : Pu.cutD (encL a) (some (i : Int)) none = (encL a).drop i := by rw [cut_back, encL_len, Nat.min_eq_left g3]
  have c2 : Pu.cutD (encL b) (some (j : Int)) none = (encL b).drop j := by rw [cut_back, encL_len, Nat.min_eq_left g4]
  have l1 : ((encL a).drop i).length ≤ 900 := by rw [List.length_drop, encL_len]; omega
  have l2 : ((encL b).drop j).length ≤ 900 := by rw [List.length_drop, encL_len]; omega
  have s1 : F'.length + ((encL a).drop i).length ≤ sizeLine := sz1000 (by omega)
  have s2 : F'.length + ((encL a).drop i).length + ((encL b).drop j).length ≤ sizeLine := sz1000 (by omega)
  have g1' : whileL mT (mB (S c0)) wfuel [some (enc a), some (enc b), some (.list []), some (.int 0), some (.int 0), none] = _ := g1
  unfold G_merged
  rw [u_sSeq]
  have e1 : (sNew [2] 2 (nLst aNil)) (List.map some [enc a, enc b] ++ List.replicate (6 - [enc a, enc b].length) none) = .nx [some (enc a), some (enc b), some (.list []), none, none, none] := by simp
  rw [e1, Out.then_nx, u_sSeq]
  have e2 : (sSetM [2] 3 (eC (.int 0))) [some (enc a), some (enc b), some (.list []), none, none, none] = .nx [some (enc a), some (enc b), some (.list []), some (.int 0), none, none] := by simp
  rw [e2, Out.then_nx, u_sSeq]
  have e3 : (sSetM [2] 4 (eC (.int 0))) [some (enc a), some (enc b), some (.list []), some (.int 0), none, none] = .nx [some (enc a), some (enc b), some (.list []), some (.int 0), some (.int 0), none] := by simp
  rw [e3, Out.then_nx, u_sSeq, g1', Out.then_nx]
  simp only [List.length_drop, encL_len] at s1 s2
  simp [c1, c2, s1, s2, ep]
end Nm
set_option Elab.async false
set_option linter.all false
set_option maxRecDepth 100000
set_option maxHeartbeats 4000000
namespace Pu
open PySem
theorem fnD_err {N : Nat} {g : Vars → Out} {ds : List PyData} {c : Str} {ρ : Vars} (h : g (ds.map some ++ List.replicate (N - ds.length) none) = .err c ρ) : fnD N g ds = .err c := by unfold fnD; rw [h]
end Pu
namespace Nm
open PySem Pu O L2
/-! ### minus -/
def minusO : O → O → O
  | a, .z => a
  | .z, _ => .z
  | .c e n r, .c e' n' r' => if e = e' then (if n = n' then minusO r r' else .c e (n - n') r) else .c e n r
theorem minus_exp : ∀ (a b : O) (p : O × Int), p ∈ (minusO a b).parts → ∃ q, q ∈ a.parts ∧ q.1 = p.1
  | a, .z, p, h => ⟨p, by cases a <;> exact h, rfl⟩
  | .z, .c _ _ _, p, h => by cases h
  | .c e n r, .c e' n' r', p, h => by
    have inA : ∀ q ∈ r.parts, q ∈ (O.c e n r).parts := fun q hq => by show q ∈ (e, n) :: r.parts; simp [hq]
    have hA : (e, n) ∈ (O.c e n r).parts := by show _ ∈ (e, n) :: r.parts; simp
    unfold minusO at h
    by_cases c1 : e = e'
    · rw [if_pos c1] at h
      by_cases c2 : n = n'
      · rw [if_pos c2] at h
        obtain ⟨q, q1, q2⟩ := minus_exp r r' p h
        exact ⟨q, inA q q1, q2⟩
      · rw [if_neg c2] at h
        rcases List.mem_cons.mp (show p ∈ (e, n - n') :: r.parts from h) with h | h
        · exact ⟨_, hA, by rw [h]⟩
        · exact ⟨p, inA p h, rfl⟩
    · rw [if_neg c1] at h
      exact ⟨p, h, rfl⟩
theorem minus_len : ∀ a b : O, (minusO a b).len ≤ a.len
  | a, .z => by cases a <;> exact Nat.le_refl _
  | .z, .c _ _ _ => Nat.le_refl _
  | .c e n r, .c e' n' r' => by
    have := minus_len r r'
    unfold minusO
    split
    · split
      · simp only [O.len]; omega
      · simp only [O.len]; omega
    · exact Nat.le_refl _
theorem minus_h {a b : O} {k : Nat} (ha : a.h ≤ k) : (minusO a b).h ≤ k := by
  rw [h_parts]
  intro p hp
  obtain ⟨q, q1, q2⟩ := minus_exp a b p hp
  rw [← q2]
  exact (h_parts a).mp ha q q1
theorem minus_z {a : O} : minusO a .z = a := by cases a <;> rfl
theorem le_c {e r e' r' : O} {n n' : Int} (h : cmp (.c e' n' r') (.c e n r) ≠ 1) : cmp e' e = -1 ∨ (e' = e ∧ (n' < n ∨ (n' = n ∧ cmp r' r ≠ 1))) := by
  rcases cmp_tri (.c e' n' r') (.c e n r) with c | c | c
  · rcases cmp_c.mp c with d | ⟨d1, d2 | ⟨d2, d3⟩⟩
    · exact Or.inl d
    · exact Or.inr ⟨d1, Or.inl d2⟩
    · exact Or.inr ⟨d1, Or.inr ⟨d2, by rw [d3]; decide⟩⟩
  · injection c with c1 c2 c3
    exact Or.inr ⟨c1, Or.inr ⟨c2, by rw [c3, cmp_self]; decide⟩⟩
  · exact absurd c h
theorem cmp_cz {e r : O} {n : Int} : cmp (.c e n r) .z = 1 := by simp [cmp]
theorem minus_ok : ∀ a b : O, NF a → NF b → cmp b a ≠ 1 → NF (minusO a b) ∧ plusO b (minusO a b) = a
  | a, .z, ha, _, _ => by rw [minus_z, plus_z]; exact ⟨ha, rfl⟩
  | .z, .c _ _ _, _, _, h => absurd cmp_cz h
  | .c e n r, .c e' n' r', ha, hb, h => by
    have ta := nf_tail ha
    have tb := nf_tail hb
    rcases le_c h with d | ⟨d1, d2⟩
    · have ne : ¬ e = e' := fun z => by rw [z, cmp_self] at d; cases d
      have : minusO (.c e n r) (.c e' n' r') = .c e n r := by unfold minusO; rw [if_neg ne]
      rw [this]
      exact ⟨ha, plus_lt hb d⟩
    · subst d1
      rcases d2 with d2 | ⟨d2, d3⟩
      · have : minusO (.c e' n r) (.c e' n' r') = .c e' (n - n') r := by unfold minusO; rw [if_pos rfl, if_neg (by omega)]
        rw [this]
        refine ⟨nf_mk ta.2.1 (by omega) ta.1 ta.2.2.2, ?_⟩
        rw [plus_eq hb, show n' + (n - n') = n by omega]
      · subst d2
        obtain ⟨i1, i2⟩ := minus_ok r r' ta.1 tb.1 d3
        have : minusO (.c e' n' r) (.c e' n' r') = minusO r r' := by rw [minusO, if_pos rfl, if_pos rfl]
        rw [this]
        refine ⟨i1, ?_⟩
        cases hx : minusO r r' with
        | z =>
          rw [hx] at i2
          have i2' : r' = r := i2
          rw [i2']; rfl
        | c f k s =>
          have hm : (f, k) ∈ (minusO r r').parts := by rw [hx]; show _ ∈ (f, k) :: s.parts; simp
          obtain ⟨q, q1, q2⟩ := minus_exp r r' _ hm
          have : cmp e' f = 1 := by have := ta.2.2.2 q q1; rw [q2] at this; exact this
          rw [plus_gt this, ← hx, i2]
theorem G.minus {m : Nat} {a b : O} (ha : G m a) (hb : NF b) (h : cmp b a ≠ 1) : G m (minusO a b) := ⟨(minus_ok a b ha.nf hb h).1, minus_h ha.h, Nat.le_trans (minus_len a b) ha.l⟩
theorem plus_ge {a b : O} (ha : NF a) (hb : NF b) : cmp a (plusO a b) ≠ 1 := by
  have := plus_cmp (a := a) (b := .z) (d := b) ha trivial hb
  have e : plusO a .z = a := rfl
  rw [e] at this
  rw [this]
  cases b <;> simp [cmp]
theorem minus_plus {a b : O} (ha : NF a) (hb : NF b) : minusO (plusO a b) a = b := by
  obtain ⟨h1, h2⟩ := minus_ok (plusO a b) a (plusO_nf ha hb) ha (plus_ge ha hb)
  exact plus_inj ha h1 hb h2
theorem gEq_part {e e' : O} {n n' : Int} (he : e.h ≤ 30) (he' : e'.h ≤ 30) : gEq (.tuple [enc e, .int n]) (.tuple [enc e', .int n']) = some (.bool (decide (e = e' ∧ n = n'))) := by
  have sh : ∀ (e : O) (n : Int), e.h ≤ 30 → SeqAt.shaped (.tuple [enc e, .int n]) = true := fun e n he => by
    have h1 := enc_lay e
    have h2 := enc_depth e
    simp only [PyData.canLay0, PyData.depth] at h1 h2
    unfold SeqAt.shaped
    simp only [PyData.canLay0, PyData.canLayAll0, PyData.depth, PyData.depthAll, h1, Bool.and_self, Bool.true_and]
    exact decide_eq_true (by omega)
  have ev := enc_eqv e e'
  simp only [PyData.eqv] at ev
  unfold gEq
  rw [sh e n he, sh e' n' he']
  simp only [PyData.eqv, PyData.eqvAll, ev, Bool.and_true, Bool.and_self, if_true]
  by_cases c1 : e = e' <;> by_cases c2 : n = n' <;> simp [c1, c2]
abbrev nT : Vars → R Bool := tAndR (tOf (eOp gLt (eVar 2) (eCall gLen (aCons (eVar 1) aNil)))) (tOf (eOp gEq (eOp gIx (eVar 0) (eVar 2)) (eOp gIx (eVar 1) (eVar 2))))
abbrev nB : Vars → Out := sAug [] 2 gAddI (eC (.int 1))
theorem min_loop {a b : O} (ha : a.h ≤ 31) (hb : b.h ≤ 31) : ∀ (f : Nat) (x y : O) (i : Nat), a.parts.drop i = x.parts → b.parts.drop i = y.parts → i ≤ b.len → cmp y x ≠ 1 → y.len + 1 ≤ f →
    ∃ (i' : Nat) (x' y' : O), whileL nT nB f [some (enc a), some (enc b), some (.int (i : Nat)), none, none] = .nx [some (enc a), some (enc b), some (.int (i' : Nat)), none, none] ∧
      a.parts.drop i' = x'.parts ∧ b.parts.drop i' = y'.parts ∧ i' ≤ b.len ∧ minusO x y = minusO x' y' ∧ (y' = .z ∨ ∃ e n r e' n' r', x' = .c e n r ∧ y' = .c e' n' r' ∧ ¬ (e = e' ∧ n = n'))
  | 0, x, y, i, _, _, _, _, hf => by omega
  | f + 1, x, .z, i, hx, hy, hi, hc, hf => by
    have hi2 : b.parts.length ≤ i := by
      rcases Nat.lt_or_ge i b.parts.length with c | c
      · rw [List.drop_eq_getElem_cons c] at hy; cases hy
      · exact c
    rw [len_parts] at hi2
    have t : nT [some (enc a), some (enc b), some (.int (i : Nat)), none, none] = .ok false := by
      have : ¬ (i : Int) < (b.len : Int) := by omega
      simp [this]
    exact ⟨i, x, .z, whileL_f t, hx, hy, hi, rfl, Or.inl rfl⟩
  | f + 1, .z, .c e' n' r', i, hx, hy, hi, hc, hf => absurd cmp_cz hc
  | f + 1, .c e n r, .c e' n' r', i, hx, hy, hi, hc, hf => by
    obtain ⟨x1, x2, x3⟩ := drop_at (show a.parts.drop i = (e, n) :: r.parts from hx)
    obtain ⟨y1, y2, y3⟩ := drop_at (show b.parts.drop i = (e', n') :: r'.parts from hy)
    rw [len_parts] at y3
    have pe : e.h + 1 ≤ a.h := part_mem_h (List.mem_of_getElem? x1)
    have pe' : e'.h + 1 ≤ b.h := part_mem_h (List.mem_of_getElem? y1)
    have ax := atI_at x1
    have ay := atI_at y1
    have ge := gEq_part (e := e) (e' := e') (n := n) (n' := n') (by omega) (by omega)
    have lt : (i : Int) < (b.len : Int) := by omega
    by_cases c : e = e' ∧ n = n'
    · rw [decide_eq_true c] at ge
      have t : nT [some (enc a), some (enc b), some (.int (i : Nat)), none, none] = .ok true := by simp [lt, ax, ay, ge]
      have bd : nB [some (enc a), some (enc b), some (.int (i : Nat)), none, none] = .nx [some (enc a), some (enc b), some (.int ((i + 1 : Nat) : Nat)), none, none] := by simp [gAddI]
      obtain ⟨c1, c2⟩ := c
      subst c1; subst c2
      have hc2 : cmp r' r ≠ 1 := by
        rcases le_c hc with d | ⟨_, d | ⟨_, d⟩⟩
        · rw [cmp_self] at d; cases d
        · omega
        · exact d
      simp only [O.len] at hf
      obtain ⟨i', x', y', g1, g2, g3, g4, g5, g6⟩ := min_loop ha hb f r r' (i + 1) x2 y2 (by omega) hc2 (by omega)
      refine ⟨i', x', y', by rw [whileL_t t bd]; exact g1, g2, g3, g4, ?_, g6⟩
      rw [← g5, minusO, if_pos rfl, if_pos rfl]
    · rw [decide_eq_false c] at ge
      have t : nT [some (enc a), some (enc b), some (.int (i : Nat)), none, none] = .ok false := by simp [lt, ax, ay, ge]
      exact ⟨i, _, _, whileL_f t, hx, hy, hi, rfl, Or.inr ⟨e, n, r, e', n', r', rfl, rfl, c⟩⟩
def MinOk (k : Nat) (F : Fn) : Prop := ∀ a b : O, b.h < k → a.h ≤ 30 → b.h ≤ 30 → a.len ≤ 100000 → b.len ≤ 100000 → (cmp b a ≠ 1 → F [enc a, enc b] = .ok (enc (minusO a b))) ∧ (cmp b a = 1 → F [enc a, enc b] = .err "TooHigh")
theorem minus_step {S : Nat → Fn} {c0 k : Nat} (hc : CmpOk k (S c0)) : MinOk k (fun ds => fnD 5 (G_minus c0 S) ds) := by
  intro a b hk ha hb la lb
  have cc := hc b a hk
  refine ⟨fun hle => fnD_of ?_, fun hgt => ?_⟩
  · have ne : ¬ cmp b a = 1 := hle
    obtain ⟨i, x, y, g1, g2, g3, g4, g5, g6⟩ := min_loop (a := a) (b := b) (by omega) (by omega) wfuel a b 0 rfl rfl (Nat.zero_le _) hle (by show _ ≤ 1000000; omega)
    have g1' : whileL nT nB wfuel [some (enc a), some (enc b), some (.int 0), none, none] = _ := g1
    have dr : Pu.cutD (encL a) (some (i : Int)) none = encL (of (a.parts.drop i)) := by
      rw [cut_back, encL_len]
      rcases Nat.le_total i a.len with c | c
      · rw [Nat.min_eq_left c, encL_drop]
      · rw [Nat.min_eq_right c, encL_drop]
        have e1 : a.parts.drop a.len = [] := List.drop_eq_nil_of_le (by rw [len_parts]; exact Nat.le_refl _)
        have e2 : a.parts.drop i = [] := List.drop_eq_nil_of_le (by rw [len_parts]; exact c)
        rw [e1, e2]
    rw [g2, of_parts] at dr
    have e0 : minusO a b = minusO x y := g5
    unfold G_minus
    rcases g6 with g6 | ⟨e, n, r, e', n', r', hx, hy, hne⟩
    · subst g6
      have il : i = b.len := by
        have : b.parts.length ≤ i := by
          rcases Nat.lt_or_ge i b.parts.length with c | c
          · rw [List.drop_eq_getElem_cons c] at g3; cases g3
          · exact c
        rw [len_parts] at this
        omega
      rw [minus_z] at e0
      subst il
      simp [cc, ne, g1', dr, e0]
    · obtain ⟨x1, x2, x3⟩ := drop_at (show a.parts.drop i = (e, n) :: r.parts by rw [g2, hx]; rfl)
      obtain ⟨y1, y2, y3⟩ := drop_at (show b.parts.drop i = (e', n') :: r'.parts by rw [g3, hy]; rfl)
      rw [len_parts] at x3 y3
      have pe : e.h + 1 ≤ a.h := part_mem_h (List.mem_of_getElem? x1)
      have pe' : e'.h + 1 ≤ b.h := part_mem_h (List.mem_of_getElem? y1)
      have ax := atI_at x1
      have ay := atI_at y1
      have il : ¬ (i : Int) = (b.len : Int) := by omega
      have ge := gEq_enc (a := e) (b := e') (by omega) (by omega)
      by_cases c : e = e'
      · subst c
        rw [decide_eq_true rfl] at ge
        have nn : ¬ n = n' := fun z => hne ⟨rfl, z⟩
        have em : minusO a b = .c e (n - n') r := by rw [e0, hx, hy, minusO, if_pos rfl, if_neg nn]
        have dr2 : Pu.cutD (encL a) (some ((i : Int) + 1)) none = encL r := by
          rw [show ((i : Int) + 1) = ((i + 1 : Nat) : Int) by omega, cut_back, encL_len, Nat.min_eq_left (by omega), encL_drop, x2, of_parts]
        have lr : r.len ≤ 100000 := by
          have := congrArg List.length x2
          rw [List.length_drop, len_parts, len_parts] at this
          omega
        have s1 : 1 + r.len ≤ sizeLine := sz1000 (by omega)
        have ep : encL (minusO a b) = encP (e, n - n') :: encL r := by rw [em]; rfl
        simp [cc, ne, g1', il, ax, ay, ge, dr2, s1, ep]
      · rw [decide_eq_false c] at ge
        have em : minusO a b = x := by rw [e0, hx, hy, minusO, if_neg c]
        simp [cc, ne, g1', il, ax, ay, ge, dr, em]
  · rw [hgt] at cc
    refine fnD_err (ρ := [some (enc a), some (enc b), none, none, none]) ?_
    unfold G_minus
    simp [cc]
end Nm
set_option Elab.async false
set_option linter.all false
set_option maxRecDepth 100000
set_option maxHeartbeats 4000000
namespace Pu
open PySem PySem.Spec PyProof.Rows L2
/-! ### max(.., default = d) of a list of ints -/
theorem max_rawD {prog : Program} {w : World} {A : Around} {E : Value → Shared → Prop} {s : Shared} {l : Addr} {its : List Value} {ns : List Int} {Q : Value → Shared → Prop} {d : Value} (hh : A.handled = none) (hl : s.heap.IsList l its.toArray) (hi : IntsAre its ns)
    (h0 : ns = [] → ∀ h' tk, (∀ b o, s.heap.get? b = some o → h'.get? b = some o) → Q d { s with heap := h', toks := tk })
    (h : ∀ h' tk M t', (∀ b o, s.heap.get? b = some o → h'.get? b = some o) → M ∈ ns → (∀ a, a ∈ ns → a ≤ M) → Q (.int M t') { s with heap := h', toks := tk }) :
    wpAny (model prog w) A (call (.builtin "max") [.ref l] [(Str.ofString "default", d)]) Q E s := by
  obtain ⟨xs, e⟩ := hi.allInts.items
  have hn : numsOf (intItems xs).toList = ns := by rw [← e]; exact hi.numsOf
  rw [nums_intItems] at hn
  subst hn
  rw [e] at hl
  have hsz : (intItems xs).size = xs.size := by unfold intItems; rw [Array.size_map]
  refine PySem.call_max_walkD (PySem.W.iter_listW (A := A.in1) hh hl fun s₂ e W st hfp hw hk => ?_)
  refine ⟨_, _, _, _, _, _, _, s.heap, (fun i j => decide (numAt xs i > numAt xs j)), rfl, W, st, hfp, hw, hk, fun hz s' m => ?_, fun hp => ⟨fun i j vi vj s Q E _ hi hj h => CmpOf.ints_gt (numAt xs) (fun _ _ => intItems_at) i j vi vj s Q E hi hj h, fun v s' hP m => ?_⟩⟩
  · obtain ⟨h', tk, rfl, hk'⟩ := PySem.W.moved_old e rfl m
    refine h0 ?_ h' tk hk'
    apply List.eq_nil_of_length_eq_zero
    rw [List.length_map, Array.length_toList]
    rw [hsz] at hz
    exact hz
  · obtain ⟨h', tk, rfl, hk'⟩ := PySem.W.moved_old e rfl m
    obtain ⟨t, rfl⟩ := intItems_at hP
    rw [hsz] at hp ⊢
    obtain ⟨h1, h2⟩ := argBest_gt (numAt xs) (xs.size - 1)
    refine h h' tk _ t hk' ?_ fun a ha => ?_
    · rw [numAt_eq]; exact PySem.getD_mem (by rw [List.length_map, Array.length_toList]; omega)
    · obtain ⟨j, hj, rfl⟩ := mem_getD ha
      rw [List.length_map, Array.length_toList] at hj
      rw [← numAt_eq]; exact h2 j (by omega)
def rMaxD (K : PySem.W.Frag) (d : Int) : List V → List V → Hp → VK → Prop := fun vs zs H Q => ∃ (a : Addr) (ns : List Int), vs = [V.ref a] ∧ zs = [V.int d] ∧ SqL K H a (ns.map V.int) ∧ (ns = [] → Q (.int d) H) ∧ ∀ m, m ∈ ns → (∀ y, y ∈ ns → y ≤ m) → Q (.int m) H
theorem cr_maxD {X : Cx} {d : Int} (hc : X.calm = true) : CallRK X (.builtin "max") ["default"] (rMaxD X.K d) := by
  intro pins s σ H vs zs us ws Q I r r2 h
  obtain ⟨a, ns, rfl, rfl, hs, q0, q⟩ := h
  obtain ⟨its, rv, hl, _⟩ := I.list hs
  rw [Vals.ref1 r]
  cases r2 with
  | cons rw_ rr =>
    cases rr
    obtain ⟨t0, rfl⟩ := rw_
    exact max_rawD (I.ok.hd hc) hl.isList rv.ints (fun hz h' tk hk => ⟨.int d, H, I.kept hk, ⟨_, rfl⟩, q0 hz⟩) fun h' tk m t' hk h1 h2 => ⟨.int _, H, I.kept hk, ⟨_, rfl⟩, q m h1 h2⟩
def gMaxD (d : Int) : List PyData → Option PyData
  | [.list ds] => match intsOf ds with
    | some (n :: ns) => some (.int (maxI n ns))
    | some [] => some (.int d)
    | none => none
  | _ => none
def eMaxD (d : Int) (f : Vars → R PyData) (ρ : Vars) : R PyData := (f ρ).bind fun z => R.of (gMaxD d [z])
section
variable {X : Cx} {W : WX}
theorem ex_maxD {a : Expr} {f : Vars → R PyData} {d : Int} {p kp j pos : Pos} {jk} (hc : X.calm = true) (hg : Gl X "max") (hm : X.mg "max" = none) (ha : EX X W a f)
    (he : backTo pos (starEach [a] X.env) = (false, eval a X.env) :: backTo pos (starEach [] X.env) := by rfl) (hpl : (backTo pos (starEach [a] X.env)).any (·.1) = false := by rfl)
    (he2 : starEach [a] X.env = (false, eval a X.env) :: starEach [] X.env := by rfl)
    (hall : (backToKw pos (keywordEach [⟨some "default", .Constant (.int d) jk j, kp⟩] X.env)).all (·.1.isSome) = true := by rfl) (hnone : (backToKw pos (keywordEach [⟨some "default", .Constant (.int d) jk j, kp⟩] X.env)).any (·.1.isNone) = false := by rfl) (hks : (backToKw pos (keywordEach [⟨some "default", .Constant (.int d) jk j, kp⟩] X.env)).filterMap (·.1) = [("default" : Str)] := by rfl) :
    EX X W (.Call (.Name "max" p) [a] [⟨some "default", .Constant (.int d) jk j, kp⟩] pos) (eMaxD d f) := by
  obtain ⟨t, q, ht⟩ := ha
  refine ⟨_, pe_callBK (cr_maxD (d := d) hc) hg hm (by decide +kernel) (pa_cons q pa_nil he2) (pk_cons pe_int pk_nil) (by decide) (by decide) he hpl hall hnone hks, fun σ H O ρ Q hO hv z => ht σ H O ρ _ hO hv (EOut.then (g := fun z => R.of (gMaxD d [z])) EOut.b EOut.e z fun d1 v H1 s1 r1 z1 => ?_)⟩
  show rMaxD X.K d [v] [V.int d] H1 Q
  unfold gMaxD at z1
  cases r1 with
  | lst hx rs =>
    rename_i aa vv ds
    simp only [] at z1
    cases e : intsOf ds with
    | none => rw [e] at z1; exact z1.elim
    | some ns =>
      rw [e] at z1
      have e2 := intsOf_eq e
      subst e2
      have e3 := rs.ints
      subst e3
      refine ⟨_, ns, rfl, rfl, seqL hide_sub hx, fun hz => ?_, fun m h1 h2 => ?_⟩
      · subst hz
        exact z1 _ H1 s1 (.int _)
      · cases ns with
        | nil => cases h1
        | cons n ns =>
          have e4 : m = maxI n ns := Int.le_antisymm (maxI_le n ns m h1) (h2 _ (maxI_mem n ns))
          rw [e4]
          exact z1 _ H1 s1 (.int _)
  | _ => exact z1.elim
end
/-! ### is True, is not False -/
def rNotB : R2 := fun x y H Q => ∃ a b, x = .bl a ∧ y = .bl b ∧ Q (.bl (!(a == b))) H
def rIsB : R2 := fun x y H Q => ∃ a b, x = .bl a ∧ y = .bl b ∧ Q (.bl (a == b)) H
theorem op_notB {X : Cx} : OpR X (compareOp .IsNot) rNotB := by
  intro pins s σ H x y v u Q I rx ry h
  obtain ⟨a, b, rfl, rfl, q⟩ := h
  cases rx
  cases ry
  cases a <;> cases b <;> exact wpAny_pure (fin_bl I q rfl)
theorem op_isB {X : Cx} : OpR X (compareOp .Is) rIsB := by
  intro pins s σ H x y v u Q I rx ry h
  obtain ⟨a, b, rfl, rfl, q⟩ := h
  cases rx
  cases ry
  cases a <;> cases b <;> exact wpAny_pure (fin_bl I q rfl)
def gNotB : PyData → PyData → Option PyData
  | .bool a, .bool b => some (.bool (!(a == b)))
  | _, _ => none
def gIsB : PyData → PyData → Option PyData
  | .bool a, .bool b => some (.bool (a == b))
  | _, _ => none
theorem op2_notB {K : PySem.W.Frag} : Op2 K rNotB gNotB := by
  intro H O x y d e z Q hO rx ry h q
  cases rx with
  | bl a =>
    cases ry with
    | bl b => cases h; exact ⟨a, b, rfl, rfl, q _ H (Same.refl H) (.bl _)⟩
    | _ => cases h
  | _ => cases h
theorem op2_isB {K : PySem.W.Frag} : Op2 K rIsB gIsB := by
  intro H O x y d e z Q hO rx ry h q
  cases rx with
  | bl a =>
    cases ry with
    | bl b => cases h; exact ⟨a, b, rfl, rfl, q _ H (Same.refl H) (.bl _)⟩
    | _ => cases h
  | _ => cases h
@[simp] theorem u_gNotB (a b : Bool) : gNotB (.bool a) (.bool b) = some (.bool (!(a == b))) := rfl
@[simp] theorem u_gIsB (a b : Bool) : gIsB (.bool a) (.bool b) = some (.bool (a == b)) := rfl
@[simp] theorem u_eMaxD (d : Int) (f : Vars → R PyData) (ρ : Vars) : eMaxD d f ρ = (f ρ).bind fun z => R.of (gMaxD d [z]) := rfl
end Pu
set_option Elab.async false
set_option linter.all false
set_option maxRecDepth 100000
set_option maxHeartbeats 4000000
namespace Pu
open PySem PySem.Spec PyProof.Rows L2
/-! ### try: .. except X as e: v = 1 + int(isinstance(e, Y)) -/
theorem Rel.none {K : PySem.W.Frag} {own : List Nat} {H0 : Hp} {O0 O : List Addr} {σ : L2.St} {H : Hp} {ρ : Vars} (r : Rel K own H0 O0 O σ H ρ) {i : Nat} {x : Option V} (c : i ∉ own) : Rel K own H0 O0 O (σ.set i x) H (ρ.set i none) where
  same := r.same
  st0 := r.st0
  len := by simpa using r.len
  sub := r.sub
  lists := r.lists
  free := fun j e cj q => by
    by_cases z : i = j
    · subst z
      by_cases hi : i < ρ.length
      · rw [List.getElem?_set_self hi] at q; cases q
      · rw [List.getElem?_eq_none (by simpa using hi)] at q; cases q
    · rw [List.getElem?_set_ne z] at q
      rw [List.getElem?_set_ne z]
      exact r.free j e cj q
  mine := fun j e cj q => by
    have z : i ≠ j := fun z => c (z ▸ cj)
    rw [List.getElem?_set_ne z] at q
    rw [List.getElem?_set_ne z]
    exact r.mine j e cj q
  apart := fun j k d e a cj ck q1 q2 e1 e2 => by
    have z : i ≠ j := fun z => c (z ▸ cj)
    have z2 : i ≠ k := fun z => c (z ▸ ck)
    rw [List.getElem?_set_ne z] at q1 e1
    rw [List.getElem?_set_ne z2] at q2 e2
    exact r.apart j k d e a cj ck q1 q2 e1 e2
/-- what the clause says of an exception of the class c: not said, not caught, caught and so many -/
def sTryIs (T : Str → Option (Option Int)) (ie iv : Nat) (g : Vars → Out) (ρ : Vars) : Out := match g ρ with
  | .err c ρ' => match T c with
    | some (some n) => .nx (((ρ'.set ie none).set iv (some (.int n))).set ie none)
    | some none => .err c ρ'
    | none => .bad
  | o => o
/-- what is known of the class c, where the clause names cX and Y is cY -/
def TryF (K : PySem.W.Frag) (mg : Str → Option Value) (cX cY : Value) (c : Str) : Option (Option Int) → Prop
  | some (some n) => ∃ C b, mg c = some (.ref C) ∧ PySem.W.exmOne K (.ref C) cX = some true ∧ ExcC K C ∧ PySem.W.kitOne K (.ref C) cY = some b ∧ n = 1 + (if b = true then 1 else 0)
  | some none => ∃ C, mg c = some (.ref C) ∧ PySem.W.exmOne K (.ref C) cX = some false
  | none => True
section
variable {X : Cx} {W : WX} {own : List Nat}
theorem sx_tryIs {T : Str → Option (Option Int)} {ie iv : Nat} {g : Vars → Out} {body : List Stmt} {x n v y : Str} {vY : V} {cX cY : Value} {p0 p1 p2 p3 p4 p5 p6 p7 p8 p9 p10 pos' pos : Pos} {j}
    (hN : X.N.Nodup) (hie : X.N[ie]? = some n) (hiv : X.N[iv]? = some v) (hln : X.env.kindOf n = some .local) (hlv : Loc X.env.scope v) (oie : own.contains ie = false) (oiv : own.contains iv = false)
    (hs : X.stack = X.env :: X.outer) (hf : X.env.frame = some X.env.locals) (hX : Names X x cX) (tk : Takes X W)
    (gI : Gl X "int") (mI : X.mg "int" = none) (gS : Gl X "isinstance") (mS : X.mg "isinstance" = none)
    (hY : ∀ (a : Addr) (pn : List (Addr × Obj)), PE (X.suite a pn) (.Name y p9) (tC vY)) (hYv : ∀ u, RelV vY u → u = cY)
    (hT : ∀ c, TryF X.K X.mg cX cY c (T c))
    (hb : ∀ (W' : WX) (pn : List (Addr × Obj)) (xe : Value → Shared → Prop), Takes (X.tr pn xe) W' → PassesOwn (model X.prog X.w) X.A X.env xe → SsX (X.tr pn xe) W' own body g)
    (hv : Vis X.env.scope n := by first | exact Or.inl rfl | exact Or.inr (Or.inl rfl) | exact Or.inr (Or.inr rfl)) (hdn : (n == ("__debug__" : Str)) = false := by decide) (hcd : (n == ("__classdict__" : Str)) = false := by decide)
    (hsw : ∀ (a : Addr) (pn : List (Addr × Obj)), swapsWith (.BinOp (.Constant (.int 1) j p2) .Add (.Call (.Name "int" p4) [.Call (.Name "isinstance" p6) [.Name n p8, .Name y p9] [] p7] [] p5) p3) (some (.Name v p1)) p10.line (X.suite a pn).env = pure false := by intro a pn; rfl)
    (hfv : X.fn v = true ∨ X.env.scope.names.lookup v = some .local := by first | exact .inl rfl | exact .inr rfl | assumption)
    (he1 : starEach [.Name n p8, .Name y p9] X.env = (false, eval (.Name n p8) X.env) :: starEach [.Name y p9] X.env := by rfl) (he2 : starEach [.Name y p9] X.env = (false, eval (.Name y p9) X.env) :: starEach [] X.env := by rfl)
    (he3 : starEach [.Call (.Name "isinstance" p6) [.Name n p8, .Name y p9] [] p7] X.env = (false, eval (.Call (.Name "isinstance" p6) [.Name n p8, .Name y p9] [] p7) X.env) :: starEach [] X.env := by rfl)
    (hp1 : (backTo p7 (starEach [.Name y p9] X.env)).any (·.1) = false := by rfl) (hp2 : (backTo p5 (starEach [] X.env)).any (·.1) = false := by rfl) :
    SX X W own (.Try body [.ExceptHandler (some (.Name x p0)) (some n) [.Assign [.Name v p1] (.BinOp (.Constant (.int 1) j p2) .Add (.Call (.Name "int" p4) [.Call (.Name "isinstance" p6) [.Name n p8, .Name y p9] [] p7] [] p5) p3) p10] pos'] [] [] pos) (sTryIs T ie iv g) := by
  have oie' : ie ∉ own := fun z => by rw [List.contains_iff_mem.mpr z] at oie; cases oie
  have oiv' : iv ∉ own := fun z => by rw [List.contains_iff_mem.mpr z] at oiv; cases oiv
  have hlt : ie < X.N.length := (List.getElem?_eq_some_iff.mp hie).1
  refine ⟨_, ps_try_as (c := cX) (i := ie) (Wout := W) (tb := fun W' => tS X W' own g) (ts := fun a cls d D σ H => ∃ (c : Str) (m : Int) (σ0 : L2.St), T c = some (some m) ∧ cls = exV X.mg c ∧ d = none ∧ σ = σ0.set ie (some (.ref a)) ∧ D.nx (σ.set iv (some (.int m))) H)
    hs hf hN hie hln hX tk (fun W' pn xe tk' px => (hb W' pn xe tk' px).pss) (fun a oe cls d pn hz hfl => ⟨fun pins s σ H D I h => ?_⟩), fun σ H ρ D H0 O0 O r z => ?_⟩
  · obtain ⟨c, m, σ0, hTc, rfl, rfl, rfl, hD⟩ := h
    have hTF := hT c
    rw [hTc] at hTF
    obtain ⟨C, b, hmC, hx1, hxc, hk, hm⟩ := hTF
    have hcls : exV X.mg c = .ref C := by unfold exV; rw [hmC]; rfl
    rw [hcls] at hz
    have hl0 : ie < σ0.length := by have := I.len; simp at this; show _ < _; omega
    have P := pss_one (ps_set (X := X.suite a ((a, oe) :: pn)) (pos' := p1) (pos := p10) hN hiv hlv
      (pe_op op_add (pe_int (i := 1) (j := j) (pos := p2)) (pe_callTy call_int1 gI mI (by decide +kernel) (pa_cons (pe_callB (call_isE hxc hz hfl) gS mS (by decide +kernel) (pa_cons (pe_var hie hv hdn hcd) (pa_cons (hY a ((a, oe) :: pn)) pa_nil he2) he1) (by decide) (by decide) he1 hp1) pa_nil he3) (by decide) (by decide) he3 hp2)) (hsw a ((a, oe) :: pn)) hfv)
    refine P.run pins s _ H D I ?_
    refine ⟨.ref a, by rw [List.getElem?_set_self hl0], ?_⟩
    refine ⟨vY, cY, b, rfl, hYv, hk, ?_⟩
    refine Or.inr ⟨b, rfl, ?_⟩
    refine ⟨1, _, rfl, rfl, ?_⟩
    rw [hm] at hD
    exact hD
  · refine ⟨H0, O0, O, ρ, r, ?_⟩
    unfold sTryIs at z
    cases e : g ρ with
    | nx ρ' => rw [e] at z; exact z
    | rt d => rw [e] at z; exact z
    | bk ρ' => rw [e] at z; exact z
    | ct ρ' => rw [e] at z; exact z
    | bad => rw [e] at z; exact z
    | err c ρ' =>
      rw [e] at z
      dsimp only at z
      intro σ' H' O' r' s'
      have hTF := hT c
      cases hTc : T c with
      | none => rw [hTc] at z; exact z.elim
      | some o =>
        rw [hTc] at hTF
        cases o with
        | none =>
          obtain ⟨C, hmC, hx1⟩ := hTF
          have hcls : exV X.mg c = .ref C := by unfold exV; rw [hmC]; rfl
          refine ⟨false, by rw [hcls]; exact hx1, ⟨fun q => absurd q Bool.false_ne_true, fun _ => ?_⟩⟩
          rw [hTc] at z
          exact z σ' H' O' r' s'
        | some m =>
          obtain ⟨C, b, hmC, hx1, _⟩ := hTF
          have hcls : exV X.mg c = .ref C := by unfold exV; rw [hmC]; rfl
          refine ⟨true, by rw [hcls]; exact hx1, ⟨fun _ a ha => ⟨c, m, σ', hTc, rfl, rfl, rfl, ?_⟩, fun q => absurd q.symm Bool.false_ne_true⟩⟩
          rw [hTc] at z
          exact z _ H' O' (((r'.none oie').set oiv' (.int m)).none oie') s'
end
def tab1 (c : Str) (n : Int) : Str → Option (Option Int) := fun d => if d = c then some (some n) else none
@[simp] theorem tab1_self (c : Str) (n : Int) : tab1 c n c = some (some n) := if_pos rfl
theorem tryF_of {K : PySem.W.Frag} {mg : Str → Option Value} {cX cY : Value} {c : Str} {n : Int} (h : TryF K mg cX cY c (some (some n))) : ∀ d, TryF K mg cX cY d (tab1 c n d) := fun d => by
  unfold tab1
  by_cases e : d = c
  · subst e; rw [if_pos rfl]; exact h
  · rw [if_neg e]; trivial
def TryB (K : PySem.W.Frag) (mg : Str → Option Value) (c x : Str) : Prop := ∃ CX, mg x = some (.ref CX) ∧ TryF K mg (.ref CX) (.type "ValueError") c (some (some 2))
def TryO (K : PySem.W.Frag) (mg : Str → Option Value) (c x y : Str) : Prop := ∃ CX CY, mg x = some (.ref CX) ∧ mg y = some (.ref CY) ∧ TryF K mg (.ref CX) (.ref CY) c (some (some 2))
theorem kitOne_ref {K : PySem.W.Frag} {C CY : Addr} (hd : PySem.W.hasDictIn K CY = true) (ty : PySem.W.typeIn K (.ref CY) = some (.type "type")) (sb : PySem.W.subIn K (.ref C) (.ref CY) = some true) : PySem.W.kitOne K (.ref C) (.ref CY) = some true := by
  obtain ⟨cd, hc, _⟩ := PySem.W.any_some hd
  unfold PySem.W.kitOne
  split
  · rfl
  · show (if ((PySem.W.clsIn K CY).isSome && PySem.W.typeIn K (.ref CY) == some (.type "type")) = true then PySem.W.subIn K (.ref C) (.ref CY) else none) = some true
    have e2 : ((PySem.W.clsIn K CY).isSome && PySem.W.typeIn K (.ref CY) == some (.type "type")) = true := by rw [hc, ty] <;> rfl
    rw [if_pos e2]; exact sb
theorem kitOne_ve {K : PySem.W.Frag} {C : Addr} (sb : PySem.W.subIn K (.ref C) (.type "ValueError") = some true) : PySem.W.kitOne K (.ref C) (.type "ValueError") = some true := by
  unfold PySem.W.kitOne
  split
  · rfl
  · show (if PySem.W.kitMeta "ValueError" = true then PySem.W.subIn K (.ref C) (.type "ValueError") else none) = some true
    rw [if_pos (by decide +kernel)]; exact sb
theorem tryB_mk {K : PySem.W.Frag} {mg : Str → Option Value} {c x : Str} {C CX : Addr} (hc : mg c = some (.ref C)) (hx : mg x = some (.ref CX)) (h1 : PySem.W.subIn K (.ref CX) (.type "BaseException") = some true) (h2 : PySem.W.hasDictIn K CX = true) (h3 : PySem.W.typeIn K (.ref CX) = some (.type "type"))
    (h4 : PySem.W.subIn K (.ref C) (.ref CX) = some true) (E : ExcC K C) (sv : PySem.W.subIn K (.ref C) (.type "ValueError") = some true) : TryB K mg c x :=
  ⟨CX, hx, C, true, hc, PySem.W.exm_ref h1 h2 h3 h4, E, kitOne_ve sv, rfl⟩
theorem tryO_mk {K : PySem.W.Frag} {mg : Str → Option Value} {c x y : Str} {C CX CY : Addr} (hc : mg c = some (.ref C)) (hx : mg x = some (.ref CX)) (hy : mg y = some (.ref CY)) (h1 : PySem.W.subIn K (.ref CX) (.type "BaseException") = some true) (h2 : PySem.W.hasDictIn K CX = true) (h3 : PySem.W.typeIn K (.ref CX) = some (.type "type"))
    (h4 : PySem.W.subIn K (.ref C) (.ref CX) = some true) (E : ExcC K C) (h5 : PySem.W.hasDictIn K CY = true) (h6 : PySem.W.typeIn K (.ref CY) = some (.type "type")) (h7 : PySem.W.subIn K (.ref C) (.ref CY) = some true) : TryO K mg c x y :=
  ⟨CX, CY, hx, hy, C, true, hc, PySem.W.exm_ref h1 h2 h3 h4, E, kitOne_ref h5 h6 h7, rfl⟩
section
variable {X : Cx} {W : WX} {own : List Nat}
theorem sx_tryB {ie iv : Nat} {g : Vars → Out} {body : List Stmt} {c x n v : Str} {p0 p1 p2 p3 p4 p5 p6 p7 p8 p9 p10 pos' pos : Pos} {j} (F : TryB X.K X.mg c x) (gX : Gl X x) (dX : (x == ("__debug__" : Str)) = false)
    (hN : X.N.Nodup) (hie : X.N[ie]? = some n) (hiv : X.N[iv]? = some v) (hln : X.env.kindOf n = some .local) (hlv : Loc X.env.scope v) (oie : own.contains ie = false) (oiv : own.contains iv = false)
    (hs : X.stack = X.env :: X.outer) (hf : X.env.frame = some X.env.locals) (tk : Takes X W)
    (gI : Gl X "int") (mI : X.mg "int" = none) (gS : Gl X "isinstance") (mS : X.mg "isinstance" = none) (gV : Gl X "ValueError") (mV : X.mg "ValueError" = none)
    (hb : ∀ (W' : WX) (pn : List (Addr × Obj)) (xe : Value → Shared → Prop), Takes (X.tr pn xe) W' → PassesOwn (model X.prog X.w) X.A X.env xe → SsX (X.tr pn xe) W' own body g)
    (hv : Vis X.env.scope n := by first | exact Or.inl rfl | exact Or.inr (Or.inl rfl) | exact Or.inr (Or.inr rfl)) (hdn : (n == ("__debug__" : Str)) = false := by decide) (hcd : (n == ("__classdict__" : Str)) = false := by decide)
    (hsw : ∀ (a : Addr) (pn : List (Addr × Obj)), swapsWith (.BinOp (.Constant (.int 1) j p2) .Add (.Call (.Name "int" p4) [.Call (.Name "isinstance" p6) [.Name n p8, .Name "ValueError" p9] [] p7] [] p5) p3) (some (.Name v p1)) p10.line (X.suite a pn).env = pure false := by intro a pn; rfl)
    (hfv : X.fn v = true ∨ X.env.scope.names.lookup v = some .local := by first | exact .inl rfl | exact .inr rfl | assumption)
    (he1 : starEach [.Name n p8, .Name "ValueError" p9] X.env = (false, eval (.Name n p8) X.env) :: starEach [.Name "ValueError" p9] X.env := by rfl) (he2 : starEach [.Name "ValueError" p9] X.env = (false, eval (.Name "ValueError" p9) X.env) :: starEach [] X.env := by rfl)
    (he3 : starEach [.Call (.Name "isinstance" p6) [.Name n p8, .Name "ValueError" p9] [] p7] X.env = (false, eval (.Call (.Name "isinstance" p6) [.Name n p8, .Name "ValueError" p9] [] p7) X.env) :: starEach [] X.env := by rfl)
    (hp1 : (backTo p7 (starEach [.Name "ValueError" p9] X.env)).any (·.1) = false := by rfl) (hp2 : (backTo p5 (starEach [] X.env)).any (·.1) = false := by rfl) :
    SX X W own (.Try body [.ExceptHandler (some (.Name x p0)) (some n) [.Assign [.Name v p1] (.BinOp (.Constant (.int 1) j p2) .Add (.Call (.Name "int" p4) [.Call (.Name "isinstance" p6) [.Name n p8, .Name "ValueError" p9] [] p7] [] p5) p3) p10] pos'] [] [] pos) (sTryIs (tab1 c 2) ie iv g) := by
  obtain ⟨CX, hx, hF⟩ := F
  exact sx_tryIs (vY := .ty "ValueError") hN hie hiv hln hlv oie oiv hs hf ⟨gX, dX, Or.inl hx⟩ tk gI mI gS mS (fun a pn => pe_bltn (v := .ty "ValueError") gV mV (by decide +kernel) rfl (by decide) (by decide)) (fun u r => r) (tryF_of hF) hb hv hdn hcd hsw hfv he1 he2 he3 hp1 hp2
theorem sx_tryO {ie iv : Nat} {g : Vars → Out} {body : List Stmt} {c x n v y : Str} {p0 p1 p2 p3 p4 p5 p6 p7 p8 p9 p10 pos' pos : Pos} {j} (F : TryO X.K X.mg c x y) (gX : Gl X x) (dX : (x == ("__debug__" : Str)) = false) (gY : Gl X y) (dY : (y == ("__debug__" : Str)) = false)
    (hN : X.N.Nodup) (hie : X.N[ie]? = some n) (hiv : X.N[iv]? = some v) (hln : X.env.kindOf n = some .local) (hlv : Loc X.env.scope v) (oie : own.contains ie = false) (oiv : own.contains iv = false)
    (hs : X.stack = X.env :: X.outer) (hf : X.env.frame = some X.env.locals) (tk : Takes X W)
    (gI : Gl X "int") (mI : X.mg "int" = none) (gS : Gl X "isinstance") (mS : X.mg "isinstance" = none)
    (hb : ∀ (W' : WX) (pn : List (Addr × Obj)) (xe : Value → Shared → Prop), Takes (X.tr pn xe) W' → PassesOwn (model X.prog X.w) X.A X.env xe → SsX (X.tr pn xe) W' own body g)
    (hv : Vis X.env.scope n := by first | exact Or.inl rfl | exact Or.inr (Or.inl rfl) | exact Or.inr (Or.inr rfl)) (hdn : (n == ("__debug__" : Str)) = false := by decide) (hcd : (n == ("__classdict__" : Str)) = false := by decide)
    (hsw : ∀ (a : Addr) (pn : List (Addr × Obj)), swapsWith (.BinOp (.Constant (.int 1) j p2) .Add (.Call (.Name "int" p4) [.Call (.Name "isinstance" p6) [.Name n p8, .Name y p9] [] p7] [] p5) p3) (some (.Name v p1)) p10.line (X.suite a pn).env = pure false := by intro a pn; rfl)
    (hfv : X.fn v = true ∨ X.env.scope.names.lookup v = some .local := by first | exact .inl rfl | exact .inr rfl | assumption)
    (he1 : starEach [.Name n p8, .Name y p9] X.env = (false, eval (.Name n p8) X.env) :: starEach [.Name y p9] X.env := by rfl) (he2 : starEach [.Name y p9] X.env = (false, eval (.Name y p9) X.env) :: starEach [] X.env := by rfl)
    (he3 : starEach [.Call (.Name "isinstance" p6) [.Name n p8, .Name y p9] [] p7] X.env = (false, eval (.Call (.Name "isinstance" p6) [.Name n p8, .Name y p9] [] p7) X.env) :: starEach [] X.env := by rfl)
    (hp1 : (backTo p7 (starEach [.Name y p9] X.env)).any (·.1) = false := by rfl) (hp2 : (backTo p5 (starEach [] X.env)).any (·.1) = false := by rfl) :
    SX X W own (.Try body [.ExceptHandler (some (.Name x p0)) (some n) [.Assign [.Name v p1] (.BinOp (.Constant (.int 1) j p2) .Add (.Call (.Name "int" p4) [.Call (.Name "isinstance" p6) [.Name n p8, .Name y p9] [] p7] [] p5) p3) p10] pos'] [] [] pos) (sTryIs (tab1 c 2) ie iv g) := by
  obtain ⟨CX, CY, hx, hy, hF⟩ := F
  exact sx_tryIs (vY := .ref CY) hN hie hiv hln hlv oie oiv hs hf ⟨gX, dX, Or.inl hx⟩ tk gI mI gS mS (fun a pn => pe_glob (v := .ref CY) gY hy rfl dY) (fun u r => r) (tryF_of hF) hb hv hdn hcd hsw hfv he1 he2 he3 hp1 hp2
end
@[simp] theorem u_sTryIs (T : Str → Option (Option Int)) (ie iv : Nat) (g : Vars → Out) (ρ : Vars) : sTryIs T ie iv g ρ = match g ρ with
  | .err c ρ' => match T c with
    | some (some n) => .nx (((ρ'.set ie none).set iv (some (.int n))).set ie none)
    | some none => .err c ρ'
    | none => .bad
  | o => o := rfl
end Pu
set_option Elab.async false
set_option linter.all false
set_option maxRecDepth 100000
set_option maxHeartbeats 4000000
namespace Pu
open PySem PySem.Spec PyProof.Rows L2
/-! ### defs with one default, a whole number; {} -/
section
variable {P : Program} {w : World} {K : PySem.W.Frag} {mg : Str → Option Value} {base : Heap}
/-- a def with the one default i -/
abbrev Fun1 (K : PySem.W.Frag) (x : Str) (st : Stmt) (i : Int) (f : Addr) (fd : FuncData) : Prop := FunD K x x (defArgs st) (defBody st) (defScope st) [V.int i] [] f fd
theorem fn_data1 {x : Str} {st : Stmt} {f : Addr} {fd : FuncData} {N ps : List Str} {k n : Nat} {i0 : Int} {own : List Nat} {g : Vars → Out} (F : Fun1 K x st i0 f fd) (S : FnScope N ps (defScope st)) (hn : ps.length = n) (ho : (own.all fun i => decide (n ≤ i)) = true)
    (hb : ∀ (cdv : Value) (A : Around) (outer : List Env) (s : Shared) (H : Hp) (E : XK), Room k (A.deeper (envOfC x (defScope st) s.heap.objs.size f cdv)) → BX (cxOf (L2.CX P w) P w K mg base N x (defScope st) f cdv A outer s H E) E own (defBody st) g) :
    FnOk P w K mg base (L2.CX P w) (k + 1) f fd ps (spD K mg n (fnD N.length g)) := by
  refine F.ok S (fun vs H Q E h => ?_) fun cdv A outer s H vs Q E hr h => ?_
  · rw [h.1]; exact hn.symm
  obtain ⟨hl, O, ds, hO, r, z⟩ := h
  obtain ⟨t, p, ht⟩ := hb cdv A outer s H E hr
  have hpl : ps.length ≤ N.length := by have := congrArg List.length S.pre; rw [List.length_take] at this; omega
  have hdl : ds.length = n := by rw [← r.length]; exact hl
  refine ⟨t, p, ht _ H _ Q H O O (start_rel hO r (by omega) fun i hi => by have := of_decide_eq_true (List.all_eq_true.mp ho i hi); omega) ?_⟩
  unfold fnD at z
  cases e : g (ds.map some ++ List.replicate (N.length - ds.length) none) with
  | nx ρ' => rw [e] at z; exact fun H' s' => z .non H' s' .non
  | rt d => rw [e] at z; exact z
  | err c ρ' => rw [e] at z; exact z
  | bk _ => rw [e] at z; exact z.elim
  | ct _ => rw [e] at z; exact z.elim
  | bad => rw [e] at z; exact z.elim
/-- a call that leaves the default i out -/
def CalX (P : Program) (w : World) (K : PySem.W.Frag) (mg : Str → Option Value) (base : Heap) (k : Nat) (x : Str) (n : Nat) (i : Int) (f : List PyData → R PyData) : Prop :=
  ∃ (fa : Addr) (fd : FuncData) (ps : List Str) (ds : List Value), ps.length = n + 1 ∧ FnOk P w K mg base (L2.CX P w) k fa fd ps (spD K mg (n + 1) f) ∧ mg x = some (.ref fa) ∧ PySem.W.keepIn K (.ref fa) = true ∧ Binds K fd ps ds ∧ Vals [V.int i] ds
theorem cal_data1 {x : Str} {st : Stmt} {f : Addr} {fd : FuncData} {N ps : List Str} {k n : Nat} {i0 : Int} {own : List Nat} {g : Vars → Out} (F : Fun1 K x st i0 f fd) (hm : mg x = some (.ref f)) (hbn : Binds K fd ps []) (S : FnScope N ps (defScope st)) (hn : ps.length = n) (ho : (own.all fun i => decide (n ≤ i)) = true)
    (hb : ∀ (cdv : Value) (A : Around) (outer : List Env) (s : Shared) (H : Hp) (E : XK), Room k (A.deeper (envOfC x (defScope st) s.heap.objs.size f cdv)) → BX (cxOf (L2.CX P w) P w K mg base N x (defScope st) f cdv A outer s H E) E own (defBody st) g) :
    Cal P w K mg base (k + 1) x n (fnD N.length g) := ⟨f, fd, ps, hn, fn_data1 F S hn ho hb, hm, F.kp, hbn⟩
theorem calX_data {x : Str} {st : Stmt} {f : Addr} {fd : FuncData} {N ps : List Str} {k n : Nat} {i0 : Int} {own : List Nat} {g : Vars → Out} (F : Fun1 K x st i0 f fd) (hm : mg x = some (.ref f)) (hbn : ∃ ds, Vals [V.int i0] ds ∧ Binds K fd ps ds) (S : FnScope N ps (defScope st)) (hn : ps.length = n + 1) (ho : (own.all fun i => decide (n + 1 ≤ i)) = true)
    (hb : ∀ (cdv : Value) (A : Around) (outer : List Env) (s : Shared) (H : Hp) (E : XK), Room k (A.deeper (envOfC x (defScope st) s.heap.objs.size f cdv)) → BX (cxOf (L2.CX P w) P w K mg base N x (defScope st) f cdv A outer s H E) E own (defBody st) g) :
    CalX P w K mg base (k + 1) x n i0 (fnD N.length g) := by
  obtain ⟨ds, h1, h2⟩ := hbn
  exact ⟨f, fd, ps, ds, hn, fn_data1 F S hn ho hb, hm, F.kp, h2, h1⟩
theorem cal_zero1 {x : Str} {st : Stmt} {f : Addr} {fd : FuncData} {ps : List Str} {n : Nat} {i0 : Int} (F : Fun1 K x st i0 f fd) (hm : mg x = some (.ref f)) (hbn : Binds K fd ps []) (hn : ps.length = n) : Cal P w K mg base 0 x n fun _ => .bad := by
  have no : ∀ vs H Q E, ¬ spD K mg n (fun _ => .bad) vs H Q E := fun vs H Q E h => by
    obtain ⟨_, _, _, _, _, z⟩ := h
    exact z
  exact ⟨f, fd, ps, hn, ⟨fun vs H Q E h => absurd h (no vs H Q E), fun A outer s H args us vs Q E _ _ _ _ h => absurd h (no vs H Q E)⟩, hm, F.kp, hbn⟩
theorem calX_zero {x : Str} {st : Stmt} {f : Addr} {fd : FuncData} {ps : List Str} {n : Nat} {i0 : Int} (F : Fun1 K x st i0 f fd) (hm : mg x = some (.ref f)) (hbn : ∃ ds, Vals [V.int i0] ds ∧ Binds K fd ps ds) (hn : ps.length = n + 1) : CalX P w K mg base 0 x n i0 fun _ => .bad := by
  have no : ∀ vs H Q E, ¬ spD K mg (n + 1) (fun _ => .bad) vs H Q E := fun vs H Q E h => by
    obtain ⟨_, _, _, _, _, z⟩ := h
    exact z
  obtain ⟨ds, h1, h2⟩ := hbn
  exact ⟨f, fd, ps, ds, hn, ⟨fun vs H Q E h => absurd h (no vs H Q E), fun A outer s H args us vs Q E _ _ _ _ h => absurd h (no vs H Q E)⟩, hm, F.kp, h2, h1⟩
end
section
variable {X : Cx} {W : WX}
theorem rps_app {K : PySem.W.Frag} {H : Hp} {z : V} {e : PyData} (q : Rp K H z e) : ∀ {vs : List V} {ds : List PyData}, Rps K H vs ds → Rps K H (vs ++ [z]) (ds ++ [e])
  | _, _, .nil => .cons q .nil
  | _, _, .cons h r => .cons h (rps_app q r)
theorem ex_fnX {k n : Nat} {i0 : Int} {x : Str} {g : List PyData → R PyData} {e : Expr} {es : List Expr} {f : Vars → R (List PyData)} {p pos : Pos} (tk : Takes X W) (F : CalX X.prog X.w X.K X.mg X.base k x n i0 g) (hr : Room k X.A) (hg : Gl X x) (ha : AX X W (e :: es) f) (hn : es.length + 1 = n)
    (hdb : (x == ("__debug__" : Str)) = false := by decide) (he : starEach (e :: es) X.env = (false, eval e X.env) :: starEach es X.env := by rfl) (hpl : (backTo pos (starEach es X.env)).any (·.1) = false := by rfl) (hlen : ∀ ρ ds, f ρ = .ok ds → ds.length = n) :
    EX X W (.Call (.Name x p) (e :: es) [] pos) (eFn (fun ds => g (ds ++ [.int i0])) f) := by
  obtain ⟨fa, fd, ps, dv, h1, h2, h3, h4, h5, h6⟩ := F
  obtain ⟨t, q, ht⟩ := ha
  refine ⟨_, pe_callSD h2 hr hg h3 h4 h5 h6 (fun σ => passAt tk σ) q hdb he hpl, fun σ H O ρ Q hO hv z => ht σ H O ρ _ hO hv ?_⟩
  unfold eFn at z
  cases e1 : f ρ with
  | bad => rw [e1] at z; exact z
  | err c => rw [e1] at z; exact z
  | ok ds =>
    rw [e1] at z
    intro vs H1 s1 r1
    refine ⟨by rw [List.length_append, r1.length, hlen ρ ds e1]; rfl, O, ds ++ [.int i0], hO.same s1, rps_app (.int i0) r1, ?_⟩
    cases e2 : g (ds ++ [.int i0]) with
    | bad => rw [R.bind_ok, e2] at z; exact z.elim
    | err c => rw [R.bind_ok, e2] at z; exact fun H' s' => z H' (s1.trans s')
    | ok d => rw [R.bind_ok, e2] at z; exact fun v H' s' r' => z v H' (s1.trans s') r'
theorem ex_dict0 {pos : Pos} : EX X W (.Dict [] [] pos) (eC (.dict [])) := by
  refine ⟨_, pe_dnewK, fun σ H O ρ Q hO hv z p hp => ?_⟩
  exact z (.ref p) _ (same_new hp) (.dic (hide_of (hO.new hp) upd_same) .nil)
end
theorem fun1_mk {K : PySem.W.Frag} {x : Str} {st : Stmt} {i : Int} {f T : Addr} {oc : Value} {od an : Option Addr} {kV dc pm cd ct ocT : Value} {sl slT : Array (Option Value)} {odT : Option Addr} {nT : Nat} {tk : Tok}
    (lk : K.lookup f = some ⟨oc, od, .func (PySem.W.fnOf x x (defArgs st) (defBody st) (defScope st) (.ref T) kV dc pm an cd ct), sl⟩) (c : PySem.W.codeIn K cd x = true) (kp : PySem.W.keepIn K (.ref f) = true) (lT : K.lookup T = some ⟨ocT, odT, .seq #[.int i tk] nT, slT⟩) :
    Fun1 K x st i f (PySem.W.fnOf x x (defArgs st) (defBody st) (defScope st) (.ref T) kV dc pm an cd ct) :=
  ⟨⟨oc, od, .ref T, kV, dc, pm, an, cd, ct, sl, rfl, lk, c, Or.inr ⟨by simp, T, _, [.int i tk], nT, rfl, lT, rfl, .cons ⟨tk, rfl⟩ .nil⟩, Or.inl rfl⟩, kp⟩
theorem fun1_all {K : PySem.W.Frag} {x : Str} {st : Stmt} {i : Int} {f : Addr} {fd : FuncData} {ps : List Str} {n : Nat} (F : Fun1 K x st i f fd) (hn : ps.length = n)
    (h : ∀ (T : Addr) (kV doc pm : Value) (an : Option Addr) (cdv ct : Value) (us its : List Value), us.length = n → its.length = 1 →
      ∃ k, bindArgs (PySem.W.fnOf x x (defArgs st) (defBody st) (defScope st) (.ref T) kV doc pm an cdv ct) ⟨us, []⟩ = seqItems? (.ref T) >>= k ∧ k (some its.toArray) = pure (ps.zip (us ++ its.drop 1))) : Binds K fd ps [] := by
  obtain ⟨ds, h1, h2⟩ := FunD.binds1 F n 1 (by simp) (by simp [hn]) h
  cases h1
  exact h2
theorem fun1_one {K : PySem.W.Frag} {x : Str} {st : Stmt} {i : Int} {f : Addr} {fd : FuncData} {ps : List Str} {n : Nat} (F : Fun1 K x st i f fd) (hn : ps.length = n + 1)
    (h : ∀ (T : Addr) (kV doc pm : Value) (an : Option Addr) (cdv ct : Value) (us its : List Value), us.length = n → its.length = 1 →
      ∃ k, bindArgs (PySem.W.fnOf x x (defArgs st) (defBody st) (defScope st) (.ref T) kV doc pm an cdv ct) ⟨us, []⟩ = seqItems? (.ref T) >>= k ∧ k (some its.toArray) = pure (ps.zip (us ++ its.drop 0))) : ∃ ds, Vals [V.int i] ds ∧ Binds K fd ps ds :=
  FunD.binds1 F n 0 (by simp) (by simp [hn]) h
end Pu
set_option Elab.async false
set_option linter.all false
set_option maxRecDepth 100000
set_option maxHeartbeats 4000000
namespace Pu
open PySem PySem.Spec PyProof.Rows L2
/-! ### range(a, b, c) -/
def okC (c : Int) : Bool := (decide (c.natAbs < 1073741824) && decide (c.natAbs ≠ 0))
def rngN (i j c : Int) : Nat := (Builtin.Range.rangeSize i j c).toNat
def rngC (lo c : Int) (n : Nat) : List PyData := (List.range n).map fun i => .int (lo + (i : Nat) * c)
theorem rngC_get {lo c : Int} {n i : Nat} : (rngC lo c n)[i]? = if i < n then some (.int (lo + (i : Nat) * c)) else none := by
  unfold rngC
  rw [List.getElem?_map]
  by_cases h : i < n
  · rw [if_pos h, List.getElem?_range h]; rfl
  · rw [if_neg h, List.getElem?_eq_none (by simpa using h)]; rfl
theorem rngC_len {lo c : Int} {n : Nat} : (rngC lo c n).length = n := by simp [rngC]
theorem iterC {K : PySem.W.Frag} {F : Hp} {lo c : Int} {n : Nat} : IterOk K (Itc lo c n) F (rngC lo c n) := fun i H O hO s => by
  refine ⟨fun d e => ?_, fun l => by rw [rngC_len] at l; exact l⟩
  rw [rngC_get] at e
  by_cases h : i < n
  · rw [if_pos h] at e
    cases e
    refine ⟨h, fun x H' y => ?_⟩
    obtain ⟨rfl, rfl⟩ := y
    exact ⟨Same.refl _, .int _⟩
  · rw [if_neg h] at e; cases e
theorem small_of {i j c : Int} (h1 : -(2 ^ 62) ≤ i ∧ i < 2 ^ 62) (h2 : -(2 ^ 62) ≤ j ∧ j < 2 ^ 62) (h3 : c.natAbs < 1073741824) : Builtin.Range.small i j c = true := by
  have e := rangeSize_toNat i j c
  have l := rangeSize_toNat_le i j c
  obtain ⟨n, hn⟩ : ∃ n, Builtin.Range.rangeSize i j c = n := ⟨_, rfl⟩
  rw [hn] at e l
  have n0 : 0 ≤ n := by omega
  have n1 : n < 2 ^ 63 := by omega
  unfold Builtin.Range.small
  rw [hn]
  simp only [Builtin.Range.rangeFitsLong, Bool.and_eq_true, Bool.or_eq_true, decide_eq_true_eq, beq_iff_eq]
  refine ⟨⟨⟨⟨⟨by omega, by omega⟩, ⟨by omega, by omega⟩⟩, ⟨by omega, by omega⟩⟩, ⟨by omega, by omega⟩⟩, Or.inr ?_⟩
  split <;> simp only [Bool.and_eq_true, decide_eq_true_eq] <;> omega
theorem rgC_of {i j c : Int} (h1 : okI i = true) (h2 : okI j = true) (h3 : okC c = true) : RgC i j c (rngN i j c) := by
  unfold okC at h3
  rw [Bool.and_eq_true] at h3
  have a1 := of_decide_eq_true h3.1
  have a2 := of_decide_eq_true h3.2
  exact ⟨by omega, a1, small_of (okI_of h1) (okI_of h2) a1, rangeSize_toNat i j c⟩
def iRange3 (f : Vars → R (List PyData)) (ρ : Vars) : R (List PyData) := (f ρ).bind fun ds => match ds with
  | [.int i, .int j, .int c] => if (okI i && okI j && okC c) = true then .ok (rngC i c (rngN i j c)) else .bad
  | _ => .bad
section
variable {X : Cx} {W : WX} {tg : Expr}
theorem ix_range3 {a b c : Expr} {f : Vars → R (List PyData)} {p pos : Pos} (hg : Gl X "range") (hm : X.mg "range" = none) (ha : AX X W [a, b, c] f)
    (hs : starEach [a, b, c] X.env = (false, eval a X.env) :: starEach [b, c] X.env := by rfl) (hpl : (backTo pos (starEach [b, c] X.env)).any (·.1) = false := by rfl) (hl : ∀ ρ ds, f ρ = .ok ds → ds.length = 3) : IX X W tg (.Call (.Name "range" p) [a, b, c] [] pos) (iRange3 f) := by
  obtain ⟨t, q, ht⟩ := ha
  refine ⟨_, pi_range3 hg hm q hs hpl, fun σ H O ρ Q hO hv z => ht σ H O ρ _ hO hv ?_⟩
  unfold iRange3 at z
  cases e : f ρ with
  | bad => rw [e] at z; exact z
  | err c => rw [e] at z; exact z
  | ok ds =>
    rw [e, R.bind_ok] at z
    have l := hl ρ ds e
    intro vs H1 s1 r1
    match ds, l, r1, z with
    | [d1, d2, d3], _, r1, z =>
      obtain ⟨v, w, x, rfl, rv, rw', rx⟩ := rps_three r1
      cases rv with
      | int i =>
        cases rw' with
        | int j =>
          cases rx with
          | int c =>
            by_cases c0 : (okI i && okI j && okC c) = true
            · simp only [if_pos c0] at z
              rw [Bool.and_eq_true, Bool.and_eq_true] at c0
              exact ⟨i, j, c, _, rfl, rgC_of c0.1.1 c0.1.2 c0.2, z _ H1 s1 iterC⟩
            · simp only [if_neg c0] at z
          | _ => exact z.elim
        | _ => exact z.elim
      | _ => exact z.elim
end
@[simp] theorem u_iRange3 (f : Vars → R (List PyData)) (ρ : Vars) : iRange3 f ρ = (f ρ).bind fun ds => match ds with
  | [.int i, .int j, .int c] => if (okI i && okI j && okC c) = true then .ok (rngC i c (rngN i j c)) else .bad
  | _ => .bad := rfl
/-! ### l.extend(t), t a tuple -/
theorem list_extend_tup (l : Addr) (items : Array Value) (n : Nat) (b : Addr) (items2 : Array Value) (n2 : Nat) (dd : Option Addr) (sl : Array (Option Value)) (hs0 : ¬(!items.isEmpty && Builtin.List.listTooLong (items.size + items2.size)) = true) (hs1 : items.size ≤ sizeLine) (hs2 : items.size + items2.size ≤ sizeLine + 1) :
    Meets (Builtin.«list.extend» ⟨[.ref l, .ref b], []⟩) (fun _ R s => s.heap.get? l = some { cls := .type "list", dict := none, data := .seq items n, slots := #[] } ∧ s.heap.get? b = some { cls := .type "tuple", dict := dd, data := .seq items2 n2, slots := sl } ∧ R (.ok (.ret Value.none)) { s with heap := s.heap.update l (Obj.mapSeq fun x => x ++ items2), toks := s.toks }) :=
  .of_wp fun prog w A R s h => by
    obtain ⟨hp, g, d, tk, os⟩ := s; obtain ⟨hl, hb, h⟩ := h; have f1 := PySem.AutoSeq1.idx_int; have f2 := PySem.AutoSeq1.sub_tuple_tuple; have f3 := PySem.AutoSeq1.sub_list_list; have f4 := PySem.AutoSeq1.sub_tuple_list; have f5 := PySem.AutoSeq1.sub_list_tuple
    have hz' : (items ++ items2).size ≤ sizeLine + 1 := by rw [Array.size_append]; exact hs2
    wp_walk using (wpAny_updateSeq hl rfl (hz := hs1) (_hz' := hz')), PySem.AutoSeq1.wpAny_loadPart' hl, PySem.AutoSeq1.wpAny_loadPart' hb; exact ⟨_, rfl, h⟩
def rExtendT (K : PySem.W.Frag) : V → List V → Hp → VK → Prop := fun x vs H Q => ∃ l b xs zs, x = .ref l ∧ vs = [.ref b] ∧ H l = some (.lst xs) ∧ SqT K H b zs ∧ xs.length + zs.length ≤ sizeLine ∧ Q .non (upd H l (.lst (xs ++ zs)))
theorem mt_extendT {X : Cx} : MtM X "list.extend" (rExtendT X.K) := by
  intro pins s σ H x vs v us Q I rx rv h
  obtain ⟨l, b, xs, zs, rfl, rfl, hH, hB, hz, q⟩ := h
  cases rx
  obtain ⟨u, rfl, ru⟩ := rv.one
  cases ru
  obtain ⟨z, its, n, r, hl, e⟩ := I.lstM hH
  obtain ⟨its2, r2, ⟨o2, e2, hc2, n2, hd2⟩, hl2⟩ := I.tuple hB
  have l2 : its2.length = zs.length := r2.length.symm
  have l1 : its.length = xs.length := r.length.symm
  have hsz : its.toArray.size + its2.toArray.size ≤ sizeLine := by rw [List.size_toArray, List.size_toArray]; omega
  have hlong : ¬ (!its.toArray.isEmpty && Builtin.List.listTooLong (its.toArray.size + its2.toArray.size)) = true := by
    rw [notLongL hsz, Bool.and_false]
    exact Bool.false_ne_true
  obtain ⟨oc, od, oda, osl⟩ := o2
  dsimp only at hc2 hd2
  subst hc2 hd2
  refine call_meets F.slot_list_extend ⟨_, e, rfl⟩ F.entry_list_extend (F.args_list_extend_2 _ _)
    (list_extend_tup l its.toArray n b its2.toArray n2 od osl hlong (by rw [List.size_toArray]; omega) (by omega)) ⟨e, e2, ?_⟩
  refine ⟨.non, _, I.lset (its' := its ++ its2) hH e (by simp) (r.append r2) ?_, rfl, q⟩
  rw [List.length_append]
  omega
def sExtM (own : List Nat) (i : Nat) (f : Vars → R PyData) (ρ : Vars) : Out := match ρ.getD i none with
  | some (.list ds) => (f (mask own ρ)).run ρ fun d => match d with
    | .tuple es => if ds.length + es.length ≤ sizeLine then .nx (ρ.set i (some (.list (ds ++ es)))) else .bad
    | _ => .bad
  | _ => .bad
section
variable {X : Cx} {W : WX} {own : List Nat} {i : Nat} {x : Str} {e : Expr} {f : Vars → R PyData} {p apos cpos pos : Pos}
theorem sx_extM (h : EX X W e f) (ho : own.contains i = true) (hN : X.N[i]? = some x := by rfl) (hv : Vis X.env.scope x := by first | exact Or.inl rfl | exact Or.inr (Or.inl rfl) | exact Or.inr (Or.inr rfl)) (hd : (x == ("__debug__" : Str)) = false := by decide)
    (hcd : (x == ("__classdict__" : Str)) = false := by decide)
    (hbase : attributeBase (.Name x p) "extend" X.env (eval (.Name x p) X.env) = eval (.Name x p) X.env := by rfl)
    (hfew : ((backTo cpos (starEach [e] X.env)).all (fun x => !x.1) && (backToKw cpos (keywordEach [] X.env)).all (fun x => x.1.isSome)
      && decide (([e] : List Expr).length + ([] : List Keyword).length + (if ([] : List Keyword).isEmpty then 0 else 1) < 30)) = true := by rfl)
    (hline : (apos.endLine == cpos.line) = true := by rfl) (hs : starEach [e] X.env = (false, eval e X.env) :: starEach [] X.env := by rfl) (hplain : (backTo cpos (starEach [] X.env)).any (·.1) = false := by rfl)
    (hsw : swapsWith (.Call (.Attribute (.Name x p) "extend" apos) [e] [] cpos) none pos.line X.env = pure false := by rfl) :
    SX X W own (.Expr (.Call (.Attribute (.Name x p) "extend" apos) [e] [] cpos) pos) (sExtM own i f) := by
  obtain ⟨t, q, ht⟩ := h
  have hi : i ∈ own := List.contains_iff_mem.mp ho
  refine ⟨_, ps_expr (pe_bm PySem.F.plainAttrs_list PySem.F.slot_list_extend PySem.F.type_list_extend mt_extendT (pe_var hN hv hd hcd) (pa_cons q pa_nil hs) hbase hfew hline hs hplain) hsw, fun σ H ρ D H0 O0 O r z => ?_⟩
  unfold sExtM at z
  obtain ⟨ds, e1, z⟩ := getD_list z
  obtain ⟨a, vs, g1, g2, g3, g4, g5⟩ := own_list hi r e1
  refine ⟨.ref a, g1, .inl ⟨rfl, vs, .inl (.inl g4)⟩, ht σ H O _ _ r.stands r.vrelM (EOut.run r z fun d v H' s rv z' r' => ?_)⟩
  cases rv with
  | @tup b xs es hx rs =>
    dsimp only at z'
    by_cases c : ds.length + es.length ≤ sizeLine
    · rw [if_pos c] at z'
      obtain ⟨r2, sF⟩ := r'.write hi (getD_some e1) g1 g2 g3 (s _ _ g4) ((g5.mono (hide_same s)).append rs)
      exact ⟨a, b, vs, xs, rfl, rfl, s _ _ g4, seqT hide_sub hx, by rw [g5.length, rs.length]; exact c, z' σ _ O r2 sF⟩
    · rw [if_neg c] at z'; exact z'.elim
  | _ => exact z'.elim
end
@[simp] theorem u_sExtM (own : List Nat) (i : Nat) (f : Vars → R PyData) (ρ : Vars) : sExtM own i f ρ = match ρ.getD i none with
  | some (.list ds) => (f (mask own ρ)).run ρ fun d => match d with
    | .tuple es => if ds.length + es.length ≤ sizeLine then .nx (ρ.set i (some (.list (ds ++ es)))) else .bad
    | _ => .bad
  | _ => .bad := rfl
end Pu
set_option Elab.async false
set_option linter.all false
set_option maxRecDepth 100000
namespace Pu
open PySem
-- k21 k22 k23 k24 k25 k27 k28 k29 k30 k62 k63 k64 k65 k66 k69 k71 k72 k73 k75 k76 k81 k83 k84 slots 7 params 2
def G_times (c0 : Nat) (S : Nat → List PyData → R PyData) : Vars → Out :=
  (sSeq (sIf (tOf (eOp gEq (eVar 0) (eTup aNil))) (sRet (eTup aNil)) sNil)
    (sSeq (sAsg [4] (gtTup 2 (gtCons (gtName 2) (gtCons (gtName 3) gtNil))) (eOp gIx (eVar 0) (eC (.int 0))))
    (sSeq (sNew [4] 4 (nLst aNil))
    (sSeq (sFor [4] (iSeq (eVar 1)) (gtTup 2 (gtCons (gtName 5) (gtCons (gtName 6) gtNil))) (sIf (tOf (eOp gEq (eVar 5) (eTup aNil))) (sSeq (sAppM [4] 4 (eTup (aCons (eVar 2) (aCons (eOp gMul (eVar 3) (eVar 6)) aNil)))) (sExtM [4] 4 (eSl (eVar 0) (oSome (eC (.int 1))) oNone))) (sAppM [4] 4 (eTup (aCons (eFn (S c0) (aCons (eVar 2) (aCons (eVar 5) aNil))) (aCons (eVar 6) aNil))))))
    (sRet (eCall gTuple (aCons (eVar 4) aNil)))))))
-- k21 k22 k23 k24 k25 k26 k27 k28 k30 k31 k32 k33 k34 k35 k36 k37 slots 3 params 2
def G_l_mixed (S : Nat → List PyData → R PyData) : Vars → Out :=
  (sSeq (sSet [] 2 (eOp gMod (eOp gAdd (eOp gMod (eVar 0) (eC (.int 2147483629))) (eOp gMul (eC (.int 48271)) (eOp gAdd (eVar 1) (eC (.int 1))))) (eC (.int 2147483647))))
    (sSeq (sSet [] 2 (eOp gMod (eOp gAdd (eOp gAdd (eOp gMul (eVar 2) (eVar 2)) (eOp gMul (eC (.int 69621)) (eVar 1))) (eC (.int 7))) (eC (.int 2147483587))))
    (sRet (eOp gMod (eOp gMul (eVar 2) (eVar 2)) (eC (.int 2147483579))))))
-- k21 k22 k23 k24 k25 k26 k27 k28 k29 k30 k31 k32 k33 k34 k35 k36 k37 slots 5 params 2
def G_l_order (c0 : Nat) (S : Nat → List PyData → R PyData) : Vars → Out :=
  (sSeq (sFor [] (iZipD (aCons (eVar 0) (aCons (eVar 1) aNil))) (gtTup 2 (gtCons (gtName 2) (gtCons (gtName 3) gtNil))) (sSeq (sSet [] 4 (eFn (S c0) (aCons (eOp gIx (eVar 2) (eC (.int 0))) (aCons (eOp gIx (eVar 3) (eC (.int 0))) aNil)))) (sSeq (sIf (tOf (eOp gNe (eVar 4) (eC (.int 0)))) (sRet (eVar 4)) sNil) (sIf (tOf (eOp gNe (eOp gIx (eVar 2) (eC (.int 1))) (eOp gIx (eVar 3) (eC (.int 1))))) (sRet (eOp gSub (eC (.int 1)) (eOp gMul (eC (.int 2)) (eCall gIntC (aCons (eOp gLt (eOp gIx (eVar 2) (eC (.int 1))) (eOp gIx (eVar 3) (eC (.int 1)))) aNil))))) sNil))))
    (sRet (eOp gSub (eCall gIntC (aCons (eOp gGt (eCall gLen (aCons (eVar 0) aNil)) (eCall gLen (aCons (eVar 1) aNil))) aNil)) (eCall gIntC (aCons (eOp gLt (eCall gLen (aCons (eVar 0) aNil)) (eCall gLen (aCons (eVar 1) aNil))) aNil)))))
-- k21 k22 k23 k24 k25 k26 k27 k28 k29 k31 k32 k35 k36 slots 3 params 1
def G_l_number (c0 c1 : Nat) (S : Nat → List PyData → R PyData) : Vars → Out :=
  (sSeq (sIf (tNotR (tTru (eIsi "tuple" (eVar 0)))) (sRet (eC (.bool false))) sNil)
    (sSeq (sFor [] (iSeq (eVar 0)) (gtName 1) (sSeq (sIf (tOrR (tNotR (tTru (eIsi "tuple" (eVar 1)))) (tOrR (tOf (eOp gNe (eCall gLen (aCons (eVar 1) aNil)) (eC (.int 2)))) (tNotR (tTru (eFn (S c0) (aCons (eOp gIx (eVar 1) (eC (.int 0))) aNil)))))) (sRet (eC (.bool false))) sNil) (sIf (tOrR (tNotR (tTru (eIsi "int" (eOp gIx (eVar 1) (eC (.int 1)))))) (tOrR (tTru (eIsi "bool" (eOp gIx (eVar 1) (eC (.int 1))))) (tOf (eOp gLt (eOp gIx (eVar 1) (eC (.int 1))) (eC (.int 1)))))) (sRet (eC (.bool false))) sNil)))
    (sSeq (sFor [] (iRange (aCons (eC (.int 1)) (aCons (eCall gLen (aCons (eVar 0) aNil)) aNil))) (gtName 2) (sIf (tOf (eOp gNe (eFn (S c1) (aCons (eOp gIx (eOp gIx (eVar 0) (eOp gSub (eVar 2) (eC (.int 1)))) (eC (.int 0))) (aCons (eOp gIx (eOp gIx (eVar 0) (eVar 2)) (eC (.int 0))) aNil))) (eC (.int 1)))) (sRet (eC (.bool false))) sNil))
    (sRet (eC (.bool true))))))
-- k21 k22 k23 k24 k25 k26 k27 k28 k30 k31 k32 k33 k34 k35 k36 k37 slots 3 params 2
def G_l_put (c0 : Nat) (S : Nat → List PyData → R PyData) : Vars → Out :=
  (sSeq (sSet [] 2 (eC (.int 0)))
    (sSeq (whileL (tAndR (tOf (eOp gLt (eVar 2) (eCall gLen (aCons (eVar 0) aNil)))) (tOf (eOp gEq (eFn (S c0) (aCons (eOp gIx (eOp gIx (eVar 0) (eVar 2)) (eC (.int 0))) (aCons (eOp gIx (eVar 1) (eC (.int 0))) aNil))) (eC (.int 1))))) (sSet [] 2 (eOp gAdd (eVar 2) (eC (.int 1)))) wfuel)
    (sSeq (sIf (tAndR (tOf (eOp gLt (eVar 2) (eCall gLen (aCons (eVar 0) aNil)))) (tOf (eOp gEq (eOp gIx (eOp gIx (eVar 0) (eVar 2)) (eC (.int 0))) (eOp gIx (eVar 1) (eC (.int 0)))))) (sRet (eVar 0)) sNil)
    (sRet (eOp gAdd (eOp gAdd (eSl (eVar 0) oNone (oSome (eVar 2))) (eLst (aCons (eVar 1) aNil))) (eSl (eVar 0) (oSome (eVar 2)) oNone))))))
-- k21 k22 k23 k24 k25 k26 k27 k28 k30 k31 k32 k33 k34 k35 k36 k37 slots 2 params 1
def G_l_many (S : Nat → List PyData → R PyData) : Vars → Out :=
  (sSeq (sSet [] 1 (eOp gMod (eVar 0) (eC (.int 6))))
    (sSeq (sSet [] 0 (eOp gDiv (eVar 0) (eC (.int 6))))
    (sSeq (sIf (tOf (eOp gEq (eVar 1) (eC (.int 0)))) (sRet (eOp gAdd (eC (.int 1)) (eOp gMod (eVar 0) (eC (.int 1000))))) sNil)
    (sSeq (sIf (tOf (eOp gEq (eVar 1) (eC (.int 1)))) (sRet (eOp gAdd (eC (.int 1)) (eOp gMod (eOp gMul (eVar 0) (eVar 0)) (eOp gPow (eC (.int 10)) (eC (.int 15)))))) sNil)
    (sRet (eOp gAdd (eC (.int 1)) (eOp gMod (eVar 0) (eC (.int 3)))))))))
-- k21 k22 k23 k24 k25 k26 k27 k28 k30 k31 k32 k33 k34 k35 k36 k37 slots 6 params 2
def G_l_drawn (c0 c1 c2 c3 : Nat) (S : Nat → List PyData → R PyData) : Vars → Out :=
  (sSeq (sSet [] 2 (eLst aNil))
    (sSeq (sFor [] (iRange (aCons (eOp gIx (eLst (aCons (eC (.int 0)) (aCons (eC (.int 1)) (aCons (eC (.int 1)) (aCons (eC (.int 2)) (aCons (eC (.int 2)) (aCons (eC (.int 3)) aNil))))))) (eOp gMod (eOp gDiv (eFn (S c0) (aCons (eVar 0) (aCons (eC (.int 0)) aNil))) (eC (.int 5))) (eC (.int 6)))) aNil)) (gtName 3) (sSeq (sSet [] 4 (eFn (S c0) (aCons (eVar 0) (aCons (eOp gAdd (eVar 3) (eC (.int 1))) aNil)))) (sSeq (sSet [] 5 (eTup aNil)) (sSeq (sIf (tOf (eOp gGt (eVar 1) (eC (.int 0)))) (sSet [] 5 (eFn (S c1) (aCons (eOp gDiv (eVar 4) (eC (.int 5))) (aCons (eOp gSub (eVar 1) (eC (.int 1))) aNil)))) sNil) (sSet [] 2 (eFn (S c2) (aCons (eVar 2) (aCons (eTup (aCons (eVar 5) (aCons (eFn (S c3) (aCons (eOp gDiv (eVar 4) (eC (.int 7))) aNil)) aNil))) aNil))))))))
    (sRet (eCall gTuple (aCons (eVar 2) aNil)))))
-- k21 k22 k23 k24 k26 k27 k31 k32 k33 k34 k35 k36 k37 slots 2 params 1
def G_l_great (c0 : Nat) (S : Nat → List PyData → R PyData) : Vars → Out :=
  (sSeq (sSet [] 1 (eOp gMod (eOp gDiv (eVar 0) (eC (.int 6))) (eOp gPow (eC (.int 10)) (eC (.int 25)))))
    (sSeq (sIf (tOf (eOp gEq (eOp gMod (eFn (S c0) (aCons (eVar 0) (aCons (eC (.int 8)) aNil))) (eC (.int 2))) (eC (.int 0)))) (sRet (eOp gAdd (eC (.int 1)) (eOp gMod (eVar 1) (eC (.int 100))))) sNil)
    (sRet (eOp gAdd (eC (.int 1)) (eOp gMod (eOp gMul (eOp gAdd (eVar 1) (eC (.int 7))) (eOp gAdd (eOp gAdd (eOp gPow (eC (.int 10)) (eC (.int 24))) (eOp gMul (eC (.int 7)) (eVar 1))) (eC (.int 39)))) (eOp gPow (eC (.int 10)) (eC (.int 50))))))))
-- k21 k22 k23 k24 k26 k27 k31 k32 k33 k34 k35 k36 k37 slots 5 params 2
def G_l_number_by (c0 c1 c2 : Nat) (S : Nat → List PyData → R PyData) : Vars → Out :=
  (sSeq (sSet [] 2 (eFn (S c0) (aCons (eVar 0) (aCons (eOp gMod (eFn (S c1) (aCons (eVar 1) (aCons (eC (.int 9)) aNil))) (eC (.int 4))) aNil))))
    (sSeq (sSet [] 3 (eFn (S c2) (aCons (eVar 1) aNil)))
    (sSeq (sIf (tOf (eOp gEq (eOp gMod (eVar 1) (eC (.int 6))) (eC (.int 0)))) (sSet [] 2 (eOp gAdd (eCall gTuple (aCons (eLc (iSeq (eVar 2)) (gtName 4) (tOf (eOp gNe (eOp gIx (eVar 4) (eC (.int 0))) (eTup aNil))) (eVar 4) [4]) aNil)) (eTup (aCons (eTup (aCons (eTup aNil) (aCons (eVar 3) aNil))) aNil)))) sNil)
    (sSeq (sIf (tAndR (tOf (eOp gEq (eOp gMod (eVar 1) (eC (.int 6))) (eC (.int 1)))) (tOf (eOp gNe (eVar 2) (eTup aNil)))) (sSet [] 2 (eOp gAdd (eTup (aCons (eTup (aCons (eOp gIx (eOp gIx (eVar 2) (eC (.int 0))) (eC (.int 0))) (aCons (eVar 3) aNil))) aNil)) (eSl (eVar 2) (oSome (eC (.int 1))) oNone))) sNil)
    (sSeq (sIf (tOf (eOp gEq (eOp gMod (eVar 1) (eC (.int 6))) (eC (.int 2)))) (sSet [] 2 (eTup (aCons (eTup (aCons (eVar 2) (aCons (eOp gAdd (eC (.int 1)) (eOp gMod (eVar 3) (eC (.int 3)))) aNil))) aNil))) sNil)
    (sSeq (sIf (tOf (eOp gEq (eOp gMod (eVar 1) (eC (.int 6))) (eC (.int 3)))) (sSet [] 2 (eCall gTuple (aCons (eLc (iSeq (eVar 2)) (gtName 4) (tOf (eOp gNe (eOp gIx (eVar 4) (eC (.int 0))) (eTup aNil))) (eVar 4) [4]) aNil))) sNil)
    (sRet (eVar 2))))))))
end Pu
set_option Elab.async false
set_option linter.all false
set_option maxRecDepth 100000
set_option maxHeartbeats 4000000
namespace Nm
open PySem Pu O L2
/-! ### numbers drawn from cells -/
def CellOk (F : Fn) : Prop := ∀ (ns : List Int) (j : Int), 0 ≤ j → ∃ v, F [.list (ns.map .int), .int j] = .ok (.int v)
theorem cell_at_step (S : Nat → Fn) : CellOk (fun ds => fnD 2 (G_l_cell_at S) ds) := by
  intro ns j hj
  obtain ⟨k, rfl⟩ := Int.eq_ofNat_of_zero_le hj
  by_cases q : k < ns.length
  · obtain ⟨v, hv⟩ := atI_int q
    have q' : (k : Int) < (ns.length : Int) := by omega
    refine ⟨v, fnD_of ?_⟩
    unfold G_l_cell_at
    simp [q, hv]
  · have q' : ¬ (k : Int) < (ns.length : Int) := by omega
    refine ⟨0, fnD_of ?_⟩
    unfold G_l_cell_at
    simp [q]
def MixOk (F : Fn) : Prop := ∀ c k : Int, 0 ≤ k → k ≤ 1000 → ∃ r : Int, F [.int c, .int k] = .ok (.int r) ∧ 0 ≤ r ∧ r < 2147483579
theorem mixed_step (S : Nat → Fn) : MixOk (fun ds => fnD 3 (G_l_mixed S) ds) := by
  intro c k k0 k1
  have m1 : ∀ i : Int, cMod i 2147483629 = true ∧ cMod i 2147483647 = true ∧ cMod i 2147483587 = true ∧ cMod i 2147483579 = true := fun i => ⟨cMod_of (by decide), cMod_of (by decide), cMod_of (by decide), cMod_of (by decide)⟩
  have m2 : cMul 48271 (k + 1) = true := cMul_of 100 100 (by decide) (by omega) (by decide) (by decide) (by decide)
  have m3 : cMul 69621 k = true := cMul_of 100 100 (by decide) (by omega) (by decide) (by decide) (by decide)
  obtain ⟨x, hx⟩ : ∃ x : Int, (c % 2147483629 + 48271 * (k + 1)) % 2147483647 = x := ⟨_, rfl⟩
  have x0 : 0 ≤ x := by rw [← hx]; exact Int.emod_nonneg _ (by decide)
  have x1 : x < 2147483647 := by rw [← hx]; exact Int.emod_lt_of_pos _ (by decide)
  have m4 : cMul x x = true := cMul_of 100 100 (by omega) (by omega) (by decide) (by decide) (by decide)
  obtain ⟨y, hy⟩ : ∃ y : Int, (x * x + 69621 * k + 7) % 2147483587 = y := ⟨_, rfl⟩
  have y0 : 0 ≤ y := by rw [← hy]; exact Int.emod_nonneg _ (by decide)
  have y1 : y < 2147483587 := by rw [← hy]; exact Int.emod_lt_of_pos _ (by decide)
  have m5 : cMul y y = true := cMul_of 100 100 (by omega) (by omega) (by decide) (by decide) (by decide)
  refine ⟨y * y % 2147483579, fnD_of ?_, Int.emod_nonneg _ (by decide), Int.emod_lt_of_pos _ (by decide)⟩
  unfold G_l_mixed
  simp [m1, m2, m3, hx, m4, hy, m5]
theorem l_order_step {S : Nat → Fn} {c0 k : Nat} (h : CmpOk k (S c0)) : CmpOk (k + 1) (fun ds => fnD 5 (G_l_order c0 S) ds) := by
  intro a b ha
  refine fnD_of ?_
  unfold G_l_order
  have m0 : cMul 2 0 = true := cMul_of 10 10 (by decide) (by decide) (by decide) (by decide) (by decide)
  have m1 : cMul 2 1 = true := cMul_of 10 10 (by decide) (by decide) (by decide) (by decide) (by decide)
  simp only [u_sSeq, u_sFor, mask_nil, u_iZipD, u_aCons, u_aNil, u_eVar, List.map_cons, List.map_nil, List.length_cons, List.length_nil, List.cons_append, List.nil_append, List.replicate, List.getD_cons_zero, List.getD_cons_succ, R.of_some, R.bind_ok, R.run_ok, Nat.reduceAdd, Nat.reduceSub, Nat.zero_add]
  refine zip_then (k := k) (fun e n e' n' s he => ⟨some (.int (cmp e e')), ?_⟩) ha (fun c => ?_) (fun c x y s => ?_)
  · have hc := h e e' he
    by_cases c1 : cmp e e' = 0
    · rcases Int.lt_trichotomy n n' with c2 | c2 | c2
      · have c3 : ¬ n' < n := by omega
        have c4 : n ≠ n' := by omega
        simp [hc, c1, c2, c3, c4, lead, m0, m1]
      · simp [hc, c1, c2, lead, m0, m1]
      · have c3 : ¬ n < n' := by omega
        have c4 : n ≠ n' := by omega
        simp [hc, c1, c2, c3, c4, lead, m0, m1]
    · simp [hc, c1, lead]
  · rw [cmp_first, if_pos c]
  · rw [cmp_first, if_neg (fun z => z c)]
    rcases Nat.lt_trichotomy a.len b.len with c2 | c2 | c2
    · have c3 : ¬ b.len < a.len := by omega
      simp [lenc, c2, c3]
    · simp [lenc, c2]
    · have c3 : ¬ a.len < b.len := by omega
      simp [lenc, c2, c3]
def NumOk (k : Nat) (F : Fn) : Prop := ∀ a : O, NF a → a.h < k → a.size ≤ 1000000 → F [enc a] = .ok (.bool true)
theorem l_number_step {S : Nat → Fn} {c0 c1 k : Nat} (h : NumOk k (S c0)) (hc : CmpOk k (S c1)) : NumOk (k + 1) (fun ds => fnD 3 (G_l_number c0 c1 S) ds) := by
  intro a na hk hz
  have hl := len_le_size a
  refine fnD_of ?_
  have nfp := (nf_parts a).mp na
  obtain ⟨ρ1, r1, x, rfl⟩ := forL_inv (gt := gtName 1) (g := (sSeq (sIf (tOrR (tNotR (tTru (eIsi "tuple" (eVar 1)))) (tOrR (tOf (eOp gNe (eCall gLen (aCons (eVar 1) aNil)) (eC (.int 2)))) (tNotR (tTru (eFn (S c0) (aCons (eOp gIx (eVar 1) (eC (.int 0))) aNil)))))) (sRet (eC (.bool false))) sNil) (sIf (tOrR (tNotR (tTru (eIsi "int" (eOp gIx (eVar 1) (eC (.int 1)))))) (tOrR (tTru (eIsi "bool" (eOp gIx (eVar 1) (eC (.int 1))))) (tOf (eOp gLt (eOp gIx (eVar 1) (eC (.int 1))) (eC (.int 1)))))) (sRet (eC (.bool false))) sNil))) (fun _ ρ => ∃ x, ρ = [some (enc a), x, none]) (encL a) 0 [some (enc a), none, none] ⟨_, rfl⟩ fun j d ρ hd hi => by
    obtain ⟨x, rfl⟩ := hi
    rw [encL_parts, List.getElem?_map] at hd
    obtain ⟨p, hp, rfl⟩ := Option.map_eq_some_iff.mp hd
    have hm := List.mem_of_getElem? hp
    have hph := part_mem_h hm
    have h0 := nfp.2 p hm
    have h1 := h p.1 h0.1 (by omega) (Nat.le_trans (size_part hm) hz)
    have h2 : ¬ p.2 < 1 := by omega
    refine ⟨_, _, rfl, Or.inl ?_, ⟨some (encP p), rfl⟩⟩
    simp [h1, isiB, h2]
  obtain ⟨ρ2, r2, y, rfl⟩ := forL_inv (gt := gtName 2) (g := (sIf (tOf (eOp gNe (eFn (S c1) (aCons (eOp gIx (eOp gIx (eVar 0) (eOp gSub (eVar 2) (eC (.int 1)))) (eC (.int 0))) (aCons (eOp gIx (eOp gIx (eVar 0) (eVar 2)) (eC (.int 0))) aNil))) (eC (.int 1)))) (sRet (eC (.bool false))) sNil)) (fun _ ρ => ∃ y, ρ = [some (enc a), x, y]) (rngD 1 (a.len - 1)) 0 [some (enc a), x, none] ⟨_, rfl⟩ fun j d ρ hd hi => by
    obtain ⟨y, rfl⟩ := hi
    rw [rngD_get] at hd
    by_cases q : j < (a.len - 1)
    · rw [if_pos q] at hd
      cases hd
      have lp := len_parts a
      have lj : j < a.parts.length := by omega
      have lj2 : j + 1 < a.parts.length := by omega
      have a1 := atI_at (a := a) (i := j) (p := a.parts[j]) (List.getElem?_eq_getElem lj)
      have a2 := atI_at (a := a) (i := j + 1) (p := a.parts[j + 1]) (List.getElem?_eq_getElem lj2)
      have pw := List.pairwise_iff_getElem.mp nfp.1 j (j + 1) lj lj2 (by omega)
      have hph := part_mem_h (List.getElem_mem lj)
      have hcc := hc (a.parts[j]).1 (a.parts[j + 1]).1 (by omega)
      rw [pw] at hcc
      rw [show ((j + 1 : Nat) : Int) = 1 + (j : Int) by omega] at a2
      rw [show ((j : Nat) : Int) = 1 + (j : Int) - 1 by omega] at a1
      refine ⟨[some (enc a), x, some (.int (1 + (j : Nat)))], [some (enc a), x, some (.int (1 + (j : Nat)))], rfl, Or.inl ?_, ⟨_, rfl⟩⟩
      generalize a.parts[j] = p1 at *
      generalize a.parts[j + 1] = p2 at *
      simp [a1, a2, hcc]
    · rw [if_neg q] at hd; cases hd
  have ok1 : okI 1 = true := by decide
  have ok2 : okI (a.len : Int) = true := okI_small (by omega) (by omega)
  unfold G_l_number
  simp [isiB, r1, ok1, ok2, r2]
def insO : O → O → Int → O
  | .z, e, n => .c e n .z
  | .c f k r, e, n => if cmp f e = 1 then .c f k (insO r e n) else if f = e then .c f k r else .c e n (.c f k r)
theorem ins_exp : ∀ (a e : O) (n : Int) (p : O × Int), p ∈ (insO a e n).parts → p.1 = e ∨ ∃ q ∈ a.parts, q.1 = p.1
  | .z, e, n, p, h => by
    rcases List.mem_cons.mp (show p ∈ (e, n) :: [] from h) with h | h
    · exact Or.inl (by rw [h])
    · cases h
  | .c f k r, e, n, p, h => by
    unfold insO at h
    by_cases c1 : cmp f e = 1
    · rw [if_pos c1] at h
      rcases List.mem_cons.mp (show p ∈ (f, k) :: (insO r e n).parts from h) with h | h
      · exact Or.inr ⟨(f, k), by show _ ∈ (f, k) :: r.parts; simp, by rw [h]⟩
      · rcases ins_exp r e n p h with h | ⟨q, q1, q2⟩
        · exact Or.inl h
        · exact Or.inr ⟨q, by show _ ∈ (f, k) :: r.parts; simp [q1], q2⟩
    · rw [if_neg c1] at h
      by_cases c2 : f = e
      · rw [if_pos c2] at h; exact Or.inr ⟨p, h, rfl⟩
      · rw [if_neg c2] at h
        rcases List.mem_cons.mp (show p ∈ (e, n) :: (O.c f k r).parts from h) with h | h
        · exact Or.inl (by rw [h])
        · exact Or.inr ⟨p, h, rfl⟩
theorem ins_nf : ∀ (a e : O) (n : Int), NF a → NF e → 1 ≤ n → NF (insO a e n)
  | .z, e, n, _, he, hn => nf_mk he hn trivial (fun q hq => by cases hq)
  | .c f k r, e, n, ha, he, hn => by
    have ta := nf_tail ha
    unfold insO
    by_cases c1 : cmp f e = 1
    · rw [if_pos c1]
      refine nf_mk ta.2.1 ta.2.2.1 (ins_nf r e n ta.1 he hn) fun q hq => ?_
      rcases ins_exp r e n q hq with h | ⟨q', q1, q2⟩
      · rw [h]; exact c1
      · rw [← q2]; exact ta.2.2.2 q' q1
    · rw [if_neg c1]
      by_cases c2 : f = e
      · rw [if_pos c2]; exact ha
      · rw [if_neg c2]
        have lt : cmp f e = -1 := by
          rcases cmp_tri f e with c | c | c
          · exact c
          · exact absurd c c2
          · exact absurd c c1
        refine nf_mk he hn ha fun q hq => ?_
        rcases List.mem_cons.mp (show q ∈ (f, k) :: r.parts from hq) with h | h
        · rw [h]; exact cmp_gt.mpr lt
        · exact gt_trans (cmp_gt.mpr lt) (ta.2.2.2 q h)
theorem ins_len : ∀ (a e : O) (n : Int), (insO a e n).len ≤ a.len + 1
  | .z, e, n => Nat.le_refl _
  | .c f k r, e, n => by
    have := ins_len r e n
    unfold insO
    split
    · simp only [O.len]; omega
    · split
      · exact Nat.le_succ _
      · exact Nat.le_refl _
theorem ins_h {a e : O} {n : Int} {k : Nat} (ha : a.h ≤ k) (he : e.h + 1 ≤ k) : (insO a e n).h ≤ k := by
  rw [h_parts]
  intro p hp
  rcases ins_exp a e n p hp with h | ⟨q, q1, q2⟩
  · rw [h]; exact he
  · rw [← q2]; exact (h_parts a).mp ha q q1
theorem ins_mx : ∀ {a e : O} {n B : Int}, mx a ≤ B → mx e ≤ B → n ≤ B → mx (insO a e n) ≤ B
  | .z, e, n, B, _, h2, h3 => by
    show max n (max (mx e) 0) ≤ B
    have := mx_nonneg e; omega
  | .c f k r, e, n, B, h1, h2, h3 => by
    have m1 : mx (.c f k r) = max k (max (mx f) (mx r)) := rfl
    have ih := ins_mx (a := r) (e := e) (n := n) (B := B) (by omega) h2 h3
    unfold insO
    split
    · show max k (max (mx f) (mx (insO r e n))) ≤ B; omega
    · split
      · exact h1
      · show max n (max (mx e) (mx (.c f k r))) ≤ B; omega
/-! a part put in -/
abbrev pT (F : Fn) : Vars → R Bool := tAndR (tOf (eOp gLt (eVar 2) (eCall gLen (aCons (eVar 0) aNil)))) (tOf (eOp gEq (eFn F (aCons (eOp gIx (eOp gIx (eVar 0) (eVar 2)) (eC (.int 0))) (aCons (eOp gIx (eVar 1) (eC (.int 0))) aNil))) (eC (.int 1))))
abbrev pB : Vars → Out := sSet [] 2 (eOp gAdd (eVar 2) (eC (.int 1)))
theorem put_loop {k : Nat} {F : Fn} (hF : CmpOk k F) {a e : O} {n : Int} (ha : a.h ≤ k) : ∀ (f : Nat) (x : O) (i : Nat), a.parts.drop i = x.parts → i ≤ a.len → x.len + 1 ≤ f →
    ∃ (i' : Nat) (x' : O), whileL (pT F) pB f [some (.list (encL a)), some (encP (e, n)), some (.int (i : Nat))] = .nx [some (.list (encL a)), some (encP (e, n)), some (.int (i' : Nat))] ∧ a.parts.drop i' = x'.parts ∧ i' ≤ a.len ∧
      a.parts.take i' ++ (insO x' e n).parts = a.parts.take i ++ (insO x e n).parts ∧ (x' = .z ∨ ∃ g m r, x' = .c g m r ∧ cmp g e ≠ 1)
  | 0, x, i, _, _, hf => by omega
  | f + 1, .z, i, hx, hi, hf => by
    have hi2 : a.parts.length ≤ i := by
      rcases Nat.lt_or_ge i a.parts.length with c | c
      · rw [List.drop_eq_getElem_cons c] at hx; cases hx
      · exact c
    rw [len_parts] at hi2
    have t : pT F [some (.list (encL a)), some (encP (e, n)), some (.int (i : Nat))] = .ok false := by
      have : ¬ (i : Int) < (a.len : Int) := by omega
      simp [this]
    exact ⟨i, .z, whileL_f t, hx, hi, rfl, Or.inl rfl⟩
  | f + 1, .c g m r, i, hx, hi, hf => by
    obtain ⟨x1, x2, x3⟩ := drop_at (show a.parts.drop i = (g, m) :: r.parts from hx)
    have lp := len_parts a
    have pe : g.h + 1 ≤ a.h := part_mem_h (List.mem_of_getElem? x1)
    have ax := atI_at x1
    have cc := hF g e (by omega)
    have lt : (i : Int) < (a.len : Int) := by omega
    simp only [O.len] at hf
    by_cases c : cmp g e = 1
    · rw [c] at cc
      have t : pT F [some (.list (encL a)), some (encP (e, n)), some (.int (i : Nat))] = .ok true := by simp [lt, ax, cc]
      have bd : pB [some (.list (encL a)), some (encP (e, n)), some (.int (i : Nat))] = .nx [some (.list (encL a)), some (encP (e, n)), some (.int ((i + 1 : Nat) : Nat))] := by simp
      obtain ⟨i', x', g1, g2, g3, g4, g5⟩ := put_loop hF ha f r (i + 1) x2 (by omega) (by omega)
      refine ⟨i', x', by rw [whileL_t t bd]; exact g1, g2, g3, ?_, g5⟩
      rw [g4]
      have : insO (.c g m r) e n = .c g m (insO r e n) := by
        show (if cmp g e = 1 then O.c g m (insO r e n) else if g = e then .c g m r else .c e n (.c g m r)) = _
        rw [if_pos c]
      rw [this]
      have tk : a.parts.take (i + 1) = a.parts.take i ++ [(g, m)] := by
        rw [List.take_add_one, x1]; rfl
      rw [tk]
      show a.parts.take i ++ [(g, m)] ++ (insO r e n).parts = a.parts.take i ++ (g, m) :: (insO r e n).parts
      simp
    · have t : pT F [some (.list (encL a)), some (encP (e, n)), some (.int (i : Nat))] = .ok false := by simp [lt, ax, cc, c]
      exact ⟨i, _, whileL_f t, hx, hi, rfl, Or.inr ⟨g, m, r, rfl, c⟩⟩
def PutOk (k : Nat) (F : Fn) : Prop := ∀ (a e : O) (n : Int), a.h ≤ k → a.h ≤ 30 → e.h ≤ 30 → a.len ≤ 1000 → F [.list (encL a), encP (e, n)] = .ok (.list (encL (insO a e n)))
theorem l_put_step {S : Nat → Fn} {c0 k : Nat} (hc : CmpOk k (S c0)) : PutOk k (fun ds => fnD 3 (G_l_put c0 S) ds) := by
  intro a e n hk ha he hl
  refine fnD_of ?_
  obtain ⟨i, x, g1, g2, g3, g4, g5⟩ := put_loop hc (a := a) (e := e) (n := n) hk wfuel a 0 rfl (Nat.zero_le _) (by show _ ≤ 1000000; omega)
  have g1' : whileL (pT (S c0)) pB wfuel [some (.list (encL a)), some (encP (e, n)), some (.int 0)] = _ := g1
  rw [List.take_zero, List.nil_append] at g4
  have lp := len_parts a
  have c1 : Pu.cutD (encL a) none (some (i : Int)) = (encL a).take i := cut_front _ _
  have c2 : Pu.cutD (encL a) (some (i : Int)) none = (encL a).drop i := by rw [cut_back, encL_len, Nat.min_eq_left g3]
  have s1 : (min i a.len) + 1 ≤ sizeLine := sz1000 (by omega)
  have s2 : (min i a.len) + 1 + (a.len - i) ≤ sizeLine := sz1000 (by omega)
  have ins : ∀ y : O, a.parts.drop i = y.parts → insO x e n = .c e n y → encL (insO a e n) = (encL a).take i ++ encP (e, n) :: (encL a).drop i := fun y hy hxy => by
    rw [encL_parts (insO a e n), ← g4, hxy, encL_parts a]
    show (a.parts.take i ++ (e, n) :: y.parts).map encP = _
    rw [← hy, List.map_append, List.map_cons, List.map_take, List.map_drop]
  unfold G_l_put
  rcases g5 with g5 | ⟨g, m, r, g5, g6⟩
  · subst g5
    have il : ¬ (i : Int) < (a.len : Int) := by
      have : a.parts.length ≤ i := by
        rcases Nat.lt_or_ge i a.parts.length with c | c
        · rw [List.drop_eq_getElem_cons c] at g2; cases g2
        · exact c
      omega
    have e1 := ins .z g2 rfl
    simp [g1', il, c1, c2, s1, s2, e1]
  · subst g5
    obtain ⟨x1, x2, x3⟩ := drop_at (show a.parts.drop i = (g, m) :: r.parts from g2)
    have il : (i : Int) < (a.len : Int) := by omega
    have pe : g.h + 1 ≤ a.h := part_mem_h (List.mem_of_getElem? x1)
    have ax := atI_at x1
    have ge := gEq_enc (a := g) (b := e) (by omega) (by omega)
    by_cases c : g = e
    · rw [decide_eq_true c] at ge
      have : insO (.c g m r) e n = .c g m r := by unfold insO; rw [if_neg g6, if_pos c]
      have e1 : insO a e n = a := by
        apply parts_inj
        rw [← g4, this]
        show a.parts.take i ++ (O.c g m r).parts = _
        rw [← g2, List.take_append_drop]
      rw [e1]
      simp [g1', il, ax, ge]
    · rw [decide_eq_false c] at ge
      have : insO (.c g m r) e n = .c e n (.c g m r) := by unfold insO; rw [if_neg g6, if_neg c]
      have e1 := ins (.c g m r) g2 this
      simp [g1', il, ax, ge, c1, c2, s1, s2, e1]
/-! times, exponents, numbers drawn -/
@[simp high] theorem p15 : gPow (.int 10) (.int 15) = some (.int 1000000000000000) := by
  show (if cPow 10 15 = true then some (PyData.int (10 ^ (15 : Int).toNat)) else none) = _
  rw [if_pos (by decide +kernel)]; rfl
@[simp high] theorem p25 : gPow (.int 10) (.int 25) = some (.int 10000000000000000000000000) := by
  show (if cPow 10 25 = true then some (PyData.int (10 ^ (25 : Int).toNat)) else none) = _
  rw [if_pos (by decide +kernel)]; rfl
@[simp high] theorem p24 : gPow (.int 10) (.int 24) = some (.int 1000000000000000000000000) := by
  show (if cPow 10 24 = true then some (PyData.int (10 ^ (24 : Int).toNat)) else none) = _
  rw [if_pos (by decide +kernel)]; rfl
def ManyOk (F : Fn) : Prop := ∀ v : Int, 0 ≤ v → v < 2 ^ 40 → ∃ r : Int, F [.int v] = .ok (.int r) ∧ 1 ≤ r ∧ r ≤ 1000000000000000
theorem l_many_step (S : Nat → Fn) : ManyOk (fun ds => fnD 2 (G_l_many S) ds) := by
  intro v v0 v1
  have m1 : ∀ i : Int, cMod i 6 = true ∧ cMod i 1000 = true ∧ cMod i 3 = true ∧ cMod i 1000000000000000 = true := fun i => ⟨cMod_of (by decide), cMod_of (by decide), cMod_of (by decide), cMod_of (by decide)⟩
  have m2 : ∀ i : Int, cDiv i 6 = true := fun i => cDiv_of 10 (by decide) (by decide) (by decide) (by decide)
  obtain ⟨w, hw⟩ : ∃ w : Int, v / 6 = w := ⟨_, rfl⟩
  have m3 : cMul w w = true := cMul_of 100 100 (by omega) (by omega) (by decide) (by decide) (by decide)
  by_cases c0 : v % 6 = 0
  · refine ⟨1 + w % 1000, fnD_of ?_, by omega, by omega⟩
    unfold G_l_many
    simp [m1, m2, hw, c0]
  · by_cases c1 : v % 6 = 1
    · obtain ⟨q, hq⟩ : ∃ q : Int, w * w = q := ⟨_, rfl⟩
      refine ⟨1 + q % 1000000000000000, fnD_of ?_, by omega, by omega⟩
      unfold G_l_many
      simp [m1, m2, hw, c0, c1, m3, hq]
    · refine ⟨1 + w % 3, fnD_of ?_, by omega, by omega⟩
      unfold G_l_many
      simp [m1, m2, hw, c0, c1]
def GreatOk (F : Fn) : Prop := ∀ v : Int, ∃ r : Int, F [.int v] = .ok (.int r) ∧ 1 ≤ r ∧ r ≤ E50
theorem l_great_step {S : Nat → Fn} {c0 : Nat} (h : MixOk (S c0)) : GreatOk (fun ds => fnD 2 (G_l_great c0 S) ds) := by
  intro v
  have e50 := E50_eq
  have m1 : ∀ i : Int, cMod i 2 = true ∧ cMod i 100 = true ∧ cMod i 10000000000000000000000000 = true ∧ cMod i E50 = true := fun i => ⟨cMod_of (by decide), cMod_of (by decide), cMod_of (by decide), cMod_of (by omega)⟩
  have m2 : ∀ i : Int, cDiv i 6 = true := fun i => cDiv_of 10 (by decide) (by decide) (by decide) (by decide)
  obtain ⟨r, hr, _, _⟩ := h v 8 (by decide) (by decide)
  obtain ⟨w, hw⟩ : ∃ w : Int, v / 6 % 10000000000000000000000000 = w := ⟨_, rfl⟩
  have w0 : 0 ≤ w := by omega
  have w1 : w < 10000000000000000000000000 := by omega
  have m3 : cMul 7 w = true := cMul_of 200 200 (by decide) (by omega) (by decide) (by decide) (by decide)
  have m4 : cMul (w + 7) (1000000000000000000000000 + 7 * w + 39) = true := cMul_of 200 200 (by omega) (by omega) (by decide) (by decide) (by decide)
  by_cases c : r % 2 = 0
  · refine ⟨1 + w % 100, fnD_of ?_, by omega, by omega⟩
    unfold G_l_great
    simp [m1, m2, hw, hr, c]
  · obtain ⟨q, hq⟩ : ∃ q : Int, (w + 7) * (1000000000000000000000000 + 7 * w + 39) = q := ⟨_, rfl⟩
    have q0 := Int.emod_nonneg q (show E50 ≠ 0 by omega)
    have q1 := Int.emod_lt_of_pos q (show 0 < E50 by omega)
    refine ⟨1 + q % E50, fnD_of ?_, by omega, by omega⟩
    unfold G_l_great
    simp [m1, m2, hw, hr, c, m3, m4, hq]
theorem ins_size : ∀ (a e : O) (n : Int), (insO a e n).size ≤ a.size + 1 + e.size
  | .z, e, n => by show 1 + e.size + 0 ≤ 0 + 1 + e.size; omega
  | .c f k r, e, n => by
    have := ins_size r e n
    unfold insO
    split
    · show 1 + f.size + (insO r e n).size ≤ 1 + f.size + r.size + 1 + e.size; omega
    · split
      · show _ ≤ _; omega
      · show 1 + e.size + (1 + f.size + r.size) ≤ 1 + f.size + r.size + 1 + e.size; omega
structure Dr (l : Nat) (a : O) : Prop where
  nf : NF a
  h : a.h ≤ l + 1
  ll : a.len ≤ 3
  s : a.size ≤ 4 ^ (l + 1)
  m : mx a ≤ 1000000000000000
abbrev dB (S : Nat → Fn) (c0 c1 c2 c3 : Nat) : Vars → Out := (sSeq (sSet [] 4 (eFn (S c0) (aCons (eVar 0) (aCons (eOp gAdd (eVar 3) (eC (.int 1))) aNil)))) (sSeq (sSet [] 5 (eTup aNil)) (sSeq (sIf (tOf (eOp gGt (eVar 1) (eC (.int 0)))) (sSet [] 5 (eFn (S c1) (aCons (eOp gDiv (eVar 4) (eC (.int 5))) (aCons (eOp gSub (eVar 1) (eC (.int 1))) aNil)))) sNil) (sSet [] 2 (eFn (S c2) (aCons (eVar 2) (aCons (eTup (aCons (eVar 5) (aCons (eFn (S c3) (aCons (eOp gDiv (eVar 4) (eC (.int 7))) aNil)) aNil))) aNil)))))))
def DrawnOk (k : Nat) (F : Fn) : Prop := ∀ (c : Int) (l : Nat), l < k → l ≤ 8 → ∃ a, F [.int c, .int (l : Nat)] = .ok (enc a) ∧ Dr l a
theorem l_drawn_step {S : Nat → Fn} {c0 c1 c2 c3 k k2 : Nat} (hk2 : 20 ≤ k2) (h0 : MixOk (S c0)) (h1 : DrawnOk k (S c1)) (h2 : PutOk k2 (S c2)) (h3 : ManyOk (S c3)) : DrawnOk (k + 1) (fun ds => fnD 6 (G_l_drawn c0 c1 c2 c3 S) ds) := by
  intro c l hl l8
  have m1 : ∀ i : Int, cDiv i 5 = true ∧ cDiv i 7 = true := fun i => ⟨cDiv_of 10 (by decide) (by decide) (by decide) (by decide), cDiv_of 10 (by decide) (by decide) (by decide) (by decide)⟩
  have m2 : ∀ i : Int, cMod i 6 = true := fun i => cMod_of (by decide)
  obtain ⟨r0, e0, r00, r01⟩ := h0 c 0 (by decide) (by decide)
  obtain ⟨n, hn, n3⟩ : ∃ n : Nat, atI [PyData.int 0, .int 1, .int 1, .int 2, .int 2, .int 3] (r0 / 5 % 6) = some (.int (n : Nat)) ∧ n ≤ 3 := by
    have at6 : ∀ {j : Nat} {ds : List PyData} {d : PyData}, ds[j]? = some d → atI ds (j : Int) = some d := fun h => L2.atI_nat h
    have : r0 / 5 % 6 = ((0 : Nat) : Int) ∨ r0 / 5 % 6 = ((1 : Nat) : Int) ∨ r0 / 5 % 6 = ((2 : Nat) : Int) ∨ r0 / 5 % 6 = ((3 : Nat) : Int) ∨ r0 / 5 % 6 = ((4 : Nat) : Int) ∨ r0 / 5 % 6 = ((5 : Nat) : Int) := by omega
    rcases this with h | h | h | h | h | h <;> rw [h]
    · exact ⟨0, at6 rfl, by decide⟩
    · exact ⟨1, at6 rfl, by decide⟩
    · exact ⟨1, at6 rfl, by decide⟩
    · exact ⟨2, at6 rfl, by decide⟩
    · exact ⟨2, at6 rfl, by decide⟩
    · exact ⟨3, at6 rfl, by decide⟩
  have p4 : 0 < 4 ^ l := Nat.pow_pos (by decide)
  obtain ⟨ρ', r1, a, x, y, z, rfl, a1, a2, a3, a4, a5⟩ := forL_rng (n := n) (i := 3) (g := dB S c0 c1 c2 c3) (fun j ρ => ∃ a x y z, ρ = [some (.int c), some (.int (l : Nat)), some (.list (encL a)), x, y, z] ∧ NF a ∧ a.h ≤ l + 1 ∧ a.len ≤ j ∧ a.size ≤ j * (1 + 4 ^ l) ∧ mx a ≤ 1000000000000000)
    [some (.int c), some (.int (l : Nat)), some (.list []), none, none, none] ⟨.z, _, _, _, rfl, trivial, Nat.zero_le _, Nat.le_refl _, Nat.zero_le _, by decide⟩ fun j ρ hj hi => by
      obtain ⟨a, x, y, z, rfl, a1, a2, a3, a4, a5⟩ := hi
      obtain ⟨r, er, rr0, rr1⟩ := h0 c ((j : Int) + 1) (by omega) (by omega)
      obtain ⟨m, em, mm0, mm1⟩ := h3 (r / 7) (by omega) (by omega)
      obtain ⟨e, ee, f1, f2, f3, f4⟩ : ∃ e : O, (if 0 < l then (S c1 [.int (r / 5), .int ((l : Int) - 1)] = .ok (enc e)) else e = .z) ∧ NF e ∧ e.h ≤ l ∧ e.size ≤ 4 ^ l ∧ mx e ≤ 1000000000000000 := by
        by_cases q : 0 < l
        · obtain ⟨e, g1, g2⟩ := h1 (r / 5) (l - 1) (by omega) (by omega)
          rw [show ((l - 1 : Nat) : Int) = (l : Int) - 1 by omega] at g1
          refine ⟨e, by rw [if_pos q]; exact g1, g2.nf, by have := g2.h; omega, ?_, g2.m⟩
          have := g2.s
          rw [show l - 1 + 1 = l by omega] at this
          exact this
        · exact ⟨.z, by rw [if_neg q], trivial, Nat.zero_le _, Nat.zero_le _, by decide⟩
      have ep := h2 a e m (by omega) (by omega) (by omega) (by omega)
      have len2 := ins_len a e m
      have size2 := ins_size a e m
      have mul2 : (j + 1) * (1 + 4 ^ l) = j * (1 + 4 ^ l) + (1 + 4 ^ l) := Nat.succ_mul _ _
      refine ⟨[some (.int c), some (.int (l : Nat)), some (.list (encL (insO a e m))), some (.int (j : Nat)), some (.int r), some (enc e)], Or.inl ?_, ⟨insO a e m, _, _, _, rfl, ins_nf a e m a1 f1 mm0, ins_h a2 (by omega), by omega, by omega, ins_mx a5 f4 mm1⟩⟩
      by_cases q : 0 < l
      · rw [if_pos q] at ee
        simp [er, em, m1, q, ee, ep]
      · rw [if_neg q] at ee
        have ep' : S c2 [.list (encL a), .tuple [.tuple [], .int m]] = .ok (.list (encL (insO a .z m))) := by rw [ee] at ep; exact ep
        rw [ee]
        show _ = Out.nx [_, _, _, _, _, some (.tuple [])]
        simp [er, em, m1, q, ep']
  have okn : okI (n : Int) = true := okI_small (by omega) (by omega)
  have s6 : (6 : Nat) ≤ sizeLine := by decide
  refine ⟨a, fnD_of ?_, a1, a2, by omega, ?_, a5⟩
  · unfold G_l_drawn
    simp [e0, m1, m2, hn, okn, s6, r1]
  · have h4 : n * (1 + 4 ^ l) ≤ 3 * (1 + 4 ^ l) := Nat.mul_le_mul_right _ n3
    have h5 : 4 ^ (l + 1) = 4 * 4 ^ l := by rw [Nat.pow_succ]; omega
    by_cases q : l = 0
    · subst q
      have : a.size ≤ n * 2 := a4
      have hl2 := a3
      have ah := a2
      have : a.size ≤ 4 := by
        have : a.h ≤ 1 := a2
        have sz : a.size = a.len := by
          rw [← of_parts a, size_of, len_of]
          have : (a.parts.map fun p => p.1.size) = a.parts.map fun _ => 0 := by
            apply List.map_congr_left
            intro p hp
            have h9 := part_mem_h hp
            have : p.1.h = 0 := by omega
            cases h8 : p.1 with
            | z => rfl
            | c f k r =>
              rw [h8] at this
              have h7 : (O.c f k r).h = max (f.h + 1) r.h := rfl
              omega
          rw [this]
          have z0 : ∀ l : List (O × Int), (l.map fun _ => (0 : Nat)).sum = 0 := fun l => by
            induction l with
            | nil => rfl
            | cons _ _ ih => rw [List.map_cons, List.sum_cons, ih]
          rw [z0]
          rfl
        omega
      exact this
    · have : 4 ≤ 4 ^ l := by
        have : 4 ^ 1 ≤ 4 ^ l := Nat.pow_le_pow_right (by decide) (by omega)
        exact this
      omega
end Nm
set_option Elab.async false
set_option linter.all false
set_option maxRecDepth 100000
set_option maxHeartbeats 4000000
namespace Nm
open PySem Pu O L2
theorem above_zz (a : O) : (a.parts.filter fun p => !decide (p.1 = .z)) = above a .z := by
  unfold above
  apply List.filter_congr
  intro p _
  cases hp : p.1 with
  | z => simp [cmp]
  | c e n r => simp [cmp]
theorem lc_nz {a : O} (ha : a.h ≤ 30) {ρ : Vars} {i : Nat} (hi : ∀ x, (ρ.set i x).getD i none = x) : lcL (gtName i) (tOf (eOp gNe (eOp gIx (eVar i) (eC (.int 0))) (eTup aNil))) (eVar i) ρ (encL a) = .ok ((above a .z).map encP) := by
  rw [← above_zz]
  refine lc_parts (P := fun p => !decide (p.1 = .z)) (fun p hp => ?_) fun p hp _ => ?_
  · have := part_mem_h hp
    have h1 := gNe_nil (a := p.1) (by omega)
    simp only [u_tOf, u_eOp, u_eVar, hi, R.of_some, R.bind_ok, u_eC, u_gIx_t, atI_zero, u_eTup, u_aNil, List.length_nil, Nat.zero_le, if_true, h1]
  · simp only [u_eVar, hi, R.of_some]
/-- a drawn number -/
structure Nb (a : O) : Prop where
  nf : NF a
  h : a.h ≤ 6
  ll : a.len ≤ 4
  s : a.size ≤ 260
  hd : ∀ e n r, a = .c e n r → n.natAbs < 2 ^ 190
  cs : ∀ p ∈ a.parts, p.2.natAbs < 2 ^ 190
  m : mx a ≤ E50
theorem above_mem {a : O} {p : O × Int} (h : p ∈ above a .z) : p ∈ a.parts ∧ cmp p.1 .z = 1 := by
  have := List.mem_filter.mp h
  refine ⟨this.1, ?_⟩
  have h2 := of_decide_eq_true this.2
  rcases cmp_range p.1 .z with h | h | h <;> omega
theorem nb_mk {a : O} (nf : NF a) (h : a.h ≤ 6) (ll : a.len ≤ 4) (s : a.size ≤ 260) (m : mx a ≤ E50) : Nb a := by
  have e50 := E50_eq
  have cs : ∀ p ∈ a.parts, p.2.natAbs < 2 ^ 190 := fun p hp => by
    have h1 := ((mx_parts (mx_nonneg a) a).mp (Int.le_refl _) p hp).1
    have h2 := (((nf_parts a).mp nf).2 p hp).2
    omega
  exact ⟨nf, h, ll, s, fun e n r h => cs (e, n) (by rw [h]; show _ ∈ (e, n) :: r.parts; simp), cs, m⟩
theorem nb_of {l : Nat} (hl : l ≤ 3) {a : O} (d : Dr l a) : Nb a := by
  have h4 : 4 ^ (l + 1) ≤ 4 ^ 4 := Nat.pow_le_pow_right (by decide) (by omega)
  have h5 : (4 : Nat) ^ 4 = 256 := by decide
  have hs := d.s
  have e50 := E50_eq
  exact nb_mk d.nf (by have := d.h; omega) (by have := d.ll; omega) (by omega) (by have := d.m; omega)
def NbyOk (F : Fn) : Prop := ∀ v1 v2 : Int, ∃ a, F [.int v1, .int v2] = .ok (enc a) ∧ Nb a
theorem l_number_by_step {S : Nat → Fn} {c0 c1 c2 k : Nat} (hk : 4 ≤ k) (h0 : DrawnOk k (S c0)) (h1 : MixOk (S c1)) (h2 : GreatOk (S c2)) : NbyOk (fun ds => fnD 5 (G_l_number_by c0 c1 c2 S) ds) := by
  intro v1 v2
  have e50 := E50_eq
  have m1 : ∀ i : Int, cMod i 4 = true ∧ cMod i 6 = true ∧ cMod i 3 = true := fun i => ⟨cMod_of (by decide), cMod_of (by decide), cMod_of (by decide)⟩
  obtain ⟨r, er, r0, r1⟩ := h1 v2 9 (by decide) (by decide)
  obtain ⟨l, hl⟩ := Int.eq_ofNat_of_zero_le (show 0 ≤ r % 4 by omega)
  have l3 : l ≤ 3 := by omega
  obtain ⟨a, ea, da⟩ := h0 v1 l (by omega) (by omega)
  obtain ⟨g, eg, g0, g1⟩ := h2 v2
  have na := nb_of l3 da
  have nfa := na.nf
  have ah := na.h
  have al := da.ll
  have as := na.s
  have h4 : 4 ^ (l + 1) ≤ 4 ^ 4 := Nat.pow_le_pow_right (by decide) (by omega)
  have h5 : (4 : Nat) ^ 4 = 256 := by decide
  have hs := da.s
  have ah5 : a.h ≤ 4 := by have := da.h; omega
  have ul := above_len a .z
  have am := na.m
  have umx : mx (of (above a .z)) ≤ E50 := mx_sub (ps := a.parts) (by omega) (by rw [of_parts]; exact am) List.filter_sublist
  have s1 : (above a .z).length < sizeLine := sz1000' (by omega)
  have s2 : (above a .z).length + 1 ≤ sizeLine := sz1000 (by omega)
  have n1 := gNe_nil (a := a) (by omega)
  have lc : ∀ x y : Option PyData, lcL (gtName 4) (tOf (eOp gNe (eOp gIx (eVar 4) (eC (.int 0))) (eTup aNil))) (eVar 4) [some (.int v1), some (.int v2), x, y, none] (encL a) = .ok ((above a .z).map encP) := fun x y => lc_nz (by omega) (fun x => rfl)
  have us : (of (above a .z)).size ≤ a.size := by
    have := size_sub (qs := above a .z) (ps := a.parts) List.filter_sublist
    rw [of_parts] at this; exact this
  have uh : ∀ k, a.h ≤ k → (of (above a .z)).h ≤ k := fun k hk => h_of.mpr fun p hp => (h_parts a).mp hk p (above_mem hp).1
  have unf : NF (of (above a .z)) := nf_sub (by rw [of_parts]; exact nfa) List.filter_sublist
  by_cases q0 : v2 % 6 = 0
  · refine ⟨of (above a .z ++ [(.z, g)]), fnD_of ?_, nb_mk ?_ ?_ ?_ ?_ ?_⟩
    · have ep : enc (of (above a .z ++ [(.z, g)])) = .tuple ((above a .z).map encP ++ [.tuple [.tuple [], .int g]]) := by
        show PyData.tuple (encL _) = _
        rw [encL_of]; simp
      rw [ep]
      unfold G_l_number_by
      simp [er, m1, hl, ea, eg, q0, lc, s1, s2]
    · rw [nf_of, List.pairwise_append]
      have hp := (nf_parts _).mp unf
      rw [parts_of] at hp
      refine ⟨⟨hp.1, by simp, fun p hp q hq => ?_⟩, fun p hp2 => ?_⟩
      · simp only [List.mem_singleton] at hq; subst hq; exact (above_mem hp).2
      · rcases List.mem_append.mp hp2 with h | h
        · exact hp.2 p h
        · simp only [List.mem_singleton] at h; subst h; exact ⟨trivial, g0⟩
    · refine h_of.mpr fun p hp => ?_
      rcases List.mem_append.mp hp with h | h
      · have := (h_parts a).mp ah5 p (above_mem h).1; omega
      · simp only [List.mem_singleton] at h; subst h; show 0 + 1 ≤ 6; decide
    · rw [len_of, List.length_append, List.length_singleton]; omega
    · rw [size_app]; show _ + (1 + 0 + 0) ≤ 260; omega
    · rw [mx_of (by omega)]
      intro p hp
      rcases List.mem_append.mp hp with h | h
      · exact (mx_of (by omega)).mp umx p h
      · simp only [List.mem_singleton] at h; subst h; exact ⟨g1, by show 0 ≤ E50; omega⟩
  · by_cases q1 : v2 % 6 = 1
    · by_cases az : a = .z
      · rw [decide_eq_true az] at n1
        refine ⟨a, fnD_of ?_, na⟩
        unfold G_l_number_by
        simp [er, m1, hl, ea, eg, q1, n1]
      · obtain ⟨e, n, r', hz⟩ : ∃ e n r', a = .c e n r' := by
          cases a with
          | z => exact absurd rfl az
          | c e n r' => exact ⟨e, n, r', rfl⟩
        rw [decide_eq_false az] at n1
        have b0 : atI (encL a) 0 = some (encP (e, n)) := by rw [hz]; exact atI_zero _ _
        have b1 : Pu.cutD (encL a) (some 1) none = encL r' := by rw [hz]; exact cut_tl _ _
        have hh : (O.c e n r').h = max (e.h + 1) r'.h := rfl
        have hll : (O.c e n r').len = r'.len + 1 := rfl
        have hss : (O.c e n r').size = 1 + e.size + r'.size := rfl
        have ta := nf_tail (hz ▸ nfa)
        rw [hz] at ah5 al as
        have s3 : 1 + r'.len ≤ sizeLine := sz1000 (by omega)
        refine ⟨.c e g r', fnD_of ?_, nb_mk (nf_mk ta.2.1 g0 ta.1 ta.2.2.2) (by show max (e.h + 1) r'.h ≤ 6; omega) (by show r'.len + 1 ≤ 4; omega) (by show 1 + e.size + r'.size ≤ 260; omega) ?_⟩
        · have ep : enc (.c e g r') = .tuple (.tuple [enc e, .int g] :: encL r') := rfl
          rw [ep]
          unfold G_l_number_by
          simp [er, m1, hl, ea, eg, q1, n1, b0, b1, s3]
        · rw [hz] at am
          have : mx (.c e n r') = max n (max (mx e) (mx r')) := rfl
          show max g (max (mx e) (mx r')) ≤ E50
          omega
    · by_cases q2 : v2 % 6 = 2
      · refine ⟨.c a (1 + g % 3) .z, fnD_of ?_, nb_mk (nf_mk nfa (by omega) trivial (fun q hq => by cases hq)) (by show max (a.h + 1) 0 ≤ 6; omega) (by show 0 + 1 ≤ 4; decide) (by show 1 + a.size + 0 ≤ 260; omega) (by show max (1 + g % 3) (max (mx a) 0) ≤ E50; omega)⟩
        · have ep : enc (.c a (1 + g % 3) .z) = .tuple [.tuple [enc a, .int (1 + g % 3)]] := rfl
          rw [ep]
          unfold G_l_number_by
          simp [er, m1, hl, ea, eg, q2]
      · by_cases q3 : v2 % 6 = 3
        · refine ⟨of (above a .z), fnD_of ?_, nb_mk unf (uh 6 ah) (by rw [len_of]; omega) (by omega) umx⟩
          · have ep : enc (of (above a .z)) = .tuple ((above a .z).map encP) := by
              show PyData.tuple (encL _) = _
              rw [encL_of]
            rw [ep]
            unfold G_l_number_by
            simp [er, m1, hl, ea, eg, q3, lc, s1]
        · refine ⟨a, fnD_of ?_, na⟩
          unfold G_l_number_by
          simp [er, m1, hl, ea, eg, q0, q1, q2, q3]
/-! ### the product -/
def prodL (e : O) (n : Int) (r : O) (ps : List (O × Int)) : List (O × Int) := ps.flatMap fun p => if p.1 = .z then (e, n * p.2) :: r.parts else [(plusO e p.1, p.2)]
theorem prodL_c (e r : O) (n : Int) (p : O × Int) (ps : List (O × Int)) : prodL e n r (p :: ps) = (if p.1 = .z then (e, n * p.2) :: r.parts else [(plusO e p.1, p.2)]) ++ prodL e n r ps := by
  unfold prodL; rw [List.flatMap_cons]
def prodO : O → O → O
  | .z, _ => .z
  | .c e n r, b => of (prodL e n r b.parts)
theorem z_min {s : O} {m : Int} (h : NF (.c .z m s)) : s = .z := by
  cases s with
  | z => rfl
  | c f k t =>
    have := (nf_tail h).2.2.2 (f, k) (by show _ ∈ (f, k) :: t.parts; simp)
    cases f <;> simp [cmp] at this
theorem prod_nf {e r : O} {n : Int} (ha : NF (.c e n r)) : ∀ b : O, NF b → NF (of (prodL e n r b.parts)) ∧ ∀ g, NF g → (∀ q ∈ b.parts, cmp g q.1 = 1) → ∀ p ∈ prodL e n r b.parts, cmp (plusO e g) p.1 = 1
  | .z, _ => ⟨trivial, fun _ _ _ p hp => by cases hp⟩
  | .c f m s, hb => by
    have ta := nf_tail ha
    have tb := nf_tail hb
    by_cases fz : f = .z
    · subst fz
      have sz := z_min hb
      subst sz
      have e1 : prodL e n r (O.c .z m .z).parts = (e, n * m) :: r.parts := by
        show prodL e n r ((O.z, m) :: []) = _
        rw [prodL_c, if_pos rfl]; simp [prodL]
      rw [e1]
      have nm : 1 ≤ n * m := by
        have := Int.mul_le_mul ta.2.2.1 tb.2.2.1 (by decide) (by have := ta.2.2.1; omega)
        simpa using this
      refine ⟨?_, fun g hg hq p hp => ?_⟩
      · have : of ((e, n * m) :: r.parts) = .c e (n * m) r := congrArg _ (of_parts r)
        rw [this]
        exact nf_mk ta.2.1 nm ta.1 ta.2.2.2
      · have gz := hq (O.z, m) (by show _ ∈ (O.z, m) :: []; simp)
        have ge : cmp (plusO e g) e = 1 := by
          have := plus_mono e .z g ta.2.1 trivial hg (cmp_gt.mp gz)
          exact cmp_gt.mpr this
        rcases List.mem_cons.mp hp with h | h
        · rw [h]; exact ge
        · exact gt_trans ge (ta.2.2.2 p h)
    · obtain ⟨i1, i2⟩ := prod_nf ha s tb.1
      have e1 : prodL e n r (O.c f m s).parts = (plusO e f, m) :: prodL e n r s.parts := by
        show prodL e n r ((f, m) :: s.parts) = _
        rw [prodL_c, if_neg fz]; rfl
      rw [e1]
      have hd := i2 f tb.2.1 tb.2.2.2
      refine ⟨?_, fun g hg hq p hp => ?_⟩
      · show NF (.c (plusO e f) m (of (prodL e n r s.parts)))
        refine nf_mk (plusO_nf ta.2.1 tb.2.1) tb.2.2.1 i1 fun q hq => ?_
        rw [parts_of] at hq
        exact hd q hq
      · have gf := hq (f, m) (by show _ ∈ (f, m) :: s.parts; simp)
        have ge : cmp (plusO e g) (plusO e f) = 1 := cmp_gt.mpr (plus_mono e f g ta.2.1 tb.2.1 hg (cmp_gt.mp gf))
        rcases List.mem_cons.mp hp with h | h
        · rw [h]; exact ge
        · exact gt_trans ge (hd p h)
theorem plus_size (a b : O) : (plusO a b).size ≤ a.size + b.size := by
  cases b with
  | z => exact Nat.le_add_right _ _
  | c e n r =>
    show (of (above a e ++ (e, sameN a e + n) :: r.parts)).size ≤ _
    rw [size_app]
    have h1 : (of (above a e)).size ≤ (of a.parts).size := size_sub List.filter_sublist
    rw [of_parts] at h1
    show _ + (1 + e.size + (of r.parts).size) ≤ a.size + (1 + e.size + r.size)
    rw [of_parts]; omega
theorem prod_size {e r : O} {n : Int} : ∀ b : O, (of (prodL e n r b.parts)).size ≤ b.size + b.len * (1 + e.size + r.size)
  | .z => Nat.zero_le _
  | .c f m s => by
    have ih := prod_size (e := e) (r := r) (n := n) s
    show (of (prodL e n r ((f, m) :: s.parts))).size ≤ (1 + f.size + s.size) + (s.len + 1) * (1 + e.size + r.size)
    rw [prodL_c, size_app, Nat.succ_mul]
    by_cases fz : f = .z
    · rw [if_pos fz]
      show (1 + e.size + (of r.parts).size) + _ ≤ _
      rw [of_parts]; omega
    · rw [if_neg fz]
      have := plus_size e f
      show (1 + (plusO e f).size + 0) + _ ≤ _
      omega
theorem prod_h {e r : O} {n : Int} {k : Nat} (ha : (O.c e n r).h ≤ k) {b : O} (hb : b.h ≤ k) : (of (prodL e n r b.parts)).h ≤ k := by
  have hh : (O.c e n r).h = max (e.h + 1) r.h := rfl
  refine h_of.mpr fun p hp => ?_
  unfold prodL at hp
  obtain ⟨q, q1, q2⟩ := List.mem_flatMap.mp hp
  have hq := (h_parts b).mp hb q q1
  by_cases fz : q.1 = .z
  · rw [if_pos fz] at q2
    rcases List.mem_cons.mp q2 with h | h
    · rw [h]; show e.h + 1 ≤ k; omega
    · have := part_mem_h h; omega
  · rw [if_neg fz] at q2
    simp only [List.mem_singleton] at q2
    rw [q2]
    have := plusO_h (a := e) (b := q.1) (k := k - 1) (by omega) (by omega)
    show (plusO e q.1).h + 1 ≤ k
    omega
theorem prod_len {e r : O} {n : Int} (b : O) : (prodL e n r b.parts).length ≤ b.len * (1 + r.len) := by
  have key : ∀ ps : List (O × Int), (prodL e n r ps).length ≤ ps.length * (1 + r.len) := fun ps => by
    induction ps with
    | nil => exact Nat.zero_le _
    | cons p ps ih =>
      rw [prodL_c, List.length_append, List.length_cons, Nat.succ_mul]
      split
      · rw [List.length_cons, len_parts]; omega
      · rw [List.length_singleton]; omega
  have := key b.parts
  rw [len_parts] at this
  exact this
theorem times_loop {F : Fn} {k : Nat} (hF : PlusOk k F) {a e r : O} {n : Int} {bb : Option PyData} (hz : a = .c e n r) (na : Nb a) (hk : 7 ≤ k) : ∀ (b : O) (Fd : List (O × Int)) (x y : Option PyData), b.h ≤ 6 → b.size ≤ 1000 → (∀ p ∈ b.parts, p.2.natAbs < 2 ^ 190) → Fd.length + b.len * (1 + r.len) ≤ 2000 →
    ∃ x' y', forL (gtTup 2 (gtCons (gtName 5) (gtCons (gtName 6) gtNil))) (sIf (tOf (eOp gEq (eVar 5) (eTup aNil))) (sSeq (sAppM [4] 4 (eTup (aCons (eVar 2) (aCons (eOp gMul (eVar 3) (eVar 6)) aNil)))) (sExtM [4] 4 (eSl (eVar 0) (oSome (eC (.int 1))) oNone))) (sAppM [4] 4 (eTup (aCons (eFn F (aCons (eVar 2) (aCons (eVar 5) aNil))) (aCons (eVar 6) aNil))))) (encL b) [some (enc a), bb, some (enc e), some (.int n), some (.list (Fd.map encP)), x, y] =
      .nx [some (enc a), bb, some (enc e), some (.int n), some (.list ((Fd ++ prodL e n r b.parts).map encP)), x', y']
  | .z, Fd, x, y, _, _, _, _ => ⟨x, y, by show Out.nx _ = Out.nx _; simp [prodL, O.parts]⟩
  | .c f m s, Fd, x, y, hh, hs, hc, hl => by
    have h3 : (O.c f m s).h = max (f.h + 1) s.h := rfl
    have h4 : (O.c f m s).len = s.len + 1 := rfl
    have h5 : (O.c f m s).size = 1 + f.size + s.size := rfl
    have h6 : (O.c e n r).h = max (e.h + 1) r.h := rfl
    have h7 : (O.c e n r).len = r.len + 1 := rfl
    have hah := na.h
    have hal := na.ll
    have has := na.s
    have h8 : (O.c e n r).size = 1 + e.size + r.size := rfl
    rw [hz] at hah hal has
    have cm := hc (f, m) (by show _ ∈ (f, m) :: s.parts; simp)
    rw [h4, Nat.succ_mul] at hl
    have s1 : Fd.length < sizeLine := sz1000' (by omega)
    have g1 := gEq_nil (a := f) (by omega)
    have cn := na.hd e n r hz
    have mm : cMul n m = true := cMul_of 190 190 cn cm (by decide) (by decide) (by decide)
    have hc2 : ∀ p ∈ s.parts, p.2.natAbs < 2 ^ 190 := fun p hp => hc p (by show _ ∈ (f, m) :: s.parts; simp [hp])
    have b1 : Pu.cutD (encL a) (some 1) none = encL r := by rw [hz]; exact cut_tl _ _
    have lp := len_parts r
    by_cases fz : f = .z
    · rw [decide_eq_true fz] at g1
      obtain ⟨x', y', e1⟩ := times_loop hF (bb := bb) hz na hk s (Fd ++ (e, n * m) :: r.parts) (some (enc f)) (some (.int m)) (by omega) (by omega) hc2 (by rw [List.length_append, List.length_cons]; omega)
      refine ⟨x', y', ?_⟩
      have e2 : Fd ++ prodL e n r (O.c f m s).parts = (Fd ++ (e, n * m) :: r.parts) ++ prodL e n r s.parts := by
        show Fd ++ prodL e n r ((f, m) :: s.parts) = _
        rw [prodL_c, if_pos fz, List.append_assoc]
      rw [e2, ← e1]
      have s2 : Fd.length + 1 + r.len ≤ sizeLine := sz1000 (by omega)
      have ep : (Fd ++ (e, n * m) :: r.parts).map encP = Fd.map encP ++ .tuple [enc e, .int (n * m)] :: encL r := by rw [List.map_append, List.map_cons, ← encL_parts]
      rw [ep]
      show forL _ _ (.tuple [enc f, .int m] :: encL s) _ = _
      rw [u_forL_c]
      simp [g1, mm, s1, b1, s2, mask]
    · rw [decide_eq_false fz] at g1
      obtain ⟨x', y', e1⟩ := times_loop hF (bb := bb) hz na hk s (Fd ++ [(plusO e f, m)]) (some (enc f)) (some (.int m)) (by omega) (by omega) hc2 (by rw [List.length_append, List.length_singleton]; omega)
      refine ⟨x', y', ?_⟩
      have e2 : Fd ++ prodL e n r (O.c f m s).parts = (Fd ++ [(plusO e f, m)]) ++ prodL e n r s.parts := by
        show Fd ++ prodL e n r ((f, m) :: s.parts) = _
        rw [prodL_c, if_neg fz, List.append_assoc]
      rw [e2, ← e1]
      have ne : NF e := (nf_tail (hz ▸ na.nf)).2.1
      have le := len_le_size e
      have lf := len_le_size f
      have pl := hF e f ne (by omega) (by omega) (by omega) (by omega) (by omega)
      have ep : (Fd ++ [(plusO e f, m)]).map encP = Fd.map encP ++ [.tuple [enc (plusO e f), .int m]] := by rw [List.map_append]; rfl
      rw [ep]
      show forL _ _ (.tuple [enc f, .int m] :: encL s) _ = _
      rw [u_forL_c]
      simp [g1, s1, pl, mask]
def TimesOk (F : Fn) : Prop := ∀ a b : O, Nb a → Nb b → F [enc a, enc b] = .ok (enc (prodO a b))
theorem times_step {S : Nat → Fn} {c0 k : Nat} (hF : PlusOk k (S c0)) (hk : 7 ≤ k) : TimesOk (fun ds => fnD 7 (G_times c0 S) ds) := by
  intro a b na nb
  refine fnD_of ?_
  have g1 := gEq_nil (a := a) (by have := na.h; omega)
  by_cases az : a = .z
  · rw [decide_eq_true az] at g1
    have : prodO a b = .z := by rw [az]; rfl
    rw [this]
    unfold G_times
    simp [g1]
  · obtain ⟨e, n, r, hz⟩ : ∃ e n r, a = .c e n r := by
      cases a with
      | z => exact absurd rfl az
      | c e n r => exact ⟨e, n, r, rfl⟩
    rw [decide_eq_false az] at g1
    have b0 : atI (encL a) 0 = some (encP (e, n)) := by rw [hz]; exact atI_zero _ _
    have hl := na.ll
    have h7 : (O.c e n r).len = r.len + 1 := rfl
    rw [hz] at hl
    have hb := nb.ll
    obtain ⟨x', y', e1⟩ := times_loop hF (bb := some (enc b)) hz na hk b [] none none nb.h (by have := nb.s; omega) nb.cs (by
      have : b.len * (1 + r.len) ≤ 4 * 4 := Nat.mul_le_mul hb (by omega)
      simp; omega)
    have e1' : forL (gtTup 2 (gtCons (gtName 5) (gtCons (gtName 6) gtNil))) (sIf (tOf (eOp gEq (eVar 5) (eTup aNil))) (sSeq (sAppM [4] 4 (eTup (aCons (eVar 2) (aCons (eOp gMul (eVar 3) (eVar 6)) aNil)))) (sExtM [4] 4 (eSl (eVar 0) (oSome (eC (.int 1))) oNone))) (sAppM [4] 4 (eTup (aCons (eFn (S c0) (aCons (eVar 2) (aCons (eVar 5) aNil))) (aCons (eVar 6) aNil))))) (encL b) [some (enc a), some (enc b), some (enc e), some (.int n), some (.list []), none, none] = _ := e1
    have ep : enc (prodO a b) = .tuple ((prodL e n r b.parts).map encP) := by rw [hz]; show PyData.tuple (encL (of _)) = _; rw [encL_of]
    rw [ep]
    unfold G_times
    simp [g1, b0, mask, e1']
theorem prodO_nf {a b : O} (ha : NF a) (hb : NF b) : NF (prodO a b) := by
  cases a with
  | z => trivial
  | c e n r => exact (prod_nf ha b hb).1
theorem prodO_h {a b : O} {k : Nat} (ha : a.h ≤ k) (hb : b.h ≤ k) : (prodO a b).h ≤ k := by
  cases a with
  | z => exact Nat.zero_le _
  | c e n r => exact prod_h ha hb
theorem prodO_size {a b : O} (ha : Nb a) (hb : Nb b) : (prodO a b).size ≤ 10000 := by
  cases a with
  | z => exact Nat.zero_le _
  | c e n r =>
    have h1 := prod_size (e := e) (r := r) (n := n) b
    have h2 := ha.s
    have h3 : (O.c e n r).size = 1 + e.size + r.size := rfl
    have h4 : b.len * (1 + e.size + r.size) ≤ 4 * 1000 := Nat.mul_le_mul hb.ll (by omega)
    have h5 := hb.s
    show (of _).size ≤ _
    omega
end Nm
set_option Elab.async false
set_option linter.all false
set_option maxRecDepth 100000
set_option maxHeartbeats 4000000
namespace Nm
open PySem Pu O L2
/-! ### products, place by place -/
theorem prod_bz {a : O} : prodO a .z = .z := by cases a <;> rfl
theorem prod_zero {e r : O} {n m : Int} : prodO (.c e n r) (.c .z m .z) = .c e (n * m) r := by
  show of (prodL e n r ((O.z, m) :: [])) = _
  rw [prodL_c, if_pos rfl]
  show of ((e, n * m) :: r.parts ++ []) = _
  rw [List.append_nil]
  exact congrArg (O.c e (n * m)) (of_parts r)
theorem prod_nz {e r f s : O} {n m : Int} (h : f ≠ .z) : prodO (.c e n r) (.c f m s) = .c (plusO e f) m (prodO (.c e n r) s) := by
  show of (prodL e n r ((f, m) :: s.parts)) = _
  rw [prodL_c, if_neg h]
  rfl
theorem z_lt {f : O} (h : f ≠ .z) : cmp .z f = -1 := by
  cases f with
  | z => exact absurd rfl h
  | c e n r => exact cmp_zc
theorem not_z {f g : O} (h : cmp f g = -1) : g ≠ .z := fun z => by
  rw [z] at h
  cases f <;> simp [cmp] at h
theorem plus_not_z {f g : O} (h : g ≠ .z) : plusO f g ≠ .z := by
  cases g with
  | z => exact absurd rfl h
  | c e n r =>
    intro z
    have := congrArg O.len z
    have hl : (plusO f (.c e n r)).len = (above f e).length + (r.len + 1) := by
      show (of (above f e ++ (e, sameN f e + n) :: r.parts)).len = _
      rw [len_of, List.length_append, List.length_cons, len_parts]
    rw [hl] at this
    have h0 : (O.z).len = 0 := rfl
    omega
/-- the head of a product -/
theorem prod_hd {e r f s : O} {n m : Int} (hb : NF (.c f m s)) : ∃ c t, prodO (.c e n r) (.c f m s) = .c (plusO e f) c t := by
  by_cases fz : f = .z
  · subst fz
    rw [z_min hb, prod_zero]
    exact ⟨_, _, rfl⟩
  · rw [prod_nz fz]; exact ⟨_, _, rfl⟩
theorem prod_dist {e r : O} {n : Int} (ha : NF (.c e n r)) : ∀ b d : O, NF b → NF d → prodO (.c e n r) (plusO b d) = plusO (prodO (.c e n r) b) (prodO (.c e n r) d)
  | .z, d, _, _ => by rw [plus_z, prod_bz, plus_z]
  | .c f m s, .z, _, _ => by rw [prod_bz]; rfl
  | .c f m s, .c g k t, hb, hd => by
    have ne := (nf_tail ha).2.1
    have tb := nf_tail hb
    have td := nf_tail hd
    have pb := prodO_nf ha hb
    have pd := prodO_nf ha hd
    rcases cmp_tri f g with c | c | c
    · rw [plus_lt hb c]
      obtain ⟨c1, t1, e1⟩ := prod_hd (e := e) (r := r) (n := n) hb
      obtain ⟨c2, t2, e2⟩ := prod_hd (e := e) (r := r) (n := n) hd
      rw [e1] at pb ⊢
      rw [e2]
      rw [plus_lt pb (by rw [plus_cmp ne tb.2.1 td.2.1]; exact c)]
    · subst c
      rw [plus_eq hb]
      by_cases fz : f = .z
      · subst fz
        have h1 := z_min hb
        have h2 := z_min hd
        subst h1; subst h2
        rw [prod_zero] at pb
        rw [prod_zero, prod_zero, prod_zero, plus_eq pb, Int.mul_add]
      · rw [prod_nz fz] at pb
        rw [prod_nz fz, prod_nz fz, prod_nz fz, plus_eq pb]
    · have fz : f ≠ .z := not_z (cmp_gt.mp c)
      rw [plus_gt c, prod_nz fz, prod_nz fz, prod_dist ha s (.c g k t) tb.1 hd]
      obtain ⟨c2, t2, e2⟩ := prod_hd (e := e) (r := r) (n := n) hd
      rw [e2]
      rw [plus_gt (by rw [plus_cmp ne tb.2.1 td.2.1]; exact c)]
theorem prod_assoc {a b : O} (ha : NF a) (hb : NF b) : ∀ d : O, NF d → prodO (prodO a b) d = prodO a (prodO b d)
  | .z, _ => by rw [prod_bz, prod_bz, prod_bz]
  | .c g k t, hd => by
    have td := nf_tail hd
    cases a with
    | z => rfl
    | c e n r =>
      cases b with
      | z => rw [prod_bz]; rfl
      | c f m s =>
        have ne := (nf_tail ha).2.1
        have nf := (nf_tail hb).2.1
        by_cases gz : g = .z
        · subst gz
          have h1 := z_min hd
          subst h1
          rw [prod_zero]
          by_cases fz : f = .z
          · subst fz
            have h2 := z_min hb
            subst h2
            rw [prod_zero, prod_zero, prod_zero, Int.mul_assoc]
          · rw [prod_nz fz, prod_nz fz, prod_zero]
        · have ih := prod_assoc ha hb t td.1
          obtain ⟨c1, t1, e1⟩ := prod_hd (e := e) (r := r) (n := n) hb
          rw [prod_nz (e := f) gz, prod_nz (plus_not_z gz), ← ih, e1, prod_nz gz, plus_assoc e f g ne nf td.2.1]
theorem prod_mono {e r : O} {n : Int} (ha : NF (.c e n r)) : ∀ b d : O, NF b → NF d → cmp b d = -1 → cmp (prodO (.c e n r) b) (prodO (.c e n r) d) = -1
  | b, .z, _, _, h => absurd rfl (not_z h)
  | .z, .c g k t, _, hd, _ => by
    obtain ⟨c2, t2, e2⟩ := prod_hd (e := e) (r := r) (n := n) hd
    rw [prod_bz, e2]; exact cmp_zc
  | .c f m s, .c g k t, hb, hd, h => by
    have ta := nf_tail ha
    have tb := nf_tail hb
    have td := nf_tail hd
    rcases cmp_c.mp h with q | ⟨q, q2⟩
    · obtain ⟨c1, t1, e1⟩ := prod_hd (e := e) (r := r) (n := n) hb
      obtain ⟨c2, t2, e2⟩ := prod_hd (e := e) (r := r) (n := n) hd
      rw [e1, e2]
      exact cmp_lt_head (by rw [plus_cmp ta.2.1 tb.2.1 td.2.1]; exact q)
    · subst q
      by_cases fz : f = .z
      · subst fz
        have h1 := z_min hb
        have h2 := z_min hd
        subst h1; subst h2
        rw [prod_zero, prod_zero]
        rcases q2 with q2 | ⟨_, q3⟩
        · exact cmp_c.mpr (Or.inr ⟨rfl, Or.inl (Int.mul_lt_mul_of_pos_left q2 (by have := ta.2.2.1; omega))⟩)
        · rw [cmp_self] at q3; cases q3
      · rw [prod_nz fz, prod_nz fz]
        rcases q2 with q2 | ⟨q2, q3⟩
        · exact cmp_c.mpr (Or.inr ⟨rfl, Or.inl q2⟩)
        · exact cmp_c.mpr (Or.inr ⟨rfl, Or.inr ⟨q2, prod_mono ha s t tb.1 td.1 q3⟩⟩)
theorem prod_cmp {e r : O} {n : Int} (ha : NF (.c e n r)) {b d : O} (hb : NF b) (hd : NF d) : cmp (prodO (.c e n r) b) (prodO (.c e n r) d) = cmp b d := by
  rcases cmp_tri b d with c | c | c
  · rw [c, prod_mono ha b d hb hd c]
  · subst c; rw [cmp_self, cmp_self]
  · rw [c]; exact cmp_gt.mpr (prod_mono ha d b hd hb (cmp_gt.mp c))
theorem prod_weak {b d : O} (hb : NF b) (hd : NF d) (h : cmp b d = -1) : ∀ a : O, NF a → cmp (prodO b a) (prodO d a) = -1 ∨ cmp (prodO b a) (prodO d a) = 0
  | .z, _ => by rw [prod_bz, prod_bz, cmp_self]; exact Or.inr rfl
  | .c g k t, ha => by
    have ta := nf_tail ha
    cases d with
    | z => exact absurd rfl (not_z h)
    | c f' m' s' =>
      cases b with
      | z =>
        obtain ⟨c2, t2, e2⟩ := prod_hd (e := f') (r := s') (n := m') ha
        rw [e2]; exact Or.inl cmp_zc
      | c f m s =>
        have tb := nf_tail hb
        have td := nf_tail hd
        have h' := cmp_c.mp h
        by_cases gz : g = .z
        · subst gz
          have h1 := z_min ha
          subst h1
          rw [prod_zero, prod_zero]
          rcases h' with q | ⟨q, q2 | ⟨q2, q3⟩⟩
          · exact Or.inl (cmp_lt_head q)
          · exact Or.inl (cmp_c.mpr (Or.inr ⟨q, Or.inl (Int.mul_lt_mul_of_pos_right q2 (by have := ta.2.2.1; omega))⟩))
          · exact Or.inl (cmp_c.mpr (Or.inr ⟨q, Or.inr ⟨by rw [q2], q3⟩⟩))
        · have ih := prod_weak hb hd h t ta.1
          rw [prod_nz gz, prod_nz gz]
          have hd2 : cmp (plusO f g) (plusO f' g) = -1 ∨ plusO f g = plusO f' g := by
            rcases h' with q | ⟨q, _⟩
            · rcases plus_weak f f' g ta.2.1 tb.2.1 td.2.1 q with z | z
              · exact Or.inl z
              · exact Or.inr ((cmp_eq _ _).mp z)
            · exact Or.inr (by rw [q])
          rcases hd2 with z | z
          · exact Or.inl (cmp_lt_head z)
          · rw [z]
            rcases ih with i | i
            · exact Or.inl (cmp_c.mpr (Or.inr ⟨rfl, Or.inr ⟨rfl, i⟩⟩))
            · rw [(cmp_eq _ _).mp i, cmp_self]; exact Or.inr rfl
theorem prod_one {a : O} : prodO a (.c .z 1 .z) = a := by
  cases a with
  | z => rfl
  | c e n r => rw [prod_zero, Int.mul_one]
theorem one_prod : ∀ b : O, NF b → prodO (.c .z 1 .z) b = b
  | .z, _ => prod_bz
  | .c f m s, hb => by
    by_cases fz : f = .z
    · subst fz
      rw [z_min hb, prod_zero, Int.one_mul]
    · rw [prod_nz fz, plus_z, one_prod s (nf_tail hb).1]
end Nm
set_option Elab.async false
set_option linter.all false
set_option maxRecDepth 100000
set_option maxHeartbeats 4000000
namespace Nm
open PySem Pu O L2
/-- numbers of a bounded size: parts, exponents' parts, bits of times, parts in all -/
structure Bg (L E C Z : Nat) (a : O) : Prop where
  nf : NF a
  h : a.h ≤ 8
  ll : a.len ≤ L
  el : ∀ p ∈ a.parts, p.1.len ≤ E
  cs : ∀ p ∈ a.parts, p.2.natAbs < 2 ^ C
  s : a.size ≤ Z
theorem Bg.of_nb {a : O} (n : Nb a) : Bg 4 260 300 260 a := ⟨n.nf, by have := n.h; omega, n.ll, fun p hp => by have h1 := size_part hp; have h2 := len_le_size p.1; have := n.s; omega, fun p hp => Nat.lt_of_lt_of_le (n.cs p hp) (Nat.pow_le_pow_right (by decide) (by decide)), n.s⟩
theorem Bg.up {L E C Z L' E' C' Z' : Nat} {a : O} (b : Bg L E C Z a) (h1 : L ≤ L') (h2 : E ≤ E') (h3 : C ≤ C') (h4 : Z ≤ Z') : Bg L' E' C' Z' a :=
  ⟨b.nf, b.h, Nat.le_trans b.ll h1, fun p hp => Nat.le_trans (b.el p hp) h2, fun p hp => Nat.lt_of_lt_of_le (b.cs p hp) (Nat.pow_le_pow_right (by decide) h3), Nat.le_trans b.s h4⟩
theorem times_loopG {F : Fn} {k C1 C2 : Nat} (hF : PlusOk k F) {a e r : O} {n : Int} {bb : Option PyData} (hz : a = .c e n r) (ne : NF e) (eh : e.h ≤ 8) (el : e.len ≤ 1000000) (cn : n.natAbs < 2 ^ C1) (hC1 : 0 < C1) (hC2 : 0 < C2) (hC : C1 + C2 ≤ 100000) (hk : 9 ≤ k) : ∀ (b : O) (Fd : List (O × Int)) (x y : Option PyData), (∀ p ∈ b.parts, p.1.h ≤ 8 ∧ p.1.len ≤ 1000000 ∧ p.2.natAbs < 2 ^ C2) → Fd.length + b.len * (1 + r.len) ≤ 5000000 →
    ∃ x' y', forL (gtTup 2 (gtCons (gtName 5) (gtCons (gtName 6) gtNil))) (sIf (tOf (eOp gEq (eVar 5) (eTup aNil))) (sSeq (sAppM [4] 4 (eTup (aCons (eVar 2) (aCons (eOp gMul (eVar 3) (eVar 6)) aNil)))) (sExtM [4] 4 (eSl (eVar 0) (oSome (eC (.int 1))) oNone))) (sAppM [4] 4 (eTup (aCons (eFn F (aCons (eVar 2) (aCons (eVar 5) aNil))) (aCons (eVar 6) aNil))))) (encL b) [some (enc a), bb, some (enc e), some (.int n), some (.list (Fd.map encP)), x, y] =
      .nx [some (enc a), bb, some (enc e), some (.int n), some (.list ((Fd ++ prodL e n r b.parts).map encP)), x', y']
  | .z, Fd, x, y, _, _ => ⟨x, y, by show Out.nx _ = Out.nx _; simp [prodL, O.parts]⟩
  | .c f m s, Fd, x, y, hc, hl => by
    have h4 : (O.c f m s).len = s.len + 1 := rfl
    obtain ⟨fh, fl, cm⟩ := hc (f, m) (by show _ ∈ (f, m) :: s.parts; simp)
    replace fh : f.h ≤ 8 := fh
    replace fl : f.len ≤ 1000000 := fl
    rw [h4, Nat.succ_mul] at hl
    have s1 : Fd.length < sizeLine := sz1000' (by omega)
    have g1 := gEq_nil (a := f) (by omega)
    have mm : cMul n m = true := cMul_of C1 C2 cn cm hC1 hC2 (by omega)
    have hc2 : ∀ p ∈ s.parts, p.1.h ≤ 8 ∧ p.1.len ≤ 1000000 ∧ p.2.natAbs < 2 ^ C2 := fun p hp => hc p (by show _ ∈ (f, m) :: s.parts; simp [hp])
    have b1 : Pu.cutD (encL a) (some 1) none = encL r := by rw [hz]; exact cut_tl _ _
    have lp := len_parts r
    by_cases fz : f = .z
    · rw [decide_eq_true fz] at g1
      obtain ⟨x', y', e1⟩ := times_loopG hF (bb := bb) hz ne eh el cn hC1 hC2 hC hk s (Fd ++ (e, n * m) :: r.parts) (some (enc f)) (some (.int m)) hc2 (by rw [List.length_append, List.length_cons]; omega)
      refine ⟨x', y', ?_⟩
      have e2 : Fd ++ prodL e n r (O.c f m s).parts = (Fd ++ (e, n * m) :: r.parts) ++ prodL e n r s.parts := by
        show Fd ++ prodL e n r ((f, m) :: s.parts) = _
        rw [prodL_c, if_pos fz, List.append_assoc]
      rw [e2, ← e1]
      have s2 : Fd.length + 1 + r.len ≤ sizeLine := sz1000 (by omega)
      have ep : (Fd ++ (e, n * m) :: r.parts).map encP = Fd.map encP ++ .tuple [enc e, .int (n * m)] :: encL r := by rw [List.map_append, List.map_cons, ← encL_parts]
      rw [ep]
      show forL _ _ (.tuple [enc f, .int m] :: encL s) _ = _
      rw [u_forL_c]
      simp [g1, mm, s1, b1, s2, mask]
    · rw [decide_eq_false fz] at g1
      obtain ⟨x', y', e1⟩ := times_loopG hF (bb := bb) hz ne eh el cn hC1 hC2 hC hk s (Fd ++ [(plusO e f, m)]) (some (enc f)) (some (.int m)) hc2 (by rw [List.length_append, List.length_singleton]; omega)
      refine ⟨x', y', ?_⟩
      have e2 : Fd ++ prodL e n r (O.c f m s).parts = (Fd ++ [(plusO e f, m)]) ++ prodL e n r s.parts := by
        show Fd ++ prodL e n r ((f, m) :: s.parts) = _
        rw [prodL_c, if_neg fz, List.append_assoc]
      rw [e2, ← e1]
      have pl := hF e f ne (by omega) (by omega) (by omega) (by omega) (by omega)
      have ep : (Fd ++ [(plusO e f, m)]).map encP = Fd.map encP ++ [.tuple [enc (plusO e f), .int m]] := by rw [List.map_append]; rfl
      rw [ep]
      show forL _ _ (.tuple [enc f, .int m] :: encL s) _ = _
      rw [u_forL_c]
      simp [g1, s1, pl, mask]
def TimesG (F : Fn) : Prop := ∀ {L1 E1 C1 Z1 L2 E2 C2 Z2 : Nat} {a b : O}, Bg L1 E1 C1 Z1 a → Bg L2 E2 C2 Z2 b → E1 ≤ 1000000 → E2 ≤ 1000000 → L2 * (1 + L1) ≤ 5000000 → 0 < C1 → 0 < C2 → C1 + C2 ≤ 100000 → F [enc a, enc b] = .ok (enc (prodO a b))
theorem times_stepG {S : Nat → Fn} {c0 k : Nat} (hF : PlusOk k (S c0)) (hk : 9 ≤ k) : TimesG (fun ds => fnD 7 (G_times c0 S) ds) := by
  intro L1 E1 C1 Z1 L2 E2 C2 Z2 a b na nb hE1 hE2 hL hC1 hC2 hC
  refine fnD_of ?_
  have g1 := gEq_nil (a := a) (by have := na.h; omega)
  by_cases az : a = .z
  · rw [decide_eq_true az] at g1
    have : prodO a b = .z := by rw [az]; rfl
    rw [this]
    unfold G_times
    simp [g1]
  · obtain ⟨e, n, r, hz⟩ : ∃ e n r, a = .c e n r := by
      cases a with
      | z => exact absurd rfl az
      | c e n r => exact ⟨e, n, r, rfl⟩
    rw [decide_eq_false az] at g1
    have b0 : atI (encL a) 0 = some (encP (e, n)) := by rw [hz]; exact atI_zero _ _
    have hl := na.ll
    have h7 : (O.c e n r).len = r.len + 1 := rfl
    have hm : (e, n) ∈ a.parts := by rw [hz]; show _ ∈ (e, n) :: r.parts; simp
    have eh := part_mem_h hm
    have ell := na.el _ hm
    have ecs := na.cs _ hm
    have ene := (((nf_parts a).mp na.nf).2 _ hm).1
    have hah := na.h
    rw [hz] at hl
    obtain ⟨x', y', e1⟩ := times_loopG hF (C1 := C1) (C2 := C2) (bb := some (enc b)) hz ene (by replace eh : e.h + 1 ≤ a.h := eh; omega) (Nat.le_trans ell hE1) ecs hC1 hC2 hC hk b [] none none (fun p hp => ⟨by have := part_mem_h hp; have := nb.h; omega, Nat.le_trans (nb.el p hp) hE2, nb.cs p hp⟩) (by
      have : b.len * (1 + r.len) ≤ L2 * (1 + L1) := Nat.mul_le_mul nb.ll (by omega)
      simp; omega)
    have e1' : forL (gtTup 2 (gtCons (gtName 5) (gtCons (gtName 6) gtNil))) (sIf (tOf (eOp gEq (eVar 5) (eTup aNil))) (sSeq (sAppM [4] 4 (eTup (aCons (eVar 2) (aCons (eOp gMul (eVar 3) (eVar 6)) aNil)))) (sExtM [4] 4 (eSl (eVar 0) (oSome (eC (.int 1))) oNone))) (sAppM [4] 4 (eTup (aCons (eFn (S c0) (aCons (eVar 2) (aCons (eVar 5) aNil))) (aCons (eVar 6) aNil))))) (encL b) [some (enc a), some (enc b), some (enc e), some (.int n), some (.list []), none, none] = _ := e1
    have ep : enc (prodO a b) = .tuple ((prodL e n r b.parts).map encP) := by rw [hz]; show PyData.tuple (encL (of _)) = _; rw [encL_of]
    rw [ep]
    unfold G_times
    simp [g1, b0, mask, e1']
theorem natAbs_mul_lt {n m : Int} {A B : Nat} (h1 : n.natAbs < 2 ^ A) (h2 : m.natAbs < 2 ^ B) : (n * m).natAbs < 2 ^ (A + B) := by
  rw [Int.natAbs_mul, Nat.pow_add]
  have hb : 0 < 2 ^ B := Nat.pow_pos (by decide)
  rcases Nat.eq_zero_or_pos m.natAbs with z | z
  · rw [z, Nat.mul_zero]; exact Nat.mul_pos (Nat.pow_pos (by decide)) hb
  · exact Nat.lt_of_lt_of_le (Nat.mul_lt_mul_of_pos_right h1 z) (Nat.mul_le_mul_left _ (Nat.le_of_lt h2))
theorem Bg.prod {L1 E1 C1 Z1 L2 E2 C2 Z2 : Nat} {a b : O} (na : Bg L1 E1 C1 Z1 a) (nb : Bg L2 E2 C2 Z2 b) : Bg (L2 * (1 + L1)) (E1 + E2) (C1 + C2) (Z2 + L2 * Z1) (prodO a b) := by
  cases a with
  | z => exact ⟨trivial, Nat.zero_le _, Nat.zero_le _, (fun p hp => by cases hp), (fun p hp => by cases hp), Nat.zero_le _⟩
  | c e n r =>
    have hm : (e, n) ∈ (O.c e n r).parts := by show _ ∈ (e, n) :: r.parts; simp
    have inr : ∀ p ∈ r.parts, p ∈ (O.c e n r).parts := fun p hp => by show p ∈ (e, n) :: r.parts; simp [hp]
    have ell : e.len ≤ E1 := na.el _ hm
    have ecs := na.cs _ hm
    have hl := na.ll
    have h7 : (O.c e n r).len = r.len + 1 := rfl
    have hs := na.s
    have h8 : (O.c e n r).size = 1 + e.size + r.size := rfl
    have p1 : 2 ^ C1 ≤ 2 ^ (C1 + C2) := Nat.pow_le_pow_right (by decide) (by omega)
    have p2 : 2 ^ C2 ≤ 2 ^ (C1 + C2) := Nat.pow_le_pow_right (by decide) (by omega)
    refine ⟨prodO_nf na.nf nb.nf, prodO_h na.h nb.h, ?_, fun p hp => ?_, fun p hp => ?_, ?_⟩
    · show (of _).len ≤ _
      rw [len_of]
      have h1 := prod_len (e := e) (n := n) (r := r) b
      have h2 : b.len * (1 + r.len) ≤ L2 * (1 + L1) := Nat.mul_le_mul nb.ll (by omega)
      omega
    · rw [show (prodO (.c e n r) b).parts = prodL e n r b.parts from parts_of _] at hp
      unfold prodL at hp
      obtain ⟨q, q1, q2⟩ := List.mem_flatMap.mp hp
      have hq := nb.el q q1
      by_cases fz : q.1 = .z
      · rw [if_pos fz] at q2
        rcases List.mem_cons.mp q2 with h | h
        · rw [h]; show e.len ≤ _; omega
        · have := na.el p (inr p h); omega
      · rw [if_neg fz] at q2
        simp only [List.mem_singleton] at q2
        rw [q2]
        have := plusO_len (a := e) (b := q.1)
        show (plusO e q.1).len ≤ _
        omega
    · rw [show (prodO (.c e n r) b).parts = prodL e n r b.parts from parts_of _] at hp
      unfold prodL at hp
      obtain ⟨q, q1, q2⟩ := List.mem_flatMap.mp hp
      have hq := nb.cs q q1
      by_cases fz : q.1 = .z
      · rw [if_pos fz] at q2
        rcases List.mem_cons.mp q2 with h | h
        · rw [h]; exact natAbs_mul_lt ecs hq
        · exact Nat.lt_of_lt_of_le (na.cs p (inr p h)) p1
      · rw [if_neg fz] at q2
        simp only [List.mem_singleton] at q2
        rw [q2]; exact Nat.lt_of_lt_of_le hq p2
    · have h1 := prod_size (e := e) (r := r) (n := n) b
      have h4 : b.len * (1 + e.size + r.size) ≤ L2 * Z1 := Nat.mul_le_mul nb.ll (by omega)
      have h5 := nb.s
      show (of _).size ≤ _
      omega
theorem Bg.plus {L1 E1 C1 Z1 L2 E2 C2 Z2 : Nat} {a b : O} (na : Bg L1 E1 C1 Z1 a) (nb : Bg L2 E2 C2 Z2 b) : Bg (L1 + L2) (E1 + E2) (C1 + C2 + 1) (Z1 + Z2) (plusO a b) := by
  have p1 : 2 ^ C1 ≤ 2 ^ (C1 + C2) := Nat.pow_le_pow_right (by decide) (by omega)
  have p2 : 2 ^ C2 ≤ 2 ^ (C1 + C2) := Nat.pow_le_pow_right (by decide) (by omega)
  have p3 : 2 ^ (C1 + C2 + 1) = 2 * 2 ^ (C1 + C2) := by rw [Nat.pow_succ]; omega
  refine ⟨plusO_nf na.nf nb.nf, plusO_h na.h nb.h, by have := plusO_len (a := a) (b := b); have := na.ll; have := nb.ll; omega, ?_, ?_, by have := plus_size a b; have := na.s; have := nb.s; omega⟩
  · cases b with
    | z => intro p hp; have := na.el p hp; omega
    | c e n r =>
      intro p hp
      rw [show (plusO a (.c e n r)).parts = above a e ++ (e, sameN a e + n) :: r.parts from parts_of _] at hp
      have inb : ∀ q ∈ (e, n) :: r.parts, q.1.len ≤ E2 := fun q hq => nb.el q hq
      rcases List.mem_append.mp hp with h | h
      · have := na.el p (List.mem_filter.mp h).1; omega
      · rcases List.mem_cons.mp h with h | h
        · rw [h]; have := inb (e, n) (by simp); show e.len ≤ _; replace this : e.len ≤ E2 := this; omega
        · have := inb p (List.mem_cons_of_mem _ h); omega
  · cases b with
    | z => intro p hp; have := na.cs p hp; omega
    | c e n r =>
      intro p hp
      rw [show (plusO a (.c e n r)).parts = above a e ++ (e, sameN a e + n) :: r.parts from parts_of _] at hp
      have inb : ∀ q ∈ (e, n) :: r.parts, q.2.natAbs < 2 ^ C2 := fun q hq => nb.cs q hq
      rcases List.mem_append.mp hp with h | h
      · have := na.cs p (List.mem_filter.mp h).1; omega
      · rcases List.mem_cons.mp h with h | h
        · have h1 := inb (e, n) (by simp)
          have h2 : (sameN a e).natAbs < 2 ^ C1 := by
            obtain ⟨_, s2⟩ := split_aux e a.parts ((nf_parts a).mp na.nf).1
            rcases s2 with s2 | ⟨k, s2⟩
            · have : sameN a e = 0 := by unfold sameN; rw [s2]; rfl
              rw [this]; exact Nat.pow_pos (by decide)
            · have : sameN a e = k := by unfold sameN; rw [s2]; simp
              rw [this]
              have hm : (e, k) ∈ a.parts := (List.mem_filter.mp (by rw [s2]; simp : (e, k) ∈ a.parts.filter fun p => decide (p.1 = e))).1
              exact na.cs _ hm
          rw [h]
          show (sameN a e + n).natAbs < _
          replace h1 : n.natAbs < 2 ^ C2 := h1
          omega
        · have := inb p (List.mem_cons_of_mem _ h); omega
end Nm
set_option Elab.async false
set_option linter.all false
set_option maxRecDepth 100000
set_option maxHeartbeats 4000000
namespace Nm
open PySem Pu O L2
/-! ### ladders -/
def isLim : O → Bool
  | .z => false
  | .c e _ r => if r = .z then !decide (e = .z) else isLim r
def tailP (e : O) (m : Int) (x : O) : O := if m = 1 then x else .c e (m - 1) x
def predO : O → O
  | .z => .z
  | .c e m r => if r = .z then tailP e m .z else .c e m (predO r)
def rung : O → Int → O
  | .z, _ => .z
  | .c e m r, n => if r = .z then (if e = .z then tailP e m .z else if isLim e = true then tailP e m (.c (rung e n) 1 .z) else tailP e m (if n = 0 then .z else .c (predO e) n .z)) else .c e m (rung r n)
/-- what stands below a number, its heads below what is above its heads -/
structure Below (x a : O) : Prop where
  nf : NF x
  lt : cmp x a = -1
  hd : ∀ g, (∀ q ∈ a.parts, cmp g q.1 = 1) → ∀ p ∈ x.parts, cmp g p.1 = 1
theorem tail_below {e x : O} {m : Int} (h : NF (.c e m .z)) (nx : NF x) (hx : ∀ p ∈ x.parts, cmp e p.1 = 1) : Below (tailP e m x) (.c e m .z) := by
  have t := nf_tail h
  have up : ∀ g, cmp g e = 1 → ∀ p ∈ x.parts, cmp g p.1 = 1 := fun g hg p hp => gt_trans hg (hx p hp)
  have xlt : cmp x (.c e m .z) = -1 := by
    cases x with
    | z => exact cmp_zc
    | c f k s => exact cmp_lt_head (cmp_gt.mp (hx (f, k) (by show _ ∈ (f, k) :: s.parts; simp)))
  unfold tailP
  by_cases c : m = 1
  · rw [if_pos c]
    exact ⟨nx, xlt, fun g hg p hp => up g (hg (e, m) (by show _ ∈ (e, m) :: []; simp)) p hp⟩
  · rw [if_neg c]
    refine ⟨nf_mk t.2.1 (by omega) nx hx, cmp_c.mpr (Or.inr ⟨rfl, Or.inl (by omega)⟩), fun g hg p hp => ?_⟩
    have ge := hg (e, m) (by show _ ∈ (e, m) :: []; simp)
    rcases List.mem_cons.mp (show p ∈ (e, m - 1) :: x.parts from hp) with h | h
    · rw [h]; exact ge
    · exact up g ge p h
theorem cons_below {e r x : O} {m : Int} (h : NF (.c e m r)) (b : Below x r) : Below (.c e m x) (.c e m r) := by
  have t := nf_tail h
  refine ⟨nf_mk t.2.1 t.2.2.1 b.nf (b.hd e t.2.2.2), cmp_c.mpr (Or.inr ⟨rfl, Or.inr ⟨rfl, b.lt⟩⟩), fun g hg p hp => ?_⟩
  rcases List.mem_cons.mp (show p ∈ (e, m) :: x.parts from hp) with h | h
  · rw [h]; exact hg (e, m) (by show _ ∈ (e, m) :: r.parts; simp)
  · exact b.hd g (fun q hq => hg q (by show q ∈ (e, m) :: r.parts; simp [hq])) p h
theorem pred_below : ∀ a : O, NF a → a ≠ .z → Below (predO a) a
  | .z, _, h => absurd rfl h
  | .c e m r, h, _ => by
    unfold predO
    by_cases c : r = .z
    · rw [if_pos c]; subst c
      exact tail_below h trivial (fun p hp => by cases hp)
    · rw [if_neg c]
      exact cons_below h (pred_below r (nf_tail h).1 c)
theorem rung_below : ∀ (a : O) (n : Int), NF a → a ≠ .z → 0 ≤ n → Below (rung a n) a
  | .z, _, _, h, _ => absurd rfl h
  | .c e m r, n, h, _, hn => by
    have t := nf_tail h
    unfold rung
    by_cases c : r = .z
    · rw [if_pos c]; subst c
      by_cases ez : e = .z
      · rw [if_pos ez]
        exact tail_below h trivial (fun p hp => by cases hp)
      · rw [if_neg ez]
        by_cases l : isLim e = true
        · rw [if_pos l]
          have b := rung_below e n t.2.1 ez hn
          refine tail_below h (nf_mk b.nf (by decide) trivial (fun q hq => by cases hq)) fun p hp => ?_
          rcases List.mem_cons.mp (show p ∈ (rung e n, 1) :: [] from hp) with h | h
          · rw [h]; exact cmp_gt.mpr b.lt
          · cases h
        · rw [if_neg l]
          have b := pred_below e t.2.1 ez
          by_cases n0 : n = 0
          · rw [if_pos n0]
            exact tail_below h trivial (fun p hp => by cases hp)
          · rw [if_neg n0]
            refine tail_below h (nf_mk b.nf (by omega) trivial (fun q hq => by cases hq)) fun p hp => ?_
            rcases List.mem_cons.mp (show p ∈ (predO e, n) :: [] from hp) with h | h
            · rw [h]; exact cmp_gt.mpr b.lt
            · cases h
    · rw [if_neg c]
      exact cons_below h (rung_below r n t.1 c hn)
theorem tail_lt {e x y : O} {m : Int} (h : cmp x y = -1) : cmp (tailP e m x) (tailP e m y) = -1 := by
  unfold tailP
  by_cases c : m = 1
  · rw [if_pos c, if_pos c]; exact h
  · rw [if_neg c, if_neg c]; exact cmp_c.mpr (Or.inr ⟨rfl, Or.inr ⟨rfl, h⟩⟩)
theorem rung_rise : ∀ (a : O) (n k : Int), isLim a = true → 0 ≤ n → n < k → cmp (rung a n) (rung a k) = -1
  | .z, _, _, h, _, _ => by cases h
  | .c e m r, n, k, h, hn, hk => by
    unfold isLim at h
    unfold rung
    by_cases c : r = .z
    · rw [if_pos c] at h
      rw [if_pos c, if_pos c]
      have ez : e ≠ .z := fun z => by rw [z] at h; simp at h
      rw [if_neg ez, if_neg ez]
      by_cases l : isLim e = true
      · rw [if_pos l, if_pos l]
        exact tail_lt (cmp_lt_head (rung_rise e n k l hn hk))
      · rw [if_neg l, if_neg l]
        refine tail_lt ?_
        rw [if_neg (show ¬ k = 0 by omega)]
        by_cases n0 : n = 0
        · rw [if_pos n0]; exact cmp_zc
        · rw [if_neg n0]; exact cmp_c.mpr (Or.inr ⟨rfl, Or.inl hk⟩)
    · rw [if_neg c] at h
      rw [if_neg c, if_neg c]
      exact cmp_c.mpr (Or.inr ⟨rfl, Or.inr ⟨rfl, rung_rise r n k h hn hk⟩⟩)
/-- of no limit: both rungs are the number less one -/
theorem rung_succ : ∀ (a : O) (n : Int), a ≠ .z → isLim a = false → rung a n = predO a
  | .z, _, h, _ => absurd rfl h
  | .c e m r, n, _, h => by
    unfold isLim at h
    unfold rung predO
    by_cases c : r = .z
    · rw [if_pos c] at h
      rw [if_pos c, if_pos c]
      have ez : e = .z := by
        by_cases q : e = .z
        · exact q
        · simp [q] at h
      rw [if_pos ez]
    · rw [if_neg c] at h
      rw [if_neg c, if_neg c, rung_succ r n c h]
theorem pred_plus : ∀ a : O, NF a → a ≠ .z → isLim a = false → plusO (predO a) (.c .z 1 .z) = a
  | .z, _, h, _ => absurd rfl h
  | .c e m r, ha, _, h => by
    have t := nf_tail ha
    unfold isLim at h
    unfold predO
    by_cases c : r = .z
    · rw [if_pos c] at h
      rw [if_pos c]
      have ez : e = .z := by
        by_cases q : e = .z
        · exact q
        · simp [q] at h
      subst ez; subst c
      unfold tailP
      by_cases m1 : m = 1
      · rw [if_pos m1, plus_z, m1]
      · have m2 := t.2.2.1
        have hn : NF (.c .z (m - 1) .z) := nf_mk trivial (by omega) trivial (fun q hq => by cases hq)
        rw [if_neg m1, plus_eq hn, show m - 1 + 1 = m by omega]
    · rw [if_neg c] at h
      rw [if_neg c]
      have ez : e ≠ .z := by
        cases r with
        | z => exact absurd rfl c
        | c f k s => exact not_z (cmp_gt.mp (t.2.2.2 (f, k) (by show _ ∈ (f, k) :: s.parts; simp)))
      rw [plus_gt (cmp_gt.mpr (z_lt ez)), pred_plus r t.1 c h]
end Nm
set_option Elab.async false
set_option linter.all false
set_option maxRecDepth 100000
namespace Pu
open PySem
-- k04 k27 k28 k29 k30 k31 k32 k33 k34 k35 k36 k37 k71 k72 k73 k75 k76 k81 k82 k84 slots 1 params 1
def G_whole_part (S : Nat → List PyData → R PyData) : Vars → Out :=
  (sSeq (sIf (tOrR (tOf (eOp gEq (eVar 0) (eTup aNil))) (tOf (eOp gNe (eOp gIx (eOp gIx (eVar 0) (eNeg (eC (.int 1)))) (eC (.int 0))) (eTup aNil)))) (sRet (eC (.int 0))) sNil)
    (sRet (eOp gIx (eOp gIx (eVar 0) (eNeg (eC (.int 1)))) (eC (.int 1)))))
-- k04 k31 k32 k33 k34 k35 k36 k37 k75 k76 k82 k84 slots 1 params 1
def G_is_limit (c0 : Nat) (S : Nat → List PyData → R PyData) : Vars → Out :=
  (sRet (eAnd (eOp gNe (eVar 0) (eTup aNil)) (eOp gEq (eFn (S c0) (aCons (eVar 0) aNil)) (eC (.int 0)))))
-- k30 slots 3 params 1
def G_l_limit_by (c0 c1 : Nat) (S : Nat → List PyData → R PyData) : Vars → Out :=
  (sSeq (sSet [] 1 (eCall gTuple (aCons (eLc (iSeq (eFn (S c0) (aCons (eVar 0) (aCons (eOp gMod (eFn (S c1) (aCons (eVar 0) (aCons (eC (.int 9)) aNil))) (eC (.int 4))) aNil)))) (gtName 2) (tOf (eOp gNe (eOp gIx (eVar 2) (eC (.int 0))) (eTup aNil))) (eVar 2) [2]) aNil)))
    (sSeq (sIf (tOf (eOp gNe (eVar 1) (eTup aNil))) (sRet (eVar 1)) sNil)
    (sRet (eTup (aCons (eTup (aCons (eTup (aCons (eTup (aCons (eTup aNil) (aCons (eOp gAdd (eC (.int 1)) (eOp gMod (eVar 0) (eOp gPow (eC (.int 10)) (eC (.int 20))))) aNil))) aNil)) (aCons (eC (.int 1)) aNil))) aNil)))))
-- k31 k32 k33 k34 k35 k36 k37 k54 k55 k56 k57 k58 k75 k76 k82 k84 slots 3 params 1
def G_once_less (S : Nat → List PyData → R PyData) : Vars → Out :=
  (sSeq (sAsg [] (gtTup 2 (gtCons (gtName 1) (gtCons (gtName 2) gtNil))) (eOp gIx (eVar 0) (eNeg (eC (.int 1)))))
    (sSeq (sIf (tOf (eOp gEq (eVar 2) (eC (.int 1)))) (sRet (eSl (eVar 0) oNone (oSome (eNeg (eC (.int 1)))))) sNil)
    (sRet (eOp gAdd (eSl (eVar 0) oNone (oSome (eNeg (eC (.int 1))))) (eTup (aCons (eTup (aCons (eVar 1) (aCons (eOp gSub (eVar 2) (eC (.int 1))) aNil))) aNil))))))
-- k31 k32 k33 k34 k35 k36 k37 k75 k76 k82 k84 slots 4 params 2
def G_climbed (c0 c1 c2 c3 : Nat) (S : Nat → List PyData → R PyData) : Vars → Out :=
  (sSeq (sSet [] 2 (eFn (S c0) (aCons (eVar 0) aNil)))
    (sSeq (sSet [] 3 (eOp gIx (eOp gIx (eVar 0) (eNeg (eC (.int 1)))) (eC (.int 0))))
    (sSeq (sIf (tOf (eOp gEq (eVar 3) (eTup aNil))) (sRet (eVar 2)) sNil)
    (sSeq (sIf (tTru (eFn (S c1) (aCons (eVar 3) aNil))) (sRet (eOp gAdd (eVar 2) (eFn (fun ds => S c3 (ds ++ [.int 1])) (aCons (eFn (S c2) (aCons (eVar 3) (aCons (eVar 1) aNil))) aNil)))) sNil)
    (sRet (eOp gAdd (eVar 2) (eFn (S c3) (aCons (eFn (S c0) (aCons (eVar 3) aNil)) (aCons (eVar 1) aNil)))))))))
-- k31 k32 k33 k34 k35 k36 k37 k75 k76 k82 k84 slots 2 params 2
def G_ladder (c0 c1 : Nat) (S : Nat → List PyData → R PyData) : Vars → Out :=
  (sSeq (sIf (tOf (eOp gEq (eVar 0) (eTup aNil))) (sRaise "Nought") sNil)
    (sSeq (sIf (tNotR (tTru (eFn (S c0) (aCons (eVar 1) aNil)))) (sRaise "NoNumber") sNil)
    (sRet (eFn (S c1) (aCons (eVar 0) (aCons (eVar 1) aNil))))))
end Pu
set_option Elab.async false
set_option linter.all false
set_option maxRecDepth 100000
set_option maxHeartbeats 4000000
namespace Nm
open PySem Pu O L2
/-! ### ladders: what the program does -/
/-- the last part -/
def lastP : O → O × Int
  | .z => (.z, 0)
  | .c e m r => if r = .z then (e, m) else lastP r
theorem last_get : ∀ {a : O}, a ≠ .z → a.parts.getLast? = some (lastP a)
  | .z, h => absurd rfl h
  | .c e m r, _ => by
    show ((e, m) :: r.parts).getLast? = some (if r = .z then (e, m) else lastP r)
    by_cases c : r = .z
    · rw [if_pos c]; subst c; rfl
    · rw [if_neg c]
      have hne : r.parts ≠ [] := fun z => c (parts_inj (b := .z) z)
      rw [List.getLast?_cons_of_ne_nil hne]
      exact last_get c
theorem isLim_last : ∀ {a : O}, a ≠ .z → isLim a = !decide ((lastP a).1 = .z)
  | .z, h => absurd rfl h
  | .c e m r, _ => by
    unfold isLim lastP
    by_cases c : r = .z
    · rw [if_pos c, if_pos c]
    · rw [if_neg c, if_neg c]; exact isLim_last c
/-- all but the last part -/
def initO (a : O) : O := of (a.parts.take (a.len - 1))
theorem tail_form : ∀ {a x : O}, a ≠ .z → a.parts.take (a.len - 1) ++ (tailP (lastP a).1 (lastP a).2 x).parts = (if (lastP a).2 = 1 then a.parts.take (a.len - 1) ++ x.parts else a.parts.take (a.len - 1) ++ ((lastP a).1, (lastP a).2 - 1) :: x.parts) := by
  intro a x _
  unfold tailP
  by_cases c : (lastP a).2 = 1
  · rw [if_pos c, if_pos c]
  · rw [if_neg c, if_neg c]; rfl
theorem predO_parts : ∀ {a : O}, a ≠ .z → (predO a).parts = a.parts.take (a.len - 1) ++ (tailP (lastP a).1 (lastP a).2 .z).parts
  | .z, h => absurd rfl h
  | .c e m r, _ => by
    unfold predO lastP
    by_cases c : r = .z
    · rw [if_pos c, if_pos c]
      subst c
      rfl
    · rw [if_neg c, if_neg c]
      have ih := predO_parts c
      have hl : (O.c e m r).len - 1 = (r.len - 1) + 1 := by
        have : 0 < r.len := by
          cases r with
          | z => exact absurd rfl c
          | c f k s => show 0 < s.len + 1; omega
        show r.len + 1 - 1 = _; omega
      rw [hl]
      show (e, m) :: (predO r).parts = (e, m) :: r.parts.take (r.len - 1) ++ _
      rw [ih]; rfl
def PredOk (F : Fn) : Prop := ∀ a : O, a ≠ .z → a.h ≤ 30 → a.len ≤ 1000 → F [enc a] = .ok (enc (predO a))
theorem once_less_step (S : Nat → Fn) : PredOk (fun ds => fnD 3 (G_once_less S) ds) := by
  intro a az ah al
  refine fnD_of ?_
  obtain ⟨p, p1, p2, p3⟩ := part_last az
  rw [last_get az] at p3
  cases p3
  have ci : Pu.cutD (encL a) none (some (-1)) = (a.parts.take (a.len - 1)).map encP := by rw [cut_init, encL_take, encL_len, encL_of]
  have s1 : (a.parts.take (a.len - 1)).length + 1 ≤ sizeLine := sz1000 (by have := List.length_take_le (a.len - 1) a.parts; omega)
  have ep : enc (predO a) = .tuple ((a.parts.take (a.len - 1)).map encP ++ (tailP (lastP a).1 (lastP a).2 .z).parts.map encP) := by
    show PyData.tuple (encL _) = _
    rw [encL_parts, predO_parts az, List.map_append]
  rw [ep]
  unfold G_once_less
  by_cases c : (lastP a).2 = 1
  · have : tailP (lastP a).1 (lastP a).2 .z = .z := if_pos c
    rw [this]
    simp [p2, c, ci, O.parts]
  · have : tailP (lastP a).1 (lastP a).2 .z = .c (lastP a).1 ((lastP a).2 - 1) .z := if_neg c
    rw [this]
    rw [List.length_take] at s1
    simp [p2, c, ci, s1, O.parts]
end Nm
namespace Nm
open PySem Pu O L2
def LimOk (F : Fn) : Prop := ∀ a : O, NF a → a.h ≤ 30 → F [enc a] = .ok (.bool (isLim a))
theorem lastP_pos : ∀ {a : O}, NF a → a ≠ .z → 1 ≤ (lastP a).2 := fun {a} na az => by
  have h := last_get az
  have hm := List.mem_of_getLast? h
  exact (((nf_parts a).mp na).2 _ hm).2
theorem is_limit_step {S : Nat → Fn} {S2 : Nat → Fn} {c0 : Nat} (hw : ∀ a, S c0 [enc a] = fnD 1 (G_whole_part S2) [enc a]) : LimOk (fun ds => fnD 1 (G_is_limit c0 S) ds) := by
  intro a na ah
  refine fnD_of ?_
  have g1 := gNe_nil (a := a) (by omega)
  have g2 := gEq_nil (a := a) (by omega)
  by_cases az : a = .z
  · rw [decide_eq_true az] at g1
    have : isLim a = false := by rw [az]; rfl
    rw [this]
    unfold G_is_limit
    simp [g1]
  · rw [decide_eq_false az] at g1 g2
    obtain ⟨p, p1, p2, p3⟩ := part_last az
    rw [last_get az] at p3
    cases p3
    have ph := part_mem_h p1
    have g3 := gNe_nil (a := (lastP a).1) (by omega)
    have pos := lastP_pos na az
    have e1 : fnD 1 (G_whole_part S2) [enc a] = .ok (.int (if (lastP a).1 = .z then (lastP a).2 else 0)) := by
      refine fnD_of ?_
      unfold G_whole_part
      by_cases c : (lastP a).1 = .z
      · rw [decide_eq_true c] at g3
        rw [if_pos c]
        simp [g2, p2, g3]
      · rw [decide_eq_false c] at g3
        rw [if_neg c]
        simp [g2, p2, g3]
    have e2 := hw a
    rw [e1] at e2
    have e3 := isLim_last az
    rw [e3]
    unfold G_is_limit
    by_cases c : (lastP a).1 = .z
    · have n0 : ¬ (lastP a).2 = 0 := by omega
      rw [if_pos c] at e2
      simp [g1, e2, c, n0]
    · rw [if_neg c] at e2
      simp [g1, e2, c]
/-- a rung by the last part -/
def rungX (e : O) (n : Int) : O := if e = .z then .z else if isLim e = true then .c (rung e n) 1 .z else if n = 0 then .z else .c (predO e) n .z
theorem rung_parts : ∀ {a : O} (n : Int), a ≠ .z → (rung a n).parts = (predO a).parts ++ (rungX (lastP a).1 n).parts
  | .z, _, h => absurd rfl h
  | .c e m r, n, _ => by
    rw [rung, predO, lastP]
    by_cases c : r = .z
    · rw [if_pos c, if_pos c, if_pos c]
      unfold rungX tailP
      by_cases ez : e = .z
      · rw [if_pos ez, if_pos ez]; simp [O.parts]
      · rw [if_neg ez, if_neg ez]
        by_cases l : isLim e = true
        · rw [if_pos l, if_pos l]
          by_cases m1 : m = 1
          · rw [if_pos m1, if_pos m1]; rfl
          · rw [if_neg m1, if_neg m1]; rfl
        · rw [if_neg l, if_neg l]
          by_cases m1 : m = 1
          · rw [if_pos m1, if_pos m1]; rfl
          · rw [if_neg m1, if_neg m1]; rfl
    · rw [if_neg c, if_neg c, if_neg c]
      have ih := rung_parts n c
      show (e, m) :: (rung r n).parts = (e, m) :: (predO r).parts ++ _
      rw [ih]; rfl
end Nm
set_option Elab.async false
set_option linter.all false
set_option maxRecDepth 100000
set_option maxHeartbeats 4000000
namespace Nm
open PySem Pu O L2
theorem pred_h : ∀ (a : O) (k : Nat), a.h ≤ k → (predO a).h ≤ k
  | .z, k, _ => Nat.zero_le _
  | .c e m r, k, h => by
    have h1 : (O.c e m r).h = max (e.h + 1) r.h := rfl
    rw [predO]
    by_cases c : r = .z
    · rw [if_pos c]; unfold tailP; split
      · exact Nat.zero_le _
      · show max (e.h + 1) 0 ≤ k; omega
    · rw [if_neg c]
      have := pred_h r k (by omega)
      show max (e.h + 1) (predO r).h ≤ k; omega
theorem rung_h : ∀ (a : O) (n : Int) (k : Nat), a.h ≤ k → (rung a n).h ≤ k
  | .z, _, k, _ => Nat.zero_le _
  | .c e m r, n, k, h => by
    have h1 : (O.c e m r).h = max (e.h + 1) r.h := rfl
    have i1 := rung_h e n (k - 1) (by omega)
    have i3 := pred_h e (k - 1) (by omega)
    rw [rung]
    have tl : ∀ x : O, x.h ≤ k → (tailP e m x).h ≤ k := fun x hx => by
      unfold tailP; split
      · exact hx
      · show max (e.h + 1) x.h ≤ k; omega
    by_cases c : r = .z
    · rw [if_pos c]
      by_cases ez : e = .z
      · rw [if_pos ez]; exact tl _ (Nat.zero_le _)
      · rw [if_neg ez]
        split
        · exact tl _ (by show max ((rung e n).h + 1) 0 ≤ k; omega)
        · refine tl _ ?_
          split
          · exact Nat.zero_le _
          · show max ((predO e).h + 1) 0 ≤ k; omega
    · rw [if_neg c]
      have := rung_h r n k (by omega)
      show max (e.h + 1) (rung r n).h ≤ k; omega
theorem pred_size : ∀ a : O, (predO a).size ≤ a.size
  | .z => Nat.le_refl _
  | .c e m r => by
    have i := pred_size r
    rw [predO]
    by_cases c : r = .z
    · rw [if_pos c]; unfold tailP; split
      · exact Nat.zero_le _
      · show 1 + e.size + 0 ≤ 1 + e.size + r.size; omega
    · rw [if_neg c]; show 1 + e.size + (predO r).size ≤ 1 + e.size + r.size; omega
theorem rung_size : ∀ (a : O) (n : Int), (rung a n).size ≤ (a.h + 1) * (a.size + 1)
  | .z, _ => Nat.zero_le _
  | .c e m r, n => by
    have i1 := rung_size e n
    have i2 := rung_size r n
    have i3 := pred_size e
    have h1 : (O.c e m r).size = 1 + e.size + r.size := rfl
    have hh : (O.c e m r).h = max (e.h + 1) r.h := rfl
    generalize (O.c e m r).h = H at hh ⊢
    rw [h1]
    have q1 : (e.h + 1) * (e.size + 1) ≤ H * (e.size + 1) := Nat.mul_le_mul_right _ (by omega)
    have q2 : (r.h + 1) * (r.size + 1) ≤ (H + 1) * (r.size + 1) := Nat.mul_le_mul_right _ (by omega)
    have e1 : (H + 1) * (1 + e.size + r.size + 1) = H * (e.size + 1) + H * (r.size + 1) + (1 + e.size + r.size + 1) := by
      rw [Nat.add_mul, Nat.one_mul, ← Nat.mul_add]; congr 2; omega
    have e2 : (H + 1) * (r.size + 1) = H * (r.size + 1) + (r.size + 1) := by rw [Nat.add_mul, Nat.one_mul]
    have e3 : 1 ≤ H := by omega
    have e4 : 1 * (e.size + 1) ≤ H * (e.size + 1) := Nat.mul_le_mul_right _ e3
    have e5 : 1 * (r.size + 1) ≤ H * (r.size + 1) := Nat.mul_le_mul_right _ e3
    rw [e1]
    rw [e2] at q2
    rw [rung]
    have tl : ∀ x : O, (tailP e m x).size ≤ 1 + e.size + x.size := fun x => by
      unfold tailP; split
      · omega
      · exact Nat.le_refl _
    by_cases c : r = .z
    · rw [if_pos c]
      by_cases ez : e = .z
      · rw [if_pos ez]; have := tl .z; have z0 : (O.z).size = 0 := rfl; omega
      · rw [if_neg ez]
        split
        · have := tl (.c (rung e n) 1 .z)
          have z1 : (O.c (rung e n) 1 .z).size = 1 + (rung e n).size + 0 := rfl
          omega
        · split
          · have := tl .z; have z0 : (O.z).size = 0 := rfl; omega
          · have := tl (.c (predO e) n .z)
            have z1 : (O.c (predO e) n .z).size = 1 + (predO e).size + 0 := rfl
            omega
    · rw [if_neg c]
      show 1 + e.size + (rung r n).size ≤ _
      omega
end Nm
set_option Elab.async false
set_option linter.all false
set_option maxRecDepth 100000
set_option maxHeartbeats 4000000
namespace Nm
open PySem Pu O L2
/-! ### whole, raised -/
structure WhoOk (F : Fn) : Prop where
  int : ∀ i : Int, F [.int i] = .ok (.bool (decide (0 ≤ i)))
  no : ∀ d : PyData, isiB "int" d = false ∨ isiB "bool" d = true → F [d] = .ok (.bool false)
theorem is_whole_step (S : Nat → Fn) : WhoOk (fun ds => fnD 1 (G_is_whole S) ds) where
  int := fun i => by
    refine fnD_of ?_
    unfold G_is_whole
    simp [isiB]
  no := fun d h => by
    refine fnD_of ?_
    unfold G_is_whole
    rcases h with h | h
    · simp [h]
    · cases d <;> simp [isiB] at h
      simp [isiB]
theorem WhoOk.yes {F : Fn} (h : WhoOk F) {i : Int} (hi : 0 ≤ i) : F [.int i] = .ok (.bool true) := by rw [h.int, decide_eq_true hi]
def rzO (e : O) (n : Int) : O := if n = 0 then .z else .c e n .z
theorem rz_nf {e : O} {n : Int} (he : NF e) (hn : 0 ≤ n) : NF (rzO e n) := by
  unfold rzO
  by_cases c : n = 0
  · rw [if_pos c]; trivial
  · rw [if_neg c]; exact nf_mk he (by omega) trivial (fun q hq => by cases hq)
structure RaiOk (F : Fn) : Prop where
  yes : ∀ (e : O) (n : Int), 0 ≤ n → F [enc e, .int n] = .ok (enc (rzO e n))
  no : ∀ (e : O) (d : PyData), isiB "int" d = false ∨ isiB "bool" d = true → F [enc e, d] = .err "NoNumber"
  neg : ∀ (e : O) (i : Int), i < 0 → F [enc e, .int i] = .err "NoNumber"
theorem raised_step {S : Nat → Fn} {c0 : Nat} (h : WhoOk (S c0)) : RaiOk (fun ds => fnD 2 (G_raised c0 S) ds) where
  yes := fun e n hn => by
    refine fnD_of ?_
    have e1 := h.yes hn
    unfold G_raised rzO
    by_cases c : n = 0
    · rw [if_pos c]; subst c
      simp [e1]
    · rw [if_neg c]; simp [e1, c]
  no := fun e d hd => by
    refine fnD_err (ρ := [some (enc e), some d]) ?_
    have e1 := h.no d hd
    unfold G_raised
    simp [e1]
  neg := fun e i hi => by
    refine fnD_err (ρ := [some (enc e), some (.int i)]) ?_
    have e1 := h.int i
    rw [decide_eq_false (by omega)] at e1
    unfold G_raised
    simp [e1]
theorem RaiOk.one {F : Fn} (h : RaiOk F) (e : O) : F [enc e, .int 1] = .ok (enc (.c e 1 .z)) := by
  have := h.yes e 1 (by decide)
  unfold rzO at this
  rw [if_neg (by decide)] at this
  exact this
theorem whole_step {S : Nat → Fn} {c0 : Nat} (h : RaiOk (S c0)) {n : Int} (hn : 0 ≤ n) : fnD 1 (G_whole c0 S) [.int n] = .ok (enc (rzO .z n)) := by
  refine fnD_of ?_
  have e1 : S c0 [.tuple [], .int n] = _ := h.yes .z n hn
  unfold G_whole
  simp [e1]
/-! ### climbed -/
theorem lastP_mem {a : O} (h : a ≠ .z) : lastP a ∈ a.parts := List.mem_of_getLast? (last_get h)
theorem last_at {a : O} (h : a ≠ .z) : atI (encL a) (-1) = some (encP (lastP a)) := by
  obtain ⟨p, p1, p2, p3⟩ := part_last h
  rw [last_get h] at p3
  cases p3
  exact p2
def ClimbOk (k : Nat) (F : Fn) : Prop := ∀ (a : O) (n : Int), NF a → a ≠ .z → a.h ≤ k → a.h ≤ 29 → a.size ≤ 1000 → 0 ≤ n → F [enc a, .int n] = .ok (enc (rung a n))
theorem pred_len (a : O) : (predO a).len ≤ a.len := by
  cases a with
  | z => exact Nat.le_refl _
  | c e m r =>
    have az : O.c e m r ≠ .z := fun z => O.noConfusion z
    rw [← len_parts, predO_parts az, List.length_append]
    have h1 : ((O.c e m r).parts.take ((O.c e m r).len - 1)).length ≤ (O.c e m r).len - 1 := List.length_take_le _ _
    have h2 : (tailP (lastP (O.c e m r)).1 (lastP (O.c e m r)).2 .z).parts.length ≤ 1 := by
      unfold tailP
      split
      · exact Nat.zero_le _
      · show 0 + 1 ≤ 1; decide
    have h3 : 0 < (O.c e m r).len := by show 0 < r.len + 1; omega
    omega
theorem climbed_step {S : Nat → Fn} {c0 c1 c2 c3 k : Nat} (h0 : PredOk (S c0)) (h1 : LimOk (S c1)) (h2 : ClimbOk k (S c2)) (h3 : RaiOk (S c3)) : ClimbOk (k + 1) (fun ds => fnD 4 (G_climbed c0 c1 c2 c3 S) ds) := by
  intro a n na az ah ah2 as n0
  refine fnD_of ?_
  have la := len_le_size a
  have e1 := h0 a az (by omega) (by omega)
  have p1 := lastP_mem az
  have p2 := last_at az
  have ph := part_mem_h p1
  have ps := size_part p1
  have le := len_le_size (lastP a).1
  have np := (((nf_parts a).mp na).2 _ p1).1
  have g1 := gEq_nil (a := (lastP a).1) (by omega)
  have pl := pred_len a
  have s1 : (predO a).len + 1 ≤ sizeLine := sz1000 (by omega)
  have s0 : (predO a).len ≤ sizeLine := sz1000 (by omega)
  have ep : enc (rung a n) = .tuple (encL (predO a) ++ encL (rungX (lastP a).1 n)) := by
    show PyData.tuple (encL _) = _
    rw [encL_parts, rung_parts n az, List.map_append, ← encL_parts, ← encL_parts]
  rw [ep]
  by_cases ez : (lastP a).1 = .z
  · rw [decide_eq_true ez] at g1
    have ex : rungX (lastP a).1 n = .z := if_pos ez
    rw [ex]
    unfold G_climbed
    simp [e1, p2, g1]
  · rw [decide_eq_false ez] at g1
    have l1 := h1 (lastP a).1 np (by omega)
    by_cases l : isLim (lastP a).1 = true
    · have ex : rungX (lastP a).1 n = .c (rung (lastP a).1 n) 1 .z := by unfold rungX; rw [if_neg ez, if_pos l]
      rw [ex]
      have c1 := h2 (lastP a).1 n np ez (by omega) (by omega) (by omega) n0
      have r1 := h3.one (rung (lastP a).1 n)
      rw [show enc (O.c (rung (lastP a).1 n) 1 .z) = .tuple [.tuple [enc (rung (lastP a).1 n), .int 1]] from rfl] at r1
      rw [l] at l1
      unfold G_climbed
      simp [e1, p2, g1, l1, c1, r1, s1]
    · have ex : rungX (lastP a).1 n = rzO (predO (lastP a).1) n := by unfold rungX rzO; rw [if_neg ez, if_neg l]
      rw [ex]
      have c1 := h0 (lastP a).1 ez (by omega) (by omega)
      have r1 := h3.yes (predO (lastP a).1) n n0
      rw [Bool.not_eq_true] at l
      rw [l] at l1
      have s2 : (predO a).len + (rzO (predO (lastP a).1) n).len ≤ sizeLine := by
        refine sz1000 ?_
        unfold rzO
        split
        · show _ + 0 ≤ _; omega
        · show _ + (0 + 1) ≤ _; omega
      unfold G_climbed
      simp [e1, p2, g1, l1, c1, r1, s2]
structure LadOk (F : Fn) : Prop where
  yes : ∀ (a : O) (n : Int), NF a → a ≠ .z → a.h ≤ 28 → a.size ≤ 1000 → 0 ≤ n → F [enc a, .int n] = .ok (enc (rung a n))
  nought : ∀ d : PyData, F [.tuple [], d] = .err "Nought"
  no : ∀ (a : O) (d : PyData), a ≠ .z → a.h ≤ 28 → isiB "int" d = false ∨ isiB "bool" d = true → F [enc a, d] = .err "NoNumber"
  neg : ∀ (a : O) (i : Int), a ≠ .z → a.h ≤ 28 → i < 0 → F [enc a, .int i] = .err "NoNumber"
theorem ladder_step {S : Nat → Fn} {c0 c1 k : Nat} (hk : 28 ≤ k) (h0 : WhoOk (S c0)) (h1 : ClimbOk k (S c1)) : LadOk (fun ds => fnD 2 (G_ladder c0 c1 S) ds) where
  yes := fun a n na az ah as n0 => by
    refine fnD_of ?_
    have g1 := gEq_nil (a := a) (by omega)
    rw [decide_eq_false az] at g1
    have e1 := h0.yes n0
    have e2 := h1 a n na az (by omega) (by omega) as n0
    unfold G_ladder
    simp [g1, e1, e2]
  nought := fun d => by
    refine fnD_err (ρ := [some (.tuple []), some d]) ?_
    have g1 : gEq (.tuple []) (.tuple []) = some (.bool true) := gEq_nil (a := .z) (by decide)
    unfold G_ladder
    simp [g1]
  no := fun a d az ah hd => by
    refine fnD_err (ρ := [some (enc a), some d]) ?_
    have g1 := gEq_nil (a := a) (by omega)
    rw [decide_eq_false az] at g1
    have e1 := h0.no d hd
    unfold G_ladder
    simp [g1, e1]
  neg := fun a i az ah hi => by
    refine fnD_err (ρ := [some (enc a), some (.int i)]) ?_
    have g1 := gEq_nil (a := a) (by omega)
    rw [decide_eq_false az] at g1
    have e1 := h0.int i
    rw [decide_eq_false (by omega)] at e1
    unfold G_ladder
    simp [g1, e1]
end Nm
set_option Elab.async false
set_option linter.all false
set_option maxRecDepth 100000
namespace Pu
open PySem
-- k04 k27 k28 k29 k30 k71 k72 k73 k75 k76 k81 k84 slots 1 params 1
def G_without_whole (c0 : Nat) (S : Nat → List PyData → R PyData) : Vars → Out :=
  (sSeq (sIf (tOf (eOp gEq (eFn (S c0) (aCons (eVar 0) aNil)) (eC (.int 0)))) (sRet (eVar 0)) sNil)
    (sRet (eSl (eVar 0) oNone (oSome (eNeg (eC (.int 1)))))))
-- k21 k22 k23 k24 k25 k26 k27 k28 k29 k34 slots 5 params 2
def G_l_plus_2 (c0 : Nat) (S : Nat → List PyData → R PyData) : Vars → Out :=
  (sSeq (sIf (tOf (eOp gEq (eVar 1) (eTup aNil))) (sRet (eVar 0)) sNil)
    (sSeq (sSetLc [] 2 (nLc (iSeq (eVar 0)) (gtName 4) (tOf (eOp gEq (eFn (S c0) (aCons (eOp gIx (eVar 4) (eC (.int 0))) (aCons (eOp gIx (eOp gIx (eVar 1) (eC (.int 0))) (eC (.int 0))) aNil))) (eC (.int 1)))) (eVar 4) [4]))
    (sSeq (sSet [] 3 (eCall gSum (aCons (eLc (iSeq (eVar 0)) (gtName 4) (tOf (eOp gEq (eOp gIx (eVar 4) (eC (.int 0))) (eOp gIx (eOp gIx (eVar 1) (eC (.int 0))) (eC (.int 0))))) (eOp gIx (eVar 4) (eC (.int 1))) [4]) aNil)))
    (sRet (eOp gAdd (eOp gAdd (eCall gTuple (aCons (eVar 2) aNil)) (eTup (aCons (eTup (aCons (eOp gIx (eOp gIx (eVar 1) (eC (.int 0))) (eC (.int 0))) (aCons (eOp gAdd (eOp gIx (eOp gIx (eVar 1) (eC (.int 0))) (eC (.int 1))) (eVar 3)) aNil))) aNil))) (eSl (eVar 1) (oSome (eC (.int 1))) oNone))))))
-- k21 k23 k24 k26 k27 k29 slots 5 params 2
def G_l_product (c0 : Nat) (S : Nat → List PyData → R PyData) : Vars → Out :=
  (sSeq (sSet [] 2 (eTup aNil))
    (sSeq (sIf (tOf (eOp gEq (eVar 0) (eTup aNil))) (sRet (eVar 2)) sNil)
    (sSeq (sFor [] (iSeq (eVar 1)) (gtTup 2 (gtCons (gtName 3) (gtCons (gtName 4) gtNil))) (sIf (tOf (eOp gEq (eVar 3) (eTup aNil))) (sSet [] 2 (eOp gAdd (eOp gAdd (eVar 2) (eTup (aCons (eTup (aCons (eOp gIx (eOp gIx (eVar 0) (eC (.int 0))) (eC (.int 0))) (aCons (eOp gMul (eOp gIx (eOp gIx (eVar 0) (eC (.int 0))) (eC (.int 1))) (eVar 4)) aNil))) aNil))) (eSl (eVar 0) (oSome (eC (.int 1))) oNone))) (sSet [] 2 (eOp gAdd (eVar 2) (eTup (aCons (eTup (aCons (eFn (S c0) (aCons (eOp gIx (eOp gIx (eVar 0) (eC (.int 0))) (eC (.int 0))) (aCons (eVar 3) aNil))) (aCons (eVar 4) aNil))) aNil))))))
    (sRet (eVar 2)))))
-- k22 k23 k25 k28 k34 slots 3 params 2
def G_l_near (c0 : Nat) (S : Nat → List PyData → R PyData) : Vars → Out :=
  (sSeq (sSet [] 2 (eOp gMod (eVar 1) (eC (.int 5))))
    (sSeq (sIf (tOrR (tOf (eOp gEq (eVar 2) (eC (.int 0)))) (tOf (eOp gEq (eVar 0) (eTup aNil)))) (sRet (eFn (S c0) (aCons (eVar 0) (aCons (eTup (aCons (eTup (aCons (eTup aNil) (aCons (eOp gAdd (eC (.int 1)) (eOp gMod (eOp gDiv (eVar 1) (eC (.int 5))) (eOp gPow (eC (.int 10)) (eC (.int 20))))) aNil))) aNil)) aNil)))) sNil)
    (sSeq (sIf (tOf (eOp gEq (eVar 2) (eC (.int 1)))) (sRet (eSl (eVar 0) oNone (oSome (eNeg (eC (.int 1)))))) sNil)
    (sSeq (sIf (tOf (eOp gEq (eVar 2) (eC (.int 2)))) (sRet (eOp gAdd (eSl (eVar 0) oNone (oSome (eNeg (eC (.int 1))))) (eTup (aCons (eTup (aCons (eOp gIx (eOp gIx (eVar 0) (eNeg (eC (.int 1)))) (eC (.int 0))) (aCons (eOp gAdd (eOp gIx (eOp gIx (eVar 0) (eNeg (eC (.int 1)))) (eC (.int 1))) (eC (.int 1))) aNil))) aNil)))) sNil)
    (sSeq (sIf (tOf (eOp gEq (eVar 2) (eC (.int 3)))) (sRet (eOp gAdd (eTup (aCons (eTup (aCons (eOp gIx (eOp gIx (eVar 0) (eC (.int 0))) (eC (.int 0))) (aCons (eOp gAdd (eOp gIx (eOp gIx (eVar 0) (eC (.int 0))) (eC (.int 1))) (eC (.int 1))) aNil))) aNil)) (eSl (eVar 0) (oSome (eC (.int 1))) oNone))) sNil)
    (sRet (eSl (eVar 0) (oSome (eC (.int 1))) oNone)))))))
-- k27 k28 k29 k30 k71 k72 k73 k75 k76 k81 k84 slots 3 params 3
def G_of_part (c0 c1 c2 : Nat) (S : Nat → List PyData → R PyData) : Vars → Out :=
  (sSeq (sIf (tOf (eOp gEq (eFn (S c0) (aCons (eVar 2) aNil)) (eC (.int 0)))) (sSet [] 1 (eC (.int 1))) sNil)
    (sRet (eFn (S c1) (aCons (eFn (S c2) (aCons (eVar 0) (aCons (eVar 2) aNil))) (aCons (eVar 1) aNil)))))
-- k27 k28 k29 k30 k71 k72 k73 k75 k76 k81 k84 slots 3 params 2
def G_look (c0 : Nat) (S : Nat → List PyData → R PyData) : Vars → Out :=
  (sSeq (sIf (tOf (eOp gGt (eFn (S c0) (aCons (eVar 1) aNil)) (eC (.int 24)))) (sRaise "TooGreat") sNil)
    (sSeq (sIf (tOf (eOp gGt (eCall gLen (aCons (eVar 0) aNil)) (eC (.int 24)))) (sRaise "TooGreat") sNil)
    (sFor [] (iSeq (eVar 0)) (gtName 2) (sIf (tOf (eOp gGe (eOp gIx (eVar 2) (eC (.int 1))) (eOp gPow (eC (.int 10)) (eC (.int 60))))) (sRaise "TooGreat") sNil))))
-- k27 k28 k29 k30 k71 k72 k73 k75 k76 k81 k84 slots 6 params 2
def G_to_limit (c0 c1 c2 c3 : Nat) (S : Nat → List PyData → R PyData) : Vars → Out :=
  (sSeq (sIf (tOf (eOp gEq (eVar 1) (eTup aNil))) (sRet (eFn (S c0) (aCons (eC (.int 1)) aNil))) sNil)
    (sSeq (sSet [] 2 (eOp gIx (eOp gIx (eVar 0) (eC (.int 0))) (eC (.int 0))))
    (sSeq (sIf (tOf (eOp gNe (eVar 2) (eTup aNil))) (sRet (eFn (fun ds => S c3 (ds ++ [.int 1])) (aCons (eFn (S c1) (aCons (eVar 2) (aCons (eVar 1) aNil))) aNil))) sNil)
    (sSeq (sSet [] 3 (eFn (S c0) (aCons (eC (.int 1)) aNil)))
    (sRet (eFn (fun ds => S c3 (ds ++ [.int 1])) (aCons (eCall gTuple (aCons (eLc (iSeq (eVar 1)) (gtTup 2 (gtCons (gtName 4) (gtCons (gtName 5) gtNil))) tYesD (eTup (aCons (eFn (S c2) (aCons (eVar 4) (aCons (eVar 3) aNil))) (aCons (eVar 5) aNil))) [4, 5]) aNil)) aNil)))))))
-- k27 k28 k29 k30 k71 k72 k73 k75 k76 k81 k84 slots 4 params 2
def G_power (c0 c1 c2 c3 c4 c5 c6 : Nat) (S : Nat → List PyData → R PyData) : Vars → Out :=
  (sSeq (sIf (tOf (eOp gEq (eVar 1) (eTup aNil))) (sRet (eFn (S c0) (aCons (eC (.int 1)) aNil))) sNil)
    (sSeq (sIf (tOrR (tOf (eOp gEq (eVar 0) (eTup aNil))) (tOf (eOp gEq (eVar 0) (eFn (S c0) (aCons (eC (.int 1)) aNil))))) (sRet (eVar 0)) sNil)
    (sSeq (sIf (tAndR (tOf (eOp gEq (eCall gLen (aCons (eVar 0) aNil)) (eC (.int 1)))) (tOf (eOp gNe (eOp gIx (eOp gIx (eVar 0) (eC (.int 0))) (eC (.int 0))) (eTup aNil)))) (sRet (eFn (S c1) (aCons (eOp gIx (eOp gIx (eVar 0) (eC (.int 0))) (eC (.int 0))) (aCons (eOp gIx (eOp gIx (eVar 0) (eC (.int 0))) (eC (.int 1))) (aCons (eVar 1) aNil))))) sNil)
    (sSeq (sExpr (eFn (S c2) (aCons (eVar 0) (aCons (eVar 1) aNil))))
    (sSeq (sSet [] 2 (eFn (S c3) (aCons (eVar 0) (aCons (eFn (S c4) (aCons (eVar 1) aNil)) aNil))))
    (sSeq (sFor [] (iRange (aCons (eFn (S c5) (aCons (eVar 1) aNil)) aNil)) (gtName 3) (sSet [] 2 (eFn (S c6) (aCons (eVar 2) (aCons (eVar 0) aNil)))))
    (sRet (eVar 2))))))))
-- k27 k29 slots 1 params 1
def G_l_one_less (S : Nat → List PyData → R PyData) : Vars → Out :=
  (sSeq (sIf (tOf (eOp gNe (eOp gIx (eOp gIx (eVar 0) (eC (.int 0))) (eC (.int 0))) (eTup aNil))) (sRet (eVar 0)) sNil)
    (sSeq (sIf (tOf (eOp gEq (eOp gIx (eOp gIx (eVar 0) (eC (.int 0))) (eC (.int 1))) (eC (.int 1)))) (sRet (eTup aNil)) sNil)
    (sRet (eTup (aCons (eTup (aCons (eTup aNil) (aCons (eOp gSub (eOp gIx (eOp gIx (eVar 0) (eC (.int 0))) (eC (.int 1))) (eC (.int 1))) aNil))) aNil)))))
-- k27 k29 slots 8 params 2
def G_l_power (c0 c1 : Nat) (S : Nat → List PyData → R PyData) : Vars → Out :=
  (sSeq (sSet [] 2 (eTup (aCons (eTup (aCons (eTup aNil) (aCons (eC (.int 1)) aNil))) aNil)))
    (sSeq (sIf (tOrR (tOf (eOp gEq (eVar 1) (eTup aNil))) (tOrR (tOf (eOp gEq (eVar 0) (eTup aNil))) (tOf (eOp gEq (eVar 0) (eVar 2))))) (sRet (eOp gIx (eLst (aCons (eVar 0) (aCons (eVar 2) aNil))) (eCall gIntC (aCons (eOp gEq (eVar 1) (eTup aNil)) aNil)))) sNil)
    (sSeq (sSet [] 3 (eCall gSum (aCons (eLc (iSeq (eVar 1)) (gtName 7) (tOf (eOp gEq (eOp gIx (eVar 7) (eC (.int 0))) (eTup aNil))) (eOp gIx (eVar 7) (eC (.int 1))) [7]) aNil)))
    (sSeq (sSet [] 4 (eCall gTuple (aCons (eLc (iSeq (eVar 1)) (gtName 7) (tOf (eOp gNe (eOp gIx (eVar 7) (eC (.int 0))) (eTup aNil))) (eVar 7) [7]) aNil)))
    (sSeq (sIf (tAndR (tOf (eOp gEq (eCall gLen (aCons (eVar 0) aNil)) (eC (.int 1)))) (tOf (eOp gNe (eOp gIx (eOp gIx (eVar 0) (eC (.int 0))) (eC (.int 0))) (eTup aNil)))) (sRet (eTup (aCons (eTup (aCons (eFn (S c0) (aCons (eOp gIx (eOp gIx (eVar 0) (eC (.int 0))) (eC (.int 0))) (aCons (eVar 1) aNil))) (aCons (eOp gIx (eLst (aCons (eC (.int 1)) (aCons (eOp gIx (eOp gIx (eVar 0) (eC (.int 0))) (eC (.int 1))) aNil))) (eCall gIntC (aCons (eOp gGt (eVar 3) (eC (.int 0))) aNil))) aNil))) aNil))) sNil)
    (sSeq (sSet [] 5 (eVar 2))
    (sSeq (sFor [] (iRange (aCons (eVar 3) aNil)) (gtName 6) (sSet [] 5 (eFn (S c0) (aCons (eVar 5) (aCons (eVar 0) aNil)))))
    (sSeq (sIf (tAndR (tOf (eOp gNe (eVar 4) (eTup aNil))) (tOf (eOp gEq (eOp gIx (eOp gIx (eVar 0) (eC (.int 0))) (eC (.int 0))) (eTup aNil)))) (sSeq (sSet [] 4 (eCall gTuple (aCons (eLc (iSeq (eVar 4)) (gtName 7) tYesD (eTup (aCons (eFn (S c1) (aCons (eOp gIx (eVar 7) (eC (.int 0))) aNil)) (aCons (eOp gIx (eVar 7) (eC (.int 1))) aNil))) [7]) aNil))) (sRet (eFn (S c0) (aCons (eTup (aCons (eTup (aCons (eVar 4) (aCons (eC (.int 1)) aNil))) aNil)) (aCons (eVar 5) aNil))))) sNil)
    (sSeq (sIf (tOf (eOp gNe (eVar 4) (eTup aNil))) (sRet (eFn (S c0) (aCons (eTup (aCons (eTup (aCons (eFn (S c0) (aCons (eOp gIx (eOp gIx (eVar 0) (eC (.int 0))) (eC (.int 0))) (aCons (eVar 4) aNil))) (aCons (eC (.int 1)) aNil))) aNil)) (aCons (eVar 5) aNil)))) sNil)
    (sRet (eVar 5)))))))))))
-- k27 k28 slots 4 params 2
def G_l_capped (S : Nat → List PyData → R PyData) : Vars → Out :=
  (sSeq (sNew [2] 2 (nLc (iSeq (eVar 0)) (gtName 3) (tOf (eOp gNe (eOp gIx (eVar 3) (eC (.int 0))) (eTup aNil))) (eVar 3) [3]))
    (sSeq (sFor [2] (iSeq (eVar 0)) (gtName 3) (sIf (tAndR (tOf (eOp gEq (eOp gIx (eVar 3) (eC (.int 0))) (eTup aNil))) (tOf (eOp gGt (eOp gMod (eOp gIx (eVar 3) (eC (.int 1))) (eOp gAdd (eVar 1) (eC (.int 1)))) (eC (.int 0))))) (sAppM [2] 2 (eTup (aCons (eTup aNil) (aCons (eOp gMod (eOp gIx (eVar 3) (eC (.int 1))) (eOp gAdd (eVar 1) (eC (.int 1)))) aNil)))) sNil))
    (sRet (eCall gTuple (aCons (eVar 2) aNil)))))
end Pu
set_option Elab.async false
set_option linter.all false
set_option maxRecDepth 100000
set_option maxHeartbeats 4000000
namespace Nm
open PySem Pu O L2
/-! ### sizes of numbers -/
def hdE : O → O
  | .z => .z
  | .c e _ _ => e
structure Sz (H L K Z C M : Nat) (a : O) : Prop where
  nf : NF a
  h : a.h ≤ H
  ll : a.len ≤ L
  k : (hdE a).size ≤ K
  s : a.size ≤ Z
  cs : ∀ p ∈ a.parts, p.2.natAbs < 2 ^ C
  m : mx a < 2 ^ M
theorem Sz.up {H L K Z C M H' L' K' Z' C' M' : Nat} {a : O} (x : Sz H L K Z C M a) (h0 : H ≤ H') (h1 : L ≤ L') (h2 : K ≤ K') (h3 : Z ≤ Z') (h4 : C ≤ C') (h5 : M ≤ M') : Sz H' L' K' Z' C' M' a where
  nf := x.nf
  h := Nat.le_trans x.h h0
  ll := Nat.le_trans x.ll h1
  k := Nat.le_trans x.k h2
  s := Nat.le_trans x.s h3
  cs := fun p hp => Nat.lt_of_lt_of_le (x.cs p hp) (Nat.pow_le_pow_right (by decide) h4)
  m := Int.lt_of_lt_of_le x.m (by exact_mod_cast Nat.pow_le_pow_right (by decide) h5)
theorem Sz.bg {H L K Z C M : Nat} {a : O} (x : Sz H L K Z C M a) (hH : H ≤ 8) : Bg L Z C Z a where
  nf := x.nf
  h := Nat.le_trans x.h hH
  ll := x.ll
  el := fun p hp => by
    have h1 := size_part hp
    have h2 := len_le_size p.1
    have := x.s; omega
  cs := x.cs
  s := x.s
theorem hd_size (a : O) : (hdE a).size ≤ a.size := by
  cases a with
  | z => exact Nat.le_refl _
  | c e n r => show e.size ≤ 1 + e.size + r.size; omega
theorem hd_h (a : O) {k : Nat} (h : a.h ≤ k) : (hdE a).h ≤ k - 1 := by
  cases a with
  | z => exact Nat.zero_le _
  | c e n r =>
    have : (O.c e n r).h = max (e.h + 1) r.h := rfl
    show e.h ≤ k - 1; omega
theorem Sz.one : Sz 1 1 0 1 1 1 (.c .z 1 .z) where
  nf := nf_mk trivial (by decide) trivial (fun q hq => by cases hq)
  h := by show max (0 + 1) 0 ≤ 1; decide
  ll := by show 0 + 1 ≤ 1; decide
  k := by show 0 ≤ 0; decide
  s := by show 1 + 0 + 0 ≤ 1; decide
  cs := fun p hp => by
    rcases List.mem_cons.mp (show p ∈ (O.z, (1 : Int)) :: [] from hp) with h | h
    · rw [h]; decide
    · cases h
  m := by show max (1 : Int) (max 0 0) < 2 ^ 1; decide
/-! the product's -/
theorem prodO_size' {a b : O} (nb : NF b) : (prodO a b).size ≤ b.size + b.len * (hdE a).size + a.size := by
  cases a with
  | z => exact Nat.zero_le _
  | c e n r =>
    have key : ∀ b : O, NF b → (prodO (.c e n r) b).size ≤ b.size + b.len * e.size + (1 + e.size + r.size) := by
      intro b
      induction b with
      | z => intro _; rw [prod_bz]; exact Nat.zero_le _
      | c f m s _ ih =>
        intro nb
        have t := nf_tail nb
        have h1 : (O.c f m s).size = 1 + f.size + s.size := rfl
        have h2 : (O.c f m s).len = s.len + 1 := rfl
        by_cases fz : f = .z
        · subst fz
          rw [z_min nb, prod_zero]
          show 1 + e.size + r.size ≤ _
          omega
        · rw [prod_nz fz]
          have := ih t.1
          have := plus_size e f
          show 1 + (plusO e f).size + (prodO (.c e n r) s).size ≤ _
          rw [h1, h2, Nat.succ_mul]
          omega
    exact key b nb
theorem prodO_len' {a b : O} (nb : NF b) : (prodO a b).len ≤ b.len + a.len := by
  cases a with
  | z => exact Nat.zero_le _
  | c e n r =>
    have key : ∀ b : O, NF b → (prodO (.c e n r) b).len ≤ b.len + r.len := by
      intro b
      induction b with
      | z => intro _; rw [prod_bz]; exact Nat.zero_le _
      | c f m s _ ih =>
        intro nb
        have t := nf_tail nb
        have h2 : (O.c f m s).len = s.len + 1 := rfl
        by_cases fz : f = .z
        · subst fz
          rw [z_min nb, prod_zero]
          show r.len + 1 ≤ 0 + 1 + r.len
          omega
        · rw [prod_nz fz]
          have := ih t.1
          show (prodO (.c e n r) s).len + 1 ≤ _
          omega
    have := key b nb
    have h3 : (O.c e n r).len = r.len + 1 := rfl
    omega
theorem prodO_hd {a b : O} (ha : a ≠ .z) (hb : b ≠ .z) (nb : NF b) : hdE (prodO a b) = plusO (hdE a) (hdE b) := by
  cases a with
  | z => exact absurd rfl ha
  | c e n r =>
    cases b with
    | z => exact absurd rfl hb
    | c f m s =>
      obtain ⟨c, t, h⟩ := prod_hd (e := e) (r := r) (n := n) nb
      rw [h]; rfl
theorem mul_mx {n m : Int} {A B : Int} (h0 : 0 ≤ n) (h1 : 0 ≤ m) (hn : n ≤ A) (hm : m ≤ B) : n * m ≤ A * B :=
  Int.mul_le_mul hn hm h1 (by omega)
theorem plus_mx {a b : O} (na : NF a) (nb : NF b) : mx (plusO a b) ≤ mx a + mx b := by
  have pa := mx_nonneg a
  have pb := mx_nonneg b
  cases b with
  | z => show mx a ≤ _; omega
  | c e n r =>
    show mx (of (above a e ++ (e, sameN a e + n) :: r.parts)) ≤ _
    have h1 := (mx_parts pa a).mp (Int.le_refl _)
    have h2 : mx (.c e n r) = max n (max (mx e) (mx r)) := rfl
    have h3 := (sameN_bound (e := e) na pa (Int.le_refl _)).2
    have h4 := (mx_parts (mx_nonneg r) r).mp (Int.le_refl _)
    have pr := mx_nonneg r
    rw [mx_of (by omega)]
    intro p hp
    rcases List.mem_append.mp hp with h | h
    · have := h1 p (List.mem_filter.mp h).1; omega
    · rcases List.mem_cons.mp h with h | h
      · rw [h]; show sameN a e + n ≤ _ ∧ mx e ≤ _; omega
      · have := h4 p h; omega
theorem prod_mx {a b : O} {A B : Int} (na : NF a) (nb : NF b) (ha : mx a ≤ A) (hb : mx b ≤ B) (hA : 1 ≤ A) (hB : 1 ≤ B) : mx (prodO a b) ≤ A * B + A + B := by
  have AB : 1 * 1 ≤ A * B := Int.mul_le_mul hA hB (by decide) (by omega)
  cases a with
  | z => show (0 : Int) ≤ _; omega
  | c e n r =>
    have ta := nf_tail na
    have ea : mx (.c e n r) = max n (max (mx e) (mx r)) := rfl
    have pr := mx_nonneg r
    have key : ∀ b : O, NF b → mx b ≤ B → mx (prodO (.c e n r) b) ≤ A * B + A + B := by
      intro b
      induction b with
      | z => intro _ _; rw [prod_bz]; show (0 : Int) ≤ _; omega
      | c f m s _ ih =>
        intro nb hb
        have t := nf_tail nb
        have eb : mx (.c f m s) = max m (max (mx f) (mx s)) := rfl
        have hm : n * m ≤ A * B := mul_mx (by omega) (by omega) (by omega) (by omega)
        by_cases fz : f = .z
        · subst fz
          rw [z_min nb, prod_zero]
          show max (n * m) (max (mx e) (mx r)) ≤ _
          omega
        · rw [prod_nz fz]
          have h1 := ih t.1 (by omega)
          have h2 := plus_mx ta.2.1 t.2.1
          show max m (max (mx (plusO e f)) (mx (prodO (.c e n r) s))) ≤ _
          omega
    exact key b nb hb
theorem Sz.prod {H L1 K1 Z1 C1 M1 L2 K2 Z2 C2 M2 : Nat} {a b : O} (x : Sz H L1 K1 Z1 C1 M1 a) (y : Sz H L2 K2 Z2 C2 M2 b) : Sz H (L1 + L2) (K1 + K2) (Z1 + Z2 + L2 * K1) (C1 + C2) (M1 + M2 + 2) (prodO a b) where
  nf := prodO_nf x.nf y.nf
  h := prodO_h x.h y.h
  ll := by have := prodO_len' (a := a) y.nf; have := x.ll; have := y.ll; omega
  k := by
    by_cases az : a = .z
    · subst az; exact Nat.zero_le _
    · by_cases bz : b = .z
      · subst bz; rw [prod_bz]; exact Nat.zero_le _
      · rw [prodO_hd az bz y.nf]
        have := plus_size (hdE a) (hdE b)
        have := x.k; have := y.k; omega
  s := by
    have h1 := prodO_size' (a := a) y.nf
    have h2 : b.len * (hdE a).size ≤ L2 * K1 := Nat.mul_le_mul y.ll x.k
    have := x.s; have := y.s; omega
  cs := by
    cases a with
    | z => intro p hp; cases hp
    | c e n r =>
      have hn := x.cs (e, n) (by show _ ∈ (e, n) :: r.parts; simp)
      have key : ∀ b : O, NF b → (∀ p ∈ b.parts, p.2.natAbs < 2 ^ C2) → ∀ p ∈ (prodO (.c e n r) b).parts, p.2.natAbs < 2 ^ (C1 + C2) := by
        intro b
        induction b with
        | z => intro _ _ p hp; rw [prod_bz] at hp; cases hp
        | c f m s _ ih =>
          intro nb hb p hp
          have t := nf_tail nb
          have hm := hb (f, m) (by show _ ∈ (f, m) :: s.parts; simp)
          have up1 : (2 : Nat) ^ C1 ≤ 2 ^ (C1 + C2) := Nat.pow_le_pow_right (by decide) (by omega)
          have up2 : (2 : Nat) ^ C2 ≤ 2 ^ (C1 + C2) := Nat.pow_le_pow_right (by decide) (by omega)
          by_cases fz : f = .z
          · subst fz
            rw [z_min nb, prod_zero] at hp
            rcases List.mem_cons.mp (show p ∈ (e, n * m) :: r.parts from hp) with h | h
            · rw [h]; exact natAbs_mul_lt hn hm
            · exact Nat.lt_of_lt_of_le (x.cs p (by show _ ∈ (e, n) :: r.parts; simp [h])) up1
          · rw [prod_nz fz] at hp
            rcases List.mem_cons.mp (show p ∈ (plusO e f, m) :: _ from hp) with h | h
            · rw [h]; exact Nat.lt_of_lt_of_le hm up2
            · exact ih t.1 (fun q hq => hb q (by show q ∈ (f, m) :: s.parts; simp [hq])) p h
      exact key b y.nf y.cs
  m := by
    have p1 : (1 : Int) ≤ 2 ^ M1 := by exact_mod_cast Nat.one_le_two_pow
    have p2 : (1 : Int) ≤ 2 ^ M2 := by exact_mod_cast Nat.one_le_two_pow
    have h := prod_mx x.nf y.nf (Int.le_of_lt x.m) (Int.le_of_lt y.m) p1 p2
    have e1 : (2 : Int) ^ (M1 + M2 + 2) = 2 ^ M1 * 2 ^ M2 * 4 := by rw [Int.pow_add, Int.pow_add]; rfl
    have q1 : (2 : Int) ^ M1 * 1 ≤ 2 ^ M1 * 2 ^ M2 := Int.mul_le_mul_of_nonneg_left p2 (by omega)
    have q2 : 1 * (2 : Int) ^ M2 ≤ 2 ^ M1 * 2 ^ M2 := Int.mul_le_mul_of_nonneg_right p1 (by omega)
    rw [e1]
    generalize (2 : Int) ^ M1 * 2 ^ M2 = t at *
    omega
theorem Sz.of_nb {a : O} (n : Nb a) : Sz 6 4 260 260 190 190 a := ⟨n.nf, n.h, n.ll, by have := hd_size a; have := n.s; omega, n.s, n.cs, by have := n.m; have := E50_eq; omega⟩
theorem Sz.of_dr {l : Nat} {a : O} (d : Dr l a) : Sz (l + 1) 3 (4 ^ (l + 1)) (4 ^ (l + 1)) 50 50 a := ⟨d.nf, d.h, d.ll, by have := hd_size a; have := d.s; omega, d.s, fun p hp => by
    have h1 := ((mx_parts (mx_nonneg a) a).mp (Int.le_refl _) p hp).1
    have h2 := (((nf_parts a).mp d.nf).2 p hp).2
    have h3 := d.m
    omega, by have := d.m; omega⟩
end Nm
set_option Elab.async false
set_option linter.all false
set_option maxRecDepth 100000
set_option maxHeartbeats 4000000
namespace Nm
open PySem Pu O L2
/-! ### sums and products by a law's own hands -/
theorem l_plus2_step {S : Nat → Fn} {c0 k : Nat} (hc : CmpOk k (S c0)) : LPlusOk k (fun ds => fnD 5 (G_l_plus_2 c0 S) ds) := by
  intro a b hk ha hb la lb
  refine fnD_of ?_
  unfold G_l_plus_2
  have hcs : b = .z ∨ ∃ e n r, b = .c e n r := by cases b with
    | z => exact Or.inl rfl
    | c e n r => exact Or.inr ⟨e, n, r, rfl⟩
  rcases hcs with hbz | ⟨e, n, r, hbz⟩
  · subst hbz
    have n3 : gEq (.tuple []) (.tuple []) = some (.bool true) := gEq_nil (a := .z) (by decide)
    show sSeq _ _ [some (enc a), some (.tuple []), none, none, none] = _
    simp [n3, plusO]
  · have he : e.h ≤ 30 := by rw [hbz] at hb; have : (O.c e n r).h = max (e.h + 1) r.h := rfl; omega
    have n1 : gEq (enc b) (.tuple []) = some (.bool false) := by rw [gEq_nil (by omega), hbz]; rfl
    have b0 : atI (encL b) 0 = some (encP (e, n)) := by rw [hbz]; exact atI_zero _ _
    have b1 : Pu.cutD (encL b) (some 1) none = encL r := by rw [hbz]; exact cut_tl _ _
    have e1 : lcL (gtName 4) (tOf (eOp gEq (eFn (S c0) (aCons (eOp gIx (eVar 4) (eC (.int 0))) (aCons (eOp gIx (eOp gIx (eVar 1) (eC (.int 0))) (eC (.int 0))) aNil))) (eC (.int 1)))) (eVar 4) [some (enc a), some (enc b), none, none, none] (encL a) = .ok ((above a e).map encP) := by
      refine lc_parts (P := fun p => decide (0 < cmp p.1 e)) (fun p hp => ?_) fun p hp _ => by simp
      have := part_mem_h hp
      have h1 := hc p.1 e (by omega)
      have h2 := cmp_range p.1 e
      have h3 : decide (cmp p.1 e = 1) = decide (0 < cmp p.1 e) := by
        rcases h2 with h2 | h2 | h2 <;> rw [h2] <;> decide
      simp [h1, h3, b0]
    have e3 : lcL (gtName 4) (tOf (eOp gEq (eOp gIx (eVar 4) (eC (.int 0))) (eOp gIx (eOp gIx (eVar 1) (eC (.int 0))) (eC (.int 0))))) (eOp gIx (eVar 4) (eC (.int 1))) [some (enc a), some (enc b), some (.list ((above a e).map encP)), none, none] (encL a) = .ok ((a.parts.filter fun p => decide (p.1 = e)).map fun p => PyData.int p.2) := by
      refine lc_parts (P := fun p => decide (p.1 = e)) (fun p hp => ?_) fun p hp _ => by simp
      have := part_mem_h hp
      have h1 := gEq_enc (a := p.1) (b := e) (by omega) (by omega)
      simp [h1, b0]
    have la2 := above_len a e
    have lx : (a.parts.filter fun p => decide (p.1 = e)).length ≤ a.len := by rw [← len_parts]; exact List.length_filter_le _ _
    have s1 : (above a e).length < sizeLine := sz1000' (by omega)
    have s2 : (above a e).length + 1 ≤ sizeLine := sz1000 (by omega)
    have lr : r.len ≤ 1000000 := by rw [hbz] at lb; have : (O.c e n r).len = r.len + 1 := rfl; omega
    have s3 : (above a e).length + 1 + r.len ≤ sizeLine := sz1000 (by omega)
    have s4 : (a.parts.filter fun p => decide (p.1 = e)).length < sizeLine := sz1000' (by omega)
    have es := intsOf_mapF (fun p : O × Int => p.2) (a.parts.filter fun p => decide (p.1 = e))
    have sn : ((a.parts.filter fun p => decide (p.1 = e)).map fun p => p.2).sum = sameN a e := rfl
    have ep := encL_plus (a := a) (e := e) (r := r) (n := n)
    rw [← hbz, Int.add_comm] at ep
    simp [n1, b0, b1, e1, e3, s1, s2, s3, s4, gSum, es, ep, sn]
theorem lprod_loop {S : Nat → Fn} {c0 k C1 C2 : Nat} (hF : LPlusOk k (S c0)) {a e r : O} {n : Int} {bb : Option PyData} (hz : a = .c e n r) (eh : e.h ≤ 8) (el : e.len ≤ 1000000) (cn : n.natAbs < 2 ^ C1) (hC1 : 0 < C1) (hC2 : 0 < C2) (hC : C1 + C2 ≤ 100000) (hk : 9 ≤ k) : ∀ (b : O) (Fd : List (O × Int)) (x y : Option PyData), (∀ p ∈ b.parts, p.1.h ≤ 8 ∧ p.1.len ≤ 1000000 ∧ p.2.natAbs < 2 ^ C2) → Fd.length + b.len * (1 + r.len) ≤ 5000000 →
    ∃ x' y', forL (gtTup 2 (gtCons (gtName 3) (gtCons (gtName 4) gtNil))) (sIf (tOf (eOp gEq (eVar 3) (eTup aNil))) (sSet [] 2 (eOp gAdd (eOp gAdd (eVar 2) (eTup (aCons (eTup (aCons (eOp gIx (eOp gIx (eVar 0) (eC (.int 0))) (eC (.int 0))) (aCons (eOp gMul (eOp gIx (eOp gIx (eVar 0) (eC (.int 0))) (eC (.int 1))) (eVar 4)) aNil))) aNil))) (eSl (eVar 0) (oSome (eC (.int 1))) oNone))) (sSet [] 2 (eOp gAdd (eVar 2) (eTup (aCons (eTup (aCons (eFn (S c0) (aCons (eOp gIx (eOp gIx (eVar 0) (eC (.int 0))) (eC (.int 0))) (aCons (eVar 3) aNil))) (aCons (eVar 4) aNil))) aNil))))) (encL b) [some (enc a), bb, some (.tuple (Fd.map encP)), x, y] =
      .nx [some (enc a), bb, some (.tuple ((Fd ++ prodL e n r b.parts).map encP)), x', y']
  | .z, Fd, x, y, _, _ => ⟨x, y, by show Out.nx _ = Out.nx _; simp [prodL, O.parts]⟩
  | .c f m s, Fd, x, y, hc, hl => by
    have h4 : (O.c f m s).len = s.len + 1 := rfl
    obtain ⟨fh, fl, cm⟩ := hc (f, m) (by show _ ∈ (f, m) :: s.parts; simp)
    replace fh : f.h ≤ 8 := fh
    replace fl : f.len ≤ 1000000 := fl
    rw [h4, Nat.succ_mul] at hl
    have s1 : Fd.length + 1 ≤ sizeLine := sz1000 (by omega)
    have g1 := gEq_nil (a := f) (by omega)
    have mm : cMul n m = true := cMul_of C1 C2 cn cm hC1 hC2 (by omega)
    have hc2 : ∀ p ∈ s.parts, p.1.h ≤ 8 ∧ p.1.len ≤ 1000000 ∧ p.2.natAbs < 2 ^ C2 := fun p hp => hc p (by show _ ∈ (f, m) :: s.parts; simp [hp])
    have b0 : atI (encL a) 0 = some (encP (e, n)) := by rw [hz]; exact atI_zero _ _
    have b1 : Pu.cutD (encL a) (some 1) none = encL r := by rw [hz]; exact cut_tl _ _
    have lp := len_parts r
    by_cases fz : f = .z
    · rw [decide_eq_true fz] at g1
      obtain ⟨x', y', e1⟩ := lprod_loop (bb := bb) hF hz eh el cn hC1 hC2 hC hk s (Fd ++ (e, n * m) :: r.parts) (some (enc f)) (some (.int m)) hc2 (by rw [List.length_append, List.length_cons]; omega)
      refine ⟨x', y', ?_⟩
      have e2 : Fd ++ prodL e n r (O.c f m s).parts = (Fd ++ (e, n * m) :: r.parts) ++ prodL e n r s.parts := by
        show Fd ++ prodL e n r ((f, m) :: s.parts) = _
        rw [prodL_c, if_pos fz, List.append_assoc]
      rw [e2, ← e1]
      have s2 : Fd.length + 1 + r.len ≤ sizeLine := sz1000 (by omega)
      have ep : (Fd ++ (e, n * m) :: r.parts).map encP = Fd.map encP ++ .tuple [enc e, .int (n * m)] :: encL r := by rw [List.map_append, List.map_cons, ← encL_parts]
      rw [ep]
      show forL _ _ (.tuple [enc f, .int m] :: encL s) _ = _
      rw [u_forL_c]
      simp [g1, mm, s1, b0, b1, s2]
    · rw [decide_eq_false fz] at g1
      obtain ⟨x', y', e1⟩ := lprod_loop (bb := bb) hF hz eh el cn hC1 hC2 hC hk s (Fd ++ [(plusO e f, m)]) (some (enc f)) (some (.int m)) hc2 (by rw [List.length_append, List.length_singleton]; omega)
      refine ⟨x', y', ?_⟩
      have e2 : Fd ++ prodL e n r (O.c f m s).parts = (Fd ++ [(plusO e f, m)]) ++ prodL e n r s.parts := by
        show Fd ++ prodL e n r ((f, m) :: s.parts) = _
        rw [prodL_c, if_neg fz, List.append_assoc]
      rw [e2, ← e1]
      have pl := hF e f (by omega) (by omega) (by omega) el fl
      have ep : (Fd ++ [(plusO e f, m)]).map encP = Fd.map encP ++ [.tuple [enc (plusO e f), .int m]] := by rw [List.map_append]; rfl
      rw [ep]
      show forL _ _ (.tuple [enc f, .int m] :: encL s) _ = _
      rw [u_forL_c]
      simp [g1, s1, pl, b0]
theorem l_product_step {S : Nat → Fn} {c0 k : Nat} (hF : LPlusOk k (S c0)) (hk : 9 ≤ k) : TimesG (fun ds => fnD 5 (G_l_product c0 S) ds) := by
  intro L1 E1 C1 Z1 L2 E2 C2 Z2 a b na nb hE1 hE2 hL hC1 hC2 hC
  refine fnD_of ?_
  have ah := na.h
  have g1 := gEq_nil (a := a) (by omega)
  by_cases az : a = .z
  · rw [decide_eq_true az] at g1
    have : prodO a b = .z := by rw [az]; rfl
    rw [this]
    unfold G_l_product
    simp [g1]
  · obtain ⟨e, n, r, hz⟩ : ∃ e n r, a = .c e n r := by
      cases a with
      | z => exact absurd rfl az
      | c e n r => exact ⟨e, n, r, rfl⟩
    rw [decide_eq_false az] at g1
    have hl := na.ll
    have h6 : (O.c e n r).h = max (e.h + 1) r.h := rfl
    have h7 : (O.c e n r).len = r.len + 1 := rfl
    have hm : (e, n) ∈ a.parts := by rw [hz]; show _ ∈ (e, n) :: r.parts; simp
    have he := na.el _ hm
    have hc := na.cs _ hm
    replace he : e.len ≤ E1 := he
    have ll : b.len * (1 + r.len) ≤ L2 * (1 + L1) := Nat.mul_le_mul nb.ll (by rw [hz] at hl; omega)
    obtain ⟨x', y', e1⟩ := lprod_loop (bb := some (enc b)) hF hz (by rw [hz] at ah; omega) (by omega) hc hC1 hC2 hC hk b [] none none (fun p hp => ⟨by have := part_mem_h hp; have := nb.h; omega, by have := nb.el p hp; omega, nb.cs p hp⟩) (by simp; omega)
    have ep : enc (prodO a b) = .tuple ((prodL e n r b.parts).map encP) := by rw [hz]; show PyData.tuple (encL (of _)) = _; rw [encL_of]
    rw [ep]
    unfold G_l_product
    rw [List.map_nil, List.nil_append] at e1
    simp [g1, e1]
end Nm
set_option Elab.async false
set_option linter.all false
set_option maxRecDepth 100000
set_option maxHeartbeats 4000000
namespace Nm
open PySem Pu O L2
/-! ### whole parts -/
abbrev oneO : O := .c .z 1 .z
def wpO : O → Int
  | .z => 0
  | .c e n r => if e = .z then n else wpO r
def noW : O → O
  | .z => .z
  | .c e n r => if e = .z then .z else .c e n (noW r)
theorem wp_z {n : Int} {r : O} : wpO (.c .z n r) = n := if_pos rfl
theorem wp_c {e r : O} {n : Int} (h : e ≠ .z) : wpO (.c e n r) = wpO r := if_neg h
theorem noW_z {n : Int} {r : O} : noW (.c .z n r) = .z := if_pos rfl
theorem noW_c {e r : O} {n : Int} (h : e ≠ .z) : noW (.c e n r) = .c e n (noW r) := if_neg h
theorem wp_nonneg : ∀ {a : O}, NF a → 0 ≤ wpO a
  | .z, _ => Int.le_refl _
  | .c e n r, h => by
    have t := nf_tail h
    by_cases ez : e = .z
    · subst ez; rw [wp_z]; omega
    · rw [wp_c ez]; exact wp_nonneg t.1
theorem wp_last : ∀ {a : O}, NF a → a ≠ .z → wpO a = if (lastP a).1 = .z then (lastP a).2 else 0
  | .z, _, h => absurd rfl h
  | .c e n r, h, _ => by
    have t := nf_tail h
    by_cases ez : e = .z
    · subst ez
      have rz := z_min h
      subst rz
      rw [wp_z]; rfl
    · rw [wp_c ez]
      by_cases rz : r = .z
      · subst rz
        show (0 : Int) = if (if O.z = .z then (e, n) else lastP .z).1 = .z then _ else 0
        rw [if_pos rfl, if_neg ez]
      · rw [wp_last t.1 rz]
        have : lastP (.c e n r) = lastP r := if_neg rz
        rw [this]
theorem noW_sub : ∀ a : O, (noW a).parts.Sublist a.parts
  | .z => List.Sublist.refl _
  | .c e n r => by
    by_cases ez : e = .z
    · subst ez; rw [noW_z]; exact List.nil_sublist _
    · rw [noW_c ez]; exact (noW_sub r).cons₂ (e, n)
theorem noW_exp : ∀ {a : O}, ∀ p ∈ (noW a).parts, p.1 ≠ .z
  | .z, p, h => by cases h
  | .c e n r, p, h => by
    by_cases ez : e = .z
    · subst ez; rw [noW_z] at h; cases h
    · rw [noW_c ez] at h
      rcases List.mem_cons.mp (show p ∈ (e, n) :: (noW r).parts from h) with h | h
      · rw [h]; exact ez
      · exact noW_exp p h
theorem noW_wp0 : ∀ {a : O}, NF a → wpO a = 0 → noW a = a
  | .z, _, _ => rfl
  | .c e n r, h, hw => by
    have t := nf_tail h
    by_cases ez : e = .z
    · subst ez; rw [wp_z] at hw; omega
    · rw [wp_c ez] at hw
      rw [noW_c ez, noW_wp0 t.1 hw]
theorem noW_init : ∀ {a : O}, NF a → wpO a ≠ 0 → a.parts.take (a.len - 1) = (noW a).parts
  | .z, _, h => absurd rfl h
  | .c e n r, h, hw => by
    have t := nf_tail h
    have hl : (O.c e n r).len - 1 = r.len := rfl
    rw [hl]
    by_cases ez : e = .z
    · subst ez
      have rz := z_min h
      subst rz
      rw [noW_z]; rfl
    · rw [wp_c ez] at hw
      rw [noW_c ez]
      have hr : r.len = (r.len - 1) + 1 := by
        cases r with
        | z => exact absurd rfl hw
        | c f m s => rfl
      rw [hr]
      show (e, n) :: r.parts.take (r.len - 1) = (e, n) :: (noW r).parts
      rw [noW_init t.1 hw]
theorem noW_nf {a : O} (h : NF a) : NF (noW a) := by
  have := nf_sub (ps := a.parts) (by rw [of_parts]; exact h) (noW_sub a)
  rw [of_parts] at this; exact this
theorem noW_split : ∀ {a : O}, NF a → plusO (noW a) (rzO .z (wpO a)) = a
  | .z, _ => rfl
  | .c e n r, h => by
    have t := nf_tail h
    by_cases ez : e = .z
    · subst ez
      have rz := z_min h
      subst rz
      rw [noW_z, wp_z]
      unfold rzO
      rw [if_neg (by omega), plus_z]
    · rw [noW_c ez, wp_c ez]
      have ih := noW_split t.1
      by_cases w : wpO r = 0
      · rw [w, noW_wp0 t.1 w]; rfl
      · have : rzO .z (wpO r) = .c .z (wpO r) .z := if_neg w
        rw [this] at ih ⊢
        rw [plus_gt (cmp_gt.mpr (z_lt ez)), ih]
theorem above_noW : ∀ {a : O}, NF a → above a .z = (noW a).parts
  | .z, _ => rfl
  | .c e n r, h => by
    have t := nf_tail h
    have ih := above_noW t.1
    unfold above at ih ⊢
    by_cases ez : e = .z
    · subst ez
      have rz := z_min h
      subst rz
      rw [noW_z]
      show List.filter _ [(O.z, n)] = []
      simp
    · rw [noW_c ez]
      have : cmp e .z = 1 := cmp_gt.mpr (z_lt ez)
      show List.filter _ ((e, n) :: r.parts) = (e, n) :: (noW r).parts
      rw [List.filter_cons_of_pos (by simp [this]), ih]
theorem same_wp : ∀ {a : O}, NF a → sameN a .z = wpO a
  | .z, _ => rfl
  | .c e n r, h => by
    have t := nf_tail h
    rw [co_c]
    by_cases ez : e = .z
    · subst ez
      have rz := z_min h
      subst rz
      rw [if_pos rfl, wp_z, co_z, Int.add_zero]
    · rw [if_neg ez, wp_c ez, same_wp t.1, Int.zero_add]
theorem Sz.noW {H L K Z C M : Nat} {a : O} (x : Sz H L K Z C M a) : Sz H L K Z C M (noW a) where
  nf := noW_nf x.nf
  h := by
    rw [h_parts]
    exact fun p hp => (h_parts a).mp x.h p ((noW_sub a).subset hp)
  ll := by
    have := (noW_sub a).length_le
    rw [len_parts, len_parts] at this
    have := x.ll; omega
  k := by
    have := x.k
    cases a with
    | z => exact this
    | c e n r =>
      by_cases ez : e = .z
      · subst ez; rw [noW_z]; exact Nat.zero_le _
      · rw [noW_c ez]; exact this
  s := by
    have := size_sub (noW_sub a)
    rw [of_parts, of_parts] at this
    have := x.s; omega
  cs := fun p hp => x.cs p ((noW_sub a).subset hp)
  m := by
    have := mx_sub (ps := a.parts) (mx_nonneg a) (by rw [of_parts]; exact Int.le_refl _) (noW_sub a)
    rw [of_parts] at this
    have := x.m; omega
def WpOk (F : Fn) : Prop := ∀ a : O, NF a → a.h ≤ 30 → F [enc a] = .ok (.int (wpO a))
theorem whole_part_step (S : Nat → Fn) : WpOk (fun ds => fnD 1 (G_whole_part S) ds) := by
  intro a na ah
  refine fnD_of ?_
  have g2 := gEq_nil (a := a) (by omega)
  by_cases az : a = .z
  · rw [decide_eq_true az] at g2
    have : wpO a = 0 := by rw [az]; rfl
    rw [this]
    unfold G_whole_part
    simp [g2]
  · rw [decide_eq_false az] at g2
    have p2 := last_at az
    have ph := part_mem_h (lastP_mem az)
    have g3 := gNe_nil (a := (lastP a).1) (by omega)
    rw [wp_last na az]
    unfold G_whole_part
    by_cases c : (lastP a).1 = .z
    · rw [decide_eq_true c] at g3
      rw [if_pos c]
      simp [g2, p2, g3]
    · rw [decide_eq_false c] at g3
      rw [if_neg c]
      simp [g2, p2, g3]
def NoWOk (F : Fn) : Prop := ∀ a : O, NF a → a.h ≤ 30 → F [enc a] = .ok (enc (noW a))
theorem without_whole_step {S : Nat → Fn} {c0 : Nat} (h : WpOk (S c0)) : NoWOk (fun ds => fnD 1 (G_without_whole c0 S) ds) := by
  intro a na ah
  refine fnD_of ?_
  have e1 := h a na ah
  by_cases w : wpO a = 0
  · rw [noW_wp0 na w]
    rw [w] at e1
    unfold G_without_whole
    simp [e1]
  · have ci : Pu.cutD (encL a) none (some (-1)) = encL (noW a) := by rw [cut_init, encL_take, encL_len, noW_init na w, of_parts]
    unfold G_without_whole
    simp [e1, w, ci]
end Nm
set_option Elab.async false
set_option linter.all false
set_option maxRecDepth 100000
set_option maxHeartbeats 4000000
namespace Nm
open PySem Pu O L2
/-! ### powers -/
def powN (x a : O) : Nat → O
  | 0 => x
  | n + 1 => prodO (powN x a n) a
def mapDec : O → O
  | .z => .z
  | .c f d s => .c (minusO f oneO) d (mapDec s)
def hdN : O → Int
  | .z => 0
  | .c _ n _ => n
def toLim (a L : O) : O := if L = .z then oneO else if hdE a ≠ .z then .c (prodO (hdE a) L) 1 .z else .c (mapDec L) 1 .z
def powO (a b : O) : O := if b = .z then oneO else if a = .z ∨ a = oneO then a else if a.len = 1 ∧ hdE a ≠ .z then .c (prodO (hdE a) b) (if wpO b = 0 then 1 else hdN a) .z else powN (toLim a (noW b)) a (wpO b).toNat
theorem nf_one : NF oneO := nf_mk trivial (by decide) trivial (fun q hq => by cases hq)
theorem one_le {f : O} (h : NF f) (hz : f ≠ .z) : cmp oneO f ≠ 1 := by
  cases f with
  | z => exact absurd rfl hz
  | c e n r =>
    have t := nf_tail h
    intro c
    have c := cmp_gt.mp c
    rw [cmp_c] at c
    rcases c with c | ⟨_, c | ⟨_, c⟩⟩
    · cases e <;> simp [cmp] at c
    · omega
    · cases r <;> simp [cmp] at c
theorem dec_ok {f : O} (h : NF f) (hz : f ≠ .z) : NF (minusO f oneO) ∧ plusO oneO (minusO f oneO) = f := minus_ok f oneO h nf_one (one_le h hz)
theorem dec_cmp {f g : O} (hf : NF f) (hg : NF g) (fz : f ≠ .z) (gz : g ≠ .z) : cmp (minusO f oneO) (minusO g oneO) = cmp f g := by
  have a := dec_ok hf fz
  have b := dec_ok hg gz
  have := plus_cmp nf_one a.1 b.1
  rw [a.2, b.2] at this
  exact this.symm
theorem dec_form (f : O) : minusO f oneO = f ∨ (∃ n r, f = .c .z n r ∧ (minusO f oneO = r ∨ minusO f oneO = .c .z (n - 1) r)) := by
  cases f with
  | z => exact Or.inl rfl
  | c e n r =>
    unfold minusO
    by_cases ez : e = .z
    · rw [if_pos ez]
      subst ez
      refine Or.inr ⟨n, r, rfl, ?_⟩
      by_cases n1 : n = 1
      · rw [if_pos n1, minus_z]; exact Or.inl rfl
      · rw [if_neg n1]; exact Or.inr rfl
    · rw [if_neg ez]; exact Or.inl rfl
theorem dec_size (f : O) : (minusO f oneO).size ≤ f.size := by
  rcases dec_form f with h | ⟨n, r, h, h2 | h2⟩
  · rw [h]; exact Nat.le_refl _
  · rw [h2, h]; show r.size ≤ 1 + 0 + r.size; omega
  · rw [h2, h]; exact Nat.le_refl _
theorem dec_mx (f : O) : mx (minusO f oneO) ≤ mx f := by
  rcases dec_form f with h | ⟨n, r, h, h2 | h2⟩
  · rw [h]; exact Int.le_refl _
  · rw [h2, h]; show mx r ≤ max n (max 0 (mx r)); omega
  · rw [h2, h]; show max (n - 1) (max 0 (mx r)) ≤ max n (max 0 (mx r)); omega
theorem mapDec_parts : ∀ a : O, (mapDec a).parts = a.parts.map fun p => (minusO p.1 oneO, p.2)
  | .z => rfl
  | .c f d s => by show _ :: (mapDec s).parts = _; rw [mapDec_parts s]; rfl
theorem mapDec_nf : ∀ {a : O}, NF a → (∀ p ∈ a.parts, p.1 ≠ .z) → NF (mapDec a)
  | .z, _, _ => trivial
  | .c f d s, h, hz => by
    have t := nf_tail h
    have fz : f ≠ .z := hz (f, d) (by show _ ∈ (f, d) :: s.parts; simp)
    have hz2 : ∀ p ∈ s.parts, p.1 ≠ .z := fun p hp => hz p (by show p ∈ (f, d) :: s.parts; simp [hp])
    refine nf_mk (dec_ok t.2.1 fz).1 t.2.2.1 (mapDec_nf t.1 hz2) fun q hq => ?_
    rw [mapDec_parts] at hq
    obtain ⟨p, hp, rfl⟩ := List.mem_map.mp hq
    show cmp (minusO f oneO) (minusO p.1 oneO) = 1
    rw [dec_cmp t.2.1 (((nf_parts s).mp t.1).2 p hp).1 fz (hz2 p hp)]
    exact t.2.2.2 p hp
theorem mapDec_h {k : Nat} {a : O} (h : a.h ≤ k) : (mapDec a).h ≤ k := by
  rw [h_parts, mapDec_parts]
  intro q hq
  obtain ⟨p, hp, rfl⟩ := List.mem_map.mp hq
  have := (h_parts a).mp h p hp
  have := minus_h (a := p.1) (b := oneO) (k := k - 1) (by omega)
  show (minusO p.1 oneO).h + 1 ≤ k
  omega
theorem mapDec_size : ∀ a : O, (mapDec a).size ≤ a.size
  | .z => Nat.le_refl _
  | .c f d s => by
    have := mapDec_size s
    have := dec_size f
    show 1 + (minusO f oneO).size + (mapDec s).size ≤ 1 + f.size + s.size
    omega
theorem mapDec_len : ∀ a : O, (mapDec a).len = a.len
  | .z => rfl
  | .c f d s => by show (mapDec s).len + 1 = _; rw [mapDec_len s]; rfl
theorem mapDec_mx : ∀ a : O, mx (mapDec a) ≤ mx a
  | .z => Int.le_refl _
  | .c f d s => by
    have := mapDec_mx s
    have := dec_mx f
    show max d (max (mx (minusO f oneO)) (mx (mapDec s))) ≤ max d (max (mx f) (mx s))
    omega
theorem hd_nf {a : O} (h : NF a) : NF (hdE a) := by
  cases a with
  | z => trivial
  | c e n r => exact (nf_tail h).2.1
theorem hd_mx (a : O) : mx (hdE a) ≤ mx a := by
  cases a with
  | z => exact Int.le_refl _
  | c e n r => show mx e ≤ max n (max (mx e) (mx r)); omega
theorem cs_of_mx {a : O} (h : NF a) {M : Nat} (m : mx a < 2 ^ M) : ∀ p ∈ a.parts, p.2.natAbs < 2 ^ M := fun p hp => by
  have h1 := ((mx_parts (mx_nonneg a) a).mp (Int.le_refl _) p hp).1
  have h2 := (((nf_parts a).mp h).2 p hp).2
  have : (p.2.natAbs : Int) < ((2 ^ M : Nat) : Int) := by rw [Int.natCast_pow]; show _ < (2 : Int) ^ M; omega
  exact_mod_cast this
theorem Sz.hd {H L K Z C M : Nat} {a : O} (x : Sz H L K Z C M a) : Sz H K K K M M (hdE a) where
  nf := hd_nf x.nf
  h := by have := hd_h a x.h; omega
  ll := Nat.le_trans (len_le_size _) x.k
  k := Nat.le_trans (hd_size _) x.k
  s := x.k
  cs := cs_of_mx (hd_nf x.nf) (Int.lt_of_le_of_lt (hd_mx a) x.m)
  m := Int.lt_of_le_of_lt (hd_mx a) x.m
/-- w to a number -/
theorem Sz.w {H L K Z C M : Nat} {e : O} (x : Sz H L K Z C M e) {n : Int} (n1 : 1 ≤ n) {c : Nat} (hc : n.natAbs < 2 ^ c) (hM : c ≤ M) : Sz (H + 1) 1 Z (1 + Z) c M (.c e n .z) where
  nf := nf_mk x.nf n1 trivial (fun q hq => by cases hq)
  h := by have := x.h; show max (e.h + 1) 0 ≤ H + 1; omega
  ll := by show 0 + 1 ≤ 1; decide
  k := x.s
  s := by have := x.s; show 1 + e.size + 0 ≤ 1 + Z; omega
  cs := fun p hp => by
    rcases List.mem_cons.mp (show p ∈ (e, n) :: [] from hp) with h | h
    · rw [h]; exact hc
    · cases h
  m := by
    have h1 := x.m
    have h2 : (n.natAbs : Int) < 2 ^ M := by
      have := Nat.lt_of_lt_of_le hc (Nat.pow_le_pow_right (by decide : 0 < 2) hM)
      have : ((n.natAbs : Nat) : Int) < ((2 ^ M : Nat) : Int) := by exact_mod_cast this
      rw [Int.natCast_pow] at this; exact this
    show max n (max (mx e) 0) < 2 ^ M
    omega
theorem Sz.toLim {H La Ka Za Ca Ma Lb Kb Zb Cb Mb : Nat} {a b : O} (x : Sz H La Ka Za Ca Ma a) (y : Sz H Lb Kb Zb Cb Mb b) : Sz (H + 1) 1 (Ka + Zb + Lb * Ka) (1 + (Ka + Zb + Lb * Ka)) 1 (Ma + Mb + 2) (Nm.toLim a (Nm.noW b)) := by
  have y' := y.noW
  unfold Nm.toLim
  by_cases lz : Nm.noW b = .z
  · rw [if_pos lz]
    exact Sz.one.up (by omega) (by omega) (by omega) (by omega) (by omega) (by omega)
  · rw [if_neg lz]
    by_cases hz : hdE a = .z
    · rw [if_neg (by simp [hz])]
      have w : Sz H Lb Zb Zb Mb Mb (mapDec (Nm.noW b)) := by
        have nf := mapDec_nf y'.nf noW_exp
        have mm := Int.lt_of_le_of_lt (mapDec_mx (Nm.noW b)) y'.m
        refine ⟨nf, mapDec_h y'.h, by rw [mapDec_len]; exact y'.ll, ?_, Nat.le_trans (mapDec_size _) y'.s, cs_of_mx nf mm, mm⟩
        exact Nat.le_trans (hd_size _) (Nat.le_trans (mapDec_size _) y'.s)
      have w2 : Sz H Lb Zb Zb Mb (Ma + Mb + 2) (mapDec (Nm.noW b)) := w.up (Nat.le_refl _) (Nat.le_refl _) (Nat.le_refl _) (Nat.le_refl _) (Nat.le_refl _) (by omega)
      exact (w2.w (c := 1) (by decide) (by decide) (by omega)).up (Nat.le_refl _) (Nat.le_refl _) (by omega) (by omega) (Nat.le_refl _) (Nat.le_refl _)
    · rw [if_pos hz]
      exact ((x.hd).prod y').w (c := 1) (by decide) (by decide) (by omega)
theorem Sz.powN {H Lx Kx Zx Cx Mx La Ka Za Ca Ma : Nat} {x a : O} (sx : Sz H Lx Kx Zx Cx Mx x) (sa : Sz H La Ka Za Ca Ma a) (N : Nat) : ∀ n, n ≤ N → Sz H (Lx + n * La) (Kx + n * Ka) (Zx + n * (Za + La * (Kx + N * Ka))) (Cx + n * Ca) (Mx + n * (Ma + 2)) (Nm.powN x a n)
  | 0, _ => by
    simp only [Nat.zero_mul, Nat.add_zero]
    exact sx
  | n + 1, h => by
    have ih := Sz.powN sx sa N n (by omega)
    have q1 : n * Ka ≤ N * Ka := Nat.mul_le_mul_right _ (by omega)
    have q : La * (Kx + n * Ka) ≤ La * (Kx + N * Ka) := Nat.mul_le_mul_left _ (by omega)
    refine (ih.prod sa).up (Nat.le_refl _) ?_ ?_ ?_ ?_ ?_
    · rw [Nat.succ_mul]; omega
    · rw [Nat.succ_mul]; omega
    · rw [Nat.succ_mul]; omega
    · rw [Nat.succ_mul]; omega
    · rw [Nat.succ_mul]; omega
/-- the bounds of a power -/
structure PB (La Ka Za Ca Ma Lb Kb Zb Cb Mb W : Nat) : Prop where
  w1 : 1 ≤ W
  w2 : W ≤ 24
  l : La * (2 + W * La) ≤ 5000000
  l2 : Lb * (1 + Ka) ≤ 5000000
  z : 1 + (Ka + Zb + Lb * Ka) + W * (Za + La * (Ka + Zb + Lb * Ka + W * Ka)) ≤ 1000000
  c0 : 0 < Ca
  c1 : 1 + W * Ca + Ca ≤ 100000
  c2 : 0 < Cb
  c3 : Ma + Cb ≤ 100000
  c4 : Ca ≤ Ma
  la : Za ≤ 1000000 ∧ Zb ≤ 1000000
theorem PB.mk' {La Ka Za Ca Ma Lb Kb Zb Cb Mb W : Nat} (h : (decide (1 ≤ W) && decide (W ≤ 24) && decide (La * (2 + W * La) ≤ 5000000) && decide (Lb * (1 + Ka) ≤ 5000000) && decide (1 + (Ka + Zb + Lb * Ka) + W * (Za + La * (Ka + Zb + Lb * Ka + W * Ka)) ≤ 1000000) && decide (0 < Ca) && decide (1 + W * Ca + Ca ≤ 100000) && decide (0 < Cb) && decide (Ma + Cb ≤ 100000) && decide (Ca ≤ Ma) && decide (Za ≤ 1000000) && decide (Zb ≤ 1000000)) = true) : PB La Ka Za Ca Ma Lb Kb Zb Cb Mb W := by
  simp only [Bool.and_eq_true, decide_eq_true_eq] at h
  exact ⟨h.1.1.1.1.1.1.1.1.1.1.1, h.1.1.1.1.1.1.1.1.1.1.2, h.1.1.1.1.1.1.1.1.1.2, h.1.1.1.1.1.1.1.1.2, h.1.1.1.1.1.1.1.2, h.1.1.1.1.1.1.2, h.1.1.1.1.1.2, h.1.1.1.1.2, h.1.1.1.2, h.1.1.2, h.1.2, h.2⟩
theorem hdN_pos {a : O} (h : NF a) (hz : a ≠ .z) : 1 ≤ hdN a := by
  cases a with
  | z => exact absurd rfl hz
  | c e n r => exact (nf_tail h).2.2.1
theorem Sz.pow {H La Ka Za Ca Ma Lb Kb Zb Cb Mb W : Nat} {a b : O} (x : Sz H La Ka Za Ca Ma a) (y : Sz H Lb Kb Zb Cb Mb b) (hC : 1 ≤ Ca) (hCM : Ca ≤ Ma) (hL : 1 ≤ La) (hW : 1 ≤ W) (hw : (a.len = 1 ∧ hdE a ≠ .z) ∨ wpO b ≤ W) :
    Sz (H + 1) (1 + W * La) (Ka + Zb + Lb * Ka + W * Ka) (1 + (Ka + Zb + Lb * Ka) + W * (Za + La * (Ka + Zb + Lb * Ka + W * Ka))) (1 + W * Ca) (Ma + Mb + 2 + W * (Ma + 2)) (powO a b) := by
  have w1 : 1 * La ≤ W * La := Nat.mul_le_mul_right _ hW
  have w2 : 1 * Ka ≤ W * Ka := Nat.mul_le_mul_right _ hW
  have w3 : 1 * (Za + La * (Ka + Zb + Lb * Ka + W * Ka)) ≤ W * (Za + La * (Ka + Zb + Lb * Ka + W * Ka)) := Nat.mul_le_mul_right _ hW
  have w4 : 1 * Ca ≤ W * Ca := Nat.mul_le_mul_right _ hW
  have w5 : 1 * (Ma + 2) ≤ W * (Ma + 2) := Nat.mul_le_mul_right _ hW
  unfold powO
  by_cases bz : b = .z
  · rw [if_pos bz]
    exact Sz.one.up (by omega) (by omega) (by omega) (by omega) (by omega) (by omega)
  · rw [if_neg bz]
    by_cases a1 : a = .z ∨ a = oneO
    · rw [if_pos a1]
      exact x.up (by omega) (by omega) (by omega) (by omega) (by omega) (by omega)
    · rw [if_neg a1]
      have az : a ≠ .z := fun z => a1 (Or.inl z)
      by_cases s : a.len = 1 ∧ hdE a ≠ .z
      · rw [if_pos s]
        have hn := hdN_pos x.nf az
        have hc : (hdN a).natAbs < 2 ^ Ca := by
          cases a with
          | z => exact absurd rfl az
          | c e n r => exact x.cs (e, n) (by show _ ∈ (e, n) :: r.parts; simp)
        have h1 : (1 : Int).natAbs < 2 ^ Ca := by
          show 1 < 2 ^ Ca
          calc 1 < 2 ^ 1 := by decide
            _ ≤ 2 ^ Ca := Nat.pow_le_pow_right (by decide) hC
        refine Sz.up (((x.hd).prod y).w (n := if wpO b = 0 then 1 else hdN a) (c := Ca) (by split <;> omega) (by split <;> assumption) (by omega)) (Nat.le_refl _) ?_ ?_ ?_ ?_ ?_
        · omega
        · omega
        · omega
        · omega
        · omega
      · rw [if_neg s]
        rcases hw with hw | hw
        · exact absurd hw s
        · have hn := wp_nonneg y.nf
          have t := (x.toLim y)
          have x' : Sz (H + 1) La Ka Za Ca Ma a := x.up (by omega) (Nat.le_refl _) (Nat.le_refl _) (Nat.le_refl _) (Nat.le_refl _) (Nat.le_refl _)
          have p := t.powN x' W (wpO b).toNat (by omega)
          have m1 : (wpO b).toNat * La ≤ W * La := Nat.mul_le_mul_right _ (by omega)
          have m2 : (wpO b).toNat * Ka ≤ W * Ka := Nat.mul_le_mul_right _ (by omega)
          have m3 : (wpO b).toNat * (Za + La * (Ka + Zb + Lb * Ka + W * Ka)) ≤ W * (Za + La * (Ka + Zb + Lb * Ka + W * Ka)) := Nat.mul_le_mul_right _ (by omega)
          have m4 : (wpO b).toNat * Ca ≤ W * Ca := Nat.mul_le_mul_right _ (by omega)
          have m5 : (wpO b).toNat * (Ma + 2) ≤ W * (Ma + 2) := Nat.mul_le_mul_right _ (by omega)
          exact p.up (Nat.le_refl _) (by omega) (by omega) (by omega) (by omega) (by omega)
end Nm
set_option Elab.async false
set_option linter.all false
set_option maxRecDepth 100000
set_option maxHeartbeats 4000000
namespace Nm
open PySem Pu O L2
/-! ### power: what the program does -/
theorem fnD_nx {N : Nat} {g : Vars → Out} {ds : List PyData} {ρ : Vars} (h : g (ds.map some ++ List.replicate (N - ds.length) none) = .nx ρ) : fnD N g ds = .ok .none := by unfold fnD; rw [h]
theorem lc_parts2 {i j : Nat} {ρ : Vars} {f : Vars → R PyData} {F : O × Int → PyData} : ∀ {a : O}, (∀ p ∈ a.parts, f ((ρ.set i (some (enc p.1))).set j (some (.int p.2))) = .ok (F p)) →
    lcL (gtTup 2 (gtCons (gtName i) (gtCons (gtName j) gtNil))) tYesD f ρ (encL a) = .ok (a.parts.map F)
  | .z, _ => rfl
  | .c e n r, h => by
    have h1 := h (e, n) (by show _ ∈ (e, n) :: r.parts; simp)
    have ih := lc_parts2 (a := r) (fun p hp => h p (by show p ∈ (e, n) :: r.parts; simp [hp]))
    show lcL _ _ _ _ (.tuple [enc e, .int n] :: encL r) = .ok (F (e, n) :: r.parts.map F)
    rw [u_lcL_c]
    simp only [u_gtTup, List.length_cons, List.length_nil, Nat.reduceAdd, if_true, u_gtCons, u_gtName, u_gtNil, Option.bind_some, u_tYesD, R.bind_ok]
    rw [h1, ih]; rfl
structure LookOk (F : Fn) : Prop where
  yes : ∀ a b : O, NF b → a.h ≤ 30 → b.h ≤ 30 → wpO b ≤ 24 → a.len ≤ 24 → (∀ p ∈ a.parts, p.2 < E60) → F [enc a, enc b] = .ok .none
  no : ∀ a b : O, NF b → a.h ≤ 30 → b.h ≤ 30 → (24 < wpO b ∨ 24 < a.len ∨ ∃ p ∈ a.parts, E60 ≤ p.2) → F [enc a, enc b] = .err "TooGreat"
theorem look_step {S : Nat → Fn} {c0 : Nat} (h : WpOk (S c0)) : LookOk (fun ds => fnD 3 (G_look c0 S) ds) where
  yes := fun a b nb ah bh hw hl hp => by
    have e1 := h b nb bh
    obtain ⟨ρ', r1, _⟩ := forL_inv (gt := gtName 2) (g := sIf (tOf (eOp gGe (eOp gIx (eVar 2) (eC (.int 1))) (eOp gPow (eC (.int 10)) (eC (.int 60))))) (sRaise "TooGreat") sNil) (fun _ ρ => ∃ x, ρ = [some (enc a), some (enc b), x]) (encL a) 0 [some (enc a), some (enc b), none] ⟨_, rfl⟩ fun j d ρ hd hi => by
      obtain ⟨x, rfl⟩ := hi
      rw [encL_parts, List.getElem?_map] at hd
      obtain ⟨p, q1, rfl⟩ := Option.map_eq_some_iff.mp hd
      have := hp p (List.mem_of_getElem? q1)
      have n1 : ¬ E60 ≤ p.2 := by omega
      refine ⟨_, _, rfl, Or.inl ?_, ⟨some (encP p), rfl⟩⟩
      simp [n1]
    refine fnD_nx (ρ := ρ') ?_
    have n1 : ¬ 24 < wpO b := by omega
    have n2 : ¬ (24 : Int) < (a.len : Int) := by omega
    unfold G_look
    simp [e1, n1, n2, r1]
  no := fun a b nb ah bh hc => by
    have e1 := h b nb bh
    by_cases n1 : 24 < wpO b
    · refine fnD_err (ρ := [some (enc a), some (enc b), none]) ?_
      unfold G_look
      simp [e1, n1]
    · by_cases n2 : (24 : Int) < (a.len : Int)
      · refine fnD_err (ρ := [some (enc a), some (enc b), none]) ?_
        unfold G_look
        simp [e1, n1, n2]
      · have hx : ∃ p ∈ a.parts, E60 ≤ p.2 := by
          rcases hc with c | c | c
          · exact absurd c n1
          · exact absurd (by exact_mod_cast c) n2
          · exact c
        have loop : ∀ (x : O) (s : Option PyData), (∃ p ∈ x.parts, E60 ≤ p.2) → ∃ ρ', forL (gtName 2) (sIf (tOf (eOp gGe (eOp gIx (eVar 2) (eC (.int 1))) (eOp gPow (eC (.int 10)) (eC (.int 60))))) (sRaise "TooGreat") sNil) (encL x) [some (enc a), some (enc b), s] = .err "TooGreat" ρ' := by
          intro x
          induction x with
          | z => intro s hx; obtain ⟨p, hp, _⟩ := hx; cases hp
          | c e n r _ ih =>
            intro s hx
            by_cases g : E60 ≤ n
            · refine ⟨[some (enc a), some (enc b), some (encP (e, n))], ?_⟩
              show forL _ _ (.tuple [enc e, .int n] :: encL r) _ = _
              rw [u_forL_c]
              simp [g]
            · obtain ⟨ρ', h2⟩ := ih (some (encP (e, n))) (by
                obtain ⟨p, hp, hq⟩ := hx
                rcases List.mem_cons.mp (show p ∈ (e, n) :: r.parts from hp) with h | h
                · rw [h] at hq; exact absurd hq g
                · exact ⟨p, h, hq⟩)
              refine ⟨ρ', ?_⟩
              rw [← h2]
              show forL _ _ (.tuple [enc e, .int n] :: encL r) _ = _
              rw [u_forL_c]
              simp [g]
        obtain ⟨ρ', l1⟩ := loop a none hx
        refine fnD_err (ρ := ρ') ?_
        unfold G_look
        simp [e1, n1, n2, l1]
theorem of_part_step {S : Nat → Fn} {c0 c1 c2 : Nat} (h0 : WpOk (S c0)) (h1 : RaiOk (S c1)) {e b : O} {n : Int} (nb : NF b) (bh : b.h ≤ 30) (n1 : 1 ≤ n) (h2 : S c2 [enc e, enc b] = .ok (enc (prodO e b))) :
    fnD 3 (G_of_part c0 c1 c2 S) [enc e, .int n, enc b] = .ok (enc (.c (prodO e b) (if wpO b = 0 then 1 else n) .z)) := by
  refine fnD_of ?_
  have e0 := h0 b nb bh
  have rz : ∀ m : Int, 1 ≤ m → rzO (prodO e b) m = .c (prodO e b) m .z := fun m hm => if_neg (by omega)
  unfold G_of_part
  by_cases c : wpO b = 0
  · rw [if_pos c]
    have e1 := h1.yes (prodO e b) 1 (by decide)
    rw [rz 1 (by decide)] at e1
    simp [e0, c, h2, e1]
  · rw [if_neg c]
    have e1 := h1.yes (prodO e b) n (by omega)
    rw [rz n n1] at e1
    simp [e0, c, h2, e1]
theorem to_limit_step {S : Nat → Fn} {c0 c1 c2 c3 k : Nat} (h0 : S c0 [.int 1] = .ok (enc oneO)) (h2 : MinOk k (S c2)) (hk : 2 ≤ k) (h3 : RaiOk (S c3)) {a L : O} (az : a ≠ .z) (ah : a.h ≤ 30) (nL : NF L) (Lh : L.h ≤ 30) (Ls : L.size ≤ 900) (Lz : ∀ p ∈ L.parts, p.1 ≠ .z) (h1 : S c1 [enc (hdE a), enc L] = .ok (enc (prodO (hdE a) L))) :
    fnD 6 (G_to_limit c0 c1 c2 c3 S) [enc a, enc L] = .ok (enc (toLim a L)) := by
  refine fnD_of ?_
  have g1 := gEq_nil (a := L) (by omega)
  unfold toLim
  by_cases lz : L = .z
  · rw [if_pos lz]
    rw [decide_eq_true lz] at g1
    unfold G_to_limit
    simp [g1, h0]
  · rw [if_neg lz]
    rw [decide_eq_false lz] at g1
    obtain ⟨e, n, r, hz⟩ : ∃ e n r, a = .c e n r := by
      cases a with
      | z => exact absurd rfl az
      | c e n r => exact ⟨e, n, r, rfl⟩
    have b0 : atI (encL a) 0 = some (encP (e, n)) := by rw [hz]; exact atI_zero _ _
    have he : hdE a = e := by rw [hz]; rfl
    rw [he] at h1 ⊢
    have eh := hd_h a ah
    rw [he] at eh
    have g2 := gNe_nil (a := e) (by omega)
    by_cases ez : e = .z
    · rw [decide_eq_true ez] at g2
      rw [if_neg (by simp [ez])]
      have r1 := h3.one (mapDec L)
      have ld := len_le_size L
      have lc : lcL (gtTup 2 (gtCons (gtName 4) (gtCons (gtName 5) gtNil))) tYesD (eTup (aCons (eFn (S c2) (aCons (eVar 4) (aCons (eVar 3) aNil))) (aCons (eVar 5) aNil))) [some (enc a), some (enc L), some (enc e), some (enc oneO), none, none] (encL L) = .ok (L.parts.map fun p => encP (minusO p.1 oneO, p.2)) := by
        refine lc_parts2 fun p hp => ?_
        have ph := part_mem_h hp
        have ps := size_part hp
        have pl := len_le_size p.1
        have m1 := (h2 p.1 oneO (by show max (0 + 1) 0 < k; omega) (by omega) (by show max (0 + 1) 0 ≤ 30; decide) (by omega) (by show 0 + 1 ≤ 100000; decide)).1 (one_le (((nf_parts L).mp nL).2 p hp).1 (Lz p hp))
        simp [m1]
      have em : enc (mapDec L) = .tuple (L.parts.map fun p => encP (minusO p.1 oneO, p.2)) := by
        show PyData.tuple (encL _) = _
        rw [encL_parts, mapDec_parts, List.map_map]; rfl
      rw [em] at r1
      have ll : L.parts.length < sizeLine := by rw [len_parts]; exact sz1000' (by omega)
      unfold G_to_limit
      simp [g1, b0, g2, h0, lc, r1, ll]
    · rw [decide_eq_false ez] at g2
      rw [if_pos ez]
      have r1 := h3.one (prodO e L)
      unfold G_to_limit
      simp [g1, b0, g2, h1, r1]
/-- where a power is not refused -/
def PowFit (a b : O) (W : Nat) : Prop := b = .z ∨ a = .z ∨ a = oneO ∨ (a.len = 1 ∧ hdE a ≠ .z) ∨ (wpO b ≤ W ∧ a.len ≤ 24 ∧ ∀ p ∈ a.parts, p.2 < E60)
def PowOk (F : Fn) : Prop := ∀ {La Ka Za Ca Ma Lb Kb Zb Cb Mb W : Nat} {a b : O}, Sz 7 La Ka Za Ca Ma a → Sz 7 Lb Kb Zb Cb Mb b → Zb ≤ 900 → PB La Ka Za Ca Ma Lb Kb Zb Cb Mb W → PowFit a b W → F [enc a, enc b] = .ok (enc (powO a b))
theorem power_step {S : Nat → Fn} {c0 c1 c2 c3 c4 c5 c6 : Nat} (h0 : S c0 [.int 1] = .ok (enc oneO))
    (h1 : ∀ {e b : O} {n : Int}, NF b → b.h ≤ 30 → 1 ≤ n → (∀ F : Fn, TimesG F → F [enc e, enc b] = .ok (enc (prodO e b))) → S c1 [enc e, .int n, enc b] = .ok (enc (.c (prodO e b) (if wpO b = 0 then 1 else n) .z)))
    (h2 : LookOk (S c2))
    (h3 : ∀ {a L : O}, a ≠ .z → a.h ≤ 30 → NF L → L.h ≤ 30 → L.size ≤ 900 → (∀ p ∈ L.parts, p.1 ≠ .z) → (∀ F : Fn, TimesG F → F [enc (hdE a), enc L] = .ok (enc (prodO (hdE a) L))) → S c3 [enc a, enc L] = .ok (enc (toLim a L)))
    (h4 : NoWOk (S c4)) (h5 : WpOk (S c5)) (h6 : TimesG (S c6)) : PowOk (fun ds => fnD 4 (G_power c0 c1 c2 c3 c4 c5 c6 S) ds) := by
  intro La Ka Za Ca Ma Lb Kb Zb Cb Mb W a b x y hzb B hf
  refine fnD_of ?_
  have ah := x.h
  have bh := y.h
  have g1 := gEq_nil (a := b) (by omega)
  unfold powO
  by_cases bz : b = .z
  · rw [decide_eq_true bz] at g1
    rw [if_pos bz]
    unfold G_power
    simp [g1, h0]
  rw [decide_eq_false bz] at g1
  rw [if_neg bz]
  have g2 := gEq_nil (a := a) (by omega)
  have g3 := gEq_enc (a := a) (b := oneO) (by omega) (by decide)
  by_cases az : a = .z
  · rw [decide_eq_true az] at g2
    rw [if_pos (Or.inl az)]
    unfold G_power
    simp [g1, g2]
  rw [decide_eq_false az] at g2
  by_cases a1 : a = oneO
  · rw [decide_eq_true a1] at g3
    rw [if_pos (Or.inr a1)]
    unfold G_power
    simp [g1, g2, h0, g3]
  rw [decide_eq_false a1] at g3
  rw [if_neg (fun h => h.elim az a1)]
  obtain ⟨e, n, r, hz⟩ : ∃ e n r, a = .c e n r := by
    cases a with
    | z => exact absurd rfl az
    | c e n r => exact ⟨e, n, r, rfl⟩
  have he : hdE a = e := by rw [hz]; rfl
  have hn : hdN a = n := by rw [hz]; rfl
  have b0 : atI (encL a) 0 = some (encP (e, n)) := by rw [hz]; exact atI_zero _ _
  have n1 := hdN_pos x.nf az
  rw [hn] at n1
  have hM : 0 < Ma := by have := B.c0; have := B.c4; omega
  have zh : Ka ≤ 1000000 := by have := B.z; omega
  have t1 := fun (F : Fn) (hF : TimesG F) => hF ((x.hd).bg (by decide)) (y.bg (by decide)) zh (by have := B.la; omega) B.l2 hM B.c2 B.c3
  have t2 := fun (F : Fn) (hF : TimesG F) => hF ((x.hd).bg (by decide)) (y.noW.bg (by decide)) zh (by have := B.la; omega) B.l2 hM B.c2 B.c3
  rw [he] at t1
  have g4 : gNe (enc e) (.tuple []) = some (.bool (!decide (e = .z))) := gNe_nil (by have := hd_h a ah; rw [he] at this; omega)
  by_cases s : a.len = 1 ∧ hdE a ≠ .z
  · rw [if_pos s]
    rw [he] at s ⊢
    rw [hn]
    rw [decide_eq_false s.2] at g4
    have p1 := h1 (n := n) y.nf (by omega) n1 t1
    have s1 := s.1
    unfold G_power
    simp [g1, g2, h0, g3, s1, b0, g4, p1]
  · rw [if_neg s]
    have hf2 : wpO b ≤ W ∧ a.len ≤ 24 ∧ ∀ p ∈ a.parts, p.2 < E60 := by
      rcases hf with h | h | h | h | h
      · exact absurd h bz
      · exact absurd h az
      · exact absurd h a1
      · exact absurd h s
      · exact h
    have w2 := B.w2
    have l1 := h2.yes a b y.nf (by omega) (by omega) (by omega) hf2.2.1 hf2.2.2
    have e4 := h4 b y.nf (by omega)
    have e5 := h5 b y.nf (by omega)
    have yn := y.noW
    have t3 := h3 (a := a) (L := noW b) az (by omega) yn.nf (by have := yn.h; omega) (by have := yn.s; omega) noW_exp t2
    have wn := wp_nonneg y.nf
    obtain ⟨w, hw⟩ := Int.eq_ofNat_of_zero_le wn
    have ok : okI (wpO b) = true := okI_small (by omega) (by omega)
    have x8 : Sz 8 La Ka Za Ca Ma a := x.up (by decide) (Nat.le_refl _) (Nat.le_refl _) (Nat.le_refl _) (Nat.le_refl _) (Nat.le_refl _)
    have tl := x.toLim y
    obtain ⟨ρ', r1, i, s3, rfl⟩ : ∃ ρ', forL (gtName 3) (sSet [] 2 (eFn (S c6) (aCons (eVar 2) (aCons (eVar 0) aNil)))) (rngD 0 w) [some (enc a), some (enc b), some (enc (toLim a (noW b))), none] = .nx ρ' ∧ ∃ i s3, ρ' = [some (enc a), some (enc b), some (enc (powN (toLim a (noW b)) a w)), s3] := by
      obtain ⟨ρ', r1, s3, h⟩ := forL_rng (n := w) (i := 3) (g := sSet [] 2 (eFn (S c6) (aCons (eVar 2) (aCons (eVar 0) aNil)))) (fun j ρ => ∃ s3, ρ = [some (enc a), some (enc b), some (enc (powN (toLim a (noW b)) a j)), s3]) [some (enc a), some (enc b), some (enc (toLim a (noW b))), none] ⟨_, rfl⟩ fun j hj ρ hi => by
        obtain ⟨s3, rfl⟩ := hi
        have pj := tl.powN x8 W j (by omega)
        have m1 : j * La ≤ W * La := Nat.mul_le_mul_right _ (by omega)
        have m4 : j * Ca ≤ W * Ca := Nat.mul_le_mul_right _ (by omega)
        have m3 : j * (Za + La * (Ka + Zb + Lb * Ka + W * Ka)) ≤ W * (Za + La * (Ka + Zb + Lb * Ka + W * Ka)) := Nat.mul_le_mul_right _ (by omega)
        have m5 : La * (1 + (1 + j * La)) ≤ La * (2 + W * La) := Nat.mul_le_mul_left _ (by omega)
        have bl := B.l
        have bz := B.z
        have bc := B.c1
        have t4 := h6 (pj.bg (by decide)) (x8.bg (by decide)) (by omega) (by have := B.la; omega) (by omega) (by omega) B.c0 (by omega)
        refine ⟨[some (enc a), some (enc b), some (enc (powN (toLim a (noW b)) a (j + 1))), some (.int (j : Nat))], Or.inl ?_, ⟨_, rfl⟩⟩
        simp [t4, powN]
      exact ⟨ρ', r1, 0, s3, h⟩
    have ew : (wpO b).toNat = w := by omega
    rw [ew]
    by_cases sl : a.len = 1
    · have ez : e = .z := by
        by_cases q : e = .z
        · exact q
        · exact absurd ⟨sl, by rw [he]; exact q⟩ s
      rw [decide_eq_true ez] at g4
      unfold G_power
      simp [g1, g2, h0, g3, sl, b0, g4, l1, e4, t3, e5, ok, ew, r1]
    · have sl' : ¬ (a.len : Int) = 1 := by omega
      unfold G_power
      simp [g1, g2, h0, g3, sl', l1, e4, t3, e5, ok, ew, r1]
end Nm
set_option Elab.async false
set_option linter.all false
set_option maxRecDepth 100000
set_option maxHeartbeats 4000000
namespace Nm
open PySem Pu O L2
/-! ### the shell of a law: so many cells at a time -/
theorem law_loop {ns : List Int} {g : Vars → Out} {i : Nat} {kI MI : Int} (k M : Nat) (I : Vars → Prop) (ek : kI = k) (eM : MI = M) (hk : 0 < k) (hM : M ≤ 1000) (hkM : k ≤ M) (ρ : Vars) (h0 : ρ.getD 0 none = some (.list (ns.map .int))) (hI : I ρ)
    (hg : ∀ (v : Int) (ρ : Vars), 0 ≤ v → I ρ → ∃ ρ', g (ρ.set i (some (.int v))) = .nx ρ' ∧ I ρ') :
    ∃ ρ', sFor [] (iRange3 (aCons (eC (.int 0)) (aCons (eCall gMax2 (aCons (eC (.int kI)) (aCons (eCall gMin2 (aCons (eC (.int MI)) (aCons (eCall gLen (aCons (eVar 0) aNil)) aNil))) aNil))) (aCons (eC (.int kI)) aNil)))) (gtName i) g ρ = .nx ρ' ∧ I ρ' := by
  subst ek eM
  obtain ⟨w, hw⟩ : ∃ w : Int, (if (ns.length : Int) < M then (ns.length : Int) else M) = w := ⟨_, rfl⟩
  obtain ⟨m, hm⟩ : ∃ m : Int, (if w > k then w else k) = m := ⟨_, rfl⟩
  have w0 : w ≤ 1000 := by rw [← hw]; split <;> omega
  have m0 : 0 ≤ m ∧ m ≤ 1000 := by rw [← hm]; split <;> omega
  have k0 : okI 0 = true := by decide
  have k1 : okI m = true := okI_small (by omega) (by omega)
  have k2 : okC k = true := by
    unfold okC
    rw [decide_eq_true (by omega), decide_eq_true (by omega)]; rfl
  obtain ⟨ρ', r1, r2⟩ := forL_inv (gt := gtName i) (g := g) (fun _ ρ => I ρ) (rngC 0 k (rngN 0 m k)) 0 ρ hI fun j d ρ hd hi => by
    rw [rngC_get] at hd
    by_cases q : j < rngN 0 m k
    · rw [if_pos q] at hd
      cases hd
      obtain ⟨ρ', e, h⟩ := hg (0 + (j : Nat) * (k : Int)) ρ (by have := Int.mul_nonneg (Int.natCast_nonneg j) (Int.natCast_nonneg k); omega) hi
      exact ⟨_, _, rfl, Or.inl e, h⟩
    · rw [if_neg q] at hd; cases hd
  have e1 : gMin2 [.int M, .int (ns.length : Nat)] = some (.int w) := by rw [← hw]; rfl
  have e2 : gMax2 [.int k, .int w] = some (.int m) := by rw [← hm]; rfl
  refine ⟨ρ', ?_, r2⟩
  rw [List.getD_eq_getElem?_getD] at h0
  simp [h0, e1, e2, k0, k1, k2, r1]
theorem cells_ok {S : Nat → Fn} {c : Nat} (h : CellOk (S c)) {ns : List Int} {ρ : Vars} {t q at' : Nat} {v : Int} (hv : 0 ≤ v) (h0 : ρ.getD 0 none = some (.list (ns.map .int))) (ha : ρ.getD at' none = some (.int v)) (q0 : q ≠ 0) (qa : q ≠ at') (ql : q < ρ.length) (n : Nat) (hn : n ≤ 1000) {nI : Int} (en : nI = n) :
    ∃ cs : List Int, cs.length = n ∧ sSetLc [] t (nLc (iRange (aCons (eC (.int nI)) aNil)) (gtName q) tYesD (eFn (S c) (aCons (eVar 0) (aCons (eOp gAdd (eVar at') (eVar q)) aNil))) [q]) ρ = .nx (ρ.set t (some (.list (cs.map .int)))) := by
  subst en
  have hj : ∀ j : Nat, ∃ w, S c [.list (ns.map .int), .int (v + (0 + (j : Nat)))] = .ok (.int w) := fun j => h ns (v + (0 + (j : Nat))) (by omega)
  refine ⟨(List.range n).map fun j => (hj j).choose, by simp, ?_⟩
  have lc := lc_gen (ps := List.range n) (E := fun j : Nat => PyData.int (0 + (j : Nat))) (ρ := ρ.set q none) (i := q) (tt := tYesD) (f := eFn (S c) (aCons (eVar 0) (aCons (eOp gAdd (eVar at') (eVar q)) aNil))) (P := fun _ => true) (F := fun j => PyData.int (hj j).choose) (fun _ _ => rfl) fun j _ _ => by
    have hc := (hj j).choose_spec
    generalize hw : (hj j).choose = w at hc ⊢
    have s1 : ((ρ.set q none).set q (some (PyData.int (0 + (j : Nat))))).getD q none = some (.int (0 + (j : Nat))) := by
      rw [List.set_set, List.getD_eq_getElem?_getD, List.getElem?_set_self ql]; rfl
    have s2 : ((ρ.set q none).set q (some (PyData.int (0 + (j : Nat))))).getD 0 none = some (.list (ns.map .int)) := by
      rw [List.set_set, getD_set_ne q0]; exact h0
    have s3 : ((ρ.set q none).set q (some (PyData.int (0 + (j : Nat))))).getD at' none = some (.int v) := by
      rw [List.set_set, getD_set_ne qa]; exact ha
    generalize (ρ.set q none).set q (some (PyData.int (0 + (j : Nat)))) = ρ2 at s1 s2 s3 ⊢
    simp only [u_eFn, u_aCons, u_eOp, u_eVar, s1, s2, s3, R.of_some, R.bind_ok, u_gAdd_i, u_aNil, hc]
  have f1 : (List.range n).filter (fun _ => true) = List.range n := List.filter_eq_self.mpr fun _ _ => rfl
  rw [f1] at lc
  have ok : okI n = true := okI_small (by omega) (by omega)
  have s1 : n < sizeLine := sz1000' (by omega)
  have e : rngD 0 n = (List.range n).map fun j : Nat => PyData.int (0 + (j : Nat)) := rfl
  have s2 : ((List.range n).map fun j => PyData.int (hj j).choose).length < sizeLine := by rw [List.length_map, List.length_range]; exact s1
  have e2 : ((List.range n).map fun j => (hj j).choose).map PyData.int = (List.range n).map fun j => PyData.int (hj j).choose := by rw [List.map_map]; rfl
  rw [e2]
  simp only [u_sSetLc, mask_nil, u_nLc, u_iRange, u_aCons, u_aNil, u_eC, R.bind_ok, ok, if_true, Int.toNat_natCast, e, u_wipe_c, u_wipe_n, lc, s2, R.run_ok]
end Nm
set_option Elab.async false
set_option linter.all false
set_option maxRecDepth 100000
set_option maxHeartbeats 4000000
namespace Nm
open PySem Pu O L2
/-! ### squares, limits -/
abbrev twoO : O := .c .z 2 .z
theorem nf_whole {n : Int} (h : 1 ≤ n) : NF (.c .z n .z) := nf_mk trivial h trivial (fun q hq => by cases hq)
theorem Sz.zero : Sz 0 0 0 0 0 0 .z := ⟨trivial, Nat.le_refl _, Nat.le_refl _, Nat.le_refl _, Nat.le_refl _, (fun p hp => by cases hp), by show (0 : Int) < 2 ^ 0; decide⟩
theorem Sz.whole {n : Int} {C M : Nat} (h : 1 ≤ n) (hc : n.natAbs < 2 ^ C) (hM : C ≤ M) : Sz 1 1 0 1 C M (.c .z n .z) :=
  (Sz.zero.up (Nat.le_refl _) (Nat.le_refl _) (Nat.le_refl _) (Nat.le_refl _) (Nat.le_refl _) (Nat.zero_le M)).w h hc hM
theorem TimesG.sz {F : Fn} (h : TimesG F) {H1 L1 K1 Z1 C1 M1 H2 L2 K2 Z2 C2 M2 : Nat} {a b : O} (x : Sz H1 L1 K1 Z1 C1 M1 a) (y : Sz H2 L2 K2 Z2 C2 M2 b)
    (q : (decide (H1 ≤ 8) && decide (H2 ≤ 8) && decide (Z1 ≤ 1000000) && decide (Z2 ≤ 1000000) && decide (L2 * (1 + L1) ≤ 5000000) && decide (0 < C1) && decide (0 < C2) && decide (C1 + C2 ≤ 100000)) = true) : F [enc a, enc b] = .ok (enc (prodO a b)) := by
  simp only [Bool.and_eq_true, decide_eq_true_eq] at q
  obtain ⟨⟨⟨⟨⟨⟨⟨q1, q2⟩, q3⟩, q4⟩, q5⟩, q6⟩, q7⟩, q8⟩ := q
  exact h (x.bg q1) (y.bg q2) q3 q4 q5 q6 q7 q8
theorem PlusOk.sz {F : Fn} {k : Nat} (h : PlusOk k F) {H1 L1 K1 Z1 C1 M1 H2 L2 K2 Z2 C2 M2 : Nat} {a b : O} (x : Sz H1 L1 K1 Z1 C1 M1 a) (y : Sz H2 L2 K2 Z2 C2 M2 b) (hk : 31 ≤ k)
    (q : (decide (H1 ≤ 30) && decide (H2 ≤ 30) && decide (L1 ≤ 1000000) && decide (L2 ≤ 1000000)) = true) : F [enc a, enc b] = .ok (enc (plusO a b)) := by
  simp only [Bool.and_eq_true, decide_eq_true_eq] at q
  have := x.h; have := y.h; have := x.ll; have := y.ll
  exact h a b x.nf (by omega) (by omega) (by omega) (by omega) (by omega)
theorem Sz.plus {H L1 K1 Z1 C1 M1 L2 K2 Z2 C2 M2 : Nat} {a b : O} (x : Sz H L1 K1 Z1 C1 M1 a) (y : Sz H L2 K2 Z2 C2 M2 b) : Sz H (L1 + L2) (K1 + K2) (Z1 + Z2) (C1 + C2 + 1) (M1 + M2 + 1) (plusO a b) where
  nf := plusO_nf x.nf y.nf
  h := plusO_h x.h y.h
  ll := by have := plusO_len (a := a) (b := b); have := x.ll; have := y.ll; omega
  k := by
    have hx := x.k
    have hy := y.k
    cases b with
    | z => show (hdE a).size ≤ _; omega
    | c f m s =>
      cases a with
      | z => rw [plus_z]; omega
      | c e n r =>
        replace hx : e.size ≤ K1 := hx
        replace hy : f.size ≤ K2 := hy
        rcases cmp_tri e f with h | h | h
        · rw [plus_lt x.nf h]; show f.size ≤ _; omega
        · subst h; rw [plus_eq x.nf]; show e.size ≤ _; omega
        · rw [plus_gt h]; show e.size ≤ _; omega
  s := by have := plus_size a b; have := x.s; have := y.s; omega
  cs := by
    have up1 : (2 : Nat) ^ C1 ≤ 2 ^ (C1 + C2) := Nat.pow_le_pow_right (by decide) (by omega)
    have up2 : (2 : Nat) ^ C2 ≤ 2 ^ (C1 + C2) := Nat.pow_le_pow_right (by decide) (by omega)
    have e2 : (2 : Nat) ^ (C1 + C2 + 1) = 2 ^ (C1 + C2) * 2 := Nat.pow_succ 2 (C1 + C2)
    cases b with
    | z => intro p hp; have := x.cs p hp; omega
    | c e n r =>
      intro p hp
      rw [show plusO a (.c e n r) = of (above a e ++ (e, sameN a e + n) :: r.parts) from rfl, parts_of] at hp
      rcases List.mem_append.mp hp with h | h
      · have := x.cs p (List.mem_filter.mp h).1; omega
      · rcases List.mem_cons.mp h with h | h
        · have h1 := y.cs (e, n) (by show _ ∈ (e, n) :: r.parts; simp)
          replace h1 : n.natAbs < 2 ^ C2 := h1
          have h2 : (sameN a e).natAbs < 2 ^ C1 := by
            have q := x.cs
            have pw := (nf_parts a).mp x.nf
            have : sameN a e = 0 ∨ ∃ p ∈ a.parts, sameN a e = p.2 := by
              have key : ∀ a : O, NF a → sameN a e = 0 ∨ ∃ p ∈ a.parts, sameN a e = p.2 := by
                intro a
                induction a with
                | z => intro _; exact Or.inl rfl
                | c f m s _ ih =>
                  intro na
                  rw [co_c]
                  by_cases fe : f = e
                  · rw [if_pos fe, co_tail na (Or.inr fe.symm)]
                    exact Or.inr ⟨(f, m), by show _ ∈ (f, m) :: s.parts; simp, by show m + 0 = m; omega⟩
                  · rw [if_neg fe, Int.zero_add]
                    rcases ih (nf_tail na).1 with h | ⟨p, hp, h⟩
                    · exact Or.inl h
                    · exact Or.inr ⟨p, by show p ∈ (f, m) :: s.parts; simp [hp], h⟩
              exact key a x.nf
            rcases this with h | ⟨p, hp, h⟩
            · rw [h]; exact Nat.two_pow_pos C1
            · rw [h]; exact q p hp
          rw [h]
          show (sameN a e + n).natAbs < _
          omega
        · have := y.cs p (by show p ∈ (e, n) :: r.parts; simp [h]); omega
  m := by
    have h := plus_mx x.nf y.nf
    have h1 := x.m
    have h2 := y.m
    have p1 : (1 : Int) ≤ 2 ^ M1 := by exact_mod_cast Nat.one_le_two_pow
    have p2 : (1 : Int) ≤ 2 ^ M2 := by exact_mod_cast Nat.one_le_two_pow
    have e1 : (2 : Int) ^ (M1 + M2 + 1) = 2 ^ M1 * 2 ^ M2 * 2 := by rw [Int.pow_add, Int.pow_add]; rfl
    have q1 : (2 : Int) ^ M1 * 1 ≤ 2 ^ M1 * 2 ^ M2 := Int.mul_le_mul_of_nonneg_left p2 (by omega)
    have q2 : 1 * (2 : Int) ^ M2 ≤ 2 ^ M1 * 2 ^ M2 := Int.mul_le_mul_of_nonneg_right p1 (by omega)
    rw [e1]
    generalize (2 : Int) ^ M1 * 2 ^ M2 = t at *
    omega
theorem pow_two {a : O} (na : NF a) : powO a twoO = prodO a a := by
  have one2 : twoO ≠ .z := fun z => O.noConfusion z
  unfold powO
  rw [if_neg one2]
  by_cases h : a = .z ∨ a = oneO
  · rw [if_pos h]
    rcases h with h | h
    · rw [h]; rfl
    · rw [h]; rfl
  · rw [if_neg h]
    have w : wpO twoO = 2 := rfl
    by_cases s : a.len = 1 ∧ hdE a ≠ .z
    · rw [if_pos s]
      cases a with
      | z => exact absurd (Or.inl rfl) h
      | c e n r =>
        obtain ⟨s1, s2⟩ := s
        replace s2 : e ≠ .z := s2
        have rz : r = .z := by
          cases r with
          | z => rfl
          | c f m t => have : (O.c e n (O.c f m t)).len = t.len + 1 + 1 := rfl; omega
        subst rz
        rw [if_neg (by rw [w]; decide), prod_nz s2, prod_bz]
        have d : prodO e twoO = plusO e e := by
          have : twoO = plusO oneO oneO := by decide
          rw [this]
          cases e with
          | z => exact absurd rfl s2
          | c f m t => rw [prod_dist (nf_tail na).2.1 oneO oneO nf_one nf_one, prod_one]
        show O.c (prodO e twoO) n .z = _
        rw [d]
    · rw [if_neg s]
      have n0 : noW twoO = .z := rfl
      rw [n0, w]
      show prodO (prodO oneO a) a = prodO a a
      rw [one_prod a na]
def Lim (x : O) : Prop := ∀ p ∈ x.parts, p.1 ≠ .z
theorem lim_prod {e e' r r' : O} {n n' : Int} (he : e = e') : ∀ {x : O}, Lim x → prodO (.c e n r) x = prodO (.c e' n' r') x
  | .z, _ => by rw [prod_bz, prod_bz]
  | .c f m s, h => by
    have fz : f ≠ .z := h (f, m) (by show _ ∈ (f, m) :: s.parts; simp)
    have hs : Lim s := fun p hp => h p (by show p ∈ (f, m) :: s.parts; simp [hp])
    rw [prod_nz fz, prod_nz fz, lim_prod he hs, he]
theorem whole_lim {m : Int} : ∀ {x : O}, Lim x → prodO (.c .z m .z) x = x
  | .z, _ => prod_bz
  | .c f k s, h => by
    have fz : f ≠ .z := h (f, k) (by show _ ∈ (f, k) :: s.parts; simp)
    have hs : Lim s := fun p hp => h p (by show p ∈ (f, k) :: s.parts; simp [hp])
    rw [prod_nz fz, whole_lim hs, plus_z]
theorem prod_inj {e r b d : O} {n : Int} (ha : NF (.c e n r)) (hb : NF b) (hd : NF d) (h : prodO (.c e n r) b = prodO (.c e n r) d) : b = d := by
  have := prod_cmp ha hb hd
  rw [h, cmp_self] at this
  exact (cmp_eq b d).mp this.symm
theorem lim_wp {x : O} (h : Lim x) : wpO x = 0 ∧ noW x = x := by
  induction x with
  | z => exact ⟨rfl, rfl⟩
  | c f m s _ ih =>
    have fz : f ≠ .z := h (f, m) (by show _ ∈ (f, m) :: s.parts; simp)
    have hs := ih fun p hp => h p (by show p ∈ (f, m) :: s.parts; simp [hp])
    rw [wp_c fz, noW_c fz, hs.1, hs.2]; exact ⟨rfl, rfl⟩
theorem pow_whole {m : Int} {x : O} (m2 : 2 ≤ m) (h : Lim x) (xz : x ≠ .z) : powO (.c .z m .z) x = .c (mapDec x) 1 .z := by
  have w := lim_wp h
  unfold powO
  rw [if_neg xz, if_neg (by
    rintro (z | z)
    · exact O.noConfusion z
    · have := (O.c.inj z).2.1; omega), if_neg (fun s => s.2 rfl), w.1, w.2]
  show toLim (.c .z m .z) x = _
  unfold toLim
  rw [if_neg xz, if_neg (fun s => s rfl)]
/-! a drawn limit, by one cell -/
def Lim1Ok (F : Fn) : Prop := ∀ v : Int, ∃ a, F [.int v] = .ok (enc a) ∧ Sz 4 3 256 256 67 67 a ∧ Lim a ∧ a ≠ .z
theorem l_limit1_step {S : Nat → Fn} {c0 c1 k : Nat} (hk : 4 ≤ k) (h0 : DrawnOk k (S c0)) (h1 : MixOk (S c1)) : Lim1Ok (fun ds => fnD 3 (G_l_limit_by c0 c1 S) ds) := by
  intro v
  have m4 : ∀ i : Int, cMod i 4 = true ∧ cMod i 100000000000000000000 = true := fun i => ⟨cMod_of (by decide), cMod_of (by decide)⟩
  have e20 : gPow (.int 10) (.int 20) = some (.int 100000000000000000000) := by
    show (if cPow 10 20 = true then some (PyData.int (10 ^ (20 : Int).toNat)) else none) = _
    rw [if_pos (by decide +kernel)]; rfl
  obtain ⟨r, er, r0, r1⟩ := h1 v 9 (by decide) (by decide)
  obtain ⟨l, hl⟩ := Int.eq_ofNat_of_zero_le (show 0 ≤ r % 4 by omega)
  obtain ⟨a, ea, da⟩ := h0 v l (by omega) (by omega)
  rw [← hl] at ea
  have l3 : l ≤ 3 := by omega
  have h4 : 4 ^ (l + 1) ≤ 4 ^ 4 := Nat.pow_le_pow_right (by decide) (by omega)
  have h5 : (4 : Nat) ^ 4 = 256 := by decide
  have sa : Sz 4 3 256 256 67 67 a := (Sz.of_dr da).up (by omega) (Nat.le_refl _) (by omega) (by omega) (by decide) (by decide)
  have ul := above_len a .z
  have al := sa.ll
  have ah := sa.h
  have s1 : (above a .z).length < sizeLine := sz1000' (by omega)
  have lc : ∀ x : Option PyData, lcL (gtName 2) (tOf (eOp gNe (eOp gIx (eVar 2) (eC (.int 0))) (eTup aNil))) (eVar 2) [some (.int v), x, none] (encL a) = .ok ((above a .z).map encP) := fun x => lc_nz (by omega) (fun x => rfl)
  have ew := above_noW sa.nf
  have ep : enc (noW a) = .tuple ((above a .z).map encP) := by
    show PyData.tuple (encL _) = _
    rw [encL_parts, ew]
  have n1 := gNe_nil (a := noW a) (by have := sa.noW.h; omega)
  by_cases az : noW a = .z
  · rw [decide_eq_true az, ep] at n1
    obtain ⟨w, hw⟩ : ∃ w : Int, v % 100000000000000000000 = w := ⟨_, rfl⟩
    have w0 : 0 ≤ w ∧ w < 100000000000000000000 := by omega
    have h1 : Sz 1 1 0 1 67 67 (.c .z (1 + w) .z) := Sz.whole (by omega) (by omega) (by decide)
    refine ⟨.c (.c .z (1 + w) .z) 1 .z, fnD_of ?_, (h1.w (n := 1) (c := 1) (by decide) (by decide) (by decide)).up (by decide) (by decide) (by decide) (by decide) (by decide) (by decide), fun p hp => ?_, fun z => O.noConfusion z⟩
    · have ey : enc (.c (.c .z (1 + w) .z) 1 .z) = .tuple [.tuple [.tuple [.tuple [.tuple [], .int (1 + w)]], .int 1]] := rfl
      rw [ey]
      unfold G_l_limit_by
      simp [er, m4, ea, lc, s1, n1, e20, hw]
    · rcases List.mem_cons.mp (show p ∈ (O.c .z (1 + w) .z, (1 : Int)) :: [] from hp) with h | h
      · rw [h]; exact fun z => O.noConfusion z
      · cases h
  · rw [decide_eq_false az, ep] at n1
    refine ⟨noW a, fnD_of ?_, sa.noW, fun p hp => noW_exp p hp, az⟩
    rw [ep]
    unfold G_l_limit_by
    simp [er, m4, ea, lc, s1, n1]
end Nm
set_option Elab.async false
set_option linter.all false
set_option maxRecDepth 100000
set_option maxHeartbeats 4000000
namespace Nm
open PySem Pu O L2
/-! ### a power by a law's own hands -/
theorem powN_nf {x a : O} (nx : NF x) (na : NF a) : ∀ n, NF (powN x a n)
  | 0 => nx
  | n + 1 => prodO_nf (powN_nf nx na n) na
theorem powN_from {x a : O} (nx : NF x) (na : NF a) : ∀ n, powN x a n = prodO x (powN oneO a n)
  | 0 => prod_one.symm
  | n + 1 => by
    show prodO (powN x a n) a = prodO x (prodO (powN oneO a n) a)
    rw [powN_from nx na n, prod_assoc nx (powN_nf nf_one na n) a na]
def OneOk (F : Fn) : Prop := ∀ f : O, NF f → f ≠ .z → f.h ≤ 29 → F [enc f] = .ok (enc (minusO f oneO))
theorem l_one_less_step (S : Nat → Fn) : OneOk (fun ds => fnD 1 (G_l_one_less S) ds) := by
  intro f nf fz fh
  refine fnD_of ?_
  cases f with
  | z => exact absurd rfl fz
  | c e n r =>
    have hh : (O.c e n r).h = max (e.h + 1) r.h := rfl
    have g1 := gNe_nil (a := e) (by omega)
    have b0 : atI (encL (O.c e n r)) 0 = some (encP (e, n)) := atI_zero _ _
    by_cases ez : e = .z
    · rw [decide_eq_true ez] at g1
      subst ez
      have rz := z_min nf
      subst rz
      by_cases n1 : n = 1
      · have : minusO (.c .z n .z) oneO = .z := by rw [n1]; decide
        rw [this]
        have g0 : gNe (.tuple []) (.tuple []) = some (.bool false) := gNe_nil (a := .z) (by decide)
        unfold G_l_one_less
        simp [n1, g0]
      · have : minusO (.c .z n .z) oneO = .c .z (n - 1) .z := by unfold minusO; rw [if_pos rfl, if_neg n1]
        rw [this]
        have g0 : gNe (.tuple []) (.tuple []) = some (.bool false) := gNe_nil (a := .z) (by decide)
        unfold G_l_one_less
        simp [n1, g0]
    · rw [decide_eq_false ez] at g1
      have : minusO (.c e n r) oneO = .c e n r := by unfold minusO; rw [if_neg ez]
      rw [this]
      generalize encL (O.c e n r) = w at *
      unfold G_l_one_less
      simp [b0, g1]
theorem l_power_step {S : Nat → Fn} {c0 c1 : Nat} (h0 : TimesG (S c0)) (h1 : OneOk (S c1)) {La Ka Za Ca Ma Lb Kb Zb Cb Mb W : Nat} {a b : O} (x : Sz 7 La Ka Za Ca Ma a) (y : Sz 7 Lb Kb Zb Cb Mb b) (B : PB La Ka Za Ca Ma Lb Kb Zb Cb Mb W)
    (hf : b = .z ∨ a = .z ∨ a = oneO ∨ (a.len = 1 ∧ hdE a ≠ .z) ∨ wpO b ≤ W) : fnD 8 (G_l_power c0 c1 S) [enc a, enc b] = .ok (enc (powO a b)) := by
  refine fnD_of ?_
  have ah := x.h
  have bh := y.h
  have g1 := gEq_nil (a := b) (by omega)
  have g2 := gEq_nil (a := a) (by omega)
  have g3 := gEq_enc (a := a) (b := oneO) (by omega) (by decide)
  rw [show enc oneO = .tuple [.tuple [.tuple [], .int 1]] from rfl] at g3
  have i0 : atI [enc a, enc oneO] 0 = some (enc a) := atI_zero _ _
  have i1 : atI [enc a, enc oneO] 1 = some (enc oneO) := atI_one _ _ _
  have eo : enc oneO = .tuple [.tuple [.tuple [], .int 1]] := rfl
  rw [eo] at i0 i1
  unfold powO
  by_cases bz : b = .z
  · rw [decide_eq_true bz] at g1
    rw [if_pos bz, eo]
    unfold G_l_power
    simp [g1, i1]
  rw [decide_eq_false bz] at g1
  rw [if_neg bz]
  by_cases az : a = .z
  · rw [decide_eq_true az] at g2
    rw [if_pos (Or.inl az)]
    unfold G_l_power
    simp [g1, g2, i0]
  rw [decide_eq_false az] at g2
  by_cases a1 : a = oneO
  · rw [decide_eq_true a1] at g3
    rw [if_pos (Or.inr a1)]
    unfold G_l_power
    simp [g1, g2, g3, i0]
  rw [decide_eq_false a1] at g3
  rw [if_neg (fun h => h.elim az a1)]
  obtain ⟨e, n, r, hz⟩ : ∃ e n r, a = .c e n r := by
    cases a with
    | z => exact absurd rfl az
    | c e n r => exact ⟨e, n, r, rfl⟩
  have he : hdE a = e := by rw [hz]; rfl
  have hn : hdN a = n := by rw [hz]; rfl
  have b0 : atI (encL a) 0 = some (encP (e, n)) := by rw [hz]; exact atI_zero _ _
  have n1 := hdN_pos x.nf az
  rw [hn] at n1
  have hM : 0 < Ma := by have := B.c0; have := B.c4; omega
  have zh : Ka ≤ 1000000 := by have := B.z; omega
  have t1 := h0 ((x.hd).bg (by decide)) (y.bg (by decide)) zh (by have := B.la; omega) B.l2 hM B.c2 B.c3
  have t2 := h0 ((x.hd).bg (by decide)) (y.noW.bg (by decide)) zh (by have := B.la; omega) B.l2 hM B.c2 B.c3
  rw [he] at t1 t2
  have eh := hd_h a ah
  rw [he] at eh
  have g4 : gNe (enc e) (.tuple []) = some (.bool (!decide (e = .z))) := gNe_nil (by omega)
  have g4' : gEq (enc e) (.tuple []) = some (.bool (decide (e = .z))) := gEq_nil (by omega)
  -- the sums of whole parts, the parts without them
  have wn := wp_nonneg y.nf
  have s1 : ∀ v5 v6 v7 : Option PyData, lcL (gtName 7) (tOf (eOp gEq (eOp gIx (eVar 7) (eC (.int 0))) (eTup aNil))) (eOp gIx (eVar 7) (eC (.int 1))) [some (enc a), some (enc b), some (.tuple [.tuple [.tuple [], .int 1]]), v5, v6, v7, none, none] (encL b) = .ok ((b.parts.filter fun p => decide (p.1 = .z)).map fun p => PyData.int p.2) := fun v5 v6 v7 => by
    refine lc_parts (P := fun p => decide (p.1 = .z)) (fun p hp => ?_) fun p hp _ => by simp
    have := part_mem_h hp
    have h1 := gEq_nil (a := p.1) (by omega)
    simp [h1]
  have es := intsOf_mapF (fun p : O × Int => p.2) (b.parts.filter fun p => decide (p.1 = .z))
  have sn : ((b.parts.filter fun p => decide (p.1 = .z)).map fun p => p.2).sum = wpO b := same_wp y.nf
  have bl := y.ll
  have blz := len_le_size b
  have bs := y.s
  have bb := B.la
  have lx : (b.parts.filter fun p => decide (p.1 = .z)).length ≤ b.len := by rw [← len_parts]; exact List.length_filter_le _ _
  have sz1 : (b.parts.filter fun p => decide (p.1 = .z)).length < sizeLine := sz1000' (by omega)
  have s2 : ∀ v4 v5 v6 v7 : Option PyData, lcL (gtName 7) (tOf (eOp gNe (eOp gIx (eVar 7) (eC (.int 0))) (eTup aNil))) (eVar 7) [some (enc a), some (enc b), some (.tuple [.tuple [.tuple [], .int 1]]), v4, v5, v6, v7, none] (encL b) = .ok ((above b .z).map encP) := fun v4 v5 v6 v7 => lc_nz (by omega) (fun x => rfl)
  rw [above_noW y.nf] at s2
  have nl : (noW b).parts.length ≤ b.len := by rw [← len_parts b]; exact (noW_sub b).length_le
  have sz2 : (noW b).parts.length < sizeLine := sz1000' (by omega)
  have en : enc (noW b) = .tuple ((noW b).parts.map encP) := by show PyData.tuple (encL _) = _; rw [encL_parts]
  have yn := y.noW
  by_cases s : a.len = 1 ∧ hdE a ≠ .z
  · rw [if_pos s]
    rw [he] at s ⊢
    rw [hn]
    rw [decide_eq_false s.2] at g4
    have s1' := s.1
    have ep : enc (.c (prodO e b) (if wpO b = 0 then 1 else n) .z) = .tuple [.tuple [enc (prodO e b), .int (if wpO b = 0 then 1 else n)]] := rfl
    rw [ep]
    by_cases w0 : wpO b = 0
    · have j0 : atI [PyData.int 1, .int n] 0 = some (.int 1) := atI_zero _ _
      rw [if_pos w0]
      unfold G_l_power
      simp [g1, g2, g3, s1, sz1, gSum, es, sn, s2, sz2, s1', b0, g4, t1, w0, j0]
    · have j1 : atI [PyData.int 1, .int n] 1 = some (.int n) := atI_one _ _ _
      rw [if_neg w0]
      have wp : 0 < wpO b := by omega
      unfold G_l_power
      simp [g1, g2, g3, s1, sz1, gSum, es, sn, s2, sz2, s1', b0, g4, t1, wp, j1]
  · rw [if_neg s]
    have hw : wpO b ≤ W := by
      rcases hf with h | h | h | h | h
      · exact absurd h bz
      · exact absurd h az
      · exact absurd h a1
      · exact absurd h s
      · exact h
    have w2 := B.w2
    obtain ⟨w, hwn⟩ := Int.eq_ofNat_of_zero_le wn
    have ok : okI (wpO b) = true := okI_small (by omega) (by omega)
    have ew : (wpO b).toNat = w := by omega
    have x8 : Sz 8 La Ka Za Ca Ma a := x.up (by decide) (Nat.le_refl _) (Nat.le_refl _) (Nat.le_refl _) (Nat.le_refl _) (Nat.le_refl _)
    have o8 : Sz 8 1 0 1 1 1 oneO := Sz.one.up (by decide) (Nat.le_refl _) (Nat.le_refl _) (Nat.le_refl _) (Nat.le_refl _) (Nat.le_refl _)
    have tl := x.toLim y
    have Bl := B.l
    have Bz := B.z
    have Bc := B.c1
    have Bc0 := B.c0
    have big : W * (Za + La * (0 + W * Ka)) ≤ W * (Za + La * (Ka + Zb + Lb * Ka + W * Ka)) := Nat.mul_le_mul_left _ (Nat.add_le_add_left (Nat.mul_le_mul_left _ (by omega)) _)
    have pj : ∀ j, j ≤ w → Sz 8 (1 + j * La) (0 + j * Ka) (1 + j * (Za + La * (0 + W * Ka))) (1 + j * Ca) (1 + j * (Ma + 2)) (powN oneO a j) := fun j hj => o8.powN x8 W j (by omega)
    have hb : ∀ j, j ≤ w → 1 + j * (Za + La * (0 + W * Ka)) ≤ 1000000 ∧ La * (1 + (1 + j * La)) ≤ 5000000 ∧ 1 + j * Ca + Ca ≤ 100000 ∧ (1 + j * La) * (1 + 1) ≤ 5000000 := fun j hj => by
      have m1 : j * La ≤ W * La := Nat.mul_le_mul_right _ (by omega)
      have m4 : j * Ca ≤ W * Ca := Nat.mul_le_mul_right _ (by omega)
      have m3 : j * (Za + La * (0 + W * Ka)) ≤ W * (Za + La * (0 + W * Ka)) := Nat.mul_le_mul_right _ (by omega)
      have m5 : La * (1 + (1 + j * La)) ≤ La * (2 + W * La) := Nat.mul_le_mul_left _ (by omega)
      have m6 : W * La ≤ 24 * La := Nat.mul_le_mul_right _ w2
      have m7 : La * 2 ≤ La * (2 + W * La) := Nat.mul_le_mul_left _ (by omega)
      have m8 : 1 * La ≤ W * La := Nat.mul_le_mul_right _ B.w1
      have m9 : La * 1 ≤ 2500000 := by omega
      have m10 : 1 + j * La ≤ 2500000 := by
        by_cases l1 : La = 0
        · rw [l1, Nat.mul_zero]; decide
        · have : 1 * (2 + W * La) ≤ La * (2 + W * La) := Nat.mul_le_mul_right _ (by omega)
          have : La ≤ 5000 ∨ 5000 < La := by omega
          rcases this with q | q
          · omega
          · have : 5001 * (2 + W * La) ≤ La * (2 + W * La) := Nat.mul_le_mul_right _ (by omega)
            omega
      omega
    obtain ⟨ρ', r1, s6, rfl⟩ : ∃ ρ', forL (gtName 6) (sSet [] 5 (eFn (S c0) (aCons (eVar 5) (aCons (eVar 0) aNil)))) (rngD 0 w) [some (enc a), some (enc b), some (enc oneO), some (.int (wpO b)), some (enc (noW b)), some (enc oneO), none, none] = .nx ρ' ∧ ∃ s6, ρ' = [some (enc a), some (enc b), some (enc oneO), some (.int (wpO b)), some (enc (noW b)), some (enc (powN oneO a w)), s6, none] := by
      obtain ⟨ρ', r1, s3, h⟩ := forL_rng (n := w) (i := 6) (g := sSet [] 5 (eFn (S c0) (aCons (eVar 5) (aCons (eVar 0) aNil)))) (fun j ρ => ∃ s6, ρ = [some (enc a), some (enc b), some (enc oneO), some (.int (wpO b)), some (enc (noW b)), some (enc (powN oneO a j)), s6, none]) [some (enc a), some (enc b), some (enc oneO), some (.int (wpO b)), some (enc (noW b)), some (enc oneO), none, none] ⟨_, rfl⟩ fun j hj ρ hi => by
        obtain ⟨s6, rfl⟩ := hi
        have q := hb j (by omega)
        have t4 := h0 ((pj j (by omega)).bg (by decide)) (x8.bg (by decide)) (by omega) (by have := B.la; omega) (by omega) (by omega) B.c0 (by omega)
        refine ⟨[some (enc a), some (enc b), some (enc oneO), some (.int (wpO b)), some (enc (noW b)), some (enc (powN oneO a (j + 1))), some (.int (j : Nat)), none], Or.inl ?_, ⟨_, rfl⟩⟩
        simp [t4, powN]
      exact ⟨ρ', r1, s3, h⟩
    have q := hb w (Nat.le_refl _)
    have t5 := h0 (tl.bg (by decide)) ((pj w (Nat.le_refl _)).bg (by decide)) (by omega) (by omega) (by omega) (by decide) (by omega) (by omega)
    rw [ew, powN_from tl.nf x.nf w]
    have ns : ((decide ((a.len : Int) = 1) && !decide (e = .z)) : Bool) = false := by
      cases q : (decide ((a.len : Int) = 1) && !decide (e = .z)) with
      | false => rfl
      | true =>
        rw [Bool.and_eq_true] at q
        have q1 := of_decide_eq_true q.1
        have q2 : ¬ e = .z := by simpa using q.2
        exact absurd ⟨by exact_mod_cast q1, by rw [he]; exact q2⟩ s
    rw [en, eo] at r1
    have alt : (¬ (a.len : Int) = 1) ∨ ((a.len : Int) = 1 ∧ gNe (enc e) (.tuple []) = some (.bool false)) := by
      by_cases l1 : (a.len : Int) = 1
      · have ez : e = .z := by
          rw [decide_eq_true l1, Bool.true_and] at ns
          by_cases q : e = .z
          · exact q
          · rw [decide_eq_false q] at ns; cases ns
        rw [decide_eq_true ez] at g4
        exact Or.inr ⟨l1, g4⟩
      · exact Or.inl l1
    have g5 := gNe_nil (a := noW b) (by have := yn.h; omega)
    rw [en] at g5
    by_cases lz : noW b = .z
    · rw [decide_eq_true lz] at g5
      have tz : toLim a (noW b) = oneO := if_pos lz
      rw [tz, one_prod _ (powN_nf nf_one x.nf w)]
      unfold G_l_power
      rcases alt with l1 | ⟨l1, g6⟩
      · simp [g1, g2, g3, s1, sz1, gSum, es, sn, s2, sz2, l1, ok, ew, r1, g5]
      · simp [g1, g2, g3, s1, sz1, gSum, es, sn, s2, sz2, l1, b0, g6, ok, ew, r1, g5]
    · rw [decide_eq_false lz] at g5
      by_cases ez : e = .z
      · rw [decide_eq_true ez] at g4'
        have tz : toLim a (noW b) = .c (mapDec (noW b)) 1 .z := by unfold toLim; rw [if_neg lz, if_neg (by rw [he]; simp [ez])]
        rw [tz] at t5 ⊢
        have lc : lcL (gtName 7) tYesD (eTup (aCons (eFn (S c1) (aCons (eOp gIx (eVar 7) (eC (.int 0))) aNil)) (aCons (eOp gIx (eVar 7) (eC (.int 1))) aNil))) [some (enc a), some (enc b), some (.tuple [.tuple [.tuple [], .int 1]]), some (.int (wpO b)), some (.tuple ((noW b).parts.map encP)), some (enc (powN oneO a w)), s6, none] ((noW b).parts.map encP) = .ok ((noW b).parts.map fun p => encP (minusO p.1 oneO, p.2)) := by
          have := lc_partsT (a := noW b) (ρ := [some (enc a), some (enc b), some (.tuple [.tuple [.tuple [], .int 1]]), some (.int (wpO b)), some (.tuple ((noW b).parts.map encP)), some (enc (powN oneO a w)), s6, none]) (i := 7) (f := eTup (aCons (eFn (S c1) (aCons (eOp gIx (eVar 7) (eC (.int 0))) aNil)) (aCons (eOp gIx (eVar 7) (eC (.int 1))) aNil))) (F := fun p => encP (minusO p.1 oneO, p.2)) fun p hp => by
            have ph := part_mem_h hp
            have yh := yn.h
            have m1 := h1 p.1 (((nf_parts (noW b)).mp yn.nf).2 p hp).1 (noW_exp p hp) (by omega)
            simp [m1]
          rw [encL_parts] at this
          exact this
        have em : enc (.c (mapDec (noW b)) 1 .z) = .tuple [.tuple [.tuple ((noW b).parts.map fun p => encP (minusO p.1 oneO, p.2)), .int 1]] := by
          show PyData.tuple [.tuple [.tuple (encL _), .int 1]] = _
          rw [encL_parts, mapDec_parts, List.map_map]; rfl
        rw [em] at t5
        unfold G_l_power
        rcases alt with l1 | ⟨l1, g6⟩
        · simp [g1, g2, g3, s1, sz1, gSum, es, sn, s2, sz2, l1, ok, ew, r1, g5, b0, g4', lc, t5]
        · simp [g1, g2, g3, s1, sz1, gSum, es, sn, s2, sz2, l1, b0, g6, ok, ew, r1, g5, g4', lc, t5]
      · rw [decide_eq_false ez] at g4'
        have tz : toLim a (noW b) = .c (prodO e (noW b)) 1 .z := by unfold toLim; rw [if_neg lz, he, if_pos ez]
        rw [tz] at t5 ⊢
        rw [show enc (.c (prodO e (noW b)) 1 .z) = .tuple [.tuple [enc (prodO e (noW b)), .int 1]] from rfl] at t5
        rw [en] at t2
        unfold G_l_power
        rcases alt with l1 | ⟨l1, g6⟩
        · simp [g1, g2, g3, s1, sz1, gSum, es, sn, s2, sz2, l1, ok, ew, r1, g5, b0, g4', t2, t5]
        · simp [g1, g2, g3, s1, sz1, gSum, es, sn, s2, sz2, l1, b0, g6, ok, ew, r1, g5, g4', t2, t5]
end Nm
set_option Elab.async false
set_option linter.all false
set_option maxRecDepth 100000
set_option maxHeartbeats 4000000
namespace Nm
open PySem Pu O L2
/-! ### a whole part cut -/
def capO (K : Int) : O → O
  | .z => .z
  | .c e n r => if e = .z then rzO .z (n % (K + 1)) else .c e n (capO K r)
def ctl (K : Int) : O → List (O × Int)
  | .z => []
  | .c e n r => if e = .z then (rzO .z (n % (K + 1))).parts else ctl K r
theorem cap_parts (K : Int) : ∀ b : O, (capO K b).parts = (noW b).parts ++ ctl K b
  | .z => rfl
  | .c e n r => by
    unfold capO ctl noW
    by_cases ez : e = .z
    · rw [if_pos ez, if_pos ez, if_pos ez]; rfl
    · rw [if_neg ez, if_neg ez, if_neg ez]
      show (e, n) :: (capO K r).parts = (e, n) :: (noW r).parts ++ _
      rw [cap_parts K r]; rfl
theorem rz_cases {e : O} {n : Int} {P : O → Prop} (h0 : n = 0 → P .z) (h1 : n ≠ 0 → P (.c e n .z)) : P (rzO e n) := by
  unfold rzO
  by_cases c : n = 0
  · rw [if_pos c]; exact h0 c
  · rw [if_neg c]; exact h1 c
theorem Sz.cap {H L K Z C M : Nat} {a : O} (x : Sz H L K Z C M a) {k : Int} (hk : 0 ≤ k) : Sz H L K Z C M (capO k a) ∧ wpO (capO k a) ≤ k ∧ (∀ p ∈ (capO k a).parts, ∃ q ∈ a.parts, q.1 = p.1) := by
  have key : ∀ a : O, NF a → NF (capO k a) ∧ (capO k a).len ≤ a.len ∧ (hdE (capO k a)).size ≤ (hdE a).size ∧ (capO k a).size ≤ a.size ∧ (∀ p ∈ (capO k a).parts, ∃ q ∈ a.parts, q.1 = p.1 ∧ p.2 ≤ q.2) ∧ mx (capO k a) ≤ mx a ∧ wpO (capO k a) ≤ k := by
    intro a
    induction a with
    | z => intro _; exact ⟨trivial, Nat.le_refl _, Nat.le_refl _, Nat.le_refl _, (fun p hp => by cases hp), Int.le_refl _, hk⟩
    | c e n r _ ih =>
      intro na
      have t := nf_tail na
      unfold capO
      by_cases ez : e = .z
      · rw [if_pos ez]
        subst ez
        have rz := z_min na
        subst rz
        have m0 := Int.emod_nonneg n (show k + 1 ≠ 0 by omega)
        have m1 := Int.emod_lt_of_pos n (show 0 < k + 1 by omega)
        have m2 : n % (k + 1) ≤ n := by
          by_cases q : n < k + 1
          · rw [Int.emod_eq_of_lt (by omega) q]; exact Int.le_refl _
          · omega
        refine rz_cases (P := fun y => NF y ∧ y.len ≤ (O.c .z n .z).len ∧ (hdE y).size ≤ (hdE (.c .z n .z)).size ∧ y.size ≤ (O.c .z n .z).size ∧ (∀ p ∈ y.parts, ∃ q ∈ (O.c .z n .z).parts, q.1 = p.1 ∧ p.2 ≤ q.2) ∧ mx y ≤ mx (.c .z n .z) ∧ wpO y ≤ k) (fun _ => ?_) (fun h => ?_)
        · exact ⟨trivial, Nat.zero_le _, Nat.zero_le _, Nat.zero_le _, (fun p hp => by cases hp), mx_nonneg _, hk⟩
        · refine ⟨nf_whole (by omega), Nat.le_refl _, Nat.le_refl _, Nat.le_refl _, fun p hp => ?_, ?_, ?_⟩
          · rcases List.mem_cons.mp (show p ∈ (O.z, n % (k + 1)) :: [] from hp) with h | h
            · exact ⟨(.z, n), by show _ ∈ (O.z, n) :: []; simp, by rw [h], by rw [h]; exact m2⟩
            · cases h
          · show max (n % (k + 1)) (max 0 0) ≤ max n (max 0 0); omega
          · rw [wp_z]; omega
      · rw [if_neg ez]
        obtain ⟨i1, i2, i3, i4, i5, i6, i7⟩ := ih t.1
        refine ⟨nf_mk t.2.1 t.2.2.1 i1 fun q hq => ?_, ?_, Nat.le_refl _, ?_, fun p hp => ?_, ?_, ?_⟩
        · obtain ⟨q', h1, h2, _⟩ := i5 q hq
          rw [← h2]; exact t.2.2.2 q' h1
        · show (capO k r).len + 1 ≤ r.len + 1; omega
        · show 1 + e.size + (capO k r).size ≤ 1 + e.size + r.size; omega
        · rcases List.mem_cons.mp (show p ∈ (e, n) :: (capO k r).parts from hp) with h | h
          · exact ⟨(e, n), by show _ ∈ (e, n) :: r.parts; simp, by rw [h], by rw [h]; exact Int.le_refl _⟩
          · obtain ⟨q', h1, h2, h3⟩ := i5 p h
            exact ⟨q', by show q' ∈ (e, n) :: r.parts; simp [h1], h2, h3⟩
        · show max n (max (mx e) (mx (capO k r))) ≤ max n (max (mx e) (mx r)); omega
        · rw [wp_c ez]; exact i7
  obtain ⟨i1, i2, i3, i4, i5, i6, i7⟩ := key a x.nf
  refine ⟨⟨i1, ?_, Nat.le_trans i2 x.ll, Nat.le_trans i3 x.k, Nat.le_trans i4 x.s, fun p hp => ?_, Int.lt_of_le_of_lt i6 x.m⟩, i7, fun p hp => ?_⟩
  · rw [h_parts]
    intro p hp
    obtain ⟨q, h1, h2, _⟩ := i5 p hp
    rw [← h2]
    exact (h_parts a).mp x.h q h1
  · obtain ⟨q, h1, h2, h3⟩ := i5 p hp
    have := x.cs q h1
    have := (((nf_parts _).mp i1).2 p hp).2
    omega
  · obtain ⟨q, h1, h2, _⟩ := i5 p hp
    exact ⟨q, h1, h2⟩
def CapOk (F : Fn) : Prop := ∀ (a : O) (k : Int), NF a → a.h ≤ 30 → a.len ≤ 1000 → 0 ≤ k → F [enc a, .int k] = .ok (enc (capO k a))
theorem l_capped_step (S : Nat → Fn) : CapOk (fun ds => fnD 4 (G_l_capped S) ds) := by
  intro a k na ah al hk
  refine fnD_of ?_
  have cm : ∀ i : Int, cMod i (k + 1) = true := fun i => cMod_of (by omega)
  have s2 : lcL (gtName 3) (tOf (eOp gNe (eOp gIx (eVar 3) (eC (.int 0))) (eTup aNil))) (eVar 3) [some (enc a), some (.int k), none, none] (encL a) = .ok ((above a .z).map encP) := lc_nz (by omega) (fun x => rfl)
  rw [above_noW na] at s2
  have nl : (noW a).parts.length ≤ a.len := by rw [← len_parts a]; exact (noW_sub a).length_le
  have loop : ∀ (x : O) (Fd : List (O × Int)) (s : Option PyData), NF x → x.h ≤ 30 → Fd.length ≤ 1000 → ∃ s', forL (gtName 3) (sIf (tAndR (tOf (eOp gEq (eOp gIx (eVar 3) (eC (.int 0))) (eTup aNil))) (tOf (eOp gGt (eOp gMod (eOp gIx (eVar 3) (eC (.int 1))) (eOp gAdd (eVar 1) (eC (.int 1)))) (eC (.int 0))))) (sAppM [2] 2 (eTup (aCons (eTup aNil) (aCons (eOp gMod (eOp gIx (eVar 3) (eC (.int 1))) (eOp gAdd (eVar 1) (eC (.int 1)))) aNil)))) sNil) (encL x) [some (enc a), some (.int k), some (.list (Fd.map encP)), s] = .nx [some (enc a), some (.int k), some (.list ((Fd ++ ctl k x).map encP)), s'] := by
    intro x
    induction x with
    | z => intro Fd s _ _ _; exact ⟨s, by show Out.nx _ = _; rw [show ctl k .z = [] from rfl, List.append_nil]⟩
    | c e n r _ ih =>
      intro Fd s nx xh fl
      have t := nf_tail nx
      have hh : (O.c e n r).h = max (e.h + 1) r.h := rfl
      have g1 := gEq_nil (a := e) (by omega)
      have sl : Fd.length < sizeLine := sz1000' (by omega)
      by_cases ez : e = .z
      · rw [decide_eq_true ez] at g1
        have rz : r = .z := z_min (ez ▸ nx)
        subst rz
        have ct : ctl k (.c e n .z) = (rzO .z (n % (k + 1))).parts := if_pos ez
        rw [ct]
        refine ⟨some (encP (e, n)), ?_⟩
        show forL _ _ [.tuple [enc e, .int n]] _ = _
        rw [u_forL_c]
        have m0 := Int.emod_nonneg n (show k + 1 ≠ 0 by omega)
        by_cases q : n % (k + 1) = 0
        · have : (rzO .z (n % (k + 1))).parts = [] := by unfold rzO; rw [if_pos q]; rfl
          rw [this, List.append_nil]
          simp [g1, cm, q]
        · have : (rzO .z (n % (k + 1))).parts = [(.z, n % (k + 1))] := by unfold rzO; rw [if_neg q]; rfl
          rw [this, List.map_append]
          have q0 : 0 < n % (k + 1) := by omega
          simp [g1, cm, q0, sl]
      · rw [decide_eq_false ez] at g1
        have ct : ctl k (.c e n r) = ctl k r := if_neg ez
        rw [ct]
        obtain ⟨s', h⟩ := ih Fd (some (encP (e, n))) t.1 (by omega) fl
        refine ⟨s', ?_⟩
        rw [← h]
        show forL _ _ (.tuple [enc e, .int n] :: encL r) _ = _
        rw [u_forL_c]
        simp [g1]
  obtain ⟨s', l1⟩ := loop a (noW a).parts none na ah (by omega)
  have ep : enc (capO k a) = .tuple (((noW a).parts ++ ctl k a).map encP) := by
    show PyData.tuple (encL _) = _
    rw [encL_parts, cap_parts]
  rw [ep]
  have sz2 : (noW a).parts.length < sizeLine := sz1000' (by omega)
  unfold G_l_capped
  simp [s2, sz2]
  simp at l1
  simp [l1]
end Nm
set_option Elab.async false
set_option linter.all false
set_option maxRecDepth 100000
set_option maxHeartbeats 4000000
namespace Nm
open PySem Pu O L2
/-! ### what powers keep -/
theorem lim_sub {L : O} {f s : O} {d : Int} (h : Lim (.c f d s)) : f ≠ .z ∧ Lim s := ⟨h (f, d) (by show _ ∈ (f, d) :: s.parts; simp), fun p hp => h p (by show p ∈ (f, d) :: s.parts; simp [hp])⟩
theorem lim_noW (b : O) : Lim (noW b) := fun p hp => noW_exp p hp
def Eo (a L : O) : O := if hdE a ≠ .z then prodO (hdE a) L else mapDec L
theorem Eo_z {a : O} : Eo a .z = .z := by
  unfold Eo
  split
  · exact prod_bz
  · rfl
theorem toLim_E (a L : O) : toLim a L = .c (Eo a L) 1 .z := by
  unfold toLim
  by_cases h : L = .z
  · rw [if_pos h, h, Eo_z]
  · rw [if_neg h]
    unfold Eo
    by_cases q : hdE a ≠ .z
    · rw [if_pos q, if_pos q]
    · rw [if_neg q, if_neg q]
abbrev Wo (a L : O) : O := .c (Eo a L) 1 .z
def powG (a b : O) : O := powN (Wo a (noW b)) a (wpO b).toNat
theorem powN_add (x a : O) (m : Nat) : ∀ k, powN x a (m + k) = powN (powN x a m) a k
  | 0 => rfl
  | k + 1 => by show prodO (powN x a (m + k)) a = prodO _ a; rw [powN_add x a m k]
/-- one power more of a whole number -/
theorem whole_succ {k : Nat} (hk : 0 < k) : plusO (.c .z (k : Int) .z) oneO = .c .z ((k + 1 : Nat) : Int) .z := by
  rw [plus_eq (nf_whole (by omega))]; rfl
theorem prod_succ {e : O} (ne : NF e) {k : Nat} (hk : 0 < k) : prodO e (.c .z ((k + 1 : Nat) : Int) .z) = plusO (prodO e (.c .z (k : Int) .z)) e := by
  rw [← whole_succ hk]
  cases e with
  | z => rfl
  | c f m t => rw [prod_dist ne _ _ (nf_whole (by omega)) nf_one, prod_one]
/-- times a whole number from 0 on -/
theorem prod_rz {e : O} (ne : NF e) (k : Nat) : prodO e (rzO .z ((k + 1 : Nat) : Int)) = plusO (prodO e (rzO .z (k : Int))) e := by
  have h1 : rzO .z ((k + 1 : Nat) : Int) = .c .z ((k + 1 : Nat) : Int) .z := if_neg (by omega)
  rw [h1]
  by_cases h : k = 0
  · subst h
    have h0 : rzO .z ((0 : Nat) : Int) = .z := if_pos rfl
    rw [h0, prod_bz, plus_z]
    exact prod_one
  · have h0 : rzO .z (k : Int) = .c .z (k : Int) .z := if_neg (by omega)
    rw [h0, prod_succ ne (by omega)]
theorem single_pow {x e : O} {n : Int} (nx : NF x) (ne : NF e) (ez : e ≠ .z) : ∀ k : Nat, 0 < k → powN (.c x 1 .z) (.c e n .z) k = .c (plusO x (prodO e (.c .z (k : Int) .z))) n .z
  | 0, h => absurd h (Nat.lt_irrefl 0)
  | k + 1, _ => by
    show prodO (powN (.c x 1 .z) (.c e n .z) k) (.c e n .z) = _
    by_cases h : k = 0
    · subst h
      show prodO (.c x 1 .z) (.c e n .z) = _
      rw [prod_nz ez, prod_bz]
      have : (((0 + 1 : Nat) : Int)) = 1 := rfl
      rw [this, prod_one]
    · rw [single_pow nx ne ez k (by omega), prod_nz ez, prod_bz, prod_succ ne (by omega), plus_assoc _ _ _ nx (prodO_nf ne (nf_whole (by omega))) ne]
structure Gt1 (a : O) : Prop where
  nz : a ≠ .z
  n1 : a ≠ oneO
theorem Eo_nf {a L : O} (na : NF a) (nL : NF L) (lL : Lim L) : NF (Eo a L) := by
  unfold Eo
  split
  · exact prodO_nf (hd_nf na) nL
  · exact mapDec_nf nL lL
theorem Wo_nf {a L : O} (na : NF a) (nL : NF L) (lL : Lim L) : NF (Wo a L) := nf_mk (Eo_nf na nL lL) (by decide) trivial (fun q hq => by cases hq)
theorem powG_nf {a b : O} (na : NF a) (nb : NF b) : NF (powG a b) := powN_nf (Wo_nf na (noW_nf nb) (lim_noW b)) na _
theorem pow_G {a b : O} (na : NF a) (nb : NF b) (g : Gt1 a) : powO a b = powG a b := by
  unfold powO
  by_cases bz : b = .z
  · rw [if_pos bz]
    subst bz
    show _ = powN (Wo a .z) a 0
    show oneO = Wo a .z
    unfold Wo
    rw [Eo_z]
  rw [if_neg bz, if_neg (fun h => h.elim g.nz g.n1)]
  by_cases s : a.len = 1 ∧ hdE a ≠ .z
  · rw [if_pos s]
    cases a with
    | z => exact absurd rfl g.nz
    | c e n r =>
      obtain ⟨s1, s2⟩ := s
      replace s2 : e ≠ .z := s2
      have rz : r = .z := by
        cases r with
        | z => rfl
        | c f m t => have : (O.c e n (O.c f m t)).len = t.len + 1 + 1 := rfl; omega
      subst rz
      have ne := (nf_tail na).2.1
      have wn := wp_nonneg nb
      have sp := noW_split nb
      have eL : Eo (.c e n .z) (noW b) = prodO e (noW b) := if_pos s2
      show O.c (prodO e b) (if wpO b = 0 then 1 else n) .z = powN (Wo (.c e n .z) (noW b)) (.c e n .z) (wpO b).toNat
      show _ = powN (.c (Eo (.c e n .z) (noW b)) 1 .z) _ _
      rw [eL]
      by_cases w : wpO b = 0
      · rw [if_pos w, w, noW_wp0 nb w]; rfl
      · rw [if_neg w, single_pow (prodO_nf ne (noW_nf nb)) ne s2 _ (by omega)]
        have hw : (((wpO b).toNat : Nat) : Int) = wpO b := by omega
        rw [hw]
        have rz : rzO .z (wpO b) = .c .z (wpO b) .z := if_neg w
        rw [rz] at sp
        have d : prodO e b = plusO (prodO e (noW b)) (prodO e (.c .z (wpO b) .z)) := by
          conv => lhs; rw [← sp]
          cases e with
          | z => exact absurd rfl s2
          | c f m t => exact prod_dist ne _ _ (noW_nf nb) (nf_whole (by omega))
        rw [d]
  · rw [if_neg s, toLim_E]; rfl
/-! limits and whole parts of sums -/
theorem lw {k : Int} (hk : 0 ≤ k) : ∀ {L : O}, Lim L → noW (plusO L (rzO .z k)) = L ∧ wpO (plusO L (rzO .z k)) = k
  | .z, _ => by
    rw [plus_z]
    exact rz_cases (P := fun y => noW y = .z ∧ wpO y = k) (fun h => ⟨rfl, h.symm⟩) (fun _ => ⟨noW_z, wp_z⟩)
  | .c f d s, h => by
    obtain ⟨fz, ls⟩ := lim_sub (L := .z) h
    have ih := lw hk ls
    by_cases k0 : k = 0
    · have h0 : rzO .z k = .z := if_pos k0
      rw [h0]
      show noW (.c f d s) = _ ∧ wpO (.c f d s) = k
      have := lim_wp h
      exact ⟨this.2, by rw [this.1, k0]⟩
    · have h0 : rzO .z k = .c .z k .z := if_neg k0
      rw [h0] at ih ⊢
      rw [plus_gt (cmp_gt.mpr (z_lt fz)), noW_c fz, wp_c fz, ih.1, ih.2]
      exact ⟨rfl, rfl⟩
theorem plus_lim {L M : O} (hL : Lim L) (hM : Lim M) : Lim (plusO L M) := by
  cases M with
  | z => exact hL
  | c e n r =>
    intro p hp
    rw [show plusO L (.c e n r) = of (above L e ++ (e, sameN L e + n) :: r.parts) from rfl, parts_of] at hp
    rcases List.mem_append.mp hp with h | h
    · exact hL p (List.mem_filter.mp h).1
    · rcases List.mem_cons.mp h with h | h
      · rw [h]; exact hM (e, n) (by show _ ∈ (e, n) :: r.parts; simp)
      · exact hM p (by show p ∈ (e, n) :: r.parts; simp [h])
theorem rz_add {m k : Int} (hm : 0 ≤ m) (hk : 0 ≤ k) : plusO (rzO .z m) (rzO .z k) = rzO .z (m + k) := by
  by_cases k0 : k = 0
  · have h0 : rzO .z k = .z := if_pos k0
    rw [h0, k0, Int.add_zero]; rfl
  · have h0 : rzO .z k = .c .z k .z := if_neg k0
    have h1 : rzO .z (m + k) = .c .z (m + k) .z := if_neg (by omega)
    rw [h0, h1]
    by_cases m0 : m = 0
    · have h2 : rzO .z m = .z := if_pos m0
      rw [h2, plus_z, m0, Int.zero_add]
    · have h2 : rzO .z m = .c .z m .z := if_neg m0
      rw [h2, plus_eq (nf_whole (by omega))]
theorem rz_lim {m : Int} {M : O} (hm : 0 ≤ m) (lM : Lim M) (Mz : M ≠ .z) : plusO (rzO .z m) M = M := by
  cases M with
  | z => exact absurd rfl Mz
  | c f d s =>
    have fz := (lim_sub (L := .z) lM).1
    exact rz_cases (P := fun y => plusO y (.c f d s) = .c f d s) (fun _ => plus_z) (fun h => plus_lt (nf_whole (by omega)) (z_lt fz))
theorem plus_whole {b c : O} (nb : NF b) (nc : NF c) (h : noW c = .z) : noW (plusO b c) = noW b ∧ wpO (plusO b c) = wpO b + wpO c := by
  have hb := noW_split nb
  have hc := noW_split nc
  rw [h, plus_z] at hc
  have wb := wp_nonneg nb
  have wc := wp_nonneg nc
  have : plusO b c = plusO (noW b) (rzO .z (wpO b + wpO c)) := by
    conv => lhs; rw [← hb, ← hc]
    rw [plus_assoc _ _ _ (noW_nf nb) (rz_nf (e := .z) trivial wb) (rz_nf (e := .z) trivial wc), rz_add wb wc]
  rw [this]
  exact lw (by omega) (lim_noW b)
theorem plus_over {b c : O} (nb : NF b) (nc : NF c) (h : noW c ≠ .z) : noW (plusO b c) = plusO (noW b) (noW c) ∧ wpO (plusO b c) = wpO c := by
  have hb := noW_split nb
  have hc := noW_split nc
  have wb := wp_nonneg nb
  have wc := wp_nonneg nc
  have nL := noW_nf nb
  have nM := noW_nf nc
  have this : plusO b c = plusO (plusO (noW b) (noW c)) (rzO .z (wpO c)) := by
    conv => lhs; rw [← hb, ← hc]
    rw [plus_assoc _ _ _ nL (rz_nf (e := .z) trivial wb) (plusO_nf nM (rz_nf (e := .z) trivial wc)), ← plus_assoc _ _ _ (rz_nf (e := .z) trivial wb) nM (rz_nf (e := .z) trivial wc), rz_lim wb (lim_noW c) h, ← plus_assoc _ _ _ nL nM (rz_nf (e := .z) trivial wc)]
  rw [this]
  exact lw wc (plus_lim (lim_noW b) (lim_noW c))
theorem mapDec_z {M : O} (h : M ≠ .z) : mapDec M ≠ .z := by
  cases M with
  | z => exact absurd rfl h
  | c f d s => exact fun z => O.noConfusion z
theorem prod_not_z {a b : O} (ha : a ≠ .z) (hb : b ≠ .z) (nb : NF b) : prodO a b ≠ .z := by
  cases a with
  | z => exact absurd rfl ha
  | c e n r =>
    cases b with
    | z => exact absurd rfl hb
    | c f m s =>
      obtain ⟨c1, t1, h⟩ := prod_hd (e := e) (r := r) (n := n) nb
      rw [h]; exact fun z => O.noConfusion z
theorem Eo_not_z {a M : O} (h : M ≠ .z) (nM : NF M) : Eo a M ≠ .z := by
  unfold Eo
  by_cases q : hdE a ≠ .z
  · rw [if_pos q]; exact prod_not_z q h nM
  · rw [if_neg q]; exact mapDec_z h
theorem mapDec_plus {M : O} (nM : NF M) (lM : Lim M) : ∀ {L : O}, NF L → Lim L → mapDec (plusO L M) = plusO (mapDec L) (mapDec M)
  | .z, _, _ => by rw [plus_z]; exact plus_z.symm
  | .c f d s, nL, lL => by
    obtain ⟨fz, ls⟩ := lim_sub (L := .z) lL
    have t := nf_tail nL
    cases M with
    | z => rfl
    | c g k u =>
      obtain ⟨gz, lu⟩ := lim_sub (L := .z) lM
      have tm := nf_tail nM
      have dc := dec_cmp t.2.1 tm.2.1 fz gz
      have nd := mapDec_nf nL lL
      rcases cmp_tri f g with h | h | h
      · rw [plus_lt nL h]
        rw [h] at dc
        exact (plus_lt nd dc).symm
      · subst h
        rw [plus_eq nL]
        exact (plus_eq nd).symm
      · rw [plus_gt h]
        rw [h] at dc
        show O.c (minusO f oneO) d (mapDec (plusO s (.c g k u))) = plusO (.c (minusO f oneO) d (mapDec s)) (.c (minusO g oneO) k (mapDec u))
        rw [plus_gt dc, mapDec_plus nM lM t.1 ls]; rfl
theorem Eo_add {a L M : O} (na : NF a) (nL : NF L) (lL : Lim L) (nM : NF M) (lM : Lim M) : Eo a (plusO L M) = plusO (Eo a L) (Eo a M) := by
  unfold Eo
  by_cases q : hdE a ≠ .z
  · rw [if_pos q, if_pos q, if_pos q]
    have ne := hd_nf na
    cases hq : hdE a with
    | z => exact absurd hq q
    | c e n r => rw [hq] at ne; exact prod_dist ne L M nL nM
  · rw [if_neg q, if_neg q, if_neg q]
    exact mapDec_plus nM lM nL lL
theorem absorb {a M : O} (na : NF a) (az : a ≠ .z) (nM : NF M) (lM : Lim M) (Mz : M ≠ .z) : prodO a (Wo a M) = Wo a M := by
  cases a with
  | z => exact absurd rfl az
  | c e n r =>
    have ez := Eo_not_z (a := .c e n r) Mz nM
    have ne := (nf_tail na).2.1
    show prodO (.c e n r) (.c (Eo (.c e n r) M) 1 .z) = _
    rw [prod_nz ez, prod_bz]
    have : plusO e (Eo (.c e n r) M) = Eo (.c e n r) M := by
      by_cases q : e = .z
      · subst q; exact plus_z
      · have h1 : Eo (.c e n r) M = prodO e M := if_pos q
        rw [h1]
        have h2 : plusO oneO M = M := rz_lim (m := 1) (by decide) lM Mz
        cases e with
        | z => exact absurd rfl q
        | c f m t =>
          have := prod_dist ne oneO M nf_one nM
          rw [prod_one, h2] at this
          exact this.symm
    rw [this]
theorem absorbN {a M : O} (na : NF a) (az : a ≠ .z) (nM : NF M) (lM : Lim M) (Mz : M ≠ .z) : ∀ m, prodO (powN oneO a m) (Wo a M) = Wo a M
  | 0 => one_prod _ (Wo_nf na nM lM)
  | m + 1 => by
    show prodO (prodO (powN oneO a m) a) (Wo a M) = _
    rw [prod_assoc (powN_nf nf_one na m) na _ (Wo_nf na nM lM), absorb na az nM lM Mz, absorbN na az nM lM Mz m]
theorem Wo_z {a : O} : Wo a .z = oneO := by show O.c (Eo a .z) 1 .z = _; rw [Eo_z]
theorem Wo_mul {a L M : O} (na : NF a) (nL : NF L) (lL : Lim L) (nM : NF M) (lM : Lim M) (Mz : M ≠ .z) : prodO (Wo a L) (Wo a M) = Wo a (plusO L M) := by
  show prodO (.c (Eo a L) 1 .z) (.c (Eo a M) 1 .z) = .c (Eo a (plusO L M)) 1 .z
  rw [prod_nz (Eo_not_z Mz nM), prod_bz, Eo_add na nL lL nM lM]
theorem pow_add {a b c : O} (na : NF a) (az : a ≠ .z) (nb : NF b) (nc : NF c) : powG a (plusO b c) = prodO (powG a b) (powG a c) := by
  have nL := noW_nf nb
  have nM := noW_nf nc
  have lL := lim_noW b
  have lM := lim_noW c
  have wb := wp_nonneg nb
  have wc := wp_nonneg nc
  have nWL := Wo_nf na nL lL
  have nWM := Wo_nf na nM lM
  by_cases Mz : noW c = .z
  · obtain ⟨h1, h2⟩ := plus_whole nb nc Mz
    unfold powG
    rw [h1, h2, Mz, Wo_z, show (wpO b + wpO c).toNat = (wpO b).toNat + (wpO c).toNat by omega, powN_add, powN_from (powN_nf nWL na _) na]
  · obtain ⟨h1, h2⟩ := plus_over nb nc Mz
    unfold powG
    rw [h1, h2, ← Wo_mul na nL lL nM lM Mz, powN_from (prodO_nf nWL nWM) na, powN_from nWL na (wpO b).toNat, powN_from nWM na (wpO c).toNat]
    have nA := powN_nf nf_one na (wpO b).toNat
    have nB := powN_nf nf_one na (wpO c).toNat
    rw [← prod_assoc (prodO_nf nWL nA) nWM _ nB, prod_assoc nWL nA _ nWM, absorbN na az nM lM Mz]
end Nm
set_option Elab.async false
set_option linter.all false
set_option maxRecDepth 100000
set_option maxHeartbeats 4000000
namespace Nm
open PySem Pu O L2
/-! ### the order of powers; powers of powers -/
theorem gt1_lt {x : O} (nx : NF x) (g : Gt1 x) : cmp oneO x = -1 := by
  cases x with
  | z => exact absurd rfl g.nz
  | c e n r =>
    have t := nf_tail nx
    by_cases ez : e = .z
    · subst ez
      have rz := z_min nx
      subst rz
      refine cmp_c.mpr (Or.inr ⟨rfl, Or.inl ?_⟩)
      have : n ≠ 1 := fun h => g.n1 (by rw [h])
      omega
    · exact cmp_lt_head (z_lt ez)
theorem gt1_of {x : O} (h : cmp oneO x = -1) : Gt1 x := ⟨fun z => by rw [z] at h; simp [cmp] at h, fun z => by rw [z, cmp_self] at h; cases h⟩
theorem not_z_le {x : O} (nx : NF x) (h : x ≠ .z) : x = oneO ∨ cmp oneO x = -1 := by
  by_cases q : x = oneO
  · exact Or.inl q
  · exact Or.inr (gt1_lt nx ⟨h, q⟩)
theorem powN_not_z {x a : O} (hx : x ≠ .z) (az : a ≠ .z) (na : NF a) : ∀ n, powN x a n ≠ .z
  | 0 => hx
  | n + 1 => prod_not_z (powN_not_z hx az na n) az na
theorem powG_not_z {a b : O} (na : NF a) (az : a ≠ .z) : powG a b ≠ .z := powN_not_z (fun z => O.noConfusion z) az na _
theorem mono_nz {p b d : O} (np : NF p) (pz : p ≠ .z) (nb : NF b) (nd : NF d) (h : cmp b d = -1) : cmp (prodO p b) (prodO p d) = -1 := by
  cases p with
  | z => exact absurd rfl pz
  | c e n r => exact prod_mono np b d nb nd h
theorem cmp_nz {p b d : O} (np : NF p) (pz : p ≠ .z) (nb : NF b) (nd : NF d) : cmp (prodO p b) (prodO p d) = cmp b d := by
  cases p with
  | z => exact absurd rfl pz
  | c e n r => exact prod_cmp np nb nd
theorem pow_gt {a d : O} (na : NF a) (g : Gt1 a) (nd : NF d) (dz : d ≠ .z) : cmp oneO (powG a d) = -1 := by
  have wd := wp_nonneg nd
  have nW := Wo_nf na (noW_nf nd) (lim_noW d)
  by_cases w : wpO d = 0
  · have hL := noW_wp0 nd w
    unfold powG
    rw [w, hL]
    show cmp oneO (Wo a d) = -1
    exact cmp_lt_head (z_lt (Eo_not_z dz nd))
  · obtain ⟨k, hk⟩ : ∃ k, (wpO d).toNat = k + 1 := ⟨(wpO d).toNat - 1, by omega⟩
    unfold powG
    rw [hk]
    show cmp oneO (prodO (powN (Wo a (noW d)) a k) a) = -1
    have np := powN_nf nW na k
    have pz := powN_not_z (x := Wo a (noW d)) (fun z => O.noConfusion z) g.nz na k
    have m := mono_nz np pz nf_one na (gt1_lt na g)
    rw [prod_one] at m
    rcases not_z_le np pz with h | h
    · rw [h] at m ⊢; exact m
    · exact lt_trans h m
theorem pow_mono {a b c : O} (na : NF a) (g : Gt1 a) (nb : NF b) (nc : NF c) (h : cmp b c = -1) : cmp (powG a b) (powG a c) = -1 := by
  obtain ⟨h1, h2⟩ := minus_ok c b nc nb (by rw [h]; decide)
  have dz : minusO c b ≠ .z := fun z => by
    rw [z] at h2
    have : b = c := h2
    rw [this, cmp_self] at h; cases h
  have e := pow_add na g.nz nb h1
  rw [h2] at e
  rw [e]
  have m := mono_nz (powG_nf na nb) (powG_not_z na g.nz) nf_one (powG_nf na h1) (pow_gt na g h1 dz)
  rw [prod_one] at m
  exact m
theorem pow_cmp {a b c : O} (na : NF a) (g : Gt1 a) (nb : NF b) (nc : NF c) : cmp (powG a b) (powG a c) = cmp b c := by
  rcases cmp_tri b c with h | h | h
  · rw [h, pow_mono na g nb nc h]
  · subst h; rw [cmp_self, cmp_self]
  · rw [h]; exact cmp_gt.mpr (pow_mono na g nc nb (cmp_gt.mp h))
/-! the head of a power -/
theorem powN_hd {x a : O} (xz : x ≠ .z) (az : a ≠ .z) (nx : NF x) (na : NF a) : ∀ m : Nat, hdE (powN x a m) = plusO (hdE x) (prodO (hdE a) (rzO .z (m : Int)))
  | 0 => by
    have : rzO .z ((0 : Nat) : Int) = .z := if_pos rfl
    rw [this, prod_bz]; rfl
  | m + 1 => by
    have ne := hd_nf na
    have nr : NF (rzO .z (m : Int)) := rz_nf (e := .z) trivial (by omega)
    show hdE (prodO (powN x a m) a) = _
    rw [prodO_hd (powN_not_z xz az na m) az na, powN_hd xz az nx na m, prod_rz ne, plus_assoc _ _ _ (hd_nf nx) (prodO_nf ne nr) ne]
theorem powG_hd {a b : O} (na : NF a) (az : a ≠ .z) (nb : NF b) : hdE (powG a b) = plusO (Eo a (noW b)) (prodO (hdE a) (rzO .z (wpO b))) := by
  have wb := wp_nonneg nb
  unfold powG
  rw [powN_hd (fun z => O.noConfusion z) az (Wo_nf na (noW_nf nb) (lim_noW b)) na]
  rw [show (((wpO b).toNat : Nat) : Int) = wpO b by omega]
  rfl
theorem lim_prod2 {b M : O} (lM : Lim M) (nM : NF M) : Lim (prodO b M) := by
  cases b with
  | z => intro p hp; cases hp
  | c e n r =>
    have key : ∀ M : O, Lim M → Lim (prodO (.c e n r) M) := by
      intro M
      induction M with
      | z => intro _ p hp; rw [prod_bz] at hp; cases hp
      | c f d s _ ih =>
        intro h p hp
        obtain ⟨fz, ls⟩ := lim_sub (L := .z) h
        rw [prod_nz fz] at hp
        rcases List.mem_cons.mp (show p ∈ (plusO e f, d) :: _ from hp) with q | q
        · rw [q]; exact plus_not_z fz
        · exact ih ls p q
    exact key M lM
theorem dec_add {f g : O} (nf : NF f) (fz : f ≠ .z) (ng : NF g) : minusO (plusO f g) oneO = plusO (minusO f oneO) g := by
  obtain ⟨h1, h2⟩ := dec_ok nf fz
  conv => lhs; rw [← h2]
  rw [plus_assoc _ _ _ nf_one h1 ng]
  exact minus_plus nf_one (plusO_nf h1 ng)
theorem mapDec_prod {f s r' : O} {d d' : Int} (nf : NF f) (fz : f ≠ .z) : ∀ {M : O}, NF M → Lim M → mapDec (prodO (.c f d s) M) = prodO (.c (minusO f oneO) d' r') M
  | .z, _, _ => by rw [prod_bz, prod_bz]; rfl
  | .c g k u, nM, lM => by
    obtain ⟨gz, lu⟩ := lim_sub (L := .z) lM
    have t := nf_tail nM
    rw [prod_nz gz, prod_nz gz]
    show O.c (minusO (plusO f g) oneO) k (mapDec (prodO (.c f d s) u)) = _
    rw [dec_add nf fz t.2.1, mapDec_prod nf fz t.1 lu]
theorem Eo_pow {a b M : O} (na : NF a) (g : Gt1 a) (nb : NF b) (bz : b ≠ .z) (nM : NF M) (lM : Lim M) : Eo (powG a b) M = Eo a (prodO b M) := by
  have hh := powG_hd na g.nz nb
  have nL := noW_nf nb
  have wb := wp_nonneg nb
  by_cases q : hdE a = .z
  · -- a whole
    have e0 : ∀ L, Eo a L = mapDec L := fun L => by unfold Eo; rw [if_neg (by simp [q])]
    rw [e0, q] at hh
    have : prodO .z (rzO .z (wpO b)) = .z := rfl
    rw [this] at hh
    replace hh : hdE (powG a b) = mapDec (noW b) := hh
    rw [e0]
    by_cases Lz : noW b = .z
    · rw [Lz] at hh
      have : Eo (powG a b) M = mapDec M := by unfold Eo; rw [if_neg (by rw [hh]; simp [mapDec])]
      rw [this]
      have hb := noW_split nb
      rw [Lz, plus_z] at hb
      have w0 : wpO b ≠ 0 := fun h => by rw [h] at hb; exact bz hb.symm
      have h0 : rzO .z (wpO b) = .c .z (wpO b) .z := if_neg w0
      rw [h0] at hb
      rw [← hb, whole_lim lM]
    · have mz := mapDec_z Lz
      have : Eo (powG a b) M = prodO (mapDec (noW b)) M := by unfold Eo; rw [if_pos (by rw [hh]; exact mz), hh]
      rw [this]
      cases b with
      | z => exact absurd rfl bz
      | c f d s =>
        by_cases fz : f = .z
        · exact absurd (by rw [fz]; exact noW_z) Lz
        · rw [noW_c fz]
          exact (mapDec_prod (nf_tail nb).2.1 fz nM lM).symm
  · have e0 : ∀ L, Eo a L = prodO (hdE a) L := fun L => if_pos q
    rw [e0] at hh
    have ne := hd_nf na
    have hb : hdE (powG a b) = prodO (hdE a) b := by
      rw [hh]
      conv => rhs; rw [← noW_split nb]
      cases he : hdE a with
      | z => exact absurd he q
      | c e n r => rw [he] at ne; exact (prod_dist ne _ _ nL (rz_nf (e := .z) trivial wb)).symm
    have nz := prod_not_z q bz nb
    have : Eo (powG a b) M = prodO (prodO (hdE a) b) M := by unfold Eo; rw [if_pos (by rw [hb]; exact nz), hb]
    rw [this, e0, prod_assoc ne nb M nM]
theorem pow_whole_N {a b : O} (na : NF a) (az : a ≠ .z) (nb : NF b) : ∀ k : Nat, powN oneO (powG a b) k = powG a (prodO b (rzO .z (k : Int)))
  | 0 => by
    have h0 : rzO .z ((0 : Nat) : Int) = .z := if_pos rfl
    rw [h0, prod_bz]
    show oneO = Wo a .z
    exact Wo_z.symm
  | k + 1 => by
    show prodO (powN oneO (powG a b) k) (powG a b) = _
    rw [pow_whole_N na az nb k, prod_rz nb, pow_add na az (prodO_nf nb (rz_nf (e := .z) trivial (by omega))) nb]
theorem pow_pow {a b c : O} (na : NF a) (g : Gt1 a) (nb : NF b) (bz : b ≠ .z) (nc : NF c) : powG (powG a b) c = powG a (prodO b c) := by
  have nA := powG_nf na nb
  have nM := noW_nf nc
  have lM := lim_noW c
  have wc := wp_nonneg nc
  have nr : NF (rzO .z (wpO c)) := rz_nf (e := .z) trivial wc
  have hc := noW_split nc
  have d : prodO b c = plusO (prodO b (noW c)) (prodO b (rzO .z (wpO c))) := by
    conv => lhs; rw [← hc]
    cases b with
    | z => exact absurd rfl bz
    | c e n r => exact prod_dist nb _ _ nM nr
  rw [d, pow_add na g.nz (prodO_nf nb nM) (prodO_nf nb nr)]
  have e1 : powG a (prodO b (noW c)) = Wo (powG a b) (noW c) := by
    have l := lim_wp (lim_prod2 (b := b) lM nM)
    unfold powG
    rw [l.1, l.2]
    show Wo a (prodO b (noW c)) = Wo (powG a b) (noW c)
    show O.c (Eo a (prodO b (noW c))) 1 .z = O.c (Eo (powG a b) (noW c)) 1 .z
    rw [Eo_pow na g nb bz nM lM]
  have e2 := pow_whole_N na g.nz nb (wpO c).toNat
  rw [show (((wpO c).toNat : Nat) : Int) = wpO c by omega] at e2
  rw [e1, ← e2]
  show powN (Wo (powG a b) (noW c)) (powG a b) (wpO c).toNat = _
  exact powN_from (Wo_nf nA nM lM) nA _
/-! weakly at the left hand -/
def Le (x y : O) : Prop := x = y ∨ cmp x y = -1
theorem Le.trans {x y w : O} (h : Le x y) (k : Le y w) : Le x w := by
  rcases h with h | h
  · rw [h]; exact k
  · rcases k with k | k
    · rw [← k]; exact Or.inr h
    · exact Or.inr (lt_trans h k)
theorem prod_le {p q a b : O} (np : NF p) (nq : NF q) (na : NF a) (nb : NF b) (h : Le p q) (k : Le a b) : Le (prodO p a) (prodO q b) := by
  have h1 : Le (prodO p a) (prodO q a) := by
    rcases h with h | h
    · rw [h]; exact Or.inl rfl
    · rcases prod_weak np nq h a na with w | w
      · exact Or.inr w
      · exact Or.inl ((cmp_eq _ _).mp w)
  refine h1.trans ?_
  rcases k with k | k
  · rw [k]; exact Or.inl rfl
  · by_cases qz : q = .z
    · rw [qz]; exact Or.inl rfl
    · exact Or.inr (mono_nz nq qz na nb k)
theorem powN_le {x y a b : O} (nx : NF x) (ny : NF y) (na : NF a) (nb : NF b) (h : Le x y) (k : Le a b) : ∀ n, Le (powN x a n) (powN y b n)
  | 0 => h
  | n + 1 => prod_le (powN_nf nx na n) (powN_nf ny nb n) na nb (powN_le nx ny na nb h k n) k
theorem dec_le {f : O} (nf : NF f) (fz : f ≠ .z) : Le (minusO f oneO) f := by
  obtain ⟨h1, h2⟩ := dec_ok nf fz
  generalize minusO f oneO = g at *
  -- g <= one + g
  cases g with
  | z => right; rw [← h2]; show cmp .z oneO = -1; exact cmp_zc
  | c e n r =>
    by_cases ez : e = .z
    · subst ez
      have rz := z_min h1
      subst rz
      rw [plus_eq nf_one] at h2
      right
      rw [← h2]
      exact cmp_c.mpr (Or.inr ⟨rfl, Or.inl (by omega)⟩)
    · left
      rw [plus_lt nf_one (z_lt ez)] at h2
      exact h2
theorem mapDec_le : ∀ {L : O}, NF L → Lim L → Le (mapDec L) L
  | .z, _, _ => Or.inl rfl
  | .c f d s, nL, lL => by
    obtain ⟨fz, ls⟩ := lim_sub (L := .z) lL
    have t := nf_tail nL
    show Le (.c (minusO f oneO) d (mapDec s)) (.c f d s)
    rcases dec_le t.2.1 fz with h | h
    · rw [h]
      rcases mapDec_le t.1 ls with k | k
      · rw [k]; exact Or.inl rfl
      · exact Or.inr (cmp_c.mpr (Or.inr ⟨rfl, Or.inr ⟨rfl, k⟩⟩))
    · exact Or.inr (cmp_lt_head h)
theorem Eo_le {a b L : O} (na : NF a) (nb : NF b) (h : cmp a b = -1) (nL : NF L) (lL : Lim L) : Le (Eo a L) (Eo b L) := by
  have hd : Le (hdE a) (hdE b) := by
    cases a with
    | z =>
      cases b with
      | z => exact Or.inl rfl
      | c f m s =>
        show Le .z f
        by_cases q : f = .z
        · exact Or.inl q.symm
        · exact Or.inr (z_lt q)
    | c e n r =>
      cases b with
      | z => simp [cmp] at h
      | c f m s =>
        rcases cmp_c.mp h with h | ⟨h, _⟩
        · exact Or.inr h
        · exact Or.inl h
  have ne := hd_nf na
  have nf := hd_nf nb
  by_cases q : hdE a = .z
  · have e1 : Eo a L = mapDec L := by unfold Eo; rw [if_neg (by simp [q])]
    rw [e1]
    by_cases q2 : hdE b = .z
    · have e2 : Eo b L = mapDec L := by unfold Eo; rw [if_neg (by simp [q2])]
      rw [e2]; exact Or.inl rfl
    · have e2 : Eo b L = prodO (hdE b) L := if_pos q2
      rw [e2]
      refine (mapDec_le nL lL).trans ?_
      have := prod_le nf_one nf nL nL ((not_z_le nf q2).imp (fun h => h.symm) id) (Or.inl rfl)
      rw [one_prod L nL] at this
      exact this
  · have q2 : hdE b ≠ .z := fun z => by
      rw [z] at hd
      rcases hd with h | h
      · exact q h
      · cases ha : hdE a with
        | z => exact q ha
        | c e n r => rw [ha] at h; simp [cmp] at h
    have e1 : Eo a L = prodO (hdE a) L := if_pos q
    have e2 : Eo b L = prodO (hdE b) L := if_pos q2
    rw [e1, e2]
    exact prod_le ne nf nL nL hd (Or.inl rfl)
theorem Wo_le {x y : O} (h : Le x y) : Le (.c x 1 .z) (.c y 1 .z) := by
  rcases h with h | h
  · rw [h]; exact Or.inl rfl
  · exact Or.inr (cmp_lt_head h)
theorem powG_le {a b c : O} (na : NF a) (nb : NF b) (h : cmp a b = -1) (nc : NF c) : Le (powG a c) (powG b c) :=
  powN_le (Wo_nf na (noW_nf nc) (lim_noW c)) (Wo_nf nb (noW_nf nc) (lim_noW c)) na nb (Wo_le (Eo_le na nb h (noW_nf nc) (lim_noW c))) (Or.inr h) _
/-! for all numbers -/
theorem powO_z {a : O} : powO a .z = oneO := if_pos rfl
theorem powO_one {b : O} : powO oneO b = oneO := by
  unfold powO
  by_cases h : b = .z
  · rw [if_pos h]
  · rw [if_neg h, if_pos (Or.inr rfl)]
theorem powO_0 {b : O} (h : b ≠ .z) : powO .z b = .z := by
  unfold powO
  rw [if_neg h, if_pos (Or.inl rfl)]
theorem powO_nf {a b : O} (na : NF a) (nb : NF b) : NF (powO a b) := by
  by_cases g : a = .z ∨ a = oneO
  · unfold powO
    by_cases h : b = .z
    · rw [if_pos h]; exact nf_one
    · rw [if_neg h, if_pos g]; exact na
  · rw [pow_G na nb ⟨fun h => g (Or.inl h), fun h => g (Or.inr h)⟩]
    exact powG_nf na nb
theorem powO_self {a : O} (na : NF a) : powO a oneO = a := by
  by_cases g : a = .z ∨ a = oneO
  · rcases g with g | g
    · rw [g]; exact powO_0 (fun z => O.noConfusion z)
    · rw [g]; exact powO_one
  · rw [pow_G na nf_one ⟨fun h => g (Or.inl h), fun h => g (Or.inr h)⟩]
    show powN (Wo a .z) a 1 = a
    rw [Wo_z]
    exact one_prod a na
theorem powO_add {a b c : O} (na : NF a) (nb : NF b) (nc : NF c) : powO a (plusO b c) = prodO (powO a b) (powO a c) := by
  by_cases a0 : a = .z
  · subst a0
    by_cases cz : c = .z
    · subst cz; rw [powO_z, prod_one]; rfl
    · have : plusO b c ≠ .z := plus_not_z cz
      rw [powO_0 this, powO_0 cz, prod_bz]
  by_cases a1 : a = oneO
  · subst a1; rw [powO_one, powO_one, powO_one, prod_one]
  have g : Gt1 a := ⟨a0, a1⟩
  rw [pow_G na (plusO_nf nb nc) g, pow_G na nb g, pow_G na nc g, pow_add na a0 nb nc]
theorem powO_pow {a b c : O} (na : NF a) (nb : NF b) (nc : NF c) : powO (powO a b) c = powO a (prodO b c) := by
  by_cases bz : b = .z
  · subst bz; rw [powO_z, powO_one]; exact powO_z.symm
  by_cases cz : c = .z
  · subst cz; rw [powO_z, prod_bz, powO_z]
  have bc := prod_not_z bz cz nc
  by_cases a0 : a = .z
  · subst a0; rw [powO_0 bz, powO_0 cz, powO_0 bc]
  by_cases a1 : a = oneO
  · subst a1; rw [powO_one, powO_one, powO_one]
  have g : Gt1 a := ⟨a0, a1⟩
  have g2 := gt1_of (pow_gt na g nb bz)
  rw [pow_G na nb g, pow_G (powG_nf na nb) nc g2, pow_G na (prodO_nf nb nc) g, pow_pow na g nb bz nc]
theorem powO_cmp {a b c : O} (na : NF a) (g : Gt1 a) (nb : NF b) (nc : NF c) : cmp (powO a b) (powO a c) = cmp b c := by
  rw [pow_G na nb g, pow_G na nc g, pow_cmp na g nb nc]
theorem powO_le {a b c : O} (na : NF a) (nb : NF b) (az : a ≠ .z) (h : cmp a b = -1) (nc : NF c) : Le (powO a c) (powO b c) := by
  have gb : Gt1 b := by
    rcases not_z_le na az with q | q
    · rw [q] at h; exact gt1_of h
    · exact gt1_of (lt_trans q h)
  by_cases a1 : a = oneO
  · subst a1
    rw [powO_one, pow_G nb nc gb]
    rcases not_z_le (powG_nf nb nc) (powG_not_z nb gb.nz) with q | q
    · exact Or.inl q.symm
    · exact Or.inr q
  · rw [pow_G na nc ⟨az, a1⟩, pow_G nb nc gb]
    exact powG_le na nb h nc
/-! the whole parts of sums and products -/
theorem wp_plus {b c : O} (nb : NF b) (nc : NF c) : wpO (plusO b c) ≤ wpO b + wpO c := by
  have := wp_nonneg nb
  by_cases h : noW c = .z
  · rw [(plus_whole nb nc h).2]; exact Int.le_refl _
  · rw [(plus_over nb nc h).2]; omega
theorem wp_prod {b c : O} {B C : Int} (nb : NF b) (nc : NF c) (hb : wpO b ≤ B) (hc : wpO c ≤ C) (hB : 1 ≤ B) (hC : 1 ≤ C) : wpO (prodO b c) ≤ B * C := by
  have BC : B * 1 ≤ B * C := Int.mul_le_mul_of_nonneg_left hC (by omega)
  cases b with
  | z => show (0 : Int) ≤ B * C; omega
  | c e n r =>
    have t := nf_tail nb
    have wb := wp_nonneg nb
    have key : ∀ c : O, NF c → wpO c ≤ C → wpO (prodO (.c e n r) c) ≤ B * C := by
      intro c
      induction c with
      | z => intro _ _; rw [prod_bz]; show (0 : Int) ≤ B * C; omega
      | c f d s _ ih =>
        intro nc hc
        have tc := nf_tail nc
        by_cases fz : f = .z
        · subst fz
          rw [wp_z] at hc
          rw [z_min nc, prod_zero]
          by_cases ez : e = .z
          · subst ez
            rw [wp_z] at hb ⊢
            exact mul_mx (by omega) (by omega) hb hc
          · rw [wp_c ez] at hb ⊢
            omega
        · rw [wp_c fz] at hc
          rw [prod_nz fz, wp_c (plus_not_z fz)]
          exact ih tc.1 hc
    exact key c nc hc
end Nm
set_option Elab.async false
set_option linter.all false
set_option maxRecDepth 100000
set_option maxHeartbeats 4000000
namespace Nm
open PySem Pu O L2
/-! ### near a number -/
theorem last_split {a : O} {p : O × Int} (h : a.parts.getLast? = some p) : a.parts = a.parts.take (a.len - 1) ++ [p] := by
  have hne : a.parts ≠ [] := fun z => by rw [z] at h; cases h
  have h1 := List.dropLast_concat_getLast hne
  rw [List.getLast?_eq_some_getLast hne] at h
  cases h
  rw [← len_parts, ← List.dropLast_eq_take]
  exact h1.symm
theorem Sz.sub {H L K Z C M : Nat} {a : O} (x : Sz H L K Z C M a) {qs : List (O × Int)} (s : qs.Sublist a.parts) : Sz H L Z Z C M (of qs) where
  nf := nf_sub (ps := a.parts) (by rw [of_parts]; exact x.nf) s
  h := h_of.mpr fun p hp => (h_parts a).mp x.h p (s.subset hp)
  ll := by rw [len_of]; have := s.length_le; rw [len_parts] at this; have := x.ll; omega
  k := by have := size_sub s; rw [of_parts] at this; have := hd_size (of qs); have := x.s; omega
  s := by have := size_sub s; rw [of_parts] at this; have := x.s; omega
  cs := fun p hp => by rw [parts_of] at hp; exact x.cs p (s.subset hp)
  m := by have := mx_sub (ps := a.parts) (mx_nonneg a) (by rw [of_parts]; exact Int.le_refl _) s; have := x.m; omega
def NearOk (F : Fn) : Prop := ∀ {H L K Z C M : Nat} {a : O} (v : Int), Sz H L K Z C M a → 1 ≤ H → H ≤ 30 → K ≤ Z → L ≤ 1000 → 67 ≤ C → C ≤ M → ∃ d, F [enc a, .int v] = .ok (enc d) ∧ Sz H (L + 1) (Z + 1) (Z + 1) (C + 1) (M + 1) d
theorem two_pow_le {C : Nat} (h : 67 ≤ C) : (2 : Nat) ^ 67 ≤ 2 ^ C := Nat.pow_le_pow_right (by decide) h
theorem l_near_step {S : Nat → Fn} {c0 k : Nat} (hk : 31 ≤ k) (h0 : LPlusOk k (S c0)) : NearOk (fun ds => fnD 3 (G_l_near c0 S) ds) := by
  intro H L K Z C M a v x H1 HH KZ LL C67 CM
  have e20 : gPow (.int 10) (.int 20) = some (.int 100000000000000000000) := by
    show (if cPow 10 20 = true then some (PyData.int (10 ^ (20 : Int).toNat)) else none) = _
    rw [if_pos (by decide +kernel)]; rfl
  have m1 : ∀ i : Int, cMod i 5 = true ∧ cMod i 100000000000000000000 = true := fun i => ⟨cMod_of (by decide), cMod_of (by decide)⟩
  have m2 : ∀ i : Int, cDiv i 5 = true := fun i => cDiv_of 10 (by decide) (by decide) (by decide) (by decide)
  have ah := x.h
  have al := x.ll
  have g1 := gEq_nil (a := a) (by omega)
  obtain ⟨w, hw⟩ : ∃ w : Int, v / 5 % 100000000000000000000 = w := ⟨_, rfl⟩
  have w0 : 0 ≤ w ∧ w < 100000000000000000000 := by omega
  have pC := two_pow_le C67
  have up : (2 : Nat) ^ (C + 1) = 2 ^ C * 2 := Nat.pow_succ 2 C
  have upM : (2 : Int) ^ (M + 1) = 2 ^ M * 2 := by rw [Int.pow_succ]
  have pM : (2 : Int) ^ 67 ≤ 2 ^ M := by exact_mod_cast two_pow_le (show 67 ≤ M by omega)
  have am := x.m
  have mn := mx_nonneg a
  have wide : ∀ {d : O}, Sz H (L + 1) (Z + 1) (Z + 1) C M d → Sz H (L + 1) (Z + 1) (Z + 1) (C + 1) (M + 1) d := fun s => s.up (Nat.le_refl _) (Nat.le_refl _) (Nat.le_refl _) (Nat.le_refl _) (by omega) (by omega)
  by_cases c0 : v % 5 = 0 ∨ a = .z
  · have one : Sz H 1 0 1 67 67 (.c .z (1 + w) .z) := (Sz.whole (C := 67) (by omega) (by omega) (Nat.le_refl _)).up H1 (by decide) (by decide) (by decide) (Nat.le_refl _) (Nat.le_refl _)
    have hp := x.plus one
    have hl := h0 a (.c .z (1 + w) .z) (by omega) (by omega) (by have := one.h; omega) (by omega) (by show 0 + 1 ≤ 1000000; decide)
    rw [show enc (.c .z (1 + w) .z) = .tuple [.tuple [.tuple [], .int (1 + w)]] from rfl] at hl
    refine ⟨plusO a (.c .z (1 + w) .z), fnD_of ?_, ⟨hp.nf, hp.h, hp.ll, by have := hp.k; omega, hp.s, ?_, ?_⟩⟩
    · unfold G_l_near
      by_cases q : v % 5 = 0
      · simp [m1, m2, q, e20, hw, hl]
      · have bz : a = .z := c0.resolve_left q
        rw [decide_eq_true bz] at g1
        simp [m1, m2, q, e20, hw, hl, g1]
    · intro p hp
      rw [show plusO a (.c .z (1 + w) .z) = of (above a .z ++ (.z, sameN a .z + (1 + w)) :: O.z.parts) from rfl, parts_of] at hp
      rcases List.mem_append.mp hp with h | h
      · have := x.cs p (List.mem_filter.mp h).1; omega
      · rcases List.mem_cons.mp h with h | h
        · have h1 := same_wp x.nf
          have h2 : (wpO a).natAbs < 2 ^ C := by
            have key : ∀ a : O, NF a → wpO a = 0 ∨ ∃ p ∈ a.parts, wpO a = p.2 := by
              intro a
              induction a with
              | z => intro _; exact Or.inl rfl
              | c e n r _ ih =>
                intro na
                by_cases ez : e = .z
                · subst ez; exact Or.inr ⟨(.z, n), by show _ ∈ (O.z, n) :: r.parts; simp, wp_z⟩
                · rw [wp_c ez]
                  rcases ih (nf_tail na).1 with h | ⟨p, hp, h⟩
                  · exact Or.inl h
                  · exact Or.inr ⟨p, by show p ∈ (e, n) :: r.parts; simp [hp], h⟩
            rcases key a x.nf with h | ⟨p, hp, h⟩
            · rw [h]; exact Nat.two_pow_pos C
            · rw [h]; exact x.cs p hp
          rw [h]
          show (sameN a .z + (1 + w)).natAbs < _
          rw [h1]; omega
        · cases h
    · have := plus_mx x.nf one.nf
      have : mx (.c .z (1 + w) .z) = max (1 + w) (max 0 0) := rfl
      omega
  · have q0 : ¬ v % 5 = 0 := fun z => c0 (Or.inl z)
    have bz : a ≠ .z := fun z => c0 (Or.inr z)
    rw [decide_eq_false bz] at g1
    have pin := lastP_mem bz
    have pa := last_at bz
    have pl := last_get bz
    generalize lastP a = p at pin pa pl
    obtain ⟨e, n, r, hz⟩ : ∃ e n r, a = .c e n r := by
      cases a with
      | z => exact absurd rfl bz
      | c e n r => exact ⟨e, n, r, rfl⟩
    have b0 : atI (encL a) 0 = some (encP (e, n)) := by rw [hz]; exact atI_zero _ _
    have b1 : Pu.cutD (encL a) (some 1) none = encL r := by rw [hz]; exact cut_tl _ _
    have ci : Pu.cutD (encL a) none (some (-1)) = encL (of (a.parts.take (a.len - 1))) := by rw [cut_init, encL_take, encL_len]
    by_cases q1 : v % 5 = 1
    · refine ⟨of (a.parts.take (a.len - 1)), fnD_of ?_, wide ((x.sub (List.take_sublist (a.len - 1) a.parts)).up (Nat.le_refl _) (by omega) (by omega) (by omega) (Nat.le_refl _) (Nat.le_refl _))⟩
      unfold G_l_near
      simp [m1, q1, g1, ci]
    by_cases q2 : v % 5 = 2
    · have sp := last_split pl
      have hpp := (nf_parts a).mp x.nf
      have tl := List.length_take_le (a.len - 1) a.parts
      have s1 : (of (a.parts.take (a.len - 1))).len + 1 ≤ sizeLine := by
        rw [len_of]
        exact sz1000 (by omega)
      have inm : ∀ q ∈ a.parts.take (a.len - 1), q ∈ a.parts := fun q hq => List.mem_of_mem_take hq
      have pm := (mx_parts mn a).mp (Int.le_refl _)
      have sz : (of (a.parts.take (a.len - 1) ++ [(p.1, p.2 + 1)])).size = a.size := by
        have h1 := size_app (a.parts.take (a.len - 1)) [p]
        rw [← sp, of_parts] at h1
        rw [size_app, h1]; rfl
      refine ⟨of (a.parts.take (a.len - 1) ++ [(p.1, p.2 + 1)]), fnD_of ?_, ⟨?_, ?_, ?_, ?_, ?_, ?_, ?_⟩⟩
      · have ep : enc (of (a.parts.take (a.len - 1) ++ [(p.1, p.2 + 1)])) = .tuple (encL (of (a.parts.take (a.len - 1))) ++ [.tuple [enc p.1, .int (p.2 + 1)]]) := by
          show PyData.tuple (encL _) = _
          rw [encL_of, encL_of, List.map_append]; rfl
        rw [ep]
        unfold G_l_near
        simp [m1, q2, g1, ci, pa, s1]
      · rw [nf_of]
        have h1 := hpp.1
        rw [sp, List.pairwise_append] at h1
        refine ⟨List.pairwise_append.mpr ⟨h1.1, by simp, fun x hx y hy => ?_⟩, fun x hx => ?_⟩
        · simp only [List.mem_singleton] at hy; subst hy
          exact h1.2.2 x hx p (by simp)
        · rcases List.mem_append.mp hx with h | h
          · exact hpp.2 x (inm x h)
          · simp only [List.mem_singleton] at h; subst h
            have := hpp.2 p pin
            exact ⟨this.1, by show 1 ≤ p.2 + 1; omega⟩
      · refine h_of.mpr fun y hy => ?_
        rcases List.mem_append.mp hy with h | h
        · exact (h_parts a).mp x.h y (inm y h)
        · simp only [List.mem_singleton] at h; subst h
          exact (h_parts a).mp x.h p pin
      · rw [len_of, List.length_append, List.length_singleton]
        omega
      · have := hd_size (of (a.parts.take (a.len - 1) ++ [(p.1, p.2 + 1)])); have := x.s; omega
      · rw [sz]; have := x.s; omega
      · intro y hy
        rw [parts_of] at hy
        rcases List.mem_append.mp hy with h | h
        · have := x.cs y (inm y h); omega
        · simp only [List.mem_singleton] at h; subst h
          have := x.cs p pin; show (p.2 + 1).natAbs < _; omega
      · have : mx (of (a.parts.take (a.len - 1) ++ [(p.1, p.2 + 1)])) ≤ mx a + 1 := by
          rw [mx_of (by omega)]
          intro y hy
          rcases List.mem_append.mp hy with h | h
          · have := pm y (inm y h); omega
          · simp only [List.mem_singleton] at h; subst h
            have := pm p pin; show p.2 + 1 ≤ _ ∧ mx p.1 ≤ _; omega
        omega
    by_cases q3 : v % 5 = 3
    · have ta := nf_tail (hz ▸ x.nf)
      have h7 : (O.c e n r).len = r.len + 1 := rfl
      have h8 : (O.c e n r).size = 1 + e.size + r.size := rfl
      have h9 : (O.c e n r).h = max (e.h + 1) r.h := rfl
      have hm : mx (.c e n r) = max n (max (mx e) (mx r)) := rfl
      have as := x.s
      rw [hz] at ah al as am
      have s3 : 1 + r.len ≤ sizeLine := sz1000 (by omega)
      have inb : ∀ y ∈ (e, n) :: r.parts, y ∈ a.parts := fun y hy => by rw [hz]; exact hy
      refine ⟨.c e (n + 1) r, fnD_of ?_, ⟨nf_mk ta.2.1 (by omega) ta.1 ta.2.2.2, by show max (e.h + 1) r.h ≤ H; omega, by show r.len + 1 ≤ L + 1; omega, by show e.size ≤ Z + 1; omega, by show 1 + e.size + r.size ≤ Z + 1; omega, ?_, by show max (n + 1) (max (mx e) (mx r)) < _; omega⟩⟩
      · have ep : enc (.c e (n + 1) r) = .tuple (.tuple [enc e, .int (n + 1)] :: encL r) := rfl
        rw [ep]
        unfold G_l_near
        simp [m1, q3, g1, b0, b1, s3]
      · intro y hy
        rcases List.mem_cons.mp (show y ∈ (e, n + 1) :: r.parts from hy) with h | h
        · have := x.cs _ (inb (e, n) (by simp)); rw [h]; show (n + 1).natAbs < _; replace this : n.natAbs < 2 ^ C := this; omega
        · have := x.cs y (inb y (List.mem_cons_of_mem _ h)); omega
    · refine ⟨r, fnD_of ?_, ?_⟩
      · unfold G_l_near
        simp [m1, q0, q1, q2, q3, g1, b1]
      · have : r = of (a.parts.drop 1) := by rw [hz]; exact (of_parts r).symm
        rw [this]
        exact wide ((x.sub (List.drop_sublist 1 a.parts)).up (Nat.le_refl _) (by omega) (by omega) (by omega) (Nat.le_refl _) (Nat.le_refl _))
end Nm
set_option Elab.async false
set_option linter.all false
set_option maxRecDepth 100000
set_option maxHeartbeats 4000000
namespace Nm
open PySem Pu O L2
/-! ### a power refused -/
def Triv (a b : O) : Prop := b = .z ∨ a = .z ∨ a = oneO ∨ (a.len = 1 ∧ hdE a ≠ .z)
def Due (a b : O) : Prop := 24 < wpO b ∨ 24 < a.len ∨ ∃ p ∈ a.parts, E60 ≤ p.2
theorem power_no_step {S : Nat → Fn} {c0 c1 c2 c3 c4 c5 c6 : Nat} (h0 : S c0 [.int 1] = .ok (enc oneO)) (h2 : LookOk (S c2)) {a b : O} (na : NF a) (nb : NF b) (ah : a.h ≤ 30) (bh : b.h ≤ 30) (ht : ¬ Triv a b) (hd : Due a b) :
    fnD 4 (G_power c0 c1 c2 c3 c4 c5 c6 S) [enc a, enc b] = .err "TooGreat" := by
  have bz : b ≠ .z := fun h => ht (Or.inl h)
  have az : a ≠ .z := fun h => ht (Or.inr (Or.inl h))
  have a1 : a ≠ oneO := fun h => ht (Or.inr (Or.inr (Or.inl h)))
  have s : ¬ (a.len = 1 ∧ hdE a ≠ .z) := fun h => ht (Or.inr (Or.inr (Or.inr h)))
  refine fnD_err (ρ := [some (enc a), some (enc b), none, none]) ?_
  have g1 := gEq_nil (a := b) (by omega)
  have g2 := gEq_nil (a := a) (by omega)
  have g3 := gEq_enc (a := a) (b := oneO) (by omega) (by decide)
  rw [decide_eq_false bz] at g1
  rw [decide_eq_false az] at g2
  rw [decide_eq_false a1] at g3
  have l1 := h2.no a b nb ah bh hd
  obtain ⟨e, n, r, hz⟩ : ∃ e n r, a = .c e n r := by
    cases a with
    | z => exact absurd rfl az
    | c e n r => exact ⟨e, n, r, rfl⟩
  have he : hdE a = e := by rw [hz]; rfl
  have b0 : atI (encL a) 0 = some (encP (e, n)) := by rw [hz]; exact atI_zero _ _
  have g4 : gNe (enc e) (.tuple []) = some (.bool (!decide (e = .z))) := gNe_nil (by have := hd_h a ah; rw [he] at this; omega)
  unfold G_power
  by_cases sl : a.len = 1
  · have ez : e = .z := by
      by_cases q : e = .z
      · exact q
      · exact absurd ⟨sl, by rw [he]; exact q⟩ s
    rw [decide_eq_true ez] at g4
    simp [g1, g2, h0, g3, sl, b0, g4, l1]
  · have sl' : ¬ (a.len : Int) = 1 := by omega
    simp [g1, g2, h0, g3, sl', l1]
theorem sum_le_len {α : Type} {f : α → Nat} {k : Nat} : ∀ {l : List α}, (∀ x ∈ l, f x ≤ k) → (l.map f).sum ≤ l.length * k
  | [], _ => Nat.zero_le _
  | x :: l, h => by
    have h1 := h x (by simp)
    have h2 := sum_le_len (l := l) fun y hy => h y (List.mem_cons_of_mem _ hy)
    rw [List.map_cons, List.sum_cons, List.length_cons, Nat.succ_mul]
    omega
end Nm
set_option Elab.async false
set_option linter.all false
set_option maxRecDepth 100000
namespace Pu
open PySem
-- k23 k24 k75 k76 k81 k84 slots 3 params 2
def G_how_often (c0 c1 c2 : Nat) (S : Nat → List PyData → R PyData) : Vars → Out :=
  (sSeq (sSet [] 2 (eOp gDiv (eOp gIx (eOp gIx (eVar 0) (eC (.int 0))) (eC (.int 1))) (eOp gIx (eOp gIx (eVar 1) (eC (.int 0))) (eC (.int 1)))))
    (sSeq (sIf (tAndR (tOf (eOp gGt (eVar 2) (eC (.int 0)))) (tOf (eOp gLt (eFn (S c0) (aCons (eVar 0) (aCons (eFn (S c1) (aCons (eVar 1) (aCons (eFn (S c2) (aCons (eVar 2) aNil)) aNil))) aNil))) (eC (.int 0))))) (sSet [] 2 (eOp gSub (eVar 2) (eC (.int 1)))) sNil)
    (sRet (eVar 2))))
-- k23 k24 k75 k76 k81 k84 slots 7 params 2
def G_divided (c0 c1 c2 c3 c4 : Nat) (S : Nat → List PyData → R PyData) : Vars → Out :=
  (sSeq (sIf (tOf (eOp gEq (eVar 1) (eTup aNil))) (sRaise "Nought") sNil)
    (sSeq (sSetM [3] 2 (eOp gIx (eOp gIx (eVar 1) (eC (.int 0))) (eC (.int 0))))
    (sSeq (sNew [3] 3 (nLst aNil))
    (sSeq (sSetM [3] 4 (eC (.int 0)))
    (sSeq (whileL (tAndR (tOf (eOp gLt (eVar 4) (eCall gLen (aCons (eVar 0) aNil)))) (tOf (eOp gGt (eFn (S c0) (aCons (eOp gIx (eOp gIx (eVar 0) (eVar 4)) (eC (.int 0))) (aCons (eVar 2) aNil))) (eC (.int 0))))) (sSeq (sAppM [3] 3 (eTup (aCons (eFn (S c1) (aCons (eOp gIx (eOp gIx (eVar 0) (eVar 4)) (eC (.int 0))) (aCons (eVar 2) aNil))) (aCons (eOp gIx (eOp gIx (eVar 0) (eVar 4)) (eC (.int 1))) aNil)))) (sSetM [3] 4 (eOp gAdd (eVar 4) (eC (.int 1))))) wfuel)
    (sSeq (sSetM [3] 5 (eSl (eVar 0) (oSome (eVar 4)) oNone))
    (sSeq (sIf (tAndR (tOf (eOp gNe (eVar 5) (eTup aNil))) (tOf (eOp gEq (eOp gIx (eOp gIx (eVar 5) (eC (.int 0))) (eC (.int 0))) (eVar 2)))) (sSeq (sSetM [3] 6 (eFn (S c2) (aCons (eVar 5) (aCons (eVar 1) aNil)))) (sIf (tOf (eOp gGt (eVar 6) (eC (.int 0)))) (sSeq (sAppM [3] 3 (eTup (aCons (eTup aNil) (aCons (eVar 6) aNil)))) (sSetM [3] 5 (eFn (S c1) (aCons (eVar 5) (aCons (eFn (S c3) (aCons (eVar 1) (aCons (eFn (S c4) (aCons (eVar 6) aNil)) aNil))) aNil))))) sNil)) sNil)
    (sRet (eTup (aCons (eCall gTuple (aCons (eVar 3) aNil)) (aCons (eVar 5) aNil)))))))))))
end Pu
set_option Elab.async false
set_option linter.all false
set_option maxRecDepth 100000
set_option maxHeartbeats 4000000
namespace Nm
open PySem Pu O L2
/-! ### minus: sizes -/
theorem minus_size : ∀ a b : O, (minusO a b).size ≤ a.size
  | .z, .z => Nat.le_refl _
  | .z, .c _ _ _ => Nat.le_refl _
  | .c e n r, .z => Nat.le_refl _
  | .c e n r, .c e' n' r' => by
    rw [minusO]
    have h : (O.c e n r).size = 1 + e.size + r.size := rfl
    by_cases q : e = e'
    · rw [if_pos q]
      by_cases q2 : n = n'
      · rw [if_pos q2]; have := minus_size r r'; omega
      · rw [if_neg q2]; exact Nat.le_refl _
    · rw [if_neg q]; exact Nat.le_refl _
theorem minus_part : ∀ {a b : O}, NF a → NF b → cmp b a ≠ 1 → ∀ p ∈ (minusO a b).parts, ∃ q ∈ a.parts, p.1 = q.1 ∧ p.2 ≤ q.2
  | a, .z, _, _, _, p, h => by rw [minus_z] at h; exact ⟨p, h, rfl, Int.le_refl _⟩
  | .z, .c _ _ _, _, _, _, p, h => by cases h
  | .c e n r, .c e' n' r', ha, hb, hc, p, h => by
    have tb := nf_tail hb
    rw [minusO] at h
    by_cases q : e = e'
    · rw [if_pos q] at h
      by_cases q2 : n = n'
      · rw [if_pos q2] at h
        have hc' : cmp r' r ≠ 1 := by
          rcases le_c hc with z | ⟨_, z | ⟨_, z⟩⟩
          · rw [q, cmp_self] at z; cases z
          · omega
          · exact z
        obtain ⟨w, w1, w2, w3⟩ := minus_part (nf_tail ha).1 tb.1 hc' p h
        exact ⟨w, by show w ∈ (e, n) :: r.parts; simp [w1], w2, w3⟩
      · rw [if_neg q2] at h
        rcases List.mem_cons.mp (show p ∈ (e, n - n') :: r.parts from h) with z | z
        · exact ⟨(e, n), by show _ ∈ (e, n) :: r.parts; simp, by rw [z], by rw [z]; show n - n' ≤ n; omega⟩
        · exact ⟨p, by show p ∈ (e, n) :: r.parts; simp [z], rfl, Int.le_refl _⟩
    · rw [if_neg q] at h
      exact ⟨p, h, rfl, Int.le_refl _⟩
theorem minus_mx {a b : O} (ha : NF a) (hb : NF b) (h : cmp b a ≠ 1) : mx (minusO a b) ≤ mx a := by
  have h1 := (mx_parts (mx_nonneg a) a).mp (Int.le_refl _)
  rw [mx_parts (mx_nonneg a)]
  intro p hp
  obtain ⟨q, q1, q2, q3⟩ := minus_part ha hb h p hp
  have := h1 q q1
  rw [q2]; omega
theorem Sz.minus {H L K Z C M : Nat} {a b : O} (x : Sz H L K Z C M a) (hb : NF b) (h : cmp b a ≠ 1) : Sz H L Z Z C M (minusO a b) where
  nf := (minus_ok a b x.nf hb h).1
  h := minus_h x.h
  ll := Nat.le_trans (minus_len a b) x.ll
  k := Nat.le_trans (hd_size _) (Nat.le_trans (minus_size a b) x.s)
  s := Nat.le_trans (minus_size a b) x.s
  cs := fun p hp => by
    obtain ⟨q, q1, q2, q3⟩ := minus_part x.nf hb h p hp
    have := x.cs q q1
    have := (((nf_parts _).mp (minus_ok a b x.nf hb h).1).2 p hp).2
    omega
  m := Int.lt_of_le_of_lt (minus_mx x.nf hb h) x.m
/-! ### division -/
def howO (b : O) (e : O) (n : Int) (r : O) : Int := if 0 < n / hdN b ∧ cmp (.c e n r) (prodO b (.c .z (n / hdN b) .z)) = -1 then n / hdN b - 1 else n / hdN b
def divO (b : O) : O → O × O
  | .z => (.z, .z)
  | .c e n r => if cmp e (hdE b) = 1 then (.c (minusO e (hdE b)) n (divO b r).1, (divO b r).2)
    else if e = hdE b then (if 0 < howO b e n r then (.c .z (howO b e n r) .z, minusO (.c e n r) (prodO b (.c .z (howO b e n r) .z))) else (.z, .c e n r))
    else (.z, .c e n r)
theorem minus_gt {e f : O} (ne : NF e) (nf : NF f) (h : cmp e f = 1) : NF (minusO e f) ∧ plusO f (minusO e f) = e ∧ minusO e f ≠ .z := by
  obtain ⟨h1, h2⟩ := minus_ok e f ne nf (by rw [cmp_gt.mp h]; decide)
  refine ⟨h1, h2, fun z => ?_⟩
  rw [z] at h2
  have : f = e := h2
  rw [this, cmp_self] at h; cases h
theorem minus_lt {e e' f : O} (ne : NF e) (ne' : NF e') (nf : NF f) (h : cmp e f = 1) (h' : cmp e' f = 1) : cmp (minusO e f) (minusO e' f) = cmp e e' := by
  have a := minus_gt ne nf h
  have b := minus_gt ne' nf h'
  have := plus_cmp nf a.1 b.1
  rw [a.2.1, b.2.1] at this
  exact this.symm
/-- how often: found, with what is left -/
theorem how_ok {f s r : O} {n m : Int} (ha : NF (.c f n r)) (hb : NF (.c f m s)) : 0 ≤ howO (.c f m s) f n r ∧ howO (.c f m s) f n r ≤ n ∧
    (0 < howO (.c f m s) f n r → cmp (prodO (.c f m s) (.c .z (howO (.c f m s) f n r) .z)) (.c f n r) ≠ 1 ∧ cmp (minusO (.c f n r) (prodO (.c f m s) (.c .z (howO (.c f m s) f n r) .z))) (.c f m s) = -1) ∧
    (howO (.c f m s) f n r = 0 → cmp (.c f n r) (.c f m s) = -1) := by
  have ta := nf_tail ha
  have tb := nf_tail hb
  have n1 := ta.2.2.1
  have m1 := tb.2.2.1
  obtain ⟨k, hk⟩ : ∃ k, n / m = k := ⟨_, rfl⟩
  have d1 : m * k + n % m = n := by rw [← hk]; exact Int.mul_ediv_add_emod n m
  have d2 := Int.emod_nonneg n (show m ≠ 0 by omega)
  have d3 := Int.emod_lt_of_pos n (show 0 < m by omega)
  have k0 : 0 ≤ k := by rw [← hk]; exact Int.ediv_nonneg (by omega) (by omega)
  have kn : k ≤ n := by
    have : 1 * k ≤ m * k := Int.mul_le_mul_of_nonneg_right m1 k0
    omega
  have pk : prodO (.c f m s) (.c .z k .z) = .c f (m * k) s := prod_zero
  have hh : howO (.c f m s) f n r = if 0 < k ∧ cmp (.c f n r) (.c f (m * k) s) = -1 then k - 1 else k := by
    unfold howO
    rw [show hdN (.c f m s) = m from rfl, hk, pk]
  rw [hh]
  have rest_lt : ∀ j : Int, 1 ≤ j → cmp (.c f (m * j) s) (.c f n r) ≠ 1 → n < m * (j + 1) ∨ (n = m * (j + 1) ∧ cmp r s = -1) → cmp (minusO (.c f n r) (.c f (m * j) s)) (.c f m s) = -1 := by
    intro j j1 hle hlt
    rw [minusO, if_pos rfl]
    have e1 : m * (j + 1) = m * j + m := by rw [Int.mul_add, Int.mul_one]
    by_cases q : n = m * j
    · rw [if_pos q]
      cases hx : minusO r s with
      | z => exact cmp_zc
      | c g i t =>
        obtain ⟨w, w1, w2⟩ := minus_exp r s (g, i) (by rw [hx]; show _ ∈ (g, i) :: t.parts; simp)
        have := ta.2.2.2 w w1
        rw [w2] at this
        exact cmp_lt_head (cmp_gt.mp this)
    · rw [if_neg q]
      have n2 : m * j < n := by
        rcases le_c hle with z | ⟨_, z | ⟨z, _⟩⟩
        · rw [cmp_self] at z; cases z
        · exact z
        · exact absurd z.symm q
      rcases hlt with h | ⟨h, h2⟩
      · exact cmp_c.mpr (Or.inr ⟨rfl, Or.inl (by omega)⟩)
      · exact cmp_c.mpr (Or.inr ⟨rfl, Or.inr ⟨by omega, h2⟩⟩)
  by_cases c : 0 < k ∧ cmp (.c f n r) (.c f (m * k) s) = -1
  · rw [if_pos c]
    have hc : n = m * k ∧ cmp r s = -1 := by
      rcases cmp_c.mp c.2 with z | ⟨_, z | z⟩
      · rw [cmp_self] at z; cases z
      · omega
      · exact z
    refine ⟨by omega, by omega, fun h => ?_, fun h => ?_⟩
    · rw [prod_zero]
      have e1 : m * (k - 1) = m * k - m := by rw [Int.mul_sub, Int.mul_one]
      have hle : cmp (.c f (m * (k - 1)) s) (.c f n r) ≠ 1 := by
        have : cmp (.c f (m * (k - 1)) s) (.c f n r) = -1 := cmp_c.mpr (Or.inr ⟨rfl, Or.inl (by omega)⟩)
        rw [this]; decide
      refine ⟨hle, rest_lt (k - 1) (by omega) hle (Or.inr ⟨?_, hc.2⟩)⟩
      rw [show k - 1 + 1 = k by omega]; exact hc.1
    · have : k = 1 := by omega
      rw [this, Int.mul_one] at hc
      exact cmp_c.mpr (Or.inr ⟨rfl, Or.inr hc⟩)
  · rw [if_neg c]
    refine ⟨k0, kn, fun h => ?_, fun h => ?_⟩
    · rw [prod_zero]
      have hle : cmp (.c f (m * k) s) (.c f n r) ≠ 1 := fun z => c ⟨h, cmp_gt.mp z⟩
      refine ⟨hle, rest_lt k (by omega) hle (Or.inl ?_)⟩
      rw [Int.mul_add, Int.mul_one]; omega
    · rw [h, Int.mul_zero] at d1
      exact cmp_c.mpr (Or.inr ⟨rfl, Or.inl (by omega)⟩)
structure DivF (b a : O) (q w : O) : Prop where
  nq : NF q
  nw : NF w
  eq : plusO (prodO b q) w = a
  lt : cmp w b = -1
theorem div_ok {b : O} (hb : NF b) (bz : b ≠ .z) : ∀ {a : O}, NF a → DivF b a (divO b a).1 (divO b a).2 ∧ (∀ g, NF g → cmp g (hdE b) = 1 → (∀ q ∈ a.parts, cmp g q.1 = 1) → ∀ t ∈ (divO b a).1.parts, cmp (minusO g (hdE b)) t.1 = 1)
  | .z, _ => by
    refine ⟨⟨trivial, trivial, by rw [show (divO b .z).1 = .z from rfl, prod_bz]; rfl, ?_⟩, fun g _ _ _ t ht => by cases ht⟩
    show cmp .z b = -1
    cases b with
    | z => exact absurd rfl bz
    | c f m s => exact cmp_zc
  | .c e n r, ha => by
    have ta := nf_tail ha
    have nf := hd_nf hb
    obtain ⟨f, m, s, hbz⟩ : ∃ f m s, b = .c f m s := by
      cases b with
      | z => exact absurd rfl bz
      | c f m s => exact ⟨f, m, s, rfl⟩
    have hf : hdE b = f := by rw [hbz]; rfl
    rcases cmp_tri e f with c | c | c
    · have h1 : ¬ cmp e (hdE b) = 1 := by rw [hf, c]; decide
      have h2 : ¬ e = hdE b := by rw [hf]; exact fun z => by rw [z, cmp_self] at c; cases c
      rw [divO, if_neg h1, if_neg h2]
      refine ⟨⟨trivial, ha, by rw [prod_bz, plus_z], by rw [hbz]; exact cmp_lt_head c⟩, fun g _ _ _ t ht => by cases ht⟩
    · have h1 : ¬ cmp e (hdE b) = 1 := by rw [hf, c, cmp_self]; decide
      have h2 : e = hdE b := by rw [hf]; exact c
      rw [divO, if_neg h1, if_pos h2]
      subst c
      obtain ⟨k0, kn, k1, k2⟩ := how_ok ha (hbz ▸ hb)
      rw [← hbz] at k0 kn k1 k2
      by_cases q : 0 < howO b e n r
      · rw [if_pos q]
        obtain ⟨l1, l2⟩ := k1 q
        obtain ⟨o1, o2⟩ := minus_ok _ _ ha (prodO_nf hb (nf_whole (by omega))) l1
        refine ⟨⟨nf_whole (by omega), o1, o2, l2⟩, fun g ng hg _ t ht => ?_⟩
        rcases List.mem_cons.mp (show t ∈ (O.z, howO b e n r) :: [] from ht) with z | z
        · rw [z]; exact cmp_gt.mpr (z_lt (minus_gt ng nf hg).2.2)
        · cases z
      · rw [if_neg q]
        refine ⟨⟨trivial, ha, by rw [prod_bz, plus_z], k2 (by omega)⟩, fun g _ _ _ t ht => by cases ht⟩
    · have h1 : cmp e (hdE b) = 1 := by rw [hf]; exact c
      rw [divO, if_pos h1]
      obtain ⟨i1, i2⟩ := div_ok hb bz ta.1
      have mg := minus_gt ta.2.1 nf h1
      refine ⟨⟨nf_mk mg.1 ta.2.2.1 i1.nq (i2 e ta.2.1 h1 ta.2.2.2), i1.nw, ?_, i1.lt⟩, fun g ng hg hq t ht => ?_⟩
      · show plusO (prodO b (.c (minusO e (hdE b)) n (divO b r).1)) (divO b r).2 = _
        have pn : prodO b (.c (minusO e (hdE b)) n (divO b r).1) = .c e n (prodO b (divO b r).1) := by
          have h3 := mg.2.1
          rw [hbz] at h3 ⊢
          rw [prod_nz (by rw [← hbz]; exact mg.2.2), show hdE (.c f m s) = f from rfl] at *
          rw [h3]
        rw [pn]
        have lt := i1.lt
        have eq := i1.eq
        cases hw : (divO b r).2 with
        | z =>
          rw [hw] at eq
          have : prodO b (divO b r).1 = r := eq
          rw [this]; rfl
        | c g i t =>
          rw [hw] at lt eq
          have gl : cmp e g = 1 := by
            rw [hbz] at lt
            rcases cmp_c.mp lt with z | ⟨z, _⟩
            · exact gt_trans c (cmp_gt.mpr z)
            · rw [z]; exact c
          rw [plus_gt gl, eq]
      · rcases List.mem_cons.mp (show t ∈ (minusO e (hdE b), n) :: (divO b r).1.parts from ht) with z | z
        · rw [z]
          show cmp (minusO g (hdE b)) (minusO e (hdE b)) = 1
          rw [minus_lt ng ta.2.1 nf hg h1]
          exact hq (e, n) (by show _ ∈ (e, n) :: r.parts; simp)
        · exact i2 g ng hg (fun p hp => hq p (by show p ∈ (e, n) :: r.parts; simp [hp])) t z
/-- in one way only -/
theorem div_one {b q w q' w' a : O} (hb : NF b) (bz : b ≠ .z) (h : DivF b a q w) (h' : DivF b a q' w') : q = q' ∧ w = w' := by
  have key : ∀ {q w q' w' : O}, DivF b a q w → DivF b a q' w' → cmp q q' = -1 → False := fun {q w q' w'} h h' c => by
    obtain ⟨o1, o2⟩ := minus_ok q' q h'.nq h.nq (by rw [c]; decide)
    have dz : minusO q' q ≠ .z := fun z => by
      rw [z] at o2
      have : q = q' := o2
      rw [this, cmp_self] at c; cases c
    have d1 : Le (prodO b oneO) (prodO b (minusO q' q)) := by
      rcases not_z_le o1 dz with z | z
      · rw [z]; exact Or.inl rfl
      · exact Or.inr (mono_nz hb bz nf_one o1 z)
    rw [prod_one] at d1
    have pq := prodO_nf hb h.nq
    have pd := prodO_nf hb o1
    have e1 : prodO b q' = plusO (prodO b q) (prodO b (minusO q' q)) := by
      conv => lhs; rw [← o2]
      cases b with
      | z => exact absurd rfl bz
      | c f m s => exact prod_dist hb _ _ h.nq o1
    have l1 : cmp a (plusO (prodO b q) (prodO b (minusO q' q))) = -1 := by
      have x1 : cmp a (plusO (prodO b q) b) = -1 := by rw [← h.eq]; exact plus_mono _ _ _ pq h.nw hb h.lt
      rcases d1 with z | z
      · rw [z] at x1; rw [← z] at x1 ⊢; exact x1
      · exact lt_trans x1 (plus_mono _ _ _ pq hb pd z)
    rw [← e1] at l1
    have l2 := plus_ge (prodO_nf hb h'.nq) h'.nw
    rw [h'.eq] at l2
    exact l2 (cmp_gt.mpr l1)
  rcases cmp_tri q q' with c | c | c
  · exact (key h h' c).elim
  · subst c
    have e := h.eq.trans h'.eq.symm
    exact ⟨rfl, plus_inj (prodO_nf hb h.nq) h.nw h'.nw e⟩
  · exact (key h' h (cmp_gt.mp c)).elim
/-! sizes -/
theorem Sz.div {H L K Z C M : Nat} {a b : O} (x : Sz H L K Z C M a) (hb : NF b) (bz : b ≠ .z) (hH : 1 ≤ H) : Sz H L Z Z C M (divO b a).1 ∧ Sz H L Z Z C M (divO b a).2 := by
  have nf := hd_nf hb
  have key : ∀ a : O, NF a → (divO b a).1.len ≤ a.len ∧ (divO b a).2.len ≤ a.len ∧ (divO b a).1.size ≤ a.size ∧ (divO b a).2.size ≤ a.size ∧ (∀ p ∈ (divO b a).1.parts, ∃ q ∈ a.parts, p.1.h ≤ q.1.h ∧ p.2 ≤ q.2 ∧ mx p.1 ≤ mx q.1) ∧ (∀ p ∈ (divO b a).2.parts, ∃ q ∈ a.parts, p.1.h ≤ q.1.h ∧ p.2 ≤ q.2 ∧ mx p.1 ≤ mx q.1) := by
    intro a
    induction a with
    | z => intro _; exact ⟨Nat.le_refl _, Nat.le_refl _, Nat.le_refl _, Nat.le_refl _, (fun p hp => by cases hp), (fun p hp => by cases hp)⟩
    | c e n r _ ih =>
      intro na
      have ta := nf_tail na
      have self : ∀ p ∈ (O.c e n r).parts, ∃ q ∈ (O.c e n r).parts, p.1.h ≤ q.1.h ∧ p.2 ≤ q.2 ∧ mx p.1 ≤ mx q.1 := fun p hp => ⟨p, hp, Nat.le_refl _, Int.le_refl _, Int.le_refl _⟩
      have none : ∀ p ∈ (O.z).parts, ∃ q ∈ (O.c e n r).parts, p.1.h ≤ q.1.h ∧ p.2 ≤ q.2 ∧ mx p.1 ≤ mx q.1 := fun p hp => by cases hp
      have h1 : (O.c e n r).len = r.len + 1 := rfl
      have h2 : (O.c e n r).size = 1 + e.size + r.size := rfl
      rw [divO]
      by_cases c : cmp e (hdE b) = 1
      · rw [if_pos c]
        obtain ⟨i1, i2, i3, i4, i5, i6⟩ := ih ta.1
        have up : ∀ {p : O × Int}, (∃ q ∈ r.parts, p.1.h ≤ q.1.h ∧ p.2 ≤ q.2 ∧ mx p.1 ≤ mx q.1) → ∃ q ∈ (O.c e n r).parts, p.1.h ≤ q.1.h ∧ p.2 ≤ q.2 ∧ mx p.1 ≤ mx q.1 := fun ⟨q, q1, q2⟩ => ⟨q, by show q ∈ (e, n) :: r.parts; simp [q1], q2⟩
        refine ⟨by show (divO b r).1.len + 1 ≤ r.len + 1; omega, by show (divO b r).2.len ≤ r.len + 1; omega, ?_, by show (divO b r).2.size ≤ 1 + e.size + r.size; omega, fun p hp => ?_, fun p hp => up (i6 p hp)⟩
        · have := minus_size e (hdE b)
          show 1 + (minusO e (hdE b)).size + (divO b r).1.size ≤ 1 + e.size + r.size; omega
        · rcases List.mem_cons.mp (show p ∈ (minusO e (hdE b), n) :: (divO b r).1.parts from hp) with z | z
          · rw [z]
            exact ⟨(e, n), by show _ ∈ (e, n) :: r.parts; simp, minus_h (Nat.le_refl _), Int.le_refl _, minus_mx ta.2.1 nf (by rw [cmp_gt.mp c]; decide)⟩
          · exact up (i5 p z)
      · rw [if_neg c]
        by_cases d : e = hdE b
        · rw [if_pos d]
          by_cases q : 0 < howO b e n r
          · rw [if_pos q]
            obtain ⟨f, m, s, hbz⟩ : ∃ f m s, b = .c f m s := by
              cases b with
              | z => exact absurd rfl bz
              | c f m s => exact ⟨f, m, s, rfl⟩
            have hf : hdE b = f := by rw [hbz]; rfl
            rw [hf] at d
            subst d
            obtain ⟨k0, kn, k1, _⟩ := how_ok na (hbz ▸ hb)
            rw [← hbz] at k0 kn k1
            have l1 := (k1 q).1
            refine ⟨by show 0 + 1 ≤ r.len + 1; omega, Nat.le_trans (minus_len _ _) (Nat.le_refl _), by show 1 + 0 + 0 ≤ 1 + e.size + r.size; omega, minus_size _ _, fun p hp => ?_, fun p hp => ?_⟩
            · rcases List.mem_cons.mp (show p ∈ (O.z, howO b e n r) :: [] from hp) with z | z
              · rw [z]; exact ⟨(e, n), by show _ ∈ (e, n) :: r.parts; simp, Nat.zero_le _, kn, mx_nonneg _⟩
              · cases z
            · obtain ⟨w, w1, w2, w3⟩ := minus_part na (prodO_nf hb (nf_whole (by omega))) l1 p hp
              exact ⟨w, w1, by rw [w2]; exact Nat.le_refl _, w3, by rw [w2]; exact Int.le_refl _⟩
          · rw [if_neg q]
            exact ⟨Nat.zero_le _, Nat.le_refl _, Nat.zero_le _, Nat.le_refl _, none, self⟩
        · rw [if_neg d]
          exact ⟨Nat.zero_le _, Nat.le_refl _, Nat.zero_le _, Nat.le_refl _, none, self⟩
  obtain ⟨k1, k2, k3, k4, k5, k6⟩ := key a x.nf
  obtain ⟨d, _⟩ := div_ok hb bz x.nf
  have am := (mx_parts (mx_nonneg a) a).mp (Int.le_refl _)
  have mk : ∀ y : O, NF y → y.len ≤ a.len → y.size ≤ a.size → (∀ p ∈ y.parts, ∃ q ∈ a.parts, p.1.h ≤ q.1.h ∧ p.2 ≤ q.2 ∧ mx p.1 ≤ mx q.1) → Sz H L Z Z C M y := fun y ny h1 h2 h3 => by
    refine ⟨ny, ?_, Nat.le_trans h1 x.ll, Nat.le_trans (hd_size y) (Nat.le_trans h2 x.s), Nat.le_trans h2 x.s, fun p hp => ?_, ?_⟩
    · rw [h_parts]
      intro p hp
      obtain ⟨q, q1, q2, _⟩ := h3 p hp
      have := (h_parts a).mp x.h q q1
      omega
    · obtain ⟨q, q1, _, q3, _⟩ := h3 p hp
      have := x.cs q q1
      have := (((nf_parts y).mp ny).2 p hp).2
      omega
    · refine Int.lt_of_le_of_lt ((mx_parts (mx_nonneg a) y).mpr fun p hp => ?_) x.m
      obtain ⟨q, q1, _, q3, q4⟩ := h3 p hp
      have := am q q1
      omega
  exact ⟨mk _ d.nq k1 k3 k5, mk _ d.nw k2 k4 k6⟩
end Nm
set_option Elab.async false
set_option linter.all false
set_option maxRecDepth 100000
set_option maxHeartbeats 4000000
namespace Nm
open PySem Pu O L2
/-! ### divided: what the program does -/
def WholeOk (F : Fn) : Prop := ∀ n : Int, 1 ≤ n → F [.int n] = .ok (enc (.c .z n .z))
/-- bounds of a division -/
structure DB (La Za Ca Lb Zb Cb : Nat) : Prop where
  la : La ≤ 100000
  lb : Lb ≤ 100000
  za : Za ≤ 100000
  zb : Zb ≤ 100000
  ca : 0 < Ca
  cb : 0 < Cb
  cc : Ca + Cb ≤ 8000
theorem DB.mk' {La Za Ca Lb Zb Cb : Nat} (h : (decide (La ≤ 100000) && decide (Lb ≤ 100000) && decide (Za ≤ 100000) && decide (Zb ≤ 100000) && decide (0 < Ca) && decide (0 < Cb) && decide (Ca + Cb ≤ 8000)) = true) : DB La Za Ca Lb Zb Cb := by
  simp only [Bool.and_eq_true, decide_eq_true_eq] at h
  obtain ⟨⟨⟨⟨⟨⟨a, b⟩, c⟩, d⟩, e⟩, f⟩, g⟩ := h
  exact ⟨a, b, c, d, e, f, g⟩
def HowOk (F : Fn) : Prop := ∀ {La Ka Za Ca Ma Lb Kb Zb Cb Mb : Nat} {f s r : O} {n m : Int}, Sz 8 La Ka Za Ca Ma (.c f n r) → Sz 8 Lb Kb Zb Cb Mb (.c f m s) → DB La Za Ca Lb Zb Cb → F [enc (.c f n r), enc (.c f m s)] = .ok (.int (howO (.c f m s) f n r))
theorem whole_times {F : Fn} (hF : TimesG F) {Lb Kb Zb Cb Mb La Za Ca : Nat} {b : O} {k : Int} (y : Sz 8 Lb Kb Zb Cb Mb b) (B : DB La Za Ca Lb Zb Cb) (k1 : 1 ≤ k) (kc : k.natAbs < 2 ^ Ca) : F [enc b, enc (.c .z k .z)] = .ok (enc (prodO b (.c .z k .z))) := by
  have w : Sz 8 1 0 1 Ca Ca (.c .z k .z) := (Sz.whole k1 kc (Nat.le_refl _)).up (by decide) (Nat.le_refl _) (Nat.le_refl _) (Nat.le_refl _) (Nat.le_refl _) (Nat.le_refl _)
  have := B.cc
  have := B.lb
  have := B.zb
  exact hF (y.bg (Nat.le_refl _)) (w.bg (Nat.le_refl _)) (by omega) (by decide) (by omega) B.cb B.ca (by omega)
theorem how_often_step {S : Nat → Fn} {c0 c1 c2 k : Nat} (hk : 10 ≤ k) (h0 : CmpOk k (S c0)) (h1 : TimesG (S c1)) (h2 : WholeOk (S c2)) : HowOk (fun ds => fnD 3 (G_how_often c0 c1 c2 S) ds) := by
  intro La Ka Za Ca Ma Lb Kb Zb Cb Mb f s r n m x y B
  refine fnD_of ?_
  have n1 := (nf_tail x.nf).2.2.1
  have m1 := (nf_tail y.nf).2.2.1
  have nc := x.cs (f, n) (by show _ ∈ (f, n) :: r.parts; simp)
  have mc := y.cs (f, m) (by show _ ∈ (f, m) :: s.parts; simp)
  replace nc : n.natAbs < 2 ^ Ca := nc
  replace mc : m.natAbs < 2 ^ Cb := mc
  have dv : cDiv n m = true := cDiv_of Cb (by omega) mc B.cb (by have := B.cc; omega)
  have a0 : atI (encL (.c f n r)) 0 = some (encP (f, n)) := atI_zero _ _
  have b0 : atI (encL (.c f m s)) 0 = some (encP (f, m)) := atI_zero _ _
  have xh := x.h
  have hh : howO (.c f m s) f n r = if 0 < n / m ∧ cmp (.c f n r) (prodO (.c f m s) (.c .z (n / m) .z)) = -1 then n / m - 1 else n / m := rfl
  have d0 : 0 ≤ n / m := Int.ediv_nonneg (by omega) (by omega)
  have dn : n / m ≤ n := Int.ediv_le_self _ (by omega)
  have nz : (O.c f n r) ≠ .z := fun z => O.noConfusion z
  generalize hA : (O.c f n r) = A at *
  generalize hB : (O.c f m s) = Bb at *
  unfold G_how_often
  by_cases q : 0 < n / m
  · have w := h2 (n / m) (by omega)
    have t := whole_times h1 (k := n / m) y B (by omega) (by omega)
    have c := h0 A (prodO Bb (.c .z (n / m) .z)) (by omega)
    by_cases e : cmp A (prodO Bb (.c .z (n / m) .z)) = -1
    · rw [hh, if_pos ⟨q, e⟩]
      rw [e] at c
      simp [a0, b0, dv, q, w, t, c]
    · rw [hh, if_neg (fun z => e z.2)]
      have c2 : ¬ cmp A (prodO Bb (.c .z (n / m) .z)) < 0 := by
        have := cmp_range A (prodO Bb (.c .z (n / m) .z)); omega
      simp [a0, b0, dv, q, w, t, c, c2]
  · rw [hh, if_neg (fun z => q z.1)]
    simp [a0, b0, dv, q]
abbrev dT (F : Fn) : Vars → R Bool := tAndR (tOf (eOp gLt (eVar 4) (eCall gLen (aCons (eVar 0) aNil)))) (tOf (eOp gGt (eFn F (aCons (eOp gIx (eOp gIx (eVar 0) (eVar 4)) (eC (.int 0))) (aCons (eVar 2) aNil))) (eC (.int 0))))
abbrev dWB (F : Fn) : Vars → Out := sSeq (sAppM [3] 3 (eTup (aCons (eFn F (aCons (eOp gIx (eOp gIx (eVar 0) (eVar 4)) (eC (.int 0))) (aCons (eVar 2) aNil))) (aCons (eOp gIx (eOp gIx (eVar 0) (eVar 4)) (eC (.int 1))) aNil)))) (sSetM [3] 4 (eOp gAdd (eVar 4) (eC (.int 1))))
theorem div_loop {F0 F1 : Fn} {k : Nat} (hk : 20 ≤ k) (h0 : CmpOk k F0) (h1 : MinOk k F1) {a b : O} (na : NF a) (nb : NF b) (ah : a.h ≤ 8) (bh : b.h ≤ 8) (as : a.size ≤ 100000) (bs : b.size ≤ 100000) :
    ∀ (fu : Nat) (x : O) (i : Nat) (Fd : List (O × Int)), a.parts.drop i = x.parts → i ≤ a.len → x.len + 1 ≤ fu → Fd.length + x.len ≤ 200000 → (∀ p ∈ x.parts, NF p.1 ∧ p.1.h ≤ 8 ∧ p.1.size ≤ 100000) →
    ∃ (i' : Nat) (T : List (O × Int)) (y : O), whileL (dT F0) (dWB F1) fu [some (enc a), some (enc b), some (enc (hdE b)), some (.list (Fd.map encP)), some (.int (i : Nat)), none, none] = .nx [some (enc a), some (enc b), some (enc (hdE b)), some (.list ((Fd ++ T).map encP)), some (.int (i' : Nat)), none, none] ∧
      a.parts.drop i' = y.parts ∧ i' ≤ a.len ∧ (divO b x).1.parts = T ++ (divO b y).1.parts ∧ (divO b x).2 = (divO b y).2 ∧ (y = .z ∨ ¬ cmp (hdE y) (hdE b) = 1) ∧ T.length + y.len ≤ x.len
  | 0, x, i, Fd, _, _, hf, _, _ => by omega
  | fu + 1, .z, i, Fd, hx, hi, hf, hl, _ => by
    have hi2 : a.parts.length ≤ i := by
      rcases Nat.lt_or_ge i a.parts.length with c | c
      · rw [List.drop_eq_getElem_cons c] at hx; cases hx
      · exact c
    rw [len_parts] at hi2
    have t : dT F0 [some (enc a), some (enc b), some (enc (hdE b)), some (.list (Fd.map encP)), some (.int (i : Nat)), none, none] = .ok false := by
      have : ¬ (i : Int) < (a.len : Int) := by omega
      simp [this]
    exact ⟨i, [], .z, by rw [List.append_nil]; exact whileL_f t, hx, hi, rfl, rfl, Or.inl rfl, Nat.le_refl _⟩
  | fu + 1, .c e n r, i, Fd, hx, hi, hf, hl, hp => by
    obtain ⟨x1, x2, x3⟩ := drop_at (show a.parts.drop i = (e, n) :: r.parts from hx)
    rw [len_parts] at x3
    obtain ⟨ne, eh, es⟩ := hp (e, n) (by show _ ∈ (e, n) :: r.parts; simp)
    replace ne : NF e := ne
    replace eh : e.h ≤ 8 := eh
    replace es : e.size ≤ 100000 := es
    have ax := atI_at x1
    have cc := h0 e (hdE b) (by omega)
    have nfb := hd_nf nb
    have bhh := hd_h b bh
    have bss := hd_size b
    have hll : (O.c e n r).len = r.len + 1 := rfl
    have h1i : (i : Int) < (a.len : Int) := by omega
    by_cases c : cmp e (hdE b) = 1
    · have t : dT F0 [some (enc a), some (enc b), some (enc (hdE b)), some (.list (Fd.map encP)), some (.int (i : Nat)), none, none] = .ok true := by
        rw [c] at cc
        simp [h1i, ax, cc]
      have el := len_le_size e
      have bl := len_le_size (hdE b)
      have m1 := (h1 e (hdE b) (by omega) (by omega) (by omega) (by omega) (by omega)).1 (by rw [cmp_gt.mp c]; decide)
      have s1 : Fd.length < sizeLine := sz1000' (by omega)
      have bd : dWB F1 [some (enc a), some (enc b), some (enc (hdE b)), some (.list (Fd.map encP)), some (.int (i : Nat)), none, none] = .nx [some (enc a), some (enc b), some (enc (hdE b)), some (.list ((Fd ++ [(minusO e (hdE b), n)]).map encP)), some (.int ((i + 1 : Nat) : Nat)), none, none] := by
        simp [mask, ax, m1, s1]
      obtain ⟨i', T, y, g1, g2, g3, g4, g5, g6, g7⟩ := div_loop hk h0 h1 na nb ah bh as bs fu r (i + 1) (Fd ++ [(minusO e (hdE b), n)]) x2 (by omega) (by omega) (by rw [List.length_append, List.length_singleton]; omega) (fun p hq => hp p (by show p ∈ (e, n) :: r.parts; simp [hq]))
      refine ⟨i', (minusO e (hdE b), n) :: T, y, ?_, g2, g3, ?_, ?_, g6, by rw [List.length_cons]; omega⟩
      · rw [whileL_t t bd, g1, List.append_assoc]; rfl
      · rw [divO, if_pos c]
        show (minusO e (hdE b), n) :: (divO b r).1.parts = _
        rw [g4]; rfl
      · rw [divO, if_pos c]; exact g5
    · have t : dT F0 [some (enc a), some (enc b), some (enc (hdE b)), some (.list (Fd.map encP)), some (.int (i : Nat)), none, none] = .ok false := by
        have : ¬ 0 < cmp e (hdE b) := by have := cmp_range e (hdE b); omega
        simp [h1i, ax, cc, this]
      exact ⟨i, [], .c e n r, by rw [List.append_nil]; exact whileL_f t, hx, hi, rfl, rfl, Or.inr c, by show 0 + _ ≤ _; omega⟩
structure DivOk (F : Fn) : Prop where
  yes : ∀ {La Ka Za Ca Ma Lb Kb Zb Cb Mb : Nat} {a b : O}, Sz 8 La Ka Za Ca Ma a → Sz 8 Lb Kb Zb Cb Mb b → b ≠ .z → DB La Za Ca Lb Zb Cb → F [enc a, enc b] = .ok (.tuple [enc (divO b a).1, enc (divO b a).2])
  no : ∀ a : O, F [enc a, .tuple []] = .err "Nought"
theorem divided_step {S : Nat → Fn} {c0 c1 c2 c3 c4 k : Nat} (hk : 20 ≤ k) (h0 : CmpOk k (S c0)) (h1 : MinOk k (S c1)) (h2 : HowOk (S c2)) (h3 : TimesG (S c3)) (h4 : WholeOk (S c4)) : DivOk (fun ds => fnD 7 (G_divided c0 c1 c2 c3 c4 S) ds) where
  yes := by
    intro La Ka Za Ca Ma Lb Kb Zb Cb Mb a b x y bz B
    refine fnD_of ?_
    have xh := x.h
    have yh := y.h
    have xs := x.s
    have ys := y.s
    have Bz := B.za
    have Bzb := B.zb
    have g1 := gEq_nil (a := b) (by omega)
    rw [decide_eq_false bz] at g1
    obtain ⟨f, m, s, hbz⟩ : ∃ f m s, b = .c f m s := by
      cases b with
      | z => exact absurd rfl bz
      | c f m s => exact ⟨f, m, s, rfl⟩
    have hf : hdE b = f := by rw [hbz]; rfl
    have b0 : atI (encL b) 0 = some (encP (f, m)) := by rw [hbz]; exact atI_zero _ _
    have al := len_le_size a
    obtain ⟨i', T, w, w1, w2, w3, w4, w5, w6, w7⟩ := div_loop hk h0 h1 x.nf y.nf xh yh (by omega) (by omega) wfuel a 0 [] rfl (Nat.zero_le _) (by show a.len + 1 ≤ 1000000; omega) (by show 0 + a.len ≤ 200000; omega) (fun p hp => ⟨(((nf_parts a).mp x.nf).2 p hp).1, by have := part_mem_h hp; omega, by have := size_part hp; omega⟩)
    rw [List.nil_append, hf] at w1
    replace w1 : whileL (dT (S c0)) (dWB (S c1)) wfuel [some (enc a), some (enc b), some (enc f), some (.list []), some (.int 0), none, none] = _ := w1
    have cw : Pu.cutD (encL a) (some (i' : Int)) none = encL w := by
      rw [cut_back, encL_drop, encL_len, show min i' a.len = i' by omega, w2, of_parts]
    have sw : Sz 8 La Za Za Ca Ma w := by
      have := x.sub (qs := a.parts.drop i') (List.drop_sublist i' a.parts)
      rw [w2, of_parts] at this; exact this
    have wh := sw.h
    have gw := gNe_nil (a := w) (by omega)
    have s1 : T.length < sizeLine := sz1000' (by omega)
    rw [w5]
    have ep : enc (divO b a).1 = .tuple (T.map encP ++ encL (divO b w).1) := by
      show PyData.tuple (encL _) = _
      rw [encL_parts, w4, List.map_append, ← encL_parts]
    rw [ep]
    unfold G_divided
    have head : ∀ K : Vars → Out, (sSeq (sIf (tOf (eOp gEq (eVar 1) (eTup aNil))) (sRaise "Nought") sNil) (sSeq (sSetM [3] 2 (eOp gIx (eOp gIx (eVar 1) (eC (.int 0))) (eC (.int 0)))) (sSeq (sNew [3] 3 (nLst aNil)) (sSeq (sSetM [3] 4 (eC (.int 0))) (sSeq (whileL (dT (S c0)) (dWB (S c1)) wfuel) K))))) [some (enc a), some (enc b), none, none, none, none, none] = K [some (enc a), some (enc b), some (enc f), some (.list (T.map encP)), some (.int (i' : Nat)), none, none] := fun K => by
      simp [g1, mask, b0, w1]
    show (sSeq (sIf (tOf (eOp gEq (eVar 1) (eTup aNil))) (sRaise "Nought") sNil) (sSeq (sSetM [3] 2 (eOp gIx (eOp gIx (eVar 1) (eC (.int 0))) (eC (.int 0)))) (sSeq (sNew [3] 3 (nLst aNil)) (sSeq (sSetM [3] 4 (eC (.int 0))) (sSeq (whileL (dT (S c0)) (dWB (S c1)) wfuel) _))))) [some (enc a), some (enc b), none, none, none, none, none] = _
    rw [head]
    by_cases wz : w = .z
    · subst wz
      rw [decide_eq_true rfl] at gw
      have d0 : divO b .z = (.z, .z) := rfl
      rw [d0]
      have ez : encL .z = [] := rfl
      replace gw : gNe (.tuple []) (.tuple []) = some (.bool false) := gw
      rw [ez] at cw ⊢
      have ez2 : enc .z = .tuple [] := rfl
      rw [ez2]
      simp [mask, cw, gw]
    · rw [decide_eq_false wz] at gw
      obtain ⟨e, n, r, hwz⟩ : ∃ e n r, w = .c e n r := by
        cases w with
        | z => exact absurd rfl wz
        | c e n r => exact ⟨e, n, r, rfl⟩
      have ww : ¬ cmp e (hdE b) = 1 := by
        have := w6.resolve_left wz
        rw [hwz] at this; exact this
      have a0 : atI (encL w) 0 = some (encP (e, n)) := by rw [hwz]; exact atI_zero _ _
      have eh : e.h ≤ 8 := by rw [hwz] at wh; have : (O.c e n r).h = max (e.h + 1) r.h := rfl; omega
      have fh : f.h ≤ 8 := by rw [hbz] at yh; have : (O.c f m s).h = max (f.h + 1) s.h := rfl; omega
      have ge := gEq_enc (a := e) (b := f) (by omega) (by omega)
      by_cases ef : e = f
      · rw [decide_eq_true ef] at ge
        subst ef
        have q1 := h2 (hwz ▸ sw) (hbz ▸ y) B
        rw [← hwz, ← hbz] at q1
        obtain ⟨k0, kn, k1, _⟩ := how_ok (hwz ▸ sw.nf) (hbz ▸ y.nf)
        rw [← hbz] at k0 kn k1
        rw [← hwz] at k1
        have dw : divO b w = if 0 < howO b e n r then (.c .z (howO b e n r) .z, minusO w (prodO b (.c .z (howO b e n r) .z))) else (.z, w) := by
          rw [hwz, divO, if_neg ww, if_pos hf.symm]
        rw [dw]
        by_cases q : 0 < howO b e n r
        · rw [if_pos q]
          have nc := sw.cs (e, n) (by rw [hwz]; show _ ∈ (e, n) :: r.parts; simp)
          replace nc : n.natAbs < 2 ^ Ca := nc
          have t := whole_times h3 (k := howO b e n r) y B (by omega) (by omega)
          have u := h4 (howO b e n r) (by omega)
          have pl := prodO_len' (a := b) (nf_whole (n := howO b e n r) (by omega))
          have pl2 : (O.c .z (howO b e n r) .z).len = 1 := rfl
          have ph := prodO_h (a := b) (b := .c .z (howO b e n r) .z) yh (by show max (0 + 1) 0 ≤ 8; decide)
          have wl := len_le_size w
          have bl := len_le_size b
          have wss := sw.s
          have mn := (h1 w (prodO b (.c .z (howO b e n r) .z)) (by omega) (by omega) (by omega) (by omega) (by
            have h5 : (prodO b (.c .z (howO b e n r) .z)).len = b.len := by rw [hbz, prod_zero]; rfl
            omega)).1 (k1 q).1
          generalize howO b e n r = k at *
          show _ = Out.rt (.tuple [.tuple (T.map encP ++ [.tuple [.tuple [], .int k]]), _])
          have g9 : gEq (enc e) (enc e) = some (.bool true) := ge
          simp [mask, cw, gw, a0, g9, q1, q, s1, u, t, mn]
        · rw [if_neg q]
          show _ = Out.rt (.tuple [.tuple (T.map encP ++ []), enc w])
          rw [List.append_nil]
          simp [mask, cw, gw, a0, ge, q1, q]
      · rw [decide_eq_false ef] at ge
        have dw : divO b w = (.z, w) := by rw [hwz, divO, if_neg ww, if_neg (by rw [hf]; exact ef)]
        rw [dw]
        show _ = Out.rt (.tuple [.tuple (T.map encP ++ []), enc w])
        rw [List.append_nil]
        simp [mask, cw, gw, a0, ge]
  no := fun a => by
    refine fnD_err (ρ := [some (enc a), some (.tuple []), none, none, none, none, none]) ?_
    have g1 : gEq (.tuple []) (.tuple []) = some (.bool true) := gEq_nil (a := .z) (by decide)
    unfold G_divided
    simp [g1]
end Nm
set_option Elab.async false
set_option linter.all false
set_option maxRecDepth 100000
set_option maxHeartbeats 4000000
namespace Nm
open PySem Pu O L2
/-! ### factors -/
def mnyO (n : Int) : List O := if 1 < n then [.c .z n .z] else []
def fstO (e : O) : O → List O
  | .z => if e = .z then [] else [.c e 1 .z]
  | .c f _ _ => [.c (minusO e f) 1 oneO]
def facO : O → List O
  | .z => []
  | .c e n r => facO r ++ (fstO e r ++ mnyO n)
theorem mny_len (n : Int) : (mnyO n).length ≤ 1 := by
  unfold mnyO
  by_cases c : 1 < n
  · rw [if_pos c]; exact Nat.le_refl _
  · rw [if_neg c]; exact Nat.zero_le _
theorem fst_len (e r : O) : (fstO e r).length ≤ 1 := by
  cases r with
  | z =>
    unfold fstO
    by_cases c : e = .z
    · rw [if_pos c]; exact Nat.zero_le _
    · rw [if_neg c]; exact Nat.le_refl _
  | c f m s => exact Nat.le_refl _
theorem facO_len : ∀ a : O, (facO a).length ≤ 2 * a.len
  | .z => Nat.zero_le _
  | .c e n r => by
    have h1 := facO_len r
    have h2 := mny_len n
    have h3 := fst_len e r
    have h4 : (O.c e n r).len = r.len + 1 := rfl
    show (facO r ++ (fstO e r ++ mnyO n)).length ≤ _
    rw [List.length_append, List.length_append]
    omega
theorem fac_suf : ∀ (a : O) (j : Nat), ∃ rest, facO a = facO (of (a.parts.drop j)) ++ rest
  | .z, j => ⟨[], by show ([] : List O) = _; rw [show (O.z).parts.drop j = [] from by cases j <;> rfl]; rfl⟩
  | .c e n r, 0 => ⟨[], by rw [List.drop_zero, of_parts, List.append_nil]⟩
  | .c e n r, j + 1 => by
    obtain ⟨rest, h⟩ := fac_suf r j
    refine ⟨rest ++ (fstO e r ++ mnyO n), ?_⟩
    show facO r ++ _ = facO (of (r.parts.drop j)) ++ _
    rw [h, List.append_assoc]
/-- the first factor of a part whose exponent is not nought -/
theorem fst_of {e x : O} {n : Int} (na : NF (.c e n x)) (ez : e ≠ .z) : ∃ st t, fstO e x = [.c st 1 t] ∧ plusO (hdE x) st = e ∧ st.h ≤ e.h ∧ st.len ≤ e.len ∧ NF st ∧ st ≠ .z ∧ ((x = .z ∧ t = .z) ∨ (x ≠ .z ∧ t = oneO)) := by
  have ta := nf_tail na
  cases x with
  | z => exact ⟨e, .z, by show (if e = .z then _ else _) = _; rw [if_neg ez], plus_z, Nat.le_refl _, Nat.le_refl _, ta.2.1, ez, Or.inl ⟨rfl, rfl⟩⟩
  | c f m s =>
    have h : cmp e f = 1 := ta.2.2.2 (f, m) (by show _ ∈ (f, m) :: s.parts; simp)
    obtain ⟨h1, h2, h3⟩ := minus_gt ta.2.1 (nf_tail ta.1).2.1 h
    exact ⟨minusO e f, oneO, rfl, h2, minus_h (Nat.le_refl _), minus_len e f, h1, h3, Or.inr ⟨fun z => O.noConfusion z, rfl⟩⟩
theorem fst_z {x : O} {n : Int} (na : NF (.c .z n x)) : x = .z ∧ fstO .z x = [] := by
  have := z_min na
  subst this
  exact ⟨rfl, rfl⟩
theorem plus_wone {st : O} (h : st ≠ .z) : plusO (.c st 1 .z) oneO = .c st 1 oneO := by
  have c : cmp st .z = 1 := by cases st with
    | z => exact absurd rfl h
    | c _ _ _ => rfl
  rw [plus_gt c, plus_z]
/-! ### multiplied -/
abbrev QA' (a : O) : Prop := Sz 6 4 260 260 190 190 a
abbrev QF (f : O) : Prop := Sz 6 2 262 262 190 190 f
def FW : O → List O → O → Prop
  | m, [], m' => m = m'
  | m, f :: fs, m' => QA' m ∧ QF f ∧ FW (prodO m f) fs m'
theorem FW.app : ∀ {xs : List O} {m m1 m' : O} {ys : List O}, FW m xs m1 → FW m1 ys m' → FW m (xs ++ ys) m'
  | [], _, _, _, _, h, k => by cases h; exact k
  | x :: xs, _, _, _, _, h, k => ⟨h.1, h.2.1, h.2.2.app k⟩
theorem fac_walk : ∀ a : O, QA' a → FW oneO (facO a) (if a = .z then oneO else a)
  | .z, _ => rfl
  | .c e n r, qa => by
    have ta := nf_tail qa.nf
    have sr : QA' r := by
      have := qa.sub (qs := r.parts) (List.sublist_cons_self _ _)
      rw [of_parts] at this; exact this
    rw [if_neg (fun z => O.noConfusion z)]
    have cn := qa.cs (e, n) (by show _ ∈ (e, n) :: r.parts; simp)
    replace cn : n.natAbs < 2 ^ 190 := cn
    have eh : e.h + 1 ≤ 6 := by have := qa.h; have : (O.c e n r).h = max (e.h + 1) r.h := rfl; omega
    have es : e.size ≤ 260 := by have := qa.s; have : (O.c e n r).size = 1 + e.size + r.size := rfl; omega
    have em : mx e < 2 ^ 190 := by have := qa.m; have : mx (.c e n r) = max n (max (mx e) (mx r)) := rfl; omega
    have rm : mx r < 2 ^ 190 := sr.m
    have qm : QA' (.c e 1 r) := ⟨nf_mk ta.2.1 (by decide) ta.1 ta.2.2.2, qa.h, qa.ll, qa.k, qa.s, fun p hp => by
      rcases List.mem_cons.mp (show p ∈ (e, (1 : Int)) :: r.parts from hp) with h | h
      · rw [h]; show (1 : Int).natAbs < 2 ^ 190; decide
      · exact sr.cs p h, by show max 1 (max (mx e) (mx r)) < 2 ^ 190; omega⟩
    refine (fac_walk r sr).app (FW.app (m1 := .c e 1 r) ?_ ?_)
    · by_cases ez : e = .z
      · subst ez
        obtain ⟨hx, hf⟩ := fst_z qa.nf
        rw [hf, hx, if_pos rfl]
        exact rfl
      · obtain ⟨st, t, h1, h2, h3, h4, h5, h6, h7⟩ := fst_of qa.nf ez
        rw [h1]
        have ss : QF (.c st 1 t) := by
          rcases h7 with ⟨hx, ht⟩ | ⟨hx, ht⟩
          · subst hx ht
            have : st = e := by
              have := h1; unfold fstO at this; rw [if_neg ez] at this
              have := (List.cons.inj this).1
              injection this with q1; exact q1.symm
            subst this
            exact ⟨nf_mk h5 (by decide) trivial (fun q hq => by cases hq), by show max (st.h + 1) 0 ≤ 6; omega, by show 0 + 1 ≤ 2; decide, by show st.size ≤ 262; omega, by show 1 + st.size + 0 ≤ 262; omega, (fun p hp => by
              rcases List.mem_cons.mp (show p ∈ (st, (1 : Int)) :: [] from hp) with h | h
              · rw [h]; show (1 : Int).natAbs < 2 ^ 190; decide
              · cases h), by show max 1 (max (mx st) 0) < 2 ^ 190; omega⟩
          · obtain ⟨f, m, s, rfl⟩ : ∃ f m s, r = .c f m s := by
              cases r with
              | z => exact absurd rfl hx
              | c f m s => exact ⟨f, m, s, rfl⟩
            subst ht
            have hst : st = minusO e f := by
              have := (List.cons.inj h1).1
              injection this with q1; exact q1.symm
            have gt : cmp e f = 1 := ta.2.2.2 (f, m) (by show _ ∈ (f, m) :: s.parts; simp)
            have s1 := minus_size e f
            have s2 := minus_mx ta.2.1 (nf_tail ta.1).2.1 (fun z => by have := cmp_gt.mp z; rw [gt] at this; cases this)
            rw [← hst] at s1 s2
            have c : cmp st .z = 1 := by cases st with
              | z => exact absurd rfl h6
              | c _ _ _ => rfl
            exact ⟨nf_mk h5 (by decide) nf_one (fun q hq => by
                rcases List.mem_cons.mp (show q ∈ (O.z, (1 : Int)) :: [] from hq) with h | h
                · rw [h]; exact c
                · cases h), by show max (st.h + 1) (max (0 + 1) 0) ≤ 6; omega, by show 0 + 1 + 1 ≤ 2; decide, by show st.size ≤ 262; omega, by show 1 + st.size + (1 + 0 + 0) ≤ 262; omega, (fun p hp => by
              rcases List.mem_cons.mp (show p ∈ (st, (1 : Int)) :: (O.z, (1 : Int)) :: [] from hp) with h | h
              · rw [h]; show (1 : Int).natAbs < 2 ^ 190; decide
              · rcases List.mem_cons.mp h with h | h
                · rw [h]; show (1 : Int).natAbs < 2 ^ 190; decide
                · cases h), by show max 1 (max (mx st) (max 1 (max 0 0))) < 2 ^ 190; omega⟩
        refine ⟨?_, ss, ?_⟩
        · by_cases rz : r = .z
          · rw [if_pos rz]; exact Sz.one.up (by decide) (by decide) (by decide) (by decide) (by decide) (by decide)
          · rw [if_neg rz]; exact sr
        · show prodO _ _ = _
          rcases h7 with ⟨hx, ht⟩ | ⟨hx, ht⟩
          · subst hx ht
            rw [if_pos rfl, prod_nz h6, prod_bz]
            rw [show plusO .z st = e from h2]
          · rw [if_neg hx, ht]
            obtain ⟨f, m, s, rfl⟩ : ∃ f m s, r = .c f m s := by
              cases r with
              | z => exact absurd rfl hx
              | c f m s => exact ⟨f, m, s, rfl⟩
            rw [prod_nz h6, prod_one]
            rw [show plusO f st = e from h2]
    · unfold mnyO
      by_cases n1 : 1 < n
      · rw [if_pos n1]
        refine ⟨qm, (Sz.whole (by omega) cn (Nat.le_refl _)).up (by decide) (by decide) (by decide) (by decide) (by decide) (by decide), ?_⟩
        show prodO _ _ = _
        rw [prod_zero, Int.one_mul]
      · rw [if_neg n1]
        have := ta.2.2.1
        have : n = 1 := by omega
        subst this
        exact rfl
theorem rng_down (n : Nat) : rngN ((n : Int) - 1) (-1) (-1) = n := by
  unfold rngN Builtin.Range.rangeSize
  rw [if_neg (by decide)]
  by_cases c : (n : Int) - 1 > -1
  · rw [if_pos c, show (-(-1 : Int)) = 1 from rfl, Int.ediv_one]; omega
  · rw [if_neg c]; omega
theorem of_drop {a : O} {j : Nat} {p : O × Int} (h : a.parts[j]? = some p) : of (a.parts.drop j) = .c p.1 p.2 (of (a.parts.drop (j + 1))) := by
  obtain ⟨l, e⟩ := List.getElem?_eq_some_iff.mp h
  rw [List.drop_eq_getElem_cons l, e]; rfl
theorem nf_drop {a : O} (h : NF a) (j : Nat) : NF (of (a.parts.drop j)) := nf_sub (ps := a.parts) (by rw [of_parts]; exact h) (List.drop_sublist _ _)
end Nm
set_option Elab.async false
set_option linter.all false
set_option maxRecDepth 100000
set_option maxHeartbeats 4000000
namespace Pu
open PySem PySem.Spec PyProof.Rows L2
/-! ### try: .. except X: v = constant -/
def sTryC (T : Str → Option Bool) (iv : Nat) (d : PyData) (g : Vars → Out) (ρ : Vars) : Out := match g ρ with
  | .err c ρ' => match T c with
    | some true => .nx (ρ'.set iv (some d))
    | some false => .err c ρ'
    | none => .bad
  | o => o
def TryCF (K : PySem.W.Frag) (mg : Str → Option Value) (cX : Value) (c : Str) : Option Bool → Prop
  | some b => ∃ C, mg c = some (.ref C) ∧ PySem.W.exmOne K (.ref C) cX = some b
  | none => True
section
variable {X : Cx} {W : WX} {own : List Nat}
theorem sx_tryC {T : Str → Option Bool} {iv : Nat} {d : PyData} {vd : V} {g : Vars → Out} {body : List Stmt} {x v : Str} {e : Expr} {cX : Value} {p0 p1 p10 pos' pos : Pos}
    (hN : X.N.Nodup) (hiv : X.N[iv]? = some v) (hlv : Loc X.env.scope v) (oiv : own.contains iv = false)
    (hs : X.stack = X.env :: X.outer) (hf : X.env.frame = some X.env.locals) (hX : Names X x cX) (tk : Takes X W)
    (he : ∀ (a : Addr) (pn : List (Addr × Obj)), PE (X.suite a pn) e (tC vd)) (hr : ∀ H, Rp X.K H vd d)
    (hT : ∀ c, TryCF X.K X.mg cX c (T c))
    (hb : ∀ (W' : WX) (pn : List (Addr × Obj)) (xe : Value → Shared → Prop), Takes (X.tr pn xe) W' → PassesOwn (model X.prog X.w) X.A X.env xe → SsX (X.tr pn xe) W' own body g)
    (hsw : ∀ (a : Addr) (pn : List (Addr × Obj)), swapsWith e (some (.Name v p1)) p10.line (X.suite a pn).env = pure false := by intro a pn; rfl)
    (hfv : X.fn v = true ∨ X.env.scope.names.lookup v = some .local := by first | exact .inl rfl | exact .inr rfl | assumption) :
    SX X W own (.Try body [.ExceptHandler (some (.Name x p0)) none [.Assign [.Name v p1] e p10] pos'] [] [] pos) (sTryC T iv d g) := by
  have oiv' : iv ∉ own := fun z => by rw [List.contains_iff_mem.mpr z] at oiv; cases oiv
  refine ⟨_, ps_try_only (c := cX) (Wout := W) (tb := fun W' => tS X W' own g) (ts := fun a cls d0 D σ H => D.nx (σ.set iv (some vd)) H)
    hs hf hX tk (fun W' pn xe tk' px => (hb W' pn xe tk' px).pss) (fun a oe cls d0 pn hz hfl => ⟨fun pins s σ H D I h => ?_⟩), fun σ H ρ D H0 O0 O r z => ?_⟩
  · have P := pss_one (ps_set (X := X.suite a ((a, oe) :: pn)) (pos' := p1) (pos := p10) hN hiv hlv (he a ((a, oe) :: pn)) (hsw a ((a, oe) :: pn)) hfv)
    exact P.run pins s _ H D I h
  · refine ⟨H0, O0, O, ρ, r, ?_⟩
    unfold sTryC at z
    cases e : g ρ with
    | nx ρ' => rw [e] at z; exact z
    | rt d => rw [e] at z; exact z
    | bk ρ' => rw [e] at z; exact z
    | ct ρ' => rw [e] at z; exact z
    | bad => rw [e] at z; exact z
    | err c ρ' =>
      rw [e] at z
      dsimp only at z
      intro σ' H' O' r' s'
      have hTF := hT c
      cases hTc : T c with
      | none => rw [hTc] at z; exact z.elim
      | some b =>
        rw [hTc] at hTF
        obtain ⟨C, hmC, hx1⟩ := hTF
        have hcls : exV X.mg c = .ref C := by unfold exV; rw [hmC]; rfl
        cases b with
        | false =>
          refine ⟨false, by rw [hcls]; exact hx1, ⟨fun q => absurd q Bool.false_ne_true, fun _ => ?_⟩⟩
          rw [hTc] at z
          exact z σ' H' O' r' s'
        | true =>
          refine ⟨true, by rw [hcls]; exact hx1, ⟨fun _ a ha => ?_, fun q => absurd q.symm Bool.false_ne_true⟩⟩
          rw [hTc] at z
          exact z _ H' O' (r'.set oiv' (hr _)) s'
end
@[simp] theorem u_sTryC (T : Str → Option Bool) (iv : Nat) (d : PyData) (g : Vars → Out) (ρ : Vars) : sTryC T iv d g ρ = match g ρ with
  | .err c ρ' => match T c with
    | some true => .nx (ρ'.set iv (some d))
    | some false => .err c ρ'
    | none => .bad
  | o => o := rfl
def tabL : List (Str × Bool) → Str → Option Bool
  | [], _ => none
  | (c, b) :: r, d => if d = c then some b else tabL r d
@[simp] theorem tabL_self (c : Str) (b : Bool) (r : List (Str × Bool)) : tabL ((c, b) :: r) c = some b := if_pos rfl
theorem tabL_ne {c d : Str} (h : d ≠ c) (b : Bool) (r : List (Str × Bool)) : tabL ((c, b) :: r) d = tabL r d := if_neg h
def TryL (K : PySem.W.Frag) (mg : Str → Option Value) (x : Str) (l : List (Str × Bool)) : Prop := ∃ CX, mg x = some (.ref CX) ∧ ∀ c, TryCF K mg (.ref CX) c (tabL l c)
theorem tryL_nil {K : PySem.W.Frag} {mg : Str → Option Value} {x : Str} {CX : Addr} (hx : mg x = some (.ref CX)) : TryL K mg x [] := ⟨CX, hx, fun _ => trivial⟩
theorem tryL_cons {K : PySem.W.Frag} {mg : Str → Option Value} {x c : Str} {b : Bool} {l : List (Str × Bool)} {C CX : Addr} (hc : mg c = some (.ref C)) (hx : mg x = some (.ref CX)) (h1 : PySem.W.subIn K (.ref CX) (.type "BaseException") = some true) (h2 : PySem.W.hasDictIn K CX = true) (h3 : PySem.W.typeIn K (.ref CX) = some (.type "type"))
    (h4 : PySem.W.subIn K (.ref C) (.ref CX) = some b) (r : TryL K mg x l) : TryL K mg x ((c, b) :: l) := by
  obtain ⟨CX', hx', hr⟩ := r
  rw [hx] at hx'
  cases hx'
  refine ⟨CX, hx, fun d => ?_⟩
  show TryCF K mg (.ref CX) d (if d = c then some b else tabL l d)
  by_cases e : d = c
  · subst e; rw [if_pos rfl]; exact ⟨C, hc, PySem.W.exm_ref h1 h2 h3 h4⟩
  · rw [if_neg e]; exact hr d
section
variable {X : Cx} {W : WX} {own : List Nat}
theorem sx_tryL {l : List (Str × Bool)} {iv : Nat} {d : PyData} {vd : V} {g : Vars → Out} {body : List Stmt} {x v : Str} {e : Expr} {p0 p1 p10 pos' pos : Pos} (F : TryL X.K X.mg x l) (gX : Gl X x) (dX : (x == ("__debug__" : Str)) = false)
    (hN : X.N.Nodup) (hiv : X.N[iv]? = some v) (hlv : Loc X.env.scope v) (oiv : own.contains iv = false)
    (hs : X.stack = X.env :: X.outer) (hf : X.env.frame = some X.env.locals) (tk : Takes X W)
    (he : ∀ (a : Addr) (pn : List (Addr × Obj)), PE (X.suite a pn) e (tC vd)) (hr : ∀ H, Rp X.K H vd d)
    (hb : ∀ (W' : WX) (pn : List (Addr × Obj)) (xe : Value → Shared → Prop), Takes (X.tr pn xe) W' → PassesOwn (model X.prog X.w) X.A X.env xe → SsX (X.tr pn xe) W' own body g)
    (hsw : ∀ (a : Addr) (pn : List (Addr × Obj)), swapsWith e (some (.Name v p1)) p10.line (X.suite a pn).env = pure false := by intro a pn; rfl)
    (hfv : X.fn v = true ∨ X.env.scope.names.lookup v = some .local := by first | exact .inl rfl | exact .inr rfl | assumption) :
    SX X W own (.Try body [.ExceptHandler (some (.Name x p0)) none [.Assign [.Name v p1] e p10] pos'] [] [] pos) (sTryC (tabL l) iv d g) := by
  obtain ⟨CX, hx, hF⟩ := F
  exact sx_tryC hN hiv hlv oiv hs hf ⟨gX, dX, Or.inl hx⟩ tk he hr hF hb hsw hfv
end
end Pu
set_option Elab.async false
set_option linter.all false
set_option maxRecDepth 100000
set_option maxHeartbeats 4000000
namespace Pu
open PySem PySem.Spec PyProof.Rows L2
/-! ### tuple(reversed(list)) -/
def eTupRev (f : Vars → R PyData) (ρ : Vars) : R PyData := (f ρ).bind fun d => match d with
  | .list ds => .ok (.tuple ds.reverse)
  | _ => .bad
@[simp] theorem u_eTupRev (f : Vars → R PyData) (ρ : Vars) : eTupRev f ρ = (f ρ).bind fun d => match d with
  | .list ds => .ok (.tuple ds.reverse)
  | _ => .bad := rfl
section
variable {X : Cx} {W : WX}
theorem ex_tupRev {e : Expr} {f : Vars → R PyData} {p p2 pos pos2 : Pos} (hc : X.calm = true) (hg : Gl X "tuple") (hm : X.mg "tuple" = none) (hg2 : Gl X "reversed") (hm2 : X.mg "reversed" = none) (he : EX X W e f)
    (hs : starEach [e] X.env = (false, eval e X.env) :: starEach [] X.env := by rfl)
    (hs2 : starEach [.Call (.Name "reversed" p2) [e] [] pos2] X.env = (false, eval (.Call (.Name "reversed" p2) [e] [] pos2) X.env) :: starEach [] X.env := by rfl) :
    EX X W (.Call (.Name "tuple" p) [.Call (.Name "reversed" p2) [e] [] pos2] [] pos) (eTupRev f) := by
  obtain ⟨t, q, ht⟩ := he
  refine ⟨_, RT.pe_tupRev hc hg hm hg2 hm2 q hs hs2, fun σ H O ρ Q hO hr z => ht σ H O ρ _ hO hr ?_⟩
  unfold eTupRev at z
  cases c : f ρ with
  | bad => rw [c] at z; exact z
  | err c' => rw [c] at z; exact z
  | ok d =>
    rw [c, R.bind_ok] at z
    intro v H1 s1 r1
    cases r1 with
    | @lst a xs ds hx rs =>
      exact ⟨a, xs, rfl, seqL hide_sub hx, fun q hq => z _ _ (s1.trans (same_new hq)) (new_rep (hO.same s1) hq rs.reverse)⟩
    | _ => exact z.elim
/-! ### list(..) as a new list -/
def nListC (f : Vars → R (List PyData)) (ρ : Vars) : R (List PyData) := (f ρ).bind fun ds => match ds with
  | [.list xs] => .ok xs
  | [.tuple xs] => .ok xs
  | _ => .bad
@[simp] theorem u_nListC (f : Vars → R (List PyData)) (ρ : Vars) : nListC f ρ = (f ρ).bind fun ds => match ds with
  | [.list xs] => .ok xs
  | [.tuple xs] => .ok xs
  | _ => .bad := rfl
theorem nx_list {x : Str} {e : Expr} {es : List Expr} {f : Vars → R (List PyData)} {p pos : Pos} (hg : Gl X x) (hm : X.mg x = none) (hv : bootBuiltins x = some (.type "list")) (ha : AX X W (e :: es) f)
    (hn : x ≠ "__name__" := by decide) (hdb : (x == ("__debug__" : Str)) = false := by decide)
    (he : starEach (e :: es) X.env = (false, eval e X.env) :: starEach es X.env := by rfl) (hpl : (backTo pos (starEach es X.env)).any (·.1) = false := by rfl) : NX X W (.Call (.Name x p) (e :: es) [] pos) (nListC f) := by
  obtain ⟨t, q, ht⟩ := ha
  refine ⟨_, pe_callTy call_list_of hg hm hv q hn hdb he hpl, fun σ H O ρ Q hO hr z => ht σ H O ρ _ hO hr ?_⟩
  unfold nListC at z
  cases c : f ρ with
  | bad => rw [c] at z; exact z
  | err c' => rw [c] at z; exact z
  | ok ds =>
    rw [c, R.bind_ok] at z
    intro vs H1 s1 r1
    have fin : ∀ {b : Addr} {ys : List V} {xs : List PyData}, Rps X.K (hide O H1) ys xs → (NOut X W O σ H Q (.ok xs)) → ∀ l, H1 l = none → Q (.ref l) (upd H1 l (.lst ys)) := fun {b ys xs} rs z l hl => by
      refine z l ys _ (s1.trans (same_new hl)) (s1.free hl) upd_same (rs.mono fun a o h => ?_)
      obtain ⟨c1, h1⟩ := hide_some h
      have n := ne_of_none h1 hl
      exact hide_of (fun z => (List.mem_cons.mp z).elim n c1) (by rw [upd_ne n]; exact h1)
    match ds, z, r1 with
    | [.list xs], z, r1 =>
      obtain ⟨v, rfl, rv⟩ := rps_one r1
      cases rv with
      | @lst a ys _ hx rs => exact ⟨a, ys, rfl, .inl (seqL hide_sub hx), fin (b := a) rs z⟩
    | [.tuple xs], z, r1 =>
      obtain ⟨v, rfl, rv⟩ := rps_one r1
      cases rv with
      | @tup a ys _ hx rs => exact ⟨a, ys, rfl, .inr (seqT hide_sub hx), fin (b := a) rs z⟩
    | [], z, _ => exact z.elim
    | .none :: _, z, _ => exact z.elim
    | .bool _ :: _, z, _ => exact z.elim
    | .int _ :: _, z, _ => exact z.elim
    | .str _ :: _, z, _ => exact z.elim
    | .dict _ :: _, z, _ => exact z.elim
    | .list _ :: _ :: _, z, _ => exact z.elim
    | .tuple _ :: _ :: _, z, _ => exact z.elim
end
/-! ### several clauses: except X: v = constant -/
def goM : List ((Str → Option Bool) × Nat × PyData) → Str → Vars → Out
  | [], c, ρ => .err c ρ
  | (T, iv, d) :: r, c, ρ => match T c with
    | some true => .nx (ρ.set iv (some d))
    | some false => goM r c ρ
    | none => .bad
def sTryM (l : List ((Str → Option Bool) × Nat × PyData)) (g : Vars → Out) (ρ : Vars) : Out := match g ρ with
  | .err c ρ' => goM l c ρ'
  | o => o
@[simp] theorem u_sTryM (l : List ((Str → Option Bool) × Nat × PyData)) (g : Vars → Out) (ρ : Vars) : sTryM l g ρ = match g ρ with
  | .err c ρ' => goM l c ρ'
  | o => o := rfl
@[simp] theorem u_goM_n (c : Str) (ρ : Vars) : goM [] c ρ = .err c ρ := rfl
@[simp] theorem u_goM_c (T : Str → Option Bool) (iv : Nat) (d : PyData) (r : List ((Str → Option Bool) × Nat × PyData)) (c : Str) (ρ : Vars) : goM ((T, iv, d) :: r) c ρ = match T c with
    | some true => .nx (ρ.set iv (some d))
    | some false => goM r c ρ
    | none => .bad := rfl
section
variable {X : Cx} {W : WX} {own : List Nat}
inductive ClOk (X : Cx) (own : List Nat) : List ExceptHandler → List ((Str → Option Bool) × Nat × PyData) → Prop
  | nil : ClOk X own [] []
  | cons {l : List (Str × Bool)} {iv : Nat} {d : PyData} {vd : V} {x v : Str} {e : Expr} {p0 p1 p10 pos' : Pos} {hds : List ExceptHandler} {r : List ((Str → Option Bool) × Nat × PyData)} (F : TryL X.K X.mg x l) (gX : Gl X x) (dX : (x == ("__debug__" : Str)) = false)
      (hiv : X.N[iv]? = some v) (hlv : Loc X.env.scope v) (oiv : own.contains iv = false)
      (he : ∀ (a : Addr) (pn : List (Addr × Obj)), PE (X.suite a pn) e (tC vd)) (hr : ∀ H, Rp X.K H vd d)
      (hsw : ∀ (a : Addr) (pn : List (Addr × Obj)), swapsWith e (some (.Name v p1)) p10.line (X.suite a pn).env = pure false)
      (hfv : X.fn v = true ∨ X.env.scope.names.lookup v = some .local) (rest : ClOk X own hds r) :
      ClOk X own (.ExceptHandler (some (.Name x p0)) none [.Assign [.Name v p1] e p10] pos' :: hds) ((tabL l, iv, d) :: r)
theorem ClOk.hds (hN : X.N.Nodup) {hds : List ExceptHandler} {l : List ((Str → Option Bool) × Nat × PyData)} (h : ClOk X own hds l) : ∃ l', HdsOk X hds l' ∧
    ∀ (H0 : Hp) (O0 O' : List Addr) (D : Ends) (c : Str) (σ' : L2.St) (H' : Hp) (ρ' : Vars), Rel X.K own H0 O0 O' σ' H' ρ' → SOut X W own H0 O0 O' H' D (goM l c ρ') → wMany X.K W D l' (exV X.mg c) none σ' H' := by
  induction h with
  | nil => exact ⟨[], .nil, fun H0 O0 O' D c σ' H' ρ' r z => z σ' H' O' r (Same.refl _)⟩
  | @cons l iv d vd x v e p0 p1 p10 pos' hds r F gX dX hiv hlv oiv he hr hsw hfv rest ih =>
    obtain ⟨l', h1, h2⟩ := ih
    obtain ⟨CX, hx, hF⟩ := F
    have oiv' : iv ∉ own := fun z => by rw [List.contains_iff_mem.mpr z] at oiv; cases oiv
    refine ⟨((.ref CX), fun a cls d0 D σ H => D.nx (σ.set iv (some vd)) H) :: l', .cons ⟨gX, dX, Or.inl hx⟩ (fun a oe cls d0 pn hz hfl => ⟨fun pins s σ H D I h => ?_⟩) h1, fun H0 O0 O' D c σ' H' ρ' rr z => ?_⟩
    · have P := pss_one (ps_set (X := X.suite a ((a, oe) :: pn)) (pos' := p1) (pos := p10) hN hiv hlv (he a ((a, oe) :: pn)) (hsw a ((a, oe) :: pn)) hfv)
      exact P.run pins s _ H D I h
    · have hTF := hF c
      show ∃ b, PySem.W.exmOne X.K (exV X.mg c) (.ref CX) = some b ∧ _
      unfold goM at z
      cases hTc : tabL l c with
      | none => rw [hTc] at z; exact z.elim
      | some b =>
        rw [hTc] at hTF z
        obtain ⟨C, hmC, hx1⟩ := hTF
        have hcls : exV X.mg c = .ref C := by unfold exV; rw [hmC]; rfl
        refine ⟨b, by rw [hcls]; exact hx1, fun hb a ha => ?_, fun hb => ?_⟩
        · subst hb
          exact z _ H' O' (rr.set oiv' (hr _)) (Same.refl _)
        · subst hb
          exact h2 H0 O0 O' D c σ' H' ρ' rr z
theorem sx_tryM {l : List ((Str → Option Bool) × Nat × PyData)} {g : Vars → Out} {body : List Stmt} {h₀ : ExceptHandler} {hds : List ExceptHandler} {pos : Pos}
    (hN : X.N.Nodup) (hs : X.stack = X.env :: X.outer) (hf : X.env.frame = some X.env.locals) (tk : Takes X W)
    (hh : ClOk X own (h₀ :: hds) l)
    (hb : ∀ (W' : WX) (pn : List (Addr × Obj)) (xe : Value → Shared → Prop), Takes (X.tr pn xe) W' → PassesOwn (model X.prog X.w) X.A X.env xe → SsX (X.tr pn xe) W' own body g) :
    SX X W own (.Try body (h₀ :: hds) [] [] pos) (sTryM l g) := by
  obtain ⟨l', h1, h2⟩ := hh.hds (W := W) hN
  refine ⟨_, ps_try_many (Wout := W) (tb := fun W' => tS X W' own g) hs hf tk (fun W' pn xe tk' px => (hb W' pn xe tk' px).pss) h1, fun σ H ρ D H0 O0 O r z => ?_⟩
  refine ⟨H0, O0, O, ρ, r, ?_⟩
  unfold sTryM at z
  cases e : g ρ with
  | nx ρ' => rw [e] at z; exact z
  | rt d => rw [e] at z; exact z
  | bk ρ' => rw [e] at z; exact z
  | ct ρ' => rw [e] at z; exact z
  | bad => rw [e] at z; exact z
  | err c ρ' =>
    rw [e] at z
    intro σ' H' O' r' s'
    exact h2 H0 O0 O' D c σ' H' ρ' r' (SOut.from z s')
end
/-! ### except X as e: v = what is said of e -/
/-- what is known of isinstance(e, Y), e of the class c -/
def KitL (K : PySem.W.Frag) (mg : Str → Option Value) (cY : Value) (l : List (Str × Bool)) : Prop := ∀ c b, tabL l c = some b → ∃ C, mg c = some (.ref C) ∧ ExcC K C ∧ PySem.W.kitOne K (.ref C) cY = some b
/-- a clause's expression, e the exception, of the class c, in the slot ie -/
def EXH (X : Cx) (ie : Nat) (c : Str) (e : Expr) (f : Vars → R PyData) : Prop := ∀ (a : Addr) (oe : Obj) (pn : List (Addr × Obj)) (C : Addr), X.mg c = some (.ref C) → Zc (.ref C) none oe → (∃ vs, oe.data = .fields vs) →
  ∃ t, PE (X.suite a ((a, oe) :: pn)) e t ∧ ∀ σ H O ρ (Q : VK), σ[ie]? = some (some (.ref a)) → Stands O H → VRel X.K (hide O H) σ ρ → EOut X W0 O σ H Q (f ρ) → t σ H Q
def AXH (X : Cx) (ie : Nat) (c : Str) (es : List Expr) (f : Vars → R (List PyData)) : Prop := ∀ (a : Addr) (oe : Obj) (pn : List (Addr × Obj)) (C : Addr), X.mg c = some (.ref C) → Zc (.ref C) none oe → (∃ vs, oe.data = .fields vs) →
  ∃ t, PA (X.suite a ((a, oe) :: pn)) es t ∧ ∀ σ H O ρ (Q : List V → Hp → Prop), σ[ie]? = some (some (.ref a)) → Stands O H → VRel X.K (hide O H) σ ρ → AOut X W0 O σ H Q (f ρ) → t σ H Q
def eKit (T : Str → Option Bool) (c : Str) (_ : Vars) : R PyData := match T c with
  | some b => .ok (.bool b)
  | none => .bad
section
variable {X : Cx} {ie : Nat} {c : Str}
theorem exh_ex {e : Expr} {f : Vars → R PyData} (h : ∀ (a : Addr) (pn : List (Addr × Obj)), EX (X.suite a pn) W0 e f) : EXH X ie c e f := fun a oe pn C _ _ _ => by
  obtain ⟨t, p, ht⟩ := h a ((a, oe) :: pn)
  refine ⟨t, p, fun σ H O ρ Q _ hO hr z => ht σ H O ρ Q hO hr ?_⟩
  cases q : f ρ with
  | ok d => rw [q] at z; exact z
  | err _ => rw [q] at z; exact fun H' s => z H' s
  | bad => rw [q] at z; exact z
theorem exh_isi {l : List (Str × Bool)} {n y : Str} {vY : V} {cY : Value} {p6 p7 p8 p9 : Pos} (F : KitL X.K X.mg cY l) (hN : X.N[ie]? = some n)
    (gS : Gl X "isinstance") (mS : X.mg "isinstance" = none)
    (hY : ∀ (a : Addr) (pn : List (Addr × Obj)), PE (X.suite a pn) (.Name y p9) (tC vY)) (hYv : ∀ u, RelV vY u → u = cY)
    (hv : Vis X.env.scope n := by first | exact Or.inl rfl | exact Or.inr (Or.inl rfl) | exact Or.inr (Or.inr rfl)) (hdn : (n == ("__debug__" : Str)) = false := by decide) (hcd : (n == ("__classdict__" : Str)) = false := by decide)
    (he1 : starEach [.Name n p8, .Name y p9] X.env = (false, eval (.Name n p8) X.env) :: starEach [.Name y p9] X.env := by rfl) (he2 : starEach [.Name y p9] X.env = (false, eval (.Name y p9) X.env) :: starEach [] X.env := by rfl)
    (hp1 : (backTo p7 (starEach [.Name y p9] X.env)).any (·.1) = false := by rfl) :
    EXH X ie c (.Call (.Name "isinstance" p6) [.Name n p8, .Name y p9] [] p7) (eKit (tabL l) c) := fun a oe pn C hC hz hfl => by
  cases hT : tabL l c with
  | none =>
    refine ⟨fun _ _ _ => False, ⟨fun _ _ _ _ _ _ h => h.elim⟩, fun σ H O ρ Q _ _ _ z => ?_⟩
    unfold eKit at z
    rw [hT] at z
    exact z
  | some b =>
    obtain ⟨C', hC', hxc, hk⟩ := F c b hT
    rw [hC] at hC'
    cases hC'
    refine ⟨_, pe_callB (X := X.suite a ((a, oe) :: pn)) (call_isE hxc hz hfl) gS mS (by decide +kernel) (pa_cons (pe_var hN hv hdn hcd) (pa_cons (hY a ((a, oe) :: pn)) pa_nil he2) he1) (by decide) (by decide) he1 hp1, fun σ H O ρ Q hs hO hr z => ?_⟩
    unfold eKit at z
    rw [hT] at z
    refine ⟨.ref a, hs, vY, cY, b, rfl, hYv, hk, ?_⟩
    exact z _ H (Same.refl H) (.bl b)
theorem exh_op {op : Operator} {r : R2} {g : PyData → PyData → Option PyData} {a b : Expr} {f h : Vars → R PyData} {pos : Pos} (hr : ∀ (a : Addr) (pn : List (Addr × Obj)), OpR (X.suite a pn) (binaryOp op) r) (ho : Op2 X.K r g) (ha : EXH X ie c a f) (hb : EXH X ie c b h) : EXH X ie c (.BinOp a op b pos) (eOp g f h) := fun ad oe pn C hC hz hfl => by
  obtain ⟨ta, p, hta⟩ := ha ad oe pn C hC hz hfl
  obtain ⟨tb, q, htb⟩ := hb ad oe pn C hC hz hfl
  refine ⟨_, pe_op (hr ad ((ad, oe) :: pn)) p q, fun σ H O ρ Q hs hO hv z => ?_⟩
  refine hta σ H O ρ _ hs hO hv (EOut.then (g := fun d => (h ρ).bind fun e => R.of (g d e)) EOut.b EOut.e z fun d v H1 s1 r1 z1 => ?_)
  refine htb σ H1 O ρ _ hs (hO.same s1) (hv.mono (hide_same s1)) (EOut.then (g := fun e => R.of (g d e)) EOut.b EOut.e (z1.from s1) fun e v2 H2 s2 r2 z2 => ?_)
  cases q : g d e with
  | none => rw [q] at z2; exact z2.elim
  | some w =>
    rw [q] at z2
    exact ho H2 O v v2 d e w Q ((hO.same s1).same s2) (r1.mono (hide_same s2)) r2 q fun v' H' s' r' => z2 v' H' (s2.trans s') r'
theorem axh_nil : AXH X ie c [] aNil := fun a oe pn C _ _ _ => ⟨_, pa_nil, fun σ H O ρ Q _ _ _ q => q [] H (Same.refl H) .nil⟩
theorem axh_cons {e : Expr} {es : List Expr} {f : Vars → R PyData} {g : Vars → R (List PyData)} (h : EXH X ie c e f) (k : AXH X ie c es g) (hs : starEach (e :: es) X.env = (false, eval e X.env) :: starEach es X.env := by rfl) : AXH X ie c (e :: es) (aCons f g) := fun a oe pn C hC hz hfl => by
  obtain ⟨t, p, ht⟩ := h a oe pn C hC hz hfl
  obtain ⟨u, q, hu⟩ := k a oe pn C hC hz hfl
  refine ⟨_, pa_cons p q hs, fun σ H O ρ Q hs hO hr z => ht σ H O ρ _ hs hO hr (EOut.then (g := fun d => (g ρ).bind fun ds => .ok (d :: ds)) AOut.b AOut.e z fun d v H1 s1 r1 z1 => ?_)⟩
  refine hu σ H1 O ρ _ hs (hO.same s1) (hr.mono (hide_same s1)) (AOut.then (g := fun ds => .ok (d :: ds)) AOut.b AOut.e (z1.from s1) fun ds vs H2 s2 r2 z2 => ?_)
  exact z2 (v :: vs) H2 s2 (.cons (r1.mono (hide_same s2)) r2)
theorem exh_lst {es : List Expr} {f : Vars → R (List PyData)} {pos : Pos} (h : AXH X ie c es f) : EXH X ie c (.List es pos) (eLst f) := fun a oe pn C hC hz hfl => by
  obtain ⟨t, p, ht⟩ := h a oe pn C hC hz hfl
  refine ⟨_, pe_lst p, fun σ H O ρ Q hs hO hr z => ht σ H O ρ _ hs hO hr (AOut.then EOut.b EOut.e z fun ds vs H1 s1 r1 z1 => ?_)⟩
  by_cases c : ds.length ≤ sizeLine
  · rw [if_pos c] at z1
    exact ⟨by rw [r1.length]; exact c, fun p hp => z1 _ _ (s1.trans (same_new hp)) (new_repL (hO.same s1) hp r1)⟩
  · rw [if_neg c] at z1; exact z1.elim
theorem exh_int {e : Expr} {f : Vars → R (List PyData)} {p pos : Pos} (gI : Gl X "int") (mI : X.mg "int" = none) (ha : AXH X ie c [e] f) (he : starEach [e] X.env = (false, eval e X.env) :: starEach [] X.env := by rfl) (hpl : (backTo pos (starEach [] X.env)).any (·.1) = false := by rfl) : EXH X ie c (.Call (.Name "int" p) [e] [] pos) (eCall gIntC f) := fun a oe pn C hC hz hfl => by
  obtain ⟨t, q, ht⟩ := ha a oe pn C hC hz hfl
  refine ⟨_, pe_callTy (X := X.suite a ((a, oe) :: pn)) call_int1 gI mI (by decide +kernel) q (by decide) (by decide) he hpl, fun σ H O ρ Q hs hO hr z => ht σ H O ρ _ hs hO hr (AOut.then (g := fun ds => R.of (gIntC ds)) EOut.b EOut.e z fun ds vs H1 s1 r1 z1 => ?_)⟩
  cases q : gIntC ds with
  | none => rw [q] at z1; exact z1.elim
  | some w =>
    rw [q] at z1
    exact calld_int H1 O vs ds w Q (hO.same s1) r1 q fun v' H' s' r' => z1 v' H' (s1.trans s') r'
end
def sTryE (T : Str → Option Bool) (own : List Nat) (ie iv : Nat) (f : Str → Vars → R PyData) (g : Vars → Out) (ρ : Vars) : Out := match g ρ with
  | .err c ρ' => match T c with
    | some true => match f c (mask own (ρ'.set ie none)) with
      | .ok d => .nx (((ρ'.set ie none).set iv (some d)).set ie none)
      | _ => .bad
    | some false => .err c ρ'
    | none => .bad
  | o => o
@[simp] theorem u_sTryE (T : Str → Option Bool) (own : List Nat) (ie iv : Nat) (f : Str → Vars → R PyData) (g : Vars → Out) (ρ : Vars) : sTryE T own ie iv f g ρ = match g ρ with
  | .err c ρ' => match T c with
    | some true => match f c (mask own (ρ'.set ie none)) with
      | .ok d => .nx (((ρ'.set ie none).set iv (some d)).set ie none)
      | _ => .bad
    | some false => .err c ρ'
    | none => .bad
  | o => o := rfl
@[simp] theorem u_eKit (T : Str → Option Bool) (c : Str) (ρ : Vars) : eKit T c ρ = match T c with
  | some b => .ok (.bool b)
  | none => .bad := rfl
section
variable {X : Cx} {W : WX} {own : List Nat}
theorem sx_tryE {l : List (Str × Bool)} {ie iv : Nat} {f : Str → Vars → R PyData} {g : Vars → Out} {body : List Stmt} {x n v : Str} {e : Expr} {p0 p1 p10 pos' pos : Pos} (F : TryL X.K X.mg x l) (gX : Gl X x) (dX : (x == ("__debug__" : Str)) = false)
    (hN : X.N.Nodup) (hie : X.N[ie]? = some n) (hiv : X.N[iv]? = some v) (hln : X.env.kindOf n = some .local) (hlv : Loc X.env.scope v) (oie : own.contains ie = false) (oiv : own.contains iv = false)
    (hs : X.stack = X.env :: X.outer) (hf : X.env.frame = some X.env.locals) (tk : Takes X W)
    (he : ∀ c, EXH X ie c e (f c))
    (hb : ∀ (W' : WX) (pn : List (Addr × Obj)) (xe : Value → Shared → Prop), Takes (X.tr pn xe) W' → PassesOwn (model X.prog X.w) X.A X.env xe → SsX (X.tr pn xe) W' own body g)
    (hsw : ∀ (a : Addr) (pn : List (Addr × Obj)), swapsWith e (some (.Name v p1)) p10.line (X.suite a pn).env = pure false := by intro a pn; rfl)
    (hfv : X.fn v = true ∨ X.env.scope.names.lookup v = some .local := by first | exact .inl rfl | exact .inr rfl | assumption) :
    SX X W own (.Try body [.ExceptHandler (some (.Name x p0)) (some n) [.Assign [.Name v p1] e p10] pos'] [] [] pos) (sTryE (tabL l) own ie iv f g) := by
  have oie' : ie ∉ own := fun z => by rw [List.contains_iff_mem.mpr z] at oie; cases oie
  have oiv' : iv ∉ own := fun z => by rw [List.contains_iff_mem.mpr z] at oiv; cases oiv
  have hlt : ie < X.N.length := (List.getElem?_eq_some_iff.mp hie).1
  obtain ⟨CX, hx, hF⟩ := F
  refine ⟨_, ps_try_as (c := .ref CX) (i := ie) (Wout := W) (tb := fun W' => tS X W' own g) (ts := fun a cls d0 D σ H => ∃ (c : Str) (C : Addr) (O : List Addr) (ρ2 : Vars) (d : PyData), X.mg c = some (.ref C) ∧ cls = .ref C ∧ d0 = none ∧ (∃ σ0 : L2.St, σ = σ0.set ie (some (.ref a))) ∧ Stands O H ∧ VRel X.K (hide O H) σ ρ2 ∧ f c ρ2 = .ok d ∧ ∀ w H', Same H H' → Rp X.K (hide O H') w d → D.nx (σ.set iv (some w)) H')
    hs hf hN hie hln ⟨gX, dX, Or.inl hx⟩ tk (fun W' pn xe tk' px => (hb W' pn xe tk' px).pss) (fun a oe cls d0 pn hz hfl => ⟨fun pins s σ H D I h => ?_⟩), fun σ H ρ D H0 O0 O r z => ?_⟩
  · obtain ⟨c, C, O, ρ2, d, hC, rfl, rfl, ⟨σ0, hσ⟩, hO, hv2, hd, hD⟩ := h
    have hie2 : σ[ie]? = some (some (.ref a)) := by
      have hl0 : ie < σ0.length := by have := I.len; rw [hσ] at this; simp at this; show _ < _; omega
      rw [hσ, List.getElem?_set_self hl0]
    obtain ⟨t, p, ht⟩ := he c a oe pn C hC hz hfl
    have P := pss_one (ps_set (X := X.suite a ((a, oe) :: pn)) (pos' := p1) (pos := p10) hN hiv hlv p (hsw a ((a, oe) :: pn)) hfv)
    refine P.run pins s _ H D I ?_
    refine ht σ H O ρ2 _ hie2 hO hv2 ?_
    rw [hd]
    exact fun w H' s' r' => hD w H' s' r'
  · refine ⟨H0, O0, O, ρ, r, ?_⟩
    unfold sTryE at z
    cases e1 : g ρ with
    | nx ρ' => rw [e1] at z; exact z
    | rt d => rw [e1] at z; exact z
    | bk ρ' => rw [e1] at z; exact z
    | ct ρ' => rw [e1] at z; exact z
    | bad => rw [e1] at z; exact z
    | err c ρ' =>
      rw [e1] at z
      dsimp only at z
      intro σ' H' O' r' s'
      have hTF := hF c
      cases hTc : tabL l c with
      | none => rw [hTc] at z; exact z.elim
      | some b =>
        rw [hTc] at hTF
        obtain ⟨C, hmC, hx1⟩ := hTF
        have hcls : exV X.mg c = .ref C := by unfold exV; rw [hmC]; rfl
        cases b with
        | false =>
          refine ⟨false, by rw [hcls]; exact hx1, ⟨fun q => absurd q Bool.false_ne_true, fun _ => ?_⟩⟩
          rw [hTc] at z
          exact z σ' H' O' r' s'
        | true =>
          refine ⟨true, by rw [hcls]; exact hx1, ⟨fun _ a ha => ?_, fun q => absurd q.symm Bool.false_ne_true⟩⟩
          rw [hTc] at z
          dsimp only at z
          cases hd : f c (mask own (ρ'.set ie none)) with
          | bad => rw [hd] at z; exact z.elim
          | err _ => rw [hd] at z; exact z.elim
          | ok d =>
            rw [hd] at z
            have rn := r'.none (x := some (.ref a)) oie'
            refine ⟨c, C, O', mask own (ρ'.set ie none), d, hmC, hcls, rfl, ⟨σ', rfl⟩, rn.stands, rn.vrelM, hd, fun w H'' s'' rw_ => ?_⟩
            exact z _ H'' O' (((rn.step s'').set oiv' rw_).none oie') (s'.trans (hide_same s''))
end
/-! the facts -/
theorem kitL_nil {K : PySem.W.Frag} {mg : Str → Option Value} {cY : Value} : KitL K mg cY [] := fun c b h => by cases h
theorem kitL_cons {K : PySem.W.Frag} {mg : Str → Option Value} {cY : Value} {c : Str} {b : Bool} {l : List (Str × Bool)} {C : Addr} (hc : mg c = some (.ref C)) (E : ExcC K C) (k : PySem.W.kitOne K (.ref C) cY = some b) (r : KitL K mg cY l) : KitL K mg cY ((c, b) :: l) := fun d b' h => by
  unfold tabL at h
  by_cases e : d = c
  · subst e; rw [if_pos rfl] at h; cases h; exact ⟨C, hc, E, k⟩
  · rw [if_neg e] at h; exact r d b' h
def KitY (K : PySem.W.Frag) (mg : Str → Option Value) (y : Str) (l : List (Str × Bool)) : Prop := ∃ CY, mg y = some (.ref CY) ∧ KitL K mg (.ref CY) l
abbrev KitB (K : PySem.W.Frag) (mg : Str → Option Value) (l : List (Str × Bool)) : Prop := KitL K mg (.type "ValueError") l
theorem kitY_nil {K : PySem.W.Frag} {mg : Str → Option Value} {y : Str} {CY : Addr} (h : mg y = some (.ref CY)) : KitY K mg y [] := ⟨CY, h, kitL_nil⟩
theorem kitY_cons {K : PySem.W.Frag} {mg : Str → Option Value} {c y : Str} {l : List (Str × Bool)} {C CY : Addr} (hc : mg c = some (.ref C)) (hy : mg y = some (.ref CY)) (E : ExcC K C) (h5 : PySem.W.hasDictIn K CY = true) (h6 : PySem.W.typeIn K (.ref CY) = some (.type "type")) (h7 : PySem.W.subIn K (.ref C) (.ref CY) = some true) (r : KitY K mg y l) : KitY K mg y ((c, true) :: l) := by
  obtain ⟨CY', h', r'⟩ := r
  rw [hy] at h'
  cases h'
  exact ⟨CY, hy, kitL_cons hc E (kitOne_ref h5 h6 h7) r'⟩
section
variable {X : Cx} {ie : Nat} {c : Str}
theorem exh_isB {l : List (Str × Bool)} {n : Str} {p6 p7 p8 p9 : Pos} (F : KitB X.K X.mg l) (hN : X.N[ie]? = some n)
    (gS : Gl X "isinstance") (mS : X.mg "isinstance" = none) (gV : Gl X "ValueError") (mV : X.mg "ValueError" = none)
    (hv : Vis X.env.scope n := by first | exact Or.inl rfl | exact Or.inr (Or.inl rfl) | exact Or.inr (Or.inr rfl)) (hdn : (n == ("__debug__" : Str)) = false := by decide) (hcd : (n == ("__classdict__" : Str)) = false := by decide)
    (he1 : starEach [.Name n p8, .Name "ValueError" p9] X.env = (false, eval (.Name n p8) X.env) :: starEach [.Name "ValueError" p9] X.env := by rfl) (he2 : starEach [.Name "ValueError" p9] X.env = (false, eval (.Name "ValueError" p9) X.env) :: starEach [] X.env := by rfl)
    (hp1 : (backTo p7 (starEach [.Name "ValueError" p9] X.env)).any (·.1) = false := by rfl) :
    EXH X ie c (.Call (.Name "isinstance" p6) [.Name n p8, .Name "ValueError" p9] [] p7) (eKit (tabL l) c) :=
  exh_isi (vY := .ty "ValueError") F hN gS mS (fun a pn => pe_bltn (v := .ty "ValueError") gV mV (by decide +kernel) rfl (by decide) (by decide)) (fun u r => r) hv hdn hcd he1 he2 hp1
theorem exh_isC {l : List (Str × Bool)} {n y : Str} {p6 p7 p8 p9 : Pos} (F : KitY X.K X.mg y l) (hN : X.N[ie]? = some n)
    (gS : Gl X "isinstance") (mS : X.mg "isinstance" = none) (gY : Gl X y) (dY : (y == ("__debug__" : Str)) = false)
    (hv : Vis X.env.scope n := by first | exact Or.inl rfl | exact Or.inr (Or.inl rfl) | exact Or.inr (Or.inr rfl)) (hdn : (n == ("__debug__" : Str)) = false := by decide) (hcd : (n == ("__classdict__" : Str)) = false := by decide)
    (he1 : starEach [.Name n p8, .Name y p9] X.env = (false, eval (.Name n p8) X.env) :: starEach [.Name y p9] X.env := by rfl) (he2 : starEach [.Name y p9] X.env = (false, eval (.Name y p9) X.env) :: starEach [] X.env := by rfl)
    (hp1 : (backTo p7 (starEach [.Name y p9] X.env)).any (·.1) = false := by rfl) :
    EXH X ie c (.Call (.Name "isinstance" p6) [.Name n p8, .Name y p9] [] p7) (eKit (tabL l) c) := by
  obtain ⟨CY, hy, hF⟩ := F
  exact exh_isi (vY := .ref CY) hF hN gS mS (fun a pn => pe_glob (v := .ref CY) gY hy rfl dY) (fun u r => r) hv hdn hcd he1 he2 hp1
end
/-! ### divmod by a great divisor -/
theorem call_divmodW {X : Cx} : CallR X (.builtin "divmod") (fun xs H Q => ∃ i j, xs = [.int i, .int j] ∧ CDivW i j ∧ ∀ p, H p = none → Q (.ref p) (upd H p (.tup [.int (i / j), .int (i % j)]))) := by
  rintro pins s σ H xs us Q I r ⟨i, j, rfl, ⟨h1, h2⟩, q⟩
  obtain ⟨u, v, rfl, ⟨t, rfl⟩, ⟨t', rfl⟩⟩ := vals2 r
  have e1 : i.fdiv j = i / j := Int.fdiv_eq_ediv_of_nonneg i (by omega)
  have e2 : i.fmod j = i % j := Int.fmod_eq_emod_of_nonneg i (by omega)
  refine divmod_int (by omega) ?_ (.inl (PyProof.noPylong_of_log2 h2))
  rw [e1, e2]
  have free := I.hok.fresh (Nat.le_refl s.heap.objs.size)
  refine ⟨.ref s.heap.objs.size, _, I.laid (fun b o e => Heap.get?_push_of_some _ e) (Nat.le_refl _) ?_, rfl, q _ free⟩
  refine ⟨by simp only [List.length_cons, List.length_nil]; rw [sizeLine_eq]; decide, [.int (i / j) s.toks, .int (i % j) (s.toks + 1)], ?_, ?_⟩
  · exact .cons ⟨_, rfl⟩ (.cons ⟨_, rfl⟩ .nil)
  · exact ⟨_, Heap.get?_push_size s.heap rfl, rfl, 0, rfl⟩
def gDivmodW : List PyData → Option PyData
  | [.int i, .int j] => if cDiv i j then some (.tuple [.int (i / j), .int (i % j)]) else none
  | _ => none
theorem calld_divmodW {K : PySem.W.Frag} : CallD K (fun xs H Q => ∃ i j, xs = [.int i, .int j] ∧ CDivW i j ∧ ∀ p, H p = none → Q (.ref p) (upd H p (.tup [.int (i / j), .int (i % j)]))) gDivmodW := by
  intro H O xs ds z Q hO r h q
  unfold gDivmodW at h
  split at h
  · rename_i i j
    by_cases c : cDiv i j = true
    · rw [if_pos c] at h; cases h
      unfold cDiv at c
      rw [Bool.and_eq_true] at c
      obtain ⟨v, w, rfl, rv, rw'⟩ := rps_two r
      cases rv
      cases rw'
      exact ⟨_, _, rfl, ⟨of_decide_eq_true c.1, of_decide_eq_true c.2⟩, fun p hp => q _ _ (same_new hp) (new_rep hO hp (.cons (.int _) (.cons (.int _) .nil)))⟩
    · rw [if_neg c] at h; cases h
  · cases h
/-! ### a great base to a power -/
def CPowW (i j : Int) : Prop := 0 ≤ j ∧ (i.natAbs.log2 + 1) * j.toNat ≤ 1000000
theorem op_powW {X : Cx} : OpR X (binaryOp .Pow) (rI CPowW fun i j => .int (i ^ j.toNat)) := opI fun i j _ _ _ _ _ hc q => by
  refine pow_int hc.1 ?_ q
  have h1 : Builtin.Int.intBits i ≤ i.natAbs.log2 + 1 := by
    unfold Builtin.Int.intBits
    split <;> omega
  have h2 : Builtin.Int.intBits i * j.toNat ≤ 1000000 := Nat.le_trans (Nat.mul_le_mul_right _ h1) hc.2
  have h3 : (Builtin.Int.intBits i : Int) * j = ((Builtin.Int.intBits i * j.toNat : Nat) : Int) := by
    rw [Int.natCast_mul, Int.toNat_of_nonneg hc.1]
  rw [h3]
  exact Int.le_trans (Int.ofNat_le.mpr h2) (by decide)
def cPowW (i j : Int) : Bool := decide (0 ≤ j) && decide ((i.natAbs.log2 + 1) * j.toNat ≤ 1000000)
abbrev gPowW := gInt cPowW fun i j => .int (i ^ j.toNat)
theorem op2_powW {K : PySem.W.Frag} : Op2 K (rI CPowW fun i j => .int (i ^ j.toNat)) gPowW := op2_int (fun _ _ h => by
  unfold cPowW at h; rw [Bool.and_eq_true] at h; exact ⟨of_decide_eq_true h.1, of_decide_eq_true h.2⟩) fun _ _ _ => .int _
/-! ### a great number times another -/
def CMulX (i j : Int) : Prop := i.natAbs.log2 + j.natAbs.log2 < 134000000
theorem CMulX.ok {i j : Int} (h : CMulX i j) : IntMulOk i j := by
  have b : ∀ x : Int, Builtin.Int.intBits x ≤ x.natAbs.log2 + 1 := fun x => by
    unfold Builtin.Int.intBits
    split <;> omega
  have h1 := b i
  have h2 := b j
  have h3 : i.natAbs.log2 + j.natAbs.log2 < 134000000 := h
  intro z
  have z2 := (Bool.and_eq_true _ _ ▸ z).2
  unfold Builtin.Int.intTooBig at z2
  have z3 := of_decide_eq_true z2
  rw [show bitsLine = 134217728 by decide] at z3
  omega
theorem op_mulX {X : Cx} : OpR X (binaryOp .Mult) (rI CMulX fun i j => .int (i * j)) := opI fun _ _ _ _ _ _ _ hc q => mul_int q hc.ok
def cMulX (i j : Int) : Bool := decide (i.natAbs.log2 + j.natAbs.log2 < 134000000)
abbrev gMulX := gInt cMulX fun i j => .int (i * j)
theorem op2_mulX {K : PySem.W.Frag} : Op2 K (rI CMulX fun i j => .int (i * j)) gMulX := op2_int (fun i j h => (of_decide_eq_true (show decide (i.natAbs.log2 + j.natAbs.log2 < 134000000) = true from h) : i.natAbs.log2 + j.natAbs.log2 < 134000000)) fun _ _ _ => .int _
/-! ### the law, the script's bits at hand -/
def spLawB (K : PySem.W.Frag) : Sp := fun vs H Q _ => ∃ (a : Addr) (ns : List Int), vs = [.ref a] ∧ SqL K H a (ns.map V.int) ∧ ns.length ≤ 63 ∧ (∀ z ∈ ns, z.natAbs.log2 ≤ 1048576) ∧ ∀ H', Q (.bl true) H'
theorem law_impB {K : PySem.W.Frag} {mg : Str → Option Value} {f : List PyData → R PyData} (hl : ∀ ns : List Int, ns.length ≤ 63 → (∀ z ∈ ns, z.natAbs.log2 ≤ 1048576) → f [.list (ns.map .int)] = .ok (.bool true)) : ∀ vs H Q E, spLawB K vs H Q E → spD K mg 1 f vs H Q E := fun vs H Q E h => by
  obtain ⟨a, ns, rfl, hS, h63, hb, q⟩ := h
  refine ⟨rfl, [], [.list (ns.map .int)], fun a z => absurd z (by simp), .cons (.lst (by rw [hide_nil]; exact hS) (Rps.ofInts ns)) .nil, ?_⟩
  rw [hl ns h63 hb]
  intro v H' s r
  cases r
  exact q H'
theorem walkLB {l : PySem.W.OpenLaw} {q : Program} {loose : List Str} {XP : (Str → Option Value) → Heap → Prop} {YP : World → Heap → Prop} {d : DefRec} {K : Params → PySem.W.Frag} {k : Nat} {x : Str} (hn : l.most = some 63) (hdf : d.params.defaults = []) (hr : Room k callerA)
    (hY : ∀ (w : World) (h : Heap), YP w h → (K w.params).In h)
    (F : ∀ (w : World) (mg : Str → Option Value) (fa : Addr) (h : Heap), (K w.params).In h → h.Ns mainGlobals mg → mg d.name = some (.ref fa) →
      ∃ fd : FuncData, (∀ (s : Shared) (u : Value), BindsTo s fd ⟨[u], []⟩ [(x, u)]) ∧ ∀ base : Heap, (K w.params).In base → base.Ns mainGlobals mg → FnOk l.prog w (K w.params) mg base (L2.CX l.prog w) k fa fd [x] (spLawB (K w.params))) :
    PySem.W.WalkO q loose XP YP l.row.toRowW d [] (fun f vs => PySem.call f vs) :=
  L2.walk_ofB (n := 63) (k := k) (x := x) (CX := fun w => L2.CX l.prog w) (sp := fun w => spLawB (K w.params)) hn (by decide) hdf hr hY F (fun _ _ a ns hl hb _ hS => ⟨a, ns, rfl, hS, hl, (fun z hz => by
    have h1 := hb z hz
    unfold Builtin.Int.intBits at h1
    by_cases c : (z == 0) = true
    · have : z = 0 := by simpa using c
      subst this; decide
    · rw [if_neg c] at h1; omega), fun _ => rfl⟩) fun _ _ _ _ _ z => by
    obtain ⟨_, _, _, _, _, _, _, _, _, _, _, _, z⟩ := z
    exact z
/-! ### defs with two defaults -/
section
variable {P : Program} {w : World} {K : PySem.W.Frag} {mg : Str → Option Value} {base : Heap}
abbrev Fun2 (K : PySem.W.Frag) (x : Str) (st : Stmt) (i j : Int) (f : Addr) (fd : FuncData) : Prop := FunD K x x (defArgs st) (defBody st) (defScope st) [V.int i, V.int j] [] f fd
theorem fn_dataD {x : Str} {st : Stmt} {f : Addr} {fd : FuncData} {N ps : List Str} {k n : Nat} {dvs : List V} {own : List Nat} {g : Vars → Out} (F : FunD K x x (defArgs st) (defBody st) (defScope st) dvs [] f fd) (S : FnScope N ps (defScope st)) (hn : ps.length = n) (ho : (own.all fun i => decide (n ≤ i)) = true)
    (hb : ∀ (cdv : Value) (A : Around) (outer : List Env) (s : Shared) (H : Hp) (E : XK), Room k (A.deeper (envOfC x (defScope st) s.heap.objs.size f cdv)) → BX (cxOf (L2.CX P w) P w K mg base N x (defScope st) f cdv A outer s H E) E own (defBody st) g) :
    FnOk P w K mg base (L2.CX P w) (k + 1) f fd ps (spD K mg n (fnD N.length g)) := by
  refine F.ok S (fun vs H Q E h => ?_) fun cdv A outer s H vs Q E hr h => ?_
  · rw [h.1]; exact hn.symm
  obtain ⟨hl, O, ds, hO, r, z⟩ := h
  obtain ⟨t, p, ht⟩ := hb cdv A outer s H E hr
  have hpl : ps.length ≤ N.length := by have := congrArg List.length S.pre; rw [List.length_take] at this; omega
  have hdl : ds.length = n := by rw [← r.length]; exact hl
  refine ⟨t, p, ht _ H _ Q H O O (start_rel hO r (by omega) fun i hi => by have := of_decide_eq_true (List.all_eq_true.mp ho i hi); omega) ?_⟩
  unfold fnD at z
  cases e : g (ds.map some ++ List.replicate (N.length - ds.length) none) with
  | nx ρ' => rw [e] at z; exact fun H' s' => z .non H' s' .non
  | rt d => rw [e] at z; exact z
  | err c ρ' => rw [e] at z; exact z
  | bk _ => rw [e] at z; exact z.elim
  | ct _ => rw [e] at z; exact z.elim
  | bad => rw [e] at z; exact z.elim
/-- a call that leaves both defaults out -/
def CalY (P : Program) (w : World) (K : PySem.W.Frag) (mg : Str → Option Value) (base : Heap) (k : Nat) (x : Str) (n : Nat) (i j : Int) (f : List PyData → R PyData) : Prop :=
  ∃ (fa : Addr) (fd : FuncData) (ps : List Str) (ds : List Value), ps.length = n + 2 ∧ FnOk P w K mg base (L2.CX P w) k fa fd ps (spD K mg (n + 2) f) ∧ mg x = some (.ref fa) ∧ PySem.W.keepIn K (.ref fa) = true ∧ Binds K fd ps ds ∧ Vals [V.int i, V.int j] ds
section
variable {x : Str} {st : Stmt} {f : Addr} {fd : FuncData} {N ps : List Str} {k n : Nat} {i j : Int} {own : List Nat} {g : Vars → Out}
theorem cal_data2 (F : Fun2 K x st i j f fd) (hm : mg x = some (.ref f)) (hbn : Binds K fd ps []) (S : FnScope N ps (defScope st)) (hn : ps.length = n) (ho : (own.all fun i => decide (n ≤ i)) = true)
    (hb : ∀ (cdv : Value) (A : Around) (outer : List Env) (s : Shared) (H : Hp) (E : XK), Room k (A.deeper (envOfC x (defScope st) s.heap.objs.size f cdv)) → BX (cxOf (L2.CX P w) P w K mg base N x (defScope st) f cdv A outer s H E) E own (defBody st) g) :
    Cal P w K mg base (k + 1) x n (fnD N.length g) := ⟨f, fd, ps, hn, fn_dataD F S hn ho hb, hm, F.kp, hbn⟩
theorem calX_data2 (F : Fun2 K x st i j f fd) (hm : mg x = some (.ref f)) (hbn : ∃ ds, Vals [V.int j] ds ∧ Binds K fd ps ds) (S : FnScope N ps (defScope st)) (hn : ps.length = n + 1) (ho : (own.all fun i => decide (n + 1 ≤ i)) = true)
    (hb : ∀ (cdv : Value) (A : Around) (outer : List Env) (s : Shared) (H : Hp) (E : XK), Room k (A.deeper (envOfC x (defScope st) s.heap.objs.size f cdv)) → BX (cxOf (L2.CX P w) P w K mg base N x (defScope st) f cdv A outer s H E) E own (defBody st) g) :
    CalX P w K mg base (k + 1) x n j (fnD N.length g) := by
  obtain ⟨ds, h1, h2⟩ := hbn
  exact ⟨f, fd, ps, ds, hn, fn_dataD F S hn ho hb, hm, F.kp, h2, h1⟩
theorem calY_data2 (F : Fun2 K x st i j f fd) (hm : mg x = some (.ref f)) (hbn : ∃ ds, Vals [V.int i, V.int j] ds ∧ Binds K fd ps ds) (S : FnScope N ps (defScope st)) (hn : ps.length = n + 2) (ho : (own.all fun i => decide (n + 2 ≤ i)) = true)
    (hb : ∀ (cdv : Value) (A : Around) (outer : List Env) (s : Shared) (H : Hp) (E : XK), Room k (A.deeper (envOfC x (defScope st) s.heap.objs.size f cdv)) → BX (cxOf (L2.CX P w) P w K mg base N x (defScope st) f cdv A outer s H E) E own (defBody st) g) :
    CalY P w K mg base (k + 1) x n i j (fnD N.length g) := by
  obtain ⟨ds, h1, h2⟩ := hbn
  exact ⟨f, fd, ps, ds, hn, fn_dataD F S hn ho hb, hm, F.kp, h2, h1⟩
theorem no_bad {m : Nat} : ∀ vs H Q E, ¬ spD K mg m (fun _ => .bad) vs H Q E := fun vs H Q E h => by
  obtain ⟨_, _, _, _, _, z⟩ := h
  exact z
theorem cal_zero2 (F : Fun2 K x st i j f fd) (hm : mg x = some (.ref f)) (hbn : Binds K fd ps []) (hn : ps.length = n) : Cal P w K mg base 0 x n fun _ => .bad :=
  ⟨f, fd, ps, hn, ⟨fun vs H Q E h => absurd h (no_bad vs H Q E), fun A outer s H args us vs Q E _ _ _ _ h => absurd h (no_bad vs H Q E)⟩, hm, F.kp, hbn⟩
theorem calX_zero2 (F : Fun2 K x st i j f fd) (hm : mg x = some (.ref f)) (hbn : ∃ ds, Vals [V.int j] ds ∧ Binds K fd ps ds) (hn : ps.length = n + 1) : CalX P w K mg base 0 x n j fun _ => .bad := by
  obtain ⟨ds, h1, h2⟩ := hbn
  exact ⟨f, fd, ps, ds, hn, ⟨fun vs H Q E h => absurd h (no_bad vs H Q E), fun A outer s H args us vs Q E _ _ _ _ h => absurd h (no_bad vs H Q E)⟩, hm, F.kp, h2, h1⟩
theorem calY_zero2 (F : Fun2 K x st i j f fd) (hm : mg x = some (.ref f)) (hbn : ∃ ds, Vals [V.int i, V.int j] ds ∧ Binds K fd ps ds) (hn : ps.length = n + 2) : CalY P w K mg base 0 x n i j fun _ => .bad := by
  obtain ⟨ds, h1, h2⟩ := hbn
  exact ⟨f, fd, ps, ds, hn, ⟨fun vs H Q E h => absurd h (no_bad vs H Q E), fun A outer s H args us vs Q E _ _ _ _ h => absurd h (no_bad vs H Q E)⟩, hm, F.kp, h2, h1⟩
end
end
section
variable {X : Cx} {W : WX}
theorem ex_fnY {k n : Nat} {i j : Int} {x : Str} {g : List PyData → R PyData} {e : Expr} {es : List Expr} {f : Vars → R (List PyData)} {p pos : Pos} (tk : Takes X W) (F : CalY X.prog X.w X.K X.mg X.base k x n i j g) (hr : Room k X.A) (hg : Gl X x) (ha : AX X W (e :: es) f) (hn : es.length + 1 = n)
    (hdb : (x == ("__debug__" : Str)) = false := by decide) (he : starEach (e :: es) X.env = (false, eval e X.env) :: starEach es X.env := by rfl) (hpl : (backTo pos (starEach es X.env)).any (·.1) = false := by rfl) (hlen : ∀ ρ ds, f ρ = .ok ds → ds.length = n) :
    EX X W (.Call (.Name x p) (e :: es) [] pos) (eFn (fun ds => g (ds ++ [.int i, .int j])) f) := by
  obtain ⟨fa, fd, ps, dv, h1, h2, h3, h4, h5, h6⟩ := F
  obtain ⟨t, q, ht⟩ := ha
  refine ⟨_, pe_callSD h2 hr hg h3 h4 h5 h6 (fun σ => passAt tk σ) q hdb he hpl, fun σ H O ρ Q hO hv z => ht σ H O ρ _ hO hv ?_⟩
  unfold eFn at z
  cases e1 : f ρ with
  | bad => rw [e1] at z; exact z
  | err c => rw [e1] at z; exact z
  | ok ds =>
    rw [e1] at z
    intro vs H1 s1 r1
    refine ⟨by rw [List.length_append, r1.length, hlen ρ ds e1]; rfl, O, ds ++ [.int i, .int j], hO.same s1, ?_, ?_⟩
    · have := rps_app (.int j) (rps_app (.int i) r1)
      rwa [List.append_assoc, List.append_assoc] at this
    cases e2 : g (ds ++ [.int i, .int j]) with
    | bad => rw [R.bind_ok, e2] at z; exact z.elim
    | err c => rw [R.bind_ok, e2] at z; exact fun H' s' => z H' (s1.trans s')
    | ok d => rw [R.bind_ok, e2] at z; exact fun v H' s' r' => z v H' (s1.trans s') r'
end
theorem fun2_mk {K : PySem.W.Frag} {x : Str} {st : Stmt} {i j : Int} {f T : Addr} {oc : Value} {od an : Option Addr} {kV dc pm cd ct ocT : Value} {sl slT : Array (Option Value)} {odT : Option Addr} {nT : Nat} {tk tk' : Tok}
    (lk : K.lookup f = some ⟨oc, od, .func (PySem.W.fnOf x x (defArgs st) (defBody st) (defScope st) (.ref T) kV dc pm an cd ct), sl⟩) (c : PySem.W.codeIn K cd x = true) (kp : PySem.W.keepIn K (.ref f) = true) (lT : K.lookup T = some ⟨ocT, odT, .seq #[.int i tk, .int j tk'] nT, slT⟩) :
    Fun2 K x st i j f (PySem.W.fnOf x x (defArgs st) (defBody st) (defScope st) (.ref T) kV dc pm an cd ct) :=
  ⟨⟨oc, od, .ref T, kV, dc, pm, an, cd, ct, sl, rfl, lk, c, Or.inr ⟨by simp, T, _, [.int i tk, .int j tk'], nT, rfl, lT, rfl, .cons ⟨tk, rfl⟩ (.cons ⟨tk', rfl⟩ .nil)⟩, Or.inl rfl⟩, kp⟩
theorem fun2_all {K : PySem.W.Frag} {x : Str} {st : Stmt} {i j : Int} {f : Addr} {fd : FuncData} {ps : List Str} {n : Nat} (F : Fun2 K x st i j f fd) (hn : ps.length = n)
    (h : ∀ (T : Addr) (kV doc pm : Value) (an : Option Addr) (cdv ct : Value) (us its : List Value), us.length = n → its.length = 2 →
      ∃ k, bindArgs (PySem.W.fnOf x x (defArgs st) (defBody st) (defScope st) (.ref T) kV doc pm an cdv ct) ⟨us, []⟩ = seqItems? (.ref T) >>= k ∧ k (some its.toArray) = pure (ps.zip (us ++ its.drop 2))) : Binds K fd ps [] := by
  obtain ⟨ds, h1, h2⟩ := FunD.binds1 F n 2 (by simp) (by simp [hn]) h
  cases h1
  exact h2
theorem fun2_one {K : PySem.W.Frag} {x : Str} {st : Stmt} {i j : Int} {f : Addr} {fd : FuncData} {ps : List Str} {n : Nat} (F : Fun2 K x st i j f fd) (hn : ps.length = n + 1)
    (h : ∀ (T : Addr) (kV doc pm : Value) (an : Option Addr) (cdv ct : Value) (us its : List Value), us.length = n → its.length = 2 →
      ∃ k, bindArgs (PySem.W.fnOf x x (defArgs st) (defBody st) (defScope st) (.ref T) kV doc pm an cdv ct) ⟨us, []⟩ = seqItems? (.ref T) >>= k ∧ k (some its.toArray) = pure (ps.zip (us ++ its.drop 1))) : ∃ ds, Vals [V.int j] ds ∧ Binds K fd ps ds :=
  FunD.binds1 F n 1 (by simp) (by simp [hn]) h
theorem fun2_two {K : PySem.W.Frag} {x : Str} {st : Stmt} {i j : Int} {f : Addr} {fd : FuncData} {ps : List Str} {n : Nat} (F : Fun2 K x st i j f fd) (hn : ps.length = n + 2)
    (h : ∀ (T : Addr) (kV doc pm : Value) (an : Option Addr) (cdv ct : Value) (us its : List Value), us.length = n → its.length = 2 →
      ∃ k, bindArgs (PySem.W.fnOf x x (defArgs st) (defBody st) (defScope st) (.ref T) kV doc pm an cdv ct) ⟨us, []⟩ = seqItems? (.ref T) >>= k ∧ k (some its.toArray) = pure (ps.zip (us ++ its.drop 0))) : ∃ ds, Vals [V.int i, V.int j] ds ∧ Binds K fd ps ds :=
  FunD.binds1 F n 0 (by simp) (by simp [hn]) h
end Pu
set_option Elab.async false
set_option linter.all false
set_option maxRecDepth 100000
set_option maxHeartbeats 4000000
namespace Pu
open PySem PySem.Spec PyProof.Rows L2
/-! ### tuple * int, all cases -/
theorem tuple_mul1 (l : Addr) (items : Array Value) (n : Nat) (dd : Option Addr) (sl : Array (Option Value)) (x : Int) (u : Tok) (c0 : (decide (x < -(2 ^ 63)) || decide (x ≥ 2 ^ 63)) = false) (c1 : (items.isEmpty || x == 1) = true) :
    Meets (Builtin.«tuple.__mul__» ⟨[.ref l, .int x u], []⟩) (fun _ R s => s.heap.get? l = some { cls := .type "tuple", dict := dd, data := .seq items n, slots := sl } ∧ R (.ok (.ret (Value.ref l))) s) :=
  .of_wp fun prog w A R s h => by
    obtain ⟨hp, g, d, tk, os⟩ := s
    obtain ⟨hl, h⟩ := h
    have f1 := AutoSeq1.idx_int
    wp_walk using wpAny_loadPart' hl
    repeat (first
      | (refine wpAny_ite_false (decide_eq_false (by rw [c0]; exact Bool.false_ne_true)) ?_; wp_walk using wpAny_loadPart' hl)
      | (refine wpAny_ite_true (decide_eq_true (by rw [c1])) ?_; wp_walk using wpAny_loadPart' hl))
    exact ⟨_, rfl, h⟩
theorem tuple_mul0 (l : Addr) (items : Array Value) (n : Nat) (dd : Option Addr) (sl : Array (Option Value)) (x : Int) (u : Tok) (c0 : (decide (x < -(2 ^ 63)) || decide (x ≥ 2 ^ 63)) = false) (c1 : (items.isEmpty || x == 1) = false) (c2 : (decide (x ≤ 0) || items.isEmpty) = true) :
    Meets (Builtin.«tuple.__mul__» ⟨[.ref l, .int x u], []⟩) (fun _ R s => s.heap.get? l = some { cls := .type "tuple", dict := dd, data := .seq items n, slots := sl } ∧
      R (.ok (.ret (Value.ref s.heap.objs.size))) { s with heap := s.heap.push { cls := Value.type "tuple", data := Data.seq #[] }, toks := s.toks }) :=
  .of_wp fun prog w A R s h => by
    obtain ⟨hp, g, d, tk, os⟩ := s
    obtain ⟨hl, h⟩ := h
    have f1 := AutoSeq1.idx_int
    wp_walk using wpAny_loadPart' hl
    repeat (first
      | (refine wpAny_ite_false (decide_eq_false (by rw [c0]; exact Bool.false_ne_true)) ?_; wp_walk using wpAny_loadPart' hl)
      | (refine wpAny_ite_false (decide_eq_false (by rw [c1]; exact Bool.false_ne_true)) ?_; wp_walk using wpAny_loadPart' hl)
      | (refine wpAny_ite_true (decide_eq_true (by rw [c2])) ?_; wp_walk using wpAny_loadPart' hl))
    exact ⟨_, rfl, h⟩
/-- a tuple times k, at most 1000 of each -/
def rRepA (K : PySem.W.Frag) : R2 := fun x y H Q => ∃ l k xs, x = .ref l ∧ y = .int k ∧ SqT K H l xs ∧ -(2 ^ 62) ≤ k ∧ k ≤ 1000 ∧ xs.length ≤ 1000 ∧ ((xs = [] ∨ k = 1) → Q (.ref l) H) ∧ (xs ≠ [] → k ≠ 1 → ∀ p, H p = none → Q (.ref p) (upd H p (.tup (List.replicate k.toNat xs).flatten)))
theorem op_repA {X : Cx} : OpR X (binaryOp .Mult) (rRepA X.K) := by
  intro pins s σ H x y v u Q I rx ry h
  obtain ⟨l, k, xs, rfl, rfl, hT, h0, h1, hz, q1, q2⟩ := h
  by_cases c : xs = [] ∨ k = 1
  case neg =>
    have c' : xs ≠ [] ∧ k ≠ 1 := ⟨fun z => c (.inl z), fun z => c (.inr z)⟩
    by_cases k2 : 2 ≤ k
    · exact op_repT pins s σ H _ _ v u Q I rx ry ⟨l, k, xs, rfl, rfl, hT, c'.1, k2, h1, hz, q2 c'.1 c'.2⟩
    · cases rx
      obtain ⟨t, rfl⟩ := ry
      obtain ⟨its, r, ⟨⟨cls, dd, data, sl⟩, ho, hc, n, hd⟩, hs⟩ := I.tuple hT
      simp only at hc hd
      subst hc hd
      have k0 : k ≤ 0 := by have := c'.2; omega
      have hle : its.length = xs.length := r.length.symm
      have hn : its ≠ [] := fun e => c'.1 (by
        rw [e] at hle
        exact List.eq_nil_of_length_eq_zero hle.symm)
      have hi : its.toArray.isEmpty = false := by
        cases its with
        | nil => exact absurd rfl hn
        | cons a b => rfl
      have c0 : (decide (k < -(2 ^ 63)) || decide (k ≥ 2 ^ 63)) = false := by
        rw [decide_eq_false (by omega), decide_eq_false (by omega)] <;> rfl
      have c1 : (its.toArray.isEmpty || k == 1) = false := by
        rw [hi, Bool.false_or]
        exact beq_eq_false_iff_ne.mpr (by omega)
      have c2 : (decide (k ≤ 0) || its.toArray.isEmpty) = true := by
        rw [hi, Bool.or_false]
        exact decide_eq_true k0
      refine wpAny_binaryOp_repeat_ref (T := "tuple") (U := "int") (by decide) ⟨_, ho, rfl⟩ (fun s' => typeIs_int s' k t) noFill_tuple_mul F.fills_int_mul F.slot_int_rmul repeat_tuple F.slot_int_index.lookup
        (call_meets F.slot_int_rmul (typeIs_int s k t) F.entry_int_rmul (F.args_int_rmul_2 _ _) (int_rmul_tuple k t l its.toArray n dd sl)
          ⟨ho, rfl, ⟨_, ho, rfl⟩, call_meets F.slot_tuple_mul ⟨_, ho, rfl⟩ F.entry_tuple_mul (F.args_tuple_mul_2 _ _) (tuple_mul0 l its.toArray n dd sl k t c0 c1 c2) ⟨ho, ?_⟩⟩)
      have e0 : (List.replicate k.toNat xs).flatten = [] := by rw [show k.toNat = 0 by omega]; rfl
      have q3 := q2 c'.1 c'.2
      rw [e0] at q3
      refine ⟨.ref s.heap.objs.size, _, I.laid (t' := s.toks) (o := .tup []) (fun b ob q => Heap.get?_push_of_some _ q) (Nat.le_refl _) ?_, rfl, q3 _ (I.hok.fresh (Nat.le_refl _))⟩
      exact ⟨by rw [sizeLine_eq]; decide, [], .nil, IsTup.new _ _⟩
  case pos =>
    have q3 := q1 c
    cases rx
    obtain ⟨t, rfl⟩ := ry
    obtain ⟨its, r, ⟨⟨cls, dd, data, sl⟩, ho, hc, n, hd⟩, hs⟩ := I.tuple hT
    simp only at hc hd
    subst hc hd
    have hle : its.length = xs.length := r.length.symm
    have c0 : (decide (k < -(2 ^ 63)) || decide (k ≥ 2 ^ 63)) = false := by
      rw [decide_eq_false (by omega), decide_eq_false (by omega)] <;> rfl
    have c1 : (its.toArray.isEmpty || k == 1) = true := by
      rcases c with c | c
      · subst c
        have : its = [] := List.eq_nil_of_length_eq_zero (by simpa using hle)
        subst this
        rfl
      · subst c; simp
    refine wpAny_binaryOp_repeat_ref (T := "tuple") (U := "int") (by decide) ⟨_, ho, rfl⟩ (fun s' => typeIs_int s' k t) noFill_tuple_mul F.fills_int_mul F.slot_int_rmul repeat_tuple F.slot_int_index.lookup
      (call_meets F.slot_int_rmul (typeIs_int s k t) F.entry_int_rmul (F.args_int_rmul_2 _ _) (int_rmul_tuple k t l its.toArray n dd sl)
        ⟨ho, rfl, ⟨_, ho, rfl⟩, call_meets F.slot_tuple_mul ⟨_, ho, rfl⟩ F.entry_tuple_mul (F.args_tuple_mul_2 _ _) (tuple_mul1 l its.toArray n dd sl k t c0 c1) ⟨ho, ?_⟩⟩)
    exact ⟨.ref l, H, I, rfl, q3⟩
/-- times as data -/
def okRep (k : Int) (n : Nat) : Bool := decide (k.natAbs < 2 ^ 62) && decide (k.toNat ≤ 1000) && decide (n ≤ 1000)
def gRep : PyData → PyData → Option PyData
  | .tuple xs, .int k => if okRep k xs.length = true then some (.tuple (List.replicate k.toNat xs).flatten) else none
  | _, _ => none
theorem okRep_of {k : Int} {n : Nat} (h : okRep k n = true) : -(2 ^ 62) ≤ k ∧ k ≤ 1000 ∧ n ≤ 1000 := by
  unfold okRep at h
  rw [Bool.and_eq_true, Bool.and_eq_true] at h
  have a1 := of_decide_eq_true h.1.1
  have a2 := of_decide_eq_true h.1.2
  exact ⟨by omega, by omega, of_decide_eq_true h.2⟩
theorem opr_rep {X : Cx} : OpR X (binaryOp .Mult) (rRepA X.K) := op_repA
theorem op2_rep {K : PySem.W.Frag} : Op2 K (rRepA K) gRep := by
  intro H O x y d e z Q hO rx ry h q
  cases rx with
  | @tup a xs ds hx rs =>
    cases ry with
    | int k =>
      unfold gRep at h
      dsimp only at h
      by_cases c : okRep k ds.length = true
      · rw [if_pos c] at h; cases h
        obtain ⟨c1, c2, c3⟩ := okRep_of c
        refine ⟨a, k, xs, rfl, rfl, seqT hide_sub hx, c1, c2, by rw [rs.length]; exact c3, fun w => ?_, fun _ _ p hp => q _ _ (same_new hp) (new_rep hO hp (rs.rep k.toNat))⟩
        have e : (List.replicate k.toNat ds).flatten = ds := by
          rcases w with w | w
          · have : ds = [] := (rps_nil rs).mp w
            subst this; simp
          · subst w; simp
        rw [e] at q
        exact q _ H (Same.refl H) (.tup hx rs)
      · rw [if_neg c] at h; cases h
    | _ => cases h
  | _ => cases h
@[simp] theorem u_gRep (xs : List PyData) (k : Int) : gRep (.tuple xs) (.int k) = if okRep k xs.length = true then some (.tuple (List.replicate k.toNat xs).flatten) else none := rfl
/-! ### [..] * n, a new list -/
def nRep (f : Vars → R (List PyData)) (h : Vars → R PyData) (ρ : Vars) : R (List PyData) := (f ρ).bind fun ds => if ds.length ≤ sizeLine then (h ρ).bind fun e => match e with
  | .int k => if okRep k ds.length = true then .ok (List.replicate k.toNat ds).flatten else .bad
  | _ => .bad else .bad
section
variable {X : Cx} {W : WX}
theorem nx_rep {es : List Expr} {n : Expr} {f : Vars → R (List PyData)} {h : Vars → R PyData} {lpos pos : Pos} (he : AX X W es f) (hn : EX X W n h) : NX X W (.BinOp (.List es lpos) .Mult n pos) (nRep f h) := by
  obtain ⟨t, p, ht⟩ := he
  obtain ⟨u, q, hu⟩ := hn
  refine ⟨_, pe_op op_rep (pe_lst p) q, fun σ H O ρ Q hO hr z => ht σ H O ρ _ hO hr ?_⟩
  unfold nRep at z
  cases e : f ρ with
  | bad => rw [e] at z; exact z
  | err c => rw [e] at z; exact z
  | ok ds =>
    rw [e, R.bind_ok] at z
    intro vs H1 s1 r1
    by_cases c : ds.length ≤ sizeLine
    · rw [if_pos c] at z
      refine ⟨by rw [r1.length]; exact c, fun l hl => ?_⟩
      have s2 : Same H (upd H1 l (.lst vs)) := s1.trans (same_new hl)
      refine hu σ _ O ρ _ (hO.same s2) (hr.mono (hide_same s2)) ?_
      cases e2 : h ρ with
      | bad => rw [e2] at z; exact z.elim
      | err c => rw [e2] at z; exact fun H' s' => z H' (s2.trans s')
      | ok d =>
        rw [e2, R.bind_ok] at z
        intro v H3 s3 r3
        cases r3 with
        | int k =>
          dsimp only at z
          by_cases c4 : okRep k ds.length = true
          · rw [if_pos c4] at z
            obtain ⟨k1, k2, k3⟩ := okRep_of c4
            refine ⟨l, k, vs, rfl, rfl, s3 _ _ upd_same, by omega, by omega, ?_, fun p hp => ?_⟩
            · rw [r1.length]
              have : ds.length * k.toNat ≤ 1000 * 1000 := Nat.mul_le_mul k3 (by omega)
              rw [sizeLine_eq]; omega
            · refine z p _ _ ((s2.trans s3).trans (same_new hp)) ((s2.trans s3).free hp) upd_same ?_
              refine (r1.rep k.toNat).mono fun a o ha => ?_
              obtain ⟨c1, h1⟩ := hide_some ha
              have h5 : H3 a = some o := s3 _ _ ((same_new hl) _ _ h1)
              have n := ne_of_none h5 hp
              exact hide_of (fun z => (List.mem_cons.mp z).elim n c1) (by rw [upd_ne n]; exact h5)
          · rw [if_neg c4] at z; exact z.elim
        | _ => exact z.elim
    · rw [if_neg c] at z; exact z.elim
end
@[simp] theorem u_nRep (f : Vars → R (List PyData)) (h : Vars → R PyData) (ρ : Vars) : nRep f h ρ = (f ρ).bind fun ds => if ds.length ≤ sizeLine then (h ρ).bind fun e => match e with
  | .int k => if okRep k ds.length = true then .ok (List.replicate k.toNat ds).flatten else .bad
  | _ => .bad else .bad := rfl
end Pu
set_option Elab.async false
set_option linter.all false
set_option maxRecDepth 100000
set_option maxHeartbeats 4000000
namespace Pu
open PySem PySem.Spec PyProof.Rows L2
/-! ### x[k] = v, x an own list -/
def sPut (i : Nat) (fv fk : Vars → R PyData) (ρ : Vars) : Out := match ρ.getD i none with
  | some (.list ds) => (fv ρ).run ρ fun d => (fk ρ).run ρ fun k => match k with
    | .int k => match ixN ds.length k with
      | some j => if imm d = true then .nx (ρ.set i (some (.list (ds.set j d)))) else .bad
      | none => .bad
    | _ => .bad
  | _ => .bad
section
variable {X : Cx} {W : WX} {own : List Nat}
theorem sx_put {i : Nat} {x : Str} {e k : Expr} {fv fk : Vars → R PyData} {p p2 pos : Pos} (h : EX X W e fv) (hk : EX X W k fk) (ho : own.contains i = true) (hN : X.N[i]? = some x := by rfl) (hv : Vis X.env.scope x := by first | exact Or.inl rfl | exact Or.inr (Or.inl rfl) | exact Or.inr (Or.inr rfl)) (hd : (x == ("__debug__" : Str)) = false := by decide)
    (hcd : (x == ("__classdict__" : Str)) = false := by decide)
    (ha : ∀ v, assign (.Subscript (.Name x p) k p2) X.env v = (do
      let ov ← holding [v] (eval (.Name x p) X.env)
      let iv ← holding [v, ov] (eval k X.env)
      standAt p2
      holding [v, ov, iv] (setItem ov iv v)
      release [v, ov, iv] []) := by intro _; rfl)
    (hs : swapsWithSole [.Subscript (.Name x p) k p2] e pos.line X.env = pure false := by rfl) (hw : swappedStores [.Subscript (.Name x p) k p2] e X.env = pure none := by rfl)
    (h1 : (assignEach [.Subscript (.Name x p) k p2] X.env).map (·.2) = [assign (.Subscript (.Name x p) k p2) X.env] := by rfl) :
    SX X W own (.Assign [.Subscript (.Name x p) k p2] e pos) (sPut i fv fk) := by
  obtain ⟨t, q, ht⟩ := h
  obtain ⟨u, q2, hu⟩ := hk
  have hi : i ∈ own := List.contains_iff_mem.mp ho
  refine ⟨_, ps_asg q (pg_sub (pe_var hN hv hd hcd) q2 set_list ha) hs hw h1, fun σ H ρ D H0 O0 O r z => ?_⟩
  unfold sPut at z
  obtain ⟨ds, e1, z⟩ := getD_list z
  refine ht σ H O0 ρ _ r.stands0 r.vrel0 (EOut.run r z fun d v H1 s1 rv z1 r1 => ?_)
  obtain ⟨a, vs, g1, g2, g3, g4, g5⟩ := own_list hi r1 e1
  refine ⟨.ref a, g1, hu σ H1 O0 ρ _ r1.stands0 r1.vrel0 (EOut.run r1 z1 fun kd kv H2 s2 rk z2 r2 => ?_)⟩
  cases rk with
  | int k =>
    dsimp only at z2
    cases e3 : ixN ds.length k with
    | none => rw [e3] at z2; exact z2.elim
    | some j =>
      rw [e3] at z2
      dsimp only at z2
      by_cases c : imm d = true
      · rw [if_pos c] at z2
        have rO := r2.imm (rv.mono (hide_same s2)) c
        obtain ⟨r3, sF⟩ := r2.write hi (getD_some e1) g1 g2 g3 (s2 _ _ g4) ((g5.mono (hide_same s2)).set j rO)
        exact ⟨a, vs, k, j, rfl, rfl, s2 _ _ g4, by rw [g5.length]; exact e3, z2 σ _ O r3 sF⟩
      · rw [if_neg c] at z2; exact z2.elim
  | _ => exact z2.elim
end
@[simp] theorem u_sPut (i : Nat) (fv fk : Vars → R PyData) (ρ : Vars) : sPut i fv fk ρ = match ρ.getD i none with
  | some (.list ds) => (fv ρ).run ρ fun d => (fk ρ).run ρ fun k => match k with
    | .int k => match ixN ds.length k with
      | some j => if imm d = true then .nx (ρ.set i (some (.list (ds.set j d)))) else .bad
      | none => .bad
    | _ => .bad
  | _ => .bad := rfl
/-! ### an own list of own lists -/
/-- the inner lists -/
structure Inner (K : PySem.W.Frag) (H0 : Hp) (O : List Addr) (H : Hp) (as : List Addr) (dss : List (List PyData)) : Prop where
  len : as.length = dss.length
  nd : as.Nodup
  mem : ∀ (j : Nat) (a : Addr) (ds : List PyData), as[j]? = some a → dss[j]? = some ds → a ∈ O ∧ H0 a = none ∧ ∃ vs, H a = some (.lst vs) ∧ Rps K (hide O H) vs ds
structure RelD (K : PySem.W.Frag) (own : List Nat) (iu : Nat) (H0 : Hp) (O0 O : List Addr) (σ : L2.St) (H : Hp) (ρ : Vars) : Prop where
  base : Rel K own H0 O0 O σ H (ρ.set iu none)
  nown : iu ∉ own
  deep : ∃ U as dss, ρ[iu]? = some (some (.list (dss.map .list))) ∧ σ[iu]? = some (some (.ref U)) ∧ U ∈ O ∧ H0 U = none ∧ H U = some (.lst (as.map V.ref)) ∧ U ∉ as ∧ Inner K H0 O H as dss ∧
    ∀ (i : Nat) (d : PyData) (b : Addr), i ∈ own → ρ[i]? = some (some d) → σ[i]? = some (some (.ref b)) → b ≠ U ∧ b ∉ as
theorem Inner.mono {K : PySem.W.Frag} {H0 : Hp} {O O' : List Addr} {H H' : Hp} {as : List Addr} {dss : List (List PyData)} (h : Inner K H0 O H as dss) (sO : ∀ a ∈ O, a ∈ O') (s : ∀ a ∈ as, H' a = H a) (sF : Same (hide O H) (hide O' H')) : Inner K H0 O' H' as dss := ⟨h.len, h.nd, fun j a ds e1 e2 => by
  obtain ⟨h1, h2, vs, h3, h4⟩ := h.mem j a ds e1 e2
  exact ⟨sO a h1, h2, vs, by rw [s a (List.mem_of_getElem? e1)]; exact h3, h4.mono sF⟩⟩
theorem set_getElem? {ρ : Vars} {iu : Nat} {i : Nat} (h : i ≠ iu) : (ρ.set iu none)[i]? = ρ[i]? := by rw [List.getElem?_set_ne (fun z => h z.symm)]
section
variable {K : PySem.W.Frag} {own : List Nat} {iu : Nat} {H0 : Hp} {O0 O : List Addr} {σ : L2.St} {H H' : Hp} {ρ : Vars}
theorem RelD.stands (r : RelD K own iu H0 O0 O σ H ρ) : Stands O H := r.base.stands
theorem RelD.stands0 (r : RelD K own iu H0 O0 O σ H ρ) : Stands O0 H := r.base.stands0
theorem RelD.same (r : RelD K own iu H0 O0 O σ H ρ) : Same H0 H := r.base.same
theorem inner_rps {h : Same (hide O H) (hide O0 H)} : ∀ {as : List Addr} {dss : List (List PyData)}, (∀ (j : Nat) (a : Addr) (ds : List PyData), as[j]? = some a → dss[j]? = some ds → a ∉ O0 ∧ ∃ vs, H a = some (.lst vs) ∧ Rps K (hide O H) vs ds) → as.length = dss.length → Rps K (hide O0 H) (as.map V.ref) (dss.map PyData.list)
  | [], [], _, _ => .nil
  | [], _ :: _, _, l => by cases l
  | _ :: _, [], _, l => by cases l
  | a :: as, ds :: dss, m, l => by
    obtain ⟨n, vs, h1, h2⟩ := m 0 a ds rfl rfl
    exact .cons (.lst (.inl (.inl (hide_of n h1))) (h2.mono h)) (inner_rps (h := h) (fun j b es e1 e2 => m (j + 1) b es e1 e2) (by simpa using l))
theorem RelD.vrel0 (r : RelD K own iu H0 O0 O σ H ρ) : VRel K (hide O0 H) σ ρ := ⟨by simpa using r.base.len, fun i d e => by
  by_cases c : i = iu
  · subst c
    obtain ⟨U, as, dss, h1, h2, h3, h4, h5, h6, h7, h8⟩ := r.deep
    rw [h1] at e
    cases e
    refine ⟨_, h2, .lst (.inl (.inl (hide_of (r.base.notO0 h4) h5))) (inner_rps (h := hide_less r.base.sub) (fun j a ds e1 e2 => ?_) h7.len)⟩
    obtain ⟨g1, g2, vs, g3, g4⟩ := h7.mem j a ds e1 e2
    exact ⟨r.base.notO0 g2, vs, g3, g4⟩
  · exact r.base.vrel0.get i d (by rw [set_getElem? c]; exact e)⟩
theorem mask_setN {own : List Nat} {iu : Nat} {ρ : Vars} : mask (iu :: own) ρ = mask own (ρ.set iu none) := by
  apply List.ext_getElem?
  intro i
  unfold mask
  rw [maskF_get, maskF_get, Nat.zero_add]
  by_cases c : i = iu
  · subst c
    rw [if_pos (by simp)]
    by_cases hl : i < ρ.length
    · rw [List.getElem?_eq_getElem hl, List.getElem?_set_self hl]
      split <;> rfl
    · rw [List.getElem?_eq_none (by omega), List.getElem?_eq_none (by simpa using hl)]
      split <;> rfl
  · rw [set_getElem? c]
    by_cases c2 : i ∈ own
    · rw [if_pos c2, if_pos (by simp [c2])]
    · rw [if_neg c2, if_neg (by simp [c, c2])]
theorem RelD.vrelM (r : RelD K own iu H0 O0 O σ H ρ) : VRel K (hide O H) σ (mask (iu :: own) ρ) := by
  rw [mask_setN]; exact r.base.vrelM
theorem RelD.imm (r : RelD K own iu H0 O0 O σ H ρ) {v : V} {d : PyData} (h : Rp K (hide O0 H) v d) (e : imm d = true) : Rp K (hide O H) v d := r.base.imm h e
theorem RelD.step (r : RelD K own iu H0 O0 O σ H ρ) (s : Same H H') : RelD K own iu H0 O0 O σ H' ρ := ⟨r.base.step s, r.nown, by
  obtain ⟨U, as, dss, h1, h2, h3, h4, h5, h6, h7, h8⟩ := r.deep
  refine ⟨U, as, dss, h1, h2, h3, h4, s _ _ h5, h6, ⟨h7.len, h7.nd, fun j a ds e1 e2 => ?_⟩, h8⟩
  obtain ⟨g1, g2, vs, g3, g4⟩ := h7.mem j a ds e1 e2
  exact ⟨g1, g2, vs, s _ _ g3, g4.mono (hide_same s)⟩⟩
theorem RelD.set (r : RelD K own iu H0 O0 O σ H ρ) {i : Nat} {v : V} {d : PyData} (c : i ∉ own) (c2 : i ≠ iu) (h : Rp K (hide O H) v d) : RelD K own iu H0 O0 O (σ.set i (some v)) H (ρ.set i (some d)) := ⟨by
    rw [List.set_comm _ _ c2]; exact r.base.set c h, r.nown, by
  obtain ⟨U, as, dss, h1, h2, h3, h4, h5, h6, h7, h8⟩ := r.deep
  refine ⟨U, as, dss, by rw [List.getElem?_set_ne c2]; exact h1, by rw [List.getElem?_set_ne c2]; exact h2, h3, h4, h5, h6, h7, fun j e b hj e1 e2 => ?_⟩
  have n : i ≠ j := fun z => c (z ▸ hj)
  rw [List.getElem?_set_ne n] at e1 e2
  exact h8 j e b hj e1 e2⟩
/-- slots of no own list are changed -/
theorem RelD.other (r : RelD K own iu H0 O0 O σ H ρ) {σ' : L2.St} {ρ' : Vars} {js : List Nat} (hj : ∀ j ∈ js, j ∉ iu :: own) (hl : σ'.length = σ.length) (v : VRel K (hide O H) σ' (mask (iu :: own) ρ')) (f : ∀ j : Nat, j ∉ js → σ'[j]? = σ[j]? ∧ (mask (iu :: own) ρ')[j]? = (mask (iu :: own) ρ)[j]?) (f2 : ∀ j : Nat, j ∉ js → ρ'[j]? = ρ[j]?) : RelD K own iu H0 O0 O σ' H ρ' := ⟨by
    refine r.base.other (js := js) (fun j h z => hj j h (List.mem_cons_of_mem _ z)) hl (by rw [← mask_setN]; exact v) (fun j h => by rw [← mask_setN, ← mask_setN]; exact f j h) fun j ho => ?_
    have n : j ≠ iu := fun z => r.nown (z ▸ ho)
    rw [set_getElem? n, set_getElem? n]
    exact f2 j fun z => hj j z (List.mem_cons_of_mem _ ho), r.nown, by
  obtain ⟨U, as, dss, h1, h2, h3, h4, h5, h6, h7, h8⟩ := r.deep
  have nu : iu ∉ js := fun z => hj iu z (by simp)
  refine ⟨U, as, dss, by rw [f2 iu nu]; exact h1, by rw [(f iu nu).1]; exact h2, h3, h4, h5, h6, h7, fun j e b ho e1 e2 => ?_⟩
  have n : j ∉ js := fun z => hj j z (List.mem_cons_of_mem _ ho)
  rw [f2 j n] at e1
  rw [(f j n).1] at e2
  exact h8 j e b ho e1 e2⟩
/-- an object that is hidden and of no own variable is changed -/
theorem Rel.upd_hid (r : Rel K own H0 O0 O σ H ρ) {a : Addr} {vs vs' : List V} (ha : a ∈ O) (h0 : H0 a = Option.none) (h : H a = some (.lst vs)) (hn : ∀ (i : Nat) (d : PyData) (b : Addr), i ∈ own → ρ[i]? = some (some d) → σ[i]? = some (some (.ref b)) → b ≠ a) :
    Rel K own H0 O0 O σ (upd H a (.lst vs')) ρ ∧ Same (hide O H) (hide O (upd H a (.lst vs'))) := by
  have hid : ∀ o', hide O (upd H a o') = hide O H := fun o' => by
    funext b
    unfold hide
    by_cases c : b ∈ O
    · rw [if_pos c, if_pos c]
    · rw [if_neg c, if_neg c, upd_ne (fun z => c (by rw [z]; exact ha))]
  refine ⟨⟨fun b o hb => ?_, r.st0, r.len, r.sub, fun b hb => ?_, fun i d c e => by rw [hid]; exact r.free i d c e, fun i d c e => ?_, r.apart⟩, by rw [hid]; exact Same.refl _⟩
  · rw [upd_ne (ne_of_none hb h0)]; exact r.same b o hb
  · by_cases n : b = a
    · subst n; exact .inr ⟨h0, vs', upd_same⟩
    · rw [upd_ne n]; exact r.lists b hb
  · obtain ⟨b, us, es, g0, g1, g2, g3, g4, g5⟩ := r.mine i d c e
    exact ⟨b, us, es, g0, g1, g2, g3, by rw [upd_ne (hn i d b c e g1)]; exact g4, by rw [hid]; exact g5⟩
/-- a new list that nothing holds yet -/
theorem Rel.grow (r : Rel K own H0 O0 O σ H ρ) {p : Addr} {vs : List V} (s : Same H H') (hp : H p = Option.none) (hp' : H' p = some (.lst vs)) : Rel K own H0 O0 (p :: O) σ H' ρ ∧ Same (hide O H) (hide (p :: O) H') := by
  have sF : Same (hide O H) (hide (p :: O) H') := fun a o h => by
    obtain ⟨c, e⟩ := hide_some h
    exact hide_of (fun z => (List.mem_cons.mp z).elim (ne_of_none e hp) c) (s a o e)
  have r1 : Rel K own H0 O0 O σ H' ρ := r.step s
  refine ⟨⟨r1.same, r1.st0, r1.len, fun a ha => List.mem_cons_of_mem _ (r1.sub a ha), fun a ha => ?_, fun j d cj q => ?_, fun j d cj q => ?_, r.apart⟩, sF⟩
  · rcases List.mem_cons.mp ha with e | ha
    · rw [e]; exact .inr ⟨r.same.free hp, vs, hp'⟩
    · exact r1.lists a ha
  · obtain ⟨v, h1, h2⟩ := r.free j d cj q
    exact ⟨v, h1, h2.mono sF⟩
  · obtain ⟨a, us, es, h0, h1, h2, h3, h4, h5⟩ := r.mine j d cj q
    exact ⟨a, us, es, h0, h1, List.mem_cons_of_mem _ h2, h3, s _ _ h4, h5.mono sF⟩
/-- it is shown from now on -/
theorem RelD.freeze (r : RelD K own iu H0 O0 O σ H ρ) : ∃ O', Rel K own H0 O0 O' σ H ρ ∧ Same (hide O H) (hide O' H) := by
  classical
  obtain ⟨U, as, dss, h1, h2, h3, h4, h5, h6, h7, h8⟩ := r.deep
  have hm : ∀ a, a ∈ O.filter (fun a => decide (a ≠ U ∧ a ∉ as)) ↔ a ∈ O ∧ a ≠ U ∧ a ∉ as := fun a => by simp [List.mem_filter]
  have sF : Same (hide O H) (hide (O.filter fun a => decide (a ≠ U ∧ a ∉ as)) H) := hide_less fun a ha => ((hm a).mp ha).1
  have b := r.base
  refine ⟨O.filter fun a => decide (a ≠ U ∧ a ∉ as), ⟨b.same, b.st0, by simpa using b.len, fun a ha => (hm a).mpr ⟨b.sub a ha, fun z => b.st0 a ha (z ▸ h4), fun z => ?_⟩, fun a ha => b.lists a ((hm a).mp ha).1, fun i d c e => ?_, fun i d c e => ?_, fun i j d e a ci cj q1 q2 => ?_⟩, sF⟩
  · obtain ⟨j, hj⟩ := List.getElem?_of_mem z
    have hl : j < dss.length := by rw [← h7.len]; exact (List.getElem?_eq_some_iff.mp hj).1
    exact b.st0 a ha (h7.mem j a _ hj (List.getElem?_eq_getElem hl)).2.1
  · by_cases ci : i = iu
    · subst ci
      rw [h1] at e
      cases e
      refine ⟨_, h2, .lst (.inl (.inl (hide_of (fun z => ((hm U).mp z).2.1 rfl) h5))) (inner_rps (h := sF) (fun j a ds e1 e2 => ?_) h7.len)⟩
      obtain ⟨g1, g2, vs, g3, g4⟩ := h7.mem j a ds e1 e2
      exact ⟨fun z => ((hm a).mp z).2.2 (List.mem_of_getElem? e1), vs, g3, g4⟩
    · obtain ⟨v, g1, g2⟩ := b.free i d c (by rw [set_getElem? ci]; exact e)
      exact ⟨v, g1, g2.mono sF⟩
  · have ci : i ≠ iu := fun z => r.nown (z ▸ c)
    obtain ⟨a, vs, ds, g0, g1, g2, g3, g4, g5⟩ := b.mine i d c (by rw [set_getElem? ci]; exact e)
    have g8 := h8 i d a c e g1
    exact ⟨a, vs, ds, g0, g1, (hm a).mpr ⟨g2, g8⟩, g3, g4, g5.mono sF⟩
  · have ni : i ≠ iu := fun z => r.nown (z ▸ ci)
    have nj : j ≠ iu := fun z => r.nown (z ▸ cj)
    exact b.apart i j d e a ci cj (by rw [set_getElem? ni]; exact q1) (by rw [set_getElem? nj]; exact q2)
end
section
variable (X : Cx) (W : WX) (own : List Nat) (iu : Nat)
def DOut (H0 : Hp) (O0 O : List Addr) (H : Hp) (D : Ends) : Out → Prop
  | .nx ρ => ∀ σ' H' O', RelD X.K own iu H0 O0 O' σ' H' ρ → Same (hide O H) (hide O' H') → D.nx σ' H'
  | .err c ρ => ∀ σ' H' O', RelD X.K own iu H0 O0 O' σ' H' ρ → Same (hide O H) (hide O' H') → W (exV X.mg c) none σ' H'
  | .rt d => ∀ v H', Same H0 H' → Rp X.K (hide O0 H') v d → D.rt v H'
  | .bk ρ => ∀ σ' H' O', RelD X.K own iu H0 O0 O' σ' H' ρ → Same (hide O H) (hide O' H') → D.bk σ' H'
  | .ct ρ => ∀ σ' H' O', RelD X.K own iu H0 O0 O' σ' H' ρ → Same (hide O H) (hide O' H') → D.ct σ' H'
  | .bad => False
def DX (st : Stmt) (g : Vars → Out) : Prop :=
  ∃ t, PS X st t ∧ ∀ σ H ρ D H0 O0 O, RelD X.K own iu H0 O0 O σ H ρ → DOut X W own iu H0 O0 O H D (g ρ) → t D σ H
def DsX (sts : List Stmt) (g : Vars → Out) : Prop :=
  ∃ t, PSs X sts t ∧ ∀ σ H ρ D H0 O0 O, RelD X.K own iu H0 O0 O σ H ρ → DOut X W own iu H0 O0 O H D (g ρ) → t D σ H
end
section
variable {X : Cx} {W : WX} {own : List Nat} {iu : Nat}
theorem DOut.from {H0 : Hp} {O0 O O' : List Addr} {H H' : Hp} {D : Ends} {o : Out} (h : DOut X W own iu H0 O0 O H D o) (s : Same (hide O H) (hide O' H')) : DOut X W own iu H0 O0 O' H' D o := by
  cases o with
  | nx ρ => exact fun σ' H'' O'' r s' => h σ' H'' O'' r (s.trans s')
  | err c ρ => exact fun σ' H'' O'' r s' => h σ' H'' O'' r (s.trans s')
  | bk ρ => exact fun σ' H'' O'' r s' => h σ' H'' O'' r (s.trans s')
  | ct ρ => exact fun σ' H'' O'' r s' => h σ' H'' O'' r (s.trans s')
  | _ => exact h
theorem EOut.runD {f : R PyData} {k : PyData → Out} {O : List Addr} {H0 : Hp} {O0 O1 : List Addr} {σ : L2.St} {H : Hp} {ρ : Vars} {D : Ends} {Q : VK} (r : RelD X.K own iu H0 O0 O1 σ H ρ) (z : DOut X W own iu H0 O0 O1 H D (f.run ρ k))
    (q : ∀ d v H', Same H H' → Rp X.K (hide O H') v d → DOut X W own iu H0 O0 O1 H' D (k d) → RelD X.K own iu H0 O0 O1 σ H' ρ → Q v H') : EOut X W O σ H Q f := by
  cases f with
  | ok d => exact fun v H' s rv => q d v H' s rv (DOut.from z (hide_same s)) (r.step s)
  | err c => exact fun H' s => z σ H' O1 (r.step s) (hide_same s)
  | bad => exact z
theorem TOut.runD {f : R Bool} {k : Bool → Out} {H0 : Hp} {O0 O1 : List Addr} {σ : L2.St} {H : Hp} {ρ : Vars} {D : Ends} {Q : Bool → Hp → Prop} (r : RelD X.K own iu H0 O0 O1 σ H ρ) (z : DOut X W own iu H0 O0 O1 H D (f.run ρ k))
    (q : ∀ d H', Same H H' → DOut X W own iu H0 O0 O1 H' D (k d) → RelD X.K own iu H0 O0 O1 σ H' ρ → Q d H') : TOut X W σ H Q f := by
  cases f with
  | ok d => exact fun H' s => q d H' s (DOut.from z (hide_same s)) (r.step s)
  | err c => exact fun H' s => z σ H' O1 (r.step s) (hide_same s)
  | bad => exact z
theorem AOut.runD {f : R (List PyData)} {k : List PyData → Out} {O : List Addr} {H0 : Hp} {O0 O1 : List Addr} {σ : L2.St} {H : Hp} {ρ : Vars} {D : Ends} {Q : List V → Hp → Prop} (r : RelD X.K own iu H0 O0 O1 σ H ρ) (z : DOut X W own iu H0 O0 O1 H D (f.run ρ k))
    (q : ∀ d v H', Same H H' → Rps X.K (hide O H') v d → DOut X W own iu H0 O0 O1 H' D (k d) → RelD X.K own iu H0 O0 O1 σ H' ρ → Q v H') : AOut X W O σ H Q f := by
  cases f with
  | ok d => exact fun v H' s rv => q d v H' s rv (DOut.from z (hide_same s)) (r.step s)
  | err c => exact fun H' s => z σ H' O1 (r.step s) (hide_same s)
  | bad => exact z
theorem dsx_nil : DsX X W own iu [] sNil := ⟨_, pss_nil, fun σ H ρ D H0 O0 O r z => z σ H O r (Same.refl _)⟩
theorem dsx_cons {st : Stmt} {rest : List Stmt} {g h : Vars → Out} (a : DX X W own iu st g) (b : DsX X W own iu rest h) : DsX X W own iu (st :: rest) (sSeq g h) := by
  obtain ⟨t, p, ht⟩ := a
  obtain ⟨u, q, hu⟩ := b
  refine ⟨_, pss_cons p q, fun σ H ρ D H0 O0 O r z => ht σ H ρ _ H0 O0 O r ?_⟩
  unfold sSeq at z
  cases e : g ρ with
  | nx ρ1 => rw [e] at z; exact fun σ1 H1 O1 r1 s1 => hu σ1 H1 ρ1 D H0 O0 O1 r1 (DOut.from z s1)
  | rt d => rw [e] at z; exact z
  | bk ρ1 => rw [e] at z; exact z
  | ct ρ1 => rw [e] at z; exact z
  | err c ρ1 => rw [e] at z; exact z
  | bad => rw [e] at z; exact z
theorem dsx_one {st : Stmt} {g : Vars → Out} (a : DX X W own iu st g) : DsX X W own iu [st] g := by
  obtain ⟨t, p, ht⟩ := a
  exact ⟨_, pss_one p, ht⟩
theorem dx_if {c : Expr} {a b : List Stmt} {tc : Vars → R Bool} {g h : Vars → Out} {pos : Pos} (hc : TX X W c tc) (ha : DsX X W own iu a g) (hb : DsX X W own iu b h) : DX X W own iu (.If c a b pos) (sIf tc g h) := by
  obtain ⟨t, p, ht⟩ := hc
  obtain ⟨ta, pa, hta⟩ := ha
  obtain ⟨tb, pb, htb⟩ := hb
  refine ⟨_, ps_if p pa pb, fun σ H ρ D H0 O0 O r z => ht σ H O0 ρ _ r.stands0 r.vrel0 (TOut.runD r z fun d H' s z' r' => ?_)⟩
  cases d with
  | true => exact hta σ H' ρ D H0 O0 O r' z'
  | false => exact htb σ H' ρ D H0 O0 O r' z'
/-- name = value: all variables may be read, the value has no list -/
def sSetD (i : Nat) (f : Vars → R PyData) (ρ : Vars) : Out := (f ρ).run ρ fun d => if imm d = true then .nx (ρ.set i (some d)) else .bad
theorem dx_set {i : Nat} {x : Str} {e : Expr} {f : Vars → R PyData} {pos' pos : Pos} (hN : X.N.Nodup) (hi : X.N[i]? = some x) (hx : Loc X.env.scope x) (h : EX X W e f) (ho : (iu :: own).contains i = false) (hs : swapsWith e (some (.Name x pos')) pos.line X.env = pure false := by rfl) (hf : X.fn x = true ∨ X.env.scope.names.lookup x = some .local := by first | exact .inl rfl | exact .inr rfl | assumption) :
    DX X W own iu (.Assign [.Name x pos'] e pos) (sSetD i f) := by
  obtain ⟨t, p, ht⟩ := h
  have hi' : i ∉ iu :: own := fun z => by rw [List.contains_iff_mem.mpr z] at ho; cases ho
  refine ⟨_, ps_set hN hi hx p hs hf, fun σ H ρ D H0 O0 O r z => ht σ H O0 ρ _ r.stands0 r.vrel0 (EOut.runD r z fun d v H' s rv z' r' => ?_)⟩
  by_cases c : imm d = true
  · rw [if_pos c] at z'
    exact z' _ H' O (r'.set (fun z => hi' (List.mem_cons_of_mem _ z)) (fun z => hi' (by simp [z])) (r'.imm rv c)) (Same.refl _)
  · rw [if_neg c] at z'; exact z'.elim
/-- name = a new own list -/
def sNewD (iu : Nat) (own : List Nat) (i : Nat) (f : Vars → R (List PyData)) (ρ : Vars) : Out := (f (mask (iu :: own) ρ)).run ρ fun ds => .nx (ρ.set i (some (.list ds)))
theorem dx_new {i : Nat} {x : Str} {e : Expr} {f : Vars → R (List PyData)} {pos' pos : Pos} (hN : X.N.Nodup) (hi : X.N[i]? = some x) (hx : Loc X.env.scope x) (h : NX X W e f) (ho : own.contains i = true) (hs : swapsWith e (some (.Name x pos')) pos.line X.env = pure false := by rfl) (hf : X.fn x = true ∨ X.env.scope.names.lookup x = some .local := by first | exact .inl rfl | exact .inr rfl | assumption) :
    DX X W own iu (.Assign [.Name x pos'] e pos) (sNewD iu own i f) := by
  obtain ⟨t, p, ht⟩ := h
  have hi' : i ∈ own := List.contains_iff_mem.mp ho
  refine ⟨_, ps_set hN hi hx p hs hf, fun σ H ρ D H0 O0 O r z => ht σ H O _ _ r.stands r.vrelM ?_⟩
  have ni : i ≠ iu := fun e => r.nown (e ▸ hi')
  unfold sNewD at z
  cases e : f (mask (iu :: own) ρ) with
  | bad => rw [e] at z; exact z
  | err c => rw [e] at z; exact fun H' s => z σ H' O (r.step s) (hide_same s)
  | ok ds =>
    rw [e] at z
    intro q vs H' s h1 h2 h3
    obtain ⟨r', sF⟩ := r.base.laid hi' s h1 h2 h3
    refine z _ H' _ ⟨by rw [List.set_comm _ _ ni]; exact r', r.nown, ?_⟩ sF
    obtain ⟨U, as, dss, k1, k2, k3, k4, k5, k6, k7, k8⟩ := r.deep
    have nq : q ∉ O := r.stands.new h1
    refine ⟨U, as, dss, by rw [List.getElem?_set_ne ni]; exact k1, by rw [List.getElem?_set_ne ni]; exact k2, List.mem_cons_of_mem _ k3, k4, s _ _ k5, k6, ⟨k7.len, k7.nd, fun j a ds e1 e2 => ?_⟩, fun j d b hj e1 e2 => ?_⟩
    · obtain ⟨g1, g2, us, g3, g4⟩ := k7.mem j a ds e1 e2
      exact ⟨List.mem_cons_of_mem _ g1, g2, us, s _ _ g3, g4.mono sF⟩
    · by_cases c : i = j
      · subst c
        have hlt : i < σ.length := by
          rcases Nat.lt_or_ge i σ.length with h | h
          · exact h
          · rw [List.getElem?_eq_none (by simpa using h)] at e2; cases e2
        rw [List.getElem?_set_self hlt] at e2
        cases e2
        refine ⟨fun z => nq (z ▸ k3), fun z => ?_⟩
        obtain ⟨j, hj⟩ := List.getElem?_of_mem z
        have hl : j < dss.length := by rw [← k7.len]; exact (List.getElem?_eq_some_iff.mp hj).1
        exact nq (k7.mem j q _ hj (List.getElem?_eq_getElem hl)).1
      · rw [List.getElem?_set_ne c] at e1 e2
        exact k8 j d b hj e1 e2
/-- x.append(e), x an own list, all variables may be read -/
theorem RelD.write {H0 : Hp} {O0 O : List Addr} {σ : L2.St} {H : Hp} {ρ : Vars} {i : Nat} (hi : i ∈ own) {a : Addr} {vs vs' : List V} {d : PyData} {es : List PyData} (r : RelD X.K own iu H0 O0 O σ H ρ) (q : ρ[i]? = some (some d)) (e : σ[i]? = some (some (.ref a))) (ha : a ∈ O) (h0 : H0 a = none) (h : H a = some (.lst vs)) (rs : Rps X.K (hide O H) vs' es) :
    RelD X.K own iu H0 O0 O σ (upd H a (.lst vs')) (ρ.set i (some (.list es))) ∧ Same (hide O H) (hide O (upd H a (.lst vs'))) := by
  have ni : i ≠ iu := fun e => r.nown (e ▸ hi)
  obtain ⟨b, sF⟩ := r.base.write hi (by rw [set_getElem? ni]; exact q) e ha h0 h rs
  refine ⟨⟨by rw [List.set_comm _ _ ni]; exact b, r.nown, ?_⟩, sF⟩
  obtain ⟨U, as, dss, k1, k2, k3, k4, k5, k6, k7, k8⟩ := r.deep
  obtain ⟨n1, n2⟩ := k8 i d a hi q e
  refine ⟨U, as, dss, by rw [List.getElem?_set_ne ni]; exact k1, k2, k3, k4, by rw [upd_ne (Ne.symm n1)]; exact k5, k6, k7.mono (fun _ h => h) (fun b hb => upd_ne fun z => n2 (z ▸ hb)) sF, fun j d' b hj e1 e2 => ?_⟩
  by_cases c : i = j
  · subst c; exact k8 i d b hi q e2
  · rw [List.getElem?_set_ne c] at e1; exact k8 j d' b hj e1 e2
theorem own_listD {i : Nat} (hi : i ∈ own) {H0 : Hp} {O0 O : List Addr} {σ : L2.St} {H : Hp} {ρ : Vars} {ds : List PyData} (r : RelD X.K own iu H0 O0 O σ H ρ) (e : ρ.getD i none = some (.list ds)) : ∃ a vs, σ[i]? = some (some (.ref a)) ∧ a ∈ O ∧ H0 a = none ∧ H a = some (.lst vs) ∧ Rps X.K (hide O H) vs ds := by
  have ni : i ≠ iu := fun e => r.nown (e ▸ hi)
  obtain ⟨a, vs, ds', h0, h1, h2, h3, h4, h5⟩ := r.base.mine i _ hi (by rw [set_getElem? ni]; exact getD_some e)
  cases h0
  exact ⟨a, vs, h1, h2, h3, h4, h5⟩
theorem getD_listD {ρ : Vars} {i : Nat} {k : List PyData → Out} {H0 : Hp} {O0 O : List Addr} {H : Hp} {D : Ends} (z : DOut X W own iu H0 O0 O H D (match ρ.getD i none with
    | some (.list ds) => k ds
    | _ => .bad)) : ∃ ds, ρ.getD i none = some (.list ds) ∧ DOut X W own iu H0 O0 O H D (k ds) := by
  cases e : ρ.getD i none with
  | none => rw [e] at z; exact z.elim
  | some d =>
    rw [e] at z
    cases d with
    | list ds => exact ⟨ds, rfl, z⟩
    | _ => exact z.elim
section
variable {i : Nat} {x : Str} {e : Expr} {f : Vars → R PyData} {p apos cpos pos : Pos}
theorem dx_app (h : EX X W e f) (ho : own.contains i = true) (hN : X.N[i]? = some x := by rfl) (hv : Vis X.env.scope x := by first | exact Or.inl rfl | exact Or.inr (Or.inl rfl) | exact Or.inr (Or.inr rfl)) (hd : (x == ("__debug__" : Str)) = false := by decide)
    (hcd : (x == ("__classdict__" : Str)) = false := by decide)
    (hbase : attributeBase (.Name x p) "append" X.env (eval (.Name x p) X.env) = eval (.Name x p) X.env := by rfl)
    (hfew : ((backTo cpos (starEach [e] X.env)).all (fun x => !x.1) && (backToKw cpos (keywordEach [] X.env)).all (fun x => x.1.isSome)
      && decide (([e] : List Expr).length + ([] : List Keyword).length + (if ([] : List Keyword).isEmpty then 0 else 1) < 30)) = true := by rfl)
    (hline : (apos.endLine == cpos.line) = true := by rfl) (hs : starEach [e] X.env = (false, eval e X.env) :: starEach [] X.env := by rfl) (hplain : (backTo cpos (starEach [] X.env)).any (·.1) = false := by rfl)
    (hsw : swapsWith (.Call (.Attribute (.Name x p) "append" apos) [e] [] cpos) none pos.line X.env = pure false := by rfl) :
    DX X W own iu (.Expr (.Call (.Attribute (.Name x p) "append" apos) [e] [] cpos) pos) (sApp i f) := by
  obtain ⟨t, q, ht⟩ := h
  have hi : i ∈ own := List.contains_iff_mem.mp ho
  refine ⟨_, ps_expr (pe_bm PySem.F.plainAttrs_list PySem.F.slot_list_append PySem.F.type_list_append mt_append (pe_var hN hv hd hcd) (pa_cons q pa_nil hs) hbase hfew hline hs hplain) hsw, fun σ H ρ D H0 O0 O r z => ?_⟩
  unfold sApp at z
  obtain ⟨ds, e1, z⟩ := getD_listD z
  obtain ⟨a, vs, g1, g2, g3, g4, g5⟩ := own_listD hi r e1
  refine ⟨.ref a, g1, .inl ⟨rfl, vs, .inl (.inl g4)⟩, ht σ H O0 ρ _ r.stands0 r.vrel0 (EOut.runD r z fun d v H' s rv z' r' => ?_)⟩
  by_cases c : (decide (ds.length < sizeLine) && imm d) = true
  · rw [if_pos c] at z'
    rw [Bool.and_eq_true] at c
    have rO := r'.imm rv c.2
    obtain ⟨r2, sF⟩ := r'.write hi (getD_some e1) g1 g2 g3 (s _ _ g4) ((g5.mono (hide_same s)).append (.cons rO .nil))
    exact ⟨a, vs, v, rfl, rfl, s _ _ g4, by rw [g5.length]; exact of_decide_eq_true c.1, z' σ _ O r2 sF⟩
  · rw [if_neg c] at z'; exact z'.elim
end
/-- x.append([]), x the list of lists -/
def sAppN (iu : Nat) (ρ : Vars) : Out := match ρ.getD iu none with
  | some (.list ls) => if ls.length < sizeLine then .nx (ρ.set iu (some (.list (ls ++ [.list []])))) else .bad
  | _ => .bad
theorem deep_of {H0 : Hp} {O0 O : List Addr} {σ : L2.St} {H : Hp} {ρ : Vars} {ls : List PyData} (r : RelD X.K own iu H0 O0 O σ H ρ) (e : ρ.getD iu none = some (.list ls)) : ∃ U as dss, ls = dss.map .list ∧ iu < ρ.length ∧ σ[iu]? = some (some (.ref U)) ∧ U ∈ O ∧ H0 U = none ∧ H U = some (.lst (as.map V.ref)) ∧ U ∉ as ∧ Inner X.K H0 O H as dss ∧
    ∀ (i : Nat) (d : PyData) (b : Addr), i ∈ own → ρ[i]? = some (some d) → σ[i]? = some (some (.ref b)) → b ≠ U ∧ b ∉ as := by
  obtain ⟨U, as, dss, k1, k2, k3, k4, k5, k6, k7, k8⟩ := r.deep
  rw [getD_some e] at k1
  cases k1
  exact ⟨U, as, dss, rfl, (List.getElem?_eq_some_iff.mp (getD_some e)).1, k2, k3, k4, k5, k6, k7, k8⟩
section
variable {x : Str} {p apos cpos lpos pos : Pos}
theorem dx_appN (hN : X.N[iu]? = some x := by rfl) (hv : Vis X.env.scope x := by first | exact Or.inl rfl | exact Or.inr (Or.inl rfl) | exact Or.inr (Or.inr rfl)) (hd : (x == ("__debug__" : Str)) = false := by decide)
    (hcd : (x == ("__classdict__" : Str)) = false := by decide)
    (hbase : attributeBase (.Name x p) "append" X.env (eval (.Name x p) X.env) = eval (.Name x p) X.env := by rfl)
    (hfew : ((backTo cpos (starEach [.List [] lpos] X.env)).all (fun x => !x.1) && (backToKw cpos (keywordEach [] X.env)).all (fun x => x.1.isSome)
      && decide (([.List [] lpos] : List Expr).length + ([] : List Keyword).length + (if ([] : List Keyword).isEmpty then 0 else 1) < 30)) = true := by rfl)
    (hline : (apos.endLine == cpos.line) = true := by rfl) (hs : starEach [.List [] lpos] X.env = (false, eval (.List [] lpos) X.env) :: starEach [] X.env := by rfl) (hplain : (backTo cpos (starEach [] X.env)).any (·.1) = false := by rfl)
    (hsw : swapsWith (.Call (.Attribute (.Name x p) "append" apos) [.List [] lpos] [] cpos) none pos.line X.env = pure false := by rfl) :
    DX X W own iu (.Expr (.Call (.Attribute (.Name x p) "append" apos) [.List [] lpos] [] cpos) pos) (sAppN iu) := by
  refine ⟨_, ps_expr (pe_bm PySem.F.plainAttrs_list PySem.F.slot_list_append PySem.F.type_list_append mt_append (pe_var hN hv hd hcd) (pa_cons (pe_lst pa_nil) pa_nil hs) hbase hfew hline hs hplain) hsw, fun σ H ρ D H0 O0 O r z => ?_⟩
  unfold sAppN at z
  obtain ⟨ls, e1, z⟩ := getD_listD z
  obtain ⟨U, as, dss, rfl, hlt, k2, k3, k4, k5, k6, k7, k8⟩ := deep_of r e1
  refine ⟨.ref U, k2, .inl ⟨rfl, _, .inl (.inl k5)⟩, ⟨Nat.zero_le _, fun q hq => ?_⟩⟩
  by_cases c : (dss.map PyData.list).length < sizeLine
  case neg => rw [if_neg c] at z; exact z.elim
  rw [if_pos c] at z
  have s1 : Same H (upd H q (.lst [])) := same_new hq
  have nU : U ≠ q := fun e => by rw [← e, k5] at hq; cases hq
  have nq : q ∉ O := r.stands.new hq
  have mO : ∀ a ∈ as, a ∈ O := fun a ha => by
    obtain ⟨j, hj⟩ := List.getElem?_of_mem ha
    have hl : j < dss.length := by rw [← k7.len]; exact (List.getElem?_eq_some_iff.mp hj).1
    exact (k7.mem j a _ hj (List.getElem?_eq_getElem hl)).1
  refine ⟨U, as.map V.ref, .ref q, rfl, rfl, s1 _ _ k5, by rw [List.length_map, k7.len]; simpa using c, ?_⟩
  obtain ⟨b1, sF1⟩ := r.base.grow s1 hq (vs := []) upd_same
  obtain ⟨b2, sF2⟩ := b1.upd_hid (a := U) (vs' := as.map V.ref ++ [V.ref q]) (List.mem_cons_of_mem _ k3) k4 (s1 _ _ k5) (fun i d b hi e1 e2 => by
    have ni : i ≠ iu := fun z => r.nown (z ▸ hi)
    exact (k8 i d b hi (by rw [← set_getElem? ni]; exact e1) e2).1)
  have sF := sF1.trans sF2
  refine z σ _ (q :: O) ⟨by rw [List.set_set]; exact b2, r.nown, U, as ++ [q], dss ++ [[]], by rw [List.getElem?_set_self hlt]; simp, k2, List.mem_cons_of_mem _ k3, k4, by rw [upd_same]; simp, ?_, ⟨?_, ?_, fun j a ds e1 e2 => ?_⟩, fun i d b hi e1 e2 => ?_⟩ sF
  · rw [List.mem_append]; rintro (h | h)
    · exact k6 h
    · simp at h; exact nU h
  · simp [k7.len]
  · rw [List.nodup_append]
    refine ⟨k7.nd, by simp, fun a ha b hb => ?_⟩
    simp at hb; subst hb
    exact fun z => nq (z ▸ mO a ha)
  · by_cases hj : j < as.length
    · rw [List.getElem?_append_left hj] at e1
      rw [List.getElem?_append_left (by rw [← k7.len]; exact hj)] at e2
      obtain ⟨g1, g2, vs, g3, g4⟩ := k7.mem j a ds e1 e2
      have na : a ≠ U := fun z => k6 (z ▸ List.mem_of_getElem? e1)
      exact ⟨List.mem_cons_of_mem _ g1, g2, vs, by rw [upd_ne na]; exact s1 _ _ g3, g4.mono sF⟩
    · rw [List.getElem?_append_right (by omega)] at e1
      rw [List.getElem?_append_right (by rw [← k7.len]; omega)] at e2
      obtain ⟨n, hn⟩ : ∃ n, j - as.length = n := ⟨_, rfl⟩
      rw [← k7.len] at e2
      rw [hn] at e1 e2
      cases n with
      | succ n => simp at e1
      | zero =>
        simp at e1 e2
        subst e1 e2
        exact ⟨List.mem_cons_self, r.same.free hq, [], by rw [upd_ne (Ne.symm nU)]; exact upd_same, .nil⟩
  · have ni : i ≠ iu := fun z => r.nown (z ▸ hi)
    rw [List.getElem?_set_ne (Ne.symm ni)] at e1
    obtain ⟨g1, g2⟩ := k8 i d b hi e1 e2
    refine ⟨g1, fun z => ?_⟩
    rcases List.mem_append.mp z with z | z
    · exact g2 z
    · simp at z
      subst z
      obtain ⟨a', us, es, w0, w1, w2, w3, w4, w5⟩ := r.base.mine i d hi (by rw [set_getElem? ni]; exact e1)
      rw [w1] at e2
      cases e2
      exact nq w2
end
/-- x[k].insert(i, e), x the list of lists -/
def sIns (iu : Nat) (fk : Vars → R PyData) (fa : Vars → R (List PyData)) (ρ : Vars) : Out := match ρ.getD iu none with
  | some (.list ls) => (fk ρ).run ρ fun k => match k with
    | .int k => match ixN ls.length k with
      | some j => match ls[j]? with
        | some (.list ds) => (fa ρ).run ρ fun as => match as with
          | [.int i, d] => if (decide (0 ≤ i) && decide (i.natAbs < 2 ^ 62) && decide (ds.length < sizeLine) && imm d) = true then .nx (ρ.set iu (some (.list (ls.set j (.list (ds.take i.toNat ++ [d] ++ ds.drop i.toNat)))))) else .bad
          | _ => .bad
        | _ => .bad
      | none => .bad
    | _ => .bad
  | _ => .bad
section
variable {x : Str} {k e1 e2 : Expr} {fk : Vars → R PyData} {fa : Vars → R (List PyData)} {p p2 apos cpos pos : Pos}
theorem dx_ins (hk : EX X W k fk) (h : AX X W [e1, e2] fa) (hpi : PlainIx k) (hN : X.N[iu]? = some x := by rfl) (hv : Vis X.env.scope x := by first | exact Or.inl rfl | exact Or.inr (Or.inl rfl) | exact Or.inr (Or.inr rfl)) (hd : (x == ("__debug__" : Str)) = false := by decide)
    (hcd : (x == ("__classdict__" : Str)) = false := by decide)
    (hbase : attributeBase (.Subscript (.Name x p) k p2) "insert" X.env (eval (.Subscript (.Name x p) k p2) X.env) = eval (.Subscript (.Name x p) k p2) X.env := by rfl)
    (hfew : ((backTo cpos (starEach [e1, e2] X.env)).all (fun x => !x.1) && (backToKw cpos (keywordEach [] X.env)).all (fun x => x.1.isSome)
      && decide (([e1, e2] : List Expr).length + ([] : List Keyword).length + (if ([] : List Keyword).isEmpty then 0 else 1) < 30)) = true := by rfl)
    (hline : (apos.endLine == cpos.line) = true := by rfl) (hs : starEach [e1, e2] X.env = (false, eval e1 X.env) :: starEach [e2] X.env := by rfl) (hplain : (backTo cpos (starEach [e2] X.env)).any (·.1) = false := by rfl)
    (hsw : swapsWith (.Call (.Attribute (.Subscript (.Name x p) k p2) "insert" apos) [e1, e2] [] cpos) none pos.line X.env = pure false := by rfl) :
    DX X W own iu (.Expr (.Call (.Attribute (.Subscript (.Name x p) k p2) "insert" apos) [e1, e2] [] cpos) pos) (sIns iu fk fa) := by
  obtain ⟨t, q, ht⟩ := hk
  obtain ⟨u, q2, hu⟩ := h
  refine ⟨_, ps_expr (pe_bm PySem.F.plainAttrs_list PySem.F.slot_list_insert PySem.F.type_list_insert mt_insert (pe_ix L2.ix_seq (pe_var hN hv hd hcd) q hpi) q2 hbase hfew hline hs hplain) hsw, fun σ H ρ D H0 O0 O r z => ?_⟩
  unfold sIns at z
  obtain ⟨ls, e1', z⟩ := getD_listD z
  obtain ⟨U, as, dss, rfl, hlt, k2, k3, k4, k5, k6, k7, k8⟩ := deep_of r e1'
  refine ⟨.ref U, k2, ht σ H O0 ρ _ r.stands0 r.vrel0 (EOut.runD r z fun kd kv H1 s1 rk z1 r1 => ?_)⟩
  cases rk with
  | int kk =>
    dsimp only at z1
    cases e3 : ixN (dss.map PyData.list).length kk with
    | none => rw [e3] at z1; exact z1.elim
    | some j =>
      rw [e3] at z1
      dsimp only at z1
      cases e4 : (dss.map PyData.list)[j]? with
      | none => rw [e4] at z1; exact z1.elim
      | some dl =>
        rw [e4] at z1
        obtain ⟨ds, e5, e6⟩ : ∃ ds, dss[j]? = some ds ∧ dl = .list ds := by
          rw [List.getElem?_map] at e4
          cases e5 : dss[j]? with
          | none => rw [e5] at e4; cases e4
          | some ds => rw [e5] at e4; cases e4; exact ⟨ds, rfl, rfl⟩
        subst e6
        dsimp only at z1
        have hjl : j < dss.length := (List.getElem?_eq_some_iff.mp e5).1
        obtain ⟨a, ea⟩ : ∃ a, as[j]? = some a := ⟨as[j]'(by rw [k7.len]; exact hjl), List.getElem?_eq_getElem _⟩
        obtain ⟨g1, g2, vs, g3, g4⟩ := k7.mem j a ds ea e5
        have hat : atI (as.map V.ref) kk = some (V.ref a) := by
          unfold atI
          rw [List.length_map, k7.len, ← List.length_map (f := PyData.list) (as := dss), e3]
          show (as.map V.ref)[j]? = _
          rw [List.getElem?_map, ea]; rfl
        refine .inl ⟨U, as.map V.ref, kk, .ref a, rfl, rfl, .inl (.inl (s1 _ _ k5)), hat, .inl ⟨rfl, vs, .inl (.inl (s1 _ _ g3))⟩, hu σ H1 O0 ρ _ r1.stands0 r1.vrel0 (AOut.runD r1 z1 fun das vas H2 s2 ra z2 r2 => ?_)⟩
        have s12 := s1.trans s2
        match das, ra, z2 with
        | [], _, z2 => exact z2.elim
        | [_], _, z2 => cases ‹PyData› <;> exact z2.elim
        | d1 :: d2 :: _ :: _, _, z2 => cases d1 <;> exact z2.elim
        | [d1, d2], ra, z2 =>
          obtain ⟨v, w, rfl, rv, rw'⟩ := rps_two ra
          cases rv with
          | int i =>
            dsimp only at z2
            by_cases c : (decide (0 ≤ i) && decide (i.natAbs < 2 ^ 62) && decide (ds.length < sizeLine) && imm d2) = true
            · rw [if_pos c] at z2
              rw [Bool.and_eq_true, Bool.and_eq_true, Bool.and_eq_true] at c
              obtain ⟨⟨⟨c1, c2⟩, c3⟩, c4⟩ := c
              have i0 := of_decide_eq_true c1
              have i1 := of_decide_eq_true c2
              have rO := r2.imm rw' c4
              refine ⟨a, vs, i, w, rfl, rfl, s12 _ _ g3, by rw [g4.length]; exact of_decide_eq_true c3, i0, by omega, ?_⟩
              obtain ⟨b2, sF⟩ := r2.base.upd_hid (a := a) (vs' := vs.take i.toNat ++ [w] ++ vs.drop i.toNat) g1 g2 (s12 _ _ g3) (fun n d b hi e1 e2 => by
                have ni : n ≠ iu := fun z => r.nown (z ▸ hi)
                exact fun z => (k8 n d b hi (by rw [← set_getElem? ni]; exact e1) e2).2 (z ▸ List.mem_of_getElem? ea))
              have na : a ≠ U := fun z => k6 (z ▸ List.mem_of_getElem? ea)
              refine z2 σ _ O ⟨by rw [List.set_set]; exact b2, r.nown, U, as, dss.set j (ds.take i.toNat ++ [d2] ++ ds.drop i.toNat), by rw [List.getElem?_set_self hlt, List.map_set], k2, k3, k4, by rw [upd_ne (Ne.symm na)]; exact s12 _ _ k5, k6, ⟨by rw [List.length_set]; exact k7.len, k7.nd, fun m b es h1 h2 => ?_⟩, fun n d b hi e1 e2 => ?_⟩ sF
              · by_cases cm : j = m
                · subst cm
                  rw [List.getElem?_set_self hjl] at h2
                  rw [ea] at h1
                  cases h1
                  cases h2
                  refine ⟨g1, g2, _, upd_same, ?_⟩
                  have g5 := (g4.mono (hide_same s12)).mono sF
                  exact ((g5.take i.toNat).append (.cons (rO.mono sF) .nil)).append (g5.drop i.toNat)
                · rw [List.getElem?_set_ne cm] at h2
                  obtain ⟨y1, y2, us, y3, y4⟩ := k7.mem m b es h1 h2
                  have nb : b ≠ a := fun z => by
                    subst z
                    have l1 : m < as.length := (List.getElem?_eq_some_iff.mp h1).1
                    have l2 : j < as.length := (List.getElem?_eq_some_iff.mp ea).1
                    rw [List.getElem?_eq_getElem l1] at h1
                    rw [List.getElem?_eq_getElem l2] at ea
                    exact cm ((List.getElem_inj k7.nd).mp (Option.some.inj (ea.trans h1.symm)))
                  exact ⟨y1, y2, us, by rw [upd_ne nb]; exact s12 _ _ y3, (y4.mono (hide_same s12)).mono sF⟩
              · have ni : n ≠ iu := fun z => r.nown (z ▸ hi)
                rw [List.getElem?_set_ne (Ne.symm ni)] at e1
                exact k8 n d b hi e1 e2
            · rw [if_neg c] at z2; exact z2.elim
          | _ => exact z2.elim
  | _ => exact z1.elim
end
/-- for .. in .. -/
def sForD (iu : Nat) (own : List Nat) (fi : Vars → R (List PyData)) (gt : PyData → Vars → Option Vars) (g : Vars → Out) (ρ : Vars) : Out := (fi (mask (iu :: own) ρ)).run ρ fun ds => forL gt g ds ρ
theorem dx_for {tg iter : Expr} {body : List Stmt} {js : List Nat} {fi : Vars → R (List PyData)} {gt : PyData → Vars → Option Vars} {g : Vars → Out} {pos : Pos} (hp : PassesOwn (model X.prog X.w) X.A X.env X.xe) (hc : X.calm = true) (hi : IX X W tg iter fi) (hg : GX X tg js gt) (hin : GtIn js gt) (ho : (js.all fun j => !(iu :: own).contains j) = true)
    (hb : DsX X W own iu body g) (hs : ∀ x, foldedSetIterable iter X.env x = pure x := by intro _; rfl) : DX X W own iu (.For tg iter body [] pos) (sForD iu own fi gt g) := by
  obtain ⟨wi, p, hwi⟩ := hi
  obtain ⟨ok, tgt, q, hgt⟩ := hg
  obtain ⟨tb, pb, htb⟩ := hb
  have hj : ∀ j ∈ js, j ∉ iu :: own := fun j h z => by
    have := List.all_eq_true.mp ho j h
    rw [List.contains_iff_mem.mpr z] at this; cases this
  refine ⟨_, ps_for hp hc p q pb hs, fun σ H ρ D H0 O0 O r z => ?_⟩
  refine hwi σ H O (mask (iu :: own) ρ) _ r.stands r.vrelM ?_
  unfold sForD at z
  cases e : fi (mask (iu :: own) ρ) with
  | bad => rw [e] at z; exact z
  | err c => rw [e] at z; exact fun H' s => z σ H' O (r.step s) (hide_same s)
  | ok ds =>
    rw [e, R.run_ok] at z
    intro J H1 s1 hJ
    refine ⟨fun i m σ2 H2 => m = ds.length - i ∧ i ≤ ds.length ∧ ∃ O2 ρ2, RelD X.K own iu H0 O0 O2 σ2 H2 ρ2 ∧ Same (hide O H1) (hide O2 H2) ∧ DOut X W own iu H0 O0 O2 H2 D (forL gt g (ds.drop i) ρ2), ⟨ds.length, rfl, Nat.zero_le _, O, ρ, r.step s1, Same.refl _, DOut.from z (hide_same s1)⟩, ?_⟩
    rintro i m σ2 H2 ⟨rfl, hle, O2, ρ2, r2, sF, z2⟩
    obtain ⟨j1, j2⟩ := hJ i H2 O2 r2.stands sF
    by_cases hlt : i < ds.length
    · have hd : ds[i]? = some ds[i] := List.getElem?_eq_getElem hlt
      obtain ⟨g1, g2⟩ := j1 _ hd
      have hdrop : ds.drop i = ds[i] :: ds.drop (i + 1) := List.drop_eq_getElem_cons hlt
      rw [hdrop] at z2
      unfold forL at z2
      cases eg : gt ds[i] ρ2 with
      | none => rw [eg] at z2; exact z2.elim
      | some ρ3 =>
        rw [eg] at z2
        dsimp only at z2
        refine .inr ⟨g1, fun σ' H' => (i + 1 ≤ ds.length ∧ ∃ O2 ρ2, RelD X.K own iu H0 O0 O2 σ' H' ρ2 ∧ Same (hide O H1) (hide O2 H') ∧ DOut X W own iu H0 O0 O2 H' D (forL gt g (ds.drop (i + 1)) ρ2)),
          fun σ' H' hn => ⟨ds.length - (i + 1), by omega, rfl, hn.1, hn.2⟩, fun x H3 y => ?_⟩
        obtain ⟨s23, rx⟩ := g2 x H3 y
        have r3 := r2.step s23
        refine hgt x ds[i] σ2 H3 O2 (mask (iu :: own) ρ2) (mask (iu :: own) ρ3) _ r3.stands r3.vrelM rx (ok.msk (iu :: own) _ ρ2 ρ3 hj eg) fun σ3 v3 l3 f3 => ?_
        have r4 : RelD X.K own iu H0 O0 O2 σ3 H3 ρ3 := r3.other hj l3 v3 f3 (hin.out _ ρ2 ρ3 eg)
        have sF3 : Same (hide O H1) (hide O2 H3) := sF.trans (hide_same s23)
        refine htb σ3 H3 ρ3 _ H0 O0 O2 r4 ?_
        cases eb : g ρ3 with
        | nx ρ4 =>
          rw [eb] at z2
          exact fun σ5 H5 O5 r5 s5 => ⟨hlt, O5, ρ4, r5, sF3.trans s5, DOut.from z2 ((hide_same s23).trans s5)⟩
        | err c ρ4 =>
          rw [eb] at z2
          exact fun σ5 H5 O5 r5 s5 => z2 σ5 H5 O5 r5 ((hide_same s23).trans s5)
        | ct ρ4 =>
          rw [eb] at z2
          exact fun σ5 H5 O5 r5 s5 => ⟨hlt, O5, ρ4, r5, sF3.trans s5, DOut.from z2 ((hide_same s23).trans s5)⟩
        | bk ρ4 =>
          rw [eb] at z2
          exact fun σ5 H5 O5 r5 s5 => z2 σ5 H5 O5 r5 ((hide_same s23).trans s5)
        | rt d => rw [eb] at z2; exact z2
        | bad => rw [eb] at z2; exact z2
    · have e3 : i = ds.length := by omega
      subst e3
      refine .inl ⟨j2 (Nat.le_refl _), ?_⟩
      rw [List.drop_length] at z2
      exact z2 σ2 H2 O2 r2 (Same.refl _)
end
/-! a def's body -/
section
variable (X : Cx) (E : XK)
def BDX (own : List Nat) (iu : Nat) (sts : List Stmt) (g : Vars → Out) : Prop :=
  ∃ t, PSs X sts t ∧ ∀ σ H ρ Q H0 O0 O, RelD X.K own iu H0 O0 O σ H ρ → BOut X E H0 O0 Q (g ρ) → t { nx := fun _ H' => Q .non H', rt := Q } σ H
end
section
variable {X : Cx} {E : XK} {own : List Nat} {iu : Nat}
theorem BDX.cons {st : Stmt} {rest : List Stmt} {g h : Vars → Out} (a : DX X (WD E) own iu st g) (b : BDX X E own iu rest h) : BDX X E own iu (st :: rest) (sSeq g h) := by
  obtain ⟨t, p, ht⟩ := a
  obtain ⟨u, q, hu⟩ := b
  refine ⟨_, pss_cons p q, fun σ H ρ Q H0 O0 O r z => ht σ H ρ _ H0 O0 O r ?_⟩
  unfold sSeq at z
  cases e : g ρ with
  | nx ρ1 => rw [e] at z; exact fun σ1 H1 O1 r1 s1 => hu σ1 H1 ρ1 Q H0 O0 O1 r1 z
  | err c ρ' => rw [e] at z; exact fun σ' H' O' r' s' => z H' r'.same
  | rt d => rw [e] at z; exact z
  | bk _ => rw [e] at z; exact z.elim
  | ct _ => rw [e] at z; exact z.elim
  | bad => rw [e] at z; exact z.elim
/-- x = [[]], the first row -/
def sNewL (iu : Nat) (ρ : Vars) : Out := if iu < ρ.length then .nx (ρ.set iu (some (.list [.list []]))) else .bad
theorem BX.consD {x : Str} {lp lp2 pos' pos : Pos} {rest : List Stmt} {h : Vars → Out} (hN : X.N.Nodup) (hi : X.N[iu]? = some x) (hx : Loc X.env.scope x) (ho : own.contains iu = false) (b : BDX X E own iu rest h) (hs : swapsWith (.List [.List [] lp] lp2) (some (.Name x pos')) pos.line X.env = pure false := by rfl) (hst : starEach [.List [] lp] X.env = (false, eval (.List [] lp) X.env) :: starEach [] X.env := by rfl) (hf : X.fn x = true ∨ X.env.scope.names.lookup x = some .local := by first | exact .inl rfl | exact .inr rfl | assumption) :
    BX X E own (.Assign [.Name x pos'] (.List [.List [] lp] lp2) pos :: rest) (sSeq (sNewL iu) h) := by
  obtain ⟨u, q, hu⟩ := b
  have hi' : iu ∉ own := fun z => by rw [List.contains_iff_mem.mpr z] at ho; cases ho
  refine ⟨_, pss_cons (ps_set hN hi hx (pe_lst (pa_cons (pe_lst pa_nil) pa_nil hst)) hs hf) q, fun σ H ρ Q H0 O0 O r z => ?_⟩
  unfold sSeq sNewL at z
  by_cases c : iu < ρ.length
  case neg => rw [if_neg c] at z; exact z.elim
  rw [if_pos c] at z
  refine ⟨Nat.zero_le _, fun p hp => ⟨sz1, fun U hU => hu _ _ _ _ H0 O0 (U :: p :: O) ?_ z⟩⟩
  have s1 : Same H (upd H p (.lst [])) := same_new hp
  have nU : p ≠ U := fun e => by rw [← e, upd_same] at hU; cases hU
  obtain ⟨b1, sF1⟩ := r.grow s1 hp (vs := []) upd_same
  obtain ⟨b2, sF2⟩ := b1.grow (same_new (o := .lst [V.ref p]) hU) hU (vs := [V.ref p]) upd_same
  have hl := r.len
  have hUn : H U = none := by
    have := hU
    rw [upd_ne (Ne.symm nU)] at this
    exact this
  refine ⟨by rw [List.set_set]; exact b2.none hi', hi', U, [p], [[]], by rw [List.getElem?_set_self c]; rfl, List.getElem?_set_self (by omega), List.mem_cons_self, r.same.free hUn, by rw [upd_same]; rfl, by simpa using Ne.symm nU, ⟨rfl, by simp, fun j a ds e1 e2 => ?_⟩, fun i d b hb e1 e2 => ?_⟩
  · cases j with
    | succ j => simp at e1
    | zero =>
      simp at e1 e2
      subst e1 e2
      exact ⟨by simp, r.same.free hp, [], by rw [upd_ne nU]; exact upd_same, .nil⟩
  · have ni : i ≠ iu := fun z => hi' (z ▸ hb)
    rw [List.getElem?_set_ne (Ne.symm ni)] at e1 e2
    obtain ⟨a', us, es, w0, w1, w2, w3, w4, w5⟩ := r.mine i d hb e1
    rw [w1] at e2
    cases e2
    refine ⟨fun z => ?_, fun z => ?_⟩
    · subst z; rw [w4] at hUn; cases hUn
    · simp at z; subst z; rw [w4] at hp; cases hp
theorem BDX.freeze {sts : List Stmt} {g : Vars → Out} {own' : List Nat} (b : BX X E own' sts g) (ho : (own'.all fun i => own.contains i) = true) : BDX X E own iu sts g := by
  obtain ⟨t, p, ht⟩ := b
  refine ⟨t, p, fun σ H ρ Q H0 O0 O r z => ?_⟩
  obtain ⟨O1, r1, _⟩ := r.freeze
  obtain ⟨O2, r2, _⟩ := r1.freeze (own' := own') fun i hi => List.contains_iff_mem.mp (List.all_eq_true.mp ho i hi)
  exact ht σ H ρ Q H0 O0 O2 r2 z
end
end Pu
set_option Elab.async false
set_option linter.all false
set_option maxRecDepth 100000
set_option maxHeartbeats 4000000
namespace Pu
open PySem PySem.Spec PyProof.Rows L2
section
variable (ρ : Vars)
@[simp] theorem u_sNewL (iu : Nat) : sNewL iu ρ = if iu < ρ.length then .nx (ρ.set iu (some (.list [.list []]))) else .bad := rfl
@[simp] theorem u_sNewD (iu : Nat) (own : List Nat) (i : Nat) (f : Vars → R (List PyData)) : sNewD iu own i f ρ = (f (mask (iu :: own) ρ)).run ρ fun ds => .nx (ρ.set i (some (.list ds))) := rfl
@[simp] theorem u_sSetD (i : Nat) (f : Vars → R PyData) : sSetD i f ρ = (f ρ).run ρ fun d => if imm d = true then .nx (ρ.set i (some d)) else .bad := rfl
@[simp] theorem u_sForD (iu : Nat) (own : List Nat) (fi : Vars → R (List PyData)) (gt : PyData → Vars → Option Vars) (g : Vars → Out) : sForD iu own fi gt g ρ = (fi (mask (iu :: own) ρ)).run ρ fun ds => forL gt g ds ρ := rfl
@[simp] theorem u_sAppN (iu : Nat) : sAppN iu ρ = match ρ.getD iu none with
  | some (.list ls) => if ls.length < sizeLine then .nx (ρ.set iu (some (.list (ls ++ [.list []])))) else .bad
  | _ => .bad := rfl
@[simp] theorem u_sIns (iu : Nat) (fk : Vars → R PyData) (fa : Vars → R (List PyData)) : sIns iu fk fa ρ = match ρ.getD iu none with
  | some (.list ls) => (fk ρ).run ρ fun k => match k with
    | .int k => match ixN ls.length k with
      | some j => match ls[j]? with
        | some (.list ds) => (fa ρ).run ρ fun as => match as with
          | [.int i, d] => if (decide (0 ≤ i) && decide (i.natAbs < 2 ^ 62) && decide (ds.length < sizeLine) && imm d) = true then .nx (ρ.set iu (some (.list (ls.set j (.list (ds.take i.toNat ++ [d] ++ ds.drop i.toNat)))))) else .bad
          | _ => .bad
        | _ => .bad
      | none => .bad
    | _ => .bad
  | _ => .bad := rfl
end
/-! ### reversed(list or tuple), walked -/
theorem iterRevL {K : PySem.W.Frag} {F : Hp} {a : Addr} {xs : List V} {ds : List PyData} (h : SqL K F a xs) (r : Rps K F xs ds) : IterOk K (Itv K a xs.length) F ds.reverse := fun i H O hO s => by
  have s' : Same F H := s.trans hide_sub
  have hH : SqL K H a xs := seqL s' h
  have hl := r.length
  refine ⟨fun d e => ?_, fun l => by rw [List.length_reverse] at l; show xs.length ≤ i; omega⟩
  have hi : i < ds.length := by
    have := (List.getElem?_eq_some_iff.mp e).1
    simpa using this
  rw [List.getElem?_reverse hi] at e
  obtain ⟨v, h1, h2⟩ := r.get e
  rw [← hl] at h1
  refine ⟨⟨by omega, xs, v, hH, h1⟩, fun x H' y => ?_⟩
  obtain ⟨rfl, y⟩ := y
  have h3 := y xs hH
  rw [h1] at h3
  cases h3
  exact ⟨Same.refl _, h2.mono s⟩
theorem iterRevT {K : PySem.W.Frag} {F : Hp} {a : Addr} {xs : List V} {ds : List PyData} (h : SqT K F a xs) (r : Rps K F xs ds) : IterOk K (RT.ItvT K a xs.length) F ds.reverse := fun i H O hO s => by
  have s' : Same F H := s.trans hide_sub
  have hH : SqT K H a xs := seqT s' h
  have hl := r.length
  refine ⟨fun d e => ?_, fun l => by rw [List.length_reverse] at l; show xs.length ≤ i; omega⟩
  have hi : i < ds.length := by
    have := (List.getElem?_eq_some_iff.mp e).1
    simpa using this
  rw [List.getElem?_reverse hi] at e
  obtain ⟨v, h1, h2⟩ := r.get e
  rw [← hl] at h1
  refine ⟨⟨by omega, xs, v, hH, h1⟩, fun x H' y => ?_⟩
  obtain ⟨rfl, y⟩ := y
  have h3 := y xs hH
  rw [h1] at h3
  cases h3
  exact ⟨Same.refl _, h2.mono s⟩
def iRevD (f : Vars → R PyData) (ρ : Vars) : R (List PyData) := (f ρ).bind fun d => match d with
  | .list ds => .ok ds.reverse
  | .tuple ds => .ok ds.reverse
  | _ => .bad
@[simp] theorem u_iRevD (f : Vars → R PyData) (ρ : Vars) : iRevD f ρ = (f ρ).bind fun d => match d with
  | .list ds => .ok ds.reverse
  | .tuple ds => .ok ds.reverse
  | _ => .bad := rfl
section
variable {X : Cx} {W : WX} {tg : Expr}
theorem ix_rev {e : Expr} {f : Vars → R PyData} {p pos : Pos} (hg : Gl X "reversed") (hm : X.mg "reversed" = none) (h : EX X W e f) (hs : starEach [e] X.env = (false, eval e X.env) :: starEach [] X.env := by rfl) : IX X W tg (.Call (.Name "reversed" p) [e] [] pos) (iRevD f) := by
  obtain ⟨t, q, ht⟩ := h
  refine ⟨_, RT.pi_revA hg hm q hs, fun σ H O ρ Q hO hv z => ht σ H O ρ _ hO hv ?_⟩
  unfold iRevD at z
  cases e : f ρ with
  | bad => rw [e] at z; exact z
  | err c => rw [e] at z; exact z
  | ok d =>
    rw [e, R.bind_ok] at z
    intro v H1 s1 r1
    cases r1 with
    | @lst a xs ds hx rs => exact ⟨a, xs, rfl, .inl ⟨seqL hide_sub hx, z _ H1 s1 (iterRevL hx rs)⟩⟩
    | @tup a xs ds hx rs => exact ⟨a, xs, rfl, .inr ⟨seqT hide_sub hx, z _ H1 s1 (iterRevT hx rs)⟩⟩
    | _ => exact z.elim
end
/-! ### an error that is of no other class -/
theorem kitOne_no {K : PySem.W.Frag} {C CY : Addr} (hd : PySem.W.hasDictIn K CY = true) (ty : PySem.W.typeIn K (.ref CY) = some (.type "type")) (sb : PySem.W.subIn K (.ref C) (.ref CY) = some false) (sf : PySem.W.subIn K (.ref CY) (.ref CY) = some true) : PySem.W.kitOne K (.ref C) (.ref CY) = some false := by
  obtain ⟨cd, hc, _⟩ := PySem.W.any_some hd
  have ne : (Value.ref C == Value.ref CY) = false := by
    refine beq_eq_false_iff_ne.mpr fun e => ?_
    rw [e, sf] at sb
    cases sb
  unfold PySem.W.kitOne
  rw [ne, if_neg Bool.false_ne_true]
  show (if ((PySem.W.clsIn K CY).isSome && PySem.W.typeIn K (.ref CY) == some (.type "type")) = true then PySem.W.subIn K (.ref C) (.ref CY) else none) = some false
  have e2 : ((PySem.W.clsIn K CY).isSome && PySem.W.typeIn K (.ref CY) == some (.type "type")) = true := by rw [hc, ty] <;> rfl
  rw [if_pos e2]; exact sb
theorem kitY_consF {K : PySem.W.Frag} {mg : Str → Option Value} {c y : Str} {l : List (Str × Bool)} {C CY : Addr} (hc : mg c = some (.ref C)) (hy : mg y = some (.ref CY)) (E : ExcC K C) (h5 : PySem.W.hasDictIn K CY = true) (h6 : PySem.W.typeIn K (.ref CY) = some (.type "type")) (h7 : PySem.W.subIn K (.ref C) (.ref CY) = some false) (h8 : PySem.W.subIn K (.ref CY) (.ref CY) = some true) (r : KitY K mg y l) : KitY K mg y ((c, false) :: l) := by
  obtain ⟨CY', h', r'⟩ := r
  rw [hy] at h'
  cases h'
  exact ⟨CY, hy, kitL_cons hc E (kitOne_no h5 h6 h7 h8) r'⟩
end Pu
set_option Elab.async false
set_option linter.all false
set_option maxRecDepth 100000
set_option maxHeartbeats 4000000
namespace Pu
open PySem PySem.Spec PyProof.Rows L2
open PySem.AutoSeq1 (wpAny_loadPart')
/-! ### enumerate(tuple) -/
theorem meets_enumerate_newT (l : Addr) (items : Array Value) (n : Nat) (dct : Option Addr) (sl : Array (Option Value)) :
    Meets (Builtin.«enumerate.__new__» ⟨[.type "enumerate", .ref l], []⟩) (fun _ R s => s.heap.get? l = some { cls := .type "tuple", dict := dct, data := .seq items n, slots := sl } ∧
      R (.ok (.ret (.ref (s.heap.push { cls := .type "tuple_iterator", data := .fields #[.ref l, .int 0 0] }).objs.size)))
        { s with heap := (s.heap.push { cls := .type "tuple_iterator", data := .fields #[.ref l, .int 0 0] }).push { cls := .type "enumerate", data := .fields #[.none, .bool false, .ref s.heap.objs.size, rawInt 0, .none, .none] } }) :=
  .of_wp fun prog w A R s h => by
    obtain ⟨hp, g, d, tk, os⟩ := s; obtain ⟨hl, h⟩ := h
    have hsub := sub_enumerate
    have hL : Heap.IsTuple (Shared.heap ⟨hp, g, d, tk, os⟩) l items := ⟨_, hl, rfl, n, rfl⟩
    wp_walk using wpAny_loadPart' hl
    refine wpAny_stack_any fun st => wpAny_pure ?_
    split
    · rename_i c _ _ _ _ _
      cases (c == Value.type "enumerate")
      · wp_walk using wpAny_loadPart' hl, wpAny_pyIter_tuple hL
        exact ⟨_, rfl, h⟩
      · wp_walk using wpAny_loadPart' hl, wpAny_pyIter_tuple hL
        exact ⟨_, rfl, h⟩
    · wp_walk using wpAny_loadPart' hl, wpAny_pyIter_tuple hL
      exact ⟨_, rfl, h⟩
theorem call_enumerate_tup {prog : Program} {w : World} {A : Around} {E : Value → Shared → Prop} {s : Shared} {l : Addr} {items : Array Value} {Q : Value → Shared → Prop} (hL : s.heap.IsTuple l items)
    (h : ∀ h', IsEnum h' (s.heap.objs.size + 1) s.heap.objs.size 0 .none → h'.IsTupleIter s.heap.objs.size l 0 → h'.objs.size = s.heap.objs.size + 2 →
      (∀ b o, s.heap.get? b = some o → h'.get? b = some o) → Q (.ref (s.heap.objs.size + 1)) { s with heap := h' }) :
    wpAny (model prog w) A (call (.type "enumerate") [.ref l]) Q E s := by
  obtain ⟨⟨c, dct, dt, sl⟩, hl, hc, n, hd⟩ := hL
  replace hc : c = .type "tuple" := hc
  replace hd : dt = .seq items n := hd
  subst hc hd
  refine callType_new F.called_enumerate (by decide) (F.typeCall_enumerate_1 _) (F.newCall_enumerate_1 _) (fun obj => F.args_object_init_2 obj _) F.entry_enumerate_new
    (meets_enumerate_newT l items n dct sl) ⟨hl, ?_⟩
  have hz : (s.heap.push { cls := .type "tuple_iterator", data := .fields #[.ref l, .int 0 0] }).objs.size = s.heap.objs.size + 1 := Heap.size_push ..
  show _ ∧ _
  rw [hz]
  have he : IsEnum ((s.heap.push { cls := .type "tuple_iterator", data := .fields #[.ref l, .int 0 0] }).push
      { cls := .type "enumerate", data := .fields #[.none, .bool false, .ref s.heap.objs.size, rawInt 0, .none, .none] }) (s.heap.objs.size + 1) s.heap.objs.size 0 .none := by
    have := Heap.get?_push_size (s.heap.push { cls := .type "tuple_iterator", data := .fields #[.ref l, .int 0 0] })
      (o := { cls := .type "enumerate", data := .fields #[.none, .bool false, .ref s.heap.objs.size, rawInt 0, .none, .none] }) rfl
    rw [hz] at this; exact this
  refine ⟨⟨_, he, rfl⟩, h _ he ⟨_, Heap.get?_push_of_some _ (Heap.get?_push_size _ rfl), rfl, rfl⟩ (by rw [Heap.size_push, hz]) fun b o x => Heap.get?_push_of_some _ (Heap.get?_push_of_some _ x)⟩
/-- the tuple at a, each item in a new pair with its place -/
def IteT (K : PySem.W.Frag) (a : Addr) : It :=
  ⟨fun i H => ∃ (xs : List V) (x : V), SqT K H a xs ∧ xs[i]? = some x, fun i H v H' => ∃ T x, v = .ref T ∧ H T = none ∧ H' = upd H T (.tup [.int (i : Nat), x]) ∧ ∀ xs, SqT K H a xs → xs[i]? = some x, fun i H => ∃ xs : List V, SqT K H a xs ∧ xs.length ≤ i⟩
theorem turn_enumT {P : Program} {w : World} {K : PySem.W.Frag} {elts : List Expr} {kk : Nat} {tpos : Pos} (a e it : Addr) :
    Turn P w K (.Tuple elts kk tpos) (IteT K a) [e, it] e (fun i h => (∃ old, IsEnum h e it ((i : Nat) : Int) old) ∧ h.IsTupleIter it a i ∧ e ≠ it ∧ a ≠ e ∧ a ≠ it) where
  mem := by simp
  obj := fun i h st b hb => by
    obtain ⟨⟨old, he⟩, ⟨o, ho, hc, hd⟩, _⟩ := st
    have e' : b = e ∨ b = it := by simpa using hb
    rcases e' with z | z
    · rw [z]; exact ⟨_, he, fun v q => nomatch q⟩
    · rw [z]; exact ⟨o, ho, fun v q => by rw [hd] at q; cases q⟩
  keep := fun i h h' st k => let ⟨⟨old, he⟩, hi, hne⟩ := st; ⟨⟨old, k e (by simp) _ he⟩, hi.at fun o q => k it (by simp) o q, hne⟩
  item := by
    intro X hP hw hK hc i pins s σ H E I hf st hg
    subst hP hw hK
    obtain ⟨⟨old, he⟩, hit, hne, hae, hai⟩ := st
    obtain ⟨xs, x, hq, hx⟩ := hg
    obtain ⟨its, rv, p, hz⟩ := I.tuple hq
    obtain ⟨u, hu, ru⟩ := rv.get hx
    have hel : e < s.heap.objs.size := Heap.lt_size he
    have hil : it < s.heap.objs.size := by obtain ⟨_, q, _⟩ := hit; exact Heap.lt_size q
    have hlt : i < its.toArray.size := by
      have := (List.getElem?_eq_some_iff.mp hu).1
      simpa using this
    have D := Draws.tuple (prog := X.prog) (w := X.w) (A := X.A.in1) (I.ok.hd hc) it a hai its.toArray
    refine wpAny_pyNext_enum_itemD D he ⟨hit, p⟩ hlt hne (by simp [hne, Ne.symm hae]) fun y h' tk hy ho hst' hT hsz hk => ?_
    have ey : y = u := by
      have : its.toArray[i]? = some u := by simpa using hu
      rw [this] at hy; exact (Option.some.inj hy).symm
    subst ey
    obtain ⟨hit', _⟩ := hst'
    refine ⟨_, rfl, wpAny_letOwnedTupleGo_enum (s := { s with heap := h', toks := tk + 1 }) ho fun h'' he' sb => ?_⟩
    have hT2 : h''.get? s.heap.objs.size = some { cls := .type "tuple", data := .seq #[.int i tk, y] } := (sb.2 _ (Nat.ne_of_gt hel)).trans hT
    have new : ObjOk X.prog X.w (upd H s.heap.objs.size (.tup [.int (i : Nat), x])) h'' s.heap.objs.size (.tup [.int (i : Nat), x]) :=
      ⟨by show 2 ≤ sizeLine; decide, [.int i tk, y], .cons ⟨_, rfl⟩ (.cons ru .nil), ⟨_, hT2, rfl, _, rfl⟩⟩
    have I1 : Inv X pins σ (upd H s.heap.objs.size (.tup [.int (i : Nat), x])) { s with heap := h'', toks := tk + 1 } :=
      I.turnedNew (ch := [e, it]) (fun b ob hb q => (sb.2 b (fun z => hb (by simp [z]))).trans (hk b ob (fun z => hb (by simp [z])) (fun z => hb (by simp [z])) q)) hf (Nat.le_refl _) new
    refine ⟨.ref s.heap.objs.size, _, I1, rfl, ⟨_, x, rfl, I.hok.fresh (Nat.le_refl _), rfl, fun ys hy => by rw [I.tuple_inj hy hq]; exact hx⟩, ⟨⟨y, ?_⟩, hit'.at fun o q => (sb.2 it (Ne.symm hne)).trans q, hne, hae, hai⟩, fun b hb => ?_⟩
    · have e1 : ((i + 1 : Nat) : Int) = (i : Int) + 1 := by omega
      rw [e1]; exact he'
    · have hb' : b < s.heap.objs.size := by
        have e' : b = e ∨ b = it := by simpa using hb
        rcases e' with z | z
        · rw [z]; exact hel
        · rw [z]; exact hil
      rw [upd_ne (Nat.ne_of_lt hb')]
      exact (hf b hb).1
  done := by
    intro X hP hw hK hc i pins s σ H E I hf st hg
    subst hP hw hK
    obtain ⟨⟨old, he⟩, hit, hne, hae, hai⟩ := st
    obtain ⟨xs, hq, hx⟩ := hg
    obtain ⟨its, rv, p, hz⟩ := I.tuple hq
    obtain ⟨f0, f1, f2, f3, f4, f5⟩ := hf it (by simp)
    have hl := rv.length
    have hT : s.TypeIs (.ref e) "enumerate" := ⟨_, he, rfl⟩
    unfold pyNext
    refine wpAny_bind (wpAny_attempt (wpAny_callSpecial?_slot (name := Str.ofString "__next__") hT F.slot_enumerate_next
      (wpAny_call_entry F.slot_enumerate_next hT F.entry_enumerate_next ?_ (F.args_enumerate_next_1 _))))
    show wpAny _ _ (field (.ref e) 2 >>= _) _ _ _
    refine wpAny_bind (wpAny_field he rfl (x := .ref it) rfl ?_)
    refine wpAny_bind (wpAny_nextOf_tuple_end (I.ok.hd hc) hit p (by simp; omega) fun h' x he' hx' => ?_)
    obtain ⟨o, ho, hc⟩ := hx'
    refine wpAny_bind (wpAny_isInstance (T := "StopIteration") (b := true) ⟨o, ho, hc⟩ isSubtype_stop ?_)
    exact wpAny_pure ⟨rfl, I.turned (t' := s.toks) (fun b o hb e => he' b o hb e) f0 f1 f3 f4 f5⟩
  self := fun A i s Q E st h => let ⟨⟨_, he⟩, _⟩ := st; wpAny_pyIter_enum he h
def iEnumA (K : PySem.W.Frag) (te : TE) : TI := fun σ H R => te σ H fun v H1 => ∃ a xs, v = .ref a ∧ ((SqL K H1 a xs ∧ R (Ite K a) H1) ∨ (SqT K H1 a xs ∧ R (IteT K a) H1))
theorem pi_enumA {X : Cx} {e : Expr} {te : TE} {p pos tpos : Pos} {elts : List Expr} {kk : Nat} (hg : Gl X "enumerate") (hm : X.mg "enumerate" = none) (he : PE X e te) (hs : starEach [e] X.env = (false, eval e X.env) :: starEach [] X.env := by rfl) :
    PI X (.Tuple elts kk tpos) (.Call (.Name "enumerate" p) [e] [] pos) (iEnumA X.K te) := by
  refine ⟨fun pins s σ H R I h => ?_⟩
  refine Call_ (ld_blt I hg hm boot_enumerate (PyProof.Rows.callWith_type1 (args_cons (thn (he.run pins s σ H _ I h) fun u s1 ⟨v, H1, I1, r1, q1⟩ => args_nil ?_) hs) hs rfl))
  obtain ⟨a, xs, ev, q⟩ := q1
  subst ev
  obtain rfl : u = Value.ref a := r1
  rcases q with ⟨hq, q⟩ | ⟨hq, q⟩
  · obtain ⟨its, rv, p', hz⟩ := I1.list hq
    refine call_enumerate_list p'.isList fun h' he hit hsz hk => wpAny_pyIter_enum he ?_
    have I2 : Inv X pins σ H1 { s1 with heap := h' } := I1.kept (t' := s1.toks) hk
    refine ⟨s1.heap.objs.size + 1, [s1.heap.objs.size + 1, s1.heap.objs.size], _, _, H1, rfl, I2, turn_enum a (s1.heap.objs.size + 1) s1.heap.objs.size, ⟨⟨.none, he⟩, hit, Nat.succ_ne_self _⟩, fun b hb => ?_, q⟩
    have e' : b = s1.heap.objs.size + 1 ∨ b = s1.heap.objs.size := by simpa using hb
    have hle : s1.heap.objs.size ≤ b := by
      rcases e' with z | z
      · rw [z]; exact Nat.le_add_right _ _
      · rw [z]; exact Nat.le_refl _
    exact I1.fpOk hle (I1.hok.fresh hle)
  · obtain ⟨its, rv, p', hz⟩ := I1.tuple hq
    refine call_enumerate_tup p' fun h' he hit hsz hk => wpAny_pyIter_enum he ?_
    have I2 : Inv X pins σ H1 { s1 with heap := h' } := I1.kept (t' := s1.toks) hk
    have hal : a < s1.heap.objs.size := by obtain ⟨o, ho, _⟩ := p'; exact Heap.lt_size ho
    refine ⟨s1.heap.objs.size + 1, [s1.heap.objs.size + 1, s1.heap.objs.size], _, _, H1, rfl, I2, turn_enumT a (s1.heap.objs.size + 1) s1.heap.objs.size, ⟨⟨.none, he⟩, hit, Nat.succ_ne_self _, Nat.ne_of_lt (Nat.lt_succ_of_lt hal), Nat.ne_of_lt hal⟩, fun b hb => ?_, q⟩
    have e' : b = s1.heap.objs.size + 1 ∨ b = s1.heap.objs.size := by simpa using hb
    have hle : s1.heap.objs.size ≤ b := by
      rcases e' with z | z
      · rw [z]; exact Nat.le_add_right _ _
      · rw [z]; exact Nat.le_refl _
    exact I1.fpOk hle (I1.hok.fresh hle)
/-- the items with their places -/
def enumD : Nat → List PyData → List PyData
  | _, [] => []
  | k, d :: ds => .tuple [.int (k : Nat), d] :: enumD (k + 1) ds
theorem enumD_len : ∀ (k : Nat) (ds : List PyData), (enumD k ds).length = ds.length
  | _, [] => rfl
  | k, _ :: ds => by rw [enumD, List.length_cons, enumD_len (k + 1) ds, List.length_cons]
theorem enumD_get : ∀ (k : Nat) (ds : List PyData) (i : Nat), (enumD k ds)[i]? = (ds[i]?).map fun d => .tuple [.int ((k + i : Nat) : Int), d]
  | _, [], _ => by simp [enumD]
  | k, d :: ds, 0 => by simp [enumD]
  | k, d :: ds, i + 1 => by
    rw [enumD, List.getElem?_cons_succ, List.getElem?_cons_succ, enumD_get (k + 1) ds i, show k + 1 + i = k + (i + 1) by omega]
theorem iterEL {K : PySem.W.Frag} {F : Hp} {a : Addr} {xs : List V} {ds : List PyData} (h : SqL K F a xs) (r : Rps K F xs ds) : IterOk K (Ite K a) F (enumD 0 ds) := fun i H O hO s => by
  have s' : Same F H := s.trans hide_sub
  have hH := seqL s' h
  refine ⟨fun d e => ?_, fun l => ⟨xs, hH, by rw [r.length]; rwa [enumD_len] at l⟩⟩
  rw [enumD_get] at e
  cases h1 : ds[i]? with
  | none => rw [h1] at e; cases e
  | some d1 =>
    rw [h1] at e
    cases e
    obtain ⟨v, h1, h2⟩ := r.get h1
    refine ⟨⟨xs, v, hH, h1⟩, fun x H' y => ?_⟩
    obtain ⟨T, x1, rfl, hT, rfl, y1⟩ := y
    have h3 := y1 xs hH
    rw [h1] at h3
    cases h3
    rw [Nat.zero_add]
    exact ⟨same_new hT, new_rep hO hT (.cons (.int _) (.cons (h2.mono s) .nil))⟩
theorem iterET {K : PySem.W.Frag} {F : Hp} {a : Addr} {xs : List V} {ds : List PyData} (h : SqT K F a xs) (r : Rps K F xs ds) : IterOk K (IteT K a) F (enumD 0 ds) := fun i H O hO s => by
  have s' : Same F H := s.trans hide_sub
  have hH := seqT s' h
  refine ⟨fun d e => ?_, fun l => ⟨xs, hH, by rw [r.length]; rwa [enumD_len] at l⟩⟩
  rw [enumD_get] at e
  cases h1 : ds[i]? with
  | none => rw [h1] at e; cases e
  | some d1 =>
    rw [h1] at e
    cases e
    obtain ⟨v, h1, h2⟩ := r.get h1
    refine ⟨⟨xs, v, hH, h1⟩, fun x H' y => ?_⟩
    obtain ⟨T, x1, rfl, hT, rfl, y1⟩ := y
    have h3 := y1 xs hH
    rw [h1] at h3
    cases h3
    rw [Nat.zero_add]
    exact ⟨same_new hT, new_rep hO hT (.cons (.int _) (.cons (h2.mono s) .nil))⟩
def iEnumD (f : Vars → R PyData) (ρ : Vars) : R (List PyData) := (f ρ).bind fun d => match d with
  | .list ds => .ok (enumD 0 ds)
  | .tuple ds => .ok (enumD 0 ds)
  | _ => .bad
@[simp] theorem u_iEnumD (f : Vars → R PyData) (ρ : Vars) : iEnumD f ρ = (f ρ).bind fun d => match d with
  | .list ds => .ok (enumD 0 ds)
  | .tuple ds => .ok (enumD 0 ds)
  | _ => .bad := rfl
theorem ix_enum {X : Cx} {W : WX} {e : Expr} {f : Vars → R PyData} {p pos tpos : Pos} {elts : List Expr} {kk : Nat} (hg : Gl X "enumerate") (hm : X.mg "enumerate" = none) (h : EX X W e f) (hs : starEach [e] X.env = (false, eval e X.env) :: starEach [] X.env := by rfl) : IX X W (.Tuple elts kk tpos) (.Call (.Name "enumerate" p) [e] [] pos) (iEnumD f) := by
  obtain ⟨t, q, ht⟩ := h
  refine ⟨_, pi_enumA hg hm q hs, fun σ H O ρ Q hO hv z => ht σ H O ρ _ hO hv ?_⟩
  unfold iEnumD at z
  cases e : f ρ with
  | bad => rw [e] at z; exact z
  | err c => rw [e] at z; exact z
  | ok d =>
    rw [e, R.bind_ok] at z
    intro v H1 s1 r1
    cases r1 with
    | @lst a xs ds hx rs => exact ⟨a, xs, rfl, .inl ⟨seqL hide_sub hx, z _ H1 s1 (iterEL hx rs)⟩⟩
    | @tup a xs ds hx rs => exact ⟨a, xs, rfl, .inr ⟨seqT hide_sub hx, z _ H1 s1 (iterET hx rs)⟩⟩
    | _ => exact z.elim
/-! ### tuples of ints: >= -/
def lexGeI : List Int → List Int → Bool
  | [], ms => ms.isEmpty
  | _ :: _, [] => true
  | x :: xs, y :: ys => if x = y then lexGeI xs ys else decide (y ≤ x)
theorem lexAt_shift {e r : Nat → Bool} {z : Bool} : ∀ (k i : Nat), Ob.lexAt e r z (i + 1) k = Ob.lexAt (fun j => e (j + 1)) (fun j => r (j + 1)) z i k
  | 0, _ => rfl
  | k + 1, i => by rw [Ob.lexAt_succ, Ob.lexAt_succ, lexAt_shift k (i + 1)]
theorem lexAt_ge : ∀ (ns ms : List Int), Ob.lexAt (fun j => decide (ns.getD j 0 = ms.getD j 0)) (fun j => decide (ms.getD j 0 ≤ ns.getD j 0)) (decide (ns.length ≥ ms.length)) 0 (min ns.length ms.length) = lexGeI ns ms
  | [], [] => rfl
  | [], _ :: _ => by simp [Ob.lexAt_zero, lexGeI]
  | _ :: _, [] => by simp [Ob.lexAt_zero, lexGeI]
  | x :: xs, y :: ys => by
    have e1 : min (x :: xs).length (y :: ys).length = min xs.length ys.length + 1 := by simp only [List.length_cons]; omega
    have e2 : decide ((x :: xs).length ≥ (y :: ys).length) = decide (xs.length ≥ ys.length) := by simp only [List.length_cons, ge_iff_le, Nat.add_le_add_iff_right]
    rw [e1, e2, Ob.lexAt_succ, lexAt_shift, lexGeI, ← lexAt_ge xs ys]
    simp only [List.getD_cons_zero, List.getD_cons_succ, decide_eq_true_eq]
def rGeT (K : PySem.W.Frag) : R2 := fun x y H Q => ∃ (a b : Addr) (ns ms : List Int), x = .ref a ∧ y = .ref b ∧ SqT K H a (ns.map V.int) ∧ SqT K H b (ms.map V.int) ∧ Q (.bl (lexGeI ns ms)) H
theorem op_geT {X : Cx} (hu' : X.A.units + 64 < cLine) : OpR X (compareOp .GtE) (rGeT X.K) := by
  have hu : X.A.units < cLine := Nat.lt_of_le_of_lt (Nat.le_add_right _ _) hu'
  intro pins s σ H x y v u Q I rx ry h
  obtain ⟨a, b, ns, ms, rfl, rfl, ha, hb, q⟩ := h
  cases rx
  cases ry
  obtain ⟨its, r1, p1, _⟩ := I.tuple ha
  obtain ⟨its2, r2, p2, _⟩ := I.tuple hb
  have i1 : IntsAre its ns := Vals.ints r1
  have i2 : IntsAre its2 ms := Vals.ints r2
  have e1 : its.toArray.size = ns.length := by rw [List.size_toArray]; exact i1.length
  have e2 : its2.toArray.size = ms.length := by rw [List.size_toArray]; exact i2.length
  have at1 : ∀ j (h1 : j < its.toArray.size), ∃ t, its.toArray[j] = .int (ns.getD j 0) t := fun j h1 => PyProof.Rows.IntsAre.int_at i1 _ _ (by simp at h1; simp [h1])
  have at2 : ∀ j (h1 : j < its2.toArray.size), ∃ t, its2.toArray[j] = .int (ms.getD j 0) t := fun j h1 => PyProof.Rows.IntsAre.int_at i2 _ _ (by simp at h1; simp [h1])
  have R := Ob.RcOp.tuples_ge (A := X.A) (s := s) (e := fun j => decide (ns.getD j 0 = ms.getD j 0)) (r := fun j => decide (ms.getD j 0 ≤ ns.getD j 0)) p1 p2 hu (fun j h1 h2 => by
    obtain ⟨t, et⟩ := at1 j h1
    obtain ⟨t', et'⟩ := at2 j h2
    rw [et, et']
    have z : (ns.getD j 0 == ms.getD j 0) = decide (ns.getD j 0 = ms.getD j 0) := by
      by_cases q : ns.getD j 0 = ms.getD j 0
      · rw [decide_eq_true q]; exact beq_iff_eq.mpr q
      · rw [decide_eq_false q]; exact beq_eq_false_iff_ne.mpr q
    rw [← z]
    exact SeqAt.EqAt.int_int _ _ _ _) (fun j h1 h2 _ => by
    obtain ⟨t, et⟩ := at1 j h1
    obtain ⟨t', et'⟩ := at2 j h2
    rw [et, et']
    exact Ob.RcOp.ge_int _ _ _ _)
  rw [e1, e2, lexAt_ge] at R
  have z : wpAny (model X.prog X.w) X.A (compareOp .GtE (.ref a) (.ref b)) (EP X pins σ Q) X.xe s := R X.prog X.w X.xe (EP X pins σ Q) ⟨.bl _, H, I, rfl, q⟩
  exact z
/-- all ints -/
def intsD : List PyData → Option (List Int)
  | [] => some []
  | .int i :: ds => (intsD ds).map fun l => i :: l
  | _ :: _ => none
theorem intsD_map (ns : List Int) : intsD (ns.map .int) = some ns := by
  induction ns with
  | nil => rfl
  | cons n ns ih => rw [List.map_cons, intsD, ih]; rfl
theorem rps_intsD {K : PySem.W.Frag} {H : Hp} : ∀ {xs : List V} {ds : List PyData} {ns : List Int}, Rps K H xs ds → intsD ds = some ns → xs = ns.map V.int
  | _, _, _, .nil, h => by cases h; rfl
  | _, _, _, .cons (d := .int i) (ds := ds) r rs, h => by
    rw [intsD] at h
    cases e : intsD ds with
    | none => rw [e] at h; cases h
    | some l =>
      rw [e] at h; cases h
      cases r
      rw [List.map_cons, rps_intsD rs e]
  | _, _, _, .cons (d := .none) _ _, h => by cases h
  | _, _, _, .cons (d := .bool _) _ _, h => by cases h
  | _, _, _, .cons (d := .str _) _ _, h => by cases h
  | _, _, _, .cons (d := .list _) _ _, h => by cases h
  | _, _, _, .cons (d := .tuple _) _ _, h => by cases h
  | _, _, _, .cons (d := .dict _) _ _, h => by cases h
def gGeT : PyData → PyData → Option PyData
  | .tuple ds, .tuple es => match intsD ds, intsD es with
    | some ns, some ms => some (.bool (lexGeI ns ms))
    | _, _ => none
  | _, _ => none
theorem op2_geT {K : PySem.W.Frag} : Op2 K (rGeT K) gGeT := by
  intro H O x y d e z Q hO rx ry h q
  cases rx with
  | @tup a xs ds hx rs =>
    cases ry with
    | @tup b ys es hy rs' =>
      unfold gGeT at h
      dsimp only at h
      cases e1 : intsD ds with
      | none => rw [e1] at h; cases h
      | some ns =>
        cases e2 : intsD es with
        | none => rw [e1, e2] at h; cases h
        | some ms =>
          rw [e1, e2] at h
          cases h
          have w1 := rps_intsD rs e1
          have w2 := rps_intsD rs' e2
          subst w1 w2
          exact ⟨a, b, ns, ms, rfl, rfl, seqT hide_sub hx, seqT hide_sub hy, q _ H (Same.refl H) (.bl _)⟩
    | _ => cases h
  | _ => cases h
theorem u_gGeT (ns ms : List Int) : gGeT (.tuple (ns.map .int)) (.tuple (ms.map .int)) = some (.bool (lexGeI ns ms)) := by
  rw [gGeT, intsD_map, intsD_map]
end Pu
set_option Elab.async false
set_option linter.all false
set_option maxRecDepth 100000
set_option maxHeartbeats 4000000
namespace Pu
open PySem PySem.Spec PyProof.Rows L2 RT
/-! ### tuple(reversed(tuple)): the iterator is asked for its length -/
theorem nolen_rt : typeLookup (.type "reversed") "__len__" = pure none := by rw [typeLookup_type, builtinLookup_eq_fast]; kernel_rfl
theorem hint_rt : typeLookup (.type "reversed") "__length_hint__" = pure (some (.builtin "reversed.__length_hint__")) := by rw [typeLookup_type, builtinLookup_eq_fast]; kernel_rfl
theorem mtd_rt : typeOf (.builtin "reversed.__length_hint__") = pure (.type "method_descriptor") := by show builtinType _ = _; rw [builtinType_eq_fast]; kernel_rfl
theorem slot_rt_hint : Slot "reversed" "__length_hint__" "reversed.__length_hint__" :=
  .of (owner := "reversed") (n := "__length_hint__") (by rw [typeLookup_type, builtinLookup_eq_fast]; kernel_rfl) (by decide +kernel) (by decide +kernel) (by decide +kernel)
    (by first | exact .inl (by decide +kernel) | exact .inr (by decide +kernel)) (by rw [isSubtype_type]; kernel_rfl)
theorem entry_rt_hint : entryFor table "reversed.__length_hint__" = some Builtin.«reversed.__length_hint__» := entryFor_of_tree (by kernel_rfl)
theorem args_rt_hint (a : Value) : argsOk "reversed.__length_hint__" ⟨[a], []⟩ := by
  unfold argsOk; rw [signature?_of (id := "reversed.__length_hint__") (n := "__length_hint__".toList.reverse) (o := ['d', 'e', 's', 'r', 'e', 'v', 'e', 'r']) (by kernel_rfl) owner_rt]; kernel_rfl
section
variable {prog : Program} {w : World} {A : Around} {E : Value → Shared → Prop} {s : Shared}
theorem call_rt_hint {it t : Addr} {items : Array Value} {Q : Value → Shared → Prop} (hit : IsRt s.heap it t ((items.size : Int) - 1))
    (hlen : ∀ (A : Around) (E : Value → Shared → Prop) (Q : Value → Shared → Prop), Q (.int items.size (s.toks + 1)) { s with toks := s.toks + 1 + 1 } → wpAny (model prog w) A (call (.builtin "len") [.ref t]) Q E s)
    (hQ : ∀ tk u, Q (.int items.size u) { s with toks := tk }) : wpAny (model prog w) A (call (.builtin "reversed.__length_hint__") [.ref it]) Q E s := by
  obtain ⟨o, ho, hc, hd⟩ := id hit
  refine wpAny_call_entry slot_rt_hint hit.typeIs entry_rt_hint ?_ (args_rt_hint _)
  unfold Builtin.«reversed.__length_hint__»
  refine wpAny_bind (wpAny_of_eq (a := Value.ref it) rfl ?_)
  try dsimp only
  refine wpAny_bind (wpAny_field ho hd (x := .ref t) rfl ?_)
  show wpAny _ _ (if (Value.ref t == Value.none) = true then _ else _) _ _ s
  rw [if_neg (show ¬ ((Value.ref t == Value.none) = true) from Bool.false_ne_true)]
  refine wpAny_bind (hlen _ _ _ ?_)
  refine wpAny_bind (wpAny_of_eq (a := some ((items.size : Nat) : Int)) rfl ?_)
  try dsimp only
  refine wpAny_bind (wpAny_field (s := { s with toks := s.toks + 1 + 1 }) ho hd (x := rawInt ((items.size : Int) - 1)) rfl ?_)
  show wpAny _ _ (if ((items.size : Nat) : Int) < ((items.size : Int) - 1) + 1 then _ else _) _ _ _
  rw [if_neg (by omega)]
  have e : ((items.size : Int) - 1) + 1 = (items.size : Int) := by omega
  rw [e]
  show wpAny _ _ (mkInt _ >>= _) _ _ _
  refine wpAny_bind (wpAny_mkInt ?_)
  refine wpAny_pure ⟨_, rfl, hQ _ _⟩
theorem Walks.tupRev (hh : A.handled = none) (I t : Addr) (hne : t ≠ I) (items : Array Value) (hsz : items.size ≤ sizeLine) :
    Walks prog w A I [I, t] [I] items.size (fun i v => items[items.size - 1 - i]? = some v) (fun i h => i ≤ items.size ∧ IsRt h I t ((items.size : Int) - 1 - (i : Int)) ∧ h.IsTuple t items) where
  sub := fun b hb => by simp at hb; simp [hb]
  frame := fun _ _ _ x hk => ⟨x.1, x.2.1.at fun o e => hk I (by simp) o e, x.2.2.at fun o e => hk t (by simp) o e⟩
  item := fun i s Q E hi x hQ => by
    have e : (items.size : Int) - 1 - (i : Int) = ((items.size - 1 - i : Nat) : Int) := by omega
    have hit := x.2.1
    rw [e] at hit
    have hx : items[items.size - 1 - i]? = some (items[items.size - 1 - i]'(by omega)) := Array.getElem?_eq_getElem (by omega)
    refine next_rt_item hit x.2.2 hx hsz fun h' hit' hs' => ?_
    have e2 : ((items.size - 1 - i : Nat) : Int) - 1 = (items.size : Int) - 1 - ((i + 1 : Nat) : Int) := by omega
    rw [e2] at hit'
    exact hQ _ h' (s.toks + 1) hx ⟨hi, hit', x.2.2.at fun o eo => (hs'.2 t hne).trans eo⟩ fun b o hb eo => hs'.extBut b o (fun h => hb (by simp [h])) eo
  done := fun s Q E x hQ => by
    have e : (items.size : Int) - 1 - (items.size : Int) = -1 := by omega
    have hit := x.2.1
    rw [e] at hit
    exact next_rt_end hh hit fun h' he' => hQ h' s.toks fun b o hb eo => he' b o (fun h => hb (by simp [h])) eo
  self := fun _ _ _ _ x hQ => iter_rt x.2.1 hQ
theorem collect_rt {it t : Addr} {items : Array Value} {Q : List Value → Shared → Prop} (hh : A.handled = none) (hit : IsRt s.heap it t ((items.size : Int) - 1)) (hl : s.heap.IsTuple t items) (hne : t ≠ it) (hn : items.size ≤ sizeLine)
    (hQ : ∀ (h' : Heap) (tk : Nat) (acc : Array Value), (∀ b o, b ≠ it → s.heap.get? b = some o → h'.get? b = some o) → ItemsOf (fun i v => items[items.size - 1 - i]? = some v) acc items.size → Q acc.toList { s with heap := h', toks := tk }) :
    wpAny (model prog w) A (collect (.ref it)) Q E s := by
  have W := (Walks.tupRev (prog := prog) (w := w) (A := A.in1) hh it t hne items hn).toS
  obtain ⟨oi, hoi, _⟩ := id hit
  obtain ⟨ol, hol, _⟩ := id hl
  have hSi : s.heap.objs.size ≠ it := Nat.ne_of_gt (Heap.lt_size hoi)
  have hSl : s.heap.objs.size ≠ t := Nat.ne_of_gt (Heap.lt_size hol)
  have hSf : s.heap.objs.size ∉ [it, t] := by simp only [List.mem_cons, List.not_mem_nil, or_false, not_or]; exact ⟨hSi, hSl⟩
  unfold collect
  refine wpAny_bind (wpAny_runValue (codeAny_builtin F.entry_proto_collect ?_))
  rw [Around.under_plainId F.plain_proto_collect _]
  show wpAny _ A.in1 (newList [] >>= fun l' => again (.builtin "list.__iadd__" ⟨[l', .ref it], []⟩)) _ _ s
  refine wpAny_bind (wpAny_newObj_type ?_)
  refine wpAny_pure ⟨plainId_quiet F.plain_list_iadd _, codeAny_builtin F.entry_list_iadd ?_⟩
  rw [Around.under_plainId F.plain_list_iadd _]
  have hS₁ : (s.heap.push { cls := .type "list", data := .seq ([] : List Value).toArray }).get? s.heap.objs.size = some { cls := .type "list", data := .seq ([] : List Value).toArray } := Heap.get?_push_size _ rfl
  have hit1 : IsRt (s.heap.push { cls := .type "list", data := .seq ([] : List Value).toArray }) it t ((items.size : Int) - 1) := hit.at fun o e => Heap.get?_push_of_some _ e
  have hl1 : (s.heap.push { cls := .type "list", data := .seq ([] : List Value).toArray }).IsTuple t items := hl.push _
  have hT : ({ s with heap := s.heap.push { cls := .type "list", data := .seq ([] : List Value).toArray } } : Shared).TypeIs (.ref it) "reversed" := IsRt.typeIs (s := { s with heap := s.heap.push { cls := .type "list", data := .seq ([] : List Value).toArray } }) hit1
  have h1 : Builtin.List.listSameRef (.ref s.heap.objs.size) (.ref it) = false := by simp [Builtin.List.listSameRef, hSi]
  have h2 : (Value.type "reversed" == Value.type "list") = false := by decide
  have h3 : (Value.type "reversed" == Value.type "tuple") = false := by decide
  show wpAny _ A.in1 (Builtin.List.listExtendWith (.ref s.heap.objs.size) (.ref it) (.ref s.heap.objs.size)) _ _ _
  unfold Builtin.List.listExtendWith
  refine wpAny_bind (wpAny_typeOf hT ?_)
  simp only [h1, h2, h3, Bool.or_false, Bool.false_eq_true, if_false]
  refine wpAny_bind (iter_rt (s := { s with heap := s.heap.push { cls := .type "list", data := .seq ([] : List Value).toArray } }) hit1 ?_)
  refine wpAny_bind (wpAny_holding ?_)
  unfold Builtin.List.listLengthHint
  refine wpAny_bind (wpAny_specialOf hT nolen_rt ?_)
  show wpAny _ A.in1 (specialOf (Value.ref it) (Str.ofString "__length_hint__") >>= _) _ _ _
  refine wpAny_bind (wpAny_specialOf hT hint_rt ?_)
  generalize hid : ("reversed.__length_hint__" : String) = id0
  wp_delta
  rw [show splitId id0 = some ("reversed", "__length_hint__") from by subst hid; decide +kernel]
  subst hid
  refine wpAny_bind (wpAny_isInstance (b := true) hT (by rw [isSubtype_type]; kernel_rfl) ?_)
  rw [if_neg (show ¬ ((!true) = true) by decide)]
  split
  · rename_i h
    exact absurd h (by decide +kernel)
  rename_i hs
  clear hs
  refine wpAny_bind (wpAny_rule ?_)
  unfold bindSpecial
  refine wpAny_bind ?_
  refine wpAny_bind (wpAny_of_eq mtd_rt ?_)
  rw [if_pos (by decide)]
  refine wpAny_pure ?_
  try dsimp only
  refine wpAny_bind (wpAny_attempt ?_)
  refine call_rt_hint (s := { s with heap := s.heap.push { cls := .type "list", data := .seq ([] : List Value).toArray } }) hit1 (fun A E Q k => len_tuple hl1 (by have := line63; omega) k) fun tk u => ?_
  have e0 : asInt? (Value.int ((items.size : Nat) : Int) u) = pure (some ((items.size : Nat) : Int)) := rfl
  have z0 : (0 : Int) ≤ ((items.size : Nat) : Int) ∧ ((items.size : Nat) : Int) ≤ (sizeLine : Nat) := by omega
  generalize hz : ((items.size : Nat) : Int) = z at e0 z0 ⊢
  simp only []
  refine wpAny_bind (wpAny_of_eq e0 ?_)
  try dsimp only
  have f1 : Builtin.List.listFitsIndex z = true := by
    have := line63
    exact fitsIndex_of z0.1 (by omega)
  have f2 : Builtin.List.listTooLong z.toNat = false := notLongL (by omega)
  have f3 : ¬ (z < 0) := by omega
  simp only [f1, f2, f3, Bool.not_true, Bool.false_eq_true, if_false]
  clear f3
  refine wpAny_pure ?_
  have e00 : ((items.size : Nat) : Int) - 1 - ((0 : Nat) : Int) = (items.size : Int) - 1 := by omega
  split
  · refine wpAny_bind (wpAny_rule ?_)
    refine wpAny_bind ?_
    show wpAny _ A.in1 (updateSeq s.heap.objs.size (·.push .none) >>= fun _ => updateSeq s.heap.objs.size (·.pop)) _ _ _
    refine wpAny_bind (wpAny_updateSeq (s := { s with heap := s.heap.push { cls := .type "list", data := .seq ([] : List Value).toArray }, toks := tk }) hS₁ rfl ?_)
    have hS₂ := Heap.get?_update_self (Obj.mapSeq (·.push Value.none)) hS₁ rfl
    refine wpAny_updateSeq (s := { s with heap := (s.heap.push { cls := .type "list", data := .seq ([] : List Value).toArray }).update s.heap.objs.size (Obj.mapSeq (·.push Value.none)), toks := tk }) hS₂ rfl ?_
    have hS₃ := Heap.get?_update_self (Obj.mapSeq (·.pop)) hS₂ rfl
    have oth : ∀ b o, b ≠ s.heap.objs.size → (s.heap.push { cls := .type "list", data := .seq ([] : List Value).toArray }).get? b = some o →
        (((s.heap.push { cls := .type "list", data := .seq ([] : List Value).toArray }).update s.heap.objs.size (Obj.mapSeq (·.push Value.none))).update s.heap.objs.size (Obj.mapSeq (·.pop))).get? b = some o :=
      fun b o hb e => (Heap.get?_update_other _ _ (Ne.symm hb)).trans ((Heap.get?_update_other _ _ (Ne.symm hb)).trans e)
    refine wpAny_pure ⟨plainId_quiet F.plain_extend_loop _, codeAny_extend_loopS W hn _ hSf _ items.size 0 _ _ _ rfl (Nat.zero_le _) ⟨Nat.zero_le _, by rw [e00]; exact hit1.at fun o e => oth it o (Ne.symm hSi) e, hl1.at fun o e => oth t o (Ne.symm hSl) e⟩ hS₃ (ItemsOf.nil _) fun s' acc' c' hm hS' hacc => ?_⟩
    show wpAny _ A (load s.heap.objs.size >>= _) _ _ s'
    refine wpAny_bind (wpAny_load hS' ?_)
    refine wpAny_pure ?_
    rw [Moved.eq_with hm]
    refine hQ s'.heap s'.toks acc' (fun b o hb e => hm.heap b o (fun hmem => ?_) (oth b o (fun q => ?_) (Heap.get?_push_of_some _ e))) hacc
    · rcases List.mem_cons.mp hmem with e' | hmem
      · exact absurd (Heap.lt_size e) (by rw [e']; exact Nat.lt_irrefl _)
      · exact hb (List.mem_singleton.mp hmem)
    · exact absurd (Heap.lt_size e) (by rw [q]; exact Nat.lt_irrefl _)
  · refine wpAny_pure ⟨plainId_quiet F.plain_extend_loop _, codeAny_extend_loopS W hn _ hSf _ items.size 0 _ _ _ rfl (Nat.zero_le _) ⟨Nat.zero_le _, by rw [e00]; exact hit1, hl1⟩ hS₁ (ItemsOf.nil _) fun s' acc' c' hm hS' hacc => ?_⟩
    show wpAny _ A (load s.heap.objs.size >>= _) _ _ s'
    refine wpAny_bind (wpAny_load hS' ?_)
    refine wpAny_pure ?_
    rw [Moved.eq_with hm]
    refine hQ s'.heap s'.toks acc' (fun b o hb e => hm.heap b o (fun hmem => ?_) (Heap.get?_push_of_some _ e)) hacc
    rcases List.mem_cons.mp hmem with e' | hmem
    · exact absurd (Heap.lt_size e) (by rw [e']; exact Nat.lt_irrefl _)
    · exact hb (List.mem_singleton.mp hmem)
theorem code_tuple_new_rt {it l : Addr} {items : Array Value} {Q₁ : Value → Shared → Prop} (hh : A.handled = none) (hit : IsRt s.heap it l ((items.size : Int) - 1)) (hl : s.heap.IsTuple l items) (hne : l ≠ it) (hn : items.size ≤ sizeLine)
    (h : ∀ (h' : Heap) (tk : Nat) (acc : Array Value), (∀ b o, b ≠ it → s.heap.get? b = some o → h'.get? b = some o) → ItemsOf (fun i v => items[items.size - 1 - i]? = some v) acc items.size →
      Q₁ (.ref h'.objs.size) { s with heap := h'.push { cls := .type "tuple", data := .seq acc }, toks := tk }) :
    codeAny (model prog w) A (.call (.builtin "tuple.__new__") ⟨[.type "tuple", .ref it], []⟩) (wants Q₁ E) s := by
  refine codeAny_of_tree ?_
  show wpAny _ A.in1 (do checkBuiltinCall "tuple.__new__" ⟨[.type "tuple", .ref it], []⟩; again (.builtin "tuple.__new__" ⟨[.type "tuple", .ref it], []⟩)) _ _ s
  refine wpAny_bind (wpAny_of_eq (F.newCall_tuple_1 _) (wpAny_pure ⟨plainId_quiet F.plain_tuple_new _, codeAny_builtin F.entry_tuple_new ?_⟩))
  rw [Around.under_plainId F.plain_tuple_new _]
  have hsub := sub_tuple_self
  have hinit := init_tuple_lookup
  have hmh := madeHere_tuple
  have hTI : s.TypeIs (.ref it) "reversed" := hit.typeIs
  have hh1 : A.in1.handled = none := hh
  wp_walk using wpAny_typeOf hTI, collect_rt (A := A.in1) hh1 hit hl hne hn
  intro h' tk acc hk hacc
  show wpAny _ _ (Builtin.Tuple.tupleExact acc.toList.toArray >>= fun v => ret v) _ _ _
  unfold Builtin.Tuple.tupleExact
  refine wpAny_bind (wpAny_newObj_type ?_ (by show acc.toList.toArray.size ≤ sizeLine; simp only [Array.toArray_toList]; rw [hacc.1]; exact hn))
  refine wpAny_pure ?_
  have e : acc.toList.toArray = acc := by simp
  rw [e]
  exact h h' tk acc hk hacc
theorem call_tuple_rt {it l : Addr} {items : Array Value} {Q : Value → Shared → Prop} (hh : A.handled = none) (hit : IsRt s.heap it l ((items.size : Int) - 1)) (hl : s.heap.IsTuple l items) (hne : l ≠ it) (hn : items.size ≤ sizeLine)
    (hQ : ∀ (h' : Heap) (tk : Nat) (acc : Array Value), (∀ b o, b ≠ it → s.heap.get? b = some o → h'.get? b = some o) → ItemsOf (fun i v => items[items.size - 1 - i]? = some v) acc items.size →
      Q (.ref h'.objs.size) { s with heap := h'.push { cls := .type "tuple", data := .seq acc }, toks := tk }) :
    wpAny (model prog w) A (call (.type "tuple") [.ref it]) Q E s := by
  refine callType_codes (Q₁ := fun obj s₁ => s₁.TypeIs obj "tuple" ∧ Q obj s₁) F.called_tuple (F.typeCall_tuple_1 _) F.entry_object_init
    (code_tuple_new_rt (A := A.in1) hh hit hl hne hn fun h' tk acc hk hacc => ⟨⟨_, Heap.get?_push_size _ rfl, rfl⟩, hQ h' tk acc hk hacc⟩) fun obj s₁ h₁ => ?_
  exact ⟨h₁.1, F.args_object_init_2 obj _, object_init_meets F.called_tuple.init.lookup F.called_tuple.made (by decide) prog w A.in1 _ s₁ ⟨h₁.1, rfl, h₁.2⟩⟩
end
/-- tuple(reversed(x)), x a tuple: a new tuple -/
def tTupRevT (K : PySem.W.Frag) (te : TE) : TE := fun σ H Q => te σ H fun v H1 => ∃ (a : Addr) (xs : List V), v = .ref a ∧ SqT K H1 a xs ∧ ∀ q, H1 q = none → Q (.ref q) (upd H1 q (.tup xs.reverse))
theorem pe_tupRevT {X : Cx} {e : Expr} {te : TE} {p p2 pos pos2 : Pos} (hc : X.calm = true) (hg : Gl X "tuple") (hm : X.mg "tuple" = none) (hg2 : Gl X "reversed") (hm2 : X.mg "reversed" = none) (he : PE X e te)
    (hs : starEach [e] X.env = (false, eval e X.env) :: starEach [] X.env := by rfl)
    (hs2 : starEach [.Call (.Name "reversed" p2) [e] [] pos2] X.env = (false, eval (.Call (.Name "reversed" p2) [e] [] pos2) X.env) :: starEach [] X.env := by rfl) :
    PE X (.Call (.Name "tuple" p) [.Call (.Name "reversed" p2) [e] [] pos2] [] pos) (tTupRevT X.K te) := by
  refine ⟨fun pins s σ H Q I h => ?_⟩
  refine Call_ (ld_blt I hg hm boot_tuple (PyProof.Rows.callWith_type1 (args_cons (Call_ (ld_blt I hg2 hm2 PyProof.Rows.boot_reversed (PyProof.Rows.callWith_type1 (args_cons (thn (he.run pins s σ H _ I h) fun u s1 ⟨v, H1, I1, r1, q1⟩ => args_nil ?_) hs) hs rfl))) hs2) hs2 rfl))
  obtain ⟨a, xs, ev, hq, q⟩ := q1
  subst ev
  obtain rfl : u = Value.ref a := r1
  obtain ⟨its, rv, p', hz⟩ := I1.tuple hq
  have hl0 := rv.length
  have hl63 := line63
  refine call_reversed_tup p' (fun A E Q k => len_tuple p' (by simp only [List.size_toArray] <;> omega) k) (args_nil ?_)
  have k0 : ∀ b o, s1.heap.get? b = some o → (s1.heap.push (rtObj a ((its.toArray.size : Int) - 1))).get? b = some o := fun b o e => Heap.get?_push_of_some _ e
  have I2 : Inv X pins σ H1 { s1 with heap := s1.heap.push (rtObj a ((its.toArray.size : Int) - 1)), toks := s1.toks + 1 + 1 } := I1.kept (t' := s1.toks + 1 + 1) k0
  obtain ⟨f0, f1, f2, f3, f4, f5⟩ := I1.fpOk (H' := H1) (b := s1.heap.objs.size) (Nat.le_refl _) (I1.hok.fresh (Nat.le_refl _))
  have hl : s1.heap.IsTuple a its.toArray := p'
  obtain ⟨ol, hol, _⟩ := id hl
  have hne : a ≠ s1.heap.objs.size := Nat.ne_of_lt (Heap.lt_size hol)
  have hn : its.toArray.size ≤ sizeLine := by rw [List.size_toArray, ← rv.length]; exact hz
  refine call_tuple_rt (s := { s1 with heap := s1.heap.push (rtObj a ((its.toArray.size : Int) - 1)), toks := s1.toks + 1 + 1 }) (I1.ok.hd hc) ⟨_, Heap.get?_push_size _ rfl, rfl, rfl⟩ (hl.push _) hne hn fun h' tk acc hk hi => ?_
  have I3 : Inv X pins σ H1 { s1 with heap := h', toks := tk } := I2.turned (t' := tk) (fun b o hb e => hk b o hb e) f0 f1 f3 f4 f5
  refine ⟨.ref h'.objs.size, upd H1 h'.objs.size (.tup xs.reverse), I3.laid (t' := tk) (fun c o e => Heap.get?_push_of_some _ e) (Nat.le_refl _) (show ObjOk X.prog X.w _ _ _ (.tup xs.reverse) from ⟨by rw [List.length_reverse]; exact hz, acc.toList, vals_rev rv hi, ?_⟩), rfl, q _ (I3.hok.fresh (Nat.le_refl _))⟩
  rw [Array.toArray_toList]
  exact IsTup.new _ _
def eTupRevT (f : Vars → R PyData) (ρ : Vars) : R PyData := (f ρ).bind fun d => match d with
  | .tuple ds => .ok (.tuple ds.reverse)
  | _ => .bad
@[simp] theorem u_eTupRevT (f : Vars → R PyData) (ρ : Vars) : eTupRevT f ρ = (f ρ).bind fun d => match d with
  | .tuple ds => .ok (.tuple ds.reverse)
  | _ => .bad := rfl
theorem ex_tupRevT {X : Cx} {W : WX} {e : Expr} {f : Vars → R PyData} {p p2 pos pos2 : Pos} (hc : X.calm = true) (hg : Gl X "tuple") (hm : X.mg "tuple" = none) (hg2 : Gl X "reversed") (hm2 : X.mg "reversed" = none) (he : EX X W e f)
    (hs : starEach [e] X.env = (false, eval e X.env) :: starEach [] X.env := by rfl)
    (hs2 : starEach [.Call (.Name "reversed" p2) [e] [] pos2] X.env = (false, eval (.Call (.Name "reversed" p2) [e] [] pos2) X.env) :: starEach [] X.env := by rfl) :
    EX X W (.Call (.Name "tuple" p) [.Call (.Name "reversed" p2) [e] [] pos2] [] pos) (eTupRevT f) := by
  obtain ⟨t, q, ht⟩ := he
  refine ⟨_, pe_tupRevT hc hg hm hg2 hm2 q hs hs2, fun σ H O ρ Q hO hr z => ht σ H O ρ _ hO hr ?_⟩
  unfold eTupRevT at z
  cases c : f ρ with
  | bad => rw [c] at z; exact z
  | err c' => rw [c] at z; exact z
  | ok d =>
    rw [c, R.bind_ok] at z
    intro v H1 s1 r1
    cases r1 with
    | @tup a xs ds hx rs =>
      exact ⟨a, xs, rfl, seqT hide_sub hx, fun q hq => z _ _ (s1.trans (same_new hq)) (new_rep (hO.same s1) hq rs.reverse)⟩
    | _ => exact z.elim
end Pu
set_option Elab.async false
set_option linter.all false
set_option maxRecDepth 100000
set_option maxHeartbeats 4000000
namespace Pu
open PySem PySem.Spec PyProof.Rows L2
/-! ### a def whose answer is a list that it has made itself -/
def newL : R PyData → R PyData
  | .ok (.list ds) => .ok (.list ds)
  | .ok _ => .bad
  | .err c => .err c
  | .bad => .bad
@[simp] theorem u_newL (ds : List PyData) : newL (.ok (.list ds)) = .ok (.list ds) := rfl
@[simp] theorem u_newL_e (c : Str) : newL (.err c) = .err c := rfl
def NpOut (K : PySem.W.Frag) (mg : Str → Option Value) (O : List Addr) (H : Hp) (Q : VK) (E : XK) : R PyData → Prop
  | .ok (.list ds) => ∀ p vs H', Same H H' → H p = Option.none → H' p = some (.lst vs) → Rps K (hide (p :: O) H') vs ds → Q (.ref p) H'
  | .ok _ => False
  | .err c => ∀ H', Same H H' → E (exV mg c) Option.none H'
  | .bad => False
def spN (K : PySem.W.Frag) (mg : Str → Option Value) (n : Nat) (f : List PyData → R PyData) : Sp := fun vs H Q E =>
  vs.length = n ∧ ∃ O ds, Stands O H ∧ Rps K (hide O H) vs ds ∧ NpOut K mg O H Q E (newL (f ds))
def CalN (P : Program) (w : World) (K : PySem.W.Frag) (mg : Str → Option Value) (base : Heap) (k : Nat) (x : Str) (n : Nat) (f : List PyData → R PyData) : Prop :=
  ∃ (fa : Addr) (fd : FuncData) (ps : List Str), ps.length = n ∧ FnOk P w K mg base (L2.CX P w) k fa fd ps (spN K mg n f) ∧ mg x = some (.ref fa) ∧ PySem.W.keepIn K (.ref fa) = true ∧ Binds K fd ps []
theorem spN_of {K : PySem.W.Frag} {mg : Str → Option Value} {n : Nat} {f : List PyData → R PyData} : ∀ vs H Q E, spD K mg n (fun ds => newL (f ds)) vs H Q E → spN K mg n f vs H Q E := fun vs H Q E ⟨hl, O, ds, hO, r, z⟩ => by
  refine ⟨hl, O, ds, hO, r, ?_⟩
  replace z : SpOut K mg O H Q E (newL (f ds)) := z
  cases e : newL (f ds) with
  | bad => rw [e] at z; exact z.elim
  | err c => rw [e] at z; exact z
  | ok d =>
    rw [e] at z
    cases d with
    | list xs =>
      intro p ys H' s hp hp' rs
      have np : p ∉ O := hO.new hp
      exact z (.ref p) H' s (.lst (.inl (.inl (hide_of np hp'))) (rs.mono (hide_less fun a ha => List.mem_cons_of_mem _ ha)))
    | _ => exfalso; revert e; cases f ds with
      | bad => intro e; cases e
      | err c => intro e; cases e
      | ok d => cases d <;> intro e <;> cases e
theorem CalN.cal {P : Program} {w : World} {K : PySem.W.Frag} {mg : Str → Option Value} {base : Heap} {k n : Nat} {x : Str} {f : List PyData → R PyData} (h : CalN P w K mg base k x n f) : Cal P w K mg base k x n (fun ds => newL (f ds)) := by
  obtain ⟨fa, fd, ps, h1, h2, h3⟩ := h
  exact ⟨fa, fd, ps, h1, h2.imp spN_of, h3⟩
section
variable (X : Cx) (E : XK)
def NBOut (H0 : Hp) (O0 : List Addr) (Q : VK) : Out → Prop
  | .rt (.list ds) => ∀ p vs H', Same H0 H' → H0 p = Option.none → H' p = some (.lst vs) → Rps X.K (hide (p :: O0) H') vs ds → Q (.ref p) H'
  | .err c _ => ∀ H', Same H0 H' → E (exV X.mg c) Option.none H'
  | _ => False
def NBX (own : List Nat) (sts : List Stmt) (g : Vars → Out) : Prop :=
  ∃ t, PSs X sts t ∧ ∀ σ H ρ Q H0 O0 O, Rel X.K own H0 O0 O σ H ρ → NBOut X E H0 O0 Q (g ρ) → t { nx := fun _ H' => Q .non H', rt := Q } σ H
end
def sSeqN (g h : Vars → Out) (ρ : Vars) : Out := match g ρ with
  | .nx ρ' => h ρ'
  | .err c ρ' => .err c ρ'
  | _ => .bad
@[simp] theorem u_sSeqN (g h : Vars → Out) (ρ : Vars) : sSeqN g h ρ = match g ρ with
  | .nx ρ' => h ρ'
  | .err c ρ' => .err c ρ'
  | _ => .bad := rfl
section
variable {X : Cx} {E : XK} {own : List Nat}
theorem NBX.cons {st : Stmt} {rest : List Stmt} {g h : Vars → Out} {own' : List Nat} (a : SX X (WD E) own st g) (b : NBX X E own' rest h) (ho : (own'.all fun i => own.contains i) = true) : NBX X E own (st :: rest) (sSeqN g h) := by
  obtain ⟨t, p, ht⟩ := a
  obtain ⟨u, q, hu⟩ := b
  refine ⟨_, pss_cons p q, fun σ H ρ Q H0 O0 O r z => ht σ H ρ _ H0 O0 O r ?_⟩
  unfold sSeqN at z
  cases e : g ρ with
  | nx ρ1 =>
    rw [e] at z
    intro σ1 H1 O1 r1 s1
    obtain ⟨O2, r2, _⟩ := r1.freeze (own' := own') fun i hi => List.contains_iff_mem.mp (List.all_eq_true.mp ho i hi)
    exact hu σ1 H1 ρ1 Q H0 O0 O2 r2 z
  | rt d => rw [e] at z; exact z.elim
  | err c ρ' => rw [e] at z; exact fun σ' H' O' r' s' => z H' r'.same
  | bk _ => rw [e] at z; exact z.elim
  | ct _ => rw [e] at z; exact z.elim
  | bad => rw [e] at z; exact z.elim
theorem NBX.ret {i : Nat} {x : Str} {p0 pos : Pos} (hi : X.N[i]? = some x) (ho : own.contains i = true)
    (hv : Vis X.env.scope x := by first | exact Or.inl rfl | exact Or.inr (Or.inl rfl) | exact Or.inr (Or.inr rfl)) (hdn : (x == ("__debug__" : Str)) = false := by decide) (hcd : (x == ("__classdict__" : Str)) = false := by decide) :
    NBX X E own [.Return (some (.Name x p0)) pos] (sRet (eVar i)) := by
  refine ⟨_, pss_one (ps_ret (pe_var hi hv hdn hcd)), fun σ H ρ Q H0 O0 O r z => ?_⟩
  have hi' : i ∈ own := List.contains_iff_mem.mp ho
  unfold sRet eVar at z
  have e2 : ρ.getD i Option.none = (ρ[i]?).getD Option.none := by rw [List.getD_eq_getElem?_getD]
  rw [e2] at z
  cases e : ρ[i]? with
  | none => rw [e] at z; exact z.elim
  | some o =>
    cases o with
    | none => rw [e] at z; exact z.elim
    | some d =>
      rw [e] at z
      obtain ⟨a, vs, ds, rfl, h1, h2, h3, h4, h5⟩ := r.mine i d hi' e
      refine ⟨.ref a, h1, ?_⟩
      exact z a vs H r.same h3 h4 (h5.mono (hide_less fun b hb => (List.mem_cons.mp hb).elim (fun e => e ▸ h2) (r.sub b)))
end
section
variable {P : Program} {w : World} {K : PySem.W.Frag} {mg : Str → Option Value} {base : Heap}
theorem fn_dataN {x qual : Str} {st : Stmt} {f : Addr} {fd : FuncData} {N ps : List Str} {k n : Nat} {own : List Nat} {g : Vars → Out} (F : Fun K x qual st f fd) (S : FnScope N ps (defScope st)) (hn : ps.length = n) (ho : (own.all fun i => decide (n ≤ i)) = true)
    (hb : ∀ (cdv : Value) (A : Around) (outer : List Env) (s : Shared) (H : Hp) (E : XK), Room k (A.deeper (envOfC qual (defScope st) s.heap.objs.size f cdv)) → NBX (cxOf (L2.CX P w) P w K mg base N qual (defScope st) f cdv A outer s H E) E own (defBody st) g) :
    FnOk P w K mg base (L2.CX P w) (k + 1) f fd ps (spN K mg n (fnD N.length g)) := by
  refine F.okX S (fun vs H Q E h => ?_) fun cdv A outer s H vs Q E hr h => ?_
  · rw [h.1]; exact hn.symm
  obtain ⟨hl, O, ds, hO, r, z⟩ := h
  obtain ⟨t, p, ht⟩ := hb cdv A outer s H E hr
  have hpl : ps.length ≤ N.length := by have := congrArg List.length S.pre; rw [List.length_take] at this; omega
  have hdl : ds.length = n := by rw [← r.length]; exact hl
  refine ⟨t, p, ht _ H _ Q H O O (start_rel hO r (by omega) fun i hi => by have := of_decide_eq_true (List.all_eq_true.mp ho i hi); omega) ?_⟩
  unfold fnD at z
  cases e : g (ds.map some ++ List.replicate (N.length - ds.length) Option.none) with
  | nx ρ' => rw [e] at z; exact z.elim
  | rt d =>
    rw [e] at z
    cases d with
    | list xs => exact z
    | _ => exact z.elim
  | err c ρ' => rw [e] at z; exact z
  | bk _ => rw [e] at z; exact z.elim
  | ct _ => rw [e] at z; exact z.elim
  | bad => rw [e] at z; exact z.elim
theorem cal_dataN {x qual : Str} {st : Stmt} {f : Addr} {fd : FuncData} {N ps : List Str} {k n : Nat} {own : List Nat} {g : Vars → Out} (F : Fun K x qual st f fd) (hm : mg x = some (.ref f)) (hbn : Binds K fd ps []) (S : FnScope N ps (defScope st)) (hn : ps.length = n) (ho : (own.all fun i => decide (n ≤ i)) = true)
    (hb : ∀ (cdv : Value) (A : Around) (outer : List Env) (s : Shared) (H : Hp) (E : XK), Room k (A.deeper (envOfC qual (defScope st) s.heap.objs.size f cdv)) → NBX (cxOf (L2.CX P w) P w K mg base N qual (defScope st) f cdv A outer s H E) E own (defBody st) g) :
    CalN P w K mg base (k + 1) x n (fnD N.length g) := ⟨f, fd, ps, hn, fn_dataN F S hn ho hb, hm, F.kp, hbn⟩
theorem cal_zeroN {x qual : Str} {st : Stmt} {f : Addr} {fd : FuncData} {ps : List Str} {n : Nat} (F : Fun K x qual st f fd) (hm : mg x = some (.ref f)) (hbn : Binds K fd ps []) (hn : ps.length = n) : CalN P w K mg base 0 x n fun _ => .bad := by
  have no : ∀ vs H Q E, ¬ spN K mg n (fun _ => .bad) vs H Q E := fun vs H Q E h => by
    obtain ⟨_, _, _, _, _, z⟩ := h
    exact z
  exact ⟨f, fd, ps, hn, ⟨fun vs H Q E h => absurd h (no vs H Q E), fun A outer s H args us vs Q E _ _ _ _ h => absurd h (no vs H Q E)⟩, hm, F.kp, hbn⟩
end
/-- a call as a new list -/
def nFn (g : List PyData → R PyData) (f : Vars → R (List PyData)) (ρ : Vars) : R (List PyData) := (f ρ).bind fun ds => match newL (g ds) with
  | .ok (.list ys) => .ok ys
  | .err c => .err c
  | _ => .bad
@[simp] theorem u_nFn (g : List PyData → R PyData) (f : Vars → R (List PyData)) (ρ : Vars) : nFn g f ρ = (f ρ).bind fun ds => match newL (g ds) with
  | .ok (.list ys) => .ok ys
  | .err c => .err c
  | _ => .bad := rfl
section
variable {X : Cx} {W : WX}
theorem nx_fn {k n : Nat} {x : Str} {g : List PyData → R PyData} {e : Expr} {es : List Expr} {f : Vars → R (List PyData)} {p pos : Pos} (tk : Takes X W) (F : CalN X.prog X.w X.K X.mg X.base k x n g) (hr : Room k X.A) (hg : Gl X x) (ha : AX X W (e :: es) f) (hn : es.length + 1 = n)
    (hdb : (x == ("__debug__" : Str)) = false := by decide) (he : starEach (e :: es) X.env = (false, eval e X.env) :: starEach es X.env := by rfl) (hpl : (backTo pos (starEach es X.env)).any (·.1) = false := by rfl) (hlen : ∀ ρ ds, f ρ = .ok ds → ds.length = n) :
    NX X W (.Call (.Name x p) (e :: es) [] pos) (nFn g f) := by
  obtain ⟨fa, fd, ps, h1, h2, h3, h4, h5⟩ := F
  obtain ⟨t, q, ht⟩ := ha
  refine ⟨_, pe_callS h2 hr hg h3 h4 h5 (fun σ => passAt tk σ) q hdb he hpl, fun σ H O ρ Q hO hv z => ht σ H O ρ _ hO hv ?_⟩
  unfold nFn at z
  cases e1 : f ρ with
  | bad => rw [e1] at z; exact z
  | err c => rw [e1] at z; exact z
  | ok ds =>
    rw [e1, R.bind_ok] at z
    intro vs H1 s1 r1
    refine ⟨by rw [r1.length]; exact hlen ρ ds e1, O, ds, hO.same s1, r1, ?_⟩
    cases e2 : newL (g ds) with
    | bad => rw [e2] at z; exact z.elim
    | err c => rw [e2] at z; exact fun H' s' => z H' (s1.trans s')
    | ok d =>
      rw [e2] at z
      cases d with
      | list ys => exact fun p vs H' s' hp hp' rs => z p vs H' (s1.trans s') (s1.free hp) hp' rs
      | _ => exact z.elim
end
/-! ### a loop over an own list that stays in it -/
section
variable (X : Cx) (W : WX) (own : List Nat) (io : Nat)
def FOut (a : Addr) (vs : List V) (H0 : Hp) (O0 O : List Addr) (H : Hp) (D : Ends) : Out → Prop
  | .nx ρ => ∀ σ' H' O', Rel X.K own H0 O0 O' σ' H' ρ → σ'[io]? = some (some (.ref a)) → H' a = some (.lst vs) → Same (hide O H) (hide O' H') → D.nx σ' H'
  | .rt d => ∀ v H', Same H0 H' → Rp X.K (hide O0 H') v d → D.rt v H'
  | .bk ρ => ∀ σ' H' O', Rel X.K own H0 O0 O' σ' H' ρ → σ'[io]? = some (some (.ref a)) → H' a = some (.lst vs) → Same (hide O H) (hide O' H') → D.bk σ' H'
  | .ct ρ => ∀ σ' H' O', Rel X.K own H0 O0 O' σ' H' ρ → σ'[io]? = some (some (.ref a)) → H' a = some (.lst vs) → Same (hide O H) (hide O' H') → D.ct σ' H'
  | .err c ρ => ∀ σ' H' O', Rel X.K own H0 O0 O' σ' H' ρ → Same (hide O H) (hide O' H') → W (exV X.mg c) Option.none σ' H'
  | .bad => False
def FX (st : Stmt) (g : Vars → Out) : Prop :=
  ∃ t, PS X st t ∧ ∀ a vs σ H ρ D H0 O0 O, Rel X.K own H0 O0 O σ H ρ → σ[io]? = some (some (.ref a)) → H a = some (.lst vs) → FOut X W own io a vs H0 O0 O H D (g ρ) → t D σ H
def FsX (sts : List Stmt) (g : Vars → Out) : Prop :=
  ∃ t, PSs X sts t ∧ ∀ a vs σ H ρ D H0 O0 O, Rel X.K own H0 O0 O σ H ρ → σ[io]? = some (some (.ref a)) → H a = some (.lst vs) → FOut X W own io a vs H0 O0 O H D (g ρ) → t D σ H
end
section
variable {X : Cx} {W : WX} {own : List Nat} {io : Nat}
theorem FOut.from {a : Addr} {vs : List V} {H0 : Hp} {O0 O O' : List Addr} {H H' : Hp} {D : Ends} {o : Out} (h : FOut X W own io a vs H0 O0 O H D o) (s : Same (hide O H) (hide O' H')) : FOut X W own io a vs H0 O0 O' H' D o := by
  cases o with
  | nx ρ => exact fun σ' H'' O'' r h1 h2 s' => h σ' H'' O'' r h1 h2 (s.trans s')
  | rt d => exact h
  | bk ρ => exact fun σ' H'' O'' r h1 h2 s' => h σ' H'' O'' r h1 h2 (s.trans s')
  | ct ρ => exact fun σ' H'' O'' r h1 h2 s' => h σ' H'' O'' r h1 h2 (s.trans s')
  | err c ρ => exact fun σ' H'' O'' r s' => h σ' H'' O'' r (s.trans s')
  | bad => exact h
theorem EOut.runF {a : Addr} {vs : List V} {f : R PyData} {k : PyData → Out} {O : List Addr} {H0 : Hp} {O0 O1 : List Addr} {σ : L2.St} {H : Hp} {ρ : Vars} {D : Ends} {Q : VK} (r : Rel X.K own H0 O0 O1 σ H ρ) (h2 : H a = some (.lst vs)) (z : FOut X W own io a vs H0 O0 O1 H D (f.run ρ k))
    (q : ∀ d v H', Same H H' → Rp X.K (hide O H') v d → FOut X W own io a vs H0 O0 O1 H' D (k d) → Rel X.K own H0 O0 O1 σ H' ρ → H' a = some (.lst vs) → Q v H') : EOut X W O σ H Q f := by
  cases f with
  | ok d => exact fun v H' s rv => q d v H' s rv (FOut.from z (hide_same s)) (r.step s) (s _ _ h2)
  | err c => exact fun H' s => z σ H' O1 (r.step s) (hide_same s)
  | bad => exact z
theorem TOut.runF {a : Addr} {vs : List V} {f : R Bool} {k : Bool → Out} {H0 : Hp} {O0 O1 : List Addr} {σ : L2.St} {H : Hp} {ρ : Vars} {D : Ends} {Q : Bool → Hp → Prop} (r : Rel X.K own H0 O0 O1 σ H ρ) (h2 : H a = some (.lst vs)) (z : FOut X W own io a vs H0 O0 O1 H D (f.run ρ k))
    (q : ∀ d H', Same H H' → FOut X W own io a vs H0 O0 O1 H' D (k d) → Rel X.K own H0 O0 O1 σ H' ρ → H' a = some (.lst vs) → Q d H') : TOut X W σ H Q f := by
  cases f with
  | ok d => exact fun H' s => q d H' s (FOut.from z (hide_same s)) (r.step s) (s _ _ h2)
  | err c => exact fun H' s => z σ H' O1 (r.step s) (hide_same s)
  | bad => exact z
theorem fsx_nil : FsX X W own io [] sNil := ⟨_, pss_nil, fun a vs σ H ρ D H0 O0 O r h1 h2 z => z σ H O r h1 h2 (Same.refl _)⟩
theorem fsx_cons {st : Stmt} {rest : List Stmt} {g h : Vars → Out} (a : FX X W own io st g) (b : FsX X W own io rest h) : FsX X W own io (st :: rest) (sSeq g h) := by
  obtain ⟨t, p, ht⟩ := a
  obtain ⟨u, q, hu⟩ := b
  refine ⟨_, pss_cons p q, fun a vs σ H ρ D H0 O0 O r h1 h2 z => ht a vs σ H ρ _ H0 O0 O r h1 h2 ?_⟩
  unfold sSeq at z
  cases e : g ρ with
  | nx ρ1 => rw [e] at z; exact fun σ1 H1 O1 r1 i1 i2 s1 => hu a vs σ1 H1 ρ1 D H0 O0 O1 r1 i1 i2 (FOut.from z s1)
  | rt d => rw [e] at z; exact z
  | bk ρ1 => rw [e] at z; exact z
  | ct ρ1 => rw [e] at z; exact z
  | err c ρ1 => rw [e] at z; exact z
  | bad => rw [e] at z; exact z
theorem fsx_one {st : Stmt} {g : Vars → Out} (a : FX X W own io st g) : FsX X W own io [st] g := by
  obtain ⟨t, p, ht⟩ := a
  exact ⟨_, pss_one p, ht⟩
theorem fx_ret {e : Expr} {f : Vars → R PyData} {pos : Pos} (h : EX X W e f) : FX X W own io (.Return (some e) pos) (sRet f) := by
  obtain ⟨t, p, ht⟩ := h
  exact ⟨_, ps_ret p, fun a vs σ H ρ D H0 O0 O r h1 h2 z => ht σ H O0 ρ _ r.stands0 r.vrel0 (EOut.runF r h2 z fun d v H' s rv z' r' _ => z' v H' r'.same rv)⟩
theorem fx_if {c : Expr} {a b : List Stmt} {tc : Vars → R Bool} {g h : Vars → Out} {pos : Pos} (hc : TX X W c tc) (ha : FsX X W own io a g) (hb : FsX X W own io b h) : FX X W own io (.If c a b pos) (sIf tc g h) := by
  obtain ⟨t, p, ht⟩ := hc
  obtain ⟨ta, pa, hta⟩ := ha
  obtain ⟨tb, pb, htb⟩ := hb
  refine ⟨_, ps_if p pa pb, fun a vs σ H ρ D H0 O0 O r h1 h2 z => ht σ H O0 ρ _ r.stands0 r.vrel0 (TOut.runF r h2 z fun d H' s z' r' i2 => ?_)⟩
  cases d with
  | true => exact hta a vs σ H' ρ D H0 O0 O r' h1 i2 z'
  | false => exact htb a vs σ H' ρ D H0 O0 O r' h1 i2 z'
theorem fx_setM {i : Nat} {x : Str} {e : Expr} {f : Vars → R PyData} {pos' pos : Pos} (hN : X.N.Nodup) (hi : X.N[i]? = some x) (hx : Loc X.env.scope x) (h : EX X W e f) (ho : own.contains i = false) (hne : i ≠ io) (hs : swapsWith e (some (.Name x pos')) pos.line X.env = pure false := by rfl) (hf : X.fn x = true ∨ X.env.scope.names.lookup x = some .local := by first | exact .inl rfl | exact .inr rfl | assumption) :
    FX X W own io (.Assign [.Name x pos'] e pos) (sSetM own i f) := by
  obtain ⟨t, p, ht⟩ := h
  have hi' : i ∉ own := fun z => by rw [List.contains_iff_mem.mpr z] at ho; cases ho
  refine ⟨_, ps_set hN hi hx p hs hf, fun a vs σ H ρ D H0 O0 O r h1 h2 z => ?_⟩
  exact ht σ H O _ _ r.stands r.vrelM (EOut.runF r h2 z fun d v H' s rv z' r' i2 => z' _ H' O (r'.set hi' rv) (by rw [List.getElem?_set_ne hne]; exact h1) i2 (Same.refl _))
theorem sx_forO {tg : Expr} {body : List Stmt} {js : List Nat} {gt : PyData → Vars → Option Vars} {g : Vars → Out} {n : Str} {p0 pos : Pos} (hp : PassesOwn (model X.prog X.w) X.A X.env X.xe) (hc : X.calm = true) (hn : X.N[io]? = some n) (oo : own.contains io = true) (hg : GX X tg js gt) (hin : GtIn js gt) (ho : (js.all fun j => !own.contains j) = true)
    (hb : FsX X W own io body g) (hs : ∀ x, foldedSetIterable (.Name n p0) X.env x = pure x := by intro _; rfl)
    (hv : Vis X.env.scope n := by first | exact Or.inl rfl | exact Or.inr (Or.inl rfl) | exact Or.inr (Or.inr rfl)) (hdn : (n == ("__debug__" : Str)) = false := by decide) (hcd : (n == ("__classdict__" : Str)) = false := by decide) :
    SX X W own (.For tg (.Name n p0) body [] pos) (sFor [] (iSeq (eVar io)) gt g) := by
  obtain ⟨ok, tgt, q, hgt⟩ := hg
  obtain ⟨tb, pb, htb⟩ := hb
  have hio : io ∈ own := List.contains_iff_mem.mp oo
  have hj : ∀ j ∈ js, j ∉ own := fun j h z => by
    have := List.all_eq_true.mp ho j h
    rw [List.contains_iff_mem.mpr z] at this; cases this
  have hnj : io ∉ js := fun z => hj io z hio
  refine ⟨_, ps_for hp hc (pi_list (pe_var hn hv hdn hcd)) q pb hs, fun σ H ρ D H0 O0 O r z => ?_⟩
  unfold sFor at z
  rw [mask_nil] at z
  unfold iSeq eVar at z
  have e2 : ρ.getD io Option.none = (ρ[io]?).getD Option.none := by rw [List.getD_eq_getElem?_getD]
  rw [e2] at z
  cases e : ρ[io]? with
  | none => rw [e] at z; exact z.elim
  | some od =>
    cases od with
    | none => rw [e] at z; exact z.elim
    | some d =>
      rw [e] at z
      obtain ⟨a, vs, ds, rfl, h1, h2, h3, h4, h5⟩ := r.mine io d hio e
      replace z : SOut X W own H0 O0 O H D (forL gt g ds ρ) := z
      have hdl : vs.length = ds.length := h5.length
      have sql : ∀ {H' : Hp}, H' a = some (.lst vs) → SqL X.K H' a vs := fun h => .inl (.inl h)
      refine ⟨.ref a, h1, a, rfl, ⟨vs, sql h4⟩, ?_⟩
      refine ⟨fun i m σ2 H2 => m = ds.length - i ∧ i ≤ ds.length ∧ σ2[io]? = some (some (.ref a)) ∧ H2 a = some (.lst vs) ∧ ∃ O2 ρ2, Rel X.K own H0 O0 O2 σ2 H2 ρ2 ∧ Same (hide O H) (hide O2 H2) ∧ SOut X W own H0 O0 O2 H2 D (forL gt g (ds.drop i) ρ2), ⟨ds.length, rfl, Nat.zero_le _, h1, h4, O, ρ, r, Same.refl _, z⟩, ?_⟩
      rintro i m σ2 H2 ⟨rfl, hle, k1, k2, O2, ρ2, r2, sF, z2⟩
      by_cases hlt : i < ds.length
      · have hd : ds[i]? = some ds[i] := List.getElem?_eq_getElem hlt
        obtain ⟨v, hvi, hrv⟩ := h5.get hd
        have hdrop : ds.drop i = ds[i] :: ds.drop (i + 1) := List.drop_eq_getElem_cons hlt
        rw [hdrop] at z2
        unfold forL at z2
        cases eg : gt ds[i] ρ2 with
        | none => rw [eg] at z2; exact z2.elim
        | some ρ3 =>
          rw [eg] at z2
          dsimp only at z2
          refine .inr ⟨⟨vs, v, sql k2, hvi⟩, fun σ' H' => (i + 1 ≤ ds.length ∧ σ'[io]? = some (some (.ref a)) ∧ H' a = some (.lst vs) ∧ ∃ O2 ρ2, Rel X.K own H0 O0 O2 σ' H' ρ2 ∧ Same (hide O H) (hide O2 H') ∧ SOut X W own H0 O0 O2 H' D (forL gt g (ds.drop (i + 1)) ρ2)),
            fun σ' H' hn => ⟨ds.length - (i + 1), by omega, rfl, hn.1, hn.2⟩, fun x H3 y => ?_⟩
          obtain ⟨rfl, y⟩ := y
          have hx := y vs (sql k2)
          rw [hvi] at hx
          cases hx
          have rx : Rp X.K (hide O2 H3) v ds[i] := hrv.mono sF
          refine hgt v ds[i] σ2 H3 O2 (mask own ρ2) (mask own ρ3) _ r2.stands r2.vrelM rx (ok.msk own _ ρ2 ρ3 hj eg) fun σ3 v3 l3 f3 => ?_
          have r4 : Rel X.K own H0 O0 O2 σ3 H3 ρ3 := other_of ok hj r2 eg v3 l3 f3 (hin.out _ ρ2 ρ3 eg)
          have k3 : σ3[io]? = some (some (.ref a)) := by rw [(f3 io hnj).1]; exact k1
          refine htb a vs σ3 H3 ρ3 _ H0 O0 O2 r4 k3 k2 ?_
          cases eb : g ρ3 with
          | nx ρ4 =>
            rw [eb] at z2
            exact fun σ5 H5 O5 r5 i1 i2 s5 => ⟨hlt, i1, i2, O5, ρ4, r5, sF.trans s5, SOut.from z2 s5⟩
          | ct ρ4 =>
            rw [eb] at z2
            exact fun σ5 H5 O5 r5 i1 i2 s5 => ⟨hlt, i1, i2, O5, ρ4, r5, sF.trans s5, SOut.from z2 s5⟩
          | bk ρ4 =>
            rw [eb] at z2
            exact fun σ5 H5 O5 r5 i1 i2 s5 => z2 σ5 H5 O5 r5 s5
          | rt d => rw [eb] at z2; exact z2
          | err c ρ4 =>
            rw [eb] at z2
            exact fun σ5 H5 O5 r5 s5 => z2 σ5 H5 O5 r5 s5
          | bad => rw [eb] at z2; exact z2
      · have e3 : i = ds.length := by omega
        subst e3
        refine .inl ⟨⟨vs, sql k2, by omega⟩, ?_⟩
        rw [List.drop_length] at z2
        exact z2 σ2 H2 O2 r2 (Same.refl _)
/-! ### y = list(x), x an own list that stays own -/
def sCopy (io iy : Nat) (ρ : Vars) : Out := match ρ.getD io Option.none with
  | some (.list ds) => .nx (ρ.set iy (some (.list ds)))
  | _ => .bad
@[simp] theorem u_sCopy (io iy : Nat) (ρ : Vars) : sCopy io iy ρ = match ρ.getD io Option.none with
  | some (.list ds) => .nx (ρ.set iy (some (.list ds)))
  | _ => .bad := rfl
theorem sx_copy {iy : Nat} {n y : Str} {p p0 p1 pos pos' : Pos} (hN : X.N.Nodup) (hn : X.N[io]? = some n) (hy : X.N[iy]? = some y) (hx : Loc X.env.scope y) (oo : own.contains io = true) (oy : own.contains iy = false) (hg : Gl X "list") (hm : X.mg "list" = Option.none)
    (hs : swapsWith (.Call (.Name "list" p) [.Name n p0] [] pos) (some (.Name y p1)) pos'.line X.env = pure false := by rfl) (hf : X.fn y = true ∨ X.env.scope.names.lookup y = some .local := by first | exact .inl rfl | exact .inr rfl | assumption)
    (hv : Vis X.env.scope n := by first | exact Or.inl rfl | exact Or.inr (Or.inl rfl) | exact Or.inr (Or.inr rfl)) (hdn : (n == ("__debug__" : Str)) = false := by decide) (hcd : (n == ("__classdict__" : Str)) = false := by decide)
    (he : starEach [.Name n p0] X.env = (false, eval (.Name n p0) X.env) :: starEach [] X.env := by rfl) (hpl : (backTo pos (starEach [] X.env)).any (·.1) = false := by rfl) :
    SX X W own (.Assign [.Name y p1] (.Call (.Name "list" p) [.Name n p0] [] pos) pos') (sCopy io iy) := by
  have hio : io ∈ own := List.contains_iff_mem.mp oo
  have hiy : iy ∉ own := fun z => by rw [List.contains_iff_mem.mpr z] at oy; cases oy
  refine ⟨_, ps_set hN hy hx (pe_callTy call_list_of hg hm (by decide +kernel) (pa_cons (pe_var hn hv hdn hcd) pa_nil he) (by decide) (by decide) he hpl) hs hf, fun σ H ρ D H0 O0 O r z => ?_⟩
  unfold sCopy at z
  have e2 : ρ.getD io Option.none = (ρ[io]?).getD Option.none := by rw [List.getD_eq_getElem?_getD]
  rw [e2] at z
  cases e : ρ[io]? with
  | none => rw [e] at z; exact z.elim
  | some od =>
    cases od with
    | none => rw [e] at z; exact z.elim
    | some d =>
      rw [e] at z
      obtain ⟨a, vs, ds, rfl, h1, h2, h3, h4, h5⟩ := r.mine io d hio e
      replace z : SOut X W own H0 O0 O H D (.nx (ρ.set iy (some (.list ds)))) := z
      refine ⟨.ref a, h1, a, vs, rfl, .inl (.inl (.inl h4)), fun l hl => ?_⟩
      have s : Same H (upd H l (.lst vs)) := same_new hl
      have nl : l ∉ O := r.stands.new hl
      have rv : Rp X.K (hide O (upd H l (.lst vs))) (.ref l) (.list ds) := .lst (.inl (.inl (hide_of nl upd_same))) (h5.mono (hide_same s))
      exact z _ _ O ((r.step s).set hiy rv) (hide_same s)
end
end Pu
set_option Elab.async false
set_option linter.all false
set_option maxRecDepth 100000
namespace Pu
open PySem
-- k26 slots 6 params 1
def G_factors (c0 c1 c2 c3 : Nat) (S : Nat → List PyData → R PyData) : Vars → Out :=
  (sSeqN (sIf (tOf (eOp gEq (eVar 0) (eTup aNil))) (sRaise "Nought") sNil)
    (sSeqN (sAsg [3] (gtTup 2 (gtCons (gtName 1) (gtCons (gtName 2) gtNil))) (eOp gIx (eVar 0) (eNeg (eC (.int 1)))))
    (sSeqN (sNew [3] 3 (nLst aNil))
    (sSeqN (sIf (tOf (eOp gNe (eVar 1) (eTup aNil))) (sAppM [3] 3 (eFn (fun ds => S c3 (ds ++ [.int 1])) (aCons (eVar 1) aNil))) sNil)
    (sSeqN (sIf (tOf (eOp gGt (eVar 2) (eC (.int 1)))) (sAppM [3] 3 (eFn (S c0) (aCons (eVar 2) aNil))) sNil)
    (sSeqN (sFor [3] (iRange3 (aCons (eOp gSub (eCall gLen (aCons (eVar 0) aNil)) (eC (.int 2))) (aCons (eNeg (eC (.int 1))) (aCons (eNeg (eC (.int 1))) aNil)))) (gtName 4) (sSeq (sSetM [3] 5 (eFn (S c1) (aCons (eOp gIx (eOp gIx (eVar 0) (eVar 4)) (eC (.int 0))) (aCons (eOp gIx (eOp gIx (eVar 0) (eOp gAdd (eVar 4) (eC (.int 1)))) (eC (.int 0))) aNil)))) (sSeq (sAppM [3] 3 (eFn (S c2) (aCons (eFn (fun ds => S c3 (ds ++ [.int 1])) (aCons (eVar 5) aNil)) (aCons (eFn (S c0) (aCons (eC (.int 1)) aNil)) aNil)))) (sIf (tOf (eOp gGt (eOp gIx (eOp gIx (eVar 0) (eVar 4)) (eC (.int 1))) (eC (.int 1)))) (sAppM [3] 3 (eFn (S c0) (aCons (eOp gIx (eOp gIx (eVar 0) (eVar 4)) (eC (.int 1))) aNil))) sNil))))
    (sRet (eVar 3))))))))
-- k26 slots 7 params 2
def G_l_walked (c0 : Nat) (S : Nat → List PyData → R PyData) : Vars → Out :=
  (sSeq (sSet [] 2 (eC (.int 0)))
    (sSeq (sSet [] 3 (eTup aNil))
    (sSeq (sFor [] (iRange3 (aCons (eOp gSub (eCall gLen (aCons (eVar 0) aNil)) (eC (.int 1))) (aCons (eNeg (eC (.int 1))) (aCons (eNeg (eC (.int 1))) aNil)))) (gtName 4) (sSeq (sAsg [] (gtTup 2 (gtCons (gtName 5) (gtCons (gtName 6) gtNil))) (eOp gIx (eVar 0) (eVar 4))) (sSeq (sIf (tOf (eOp gNe (eVar 5) (eTup aNil))) (sSeq (sIf (tOrR (tOf (eOp gEq (eVar 2) (eCall gLen (aCons (eVar 1) aNil)))) (tOrR (tOf (eOp gEq (eOp gIx (eVar 1) (eVar 2)) (eTup aNil))) (tOf (eOp gNe (eOp gIx (eOp gIx (eOp gIx (eVar 1) (eVar 2)) (eC (.int 0))) (eC (.int 1))) (eC (.int 1)))))) (sRet (eC (.bool false))) sNil) (sSeq (sIf (tOrR (tOf (eOp gNe (eSl (eOp gIx (eVar 1) (eVar 2)) (oSome (eC (.int 1))) oNone) (eSl (eTup (aCons (eTup (aCons (eTup aNil) (aCons (eC (.int 1)) aNil))) aNil)) oNone (oSome (eOp gSub (eOp gSub (eCall gLen (aCons (eVar 0) aNil)) (eC (.int 1))) (eVar 4)))))) (tOf (eOp gNe (eFn (S c0) (aCons (eVar 3) (aCons (eOp gIx (eOp gIx (eOp gIx (eVar 1) (eVar 2)) (eC (.int 0))) (eC (.int 0))) aNil))) (eVar 5)))) (sRet (eC (.bool false))) sNil) (sSet [] 2 (eOp gAdd (eVar 2) (eC (.int 1)))))) sNil) (sSeq (sIf (tOf (eOp gGt (eVar 6) (eC (.int 1)))) (sSeq (sIf (tOrR (tOf (eOp gEq (eVar 2) (eCall gLen (aCons (eVar 1) aNil)))) (tOf (eOp gNe (eOp gIx (eVar 1) (eVar 2)) (eTup (aCons (eTup (aCons (eTup aNil) (aCons (eVar 6) aNil))) aNil))))) (sRet (eC (.bool false))) sNil) (sSet [] 2 (eOp gAdd (eVar 2) (eC (.int 1))))) sNil) (sSet [] 3 (eVar 5))))))
    (sRet (eOp gEq (eVar 2) (eCall gLen (aCons (eVar 1) aNil)))))))
end Pu
set_option Elab.async false
set_option linter.all false
set_option maxRecDepth 100000
namespace Pu
open PySem
-- k24 k33 k34 k37 slots 11 params 2
def G_l_below (c0 c1 c2 c3 : Nat) (S : Nat → List PyData → R PyData) : Vars → Out :=
  (sSeq (sSetM [6] 2 (eOp gMod (eVar 1) (eCall gLen (aCons (eVar 0) aNil))))
    (sSeq (sSetM [6] 1 (eOp gDiv (eVar 1) (eCall gLen (aCons (eVar 0) aNil))))
    (sSeq (sAsg [6] (gtTup 2 (gtCons (gtName 3) (gtCons (gtName 4) gtNil))) (eOp gIx (eVar 0) (eVar 2)))
    (sSeq (sSetM [6] 5 (eOp gIx (eLst (aCons (eOp gSub (eVar 4) (eC (.int 1))) (aCons (eC (.int 0)) (aCons (eOp gMod (eOp gDiv (eVar 1) (eC (.int 3))) (eVar 4)) aNil)))) (eOp gMod (eVar 1) (eC (.int 3)))))
    (sSeq (sNew [6] 6 (nListC (aCons (eSl (eVar 0) oNone (oSome (eVar 2))) aNil)))
    (sSeq (sIf (tOf (eOp gGt (eVar 5) (eC (.int 0)))) (sAppM [6] 6 (eTup (aCons (eVar 3) (aCons (eVar 5) aNil)))) sNil)
    (sSeq (sSet [] 7 (eFn (S c0) (aCons (eVar 1) (aCons (eC (.int 5)) aNil))))
    (sSeq (sSetLc [] 8 (nLc (iSeq (eFn (S c1) (aCons (eOp gDiv (eVar 7) (eC (.int 2))) (aCons (eC (.int 2)) aNil)))) (gtName 10) (tOf (eOp gEq (eFn (S c2) (aCons (eOp gIx (eVar 10) (eC (.int 0))) (aCons (eVar 3) aNil))) (eNeg (eC (.int 1))))) (eVar 10) [10]))
    (sSeq (sIf (tAndR (tOf (eOp gEq (eOp gMod (eVar 7) (eC (.int 2))) (eC (.int 1)))) (tOf (eOp gNe (eVar 3) (eTup aNil)))) (sSeq (sSet [] 9 (eTup (aCons (eFn (S c3) (aCons (eVar 3) (aCons (eOp gDiv (eVar 7) (eC (.int 2))) aNil))) (aCons (eOp gAdd (eC (.int 1)) (eOp gMod (eOp gDiv (eVar 7) (eC (.int 8))) (eC (.int 4)))) aNil)))) (sSet [] 8 (eOp gAdd (eLst (aCons (eVar 9) aNil)) (eLc (iSeq (eVar 8)) (gtName 10) (tOf (eOp gEq (eFn (S c2) (aCons (eOp gIx (eVar 10) (eC (.int 0))) (aCons (eOp gIx (eVar 9) (eC (.int 0))) aNil))) (eNeg (eC (.int 1))))) (eVar 10) [10])))) sNil)
    (sRet (eCall gTuple (aCons (eOp gAdd (eVar 6) (eVar 8)) aNil))))))))))))
-- k24 slots 5 params 2
def G_l_wider (c0 c1 : Nat) (S : Nat → List PyData → R PyData) : Vars → Out :=
  (sSeq (sSet [] 2 (eCall gList (aCons (eVar 0) aNil)))
    (sSeq (sFor [] (iRange (aCons (eC (.int 4)) aNil)) (gtName 3) (sFor [] (iSeq (eFn (S c0) (aCons (eOp gAdd (eOp gAdd (eOp gIx (eVar 1) (eVar 3)) (eOp gMul (eC (.int 11)) (eVar 3))) (eC (.int 1))) (aCons (eC (.int 2)) aNil)))) (gtName 4) (sSet [] 2 (eFn (S c1) (aCons (eVar 2) (aCons (eVar 4) aNil))))))
    (sRet (eCall gTuple (aCons (eVar 2) aNil)))))
-- k33 k34 k75 k76 k84 slots 8 params 2
def G_least (c0 c1 c2 c3 c4 : Nat) (S : Nat → List PyData → R PyData) : Vars → Out :=
  (sSeq (sSet [] 2 (eFn (S c0) (aCons (eVar 0) aNil)))
    (sSeq (sSet [] 3 (eOp gIx (eOp gIx (eVar 0) (eNeg (eC (.int 1)))) (eC (.int 0))))
    (sSeq (sSet [] 4 (eFn (S c1) (aCons (eVar 3) aNil)))
    (sSeq (sSet [] 5 (eFn (S c2) (aCons (eVar 1) (aCons (eVar 2) aNil))))
    (sSeq (sIf (tOrR (tOf (eOp gLt (eVar 5) (eC (.int 0)))) (tAndR (tOf (eOp gEq (eVar 5) (eC (.int 0)))) (tTru (eVar 4)))) (sRet (eC (.int 0))) sNil)
    (sSeq (sIf (tOf (eOp gEq (eVar 5) (eC (.int 0)))) (sRet (eC (.int 1))) sNil)
    (sSeq (sAsg [] (gtTup 2 (gtCons (gtName 6) (gtCons (gtName 7) gtNil))) (eOp gIx (eFn (S c3) (aCons (eVar 1) (aCons (eVar 2) aNil))) (eC (.int 0))))
    (sSeq (sIf (tTru (eVar 4)) (sRet (eFn (S c4) (aCons (eVar 3) (aCons (eVar 6) aNil)))) sNil)
    (sSeq (sIf (tOf (eOp gEq (eVar 6) (eFn (S c0) (aCons (eVar 3) aNil)))) (sRet (eOp gAdd (eVar 7) (eC (.int 1)))) sNil)
    (sRet (eC (.int 1))))))))))))
-- k33 k34 k75 k76 k84 slots 2 params 2
def G_rung (c0 c1 c2 : Nat) (S : Nat → List PyData → R PyData) : Vars → Out :=
  (sSeq (sIf (tNotR (tTru (eFn (S c0) (aCons (eVar 0) aNil)))) (sRaise "NoLimit") sNil)
    (sSeq (sIf (tOf (eOp gGe (eFn (S c1) (aCons (eVar 1) (aCons (eVar 0) aNil))) (eC (.int 0)))) (sRaise "TooHigh") sNil)
    (sRet (eFn (S c2) (aCons (eVar 0) (aCons (eVar 1) aNil))))))
end Pu
set_option Elab.async false
set_option linter.all false
set_option maxRecDepth 100000
set_option maxHeartbeats 4000000
namespace Nm
open PySem Pu O L2
/-! ### a number below another one -/
theorem pre_lt {x y : O} (h : cmp x y = -1) : ∀ P : List (O × Int), cmp (of (P ++ x.parts)) (of (P ++ y.parts)) = -1
  | [] => by show cmp (of x.parts) (of y.parts) = -1; rw [of_parts, of_parts]; exact h
  | (e, n) :: P => by
    show cmp (.c e n (of (P ++ x.parts))) (.c e n (of (P ++ y.parts))) = -1
    exact cmp_c.mpr (Or.inr ⟨rfl, Or.inr ⟨rfl, pre_lt h P⟩⟩)
structure Low (a r : O) : Prop where
  nf : NF r
  lt : cmp r a = -1
  h : r.h ≤ a.h + 2
  ll : r.len ≤ a.len + 4
  s : r.size ≤ (a.h + 1) * (a.size + 65)
  m : mx r ≤ max (mx a) 1000000000000000
def BelowOk (k : Nat) (F : Fn) : Prop := ∀ (a : O) (v : Int), NF a → a ≠ .z → a.h ≤ k → a.h ≤ 12 → a.size ≤ 20000 → ∃ r, F [enc a, .int v] = .ok (enc r) ∧ Low a r
theorem filt_below (t : O) (e : O) {F : Fn} {k : Nat} (hF : CmpOk k F) (ht : t.h ≤ k) {ρ : Vars} {j : Nat} {x : Expr → Expr} (hi : ∀ y, (ρ.set j y).getD j none = y) {g : Vars → R PyData} (hg : ∀ y, g (ρ.set j y) = .ok (enc e)) :
    lcL (gtName j) (tOf (eOp gEq (eFn F (aCons (eOp gIx (eVar j) (eC (.int 0))) (aCons g aNil))) (eNeg (eC (.int 1))))) (eVar j) ρ (encL t) = .ok ((t.parts.filter fun p => decide (cmp p.1 e = -1)).map encP) := by
  refine lc_parts (P := fun p => decide (cmp p.1 e = -1)) (fun p hp => ?_) fun p hp _ => ?_
  · have := part_mem_h hp
    have o := hF p.1 e (by omega)
    simp only [u_tOf, u_eOp, u_eFn, u_aCons, u_eVar, hi, R.of_some, R.bind_ok, u_eC, u_gIx_t, atI_zero, u_aNil, hg, o, u_eNeg, gEq_int]
  · simp only [u_eVar, hi, R.of_some]
theorem l_below_step {S : Nat → Fn} {c0 c1 c2 c3 k : Nat} (h0 : MixOk (S c0)) (h1 : DrawnOk 3 (S c1)) (h2 : CmpOk 20 (S c2)) (h3 : BelowOk k (S c3)) : BelowOk (k + 1) (fun ds => fnD 11 (G_l_below c0 c1 c2 c3 S) ds) := by
  intro a v na az hk ah as
  have al := len_le_size a
  have l0 : 0 < a.len := by
    cases a with
    | z => exact absurd rfl az
    | c e n r => show 0 < r.len + 1; omega
  have m0 := Int.emod_nonneg v (show (a.len : Int) ≠ 0 by omega)
  have m1 := Int.emod_lt_of_pos v (show 0 < (a.len : Int) by omega)
  obtain ⟨j, hj⟩ := Int.eq_ofNat_of_zero_le m0
  have jl : j < a.parts.length := by rw [len_parts]; omega
  obtain ⟨e, n, hp⟩ : ∃ e n, a.parts[j] = (e, n) := ⟨_, _, rfl⟩
  have ax : atI (encL a) (v % (a.len : Int)) = some (encP (e, n)) := by
    rw [hj, encL_parts]
    exact L2.atI_nat (by rw [List.getElem?_map, List.getElem?_eq_getElem jl, hp]; rfl)
  have pm : (e, n) ∈ a.parts := by rw [← hp]; exact List.getElem_mem jl
  have split : a.parts = a.parts.take j ++ (e, n) :: a.parts.drop (j + 1) := by
    rw [← hp, ← List.drop_eq_getElem_cons jl, List.take_append_drop]
  have np := ((nf_parts a).mp na).2 _ pm
  replace np : NF e ∧ 1 ≤ n := np
  have ph := part_mem_h pm
  replace ph : e.h + 1 ≤ a.h := ph
  have ps := size_part pm
  replace ps : e.size ≤ a.size := ps
  have pw := ((nf_parts a).mp na).1
  rw [split, List.pairwise_append] at pw
  have top : ∀ p ∈ a.parts.take j, cmp p.1 e = 1 := fun p hq => pw.2.2 p hq (e, n) (by simp)
  have pmx := (mx_parts (mx_nonneg a) a).mp (Int.le_refl _)
  have tk : (a.parts.take j).length = j := by rw [List.length_take]; omega
  have ct : Pu.cutD (encL a) none (some (v % (a.len : Int))) = (a.parts.take j).map encP := by rw [hj, cut_front, encL_take, encL_of]
  obtain ⟨w, hw⟩ : ∃ w : Int, v / (a.len : Int) = w := ⟨_, rfl⟩
  have mm : cMod v (a.len : Int) = true := cMod_of (by omega)
  have dd : cDiv v (a.len : Int) = true := cDiv_of 20 (by omega) (by omega) (by decide) (by decide)
  have y0 := Int.emod_nonneg (w / 3) (show n ≠ 0 by omega)
  have y1 := Int.emod_lt_of_pos (w / 3) (show 0 < n by omega)
  have mn : ∀ i : Int, cMod i n = true := fun i => cMod_of (by omega)
  obtain ⟨q, hq, q0, q1⟩ : ∃ q : Int, atI [PyData.int (n - 1), .int 0, .int (w / 3 % n)] (w % 3) = some (.int q) ∧ 0 ≤ q ∧ q < n := by
    have : w % 3 = 0 ∨ w % 3 = 1 ∨ w % 3 = 2 := by omega
    rcases this with z | z | z <;> rw [z]
    · exact ⟨_, atI_zero _ _, by omega, by omega⟩
    · exact ⟨_, atI_one _ _ _, by omega, by omega⟩
    · exact ⟨_, atI_two _ _ _ _, by omega, by omega⟩
  obtain ⟨x, ex, x0, x1⟩ := h0 w 5 (by decide) (by decide)
  obtain ⟨t, et, dt⟩ := h1 (x / 2) 2 (by decide) (by decide)
  replace et : S c1 [.int (x / 2), .int 2] = .ok (enc t) := et
  have th := dt.h
  have tl := dt.ll
  have ts := dt.s
  have k64 : (4 : Nat) ^ (2 + 1) = 64 := by decide
  rw [k64] at ts
  have tmx := dt.m
  have ge := gNe_nil (a := e) (by omega)
  have m3 : ∀ i : Int, cMod i 3 = true ∧ cMod i 2 = true ∧ cMod i 4 = true := fun i => ⟨cMod_of (by decide), cMod_of (by decide), cMod_of (by decide)⟩
  have dv : ∀ i : Int, cDiv i 3 = true ∧ cDiv i 2 = true ∧ cDiv i 8 = true := fun i => ⟨cDiv_of 10 (by decide) (by decide) (by decide) (by decide), cDiv_of 10 (by decide) (by decide) (by decide) (by decide), cDiv_of 10 (by decide) (by decide) (by decide) (by decide)⟩
  -- the tail
  have nt := dt.nf
  have f1s : (t.parts.filter fun p => decide (cmp p.1 e = -1)).Sublist t.parts := List.filter_sublist
  have nT1 : NF (of (t.parts.filter fun p => decide (cmp p.1 e = -1))) := nf_sub (ps := t.parts) (by rw [of_parts]; exact nt) f1s
  obtain ⟨Y, nY, hY, Yh, Yl, Ys, Ym, eY⟩ : ∃ Y : O, NF Y ∧ (∀ p ∈ Y.parts, cmp e p.1 = 1) ∧ Y.h ≤ a.h + 2 ∧ Y.len ≤ 4 ∧ Y.size ≤ 65 + (if e = .z then 0 else (e.h + 1) * (e.size + 65)) ∧ mx Y ≤ max (mx a) 1000000000000000 ∧
      ∀ (r6 : PyData) (st : Int), ∃ z9 z10, (sIf (tAndR (tOf (eOp gEq (eOp gMod (eVar 7) (eC (.int 2))) (eC (.int 1)))) (tOf (eOp gNe (eVar 3) (eTup aNil)))) (sSeq (sSet [] 9 (eTup (aCons (eFn (S c3) (aCons (eVar 3) (aCons (eOp gDiv (eVar 7) (eC (.int 2))) aNil))) (aCons (eOp gAdd (eC (.int 1)) (eOp gMod (eOp gDiv (eVar 7) (eC (.int 8))) (eC (.int 4)))) aNil)))) (sSet [] 8 (eOp gAdd (eLst (aCons (eVar 9) aNil)) (eLc (iSeq (eVar 8)) (gtName 10) (tOf (eOp gEq (eFn (S c2) (aCons (eOp gIx (eVar 10) (eC (.int 0))) (aCons (eOp gIx (eVar 9) (eC (.int 0))) aNil))) (eNeg (eC (.int 1))))) (eVar 10) [10])))) sNil)
        [some (enc a), some (.int w), some (.int (v % (a.len : Int))), some (enc e), some (.int n), some (.int q), some r6, some (.int x), some (.list ((t.parts.filter fun p => decide (cmp p.1 e = -1)).map encP)), none, none] = .nx [some (enc a), some (.int w), some (.int (v % (a.len : Int))), some (enc e), some (.int n), some (.int q), some r6, some (.int x), some (.list (encL Y)), z9, z10] := by
    have fl1 := f1s.length_le
    rw [len_parts] at fl1
    have T1mx : mx (of (t.parts.filter fun p => decide (cmp p.1 e = -1))) ≤ 1000000000000000 := by
      have := mx_sub (ps := t.parts) (B := 1000000000000000) (by decide) (by rw [of_parts]; exact tmx) f1s
      exact this
    have T1s := size_sub f1s
    rw [of_parts] at T1s
    by_cases c : x % 2 = 1 ∧ e ≠ .z
    · rw [decide_eq_false c.2] at ge
      obtain ⟨f, ef, lf⟩ := h3 e (x / 2) np.1 c.2 (by omega) (by omega) (by omega)
      have f2s : ((t.parts.filter fun p => decide (cmp p.1 e = -1)).filter fun p => decide (cmp p.1 f = -1)).Sublist (t.parts.filter fun p => decide (cmp p.1 e = -1)) := List.filter_sublist
      have nT2 := nf_sub (ps := t.parts.filter fun p => decide (cmp p.1 e = -1)) nT1 f2s
      have T2s := size_sub f2s
      have T2mx := mx_sub (ps := t.parts.filter fun p => decide (cmp p.1 e = -1)) (B := 1000000000000000) (by decide) T1mx f2s
      have fl2 := f2s.length_le
      have fs := lf.s
      have fh := lf.h
      have fm := lf.m
      have em := pmx (e, n) pm
      replace em : n ≤ mx a ∧ mx e ≤ mx a := em
      have sz : (O.c f (1 + x / 8 % 4) (of ((t.parts.filter fun p => decide (cmp p.1 e = -1)).filter fun p => decide (cmp p.1 f = -1)))).size = 1 + f.size + (of ((t.parts.filter fun p => decide (cmp p.1 e = -1)).filter fun p => decide (cmp p.1 f = -1))).size := rfl
      refine ⟨.c f (1 + x / 8 % 4) (of ((t.parts.filter fun p => decide (cmp p.1 e = -1)).filter fun p => decide (cmp p.1 f = -1))), nf_mk lf.nf (by omega) nT2 fun p hp => ?_, fun p hp => ?_, ?_, ?_, ?_, ?_, fun r6 st => ?_⟩
      · rw [parts_of] at hp
        exact cmp_gt.mpr (of_decide_eq_true (List.mem_filter.mp hp).2)
      · rcases List.mem_cons.mp (show p ∈ (f, 1 + x / 8 % 4) :: (of ((t.parts.filter fun p => decide (cmp p.1 e = -1)).filter fun p => decide (cmp p.1 f = -1))).parts from hp) with z | z
        · rw [z]; exact cmp_gt.mpr lf.lt
        · rw [parts_of] at z
          exact cmp_gt.mpr (of_decide_eq_true (List.mem_filter.mp (f2s.subset z)).2)
      · have h5 : (of ((t.parts.filter fun p => decide (cmp p.1 e = -1)).filter fun p => decide (cmp p.1 f = -1))).h ≤ 3 := h_of.mpr fun p hp => by
          have := part_mem_h (f1s.subset (f2s.subset hp)); omega
        show max (f.h + 1) _ ≤ a.h + 2
        omega
      · show (of _).len + 1 ≤ 4
        rw [len_of]; omega
      · rw [if_neg c.2, sz]; omega
      · show max (1 + x / 8 % 4) (max (mx f) (mx (of ((t.parts.filter fun p => decide (cmp p.1 e = -1)).filter fun p => decide (cmp p.1 f = -1))))) ≤ max (mx a) 1000000000000000
        omega
      · have lc := filt_below (of (t.parts.filter fun p => decide (cmp p.1 e = -1))) f h2 (by rw [h_of]; exact fun p hp => by have := part_mem_h (f1s.subset hp); omega) (x := id) (j := 10) (ρ := [some (enc a), some (.int w), some (.int (v % (a.len : Int))), some (enc e), some (.int n), some (.int q), some r6, some (.int x), some (.list ((t.parts.filter fun p => decide (cmp p.1 e = -1)).map encP)), some (.tuple [enc f, .int (1 + x / 8 % 4)]), none]) (fun y => rfl) (g := eOp gIx (eVar 9) (eC (.int 0))) (fun y => by simp)
        rw [parts_of, encL_of] at lc
        have sl : ((t.parts.filter fun p => decide (cmp p.1 e = -1)).filter fun p => decide (cmp p.1 f = -1)).length < sizeLine := sz1000' (by omega)
        have sl2 : 1 + ((t.parts.filter fun p => decide (cmp p.1 e = -1)).filter fun p => decide (cmp p.1 f = -1)).length ≤ sizeLine := sz1000 (by omega)
        have eL : encL (.c f (1 + x / 8 % 4) (of ((t.parts.filter fun p => decide (cmp p.1 e = -1)).filter fun p => decide (cmp p.1 f = -1)))) = .tuple [enc f, .int (1 + x / 8 % 4)] :: ((t.parts.filter fun p => decide (cmp p.1 e = -1)).filter fun p => decide (cmp p.1 f = -1)).map encP := by
          show _ :: encL (of _) = _
          rw [encL_of]
        rw [eL]
        generalize ((t.parts.filter fun p => decide (cmp p.1 e = -1)).filter fun p => decide (cmp p.1 f = -1)) = T2 at *
        generalize (t.parts.filter fun p => decide (cmp p.1 e = -1)) = T1 at *
        have c1 := c.1
        refine ⟨some (.tuple [enc f, .int (1 + x / 8 % 4)]), none, ?_⟩
        simp [m3, dv, c1, ge, ef, lc, sl, sl2]
    · refine ⟨of (t.parts.filter fun p => decide (cmp p.1 e = -1)), nT1, fun p hp => ?_, ?_, ?_, ?_, ?_, fun r6 st => ⟨none, none, ?_⟩⟩
      · rw [parts_of] at hp
        exact cmp_gt.mpr (of_decide_eq_true (List.mem_filter.mp hp).2)
      · exact h_of.mpr fun p hp => by have := part_mem_h (f1s.subset hp); omega
      · rw [len_of]; omega
      · omega
      · omega
      · rw [encL_of]
        by_cases c1 : x % 2 = 1
        · have ez : e = .z := by
            by_cases z : e = .z
            · exact z
            · exact absurd ⟨c1, z⟩ c
          rw [decide_eq_true ez] at ge
          simp [m3, c1, ge]
        · simp [m3, c1]
  -- the whole
  obtain ⟨X, hX⟩ : ∃ X : O, X = if 0 < q then .c e q Y else Y := ⟨_, rfl⟩
  have Xp : X.parts = (if 0 < q then [(e, q)] else []) ++ Y.parts := by
    rw [hX]; split <;> rfl
  have nX : NF X := by
    rw [hX]
    split
    · exact nf_mk np.1 (by omega) nY hY
    · exact nY
  have Xe : ∀ p ∈ X.parts, p.1 = e ∨ cmp e p.1 = 1 := fun p hq => by
    rw [Xp] at hq
    rcases List.mem_append.mp hq with z | z
    · split at z
      · simp only [List.mem_singleton] at z; rw [z]; exact Or.inl rfl
      · cases z
    · exact Or.inr (hY p z)
  have ltX : cmp X (.c e n (of (a.parts.drop (j + 1)))) = -1 := by
    rw [hX]
    split
    · exact cmp_c.mpr (Or.inr ⟨rfl, Or.inl q1⟩)
    · cases hYc : Y with
      | z => exact cmp_zc
      | c f d s => exact cmp_lt_head (cmp_gt.mp (hY (f, d) (by rw [hYc]; show _ ∈ (f, d) :: s.parts; simp)))
  have Xm : mx X ≤ max (mx a) 1000000000000000 := by
    have em := pmx (e, n) pm
    replace em : n ≤ mx a ∧ mx e ≤ mx a := em
    rw [hX]
    split
    · show max q (max (mx e) (mx Y)) ≤ _; omega
    · exact Ym
  have Xh : X.h ≤ a.h + 2 := by
    rw [hX]
    split
    · show max (e.h + 1) Y.h ≤ _; omega
    · exact Yh
  have pre : (of (a.parts.take j)).size + (if 0 < q then 1 + e.size else 0) ≤ a.size := by
    have h5 := size_app (a.parts.take j) ((e, n) :: a.parts.drop (j + 1))
    rw [← split, of_parts] at h5
    have h6 : (of ((e, n) :: a.parts.drop (j + 1))).size = 1 + e.size + (of (a.parts.drop (j + 1))).size := rfl
    split <;> omega
  have Xs : X.size = (if 0 < q then 1 + e.size else 0) + Y.size := by
    rw [hX]
    split
    · rfl
    · rw [Nat.zero_add]
  refine ⟨of (a.parts.take j ++ X.parts), fnD_of ?_, ⟨?_, ?_, ?_, ?_, ?_, ?_⟩⟩
  · have lc := filt_below t e h2 (by omega) (x := id) (j := 10) (ρ := [some (enc a), some (.int w), some (.int (v % (a.len : Int))), some (enc e), some (.int n), some (.int q), some (.list ((a.parts.take j ++ (if 0 < q then [(e, q)] else [])).map encP)), some (.int x), none, none, none]) (fun y => rfl) (g := eVar 3) (fun y => by simp)
    obtain ⟨z9, z10, tl2⟩ := eY (.list ((a.parts.take j ++ (if 0 < q then [(e, q)] else [])).map encP)) 0
    have sl : (t.parts.filter fun p => decide (cmp p.1 e = -1)).length < sizeLine := by
      have : (t.parts.filter fun p => decide (cmp p.1 e = -1)).length ≤ t.len := by rw [← len_parts]; exact List.length_filter_le _ _
      exact sz1000' (by omega)
    have ep : enc (of (a.parts.take j ++ X.parts)) = .tuple ((a.parts.take j ++ (if 0 < q then [(e, q)] else [])).map encP ++ encL Y) := by
      show PyData.tuple (encL _) = _
      rw [encL_of, Xp, ← List.append_assoc, List.map_append (l₂ := Y.parts), ← encL_parts]
    have s3 : (3 : Nat) ≤ sizeLine := by decide
    have sj : (a.parts.take j).length < sizeLine := sz1000' (by omega)
    have sfin : (a.parts.take j ++ (if 0 < q then [(e, q)] else [])).length + Y.len ≤ sizeLine := by
      rw [List.length_append]
      split
      · rw [List.length_singleton]; exact sz1000 (by omega)
      · rw [List.length_nil]; exact sz1000 (by omega)
    rw [ep]
    unfold G_l_below
    by_cases qp : 0 < q
    · rw [if_pos qp, List.map_append] at lc tl2 ⊢
      rw [if_pos qp, List.length_append] at sfin
      generalize (t.parts.filter fun p => decide (cmp p.1 e = -1)) = T1 at *
      rw [show List.map encP [(e, q)] = [PyData.tuple [enc e, .int q]] from rfl] at lc tl2 ⊢
      simp only [List.length_singleton] at sfin
      generalize a.parts.take j = P at ct lc tl2 sj sfin ⊢
      have head : ∀ K : Vars → Out, (sSeq (sSetM [6] 2 (eOp gMod (eVar 1) (eCall gLen (aCons (eVar 0) aNil)))) (sSeq (sSetM [6] 1 (eOp gDiv (eVar 1) (eCall gLen (aCons (eVar 0) aNil)))) (sSeq (sAsg [6] (gtTup 2 (gtCons (gtName 3) (gtCons (gtName 4) gtNil))) (eOp gIx (eVar 0) (eVar 2))) (sSeq (sSetM [6] 5 (eOp gIx (eLst (aCons (eOp gSub (eVar 4) (eC (.int 1))) (aCons (eC (.int 0)) (aCons (eOp gMod (eOp gDiv (eVar 1) (eC (.int 3))) (eVar 4)) aNil)))) (eOp gMod (eVar 1) (eC (.int 3))))) (sSeq (sNew [6] 6 (nListC (aCons (eSl (eVar 0) oNone (oSome (eVar 2))) aNil))) (sSeq (sIf (tOf (eOp gGt (eVar 5) (eC (.int 0)))) (sAppM [6] 6 (eTup (aCons (eVar 3) (aCons (eVar 5) aNil)))) sNil) (sSeq (sSet [] 7 (eFn (S c0) (aCons (eVar 1) (aCons (eC (.int 5)) aNil)))) (sSeq (sSetLc [] 8 (nLc (iSeq (eFn (S c1) (aCons (eOp gDiv (eVar 7) (eC (.int 2))) (aCons (eC (.int 2)) aNil)))) (gtName 10) (tOf (eOp gEq (eFn (S c2) (aCons (eOp gIx (eVar 10) (eC (.int 0))) (aCons (eVar 3) aNil))) (eNeg (eC (.int 1))))) (eVar 10) [10])) K)))))))) [some (enc a), some (.int v), none, none, none, none, none, none, none, none, none] = K [some (enc a), some (.int w), some (.int (v % (a.len : Int))), some (enc e), some (.int n), some (.int q), some (.list (P.map encP ++ [.tuple [enc e, .int q]])), some (.int x), some (.list (T1.map encP)), none, none] := fun K => by
        simp [mask, mm, dd, hw, ax, mn, m3, dv, s3, hq, ct, qp, sj, ex, et, lc, sl]
      show (sSeq (sSetM [6] 2 (eOp gMod (eVar 1) (eCall gLen (aCons (eVar 0) aNil)))) (sSeq (sSetM [6] 1 (eOp gDiv (eVar 1) (eCall gLen (aCons (eVar 0) aNil)))) (sSeq (sAsg [6] (gtTup 2 (gtCons (gtName 3) (gtCons (gtName 4) gtNil))) (eOp gIx (eVar 0) (eVar 2))) (sSeq (sSetM [6] 5 (eOp gIx (eLst (aCons (eOp gSub (eVar 4) (eC (.int 1))) (aCons (eC (.int 0)) (aCons (eOp gMod (eOp gDiv (eVar 1) (eC (.int 3))) (eVar 4)) aNil)))) (eOp gMod (eVar 1) (eC (.int 3))))) (sSeq (sNew [6] 6 (nListC (aCons (eSl (eVar 0) oNone (oSome (eVar 2))) aNil))) (sSeq (sIf (tOf (eOp gGt (eVar 5) (eC (.int 0)))) (sAppM [6] 6 (eTup (aCons (eVar 3) (aCons (eVar 5) aNil)))) sNil) (sSeq (sSet [] 7 (eFn (S c0) (aCons (eVar 1) (aCons (eC (.int 5)) aNil)))) (sSeq (sSetLc [] 8 (nLc (iSeq (eFn (S c1) (aCons (eOp gDiv (eVar 7) (eC (.int 2))) (aCons (eC (.int 2)) aNil)))) (gtName 10) (tOf (eOp gEq (eFn (S c2) (aCons (eOp gIx (eVar 10) (eC (.int 0))) (aCons (eVar 3) aNil))) (eNeg (eC (.int 1))))) (eVar 10) [10])) _)))))))) [some (enc a), some (.int v), none, none, none, none, none, none, none, none, none] = _
      rw [head, u_sSeq, tl2, Out.then_nx]
      simp [sfin]
    · rw [if_neg qp, List.append_nil] at lc tl2 ⊢
      rw [if_neg qp, List.append_nil] at sfin
      generalize (t.parts.filter fun p => decide (cmp p.1 e = -1)) = T1 at *
      generalize a.parts.take j = P at ct lc tl2 sj sfin ⊢
      have head : ∀ K : Vars → Out, (sSeq (sSetM [6] 2 (eOp gMod (eVar 1) (eCall gLen (aCons (eVar 0) aNil)))) (sSeq (sSetM [6] 1 (eOp gDiv (eVar 1) (eCall gLen (aCons (eVar 0) aNil)))) (sSeq (sAsg [6] (gtTup 2 (gtCons (gtName 3) (gtCons (gtName 4) gtNil))) (eOp gIx (eVar 0) (eVar 2))) (sSeq (sSetM [6] 5 (eOp gIx (eLst (aCons (eOp gSub (eVar 4) (eC (.int 1))) (aCons (eC (.int 0)) (aCons (eOp gMod (eOp gDiv (eVar 1) (eC (.int 3))) (eVar 4)) aNil)))) (eOp gMod (eVar 1) (eC (.int 3))))) (sSeq (sNew [6] 6 (nListC (aCons (eSl (eVar 0) oNone (oSome (eVar 2))) aNil))) (sSeq (sIf (tOf (eOp gGt (eVar 5) (eC (.int 0)))) (sAppM [6] 6 (eTup (aCons (eVar 3) (aCons (eVar 5) aNil)))) sNil) (sSeq (sSet [] 7 (eFn (S c0) (aCons (eVar 1) (aCons (eC (.int 5)) aNil)))) (sSeq (sSetLc [] 8 (nLc (iSeq (eFn (S c1) (aCons (eOp gDiv (eVar 7) (eC (.int 2))) (aCons (eC (.int 2)) aNil)))) (gtName 10) (tOf (eOp gEq (eFn (S c2) (aCons (eOp gIx (eVar 10) (eC (.int 0))) (aCons (eVar 3) aNil))) (eNeg (eC (.int 1))))) (eVar 10) [10])) K)))))))) [some (enc a), some (.int v), none, none, none, none, none, none, none, none, none] = K [some (enc a), some (.int w), some (.int (v % (a.len : Int))), some (enc e), some (.int n), some (.int q), some (.list (P.map encP)), some (.int x), some (.list (T1.map encP)), none, none] := fun K => by
        simp [mask, mm, dd, hw, ax, mn, m3, dv, s3, hq, ct, qp, sj, ex, et, lc, sl]
      show (sSeq (sSetM [6] 2 (eOp gMod (eVar 1) (eCall gLen (aCons (eVar 0) aNil)))) (sSeq (sSetM [6] 1 (eOp gDiv (eVar 1) (eCall gLen (aCons (eVar 0) aNil)))) (sSeq (sAsg [6] (gtTup 2 (gtCons (gtName 3) (gtCons (gtName 4) gtNil))) (eOp gIx (eVar 0) (eVar 2))) (sSeq (sSetM [6] 5 (eOp gIx (eLst (aCons (eOp gSub (eVar 4) (eC (.int 1))) (aCons (eC (.int 0)) (aCons (eOp gMod (eOp gDiv (eVar 1) (eC (.int 3))) (eVar 4)) aNil)))) (eOp gMod (eVar 1) (eC (.int 3))))) (sSeq (sNew [6] 6 (nListC (aCons (eSl (eVar 0) oNone (oSome (eVar 2))) aNil))) (sSeq (sIf (tOf (eOp gGt (eVar 5) (eC (.int 0)))) (sAppM [6] 6 (eTup (aCons (eVar 3) (aCons (eVar 5) aNil)))) sNil) (sSeq (sSet [] 7 (eFn (S c0) (aCons (eVar 1) (aCons (eC (.int 5)) aNil)))) (sSeq (sSetLc [] 8 (nLc (iSeq (eFn (S c1) (aCons (eOp gDiv (eVar 7) (eC (.int 2))) (aCons (eC (.int 2)) aNil)))) (gtName 10) (tOf (eOp gEq (eFn (S c2) (aCons (eOp gIx (eVar 10) (eC (.int 0))) (aCons (eVar 3) aNil))) (eNeg (eC (.int 1))))) (eVar 10) [10])) _)))))))) [some (enc a), some (.int v), none, none, none, none, none, none, none, none, none] = _
      rw [head, u_sSeq, tl2, Out.then_nx]
      simp [sfin]
  · rw [nf_of]
    refine ⟨List.pairwise_append.mpr ⟨pw.1, ((nf_parts X).mp nX).1, fun p hp2 y hy => ?_⟩, fun p hp2 => ?_⟩
    · rcases Xe y hy with z | z
      · rw [z]; exact top p hp2
      · exact gt_trans (top p hp2) z
    · rcases List.mem_append.mp hp2 with z | z
      · exact ((nf_parts a).mp na).2 p (List.mem_of_mem_take z)
      · exact ((nf_parts X).mp nX).2 p z
  · have := pre_lt ltX (a.parts.take j)
    have e2 : (O.c e n (of (a.parts.drop (j + 1)))).parts = (e, n) :: a.parts.drop (j + 1) := by
      show (e, n) :: (of _).parts = _; rw [parts_of]
    rw [e2, ← split, of_parts] at this
    exact this
  · refine h_of.mpr fun p hp2 => ?_
    rcases List.mem_append.mp hp2 with z | z
    · have := part_mem_h (List.mem_of_mem_take z); omega
    · have := part_mem_h z; omega
  · rw [len_of, List.length_append, tk, Xp, List.length_append, len_parts]
    split
    · rw [List.length_singleton]; omega
    · rw [List.length_nil]; omega
  · rw [size_app, of_parts, Xs]
    have big : (if e = .z then 0 else (e.h + 1) * (e.size + 65)) ≤ a.h * (a.size + 65) := by
      split
      · exact Nat.zero_le _
      · exact Nat.mul_le_mul ph (by omega)
    rw [Nat.add_mul, Nat.one_mul]
    omega
  · refine (mx_of (by omega)).mpr fun p hp2 => ?_
    rcases List.mem_append.mp hp2 with z | z
    · have := pmx p (List.mem_of_mem_take z); omega
    · have := (mx_parts (mx_nonneg X) X).mp (Int.le_refl _) p z; omega
end Nm
set_option Elab.async false
set_option linter.all false
set_option maxRecDepth 100000
set_option maxHeartbeats 4000000
namespace Nm
open PySem Pu O L2
/-- a lesser number is not nested deeper -/
theorem lt_h : ∀ {x a : O}, NF x → cmp x a = -1 → x.h ≤ a.h
  | .z, _, _, _ => Nat.zero_le _
  | .c e n r, .z, _, h => by simp [cmp] at h
  | .c e n r, .c f m s, nx, h => by
    have t := nf_tail nx
    have h1 : (O.c f m s).h = max (f.h + 1) s.h := rfl
    have he : e.h ≤ f.h := by
      rcases cmp_c.mp h with q | ⟨q, _⟩
      · exact lt_h t.2.1 q
      · rw [q]; exact Nat.le_refl _
    have hr : r.h ≤ (O.c f m s).h := by
      cases hr : r with
      | z => exact Nat.zero_le _
      | c g k u =>
        rw [← hr]
        refine lt_h t.1 ?_
        have g1 := t.2.2.2 (g, k) (by rw [hr]; show _ ∈ (g, k) :: u.parts; simp)
        rw [hr]
        refine cmp_lt_head ?_
        rcases cmp_c.mp h with q | ⟨q, _⟩
        · exact lt_trans (cmp_gt.mp g1) q
        · rw [← q]; exact cmp_gt.mp g1
    show max (e.h + 1) r.h ≤ _
    omega
theorem Sz.low {H L K Z C M : Nat} {a r : O} (x : Sz H L K Z C M a) (l : Low a r) (hM : 50 ≤ M) : Sz H (L + 4) ((H + 1) * (Z + 65)) ((H + 1) * (Z + 65)) M M r := by
  have hm : mx r < 2 ^ M := by
    have h1 := x.m
    have h2 := l.m
    have : (2 : Int) ^ 50 ≤ 2 ^ M := by exact_mod_cast Nat.pow_le_pow_right (show 0 < 2 by decide) hM
    have h3 : (1000000000000000 : Int) < 2 ^ 50 := by decide
    omega
  have hs : r.size ≤ (H + 1) * (Z + 65) := Nat.le_trans l.s (Nat.mul_le_mul (by have := x.h; omega) (by have := x.s; omega))
  exact ⟨l.nf, Nat.le_trans (lt_h l.nf l.lt) x.h, by have := l.ll; have := x.ll; omega, Nat.le_trans (hd_size r) hs, hs, cs_of_mx l.nf hm, hm⟩
/-! many parts put in -/
theorem Sz.ins {H L K Z C M E : Nat} {a e : O} {n : Int} (x : Sz H L K Z C M a) (ne : NF e) (eh : e.h + 1 ≤ H) (es : e.size ≤ E) (em : mx e < 2 ^ M) (n1 : 1 ≤ n) (nm : n < 2 ^ M) : Sz H (L + 1) (Z + 1 + E) (Z + 1 + E) M M (insO a e n) := by
  have nf := ins_nf a e n x.nf ne n1
  have hs : (insO a e n).size ≤ Z + 1 + E := by have := ins_size a e n; have := x.s; omega
  have hm : mx (insO a e n) < 2 ^ M := by
    have := x.m
    have := ins_mx (a := a) (e := e) (n := n) (B := 2 ^ M - 1) (by omega) (by omega) (by omega)
    omega
  exact ⟨nf, ins_h x.h eh, by have := ins_len a e n; have := x.ll; omega, Nat.le_trans (hd_size _) hs, hs, cs_of_mx nf hm, hm⟩
end Nm
set_option Elab.async false
set_option linter.all false
set_option maxRecDepth 100000
set_option maxHeartbeats 4000000
namespace Nm
open PySem Pu O L2
def FacOk (F : Fn) : Prop := (∀ a, NF a → a ≠ .z → a.h ≤ 28 → a.size ≤ 100000 → F [enc a] = .ok (.list ((facO a).map enc))) ∧ F [.tuple []] = .err "Nought"
theorem sqn {g h : Vars → Out} {ρ ρ' : Vars} (e : g ρ = .nx ρ') : sSeqN g h ρ = h ρ' := by unfold sSeqN; rw [e]
abbrev fcB (S : Nat → Fn) (c0 c1 c2 c3 : Nat) : Vars → Out := (sSeq (sSetM [3] 5 (eFn (S c1) (aCons (eOp gIx (eOp gIx (eVar 0) (eVar 4)) (eC (.int 0))) (aCons (eOp gIx (eOp gIx (eVar 0) (eOp gAdd (eVar 4) (eC (.int 1)))) (eC (.int 0))) aNil)))) (sSeq (sAppM [3] 3 (eFn (S c2) (aCons (eFn (fun ds => S c3 (ds ++ [.int 1])) (aCons (eVar 5) aNil)) (aCons (eFn (S c0) (aCons (eC (.int 1)) aNil)) aNil)))) (sIf (tOf (eOp gGt (eOp gIx (eOp gIx (eVar 0) (eVar 4)) (eC (.int 1))) (eC (.int 1)))) (sAppM [3] 3 (eFn (S c0) (aCons (eOp gIx (eOp gIx (eVar 0) (eVar 4)) (eC (.int 1))) aNil))) sNil)))
theorem fac_turn {S : Nat → Fn} {c0 c1 c2 c3 k : Nat} (hk : 31 ≤ k) (h0 : WholeOk (S c0)) (h1 : MinOk k (S c1)) (h2 : PlusOk k (S c2)) (h3 : RaiOk (S c3)) {a : O} (na : NF a) (ah : a.h ≤ 28) (as : a.size ≤ 100000) {i : Nat} (hi : i + 1 < a.len) (x1 x2 x5 : Option PyData) :
    ∃ y5, fcB S c0 c1 c2 c3 [some (enc a), x1, x2, some (.list ((facO (of (a.parts.drop (i + 1)))).map enc)), some (.int (i : Nat)), x5] = .nx [some (enc a), x1, x2, some (.list ((facO (of (a.parts.drop i))).map enc)), some (.int (i : Nat)), y5] := by
  have la := len_le_size a
  have lp := len_parts a
  obtain ⟨⟨e, n⟩, hp⟩ : ∃ p, a.parts[i]? = some p := ⟨_, List.getElem?_eq_getElem (by rw [lp]; omega)⟩
  obtain ⟨⟨f, m⟩, hq⟩ : ∃ p, a.parts[i + 1]? = some p := ⟨_, List.getElem?_eq_getElem (by rw [lp]; omega)⟩
  have d1 := of_drop hp
  have d2 := of_drop hq
  have n1 := nf_drop na i
  rw [d1, d2] at n1
  have ta := nf_tail n1
  have gt : cmp e f = 1 := ta.2.2.2 (f, m) (by show _ ∈ (f, m) :: _; simp)
  have tb := nf_tail ta.1
  obtain ⟨q1, q2, q3⟩ := minus_gt ta.2.1 tb.2.1 gt
  have pm := List.mem_of_getElem? hp
  have pm' := List.mem_of_getElem? hq
  have eh : e.h + 1 ≤ a.h := part_mem_h pm
  have fh : f.h + 1 ≤ a.h := part_mem_h pm'
  have es : e.size ≤ a.size := size_part pm
  have fs : f.size ≤ a.size := size_part pm'
  have el := len_le_size e
  have fl := len_le_size f
  have mh := minus_h (b := f) (Nat.le_refl e.h)
  have ml := minus_len e f
  have e1 := (h1 e f (by omega) (by omega) (by omega) (by omega) (by omega)).1 (fun z => by rw [cmp_neg, z] at gt; cases gt)
  obtain ⟨st, hst⟩ : ∃ st, minusO e f = st := ⟨_, rfl⟩
  rw [hst] at q1 q2 q3 mh ml e1
  have e2 := h3.one st
  have e3 := h0 1 (by decide)
  have nst : NF (.c st 1 .z) := nf_mk q1 (by decide) trivial (fun q hq => by cases hq)
  have e4 := h2 (.c st 1 .z) oneO nst (by show max (st.h + 1) 0 < k; omega) (by show max (st.h + 1) 0 ≤ 30; omega) (by decide) (by show 0 + 1 ≤ 1000000; decide) (by decide)
  rw [plus_wone q3] at e4
  have a0 := atI_at hp
  have a1 := atI_at hq
  have ec : (((i + 1 : Nat)) : Int) = (i : Int) + 1 := by omega
  rw [ec] at a1
  have fl1 := facO_len (of (a.parts.drop (i + 1)))
  have ll1 : (of (a.parts.drop (i + 1))).len ≤ a.len := by rw [← len_parts, parts_of, ← lp]; exact (List.drop_sublist _ _).length_le
  have l1 : ((facO (of (a.parts.drop (i + 1)))).map enc).length < sizeLine := sz1000' (by rw [List.length_map]; omega)
  have l2 : ((facO (of (a.parts.drop (i + 1)))).map enc).length + 1 < sizeLine := sz1000' (by rw [List.length_map]; omega)
  have ef : facO (of (a.parts.drop i)) = facO (of (a.parts.drop (i + 1))) ++ ([O.c st 1 oneO] ++ mnyO n) := by
    rw [d1]
    show facO _ ++ (fstO e (of (a.parts.drop (i + 1))) ++ _) = _
    rw [d2]
    show _ ++ ([O.c (minusO e f) 1 oneO] ++ _) = _
    rw [hst]
  rw [ef]
  generalize facO (of (a.parts.drop (i + 1))) = X at *
  refine ⟨some (enc st), ?_⟩
  have n1' := ta.2.2.1
  by_cases c : 1 < n
  · have e5 := h0 n n1'
    have : mnyO n = [.c .z n .z] := by unfold mnyO; rw [if_pos c]
    rw [this]
    have l1' : X.length < sizeLine := by rw [List.length_map] at l1; exact l1
    have l2' : X.length + 1 < sizeLine := by rw [List.length_map] at l2; exact l2
    simp [fcB, mask, a0, a1, e1, e2, e3, e4, e5, l1', l2', c]
  · have : mnyO n = [] := by unfold mnyO; rw [if_neg c]
    rw [this]
    have l1' : X.length < sizeLine := by rw [List.length_map] at l1; exact l1
    simp [fcB, mask, a0, a1, e1, e2, e3, e4, l1', c]
theorem factors_step {S : Nat → Fn} {c0 c1 c2 c3 k : Nat} (hk : 31 ≤ k) (h0 : WholeOk (S c0)) (h1 : MinOk k (S c1)) (h2 : PlusOk k (S c2)) (h3 : RaiOk (S c3)) : FacOk (fun ds => fnD 6 (G_factors c0 c1 c2 c3 S) ds) := by
  refine ⟨fun a na az ah as => fnD_of ?_, ?_⟩
  · have la := len_le_size a
    have lp := len_parts a
    obtain ⟨N, hN⟩ : ∃ N, a.len = N + 1 := ⟨a.len - 1, by
      cases a with
      | z => exact absurd rfl az
      | c e n r => show r.len + 1 = r.len + 1 - 1 + 1; omega⟩
    obtain ⟨p, pm, pl, pg⟩ := part_last az
    obtain ⟨e, n⟩ := p
    have hp : a.parts[N]? = some (e, n) := by
      rw [List.getLast?_eq_getElem?, lp, hN] at pg
      exact pg
    have d1 := of_drop hp
    have dn : a.parts.drop (N + 1) = [] := List.drop_eq_nil_of_le (by rw [lp, hN]; exact Nat.le_refl _)
    rw [dn] at d1
    have n1 := nf_drop na N
    rw [d1] at n1
    have ta := nf_tail n1
    have n1' := ta.2.2.1
    have eh := part_mem_h pm
    replace eh : e.h + 1 ≤ a.h := eh
    have g1 := gEq_nil (a := a) (by omega)
    rw [decide_eq_false az] at g1
    have g2 := gNe_nil (a := e) (by omega)
    have e2 := h3.one e
    have e0 : facO (of (a.parts.drop N)) = fstO e .z ++ mnyO n := by rw [d1]; rfl
    have ok1 : okI ((a.len : Int) - 2) = true := okI_small (by omega) (by omega)
    have ok2 : okI (-1) = true := by decide
    have ok3 : okC (-1) = true := by decide
    have rn : rngN ((a.len : Int) - 2) (-1) (-1) = N := by
      have := rng_down N
      rwa [show (N : Int) - 1 = (a.len : Int) - 2 by omega] at this
    have step1 : ∃ x1 x2, (fun ρ => sSeqN (sIf (tOf (eOp gEq (eVar 0) (eTup aNil))) (sRaise "Nought") sNil)
    (sSeqN (sAsg [3] (gtTup 2 (gtCons (gtName 1) (gtCons (gtName 2) gtNil))) (eOp gIx (eVar 0) (eNeg (eC (.int 1)))))
    (sSeqN (sNew [3] 3 (nLst aNil))
    (sSeqN (sIf (tOf (eOp gNe (eVar 1) (eTup aNil))) (sAppM [3] 3 (eFn (fun ds => S c3 (ds ++ [.int 1])) (aCons (eVar 1) aNil))) sNil)
    (sSeqN (sIf (tOf (eOp gGt (eVar 2) (eC (.int 1)))) (sAppM [3] 3 (eFn (S c0) (aCons (eVar 2) aNil))) sNil) (fun ρ => Out.nx ρ))))) ρ) [some (enc a), none, none, none, none, none] = .nx [some (enc a), x1, x2, some (.list ((facO (of (a.parts.drop N))).map enc)), none, none] := by
      refine ⟨some (enc e), some (.int n), ?_⟩
      rw [e0]
      have l0 : (0 : Nat) < sizeLine := by decide
      have l1 : (1 : Nat) < sizeLine := by decide
      by_cases c : 1 < n
      · have e5 := h0 n n1'
        have em : mnyO n = [.c .z n .z] := by unfold mnyO; rw [if_pos c]
        rw [em]
        by_cases z : e = .z
        · rw [decide_eq_true z] at g2
          have : fstO e .z = [] := by unfold fstO; rw [if_pos z]
          rw [this]
          simp [mask, g1, g2, pl, e2, e5, c, l0, l1]
        · rw [decide_eq_false z] at g2
          have : fstO e .z = [.c e 1 .z] := by unfold fstO; rw [if_neg z]
          rw [this]
          simp [mask, g1, g2, pl, e2, e5, c, l0, l1]
      · have em : mnyO n = [] := by unfold mnyO; rw [if_neg c]
        rw [em]
        by_cases z : e = .z
        · rw [decide_eq_true z] at g2
          have : fstO e .z = [] := by unfold fstO; rw [if_pos z]
          rw [this]
          simp [mask, g1, g2, pl, e2, c, l0, l1]
        · rw [decide_eq_false z] at g2
          have : fstO e .z = [.c e 1 .z] := by unfold fstO; rw [if_neg z]
          rw [this]
          simp [mask, g1, g2, pl, e2, c, l0, l1]
    obtain ⟨x1, x2, s1⟩ := step1
    obtain ⟨ρ', r1, x4, x5, rfl⟩ := forL_inv (gt := gtName 4) (g := fcB S c0 c1 c2 c3)
      (fun j ρ => ∃ x4 x5, ρ = [some (enc a), x1, x2, some (.list ((facO (of (a.parts.drop (N - j)))).map enc)), x4, x5])
      (rngC ((a.len : Int) - 2) (-1) N) 0 [some (enc a), x1, x2, some (.list ((facO (of (a.parts.drop N))).map enc)), none, none] ⟨_, _, rfl⟩ fun j d ρ hd hi => by
        obtain ⟨x4, x5, rfl⟩ := hi
        rw [rngC_get] at hd
        by_cases q : j < N
        · rw [if_pos q] at hd
          cases hd
          obtain ⟨i, hi⟩ : ∃ i, N - (j + 1) = i := ⟨_, rfl⟩
          obtain ⟨y5, e6⟩ := fac_turn hk h0 h1 h2 h3 na ah as (i := i) (by omega) x1 x2 x5
          have ei : (a.len : Int) - 2 + (j : Nat) * (-1) = (i : Nat) := by omega
          have ej : N - (0 + j) = i + 1 := by omega
          have ej' : N - (0 + j + 1) = i := by omega
          refine ⟨_, _, rfl, Or.inl ?_, some (.int (i : Nat)), y5, rfl⟩
          rw [ei, ej, ej']
          exact e6
        · rw [if_neg q] at hd; cases hd
    rw [rngC_len, Nat.zero_add, Nat.sub_self, List.drop_zero, of_parts] at r1
    have lpR : (sFor [3] (iRange3 (aCons (eOp gSub (eCall gLen (aCons (eVar 0) aNil)) (eC (.int 2))) (aCons (eNeg (eC (.int 1))) (aCons (eNeg (eC (.int 1))) aNil)))) (gtName 4) (fcB S c0 c1 c2 c3)) [some (enc a), x1, x2, some (.list ((facO (of (a.parts.drop N))).map enc)), none, none] = .nx [some (enc a), x1, x2, some (.list ((facO a).map enc)), x4, x5] := by
      rw [u_sFor, ← r1]
      have : (iRange3 (aCons (eOp gSub (eCall gLen (aCons (eVar 0) aNil)) (eC (.int 2))) (aCons (eNeg (eC (.int 1))) (aCons (eNeg (eC (.int 1))) aNil)))) (mask [3] [some (enc a), x1, x2, some (.list ((facO (of (a.parts.drop N))).map enc)), none, none]) = .ok (rngC ((a.len : Int) - 2) (-1) N) := by
        simp [mask, ok1, ok2, ok3, rn]
      rw [this]; rfl
    have asoc : ∀ (g1 g2 g3 g4 g5 h : Vars → Out) (ρ ρ' : Vars), (fun ρ => sSeqN g1 (sSeqN g2 (sSeqN g3 (sSeqN g4 (sSeqN g5 (fun ρ => Out.nx ρ))))) ρ) ρ = .nx ρ' → sSeqN g1 (sSeqN g2 (sSeqN g3 (sSeqN g4 (sSeqN g5 h)))) ρ = h ρ' := by
      intro g1 g2 g3 g4 g5 h ρ ρ' z
      simp only [u_sSeqN] at z ⊢
      cases e1 : g1 ρ with
      | nx ρ1 =>
        rw [e1] at z
        dsimp only at z ⊢
        cases e2 : g2 ρ1 with
        | nx ρ2 =>
          rw [e2] at z
          dsimp only at z ⊢
          cases e3 : g3 ρ2 with
          | nx ρ3 =>
            rw [e3] at z
            dsimp only at z ⊢
            cases e4 : g4 ρ3 with
            | nx ρ4 =>
              rw [e4] at z
              dsimp only at z ⊢
              cases e5 : g5 ρ4 with
              | nx ρ5 =>
                rw [e5] at z
                dsimp only at z ⊢
                cases z; rfl
              | _ => rw [e5] at z; cases z
            | _ => rw [e4] at z; cases z
          | _ => rw [e3] at z; cases z
        | _ => rw [e2] at z; cases z
      | _ => rw [e1] at z; cases z
    unfold G_factors
    refine (asoc _ _ _ _ _ _ _ _ s1).trans ?_
    refine (sqn lpR).trans ?_
    simp
  · refine fnD_err (ρ := [some (.tuple []), none, none, none, none, none]) ?_
    have g1 := gEq_nil (a := .z) (by decide)
    replace g1 : gEq (.tuple []) (.tuple []) = some (.bool true) := g1
    unfold G_factors
    simp [g1]
end Nm
set_option Elab.async false
set_option linter.all false
set_option maxRecDepth 100000
set_option maxHeartbeats 4000000
namespace Nm
open PySem Pu O L2
abbrev wkB (S : Nat → Fn) (c0 : Nat) : Vars → Out := (sSeq (sAsg [] (gtTup 2 (gtCons (gtName 5) (gtCons (gtName 6) gtNil))) (eOp gIx (eVar 0) (eVar 4))) (sSeq (sIf (tOf (eOp gNe (eVar 5) (eTup aNil))) (sSeq (sIf (tOrR (tOf (eOp gEq (eVar 2) (eCall gLen (aCons (eVar 1) aNil)))) (tOrR (tOf (eOp gEq (eOp gIx (eVar 1) (eVar 2)) (eTup aNil))) (tOf (eOp gNe (eOp gIx (eOp gIx (eOp gIx (eVar 1) (eVar 2)) (eC (.int 0))) (eC (.int 1))) (eC (.int 1)))))) (sRet (eC (.bool false))) sNil) (sSeq (sIf (tOrR (tOf (eOp gNe (eSl (eOp gIx (eVar 1) (eVar 2)) (oSome (eC (.int 1))) oNone) (eSl (eTup (aCons (eTup (aCons (eTup aNil) (aCons (eC (.int 1)) aNil))) aNil)) oNone (oSome (eOp gSub (eOp gSub (eCall gLen (aCons (eVar 0) aNil)) (eC (.int 1))) (eVar 4)))))) (tOf (eOp gNe (eFn (S c0) (aCons (eVar 3) (aCons (eOp gIx (eOp gIx (eOp gIx (eVar 1) (eVar 2)) (eC (.int 0))) (eC (.int 0))) aNil))) (eVar 5)))) (sRet (eC (.bool false))) sNil) (sSet [] 2 (eOp gAdd (eVar 2) (eC (.int 1)))))) sNil) (sSeq (sIf (tOf (eOp gGt (eVar 6) (eC (.int 1)))) (sSeq (sIf (tOrR (tOf (eOp gEq (eVar 2) (eCall gLen (aCons (eVar 1) aNil)))) (tOf (eOp gNe (eOp gIx (eVar 1) (eVar 2)) (eTup (aCons (eTup (aCons (eTup aNil) (aCons (eVar 6) aNil))) aNil))))) (sRet (eC (.bool false))) sNil) (sSet [] 2 (eOp gAdd (eVar 2) (eC (.int 1))))) sNil) (sSet [] 3 (eVar 5)))))
theorem atI_mid {xs ys : List O} {f : O} : atI ((xs ++ (f :: ys)).map enc) (xs.length : Int) = some (enc f) := L2.atI_nat (by rw [List.getElem?_map, List.getElem?_append_right (Nat.le_refl _), Nat.sub_self]; rfl)
/-- the first half of a turn: the exponent -/
theorem wk_turn {S : Nat → Fn} {c0 k : Nat} (hk : 31 ≤ k) (h0 : LPlusOk k (S c0)) {a : O} (na : NF a) (ah : a.h ≤ 28) (as : a.size ≤ 100000) {i : Nat} (hi : i < a.len) (x5 x6 : Option PyData) :
    ∃ y5 y6, wkB S c0 [some (enc a), some (.list ((facO a).map enc)), some (.int ((facO (of (a.parts.drop (i + 1)))).length : Nat)), some (enc (hdE (of (a.parts.drop (i + 1))))), some (.int (i : Nat)), x5, x6] = .nx [some (enc a), some (.list ((facO a).map enc)), some (.int ((facO (of (a.parts.drop i))).length : Nat)), some (enc (hdE (of (a.parts.drop i)))), some (.int (i : Nat)), y5, y6] := by
  have la := len_le_size a
  have lp := len_parts a
  obtain ⟨⟨e, n⟩, hp⟩ : ∃ p, a.parts[i]? = some p := ⟨_, List.getElem?_eq_getElem (by rw [lp]; omega)⟩
  have d1 := of_drop hp
  obtain ⟨x, hx⟩ : ∃ x, of (a.parts.drop (i + 1)) = x := ⟨_, rfl⟩
  have xl : x.len = a.len - (i + 1) := by rw [← hx, ← len_parts, parts_of, List.length_drop, lp]
  rw [hx] at d1
  replace d1 : of (a.parts.drop i) = .c e n x := d1
  have n1 := nf_drop na i
  rw [d1] at n1
  have ta := nf_tail n1
  have n1' := ta.2.2.1
  have pm := List.mem_of_getElem? hp
  have eh := part_mem_h pm
  have es := size_part pm
  replace eh : e.h + 1 ≤ a.h := eh
  replace es : e.size ≤ a.size := es
  have el := len_le_size e
  obtain ⟨rest, hr⟩ := fac_suf a i
  rw [d1] at hr
  replace hr : facO a = facO x ++ (fstO e x ++ mnyO n) ++ rest := hr
  have a0 := atI_at hp
  have g2 := gNe_nil (a := e) (by omega)
  rw [hx, d1]
  have hl : (facO (.c e n x)).length = (facO x).length + ((fstO e x).length + (mnyO n).length) := by
    show (facO x ++ (fstO e x ++ mnyO n)).length = _
    rw [List.length_append, List.length_append]
  have xq : (hdE x).h ≤ 30 ∧ (hdE x).len ≤ 1000000 := by
    cases x with
    | z => exact ⟨by decide, by decide⟩
    | c f m s =>
      have fm : (f, m) ∈ a.parts := List.mem_of_mem_drop (i := i + 1) (by
        have := congrArg O.parts hx
        rw [parts_of] at this
        rw [this]; show _ ∈ (f, m) :: s.parts; simp)
      have h1 : f.h + 1 ≤ a.h := part_mem_h fm
      have h2 : f.size ≤ a.size := size_part fm
      have h3 := len_le_size f
      exact ⟨by show f.h ≤ 30; omega, by show f.len ≤ 1000000; omega⟩
  obtain ⟨xh, xs'⟩ := xq
  refine ⟨some (enc e), some (.int n), ?_⟩
  -- the second half, at any place
  have half2 : ∀ (q : Nat) (zs : List O), facO a = zs ++ (mnyO n ++ rest) → zs.length = q →
      (sSeq (sIf (tOf (eOp gGt (eVar 6) (eC (.int 1)))) (sSeq (sIf (tOrR (tOf (eOp gEq (eVar 2) (eCall gLen (aCons (eVar 1) aNil)))) (tOf (eOp gNe (eOp gIx (eVar 1) (eVar 2)) (eTup (aCons (eTup (aCons (eTup aNil) (aCons (eVar 6) aNil))) aNil))))) (sRet (eC (.bool false))) sNil) (sSet [] 2 (eOp gAdd (eVar 2) (eC (.int 1))))) sNil) (sSet [] 3 (eVar 5))) [some (enc a), some (.list ((facO a).map enc)), some (.int (q : Nat)), some (enc (hdE x)), some (.int (i : Nat)), some (enc e), some (.int n)] = .nx [some (enc a), some (.list ((facO a).map enc)), some (.int ((q + (mnyO n).length : Nat))), some (enc e), some (.int (i : Nat)), some (enc e), some (.int n)] := by
    intro q zs hz hq
    by_cases c : 1 < n
    · have em : mnyO n = [.c .z n .z] := by unfold mnyO; rw [if_pos c]
      rw [em] at hz ⊢
      have am : atI ((facO a).map enc) (q : Int) = some (enc (.c .z n .z)) := by rw [hz, ← hq]; exact atI_mid
      have g3 : gNe (enc (.c .z n .z)) (.tuple [.tuple [.tuple [], .int n]]) = some (.bool false) := by
        have := gNe_enc (a := .c .z n .z) (b := .c .z n .z) (by show max (0 + 1) 0 ≤ 31; decide) (by show max (0 + 1) 0 ≤ 31; decide)
        rw [show enc (.c .z n .z) = .tuple [.tuple [.tuple [], .int n]] from rfl] at this ⊢
        rw [this]; simp
      have l1 : ¬ (q : Int) = ((facO a).length : Nat) := by
        have := congrArg List.length hz
        rw [List.length_append, List.length_append, hq] at this
        have : ([O.c .z n .z] : List O).length = 1 := rfl
        omega
      have l2 : ¬ q = (facO a).length := by omega
      generalize facO a = X at *
      simp [c, am, g3, l1, l2]
    · have em : mnyO n = [] := by unfold mnyO; rw [if_neg c]
      rw [em]
      simp [c]
  by_cases z : e = .z
  · subst z
    obtain ⟨hxz, hf⟩ := fst_z n1
    rw [decide_eq_true rfl] at g2
    rw [hf] at hr hl
    have h2 := half2 (facO x).length (facO x) (by rw [hr, List.append_assoc]; rfl) rfl
    show (wkB S c0 _) = Out.nx [_, _, some (.int ((facO (.c .z n x)).length : Nat)), some (enc .z), _, _, _]
    rw [hl, show (([] : List O).length + (mnyO n).length) = (mnyO n).length by simp]
    refine Eq.trans ?_ h2
    generalize facO a = X at *
    generalize facO x = Y at *
    replace g2 : gNe (.tuple []) (.tuple []) = some (.bool false) := g2
    simp [wkB, a0, g2, show enc O.z = PyData.tuple [] from rfl]
  · rw [decide_eq_false z] at g2
    obtain ⟨st, t, f1, f2, f3, f4, f5, f6, f7⟩ := fst_of n1 z
    rw [f1] at hr hl
    have h2 := half2 ((facO x).length + 1) (facO x ++ [.c st 1 t]) (by rw [hr]; simp) (by simp)
    have am : atI ((facO a).map enc) ((facO x).length : Int) = some (enc (.c st 1 t)) := by
      rw [hr, List.append_assoc]; exact atI_mid
    have th : t.h ≤ 2 := by rcases f7 with ⟨_, h⟩ | ⟨_, h⟩ <;> rw [h] <;> decide
    have g3 := gEq_nil (a := .c st 1 t) (by show max (st.h + 1) t.h ≤ 31; omega)
    rw [decide_eq_false (fun w => O.noConfusion w)] at g3
    have l1 : ¬ ((facO x).length : Int) = ((facO a).length : Nat) := by
      have := congrArg List.length hr
      simp only [List.length_append, List.length_cons, List.length_nil] at this
      omega
    have l2 : ¬ (facO x).length = (facO a).length := by omega
    have j0 : (a.len : Int) - 1 - (i : Nat) = (x.len : Nat) := by omega
    have ct : Pu.cutD [PyData.tuple [.tuple [], .int 1]] none (some ((x.len : Nat) : Int)) = encL t := by
      rw [cut_front]
      rcases f7 with ⟨h1, h2⟩ | ⟨h1, h2⟩
      · rw [h1, h2]; rfl
      · rw [h2]
        cases x with
        | z => exact absurd rfl h1
        | c _ _ r => show List.take (r.len + 1) _ = _; rw [List.take_succ_cons, List.take_nil]; rfl
    have a1 : atI (encL (.c st 1 t)) 0 = some (encP (st, 1)) := atI_zero _ _
    have c1 : Pu.cutD (encL (.c st 1 t)) (some 1) none = encL t := cut_tl _ _
    have g4 : gNe (.tuple (encL t)) (.tuple (encL t)) = some (.bool false) := by
      have := gNe_enc (a := t) (b := t) (by omega) (by omega)
      rw [show enc t = .tuple (encL t) from rfl] at this
      rw [this]; simp
    have p1 := h0 (hdE x) st (by omega) xh (by omega) xs' (by omega)
    rw [f2] at p1
    have g5 : gNe (enc e) (enc e) = some (.bool false) := by rw [gNe_enc (by omega) (by omega)]; simp
    show (wkB S c0 _) = Out.nx [_, _, some (.int ((facO (.c e n x)).length : Nat)), some (enc e), _, _, _]
    rw [hl, show ((facO x).length + (([O.c st 1 t] : List O).length + (mnyO n).length)) = (facO x).length + 1 + (mnyO n).length by simp; omega]
    refine Eq.trans ?_ h2
    have et : enc (.c st 1 t) = .tuple (encL (.c st 1 t)) := rfl
    rw [et] at am g3
    generalize facO a = X at *
    generalize facO x = Y at *
    generalize encL (.c st 1 t) = Z at *
    rw [show ((Y.length + 1 : Nat) : Int) = (Y.length : Int) + 1 by omega]
    simp [wkB, a0, g2, am, g3, a1, l1, l2, j0, ct, c1, g4, p1, g5]
def WkdOk (F : Fn) : Prop := ∀ a : O, NF a → a.h ≤ 28 → a.size ≤ 100000 → F [enc a, .list ((facO a).map enc)] = .ok (.bool true)
theorem walked_step {S : Nat → Fn} {c0 k : Nat} (hk : 31 ≤ k) (h0 : LPlusOk k (S c0)) : WkdOk (fun ds => fnD 7 (G_l_walked c0 S) ds) := by
  intro a na ah as
  refine fnD_of ?_
  have la := len_le_size a
  have ok1 : okI ((a.len : Int) - 1) = true := okI_small (by omega) (by omega)
  have ok2 : okI (-1) = true := by decide
  have ok3 : okC (-1) = true := by decide
  have rn := rng_down a.len
  have dn : a.parts.drop a.len = [] := List.drop_eq_nil_of_le (by rw [len_parts]; exact Nat.le_refl _)
  obtain ⟨ρ', r1, x4, x5, x6, rfl⟩ := forL_inv (gt := gtName 4) (g := wkB S c0)
    (fun j ρ => ∃ x4 x5 x6, ρ = [some (enc a), some (.list ((facO a).map enc)), some (.int ((facO (of (a.parts.drop (a.len - j)))).length : Nat)), some (enc (hdE (of (a.parts.drop (a.len - j))))), x4, x5, x6])
    (rngC ((a.len : Int) - 1) (-1) a.len) 0 [some (enc a), some (.list ((facO a).map enc)), some (.int 0), some (.tuple []), none, none, none] ⟨none, none, none, by rw [Nat.sub_zero, dn]; rfl⟩ fun j d ρ hd hi => by
      obtain ⟨x4, x5, x6, rfl⟩ := hi
      rw [rngC_get] at hd
      by_cases q : j < a.len
      · rw [if_pos q] at hd
        cases hd
        obtain ⟨i, hi⟩ : ∃ i, a.len - (j + 1) = i := ⟨_, rfl⟩
        obtain ⟨y5, y6, e6⟩ := wk_turn hk h0 na ah as (i := i) (by omega) x5 x6
        have ei : (a.len : Int) - 1 + (j : Nat) * (-1) = (i : Nat) := by omega
        have ej : a.len - (0 + j) = i + 1 := by omega
        have ej' : a.len - (0 + j + 1) = i := by omega
        refine ⟨_, _, rfl, Or.inl ?_, some (.int (i : Nat)), y5, y6, rfl⟩
        rw [ei, ej, ej']
        exact e6
      · rw [if_neg q] at hd; cases hd
  rw [rngC_len, Nat.zero_add, Nat.sub_self, List.drop_zero, of_parts] at r1
  unfold G_l_walked
  simp [ok1, ok2, ok3, rn, r1]
end Nm
set_option Elab.async false
set_option linter.all false
set_option maxRecDepth 100000
set_option maxHeartbeats 4000000
namespace Lk26
open PySem PySem.Spec PyProof.Rows L2 Pu
def top (i : Nat) : Stmt := PySem.Challenge.pw_hydrahouse_k26_factors.main.body.getD i (.Pass ⟨0, 0, 0, 0⟩)
abbrev s_is_whole : Stmt := top 6
abbrev N_is_whole : List Str := ["thing"]
theorem sc_is_whole : FnScope N_is_whole ["thing"] (defScope s_is_whole) := ⟨rfl, rfl, rfl, by decide +kernel, rfl, by decide +kernel, by decide +kernel⟩
def g_is_whole (S : Nat → List PyData → R PyData) : Vars → Out :=
  (sRet (eAnd (eIsi "int" (eVar 0)) (eAnd (eNot (eIsi "bool" (eVar 0))) (eOp gGe (eVar 0) (eC (.int 0))))))
abbrev s_compare : Stmt := top 7
abbrev N_compare : List Str := ["a", "b", "one", "other", "side"]
theorem sc_compare : FnScope N_compare ["a", "b"] (defScope s_compare) := ⟨rfl, rfl, rfl, by decide +kernel, rfl, by decide +kernel, by decide +kernel⟩
abbrev gb_compare_1 (S : Nat → List PyData → R PyData) : Vars → Out :=
  (sSeq (sSet [] 4 (eFn (S 1) (aCons (eOp gIx (eVar 2) (eC (.int 0))) (aCons (eOp gIx (eVar 3) (eC (.int 0))) aNil)))) (sSeq (sIf (tOf (eOp gNe (eVar 4) (eC (.int 0)))) (sRet (eVar 4)) sNil) (sIf (tOf (eOp gNe (eOp gIx (eVar 2) (eC (.int 1))) (eOp gIx (eVar 3) (eC (.int 1))))) (sRet (eIf (tOf (eOp gGt (eOp gIx (eVar 2) (eC (.int 1))) (eOp gIx (eVar 3) (eC (.int 1))))) (eC (.int 1)) (eNeg (eC (.int 1))))) sNil)))
def g_compare (S : Nat → List PyData → R PyData) : Vars → Out :=
  (sSeq (sFor [] (iZipD (aCons (eVar 0) (aCons (eVar 1) aNil))) (gtTup 2 (gtCons (gtName 2) (gtCons (gtName 3) gtNil))) (gb_compare_1 S))
    (sSeq (sIf (tOf (eOp gEq (eCall gLen (aCons (eVar 0) aNil)) (eCall gLen (aCons (eVar 1) aNil)))) (sRet (eC (.int 0))) sNil)
    (sRet (eIf (tOf (eOp gGt (eCall gLen (aCons (eVar 0) aNil)) (eCall gLen (aCons (eVar 1) aNil)))) (eC (.int 1)) (eNeg (eC (.int 1)))))))
abbrev s_whole : Stmt := top 8
abbrev N_whole : List Str := ["n"]
theorem sc_whole : FnScope N_whole ["n"] (defScope s_whole) := ⟨rfl, rfl, rfl, by decide +kernel, rfl, by decide +kernel, by decide +kernel⟩
def g_whole (S : Nat → List PyData → R PyData) : Vars → Out :=
  (sRet (eFn (S 3) (aCons (eTup aNil) (aCons (eVar 0) aNil))))
abbrev s_raised : Stmt := top 9
abbrev N_raised : List Str := ["exponent", "times"]
theorem sc_raised : FnScope N_raised ["exponent", "times"] (defScope s_raised) := ⟨rfl, rfl, rfl, by decide +kernel, rfl, by decide +kernel, by decide +kernel⟩
def g_raised (S : Nat → List PyData → R PyData) : Vars → Out :=
  (sSeq (sIf (tNotR (tTru (eFn (S 0) (aCons (eVar 1) aNil)))) (sRaise "NoNumber") sNil)
    (sSeq (sIf (tOf (eOp gEq (eVar 1) (eC (.int 0)))) (sRet (eTup aNil)) sNil)
    (sRet (eTup (aCons (eTup (aCons (eVar 0) (aCons (eVar 1) aNil))) aNil)))))
abbrev s_plus : Stmt := top 11
abbrev N_plus : List Str := ["a", "b", "exponent", "many", "kept", "at", "part"]
theorem sc_plus : FnScope N_plus ["a", "b"] (defScope s_plus) := ⟨rfl, rfl, rfl, by decide +kernel, rfl, by decide +kernel, by decide +kernel⟩
def g_plus (S : Nat → List PyData → R PyData) : Vars → Out :=
  (sSeq (sIf (tOf (eOp gEq (eVar 1) (eTup aNil))) (sRet (eVar 0)) sNil)
    (sSeq (sAsg [] (gtTup 2 (gtCons (gtName 2) (gtCons (gtName 3) gtNil))) (eOp gIx (eVar 1) (eC (.int 0))))
    (sSeq (sSetLc [] 4 (nLc (iSeq (eVar 0)) (gtName 6) (tOf (eOp gEq (eFn (S 1) (aCons (eOp gIx (eVar 6) (eC (.int 0))) (aCons (eVar 2) aNil))) (eC (.int 1)))) (eVar 6) [6]))
    (sSeq (sSet [] 5 (eCall gLen (aCons (eVar 4) aNil)))
    (sSeq (sIf (tAndR (tOf (eOp gLt (eVar 5) (eCall gLen (aCons (eVar 0) aNil)))) (tOf (eOp gEq (eOp gIx (eOp gIx (eVar 0) (eVar 5)) (eC (.int 0))) (eVar 2)))) (sAug [] 3 gAddI (eOp gIx (eOp gIx (eVar 0) (eVar 5)) (eC (.int 1)))) sNil)
    (sRet (eOp gAdd (eOp gAdd (eCall gTuple (aCons (eVar 4) aNil)) (eTup (aCons (eTup (aCons (eVar 2) (aCons (eVar 3) aNil))) aNil))) (eSl (eVar 1) (oSome (eC (.int 1))) oNone))))))))
abbrev s_minus : Stmt := top 12
abbrev N_minus : List Str := ["a", "b", "at", "exponent", "many"]
theorem sc_minus : FnScope N_minus ["a", "b"] (defScope s_minus) := ⟨rfl, rfl, rfl, by decide +kernel, rfl, by decide +kernel, by decide +kernel⟩
abbrev gb_minus_1 (S : Nat → List PyData → R PyData) : Vars → Out :=
  (sAug [] 2 gAddI (eC (.int 1)))
def g_minus (S : Nat → List PyData → R PyData) : Vars → Out :=
  (sSeq (sIf (tOf (eOp gEq (eFn (S 1) (aCons (eVar 1) (aCons (eVar 0) aNil))) (eC (.int 1)))) (sRaise "TooHigh") sNil)
    (sSeq (sSet [] 2 (eC (.int 0)))
    (sSeq (whileL (tAndR (tOf (eOp gLt (eVar 2) (eCall gLen (aCons (eVar 1) aNil)))) (tOf (eOp gEq (eOp gIx (eVar 0) (eVar 2)) (eOp gIx (eVar 1) (eVar 2))))) (gb_minus_1 S) wfuel)
    (sSeq (sIf (tOf (eOp gEq (eVar 2) (eCall gLen (aCons (eVar 1) aNil)))) (sRet (eSl (eVar 0) (oSome (eVar 2)) oNone)) sNil)
    (sSeq (sAsg [] (gtTup 2 (gtCons (gtName 3) (gtCons (gtName 4) gtNil))) (eOp gIx (eVar 0) (eVar 2)))
    (sSeq (sIf (tOf (eOp gEq (eVar 3) (eOp gIx (eOp gIx (eVar 1) (eVar 2)) (eC (.int 0))))) (sRet (eOp gAdd (eTup (aCons (eTup (aCons (eVar 3) (aCons (eOp gSub (eVar 4) (eOp gIx (eOp gIx (eVar 1) (eVar 2)) (eC (.int 1)))) aNil))) aNil)) (eSl (eVar 0) (oSome (eOp gAdd (eVar 2) (eC (.int 1)))) oNone))) sNil)
    (sRet (eSl (eVar 0) (oSome (eVar 2)) oNone))))))))
abbrev s_factors : Stmt := top 14
abbrev N_factors : List Str := ["a", "exponent", "many", "found", "at", "step"]
theorem sc_factors : FnScope N_factors ["a"] (defScope s_factors) := ⟨rfl, rfl, rfl, by decide +kernel, rfl, by decide +kernel, by decide +kernel⟩
abbrev gb_factors_1 (S : Nat → List PyData → R PyData) : Vars → Out :=
  (sSeq (sSetM [3] 5 (eFn (S 5) (aCons (eOp gIx (eOp gIx (eVar 0) (eVar 4)) (eC (.int 0))) (aCons (eOp gIx (eOp gIx (eVar 0) (eOp gAdd (eVar 4) (eC (.int 1)))) (eC (.int 0))) aNil)))) (sSeq (sAppM [3] 3 (eFn (S 4) (aCons (eFn (fun ds => S 3 (ds ++ [.int 1])) (aCons (eVar 5) aNil)) (aCons (eFn (S 2) (aCons (eC (.int 1)) aNil)) aNil)))) (sIf (tOf (eOp gGt (eOp gIx (eOp gIx (eVar 0) (eVar 4)) (eC (.int 1))) (eC (.int 1)))) (sAppM [3] 3 (eFn (S 2) (aCons (eOp gIx (eOp gIx (eVar 0) (eVar 4)) (eC (.int 1))) aNil))) sNil)))
def g_factors (S : Nat → List PyData → R PyData) : Vars → Out :=
  (sSeqN (sIf (tOf (eOp gEq (eVar 0) (eTup aNil))) (sRaise "Nought") sNil)
    (sSeqN (sAsg [3] (gtTup 2 (gtCons (gtName 1) (gtCons (gtName 2) gtNil))) (eOp gIx (eVar 0) (eNeg (eC (.int 1)))))
    (sSeqN (sNew [3] 3 (nLst aNil))
    (sSeqN (sIf (tOf (eOp gNe (eVar 1) (eTup aNil))) (sAppM [3] 3 (eFn (fun ds => S 3 (ds ++ [.int 1])) (aCons (eVar 1) aNil))) sNil)
    (sSeqN (sIf (tOf (eOp gGt (eVar 2) (eC (.int 1)))) (sAppM [3] 3 (eFn (S 2) (aCons (eVar 2) aNil))) sNil)
    (sSeqN (sFor [3] (iRange3 (aCons (eOp gSub (eCall gLen (aCons (eVar 0) aNil)) (eC (.int 2))) (aCons (eNeg (eC (.int 1))) (aCons (eNeg (eC (.int 1))) aNil)))) (gtName 4) (gb_factors_1 S))
    (sRet (eVar 3))))))))
abbrev s_l_cell_at : Stmt := top 16
abbrev N_l_cell_at : List Str := ["_law_script", "_law_k"]
theorem sc_l_cell_at : FnScope N_l_cell_at ["_law_script", "_law_k"] (defScope s_l_cell_at) := ⟨rfl, rfl, rfl, by decide +kernel, rfl, by decide +kernel, by decide +kernel⟩
def g_l_cell_at (S : Nat → List PyData → R PyData) : Vars → Out :=
  (sSeq (sIf (tOf (eOp gLt (eVar 1) (eCall gLen (aCons (eVar 0) aNil)))) (sRet (eOp gIx (eVar 0) (eVar 1))) sNil)
    (sRet (eC (.int 0))))
abbrev s_l_mixed : Stmt := top 17
abbrev N_l_mixed : List Str := ["_law_cell", "_law_k", "_law_number_here"]
theorem sc_l_mixed : FnScope N_l_mixed ["_law_cell", "_law_k"] (defScope s_l_mixed) := ⟨rfl, rfl, rfl, by decide +kernel, rfl, by decide +kernel, by decide +kernel⟩
def g_l_mixed (S : Nat → List PyData → R PyData) : Vars → Out :=
  (sSeq (sSet [] 2 (eOp gMod (eOp gAdd (eOp gMod (eVar 0) (eC (.int 2147483629))) (eOp gMul (eC (.int 48271)) (eOp gAdd (eVar 1) (eC (.int 1))))) (eC (.int 2147483647))))
    (sSeq (sSet [] 2 (eOp gMod (eOp gAdd (eOp gAdd (eOp gMul (eVar 2) (eVar 2)) (eOp gMul (eC (.int 69621)) (eVar 1))) (eC (.int 7))) (eC (.int 2147483587))))
    (sRet (eOp gMod (eOp gMul (eVar 2) (eVar 2)) (eC (.int 2147483579))))))
abbrev s_l_order : Stmt := top 18
abbrev N_l_order : List Str := ["_law_a", "_law_b", "_law_one", "_law_other", "_law_side"]
theorem sc_l_order : FnScope N_l_order ["_law_a", "_law_b"] (defScope s_l_order) := ⟨rfl, rfl, rfl, by decide +kernel, rfl, by decide +kernel, by decide +kernel⟩
abbrev gb_l_order_1 (S : Nat → List PyData → R PyData) : Vars → Out :=
  (sSeq (sSet [] 4 (eFn (S 9) (aCons (eOp gIx (eVar 2) (eC (.int 0))) (aCons (eOp gIx (eVar 3) (eC (.int 0))) aNil)))) (sSeq (sIf (tOf (eOp gNe (eVar 4) (eC (.int 0)))) (sRet (eVar 4)) sNil) (sIf (tOf (eOp gNe (eOp gIx (eVar 2) (eC (.int 1))) (eOp gIx (eVar 3) (eC (.int 1))))) (sRet (eOp gSub (eC (.int 1)) (eOp gMul (eC (.int 2)) (eCall gIntC (aCons (eOp gLt (eOp gIx (eVar 2) (eC (.int 1))) (eOp gIx (eVar 3) (eC (.int 1)))) aNil))))) sNil)))
def g_l_order (S : Nat → List PyData → R PyData) : Vars → Out :=
  (sSeq (sFor [] (iZipD (aCons (eVar 0) (aCons (eVar 1) aNil))) (gtTup 2 (gtCons (gtName 2) (gtCons (gtName 3) gtNil))) (gb_l_order_1 S))
    (sRet (eOp gSub (eCall gIntC (aCons (eOp gGt (eCall gLen (aCons (eVar 0) aNil)) (eCall gLen (aCons (eVar 1) aNil))) aNil)) (eCall gIntC (aCons (eOp gLt (eCall gLen (aCons (eVar 0) aNil)) (eCall gLen (aCons (eVar 1) aNil))) aNil)))))
abbrev s_l_number : Stmt := top 19
abbrev N_l_number : List Str := ["_law_found", "_law_part", "_law_k"]
theorem sc_l_number : FnScope N_l_number ["_law_found"] (defScope s_l_number) := ⟨rfl, rfl, rfl, by decide +kernel, rfl, by decide +kernel, by decide +kernel⟩
abbrev gb_l_number_1 (S : Nat → List PyData → R PyData) : Vars → Out :=
  (sSeq (sIf (tOrR (tNotR (tTru (eIsi "tuple" (eVar 1)))) (tOrR (tOf (eOp gNe (eCall gLen (aCons (eVar 1) aNil)) (eC (.int 2)))) (tNotR (tTru (eFn (S 10) (aCons (eOp gIx (eVar 1) (eC (.int 0))) aNil)))))) (sRet (eC (.bool false))) sNil) (sIf (tOrR (tNotR (tTru (eIsi "int" (eOp gIx (eVar 1) (eC (.int 1)))))) (tOrR (tTru (eIsi "bool" (eOp gIx (eVar 1) (eC (.int 1))))) (tOf (eOp gLt (eOp gIx (eVar 1) (eC (.int 1))) (eC (.int 1)))))) (sRet (eC (.bool false))) sNil))
abbrev gb_l_number_2 (S : Nat → List PyData → R PyData) : Vars → Out :=
  (sIf (tOf (eOp gNe (eFn (S 9) (aCons (eOp gIx (eOp gIx (eVar 0) (eOp gSub (eVar 2) (eC (.int 1)))) (eC (.int 0))) (aCons (eOp gIx (eOp gIx (eVar 0) (eVar 2)) (eC (.int 0))) aNil))) (eC (.int 1)))) (sRet (eC (.bool false))) sNil)
def g_l_number (S : Nat → List PyData → R PyData) : Vars → Out :=
  (sSeq (sIf (tNotR (tTru (eIsi "tuple" (eVar 0)))) (sRet (eC (.bool false))) sNil)
    (sSeq (sFor [] (iSeq (eVar 0)) (gtName 1) (gb_l_number_1 S))
    (sSeq (sFor [] (iRange (aCons (eC (.int 1)) (aCons (eCall gLen (aCons (eVar 0) aNil)) aNil))) (gtName 2) (gb_l_number_2 S))
    (sRet (eC (.bool true))))))
abbrev s_l_put : Stmt := top 20
abbrev N_l_put : List Str := ["_law_parts", "_law_part", "_law_at"]
theorem sc_l_put : FnScope N_l_put ["_law_parts", "_law_part"] (defScope s_l_put) := ⟨rfl, rfl, rfl, by decide +kernel, rfl, by decide +kernel, by decide +kernel⟩
abbrev gb_l_put_1 (S : Nat → List PyData → R PyData) : Vars → Out :=
  (sSet [] 2 (eOp gAdd (eVar 2) (eC (.int 1))))
def g_l_put (S : Nat → List PyData → R PyData) : Vars → Out :=
  (sSeq (sSet [] 2 (eC (.int 0)))
    (sSeq (whileL (tAndR (tOf (eOp gLt (eVar 2) (eCall gLen (aCons (eVar 0) aNil)))) (tOf (eOp gEq (eFn (S 9) (aCons (eOp gIx (eOp gIx (eVar 0) (eVar 2)) (eC (.int 0))) (aCons (eOp gIx (eVar 1) (eC (.int 0))) aNil))) (eC (.int 1))))) (gb_l_put_1 S) wfuel)
    (sSeq (sIf (tAndR (tOf (eOp gLt (eVar 2) (eCall gLen (aCons (eVar 0) aNil)))) (tOf (eOp gEq (eOp gIx (eOp gIx (eVar 0) (eVar 2)) (eC (.int 0))) (eOp gIx (eVar 1) (eC (.int 0)))))) (sRet (eVar 0)) sNil)
    (sRet (eOp gAdd (eOp gAdd (eSl (eVar 0) oNone (oSome (eVar 2))) (eLst (aCons (eVar 1) aNil))) (eSl (eVar 0) (oSome (eVar 2)) oNone))))))
abbrev s_l_many : Stmt := top 21
abbrev N_l_many : List Str := ["_law_number_here", "_law_kind"]
theorem sc_l_many : FnScope N_l_many ["_law_number_here"] (defScope s_l_many) := ⟨rfl, rfl, rfl, by decide +kernel, rfl, by decide +kernel, by decide +kernel⟩
def g_l_many (S : Nat → List PyData → R PyData) : Vars → Out :=
  (sSeq (sSet [] 1 (eOp gMod (eVar 0) (eC (.int 6))))
    (sSeq (sSet [] 0 (eOp gDiv (eVar 0) (eC (.int 6))))
    (sSeq (sIf (tOf (eOp gEq (eVar 1) (eC (.int 0)))) (sRet (eOp gAdd (eC (.int 1)) (eOp gMod (eVar 0) (eC (.int 1000))))) sNil)
    (sSeq (sIf (tOf (eOp gEq (eVar 1) (eC (.int 1)))) (sRet (eOp gAdd (eC (.int 1)) (eOp gMod (eOp gMul (eVar 0) (eVar 0)) (eOp gPow (eC (.int 10)) (eC (.int 15)))))) sNil)
    (sRet (eOp gAdd (eC (.int 1)) (eOp gMod (eVar 0) (eC (.int 3)))))))))
abbrev s_l_drawn : Stmt := top 22
abbrev N_l_drawn : List Str := ["_law_cell", "_law_level", "_law_parts", "_law_k", "_law_number_here", "_law_exponent"]
theorem sc_l_drawn : FnScope N_l_drawn ["_law_cell", "_law_level"] (defScope s_l_drawn) := ⟨rfl, rfl, rfl, by decide +kernel, rfl, by decide +kernel, by decide +kernel⟩
abbrev gb_l_drawn_1 (S : Nat → List PyData → R PyData) : Vars → Out :=
  (sSeq (sSet [] 4 (eFn (S 8) (aCons (eVar 0) (aCons (eOp gAdd (eVar 3) (eC (.int 1))) aNil)))) (sSeq (sSet [] 5 (eTup aNil)) (sSeq (sIf (tOf (eOp gGt (eVar 1) (eC (.int 0)))) (sSet [] 5 (eFn (S 13) (aCons (eOp gDiv (eVar 4) (eC (.int 5))) (aCons (eOp gSub (eVar 1) (eC (.int 1))) aNil)))) sNil) (sSet [] 2 (eFn (S 11) (aCons (eVar 2) (aCons (eTup (aCons (eVar 5) (aCons (eFn (S 12) (aCons (eOp gDiv (eVar 4) (eC (.int 7))) aNil)) aNil))) aNil)))))))
def g_l_drawn (S : Nat → List PyData → R PyData) : Vars → Out :=
  (sSeq (sSet [] 2 (eLst aNil))
    (sSeq (sFor [] (iRange (aCons (eOp gIx (eLst (aCons (eC (.int 0)) (aCons (eC (.int 1)) (aCons (eC (.int 1)) (aCons (eC (.int 2)) (aCons (eC (.int 2)) (aCons (eC (.int 3)) aNil))))))) (eOp gMod (eOp gDiv (eFn (S 8) (aCons (eVar 0) (aCons (eC (.int 0)) aNil))) (eC (.int 5))) (eC (.int 6)))) aNil)) (gtName 3) (gb_l_drawn_1 S))
    (sRet (eCall gTuple (aCons (eVar 2) aNil)))))
abbrev s_l_great : Stmt := top 23
abbrev N_l_great : List Str := ["_law_cell", "_law_number_here"]
theorem sc_l_great : FnScope N_l_great ["_law_cell"] (defScope s_l_great) := ⟨rfl, rfl, rfl, by decide +kernel, rfl, by decide +kernel, by decide +kernel⟩
def g_l_great (S : Nat → List PyData → R PyData) : Vars → Out :=
  (sSeq (sSet [] 1 (eOp gMod (eOp gDiv (eVar 0) (eC (.int 6))) (eOp gPow (eC (.int 10)) (eC (.int 25)))))
    (sSeq (sIf (tOf (eOp gEq (eOp gMod (eFn (S 8) (aCons (eVar 0) (aCons (eC (.int 8)) aNil))) (eC (.int 2))) (eC (.int 0)))) (sRet (eOp gAdd (eC (.int 1)) (eOp gMod (eVar 1) (eC (.int 100))))) sNil)
    (sRet (eOp gAdd (eC (.int 1)) (eOp gMod (eOp gMul (eOp gAdd (eVar 1) (eC (.int 7))) (eOp gAdd (eOp gAdd (eOp gPow (eC (.int 10)) (eC (.int 24))) (eOp gMul (eC (.int 7)) (eVar 1))) (eC (.int 39)))) (eOp gPow (eC (.int 10)) (eC (.int 50))))))))
abbrev s_l_number_by : Stmt := top 24
abbrev N_l_number_by : List Str := ["_law_one", "_law_two", "_law_found", "_law_great_here", "_law_part"]
theorem sc_l_number_by : FnScope N_l_number_by ["_law_one", "_law_two"] (defScope s_l_number_by) := ⟨rfl, rfl, rfl, by decide +kernel, rfl, by decide +kernel, by decide +kernel⟩
def g_l_number_by (S : Nat → List PyData → R PyData) : Vars → Out :=
  (sSeq (sSet [] 2 (eFn (S 13) (aCons (eVar 0) (aCons (eOp gMod (eFn (S 8) (aCons (eVar 1) (aCons (eC (.int 9)) aNil))) (eC (.int 4))) aNil))))
    (sSeq (sSet [] 3 (eFn (S 14) (aCons (eVar 1) aNil)))
    (sSeq (sIf (tOf (eOp gEq (eOp gMod (eVar 1) (eC (.int 6))) (eC (.int 0)))) (sSet [] 2 (eOp gAdd (eCall gTuple (aCons (eLc (iSeq (eVar 2)) (gtName 4) (tOf (eOp gNe (eOp gIx (eVar 4) (eC (.int 0))) (eTup aNil))) (eVar 4) [4]) aNil)) (eTup (aCons (eTup (aCons (eTup aNil) (aCons (eVar 3) aNil))) aNil)))) sNil)
    (sSeq (sIf (tAndR (tOf (eOp gEq (eOp gMod (eVar 1) (eC (.int 6))) (eC (.int 1)))) (tOf (eOp gNe (eVar 2) (eTup aNil)))) (sSet [] 2 (eOp gAdd (eTup (aCons (eTup (aCons (eOp gIx (eOp gIx (eVar 2) (eC (.int 0))) (eC (.int 0))) (aCons (eVar 3) aNil))) aNil)) (eSl (eVar 2) (oSome (eC (.int 1))) oNone))) sNil)
    (sSeq (sIf (tOf (eOp gEq (eOp gMod (eVar 1) (eC (.int 6))) (eC (.int 2)))) (sSet [] 2 (eTup (aCons (eTup (aCons (eVar 2) (aCons (eOp gAdd (eC (.int 1)) (eOp gMod (eVar 3) (eC (.int 3)))) aNil))) aNil))) sNil)
    (sSeq (sIf (tOf (eOp gEq (eOp gMod (eVar 1) (eC (.int 6))) (eC (.int 3)))) (sSet [] 2 (eCall gTuple (aCons (eLc (iSeq (eVar 2)) (gtName 4) (tOf (eOp gNe (eOp gIx (eVar 4) (eC (.int 0))) (eTup aNil))) (eVar 4) [4]) aNil))) sNil)
    (sRet (eVar 2))))))))
abbrev s_l_plus : Stmt := top 25
abbrev N_l_plus : List Str := ["_law_a", "_law_b", "_law_kept", "_law_many_here", "_law_part"]
theorem sc_l_plus : FnScope N_l_plus ["_law_a", "_law_b"] (defScope s_l_plus) := ⟨rfl, rfl, rfl, by decide +kernel, rfl, by decide +kernel, by decide +kernel⟩
def g_l_plus (S : Nat → List PyData → R PyData) : Vars → Out :=
  (sSeq (sIf (tOf (eOp gEq (eVar 1) (eTup aNil))) (sRet (eVar 0)) sNil)
    (sSeq (sSetLc [] 2 (nLc (iSeq (eVar 0)) (gtName 4) (tOf (eOp gEq (eFn (S 9) (aCons (eOp gIx (eVar 4) (eC (.int 0))) (aCons (eOp gIx (eOp gIx (eVar 1) (eC (.int 0))) (eC (.int 0))) aNil))) (eC (.int 1)))) (eVar 4) [4]))
    (sSeq (sSet [] 3 (eCall gSum (aCons (eLc (iSeq (eVar 0)) (gtName 4) (tOf (eOp gEq (eOp gIx (eVar 4) (eC (.int 0))) (eOp gIx (eOp gIx (eVar 1) (eC (.int 0))) (eC (.int 0))))) (eOp gIx (eVar 4) (eC (.int 1))) [4]) aNil)))
    (sRet (eOp gAdd (eOp gAdd (eCall gTuple (aCons (eVar 2) aNil)) (eTup (aCons (eTup (aCons (eOp gIx (eOp gIx (eVar 1) (eC (.int 0))) (eC (.int 0))) (aCons (eOp gAdd (eOp gIx (eOp gIx (eVar 1) (eC (.int 0))) (eC (.int 1))) (eVar 3)) aNil))) aNil))) (eSl (eVar 1) (oSome (eC (.int 1))) oNone))))))
abbrev s_l_product : Stmt := top 26
abbrev N_l_product : List Str := ["_law_a", "_law_b", "_law_found", "_law_exponent", "_law_many_here"]
theorem sc_l_product : FnScope N_l_product ["_law_a", "_law_b"] (defScope s_l_product) := ⟨rfl, rfl, rfl, by decide +kernel, rfl, by decide +kernel, by decide +kernel⟩
abbrev gb_l_product_1 (S : Nat → List PyData → R PyData) : Vars → Out :=
  (sIf (tOf (eOp gEq (eVar 3) (eTup aNil))) (sSet [] 2 (eOp gAdd (eOp gAdd (eVar 2) (eTup (aCons (eTup (aCons (eOp gIx (eOp gIx (eVar 0) (eC (.int 0))) (eC (.int 0))) (aCons (eOp gMul (eOp gIx (eOp gIx (eVar 0) (eC (.int 0))) (eC (.int 1))) (eVar 4)) aNil))) aNil))) (eSl (eVar 0) (oSome (eC (.int 1))) oNone))) (sSet [] 2 (eOp gAdd (eVar 2) (eTup (aCons (eTup (aCons (eFn (S 16) (aCons (eOp gIx (eOp gIx (eVar 0) (eC (.int 0))) (eC (.int 0))) (aCons (eVar 3) aNil))) (aCons (eVar 4) aNil))) aNil)))))
def g_l_product (S : Nat → List PyData → R PyData) : Vars → Out :=
  (sSeq (sSet [] 2 (eTup aNil))
    (sSeq (sIf (tOf (eOp gEq (eVar 0) (eTup aNil))) (sRet (eVar 2)) sNil)
    (sSeq (sFor [] (iSeq (eVar 1)) (gtTup 2 (gtCons (gtName 3) (gtCons (gtName 4) gtNil))) (gb_l_product_1 S))
    (sRet (eVar 2)))))
abbrev s_l_refused : Stmt := top 27
abbrev N_l_refused : List Str := ["_law_refused_here", "e"]
theorem sc_l_refused : FnScope N_l_refused [] (defScope s_l_refused) := ⟨rfl, rfl, rfl, by decide +kernel, rfl, by decide +kernel, by decide +kernel⟩
def g_l_refused (S : Nat → List PyData → R PyData) : Vars → Out :=
  (sSeq (sSet [] 0 (eC (.int 0)))
    (sSeq (sTryC (tabL [("NoNumber", false), ("Nought", true), ("TooHigh", false)]) 0 (.int 1) (sExpr (eFn (fun ds => newL (S 6 ds)) (aCons (eTup aNil) aNil))))
    (sSeq (sTryE (tabL [("NoNumber", true), ("Nought", true), ("TooHigh", true)]) [] 1 0 (fun c => (eOp gAdd (eVar 0) (eCall gIntC (aCons (eKit (tabL [("NoNumber", true), ("Nought", true), ("TooHigh", true)]) c) aNil)))) (sExpr (eFn (fun ds => newL (S 6 ds)) (aCons (eTup aNil) aNil))))
    (sRet (eOp gEq (eVar 0) (eC (.int 2)))))))
abbrev s_l_walked : Stmt := top 28
abbrev N_l_walked : List Str := ["_law_a", "_law_found", "_law_at", "_law_behind", "_law_k", "_law_exponent", "_law_many_here"]
theorem sc_l_walked : FnScope N_l_walked ["_law_a", "_law_found"] (defScope s_l_walked) := ⟨rfl, rfl, rfl, by decide +kernel, rfl, by decide +kernel, by decide +kernel⟩
abbrev gb_l_walked_1 (S : Nat → List PyData → R PyData) : Vars → Out :=
  (sSeq (sAsg [] (gtTup 2 (gtCons (gtName 5) (gtCons (gtName 6) gtNil))) (eOp gIx (eVar 0) (eVar 4))) (sSeq (sIf (tOf (eOp gNe (eVar 5) (eTup aNil))) (sSeq (sIf (tOrR (tOf (eOp gEq (eVar 2) (eCall gLen (aCons (eVar 1) aNil)))) (tOrR (tOf (eOp gEq (eOp gIx (eVar 1) (eVar 2)) (eTup aNil))) (tOf (eOp gNe (eOp gIx (eOp gIx (eOp gIx (eVar 1) (eVar 2)) (eC (.int 0))) (eC (.int 1))) (eC (.int 1)))))) (sRet (eC (.bool false))) sNil) (sSeq (sIf (tOrR (tOf (eOp gNe (eSl (eOp gIx (eVar 1) (eVar 2)) (oSome (eC (.int 1))) oNone) (eSl (eTup (aCons (eTup (aCons (eTup aNil) (aCons (eC (.int 1)) aNil))) aNil)) oNone (oSome (eOp gSub (eOp gSub (eCall gLen (aCons (eVar 0) aNil)) (eC (.int 1))) (eVar 4)))))) (tOf (eOp gNe (eFn (S 16) (aCons (eVar 3) (aCons (eOp gIx (eOp gIx (eOp gIx (eVar 1) (eVar 2)) (eC (.int 0))) (eC (.int 0))) aNil))) (eVar 5)))) (sRet (eC (.bool false))) sNil) (sSet [] 2 (eOp gAdd (eVar 2) (eC (.int 1)))))) sNil) (sSeq (sIf (tOf (eOp gGt (eVar 6) (eC (.int 1)))) (sSeq (sIf (tOrR (tOf (eOp gEq (eVar 2) (eCall gLen (aCons (eVar 1) aNil)))) (tOf (eOp gNe (eOp gIx (eVar 1) (eVar 2)) (eTup (aCons (eTup (aCons (eTup aNil) (aCons (eVar 6) aNil))) aNil))))) (sRet (eC (.bool false))) sNil) (sSet [] 2 (eOp gAdd (eVar 2) (eC (.int 1))))) sNil) (sSet [] 3 (eVar 5)))))
def g_l_walked (S : Nat → List PyData → R PyData) : Vars → Out :=
  (sSeq (sSet [] 2 (eC (.int 0)))
    (sSeq (sSet [] 3 (eTup aNil))
    (sSeq (sFor [] (iRange3 (aCons (eOp gSub (eCall gLen (aCons (eVar 0) aNil)) (eC (.int 1))) (aCons (eNeg (eC (.int 1))) (aCons (eNeg (eC (.int 1))) aNil)))) (gtName 4) (gb_l_walked_1 S))
    (sRet (eOp gEq (eVar 2) (eCall gLen (aCons (eVar 1) aNil)))))))
abbrev s_law : Stmt := top 29
abbrev N_law : List Str := ["_law_script", "_law_at", "_law_a", "_law_found", "_law_made", "_law_one", "_law_kept"]
theorem sc_law : FnScope N_law ["_law_script"] (defScope s_law) := ⟨rfl, rfl, rfl, by decide +kernel, rfl, by decide +kernel, by decide +kernel⟩
abbrev gb_law_1 (S : Nat → List PyData → R PyData) : Vars → Out :=
  (sSeq (sIf (tNotR (tTru (eFn (S 10) (aCons (eVar 5) aNil)))) (sRet (eC (.bool false))) sNil) (sSetM [3] 4 (eFn (S 17) (aCons (eVar 4) (aCons (eVar 5) aNil)))))
abbrev gb_law_2 (S : Nat → List PyData → R PyData) : Vars → Out :=
  (sSeq (sSetM [3] 2 (eFn (S 15) (aCons (eFn (S 7) (aCons (eVar 0) (aCons (eVar 1) aNil))) (aCons (eFn (S 7) (aCons (eVar 0) (aCons (eOp gAdd (eVar 1) (eC (.int 1))) aNil))) aNil)))) (sSeq (sIf (tOf (eOp gEq (eVar 2) (eTup aNil))) (sSetM [3] 2 (eTup (aCons (eTup (aCons (eTup aNil) (aCons (eOp gAdd (eC (.int 1)) (eOp gMod (eFn (S 7) (aCons (eVar 0) (aCons (eVar 1) aNil))) (eC (.int 3)))) aNil))) aNil))) sNil) (sSeq (sNew [3] 3 (nFn (S 6) (aCons (eVar 2) aNil))) (sSeq (sIf (tNotR (tTru (eIsi "list" (eVar 3)))) (sRet (eC (.bool false))) sNil) (sSeq (sSetM [3] 4 (eTup (aCons (eTup (aCons (eTup aNil) (aCons (eC (.int 1)) aNil))) aNil))) (sSeq (sFor [] (iSeq (eVar 3)) (gtName 5) (gb_law_1 S)) (sSeq (sCopy 3 6) (sSeq (sAppM [3] 3 (eTup aNil)) (sIf (tOrR (tOf (eOp gNe (eVar 4) (eVar 2))) (tOrR (tNotR (tTru (eFn (S 19) (aCons (eVar 2) (aCons (eVar 6) aNil))))) (tOf (eOp gNe (eFn (fun ds => newL (S 6 ds)) (aCons (eVar 2) aNil)) (eVar 6))))) (sRet (eC (.bool false))) sNil)))))))))
def g_law (S : Nat → List PyData → R PyData) : Vars → Out :=
  (sSeq (sFor [3] (iRange3 (aCons (eC (.int 0)) (aCons (eCall gMax2 (aCons (eC (.int 2)) (aCons (eCall gMin2 (aCons (eC (.int 50)) (aCons (eCall gLen (aCons (eVar 0) aNil)) aNil))) aNil))) (aCons (eC (.int 2)) aNil)))) (gtName 1) (gb_law_2 S))
    (sRet (eFn (S 18) aNil)))
section
variable {P : Program} {w : World} {K : PySem.W.Frag} {mg : Str → Option Value} {base : Heap}
theorem b_is_whole {k : Nat} {S : Nat → List PyData → R PyData} {f : Addr} {cdv : Value} {A : Around} {outer : List Env} {s : Shared} {H : Hp} {E : XK} (hr : Room k (A.deeper (envOfC "is_whole" (defScope s_is_whole) s.heap.objs.size f cdv))) (m_bool : mg "bool" = none) (m_int : mg "int" = none) (m_isinstance : mg "isinstance" = none) :
    BX (cxOf (L2.CX P w) P w K mg base N_is_whole "is_whole" (defScope s_is_whole) f cdv A outer s H E) E [] (defBody s_is_whole) (g_is_whole S) :=
  (BX.of (own := []) (ssx_one (sx_ret (ex_and (ex_isi kit_int rfl m_isinstance rfl m_int (by decide +kernel) (ex_var 0)) (ex_and (ex_not (ex_isi kit_bool rfl m_isinstance rfl m_bool (by decide +kernel) (ex_var 0))) (ex_one (ex_cmp op_ge op2_cmp (ex_var 0) ex_int (nomark _))))))))
theorem b_compare {k : Nat} {S : Nat → List PyData → R PyData} {f : Addr} {cdv : Value} {A : Around} {outer : List Env} {s : Shared} {H : Hp} {E : XK} (hr : Room k (A.deeper (envOfC "compare" (defScope s_compare) s.heap.objs.size f cdv))) (c_compare : Cal P w K mg base k "compare" 2 (S 1)) (m_len : mg "len" = none) (m_zip : mg "zip" = none) :
    BX (cxOf (L2.CX P w) P w K mg base N_compare "compare" (defScope s_compare) f cdv A outer s H E) E [] (defBody s_compare) (g_compare S) :=
  (BX.cons (own := []) (own' := []) (sx_for passD rfl (ix_zip rfl m_zip (ax_cons (ex_var 0) (ax_cons (ex_var 1) ax_nil))) (gx_tup rfl (gsx_cons (gx_name (i := 2) sc_compare.nd rfl (by first | exact Or.inl rfl | exact Or.inr rfl)) (gsx_cons (gx_name (i := 3) sc_compare.nd rfl (by first | exact Or.inl rfl | exact Or.inr rfl)) gsx_nil))) (gtTup_in (gtCons_in (gtName_in 2) (gtCons_in (gtName_in 3) gtNil_in))) rfl (ssx_cons (sx_set (i := 4) sc_compare.nd rfl (by first | exact Or.inl rfl | exact Or.inr rfl) (ex_fn takesD c_compare hr rfl (ax_cons (ex_ix ix_seq op2_ix (ex_var 2) ex_int (fun _ _ => rfl)) (ax_cons (ex_ix ix_seq op2_ix (ex_var 3) ex_int (fun _ _ => rfl)) ax_nil)) rfl (hlen := aCons_len (aCons_len (fun _ _ h => aNil_len h)))) rfl) (ssx_cons (sx_if (tx_cmp (op_neD hr.units) op2_ne (ex_var 4) ex_int (nomark _)) (ssx_one (sx_ret (ex_var 4))) ssx_nil) (ssx_one (sx_if (tx_cmp (op_neD hr.units) op2_ne (ex_ix ix_seq op2_ix (ex_var 2) ex_int (fun _ _ => rfl)) (ex_ix ix_seq op2_ix (ex_var 3) ex_int (fun _ _ => rfl)) (nomark _)) (ssx_one (sx_ret (ex_if (tx_cmp op_gt op2_cmp (ex_ix ix_seq op2_ix (ex_var 2) ex_int (fun _ _ => rfl)) (ex_ix ix_seq op2_ix (ex_var 3) ex_int (fun _ _ => rfl)) (nomark _)) ex_int (ex_neg ex_int)))) ssx_nil)))))
    (BX.cons (own := []) (own' := []) (sx_if (tx_cmp (op_eqD hr.units) op2_eq (ex_callB call_len calld_len rfl m_len (by decide +kernel) (ax_cons (ex_var 0) ax_nil)) (ex_callB call_len calld_len rfl m_len (by decide +kernel) (ax_cons (ex_var 1) ax_nil)) (nomark _)) (ssx_one (sx_ret ex_int)) ssx_nil)
    (BX.of (own := []) (ssx_one (sx_ret (ex_if (tx_cmp op_gt op2_cmp (ex_callB call_len calld_len rfl m_len (by decide +kernel) (ax_cons (ex_var 0) ax_nil)) (ex_callB call_len calld_len rfl m_len (by decide +kernel) (ax_cons (ex_var 1) ax_nil)) (nomark _)) ex_int (ex_neg ex_int))))) rfl) rfl)
theorem b_whole {k : Nat} {S : Nat → List PyData → R PyData} {f : Addr} {cdv : Value} {A : Around} {outer : List Env} {s : Shared} {H : Hp} {E : XK} (hr : Room k (A.deeper (envOfC "whole" (defScope s_whole) s.heap.objs.size f cdv))) (c_raised : Cal P w K mg base k "raised" 2 (S 3)) :
    BX (cxOf (L2.CX P w) P w K mg base N_whole "whole" (defScope s_whole) f cdv A outer s H E) E [] (defBody s_whole) (g_whole S) :=
  (BX.of (own := []) (ssx_one (sx_ret (ex_fn takesD c_raised hr rfl (ax_cons (ex_tup ax_nil) (ax_cons (ex_var 0) ax_nil)) rfl (hlen := aCons_len (aCons_len (fun _ _ h => aNil_len h)))))))
theorem b_raised {k : Nat} {S : Nat → List PyData → R PyData} {f : Addr} {cdv : Value} {A : Around} {outer : List Env} {s : Shared} {H : Hp} {E : XK} (hr : Room k (A.deeper (envOfC "raised" (defScope s_raised) s.heap.objs.size f cdv))) (c_is_whole : Cal P w K mg base k "is_whole" 1 (S 0)) (e_NoNumber : ErrF K mg "NoNumber") :
    BX (cxOf (L2.CX P w) P w K mg base N_raised "raised" (defScope s_raised) f cdv A outer s H E) E [] (defBody s_raised) (g_raised S) :=
  (BX.cons (own := []) (own' := []) (sx_if (tx_not (tx_tru (ex_fn takesD c_is_whole hr rfl (ax_cons (ex_var 1) ax_nil) rfl (hlen := aCons_len (fun _ _ h => aNil_len h))))) (ssx_one (sx_raise rfl takesD e_NoNumber rfl)) ssx_nil)
    (BX.cons (own := []) (own' := []) (sx_if (tx_cmp (op_eqD hr.units) op2_eq (ex_var 1) ex_int (nomark _)) (ssx_one (sx_ret (ex_tup ax_nil))) ssx_nil)
    (BX.of (own := []) (ssx_one (sx_ret (ex_tup (ax_cons (ex_tup (ax_cons (ex_var 0) (ax_cons (ex_var 1) ax_nil))) ax_nil))))) rfl) rfl)
theorem b_plus {k : Nat} {S : Nat → List PyData → R PyData} {f : Addr} {cdv : Value} {A : Around} {outer : List Env} {s : Shared} {H : Hp} {E : XK} (hr : Room k (A.deeper (envOfC "plus" (defScope s_plus) s.heap.objs.size f cdv))) (c_compare : Cal P w K mg base k "compare" 2 (S 1)) (m_len : mg "len" = none) (m_tuple : mg "tuple" = none) :
    BX (cxOf (L2.CX P w) P w K mg base N_plus "plus" (defScope s_plus) f cdv A outer s H E) E [] (defBody s_plus) (g_plus S) :=
  (BX.cons (own := []) (own' := []) (sx_if (tx_cmp (op_eqD hr.units) op2_eq (ex_var 1) (ex_tup ax_nil) (nomark _)) (ssx_one (sx_ret (ex_var 0))) ssx_nil)
    (BX.cons (own := []) (own' := []) (sx_asg (ex_ix ix_seq op2_ix (ex_var 1) ex_int (fun _ _ => rfl)) (gx_tup rfl (gsx_cons (gx_name (i := 2) sc_plus.nd rfl (by first | exact Or.inl rfl | exact Or.inr rfl)) (gsx_cons (gx_name (i := 3) sc_plus.nd rfl (by first | exact Or.inl rfl | exact Or.inr rfl)) gsx_nil))) (gtTup_in (gtCons_in (gtName_in 2) (gtCons_in (gtName_in 3) gtNil_in))) rfl)
    (BX.cons (own := []) (own' := []) (by exact sx_setLc' (i := 4) (ownc := [("part", 6)]) rfl sc_plus.nd rfl rfl (by exact sw_true rfl rfl rfl (by decide +kernel)) (ix_seq (ex_var 0)) (blkOk_by (N := N_plus) (sc := defScope s_plus) (own := [("part", 6)]) (by decide +kernel)) (by exact fun _ _ _ _ _ => (gx_name (i := 6) sc_plus.nd rfl (by first | exact Or.inl rfl | exact Or.inr rfl))) (by exact fun _ _ _ _ _ => (tsx_one (tx_cmp (op_eqD hr.units) op2_eq (ex_fn takes0 c_compare hr rfl (ax_cons (ex_ix ix_seq op2_ix (ex_var 6) ex_int (fun _ _ => rfl)) (ax_cons (ex_var 2) ax_nil)) rfl (hlen := aCons_len (aCons_len (fun _ _ h => aNil_len h)))) ex_int (nomark _)))) (by exact fun _ _ _ _ _ => (ex_var 6)) (by decide) rfl)
    (BX.cons (own := []) (own' := []) (sx_set (i := 5) sc_plus.nd rfl (by first | exact Or.inl rfl | exact Or.inr rfl) (ex_callB call_len calld_len rfl m_len (by decide +kernel) (ax_cons (ex_var 4) ax_nil)) rfl)
    (BX.cons (own := []) (own' := []) (sx_if (WX'.tx (wx_and (tx_cmp op_lt op2_cmp (ex_var 5) (ex_callB call_len calld_len rfl m_len (by decide +kernel) (ax_cons (ex_var 0) ax_nil)) (nomark _)) (wx_and1 (tx_cmp (op_eqD hr.units) op2_eq (ex_ix ix_seq op2_ix (ex_ix ix_seq op2_ix (ex_var 0) (ex_var 5) (fun _ _ => rfl)) ex_int (fun _ _ => rfl)) (ex_var 2) (nomark _))))) (ssx_one (sx_aug (i := 3) sc_plus.nd rfl (by first | exact Or.inl rfl | exact Or.inr rfl) ipx_addI (ex_ix ix_seq op2_ix (ex_ix ix_seq op2_ix (ex_var 0) (ex_var 5) (fun _ _ => rfl)) ex_int (fun _ _ => rfl)) rfl)) ssx_nil)
    (BX.of (own := []) (ssx_one (sx_ret (ex_op opr_add op2_add (ex_op opr_add op2_add (ex_callT call_tuple_of calld_tuple rfl m_tuple (by decide +kernel) (ax_cons (ex_var 4) ax_nil)) (ex_tup (ax_cons (ex_tup (ax_cons (ex_var 2) (ax_cons (ex_var 3) ax_nil))) ax_nil))) (ex_slice (ex_var 1) (ox_some ex_int) ox_none))))) rfl) rfl) rfl) rfl) rfl)
theorem b_minus {k : Nat} {S : Nat → List PyData → R PyData} {f : Addr} {cdv : Value} {A : Around} {outer : List Env} {s : Shared} {H : Hp} {E : XK} (hr : Room k (A.deeper (envOfC "minus" (defScope s_minus) s.heap.objs.size f cdv))) (c_compare : Cal P w K mg base k "compare" 2 (S 1)) (m_len : mg "len" = none) (e_TooHigh : ErrF K mg "TooHigh") :
    BX (cxOf (L2.CX P w) P w K mg base N_minus "minus" (defScope s_minus) f cdv A outer s H E) E [] (defBody s_minus) (g_minus S) :=
  (BX.cons (own := []) (own' := []) (sx_if (tx_cmp (op_eqD hr.units) op2_eq (ex_fn takesD c_compare hr rfl (ax_cons (ex_var 1) (ax_cons (ex_var 0) ax_nil)) rfl (hlen := aCons_len (aCons_len (fun _ _ h => aNil_len h)))) ex_int (nomark _)) (ssx_one (sx_raise rfl takesD e_TooHigh rfl)) ssx_nil)
    (BX.cons (own := []) (own' := []) (sx_set (i := 2) sc_minus.nd rfl (by first | exact Or.inl rfl | exact Or.inr rfl) ex_int rfl)
    (BX.cons (own := []) (own' := []) (sx_while wfuel passD (WX'.tx (wx_and (tx_cmp op_lt op2_cmp (ex_var 2) (ex_callB call_len calld_len rfl m_len (by decide +kernel) (ax_cons (ex_var 1) ax_nil)) (nomark _)) (wx_and1 (tx_cmp (op_eqD hr.units) op2_eq (ex_ix ix_seq op2_ix (ex_var 0) (ex_var 2) (fun _ _ => rfl)) (ex_ix ix_seq op2_ix (ex_var 1) (ex_var 2) (fun _ _ => rfl)) (nomark _))))) (ssx_one (sx_aug (i := 2) sc_minus.nd rfl (by first | exact Or.inl rfl | exact Or.inr rfl) ipx_addI ex_int rfl)))
    (BX.cons (own := []) (own' := []) (sx_if (tx_cmp (op_eqD hr.units) op2_eq (ex_var 2) (ex_callB call_len calld_len rfl m_len (by decide +kernel) (ax_cons (ex_var 1) ax_nil)) (nomark _)) (ssx_one (sx_ret (ex_slice (ex_var 0) (ox_some (ex_var 2)) ox_none))) ssx_nil)
    (BX.cons (own := []) (own' := []) (sx_asg (ex_ix ix_seq op2_ix (ex_var 0) (ex_var 2) (fun _ _ => rfl)) (gx_tup rfl (gsx_cons (gx_name (i := 3) sc_minus.nd rfl (by first | exact Or.inl rfl | exact Or.inr rfl)) (gsx_cons (gx_name (i := 4) sc_minus.nd rfl (by first | exact Or.inl rfl | exact Or.inr rfl)) gsx_nil))) (gtTup_in (gtCons_in (gtName_in 3) (gtCons_in (gtName_in 4) gtNil_in))) rfl)
    (BX.cons (own := []) (own' := []) (sx_if (tx_cmp (op_eqD hr.units) op2_eq (ex_var 3) (ex_ix ix_seq op2_ix (ex_ix ix_seq op2_ix (ex_var 1) (ex_var 2) (fun _ _ => rfl)) ex_int (fun _ _ => rfl)) (nomark _)) (ssx_one (sx_ret (ex_op opr_add op2_add (ex_tup (ax_cons (ex_tup (ax_cons (ex_var 3) (ax_cons (ex_op opr_sub op2_sub (ex_var 4) (ex_ix ix_seq op2_ix (ex_ix ix_seq op2_ix (ex_var 1) (ex_var 2) (fun _ _ => rfl)) ex_int (fun _ _ => rfl))) ax_nil))) ax_nil)) (ex_slice (ex_var 0) (ox_some (ex_op opr_add op2_add (ex_var 2) ex_int)) ox_none)))) ssx_nil)
    (BX.of (own := []) (ssx_one (sx_ret (ex_slice (ex_var 0) (ox_some (ex_var 2)) ox_none)))) rfl) rfl) rfl) rfl) rfl) rfl)
theorem b_factors {k : Nat} {S : Nat → List PyData → R PyData} {f : Addr} {cdv : Value} {A : Around} {outer : List Env} {s : Shared} {H : Hp} {E : XK} (hr : Room k (A.deeper (envOfC "factors" (defScope s_factors) s.heap.objs.size f cdv))) (c_minus : Cal P w K mg base k "minus" 2 (S 5)) (c_plus : Cal P w K mg base k "plus" 2 (S 4)) (c1_raised : CalX P w K mg base k "raised" 1 1 (S 3)) (c_whole : Cal P w K mg base k "whole" 1 (S 2)) (m_len : mg "len" = none) (m_range : mg "range" = none) (e_Nought : ErrF K mg "Nought") :
    NBX (cxOf (L2.CX P w) P w K mg base N_factors "factors" (defScope s_factors) f cdv A outer s H E) E [3] (defBody s_factors) (g_factors S) :=
  (NBX.cons (own := [3]) (own' := [3]) (sx_if (tx_cmp (op_eqD hr.units) op2_eq (ex_var 0) (ex_tup ax_nil) (nomark _)) (ssx_one (sx_raise rfl takesD e_Nought rfl)) ssx_nil)
    (NBX.cons (own := [3]) (own' := [3]) (sx_asg (ex_ix ix_seq op2_ix (ex_var 0) (ex_neg ex_int) (fun _ _ => rfl)) (gx_tup rfl (gsx_cons (gx_name (i := 1) sc_factors.nd rfl (by first | exact Or.inl rfl | exact Or.inr rfl)) (gsx_cons (gx_name (i := 2) sc_factors.nd rfl (by first | exact Or.inl rfl | exact Or.inr rfl)) gsx_nil))) (gtTup_in (gtCons_in (gtName_in 1) (gtCons_in (gtName_in 2) gtNil_in))) rfl)
    (NBX.cons (own := [3]) (own' := [3]) (sx_new (i := 3) sc_factors.nd rfl (by first | exact Or.inl rfl | exact Or.inr rfl) (nx_lst ax_nil) rfl)
    (NBX.cons (own := [3]) (own' := [3]) (sx_if (tx_cmp (op_neD hr.units) op2_ne (ex_var 1) (ex_tup ax_nil) (nomark _)) (ssx_one (sx_appM (i := 3) (ex_fnX takesD c1_raised hr rfl (ax_cons (ex_var 1) ax_nil) rfl (hlen := aCons_len (fun _ _ h => aNil_len h))) rfl)) ssx_nil)
    (NBX.cons (own := [3]) (own' := [3]) (sx_if (tx_cmp op_gt op2_cmp (ex_var 2) ex_int (nomark _)) (ssx_one (sx_appM (i := 3) (ex_fn takesD c_whole hr rfl (ax_cons (ex_var 2) ax_nil) rfl (hlen := aCons_len (fun _ _ h => aNil_len h))) rfl)) ssx_nil)
    (NBX.cons (own := [3]) (own' := [3]) (sx_for passD rfl (ix_range3 rfl m_range (ax_cons (ex_op opr_sub op2_sub (ex_callB call_len calld_len rfl m_len (by decide +kernel) (ax_cons (ex_var 0) ax_nil)) ex_int) (ax_cons (ex_neg ex_int) (ax_cons (ex_neg ex_int) ax_nil))) (hl := aCons_len (aCons_len (aCons_len (fun _ _ h => aNil_len h))))) (gx_name (i := 4) sc_factors.nd rfl (by first | exact Or.inl rfl | exact Or.inr rfl)) (gtName_in 4) rfl (ssx_cons (sx_setM (i := 5) sc_factors.nd rfl (by first | exact Or.inl rfl | exact Or.inr rfl) (ex_fn takesD c_minus hr rfl (ax_cons (ex_ix ix_seq op2_ix (ex_ix ix_seq op2_ix (ex_var 0) (ex_var 4) (fun _ _ => rfl)) ex_int (fun _ _ => rfl)) (ax_cons (ex_ix ix_seq op2_ix (ex_ix ix_seq op2_ix (ex_var 0) (ex_op opr_add op2_add (ex_var 4) ex_int) (fun _ _ => rfl)) ex_int (fun _ _ => rfl)) ax_nil)) rfl (hlen := aCons_len (aCons_len (fun _ _ h => aNil_len h)))) rfl) (ssx_cons (sx_appM (i := 3) (ex_fn takesD c_plus hr rfl (ax_cons (ex_fnX takesD c1_raised hr rfl (ax_cons (ex_var 5) ax_nil) rfl (hlen := aCons_len (fun _ _ h => aNil_len h))) (ax_cons (ex_fn takesD c_whole hr rfl (ax_cons ex_int ax_nil) rfl (hlen := aCons_len (fun _ _ h => aNil_len h))) ax_nil)) rfl (hlen := aCons_len (aCons_len (fun _ _ h => aNil_len h)))) rfl) (ssx_one (sx_if (tx_cmp op_gt op2_cmp (ex_ix ix_seq op2_ix (ex_ix ix_seq op2_ix (ex_var 0) (ex_var 4) (fun _ _ => rfl)) ex_int (fun _ _ => rfl)) ex_int (nomark _)) (ssx_one (sx_appM (i := 3) (ex_fn takesD c_whole hr rfl (ax_cons (ex_ix ix_seq op2_ix (ex_ix ix_seq op2_ix (ex_var 0) (ex_var 4) (fun _ _ => rfl)) ex_int (fun _ _ => rfl)) ax_nil) rfl (hlen := aCons_len (fun _ _ h => aNil_len h))) rfl)) ssx_nil)))))
    (NBX.ret (own := [3]) (i := 3) rfl rfl) rfl) rfl) rfl) rfl) rfl) rfl)
theorem b_l_cell_at {k : Nat} {S : Nat → List PyData → R PyData} {f : Addr} {cdv : Value} {A : Around} {outer : List Env} {s : Shared} {H : Hp} {E : XK} (hr : Room k (A.deeper (envOfC "_law_cell_at" (defScope s_l_cell_at) s.heap.objs.size f cdv))) (m_len : mg "len" = none) :
    BX (cxOf (L2.CX P w) P w K mg base N_l_cell_at "_law_cell_at" (defScope s_l_cell_at) f cdv A outer s H E) E [] (defBody s_l_cell_at) (g_l_cell_at S) :=
  (BX.cons (own := []) (own' := []) (sx_if (tx_cmp op_lt op2_cmp (ex_var 1) (ex_callB call_len calld_len rfl m_len (by decide +kernel) (ax_cons (ex_var 0) ax_nil)) (nomark _)) (ssx_one (sx_ret (ex_ix ix_seq op2_ix (ex_var 0) (ex_var 1) (fun _ _ => rfl)))) ssx_nil)
    (BX.of (own := []) (ssx_one (sx_ret ex_int))) rfl)
theorem b_l_mixed {k : Nat} {S : Nat → List PyData → R PyData} {f : Addr} {cdv : Value} {A : Around} {outer : List Env} {s : Shared} {H : Hp} {E : XK} (hr : Room k (A.deeper (envOfC "_law_mixed" (defScope s_l_mixed) s.heap.objs.size f cdv)))  :
    BX (cxOf (L2.CX P w) P w K mg base N_l_mixed "_law_mixed" (defScope s_l_mixed) f cdv A outer s H E) E [] (defBody s_l_mixed) (g_l_mixed S) :=
  (BX.cons (own := []) (own' := []) (sx_set (i := 2) sc_l_mixed.nd rfl (by first | exact Or.inl rfl | exact Or.inr rfl) (ex_op op_mod op2_mod (ex_op opr_add op2_add (ex_op op_mod op2_mod (ex_var 0) ex_int) (ex_op op_mulW op2_mul ex_int (ex_op opr_add op2_add (ex_var 1) ex_int))) ex_int) rfl)
    (BX.cons (own := []) (own' := []) (sx_set (i := 2) sc_l_mixed.nd rfl (by first | exact Or.inl rfl | exact Or.inr rfl) (ex_op op_mod op2_mod (ex_op opr_add op2_add (ex_op opr_add op2_add (ex_op op_mulW op2_mul (ex_var 2) (ex_var 2)) (ex_op op_mulW op2_mul ex_int (ex_var 1))) ex_int) ex_int) rfl)
    (BX.of (own := []) (ssx_one (sx_ret (ex_op op_mod op2_mod (ex_op op_mulW op2_mul (ex_var 2) (ex_var 2)) ex_int)))) rfl) rfl)
theorem b_l_order {k : Nat} {S : Nat → List PyData → R PyData} {f : Addr} {cdv : Value} {A : Around} {outer : List Env} {s : Shared} {H : Hp} {E : XK} (hr : Room k (A.deeper (envOfC "_law_order" (defScope s_l_order) s.heap.objs.size f cdv))) (c_l_order : Cal P w K mg base k "_law_order" 2 (S 9)) (m_int : mg "int" = none) (m_len : mg "len" = none) (m_zip : mg "zip" = none) :
    BX (cxOf (L2.CX P w) P w K mg base N_l_order "_law_order" (defScope s_l_order) f cdv A outer s H E) E [] (defBody s_l_order) (g_l_order S) :=
  (BX.cons (own := []) (own' := []) (sx_for passD rfl (ix_zip rfl m_zip (ax_cons (ex_var 0) (ax_cons (ex_var 1) ax_nil))) (gx_tup rfl (gsx_cons (gx_name (i := 2) sc_l_order.nd rfl (by first | exact Or.inl rfl | exact Or.inr rfl)) (gsx_cons (gx_name (i := 3) sc_l_order.nd rfl (by first | exact Or.inl rfl | exact Or.inr rfl)) gsx_nil))) (gtTup_in (gtCons_in (gtName_in 2) (gtCons_in (gtName_in 3) gtNil_in))) rfl (ssx_cons (sx_set (i := 4) sc_l_order.nd rfl (by first | exact Or.inl rfl | exact Or.inr rfl) (ex_fn takesD c_l_order hr rfl (ax_cons (ex_ix ix_seq op2_ix (ex_var 2) ex_int (fun _ _ => rfl)) (ax_cons (ex_ix ix_seq op2_ix (ex_var 3) ex_int (fun _ _ => rfl)) ax_nil)) rfl (hlen := aCons_len (aCons_len (fun _ _ h => aNil_len h)))) rfl) (ssx_cons (sx_if (tx_cmp (op_neD hr.units) op2_ne (ex_var 4) ex_int (nomark _)) (ssx_one (sx_ret (ex_var 4))) ssx_nil) (ssx_one (sx_if (tx_cmp (op_neD hr.units) op2_ne (ex_ix ix_seq op2_ix (ex_var 2) ex_int (fun _ _ => rfl)) (ex_ix ix_seq op2_ix (ex_var 3) ex_int (fun _ _ => rfl)) (nomark _)) (ssx_one (sx_ret (ex_op opr_sub op2_sub ex_int (ex_op op_mulW op2_mul ex_int (ex_callT call_int1 calld_int rfl m_int (by decide +kernel) (ax_cons (ex_cmp op_lt op2_cmp (ex_ix ix_seq op2_ix (ex_var 2) ex_int (fun _ _ => rfl)) (ex_ix ix_seq op2_ix (ex_var 3) ex_int (fun _ _ => rfl)) (nomark _)) ax_nil)))))) ssx_nil)))))
    (BX.of (own := []) (ssx_one (sx_ret (ex_op opr_sub op2_sub (ex_callT call_int1 calld_int rfl m_int (by decide +kernel) (ax_cons (ex_cmp op_gt op2_cmp (ex_callB call_len calld_len rfl m_len (by decide +kernel) (ax_cons (ex_var 0) ax_nil)) (ex_callB call_len calld_len rfl m_len (by decide +kernel) (ax_cons (ex_var 1) ax_nil)) (nomark _)) ax_nil)) (ex_callT call_int1 calld_int rfl m_int (by decide +kernel) (ax_cons (ex_cmp op_lt op2_cmp (ex_callB call_len calld_len rfl m_len (by decide +kernel) (ax_cons (ex_var 0) ax_nil)) (ex_callB call_len calld_len rfl m_len (by decide +kernel) (ax_cons (ex_var 1) ax_nil)) (nomark _)) ax_nil)))))) rfl)
theorem b_l_number {k : Nat} {S : Nat → List PyData → R PyData} {f : Addr} {cdv : Value} {A : Around} {outer : List Env} {s : Shared} {H : Hp} {E : XK} (hr : Room k (A.deeper (envOfC "_law_number" (defScope s_l_number) s.heap.objs.size f cdv))) (c_l_number : Cal P w K mg base k "_law_number" 1 (S 10)) (c_l_order : Cal P w K mg base k "_law_order" 2 (S 9)) (m_bool : mg "bool" = none) (m_int : mg "int" = none) (m_isinstance : mg "isinstance" = none) (m_len : mg "len" = none) (m_range : mg "range" = none) (m_tuple : mg "tuple" = none) :
    BX (cxOf (L2.CX P w) P w K mg base N_l_number "_law_number" (defScope s_l_number) f cdv A outer s H E) E [] (defBody s_l_number) (g_l_number S) :=
  (BX.cons (own := []) (own' := []) (sx_if (tx_not (tx_tru (ex_isi kit_tuple rfl m_isinstance rfl m_tuple (by decide +kernel) (ex_var 0)))) (ssx_one (sx_ret ex_bl)) ssx_nil)
    (BX.cons (own := []) (own' := []) (sx_for passD rfl (ix_seq (ex_var 0)) (gx_name (i := 1) sc_l_number.nd rfl (by first | exact Or.inl rfl | exact Or.inr rfl)) (gtName_in 1) rfl (ssx_cons (sx_if (WX'.tx (wx_or (tx_not (tx_tru (ex_isi kit_tuple rfl m_isinstance rfl m_tuple (by decide +kernel) (ex_var 1)))) (wx_or (tx_cmp (op_neD hr.units) op2_ne (ex_callB call_len calld_len rfl m_len (by decide +kernel) (ax_cons (ex_var 1) ax_nil)) ex_int (nomark _)) (wx_or1 (tx_not (tx_tru (ex_fn takesD c_l_number hr rfl (ax_cons (ex_ix ix_seq op2_ix (ex_var 1) ex_int (fun _ _ => rfl)) ax_nil) rfl (hlen := aCons_len (fun _ _ h => aNil_len h))))))))) (ssx_one (sx_ret ex_bl)) ssx_nil) (ssx_one (sx_if (WX'.tx (wx_or (tx_not (tx_tru (ex_isi kit_int rfl m_isinstance rfl m_int (by decide +kernel) (ex_ix ix_seq op2_ix (ex_var 1) ex_int (fun _ _ => rfl))))) (wx_or (tx_tru (ex_isi kit_bool rfl m_isinstance rfl m_bool (by decide +kernel) (ex_ix ix_seq op2_ix (ex_var 1) ex_int (fun _ _ => rfl)))) (wx_or1 (tx_cmp op_lt op2_cmp (ex_ix ix_seq op2_ix (ex_var 1) ex_int (fun _ _ => rfl)) ex_int (nomark _)))))) (ssx_one (sx_ret ex_bl)) ssx_nil))))
    (BX.cons (own := []) (own' := []) (sx_for passD rfl (ix_range2 rfl m_range (ax_cons ex_int (ax_cons (ex_callB call_len calld_len rfl m_len (by decide +kernel) (ax_cons (ex_var 0) ax_nil)) ax_nil)) (hl := aCons_len (aCons_len (fun _ _ h => aNil_len h)))) (gx_name (i := 2) sc_l_number.nd rfl (by first | exact Or.inl rfl | exact Or.inr rfl)) (gtName_in 2) rfl (ssx_one (sx_if (tx_cmp (op_neD hr.units) op2_ne (ex_fn takesD c_l_order hr rfl (ax_cons (ex_ix ix_seq op2_ix (ex_ix ix_seq op2_ix (ex_var 0) (ex_op opr_sub op2_sub (ex_var 2) ex_int) (fun _ _ => rfl)) ex_int (fun _ _ => rfl)) (ax_cons (ex_ix ix_seq op2_ix (ex_ix ix_seq op2_ix (ex_var 0) (ex_var 2) (fun _ _ => rfl)) ex_int (fun _ _ => rfl)) ax_nil)) rfl (hlen := aCons_len (aCons_len (fun _ _ h => aNil_len h)))) ex_int (nomark _)) (ssx_one (sx_ret ex_bl)) ssx_nil)))
    (BX.of (own := []) (ssx_one (sx_ret ex_bl))) rfl) rfl) rfl)
theorem b_l_put {k : Nat} {S : Nat → List PyData → R PyData} {f : Addr} {cdv : Value} {A : Around} {outer : List Env} {s : Shared} {H : Hp} {E : XK} (hr : Room k (A.deeper (envOfC "_law_put" (defScope s_l_put) s.heap.objs.size f cdv))) (c_l_order : Cal P w K mg base k "_law_order" 2 (S 9)) (m_len : mg "len" = none) :
    BX (cxOf (L2.CX P w) P w K mg base N_l_put "_law_put" (defScope s_l_put) f cdv A outer s H E) E [] (defBody s_l_put) (g_l_put S) :=
  (BX.cons (own := []) (own' := []) (sx_set (i := 2) sc_l_put.nd rfl (by first | exact Or.inl rfl | exact Or.inr rfl) ex_int rfl)
    (BX.cons (own := []) (own' := []) (sx_while wfuel passD (WX'.tx (wx_and (tx_cmp op_lt op2_cmp (ex_var 2) (ex_callB call_len calld_len rfl m_len (by decide +kernel) (ax_cons (ex_var 0) ax_nil)) (nomark _)) (wx_and1 (tx_cmp (op_eqD hr.units) op2_eq (ex_fn takesD c_l_order hr rfl (ax_cons (ex_ix ix_seq op2_ix (ex_ix ix_seq op2_ix (ex_var 0) (ex_var 2) (fun _ _ => rfl)) ex_int (fun _ _ => rfl)) (ax_cons (ex_ix ix_seq op2_ix (ex_var 1) ex_int (fun _ _ => rfl)) ax_nil)) rfl (hlen := aCons_len (aCons_len (fun _ _ h => aNil_len h)))) ex_int (nomark _))))) (ssx_one (sx_set (i := 2) sc_l_put.nd rfl (by first | exact Or.inl rfl | exact Or.inr rfl) (ex_op opr_add op2_add (ex_var 2) ex_int) rfl)))
    (BX.cons (own := []) (own' := []) (sx_if (WX'.tx (wx_and (tx_cmp op_lt op2_cmp (ex_var 2) (ex_callB call_len calld_len rfl m_len (by decide +kernel) (ax_cons (ex_var 0) ax_nil)) (nomark _)) (wx_and1 (tx_cmp (op_eqD hr.units) op2_eq (ex_ix ix_seq op2_ix (ex_ix ix_seq op2_ix (ex_var 0) (ex_var 2) (fun _ _ => rfl)) ex_int (fun _ _ => rfl)) (ex_ix ix_seq op2_ix (ex_var 1) ex_int (fun _ _ => rfl)) (nomark _))))) (ssx_one (sx_ret (ex_var 0))) ssx_nil)
    (BX.of (own := []) (ssx_one (sx_ret (ex_op opr_add op2_add (ex_op opr_add op2_add (ex_slice (ex_var 0) ox_none (ox_some (ex_var 2))) (ex_lst (ax_cons (ex_var 1) ax_nil))) (ex_slice (ex_var 0) (ox_some (ex_var 2)) ox_none))))) rfl) rfl) rfl)
theorem b_l_many {k : Nat} {S : Nat → List PyData → R PyData} {f : Addr} {cdv : Value} {A : Around} {outer : List Env} {s : Shared} {H : Hp} {E : XK} (hr : Room k (A.deeper (envOfC "_law_many" (defScope s_l_many) s.heap.objs.size f cdv)))  :
    BX (cxOf (L2.CX P w) P w K mg base N_l_many "_law_many" (defScope s_l_many) f cdv A outer s H E) E [] (defBody s_l_many) (g_l_many S) :=
  (BX.cons (own := []) (own' := []) (sx_set (i := 1) sc_l_many.nd rfl (by first | exact Or.inl rfl | exact Or.inr rfl) (ex_op op_mod op2_mod (ex_var 0) ex_int) rfl)
    (BX.cons (own := []) (own' := []) (sx_set (i := 0) sc_l_many.nd rfl (by first | exact Or.inl rfl | exact Or.inr rfl) (ex_op op_fdivW op2_div (ex_var 0) ex_int) rfl)
    (BX.cons (own := []) (own' := []) (sx_if (tx_cmp (op_eqD hr.units) op2_eq (ex_var 1) ex_int (nomark _)) (ssx_one (sx_ret (ex_op opr_add op2_add ex_int (ex_op op_mod op2_mod (ex_var 0) ex_int)))) ssx_nil)
    (BX.cons (own := []) (own' := []) (sx_if (tx_cmp (op_eqD hr.units) op2_eq (ex_var 1) ex_int (nomark _)) (ssx_one (sx_ret (ex_op opr_add op2_add ex_int (ex_op op_mod op2_mod (ex_op op_mulW op2_mul (ex_var 0) (ex_var 0)) (ex_op op_pow op2_pow ex_int ex_int))))) ssx_nil)
    (BX.of (own := []) (ssx_one (sx_ret (ex_op opr_add op2_add ex_int (ex_op op_mod op2_mod (ex_var 0) ex_int))))) rfl) rfl) rfl) rfl)
theorem b_l_drawn {k : Nat} {S : Nat → List PyData → R PyData} {f : Addr} {cdv : Value} {A : Around} {outer : List Env} {s : Shared} {H : Hp} {E : XK} (hr : Room k (A.deeper (envOfC "_law_drawn" (defScope s_l_drawn) s.heap.objs.size f cdv))) (c_l_drawn : Cal P w K mg base k "_law_drawn" 2 (S 13)) (c_l_many : Cal P w K mg base k "_law_many" 1 (S 12)) (c_l_mixed : Cal P w K mg base k "_law_mixed" 2 (S 8)) (c_l_put : Cal P w K mg base k "_law_put" 2 (S 11)) (m_range : mg "range" = none) (m_tuple : mg "tuple" = none) :
    BX (cxOf (L2.CX P w) P w K mg base N_l_drawn "_law_drawn" (defScope s_l_drawn) f cdv A outer s H E) E [] (defBody s_l_drawn) (g_l_drawn S) :=
  (BX.cons (own := []) (own' := []) (sx_set (i := 2) sc_l_drawn.nd rfl (by first | exact Or.inl rfl | exact Or.inr rfl) (ex_lst ax_nil) rfl)
    (BX.cons (own := []) (own' := []) (sx_for passD rfl (ix_range1 rfl m_range (ax_cons (ex_ix ix_seq op2_ix (ex_lst (ax_cons ex_int (ax_cons ex_int (ax_cons ex_int (ax_cons ex_int (ax_cons ex_int (ax_cons ex_int ax_nil))))))) (ex_op op_mod op2_mod (ex_op op_fdivW op2_div (ex_fn takesD c_l_mixed hr rfl (ax_cons (ex_var 0) (ax_cons ex_int ax_nil)) rfl (hlen := aCons_len (aCons_len (fun _ _ h => aNil_len h)))) ex_int) ex_int) (fun _ _ => rfl)) ax_nil) (hl := aCons_len (fun _ _ h => aNil_len h))) (gx_name (i := 3) sc_l_drawn.nd rfl (by first | exact Or.inl rfl | exact Or.inr rfl)) (gtName_in 3) rfl (ssx_cons (sx_set (i := 4) sc_l_drawn.nd rfl (by first | exact Or.inl rfl | exact Or.inr rfl) (ex_fn takesD c_l_mixed hr rfl (ax_cons (ex_var 0) (ax_cons (ex_op opr_add op2_add (ex_var 3) ex_int) ax_nil)) rfl (hlen := aCons_len (aCons_len (fun _ _ h => aNil_len h)))) rfl) (ssx_cons (sx_set (i := 5) sc_l_drawn.nd rfl (by first | exact Or.inl rfl | exact Or.inr rfl) (ex_tup ax_nil) rfl) (ssx_cons (sx_if (tx_cmp op_gt op2_cmp (ex_var 1) ex_int (nomark _)) (ssx_one (sx_set (i := 5) sc_l_drawn.nd rfl (by first | exact Or.inl rfl | exact Or.inr rfl) (ex_fn takesD c_l_drawn hr rfl (ax_cons (ex_op op_fdivW op2_div (ex_var 4) ex_int) (ax_cons (ex_op opr_sub op2_sub (ex_var 1) ex_int) ax_nil)) rfl (hlen := aCons_len (aCons_len (fun _ _ h => aNil_len h)))) rfl)) ssx_nil) (ssx_one (sx_set (i := 2) sc_l_drawn.nd rfl (by first | exact Or.inl rfl | exact Or.inr rfl) (ex_fn takesD c_l_put hr rfl (ax_cons (ex_var 2) (ax_cons (ex_tup (ax_cons (ex_var 5) (ax_cons (ex_fn takesD c_l_many hr rfl (ax_cons (ex_op op_fdivW op2_div (ex_var 4) ex_int) ax_nil) rfl (hlen := aCons_len (fun _ _ h => aNil_len h))) ax_nil))) ax_nil)) rfl (hlen := aCons_len (aCons_len (fun _ _ h => aNil_len h)))) rfl))))))
    (BX.of (own := []) (ssx_one (sx_ret (ex_callT call_tuple_of calld_tuple rfl m_tuple (by decide +kernel) (ax_cons (ex_var 2) ax_nil))))) rfl) rfl)
theorem b_l_great {k : Nat} {S : Nat → List PyData → R PyData} {f : Addr} {cdv : Value} {A : Around} {outer : List Env} {s : Shared} {H : Hp} {E : XK} (hr : Room k (A.deeper (envOfC "_law_great" (defScope s_l_great) s.heap.objs.size f cdv))) (c_l_mixed : Cal P w K mg base k "_law_mixed" 2 (S 8)) :
    BX (cxOf (L2.CX P w) P w K mg base N_l_great "_law_great" (defScope s_l_great) f cdv A outer s H E) E [] (defBody s_l_great) (g_l_great S) :=
  (BX.cons (own := []) (own' := []) (sx_set (i := 1) sc_l_great.nd rfl (by first | exact Or.inl rfl | exact Or.inr rfl) (ex_op op_mod op2_mod (ex_op op_fdivW op2_div (ex_var 0) ex_int) (ex_op op_pow op2_pow ex_int ex_int)) rfl)
    (BX.cons (own := []) (own' := []) (sx_if (tx_cmp (op_eqD hr.units) op2_eq (ex_op op_mod op2_mod (ex_fn takesD c_l_mixed hr rfl (ax_cons (ex_var 0) (ax_cons ex_int ax_nil)) rfl (hlen := aCons_len (aCons_len (fun _ _ h => aNil_len h)))) ex_int) ex_int (nomark _)) (ssx_one (sx_ret (ex_op opr_add op2_add ex_int (ex_op op_mod op2_mod (ex_var 1) ex_int)))) ssx_nil)
    (BX.of (own := []) (ssx_one (sx_ret (ex_op opr_add op2_add ex_int (ex_op op_mod op2_mod (ex_op op_mulW op2_mul (ex_op opr_add op2_add (ex_var 1) ex_int) (ex_op opr_add op2_add (ex_op opr_add op2_add (ex_op op_pow op2_pow ex_int ex_int) (ex_op op_mulW op2_mul ex_int (ex_var 1))) ex_int)) (ex_op op_pow op2_pow ex_int ex_int)))))) rfl) rfl)
theorem b_l_number_by {k : Nat} {S : Nat → List PyData → R PyData} {f : Addr} {cdv : Value} {A : Around} {outer : List Env} {s : Shared} {H : Hp} {E : XK} (hr : Room k (A.deeper (envOfC "_law_number_by" (defScope s_l_number_by) s.heap.objs.size f cdv))) (c_l_drawn : Cal P w K mg base k "_law_drawn" 2 (S 13)) (c_l_great : Cal P w K mg base k "_law_great" 1 (S 14)) (c_l_mixed : Cal P w K mg base k "_law_mixed" 2 (S 8)) (m_tuple : mg "tuple" = none) :
    BX (cxOf (L2.CX P w) P w K mg base N_l_number_by "_law_number_by" (defScope s_l_number_by) f cdv A outer s H E) E [] (defBody s_l_number_by) (g_l_number_by S) :=
  (BX.cons (own := []) (own' := []) (sx_set (i := 2) sc_l_number_by.nd rfl (by first | exact Or.inl rfl | exact Or.inr rfl) (ex_fn takesD c_l_drawn hr rfl (ax_cons (ex_var 0) (ax_cons (ex_op op_mod op2_mod (ex_fn takesD c_l_mixed hr rfl (ax_cons (ex_var 1) (ax_cons ex_int ax_nil)) rfl (hlen := aCons_len (aCons_len (fun _ _ h => aNil_len h)))) ex_int) ax_nil)) rfl (hlen := aCons_len (aCons_len (fun _ _ h => aNil_len h)))) rfl)
    (BX.cons (own := []) (own' := []) (sx_set (i := 3) sc_l_number_by.nd rfl (by first | exact Or.inl rfl | exact Or.inr rfl) (ex_fn takesD c_l_great hr rfl (ax_cons (ex_var 1) ax_nil) rfl (hlen := aCons_len (fun _ _ h => aNil_len h))) rfl)
    (BX.cons (own := []) (own' := []) (sx_if (tx_cmp (op_eqD hr.units) op2_eq (ex_op op_mod op2_mod (ex_var 1) ex_int) ex_int (nomark _)) (ssx_one (sx_set (i := 2) sc_l_number_by.nd rfl (by first | exact Or.inl rfl | exact Or.inr rfl) (ex_op opr_add op2_add (ex_callT call_tuple_of calld_tuple rfl m_tuple (by decide +kernel) (ax_cons (by exact ex_lc (own := [("_law_part", 4)]) rfl sc_l_number_by.nd (ix_seq (ex_var 2)) (blkOk_by (N := N_l_number_by) (sc := defScope s_l_number_by) (own := [("_law_part", 4)]) (by decide +kernel)) (by exact fun _ _ _ _ _ => (gx_name (i := 4) sc_l_number_by.nd rfl (by first | exact Or.inl rfl | exact Or.inr rfl))) (by exact fun _ _ _ _ _ => (tsx_one (tx_cmp (op_neD hr.units) op2_ne (ex_ix ix_seq op2_ix (ex_var 4) ex_int (fun _ _ => rfl)) (ex_tup ax_nil) (nomark _)))) (by exact fun _ _ _ _ _ => (ex_var 4)) (by decide)) ax_nil)) (ex_tup (ax_cons (ex_tup (ax_cons (ex_tup ax_nil) (ax_cons (ex_var 3) ax_nil))) ax_nil))) rfl)) ssx_nil)
    (BX.cons (own := []) (own' := []) (sx_if (WX'.tx (wx_and (tx_cmp (op_eqD hr.units) op2_eq (ex_op op_mod op2_mod (ex_var 1) ex_int) ex_int (nomark _)) (wx_and1 (tx_cmp (op_neD hr.units) op2_ne (ex_var 2) (ex_tup ax_nil) (nomark _))))) (ssx_one (sx_set (i := 2) sc_l_number_by.nd rfl (by first | exact Or.inl rfl | exact Or.inr rfl) (ex_op opr_add op2_add (ex_tup (ax_cons (ex_tup (ax_cons (ex_ix ix_seq op2_ix (ex_ix ix_seq op2_ix (ex_var 2) ex_int (fun _ _ => rfl)) ex_int (fun _ _ => rfl)) (ax_cons (ex_var 3) ax_nil))) ax_nil)) (ex_slice (ex_var 2) (ox_some ex_int) ox_none)) rfl)) ssx_nil)
    (BX.cons (own := []) (own' := []) (sx_if (tx_cmp (op_eqD hr.units) op2_eq (ex_op op_mod op2_mod (ex_var 1) ex_int) ex_int (nomark _)) (ssx_one (sx_set (i := 2) sc_l_number_by.nd rfl (by first | exact Or.inl rfl | exact Or.inr rfl) (ex_tup (ax_cons (ex_tup (ax_cons (ex_var 2) (ax_cons (ex_op opr_add op2_add ex_int (ex_op op_mod op2_mod (ex_var 3) ex_int)) ax_nil))) ax_nil)) rfl)) ssx_nil)
    (BX.cons (own := []) (own' := []) (sx_if (tx_cmp (op_eqD hr.units) op2_eq (ex_op op_mod op2_mod (ex_var 1) ex_int) ex_int (nomark _)) (ssx_one (sx_set (i := 2) sc_l_number_by.nd rfl (by first | exact Or.inl rfl | exact Or.inr rfl) (ex_callT call_tuple_of calld_tuple rfl m_tuple (by decide +kernel) (ax_cons (by exact ex_lc (own := [("_law_part", 4)]) rfl sc_l_number_by.nd (ix_seq (ex_var 2)) (blkOk_by (N := N_l_number_by) (sc := defScope s_l_number_by) (own := [("_law_part", 4)]) (by decide +kernel)) (by exact fun _ _ _ _ _ => (gx_name (i := 4) sc_l_number_by.nd rfl (by first | exact Or.inl rfl | exact Or.inr rfl))) (by exact fun _ _ _ _ _ => (tsx_one (tx_cmp (op_neD hr.units) op2_ne (ex_ix ix_seq op2_ix (ex_var 4) ex_int (fun _ _ => rfl)) (ex_tup ax_nil) (nomark _)))) (by exact fun _ _ _ _ _ => (ex_var 4)) (by decide)) ax_nil)) rfl)) ssx_nil)
    (BX.of (own := []) (ssx_one (sx_ret (ex_var 2)))) rfl) rfl) rfl) rfl) rfl) rfl)
theorem b_l_plus {k : Nat} {S : Nat → List PyData → R PyData} {f : Addr} {cdv : Value} {A : Around} {outer : List Env} {s : Shared} {H : Hp} {E : XK} (hr : Room k (A.deeper (envOfC "_law_plus" (defScope s_l_plus) s.heap.objs.size f cdv))) (c_l_order : Cal P w K mg base k "_law_order" 2 (S 9)) (m_sum : mg "sum" = none) (m_tuple : mg "tuple" = none) :
    BX (cxOf (L2.CX P w) P w K mg base N_l_plus "_law_plus" (defScope s_l_plus) f cdv A outer s H E) E [] (defBody s_l_plus) (g_l_plus S) :=
  (BX.cons (own := []) (own' := []) (sx_if (tx_cmp (op_eqD hr.units) op2_eq (ex_var 1) (ex_tup ax_nil) (nomark _)) (ssx_one (sx_ret (ex_var 0))) ssx_nil)
    (BX.cons (own := []) (own' := []) (by exact sx_setLc' (i := 2) (ownc := [("_law_part", 4)]) rfl sc_l_plus.nd rfl rfl (by exact sw_true rfl rfl rfl (by decide +kernel)) (ix_seq (ex_var 0)) (blkOk_by (N := N_l_plus) (sc := defScope s_l_plus) (own := [("_law_part", 4)]) (by decide +kernel)) (by exact fun _ _ _ _ _ => (gx_name (i := 4) sc_l_plus.nd rfl (by first | exact Or.inl rfl | exact Or.inr rfl))) (by exact fun _ _ _ _ _ => (tsx_one (tx_cmp (op_eqD hr.units) op2_eq (ex_fn takes0 c_l_order hr rfl (ax_cons (ex_ix ix_seq op2_ix (ex_var 4) ex_int (fun _ _ => rfl)) (ax_cons (ex_ix ix_seq op2_ix (ex_ix ix_seq op2_ix (ex_var 1) ex_int (fun _ _ => rfl)) ex_int (fun _ _ => rfl)) ax_nil)) rfl (hlen := aCons_len (aCons_len (fun _ _ h => aNil_len h)))) ex_int (nomark _)))) (by exact fun _ _ _ _ _ => (ex_var 4)) (by decide) rfl)
    (BX.cons (own := []) (own' := []) (sx_set (i := 3) sc_l_plus.nd rfl (by first | exact Or.inl rfl | exact Or.inr rfl) (ex_callB (cr_sum rfl) calld_sum rfl m_sum (by decide +kernel) (ax_cons (by exact ex_lc (own := [("_law_part", 4)]) rfl sc_l_plus.nd (ix_seq (ex_var 0)) (blkOk_by (N := N_l_plus) (sc := defScope s_l_plus) (own := [("_law_part", 4)]) (by decide +kernel)) (by exact fun _ _ _ _ _ => (gx_name (i := 4) sc_l_plus.nd rfl (by first | exact Or.inl rfl | exact Or.inr rfl))) (by exact fun _ _ _ _ _ => (tsx_one (tx_cmp (op_eqD hr.units) op2_eq (ex_ix ix_seq op2_ix (ex_var 4) ex_int (fun _ _ => rfl)) (ex_ix ix_seq op2_ix (ex_ix ix_seq op2_ix (ex_var 1) ex_int (fun _ _ => rfl)) ex_int (fun _ _ => rfl)) (nomark _)))) (by exact fun _ _ _ _ _ => (ex_ix ix_seq op2_ix (ex_var 4) ex_int (fun _ _ => rfl))) (by decide)) ax_nil)) rfl)
    (BX.of (own := []) (ssx_one (sx_ret (ex_op opr_add op2_add (ex_op opr_add op2_add (ex_callT call_tuple_of calld_tuple rfl m_tuple (by decide +kernel) (ax_cons (ex_var 2) ax_nil)) (ex_tup (ax_cons (ex_tup (ax_cons (ex_ix ix_seq op2_ix (ex_ix ix_seq op2_ix (ex_var 1) ex_int (fun _ _ => rfl)) ex_int (fun _ _ => rfl)) (ax_cons (ex_op opr_add op2_add (ex_ix ix_seq op2_ix (ex_ix ix_seq op2_ix (ex_var 1) ex_int (fun _ _ => rfl)) ex_int (fun _ _ => rfl)) (ex_var 3)) ax_nil))) ax_nil))) (ex_slice (ex_var 1) (ox_some ex_int) ox_none))))) rfl) rfl) rfl)
theorem b_l_product {k : Nat} {S : Nat → List PyData → R PyData} {f : Addr} {cdv : Value} {A : Around} {outer : List Env} {s : Shared} {H : Hp} {E : XK} (hr : Room k (A.deeper (envOfC "_law_product" (defScope s_l_product) s.heap.objs.size f cdv))) (c_l_plus : Cal P w K mg base k "_law_plus" 2 (S 16)) :
    BX (cxOf (L2.CX P w) P w K mg base N_l_product "_law_product" (defScope s_l_product) f cdv A outer s H E) E [] (defBody s_l_product) (g_l_product S) :=
  (BX.cons (own := []) (own' := []) (sx_set (i := 2) sc_l_product.nd rfl (by first | exact Or.inl rfl | exact Or.inr rfl) (ex_tup ax_nil) rfl)
    (BX.cons (own := []) (own' := []) (sx_if (tx_cmp (op_eqD hr.units) op2_eq (ex_var 0) (ex_tup ax_nil) (nomark _)) (ssx_one (sx_ret (ex_var 2))) ssx_nil)
    (BX.cons (own := []) (own' := []) (sx_for passD rfl (ix_seq (ex_var 1)) (gx_tup rfl (gsx_cons (gx_name (i := 3) sc_l_product.nd rfl (by first | exact Or.inl rfl | exact Or.inr rfl)) (gsx_cons (gx_name (i := 4) sc_l_product.nd rfl (by first | exact Or.inl rfl | exact Or.inr rfl)) gsx_nil))) (gtTup_in (gtCons_in (gtName_in 3) (gtCons_in (gtName_in 4) gtNil_in))) rfl (ssx_one (sx_if (tx_cmp (op_eqD hr.units) op2_eq (ex_var 3) (ex_tup ax_nil) (nomark _)) (ssx_one (sx_set (i := 2) sc_l_product.nd rfl (by first | exact Or.inl rfl | exact Or.inr rfl) (ex_op opr_add op2_add (ex_op opr_add op2_add (ex_var 2) (ex_tup (ax_cons (ex_tup (ax_cons (ex_ix ix_seq op2_ix (ex_ix ix_seq op2_ix (ex_var 0) ex_int (fun _ _ => rfl)) ex_int (fun _ _ => rfl)) (ax_cons (ex_op op_mulW op2_mul (ex_ix ix_seq op2_ix (ex_ix ix_seq op2_ix (ex_var 0) ex_int (fun _ _ => rfl)) ex_int (fun _ _ => rfl)) (ex_var 4)) ax_nil))) ax_nil))) (ex_slice (ex_var 0) (ox_some ex_int) ox_none)) rfl)) (ssx_one (sx_set (i := 2) sc_l_product.nd rfl (by first | exact Or.inl rfl | exact Or.inr rfl) (ex_op opr_add op2_add (ex_var 2) (ex_tup (ax_cons (ex_tup (ax_cons (ex_fn takesD c_l_plus hr rfl (ax_cons (ex_ix ix_seq op2_ix (ex_ix ix_seq op2_ix (ex_var 0) ex_int (fun _ _ => rfl)) ex_int (fun _ _ => rfl)) (ax_cons (ex_var 3) ax_nil)) rfl (hlen := aCons_len (aCons_len (fun _ _ h => aNil_len h)))) (ax_cons (ex_var 4) ax_nil))) ax_nil))) rfl)))))
    (BX.of (own := []) (ssx_one (sx_ret (ex_var 2)))) rfl) rfl) rfl)
theorem b_l_refused {k : Nat} {S : Nat → List PyData → R PyData} {f : Addr} {cdv : Value} {A : Around} {outer : List Env} {s : Shared} {H : Hp} {E : XK} (hr : Room k (A.deeper (envOfC "_law_refused" (defScope s_l_refused) s.heap.objs.size f cdv))) (cn_factors : CalN P w K mg base k "factors" 1 (S 6)) (m_ValueError : mg "ValueError" = none) (m_int : mg "int" = none) (m_isinstance : mg "isinstance" = none) (yl_HydraError_NoNumber_Nought_TooHigh : TryL K mg "HydraError" [("NoNumber", true), ("Nought", true), ("TooHigh", true)]) (yl_Nought_NoNumber_Nought_TooHigh : TryL K mg "Nought" [("NoNumber", false), ("Nought", true), ("TooHigh", false)]) (kl_ValueError_NoNumber_Nought_TooHigh : KitB K mg [("NoNumber", true), ("Nought", true), ("TooHigh", true)]) :
    BX (cxOf (L2.CX P w) P w K mg base N_l_refused "_law_refused" (defScope s_l_refused) f cdv A outer s H E) E [] (defBody s_l_refused) (g_l_refused S) :=
  (BX.cons (own := []) (own' := []) (sx_set (i := 0) sc_l_refused.nd rfl (by first | exact Or.inl rfl | exact Or.inr rfl) ex_int rfl)
    (BX.cons (own := []) (own' := []) (sx_tryL (iv := 0) yl_Nought_NoNumber_Nought_TooHigh rfl (by decide) sc_l_refused.nd rfl (by first | exact Or.inl rfl | exact Or.inr rfl) rfl rfl rfl takesD (fun _ _ => pe_int) (fun _ => .int _) (fun W' pn xe tk' px => (ssx_one (sx_expr (ex_fn tk' cn_factors.cal hr rfl (ax_cons (ex_tup ax_nil) ax_nil) rfl (hlen := aCons_len (fun _ _ h => aNil_len h)))))))
    (BX.cons (own := []) (own' := []) (sx_tryE (ie := 1) (iv := 0) yl_HydraError_NoNumber_Nought_TooHigh rfl (by decide) sc_l_refused.nd rfl rfl rfl (by first | exact Or.inl rfl | exact Or.inr rfl) rfl rfl rfl rfl takesD (fun c => (exh_op (fun _ _ => opr_add) op2_add (exh_ex (fun a pn => (ex_var 0))) (exh_int rfl m_int (axh_cons (exh_isB kl_ValueError_NoNumber_Nought_TooHigh rfl rfl m_isinstance rfl m_ValueError) axh_nil)))) (fun W' pn xe tk' px => (ssx_one (sx_expr (ex_fn tk' cn_factors.cal hr rfl (ax_cons (ex_tup ax_nil) ax_nil) rfl (hlen := aCons_len (fun _ _ h => aNil_len h)))))))
    (BX.of (own := []) (ssx_one (sx_ret (ex_cmp (op_eqD hr.units) op2_eq (ex_var 0) ex_int (nomark _))))) rfl) rfl) rfl)
theorem b_l_walked {k : Nat} {S : Nat → List PyData → R PyData} {f : Addr} {cdv : Value} {A : Around} {outer : List Env} {s : Shared} {H : Hp} {E : XK} (hr : Room k (A.deeper (envOfC "_law_walked" (defScope s_l_walked) s.heap.objs.size f cdv))) (c_l_plus : Cal P w K mg base k "_law_plus" 2 (S 16)) (m_len : mg "len" = none) (m_range : mg "range" = none) :
    BX (cxOf (L2.CX P w) P w K mg base N_l_walked "_law_walked" (defScope s_l_walked) f cdv A outer s H E) E [] (defBody s_l_walked) (g_l_walked S) :=
  (BX.cons (own := []) (own' := []) (sx_set (i := 2) sc_l_walked.nd rfl (by first | exact Or.inl rfl | exact Or.inr rfl) ex_int rfl)
    (BX.cons (own := []) (own' := []) (sx_set (i := 3) sc_l_walked.nd rfl (by first | exact Or.inl rfl | exact Or.inr rfl) (ex_tup ax_nil) rfl)
    (BX.cons (own := []) (own' := []) (sx_for passD rfl (ix_range3 rfl m_range (ax_cons (ex_op opr_sub op2_sub (ex_callB call_len calld_len rfl m_len (by decide +kernel) (ax_cons (ex_var 0) ax_nil)) ex_int) (ax_cons (ex_neg ex_int) (ax_cons (ex_neg ex_int) ax_nil))) (hl := aCons_len (aCons_len (aCons_len (fun _ _ h => aNil_len h))))) (gx_name (i := 4) sc_l_walked.nd rfl (by first | exact Or.inl rfl | exact Or.inr rfl)) (gtName_in 4) rfl (ssx_cons (sx_asg (ex_ix ix_seq op2_ix (ex_var 0) (ex_var 4) (fun _ _ => rfl)) (gx_tup rfl (gsx_cons (gx_name (i := 5) sc_l_walked.nd rfl (by first | exact Or.inl rfl | exact Or.inr rfl)) (gsx_cons (gx_name (i := 6) sc_l_walked.nd rfl (by first | exact Or.inl rfl | exact Or.inr rfl)) gsx_nil))) (gtTup_in (gtCons_in (gtName_in 5) (gtCons_in (gtName_in 6) gtNil_in))) rfl) (ssx_cons (sx_if (tx_cmp (op_neD hr.units) op2_ne (ex_var 5) (ex_tup ax_nil) (nomark _)) (ssx_cons (sx_if (WX'.tx (wx_or (tx_cmp (op_eqD hr.units) op2_eq (ex_var 2) (ex_callB call_len calld_len rfl m_len (by decide +kernel) (ax_cons (ex_var 1) ax_nil)) (nomark _)) (wx_or (tx_cmp (op_eqD hr.units) op2_eq (ex_ix ix_seq op2_ix (ex_var 1) (ex_var 2) (fun _ _ => rfl)) (ex_tup ax_nil) (nomark _)) (wx_or1 (tx_cmp (op_neD hr.units) op2_ne (ex_ix ix_seq op2_ix (ex_ix ix_seq op2_ix (ex_ix ix_seq op2_ix (ex_var 1) (ex_var 2) (fun _ _ => rfl)) ex_int (fun _ _ => rfl)) ex_int (fun _ _ => rfl)) ex_int (nomark _)))))) (ssx_one (sx_ret ex_bl)) ssx_nil) (ssx_cons (sx_if (WX'.tx (wx_or (tx_cmp (op_neD hr.units) op2_ne (ex_slice (ex_ix ix_seq op2_ix (ex_var 1) (ex_var 2) (fun _ _ => rfl)) (ox_some ex_int) ox_none) (ex_slice (ex_tup (ax_cons (ex_tup (ax_cons (ex_tup ax_nil) (ax_cons ex_int ax_nil))) ax_nil)) ox_none (ox_some (ex_op opr_sub op2_sub (ex_op opr_sub op2_sub (ex_callB call_len calld_len rfl m_len (by decide +kernel) (ax_cons (ex_var 0) ax_nil)) ex_int) (ex_var 4)))) (nomark _)) (wx_or1 (tx_cmp (op_neD hr.units) op2_ne (ex_fn takesD c_l_plus hr rfl (ax_cons (ex_var 3) (ax_cons (ex_ix ix_seq op2_ix (ex_ix ix_seq op2_ix (ex_ix ix_seq op2_ix (ex_var 1) (ex_var 2) (fun _ _ => rfl)) ex_int (fun _ _ => rfl)) ex_int (fun _ _ => rfl)) ax_nil)) rfl (hlen := aCons_len (aCons_len (fun _ _ h => aNil_len h)))) (ex_var 5) (nomark _))))) (ssx_one (sx_ret ex_bl)) ssx_nil) (ssx_one (sx_set (i := 2) sc_l_walked.nd rfl (by first | exact Or.inl rfl | exact Or.inr rfl) (ex_op opr_add op2_add (ex_var 2) ex_int) rfl)))) ssx_nil) (ssx_cons (sx_if (tx_cmp op_gt op2_cmp (ex_var 6) ex_int (nomark _)) (ssx_cons (sx_if (WX'.tx (wx_or (tx_cmp (op_eqD hr.units) op2_eq (ex_var 2) (ex_callB call_len calld_len rfl m_len (by decide +kernel) (ax_cons (ex_var 1) ax_nil)) (nomark _)) (wx_or1 (tx_cmp (op_neD hr.units) op2_ne (ex_ix ix_seq op2_ix (ex_var 1) (ex_var 2) (fun _ _ => rfl)) (ex_tup (ax_cons (ex_tup (ax_cons (ex_tup ax_nil) (ax_cons (ex_var 6) ax_nil))) ax_nil)) (nomark _))))) (ssx_one (sx_ret ex_bl)) ssx_nil) (ssx_one (sx_set (i := 2) sc_l_walked.nd rfl (by first | exact Or.inl rfl | exact Or.inr rfl) (ex_op opr_add op2_add (ex_var 2) ex_int) rfl))) ssx_nil) (ssx_one (sx_set (i := 3) sc_l_walked.nd rfl (by first | exact Or.inl rfl | exact Or.inr rfl) (ex_var 5) rfl))))))
    (BX.of (own := []) (ssx_one (sx_ret (ex_cmp (op_eqD hr.units) op2_eq (ex_var 2) (ex_callB call_len calld_len rfl m_len (by decide +kernel) (ax_cons (ex_var 1) ax_nil)) (nomark _))))) rfl) rfl) rfl)
theorem b_law {k : Nat} {S : Nat → List PyData → R PyData} {f : Addr} {cdv : Value} {A : Around} {outer : List Env} {s : Shared} {H : Hp} {E : XK} (hr : Room k (A.deeper (envOfC "law" (defScope s_law) s.heap.objs.size f cdv))) (c_l_cell_at : Cal P w K mg base k "_law_cell_at" 2 (S 7)) (c_l_number : Cal P w K mg base k "_law_number" 1 (S 10)) (c_l_number_by : Cal P w K mg base k "_law_number_by" 2 (S 15)) (c_l_product : Cal P w K mg base k "_law_product" 2 (S 17)) (c_l_refused : Cal P w K mg base k "_law_refused" 0 (S 18)) (c_l_walked : Cal P w K mg base k "_law_walked" 2 (S 19)) (cn_factors : CalN P w K mg base k "factors" 1 (S 6)) (m_isinstance : mg "isinstance" = none) (m_len : mg "len" = none) (m_list : mg "list" = none) (m_max : mg "max" = none) (m_min : mg "min" = none) (m_range : mg "range" = none) :
    BX (cxOf (L2.CX P w) P w K mg base N_law "law" (defScope s_law) f cdv A outer s H E) E [3] (defBody s_law) (g_law S) :=
  (BX.cons (own := [3]) (own' := []) (sx_for passD rfl (ix_range3 rfl m_range (ax_cons ex_int (ax_cons (ex_callB (call_max2 rfl) calld_max2 rfl m_max (by decide +kernel) (ax_cons ex_int (ax_cons (ex_callB (call_min2 rfl) calld_min2 rfl m_min (by decide +kernel) (ax_cons ex_int (ax_cons (ex_callB call_len calld_len rfl m_len (by decide +kernel) (ax_cons (ex_var 0) ax_nil)) ax_nil))) ax_nil))) (ax_cons ex_int ax_nil))) (hl := aCons_len (aCons_len (aCons_len (fun _ _ h => aNil_len h))))) (gx_name (i := 1) sc_law.nd rfl (by first | exact Or.inl rfl | exact Or.inr rfl)) (gtName_in 1) rfl (ssx_cons (sx_setM (i := 2) sc_law.nd rfl (by first | exact Or.inl rfl | exact Or.inr rfl) (ex_fn takesD c_l_number_by hr rfl (ax_cons (ex_fn takesD c_l_cell_at hr rfl (ax_cons (ex_var 0) (ax_cons (ex_var 1) ax_nil)) rfl (hlen := aCons_len (aCons_len (fun _ _ h => aNil_len h)))) (ax_cons (ex_fn takesD c_l_cell_at hr rfl (ax_cons (ex_var 0) (ax_cons (ex_op opr_add op2_add (ex_var 1) ex_int) ax_nil)) rfl (hlen := aCons_len (aCons_len (fun _ _ h => aNil_len h)))) ax_nil)) rfl (hlen := aCons_len (aCons_len (fun _ _ h => aNil_len h)))) rfl) (ssx_cons (sx_if (tx_cmp (op_eqD hr.units) op2_eq (ex_var 2) (ex_tup ax_nil) (nomark _)) (ssx_one (sx_setM (i := 2) sc_law.nd rfl (by first | exact Or.inl rfl | exact Or.inr rfl) (ex_tup (ax_cons (ex_tup (ax_cons (ex_tup ax_nil) (ax_cons (ex_op opr_add op2_add ex_int (ex_op op_mod op2_mod (ex_fn takesD c_l_cell_at hr rfl (ax_cons (ex_var 0) (ax_cons (ex_var 1) ax_nil)) rfl (hlen := aCons_len (aCons_len (fun _ _ h => aNil_len h)))) ex_int)) ax_nil))) ax_nil)) rfl)) ssx_nil) (ssx_cons (sx_new (i := 3) sc_law.nd rfl (by first | exact Or.inl rfl | exact Or.inr rfl) (nx_fn takesD cn_factors hr rfl (ax_cons (ex_var 2) ax_nil) rfl (hlen := aCons_len (fun _ _ h => aNil_len h))) rfl) (ssx_cons (sx_if (tx_not (tx_tru (ex_isi kit_list rfl m_isinstance rfl m_list (by decide +kernel) (ex_var 3)))) (ssx_one (sx_ret ex_bl)) ssx_nil) (ssx_cons (sx_setM (i := 4) sc_law.nd rfl (by first | exact Or.inl rfl | exact Or.inr rfl) (ex_tup (ax_cons (ex_tup (ax_cons (ex_tup ax_nil) (ax_cons ex_int ax_nil))) ax_nil)) rfl) (ssx_cons (sx_forO (io := 3) passD rfl rfl rfl (gx_name (i := 5) sc_law.nd rfl (by first | exact Or.inl rfl | exact Or.inr rfl)) (gtName_in 5) rfl (fsx_cons (fx_if (tx_not (tx_tru (ex_fn takesD c_l_number hr rfl (ax_cons (ex_var 5) ax_nil) rfl (hlen := aCons_len (fun _ _ h => aNil_len h))))) (fsx_one (fx_ret ex_bl)) fsx_nil) (fsx_one (fx_setM (i := 4) sc_law.nd rfl (by first | exact Or.inl rfl | exact Or.inr rfl) (ex_fn takesD c_l_product hr rfl (ax_cons (ex_var 4) (ax_cons (ex_var 5) ax_nil)) rfl (hlen := aCons_len (aCons_len (fun _ _ h => aNil_len h)))) rfl (by decide))))) (ssx_cons (sx_copy (io := 3) (iy := 6) sc_law.nd rfl rfl (by first | exact Or.inl rfl | exact Or.inr rfl) rfl rfl rfl m_list) (ssx_cons (sx_appM (i := 3) (ex_tup ax_nil) rfl) (ssx_one (sx_if (WX'.tx (wx_or (tx_cmp (op_neD hr.units) op2_ne (ex_var 4) (ex_var 2) (nomark _)) (wx_or (tx_not (tx_tru (ex_fn takesD c_l_walked hr rfl (ax_cons (ex_var 2) (ax_cons (ex_var 6) ax_nil)) rfl (hlen := aCons_len (aCons_len (fun _ _ h => aNil_len h)))))) (wx_or1 (tx_cmp (op_neD hr.units) op2_ne (ex_fn takesD cn_factors.cal hr rfl (ax_cons (ex_var 2) ax_nil) rfl (hlen := aCons_len (fun _ _ h => aNil_len h))) (ex_var 6) (nomark _)))))) (ssx_one (sx_ret ex_bl)) ssx_nil)))))))))))
    (BX.of (own := []) (ssx_one (sx_ret (ex_fn0 takesD c_l_refused hr rfl)))) rfl)
end
def sem : Nat → Nat → List PyData → R PyData
  | 0 => fun _ _ => .bad
  | k + 1 => fun i ds => match i with
    | 0 => fnD 1 (g_is_whole (sem k)) ds
    | 1 => fnD 5 (g_compare (sem k)) ds
    | 2 => fnD 1 (g_whole (sem k)) ds
    | 3 => fnD 2 (g_raised (sem k)) ds
    | 4 => fnD 7 (g_plus (sem k)) ds
    | 5 => fnD 5 (g_minus (sem k)) ds
    | 6 => fnD 6 (g_factors (sem k)) ds
    | 7 => fnD 2 (g_l_cell_at (sem k)) ds
    | 8 => fnD 3 (g_l_mixed (sem k)) ds
    | 9 => fnD 5 (g_l_order (sem k)) ds
    | 10 => fnD 3 (g_l_number (sem k)) ds
    | 11 => fnD 3 (g_l_put (sem k)) ds
    | 12 => fnD 2 (g_l_many (sem k)) ds
    | 13 => fnD 6 (g_l_drawn (sem k)) ds
    | 14 => fnD 2 (g_l_great (sem k)) ds
    | 15 => fnD 5 (g_l_number_by (sem k)) ds
    | 16 => fnD 5 (g_l_plus (sem k)) ds
    | 17 => fnD 5 (g_l_product (sem k)) ds
    | 18 => fnD 2 (g_l_refused (sem k)) ds
    | 19 => fnD 7 (g_l_walked (sem k)) ds
    | 20 => fnD 7 (g_law (sem k)) ds
    | _ => .bad
theorem sem_is_whole (k : Nat) (ds : List PyData) : sem (k + 1) 0 ds = fnD 1 (g_is_whole (sem k)) ds := rfl
theorem sem_compare (k : Nat) (ds : List PyData) : sem (k + 1) 1 ds = fnD 5 (g_compare (sem k)) ds := rfl
theorem sem_whole (k : Nat) (ds : List PyData) : sem (k + 1) 2 ds = fnD 1 (g_whole (sem k)) ds := rfl
theorem sem_raised (k : Nat) (ds : List PyData) : sem (k + 1) 3 ds = fnD 2 (g_raised (sem k)) ds := rfl
theorem sem_plus (k : Nat) (ds : List PyData) : sem (k + 1) 4 ds = fnD 7 (g_plus (sem k)) ds := rfl
theorem sem_minus (k : Nat) (ds : List PyData) : sem (k + 1) 5 ds = fnD 5 (g_minus (sem k)) ds := rfl
theorem sem_factors (k : Nat) (ds : List PyData) : sem (k + 1) 6 ds = fnD 6 (g_factors (sem k)) ds := rfl
theorem sem_l_cell_at (k : Nat) (ds : List PyData) : sem (k + 1) 7 ds = fnD 2 (g_l_cell_at (sem k)) ds := rfl
theorem sem_l_mixed (k : Nat) (ds : List PyData) : sem (k + 1) 8 ds = fnD 3 (g_l_mixed (sem k)) ds := rfl
theorem sem_l_order (k : Nat) (ds : List PyData) : sem (k + 1) 9 ds = fnD 5 (g_l_order (sem k)) ds := rfl
theorem sem_l_number (k : Nat) (ds : List PyData) : sem (k + 1) 10 ds = fnD 3 (g_l_number (sem k)) ds := rfl
theorem sem_l_put (k : Nat) (ds : List PyData) : sem (k + 1) 11 ds = fnD 3 (g_l_put (sem k)) ds := rfl
theorem sem_l_many (k : Nat) (ds : List PyData) : sem (k + 1) 12 ds = fnD 2 (g_l_many (sem k)) ds := rfl
theorem sem_l_drawn (k : Nat) (ds : List PyData) : sem (k + 1) 13 ds = fnD 6 (g_l_drawn (sem k)) ds := rfl
theorem sem_l_great (k : Nat) (ds : List PyData) : sem (k + 1) 14 ds = fnD 2 (g_l_great (sem k)) ds := rfl
theorem sem_l_number_by (k : Nat) (ds : List PyData) : sem (k + 1) 15 ds = fnD 5 (g_l_number_by (sem k)) ds := rfl
theorem sem_l_plus (k : Nat) (ds : List PyData) : sem (k + 1) 16 ds = fnD 5 (g_l_plus (sem k)) ds := rfl
theorem sem_l_product (k : Nat) (ds : List PyData) : sem (k + 1) 17 ds = fnD 5 (g_l_product (sem k)) ds := rfl
theorem sem_l_refused (k : Nat) (ds : List PyData) : sem (k + 1) 18 ds = fnD 2 (g_l_refused (sem k)) ds := rfl
theorem sem_l_walked (k : Nat) (ds : List PyData) : sem (k + 1) 19 ds = fnD 7 (g_l_walked (sem k)) ds := rfl
theorem sem_law (k : Nat) (ds : List PyData) : sem (k + 1) 20 ds = fnD 7 (g_law (sem k)) ds := rfl
structure Whole (K : PySem.W.Frag) (mg : Str → Option Value) : Prop where
  F_is_whole : ∃ f fd, Fun K "is_whole" "is_whole" s_is_whole f fd ∧ mg "is_whole" = some (.ref f) ∧ Binds K fd ["thing"] []
  F_compare : ∃ f fd, Fun K "compare" "compare" s_compare f fd ∧ mg "compare" = some (.ref f) ∧ Binds K fd ["a", "b"] []
  F_whole : ∃ f fd, Fun K "whole" "whole" s_whole f fd ∧ mg "whole" = some (.ref f) ∧ Binds K fd ["n"] []
  F_raised : ∃ f fd, Fun1 K "raised" s_raised 1 f fd ∧ mg "raised" = some (.ref f) ∧ Binds K fd ["exponent", "times"] [] ∧ ∃ ds, Vals [V.int 1] ds ∧ Binds K fd ["exponent", "times"] ds
  F_plus : ∃ f fd, Fun K "plus" "plus" s_plus f fd ∧ mg "plus" = some (.ref f) ∧ Binds K fd ["a", "b"] []
  F_minus : ∃ f fd, Fun K "minus" "minus" s_minus f fd ∧ mg "minus" = some (.ref f) ∧ Binds K fd ["a", "b"] []
  F_factors : ∃ f fd, Fun K "factors" "factors" s_factors f fd ∧ mg "factors" = some (.ref f) ∧ Binds K fd ["a"] []
  F_l_cell_at : ∃ f fd, Fun K "_law_cell_at" "_law_cell_at" s_l_cell_at f fd ∧ mg "_law_cell_at" = some (.ref f) ∧ Binds K fd ["_law_script", "_law_k"] []
  F_l_mixed : ∃ f fd, Fun K "_law_mixed" "_law_mixed" s_l_mixed f fd ∧ mg "_law_mixed" = some (.ref f) ∧ Binds K fd ["_law_cell", "_law_k"] []
  F_l_order : ∃ f fd, Fun K "_law_order" "_law_order" s_l_order f fd ∧ mg "_law_order" = some (.ref f) ∧ Binds K fd ["_law_a", "_law_b"] []
  F_l_number : ∃ f fd, Fun K "_law_number" "_law_number" s_l_number f fd ∧ mg "_law_number" = some (.ref f) ∧ Binds K fd ["_law_found"] []
  F_l_put : ∃ f fd, Fun K "_law_put" "_law_put" s_l_put f fd ∧ mg "_law_put" = some (.ref f) ∧ Binds K fd ["_law_parts", "_law_part"] []
  F_l_many : ∃ f fd, Fun K "_law_many" "_law_many" s_l_many f fd ∧ mg "_law_many" = some (.ref f) ∧ Binds K fd ["_law_number_here"] []
  F_l_drawn : ∃ f fd, Fun K "_law_drawn" "_law_drawn" s_l_drawn f fd ∧ mg "_law_drawn" = some (.ref f) ∧ Binds K fd ["_law_cell", "_law_level"] []
  F_l_great : ∃ f fd, Fun K "_law_great" "_law_great" s_l_great f fd ∧ mg "_law_great" = some (.ref f) ∧ Binds K fd ["_law_cell"] []
  F_l_number_by : ∃ f fd, Fun K "_law_number_by" "_law_number_by" s_l_number_by f fd ∧ mg "_law_number_by" = some (.ref f) ∧ Binds K fd ["_law_one", "_law_two"] []
  F_l_plus : ∃ f fd, Fun K "_law_plus" "_law_plus" s_l_plus f fd ∧ mg "_law_plus" = some (.ref f) ∧ Binds K fd ["_law_a", "_law_b"] []
  F_l_product : ∃ f fd, Fun K "_law_product" "_law_product" s_l_product f fd ∧ mg "_law_product" = some (.ref f) ∧ Binds K fd ["_law_a", "_law_b"] []
  F_l_refused : ∃ f fd, Fun K "_law_refused" "_law_refused" s_l_refused f fd ∧ mg "_law_refused" = some (.ref f) ∧ Binds K fd [] []
  F_l_walked : ∃ f fd, Fun K "_law_walked" "_law_walked" s_l_walked f fd ∧ mg "_law_walked" = some (.ref f) ∧ Binds K fd ["_law_a", "_law_found"] []
  m_ValueError : mg "ValueError" = none
  m_bool : mg "bool" = none
  m_int : mg "int" = none
  m_isinstance : mg "isinstance" = none
  m_len : mg "len" = none
  m_list : mg "list" = none
  m_max : mg "max" = none
  m_min : mg "min" = none
  m_range : mg "range" = none
  m_sum : mg "sum" = none
  m_tuple : mg "tuple" = none
  m_zip : mg "zip" = none
  e_NoNumber : ErrF K mg "NoNumber"
  e_Nought : ErrF K mg "Nought"
  e_TooHigh : ErrF K mg "TooHigh"
  yl_HydraError_NoNumber_Nought_TooHigh : TryL K mg "HydraError" [("NoNumber", true), ("Nought", true), ("TooHigh", true)]
  yl_Nought_NoNumber_Nought_TooHigh : TryL K mg "Nought" [("NoNumber", false), ("Nought", true), ("TooHigh", false)]
  kl_ValueError_NoNumber_Nought_TooHigh : KitB K mg [("NoNumber", true), ("Nought", true), ("TooHigh", true)]
structure Calls (P : Program) (w : World) (K : PySem.W.Frag) (mg : Str → Option Value) (base : Heap) (k : Nat) (S : Nat → List PyData → R PyData) : Prop where
  c_is_whole : Cal P w K mg base k "is_whole" 1 (S 0)
  c_compare : Cal P w K mg base k "compare" 2 (S 1)
  c_whole : Cal P w K mg base k "whole" 1 (S 2)
  c_raised : Cal P w K mg base k "raised" 2 (S 3)
  c_plus : Cal P w K mg base k "plus" 2 (S 4)
  c_minus : Cal P w K mg base k "minus" 2 (S 5)
  cn_factors : CalN P w K mg base k "factors" 1 (S 6)
  c_l_cell_at : Cal P w K mg base k "_law_cell_at" 2 (S 7)
  c_l_mixed : Cal P w K mg base k "_law_mixed" 2 (S 8)
  c_l_order : Cal P w K mg base k "_law_order" 2 (S 9)
  c_l_number : Cal P w K mg base k "_law_number" 1 (S 10)
  c_l_put : Cal P w K mg base k "_law_put" 2 (S 11)
  c_l_many : Cal P w K mg base k "_law_many" 1 (S 12)
  c_l_drawn : Cal P w K mg base k "_law_drawn" 2 (S 13)
  c_l_great : Cal P w K mg base k "_law_great" 1 (S 14)
  c_l_number_by : Cal P w K mg base k "_law_number_by" 2 (S 15)
  c_l_plus : Cal P w K mg base k "_law_plus" 2 (S 16)
  c_l_product : Cal P w K mg base k "_law_product" 2 (S 17)
  c_l_refused : Cal P w K mg base k "_law_refused" 0 (S 18)
  c_l_walked : Cal P w K mg base k "_law_walked" 2 (S 19)
  c1_raised : CalX P w K mg base k "raised" 1 1 (S 3)
section
variable {P : Program} {w : World} {K : PySem.W.Frag} {mg : Str → Option Value} {base : Heap}
theorem calls (T : Whole K mg) : ∀ k, Calls P w K mg base k (sem k)
  | 0 => {
      c_is_whole := by obtain ⟨f, fd, F, m, b⟩ := T.F_is_whole; exact cal_zero F m b rfl
      c_compare := by obtain ⟨f, fd, F, m, b⟩ := T.F_compare; exact cal_zero F m b rfl
      c_whole := by obtain ⟨f, fd, F, m, b⟩ := T.F_whole; exact cal_zero F m b rfl
      c_raised := by obtain ⟨f, fd, F, m, b, b2⟩ := T.F_raised; exact cal_zero1 F m b rfl
      c_plus := by obtain ⟨f, fd, F, m, b⟩ := T.F_plus; exact cal_zero F m b rfl
      c_minus := by obtain ⟨f, fd, F, m, b⟩ := T.F_minus; exact cal_zero F m b rfl
      cn_factors := by obtain ⟨f, fd, F, m, b⟩ := T.F_factors; exact cal_zeroN F m b rfl
      c_l_cell_at := by obtain ⟨f, fd, F, m, b⟩ := T.F_l_cell_at; exact cal_zero F m b rfl
      c_l_mixed := by obtain ⟨f, fd, F, m, b⟩ := T.F_l_mixed; exact cal_zero F m b rfl
      c_l_order := by obtain ⟨f, fd, F, m, b⟩ := T.F_l_order; exact cal_zero F m b rfl
      c_l_number := by obtain ⟨f, fd, F, m, b⟩ := T.F_l_number; exact cal_zero F m b rfl
      c_l_put := by obtain ⟨f, fd, F, m, b⟩ := T.F_l_put; exact cal_zero F m b rfl
      c_l_many := by obtain ⟨f, fd, F, m, b⟩ := T.F_l_many; exact cal_zero F m b rfl
      c_l_drawn := by obtain ⟨f, fd, F, m, b⟩ := T.F_l_drawn; exact cal_zero F m b rfl
      c_l_great := by obtain ⟨f, fd, F, m, b⟩ := T.F_l_great; exact cal_zero F m b rfl
      c_l_number_by := by obtain ⟨f, fd, F, m, b⟩ := T.F_l_number_by; exact cal_zero F m b rfl
      c_l_plus := by obtain ⟨f, fd, F, m, b⟩ := T.F_l_plus; exact cal_zero F m b rfl
      c_l_product := by obtain ⟨f, fd, F, m, b⟩ := T.F_l_product; exact cal_zero F m b rfl
      c_l_refused := by obtain ⟨f, fd, F, m, b⟩ := T.F_l_refused; exact cal_zero F m b rfl
      c_l_walked := by obtain ⟨f, fd, F, m, b⟩ := T.F_l_walked; exact cal_zero F m b rfl
      c1_raised := by obtain ⟨f, fd, F, m, b, b2⟩ := T.F_raised; exact calX_zero F m b2 rfl
    }
  | k + 1 => by
    have ih := calls T k
    exact {
      c_is_whole := by obtain ⟨f, fd, F, m, b⟩ := T.F_is_whole; exact cal_data F m b sc_is_whole rfl (by decide) fun cdv A outer s H E hr => b_is_whole (S := sem k) hr (m_bool := T.m_bool) (m_int := T.m_int) (m_isinstance := T.m_isinstance)
      c_compare := by obtain ⟨f, fd, F, m, b⟩ := T.F_compare; exact cal_data F m b sc_compare rfl (by decide) fun cdv A outer s H E hr => b_compare (S := sem k) hr (c_compare := ih.c_compare) (m_len := T.m_len) (m_zip := T.m_zip)
      c_whole := by obtain ⟨f, fd, F, m, b⟩ := T.F_whole; exact cal_data F m b sc_whole rfl (by decide) fun cdv A outer s H E hr => b_whole (S := sem k) hr (c_raised := ih.c_raised)
      c_raised := by obtain ⟨f, fd, F, m, b, b2⟩ := T.F_raised; exact cal_data1 F m b sc_raised rfl (by decide) fun cdv A outer s H E hr => b_raised (S := sem k) hr (c_is_whole := ih.c_is_whole) (e_NoNumber := T.e_NoNumber)
      c_plus := by obtain ⟨f, fd, F, m, b⟩ := T.F_plus; exact cal_data F m b sc_plus rfl (by decide) fun cdv A outer s H E hr => b_plus (S := sem k) hr (c_compare := ih.c_compare) (m_len := T.m_len) (m_tuple := T.m_tuple)
      c_minus := by obtain ⟨f, fd, F, m, b⟩ := T.F_minus; exact cal_data F m b sc_minus rfl (by decide) fun cdv A outer s H E hr => b_minus (S := sem k) hr (c_compare := ih.c_compare) (m_len := T.m_len) (e_TooHigh := T.e_TooHigh)
      cn_factors := by obtain ⟨f, fd, F, m, b⟩ := T.F_factors; exact cal_dataN F m b sc_factors rfl (by decide) fun cdv A outer s H E hr => b_factors (S := sem k) hr (c_minus := ih.c_minus) (c_plus := ih.c_plus) (c1_raised := ih.c1_raised) (c_whole := ih.c_whole) (m_len := T.m_len) (m_range := T.m_range) (e_Nought := T.e_Nought)
      c_l_cell_at := by obtain ⟨f, fd, F, m, b⟩ := T.F_l_cell_at; exact cal_data F m b sc_l_cell_at rfl (by decide) fun cdv A outer s H E hr => b_l_cell_at (S := sem k) hr (m_len := T.m_len)
      c_l_mixed := by obtain ⟨f, fd, F, m, b⟩ := T.F_l_mixed; exact cal_data F m b sc_l_mixed rfl (by decide) fun cdv A outer s H E hr => b_l_mixed (S := sem k) hr 
      c_l_order := by obtain ⟨f, fd, F, m, b⟩ := T.F_l_order; exact cal_data F m b sc_l_order rfl (by decide) fun cdv A outer s H E hr => b_l_order (S := sem k) hr (c_l_order := ih.c_l_order) (m_int := T.m_int) (m_len := T.m_len) (m_zip := T.m_zip)
      c_l_number := by obtain ⟨f, fd, F, m, b⟩ := T.F_l_number; exact cal_data F m b sc_l_number rfl (by decide) fun cdv A outer s H E hr => b_l_number (S := sem k) hr (c_l_number := ih.c_l_number) (c_l_order := ih.c_l_order) (m_bool := T.m_bool) (m_int := T.m_int) (m_isinstance := T.m_isinstance) (m_len := T.m_len) (m_range := T.m_range) (m_tuple := T.m_tuple)
      c_l_put := by obtain ⟨f, fd, F, m, b⟩ := T.F_l_put; exact cal_data F m b sc_l_put rfl (by decide) fun cdv A outer s H E hr => b_l_put (S := sem k) hr (c_l_order := ih.c_l_order) (m_len := T.m_len)
      c_l_many := by obtain ⟨f, fd, F, m, b⟩ := T.F_l_many; exact cal_data F m b sc_l_many rfl (by decide) fun cdv A outer s H E hr => b_l_many (S := sem k) hr 
      c_l_drawn := by obtain ⟨f, fd, F, m, b⟩ := T.F_l_drawn; exact cal_data F m b sc_l_drawn rfl (by decide) fun cdv A outer s H E hr => b_l_drawn (S := sem k) hr (c_l_drawn := ih.c_l_drawn) (c_l_many := ih.c_l_many) (c_l_mixed := ih.c_l_mixed) (c_l_put := ih.c_l_put) (m_range := T.m_range) (m_tuple := T.m_tuple)
      c_l_great := by obtain ⟨f, fd, F, m, b⟩ := T.F_l_great; exact cal_data F m b sc_l_great rfl (by decide) fun cdv A outer s H E hr => b_l_great (S := sem k) hr (c_l_mixed := ih.c_l_mixed)
      c_l_number_by := by obtain ⟨f, fd, F, m, b⟩ := T.F_l_number_by; exact cal_data F m b sc_l_number_by rfl (by decide) fun cdv A outer s H E hr => b_l_number_by (S := sem k) hr (c_l_drawn := ih.c_l_drawn) (c_l_great := ih.c_l_great) (c_l_mixed := ih.c_l_mixed) (m_tuple := T.m_tuple)
      c_l_plus := by obtain ⟨f, fd, F, m, b⟩ := T.F_l_plus; exact cal_data F m b sc_l_plus rfl (by decide) fun cdv A outer s H E hr => b_l_plus (S := sem k) hr (c_l_order := ih.c_l_order) (m_sum := T.m_sum) (m_tuple := T.m_tuple)
      c_l_product := by obtain ⟨f, fd, F, m, b⟩ := T.F_l_product; exact cal_data F m b sc_l_product rfl (by decide) fun cdv A outer s H E hr => b_l_product (S := sem k) hr (c_l_plus := ih.c_l_plus)
      c_l_refused := by obtain ⟨f, fd, F, m, b⟩ := T.F_l_refused; exact cal_data F m b sc_l_refused rfl (by decide) fun cdv A outer s H E hr => b_l_refused (S := sem k) hr (cn_factors := ih.cn_factors) (m_ValueError := T.m_ValueError) (m_int := T.m_int) (m_isinstance := T.m_isinstance) (yl_HydraError_NoNumber_Nought_TooHigh := T.yl_HydraError_NoNumber_Nought_TooHigh) (yl_Nought_NoNumber_Nought_TooHigh := T.yl_Nought_NoNumber_Nought_TooHigh) (kl_ValueError_NoNumber_Nought_TooHigh := T.kl_ValueError_NoNumber_Nought_TooHigh)
      c_l_walked := by obtain ⟨f, fd, F, m, b⟩ := T.F_l_walked; exact cal_data F m b sc_l_walked rfl (by decide) fun cdv A outer s H E hr => b_l_walked (S := sem k) hr (c_l_plus := ih.c_l_plus) (m_len := T.m_len) (m_range := T.m_range)
      c1_raised := by obtain ⟨f, fd, F, m, b, b2⟩ := T.F_raised; exact calX_data F m b2 sc_raised rfl (by decide) fun cdv A outer s H E hr => b_raised (S := sem k) hr (c_is_whole := ih.c_is_whole) (e_NoNumber := T.e_NoNumber)
    }
theorem law_ok {f : Addr} {fd : FuncData} (T : Whole K mg) (F : Fun K "law" "law" s_law f fd) (hl : ∀ ns : List Int, ns.length ≤ 63 → sem 101 20 [.list (ns.map .int)] = .ok (.bool true)) :
    FnOk P w K mg base (L2.CX P w) 101 f fd ["_law_script"] (spLaw K) := by
  have ih : Calls P w K mg base 100 (sem 100) := calls T 100
  exact (fn_data F sc_law rfl (by decide) fun cdv A outer s H E hr => b_law hr (c_l_cell_at := ih.c_l_cell_at) (c_l_number := ih.c_l_number) (c_l_number_by := ih.c_l_number_by) (c_l_product := ih.c_l_product) (c_l_refused := ih.c_l_refused) (c_l_walked := ih.c_l_walked) (cn_factors := ih.cn_factors) (m_isinstance := T.m_isinstance) (m_len := T.m_len) (m_list := T.m_list) (m_max := T.m_max) (m_min := T.m_min) (m_range := T.m_range)).imp (law_imp hl)
end
section
variable {l : PySem.W.OpenLaw} {w : World} {K : PySem.W.Frag} {h : Heap} {mg : Str → Option Value}
theorem all_mk (X : K.In h) (G : h.Ns mainGlobals mg) {fa : Addr} (hfa : mg "law" = some (.ref fa))
    {f0 : Addr} {od0 an0 : Option Addr} {sl0 : Array (Option Value)} {oc0 kV0 dc0 pm0 cd0 ct0 : Value}
    (a0 : PySem.W.nsIn K mainGlobals "is_whole" = some (some (.ref f0))) (l0 : K.lookup f0 = some ⟨oc0, od0, .func (PySem.W.fnOf "is_whole" "is_whole" (defArgs s_is_whole) (defBody s_is_whole) (defScope s_is_whole) .none kV0 dc0 pm0 an0 cd0 ct0), sl0⟩) (c0 : PySem.W.codeIn K cd0 "is_whole" = true) (k0 : PySem.W.keepIn K (.ref f0) = true)
    {f1 : Addr} {od1 an1 : Option Addr} {sl1 : Array (Option Value)} {oc1 kV1 dc1 pm1 cd1 ct1 : Value}
    (a1 : PySem.W.nsIn K mainGlobals "compare" = some (some (.ref f1))) (l1 : K.lookup f1 = some ⟨oc1, od1, .func (PySem.W.fnOf "compare" "compare" (defArgs s_compare) (defBody s_compare) (defScope s_compare) .none kV1 dc1 pm1 an1 cd1 ct1), sl1⟩) (c1 : PySem.W.codeIn K cd1 "compare" = true) (k1 : PySem.W.keepIn K (.ref f1) = true)
    {f2 : Addr} {od2 an2 : Option Addr} {sl2 : Array (Option Value)} {oc2 kV2 dc2 pm2 cd2 ct2 : Value}
    (a2 : PySem.W.nsIn K mainGlobals "whole" = some (some (.ref f2))) (l2 : K.lookup f2 = some ⟨oc2, od2, .func (PySem.W.fnOf "whole" "whole" (defArgs s_whole) (defBody s_whole) (defScope s_whole) .none kV2 dc2 pm2 an2 cd2 ct2), sl2⟩) (c2 : PySem.W.codeIn K cd2 "whole" = true) (k2 : PySem.W.keepIn K (.ref f2) = true)
    {f3 : Addr} {od3 an3 : Option Addr} {sl3 : Array (Option Value)} {oc3 kV3 dc3 pm3 cd3 ct3 : Value}
    {T3 : Addr} {ocT3 : Value} {odT3 : Option Addr} {nT3 : Nat} {tkT3 : Tok} {slT3 : Array (Option Value)}
    (a3 : PySem.W.nsIn K mainGlobals "raised" = some (some (.ref f3))) (l3 : K.lookup f3 = some ⟨oc3, od3, .func (PySem.W.fnOf "raised" "raised" (defArgs s_raised) (defBody s_raised) (defScope s_raised) (.ref T3) kV3 dc3 pm3 an3 cd3 ct3), sl3⟩) (c3 : PySem.W.codeIn K cd3 "raised" = true) (k3 : PySem.W.keepIn K (.ref f3) = true)
    {f4 : Addr} {od4 an4 : Option Addr} {sl4 : Array (Option Value)} {oc4 kV4 dc4 pm4 cd4 ct4 : Value}
    (a4 : PySem.W.nsIn K mainGlobals "plus" = some (some (.ref f4))) (l4 : K.lookup f4 = some ⟨oc4, od4, .func (PySem.W.fnOf "plus" "plus" (defArgs s_plus) (defBody s_plus) (defScope s_plus) .none kV4 dc4 pm4 an4 cd4 ct4), sl4⟩) (c4 : PySem.W.codeIn K cd4 "plus" = true) (k4 : PySem.W.keepIn K (.ref f4) = true)
    {f5 : Addr} {od5 an5 : Option Addr} {sl5 : Array (Option Value)} {oc5 kV5 dc5 pm5 cd5 ct5 : Value}
    (a5 : PySem.W.nsIn K mainGlobals "minus" = some (some (.ref f5))) (l5 : K.lookup f5 = some ⟨oc5, od5, .func (PySem.W.fnOf "minus" "minus" (defArgs s_minus) (defBody s_minus) (defScope s_minus) .none kV5 dc5 pm5 an5 cd5 ct5), sl5⟩) (c5 : PySem.W.codeIn K cd5 "minus" = true) (k5 : PySem.W.keepIn K (.ref f5) = true)
    {f6 : Addr} {od6 an6 : Option Addr} {sl6 : Array (Option Value)} {oc6 kV6 dc6 pm6 cd6 ct6 : Value}
    (a6 : PySem.W.nsIn K mainGlobals "factors" = some (some (.ref f6))) (l6 : K.lookup f6 = some ⟨oc6, od6, .func (PySem.W.fnOf "factors" "factors" (defArgs s_factors) (defBody s_factors) (defScope s_factors) .none kV6 dc6 pm6 an6 cd6 ct6), sl6⟩) (c6 : PySem.W.codeIn K cd6 "factors" = true) (k6 : PySem.W.keepIn K (.ref f6) = true)
    {f7 : Addr} {od7 an7 : Option Addr} {sl7 : Array (Option Value)} {oc7 kV7 dc7 pm7 cd7 ct7 : Value}
    (a7 : PySem.W.nsIn K mainGlobals "_law_cell_at" = some (some (.ref f7))) (l7 : K.lookup f7 = some ⟨oc7, od7, .func (PySem.W.fnOf "_law_cell_at" "_law_cell_at" (defArgs s_l_cell_at) (defBody s_l_cell_at) (defScope s_l_cell_at) .none kV7 dc7 pm7 an7 cd7 ct7), sl7⟩) (c7 : PySem.W.codeIn K cd7 "_law_cell_at" = true) (k7 : PySem.W.keepIn K (.ref f7) = true)
    {f8 : Addr} {od8 an8 : Option Addr} {sl8 : Array (Option Value)} {oc8 kV8 dc8 pm8 cd8 ct8 : Value}
    (a8 : PySem.W.nsIn K mainGlobals "_law_mixed" = some (some (.ref f8))) (l8 : K.lookup f8 = some ⟨oc8, od8, .func (PySem.W.fnOf "_law_mixed" "_law_mixed" (defArgs s_l_mixed) (defBody s_l_mixed) (defScope s_l_mixed) .none kV8 dc8 pm8 an8 cd8 ct8), sl8⟩) (c8 : PySem.W.codeIn K cd8 "_law_mixed" = true) (k8 : PySem.W.keepIn K (.ref f8) = true)
    {f9 : Addr} {od9 an9 : Option Addr} {sl9 : Array (Option Value)} {oc9 kV9 dc9 pm9 cd9 ct9 : Value}
    (a9 : PySem.W.nsIn K mainGlobals "_law_order" = some (some (.ref f9))) (l9 : K.lookup f9 = some ⟨oc9, od9, .func (PySem.W.fnOf "_law_order" "_law_order" (defArgs s_l_order) (defBody s_l_order) (defScope s_l_order) .none kV9 dc9 pm9 an9 cd9 ct9), sl9⟩) (c9 : PySem.W.codeIn K cd9 "_law_order" = true) (k9 : PySem.W.keepIn K (.ref f9) = true)
    {f10 : Addr} {od10 an10 : Option Addr} {sl10 : Array (Option Value)} {oc10 kV10 dc10 pm10 cd10 ct10 : Value}
    (a10 : PySem.W.nsIn K mainGlobals "_law_number" = some (some (.ref f10))) (l10 : K.lookup f10 = some ⟨oc10, od10, .func (PySem.W.fnOf "_law_number" "_law_number" (defArgs s_l_number) (defBody s_l_number) (defScope s_l_number) .none kV10 dc10 pm10 an10 cd10 ct10), sl10⟩) (c10 : PySem.W.codeIn K cd10 "_law_number" = true) (k10 : PySem.W.keepIn K (.ref f10) = true)
    {f11 : Addr} {od11 an11 : Option Addr} {sl11 : Array (Option Value)} {oc11 kV11 dc11 pm11 cd11 ct11 : Value}
    (a11 : PySem.W.nsIn K mainGlobals "_law_put" = some (some (.ref f11))) (l11 : K.lookup f11 = some ⟨oc11, od11, .func (PySem.W.fnOf "_law_put" "_law_put" (defArgs s_l_put) (defBody s_l_put) (defScope s_l_put) .none kV11 dc11 pm11 an11 cd11 ct11), sl11⟩) (c11 : PySem.W.codeIn K cd11 "_law_put" = true) (k11 : PySem.W.keepIn K (.ref f11) = true)
    {f12 : Addr} {od12 an12 : Option Addr} {sl12 : Array (Option Value)} {oc12 kV12 dc12 pm12 cd12 ct12 : Value}
    (a12 : PySem.W.nsIn K mainGlobals "_law_many" = some (some (.ref f12))) (l12 : K.lookup f12 = some ⟨oc12, od12, .func (PySem.W.fnOf "_law_many" "_law_many" (defArgs s_l_many) (defBody s_l_many) (defScope s_l_many) .none kV12 dc12 pm12 an12 cd12 ct12), sl12⟩) (c12 : PySem.W.codeIn K cd12 "_law_many" = true) (k12 : PySem.W.keepIn K (.ref f12) = true)
    {f13 : Addr} {od13 an13 : Option Addr} {sl13 : Array (Option Value)} {oc13 kV13 dc13 pm13 cd13 ct13 : Value}
    (a13 : PySem.W.nsIn K mainGlobals "_law_drawn" = some (some (.ref f13))) (l13 : K.lookup f13 = some ⟨oc13, od13, .func (PySem.W.fnOf "_law_drawn" "_law_drawn" (defArgs s_l_drawn) (defBody s_l_drawn) (defScope s_l_drawn) .none kV13 dc13 pm13 an13 cd13 ct13), sl13⟩) (c13 : PySem.W.codeIn K cd13 "_law_drawn" = true) (k13 : PySem.W.keepIn K (.ref f13) = true)
    {f14 : Addr} {od14 an14 : Option Addr} {sl14 : Array (Option Value)} {oc14 kV14 dc14 pm14 cd14 ct14 : Value}
    (a14 : PySem.W.nsIn K mainGlobals "_law_great" = some (some (.ref f14))) (l14 : K.lookup f14 = some ⟨oc14, od14, .func (PySem.W.fnOf "_law_great" "_law_great" (defArgs s_l_great) (defBody s_l_great) (defScope s_l_great) .none kV14 dc14 pm14 an14 cd14 ct14), sl14⟩) (c14 : PySem.W.codeIn K cd14 "_law_great" = true) (k14 : PySem.W.keepIn K (.ref f14) = true)
    {f15 : Addr} {od15 an15 : Option Addr} {sl15 : Array (Option Value)} {oc15 kV15 dc15 pm15 cd15 ct15 : Value}
    (a15 : PySem.W.nsIn K mainGlobals "_law_number_by" = some (some (.ref f15))) (l15 : K.lookup f15 = some ⟨oc15, od15, .func (PySem.W.fnOf "_law_number_by" "_law_number_by" (defArgs s_l_number_by) (defBody s_l_number_by) (defScope s_l_number_by) .none kV15 dc15 pm15 an15 cd15 ct15), sl15⟩) (c15 : PySem.W.codeIn K cd15 "_law_number_by" = true) (k15 : PySem.W.keepIn K (.ref f15) = true)
    {f16 : Addr} {od16 an16 : Option Addr} {sl16 : Array (Option Value)} {oc16 kV16 dc16 pm16 cd16 ct16 : Value}
    (a16 : PySem.W.nsIn K mainGlobals "_law_plus" = some (some (.ref f16))) (l16 : K.lookup f16 = some ⟨oc16, od16, .func (PySem.W.fnOf "_law_plus" "_law_plus" (defArgs s_l_plus) (defBody s_l_plus) (defScope s_l_plus) .none kV16 dc16 pm16 an16 cd16 ct16), sl16⟩) (c16 : PySem.W.codeIn K cd16 "_law_plus" = true) (k16 : PySem.W.keepIn K (.ref f16) = true)
    {f17 : Addr} {od17 an17 : Option Addr} {sl17 : Array (Option Value)} {oc17 kV17 dc17 pm17 cd17 ct17 : Value}
    (a17 : PySem.W.nsIn K mainGlobals "_law_product" = some (some (.ref f17))) (l17 : K.lookup f17 = some ⟨oc17, od17, .func (PySem.W.fnOf "_law_product" "_law_product" (defArgs s_l_product) (defBody s_l_product) (defScope s_l_product) .none kV17 dc17 pm17 an17 cd17 ct17), sl17⟩) (c17 : PySem.W.codeIn K cd17 "_law_product" = true) (k17 : PySem.W.keepIn K (.ref f17) = true)
    {f18 : Addr} {od18 an18 : Option Addr} {sl18 : Array (Option Value)} {oc18 kV18 dc18 pm18 cd18 ct18 : Value}
    (a18 : PySem.W.nsIn K mainGlobals "_law_refused" = some (some (.ref f18))) (l18 : K.lookup f18 = some ⟨oc18, od18, .func (PySem.W.fnOf "_law_refused" "_law_refused" (defArgs s_l_refused) (defBody s_l_refused) (defScope s_l_refused) .none kV18 dc18 pm18 an18 cd18 ct18), sl18⟩) (c18 : PySem.W.codeIn K cd18 "_law_refused" = true) (k18 : PySem.W.keepIn K (.ref f18) = true)
    {f19 : Addr} {od19 an19 : Option Addr} {sl19 : Array (Option Value)} {oc19 kV19 dc19 pm19 cd19 ct19 : Value}
    (a19 : PySem.W.nsIn K mainGlobals "_law_walked" = some (some (.ref f19))) (l19 : K.lookup f19 = some ⟨oc19, od19, .func (PySem.W.fnOf "_law_walked" "_law_walked" (defArgs s_l_walked) (defBody s_l_walked) (defScope s_l_walked) .none kV19 dc19 pm19 an19 cd19 ct19), sl19⟩) (c19 : PySem.W.codeIn K cd19 "_law_walked" = true) (k19 : PySem.W.keepIn K (.ref f19) = true)
    {f20 : Addr} {od20 an20 : Option Addr} {sl20 : Array (Option Value)} {oc20 kV20 dc20 pm20 cd20 ct20 : Value}
    (a20 : PySem.W.nsIn K mainGlobals "law" = some (some (.ref f20))) (l20 : K.lookup f20 = some ⟨oc20, od20, .func (PySem.W.fnOf "law" "law" (defArgs s_law) (defBody s_law) (defScope s_law) .none kV20 dc20 pm20 an20 cd20 ct20), sl20⟩) (c20 : PySem.W.codeIn K cd20 "law" = true) (k20 : PySem.W.keepIn K (.ref f20) = true)
    (z_ValueError : PySem.W.nsIn K mainGlobals "ValueError" = some none)
    (z_bool : PySem.W.nsIn K mainGlobals "bool" = some none)
    (z_int : PySem.W.nsIn K mainGlobals "int" = some none)
    (z_isinstance : PySem.W.nsIn K mainGlobals "isinstance" = some none)
    (z_len : PySem.W.nsIn K mainGlobals "len" = some none)
    (z_list : PySem.W.nsIn K mainGlobals "list" = some none)
    (z_max : PySem.W.nsIn K mainGlobals "max" = some none)
    (z_min : PySem.W.nsIn K mainGlobals "min" = some none)
    (z_range : PySem.W.nsIn K mainGlobals "range" = some none)
    (z_sum : PySem.W.nsIn K mainGlobals "sum" = some none)
    (z_tuple : PySem.W.nsIn K mainGlobals "tuple" = some none)
    (z_zip : PySem.W.nsIn K mainGlobals "zip" = some none)
    (lT3 : K.lookup T3 = some ⟨ocT3, odT3, .seq #[.int 1 tkT3] nT3, slT3⟩)
    {C_HydraError : Addr}
    (ac_HydraError : PySem.W.nsIn K mainGlobals "HydraError" = some (some (.ref C_HydraError)))
    (sc_HydraError : PySem.W.subIn K (.ref C_HydraError) (.type "BaseException") = some true)
    (tc_HydraError : PySem.W.typeIn K (.ref C_HydraError) = some (.type "type"))
    (hc_HydraError : PySem.W.hasDictIn K C_HydraError = true)
    {C_NoNumber : Addr}
    (ac_NoNumber : PySem.W.nsIn K mainGlobals "NoNumber" = some (some (.ref C_NoNumber)))
    (xc_NoNumber : PySem.W.excIn K C_NoNumber [.type "ValueError", .type "Exception", .type "BaseException", .type "object"] "ValueError.__new__" = true)
    (kc_NoNumber : PySem.W.keepIn K (.ref C_NoNumber) = true)
    (sc_NoNumber : PySem.W.subIn K (.ref C_NoNumber) (.type "BaseException") = some true)
    (tc_NoNumber : PySem.W.typeIn K (.ref C_NoNumber) = some (.type "type"))
    (hc_NoNumber : PySem.W.hasDictIn K C_NoNumber = true)
    {C_Nought : Addr}
    (ac_Nought : PySem.W.nsIn K mainGlobals "Nought" = some (some (.ref C_Nought)))
    (xc_Nought : PySem.W.excIn K C_Nought [.type "ValueError", .type "Exception", .type "BaseException", .type "object"] "ValueError.__new__" = true)
    (kc_Nought : PySem.W.keepIn K (.ref C_Nought) = true)
    (sc_Nought : PySem.W.subIn K (.ref C_Nought) (.type "BaseException") = some true)
    (tc_Nought : PySem.W.typeIn K (.ref C_Nought) = some (.type "type"))
    (hc_Nought : PySem.W.hasDictIn K C_Nought = true)
    {C_TooHigh : Addr}
    (ac_TooHigh : PySem.W.nsIn K mainGlobals "TooHigh" = some (some (.ref C_TooHigh)))
    (xc_TooHigh : PySem.W.excIn K C_TooHigh [.type "ValueError", .type "Exception", .type "BaseException", .type "object"] "ValueError.__new__" = true)
    (kc_TooHigh : PySem.W.keepIn K (.ref C_TooHigh) = true)
    (sc_TooHigh : PySem.W.subIn K (.ref C_TooHigh) (.type "BaseException") = some true)
    (tc_TooHigh : PySem.W.typeIn K (.ref C_TooHigh) = some (.type "type"))
    (hc_TooHigh : PySem.W.hasDictIn K C_TooHigh = true)
    (ga_NoNumber : PySem.W.findIn K (.ref C_NoNumber) "__getattribute__" = some (some (.builtin "BaseException.__getattribute__")))
    (gg_NoNumber : PySem.W.findIn K (.ref C_NoNumber) "__getattr__" = some none)
    (gc_NoNumber : PySem.W.findIn K (.ref C_NoNumber) "__class__" = some (some (.builtin "object.__class__")))
    (mo_NoNumber : PySem.W.mroIn K C_NoNumber (.type "object") = some true)
    (sv_NoNumber : PySem.W.subIn K (.ref C_NoNumber) (.type "ValueError") = some true)
    (ga_Nought : PySem.W.findIn K (.ref C_Nought) "__getattribute__" = some (some (.builtin "BaseException.__getattribute__")))
    (gg_Nought : PySem.W.findIn K (.ref C_Nought) "__getattr__" = some none)
    (gc_Nought : PySem.W.findIn K (.ref C_Nought) "__class__" = some (some (.builtin "object.__class__")))
    (mo_Nought : PySem.W.mroIn K C_Nought (.type "object") = some true)
    (sv_Nought : PySem.W.subIn K (.ref C_Nought) (.type "ValueError") = some true)
    (ga_TooHigh : PySem.W.findIn K (.ref C_TooHigh) "__getattribute__" = some (some (.builtin "BaseException.__getattribute__")))
    (gg_TooHigh : PySem.W.findIn K (.ref C_TooHigh) "__getattr__" = some none)
    (gc_TooHigh : PySem.W.findIn K (.ref C_TooHigh) "__class__" = some (some (.builtin "object.__class__")))
    (mo_TooHigh : PySem.W.mroIn K C_TooHigh (.type "object") = some true)
    (sv_TooHigh : PySem.W.subIn K (.ref C_TooHigh) (.type "ValueError") = some true)
    (su_NoNumber_HydraError : PySem.W.subIn K (.ref C_NoNumber) (.ref C_HydraError) = some true)
    (su_NoNumber_Nought : PySem.W.subIn K (.ref C_NoNumber) (.ref C_Nought) = some false)
    (su_Nought_HydraError : PySem.W.subIn K (.ref C_Nought) (.ref C_HydraError) = some true)
    (su_Nought_Nought : PySem.W.subIn K (.ref C_Nought) (.ref C_Nought) = some true)
    (su_TooHigh_HydraError : PySem.W.subIn K (.ref C_TooHigh) (.ref C_HydraError) = some true)
    (su_TooHigh_Nought : PySem.W.subIn K (.ref C_TooHigh) (.ref C_Nought) = some false)
    (zget : PySem.W.specialIn K (.builtin "object.__class__") "__get__" = some (some (.builtin "getset_descriptor.__get__")))
    (ztak : PySem.W.takesIn K (.builtin "object.__class__") = some true)
    (hl : ∀ ns : List Int, ns.length ≤ 63 → sem 101 20 [.list (ns.map .int)] = .ok (.bool true)) :
    ∃ fd : FuncData, (∀ (s : Shared) (v : Value), BindsTo s fd ⟨[v], []⟩ [("_law_script", v)]) ∧ ∀ base : Heap, K.In base → base.Ns mainGlobals mg → FnOk l.prog w K mg base (L2.CX l.prog w) 101 fa fd ["_law_script"] (spLaw K) := by
  have e := hfa.symm.trans (PySem.W.mg_of X G a20)
  cases e
  have T : Whole K mg := {
    F_is_whole := ⟨f0, _, fun_mk (st := s_is_whole) l0 c0 k0, PySem.W.mg_of X G a0, (fun_mk (st := s_is_whole) l0 c0 k0).binds fun _ _ _ _ _ _ us hl => match us, hl with | [_], _ => rfl⟩
    F_compare := ⟨f1, _, fun_mk (st := s_compare) l1 c1 k1, PySem.W.mg_of X G a1, (fun_mk (st := s_compare) l1 c1 k1).binds fun _ _ _ _ _ _ us hl => match us, hl with | [_, _], _ => rfl⟩
    F_whole := ⟨f2, _, fun_mk (st := s_whole) l2 c2 k2, PySem.W.mg_of X G a2, (fun_mk (st := s_whole) l2 c2 k2).binds fun _ _ _ _ _ _ us hl => match us, hl with | [_], _ => rfl⟩
    F_raised := ⟨f3, _, (fun1_mk (st := s_raised) (i := 1) l3 c3 k3 lT3), PySem.W.mg_of X G a3, fun1_all (fun1_mk (st := s_raised) (i := 1) l3 c3 k3 lT3) rfl fun _ _ _ _ _ _ _ us its h1 h2 => match us, its, h1, h2 with | [_, _], [_], _, _ => ⟨_, rfl, rfl⟩, fun1_one (fun1_mk (st := s_raised) (i := 1) l3 c3 k3 lT3) rfl fun _ _ _ _ _ _ _ us its h1 h2 => match us, its, h1, h2 with | [_], [_], _, _ => ⟨_, rfl, rfl⟩⟩
    F_plus := ⟨f4, _, fun_mk (st := s_plus) l4 c4 k4, PySem.W.mg_of X G a4, (fun_mk (st := s_plus) l4 c4 k4).binds fun _ _ _ _ _ _ us hl => match us, hl with | [_, _], _ => rfl⟩
    F_minus := ⟨f5, _, fun_mk (st := s_minus) l5 c5 k5, PySem.W.mg_of X G a5, (fun_mk (st := s_minus) l5 c5 k5).binds fun _ _ _ _ _ _ us hl => match us, hl with | [_, _], _ => rfl⟩
    F_factors := ⟨f6, _, fun_mk (st := s_factors) l6 c6 k6, PySem.W.mg_of X G a6, (fun_mk (st := s_factors) l6 c6 k6).binds fun _ _ _ _ _ _ us hl => match us, hl with | [_], _ => rfl⟩
    F_l_cell_at := ⟨f7, _, fun_mk (st := s_l_cell_at) l7 c7 k7, PySem.W.mg_of X G a7, (fun_mk (st := s_l_cell_at) l7 c7 k7).binds fun _ _ _ _ _ _ us hl => match us, hl with | [_, _], _ => rfl⟩
    F_l_mixed := ⟨f8, _, fun_mk (st := s_l_mixed) l8 c8 k8, PySem.W.mg_of X G a8, (fun_mk (st := s_l_mixed) l8 c8 k8).binds fun _ _ _ _ _ _ us hl => match us, hl with | [_, _], _ => rfl⟩
    F_l_order := ⟨f9, _, fun_mk (st := s_l_order) l9 c9 k9, PySem.W.mg_of X G a9, (fun_mk (st := s_l_order) l9 c9 k9).binds fun _ _ _ _ _ _ us hl => match us, hl with | [_, _], _ => rfl⟩
    F_l_number := ⟨f10, _, fun_mk (st := s_l_number) l10 c10 k10, PySem.W.mg_of X G a10, (fun_mk (st := s_l_number) l10 c10 k10).binds fun _ _ _ _ _ _ us hl => match us, hl with | [_], _ => rfl⟩
    F_l_put := ⟨f11, _, fun_mk (st := s_l_put) l11 c11 k11, PySem.W.mg_of X G a11, (fun_mk (st := s_l_put) l11 c11 k11).binds fun _ _ _ _ _ _ us hl => match us, hl with | [_, _], _ => rfl⟩
    F_l_many := ⟨f12, _, fun_mk (st := s_l_many) l12 c12 k12, PySem.W.mg_of X G a12, (fun_mk (st := s_l_many) l12 c12 k12).binds fun _ _ _ _ _ _ us hl => match us, hl with | [_], _ => rfl⟩
    F_l_drawn := ⟨f13, _, fun_mk (st := s_l_drawn) l13 c13 k13, PySem.W.mg_of X G a13, (fun_mk (st := s_l_drawn) l13 c13 k13).binds fun _ _ _ _ _ _ us hl => match us, hl with | [_, _], _ => rfl⟩
    F_l_great := ⟨f14, _, fun_mk (st := s_l_great) l14 c14 k14, PySem.W.mg_of X G a14, (fun_mk (st := s_l_great) l14 c14 k14).binds fun _ _ _ _ _ _ us hl => match us, hl with | [_], _ => rfl⟩
    F_l_number_by := ⟨f15, _, fun_mk (st := s_l_number_by) l15 c15 k15, PySem.W.mg_of X G a15, (fun_mk (st := s_l_number_by) l15 c15 k15).binds fun _ _ _ _ _ _ us hl => match us, hl with | [_, _], _ => rfl⟩
    F_l_plus := ⟨f16, _, fun_mk (st := s_l_plus) l16 c16 k16, PySem.W.mg_of X G a16, (fun_mk (st := s_l_plus) l16 c16 k16).binds fun _ _ _ _ _ _ us hl => match us, hl with | [_, _], _ => rfl⟩
    F_l_product := ⟨f17, _, fun_mk (st := s_l_product) l17 c17 k17, PySem.W.mg_of X G a17, (fun_mk (st := s_l_product) l17 c17 k17).binds fun _ _ _ _ _ _ us hl => match us, hl with | [_, _], _ => rfl⟩
    F_l_refused := ⟨f18, _, fun_mk (st := s_l_refused) l18 c18 k18, PySem.W.mg_of X G a18, (fun_mk (st := s_l_refused) l18 c18 k18).binds fun _ _ _ _ _ _ us hl => match us, hl with | [], _ => rfl⟩
    F_l_walked := ⟨f19, _, fun_mk (st := s_l_walked) l19 c19 k19, PySem.W.mg_of X G a19, (fun_mk (st := s_l_walked) l19 c19 k19).binds fun _ _ _ _ _ _ us hl => match us, hl with | [_, _], _ => rfl⟩
    m_ValueError := PySem.W.mg_none_of X G z_ValueError
    m_bool := PySem.W.mg_none_of X G z_bool
    m_int := PySem.W.mg_none_of X G z_int
    m_isinstance := PySem.W.mg_none_of X G z_isinstance
    m_len := PySem.W.mg_none_of X G z_len
    m_list := PySem.W.mg_none_of X G z_list
    m_max := PySem.W.mg_none_of X G z_max
    m_min := PySem.W.mg_none_of X G z_min
    m_range := PySem.W.mg_none_of X G z_range
    m_sum := PySem.W.mg_none_of X G z_sum
    m_tuple := PySem.W.mg_none_of X G z_tuple
    m_zip := PySem.W.mg_none_of X G z_zip
    e_NoNumber := ⟨C_NoNumber, PySem.W.mg_of X G ac_NoNumber, xc_NoNumber, kc_NoNumber, sc_NoNumber, tc_NoNumber⟩
    e_Nought := ⟨C_Nought, PySem.W.mg_of X G ac_Nought, xc_Nought, kc_Nought, sc_Nought, tc_Nought⟩
    e_TooHigh := ⟨C_TooHigh, PySem.W.mg_of X G ac_TooHigh, xc_TooHigh, kc_TooHigh, sc_TooHigh, tc_TooHigh⟩
    yl_HydraError_NoNumber_Nought_TooHigh := (tryL_cons (PySem.W.mg_of X G ac_NoNumber) (PySem.W.mg_of X G ac_HydraError) sc_HydraError hc_HydraError tc_HydraError su_NoNumber_HydraError (tryL_cons (PySem.W.mg_of X G ac_Nought) (PySem.W.mg_of X G ac_HydraError) sc_HydraError hc_HydraError tc_HydraError su_Nought_HydraError (tryL_cons (PySem.W.mg_of X G ac_TooHigh) (PySem.W.mg_of X G ac_HydraError) sc_HydraError hc_HydraError tc_HydraError su_TooHigh_HydraError (tryL_nil (PySem.W.mg_of X G ac_HydraError)))))
    yl_Nought_NoNumber_Nought_TooHigh := (tryL_cons (PySem.W.mg_of X G ac_NoNumber) (PySem.W.mg_of X G ac_Nought) sc_Nought hc_Nought tc_Nought su_NoNumber_Nought (tryL_cons (PySem.W.mg_of X G ac_Nought) (PySem.W.mg_of X G ac_Nought) sc_Nought hc_Nought tc_Nought su_Nought_Nought (tryL_cons (PySem.W.mg_of X G ac_TooHigh) (PySem.W.mg_of X G ac_Nought) sc_Nought hc_Nought tc_Nought su_TooHigh_Nought (tryL_nil (PySem.W.mg_of X G ac_Nought)))))
    kl_ValueError_NoNumber_Nought_TooHigh := (kitL_cons (PySem.W.mg_of X G ac_NoNumber) ⟨ga_NoNumber, gg_NoNumber, sc_NoNumber, hc_NoNumber, gc_NoNumber, zget, ztak, mo_NoNumber⟩ (kitOne_ve sv_NoNumber) (kitL_cons (PySem.W.mg_of X G ac_Nought) ⟨ga_Nought, gg_Nought, sc_Nought, hc_Nought, gc_Nought, zget, ztak, mo_Nought⟩ (kitOne_ve sv_Nought) (kitL_cons (PySem.W.mg_of X G ac_TooHigh) ⟨ga_TooHigh, gg_TooHigh, sc_TooHigh, hc_TooHigh, gc_TooHigh, zget, ztak, mo_TooHigh⟩ (kitOne_ve sv_TooHigh) kitL_nil)))
  }
  exact ⟨_, fun s v => .of_eq rfl, fun base _ _ => law_ok T (fun_mk (st := s_law) l20 c20 k20) hl⟩
end
end Lk26
set_option Elab.async false
set_option linter.all false
set_option maxRecDepth 100000
set_option maxHeartbeats 4000000
namespace Lk26
open PySem PySem.Spec L2 Pu Nm O
theorem who (k : Nat) : WhoOk (sem (k + 1) 0) := is_whole_step (sem k)
theorem cmp0 : ∀ k, CmpOk k (sem k 1)
  | 0 => fun _ _ h => absurd h (Nat.not_lt_zero _)
  | k + 1 => compare_step (c0 := 1) (cmp0 k)
theorem rai (k : Nat) : RaiOk (sem (k + 2) 3) := raised_step (c0 := 0) (who k)
theorem whl (k : Nat) {n : Int} (hn : 0 ≤ n) : sem (k + 3) 2 [.int n] = .ok (enc (rzO .z n)) := whole_step (S := sem (k + 2)) (c0 := 3) (rai k) hn
theorem whl1 (k : Nat) {n : Int} (hn : 1 ≤ n) : sem (k + 3) 2 [.int n] = .ok (enc (.c .z n .z)) := by have := whl k (n := n) (by omega); unfold rzO at this; rw [if_neg (by omega)] at this; exact this
theorem pls (k : Nat) : PlusOk (k + 1) (sem (k + 1) 4) := plus_step (c0 := 1) (cmp0 k)
theorem mns (k : Nat) : MinOk k (sem (k + 1) 5) := minus_step (c0 := 1) (cmp0 k)
theorem fct : FacOk (sem 100 6) := factors_step (S := sem 99) (c0 := 2) (c1 := 5) (c2 := 4) (c3 := 3) (k := 98) (by decide) (fun n hn => whl1 96 hn) (mns 98) (fun a b h1 h2 h3 h4 h5 h6 => pls 98 a b h1 (by omega) h3 h4 h5 h6) (rai 97)
theorem fct' : sem 99 6 [.tuple []] = .err "Nought" := (factors_step (S := sem 98) (c0 := 2) (c1 := 5) (c2 := 4) (c3 := 3) (k := 97) (by decide) (fun n hn => whl1 95 hn) (mns 97) (fun a b h1 h2 h3 h4 h5 h6 => pls 97 a b h1 (by omega) h3 h4 h5 h6) (rai 96)).2
theorem cel (k : Nat) : CellOk (sem (k + 1) 7) := cell_at_step (sem k)
theorem mix (k : Nat) : MixOk (sem (k + 1) 8) := mixed_step (sem k)
theorem ord : ∀ k, CmpOk k (sem k 9)
  | 0 => fun _ _ h => absurd h (Nat.not_lt_zero _)
  | k + 1 => l_order_step (c0 := 9) (ord k)
theorem num : ∀ k, NumOk k (sem k 10)
  | 0 => fun _ _ h => absurd h (Nat.not_lt_zero _)
  | k + 1 => l_number_step (c0 := 10) (c1 := 9) (num k) (ord k)
theorem put (k : Nat) : PutOk k (sem (k + 1) 11) := l_put_step (c0 := 9) (ord k)
theorem man (k : Nat) : ManyOk (sem (k + 1) 12) := l_many_step (sem k)
theorem drw : ∀ k, DrawnOk k (sem (k + 40) 13)
  | 0 => fun _ _ h => absurd h (Nat.not_lt_zero _)
  | k + 1 => by
    have := l_drawn_step (S := sem (k + 40)) (c0 := 8) (c1 := 13) (c2 := 11) (c3 := 12) (k2 := k + 39) (by omega) (mix (k + 39)) (drw k) (put (k + 39)) (man (k + 39))
    rw [show k + 1 + 40 = (k + 40) + 1 by omega]
    exact this
theorem gre (k : Nat) : GreatOk (sem (k + 2) 14) := l_great_step (c0 := 8) (mix k)
theorem nby (k : Nat) (hk : 4 ≤ k) : NbyOk (sem (k + 41) 15) := l_number_by_step (S := sem (k + 40)) (c0 := 13) (c1 := 8) (c2 := 14) (k := k) hk (drw k) (mix (k + 39)) (gre (k + 38))
theorem lpl (k : Nat) : LPlusOk k (sem (k + 1) 16) := l_plus2_step (c0 := 9) (ord k)
theorem lpr (k : Nat) (hk : 9 ≤ k) : TimesG (sem (k + 2) 17) := l_product_step (S := sem (k + 1)) (c0 := 16) (lpl k) hk
theorem wkd : WkdOk (sem 100 19) := walked_step (S := sem 99) (c0 := 16) (k := 98) (by decide) (lpl 98)
theorem t1 : tabL [("NoNumber", false), ("Nought", true), ("TooHigh", false)] "Nought" = some true := by decide
theorem t2 : tabL [("NoNumber", true), ("Nought", true), ("TooHigh", true)] "Nought" = some true := by decide
theorem refused : sem 100 18 [] = .ok (.bool true) := by
  rw [sem_l_refused 99]
  refine fnD_of ?_
  have e1 := fct'
  generalize sem 99 = S at *
  unfold g_l_refused
  simp [e1, t1, t2]
theorem fw_q : ∀ {fs : List O} {m m' : O}, FW m fs m' → ∀ f ∈ fs, QF f
  | [], _, _, _, _, h => by cases h
  | x :: xs, _, _, w, f, h => by
    rcases List.mem_cons.mp h with h | h
    · rw [h]; exact w.2.1
    · exact fw_q w.2.2 f h
theorem mul_loop (s0 s1 s2 s3 s6 : Option PyData) : ∀ (fs : List O) (m m' : O) (x5 : Option PyData), FW m fs m' → ∃ y5, forL (gtName 5) (gb_law_1 (sem 100)) (fs.map enc) [s0, s1, s2, s3, some (enc m), x5, s6] = .nx [s0, s1, s2, s3, some (enc m'), y5, s6]
  | [], m, m', x5, w => ⟨x5, by cases w; rfl⟩
  | f :: fs, m, m', x5, w => by
    obtain ⟨w1, w2, w3⟩ := w
    have f1 := num 100 f w2.nf (by have := w2.h; omega) (by have := w2.s; omega)
    have T : TimesG (sem 100 17) := lpr 98 (by decide)
    have p1 := T.sz w1 w2 (by decide)
    obtain ⟨y5, e⟩ := mul_loop s0 s1 s2 s3 s6 fs (prodO m f) m' (some (enc f)) w3
    refine ⟨y5, ?_⟩
    rw [← e]
    have st : gb_law_1 (sem 100) [s0, s1, s2, s3, some (enc m), some (enc f), s6] = .nx [s0, s1, s2, s3, some (enc (prodO m f)), some (enc f), s6] := by
      generalize sem 100 = S at *
      simp [gb_law_1, mask, f1, p1]
    show (match gb_law_1 (sem 100) [s0, s1, s2, s3, some (enc m), some (enc f), s6] with
      | Out.nx ρ2 => forL (gtName 5) (gb_law_1 (sem 100)) (List.map enc fs) ρ2
      | Out.ct ρ2 => forL (gtName 5) (gb_law_1 (sem 100)) (List.map enc fs) ρ2
      | Out.bk ρ2 => Out.nx ρ2
      | Out.rt d => Out.rt d
      | Out.err cc ρ2 => Out.err cc ρ2
      | Out.bad => Out.bad) = _
    rw [st]
theorem turn {ns : List Int} (v : Int) (v0 : 0 ≤ v) (x2 x3 x4 x5 x6 : Option PyData) : ∃ y2 y3 y4 y5 y6, gb_law_2 (sem 100) [some (.list (ns.map .int)), some (.int v), x2, x3, x4, x5, x6] = .nx [some (.list (ns.map .int)), some (.int v), y2, y3, y4, y5, y6] := by
  obtain ⟨k0, e0⟩ := cel 99 ns v v0
  obtain ⟨k1, e1⟩ := cel 99 ns (v + 1) (by omega)
  obtain ⟨a0, ea, na⟩ := nby 59 (by decide) k0 k1
  have qa0 : QA' a0 := Sz.of_nb na
  have g1 := gEq_nil (a := a0) (by have := qa0.h; omega)
  have m3 : cMod k0 3 = true := cMod_of (by decide)
  obtain ⟨a, ha, qa, az⟩ : ∃ a, (if a0 = .z then O.c .z (1 + k0 % 3) .z else a0) = a ∧ QA' a ∧ a ≠ .z := by
    by_cases z : a0 = .z
    · exact ⟨_, if_pos z, (Sz.whole (C := 190) (M := 190) (by omega) (by omega) (Nat.le_refl _)).up (by decide) (by decide) (by decide) (by decide) (by decide) (by decide), fun h => O.noConfusion h⟩
    · exact ⟨_, if_neg z, qa0, z⟩
  have f := fct.1 a qa.nf az (by have := qa.h; omega) (by have := qa.s; omega)
  have w := fac_walk a qa
  rw [if_neg az] at w
  have hq := fw_q w
  have hw := wkd a qa.nf (by have := qa.h; omega) (by have := qa.s; omega)
  have gl := gNe_list (ps := facO a) (fun f hf => by have := (hq f hf).h; omega)
  have ga : gNe (enc a) (enc a) = some (.bool false) := by rw [gNe_enc (by have := qa.h; omega) (by have := qa.h; omega)]; simp
  have fl : (facO a).length < sizeLine := sz1000' (by have := facO_len a; have := qa.ll; omega)
  simp only [Nat.reduceAdd] at e0 e1 ea
  obtain ⟨y5, ml⟩ := mul_loop (some (.list (ns.map .int))) (some (.int v)) (some (enc a)) (some (.list ((facO a).map enc))) x6 (facO a) oneO a x5 w
  refine ⟨some (enc a), some (.list ((facO a).map enc ++ [.tuple []])), some (enc a), y5, some (.list ((facO a).map enc)), ?_⟩
  have st1 : (sSetM [3] 2 (eFn (sem 100 15) (aCons (eFn (sem 100 7) (aCons (eVar 0) (aCons (eVar 1) aNil))) (aCons (eFn (sem 100 7) (aCons (eVar 0) (aCons (eOp gAdd (eVar 1) (eC (.int 1))) aNil))) aNil)))) [some (.list (ns.map .int)), some (.int v), x2, x3, x4, x5, x6] = .nx [some (.list (ns.map .int)), some (.int v), some (enc a0), x3, x4, x5, x6] := by
    generalize sem 100 = S at *
    simp [mask, e0, e1, ea]
  have st2 : (sIf (tOf (eOp gEq (eVar 2) (eTup aNil))) (sSetM [3] 2 (eTup (aCons (eTup (aCons (eTup aNil) (aCons (eOp gAdd (eC (.int 1)) (eOp gMod (eFn (sem 100 7) (aCons (eVar 0) (aCons (eVar 1) aNil))) (eC (.int 3)))) aNil))) aNil))) sNil) [some (.list (ns.map .int)), some (.int v), some (enc a0), x3, x4, x5, x6] = .nx [some (.list (ns.map .int)), some (.int v), some (enc a), x3, x4, x5, x6] := by
    rw [← ha]
    by_cases z : a0 = .z
    · rw [decide_eq_true z] at g1
      rw [if_pos z, show enc (O.c .z (1 + k0 % 3) .z) = .tuple [.tuple [.tuple [], .int (1 + k0 % 3)]] from rfl]
      generalize sem 100 = S at *
      simp [mask, g1, e0, m3]
    · rw [decide_eq_false z] at g1
      rw [if_neg z]
      simp [g1]
  unfold gb_law_2
  rw [u_sSeq, st1, Out.then_nx, u_sSeq, st2, Out.then_nx]
  rw [show enc oneO = .tuple [.tuple [.tuple [], .int 1]] from rfl] at ml
  generalize sem 100 = S at *
  simp [mask, f, isiB, ml, fl, ga, hw, gl]
theorem law_true : ∀ ns : List Int, ns.length ≤ 63 → sem 101 20 [.list (ns.map .int)] = .ok (.bool true) := by
  intro ns hn
  rw [sem_law]
  refine fnD_of ?_
  obtain ⟨ρ', r1, y1, y2, y3, y4, y5, y6, rfl⟩ := law_loop (ns := ns) (g := gb_law_2 (sem 100)) (i := 1) (kI := 2) (MI := 50) 2 50 (fun ρ => ∃ y1 y2 y3 y4 y5 y6, ρ = [some (.list (ns.map .int)), y1, y2, y3, y4, y5, y6]) rfl rfl (by decide) (by decide) (by decide) [some (.list (ns.map .int)), none, none, none, none, none, none] rfl ⟨_, _, _, _, _, _, rfl⟩ fun v ρ v0 hi => by
    obtain ⟨y1, y2, y3, y4, y5, y6, rfl⟩ := hi
    obtain ⟨z2, z3, z4, z5, z6, e⟩ := turn (ns := ns) v v0 y2 y3 y4 y5 y6
    exact ⟨_, e, ⟨_, _, _, _, _, _, rfl⟩⟩
  have rf := refused
  generalize sem 100 = S at *
  unfold g_law
  rw [u_sSeq]
  have own : ∀ (fi : Vars → R (List PyData)) (g : Vars → Out) (x : Option PyData), (∀ ρ : Vars, fi (mask [3] [some (.list (ns.map .int)), none, none, none, none, none, none]) = fi (mask [] [some (.list (ns.map .int)), none, none, none, none, none, none])) → sFor [3] fi (gtName 1) g [some (.list (ns.map .int)), none, none, none, none, none, none] = sFor [] fi (gtName 1) g [some (.list (ns.map .int)), none, none, none, none, none, none] := fun fi g x h => by
    unfold sFor; rw [h []]
  have hms : mask [3] [some (.list (ns.map .int)), none, none, none, none, none, none] = mask [] [some (.list (ns.map .int)), none, none, none, none, none, none] := by simp [mask]
  show (sFor [3] _ (gtName 1) (gb_law_2 S) [some (.list (ns.map .int)), none, none, none, none, none, none]).then _ = _
  rw [own _ _ none (fun _ => by rw [hms]), r1]
  simp [rf]
end Lk26
open PySem PySem.W PyProof.Rows
set_option maxRecDepth 100000 in
set_option maxHeartbeats 0 in
theorem PySem.Challenge.cw_hydrahouse_k26_factors_holds : PySem.Challenge.rw_hydrahouse_k26_factors.Holds := by
  w_on; o_law; k_head; (case hw => w_witness2)
  k_fill
  refine Pu.walkL (l := PySem.Challenge.rw_hydrahouse_k26_factors) (k := 101) (x := "_law_script") rfl rfl ⟨rfl, by decide, by decide⟩ (fun w h Y => PySem.W.kIn_of Y) ?F
  case F =>
    intro w mg fa h KX G hmg
    refine' Lk26.all_mk KX G hmg ?a0 ?l0 ?c0 ?k0 ?a1 ?l1 ?c1 ?k1 ?a2 ?l2 ?c2 ?k2 ?a3 ?l3 ?c3 ?k3 ?a4 ?l4 ?c4 ?k4 ?a5 ?l5 ?c5 ?k5 ?a6 ?l6 ?c6 ?k6 ?a7 ?l7 ?c7 ?k7 ?a8 ?l8 ?c8 ?k8 ?a9 ?l9 ?c9 ?k9 ?a10 ?l10 ?c10 ?k10 ?a11 ?l11 ?c11 ?k11 ?a12 ?l12 ?c12 ?k12 ?a13 ?l13 ?c13 ?k13 ?a14 ?l14 ?c14 ?k14 ?a15 ?l15 ?c15 ?k15 ?a16 ?l16 ?c16 ?k16 ?a17 ?l17 ?c17 ?k17 ?a18 ?l18 ?c18 ?k18 ?a19 ?l19 ?c19 ?k19 ?a20 ?l20 ?c20 ?k20 ?z_ValueError ?z_bool ?z_int ?z_isinstance ?z_len ?z_list ?z_max ?z_min ?z_range ?z_sum ?z_tuple ?z_zip ?lT3 ?ac_HydraError ?sc_HydraError ?tc_HydraError ?hc_HydraError ?ac_NoNumber ?xc_NoNumber ?kc_NoNumber ?sc_NoNumber ?tc_NoNumber ?hc_NoNumber ?ac_Nought ?xc_Nought ?kc_Nought ?sc_Nought ?tc_Nought ?hc_Nought ?ac_TooHigh ?xc_TooHigh ?kc_TooHigh ?sc_TooHigh ?tc_TooHigh ?hc_TooHigh ?ga_NoNumber ?gg_NoNumber ?gc_NoNumber ?mo_NoNumber ?sv_NoNumber ?ga_Nought ?gg_Nought ?gc_Nought ?mo_Nought ?sv_Nought ?ga_TooHigh ?gg_TooHigh ?gc_TooHigh ?mo_TooHigh ?sv_TooHigh ?su_NoNumber_HydraError ?su_NoNumber_Nought ?su_Nought_HydraError ?su_Nought_Nought ?su_TooHigh_HydraError ?su_TooHigh_Nought ?zget ?ztak Lk26.law_true
    (case a0 => k_is); (case l0 => k_is); (case c0 => k_is); (case k0 => k_is)
    (case a1 => k_is); (case l1 => k_is); (case c1 => k_is); (case k1 => k_is)
    (case a2 => k_is); (case l2 => k_is); (case c2 => k_is); (case k2 => k_is)
    (case a3 => k_is); (case l3 => k_is); (case c3 => k_is); (case k3 => k_is)
    (case a4 => k_is); (case l4 => k_is); (case c4 => k_is); (case k4 => k_is)
    (case a5 => k_is); (case l5 => k_is); (case c5 => k_is); (case k5 => k_is)
    (case a6 => k_is); (case l6 => k_is); (case c6 => k_is); (case k6 => k_is)
    (case a7 => k_is); (case l7 => k_is); (case c7 => k_is); (case k7 => k_is)
    (case a8 => k_is); (case l8 => k_is); (case c8 => k_is); (case k8 => k_is)
    (case a9 => k_is); (case l9 => k_is); (case c9 => k_is); (case k9 => k_is)
    (case a10 => k_is); (case l10 => k_is); (case c10 => k_is); (case k10 => k_is)
    (case a11 => k_is); (case l11 => k_is); (case c11 => k_is); (case k11 => k_is)
    (case a12 => k_is); (case l12 => k_is); (case c12 => k_is); (case k12 => k_is)
    (case a13 => k_is); (case l13 => k_is); (case c13 => k_is); (case k13 => k_is)
    (case a14 => k_is); (case l14 => k_is); (case c14 => k_is); (case k14 => k_is)
    (case a15 => k_is); (case l15 => k_is); (case c15 => k_is); (case k15 => k_is)
    (case a16 => k_is); (case l16 => k_is); (case c16 => k_is); (case k16 => k_is)
    (case a17 => k_is); (case l17 => k_is); (case c17 => k_is); (case k17 => k_is)
    (case a18 => k_is); (case l18 => k_is); (case c18 => k_is); (case k18 => k_is)
    (case a19 => k_is); (case l19 => k_is); (case c19 => k_is); (case k19 => k_is)
    (case a20 => k_is); (case l20 => k_is); (case c20 => k_is); (case k20 => k_is)
    (case z_ValueError => k_is)
    (case z_bool => k_is)
    (case z_int => k_is)
    (case z_isinstance => k_is)
    (case z_len => k_is)
    (case z_list => k_is)
    (case z_max => k_is)
    (case z_min => k_is)
    (case z_range => k_is)
    (case z_sum => k_is)
    (case z_tuple => k_is)
    (case z_zip => k_is)
    (case lT3 => k_is)
    (case ac_HydraError => k_is)
    (case sc_HydraError => k_is)
    (case tc_HydraError => k_is)
    (case hc_HydraError => k_is)
    (case ac_NoNumber => k_is)
    (case xc_NoNumber => k_exc)
    (case kc_NoNumber => k_is)
    (case sc_NoNumber => k_is)
    (case tc_NoNumber => k_is)
    (case hc_NoNumber => k_is)
    (case ac_Nought => k_is)
    (case xc_Nought => k_exc)
    (case kc_Nought => k_is)
    (case sc_Nought => k_is)
    (case tc_Nought => k_is)
    (case hc_Nought => k_is)
    (case ac_TooHigh => k_is)
    (case xc_TooHigh => k_exc)
    (case kc_TooHigh => k_is)
    (case sc_TooHigh => k_is)
    (case tc_TooHigh => k_is)
    (case hc_TooHigh => k_is)
    (case ga_NoNumber => k_is)
    (case gg_NoNumber => k_is)
    (case gc_NoNumber => k_is)
    (case mo_NoNumber => k_is)
    (case sv_NoNumber => k_is)
    (case ga_Nought => k_is)
    (case gg_Nought => k_is)
    (case gc_Nought => k_is)
    (case mo_Nought => k_is)
    (case sv_Nought => k_is)
    (case ga_TooHigh => k_is)
    (case gg_TooHigh => k_is)
    (case gc_TooHigh => k_is)
    (case mo_TooHigh => k_is)
    (case sv_TooHigh => k_is)
    (case su_NoNumber_HydraError => k_is)
    (case su_NoNumber_Nought => k_is)
    (case su_Nought_HydraError => k_is)
    (case su_Nought_Nought => k_is)
    (case su_TooHigh_HydraError => k_is)
    (case su_TooHigh_Nought => k_is)
    (case zget => k_is)
    (case ztak => k_is)
