import PyProof.Rows.All
import Wide.All
import OpenK.AllK
import Wide.FinOn
import HandS.ForMost
import HandS.ForExc
import HandS.Zip
import HandS.Wide
import HandS.IsInst
import HandS.TupMul
import HandS.TupAny
import HandS.ExcIs
import HandS.Defaults
import KE.DataMinMax
import HandS.SortKw
import HandS.CallSlots
import HandS.Iter
import PyProof.Rows.ChunkLeaf
import HandS.TryOnly
import HandS.TryMany
import HandS.Rev
import HandS.EndBits
import HandS.More
import HandS.TupLe
import KE.GoesMore
import PySem.Challenge.RW_hydrahouse_k42_heads_and_points
set_option Elab.async false
set_option linter.all false
set_option maxRecDepth 100000
set_option maxHeartbeats 4000000
namespace Pu
open PySem PySem.Spec PyProof.Rows L2
/-- an answer by values: a value, an error by its class's name, nothing said -/
inductive R (α : Type) where
  | ok (a : α) | err (c : Str) | bad
def R.bind {α β : Type} (x : R α) (f : α → R β) : R β := match x with
  | .ok a => f a
  | .err c => .err c
  | .bad => .bad
@[simp] theorem R.bind_ok {α β : Type} (a : α) (f : α → R β) : R.bind (.ok a) f = f a := rfl
@[simp] theorem R.bind_err {α β : Type} (c : Str) (f : α → R β) : R.bind (.err c) f = .err c := rfl
@[simp] theorem R.bind_bad {α β : Type} (f : α → R β) : R.bind .bad f = .bad := rfl
/-- a value, or nothing said -/
def R.of {α : Type} : Option α → R α
  | some a => .ok a
  | none => .bad
@[simp] theorem R.of_some {α : Type} (a : α) : R.of (some a) = .ok a := rfl
@[simp] theorem R.of_none {α : Type} : R.of (none : Option α) = .bad := rfl
abbrev Vars := List (Option PyData)
/-! ### the heap without some objects -/
def hide (O : List Addr) (H : Hp) : Hp := fun a => if a ∈ O then none else H a
theorem hide_nil (H : Hp) : hide [] H = H := by
  funext a
  unfold hide
  rw [if_neg (by simp)]
theorem hide_some {O : List Addr} {H : Hp} {a : Addr} {o : HO} (h : hide O H a = some o) : a ∉ O ∧ H a = some o := by
  unfold hide at h
  by_cases c : a ∈ O
  · rw [if_pos c] at h; cases h
  · rw [if_neg c] at h; exact ⟨c, h⟩
theorem hide_of {O : List Addr} {H : Hp} {a : Addr} {o : HO} (c : a ∉ O) (h : H a = some o) : hide O H a = some o := by
  unfold hide
  rw [if_neg c]; exact h
theorem hide_same {O : List Addr} {H H' : Hp} (s : Same H H') : Same (hide O H) (hide O H') := fun a o h => by
  obtain ⟨c, e⟩ := hide_some h
  exact hide_of c (s a o e)
theorem hide_sub {O : List Addr} {H : Hp} : Same (hide O H) H := fun a o h => (hide_some h).2
theorem hide_less {O O' : List Addr} {H : Hp} (s : ∀ a ∈ O', a ∈ O) : Same (hide O H) (hide O' H) := fun a o h => by
  obtain ⟨c, e⟩ := hide_some h
  exact hide_of (fun z => c (s a z)) e
theorem same_new {H : Hp} {p : Addr} {o : HO} (h : H p = none) : Same H (upd H p o) := fun b u e => by
  rw [upd_ne (ne_of_none e h)]; exact e
/-- every hidden object stands -/
def Stands (O : List Addr) (H : Hp) : Prop := ∀ a ∈ O, H a ≠ none
theorem Stands.same {O : List Addr} {H H' : Hp} (h : Stands O H) (s : Same H H') : Stands O H' := fun a ha => by
  cases q : H a with
  | none => exact absurd q (h a ha)
  | some o => rw [s a o q]; exact fun z => nomatch z
theorem Stands.new {O : List Addr} {H : Hp} {p : Addr} (h : Stands O H) (n : H p = none) : p ∉ O := fun z => h p z n
theorem seqL {K : PySem.W.Frag} {H H' : Hp} {a : Addr} {xs : List V} (e : Same H H') (h : SqL K H a xs) : SqL K H' a xs := e.seq h
theorem seqT {K : PySem.W.Frag} {H H' : Hp} {a : Addr} {xs : List V} (e : Same H H') (h : SqT K H a xs) : SqT K H' a xs := by
  rcases h with (h | ⟨o, h⟩) | h
  · exact .inl (.inl (e _ _ h))
  · exact .inl (.inr ⟨o, e _ _ h⟩)
  · exact .inr h
/-! ### values stand for data -/
def kD : Key → PyData
  | .inl i => .int i
  | .inr x => .str x
mutual
inductive Rp (K : PySem.W.Frag) (H : Hp) : V → PyData → Prop
  | non : Rp K H .non .none
  | bl (b : Bool) : Rp K H (.bl b) (.bool b)
  | int (i : Int) : Rp K H (.int i) (.int i)
  | str (x : Str) : Rp K H (.str x) (.str x)
  | lst {a : Addr} {xs : List V} {ds : List PyData} : SqL K H a xs → Rps K H xs ds → Rp K H (.ref a) (.list ds)
  | tup {a : Addr} {xs : List V} {ds : List PyData} : SqT K H a xs → Rps K H xs ds → Rp K H (.ref a) (.tuple ds)
  | dic {a : Addr} {kvs : List (Key × V)} {ds : List (PyData × PyData)} : H a = some (.dK kvs) → Rpd K H kvs ds → Rp K H (.ref a) (.dict ds)
inductive Rps (K : PySem.W.Frag) (H : Hp) : List V → List PyData → Prop
  | nil : Rps K H [] []
  | cons {v : V} {vs : List V} {d : PyData} {ds : List PyData} : Rp K H v d → Rps K H vs ds → Rps K H (v :: vs) (d :: ds)
inductive Rpd (K : PySem.W.Frag) (H : Hp) : List (Key × V) → List (PyData × PyData) → Prop
  | nil : Rpd K H [] []
  | cons {k : Key} {v : V} {vs : List (Key × V)} {d : PyData} {ds : List (PyData × PyData)} : Rp K H v d → Rpd K H vs ds → Rpd K H ((k, v) :: vs) ((kD k, d) :: ds)
end
section
variable {K : PySem.W.Frag} {H H' : Hp}
mutual
theorem Rp.mono (s : Same H H') : ∀ {v : V} {d : PyData}, Rp K H v d → Rp K H' v d
  | _, _, .non => .non
  | _, _, .bl b => .bl b
  | _, _, .int i => .int i
  | _, _, .str x => .str x
  | _, _, .lst h r => .lst (seqL s h) (Rps.mono s r)
  | _, _, .tup h r => .tup (seqT s h) (Rps.mono s r)
  | _, _, .dic h r => .dic (s _ _ h) (Rpd.mono s r)
theorem Rps.mono (s : Same H H') : ∀ {vs : List V} {ds : List PyData}, Rps K H vs ds → Rps K H' vs ds
  | _, _, .nil => .nil
  | _, _, .cons h r => .cons (Rp.mono s h) (Rps.mono s r)
theorem Rpd.mono (s : Same H H') : ∀ {vs : List (Key × V)} {ds : List (PyData × PyData)}, Rpd K H vs ds → Rpd K H' vs ds
  | _, _, .nil => .nil
  | _, _, .cons h r => .cons (Rp.mono s h) (Rpd.mono s r)
end
theorem Rps.length : ∀ {vs : List V} {ds : List PyData}, Rps K H vs ds → vs.length = ds.length
  | _, _, .nil => rfl
  | _, _, .cons _ r => congrArg Nat.succ (Rps.length r)
theorem Rps.get : ∀ {vs : List V} {ds : List PyData} {i : Nat} {d : PyData}, Rps K H vs ds → ds[i]? = some d → ∃ v, vs[i]? = some v ∧ Rp K H v d
  | _, _, _, _, .nil, e => by simp at e
  | _, _, 0, _, .cons h _, e => by simp at e; subst e; exact ⟨_, rfl, h⟩
  | _, _, i + 1, _, .cons _ r, e => by
    obtain ⟨v, h1, h2⟩ := Rps.get (i := i) r (by simpa using e)
    exact ⟨v, by simpa using h1, h2⟩
theorem Rps.append : ∀ {vs ws : List V} {ds es : List PyData}, Rps K H vs ds → Rps K H ws es → Rps K H (vs ++ ws) (ds ++ es)
  | _, _, _, _, .nil, s => s
  | _, _, _, _, .cons h r, s => .cons h (Rps.append r s)
theorem Rps.take : ∀ {vs : List V} {ds : List PyData} (n : Nat), Rps K H vs ds → Rps K H (vs.take n) (ds.take n)
  | _, _, 0, _ => .nil
  | _, _, _ + 1, .nil => .nil
  | _, _, n + 1, .cons h r => .cons h (Rps.take n r)
theorem Rps.drop : ∀ {vs : List V} {ds : List PyData} (n : Nat), Rps K H vs ds → Rps K H (vs.drop n) (ds.drop n)
  | _, _, 0, r => r
  | _, _, _ + 1, .nil => .nil
  | _, _, n + 1, .cons _ r => Rps.drop n r
theorem Rps.reverse {vs : List V} {ds : List PyData} (h : Rps K H vs ds) : Rps K H vs.reverse ds.reverse := by
  have go : ∀ {vs : List V} {ds : List PyData}, Rps K H vs ds → Rps K H vs.reverse ds.reverse := by
    intro vs
    induction vs with
    | nil => intro ds h; cases h; exact .nil
    | cons v vs ih =>
      intro ds h
      cases h with
      | cons h r => rw [List.reverse_cons, List.reverse_cons]; exact Rps.append (ih r) (.cons h .nil)
  exact go h
theorem Rps.set : ∀ {vs : List V} {ds : List PyData} {v : V} {d : PyData} (i : Nat), Rps K H vs ds → Rp K H v d → Rps K H (vs.set i v) (ds.set i d)
  | _, _, _, _, _, .nil, _ => .nil
  | _, _, _, _, 0, .cons _ t, r => .cons r t
  | _, _, _, _, i + 1, .cons q t, r => .cons q (Rps.set i t r)
theorem Rps.rep {vs : List V} {ds : List PyData} (h : Rps K H vs ds) : ∀ k : Nat, Rps K H (List.replicate k vs).flatten (List.replicate k ds).flatten
  | 0 => .nil
  | k + 1 => by
    rw [List.replicate_succ, List.replicate_succ, List.flatten_cons, List.flatten_cons]
    exact Rps.append h (Rps.rep h k)
/-- ints -/
theorem Rps.ints : ∀ {vs : List V} {ns : List Int}, Rps K H vs (ns.map PyData.int) → vs = ns.map V.int
  | _, [], h => by cases h; rfl
  | _, n :: ns, h => by
    cases h with
    | cons h r =>
      cases h
      rw [Rps.ints r]; rfl
theorem Rps.ofInts : ∀ (ns : List Int), Rps K H (ns.map V.int) (ns.map PyData.int)
  | [] => .nil
  | n :: ns => .cons (.int n) (Rps.ofInts ns)
/-! data without lists and dicts never change -/
mutual
def imm : PyData → Bool
  | .none | .bool _ | .int _ | .str _ => true
  | .tuple xs => imms xs
  | .list _ | .dict _ => false
def imms : List PyData → Bool
  | [] => true
  | x :: xs => imm x && imms xs
end
mutual
theorem Rp.imm (s : ∀ a xs, SqT K H a xs → SqT K H' a xs) : ∀ {d : PyData} {v : V}, Rp K H v d → imm d = true → Rp K H' v d
  | .none, _, h, _ => by cases h; exact .non
  | .bool _, _, h, _ => by cases h; exact .bl _
  | .int _, _, h, _ => by cases h; exact .int _
  | .str _, _, h, _ => by cases h; exact .str _
  | .tuple ds, _, h, e => by
    cases h with
    | tup q r => exact .tup (s _ _ q) (Rps.imm s r (by simpa [Pu.imm] using e))
  | .list _, _, _, e => by simp [Pu.imm] at e
  | .dict _, _, _, e => by simp [Pu.imm] at e
theorem Rps.imm (s : ∀ a xs, SqT K H a xs → SqT K H' a xs) : ∀ {ds : List PyData} {vs : List V}, Rps K H vs ds → imms ds = true → Rps K H' vs ds
  | [], _, h, _ => by cases h; exact .nil
  | d :: ds, _, h, e => by
    cases h with
    | cons h r =>
      have e' : Pu.imm d = true ∧ imms ds = true := by simpa [imms] using e
      exact .cons (Rp.imm s h e'.1) (Rps.imm s r e'.2)
end
/-! as the library's data -/
mutual
theorem Rp.dp : ∀ {d : PyData} {v : V}, Rp K H v d → d.canLay0 = true → Same H H' → Dp K H' v d
  | .none, _, h, _, _ => by cases h; exact .non
  | .bool _, _, h, _, _ => by cases h; exact .bl _
  | .int _, _, h, _, _ => by cases h; exact .int _
  | .str _, _, h, _, _ => by cases h; exact .str _
  | .tuple ds, _, h, e, s => by
    cases h with
    | tup q r => exact .tup (seqT s q) (Rps.dp r (by simpa [PyData.canLay0] using e) s)
  | .list ds, _, h, e, s => by
    cases h with
    | lst q r => exact .lst (seqL s q) (Rps.dp r (by simpa [PyData.canLay0] using e) s)
  | .dict _, _, _, e, _ => by simp [PyData.canLay0] at e
theorem Rps.dp : ∀ {ds : List PyData} {vs : List V}, Rps K H vs ds → PyData.canLayAll0 ds = true → Same H H' → DpAll K H' vs ds
  | [], _, h, _, _ => by cases h; exact .nil
  | d :: ds, _, h, e, s => by
    cases h with
    | cons h r =>
      have e' : d.canLay0 = true ∧ PyData.canLayAll0 ds = true := by simpa [PyData.canLayAll0] using e
      exact .cons (Rp.dp h e'.1 s) (Rps.dp r e'.2 s)
end
end
/-! ### the variables -/
structure VRel (K : PySem.W.Frag) (F : Hp) (σ : L2.St) (ρ : Vars) : Prop where
  len : σ.length = ρ.length
  get : ∀ (i : Nat) (d : PyData), ρ[i]? = some (some d) → ∃ v, σ[i]? = some (some v) ∧ Rp K F v d
theorem VRel.mono {K : PySem.W.Frag} {F F' : Hp} {σ : L2.St} {ρ : Vars} (h : VRel K F σ ρ) (s : Same F F') : VRel K F' σ ρ := ⟨h.len, fun i d e => by
  obtain ⟨v, h1, h2⟩ := h.get i d e
  exact ⟨v, h1, h2.mono s⟩⟩
theorem VRel.set {K : PySem.W.Frag} {F : Hp} {σ : L2.St} {ρ : Vars} {i : Nat} {v : V} {d : PyData} (h : VRel K F σ ρ) (r : Rp K F v d) : VRel K F (σ.set i (some v)) (ρ.set i (some d)) := ⟨by simpa using h.len, fun j e q => by
  have hl := h.len
  by_cases c : i = j
  · subst c
    by_cases hi : i < ρ.length
    · rw [List.getElem?_set_self hi] at q
      cases q
      exact ⟨v, List.getElem?_set_self (by omega), r⟩
    · rw [List.getElem?_eq_none (by simpa using hi)] at q; cases q
  · rw [List.getElem?_set_ne c] at q
    obtain ⟨w, h1, h2⟩ := h.get j e q
    exact ⟨w, by rw [List.getElem?_set_ne c]; exact h1, h2⟩⟩
/-! ### expressions -/
/-- the class object of an own error -/
def exV (mg : Str → Option Value) (c : Str) : Value := (mg c).getD .none
section
variable (X : Cx) (W : WX)
def EOut (O : List Addr) (σ : L2.St) (H : Hp) (Q : VK) : R PyData → Prop
  | .ok d => ∀ v H', Same H H' → Rp X.K (hide O H') v d → Q v H'
  | .err c => ∀ H', Same H H' → W (exV X.mg c) none σ H'
  | .bad => False
def AOut (O : List Addr) (σ : L2.St) (H : Hp) (Q : List V → Hp → Prop) : R (List PyData) → Prop
  | .ok ds => ∀ vs H', Same H H' → Rps X.K (hide O H') vs ds → Q vs H'
  | .err c => ∀ H', Same H H' → W (exV X.mg c) none σ H'
  | .bad => False
def TOut (σ : L2.St) (H : Hp) (Q : Bool → Hp → Prop) : R Bool → Prop
  | .ok b => ∀ H', Same H H' → Q b H'
  | .err c => ∀ H', Same H H' → W (exV X.mg c) none σ H'
  | .bad => False
def EX (e : Expr) (f : Vars → R PyData) : Prop :=
  ∃ t, PE X e t ∧ ∀ σ H O ρ Q, Stands O H → VRel X.K (hide O H) σ ρ → EOut X W O σ H Q (f ρ) → t σ H Q
def AX (es : List Expr) (f : Vars → R (List PyData)) : Prop :=
  ∃ t, PA X es t ∧ ∀ σ H O ρ Q, Stands O H → VRel X.K (hide O H) σ ρ → AOut X W O σ H Q (f ρ) → t σ H Q
def TX (e : Expr) (f : Vars → R Bool) : Prop :=
  ∃ t, PT X e t ∧ ∀ σ H O ρ Q, Stands O H → VRel X.K (hide O H) σ ρ → TOut X W σ H Q (f ρ) → t σ H Q
/-- parts of 'and', 'or' -/
def WX' (e : Expr) (f : Vars → R Bool) : Prop :=
  ∃ t, PW X e t ∧ ∀ σ H O ρ Q, Stands O H → VRel X.K (hide O H) σ ρ → TOut X W σ H Q (f ρ) → t σ H Q
def OX (e : Option Expr) (f : Vars → R (Option Int)) : Prop :=
  ∃ t, PO X e t ∧ ∀ σ H O ρ (Q : Option Int → Hp → Prop), Stands O H → VRel X.K (hide O H) σ ρ →
    (match f ρ with
      | .ok o => ∀ H', Same H H' → Q o H'
      | .err c => ∀ H', Same H H' → W (exV X.mg c) none σ H'
      | .bad => False) → t σ H Q
end
section
variable (X : Cx) (W : WX)
def tE (f : Vars → R PyData) : TE := fun σ H Q => ∃ O ρ, Stands O H ∧ VRel X.K (hide O H) σ ρ ∧ EOut X W O σ H Q (f ρ)
def tT (f : Vars → R Bool) : TT := fun σ H Q => ∃ O ρ, Stands O H ∧ VRel X.K (hide O H) σ ρ ∧ TOut X W σ H Q (f ρ)
end
theorem EX.pe {X : Cx} {W : WX} {e : Expr} {f : Vars → R PyData} (h : EX X W e f) : PE X e (tE X W f) := by
  obtain ⟨t, p, ht⟩ := h
  exact ⟨fun pins s σ H Q I ⟨O, ρ, h1, h2, h3⟩ => p.run pins s σ H Q I (ht σ H O ρ Q h1 h2 h3)⟩
theorem TX.pt {X : Cx} {W : WX} {e : Expr} {f : Vars → R Bool} (h : TX X W e f) : PT X e (tT X W f) := by
  obtain ⟨t, p, ht⟩ := h
  exact ⟨fun pins s σ H Q I ⟨O, ρ, h1, h2, h3⟩ => p.run pins s σ H Q I (ht σ H O ρ Q h1 h2 h3)⟩
section
variable {X : Cx} {W : WX}
theorem EOut.from {O : List Addr} {σ : L2.St} {H H1 : Hp} {Q : VK} {r : R PyData} (h : EOut X W O σ H Q r) (s : Same H H1) : EOut X W O σ H1 Q r := by
  cases r with
  | ok d => exact fun v H' s' r => h v H' (s.trans s') r
  | err c => exact fun H' s' => h H' (s.trans s')
  | bad => exact h
theorem AOut.from {O : List Addr} {σ : L2.St} {H H1 : Hp} {Q : List V → Hp → Prop} {r : R (List PyData)} (h : AOut X W O σ H Q r) (s : Same H H1) : AOut X W O σ H1 Q r := by
  cases r with
  | ok d => exact fun v H' s' r => h v H' (s.trans s') r
  | err c => exact fun H' s' => h H' (s.trans s')
  | bad => exact h
theorem TOut.from {σ : L2.St} {H H1 : Hp} {Q : Bool → Hp → Prop} {r : R Bool} (h : TOut X W σ H Q r) (s : Same H H1) : TOut X W σ H1 Q r := by
  cases r with
  | ok d => exact fun H' s' => h H' (s.trans s')
  | err c => exact fun H' s' => h H' (s.trans s')
  | bad => exact h
/-- a value first, then the rest -/
theorem EOut.then {O : List Addr} {σ : L2.St} {H : Hp} {r : R PyData} {β : Type} {g : PyData → R β} {P : R β → Prop} {Q : VK} (hb : P .bad → False) (he : ∀ c, P (.err c) → ∀ H', Same H H' → W (exV X.mg c) none σ H')
    (h : P (r.bind g)) (k : ∀ d v H', Same H H' → Rp X.K (hide O H') v d → P (g d) → Q v H') : EOut X W O σ H Q r := by
  cases r with
  | ok d => exact fun v H' s r => k d v H' s r h
  | err c => exact he c h
  | bad => exact hb h
theorem TOut.then {σ : L2.St} {H : Hp} {r : R Bool} {β : Type} {g : Bool → R β} {P : R β → Prop} {Q : Bool → Hp → Prop} (hb : P .bad → False) (he : ∀ c, P (.err c) → ∀ H', Same H H' → W (exV X.mg c) none σ H')
    (h : P (r.bind g)) (k : ∀ d H', Same H H' → P (g d) → Q d H') : TOut X W σ H Q r := by
  cases r with
  | ok d => exact fun H' s => k d H' s h
  | err c => exact he c h
  | bad => exact hb h
theorem AOut.then {O : List Addr} {σ : L2.St} {H : Hp} {r : R (List PyData)} {β : Type} {g : List PyData → R β} {P : R β → Prop} {Q : List V → Hp → Prop} (hb : P .bad → False) (he : ∀ c, P (.err c) → ∀ H', Same H H' → W (exV X.mg c) none σ H')
    (h : P (r.bind g)) (k : ∀ d v H', Same H H' → Rps X.K (hide O H') v d → P (g d) → Q v H') : AOut X W O σ H Q r := by
  cases r with
  | ok d => exact fun v H' s r => k d v H' s r h
  | err c => exact he c h
  | bad => exact hb h
/-- the two first premises of the rules above, where P is the wish at the end -/
theorem EOut.b {O : List Addr} {σ : L2.St} {H : Hp} {Q : VK} : EOut X W O σ H Q .bad → False := fun z => z
theorem EOut.e {O : List Addr} {σ : L2.St} {H : Hp} {Q : VK} (c : Str) : EOut X W O σ H Q (.err c) → ∀ H', Same H H' → W (exV X.mg c) none σ H' := fun z => z
theorem AOut.b {O : List Addr} {σ : L2.St} {H : Hp} {Q : List V → Hp → Prop} : AOut X W O σ H Q .bad → False := fun z => z
theorem AOut.e {O : List Addr} {σ : L2.St} {H : Hp} {Q : List V → Hp → Prop} (c : Str) : AOut X W O σ H Q (.err c) → ∀ H', Same H H' → W (exV X.mg c) none σ H' := fun z => z
theorem TOut.b {σ : L2.St} {H : Hp} {Q : Bool → Hp → Prop} : TOut X W σ H Q .bad → False := fun z => z
theorem TOut.e {σ : L2.St} {H : Hp} {Q : Bool → Hp → Prop} (c : Str) : TOut X W σ H Q (.err c) → ∀ H', Same H H' → W (exV X.mg c) none σ H' := fun z => z
/-! names and constants -/
def eVar (i : Nat) (ρ : Vars) : R PyData := R.of (ρ.getD i none)
theorem ex_var (i : Nat) {x : Str} {pos : Pos} (hN : X.N[i]? = some x := by rfl) (hv : Vis X.env.scope x := by first | exact Or.inl rfl | exact Or.inr (Or.inl rfl) | exact Or.inr (Or.inr rfl)) (hd : (x == ("__debug__" : Str)) = false := by decide)
    (hcd : (x == ("__classdict__" : Str)) = false := by decide) : EX X W (.Name x pos) (eVar i) := by
  refine ⟨_, pe_var hN hv hd hcd, fun σ H O ρ Q hO h q => ?_⟩
  unfold eVar at q
  rw [List.getD_eq_getElem?_getD] at q
  cases e : ρ[i]? with
  | none => rw [e] at q; exact q.elim
  | some o =>
    cases o with
    | none => rw [e] at q; exact q.elim
    | some d =>
      rw [e] at q
      obtain ⟨v, h1, h2⟩ := h.get i d e
      exact ⟨v, h1, q v H (Same.refl H) h2⟩
def eC (d : PyData) (_ : Vars) : R PyData := .ok d
theorem ex_c {e : Expr} {v : V} {d : PyData} (h : PE X e (tC v)) (r : ∀ H, Rp X.K H v d) : EX X W e (eC d) :=
  ⟨_, h, fun σ H O ρ Q _ _ q => q v H (Same.refl H) (r _)⟩
theorem ex_int {i j pos} : EX X W (.Constant (.int i) j pos) (eC (.int i)) := ex_c pe_int fun _ => .int i
theorem ex_bl {i j pos} : EX X W (.Constant (.bool i) j pos) (eC (.bool i)) := ex_c pe_bl fun _ => .bl i
theorem ex_non {j pos} : EX X W (.Constant .none j pos) (eC .none) := ex_c pe_non fun _ => .non
theorem ex_str {i j pos} : EX X W (.Constant (.str i) j pos) (eC (.str i)) := ex_c pe_str fun _ => .str i
theorem ex_globI {x : Str} {i : Int} {t : Tok} {pos : Pos} (hg : Gl X x) (hm : X.mg x = some (.int i t)) (hd : (x == ("__debug__" : Str)) = false := by decide) : EX X W (.Name x pos) (eC (.int i)) := ex_c (pe_glob (v := .int i) hg hm ⟨t, rfl⟩ hd) fun _ => .int i
theorem ex_globS {x : Str} {i : Str} {t : Tok} {pos : Pos} (hg : Gl X x) (hm : X.mg x = some (.str i t)) (hd : (x == ("__debug__" : Str)) = false := by decide) : EX X W (.Name x pos) (eC (.str i)) := ex_c (pe_glob (v := .str i) hg hm ⟨t, rfl⟩ hd) fun _ => .str i
/-! arguments -/
def aNil (_ : Vars) : R (List PyData) := .ok []
def aCons (f : Vars → R PyData) (g : Vars → R (List PyData)) (ρ : Vars) : R (List PyData) := (f ρ).bind fun d => (g ρ).bind fun ds => .ok (d :: ds)
theorem ax_nil : AX X W [] aNil := ⟨_, pa_nil, fun σ H O ρ Q _ _ q => q [] H (Same.refl H) .nil⟩
theorem ax_cons {e : Expr} {es : List Expr} {f : Vars → R PyData} {g : Vars → R (List PyData)} (h : EX X W e f) (k : AX X W es g) (hs : starEach (e :: es) X.env = (false, eval e X.env) :: starEach es X.env := by rfl) : AX X W (e :: es) (aCons f g) := by
  obtain ⟨t, p, ht⟩ := h
  obtain ⟨u, q, hu⟩ := k
  refine ⟨_, pa_cons p q hs, fun σ H O ρ Q hO hr z => ht σ H O ρ _ hO hr (EOut.then (g := fun d => (g ρ).bind fun ds => .ok (d :: ds)) AOut.b AOut.e z fun d v H1 s1 r1 z1 => ?_)⟩
  refine hu σ H1 O ρ _ (hO.same s1) (hr.mono (hide_same s1)) (AOut.then (g := fun ds => .ok (d :: ds)) AOut.b AOut.e (z1.from s1) fun ds vs H2 s2 r2 z2 => ?_)
  exact z2 (v :: vs) H2 s2 (.cons (r1.mono (hide_same s2)) r2)
/-- a tuple, a list of written items -/
def eTup (f : Vars → R (List PyData)) (ρ : Vars) : R PyData := (f ρ).bind fun ds => if ds.length ≤ sizeLine then .ok (.tuple ds) else .bad
def eLst (f : Vars → R (List PyData)) (ρ : Vars) : R PyData := (f ρ).bind fun ds => if ds.length ≤ sizeLine then .ok (.list ds) else .bad
theorem AOut.from' {O : List Addr} {σ : L2.St} {H H1 : Hp} {Q : VK} {r : R PyData} (h : EOut X W O σ H Q r) (s : Same H H1) : EOut X W O σ H1 Q r := h.from s
/-- a new object -/
theorem new_rep {K : PySem.W.Frag} {O : List Addr} {H : Hp} {p : Addr} {vs : List V} {ds : List PyData} (hO : Stands O H) (hp : H p = none) (r : Rps K (hide O H) vs ds) : Rp K (hide O (upd H p (.tup vs))) (.ref p) (.tuple ds) :=
  .tup (.inl (.inl (hide_of (hO.new hp) upd_same))) (r.mono (hide_same (same_new hp)))
theorem new_repL {K : PySem.W.Frag} {O : List Addr} {H : Hp} {p : Addr} {vs : List V} {ds : List PyData} (hO : Stands O H) (hp : H p = none) (r : Rps K (hide O H) vs ds) : Rp K (hide O (upd H p (.lst vs))) (.ref p) (.list ds) :=
  .lst (.inl (.inl (hide_of (hO.new hp) upd_same))) (r.mono (hide_same (same_new hp)))
theorem ex_tup {es : List Expr} {f : Vars → R (List PyData)} {k : Nat} {pos : Pos} (h : AX X W es f) : EX X W (.Tuple es k pos) (eTup f) := by
  obtain ⟨t, p, ht⟩ := h
  refine ⟨_, pe_tup p, fun σ H O ρ Q hO hr z => ht σ H O ρ _ hO hr (AOut.then EOut.b EOut.e z fun ds vs H1 s1 r1 z1 => ?_)⟩
  by_cases c : ds.length ≤ sizeLine
  · rw [if_pos c] at z1
    exact ⟨by rw [r1.length]; exact c, fun p hp => z1 _ _ (s1.trans (same_new hp)) (new_rep (hO.same s1) hp r1)⟩
  · rw [if_neg c] at z1; exact z1.elim
theorem ex_lst {es : List Expr} {f : Vars → R (List PyData)} {pos : Pos} (h : AX X W es f) : EX X W (.List es pos) (eLst f) := by
  obtain ⟨t, p, ht⟩ := h
  refine ⟨_, pe_lst p, fun σ H O ρ Q hO hr z => ht σ H O ρ _ hO hr (AOut.then EOut.b EOut.e z fun ds vs H1 s1 r1 z1 => ?_)⟩
  by_cases c : ds.length ≤ sizeLine
  · rw [if_pos c] at z1
    exact ⟨by rw [r1.length]; exact c, fun p hp => z1 _ _ (s1.trans (same_new hp)) (new_repL (hO.same s1) hp r1)⟩
  · rw [if_neg c] at z1; exact z1.elim
/-! ### operators by data -/
/-- an operator's reading answers by data, o: nothing said -/
def Op2 (K : PySem.W.Frag) (r : R2) (g : PyData → PyData → Option PyData) : Prop :=
  ∀ (H : Hp) (O : List Addr) (x y : V) (d e : PyData) (z : PyData) (Q : VK), Stands O H → Rp K (hide O H) x d → Rp K (hide O H) y e → g d e = some z → (∀ v H', Same H H' → Rp K (hide O H') v z → Q v H') → r x y H Q
def eOp (g : PyData → PyData → Option PyData) (f h : Vars → R PyData) (ρ : Vars) : R PyData := (f ρ).bind fun d => (h ρ).bind fun e => R.of (g d e)
theorem op_run {r : R2} {g : PyData → PyData → Option PyData} (ho : Op2 X.K r g) {ta tb : TE} {f h : Vars → R PyData}
    (ha : ∀ σ H O ρ Q, Stands O H → VRel X.K (hide O H) σ ρ → EOut X W O σ H Q (f ρ) → ta σ H Q) (hb : ∀ σ H O ρ Q, Stands O H → VRel X.K (hide O H) σ ρ → EOut X W O σ H Q (h ρ) → tb σ H Q) :
    ∀ σ H O ρ Q, Stands O H → VRel X.K (hide O H) σ ρ → EOut X W O σ H Q (eOp g f h ρ) → tOp r ta tb σ H Q := fun σ H O ρ Q hO hr z =>
  ha σ H O ρ _ hO hr (EOut.then (g := fun d => (h ρ).bind fun e => R.of (g d e)) EOut.b EOut.e z fun d v H1 s1 r1 z1 =>
    hb σ H1 O ρ _ (hO.same s1) (hr.mono (hide_same s1)) (EOut.then (g := fun e => R.of (g d e)) EOut.b EOut.e (z1.from s1) fun e v2 H2 s2 r2 z2 => by
      cases q : g d e with
      | none => rw [q] at z2; exact z2.elim
      | some w =>
        rw [q] at z2
        exact ho H2 O v v2 d e w Q ((hO.same s1).same s2) (r1.mono (hide_same s2)) r2 q fun v' H' s' r' => z2 v' H' (s2.trans s') r'))
theorem ex_op {op : Operator} {r : R2} {g : PyData → PyData → Option PyData} {a b : Expr} {f h : Vars → R PyData} {pos : Pos} (hr : OpR X (binaryOp op) r) (ho : Op2 X.K r g) (ha : EX X W a f) (hb : EX X W b h) : EX X W (.BinOp a op b pos) (eOp g f h) := by
  obtain ⟨ta, p, hta⟩ := ha
  obtain ⟨tb, q, htb⟩ := hb
  exact ⟨_, pe_op hr p q, op_run ho hta htb⟩
theorem ex_cmp {op : CmpOp} {r : R2} {g : PyData → PyData → Option PyData} {a b : Expr} {f h : Vars → R PyData} {pos : Pos} (hr : OpR X (compareOp op) r) (ho : Op2 X.K r g) (ha : EX X W a f) (hb : EX X W b h) (hm : behindInMarks op b = false) : EX X W (.Compare a [op] [b] pos) (eOp g f h) := by
  obtain ⟨ta, p, hta⟩ := ha
  obtain ⟨tb, q, htb⟩ := hb
  exact ⟨_, pe_cmpR hr p q hm, op_run ho hta htb⟩
theorem ex_ix {r : R2} {g : PyData → PyData → Option PyData} {a b : Expr} {f h : Vars → R PyData} {pos : Pos} (hr : IxR X r) (ho : Op2 X.K r g) (ha : EX X W a f) (hb : EX X W b h) (hs : PlainIx b) : EX X W (.Subscript a b pos) (eOp g f h) := by
  obtain ⟨ta, p, hta⟩ := ha
  obtain ⟨tb, q, htb⟩ := hb
  exact ⟨_, pe_ix hr p q hs, op_run ho hta htb⟩
/-- a value as a test: a bool -/
def tOf (f : Vars → R PyData) (ρ : Vars) : R Bool := (f ρ).bind fun d => match d with
  | .bool b => .ok b
  | _ => .bad
theorem tx_cmp {op : CmpOp} {r : R2} {g : PyData → PyData → Option PyData} {a b : Expr} {f h : Vars → R PyData} {pos : Pos} (hr : OpR X (compareOp op) r) (ho : Op2 X.K r g) (ha : EX X W a f) (hb : EX X W b h) (hm : behindInMarks op b = false) : TX X W (.Compare a [op] [b] pos) (tOf (eOp g f h)) := by
  obtain ⟨ta, p, hta⟩ := ha
  obtain ⟨tb, q, htb⟩ := hb
  refine ⟨_, pt_cmpR hr p q hm, fun σ H O ρ Q hO hv z => op_run ho hta htb σ H O ρ _ hO hv (EOut.then TOut.b TOut.e z fun d v H1 s1 r1 z1 => ?_)⟩
  cases r1 with
  | bl b => exact ⟨b, rfl, z1 H1 s1⟩
  | _ => exact z1.elim
/-- by the value's truth -/
def truD : PyData → Option Bool
  | .none => some false
  | .bool b => some b
  | .int i => some (i != 0)
  | .str x => if x.length ≤ sizeLine then some ((x.length : Int) != 0) else none
  | .list xs => some (!xs.isEmpty)
  | .tuple xs => some (!xs.isEmpty)
  | .dict _ => none
def tTru (f : Vars → R PyData) (ρ : Vars) : R Bool := (f ρ).bind fun d => R.of (truD d)
theorem Rps.isEmpty {K : PySem.W.Frag} {H : Hp} {vs : List V} {ds : List PyData} (r : Rps K H vs ds) : vs.isEmpty = ds.isEmpty := by
  cases r <;> rfl
theorem truV_of {K : PySem.W.Frag} {H : Hp} {v : V} {d : PyData} {b : Bool} (r : Rp K H v d) (e : truD d = some b) {H' : Hp} (s : Same H H') : TruV K v H' b := by
  cases r with
  | non => cases e; rfl
  | bl _ => cases e; rfl
  | int _ => cases e; rfl
  | str x =>
    unfold truD at e
    dsimp only at e
    by_cases c : x.length ≤ sizeLine
    · rw [if_pos c] at e; cases e; exact ⟨c, rfl⟩
    · rw [if_neg c] at e; cases e
  | lst h r => cases e; exact .inl ⟨_, seqL s h, by rw [r.isEmpty]⟩
  | tup h r => cases e; exact .inr (.inl ⟨_, seqT s h, by rw [r.isEmpty]⟩)
  | dic _ _ => cases e
theorem tx_tru {a : Expr} {f : Vars → R PyData} (h : EX X W a f) (he : ∀ whole, isTrue a X.env whole = (do let v ← whole; standAt a.pos; holding [v] (truthy v)) := by intro _; rfl) : TX X W a (tTru f) := by
  obtain ⟨t, p, ht⟩ := h
  refine ⟨_, pt_truth p he, fun σ H O ρ Q hO hv z => ht σ H O ρ _ hO hv (EOut.then TOut.b TOut.e z fun d v H1 s1 r1 z1 => ?_)⟩
  cases q : truD d with
  | none => rw [q] at z1; exact z1.elim
  | some b =>
    rw [q] at z1
    exact ⟨b, truV_of r1 q hide_sub, z1 H1 s1⟩
/-! and, or, not as tests -/
def tNotR (f : Vars → R Bool) (ρ : Vars) : R Bool := (f ρ).bind fun b => .ok (!b)
def tAndR (f g : Vars → R Bool) (ρ : Vars) : R Bool := (f ρ).bind fun b => if b = true then g ρ else .ok false
def tOrR (f g : Vars → R Bool) (ρ : Vars) : R Bool := (f ρ).bind fun b => if b = true then .ok true else g ρ
theorem tx_not {a : Expr} {f : Vars → R Bool} {pos : Pos} (h : TX X W a f) : TX X W (.UnaryOp .Not a pos) (tNotR f) := by
  obtain ⟨t, p, ht⟩ := h
  exact ⟨_, pt_not p, fun σ H O ρ Q hO hv z => ht σ H O ρ _ hO hv (TOut.then TOut.b TOut.e z fun d H1 s1 z1 => z1 H1 s1)⟩
theorem wx_and1 {a : Expr} {f : Vars → R Bool} {pos : Pos} (h : TX X W a f) : WX' X W (.BoolOp .And [a] pos) f := by
  obtain ⟨t, p, ht⟩ := h
  exact ⟨_, pw_and1 p, ht⟩
theorem wx_or1 {a : Expr} {f : Vars → R Bool} {pos : Pos} (h : TX X W a f) : WX' X W (.BoolOp .Or [a] pos) f := by
  obtain ⟨t, p, ht⟩ := h
  exact ⟨_, pw_or1 p, ht⟩
theorem wx_and {a b : Expr} {rest : List Expr} {f g : Vars → R Bool} {pos : Pos} (h : TX X W a f) (k : WX' X W (.BoolOp .And (b :: rest) pos) g) : WX' X W (.BoolOp .And (a :: b :: rest) pos) (tAndR f g) := by
  obtain ⟨t, p, ht⟩ := h
  obtain ⟨u, q, hu⟩ := k
  refine ⟨_, pw_and p q, fun σ H O ρ Q hO hv z => ht σ H O ρ _ hO hv (TOut.then (g := fun b => if b = true then g ρ else .ok false) TOut.b TOut.e z fun d H1 s1 z1 => ?_)⟩
  cases d with
  | true => exact hu σ H1 O ρ Q (hO.same s1) (hv.mono (hide_same s1)) (z1.from s1)
  | false => exact z1 H1 s1
theorem wx_or {a b : Expr} {rest : List Expr} {f g : Vars → R Bool} {pos : Pos} (h : TX X W a f) (k : WX' X W (.BoolOp .Or (b :: rest) pos) g) : WX' X W (.BoolOp .Or (a :: b :: rest) pos) (tOrR f g) := by
  obtain ⟨t, p, ht⟩ := h
  obtain ⟨u, q, hu⟩ := k
  refine ⟨_, pw_or p q, fun σ H O ρ Q hO hv z => ht σ H O ρ _ hO hv (TOut.then (g := fun b => if b = true then .ok true else g ρ) TOut.b TOut.e z fun d H1 s1 z1 => ?_)⟩
  cases d with
  | true => exact z1 H1 s1
  | false => exact hu σ H1 O ρ Q (hO.same s1) (hv.mono (hide_same s1)) (z1.from s1)
theorem WX'.tx {e : Expr} {f : Vars → R Bool} (h : WX' X W e f) : TX X W e f := by
  obtain ⟨t, p, ht⟩ := h
  exact ⟨_, p.pt, ht⟩
/-! .. as values -/
def eAnd (f g : Vars → R PyData) (ρ : Vars) : R PyData := (tOf f ρ).bind fun b => if b = true then g ρ else .ok (.bool false)
def eOr (f g : Vars → R PyData) (ρ : Vars) : R PyData := (tOf f ρ).bind fun b => if b = true then .ok (.bool true) else g ρ
def eNot (f : Vars → R PyData) (ρ : Vars) : R PyData := (tOf f ρ).bind fun b => .ok (.bool (!b))
theorem tOf_run {f : Vars → R PyData} {t : TE} (ht : ∀ σ H O ρ Q, Stands O H → VRel X.K (hide O H) σ ρ → EOut X W O σ H Q (f ρ) → t σ H Q) {σ : L2.St} {H : Hp} {O : List Addr} {ρ : Vars} {Q : VK} {β : Type} {g : Bool → R β} {P : R β → Prop} (hO : Stands O H) (hv : VRel X.K (hide O H) σ ρ)
    (hb : P .bad → False) (he : ∀ c, P (.err c) → ∀ H', Same H H' → W (exV X.mg c) none σ H') (z : P ((tOf f ρ).bind g)) (k : ∀ b H', Same H H' → P (g b) → Q (.bl b) H') : t σ H Q := by
  refine ht σ H O ρ _ hO hv ?_
  unfold tOf at z
  cases q : f ρ with
  | bad => rw [q] at z; exact hb z
  | err c => rw [q] at z; exact he c z
  | ok d =>
    rw [q] at z
    refine fun v H1 s1 r1 => ?_
    cases r1 with
    | bl b => exact k b H1 s1 z
    | _ => exact (hb z).elim
theorem ex_one {op} {a : Expr} {f : Vars → R PyData} {pos : Pos} (h : EX X W a f) : EX X W (.BoolOp op [a] pos) f := by
  obtain ⟨t, p, ht⟩ := h
  exact ⟨_, pe_one p, ht⟩
theorem ex_and {a b : Expr} {rest : List Expr} {f g : Vars → R PyData} {pos : Pos} (h : EX X W a f) (k : EX X W (.BoolOp .And (b :: rest) pos) g) : EX X W (.BoolOp .And (a :: b :: rest) pos) (eAnd f g) := by
  obtain ⟨t, p, ht⟩ := h
  obtain ⟨u, q, hu⟩ := k
  refine ⟨_, pe_and p q, fun σ H O ρ Q hO hv z => tOf_run (g := fun b => if b = true then g ρ else .ok (.bool false)) ht hO hv EOut.b EOut.e z fun b H1 s1 z1 => ⟨b, rfl, ?_⟩⟩
  cases b with
  | true => exact hu σ H1 O ρ Q (hO.same s1) (hv.mono (hide_same s1)) (z1.from s1)
  | false => exact z1 _ H1 s1 (.bl false)
theorem ex_or {a b : Expr} {rest : List Expr} {f g : Vars → R PyData} {pos : Pos} (h : EX X W a f) (k : EX X W (.BoolOp .Or (b :: rest) pos) g) : EX X W (.BoolOp .Or (a :: b :: rest) pos) (eOr f g) := by
  obtain ⟨t, p, ht⟩ := h
  obtain ⟨u, q, hu⟩ := k
  refine ⟨_, pe_or p q, fun σ H O ρ Q hO hv z => tOf_run (g := fun b => if b = true then .ok (.bool true) else g ρ) ht hO hv EOut.b EOut.e z fun b H1 s1 z1 => ⟨b, rfl, ?_⟩⟩
  cases b with
  | true => exact z1 _ H1 s1 (.bl true)
  | false => exact hu σ H1 O ρ Q (hO.same s1) (hv.mono (hide_same s1)) (z1.from s1)
theorem ex_not {a : Expr} {f : Vars → R PyData} {pos : Pos} (h : EX X W a f) : EX X W (.UnaryOp .Not a pos) (eNot f) := by
  obtain ⟨t, p, ht⟩ := h
  exact ⟨_, pe_not p, fun σ H O ρ Q hO hv z => tOf_run (g := fun b => .ok (.bool (!b))) ht hO hv EOut.b EOut.e z fun b H1 s1 z1 => ⟨b, rfl, z1 _ H1 s1 (.bl _)⟩⟩
def eIf (c : Vars → R Bool) (f g : Vars → R PyData) (ρ : Vars) : R PyData := (c ρ).bind fun b => if b = true then f ρ else g ρ
theorem ex_if {c a b : Expr} {h : Vars → R Bool} {f g : Vars → R PyData} {pos : Pos} (hc : TX X W c h) (ha : EX X W a f) (hb : EX X W b g) : EX X W (.IfExp c a b pos) (eIf h f g) := by
  obtain ⟨t, p, ht⟩ := hc
  obtain ⟨ta, pa, hta⟩ := ha
  obtain ⟨tb, pb, htb⟩ := hb
  refine ⟨_, pe_ifExp p pa pb, fun σ H O ρ Q hO hv z => ht σ H O ρ _ hO hv (TOut.then (g := fun b => if b = true then f ρ else g ρ) EOut.b EOut.e z fun d H1 s1 z1 => ?_)⟩
  cases d with
  | true => exact hta σ H1 O ρ Q (hO.same s1) (hv.mono (hide_same s1)) (z1.from s1)
  | false => exact htb σ H1 O ρ Q (hO.same s1) (hv.mono (hide_same s1)) (z1.from s1)
end
end Pu
set_option Elab.async false
set_option linter.all false
set_option maxRecDepth 100000
set_option maxHeartbeats 4000000
namespace Pu
open PySem PySem.Spec PyProof.Rows L2
/-! ### the operators -/
theorem int_sub_bool_bool (a b : Bool) : Gives (Builtin.«int.__sub__» ⟨[.bool a, .bool b], []⟩) (.int ((if a = true then (1 : Int) else 0) - (if b = true then (1 : Int) else 0))) :=
  .of_wp fun M A E s Q h => by obtain ⟨hp, g, d, tk, os⟩ := s; wp_walk; exact ⟨_, rfl, h⟩
theorem sub_bb {prog : Program} {w : World} {A : Around} {E : Value → Shared → Prop} {s : Shared} {a b : Bool} {Q : Value → Shared → Prop}
    (h : Q (.int ((if a = true then (1 : Int) else 0) - (if b = true then (1 : Int) else 0)) s.toks) { s with toks := s.toks + 1 }) : wpAny (model prog w) A (binaryOp .Sub (.bool a) (.bool b)) Q E s :=
  binaryOp_gives (op := .Sub) (T := "bool") rfl rfl F.fills_bool_sub F.slot_bool_sub F.entry_int_sub (F.args_int_sub_2 _ _) (int_sub_bool_bool a b) trivial h
section
variable {X : Cx}
def rSubB : R2 := fun x y H Q => ∃ a b, x = .bl a ∧ y = .bl b ∧ Q (.int ((if a = true then (1 : Int) else 0) - (if b = true then (1 : Int) else 0))) H
theorem op_subB : OpR X (binaryOp .Sub) rSubB := by
  intro pins s σ H x y v u Q I rx ry h
  obtain ⟨a, b, rfl, rfl, q⟩ := h
  cases rx
  cases ry
  exact sub_bb ⟨.int _, H, I.tok _, ⟨_, rfl⟩, q⟩
/-- list + list, read only -/
def rCatL (K : PySem.W.Frag) : R2 := fun x y H Q => ∃ l b xs zs, x = .ref l ∧ y = .ref b ∧ SqL K H l xs ∧ SqL K H b zs ∧ xs.length + zs.length ≤ sizeLine ∧ ∀ p, H p = none → Q (.ref p) (upd H p (.lst (xs ++ zs)))
theorem plain_get {h : Heap} {a : Addr} {its : Array Value} (p : PlainL h a its) : ∃ (n : Nat) (sl : Array (Option Value)), h.get? a = some { cls := .type "list", data := .seq its n, slots := sl } := by
  obtain ⟨⟨c, d, dt, sl⟩, n, e, hc, hd, hs⟩ := p
  simp only at hc hd hs
  subst hc hd hs
  exact ⟨n, sl, e⟩
end
theorem op_catL {X : Cx} : OpR X (binaryOp .Add) (rCatL X.K) := by
  intro pins s σ H x y v u Q I rx ry h
  obtain ⟨l, b, xs, zs, rfl, rfl, hH, hB, hz, q⟩ := h
  cases rx
  cases ry
  obtain ⟨its, r, pl, hl⟩ := I.list hH
  obtain ⟨its2, r2, pl2, hl2⟩ := I.list hB
  obtain ⟨n, sl, e⟩ := plain_get pl
  obtain ⟨n2, sl2, e2⟩ := plain_get pl2
  have l1 := r.length
  have l2 := r2.length
  refine concat_meets ⟨_, e, rfl⟩ ⟨_, e2, rfl⟩ noFill_list_add seq_list_add PySem.F.slot_list_add PySem.F.entry_list_add (PySem.F.args_list_add_2 _ _)
    (PyProof.Rows.list_addW l b its.toArray its2.toArray n n2 none none sl sl2 (by rw [List.size_toArray, List.size_toArray]; omega)) ⟨e, e2, ?_⟩
  have ea : its.toArray ++ its2.toArray = (its ++ its2).toArray := by simp
  rw [ea]
  exact ⟨.ref _, _, I.lnew (t' := s.toks) (r.append r2) (by rw [List.length_append]; omega), rfl, q _ I.fresh⟩
/-- the sum -/
def gAdd : PyData → PyData → Option PyData
  | .int i, .int j => some (.int (i + j))
  | .tuple xs, .tuple ys => if xs.length + ys.length ≤ sizeLine then some (.tuple (xs ++ ys)) else none
  | .list xs, .list ys => if xs.length + ys.length ≤ sizeLine then some (.list (xs ++ ys)) else none
  | .str x, .str y => if x.length + y.length ≤ sizeLine then some (.str (x ++ y)) else none
  | _, _ => none
abbrev rAddD (K : PySem.W.Frag) : R2 := fun x y H Q => (∃ i j, x = .int i ∧ y = .int j ∧ Q (.int (i + j)) H) ∨ rCatA K x y H Q ∨ (∃ i j, x = .str i ∧ y = .str j ∧ i.length + j.length ≤ sizeLine ∧ Q (.str (i ++ j)) H) ∨ rCatL K x y H Q
theorem opr_add {X : Cx} : OpR X (binaryOp .Add) (rAddD X.K) := op_add.or (op_catA.or (op_add_str.or op_catL))
theorem rps_nil {K : PySem.W.Frag} {H : Hp} {xs : List V} {ds : List PyData} (r : Rps K H xs ds) : xs = [] ↔ ds = [] := by
  constructor
  · intro e; subst e; cases r; rfl
  · intro e; subst e; cases r; rfl
theorem op2_add {K : PySem.W.Frag} : Op2 K (rAddD K) gAdd := by
  intro H O x y d e z Q hO rx ry h q
  cases rx with
  | int i =>
    cases ry with
    | int j => cases h; exact .inl ⟨i, j, rfl, rfl, q _ H (Same.refl H) (.int _)⟩
    | _ => cases h
  | str i =>
    cases ry with
    | str j =>
      unfold gAdd at h
      dsimp only at h
      by_cases c : i.length + j.length ≤ sizeLine
      · rw [if_pos c] at h; cases h
        exact .inr (.inr (.inl ⟨i, j, rfl, rfl, c, q _ H (Same.refl H) (.str _)⟩))
      · rw [if_neg c] at h; cases h
    | _ => cases h
  | @tup a xs ds hx rs =>
    cases ry with
    | @tup b ys es hy rt =>
      unfold gAdd at h
      dsimp only at h
      by_cases c : ds.length + es.length ≤ sizeLine
      · rw [if_pos c] at h; cases h
        have hx' := seqT (hide_sub (O := O)) hx
        have hy' := seqT (hide_sub (O := O)) hy
        refine .inr (.inl ⟨a, b, xs, ys, rfl, rfl, hx', hy', by rw [rs.length, rt.length]; exact c, fun n => ?_, fun n n2 => ?_, fun n n2 p hp => ?_⟩)
        · have : ds = [] := (rps_nil rs).mp n
          subst this
          exact q _ H (Same.refl H) (.tup hy rt)
        · have : es = [] := (rps_nil rt).mp n2
          subst this
          rw [List.append_nil] at q
          exact q _ H (Same.refl H) (.tup hx rs)
        · exact q _ _ (same_new hp) (new_rep hO hp (rs.append rt))
      · rw [if_neg c] at h; cases h
    | _ => cases h
  | @lst a xs ds hx rs =>
    cases ry with
    | @lst b ys es hy rt =>
      unfold gAdd at h
      dsimp only at h
      by_cases c : ds.length + es.length ≤ sizeLine
      · rw [if_pos c] at h; cases h
        exact .inr (.inr (.inr ⟨a, b, xs, ys, rfl, rfl, seqL hide_sub hx, seqL hide_sub hy, by rw [rs.length, rt.length]; exact c, fun p hp => q _ _ (same_new hp) (new_repL hO hp (rs.append rt))⟩))
      · rw [if_neg c] at h; cases h
    | _ => cases h
  | _ => cases h
def gSub : PyData → PyData → Option PyData
  | .int i, .int j => some (.int (i - j))
  | .bool a, .bool b => some (.int ((if a = true then (1 : Int) else 0) - (if b = true then (1 : Int) else 0)))
  | _, _ => none
abbrev rSubD : R2 := fun x y H Q => (∃ i j, x = .int i ∧ y = .int j ∧ Q (.int (i - j)) H) ∨ rSubB x y H Q
theorem opr_sub {X : Cx} : OpR X (binaryOp .Sub) rSubD := op_sub.or op_subB
theorem op2_sub {K : PySem.W.Frag} : Op2 K rSubD gSub := by
  intro H O x y d e z Q hO rx ry h q
  cases rx with
  | int i =>
    cases ry with
    | int j => cases h; exact .inl ⟨i, j, rfl, rfl, q _ H (Same.refl H) (.int _)⟩
    | _ => cases h
  | bl i =>
    cases ry with
    | bl j => cases h; exact .inr ⟨i, j, rfl, rfl, q _ H (Same.refl H) (.int _)⟩
    | _ => cases h
  | _ => cases h
/-- an operator of two ints under a condition -/
def gInt (C : Int → Int → Bool) (g : Int → Int → PyData) : PyData → PyData → Option PyData
  | .int i, .int j => if C i j = true then some (g i j) else none
  | _, _ => none
theorem op2_int {K : PySem.W.Frag} {P : Int → Int → Prop} {C : Int → Int → Bool} {g : Int → Int → PyData} {gv : Int → Int → V} (hc : ∀ i j, C i j = true → P i j) (hg : ∀ H i j, Rp K H (gv i j) (g i j)) : Op2 K (rI P gv) (gInt C g) := by
  intro H O x y d e z Q hO rx ry h q
  cases rx with
  | int i =>
    cases ry with
    | int j =>
      unfold gInt at h
      dsimp only at h
      by_cases c : C i j = true
      · rw [if_pos c] at h; cases h
        exact ⟨i, j, rfl, rfl, hc i j c, q _ H (Same.refl H) (hg _ i j)⟩
      · rw [if_neg c] at h; cases h
    | _ => cases h
  | _ => cases h
def cMul (i j : Int) : Bool := decide (i.natAbs.log2 + j.natAbs.log2 < 1000000)
def cDiv (_ j : Int) : Bool := decide (0 < j) && decide (j.natAbs.log2 < 9000)
def cMod (_ j : Int) : Bool := decide (0 < j)
def cPow (i j : Int) : Bool := decide (0 ≤ j) && decide (j ≤ 1000000) && decide (i.natAbs < 2 ^ 64)
abbrev gMul := gInt cMul fun i j => .int (i * j)
abbrev gDiv := gInt cDiv fun i j => .int (i / j)
abbrev gMod := gInt cMod fun i j => .int (i % j)
abbrev gPow := gInt cPow fun i j => .int (i ^ j.toNat)
theorem op2_mul {K : PySem.W.Frag} : Op2 K (rI CMulW fun i j => .int (i * j)) gMul := op2_int (fun i j h => (of_decide_eq_true h : i.natAbs.log2 + j.natAbs.log2 < 1000000)) fun _ _ _ => .int _
theorem op2_div {K : PySem.W.Frag} : Op2 K (rI CDivW fun i j => .int (i / j)) gDiv := op2_int (fun _ _ h => by unfold cDiv at h; rw [Bool.and_eq_true] at h; exact ⟨of_decide_eq_true h.1, of_decide_eq_true h.2⟩) fun _ _ _ => .int _
theorem op2_mod {K : PySem.W.Frag} : Op2 K (rI (fun _ j => 0 < j) fun i j => .int (i % j)) gMod := op2_int (fun _ _ h => of_decide_eq_true h) fun _ _ _ => .int _
theorem op2_pow {K : PySem.W.Frag} : Op2 K (rI CPow fun i j => .int (i ^ j.toNat)) gPow := op2_int (fun _ _ h => by
  unfold cPow at h; rw [Bool.and_eq_true, Bool.and_eq_true] at h; exact ⟨of_decide_eq_true h.1.1, of_decide_eq_true h.1.2, of_decide_eq_true h.2⟩) fun _ _ _ => .int _
/-- a comparison of two ints -/
def gCmp (p : Int → Int → Bool) : PyData → PyData → Option PyData
  | .int i, .int j => some (.bool (p i j))
  | _, _ => none
theorem op2_cmp {K : PySem.W.Frag} {p : Int → Int → Bool} : Op2 K (rI0 fun i j => .bl (p i j)) (gCmp p) := by
  intro H O x y d e z Q hO rx ry h q
  cases rx with
  | int i =>
    cases ry with
    | int j => cases h; exact ⟨i, j, rfl, rfl, q _ H (Same.refl H) (.bl _)⟩
    | _ => cases h
  | _ => cases h
abbrev gLt := gCmp fun i j => decide (i < j)
abbrev gLe := gCmp fun i j => decide (i ≤ j)
abbrev gGt := gCmp fun i j => decide (j < i)
abbrev gGe := gCmp fun i j => decide (j ≤ i)
/-- == by data -/
def gEq (d e : PyData) : Option PyData := if (SeqAt.shaped d && SeqAt.shaped e) = true then some (.bool (PyData.eqv d e)) else none
def gNe (d e : PyData) : Option PyData := if (SeqAt.shaped d && SeqAt.shaped e) = true then some (.bool (!PyData.eqv d e)) else none
theorem op2_eq {K : PySem.W.Frag} : Op2 K (rEqD K) gEq := by
  intro H O x y d e z Q hO rx ry h q
  unfold gEq at h
  by_cases c : (SeqAt.shaped d && SeqAt.shaped e) = true
  · rw [if_pos c] at h; cases h
    rw [Bool.and_eq_true] at c
    exact ⟨d, e, rx.dp (SeqAt.canLay_of_shaped c.1) hide_sub, ry.dp (SeqAt.canLay_of_shaped c.2) hide_sub, c.1, c.2, q _ H (Same.refl H) (.bl _)⟩
  · rw [if_neg c] at h; cases h
theorem op2_ne {K : PySem.W.Frag} : Op2 K (rNeD K) gNe := by
  intro H O x y d e z Q hO rx ry h q
  unfold gNe at h
  by_cases c : (SeqAt.shaped d && SeqAt.shaped e) = true
  · rw [if_pos c] at h; cases h
    rw [Bool.and_eq_true] at c
    exact ⟨d, e, rx.dp (SeqAt.canLay_of_shaped c.1) hide_sub, ry.dp (SeqAt.canLay_of_shaped c.2) hide_sub, c.1, c.2, q _ H (Same.refl H) (.bl _)⟩
  · rw [if_neg c] at h; cases h
/-- is None -/
def isN : PyData → Bool
  | .none => true
  | _ => false
def gIsN (d e : PyData) : Option PyData := if isN e = true then some (.bool (isN d)) else none
def gNotN (d e : PyData) : Option PyData := if isN e = true then some (.bool (!isN d)) else none
theorem isN_rp {K : PySem.W.Frag} {H : Hp} {x : V} {d : PyData} (r : Rp K H x d) : decide (x = .non) = isN d := by
  cases r <;> simp [isN]
theorem op2_isN {K : PySem.W.Frag} : Op2 K (fun x y H Q => y = .non ∧ Q (.bl (decide (x = .non))) H) gIsN := by
  intro H O x y d e z Q hO rx ry h q
  unfold gIsN at h
  cases ry with
  | non =>
    cases h
    rw [isN_rp rx]
    exact ⟨rfl, q _ H (Same.refl H) (.bl _)⟩
  | _ => cases h
theorem op2_notN {K : PySem.W.Frag} : Op2 K (fun x y H Q => y = .non ∧ Q (.bl (!decide (x = .non))) H) gNotN := by
  intro H O x y d e z Q hO rx ry h q
  unfold gNotN at h
  cases ry with
  | non =>
    cases h
    rw [isN_rp rx]
    exact ⟨rfl, q _ H (Same.refl H) (.bl _)⟩
  | _ => cases h
/-- an item by its place -/
def gIx : PyData → PyData → Option PyData
  | .tuple xs, .int i => atI xs i
  | .list xs, .int i => atI xs i
  | .str x, .int i => if x.length ≤ sizeLine then (atI x.cps.toList i).map fun c => .str ⟨#[c]⟩ else none
  | _, _ => none
theorem atI_rps {K : PySem.W.Frag} {H : Hp} {xs : List V} {ds : List PyData} {i : Int} {d : PyData} (r : Rps K H xs ds) (h : atI ds i = some d) : ∃ v, atI xs i = some v ∧ Rp K H v d := by
  unfold atI at h ⊢
  rw [r.length]
  cases e : ixN ds.length i with
  | none => rw [e] at h; cases h
  | some j =>
    rw [e] at h
    exact r.get (i := j) h
theorem op2_ix {K : PySem.W.Frag} : Op2 K (rIx K) gIx := by
  intro H O x y d e z Q hO rx ry h q
  cases rx with
  | @tup a xs ds hx rs =>
    cases ry with
    | int i =>
      obtain ⟨v, h1, h2⟩ := atI_rps rs (show atI ds i = some z from h)
      exact .inr (.inl ⟨a, xs, i, v, rfl, rfl, seqT hide_sub hx, h1, q v H (Same.refl H) h2⟩)
    | _ => cases h
  | @lst a xs ds hx rs =>
    cases ry with
    | int i =>
      obtain ⟨v, h1, h2⟩ := atI_rps rs (show atI ds i = some z from h)
      exact .inl ⟨a, xs, i, v, rfl, rfl, seqL hide_sub hx, h1, q v H (Same.refl H) h2⟩
    | _ => cases h
  | str x =>
    cases ry with
    | int i =>
      unfold gIx at h
      dsimp only at h
      by_cases c : x.length ≤ sizeLine
      · rw [if_pos c] at h
        cases e : atI x.cps.toList i with
        | none => rw [e] at h; cases h
        | some k =>
          rw [e] at h
          cases h
          exact .inr (.inr ⟨x, i, k, rfl, rfl, c, e, q _ H (Same.refl H) (.str _)⟩)
      · rw [if_neg c] at h; cases h
    | _ => cases h
  | _ => cases h
/-! ### slices -/
def cutD {α : Type} (xs : List α) (lo hi : Option Int) : List α := (xs.drop (HT.sIx xs.length 0 lo)).take (HT.sIx xs.length xs.length hi - HT.sIx xs.length 0 lo)
def gSl : PyData → Option Int → Option Int → Option PyData
  | .tuple xs, lo, hi => some (.tuple (cutD xs lo hi))
  | .list xs, lo, hi => some (.list (cutD xs lo hi))
  | _, _, _ => none
theorem rps_cut {K : PySem.W.Frag} {H : Hp} {xs : List V} {ds : List PyData} {lo hi : Option Int} (r : Rps K H xs ds) : Rps K H (cutV xs lo hi) (cutD ds lo hi) := by
  unfold cutV cutD
  rw [r.length]
  exact (r.drop _).take _
theorem cut_whole {α : Type} {xs : List α} {lo hi : Option Int} (h : HT.sIx xs.length 0 lo = 0 ∧ HT.sIx xs.length xs.length hi = xs.length) : cutD xs lo hi = xs := by
  unfold cutD
  rw [h.1, h.2]
  simp
section
variable {X : Cx} {W : WX}
def eSl (f : Vars → R PyData) (g h : Vars → R (Option Int)) (ρ : Vars) : R PyData := (f ρ).bind fun d => (g ρ).bind fun l => (h ρ).bind fun u => R.of (gSl d l u)
def oNone (_ : Vars) : R (Option Int) := .ok none
def oSome (f : Vars → R PyData) (ρ : Vars) : R (Option Int) := (f ρ).bind fun d => match d with
  | .int i => .ok (some i)
  | _ => .bad
theorem ox_none : OX X W none oNone := ⟨_, po_none, fun σ H O ρ Q _ _ q => q H (Same.refl H)⟩
theorem ox_some {e : Expr} {f : Vars → R PyData} (h : EX X W e f) : OX X W (some e) (oSome f) := by
  obtain ⟨t, p, ht⟩ := h
  refine ⟨_, po_some p, fun σ H O ρ Q hO hv z => ht σ H O ρ _ hO hv ?_⟩
  unfold oSome at z
  cases q : f ρ with
  | bad => rw [q] at z; exact z
  | err c => rw [q] at z; exact z
  | ok d =>
    rw [q] at z
    intro v H1 s1 r1
    cases r1 with
    | int i => exact ⟨i, rfl, z H1 s1⟩
    | _ => exact z.elim
theorem ex_slice {e : Expr} {lo hi : Option Expr} {f : Vars → R PyData} {g h : Vars → R (Option Int)} {p2 pos : Pos} (he : EX X W e f) (hl : OX X W lo g) (hu : OX X W hi h) : EX X W (.Subscript e (.Slice lo hi none p2) pos) (eSl f g h) := by
  obtain ⟨t, p, ht⟩ := he
  obtain ⟨tl, pl, htl⟩ := hl
  obtain ⟨tu, pu, htu⟩ := hu
  refine ⟨_, pe_slice (sl_tupA.or sl_list) p pl pu, fun σ H O ρ Q hO hv z => ht σ H O ρ _ hO hv (EOut.then (g := fun d => (g ρ).bind fun l => (h ρ).bind fun u => R.of (gSl d l u)) EOut.b EOut.e z fun d v H1 s1 r1 z1 => ?_)⟩
  refine htl σ H1 O ρ _ (hO.same s1) (hv.mono (hide_same s1)) ?_
  cases q1 : g ρ with
  | bad => rw [q1] at z1; exact z1.elim
  | err c => rw [q1] at z1; exact fun H2 s2 => z1 H2 (s1.trans s2)
  | ok l =>
    rw [q1] at z1
    intro H2 s2
    refine htu σ H2 O ρ _ ((hO.same s1).same s2) (hv.mono (hide_same (s1.trans s2))) ?_
    cases q2 : h ρ with
    | bad => rw [q2] at z1; exact z1.elim
    | err c => rw [q2] at z1; exact fun H3 s3 => z1 H3 ((s1.trans s2).trans s3)
    | ok u =>
      rw [q2] at z1
      intro H3 s3
      have r3 := r1.mono (hide_same (O := O) (s2.trans s3))
      have hO3 := (hO.same s1).same (s2.trans s3)
      have s13 : Same H H3 := s1.trans (s2.trans s3)
      cases r3 with
      | @tup a xs ds hx rs =>
        have hx' := seqT (hide_sub (O := O)) hx
        refine .inl ⟨a, xs, rfl, hx', fun w => ?_, fun w p hp => ?_⟩
        · refine z1 _ H3 s13 ?_
          rw [cut_whole (by rw [← rs.length]; exact w)]
          exact .tup hx rs
        · exact z1 _ _ (s13.trans (same_new hp)) (new_rep hO3 hp (rps_cut rs))
      | @lst a xs ds hx rs =>
        refine .inr ⟨a, xs, rfl, seqL hide_sub hx, fun p hp => ?_⟩
        exact z1 _ _ (s13.trans (same_new hp)) (new_repL hO3 hp (rps_cut rs))
      | _ => exact z1.elim
/-! ### minus -/
def eNeg (f : Vars → R PyData) (ρ : Vars) : R PyData := (f ρ).bind fun d => match d with
  | .int i => .ok (.int (-i))
  | _ => .bad
theorem ex_neg {a : Expr} {f : Vars → R PyData} {pos : Pos} (h : EX X W a f) : EX X W (.UnaryOp .USub a pos) (eNeg f) := by
  obtain ⟨t, p, ht⟩ := h
  refine ⟨_, pe_un un_neg p, fun σ H O ρ Q hO hv z => ht σ H O ρ _ hO hv ?_⟩
  unfold eNeg at z
  cases q : f ρ with
  | bad => rw [q] at z; exact z
  | err c => rw [q] at z; exact z
  | ok d =>
    rw [q] at z
    intro v H1 s1 r1
    cases r1 with
    | int i => exact ⟨i, rfl, z _ H1 s1 (.int _)⟩
    | _ => exact z.elim
/-! ### calls of built-ins by data -/
def CallD (K : PySem.W.Frag) (r : List V → Hp → VK → Prop) (g : List PyData → Option PyData) : Prop :=
  ∀ (H : Hp) (O : List Addr) (xs : List V) (ds : List PyData) (z : PyData) (Q : VK), Stands O H → Rps K (hide O H) xs ds → g ds = some z → (∀ v H', Same H H' → Rp K (hide O H') v z → Q v H') → r xs H Q
def eCall (g : List PyData → Option PyData) (f : Vars → R (List PyData)) (ρ : Vars) : R PyData := (f ρ).bind fun ds => R.of (g ds)
theorem call_run {r : List V → Hp → VK → Prop} {g : List PyData → Option PyData} (ho : CallD X.K r g) {ta : TA} {f : Vars → R (List PyData)}
    (ha : ∀ σ H O ρ Q, Stands O H → VRel X.K (hide O H) σ ρ → AOut X W O σ H Q (f ρ) → ta σ H Q) :
    ∀ σ H O ρ Q, Stands O H → VRel X.K (hide O H) σ ρ → EOut X W O σ H Q (eCall g f ρ) → tCB r ta σ H Q := fun σ H O ρ Q hO hr z =>
  ha σ H O ρ _ hO hr (AOut.then (g := fun ds => R.of (g ds)) EOut.b EOut.e z fun ds vs H1 s1 r1 z1 => by
    cases q : g ds with
    | none => rw [q] at z1; exact z1.elim
    | some w =>
      rw [q] at z1
      exact ho H1 O vs ds w Q (hO.same s1) r1 q fun v H2 s2 r2 => z1 v H2 (s1.trans s2) r2)
theorem ex_callB {id : String} {x : Str} {r : List V → Hp → VK → Prop} {g : List PyData → Option PyData} {e : Expr} {es : List Expr} {f : Vars → R (List PyData)} {p pos : Pos} (hc : CallR X (.builtin id) r) (ho : CallD X.K r g) (hg : Gl X x) (hm : X.mg x = none) (hv : bootBuiltins x = some (.builtin id)) (ha : AX X W (e :: es) f)
    (hn : x ≠ "__name__" := by decide) (hdb : (x == ("__debug__" : Str)) = false := by decide)
    (he : starEach (e :: es) X.env = (false, eval e X.env) :: starEach es X.env := by rfl) (hpl : (backTo pos (starEach es X.env)).any (·.1) = false := by rfl) : EX X W (.Call (.Name x p) (e :: es) [] pos) (eCall g f) := by
  obtain ⟨t, q, ht⟩ := ha
  exact ⟨_, pe_callB hc hg hm hv q hn hdb he hpl, call_run ho ht⟩
theorem ex_callT {T : String} {x : Str} {r : List V → Hp → VK → Prop} {g : List PyData → Option PyData} {e : Expr} {es : List Expr} {f : Vars → R (List PyData)} {p pos : Pos} (hc : CallR X (.type T) r) (ho : CallD X.K r g) (hg : Gl X x) (hm : X.mg x = none) (hv : bootBuiltins x = some (.type T)) (ha : AX X W (e :: es) f)
    (hn : x ≠ "__name__" := by decide) (hdb : (x == ("__debug__" : Str)) = false := by decide)
    (he : starEach (e :: es) X.env = (false, eval e X.env) :: starEach es X.env := by rfl) (hpl : (backTo pos (starEach es X.env)).any (·.1) = false := by rfl) : EX X W (.Call (.Name x p) (e :: es) [] pos) (eCall g f) := by
  obtain ⟨t, q, ht⟩ := ha
  exact ⟨_, pe_callTy hc hg hm hv q hn hdb he hpl, call_run ho ht⟩
end
/-- len -/
def gLen : List PyData → Option PyData
  | [.tuple xs] => some (.int xs.length)
  | [.list xs] => some (.int xs.length)
  | [.str x] => if x.length ≤ sizeLine then some (.int x.length) else none
  | _ => none
theorem rps_one {K : PySem.W.Frag} {H : Hp} {vs : List V} {d : PyData} (r : Rps K H vs [d]) : ∃ v, vs = [v] ∧ Rp K H v d := by
  cases r with
  | cons h t => cases t; exact ⟨_, rfl, h⟩
theorem rps_two {K : PySem.W.Frag} {H : Hp} {vs : List V} {d e : PyData} (r : Rps K H vs [d, e]) : ∃ v w, vs = [v, w] ∧ Rp K H v d ∧ Rp K H w e := by
  cases r with
  | cons h t => cases t with | cons h2 t => cases t; exact ⟨_, _, rfl, h, h2⟩
theorem rps_three {K : PySem.W.Frag} {H : Hp} {vs : List V} {d e f : PyData} (r : Rps K H vs [d, e, f]) : ∃ v w u, vs = [v, w, u] ∧ Rp K H v d ∧ Rp K H w e ∧ Rp K H u f := by
  cases r with
  | cons h t => cases t with | cons h2 t => cases t with | cons h3 t => cases t; exact ⟨_, _, _, rfl, h, h2, h3⟩
theorem calld_len {K : PySem.W.Frag} : CallD K (fun xs H Q => ∃ x n, xs = [x] ∧ LenV K x H n ∧ Q (.int n) H) gLen := by
  intro H O xs ds z Q hO r h q
  unfold gLen at h
  split at h
  · cases h
    obtain ⟨v, rfl, rv⟩ := rps_one r
    cases rv with
    | tup hx rs => rw [← rs.length] at q; exact ⟨_, _, rfl, .inr ⟨_, seqT hide_sub hx, rfl⟩, q _ H (Same.refl H) (.int _)⟩
  · cases h
    obtain ⟨v, rfl, rv⟩ := rps_one r
    cases rv with
    | lst hx rs => rw [← rs.length] at q; exact ⟨_, _, rfl, .inl ⟨_, seqL hide_sub hx, rfl⟩, q _ H (Same.refl H) (.int _)⟩
  · rename_i x
    by_cases c : x.length ≤ sizeLine
    · rw [if_pos c] at h; cases h
      obtain ⟨v, rfl, rv⟩ := rps_one r
      cases rv
      exact ⟨_, _, rfl, ⟨c, rfl⟩, q _ H (Same.refl H) (.int _)⟩
    · rw [if_neg c] at h; cases h
  · cases h
/-- tuple(..) -/
def gTuple : List PyData → Option PyData
  | [.tuple xs] => some (.tuple xs)
  | [.list xs] => some (.tuple xs)
  | _ => none
theorem calld_tuple {K : PySem.W.Frag} : CallD K (fun xs H Q => ∃ p ys, xs = [.ref p] ∧ ((SqL K H p ys ∧ ∀ l, H l = none → Q (.ref l) (upd H l (.tup ys))) ∨ (SqT K H p ys ∧ Q (.ref p) H))) gTuple := by
  intro H O xs ds z Q hO r h q
  unfold gTuple at h
  split at h
  · cases h
    obtain ⟨v, rfl, rv⟩ := rps_one r
    cases rv with
    | tup hx rs => exact ⟨_, _, rfl, .inr ⟨seqT hide_sub hx, q _ H (Same.refl H) (.tup hx rs)⟩⟩
  · cases h
    obtain ⟨v, rfl, rv⟩ := rps_one r
    cases rv with
    | lst hx rs => exact ⟨_, _, rfl, .inl ⟨seqL hide_sub hx, fun l hl => q _ _ (same_new hl) (new_rep hO hl rs)⟩⟩
  · cases h
/-- list(..) -/
def gList : List PyData → Option PyData
  | [.tuple xs] => some (.list xs)
  | [.list xs] => some (.list xs)
  | _ => none
theorem calld_list {K : PySem.W.Frag} : CallD K (fun xs H Q => ∃ p ys, xs = [.ref p] ∧ (SqL K H p ys ∨ SqT K H p ys) ∧ ∀ l, H l = none → Q (.ref l) (upd H l (.lst ys))) gList := by
  intro H O xs ds z Q hO r h q
  unfold gList at h
  split at h
  · cases h
    obtain ⟨v, rfl, rv⟩ := rps_one r
    cases rv with
    | tup hx rs => exact ⟨_, _, rfl, .inr (seqT hide_sub hx), fun l hl => q _ _ (same_new hl) (new_repL hO hl rs)⟩
  · cases h
    obtain ⟨v, rfl, rv⟩ := rps_one r
    cases rv with
    | lst hx rs => exact ⟨_, _, rfl, .inl (seqL hide_sub hx), fun l hl => q _ _ (same_new hl) (new_repL hO hl rs)⟩
  · cases h
/-- int(..) -/
def gIntC : List PyData → Option PyData
  | [.int i] => some (.int i)
  | [.bool b] => some (.int (if b then 1 else 0))
  | _ => none
theorem calld_int {K : PySem.W.Frag} : CallD K (fun xs H Q => (∃ i, xs = [.int i] ∧ Q (.int i) H) ∨ ∃ k, xs = [.bl k] ∧ Q (.int (if k then 1 else 0)) H) gIntC := by
  intro H O xs ds z Q hO r h q
  unfold gIntC at h
  split at h
  · cases h
    obtain ⟨v, rfl, rv⟩ := rps_one r
    cases rv
    exact .inl ⟨_, rfl, q _ H (Same.refl H) (.int _)⟩
  · cases h
    obtain ⟨v, rfl, rv⟩ := rps_one r
    cases rv
    exact .inr ⟨_, rfl, q _ H (Same.refl H) (.int _)⟩
  · cases h
/-- max, min of two ints -/
def gMax2 : List PyData → Option PyData
  | [.int i, .int j] => some (.int (if j > i then j else i))
  | _ => none
def gMin2 : List PyData → Option PyData
  | [.int i, .int j] => some (.int (if j < i then j else i))
  | _ => none
theorem calld_max2 {K : PySem.W.Frag} : CallD K (fun xs H Q => ∃ i j, xs = [.int i, .int j] ∧ Q (.int (if j > i then j else i)) H) gMax2 := by
  intro H O xs ds z Q hO r h q
  unfold gMax2 at h
  split at h
  · cases h
    obtain ⟨v, w, rfl, rv, rw'⟩ := rps_two r
    cases rv
    cases rw'
    exact ⟨_, _, rfl, q _ H (Same.refl H) (.int _)⟩
  · cases h
theorem calld_min2 {K : PySem.W.Frag} : CallD K (fun xs H Q => ∃ i j, xs = [.int i, .int j] ∧ Q (.int (if j < i then j else i)) H) gMin2 := by
  intro H O xs ds z Q hO r h q
  unfold gMin2 at h
  split at h
  · cases h
    obtain ⟨v, w, rfl, rv, rw'⟩ := rps_two r
    cases rv
    cases rw'
    exact ⟨_, _, rfl, q _ H (Same.refl H) (.int _)⟩
  · cases h
/-- max of three ints -/
def rMax3 : List V → Hp → VK → Prop := fun xs H Q => ∃ i j k, xs = [.int i, .int j, .int k] ∧ Q (.int (if k > (if j > i then j else i) then k else (if j > i then j else i))) H
theorem call_max3i {X : Cx} (hc : X.calm = true) : CallR X (.builtin "max") rMax3 := by
  intro pins s σ H xs us Q I r h
  obtain ⟨i, j, k, rfl, q⟩ := h
  cases r with
  | cons r1 r => cases r with
    | cons r2 r => cases r with
      | cons r3 r =>
        cases r
        obtain ⟨t1, rfl⟩ := r1
        obtain ⟨t2, rfl⟩ := r2
        obtain ⟨t3, rfl⟩ := r3
        refine max_three_ints (I.ok.hd hc) fun h' tk kk => ⟨_, H, I.kept kk, ?_, q⟩
        by_cases h1 : j > i
        · simp only [if_pos h1]
          by_cases h2 : k > j
          · simp only [if_pos h2]; exact ⟨_, rfl⟩
          · simp only [if_neg h2]; exact ⟨_, rfl⟩
        · simp only [if_neg h1]
          by_cases h2 : k > i
          · simp only [if_pos h2]; exact ⟨_, rfl⟩
          · simp only [if_neg h2]; exact ⟨_, rfl⟩
def gMax3 : List PyData → Option PyData
  | [.int i, .int j, .int k] => some (.int (if k > (if j > i then j else i) then k else (if j > i then j else i)))
  | _ => none
theorem calld_max3 {K : PySem.W.Frag} : CallD K rMax3 gMax3 := by
  intro H O xs ds z Q hO r h q
  unfold gMax3 at h
  split at h
  · cases h
    obtain ⟨v, w, u, rfl, rv, rw', ru⟩ := rps_three r
    cases rv
    cases rw'
    cases ru
    exact ⟨_, _, _, rfl, q _ H (Same.refl H) (.int _)⟩
  · cases h
/-- the ints of a list of ints -/
def intsOf : List PyData → Option (List Int)
  | [] => some []
  | .int i :: r => (intsOf r).map fun ns => i :: ns
  | _ => none
theorem intsOf_eq : ∀ {ds : List PyData} {ns : List Int}, intsOf ds = some ns → ds = ns.map PyData.int
  | [], ns, h => by cases h; rfl
  | .int i :: r, ns, h => by
    unfold intsOf at h
    cases e : intsOf r with
    | none => rw [e] at h; cases h
    | some ms => rw [e] at h; cases h; rw [intsOf_eq e]; rfl
  | .none :: _, _, h => by cases h
  | .bool _ :: _, _, h => by cases h
  | .str _ :: _, _, h => by cases h
  | .list _ :: _, _, h => by cases h
  | .tuple _ :: _, _, h => by cases h
  | .dict _ :: _, _, h => by cases h
theorem intsOf_map : ∀ ns : List Int, intsOf (ns.map PyData.int) = some ns
  | [] => rfl
  | n :: ns => by
    show (intsOf (ns.map PyData.int)).map _ = _
    rw [intsOf_map ns]; rfl
/-- sum of a list of ints -/
def gSum : List PyData → Option PyData
  | [.list ds] => (intsOf ds).map fun ns => .int ns.sum
  | _ => none
theorem calld_sum {K : PySem.W.Frag} : CallD K (rSum K) gSum := by
  intro H O xs ds z Q hO r h q
  unfold gSum at h
  split at h
  · rename_i ds
    cases e : intsOf ds with
    | none => rw [e] at h; cases h
    | some ns =>
      rw [e] at h; cases h
      obtain ⟨v, rfl, rv⟩ := rps_one r
      have e2 := intsOf_eq e
      subst e2
      cases rv with
      | lst hx rs =>
        have e3 := rs.ints
        subst e3
        exact ⟨_, ns, rfl, seqL hide_sub hx, q _ H (Same.refl H) (.int _)⟩
  · cases h
/-- max of a list of ints -/
def maxI : Int → List Int → Int
  | m, [] => m
  | m, n :: ns => maxI (if n > m then n else m) ns
theorem maxI_mem : ∀ (m : Int) (ns : List Int), maxI m ns ∈ m :: ns
  | m, [] => by simp [maxI]
  | m, n :: ns => by
    unfold maxI
    have h := maxI_mem (if n > m then n else m) ns
    rcases List.mem_cons.mp h with h | h
    · rw [h]
      by_cases c : n > m
      · rw [if_pos c]; simp
      · rw [if_neg c]; simp
    · simp [h]
theorem maxI_le : ∀ (m : Int) (ns : List Int) (y : Int), y ∈ m :: ns → y ≤ maxI m ns
  | m, [], y, h => by simp at h; subst h; exact Int.le_refl _
  | m, n :: ns, y, h => by
    unfold maxI
    have h0 := maxI_le (if n > m then n else m) ns (if n > m then n else m) (by simp)
    have h1 := maxI_le (if n > m then n else m) ns
    by_cases c : n > m
    · rw [if_pos c] at h0 h1 ⊢
      simp only [List.mem_cons] at h
      rcases h with h | h | h
      · subst h; omega
      · subst h; exact h0
      · exact h1 y (by simp [h])
    · rw [if_neg c] at h0 h1 ⊢
      simp only [List.mem_cons] at h
      rcases h with h | h | h
      · subst h; exact h0
      · subst h; omega
      · exact h1 y (by simp [h])
def gMaxL : List PyData → Option PyData
  | [.list ds] => match intsOf ds with
    | some (n :: ns) => some (.int (maxI n ns))
    | _ => none
  | _ => none
theorem calld_maxL {K : PySem.W.Frag} : CallD K (rMax K) gMaxL := by
  intro H O xs ds z Q hO r h q
  unfold gMaxL at h
  split at h
  · rename_i ds
    split at h
    · rename_i n ns e
      cases h
      obtain ⟨v, rfl, rv⟩ := rps_one r
      have e2 := intsOf_eq e
      subst e2
      cases rv with
      | lst hx rs =>
        have e3 := rs.ints
        subst e3
        refine ⟨_, n :: ns, rfl, seqL hide_sub hx, by simp, fun m h1 h2 => ?_⟩
        have e4 : m = maxI n ns := Int.le_antisymm (maxI_le n ns m h1) (h2 _ (maxI_mem n ns))
        rw [e4]
        exact q _ H (Same.refl H) (.int _)
    · cases h
  · cases h
/-- divmod -/
def gDivmod : List PyData → Option PyData
  | [.int i, .int j] => if decide (0 < j) && decide (j < 1073741824) then some (.tuple [.int (i / j), .int (i % j)]) else none
  | _ => none
theorem calld_divmod {K : PySem.W.Frag} : CallD K (fun xs H Q => ∃ i j, xs = [.int i, .int j] ∧ CDiv i j ∧ ∀ p, H p = none → Q (.ref p) (upd H p (.tup [.int (i / j), .int (i % j)]))) gDivmod := by
  intro H O xs ds z Q hO r h q
  unfold gDivmod at h
  split at h
  · rename_i i j
    by_cases c : (decide (0 < j) && decide (j < 1073741824)) = true
    · rw [if_pos c] at h; cases h
      rw [Bool.and_eq_true] at c
      obtain ⟨v, w, rfl, rv, rw'⟩ := rps_two r
      cases rv
      cases rw'
      exact ⟨_, _, rfl, ⟨of_decide_eq_true c.1, of_decide_eq_true c.2⟩, fun p hp => q _ _ (same_new hp) (new_rep hO hp (.cons (.int _) (.cons (.int _) .nil)))⟩
    · rw [if_neg c] at h; cases h
  · cases h
/-! ### isinstance(x, T) of a built-in type -/
def tyN : PyData → String
  | .none => "NoneType"
  | .bool _ => "bool"
  | .int _ => "int"
  | .str _ => "str"
  | .list _ => "list"
  | .tuple _ => "tuple"
  | .dict _ => "dict"
theorem tyX_of {K : PySem.W.Frag} {H : Hp} {v : V} {d : PyData} (r : Rp K H v d) : TyX K H v (.type (tyN d)) := by
  cases r with
  | non => exact .base .non
  | bl b => exact .base (.bl b)
  | int b => exact .base (.int b)
  | str b => exact .base (.str b)
  | lst h _ =>
    rcases h with (h | ⟨o, h⟩) | ⟨o, its, n, h, hc, _⟩
    · exact .base (.lst h)
    · exact .base (.frz h)
    · exact .kList h hc
  | tup h _ =>
    rcases h with (h | ⟨o, h⟩) | ⟨o, its, n, h, hc, _⟩
    · exact .base (.tup h)
    · exact .fTuple h
    · exact .kTuple h hc
  | dic h _ => exact .base (.dK h)
theorem kitB_none_int : kitB "NoneType" "int" = some false := by decide +kernel
/-- the table: T one of int, bool, tuple, str, list, dict -/
def isiB (T : String) (d : PyData) : Bool := match d with
  | .none => false
  | .bool _ => T == "bool" || T == "int"
  | .int _ => T == "int"
  | .str _ => T == "str"
  | .list _ => T == "list"
  | .tuple _ => T == "tuple"
  | .dict _ => T == "dict"
def kitAll (T : String) : Bool := decide (kitB "NoneType" T = some false) && decide (kitB "bool" T = some (T == "bool" || T == "int")) && decide (kitB "int" T = some (T == "int")) && decide (kitB "str" T = some (T == "str")) && decide (kitB "list" T = some (T == "list")) && decide (kitB "tuple" T = some (T == "tuple")) && decide (kitB "dict" T = some (T == "dict"))
theorem kit_int : kitAll "int" = true := by decide +kernel
theorem kit_bool : kitAll "bool" = true := by decide +kernel
theorem kit_tuple : kitAll "tuple" = true := by decide +kernel
theorem kit_str : kitAll "str" = true := by decide +kernel
theorem kit_list : kitAll "list" = true := by decide +kernel
theorem kit_dict : kitAll "dict" = true := by decide +kernel
theorem kit_is {T : String} (h : kitAll T = true) (d : PyData) : kitB (tyN d) T = some (isiB T d) := by
  unfold kitAll at h
  simp only [Bool.and_eq_true, decide_eq_true_eq] at h
  obtain ⟨⟨⟨⟨⟨⟨h1, h2⟩, h3⟩, h4⟩, h5⟩, h6⟩, h7⟩ := h
  cases d <;> assumption
section
variable {X : Cx} {W : WX}
def eIsi (T : String) (f : Vars → R PyData) (ρ : Vars) : R PyData := (f ρ).bind fun d => .ok (.bool (isiB T d))
theorem ex_isi {T : String} {x : Str} {a : Expr} {f : Vars → R PyData} {p p2 pos : Pos} (hk : kitAll T = true) (hg : Gl X "isinstance") (hm : X.mg "isinstance" = none) (hgT : Gl X x) (hmT : X.mg x = none) (hvT : bootBuiltins x = some (.type T)) (ha : EX X W a f)
    (hn : x ≠ "__name__" := by decide) (hdb : (x == ("__debug__" : Str)) = false := by decide)
    (he : starEach [a, .Name x p2] X.env = (false, eval a X.env) :: starEach [.Name x p2] X.env := by rfl) (hpl : (backTo pos (starEach [.Name x p2] X.env)).any (·.1) = false := by rfl)
    (he2 : starEach [.Name x p2] X.env = (false, eval (.Name x p2) X.env) :: starEach [] X.env := by rfl) : EX X W (.Call (.Name "isinstance" p) [a, .Name x p2] [] pos) (eIsi T f) := by
  obtain ⟨t, q, ht⟩ := ha
  refine ⟨_, pe_callB call_isi hg hm (by decide +kernel) (pa_cons q (pa_cons (pe_bltn (v := .ty T) hgT hmT hvT rfl hn hdb) pa_nil he2) he) (by decide) (by decide) he hpl, fun σ H O ρ Q hO hv z => ht σ H O ρ _ hO hv (EOut.then (g := fun d => .ok (.bool (isiB T d))) EOut.b EOut.e z fun d v H1 s1 r1 z1 => ?_)⟩
  exact ⟨v, .ty T, _, _, _, rfl, .ty T, tyX_of (r1.mono hide_sub), kit_ty (kit_is hk d), z1 _ H1 s1 (.bl _)⟩
end
end Pu
set_option Elab.async false
set_option linter.all false
set_option maxRecDepth 100000
set_option maxHeartbeats 4000000
namespace Pu
open PySem PySem.Spec PyProof.Rows L2
/-! ### a def by data -/
def SpOut (K : PySem.W.Frag) (mg : Str → Option Value) (O : List Addr) (H : Hp) (Q : VK) (E : XK) : R PyData → Prop
  | .ok d => ∀ v H', Same H H' → Rp K (hide O H') v d → Q v H'
  | .err c => ∀ H', Same H H' → E (exV mg c) none H'
  | .bad => False
def spD (K : PySem.W.Frag) (mg : Str → Option Value) (n : Nat) (f : List PyData → R PyData) : Sp := fun vs H Q E =>
  vs.length = n ∧ ∃ O ds, Stands O H ∧ Rps K (hide O H) vs ds ∧ SpOut K mg O H Q E (f ds)
/-- the def that the module's name x holds answers as f says; k: the calls that it may nest -/
def Cal (P : Program) (w : World) (K : PySem.W.Frag) (mg : Str → Option Value) (base : Heap) (k : Nat) (x : Str) (n : Nat) (f : List PyData → R PyData) : Prop :=
  ∃ (fa : Addr) (fd : FuncData) (ps : List Str), ps.length = n ∧ FnOk P w K mg base (L2.CX P w) k fa fd ps (spD K mg n f) ∧ mg x = some (.ref fa) ∧ PySem.W.keepIn K (.ref fa) = true ∧ Binds K fd ps []
theorem Cal.mono {P : Program} {w : World} {K : PySem.W.Frag} {mg : Str → Option Value} {base : Heap} {k k' n : Nat} {x : Str} {f : List PyData → R PyData} (h : Cal P w K mg base k x n f) (l : k ≤ k') : Cal P w K mg base k' x n f := by
  obtain ⟨fa, fd, ps, h1, h2, h3⟩ := h
  exact ⟨fa, fd, ps, h1, h2.mono l, h3⟩
def eFn (g : List PyData → R PyData) (f : Vars → R (List PyData)) (ρ : Vars) : R PyData := (f ρ).bind g
section
variable {X : Cx} {W : WX}
theorem ex_fn {k n : Nat} {x : Str} {g : List PyData → R PyData} {e : Expr} {es : List Expr} {f : Vars → R (List PyData)} {p pos : Pos} (tk : Takes X W) (F : Cal X.prog X.w X.K X.mg X.base k x n g) (hr : Room k X.A) (hg : Gl X x) (ha : AX X W (e :: es) f) (hn : es.length + 1 = n)
    (hdb : (x == ("__debug__" : Str)) = false := by decide) (he : starEach (e :: es) X.env = (false, eval e X.env) :: starEach es X.env := by rfl) (hpl : (backTo pos (starEach es X.env)).any (·.1) = false := by rfl) (hlen : ∀ ρ ds, f ρ = .ok ds → ds.length = n) :
    EX X W (.Call (.Name x p) (e :: es) [] pos) (eFn g f) := by
  obtain ⟨fa, fd, ps, h1, h2, h3, h4, h5⟩ := F
  obtain ⟨t, q, ht⟩ := ha
  refine ⟨_, pe_callS h2 hr hg h3 h4 h5 (fun σ => passAt tk σ) q hdb he hpl, fun σ H O ρ Q hO hv z => ht σ H O ρ _ hO hv ?_⟩
  unfold eFn at z
  cases e1 : f ρ with
  | bad => rw [e1] at z; exact z
  | err c => rw [e1] at z; exact z
  | ok ds =>
    rw [e1] at z
    intro vs H1 s1 r1
    refine ⟨by rw [r1.length]; exact hlen ρ ds e1, O, ds, hO.same s1, r1, ?_⟩
    cases e2 : g ds with
    | bad => rw [R.bind_ok, e2] at z; exact z.elim
    | err c => rw [R.bind_ok, e2] at z; exact fun H' s' => z H' (s1.trans s')
    | ok d => rw [R.bind_ok, e2] at z; exact fun v H' s' r' => z v H' (s1.trans s') r'
theorem aNil_len {ρ : Vars} {ds : List PyData} (h : aNil ρ = .ok ds) : ds.length = 0 := by cases h; rfl
theorem aCons_len {f : Vars → R PyData} {g : Vars → R (List PyData)} {n : Nat} (h : ∀ ρ ds, g ρ = .ok ds → ds.length = n) : ∀ ρ ds, aCons f g ρ = .ok ds → ds.length = n + 1 := fun ρ ds e => by
  unfold aCons at e
  cases e1 : f ρ with
  | bad => rw [e1] at e; cases e
  | err c => rw [e1] at e; cases e
  | ok d =>
    rw [e1, R.bind_ok] at e
    cases e2 : g ρ with
    | bad => rw [e2] at e; cases e
    | err c => rw [e2] at e; cases e
    | ok ds' => rw [e2] at e; cases e; rw [List.length_cons, h ρ ds' e2]
theorem ex_fn0 {k : Nat} {x : Str} {g : List PyData → R PyData} {p pos : Pos} (tk : Takes X W) (F : Cal X.prog X.w X.K X.mg X.base k x 0 g) (hr : Room k X.A) (hg : Gl X x)
    (hdb : (x == ("__debug__" : Str)) = false := by decide) : EX X W (.Call (.Name x p) [] [] pos) (eFn g aNil) := by
  obtain ⟨fa, fd, ps, h1, h2, h3, h4, h5⟩ := F
  have key : PE X (.Call (.Name x p) [] [] pos) (tCallS (spD X.K X.mg 0 g) (WE W) tNil) := by
    refine ⟨fun pins s σ H Q I h => ?_⟩
    refine wpAny_Call_Name_kw (ld_glob I hg h3 ?_ hdb)
    exact PySem.W.callWith_K0 I.kIn h4 (run_fnS (us := []) (vs := []) h2 hr h5 (passAt tk σ) I .nil h)
  refine ⟨_, key, fun σ H O ρ Q hO hv z => ?_⟩
  refine ⟨rfl, O, [], hO, .nil, ?_⟩
  unfold eFn aNil at z
  rw [R.bind_ok] at z
  cases e2 : g [] with
  | bad => rw [e2] at z; exact z
  | err c => rw [e2] at z; exact z
  | ok d => rw [e2] at z; exact z
end
/-! ### targets -/
/-- some slots not to be read -/
def maskF (own : List Nat) : Nat → Vars → Vars
  | _, [] => []
  | k, x :: r => (if own.contains k = true then none else x) :: maskF own (k + 1) r
abbrev mask (own : List Nat) (ρ : Vars) : Vars := maskF own 0 ρ
theorem maskF_len (own : List Nat) : ∀ (k : Nat) (ρ : Vars), (maskF own k ρ).length = ρ.length
  | _, [] => rfl
  | k, x :: r => by unfold maskF; rw [List.length_cons, List.length_cons, maskF_len own (k + 1) r]
theorem maskF_get (own : List Nat) : ∀ (k : Nat) (ρ : Vars) (i : Nat), (maskF own k ρ)[i]? = if k + i ∈ own then (ρ[i]?).map fun _ => none else ρ[i]?
  | k, [], i => by simp [maskF]
  | k, x :: r, 0 => by
    unfold maskF
    by_cases c : k ∈ own <;> simp [c]
  | k, x :: r, i + 1 => by
    unfold maskF
    rw [List.getElem?_cons_succ, List.getElem?_cons_succ, maskF_get own (k + 1) r i, show k + 1 + i = k + (i + 1) by omega]
theorem mask_some {own : List Nat} {ρ : Vars} {i : Nat} {d : PyData} (h : (mask own ρ)[i]? = some (some d)) : i ∉ own ∧ ρ[i]? = some (some d) := by
  unfold mask at h
  rw [maskF_get, Nat.zero_add] at h
  by_cases c : i ∈ own
  · rw [if_pos c] at h
    cases e : ρ[i]? <;> rw [e] at h <;> cases h
  · rw [if_neg c] at h; exact ⟨c, h⟩
theorem mask_of {own : List Nat} {ρ : Vars} {i : Nat} {d : PyData} (c : i ∉ own) (h : ρ[i]? = some (some d)) : (mask own ρ)[i]? = some (some d) := by
  unfold mask
  rw [maskF_get, Nat.zero_add, if_neg c]; exact h
theorem mask_set {own : List Nat} {ρ : Vars} {i : Nat} {x : Option PyData} (c : i ∉ own) : mask own (ρ.set i x) = (mask own ρ).set i x := by
  apply List.ext_getElem?
  intro j
  unfold mask
  rw [maskF_get, Nat.zero_add]
  by_cases z : i = j
  · subst z
    rw [if_neg c]
    by_cases hl : i < ρ.length
    · rw [List.getElem?_set_self hl, List.getElem?_set_self (by rw [maskF_len]; exact hl)]
    · rw [List.getElem?_eq_none (by simpa using hl), List.getElem?_eq_none (by simp [maskF_len]; omega)]
  · rw [List.getElem?_set_ne z, List.getElem?_set_ne z, maskF_get, Nat.zero_add]
section
variable (X : Cx)
structure GtOk (js : List Nat) (gt : PyData → Vars → Option Vars) : Prop where
  len : ∀ d ρ ρ', gt d ρ = some ρ' → ρ'.length = ρ.length
  msk : ∀ own d ρ ρ', (∀ j ∈ js, j ∉ own) → gt d ρ = some ρ' → gt d (mask own ρ) = some (mask own ρ')
structure GtsOk (js : List Nat) (gt : List PyData → Vars → Option Vars) : Prop where
  len : ∀ d ρ ρ', gt d ρ = some ρ' → ρ'.length = ρ.length
  msk : ∀ own d ρ ρ', (∀ j ∈ js, j ∉ own) → gt d ρ = some ρ' → gt d (mask own ρ) = some (mask own ρ')
def GX (tg : Expr) (js : List Nat) (gt : PyData → Vars → Option Vars) : Prop := GtOk js gt ∧
  ∃ g, PG X tg g ∧ ∀ v d σ H O ρ ρ' Q, Stands O H → VRel X.K (hide O H) σ ρ → Rp X.K (hide O H) v d → gt d ρ = some ρ' →
    (∀ σ', VRel X.K (hide O H) σ' ρ' → σ'.length = σ.length → (∀ j : Nat, j ∉ js → σ'[j]? = σ[j]? ∧ ρ'[j]? = ρ[j]?) → Q σ' H) → g v σ H Q
def GsX (ts : List Expr) (js : List Nat) (gt : List PyData → Vars → Option Vars) : Prop := GtsOk js gt ∧
  ∃ g, PGs X ts g ∧ ∀ vs ds σ H O ρ ρ' Q, Stands O H → VRel X.K (hide O H) σ ρ → Rps X.K (hide O H) vs ds → gt ds ρ = some ρ' →
    (∀ σ', VRel X.K (hide O H) σ' ρ' → σ'.length = σ.length → (∀ j : Nat, j ∉ js → σ'[j]? = σ[j]? ∧ ρ'[j]? = ρ[j]?) → Q σ' H) → g vs σ H Q
end
def gtName (i : Nat) (d : PyData) (ρ : Vars) : Option Vars := some (ρ.set i (some d))
def gtNil (ds : List PyData) (ρ : Vars) : Option Vars := match ds with
  | [] => some ρ
  | _ => none
def gtCons (g : PyData → Vars → Option Vars) (h : List PyData → Vars → Option Vars) (ds : List PyData) (ρ : Vars) : Option Vars := match ds with
  | d :: r => (g d ρ).bind fun ρ' => h r ρ'
  | [] => none
def gtTup (n : Nat) (h : List PyData → Vars → Option Vars) (d : PyData) (ρ : Vars) : Option Vars := match d with
  | .tuple ds => if ds.length = n then h ds ρ else none
  | _ => none
theorem gtName_ok (i : Nat) : GtOk [i] (gtName i) where
  len := fun d ρ ρ' e => by cases e; simp
  msk := fun own d ρ ρ' h e => by cases e; unfold gtName; rw [mask_set (h i (by simp))]
theorem gtNil_ok : GtsOk [] gtNil where
  len := fun d ρ ρ' e => by cases d <;> cases e; rfl
  msk := fun own d ρ ρ' h e => by cases d <;> cases e; rfl
theorem gtCons_ok {js ks : List Nat} {g : PyData → Vars → Option Vars} {h : List PyData → Vars → Option Vars} (a : GtOk js g) (b : GtsOk ks h) : GtsOk (js ++ ks) (gtCons g h) where
  len := fun d ρ ρ' e => by
    cases d with
    | nil => cases e
    | cons d r =>
      have e' : (g d ρ).bind (fun ρ' => h r ρ') = some ρ' := e
      cases e1 : g d ρ with
      | none => rw [e1] at e'; cases e'
      | some ρ1 => rw [e1] at e'; rw [b.len r ρ1 ρ' e', a.len d ρ ρ1 e1]
  msk := fun own d ρ ρ' hj e => by
    cases d with
    | nil => cases e
    | cons d r =>
      have e' : (g d ρ).bind (fun ρ' => h r ρ') = some ρ' := e
      cases e1 : g d ρ with
      | none => rw [e1] at e'; cases e'
      | some ρ1 =>
        rw [e1] at e'
        show (g d (mask own ρ)).bind (fun ρ' => h r ρ') = _
        rw [a.msk own d ρ ρ1 (fun j hh => hj j (List.mem_append_left _ hh)) e1]
        exact b.msk own r ρ1 ρ' (fun j hh => hj j (List.mem_append_right _ hh)) e'
theorem gtTup_ok {n : Nat} {js : List Nat} {h : List PyData → Vars → Option Vars} (b : GtsOk js h) : GtOk js (gtTup n h) where
  len := fun d ρ ρ' e => by
    cases d <;> try cases e
    rename_i ds
    unfold gtTup at e
    dsimp only at e
    by_cases c : ds.length = n
    · rw [if_pos c] at e; exact b.len _ _ _ e
    · rw [if_neg c] at e; cases e
  msk := fun own d ρ ρ' hj e => by
    cases d <;> try cases e
    rename_i ds
    unfold gtTup at e ⊢
    dsimp only at e ⊢
    by_cases c : ds.length = n
    · rw [if_pos c] at e ⊢; exact b.msk _ _ _ _ hj e
    · rw [if_neg c] at e; cases e
section
variable {X : Cx}
theorem gx_name {i : Nat} {x : Str} {pos : Pos} (hN : X.N.Nodup) (hi : X.N[i]? = some x) (hx : Loc X.env.scope x) (hf : X.fn x = true ∨ X.env.scope.names.lookup x = some .local := by first | exact .inl rfl | exact .inr rfl | assumption) : GX X (.Name x pos) [i] (gtName i) := by
  refine ⟨gtName_ok i, _, pg_name hN hi hx hf, fun v d σ H O ρ ρ' Q hO hv r e k => ?_⟩
  cases e
  refine k _ (hv.set r) (by simp) fun j hj => ?_
  have c : i ≠ j := fun e => hj (by simp [e])
  exact ⟨by rw [List.getElem?_set_ne c], by rw [List.getElem?_set_ne c]⟩
theorem gsx_nil : GsX X [] [] gtNil := by
  refine ⟨gtNil_ok, _, pgs_nil, fun vs ds σ H O ρ ρ' Q hO hv r e k => ?_⟩
  cases r with
  | nil => cases e; exact ⟨rfl, k σ hv rfl fun _ _ => ⟨rfl, rfl⟩⟩
  | cons _ _ => cases e
theorem gsx_cons {e : Expr} {es : List Expr} {js ks : List Nat} {g : PyData → Vars → Option Vars} {h : List PyData → Vars → Option Vars} (hg : GX X e js g) (hh : GsX X es ks h) (hs : (assignEach (e :: es) X.env).map (·.2) = assign e X.env :: (assignEach es X.env).map (·.2) := by rfl) : GsX X (e :: es) (js ++ ks) (gtCons g h) := by
  obtain ⟨a, t, p, ht⟩ := hg
  obtain ⟨b, u, q, hu⟩ := hh
  refine ⟨gtCons_ok a b, _, pgs_cons p q hs, fun vs ds σ H O ρ ρ' Q hO hv r e k => ?_⟩
  cases r with
  | nil => cases e
  | @cons v vs d ds r rs =>
    have e' : (g d ρ).bind (fun ρ' => h ds ρ') = some ρ' := e
    cases e1 : g d ρ with
    | none => rw [e1] at e'; cases e'
    | some ρ1 =>
      rw [e1] at e'
      refine ⟨v, vs, rfl, ht v d σ H O ρ ρ1 _ hO hv r e1 fun σ1 v1 m1 f1 => hu vs ds σ1 H O ρ1 ρ' Q hO v1 rs e' fun σ2 v2 m2 f2 => k σ2 v2 (m2.trans m1) fun j hj => ?_⟩
      have h1 := f1 j (fun z => hj (List.mem_append_left _ z))
      have h2 := f2 j (fun z => hj (List.mem_append_right _ z))
      exact ⟨h2.1.trans h1.1, h2.2.trans h1.2⟩
theorem gx_tup {es : List Expr} {k n : Nat} {js : List Nat} {h : List PyData → Vars → Option Vars} {pos : Pos} (hc : X.calm = true) (hh : GsX X es js h) (hn : (assignEach es X.env).length = n := by rfl) (hst : (assignEach es X.env).findIdx? (·.1) = none := by rfl) : GX X (.Tuple es k pos) js (gtTup n h) := by
  obtain ⟨b, u, q, hu⟩ := hh
  refine ⟨gtTup_ok b, _, pg_tup hc q hn hst, fun v d σ H O ρ ρ' Q hO hv r e kk => ?_⟩
  cases r with
  | @tup a xs ds hx rs =>
    unfold gtTup at e
    dsimp only at e
    by_cases c : ds.length = n
    · rw [if_pos c] at e
      exact ⟨a, xs, rfl, seqT hide_sub hx, by rw [rs.length]; exact c, hu xs ds σ H O ρ ρ' Q hO hv rs e kk⟩
    · rw [if_neg c] at e; cases e
  | _ => cases e
def tG (X : Cx) (js : List Nat) (gt : PyData → Vars → Option Vars) : TG := fun v σ H Q => ∃ d O ρ ρ', Stands O H ∧ VRel X.K (hide O H) σ ρ ∧ Rp X.K (hide O H) v d ∧ gt d ρ = some ρ' ∧
  ∀ σ', VRel X.K (hide O H) σ' ρ' → σ'.length = σ.length → (∀ j : Nat, j ∉ js → σ'[j]? = σ[j]? ∧ ρ'[j]? = ρ[j]?) → Q σ' H
theorem GX.pg {tg : Expr} {js : List Nat} {gt : PyData → Vars → Option Vars} (h : GX X tg js gt) : PG X tg (tG X js gt) := by
  obtain ⟨_, t, p, ht⟩ := h
  exact ⟨fun pins s σ H v u Q I r ⟨d, O, ρ, ρ', h1, h2, h3, h4, h5⟩ => p.run pins s σ H v u Q I r (ht v d σ H O ρ ρ' Q h1 h2 h3 h4 h5)⟩
end
/-! ### what is walked -/
def IterOk (K : PySem.W.Frag) (J : It) (F : Hp) (ds : List PyData) : Prop := ∀ (i : Nat) (H : Hp) (O : List Addr), Stands O H → Same F (hide O H) →
  (∀ d, ds[i]? = some d → J.go i H ∧ ∀ x H', J.yld i H x H' → Same H H' ∧ Rp K (hide O H') x d) ∧ (ds.length ≤ i → J.stop i H)
def IX (X : Cx) (W : WX) (tg e : Expr) (f : Vars → R (List PyData)) : Prop :=
  ∃ wi, PI X tg e wi ∧ ∀ σ H O ρ (Q : It → Hp → Prop), Stands O H → VRel X.K (hide O H) σ ρ →
    (match f ρ with
      | .ok ds => ∀ J H', Same H H' → IterOk X.K J (hide O H') ds → Q J H'
      | .err c => ∀ H', Same H H' → W (exV X.mg c) none σ H'
      | .bad => False) → wi σ H Q
section
variable {X : Cx} {W : WX} {tg : Expr}
theorem iter_list {K : PySem.W.Frag} {F : Hp} {a : Addr} {xs : List V} {ds : List PyData} (h : SqL K F a xs) (r : Rps K F xs ds) (inj : ∀ H, Same F H → ∀ ys, SqL K H a ys → ys = xs) : IterOk K (Itl K a) F ds := fun i H O hO s => by
  have s' : Same F H := s.trans hide_sub
  have hH : SqL K H a xs := seqL s' h
  refine ⟨fun d e => ?_, fun l => ⟨xs, hH, by rw [r.length]; exact l⟩⟩
  obtain ⟨v, h1, h2⟩ := r.get e
  refine ⟨⟨xs, v, hH, h1⟩, fun x H' y => ?_⟩
  obtain ⟨rfl, y⟩ := y
  have h3 := y xs hH
  rw [h1] at h3
  cases h3
  exact ⟨Same.refl _, h2.mono s⟩
/-- the list at a, if the heap is some state's -/
theorem iterL {K : PySem.W.Frag} {F : Hp} {a : Addr} {xs : List V} {ds : List PyData} (h : SqL K F a xs) (r : Rps K F xs ds) : IterOk K (Itl K a) F ds := fun i H O hO s => by
  have s' : Same F H := s.trans hide_sub
  have hH : SqL K H a xs := seqL s' h
  refine ⟨fun d e => ?_, fun l => ⟨xs, hH, by rw [r.length]; exact l⟩⟩
  obtain ⟨v, h1, h2⟩ := r.get e
  refine ⟨⟨xs, v, hH, h1⟩, fun x H' y => ?_⟩
  obtain ⟨rfl, y⟩ := y
  have h3 := y xs hH
  rw [h1] at h3
  cases h3
  exact ⟨Same.refl _, h2.mono s⟩
theorem iterT {K : PySem.W.Frag} {F : Hp} {a : Addr} {xs : List V} {ds : List PyData} (h : SqT K F a xs) (r : Rps K F xs ds) : IterOk K (Itt K a) F ds := fun i H O hO s => by
  have s' : Same F H := s.trans hide_sub
  have hH : SqT K H a xs := seqT s' h
  refine ⟨fun d e => ?_, fun l => ⟨xs, hH, by rw [r.length]; exact l⟩⟩
  obtain ⟨v, h1, h2⟩ := r.get e
  refine ⟨⟨xs, v, hH, h1⟩, fun x H' y => ?_⟩
  obtain ⟨rfl, y⟩ := y
  have h3 := y xs hH
  rw [h1] at h3
  cases h3
  exact ⟨Same.refl _, h2.mono s⟩
/-- the items of a list, of a tuple -/
def iSeq (f : Vars → R PyData) (ρ : Vars) : R (List PyData) := (f ρ).bind fun d => match d with
  | .list ds => .ok ds
  | .tuple ds => .ok ds
  | _ => .bad
def iLst (f : Vars → R PyData) (ρ : Vars) : R (List PyData) := (f ρ).bind fun d => match d with
  | .list ds => .ok ds
  | _ => .bad
def iTupl (f : Vars → R PyData) (ρ : Vars) : R (List PyData) := (f ρ).bind fun d => match d with
  | .tuple ds => .ok ds
  | _ => .bad
theorem ix_lst {e : Expr} {f : Vars → R PyData} (h : EX X W e f) : IX X W tg e (iLst f) := by
  obtain ⟨t, p, ht⟩ := h
  refine ⟨_, pi_list p, fun σ H O ρ Q hO hv z => ht σ H O ρ _ hO hv ?_⟩
  unfold iLst at z
  cases q : f ρ with
  | bad => rw [q] at z; exact z
  | err c => rw [q] at z; exact z
  | ok d =>
    rw [q] at z
    intro v H1 s1 r1
    cases r1 with
    | lst hx rs => exact ⟨_, rfl, ⟨_, seqL hide_sub hx⟩, z _ H1 s1 (iterL hx rs)⟩
    | _ => exact z.elim
theorem ix_tpl {e : Expr} {f : Vars → R PyData} (h : EX X W e f) : IX X W tg e (iTupl f) := by
  obtain ⟨t, p, ht⟩ := h
  refine ⟨_, pi_tup p, fun σ H O ρ Q hO hv z => ht σ H O ρ _ hO hv ?_⟩
  unfold iTupl at z
  cases q : f ρ with
  | bad => rw [q] at z; exact z
  | err c => rw [q] at z; exact z
  | ok d =>
    rw [q] at z
    intro v H1 s1 r1
    cases r1 with
    | tup hx rs => exact ⟨_, rfl, ⟨_, seqT hide_sub hx⟩, z _ H1 s1 (iterT hx rs)⟩
    | _ => exact z.elim
/-- a list or a tuple -/
theorem pi_seq {l : Expr} {tl : TE} (hl : PE X l tl) : PI X tg l (fun σ H R => tl σ H fun x H1 => ∃ a, x = .ref a ∧ ((∃ xs, SqL X.K H1 a xs) ∧ R (Itl X.K a) H1 ∨ (∃ xs, SqT X.K H1 a xs) ∧ R (Itt X.K a) H1)) := by
  refine ⟨fun pins s σ H R I h => ?_⟩
  refine thn (hl.run pins s σ H _ I h) fun v s1 ⟨x, H1, I1, r1, q1⟩ => ?_
  obtain ⟨a, e, q1⟩ := q1
  subst e
  cases r1
  rcases q1 with ⟨⟨xs, hq⟩, q⟩ | ⟨⟨xs, hq⟩, q⟩
  · obtain ⟨its, rv, p, hz⟩ := I1.list hq
    refine wpAny_pyIter_list p.isList ?_
    refine ⟨s1.heap.objs.size, [s1.heap.objs.size], _, _, H1, rfl, I1.kept (t' := s1.toks) fun b o e => Heap.get?_push_of_some _ e, turn_list a _, ⟨_, Heap.get?_push_size _ rfl, rfl, rfl⟩, fun b hb => ?_, q⟩
    have e : b = s1.heap.objs.size := by simpa using hb
    subst e
    exact I1.fpOk (Nat.le_refl _) (I1.hok.fresh (Nat.le_refl _))
  · obtain ⟨its, rv, p, hz⟩ := I1.tuple hq
    refine wpAny_pyIter_tuple (show s1.heap.IsTuple a its.toArray from p) ?_
    refine ⟨s1.heap.objs.size, [s1.heap.objs.size], _, _, H1, rfl, I1.kept (t' := s1.toks) fun b o e => Heap.get?_push_of_some _ e, turn_tuple a _, ⟨_, Heap.get?_push_size _ rfl, rfl, rfl⟩, fun b hb => ?_, q⟩
    have e : b = s1.heap.objs.size := by simpa using hb
    subst e
    exact I1.fpOk (Nat.le_refl _) (I1.hok.fresh (Nat.le_refl _))
theorem ix_seq {e : Expr} {f : Vars → R PyData} (h : EX X W e f) : IX X W tg e (iSeq f) := by
  obtain ⟨t, p, ht⟩ := h
  refine ⟨_, pi_seq p, fun σ H O ρ Q hO hv z => ht σ H O ρ _ hO hv ?_⟩
  unfold iSeq at z
  cases q : f ρ with
  | bad => rw [q] at z; exact z
  | err c => rw [q] at z; exact z
  | ok d =>
    rw [q] at z
    intro v H1 s1 r1
    cases r1 with
    | tup hx rs => exact ⟨_, rfl, .inr ⟨⟨_, seqT hide_sub hx⟩, z _ H1 s1 (iterT hx rs)⟩⟩
    | lst hx rs => exact ⟨_, rfl, .inl ⟨⟨_, seqL hide_sub hx⟩, z _ H1 s1 (iterL hx rs)⟩⟩
    | _ => exact z.elim
/-! ranges -/
def rngD (lo : Int) (n : Nat) : List PyData := (List.range n).map fun i => .int (lo + (i : Nat))
theorem rngD_get {lo : Int} {n i : Nat} : (rngD lo n)[i]? = if i < n then some (.int (lo + (i : Nat))) else none := by
  unfold rngD
  rw [List.getElem?_map]
  by_cases h : i < n
  · rw [if_pos h, List.getElem?_range h]; rfl
  · rw [if_neg h, List.getElem?_eq_none (by simpa using h)]; rfl
theorem rngD_len {lo : Int} {n : Nat} : (rngD lo n).length = n := by simp [rngD]
theorem iterR {K : PySem.W.Frag} {F : Hp} {lo : Int} {n : Nat} : IterOk K (Itr lo n) F (rngD lo n) := fun i H O hO s => by
  refine ⟨fun d e => ?_, fun l => by rw [rngD_len] at l; exact l⟩
  rw [rngD_get] at e
  by_cases h : i < n
  · rw [if_pos h] at e
    cases e
    refine ⟨h, fun x H' y => ?_⟩
    obtain ⟨rfl, rfl⟩ := y
    exact ⟨Same.refl _, .int _⟩
  · rw [if_neg h] at e; cases e
def okI (j : Int) : Bool := decide (j.natAbs < 2 ^ 62)
theorem okI_of {j : Int} (h : okI j = true) : -(2 ^ 62) ≤ j ∧ j < 2 ^ 62 := by
  unfold okI at h
  have := of_decide_eq_true h
  omega
theorem okI_small {j : Int} (h0 : -1000000 ≤ j) (h1 : j ≤ 1000000) : okI j = true := by
  unfold okI
  exact decide_eq_true (by omega)
def iRange (f : Vars → R (List PyData)) (ρ : Vars) : R (List PyData) := (f ρ).bind fun ds => match ds with
  | [.int j] => if okI j = true then .ok (rngD 0 j.toNat) else .bad
  | [.int i, .int j] => if (okI i && okI j) = true then .ok (rngD i (j - i).toNat) else .bad
  | _ => .bad
theorem ix_range1 {a : Expr} {f : Vars → R (List PyData)} {p pos : Pos} (hg : Gl X "range") (hm : X.mg "range" = none) (ha : AX X W [a] f) (hs : starEach [a] X.env = [(false, eval a X.env)] := by rfl) (hl : ∀ ρ ds, f ρ = .ok ds → ds.length = 1) : IX X W tg (.Call (.Name "range" p) [a] [] pos) (iRange f) := by
  obtain ⟨t, q, ht⟩ := ha
  refine ⟨_, pi_range1 hg hm q hs, fun σ H O ρ Q hO hv z => ht σ H O ρ _ hO hv ?_⟩
  unfold iRange at z
  cases e : f ρ with
  | bad => rw [e] at z; exact z
  | err c => rw [e] at z; exact z
  | ok ds =>
    rw [e, R.bind_ok] at z
    have l := hl ρ ds e
    intro vs H1 s1 r1
    match ds, l, r1, z with
    | [.int j], _, r1, z =>
      obtain ⟨v, rfl, rv⟩ := rps_one r1
      cases rv
      by_cases c : okI j = true
      · simp only [if_pos c] at z
        obtain ⟨h1, h2⟩ := okI_of c
        exact ⟨j, rfl, h1, h2, z _ H1 s1 iterR⟩
      · simp only [if_neg c] at z
    | [.none], _, _, z => exact z.elim
    | [.bool _], _, _, z => exact z.elim
    | [.str _], _, _, z => exact z.elim
    | [.list _], _, _, z => exact z.elim
    | [.tuple _], _, _, z => exact z.elim
    | [.dict _], _, _, z => exact z.elim
theorem ix_range2 {a b : Expr} {f : Vars → R (List PyData)} {p pos : Pos} (hg : Gl X "range") (hm : X.mg "range" = none) (ha : AX X W [a, b] f) (hs : starEach [a, b] X.env = [(false, eval a X.env), (false, eval b X.env)] := by rfl) (hs2 : starEach [b] X.env = [(false, eval b X.env)] := by rfl) (hl : ∀ ρ ds, f ρ = .ok ds → ds.length = 2) : IX X W tg (.Call (.Name "range" p) [a, b] [] pos) (iRange f) := by
  obtain ⟨t, q, ht⟩ := ha
  refine ⟨_, pi_range2 hg hm q hs hs2, fun σ H O ρ Q hO hv z => ht σ H O ρ _ hO hv ?_⟩
  unfold iRange at z
  cases e : f ρ with
  | bad => rw [e] at z; exact z
  | err c => rw [e] at z; exact z
  | ok ds =>
    rw [e, R.bind_ok] at z
    have l := hl ρ ds e
    intro vs H1 s1 r1
    match ds, l, r1, z with
    | [d1, d2], _, r1, z =>
      obtain ⟨v, w, rfl, rv, rw'⟩ := rps_two r1
      cases rv with
      | int i =>
        cases rw' with
        | int j =>
          by_cases c : (okI i && okI j) = true
          · simp only [if_pos c] at z
            rw [Bool.and_eq_true] at c
            obtain ⟨h1, h2⟩ := okI_of c.1
            obtain ⟨h3, h4⟩ := okI_of c.2
            exact ⟨i, j, rfl, ⟨h1, h2, h3, h4⟩, z _ H1 s1 iterR⟩
          · simp only [if_neg c] at z
        | _ => exact z.elim
      | _ => exact z.elim
/-! zip -/
def zipD : List PyData → List PyData → List PyData
  | d :: ds, e :: es => .tuple [d, e] :: zipD ds es
  | _, _ => []
theorem zipD_get : ∀ {ds es : List PyData} {i : Nat} {z : PyData}, (zipD ds es)[i]? = some z → ∃ d e, ds[i]? = some d ∧ es[i]? = some e ∧ z = .tuple [d, e]
  | [], _, _, _, h => by simp [zipD] at h
  | _ :: _, [], _, _, h => by simp [zipD] at h
  | d :: ds, e :: es, 0, z, h => by simp [zipD] at h; exact ⟨d, e, rfl, rfl, h.symm⟩
  | d :: ds, e :: es, i + 1, z, h => by
    have h' : (zipD ds es)[i]? = some z := by simpa [zipD] using h
    obtain ⟨x, y, h1, h2, h3⟩ := zipD_get h'
    exact ⟨x, y, by simpa using h1, by simpa using h2, h3⟩
theorem zipD_len : ∀ {ds es : List PyData} {i : Nat}, (zipD ds es).length ≤ i → ds.length ≤ i ∨ es.length ≤ i
  | [], _, _, _ => .inl (Nat.zero_le _)
  | _ :: _, [], _, _ => .inr (Nat.zero_le _)
  | d :: ds, e :: es, 0, h => by simp [zipD] at h
  | d :: ds, e :: es, i + 1, h => by
    rcases zipD_len (ds := ds) (es := es) (i := i) (by simpa [zipD] using h) with h | h
    · exact .inl (by simpa using h)
    · exact .inr (by simpa using h)
theorem iterZL {K : PySem.W.Frag} {F : Hp} {a b : Addr} {xs ys : List V} {ds es : List PyData} (h : SqL K F a xs) (r : Rps K F xs ds) (h' : SqL K F b ys) (r' : Rps K F ys es) : IterOk K (Itz K a b) F (zipD ds es) := fun i H O hO s => by
  have s' : Same F H := s.trans hide_sub
  have hH := seqL s' h
  have hH' := seqL s' h'
  refine ⟨fun d e => ?_, fun l => ⟨xs, ys, hH, hH', by rw [r.length, r'.length]; exact zipD_len l⟩⟩
  obtain ⟨d1, d2, e1, e2, rfl⟩ := zipD_get e
  obtain ⟨v, h1, h2⟩ := r.get e1
  obtain ⟨v', h1', h2'⟩ := r'.get e2
  refine ⟨⟨xs, ys, v, v', hH, hH', h1, h1'⟩, fun x H' y => ?_⟩
  obtain ⟨T, x1, x2, rfl, hT, rfl, y1, y2⟩ := y
  have h3 := y1 xs hH
  have h4 := y2 ys hH'
  rw [h1] at h3
  rw [h1'] at h4
  cases h3
  cases h4
  exact ⟨same_new hT, new_rep hO hT (.cons (h2.mono s) (.cons (h2'.mono s) .nil))⟩
theorem iterZT {K : PySem.W.Frag} {F : Hp} {a b : Addr} {xs ys : List V} {ds es : List PyData} (h : SqT K F a xs) (r : Rps K F xs ds) (h' : SqT K F b ys) (r' : Rps K F ys es) : IterOk K (RZ.ItzT K a b) F (zipD ds es) := fun i H O hO s => by
  have s' : Same F H := s.trans hide_sub
  have hH := seqT s' h
  have hH' := seqT s' h'
  refine ⟨fun d e => ?_, fun l => ⟨xs, ys, hH, hH', by rw [r.length, r'.length]; exact zipD_len l⟩⟩
  obtain ⟨d1, d2, e1, e2, rfl⟩ := zipD_get e
  obtain ⟨v, h1, h2⟩ := r.get e1
  obtain ⟨v', h1', h2'⟩ := r'.get e2
  refine ⟨⟨xs, ys, v, v', hH, hH', h1, h1'⟩, fun x H' y => ?_⟩
  obtain ⟨T, x1, x2, rfl, hT, rfl, y1, y2⟩ := y
  have h3 := y1 xs hH
  have h4 := y2 ys hH'
  rw [h1] at h3
  rw [h1'] at h4
  cases h3
  cases h4
  exact ⟨same_new hT, new_rep hO hT (.cons (h2.mono s) (.cons (h2'.mono s) .nil))⟩
def iZipD (f : Vars → R (List PyData)) (ρ : Vars) : R (List PyData) := (f ρ).bind fun ds => match ds with
  | [.list xs, .list ys] => .ok (zipD xs ys)
  | [.tuple xs, .tuple ys] => .ok (zipD xs ys)
  | _ => .bad
theorem ix_zip {e e2 : Expr} {f : Vars → R (List PyData)} {p pos tpos : Pos} {elts : List Expr} {kk : Nat} (hg : Gl X "zip") (hm : X.mg "zip" = none) (ha : AX X W [e, e2] f)
    (hs : starEach [e, e2] X.env = (false, eval e X.env) :: starEach [e2] X.env := by rfl) (hpl : (backTo pos (starEach [e2] X.env)).any (·.1) = false := by rfl) : IX X W (.Tuple elts kk tpos) (.Call (.Name "zip" p) [e, e2] [] pos) (iZipD f) := by
  obtain ⟨t, q, ht⟩ := ha
  refine ⟨_, RZ.pi_zipA hg hm q hs hpl, fun σ H O ρ Q hO hv z => ht σ H O ρ _ hO hv ?_⟩
  unfold iZipD at z
  cases e : f ρ with
  | bad => rw [e] at z; exact z
  | err c => rw [e] at z; exact z
  | ok ds =>
    rw [e, R.bind_ok] at z
    have key : (∃ xs ys, ds = [.list xs, .list ys] ∧ ∀ J H', Same H H' → IterOk X.K J (hide O H') (zipD xs ys) → Q J H') ∨ (∃ xs ys, ds = [.tuple xs, .tuple ys] ∧ ∀ J H', Same H H' → IterOk X.K J (hide O H') (zipD xs ys) → Q J H') := by
      clear e
      split at z
      · rename_i q
        split at q
        · cases q; exact .inl ⟨_, _, rfl, z⟩
        · cases q; exact .inr ⟨_, _, rfl, z⟩
        · cases q
      · rename_i q
        split at q <;> cases q
      · exact z.elim
    intro vs H1 s1 r1
    rcases key with ⟨xs, ys, rfl, z⟩ | ⟨xs, ys, rfl, z⟩
    · obtain ⟨v, w, rfl, rv, rw'⟩ := rps_two r1
      cases rv with
      | lst hx rs => cases rw' with
        | lst hy rt => exact ⟨_, _, _, _, rfl, .inl ⟨seqL hide_sub hx, seqL hide_sub hy, z _ H1 s1 (iterZL hx rs hy rt)⟩⟩
    · obtain ⟨v, w, rfl, rv, rw'⟩ := rps_two r1
      cases rv with
      | tup hx rs => cases rw' with
        | tup hy rt => exact ⟨_, _, _, _, rfl, .inr ⟨seqT hide_sub hx, seqT hide_sub hy, z _ H1 s1 (iterZT hx rs hy rt)⟩⟩
end
end Pu
set_option Elab.async false
set_option linter.all false
set_option maxRecDepth 100000
set_option maxHeartbeats 4000000
namespace Pu
open PySem PySem.Spec PyProof.Rows L2
/-! ### comprehensions -/
def W0 : WX := fun _ _ _ _ => False
theorem takesBlk {X : Cx} : Takes X W0 := takes0
/-- the slots of the block's own names forgotten -/
def wipeD (ρ : Vars) : List Nat → Vars
  | [] => ρ
  | v :: vs => (wipeD ρ vs).set v none
theorem wipeD_length (ρ : Vars) : ∀ vs : List Nat, (wipeD ρ vs).length = ρ.length
  | [] => rfl
  | v :: vs => by unfold wipeD; rw [List.length_set, wipeD_length ρ vs]
theorem wipeD_some {ρ : Vars} {i : Nat} {d : PyData} : ∀ {vs : List Nat}, (wipeD ρ vs)[i]? = some (some d) → ρ[i]? = some (some d) ∧ i ∉ vs
  | [], h => ⟨h, by simp⟩
  | v :: vs, h => by
    unfold wipeD at h
    by_cases hi : v = i
    · subst hi
      by_cases hv : v < (wipeD ρ vs).length
      · rw [List.getElem?_set_self hv] at h; cases h
      · rw [List.getElem?_eq_none (by simpa using hv)] at h; cases h
    · rw [List.getElem?_set_ne hi] at h
      obtain ⟨h1, h2⟩ := wipeD_some h
      exact ⟨h1, by simp only [List.mem_cons, not_or]; exact ⟨fun e => hi e.symm, h2⟩⟩
theorem wipe_at {σ : L2.St} {i : Nat} : ∀ {vs : List Nat}, i ∉ vs → (wipe σ vs)[i]? = σ[i]?
  | [], _ => rfl
  | v :: vs, h => by
    simp only [List.mem_cons, not_or] at h
    unfold wipe
    rw [List.getElem?_set_ne (fun e => h.1 e.symm), wipe_at h.2]
theorem wipe_in {σ : L2.St} {i : Nat} : ∀ {vs : List Nat}, i ∈ vs → i < σ.length → (wipe σ vs)[i]? = some none
  | [], h, _ => absurd h (by simp)
  | v :: vs, h, hl => by
    unfold wipe
    by_cases c : v = i
    · subst c
      rw [List.getElem?_set_self (by rw [wipe_length]; exact hl)]
    · rw [List.getElem?_set_ne c]
      refine wipe_in ?_ hl
      rcases List.mem_cons.mp h with e | h
      · exact absurd e.symm c
      · exact h
theorem vrel_wipe {K : PySem.W.Frag} {F : Hp} {σ : L2.St} {ρ : Vars} {vs : List Nat} (h : VRel K F σ ρ) : VRel K F (wipe σ vs) (wipeD ρ vs) := ⟨by rw [wipe_length, wipeD_length]; exact h.len, fun i d e => by
  obtain ⟨h1, h2⟩ := wipeD_some e
  obtain ⟨v, h3, h4⟩ := h.get i d h1
  exact ⟨v, by rw [wipe_at h2]; exact h3, h4⟩⟩
theorem wipe_eq {σ σ' : L2.St} {js vs : List Nat} (hl : σ'.length = (wipe σ vs).length) (h : ∀ j : Nat, j ∉ js → σ'[j]? = (wipe σ vs)[j]?) (hs : ∀ j ∈ js, j ∈ vs) : wipe σ' vs = wipe σ vs := by
  apply List.ext_getElem?
  intro i
  rw [wipe_length] at hl
  by_cases hi : i ∈ vs
  · by_cases c : i < σ.length
    · rw [wipe_in hi c, wipe_in hi (by omega)]
    · rw [List.getElem?_eq_none (by rw [wipe_length]; omega), List.getElem?_eq_none (by rw [wipe_length]; omega)]
  · rw [wipe_at hi, h i fun z => hi (hs i z)]
/-- the elements that a comprehension makes of the items -/
def lcL (gt : PyData → Vars → Option Vars) (tt : Vars → R Bool) (f : Vars → R PyData) (ρ : Vars) : List PyData → R (List PyData)
  | [] => .ok []
  | d :: ds => match gt d ρ with
    | none => .bad
    | some ρ' => (tt ρ').bind fun b => if b = true then (f ρ').bind fun y => (lcL gt tt f ρ ds).bind fun ys => .ok (y :: ys) else lcL gt tt f ρ ds
def nLc (fi : Vars → R (List PyData)) (gt : PyData → Vars → Option Vars) (tt : Vars → R Bool) (f : Vars → R PyData) (vs : List Nat) (ρ : Vars) : R (List PyData) :=
  (fi ρ).bind fun ds => match lcL gt tt f (wipeD ρ vs) ds with
    | .ok ys => if ys.length < sizeLine then .ok ys else .bad
    | _ => .bad
def eLc (fi : Vars → R (List PyData)) (gt : PyData → Vars → Option Vars) (tt : Vars → R Bool) (f : Vars → R PyData) (vs : List Nat) (ρ : Vars) : R PyData := (nLc fi gt tt f vs ρ).bind fun ys => .ok (.list ys)
/-- a new list: its items -/
def NOut (X : Cx) (W : WX) (O : List Addr) (σ : L2.St) (H : Hp) (Q : VK) : R (List PyData) → Prop
  | .ok ds => ∀ p vs H', Same H H' → H p = none → H' p = some (.lst vs) → Rps X.K (hide (p :: O) H') vs ds → Q (.ref p) H'
  | .err c => ∀ H', Same H H' → W (exV X.mg c) none σ H'
  | .bad => False
def tYesD (_ : Vars) : R Bool := .ok true
def TsX (X : Cx) (W : WX) (ifs : List Expr) (f : Vars → R Bool) : Prop :=
  ∃ t, PTs X ifs t ∧ ∀ σ H O ρ Q, Stands O H → VRel X.K (hide O H) σ ρ → TOut X W σ H Q (f ρ) → t σ H Q
section
variable {X : Cx} {W : WX}
theorem TsX.pts {ifs : List Expr} {f : Vars → R Bool} (h : TsX X W ifs f) : PTs X ifs (tT X W f) := by
  obtain ⟨t, p, ht⟩ := h
  exact ⟨fun pins s σ H Q I ⟨O, ρ, h1, h2, h3⟩ => p.run pins s σ H Q I (ht σ H O ρ Q h1 h2 h3)⟩
theorem tsx_nil : TsX X W [] tYesD := ⟨_, pts_nil, fun σ H O ρ Q _ _ q => q H (Same.refl H)⟩
theorem tsx_one {c : Expr} {f : Vars → R Bool} (h : TX X W c f) : TsX X W [c] f := by
  obtain ⟨t, p, ht⟩ := h
  exact ⟨_, pts_one p, ht⟩
end
section
variable {X : Cx} {W : WX}
/-- the new list's reading: Q is asked at each new list whose items stand for the data -/
theorem lc_run {wi : TI} {vs js : List Nat} {fi : Vars → R (List PyData)} {gt : PyData → Vars → Option Vars} {ft : Vars → R Bool} {f : Vars → R PyData}
    (hi : ∀ σ H O ρ (Q : It → Hp → Prop), Stands O H → VRel X.K (hide O H) σ ρ → (match fi ρ with
      | .ok ds => ∀ J H', Same H H' → IterOk X.K J (hide O H') ds → Q J H'
      | .err c => ∀ H', Same H H' → W (exV X.mg c) none σ H'
      | .bad => False) → wi σ H Q)
    (hjs : ∀ j ∈ js, j ∈ vs) {σ : L2.St} {H : Hp} {O : List Addr} {ρ : Vars} {Q : VK} (hO : Stands O H) (hv : VRel X.K (hide O H) σ ρ)
    (z : NOut X W O σ H Q (nLc fi gt ft f vs ρ)) : tLc wi (tG X js gt) (tT X W0 ft) (tE X W0 f) vs σ H Q := by
  refine hi σ H O ρ _ hO hv ?_
  unfold nLc at z
  cases e : fi ρ with
  | bad => rw [e] at z; exact z
  | err c => rw [e] at z; exact z
  | ok ds =>
    rw [e, R.bind_ok] at z
    intro J H1 s1 hJ D hD
    cases e2 : lcL gt ft f (wipeD ρ vs) ds with
    | bad => rw [e2] at z; exact z.elim
    | err c => rw [e2] at z; exact z.elim
    | ok ys =>
      rw [e2] at z
      dsimp only at z
      by_cases hsz : ys.length < sizeLine
      case neg => rw [if_neg hsz] at z; exact z.elim
      rw [if_pos hsz] at z
      have hO1 := hO.same s1
      have hDO : D ∉ O := hO1.new hD
      have hHD : H D = none := s1.free hD
      -- the invariant
      refine ⟨fun i m H2 => m = ds.length - i ∧ i ≤ ds.length ∧ Same (hide O H1) (hide (D :: O) H2) ∧ Same H1 (fun a => if a = D then none else H2 a) ∧ ∃ acc as rest, H2 D = some (.lst acc) ∧ Rps X.K (hide (D :: O) H2) acc as ∧ lcL gt ft f (wipeD ρ vs) (ds.drop i) = .ok rest ∧ as ++ rest = ys, ⟨ds.length, rfl, Nat.zero_le _, fun a o h => ?_, fun a o h => ?_, [], [], ys, upd_same, .nil, by rw [List.drop_zero]; exact e2, rfl⟩, ?_⟩
      · obtain ⟨c, q⟩ := hide_some h
        have n : a ≠ D := ne_of_none q hD
        refine hide_of (fun zz => ?_) (by rw [upd_ne n]; exact q)
        rcases List.mem_cons.mp zz with r | r
        · exact n r
        · exact c r
      · have n : a ≠ D := ne_of_none h hD
        show (if a = D then none else upd H1 D (.lst []) a) = some o
        rw [if_neg n, upd_ne n]; exact h
      rintro i m H2 ⟨rfl, hle, sF, sH, acc, as, rest, hD2, rAcc, eRest, eYs⟩
      have hO2 : Stands (D :: O) H2 := fun a ha => by
        rcases List.mem_cons.mp ha with r | r
        · rw [r, hD2]; exact fun z => nomatch z
        · have n : a ≠ D := fun z => hDO (z ▸ r)
          cases q : H1 a with
          | none => exact absurd q (hO1 a r)
          | some o =>
            have := sH a o q
            rw [show (fun a => if a = D then none else H2 a) a = H2 a from if_neg n] at this
            rw [this]; exact fun z => nomatch z
      obtain ⟨j1, j2⟩ := hJ i H2 (D :: O) hO2 sF
      have s12 : Same H1 H2 := fun a o h => by
        have n : a ≠ D := ne_of_none h hD
        have := sH a o h
        rw [show (fun a => if a = D then none else H2 a) a = H2 a from if_neg n] at this
        exact this
      by_cases hlt : i < ds.length
      · have hd : ds[i]? = some ds[i] := List.getElem?_eq_getElem hlt
        obtain ⟨g1, g2⟩ := j1 _ hd
        have hdrop : ds.drop i = ds[i] :: ds.drop (i + 1) := List.drop_eq_getElem_cons hlt
        rw [hdrop] at eRest
        unfold lcL at eRest
        cases eg : gt ds[i] (wipeD ρ vs) with
        | none => rw [eg] at eRest; cases eRest
        | some ρ1 =>
          rw [eg] at eRest
          dsimp only at eRest
          refine .inr ⟨g1, fun H' => (i + 1 ≤ ds.length ∧ Same (hide O H1) (hide (D :: O) H') ∧ Same H1 (fun a => if a = D then none else H' a) ∧ ∃ acc as rest, H' D = some (.lst acc) ∧ Rps X.K (hide (D :: O) H') acc as ∧ lcL gt ft f (wipeD ρ vs) (ds.drop (i + 1)) = .ok rest ∧ as ++ rest = ys),
            fun H' hn => ⟨ds.length - (i + 1), by omega, rfl, hn.1, hn.2⟩, fun x H3 y => ?_⟩
          obtain ⟨s23, rx⟩ := g2 x H3 y
          have hO3 := hO2.same s23
          have v2 : VRel X.K (hide (D :: O) H3) (wipe σ vs) (wipeD ρ vs) := by
            exact (vrel_wipe (hv.mono (hide_same s1))).mono (sF.trans (hide_same s23))
          have nx : ∀ (H' : Hp) (acc' : List V) (as' rest' : List PyData), Same H3 H' ∨ (∃ H5, Same H3 H5 ∧ H' = upd H5 D (.lst acc')) → H' D = some (.lst acc') → Rps X.K (hide (D :: O) H') acc' as' → lcL gt ft f (wipeD ρ vs) (ds.drop (i + 1)) = .ok rest' → as' ++ rest' = ys →
              i + 1 ≤ ds.length ∧ Same (hide O H1) (hide (D :: O) H') ∧ Same H1 (fun a => if a = D then none else H' a) ∧ ∃ acc as rest, H' D = some (.lst acc) ∧ Rps X.K (hide (D :: O) H') acc as ∧ lcL gt ft f (wipeD ρ vs) (ds.drop (i + 1)) = .ok rest ∧ as ++ rest = ys := fun H' acc' as' rest' hs hD' rr el ey => by
            have tr : ∀ a o, a ≠ D → H3 a = some o → H' a = some o := fun a o n h => by
              rcases hs with hs | ⟨H5, hs, rfl⟩
              · exact hs a o h
              · rw [upd_ne n]; exact hs a o h
            refine ⟨hlt, fun a o h => ?_, fun a o h => ?_, acc', as', rest', hD', rr, el, ey⟩
            · obtain ⟨c, q⟩ := hide_some (sF a o h)
              exact hide_of c (tr a o (fun z => c (by simp [z])) (s23 a o q))
            · have n : a ≠ D := ne_of_none h hD
              show (if a = D then none else H' a) = some o
              rw [if_neg n]
              exact tr a o n (s23 a o (s12 a o h))
          refine ⟨ds[i], D :: O, _, ρ1, hO3, v2, rx, eg, fun σ3 v3 m3 f3 => ⟨wipe_eq m3 (fun j hj => (f3 j hj).1) hjs, ?_⟩⟩
          refine ⟨D :: O, ρ1, hO3, v3, ?_⟩
          cases et : ft ρ1 with
          | bad => rw [et] at eRest; cases eRest
          | err c => rw [et] at eRest; cases eRest
          | ok b =>
            rw [et, R.bind_ok] at eRest
            intro H4 s34
            cases b with
            | false =>
              simp only [Bool.false_eq_true, if_false] at eRest ⊢
              exact nx H4 acc as rest (.inl s34) (s34 _ _ (s23 _ _ hD2)) (rAcc.mono (hide_same (s23.trans s34))) eRest eYs
            | true =>
              simp only [if_true] at eRest ⊢
              refine ⟨D :: O, ρ1, hO3.same s34, v3.mono (hide_same s34), ?_⟩
              cases ef : f ρ1 with
              | bad => rw [ef] at eRest; cases eRest
              | err c => rw [ef] at eRest; cases eRest
              | ok yv =>
                rw [ef, R.bind_ok] at eRest
                obtain ⟨rr, el⟩ : ∃ rr, lcL gt ft f (wipeD ρ vs) (ds.drop (i + 1)) = rr := ⟨_, rfl⟩
                cases rr with
                | bad => rw [el] at eRest; cases eRest
                | err c => rw [el] at eRest; cases eRest
                | ok rest' =>
                  rw [el, R.bind_ok] at eRest
                  have er : yv :: rest' = rest := R.ok.inj eRest
                  subst er
                  intro v H5 s45 rv
                  have s25 := (s23.trans s34).trans s45
                  refine ⟨acc, s25 _ _ hD2, ?_, ?_⟩
                  · have l1 := rAcc.length
                    rw [← eYs, List.length_append, List.length_cons] at hsz
                    omega
                  · have hid : ∀ o', hide (D :: O) (upd H5 D o') = hide (D :: O) H5 := fun o' => by
                      funext a
                      unfold hide
                      by_cases c : a ∈ D :: O
                      · rw [if_pos c, if_pos c]
                      · rw [if_neg c, if_neg c, upd_ne (fun z => c (by simp [z]))]
                    refine nx _ (acc ++ [v]) (as ++ [yv]) rest' (.inr ⟨H5, s34.trans s45, rfl⟩) upd_same ?_ el (by rw [List.append_assoc]; exact eYs)
                    rw [hid]
                    exact (rAcc.mono (hide_same s25)).append (.cons rv .nil)
      · have e3 : i = ds.length := by omega
        subst e3
        refine .inl ⟨j2 (Nat.le_refl _), ?_⟩
        rw [List.drop_length] at eRest
        cases eRest
        rw [List.append_nil] at eYs
        subst eYs
        exact z D acc H2 (s1.trans s12) hHD hD2 rAcc
theorem rps_less {K : PySem.W.Frag} {H : Hp} {p : Addr} {O : List Addr} {xs : List V} {ys : List PyData} (h : Rps K (hide (p :: O) H) xs ys) : Rps K (hide O H) xs ys := h.mono (hide_less fun a ha => List.mem_cons_of_mem _ ha)
section
variable {elt tg iter : Expr} {ifs : List Expr} {scope : Scope} {own : List (Str × Nat)} {pos : Pos} {js : List Nat} {fi : Vars → R (List PyData)} {gt : PyData → Vars → Option Vars} {ft : Vars → R Bool} {f : Vars → R PyData}
theorem pe_lcD (hc : X.calm = true) (hN : X.N.Nodup) (hi : IX X W tg iter fi) (ok : BlkOk X.N X.env.scope scope own)
    (hg : ∀ (s : Shared) (H : Hp) (C : Addr) (cl : List (Str × Addr)) (fp : List Addr), GX (X.blk s H scope (compEnvC scope cl C X.env) fp) tg js gt) (ht : ∀ (s : Shared) (H : Hp) (C : Addr) (cl : List (Str × Addr)) (fp : List Addr), TsX (X.blk s H scope (compEnvC scope cl C X.env) fp) W0 ifs ft)
    (he : ∀ (s : Shared) (H : Hp) (C : Addr) (cl : List (Str × Addr)) (fp : List Addr), EX (X.blk s H scope (compEnvC scope cl C X.env) fp) W0 elt f) (hs : ∀ x, foldedSetIterable iter X.env x = pure x := by intro _; rfl) :
    ∃ wi : TI, PE X (.ListComp elt [⟨tg, iter, ifs, 0⟩] scope pos) (tLc wi (tG X js gt) (tT X W0 ft) (tE X W0 f) (own.map (·.2))) ∧ ∀ σ H O ρ (Q : It → Hp → Prop), Stands O H → VRel X.K (hide O H) σ ρ → (match fi ρ with
      | .ok ds => ∀ J H', Same H H' → IterOk X.K J (hide O H') ds → Q J H'
      | .err c => ∀ H', Same H H' → W (exV X.mg c) none σ H'
      | .bad => False) → wi σ H Q := by
  obtain ⟨wi, p, hwi⟩ := hi
  exact ⟨wi, pe_lc hc hN p ok (fun s H C cl fp => (hg s H C cl fp).pg) (fun s H C cl fp => (ht s H C cl fp).pts) (fun s H C cl fp => (he s H C cl fp).pe) hs, hwi⟩
theorem eLc_to {vs : List Nat} {σ : L2.St} {H : Hp} {O : List Addr} {ρ : Vars} {Q : VK} (hO : Stands O H) (z : EOut X W O σ H Q (eLc fi gt ft f vs ρ)) : NOut X W O σ H Q (nLc fi gt ft f vs ρ) := by
  unfold eLc at z
  cases e : nLc fi gt ft f vs ρ with
  | bad => rw [e] at z; exact z
  | err c => rw [e] at z; exact z
  | ok ys =>
    rw [e, R.bind_ok] at z
    exact fun p xs H' s hp h' r => z _ H' s (.lst (.inl (.inl (hide_of (hO.new hp) h'))) (rps_less r))
theorem ex_lc (hc : X.calm = true) (hN : X.N.Nodup) (hi : IX X W tg iter fi) (ok : BlkOk X.N X.env.scope scope own)
    (hg : ∀ (s : Shared) (H : Hp) (C : Addr) (cl : List (Str × Addr)) (fp : List Addr), GX (X.blk s H scope (compEnvC scope cl C X.env) fp) tg js gt) (ht : ∀ (s : Shared) (H : Hp) (C : Addr) (cl : List (Str × Addr)) (fp : List Addr), TsX (X.blk s H scope (compEnvC scope cl C X.env) fp) W0 ifs ft)
    (he : ∀ (s : Shared) (H : Hp) (C : Addr) (cl : List (Str × Addr)) (fp : List Addr), EX (X.blk s H scope (compEnvC scope cl C X.env) fp) W0 elt f) (hjs : (js.all fun j => (own.map (·.2)).contains j) = true) (hs : ∀ x, foldedSetIterable iter X.env x = pure x := by intro _; rfl) :
    EX X W (.ListComp elt [⟨tg, iter, ifs, 0⟩] scope pos) (eLc fi gt ft f (own.map (·.2))) := by
  obtain ⟨wi, p, hwi⟩ := pe_lcD (pos := pos) hc hN hi ok hg ht he hs
  have hj : ∀ j ∈ js, j ∈ own.map (·.2) := fun j h => by simpa using List.all_eq_true.mp hjs j h
  exact ⟨_, p, fun σ H O ρ Q hO hv z => lc_run hwi hj hO hv (eLc_to hO z)⟩
end
end
end Pu
set_option Elab.async false
set_option linter.all false
set_option maxRecDepth 100000
set_option maxHeartbeats 4000000
namespace Pu
open PySem PySem.Spec PyProof.Rows L2
/-! ### statements -/
inductive Out where
  | nx (ρ : Vars) | rt (d : PyData) | bk (ρ : Vars) | ct (ρ : Vars) | err (c : Str) (ρ : Vars) | bad
def Out.then (o : Out) (f : Vars → Out) : Out := match o with
  | .nx ρ => f ρ
  | .rt d => .rt d
  | .bk ρ => .bk ρ
  | .ct ρ => .ct ρ
  | .err c ρ => .err c ρ
  | .bad => .bad
@[simp] theorem Out.then_nx (ρ : Vars) (f : Vars → Out) : (Out.nx ρ).then f = f ρ := rfl
@[simp] theorem Out.then_rt (d : PyData) (f : Vars → Out) : (Out.rt d).then f = .rt d := rfl
@[simp] theorem Out.then_bk (ρ : Vars) (f : Vars → Out) : (Out.bk ρ).then f = .bk ρ := rfl
@[simp] theorem Out.then_ct (ρ : Vars) (f : Vars → Out) : (Out.ct ρ).then f = .ct ρ := rfl
@[simp] theorem Out.then_err (c : Str) (ρ : Vars) (f : Vars → Out) : (Out.err c ρ).then f = .err c ρ := rfl
@[simp] theorem Out.then_bad (f : Vars → Out) : Out.bad.then f = .bad := rfl
/-- an expression's answer goes on -/
def R.run {α : Type} (r : R α) (ρ : Vars) (k : α → Out) : Out := match r with
  | .ok a => k a
  | .err c => .err c ρ
  | .bad => .bad
@[simp] theorem R.run_ok {α : Type} (a : α) (ρ : Vars) (k : α → Out) : (R.ok a).run ρ k = k a := rfl
@[simp] theorem R.run_err {α : Type} (c : Str) (ρ : Vars) (k : α → Out) : (R.err c : R α).run ρ k = .err c ρ := rfl
@[simp] theorem R.run_bad {α : Type} (ρ : Vars) (k : α → Out) : (R.bad : R α).run ρ k = .bad := rfl
/-- a body's state. own: the slots of lists that are changed here; O0: what is hidden from the def; O: and those lists -/
structure Rel (K : PySem.W.Frag) (own : List Nat) (H0 : Hp) (O0 O : List Addr) (σ : L2.St) (H : Hp) (ρ : Vars) : Prop where
  same : Same H0 H
  st0 : Stands O0 H0
  len : σ.length = ρ.length
  sub : ∀ a ∈ O0, a ∈ O
  lists : ∀ a ∈ O, a ∈ O0 ∨ (H0 a = none ∧ ∃ xs, H a = some (.lst xs))
  free : ∀ (i : Nat) (d : PyData), i ∉ own → ρ[i]? = some (some d) → ∃ v, σ[i]? = some (some v) ∧ Rp K (hide O H) v d
  mine : ∀ (i : Nat) (d : PyData), i ∈ own → ρ[i]? = some (some d) → ∃ a vs ds, d = .list ds ∧ σ[i]? = some (some (.ref a)) ∧ a ∈ O ∧ H0 a = none ∧ H a = some (.lst vs) ∧ Rps K (hide O H) vs ds
  apart : ∀ (i j : Nat) (d e : PyData) (a : Addr), i ∈ own → j ∈ own → ρ[i]? = some (some d) → ρ[j]? = some (some e) → σ[i]? = some (some (.ref a)) → σ[j]? = some (some (.ref a)) → i = j
section
variable {K : PySem.W.Frag} {own : List Nat} {H0 : Hp} {O0 O : List Addr} {σ : L2.St} {H H' : Hp} {ρ : Vars}
theorem Rel.notO0 (r : Rel K own H0 O0 O σ H ρ) {a : Addr} (h : H0 a = none) : a ∉ O0 := fun z => r.st0 a z h
theorem Rel.stands0 (r : Rel K own H0 O0 O σ H ρ) : Stands O0 H := r.st0.same r.same
theorem Rel.stands (r : Rel K own H0 O0 O σ H ρ) : Stands O H := fun a ha => by
  rcases r.lists a ha with h | ⟨_, xs, h⟩
  · exact r.stands0 a h
  · rw [h]; exact fun z => nomatch z
/-- every variable may be read: the own lists are shown -/
theorem Rel.vrel0 (r : Rel K own H0 O0 O σ H ρ) : VRel K (hide O0 H) σ ρ := ⟨r.len, fun i d e => by
  by_cases c : i ∈ own
  · obtain ⟨a, vs, ds, rfl, h1, _, h3, h4, h5⟩ := r.mine i d c e
    exact ⟨.ref a, h1, .lst (.inl (.inl (hide_of (r.notO0 h3) h4))) (h5.mono (hide_less r.sub))⟩
  · obtain ⟨v, h1, h2⟩ := r.free i d c e
    exact ⟨v, h1, h2.mono (hide_less r.sub)⟩⟩
theorem Rel.vrel (r : Rel K [] H0 O0 O σ H ρ) : VRel K (hide O H) σ ρ := ⟨r.len, fun i d e => r.free i d (by simp) e⟩
theorem Rel.step (r : Rel K own H0 O0 O σ H ρ) (s : Same H H') : Rel K own H0 O0 O σ H' ρ where
  same := r.same.trans s
  st0 := r.st0
  len := r.len
  sub := r.sub
  lists := fun a ha => (r.lists a ha).imp id fun ⟨h1, xs, h2⟩ => ⟨h1, xs, s _ _ h2⟩
  free := fun i d c e => by
    obtain ⟨v, h1, h2⟩ := r.free i d c e
    exact ⟨v, h1, h2.mono (hide_same s)⟩
  mine := fun i d c e => by
    obtain ⟨a, vs, ds, h0, h1, h2, h3, h4, h5⟩ := r.mine i d c e
    exact ⟨a, vs, ds, h0, h1, h2, h3, s _ _ h4, h5.mono (hide_same s)⟩
  apart := r.apart
/-- data without lists stand for themselves whatever is hidden -/
theorem Rel.imm (r : Rel K own H0 O0 O σ H ρ) {v : V} {d : PyData} (h : Rp K (hide O0 H) v d) (e : imm d = true) : Rp K (hide O H) v d :=
  h.imm (fun a xs q => by
    rcases q with (q | ⟨o, q⟩) | q
    · obtain ⟨c, q⟩ := hide_some q
      refine .inl (.inl (hide_of (fun z => ?_) q))
      rcases r.lists a z with h | ⟨_, ys, h⟩
      · exact c h
      · rw [q] at h; cases h
    · obtain ⟨c, q⟩ := hide_some q
      refine .inl (.inr ⟨o, hide_of (fun z => ?_) q⟩)
      rcases r.lists a z with h | ⟨_, ys, h⟩
      · exact c h
      · rw [q] at h; cases h
    · exact .inr q) e
/-- a slot of no own list is set -/
theorem Rel.set (r : Rel K own H0 O0 O σ H ρ) {i : Nat} {v : V} {d : PyData} (c : i ∉ own) (h : Rp K (hide O H) v d) : Rel K own H0 O0 O (σ.set i (some v)) H (ρ.set i (some d)) where
  same := r.same
  st0 := r.st0
  len := by simpa using r.len
  sub := r.sub
  lists := r.lists
  free := fun j e cj q => by
    have hl := r.len
    by_cases z : i = j
    · subst z
      by_cases hi : i < ρ.length
      · rw [List.getElem?_set_self hi] at q
        cases q
        exact ⟨v, List.getElem?_set_self (by omega), h⟩
      · rw [List.getElem?_eq_none (by simpa using hi)] at q; cases q
    · rw [List.getElem?_set_ne z] at q
      rw [List.getElem?_set_ne z]
      exact r.free j e cj q
  mine := fun j e cj q => by
    have z : i ≠ j := fun z => c (z ▸ cj)
    rw [List.getElem?_set_ne z] at q
    rw [List.getElem?_set_ne z]
    exact r.mine j e cj q
  apart := fun j k d e a cj ck q1 q2 e1 e2 => by
    have z : i ≠ j := fun z => c (z ▸ cj)
    have z2 : i ≠ k := fun z => c (z ▸ ck)
    rw [List.getElem?_set_ne z] at q1 e1
    rw [List.getElem?_set_ne z2] at q2 e2
    exact r.apart j k d e a cj ck q1 q2 e1 e2
/-- the other variables -/
theorem Rel.vrelM (r : Rel K own H0 O0 O σ H ρ) : VRel K (hide O H) σ (mask own ρ) := ⟨by unfold mask; rw [maskF_len]; exact r.len, fun i d e => by
  obtain ⟨c, q⟩ := mask_some e
  exact r.free i d c q⟩
/-- slots of no own list are changed -/
theorem Rel.other (r : Rel K own H0 O0 O σ H ρ) {σ' : L2.St} {ρ' : Vars} {js : List Nat} (hj : ∀ j ∈ js, j ∉ own) (hl : σ'.length = σ.length) (v : VRel K (hide O H) σ' (mask own ρ')) (f : ∀ j : Nat, j ∉ js → σ'[j]? = σ[j]? ∧ (mask own ρ')[j]? = (mask own ρ)[j]?) (f2 : ∀ j ∈ own, ρ'[j]? = ρ[j]?) : Rel K own H0 O0 O σ' H ρ' where
  same := r.same
  st0 := r.st0
  len := by have := v.len; unfold mask at this; rw [maskF_len] at this; exact this
  sub := r.sub
  lists := r.lists
  free := fun i d c e => v.get i d (mask_of c e)
  mine := fun i d c e => by
    have nj : i ∉ js := fun z => hj i z c
    rw [f2 i c] at e
    rw [(f i nj).1]
    exact r.mine i d c e
  apart := fun i j d e a ci cj q1 q2 e1 e2 => by
    have ni : i ∉ js := fun z => hj i z ci
    have nj : j ∉ js := fun z => hj j z cj
    rw [f2 i ci] at q1
    rw [f2 j cj] at q2
    rw [(f i ni).1] at e1
    rw [(f j nj).1] at e2
    exact r.apart i j d e a ci cj q1 q2 e1 e2
/-- an own list is from now on a list like others -/
theorem Rel.freeze (r : Rel K own H0 O0 O σ H ρ) {own' : List Nat} (h : ∀ i ∈ own', i ∈ own) : ∃ O', Rel K own' H0 O0 O' σ H ρ ∧ Same (hide O H) (hide O' H) := by
  classical
  let P : Addr → Prop := fun a => a ∈ O0 ∨ ∃ i ∈ own', σ[i]? = some (some (V.ref a)) ∧ ∃ d, ρ[i]? = some (some d)
  have hm : ∀ a, a ∈ O.filter (fun a => decide (P a)) ↔ a ∈ O ∧ P a := fun a => by simp [List.mem_filter]
  have sF : Same (hide O H) (hide (O.filter fun a => decide (P a)) H) := hide_less fun a ha => ((hm a).mp ha).1
  refine ⟨O.filter fun a => decide (P a), ⟨r.same, r.st0, r.len, fun a ha => (hm a).mpr ⟨r.sub a ha, .inl ha⟩, fun a ha => r.lists a ((hm a).mp ha).1, fun i d c e => ?_, fun i d c e => ?_, fun i j d e a ci cj => r.apart i j d e a (h i ci) (h j cj)⟩, sF⟩
  · by_cases ci : i ∈ own
    · obtain ⟨a, vs, ds, rfl, h1, h2, h3, h4, h5⟩ := r.mine i d ci e
      refine ⟨.ref a, h1, .lst (.inl (.inl (hide_of (fun z => ?_) h4))) (h5.mono sF)⟩
      rcases ((hm a).mp z).2 with z | ⟨j, hj, e1, d', e2⟩
      · exact r.notO0 h3 z
      · exact c (r.apart i j _ _ a ci (h j hj) e e2 h1 e1 ▸ hj)
    · obtain ⟨v, h1, h2⟩ := r.free i d ci e
      exact ⟨v, h1, h2.mono sF⟩
  · obtain ⟨a, vs, ds, h0, h1, h2, h3, h4, h5⟩ := r.mine i d (h i c) e
    exact ⟨a, vs, ds, h0, h1, (hm a).mpr ⟨h2, .inr ⟨i, c, h1, d, e⟩⟩, h3, h4, h5.mono sF⟩
end
/-! ### the judgement -/
section
variable (X : Cx) (W : WX) (own : List Nat)
def SOut (H0 : Hp) (O0 O : List Addr) (H : Hp) (D : Ends) : Out → Prop
  | .nx ρ => ∀ σ' H' O', Rel X.K own H0 O0 O' σ' H' ρ → Same (hide O H) (hide O' H') → D.nx σ' H'
  | .rt d => ∀ v H', Same H0 H' → Rp X.K (hide O0 H') v d → D.rt v H'
  | .bk ρ => ∀ σ' H' O', Rel X.K own H0 O0 O' σ' H' ρ → Same (hide O H) (hide O' H') → D.bk σ' H'
  | .ct ρ => ∀ σ' H' O', Rel X.K own H0 O0 O' σ' H' ρ → Same (hide O H) (hide O' H') → D.ct σ' H'
  | .err c ρ => ∀ σ' H' O', Rel X.K own H0 O0 O' σ' H' ρ → Same (hide O H) (hide O' H') → W (exV X.mg c) none σ' H'
  | .bad => False
def tS (g : Vars → Out) : TS := fun D σ H => ∃ H0 O0 O ρ, Rel X.K own H0 O0 O σ H ρ ∧ SOut X W own H0 O0 O H D (g ρ)
def SX (st : Stmt) (g : Vars → Out) : Prop :=
  ∃ t, PS X st t ∧ ∀ σ H ρ D H0 O0 O, Rel X.K own H0 O0 O σ H ρ → SOut X W own H0 O0 O H D (g ρ) → t D σ H
def SsX (sts : List Stmt) (g : Vars → Out) : Prop :=
  ∃ t, PSs X sts t ∧ ∀ σ H ρ D H0 O0 O, Rel X.K own H0 O0 O σ H ρ → SOut X W own H0 O0 O H D (g ρ) → t D σ H
end
section
variable {X : Cx} {W : WX} {own : List Nat}
theorem SsX.pss {sts : List Stmt} {g : Vars → Out} (h : SsX X W own sts g) : PSs X sts (tS X W own g) := by
  obtain ⟨t, p, ht⟩ := h
  exact ⟨fun pins s σ H D I ⟨H0, O0, O, ρ, h1, h2⟩ => p.run pins s σ H D I (ht σ H ρ D H0 O0 O h1 h2)⟩
theorem SOut.from {H0 : Hp} {O0 O O' : List Addr} {H H' : Hp} {D : Ends} {o : Out} (h : SOut X W own H0 O0 O H D o) (s : Same (hide O H) (hide O' H')) : SOut X W own H0 O0 O' H' D o := by
  cases o with
  | nx ρ => exact fun σ' H'' O'' r s' => h σ' H'' O'' r (s.trans s')
  | rt d => exact h
  | bk ρ => exact fun σ' H'' O'' r s' => h σ' H'' O'' r (s.trans s')
  | ct ρ => exact fun σ' H'' O'' r s' => h σ' H'' O'' r (s.trans s')
  | err c ρ => exact fun σ' H'' O'' r s' => h σ' H'' O'' r (s.trans s')
  | bad => exact h
/-- what is wanted at an expression's end, from what is wanted of the statement -/
theorem EOut.run {f : R PyData} {k : PyData → Out} {O : List Addr} {H0 : Hp} {O0 O1 : List Addr} {σ : L2.St} {H : Hp} {ρ : Vars} {D : Ends} {Q : VK} (r : Rel X.K own H0 O0 O1 σ H ρ) (z : SOut X W own H0 O0 O1 H D (f.run ρ k))
    (q : ∀ d v H', Same H H' → Rp X.K (hide O H') v d → SOut X W own H0 O0 O1 H' D (k d) → Rel X.K own H0 O0 O1 σ H' ρ → Q v H') : EOut X W O σ H Q f := by
  cases f with
  | ok d => exact fun v H' s rv => q d v H' s rv (SOut.from z (hide_same s)) (r.step s)
  | err c => exact fun H' s => z σ H' O1 (r.step s) (hide_same s)
  | bad => exact z
theorem TOut.run {f : R Bool} {k : Bool → Out} {H0 : Hp} {O0 O1 : List Addr} {σ : L2.St} {H : Hp} {ρ : Vars} {D : Ends} {Q : Bool → Hp → Prop} (r : Rel X.K own H0 O0 O1 σ H ρ) (z : SOut X W own H0 O0 O1 H D (f.run ρ k))
    (q : ∀ d H', Same H H' → SOut X W own H0 O0 O1 H' D (k d) → Rel X.K own H0 O0 O1 σ H' ρ → Q d H') : TOut X W σ H Q f := by
  cases f with
  | ok d => exact fun H' s => q d H' s (SOut.from z (hide_same s)) (r.step s)
  | err c => exact fun H' s => z σ H' O1 (r.step s) (hide_same s)
  | bad => exact z
/-! blocks -/
def sNil (ρ : Vars) : Out := .nx ρ
def sSeq (g h : Vars → Out) (ρ : Vars) : Out := (g ρ).then h
theorem ssx_nil : SsX X W own [] sNil := ⟨_, pss_nil, fun σ H ρ D H0 O0 O r z => z σ H O r (Same.refl _)⟩
theorem ssx_cons {st : Stmt} {rest : List Stmt} {g h : Vars → Out} (a : SX X W own st g) (b : SsX X W own rest h) : SsX X W own (st :: rest) (sSeq g h) := by
  obtain ⟨t, p, ht⟩ := a
  obtain ⟨u, q, hu⟩ := b
  refine ⟨_, pss_cons p q, fun σ H ρ D H0 O0 O r z => ht σ H ρ _ H0 O0 O r ?_⟩
  unfold sSeq at z
  cases e : g ρ with
  | nx ρ1 => rw [e] at z; exact fun σ1 H1 O1 r1 s1 => hu σ1 H1 ρ1 D H0 O0 O1 r1 (SOut.from z s1)
  | rt d => rw [e] at z; exact z
  | bk ρ1 => rw [e] at z; exact z
  | ct ρ1 => rw [e] at z; exact z
  | err c ρ1 => rw [e] at z; exact z
  | bad => rw [e] at z; exact z
theorem ssx_one {st : Stmt} {g : Vars → Out} (a : SX X W own st g) : SsX X W own [st] g := by
  obtain ⟨t, p, ht⟩ := a
  exact ⟨_, pss_one p, ht⟩
/-! small statements -/
def sRet (f : Vars → R PyData) (ρ : Vars) : Out := (f ρ).run ρ fun d => .rt d
theorem sx_ret {e : Expr} {f : Vars → R PyData} {pos : Pos} (h : EX X W e f) : SX X W own (.Return (some e) pos) (sRet f) := by
  obtain ⟨t, p, ht⟩ := h
  exact ⟨_, ps_ret p, fun σ H ρ D H0 O0 O r z => ht σ H O0 ρ _ r.stands0 r.vrel0 (EOut.run r z fun d v H' s rv z' r' => z' v H' r'.same rv)⟩
def sRetN (_ : Vars) : Out := .rt .none
theorem sx_retN {pos : Pos} : SX X W own (.Return none pos) sRetN := ⟨_, ps_retN, fun σ H ρ D H0 O0 O r z => z .non H r.same .non⟩
theorem sx_pass {pos : Pos} : SX X W own (.Pass pos) sNil := ⟨_, ps_pass, fun σ H ρ D H0 O0 O r z => z σ H O r (Same.refl _)⟩
def sBrk (ρ : Vars) : Out := .bk ρ
theorem sx_break {pos : Pos} : SX X W own (.Break pos) sBrk := ⟨_, ps_break, fun σ H ρ D H0 O0 O r z => z σ H O r (Same.refl _)⟩
def sCt (ρ : Vars) : Out := .ct ρ
theorem sx_continue {pos : Pos} : SX X W own (.Continue pos) sCt := ⟨_, ps_continue, fun σ H ρ D H0 O0 O r z => z σ H O r (Same.refl _)⟩
theorem sx_doc {x j pos pos'} : SX X W own (.Expr (.Constant (.str x) j pos) pos') sNil := ⟨_, ps_doc, fun σ H ρ D H0 O0 O r z => z σ H O r (Same.refl _)⟩
/-- a value that is dropped -/
def sExpr (f : Vars → R PyData) (ρ : Vars) : Out := (f ρ).run ρ fun _ => .nx ρ
theorem sx_expr {e : Expr} {f : Vars → R PyData} {pos : Pos} (h : EX X W e f) (hs : swapsWith e none pos.line X.env = pure false := by rfl) : SX X W own (.Expr e pos) (sExpr f) := by
  obtain ⟨t, p, ht⟩ := h
  exact ⟨_, ps_expr p hs, fun σ H ρ D H0 O0 O r z => ht σ H O0 ρ _ r.stands0 r.vrel0 (EOut.run r z fun d v H' s rv z' r' => z' σ H' O r' (Same.refl _))⟩
def sIf (c : Vars → R Bool) (g h : Vars → Out) (ρ : Vars) : Out := (c ρ).run ρ fun b => if b = true then g ρ else h ρ
theorem sx_if {c : Expr} {a b : List Stmt} {tc : Vars → R Bool} {g h : Vars → Out} {pos : Pos} (hc : TX X W c tc) (ha : SsX X W own a g) (hb : SsX X W own b h) : SX X W own (.If c a b pos) (sIf tc g h) := by
  obtain ⟨t, p, ht⟩ := hc
  obtain ⟨ta, pa, hta⟩ := ha
  obtain ⟨tb, pb, htb⟩ := hb
  refine ⟨_, ps_if p pa pb, fun σ H ρ D H0 O0 O r z => ht σ H O0 ρ _ r.stands0 r.vrel0 (TOut.run r z fun d H' s z' r' => ?_)⟩
  cases d with
  | true => exact hta σ H' ρ D H0 O0 O r' z'
  | false => exact htb σ H' ρ D H0 O0 O r' z'
/-- name = value: all variables may be read, the value has no list (or no list is own) -/
def sSet (own : List Nat) (i : Nat) (f : Vars → R PyData) (ρ : Vars) : Out := (f ρ).run ρ fun d => if (own.isEmpty || imm d) = true then .nx (ρ.set i (some d)) else .bad
theorem set_end {i : Nat} {H0 : Hp} {O0 O : List Addr} {σ : L2.St} {H' : Hp} {ρ : Vars} {D : Ends} {v : V} {d : PyData} (hi : i ∉ own) (r' : Rel X.K own H0 O0 O σ H' ρ) (rv : Rp X.K (hide O0 H') v d) (z' : SOut X W own H0 O0 O H' D (if (own.isEmpty || imm d) = true then .nx (ρ.set i (some d)) else .bad)) (h2 : own = [] → Rp X.K (hide O H') v d) : D.nx (σ.set i (some v)) H' := by
  by_cases c : (own.isEmpty || imm d) = true
  · rw [if_pos c] at z'
    have rO : Rp X.K (hide O H') v d := by
      rw [Bool.or_eq_true] at c
      rcases c with c | c
      · exact h2 (List.isEmpty_iff.mp c)
      · exact r'.imm rv c
    exact z' _ H' O (r'.set hi rO) (Same.refl _)
  · rw [if_neg c] at z'; exact z'.elim
theorem sx_set {i : Nat} {x : Str} {e : Expr} {f : Vars → R PyData} {pos' pos : Pos} (hN : X.N.Nodup) (hi : X.N[i]? = some x) (hx : Loc X.env.scope x) (h : EX X W e f) (ho : own.contains i = false) (hs : swapsWith e (some (.Name x pos')) pos.line X.env = pure false := by rfl) (hf : X.fn x = true ∨ X.env.scope.names.lookup x = some .local := by first | exact .inl rfl | exact .inr rfl | assumption) :
    SX X W own (.Assign [.Name x pos'] e pos) (sSet own i f) := by
  obtain ⟨t, p, ht⟩ := h
  have hi' : i ∉ own := fun z => by rw [List.contains_iff_mem.mpr z] at ho; cases ho
  refine ⟨_, ps_set hN hi hx p hs hf, fun σ H ρ D H0 O0 O r z => ?_⟩
  by_cases c : own = []
  · subst c
    exact ht σ H O ρ _ r.stands r.vrel (EOut.run r z fun d v H' s rv z' r' => set_end hi' r' (rv.mono (hide_less r'.sub)) z' fun _ => rv)
  · exact ht σ H O0 ρ _ r.stands0 r.vrel0 (EOut.run r z fun d v H' s rv z' r' => set_end hi' r' rv z' fun e => absurd e c)
/-- .. the own lists are not read -/
def sSetM (own : List Nat) (i : Nat) (f : Vars → R PyData) (ρ : Vars) : Out := (f (mask own ρ)).run ρ fun d => .nx (ρ.set i (some d))
theorem sx_setM {i : Nat} {x : Str} {e : Expr} {f : Vars → R PyData} {pos' pos : Pos} (hN : X.N.Nodup) (hi : X.N[i]? = some x) (hx : Loc X.env.scope x) (h : EX X W e f) (ho : own.contains i = false) (hs : swapsWith e (some (.Name x pos')) pos.line X.env = pure false := by rfl) (hf : X.fn x = true ∨ X.env.scope.names.lookup x = some .local := by first | exact .inl rfl | exact .inr rfl | assumption) :
    SX X W own (.Assign [.Name x pos'] e pos) (sSetM own i f) := by
  obtain ⟨t, p, ht⟩ := h
  have hi' : i ∉ own := fun z => by rw [List.contains_iff_mem.mpr z] at ho; cases ho
  refine ⟨_, ps_set hN hi hx p hs hf, fun σ H ρ D H0 O0 O r z => ?_⟩
  exact ht σ H O _ _ r.stands r.vrelM (EOut.run r z fun d v H' s rv z' r' => z' _ H' O (r'.set hi' rv) (Same.refl _))
/-- targets = value -/
theorem other_of {js : List Nat} {gt : PyData → Vars → Option Vars} (ok : GtOk js gt) (hj : ∀ j ∈ js, j ∉ own) {H0 : Hp} {O0 O : List Addr} {σ σ' : L2.St} {H : Hp} {ρ ρ' : Vars} {d : PyData} (r : Rel X.K own H0 O0 O σ H ρ) (e : gt d ρ = some ρ') (v : VRel X.K (hide O H) σ' (mask own ρ')) (l : σ'.length = σ.length)
    (f : ∀ j : Nat, j ∉ js → σ'[j]? = σ[j]? ∧ (mask own ρ')[j]? = (mask own ρ)[j]?) (f2 : ∀ j : Nat, j ∉ js → ρ'[j]? = ρ[j]?) : Rel X.K own H0 O0 O σ' H ρ' := r.other hj l v f fun j ho => f2 j fun z => hj j z ho
structure GtIn (js : List Nat) (gt : PyData → Vars → Option Vars) : Prop where
  out : ∀ d ρ ρ', gt d ρ = some ρ' → ∀ j : Nat, j ∉ js → ρ'[j]? = ρ[j]?
def sAsg (own : List Nat) (gt : PyData → Vars → Option Vars) (f : Vars → R PyData) (ρ : Vars) : Out := (f (mask own ρ)).run ρ fun d => match gt d ρ with
  | some ρ' => .nx ρ'
  | none => .bad
theorem sx_asg {tg e : Expr} {js : List Nat} {gt : PyData → Vars → Option Vars} {f : Vars → R PyData} {pos : Pos} (h : EX X W e f) (hg : GX X tg js gt) (hin : GtIn js gt) (ho : (js.all fun j => !own.contains j) = true) (hs : swapsWithSole [tg] e pos.line X.env = pure false := by rfl) (hw : swappedStores [tg] e X.env = pure none := by rfl)
    (h1 : (assignEach [tg] X.env).map (·.2) = [assign tg X.env] := by rfl) : SX X W own (.Assign [tg] e pos) (sAsg own gt f) := by
  obtain ⟨t, p, ht⟩ := h
  obtain ⟨ok, g, q, hgt⟩ := hg
  have hj : ∀ j ∈ js, j ∉ own := fun j h z => by
    have := List.all_eq_true.mp ho j h
    rw [List.contains_iff_mem.mpr z] at this; cases this
  refine ⟨_, ps_asg p q hs hw h1, fun σ H ρ D H0 O0 O r z => ht σ H O _ _ r.stands r.vrelM (EOut.run r z fun d v H' s rv z' r' => ?_)⟩
  cases e : gt d ρ with
  | none => rw [e] at z'; exact z'.elim
  | some ρ' =>
    rw [e] at z'
    refine hgt v d σ H' O (mask own ρ) (mask own ρ') _ r'.stands r'.vrelM rv (ok.msk own d ρ ρ' hj e) fun σ' v' l' f' => ?_
    exact z' σ' H' O (other_of ok hj r' e v' l' f' (hin.out d ρ ρ' e)) (Same.refl _)
theorem gtName_in (i : Nat) : GtIn [i] (gtName i) := ⟨fun d ρ ρ' e j hj => by
  cases e
  rw [List.getElem?_set_ne (fun z => hj (by simp [z]))]⟩
structure GtsIn (js : List Nat) (gt : List PyData → Vars → Option Vars) : Prop where
  out : ∀ d ρ ρ', gt d ρ = some ρ' → ∀ j : Nat, j ∉ js → ρ'[j]? = ρ[j]?
theorem gtNil_in : GtsIn [] gtNil := ⟨fun d ρ ρ' e j hj => by cases d <;> cases e; rfl⟩
theorem gtCons_in {js ks : List Nat} {g : PyData → Vars → Option Vars} {h : List PyData → Vars → Option Vars} (a : GtIn js g) (b : GtsIn ks h) : GtsIn (js ++ ks) (gtCons g h) := ⟨fun d ρ ρ' e j hj => by
  cases d with
  | nil => cases e
  | cons d r =>
    have e' : (g d ρ).bind (fun ρ' => h r ρ') = some ρ' := e
    cases e1 : g d ρ with
    | none => rw [e1] at e'; cases e'
    | some ρ1 =>
      rw [e1] at e'
      rw [b.out r ρ1 ρ' e' j (fun z => hj (List.mem_append_right _ z)), a.out d ρ ρ1 e1 j (fun z => hj (List.mem_append_left _ z))]⟩
theorem gtTup_in {n : Nat} {js : List Nat} {h : List PyData → Vars → Option Vars} (b : GtsIn js h) : GtIn js (gtTup n h) := ⟨fun d ρ ρ' e j hj => by
  cases d <;> try cases e
  rename_i ds
  unfold gtTup at e
  dsimp only at e
  by_cases c : ds.length = n
  · rw [if_pos c] at e; exact b.out _ _ _ e j hj
  · rw [if_neg c] at e; cases e⟩
/-! ### own lists -/
/-- an expression that makes a new list: its items -/
def NX (X : Cx) (W : WX) (e : Expr) (f : Vars → R (List PyData)) : Prop :=
  ∃ t, PE X e t ∧ ∀ σ H O ρ (Q : VK), Stands O H → VRel X.K (hide O H) σ ρ → NOut X W O σ H Q (f ρ) → t σ H Q
def nLst (f : Vars → R (List PyData)) (ρ : Vars) : R (List PyData) := (f ρ).bind fun ds => if ds.length ≤ sizeLine then .ok ds else .bad
theorem nx_lst {es : List Expr} {f : Vars → R (List PyData)} {pos : Pos} (h : AX X W es f) : NX X W (.List es pos) (nLst f) := by
  obtain ⟨t, p, ht⟩ := h
  refine ⟨_, pe_lst p, fun σ H O ρ Q hO hr z => ht σ H O ρ _ hO hr ?_⟩
  unfold nLst at z
  cases e : f ρ with
  | bad => rw [e] at z; exact z
  | err c => rw [e] at z; exact z
  | ok ds =>
    rw [e, R.bind_ok] at z
    intro vs H1 s1 r1
    by_cases c : ds.length ≤ sizeLine
    · rw [if_pos c] at z
      refine ⟨by rw [r1.length]; exact c, fun p hp => z p vs _ (s1.trans (same_new hp)) (s1.free hp) upd_same (r1.mono fun a o h => ?_)⟩
      obtain ⟨c1, h1⟩ := hide_some h
      have n := ne_of_none h1 hp
      exact hide_of (fun z => (List.mem_cons.mp z).elim n c1) (by rw [upd_ne n]; exact h1)
    · rw [if_neg c] at z; exact z.elim
theorem nx_lc {elt tg iter : Expr} {ifs : List Expr} {scope : Scope} {ownc : List (Str × Nat)} {pos : Pos} {js : List Nat} {fi : Vars → R (List PyData)} {gt : PyData → Vars → Option Vars} {ft : Vars → R Bool} {f : Vars → R PyData} (hc : X.calm = true) (hN : X.N.Nodup) (hi : IX X W tg iter fi) (ok : BlkOk X.N X.env.scope scope ownc)
    (hg : ∀ (s : Shared) (H : Hp) (C : Addr) (cl : List (Str × Addr)) (fp : List Addr), GX (X.blk s H scope (compEnvC scope cl C X.env) fp) tg js gt) (ht : ∀ (s : Shared) (H : Hp) (C : Addr) (cl : List (Str × Addr)) (fp : List Addr), TsX (X.blk s H scope (compEnvC scope cl C X.env) fp) W0 ifs ft)
    (he : ∀ (s : Shared) (H : Hp) (C : Addr) (cl : List (Str × Addr)) (fp : List Addr), EX (X.blk s H scope (compEnvC scope cl C X.env) fp) W0 elt f) (hjs : (js.all fun j => (ownc.map (·.2)).contains j) = true) (hs : ∀ x, foldedSetIterable iter X.env x = pure x := by intro _; rfl) :
    NX X W (.ListComp elt [⟨tg, iter, ifs, 0⟩] scope pos) (nLc fi gt ft f (ownc.map (·.2))) := by
  obtain ⟨wi, p, hwi⟩ := pe_lcD (pos := pos) hc hN hi ok hg ht he hs
  have hj : ∀ j ∈ js, j ∈ ownc.map (·.2) := fun j h => by simpa using List.all_eq_true.mp hjs j h
  exact ⟨_, p, fun σ H O ρ Q hO hv z => lc_run hwi hj hO hv z⟩
/-- name = a new list that is changed later; the own lists are not read -/
def sNew (own : List Nat) (i : Nat) (f : Vars → R (List PyData)) (ρ : Vars) : Out := (f (mask own ρ)).run ρ fun ds => .nx (ρ.set i (some (.list ds)))
/-- a new list laid: nothing that was shown leans on it -/
theorem Rel.laid {H0 : Hp} {O0 O : List Addr} {σ : L2.St} {H H' : Hp} {ρ : Vars} {i : Nat} (hi : i ∈ own) {p : Addr} {vs : List V} {ds : List PyData} (r : Rel X.K own H0 O0 O σ H ρ) (s : Same H H') (hp : H p = none) (hp' : H' p = some (.lst vs)) (rs : Rps X.K (hide (p :: O) H') vs ds) :
    Rel X.K own H0 O0 (p :: O) (σ.set i (some (.ref p))) H' (ρ.set i (some (.list ds))) ∧ Same (hide O H) (hide (p :: O) H') := by
  have sF : Same (hide O H) (hide (p :: O) H') := fun a o h => by
    obtain ⟨c, e⟩ := hide_some h
    exact hide_of (fun z => (List.mem_cons.mp z).elim (ne_of_none e hp) c) (s a o e)
  refine ⟨?_, sF⟩
  -- the state ahead of the store, in the later heap
  have r1 : Rel X.K own H0 O0 O σ H' ρ := r.step s
  have np : p ∉ O := r.stands.new hp
  refine ⟨r1.same, r1.st0, by simpa using r1.len, fun a ha => List.mem_cons_of_mem _ (r1.sub a ha), fun a ha => ?_, fun j d cj q => ?_, fun j d cj q => ?_, fun j k d e a cj ck q1 q2 e1 e2 => ?_⟩
  · rcases List.mem_cons.mp ha with e | ha
    · rw [e]; exact .inr ⟨r.same.free hp, vs, hp'⟩
    · exact r1.lists a ha
  · have z : i ≠ j := fun z => cj (z ▸ hi)
    rw [List.getElem?_set_ne z] at q
    rw [List.getElem?_set_ne z]
    obtain ⟨v, h1, h2⟩ := r.free j d cj q
    exact ⟨v, h1, h2.mono sF⟩
  · have hl := r.len
    by_cases z : i = j
    · subst z
      by_cases hlt : i < ρ.length
      · rw [List.getElem?_set_self hlt] at q
        cases q
        exact ⟨p, vs, ds, rfl, List.getElem?_set_self (by omega), List.mem_cons_self, r.same.free hp, hp', rs⟩
      · rw [List.getElem?_eq_none (by simpa using hlt)] at q; cases q
    · rw [List.getElem?_set_ne z] at q
      rw [List.getElem?_set_ne z]
      obtain ⟨a, us, es, h0, h1, h2, h3, h4, h5⟩ := r.mine j d cj q
      exact ⟨a, us, es, h0, h1, List.mem_cons_of_mem _ h2, h3, s _ _ h4, h5.mono sF⟩
  · have key : ∀ (m : Nat) (d : PyData), m ∈ own → i ≠ m → (ρ.set i (some (.list ds)))[m]? = some (some d) → (σ.set i (some (V.ref p)))[m]? ≠ some (some (V.ref p)) := fun m d cm z q1 e1 => by
      rw [List.getElem?_set_ne z] at q1 e1
      obtain ⟨a', us, es, h0, h1, h2, h3, h4, h5⟩ := r.mine m d cm q1
      rw [e1] at h1
      cases h1
      exact np h2
    by_cases z : i = j
    · by_cases z2 : i = k
      · exact z.symm.trans z2
      · subst z
        have hlt : i < σ.length := by
          rcases Nat.lt_or_ge i σ.length with h | h
          · exact h
          · rw [List.getElem?_eq_none (by simpa using h)] at e1; cases e1
        rw [List.getElem?_set_self hlt] at e1
        cases e1
        exact absurd e2 (key k e ck z2 q2)
    · by_cases z2 : i = k
      · subst z2
        have hlt : i < σ.length := by
          rcases Nat.lt_or_ge i σ.length with h | h
          · exact h
          · rw [List.getElem?_eq_none (by simpa using h)] at e2; cases e2
        rw [List.getElem?_set_self hlt] at e2
        cases e2
        exact absurd e1 (key j d cj z q1)
      · rw [List.getElem?_set_ne z] at q1 e1
        rw [List.getElem?_set_ne z2] at q2 e2
        exact r.apart j k d e a cj ck q1 q2 e1 e2
theorem NOut.run {f : R (List PyData)} {k : List PyData → Out} {O : List Addr} {H0 : Hp} {O0 O1 : List Addr} {σ : L2.St} {H : Hp} {ρ : Vars} {D : Ends} {Q : VK} (r : Rel X.K own H0 O0 O1 σ H ρ) (z : SOut X W own H0 O0 O1 H D (f.run ρ k))
    (q : ∀ ds p vs H', Same H H' → H p = none → H' p = some (.lst vs) → Rps X.K (hide (p :: O) H') vs ds → SOut X W own H0 O0 O1 H D (k ds) → Q (.ref p) H') : NOut X W O σ H Q f := by
  cases f with
  | ok d => exact fun p vs H' s h1 h2 h3 => q d p vs H' s h1 h2 h3 z
  | err c => exact fun H' s => z σ H' O1 (r.step s) (hide_same s)
  | bad => exact z
theorem sx_new {i : Nat} {x : Str} {e : Expr} {f : Vars → R (List PyData)} {pos' pos : Pos} (hN : X.N.Nodup) (hi : X.N[i]? = some x) (hx : Loc X.env.scope x) (h : NX X W e f) (ho : own.contains i = true) (hs : swapsWith e (some (.Name x pos')) pos.line X.env = pure false := by rfl) (hf : X.fn x = true ∨ X.env.scope.names.lookup x = some .local := by first | exact .inl rfl | exact .inr rfl | assumption) :
    SX X W own (.Assign [.Name x pos'] e pos) (sNew own i f) := by
  obtain ⟨t, p, ht⟩ := h
  have hi' : i ∈ own := List.contains_iff_mem.mp ho
  refine ⟨_, ps_set hN hi hx p hs hf, fun σ H ρ D H0 O0 O r z => ht σ H O _ _ r.stands r.vrelM (NOut.run r z fun ds p vs H' s h1 h2 h3 z' => ?_)⟩
  obtain ⟨r', sF⟩ := r.laid hi' s h1 h2 h3
  exact z' _ H' _ r' sF
/-- name = [.. for ..] on one line -/
theorem sx_setLc {i : Nat} {y : Str} {py : Pos} {elt tg iter : Expr} {ifs : List Expr} {scope : Scope} {ownc : List (Str × Nat)} {pos spos : Pos} {js : List Nat} {fi : Vars → R (List PyData)} {gt : PyData → Vars → Option Vars} {ft : Vars → R Bool} {f : Vars → R PyData} (hc : X.calm = true) (hN : X.N.Nodup) (hy : X.N[i]? = some y) (hyl : X.env.scope.names.lookup y = some .local)
    (hsw : swapsWith (.ListComp elt [⟨tg, iter, ifs, 0⟩] scope pos) (some (.Name y py)) spos.line X.env = pure true) (hi : IX X W tg iter fi) (ok : BlkOk X.N X.env.scope scope ownc)
    (hg : ∀ (s : Shared) (H : Hp) (C : Addr) (cl : List (Str × Addr)) (fp : List Addr), GX (X.blk s H scope (compEnvC scope cl C X.env) fp) tg js gt) (ht : ∀ (s : Shared) (H : Hp) (C : Addr) (cl : List (Str × Addr)) (fp : List Addr), TsX (X.blk s H scope (compEnvC scope cl C X.env) fp) W0 ifs ft)
    (he : ∀ (s : Shared) (H : Hp) (C : Addr) (cl : List (Str × Addr)) (fp : List Addr), EX (X.blk s H scope (compEnvC scope cl C X.env) fp) W0 elt f) (hjs : (js.all fun j => (ownc.map (·.2)).contains j) = true) (ho : own.contains i = true) (hs : ∀ x, foldedSetIterable iter X.env x = pure x := by intro _; rfl) :
    SX X W own (.Assign [.Name y py] (.ListComp elt [⟨tg, iter, ifs, 0⟩] scope pos) spos) (sNew own i (nLc fi gt ft f (ownc.map (·.2)))) := by
  obtain ⟨wi, p, hwi⟩ := hi
  have hi' : i ∈ own := List.contains_iff_mem.mp ho
  have hj : ∀ j ∈ js, j ∈ ownc.map (·.2) := fun j h => by simpa using List.all_eq_true.mp hjs j h
  refine ⟨_, ps_setLc (g := tG X js gt) (tt := tT X W0 ft) (te := tE X W0 f) hc hN hy hyl hsw p ok (fun s H C cl fp => (hg s H C cl fp).pg) (fun s H C cl fp => (ht s H C cl fp).pts) (fun s H C cl fp => (he s H C cl fp).pe) hs, fun σ H ρ D H0 O0 O r z => ?_⟩
  refine lc_run (O := O) (ρ := mask own ρ) hwi hj r.stands r.vrelM (NOut.run r z fun ds p vs H' s h1 h2 h3 z' => ?_)
  obtain ⟨r', sF⟩ := r.laid hi' s h1 h2 h3
  exact z' _ H' _ r' sF
/-- .. where the list is not changed later -/
def sSetLc (own : List Nat) (i : Nat) (f : Vars → R (List PyData)) (ρ : Vars) : Out := (f (mask own ρ)).run ρ fun ds => .nx (ρ.set i (some (.list ds)))
theorem sx_setLc' {i : Nat} {y : Str} {py : Pos} {elt tg iter : Expr} {ifs : List Expr} {scope : Scope} {ownc : List (Str × Nat)} {pos spos : Pos} {js : List Nat} {fi : Vars → R (List PyData)} {gt : PyData → Vars → Option Vars} {ft : Vars → R Bool} {f : Vars → R PyData} (hc : X.calm = true) (hN : X.N.Nodup) (hy : X.N[i]? = some y) (hyl : X.env.scope.names.lookup y = some .local)
    (hsw : swapsWith (.ListComp elt [⟨tg, iter, ifs, 0⟩] scope pos) (some (.Name y py)) spos.line X.env = pure true) (hi : IX X W tg iter fi) (ok : BlkOk X.N X.env.scope scope ownc)
    (hg : ∀ (s : Shared) (H : Hp) (C : Addr) (cl : List (Str × Addr)) (fp : List Addr), GX (X.blk s H scope (compEnvC scope cl C X.env) fp) tg js gt) (ht : ∀ (s : Shared) (H : Hp) (C : Addr) (cl : List (Str × Addr)) (fp : List Addr), TsX (X.blk s H scope (compEnvC scope cl C X.env) fp) W0 ifs ft)
    (he : ∀ (s : Shared) (H : Hp) (C : Addr) (cl : List (Str × Addr)) (fp : List Addr), EX (X.blk s H scope (compEnvC scope cl C X.env) fp) W0 elt f) (hjs : (js.all fun j => (ownc.map (·.2)).contains j) = true) (ho : own.contains i = false) (hs : ∀ x, foldedSetIterable iter X.env x = pure x := by intro _; rfl) :
    SX X W own (.Assign [.Name y py] (.ListComp elt [⟨tg, iter, ifs, 0⟩] scope pos) spos) (sSetLc own i (nLc fi gt ft f (ownc.map (·.2)))) := by
  obtain ⟨wi, p, hwi⟩ := hi
  have hi' : i ∉ own := fun z => by rw [List.contains_iff_mem.mpr z] at ho; cases ho
  have hj : ∀ j ∈ js, j ∈ ownc.map (·.2) := fun j h => by simpa using List.all_eq_true.mp hjs j h
  refine ⟨_, ps_setLc (g := tG X js gt) (tt := tT X W0 ft) (te := tE X W0 f) hc hN hy hyl hsw p ok (fun s H C cl fp => (hg s H C cl fp).pg) (fun s H C cl fp => (ht s H C cl fp).pts) (fun s H C cl fp => (he s H C cl fp).pe) hs, fun σ H ρ D H0 O0 O r z => ?_⟩
  refine lc_run (O := O) (ρ := mask own ρ) hwi hj r.stands r.vrelM (NOut.run r z fun ds p vs H' s h1 h2 h3 z' => ?_)
  exact z' _ H' O ((r.step s).set hi' (.lst (.inl (.inl (hide_of (r.stands.new h1) h2))) (h3.mono (hide_less fun a ha => List.mem_cons_of_mem _ ha)))) (hide_same s)
/-- a change of an own list -/
theorem Rel.write {H0 : Hp} {O0 O : List Addr} {σ : L2.St} {H : Hp} {ρ : Vars} {i : Nat} (hi : i ∈ own) {a : Addr} {vs vs' : List V} {d : PyData} {es : List PyData} (r : Rel X.K own H0 O0 O σ H ρ) (q : ρ[i]? = some (some d)) (e : σ[i]? = some (some (.ref a))) (ha : a ∈ O) (h0 : H0 a = none) (h : H a = some (.lst vs)) (rs : Rps X.K (hide O H) vs' es) :
    Rel X.K own H0 O0 O σ (upd H a (.lst vs')) (ρ.set i (some (.list es))) ∧ Same (hide O H) (hide O (upd H a (.lst vs'))) := by
  have hid : ∀ o', hide O (upd H a o') = hide O H := fun o' => by
    funext b
    unfold hide
    by_cases c : b ∈ O
    · rw [if_pos c, if_pos c]
    · rw [if_neg c, if_neg c, upd_ne (fun z => c (by rw [z]; exact ha))]
  have hlt : i < ρ.length := (List.getElem?_eq_some_iff.mp q).1
  refine ⟨⟨fun b o hb => ?_, r.st0, by simpa using r.len, r.sub, fun b hb => ?_, fun j d' cj q' => ?_, fun j d' cj q' => ?_, fun j k d1 d2 b cj ck q1 q2 e1 e2 => ?_⟩, by rw [hid]; exact Same.refl _⟩
  · have n : b ≠ a := ne_of_none hb h0
    rw [upd_ne n]; exact r.same b o hb
  · by_cases n : b = a
    · subst n; exact .inr ⟨h0, vs', upd_same⟩
    · rw [upd_ne n]; exact r.lists b hb
  · have z : i ≠ j := fun z => cj (z ▸ hi)
    rw [List.getElem?_set_ne z] at q'
    rw [hid]
    exact r.free j d' cj q'
  · by_cases z : i = j
    · subst z
      rw [List.getElem?_set_self hlt] at q'
      cases q'
      exact ⟨a, vs', es, rfl, e, ha, h0, upd_same, by rw [hid]; exact rs⟩
    · rw [List.getElem?_set_ne z] at q'
      obtain ⟨b, us, fs, g0, g1, g2, g3, g4, g5⟩ := r.mine j d' cj q'
      have n : b ≠ a := fun n => by
        subst n
        exact z (r.apart i j _ _ b hi cj q q' e g1)
      exact ⟨b, us, fs, g0, g1, g2, g3, by rw [upd_ne n]; exact g4, by rw [hid]; exact g5⟩
  · have as : ∀ (m : Nat) (d : PyData), (ρ.set i (some (.list es)))[m]? = some (some d) → ∃ d', ρ[m]? = some (some d') := fun m d hm => by
      by_cases z : i = m
      · subst z; exact ⟨_, q⟩
      · rw [List.getElem?_set_ne z] at hm; exact ⟨_, hm⟩
    obtain ⟨d1', q1'⟩ := as j d1 q1
    obtain ⟨d2', q2'⟩ := as k d2 q2
    exact r.apart j k d1' d2' b cj ck q1' q2' e1 e2
/-- x.append(e): all variables may be read, the item has no list -/
def sApp (i : Nat) (f : Vars → R PyData) (ρ : Vars) : Out := match ρ.getD i none with
  | some (.list ds) => (f ρ).run ρ fun d => if (decide (ds.length < sizeLine) && imm d) = true then .nx (ρ.set i (some (.list (ds ++ [d])))) else .bad
  | _ => .bad
def sAppM (own : List Nat) (i : Nat) (f : Vars → R PyData) (ρ : Vars) : Out := match ρ.getD i none with
  | some (.list ds) => (f (mask own ρ)).run ρ fun d => if ds.length < sizeLine then .nx (ρ.set i (some (.list (ds ++ [d])))) else .bad
  | _ => .bad
theorem getD_some {ρ : Vars} {i : Nat} {d : PyData} (h : ρ.getD i none = some d) : ρ[i]? = some (some d) := by
  rw [List.getD_eq_getElem?_getD] at h
  cases e : ρ[i]? with
  | none => rw [e] at h; cases h
  | some o => rw [e] at h; exact congrArg some h
theorem own_list {i : Nat} (hi : i ∈ own) {H0 : Hp} {O0 O : List Addr} {σ : L2.St} {H : Hp} {ρ : Vars} {ds : List PyData} (r : Rel X.K own H0 O0 O σ H ρ) (e : ρ.getD i none = some (.list ds)) : ∃ a vs, σ[i]? = some (some (.ref a)) ∧ a ∈ O ∧ H0 a = none ∧ H a = some (.lst vs) ∧ Rps X.K (hide O H) vs ds := by
  obtain ⟨a, vs, ds', h0, h1, h2, h3, h4, h5⟩ := r.mine i _ hi (getD_some e)
  cases h0
  exact ⟨a, vs, h1, h2, h3, h4, h5⟩
theorem getD_list {ρ : Vars} {i : Nat} {k : List PyData → Out} {H0 : Hp} {O0 O : List Addr} {H : Hp} {D : Ends} (z : SOut X W own H0 O0 O H D (match ρ.getD i none with
    | some (.list ds) => k ds
    | _ => .bad)) : ∃ ds, ρ.getD i none = some (.list ds) ∧ SOut X W own H0 O0 O H D (k ds) := by
  cases e : ρ.getD i none with
  | none => rw [e] at z; exact z.elim
  | some d =>
    rw [e] at z
    cases d with
    | list ds => exact ⟨ds, rfl, z⟩
    | _ => exact z.elim
section
variable {i : Nat} {x : Str} {e : Expr} {f : Vars → R PyData} {p apos cpos pos : Pos}
theorem sx_app (h : EX X W e f) (ho : own.contains i = true) (hN : X.N[i]? = some x := by rfl) (hv : Vis X.env.scope x := by first | exact Or.inl rfl | exact Or.inr (Or.inl rfl) | exact Or.inr (Or.inr rfl)) (hd : (x == ("__debug__" : Str)) = false := by decide)
    (hcd : (x == ("__classdict__" : Str)) = false := by decide)
    (hbase : attributeBase (.Name x p) "append" X.env (eval (.Name x p) X.env) = eval (.Name x p) X.env := by rfl)
    (hfew : ((backTo cpos (starEach [e] X.env)).all (fun x => !x.1) && (backToKw cpos (keywordEach [] X.env)).all (fun x => x.1.isSome)
      && decide (([e] : List Expr).length + ([] : List Keyword).length + (if ([] : List Keyword).isEmpty then 0 else 1) < 30)) = true := by rfl)
    (hline : (apos.endLine == cpos.line) = true := by rfl) (hs : starEach [e] X.env = (false, eval e X.env) :: starEach [] X.env := by rfl) (hplain : (backTo cpos (starEach [] X.env)).any (·.1) = false := by rfl)
    (hsw : swapsWith (.Call (.Attribute (.Name x p) "append" apos) [e] [] cpos) none pos.line X.env = pure false := by rfl) :
    SX X W own (.Expr (.Call (.Attribute (.Name x p) "append" apos) [e] [] cpos) pos) (sApp i f) := by
  obtain ⟨t, q, ht⟩ := h
  have hi : i ∈ own := List.contains_iff_mem.mp ho
  refine ⟨_, ps_expr (pe_bm PySem.F.plainAttrs_list PySem.F.slot_list_append PySem.F.type_list_append mt_append (pe_var hN hv hd hcd) (pa_cons q pa_nil hs) hbase hfew hline hs hplain) hsw, fun σ H ρ D H0 O0 O r z => ?_⟩
  unfold sApp at z
  obtain ⟨ds, e1, z⟩ := getD_list z
  obtain ⟨a, vs, g1, g2, g3, g4, g5⟩ := own_list hi r e1
  refine ⟨.ref a, g1, .inl ⟨rfl, vs, .inl (.inl g4)⟩, ht σ H O0 ρ _ r.stands0 r.vrel0 (EOut.run r z fun d v H' s rv z' r' => ?_)⟩
  by_cases c : (decide (ds.length < sizeLine) && imm d) = true
  · rw [if_pos c] at z'
    rw [Bool.and_eq_true] at c
    have rO := r'.imm rv c.2
    obtain ⟨r2, sF⟩ := r'.write hi (getD_some e1) g1 g2 g3 (s _ _ g4) ((g5.mono (hide_same s)).append (.cons rO .nil))
    exact ⟨a, vs, v, rfl, rfl, s _ _ g4, by rw [g5.length]; exact of_decide_eq_true c.1, z' σ _ O r2 sF⟩
  · rw [if_neg c] at z'; exact z'.elim
theorem sx_appM (h : EX X W e f) (ho : own.contains i = true) (hN : X.N[i]? = some x := by rfl) (hv : Vis X.env.scope x := by first | exact Or.inl rfl | exact Or.inr (Or.inl rfl) | exact Or.inr (Or.inr rfl)) (hd : (x == ("__debug__" : Str)) = false := by decide)
    (hcd : (x == ("__classdict__" : Str)) = false := by decide)
    (hbase : attributeBase (.Name x p) "append" X.env (eval (.Name x p) X.env) = eval (.Name x p) X.env := by rfl)
    (hfew : ((backTo cpos (starEach [e] X.env)).all (fun x => !x.1) && (backToKw cpos (keywordEach [] X.env)).all (fun x => x.1.isSome)
      && decide (([e] : List Expr).length + ([] : List Keyword).length + (if ([] : List Keyword).isEmpty then 0 else 1) < 30)) = true := by rfl)
    (hline : (apos.endLine == cpos.line) = true := by rfl) (hs : starEach [e] X.env = (false, eval e X.env) :: starEach [] X.env := by rfl) (hplain : (backTo cpos (starEach [] X.env)).any (·.1) = false := by rfl)
    (hsw : swapsWith (.Call (.Attribute (.Name x p) "append" apos) [e] [] cpos) none pos.line X.env = pure false := by rfl) :
    SX X W own (.Expr (.Call (.Attribute (.Name x p) "append" apos) [e] [] cpos) pos) (sAppM own i f) := by
  obtain ⟨t, q, ht⟩ := h
  have hi : i ∈ own := List.contains_iff_mem.mp ho
  refine ⟨_, ps_expr (pe_bm PySem.F.plainAttrs_list PySem.F.slot_list_append PySem.F.type_list_append mt_append (pe_var hN hv hd hcd) (pa_cons q pa_nil hs) hbase hfew hline hs hplain) hsw, fun σ H ρ D H0 O0 O r z => ?_⟩
  unfold sAppM at z
  obtain ⟨ds, e1, z⟩ := getD_list z
  obtain ⟨a, vs, g1, g2, g3, g4, g5⟩ := own_list hi r e1
  refine ⟨.ref a, g1, .inl ⟨rfl, vs, .inl (.inl g4)⟩, ht σ H O _ _ r.stands r.vrelM (EOut.run r z fun d v H' s rv z' r' => ?_)⟩
  by_cases c : ds.length < sizeLine
  · rw [if_pos c] at z'
    obtain ⟨r2, sF⟩ := r'.write hi (getD_some e1) g1 g2 g3 (s _ _ g4) ((g5.mono (hide_same s)).append (.cons rv .nil))
    exact ⟨a, vs, v, rfl, rfl, s _ _ g4, by rw [g5.length]; exact c, z' σ _ O r2 sF⟩
  · rw [if_neg c] at z'; exact z'.elim
end
end
end Pu
set_option Elab.async false
set_option linter.all false
set_option maxRecDepth 100000
set_option maxHeartbeats 4000000
namespace Pu
open PySem PySem.Spec PyProof.Rows L2
section
variable {X : Cx} {W : WX} {own : List Nat}
/-! ### loops -/
def forL (gt : PyData → Vars → Option Vars) (g : Vars → Out) : List PyData → Vars → Out
  | [], ρ => .nx ρ
  | d :: ds, ρ => match gt d ρ with
    | none => .bad
    | some ρ1 => match g ρ1 with
      | .nx ρ2 => forL gt g ds ρ2
      | .ct ρ2 => forL gt g ds ρ2
      | .bk ρ2 => .nx ρ2
      | .rt d => .rt d
      | .err c ρ2 => .err c ρ2
      | .bad => .bad
def sFor (own : List Nat) (fi : Vars → R (List PyData)) (gt : PyData → Vars → Option Vars) (g : Vars → Out) (ρ : Vars) : Out := (fi (mask own ρ)).run ρ fun ds => forL gt g ds ρ
theorem sx_for {tg iter : Expr} {body : List Stmt} {js : List Nat} {fi : Vars → R (List PyData)} {gt : PyData → Vars → Option Vars} {g : Vars → Out} {pos : Pos} (hp : PassesOwn (model X.prog X.w) X.A X.env X.xe) (hc : X.calm = true) (hi : IX X W tg iter fi) (hg : GX X tg js gt) (hin : GtIn js gt) (ho : (js.all fun j => !own.contains j) = true)
    (hb : SsX X W own body g) (hs : ∀ x, foldedSetIterable iter X.env x = pure x := by intro _; rfl) : SX X W own (.For tg iter body [] pos) (sFor own fi gt g) := by
  obtain ⟨wi, p, hwi⟩ := hi
  obtain ⟨ok, tgt, q, hgt⟩ := hg
  obtain ⟨tb, pb, htb⟩ := hb
  have hj : ∀ j ∈ js, j ∉ own := fun j h z => by
    have := List.all_eq_true.mp ho j h
    rw [List.contains_iff_mem.mpr z] at this; cases this
  refine ⟨_, ps_for hp hc p q pb hs, fun σ H ρ D H0 O0 O r z => ?_⟩
  refine hwi σ H O (mask own ρ) _ r.stands r.vrelM ?_
  unfold sFor at z
  cases e : fi (mask own ρ) with
  | bad => rw [e] at z; exact z
  | err c => rw [e] at z; exact fun H' s => z σ H' O (r.step s) (hide_same s)
  | ok ds =>
    rw [e, R.run_ok] at z
    intro J H1 s1 hJ
    refine ⟨fun i m σ2 H2 => m = ds.length - i ∧ i ≤ ds.length ∧ ∃ O2 ρ2, Rel X.K own H0 O0 O2 σ2 H2 ρ2 ∧ Same (hide O H1) (hide O2 H2) ∧ SOut X W own H0 O0 O2 H2 D (forL gt g (ds.drop i) ρ2), ⟨ds.length, rfl, Nat.zero_le _, O, ρ, r.step s1, Same.refl _, SOut.from z (hide_same s1)⟩, ?_⟩
    rintro i m σ2 H2 ⟨rfl, hle, O2, ρ2, r2, sF, z2⟩
    obtain ⟨j1, j2⟩ := hJ i H2 O2 r2.stands sF
    by_cases hlt : i < ds.length
    · have hd : ds[i]? = some ds[i] := List.getElem?_eq_getElem hlt
      obtain ⟨g1, g2⟩ := j1 _ hd
      have hdrop : ds.drop i = ds[i] :: ds.drop (i + 1) := List.drop_eq_getElem_cons hlt
      rw [hdrop] at z2
      unfold forL at z2
      cases eg : gt ds[i] ρ2 with
      | none => rw [eg] at z2; exact z2.elim
      | some ρ3 =>
        rw [eg] at z2
        dsimp only at z2
        refine .inr ⟨g1, fun σ' H' => (i + 1 ≤ ds.length ∧ ∃ O2 ρ2, Rel X.K own H0 O0 O2 σ' H' ρ2 ∧ Same (hide O H1) (hide O2 H') ∧ SOut X W own H0 O0 O2 H' D (forL gt g (ds.drop (i + 1)) ρ2)),
          fun σ' H' hn => ⟨ds.length - (i + 1), by omega, rfl, hn.1, hn.2⟩, fun x H3 y => ?_⟩
        obtain ⟨s23, rx⟩ := g2 x H3 y
        have r3 := r2.step s23
        refine hgt x ds[i] σ2 H3 O2 (mask own ρ2) (mask own ρ3) _ r3.stands r3.vrelM rx (ok.msk own _ ρ2 ρ3 hj eg) fun σ3 v3 l3 f3 => ?_
        have r4 : Rel X.K own H0 O0 O2 σ3 H3 ρ3 := other_of ok hj r3 eg v3 l3 f3 (hin.out _ ρ2 ρ3 eg)
        have sF3 : Same (hide O H1) (hide O2 H3) := sF.trans (hide_same s23)
        refine htb σ3 H3 ρ3 _ H0 O0 O2 r4 ?_
        cases eb : g ρ3 with
        | nx ρ4 =>
          rw [eb] at z2
          exact fun σ5 H5 O5 r5 s5 => ⟨hlt, O5, ρ4, r5, sF3.trans s5, SOut.from z2 ((hide_same s23).trans s5)⟩
        | ct ρ4 =>
          rw [eb] at z2
          exact fun σ5 H5 O5 r5 s5 => ⟨hlt, O5, ρ4, r5, sF3.trans s5, SOut.from z2 ((hide_same s23).trans s5)⟩
        | bk ρ4 =>
          rw [eb] at z2
          exact fun σ5 H5 O5 r5 s5 => z2 σ5 H5 O5 r5 ((hide_same s23).trans s5)
        | rt d => rw [eb] at z2; exact z2
        | err c ρ4 =>
          rw [eb] at z2
          exact fun σ5 H5 O5 r5 s5 => z2 σ5 H5 O5 r5 ((hide_same s23).trans s5)
        | bad => rw [eb] at z2; exact z2
    · have e3 : i = ds.length := by omega
      subst e3
      refine .inl ⟨j2 (Nat.le_refl _), ?_⟩
      rw [List.drop_length] at z2
      exact z2 σ2 H2 O2 r2 (Same.refl _)
def whileL (c : Vars → R Bool) (g : Vars → Out) : Nat → Vars → Out
  | 0, _ => .bad
  | n + 1, ρ => (c ρ).run ρ fun b => if b = true then (match g ρ with
      | .nx ρ2 => whileL c g n ρ2
      | .ct ρ2 => whileL c g n ρ2
      | .bk ρ2 => .nx ρ2
      | .rt d => .rt d
      | .err c ρ2 => .err c ρ2
      | .bad => .bad) else .nx ρ
theorem sx_while {c : Expr} {body : List Stmt} {tc : Vars → R Bool} {g : Vars → Out} {pos : Pos} (n : Nat) (hp : PassesOwn (model X.prog X.w) X.A X.env X.xe) (hc : TX X W c tc) (hb : SsX X W own body g) : SX X W own (.While c body [] pos) (whileL tc g n) := by
  obtain ⟨t, p, ht⟩ := hc
  obtain ⟨tb, pb, htb⟩ := hb
  refine ⟨_, ps_while hp p pb, fun σ H ρ D H0 O0 O r z => ?_⟩
  refine ⟨fun m σ2 H2 => ∃ O2 ρ2, Rel X.K own H0 O0 O2 σ2 H2 ρ2 ∧ SOut X W own H0 O0 O2 H2 D (whileL tc g m ρ2), ⟨n, O, ρ, r, z⟩, ?_⟩
  rintro m σ2 H2 ⟨O2, ρ2, r2, z2⟩
  cases m with
  | zero => exact z2.elim
  | succ m =>
    unfold whileL at z2
    refine ht σ2 H2 O0 ρ2 _ r2.stands0 r2.vrel0 (TOut.run r2 z2 fun b H3 s3 z3 r3 => ?_)
    cases b with
    | false =>
      simp only [Bool.false_eq_true, if_false] at z3 ⊢
      exact z3 σ2 H3 O2 r3 (Same.refl _)
    | true =>
      simp only [if_true] at z3 ⊢
      refine ⟨fun σ' H' => ∃ O2 ρ2, Rel X.K own H0 O0 O2 σ' H' ρ2 ∧ SOut X W own H0 O0 O2 H' D (whileL tc g m ρ2), fun σ' H' h => ⟨m, Nat.lt_succ_self m, h⟩, ?_⟩
      refine htb σ2 H3 ρ2 _ H0 O0 O2 r3 ?_
      cases eb : g ρ2 with
      | nx ρ4 => rw [eb] at z3; exact fun σ5 H5 O5 r5 s5 => ⟨O5, ρ4, r5, SOut.from z3 s5⟩
      | ct ρ4 => rw [eb] at z3; exact fun σ5 H5 O5 r5 s5 => ⟨O5, ρ4, r5, SOut.from z3 s5⟩
      | bk ρ4 => rw [eb] at z3; exact z3
      | rt d => rw [eb] at z3; exact z3
      | err c ρ4 => rw [eb] at z3; exact z3
      | bad => rw [eb] at z3; exact z3
/-! ### name op= e: ints, texts, tuples -/
def IpX (X : Cx) (op : Operator) (g : PyData → PyData → Option PyData) : Prop := ∃ r, PIp X op r ∧ Op2 X.K r g
/-- list += list would change the list: not here -/
theorem ipx_addI : IpX X .Add (gInt (fun _ _ => true) fun i j => .int (i + j)) := by
  refine ⟨_, ip_add, fun H O x y d e z Q hO rx ry h q => ?_⟩
  cases rx with
  | int i =>
    cases ry with
    | int j => cases h; exact ⟨i, j, rfl, rfl, q _ H (Same.refl H) (.int _)⟩
    | _ => cases h
  | _ => cases h
theorem ipx_subI : IpX X .Sub (gInt (fun _ _ => true) fun i j => .int (i - j)) := by
  refine ⟨_, ip_sub, fun H O x y d e z Q hO rx ry h q => ?_⟩
  cases rx with
  | int i =>
    cases ry with
    | int j => cases h; exact ⟨i, j, rfl, rfl, q _ H (Same.refl H) (.int _)⟩
    | _ => cases h
  | _ => cases h
theorem ipx_addS : IpX X .Add (fun d e => match d, e with
    | .str x, .str y => if x.length + y.length ≤ sizeLine then some (.str (x ++ y)) else none
    | _, _ => none) := by
  refine ⟨fun x y H Q => ∃ i j, x = .str i ∧ y = .str j ∧ i.length + j.length ≤ sizeLine ∧ Q (.str (i ++ j)) H, fun pins s σ H x y v u Q I r1 r2 h => iop_add_str pins s σ H x y v u Q I r1 r2 h, fun H O x y d e z Q hO rx ry h q => ?_⟩
  cases rx with
  | str i =>
    cases ry with
    | str j =>
      dsimp only at h
      by_cases c : i.length + j.length ≤ sizeLine
      · rw [if_pos c] at h; cases h; exact ⟨i, j, rfl, rfl, c, q _ H (Same.refl H) (.str _)⟩
      · rw [if_neg c] at h; cases h
    | _ => cases h
  | _ => cases h
def sAug (own : List Nat) (i : Nat) (g : PyData → PyData → Option PyData) (f : Vars → R PyData) (ρ : Vars) : Out := match ρ.getD i none with
  | some d => (f (mask own ρ)).run ρ fun e => match g d e with
    | some z => .nx (ρ.set i (some z))
    | none => .bad
  | none => .bad
theorem sx_aug {i : Nat} {x : Str} {e : Expr} {op : Operator} {g : PyData → PyData → Option PyData} {f : Vars → R PyData} {pos' pos : Pos} (hN : X.N.Nodup) (hi : X.N[i]? = some x) (hx : Loc X.env.scope x) (hg : IpX X op g) (h : EX X W e f) (ho : own.contains i = false) (hf : X.fn x = true ∨ X.env.scope.names.lookup x = some .local := by first | exact .inl rfl | exact .inr rfl | assumption) :
    SX X W own (.AugAssign (.Name x pos') op e pos) (sAug own i g f) := by
  obtain ⟨t, p, ht⟩ := h
  obtain ⟨r, pr, hr⟩ := hg
  have hi' : i ∉ own := fun z => by rw [List.contains_iff_mem.mpr z] at ho; cases ho
  refine ⟨_, ps_aug hN hi hx p pr hf, fun σ H ρ D H0 O0 O rl z => ?_⟩
  unfold sAug at z
  cases e1 : ρ.getD i none with
  | none => rw [e1] at z; exact z.elim
  | some d =>
    rw [e1] at z
    obtain ⟨v, h1, h2⟩ := rl.free i d hi' (getD_some e1)
    refine ⟨v, h1, ht σ H O _ _ rl.stands rl.vrelM (EOut.run rl z fun e w H' s rw' z' r' => ?_)⟩
    cases e2 : g d e with
    | none => rw [e2] at z'; exact z'.elim
    | some y =>
      rw [e2] at z'
      exact hr H' O v w d e y _ r'.stands (h2.mono (hide_same s)) rw' e2 fun v2 H2 s2 r2 => z' _ H2 O ((r'.step s2).set hi' r2) (hide_same s2)
/-- a, b = e1, e2 -/
def sPar (own : List Nat) (i j : Nat) (f : Vars → R (List PyData)) (ρ : Vars) : Out := (f (mask own ρ)).run ρ fun ds => match ds with
  | [d, e] => .nx ((ρ.set i (some d)).set j (some e))
  | _ => .bad
theorem sx_par {i j : Nat} {x y : Str} {a b : Expr} {f : Vars → R (List PyData)} {px py pt pos : Pos} {kt k2 pt2} (hc : X.calm = true) (hN : X.N.Nodup) (hi : X.N[i]? = some x) (hj : X.N[j]? = some y) (hij : i ≠ j)
    (hx : X.env.scope.names.lookup x = some .local) (hy : X.env.scope.names.lookup y = some .local) (ha : AX X W [a, b] f)
    (hw : swappedStores [.Tuple [.Name x px, .Name y py] kt pt] (.Tuple [a, b] k2 pt2) X.env = pure (some [x, y])) (ho : (own.contains i || own.contains j) = false)
    (hs : swapsWithSole [.Tuple [.Name x px, .Name y py] kt pt] (.Tuple [a, b] k2 pt2) pos.line X.env = pure false := by rfl) :
    SX X W own (.Assign [.Tuple [.Name x px, .Name y py] kt pt] (.Tuple [a, b] k2 pt2) pos) (sPar own i j f) := by
  obtain ⟨t, p, ht⟩ := ha
  rw [Bool.or_eq_false_iff] at ho
  have hi' : i ∉ own := fun z => by have := List.contains_iff_mem.mpr z; rw [ho.1] at this; cases this
  have hj' : j ∉ own := fun z => by have := List.contains_iff_mem.mpr z; rw [ho.2] at this; cases this
  refine ⟨_, ps_par hc hN hi hj hij hx hy p hw hs, fun σ H ρ D H0 O0 O r z => ht σ H O _ _ r.stands r.vrelM ?_⟩
  unfold sPar at z
  cases e : f (mask own ρ) with
  | bad => rw [e] at z; exact z
  | err c => rw [e] at z; exact fun H' s => z σ H' O (r.step s) (hide_same s)
  | ok ds =>
    rw [e, R.run_ok] at z
    intro vs H1 s1 r1
    have key : ∃ d e', ds = [d, e'] ∧ SOut X W own H0 O0 O H D (.nx ((ρ.set i (some d)).set j (some e'))) := by
      match ds, z with
      | [d, e'], z => exact ⟨d, e', rfl, z⟩
      | [], z => exact z.elim
      | [_], z => exact z.elim
      | _ :: _ :: _ :: _, z => exact z.elim
    obtain ⟨d, e', rfl, z⟩ := key
    obtain ⟨v, w, rfl, rv, rw'⟩ := rps_two r1
    exact ⟨v, w, rfl, z _ H1 O (((r.step s1).set hi' rv).set hj' rw') (hide_same s1)⟩
end
/-! ### a def's body -/
section
variable (X : Cx) (E : XK)
def BOut (H0 : Hp) (O0 : List Addr) (Q : VK) : Out → Prop
  | .nx _ => ∀ H', Same H0 H' → Q .non H'
  | .rt d => ∀ v H', Same H0 H' → Rp X.K (hide O0 H') v d → Q v H'
  | .err c _ => ∀ H', Same H0 H' → E (exV X.mg c) none H'
  | _ => False
abbrev WD : WX := fun c d _ H => E c d H
def BX (own : List Nat) (sts : List Stmt) (g : Vars → Out) : Prop :=
  ∃ t, PSs X sts t ∧ ∀ σ H ρ Q H0 O0 O, Rel X.K own H0 O0 O σ H ρ → BOut X E H0 O0 Q (g ρ) → t { nx := fun _ H' => Q .non H', rt := Q } σ H
end
section
variable {X : Cx} {E : XK} {own : List Nat}
theorem BX.of {sts : List Stmt} {g : Vars → Out} (h : SsX X (WD E) own sts g) : BX X E own sts g := by
  obtain ⟨t, p, ht⟩ := h
  refine ⟨t, p, fun σ H ρ Q H0 O0 O r z => ht σ H ρ _ H0 O0 O r ?_⟩
  cases e : g ρ with
  | nx ρ' => rw [e] at z; exact fun σ' H' O' r' s' => z H' r'.same
  | rt d => rw [e] at z; exact z
  | err c ρ' => rw [e] at z; exact fun σ' H' O' r' s' => z H' r'.same
  | bk _ => rw [e] at z; exact z.elim
  | ct _ => rw [e] at z; exact z.elim
  | bad => rw [e] at z; exact z.elim
/-- a statement, then the rest; from here on fewer lists are own -/
theorem BX.cons {st : Stmt} {rest : List Stmt} {g h : Vars → Out} {own' : List Nat} (a : SX X (WD E) own st g) (b : BX X E own' rest h) (ho : (own'.all fun i => own.contains i) = true) : BX X E own (st :: rest) (sSeq g h) := by
  obtain ⟨t, p, ht⟩ := a
  obtain ⟨u, q, hu⟩ := b
  refine ⟨_, pss_cons p q, fun σ H ρ Q H0 O0 O r z => ht σ H ρ _ H0 O0 O r ?_⟩
  unfold sSeq at z
  cases e : g ρ with
  | nx ρ1 =>
    rw [e] at z
    intro σ1 H1 O1 r1 s1
    obtain ⟨O2, r2, _⟩ := r1.freeze (own' := own') fun i hi => List.contains_iff_mem.mp (List.all_eq_true.mp ho i hi)
    exact hu σ1 H1 ρ1 Q H0 O0 O2 r2 z
  | rt d => rw [e] at z; exact z
  | err c ρ' => rw [e] at z; exact fun σ' H' O' r' s' => z H' r'.same
  | bk _ => rw [e] at z; exact z.elim
  | ct _ => rw [e] at z; exact z.elim
  | bad => rw [e] at z; exact z.elim
end
/-- what the def answers: N its slots -/
def fnD (N : Nat) (g : Vars → Out) (ds : List PyData) : R PyData := match g (ds.map some ++ List.replicate (N - ds.length) none) with
  | .nx _ => .ok .none
  | .rt d => .ok d
  | .err c _ => .err c
  | _ => .bad
section
variable {P : Program} {w : World} {K : PySem.W.Frag} {mg : Str → Option Value} {base : Heap}
theorem start_rel {K : PySem.W.Frag} {own : List Nat} {N : List Str} {H : Hp} {O : List Addr} {vs : List V} {ds : List PyData} (hO : Stands O H) (r : Rps K (hide O H) vs ds) (hl : ds.length ≤ N.length) (ho : ∀ i ∈ own, ds.length ≤ i) :
    Rel K own H O O (L2.start N vs) H (ds.map some ++ List.replicate (N.length - ds.length) none) where
  same := Same.refl H
  st0 := hO
  len := by
    unfold L2.start
    rw [List.length_append, List.length_append, List.length_map, List.length_map, List.length_replicate, List.length_replicate, r.length]
  sub := fun a ha => ha
  lists := fun a ha => .inl ha
  free := fun i d _ e => by
    by_cases h : i < ds.length
    · rw [List.getElem?_append_left (by simpa using h), List.getElem?_map] at e
      cases q : ds[i]? with
      | none => rw [q] at e; cases e
      | some x =>
        rw [q] at e
        cases e
        obtain ⟨v, h1, h2⟩ := r.get q
        refine ⟨v, ?_, h2⟩
        unfold L2.start
        rw [List.getElem?_append_left (by rw [List.length_map, r.length]; exact h), List.getElem?_map, h1]
        rfl
    · rw [List.getElem?_append_right (by simpa using h), List.getElem?_replicate] at e
      split at e <;> cases e
  mine := fun i d c e => by
    have h := ho i c
    rw [List.getElem?_append_right (by simpa using h), List.getElem?_replicate] at e
    split at e <;> cases e
  apart := fun i j d e a c _ q1 _ _ _ => by
    have h := ho i c
    rw [List.getElem?_append_right (by simpa using h), List.getElem?_replicate] at q1
    split at q1 <;> cases q1
/-- THE RULE for a def by data -/
theorem fn_data {x qual : Str} {st : Stmt} {f : Addr} {fd : FuncData} {N ps : List Str} {k n : Nat} {own : List Nat} {g : Vars → Out} (F : Fun K x qual st f fd) (S : FnScope N ps (defScope st)) (hn : ps.length = n) (ho : (own.all fun i => decide (n ≤ i)) = true)
    (hb : ∀ (cdv : Value) (A : Around) (outer : List Env) (s : Shared) (H : Hp) (E : XK), Room k (A.deeper (envOfC qual (defScope st) s.heap.objs.size f cdv)) → BX (cxOf (L2.CX P w) P w K mg base N qual (defScope st) f cdv A outer s H E) E own (defBody st) g) :
    FnOk P w K mg base (L2.CX P w) (k + 1) f fd ps (spD K mg n (fnD N.length g)) := by
  refine F.okX S (fun vs H Q E h => ?_) fun cdv A outer s H vs Q E hr h => ?_
  · rw [h.1]; exact hn.symm
  obtain ⟨hl, O, ds, hO, r, z⟩ := h
  obtain ⟨t, p, ht⟩ := hb cdv A outer s H E hr
  have hpl : ps.length ≤ N.length := by have := congrArg List.length S.pre; rw [List.length_take] at this; omega
  have hdl : ds.length = n := by rw [← r.length]; exact hl
  refine ⟨t, p, ht _ H _ Q H O O (start_rel hO r (by omega) fun i hi => by have := of_decide_eq_true (List.all_eq_true.mp ho i hi); omega) ?_⟩
  unfold fnD at z
  cases e : g (ds.map some ++ List.replicate (N.length - ds.length) none) with
  | nx ρ' => rw [e] at z; exact fun H' s' => z .non H' s' .non
  | rt d => rw [e] at z; exact z
  | err c ρ' => rw [e] at z; exact z
  | bk _ => rw [e] at z; exact z.elim
  | ct _ => rw [e] at z; exact z.elim
  | bad => rw [e] at z; exact z.elim
/-- .. as a callee -/
theorem cal_data {x qual : Str} {st : Stmt} {f : Addr} {fd : FuncData} {N ps : List Str} {k n : Nat} {own : List Nat} {g : Vars → Out} (F : Fun K x qual st f fd) (hm : mg x = some (.ref f)) (hbn : Binds K fd ps []) (S : FnScope N ps (defScope st)) (hn : ps.length = n) (ho : (own.all fun i => decide (n ≤ i)) = true)
    (hb : ∀ (cdv : Value) (A : Around) (outer : List Env) (s : Shared) (H : Hp) (E : XK), Room k (A.deeper (envOfC qual (defScope st) s.heap.objs.size f cdv)) → BX (cxOf (L2.CX P w) P w K mg base N qual (defScope st) f cdv A outer s H E) E own (defBody st) g) :
    Cal P w K mg base (k + 1) x n (fnD N.length g) := ⟨f, fd, ps, hn, fn_data F S hn ho hb, hm, F.kp, hbn⟩
/-- no call is left: nothing is said -/
theorem cal_zero {x qual : Str} {st : Stmt} {f : Addr} {fd : FuncData} {ps : List Str} {n : Nat} (F : Fun K x qual st f fd) (hm : mg x = some (.ref f)) (hbn : Binds K fd ps []) (hn : ps.length = n) : Cal P w K mg base 0 x n fun _ => .bad := by
  have no : ∀ vs H Q E, ¬ spD K mg n (fun _ => .bad) vs H Q E := fun vs H Q E h => by
    obtain ⟨_, _, _, _, _, z⟩ := h
    exact z
  exact ⟨f, fd, ps, hn, ⟨fun vs H Q E h => absurd h (no vs H Q E), fun A outer s H args us vs Q E _ _ _ _ h => absurd h (no vs H Q E)⟩, hm, F.kp, hbn⟩
theorem takesD {N : List Str} {qual : Str} {scope : Scope} {f : Addr} {cdv : Value} {A : Around} {outer : List Env} {s : Shared} {H : Hp} {E : XK} : Takes (cxOf (L2.CX P w) P w K mg base N qual scope f cdv A outer s H E) (WD E) := takes_of rfl rfl rfl rfl
theorem passD {N : List Str} {qual : Str} {scope : Scope} {f : Addr} {cdv : Value} {A : Around} {outer : List Env} {s : Shared} {H : Hp} {E : XK} : PassesOwn (model (cxOf (L2.CX P w) P w K mg base N qual scope f cdv A outer s H E).prog (cxOf (L2.CX P w) P w K mg base N qual scope f cdv A outer s H E).w) (cxOf (L2.CX P w) P w K mg base N qual scope f cdv A outer s H E).A (cxOf (L2.CX P w) P w K mg base N qual scope f cdv A outer s H E).env (cxOf (L2.CX P w) P w K mg base N qual scope f cdv A outer s H E).xe := passes_of rfl
end
end Pu
set_option Elab.async false
set_option linter.all false
set_option maxRecDepth 100000
set_option maxHeartbeats 4000000
namespace Pu
open PySem PySem.Spec PyProof.Rows L2
/-- fuel of a while -/
abbrev wfuel : Nat := 1000000
def gAddI : PyData → PyData → Option PyData := gInt (fun _ _ => true) fun i j => .int (i + j)
def gSubI : PyData → PyData → Option PyData := gInt (fun _ _ => true) fun i j => .int (i - j)
/-- the law's own promise -/
def spLaw (K : PySem.W.Frag) : Sp := fun vs H Q _ => ∃ (a : Addr) (ns : List Int), vs = [.ref a] ∧ SqL K H a (ns.map V.int) ∧ ns.length ≤ 63 ∧ ∀ H', Q (.bl true) H'
theorem law_imp {K : PySem.W.Frag} {mg : Str → Option Value} {f : List PyData → R PyData} (hl : ∀ ns : List Int, ns.length ≤ 63 → f [.list (ns.map .int)] = .ok (.bool true)) : ∀ vs H Q E, spLaw K vs H Q E → spD K mg 1 f vs H Q E := fun vs H Q E h => by
  obtain ⟨a, ns, rfl, hS, h63, q⟩ := h
  refine ⟨rfl, [], [.list (ns.map .int)], fun a z => absurd z (by simp), .cons (.lst (by rw [hide_nil]; exact hS) (Rps.ofInts ns)) .nil, ?_⟩
  rw [hl ns h63]
  intro v H' s r
  cases r
  exact q H'
theorem walkL {l : PySem.W.OpenLaw} {q : Program} {loose : List Str} {XP : (Str → Option Value) → Heap → Prop} {YP : World → Heap → Prop} {d : DefRec} {K : Params → PySem.W.Frag} {k : Nat} {x : Str} (hn : l.most = some 63) (hdf : d.params.defaults = []) (hr : Room k callerA)
    (hY : ∀ (w : World) (h : Heap), YP w h → (K w.params).In h)
    (F : ∀ (w : World) (mg : Str → Option Value) (fa : Addr) (h : Heap), (K w.params).In h → h.Ns mainGlobals mg → mg d.name = some (.ref fa) →
      ∃ fd : FuncData, (∀ (s : Shared) (u : Value), BindsTo s fd ⟨[u], []⟩ [(x, u)]) ∧ ∀ base : Heap, (K w.params).In base → base.Ns mainGlobals mg → FnOk l.prog w (K w.params) mg base (L2.CX l.prog w) k fa fd [x] (spLaw (K w.params))) :
    PySem.W.WalkO q loose XP YP l.row.toRowW d [] (fun f vs => PySem.call f vs) :=
  L2.walk_of (n := 63) (k := k) (x := x) (CX := fun w => L2.CX l.prog w) (sp := fun w => spLaw (K w.params)) hn (by decide) hdf hr hY F (fun _ _ a ns hl _ hS => ⟨a, ns, rfl, hS, hl, fun _ => rfl⟩) fun _ _ _ _ _ z => by
    obtain ⟨_, _, _, _, _, _, _, _, _, _, _, _, z⟩ := z
    exact z
/-! ### raise -/
/-- an own error class over ValueError -/
def ErrF (K : PySem.W.Frag) (mg : Str → Option Value) (c : Str) : Prop := ∃ C, mg c = some (.ref C) ∧ PySem.W.excIn K C [.type "ValueError", .type "Exception", .type "BaseException", .type "object"] "ValueError.__new__" = true ∧ PySem.W.keepIn K (.ref C) = true ∧
  PySem.W.subIn K (.ref C) (.type "BaseException") = some true ∧ PySem.W.typeIn K (.ref C) = some (.type "type")
def sRaise (c : Str) (ρ : Vars) : Out := .err c ρ
theorem sx_raise {X : Cx} {W : WX} {own : List Nat} {x m : Str} {j : Nat} {p p2 pos' pos : Pos} (hc : X.calm = true) (tk : Takes X W) (F : ErrF X.K X.mg x) (hg : Gl X x) (hdb : (x == ("__debug__" : Str)) = false := by decide) :
    SX X W own (.Raise (some (.Call (.Name x p) [.Constant (.str m) j p2] [] pos')) none pos) (sRaise x) := by
  obtain ⟨C, h1, h2, h3, h4, h5⟩ := F
  refine ⟨_, ps_raise hc tk (pmk_own PySem.F.excBase_ValueError h2 h1 h3 (raises_own h4 h5) hg hdb), fun σ H ρ D H0 O0 O r z => ?_⟩
  have e : exV X.mg x = .ref C := by unfold exV; rw [h1]; rfl
  rw [← e]
  exact z σ H O r (Same.refl _)
end Pu
set_option Elab.async false
set_option linter.all false
set_option maxRecDepth 100000
set_option maxHeartbeats 4000000
namespace Pu
open PySem PySem.Spec PyProof.Rows L2
section
variable (ρ : Vars)
@[simp] theorem u_sSeq (g h : Vars → Out) : sSeq g h ρ = (g ρ).then h := rfl
@[simp] theorem u_sNil : sNil ρ = .nx ρ := rfl
@[simp] theorem u_sRaise (c : Str) : sRaise c ρ = .err c ρ := rfl
@[simp] theorem u_sBrk : sBrk ρ = .bk ρ := rfl
@[simp] theorem u_sCt : sCt ρ = .ct ρ := rfl
@[simp] theorem u_sRet (f : Vars → R PyData) : sRet f ρ = (f ρ).run ρ fun d => .rt d := rfl
@[simp] theorem u_sRetN : sRetN ρ = .rt .none := rfl
@[simp] theorem u_sExpr (f : Vars → R PyData) : sExpr f ρ = (f ρ).run ρ fun _ => .nx ρ := rfl
@[simp] theorem u_sIf (c : Vars → R Bool) (g h : Vars → Out) : sIf c g h ρ = (c ρ).run ρ fun b => if b = true then g ρ else h ρ := rfl
@[simp] theorem u_sSet0 (i : Nat) (f : Vars → R PyData) : sSet [] i f ρ = (f ρ).run ρ fun d => .nx (ρ.set i (some d)) := rfl
@[simp] theorem u_sSet1 (o : Nat) (os : List Nat) (i : Nat) (f : Vars → R PyData) : sSet (o :: os) i f ρ = (f ρ).run ρ fun d => if imm d = true then .nx (ρ.set i (some d)) else .bad := rfl
@[simp] theorem u_sSetM (own : List Nat) (i : Nat) (f : Vars → R PyData) : sSetM own i f ρ = (f (mask own ρ)).run ρ fun d => .nx (ρ.set i (some d)) := rfl
@[simp] theorem mask_nil : mask [] ρ = ρ := by
  have h : ∀ (k : Nat) (ρ : Vars), maskF [] k ρ = ρ := by
    intro k ρ
    induction ρ generalizing k with
    | nil => rfl
    | cons x r ih => unfold maskF; rw [ih]; rfl
  exact h 0 ρ
@[simp] theorem u_mask_c (own : List Nat) (k : Nat) (x : Option PyData) : maskF own k (x :: ρ) = (if own.contains k = true then none else x) :: maskF own (k + 1) ρ := rfl
@[simp] theorem u_mask_n (own : List Nat) (k : Nat) : maskF own k [] = [] := rfl
@[simp] theorem u_sFor (own : List Nat) (fi : Vars → R (List PyData)) (gt : PyData → Vars → Option Vars) (g : Vars → Out) : sFor own fi gt g ρ = (fi (mask own ρ)).run ρ fun ds => forL gt g ds ρ := rfl
@[simp] theorem u_sAsg (own : List Nat) (gt : PyData → Vars → Option Vars) (f : Vars → R PyData) : sAsg own gt f ρ = (f (mask own ρ)).run ρ fun d => match gt d ρ with
  | some ρ' => .nx ρ'
  | none => .bad := rfl
@[simp] theorem u_sAug (own : List Nat) (i : Nat) (g : PyData → PyData → Option PyData) (f : Vars → R PyData) : sAug own i g f ρ = match ρ.getD i none with
  | some d => (f (mask own ρ)).run ρ fun e => match g d e with
    | some z => .nx (ρ.set i (some z))
    | none => .bad
  | none => .bad := rfl
@[simp] theorem u_sPar (own : List Nat) (i j : Nat) (f : Vars → R (List PyData)) : sPar own i j f ρ = (f (mask own ρ)).run ρ fun ds => match ds with
  | [d, e] => .nx ((ρ.set i (some d)).set j (some e))
  | _ => .bad := rfl
@[simp] theorem u_sNew (own : List Nat) (i : Nat) (f : Vars → R (List PyData)) : sNew own i f ρ = (f (mask own ρ)).run ρ fun ds => .nx (ρ.set i (some (.list ds))) := rfl
@[simp] theorem u_sSetLc (own : List Nat) (i : Nat) (f : Vars → R (List PyData)) : sSetLc own i f ρ = (f (mask own ρ)).run ρ fun ds => .nx (ρ.set i (some (.list ds))) := rfl
@[simp] theorem u_sApp (i : Nat) (f : Vars → R PyData) : sApp i f ρ = match ρ.getD i none with
  | some (.list ds) => (f ρ).run ρ fun d => if (decide (ds.length < sizeLine) && imm d) = true then .nx (ρ.set i (some (.list (ds ++ [d])))) else .bad
  | _ => .bad := rfl
@[simp] theorem u_sAppM (own : List Nat) (i : Nat) (f : Vars → R PyData) : sAppM own i f ρ = match ρ.getD i none with
  | some (.list ds) => (f (mask own ρ)).run ρ fun d => if ds.length < sizeLine then .nx (ρ.set i (some (.list (ds ++ [d])))) else .bad
  | _ => .bad := rfl
@[simp] theorem u_eVar (i : Nat) : eVar i ρ = R.of (ρ.getD i none) := rfl
@[simp] theorem u_eC (d : PyData) : eC d ρ = .ok d := rfl
@[simp] theorem u_aNil : aNil ρ = .ok [] := rfl
@[simp] theorem u_aCons (f : Vars → R PyData) (g : Vars → R (List PyData)) : aCons f g ρ = (f ρ).bind fun d => (g ρ).bind fun ds => .ok (d :: ds) := rfl
@[simp] theorem u_eTup (f : Vars → R (List PyData)) : eTup f ρ = (f ρ).bind fun ds => if ds.length ≤ sizeLine then .ok (.tuple ds) else .bad := rfl
@[simp] theorem u_eLst (f : Vars → R (List PyData)) : eLst f ρ = (f ρ).bind fun ds => if ds.length ≤ sizeLine then .ok (.list ds) else .bad := rfl
@[simp] theorem u_nLst (f : Vars → R (List PyData)) : nLst f ρ = (f ρ).bind fun ds => if ds.length ≤ sizeLine then .ok ds else .bad := rfl
@[simp] theorem u_eOp (g : PyData → PyData → Option PyData) (f h : Vars → R PyData) : eOp g f h ρ = (f ρ).bind fun d => (h ρ).bind fun e => R.of (g d e) := rfl
@[simp] theorem u_eCall (g : List PyData → Option PyData) (f : Vars → R (List PyData)) : eCall g f ρ = (f ρ).bind fun ds => R.of (g ds) := rfl
@[simp] theorem u_eFn (g : List PyData → R PyData) (f : Vars → R (List PyData)) : eFn g f ρ = (f ρ).bind g := rfl
@[simp] theorem u_tOf (f : Vars → R PyData) : tOf f ρ = (f ρ).bind fun d => match d with
  | .bool b => .ok b
  | _ => .bad := rfl
@[simp] theorem u_tTru (f : Vars → R PyData) : tTru f ρ = (f ρ).bind fun d => R.of (truD d) := rfl
@[simp] theorem u_tNotR (f : Vars → R Bool) : tNotR f ρ = (f ρ).bind fun b => .ok (!b) := rfl
@[simp] theorem u_tAndR (f g : Vars → R Bool) : tAndR f g ρ = (f ρ).bind fun b => if b = true then g ρ else .ok false := rfl
@[simp] theorem u_tOrR (f g : Vars → R Bool) : tOrR f g ρ = (f ρ).bind fun b => if b = true then .ok true else g ρ := rfl
@[simp] theorem u_tYesD : tYesD ρ = .ok true := rfl
@[simp] theorem u_eAnd (f g : Vars → R PyData) : eAnd f g ρ = (tOf f ρ).bind fun b => if b = true then g ρ else .ok (.bool false) := rfl
@[simp] theorem u_eOr (f g : Vars → R PyData) : eOr f g ρ = (tOf f ρ).bind fun b => if b = true then .ok (.bool true) else g ρ := rfl
@[simp] theorem u_eNot (f : Vars → R PyData) : eNot f ρ = (tOf f ρ).bind fun b => .ok (.bool (!b)) := rfl
@[simp] theorem u_eIf (c : Vars → R Bool) (f g : Vars → R PyData) : eIf c f g ρ = (c ρ).bind fun b => if b = true then f ρ else g ρ := rfl
@[simp] theorem u_eNeg (f : Vars → R PyData) : eNeg f ρ = (f ρ).bind fun d => match d with
  | .int i => .ok (.int (-i))
  | _ => .bad := rfl
@[simp] theorem u_eIsi (T : String) (f : Vars → R PyData) : eIsi T f ρ = (f ρ).bind fun d => .ok (.bool (isiB T d)) := rfl
@[simp] theorem u_oNone : oNone ρ = .ok none := rfl
@[simp] theorem u_oSome (f : Vars → R PyData) : oSome f ρ = (f ρ).bind fun d => match d with
  | .int i => .ok (some i)
  | _ => .bad := rfl
@[simp] theorem u_eSl (f : Vars → R PyData) (g h : Vars → R (Option Int)) : eSl f g h ρ = (f ρ).bind fun d => (g ρ).bind fun l => (h ρ).bind fun u => R.of (gSl d l u) := rfl
@[simp] theorem u_iSeq (f : Vars → R PyData) : iSeq f ρ = (f ρ).bind fun d => match d with
  | .list ds => .ok ds
  | .tuple ds => .ok ds
  | _ => .bad := rfl
@[simp] theorem u_iRange (f : Vars → R (List PyData)) : iRange f ρ = (f ρ).bind fun ds => match ds with
  | [.int j] => if okI j = true then .ok (rngD 0 j.toNat) else .bad
  | [.int i, .int j] => if (okI i && okI j) = true then .ok (rngD i (j - i).toNat) else .bad
  | _ => .bad := rfl
@[simp] theorem u_iZipD (f : Vars → R (List PyData)) : iZipD f ρ = (f ρ).bind fun ds => match ds with
  | [.list xs, .list ys] => .ok (zipD xs ys)
  | [.tuple xs, .tuple ys] => .ok (zipD xs ys)
  | _ => .bad := rfl
@[simp] theorem u_eLc (fi : Vars → R (List PyData)) (gt : PyData → Vars → Option Vars) (tt : Vars → R Bool) (f : Vars → R PyData) (vs : List Nat) : eLc fi gt tt f vs ρ = (nLc fi gt tt f vs ρ).bind fun ys => .ok (.list ys) := rfl
@[simp] theorem u_nLc (fi : Vars → R (List PyData)) (gt : PyData → Vars → Option Vars) (tt : Vars → R Bool) (f : Vars → R PyData) (vs : List Nat) : nLc fi gt tt f vs ρ = (fi ρ).bind fun ds => match lcL gt tt f (wipeD ρ vs) ds with
    | .ok ys => if ys.length < sizeLine then .ok ys else .bad
    | _ => .bad := rfl
@[simp] theorem u_wipe_n : wipeD ρ [] = ρ := rfl
@[simp] theorem u_wipe_c (v : Nat) (vs : List Nat) : wipeD ρ (v :: vs) = (wipeD ρ vs).set v none := rfl
@[simp] theorem u_gtName (i : Nat) (d : PyData) : gtName i d ρ = some (ρ.set i (some d)) := rfl
@[simp] theorem u_gtNil : gtNil [] ρ = some ρ := rfl
@[simp] theorem u_gtCons (g : PyData → Vars → Option Vars) (h : List PyData → Vars → Option Vars) (d : PyData) (ds : List PyData) : gtCons g h (d :: ds) ρ = (g d ρ).bind fun ρ' => h ds ρ' := rfl
@[simp] theorem u_gtTup (n : Nat) (h : List PyData → Vars → Option Vars) (ds : List PyData) : gtTup n h (.tuple ds) ρ = if ds.length = n then h ds ρ else none := rfl
@[simp] theorem u_forL_n (gt : PyData → Vars → Option Vars) (g : Vars → Out) : forL gt g [] ρ = .nx ρ := rfl
theorem u_forL_c (gt : PyData → Vars → Option Vars) (g : Vars → Out) (d : PyData) (ds : List PyData) : forL gt g (d :: ds) ρ = match gt d ρ with
    | none => .bad
    | some ρ1 => match g ρ1 with
      | .nx ρ2 => forL gt g ds ρ2
      | .ct ρ2 => forL gt g ds ρ2
      | .bk ρ2 => .nx ρ2
      | .rt d => .rt d
      | .err c ρ2 => .err c ρ2
      | .bad => .bad := rfl
@[simp] theorem u_lcL_n (gt : PyData → Vars → Option Vars) (tt : Vars → R Bool) (f : Vars → R PyData) : lcL gt tt f ρ [] = .ok [] := rfl
theorem u_lcL_c (gt : PyData → Vars → Option Vars) (tt : Vars → R Bool) (f : Vars → R PyData) (d : PyData) (ds : List PyData) : lcL gt tt f ρ (d :: ds) = match gt d ρ with
    | none => .bad
    | some ρ' => (tt ρ').bind fun b => if b = true then (f ρ').bind fun y => (lcL gt tt f ρ ds).bind fun ys => .ok (y :: ys) else lcL gt tt f ρ ds := rfl
end
@[simp] theorem u_gInt (C : Int → Int → Bool) (g : Int → Int → PyData) (i j : Int) : gInt C g (.int i) (.int j) = if C i j = true then some (g i j) else none := rfl
@[simp] theorem u_gCmp (p : Int → Int → Bool) (i j : Int) : gCmp p (.int i) (.int j) = some (.bool (p i j)) := rfl
@[simp] theorem u_gAdd_i (i j : Int) : gAdd (.int i) (.int j) = some (.int (i + j)) := rfl
@[simp] theorem u_gAdd_t (xs ys : List PyData) : gAdd (.tuple xs) (.tuple ys) = if xs.length + ys.length ≤ sizeLine then some (.tuple (xs ++ ys)) else none := rfl
@[simp] theorem u_gAdd_l (xs ys : List PyData) : gAdd (.list xs) (.list ys) = if xs.length + ys.length ≤ sizeLine then some (.list (xs ++ ys)) else none := rfl
@[simp] theorem u_gSub_i (i j : Int) : gSub (.int i) (.int j) = some (.int (i - j)) := rfl
@[simp] theorem u_gSub_b (a b : Bool) : gSub (.bool a) (.bool b) = some (.int ((if a = true then (1 : Int) else 0) - (if b = true then (1 : Int) else 0))) := rfl
@[simp] theorem u_gIx_t (xs : List PyData) (i : Int) : gIx (.tuple xs) (.int i) = atI xs i := rfl
@[simp] theorem u_gIx_l (xs : List PyData) (i : Int) : gIx (.list xs) (.int i) = atI xs i := rfl
@[simp] theorem u_gSl_t (xs : List PyData) (l u : Option Int) : gSl (.tuple xs) l u = some (.tuple (cutD xs l u)) := rfl
@[simp] theorem u_gSl_l (xs : List PyData) (l u : Option Int) : gSl (.list xs) l u = some (.list (cutD xs l u)) := rfl
@[simp] theorem u_gLen_t (xs : List PyData) : gLen [.tuple xs] = some (.int xs.length) := rfl
@[simp] theorem u_gLen_l (xs : List PyData) : gLen [.list xs] = some (.int xs.length) := rfl
@[simp] theorem u_gTuple_t (xs : List PyData) : gTuple [.tuple xs] = some (.tuple xs) := rfl
@[simp] theorem u_gTuple_l (xs : List PyData) : gTuple [.list xs] = some (.tuple xs) := rfl
@[simp] theorem u_gList_t (xs : List PyData) : gList [.tuple xs] = some (.list xs) := rfl
@[simp] theorem u_gList_l (xs : List PyData) : gList [.list xs] = some (.list xs) := rfl
@[simp] theorem u_gIntC_i (i : Int) : gIntC [.int i] = some (.int i) := rfl
@[simp] theorem u_gIntC_b (b : Bool) : gIntC [.bool b] = some (.int (if b then 1 else 0)) := rfl
@[simp] theorem u_truD_b (b : Bool) : truD (.bool b) = some b := rfl
/-- items by places -/
@[simp] theorem atI_zero {α : Type} (x : α) (r : List α) : atI (x :: r) 0 = some x := atI_nat (j := 0) rfl
@[simp] theorem atI_one {α : Type} (x y : α) (r : List α) : atI (x :: y :: r) 1 = some y := atI_nat (j := 1) rfl
@[simp] theorem atI_two {α : Type} (x y z : α) (r : List α) : atI (x :: y :: z :: r) 2 = some z := atI_nat (j := 2) rfl
theorem sz1000 {n : Nat} (h : n ≤ 10000000) : n ≤ sizeLine := Nat.le_trans h (by decide)
theorem sz1000' {n : Nat} (h : n ≤ 10000000) : n < sizeLine := Nat.lt_of_le_of_lt h (by decide)
@[simp] theorem sz0 : (0 : Nat) ≤ sizeLine := by decide
@[simp] theorem sz1 : (1 : Nat) ≤ sizeLine := by decide
@[simp] theorem sz2 : (2 : Nat) ≤ sizeLine := by decide
@[simp] theorem sz3 : (3 : Nat) ≤ sizeLine := by decide
@[simp] theorem sz4 : (4 : Nat) ≤ sizeLine := by decide
theorem fnD_of {N : Nat} {g : Vars → Out} {ds : List PyData} {d : PyData} (h : g (ds.map some ++ List.replicate (N - ds.length) none) = .rt d) : fnD N g ds = .ok d := by unfold fnD; rw [h]
@[simp] theorem then_ite {c : Prop} [Decidable c] (x y : Out) (f : Vars → Out) : (if c then x else y).then f = if c then x.then f else y.then f := by split <;> rfl
@[simp] theorem bind_ite {α β : Type} {c : Prop} [Decidable c] (x y : R α) (f : α → R β) : (if c then x else y).bind f = if c then x.bind f else y.bind f := by split <;> rfl
@[simp] theorem run_ite {α : Type} {c : Prop} [Decidable c] (x y : R α) (ρ : Vars) (k : α → Out) : (if c then x else y).run ρ k = if c then x.run ρ k else y.run ρ k := by split <;> rfl
@[simp] theorem of_ite {α : Type} {c : Prop} [Decidable c] (x y : Option α) : R.of (if c then x else y) = if c then R.of x else R.of y := by split <;> rfl
end Pu
set_option Elab.async false
set_option linter.all false
set_option maxRecDepth 100000
set_option maxHeartbeats 4000000
namespace Pu
open PySem PySem.Spec PyProof.Rows L2
/-! ### max(.., default = d) of a list of ints -/
theorem max_rawD {prog : Program} {w : World} {A : Around} {E : Value → Shared → Prop} {s : Shared} {l : Addr} {its : List Value} {ns : List Int} {Q : Value → Shared → Prop} {d : Value} (hh : A.handled = none) (hl : s.heap.IsList l its.toArray) (hi : IntsAre its ns)
    (h0 : ns = [] → ∀ h' tk, (∀ b o, s.heap.get? b = some o → h'.get? b = some o) → Q d { s with heap := h', toks := tk })
    (h : ∀ h' tk M t', (∀ b o, s.heap.get? b = some o → h'.get? b = some o) → M ∈ ns → (∀ a, a ∈ ns → a ≤ M) → Q (.int M t') { s with heap := h', toks := tk }) :
    wpAny (model prog w) A (call (.builtin "max") [.ref l] [(Str.ofString "default", d)]) Q E s := by
  obtain ⟨xs, e⟩ := hi.allInts.items
  have hn : numsOf (intItems xs).toList = ns := by rw [← e]; exact hi.numsOf
  rw [nums_intItems] at hn
  subst hn
  rw [e] at hl
  have hsz : (intItems xs).size = xs.size := by unfold intItems; rw [Array.size_map]
  refine PySem.call_max_walkD (PySem.W.iter_listW (A := A.in1) hh hl fun s₂ e W st hfp hw hk => ?_)
  refine ⟨_, _, _, _, _, _, _, s.heap, (fun i j => decide (numAt xs i > numAt xs j)), rfl, W, st, hfp, hw, hk, fun hz s' m => ?_, fun hp => ⟨fun i j vi vj s Q E _ hi hj h => CmpOf.ints_gt (numAt xs) (fun _ _ => intItems_at) i j vi vj s Q E hi hj h, fun v s' hP m => ?_⟩⟩
  · obtain ⟨h', tk, rfl, hk'⟩ := PySem.W.moved_old e rfl m
    refine h0 ?_ h' tk hk'
    apply List.eq_nil_of_length_eq_zero
    rw [List.length_map, Array.length_toList]
    rw [hsz] at hz
    exact hz
  · obtain ⟨h', tk, rfl, hk'⟩ := PySem.W.moved_old e rfl m
    obtain ⟨t, rfl⟩ := intItems_at hP
    rw [hsz] at hp ⊢
    obtain ⟨h1, h2⟩ := argBest_gt (numAt xs) (xs.size - 1)
    refine h h' tk _ t hk' ?_ fun a ha => ?_
    · rw [numAt_eq]; exact PySem.getD_mem (by rw [List.length_map, Array.length_toList]; omega)
    · obtain ⟨j, hj, rfl⟩ := mem_getD ha
      rw [List.length_map, Array.length_toList] at hj
      rw [← numAt_eq]; exact h2 j (by omega)
def rMaxD (K : PySem.W.Frag) (d : Int) : List V → List V → Hp → VK → Prop := fun vs zs H Q => ∃ (a : Addr) (ns : List Int), vs = [V.ref a] ∧ zs = [V.int d] ∧ SqL K H a (ns.map V.int) ∧ (ns = [] → Q (.int d) H) ∧ ∀ m, m ∈ ns → (∀ y, y ∈ ns → y ≤ m) → Q (.int m) H
theorem cr_maxD {X : Cx} {d : Int} (hc : X.calm = true) : CallRK X (.builtin "max") ["default"] (rMaxD X.K d) := by
  intro pins s σ H vs zs us ws Q I r r2 h
  obtain ⟨a, ns, rfl, rfl, hs, q0, q⟩ := h
  obtain ⟨its, rv, hl, _⟩ := I.list hs
  rw [Vals.ref1 r]
  cases r2 with
  | cons rw_ rr =>
    cases rr
    obtain ⟨t0, rfl⟩ := rw_
    exact max_rawD (I.ok.hd hc) hl.isList rv.ints (fun hz h' tk hk => ⟨.int d, H, I.kept hk, ⟨_, rfl⟩, q0 hz⟩) fun h' tk m t' hk h1 h2 => ⟨.int _, H, I.kept hk, ⟨_, rfl⟩, q m h1 h2⟩
def gMaxD (d : Int) : List PyData → Option PyData
  | [.list ds] => match intsOf ds with
    | some (n :: ns) => some (.int (maxI n ns))
    | some [] => some (.int d)
    | none => none
  | _ => none
def eMaxD (d : Int) (f : Vars → R PyData) (ρ : Vars) : R PyData := (f ρ).bind fun z => R.of (gMaxD d [z])
section
variable {X : Cx} {W : WX}
theorem ex_maxD {a : Expr} {f : Vars → R PyData} {d : Int} {p kp j pos : Pos} {jk} (hc : X.calm = true) (hg : Gl X "max") (hm : X.mg "max" = none) (ha : EX X W a f)
    (he : backTo pos (starEach [a] X.env) = (false, eval a X.env) :: backTo pos (starEach [] X.env) := by rfl) (hpl : (backTo pos (starEach [a] X.env)).any (·.1) = false := by rfl)
    (he2 : starEach [a] X.env = (false, eval a X.env) :: starEach [] X.env := by rfl)
    (hall : (backToKw pos (keywordEach [⟨some "default", .Constant (.int d) jk j, kp⟩] X.env)).all (·.1.isSome) = true := by rfl) (hnone : (backToKw pos (keywordEach [⟨some "default", .Constant (.int d) jk j, kp⟩] X.env)).any (·.1.isNone) = false := by rfl) (hks : (backToKw pos (keywordEach [⟨some "default", .Constant (.int d) jk j, kp⟩] X.env)).filterMap (·.1) = [("default" : Str)] := by rfl) :
    EX X W (.Call (.Name "max" p) [a] [⟨some "default", .Constant (.int d) jk j, kp⟩] pos) (eMaxD d f) := by
  obtain ⟨t, q, ht⟩ := ha
  refine ⟨_, pe_callBK (cr_maxD (d := d) hc) hg hm (by decide +kernel) (pa_cons q pa_nil he2) (pk_cons pe_int pk_nil) (by decide) (by decide) he hpl hall hnone hks, fun σ H O ρ Q hO hv z => ht σ H O ρ _ hO hv (EOut.then (g := fun z => R.of (gMaxD d [z])) EOut.b EOut.e z fun d1 v H1 s1 r1 z1 => ?_)⟩
  show rMaxD X.K d [v] [V.int d] H1 Q
  unfold gMaxD at z1
  cases r1 with
  | lst hx rs =>
    rename_i aa vv ds
    simp only [] at z1
    cases e : intsOf ds with
    | none => rw [e] at z1; exact z1.elim
    | some ns =>
      rw [e] at z1
      have e2 := intsOf_eq e
      subst e2
      have e3 := rs.ints
      subst e3
      refine ⟨_, ns, rfl, rfl, seqL hide_sub hx, fun hz => ?_, fun m h1 h2 => ?_⟩
      · subst hz
        exact z1 _ H1 s1 (.int _)
      · cases ns with
        | nil => cases h1
        | cons n ns =>
          have e4 : m = maxI n ns := Int.le_antisymm (maxI_le n ns m h1) (h2 _ (maxI_mem n ns))
          rw [e4]
          exact z1 _ H1 s1 (.int _)
  | _ => exact z1.elim
end
/-! ### is True, is not False -/
def rNotB : R2 := fun x y H Q => ∃ a b, x = .bl a ∧ y = .bl b ∧ Q (.bl (!(a == b))) H
def rIsB : R2 := fun x y H Q => ∃ a b, x = .bl a ∧ y = .bl b ∧ Q (.bl (a == b)) H
theorem op_notB {X : Cx} : OpR X (compareOp .IsNot) rNotB := by
  intro pins s σ H x y v u Q I rx ry h
  obtain ⟨a, b, rfl, rfl, q⟩ := h
  cases rx
  cases ry
  cases a <;> cases b <;> exact wpAny_pure (fin_bl I q rfl)
theorem op_isB {X : Cx} : OpR X (compareOp .Is) rIsB := by
  intro pins s σ H x y v u Q I rx ry h
  obtain ⟨a, b, rfl, rfl, q⟩ := h
  cases rx
  cases ry
  cases a <;> cases b <;> exact wpAny_pure (fin_bl I q rfl)
def gNotB : PyData → PyData → Option PyData
  | .bool a, .bool b => some (.bool (!(a == b)))
  | _, _ => none
def gIsB : PyData → PyData → Option PyData
  | .bool a, .bool b => some (.bool (a == b))
  | _, _ => none
theorem op2_notB {K : PySem.W.Frag} : Op2 K rNotB gNotB := by
  intro H O x y d e z Q hO rx ry h q
  cases rx with
  | bl a =>
    cases ry with
    | bl b => cases h; exact ⟨a, b, rfl, rfl, q _ H (Same.refl H) (.bl _)⟩
    | _ => cases h
  | _ => cases h
theorem op2_isB {K : PySem.W.Frag} : Op2 K rIsB gIsB := by
  intro H O x y d e z Q hO rx ry h q
  cases rx with
  | bl a =>
    cases ry with
    | bl b => cases h; exact ⟨a, b, rfl, rfl, q _ H (Same.refl H) (.bl _)⟩
    | _ => cases h
  | _ => cases h
@[simp] theorem u_gNotB (a b : Bool) : gNotB (.bool a) (.bool b) = some (.bool (!(a == b))) := rfl
@[simp] theorem u_gIsB (a b : Bool) : gIsB (.bool a) (.bool b) = some (.bool (a == b)) := rfl
@[simp] theorem u_eMaxD (d : Int) (f : Vars → R PyData) (ρ : Vars) : eMaxD d f ρ = (f ρ).bind fun z => R.of (gMaxD d [z]) := rfl
end Pu
set_option Elab.async false
set_option linter.all false
set_option maxRecDepth 100000
set_option maxHeartbeats 4000000
namespace Pu
open PySem PySem.Spec PyProof.Rows L2
/-! ### try: .. except X as e: v = 1 + int(isinstance(e, Y)) -/
theorem Rel.none {K : PySem.W.Frag} {own : List Nat} {H0 : Hp} {O0 O : List Addr} {σ : L2.St} {H : Hp} {ρ : Vars} (r : Rel K own H0 O0 O σ H ρ) {i : Nat} {x : Option V} (c : i ∉ own) : Rel K own H0 O0 O (σ.set i x) H (ρ.set i none) where
  same := r.same
  st0 := r.st0
  len := by simpa using r.len
  sub := r.sub
  lists := r.lists
  free := fun j e cj q => by
    by_cases z : i = j
    · subst z
      by_cases hi : i < ρ.length
      · rw [List.getElem?_set_self hi] at q; cases q
      · rw [List.getElem?_eq_none (by simpa using hi)] at q; cases q
    · rw [List.getElem?_set_ne z] at q
      rw [List.getElem?_set_ne z]
      exact r.free j e cj q
  mine := fun j e cj q => by
    have z : i ≠ j := fun z => c (z ▸ cj)
    rw [List.getElem?_set_ne z] at q
    rw [List.getElem?_set_ne z]
    exact r.mine j e cj q
  apart := fun j k d e a cj ck q1 q2 e1 e2 => by
    have z : i ≠ j := fun z => c (z ▸ cj)
    have z2 : i ≠ k := fun z => c (z ▸ ck)
    rw [List.getElem?_set_ne z] at q1 e1
    rw [List.getElem?_set_ne z2] at q2 e2
    exact r.apart j k d e a cj ck q1 q2 e1 e2
/-- what the clause says of an exception of the class c: not said, not caught, caught and so many -/
def sTryIs (T : Str → Option (Option Int)) (ie iv : Nat) (g : Vars → Out) (ρ : Vars) : Out := match g ρ with
  | .err c ρ' => match T c with
    | some (some n) => .nx (((ρ'.set ie none).set iv (some (.int n))).set ie none)
    | some none => .err c ρ'
    | none => .bad
  | o => o
/-- what is known of the class c, where the clause names cX and Y is cY -/
def TryF (K : PySem.W.Frag) (mg : Str → Option Value) (cX cY : Value) (c : Str) : Option (Option Int) → Prop
  | some (some n) => ∃ C b, mg c = some (.ref C) ∧ PySem.W.exmOne K (.ref C) cX = some true ∧ ExcC K C ∧ PySem.W.kitOne K (.ref C) cY = some b ∧ n = 1 + (if b = true then 1 else 0)
  | some none => ∃ C, mg c = some (.ref C) ∧ PySem.W.exmOne K (.ref C) cX = some false
  | none => True
section
variable {X : Cx} {W : WX} {own : List Nat}
theorem sx_tryIs {T : Str → Option (Option Int)} {ie iv : Nat} {g : Vars → Out} {body : List Stmt} {x n v y : Str} {vY : V} {cX cY : Value} {p0 p1 p2 p3 p4 p5 p6 p7 p8 p9 p10 pos' pos : Pos} {j}
    (hN : X.N.Nodup) (hie : X.N[ie]? = some n) (hiv : X.N[iv]? = some v) (hln : X.env.kindOf n = some .local) (hlv : Loc X.env.scope v) (oie : own.contains ie = false) (oiv : own.contains iv = false)
    (hs : X.stack = X.env :: X.outer) (hf : X.env.frame = some X.env.locals) (hX : Names X x cX) (tk : Takes X W)
    (gI : Gl X "int") (mI : X.mg "int" = none) (gS : Gl X "isinstance") (mS : X.mg "isinstance" = none)
    (hY : ∀ (a : Addr) (pn : List (Addr × Obj)), PE (X.suite a pn) (.Name y p9) (tC vY)) (hYv : ∀ u, RelV vY u → u = cY)
    (hT : ∀ c, TryF X.K X.mg cX cY c (T c))
    (hb : ∀ (W' : WX) (pn : List (Addr × Obj)) (xe : Value → Shared → Prop), Takes (X.tr pn xe) W' → PassesOwn (model X.prog X.w) X.A X.env xe → SsX (X.tr pn xe) W' own body g)
    (hv : Vis X.env.scope n := by first | exact Or.inl rfl | exact Or.inr (Or.inl rfl) | exact Or.inr (Or.inr rfl)) (hdn : (n == ("__debug__" : Str)) = false := by decide) (hcd : (n == ("__classdict__" : Str)) = false := by decide)
    (hsw : ∀ (a : Addr) (pn : List (Addr × Obj)), swapsWith (.BinOp (.Constant (.int 1) j p2) .Add (.Call (.Name "int" p4) [.Call (.Name "isinstance" p6) [.Name n p8, .Name y p9] [] p7] [] p5) p3) (some (.Name v p1)) p10.line (X.suite a pn).env = pure false := by intro a pn; rfl)
    (hfv : X.fn v = true ∨ X.env.scope.names.lookup v = some .local := by first | exact .inl rfl | exact .inr rfl | assumption)
    (he1 : starEach [.Name n p8, .Name y p9] X.env = (false, eval (.Name n p8) X.env) :: starEach [.Name y p9] X.env := by rfl) (he2 : starEach [.Name y p9] X.env = (false, eval (.Name y p9) X.env) :: starEach [] X.env := by rfl)
    (he3 : starEach [.Call (.Name "isinstance" p6) [.Name n p8, .Name y p9] [] p7] X.env = (false, eval (.Call (.Name "isinstance" p6) [.Name n p8, .Name y p9] [] p7) X.env) :: starEach [] X.env := by rfl)
    (hp1 : (backTo p7 (starEach [.Name y p9] X.env)).any (·.1) = false := by rfl) (hp2 : (backTo p5 (starEach [] X.env)).any (·.1) = false := by rfl) :
    SX X W own (.Try body [.ExceptHandler (some (.Name x p0)) (some n) [.Assign [.Name v p1] (.BinOp (.Constant (.int 1) j p2) .Add (.Call (.Name "int" p4) [.Call (.Name "isinstance" p6) [.Name n p8, .Name y p9] [] p7] [] p5) p3) p10] pos'] [] [] pos) (sTryIs T ie iv g) := by
  have oie' : ie ∉ own := fun z => by rw [List.contains_iff_mem.mpr z] at oie; cases oie
  have oiv' : iv ∉ own := fun z => by rw [List.contains_iff_mem.mpr z] at oiv; cases oiv
  have hlt : ie < X.N.length := (List.getElem?_eq_some_iff.mp hie).1
  refine ⟨_, ps_try_as (c := cX) (i := ie) (Wout := W) (tb := fun W' => tS X W' own g) (ts := fun a cls d D σ H => ∃ (c : Str) (m : Int) (σ0 : L2.St), T c = some (some m) ∧ cls = exV X.mg c ∧ d = none ∧ σ = σ0.set ie (some (.ref a)) ∧ D.nx (σ.set iv (some (.int m))) H)
    hs hf hN hie hln hX tk (fun W' pn xe tk' px => (hb W' pn xe tk' px).pss) (fun a oe cls d pn hz hfl => ⟨fun pins s σ H D I h => ?_⟩), fun σ H ρ D H0 O0 O r z => ?_⟩
  · obtain ⟨c, m, σ0, hTc, rfl, rfl, rfl, hD⟩ := h
    have hTF := hT c
    rw [hTc] at hTF
    obtain ⟨C, b, hmC, hx1, hxc, hk, hm⟩ := hTF
    have hcls : exV X.mg c = .ref C := by unfold exV; rw [hmC]; rfl
    rw [hcls] at hz
    have hl0 : ie < σ0.length := by have := I.len; simp at this; show _ < _; omega
    have P := pss_one (ps_set (X := X.suite a ((a, oe) :: pn)) (pos' := p1) (pos := p10) hN hiv hlv
      (pe_op op_add (pe_int (i := 1) (j := j) (pos := p2)) (pe_callTy call_int1 gI mI (by decide +kernel) (pa_cons (pe_callB (call_isE hxc hz hfl) gS mS (by decide +kernel) (pa_cons (pe_var hie hv hdn hcd) (pa_cons (hY a ((a, oe) :: pn)) pa_nil he2) he1) (by decide) (by decide) he1 hp1) pa_nil he3) (by decide) (by decide) he3 hp2)) (hsw a ((a, oe) :: pn)) hfv)
    refine P.run pins s _ H D I ?_
    refine ⟨.ref a, by rw [List.getElem?_set_self hl0], ?_⟩
    refine ⟨vY, cY, b, rfl, hYv, hk, ?_⟩
    refine Or.inr ⟨b, rfl, ?_⟩
    refine ⟨1, _, rfl, rfl, ?_⟩
    rw [hm] at hD
    exact hD
  · refine ⟨H0, O0, O, ρ, r, ?_⟩
    unfold sTryIs at z
    cases e : g ρ with
    | nx ρ' => rw [e] at z; exact z
    | rt d => rw [e] at z; exact z
    | bk ρ' => rw [e] at z; exact z
    | ct ρ' => rw [e] at z; exact z
    | bad => rw [e] at z; exact z
    | err c ρ' =>
      rw [e] at z
      dsimp only at z
      intro σ' H' O' r' s'
      have hTF := hT c
      cases hTc : T c with
      | none => rw [hTc] at z; exact z.elim
      | some o =>
        rw [hTc] at hTF
        cases o with
        | none =>
          obtain ⟨C, hmC, hx1⟩ := hTF
          have hcls : exV X.mg c = .ref C := by unfold exV; rw [hmC]; rfl
          refine ⟨false, by rw [hcls]; exact hx1, ⟨fun q => absurd q Bool.false_ne_true, fun _ => ?_⟩⟩
          rw [hTc] at z
          exact z σ' H' O' r' s'
        | some m =>
          obtain ⟨C, b, hmC, hx1, _⟩ := hTF
          have hcls : exV X.mg c = .ref C := by unfold exV; rw [hmC]; rfl
          refine ⟨true, by rw [hcls]; exact hx1, ⟨fun _ a ha => ⟨c, m, σ', hTc, rfl, rfl, rfl, ?_⟩, fun q => absurd q.symm Bool.false_ne_true⟩⟩
          rw [hTc] at z
          exact z _ H' O' (((r'.none oie').set oiv' (.int m)).none oie') s'
end
def tab1 (c : Str) (n : Int) : Str → Option (Option Int) := fun d => if d = c then some (some n) else none
@[simp] theorem tab1_self (c : Str) (n : Int) : tab1 c n c = some (some n) := if_pos rfl
theorem tryF_of {K : PySem.W.Frag} {mg : Str → Option Value} {cX cY : Value} {c : Str} {n : Int} (h : TryF K mg cX cY c (some (some n))) : ∀ d, TryF K mg cX cY d (tab1 c n d) := fun d => by
  unfold tab1
  by_cases e : d = c
  · subst e; rw [if_pos rfl]; exact h
  · rw [if_neg e]; trivial
def TryB (K : PySem.W.Frag) (mg : Str → Option Value) (c x : Str) : Prop := ∃ CX, mg x = some (.ref CX) ∧ TryF K mg (.ref CX) (.type "ValueError") c (some (some 2))
def TryO (K : PySem.W.Frag) (mg : Str → Option Value) (c x y : Str) : Prop := ∃ CX CY, mg x = some (.ref CX) ∧ mg y = some (.ref CY) ∧ TryF K mg (.ref CX) (.ref CY) c (some (some 2))
theorem kitOne_ref {K : PySem.W.Frag} {C CY : Addr} (hd : PySem.W.hasDictIn K CY = true) (ty : PySem.W.typeIn K (.ref CY) = some (.type "type")) (sb : PySem.W.subIn K (.ref C) (.ref CY) = some true) : PySem.W.kitOne K (.ref C) (.ref CY) = some true := by
  obtain ⟨cd, hc, _⟩ := PySem.W.any_some hd
  unfold PySem.W.kitOne
  split
  · rfl
  · show (if ((PySem.W.clsIn K CY).isSome && PySem.W.typeIn K (.ref CY) == some (.type "type")) = true then PySem.W.subIn K (.ref C) (.ref CY) else none) = some true
    have e2 : ((PySem.W.clsIn K CY).isSome && PySem.W.typeIn K (.ref CY) == some (.type "type")) = true := by rw [hc, ty] <;> rfl
    rw [if_pos e2]; exact sb
theorem kitOne_ve {K : PySem.W.Frag} {C : Addr} (sb : PySem.W.subIn K (.ref C) (.type "ValueError") = some true) : PySem.W.kitOne K (.ref C) (.type "ValueError") = some true := by
  unfold PySem.W.kitOne
  split
  · rfl
  · show (if PySem.W.kitMeta "ValueError" = true then PySem.W.subIn K (.ref C) (.type "ValueError") else none) = some true
    rw [if_pos (by decide +kernel)]; exact sb
theorem tryB_mk {K : PySem.W.Frag} {mg : Str → Option Value} {c x : Str} {C CX : Addr} (hc : mg c = some (.ref C)) (hx : mg x = some (.ref CX)) (h1 : PySem.W.subIn K (.ref CX) (.type "BaseException") = some true) (h2 : PySem.W.hasDictIn K CX = true) (h3 : PySem.W.typeIn K (.ref CX) = some (.type "type"))
    (h4 : PySem.W.subIn K (.ref C) (.ref CX) = some true) (E : ExcC K C) (sv : PySem.W.subIn K (.ref C) (.type "ValueError") = some true) : TryB K mg c x :=
  ⟨CX, hx, C, true, hc, PySem.W.exm_ref h1 h2 h3 h4, E, kitOne_ve sv, rfl⟩
theorem tryO_mk {K : PySem.W.Frag} {mg : Str → Option Value} {c x y : Str} {C CX CY : Addr} (hc : mg c = some (.ref C)) (hx : mg x = some (.ref CX)) (hy : mg y = some (.ref CY)) (h1 : PySem.W.subIn K (.ref CX) (.type "BaseException") = some true) (h2 : PySem.W.hasDictIn K CX = true) (h3 : PySem.W.typeIn K (.ref CX) = some (.type "type"))
    (h4 : PySem.W.subIn K (.ref C) (.ref CX) = some true) (E : ExcC K C) (h5 : PySem.W.hasDictIn K CY = true) (h6 : PySem.W.typeIn K (.ref CY) = some (.type "type")) (h7 : PySem.W.subIn K (.ref C) (.ref CY) = some true) : TryO K mg c x y :=
  ⟨CX, CY, hx, hy, C, true, hc, PySem.W.exm_ref h1 h2 h3 h4, E, kitOne_ref h5 h6 h7, rfl⟩
section
variable {X : Cx} {W : WX} {own : List Nat}
theorem sx_tryB {ie iv : Nat} {g : Vars → Out} {body : List Stmt} {c x n v : Str} {p0 p1 p2 p3 p4 p5 p6 p7 p8 p9 p10 pos' pos : Pos} {j} (F : TryB X.K X.mg c x) (gX : Gl X x) (dX : (x == ("__debug__" : Str)) = false)
    (hN : X.N.Nodup) (hie : X.N[ie]? = some n) (hiv : X.N[iv]? = some v) (hln : X.env.kindOf n = some .local) (hlv : Loc X.env.scope v) (oie : own.contains ie = false) (oiv : own.contains iv = false)
    (hs : X.stack = X.env :: X.outer) (hf : X.env.frame = some X.env.locals) (tk : Takes X W)
    (gI : Gl X "int") (mI : X.mg "int" = none) (gS : Gl X "isinstance") (mS : X.mg "isinstance" = none) (gV : Gl X "ValueError") (mV : X.mg "ValueError" = none)
    (hb : ∀ (W' : WX) (pn : List (Addr × Obj)) (xe : Value → Shared → Prop), Takes (X.tr pn xe) W' → PassesOwn (model X.prog X.w) X.A X.env xe → SsX (X.tr pn xe) W' own body g)
    (hv : Vis X.env.scope n := by first | exact Or.inl rfl | exact Or.inr (Or.inl rfl) | exact Or.inr (Or.inr rfl)) (hdn : (n == ("__debug__" : Str)) = false := by decide) (hcd : (n == ("__classdict__" : Str)) = false := by decide)
    (hsw : ∀ (a : Addr) (pn : List (Addr × Obj)), swapsWith (.BinOp (.Constant (.int 1) j p2) .Add (.Call (.Name "int" p4) [.Call (.Name "isinstance" p6) [.Name n p8, .Name "ValueError" p9] [] p7] [] p5) p3) (some (.Name v p1)) p10.line (X.suite a pn).env = pure false := by intro a pn; rfl)
    (hfv : X.fn v = true ∨ X.env.scope.names.lookup v = some .local := by first | exact .inl rfl | exact .inr rfl | assumption)
    (he1 : starEach [.Name n p8, .Name "ValueError" p9] X.env = (false, eval (.Name n p8) X.env) :: starEach [.Name "ValueError" p9] X.env := by rfl) (he2 : starEach [.Name "ValueError" p9] X.env = (false, eval (.Name "ValueError" p9) X.env) :: starEach [] X.env := by rfl)
    (he3 : starEach [.Call (.Name "isinstance" p6) [.Name n p8, .Name "ValueError" p9] [] p7] X.env = (false, eval (.Call (.Name "isinstance" p6) [.Name n p8, .Name "ValueError" p9] [] p7) X.env) :: starEach [] X.env := by rfl)
    (hp1 : (backTo p7 (starEach [.Name "ValueError" p9] X.env)).any (·.1) = false := by rfl) (hp2 : (backTo p5 (starEach [] X.env)).any (·.1) = false := by rfl) :
    SX X W own (.Try body [.ExceptHandler (some (.Name x p0)) (some n) [.Assign [.Name v p1] (.BinOp (.Constant (.int 1) j p2) .Add (.Call (.Name "int" p4) [.Call (.Name "isinstance" p6) [.Name n p8, .Name "ValueError" p9] [] p7] [] p5) p3) p10] pos'] [] [] pos) (sTryIs (tab1 c 2) ie iv g) := by
  obtain ⟨CX, hx, hF⟩ := F
  exact sx_tryIs (vY := .ty "ValueError") hN hie hiv hln hlv oie oiv hs hf ⟨gX, dX, Or.inl hx⟩ tk gI mI gS mS (fun a pn => pe_bltn (v := .ty "ValueError") gV mV (by decide +kernel) rfl (by decide) (by decide)) (fun u r => r) (tryF_of hF) hb hv hdn hcd hsw hfv he1 he2 he3 hp1 hp2
theorem sx_tryO {ie iv : Nat} {g : Vars → Out} {body : List Stmt} {c x n v y : Str} {p0 p1 p2 p3 p4 p5 p6 p7 p8 p9 p10 pos' pos : Pos} {j} (F : TryO X.K X.mg c x y) (gX : Gl X x) (dX : (x == ("__debug__" : Str)) = false) (gY : Gl X y) (dY : (y == ("__debug__" : Str)) = false)
    (hN : X.N.Nodup) (hie : X.N[ie]? = some n) (hiv : X.N[iv]? = some v) (hln : X.env.kindOf n = some .local) (hlv : Loc X.env.scope v) (oie : own.contains ie = false) (oiv : own.contains iv = false)
    (hs : X.stack = X.env :: X.outer) (hf : X.env.frame = some X.env.locals) (tk : Takes X W)
    (gI : Gl X "int") (mI : X.mg "int" = none) (gS : Gl X "isinstance") (mS : X.mg "isinstance" = none)
    (hb : ∀ (W' : WX) (pn : List (Addr × Obj)) (xe : Value → Shared → Prop), Takes (X.tr pn xe) W' → PassesOwn (model X.prog X.w) X.A X.env xe → SsX (X.tr pn xe) W' own body g)
    (hv : Vis X.env.scope n := by first | exact Or.inl rfl | exact Or.inr (Or.inl rfl) | exact Or.inr (Or.inr rfl)) (hdn : (n == ("__debug__" : Str)) = false := by decide) (hcd : (n == ("__classdict__" : Str)) = false := by decide)
    (hsw : ∀ (a : Addr) (pn : List (Addr × Obj)), swapsWith (.BinOp (.Constant (.int 1) j p2) .Add (.Call (.Name "int" p4) [.Call (.Name "isinstance" p6) [.Name n p8, .Name y p9] [] p7] [] p5) p3) (some (.Name v p1)) p10.line (X.suite a pn).env = pure false := by intro a pn; rfl)
    (hfv : X.fn v = true ∨ X.env.scope.names.lookup v = some .local := by first | exact .inl rfl | exact .inr rfl | assumption)
    (he1 : starEach [.Name n p8, .Name y p9] X.env = (false, eval (.Name n p8) X.env) :: starEach [.Name y p9] X.env := by rfl) (he2 : starEach [.Name y p9] X.env = (false, eval (.Name y p9) X.env) :: starEach [] X.env := by rfl)
    (he3 : starEach [.Call (.Name "isinstance" p6) [.Name n p8, .Name y p9] [] p7] X.env = (false, eval (.Call (.Name "isinstance" p6) [.Name n p8, .Name y p9] [] p7) X.env) :: starEach [] X.env := by rfl)
    (hp1 : (backTo p7 (starEach [.Name y p9] X.env)).any (·.1) = false := by rfl) (hp2 : (backTo p5 (starEach [] X.env)).any (·.1) = false := by rfl) :
    SX X W own (.Try body [.ExceptHandler (some (.Name x p0)) (some n) [.Assign [.Name v p1] (.BinOp (.Constant (.int 1) j p2) .Add (.Call (.Name "int" p4) [.Call (.Name "isinstance" p6) [.Name n p8, .Name y p9] [] p7] [] p5) p3) p10] pos'] [] [] pos) (sTryIs (tab1 c 2) ie iv g) := by
  obtain ⟨CX, CY, hx, hy, hF⟩ := F
  exact sx_tryIs (vY := .ref CY) hN hie hiv hln hlv oie oiv hs hf ⟨gX, dX, Or.inl hx⟩ tk gI mI gS mS (fun a pn => pe_glob (v := .ref CY) gY hy rfl dY) (fun u r => r) (tryF_of hF) hb hv hdn hcd hsw hfv he1 he2 he3 hp1 hp2
end
@[simp] theorem u_sTryIs (T : Str → Option (Option Int)) (ie iv : Nat) (g : Vars → Out) (ρ : Vars) : sTryIs T ie iv g ρ = match g ρ with
  | .err c ρ' => match T c with
    | some (some n) => .nx (((ρ'.set ie none).set iv (some (.int n))).set ie none)
    | some none => .err c ρ'
    | none => .bad
  | o => o := rfl
end Pu
set_option Elab.async false
set_option linter.all false
set_option maxRecDepth 100000
set_option maxHeartbeats 4000000
namespace Pu
open PySem PySem.Spec PyProof.Rows L2
/-! ### defs with one default, a whole number; {} -/
section
variable {P : Program} {w : World} {K : PySem.W.Frag} {mg : Str → Option Value} {base : Heap}
/-- a def with the one default i -/
abbrev Fun1 (K : PySem.W.Frag) (x : Str) (st : Stmt) (i : Int) (f : Addr) (fd : FuncData) : Prop := FunD K x x (defArgs st) (defBody st) (defScope st) [V.int i] [] f fd
theorem fn_data1 {x : Str} {st : Stmt} {f : Addr} {fd : FuncData} {N ps : List Str} {k n : Nat} {i0 : Int} {own : List Nat} {g : Vars → Out} (F : Fun1 K x st i0 f fd) (S : FnScope N ps (defScope st)) (hn : ps.length = n) (ho : (own.all fun i => decide (n ≤ i)) = true)
    (hb : ∀ (cdv : Value) (A : Around) (outer : List Env) (s : Shared) (H : Hp) (E : XK), Room k (A.deeper (envOfC x (defScope st) s.heap.objs.size f cdv)) → BX (cxOf (L2.CX P w) P w K mg base N x (defScope st) f cdv A outer s H E) E own (defBody st) g) :
    FnOk P w K mg base (L2.CX P w) (k + 1) f fd ps (spD K mg n (fnD N.length g)) := by
  refine F.ok S (fun vs H Q E h => ?_) fun cdv A outer s H vs Q E hr h => ?_
  · rw [h.1]; exact hn.symm
  obtain ⟨hl, O, ds, hO, r, z⟩ := h
  obtain ⟨t, p, ht⟩ := hb cdv A outer s H E hr
  have hpl : ps.length ≤ N.length := by have := congrArg List.length S.pre; rw [List.length_take] at this; omega
  have hdl : ds.length = n := by rw [← r.length]; exact hl
  refine ⟨t, p, ht _ H _ Q H O O (start_rel hO r (by omega) fun i hi => by have := of_decide_eq_true (List.all_eq_true.mp ho i hi); omega) ?_⟩
  unfold fnD at z
  cases e : g (ds.map some ++ List.replicate (N.length - ds.length) none) with
  | nx ρ' => rw [e] at z; exact fun H' s' => z .non H' s' .non
  | rt d => rw [e] at z; exact z
  | err c ρ' => rw [e] at z; exact z
  | bk _ => rw [e] at z; exact z.elim
  | ct _ => rw [e] at z; exact z.elim
  | bad => rw [e] at z; exact z.elim
/-- a call that leaves the default i out -/
def CalX (P : Program) (w : World) (K : PySem.W.Frag) (mg : Str → Option Value) (base : Heap) (k : Nat) (x : Str) (n : Nat) (i : Int) (f : List PyData → R PyData) : Prop :=
  ∃ (fa : Addr) (fd : FuncData) (ps : List Str) (ds : List Value), ps.length = n + 1 ∧ FnOk P w K mg base (L2.CX P w) k fa fd ps (spD K mg (n + 1) f) ∧ mg x = some (.ref fa) ∧ PySem.W.keepIn K (.ref fa) = true ∧ Binds K fd ps ds ∧ Vals [V.int i] ds
theorem cal_data1 {x : Str} {st : Stmt} {f : Addr} {fd : FuncData} {N ps : List Str} {k n : Nat} {i0 : Int} {own : List Nat} {g : Vars → Out} (F : Fun1 K x st i0 f fd) (hm : mg x = some (.ref f)) (hbn : Binds K fd ps []) (S : FnScope N ps (defScope st)) (hn : ps.length = n) (ho : (own.all fun i => decide (n ≤ i)) = true)
    (hb : ∀ (cdv : Value) (A : Around) (outer : List Env) (s : Shared) (H : Hp) (E : XK), Room k (A.deeper (envOfC x (defScope st) s.heap.objs.size f cdv)) → BX (cxOf (L2.CX P w) P w K mg base N x (defScope st) f cdv A outer s H E) E own (defBody st) g) :
    Cal P w K mg base (k + 1) x n (fnD N.length g) := ⟨f, fd, ps, hn, fn_data1 F S hn ho hb, hm, F.kp, hbn⟩
theorem calX_data {x : Str} {st : Stmt} {f : Addr} {fd : FuncData} {N ps : List Str} {k n : Nat} {i0 : Int} {own : List Nat} {g : Vars → Out} (F : Fun1 K x st i0 f fd) (hm : mg x = some (.ref f)) (hbn : ∃ ds, Vals [V.int i0] ds ∧ Binds K fd ps ds) (S : FnScope N ps (defScope st)) (hn : ps.length = n + 1) (ho : (own.all fun i => decide (n + 1 ≤ i)) = true)
    (hb : ∀ (cdv : Value) (A : Around) (outer : List Env) (s : Shared) (H : Hp) (E : XK), Room k (A.deeper (envOfC x (defScope st) s.heap.objs.size f cdv)) → BX (cxOf (L2.CX P w) P w K mg base N x (defScope st) f cdv A outer s H E) E own (defBody st) g) :
    CalX P w K mg base (k + 1) x n i0 (fnD N.length g) := by
  obtain ⟨ds, h1, h2⟩ := hbn
  exact ⟨f, fd, ps, ds, hn, fn_data1 F S hn ho hb, hm, F.kp, h2, h1⟩
theorem cal_zero1 {x : Str} {st : Stmt} {f : Addr} {fd : FuncData} {ps : List Str} {n : Nat} {i0 : Int} (F : Fun1 K x st i0 f fd) (hm : mg x = some (.ref f)) (hbn : Binds K fd ps []) (hn : ps.length = n) : Cal P w K mg base 0 x n fun _ => .bad := by
  have no : ∀ vs H Q E, ¬ spD K mg n (fun _ => .bad) vs H Q E := fun vs H Q E h => by
    obtain ⟨_, _, _, _, _, z⟩ := h
    exact z
  exact ⟨f, fd, ps, hn, ⟨fun vs H Q E h => absurd h (no vs H Q E), fun A outer s H args us vs Q E _ _ _ _ h => absurd h (no vs H Q E)⟩, hm, F.kp, hbn⟩
theorem calX_zero {x : Str} {st : Stmt} {f : Addr} {fd : FuncData} {ps : List Str} {n : Nat} {i0 : Int} (F : Fun1 K x st i0 f fd) (hm : mg x = some (.ref f)) (hbn : ∃ ds, Vals [V.int i0] ds ∧ Binds K fd ps ds) (hn : ps.length = n + 1) : CalX P w K mg base 0 x n i0 fun _ => .bad := by
  have no : ∀ vs H Q E, ¬ spD K mg (n + 1) (fun _ => .bad) vs H Q E := fun vs H Q E h => by
    obtain ⟨_, _, _, _, _, z⟩ := h
    exact z
  obtain ⟨ds, h1, h2⟩ := hbn
  exact ⟨f, fd, ps, ds, hn, ⟨fun vs H Q E h => absurd h (no vs H Q E), fun A outer s H args us vs Q E _ _ _ _ h => absurd h (no vs H Q E)⟩, hm, F.kp, h2, h1⟩
end
section
variable {X : Cx} {W : WX}
theorem rps_app {K : PySem.W.Frag} {H : Hp} {z : V} {e : PyData} (q : Rp K H z e) : ∀ {vs : List V} {ds : List PyData}, Rps K H vs ds → Rps K H (vs ++ [z]) (ds ++ [e])
  | _, _, .nil => .cons q .nil
  | _, _, .cons h r => .cons h (rps_app q r)
theorem ex_fnX {k n : Nat} {i0 : Int} {x : Str} {g : List PyData → R PyData} {e : Expr} {es : List Expr} {f : Vars → R (List PyData)} {p pos : Pos} (tk : Takes X W) (F : CalX X.prog X.w X.K X.mg X.base k x n i0 g) (hr : Room k X.A) (hg : Gl X x) (ha : AX X W (e :: es) f) (hn : es.length + 1 = n)
    (hdb : (x == ("__debug__" : Str)) = false := by decide) (he : starEach (e :: es) X.env = (false, eval e X.env) :: starEach es X.env := by rfl) (hpl : (backTo pos (starEach es X.env)).any (·.1) = false := by rfl) (hlen : ∀ ρ ds, f ρ = .ok ds → ds.length = n) :
    EX X W (.Call (.Name x p) (e :: es) [] pos) (eFn (fun ds => g (ds ++ [.int i0])) f) := by
  obtain ⟨fa, fd, ps, dv, h1, h2, h3, h4, h5, h6⟩ := F
  obtain ⟨t, q, ht⟩ := ha
  refine ⟨_, pe_callSD h2 hr hg h3 h4 h5 h6 (fun σ => passAt tk σ) q hdb he hpl, fun σ H O ρ Q hO hv z => ht σ H O ρ _ hO hv ?_⟩
  unfold eFn at z
  cases e1 : f ρ with
  | bad => rw [e1] at z; exact z
  | err c => rw [e1] at z; exact z
  | ok ds =>
    rw [e1] at z
    intro vs H1 s1 r1
    refine ⟨by rw [List.length_append, r1.length, hlen ρ ds e1]; rfl, O, ds ++ [.int i0], hO.same s1, rps_app (.int i0) r1, ?_⟩
    cases e2 : g (ds ++ [.int i0]) with
    | bad => rw [R.bind_ok, e2] at z; exact z.elim
    | err c => rw [R.bind_ok, e2] at z; exact fun H' s' => z H' (s1.trans s')
    | ok d => rw [R.bind_ok, e2] at z; exact fun v H' s' r' => z v H' (s1.trans s') r'
theorem ex_dict0 {pos : Pos} : EX X W (.Dict [] [] pos) (eC (.dict [])) := by
  refine ⟨_, pe_dnewK, fun σ H O ρ Q hO hv z p hp => ?_⟩
  exact z (.ref p) _ (same_new hp) (.dic (hide_of (hO.new hp) upd_same) .nil)
end
theorem fun1_mk {K : PySem.W.Frag} {x : Str} {st : Stmt} {i : Int} {f T : Addr} {oc : Value} {od an : Option Addr} {kV dc pm cd ct ocT : Value} {sl slT : Array (Option Value)} {odT : Option Addr} {nT : Nat} {tk : Tok}
    (lk : K.lookup f = some ⟨oc, od, .func (PySem.W.fnOf x x (defArgs st) (defBody st) (defScope st) (.ref T) kV dc pm an cd ct), sl⟩) (c : PySem.W.codeIn K cd x = true) (kp : PySem.W.keepIn K (.ref f) = true) (lT : K.lookup T = some ⟨ocT, odT, .seq #[.int i tk] nT, slT⟩) :
    Fun1 K x st i f (PySem.W.fnOf x x (defArgs st) (defBody st) (defScope st) (.ref T) kV dc pm an cd ct) :=
  ⟨⟨oc, od, .ref T, kV, dc, pm, an, cd, ct, sl, rfl, lk, c, Or.inr ⟨by simp, T, _, [.int i tk], nT, rfl, lT, rfl, .cons ⟨tk, rfl⟩ .nil⟩, Or.inl rfl⟩, kp⟩
theorem fun1_all {K : PySem.W.Frag} {x : Str} {st : Stmt} {i : Int} {f : Addr} {fd : FuncData} {ps : List Str} {n : Nat} (F : Fun1 K x st i f fd) (hn : ps.length = n)
    (h : ∀ (T : Addr) (kV doc pm : Value) (an : Option Addr) (cdv ct : Value) (us its : List Value), us.length = n → its.length = 1 →
      ∃ k, bindArgs (PySem.W.fnOf x x (defArgs st) (defBody st) (defScope st) (.ref T) kV doc pm an cdv ct) ⟨us, []⟩ = seqItems? (.ref T) >>= k ∧ k (some its.toArray) = pure (ps.zip (us ++ its.drop 1))) : Binds K fd ps [] := by
  obtain ⟨ds, h1, h2⟩ := FunD.binds1 F n 1 (by simp) (by simp [hn]) h
  cases h1
  exact h2
theorem fun1_one {K : PySem.W.Frag} {x : Str} {st : Stmt} {i : Int} {f : Addr} {fd : FuncData} {ps : List Str} {n : Nat} (F : Fun1 K x st i f fd) (hn : ps.length = n + 1)
    (h : ∀ (T : Addr) (kV doc pm : Value) (an : Option Addr) (cdv ct : Value) (us its : List Value), us.length = n → its.length = 1 →
      ∃ k, bindArgs (PySem.W.fnOf x x (defArgs st) (defBody st) (defScope st) (.ref T) kV doc pm an cdv ct) ⟨us, []⟩ = seqItems? (.ref T) >>= k ∧ k (some its.toArray) = pure (ps.zip (us ++ its.drop 0))) : ∃ ds, Vals [V.int i] ds ∧ Binds K fd ps ds :=
  FunD.binds1 F n 0 (by simp) (by simp [hn]) h
end Pu
set_option Elab.async false
set_option linter.all false
set_option maxRecDepth 100000
set_option maxHeartbeats 4000000
namespace Pu
open PySem PySem.Spec PyProof.Rows L2
/-! ### range(a, b, c) -/
def okC (c : Int) : Bool := (decide (c.natAbs < 1073741824) && decide (c.natAbs ≠ 0))
def rngN (i j c : Int) : Nat := (Builtin.Range.rangeSize i j c).toNat
def rngC (lo c : Int) (n : Nat) : List PyData := (List.range n).map fun i => .int (lo + (i : Nat) * c)
theorem rngC_get {lo c : Int} {n i : Nat} : (rngC lo c n)[i]? = if i < n then some (.int (lo + (i : Nat) * c)) else none := by
  unfold rngC
  rw [List.getElem?_map]
  by_cases h : i < n
  · rw [if_pos h, List.getElem?_range h]; rfl
  · rw [if_neg h, List.getElem?_eq_none (by simpa using h)]; rfl
theorem rngC_len {lo c : Int} {n : Nat} : (rngC lo c n).length = n := by simp [rngC]
theorem iterC {K : PySem.W.Frag} {F : Hp} {lo c : Int} {n : Nat} : IterOk K (Itc lo c n) F (rngC lo c n) := fun i H O hO s => by
  refine ⟨fun d e => ?_, fun l => by rw [rngC_len] at l; exact l⟩
  rw [rngC_get] at e
  by_cases h : i < n
  · rw [if_pos h] at e
    cases e
    refine ⟨h, fun x H' y => ?_⟩
    obtain ⟨rfl, rfl⟩ := y
    exact ⟨Same.refl _, .int _⟩
  · rw [if_neg h] at e; cases e
theorem small_of {i j c : Int} (h1 : -(2 ^ 62) ≤ i ∧ i < 2 ^ 62) (h2 : -(2 ^ 62) ≤ j ∧ j < 2 ^ 62) (h3 : c.natAbs < 1073741824) : Builtin.Range.small i j c = true := by
  have e := rangeSize_toNat i j c
  have l := rangeSize_toNat_le i j c
  obtain ⟨n, hn⟩ : ∃ n, Builtin.Range.rangeSize i j c = n := ⟨_, rfl⟩
  rw [hn] at e l
  have n0 : 0 ≤ n := by omega
  have n1 : n < 2 ^ 63 := by omega
  unfold Builtin.Range.small
  rw [hn]
  simp only [Builtin.Range.rangeFitsLong, Bool.and_eq_true, Bool.or_eq_true, decide_eq_true_eq, beq_iff_eq]
  refine ⟨⟨⟨⟨⟨by omega, by omega⟩, ⟨by omega, by omega⟩⟩, ⟨by omega, by omega⟩⟩, ⟨by omega, by omega⟩⟩, Or.inr ?_⟩
  split <;> simp only [Bool.and_eq_true, decide_eq_true_eq] <;> omega
theorem rgC_of {i j c : Int} (h1 : okI i = true) (h2 : okI j = true) (h3 : okC c = true) : RgC i j c (rngN i j c) := by
  unfold okC at h3
  rw [Bool.and_eq_true] at h3
  have a1 := of_decide_eq_true h3.1
  have a2 := of_decide_eq_true h3.2
  exact ⟨by omega, a1, small_of (okI_of h1) (okI_of h2) a1, rangeSize_toNat i j c⟩
def iRange3 (f : Vars → R (List PyData)) (ρ : Vars) : R (List PyData) := (f ρ).bind fun ds => match ds with
  | [.int i, .int j, .int c] => if (okI i && okI j && okC c) = true then .ok (rngC i c (rngN i j c)) else .bad
  | _ => .bad
section
variable {X : Cx} {W : WX} {tg : Expr}
theorem ix_range3 {a b c : Expr} {f : Vars → R (List PyData)} {p pos : Pos} (hg : Gl X "range") (hm : X.mg "range" = none) (ha : AX X W [a, b, c] f)
    (hs : starEach [a, b, c] X.env = (false, eval a X.env) :: starEach [b, c] X.env := by rfl) (hpl : (backTo pos (starEach [b, c] X.env)).any (·.1) = false := by rfl) (hl : ∀ ρ ds, f ρ = .ok ds → ds.length = 3) : IX X W tg (.Call (.Name "range" p) [a, b, c] [] pos) (iRange3 f) := by
  obtain ⟨t, q, ht⟩ := ha
  refine ⟨_, pi_range3 hg hm q hs hpl, fun σ H O ρ Q hO hv z => ht σ H O ρ _ hO hv ?_⟩
  unfold iRange3 at z
  cases e : f ρ with
  | bad => rw [e] at z; exact z
  | err c => rw [e] at z; exact z
  | ok ds =>
    rw [e, R.bind_ok] at z
    have l := hl ρ ds e
    intro vs H1 s1 r1
    match ds, l, r1, z with
    | [d1, d2, d3], _, r1, z =>
      obtain ⟨v, w, x, rfl, rv, rw', rx⟩ := rps_three r1
      cases rv with
      | int i =>
        cases rw' with
        | int j =>
          cases rx with
          | int c =>
            by_cases c0 : (okI i && okI j && okC c) = true
            · simp only [if_pos c0] at z
              rw [Bool.and_eq_true, Bool.and_eq_true] at c0
              exact ⟨i, j, c, _, rfl, rgC_of c0.1.1 c0.1.2 c0.2, z _ H1 s1 iterC⟩
            · simp only [if_neg c0] at z
          | _ => exact z.elim
        | _ => exact z.elim
      | _ => exact z.elim
end
@[simp] theorem u_iRange3 (f : Vars → R (List PyData)) (ρ : Vars) : iRange3 f ρ = (f ρ).bind fun ds => match ds with
  | [.int i, .int j, .int c] => if (okI i && okI j && okC c) = true then .ok (rngC i c (rngN i j c)) else .bad
  | _ => .bad := rfl
/-! ### l.extend(t), t a tuple -/
theorem list_extend_tup (l : Addr) (items : Array Value) (n : Nat) (b : Addr) (items2 : Array Value) (n2 : Nat) (dd : Option Addr) (sl : Array (Option Value)) (hs0 : ¬(!items.isEmpty && Builtin.List.listTooLong (items.size + items2.size)) = true) (hs1 : items.size ≤ sizeLine) (hs2 : items.size + items2.size ≤ sizeLine + 1) :
    Meets (Builtin.«list.extend» ⟨[.ref l, .ref b], []⟩) (fun _ R s => s.heap.get? l = some { cls := .type "list", dict := none, data := .seq items n, slots := #[] } ∧ s.heap.get? b = some { cls := .type "tuple", dict := dd, data := .seq items2 n2, slots := sl } ∧ R (.ok (.ret Value.none)) { s with heap := s.heap.update l (Obj.mapSeq fun x => x ++ items2), toks := s.toks }) :=
  .of_wp fun prog w A R s h => by
    obtain ⟨hp, g, d, tk, os⟩ := s; obtain ⟨hl, hb, h⟩ := h; have f1 := PySem.AutoSeq1.idx_int; have f2 := PySem.AutoSeq1.sub_tuple_tuple; have f3 := PySem.AutoSeq1.sub_list_list; have f4 := PySem.AutoSeq1.sub_tuple_list; have f5 := PySem.AutoSeq1.sub_list_tuple
    have hz' : (items ++ items2).size ≤ sizeLine + 1 := by rw [Array.size_append]; exact hs2
    wp_walk using (wpAny_updateSeq hl rfl (hz := hs1) (_hz' := hz')), PySem.AutoSeq1.wpAny_loadPart' hl, PySem.AutoSeq1.wpAny_loadPart' hb; exact ⟨_, rfl, h⟩
def rExtendT (K : PySem.W.Frag) : V → List V → Hp → VK → Prop := fun x vs H Q => ∃ l b xs zs, x = .ref l ∧ vs = [.ref b] ∧ H l = some (.lst xs) ∧ SqT K H b zs ∧ xs.length + zs.length ≤ sizeLine ∧ Q .non (upd H l (.lst (xs ++ zs)))
theorem mt_extendT {X : Cx} : MtM X "list.extend" (rExtendT X.K) := by
  intro pins s σ H x vs v us Q I rx rv h
  obtain ⟨l, b, xs, zs, rfl, rfl, hH, hB, hz, q⟩ := h
  cases rx
  obtain ⟨u, rfl, ru⟩ := rv.one
  cases ru
  obtain ⟨z, its, n, r, hl, e⟩ := I.lstM hH
  obtain ⟨its2, r2, ⟨o2, e2, hc2, n2, hd2⟩, hl2⟩ := I.tuple hB
  have l2 : its2.length = zs.length := r2.length.symm
  have l1 : its.length = xs.length := r.length.symm
  have hsz : its.toArray.size + its2.toArray.size ≤ sizeLine := by rw [List.size_toArray, List.size_toArray]; omega
  have hlong : ¬ (!its.toArray.isEmpty && Builtin.List.listTooLong (its.toArray.size + its2.toArray.size)) = true := by
    rw [notLongL hsz, Bool.and_false]
    exact Bool.false_ne_true
  obtain ⟨oc, od, oda, osl⟩ := o2
  dsimp only at hc2 hd2
  subst hc2 hd2
  refine call_meets F.slot_list_extend ⟨_, e, rfl⟩ F.entry_list_extend (F.args_list_extend_2 _ _)
    (list_extend_tup l its.toArray n b its2.toArray n2 od osl hlong (by rw [List.size_toArray]; omega) (by omega)) ⟨e, e2, ?_⟩
  refine ⟨.non, _, I.lset (its' := its ++ its2) hH e (by simp) (r.append r2) ?_, rfl, q⟩
  rw [List.length_append]
  omega
def sExtM (own : List Nat) (i : Nat) (f : Vars → R PyData) (ρ : Vars) : Out := match ρ.getD i none with
  | some (.list ds) => (f (mask own ρ)).run ρ fun d => match d with
    | .tuple es => if ds.length + es.length ≤ sizeLine then .nx (ρ.set i (some (.list (ds ++ es)))) else .bad
    | _ => .bad
  | _ => .bad
section
variable {X : Cx} {W : WX} {own : List Nat} {i : Nat} {x : Str} {e : Expr} {f : Vars → R PyData} {p apos cpos pos : Pos}
theorem sx_extM (h : EX X W e f) (ho : own.contains i = true) (hN : X.N[i]? = some x := by rfl) (hv : Vis X.env.scope x := by first | exact Or.inl rfl | exact Or.inr (Or.inl rfl) | exact Or.inr (Or.inr rfl)) (hd : (x == ("__debug__" : Str)) = false := by decide)
    (hcd : (x == ("__classdict__" : Str)) = false := by decide)
    (hbase : attributeBase (.Name x p) "extend" X.env (eval (.Name x p) X.env) = eval (.Name x p) X.env := by rfl)
    (hfew : ((backTo cpos (starEach [e] X.env)).all (fun x => !x.1) && (backToKw cpos (keywordEach [] X.env)).all (fun x => x.1.isSome)
      && decide (([e] : List Expr).length + ([] : List Keyword).length + (if ([] : List Keyword).isEmpty then 0 else 1) < 30)) = true := by rfl)
    (hline : (apos.endLine == cpos.line) = true := by rfl) (hs : starEach [e] X.env = (false, eval e X.env) :: starEach [] X.env := by rfl) (hplain : (backTo cpos (starEach [] X.env)).any (·.1) = false := by rfl)
    (hsw : swapsWith (.Call (.Attribute (.Name x p) "extend" apos) [e] [] cpos) none pos.line X.env = pure false := by rfl) :
    SX X W own (.Expr (.Call (.Attribute (.Name x p) "extend" apos) [e] [] cpos) pos) (sExtM own i f) := by
  obtain ⟨t, q, ht⟩ := h
  have hi : i ∈ own := List.contains_iff_mem.mp ho
  refine ⟨_, ps_expr (pe_bm PySem.F.plainAttrs_list PySem.F.slot_list_extend PySem.F.type_list_extend mt_extendT (pe_var hN hv hd hcd) (pa_cons q pa_nil hs) hbase hfew hline hs hplain) hsw, fun σ H ρ D H0 O0 O r z => ?_⟩
  unfold sExtM at z
  obtain ⟨ds, e1, z⟩ := getD_list z
  obtain ⟨a, vs, g1, g2, g3, g4, g5⟩ := own_list hi r e1
  refine ⟨.ref a, g1, .inl ⟨rfl, vs, .inl (.inl g4)⟩, ht σ H O _ _ r.stands r.vrelM (EOut.run r z fun d v H' s rv z' r' => ?_)⟩
  cases rv with
  | @tup b xs es hx rs =>
    dsimp only at z'
    by_cases c : ds.length + es.length ≤ sizeLine
    · rw [if_pos c] at z'
      obtain ⟨r2, sF⟩ := r'.write hi (getD_some e1) g1 g2 g3 (s _ _ g4) ((g5.mono (hide_same s)).append rs)
      exact ⟨a, b, vs, xs, rfl, rfl, s _ _ g4, seqT hide_sub hx, by rw [g5.length, rs.length]; exact c, z' σ _ O r2 sF⟩
    · rw [if_neg c] at z'; exact z'.elim
  | _ => exact z'.elim
end
@[simp] theorem u_sExtM (own : List Nat) (i : Nat) (f : Vars → R PyData) (ρ : Vars) : sExtM own i f ρ = match ρ.getD i none with
  | some (.list ds) => (f (mask own ρ)).run ρ fun d => match d with
    | .tuple es => if ds.length + es.length ≤ sizeLine then .nx (ρ.set i (some (.list (ds ++ es)))) else .bad
    | _ => .bad
  | _ => .bad := rfl
end Pu
set_option Elab.async false
set_option linter.all false
set_option maxRecDepth 100000
set_option maxHeartbeats 4000000
namespace Pu
open PySem PySem.Spec PyProof.Rows L2
/-! ### try: .. except X: v = constant -/
def sTryC (T : Str → Option Bool) (iv : Nat) (d : PyData) (g : Vars → Out) (ρ : Vars) : Out := match g ρ with
  | .err c ρ' => match T c with
    | some true => .nx (ρ'.set iv (some d))
    | some false => .err c ρ'
    | none => .bad
  | o => o
def TryCF (K : PySem.W.Frag) (mg : Str → Option Value) (cX : Value) (c : Str) : Option Bool → Prop
  | some b => ∃ C, mg c = some (.ref C) ∧ PySem.W.exmOne K (.ref C) cX = some b
  | none => True
section
variable {X : Cx} {W : WX} {own : List Nat}
theorem sx_tryC {T : Str → Option Bool} {iv : Nat} {d : PyData} {vd : V} {g : Vars → Out} {body : List Stmt} {x v : Str} {e : Expr} {cX : Value} {p0 p1 p10 pos' pos : Pos}
    (hN : X.N.Nodup) (hiv : X.N[iv]? = some v) (hlv : Loc X.env.scope v) (oiv : own.contains iv = false)
    (hs : X.stack = X.env :: X.outer) (hf : X.env.frame = some X.env.locals) (hX : Names X x cX) (tk : Takes X W)
    (he : ∀ (a : Addr) (pn : List (Addr × Obj)), PE (X.suite a pn) e (tC vd)) (hr : ∀ H, Rp X.K H vd d)
    (hT : ∀ c, TryCF X.K X.mg cX c (T c))
    (hb : ∀ (W' : WX) (pn : List (Addr × Obj)) (xe : Value → Shared → Prop), Takes (X.tr pn xe) W' → PassesOwn (model X.prog X.w) X.A X.env xe → SsX (X.tr pn xe) W' own body g)
    (hsw : ∀ (a : Addr) (pn : List (Addr × Obj)), swapsWith e (some (.Name v p1)) p10.line (X.suite a pn).env = pure false := by intro a pn; rfl)
    (hfv : X.fn v = true ∨ X.env.scope.names.lookup v = some .local := by first | exact .inl rfl | exact .inr rfl | assumption) :
    SX X W own (.Try body [.ExceptHandler (some (.Name x p0)) none [.Assign [.Name v p1] e p10] pos'] [] [] pos) (sTryC T iv d g) := by
  have oiv' : iv ∉ own := fun z => by rw [List.contains_iff_mem.mpr z] at oiv; cases oiv
  refine ⟨_, ps_try_only (c := cX) (Wout := W) (tb := fun W' => tS X W' own g) (ts := fun a cls d0 D σ H => D.nx (σ.set iv (some vd)) H)
    hs hf hX tk (fun W' pn xe tk' px => (hb W' pn xe tk' px).pss) (fun a oe cls d0 pn hz hfl => ⟨fun pins s σ H D I h => ?_⟩), fun σ H ρ D H0 O0 O r z => ?_⟩
  · have P := pss_one (ps_set (X := X.suite a ((a, oe) :: pn)) (pos' := p1) (pos := p10) hN hiv hlv (he a ((a, oe) :: pn)) (hsw a ((a, oe) :: pn)) hfv)
    exact P.run pins s _ H D I h
  · refine ⟨H0, O0, O, ρ, r, ?_⟩
    unfold sTryC at z
    cases e : g ρ with
    | nx ρ' => rw [e] at z; exact z
    | rt d => rw [e] at z; exact z
    | bk ρ' => rw [e] at z; exact z
    | ct ρ' => rw [e] at z; exact z
    | bad => rw [e] at z; exact z
    | err c ρ' =>
      rw [e] at z
      dsimp only at z
      intro σ' H' O' r' s'
      have hTF := hT c
      cases hTc : T c with
      | none => rw [hTc] at z; exact z.elim
      | some b =>
        rw [hTc] at hTF
        obtain ⟨C, hmC, hx1⟩ := hTF
        have hcls : exV X.mg c = .ref C := by unfold exV; rw [hmC]; rfl
        cases b with
        | false =>
          refine ⟨false, by rw [hcls]; exact hx1, ⟨fun q => absurd q Bool.false_ne_true, fun _ => ?_⟩⟩
          rw [hTc] at z
          exact z σ' H' O' r' s'
        | true =>
          refine ⟨true, by rw [hcls]; exact hx1, ⟨fun _ a ha => ?_, fun q => absurd q.symm Bool.false_ne_true⟩⟩
          rw [hTc] at z
          exact z _ H' O' (r'.set oiv' (hr _)) s'
end
@[simp] theorem u_sTryC (T : Str → Option Bool) (iv : Nat) (d : PyData) (g : Vars → Out) (ρ : Vars) : sTryC T iv d g ρ = match g ρ with
  | .err c ρ' => match T c with
    | some true => .nx (ρ'.set iv (some d))
    | some false => .err c ρ'
    | none => .bad
  | o => o := rfl
def tabL : List (Str × Bool) → Str → Option Bool
  | [], _ => none
  | (c, b) :: r, d => if d = c then some b else tabL r d
@[simp] theorem tabL_self (c : Str) (b : Bool) (r : List (Str × Bool)) : tabL ((c, b) :: r) c = some b := if_pos rfl
theorem tabL_ne {c d : Str} (h : d ≠ c) (b : Bool) (r : List (Str × Bool)) : tabL ((c, b) :: r) d = tabL r d := if_neg h
def TryL (K : PySem.W.Frag) (mg : Str → Option Value) (x : Str) (l : List (Str × Bool)) : Prop := ∃ CX, mg x = some (.ref CX) ∧ ∀ c, TryCF K mg (.ref CX) c (tabL l c)
theorem tryL_nil {K : PySem.W.Frag} {mg : Str → Option Value} {x : Str} {CX : Addr} (hx : mg x = some (.ref CX)) : TryL K mg x [] := ⟨CX, hx, fun _ => trivial⟩
theorem tryL_cons {K : PySem.W.Frag} {mg : Str → Option Value} {x c : Str} {b : Bool} {l : List (Str × Bool)} {C CX : Addr} (hc : mg c = some (.ref C)) (hx : mg x = some (.ref CX)) (h1 : PySem.W.subIn K (.ref CX) (.type "BaseException") = some true) (h2 : PySem.W.hasDictIn K CX = true) (h3 : PySem.W.typeIn K (.ref CX) = some (.type "type"))
    (h4 : PySem.W.subIn K (.ref C) (.ref CX) = some b) (r : TryL K mg x l) : TryL K mg x ((c, b) :: l) := by
  obtain ⟨CX', hx', hr⟩ := r
  rw [hx] at hx'
  cases hx'
  refine ⟨CX, hx, fun d => ?_⟩
  show TryCF K mg (.ref CX) d (if d = c then some b else tabL l d)
  by_cases e : d = c
  · subst e; rw [if_pos rfl]; exact ⟨C, hc, PySem.W.exm_ref h1 h2 h3 h4⟩
  · rw [if_neg e]; exact hr d
section
variable {X : Cx} {W : WX} {own : List Nat}
theorem sx_tryL {l : List (Str × Bool)} {iv : Nat} {d : PyData} {vd : V} {g : Vars → Out} {body : List Stmt} {x v : Str} {e : Expr} {p0 p1 p10 pos' pos : Pos} (F : TryL X.K X.mg x l) (gX : Gl X x) (dX : (x == ("__debug__" : Str)) = false)
    (hN : X.N.Nodup) (hiv : X.N[iv]? = some v) (hlv : Loc X.env.scope v) (oiv : own.contains iv = false)
    (hs : X.stack = X.env :: X.outer) (hf : X.env.frame = some X.env.locals) (tk : Takes X W)
    (he : ∀ (a : Addr) (pn : List (Addr × Obj)), PE (X.suite a pn) e (tC vd)) (hr : ∀ H, Rp X.K H vd d)
    (hb : ∀ (W' : WX) (pn : List (Addr × Obj)) (xe : Value → Shared → Prop), Takes (X.tr pn xe) W' → PassesOwn (model X.prog X.w) X.A X.env xe → SsX (X.tr pn xe) W' own body g)
    (hsw : ∀ (a : Addr) (pn : List (Addr × Obj)), swapsWith e (some (.Name v p1)) p10.line (X.suite a pn).env = pure false := by intro a pn; rfl)
    (hfv : X.fn v = true ∨ X.env.scope.names.lookup v = some .local := by first | exact .inl rfl | exact .inr rfl | assumption) :
    SX X W own (.Try body [.ExceptHandler (some (.Name x p0)) none [.Assign [.Name v p1] e p10] pos'] [] [] pos) (sTryC (tabL l) iv d g) := by
  obtain ⟨CX, hx, hF⟩ := F
  exact sx_tryC hN hiv hlv oiv hs hf ⟨gX, dX, Or.inl hx⟩ tk he hr hF hb hsw hfv
end
end Pu
set_option Elab.async false
set_option linter.all false
set_option maxRecDepth 100000
set_option maxHeartbeats 4000000
namespace Pu
open PySem PySem.Spec PyProof.Rows L2
/-! ### tuple(reversed(list)) -/
def eTupRev (f : Vars → R PyData) (ρ : Vars) : R PyData := (f ρ).bind fun d => match d with
  | .list ds => .ok (.tuple ds.reverse)
  | _ => .bad
@[simp] theorem u_eTupRev (f : Vars → R PyData) (ρ : Vars) : eTupRev f ρ = (f ρ).bind fun d => match d with
  | .list ds => .ok (.tuple ds.reverse)
  | _ => .bad := rfl
section
variable {X : Cx} {W : WX}
theorem ex_tupRev {e : Expr} {f : Vars → R PyData} {p p2 pos pos2 : Pos} (hc : X.calm = true) (hg : Gl X "tuple") (hm : X.mg "tuple" = none) (hg2 : Gl X "reversed") (hm2 : X.mg "reversed" = none) (he : EX X W e f)
    (hs : starEach [e] X.env = (false, eval e X.env) :: starEach [] X.env := by rfl)
    (hs2 : starEach [.Call (.Name "reversed" p2) [e] [] pos2] X.env = (false, eval (.Call (.Name "reversed" p2) [e] [] pos2) X.env) :: starEach [] X.env := by rfl) :
    EX X W (.Call (.Name "tuple" p) [.Call (.Name "reversed" p2) [e] [] pos2] [] pos) (eTupRev f) := by
  obtain ⟨t, q, ht⟩ := he
  refine ⟨_, RT.pe_tupRev hc hg hm hg2 hm2 q hs hs2, fun σ H O ρ Q hO hr z => ht σ H O ρ _ hO hr ?_⟩
  unfold eTupRev at z
  cases c : f ρ with
  | bad => rw [c] at z; exact z
  | err c' => rw [c] at z; exact z
  | ok d =>
    rw [c, R.bind_ok] at z
    intro v H1 s1 r1
    cases r1 with
    | @lst a xs ds hx rs =>
      exact ⟨a, xs, rfl, seqL hide_sub hx, fun q hq => z _ _ (s1.trans (same_new hq)) (new_rep (hO.same s1) hq rs.reverse)⟩
    | _ => exact z.elim
/-! ### list(..) as a new list -/
def nListC (f : Vars → R (List PyData)) (ρ : Vars) : R (List PyData) := (f ρ).bind fun ds => match ds with
  | [.list xs] => .ok xs
  | [.tuple xs] => .ok xs
  | _ => .bad
@[simp] theorem u_nListC (f : Vars → R (List PyData)) (ρ : Vars) : nListC f ρ = (f ρ).bind fun ds => match ds with
  | [.list xs] => .ok xs
  | [.tuple xs] => .ok xs
  | _ => .bad := rfl
theorem nx_list {x : Str} {e : Expr} {es : List Expr} {f : Vars → R (List PyData)} {p pos : Pos} (hg : Gl X x) (hm : X.mg x = none) (hv : bootBuiltins x = some (.type "list")) (ha : AX X W (e :: es) f)
    (hn : x ≠ "__name__" := by decide) (hdb : (x == ("__debug__" : Str)) = false := by decide)
    (he : starEach (e :: es) X.env = (false, eval e X.env) :: starEach es X.env := by rfl) (hpl : (backTo pos (starEach es X.env)).any (·.1) = false := by rfl) : NX X W (.Call (.Name x p) (e :: es) [] pos) (nListC f) := by
  obtain ⟨t, q, ht⟩ := ha
  refine ⟨_, pe_callTy call_list_of hg hm hv q hn hdb he hpl, fun σ H O ρ Q hO hr z => ht σ H O ρ _ hO hr ?_⟩
  unfold nListC at z
  cases c : f ρ with
  | bad => rw [c] at z; exact z
  | err c' => rw [c] at z; exact z
  | ok ds =>
    rw [c, R.bind_ok] at z
    intro vs H1 s1 r1
    have fin : ∀ {b : Addr} {ys : List V} {xs : List PyData}, Rps X.K (hide O H1) ys xs → (NOut X W O σ H Q (.ok xs)) → ∀ l, H1 l = none → Q (.ref l) (upd H1 l (.lst ys)) := fun {b ys xs} rs z l hl => by
      refine z l ys _ (s1.trans (same_new hl)) (s1.free hl) upd_same (rs.mono fun a o h => ?_)
      obtain ⟨c1, h1⟩ := hide_some h
      have n := ne_of_none h1 hl
      exact hide_of (fun z => (List.mem_cons.mp z).elim n c1) (by rw [upd_ne n]; exact h1)
    match ds, z, r1 with
    | [.list xs], z, r1 =>
      obtain ⟨v, rfl, rv⟩ := rps_one r1
      cases rv with
      | @lst a ys _ hx rs => exact ⟨a, ys, rfl, .inl (seqL hide_sub hx), fin (b := a) rs z⟩
    | [.tuple xs], z, r1 =>
      obtain ⟨v, rfl, rv⟩ := rps_one r1
      cases rv with
      | @tup a ys _ hx rs => exact ⟨a, ys, rfl, .inr (seqT hide_sub hx), fin (b := a) rs z⟩
    | [], z, _ => exact z.elim
    | .none :: _, z, _ => exact z.elim
    | .bool _ :: _, z, _ => exact z.elim
    | .int _ :: _, z, _ => exact z.elim
    | .str _ :: _, z, _ => exact z.elim
    | .dict _ :: _, z, _ => exact z.elim
    | .list _ :: _ :: _, z, _ => exact z.elim
    | .tuple _ :: _ :: _, z, _ => exact z.elim
end
/-! ### several clauses: except X: v = constant -/
def goM : List ((Str → Option Bool) × Nat × PyData) → Str → Vars → Out
  | [], c, ρ => .err c ρ
  | (T, iv, d) :: r, c, ρ => match T c with
    | some true => .nx (ρ.set iv (some d))
    | some false => goM r c ρ
    | none => .bad
def sTryM (l : List ((Str → Option Bool) × Nat × PyData)) (g : Vars → Out) (ρ : Vars) : Out := match g ρ with
  | .err c ρ' => goM l c ρ'
  | o => o
@[simp] theorem u_sTryM (l : List ((Str → Option Bool) × Nat × PyData)) (g : Vars → Out) (ρ : Vars) : sTryM l g ρ = match g ρ with
  | .err c ρ' => goM l c ρ'
  | o => o := rfl
@[simp] theorem u_goM_n (c : Str) (ρ : Vars) : goM [] c ρ = .err c ρ := rfl
@[simp] theorem u_goM_c (T : Str → Option Bool) (iv : Nat) (d : PyData) (r : List ((Str → Option Bool) × Nat × PyData)) (c : Str) (ρ : Vars) : goM ((T, iv, d) :: r) c ρ = match T c with
    | some true => .nx (ρ.set iv (some d))
    | some false => goM r c ρ
    | none => .bad := rfl
section
variable {X : Cx} {W : WX} {own : List Nat}
inductive ClOk (X : Cx) (own : List Nat) : List ExceptHandler → List ((Str → Option Bool) × Nat × PyData) → Prop
  | nil : ClOk X own [] []
  | cons {l : List (Str × Bool)} {iv : Nat} {d : PyData} {vd : V} {x v : Str} {e : Expr} {p0 p1 p10 pos' : Pos} {hds : List ExceptHandler} {r : List ((Str → Option Bool) × Nat × PyData)} (F : TryL X.K X.mg x l) (gX : Gl X x) (dX : (x == ("__debug__" : Str)) = false)
      (hiv : X.N[iv]? = some v) (hlv : Loc X.env.scope v) (oiv : own.contains iv = false)
      (he : ∀ (a : Addr) (pn : List (Addr × Obj)), PE (X.suite a pn) e (tC vd)) (hr : ∀ H, Rp X.K H vd d)
      (hsw : ∀ (a : Addr) (pn : List (Addr × Obj)), swapsWith e (some (.Name v p1)) p10.line (X.suite a pn).env = pure false)
      (hfv : X.fn v = true ∨ X.env.scope.names.lookup v = some .local) (rest : ClOk X own hds r) :
      ClOk X own (.ExceptHandler (some (.Name x p0)) none [.Assign [.Name v p1] e p10] pos' :: hds) ((tabL l, iv, d) :: r)
theorem ClOk.hds (hN : X.N.Nodup) {hds : List ExceptHandler} {l : List ((Str → Option Bool) × Nat × PyData)} (h : ClOk X own hds l) : ∃ l', HdsOk X hds l' ∧
    ∀ (H0 : Hp) (O0 O' : List Addr) (D : Ends) (c : Str) (σ' : L2.St) (H' : Hp) (ρ' : Vars), Rel X.K own H0 O0 O' σ' H' ρ' → SOut X W own H0 O0 O' H' D (goM l c ρ') → wMany X.K W D l' (exV X.mg c) none σ' H' := by
  induction h with
  | nil => exact ⟨[], .nil, fun H0 O0 O' D c σ' H' ρ' r z => z σ' H' O' r (Same.refl _)⟩
  | @cons l iv d vd x v e p0 p1 p10 pos' hds r F gX dX hiv hlv oiv he hr hsw hfv rest ih =>
    obtain ⟨l', h1, h2⟩ := ih
    obtain ⟨CX, hx, hF⟩ := F
    have oiv' : iv ∉ own := fun z => by rw [List.contains_iff_mem.mpr z] at oiv; cases oiv
    refine ⟨((.ref CX), fun a cls d0 D σ H => D.nx (σ.set iv (some vd)) H) :: l', .cons ⟨gX, dX, Or.inl hx⟩ (fun a oe cls d0 pn hz hfl => ⟨fun pins s σ H D I h => ?_⟩) h1, fun H0 O0 O' D c σ' H' ρ' rr z => ?_⟩
    · have P := pss_one (ps_set (X := X.suite a ((a, oe) :: pn)) (pos' := p1) (pos := p10) hN hiv hlv (he a ((a, oe) :: pn)) (hsw a ((a, oe) :: pn)) hfv)
      exact P.run pins s _ H D I h
    · have hTF := hF c
      show ∃ b, PySem.W.exmOne X.K (exV X.mg c) (.ref CX) = some b ∧ _
      unfold goM at z
      cases hTc : tabL l c with
      | none => rw [hTc] at z; exact z.elim
      | some b =>
        rw [hTc] at hTF z
        obtain ⟨C, hmC, hx1⟩ := hTF
        have hcls : exV X.mg c = .ref C := by unfold exV; rw [hmC]; rfl
        refine ⟨b, by rw [hcls]; exact hx1, fun hb a ha => ?_, fun hb => ?_⟩
        · subst hb
          exact z _ H' O' (rr.set oiv' (hr _)) (Same.refl _)
        · subst hb
          exact h2 H0 O0 O' D c σ' H' ρ' rr z
theorem sx_tryM {l : List ((Str → Option Bool) × Nat × PyData)} {g : Vars → Out} {body : List Stmt} {h₀ : ExceptHandler} {hds : List ExceptHandler} {pos : Pos}
    (hN : X.N.Nodup) (hs : X.stack = X.env :: X.outer) (hf : X.env.frame = some X.env.locals) (tk : Takes X W)
    (hh : ClOk X own (h₀ :: hds) l)
    (hb : ∀ (W' : WX) (pn : List (Addr × Obj)) (xe : Value → Shared → Prop), Takes (X.tr pn xe) W' → PassesOwn (model X.prog X.w) X.A X.env xe → SsX (X.tr pn xe) W' own body g) :
    SX X W own (.Try body (h₀ :: hds) [] [] pos) (sTryM l g) := by
  obtain ⟨l', h1, h2⟩ := hh.hds (W := W) hN
  refine ⟨_, ps_try_many (Wout := W) (tb := fun W' => tS X W' own g) hs hf tk (fun W' pn xe tk' px => (hb W' pn xe tk' px).pss) h1, fun σ H ρ D H0 O0 O r z => ?_⟩
  refine ⟨H0, O0, O, ρ, r, ?_⟩
  unfold sTryM at z
  cases e : g ρ with
  | nx ρ' => rw [e] at z; exact z
  | rt d => rw [e] at z; exact z
  | bk ρ' => rw [e] at z; exact z
  | ct ρ' => rw [e] at z; exact z
  | bad => rw [e] at z; exact z
  | err c ρ' =>
    rw [e] at z
    intro σ' H' O' r' s'
    exact h2 H0 O0 O' D c σ' H' ρ' r' (SOut.from z s')
end
/-! ### except X as e: v = what is said of e -/
/-- what is known of isinstance(e, Y), e of the class c -/
def KitL (K : PySem.W.Frag) (mg : Str → Option Value) (cY : Value) (l : List (Str × Bool)) : Prop := ∀ c b, tabL l c = some b → ∃ C, mg c = some (.ref C) ∧ ExcC K C ∧ PySem.W.kitOne K (.ref C) cY = some b
/-- a clause's expression, e the exception, of the class c, in the slot ie -/
def EXH (X : Cx) (ie : Nat) (c : Str) (e : Expr) (f : Vars → R PyData) : Prop := ∀ (a : Addr) (oe : Obj) (pn : List (Addr × Obj)) (C : Addr), X.mg c = some (.ref C) → Zc (.ref C) none oe → (∃ vs, oe.data = .fields vs) →
  ∃ t, PE (X.suite a ((a, oe) :: pn)) e t ∧ ∀ σ H O ρ (Q : VK), σ[ie]? = some (some (.ref a)) → Stands O H → VRel X.K (hide O H) σ ρ → EOut X W0 O σ H Q (f ρ) → t σ H Q
def AXH (X : Cx) (ie : Nat) (c : Str) (es : List Expr) (f : Vars → R (List PyData)) : Prop := ∀ (a : Addr) (oe : Obj) (pn : List (Addr × Obj)) (C : Addr), X.mg c = some (.ref C) → Zc (.ref C) none oe → (∃ vs, oe.data = .fields vs) →
  ∃ t, PA (X.suite a ((a, oe) :: pn)) es t ∧ ∀ σ H O ρ (Q : List V → Hp → Prop), σ[ie]? = some (some (.ref a)) → Stands O H → VRel X.K (hide O H) σ ρ → AOut X W0 O σ H Q (f ρ) → t σ H Q
def eKit (T : Str → Option Bool) (c : Str) (_ : Vars) : R PyData := match T c with
  | some b => .ok (.bool b)
  | none => .bad
section
variable {X : Cx} {ie : Nat} {c : Str}
theorem exh_ex {e : Expr} {f : Vars → R PyData} (h : ∀ (a : Addr) (pn : List (Addr × Obj)), EX (X.suite a pn) W0 e f) : EXH X ie c e f := fun a oe pn C _ _ _ => by
  obtain ⟨t, p, ht⟩ := h a ((a, oe) :: pn)
  refine ⟨t, p, fun σ H O ρ Q _ hO hr z => ht σ H O ρ Q hO hr ?_⟩
  cases q : f ρ with
  | ok d => rw [q] at z; exact z
  | err _ => rw [q] at z; exact fun H' s => z H' s
  | bad => rw [q] at z; exact z
theorem exh_isi {l : List (Str × Bool)} {n y : Str} {vY : V} {cY : Value} {p6 p7 p8 p9 : Pos} (F : KitL X.K X.mg cY l) (hN : X.N[ie]? = some n)
    (gS : Gl X "isinstance") (mS : X.mg "isinstance" = none)
    (hY : ∀ (a : Addr) (pn : List (Addr × Obj)), PE (X.suite a pn) (.Name y p9) (tC vY)) (hYv : ∀ u, RelV vY u → u = cY)
    (hv : Vis X.env.scope n := by first | exact Or.inl rfl | exact Or.inr (Or.inl rfl) | exact Or.inr (Or.inr rfl)) (hdn : (n == ("__debug__" : Str)) = false := by decide) (hcd : (n == ("__classdict__" : Str)) = false := by decide)
    (he1 : starEach [.Name n p8, .Name y p9] X.env = (false, eval (.Name n p8) X.env) :: starEach [.Name y p9] X.env := by rfl) (he2 : starEach [.Name y p9] X.env = (false, eval (.Name y p9) X.env) :: starEach [] X.env := by rfl)
    (hp1 : (backTo p7 (starEach [.Name y p9] X.env)).any (·.1) = false := by rfl) :
    EXH X ie c (.Call (.Name "isinstance" p6) [.Name n p8, .Name y p9] [] p7) (eKit (tabL l) c) := fun a oe pn C hC hz hfl => by
  cases hT : tabL l c with
  | none =>
    refine ⟨fun _ _ _ => False, ⟨fun _ _ _ _ _ _ h => h.elim⟩, fun σ H O ρ Q _ _ _ z => ?_⟩
    unfold eKit at z
    rw [hT] at z
    exact z
  | some b =>
    obtain ⟨C', hC', hxc, hk⟩ := F c b hT
    rw [hC] at hC'
    cases hC'
    refine ⟨_, pe_callB (X := X.suite a ((a, oe) :: pn)) (call_isE hxc hz hfl) gS mS (by decide +kernel) (pa_cons (pe_var hN hv hdn hcd) (pa_cons (hY a ((a, oe) :: pn)) pa_nil he2) he1) (by decide) (by decide) he1 hp1, fun σ H O ρ Q hs hO hr z => ?_⟩
    unfold eKit at z
    rw [hT] at z
    refine ⟨.ref a, hs, vY, cY, b, rfl, hYv, hk, ?_⟩
    exact z _ H (Same.refl H) (.bl b)
theorem exh_op {op : Operator} {r : R2} {g : PyData → PyData → Option PyData} {a b : Expr} {f h : Vars → R PyData} {pos : Pos} (hr : ∀ (a : Addr) (pn : List (Addr × Obj)), OpR (X.suite a pn) (binaryOp op) r) (ho : Op2 X.K r g) (ha : EXH X ie c a f) (hb : EXH X ie c b h) : EXH X ie c (.BinOp a op b pos) (eOp g f h) := fun ad oe pn C hC hz hfl => by
  obtain ⟨ta, p, hta⟩ := ha ad oe pn C hC hz hfl
  obtain ⟨tb, q, htb⟩ := hb ad oe pn C hC hz hfl
  refine ⟨_, pe_op (hr ad ((ad, oe) :: pn)) p q, fun σ H O ρ Q hs hO hv z => ?_⟩
  refine hta σ H O ρ _ hs hO hv (EOut.then (g := fun d => (h ρ).bind fun e => R.of (g d e)) EOut.b EOut.e z fun d v H1 s1 r1 z1 => ?_)
  refine htb σ H1 O ρ _ hs (hO.same s1) (hv.mono (hide_same s1)) (EOut.then (g := fun e => R.of (g d e)) EOut.b EOut.e (z1.from s1) fun e v2 H2 s2 r2 z2 => ?_)
  cases q : g d e with
  | none => rw [q] at z2; exact z2.elim
  | some w =>
    rw [q] at z2
    exact ho H2 O v v2 d e w Q ((hO.same s1).same s2) (r1.mono (hide_same s2)) r2 q fun v' H' s' r' => z2 v' H' (s2.trans s') r'
theorem axh_nil : AXH X ie c [] aNil := fun a oe pn C _ _ _ => ⟨_, pa_nil, fun σ H O ρ Q _ _ _ q => q [] H (Same.refl H) .nil⟩
theorem axh_cons {e : Expr} {es : List Expr} {f : Vars → R PyData} {g : Vars → R (List PyData)} (h : EXH X ie c e f) (k : AXH X ie c es g) (hs : starEach (e :: es) X.env = (false, eval e X.env) :: starEach es X.env := by rfl) : AXH X ie c (e :: es) (aCons f g) := fun a oe pn C hC hz hfl => by
  obtain ⟨t, p, ht⟩ := h a oe pn C hC hz hfl
  obtain ⟨u, q, hu⟩ := k a oe pn C hC hz hfl
  refine ⟨_, pa_cons p q hs, fun σ H O ρ Q hs hO hr z => ht σ H O ρ _ hs hO hr (EOut.then (g := fun d => (g ρ).bind fun ds => .ok (d :: ds)) AOut.b AOut.e z fun d v H1 s1 r1 z1 => ?_)⟩
  refine hu σ H1 O ρ _ hs (hO.same s1) (hr.mono (hide_same s1)) (AOut.then (g := fun ds => .ok (d :: ds)) AOut.b AOut.e (z1.from s1) fun ds vs H2 s2 r2 z2 => ?_)
  exact z2 (v :: vs) H2 s2 (.cons (r1.mono (hide_same s2)) r2)
theorem exh_lst {es : List Expr} {f : Vars → R (List PyData)} {pos : Pos} (h : AXH X ie c es f) : EXH X ie c (.List es pos) (eLst f) := fun a oe pn C hC hz hfl => by
  obtain ⟨t, p, ht⟩ := h a oe pn C hC hz hfl
  refine ⟨_, pe_lst p, fun σ H O ρ Q hs hO hr z => ht σ H O ρ _ hs hO hr (AOut.then EOut.b EOut.e z fun ds vs H1 s1 r1 z1 => ?_)⟩
  by_cases c : ds.length ≤ sizeLine
  · rw [if_pos c] at z1
    exact ⟨by rw [r1.length]; exact c, fun p hp => z1 _ _ (s1.trans (same_new hp)) (new_repL (hO.same s1) hp r1)⟩
  · rw [if_neg c] at z1; exact z1.elim
theorem exh_int {e : Expr} {f : Vars → R (List PyData)} {p pos : Pos} (gI : Gl X "int") (mI : X.mg "int" = none) (ha : AXH X ie c [e] f) (he : starEach [e] X.env = (false, eval e X.env) :: starEach [] X.env := by rfl) (hpl : (backTo pos (starEach [] X.env)).any (·.1) = false := by rfl) : EXH X ie c (.Call (.Name "int" p) [e] [] pos) (eCall gIntC f) := fun a oe pn C hC hz hfl => by
  obtain ⟨t, q, ht⟩ := ha a oe pn C hC hz hfl
  refine ⟨_, pe_callTy (X := X.suite a ((a, oe) :: pn)) call_int1 gI mI (by decide +kernel) q (by decide) (by decide) he hpl, fun σ H O ρ Q hs hO hr z => ht σ H O ρ _ hs hO hr (AOut.then (g := fun ds => R.of (gIntC ds)) EOut.b EOut.e z fun ds vs H1 s1 r1 z1 => ?_)⟩
  cases q : gIntC ds with
  | none => rw [q] at z1; exact z1.elim
  | some w =>
    rw [q] at z1
    exact calld_int H1 O vs ds w Q (hO.same s1) r1 q fun v' H' s' r' => z1 v' H' (s1.trans s') r'
end
def sTryE (T : Str → Option Bool) (own : List Nat) (ie iv : Nat) (f : Str → Vars → R PyData) (g : Vars → Out) (ρ : Vars) : Out := match g ρ with
  | .err c ρ' => match T c with
    | some true => match f c (mask own (ρ'.set ie none)) with
      | .ok d => .nx (((ρ'.set ie none).set iv (some d)).set ie none)
      | _ => .bad
    | some false => .err c ρ'
    | none => .bad
  | o => o
@[simp] theorem u_sTryE (T : Str → Option Bool) (own : List Nat) (ie iv : Nat) (f : Str → Vars → R PyData) (g : Vars → Out) (ρ : Vars) : sTryE T own ie iv f g ρ = match g ρ with
  | .err c ρ' => match T c with
    | some true => match f c (mask own (ρ'.set ie none)) with
      | .ok d => .nx (((ρ'.set ie none).set iv (some d)).set ie none)
      | _ => .bad
    | some false => .err c ρ'
    | none => .bad
  | o => o := rfl
@[simp] theorem u_eKit (T : Str → Option Bool) (c : Str) (ρ : Vars) : eKit T c ρ = match T c with
  | some b => .ok (.bool b)
  | none => .bad := rfl
section
variable {X : Cx} {W : WX} {own : List Nat}
theorem sx_tryE {l : List (Str × Bool)} {ie iv : Nat} {f : Str → Vars → R PyData} {g : Vars → Out} {body : List Stmt} {x n v : Str} {e : Expr} {p0 p1 p10 pos' pos : Pos} (F : TryL X.K X.mg x l) (gX : Gl X x) (dX : (x == ("__debug__" : Str)) = false)
    (hN : X.N.Nodup) (hie : X.N[ie]? = some n) (hiv : X.N[iv]? = some v) (hln : X.env.kindOf n = some .local) (hlv : Loc X.env.scope v) (oie : own.contains ie = false) (oiv : own.contains iv = false)
    (hs : X.stack = X.env :: X.outer) (hf : X.env.frame = some X.env.locals) (tk : Takes X W)
    (he : ∀ c, EXH X ie c e (f c))
    (hb : ∀ (W' : WX) (pn : List (Addr × Obj)) (xe : Value → Shared → Prop), Takes (X.tr pn xe) W' → PassesOwn (model X.prog X.w) X.A X.env xe → SsX (X.tr pn xe) W' own body g)
    (hsw : ∀ (a : Addr) (pn : List (Addr × Obj)), swapsWith e (some (.Name v p1)) p10.line (X.suite a pn).env = pure false := by intro a pn; rfl)
    (hfv : X.fn v = true ∨ X.env.scope.names.lookup v = some .local := by first | exact .inl rfl | exact .inr rfl | assumption) :
    SX X W own (.Try body [.ExceptHandler (some (.Name x p0)) (some n) [.Assign [.Name v p1] e p10] pos'] [] [] pos) (sTryE (tabL l) own ie iv f g) := by
  have oie' : ie ∉ own := fun z => by rw [List.contains_iff_mem.mpr z] at oie; cases oie
  have oiv' : iv ∉ own := fun z => by rw [List.contains_iff_mem.mpr z] at oiv; cases oiv
  have hlt : ie < X.N.length := (List.getElem?_eq_some_iff.mp hie).1
  obtain ⟨CX, hx, hF⟩ := F
  refine ⟨_, ps_try_as (c := .ref CX) (i := ie) (Wout := W) (tb := fun W' => tS X W' own g) (ts := fun a cls d0 D σ H => ∃ (c : Str) (C : Addr) (O : List Addr) (ρ2 : Vars) (d : PyData), X.mg c = some (.ref C) ∧ cls = .ref C ∧ d0 = none ∧ (∃ σ0 : L2.St, σ = σ0.set ie (some (.ref a))) ∧ Stands O H ∧ VRel X.K (hide O H) σ ρ2 ∧ f c ρ2 = .ok d ∧ ∀ w H', Same H H' → Rp X.K (hide O H') w d → D.nx (σ.set iv (some w)) H')
    hs hf hN hie hln ⟨gX, dX, Or.inl hx⟩ tk (fun W' pn xe tk' px => (hb W' pn xe tk' px).pss) (fun a oe cls d0 pn hz hfl => ⟨fun pins s σ H D I h => ?_⟩), fun σ H ρ D H0 O0 O r z => ?_⟩
  · obtain ⟨c, C, O, ρ2, d, hC, rfl, rfl, ⟨σ0, hσ⟩, hO, hv2, hd, hD⟩ := h
    have hie2 : σ[ie]? = some (some (.ref a)) := by
      have hl0 : ie < σ0.length := by have := I.len; rw [hσ] at this; simp at this; show _ < _; omega
      rw [hσ, List.getElem?_set_self hl0]
    obtain ⟨t, p, ht⟩ := he c a oe pn C hC hz hfl
    have P := pss_one (ps_set (X := X.suite a ((a, oe) :: pn)) (pos' := p1) (pos := p10) hN hiv hlv p (hsw a ((a, oe) :: pn)) hfv)
    refine P.run pins s _ H D I ?_
    refine ht σ H O ρ2 _ hie2 hO hv2 ?_
    rw [hd]
    exact fun w H' s' r' => hD w H' s' r'
  · refine ⟨H0, O0, O, ρ, r, ?_⟩
    unfold sTryE at z
    cases e1 : g ρ with
    | nx ρ' => rw [e1] at z; exact z
    | rt d => rw [e1] at z; exact z
    | bk ρ' => rw [e1] at z; exact z
    | ct ρ' => rw [e1] at z; exact z
    | bad => rw [e1] at z; exact z
    | err c ρ' =>
      rw [e1] at z
      dsimp only at z
      intro σ' H' O' r' s'
      have hTF := hF c
      cases hTc : tabL l c with
      | none => rw [hTc] at z; exact z.elim
      | some b =>
        rw [hTc] at hTF
        obtain ⟨C, hmC, hx1⟩ := hTF
        have hcls : exV X.mg c = .ref C := by unfold exV; rw [hmC]; rfl
        cases b with
        | false =>
          refine ⟨false, by rw [hcls]; exact hx1, ⟨fun q => absurd q Bool.false_ne_true, fun _ => ?_⟩⟩
          rw [hTc] at z
          exact z σ' H' O' r' s'
        | true =>
          refine ⟨true, by rw [hcls]; exact hx1, ⟨fun _ a ha => ?_, fun q => absurd q.symm Bool.false_ne_true⟩⟩
          rw [hTc] at z
          dsimp only at z
          cases hd : f c (mask own (ρ'.set ie none)) with
          | bad => rw [hd] at z; exact z.elim
          | err _ => rw [hd] at z; exact z.elim
          | ok d =>
            rw [hd] at z
            have rn := r'.none (x := some (.ref a)) oie'
            refine ⟨c, C, O', mask own (ρ'.set ie none), d, hmC, hcls, rfl, ⟨σ', rfl⟩, rn.stands, rn.vrelM, hd, fun w H'' s'' rw_ => ?_⟩
            exact z _ H'' O' (((rn.step s'').set oiv' rw_).none oie') (s'.trans (hide_same s''))
end
/-! the facts -/
theorem kitL_nil {K : PySem.W.Frag} {mg : Str → Option Value} {cY : Value} : KitL K mg cY [] := fun c b h => by cases h
theorem kitL_cons {K : PySem.W.Frag} {mg : Str → Option Value} {cY : Value} {c : Str} {b : Bool} {l : List (Str × Bool)} {C : Addr} (hc : mg c = some (.ref C)) (E : ExcC K C) (k : PySem.W.kitOne K (.ref C) cY = some b) (r : KitL K mg cY l) : KitL K mg cY ((c, b) :: l) := fun d b' h => by
  unfold tabL at h
  by_cases e : d = c
  · subst e; rw [if_pos rfl] at h; cases h; exact ⟨C, hc, E, k⟩
  · rw [if_neg e] at h; exact r d b' h
def KitY (K : PySem.W.Frag) (mg : Str → Option Value) (y : Str) (l : List (Str × Bool)) : Prop := ∃ CY, mg y = some (.ref CY) ∧ KitL K mg (.ref CY) l
abbrev KitB (K : PySem.W.Frag) (mg : Str → Option Value) (l : List (Str × Bool)) : Prop := KitL K mg (.type "ValueError") l
theorem kitY_nil {K : PySem.W.Frag} {mg : Str → Option Value} {y : Str} {CY : Addr} (h : mg y = some (.ref CY)) : KitY K mg y [] := ⟨CY, h, kitL_nil⟩
theorem kitY_cons {K : PySem.W.Frag} {mg : Str → Option Value} {c y : Str} {l : List (Str × Bool)} {C CY : Addr} (hc : mg c = some (.ref C)) (hy : mg y = some (.ref CY)) (E : ExcC K C) (h5 : PySem.W.hasDictIn K CY = true) (h6 : PySem.W.typeIn K (.ref CY) = some (.type "type")) (h7 : PySem.W.subIn K (.ref C) (.ref CY) = some true) (r : KitY K mg y l) : KitY K mg y ((c, true) :: l) := by
  obtain ⟨CY', h', r'⟩ := r
  rw [hy] at h'
  cases h'
  exact ⟨CY, hy, kitL_cons hc E (kitOne_ref h5 h6 h7) r'⟩
section
variable {X : Cx} {ie : Nat} {c : Str}
theorem exh_isB {l : List (Str × Bool)} {n : Str} {p6 p7 p8 p9 : Pos} (F : KitB X.K X.mg l) (hN : X.N[ie]? = some n)
    (gS : Gl X "isinstance") (mS : X.mg "isinstance" = none) (gV : Gl X "ValueError") (mV : X.mg "ValueError" = none)
    (hv : Vis X.env.scope n := by first | exact Or.inl rfl | exact Or.inr (Or.inl rfl) | exact Or.inr (Or.inr rfl)) (hdn : (n == ("__debug__" : Str)) = false := by decide) (hcd : (n == ("__classdict__" : Str)) = false := by decide)
    (he1 : starEach [.Name n p8, .Name "ValueError" p9] X.env = (false, eval (.Name n p8) X.env) :: starEach [.Name "ValueError" p9] X.env := by rfl) (he2 : starEach [.Name "ValueError" p9] X.env = (false, eval (.Name "ValueError" p9) X.env) :: starEach [] X.env := by rfl)
    (hp1 : (backTo p7 (starEach [.Name "ValueError" p9] X.env)).any (·.1) = false := by rfl) :
    EXH X ie c (.Call (.Name "isinstance" p6) [.Name n p8, .Name "ValueError" p9] [] p7) (eKit (tabL l) c) :=
  exh_isi (vY := .ty "ValueError") F hN gS mS (fun a pn => pe_bltn (v := .ty "ValueError") gV mV (by decide +kernel) rfl (by decide) (by decide)) (fun u r => r) hv hdn hcd he1 he2 hp1
theorem exh_isC {l : List (Str × Bool)} {n y : Str} {p6 p7 p8 p9 : Pos} (F : KitY X.K X.mg y l) (hN : X.N[ie]? = some n)
    (gS : Gl X "isinstance") (mS : X.mg "isinstance" = none) (gY : Gl X y) (dY : (y == ("__debug__" : Str)) = false)
    (hv : Vis X.env.scope n := by first | exact Or.inl rfl | exact Or.inr (Or.inl rfl) | exact Or.inr (Or.inr rfl)) (hdn : (n == ("__debug__" : Str)) = false := by decide) (hcd : (n == ("__classdict__" : Str)) = false := by decide)
    (he1 : starEach [.Name n p8, .Name y p9] X.env = (false, eval (.Name n p8) X.env) :: starEach [.Name y p9] X.env := by rfl) (he2 : starEach [.Name y p9] X.env = (false, eval (.Name y p9) X.env) :: starEach [] X.env := by rfl)
    (hp1 : (backTo p7 (starEach [.Name y p9] X.env)).any (·.1) = false := by rfl) :
    EXH X ie c (.Call (.Name "isinstance" p6) [.Name n p8, .Name y p9] [] p7) (eKit (tabL l) c) := by
  obtain ⟨CY, hy, hF⟩ := F
  exact exh_isi (vY := .ref CY) hF hN gS mS (fun a pn => pe_glob (v := .ref CY) gY hy rfl dY) (fun u r => r) hv hdn hcd he1 he2 hp1
end
/-! ### divmod by a great divisor -/
theorem call_divmodW {X : Cx} : CallR X (.builtin "divmod") (fun xs H Q => ∃ i j, xs = [.int i, .int j] ∧ CDivW i j ∧ ∀ p, H p = none → Q (.ref p) (upd H p (.tup [.int (i / j), .int (i % j)]))) := by
  rintro pins s σ H xs us Q I r ⟨i, j, rfl, ⟨h1, h2⟩, q⟩
  obtain ⟨u, v, rfl, ⟨t, rfl⟩, ⟨t', rfl⟩⟩ := vals2 r
  have e1 : i.fdiv j = i / j := Int.fdiv_eq_ediv_of_nonneg i (by omega)
  have e2 : i.fmod j = i % j := Int.fmod_eq_emod_of_nonneg i (by omega)
  refine divmod_int (by omega) ?_ (.inl (PyProof.noPylong_of_log2 h2))
  rw [e1, e2]
  have free := I.hok.fresh (Nat.le_refl s.heap.objs.size)
  refine ⟨.ref s.heap.objs.size, _, I.laid (fun b o e => Heap.get?_push_of_some _ e) (Nat.le_refl _) ?_, rfl, q _ free⟩
  refine ⟨by simp only [List.length_cons, List.length_nil]; rw [sizeLine_eq]; decide, [.int (i / j) s.toks, .int (i % j) (s.toks + 1)], ?_, ?_⟩
  · exact .cons ⟨_, rfl⟩ (.cons ⟨_, rfl⟩ .nil)
  · exact ⟨_, Heap.get?_push_size s.heap rfl, rfl, 0, rfl⟩
def gDivmodW : List PyData → Option PyData
  | [.int i, .int j] => if cDiv i j then some (.tuple [.int (i / j), .int (i % j)]) else none
  | _ => none
theorem calld_divmodW {K : PySem.W.Frag} : CallD K (fun xs H Q => ∃ i j, xs = [.int i, .int j] ∧ CDivW i j ∧ ∀ p, H p = none → Q (.ref p) (upd H p (.tup [.int (i / j), .int (i % j)]))) gDivmodW := by
  intro H O xs ds z Q hO r h q
  unfold gDivmodW at h
  split at h
  · rename_i i j
    by_cases c : cDiv i j = true
    · rw [if_pos c] at h; cases h
      unfold cDiv at c
      rw [Bool.and_eq_true] at c
      obtain ⟨v, w, rfl, rv, rw'⟩ := rps_two r
      cases rv
      cases rw'
      exact ⟨_, _, rfl, ⟨of_decide_eq_true c.1, of_decide_eq_true c.2⟩, fun p hp => q _ _ (same_new hp) (new_rep hO hp (.cons (.int _) (.cons (.int _) .nil)))⟩
    · rw [if_neg c] at h; cases h
  · cases h
/-! ### a great base to a power -/
def CPowW (i j : Int) : Prop := 0 ≤ j ∧ (i.natAbs.log2 + 1) * j.toNat ≤ 1000000
theorem op_powW {X : Cx} : OpR X (binaryOp .Pow) (rI CPowW fun i j => .int (i ^ j.toNat)) := opI fun i j _ _ _ _ _ hc q => by
  refine pow_int hc.1 ?_ q
  have h1 : Builtin.Int.intBits i ≤ i.natAbs.log2 + 1 := by
    unfold Builtin.Int.intBits
    split <;> omega
  have h2 : Builtin.Int.intBits i * j.toNat ≤ 1000000 := Nat.le_trans (Nat.mul_le_mul_right _ h1) hc.2
  have h3 : (Builtin.Int.intBits i : Int) * j = ((Builtin.Int.intBits i * j.toNat : Nat) : Int) := by
    rw [Int.natCast_mul, Int.toNat_of_nonneg hc.1]
  rw [h3]
  exact Int.le_trans (Int.ofNat_le.mpr h2) (by decide)
def cPowW (i j : Int) : Bool := decide (0 ≤ j) && decide ((i.natAbs.log2 + 1) * j.toNat ≤ 1000000)
abbrev gPowW := gInt cPowW fun i j => .int (i ^ j.toNat)
theorem op2_powW {K : PySem.W.Frag} : Op2 K (rI CPowW fun i j => .int (i ^ j.toNat)) gPowW := op2_int (fun _ _ h => by
  unfold cPowW at h; rw [Bool.and_eq_true] at h; exact ⟨of_decide_eq_true h.1, of_decide_eq_true h.2⟩) fun _ _ _ => .int _
/-! ### a great number times another -/
def CMulX (i j : Int) : Prop := i.natAbs.log2 + j.natAbs.log2 < 134000000
theorem CMulX.ok {i j : Int} (h : CMulX i j) : IntMulOk i j := by
  have b : ∀ x : Int, Builtin.Int.intBits x ≤ x.natAbs.log2 + 1 := fun x => by
    unfold Builtin.Int.intBits
    split <;> omega
  have h1 := b i
  have h2 := b j
  have h3 : i.natAbs.log2 + j.natAbs.log2 < 134000000 := h
  intro z
  have z2 := (Bool.and_eq_true _ _ ▸ z).2
  unfold Builtin.Int.intTooBig at z2
  have z3 := of_decide_eq_true z2
  rw [show bitsLine = 134217728 by decide] at z3
  omega
theorem op_mulX {X : Cx} : OpR X (binaryOp .Mult) (rI CMulX fun i j => .int (i * j)) := opI fun _ _ _ _ _ _ _ hc q => mul_int q hc.ok
def cMulX (i j : Int) : Bool := decide (i.natAbs.log2 + j.natAbs.log2 < 134000000)
abbrev gMulX := gInt cMulX fun i j => .int (i * j)
theorem op2_mulX {K : PySem.W.Frag} : Op2 K (rI CMulX fun i j => .int (i * j)) gMulX := op2_int (fun i j h => (of_decide_eq_true (show decide (i.natAbs.log2 + j.natAbs.log2 < 134000000) = true from h) : i.natAbs.log2 + j.natAbs.log2 < 134000000)) fun _ _ _ => .int _
/-! ### the law, the script's bits at hand -/
def spLawB (K : PySem.W.Frag) : Sp := fun vs H Q _ => ∃ (a : Addr) (ns : List Int), vs = [.ref a] ∧ SqL K H a (ns.map V.int) ∧ ns.length ≤ 63 ∧ (∀ z ∈ ns, z.natAbs.log2 ≤ 1048576) ∧ ∀ H', Q (.bl true) H'
theorem law_impB {K : PySem.W.Frag} {mg : Str → Option Value} {f : List PyData → R PyData} (hl : ∀ ns : List Int, ns.length ≤ 63 → (∀ z ∈ ns, z.natAbs.log2 ≤ 1048576) → f [.list (ns.map .int)] = .ok (.bool true)) : ∀ vs H Q E, spLawB K vs H Q E → spD K mg 1 f vs H Q E := fun vs H Q E h => by
  obtain ⟨a, ns, rfl, hS, h63, hb, q⟩ := h
  refine ⟨rfl, [], [.list (ns.map .int)], fun a z => absurd z (by simp), .cons (.lst (by rw [hide_nil]; exact hS) (Rps.ofInts ns)) .nil, ?_⟩
  rw [hl ns h63 hb]
  intro v H' s r
  cases r
  exact q H'
theorem walkLB {l : PySem.W.OpenLaw} {q : Program} {loose : List Str} {XP : (Str → Option Value) → Heap → Prop} {YP : World → Heap → Prop} {d : DefRec} {K : Params → PySem.W.Frag} {k : Nat} {x : Str} (hn : l.most = some 63) (hdf : d.params.defaults = []) (hr : Room k callerA)
    (hY : ∀ (w : World) (h : Heap), YP w h → (K w.params).In h)
    (F : ∀ (w : World) (mg : Str → Option Value) (fa : Addr) (h : Heap), (K w.params).In h → h.Ns mainGlobals mg → mg d.name = some (.ref fa) →
      ∃ fd : FuncData, (∀ (s : Shared) (u : Value), BindsTo s fd ⟨[u], []⟩ [(x, u)]) ∧ ∀ base : Heap, (K w.params).In base → base.Ns mainGlobals mg → FnOk l.prog w (K w.params) mg base (L2.CX l.prog w) k fa fd [x] (spLawB (K w.params))) :
    PySem.W.WalkO q loose XP YP l.row.toRowW d [] (fun f vs => PySem.call f vs) :=
  L2.walk_ofB (n := 63) (k := k) (x := x) (CX := fun w => L2.CX l.prog w) (sp := fun w => spLawB (K w.params)) hn (by decide) hdf hr hY F (fun _ _ a ns hl hb _ hS => ⟨a, ns, rfl, hS, hl, (fun z hz => by
    have h1 := hb z hz
    unfold Builtin.Int.intBits at h1
    by_cases c : (z == 0) = true
    · have : z = 0 := by simpa using c
      subst this; decide
    · rw [if_neg c] at h1; omega), fun _ => rfl⟩) fun _ _ _ _ _ z => by
    obtain ⟨_, _, _, _, _, _, _, _, _, _, _, _, z⟩ := z
    exact z
/-! ### defs with two defaults -/
section
variable {P : Program} {w : World} {K : PySem.W.Frag} {mg : Str → Option Value} {base : Heap}
abbrev Fun2 (K : PySem.W.Frag) (x : Str) (st : Stmt) (i j : Int) (f : Addr) (fd : FuncData) : Prop := FunD K x x (defArgs st) (defBody st) (defScope st) [V.int i, V.int j] [] f fd
theorem fn_dataD {x : Str} {st : Stmt} {f : Addr} {fd : FuncData} {N ps : List Str} {k n : Nat} {dvs : List V} {own : List Nat} {g : Vars → Out} (F : FunD K x x (defArgs st) (defBody st) (defScope st) dvs [] f fd) (S : FnScope N ps (defScope st)) (hn : ps.length = n) (ho : (own.all fun i => decide (n ≤ i)) = true)
    (hb : ∀ (cdv : Value) (A : Around) (outer : List Env) (s : Shared) (H : Hp) (E : XK), Room k (A.deeper (envOfC x (defScope st) s.heap.objs.size f cdv)) → BX (cxOf (L2.CX P w) P w K mg base N x (defScope st) f cdv A outer s H E) E own (defBody st) g) :
    FnOk P w K mg base (L2.CX P w) (k + 1) f fd ps (spD K mg n (fnD N.length g)) := by
  refine F.ok S (fun vs H Q E h => ?_) fun cdv A outer s H vs Q E hr h => ?_
  · rw [h.1]; exact hn.symm
  obtain ⟨hl, O, ds, hO, r, z⟩ := h
  obtain ⟨t, p, ht⟩ := hb cdv A outer s H E hr
  have hpl : ps.length ≤ N.length := by have := congrArg List.length S.pre; rw [List.length_take] at this; omega
  have hdl : ds.length = n := by rw [← r.length]; exact hl
  refine ⟨t, p, ht _ H _ Q H O O (start_rel hO r (by omega) fun i hi => by have := of_decide_eq_true (List.all_eq_true.mp ho i hi); omega) ?_⟩
  unfold fnD at z
  cases e : g (ds.map some ++ List.replicate (N.length - ds.length) none) with
  | nx ρ' => rw [e] at z; exact fun H' s' => z .non H' s' .non
  | rt d => rw [e] at z; exact z
  | err c ρ' => rw [e] at z; exact z
  | bk _ => rw [e] at z; exact z.elim
  | ct _ => rw [e] at z; exact z.elim
  | bad => rw [e] at z; exact z.elim
/-- a call that leaves both defaults out -/
def CalY (P : Program) (w : World) (K : PySem.W.Frag) (mg : Str → Option Value) (base : Heap) (k : Nat) (x : Str) (n : Nat) (i j : Int) (f : List PyData → R PyData) : Prop :=
  ∃ (fa : Addr) (fd : FuncData) (ps : List Str) (ds : List Value), ps.length = n + 2 ∧ FnOk P w K mg base (L2.CX P w) k fa fd ps (spD K mg (n + 2) f) ∧ mg x = some (.ref fa) ∧ PySem.W.keepIn K (.ref fa) = true ∧ Binds K fd ps ds ∧ Vals [V.int i, V.int j] ds
section
variable {x : Str} {st : Stmt} {f : Addr} {fd : FuncData} {N ps : List Str} {k n : Nat} {i j : Int} {own : List Nat} {g : Vars → Out}
theorem cal_data2 (F : Fun2 K x st i j f fd) (hm : mg x = some (.ref f)) (hbn : Binds K fd ps []) (S : FnScope N ps (defScope st)) (hn : ps.length = n) (ho : (own.all fun i => decide (n ≤ i)) = true)
    (hb : ∀ (cdv : Value) (A : Around) (outer : List Env) (s : Shared) (H : Hp) (E : XK), Room k (A.deeper (envOfC x (defScope st) s.heap.objs.size f cdv)) → BX (cxOf (L2.CX P w) P w K mg base N x (defScope st) f cdv A outer s H E) E own (defBody st) g) :
    Cal P w K mg base (k + 1) x n (fnD N.length g) := ⟨f, fd, ps, hn, fn_dataD F S hn ho hb, hm, F.kp, hbn⟩
theorem calX_data2 (F : Fun2 K x st i j f fd) (hm : mg x = some (.ref f)) (hbn : ∃ ds, Vals [V.int j] ds ∧ Binds K fd ps ds) (S : FnScope N ps (defScope st)) (hn : ps.length = n + 1) (ho : (own.all fun i => decide (n + 1 ≤ i)) = true)
    (hb : ∀ (cdv : Value) (A : Around) (outer : List Env) (s : Shared) (H : Hp) (E : XK), Room k (A.deeper (envOfC x (defScope st) s.heap.objs.size f cdv)) → BX (cxOf (L2.CX P w) P w K mg base N x (defScope st) f cdv A outer s H E) E own (defBody st) g) :
    CalX P w K mg base (k + 1) x n j (fnD N.length g) := by
  obtain ⟨ds, h1, h2⟩ := hbn
  exact ⟨f, fd, ps, ds, hn, fn_dataD F S hn ho hb, hm, F.kp, h2, h1⟩
theorem calY_data2 (F : Fun2 K x st i j f fd) (hm : mg x = some (.ref f)) (hbn : ∃ ds, Vals [V.int i, V.int j] ds ∧ Binds K fd ps ds) (S : FnScope N ps (defScope st)) (hn : ps.length = n + 2) (ho : (own.all fun i => decide (n + 2 ≤ i)) = true)
    (hb : ∀ (cdv : Value) (A : Around) (outer : List Env) (s : Shared) (H : Hp) (E : XK), Room k (A.deeper (envOfC x (defScope st) s.heap.objs.size f cdv)) → BX (cxOf (L2.CX P w) P w K mg base N x (defScope st) f cdv A outer s H E) E own (defBody st) g) :
    CalY P w K mg base (k + 1) x n i j (fnD N.length g) := by
  obtain ⟨ds, h1, h2⟩ := hbn
  exact ⟨f, fd, ps, ds, hn, fn_dataD F S hn ho hb, hm, F.kp, h2, h1⟩
theorem no_bad {m : Nat} : ∀ vs H Q E, ¬ spD K mg m (fun _ => .bad) vs H Q E := fun vs H Q E h => by
  obtain ⟨_, _, _, _, _, z⟩ := h
  exact z
theorem cal_zero2 (F : Fun2 K x st i j f fd) (hm : mg x = some (.ref f)) (hbn : Binds K fd ps []) (hn : ps.length = n) : Cal P w K mg base 0 x n fun _ => .bad :=
  ⟨f, fd, ps, hn, ⟨fun vs H Q E h => absurd h (no_bad vs H Q E), fun A outer s H args us vs Q E _ _ _ _ h => absurd h (no_bad vs H Q E)⟩, hm, F.kp, hbn⟩
theorem calX_zero2 (F : Fun2 K x st i j f fd) (hm : mg x = some (.ref f)) (hbn : ∃ ds, Vals [V.int j] ds ∧ Binds K fd ps ds) (hn : ps.length = n + 1) : CalX P w K mg base 0 x n j fun _ => .bad := by
  obtain ⟨ds, h1, h2⟩ := hbn
  exact ⟨f, fd, ps, ds, hn, ⟨fun vs H Q E h => absurd h (no_bad vs H Q E), fun A outer s H args us vs Q E _ _ _ _ h => absurd h (no_bad vs H Q E)⟩, hm, F.kp, h2, h1⟩
theorem calY_zero2 (F : Fun2 K x st i j f fd) (hm : mg x = some (.ref f)) (hbn : ∃ ds, Vals [V.int i, V.int j] ds ∧ Binds K fd ps ds) (hn : ps.length = n + 2) : CalY P w K mg base 0 x n i j fun _ => .bad := by
  obtain ⟨ds, h1, h2⟩ := hbn
  exact ⟨f, fd, ps, ds, hn, ⟨fun vs H Q E h => absurd h (no_bad vs H Q E), fun A outer s H args us vs Q E _ _ _ _ h => absurd h (no_bad vs H Q E)⟩, hm, F.kp, h2, h1⟩
end
end
section
variable {X : Cx} {W : WX}
theorem ex_fnY {k n : Nat} {i j : Int} {x : Str} {g : List PyData → R PyData} {e : Expr} {es : List Expr} {f : Vars → R (List PyData)} {p pos : Pos} (tk : Takes X W) (F : CalY X.prog X.w X.K X.mg X.base k x n i j g) (hr : Room k X.A) (hg : Gl X x) (ha : AX X W (e :: es) f) (hn : es.length + 1 = n)
    (hdb : (x == ("__debug__" : Str)) = false := by decide) (he : starEach (e :: es) X.env = (false, eval e X.env) :: starEach es X.env := by rfl) (hpl : (backTo pos (starEach es X.env)).any (·.1) = false := by rfl) (hlen : ∀ ρ ds, f ρ = .ok ds → ds.length = n) :
    EX X W (.Call (.Name x p) (e :: es) [] pos) (eFn (fun ds => g (ds ++ [.int i, .int j])) f) := by
  obtain ⟨fa, fd, ps, dv, h1, h2, h3, h4, h5, h6⟩ := F
  obtain ⟨t, q, ht⟩ := ha
  refine ⟨_, pe_callSD h2 hr hg h3 h4 h5 h6 (fun σ => passAt tk σ) q hdb he hpl, fun σ H O ρ Q hO hv z => ht σ H O ρ _ hO hv ?_⟩
  unfold eFn at z
  cases e1 : f ρ with
  | bad => rw [e1] at z; exact z
  | err c => rw [e1] at z; exact z
  | ok ds =>
    rw [e1] at z
    intro vs H1 s1 r1
    refine ⟨by rw [List.length_append, r1.length, hlen ρ ds e1]; rfl, O, ds ++ [.int i, .int j], hO.same s1, ?_, ?_⟩
    · have := rps_app (.int j) (rps_app (.int i) r1)
      rwa [List.append_assoc, List.append_assoc] at this
    cases e2 : g (ds ++ [.int i, .int j]) with
    | bad => rw [R.bind_ok, e2] at z; exact z.elim
    | err c => rw [R.bind_ok, e2] at z; exact fun H' s' => z H' (s1.trans s')
    | ok d => rw [R.bind_ok, e2] at z; exact fun v H' s' r' => z v H' (s1.trans s') r'
end
theorem fun2_mk {K : PySem.W.Frag} {x : Str} {st : Stmt} {i j : Int} {f T : Addr} {oc : Value} {od an : Option Addr} {kV dc pm cd ct ocT : Value} {sl slT : Array (Option Value)} {odT : Option Addr} {nT : Nat} {tk tk' : Tok}
    (lk : K.lookup f = some ⟨oc, od, .func (PySem.W.fnOf x x (defArgs st) (defBody st) (defScope st) (.ref T) kV dc pm an cd ct), sl⟩) (c : PySem.W.codeIn K cd x = true) (kp : PySem.W.keepIn K (.ref f) = true) (lT : K.lookup T = some ⟨ocT, odT, .seq #[.int i tk, .int j tk'] nT, slT⟩) :
    Fun2 K x st i j f (PySem.W.fnOf x x (defArgs st) (defBody st) (defScope st) (.ref T) kV dc pm an cd ct) :=
  ⟨⟨oc, od, .ref T, kV, dc, pm, an, cd, ct, sl, rfl, lk, c, Or.inr ⟨by simp, T, _, [.int i tk, .int j tk'], nT, rfl, lT, rfl, .cons ⟨tk, rfl⟩ (.cons ⟨tk', rfl⟩ .nil)⟩, Or.inl rfl⟩, kp⟩
theorem fun2_all {K : PySem.W.Frag} {x : Str} {st : Stmt} {i j : Int} {f : Addr} {fd : FuncData} {ps : List Str} {n : Nat} (F : Fun2 K x st i j f fd) (hn : ps.length = n)
    (h : ∀ (T : Addr) (kV doc pm : Value) (an : Option Addr) (cdv ct : Value) (us its : List Value), us.length = n → its.length = 2 →
      ∃ k, bindArgs (PySem.W.fnOf x x (defArgs st) (defBody st) (defScope st) (.ref T) kV doc pm an cdv ct) ⟨us, []⟩ = seqItems? (.ref T) >>= k ∧ k (some its.toArray) = pure (ps.zip (us ++ its.drop 2))) : Binds K fd ps [] := by
  obtain ⟨ds, h1, h2⟩ := FunD.binds1 F n 2 (by simp) (by simp [hn]) h
  cases h1
  exact h2
theorem fun2_one {K : PySem.W.Frag} {x : Str} {st : Stmt} {i j : Int} {f : Addr} {fd : FuncData} {ps : List Str} {n : Nat} (F : Fun2 K x st i j f fd) (hn : ps.length = n + 1)
    (h : ∀ (T : Addr) (kV doc pm : Value) (an : Option Addr) (cdv ct : Value) (us its : List Value), us.length = n → its.length = 2 →
      ∃ k, bindArgs (PySem.W.fnOf x x (defArgs st) (defBody st) (defScope st) (.ref T) kV doc pm an cdv ct) ⟨us, []⟩ = seqItems? (.ref T) >>= k ∧ k (some its.toArray) = pure (ps.zip (us ++ its.drop 1))) : ∃ ds, Vals [V.int j] ds ∧ Binds K fd ps ds :=
  FunD.binds1 F n 1 (by simp) (by simp [hn]) h
theorem fun2_two {K : PySem.W.Frag} {x : Str} {st : Stmt} {i j : Int} {f : Addr} {fd : FuncData} {ps : List Str} {n : Nat} (F : Fun2 K x st i j f fd) (hn : ps.length = n + 2)
    (h : ∀ (T : Addr) (kV doc pm : Value) (an : Option Addr) (cdv ct : Value) (us its : List Value), us.length = n → its.length = 2 →
      ∃ k, bindArgs (PySem.W.fnOf x x (defArgs st) (defBody st) (defScope st) (.ref T) kV doc pm an cdv ct) ⟨us, []⟩ = seqItems? (.ref T) >>= k ∧ k (some its.toArray) = pure (ps.zip (us ++ its.drop 0))) : ∃ ds, Vals [V.int i, V.int j] ds ∧ Binds K fd ps ds :=
  FunD.binds1 F n 0 (by simp) (by simp [hn]) h
end Pu
set_option Elab.async false
set_option linter.all false
set_option maxRecDepth 100000
namespace Pu
open PySem
-- k04 k52 k54 k55 k56 k57 k58 k71 k72 k73 k75 k76 k84 slots 4 params 1
def G_greatest (c0 : Nat) (S : Nat → List PyData → R PyData) : Vars → Out :=
  (sSeq (sSet [] 1 (eC (.int 0)))
    (sSeq (sFor [] (iSeq (eVar 0)) (gtTup 2 (gtCons (gtName 2) (gtCons (gtName 3) gtNil))) (sSet [] 1 (eCall gMax3 (aCons (eVar 1) (aCons (eVar 3) (aCons (eFn (S c0) (aCons (eVar 2) aNil)) aNil))))))
    (sRet (eVar 1))))
-- k41 k42 k43 k44 k45 k46 k47 k48 k49 k51 k52 k53 k54 k55 k56 k57 k58 slots 2 params 2
def G_l_mix (S : Nat → List PyData → R PyData) : Vars → Out :=
  (sRet (eOp gMod (eOp gAdd (eOp gAdd (eOp gAdd (eOp gMulX (eVar 0) (eC (.int 48271))) (eOp gMulX (eOp gMulX (eVar 1) (eVar 1)) (eC (.int 69621)))) (eOp gMulX (eC (.int 11)) (eVar 1))) (eC (.int 1))) (eC (.int 2147483647))))
-- k42 k51 k53 k54 k55 k56 k61 k62 k63 k68 slots 1 params 1
def G_l_whole (S : Nat → List PyData → R PyData) : Vars → Out :=
  (sRet (eAnd (eIsi "int" (eVar 0)) (eNot (eIsi "bool" (eVar 0)))))
-- k51 k53 k54 k55 k56 k57 k58 k75 k76 k84 slots 0 params 0
def G_too_great (S : Nat → List PyData → R PyData) : Vars → Out :=
  (sRet (eOp gPowW (eOp gPow (eC (.int 10)) (eC (.int 60))) (eC (.int 10))))
-- k51 k52 k54 k55 k56 k57 k58 k75 k76 k84 slots 5 params 2
def G_written (c0 c1 : Nat) (S : Nat → List PyData → R PyData) : Vars → Out :=
  (sSeq (sIf (tOrR (tNotR (tTru (eFn (S c0) (aCons (eVar 0) aNil)))) (tOrR (tNotR (tTru (eFn (S c0) (aCons (eVar 1) aNil)))) (tOf (eOp gLt (eVar 1) (eC (.int 2)))))) (sRaise "NoNumber") sNil)
    (sSeq (sNew [2] 2 (nLst aNil))
    (sSeq (sSetM [2] 3 (eC (.int 0)))
    (sSeq (whileL (tOf (eOp gGt (eVar 0) (eC (.int 0)))) (sSeq (sAsg [2] (gtTup 2 (gtCons (gtName 0) (gtCons (gtName 4) gtNil))) (eCall gDivmodW (aCons (eVar 0) (aCons (eVar 1) aNil)))) (sSeq (sIf (tOf (eOp gGt (eVar 4) (eC (.int 0)))) (sAppM [2] 2 (eTup (aCons (eFn (S c1) (aCons (eVar 3) (aCons (eVar 1) aNil))) (aCons (eVar 4) aNil)))) sNil) (sAug [2] 3 gAddI (eC (.int 1))))) wfuel)
    (sRet (eTupRev (eVar 2)))))))
-- k51 k53 k54 k55 k56 k57 k58 k75 k76 k84 slots 4 params 2
def G_base_to (c0 : Nat) (S : Nat → List PyData → R PyData) : Vars → Out :=
  (sSeq (sSet [] 2 (eFn (S c0) aNil))
    (sSeq (sSet [] 3 (eC (.int 1)))
    (sSeq (whileL (tOf (eOp gGt (eVar 1) (eC (.int 0)))) (sSeq (sIf (tOf (eOp gEq (eOp gMod (eVar 1) (eC (.int 2))) (eC (.int 1)))) (sSet [] 3 (eOp gMul (eVar 3) (eVar 0))) sNil) (sSeq (sSet [] 1 (eOp gDiv (eVar 1) (eC (.int 2)))) (sSeq (sIf (tOf (eOp gGt (eVar 1) (eC (.int 0)))) (sSet [] 0 (eOp gMul (eVar 0) (eVar 0))) sNil) (sIf (tOrR (tOf (eOp gGe (eVar 3) (eVar 2))) (tAndR (tOf (eOp gGt (eVar 1) (eC (.int 0)))) (tOf (eOp gGe (eVar 0) (eVar 2))))) (sRaise "TooGreat") sNil)))) wfuel)
    (sRet (eVar 3)))))
-- k51 k53 k54 k55 k56 k57 k58 k75 k76 k84 slots 5 params 2
def G_worth (c0 c1 c2 : Nat) (S : Nat → List PyData → R PyData) : Vars → Out :=
  (sSeq (sSet [] 2 (eC (.int 0)))
    (sSeq (sFor [] (iSeq (eVar 0)) (gtTup 2 (gtCons (gtName 3) (gtCons (gtName 4) gtNil))) (sAug [] 2 gAddI (eOp gMul (eVar 4) (eFn (S c0) (aCons (eVar 1) (aCons (eFn (S c1) (aCons (eVar 3) (aCons (eVar 1) aNil))) aNil))))))
    (sSeq (sIf (tOf (eOp gGe (eVar 2) (eFn (S c2) aNil))) (sRaise "TooGreat") sNil)
    (sRet (eVar 2)))))
-- k51 k52 k53 k54 k55 k56 k57 k58 slots 2 params 2
def G_l_great_2 (S : Nat → List PyData → R PyData) : Vars → Out :=
  (sRet (eOp gMod (eOp gMulX (eOp gAdd (eOp gAdd (eVar 0) (eOp gMulX (eVar 1) (eVar 1))) (eC (.int 1))) (eC (.int 7391046825519380427716093582641907753320168849507113))) (eOp gPow (eC (.int 10)) (eC (.int 60)))))
-- k51 k54 k55 k56 slots 8 params 2
def G_l_read (c0 c1 : Nat) (S : Nat → List PyData → R PyData) : Vars → Out :=
  (sSeq (sIf (tNotR (tTru (eIsi "tuple" (eVar 0)))) (sRet (eNeg (eC (.int 1)))) sNil)
    (sSeq (sSet [] 2 (eC (.int 0)))
    (sSeq (sSet [] 3 (eC (.int 1)))
    (sSeq (sSet [] 4 (eC (.int 0)))
    (sSeq (sFor [] (iRange3 (aCons (eOp gSub (eCall gLen (aCons (eVar 0) aNil)) (eC (.int 1))) (aCons (eNeg (eC (.int 1))) (aCons (eNeg (eC (.int 1))) aNil)))) (gtName 5) (sSeq (sSet [] 6 (eOp gIx (eVar 0) (eVar 5))) (sSeq (sIf (tOrR (tNotR (tTru (eIsi "tuple" (eVar 6)))) (tOrR (tOf (eOp gNe (eCall gLen (aCons (eVar 6) aNil)) (eC (.int 2)))) (tNotR (tTru (eFn (S c0) (aCons (eOp gIx (eVar 6) (eC (.int 1))) aNil)))))) (sRet (eNeg (eC (.int 1)))) sNil) (sSeq (sSet [] 7 (eFn (S c1) (aCons (eOp gIx (eVar 6) (eC (.int 0))) (aCons (eVar 1) aNil)))) (sSeq (sIf (tOrR (tOf (eOp gLt (eVar 7) (eVar 4))) (tOrR (tOf (eOp gGt (eVar 7) (eC (.int 700)))) (tOrR (tOf (eOp gLt (eOp gIx (eVar 6) (eC (.int 1))) (eC (.int 1)))) (tOf (eOp gGe (eOp gIx (eVar 6) (eC (.int 1))) (eVar 1)))))) (sRet (eNeg (eC (.int 1)))) sNil) (sSeq (whileL (tOf (eOp gLt (eVar 4) (eVar 7))) (sSeq (sSet [] 3 (eOp gMul (eVar 3) (eVar 1))) (sSet [] 4 (eOp gAdd (eVar 4) (eC (.int 1))))) wfuel) (sSeq (sSet [] 2 (eOp gAdd (eVar 2) (eOp gMul (eOp gIx (eVar 6) (eC (.int 1))) (eVar 3)))) (sSeq (sSet [] 3 (eOp gMul (eVar 3) (eVar 1))) (sSet [] 4 (eOp gAdd (eVar 4) (eC (.int 1))))))))))))
    (sRet (eVar 2)))))))
-- k51 slots 4 params 2
def G_l_power_2 (S : Nat → List PyData → R PyData) : Vars → Out :=
  (sSeq (sSet [] 2 (eC (.int 1)))
    (sSeq (sFor [] (iRange (aCons (eVar 1) aNil)) (gtName 3) (sSet [] 2 (eOp gMul (eVar 2) (eVar 0))))
    (sRet (eVar 2))))
-- k51 slots 5 params 2
def G_l_pick (c0 c1 c2 : Nat) (S : Nat → List PyData → R PyData) : Vars → Out :=
  (sSeq (sSet [] 2 (eFn (S c0) (aCons (eVar 0) (aCons (eVar 1) aNil))))
    (sSeq (sSet [] 3 (eFn (S c1) (aCons (eVar 0) (aCons (eVar 1) aNil))))
    (sSeq (sIf (tOf (eOp gEq (eOp gMod (eVar 2) (eC (.int 5))) (eC (.int 0)))) (sRet (eTup (aCons (eOp gMod (eOp gDiv (eVar 2) (eC (.int 5))) (eC (.int 1000))) (aCons (eOp gAdd (eC (.int 2)) (eOp gMod (eOp gDiv (eVar 2) (eC (.int 5000))) (eC (.int 3)))) aNil)))) sNil)
    (sSeq (sIf (tOf (eOp gEq (eOp gMod (eVar 2) (eC (.int 5))) (eC (.int 1)))) (sRet (eTup (aCons (eOp gMod (eVar 3) (eOp gPow (eC (.int 10)) (eC (.int 9)))) (aCons (eOp gAdd (eC (.int 2)) (eOp gMod (eOp gDiv (eVar 2) (eC (.int 5))) (eC (.int 15)))) aNil)))) sNil)
    (sSeq (sIf (tOf (eOp gEq (eOp gMod (eVar 2) (eC (.int 5))) (eC (.int 2)))) (sRet (eTup (aCons (eVar 3) (aCons (eOp gAdd (eC (.int 2)) (eOp gMod (eOp gDiv (eVar 2) (eC (.int 5))) (eOp gPow (eC (.int 10)) (eC (.int 8))))) aNil)))) sNil)
    (sSeq (sIf (tOf (eOp gEq (eOp gMod (eVar 2) (eC (.int 5))) (eC (.int 3)))) (sRet (eTup (aCons (eVar 3) (aCons (eOp gAdd (eC (.int 2)) (eOp gMod (eFn (S c1) (aCons (eVar 0) (aCons (eOp gAdd (eVar 1) (eC (.int 70))) aNil))) (eOp gIx (eLst (aCons (eC (.int 1000)) (aCons (eOp gPow (eC (.int 10)) (eC (.int 21))) (aCons (eOp gPow (eC (.int 10)) (eC (.int 60))) aNil)))) (eOp gMod (eOp gDiv (eVar 2) (eC (.int 5))) (eC (.int 3)))))) aNil)))) sNil)
    (sSeq (sSet [] 4 (eOp gAdd (eC (.int 2)) (eOp gMod (eOp gDiv (eVar 2) (eC (.int 5))) (eC (.int 9)))))
    (sRet (eTup (aCons (eOp gSub (eFn (S c2) (aCons (eVar 4) (aCons (eOp gMod (eOp gDiv (eVar 2) (eC (.int 45))) (eC (.int 20))) aNil))) (eOp gMod (eOp gDiv (eVar 2) (eC (.int 900))) (eC (.int 2)))) (aCons (eVar 4) aNil)))))))))))
-- k52 k54 k55 k56 k57 k58 k75 k76 k84 slots 2 params 2
def G_fits (c0 : Nat) (S : Nat → List PyData → R PyData) : Vars → Out :=
  (sRet (eOp gLt (eFn (S c0) (aCons (eVar 0) aNil)) (eVar 1)))
-- k52 slots 3 params 2
def G_l_fits (c0 c1 : Nat) (S : Nat → List PyData → R PyData) : Vars → Out :=
  (sSeq (sSet [] 2 (eFn (S c0) (aCons (eVar 0) (aCons (eVar 1) aNil))))
    (sRet (eAnd (eIsi "bool" (eVar 2)) (eOp gEq (eVar 2) (eOp gLt (eFn (S c1) (aCons (eVar 0) aNil)) (eVar 1))))))
-- k54 k55 k56 k57 k58 k75 k76 k84 slots 7 params 2
def G_down (c0 c1 c2 c3 : Nat) (S : Nat → List PyData → R PyData) : Vars → Out :=
  (sSeq (sIf (tOf (eOp gEq (eCall gLen (aCons (eVar 0) aNil)) (eC (.int 0)))) (sRaise "Nought") sNil)
    (sSeq (sIf (tNotR (tTru (eFn (S c0) (aCons (eVar 0) (aCons (eVar 1) aNil))))) (sRaise "NoFit") sNil)
    (sSeq (sSetM [5] 2 (eOp gIx (eOp gIx (eVar 0) (eNeg (eC (.int 1)))) (eC (.int 0))))
    (sSeq (sSetM [5] 3 (eFn (S c1) (aCons (eVar 0) aNil)))
    (sSeq (sIf (tOf (eOp gEq (eCall gLen (aCons (eVar 2) aNil)) (eC (.int 0)))) (sRet (eVar 3)) sNil)
    (sSeq (sSetM [5] 4 (eFn (S c2) (aCons (eVar 2) (aCons (eVar 1) aNil))))
    (sSeq (sIf (tOf (eOp gGt (eVar 4) (eC (.int 200)))) (sRaise "TooGreat") sNil)
    (sSeq (sNew [5] 5 (nLst aNil))
    (sSeq (sFor [5] (iRange3 (aCons (eOp gSub (eVar 4) (eC (.int 1))) (aCons (eNeg (eC (.int 1))) (aCons (eNeg (eC (.int 1))) aNil)))) (gtName 6) (sAppM [5] 5 (eTup (aCons (eFn (S c3) (aCons (eVar 6) (aCons (eVar 1) aNil))) (aCons (eOp gSub (eVar 1) (eC (.int 1))) aNil)))))
    (sRet (eOp gAdd (eVar 3) (eCall gTuple (aCons (eVar 5) aNil)))))))))))))
-- k54 k57 slots 4 params 2
def G_l_write (c0 : Nat) (S : Nat → List PyData → R PyData) : Vars → Out :=
  (sSeq (sSet [] 2 (eTup aNil))
    (sSeq (sSet [] 3 (eC (.int 0)))
    (sSeq (whileL (tOf (eOp gGt (eVar 0) (eC (.int 0)))) (sSeq (sIf (tOf (eOp gGt (eOp gMod (eVar 0) (eVar 1)) (eC (.int 0)))) (sSet [] 2 (eOp gAdd (eTup (aCons (eTup (aCons (eFn (S c0) (aCons (eVar 3) (aCons (eVar 1) aNil))) (aCons (eOp gMod (eVar 0) (eVar 1)) aNil))) aNil)) (eVar 2))) sNil) (sSeq (sSet [] 0 (eOp gDiv (eVar 0) (eVar 1))) (sSet [] 3 (eOp gAdd (eVar 3) (eC (.int 1)))))) wfuel)
    (sRet (eVar 2)))))
-- k54 slots 3 params 2
def G_l_ends (S : Nat → List PyData → R PyData) : Vars → Out :=
  (sSeq (sSet [] 2 (eC (.int 0)))
    (sSeq (whileL (tOf (eOp gEq (eOp gMod (eVar 0) (eVar 1)) (eC (.int 0)))) (sSeq (sSet [] 0 (eOp gDiv (eVar 0) (eVar 1))) (sSet [] 2 (eOp gAdd (eVar 2) (eC (.int 1))))) wfuel)
    (sRet (eVar 2))))
end Pu
set_option Elab.async false
set_option linter.all false
set_option maxRecDepth 100000
set_option maxHeartbeats 4000000
namespace Nm
open PySem Pu
/-- a number: its first part's exponent and times, and the rest -/
inductive O where
  | z | c (e : O) (n : Int) (r : O)
  deriving DecidableEq
namespace O
def parts : O → List (O × Int)
  | z => []
  | c e n r => (e, n) :: r.parts
def of : List (O × Int) → O
  | [] => z
  | (e, n) :: r => c e n (of r)
@[simp] theorem of_parts : ∀ a : O, of a.parts = a
  | z => rfl
  | c e n r => by show c e n (of r.parts) = _; rw [of_parts r]
@[simp] theorem parts_of : ∀ ps : List (O × Int), (of ps).parts = ps
  | [] => rfl
  | (e, n) :: r => by show (e, n) :: (of r).parts = _; rw [parts_of r]
theorem parts_inj {a b : O} (h : a.parts = b.parts) : a = b := by rw [← of_parts a, h, of_parts]
/-- nesting, parts in all, own parts -/
def h : O → Nat
  | z => 0
  | c e _ r => max (e.h + 1) r.h
def size : O → Nat
  | z => 0
  | c e _ r => 1 + e.size + r.size
def len : O → Nat
  | z => 0
  | c _ _ r => r.len + 1
theorem len_parts : ∀ a : O, a.parts.length = a.len
  | z => rfl
  | c e n r => by show r.parts.length + 1 = _; rw [len_parts r]; rfl
theorem h_le_size : ∀ a : O, a.h ≤ a.size
  | z => Nat.le_refl _
  | c e n r => by
    have h1 := h_le_size e
    have h2 := h_le_size r
    show max (e.h + 1) r.h ≤ 1 + e.size + r.size
    omega
theorem len_le_size : ∀ a : O, a.len ≤ a.size
  | z => Nat.le_refl _
  | c e n r => by
    have h2 := len_le_size r
    show r.len + 1 ≤ 1 + e.size + r.size
    omega
end O
open O
/-- as Python's data -/
def encL : O → List PyData
  | .z => []
  | .c e n r => .tuple [.tuple (encL e), .int n] :: encL r
abbrev enc (a : O) : PyData := .tuple (encL a)
abbrev encP (p : O × Int) : PyData := .tuple [enc p.1, .int p.2]
@[simp] theorem encL_z : encL .z = [] := rfl
@[simp] theorem encL_c (e : O) (n : Int) (r : O) : encL (.c e n r) = .tuple [.tuple (encL e), .int n] :: encL r := rfl
theorem encL_parts : ∀ a : O, encL a = a.parts.map encP
  | .z => rfl
  | .c e n r => by show _ :: encL r = _ :: (r.parts.map encP); rw [encL_parts r]
theorem encL_of (ps : List (O × Int)) : encL (of ps) = ps.map encP := by rw [encL_parts, parts_of]
@[simp] theorem encL_len (a : O) : (encL a).length = a.len := by rw [encL_parts, List.length_map, len_parts]
theorem enc_depth : ∀ a : O, (enc a).depth = 2 * a.h + 1
  | .z => by simp [PyData.depth, PyData.depthAll, O.h]
  | .c e n r => by
    have h1 := enc_depth e
    have h2 := enc_depth r
    simp only [PyData.depth] at h1 h2
    simp only [encL_c, PyData.depth, PyData.depthAll, O.h]
    omega
theorem enc_lay : ∀ a : O, (enc a).canLay0 = true
  | .z => by simp [PyData.canLay0, PyData.canLayAll0]
  | .c e n r => by
    have h1 := enc_lay e
    have h2 := enc_lay r
    simp only [PyData.canLay0] at h1 h2
    simp only [encL_c, PyData.canLay0, PyData.canLayAll0, h1, h2, Bool.and_self]
theorem enc_shaped {a : O} (h : a.h ≤ 31) : SeqAt.shaped (enc a) = true := by
  unfold SeqAt.shaped
  rw [enc_lay, enc_depth, Bool.true_and]
  exact decide_eq_true (by omega)
theorem enc_imm : ∀ a : O, imm (enc a) = true
  | .z => by simp [imm, imms]
  | .c e n r => by
    have h1 := enc_imm e
    have h2 := enc_imm r
    simp only [imm] at h1 h2
    simp only [encL_c, imm, imms, h1, h2, Bool.and_self]
theorem enc_eqv : ∀ a b : O, PyData.eqv (enc a) (enc b) = decide (a = b)
  | .z, .z => by simp [PyData.eqv, PyData.eqvAll]
  | .z, .c e n r => by simp [PyData.eqv, PyData.eqvAll]
  | .c e n r, .z => by simp [PyData.eqv, PyData.eqvAll]
  | .c e n r, .c e' n' r' => by
    have h1 := enc_eqv e e'
    have h2 := enc_eqv r r'
    simp only [PyData.eqv] at h1 h2
    simp only [encL_c, PyData.eqv, PyData.eqvAll, h1, h2, Bool.and_true, O.c.injEq]
    by_cases c1 : e = e' <;> by_cases c2 : n = n' <;> by_cases c3 : r = r' <;> simp [c1, c2, c3]
theorem gEq_enc {a b : O} (ha : a.h ≤ 31) (hb : b.h ≤ 31) : gEq (enc a) (enc b) = some (.bool (decide (a = b))) := by
  unfold gEq
  rw [enc_shaped ha, enc_shaped hb, enc_eqv]; rfl
theorem gNe_enc {a b : O} (ha : a.h ≤ 31) (hb : b.h ≤ 31) : gNe (enc a) (enc b) = some (.bool (!decide (a = b))) := by
  unfold gNe
  rw [enc_shaped ha, enc_shaped hb, enc_eqv]; rfl
@[simp] theorem gEq_int (i j : Int) : gEq (.int i) (.int j) = some (.bool (decide (i = j))) := by
  unfold gEq SeqAt.shaped
  simp [PyData.canLay0, PyData.depth, PyData.eqv, Bool.beq_eq_decide_eq]
@[simp] theorem gNe_int (i j : Int) : gNe (.int i) (.int j) = some (.bool (!decide (i = j))) := by
  unfold gNe SeqAt.shaped
  simp [PyData.canLay0, PyData.depth, PyData.eqv, Bool.beq_eq_decide_eq]
theorem gEq_nil {a : O} (ha : a.h ≤ 31) : gEq (enc a) (.tuple []) = some (.bool (decide (a = .z))) := gEq_enc (b := .z) ha (by decide)
theorem gNe_nil {a : O} (ha : a.h ≤ 31) : gNe (enc a) (.tuple []) = some (.bool (!decide (a = .z))) := gNe_enc (b := .z) ha (by decide)
/-! ### the order -/
def cmp : O → O → Int
  | .z, .z => 0
  | .z, .c _ _ _ => -1
  | .c _ _ _, .z => 1
  | .c e n r, .c e' n' r' => if cmp e e' ≠ 0 then cmp e e' else if n ≠ n' then (if n > n' then 1 else -1) else cmp r r'
theorem cmp_range : ∀ a b : O, cmp a b = -1 ∨ cmp a b = 0 ∨ cmp a b = 1
  | .z, .z => by simp [cmp]
  | .z, .c _ _ _ => by simp [cmp]
  | .c _ _ _, .z => by simp [cmp]
  | .c e n r, .c e' n' r' => by
    unfold cmp
    have h1 := cmp_range e e'
    have h2 := cmp_range r r'
    split
    · exact h1
    · split
      · split <;> simp
      · exact h2
theorem cmp_eq : ∀ a b : O, cmp a b = 0 ↔ a = b
  | .z, .z => by simp [cmp]
  | .z, .c _ _ _ => by simp [cmp]
  | .c _ _ _, .z => by simp [cmp]
  | .c e n r, .c e' n' r' => by
    unfold cmp
    have h1 := cmp_eq e e'
    have h2 := cmp_eq r r'
    by_cases c1 : cmp e e' = 0
    · rw [if_neg (by simp [c1])]
      by_cases c2 : n = n'
      · rw [if_neg (by simp [c2]), h2]
        simp [h1.mp c1, c2]
      · rw [if_pos c2]
        constructor
        · intro h; split at h <;> simp at h
        · intro h; exact absurd (O.c.inj h).2.1 c2
    · rw [if_pos c1]
      constructor
      · intro h; exact absurd h c1
      · intro h; exact absurd (h1.mpr (O.c.inj h).1) c1
@[simp] theorem cmp_self (a : O) : cmp a a = 0 := (cmp_eq a a).mpr rfl
theorem cmp_neg : ∀ a b : O, cmp b a = - cmp a b
  | .z, .z => by simp [cmp]
  | .z, .c _ _ _ => by simp [cmp]
  | .c _ _ _, .z => by simp [cmp]
  | .c e n r, .c e' n' r' => by
    unfold cmp
    have h1 := cmp_neg e e'
    have h2 := cmp_neg r r'
    by_cases c1 : cmp e e' = 0
    · have c1' : cmp e' e = 0 := by rw [h1, c1]; rfl
      rw [if_neg (show ¬ cmp e e' ≠ 0 from fun h => h c1), if_neg (show ¬ cmp e' e ≠ 0 from fun h => h c1')]
      by_cases c2 : n = n'
      · rw [if_neg (show ¬ n ≠ n' from fun h => h c2), if_neg (show ¬ n' ≠ n from fun h => h c2.symm), h2]
      · rw [if_pos (show n ≠ n' from c2), if_pos (show n' ≠ n from fun h => c2 h.symm)]
        by_cases c3 : n > n'
        · rw [if_pos c3, if_neg (show ¬ n' > n by omega)]
        · rw [if_neg c3, if_pos (show n' > n by omega)]; rfl
    · have c1' : cmp e' e ≠ 0 := by rw [h1]; omega
      rw [if_pos c1, if_pos c1', h1]
end Nm
set_option Elab.async false
set_option linter.all false
set_option maxRecDepth 100000
namespace Pu
open PySem
-- k01 k02 k15 k16 k23 k24 k26 k27 k28 k29 k30 k31 k32 k33 k34 k35 k36 k37 k41 k43 k44 k45 k47 k48 k49 k51 k52 k54 k55 k56 k57 k58 k61 k62 k63 k64 k65 k66 k68 k69 k71 k72 k73 k75 k76 k81 k82 k83 k84 slots 1 params 1
def G_is_whole (S : Nat → List PyData → R PyData) : Vars → Out :=
  (sRet (eAnd (eIsi "int" (eVar 0)) (eAnd (eNot (eIsi "bool" (eVar 0))) (eOp gGe (eVar 0) (eC (.int 0))))))
-- k01 k16 k23 k24 k26 k27 k28 k29 k30 k61 k62 k63 k64 k65 k66 k68 k69 k71 k72 k73 k75 k76 k81 k83 k84 slots 1 params 1
def G_whole (c0 : Nat) (S : Nat → List PyData → R PyData) : Vars → Out :=
  (sRet (eFn (S c0) (aCons (eTup aNil) (aCons (eVar 0) aNil))))
-- k01 k62 k63 k64 k65 k66 k69 k71 k72 k73 k75 k76 k83 k84 slots 0 params 0
def G_endless (c0 c1 : Nat) (S : Nat → List PyData → R PyData) : Vars → Out :=
  (sRet (eFn (fun ds => S c1 (ds ++ [.int 1])) (aCons (eFn (S c0) (aCons (eC (.int 1)) aNil)) aNil)))
-- k01 k16 k23 k24 k26 k27 k28 k29 k30 k31 k32 k33 k34 k35 k36 k37 k41 k44 k45 k47 k48 k61 k62 k63 k64 k65 k66 k68 k69 k71 k72 k73 k75 k76 k81 k82 k83 k84 slots 2 params 2
def G_raised (c0 : Nat) (S : Nat → List PyData → R PyData) : Vars → Out :=
  (sSeq (sIf (tNotR (tTru (eFn (S c0) (aCons (eVar 1) aNil)))) (sRaise "NoNumber") sNil)
    (sSeq (sIf (tOf (eOp gEq (eVar 1) (eC (.int 0)))) (sRet (eTup aNil)) sNil)
    (sRet (eTup (aCons (eTup (aCons (eVar 0) (aCons (eVar 1) aNil))) aNil)))))
-- k01 k02 k03 k04 k11 k12 k13 k14 k15 k16 k71 k72 k73 k75 k76 slots 5 params 2
def G_l_compare (c0 : Nat) (S : Nat → List PyData → R PyData) : Vars → Out :=
  (sSeq (sFor [] (iZipD (aCons (eVar 0) (aCons (eVar 1) aNil))) (gtTup 2 (gtCons (gtName 2) (gtCons (gtName 3) gtNil))) (sSeq (sSet [] 4 (eFn (S c0) (aCons (eOp gIx (eVar 2) (eC (.int 0))) (aCons (eOp gIx (eVar 3) (eC (.int 0))) aNil)))) (sSeq (sIf (tOf (eOp gEq (eVar 4) (eC (.int 0)))) (sSet [] 4 (eOp gSub (eOp gGt (eOp gIx (eVar 2) (eC (.int 1))) (eOp gIx (eVar 3) (eC (.int 1)))) (eOp gLt (eOp gIx (eVar 2) (eC (.int 1))) (eOp gIx (eVar 3) (eC (.int 1)))))) sNil) (sIf (tOf (eOp gNe (eVar 4) (eC (.int 0)))) (sRet (eVar 4)) sNil))))
    (sRet (eOp gSub (eOp gGt (eCall gLen (aCons (eVar 0) aNil)) (eCall gLen (aCons (eVar 1) aNil))) (eOp gLt (eCall gLen (aCons (eVar 0) aNil)) (eCall gLen (aCons (eVar 1) aNil))))))
-- k01 k02 k03 k04 k11 k12 k13 k14 k15 k16 k71 k72 k73 k75 k76 slots 7 params 3
def G_l_with (c0 : Nat) (S : Nat → List PyData → R PyData) : Vars → Out :=
  (sSeq (sSetLc [] 3 (nLc (iSeq (eVar 0)) (gtName 6) (tOf (eOp gGt (eFn (S c0) (aCons (eOp gIx (eVar 6) (eC (.int 0))) (aCons (eVar 1) aNil))) (eC (.int 0)))) (eVar 6) [6]))
    (sSeq (sSetLc [] 4 (nLc (iSeq (eVar 0)) (gtName 6) (tOf (eOp gLt (eFn (S c0) (aCons (eOp gIx (eVar 6) (eC (.int 0))) (aCons (eVar 1) aNil))) (eC (.int 0)))) (eVar 6) [6]))
    (sSeq (sSet [] 5 (eCall gSum (aCons (eLc (iSeq (eVar 0)) (gtName 6) (tOf (eOp gEq (eOp gIx (eVar 6) (eC (.int 0))) (eVar 1))) (eOp gIx (eVar 6) (eC (.int 1))) [6]) aNil)))
    (sRet (eCall gTuple (aCons (eOp gAdd (eOp gAdd (eVar 3) (eLst (aCons (eTup (aCons (eVar 1) (aCons (eOp gAdd (eVar 5) (eVar 2)) aNil))) aNil))) (eVar 4)) aNil))))))
-- k01 k02 k03 k04 k11 k12 k13 k14 k15 k16 k71 k72 k73 k75 k76 slots 2 params 1
def G_l_size (c0 : Nat) (S : Nat → List PyData → R PyData) : Vars → Out :=
  (sRet (eOp gAdd (eCall gLen (aCons (eVar 0) aNil)) (eCall gSum (aCons (eLc (iSeq (eVar 0)) (gtName 1) tYesD (eFn (S c0) (aCons (eOp gIx (eVar 1) (eC (.int 0))) aNil)) [1]) aNil))))
-- k01 k02 k03 k04 k11 k12 k13 k14 k15 k16 slots 7 params 2
def G_l_next (c0 c1 : Nat) (S : Nat → List PyData → R PyData) : Vars → Out :=
  (sSeq (sSet [] 1 (eOp gMod (eVar 1) (eOp gPow (eC (.int 10)) (eC (.int 60)))))
    (sSeq (sSet [] 2 (eOp gIx (eVar 0) (eOp gMod (eOp gMod (eOp gMul (eVar 1) (eC (.int 48271))) (eC (.int 1000003))) (eCall gLen (aCons (eVar 0) aNil)))))
    (sSeq (sSet [] 3 (eOp gIx (eVar 0) (eOp gMod (eOp gMod (eOp gMul (eVar 1) (eC (.int 69621))) (eC (.int 999983))) (eCall gLen (aCons (eVar 0) aNil)))))
    (sSeq (sSet [] 4 (eOp gAdd (eC (.int 1)) (eOp gIx (eLst (aCons (eOp gMod (eOp gDiv (eVar 1) (eC (.int 8))) (eC (.int 5))) (aCons (eOp gMod (eOp gDiv (eVar 1) (eC (.int 16))) (eOp gPow (eC (.int 10)) (eC (.int 50)))) aNil))) (eOp gMod (eOp gDiv (eVar 1) (eC (.int 8))) (eC (.int 2))))))
    (sSeq (sSet [] 5 (eOp gMod (eVar 1) (eC (.int 8))))
    (sSeq (sIf (tOf (eOp gEq (eVar 5) (eC (.int 4)))) (sRet (eSl (eVar 2) oNone (oSome (eNeg (eC (.int 1)))))) sNil)
    (sSeq (sIf (tOf (eOp gEq (eVar 5) (eC (.int 5)))) (sRet (eSl (eVar 2) (oSome (eNeg (eC (.int 1)))) oNone)) sNil)
    (sSeq (sIf (tOf (eOp gEq (eVar 5) (eC (.int 6)))) (sRet (eTup (aCons (eTup (aCons (eTup aNil) (aCons (eVar 4) aNil))) aNil))) sNil)
    (sSeq (sIf (tAndR (tOf (eOp gEq (eVar 5) (eC (.int 7)))) (tOf (eOp gNe (eVar 2) (eTup aNil)))) (sSeq (sSet [] 3 (eOp gIx (eOp gIx (eVar 2) (eNeg (eC (.int 1)))) (eC (.int 0)))) (sSet [] 4 (eC (.int 1)))) sNil)
    (sSeq (sSet [] 6 (eFn (S c0) (aCons (eVar 2) (aCons (eVar 3) (aCons (eVar 4) aNil)))))
    (sSeq (sIf (tOf (eOp gGt (eFn (S c1) (aCons (eVar 6) aNil)) (eC (.int 24)))) (sRet (eVar 2)) sNil)
    (sRet (eVar 6)))))))))))))
-- k01 k02 k03 k04 k11 k12 k13 k14 k15 k16 k72 k75 k76 slots 3 params 1
def G_l_pool (c0 : Nat) (S : Nat → List PyData → R PyData) : Vars → Out :=
  (sSeq (sNew [1] 1 (nLst (aCons (eTup aNil) (aCons (eTup (aCons (eTup (aCons (eTup aNil) (aCons (eC (.int 1)) aNil))) aNil)) (aCons (eTup (aCons (eTup (aCons (eTup (aCons (eTup (aCons (eTup aNil) (aCons (eC (.int 1)) aNil))) aNil)) (aCons (eC (.int 1)) aNil))) aNil)) aNil)))))
    (sSeq (sFor [1] (iSeq (eSl (eVar 0) oNone (oSome (eC (.int 24))))) (gtName 2) (sApp 1 (eFn (S c0) (aCons (eVar 1) (aCons (eVar 2) aNil)))))
    (sRet (eVar 1))))
-- k01 k04 k11 k13 k14 k15 k71 k72 slots 2 params 1
def G_l_pure (c0 : Nat) (S : Nat → List PyData → R PyData) : Vars → Out :=
  (sSeq (sFor [] (iSeq (eVar 0)) (gtName 1) (sIf (tOrR (tTru (eIsi "bool" (eOp gIx (eVar 1) (eC (.int 1))))) (tNotR (tTru (eFn (S c0) (aCons (eOp gIx (eVar 1) (eC (.int 0))) aNil))))) (sRet (eC (.bool false))) sNil))
    (sRet (eC (.bool true))))
-- k01 k04 k11 k13 k14 k71 k72 slots 2 params 2
def G_l_is (c0 : Nat) (S : Nat → List PyData → R PyData) : Vars → Out :=
  (sRet (eAnd (eIsi "tuple" (eVar 0)) (eAnd (eOp gEq (eVar 0) (eVar 1)) (eFn (S c0) (aCons (eVar 0) aNil)))))
-- k02 k03 k11 k12 k13 k14 k15 k16 k21 k22 k23 k24 k25 k26 k27 k28 k29 k30 k32 k33 k34 k41 k44 k45 k47 k48 k61 k62 k63 k64 k65 k66 k68 k69 k71 k72 k73 k75 k76 k81 k82 k83 k84 slots 5 params 2
def G_compare (c0 : Nat) (S : Nat → List PyData → R PyData) : Vars → Out :=
  (sSeq (sFor [] (iZipD (aCons (eVar 0) (aCons (eVar 1) aNil))) (gtTup 2 (gtCons (gtName 2) (gtCons (gtName 3) gtNil))) (sSeq (sSet [] 4 (eFn (S c0) (aCons (eOp gIx (eVar 2) (eC (.int 0))) (aCons (eOp gIx (eVar 3) (eC (.int 0))) aNil)))) (sSeq (sIf (tOf (eOp gNe (eVar 4) (eC (.int 0)))) (sRet (eVar 4)) sNil) (sIf (tOf (eOp gNe (eOp gIx (eVar 2) (eC (.int 1))) (eOp gIx (eVar 3) (eC (.int 1))))) (sRet (eIf (tOf (eOp gGt (eOp gIx (eVar 2) (eC (.int 1))) (eOp gIx (eVar 3) (eC (.int 1))))) (eC (.int 1)) (eNeg (eC (.int 1))))) sNil))))
    (sSeq (sIf (tOf (eOp gEq (eCall gLen (aCons (eVar 0) aNil)) (eCall gLen (aCons (eVar 1) aNil)))) (sRet (eC (.int 0))) sNil)
    (sRet (eIf (tOf (eOp gGt (eCall gLen (aCons (eVar 0) aNil)) (eCall gLen (aCons (eVar 1) aNil)))) (eC (.int 1)) (eNeg (eC (.int 1)))))))
-- k02 slots 3 params 1
def G_is_number (c0 c1 c2 : Nat) (S : Nat → List PyData → R PyData) : Vars → Out :=
  (sSeq (sIf (tNotR (tTru (eIsi "tuple" (eVar 0)))) (sRet (eC (.bool false))) sNil)
    (sSeq (sFor [] (iSeq (eVar 0)) (gtName 1) (sSeq (sIf (tOrR (tNotR (tTru (eIsi "tuple" (eVar 1)))) (tOf (eOp gNe (eCall gLen (aCons (eVar 1) aNil)) (eC (.int 2))))) (sRet (eC (.bool false))) sNil) (sIf (tOrR (tNotR (tTru (eFn (S c0) (aCons (eOp gIx (eVar 1) (eC (.int 1))) aNil)))) (tOrR (tOf (eOp gEq (eOp gIx (eVar 1) (eC (.int 1))) (eC (.int 0)))) (tNotR (tTru (eFn (S c1) (aCons (eOp gIx (eVar 1) (eC (.int 0))) aNil)))))) (sRet (eC (.bool false))) sNil)))
    (sSeq (sFor [] (iRange (aCons (eC (.int 1)) (aCons (eCall gLen (aCons (eVar 0) aNil)) aNil))) (gtName 2) (sIf (tOf (eOp gNe (eFn (S c2) (aCons (eOp gIx (eOp gIx (eVar 0) (eOp gSub (eVar 2) (eC (.int 1)))) (eC (.int 0))) (aCons (eOp gIx (eOp gIx (eVar 0) (eVar 2)) (eC (.int 0))) aNil))) (eC (.int 1)))) (sRet (eC (.bool false))) sNil))
    (sRet (eC (.bool true))))))
-- k03 k04 slots 2 params 2
def G_l_side (S : Nat → List PyData → R PyData) : Vars → Out :=
  (sRet (eAnd (eIsi "int" (eVar 0)) (eAnd (eNot (eIsi "bool" (eVar 0))) (eOp gEq (eVar 0) (eVar 1)))))
-- k03 slots 3 params 2
def G_l_both (c0 c1 c2 : Nat) (S : Nat → List PyData → R PyData) : Vars → Out :=
  (sSeq (sSet [] 2 (eFn (S c0) (aCons (eVar 0) (aCons (eVar 1) aNil))))
    (sRet (eAnd (eFn (S c1) (aCons (eFn (S c2) (aCons (eVar 0) (aCons (eVar 1) aNil))) (aCons (eVar 2) aNil))) (eFn (S c1) (aCons (eFn (S c2) (aCons (eVar 1) (aCons (eVar 0) aNil))) (aCons (eOp gSub (eC (.int 0)) (eVar 2)) aNil))))))
-- k11 k12 k13 k14 k15 k21 k22 k23 k24 k25 k26 k27 k28 k29 k30 k32 k61 k62 k63 k64 k65 k66 k69 k71 k72 k73 k75 k76 k81 k83 k84 slots 7 params 2
def G_plus (c0 : Nat) (S : Nat → List PyData → R PyData) : Vars → Out :=
  (sSeq (sIf (tOf (eOp gEq (eVar 1) (eTup aNil))) (sRet (eVar 0)) sNil)
    (sSeq (sAsg [] (gtTup 2 (gtCons (gtName 2) (gtCons (gtName 3) gtNil))) (eOp gIx (eVar 1) (eC (.int 0))))
    (sSeq (sSetLc [] 4 (nLc (iSeq (eVar 0)) (gtName 6) (tOf (eOp gEq (eFn (S c0) (aCons (eOp gIx (eVar 6) (eC (.int 0))) (aCons (eVar 2) aNil))) (eC (.int 1)))) (eVar 6) [6]))
    (sSeq (sSet [] 5 (eCall gLen (aCons (eVar 4) aNil)))
    (sSeq (sIf (tAndR (tOf (eOp gLt (eVar 5) (eCall gLen (aCons (eVar 0) aNil)))) (tOf (eOp gEq (eOp gIx (eOp gIx (eVar 0) (eVar 5)) (eC (.int 0))) (eVar 2)))) (sAug [] 3 gAddI (eOp gIx (eOp gIx (eVar 0) (eVar 5)) (eC (.int 1)))) sNil)
    (sRet (eOp gAdd (eOp gAdd (eCall gTuple (aCons (eVar 4) aNil)) (eTup (aCons (eTup (aCons (eVar 2) (aCons (eVar 3) aNil))) aNil))) (eSl (eVar 1) (oSome (eC (.int 1))) oNone))))))))
-- k11 k13 k71 slots 6 params 2
def G_l_plus (c0 : Nat) (S : Nat → List PyData → R PyData) : Vars → Out :=
  (sSeq (sIf (tOf (eOp gEq (eVar 1) (eTup aNil))) (sRet (eVar 0)) sNil)
    (sSeq (sSet [] 2 (eOp gIx (eOp gIx (eVar 1) (eC (.int 0))) (eC (.int 0))))
    (sSeq (sSetLc [] 3 (nLc (iSeq (eVar 0)) (gtName 5) (tOf (eOp gGt (eFn (S c0) (aCons (eOp gIx (eVar 5) (eC (.int 0))) (aCons (eVar 2) aNil))) (eC (.int 0)))) (eVar 5) [5]))
    (sSeq (sSet [] 4 (eCall gSum (aCons (eLc (iSeq (eVar 0)) (gtName 5) (tOf (eOp gEq (eOp gIx (eVar 5) (eC (.int 0))) (eVar 2))) (eOp gIx (eVar 5) (eC (.int 1))) [5]) aNil)))
    (sRet (eOp gAdd (eOp gAdd (eCall gTuple (aCons (eVar 3) aNil)) (eTup (aCons (eTup (aCons (eVar 2) (aCons (eOp gAdd (eVar 4) (eOp gIx (eOp gIx (eVar 1) (eC (.int 0))) (eC (.int 1)))) aNil))) aNil))) (eSl (eVar 1) (oSome (eC (.int 1))) oNone)))))))
-- k12 k61 k62 k63 k64 k65 k66 k69 k81 k83 slots 3 params 1
def G_total (c0 : Nat) (S : Nat → List PyData → R PyData) : Vars → Out :=
  (sSeq (sSet [] 1 (eTup aNil))
    (sSeq (sFor [] (iSeq (eVar 0)) (gtName 2) (sSet [] 1 (eFn (S c0) (aCons (eVar 1) (aCons (eVar 2) aNil)))))
    (sRet (eVar 1))))
-- k13 k16 k23 k24 k26 k27 k28 k29 k30 k33 k34 k71 k72 k73 k75 k76 k81 k84 slots 5 params 2
def G_minus (c0 : Nat) (S : Nat → List PyData → R PyData) : Vars → Out :=
  (sSeq (sIf (tOf (eOp gEq (eFn (S c0) (aCons (eVar 1) (aCons (eVar 0) aNil))) (eC (.int 1)))) (sRaise "TooHigh") sNil)
    (sSeq (sSet [] 2 (eC (.int 0)))
    (sSeq (whileL (tAndR (tOf (eOp gLt (eVar 2) (eCall gLen (aCons (eVar 1) aNil)))) (tOf (eOp gEq (eOp gIx (eVar 0) (eVar 2)) (eOp gIx (eVar 1) (eVar 2))))) (sAug [] 2 gAddI (eC (.int 1))) wfuel)
    (sSeq (sIf (tOf (eOp gEq (eVar 2) (eCall gLen (aCons (eVar 1) aNil)))) (sRet (eSl (eVar 0) (oSome (eVar 2)) oNone)) sNil)
    (sSeq (sAsg [] (gtTup 2 (gtCons (gtName 3) (gtCons (gtName 4) gtNil))) (eOp gIx (eVar 0) (eVar 2)))
    (sSeq (sIf (tOf (eOp gEq (eVar 3) (eOp gIx (eOp gIx (eVar 1) (eVar 2)) (eC (.int 0))))) (sRet (eOp gAdd (eTup (aCons (eTup (aCons (eVar 3) (aCons (eOp gSub (eVar 4) (eOp gIx (eOp gIx (eVar 1) (eVar 2)) (eC (.int 1)))) aNil))) aNil)) (eSl (eVar 0) (oSome (eOp gAdd (eVar 2) (eC (.int 1)))) oNone))) sNil)
    (sRet (eSl (eVar 0) (oSome (eVar 2)) oNone))))))))
-- k14 k25 k41 k44 k45 k47 k48 k63 k64 k65 k66 k68 k69 k75 k76 k82 k83 k84 slots 6 params 2
def G_merged (c0 : Nat) (S : Nat → List PyData → R PyData) : Vars → Out :=
  (sSeq (sNew [2] 2 (nLst aNil))
    (sSeq (sSetM [2] 3 (eC (.int 0)))
    (sSeq (sSetM [2] 4 (eC (.int 0)))
    (sSeq (whileL (tAndR (tOf (eOp gLt (eVar 3) (eCall gLen (aCons (eVar 0) aNil)))) (tOf (eOp gLt (eVar 4) (eCall gLen (aCons (eVar 1) aNil))))) (sSeq (sSetM [2] 5 (eFn (S c0) (aCons (eOp gIx (eOp gIx (eVar 0) (eVar 3)) (eC (.int 0))) (aCons (eOp gIx (eOp gIx (eVar 1) (eVar 4)) (eC (.int 0))) aNil)))) (sIf (tOf (eOp gEq (eVar 5) (eC (.int 1)))) (sSeq (sAppM [2] 2 (eOp gIx (eVar 0) (eVar 3))) (sAug [2] 3 gAddI (eC (.int 1)))) (sIf (tOf (eOp gEq (eVar 5) (eNeg (eC (.int 1))))) (sSeq (sAppM [2] 2 (eOp gIx (eVar 1) (eVar 4))) (sAug [2] 4 gAddI (eC (.int 1)))) (sSeq (sAppM [2] 2 (eTup (aCons (eOp gIx (eOp gIx (eVar 0) (eVar 3)) (eC (.int 0))) (aCons (eOp gAdd (eOp gIx (eOp gIx (eVar 0) (eVar 3)) (eC (.int 1))) (eOp gIx (eOp gIx (eVar 1) (eVar 4)) (eC (.int 1)))) aNil)))) (sSeq (sAug [2] 3 gAddI (eC (.int 1))) (sAug [2] 4 gAddI (eC (.int 1)))))))) wfuel)
    (sRet (eOp gAdd (eOp gAdd (eCall gTuple (aCons (eVar 2) aNil)) (eSl (eVar 0) (oSome (eVar 3)) oNone)) (eSl (eVar 1) (oSome (eVar 4)) oNone)))))))
-- k15 k75 k76 k84 slots 2 params 2
def G_divisor (S : Nat → List PyData → R PyData) : Vars → Out :=
  (sSeq (whileL (tOf (eOp gNe (eVar 1) (eC (.int 0)))) (sPar [] 0 1 (aCons (eVar 1) (aCons (eOp gMod (eVar 0) (eVar 1)) aNil))) wfuel)
    (sRet (eVar 0)))
-- k15 k75 k76 k84 slots 3 params 2
def G_common (c0 : Nat) (S : Nat → List PyData → R PyData) : Vars → Out :=
  (sSeq (sIf (tAndR (tOf (eOp gEq (eVar 0) (eTup aNil))) (tOf (eOp gEq (eVar 1) (eTup aNil)))) (sRet (eTup (aCons (eTup aNil) (aCons (eC (.int 0)) (aCons (eC (.int 0)) aNil))))) sNil)
    (sSeq (sIf (tOf (eOp gEq (eVar 1) (eTup aNil))) (sRet (eTup (aCons (eVar 0) (aCons (eC (.int 1)) (aCons (eC (.int 0)) aNil))))) sNil)
    (sSeq (sIf (tOf (eOp gEq (eVar 0) (eTup aNil))) (sRet (eTup (aCons (eVar 1) (aCons (eC (.int 0)) (aCons (eC (.int 1)) aNil))))) sNil)
    (sSeq (sIf (tOrR (tOf (eOp gNe (eOp gIx (eOp gIx (eVar 0) (eC (.int 0))) (eC (.int 0))) (eOp gIx (eOp gIx (eVar 1) (eC (.int 0))) (eC (.int 0))))) (tOf (eOp gNe (eSl (eVar 0) (oSome (eC (.int 1))) oNone) (eSl (eVar 1) (oSome (eC (.int 1))) oNone)))) (sRet (eC .none)) sNil)
    (sSeq (sSet [] 2 (eFn (S c0) (aCons (eOp gIx (eOp gIx (eVar 0) (eC (.int 0))) (eC (.int 1))) (aCons (eOp gIx (eOp gIx (eVar 1) (eC (.int 0))) (eC (.int 1))) aNil))))
    (sRet (eTup (aCons (eOp gAdd (eTup (aCons (eTup (aCons (eOp gIx (eOp gIx (eVar 0) (eC (.int 0))) (eC (.int 0))) (aCons (eVar 2) aNil))) aNil)) (eSl (eVar 0) (oSome (eC (.int 1))) oNone)) (aCons (eOp gDiv (eOp gIx (eOp gIx (eVar 0) (eC (.int 0))) (eC (.int 1))) (eVar 2)) (aCons (eOp gDiv (eOp gIx (eOp gIx (eVar 1) (eC (.int 0))) (eC (.int 1))) (eVar 2)) aNil))))))))))
-- k21 k22 k23 k24 k25 k26 k27 k28 k29 k30 k31 k32 k33 k34 k35 k36 k37 k41 k42 k43 k44 k45 k46 k48 k49 k51 k52 k53 k54 k55 k56 k57 k58 k61 k62 k63 k65 k66 k67 k68 k69 k83 k84 slots 2 params 2
def G_l_cell_at (S : Nat → List PyData → R PyData) : Vars → Out :=
  (sSeq (sIf (tOf (eOp gLt (eVar 1) (eCall gLen (aCons (eVar 0) aNil)))) (sRet (eOp gIx (eVar 0) (eVar 1))) sNil)
    (sRet (eC (.int 0))))
end Pu
set_option Elab.async false
set_option linter.all false
set_option maxRecDepth 100000
set_option maxHeartbeats 4000000
namespace Nm
open PySem Pu
abbrev Fn := List PyData → R PyData
/-- by the first places alone -/
def lead (e : O) (n : Int) (e' : O) (n' : Int) : Int := if cmp e e' ≠ 0 then cmp e e' else if n ≠ n' then (if n > n' then 1 else -1) else 0
def first : O → O → Int
  | .c e n r, .c e' n' r' => if lead e n e' n' ≠ 0 then lead e n e' n' else first r r'
  | _, _ => 0
def lenc (a b : O) : Int := if a.len > b.len then 1 else if a.len < b.len then -1 else 0
theorem cmp_first : ∀ a b : O, cmp a b = if first a b ≠ 0 then first a b else lenc a b
  | .z, .z => by simp [cmp, first, lenc, O.len]
  | .z, .c _ _ _ => by simp [cmp, first, lenc, O.len]
  | .c _ _ _, .z => by simp [cmp, first, lenc, O.len]
  | .c e n r, .c e' n' r' => by
    have h2 := cmp_first r r'
    unfold cmp first lead
    by_cases c1 : cmp e e' = 0
    · by_cases c2 : n = n'
      · simp only [c1, c2, ne_eq, not_true_eq_false, if_false, h2, lenc, O.len]
        simp
      · by_cases c3 : n > n' <;> simp [c1, c2, c3]
    · simp [c1]
abbrev gt2 := gtTup 2 (gtCons (gtName 2) (gtCons (gtName 3) gtNil))
theorem zip_loop {k : Nat} {g : Vars → Out} {A B : Option PyData} (hg : ∀ (e : O) (n : Int) (e' : O) (n' : Int) (s : Option PyData), e.h < k → ∃ s', g [A, B, some (encP (e, n)), some (encP (e', n')), s] =
      if lead e n e' n' ≠ 0 then .rt (.int (lead e n e' n')) else .nx [A, B, some (encP (e, n)), some (encP (e', n')), s']) :
    ∀ (a b : O) (x y s : Option PyData), a.h < k + 1 → ∃ x' y' s', forL gt2 g (zipD (encL a) (encL b)) [A, B, x, y, s] = if first a b ≠ 0 then .rt (.int (first a b)) else .nx [A, B, x', y', s']
  | .z, b, x, y, s, _ => ⟨x, y, s, by cases b <;> simp [zipD, first]⟩
  | .c e n r, .z, x, y, s, _ => ⟨x, y, s, by simp [zipD, first]⟩
  | .c e n r, .c e' n' r', x, y, s, h => by
    have he : e.h < k := by have : max (e.h + 1) r.h < k + 1 := h; omega
    have hr : r.h < k + 1 := by have : max (e.h + 1) r.h < k + 1 := h; omega
    obtain ⟨s1, e1⟩ := hg e n e' n' s he
    obtain ⟨x2, y2, s2, e2⟩ := zip_loop hg r r' (some (encP (e, n))) (some (encP (e', n'))) s1 hr
    by_cases c : lead e n e' n' = 0
    · refine ⟨x2, y2, s2, ?_⟩
      rw [if_neg (show ¬ lead e n e' n' ≠ 0 from fun z => z c)] at e1
      have ef : first (.c e n r) (.c e' n' r') = first r r' := by
        show (if lead e n e' n' ≠ 0 then lead e n e' n' else first r r') = _
        rw [if_neg (show ¬ lead e n e' n' ≠ 0 from fun z => z c)]
      rw [ef, ← e2]
      show forL gt2 g (.tuple [encP (e, n), encP (e', n')] :: zipD (encL r) (encL r')) _ = _
      rw [u_forL_c]
      simp only [u_gtTup, u_gtCons, u_gtName, u_gtNil, List.length_cons, List.length_nil, Nat.zero_add, Nat.reduceAdd, if_true, Option.bind_some, List.set_cons_succ, List.set_cons_zero, e1]
    · refine ⟨x, y, s, ?_⟩
      rw [if_pos c] at e1
      have ef : first (.c e n r) (.c e' n' r') = lead e n e' n' := by
        show (if lead e n e' n' ≠ 0 then lead e n e' n' else first r r') = _
        rw [if_pos c]
      rw [ef, if_pos c]
      show forL gt2 g (.tuple [encP (e, n), encP (e', n')] :: zipD (encL r) (encL r')) _ = _
      rw [u_forL_c]
      simp only [u_gtTup, u_gtCons, u_gtName, u_gtNil, List.length_cons, List.length_nil, Nat.zero_add, Nat.reduceAdd, if_true, Option.bind_some, List.set_cons_succ, List.set_cons_zero, e1]
theorem zip_then {k : Nat} {g K : Vars → Out} {A B x y s : Option PyData} {a b : O} {out : Out} (hg : ∀ (e : O) (n : Int) (e' : O) (n' : Int) (s : Option PyData), e.h < k → ∃ s', g [A, B, some (encP (e, n)), some (encP (e', n')), s] =
      if lead e n e' n' ≠ 0 then .rt (.int (lead e n e' n')) else .nx [A, B, some (encP (e, n)), some (encP (e', n')), s']) (ha : a.h < k + 1) (h1 : first a b ≠ 0 → .rt (.int (first a b)) = out) (h2 : first a b = 0 → ∀ x y s, K [A, B, x, y, s] = out) :
    (forL gt2 g (zipD (encL a) (encL b)) [A, B, x, y, s]).then K = out := by
  obtain ⟨x', y', s', e⟩ := zip_loop hg a b x y s ha
  rw [e]
  by_cases c : first a b = 0
  · rw [if_neg (fun z => z c)]; exact h2 c x' y' s'
  · rw [if_pos c]; exact h1 c
def CmpOk (k : Nat) (F : Fn) : Prop := ∀ a b : O, a.h < k → F [enc a, enc b] = .ok (.int (cmp a b))
theorem compare_step {S : Nat → Fn} {c0 k : Nat} (h : CmpOk k (S c0)) : CmpOk (k + 1) (fun ds => fnD 5 (G_compare c0 S) ds) := by
  intro a b ha
  refine fnD_of ?_
  unfold G_compare
  simp only [u_sSeq, u_sFor, mask_nil, u_iZipD, u_aCons, u_aNil, u_eVar, List.map_cons, List.map_nil, List.length_cons, List.length_nil, List.cons_append, List.nil_append, List.replicate, List.getD_cons_zero, List.getD_cons_succ, R.of_some, R.bind_ok, R.run_ok, Nat.reduceAdd, Nat.reduceSub, Nat.zero_add]
  refine zip_then (k := k) (fun e n e' n' s he => ⟨some (.int (cmp e e')), ?_⟩) ha (fun c => ?_) (fun c x y s => ?_)
  · have hc := h e e' he
    by_cases c1 : cmp e e' = 0
    · by_cases c2 : n = n'
      · simp [hc, c1, c2, lead]
      · by_cases c3 : n > n' <;> simp [hc, c1, c2, c3, lead]
    · simp [hc, c1, lead]
  · rw [cmp_first, if_pos c]
  · rw [cmp_first, if_neg (fun z => z c)]
    by_cases c1 : a.len = b.len
    · simp [lenc, c1]
    · by_cases c2 : a.len > b.len
      · simp [lenc, c1, c2]; omega
      · have c3 : a.len < b.len := by omega
        simp [lenc, c1, c2, c3]; omega
theorem l_compare_step {S : Nat → Fn} {c0 k : Nat} (h : CmpOk k (S c0)) : CmpOk (k + 1) (fun ds => fnD 5 (G_l_compare c0 S) ds) := by
  intro a b ha
  refine fnD_of ?_
  unfold G_l_compare
  simp only [u_sSeq, u_sFor, mask_nil, u_iZipD, u_aCons, u_aNil, u_eVar, List.map_cons, List.map_nil, List.length_cons, List.length_nil, List.cons_append, List.nil_append, List.replicate, List.getD_cons_zero, List.getD_cons_succ, R.of_some, R.bind_ok, R.run_ok, Nat.reduceAdd, Nat.reduceSub, Nat.zero_add]
  refine zip_then (k := k) (fun e n e' n' s he => ⟨some (.int (lead e n e' n')), ?_⟩) ha (fun c => ?_) (fun c x y s => ?_)
  · have hc := h e e' he
    by_cases c1 : cmp e e' = 0
    · rcases Int.lt_trichotomy n n' with c2 | c2 | c2
      · have c3 : ¬ n' < n := by omega
        have c4 : n ≠ n' := by omega
        simp [hc, c1, c2, c3, c4, lead]
      · simp [hc, c1, c2, lead]
      · have c3 : ¬ n < n' := by omega
        have c4 : n ≠ n' := by omega
        simp [hc, c1, c2, c3, c4, lead]
    · simp [hc, c1, lead]
  · rw [cmp_first, if_pos c]
  · rw [cmp_first, if_neg (fun z => z c)]
    rcases Nat.lt_trichotomy a.len b.len with c2 | c2 | c2
    · have c3 : ¬ b.len < a.len := by omega
      simp [lenc, c2, c3]
    · simp [lenc, c2]
    · have c3 : ¬ a.len < b.len := by omega
      simp [lenc, c2, c3]
end Nm
set_option Elab.async false
set_option linter.all false
set_option maxRecDepth 100000
set_option maxHeartbeats 4000000
namespace Nm
open PySem Pu O
/-! ### the order is one -/
abbrev Lt (a b : O) : Prop := cmp a b = -1
theorem cmp_gt {a b : O} : cmp a b = 1 ↔ cmp b a = -1 := by rw [cmp_neg a b]; omega
theorem cmp_c {e : O} {n : Int} {r e' : O} {n' : Int} {r' : O} : cmp (.c e n r) (.c e' n' r') = -1 ↔ cmp e e' = -1 ∨ (e = e' ∧ (n < n' ∨ (n = n' ∧ cmp r r' = -1))) := by
  have h0 : cmp (.c e n r) (.c e' n' r') = if cmp e e' ≠ 0 then cmp e e' else if n ≠ n' then (if n > n' then 1 else -1) else cmp r r' := rfl
  rw [h0]
  by_cases c1 : cmp e e' = 0
  · have c1' := (cmp_eq e e').mp c1
    rw [if_neg (show ¬ cmp e e' ≠ 0 from fun h => h c1)]
    by_cases c2 : n = n'
    · rw [if_neg (show ¬ n ≠ n' from fun h => h c2)]
      subst c1' c2
      simp
    · rw [if_pos c2]
      by_cases c3 : n > n'
      · rw [if_pos c3]
        constructor
        · intro h; cases h
        · rintro (h | ⟨_, h | ⟨h, _⟩⟩)
          · rw [c1] at h; cases h
          · omega
          · exact absurd h c2
      · rw [if_neg c3]
        exact ⟨fun _ => .inr ⟨c1', .inl (by omega)⟩, fun _ => rfl⟩
  · rw [if_pos c1]
    constructor
    · exact .inl
    · rintro (h | ⟨h, _⟩)
      · exact h
      · exact absurd ((cmp_eq e e').mpr h) c1
theorem lt_trans : ∀ {a b d : O}, cmp a b = -1 → cmp b d = -1 → cmp a d = -1
  | a, .z, _, h, _ => by cases a <;> simp [cmp] at h
  | .z, .c _ _ _, .z, _, h => by simp [cmp] at h
  | .z, .c _ _ _, .c _ _ _, _, _ => rfl
  | .c _ _ _, .c _ _ _, .z, _, h => by simp [cmp] at h
  | .c e n r, .c e' n' r', .c e'' n'' r'', h1, h2 => by
    rw [cmp_c] at h1 h2 ⊢
    rcases h1 with h1 | ⟨rfl, h1⟩
    · rcases h2 with h2 | ⟨rfl, h2⟩
      · exact .inl (lt_trans h1 h2)
      · exact .inl h1
    · rcases h2 with h2 | ⟨rfl, h2⟩
      · exact .inl h2
      · refine .inr ⟨rfl, ?_⟩
        rcases h1 with h1 | ⟨rfl, h1⟩ <;> rcases h2 with h2 | ⟨rfl, h2⟩
        · exact .inl (by omega)
        · exact .inl h1
        · exact .inl h2
        · exact .inr ⟨rfl, lt_trans h1 h2⟩
theorem lt_irrefl (a : O) : ¬ cmp a a = -1 := by rw [cmp_self]; decide
theorem gt_trans {a b d : O} (h1 : cmp a b = 1) (h2 : cmp b d = 1) : cmp a d = 1 := cmp_gt.mpr (lt_trans (cmp_gt.mp h2) (cmp_gt.mp h1))
theorem cmp_tri (a b : O) : cmp a b = -1 ∨ a = b ∨ cmp a b = 1 := by
  rcases cmp_range a b with h | h | h
  · exact .inl h
  · exact .inr (.inl ((cmp_eq a b).mp h))
  · exact .inr (.inr h)
/-! ### true numbers -/
def NF : O → Prop
  | .z => True
  | .c e n r => NF e ∧ 1 ≤ n ∧ NF r ∧ ∀ p ∈ r.parts, cmp e p.1 = 1
theorem nf_parts : ∀ a : O, NF a ↔ a.parts.Pairwise (fun p q => cmp p.1 q.1 = 1) ∧ ∀ p ∈ a.parts, NF p.1 ∧ 1 ≤ p.2
  | .z => by simp [NF, O.parts]
  | .c e n r => by
    have ih := nf_parts r
    show NF e ∧ 1 ≤ n ∧ NF r ∧ (∀ p ∈ r.parts, cmp e p.1 = 1) ↔ _
    simp only [O.parts, List.pairwise_cons, List.mem_cons, forall_eq_or_imp]
    rw [ih]
    constructor
    · rintro ⟨h1, h2, ⟨h3, h4⟩, h5⟩; exact ⟨⟨h5, h3⟩, ⟨h1, h2⟩, h4⟩
    · rintro ⟨⟨h5, h3⟩, ⟨h1, h2⟩, h4⟩; exact ⟨h1, h2, ⟨h3, h4⟩, h5⟩
theorem nf_of {ps : List (O × Int)} : NF (of ps) ↔ ps.Pairwise (fun p q => cmp p.1 q.1 = 1) ∧ ∀ p ∈ ps, NF p.1 ∧ 1 ≤ p.2 := by rw [nf_parts, parts_of]
/-- the greatest times -/
def mx : O → Int
  | .z => 0
  | .c e n r => max n (max (mx e) (mx r))
theorem mx_nonneg : ∀ a : O, 0 ≤ mx a
  | .z => Int.le_refl _
  | .c e n r => by
    have := mx_nonneg r
    show 0 ≤ max n (max (mx e) (mx r))
    omega
theorem mx_parts {B : Int} (hB : 0 ≤ B) : ∀ a : O, mx a ≤ B ↔ ∀ p ∈ a.parts, p.2 ≤ B ∧ mx p.1 ≤ B
  | .z => by simp [mx, O.parts, hB]
  | .c e n r => by
    have ih := mx_parts hB r
    simp only [mx, O.parts, List.mem_cons, forall_eq_or_imp]
    rw [← ih]
    constructor
    · intro h; exact ⟨⟨by omega, by omega⟩, by omega⟩
    · rintro ⟨⟨h1, h2⟩, h3⟩; omega
theorem mx_of {B : Int} (hB : 0 ≤ B) {ps : List (O × Int)} : mx (of ps) ≤ B ↔ ∀ p ∈ ps, p.2 ≤ B ∧ mx p.1 ≤ B := by rw [mx_parts hB, parts_of]
theorem h_parts {k : Nat} : ∀ a : O, a.h ≤ k ↔ ∀ p ∈ a.parts, p.1.h + 1 ≤ k
  | .z => by simp [O.h, O.parts]
  | .c e n r => by
    have ih := h_parts (k := k) r
    simp only [O.h, O.parts, List.mem_cons, forall_eq_or_imp]
    rw [← ih]
    omega
theorem h_of {k : Nat} {ps : List (O × Int)} : (of ps).h ≤ k ↔ ∀ p ∈ ps, p.1.h + 1 ≤ k := by rw [h_parts, parts_of]
theorem len_of (ps : List (O × Int)) : (of ps).len = ps.length := by rw [← len_parts, parts_of]
theorem size_of : ∀ ps : List (O × Int), (of ps).size = ps.length + (ps.map fun p => p.1.size).sum
  | [] => rfl
  | (e, n) :: r => by
    have ih := size_of r
    show 1 + e.size + (of r).size = _
    rw [ih]
    simp only [List.length_cons, List.map_cons, List.sum_cons]
    omega
/-- parts of a list of parts taken -/
theorem nf_sub {ps qs : List (O × Int)} (h : NF (of ps)) (s : qs.Sublist ps) : NF (of qs) := by
  rw [nf_of] at h ⊢
  exact ⟨h.1.sublist s, fun p hp => h.2 p (s.subset hp)⟩
theorem size_sub : ∀ {ps qs : List (O × Int)}, qs.Sublist ps → (of qs).size ≤ (of ps).size
  | _, _, .slnil => Nat.le_refl _
  | _, _, .cons (l₂ := l) a s => by
    have := size_sub s
    show _ ≤ 1 + a.1.size + (of l).size
    omega
  | _, _, .cons₂ (l₁ := l1) (l₂ := l2) a s => by
    have := size_sub s
    show 1 + a.1.size + (of l1).size ≤ 1 + a.1.size + (of l2).size
    omega
theorem mx_sub {B : Int} (hB : 0 ≤ B) {ps qs : List (O × Int)} (h : mx (of ps) ≤ B) (s : qs.Sublist ps) : mx (of qs) ≤ B := by
  rw [mx_of hB] at h ⊢
  exact fun p hp => h p (s.subset hp)
/-! ### a part put in -/
def above (a e : O) : List (O × Int) := a.parts.filter fun p => decide (0 < cmp p.1 e)
def under (a e : O) : List (O × Int) := a.parts.filter fun p => decide (cmp p.1 e < 0)
def sameN (a e : O) : Int := ((a.parts.filter fun p => decide (p.1 = e)).map fun p => p.2).sum
def putP (a e : O) (m : Int) : O := of (above a e ++ [(e, sameN a e + m)] ++ under a e)
theorem sameN_bound {a e : O} {B : Int} (h : NF a) (hB : 0 ≤ B) (hm : mx a ≤ B) : 0 ≤ sameN a e ∧ sameN a e ≤ B := by
  unfold sameN
  have h1 := (nf_parts a).mp h
  have h2 := (mx_parts hB a).mp hm
  have key : ∀ ps : List (O × Int), ps.Pairwise (fun p q => cmp p.1 q.1 = 1) → (∀ p ∈ ps, NF p.1 ∧ 1 ≤ p.2) → (∀ p ∈ ps, p.2 ≤ B ∧ mx p.1 ≤ B) → 0 ≤ ((ps.filter fun p => decide (p.1 = e)).map fun p => p.2).sum ∧ ((ps.filter fun p => decide (p.1 = e)).map fun p => p.2).sum ≤ B := by
    intro ps
    induction ps with
    | nil => intro _ _ _; simp [hB]
    | cons p ps ih =>
      intro g1 g2 g3
      rw [List.pairwise_cons] at g1
      have g3' := g3 p (by simp)
      have g2' := g2 p (by simp)
      by_cases c : p.1 = e
      · have none : ps.filter (fun p => decide (p.1 = e)) = [] := by
          rw [List.filter_eq_nil_iff]
          intro q hq
          have := g1.1 q hq
          rw [c] at this
          simp only [decide_eq_true_eq]
          intro z
          rw [z, cmp_self] at this
          cases this
        rw [List.filter_cons_of_pos (by simp [c]), none]
        simp
        omega
      · rw [List.filter_cons_of_neg (by simp [c])]
        exact ih g1.2 (fun q hq => g2 q (List.mem_cons_of_mem _ hq)) (fun q hq => g3 q (List.mem_cons_of_mem _ hq))
  exact key _ h1.1 h1.2 h2
theorem putP_nf {a e : O} {m : Int} (ha : NF a) (he : NF e) (hm : 1 ≤ m) : NF (putP a e m) := by
  unfold putP
  have h1 := (nf_parts a).mp ha
  have hs := (sameN_bound (e := e) ha (mx_nonneg a) (Int.le_refl _)).1
  rw [nf_of]
  have hu : ∀ p ∈ above a e, p ∈ a.parts ∧ cmp p.1 e = 1 := fun p hp => by
    have := List.mem_filter.mp hp
    refine ⟨this.1, ?_⟩
    have h2 := of_decide_eq_true this.2
    rcases cmp_range p.1 e with h | h | h <;> omega
  have hd : ∀ p ∈ under a e, p ∈ a.parts ∧ cmp p.1 e = -1 := fun p hp => by
    have := List.mem_filter.mp hp
    refine ⟨this.1, ?_⟩
    have h2 := of_decide_eq_true this.2
    rcases cmp_range p.1 e with h | h | h <;> omega
  refine ⟨?_, fun p hp => ?_⟩
  · rw [List.pairwise_append, List.pairwise_append]
    refine ⟨⟨h1.1.sublist List.filter_sublist, by simp, fun p hp q hq => ?_⟩, h1.1.sublist List.filter_sublist, fun p hp q hq => ?_⟩
    · simp only [List.mem_singleton] at hq
      subst hq
      exact (hu p hp).2
    · have h3 : cmp e q.1 = 1 := cmp_gt.mpr (hd q hq).2
      rcases List.mem_append.mp hp with hp | hp
      · exact gt_trans (hu p hp).2 h3
      · simp only [List.mem_singleton] at hp
        subst hp
        exact h3
  · rcases List.mem_append.mp hp with hp | hp
    · rcases List.mem_append.mp hp with hp | hp
      · exact h1.2 p (hu p hp).1
      · simp only [List.mem_singleton] at hp
        subst hp
        exact ⟨he, by show 1 ≤ sameN a e + m; omega⟩
    · exact h1.2 p (hd p hp).1
theorem putP_mx {a e : O} {m B : Int} (ha : NF a) (hB : 0 ≤ B) (h1 : mx a ≤ B) (h2 : mx e ≤ B) (hm : 0 ≤ m) : mx (putP a e m) ≤ B + m := by
  unfold putP
  have hs := (sameN_bound (e := e) ha hB h1).2
  have hp1 := (mx_parts hB a).mp h1
  rw [mx_of (by omega)]
  intro p hp
  rcases List.mem_append.mp hp with hp | hp
  · rcases List.mem_append.mp hp with hp | hp
    · have := hp1 p (List.mem_filter.mp hp).1
      omega
    · simp only [List.mem_singleton] at hp
      subst hp
      show sameN a e + m ≤ _ ∧ mx e ≤ _
      omega
  · have := hp1 p (List.mem_filter.mp hp).1
    omega
theorem putP_h {a e : O} {m : Int} {k : Nat} (h1 : a.h ≤ k) (h2 : e.h + 1 ≤ k) : (putP a e m).h ≤ k := by
  unfold putP
  have hp1 := (h_parts a).mp h1
  rw [h_of]
  intro p hp
  rcases List.mem_append.mp hp with hp | hp
  · rcases List.mem_append.mp hp with hp | hp
    · exact hp1 p (List.mem_filter.mp hp).1
    · simp only [List.mem_singleton] at hp
      subst hp
      exact h2
  · exact hp1 p (List.mem_filter.mp hp).1
theorem putP_len {a e : O} {m : Int} : (putP a e m).len ≤ 2 * a.len + 1 := by
  unfold putP
  rw [len_of, List.length_append, List.length_append]
  have h1 : (above a e).length ≤ a.len := by rw [← len_parts]; exact List.length_filter_le _ _
  have h2 : (under a e).length ≤ a.len := by rw [← len_parts]; exact List.length_filter_le _ _
  simp only [List.length_singleton]
  omega
end Nm
set_option Elab.async false
set_option linter.all false
set_option maxRecDepth 100000
set_option maxHeartbeats 4000000
namespace Nm
open PySem Pu O L2
/-! ### comprehensions over parts -/
theorem lc_gen {α : Type} {E : α → PyData} {ρ : Vars} {i : Nat} {tt : Vars → R Bool} {f : Vars → R PyData} {P : α → Bool} {F : α → PyData} : ∀ {ps : List α}, (∀ p ∈ ps, tt (ρ.set i (some (E p))) = .ok (P p)) → (∀ p ∈ ps, P p = true → f (ρ.set i (some (E p))) = .ok (F p)) →
    lcL (gtName i) tt f ρ (ps.map E) = .ok ((ps.filter P).map F)
  | [], _, _ => rfl
  | p :: ps, h1, h2 => by
    have ih := lc_gen (ps := ps) (fun q hq => h1 q (List.mem_cons_of_mem _ hq)) (fun q hq => h2 q (List.mem_cons_of_mem _ hq))
    rw [List.map_cons, u_lcL_c]
    simp only [u_gtName, h1 p (by simp), R.bind_ok]
    cases c : P p with
    | true =>
      rw [if_pos rfl, h2 p (by simp) c, R.bind_ok, ih, R.bind_ok, List.filter_cons_of_pos c, List.map_cons]
    | false =>
      rw [if_neg Bool.false_ne_true, ih, List.filter_cons_of_neg (by simp [c])]
theorem lc_parts {a : O} {ρ : Vars} {i : Nat} {tt : Vars → R Bool} {f : Vars → R PyData} {P : O × Int → Bool} {F : O × Int → PyData} (h1 : ∀ p ∈ a.parts, tt (ρ.set i (some (encP p))) = .ok (P p)) (h2 : ∀ p ∈ a.parts, P p = true → f (ρ.set i (some (encP p))) = .ok (F p)) :
    lcL (gtName i) tt f ρ (encL a) = .ok ((a.parts.filter P).map F) := by
  rw [encL_parts]
  exact lc_gen h1 h2
theorem lc_partsT {a : O} {ρ : Vars} {i : Nat} {f : Vars → R PyData} {F : O × Int → PyData} (h2 : ∀ p ∈ a.parts, f (ρ.set i (some (encP p))) = .ok (F p)) :
    lcL (gtName i) tYesD f ρ (encL a) = .ok (a.parts.map F) := by
  rw [lc_parts (P := fun _ => true) (fun _ _ => rfl) fun p hp _ => h2 p hp, List.filter_eq_self.mpr fun _ _ => rfl]
theorem intsOf_mapF {α : Type} (F : α → Int) (ps : List α) : intsOf (ps.map fun p => PyData.int (F p)) = some (ps.map F) := by
  have := intsOf_map (ps.map F)
  rw [List.map_map] at this
  exact this
theorem part_mem_h {a : O} {p : O × Int} (hp : p ∈ a.parts) : p.1.h + 1 ≤ a.h := (h_parts a).mp (Nat.le_refl _) p hp
abbrev WithOk (k : Nat) (F : Fn) : Prop := ∀ (a e : O) (m : Int), a.h < k → a.h ≤ 30 → e.h ≤ 30 → a.len ≤ 1000 → F [enc a, enc e, .int m] = .ok (enc (putP a e m))
theorem l_with_step {S : Nat → Fn} {c0 k : Nat} (hc : CmpOk k (S c0)) : WithOk (k + 1) (fun ds => fnD 7 (G_l_with c0 S) ds) := by
  intro a e m hk ha he hl
  refine fnD_of ?_
  unfold G_l_with
  have e1 : lcL (gtName 6) (tOf (eOp gGt (eFn (S c0) (aCons (eOp gIx (eVar 6) (eC (.int 0))) (aCons (eVar 1) aNil))) (eC (.int 0)))) (eVar 6) [some (enc a), some (enc e), some (.int m), none, none, none, none] (encL a) = .ok ((above a e).map encP) := by
    refine lc_parts (P := fun p => decide (0 < cmp p.1 e)) (fun p hp => ?_) fun p hp _ => by simp
    have := part_mem_h hp
    have h1 := hc p.1 e (by omega)
    simp [h1]
  have e2 : lcL (gtName 6) (tOf (eOp gLt (eFn (S c0) (aCons (eOp gIx (eVar 6) (eC (.int 0))) (aCons (eVar 1) aNil))) (eC (.int 0)))) (eVar 6) [some (enc a), some (enc e), some (.int m), some (.list ((above a e).map encP)), none, none, none] (encL a) = .ok ((under a e).map encP) := by
    refine lc_parts (P := fun p => decide (cmp p.1 e < 0)) (fun p hp => ?_) fun p hp _ => by simp
    have := part_mem_h hp
    have h1 := hc p.1 e (by omega)
    simp [h1]
  have e3 : lcL (gtName 6) (tOf (eOp gEq (eOp gIx (eVar 6) (eC (.int 0))) (eVar 1))) (eOp gIx (eVar 6) (eC (.int 1))) [some (enc a), some (enc e), some (.int m), some (.list ((above a e).map encP)), some (.list ((under a e).map encP)), none, none] (encL a) = .ok ((a.parts.filter fun p => decide (p.1 = e)).map fun p => PyData.int p.2) := by
    refine lc_parts (P := fun p => decide (p.1 = e)) (fun p hp => ?_) fun p hp _ => by simp
    have := part_mem_h hp
    have h1 := gEq_enc (a := p.1) (b := e) (by omega) (by omega)
    simp [h1]
  have lu : (above a e).length ≤ a.len := by rw [← len_parts]; exact List.length_filter_le _ _
  have lw : (under a e).length ≤ a.len := by rw [← len_parts]; exact List.length_filter_le _ _
  have lx : (a.parts.filter fun p => decide (p.1 = e)).length ≤ a.len := by rw [← len_parts]; exact List.length_filter_le _ _
  have s1 : (above a e).length < sizeLine := sz1000' (by omega)
  have s2 : (under a e).length < sizeLine := sz1000' (by omega)
  have s3 : (a.parts.filter fun p => decide (p.1 = e)).length < sizeLine := sz1000' (by omega)
  have s4 : (above a e).length + 1 ≤ sizeLine := sz1000 (by omega)
  have s5 : (above a e).length + 1 + (under a e).length ≤ sizeLine := sz1000 (by omega)
  have es := intsOf_mapF (fun p : O × Int => p.2) (a.parts.filter fun p => decide (p.1 = e))
  have ep : encL (putP a e m) = (above a e).map encP ++ (encP (e, sameN a e + m) :: (under a e).map encP) := by
    unfold putP
    rw [encL_of]
    simp
  simp [e1, e2, e3, s1, s2, s3, s4, s5, gSum, es, ep, sameN]
abbrev SizeOk (k : Nat) (F : Fn) : Prop := ∀ a : O, a.h < k → a.size ≤ 1000 → F [enc a] = .ok (.int a.size)
theorem size_part : ∀ {a : O} {p : O × Int}, p ∈ a.parts → p.1.size ≤ a.size
  | .c e n r, p, hp => by
    rcases List.mem_cons.mp (show p ∈ (e, n) :: r.parts from hp) with h | h
    · subst h; show e.size ≤ 1 + e.size + r.size; omega
    · have := size_part h; show _ ≤ 1 + e.size + r.size; omega
theorem size_sum (a : O) : (a.size : Int) = a.len + (a.parts.map fun p => (p.1.size : Int)).sum := by
  induction a with
  | z => rfl
  | c e n r _ ih =>
    show ((1 + e.size + r.size : Nat) : Int) = ((r.len + 1 : Nat) : Int) + ((e.size : Int) :: r.parts.map fun p => (p.1.size : Int)).sum
    rw [List.sum_cons]
    omega
theorem l_size_step {S : Nat → Fn} {c0 k : Nat} (hs : SizeOk k (S c0)) : SizeOk (k + 1) (fun ds => fnD 2 (G_l_size c0 S) ds) := by
  intro a hk hz
  refine fnD_of ?_
  unfold G_l_size
  have e1 : lcL (gtName 1) tYesD (eFn (S c0) (aCons (eOp gIx (eVar 1) (eC (.int 0))) aNil)) [some (enc a), none] (encL a) = .ok (a.parts.map fun p => PyData.int p.1.size) := by
    refine lc_partsT fun p hp => ?_
    have h1 := part_mem_h hp
    have h2 := size_part hp
    have h3 := hs p.1 (by omega) (by omega)
    simp [h3]
  have es := intsOf_mapF (fun p : O × Int => (p.1.size : Int)) a.parts
  have hl := len_le_size a
  have s1 : a.len < sizeLine := sz1000' (by omega)
  have s2 : a.parts.length < sizeLine := by rw [len_parts]; exact s1
  simp [e1, s1, s2, gSum, es, ← size_sum]
/-! ### the pool -/
theorem log2_lt {i : Int} {n : Nat} (h : i.natAbs < 2 ^ n) (h0 : 0 < n) : i.natAbs.log2 < n := PySem.Flt.log2_lt_of h0 h
theorem cMul_of {i j : Int} (a b : Nat) (ha : i.natAbs < 2 ^ a) (hb : j.natAbs < 2 ^ b) (h0 : 0 < a) (h1 : 0 < b) (h : a + b ≤ 1000000) : cMul i j = true := by
  have x := log2_lt ha h0
  have y := log2_lt hb h1
  unfold cMul
  exact decide_eq_true (by omega)
theorem cDiv_of {i j : Int} (b : Nat) (hp : 0 < j) (hb : j.natAbs < 2 ^ b) (h0 : 0 < b) (h9 : b ≤ 9000) : cDiv i j = true := by
  have y := log2_lt hb h0
  unfold cDiv
  simp [hp]
  omega
theorem cMod_of {i j : Int} (h : 0 < j) : cMod i j = true := decide_eq_true h
/-- great powers, as letters -/
def E60 : Int := 10 ^ 60
def E50 : Int := 10 ^ 50
theorem E60_eq : E60 = 10 ^ 60 := rfl
theorem E50_eq : E50 = 10 ^ 50 := rfl
@[simp high] theorem p60 : gPow (.int 10) (.int 60) = some (.int E60) := by
  show (if cPow 10 60 = true then some (PyData.int (10 ^ (60 : Int).toNat)) else none) = _
  rw [if_pos (by decide +kernel)]; rfl
@[simp high] theorem p50 : gPow (.int 10) (.int 50) = some (.int E50) := by
  show (if cPow 10 50 = true then some (PyData.int (10 ^ (50 : Int).toNat)) else none) = _
  rw [if_pos (by decide +kernel)]; rfl
/-- what stands in the pool -/
structure PO (B : Int) (a : O) : Prop where
  nf : NF a
  sz : a.size ≤ 24
  mx : mx a ≤ B
theorem PO.hh {B : Int} {a : O} (p : PO B a) : a.h ≤ 24 := Nat.le_trans (h_le_size a) p.sz
theorem PO.ll {B : Int} {a : O} (p : PO B a) : a.len ≤ 24 := Nat.le_trans (len_le_size a) p.sz
theorem atI_map {ps : List O} {i : Int} (h0 : 0 ≤ i) (h1 : i < ps.length) : ∃ a ∈ ps, atI (ps.map enc) i = some (enc a) ∧ ps[i.toNat]? = some a := by
  obtain ⟨j, rfl⟩ := Int.eq_ofNat_of_zero_le h0
  have hk : j < ps.length := by omega
  refine ⟨ps[j], List.getElem_mem hk, L2.atI_nat ?_, ?_⟩
  · rw [List.getElem?_map, List.getElem?_eq_getElem hk]; rfl
  · rw [Int.toNat_natCast, List.getElem?_eq_getElem hk]
/-- t[:-1], t[-1:] of parts -/
theorem sIx_m1 (n d : Nat) : HT.sIx n d (some (-1)) = n - 1 := by
  show (if (-1 : Int) < 0 then ((-1 : Int) + (n : Int)).toNat else min (-1 : Int).toNat n) = _
  rw [if_pos (by decide)]
  omega
theorem cut_init {α : Type} (xs : List α) : cutD xs none (some (-1)) = xs.take (xs.length - 1) := by
  unfold cutD
  rw [sIx_m1]
  show (xs.drop 0).take (xs.length - 1 - 0) = _
  simp
theorem cut_tail {α : Type} (xs : List α) : cutD xs (some (-1)) none = xs.drop (xs.length - 1) := by
  unfold cutD
  rw [sIx_m1]
  show (xs.drop (xs.length - 1)).take (xs.length - (xs.length - 1)) = _
  apply List.take_of_length_le
  simp
theorem encL_take (a : O) (n : Nat) : (encL a).take n = encL (of (a.parts.take n)) := by rw [encL_of, encL_parts, List.map_take]
theorem encL_drop (a : O) (n : Nat) : (encL a).drop n = encL (of (a.parts.drop n)) := by rw [encL_of, encL_parts, List.map_drop]
theorem PO.sub {B : Int} (hB : 0 ≤ B) {a : O} (p : PO B a) {qs : List (O × Int)} (s : qs.Sublist a.parts) : PO B (of qs) where
  nf := nf_sub (ps := a.parts) (by rw [of_parts]; exact p.nf) s
  sz := by have := size_sub s; rw [of_parts] at this; have := p.sz; omega
  mx := mx_sub hB (by rw [of_parts]; exact p.mx) s
theorem part_last {a : O} (ha : a ≠ .z) : ∃ p ∈ a.parts, atI (encL a) (-1) = some (encP p) ∧ a.parts.getLast? = some p := by
  have hne : a.parts ≠ [] := fun e => ha (parts_inj (b := .z) e)
  refine ⟨a.parts.getLast hne, List.getLast_mem hne, ?_, List.getLast?_eq_getLast hne⟩
  rw [encL_parts]
  have e : a.parts.map encP = (a.parts.dropLast.map encP) ++ [encP (a.parts.getLast hne)] := by
    rw [← List.map_singleton (f := encP), ← List.map_append, List.dropLast_concat_getLast]
  rw [e]
  exact atI_last _ _
theorem size_app (ps qs : List (O × Int)) : (of (ps ++ qs)).size = (of ps).size + (of qs).size := by
  rw [size_of, size_of, size_of, List.length_append, List.map_append, List.sum_append]
  omega
theorem putP_size {a e : O} {m : Int} : (putP a e m).size ≤ 2 * a.size + e.size + 1 := by
  unfold putP
  rw [size_app, size_app]
  have h1 : (of (above a e)).size ≤ (of a.parts).size := size_sub List.filter_sublist
  have h2 : (of (under a e)).size ≤ (of a.parts).size := size_sub List.filter_sublist
  rw [of_parts] at h1 h2
  show _ + (1 + e.size + (of []).size) + _ ≤ _
  show _ + (1 + e.size + 0) + _ ≤ _
  omega
def NextOk (k : Nat) (F : Fn) : Prop := ∀ (B : Int) (ps : List O) (v : Int), 0 ≤ B → ps ≠ [] → ps.length ≤ 1000 → (∀ a ∈ ps, PO B a) → ∃ r, F [.list (ps.map enc), .int v] = .ok (enc r) ∧ PO (B + E50) r
theorem l_next_step {S : Nat → Fn} {c0 c1 k : Nat} (hk : 60 ≤ k) (hw : WithOk k (S c0)) (hs : SizeOk k (S c1)) : NextOk (k + 1) (fun ds => fnD 7 (G_l_next c0 c1 S) ds) := by
  intro B ps v hB hne hlen hp
  have e50 := E50_eq
  have e60 := E60_eq
  have hl0 : 0 < ps.length := List.length_pos_iff.mpr hne
  have hB2 : B ≤ B + E50 := by omega
  have weak : ∀ {a : O}, PO B a → PO (B + E50) a := fun p => ⟨p.nf, p.sz, Int.le_trans p.mx hB2⟩
  obtain ⟨c, hc⟩ : ∃ c : Int, v % E60 = c := ⟨_, rfl⟩
  have hc0 : 0 ≤ c := by rw [← hc]; exact Int.emod_nonneg _ (by omega)
  have hc1 : c < E60 := by rw [← hc]; exact Int.emod_lt_of_pos _ (by omega)
  have m1 : cMod v E60 = true := cMod_of (by omega)
  have m2 : cMul c 48271 = true := cMul_of 300 300 (by omega) (by omega) (by decide) (by decide) (by decide)
  have m3 : cMul c 69621 = true := cMul_of 300 300 (by omega) (by omega) (by decide) (by decide) (by decide)
  have m4 : ∀ i : Int, cMod i 1000003 = true := fun i => cMod_of (by decide)
  have m5 : ∀ i : Int, cMod i 999983 = true := fun i => cMod_of (by decide)
  have m6 : ∀ i : Int, cMod i (ps.length : Int) = true := fun i => cMod_of (by omega)
  have m7 : ∀ i : Int, cDiv i 8 = true := fun i => cDiv_of 10 (by decide) (by decide) (by decide) (by decide)
  have m8 : ∀ i : Int, cDiv i 16 = true := fun i => cDiv_of 10 (by decide) (by decide) (by decide) (by decide)
  have m9 : ∀ i : Int, cMod i 5 = true := fun i => cMod_of (by decide)
  have m10 : ∀ i : Int, cMod i 2 = true := fun i => cMod_of (by decide)
  have m11 : ∀ i : Int, cMod i 8 = true := fun i => cMod_of (by decide)
  have m12 : ∀ i : Int, cMod i E50 = true := fun i => cMod_of (by omega)
  have pl : (0 : Int) < ps.length := by omega
  obtain ⟨one, one_in, e_one, _⟩ := atI_map (ps := ps) (Int.emod_nonneg (c * 48271 % 1000003) (by omega)) (Int.emod_lt_of_pos (c * 48271 % 1000003) pl)
  obtain ⟨oth, oth_in, e_oth, _⟩ := atI_map (ps := ps) (Int.emod_nonneg (c * 69621 % 999983) (by omega)) (Int.emod_lt_of_pos (c * 69621 % 999983) pl)
  obtain ⟨m, em, hm1, hm2⟩ : ∃ m : Int, atI [PyData.int (c / 8 % 5), .int (c / 16 % E50)] (c / 8 % 2) = some (.int m) ∧ 0 ≤ m ∧ 1 + m ≤ E50 := by
    have h2 : c / 8 % 2 = 0 ∨ c / 8 % 2 = 1 := by omega
    rcases h2 with h2 | h2 <;> rw [h2]
    · exact ⟨_, atI_zero _ _, by omega, by omega⟩
    · refine ⟨_, atI_one _ _ _, Int.emod_nonneg _ (by omega), ?_⟩
      have := Int.emod_lt_of_pos (c / 16) (show (0 : Int) < E50 by omega)
      omega
  have p1 := hp one one_in
  have p2 := hp oth oth_in
  have n1 : gNe (enc one) (.tuple []) = some (.bool (!decide (one = .z))) := gNe_nil (by have := p1.hh; omega)
  suffices hh : ∃ r, G_l_next c0 c1 S ([some (.list (ps.map enc)), some (.int v), none, none, none, none, none]) = .rt (enc r) ∧ PO (B + E50) r by
    obtain ⟨r, h1, h2⟩ := hh
    exact ⟨r, fnD_of h1, h2⟩
  unfold G_l_next
  simp [hc, m1, m2, m3, m4, m5, m6, m7, m8, m9, m10, m11, m12, e_one, e_oth, em, n1]
  -- the way behind the four ways
  have tail : ∀ (e2 : O) (m2 : Int), PO B e2 → 1 ≤ m2 → m2 ≤ E50 → ∃ r, (((S c0 [enc one, enc e2, PyData.int m2]).run
      [some (.list (ps.map enc)), some (.int c), some (enc one), some (enc e2), some (.int m2), some (.int (c % 8)), none] fun d =>
        Out.nx [some (.list (ps.map enc)), some (.int c), some (enc one), some (enc e2), some (.int m2), some (.int (c % 8)), some d]).then
      (sSeq (sIf (tOf (eOp gGt (eFn (S c1) (aCons (eVar 6) aNil)) (eC (PyData.int 24)))) (sRet (eVar 2)) sNil) (sRet (eVar 6)))) = .rt (enc r) ∧ PO (B + E50) r := by
    intro e2 m2 p3 hm3 hm4
    have z1 := p1.hh
    have z2 := p1.ll
    have z3 := p1.sz
    have z4 := p3.hh
    have z5 := p3.sz
    have w1 := hw one e2 m2 (by omega) (by omega) (by omega) (by omega)
    have hs1 := putP_size (a := one) (e := e2) (m := m2)
    have hh1 := putP_h (a := one) (e := e2) (m := m2) (k := 25) (by omega) (by omega)
    have w2 := hs (putP one e2 m2) (by omega) (by omega)
    by_cases q : 24 < (putP one e2 m2).size
    · refine ⟨one, ?_, weak p1⟩
      simp [w1, w2]
      omega
    · refine ⟨putP one e2 m2, ?_, ⟨putP_nf p1.nf p3.nf hm3, by omega, ?_⟩⟩
      · simp [w1, w2]
        omega
      · have := putP_mx (a := one) (e := e2) (m := m2) p1.nf hB p1.mx p3.mx (by omega)
        omega
  by_cases q4 : c % 8 = 4
  · refine ⟨of (one.parts.take (one.len - 1)), ?_, weak (p1.sub hB (List.take_sublist _ _))⟩
    simp only [q4, if_true, cut_init, encL_take, encL_len]
  by_cases q5 : c % 8 = 5
  · refine ⟨of (one.parts.drop (one.len - 1)), ?_, weak (p1.sub hB (List.drop_sublist _ _))⟩
    simp [q5, cut_tail, encL_drop]
  by_cases q6 : c % 8 = 6
  · refine ⟨.c .z (1 + m) .z, by simp [q6], ⟨⟨trivial, by omega, trivial, by simp [O.parts]⟩, by show 1 + 0 + 0 ≤ 24; decide, ?_⟩⟩
    show max (1 + m) (max 0 0) ≤ _
    omega
  by_cases q7 : c % 8 = 7
  · by_cases qz : one = .z
    · obtain ⟨r, h1, h2⟩ := tail oth (1 + m) p2 (by omega) hm2
      refine ⟨r, ?_, h2⟩
      rw [if_neg q4, if_neg q5, if_neg q6, if_pos q7, if_pos qz]
      exact h1
    · obtain ⟨p, hpin, he, _⟩ := part_last qz
      have pp : PO B p.1 := by
        have g1 := (nf_parts one).mp p1.nf
        have g2 := (mx_parts hB one).mp p1.mx
        exact ⟨(g1.2 p hpin).1, Nat.le_trans (size_part hpin) p1.sz, (g2 p hpin).2⟩
      obtain ⟨r, h1, h2⟩ := tail p.1 1 pp (by omega) (by omega)
      refine ⟨r, ?_, h2⟩
      rw [if_neg q4, if_neg q5, if_neg q6, if_pos q7, if_neg qz, he]
      simpa using h1
  · obtain ⟨r, h1, h2⟩ := tail oth (1 + m) p2 (by omega) hm2
    refine ⟨r, ?_, h2⟩
    rw [if_neg q4, if_neg q5, if_neg q6, if_neg q7]
    exact h1
theorem cut_front {α : Type} (xs : List α) (k : Nat) : cutD xs none (some (k : Int)) = xs.take k := by
  unfold cutD
  rw [HT.sIx_nat]
  show (xs.drop 0).take (min k xs.length - 0) = _
  rw [List.drop_zero, Nat.sub_zero, List.take_eq_take_iff]
  omega
theorem pool_loop {k : Nat} {F : Fn} (hF : NextOk k F) {script : Option PyData} : ∀ (vs : List Int) (B : Int) (ps : List O) (x : Option PyData), 0 ≤ B → ps ≠ [] → ps.length + vs.length ≤ 1000 → (∀ a ∈ ps, PO B a) →
    ∃ qs y, forL (gtName 2) (sApp 1 (eFn F (aCons (eVar 1) (aCons (eVar 2) aNil)))) (vs.map .int) [script, some (.list (ps.map enc)), x] = .nx [script, some (.list ((ps ++ qs).map enc)), y] ∧ qs.length = vs.length ∧ ∀ a ∈ ps ++ qs, PO (B + vs.length * E50) a
  | [], B, ps, x, _, _, _, hp => ⟨[], x, by simp, rfl, fun a ha => by
    have := hp a (by simpa using ha)
    simpa using this⟩
  | v :: vs, B, ps, x, hB, hne, hl, hp => by
    have e50 := E50_eq
    rw [List.length_cons] at hl
    obtain ⟨r, h1, h2⟩ := hF B ps v hB hne (by omega) hp
    have hp' : ∀ a ∈ ps ++ [r], PO (B + E50) a := fun a ha => by
      rcases List.mem_append.mp ha with ha | ha
      · have := hp a ha
        exact ⟨this.nf, this.sz, by have := this.mx; omega⟩
      · simp only [List.mem_singleton] at ha; subst ha; exact h2
    obtain ⟨qs, y, g1, g2, g3⟩ := pool_loop hF (script := script) vs (B + E50) (ps ++ [r]) (some (.int v)) (by omega) (by simp) (by rw [List.length_append, List.length_singleton]; omega) hp'
    refine ⟨r :: qs, y, ?_, by rw [List.length_cons, List.length_cons, g2], fun a ha => ?_⟩
    · rw [List.map_cons, u_forL_c]
      have s1 : ps.length < sizeLine := sz1000' (by omega)
      have i1 := enc_imm r
      simp only [u_gtName, List.set_cons_succ, List.set_cons_zero, u_sApp, List.getD_cons_succ, List.getD_cons_zero, u_eFn, u_aCons, u_aNil, u_eVar, R.of_some, R.bind_ok, h1, R.run_ok, List.length_map, s1, i1, decide_true, Bool.and_self, if_true]
      rw [show ps ++ r :: qs = (ps ++ [r]) ++ qs by simp, ← g1, List.map_append, List.map_singleton]
    · have := g3 a (by simpa using ha)
      refine ⟨this.nf, this.sz, ?_⟩
      have h3 := this.mx
      have : B + E50 + (vs.length : Int) * E50 = B + ((vs.length + 1 : Nat) : Int) * E50 := by
        rw [Int.natCast_add, Int.add_mul]
        omega
      rw [List.length_cons]
      omega
/-- the pool: so many numbers -/
def PoolOk (F : Fn) : Prop := ∀ ns : List Int, ns.length ≤ 63 → ∃ ps : List O, F [.list (ns.map .int)] = .ok (.list (ps.map enc)) ∧ 3 ≤ ps.length ∧ ps.length ≤ 27 ∧ (∀ a ∈ ps, PO (25 * E50) a) ∧ ∃ qs, ps = O.z :: .c .z 1 .z :: .c (.c .z 1 .z) 1 .z :: qs
theorem l_pool_step {S : Nat → Fn} {c0 k : Nat} (h : NextOk k (S c0)) : PoolOk (fun ds => fnD 3 (G_l_pool c0 S) ds) := by
  intro ns hn
  have e50 := E50_eq
  have h0 : ∀ a ∈ [O.z, .c .z 1 .z, .c (.c .z 1 .z) 1 .z], PO 1 a := by
    intro a ha
    simp only [List.mem_cons, List.not_mem_nil, or_false] at ha
    rcases ha with rfl | rfl | rfl
    · exact ⟨trivial, by decide, by decide⟩
    · exact ⟨⟨trivial, by decide, trivial, by simp [O.parts]⟩, by decide, by decide⟩
    · exact ⟨⟨⟨trivial, by decide, trivial, by simp [O.parts]⟩, by decide, trivial, by simp [O.parts]⟩, by decide, by decide⟩
  obtain ⟨qs, y, g1, g2, g3⟩ := pool_loop h (script := some (.list (ns.map .int))) (ns.take 24) 1 [O.z, .c .z 1 .z, .c (.c .z 1 .z) 1 .z] none (by decide) (by simp) (by simp; omega) h0
  have hq : qs.length ≤ 24 := by rw [g2, List.length_take]; omega
  refine ⟨[O.z, .c .z 1 .z, .c (.c .z 1 .z) 1 .z] ++ qs, ?_, by simp, by simp; omega, fun a ha => ?_, qs, rfl⟩
  · refine fnD_of ?_
    unfold G_l_pool
    have e1 : cutD (ns.map PyData.int) none (some 24) = (ns.take 24).map .int := by
      rw [show (24 : Int) = ((24 : Nat) : Int) from rfl, cut_front, List.map_take]
    simp only [List.map_take] at g1 e1
    simp [e1]
    show (forL _ _ _ [some (.list (ns.map .int)), some (.list ([O.z, .c .z 1 .z, .c (.c .z 1 .z) 1 .z].map enc)), none]).then _ = _
    rw [g1]
    simp
  · have := g3 a ha
    refine ⟨this.nf, this.sz, ?_⟩
    have h3 := this.mx
    have h4 : ((ns.take 24).length : Int) ≤ 24 := by rw [List.length_take]; omega
    have h5 : ((ns.take 24).length : Int) * E50 ≤ 24 * E50 := Int.mul_le_mul_of_nonneg_right h4 (by omega)
    omega
end Nm
set_option Elab.async false
set_option linter.all false
set_option maxRecDepth 100000
set_option maxHeartbeats 4000000
namespace Pu
open PySem PySem.Spec PyProof.Rows L2
/-- a loop that goes on to its end -/
theorem forL_inv {gt : PyData → Vars → Option Vars} {g : Vars → Out} (I : Nat → Vars → Prop) : ∀ (ds : List PyData) (i : Nat) (ρ : Vars), I i ρ →
    (∀ (j : Nat) (d : PyData) (ρ : Vars), ds[j]? = some d → I (i + j) ρ → ∃ ρ1 ρ2, gt d ρ = some ρ1 ∧ (g ρ1 = .nx ρ2 ∨ g ρ1 = .ct ρ2) ∧ I (i + j + 1) ρ2) →
    ∃ ρ', forL gt g ds ρ = .nx ρ' ∧ I (i + ds.length) ρ'
  | [], i, ρ, h, _ => ⟨ρ, rfl, h⟩
  | d :: ds, i, ρ, h, hs => by
    obtain ⟨ρ1, ρ2, h1, h2, h3⟩ := hs 0 d ρ rfl h
    obtain ⟨ρ', h4, h5⟩ := forL_inv I ds (i + 1) ρ2 h3 fun j d ρ hd hi => by
      have := hs (j + 1) d ρ hd (by rw [show i + (j + 1) = i + 1 + j by omega]; exact hi)
      rw [show i + (j + 1) = i + 1 + j by omega] at this
      exact this
    refine ⟨ρ', ?_, by rw [List.length_cons, show i + (ds.length + 1) = i + 1 + ds.length by omega]; exact h5⟩
    rw [u_forL_c, h1]
    rcases h2 with h2 | h2 <;> simp only [h2, h4]
/-- ... over a range -/
theorem forL_rng {n : Nat} {i : Nat} {g : Vars → Out} (I : Nat → Vars → Prop) (ρ : Vars) (h : I 0 ρ)
    (hs : ∀ (j : Nat) (ρ : Vars), j < n → I j ρ → ∃ ρ2, (g (ρ.set i (some (.int (j : Nat)))) = .nx ρ2 ∨ g (ρ.set i (some (.int (j : Nat)))) = .ct ρ2) ∧ I (j + 1) ρ2) :
    ∃ ρ', forL (gtName i) g (rngD 0 n) ρ = .nx ρ' ∧ I n ρ' := by
  obtain ⟨ρ', h1, h2⟩ := forL_inv (gt := gtName i) (g := g) I (rngD 0 n) 0 ρ h fun j d ρ hd hi => by
    rw [rngD_get] at hd
    by_cases q : j < n
    · rw [if_pos q] at hd
      cases hd
      rw [Nat.zero_add] at hi ⊢
      obtain ⟨ρ2, h3, h4⟩ := hs j ρ q hi
      exact ⟨_, ρ2, rfl, by rw [show (0 : Int) + (j : Nat) = (j : Nat) by omega]; exact h3, h4⟩
    · rw [if_neg q] at hd; cases hd
  rw [rngD_len, Nat.zero_add] at h2
  exact ⟨ρ', h1, h2⟩
theorem atI_int {ns : List Int} {j : Nat} (h : j < ns.length) : ∃ v, atI (ns.map PyData.int) (j : Int) = some (.int v) := ⟨ns[j], L2.atI_nat (by rw [List.getElem?_map, List.getElem?_eq_getElem h]; rfl)⟩
end Pu
namespace Nm
open PySem PySem.Spec PyProof.Rows L2 Pu
/-- one of the pool's numbers -/
theorem atI_nth {ps : List O} {j : Nat} (h : j < ps.length) : atI (ps.map enc) (j : Int) = some (enc ps[j]) := L2.atI_nat (by rw [List.getElem?_map, List.getElem?_eq_getElem h]; rfl)
theorem atI_modP {ps : List O} (h : 0 < ps.length) (v : Int) : ∃ a ∈ ps, atI (ps.map enc) (v % (ps.length : Int)) = some (enc a) := by
  obtain ⟨a, h1, h2, _⟩ := atI_map (ps := ps) (Int.emod_nonneg v (by omega)) (Int.emod_lt_of_pos v (show (0 : Int) < ps.length by omega))
  exact ⟨a, h1, h2⟩
def SideOk (F : Fn) : Prop := ∀ i j : Int, F [.int i, .int j] = .ok (.bool (decide (i = j)))
theorem l_side_step (S : Nat → Fn) : SideOk (fun ds => fnD 2 (G_l_side S) ds) := by
  intro i j
  refine fnD_of ?_
  unfold G_l_side
  simp [isiB]
/-- the cell of this place, else d; below 10 ** 60 -/
def cellD (d : Int) (ns : List Int) (j : Nat) : Int := match ns[j]? with
  | some v => v % E60
  | none => d
abbrev cellAt (ns : List Int) (j : Nat) : Int := cellD 5 ns j
theorem cellD_lt {d : Int} (h0 : 0 ≤ d) (h1 : d < 1000) (ns : List Int) (j : Nat) : 0 ≤ cellD d ns j ∧ cellD d ns j < E60 := by
  unfold cellD
  have e := E60_eq
  split
  · exact ⟨Int.emod_nonneg _ (by omega), Int.emod_lt_of_pos _ (by omega)⟩
  · omega
theorem cellAt_lt (ns : List Int) (j : Nat) : 0 ≤ cellAt ns j ∧ cellAt ns j < E60 := cellD_lt (by decide) (by decide) ns j
/-- the first rows of a law's turn -/
theorem cell_head (d : Int) (ns : List Int) (j : Nat) (W : Vars → Out) (p b : Option PyData) (t : Vars) :
    sSeq (sSet [] 3 (eC (.int d))) (sSeq (sIf (tOf (eOp gLt (eVar 2) (eCall gLen (aCons (eVar 0) aNil)))) (sSet [] 3 (eOp gMod (eOp gIx (eVar 0) (eVar 2)) (eOp gPow (eC (.int 10)) (eC (.int 60))))) sNil) W)
      (some (.list (ns.map .int)) :: p :: some (.int (j : Nat)) :: b :: t) = W (some (.list (ns.map .int)) :: p :: some (.int (j : Nat)) :: some (.int (cellD d ns j)) :: t) := by
  have m5 : ∀ i : Int, cMod i E60 = true := fun i => cMod_of (by have e := E60_eq; omega)
  by_cases q : j < ns.length
  · have hv : atI (ns.map PyData.int) (j : Int) = some (.int ns[j]) := L2.atI_nat (by rw [List.getElem?_map, List.getElem?_eq_getElem q]; rfl)
    have hc : cellD d ns j = ns[j] % E60 := by unfold cellD; rw [List.getElem?_eq_getElem q]
    have q' : (j : Int) < (ns.length : Int) := by omega
    rw [hc, u_sSeq]
    simp only [u_sSet0, u_eC, R.run_ok, Out.then_nx, List.set_cons_zero, List.set_cons_succ]
    rw [u_sSeq]
    simp only [u_sSet0, u_eC, R.run_ok, Out.then_nx, u_sIf, u_tOf, u_eOp, u_eVar, u_eCall, u_aCons, u_aNil, R.of_some, R.bind_ok, List.set_cons_zero, List.set_cons_succ, List.getD_cons_zero, List.getD_cons_succ, u_gLen_l, List.length_map, u_gCmp, q', decide_true, if_true, hv, u_gIx_l, p60]
    simp only [u_gInt, m5, if_true, R.of_some, R.run_ok, Out.then_nx]
  · have hc : cellD d ns j = d := by unfold cellD; rw [List.getElem?_eq_none (by omega)]
    have q' : ¬ (j : Int) < (ns.length : Int) := by omega
    rw [hc, u_sSeq]
    simp only [u_sSet0, u_eC, R.run_ok, Out.then_nx, List.set_cons_zero, List.set_cons_succ]
    rw [u_sSeq]
    simp only [u_sSet0, u_eC, R.run_ok, Out.then_nx, u_sIf, u_tOf, u_eOp, u_eVar, u_eCall, u_aCons, u_aNil, R.of_some, R.bind_ok, List.set_cons_zero, List.set_cons_succ, List.getD_cons_zero, List.getD_cons_succ, u_gLen_l, List.length_map, u_gCmp, q', decide_false, Bool.false_eq_true, if_false, u_sNil]
theorem atI_part {a : O} (h : 0 < a.len) (v : Int) : ∃ p ∈ a.parts, atI (encL a) (v % (a.len : Int)) = some (encP p) := by
  have h0 : 0 ≤ v % (a.len : Int) := Int.emod_nonneg v (by omega)
  have h1 : v % (a.len : Int) < a.len := Int.emod_lt_of_pos v (by omega)
  obtain ⟨j, hj⟩ := Int.eq_ofNat_of_zero_le h0
  rw [hj] at h1 ⊢
  have hl : j < a.parts.length := by rw [O.len_parts]; omega
  refine ⟨a.parts[j], List.getElem_mem hl, ?_⟩
  rw [encL_parts]
  exact L2.atI_nat (by rw [List.getElem?_map, List.getElem?_eq_getElem hl]; rfl)
/-- one of the pool, one more: bounds of the numbers -/
theorem cell_mul {c k : Int} (c0 : 0 ≤ c ∧ c < E60) (h0 : 0 ≤ k) (h : k < 10 ^ 9) : cMul c k = true := by
  have e := E60_eq
  exact cMul_of 300 300 (by omega) (by omega) (by decide) (by decide) (by decide)
theorem cMod_len {ps : List O} (h : 3 ≤ ps.length) (i : Int) : cMod i (ps.length : Int) = true := cMod_of (by omega)
theorem okI_len {ps : List O} (h : ps.length ≤ 27) : okI (ps.length : Int) = true := okI_small (by omega) (by omega)
/-- the last rows of a law with a loop over the pool -/
theorem pool_for {ns : List Int} {ps : List O} {g : Vars → Out} {t : Vars} (h3 : ps.length ≤ 27) (n : Nat) (hn : t.length = n)
    (turn : ∀ (j : Nat) (b : Option PyData) (t : Vars), j < ps.length → t.length = n → ∃ b' t', t'.length = n ∧ g (some (.list (ns.map .int)) :: some (.list (ps.map enc)) :: some (.int (j : Nat)) :: b :: t) = .nx (some (.list (ns.map .int)) :: some (.list (ps.map enc)) :: some (.int (j : Nat)) :: b' :: t')) :
    (sSeq (sFor [] (iRange (aCons (eCall gLen (aCons (eVar 1) aNil)) aNil)) (gtName 2) g) (sRet (eC (.bool true)))) (some (.list (ns.map .int)) :: some (.list (ps.map enc)) :: none :: none :: t) = .rt (.bool true) := by
  have ok := okI_len h3
  obtain ⟨ρ', r1, a, b, t', ht, rfl⟩ := forL_rng (n := ps.length) (i := 2) (g := g) (fun _ ρ => ∃ a b t', t'.length = n ∧ ρ = some (.list (ns.map .int)) :: some (.list (ps.map enc)) :: a :: b :: t')
    (some (.list (ns.map .int)) :: some (.list (ps.map enc)) :: none :: none :: t) ⟨_, _, t, hn, rfl⟩ fun j ρ hj hi => by
      obtain ⟨a, b, t', ht, rfl⟩ := hi
      obtain ⟨b2, t2, l2, h⟩ := turn j b t' hj ht
      exact ⟨_, Or.inl h, ⟨_, _, _, l2, rfl⟩⟩
  simp [ok, r1]
end Nm
set_option Elab.async false
set_option linter.all false
set_option maxRecDepth 100000
set_option maxHeartbeats 4000000
namespace Nm
open PySem Pu O L2
theorem split_aux (e : O) : ∀ ps : List (O × Int), ps.Pairwise (fun p q => cmp p.1 q.1 = 1) →
    ps = (ps.filter fun p => decide (0 < cmp p.1 e)) ++ (ps.filter fun p => decide (p.1 = e)) ++ (ps.filter fun p => decide (cmp p.1 e < 0)) ∧
    ((ps.filter fun p => decide (p.1 = e)) = [] ∨ ∃ n, (ps.filter fun p => decide (p.1 = e)) = [(e, n)])
  | [], _ => ⟨rfl, Or.inl rfl⟩
  | p :: ps, h => by
    rw [List.pairwise_cons] at h
    obtain ⟨i1, i2⟩ := split_aux e ps h.2
    have low : cmp p.1 e ≤ 0 → (ps.filter fun q => decide (0 < cmp q.1 e)) = [] ∧ (ps.filter fun q => decide (q.1 = e)) = [] ∧ (ps.filter fun q => decide (cmp q.1 e < 0)) = ps := fun c => by
      have all : ∀ q ∈ ps, cmp q.1 e = -1 := fun q hq => by
        have h1 := h.1 q hq
        rcases cmp_range p.1 e with c1 | c1 | c1
        · exact lt_trans (cmp_gt.mp h1) c1
        · rw [← (cmp_eq p.1 e).mp c1]; exact cmp_gt.mp h1
        · omega
      refine ⟨?_, ?_, ?_⟩
      · rw [List.filter_eq_nil_iff]; intro q hq; have := all q hq; simp; omega
      · rw [List.filter_eq_nil_iff]; intro q hq; have := all q hq; simp; intro z; rw [z, cmp_self] at this; cases this
      · rw [List.filter_eq_self]; intro q hq; have := all q hq; simp; omega
    rcases cmp_range p.1 e with c | c | c
    · obtain ⟨l1, l2, l3⟩ := low (by omega)
      have ne : ¬ p.1 = e := fun z => by rw [z, cmp_self] at c; cases c
      rw [List.filter_cons_of_neg (by simp [c]), List.filter_cons_of_neg (by simp [ne]), List.filter_cons_of_pos (by simp [c]), l1, l2, l3]
      exact ⟨rfl, Or.inl rfl⟩
    · obtain ⟨l1, l2, l3⟩ := low (by omega)
      have eq := (cmp_eq p.1 e).mp c
      rw [List.filter_cons_of_neg (by simp [c]), List.filter_cons_of_pos (by simp [eq]), List.filter_cons_of_neg (by simp [c]), l1, l2, l3]
      exact ⟨rfl, Or.inr ⟨p.2, by rw [← eq]⟩⟩
    · have ne : ¬ p.1 = e := fun z => by rw [z, cmp_self] at c; cases c
      rw [List.filter_cons_of_pos (by simp [c]), List.filter_cons_of_neg (by simp [ne]), List.filter_cons_of_neg (by simp [c])]
      refine ⟨?_, i2⟩
      rw [List.cons_append, List.cons_append]
      exact congrArg _ i1
/-- the sum -/
def plusO (a : O) : O → O
  | .z => a
  | .c e n r => of (above a e ++ (e, sameN a e + n) :: r.parts)
theorem encL_plus {a e r : O} {n : Int} : encL (plusO a (.c e n r)) = (above a e).map encP ++ encP (e, sameN a e + n) :: encL r := by
  show encL (of _) = _
  rw [encL_of, encL_parts r, List.map_append, List.map_cons]
def PlusOk (k : Nat) (F : Fn) : Prop := ∀ a b : O, NF a → a.h < k → a.h ≤ 30 → b.h ≤ 30 → a.len ≤ 1000000 → b.len ≤ 1000000 → F [enc a, enc b] = .ok (enc (plusO a b))
theorem cut_tl {α : Type} (x : α) (r : List α) : cutD (x :: r) (some 1) none = r := by
  unfold cutD
  rw [show HT.sIx (x :: r).length 0 (some 1) = 1 from by
    have := HT.sIx_nat (x :: r).length 0 1
    rw [show ((1 : Nat) : Int) = 1 from rfl] at this
    rw [this]
    simp]
  show ((x :: r).drop 1).take ((x :: r).length - 1) = _
  simp
theorem above_len (a e : O) : (above a e).length ≤ a.len := by rw [← len_parts]; exact List.length_filter_le _ _
theorem plus_step {S : Nat → Fn} {c0 k : Nat} (hc : CmpOk k (S c0)) : PlusOk (k + 1) (fun ds => fnD 7 (G_plus c0 S) ds) := by
  intro a b na hk ha hb hla hlb
  refine fnD_of ?_
  unfold G_plus
  have hcs : b = .z ∨ ∃ e n r, b = .c e n r := by cases b with
    | z => exact Or.inl rfl
    | c e n r => exact Or.inr ⟨e, n, r, rfl⟩
  rcases hcs with hbz | ⟨e, n, r, hbz⟩
  · subst hbz; simp [gEq_nil (a := .z) (by decide), plusO]
  · have he : e.h ≤ 30 := by rw [hbz] at hb; have : (O.c e n r).h = max (e.h + 1) r.h := rfl; omega
    have n1 : gEq (enc b) (.tuple []) = some (.bool false) := by rw [gEq_nil (by omega), hbz]; rfl
    have b0 : atI (encL b) 0 = some (encP (e, n)) := by rw [hbz]; exact atI_zero _ _
    have b1 : cutD (encL b) (some 1) none = encL r := by rw [hbz]; exact cut_tl _ _
    have e1 : lcL (gtName 6) (tOf (eOp gEq (eFn (S c0) (aCons (eOp gIx (eVar 6) (eC (.int 0))) (aCons (eVar 2) aNil))) (eC (.int 1)))) (eVar 6) [some (enc a), some (enc b), some (enc e), some (.int n), none, none, none] (encL a) = .ok ((above a e).map encP) := by
      refine lc_parts (P := fun p => decide (0 < cmp p.1 e)) (fun p hp => ?_) fun p hp _ => by simp
      have := part_mem_h hp
      have h1 := hc p.1 e (by omega)
      have h2 := cmp_range p.1 e
      have h3 : decide (cmp p.1 e = 1) = decide (0 < cmp p.1 e) := by
        rcases h2 with h2 | h2 | h2 <;> rw [h2] <;> decide
      simp [h1, h3]
    have la := above_len a e
    have s1 : (above a e).length < sizeLine := sz1000' (by omega)
    have s2 : (above a e).length + 1 ≤ sizeLine := sz1000 (by omega)
    have lr : (encL r).length ≤ 1000000 := by rw [hbz] at hlb; have h1 := encL_len r; have : (O.c e n r).len = r.len + 1 := rfl; omega
    have s3 : (above a e).length + 1 + r.len ≤ sizeLine := sz1000 (by have := encL_len r; omega)
    obtain ⟨q1, q2⟩ := split_aux e a.parts ((nf_parts a).mp na).1
    have ep := encL_plus (a := a) (e := e) (r := r) (n := n)
    rw [← hbz] at ep
    by_cases ht : (above a e).length < a.len
    · obtain ⟨p, hp, ha⟩ : ∃ p, atI (encL a) ((above a e).length : Int) = some (encP p) ∧ (decide (p.1 = e) = true → sameN a e = p.2) ∧ (decide (p.1 = e) = false → sameN a e = 0) ∧ p ∈ a.parts := by
        have hl : (above a e).length < a.parts.length := by rw [len_parts]; exact ht
        refine ⟨a.parts[(above a e).length], ?_, ?_⟩
        · rw [encL_parts]
          exact L2.atI_nat (by rw [List.getElem?_map, List.getElem?_eq_getElem hl]; rfl)
        · have hg : a.parts[(above a e).length]? = ((a.parts.filter fun p => decide (p.1 = e)) ++ under a e)[0]? := by
            have : a.parts = above a e ++ ((a.parts.filter fun p => decide (p.1 = e)) ++ under a e) := by rw [← List.append_assoc]; exact q1
            rw [this, List.getElem?_append_right (Nat.le_refl _), Nat.sub_self]
            rw [← this]
          rw [List.getElem?_eq_getElem hl] at hg
          refine ⟨fun hd => ?_, fun hd => ?_, List.getElem_mem hl⟩
          · rcases q2 with q2 | ⟨m, q2⟩
            · rw [q2, List.nil_append] at hg
              have hm : a.parts[(above a e).length] ∈ under a e := List.mem_of_getElem? hg.symm
              have := of_decide_eq_true (List.mem_filter.mp hm).2
              rw [of_decide_eq_true hd, cmp_self] at this
              omega
            · rw [q2] at hg
              have : a.parts[(above a e).length] = (e, m) := by simpa using hg
              rw [this]
              unfold sameN
              rw [q2]
              simp
          · rcases q2 with q2 | ⟨m, q2⟩
            · unfold sameN; rw [q2]; rfl
            · rw [q2] at hg
              have : a.parts[(above a e).length] = (e, m) := by simpa using hg
              rw [this] at hd
              simp at hd
      have hph := part_mem_h ha.2.2
      have g1 := gEq_enc (a := p.1) (b := e) (by omega) (by omega)
      have ht' : ((above a e).length : Int) < (a.len : Int) := by omega
      by_cases hd : p.1 = e
      · have hs := ha.1 (decide_eq_true hd)
        rw [hd] at g1
        simp [n1, b0, b1, e1, s1, s2, s3, ht', hp, g1, hd, ep, hs, gAddI, Int.add_comm]
      · have hs := ha.2.1 (decide_eq_false hd)
        simp [n1, b0, b1, e1, s1, s2, s3, ht', hp, g1, hd, ep, hs]
    · have hs : sameN a e = 0 := by
        rcases q2 with q2 | ⟨m, q2⟩
        · unfold sameN; rw [q2]; rfl
        · exfalso
          have := congrArg List.length q1
          rw [List.length_append, List.length_append, q2, len_parts] at this
          simp only [List.length_singleton] at this
          have h0 : (above a e).length = (List.filter (fun p => decide (0 < cmp p.1 e)) a.parts).length := rfl
          omega
      have ht' : ¬ ((above a e).length : Int) < (a.len : Int) := by omega
      simp [n1, b0, b1, e1, s1, s2, s3, ht', ep, hs]
end Nm
set_option Elab.async false
set_option linter.all false
set_option maxRecDepth 100000
set_option maxHeartbeats 4000000
namespace Nm
open PySem Pu O L2
/-! ### how a law looks at numbers -/
def PureOk (k : Nat) (F : Fn) : Prop := ∀ a : O, a.h < k → F [enc a] = .ok (.bool true)
theorem l_pure_step {S : Nat → Fn} {c0 k : Nat} (h : PureOk k (S c0)) : PureOk (k + 1) (fun ds => fnD 2 (G_l_pure c0 S) ds) := by
  intro a hk
  refine fnD_of ?_
  obtain ⟨ρ', r1, x, rfl⟩ := forL_inv (gt := gtName 1) (g := sIf (tOrR (tTru (eIsi "bool" (eOp gIx (eVar 1) (eC (.int 1))))) (tNotR (tTru (eFn (S c0) (aCons (eOp gIx (eVar 1) (eC (.int 0))) aNil))))) (sRet (eC (.bool false))) sNil)
    (fun _ ρ => ∃ x, ρ = [some (enc a), x]) (encL a) 0 [some (enc a), none] ⟨_, rfl⟩ fun j d ρ hd hi => by
      obtain ⟨x, rfl⟩ := hi
      rw [encL_parts, List.getElem?_map] at hd
      obtain ⟨p, hp, rfl⟩ := Option.map_eq_some_iff.mp hd
      have hm := part_mem_h (List.mem_of_getElem? hp)
      have h1 := h p.1 (by omega)
      refine ⟨_, _, rfl, Or.inl ?_, ⟨some (encP p), rfl⟩⟩
      simp [h1, isiB]
  unfold G_l_pure
  simp [r1]
def IsOk (k : Nat) (F : Fn) : Prop := ∀ a b : O, a.h < k → a.h ≤ 30 → b.h ≤ 30 → F [enc a, enc b] = .ok (.bool (decide (a = b)))
theorem l_is_step {S : Nat → Fn} {c0 k : Nat} (h : PureOk k (S c0)) : IsOk k (fun ds => fnD 2 (G_l_is c0 S) ds) := by
  intro a b hk ha hb
  refine fnD_of ?_
  have h1 := h a hk
  have h2 := gEq_enc (a := a) (b := b) (by omega) (by omega)
  unfold G_l_is
  by_cases c : a = b
  · subst c; simp at h2; simp [h1, h2, isiB]
  · simp [h1, h2, isiB, c]
def LPlusOk (k : Nat) (F : Fn) : Prop := ∀ a b : O, a.h < k → a.h ≤ 30 → b.h ≤ 30 → a.len ≤ 1000000 → b.len ≤ 1000000 → F [enc a, enc b] = .ok (enc (plusO a b))
theorem l_plus_step {S : Nat → Fn} {c0 k : Nat} (hc : CmpOk k (S c0)) : LPlusOk k (fun ds => fnD 6 (G_l_plus c0 S) ds) := by
  intro a b hk ha hb hla hlb
  refine fnD_of ?_
  unfold G_l_plus
  have hcs : b = .z ∨ ∃ e n r, b = .c e n r := by cases b with
    | z => exact Or.inl rfl
    | c e n r => exact Or.inr ⟨e, n, r, rfl⟩
  rcases hcs with hbz | ⟨e, n, r, hbz⟩
  · subst hbz; simp [gEq_nil (a := .z) (by decide), plusO]
  · have he : e.h ≤ 30 := by rw [hbz] at hb; have : (O.c e n r).h = max (e.h + 1) r.h := rfl; omega
    have n1 : gEq (enc b) (.tuple []) = some (.bool false) := by rw [gEq_nil (by omega), hbz]; rfl
    have b0 : atI (encL b) 0 = some (encP (e, n)) := by rw [hbz]; exact atI_zero _ _
    have b1 : cutD (encL b) (some 1) none = encL r := by rw [hbz]; exact cut_tl _ _
    have e1 : lcL (gtName 5) (tOf (eOp gGt (eFn (S c0) (aCons (eOp gIx (eVar 5) (eC (.int 0))) (aCons (eVar 2) aNil))) (eC (.int 0)))) (eVar 5) [some (enc a), some (enc b), some (enc e), none, none, none] (encL a) = .ok ((above a e).map encP) := by
      refine lc_parts (P := fun p => decide (0 < cmp p.1 e)) (fun p hp => ?_) fun p hp _ => by simp
      have := part_mem_h hp
      have h1 := hc p.1 e (by omega)
      simp [h1]
    have e3 : lcL (gtName 5) (tOf (eOp gEq (eOp gIx (eVar 5) (eC (.int 0))) (eVar 2))) (eOp gIx (eVar 5) (eC (.int 1))) [some (enc a), some (enc b), some (enc e), some (.list ((above a e).map encP)), none, none] (encL a) = .ok ((a.parts.filter fun p => decide (p.1 = e)).map fun p => PyData.int p.2) := by
      refine lc_parts (P := fun p => decide (p.1 = e)) (fun p hp => ?_) fun p hp _ => by simp
      have := part_mem_h hp
      have h1 := gEq_enc (a := p.1) (b := e) (by omega) (by omega)
      simp [h1]
    have la := above_len a e
    have lx : (a.parts.filter fun p => decide (p.1 = e)).length ≤ a.len := by rw [← len_parts]; exact List.length_filter_le _ _
    have s1 : (above a e).length < sizeLine := sz1000' (by omega)
    have s2 : (above a e).length + 1 ≤ sizeLine := sz1000 (by omega)
    have lr : (encL r).length ≤ 1000000 := by rw [hbz] at hlb; have h1 := encL_len r; have : (O.c e n r).len = r.len + 1 := rfl; omega
    have s3 : (above a e).length + 1 + r.len ≤ sizeLine := sz1000 (by have := encL_len r; omega)
    have s4 : (a.parts.filter fun p => decide (p.1 = e)).length < sizeLine := sz1000' (by omega)
    have es := intsOf_mapF (fun p : O × Int => p.2) (a.parts.filter fun p => decide (p.1 = e))
    have ep := encL_plus (a := a) (e := e) (r := r) (n := n)
    rw [← hbz] at ep
    simp [n1, b0, b1, e1, e3, s1, s2, s3, s4, gSum, es, ep, sameN]
/-- the sum's bounds -/
theorem plusO_h {a b : O} {k : Nat} (ha : a.h ≤ k) (hb : b.h ≤ k) : (plusO a b).h ≤ k := by
  cases b with
  | z => exact ha
  | c e n r =>
    show (of _).h ≤ k
    rw [h_of]
    intro p hp
    have hb1 := (h_parts (.c e n r)).mp hb
    rcases List.mem_append.mp hp with hp | hp
    · exact (h_parts a).mp ha p (List.mem_filter.mp hp).1
    · rcases List.mem_cons.mp hp with hp | hp
      · subst hp; exact hb1 (e, n) (by show _ ∈ (e, n) :: r.parts; simp)
      · exact hb1 p (by show _ ∈ (e, n) :: r.parts; simp [hp])
theorem plusO_len {a b : O} : (plusO a b).len ≤ a.len + b.len := by
  cases b with
  | z => exact Nat.le_refl _
  | c e n r =>
    show (of _).len ≤ a.len + (r.len + 1)
    rw [len_of, List.length_append, List.length_cons, len_parts]
    have := above_len a e
    omega
theorem plusO_nf {a b : O} (ha : NF a) (hb : NF b) : NF (plusO a b) := by
  cases b with
  | z => exact ha
  | c e n r =>
    have h1 := (nf_parts a).mp ha
    have h2 := (nf_parts _).mp hb
    have h3 : ((e, n) :: r.parts).Pairwise (fun p q => cmp p.1 q.1 = 1) := h2.1
    rw [List.pairwise_cons] at h3
    have h4 : ∀ p ∈ (e, n) :: r.parts, NF p.1 ∧ 1 ≤ p.2 := h2.2
    have hs := (sameN_bound (e := e) ha (mx_nonneg a) (Int.le_refl _)).1
    have hu : ∀ p ∈ above a e, p ∈ a.parts ∧ cmp p.1 e = 1 := fun p hp => by
      have := List.mem_filter.mp hp
      refine ⟨this.1, ?_⟩
      have h2 := of_decide_eq_true this.2
      rcases cmp_range p.1 e with h | h | h <;> omega
    show NF (of _)
    rw [nf_of, List.pairwise_append, List.pairwise_cons]
    refine ⟨⟨h1.1.sublist List.filter_sublist, ⟨h3.1, h3.2⟩, fun p hp q hq => ?_⟩, fun p hp => ?_⟩
    · rcases List.mem_cons.mp hq with hq | hq
      · subst hq; exact (hu p hp).2
      · exact gt_trans (hu p hp).2 (h3.1 q hq)
    · rcases List.mem_append.mp hp with hp | hp
      · exact h1.2 p (hu p hp).1
      · rcases List.mem_cons.mp hp with hp | hp
        · subst hp
          have := h4 (e, n) (by simp)
          exact ⟨this.1, by have := this.2; show 1 ≤ sameN a e + n; simp at this; omega⟩
        · exact h4 p (List.mem_cons_of_mem _ hp)
end Nm
set_option Elab.async false
set_option linter.all false
set_option maxRecDepth 100000
set_option maxHeartbeats 4000000
namespace Nm
open PySem Pu O L2
/-! ### the sum, place by place -/
theorem nf_tail {f r : O} {m : Int} (h : NF (.c f m r)) : NF r ∧ NF f ∧ 1 ≤ m ∧ ∀ q ∈ r.parts, cmp f q.1 = 1 := by
  have h1 := (nf_parts _).mp h
  have h2 : ((f, m) :: r.parts).Pairwise (fun p q => cmp p.1 q.1 = 1) := h1.1
  have h3 : ∀ p ∈ (f, m) :: r.parts, NF p.1 ∧ 1 ≤ p.2 := h1.2
  rw [List.pairwise_cons] at h2
  have h4 := h3 (f, m) (by simp)
  exact ⟨(nf_parts r).mpr ⟨h2.2, fun p hp => h3 p (List.mem_cons_of_mem _ hp)⟩, h4.1, h4.2, h2.1⟩
theorem lows {a e : O} (h : ∀ q ∈ a.parts, cmp q.1 e = -1) : above a e = [] ∧ sameN a e = 0 := by
  refine ⟨?_, ?_⟩
  · unfold above
    rw [List.filter_eq_nil_iff]; intro q hq; have := h q hq; simp; omega
  · unfold sameN
    have : (a.parts.filter fun p => decide (p.1 = e)) = [] := by
      rw [List.filter_eq_nil_iff]; intro q hq; have := h q hq; simp; intro z; rw [z, cmp_self] at this; cases this
    rw [this]; rfl
theorem tail_low {f r e : O} {m : Int} (h : NF (.c f m r)) (c : cmp f e = -1 ∨ f = e) : ∀ q ∈ r.parts, cmp q.1 e = -1 := fun q hq => by
  have h1 := cmp_gt.mp ((nf_tail h).2.2.2 q hq)
  rcases c with c | c
  · exact lt_trans h1 c
  · rw [← c]; exact h1
theorem plus_lt {f r e s : O} {m n : Int} (h : NF (.c f m r)) (c : cmp f e = -1) : plusO (.c f m r) (.c e n s) = .c e n s := by
  have hl : ∀ q ∈ (O.c f m r).parts, cmp q.1 e = -1 := fun q hq => by
    rcases List.mem_cons.mp (show q ∈ (f, m) :: r.parts from hq) with hq | hq
    · rw [hq]; exact c
    · exact tail_low h (Or.inl c) q hq
  obtain ⟨h1, h2⟩ := lows hl
  show of (above _ e ++ (e, sameN _ e + n) :: s.parts) = _
  rw [h1, h2, List.nil_append, Int.zero_add]
  exact congrArg (O.c e n) (of_parts s)
theorem plus_eq {f r s : O} {m n : Int} (h : NF (.c f m r)) : plusO (.c f m r) (.c f n s) = .c f (m + n) s := by
  obtain ⟨h1, h2⟩ := lows (tail_low h (Or.inr rfl))
  have h3 : above (.c f m r) f = [] := by
    show ((f, m) :: r.parts).filter _ = []
    rw [List.filter_cons_of_neg (by simp [cmp_self])]; exact h1
  have h4 : sameN (.c f m r) f = m := by
    show ((((f, m) :: r.parts).filter _).map _).sum = m
    rw [List.filter_cons_of_pos (by simp), List.map_cons, List.sum_cons]
    have : ((r.parts.filter fun p => decide (p.1 = f)).map fun p => p.2).sum = 0 := h2
    rw [this, Int.add_zero]
  show of (above _ f ++ (f, sameN _ f + n) :: s.parts) = _
  rw [h3, h4, List.nil_append]
  exact congrArg (O.c f (m + n)) (of_parts s)
theorem plus_gt {f r e s : O} {m n : Int} (c : cmp f e = 1) : plusO (.c f m r) (.c e n s) = .c f m (plusO r (.c e n s)) := by
  have h3 : above (.c f m r) e = (f, m) :: above r e := by
    show ((f, m) :: r.parts).filter _ = _
    rw [List.filter_cons_of_pos (by simp [c])]; rfl
  have ne : ¬ f = e := fun z => by rw [z, cmp_self] at c; cases c
  have h4 : sameN (.c f m r) e = sameN r e := by
    show ((((f, m) :: r.parts).filter _).map _).sum = _
    rw [List.filter_cons_of_neg (by simp [ne])]; rfl
  show of (above _ e ++ (e, sameN _ e + n) :: s.parts) = _
  rw [h3, h4]
  rfl
theorem plus_z {a : O} : plusO .z a = a := by
  cases a with
  | z => rfl
  | c e n r =>
    show of ([] ++ (e, 0 + n) :: r.parts) = _
    rw [Int.zero_add, List.nil_append]
    exact congrArg _ (of_parts r)
theorem cmp_lt_head {e e' r r' : O} {n n' : Int} (c : cmp e e' = -1) : cmp (.c e n r) (.c e' n' r') = -1 := cmp_c.mpr (Or.inl c)
theorem cmp_zc {e r : O} {n : Int} : cmp .z (.c e n r) = -1 := by simp [cmp]
theorem plus_assoc : ∀ a b d : O, NF a → NF b → NF d → plusO (plusO a b) d = plusO a (plusO b d)
  | .z, b, d, _, _, _ => by rw [plus_z, plus_z]
  | .c f m r, .z, d, _, _, _ => by rw [plus_z]; rfl
  | .c f m r, .c e n s, .z, _, _, _ => rfl
  | .c f m r, .c e n s, .c g k t, ha, hb, hd => by
    have hr := (nf_tail ha).1
    rcases cmp_tri f e with c1 | c1 | c1
    · rw [plus_lt ha c1]
      rcases cmp_tri e g with c2 | c2 | c2
      · rw [plus_lt hb c2, plus_lt ha (lt_trans c1 c2)]
      · subst c2; rw [plus_eq hb, plus_lt ha c1]
      · rw [plus_gt c2, plus_lt ha c1]
    · subst c1
      rw [plus_eq ha]
      have hab : NF (.c f (m + n) s) := by have := plusO_nf ha hb; rw [plus_eq ha] at this; exact this
      rcases cmp_tri f g with c2 | c2 | c2
      · rw [plus_lt hb c2, plus_lt ha c2, plus_lt hab c2]
      · subst c2; rw [plus_eq hb, plus_eq ha, plus_eq hab, Int.add_assoc]
      · rw [plus_gt c2, plus_gt c2, plus_eq ha]
    · rw [plus_gt c1]
      have hab : NF (.c f m (plusO r (.c e n s))) := by have := plusO_nf ha hb; rw [plus_gt c1] at this; exact this
      rcases cmp_tri f g with c2 | c2 | c2
      · rw [plus_lt hab c2, plus_lt hb (lt_trans (cmp_gt.mp c1) c2), plus_lt ha c2]
      · subst c2; rw [plus_eq hab, plus_lt hb (cmp_gt.mp c1), plus_eq ha]
      · rw [plus_gt c2, plus_assoc r (.c e n s) (.c g k t) hr hb hd]
        rcases cmp_tri e g with c3 | c3 | c3
        · rw [plus_lt hb c3, plus_gt c2]
        · subst c3; rw [plus_eq hb, plus_gt c1]
        · rw [plus_gt c3, plus_gt c1]
theorem plus_mono : ∀ a b d : O, NF a → NF b → NF d → cmp b d = -1 → cmp (plusO a b) (plusO a d) = -1
  | .z, b, d, _, _, _, h => by rw [plus_z, plus_z]; exact h
  | .c f m r, b, .z, _, _, _, h => by cases b <;> simp [cmp] at h
  | .c f m r, .z, .c g k t, ha, hb, hd, h => by
    have hr := (nf_tail ha).1
    have hk := (nf_tail hd).2.2.1
    show cmp (.c f m r) _ = -1
    rcases cmp_tri f g with c2 | c2 | c2
    · rw [plus_lt ha c2]; exact cmp_lt_head c2
    · subst c2; rw [plus_eq ha]; exact cmp_c.mpr (Or.inr ⟨rfl, Or.inl (by omega)⟩)
    · rw [plus_gt c2]; exact cmp_c.mpr (Or.inr ⟨rfl, Or.inr ⟨rfl, plus_mono r .z (.c g k t) hr hb hd h⟩⟩)
  | .c f m r, .c e n s, .c g k t, ha, hb, hd, h => by
    have hr := (nf_tail ha).1
    have hk := (nf_tail hd).2.2.1
    have h' := cmp_c.mp h
    rcases cmp_tri f e with c1 | c1 | c1
    · rw [plus_lt ha c1]
      have : cmp f g = -1 := by
        rcases h' with q | ⟨q, _⟩
        · exact lt_trans c1 q
        · rw [← q]; exact c1
      rw [plus_lt ha this]; exact h
    · subst c1
      rw [plus_eq ha]
      rcases h' with q | ⟨q, q2⟩
      · rw [plus_lt ha q]; exact cmp_lt_head q
      · subst q
        rw [plus_eq ha]
        refine cmp_c.mpr (Or.inr ⟨rfl, ?_⟩)
        rcases q2 with q2 | ⟨q2, q3⟩
        · exact Or.inl (by omega)
        · exact Or.inr ⟨by omega, q3⟩
    · rw [plus_gt c1]
      rcases cmp_tri f g with c2 | c2 | c2
      · rw [plus_lt ha c2]; exact cmp_lt_head c2
      · subst c2; rw [plus_eq ha]; exact cmp_c.mpr (Or.inr ⟨rfl, Or.inl (by omega)⟩)
      · rw [plus_gt c2]; exact cmp_c.mpr (Or.inr ⟨rfl, Or.inr ⟨rfl, plus_mono r (.c e n s) (.c g k t) hr hb hd h⟩⟩)
theorem plus_weak : ∀ b d a : O, NF a → NF b → NF d → cmp b d = -1 → cmp (plusO b a) (plusO d a) = -1 ∨ cmp (plusO b a) (plusO d a) = 0
  | b, d, .z, _, _, _, h => Or.inl h
  | b, .z, .c f m r, _, _, _, h => by cases b <;> simp [cmp] at h
  | .z, .c g k t, .c f m r, ha, hb, hd, h => by
    have hk := (nf_tail hd).2.2.1
    rw [plus_z]
    rcases cmp_tri g f with c2 | c2 | c2
    · rw [plus_lt hd c2, cmp_self]; exact Or.inr rfl
    · subst c2; rw [plus_eq hd]; exact Or.inl (cmp_c.mpr (Or.inr ⟨rfl, Or.inl (by omega)⟩))
    · rw [plus_gt c2]; exact Or.inl (cmp_lt_head (cmp_gt.mp c2))
  | .c e n s, .c g k t, .c f m r, ha, hb, hd, h => by
    have hk := (nf_tail hd).2.2.1
    have h' := cmp_c.mp h
    rcases h' with q | ⟨q, q2⟩
    · rcases cmp_tri g f with c2 | c2 | c2
      · rw [plus_lt hd c2, plus_lt hb (lt_trans q c2), cmp_self]; exact Or.inr rfl
      · subst c2; rw [plus_eq hd, plus_lt hb q]; exact Or.inl (cmp_c.mpr (Or.inr ⟨rfl, Or.inl (by omega)⟩))
      · rw [plus_gt c2]
        rcases cmp_tri e f with c3 | c3 | c3
        · rw [plus_lt hb c3]; exact Or.inl (cmp_lt_head (cmp_gt.mp c2))
        · subst c3; rw [plus_eq hb]; exact Or.inl (cmp_lt_head q)
        · rw [plus_gt c3]; exact Or.inl (cmp_lt_head q)
    · subst q
      rcases cmp_tri e f with c3 | c3 | c3
      · rw [plus_lt hb c3, plus_lt hd c3, cmp_self]; exact Or.inr rfl
      · subst c3
        rw [plus_eq hb, plus_eq hd]
        rcases q2 with q2 | ⟨q2, q3⟩
        · exact Or.inl (cmp_c.mpr (Or.inr ⟨rfl, Or.inl (by omega)⟩))
        · subst q2; rw [cmp_self]; exact Or.inr rfl
      · rw [plus_gt c3, plus_gt c3]
        rcases q2 with q2 | ⟨q2, q3⟩
        · exact Or.inl (cmp_c.mpr (Or.inr ⟨rfl, Or.inl q2⟩))
        · subst q2
          have hs := (nf_tail hb).1
          have ht := (nf_tail hd).1
          rcases plus_weak s t (.c f m r) ha hs ht q3 with z | z
          · exact Or.inl (cmp_c.mpr (Or.inr ⟨rfl, Or.inr ⟨rfl, z⟩⟩))
          · rw [(cmp_eq _ _).mp z, cmp_self]; exact Or.inr rfl
theorem plus_cmp {a b d : O} (ha : NF a) (hb : NF b) (hd : NF d) : cmp (plusO a b) (plusO a d) = cmp b d := by
  rcases cmp_tri b d with c | c | c
  · rw [c, plus_mono a b d ha hb hd c]
  · subst c; rw [cmp_self, cmp_self]
  · rw [c]; exact cmp_gt.mpr (plus_mono a d b ha hd hb (cmp_gt.mp c))
theorem plus_inj {a b d : O} (ha : NF a) (hb : NF b) (hd : NF d) (h : plusO a b = plusO a d) : b = d := by
  have := plus_cmp ha hb hd
  rw [h, cmp_self] at this
  exact (cmp_eq b d).mp this.symm
theorem plus_turn {a b d : O} (ha : NF a) (hb : NF b) (hd : NF d) : cmp (plusO b a) (plusO d a) = cmp b d ∨ cmp (plusO b a) (plusO d a) = 0 := by
  rcases cmp_tri b d with c | c | c
  · rw [c]; exact plus_weak b d a ha hb hd c
  · subst c; rw [cmp_self]; exact Or.inr rfl
  · rw [c]
    have := plus_weak d b a ha hd hb (cmp_gt.mp c)
    rw [cmp_neg (plusO d a) (plusO b a)]
    rcases this with h | h <;> rw [h]
    · exact Or.inl rfl
    · exact Or.inr rfl
/-- sums the same either way round -/
theorem plus_comm_c {e r e' r' : O} {n n' : Int} (ha : NF (.c e n r)) (hb : NF (.c e' n' r')) : plusO (.c e n r) (.c e' n' r') = plusO (.c e' n' r') (.c e n r) ↔ e = e' ∧ r = r' := by
  have gt : ∀ {e r e' r' : O} {n n' : Int}, NF (.c e n r) → NF (.c e' n' r') → cmp e e' = 1 → plusO (.c e n r) (.c e' n' r') ≠ plusO (.c e' n' r') (.c e n r) := fun ha hb c h => by
    rw [plus_lt hb (cmp_gt.mp c)] at h
    have := plus_inj ha hb (d := .z) trivial h
    cases this
  rcases cmp_tri e e' with c | c | c
  · refine ⟨fun h => absurd h.symm (gt hb ha (cmp_gt.mpr c)), fun h => ?_⟩
    rw [h.1, cmp_self] at c; cases c
  · subst c
    rw [plus_eq ha, plus_eq hb, Int.add_comm n' n]
    refine ⟨fun h => ⟨rfl, ?_⟩, fun h => ?_⟩
    · injection h with _ _ h3; exact h3.symm
    · rw [h.2]
  · refine ⟨fun h => absurd h (gt ha hb c), fun h => ?_⟩
    rw [h.1, cmp_self] at c; cases c
end Nm
set_option Elab.async false
set_option linter.all false
set_option maxRecDepth 100000
set_option maxHeartbeats 4000000
namespace Nm
open PySem PySem.Spec PyProof.Rows L2 Pu O
theorem getD_set_ne {α : Type} {d : α} {ρ : List α} {i m : Nat} {x : α} (h : m ≠ i) : (ρ.set m x).getD i d = ρ.getD i d := by
  rw [List.getD_eq_getElem?_getD, List.getD_eq_getElem?_getD, List.getElem?_set_ne h]
/-- the first rows of a law's turn, wherever its names stand -/
theorem cell_headG (d : Int) (ns : List Int) (j : Nat) (W : Vars → Out) (ρ : Vars) (i m : Nat) (h0 : ρ.getD 0 none = some (.list (ns.map .int))) (hi : ρ.getD i none = some (.int (j : Nat))) (n0 : m ≠ 0) (ni : m ≠ i) :
    sSeq (sSet [] m (eC (.int d))) (sSeq (sIf (tOf (eOp gLt (eVar i) (eCall gLen (aCons (eVar 0) aNil)))) (sSet [] m (eOp gMod (eOp gIx (eVar 0) (eVar i)) (eOp gPow (eC (.int 10)) (eC (.int 60))))) sNil) W) ρ = W (ρ.set m (some (.int (cellD d ns j)))) := by
  have m5 : ∀ i : Int, cMod i E60 = true := fun i => cMod_of (by have e := E60_eq; omega)
  rw [u_sSeq]
  simp only [u_sSet0, u_eC, R.run_ok, Out.then_nx]
  rw [u_sSeq]
  by_cases q : j < ns.length
  · have hv : atI (ns.map PyData.int) (j : Int) = some (.int ns[j]) := L2.atI_nat (by rw [List.getElem?_map, List.getElem?_eq_getElem q]; rfl)
    have hc : cellD d ns j = ns[j] % E60 := by unfold cellD; rw [List.getElem?_eq_getElem q]
    have q' : (j : Int) < (ns.length : Int) := by omega
    simp only [u_sSet0, u_eC, R.run_ok, Out.then_nx, u_sIf, u_tOf, u_eOp, u_eVar, u_eCall, u_aCons, u_aNil, getD_set_ne n0, getD_set_ne ni, h0, hi, R.of_some, R.bind_ok, u_gLen_l, List.length_map, u_gCmp, q', decide_true, if_true, hv, u_gIx_l, p60]
    simp only [u_gInt, m5, if_true, R.of_some, R.run_ok, Out.then_nx, List.set_set, hc]
  · have hc : cellD d ns j = d := by unfold cellD; rw [List.getElem?_eq_none (by omega)]
    have q' : ¬ (j : Int) < (ns.length : Int) := by omega
    simp only [u_sSet0, u_eC, R.run_ok, Out.then_nx, u_sIf, u_tOf, u_eOp, u_eVar, u_eCall, u_aCons, u_aNil, getD_set_ne n0, getD_set_ne ni, h0, hi, R.of_some, R.bind_ok, u_gLen_l, List.length_map, u_gCmp, q', decide_false, Bool.false_eq_true, if_false, u_sNil, hc]
/-- numbers of a bounded size -/
structure G (m : Nat) (a : O) : Prop where
  nf : NF a
  h : a.h ≤ 25
  l : a.len ≤ m
theorem G.of_po {B : Int} {a : O} {m : Nat} (hm : 24 ≤ m) (p : PO B a) : G m a := ⟨p.nf, by have := p.hh; omega, by have := p.ll; omega⟩
theorem G.plus {m n : Nat} {a b : O} (ha : G m a) (hb : G n b) : G (m + n) (plusO a b) := ⟨plusO_nf ha.nf hb.nf, plusO_h ha.h hb.h, by have := plusO_len (a := a) (b := b); have := ha.l; have := hb.l; omega⟩
theorem plusG {F : Fn} {k m n : Nat} (h : PlusOk k F) (hk : 26 ≤ k) {a b : O} (ha : G m a) (hb : G n b) (hm : m ≤ 1000) (hn : n ≤ 1000) : F [enc a, enc b] = .ok (enc (plusO a b)) :=
  h a b ha.nf (by have := ha.h; omega) (by have := ha.h; omega) (by have := hb.h; omega) (by have := ha.l; omega) (by have := hb.l; omega)
def sumO (x : O) (ps : List O) : O := ps.foldl plusO x
theorem sumO_G {m : Nat} : ∀ {ps : List O} {x : O} {n : Nat}, G n x → (∀ a ∈ ps, G m a) → G (n + ps.length * m) (sumO x ps)
  | [], x, n, h, _ => by show G (n + 0 * m) x; rw [Nat.zero_mul]; exact h
  | p :: ps, x, n, h, hp => by
    have := sumO_G (ps := ps) (h.plus (hp p (by simp))) fun a ha => hp a (List.mem_cons_of_mem _ ha)
    rw [List.length_cons, Nat.succ_mul]
    rw [show n + (ps.length * m + m) = n + m + ps.length * m by omega]
    exact this
theorem sumO_from : ∀ (ps : List O) (x : O), NF x → (∀ a ∈ ps, NF a) → sumO x ps = plusO x (sumO .z ps)
  | [], x, _, _ => rfl
  | p :: ps, x, hx, hp => by
    have h1 := hp p (by simp)
    have h2 : ∀ a ∈ ps, NF a := fun a ha => hp a (List.mem_cons_of_mem _ ha)
    have nfs : ∀ (ps : List O) (x : O), NF x → (∀ a ∈ ps, NF a) → NF (sumO x ps) := by
      intro ps
      induction ps with
      | nil => intro x hx _; exact hx
      | cons q qs ih => intro x hx hq; exact ih _ (plusO_nf hx (hq q (by simp))) fun a ha => hq a (List.mem_cons_of_mem _ ha)
    show sumO (plusO x p) ps = plusO x (sumO (plusO .z p) ps)
    rw [sumO_from ps (plusO x p) (plusO_nf hx h1) h2, plus_z, sumO_from ps p h1 h2, plus_assoc x p _ hx h1 (nfs ps .z trivial h2)]
theorem total_loop {F : Fn} {k m : Nat} (h : PlusOk k F) (hk : 26 ≤ k) {some0 : Option PyData} : ∀ (ps : List O) (x : O) (n : Nat) (t : Option PyData), G n x → (∀ a ∈ ps, G m a) → n + ps.length * m ≤ 1000 →
    ∃ t', forL (gtName 2) (sSet [] 1 (eFn F (aCons (eVar 1) (aCons (eVar 2) aNil)))) (ps.map enc) [some0, some (enc x), t] = .nx [some0, some (enc (sumO x ps)), t']
  | [], x, n, t, _, _, _ => ⟨t, rfl⟩
  | p :: ps, x, n, t, hx, hp, hb => by
    rw [List.length_cons, Nat.succ_mul] at hb
    have h1 := hp p (by simp)
    have e1 := plusG h hk hx h1 (by omega) (by omega)
    obtain ⟨t', e2⟩ := total_loop h hk ps (plusO x p) (n + m) (some (enc p)) (hx.plus h1) (fun a ha => hp a (List.mem_cons_of_mem _ ha)) (by omega)
    refine ⟨t', ?_⟩
    rw [List.map_cons, u_forL_c]
    simp only [u_gtName, List.set_cons_succ, List.set_cons_zero, u_sSet0, u_eFn, u_aCons, u_aNil, u_eVar, List.getD_cons_succ, List.getD_cons_zero, R.of_some, R.bind_ok, e1, R.run_ok]
    exact e2
def TotalOk (F : Fn) : Prop := ∀ ps : List O, (∀ a ∈ ps, G 24 a) → ps.length ≤ 27 → F [.list (ps.map enc)] = .ok (enc (sumO .z ps))
theorem total_step {S : Nat → Fn} {c0 k : Nat} (h : PlusOk k (S c0)) (hk : 26 ≤ k) : TotalOk (fun ds => fnD 3 (G_total c0 S) ds) := by
  intro ps hp hl
  refine fnD_of ?_
  obtain ⟨t', e⟩ := total_loop h hk (some0 := some (.list (ps.map enc))) ps .z 0 none ⟨trivial, by decide, by decide⟩ hp (by omega)
  unfold G_total
  have e' : forL (gtName 2) (sSet [] 1 (eFn (S c0) (aCons (eVar 1) (aCons (eVar 2) aNil)))) (ps.map enc) [some (.list (ps.map enc)), some (.tuple []), none] = _ := e
  simp [e']
theorem cut_back {α : Type} (xs : List α) (k : Nat) : Pu.cutD xs (some (k : Int)) none = xs.drop (min k xs.length) := by
  unfold Pu.cutD
  rw [HT.sIx_nat]
  show (xs.drop (min k xs.length)).take (xs.length - min k xs.length) = _
  apply List.take_of_length_le
  simp
/-- lists of numbers, compared -/
theorem depthAll_le {n : Nat} : ∀ {ds : List PyData}, (∀ d ∈ ds, d.depth ≤ n) → PyData.depthAll ds ≤ n
  | [], _ => by simp [PyData.depthAll]
  | d :: ds, h => by
    have h1 := h d (by simp)
    have h2 := depthAll_le (ds := ds) fun x hx => h x (List.mem_cons_of_mem _ hx)
    simp only [PyData.depthAll]
    omega
theorem layAll_of : ∀ {ds : List PyData}, (∀ d ∈ ds, d.canLay0 = true) → PyData.canLayAll0 ds = true
  | [], _ => by simp [PyData.canLayAll0]
  | d :: ds, h => by
    have h1 := h d (by simp)
    have h2 := layAll_of (ds := ds) fun x hx => h x (List.mem_cons_of_mem _ hx)
    simp only [PyData.canLayAll0, h1, h2, Bool.and_self]
theorem eqvAll_self : ∀ {ps : List O}, PyData.eqvAll (ps.map enc) (ps.map enc) = true
  | [] => by simp [PyData.eqvAll]
  | p :: ps => by
    have h1 := enc_eqv p p
    have h2 := eqvAll_self (ps := ps)
    simp only [List.map_cons, PyData.eqvAll, h2, h1, decide_true, Bool.and_self]
theorem gNe_list {ps : List O} (h : ∀ a ∈ ps, a.h ≤ 30) : gNe (.list (ps.map enc)) (.list (ps.map enc)) = some (.bool false) := by
  have h1 : PyData.depthAll (ps.map enc) ≤ 61 := depthAll_le fun d hd => by
    obtain ⟨a, ha, rfl⟩ := List.mem_map.mp hd
    rw [enc_depth]; have := h a ha; omega
  have h2 : PyData.canLayAll0 (ps.map enc) = true := layAll_of fun d hd => by
    obtain ⟨a, ha, rfl⟩ := List.mem_map.mp hd
    exact enc_lay a
  unfold gNe SeqAt.shaped
  have h3 : PyData.depth (.list (ps.map enc)) ≤ 64 := by simp only [PyData.depth]; omega
  have h4 : PyData.canLay0 (.list (ps.map enc)) = true := by simp only [PyData.canLay0, h2]
  have h5 : PyData.eqv (.list (ps.map enc)) (.list (ps.map enc)) = true := by simp only [PyData.eqv, eqvAll_self]
  simp [h3, h4, h5]
end Nm
set_option Elab.async false
set_option linter.all false
set_option maxRecDepth 100000
set_option maxHeartbeats 4000000
namespace Nm
open PySem Pu O L2
/-! ### times of an exponent -/
theorem co_z {x : O} : sameN .z x = 0 := rfl
theorem co_c {e r x : O} {n : Int} : sameN (.c e n r) x = (if e = x then n else 0) + sameN r x := by
  unfold sameN
  show ((((e, n) :: r.parts).filter fun p => decide (p.1 = x)).map fun p => p.2).sum = _
  by_cases c : e = x
  · rw [List.filter_cons_of_pos (by simp [c]), if_pos c, List.map_cons, List.sum_cons]
  · rw [List.filter_cons_of_neg (by simp [c]), if_neg c, Int.zero_add]
theorem nf_mk {e r : O} {n : Int} (he : NF e) (hn : 1 ≤ n) (hr : NF r) (hp : ∀ q ∈ r.parts, cmp e q.1 = 1) : NF (.c e n r) := by
  refine (nf_parts _).mpr ⟨?_, fun p hp => ?_⟩
  · show ((e, n) :: r.parts).Pairwise _
    exact List.pairwise_cons.mpr ⟨hp, ((nf_parts r).mp hr).1⟩
  · rcases List.mem_cons.mp (show p ∈ (e, n) :: r.parts from hp) with h | h
    · subst h; exact ⟨he, hn⟩
    · exact ((nf_parts r).mp hr).2 p h
theorem co_tail {e r x : O} {n : Int} (h : NF (.c e n r)) (c : cmp x e = 1 ∨ x = e) : sameN r x = 0 := by
  refine (lows (fun q hq => ?_)).2
  have h1 := cmp_gt.mp ((nf_tail h).2.2.2 q hq)
  rcases c with c | c
  · exact lt_trans h1 (cmp_gt.mp c)
  · rw [c]; exact h1
theorem ne_of_gt {x e : O} (c : cmp x e = 1) : ¬ e = x := fun z => by rw [z, cmp_self] at c; cases c
theorem co_high {e r x : O} {n : Int} (h : NF (.c e n r)) (c : cmp x e = 1) : sameN (.c e n r) x = 0 := by
  rw [co_c, if_neg (ne_of_gt c), co_tail h (Or.inl c)]; rfl
theorem co_head {e r : O} {n : Int} (h : NF (.c e n r)) : sameN (.c e n r) e = n := by
  rw [co_c, if_pos rfl, co_tail h (Or.inr rfl)]; omega
theorem co_nonneg {a x : O} (h : NF a) : 0 ≤ sameN a x := (sameN_bound h (mx_nonneg a) (Int.le_refl _)).1
theorem lt_co : ∀ a b : O, NF a → NF b → cmp a b = -1 → ∃ x, sameN a x < sameN b x ∧ ∀ y, cmp y x = 1 → sameN a y = sameN b y
  | a, .z, _, _, h => by cases a <;> simp [cmp] at h
  | .z, .c e n r, _, hb, h => ⟨e, by rw [co_z, co_head hb]; have := (nf_tail hb).2.2.1; omega, fun y hy => by rw [co_z, co_high hb hy]⟩
  | .c e n r, .c e' n' r', ha, hb, h => by
    rcases cmp_c.mp h with q | ⟨q, q2⟩
    · have g := cmp_gt.mpr q
      refine ⟨e', ?_, fun y hy => ?_⟩
      · rw [co_high ha g, co_head hb]; have := (nf_tail hb).2.2.1; omega
      · rw [co_high ha (gt_trans hy g), co_high hb hy]
    · subst q
      rcases q2 with q2 | ⟨q2, q3⟩
      · exact ⟨e, by rw [co_head ha, co_head hb]; exact q2, fun y hy => by rw [co_high ha hy, co_high hb hy]⟩
      · subst q2
        obtain ⟨x, h1, h2⟩ := lt_co r r' (nf_tail ha).1 (nf_tail hb).1 q3
        exact ⟨x, by rw [co_c, co_c]; omega, fun y hy => by rw [co_c, co_c, h2 y hy]⟩
theorem co_lt {a b : O} (ha : NF a) (hb : NF b) (h : ∃ x, sameN a x < sameN b x ∧ ∀ y, cmp y x = 1 → sameN a y = sameN b y) : cmp a b = -1 := by
  obtain ⟨x, h1, h2⟩ := h
  rcases cmp_tri a b with c | c | c
  · exact c
  · subst c; omega
  · obtain ⟨x', h3, h4⟩ := lt_co b a hb ha (cmp_gt.mp c)
    rcases cmp_tri x x' with d | d | d
    · have := h2 x' (cmp_gt.mpr d); omega
    · subst d; omega
    · have := h4 x d; omega
theorem co_ext {a b : O} (ha : NF a) (hb : NF b) (h : ∀ x, sameN a x = sameN b x) : a = b := by
  rcases cmp_tri a b with c | c | c
  · obtain ⟨x, h1, _⟩ := lt_co a b ha hb c
    have := h x; omega
  · exact c
  · obtain ⟨x, h1, _⟩ := lt_co b a hb ha (cmp_gt.mp c)
    have := h x; omega
theorem co_le {a b : O} (ha : NF a) (hb : NF b) (h : ∀ x, sameN a x ≤ sameN b x) : ¬ cmp b a < 0 := fun c => by
  have c' : cmp b a = -1 := by rcases cmp_range b a with z | z | z <;> omega
  obtain ⟨x, h1, _⟩ := lt_co b a hb ha c'
  have := h x; omega
/-! ### merged -/
def mrgO : O → O → O
  | .z, b => b
  | .c e n r, .z => .c e n r
  | .c e n r, .c e' n' r' => if cmp e e' = 1 then .c e n (mrgO r (.c e' n' r')) else if cmp e e' = -1 then .c e' n' (mrgO (.c e n r) r') else .c e (n + n') (mrgO r r')
termination_by a b => a.len + b.len
decreasing_by all_goals (simp only [O.len]; omega)
theorem mrg_z {a : O} : mrgO a .z = a := by cases a <;> simp [mrgO]
theorem mrg_gt {e r e' r' : O} {n n' : Int} (c : cmp e e' = 1) : mrgO (.c e n r) (.c e' n' r') = .c e n (mrgO r (.c e' n' r')) := by rw [mrgO, if_pos c]
theorem mrg_lt {e r e' r' : O} {n n' : Int} (c : cmp e e' = -1) : mrgO (.c e n r) (.c e' n' r') = .c e' n' (mrgO (.c e n r) r') := by rw [mrgO, if_neg (by omega), if_pos c]
theorem mrg_eq {e r r' : O} {n n' : Int} : mrgO (.c e n r) (.c e n' r') = .c e (n + n') (mrgO r r') := by rw [mrgO, if_neg (by rw [cmp_self]; decide), if_neg (by rw [cmp_self]; decide)]
theorem mrg_co (x : O) : ∀ a b : O, sameN (mrgO a b) x = sameN a x + sameN b x
  | .z, b => by rw [mrgO, co_z, Int.zero_add]
  | .c e n r, .z => by rw [mrgO, co_z, Int.add_zero]
  | .c e n r, .c e' n' r' => by
    rcases cmp_tri e e' with c | c | c
    · rw [mrg_lt c, co_c, mrg_co x (.c e n r) r', co_c (e := e')]; omega
    · subst c; rw [mrg_eq, co_c, mrg_co x r r', co_c, co_c]; split <;> omega
    · rw [mrg_gt c, co_c, mrg_co x r (.c e' n' r'), co_c (e := e)]; omega
termination_by a b => a.len + b.len
decreasing_by all_goals (simp only [O.len]; omega)
theorem mrg_exp : ∀ (a b : O) (p : O × Int), p ∈ (mrgO a b).parts → ∃ q, (q ∈ a.parts ∨ q ∈ b.parts) ∧ q.1 = p.1
  | .z, b, p, h => by rw [mrgO] at h; exact ⟨p, Or.inr h, rfl⟩
  | .c e n r, .z, p, h => by rw [mrgO] at h; exact ⟨p, Or.inl h, rfl⟩
  | .c e n r, .c e' n' r', p, h => by
    have inA : ∀ q ∈ r.parts, q ∈ (O.c e n r).parts := fun q hq => by show q ∈ (e, n) :: r.parts; simp [hq]
    have inB : ∀ q ∈ r'.parts, q ∈ (O.c e' n' r').parts := fun q hq => by show q ∈ (e', n') :: r'.parts; simp [hq]
    have hA : (e, n) ∈ (O.c e n r).parts := by show _ ∈ (e, n) :: r.parts; simp
    have hB : (e', n') ∈ (O.c e' n' r').parts := by show _ ∈ (e', n') :: r'.parts; simp
    rcases cmp_tri e e' with c | c | c
    · rw [mrg_lt c] at h
      rcases List.mem_cons.mp (show p ∈ (e', n') :: (mrgO (.c e n r) r').parts from h) with h | h
      · exact ⟨_, Or.inr hB, by rw [h]⟩
      · obtain ⟨q, q1, q2⟩ := mrg_exp (.c e n r) r' p h
        exact ⟨q, q1.imp id (inB q), q2⟩
    · subst c
      rw [mrg_eq] at h
      rcases List.mem_cons.mp (show p ∈ (e, n + n') :: (mrgO r r').parts from h) with h | h
      · exact ⟨_, Or.inl hA, by rw [h]⟩
      · obtain ⟨q, q1, q2⟩ := mrg_exp r r' p h
        exact ⟨q, q1.imp (inA q) (inB q), q2⟩
    · rw [mrg_gt c] at h
      rcases List.mem_cons.mp (show p ∈ (e, n) :: (mrgO r (.c e' n' r')).parts from h) with h | h
      · exact ⟨_, Or.inl hA, by rw [h]⟩
      · obtain ⟨q, q1, q2⟩ := mrg_exp r (.c e' n' r') p h
        exact ⟨q, q1.imp (inA q) id, q2⟩
termination_by a b => a.len + b.len
decreasing_by all_goals (simp only [O.len]; omega)
theorem mrg_nf : ∀ a b : O, NF a → NF b → NF (mrgO a b)
  | .z, b, _, hb => by rw [mrgO]; exact hb
  | .c e n r, .z, ha, _ => by rw [mrgO]; exact ha
  | .c e n r, .c e' n' r', ha, hb => by
    have ta := nf_tail ha
    have tb := nf_tail hb
    rcases cmp_tri e e' with c | c | c
    · rw [mrg_lt c]
      refine nf_mk tb.2.1 tb.2.2.1 (mrg_nf _ _ ha tb.1) fun p hp => ?_
      obtain ⟨q, q1, q2⟩ := mrg_exp _ _ p hp
      rw [← q2]
      rcases q1 with q1 | q1
      · rcases List.mem_cons.mp (show q ∈ (e, n) :: r.parts from q1) with h | h
        · rw [h]; exact cmp_gt.mpr c
        · exact gt_trans (cmp_gt.mpr c) (ta.2.2.2 q h)
      · exact tb.2.2.2 q q1
    · subst c
      rw [mrg_eq]
      refine nf_mk ta.2.1 (by have := ta.2.2.1; have := tb.2.2.1; omega) (mrg_nf _ _ ta.1 tb.1) fun p hp => ?_
      obtain ⟨q, q1, q2⟩ := mrg_exp _ _ p hp
      rw [← q2]
      rcases q1 with q1 | q1
      · exact ta.2.2.2 q q1
      · exact tb.2.2.2 q q1
    · rw [mrg_gt c]
      refine nf_mk ta.2.1 ta.2.2.1 (mrg_nf _ _ ta.1 hb) fun p hp => ?_
      obtain ⟨q, q1, q2⟩ := mrg_exp _ _ p hp
      rw [← q2]
      rcases q1 with q1 | q1
      · exact ta.2.2.2 q q1
      · rcases List.mem_cons.mp (show q ∈ (e', n') :: r'.parts from q1) with h | h
        · rw [h]; exact c
        · exact gt_trans c (tb.2.2.2 q h)
termination_by a b => a.len + b.len
decreasing_by all_goals (simp only [O.len]; omega)
theorem mrg_len : ∀ a b : O, (mrgO a b).len ≤ a.len + b.len
  | .z, b => by rw [mrgO]; simp only [O.len]; omega
  | .c e n r, .z => by rw [mrgO]; exact Nat.le_add_right _ _
  | .c e n r, .c e' n' r' => by
    rcases cmp_tri e e' with c | c | c
    · rw [mrg_lt c]; have := mrg_len (.c e n r) r'; simp only [O.len] at this ⊢; omega
    · subst c; rw [mrg_eq]; have := mrg_len r r'; simp only [O.len] at this ⊢; omega
    · rw [mrg_gt c]; have := mrg_len r (.c e' n' r'); simp only [O.len] at this ⊢; omega
termination_by a b => a.len + b.len
decreasing_by all_goals (simp only [O.len]; omega)
theorem mrg_h {a b : O} {k : Nat} (ha : a.h ≤ k) (hb : b.h ≤ k) : (mrgO a b).h ≤ k := by
  rw [h_parts]
  intro p hp
  obtain ⟨q, q1, q2⟩ := mrg_exp a b p hp
  rw [← q2]
  rcases q1 with q1 | q1
  · exact (h_parts a).mp ha q q1
  · exact (h_parts b).mp hb q q1
theorem G.mrg {m n : Nat} {a b : O} (ha : G m a) (hb : G n b) : G (m + n) (mrgO a b) := ⟨mrg_nf _ _ ha.nf hb.nf, mrg_h ha.h hb.h, by have := mrg_len a b; have := ha.l; have := hb.l; omega⟩
theorem mrg_comm {a b : O} (ha : NF a) (hb : NF b) : mrgO a b = mrgO b a := co_ext (mrg_nf _ _ ha hb) (mrg_nf _ _ hb ha) fun x => by rw [mrg_co, mrg_co]; omega
theorem mrg_assoc {a b d : O} (ha : NF a) (hb : NF b) (hd : NF d) : mrgO (mrgO a b) d = mrgO a (mrgO b d) := co_ext (mrg_nf _ _ (mrg_nf _ _ ha hb) hd) (mrg_nf _ _ ha (mrg_nf _ _ hb hd)) fun x => by rw [mrg_co, mrg_co, mrg_co, mrg_co]; omega
theorem mrg_mono {a b d : O} (ha : NF a) (hb : NF b) (hd : NF d) (h : cmp b d = -1) : cmp (mrgO a b) (mrgO a d) = -1 := by
  obtain ⟨x, h1, h2⟩ := lt_co b d hb hd h
  exact co_lt (mrg_nf _ _ ha hb) (mrg_nf _ _ ha hd) ⟨x, by rw [mrg_co, mrg_co]; omega, fun y hy => by rw [mrg_co, mrg_co, h2 y hy]⟩
theorem mrg_cmp {a b d : O} (ha : NF a) (hb : NF b) (hd : NF d) : cmp (mrgO a b) (mrgO a d) = cmp b d := by
  rcases cmp_tri b d with c | c | c
  · rw [c, mrg_mono ha hb hd c]
  · subst c; rw [cmp_self, cmp_self]
  · rw [c]; exact cmp_gt.mpr (mrg_mono ha hd hb (cmp_gt.mp c))
theorem plus_co_le : ∀ a b x : O, NF a → NF b → sameN (plusO a b) x ≤ sameN a x + sameN b x
  | a, .z, x, ha, _ => by show sameN a x ≤ _; rw [co_z]; omega
  | .z, b, x, _, hb => by rw [plus_z, co_z]; omega
  | .c e n r, .c e' n' r', x, ha, hb => by
    have h1 := co_nonneg (x := x) ha
    have h2 := co_nonneg (x := x) (nf_tail ha).1
    rcases cmp_tri e e' with c | c | c
    · rw [plus_lt ha c]; omega
    · subst c; rw [plus_eq ha, co_c, co_c, co_c]; split <;> omega
    · rw [plus_gt c, co_c, co_c (e := e)]
      have := plus_co_le r (.c e' n' r') x (nf_tail ha).1 hb
      omega
theorem mrg_ge {a b : O} (ha : NF a) (hb : NF b) : ¬ cmp (mrgO a b) (plusO a b) < 0 :=
  co_le (plusO_nf ha hb) (mrg_nf _ _ ha hb) fun x => by rw [mrg_co]; exact plus_co_le a b x ha hb
theorem putP_co {a e x : O} {m : Int} (ha : NF a) : sameN (putP a e m) x = sameN a x + (if e = x then m else 0) := by
  have key : ∀ ps qs : List (O × Int), sameN (of (ps ++ qs)) x = sameN (of ps) x + sameN (of qs) x := fun ps qs => by
    unfold sameN
    rw [parts_of, parts_of, parts_of, List.filter_append, List.map_append, List.sum_append]
  obtain ⟨s1, s2⟩ := split_aux e a.parts ((nf_parts a).mp ha).1
  have e1 : sameN a x = sameN (of (above a e)) x + sameN (of (a.parts.filter fun p => decide (p.1 = e))) x + sameN (of (under a e)) x := by
    rw [← key, ← key]
    exact congrArg (fun z => sameN z x) ((of_parts a).symm.trans (congrArg of s1))
  have e2 : sameN (of (a.parts.filter fun p => decide (p.1 = e))) x = if e = x then sameN a e else 0 := by
    rcases s2 with s2 | ⟨k, s2⟩
    · have : sameN a e = 0 := by unfold sameN; rw [s2]; rfl
      rw [s2, this]; simp [sameN, of, O.parts]
    · have : sameN a e = k := by unfold sameN; rw [s2]; simp
      rw [s2, this]
      show sameN (.c e k .z) x = _
      rw [co_c, co_z]; omega
  unfold putP
  rw [key, key, e1, e2]
  show _ + sameN (.c e (sameN a e + m) .z) x + _ = _
  rw [co_c, co_z]
  split <;> omega
theorem fold_put : ∀ (b a : O), NF a → NF b → (b.parts.foldl (fun x p => putP x p.1 p.2) a) = mrgO a b
  | .z, a, _, _ => mrg_z.symm
  | .c e n s, a, ha, hb => by
    have tb := nf_tail hb
    show (s.parts.foldl (fun x p => putP x p.1 p.2) (putP a e n)) = _
    have hp := putP_nf (m := n) ha tb.2.1 tb.2.2.1
    rw [fold_put s (putP a e n) hp tb.1]
    refine co_ext (mrg_nf _ _ hp tb.1) (mrg_nf _ _ ha hb) fun x => ?_
    rw [mrg_co, mrg_co, putP_co ha, co_c]
    omega
end Nm
set_option Elab.async false
set_option linter.all false
set_option maxRecDepth 100000
set_option maxHeartbeats 4000000
namespace Pu
open PySem
theorem whileL_t {T : Vars → R Bool} {B : Vars → Out} {f : Nat} {ρ ρ2 : Vars} (h1 : T ρ = .ok true) (h2 : B ρ = .nx ρ2) : whileL T B (f + 1) ρ = whileL T B f ρ2 := by
  show (T ρ).run ρ _ = _
  rw [h1, R.run_ok, if_pos rfl, h2]
theorem whileL_f {T : Vars → R Bool} {B : Vars → Out} {f : Nat} {ρ : Vars} (h1 : T ρ = .ok false) : whileL T B (f + 1) ρ = .nx ρ := by
  show (T ρ).run ρ _ = _
  rw [h1, R.run_ok, if_neg Bool.false_ne_true]
end Pu
namespace Nm
open PySem Pu O L2
abbrev mT : Vars → R Bool := tAndR (tOf (eOp gLt (eVar 3) (eCall gLen (aCons (eVar 0) aNil)))) (tOf (eOp gLt (eVar 4) (eCall gLen (aCons (eVar 1) aNil))))
abbrev mB (F : Fn) : Vars → Out := sSeq (sSetM [2] 5 (eFn F (aCons (eOp gIx (eOp gIx (eVar 0) (eVar 3)) (eC (.int 0))) (aCons (eOp gIx (eOp gIx (eVar 1) (eVar 4)) (eC (.int 0))) aNil)))) (sIf (tOf (eOp gEq (eVar 5) (eC (.int 1)))) (sSeq (sAppM [2] 2 (eOp gIx (eVar 0) (eVar 3))) (sAug [2] 3 gAddI (eC (.int 1)))) (sIf (tOf (eOp gEq (eVar 5) (eNeg (eC (.int 1))))) (sSeq (sAppM [2] 2 (eOp gIx (eVar 1) (eVar 4))) (sAug [2] 4 gAddI (eC (.int 1)))) (sSeq (sAppM [2] 2 (eTup (aCons (eOp gIx (eOp gIx (eVar 0) (eVar 3)) (eC (.int 0))) (aCons (eOp gAdd (eOp gIx (eOp gIx (eVar 0) (eVar 3)) (eC (.int 1))) (eOp gIx (eOp gIx (eVar 1) (eVar 4)) (eC (.int 1)))) aNil)))) (sSeq (sAug [2] 3 gAddI (eC (.int 1))) (sAug [2] 4 gAddI (eC (.int 1)))))))
theorem drop_at {ps : List (O × Int)} {i : Nat} {p : O × Int} {r : List (O × Int)} (h : ps.drop i = p :: r) : ps[i]? = some p ∧ ps.drop (i + 1) = r ∧ i < ps.length := by
  have h1 : i < ps.length := by
    rcases Nat.lt_or_ge i ps.length with c | c
    · exact c
    · rw [List.drop_eq_nil_of_le c] at h; cases h
  have h2 := List.drop_eq_getElem_cons h1
  rw [h2] at h
  injection h with h3 h4
  exact ⟨by rw [List.getElem?_eq_getElem h1, h3], h4, h1⟩
theorem atI_at {a : O} {i : Nat} {p : O × Int} (h : a.parts[i]? = some p) : atI (encL a) (i : Int) = some (encP p) := by
  rw [encL_parts]
  exact L2.atI_nat (by rw [List.getElem?_map, h]; rfl)
theorem mrg_loop {k : Nat} {F : Fn} (hF : CmpOk k F) {a b : O} (ha : a.h ≤ k) : ∀ (f : Nat) (x y : O) (i j : Nat) (Fd : List (O × Int)) (s : Option PyData), a.parts.drop i = x.parts → b.parts.drop j = y.parts → i ≤ a.len → j ≤ b.len → x.len + y.len + 1 ≤ f → Fd.length + x.len + y.len ≤ 2000 →
    ∃ (i' j' : Nat) (F' : List (O × Int)) (s' : Option PyData), whileL mT (mB F) f [some (enc a), some (enc b), some (.list (Fd.map encP)), some (.int (i : Nat)), some (.int (j : Nat)), s] = .nx [some (enc a), some (enc b), some (.list (F'.map encP)), some (.int (i' : Nat)), some (.int (j' : Nat)), s'] ∧
      F' ++ a.parts.drop i' ++ b.parts.drop j' = Fd ++ (mrgO x y).parts ∧ i' ≤ a.len ∧ j' ≤ b.len ∧ F'.length ≤ 2000
  | 0, x, y, i, j, Fd, s, _, _, _, _, hf, _ => by omega
  | f + 1, .z, y, i, j, Fd, s, hx, hy, hi, hj, hf, hl => by
    have hi2 : a.parts.length ≤ i := by
      rcases Nat.lt_or_ge i a.parts.length with c | c
      · rw [List.drop_eq_getElem_cons c] at hx; cases hx
      · exact c
    rw [len_parts] at hi2
    have t : mT [some (enc a), some (enc b), some (.list (Fd.map encP)), some (.int (i : Nat)), some (.int (j : Nat)), s] = .ok false := by
      have : ¬ (i : Int) < (a.len : Int) := by omega
      simp [this]
    refine ⟨i, j, Fd, s, whileL_f t, ?_, hi, hj, by omega⟩
    rw [hx, hy, mrgO]
    show Fd ++ [] ++ y.parts = _
    rw [List.append_nil]
  | f + 1, .c e n r, .z, i, j, Fd, s, hx, hy, hi, hj, hf, hl => by
    have hj2 : b.parts.length ≤ j := by
      rcases Nat.lt_or_ge j b.parts.length with c | c
      · rw [List.drop_eq_getElem_cons c] at hy; cases hy
      · exact c
    rw [len_parts] at hj2
    have t : mT [some (enc a), some (enc b), some (.list (Fd.map encP)), some (.int (i : Nat)), some (.int (j : Nat)), s] = .ok false := by
      have : ¬ (j : Int) < (b.len : Int) := by omega
      by_cases c : (i : Int) < (a.len : Int) <;> simp [this, c] <;> omega
    refine ⟨i, j, Fd, s, whileL_f t, ?_, hi, hj, by omega⟩
    rw [hx, hy, mrgO]
    show Fd ++ _ ++ [] = _
    rw [List.append_nil]
  | f + 1, .c e n r, .c e' n' r', i, j, Fd, s, hx, hy, hi, hj, hf, hl => by
    obtain ⟨x1, x2, x3⟩ := drop_at (show a.parts.drop i = (e, n) :: r.parts from hx)
    obtain ⟨y1, y2, y3⟩ := drop_at (show b.parts.drop j = (e', n') :: r'.parts from hy)
    rw [len_parts] at x3 y3
    simp only [O.len] at hf hl
    have pe : e.h + 1 ≤ a.h := part_mem_h (List.mem_of_getElem? x1)
    have ax := atI_at x1
    have ay := atI_at y1
    have cc := hF e e' (by omega)
    have t : mT [some (enc a), some (enc b), some (.list (Fd.map encP)), some (.int (i : Nat)), some (.int (j : Nat)), s] = .ok true := by
      have h1 : (i : Int) < (a.len : Int) := by omega
      have h2 : (j : Int) < (b.len : Int) := by omega
      simp [h1, h2]
    have s1 : Fd.length < sizeLine := sz1000' (by omega)
    rcases cmp_tri e e' with c | c | c
    · rw [c] at cc
      have bd : mB F [some (enc a), some (enc b), some (.list (Fd.map encP)), some (.int (i : Nat)), some (.int (j : Nat)), s] = .nx [some (enc a), some (enc b), some (.list ((Fd ++ [(e', n')]).map encP)), some (.int (i : Nat)), some (.int ((j + 1 : Nat) : Nat)), some (.int (-1))] := by
        simp [mask, ax, ay, cc, s1, gAddI]
      obtain ⟨i', j', F', s', g1, g2, g3, g4, g5⟩ := mrg_loop hF ha f (.c e n r) r' i (j + 1) (Fd ++ [(e', n')]) (some (.int (-1))) hx y2 hi (by omega) (by simp only [O.len]; omega) (by rw [List.length_append, List.length_singleton]; simp only [O.len]; omega)
      refine ⟨i', j', F', s', by rw [whileL_t t bd]; exact g1, ?_, g3, g4, g5⟩
      rw [g2, mrg_lt c]
      show Fd ++ [(e', n')] ++ _ = Fd ++ (e', n') :: _
      simp
    · subst c
      rw [cmp_self] at cc
      have bd : mB F [some (enc a), some (enc b), some (.list (Fd.map encP)), some (.int (i : Nat)), some (.int (j : Nat)), s] = .nx [some (enc a), some (enc b), some (.list ((Fd ++ [(e, n + n')]).map encP)), some (.int ((i + 1 : Nat) : Nat)), some (.int ((j + 1 : Nat) : Nat)), some (.int 0)] := by
        simp [mask, ax, ay, cc, s1, gAddI]
      obtain ⟨i', j', F', s', g1, g2, g3, g4, g5⟩ := mrg_loop hF ha f r r' (i + 1) (j + 1) (Fd ++ [(e, n + n')]) (some (.int 0)) x2 y2 (by omega) (by omega) (by omega) (by rw [List.length_append, List.length_singleton]; omega)
      refine ⟨i', j', F', s', by rw [whileL_t t bd]; exact g1, ?_, g3, g4, g5⟩
      rw [g2, mrg_eq]
      show Fd ++ [(e, n + n')] ++ _ = Fd ++ (e, n + n') :: _
      simp
    · rw [c] at cc
      have bd : mB F [some (enc a), some (enc b), some (.list (Fd.map encP)), some (.int (i : Nat)), some (.int (j : Nat)), s] = .nx [some (enc a), some (enc b), some (.list ((Fd ++ [(e, n)]).map encP)), some (.int ((i + 1 : Nat) : Nat)), some (.int (j : Nat)), some (.int 1)] := by
        simp [mask, ax, ay, cc, s1, gAddI]
      obtain ⟨i', j', F', s', g1, g2, g3, g4, g5⟩ := mrg_loop hF ha f r (.c e' n' r') (i + 1) j (Fd ++ [(e, n)]) (some (.int 1)) x2 hy (by omega) hj (by simp only [O.len]; omega) (by rw [List.length_append, List.length_singleton]; simp only [O.len]; omega)
      refine ⟨i', j', F', s', by rw [whileL_t t bd]; exact g1, ?_, g3, g4, g5⟩
      rw [g2, mrg_gt c]
      show Fd ++ [(e, n)] ++ _ = Fd ++ (e, n) :: _
      simp
def MrgOk (k : Nat) (F : Fn) : Prop := ∀ a b : O, a.h ≤ k → a.len ≤ 900 → b.len ≤ 900 → F [enc a, enc b] = .ok (enc (mrgO a b))
theorem merged_step {S : Nat → Fn} {c0 k : Nat} (hc : CmpOk k (S c0)) : MrgOk k (fun ds => fnD 6 (G_merged c0 S) ds) := by
  intro a b ha la lb
  refine fnD_of ?_
  obtain ⟨i, j, F', s', g1, g2, g3, g4, g5⟩ := mrg_loop hc (a := a) (b := b) ha wfuel a b 0 0 [] none rfl rfl (Nat.zero_le _) (Nat.zero_le _) (by show _ ≤ 1000000; omega) (by simp; omega)
  have ep : encL (mrgO a b) = F'.map encP ++ (encL a).drop i ++ (encL b).drop j := by
    rw [List.nil_append] at g2
    rw [encL_parts, ← g2, encL_parts a, encL_parts b, List.map_append, List.map_append, List.map_drop, List.map_drop]
  have c1 : Pu.cutD (encL a) (some (i : Int)) none = (encL a).drop i := by rw [cut_back, encL_len, Nat.min_eq_left g3]
  have c2 : Pu.cutD (encL b) (some (j : Int)) none = (encL b).drop j := by rw [cut_back, encL_len, Nat.min_eq_left g4]
  have l1 : ((encL a).drop i).length ≤ 900 := by rw [List.length_drop, encL_len]; omega
  have l2 : ((encL b).drop j).length ≤ 900 := by rw [List.length_drop, encL_len]; omega
  have s1 : F'.length + ((encL a).drop i).length ≤ sizeLine := sz1000 (by omega)
  have s2 : F'.length + ((encL a).drop i).length + ((encL b).drop j).length ≤ sizeLine := sz1000 (by omega)
  have g1' : whileL mT (mB (S c0)) wfuel [some (enc a), some (enc b), some (.list []), some (.int 0), some (.int 0), none] = _ := g1
  unfold G_merged
  rw [u_sSeq]
  have e1 : (sNew [2] 2 (nLst aNil)) (List.map some [enc a, enc b] ++ List.replicate (6 - [enc a, enc b].length) none) = .nx [some (enc a), some (enc b), some (.list []), none, none, none] := by simp
  rw [e1, Out.then_nx, u_sSeq]
  have e2 : (sSetM [2] 3 (eC (.int 0))) [some (enc a), some (enc b), some (.list []), none, none, none] = .nx [some (enc a), some (enc b), some (.list []), some (.int 0), none, none] := by simp
  rw [e2, Out.then_nx, u_sSeq]
  have e3 : (sSetM [2] 4 (eC (.int 0))) [some (enc a), some (enc b), some (.list []), some (.int 0), none, none] = .nx [some (enc a), some (enc b), some (.list []), some (.int 0), some (.int 0), none] := by simp
  rw [e3, Out.then_nx, u_sSeq, g1', Out.then_nx]
  simp only [List.length_drop, encL_len] at s1 s2
  simp [c1, c2, s1, s2, ep]
end Nm
set_option Elab.async false
set_option linter.all false
set_option maxRecDepth 100000
set_option maxHeartbeats 4000000
namespace Pu
open PySem
theorem fnD_err {N : Nat} {g : Vars → Out} {ds : List PyData} {c : Str} {ρ : Vars} (h : g (ds.map some ++ List.replicate (N - ds.length) none) = .err c ρ) : fnD N g ds = .err c := by unfold fnD; rw [h]
end Pu
namespace Nm
open PySem Pu O L2
/-! ### minus -/
def minusO : O → O → O
  | a, .z => a
  | .z, _ => .z
  | .c e n r, .c e' n' r' => if e = e' then (if n = n' then minusO r r' else .c e (n - n') r) else .c e n r
theorem minus_exp : ∀ (a b : O) (p : O × Int), p ∈ (minusO a b).parts → ∃ q, q ∈ a.parts ∧ q.1 = p.1
  | a, .z, p, h => ⟨p, by cases a <;> exact h, rfl⟩
  | .z, .c _ _ _, p, h => by cases h
  | .c e n r, .c e' n' r', p, h => by
    have inA : ∀ q ∈ r.parts, q ∈ (O.c e n r).parts := fun q hq => by show q ∈ (e, n) :: r.parts; simp [hq]
    have hA : (e, n) ∈ (O.c e n r).parts := by show _ ∈ (e, n) :: r.parts; simp
    unfold minusO at h
    by_cases c1 : e = e'
    · rw [if_pos c1] at h
      by_cases c2 : n = n'
      · rw [if_pos c2] at h
        obtain ⟨q, q1, q2⟩ := minus_exp r r' p h
        exact ⟨q, inA q q1, q2⟩
      · rw [if_neg c2] at h
        rcases List.mem_cons.mp (show p ∈ (e, n - n') :: r.parts from h) with h | h
        · exact ⟨_, hA, by rw [h]⟩
        · exact ⟨p, inA p h, rfl⟩
    · rw [if_neg c1] at h
      exact ⟨p, h, rfl⟩
theorem minus_len : ∀ a b : O, (minusO a b).len ≤ a.len
  | a, .z => by cases a <;> exact Nat.le_refl _
  | .z, .c _ _ _ => Nat.le_refl _
  | .c e n r, .c e' n' r' => by
    have := minus_len r r'
    unfold minusO
    split
    · split
      · simp only [O.len]; omega
      · simp only [O.len]; omega
    · exact Nat.le_refl _
theorem minus_h {a b : O} {k : Nat} (ha : a.h ≤ k) : (minusO a b).h ≤ k := by
  rw [h_parts]
  intro p hp
  obtain ⟨q, q1, q2⟩ := minus_exp a b p hp
  rw [← q2]
  exact (h_parts a).mp ha q q1
theorem minus_z {a : O} : minusO a .z = a := by cases a <;> rfl
theorem le_c {e r e' r' : O} {n n' : Int} (h : cmp (.c e' n' r') (.c e n r) ≠ 1) : cmp e' e = -1 ∨ (e' = e ∧ (n' < n ∨ (n' = n ∧ cmp r' r ≠ 1))) := by
  rcases cmp_tri (.c e' n' r') (.c e n r) with c | c | c
  · rcases cmp_c.mp c with d | ⟨d1, d2 | ⟨d2, d3⟩⟩
    · exact Or.inl d
    · exact Or.inr ⟨d1, Or.inl d2⟩
    · exact Or.inr ⟨d1, Or.inr ⟨d2, by rw [d3]; decide⟩⟩
  · injection c with c1 c2 c3
    exact Or.inr ⟨c1, Or.inr ⟨c2, by rw [c3, cmp_self]; decide⟩⟩
  · exact absurd c h
theorem cmp_cz {e r : O} {n : Int} : cmp (.c e n r) .z = 1 := by simp [cmp]
theorem minus_ok : ∀ a b : O, NF a → NF b → cmp b a ≠ 1 → NF (minusO a b) ∧ plusO b (minusO a b) = a
  | a, .z, ha, _, _ => by rw [minus_z, plus_z]; exact ⟨ha, rfl⟩
  | .z, .c _ _ _, _, _, h => absurd cmp_cz h
  | .c e n r, .c e' n' r', ha, hb, h => by
    have ta := nf_tail ha
    have tb := nf_tail hb
    rcases le_c h with d | ⟨d1, d2⟩
    · have ne : ¬ e = e' := fun z => by rw [z, cmp_self] at d; cases d
      have : minusO (.c e n r) (.c e' n' r') = .c e n r := by unfold minusO; rw [if_neg ne]
      rw [this]
      exact ⟨ha, plus_lt hb d⟩
    · subst d1
      rcases d2 with d2 | ⟨d2, d3⟩
      · have : minusO (.c e' n r) (.c e' n' r') = .c e' (n - n') r := by unfold minusO; rw [if_pos rfl, if_neg (by omega)]
        rw [this]
        refine ⟨nf_mk ta.2.1 (by omega) ta.1 ta.2.2.2, ?_⟩
        rw [plus_eq hb, show n' + (n - n') = n by omega]
      · subst d2
        obtain ⟨i1, i2⟩ := minus_ok r r' ta.1 tb.1 d3
        have : minusO (.c e' n' r) (.c e' n' r') = minusO r r' := by rw [minusO, if_pos rfl, if_pos rfl]
        rw [this]
        refine ⟨i1, ?_⟩
        cases hx : minusO r r' with
        | z =>
          rw [hx] at i2
          have i2' : r' = r := i2
          rw [i2']; rfl
        | c f k s =>
          have hm : (f, k) ∈ (minusO r r').parts := by rw [hx]; show _ ∈ (f, k) :: s.parts; simp
          obtain ⟨q, q1, q2⟩ := minus_exp r r' _ hm
          have : cmp e' f = 1 := by have := ta.2.2.2 q q1; rw [q2] at this; exact this
          rw [plus_gt this, ← hx, i2]
theorem G.minus {m : Nat} {a b : O} (ha : G m a) (hb : NF b) (h : cmp b a ≠ 1) : G m (minusO a b) := ⟨(minus_ok a b ha.nf hb h).1, minus_h ha.h, Nat.le_trans (minus_len a b) ha.l⟩
theorem plus_ge {a b : O} (ha : NF a) (hb : NF b) : cmp a (plusO a b) ≠ 1 := by
  have := plus_cmp (a := a) (b := .z) (d := b) ha trivial hb
  have e : plusO a .z = a := rfl
  rw [e] at this
  rw [this]
  cases b <;> simp [cmp]
theorem minus_plus {a b : O} (ha : NF a) (hb : NF b) : minusO (plusO a b) a = b := by
  obtain ⟨h1, h2⟩ := minus_ok (plusO a b) a (plusO_nf ha hb) ha (plus_ge ha hb)
  exact plus_inj ha h1 hb h2
theorem gEq_part {e e' : O} {n n' : Int} (he : e.h ≤ 30) (he' : e'.h ≤ 30) : gEq (.tuple [enc e, .int n]) (.tuple [enc e', .int n']) = some (.bool (decide (e = e' ∧ n = n'))) := by
  have sh : ∀ (e : O) (n : Int), e.h ≤ 30 → SeqAt.shaped (.tuple [enc e, .int n]) = true := fun e n he => by
    have h1 := enc_lay e
    have h2 := enc_depth e
    simp only [PyData.canLay0, PyData.depth] at h1 h2
    unfold SeqAt.shaped
    simp only [PyData.canLay0, PyData.canLayAll0, PyData.depth, PyData.depthAll, h1, Bool.and_self, Bool.true_and]
    exact decide_eq_true (by omega)
  have ev := enc_eqv e e'
  simp only [PyData.eqv] at ev
  unfold gEq
  rw [sh e n he, sh e' n' he']
  simp only [PyData.eqv, PyData.eqvAll, ev, Bool.and_true, Bool.and_self, if_true]
  by_cases c1 : e = e' <;> by_cases c2 : n = n' <;> simp [c1, c2]
abbrev nT : Vars → R Bool := tAndR (tOf (eOp gLt (eVar 2) (eCall gLen (aCons (eVar 1) aNil)))) (tOf (eOp gEq (eOp gIx (eVar 0) (eVar 2)) (eOp gIx (eVar 1) (eVar 2))))
abbrev nB : Vars → Out := sAug [] 2 gAddI (eC (.int 1))
theorem min_loop {a b : O} (ha : a.h ≤ 31) (hb : b.h ≤ 31) : ∀ (f : Nat) (x y : O) (i : Nat), a.parts.drop i = x.parts → b.parts.drop i = y.parts → i ≤ b.len → cmp y x ≠ 1 → y.len + 1 ≤ f →
    ∃ (i' : Nat) (x' y' : O), whileL nT nB f [some (enc a), some (enc b), some (.int (i : Nat)), none, none] = .nx [some (enc a), some (enc b), some (.int (i' : Nat)), none, none] ∧
      a.parts.drop i' = x'.parts ∧ b.parts.drop i' = y'.parts ∧ i' ≤ b.len ∧ minusO x y = minusO x' y' ∧ (y' = .z ∨ ∃ e n r e' n' r', x' = .c e n r ∧ y' = .c e' n' r' ∧ ¬ (e = e' ∧ n = n'))
  | 0, x, y, i, _, _, _, _, hf => by omega
  | f + 1, x, .z, i, hx, hy, hi, hc, hf => by
    have hi2 : b.parts.length ≤ i := by
      rcases Nat.lt_or_ge i b.parts.length with c | c
      · rw [List.drop_eq_getElem_cons c] at hy; cases hy
      · exact c
    rw [len_parts] at hi2
    have t : nT [some (enc a), some (enc b), some (.int (i : Nat)), none, none] = .ok false := by
      have : ¬ (i : Int) < (b.len : Int) := by omega
      simp [this]
    exact ⟨i, x, .z, whileL_f t, hx, hy, hi, rfl, Or.inl rfl⟩
  | f + 1, .z, .c e' n' r', i, hx, hy, hi, hc, hf => absurd cmp_cz hc
  | f + 1, .c e n r, .c e' n' r', i, hx, hy, hi, hc, hf => by
    obtain ⟨x1, x2, x3⟩ := drop_at (show a.parts.drop i = (e, n) :: r.parts from hx)
    obtain ⟨y1, y2, y3⟩ := drop_at (show b.parts.drop i = (e', n') :: r'.parts from hy)
    rw [len_parts] at y3
    have pe : e.h + 1 ≤ a.h := part_mem_h (List.mem_of_getElem? x1)
    have pe' : e'.h + 1 ≤ b.h := part_mem_h (List.mem_of_getElem? y1)
    have ax := atI_at x1
    have ay := atI_at y1
    have ge := gEq_part (e := e) (e' := e') (n := n) (n' := n') (by omega) (by omega)
    have lt : (i : Int) < (b.len : Int) := by omega
    by_cases c : e = e' ∧ n = n'
    · rw [decide_eq_true c] at ge
      have t : nT [some (enc a), some (enc b), some (.int (i : Nat)), none, none] = .ok true := by simp [lt, ax, ay, ge]
      have bd : nB [some (enc a), some (enc b), some (.int (i : Nat)), none, none] = .nx [some (enc a), some (enc b), some (.int ((i + 1 : Nat) : Nat)), none, none] := by simp [gAddI]
      obtain ⟨c1, c2⟩ := c
      subst c1; subst c2
      have hc2 : cmp r' r ≠ 1 := by
        rcases le_c hc with d | ⟨_, d | ⟨_, d⟩⟩
        · rw [cmp_self] at d; cases d
        · omega
        · exact d
      simp only [O.len] at hf
      obtain ⟨i', x', y', g1, g2, g3, g4, g5, g6⟩ := min_loop ha hb f r r' (i + 1) x2 y2 (by omega) hc2 (by omega)
      refine ⟨i', x', y', by rw [whileL_t t bd]; exact g1, g2, g3, g4, ?_, g6⟩
      rw [← g5, minusO, if_pos rfl, if_pos rfl]
    · rw [decide_eq_false c] at ge
      have t : nT [some (enc a), some (enc b), some (.int (i : Nat)), none, none] = .ok false := by simp [lt, ax, ay, ge]
      exact ⟨i, _, _, whileL_f t, hx, hy, hi, rfl, Or.inr ⟨e, n, r, e', n', r', rfl, rfl, c⟩⟩
def MinOk (k : Nat) (F : Fn) : Prop := ∀ a b : O, b.h < k → a.h ≤ 30 → b.h ≤ 30 → a.len ≤ 100000 → b.len ≤ 100000 → (cmp b a ≠ 1 → F [enc a, enc b] = .ok (enc (minusO a b))) ∧ (cmp b a = 1 → F [enc a, enc b] = .err "TooHigh")
theorem minus_step {S : Nat → Fn} {c0 k : Nat} (hc : CmpOk k (S c0)) : MinOk k (fun ds => fnD 5 (G_minus c0 S) ds) := by
  intro a b hk ha hb la lb
  have cc := hc b a hk
  refine ⟨fun hle => fnD_of ?_, fun hgt => ?_⟩
  · have ne : ¬ cmp b a = 1 := hle
    obtain ⟨i, x, y, g1, g2, g3, g4, g5, g6⟩ := min_loop (a := a) (b := b) (by omega) (by omega) wfuel a b 0 rfl rfl (Nat.zero_le _) hle (by show _ ≤ 1000000; omega)
    have g1' : whileL nT nB wfuel [some (enc a), some (enc b), some (.int 0), none, none] = _ := g1
    have dr : Pu.cutD (encL a) (some (i : Int)) none = encL (of (a.parts.drop i)) := by
      rw [cut_back, encL_len]
      rcases Nat.le_total i a.len with c | c
      · rw [Nat.min_eq_left c, encL_drop]
      · rw [Nat.min_eq_right c, encL_drop]
        have e1 : a.parts.drop a.len = [] := List.drop_eq_nil_of_le (by rw [len_parts]; exact Nat.le_refl _)
        have e2 : a.parts.drop i = [] := List.drop_eq_nil_of_le (by rw [len_parts]; exact c)
        rw [e1, e2]
    rw [g2, of_parts] at dr
    have e0 : minusO a b = minusO x y := g5
    unfold G_minus
    rcases g6 with g6 | ⟨e, n, r, e', n', r', hx, hy, hne⟩
    · subst g6
      have il : i = b.len := by
        have : b.parts.length ≤ i := by
          rcases Nat.lt_or_ge i b.parts.length with c | c
          · rw [List.drop_eq_getElem_cons c] at g3; cases g3
          · exact c
        rw [len_parts] at this
        omega
      rw [minus_z] at e0
      subst il
      simp [cc, ne, g1', dr, e0]
    · obtain ⟨x1, x2, x3⟩ := drop_at (show a.parts.drop i = (e, n) :: r.parts by rw [g2, hx]; rfl)
      obtain ⟨y1, y2, y3⟩ := drop_at (show b.parts.drop i = (e', n') :: r'.parts by rw [g3, hy]; rfl)
      rw [len_parts] at x3 y3
      have pe : e.h + 1 ≤ a.h := part_mem_h (List.mem_of_getElem? x1)
      have pe' : e'.h + 1 ≤ b.h := part_mem_h (List.mem_of_getElem? y1)
      have ax := atI_at x1
      have ay := atI_at y1
      have il : ¬ (i : Int) = (b.len : Int) := by omega
      have ge := gEq_enc (a := e) (b := e') (by omega) (by omega)
      by_cases c : e = e'
      · subst c
        rw [decide_eq_true rfl] at ge
        have nn : ¬ n = n' := fun z => hne ⟨rfl, z⟩
        have em : minusO a b = .c e (n - n') r := by rw [e0, hx, hy, minusO, if_pos rfl, if_neg nn]
        have dr2 : Pu.cutD (encL a) (some ((i : Int) + 1)) none = encL r := by
          rw [show ((i : Int) + 1) = ((i + 1 : Nat) : Int) by omega, cut_back, encL_len, Nat.min_eq_left (by omega), encL_drop, x2, of_parts]
        have lr : r.len ≤ 100000 := by
          have := congrArg List.length x2
          rw [List.length_drop, len_parts, len_parts] at this
          omega
        have s1 : 1 + r.len ≤ sizeLine := sz1000 (by omega)
        have ep : encL (minusO a b) = encP (e, n - n') :: encL r := by rw [em]; rfl
        simp [cc, ne, g1', il, ax, ay, ge, dr2, s1, ep]
      · rw [decide_eq_false c] at ge
        have em : minusO a b = x := by rw [e0, hx, hy, minusO, if_neg c]
        simp [cc, ne, g1', il, ax, ay, ge, dr, em]
  · rw [hgt] at cc
    refine fnD_err (ρ := [some (enc a), some (enc b), none, none, none]) ?_
    unfold G_minus
    simp [cc]
end Nm
set_option Elab.async false
set_option linter.all false
set_option maxRecDepth 100000
namespace Pu
open PySem
-- k21 k22 k23 k24 k25 k27 k28 k29 k30 k62 k63 k64 k65 k66 k69 k71 k72 k73 k75 k76 k81 k83 k84 slots 7 params 2
def G_times (c0 : Nat) (S : Nat → List PyData → R PyData) : Vars → Out :=
  (sSeq (sIf (tOf (eOp gEq (eVar 0) (eTup aNil))) (sRet (eTup aNil)) sNil)
    (sSeq (sAsg [4] (gtTup 2 (gtCons (gtName 2) (gtCons (gtName 3) gtNil))) (eOp gIx (eVar 0) (eC (.int 0))))
    (sSeq (sNew [4] 4 (nLst aNil))
    (sSeq (sFor [4] (iSeq (eVar 1)) (gtTup 2 (gtCons (gtName 5) (gtCons (gtName 6) gtNil))) (sIf (tOf (eOp gEq (eVar 5) (eTup aNil))) (sSeq (sAppM [4] 4 (eTup (aCons (eVar 2) (aCons (eOp gMul (eVar 3) (eVar 6)) aNil)))) (sExtM [4] 4 (eSl (eVar 0) (oSome (eC (.int 1))) oNone))) (sAppM [4] 4 (eTup (aCons (eFn (S c0) (aCons (eVar 2) (aCons (eVar 5) aNil))) (aCons (eVar 6) aNil))))))
    (sRet (eCall gTuple (aCons (eVar 4) aNil)))))))
-- k21 k22 k23 k24 k25 k26 k27 k28 k30 k31 k32 k33 k34 k35 k36 k37 slots 3 params 2
def G_l_mixed (S : Nat → List PyData → R PyData) : Vars → Out :=
  (sSeq (sSet [] 2 (eOp gMod (eOp gAdd (eOp gMod (eVar 0) (eC (.int 2147483629))) (eOp gMul (eC (.int 48271)) (eOp gAdd (eVar 1) (eC (.int 1))))) (eC (.int 2147483647))))
    (sSeq (sSet [] 2 (eOp gMod (eOp gAdd (eOp gAdd (eOp gMul (eVar 2) (eVar 2)) (eOp gMul (eC (.int 69621)) (eVar 1))) (eC (.int 7))) (eC (.int 2147483587))))
    (sRet (eOp gMod (eOp gMul (eVar 2) (eVar 2)) (eC (.int 2147483579))))))
-- k21 k22 k23 k24 k25 k26 k27 k28 k29 k30 k31 k32 k33 k34 k35 k36 k37 slots 5 params 2
def G_l_order (c0 : Nat) (S : Nat → List PyData → R PyData) : Vars → Out :=
  (sSeq (sFor [] (iZipD (aCons (eVar 0) (aCons (eVar 1) aNil))) (gtTup 2 (gtCons (gtName 2) (gtCons (gtName 3) gtNil))) (sSeq (sSet [] 4 (eFn (S c0) (aCons (eOp gIx (eVar 2) (eC (.int 0))) (aCons (eOp gIx (eVar 3) (eC (.int 0))) aNil)))) (sSeq (sIf (tOf (eOp gNe (eVar 4) (eC (.int 0)))) (sRet (eVar 4)) sNil) (sIf (tOf (eOp gNe (eOp gIx (eVar 2) (eC (.int 1))) (eOp gIx (eVar 3) (eC (.int 1))))) (sRet (eOp gSub (eC (.int 1)) (eOp gMul (eC (.int 2)) (eCall gIntC (aCons (eOp gLt (eOp gIx (eVar 2) (eC (.int 1))) (eOp gIx (eVar 3) (eC (.int 1)))) aNil))))) sNil))))
    (sRet (eOp gSub (eCall gIntC (aCons (eOp gGt (eCall gLen (aCons (eVar 0) aNil)) (eCall gLen (aCons (eVar 1) aNil))) aNil)) (eCall gIntC (aCons (eOp gLt (eCall gLen (aCons (eVar 0) aNil)) (eCall gLen (aCons (eVar 1) aNil))) aNil)))))
-- k21 k22 k23 k24 k25 k26 k27 k28 k29 k31 k32 k35 k36 slots 3 params 1
def G_l_number (c0 c1 : Nat) (S : Nat → List PyData → R PyData) : Vars → Out :=
  (sSeq (sIf (tNotR (tTru (eIsi "tuple" (eVar 0)))) (sRet (eC (.bool false))) sNil)
    (sSeq (sFor [] (iSeq (eVar 0)) (gtName 1) (sSeq (sIf (tOrR (tNotR (tTru (eIsi "tuple" (eVar 1)))) (tOrR (tOf (eOp gNe (eCall gLen (aCons (eVar 1) aNil)) (eC (.int 2)))) (tNotR (tTru (eFn (S c0) (aCons (eOp gIx (eVar 1) (eC (.int 0))) aNil)))))) (sRet (eC (.bool false))) sNil) (sIf (tOrR (tNotR (tTru (eIsi "int" (eOp gIx (eVar 1) (eC (.int 1)))))) (tOrR (tTru (eIsi "bool" (eOp gIx (eVar 1) (eC (.int 1))))) (tOf (eOp gLt (eOp gIx (eVar 1) (eC (.int 1))) (eC (.int 1)))))) (sRet (eC (.bool false))) sNil)))
    (sSeq (sFor [] (iRange (aCons (eC (.int 1)) (aCons (eCall gLen (aCons (eVar 0) aNil)) aNil))) (gtName 2) (sIf (tOf (eOp gNe (eFn (S c1) (aCons (eOp gIx (eOp gIx (eVar 0) (eOp gSub (eVar 2) (eC (.int 1)))) (eC (.int 0))) (aCons (eOp gIx (eOp gIx (eVar 0) (eVar 2)) (eC (.int 0))) aNil))) (eC (.int 1)))) (sRet (eC (.bool false))) sNil))
    (sRet (eC (.bool true))))))
-- k21 k22 k23 k24 k25 k26 k27 k28 k30 k31 k32 k33 k34 k35 k36 k37 slots 3 params 2
def G_l_put (c0 : Nat) (S : Nat → List PyData → R PyData) : Vars → Out :=
  (sSeq (sSet [] 2 (eC (.int 0)))
    (sSeq (whileL (tAndR (tOf (eOp gLt (eVar 2) (eCall gLen (aCons (eVar 0) aNil)))) (tOf (eOp gEq (eFn (S c0) (aCons (eOp gIx (eOp gIx (eVar 0) (eVar 2)) (eC (.int 0))) (aCons (eOp gIx (eVar 1) (eC (.int 0))) aNil))) (eC (.int 1))))) (sSet [] 2 (eOp gAdd (eVar 2) (eC (.int 1)))) wfuel)
    (sSeq (sIf (tAndR (tOf (eOp gLt (eVar 2) (eCall gLen (aCons (eVar 0) aNil)))) (tOf (eOp gEq (eOp gIx (eOp gIx (eVar 0) (eVar 2)) (eC (.int 0))) (eOp gIx (eVar 1) (eC (.int 0)))))) (sRet (eVar 0)) sNil)
    (sRet (eOp gAdd (eOp gAdd (eSl (eVar 0) oNone (oSome (eVar 2))) (eLst (aCons (eVar 1) aNil))) (eSl (eVar 0) (oSome (eVar 2)) oNone))))))
-- k21 k22 k23 k24 k25 k26 k27 k28 k30 k31 k32 k33 k34 k35 k36 k37 slots 2 params 1
def G_l_many (S : Nat → List PyData → R PyData) : Vars → Out :=
  (sSeq (sSet [] 1 (eOp gMod (eVar 0) (eC (.int 6))))
    (sSeq (sSet [] 0 (eOp gDiv (eVar 0) (eC (.int 6))))
    (sSeq (sIf (tOf (eOp gEq (eVar 1) (eC (.int 0)))) (sRet (eOp gAdd (eC (.int 1)) (eOp gMod (eVar 0) (eC (.int 1000))))) sNil)
    (sSeq (sIf (tOf (eOp gEq (eVar 1) (eC (.int 1)))) (sRet (eOp gAdd (eC (.int 1)) (eOp gMod (eOp gMul (eVar 0) (eVar 0)) (eOp gPow (eC (.int 10)) (eC (.int 15)))))) sNil)
    (sRet (eOp gAdd (eC (.int 1)) (eOp gMod (eVar 0) (eC (.int 3)))))))))
-- k21 k22 k23 k24 k25 k26 k27 k28 k30 k31 k32 k33 k34 k35 k36 k37 slots 6 params 2
def G_l_drawn (c0 c1 c2 c3 : Nat) (S : Nat → List PyData → R PyData) : Vars → Out :=
  (sSeq (sSet [] 2 (eLst aNil))
    (sSeq (sFor [] (iRange (aCons (eOp gIx (eLst (aCons (eC (.int 0)) (aCons (eC (.int 1)) (aCons (eC (.int 1)) (aCons (eC (.int 2)) (aCons (eC (.int 2)) (aCons (eC (.int 3)) aNil))))))) (eOp gMod (eOp gDiv (eFn (S c0) (aCons (eVar 0) (aCons (eC (.int 0)) aNil))) (eC (.int 5))) (eC (.int 6)))) aNil)) (gtName 3) (sSeq (sSet [] 4 (eFn (S c0) (aCons (eVar 0) (aCons (eOp gAdd (eVar 3) (eC (.int 1))) aNil)))) (sSeq (sSet [] 5 (eTup aNil)) (sSeq (sIf (tOf (eOp gGt (eVar 1) (eC (.int 0)))) (sSet [] 5 (eFn (S c1) (aCons (eOp gDiv (eVar 4) (eC (.int 5))) (aCons (eOp gSub (eVar 1) (eC (.int 1))) aNil)))) sNil) (sSet [] 2 (eFn (S c2) (aCons (eVar 2) (aCons (eTup (aCons (eVar 5) (aCons (eFn (S c3) (aCons (eOp gDiv (eVar 4) (eC (.int 7))) aNil)) aNil))) aNil))))))))
    (sRet (eCall gTuple (aCons (eVar 2) aNil)))))
-- k21 k22 k23 k24 k26 k27 k31 k32 k33 k34 k35 k36 k37 slots 2 params 1
def G_l_great (c0 : Nat) (S : Nat → List PyData → R PyData) : Vars → Out :=
  (sSeq (sSet [] 1 (eOp gMod (eOp gDiv (eVar 0) (eC (.int 6))) (eOp gPow (eC (.int 10)) (eC (.int 25)))))
    (sSeq (sIf (tOf (eOp gEq (eOp gMod (eFn (S c0) (aCons (eVar 0) (aCons (eC (.int 8)) aNil))) (eC (.int 2))) (eC (.int 0)))) (sRet (eOp gAdd (eC (.int 1)) (eOp gMod (eVar 1) (eC (.int 100))))) sNil)
    (sRet (eOp gAdd (eC (.int 1)) (eOp gMod (eOp gMul (eOp gAdd (eVar 1) (eC (.int 7))) (eOp gAdd (eOp gAdd (eOp gPow (eC (.int 10)) (eC (.int 24))) (eOp gMul (eC (.int 7)) (eVar 1))) (eC (.int 39)))) (eOp gPow (eC (.int 10)) (eC (.int 50))))))))
-- k21 k22 k23 k24 k26 k27 k31 k32 k33 k34 k35 k36 k37 slots 5 params 2
def G_l_number_by (c0 c1 c2 : Nat) (S : Nat → List PyData → R PyData) : Vars → Out :=
  (sSeq (sSet [] 2 (eFn (S c0) (aCons (eVar 0) (aCons (eOp gMod (eFn (S c1) (aCons (eVar 1) (aCons (eC (.int 9)) aNil))) (eC (.int 4))) aNil))))
    (sSeq (sSet [] 3 (eFn (S c2) (aCons (eVar 1) aNil)))
    (sSeq (sIf (tOf (eOp gEq (eOp gMod (eVar 1) (eC (.int 6))) (eC (.int 0)))) (sSet [] 2 (eOp gAdd (eCall gTuple (aCons (eLc (iSeq (eVar 2)) (gtName 4) (tOf (eOp gNe (eOp gIx (eVar 4) (eC (.int 0))) (eTup aNil))) (eVar 4) [4]) aNil)) (eTup (aCons (eTup (aCons (eTup aNil) (aCons (eVar 3) aNil))) aNil)))) sNil)
    (sSeq (sIf (tAndR (tOf (eOp gEq (eOp gMod (eVar 1) (eC (.int 6))) (eC (.int 1)))) (tOf (eOp gNe (eVar 2) (eTup aNil)))) (sSet [] 2 (eOp gAdd (eTup (aCons (eTup (aCons (eOp gIx (eOp gIx (eVar 2) (eC (.int 0))) (eC (.int 0))) (aCons (eVar 3) aNil))) aNil)) (eSl (eVar 2) (oSome (eC (.int 1))) oNone))) sNil)
    (sSeq (sIf (tOf (eOp gEq (eOp gMod (eVar 1) (eC (.int 6))) (eC (.int 2)))) (sSet [] 2 (eTup (aCons (eTup (aCons (eVar 2) (aCons (eOp gAdd (eC (.int 1)) (eOp gMod (eVar 3) (eC (.int 3)))) aNil))) aNil))) sNil)
    (sSeq (sIf (tOf (eOp gEq (eOp gMod (eVar 1) (eC (.int 6))) (eC (.int 3)))) (sSet [] 2 (eCall gTuple (aCons (eLc (iSeq (eVar 2)) (gtName 4) (tOf (eOp gNe (eOp gIx (eVar 4) (eC (.int 0))) (eTup aNil))) (eVar 4) [4]) aNil))) sNil)
    (sRet (eVar 2))))))))
end Pu
set_option Elab.async false
set_option linter.all false
set_option maxRecDepth 100000
set_option maxHeartbeats 4000000
namespace Nm
open PySem Pu O L2
/-! ### numbers drawn from cells -/
def CellOk (F : Fn) : Prop := ∀ (ns : List Int) (j : Int), 0 ≤ j → ∃ v, F [.list (ns.map .int), .int j] = .ok (.int v)
theorem cell_at_step (S : Nat → Fn) : CellOk (fun ds => fnD 2 (G_l_cell_at S) ds) := by
  intro ns j hj
  obtain ⟨k, rfl⟩ := Int.eq_ofNat_of_zero_le hj
  by_cases q : k < ns.length
  · obtain ⟨v, hv⟩ := atI_int q
    have q' : (k : Int) < (ns.length : Int) := by omega
    refine ⟨v, fnD_of ?_⟩
    unfold G_l_cell_at
    simp [q, hv]
  · have q' : ¬ (k : Int) < (ns.length : Int) := by omega
    refine ⟨0, fnD_of ?_⟩
    unfold G_l_cell_at
    simp [q]
def MixOk (F : Fn) : Prop := ∀ c k : Int, 0 ≤ k → k ≤ 1000 → ∃ r : Int, F [.int c, .int k] = .ok (.int r) ∧ 0 ≤ r ∧ r < 2147483579
theorem mixed_step (S : Nat → Fn) : MixOk (fun ds => fnD 3 (G_l_mixed S) ds) := by
  intro c k k0 k1
  have m1 : ∀ i : Int, cMod i 2147483629 = true ∧ cMod i 2147483647 = true ∧ cMod i 2147483587 = true ∧ cMod i 2147483579 = true := fun i => ⟨cMod_of (by decide), cMod_of (by decide), cMod_of (by decide), cMod_of (by decide)⟩
  have m2 : cMul 48271 (k + 1) = true := cMul_of 100 100 (by decide) (by omega) (by decide) (by decide) (by decide)
  have m3 : cMul 69621 k = true := cMul_of 100 100 (by decide) (by omega) (by decide) (by decide) (by decide)
  obtain ⟨x, hx⟩ : ∃ x : Int, (c % 2147483629 + 48271 * (k + 1)) % 2147483647 = x := ⟨_, rfl⟩
  have x0 : 0 ≤ x := by rw [← hx]; exact Int.emod_nonneg _ (by decide)
  have x1 : x < 2147483647 := by rw [← hx]; exact Int.emod_lt_of_pos _ (by decide)
  have m4 : cMul x x = true := cMul_of 100 100 (by omega) (by omega) (by decide) (by decide) (by decide)
  obtain ⟨y, hy⟩ : ∃ y : Int, (x * x + 69621 * k + 7) % 2147483587 = y := ⟨_, rfl⟩
  have y0 : 0 ≤ y := by rw [← hy]; exact Int.emod_nonneg _ (by decide)
  have y1 : y < 2147483587 := by rw [← hy]; exact Int.emod_lt_of_pos _ (by decide)
  have m5 : cMul y y = true := cMul_of 100 100 (by omega) (by omega) (by decide) (by decide) (by decide)
  refine ⟨y * y % 2147483579, fnD_of ?_, Int.emod_nonneg _ (by decide), Int.emod_lt_of_pos _ (by decide)⟩
  unfold G_l_mixed
  simp [m1, m2, m3, hx, m4, hy, m5]
theorem l_order_step {S : Nat → Fn} {c0 k : Nat} (h : CmpOk k (S c0)) : CmpOk (k + 1) (fun ds => fnD 5 (G_l_order c0 S) ds) := by
  intro a b ha
  refine fnD_of ?_
  unfold G_l_order
  have m0 : cMul 2 0 = true := cMul_of 10 10 (by decide) (by decide) (by decide) (by decide) (by decide)
  have m1 : cMul 2 1 = true := cMul_of 10 10 (by decide) (by decide) (by decide) (by decide) (by decide)
  simp only [u_sSeq, u_sFor, mask_nil, u_iZipD, u_aCons, u_aNil, u_eVar, List.map_cons, List.map_nil, List.length_cons, List.length_nil, List.cons_append, List.nil_append, List.replicate, List.getD_cons_zero, List.getD_cons_succ, R.of_some, R.bind_ok, R.run_ok, Nat.reduceAdd, Nat.reduceSub, Nat.zero_add]
  refine zip_then (k := k) (fun e n e' n' s he => ⟨some (.int (cmp e e')), ?_⟩) ha (fun c => ?_) (fun c x y s => ?_)
  · have hc := h e e' he
    by_cases c1 : cmp e e' = 0
    · rcases Int.lt_trichotomy n n' with c2 | c2 | c2
      · have c3 : ¬ n' < n := by omega
        have c4 : n ≠ n' := by omega
        simp [hc, c1, c2, c3, c4, lead, m0, m1]
      · simp [hc, c1, c2, lead, m0, m1]
      · have c3 : ¬ n < n' := by omega
        have c4 : n ≠ n' := by omega
        simp [hc, c1, c2, c3, c4, lead, m0, m1]
    · simp [hc, c1, lead]
  · rw [cmp_first, if_pos c]
  · rw [cmp_first, if_neg (fun z => z c)]
    rcases Nat.lt_trichotomy a.len b.len with c2 | c2 | c2
    · have c3 : ¬ b.len < a.len := by omega
      simp [lenc, c2, c3]
    · simp [lenc, c2]
    · have c3 : ¬ a.len < b.len := by omega
      simp [lenc, c2, c3]
def NumOk (k : Nat) (F : Fn) : Prop := ∀ a : O, NF a → a.h < k → a.size ≤ 1000000 → F [enc a] = .ok (.bool true)
theorem l_number_step {S : Nat → Fn} {c0 c1 k : Nat} (h : NumOk k (S c0)) (hc : CmpOk k (S c1)) : NumOk (k + 1) (fun ds => fnD 3 (G_l_number c0 c1 S) ds) := by
  intro a na hk hz
  have hl := len_le_size a
  refine fnD_of ?_
  have nfp := (nf_parts a).mp na
  obtain ⟨ρ1, r1, x, rfl⟩ := forL_inv (gt := gtName 1) (g := (sSeq (sIf (tOrR (tNotR (tTru (eIsi "tuple" (eVar 1)))) (tOrR (tOf (eOp gNe (eCall gLen (aCons (eVar 1) aNil)) (eC (.int 2)))) (tNotR (tTru (eFn (S c0) (aCons (eOp gIx (eVar 1) (eC (.int 0))) aNil)))))) (sRet (eC (.bool false))) sNil) (sIf (tOrR (tNotR (tTru (eIsi "int" (eOp gIx (eVar 1) (eC (.int 1)))))) (tOrR (tTru (eIsi "bool" (eOp gIx (eVar 1) (eC (.int 1))))) (tOf (eOp gLt (eOp gIx (eVar 1) (eC (.int 1))) (eC (.int 1)))))) (sRet (eC (.bool false))) sNil))) (fun _ ρ => ∃ x, ρ = [some (enc a), x, none]) (encL a) 0 [some (enc a), none, none] ⟨_, rfl⟩ fun j d ρ hd hi => by
    obtain ⟨x, rfl⟩ := hi
    rw [encL_parts, List.getElem?_map] at hd
    obtain ⟨p, hp, rfl⟩ := Option.map_eq_some_iff.mp hd
    have hm := List.mem_of_getElem? hp
    have hph := part_mem_h hm
    have h0 := nfp.2 p hm
    have h1 := h p.1 h0.1 (by omega) (Nat.le_trans (size_part hm) hz)
    have h2 : ¬ p.2 < 1 := by omega
    refine ⟨_, _, rfl, Or.inl ?_, ⟨some (encP p), rfl⟩⟩
    simp [h1, isiB, h2]
  obtain ⟨ρ2, r2, y, rfl⟩ := forL_inv (gt := gtName 2) (g := (sIf (tOf (eOp gNe (eFn (S c1) (aCons (eOp gIx (eOp gIx (eVar 0) (eOp gSub (eVar 2) (eC (.int 1)))) (eC (.int 0))) (aCons (eOp gIx (eOp gIx (eVar 0) (eVar 2)) (eC (.int 0))) aNil))) (eC (.int 1)))) (sRet (eC (.bool false))) sNil)) (fun _ ρ => ∃ y, ρ = [some (enc a), x, y]) (rngD 1 (a.len - 1)) 0 [some (enc a), x, none] ⟨_, rfl⟩ fun j d ρ hd hi => by
    obtain ⟨y, rfl⟩ := hi
    rw [rngD_get] at hd
    by_cases q : j < (a.len - 1)
    · rw [if_pos q] at hd
      cases hd
      have lp := len_parts a
      have lj : j < a.parts.length := by omega
      have lj2 : j + 1 < a.parts.length := by omega
      have a1 := atI_at (a := a) (i := j) (p := a.parts[j]) (List.getElem?_eq_getElem lj)
      have a2 := atI_at (a := a) (i := j + 1) (p := a.parts[j + 1]) (List.getElem?_eq_getElem lj2)
      have pw := List.pairwise_iff_getElem.mp nfp.1 j (j + 1) lj lj2 (by omega)
      have hph := part_mem_h (List.getElem_mem lj)
      have hcc := hc (a.parts[j]).1 (a.parts[j + 1]).1 (by omega)
      rw [pw] at hcc
      rw [show ((j + 1 : Nat) : Int) = 1 + (j : Int) by omega] at a2
      rw [show ((j : Nat) : Int) = 1 + (j : Int) - 1 by omega] at a1
      refine ⟨[some (enc a), x, some (.int (1 + (j : Nat)))], [some (enc a), x, some (.int (1 + (j : Nat)))], rfl, Or.inl ?_, ⟨_, rfl⟩⟩
      generalize a.parts[j] = p1 at *
      generalize a.parts[j + 1] = p2 at *
      simp [a1, a2, hcc]
    · rw [if_neg q] at hd; cases hd
  have ok1 : okI 1 = true := by decide
  have ok2 : okI (a.len : Int) = true := okI_small (by omega) (by omega)
  unfold G_l_number
  simp [isiB, r1, ok1, ok2, r2]
def insO : O → O → Int → O
  | .z, e, n => .c e n .z
  | .c f k r, e, n => if cmp f e = 1 then .c f k (insO r e n) else if f = e then .c f k r else .c e n (.c f k r)
theorem ins_exp : ∀ (a e : O) (n : Int) (p : O × Int), p ∈ (insO a e n).parts → p.1 = e ∨ ∃ q ∈ a.parts, q.1 = p.1
  | .z, e, n, p, h => by
    rcases List.mem_cons.mp (show p ∈ (e, n) :: [] from h) with h | h
    · exact Or.inl (by rw [h])
    · cases h
  | .c f k r, e, n, p, h => by
    unfold insO at h
    by_cases c1 : cmp f e = 1
    · rw [if_pos c1] at h
      rcases List.mem_cons.mp (show p ∈ (f, k) :: (insO r e n).parts from h) with h | h
      · exact Or.inr ⟨(f, k), by show _ ∈ (f, k) :: r.parts; simp, by rw [h]⟩
      · rcases ins_exp r e n p h with h | ⟨q, q1, q2⟩
        · exact Or.inl h
        · exact Or.inr ⟨q, by show _ ∈ (f, k) :: r.parts; simp [q1], q2⟩
    · rw [if_neg c1] at h
      by_cases c2 : f = e
      · rw [if_pos c2] at h; exact Or.inr ⟨p, h, rfl⟩
      · rw [if_neg c2] at h
        rcases List.mem_cons.mp (show p ∈ (e, n) :: (O.c f k r).parts from h) with h | h
        · exact Or.inl (by rw [h])
        · exact Or.inr ⟨p, h, rfl⟩
theorem ins_nf : ∀ (a e : O) (n : Int), NF a → NF e → 1 ≤ n → NF (insO a e n)
  | .z, e, n, _, he, hn => nf_mk he hn trivial (fun q hq => by cases hq)
  | .c f k r, e, n, ha, he, hn => by
    have ta := nf_tail ha
    unfold insO
    by_cases c1 : cmp f e = 1
    · rw [if_pos c1]
      refine nf_mk ta.2.1 ta.2.2.1 (ins_nf r e n ta.1 he hn) fun q hq => ?_
      rcases ins_exp r e n q hq with h | ⟨q', q1, q2⟩
      · rw [h]; exact c1
      · rw [← q2]; exact ta.2.2.2 q' q1
    · rw [if_neg c1]
      by_cases c2 : f = e
      · rw [if_pos c2]; exact ha
      · rw [if_neg c2]
        have lt : cmp f e = -1 := by
          rcases cmp_tri f e with c | c | c
          · exact c
          · exact absurd c c2
          · exact absurd c c1
        refine nf_mk he hn ha fun q hq => ?_
        rcases List.mem_cons.mp (show q ∈ (f, k) :: r.parts from hq) with h | h
        · rw [h]; exact cmp_gt.mpr lt
        · exact gt_trans (cmp_gt.mpr lt) (ta.2.2.2 q h)
theorem ins_len : ∀ (a e : O) (n : Int), (insO a e n).len ≤ a.len + 1
  | .z, e, n => Nat.le_refl _
  | .c f k r, e, n => by
    have := ins_len r e n
    unfold insO
    split
    · simp only [O.len]; omega
    · split
      · exact Nat.le_succ _
      · exact Nat.le_refl _
theorem ins_h {a e : O} {n : Int} {k : Nat} (ha : a.h ≤ k) (he : e.h + 1 ≤ k) : (insO a e n).h ≤ k := by
  rw [h_parts]
  intro p hp
  rcases ins_exp a e n p hp with h | ⟨q, q1, q2⟩
  · rw [h]; exact he
  · rw [← q2]; exact (h_parts a).mp ha q q1
theorem ins_mx : ∀ {a e : O} {n B : Int}, mx a ≤ B → mx e ≤ B → n ≤ B → mx (insO a e n) ≤ B
  | .z, e, n, B, _, h2, h3 => by
    show max n (max (mx e) 0) ≤ B
    have := mx_nonneg e; omega
  | .c f k r, e, n, B, h1, h2, h3 => by
    have m1 : mx (.c f k r) = max k (max (mx f) (mx r)) := rfl
    have ih := ins_mx (a := r) (e := e) (n := n) (B := B) (by omega) h2 h3
    unfold insO
    split
    · show max k (max (mx f) (mx (insO r e n))) ≤ B; omega
    · split
      · exact h1
      · show max n (max (mx e) (mx (.c f k r))) ≤ B; omega
/-! a part put in -/
abbrev pT (F : Fn) : Vars → R Bool := tAndR (tOf (eOp gLt (eVar 2) (eCall gLen (aCons (eVar 0) aNil)))) (tOf (eOp gEq (eFn F (aCons (eOp gIx (eOp gIx (eVar 0) (eVar 2)) (eC (.int 0))) (aCons (eOp gIx (eVar 1) (eC (.int 0))) aNil))) (eC (.int 1))))
abbrev pB : Vars → Out := sSet [] 2 (eOp gAdd (eVar 2) (eC (.int 1)))
theorem put_loop {k : Nat} {F : Fn} (hF : CmpOk k F) {a e : O} {n : Int} (ha : a.h ≤ k) : ∀ (f : Nat) (x : O) (i : Nat), a.parts.drop i = x.parts → i ≤ a.len → x.len + 1 ≤ f →
    ∃ (i' : Nat) (x' : O), whileL (pT F) pB f [some (.list (encL a)), some (encP (e, n)), some (.int (i : Nat))] = .nx [some (.list (encL a)), some (encP (e, n)), some (.int (i' : Nat))] ∧ a.parts.drop i' = x'.parts ∧ i' ≤ a.len ∧
      a.parts.take i' ++ (insO x' e n).parts = a.parts.take i ++ (insO x e n).parts ∧ (x' = .z ∨ ∃ g m r, x' = .c g m r ∧ cmp g e ≠ 1)
  | 0, x, i, _, _, hf => by omega
  | f + 1, .z, i, hx, hi, hf => by
    have hi2 : a.parts.length ≤ i := by
      rcases Nat.lt_or_ge i a.parts.length with c | c
      · rw [List.drop_eq_getElem_cons c] at hx; cases hx
      · exact c
    rw [len_parts] at hi2
    have t : pT F [some (.list (encL a)), some (encP (e, n)), some (.int (i : Nat))] = .ok false := by
      have : ¬ (i : Int) < (a.len : Int) := by omega
      simp [this]
    exact ⟨i, .z, whileL_f t, hx, hi, rfl, Or.inl rfl⟩
  | f + 1, .c g m r, i, hx, hi, hf => by
    obtain ⟨x1, x2, x3⟩ := drop_at (show a.parts.drop i = (g, m) :: r.parts from hx)
    have lp := len_parts a
    have pe : g.h + 1 ≤ a.h := part_mem_h (List.mem_of_getElem? x1)
    have ax := atI_at x1
    have cc := hF g e (by omega)
    have lt : (i : Int) < (a.len : Int) := by omega
    simp only [O.len] at hf
    by_cases c : cmp g e = 1
    · rw [c] at cc
      have t : pT F [some (.list (encL a)), some (encP (e, n)), some (.int (i : Nat))] = .ok true := by simp [lt, ax, cc]
      have bd : pB [some (.list (encL a)), some (encP (e, n)), some (.int (i : Nat))] = .nx [some (.list (encL a)), some (encP (e, n)), some (.int ((i + 1 : Nat) : Nat))] := by simp
      obtain ⟨i', x', g1, g2, g3, g4, g5⟩ := put_loop hF ha f r (i + 1) x2 (by omega) (by omega)
      refine ⟨i', x', by rw [whileL_t t bd]; exact g1, g2, g3, ?_, g5⟩
      rw [g4]
      have : insO (.c g m r) e n = .c g m (insO r e n) := by
        show (if cmp g e = 1 then O.c g m (insO r e n) else if g = e then .c g m r else .c e n (.c g m r)) = _
        rw [if_pos c]
      rw [this]
      have tk : a.parts.take (i + 1) = a.parts.take i ++ [(g, m)] := by
        rw [List.take_add_one, x1]; rfl
      rw [tk]
      show a.parts.take i ++ [(g, m)] ++ (insO r e n).parts = a.parts.take i ++ (g, m) :: (insO r e n).parts
      simp
    · have t : pT F [some (.list (encL a)), some (encP (e, n)), some (.int (i : Nat))] = .ok false := by simp [lt, ax, cc, c]
      exact ⟨i, _, whileL_f t, hx, hi, rfl, Or.inr ⟨g, m, r, rfl, c⟩⟩
def PutOk (k : Nat) (F : Fn) : Prop := ∀ (a e : O) (n : Int), a.h ≤ k → a.h ≤ 30 → e.h ≤ 30 → a.len ≤ 1000 → F [.list (encL a), encP (e, n)] = .ok (.list (encL (insO a e n)))
theorem l_put_step {S : Nat → Fn} {c0 k : Nat} (hc : CmpOk k (S c0)) : PutOk k (fun ds => fnD 3 (G_l_put c0 S) ds) := by
  intro a e n hk ha he hl
  refine fnD_of ?_
  obtain ⟨i, x, g1, g2, g3, g4, g5⟩ := put_loop hc (a := a) (e := e) (n := n) hk wfuel a 0 rfl (Nat.zero_le _) (by show _ ≤ 1000000; omega)
  have g1' : whileL (pT (S c0)) pB wfuel [some (.list (encL a)), some (encP (e, n)), some (.int 0)] = _ := g1
  rw [List.take_zero, List.nil_append] at g4
  have lp := len_parts a
  have c1 : Pu.cutD (encL a) none (some (i : Int)) = (encL a).take i := cut_front _ _
  have c2 : Pu.cutD (encL a) (some (i : Int)) none = (encL a).drop i := by rw [cut_back, encL_len, Nat.min_eq_left g3]
  have s1 : (min i a.len) + 1 ≤ sizeLine := sz1000 (by omega)
  have s2 : (min i a.len) + 1 + (a.len - i) ≤ sizeLine := sz1000 (by omega)
  have ins : ∀ y : O, a.parts.drop i = y.parts → insO x e n = .c e n y → encL (insO a e n) = (encL a).take i ++ encP (e, n) :: (encL a).drop i := fun y hy hxy => by
    rw [encL_parts (insO a e n), ← g4, hxy, encL_parts a]
    show (a.parts.take i ++ (e, n) :: y.parts).map encP = _
    rw [← hy, List.map_append, List.map_cons, List.map_take, List.map_drop]
  unfold G_l_put
  rcases g5 with g5 | ⟨g, m, r, g5, g6⟩
  · subst g5
    have il : ¬ (i : Int) < (a.len : Int) := by
      have : a.parts.length ≤ i := by
        rcases Nat.lt_or_ge i a.parts.length with c | c
        · rw [List.drop_eq_getElem_cons c] at g2; cases g2
        · exact c
      omega
    have e1 := ins .z g2 rfl
    simp [g1', il, c1, c2, s1, s2, e1]
  · subst g5
    obtain ⟨x1, x2, x3⟩ := drop_at (show a.parts.drop i = (g, m) :: r.parts from g2)
    have il : (i : Int) < (a.len : Int) := by omega
    have pe : g.h + 1 ≤ a.h := part_mem_h (List.mem_of_getElem? x1)
    have ax := atI_at x1
    have ge := gEq_enc (a := g) (b := e) (by omega) (by omega)
    by_cases c : g = e
    · rw [decide_eq_true c] at ge
      have : insO (.c g m r) e n = .c g m r := by unfold insO; rw [if_neg g6, if_pos c]
      have e1 : insO a e n = a := by
        apply parts_inj
        rw [← g4, this]
        show a.parts.take i ++ (O.c g m r).parts = _
        rw [← g2, List.take_append_drop]
      rw [e1]
      simp [g1', il, ax, ge]
    · rw [decide_eq_false c] at ge
      have : insO (.c g m r) e n = .c e n (.c g m r) := by unfold insO; rw [if_neg g6, if_neg c]
      have e1 := ins (.c g m r) g2 this
      simp [g1', il, ax, ge, c1, c2, s1, s2, e1]
/-! times, exponents, numbers drawn -/
@[simp high] theorem p15 : gPow (.int 10) (.int 15) = some (.int 1000000000000000) := by
  show (if cPow 10 15 = true then some (PyData.int (10 ^ (15 : Int).toNat)) else none) = _
  rw [if_pos (by decide +kernel)]; rfl
@[simp high] theorem p25 : gPow (.int 10) (.int 25) = some (.int 10000000000000000000000000) := by
  show (if cPow 10 25 = true then some (PyData.int (10 ^ (25 : Int).toNat)) else none) = _
  rw [if_pos (by decide +kernel)]; rfl
@[simp high] theorem p24 : gPow (.int 10) (.int 24) = some (.int 1000000000000000000000000) := by
  show (if cPow 10 24 = true then some (PyData.int (10 ^ (24 : Int).toNat)) else none) = _
  rw [if_pos (by decide +kernel)]; rfl
def ManyOk (F : Fn) : Prop := ∀ v : Int, 0 ≤ v → v < 2 ^ 40 → ∃ r : Int, F [.int v] = .ok (.int r) ∧ 1 ≤ r ∧ r ≤ 1000000000000000
theorem l_many_step (S : Nat → Fn) : ManyOk (fun ds => fnD 2 (G_l_many S) ds) := by
  intro v v0 v1
  have m1 : ∀ i : Int, cMod i 6 = true ∧ cMod i 1000 = true ∧ cMod i 3 = true ∧ cMod i 1000000000000000 = true := fun i => ⟨cMod_of (by decide), cMod_of (by decide), cMod_of (by decide), cMod_of (by decide)⟩
  have m2 : ∀ i : Int, cDiv i 6 = true := fun i => cDiv_of 10 (by decide) (by decide) (by decide) (by decide)
  obtain ⟨w, hw⟩ : ∃ w : Int, v / 6 = w := ⟨_, rfl⟩
  have m3 : cMul w w = true := cMul_of 100 100 (by omega) (by omega) (by decide) (by decide) (by decide)
  by_cases c0 : v % 6 = 0
  · refine ⟨1 + w % 1000, fnD_of ?_, by omega, by omega⟩
    unfold G_l_many
    simp [m1, m2, hw, c0]
  · by_cases c1 : v % 6 = 1
    · obtain ⟨q, hq⟩ : ∃ q : Int, w * w = q := ⟨_, rfl⟩
      refine ⟨1 + q % 1000000000000000, fnD_of ?_, by omega, by omega⟩
      unfold G_l_many
      simp [m1, m2, hw, c0, c1, m3, hq]
    · refine ⟨1 + w % 3, fnD_of ?_, by omega, by omega⟩
      unfold G_l_many
      simp [m1, m2, hw, c0, c1]
def GreatOk (F : Fn) : Prop := ∀ v : Int, ∃ r : Int, F [.int v] = .ok (.int r) ∧ 1 ≤ r ∧ r ≤ E50
theorem l_great_step {S : Nat → Fn} {c0 : Nat} (h : MixOk (S c0)) : GreatOk (fun ds => fnD 2 (G_l_great c0 S) ds) := by
  intro v
  have e50 := E50_eq
  have m1 : ∀ i : Int, cMod i 2 = true ∧ cMod i 100 = true ∧ cMod i 10000000000000000000000000 = true ∧ cMod i E50 = true := fun i => ⟨cMod_of (by decide), cMod_of (by decide), cMod_of (by decide), cMod_of (by omega)⟩
  have m2 : ∀ i : Int, cDiv i 6 = true := fun i => cDiv_of 10 (by decide) (by decide) (by decide) (by decide)
  obtain ⟨r, hr, _, _⟩ := h v 8 (by decide) (by decide)
  obtain ⟨w, hw⟩ : ∃ w : Int, v / 6 % 10000000000000000000000000 = w := ⟨_, rfl⟩
  have w0 : 0 ≤ w := by omega
  have w1 : w < 10000000000000000000000000 := by omega
  have m3 : cMul 7 w = true := cMul_of 200 200 (by decide) (by omega) (by decide) (by decide) (by decide)
  have m4 : cMul (w + 7) (1000000000000000000000000 + 7 * w + 39) = true := cMul_of 200 200 (by omega) (by omega) (by decide) (by decide) (by decide)
  by_cases c : r % 2 = 0
  · refine ⟨1 + w % 100, fnD_of ?_, by omega, by omega⟩
    unfold G_l_great
    simp [m1, m2, hw, hr, c]
  · obtain ⟨q, hq⟩ : ∃ q : Int, (w + 7) * (1000000000000000000000000 + 7 * w + 39) = q := ⟨_, rfl⟩
    have q0 := Int.emod_nonneg q (show E50 ≠ 0 by omega)
    have q1 := Int.emod_lt_of_pos q (show 0 < E50 by omega)
    refine ⟨1 + q % E50, fnD_of ?_, by omega, by omega⟩
    unfold G_l_great
    simp [m1, m2, hw, hr, c, m3, m4, hq]
theorem ins_size : ∀ (a e : O) (n : Int), (insO a e n).size ≤ a.size + 1 + e.size
  | .z, e, n => by show 1 + e.size + 0 ≤ 0 + 1 + e.size; omega
  | .c f k r, e, n => by
    have := ins_size r e n
    unfold insO
    split
    · show 1 + f.size + (insO r e n).size ≤ 1 + f.size + r.size + 1 + e.size; omega
    · split
      · show _ ≤ _; omega
      · show 1 + e.size + (1 + f.size + r.size) ≤ 1 + f.size + r.size + 1 + e.size; omega
structure Dr (l : Nat) (a : O) : Prop where
  nf : NF a
  h : a.h ≤ l + 1
  ll : a.len ≤ 3
  s : a.size ≤ 4 ^ (l + 1)
  m : mx a ≤ 1000000000000000
abbrev dB (S : Nat → Fn) (c0 c1 c2 c3 : Nat) : Vars → Out := (sSeq (sSet [] 4 (eFn (S c0) (aCons (eVar 0) (aCons (eOp gAdd (eVar 3) (eC (.int 1))) aNil)))) (sSeq (sSet [] 5 (eTup aNil)) (sSeq (sIf (tOf (eOp gGt (eVar 1) (eC (.int 0)))) (sSet [] 5 (eFn (S c1) (aCons (eOp gDiv (eVar 4) (eC (.int 5))) (aCons (eOp gSub (eVar 1) (eC (.int 1))) aNil)))) sNil) (sSet [] 2 (eFn (S c2) (aCons (eVar 2) (aCons (eTup (aCons (eVar 5) (aCons (eFn (S c3) (aCons (eOp gDiv (eVar 4) (eC (.int 7))) aNil)) aNil))) aNil)))))))
def DrawnOk (k : Nat) (F : Fn) : Prop := ∀ (c : Int) (l : Nat), l < k → l ≤ 8 → ∃ a, F [.int c, .int (l : Nat)] = .ok (enc a) ∧ Dr l a
theorem l_drawn_step {S : Nat → Fn} {c0 c1 c2 c3 k k2 : Nat} (hk2 : 20 ≤ k2) (h0 : MixOk (S c0)) (h1 : DrawnOk k (S c1)) (h2 : PutOk k2 (S c2)) (h3 : ManyOk (S c3)) : DrawnOk (k + 1) (fun ds => fnD 6 (G_l_drawn c0 c1 c2 c3 S) ds) := by
  intro c l hl l8
  have m1 : ∀ i : Int, cDiv i 5 = true ∧ cDiv i 7 = true := fun i => ⟨cDiv_of 10 (by decide) (by decide) (by decide) (by decide), cDiv_of 10 (by decide) (by decide) (by decide) (by decide)⟩
  have m2 : ∀ i : Int, cMod i 6 = true := fun i => cMod_of (by decide)
  obtain ⟨r0, e0, r00, r01⟩ := h0 c 0 (by decide) (by decide)
  obtain ⟨n, hn, n3⟩ : ∃ n : Nat, atI [PyData.int 0, .int 1, .int 1, .int 2, .int 2, .int 3] (r0 / 5 % 6) = some (.int (n : Nat)) ∧ n ≤ 3 := by
    have at6 : ∀ {j : Nat} {ds : List PyData} {d : PyData}, ds[j]? = some d → atI ds (j : Int) = some d := fun h => L2.atI_nat h
    have : r0 / 5 % 6 = ((0 : Nat) : Int) ∨ r0 / 5 % 6 = ((1 : Nat) : Int) ∨ r0 / 5 % 6 = ((2 : Nat) : Int) ∨ r0 / 5 % 6 = ((3 : Nat) : Int) ∨ r0 / 5 % 6 = ((4 : Nat) : Int) ∨ r0 / 5 % 6 = ((5 : Nat) : Int) := by omega
    rcases this with h | h | h | h | h | h <;> rw [h]
    · exact ⟨0, at6 rfl, by decide⟩
    · exact ⟨1, at6 rfl, by decide⟩
    · exact ⟨1, at6 rfl, by decide⟩
    · exact ⟨2, at6 rfl, by decide⟩
    · exact ⟨2, at6 rfl, by decide⟩
    · exact ⟨3, at6 rfl, by decide⟩
  have p4 : 0 < 4 ^ l := Nat.pow_pos (by decide)
  obtain ⟨ρ', r1, a, x, y, z, rfl, a1, a2, a3, a4, a5⟩ := forL_rng (n := n) (i := 3) (g := dB S c0 c1 c2 c3) (fun j ρ => ∃ a x y z, ρ = [some (.int c), some (.int (l : Nat)), some (.list (encL a)), x, y, z] ∧ NF a ∧ a.h ≤ l + 1 ∧ a.len ≤ j ∧ a.size ≤ j * (1 + 4 ^ l) ∧ mx a ≤ 1000000000000000)
    [some (.int c), some (.int (l : Nat)), some (.list []), none, none, none] ⟨.z, _, _, _, rfl, trivial, Nat.zero_le _, Nat.le_refl _, Nat.zero_le _, by decide⟩ fun j ρ hj hi => by
      obtain ⟨a, x, y, z, rfl, a1, a2, a3, a4, a5⟩ := hi
      obtain ⟨r, er, rr0, rr1⟩ := h0 c ((j : Int) + 1) (by omega) (by omega)
      obtain ⟨m, em, mm0, mm1⟩ := h3 (r / 7) (by omega) (by omega)
      obtain ⟨e, ee, f1, f2, f3, f4⟩ : ∃ e : O, (if 0 < l then (S c1 [.int (r / 5), .int ((l : Int) - 1)] = .ok (enc e)) else e = .z) ∧ NF e ∧ e.h ≤ l ∧ e.size ≤ 4 ^ l ∧ mx e ≤ 1000000000000000 := by
        by_cases q : 0 < l
        · obtain ⟨e, g1, g2⟩ := h1 (r / 5) (l - 1) (by omega) (by omega)
          rw [show ((l - 1 : Nat) : Int) = (l : Int) - 1 by omega] at g1
          refine ⟨e, by rw [if_pos q]; exact g1, g2.nf, by have := g2.h; omega, ?_, g2.m⟩
          have := g2.s
          rw [show l - 1 + 1 = l by omega] at this
          exact this
        · exact ⟨.z, by rw [if_neg q], trivial, Nat.zero_le _, Nat.zero_le _, by decide⟩
      have ep := h2 a e m (by omega) (by omega) (by omega) (by omega)
      have len2 := ins_len a e m
      have size2 := ins_size a e m
      have mul2 : (j + 1) * (1 + 4 ^ l) = j * (1 + 4 ^ l) + (1 + 4 ^ l) := Nat.succ_mul _ _
      refine ⟨[some (.int c), some (.int (l : Nat)), some (.list (encL (insO a e m))), some (.int (j : Nat)), some (.int r), some (enc e)], Or.inl ?_, ⟨insO a e m, _, _, _, rfl, ins_nf a e m a1 f1 mm0, ins_h a2 (by omega), by omega, by omega, ins_mx a5 f4 mm1⟩⟩
      by_cases q : 0 < l
      · rw [if_pos q] at ee
        simp [er, em, m1, q, ee, ep]
      · rw [if_neg q] at ee
        have ep' : S c2 [.list (encL a), .tuple [.tuple [], .int m]] = .ok (.list (encL (insO a .z m))) := by rw [ee] at ep; exact ep
        rw [ee]
        show _ = Out.nx [_, _, _, _, _, some (.tuple [])]
        simp [er, em, m1, q, ep']
  have okn : okI (n : Int) = true := okI_small (by omega) (by omega)
  have s6 : (6 : Nat) ≤ sizeLine := by decide
  refine ⟨a, fnD_of ?_, a1, a2, by omega, ?_, a5⟩
  · unfold G_l_drawn
    simp [e0, m1, m2, hn, okn, s6, r1]
  · have h4 : n * (1 + 4 ^ l) ≤ 3 * (1 + 4 ^ l) := Nat.mul_le_mul_right _ n3
    have h5 : 4 ^ (l + 1) = 4 * 4 ^ l := by rw [Nat.pow_succ]; omega
    by_cases q : l = 0
    · subst q
      have : a.size ≤ n * 2 := a4
      have hl2 := a3
      have ah := a2
      have : a.size ≤ 4 := by
        have : a.h ≤ 1 := a2
        have sz : a.size = a.len := by
          rw [← of_parts a, size_of, len_of]
          have : (a.parts.map fun p => p.1.size) = a.parts.map fun _ => 0 := by
            apply List.map_congr_left
            intro p hp
            have h9 := part_mem_h hp
            have : p.1.h = 0 := by omega
            cases h8 : p.1 with
            | z => rfl
            | c f k r =>
              rw [h8] at this
              have h7 : (O.c f k r).h = max (f.h + 1) r.h := rfl
              omega
          rw [this]
          have z0 : ∀ l : List (O × Int), (l.map fun _ => (0 : Nat)).sum = 0 := fun l => by
            induction l with
            | nil => rfl
            | cons _ _ ih => rw [List.map_cons, List.sum_cons, ih]
          rw [z0]
          rfl
        omega
      exact this
    · have : 4 ≤ 4 ^ l := by
        have : 4 ^ 1 ≤ 4 ^ l := Nat.pow_le_pow_right (by decide) (by omega)
        exact this
      omega
end Nm
set_option Elab.async false
set_option linter.all false
set_option maxRecDepth 100000
set_option maxHeartbeats 4000000
namespace Nm
open PySem Pu O L2
theorem above_zz (a : O) : (a.parts.filter fun p => !decide (p.1 = .z)) = above a .z := by
  unfold above
  apply List.filter_congr
  intro p _
  cases hp : p.1 with
  | z => simp [cmp]
  | c e n r => simp [cmp]
theorem lc_nz {a : O} (ha : a.h ≤ 30) {ρ : Vars} {i : Nat} (hi : ∀ x, (ρ.set i x).getD i none = x) : lcL (gtName i) (tOf (eOp gNe (eOp gIx (eVar i) (eC (.int 0))) (eTup aNil))) (eVar i) ρ (encL a) = .ok ((above a .z).map encP) := by
  rw [← above_zz]
  refine lc_parts (P := fun p => !decide (p.1 = .z)) (fun p hp => ?_) fun p hp _ => ?_
  · have := part_mem_h hp
    have h1 := gNe_nil (a := p.1) (by omega)
    simp only [u_tOf, u_eOp, u_eVar, hi, R.of_some, R.bind_ok, u_eC, u_gIx_t, atI_zero, u_eTup, u_aNil, List.length_nil, Nat.zero_le, if_true, h1]
  · simp only [u_eVar, hi, R.of_some]
/-- a drawn number -/
structure Nb (a : O) : Prop where
  nf : NF a
  h : a.h ≤ 6
  ll : a.len ≤ 4
  s : a.size ≤ 260
  hd : ∀ e n r, a = .c e n r → n.natAbs < 2 ^ 190
  cs : ∀ p ∈ a.parts, p.2.natAbs < 2 ^ 190
  m : mx a ≤ E50
theorem above_mem {a : O} {p : O × Int} (h : p ∈ above a .z) : p ∈ a.parts ∧ cmp p.1 .z = 1 := by
  have := List.mem_filter.mp h
  refine ⟨this.1, ?_⟩
  have h2 := of_decide_eq_true this.2
  rcases cmp_range p.1 .z with h | h | h <;> omega
theorem nb_mk {a : O} (nf : NF a) (h : a.h ≤ 6) (ll : a.len ≤ 4) (s : a.size ≤ 260) (m : mx a ≤ E50) : Nb a := by
  have e50 := E50_eq
  have cs : ∀ p ∈ a.parts, p.2.natAbs < 2 ^ 190 := fun p hp => by
    have h1 := ((mx_parts (mx_nonneg a) a).mp (Int.le_refl _) p hp).1
    have h2 := (((nf_parts a).mp nf).2 p hp).2
    omega
  exact ⟨nf, h, ll, s, fun e n r h => cs (e, n) (by rw [h]; show _ ∈ (e, n) :: r.parts; simp), cs, m⟩
theorem nb_of {l : Nat} (hl : l ≤ 3) {a : O} (d : Dr l a) : Nb a := by
  have h4 : 4 ^ (l + 1) ≤ 4 ^ 4 := Nat.pow_le_pow_right (by decide) (by omega)
  have h5 : (4 : Nat) ^ 4 = 256 := by decide
  have hs := d.s
  have e50 := E50_eq
  exact nb_mk d.nf (by have := d.h; omega) (by have := d.ll; omega) (by omega) (by have := d.m; omega)
def NbyOk (F : Fn) : Prop := ∀ v1 v2 : Int, ∃ a, F [.int v1, .int v2] = .ok (enc a) ∧ Nb a
theorem l_number_by_step {S : Nat → Fn} {c0 c1 c2 k : Nat} (hk : 4 ≤ k) (h0 : DrawnOk k (S c0)) (h1 : MixOk (S c1)) (h2 : GreatOk (S c2)) : NbyOk (fun ds => fnD 5 (G_l_number_by c0 c1 c2 S) ds) := by
  intro v1 v2
  have e50 := E50_eq
  have m1 : ∀ i : Int, cMod i 4 = true ∧ cMod i 6 = true ∧ cMod i 3 = true := fun i => ⟨cMod_of (by decide), cMod_of (by decide), cMod_of (by decide)⟩
  obtain ⟨r, er, r0, r1⟩ := h1 v2 9 (by decide) (by decide)
  obtain ⟨l, hl⟩ := Int.eq_ofNat_of_zero_le (show 0 ≤ r % 4 by omega)
  have l3 : l ≤ 3 := by omega
  obtain ⟨a, ea, da⟩ := h0 v1 l (by omega) (by omega)
  obtain ⟨g, eg, g0, g1⟩ := h2 v2
  have na := nb_of l3 da
  have nfa := na.nf
  have ah := na.h
  have al := da.ll
  have as := na.s
  have h4 : 4 ^ (l + 1) ≤ 4 ^ 4 := Nat.pow_le_pow_right (by decide) (by omega)
  have h5 : (4 : Nat) ^ 4 = 256 := by decide
  have hs := da.s
  have ah5 : a.h ≤ 4 := by have := da.h; omega
  have ul := above_len a .z
  have am := na.m
  have umx : mx (of (above a .z)) ≤ E50 := mx_sub (ps := a.parts) (by omega) (by rw [of_parts]; exact am) List.filter_sublist
  have s1 : (above a .z).length < sizeLine := sz1000' (by omega)
  have s2 : (above a .z).length + 1 ≤ sizeLine := sz1000 (by omega)
  have n1 := gNe_nil (a := a) (by omega)
  have lc : ∀ x y : Option PyData, lcL (gtName 4) (tOf (eOp gNe (eOp gIx (eVar 4) (eC (.int 0))) (eTup aNil))) (eVar 4) [some (.int v1), some (.int v2), x, y, none] (encL a) = .ok ((above a .z).map encP) := fun x y => lc_nz (by omega) (fun x => rfl)
  have us : (of (above a .z)).size ≤ a.size := by
    have := size_sub (qs := above a .z) (ps := a.parts) List.filter_sublist
    rw [of_parts] at this; exact this
  have uh : ∀ k, a.h ≤ k → (of (above a .z)).h ≤ k := fun k hk => h_of.mpr fun p hp => (h_parts a).mp hk p (above_mem hp).1
  have unf : NF (of (above a .z)) := nf_sub (by rw [of_parts]; exact nfa) List.filter_sublist
  by_cases q0 : v2 % 6 = 0
  · refine ⟨of (above a .z ++ [(.z, g)]), fnD_of ?_, nb_mk ?_ ?_ ?_ ?_ ?_⟩
    · have ep : enc (of (above a .z ++ [(.z, g)])) = .tuple ((above a .z).map encP ++ [.tuple [.tuple [], .int g]]) := by
        show PyData.tuple (encL _) = _
        rw [encL_of]; simp
      rw [ep]
      unfold G_l_number_by
      simp [er, m1, hl, ea, eg, q0, lc, s1, s2]
    · rw [nf_of, List.pairwise_append]
      have hp := (nf_parts _).mp unf
      rw [parts_of] at hp
      refine ⟨⟨hp.1, by simp, fun p hp q hq => ?_⟩, fun p hp2 => ?_⟩
      · simp only [List.mem_singleton] at hq; subst hq; exact (above_mem hp).2
      · rcases List.mem_append.mp hp2 with h | h
        · exact hp.2 p h
        · simp only [List.mem_singleton] at h; subst h; exact ⟨trivial, g0⟩
    · refine h_of.mpr fun p hp => ?_
      rcases List.mem_append.mp hp with h | h
      · have := (h_parts a).mp ah5 p (above_mem h).1; omega
      · simp only [List.mem_singleton] at h; subst h; show 0 + 1 ≤ 6; decide
    · rw [len_of, List.length_append, List.length_singleton]; omega
    · rw [size_app]; show _ + (1 + 0 + 0) ≤ 260; omega
    · rw [mx_of (by omega)]
      intro p hp
      rcases List.mem_append.mp hp with h | h
      · exact (mx_of (by omega)).mp umx p h
      · simp only [List.mem_singleton] at h; subst h; exact ⟨g1, by show 0 ≤ E50; omega⟩
  · by_cases q1 : v2 % 6 = 1
    · by_cases az : a = .z
      · rw [decide_eq_true az] at n1
        refine ⟨a, fnD_of ?_, na⟩
        unfold G_l_number_by
        simp [er, m1, hl, ea, eg, q1, n1]
      · obtain ⟨e, n, r', hz⟩ : ∃ e n r', a = .c e n r' := by
          cases a with
          | z => exact absurd rfl az
          | c e n r' => exact ⟨e, n, r', rfl⟩
        rw [decide_eq_false az] at n1
        have b0 : atI (encL a) 0 = some (encP (e, n)) := by rw [hz]; exact atI_zero _ _
        have b1 : Pu.cutD (encL a) (some 1) none = encL r' := by rw [hz]; exact cut_tl _ _
        have hh : (O.c e n r').h = max (e.h + 1) r'.h := rfl
        have hll : (O.c e n r').len = r'.len + 1 := rfl
        have hss : (O.c e n r').size = 1 + e.size + r'.size := rfl
        have ta := nf_tail (hz ▸ nfa)
        rw [hz] at ah5 al as
        have s3 : 1 + r'.len ≤ sizeLine := sz1000 (by omega)
        refine ⟨.c e g r', fnD_of ?_, nb_mk (nf_mk ta.2.1 g0 ta.1 ta.2.2.2) (by show max (e.h + 1) r'.h ≤ 6; omega) (by show r'.len + 1 ≤ 4; omega) (by show 1 + e.size + r'.size ≤ 260; omega) ?_⟩
        · have ep : enc (.c e g r') = .tuple (.tuple [enc e, .int g] :: encL r') := rfl
          rw [ep]
          unfold G_l_number_by
          simp [er, m1, hl, ea, eg, q1, n1, b0, b1, s3]
        · rw [hz] at am
          have : mx (.c e n r') = max n (max (mx e) (mx r')) := rfl
          show max g (max (mx e) (mx r')) ≤ E50
          omega
    · by_cases q2 : v2 % 6 = 2
      · refine ⟨.c a (1 + g % 3) .z, fnD_of ?_, nb_mk (nf_mk nfa (by omega) trivial (fun q hq => by cases hq)) (by show max (a.h + 1) 0 ≤ 6; omega) (by show 0 + 1 ≤ 4; decide) (by show 1 + a.size + 0 ≤ 260; omega) (by show max (1 + g % 3) (max (mx a) 0) ≤ E50; omega)⟩
        · have ep : enc (.c a (1 + g % 3) .z) = .tuple [.tuple [enc a, .int (1 + g % 3)]] := rfl
          rw [ep]
          unfold G_l_number_by
          simp [er, m1, hl, ea, eg, q2]
      · by_cases q3 : v2 % 6 = 3
        · refine ⟨of (above a .z), fnD_of ?_, nb_mk unf (uh 6 ah) (by rw [len_of]; omega) (by omega) umx⟩
          · have ep : enc (of (above a .z)) = .tuple ((above a .z).map encP) := by
              show PyData.tuple (encL _) = _
              rw [encL_of]
            rw [ep]
            unfold G_l_number_by
            simp [er, m1, hl, ea, eg, q3, lc, s1]
        · refine ⟨a, fnD_of ?_, na⟩
          unfold G_l_number_by
          simp [er, m1, hl, ea, eg, q0, q1, q2, q3]
/-! ### the product -/
def prodL (e : O) (n : Int) (r : O) (ps : List (O × Int)) : List (O × Int) := ps.flatMap fun p => if p.1 = .z then (e, n * p.2) :: r.parts else [(plusO e p.1, p.2)]
theorem prodL_c (e r : O) (n : Int) (p : O × Int) (ps : List (O × Int)) : prodL e n r (p :: ps) = (if p.1 = .z then (e, n * p.2) :: r.parts else [(plusO e p.1, p.2)]) ++ prodL e n r ps := by
  unfold prodL; rw [List.flatMap_cons]
def prodO : O → O → O
  | .z, _ => .z
  | .c e n r, b => of (prodL e n r b.parts)
theorem z_min {s : O} {m : Int} (h : NF (.c .z m s)) : s = .z := by
  cases s with
  | z => rfl
  | c f k t =>
    have := (nf_tail h).2.2.2 (f, k) (by show _ ∈ (f, k) :: t.parts; simp)
    cases f <;> simp [cmp] at this
theorem prod_nf {e r : O} {n : Int} (ha : NF (.c e n r)) : ∀ b : O, NF b → NF (of (prodL e n r b.parts)) ∧ ∀ g, NF g → (∀ q ∈ b.parts, cmp g q.1 = 1) → ∀ p ∈ prodL e n r b.parts, cmp (plusO e g) p.1 = 1
  | .z, _ => ⟨trivial, fun _ _ _ p hp => by cases hp⟩
  | .c f m s, hb => by
    have ta := nf_tail ha
    have tb := nf_tail hb
    by_cases fz : f = .z
    · subst fz
      have sz := z_min hb
      subst sz
      have e1 : prodL e n r (O.c .z m .z).parts = (e, n * m) :: r.parts := by
        show prodL e n r ((O.z, m) :: []) = _
        rw [prodL_c, if_pos rfl]; simp [prodL]
      rw [e1]
      have nm : 1 ≤ n * m := by
        have := Int.mul_le_mul ta.2.2.1 tb.2.2.1 (by decide) (by have := ta.2.2.1; omega)
        simpa using this
      refine ⟨?_, fun g hg hq p hp => ?_⟩
      · have : of ((e, n * m) :: r.parts) = .c e (n * m) r := congrArg _ (of_parts r)
        rw [this]
        exact nf_mk ta.2.1 nm ta.1 ta.2.2.2
      · have gz := hq (O.z, m) (by show _ ∈ (O.z, m) :: []; simp)
        have ge : cmp (plusO e g) e = 1 := by
          have := plus_mono e .z g ta.2.1 trivial hg (cmp_gt.mp gz)
          exact cmp_gt.mpr this
        rcases List.mem_cons.mp hp with h | h
        · rw [h]; exact ge
        · exact gt_trans ge (ta.2.2.2 p h)
    · obtain ⟨i1, i2⟩ := prod_nf ha s tb.1
      have e1 : prodL e n r (O.c f m s).parts = (plusO e f, m) :: prodL e n r s.parts := by
        show prodL e n r ((f, m) :: s.parts) = _
        rw [prodL_c, if_neg fz]; rfl
      rw [e1]
      have hd := i2 f tb.2.1 tb.2.2.2
      refine ⟨?_, fun g hg hq p hp => ?_⟩
      · show NF (.c (plusO e f) m (of (prodL e n r s.parts)))
        refine nf_mk (plusO_nf ta.2.1 tb.2.1) tb.2.2.1 i1 fun q hq => ?_
        rw [parts_of] at hq
        exact hd q hq
      · have gf := hq (f, m) (by show _ ∈ (f, m) :: s.parts; simp)
        have ge : cmp (plusO e g) (plusO e f) = 1 := cmp_gt.mpr (plus_mono e f g ta.2.1 tb.2.1 hg (cmp_gt.mp gf))
        rcases List.mem_cons.mp hp with h | h
        · rw [h]; exact ge
        · exact gt_trans ge (hd p h)
theorem plus_size (a b : O) : (plusO a b).size ≤ a.size + b.size := by
  cases b with
  | z => exact Nat.le_add_right _ _
  | c e n r =>
    show (of (above a e ++ (e, sameN a e + n) :: r.parts)).size ≤ _
    rw [size_app]
    have h1 : (of (above a e)).size ≤ (of a.parts).size := size_sub List.filter_sublist
    rw [of_parts] at h1
    show _ + (1 + e.size + (of r.parts).size) ≤ a.size + (1 + e.size + r.size)
    rw [of_parts]; omega
theorem prod_size {e r : O} {n : Int} : ∀ b : O, (of (prodL e n r b.parts)).size ≤ b.size + b.len * (1 + e.size + r.size)
  | .z => Nat.zero_le _
  | .c f m s => by
    have ih := prod_size (e := e) (r := r) (n := n) s
    show (of (prodL e n r ((f, m) :: s.parts))).size ≤ (1 + f.size + s.size) + (s.len + 1) * (1 + e.size + r.size)
    rw [prodL_c, size_app, Nat.succ_mul]
    by_cases fz : f = .z
    · rw [if_pos fz]
      show (1 + e.size + (of r.parts).size) + _ ≤ _
      rw [of_parts]; omega
    · rw [if_neg fz]
      have := plus_size e f
      show (1 + (plusO e f).size + 0) + _ ≤ _
      omega
theorem prod_h {e r : O} {n : Int} {k : Nat} (ha : (O.c e n r).h ≤ k) {b : O} (hb : b.h ≤ k) : (of (prodL e n r b.parts)).h ≤ k := by
  have hh : (O.c e n r).h = max (e.h + 1) r.h := rfl
  refine h_of.mpr fun p hp => ?_
  unfold prodL at hp
  obtain ⟨q, q1, q2⟩ := List.mem_flatMap.mp hp
  have hq := (h_parts b).mp hb q q1
  by_cases fz : q.1 = .z
  · rw [if_pos fz] at q2
    rcases List.mem_cons.mp q2 with h | h
    · rw [h]; show e.h + 1 ≤ k; omega
    · have := part_mem_h h; omega
  · rw [if_neg fz] at q2
    simp only [List.mem_singleton] at q2
    rw [q2]
    have := plusO_h (a := e) (b := q.1) (k := k - 1) (by omega) (by omega)
    show (plusO e q.1).h + 1 ≤ k
    omega
theorem prod_len {e r : O} {n : Int} (b : O) : (prodL e n r b.parts).length ≤ b.len * (1 + r.len) := by
  have key : ∀ ps : List (O × Int), (prodL e n r ps).length ≤ ps.length * (1 + r.len) := fun ps => by
    induction ps with
    | nil => exact Nat.zero_le _
    | cons p ps ih =>
      rw [prodL_c, List.length_append, List.length_cons, Nat.succ_mul]
      split
      · rw [List.length_cons, len_parts]; omega
      · rw [List.length_singleton]; omega
  have := key b.parts
  rw [len_parts] at this
  exact this
theorem times_loop {F : Fn} {k : Nat} (hF : PlusOk k F) {a e r : O} {n : Int} {bb : Option PyData} (hz : a = .c e n r) (na : Nb a) (hk : 7 ≤ k) : ∀ (b : O) (Fd : List (O × Int)) (x y : Option PyData), b.h ≤ 6 → b.size ≤ 1000 → (∀ p ∈ b.parts, p.2.natAbs < 2 ^ 190) → Fd.length + b.len * (1 + r.len) ≤ 2000 →
    ∃ x' y', forL (gtTup 2 (gtCons (gtName 5) (gtCons (gtName 6) gtNil))) (sIf (tOf (eOp gEq (eVar 5) (eTup aNil))) (sSeq (sAppM [4] 4 (eTup (aCons (eVar 2) (aCons (eOp gMul (eVar 3) (eVar 6)) aNil)))) (sExtM [4] 4 (eSl (eVar 0) (oSome (eC (.int 1))) oNone))) (sAppM [4] 4 (eTup (aCons (eFn F (aCons (eVar 2) (aCons (eVar 5) aNil))) (aCons (eVar 6) aNil))))) (encL b) [some (enc a), bb, some (enc e), some (.int n), some (.list (Fd.map encP)), x, y] =
      .nx [some (enc a), bb, some (enc e), some (.int n), some (.list ((Fd ++ prodL e n r b.parts).map encP)), x', y']
  | .z, Fd, x, y, _, _, _, _ => ⟨x, y, by show Out.nx _ = Out.nx _; simp [prodL, O.parts]⟩
  | .c f m s, Fd, x, y, hh, hs, hc, hl => by
    have h3 : (O.c f m s).h = max (f.h + 1) s.h := rfl
    have h4 : (O.c f m s).len = s.len + 1 := rfl
    have h5 : (O.c f m s).size = 1 + f.size + s.size := rfl
    have h6 : (O.c e n r).h = max (e.h + 1) r.h := rfl
    have h7 : (O.c e n r).len = r.len + 1 := rfl
    have hah := na.h
    have hal := na.ll
    have has := na.s
    have h8 : (O.c e n r).size = 1 + e.size + r.size := rfl
    rw [hz] at hah hal has
    have cm := hc (f, m) (by show _ ∈ (f, m) :: s.parts; simp)
    rw [h4, Nat.succ_mul] at hl
    have s1 : Fd.length < sizeLine := sz1000' (by omega)
    have g1 := gEq_nil (a := f) (by omega)
    have cn := na.hd e n r hz
    have mm : cMul n m = true := cMul_of 190 190 cn cm (by decide) (by decide) (by decide)
    have hc2 : ∀ p ∈ s.parts, p.2.natAbs < 2 ^ 190 := fun p hp => hc p (by show _ ∈ (f, m) :: s.parts; simp [hp])
    have b1 : Pu.cutD (encL a) (some 1) none = encL r := by rw [hz]; exact cut_tl _ _
    have lp := len_parts r
    by_cases fz : f = .z
    · rw [decide_eq_true fz] at g1
      obtain ⟨x', y', e1⟩ := times_loop hF (bb := bb) hz na hk s (Fd ++ (e, n * m) :: r.parts) (some (enc f)) (some (.int m)) (by omega) (by omega) hc2 (by rw [List.length_append, List.length_cons]; omega)
      refine ⟨x', y', ?_⟩
      have e2 : Fd ++ prodL e n r (O.c f m s).parts = (Fd ++ (e, n * m) :: r.parts) ++ prodL e n r s.parts := by
        show Fd ++ prodL e n r ((f, m) :: s.parts) = _
        rw [prodL_c, if_pos fz, List.append_assoc]
      rw [e2, ← e1]
      have s2 : Fd.length + 1 + r.len ≤ sizeLine := sz1000 (by omega)
      have ep : (Fd ++ (e, n * m) :: r.parts).map encP = Fd.map encP ++ .tuple [enc e, .int (n * m)] :: encL r := by rw [List.map_append, List.map_cons, ← encL_parts]
      rw [ep]
      show forL _ _ (.tuple [enc f, .int m] :: encL s) _ = _
      rw [u_forL_c]
      simp [g1, mm, s1, b1, s2, mask]
    · rw [decide_eq_false fz] at g1
      obtain ⟨x', y', e1⟩ := times_loop hF (bb := bb) hz na hk s (Fd ++ [(plusO e f, m)]) (some (enc f)) (some (.int m)) (by omega) (by omega) hc2 (by rw [List.length_append, List.length_singleton]; omega)
      refine ⟨x', y', ?_⟩
      have e2 : Fd ++ prodL e n r (O.c f m s).parts = (Fd ++ [(plusO e f, m)]) ++ prodL e n r s.parts := by
        show Fd ++ prodL e n r ((f, m) :: s.parts) = _
        rw [prodL_c, if_neg fz, List.append_assoc]
      rw [e2, ← e1]
      have ne : NF e := (nf_tail (hz ▸ na.nf)).2.1
      have le := len_le_size e
      have lf := len_le_size f
      have pl := hF e f ne (by omega) (by omega) (by omega) (by omega) (by omega)
      have ep : (Fd ++ [(plusO e f, m)]).map encP = Fd.map encP ++ [.tuple [enc (plusO e f), .int m]] := by rw [List.map_append]; rfl
      rw [ep]
      show forL _ _ (.tuple [enc f, .int m] :: encL s) _ = _
      rw [u_forL_c]
      simp [g1, s1, pl, mask]
def TimesOk (F : Fn) : Prop := ∀ a b : O, Nb a → Nb b → F [enc a, enc b] = .ok (enc (prodO a b))
theorem times_step {S : Nat → Fn} {c0 k : Nat} (hF : PlusOk k (S c0)) (hk : 7 ≤ k) : TimesOk (fun ds => fnD 7 (G_times c0 S) ds) := by
  intro a b na nb
  refine fnD_of ?_
  have g1 := gEq_nil (a := a) (by have := na.h; omega)
  by_cases az : a = .z
  · rw [decide_eq_true az] at g1
    have : prodO a b = .z := by rw [az]; rfl
    rw [this]
    unfold G_times
    simp [g1]
  · obtain ⟨e, n, r, hz⟩ : ∃ e n r, a = .c e n r := by
      cases a with
      | z => exact absurd rfl az
      | c e n r => exact ⟨e, n, r, rfl⟩
    rw [decide_eq_false az] at g1
    have b0 : atI (encL a) 0 = some (encP (e, n)) := by rw [hz]; exact atI_zero _ _
    have hl := na.ll
    have h7 : (O.c e n r).len = r.len + 1 := rfl
    rw [hz] at hl
    have hb := nb.ll
    obtain ⟨x', y', e1⟩ := times_loop hF (bb := some (enc b)) hz na hk b [] none none nb.h (by have := nb.s; omega) nb.cs (by
      have : b.len * (1 + r.len) ≤ 4 * 4 := Nat.mul_le_mul hb (by omega)
      simp; omega)
    have e1' : forL (gtTup 2 (gtCons (gtName 5) (gtCons (gtName 6) gtNil))) (sIf (tOf (eOp gEq (eVar 5) (eTup aNil))) (sSeq (sAppM [4] 4 (eTup (aCons (eVar 2) (aCons (eOp gMul (eVar 3) (eVar 6)) aNil)))) (sExtM [4] 4 (eSl (eVar 0) (oSome (eC (.int 1))) oNone))) (sAppM [4] 4 (eTup (aCons (eFn (S c0) (aCons (eVar 2) (aCons (eVar 5) aNil))) (aCons (eVar 6) aNil))))) (encL b) [some (enc a), some (enc b), some (enc e), some (.int n), some (.list []), none, none] = _ := e1
    have ep : enc (prodO a b) = .tuple ((prodL e n r b.parts).map encP) := by rw [hz]; show PyData.tuple (encL (of _)) = _; rw [encL_of]
    rw [ep]
    unfold G_times
    simp [g1, b0, mask, e1']
theorem prodO_nf {a b : O} (ha : NF a) (hb : NF b) : NF (prodO a b) := by
  cases a with
  | z => trivial
  | c e n r => exact (prod_nf ha b hb).1
theorem prodO_h {a b : O} {k : Nat} (ha : a.h ≤ k) (hb : b.h ≤ k) : (prodO a b).h ≤ k := by
  cases a with
  | z => exact Nat.zero_le _
  | c e n r => exact prod_h ha hb
theorem prodO_size {a b : O} (ha : Nb a) (hb : Nb b) : (prodO a b).size ≤ 10000 := by
  cases a with
  | z => exact Nat.zero_le _
  | c e n r =>
    have h1 := prod_size (e := e) (r := r) (n := n) b
    have h2 := ha.s
    have h3 : (O.c e n r).size = 1 + e.size + r.size := rfl
    have h4 : b.len * (1 + e.size + r.size) ≤ 4 * 1000 := Nat.mul_le_mul hb.ll (by omega)
    have h5 := hb.s
    show (of _).size ≤ _
    omega
end Nm
set_option Elab.async false
set_option linter.all false
set_option maxRecDepth 100000
set_option maxHeartbeats 4000000
namespace Nm
open PySem Pu O L2
/-! ### products, place by place -/
theorem prod_bz {a : O} : prodO a .z = .z := by cases a <;> rfl
theorem prod_zero {e r : O} {n m : Int} : prodO (.c e n r) (.c .z m .z) = .c e (n * m) r := by
  show of (prodL e n r ((O.z, m) :: [])) = _
  rw [prodL_c, if_pos rfl]
  show of ((e, n * m) :: r.parts ++ []) = _
  rw [List.append_nil]
  exact congrArg (O.c e (n * m)) (of_parts r)
theorem prod_nz {e r f s : O} {n m : Int} (h : f ≠ .z) : prodO (.c e n r) (.c f m s) = .c (plusO e f) m (prodO (.c e n r) s) := by
  show of (prodL e n r ((f, m) :: s.parts)) = _
  rw [prodL_c, if_neg h]
  rfl
theorem z_lt {f : O} (h : f ≠ .z) : cmp .z f = -1 := by
  cases f with
  | z => exact absurd rfl h
  | c e n r => exact cmp_zc
theorem not_z {f g : O} (h : cmp f g = -1) : g ≠ .z := fun z => by
  rw [z] at h
  cases f <;> simp [cmp] at h
theorem plus_not_z {f g : O} (h : g ≠ .z) : plusO f g ≠ .z := by
  cases g with
  | z => exact absurd rfl h
  | c e n r =>
    intro z
    have := congrArg O.len z
    have hl : (plusO f (.c e n r)).len = (above f e).length + (r.len + 1) := by
      show (of (above f e ++ (e, sameN f e + n) :: r.parts)).len = _
      rw [len_of, List.length_append, List.length_cons, len_parts]
    rw [hl] at this
    have h0 : (O.z).len = 0 := rfl
    omega
/-- the head of a product -/
theorem prod_hd {e r f s : O} {n m : Int} (hb : NF (.c f m s)) : ∃ c t, prodO (.c e n r) (.c f m s) = .c (plusO e f) c t := by
  by_cases fz : f = .z
  · subst fz
    rw [z_min hb, prod_zero]
    exact ⟨_, _, rfl⟩
  · rw [prod_nz fz]; exact ⟨_, _, rfl⟩
theorem prod_dist {e r : O} {n : Int} (ha : NF (.c e n r)) : ∀ b d : O, NF b → NF d → prodO (.c e n r) (plusO b d) = plusO (prodO (.c e n r) b) (prodO (.c e n r) d)
  | .z, d, _, _ => by rw [plus_z, prod_bz, plus_z]
  | .c f m s, .z, _, _ => by rw [prod_bz]; rfl
  | .c f m s, .c g k t, hb, hd => by
    have ne := (nf_tail ha).2.1
    have tb := nf_tail hb
    have td := nf_tail hd
    have pb := prodO_nf ha hb
    have pd := prodO_nf ha hd
    rcases cmp_tri f g with c | c | c
    · rw [plus_lt hb c]
      obtain ⟨c1, t1, e1⟩ := prod_hd (e := e) (r := r) (n := n) hb
      obtain ⟨c2, t2, e2⟩ := prod_hd (e := e) (r := r) (n := n) hd
      rw [e1] at pb ⊢
      rw [e2]
      rw [plus_lt pb (by rw [plus_cmp ne tb.2.1 td.2.1]; exact c)]
    · subst c
      rw [plus_eq hb]
      by_cases fz : f = .z
      · subst fz
        have h1 := z_min hb
        have h2 := z_min hd
        subst h1; subst h2
        rw [prod_zero] at pb
        rw [prod_zero, prod_zero, prod_zero, plus_eq pb, Int.mul_add]
      · rw [prod_nz fz] at pb
        rw [prod_nz fz, prod_nz fz, prod_nz fz, plus_eq pb]
    · have fz : f ≠ .z := not_z (cmp_gt.mp c)
      rw [plus_gt c, prod_nz fz, prod_nz fz, prod_dist ha s (.c g k t) tb.1 hd]
      obtain ⟨c2, t2, e2⟩ := prod_hd (e := e) (r := r) (n := n) hd
      rw [e2]
      rw [plus_gt (by rw [plus_cmp ne tb.2.1 td.2.1]; exact c)]
theorem prod_assoc {a b : O} (ha : NF a) (hb : NF b) : ∀ d : O, NF d → prodO (prodO a b) d = prodO a (prodO b d)
  | .z, _ => by rw [prod_bz, prod_bz, prod_bz]
  | .c g k t, hd => by
    have td := nf_tail hd
    cases a with
    | z => rfl
    | c e n r =>
      cases b with
      | z => rw [prod_bz]; rfl
      | c f m s =>
        have ne := (nf_tail ha).2.1
        have nf := (nf_tail hb).2.1
        by_cases gz : g = .z
        · subst gz
          have h1 := z_min hd
          subst h1
          rw [prod_zero]
          by_cases fz : f = .z
          · subst fz
            have h2 := z_min hb
            subst h2
            rw [prod_zero, prod_zero, prod_zero, Int.mul_assoc]
          · rw [prod_nz fz, prod_nz fz, prod_zero]
        · have ih := prod_assoc ha hb t td.1
          obtain ⟨c1, t1, e1⟩ := prod_hd (e := e) (r := r) (n := n) hb
          rw [prod_nz (e := f) gz, prod_nz (plus_not_z gz), ← ih, e1, prod_nz gz, plus_assoc e f g ne nf td.2.1]
theorem prod_mono {e r : O} {n : Int} (ha : NF (.c e n r)) : ∀ b d : O, NF b → NF d → cmp b d = -1 → cmp (prodO (.c e n r) b) (prodO (.c e n r) d) = -1
  | b, .z, _, _, h => absurd rfl (not_z h)
  | .z, .c g k t, _, hd, _ => by
    obtain ⟨c2, t2, e2⟩ := prod_hd (e := e) (r := r) (n := n) hd
    rw [prod_bz, e2]; exact cmp_zc
  | .c f m s, .c g k t, hb, hd, h => by
    have ta := nf_tail ha
    have tb := nf_tail hb
    have td := nf_tail hd
    rcases cmp_c.mp h with q | ⟨q, q2⟩
    · obtain ⟨c1, t1, e1⟩ := prod_hd (e := e) (r := r) (n := n) hb
      obtain ⟨c2, t2, e2⟩ := prod_hd (e := e) (r := r) (n := n) hd
      rw [e1, e2]
      exact cmp_lt_head (by rw [plus_cmp ta.2.1 tb.2.1 td.2.1]; exact q)
    · subst q
      by_cases fz : f = .z
      · subst fz
        have h1 := z_min hb
        have h2 := z_min hd
        subst h1; subst h2
        rw [prod_zero, prod_zero]
        rcases q2 with q2 | ⟨_, q3⟩
        · exact cmp_c.mpr (Or.inr ⟨rfl, Or.inl (Int.mul_lt_mul_of_pos_left q2 (by have := ta.2.2.1; omega))⟩)
        · rw [cmp_self] at q3; cases q3
      · rw [prod_nz fz, prod_nz fz]
        rcases q2 with q2 | ⟨q2, q3⟩
        · exact cmp_c.mpr (Or.inr ⟨rfl, Or.inl q2⟩)
        · exact cmp_c.mpr (Or.inr ⟨rfl, Or.inr ⟨q2, prod_mono ha s t tb.1 td.1 q3⟩⟩)
theorem prod_cmp {e r : O} {n : Int} (ha : NF (.c e n r)) {b d : O} (hb : NF b) (hd : NF d) : cmp (prodO (.c e n r) b) (prodO (.c e n r) d) = cmp b d := by
  rcases cmp_tri b d with c | c | c
  · rw [c, prod_mono ha b d hb hd c]
  · subst c; rw [cmp_self, cmp_self]
  · rw [c]; exact cmp_gt.mpr (prod_mono ha d b hd hb (cmp_gt.mp c))
theorem prod_weak {b d : O} (hb : NF b) (hd : NF d) (h : cmp b d = -1) : ∀ a : O, NF a → cmp (prodO b a) (prodO d a) = -1 ∨ cmp (prodO b a) (prodO d a) = 0
  | .z, _ => by rw [prod_bz, prod_bz, cmp_self]; exact Or.inr rfl
  | .c g k t, ha => by
    have ta := nf_tail ha
    cases d with
    | z => exact absurd rfl (not_z h)
    | c f' m' s' =>
      cases b with
      | z =>
        obtain ⟨c2, t2, e2⟩ := prod_hd (e := f') (r := s') (n := m') ha
        rw [e2]; exact Or.inl cmp_zc
      | c f m s =>
        have tb := nf_tail hb
        have td := nf_tail hd
        have h' := cmp_c.mp h
        by_cases gz : g = .z
        · subst gz
          have h1 := z_min ha
          subst h1
          rw [prod_zero, prod_zero]
          rcases h' with q | ⟨q, q2 | ⟨q2, q3⟩⟩
          · exact Or.inl (cmp_lt_head q)
          · exact Or.inl (cmp_c.mpr (Or.inr ⟨q, Or.inl (Int.mul_lt_mul_of_pos_right q2 (by have := ta.2.2.1; omega))⟩))
          · exact Or.inl (cmp_c.mpr (Or.inr ⟨q, Or.inr ⟨by rw [q2], q3⟩⟩))
        · have ih := prod_weak hb hd h t ta.1
          rw [prod_nz gz, prod_nz gz]
          have hd2 : cmp (plusO f g) (plusO f' g) = -1 ∨ plusO f g = plusO f' g := by
            rcases h' with q | ⟨q, _⟩
            · rcases plus_weak f f' g ta.2.1 tb.2.1 td.2.1 q with z | z
              · exact Or.inl z
              · exact Or.inr ((cmp_eq _ _).mp z)
            · exact Or.inr (by rw [q])
          rcases hd2 with z | z
          · exact Or.inl (cmp_lt_head z)
          · rw [z]
            rcases ih with i | i
            · exact Or.inl (cmp_c.mpr (Or.inr ⟨rfl, Or.inr ⟨rfl, i⟩⟩))
            · rw [(cmp_eq _ _).mp i, cmp_self]; exact Or.inr rfl
theorem prod_one {a : O} : prodO a (.c .z 1 .z) = a := by
  cases a with
  | z => rfl
  | c e n r => rw [prod_zero, Int.mul_one]
theorem one_prod : ∀ b : O, NF b → prodO (.c .z 1 .z) b = b
  | .z, _ => prod_bz
  | .c f m s, hb => by
    by_cases fz : f = .z
    · subst fz
      rw [z_min hb, prod_zero, Int.one_mul]
    · rw [prod_nz fz, plus_z, one_prod s (nf_tail hb).1]
end Nm
set_option Elab.async false
set_option linter.all false
set_option maxRecDepth 100000
set_option maxHeartbeats 4000000
namespace Nm
open PySem Pu O L2
/-- numbers of a bounded size: parts, exponents' parts, bits of times, parts in all -/
structure Bg (L E C Z : Nat) (a : O) : Prop where
  nf : NF a
  h : a.h ≤ 8
  ll : a.len ≤ L
  el : ∀ p ∈ a.parts, p.1.len ≤ E
  cs : ∀ p ∈ a.parts, p.2.natAbs < 2 ^ C
  s : a.size ≤ Z
theorem Bg.of_nb {a : O} (n : Nb a) : Bg 4 260 300 260 a := ⟨n.nf, by have := n.h; omega, n.ll, fun p hp => by have h1 := size_part hp; have h2 := len_le_size p.1; have := n.s; omega, fun p hp => Nat.lt_of_lt_of_le (n.cs p hp) (Nat.pow_le_pow_right (by decide) (by decide)), n.s⟩
theorem Bg.up {L E C Z L' E' C' Z' : Nat} {a : O} (b : Bg L E C Z a) (h1 : L ≤ L') (h2 : E ≤ E') (h3 : C ≤ C') (h4 : Z ≤ Z') : Bg L' E' C' Z' a :=
  ⟨b.nf, b.h, Nat.le_trans b.ll h1, fun p hp => Nat.le_trans (b.el p hp) h2, fun p hp => Nat.lt_of_lt_of_le (b.cs p hp) (Nat.pow_le_pow_right (by decide) h3), Nat.le_trans b.s h4⟩
theorem times_loopG {F : Fn} {k C1 C2 : Nat} (hF : PlusOk k F) {a e r : O} {n : Int} {bb : Option PyData} (hz : a = .c e n r) (ne : NF e) (eh : e.h ≤ 8) (el : e.len ≤ 1000000) (cn : n.natAbs < 2 ^ C1) (hC1 : 0 < C1) (hC2 : 0 < C2) (hC : C1 + C2 ≤ 100000) (hk : 9 ≤ k) : ∀ (b : O) (Fd : List (O × Int)) (x y : Option PyData), (∀ p ∈ b.parts, p.1.h ≤ 8 ∧ p.1.len ≤ 1000000 ∧ p.2.natAbs < 2 ^ C2) → Fd.length + b.len * (1 + r.len) ≤ 5000000 →
    ∃ x' y', forL (gtTup 2 (gtCons (gtName 5) (gtCons (gtName 6) gtNil))) (sIf (tOf (eOp gEq (eVar 5) (eTup aNil))) (sSeq (sAppM [4] 4 (eTup (aCons (eVar 2) (aCons (eOp gMul (eVar 3) (eVar 6)) aNil)))) (sExtM [4] 4 (eSl (eVar 0) (oSome (eC (.int 1))) oNone))) (sAppM [4] 4 (eTup (aCons (eFn F (aCons (eVar 2) (aCons (eVar 5) aNil))) (aCons (eVar 6) aNil))))) (encL b) [some (enc a), bb, some (enc e), some (.int n), some (.list (Fd.map encP)), x, y] =
      .nx [some (enc a), bb, some (enc e), some (.int n), some (.list ((Fd ++ prodL e n r b.parts).map encP)), x', y']
  | .z, Fd, x, y, _, _ => ⟨x, y, by show Out.nx _ = Out.nx _; simp [prodL, O.parts]⟩
  | .c f m s, Fd, x, y, hc, hl => by
    have h4 : (O.c f m s).len = s.len + 1 := rfl
    obtain ⟨fh, fl, cm⟩ := hc (f, m) (by show _ ∈ (f, m) :: s.parts; simp)
    replace fh : f.h ≤ 8 := fh
    replace fl : f.len ≤ 1000000 := fl
    rw [h4, Nat.succ_mul] at hl
    have s1 : Fd.length < sizeLine := sz1000' (by omega)
    have g1 := gEq_nil (a := f) (by omega)
    have mm : cMul n m = true := cMul_of C1 C2 cn cm hC1 hC2 (by omega)
    have hc2 : ∀ p ∈ s.parts, p.1.h ≤ 8 ∧ p.1.len ≤ 1000000 ∧ p.2.natAbs < 2 ^ C2 := fun p hp => hc p (by show _ ∈ (f, m) :: s.parts; simp [hp])
    have b1 : Pu.cutD (encL a) (some 1) none = encL r := by rw [hz]; exact cut_tl _ _
    have lp := len_parts r
    by_cases fz : f = .z
    · rw [decide_eq_true fz] at g1
      obtain ⟨x', y', e1⟩ := times_loopG hF (bb := bb) hz ne eh el cn hC1 hC2 hC hk s (Fd ++ (e, n * m) :: r.parts) (some (enc f)) (some (.int m)) hc2 (by rw [List.length_append, List.length_cons]; omega)
      refine ⟨x', y', ?_⟩
      have e2 : Fd ++ prodL e n r (O.c f m s).parts = (Fd ++ (e, n * m) :: r.parts) ++ prodL e n r s.parts := by
        show Fd ++ prodL e n r ((f, m) :: s.parts) = _
        rw [prodL_c, if_pos fz, List.append_assoc]
      rw [e2, ← e1]
      have s2 : Fd.length + 1 + r.len ≤ sizeLine := sz1000 (by omega)
      have ep : (Fd ++ (e, n * m) :: r.parts).map encP = Fd.map encP ++ .tuple [enc e, .int (n * m)] :: encL r := by rw [List.map_append, List.map_cons, ← encL_parts]
      rw [ep]
      show forL _ _ (.tuple [enc f, .int m] :: encL s) _ = _
      rw [u_forL_c]
      simp [g1, mm, s1, b1, s2, mask]
    · rw [decide_eq_false fz] at g1
      obtain ⟨x', y', e1⟩ := times_loopG hF (bb := bb) hz ne eh el cn hC1 hC2 hC hk s (Fd ++ [(plusO e f, m)]) (some (enc f)) (some (.int m)) hc2 (by rw [List.length_append, List.length_singleton]; omega)
      refine ⟨x', y', ?_⟩
      have e2 : Fd ++ prodL e n r (O.c f m s).parts = (Fd ++ [(plusO e f, m)]) ++ prodL e n r s.parts := by
        show Fd ++ prodL e n r ((f, m) :: s.parts) = _
        rw [prodL_c, if_neg fz, List.append_assoc]
      rw [e2, ← e1]
      have pl := hF e f ne (by omega) (by omega) (by omega) (by omega) (by omega)
      have ep : (Fd ++ [(plusO e f, m)]).map encP = Fd.map encP ++ [.tuple [enc (plusO e f), .int m]] := by rw [List.map_append]; rfl
      rw [ep]
      show forL _ _ (.tuple [enc f, .int m] :: encL s) _ = _
      rw [u_forL_c]
      simp [g1, s1, pl, mask]
def TimesG (F : Fn) : Prop := ∀ {L1 E1 C1 Z1 L2 E2 C2 Z2 : Nat} {a b : O}, Bg L1 E1 C1 Z1 a → Bg L2 E2 C2 Z2 b → E1 ≤ 1000000 → E2 ≤ 1000000 → L2 * (1 + L1) ≤ 5000000 → 0 < C1 → 0 < C2 → C1 + C2 ≤ 100000 → F [enc a, enc b] = .ok (enc (prodO a b))
theorem times_stepG {S : Nat → Fn} {c0 k : Nat} (hF : PlusOk k (S c0)) (hk : 9 ≤ k) : TimesG (fun ds => fnD 7 (G_times c0 S) ds) := by
  intro L1 E1 C1 Z1 L2 E2 C2 Z2 a b na nb hE1 hE2 hL hC1 hC2 hC
  refine fnD_of ?_
  have g1 := gEq_nil (a := a) (by have := na.h; omega)
  by_cases az : a = .z
  · rw [decide_eq_true az] at g1
    have : prodO a b = .z := by rw [az]; rfl
    rw [this]
    unfold G_times
    simp [g1]
  · obtain ⟨e, n, r, hz⟩ : ∃ e n r, a = .c e n r := by
      cases a with
      | z => exact absurd rfl az
      | c e n r => exact ⟨e, n, r, rfl⟩
    rw [decide_eq_false az] at g1
    have b0 : atI (encL a) 0 = some (encP (e, n)) := by rw [hz]; exact atI_zero _ _
    have hl := na.ll
    have h7 : (O.c e n r).len = r.len + 1 := rfl
    have hm : (e, n) ∈ a.parts := by rw [hz]; show _ ∈ (e, n) :: r.parts; simp
    have eh := part_mem_h hm
    have ell := na.el _ hm
    have ecs := na.cs _ hm
    have ene := (((nf_parts a).mp na.nf).2 _ hm).1
    have hah := na.h
    rw [hz] at hl
    obtain ⟨x', y', e1⟩ := times_loopG hF (C1 := C1) (C2 := C2) (bb := some (enc b)) hz ene (by replace eh : e.h + 1 ≤ a.h := eh; omega) (Nat.le_trans ell hE1) ecs hC1 hC2 hC hk b [] none none (fun p hp => ⟨by have := part_mem_h hp; have := nb.h; omega, Nat.le_trans (nb.el p hp) hE2, nb.cs p hp⟩) (by
      have : b.len * (1 + r.len) ≤ L2 * (1 + L1) := Nat.mul_le_mul nb.ll (by omega)
      simp; omega)
    have e1' : forL (gtTup 2 (gtCons (gtName 5) (gtCons (gtName 6) gtNil))) (sIf (tOf (eOp gEq (eVar 5) (eTup aNil))) (sSeq (sAppM [4] 4 (eTup (aCons (eVar 2) (aCons (eOp gMul (eVar 3) (eVar 6)) aNil)))) (sExtM [4] 4 (eSl (eVar 0) (oSome (eC (.int 1))) oNone))) (sAppM [4] 4 (eTup (aCons (eFn (S c0) (aCons (eVar 2) (aCons (eVar 5) aNil))) (aCons (eVar 6) aNil))))) (encL b) [some (enc a), some (enc b), some (enc e), some (.int n), some (.list []), none, none] = _ := e1
    have ep : enc (prodO a b) = .tuple ((prodL e n r b.parts).map encP) := by rw [hz]; show PyData.tuple (encL (of _)) = _; rw [encL_of]
    rw [ep]
    unfold G_times
    simp [g1, b0, mask, e1']
theorem natAbs_mul_lt {n m : Int} {A B : Nat} (h1 : n.natAbs < 2 ^ A) (h2 : m.natAbs < 2 ^ B) : (n * m).natAbs < 2 ^ (A + B) := by
  rw [Int.natAbs_mul, Nat.pow_add]
  have hb : 0 < 2 ^ B := Nat.pow_pos (by decide)
  rcases Nat.eq_zero_or_pos m.natAbs with z | z
  · rw [z, Nat.mul_zero]; exact Nat.mul_pos (Nat.pow_pos (by decide)) hb
  · exact Nat.lt_of_lt_of_le (Nat.mul_lt_mul_of_pos_right h1 z) (Nat.mul_le_mul_left _ (Nat.le_of_lt h2))
theorem Bg.prod {L1 E1 C1 Z1 L2 E2 C2 Z2 : Nat} {a b : O} (na : Bg L1 E1 C1 Z1 a) (nb : Bg L2 E2 C2 Z2 b) : Bg (L2 * (1 + L1)) (E1 + E2) (C1 + C2) (Z2 + L2 * Z1) (prodO a b) := by
  cases a with
  | z => exact ⟨trivial, Nat.zero_le _, Nat.zero_le _, (fun p hp => by cases hp), (fun p hp => by cases hp), Nat.zero_le _⟩
  | c e n r =>
    have hm : (e, n) ∈ (O.c e n r).parts := by show _ ∈ (e, n) :: r.parts; simp
    have inr : ∀ p ∈ r.parts, p ∈ (O.c e n r).parts := fun p hp => by show p ∈ (e, n) :: r.parts; simp [hp]
    have ell : e.len ≤ E1 := na.el _ hm
    have ecs := na.cs _ hm
    have hl := na.ll
    have h7 : (O.c e n r).len = r.len + 1 := rfl
    have hs := na.s
    have h8 : (O.c e n r).size = 1 + e.size + r.size := rfl
    have p1 : 2 ^ C1 ≤ 2 ^ (C1 + C2) := Nat.pow_le_pow_right (by decide) (by omega)
    have p2 : 2 ^ C2 ≤ 2 ^ (C1 + C2) := Nat.pow_le_pow_right (by decide) (by omega)
    refine ⟨prodO_nf na.nf nb.nf, prodO_h na.h nb.h, ?_, fun p hp => ?_, fun p hp => ?_, ?_⟩
    · show (of _).len ≤ _
      rw [len_of]
      have h1 := prod_len (e := e) (n := n) (r := r) b
      have h2 : b.len * (1 + r.len) ≤ L2 * (1 + L1) := Nat.mul_le_mul nb.ll (by omega)
      omega
    · rw [show (prodO (.c e n r) b).parts = prodL e n r b.parts from parts_of _] at hp
      unfold prodL at hp
      obtain ⟨q, q1, q2⟩ := List.mem_flatMap.mp hp
      have hq := nb.el q q1
      by_cases fz : q.1 = .z
      · rw [if_pos fz] at q2
        rcases List.mem_cons.mp q2 with h | h
        · rw [h]; show e.len ≤ _; omega
        · have := na.el p (inr p h); omega
      · rw [if_neg fz] at q2
        simp only [List.mem_singleton] at q2
        rw [q2]
        have := plusO_len (a := e) (b := q.1)
        show (plusO e q.1).len ≤ _
        omega
    · rw [show (prodO (.c e n r) b).parts = prodL e n r b.parts from parts_of _] at hp
      unfold prodL at hp
      obtain ⟨q, q1, q2⟩ := List.mem_flatMap.mp hp
      have hq := nb.cs q q1
      by_cases fz : q.1 = .z
      · rw [if_pos fz] at q2
        rcases List.mem_cons.mp q2 with h | h
        · rw [h]; exact natAbs_mul_lt ecs hq
        · exact Nat.lt_of_lt_of_le (na.cs p (inr p h)) p1
      · rw [if_neg fz] at q2
        simp only [List.mem_singleton] at q2
        rw [q2]; exact Nat.lt_of_lt_of_le hq p2
    · have h1 := prod_size (e := e) (r := r) (n := n) b
      have h4 : b.len * (1 + e.size + r.size) ≤ L2 * Z1 := Nat.mul_le_mul nb.ll (by omega)
      have h5 := nb.s
      show (of _).size ≤ _
      omega
theorem Bg.plus {L1 E1 C1 Z1 L2 E2 C2 Z2 : Nat} {a b : O} (na : Bg L1 E1 C1 Z1 a) (nb : Bg L2 E2 C2 Z2 b) : Bg (L1 + L2) (E1 + E2) (C1 + C2 + 1) (Z1 + Z2) (plusO a b) := by
  have p1 : 2 ^ C1 ≤ 2 ^ (C1 + C2) := Nat.pow_le_pow_right (by decide) (by omega)
  have p2 : 2 ^ C2 ≤ 2 ^ (C1 + C2) := Nat.pow_le_pow_right (by decide) (by omega)
  have p3 : 2 ^ (C1 + C2 + 1) = 2 * 2 ^ (C1 + C2) := by rw [Nat.pow_succ]; omega
  refine ⟨plusO_nf na.nf nb.nf, plusO_h na.h nb.h, by have := plusO_len (a := a) (b := b); have := na.ll; have := nb.ll; omega, ?_, ?_, by have := plus_size a b; have := na.s; have := nb.s; omega⟩
  · cases b with
    | z => intro p hp; have := na.el p hp; omega
    | c e n r =>
      intro p hp
      rw [show (plusO a (.c e n r)).parts = above a e ++ (e, sameN a e + n) :: r.parts from parts_of _] at hp
      have inb : ∀ q ∈ (e, n) :: r.parts, q.1.len ≤ E2 := fun q hq => nb.el q hq
      rcases List.mem_append.mp hp with h | h
      · have := na.el p (List.mem_filter.mp h).1; omega
      · rcases List.mem_cons.mp h with h | h
        · rw [h]; have := inb (e, n) (by simp); show e.len ≤ _; replace this : e.len ≤ E2 := this; omega
        · have := inb p (List.mem_cons_of_mem _ h); omega
  · cases b with
    | z => intro p hp; have := na.cs p hp; omega
    | c e n r =>
      intro p hp
      rw [show (plusO a (.c e n r)).parts = above a e ++ (e, sameN a e + n) :: r.parts from parts_of _] at hp
      have inb : ∀ q ∈ (e, n) :: r.parts, q.2.natAbs < 2 ^ C2 := fun q hq => nb.cs q hq
      rcases List.mem_append.mp hp with h | h
      · have := na.cs p (List.mem_filter.mp h).1; omega
      · rcases List.mem_cons.mp h with h | h
        · have h1 := inb (e, n) (by simp)
          have h2 : (sameN a e).natAbs < 2 ^ C1 := by
            obtain ⟨_, s2⟩ := split_aux e a.parts ((nf_parts a).mp na.nf).1
            rcases s2 with s2 | ⟨k, s2⟩
            · have : sameN a e = 0 := by unfold sameN; rw [s2]; rfl
              rw [this]; exact Nat.pow_pos (by decide)
            · have : sameN a e = k := by unfold sameN; rw [s2]; simp
              rw [this]
              have hm : (e, k) ∈ a.parts := (List.mem_filter.mp (by rw [s2]; simp : (e, k) ∈ a.parts.filter fun p => decide (p.1 = e))).1
              exact na.cs _ hm
          rw [h]
          show (sameN a e + n).natAbs < _
          replace h1 : n.natAbs < 2 ^ C2 := h1
          omega
        · have := inb p (List.mem_cons_of_mem _ h); omega
end Nm
set_option Elab.async false
set_option linter.all false
set_option maxRecDepth 100000
set_option maxHeartbeats 4000000
namespace Nm
open PySem Pu O L2
/-! ### ladders -/
def isLim : O → Bool
  | .z => false
  | .c e _ r => if r = .z then !decide (e = .z) else isLim r
def tailP (e : O) (m : Int) (x : O) : O := if m = 1 then x else .c e (m - 1) x
def predO : O → O
  | .z => .z
  | .c e m r => if r = .z then tailP e m .z else .c e m (predO r)
def rung : O → Int → O
  | .z, _ => .z
  | .c e m r, n => if r = .z then (if e = .z then tailP e m .z else if isLim e = true then tailP e m (.c (rung e n) 1 .z) else tailP e m (if n = 0 then .z else .c (predO e) n .z)) else .c e m (rung r n)
/-- what stands below a number, its heads below what is above its heads -/
structure Below (x a : O) : Prop where
  nf : NF x
  lt : cmp x a = -1
  hd : ∀ g, (∀ q ∈ a.parts, cmp g q.1 = 1) → ∀ p ∈ x.parts, cmp g p.1 = 1
theorem tail_below {e x : O} {m : Int} (h : NF (.c e m .z)) (nx : NF x) (hx : ∀ p ∈ x.parts, cmp e p.1 = 1) : Below (tailP e m x) (.c e m .z) := by
  have t := nf_tail h
  have up : ∀ g, cmp g e = 1 → ∀ p ∈ x.parts, cmp g p.1 = 1 := fun g hg p hp => gt_trans hg (hx p hp)
  have xlt : cmp x (.c e m .z) = -1 := by
    cases x with
    | z => exact cmp_zc
    | c f k s => exact cmp_lt_head (cmp_gt.mp (hx (f, k) (by show _ ∈ (f, k) :: s.parts; simp)))
  unfold tailP
  by_cases c : m = 1
  · rw [if_pos c]
    exact ⟨nx, xlt, fun g hg p hp => up g (hg (e, m) (by show _ ∈ (e, m) :: []; simp)) p hp⟩
  · rw [if_neg c]
    refine ⟨nf_mk t.2.1 (by omega) nx hx, cmp_c.mpr (Or.inr ⟨rfl, Or.inl (by omega)⟩), fun g hg p hp => ?_⟩
    have ge := hg (e, m) (by show _ ∈ (e, m) :: []; simp)
    rcases List.mem_cons.mp (show p ∈ (e, m - 1) :: x.parts from hp) with h | h
    · rw [h]; exact ge
    · exact up g ge p h
theorem cons_below {e r x : O} {m : Int} (h : NF (.c e m r)) (b : Below x r) : Below (.c e m x) (.c e m r) := by
  have t := nf_tail h
  refine ⟨nf_mk t.2.1 t.2.2.1 b.nf (b.hd e t.2.2.2), cmp_c.mpr (Or.inr ⟨rfl, Or.inr ⟨rfl, b.lt⟩⟩), fun g hg p hp => ?_⟩
  rcases List.mem_cons.mp (show p ∈ (e, m) :: x.parts from hp) with h | h
  · rw [h]; exact hg (e, m) (by show _ ∈ (e, m) :: r.parts; simp)
  · exact b.hd g (fun q hq => hg q (by show q ∈ (e, m) :: r.parts; simp [hq])) p h
theorem pred_below : ∀ a : O, NF a → a ≠ .z → Below (predO a) a
  | .z, _, h => absurd rfl h
  | .c e m r, h, _ => by
    unfold predO
    by_cases c : r = .z
    · rw [if_pos c]; subst c
      exact tail_below h trivial (fun p hp => by cases hp)
    · rw [if_neg c]
      exact cons_below h (pred_below r (nf_tail h).1 c)
theorem rung_below : ∀ (a : O) (n : Int), NF a → a ≠ .z → 0 ≤ n → Below (rung a n) a
  | .z, _, _, h, _ => absurd rfl h
  | .c e m r, n, h, _, hn => by
    have t := nf_tail h
    unfold rung
    by_cases c : r = .z
    · rw [if_pos c]; subst c
      by_cases ez : e = .z
      · rw [if_pos ez]
        exact tail_below h trivial (fun p hp => by cases hp)
      · rw [if_neg ez]
        by_cases l : isLim e = true
        · rw [if_pos l]
          have b := rung_below e n t.2.1 ez hn
          refine tail_below h (nf_mk b.nf (by decide) trivial (fun q hq => by cases hq)) fun p hp => ?_
          rcases List.mem_cons.mp (show p ∈ (rung e n, 1) :: [] from hp) with h | h
          · rw [h]; exact cmp_gt.mpr b.lt
          · cases h
        · rw [if_neg l]
          have b := pred_below e t.2.1 ez
          by_cases n0 : n = 0
          · rw [if_pos n0]
            exact tail_below h trivial (fun p hp => by cases hp)
          · rw [if_neg n0]
            refine tail_below h (nf_mk b.nf (by omega) trivial (fun q hq => by cases hq)) fun p hp => ?_
            rcases List.mem_cons.mp (show p ∈ (predO e, n) :: [] from hp) with h | h
            · rw [h]; exact cmp_gt.mpr b.lt
            · cases h
    · rw [if_neg c]
      exact cons_below h (rung_below r n t.1 c hn)
theorem tail_lt {e x y : O} {m : Int} (h : cmp x y = -1) : cmp (tailP e m x) (tailP e m y) = -1 := by
  unfold tailP
  by_cases c : m = 1
  · rw [if_pos c, if_pos c]; exact h
  · rw [if_neg c, if_neg c]; exact cmp_c.mpr (Or.inr ⟨rfl, Or.inr ⟨rfl, h⟩⟩)
theorem rung_rise : ∀ (a : O) (n k : Int), isLim a = true → 0 ≤ n → n < k → cmp (rung a n) (rung a k) = -1
  | .z, _, _, h, _, _ => by cases h
  | .c e m r, n, k, h, hn, hk => by
    unfold isLim at h
    unfold rung
    by_cases c : r = .z
    · rw [if_pos c] at h
      rw [if_pos c, if_pos c]
      have ez : e ≠ .z := fun z => by rw [z] at h; simp at h
      rw [if_neg ez, if_neg ez]
      by_cases l : isLim e = true
      · rw [if_pos l, if_pos l]
        exact tail_lt (cmp_lt_head (rung_rise e n k l hn hk))
      · rw [if_neg l, if_neg l]
        refine tail_lt ?_
        rw [if_neg (show ¬ k = 0 by omega)]
        by_cases n0 : n = 0
        · rw [if_pos n0]; exact cmp_zc
        · rw [if_neg n0]; exact cmp_c.mpr (Or.inr ⟨rfl, Or.inl hk⟩)
    · rw [if_neg c] at h
      rw [if_neg c, if_neg c]
      exact cmp_c.mpr (Or.inr ⟨rfl, Or.inr ⟨rfl, rung_rise r n k h hn hk⟩⟩)
/-- of no limit: both rungs are the number less one -/
theorem rung_succ : ∀ (a : O) (n : Int), a ≠ .z → isLim a = false → rung a n = predO a
  | .z, _, h, _ => absurd rfl h
  | .c e m r, n, _, h => by
    unfold isLim at h
    unfold rung predO
    by_cases c : r = .z
    · rw [if_pos c] at h
      rw [if_pos c, if_pos c]
      have ez : e = .z := by
        by_cases q : e = .z
        · exact q
        · simp [q] at h
      rw [if_pos ez]
    · rw [if_neg c] at h
      rw [if_neg c, if_neg c, rung_succ r n c h]
theorem pred_plus : ∀ a : O, NF a → a ≠ .z → isLim a = false → plusO (predO a) (.c .z 1 .z) = a
  | .z, _, h, _ => absurd rfl h
  | .c e m r, ha, _, h => by
    have t := nf_tail ha
    unfold isLim at h
    unfold predO
    by_cases c : r = .z
    · rw [if_pos c] at h
      rw [if_pos c]
      have ez : e = .z := by
        by_cases q : e = .z
        · exact q
        · simp [q] at h
      subst ez; subst c
      unfold tailP
      by_cases m1 : m = 1
      · rw [if_pos m1, plus_z, m1]
      · have m2 := t.2.2.1
        have hn : NF (.c .z (m - 1) .z) := nf_mk trivial (by omega) trivial (fun q hq => by cases hq)
        rw [if_neg m1, plus_eq hn, show m - 1 + 1 = m by omega]
    · rw [if_neg c] at h
      rw [if_neg c]
      have ez : e ≠ .z := by
        cases r with
        | z => exact absurd rfl c
        | c f k s => exact not_z (cmp_gt.mp (t.2.2.2 (f, k) (by show _ ∈ (f, k) :: s.parts; simp)))
      rw [plus_gt (cmp_gt.mpr (z_lt ez)), pred_plus r t.1 c h]
end Nm
set_option Elab.async false
set_option linter.all false
set_option maxRecDepth 100000
namespace Pu
open PySem
-- k04 k27 k28 k29 k30 k31 k32 k33 k34 k35 k36 k37 k71 k72 k73 k75 k76 k81 k82 k84 slots 1 params 1
def G_whole_part (S : Nat → List PyData → R PyData) : Vars → Out :=
  (sSeq (sIf (tOrR (tOf (eOp gEq (eVar 0) (eTup aNil))) (tOf (eOp gNe (eOp gIx (eOp gIx (eVar 0) (eNeg (eC (.int 1)))) (eC (.int 0))) (eTup aNil)))) (sRet (eC (.int 0))) sNil)
    (sRet (eOp gIx (eOp gIx (eVar 0) (eNeg (eC (.int 1)))) (eC (.int 1)))))
-- k04 k31 k32 k33 k34 k35 k36 k37 k75 k76 k82 k84 slots 1 params 1
def G_is_limit (c0 : Nat) (S : Nat → List PyData → R PyData) : Vars → Out :=
  (sRet (eAnd (eOp gNe (eVar 0) (eTup aNil)) (eOp gEq (eFn (S c0) (aCons (eVar 0) aNil)) (eC (.int 0)))))
-- k30 slots 3 params 1
def G_l_limit_by (c0 c1 : Nat) (S : Nat → List PyData → R PyData) : Vars → Out :=
  (sSeq (sSet [] 1 (eCall gTuple (aCons (eLc (iSeq (eFn (S c0) (aCons (eVar 0) (aCons (eOp gMod (eFn (S c1) (aCons (eVar 0) (aCons (eC (.int 9)) aNil))) (eC (.int 4))) aNil)))) (gtName 2) (tOf (eOp gNe (eOp gIx (eVar 2) (eC (.int 0))) (eTup aNil))) (eVar 2) [2]) aNil)))
    (sSeq (sIf (tOf (eOp gNe (eVar 1) (eTup aNil))) (sRet (eVar 1)) sNil)
    (sRet (eTup (aCons (eTup (aCons (eTup (aCons (eTup (aCons (eTup aNil) (aCons (eOp gAdd (eC (.int 1)) (eOp gMod (eVar 0) (eOp gPow (eC (.int 10)) (eC (.int 20))))) aNil))) aNil)) (aCons (eC (.int 1)) aNil))) aNil)))))
-- k31 k32 k33 k34 k35 k36 k37 k54 k55 k56 k57 k58 k75 k76 k82 k84 slots 3 params 1
def G_once_less (S : Nat → List PyData → R PyData) : Vars → Out :=
  (sSeq (sAsg [] (gtTup 2 (gtCons (gtName 1) (gtCons (gtName 2) gtNil))) (eOp gIx (eVar 0) (eNeg (eC (.int 1)))))
    (sSeq (sIf (tOf (eOp gEq (eVar 2) (eC (.int 1)))) (sRet (eSl (eVar 0) oNone (oSome (eNeg (eC (.int 1)))))) sNil)
    (sRet (eOp gAdd (eSl (eVar 0) oNone (oSome (eNeg (eC (.int 1))))) (eTup (aCons (eTup (aCons (eVar 1) (aCons (eOp gSub (eVar 2) (eC (.int 1))) aNil))) aNil))))))
-- k31 k32 k33 k34 k35 k36 k37 k75 k76 k82 k84 slots 4 params 2
def G_climbed (c0 c1 c2 c3 : Nat) (S : Nat → List PyData → R PyData) : Vars → Out :=
  (sSeq (sSet [] 2 (eFn (S c0) (aCons (eVar 0) aNil)))
    (sSeq (sSet [] 3 (eOp gIx (eOp gIx (eVar 0) (eNeg (eC (.int 1)))) (eC (.int 0))))
    (sSeq (sIf (tOf (eOp gEq (eVar 3) (eTup aNil))) (sRet (eVar 2)) sNil)
    (sSeq (sIf (tTru (eFn (S c1) (aCons (eVar 3) aNil))) (sRet (eOp gAdd (eVar 2) (eFn (fun ds => S c3 (ds ++ [.int 1])) (aCons (eFn (S c2) (aCons (eVar 3) (aCons (eVar 1) aNil))) aNil)))) sNil)
    (sRet (eOp gAdd (eVar 2) (eFn (S c3) (aCons (eFn (S c0) (aCons (eVar 3) aNil)) (aCons (eVar 1) aNil)))))))))
-- k31 k32 k33 k34 k35 k36 k37 k75 k76 k82 k84 slots 2 params 2
def G_ladder (c0 c1 : Nat) (S : Nat → List PyData → R PyData) : Vars → Out :=
  (sSeq (sIf (tOf (eOp gEq (eVar 0) (eTup aNil))) (sRaise "Nought") sNil)
    (sSeq (sIf (tNotR (tTru (eFn (S c0) (aCons (eVar 1) aNil)))) (sRaise "NoNumber") sNil)
    (sRet (eFn (S c1) (aCons (eVar 0) (aCons (eVar 1) aNil))))))
end Pu
set_option Elab.async false
set_option linter.all false
set_option maxRecDepth 100000
set_option maxHeartbeats 4000000
namespace Nm
open PySem Pu O L2
/-! ### ladders: what the program does -/
/-- the last part -/
def lastP : O → O × Int
  | .z => (.z, 0)
  | .c e m r => if r = .z then (e, m) else lastP r
theorem last_get : ∀ {a : O}, a ≠ .z → a.parts.getLast? = some (lastP a)
  | .z, h => absurd rfl h
  | .c e m r, _ => by
    show ((e, m) :: r.parts).getLast? = some (if r = .z then (e, m) else lastP r)
    by_cases c : r = .z
    · rw [if_pos c]; subst c; rfl
    · rw [if_neg c]
      have hne : r.parts ≠ [] := fun z => c (parts_inj (b := .z) z)
      rw [List.getLast?_cons_of_ne_nil hne]
      exact last_get c
theorem isLim_last : ∀ {a : O}, a ≠ .z → isLim a = !decide ((lastP a).1 = .z)
  | .z, h => absurd rfl h
  | .c e m r, _ => by
    unfold isLim lastP
    by_cases c : r = .z
    · rw [if_pos c, if_pos c]
    · rw [if_neg c, if_neg c]; exact isLim_last c
/-- all but the last part -/
def initO (a : O) : O := of (a.parts.take (a.len - 1))
theorem tail_form : ∀ {a x : O}, a ≠ .z → a.parts.take (a.len - 1) ++ (tailP (lastP a).1 (lastP a).2 x).parts = (if (lastP a).2 = 1 then a.parts.take (a.len - 1) ++ x.parts else a.parts.take (a.len - 1) ++ ((lastP a).1, (lastP a).2 - 1) :: x.parts) := by
  intro a x _
  unfold tailP
  by_cases c : (lastP a).2 = 1
  · rw [if_pos c, if_pos c]
  · rw [if_neg c, if_neg c]; rfl
theorem predO_parts : ∀ {a : O}, a ≠ .z → (predO a).parts = a.parts.take (a.len - 1) ++ (tailP (lastP a).1 (lastP a).2 .z).parts
  | .z, h => absurd rfl h
  | .c e m r, _ => by
    unfold predO lastP
    by_cases c : r = .z
    · rw [if_pos c, if_pos c]
      subst c
      rfl
    · rw [if_neg c, if_neg c]
      have ih := predO_parts c
      have hl : (O.c e m r).len - 1 = (r.len - 1) + 1 := by
        have : 0 < r.len := by
          cases r with
          | z => exact absurd rfl c
          | c f k s => show 0 < s.len + 1; omega
        show r.len + 1 - 1 = _; omega
      rw [hl]
      show (e, m) :: (predO r).parts = (e, m) :: r.parts.take (r.len - 1) ++ _
      rw [ih]; rfl
def PredOk (F : Fn) : Prop := ∀ a : O, a ≠ .z → a.h ≤ 30 → a.len ≤ 1000 → F [enc a] = .ok (enc (predO a))
theorem once_less_step (S : Nat → Fn) : PredOk (fun ds => fnD 3 (G_once_less S) ds) := by
  intro a az ah al
  refine fnD_of ?_
  obtain ⟨p, p1, p2, p3⟩ := part_last az
  rw [last_get az] at p3
  cases p3
  have ci : Pu.cutD (encL a) none (some (-1)) = (a.parts.take (a.len - 1)).map encP := by rw [cut_init, encL_take, encL_len, encL_of]
  have s1 : (a.parts.take (a.len - 1)).length + 1 ≤ sizeLine := sz1000 (by have := List.length_take_le (a.len - 1) a.parts; omega)
  have ep : enc (predO a) = .tuple ((a.parts.take (a.len - 1)).map encP ++ (tailP (lastP a).1 (lastP a).2 .z).parts.map encP) := by
    show PyData.tuple (encL _) = _
    rw [encL_parts, predO_parts az, List.map_append]
  rw [ep]
  unfold G_once_less
  by_cases c : (lastP a).2 = 1
  · have : tailP (lastP a).1 (lastP a).2 .z = .z := if_pos c
    rw [this]
    simp [p2, c, ci, O.parts]
  · have : tailP (lastP a).1 (lastP a).2 .z = .c (lastP a).1 ((lastP a).2 - 1) .z := if_neg c
    rw [this]
    rw [List.length_take] at s1
    simp [p2, c, ci, s1, O.parts]
end Nm
namespace Nm
open PySem Pu O L2
def LimOk (F : Fn) : Prop := ∀ a : O, NF a → a.h ≤ 30 → F [enc a] = .ok (.bool (isLim a))
theorem lastP_pos : ∀ {a : O}, NF a → a ≠ .z → 1 ≤ (lastP a).2 := fun {a} na az => by
  have h := last_get az
  have hm := List.mem_of_getLast? h
  exact (((nf_parts a).mp na).2 _ hm).2
theorem is_limit_step {S : Nat → Fn} {S2 : Nat → Fn} {c0 : Nat} (hw : ∀ a, S c0 [enc a] = fnD 1 (G_whole_part S2) [enc a]) : LimOk (fun ds => fnD 1 (G_is_limit c0 S) ds) := by
  intro a na ah
  refine fnD_of ?_
  have g1 := gNe_nil (a := a) (by omega)
  have g2 := gEq_nil (a := a) (by omega)
  by_cases az : a = .z
  · rw [decide_eq_true az] at g1
    have : isLim a = false := by rw [az]; rfl
    rw [this]
    unfold G_is_limit
    simp [g1]
  · rw [decide_eq_false az] at g1 g2
    obtain ⟨p, p1, p2, p3⟩ := part_last az
    rw [last_get az] at p3
    cases p3
    have ph := part_mem_h p1
    have g3 := gNe_nil (a := (lastP a).1) (by omega)
    have pos := lastP_pos na az
    have e1 : fnD 1 (G_whole_part S2) [enc a] = .ok (.int (if (lastP a).1 = .z then (lastP a).2 else 0)) := by
      refine fnD_of ?_
      unfold G_whole_part
      by_cases c : (lastP a).1 = .z
      · rw [decide_eq_true c] at g3
        rw [if_pos c]
        simp [g2, p2, g3]
      · rw [decide_eq_false c] at g3
        rw [if_neg c]
        simp [g2, p2, g3]
    have e2 := hw a
    rw [e1] at e2
    have e3 := isLim_last az
    rw [e3]
    unfold G_is_limit
    by_cases c : (lastP a).1 = .z
    · have n0 : ¬ (lastP a).2 = 0 := by omega
      rw [if_pos c] at e2
      simp [g1, e2, c, n0]
    · rw [if_neg c] at e2
      simp [g1, e2, c]
/-- a rung by the last part -/
def rungX (e : O) (n : Int) : O := if e = .z then .z else if isLim e = true then .c (rung e n) 1 .z else if n = 0 then .z else .c (predO e) n .z
theorem rung_parts : ∀ {a : O} (n : Int), a ≠ .z → (rung a n).parts = (predO a).parts ++ (rungX (lastP a).1 n).parts
  | .z, _, h => absurd rfl h
  | .c e m r, n, _ => by
    rw [rung, predO, lastP]
    by_cases c : r = .z
    · rw [if_pos c, if_pos c, if_pos c]
      unfold rungX tailP
      by_cases ez : e = .z
      · rw [if_pos ez, if_pos ez]; simp [O.parts]
      · rw [if_neg ez, if_neg ez]
        by_cases l : isLim e = true
        · rw [if_pos l, if_pos l]
          by_cases m1 : m = 1
          · rw [if_pos m1, if_pos m1]; rfl
          · rw [if_neg m1, if_neg m1]; rfl
        · rw [if_neg l, if_neg l]
          by_cases m1 : m = 1
          · rw [if_pos m1, if_pos m1]; rfl
          · rw [if_neg m1, if_neg m1]; rfl
    · rw [if_neg c, if_neg c, if_neg c]
      have ih := rung_parts n c
      show (e, m) :: (rung r n).parts = (e, m) :: (predO r).parts ++ _
      rw [ih]; rfl
end Nm
set_option Elab.async false
set_option linter.all false
set_option maxRecDepth 100000
set_option maxHeartbeats 4000000
namespace Nm
open PySem Pu O L2
theorem pred_h : ∀ (a : O) (k : Nat), a.h ≤ k → (predO a).h ≤ k
  | .z, k, _ => Nat.zero_le _
  | .c e m r, k, h => by
    have h1 : (O.c e m r).h = max (e.h + 1) r.h := rfl
    rw [predO]
    by_cases c : r = .z
    · rw [if_pos c]; unfold tailP; split
      · exact Nat.zero_le _
      · show max (e.h + 1) 0 ≤ k; omega
    · rw [if_neg c]
      have := pred_h r k (by omega)
      show max (e.h + 1) (predO r).h ≤ k; omega
theorem rung_h : ∀ (a : O) (n : Int) (k : Nat), a.h ≤ k → (rung a n).h ≤ k
  | .z, _, k, _ => Nat.zero_le _
  | .c e m r, n, k, h => by
    have h1 : (O.c e m r).h = max (e.h + 1) r.h := rfl
    have i1 := rung_h e n (k - 1) (by omega)
    have i3 := pred_h e (k - 1) (by omega)
    rw [rung]
    have tl : ∀ x : O, x.h ≤ k → (tailP e m x).h ≤ k := fun x hx => by
      unfold tailP; split
      · exact hx
      · show max (e.h + 1) x.h ≤ k; omega
    by_cases c : r = .z
    · rw [if_pos c]
      by_cases ez : e = .z
      · rw [if_pos ez]; exact tl _ (Nat.zero_le _)
      · rw [if_neg ez]
        split
        · exact tl _ (by show max ((rung e n).h + 1) 0 ≤ k; omega)
        · refine tl _ ?_
          split
          · exact Nat.zero_le _
          · show max ((predO e).h + 1) 0 ≤ k; omega
    · rw [if_neg c]
      have := rung_h r n k (by omega)
      show max (e.h + 1) (rung r n).h ≤ k; omega
theorem pred_size : ∀ a : O, (predO a).size ≤ a.size
  | .z => Nat.le_refl _
  | .c e m r => by
    have i := pred_size r
    rw [predO]
    by_cases c : r = .z
    · rw [if_pos c]; unfold tailP; split
      · exact Nat.zero_le _
      · show 1 + e.size + 0 ≤ 1 + e.size + r.size; omega
    · rw [if_neg c]; show 1 + e.size + (predO r).size ≤ 1 + e.size + r.size; omega
theorem rung_size : ∀ (a : O) (n : Int), (rung a n).size ≤ (a.h + 1) * (a.size + 1)
  | .z, _ => Nat.zero_le _
  | .c e m r, n => by
    have i1 := rung_size e n
    have i2 := rung_size r n
    have i3 := pred_size e
    have h1 : (O.c e m r).size = 1 + e.size + r.size := rfl
    have hh : (O.c e m r).h = max (e.h + 1) r.h := rfl
    generalize (O.c e m r).h = H at hh ⊢
    rw [h1]
    have q1 : (e.h + 1) * (e.size + 1) ≤ H * (e.size + 1) := Nat.mul_le_mul_right _ (by omega)
    have q2 : (r.h + 1) * (r.size + 1) ≤ (H + 1) * (r.size + 1) := Nat.mul_le_mul_right _ (by omega)
    have e1 : (H + 1) * (1 + e.size + r.size + 1) = H * (e.size + 1) + H * (r.size + 1) + (1 + e.size + r.size + 1) := by
      rw [Nat.add_mul, Nat.one_mul, ← Nat.mul_add]; congr 2; omega
    have e2 : (H + 1) * (r.size + 1) = H * (r.size + 1) + (r.size + 1) := by rw [Nat.add_mul, Nat.one_mul]
    have e3 : 1 ≤ H := by omega
    have e4 : 1 * (e.size + 1) ≤ H * (e.size + 1) := Nat.mul_le_mul_right _ e3
    have e5 : 1 * (r.size + 1) ≤ H * (r.size + 1) := Nat.mul_le_mul_right _ e3
    rw [e1]
    rw [e2] at q2
    rw [rung]
    have tl : ∀ x : O, (tailP e m x).size ≤ 1 + e.size + x.size := fun x => by
      unfold tailP; split
      · omega
      · exact Nat.le_refl _
    by_cases c : r = .z
    · rw [if_pos c]
      by_cases ez : e = .z
      · rw [if_pos ez]; have := tl .z; have z0 : (O.z).size = 0 := rfl; omega
      · rw [if_neg ez]
        split
        · have := tl (.c (rung e n) 1 .z)
          have z1 : (O.c (rung e n) 1 .z).size = 1 + (rung e n).size + 0 := rfl
          omega
        · split
          · have := tl .z; have z0 : (O.z).size = 0 := rfl; omega
          · have := tl (.c (predO e) n .z)
            have z1 : (O.c (predO e) n .z).size = 1 + (predO e).size + 0 := rfl
            omega
    · rw [if_neg c]
      show 1 + e.size + (rung r n).size ≤ _
      omega
end Nm
set_option Elab.async false
set_option linter.all false
set_option maxRecDepth 100000
set_option maxHeartbeats 4000000
namespace Nm
open PySem Pu O L2
/-! ### whole, raised -/
structure WhoOk (F : Fn) : Prop where
  int : ∀ i : Int, F [.int i] = .ok (.bool (decide (0 ≤ i)))
  no : ∀ d : PyData, isiB "int" d = false ∨ isiB "bool" d = true → F [d] = .ok (.bool false)
theorem is_whole_step (S : Nat → Fn) : WhoOk (fun ds => fnD 1 (G_is_whole S) ds) where
  int := fun i => by
    refine fnD_of ?_
    unfold G_is_whole
    simp [isiB]
  no := fun d h => by
    refine fnD_of ?_
    unfold G_is_whole
    rcases h with h | h
    · simp [h]
    · cases d <;> simp [isiB] at h
      simp [isiB]
theorem WhoOk.yes {F : Fn} (h : WhoOk F) {i : Int} (hi : 0 ≤ i) : F [.int i] = .ok (.bool true) := by rw [h.int, decide_eq_true hi]
def rzO (e : O) (n : Int) : O := if n = 0 then .z else .c e n .z
theorem rz_nf {e : O} {n : Int} (he : NF e) (hn : 0 ≤ n) : NF (rzO e n) := by
  unfold rzO
  by_cases c : n = 0
  · rw [if_pos c]; trivial
  · rw [if_neg c]; exact nf_mk he (by omega) trivial (fun q hq => by cases hq)
structure RaiOk (F : Fn) : Prop where
  yes : ∀ (e : O) (n : Int), 0 ≤ n → F [enc e, .int n] = .ok (enc (rzO e n))
  no : ∀ (e : O) (d : PyData), isiB "int" d = false ∨ isiB "bool" d = true → F [enc e, d] = .err "NoNumber"
  neg : ∀ (e : O) (i : Int), i < 0 → F [enc e, .int i] = .err "NoNumber"
theorem raised_step {S : Nat → Fn} {c0 : Nat} (h : WhoOk (S c0)) : RaiOk (fun ds => fnD 2 (G_raised c0 S) ds) where
  yes := fun e n hn => by
    refine fnD_of ?_
    have e1 := h.yes hn
    unfold G_raised rzO
    by_cases c : n = 0
    · rw [if_pos c]; subst c
      simp [e1]
    · rw [if_neg c]; simp [e1, c]
  no := fun e d hd => by
    refine fnD_err (ρ := [some (enc e), some d]) ?_
    have e1 := h.no d hd
    unfold G_raised
    simp [e1]
  neg := fun e i hi => by
    refine fnD_err (ρ := [some (enc e), some (.int i)]) ?_
    have e1 := h.int i
    rw [decide_eq_false (by omega)] at e1
    unfold G_raised
    simp [e1]
theorem RaiOk.one {F : Fn} (h : RaiOk F) (e : O) : F [enc e, .int 1] = .ok (enc (.c e 1 .z)) := by
  have := h.yes e 1 (by decide)
  unfold rzO at this
  rw [if_neg (by decide)] at this
  exact this
theorem whole_step {S : Nat → Fn} {c0 : Nat} (h : RaiOk (S c0)) {n : Int} (hn : 0 ≤ n) : fnD 1 (G_whole c0 S) [.int n] = .ok (enc (rzO .z n)) := by
  refine fnD_of ?_
  have e1 : S c0 [.tuple [], .int n] = _ := h.yes .z n hn
  unfold G_whole
  simp [e1]
/-! ### climbed -/
theorem lastP_mem {a : O} (h : a ≠ .z) : lastP a ∈ a.parts := List.mem_of_getLast? (last_get h)
theorem last_at {a : O} (h : a ≠ .z) : atI (encL a) (-1) = some (encP (lastP a)) := by
  obtain ⟨p, p1, p2, p3⟩ := part_last h
  rw [last_get h] at p3
  cases p3
  exact p2
def ClimbOk (k : Nat) (F : Fn) : Prop := ∀ (a : O) (n : Int), NF a → a ≠ .z → a.h ≤ k → a.h ≤ 29 → a.size ≤ 1000 → 0 ≤ n → F [enc a, .int n] = .ok (enc (rung a n))
theorem pred_len (a : O) : (predO a).len ≤ a.len := by
  cases a with
  | z => exact Nat.le_refl _
  | c e m r =>
    have az : O.c e m r ≠ .z := fun z => O.noConfusion z
    rw [← len_parts, predO_parts az, List.length_append]
    have h1 : ((O.c e m r).parts.take ((O.c e m r).len - 1)).length ≤ (O.c e m r).len - 1 := List.length_take_le _ _
    have h2 : (tailP (lastP (O.c e m r)).1 (lastP (O.c e m r)).2 .z).parts.length ≤ 1 := by
      unfold tailP
      split
      · exact Nat.zero_le _
      · show 0 + 1 ≤ 1; decide
    have h3 : 0 < (O.c e m r).len := by show 0 < r.len + 1; omega
    omega
theorem climbed_step {S : Nat → Fn} {c0 c1 c2 c3 k : Nat} (h0 : PredOk (S c0)) (h1 : LimOk (S c1)) (h2 : ClimbOk k (S c2)) (h3 : RaiOk (S c3)) : ClimbOk (k + 1) (fun ds => fnD 4 (G_climbed c0 c1 c2 c3 S) ds) := by
  intro a n na az ah ah2 as n0
  refine fnD_of ?_
  have la := len_le_size a
  have e1 := h0 a az (by omega) (by omega)
  have p1 := lastP_mem az
  have p2 := last_at az
  have ph := part_mem_h p1
  have ps := size_part p1
  have le := len_le_size (lastP a).1
  have np := (((nf_parts a).mp na).2 _ p1).1
  have g1 := gEq_nil (a := (lastP a).1) (by omega)
  have pl := pred_len a
  have s1 : (predO a).len + 1 ≤ sizeLine := sz1000 (by omega)
  have s0 : (predO a).len ≤ sizeLine := sz1000 (by omega)
  have ep : enc (rung a n) = .tuple (encL (predO a) ++ encL (rungX (lastP a).1 n)) := by
    show PyData.tuple (encL _) = _
    rw [encL_parts, rung_parts n az, List.map_append, ← encL_parts, ← encL_parts]
  rw [ep]
  by_cases ez : (lastP a).1 = .z
  · rw [decide_eq_true ez] at g1
    have ex : rungX (lastP a).1 n = .z := if_pos ez
    rw [ex]
    unfold G_climbed
    simp [e1, p2, g1]
  · rw [decide_eq_false ez] at g1
    have l1 := h1 (lastP a).1 np (by omega)
    by_cases l : isLim (lastP a).1 = true
    · have ex : rungX (lastP a).1 n = .c (rung (lastP a).1 n) 1 .z := by unfold rungX; rw [if_neg ez, if_pos l]
      rw [ex]
      have c1 := h2 (lastP a).1 n np ez (by omega) (by omega) (by omega) n0
      have r1 := h3.one (rung (lastP a).1 n)
      rw [show enc (O.c (rung (lastP a).1 n) 1 .z) = .tuple [.tuple [enc (rung (lastP a).1 n), .int 1]] from rfl] at r1
      rw [l] at l1
      unfold G_climbed
      simp [e1, p2, g1, l1, c1, r1, s1]
    · have ex : rungX (lastP a).1 n = rzO (predO (lastP a).1) n := by unfold rungX rzO; rw [if_neg ez, if_neg l]
      rw [ex]
      have c1 := h0 (lastP a).1 ez (by omega) (by omega)
      have r1 := h3.yes (predO (lastP a).1) n n0
      rw [Bool.not_eq_true] at l
      rw [l] at l1
      have s2 : (predO a).len + (rzO (predO (lastP a).1) n).len ≤ sizeLine := by
        refine sz1000 ?_
        unfold rzO
        split
        · show _ + 0 ≤ _; omega
        · show _ + (0 + 1) ≤ _; omega
      unfold G_climbed
      simp [e1, p2, g1, l1, c1, r1, s2]
structure LadOk (F : Fn) : Prop where
  yes : ∀ (a : O) (n : Int), NF a → a ≠ .z → a.h ≤ 28 → a.size ≤ 1000 → 0 ≤ n → F [enc a, .int n] = .ok (enc (rung a n))
  nought : ∀ d : PyData, F [.tuple [], d] = .err "Nought"
  no : ∀ (a : O) (d : PyData), a ≠ .z → a.h ≤ 28 → isiB "int" d = false ∨ isiB "bool" d = true → F [enc a, d] = .err "NoNumber"
  neg : ∀ (a : O) (i : Int), a ≠ .z → a.h ≤ 28 → i < 0 → F [enc a, .int i] = .err "NoNumber"
theorem ladder_step {S : Nat → Fn} {c0 c1 k : Nat} (hk : 28 ≤ k) (h0 : WhoOk (S c0)) (h1 : ClimbOk k (S c1)) : LadOk (fun ds => fnD 2 (G_ladder c0 c1 S) ds) where
  yes := fun a n na az ah as n0 => by
    refine fnD_of ?_
    have g1 := gEq_nil (a := a) (by omega)
    rw [decide_eq_false az] at g1
    have e1 := h0.yes n0
    have e2 := h1 a n na az (by omega) (by omega) as n0
    unfold G_ladder
    simp [g1, e1, e2]
  nought := fun d => by
    refine fnD_err (ρ := [some (.tuple []), some d]) ?_
    have g1 : gEq (.tuple []) (.tuple []) = some (.bool true) := gEq_nil (a := .z) (by decide)
    unfold G_ladder
    simp [g1]
  no := fun a d az ah hd => by
    refine fnD_err (ρ := [some (enc a), some d]) ?_
    have g1 := gEq_nil (a := a) (by omega)
    rw [decide_eq_false az] at g1
    have e1 := h0.no d hd
    unfold G_ladder
    simp [g1, e1]
  neg := fun a i az ah hi => by
    refine fnD_err (ρ := [some (enc a), some (.int i)]) ?_
    have g1 := gEq_nil (a := a) (by omega)
    rw [decide_eq_false az] at g1
    have e1 := h0.int i
    rw [decide_eq_false (by omega)] at e1
    unfold G_ladder
    simp [g1, e1]
end Nm
set_option Elab.async false
set_option linter.all false
set_option maxRecDepth 100000
namespace Pu
open PySem
-- k04 k27 k28 k29 k30 k71 k72 k73 k75 k76 k81 k84 slots 1 params 1
def G_without_whole (c0 : Nat) (S : Nat → List PyData → R PyData) : Vars → Out :=
  (sSeq (sIf (tOf (eOp gEq (eFn (S c0) (aCons (eVar 0) aNil)) (eC (.int 0)))) (sRet (eVar 0)) sNil)
    (sRet (eSl (eVar 0) oNone (oSome (eNeg (eC (.int 1)))))))
-- k21 k22 k23 k24 k25 k26 k27 k28 k29 k34 slots 5 params 2
def G_l_plus_2 (c0 : Nat) (S : Nat → List PyData → R PyData) : Vars → Out :=
  (sSeq (sIf (tOf (eOp gEq (eVar 1) (eTup aNil))) (sRet (eVar 0)) sNil)
    (sSeq (sSetLc [] 2 (nLc (iSeq (eVar 0)) (gtName 4) (tOf (eOp gEq (eFn (S c0) (aCons (eOp gIx (eVar 4) (eC (.int 0))) (aCons (eOp gIx (eOp gIx (eVar 1) (eC (.int 0))) (eC (.int 0))) aNil))) (eC (.int 1)))) (eVar 4) [4]))
    (sSeq (sSet [] 3 (eCall gSum (aCons (eLc (iSeq (eVar 0)) (gtName 4) (tOf (eOp gEq (eOp gIx (eVar 4) (eC (.int 0))) (eOp gIx (eOp gIx (eVar 1) (eC (.int 0))) (eC (.int 0))))) (eOp gIx (eVar 4) (eC (.int 1))) [4]) aNil)))
    (sRet (eOp gAdd (eOp gAdd (eCall gTuple (aCons (eVar 2) aNil)) (eTup (aCons (eTup (aCons (eOp gIx (eOp gIx (eVar 1) (eC (.int 0))) (eC (.int 0))) (aCons (eOp gAdd (eOp gIx (eOp gIx (eVar 1) (eC (.int 0))) (eC (.int 1))) (eVar 3)) aNil))) aNil))) (eSl (eVar 1) (oSome (eC (.int 1))) oNone))))))
-- k21 k23 k24 k26 k27 k29 slots 5 params 2
def G_l_product (c0 : Nat) (S : Nat → List PyData → R PyData) : Vars → Out :=
  (sSeq (sSet [] 2 (eTup aNil))
    (sSeq (sIf (tOf (eOp gEq (eVar 0) (eTup aNil))) (sRet (eVar 2)) sNil)
    (sSeq (sFor [] (iSeq (eVar 1)) (gtTup 2 (gtCons (gtName 3) (gtCons (gtName 4) gtNil))) (sIf (tOf (eOp gEq (eVar 3) (eTup aNil))) (sSet [] 2 (eOp gAdd (eOp gAdd (eVar 2) (eTup (aCons (eTup (aCons (eOp gIx (eOp gIx (eVar 0) (eC (.int 0))) (eC (.int 0))) (aCons (eOp gMul (eOp gIx (eOp gIx (eVar 0) (eC (.int 0))) (eC (.int 1))) (eVar 4)) aNil))) aNil))) (eSl (eVar 0) (oSome (eC (.int 1))) oNone))) (sSet [] 2 (eOp gAdd (eVar 2) (eTup (aCons (eTup (aCons (eFn (S c0) (aCons (eOp gIx (eOp gIx (eVar 0) (eC (.int 0))) (eC (.int 0))) (aCons (eVar 3) aNil))) (aCons (eVar 4) aNil))) aNil))))))
    (sRet (eVar 2)))))
-- k22 k23 k25 k28 k34 slots 3 params 2
def G_l_near (c0 : Nat) (S : Nat → List PyData → R PyData) : Vars → Out :=
  (sSeq (sSet [] 2 (eOp gMod (eVar 1) (eC (.int 5))))
    (sSeq (sIf (tOrR (tOf (eOp gEq (eVar 2) (eC (.int 0)))) (tOf (eOp gEq (eVar 0) (eTup aNil)))) (sRet (eFn (S c0) (aCons (eVar 0) (aCons (eTup (aCons (eTup (aCons (eTup aNil) (aCons (eOp gAdd (eC (.int 1)) (eOp gMod (eOp gDiv (eVar 1) (eC (.int 5))) (eOp gPow (eC (.int 10)) (eC (.int 20))))) aNil))) aNil)) aNil)))) sNil)
    (sSeq (sIf (tOf (eOp gEq (eVar 2) (eC (.int 1)))) (sRet (eSl (eVar 0) oNone (oSome (eNeg (eC (.int 1)))))) sNil)
    (sSeq (sIf (tOf (eOp gEq (eVar 2) (eC (.int 2)))) (sRet (eOp gAdd (eSl (eVar 0) oNone (oSome (eNeg (eC (.int 1))))) (eTup (aCons (eTup (aCons (eOp gIx (eOp gIx (eVar 0) (eNeg (eC (.int 1)))) (eC (.int 0))) (aCons (eOp gAdd (eOp gIx (eOp gIx (eVar 0) (eNeg (eC (.int 1)))) (eC (.int 1))) (eC (.int 1))) aNil))) aNil)))) sNil)
    (sSeq (sIf (tOf (eOp gEq (eVar 2) (eC (.int 3)))) (sRet (eOp gAdd (eTup (aCons (eTup (aCons (eOp gIx (eOp gIx (eVar 0) (eC (.int 0))) (eC (.int 0))) (aCons (eOp gAdd (eOp gIx (eOp gIx (eVar 0) (eC (.int 0))) (eC (.int 1))) (eC (.int 1))) aNil))) aNil)) (eSl (eVar 0) (oSome (eC (.int 1))) oNone))) sNil)
    (sRet (eSl (eVar 0) (oSome (eC (.int 1))) oNone)))))))
-- k27 k28 k29 k30 k71 k72 k73 k75 k76 k81 k84 slots 3 params 3
def G_of_part (c0 c1 c2 : Nat) (S : Nat → List PyData → R PyData) : Vars → Out :=
  (sSeq (sIf (tOf (eOp gEq (eFn (S c0) (aCons (eVar 2) aNil)) (eC (.int 0)))) (sSet [] 1 (eC (.int 1))) sNil)
    (sRet (eFn (S c1) (aCons (eFn (S c2) (aCons (eVar 0) (aCons (eVar 2) aNil))) (aCons (eVar 1) aNil)))))
-- k27 k28 k29 k30 k71 k72 k73 k75 k76 k81 k84 slots 3 params 2
def G_look (c0 : Nat) (S : Nat → List PyData → R PyData) : Vars → Out :=
  (sSeq (sIf (tOf (eOp gGt (eFn (S c0) (aCons (eVar 1) aNil)) (eC (.int 24)))) (sRaise "TooGreat") sNil)
    (sSeq (sIf (tOf (eOp gGt (eCall gLen (aCons (eVar 0) aNil)) (eC (.int 24)))) (sRaise "TooGreat") sNil)
    (sFor [] (iSeq (eVar 0)) (gtName 2) (sIf (tOf (eOp gGe (eOp gIx (eVar 2) (eC (.int 1))) (eOp gPow (eC (.int 10)) (eC (.int 60))))) (sRaise "TooGreat") sNil))))
-- k27 k28 k29 k30 k71 k72 k73 k75 k76 k81 k84 slots 6 params 2
def G_to_limit (c0 c1 c2 c3 : Nat) (S : Nat → List PyData → R PyData) : Vars → Out :=
  (sSeq (sIf (tOf (eOp gEq (eVar 1) (eTup aNil))) (sRet (eFn (S c0) (aCons (eC (.int 1)) aNil))) sNil)
    (sSeq (sSet [] 2 (eOp gIx (eOp gIx (eVar 0) (eC (.int 0))) (eC (.int 0))))
    (sSeq (sIf (tOf (eOp gNe (eVar 2) (eTup aNil))) (sRet (eFn (fun ds => S c3 (ds ++ [.int 1])) (aCons (eFn (S c1) (aCons (eVar 2) (aCons (eVar 1) aNil))) aNil))) sNil)
    (sSeq (sSet [] 3 (eFn (S c0) (aCons (eC (.int 1)) aNil)))
    (sRet (eFn (fun ds => S c3 (ds ++ [.int 1])) (aCons (eCall gTuple (aCons (eLc (iSeq (eVar 1)) (gtTup 2 (gtCons (gtName 4) (gtCons (gtName 5) gtNil))) tYesD (eTup (aCons (eFn (S c2) (aCons (eVar 4) (aCons (eVar 3) aNil))) (aCons (eVar 5) aNil))) [4, 5]) aNil)) aNil)))))))
-- k27 k28 k29 k30 k71 k72 k73 k75 k76 k81 k84 slots 4 params 2
def G_power (c0 c1 c2 c3 c4 c5 c6 : Nat) (S : Nat → List PyData → R PyData) : Vars → Out :=
  (sSeq (sIf (tOf (eOp gEq (eVar 1) (eTup aNil))) (sRet (eFn (S c0) (aCons (eC (.int 1)) aNil))) sNil)
    (sSeq (sIf (tOrR (tOf (eOp gEq (eVar 0) (eTup aNil))) (tOf (eOp gEq (eVar 0) (eFn (S c0) (aCons (eC (.int 1)) aNil))))) (sRet (eVar 0)) sNil)
    (sSeq (sIf (tAndR (tOf (eOp gEq (eCall gLen (aCons (eVar 0) aNil)) (eC (.int 1)))) (tOf (eOp gNe (eOp gIx (eOp gIx (eVar 0) (eC (.int 0))) (eC (.int 0))) (eTup aNil)))) (sRet (eFn (S c1) (aCons (eOp gIx (eOp gIx (eVar 0) (eC (.int 0))) (eC (.int 0))) (aCons (eOp gIx (eOp gIx (eVar 0) (eC (.int 0))) (eC (.int 1))) (aCons (eVar 1) aNil))))) sNil)
    (sSeq (sExpr (eFn (S c2) (aCons (eVar 0) (aCons (eVar 1) aNil))))
    (sSeq (sSet [] 2 (eFn (S c3) (aCons (eVar 0) (aCons (eFn (S c4) (aCons (eVar 1) aNil)) aNil))))
    (sSeq (sFor [] (iRange (aCons (eFn (S c5) (aCons (eVar 1) aNil)) aNil)) (gtName 3) (sSet [] 2 (eFn (S c6) (aCons (eVar 2) (aCons (eVar 0) aNil)))))
    (sRet (eVar 2))))))))
-- k27 k29 slots 1 params 1
def G_l_one_less (S : Nat → List PyData → R PyData) : Vars → Out :=
  (sSeq (sIf (tOf (eOp gNe (eOp gIx (eOp gIx (eVar 0) (eC (.int 0))) (eC (.int 0))) (eTup aNil))) (sRet (eVar 0)) sNil)
    (sSeq (sIf (tOf (eOp gEq (eOp gIx (eOp gIx (eVar 0) (eC (.int 0))) (eC (.int 1))) (eC (.int 1)))) (sRet (eTup aNil)) sNil)
    (sRet (eTup (aCons (eTup (aCons (eTup aNil) (aCons (eOp gSub (eOp gIx (eOp gIx (eVar 0) (eC (.int 0))) (eC (.int 1))) (eC (.int 1))) aNil))) aNil)))))
-- k27 k29 slots 8 params 2
def G_l_power (c0 c1 : Nat) (S : Nat → List PyData → R PyData) : Vars → Out :=
  (sSeq (sSet [] 2 (eTup (aCons (eTup (aCons (eTup aNil) (aCons (eC (.int 1)) aNil))) aNil)))
    (sSeq (sIf (tOrR (tOf (eOp gEq (eVar 1) (eTup aNil))) (tOrR (tOf (eOp gEq (eVar 0) (eTup aNil))) (tOf (eOp gEq (eVar 0) (eVar 2))))) (sRet (eOp gIx (eLst (aCons (eVar 0) (aCons (eVar 2) aNil))) (eCall gIntC (aCons (eOp gEq (eVar 1) (eTup aNil)) aNil)))) sNil)
    (sSeq (sSet [] 3 (eCall gSum (aCons (eLc (iSeq (eVar 1)) (gtName 7) (tOf (eOp gEq (eOp gIx (eVar 7) (eC (.int 0))) (eTup aNil))) (eOp gIx (eVar 7) (eC (.int 1))) [7]) aNil)))
    (sSeq (sSet [] 4 (eCall gTuple (aCons (eLc (iSeq (eVar 1)) (gtName 7) (tOf (eOp gNe (eOp gIx (eVar 7) (eC (.int 0))) (eTup aNil))) (eVar 7) [7]) aNil)))
    (sSeq (sIf (tAndR (tOf (eOp gEq (eCall gLen (aCons (eVar 0) aNil)) (eC (.int 1)))) (tOf (eOp gNe (eOp gIx (eOp gIx (eVar 0) (eC (.int 0))) (eC (.int 0))) (eTup aNil)))) (sRet (eTup (aCons (eTup (aCons (eFn (S c0) (aCons (eOp gIx (eOp gIx (eVar 0) (eC (.int 0))) (eC (.int 0))) (aCons (eVar 1) aNil))) (aCons (eOp gIx (eLst (aCons (eC (.int 1)) (aCons (eOp gIx (eOp gIx (eVar 0) (eC (.int 0))) (eC (.int 1))) aNil))) (eCall gIntC (aCons (eOp gGt (eVar 3) (eC (.int 0))) aNil))) aNil))) aNil))) sNil)
    (sSeq (sSet [] 5 (eVar 2))
    (sSeq (sFor [] (iRange (aCons (eVar 3) aNil)) (gtName 6) (sSet [] 5 (eFn (S c0) (aCons (eVar 5) (aCons (eVar 0) aNil)))))
    (sSeq (sIf (tAndR (tOf (eOp gNe (eVar 4) (eTup aNil))) (tOf (eOp gEq (eOp gIx (eOp gIx (eVar 0) (eC (.int 0))) (eC (.int 0))) (eTup aNil)))) (sSeq (sSet [] 4 (eCall gTuple (aCons (eLc (iSeq (eVar 4)) (gtName 7) tYesD (eTup (aCons (eFn (S c1) (aCons (eOp gIx (eVar 7) (eC (.int 0))) aNil)) (aCons (eOp gIx (eVar 7) (eC (.int 1))) aNil))) [7]) aNil))) (sRet (eFn (S c0) (aCons (eTup (aCons (eTup (aCons (eVar 4) (aCons (eC (.int 1)) aNil))) aNil)) (aCons (eVar 5) aNil))))) sNil)
    (sSeq (sIf (tOf (eOp gNe (eVar 4) (eTup aNil))) (sRet (eFn (S c0) (aCons (eTup (aCons (eTup (aCons (eFn (S c0) (aCons (eOp gIx (eOp gIx (eVar 0) (eC (.int 0))) (eC (.int 0))) (aCons (eVar 4) aNil))) (aCons (eC (.int 1)) aNil))) aNil)) (aCons (eVar 5) aNil)))) sNil)
    (sRet (eVar 5)))))))))))
-- k27 k28 slots 4 params 2
def G_l_capped (S : Nat → List PyData → R PyData) : Vars → Out :=
  (sSeq (sNew [2] 2 (nLc (iSeq (eVar 0)) (gtName 3) (tOf (eOp gNe (eOp gIx (eVar 3) (eC (.int 0))) (eTup aNil))) (eVar 3) [3]))
    (sSeq (sFor [2] (iSeq (eVar 0)) (gtName 3) (sIf (tAndR (tOf (eOp gEq (eOp gIx (eVar 3) (eC (.int 0))) (eTup aNil))) (tOf (eOp gGt (eOp gMod (eOp gIx (eVar 3) (eC (.int 1))) (eOp gAdd (eVar 1) (eC (.int 1)))) (eC (.int 0))))) (sAppM [2] 2 (eTup (aCons (eTup aNil) (aCons (eOp gMod (eOp gIx (eVar 3) (eC (.int 1))) (eOp gAdd (eVar 1) (eC (.int 1)))) aNil)))) sNil))
    (sRet (eCall gTuple (aCons (eVar 2) aNil)))))
end Pu
set_option Elab.async false
set_option linter.all false
set_option maxRecDepth 100000
set_option maxHeartbeats 4000000
namespace Nm
open PySem Pu O L2
/-! ### sizes of numbers -/
def hdE : O → O
  | .z => .z
  | .c e _ _ => e
structure Sz (H L K Z C M : Nat) (a : O) : Prop where
  nf : NF a
  h : a.h ≤ H
  ll : a.len ≤ L
  k : (hdE a).size ≤ K
  s : a.size ≤ Z
  cs : ∀ p ∈ a.parts, p.2.natAbs < 2 ^ C
  m : mx a < 2 ^ M
theorem Sz.up {H L K Z C M H' L' K' Z' C' M' : Nat} {a : O} (x : Sz H L K Z C M a) (h0 : H ≤ H') (h1 : L ≤ L') (h2 : K ≤ K') (h3 : Z ≤ Z') (h4 : C ≤ C') (h5 : M ≤ M') : Sz H' L' K' Z' C' M' a where
  nf := x.nf
  h := Nat.le_trans x.h h0
  ll := Nat.le_trans x.ll h1
  k := Nat.le_trans x.k h2
  s := Nat.le_trans x.s h3
  cs := fun p hp => Nat.lt_of_lt_of_le (x.cs p hp) (Nat.pow_le_pow_right (by decide) h4)
  m := Int.lt_of_lt_of_le x.m (by exact_mod_cast Nat.pow_le_pow_right (by decide) h5)
theorem Sz.bg {H L K Z C M : Nat} {a : O} (x : Sz H L K Z C M a) (hH : H ≤ 8) : Bg L Z C Z a where
  nf := x.nf
  h := Nat.le_trans x.h hH
  ll := x.ll
  el := fun p hp => by
    have h1 := size_part hp
    have h2 := len_le_size p.1
    have := x.s; omega
  cs := x.cs
  s := x.s
theorem hd_size (a : O) : (hdE a).size ≤ a.size := by
  cases a with
  | z => exact Nat.le_refl _
  | c e n r => show e.size ≤ 1 + e.size + r.size; omega
theorem hd_h (a : O) {k : Nat} (h : a.h ≤ k) : (hdE a).h ≤ k - 1 := by
  cases a with
  | z => exact Nat.zero_le _
  | c e n r =>
    have : (O.c e n r).h = max (e.h + 1) r.h := rfl
    show e.h ≤ k - 1; omega
theorem Sz.one : Sz 1 1 0 1 1 1 (.c .z 1 .z) where
  nf := nf_mk trivial (by decide) trivial (fun q hq => by cases hq)
  h := by show max (0 + 1) 0 ≤ 1; decide
  ll := by show 0 + 1 ≤ 1; decide
  k := by show 0 ≤ 0; decide
  s := by show 1 + 0 + 0 ≤ 1; decide
  cs := fun p hp => by
    rcases List.mem_cons.mp (show p ∈ (O.z, (1 : Int)) :: [] from hp) with h | h
    · rw [h]; decide
    · cases h
  m := by show max (1 : Int) (max 0 0) < 2 ^ 1; decide
/-! the product's -/
theorem prodO_size' {a b : O} (nb : NF b) : (prodO a b).size ≤ b.size + b.len * (hdE a).size + a.size := by
  cases a with
  | z => exact Nat.zero_le _
  | c e n r =>
    have key : ∀ b : O, NF b → (prodO (.c e n r) b).size ≤ b.size + b.len * e.size + (1 + e.size + r.size) := by
      intro b
      induction b with
      | z => intro _; rw [prod_bz]; exact Nat.zero_le _
      | c f m s _ ih =>
        intro nb
        have t := nf_tail nb
        have h1 : (O.c f m s).size = 1 + f.size + s.size := rfl
        have h2 : (O.c f m s).len = s.len + 1 := rfl
        by_cases fz : f = .z
        · subst fz
          rw [z_min nb, prod_zero]
          show 1 + e.size + r.size ≤ _
          omega
        · rw [prod_nz fz]
          have := ih t.1
          have := plus_size e f
          show 1 + (plusO e f).size + (prodO (.c e n r) s).size ≤ _
          rw [h1, h2, Nat.succ_mul]
          omega
    exact key b nb
theorem prodO_len' {a b : O} (nb : NF b) : (prodO a b).len ≤ b.len + a.len := by
  cases a with
  | z => exact Nat.zero_le _
  | c e n r =>
    have key : ∀ b : O, NF b → (prodO (.c e n r) b).len ≤ b.len + r.len := by
      intro b
      induction b with
      | z => intro _; rw [prod_bz]; exact Nat.zero_le _
      | c f m s _ ih =>
        intro nb
        have t := nf_tail nb
        have h2 : (O.c f m s).len = s.len + 1 := rfl
        by_cases fz : f = .z
        · subst fz
          rw [z_min nb, prod_zero]
          show r.len + 1 ≤ 0 + 1 + r.len
          omega
        · rw [prod_nz fz]
          have := ih t.1
          show (prodO (.c e n r) s).len + 1 ≤ _
          omega
    have := key b nb
    have h3 : (O.c e n r).len = r.len + 1 := rfl
    omega
theorem prodO_hd {a b : O} (ha : a ≠ .z) (hb : b ≠ .z) (nb : NF b) : hdE (prodO a b) = plusO (hdE a) (hdE b) := by
  cases a with
  | z => exact absurd rfl ha
  | c e n r =>
    cases b with
    | z => exact absurd rfl hb
    | c f m s =>
      obtain ⟨c, t, h⟩ := prod_hd (e := e) (r := r) (n := n) nb
      rw [h]; rfl
theorem mul_mx {n m : Int} {A B : Int} (h0 : 0 ≤ n) (h1 : 0 ≤ m) (hn : n ≤ A) (hm : m ≤ B) : n * m ≤ A * B :=
  Int.mul_le_mul hn hm h1 (by omega)
theorem plus_mx {a b : O} (na : NF a) (nb : NF b) : mx (plusO a b) ≤ mx a + mx b := by
  have pa := mx_nonneg a
  have pb := mx_nonneg b
  cases b with
  | z => show mx a ≤ _; omega
  | c e n r =>
    show mx (of (above a e ++ (e, sameN a e + n) :: r.parts)) ≤ _
    have h1 := (mx_parts pa a).mp (Int.le_refl _)
    have h2 : mx (.c e n r) = max n (max (mx e) (mx r)) := rfl
    have h3 := (sameN_bound (e := e) na pa (Int.le_refl _)).2
    have h4 := (mx_parts (mx_nonneg r) r).mp (Int.le_refl _)
    have pr := mx_nonneg r
    rw [mx_of (by omega)]
    intro p hp
    rcases List.mem_append.mp hp with h | h
    · have := h1 p (List.mem_filter.mp h).1; omega
    · rcases List.mem_cons.mp h with h | h
      · rw [h]; show sameN a e + n ≤ _ ∧ mx e ≤ _; omega
      · have := h4 p h; omega
theorem prod_mx {a b : O} {A B : Int} (na : NF a) (nb : NF b) (ha : mx a ≤ A) (hb : mx b ≤ B) (hA : 1 ≤ A) (hB : 1 ≤ B) : mx (prodO a b) ≤ A * B + A + B := by
  have AB : 1 * 1 ≤ A * B := Int.mul_le_mul hA hB (by decide) (by omega)
  cases a with
  | z => show (0 : Int) ≤ _; omega
  | c e n r =>
    have ta := nf_tail na
    have ea : mx (.c e n r) = max n (max (mx e) (mx r)) := rfl
    have pr := mx_nonneg r
    have key : ∀ b : O, NF b → mx b ≤ B → mx (prodO (.c e n r) b) ≤ A * B + A + B := by
      intro b
      induction b with
      | z => intro _ _; rw [prod_bz]; show (0 : Int) ≤ _; omega
      | c f m s _ ih =>
        intro nb hb
        have t := nf_tail nb
        have eb : mx (.c f m s) = max m (max (mx f) (mx s)) := rfl
        have hm : n * m ≤ A * B := mul_mx (by omega) (by omega) (by omega) (by omega)
        by_cases fz : f = .z
        · subst fz
          rw [z_min nb, prod_zero]
          show max (n * m) (max (mx e) (mx r)) ≤ _
          omega
        · rw [prod_nz fz]
          have h1 := ih t.1 (by omega)
          have h2 := plus_mx ta.2.1 t.2.1
          show max m (max (mx (plusO e f)) (mx (prodO (.c e n r) s))) ≤ _
          omega
    exact key b nb hb
theorem Sz.prod {H L1 K1 Z1 C1 M1 L2 K2 Z2 C2 M2 : Nat} {a b : O} (x : Sz H L1 K1 Z1 C1 M1 a) (y : Sz H L2 K2 Z2 C2 M2 b) : Sz H (L1 + L2) (K1 + K2) (Z1 + Z2 + L2 * K1) (C1 + C2) (M1 + M2 + 2) (prodO a b) where
  nf := prodO_nf x.nf y.nf
  h := prodO_h x.h y.h
  ll := by have := prodO_len' (a := a) y.nf; have := x.ll; have := y.ll; omega
  k := by
    by_cases az : a = .z
    · subst az; exact Nat.zero_le _
    · by_cases bz : b = .z
      · subst bz; rw [prod_bz]; exact Nat.zero_le _
      · rw [prodO_hd az bz y.nf]
        have := plus_size (hdE a) (hdE b)
        have := x.k; have := y.k; omega
  s := by
    have h1 := prodO_size' (a := a) y.nf
    have h2 : b.len * (hdE a).size ≤ L2 * K1 := Nat.mul_le_mul y.ll x.k
    have := x.s; have := y.s; omega
  cs := by
    cases a with
    | z => intro p hp; cases hp
    | c e n r =>
      have hn := x.cs (e, n) (by show _ ∈ (e, n) :: r.parts; simp)
      have key : ∀ b : O, NF b → (∀ p ∈ b.parts, p.2.natAbs < 2 ^ C2) → ∀ p ∈ (prodO (.c e n r) b).parts, p.2.natAbs < 2 ^ (C1 + C2) := by
        intro b
        induction b with
        | z => intro _ _ p hp; rw [prod_bz] at hp; cases hp
        | c f m s _ ih =>
          intro nb hb p hp
          have t := nf_tail nb
          have hm := hb (f, m) (by show _ ∈ (f, m) :: s.parts; simp)
          have up1 : (2 : Nat) ^ C1 ≤ 2 ^ (C1 + C2) := Nat.pow_le_pow_right (by decide) (by omega)
          have up2 : (2 : Nat) ^ C2 ≤ 2 ^ (C1 + C2) := Nat.pow_le_pow_right (by decide) (by omega)
          by_cases fz : f = .z
          · subst fz
            rw [z_min nb, prod_zero] at hp
            rcases List.mem_cons.mp (show p ∈ (e, n * m) :: r.parts from hp) with h | h
            · rw [h]; exact natAbs_mul_lt hn hm
            · exact Nat.lt_of_lt_of_le (x.cs p (by show _ ∈ (e, n) :: r.parts; simp [h])) up1
          · rw [prod_nz fz] at hp
            rcases List.mem_cons.mp (show p ∈ (plusO e f, m) :: _ from hp) with h | h
            · rw [h]; exact Nat.lt_of_lt_of_le hm up2
            · exact ih t.1 (fun q hq => hb q (by show q ∈ (f, m) :: s.parts; simp [hq])) p h
      exact key b y.nf y.cs
  m := by
    have p1 : (1 : Int) ≤ 2 ^ M1 := by exact_mod_cast Nat.one_le_two_pow
    have p2 : (1 : Int) ≤ 2 ^ M2 := by exact_mod_cast Nat.one_le_two_pow
    have h := prod_mx x.nf y.nf (Int.le_of_lt x.m) (Int.le_of_lt y.m) p1 p2
    have e1 : (2 : Int) ^ (M1 + M2 + 2) = 2 ^ M1 * 2 ^ M2 * 4 := by rw [Int.pow_add, Int.pow_add]; rfl
    have q1 : (2 : Int) ^ M1 * 1 ≤ 2 ^ M1 * 2 ^ M2 := Int.mul_le_mul_of_nonneg_left p2 (by omega)
    have q2 : 1 * (2 : Int) ^ M2 ≤ 2 ^ M1 * 2 ^ M2 := Int.mul_le_mul_of_nonneg_right p1 (by omega)
    rw [e1]
    generalize (2 : Int) ^ M1 * 2 ^ M2 = t at *
    omega
theorem Sz.of_nb {a : O} (n : Nb a) : Sz 6 4 260 260 190 190 a := ⟨n.nf, n.h, n.ll, by have := hd_size a; have := n.s; omega, n.s, n.cs, by have := n.m; have := E50_eq; omega⟩
theorem Sz.of_dr {l : Nat} {a : O} (d : Dr l a) : Sz (l + 1) 3 (4 ^ (l + 1)) (4 ^ (l + 1)) 50 50 a := ⟨d.nf, d.h, d.ll, by have := hd_size a; have := d.s; omega, d.s, fun p hp => by
    have h1 := ((mx_parts (mx_nonneg a) a).mp (Int.le_refl _) p hp).1
    have h2 := (((nf_parts a).mp d.nf).2 p hp).2
    have h3 := d.m
    omega, by have := d.m; omega⟩
end Nm
set_option Elab.async false
set_option linter.all false
set_option maxRecDepth 100000
set_option maxHeartbeats 4000000
namespace Nm
open PySem Pu O L2
/-! ### sums and products by a law's own hands -/
theorem l_plus2_step {S : Nat → Fn} {c0 k : Nat} (hc : CmpOk k (S c0)) : LPlusOk k (fun ds => fnD 5 (G_l_plus_2 c0 S) ds) := by
  intro a b hk ha hb la lb
  refine fnD_of ?_
  unfold G_l_plus_2
  have hcs : b = .z ∨ ∃ e n r, b = .c e n r := by cases b with
    | z => exact Or.inl rfl
    | c e n r => exact Or.inr ⟨e, n, r, rfl⟩
  rcases hcs with hbz | ⟨e, n, r, hbz⟩
  · subst hbz
    have n3 : gEq (.tuple []) (.tuple []) = some (.bool true) := gEq_nil (a := .z) (by decide)
    show sSeq _ _ [some (enc a), some (.tuple []), none, none, none] = _
    simp [n3, plusO]
  · have he : e.h ≤ 30 := by rw [hbz] at hb; have : (O.c e n r).h = max (e.h + 1) r.h := rfl; omega
    have n1 : gEq (enc b) (.tuple []) = some (.bool false) := by rw [gEq_nil (by omega), hbz]; rfl
    have b0 : atI (encL b) 0 = some (encP (e, n)) := by rw [hbz]; exact atI_zero _ _
    have b1 : Pu.cutD (encL b) (some 1) none = encL r := by rw [hbz]; exact cut_tl _ _
    have e1 : lcL (gtName 4) (tOf (eOp gEq (eFn (S c0) (aCons (eOp gIx (eVar 4) (eC (.int 0))) (aCons (eOp gIx (eOp gIx (eVar 1) (eC (.int 0))) (eC (.int 0))) aNil))) (eC (.int 1)))) (eVar 4) [some (enc a), some (enc b), none, none, none] (encL a) = .ok ((above a e).map encP) := by
      refine lc_parts (P := fun p => decide (0 < cmp p.1 e)) (fun p hp => ?_) fun p hp _ => by simp
      have := part_mem_h hp
      have h1 := hc p.1 e (by omega)
      have h2 := cmp_range p.1 e
      have h3 : decide (cmp p.1 e = 1) = decide (0 < cmp p.1 e) := by
        rcases h2 with h2 | h2 | h2 <;> rw [h2] <;> decide
      simp [h1, h3, b0]
    have e3 : lcL (gtName 4) (tOf (eOp gEq (eOp gIx (eVar 4) (eC (.int 0))) (eOp gIx (eOp gIx (eVar 1) (eC (.int 0))) (eC (.int 0))))) (eOp gIx (eVar 4) (eC (.int 1))) [some (enc a), some (enc b), some (.list ((above a e).map encP)), none, none] (encL a) = .ok ((a.parts.filter fun p => decide (p.1 = e)).map fun p => PyData.int p.2) := by
      refine lc_parts (P := fun p => decide (p.1 = e)) (fun p hp => ?_) fun p hp _ => by simp
      have := part_mem_h hp
      have h1 := gEq_enc (a := p.1) (b := e) (by omega) (by omega)
      simp [h1, b0]
    have la2 := above_len a e
    have lx : (a.parts.filter fun p => decide (p.1 = e)).length ≤ a.len := by rw [← len_parts]; exact List.length_filter_le _ _
    have s1 : (above a e).length < sizeLine := sz1000' (by omega)
    have s2 : (above a e).length + 1 ≤ sizeLine := sz1000 (by omega)
    have lr : r.len ≤ 1000000 := by rw [hbz] at lb; have : (O.c e n r).len = r.len + 1 := rfl; omega
    have s3 : (above a e).length + 1 + r.len ≤ sizeLine := sz1000 (by omega)
    have s4 : (a.parts.filter fun p => decide (p.1 = e)).length < sizeLine := sz1000' (by omega)
    have es := intsOf_mapF (fun p : O × Int => p.2) (a.parts.filter fun p => decide (p.1 = e))
    have sn : ((a.parts.filter fun p => decide (p.1 = e)).map fun p => p.2).sum = sameN a e := rfl
    have ep := encL_plus (a := a) (e := e) (r := r) (n := n)
    rw [← hbz, Int.add_comm] at ep
    simp [n1, b0, b1, e1, e3, s1, s2, s3, s4, gSum, es, ep, sn]
theorem lprod_loop {S : Nat → Fn} {c0 k C1 C2 : Nat} (hF : LPlusOk k (S c0)) {a e r : O} {n : Int} {bb : Option PyData} (hz : a = .c e n r) (eh : e.h ≤ 8) (el : e.len ≤ 1000000) (cn : n.natAbs < 2 ^ C1) (hC1 : 0 < C1) (hC2 : 0 < C2) (hC : C1 + C2 ≤ 100000) (hk : 9 ≤ k) : ∀ (b : O) (Fd : List (O × Int)) (x y : Option PyData), (∀ p ∈ b.parts, p.1.h ≤ 8 ∧ p.1.len ≤ 1000000 ∧ p.2.natAbs < 2 ^ C2) → Fd.length + b.len * (1 + r.len) ≤ 5000000 →
    ∃ x' y', forL (gtTup 2 (gtCons (gtName 3) (gtCons (gtName 4) gtNil))) (sIf (tOf (eOp gEq (eVar 3) (eTup aNil))) (sSet [] 2 (eOp gAdd (eOp gAdd (eVar 2) (eTup (aCons (eTup (aCons (eOp gIx (eOp gIx (eVar 0) (eC (.int 0))) (eC (.int 0))) (aCons (eOp gMul (eOp gIx (eOp gIx (eVar 0) (eC (.int 0))) (eC (.int 1))) (eVar 4)) aNil))) aNil))) (eSl (eVar 0) (oSome (eC (.int 1))) oNone))) (sSet [] 2 (eOp gAdd (eVar 2) (eTup (aCons (eTup (aCons (eFn (S c0) (aCons (eOp gIx (eOp gIx (eVar 0) (eC (.int 0))) (eC (.int 0))) (aCons (eVar 3) aNil))) (aCons (eVar 4) aNil))) aNil))))) (encL b) [some (enc a), bb, some (.tuple (Fd.map encP)), x, y] =
      .nx [some (enc a), bb, some (.tuple ((Fd ++ prodL e n r b.parts).map encP)), x', y']
  | .z, Fd, x, y, _, _ => ⟨x, y, by show Out.nx _ = Out.nx _; simp [prodL, O.parts]⟩
  | .c f m s, Fd, x, y, hc, hl => by
    have h4 : (O.c f m s).len = s.len + 1 := rfl
    obtain ⟨fh, fl, cm⟩ := hc (f, m) (by show _ ∈ (f, m) :: s.parts; simp)
    replace fh : f.h ≤ 8 := fh
    replace fl : f.len ≤ 1000000 := fl
    rw [h4, Nat.succ_mul] at hl
    have s1 : Fd.length + 1 ≤ sizeLine := sz1000 (by omega)
    have g1 := gEq_nil (a := f) (by omega)
    have mm : cMul n m = true := cMul_of C1 C2 cn cm hC1 hC2 (by omega)
    have hc2 : ∀ p ∈ s.parts, p.1.h ≤ 8 ∧ p.1.len ≤ 1000000 ∧ p.2.natAbs < 2 ^ C2 := fun p hp => hc p (by show _ ∈ (f, m) :: s.parts; simp [hp])
    have b0 : atI (encL a) 0 = some (encP (e, n)) := by rw [hz]; exact atI_zero _ _
    have b1 : Pu.cutD (encL a) (some 1) none = encL r := by rw [hz]; exact cut_tl _ _
    have lp := len_parts r
    by_cases fz : f = .z
    · rw [decide_eq_true fz] at g1
      obtain ⟨x', y', e1⟩ := lprod_loop (bb := bb) hF hz eh el cn hC1 hC2 hC hk s (Fd ++ (e, n * m) :: r.parts) (some (enc f)) (some (.int m)) hc2 (by rw [List.length_append, List.length_cons]; omega)
      refine ⟨x', y', ?_⟩
      have e2 : Fd ++ prodL e n r (O.c f m s).parts = (Fd ++ (e, n * m) :: r.parts) ++ prodL e n r s.parts := by
        show Fd ++ prodL e n r ((f, m) :: s.parts) = _
        rw [prodL_c, if_pos fz, List.append_assoc]
      rw [e2, ← e1]
      have s2 : Fd.length + 1 + r.len ≤ sizeLine := sz1000 (by omega)
      have ep : (Fd ++ (e, n * m) :: r.parts).map encP = Fd.map encP ++ .tuple [enc e, .int (n * m)] :: encL r := by rw [List.map_append, List.map_cons, ← encL_parts]
      rw [ep]
      show forL _ _ (.tuple [enc f, .int m] :: encL s) _ = _
      rw [u_forL_c]
      simp [g1, mm, s1, b0, b1, s2]
    · rw [decide_eq_false fz] at g1
      obtain ⟨x', y', e1⟩ := lprod_loop (bb := bb) hF hz eh el cn hC1 hC2 hC hk s (Fd ++ [(plusO e f, m)]) (some (enc f)) (some (.int m)) hc2 (by rw [List.length_append, List.length_singleton]; omega)
      refine ⟨x', y', ?_⟩
      have e2 : Fd ++ prodL e n r (O.c f m s).parts = (Fd ++ [(plusO e f, m)]) ++ prodL e n r s.parts := by
        show Fd ++ prodL e n r ((f, m) :: s.parts) = _
        rw [prodL_c, if_neg fz, List.append_assoc]
      rw [e2, ← e1]
      have pl := hF e f (by omega) (by omega) (by omega) el fl
      have ep : (Fd ++ [(plusO e f, m)]).map encP = Fd.map encP ++ [.tuple [enc (plusO e f), .int m]] := by rw [List.map_append]; rfl
      rw [ep]
      show forL _ _ (.tuple [enc f, .int m] :: encL s) _ = _
      rw [u_forL_c]
      simp [g1, s1, pl, b0]
theorem l_product_step {S : Nat → Fn} {c0 k : Nat} (hF : LPlusOk k (S c0)) (hk : 9 ≤ k) : TimesG (fun ds => fnD 5 (G_l_product c0 S) ds) := by
  intro L1 E1 C1 Z1 L2 E2 C2 Z2 a b na nb hE1 hE2 hL hC1 hC2 hC
  refine fnD_of ?_
  have ah := na.h
  have g1 := gEq_nil (a := a) (by omega)
  by_cases az : a = .z
  · rw [decide_eq_true az] at g1
    have : prodO a b = .z := by rw [az]; rfl
    rw [this]
    unfold G_l_product
    simp [g1]
  · obtain ⟨e, n, r, hz⟩ : ∃ e n r, a = .c e n r := by
      cases a with
      | z => exact absurd rfl az
      | c e n r => exact ⟨e, n, r, rfl⟩
    rw [decide_eq_false az] at g1
    have hl := na.ll
    have h6 : (O.c e n r).h = max (e.h + 1) r.h := rfl
    have h7 : (O.c e n r).len = r.len + 1 := rfl
    have hm : (e, n) ∈ a.parts := by rw [hz]; show _ ∈ (e, n) :: r.parts; simp
    have he := na.el _ hm
    have hc := na.cs _ hm
    replace he : e.len ≤ E1 := he
    have ll : b.len * (1 + r.len) ≤ L2 * (1 + L1) := Nat.mul_le_mul nb.ll (by rw [hz] at hl; omega)
    obtain ⟨x', y', e1⟩ := lprod_loop (bb := some (enc b)) hF hz (by rw [hz] at ah; omega) (by omega) hc hC1 hC2 hC hk b [] none none (fun p hp => ⟨by have := part_mem_h hp; have := nb.h; omega, by have := nb.el p hp; omega, nb.cs p hp⟩) (by simp; omega)
    have ep : enc (prodO a b) = .tuple ((prodL e n r b.parts).map encP) := by rw [hz]; show PyData.tuple (encL (of _)) = _; rw [encL_of]
    rw [ep]
    unfold G_l_product
    rw [List.map_nil, List.nil_append] at e1
    simp [g1, e1]
end Nm
set_option Elab.async false
set_option linter.all false
set_option maxRecDepth 100000
set_option maxHeartbeats 4000000
namespace Nm
open PySem Pu O L2
/-! ### whole parts -/
abbrev oneO : O := .c .z 1 .z
def wpO : O → Int
  | .z => 0
  | .c e n r => if e = .z then n else wpO r
def noW : O → O
  | .z => .z
  | .c e n r => if e = .z then .z else .c e n (noW r)
theorem wp_z {n : Int} {r : O} : wpO (.c .z n r) = n := if_pos rfl
theorem wp_c {e r : O} {n : Int} (h : e ≠ .z) : wpO (.c e n r) = wpO r := if_neg h
theorem noW_z {n : Int} {r : O} : noW (.c .z n r) = .z := if_pos rfl
theorem noW_c {e r : O} {n : Int} (h : e ≠ .z) : noW (.c e n r) = .c e n (noW r) := if_neg h
theorem wp_nonneg : ∀ {a : O}, NF a → 0 ≤ wpO a
  | .z, _ => Int.le_refl _
  | .c e n r, h => by
    have t := nf_tail h
    by_cases ez : e = .z
    · subst ez; rw [wp_z]; omega
    · rw [wp_c ez]; exact wp_nonneg t.1
theorem wp_last : ∀ {a : O}, NF a → a ≠ .z → wpO a = if (lastP a).1 = .z then (lastP a).2 else 0
  | .z, _, h => absurd rfl h
  | .c e n r, h, _ => by
    have t := nf_tail h
    by_cases ez : e = .z
    · subst ez
      have rz := z_min h
      subst rz
      rw [wp_z]; rfl
    · rw [wp_c ez]
      by_cases rz : r = .z
      · subst rz
        show (0 : Int) = if (if O.z = .z then (e, n) else lastP .z).1 = .z then _ else 0
        rw [if_pos rfl, if_neg ez]
      · rw [wp_last t.1 rz]
        have : lastP (.c e n r) = lastP r := if_neg rz
        rw [this]
theorem noW_sub : ∀ a : O, (noW a).parts.Sublist a.parts
  | .z => List.Sublist.refl _
  | .c e n r => by
    by_cases ez : e = .z
    · subst ez; rw [noW_z]; exact List.nil_sublist _
    · rw [noW_c ez]; exact (noW_sub r).cons₂ (e, n)
theorem noW_exp : ∀ {a : O}, ∀ p ∈ (noW a).parts, p.1 ≠ .z
  | .z, p, h => by cases h
  | .c e n r, p, h => by
    by_cases ez : e = .z
    · subst ez; rw [noW_z] at h; cases h
    · rw [noW_c ez] at h
      rcases List.mem_cons.mp (show p ∈ (e, n) :: (noW r).parts from h) with h | h
      · rw [h]; exact ez
      · exact noW_exp p h
theorem noW_wp0 : ∀ {a : O}, NF a → wpO a = 0 → noW a = a
  | .z, _, _ => rfl
  | .c e n r, h, hw => by
    have t := nf_tail h
    by_cases ez : e = .z
    · subst ez; rw [wp_z] at hw; omega
    · rw [wp_c ez] at hw
      rw [noW_c ez, noW_wp0 t.1 hw]
theorem noW_init : ∀ {a : O}, NF a → wpO a ≠ 0 → a.parts.take (a.len - 1) = (noW a).parts
  | .z, _, h => absurd rfl h
  | .c e n r, h, hw => by
    have t := nf_tail h
    have hl : (O.c e n r).len - 1 = r.len := rfl
    rw [hl]
    by_cases ez : e = .z
    · subst ez
      have rz := z_min h
      subst rz
      rw [noW_z]; rfl
    · rw [wp_c ez] at hw
      rw [noW_c ez]
      have hr : r.len = (r.len - 1) + 1 := by
        cases r with
        | z => exact absurd rfl hw
        | c f m s => rfl
      rw [hr]
      show (e, n) :: r.parts.take (r.len - 1) = (e, n) :: (noW r).parts
      rw [noW_init t.1 hw]
theorem noW_nf {a : O} (h : NF a) : NF (noW a) := by
  have := nf_sub (ps := a.parts) (by rw [of_parts]; exact h) (noW_sub a)
  rw [of_parts] at this; exact this
theorem noW_split : ∀ {a : O}, NF a → plusO (noW a) (rzO .z (wpO a)) = a
  | .z, _ => rfl
  | .c e n r, h => by
    have t := nf_tail h
    by_cases ez : e = .z
    · subst ez
      have rz := z_min h
      subst rz
      rw [noW_z, wp_z]
      unfold rzO
      rw [if_neg (by omega), plus_z]
    · rw [noW_c ez, wp_c ez]
      have ih := noW_split t.1
      by_cases w : wpO r = 0
      · rw [w, noW_wp0 t.1 w]; rfl
      · have : rzO .z (wpO r) = .c .z (wpO r) .z := if_neg w
        rw [this] at ih ⊢
        rw [plus_gt (cmp_gt.mpr (z_lt ez)), ih]
theorem above_noW : ∀ {a : O}, NF a → above a .z = (noW a).parts
  | .z, _ => rfl
  | .c e n r, h => by
    have t := nf_tail h
    have ih := above_noW t.1
    unfold above at ih ⊢
    by_cases ez : e = .z
    · subst ez
      have rz := z_min h
      subst rz
      rw [noW_z]
      show List.filter _ [(O.z, n)] = []
      simp
    · rw [noW_c ez]
      have : cmp e .z = 1 := cmp_gt.mpr (z_lt ez)
      show List.filter _ ((e, n) :: r.parts) = (e, n) :: (noW r).parts
      rw [List.filter_cons_of_pos (by simp [this]), ih]
theorem same_wp : ∀ {a : O}, NF a → sameN a .z = wpO a
  | .z, _ => rfl
  | .c e n r, h => by
    have t := nf_tail h
    rw [co_c]
    by_cases ez : e = .z
    · subst ez
      have rz := z_min h
      subst rz
      rw [if_pos rfl, wp_z, co_z, Int.add_zero]
    · rw [if_neg ez, wp_c ez, same_wp t.1, Int.zero_add]
theorem Sz.noW {H L K Z C M : Nat} {a : O} (x : Sz H L K Z C M a) : Sz H L K Z C M (noW a) where
  nf := noW_nf x.nf
  h := by
    rw [h_parts]
    exact fun p hp => (h_parts a).mp x.h p ((noW_sub a).subset hp)
  ll := by
    have := (noW_sub a).length_le
    rw [len_parts, len_parts] at this
    have := x.ll; omega
  k := by
    have := x.k
    cases a with
    | z => exact this
    | c e n r =>
      by_cases ez : e = .z
      · subst ez; rw [noW_z]; exact Nat.zero_le _
      · rw [noW_c ez]; exact this
  s := by
    have := size_sub (noW_sub a)
    rw [of_parts, of_parts] at this
    have := x.s; omega
  cs := fun p hp => x.cs p ((noW_sub a).subset hp)
  m := by
    have := mx_sub (ps := a.parts) (mx_nonneg a) (by rw [of_parts]; exact Int.le_refl _) (noW_sub a)
    rw [of_parts] at this
    have := x.m; omega
def WpOk (F : Fn) : Prop := ∀ a : O, NF a → a.h ≤ 30 → F [enc a] = .ok (.int (wpO a))
theorem whole_part_step (S : Nat → Fn) : WpOk (fun ds => fnD 1 (G_whole_part S) ds) := by
  intro a na ah
  refine fnD_of ?_
  have g2 := gEq_nil (a := a) (by omega)
  by_cases az : a = .z
  · rw [decide_eq_true az] at g2
    have : wpO a = 0 := by rw [az]; rfl
    rw [this]
    unfold G_whole_part
    simp [g2]
  · rw [decide_eq_false az] at g2
    have p2 := last_at az
    have ph := part_mem_h (lastP_mem az)
    have g3 := gNe_nil (a := (lastP a).1) (by omega)
    rw [wp_last na az]
    unfold G_whole_part
    by_cases c : (lastP a).1 = .z
    · rw [decide_eq_true c] at g3
      rw [if_pos c]
      simp [g2, p2, g3]
    · rw [decide_eq_false c] at g3
      rw [if_neg c]
      simp [g2, p2, g3]
def NoWOk (F : Fn) : Prop := ∀ a : O, NF a → a.h ≤ 30 → F [enc a] = .ok (enc (noW a))
theorem without_whole_step {S : Nat → Fn} {c0 : Nat} (h : WpOk (S c0)) : NoWOk (fun ds => fnD 1 (G_without_whole c0 S) ds) := by
  intro a na ah
  refine fnD_of ?_
  have e1 := h a na ah
  by_cases w : wpO a = 0
  · rw [noW_wp0 na w]
    rw [w] at e1
    unfold G_without_whole
    simp [e1]
  · have ci : Pu.cutD (encL a) none (some (-1)) = encL (noW a) := by rw [cut_init, encL_take, encL_len, noW_init na w, of_parts]
    unfold G_without_whole
    simp [e1, w, ci]
end Nm
set_option Elab.async false
set_option linter.all false
set_option maxRecDepth 100000
set_option maxHeartbeats 4000000
namespace Nm
open PySem Pu O L2
/-! ### powers -/
def powN (x a : O) : Nat → O
  | 0 => x
  | n + 1 => prodO (powN x a n) a
def mapDec : O → O
  | .z => .z
  | .c f d s => .c (minusO f oneO) d (mapDec s)
def hdN : O → Int
  | .z => 0
  | .c _ n _ => n
def toLim (a L : O) : O := if L = .z then oneO else if hdE a ≠ .z then .c (prodO (hdE a) L) 1 .z else .c (mapDec L) 1 .z
def powO (a b : O) : O := if b = .z then oneO else if a = .z ∨ a = oneO then a else if a.len = 1 ∧ hdE a ≠ .z then .c (prodO (hdE a) b) (if wpO b = 0 then 1 else hdN a) .z else powN (toLim a (noW b)) a (wpO b).toNat
theorem nf_one : NF oneO := nf_mk trivial (by decide) trivial (fun q hq => by cases hq)
theorem one_le {f : O} (h : NF f) (hz : f ≠ .z) : cmp oneO f ≠ 1 := by
  cases f with
  | z => exact absurd rfl hz
  | c e n r =>
    have t := nf_tail h
    intro c
    have c := cmp_gt.mp c
    rw [cmp_c] at c
    rcases c with c | ⟨_, c | ⟨_, c⟩⟩
    · cases e <;> simp [cmp] at c
    · omega
    · cases r <;> simp [cmp] at c
theorem dec_ok {f : O} (h : NF f) (hz : f ≠ .z) : NF (minusO f oneO) ∧ plusO oneO (minusO f oneO) = f := minus_ok f oneO h nf_one (one_le h hz)
theorem dec_cmp {f g : O} (hf : NF f) (hg : NF g) (fz : f ≠ .z) (gz : g ≠ .z) : cmp (minusO f oneO) (minusO g oneO) = cmp f g := by
  have a := dec_ok hf fz
  have b := dec_ok hg gz
  have := plus_cmp nf_one a.1 b.1
  rw [a.2, b.2] at this
  exact this.symm
theorem dec_form (f : O) : minusO f oneO = f ∨ (∃ n r, f = .c .z n r ∧ (minusO f oneO = r ∨ minusO f oneO = .c .z (n - 1) r)) := by
  cases f with
  | z => exact Or.inl rfl
  | c e n r =>
    unfold minusO
    by_cases ez : e = .z
    · rw [if_pos ez]
      subst ez
      refine Or.inr ⟨n, r, rfl, ?_⟩
      by_cases n1 : n = 1
      · rw [if_pos n1, minus_z]; exact Or.inl rfl
      · rw [if_neg n1]; exact Or.inr rfl
    · rw [if_neg ez]; exact Or.inl rfl
theorem dec_size (f : O) : (minusO f oneO).size ≤ f.size := by
  rcases dec_form f with h | ⟨n, r, h, h2 | h2⟩
  · rw [h]; exact Nat.le_refl _
  · rw [h2, h]; show r.size ≤ 1 + 0 + r.size; omega
  · rw [h2, h]; exact Nat.le_refl _
theorem dec_mx (f : O) : mx (minusO f oneO) ≤ mx f := by
  rcases dec_form f with h | ⟨n, r, h, h2 | h2⟩
  · rw [h]; exact Int.le_refl _
  · rw [h2, h]; show mx r ≤ max n (max 0 (mx r)); omega
  · rw [h2, h]; show max (n - 1) (max 0 (mx r)) ≤ max n (max 0 (mx r)); omega
theorem mapDec_parts : ∀ a : O, (mapDec a).parts = a.parts.map fun p => (minusO p.1 oneO, p.2)
  | .z => rfl
  | .c f d s => by show _ :: (mapDec s).parts = _; rw [mapDec_parts s]; rfl
theorem mapDec_nf : ∀ {a : O}, NF a → (∀ p ∈ a.parts, p.1 ≠ .z) → NF (mapDec a)
  | .z, _, _ => trivial
  | .c f d s, h, hz => by
    have t := nf_tail h
    have fz : f ≠ .z := hz (f, d) (by show _ ∈ (f, d) :: s.parts; simp)
    have hz2 : ∀ p ∈ s.parts, p.1 ≠ .z := fun p hp => hz p (by show p ∈ (f, d) :: s.parts; simp [hp])
    refine nf_mk (dec_ok t.2.1 fz).1 t.2.2.1 (mapDec_nf t.1 hz2) fun q hq => ?_
    rw [mapDec_parts] at hq
    obtain ⟨p, hp, rfl⟩ := List.mem_map.mp hq
    show cmp (minusO f oneO) (minusO p.1 oneO) = 1
    rw [dec_cmp t.2.1 (((nf_parts s).mp t.1).2 p hp).1 fz (hz2 p hp)]
    exact t.2.2.2 p hp
theorem mapDec_h {k : Nat} {a : O} (h : a.h ≤ k) : (mapDec a).h ≤ k := by
  rw [h_parts, mapDec_parts]
  intro q hq
  obtain ⟨p, hp, rfl⟩ := List.mem_map.mp hq
  have := (h_parts a).mp h p hp
  have := minus_h (a := p.1) (b := oneO) (k := k - 1) (by omega)
  show (minusO p.1 oneO).h + 1 ≤ k
  omega
theorem mapDec_size : ∀ a : O, (mapDec a).size ≤ a.size
  | .z => Nat.le_refl _
  | .c f d s => by
    have := mapDec_size s
    have := dec_size f
    show 1 + (minusO f oneO).size + (mapDec s).size ≤ 1 + f.size + s.size
    omega
theorem mapDec_len : ∀ a : O, (mapDec a).len = a.len
  | .z => rfl
  | .c f d s => by show (mapDec s).len + 1 = _; rw [mapDec_len s]; rfl
theorem mapDec_mx : ∀ a : O, mx (mapDec a) ≤ mx a
  | .z => Int.le_refl _
  | .c f d s => by
    have := mapDec_mx s
    have := dec_mx f
    show max d (max (mx (minusO f oneO)) (mx (mapDec s))) ≤ max d (max (mx f) (mx s))
    omega
theorem hd_nf {a : O} (h : NF a) : NF (hdE a) := by
  cases a with
  | z => trivial
  | c e n r => exact (nf_tail h).2.1
theorem hd_mx (a : O) : mx (hdE a) ≤ mx a := by
  cases a with
  | z => exact Int.le_refl _
  | c e n r => show mx e ≤ max n (max (mx e) (mx r)); omega
theorem cs_of_mx {a : O} (h : NF a) {M : Nat} (m : mx a < 2 ^ M) : ∀ p ∈ a.parts, p.2.natAbs < 2 ^ M := fun p hp => by
  have h1 := ((mx_parts (mx_nonneg a) a).mp (Int.le_refl _) p hp).1
  have h2 := (((nf_parts a).mp h).2 p hp).2
  have : (p.2.natAbs : Int) < ((2 ^ M : Nat) : Int) := by rw [Int.natCast_pow]; show _ < (2 : Int) ^ M; omega
  exact_mod_cast this
theorem Sz.hd {H L K Z C M : Nat} {a : O} (x : Sz H L K Z C M a) : Sz H K K K M M (hdE a) where
  nf := hd_nf x.nf
  h := by have := hd_h a x.h; omega
  ll := Nat.le_trans (len_le_size _) x.k
  k := Nat.le_trans (hd_size _) x.k
  s := x.k
  cs := cs_of_mx (hd_nf x.nf) (Int.lt_of_le_of_lt (hd_mx a) x.m)
  m := Int.lt_of_le_of_lt (hd_mx a) x.m
/-- w to a number -/
theorem Sz.w {H L K Z C M : Nat} {e : O} (x : Sz H L K Z C M e) {n : Int} (n1 : 1 ≤ n) {c : Nat} (hc : n.natAbs < 2 ^ c) (hM : c ≤ M) : Sz (H + 1) 1 Z (1 + Z) c M (.c e n .z) where
  nf := nf_mk x.nf n1 trivial (fun q hq => by cases hq)
  h := by have := x.h; show max (e.h + 1) 0 ≤ H + 1; omega
  ll := by show 0 + 1 ≤ 1; decide
  k := x.s
  s := by have := x.s; show 1 + e.size + 0 ≤ 1 + Z; omega
  cs := fun p hp => by
    rcases List.mem_cons.mp (show p ∈ (e, n) :: [] from hp) with h | h
    · rw [h]; exact hc
    · cases h
  m := by
    have h1 := x.m
    have h2 : (n.natAbs : Int) < 2 ^ M := by
      have := Nat.lt_of_lt_of_le hc (Nat.pow_le_pow_right (by decide : 0 < 2) hM)
      have : ((n.natAbs : Nat) : Int) < ((2 ^ M : Nat) : Int) := by exact_mod_cast this
      rw [Int.natCast_pow] at this; exact this
    show max n (max (mx e) 0) < 2 ^ M
    omega
theorem Sz.toLim {H La Ka Za Ca Ma Lb Kb Zb Cb Mb : Nat} {a b : O} (x : Sz H La Ka Za Ca Ma a) (y : Sz H Lb Kb Zb Cb Mb b) : Sz (H + 1) 1 (Ka + Zb + Lb * Ka) (1 + (Ka + Zb + Lb * Ka)) 1 (Ma + Mb + 2) (Nm.toLim a (Nm.noW b)) := by
  have y' := y.noW
  unfold Nm.toLim
  by_cases lz : Nm.noW b = .z
  · rw [if_pos lz]
    exact Sz.one.up (by omega) (by omega) (by omega) (by omega) (by omega) (by omega)
  · rw [if_neg lz]
    by_cases hz : hdE a = .z
    · rw [if_neg (by simp [hz])]
      have w : Sz H Lb Zb Zb Mb Mb (mapDec (Nm.noW b)) := by
        have nf := mapDec_nf y'.nf noW_exp
        have mm := Int.lt_of_le_of_lt (mapDec_mx (Nm.noW b)) y'.m
        refine ⟨nf, mapDec_h y'.h, by rw [mapDec_len]; exact y'.ll, ?_, Nat.le_trans (mapDec_size _) y'.s, cs_of_mx nf mm, mm⟩
        exact Nat.le_trans (hd_size _) (Nat.le_trans (mapDec_size _) y'.s)
      have w2 : Sz H Lb Zb Zb Mb (Ma + Mb + 2) (mapDec (Nm.noW b)) := w.up (Nat.le_refl _) (Nat.le_refl _) (Nat.le_refl _) (Nat.le_refl _) (Nat.le_refl _) (by omega)
      exact (w2.w (c := 1) (by decide) (by decide) (by omega)).up (Nat.le_refl _) (Nat.le_refl _) (by omega) (by omega) (Nat.le_refl _) (Nat.le_refl _)
    · rw [if_pos hz]
      exact ((x.hd).prod y').w (c := 1) (by decide) (by decide) (by omega)
theorem Sz.powN {H Lx Kx Zx Cx Mx La Ka Za Ca Ma : Nat} {x a : O} (sx : Sz H Lx Kx Zx Cx Mx x) (sa : Sz H La Ka Za Ca Ma a) (N : Nat) : ∀ n, n ≤ N → Sz H (Lx + n * La) (Kx + n * Ka) (Zx + n * (Za + La * (Kx + N * Ka))) (Cx + n * Ca) (Mx + n * (Ma + 2)) (Nm.powN x a n)
  | 0, _ => by
    simp only [Nat.zero_mul, Nat.add_zero]
    exact sx
  | n + 1, h => by
    have ih := Sz.powN sx sa N n (by omega)
    have q1 : n * Ka ≤ N * Ka := Nat.mul_le_mul_right _ (by omega)
    have q : La * (Kx + n * Ka) ≤ La * (Kx + N * Ka) := Nat.mul_le_mul_left _ (by omega)
    refine (ih.prod sa).up (Nat.le_refl _) ?_ ?_ ?_ ?_ ?_
    · rw [Nat.succ_mul]; omega
    · rw [Nat.succ_mul]; omega
    · rw [Nat.succ_mul]; omega
    · rw [Nat.succ_mul]; omega
    · rw [Nat.succ_mul]; omega
/-- the bounds of a power -/
structure PB (La Ka Za Ca Ma Lb Kb Zb Cb Mb W : Nat) : Prop where
  w1 : 1 ≤ W
  w2 : W ≤ 24
  l : La * (2 + W * La) ≤ 5000000
  l2 : Lb * (1 + Ka) ≤ 5000000
  z : 1 + (Ka + Zb + Lb * Ka) + W * (Za + La * (Ka + Zb + Lb * Ka + W * Ka)) ≤ 1000000
  c0 : 0 < Ca
  c1 : 1 + W * Ca + Ca ≤ 100000
  c2 : 0 < Cb
  c3 : Ma + Cb ≤ 100000
  c4 : Ca ≤ Ma
  la : Za ≤ 1000000 ∧ Zb ≤ 1000000
theorem PB.mk' {La Ka Za Ca Ma Lb Kb Zb Cb Mb W : Nat} (h : (decide (1 ≤ W) && decide (W ≤ 24) && decide (La * (2 + W * La) ≤ 5000000) && decide (Lb * (1 + Ka) ≤ 5000000) && decide (1 + (Ka + Zb + Lb * Ka) + W * (Za + La * (Ka + Zb + Lb * Ka + W * Ka)) ≤ 1000000) && decide (0 < Ca) && decide (1 + W * Ca + Ca ≤ 100000) && decide (0 < Cb) && decide (Ma + Cb ≤ 100000) && decide (Ca ≤ Ma) && decide (Za ≤ 1000000) && decide (Zb ≤ 1000000)) = true) : PB La Ka Za Ca Ma Lb Kb Zb Cb Mb W := by
  simp only [Bool.and_eq_true, decide_eq_true_eq] at h
  exact ⟨h.1.1.1.1.1.1.1.1.1.1.1, h.1.1.1.1.1.1.1.1.1.1.2, h.1.1.1.1.1.1.1.1.1.2, h.1.1.1.1.1.1.1.1.2, h.1.1.1.1.1.1.1.2, h.1.1.1.1.1.1.2, h.1.1.1.1.1.2, h.1.1.1.1.2, h.1.1.1.2, h.1.1.2, h.1.2, h.2⟩
theorem hdN_pos {a : O} (h : NF a) (hz : a ≠ .z) : 1 ≤ hdN a := by
  cases a with
  | z => exact absurd rfl hz
  | c e n r => exact (nf_tail h).2.2.1
theorem Sz.pow {H La Ka Za Ca Ma Lb Kb Zb Cb Mb W : Nat} {a b : O} (x : Sz H La Ka Za Ca Ma a) (y : Sz H Lb Kb Zb Cb Mb b) (hC : 1 ≤ Ca) (hCM : Ca ≤ Ma) (hL : 1 ≤ La) (hW : 1 ≤ W) (hw : (a.len = 1 ∧ hdE a ≠ .z) ∨ wpO b ≤ W) :
    Sz (H + 1) (1 + W * La) (Ka + Zb + Lb * Ka + W * Ka) (1 + (Ka + Zb + Lb * Ka) + W * (Za + La * (Ka + Zb + Lb * Ka + W * Ka))) (1 + W * Ca) (Ma + Mb + 2 + W * (Ma + 2)) (powO a b) := by
  have w1 : 1 * La ≤ W * La := Nat.mul_le_mul_right _ hW
  have w2 : 1 * Ka ≤ W * Ka := Nat.mul_le_mul_right _ hW
  have w3 : 1 * (Za + La * (Ka + Zb + Lb * Ka + W * Ka)) ≤ W * (Za + La * (Ka + Zb + Lb * Ka + W * Ka)) := Nat.mul_le_mul_right _ hW
  have w4 : 1 * Ca ≤ W * Ca := Nat.mul_le_mul_right _ hW
  have w5 : 1 * (Ma + 2) ≤ W * (Ma + 2) := Nat.mul_le_mul_right _ hW
  unfold powO
  by_cases bz : b = .z
  · rw [if_pos bz]
    exact Sz.one.up (by omega) (by omega) (by omega) (by omega) (by omega) (by omega)
  · rw [if_neg bz]
    by_cases a1 : a = .z ∨ a = oneO
    · rw [if_pos a1]
      exact x.up (by omega) (by omega) (by omega) (by omega) (by omega) (by omega)
    · rw [if_neg a1]
      have az : a ≠ .z := fun z => a1 (Or.inl z)
      by_cases s : a.len = 1 ∧ hdE a ≠ .z
      · rw [if_pos s]
        have hn := hdN_pos x.nf az
        have hc : (hdN a).natAbs < 2 ^ Ca := by
          cases a with
          | z => exact absurd rfl az
          | c e n r => exact x.cs (e, n) (by show _ ∈ (e, n) :: r.parts; simp)
        have h1 : (1 : Int).natAbs < 2 ^ Ca := by
          show 1 < 2 ^ Ca
          calc 1 < 2 ^ 1 := by decide
            _ ≤ 2 ^ Ca := Nat.pow_le_pow_right (by decide) hC
        refine Sz.up (((x.hd).prod y).w (n := if wpO b = 0 then 1 else hdN a) (c := Ca) (by split <;> omega) (by split <;> assumption) (by omega)) (Nat.le_refl _) ?_ ?_ ?_ ?_ ?_
        · omega
        · omega
        · omega
        · omega
        · omega
      · rw [if_neg s]
        rcases hw with hw | hw
        · exact absurd hw s
        · have hn := wp_nonneg y.nf
          have t := (x.toLim y)
          have x' : Sz (H + 1) La Ka Za Ca Ma a := x.up (by omega) (Nat.le_refl _) (Nat.le_refl _) (Nat.le_refl _) (Nat.le_refl _) (Nat.le_refl _)
          have p := t.powN x' W (wpO b).toNat (by omega)
          have m1 : (wpO b).toNat * La ≤ W * La := Nat.mul_le_mul_right _ (by omega)
          have m2 : (wpO b).toNat * Ka ≤ W * Ka := Nat.mul_le_mul_right _ (by omega)
          have m3 : (wpO b).toNat * (Za + La * (Ka + Zb + Lb * Ka + W * Ka)) ≤ W * (Za + La * (Ka + Zb + Lb * Ka + W * Ka)) := Nat.mul_le_mul_right _ (by omega)
          have m4 : (wpO b).toNat * Ca ≤ W * Ca := Nat.mul_le_mul_right _ (by omega)
          have m5 : (wpO b).toNat * (Ma + 2) ≤ W * (Ma + 2) := Nat.mul_le_mul_right _ (by omega)
          exact p.up (Nat.le_refl _) (by omega) (by omega) (by omega) (by omega) (by omega)
end Nm
set_option Elab.async false
set_option linter.all false
set_option maxRecDepth 100000
set_option maxHeartbeats 4000000
namespace Nm
open PySem Pu O L2
/-! ### power: what the program does -/
theorem fnD_nx {N : Nat} {g : Vars → Out} {ds : List PyData} {ρ : Vars} (h : g (ds.map some ++ List.replicate (N - ds.length) none) = .nx ρ) : fnD N g ds = .ok .none := by unfold fnD; rw [h]
theorem lc_parts2 {i j : Nat} {ρ : Vars} {f : Vars → R PyData} {F : O × Int → PyData} : ∀ {a : O}, (∀ p ∈ a.parts, f ((ρ.set i (some (enc p.1))).set j (some (.int p.2))) = .ok (F p)) →
    lcL (gtTup 2 (gtCons (gtName i) (gtCons (gtName j) gtNil))) tYesD f ρ (encL a) = .ok (a.parts.map F)
  | .z, _ => rfl
  | .c e n r, h => by
    have h1 := h (e, n) (by show _ ∈ (e, n) :: r.parts; simp)
    have ih := lc_parts2 (a := r) (fun p hp => h p (by show p ∈ (e, n) :: r.parts; simp [hp]))
    show lcL _ _ _ _ (.tuple [enc e, .int n] :: encL r) = .ok (F (e, n) :: r.parts.map F)
    rw [u_lcL_c]
    simp only [u_gtTup, List.length_cons, List.length_nil, Nat.reduceAdd, if_true, u_gtCons, u_gtName, u_gtNil, Option.bind_some, u_tYesD, R.bind_ok]
    rw [h1, ih]; rfl
structure LookOk (F : Fn) : Prop where
  yes : ∀ a b : O, NF b → a.h ≤ 30 → b.h ≤ 30 → wpO b ≤ 24 → a.len ≤ 24 → (∀ p ∈ a.parts, p.2 < E60) → F [enc a, enc b] = .ok .none
  no : ∀ a b : O, NF b → a.h ≤ 30 → b.h ≤ 30 → (24 < wpO b ∨ 24 < a.len ∨ ∃ p ∈ a.parts, E60 ≤ p.2) → F [enc a, enc b] = .err "TooGreat"
theorem look_step {S : Nat → Fn} {c0 : Nat} (h : WpOk (S c0)) : LookOk (fun ds => fnD 3 (G_look c0 S) ds) where
  yes := fun a b nb ah bh hw hl hp => by
    have e1 := h b nb bh
    obtain ⟨ρ', r1, _⟩ := forL_inv (gt := gtName 2) (g := sIf (tOf (eOp gGe (eOp gIx (eVar 2) (eC (.int 1))) (eOp gPow (eC (.int 10)) (eC (.int 60))))) (sRaise "TooGreat") sNil) (fun _ ρ => ∃ x, ρ = [some (enc a), some (enc b), x]) (encL a) 0 [some (enc a), some (enc b), none] ⟨_, rfl⟩ fun j d ρ hd hi => by
      obtain ⟨x, rfl⟩ := hi
      rw [encL_parts, List.getElem?_map] at hd
      obtain ⟨p, q1, rfl⟩ := Option.map_eq_some_iff.mp hd
      have := hp p (List.mem_of_getElem? q1)
      have n1 : ¬ E60 ≤ p.2 := by omega
      refine ⟨_, _, rfl, Or.inl ?_, ⟨some (encP p), rfl⟩⟩
      simp [n1]
    refine fnD_nx (ρ := ρ') ?_
    have n1 : ¬ 24 < wpO b := by omega
    have n2 : ¬ (24 : Int) < (a.len : Int) := by omega
    unfold G_look
    simp [e1, n1, n2, r1]
  no := fun a b nb ah bh hc => by
    have e1 := h b nb bh
    by_cases n1 : 24 < wpO b
    · refine fnD_err (ρ := [some (enc a), some (enc b), none]) ?_
      unfold G_look
      simp [e1, n1]
    · by_cases n2 : (24 : Int) < (a.len : Int)
      · refine fnD_err (ρ := [some (enc a), some (enc b), none]) ?_
        unfold G_look
        simp [e1, n1, n2]
      · have hx : ∃ p ∈ a.parts, E60 ≤ p.2 := by
          rcases hc with c | c | c
          · exact absurd c n1
          · exact absurd (by exact_mod_cast c) n2
          · exact c
        have loop : ∀ (x : O) (s : Option PyData), (∃ p ∈ x.parts, E60 ≤ p.2) → ∃ ρ', forL (gtName 2) (sIf (tOf (eOp gGe (eOp gIx (eVar 2) (eC (.int 1))) (eOp gPow (eC (.int 10)) (eC (.int 60))))) (sRaise "TooGreat") sNil) (encL x) [some (enc a), some (enc b), s] = .err "TooGreat" ρ' := by
          intro x
          induction x with
          | z => intro s hx; obtain ⟨p, hp, _⟩ := hx; cases hp
          | c e n r _ ih =>
            intro s hx
            by_cases g : E60 ≤ n
            · refine ⟨[some (enc a), some (enc b), some (encP (e, n))], ?_⟩
              show forL _ _ (.tuple [enc e, .int n] :: encL r) _ = _
              rw [u_forL_c]
              simp [g]
            · obtain ⟨ρ', h2⟩ := ih (some (encP (e, n))) (by
                obtain ⟨p, hp, hq⟩ := hx
                rcases List.mem_cons.mp (show p ∈ (e, n) :: r.parts from hp) with h | h
                · rw [h] at hq; exact absurd hq g
                · exact ⟨p, h, hq⟩)
              refine ⟨ρ', ?_⟩
              rw [← h2]
              show forL _ _ (.tuple [enc e, .int n] :: encL r) _ = _
              rw [u_forL_c]
              simp [g]
        obtain ⟨ρ', l1⟩ := loop a none hx
        refine fnD_err (ρ := ρ') ?_
        unfold G_look
        simp [e1, n1, n2, l1]
theorem of_part_step {S : Nat → Fn} {c0 c1 c2 : Nat} (h0 : WpOk (S c0)) (h1 : RaiOk (S c1)) {e b : O} {n : Int} (nb : NF b) (bh : b.h ≤ 30) (n1 : 1 ≤ n) (h2 : S c2 [enc e, enc b] = .ok (enc (prodO e b))) :
    fnD 3 (G_of_part c0 c1 c2 S) [enc e, .int n, enc b] = .ok (enc (.c (prodO e b) (if wpO b = 0 then 1 else n) .z)) := by
  refine fnD_of ?_
  have e0 := h0 b nb bh
  have rz : ∀ m : Int, 1 ≤ m → rzO (prodO e b) m = .c (prodO e b) m .z := fun m hm => if_neg (by omega)
  unfold G_of_part
  by_cases c : wpO b = 0
  · rw [if_pos c]
    have e1 := h1.yes (prodO e b) 1 (by decide)
    rw [rz 1 (by decide)] at e1
    simp [e0, c, h2, e1]
  · rw [if_neg c]
    have e1 := h1.yes (prodO e b) n (by omega)
    rw [rz n n1] at e1
    simp [e0, c, h2, e1]
theorem to_limit_step {S : Nat → Fn} {c0 c1 c2 c3 k : Nat} (h0 : S c0 [.int 1] = .ok (enc oneO)) (h2 : MinOk k (S c2)) (hk : 2 ≤ k) (h3 : RaiOk (S c3)) {a L : O} (az : a ≠ .z) (ah : a.h ≤ 30) (nL : NF L) (Lh : L.h ≤ 30) (Ls : L.size ≤ 900) (Lz : ∀ p ∈ L.parts, p.1 ≠ .z) (h1 : S c1 [enc (hdE a), enc L] = .ok (enc (prodO (hdE a) L))) :
    fnD 6 (G_to_limit c0 c1 c2 c3 S) [enc a, enc L] = .ok (enc (toLim a L)) := by
  refine fnD_of ?_
  have g1 := gEq_nil (a := L) (by omega)
  unfold toLim
  by_cases lz : L = .z
  · rw [if_pos lz]
    rw [decide_eq_true lz] at g1
    unfold G_to_limit
    simp [g1, h0]
  · rw [if_neg lz]
    rw [decide_eq_false lz] at g1
    obtain ⟨e, n, r, hz⟩ : ∃ e n r, a = .c e n r := by
      cases a with
      | z => exact absurd rfl az
      | c e n r => exact ⟨e, n, r, rfl⟩
    have b0 : atI (encL a) 0 = some (encP (e, n)) := by rw [hz]; exact atI_zero _ _
    have he : hdE a = e := by rw [hz]; rfl
    rw [he] at h1 ⊢
    have eh := hd_h a ah
    rw [he] at eh
    have g2 := gNe_nil (a := e) (by omega)
    by_cases ez : e = .z
    · rw [decide_eq_true ez] at g2
      rw [if_neg (by simp [ez])]
      have r1 := h3.one (mapDec L)
      have ld := len_le_size L
      have lc : lcL (gtTup 2 (gtCons (gtName 4) (gtCons (gtName 5) gtNil))) tYesD (eTup (aCons (eFn (S c2) (aCons (eVar 4) (aCons (eVar 3) aNil))) (aCons (eVar 5) aNil))) [some (enc a), some (enc L), some (enc e), some (enc oneO), none, none] (encL L) = .ok (L.parts.map fun p => encP (minusO p.1 oneO, p.2)) := by
        refine lc_parts2 fun p hp => ?_
        have ph := part_mem_h hp
        have ps := size_part hp
        have pl := len_le_size p.1
        have m1 := (h2 p.1 oneO (by show max (0 + 1) 0 < k; omega) (by omega) (by show max (0 + 1) 0 ≤ 30; decide) (by omega) (by show 0 + 1 ≤ 100000; decide)).1 (one_le (((nf_parts L).mp nL).2 p hp).1 (Lz p hp))
        simp [m1]
      have em : enc (mapDec L) = .tuple (L.parts.map fun p => encP (minusO p.1 oneO, p.2)) := by
        show PyData.tuple (encL _) = _
        rw [encL_parts, mapDec_parts, List.map_map]; rfl
      rw [em] at r1
      have ll : L.parts.length < sizeLine := by rw [len_parts]; exact sz1000' (by omega)
      unfold G_to_limit
      simp [g1, b0, g2, h0, lc, r1, ll]
    · rw [decide_eq_false ez] at g2
      rw [if_pos ez]
      have r1 := h3.one (prodO e L)
      unfold G_to_limit
      simp [g1, b0, g2, h1, r1]
/-- where a power is not refused -/
def PowFit (a b : O) (W : Nat) : Prop := b = .z ∨ a = .z ∨ a = oneO ∨ (a.len = 1 ∧ hdE a ≠ .z) ∨ (wpO b ≤ W ∧ a.len ≤ 24 ∧ ∀ p ∈ a.parts, p.2 < E60)
def PowOk (F : Fn) : Prop := ∀ {La Ka Za Ca Ma Lb Kb Zb Cb Mb W : Nat} {a b : O}, Sz 7 La Ka Za Ca Ma a → Sz 7 Lb Kb Zb Cb Mb b → Zb ≤ 900 → PB La Ka Za Ca Ma Lb Kb Zb Cb Mb W → PowFit a b W → F [enc a, enc b] = .ok (enc (powO a b))
theorem power_step {S : Nat → Fn} {c0 c1 c2 c3 c4 c5 c6 : Nat} (h0 : S c0 [.int 1] = .ok (enc oneO))
    (h1 : ∀ {e b : O} {n : Int}, NF b → b.h ≤ 30 → 1 ≤ n → (∀ F : Fn, TimesG F → F [enc e, enc b] = .ok (enc (prodO e b))) → S c1 [enc e, .int n, enc b] = .ok (enc (.c (prodO e b) (if wpO b = 0 then 1 else n) .z)))
    (h2 : LookOk (S c2))
    (h3 : ∀ {a L : O}, a ≠ .z → a.h ≤ 30 → NF L → L.h ≤ 30 → L.size ≤ 900 → (∀ p ∈ L.parts, p.1 ≠ .z) → (∀ F : Fn, TimesG F → F [enc (hdE a), enc L] = .ok (enc (prodO (hdE a) L))) → S c3 [enc a, enc L] = .ok (enc (toLim a L)))
    (h4 : NoWOk (S c4)) (h5 : WpOk (S c5)) (h6 : TimesG (S c6)) : PowOk (fun ds => fnD 4 (G_power c0 c1 c2 c3 c4 c5 c6 S) ds) := by
  intro La Ka Za Ca Ma Lb Kb Zb Cb Mb W a b x y hzb B hf
  refine fnD_of ?_
  have ah := x.h
  have bh := y.h
  have g1 := gEq_nil (a := b) (by omega)
  unfold powO
  by_cases bz : b = .z
  · rw [decide_eq_true bz] at g1
    rw [if_pos bz]
    unfold G_power
    simp [g1, h0]
  rw [decide_eq_false bz] at g1
  rw [if_neg bz]
  have g2 := gEq_nil (a := a) (by omega)
  have g3 := gEq_enc (a := a) (b := oneO) (by omega) (by decide)
  by_cases az : a = .z
  · rw [decide_eq_true az] at g2
    rw [if_pos (Or.inl az)]
    unfold G_power
    simp [g1, g2]
  rw [decide_eq_false az] at g2
  by_cases a1 : a = oneO
  · rw [decide_eq_true a1] at g3
    rw [if_pos (Or.inr a1)]
    unfold G_power
    simp [g1, g2, h0, g3]
  rw [decide_eq_false a1] at g3
  rw [if_neg (fun h => h.elim az a1)]
  obtain ⟨e, n, r, hz⟩ : ∃ e n r, a = .c e n r := by
    cases a with
    | z => exact absurd rfl az
    | c e n r => exact ⟨e, n, r, rfl⟩
  have he : hdE a = e := by rw [hz]; rfl
  have hn : hdN a = n := by rw [hz]; rfl
  have b0 : atI (encL a) 0 = some (encP (e, n)) := by rw [hz]; exact atI_zero _ _
  have n1 := hdN_pos x.nf az
  rw [hn] at n1
  have hM : 0 < Ma := by have := B.c0; have := B.c4; omega
  have zh : Ka ≤ 1000000 := by have := B.z; omega
  have t1 := fun (F : Fn) (hF : TimesG F) => hF ((x.hd).bg (by decide)) (y.bg (by decide)) zh (by have := B.la; omega) B.l2 hM B.c2 B.c3
  have t2 := fun (F : Fn) (hF : TimesG F) => hF ((x.hd).bg (by decide)) (y.noW.bg (by decide)) zh (by have := B.la; omega) B.l2 hM B.c2 B.c3
  rw [he] at t1
  have g4 : gNe (enc e) (.tuple []) = some (.bool (!decide (e = .z))) := gNe_nil (by have := hd_h a ah; rw [he] at this; omega)
  by_cases s : a.len = 1 ∧ hdE a ≠ .z
  · rw [if_pos s]
    rw [he] at s ⊢
    rw [hn]
    rw [decide_eq_false s.2] at g4
    have p1 := h1 (n := n) y.nf (by omega) n1 t1
    have s1 := s.1
    unfold G_power
    simp [g1, g2, h0, g3, s1, b0, g4, p1]
  · rw [if_neg s]
    have hf2 : wpO b ≤ W ∧ a.len ≤ 24 ∧ ∀ p ∈ a.parts, p.2 < E60 := by
      rcases hf with h | h | h | h | h
      · exact absurd h bz
      · exact absurd h az
      · exact absurd h a1
      · exact absurd h s
      · exact h
    have w2 := B.w2
    have l1 := h2.yes a b y.nf (by omega) (by omega) (by omega) hf2.2.1 hf2.2.2
    have e4 := h4 b y.nf (by omega)
    have e5 := h5 b y.nf (by omega)
    have yn := y.noW
    have t3 := h3 (a := a) (L := noW b) az (by omega) yn.nf (by have := yn.h; omega) (by have := yn.s; omega) noW_exp t2
    have wn := wp_nonneg y.nf
    obtain ⟨w, hw⟩ := Int.eq_ofNat_of_zero_le wn
    have ok : okI (wpO b) = true := okI_small (by omega) (by omega)
    have x8 : Sz 8 La Ka Za Ca Ma a := x.up (by decide) (Nat.le_refl _) (Nat.le_refl _) (Nat.le_refl _) (Nat.le_refl _) (Nat.le_refl _)
    have tl := x.toLim y
    obtain ⟨ρ', r1, i, s3, rfl⟩ : ∃ ρ', forL (gtName 3) (sSet [] 2 (eFn (S c6) (aCons (eVar 2) (aCons (eVar 0) aNil)))) (rngD 0 w) [some (enc a), some (enc b), some (enc (toLim a (noW b))), none] = .nx ρ' ∧ ∃ i s3, ρ' = [some (enc a), some (enc b), some (enc (powN (toLim a (noW b)) a w)), s3] := by
      obtain ⟨ρ', r1, s3, h⟩ := forL_rng (n := w) (i := 3) (g := sSet [] 2 (eFn (S c6) (aCons (eVar 2) (aCons (eVar 0) aNil)))) (fun j ρ => ∃ s3, ρ = [some (enc a), some (enc b), some (enc (powN (toLim a (noW b)) a j)), s3]) [some (enc a), some (enc b), some (enc (toLim a (noW b))), none] ⟨_, rfl⟩ fun j hj ρ hi => by
        obtain ⟨s3, rfl⟩ := hi
        have pj := tl.powN x8 W j (by omega)
        have m1 : j * La ≤ W * La := Nat.mul_le_mul_right _ (by omega)
        have m4 : j * Ca ≤ W * Ca := Nat.mul_le_mul_right _ (by omega)
        have m3 : j * (Za + La * (Ka + Zb + Lb * Ka + W * Ka)) ≤ W * (Za + La * (Ka + Zb + Lb * Ka + W * Ka)) := Nat.mul_le_mul_right _ (by omega)
        have m5 : La * (1 + (1 + j * La)) ≤ La * (2 + W * La) := Nat.mul_le_mul_left _ (by omega)
        have bl := B.l
        have bz := B.z
        have bc := B.c1
        have t4 := h6 (pj.bg (by decide)) (x8.bg (by decide)) (by omega) (by have := B.la; omega) (by omega) (by omega) B.c0 (by omega)
        refine ⟨[some (enc a), some (enc b), some (enc (powN (toLim a (noW b)) a (j + 1))), some (.int (j : Nat))], Or.inl ?_, ⟨_, rfl⟩⟩
        simp [t4, powN]
      exact ⟨ρ', r1, 0, s3, h⟩
    have ew : (wpO b).toNat = w := by omega
    rw [ew]
    by_cases sl : a.len = 1
    · have ez : e = .z := by
        by_cases q : e = .z
        · exact q
        · exact absurd ⟨sl, by rw [he]; exact q⟩ s
      rw [decide_eq_true ez] at g4
      unfold G_power
      simp [g1, g2, h0, g3, sl, b0, g4, l1, e4, t3, e5, ok, ew, r1]
    · have sl' : ¬ (a.len : Int) = 1 := by omega
      unfold G_power
      simp [g1, g2, h0, g3, sl', l1, e4, t3, e5, ok, ew, r1]
end Nm
set_option Elab.async false
set_option linter.all false
set_option maxRecDepth 100000
set_option maxHeartbeats 4000000
namespace Nm
open PySem Pu O L2
/-! ### the shell of a law: so many cells at a time -/
theorem law_loop {ns : List Int} {g : Vars → Out} {i : Nat} {kI MI : Int} (k M : Nat) (I : Vars → Prop) (ek : kI = k) (eM : MI = M) (hk : 0 < k) (hM : M ≤ 1000) (hkM : k ≤ M) (ρ : Vars) (h0 : ρ.getD 0 none = some (.list (ns.map .int))) (hI : I ρ)
    (hg : ∀ (v : Int) (ρ : Vars), 0 ≤ v → I ρ → ∃ ρ', g (ρ.set i (some (.int v))) = .nx ρ' ∧ I ρ') :
    ∃ ρ', sFor [] (iRange3 (aCons (eC (.int 0)) (aCons (eCall gMax2 (aCons (eC (.int kI)) (aCons (eCall gMin2 (aCons (eC (.int MI)) (aCons (eCall gLen (aCons (eVar 0) aNil)) aNil))) aNil))) (aCons (eC (.int kI)) aNil)))) (gtName i) g ρ = .nx ρ' ∧ I ρ' := by
  subst ek eM
  obtain ⟨w, hw⟩ : ∃ w : Int, (if (ns.length : Int) < M then (ns.length : Int) else M) = w := ⟨_, rfl⟩
  obtain ⟨m, hm⟩ : ∃ m : Int, (if w > k then w else k) = m := ⟨_, rfl⟩
  have w0 : w ≤ 1000 := by rw [← hw]; split <;> omega
  have m0 : 0 ≤ m ∧ m ≤ 1000 := by rw [← hm]; split <;> omega
  have k0 : okI 0 = true := by decide
  have k1 : okI m = true := okI_small (by omega) (by omega)
  have k2 : okC k = true := by
    unfold okC
    rw [decide_eq_true (by omega), decide_eq_true (by omega)]; rfl
  obtain ⟨ρ', r1, r2⟩ := forL_inv (gt := gtName i) (g := g) (fun _ ρ => I ρ) (rngC 0 k (rngN 0 m k)) 0 ρ hI fun j d ρ hd hi => by
    rw [rngC_get] at hd
    by_cases q : j < rngN 0 m k
    · rw [if_pos q] at hd
      cases hd
      obtain ⟨ρ', e, h⟩ := hg (0 + (j : Nat) * (k : Int)) ρ (by have := Int.mul_nonneg (Int.natCast_nonneg j) (Int.natCast_nonneg k); omega) hi
      exact ⟨_, _, rfl, Or.inl e, h⟩
    · rw [if_neg q] at hd; cases hd
  have e1 : gMin2 [.int M, .int (ns.length : Nat)] = some (.int w) := by rw [← hw]; rfl
  have e2 : gMax2 [.int k, .int w] = some (.int m) := by rw [← hm]; rfl
  refine ⟨ρ', ?_, r2⟩
  rw [List.getD_eq_getElem?_getD] at h0
  simp [h0, e1, e2, k0, k1, k2, r1]
theorem cells_ok {S : Nat → Fn} {c : Nat} (h : CellOk (S c)) {ns : List Int} {ρ : Vars} {t q at' : Nat} {v : Int} (hv : 0 ≤ v) (h0 : ρ.getD 0 none = some (.list (ns.map .int))) (ha : ρ.getD at' none = some (.int v)) (q0 : q ≠ 0) (qa : q ≠ at') (ql : q < ρ.length) (n : Nat) (hn : n ≤ 1000) {nI : Int} (en : nI = n) :
    ∃ cs : List Int, cs.length = n ∧ sSetLc [] t (nLc (iRange (aCons (eC (.int nI)) aNil)) (gtName q) tYesD (eFn (S c) (aCons (eVar 0) (aCons (eOp gAdd (eVar at') (eVar q)) aNil))) [q]) ρ = .nx (ρ.set t (some (.list (cs.map .int)))) := by
  subst en
  have hj : ∀ j : Nat, ∃ w, S c [.list (ns.map .int), .int (v + (0 + (j : Nat)))] = .ok (.int w) := fun j => h ns (v + (0 + (j : Nat))) (by omega)
  refine ⟨(List.range n).map fun j => (hj j).choose, by simp, ?_⟩
  have lc := lc_gen (ps := List.range n) (E := fun j : Nat => PyData.int (0 + (j : Nat))) (ρ := ρ.set q none) (i := q) (tt := tYesD) (f := eFn (S c) (aCons (eVar 0) (aCons (eOp gAdd (eVar at') (eVar q)) aNil))) (P := fun _ => true) (F := fun j => PyData.int (hj j).choose) (fun _ _ => rfl) fun j _ _ => by
    have hc := (hj j).choose_spec
    generalize hw : (hj j).choose = w at hc ⊢
    have s1 : ((ρ.set q none).set q (some (PyData.int (0 + (j : Nat))))).getD q none = some (.int (0 + (j : Nat))) := by
      rw [List.set_set, List.getD_eq_getElem?_getD, List.getElem?_set_self ql]; rfl
    have s2 : ((ρ.set q none).set q (some (PyData.int (0 + (j : Nat))))).getD 0 none = some (.list (ns.map .int)) := by
      rw [List.set_set, getD_set_ne q0]; exact h0
    have s3 : ((ρ.set q none).set q (some (PyData.int (0 + (j : Nat))))).getD at' none = some (.int v) := by
      rw [List.set_set, getD_set_ne qa]; exact ha
    generalize (ρ.set q none).set q (some (PyData.int (0 + (j : Nat)))) = ρ2 at s1 s2 s3 ⊢
    simp only [u_eFn, u_aCons, u_eOp, u_eVar, s1, s2, s3, R.of_some, R.bind_ok, u_gAdd_i, u_aNil, hc]
  have f1 : (List.range n).filter (fun _ => true) = List.range n := List.filter_eq_self.mpr fun _ _ => rfl
  rw [f1] at lc
  have ok : okI n = true := okI_small (by omega) (by omega)
  have s1 : n < sizeLine := sz1000' (by omega)
  have e : rngD 0 n = (List.range n).map fun j : Nat => PyData.int (0 + (j : Nat)) := rfl
  have s2 : ((List.range n).map fun j => PyData.int (hj j).choose).length < sizeLine := by rw [List.length_map, List.length_range]; exact s1
  have e2 : ((List.range n).map fun j => (hj j).choose).map PyData.int = (List.range n).map fun j => PyData.int (hj j).choose := by rw [List.map_map]; rfl
  rw [e2]
  simp only [u_sSetLc, mask_nil, u_nLc, u_iRange, u_aCons, u_aNil, u_eC, R.bind_ok, ok, if_true, Int.toNat_natCast, e, u_wipe_c, u_wipe_n, lc, s2, R.run_ok]
end Nm
set_option Elab.async false
set_option linter.all false
set_option maxRecDepth 100000
set_option maxHeartbeats 4000000
namespace Nm
open PySem Pu O L2
/-! ### squares, limits -/
abbrev twoO : O := .c .z 2 .z
theorem nf_whole {n : Int} (h : 1 ≤ n) : NF (.c .z n .z) := nf_mk trivial h trivial (fun q hq => by cases hq)
theorem Sz.zero : Sz 0 0 0 0 0 0 .z := ⟨trivial, Nat.le_refl _, Nat.le_refl _, Nat.le_refl _, Nat.le_refl _, (fun p hp => by cases hp), by show (0 : Int) < 2 ^ 0; decide⟩
theorem Sz.whole {n : Int} {C M : Nat} (h : 1 ≤ n) (hc : n.natAbs < 2 ^ C) (hM : C ≤ M) : Sz 1 1 0 1 C M (.c .z n .z) :=
  (Sz.zero.up (Nat.le_refl _) (Nat.le_refl _) (Nat.le_refl _) (Nat.le_refl _) (Nat.le_refl _) (Nat.zero_le M)).w h hc hM
theorem TimesG.sz {F : Fn} (h : TimesG F) {H1 L1 K1 Z1 C1 M1 H2 L2 K2 Z2 C2 M2 : Nat} {a b : O} (x : Sz H1 L1 K1 Z1 C1 M1 a) (y : Sz H2 L2 K2 Z2 C2 M2 b)
    (q : (decide (H1 ≤ 8) && decide (H2 ≤ 8) && decide (Z1 ≤ 1000000) && decide (Z2 ≤ 1000000) && decide (L2 * (1 + L1) ≤ 5000000) && decide (0 < C1) && decide (0 < C2) && decide (C1 + C2 ≤ 100000)) = true) : F [enc a, enc b] = .ok (enc (prodO a b)) := by
  simp only [Bool.and_eq_true, decide_eq_true_eq] at q
  obtain ⟨⟨⟨⟨⟨⟨⟨q1, q2⟩, q3⟩, q4⟩, q5⟩, q6⟩, q7⟩, q8⟩ := q
  exact h (x.bg q1) (y.bg q2) q3 q4 q5 q6 q7 q8
theorem PlusOk.sz {F : Fn} {k : Nat} (h : PlusOk k F) {H1 L1 K1 Z1 C1 M1 H2 L2 K2 Z2 C2 M2 : Nat} {a b : O} (x : Sz H1 L1 K1 Z1 C1 M1 a) (y : Sz H2 L2 K2 Z2 C2 M2 b) (hk : 31 ≤ k)
    (q : (decide (H1 ≤ 30) && decide (H2 ≤ 30) && decide (L1 ≤ 1000000) && decide (L2 ≤ 1000000)) = true) : F [enc a, enc b] = .ok (enc (plusO a b)) := by
  simp only [Bool.and_eq_true, decide_eq_true_eq] at q
  have := x.h; have := y.h; have := x.ll; have := y.ll
  exact h a b x.nf (by omega) (by omega) (by omega) (by omega) (by omega)
theorem Sz.plus {H L1 K1 Z1 C1 M1 L2 K2 Z2 C2 M2 : Nat} {a b : O} (x : Sz H L1 K1 Z1 C1 M1 a) (y : Sz H L2 K2 Z2 C2 M2 b) : Sz H (L1 + L2) (K1 + K2) (Z1 + Z2) (C1 + C2 + 1) (M1 + M2 + 1) (plusO a b) where
  nf := plusO_nf x.nf y.nf
  h := plusO_h x.h y.h
  ll := by have := plusO_len (a := a) (b := b); have := x.ll; have := y.ll; omega
  k := by
    have hx := x.k
    have hy := y.k
    cases b with
    | z => show (hdE a).size ≤ _; omega
    | c f m s =>
      cases a with
      | z => rw [plus_z]; omega
      | c e n r =>
        replace hx : e.size ≤ K1 := hx
        replace hy : f.size ≤ K2 := hy
        rcases cmp_tri e f with h | h | h
        · rw [plus_lt x.nf h]; show f.size ≤ _; omega
        · subst h; rw [plus_eq x.nf]; show e.size ≤ _; omega
        · rw [plus_gt h]; show e.size ≤ _; omega
  s := by have := plus_size a b; have := x.s; have := y.s; omega
  cs := by
    have up1 : (2 : Nat) ^ C1 ≤ 2 ^ (C1 + C2) := Nat.pow_le_pow_right (by decide) (by omega)
    have up2 : (2 : Nat) ^ C2 ≤ 2 ^ (C1 + C2) := Nat.pow_le_pow_right (by decide) (by omega)
    have e2 : (2 : Nat) ^ (C1 + C2 + 1) = 2 ^ (C1 + C2) * 2 := Nat.pow_succ 2 (C1 + C2)
    cases b with
    | z => intro p hp; have := x.cs p hp; omega
    | c e n r =>
      intro p hp
      rw [show plusO a (.c e n r) = of (above a e ++ (e, sameN a e + n) :: r.parts) from rfl, parts_of] at hp
      rcases List.mem_append.mp hp with h | h
      · have := x.cs p (List.mem_filter.mp h).1; omega
      · rcases List.mem_cons.mp h with h | h
        · have h1 := y.cs (e, n) (by show _ ∈ (e, n) :: r.parts; simp)
          replace h1 : n.natAbs < 2 ^ C2 := h1
          have h2 : (sameN a e).natAbs < 2 ^ C1 := by
            have q := x.cs
            have pw := (nf_parts a).mp x.nf
            have : sameN a e = 0 ∨ ∃ p ∈ a.parts, sameN a e = p.2 := by
              have key : ∀ a : O, NF a → sameN a e = 0 ∨ ∃ p ∈ a.parts, sameN a e = p.2 := by
                intro a
                induction a with
                | z => intro _; exact Or.inl rfl
                | c f m s _ ih =>
                  intro na
                  rw [co_c]
                  by_cases fe : f = e
                  · rw [if_pos fe, co_tail na (Or.inr fe.symm)]
                    exact Or.inr ⟨(f, m), by show _ ∈ (f, m) :: s.parts; simp, by show m + 0 = m; omega⟩
                  · rw [if_neg fe, Int.zero_add]
                    rcases ih (nf_tail na).1 with h | ⟨p, hp, h⟩
                    · exact Or.inl h
                    · exact Or.inr ⟨p, by show p ∈ (f, m) :: s.parts; simp [hp], h⟩
              exact key a x.nf
            rcases this with h | ⟨p, hp, h⟩
            · rw [h]; exact Nat.two_pow_pos C1
            · rw [h]; exact q p hp
          rw [h]
          show (sameN a e + n).natAbs < _
          omega
        · have := y.cs p (by show p ∈ (e, n) :: r.parts; simp [h]); omega
  m := by
    have h := plus_mx x.nf y.nf
    have h1 := x.m
    have h2 := y.m
    have p1 : (1 : Int) ≤ 2 ^ M1 := by exact_mod_cast Nat.one_le_two_pow
    have p2 : (1 : Int) ≤ 2 ^ M2 := by exact_mod_cast Nat.one_le_two_pow
    have e1 : (2 : Int) ^ (M1 + M2 + 1) = 2 ^ M1 * 2 ^ M2 * 2 := by rw [Int.pow_add, Int.pow_add]; rfl
    have q1 : (2 : Int) ^ M1 * 1 ≤ 2 ^ M1 * 2 ^ M2 := Int.mul_le_mul_of_nonneg_left p2 (by omega)
    have q2 : 1 * (2 : Int) ^ M2 ≤ 2 ^ M1 * 2 ^ M2 := Int.mul_le_mul_of_nonneg_right p1 (by omega)
    rw [e1]
    generalize (2 : Int) ^ M1 * 2 ^ M2 = t at *
    omega
theorem pow_two {a : O} (na : NF a) : powO a twoO = prodO a a := by
  have one2 : twoO ≠ .z := fun z => O.noConfusion z
  unfold powO
  rw [if_neg one2]
  by_cases h : a = .z ∨ a = oneO
  · rw [if_pos h]
    rcases h with h | h
    · rw [h]; rfl
    · rw [h]; rfl
  · rw [if_neg h]
    have w : wpO twoO = 2 := rfl
    by_cases s : a.len = 1 ∧ hdE a ≠ .z
    · rw [if_pos s]
      cases a with
      | z => exact absurd (Or.inl rfl) h
      | c e n r =>
        obtain ⟨s1, s2⟩ := s
        replace s2 : e ≠ .z := s2
        have rz : r = .z := by
          cases r with
          | z => rfl
          | c f m t => have : (O.c e n (O.c f m t)).len = t.len + 1 + 1 := rfl; omega
        subst rz
        rw [if_neg (by rw [w]; decide), prod_nz s2, prod_bz]
        have d : prodO e twoO = plusO e e := by
          have : twoO = plusO oneO oneO := by decide
          rw [this]
          cases e with
          | z => exact absurd rfl s2
          | c f m t => rw [prod_dist (nf_tail na).2.1 oneO oneO nf_one nf_one, prod_one]
        show O.c (prodO e twoO) n .z = _
        rw [d]
    · rw [if_neg s]
      have n0 : noW twoO = .z := rfl
      rw [n0, w]
      show prodO (prodO oneO a) a = prodO a a
      rw [one_prod a na]
def Lim (x : O) : Prop := ∀ p ∈ x.parts, p.1 ≠ .z
theorem lim_prod {e e' r r' : O} {n n' : Int} (he : e = e') : ∀ {x : O}, Lim x → prodO (.c e n r) x = prodO (.c e' n' r') x
  | .z, _ => by rw [prod_bz, prod_bz]
  | .c f m s, h => by
    have fz : f ≠ .z := h (f, m) (by show _ ∈ (f, m) :: s.parts; simp)
    have hs : Lim s := fun p hp => h p (by show p ∈ (f, m) :: s.parts; simp [hp])
    rw [prod_nz fz, prod_nz fz, lim_prod he hs, he]
theorem whole_lim {m : Int} : ∀ {x : O}, Lim x → prodO (.c .z m .z) x = x
  | .z, _ => prod_bz
  | .c f k s, h => by
    have fz : f ≠ .z := h (f, k) (by show _ ∈ (f, k) :: s.parts; simp)
    have hs : Lim s := fun p hp => h p (by show p ∈ (f, k) :: s.parts; simp [hp])
    rw [prod_nz fz, whole_lim hs, plus_z]
theorem prod_inj {e r b d : O} {n : Int} (ha : NF (.c e n r)) (hb : NF b) (hd : NF d) (h : prodO (.c e n r) b = prodO (.c e n r) d) : b = d := by
  have := prod_cmp ha hb hd
  rw [h, cmp_self] at this
  exact (cmp_eq b d).mp this.symm
theorem lim_wp {x : O} (h : Lim x) : wpO x = 0 ∧ noW x = x := by
  induction x with
  | z => exact ⟨rfl, rfl⟩
  | c f m s _ ih =>
    have fz : f ≠ .z := h (f, m) (by show _ ∈ (f, m) :: s.parts; simp)
    have hs := ih fun p hp => h p (by show p ∈ (f, m) :: s.parts; simp [hp])
    rw [wp_c fz, noW_c fz, hs.1, hs.2]; exact ⟨rfl, rfl⟩
theorem pow_whole {m : Int} {x : O} (m2 : 2 ≤ m) (h : Lim x) (xz : x ≠ .z) : powO (.c .z m .z) x = .c (mapDec x) 1 .z := by
  have w := lim_wp h
  unfold powO
  rw [if_neg xz, if_neg (by
    rintro (z | z)
    · exact O.noConfusion z
    · have := (O.c.inj z).2.1; omega), if_neg (fun s => s.2 rfl), w.1, w.2]
  show toLim (.c .z m .z) x = _
  unfold toLim
  rw [if_neg xz, if_neg (fun s => s rfl)]
/-! a drawn limit, by one cell -/
def Lim1Ok (F : Fn) : Prop := ∀ v : Int, ∃ a, F [.int v] = .ok (enc a) ∧ Sz 4 3 256 256 67 67 a ∧ Lim a ∧ a ≠ .z
theorem l_limit1_step {S : Nat → Fn} {c0 c1 k : Nat} (hk : 4 ≤ k) (h0 : DrawnOk k (S c0)) (h1 : MixOk (S c1)) : Lim1Ok (fun ds => fnD 3 (G_l_limit_by c0 c1 S) ds) := by
  intro v
  have m4 : ∀ i : Int, cMod i 4 = true ∧ cMod i 100000000000000000000 = true := fun i => ⟨cMod_of (by decide), cMod_of (by decide)⟩
  have e20 : gPow (.int 10) (.int 20) = some (.int 100000000000000000000) := by
    show (if cPow 10 20 = true then some (PyData.int (10 ^ (20 : Int).toNat)) else none) = _
    rw [if_pos (by decide +kernel)]; rfl
  obtain ⟨r, er, r0, r1⟩ := h1 v 9 (by decide) (by decide)
  obtain ⟨l, hl⟩ := Int.eq_ofNat_of_zero_le (show 0 ≤ r % 4 by omega)
  obtain ⟨a, ea, da⟩ := h0 v l (by omega) (by omega)
  rw [← hl] at ea
  have l3 : l ≤ 3 := by omega
  have h4 : 4 ^ (l + 1) ≤ 4 ^ 4 := Nat.pow_le_pow_right (by decide) (by omega)
  have h5 : (4 : Nat) ^ 4 = 256 := by decide
  have sa : Sz 4 3 256 256 67 67 a := (Sz.of_dr da).up (by omega) (Nat.le_refl _) (by omega) (by omega) (by decide) (by decide)
  have ul := above_len a .z
  have al := sa.ll
  have ah := sa.h
  have s1 : (above a .z).length < sizeLine := sz1000' (by omega)
  have lc : ∀ x : Option PyData, lcL (gtName 2) (tOf (eOp gNe (eOp gIx (eVar 2) (eC (.int 0))) (eTup aNil))) (eVar 2) [some (.int v), x, none] (encL a) = .ok ((above a .z).map encP) := fun x => lc_nz (by omega) (fun x => rfl)
  have ew := above_noW sa.nf
  have ep : enc (noW a) = .tuple ((above a .z).map encP) := by
    show PyData.tuple (encL _) = _
    rw [encL_parts, ew]
  have n1 := gNe_nil (a := noW a) (by have := sa.noW.h; omega)
  by_cases az : noW a = .z
  · rw [decide_eq_true az, ep] at n1
    obtain ⟨w, hw⟩ : ∃ w : Int, v % 100000000000000000000 = w := ⟨_, rfl⟩
    have w0 : 0 ≤ w ∧ w < 100000000000000000000 := by omega
    have h1 : Sz 1 1 0 1 67 67 (.c .z (1 + w) .z) := Sz.whole (by omega) (by omega) (by decide)
    refine ⟨.c (.c .z (1 + w) .z) 1 .z, fnD_of ?_, (h1.w (n := 1) (c := 1) (by decide) (by decide) (by decide)).up (by decide) (by decide) (by decide) (by decide) (by decide) (by decide), fun p hp => ?_, fun z => O.noConfusion z⟩
    · have ey : enc (.c (.c .z (1 + w) .z) 1 .z) = .tuple [.tuple [.tuple [.tuple [.tuple [], .int (1 + w)]], .int 1]] := rfl
      rw [ey]
      unfold G_l_limit_by
      simp [er, m4, ea, lc, s1, n1, e20, hw]
    · rcases List.mem_cons.mp (show p ∈ (O.c .z (1 + w) .z, (1 : Int)) :: [] from hp) with h | h
      · rw [h]; exact fun z => O.noConfusion z
      · cases h
  · rw [decide_eq_false az, ep] at n1
    refine ⟨noW a, fnD_of ?_, sa.noW, fun p hp => noW_exp p hp, az⟩
    rw [ep]
    unfold G_l_limit_by
    simp [er, m4, ea, lc, s1, n1]
end Nm
set_option Elab.async false
set_option linter.all false
set_option maxRecDepth 100000
set_option maxHeartbeats 4000000
namespace Nm
open PySem Pu O L2
/-! ### what a number is worth by a base -/
def val (b : Nat) : O → Nat
  | .z => 0
  | .c e n r => n.toNat * b ^ val b e + val b r
/-- each times below the base -/
def Fit (b : Nat) : O → Prop
  | .z => True
  | .c e n r => Fit b e ∧ n < b ∧ Fit b r
theorem fit_exp {b : Nat} : ∀ {a : O}, Fit b a → ∀ p ∈ a.parts, Fit b p.1 ∧ p.2 < b
  | .c e n r, h, p, hp => by
    rcases List.mem_cons.mp (show p ∈ (e, n) :: r.parts from hp) with q | q
    · subst q; exact ⟨h.1, h.2.1⟩
    · exact fit_exp h.2.2 p q
theorem one_pow_le {b : Nat} (hb : 2 ≤ b) (v : Nat) : v < b ^ v := Nat.lt_of_lt_of_le Nat.lt_two_pow_self (Nat.pow_le_pow_left hb v)
theorem val_bound {b : Nat} (hb : 2 ≤ b) {N : Nat} (ih : ∀ x y : O, NF x → NF y → Fit b x → Fit b y → x.size + y.size ≤ N → cmp x y = -1 → val b x < val b y) : ∀ (r e : O) (n : Int), NF (.c e n r) → Fit b (.c e n r) → e.size + r.size ≤ N → val b (.c e n r) < b ^ (val b e + 1)
  | .z, e, n, nf, ft, h => by
    show n.toNat * b ^ val b e + 0 < _
    have h1 : n.toNat < b := by have := ft.2.1; omega
    rw [Nat.pow_succ, Nat.add_zero, Nat.mul_comm]
    exact Nat.mul_lt_mul_of_pos_left h1 (Nat.pow_pos (by omega))
  | .c f m s, e, n, nf, ft, h => by
    obtain ⟨nr, ne, n1, lt⟩ := nf_tail nf
    have nfs := nf_tail nr
    have hs : (O.c f m s).size = 1 + f.size + s.size := rfl
    have h1 := val_bound hb ih s f m nr ft.2.2 (by omega)
    have h2 : val b f < val b e := ih f e nfs.2.1 ne ft.2.2.1 ft.1 (by omega) (by
      have := lt (f, m) (by show _ ∈ (f, m) :: s.parts; simp)
      rw [cmp_neg, this])
    have h3 : b ^ (val b f + 1) ≤ b ^ val b e := Nat.pow_le_pow_right (by omega) h2
    have h4 : n.toNat + 1 ≤ b := by have := ft.2.1; omega
    have h5 : (n.toNat + 1) * b ^ val b e ≤ b * b ^ val b e := Nat.mul_le_mul_right _ h4
    show n.toNat * b ^ val b e + val b (.c f m s) < _
    rw [Nat.pow_succ, Nat.mul_comm (b ^ val b e) b]
    rw [Nat.add_mul, Nat.one_mul] at h5
    omega
theorem val_ge {b : Nat} {e r : O} {n : Int} (h : 1 ≤ n) : b ^ val b e ≤ val b (.c e n r) := by
  show _ ≤ n.toNat * b ^ val b e + val b r
  have : 1 * b ^ val b e ≤ n.toNat * b ^ val b e := Nat.mul_le_mul_right _ (by omega)
  omega
theorem val_lt0 {b : Nat} (hb : 2 ≤ b) : ∀ (N : Nat) (x y : O), NF x → NF y → Fit b x → Fit b y → x.size + y.size ≤ N → cmp x y = -1 → val b x < val b y
  | 0, .z, .z, _, _, _, _, _, h => by cases h
  | 0, .c e n r, y, _, _, _, _, h, _ => by have : (O.c e n r).size = 1 + e.size + r.size := rfl; omega
  | 0, .z, .c e n r, _, _, _, _, h, _ => by have : (O.c e n r).size = 1 + e.size + r.size := rfl; omega
  | N + 1, .z, .z, _, _, _, _, _, h => by cases h
  | N + 1, .z, .c e n r, _, ny, _, _, _, _ => Nat.lt_of_lt_of_le (Nat.pow_pos (by omega)) (val_ge (nf_tail ny).2.2.1)
  | N + 1, .c e n r, .z, _, _, _, _, _, h => by rw [cmp_cz] at h; cases h
  | N + 1, .c e n r, .c e' n' r', nx, ny, fx, fy, hs, h => by
    have s1 : (O.c e n r).size = 1 + e.size + r.size := rfl
    have s2 : (O.c e' n' r').size = 1 + e'.size + r'.size := rfl
    obtain ⟨nr, ne, n1, l1⟩ := nf_tail nx
    obtain ⟨nr', ne', n1', l1'⟩ := nf_tail ny
    rcases cmp_c.mp h with q | ⟨q, q2⟩
    · have h1 := val_lt0 hb N e e' ne ne' fx.1 fy.1 (by omega) q
      have h2 := val_bound hb (val_lt0 hb N) r e n nx fx (by omega)
      have h3 : b ^ (val b e + 1) ≤ b ^ val b e' := Nat.pow_le_pow_right (by omega) h1
      have h4 := val_ge (b := b) (e := e') (r := r') n1'
      omega
    · subst q
      rcases q2 with q2 | ⟨q2, q3⟩
      · have hr : val b r < b ^ val b e := by
          cases r with
          | z => exact Nat.pow_pos (by omega)
          | c f m s =>
            have nfs := nf_tail nr
            have s3 : (O.c f m s).size = 1 + f.size + s.size := rfl
            have h2 := val_bound hb (val_lt0 hb N) s f m nr fx.2.2 (by omega)
            have h1 := val_lt0 hb N f e nfs.2.1 ne fx.2.2.1 fx.1 (by omega) (by
              have := l1 (f, m) (by show _ ∈ (f, m) :: s.parts; simp)
              rw [cmp_neg, this])
            have h3 : b ^ (val b f + 1) ≤ b ^ val b e := Nat.pow_le_pow_right (by omega) h1
            omega
        show n.toNat * b ^ val b e + val b r < n'.toNat * b ^ val b e + val b r'
        have h5 : (n.toNat + 1) * b ^ val b e ≤ n'.toNat * b ^ val b e := Nat.mul_le_mul_right _ (by omega)
        rw [Nat.add_mul, Nat.one_mul] at h5
        omega
      · subst q2
        have := val_lt0 hb N r r' nr nr' fx.2.2 fy.2.2 (by omega) q3
        show n.toNat * b ^ val b e + val b r < n.toNat * b ^ val b e + val b r'
        omega
theorem val_lt {b : Nat} (hb : 2 ≤ b) {x y : O} (nx : NF x) (ny : NF y) (fx : Fit b x) (fy : Fit b y) (h : cmp x y = -1) : val b x < val b y := val_lt0 hb _ x y nx ny fx fy (Nat.le_refl _) h
theorem val_cmp {b : Nat} (hb : 2 ≤ b) {x y : O} (nx : NF x) (ny : NF y) (fx : Fit b x) (fy : Fit b y) : cmp x y = (if val b x > val b y then 1 else 0) - (if val b x < val b y then 1 else 0) := by
  rcases cmp_range x y with h | h | h
  · have := val_lt hb nx ny fx fy h
    rw [h, if_neg (by omega), if_pos this]; rfl
  · have := (cmp_eq x y).mp h
    subst this; rw [h, if_neg (Nat.lt_irrefl _)]; rfl
  · have := val_lt hb ny nx fy fx (by rw [cmp_neg, h])
    rw [h, if_pos (by omega), if_neg (by omega)]; rfl
theorem val_gt {b : Nat} (hb : 2 ≤ b) {x y : O} (nx : NF x) (ny : NF y) (fx : Fit b x) (fy : Fit b y) (h : val b y < val b x) : cmp x y = 1 := by
  rw [val_cmp hb nx ny fx fy, if_pos h, if_neg (by omega)]; rfl
theorem val_inj {b : Nat} (hb : 2 ≤ b) {x y : O} (nx : NF x) (ny : NF y) (fx : Fit b x) (fy : Fit b y) (h : val b x = val b y) : x = y :=
  (cmp_eq x y).mp (by rw [val_cmp hb nx ny fx fy, if_neg (by omega), if_neg (by omega)]; rfl)
/-- all parts below -/
theorem val_top {b : Nat} (hb : 2 ≤ b) {a : O} (na : NF a) (fa : Fit b a) {p : Nat} (h : ∀ q ∈ a.parts, val b q.1 < p) : val b a < b ^ p := by
  cases a with
  | z => exact Nat.pow_pos (by omega)
  | c e n r =>
    have h1 := val_bound hb (N := e.size + r.size) (fun x y nx ny fx fy _ c => val_lt hb nx ny fx fy c) r e n na fa (Nat.le_refl _)
    have h2 := h (e, n) (by show _ ∈ (e, n) :: r.parts; simp)
    exact Nat.lt_of_lt_of_le h1 (Nat.pow_le_pow_right (by omega) h2)
theorem val_exp {b : Nat} (hb : 2 ≤ b) {e r : O} {n : Int} (h : NF (.c e n r)) : val b e < val b (.c e n r) := Nat.lt_of_lt_of_le (one_pow_le hb _) (val_ge (nf_tail h).2.2.1)
end Nm
set_option Elab.async false
set_option linter.all false
set_option maxRecDepth 100000
set_option maxHeartbeats 4000000
namespace Nm
open PySem Pu O L2
/-! ### a whole number written by a base -/
def TT : Nat → Nat
  | 0 => 0
  | k + 1 => 2 ^ TT k
def SS : Nat → Nat
  | 0 => 0
  | k + 1 => TT k * (1 + SS k)
structure Wr (b m t k : Nat) (a : O) : Prop where
  nf : NF a
  f : Fit b a
  v : val b a = m
  h : a.h ≤ k
  l : a.len ≤ t
  s : a.size ≤ t * (1 + SS k)
def WrOk (k : Nat) (F : Fn) : Prop := ∀ b m t : Nat, 2 ≤ b → b < 2 ^ 8000 → m < b ^ t → t ≤ TT k → t ≤ 65536 → ∃ a, F [.int (m : Nat), .int (b : Nat)] = .ok (enc a) ∧ Wr b m t k a
/-- on the way -/
structure Wi (b m0 mc place k : Nat) (a : O) : Prop where
  nf : NF a
  f : Fit b a
  v : val b a + mc * b ^ place = m0
  e : ∀ p ∈ a.parts, val b p.1 < place
  h : a.h ≤ k
  l : a.len ≤ place
  s : a.size ≤ place * (1 + SS k)
theorem Wi.zero {b m0 k : Nat} : Wi b m0 m0 0 k .z := ⟨trivial, trivial, (by show 0 + m0 * b ^ 0 = m0; rw [Nat.pow_zero, Nat.mul_one, Nat.zero_add]), (fun p hp => by cases hp), Nat.zero_le _, Nat.le_refl _, Nat.zero_le _⟩
theorem Wi.stay {b m0 mc place k : Nat} {a : O} (w : Wi b m0 mc place k a) (hf : mc % b = 0) : Wi b m0 (mc / b) (place + 1) k a := by
  have e1 := Nat.mod_add_div mc b
  rw [hf, Nat.zero_add] at e1
  refine ⟨w.nf, w.f, ?_, fun p hp => Nat.lt_succ_of_lt (w.e p hp), w.h, Nat.le_succ_of_le w.l, ?_⟩
  · rw [← w.v, Nat.pow_succ]
    conv => rhs; rw [← e1]
    rw [Nat.mul_comm (b ^ place) b, ← Nat.mul_assoc, Nat.mul_comm (mc / b) b]
  · have := w.s
    rw [Nat.add_mul, Nat.one_mul]
    omega
theorem Wi.add {b m0 mc place k : Nat} {a e : O} (hb : 2 ≤ b) (w : Wi b m0 mc place (k + 1) a) (hf : 0 < mc % b) (x : Wr b place (TT k) k e) : Wi b m0 (mc / b) (place + 1) (k + 1) (.c e ((mc % b : Nat) : Int) a) := by
  have e1 := Nat.mod_add_div mc b
  have lt : mc % b < b := Nat.mod_lt _ (by omega)
  refine ⟨nf_mk x.nf (by omega) w.nf (fun q hq => val_gt hb x.nf (((nf_parts a).mp w.nf).2 q hq).1 x.f (fit_exp w.f q hq).1 (by rw [x.v]; exact w.e q hq)), ⟨x.f, by omega, w.f⟩, ?_, ?_, ?_, ?_, ?_⟩
  · show (mc % b) * b ^ val b e + val b a + _ = _
    rw [x.v, ← w.v]
    conv => rhs; rw [← e1]
    rw [Nat.pow_succ, Nat.add_mul, Nat.mul_comm (b ^ place) b, ← Nat.mul_assoc, Nat.mul_comm (mc / b) b]
    omega
  · intro p hp
    rcases List.mem_cons.mp (show p ∈ (e, ((mc % b : Nat) : Int)) :: a.parts from hp) with q | q
    · subst q; show val b e < _; rw [x.v]; omega
    · exact Nat.lt_succ_of_lt (w.e p q)
  · have h1 := x.h
    have h2 := w.h
    show max (e.h + 1) a.h ≤ _
    omega
  · show a.len + 1 ≤ _; have := w.l; omega
  · have h1 := x.s
    have h2 := w.s
    show 1 + e.size + a.size ≤ _
    rw [Nat.add_mul, Nat.one_mul]
    have h3 : SS (k + 1) = TT k * (1 + SS k) := rfl
    omega
abbrev wrT : Vars → R Bool := tOf (eOp gGt (eVar 0) (eC (.int 0)))
abbrev wrB (F : Fn) : Vars → Out := sSeq (sAsg [2] (gtTup 2 (gtCons (gtName 0) (gtCons (gtName 4) gtNil))) (eCall gDivmodW (aCons (eVar 0) (aCons (eVar 1) aNil)))) (sSeq (sIf (tOf (eOp gGt (eVar 4) (eC (.int 0)))) (sAppM [2] 2 (eTup (aCons (eFn F (aCons (eVar 3) (aCons (eVar 1) aNil))) (aCons (eVar 4) aNil)))) sNil) (sAug [2] 3 gAddI (eC (.int 1))))
theorem wr_loop {F : Fn} {k : Nat} (hF : WrOk k F) (hk : TT k ≤ 65536) {b m0 t : Nat} (hb : 2 ≤ b) (hb2 : b < 2 ^ 8000) (ht : t ≤ TT (k + 1)) (ht2 : t ≤ 65536) : ∀ (d f mc place : Nat) (a : O) (x4 : Option PyData), place + d = t → mc < b ^ d → d + 1 ≤ f → Wi b m0 mc place (k + 1) a →
    ∃ a' x3 x4', whileL wrT (wrB F) f [some (.int (mc : Nat)), some (.int (b : Nat)), some (.list (a.parts.reverse.map encP)), some (.int (place : Nat)), x4] = .nx [some (.int (0 : Nat)), some (.int (b : Nat)), some (.list (a'.parts.reverse.map encP)), x3, x4'] ∧ Wr b m0 t (k + 1) a' := by
  intro d f
  induction f generalizing d with
  | zero => intro mc place a x4 h1 h2 h3; omega
  | succ f ih =>
    intro mc place a x4 h1 h2 h3 w
    by_cases z : mc = 0
    · subst z
      have tt : wrT [some (.int ((0 : Nat) : Int)), some (.int (b : Nat)), some (.list (a.parts.reverse.map encP)), some (.int (place : Nat)), x4] = .ok false := by simp
      refine ⟨a, _, _, whileL_f tt, w.nf, w.f, by have := w.v; rw [Nat.zero_mul] at this; exact this, w.h, by have := w.l; omega, Nat.le_trans w.s (Nat.mul_le_mul_right _ (by omega))⟩
    · obtain ⟨d', rfl⟩ : ∃ d', d = d' + 1 := by
        cases d with
        | zero => rw [Nat.pow_zero] at h2; omega
        | succ d => exact ⟨d, rfl⟩
      have tt : wrT [some (.int (mc : Nat)), some (.int (b : Nat)), some (.list (a.parts.reverse.map encP)), some (.int (place : Nat)), x4] = .ok true := by
        have : 0 < mc := by omega
        simp [this]
      have cd : cDiv (mc : Nat) (b : Nat) = true := cDiv_of 8000 (by omega) (by simpa using hb2) (by decide) (by decide)
      have q1 : ((mc : Nat) : Int) / ((b : Nat) : Int) = ((mc / b : Nat) : Int) := by omega
      have q2 : ((mc : Nat) : Int) % ((b : Nat) : Int) = ((mc % b : Nat) : Int) := by omega
      have dm : gDivmodW [.int (mc : Nat), .int (b : Nat)] = some (.tuple [.int ((mc / b : Nat) : Int), .int ((mc % b : Nat) : Int)]) := by
        show (if cDiv (mc : Nat) (b : Nat) = true then _ else _) = _
        rw [if_pos cd, q1, q2]
      have lt2 : mc / b < b ^ d' := by
        rw [Nat.pow_succ, Nat.mul_comm] at h2
        exact Nat.div_lt_of_lt_mul h2
      have sp : ((place : Nat) : Int) + 1 = ((place + 1 : Nat) : Int) := by omega
      by_cases fz : mc % b = 0
      · have bd : wrB F [some (.int (mc : Nat)), some (.int (b : Nat)), some (.list (a.parts.reverse.map encP)), some (.int (place : Nat)), x4] = .nx [some (.int ((mc / b : Nat) : Int)), some (.int (b : Nat)), some (.list (a.parts.reverse.map encP)), some (.int ((place + 1 : Nat) : Int)), some (.int ((mc % b : Nat) : Int))] := by
          have fz' : ¬ (0 : Int) < ((mc % b : Nat) : Int) := by omega
          generalize hw : ((mc % b : Nat) : Int) = w at *
          generalize ((mc / b : Nat) : Int) = w2 at *
          simp [dm, fz', gAddI]
        rw [whileL_t tt bd]
        exact ih d' _ (place + 1) a _ (by omega) lt2 (by omega) (w.stay fz)
      · obtain ⟨e, he, we⟩ := hF b place (TT k) hb hb2 (by have h1 : TT (k + 1) = 2 ^ TT k := rfl; have h2 : 2 ^ TT k ≤ b ^ TT k := Nat.pow_le_pow_left hb _; omega) (Nat.le_refl _) hk
        have bd : wrB F [some (.int (mc : Nat)), some (.int (b : Nat)), some (.list (a.parts.reverse.map encP)), some (.int (place : Nat)), x4] = .nx [some (.int ((mc / b : Nat) : Int)), some (.int (b : Nat)), some (.list ((O.c e ((mc % b : Nat) : Int) a).parts.reverse.map encP)), some (.int ((place + 1 : Nat) : Int)), some (.int ((mc % b : Nat) : Int))] := by
          have fz' : (0 : Int) < ((mc % b : Nat) : Int) := by omega
          have ep : (O.c e ((mc % b : Nat) : Int) a).parts.reverse.map encP = a.parts.reverse.map encP ++ [.tuple [enc e, .int ((mc % b : Nat) : Int)]] := by
            show (List.reverse ((e, ((mc % b : Nat) : Int)) :: a.parts)).map encP = _
            rw [List.reverse_cons, List.map_append]; rfl
          rw [ep]
          have sl : (a.parts.reverse.map encP).length < sizeLine := sz1000' (by rw [List.length_map, List.length_reverse, len_parts]; have := w.l; omega)
          generalize a.parts.reverse.map encP = ws at *
          generalize hw : ((mc % b : Nat) : Int) = w at *
          generalize ((mc / b : Nat) : Int) = w2 at *
          simp [dm, fz', gAddI, he, sl]
        rw [whileL_t tt bd]
        exact ih d' _ (place + 1) _ _ (by omega) lt2 (by omega) (w.add hb (by omega) we)
theorem written_zero {S : Nat → Fn} {c0 c1 : Nat} (hw : WhoOk (S c0)) : WrOk 0 (fun ds => fnD 5 (G_written c0 c1 S) ds) := by
  intro b m t hb hb2 hm ht ht2
  obtain rfl : t = 0 := Nat.le_zero.mp ht
  obtain rfl : m = 0 := by rw [Nat.pow_zero] at hm; omega
  refine ⟨.z, fnD_of ?_, trivial, trivial, rfl, Nat.le_refl _, Nat.le_refl _, Nat.le_refl _⟩
  have w0 := hw.yes (Int.le_refl 0)
  have w1 := hw.yes (Int.natCast_nonneg b)
  have c1' : (0 : Int) ≤ (b : Nat) := by omega
  have c2 : ¬ ((b : Nat) : Int) < 2 := by omega
  have c3 : ¬ b < 2 := by omega
  have tt : ∀ x4, wrT [some (.int (0 : Int)), some (.int (b : Nat)), some (.list []), some (.int 0), x4] = .ok false := fun x4 => by simp
  have wl : ∀ x4, whileL wrT (wrB (S c1)) wfuel [some (.int (0 : Int)), some (.int (b : Nat)), some (.list []), some (.int 0), x4] = .nx [some (.int (0 : Int)), some (.int (b : Nat)), some (.list []), some (.int 0), x4] := fun x4 => whileL_f (tt x4)
  unfold G_written
  simp [w0, w1, c1', c2, c3, wl]
theorem written_step {S : Nat → Fn} {c0 c1 k : Nat} (hw : WhoOk (S c0)) (hF : WrOk k (S c1)) (hk : TT k ≤ 65536) : WrOk (k + 1) (fun ds => fnD 5 (G_written c0 c1 S) ds) := by
  intro b m t hb hb2 hm ht ht2
  obtain ⟨a, x3, x4, wl, wa⟩ := wr_loop hF hk (m0 := m) hb hb2 ht ht2 t wfuel m 0 .z none (Nat.zero_add _) hm (by show t + 1 ≤ 1000000; omega) Wi.zero
  refine ⟨a, fnD_of ?_, wa⟩
  have w0 := hw.yes (Int.natCast_nonneg m)
  have w1 := hw.yes (Int.natCast_nonneg b)
  have c3 : ¬ b < 2 := by omega
  have er : enc a = .tuple ((a.parts.reverse.map encP).reverse) := by
    show PyData.tuple (encL a) = _
    rw [encL_parts, ← List.map_reverse, List.reverse_reverse]
  have wl' : whileL wrT (wrB (S c1)) wfuel [some (.int (m : Nat)), some (.int (b : Nat)), some (.list []), some (.int 0), none] = _ := wl
  rw [er]
  generalize a.parts.reverse.map encP = ws at *
  unfold G_written
  have c4 : (2 : Int) ≤ (b : Nat) := by omega
  simp [w0, w1, c3, c4, wl']
end Nm
set_option Elab.async false
set_option linter.all false
set_option maxRecDepth 100000
set_option maxHeartbeats 4000000
set_option exponentiation.threshold 20
namespace Nm
open PySem Pu O L2
/-! ### worth by a base -/
def E600 : Nat := 10 ^ 600
theorem e600_lt : E600 < 2 ^ 2000 := by decide +kernel
theorem E600_pos : 1 < E600 := by decide +kernel
def TgOk (F : Fn) : Prop := F [] = .ok (.int (E600 : Nat))
theorem too_great_step (S : Nat → Fn) : TgOk (fun ds => fnD 0 (G_too_great S) ds) := by
  show fnD 0 (G_too_great S) [] = _
  refine fnD_of ?_
  have h1 : gPow (.int 10) (.int 60) = some (.int E60) := rfl
  have c : cPowW E60 10 = true := by decide +kernel
  have e : E60 ^ 10 = ((E600 : Nat) : Int) := by decide +kernel
  unfold G_too_great
  generalize E600 = y at *
  simp [h1, c, e]
theorem natbits {x : Nat} (h : x < E600) : ((x : Nat) : Int).natAbs < 2 ^ 2000 := by
  have := Nat.lt_trans h e600_lt
  simpa using this
theorem mul600 {x y : Nat} (hx : x < E600) (hy : y < E600) : cMul (x : Nat) (y : Nat) = true := cMul_of 2000 2000 (natbits hx) (natbits hy) (by decide) (by decide) (by decide)
abbrev btT : Vars → R Bool := tOf (eOp gGt (eVar 1) (eC (.int 0)))
abbrev btB : Vars → Out := (sSeq (sIf (tOf (eOp gEq (eOp gMod (eVar 1) (eC (.int 2))) (eC (.int 1)))) (sSet [] 3 (eOp gMul (eVar 3) (eVar 0))) sNil) (sSeq (sSet [] 1 (eOp gDiv (eVar 1) (eC (.int 2)))) (sSeq (sIf (tOf (eOp gGt (eVar 1) (eC (.int 0)))) (sSet [] 0 (eOp gMul (eVar 0) (eVar 0))) sNil) (sIf (tOrR (tOf (eOp gGe (eVar 3) (eVar 2))) (tAndR (tOf (eOp gGt (eVar 1) (eC (.int 0)))) (tOf (eOp gGe (eVar 0) (eVar 2))))) (sRaise "TooGreat") sNil))))
theorem bt_loop : ∀ (f d bs ex fd : Nat), 2 ≤ bs → 1 ≤ fd → ex < 2 ^ d → d + 1 ≤ f → fd * bs ^ ex < E600 → bs < E600 →
    ∃ x0, whileL btT btB f [some (.int (bs : Nat)), some (.int (ex : Nat)), some (.int (E600 : Nat)), some (.int (fd : Nat))] = .nx [x0, some (.int (0 : Nat)), some (.int (E600 : Nat)), some (.int ((fd * bs ^ ex : Nat) : Int))]
  | 0, d, bs, ex, fd, _, _, _, h, _, _ => by omega
  | f + 1, d, bs, ex, fd, hb, hf, hd, hfu, hlt, hb6 => by
    by_cases z : ex = 0
    · subst z
      have tt : btT [some (.int (bs : Nat)), some (.int ((0 : Nat) : Int)), some (.int (E600 : Nat)), some (.int (fd : Nat))] = .ok false := by simp
      rw [whileL_f tt, Nat.pow_zero, Nat.mul_one]
      exact ⟨_, rfl⟩
    · obtain ⟨d', rfl⟩ : ∃ d', d = d' + 1 := by
        cases d with
        | zero => rw [Nat.pow_zero] at hd; omega
        | succ d => exact ⟨d, rfl⟩
      have tt : btT [some (.int (bs : Nat)), some (.int (ex : Nat)), some (.int (E600 : Nat)), some (.int (fd : Nat))] = .ok true := by
        have : 0 < ex := by omega
        simp [this]
      have dd : cDiv (ex : Nat) 2 = true := cDiv_of 2 (by decide) (by decide) (by decide) (by decide)
      have md : cMod (ex : Nat) 2 = true := cMod_of (by decide)
      obtain ⟨q, hq⟩ : ∃ q, ex / 2 = q := ⟨_, rfl⟩
      have q1 : ((ex : Nat) : Int) / 2 = (q : Nat) := by omega
      obtain ⟨fd', hfd⟩ : ∃ fd', (if ex % 2 = 1 then fd * bs else fd) = fd' := ⟨_, rfl⟩
      have hfd1 : 1 ≤ fd' := by
        rw [← hfd]; split
        · exact Nat.mul_pos hf (by omega)
        · exact hf
      -- what is kept
      have keep : fd' * (bs * bs) ^ q = fd * bs ^ ex := by
        have e2 : (bs * bs) ^ q = bs ^ (2 * q) := by rw [Nat.pow_mul, Nat.pow_two]
        rw [e2, ← hfd]
        by_cases o : ex % 2 = 1
        · rw [if_pos o, Nat.mul_assoc, ← Nat.pow_succ']
          congr 2; omega
        · rw [if_neg o]
          congr 2; omega
      have p1 : 1 ≤ (bs * bs) ^ q := Nat.pow_pos (Nat.mul_pos (by omega) (by omega))
      have fl : fd' < E600 := by
        rw [← keep] at hlt
        exact Nat.lt_of_le_of_lt (Nat.le_mul_of_pos_right _ p1) hlt
      have fdl : fd < E600 := by
        refine Nat.lt_of_le_of_lt ?_ hlt
        exact Nat.le_mul_of_pos_right _ (Nat.pow_pos (by omega))
      have mo : ((ex : Nat) : Int) % 2 = ((ex % 2 : Nat) : Int) := by omega
      have m1 := mul600 fdl hb6
      have m2 := mul600 hb6 hb6
      have mc1 : ((fd * bs : Nat) : Int) = (fd : Nat) * (bs : Nat) := Int.natCast_mul _ _
      have mc2 : ((bs * bs : Nat) : Int) = (bs : Nat) * (bs : Nat) := Int.natCast_mul _ _
      by_cases qz : q = 0
      · subst qz
        have bd : btB [some (.int (bs : Nat)), some (.int (ex : Nat)), some (.int (E600 : Nat)), some (.int (fd : Nat))] = .nx [some (.int (bs : Nat)), some (.int ((0 : Nat) : Int)), some (.int (E600 : Nat)), some (.int (fd' : Nat))] := by
          have fl' : ¬ ((E600 : Nat) : Int) ≤ (fd' : Nat) := by omega
          generalize E600 = L at *
          by_cases o : ex % 2 = 1
          · rw [if_pos o] at hfd
            subst hfd
            rw [mc1] at fl'
            rw [o] at mo
            rw [mc1]
            simp [md, dd, mo, m1, q1, fl']
          · have o' : ex % 2 = 0 := by omega
            rw [if_neg o] at hfd
            subst hfd
            rw [o'] at mo
            simp [md, dd, mo, q1, fl']
        rw [whileL_t tt bd]
        have tt2 : btT [some (.int (bs : Nat)), some (.int ((0 : Nat) : Int)), some (.int (E600 : Nat)), some (.int (fd' : Nat))] = .ok false := by simp
        obtain ⟨f', rfl⟩ : ∃ f', f = f' + 1 := ⟨f - 1, by omega⟩
        rw [Nat.pow_zero, Nat.mul_one] at keep
        rw [whileL_f tt2, ← keep]
        exact ⟨_, rfl⟩
      · have bl : bs * bs < E600 := by
          refine Nat.lt_of_le_of_lt ?_ hlt
          rw [← keep]
          have h1 : bs * bs ≤ (bs * bs) ^ q := Nat.le_self_pow qz _
          exact Nat.le_trans h1 (Nat.le_mul_of_pos_left _ (by omega))
        have bd : btB [some (.int (bs : Nat)), some (.int (ex : Nat)), some (.int (E600 : Nat)), some (.int (fd : Nat))] = .nx [some (.int ((bs * bs : Nat) : Int)), some (.int (q : Nat)), some (.int (E600 : Nat)), some (.int (fd' : Nat))] := by
          have fl' : ¬ ((E600 : Nat) : Int) ≤ (fd' : Nat) := by omega
          have bl' : ¬ ((E600 : Nat) : Int) ≤ ((bs * bs : Nat) : Int) := by omega
          have qp : 0 < q := by omega
          generalize E600 = L at *
          rw [mc2] at *
          by_cases o : ex % 2 = 1
          · rw [if_pos o] at hfd
            subst hfd
            rw [mc1] at fl'
            rw [o] at mo
            rw [mc1]
            simp [md, dd, mo, m1, m2, q1, fl', bl', qp]
          · have o' : ex % 2 = 0 := by omega
            rw [if_neg o] at hfd
            subst hfd
            rw [o'] at mo
            simp [md, dd, mo, m2, q1, fl', bl', qp]
        rw [whileL_t tt bd, ← keep]
        exact bt_loop f d' (bs * bs) q fd' (by have := Nat.mul_le_mul hb hb; omega) hfd1 (by rw [Nat.pow_succ] at hd; omega) (by omega) (by rw [keep]; exact hlt) bl
def BtOk (F : Fn) : Prop := ∀ b e : Nat, 2 ≤ b → b ^ e < E600 → F [.int (b : Nat), .int (e : Nat)] = .ok (.int ((b ^ e : Nat) : Int))
theorem base_to_step {S : Nat → Fn} {c0 : Nat} (ht : TgOk (S c0)) : BtOk (fun ds => fnD 4 (G_base_to c0 S) ds) := by
  intro b e hb hlt
  refine fnD_of ?_
  have ht' : S c0 [] = .ok (.int (E600 : Nat)) := ht
  by_cases z : e = 0
  · subst z
    have tt : ∀ L : Int, btT [some (.int (b : Nat)), some (.int ((0 : Nat) : Int)), some (.int L), some (.int 1)] = .ok false := fun L => by simp
    have wl : ∀ L : Int, whileL btT btB wfuel [some (.int (b : Nat)), some (.int 0), some (.int L), some (.int 1)] = .nx [some (.int (b : Nat)), some (.int 0), some (.int L), some (.int 1)] := fun L => whileL_f (tt L)
    rw [Nat.pow_zero]
    generalize E600 = L at *
    unfold G_base_to
    simp [ht', wl]
  · have b6 : b < E600 := Nat.lt_of_le_of_lt (Nat.le_self_pow z b) hlt
    have e2 : e < 2 ^ e := Nat.lt_two_pow_self
    have ee : e < 2000 := by
      have h1 : 2 ^ e ≤ b ^ e := Nat.pow_le_pow_left hb e
      have h2 : 2 ^ e < 2 ^ 2000 := Nat.lt_of_le_of_lt h1 (Nat.lt_trans hlt e600_lt)
      exact (Nat.pow_lt_pow_iff_right (by decide)).mp h2
    obtain ⟨x0, wl⟩ := bt_loop wfuel e b e 1 hb (Nat.le_refl _) e2 (by show e + 1 ≤ 1000000; omega) (by rw [Nat.one_mul]; exact hlt) b6
    rw [Nat.one_mul] at wl
    have wl' : whileL btT btB wfuel [some (.int (b : Nat)), some (.int (e : Nat)), some (.int (E600 : Nat)), some (.int 1)] = _ := wl
    generalize E600 = L at *
    generalize b ^ e = w at *
    unfold G_base_to
    simp [ht', wl']
def WorOk (k : Nat) (F : Fn) : Prop := ∀ (b : Nat) (a : O), 2 ≤ b → NF a → a.h < k → a.size ≤ 1000000 → val b a < E600 → F [enc a, .int (b : Nat)] = .ok (.int (val b a : Nat))
theorem wo_loop {S : Nat → Fn} {c0 c1 k : Nat} (h0 : BtOk (S c0)) (h1 : WorOk k (S c1)) {b : Nat} (hb : 2 ≤ b) {A : Option PyData} : ∀ (x : O) (f : Nat) (s3 s4 : Option PyData), NF x → x.h ≤ k → x.size ≤ 1000000 → f + val b x < E600 →
    ∃ s3' s4', forL (gtTup 2 (gtCons (gtName 3) (gtCons (gtName 4) gtNil))) (sAug [] 2 gAddI (eOp gMul (eVar 4) (eFn (S c0) (aCons (eVar 1) (aCons (eFn (S c1) (aCons (eVar 3) (aCons (eVar 1) aNil))) aNil))))) (encL x) [A, some (.int (b : Nat)), some (.int (f : Nat)), s3, s4] = .nx [A, some (.int (b : Nat)), some (.int ((f + val b x : Nat) : Int)), s3', s4']
  | .z, f, s3, s4, _, _, _, _ => ⟨s3, s4, rfl⟩
  | .c e n r, f, s3, s4, nf, hh, hs, hl => by
    have h3 : (O.c e n r).h = max (e.h + 1) r.h := rfl
    have h5 : (O.c e n r).size = 1 + e.size + r.size := rfl
    obtain ⟨nr, ne, n1, _⟩ := nf_tail nf
    have hv : val b (.c e n r) = n.toNat * b ^ val b e + val b r := rfl
    obtain ⟨m, rfl⟩ : ∃ m : Nat, n = (m : Nat) := ⟨n.toNat, by omega⟩
    have hm : ((m : Nat) : Int).toNat = m := by omega
    rw [hm] at hv
    have m1 : 1 ≤ m := by omega
    have pl : b ^ val b e < E600 := by
      have : b ^ val b e ≤ m * b ^ val b e := Nat.le_mul_of_pos_left _ m1
      omega
    have ml : m < E600 := by
      have : m ≤ m * b ^ val b e := Nat.le_mul_of_pos_right _ (Nat.pow_pos (by omega))
      omega
    have ve : val b e < E600 := Nat.lt_trans (one_pow_le hb _) pl
    have g1 := h1 b e hb ne (by omega) (by omega) ve
    have g0 := h0 b (val b e) hb pl
    have mm := mul600 ml pl
    obtain ⟨s3', s4', e1⟩ := wo_loop h0 h1 hb (A := A) r (f + m * b ^ val b e) (some (enc e)) (some (.int (m : Nat))) nr (by omega) (by omega) (by omega)
    refine ⟨s3', s4', ?_⟩
    rw [hv, ← Nat.add_assoc, ← e1]
    have ec : ((f + m * b ^ val b e : Nat) : Int) = (f : Nat) + (m : Nat) * ((b ^ val b e : Nat) : Int) := by rw [Int.natCast_add, Int.natCast_mul]
    show forL _ _ (.tuple [enc e, .int (m : Nat)] :: encL r) _ = _
    rw [u_forL_c, ec]
    generalize ((b ^ val b e : Nat) : Int) = w at *
    simp [g1, g0, mm, gAddI, mask]
theorem worth_step {S : Nat → Fn} {c0 c1 c2 k : Nat} (h0 : BtOk (S c0)) (h1 : WorOk k (S c1)) (ht : TgOk (S c2)) : WorOk (k + 1) (fun ds => fnD 5 (G_worth c0 c1 c2 S) ds) := by
  intro b a hb na hh hs hl
  refine fnD_of ?_
  have ht' : S c2 [] = .ok (.int (E600 : Nat)) := ht
  obtain ⟨s3, s4, e1⟩ := wo_loop h0 h1 hb (A := some (enc a)) a 0 none none na (by omega) hs (by omega)
  rw [Nat.zero_add] at e1
  have lt : ¬ ((E600 : Nat) : Int) ≤ (val b a : Nat) := by omega
  have e1' : forL _ _ (encL a) [some (enc a), some (.int (b : Nat)), some (.int 0), none, none] = _ := e1
  have nl : a.len ≤ 1000000 := Nat.le_trans (len_le_size a) hs
  generalize E600 = L at *
  generalize val b a = v at *
  unfold G_worth
  simp [ht', e1', lt]
theorem wor0 {F : Fn} : WorOk 0 F := fun b a _ _ h => absurd h (Nat.not_lt_zero _)
end Nm
set_option Elab.async false
set_option linter.all false
set_option maxRecDepth 100000
set_option maxHeartbeats 4000000
set_option exponentiation.threshold 20
namespace Nm
open PySem Pu O L2
/-! ### read from the last part on -/
theorem val_part {b : Nat} (hb : 2 ≤ b) : ∀ {a : O}, NF a → ∀ p ∈ a.parts, val b p.1 < val b a
  | .c e n r, h, p, hp => by
    rcases List.mem_cons.mp (show p ∈ (e, n) :: r.parts from hp) with q | q
    · subst q; exact val_exp hb h
    · have := val_part hb (nf_tail h).1 p q
      show _ < n.toNat * b ^ val b e + val b r
      omega
/-- places that are done -/
def dn (b : Nat) : O → Nat
  | .z => 0
  | .c e _ _ => val b e + 1
theorem pow_bits {b q : Nat} (hb2 : b < 2 ^ 200) (hq : q ≤ 701) : (((b ^ q : Nat) : Int)).natAbs < 2 ^ 140300 := by
  have h1 : b ^ q ≤ (2 ^ 200) ^ q := Nat.pow_le_pow_left (Nat.le_of_lt hb2) q
  rw [← Nat.pow_mul] at h1
  have h2 : 2 ^ (200 * q) < 2 ^ 140300 := Nat.pow_lt_pow_right (by decide) (by omega)
  have h3 := Nat.lt_of_le_of_lt h1 h2
  simpa using h3
theorem nat_bits {b : Nat} (hb2 : b < 2 ^ 200) : ((b : Nat) : Int).natAbs < 2 ^ 200 := by simpa using hb2
abbrev rdT : Vars → R Bool := tOf (eOp gLt (eVar 4) (eVar 7))
abbrev rdB : Vars → Out := (sSeq (sSet [] 3 (eOp gMul (eVar 3) (eVar 1))) (sSet [] 4 (eOp gAdd (eVar 4) (eC (.int 1)))))
theorem rd_pow {b : Nat} (hb2 : b < 2 ^ 200) {x0 x2 x5 x6 : Option PyData} : ∀ (d f q far : Nat), q + d = far → far ≤ 700 → d + 1 ≤ f →
    whileL rdT rdB f [x0, some (.int (b : Nat)), x2, some (.int ((b ^ q : Nat) : Int)), some (.int (q : Nat)), x5, x6, some (.int (far : Nat))] = .nx [x0, some (.int (b : Nat)), x2, some (.int ((b ^ far : Nat) : Int)), some (.int (far : Nat)), x5, x6, some (.int (far : Nat))]
  | d, 0, q, far, _, _, h => by omega
  | 0, f + 1, q, far, h, _, _ => by
    have : q = far := by omega
    subst this
    exact whileL_f (by simp)
  | d + 1, f + 1, q, far, h, hf, hfu => by
    have tt : rdT [x0, some (.int (b : Nat)), x2, some (.int ((b ^ q : Nat) : Int)), some (.int (q : Nat)), x5, x6, some (.int (far : Nat))] = .ok true := by
      have : q < far := by omega
      simp [this]
    have mm : cMul ((b ^ q : Nat) : Int) (b : Nat) = true := cMul_of 140300 200 (pow_bits hb2 (by omega)) (nat_bits hb2) (by decide) (by decide) (by decide)
    have ep : ((b ^ (q + 1) : Nat) : Int) = ((b ^ q : Nat) : Int) * (b : Nat) := by rw [Nat.pow_succ, Int.natCast_mul]
    have bd : rdB [x0, some (.int (b : Nat)), x2, some (.int ((b ^ q : Nat) : Int)), some (.int (q : Nat)), x5, x6, some (.int (far : Nat))] = .nx [x0, some (.int (b : Nat)), x2, some (.int ((b ^ (q + 1) : Nat) : Int)), some (.int ((q + 1 : Nat) : Int)), x5, x6, some (.int (far : Nat))] := by
      rw [ep]
      generalize ((b ^ q : Nat) : Int) = w at *
      simp [mm]
    rw [whileL_t tt bd]
    exact rd_pow hb2 d f (q + 1) far (by omega) hf (by omega)
structure WhlOk (F : Fn) : Prop where
  int : ∀ i : Int, F [.int i] = .ok (.bool true)
theorem l_whole_int_step (S : Nat → Fn) : WhlOk (fun ds => fnD 1 (G_l_whole S) ds) where
  int i := by
    refine fnD_of ?_
    unfold G_l_whole
    simp [isiB]
def RdOk (k : Nat) (F : Fn) : Prop := ∀ (b : Nat) (a : O), 2 ≤ b → b < 2 ^ 200 → NF a → Fit b a → a.h < k → a.size ≤ 1000000 → (∀ p ∈ a.parts, val b p.1 ≤ 700) → F [enc a, .int (b : Nat)] = .ok (.int (val b a : Nat))
abbrev rdG (S : Nat → Fn) (c0 c1 : Nat) : Vars → Out := (sSeq (sSet [] 6 (eOp gIx (eVar 0) (eVar 5))) (sSeq (sIf (tOrR (tNotR (tTru (eIsi "tuple" (eVar 6)))) (tOrR (tOf (eOp gNe (eCall gLen (aCons (eVar 6) aNil)) (eC (.int 2)))) (tNotR (tTru (eFn (S c0) (aCons (eOp gIx (eVar 6) (eC (.int 1))) aNil)))))) (sRet (eNeg (eC (.int 1)))) sNil) (sSeq (sSet [] 7 (eFn (S c1) (aCons (eOp gIx (eVar 6) (eC (.int 0))) (aCons (eVar 1) aNil)))) (sSeq (sIf (tOrR (tOf (eOp gLt (eVar 7) (eVar 4))) (tOrR (tOf (eOp gGt (eVar 7) (eC (.int 700)))) (tOrR (tOf (eOp gLt (eOp gIx (eVar 6) (eC (.int 1))) (eC (.int 1)))) (tOf (eOp gGe (eOp gIx (eVar 6) (eC (.int 1))) (eVar 1)))))) (sRet (eNeg (eC (.int 1)))) sNil) (sSeq (whileL rdT rdB wfuel) (sSeq (sSet [] 2 (eOp gAdd (eVar 2) (eOp gMul (eOp gIx (eVar 6) (eC (.int 1))) (eVar 3)))) (sSeq (sSet [] 3 (eOp gMul (eVar 3) (eVar 1))) (sSet [] 4 (eOp gAdd (eVar 4) (eC (.int 1)))))))))))
theorem l_read_step {S : Nat → Fn} {c0 c1 k : Nat} (h0 : WhlOk (S c0)) (h1 : RdOk k (S c1)) : RdOk (k + 1) (fun ds => fnD 8 (G_l_read c0 c1 S) ds) := by
  intro b a hb hb2 na fa hh hs hp
  refine fnD_of ?_
  have la : a.len ≤ 1000000 := Nat.le_trans (len_le_size a) hs
  obtain ⟨ρ', r1, x5, x6, x7, d', r2⟩ := forL_inv (gt := gtName 5) (g := rdG S c0 c1)
    (fun i ρ => ∃ x5 x6 x7 x, a.parts.drop (a.len - i) = x.parts ∧ ρ = [some (enc a), some (.int (b : Nat)), some (.int (val b x : Nat)), some (.int ((b ^ dn b x : Nat) : Int)), some (.int (dn b x : Nat)), x5, x6, x7])
    (rngC ((a.len : Int) - 1) (-1) a.len) 0 [some (enc a), some (.int (b : Nat)), some (.int 0), some (.int 1), some (.int 0), none, none, none]
    ⟨none, none, none, .z, (List.drop_eq_nil_of_le (by rw [len_parts]; exact Nat.le_refl _)), by
      show _ = [_, _, some (PyData.int ((0 : Nat) : Int)), some (PyData.int ((b ^ 0 : Nat) : Int)), some (PyData.int ((0 : Nat) : Int)), _, _, _]
      rw [Nat.pow_zero]; rfl⟩
    (by
      rintro j d ρ hd ⟨x5, x6, x7, x, hx, rfl⟩
      rw [rngC_get] at hd
      by_cases q : j < a.len
      · rw [if_pos q] at hd
        cases hd
        rw [Nat.zero_add] at hx
        obtain ⟨i, hi⟩ : ∃ i, a.len - (j + 1) = i := ⟨_, rfl⟩
        have il : i < a.parts.length := by rw [len_parts]; omega
        obtain ⟨p, hpp⟩ : ∃ p, a.parts[i] = p := ⟨_, rfl⟩
        have dr : a.parts.drop i = p :: x.parts := by
          rw [List.drop_eq_getElem_cons il, hpp, ← hx]
          congr 2; omega
        obtain ⟨e, n⟩ := p
        have pm : (e, n) ∈ a.parts := List.mem_of_mem_drop (i := i) (by rw [dr]; simp)
        have nx : NF (.c e n x) := by
          have : NF (of (a.parts.drop i)) := nf_sub (by rw [of_parts]; exact na) (List.drop_sublist i a.parts)
          rw [dr] at this
          have e1 : of ((e, n) :: x.parts) = .c e n x := by show O.c e n (of x.parts) = _; rw [of_parts]
          rw [e1] at this
          exact this
        obtain ⟨nx', ne, n1, lt⟩ := nf_tail nx
        obtain ⟨m, rfl⟩ : ∃ m : Nat, n = (m : Nat) := ⟨n.toNat, by omega⟩
        have hm : ((m : Nat) : Int).toNat = m := by omega
        have fe := fit_exp fa _ pm
        have eh : e.h + 1 ≤ a.h := part_mem_h pm
        have es : e.size ≤ a.size := size_part pm
        have e7 := hp _ pm
        have g1 := h1 b e hb hb2 ne fe.1 (by omega) (by have : e.size ≤ a.size := es; omega) (fun q hq => by have := val_part hb ne q hq; have : val b e ≤ 700 := e7; omega)
        have xe : dn b x ≤ val b e := by
          cases x with
          | z => exact Nat.zero_le _
          | c f c s =>
            have h1 := lt (f, c) (by show _ ∈ (f, c) :: s.parts; simp)
            have fm : (f, c) ∈ a.parts := List.mem_of_mem_drop (i := i) (by rw [dr]; show _ ∈ _ :: ((f, c) :: s.parts); simp)
            exact val_lt hb (nf_tail nx').2.1 ne (fit_exp fa _ fm).1 fe.1 (by rw [cmp_neg, h1])
        have wl := rd_pow hb2 (x0 := some (enc a)) (x2 := some (.int (val b x : Nat))) (x5 := some (.int (i : Nat))) (x6 := some (encP (e, (m : Nat)))) (val b e - dn b x) wfuel (dn b x) (val b e) (by omega) e7 (by have : val b e ≤ 700 := e7; show _ ≤ 1000000; omega)
        have at1 : a.parts[i]? = some (e, ((m : Nat) : Int)) := by rw [List.getElem?_eq_getElem il, hpp]
        have ax := atI_at at1
        have w1 := h0.int (m : Nat)
        have it : isiB "tuple" (encP (e, ((m : Nat) : Int))) = true := rfl
        have m1 : cMul (m : Nat) ((b ^ val b e : Nat) : Int) = true := cMul_of 200 140300 (nat_bits (by have : ((m : Nat) : Int) < (b : Nat) := fe.2; omega)) (pow_bits hb2 (by have : val b e ≤ 700 := e7; omega)) (by decide) (by decide) (by decide)
        have m2 : cMul ((b ^ val b e : Nat) : Int) (b : Nat) = true := cMul_of 140300 200 (pow_bits hb2 (by have : val b e ≤ 700 := e7; omega)) (nat_bits hb2) (by decide) (by decide) (by decide)
        have eI : (a.len : Int) - 1 + ((j : Nat) : Int) * -1 = ((i : Nat) : Int) := by omega
        have c1 : ¬ val b e < dn b x := by omega
        have c2 : ¬ (700 : Int) < (val b e : Nat) := by have : val b e ≤ 700 := e7; omega
        have c3 : ¬ ((m : Nat) : Int) < 1 := by omega
        have c3' : ¬ m < 1 := by omega
        have c4 : ¬ b ≤ m := by have : ((m : Nat) : Int) < (b : Nat) := fe.2; omega
        have c5 : ¬ (700 : Nat) < val b e := by have : val b e ≤ 700 := e7; omega
        have v1 : val b (.c e ((m : Nat) : Int) x) = val b x + m * b ^ val b e := by show ((m : Nat) : Int).toNat * _ + _ = _; rw [hm]; omega
        refine ⟨_, [some (enc a), some (.int (b : Nat)), some (.int ((val b x : Nat) + (m : Nat) * ((b ^ val b e : Nat) : Int))), some (.int (((b ^ val b e : Nat) : Int) * (b : Nat))), some (.int ((val b e : Nat) + 1)), some (.int (i : Nat)), some (encP (e, (m : Nat))), some (.int (val b e : Nat))], rfl, Or.inl ?_, some (.int (i : Nat)), some (encP (e, (m : Nat))), some (.int (val b e : Nat)), .c e (m : Nat) x, ?_, ?_⟩
        · rw [eI]
          generalize ((b ^ val b e : Nat) : Int) = w at *
          generalize ((b ^ dn b x : Nat) : Int) = w2 at *
          generalize ((dn b x : Nat)) = w3 at *
          generalize ((val b x : Nat)) = w4 at *
          simp [ax, w1, g1, c1, c2, c3, c3', c4, c5, wl, m1, m2, it]
        · have : a.len - (0 + j + 1) = i := by omega
          rw [this, dr]; rfl
        · rw [v1, Int.natCast_add, Int.natCast_mul]
          show _ = [_, _, _, some (PyData.int ((b ^ (val b e + 1) : Nat) : Int)), some (PyData.int ((val b e + 1 : Nat) : Int)), _, _, _]
          rw [Nat.pow_succ, Int.natCast_mul]
          rfl
      · rw [if_neg q] at hd; cases hd)
  rw [rngC_len, Nat.zero_add, Nat.sub_self] at r2
  obtain ⟨r2, r3⟩ := r2
  have : d' = a := parts_inj (by rw [← r2]; rfl)
  subst this
  have k1 : okI ((d'.len : Int) - 1) = true := okI_small (by omega) (by omega)
  have k2 : okI (-1) = true := by decide
  have k3 : okC (-1) = true := by decide
  have rn : rngN ((d'.len : Int) - 1) (-1) (-1) = d'.len := by
    show (Builtin.Range.rangeSize ((d'.len : Int) - 1) (-1) (-1)).toNat = _
    unfold Builtin.Range.rangeSize
    rw [if_neg (by decide)]
    by_cases z : d'.len = 0
    · rw [if_neg (by omega), z]; rfl
    · rw [if_pos (by omega)]
      have : ((d'.len : Int) - 1 - -1 - 1) / (- -1) + 1 = (d'.len : Int) := by
        rw [show (- -1 : Int) = 1 from rfl, Int.ediv_one]; omega
      rw [this]; rfl
  have it : isiB "tuple" (enc d') = true := rfl
  unfold G_l_read
  simp [k1, k2, k3, rn, r1, r3, it]
end Nm
set_option Elab.async false
set_option linter.all false
set_option maxRecDepth 100000
set_option maxHeartbeats 4000000
set_option exponentiation.threshold 20
namespace Nm
open PySem Pu O L2
/-! ### cells of any size, mixed -/
abbrev Bit (v : Int) : Prop := v.natAbs.log2 ≤ 1048576
def CellB (F : Fn) : Prop := ∀ (ns : List Int) (j : Int), (∀ z ∈ ns, Bit z) → 0 ≤ j → ∃ v, F [.list (ns.map .int), .int j] = .ok (.int v) ∧ Bit v
theorem cell_b_step (S : Nat → Fn) : CellB (fun ds => fnD 2 (G_l_cell_at S) ds) := by
  intro ns j hb hj
  by_cases c : j < ns.length
  · obtain ⟨i, rfl⟩ : ∃ i : Nat, j = (i : Nat) := ⟨j.toNat, by omega⟩
    have ci : i < ns.length := by omega
    refine ⟨ns[i], fnD_of ?_, hb _ (List.getElem_mem ci)⟩
    have ax : atI (ns.map PyData.int) (i : Nat) = some (.int ns[i]) := L2.atI_nat (by rw [List.getElem?_map, List.getElem?_eq_getElem ci]; rfl)
    unfold G_l_cell_at
    simp [ax, ci]
  · refine ⟨0, fnD_of ?_, by decide⟩
    unfold G_l_cell_at
    simp [c]
theorem log2_add {n x L : Nat} (hn : n.log2 ≤ L) (hx : x < 2 ^ 21) (h : 20 ≤ L) : (n + x).log2 ≤ L + 1 := by
  have h1 : n < 2 ^ (L + 1) := by
    by_cases z : n = 0
    · rw [z]; exact Nat.two_pow_pos _
    · exact (Nat.log2_lt z).mp (by omega)
  have h2 : 2 ^ 21 ≤ 2 ^ (L + 1) := Nat.pow_le_pow_right (by decide) (by omega)
  by_cases z : n + x = 0
  · rw [z]; exact Nat.zero_le _
  · have h3 : n + x < 2 ^ (L + 2) := by rw [Nat.pow_succ 2 (L + 1)]; omega
    have := (Nat.log2_lt z).mpr h3
    omega
theorem bit_add {c x : Int} (hc : Bit c) (h0 : 0 ≤ x) (hx : x < 2 ^ 21) : (c + x).natAbs.log2 ≤ 1048577 := by
  obtain ⟨y, rfl⟩ : ∃ y : Nat, x = (y : Nat) := ⟨x.toNat, by omega⟩
  have hy : y < 2 ^ 21 := by omega
  have h1 := log2_add hc hy (by decide)
  have h2 : (c + (y : Nat)).natAbs ≤ c.natAbs + y := by omega
  have h3 : ∀ {p q : Nat}, p ≤ q → p.log2 ≤ q.log2 := fun {p q} h => by
    by_cases z : p = 0
    · rw [z]; exact Nat.zero_le _
    · exact Nat.le_of_lt_succ ((Nat.log2_lt z).mpr (Nat.lt_of_le_of_lt h Nat.lt_log2_self))
  exact Nat.le_trans (h3 h2) h1
theorem small_log {k : Int} (h0 : 0 ≤ k) (h1 : k ≤ 1000000) : k.natAbs.log2 ≤ 20 := by
  by_cases z : k.natAbs = 0
  · rw [z]; decide
  · have : k.natAbs < 2 ^ 21 := by have : (2 : Nat) ^ 21 = 2097152 := by decide
                                   omega
    have := (Nat.log2_lt z).mpr this
    omega
theorem cMulX_of {i j : Int} {a b : Nat} (ha : i.natAbs.log2 ≤ a) (hb : j.natAbs.log2 ≤ b) (h : a + b < 134000000) : cMulX i j = true := decide_eq_true (by omega)
theorem sq_le {k : Int} (h0 : 0 ≤ k) (h1 : k ≤ 1000) : 0 ≤ k * k ∧ k * k ≤ 1000000 := by
  have a := Int.mul_nonneg h0 h0
  have b := Int.mul_le_mul h1 h1 h0 (by decide : (0 : Int) ≤ 1000)
  omega
def MxOk (F : Fn) : Prop := ∀ c k : Int, Bit c → 0 ≤ k → k ≤ 1000 → ∃ r : Int, F [.int c, .int k] = .ok (.int r) ∧ 0 ≤ r ∧ r < 2147483647
theorem l_mix_step (S : Nat → Fn) : MxOk (fun ds => fnD 2 (G_l_mix S) ds) := by
  intro c k hc h0 h1
  obtain ⟨q0, q1⟩ := sq_le h0 h1
  refine ⟨(c * 48271 + k * k * 69621 + 11 * k + 1) % 2147483647, fnD_of ?_, Int.emod_nonneg _ (by decide), Int.emod_lt_of_pos _ (by decide)⟩
  have m1 : cMulX c 48271 = true := cMulX_of hc (b := 20) (by decide) (by decide)
  have m2 : cMulX k k = true := cMulX_of (small_log h0 (by omega)) (small_log h0 (by omega)) (by decide)
  have m3 : cMulX (k * k) 69621 = true := cMulX_of (small_log q0 q1) (b := 20) (by decide) (by decide)
  have m4 : cMulX 11 k = true := cMulX_of (a := 20) (by decide) (small_log h0 (by omega)) (by decide)
  have m5 : ∀ i : Int, cMod i 2147483647 = true := fun i => cMod_of (by decide)
  unfold G_l_mix
  simp [m1, m2, m3, m4, m5]
theorem e60n : (10 ^ 60 : Nat) < 2 ^ 200 := by decide +kernel
theorem E60_nat : E60 = ((10 ^ 60 : Nat) : Int) := by decide +kernel
def GrOk (F : Fn) : Prop := ∀ c k : Int, Bit c → 0 ≤ k → k ≤ 1000 → ∃ r : Int, F [.int c, .int k] = .ok (.int r) ∧ 0 ≤ r ∧ r < E60
theorem l_great2_step (S : Nat → Fn) : GrOk (fun ds => fnD 2 (G_l_great_2 S) ds) := by
  intro c k hc h0 h1
  obtain ⟨q0, q1⟩ := sq_le h0 h1
  have hp : (0 : Int) < E60 := by decide +kernel
  refine ⟨((c + k * k + 1) * 7391046825519380427716093582641907753320168849507113) % E60, fnD_of ?_, Int.emod_nonneg _ (by omega), Int.emod_lt_of_pos _ hp⟩
  have m2 : cMulX k k = true := cMulX_of (small_log h0 (by omega)) (small_log h0 (by omega)) (by decide)
  have b1 : (c + k * k + 1).natAbs.log2 ≤ 1048577 := by
    rw [Int.add_assoc]
    exact bit_add hc (by omega) (by omega)
  have m1 : cMulX (c + k * k + 1) 7391046825519380427716093582641907753320168849507113 = true := cMulX_of b1 (b := 200) (by decide +kernel) (by decide)
  have m5 : ∀ i : Int, cMod i E60 = true := fun i => cMod_of hp
  have h2 : gPow (.int 10) (.int 60) = some (.int E60) := rfl
  unfold G_l_great_2
  generalize (7391046825519380427716093582641907753320168849507113 : Int) = y at *
  simp [m1, m2, m5, h2]
def PwOk (F : Fn) : Prop := ∀ b n : Nat, b ≤ 10 → n < 20 → F [.int (b : Nat), .int (n : Nat)] = .ok (.int ((b ^ n : Nat) : Int))
theorem l_power2_step (S : Nat → Fn) : PwOk (fun ds => fnD 4 (G_l_power_2 S) ds) := by
  intro b n hb hn
  refine fnD_of ?_
  obtain ⟨ρ', r1, y, r2⟩ := forL_rng (n := n) (i := 3) (g := sSet [] 2 (eOp gMul (eVar 2) (eVar 0))) (fun j ρ => ∃ y, ρ = [some (.int (b : Nat)), some (.int (n : Nat)), some (.int ((b ^ j : Nat) : Int)), y]) [some (.int (b : Nat)), some (.int (n : Nat)), some (.int 1), none] ⟨none, by rw [Nat.pow_zero]; rfl⟩ fun j ρ hj ⟨y, e⟩ => by
    subst e
    have p1 : b ^ j ≤ 10 ^ 20 := Nat.le_trans (Nat.pow_le_pow_left hb j) (Nat.pow_le_pow_right (by decide) (by omega))
    have p2 : ((b ^ j : Nat) : Int).natAbs < 2 ^ 100 := by
      have : b ^ j < 2 ^ 100 := Nat.lt_of_le_of_lt p1 (by decide)
      simpa using this
    have p3 : ((b : Nat) : Int).natAbs < 2 ^ 100 := by
      have : b < 2 ^ 100 := Nat.lt_of_le_of_lt hb (by decide)
      simpa using this
    have mm : cMul ((b ^ j : Nat) : Int) (b : Nat) = true := cMul_of 100 100 p2 p3 (by decide) (by decide) (by decide)
    have ep : ((b ^ (j + 1) : Nat) : Int) = ((b ^ j : Nat) : Int) * (b : Nat) := by rw [Nat.pow_succ, Int.natCast_mul]
    refine ⟨[some (.int (b : Nat)), some (.int (n : Nat)), some (.int ((b ^ (j + 1) : Nat) : Int)), some (.int (j : Nat))], Or.inl ?_, _, rfl⟩
    rw [ep]
    generalize ((b ^ j : Nat) : Int) = w at *
    simp [mm]
  have k1 : okI (n : Nat) = true := okI_small (by omega) (by omega)
  unfold G_l_power_2
  generalize ((b ^ n : Nat) : Int) = w at *
  simp [k1, r1, r2]
def PkOk (F : Fn) : Prop := ∀ c k : Int, Bit c → 0 ≤ k → k ≤ 100 → ∃ m b : Nat, F [.int c, .int k] = .ok (.tuple [.int (m : Nat), .int (b : Nat)]) ∧ 2 ≤ b ∧ b < 2 ^ 200 ∧ m < 2 ^ 200
theorem lt60 {v : Int} (h0 : 0 ≤ v) (h : v < E60) : v.toNat < 2 ^ 200 := by
  rw [E60_nat] at h
  have : v.toNat < 10 ^ 60 := by omega
  exact Nat.lt_trans this e60n
theorem l_pick_step {S : Nat → Fn} {c0 c1 c2 : Nat} (h0 : MxOk (S c0)) (h1 : GrOk (S c1)) (h2 : PwOk (S c2)) : PkOk (fun ds => fnD 5 (G_l_pick c0 c1 c2 S) ds) := by
  intro c k hc hk hk2
  obtain ⟨r, er, r0, r1⟩ := h0 c k hc hk (by omega)
  obtain ⟨g, eg, g0, g1⟩ := h1 c k hc hk (by omega)
  obtain ⟨g', eg', g0', g1'⟩ := h1 c (k + 70) hc (by omega) (by omega)
  have d : ∀ i : Int, cDiv i 5 = true ∧ cDiv i 5000 = true ∧ cDiv i 45 = true ∧ cDiv i 900 = true := fun i => ⟨rfl, rfl, rfl, rfl⟩
  have hE : (0 : Int) < E60 := by decide +kernel
  have m : ∀ i : Int, cMod i 5 = true ∧ cMod i 1000 = true ∧ cMod i 3 = true ∧ cMod i 15 = true ∧ cMod i 9 = true ∧ cMod i 20 = true ∧ cMod i 2 = true := fun i => ⟨cMod_of (by decide), cMod_of (by decide), cMod_of (by decide), cMod_of (by decide), cMod_of (by decide), cMod_of (by decide), cMod_of (by decide)⟩
  have sm : ∀ {x : Nat}, x < 10 ^ 30 → x < 2 ^ 200 := fun {x} h => Nat.lt_trans h (by decide +kernel)
  have big : (1000000000000 : Nat) < 10 ^ 30 := by decide +kernel
  have rt : ∀ {x y : Int}, 0 ≤ x → 0 ≤ y → PyData.tuple [.int x, .int y] = .tuple [.int ((x.toNat : Nat) : Int), .int ((y.toNat : Nat) : Int)] := fun {x y} hx hy => by rw [Int.toNat_of_nonneg hx, Int.toNat_of_nonneg hy]
  have cases5 : r % 5 = 0 ∨ r % 5 = 1 ∨ r % 5 = 2 ∨ r % 5 = 3 ∨ r % 5 = 4 := by omega
  rcases cases5 with q | q | q | q | q
  · refine ⟨(r / 5 % 1000).toNat, (2 + r / 5000 % 3).toNat, fnD_of ?_, by omega, sm (by omega), sm (by omega)⟩
    rw [← rt (by omega) (by omega)]
    unfold G_l_pick
    simp [er, eg, q, d, m]
  · have p9 : gPow (.int 10) (.int 9) = some (.int 1000000000) := rfl
    have m9 : cMod g 1000000000 = true := cMod_of (by decide)
    refine ⟨(g % 1000000000).toNat, (2 + r / 5 % 15).toNat, fnD_of ?_, by omega, sm (by omega), sm (by omega)⟩
    rw [← rt (by omega) (by omega)]
    unfold G_l_pick
    simp [er, eg, q, d, m, p9, m9]
  · have p8 : gPow (.int 10) (.int 8) = some (.int 100000000) := rfl
    have m8 : cMod (r / 5) 100000000 = true := cMod_of (by decide)
    refine ⟨g.toNat, (2 + r / 5 % 100000000).toNat, fnD_of ?_, by omega, sm (by omega), lt60 g0 g1⟩
    rw [← rt g0 (by omega)]
    unfold G_l_pick
    simp [er, eg, q, d, m, p8, m8]
  · have p21 : gPow (.int 10) (.int 21) = some (.int 1000000000000000000000) := rfl
    have p60 : gPow (.int 10) (.int 60) = some (.int E60) := rfl
    have e3 : r / 5 % 3 = 0 ∨ r / 5 % 3 = 1 ∨ r / 5 % 3 = 2 := by omega
    obtain ⟨M, hM, M0, M1⟩ : ∃ M : Int, atI [PyData.int 1000, .int 1000000000000000000000, .int E60] (r / 5 % 3) = some (.int M) ∧ 0 < M ∧ M ≤ E60 := by
      rcases e3 with e | e | e <;> rw [e]
      · exact ⟨1000, L2.atI_nat (j := 0) rfl, by decide, by decide +kernel⟩
      · exact ⟨1000000000000000000000, L2.atI_nat (j := 1) rfl, by decide, by decide +kernel⟩
      · exact ⟨E60, L2.atI_nat (j := 2) rfl, hE, Int.le_refl _⟩
    have mM : cMod g' M = true := cMod_of M0
    have l1 := Int.emod_nonneg g' (show M ≠ 0 by omega)
    have l2 := Int.emod_lt_of_pos g' M0
    refine ⟨g.toNat, (2 + g' % M).toNat, fnD_of ?_, by omega, ?_, lt60 g0 g1⟩
    · rw [← rt g0 (by omega)]
      unfold G_l_pick
      simp [er, eg, eg', q, d, m, p21, p60, hM, mM]
    · have : (2 + g' % M).toNat < 10 ^ 60 + 2 := by rw [E60_nat] at M1; omega
      exact Nat.lt_trans this (by decide +kernel)
  · obtain ⟨b, hb⟩ : ∃ b : Nat, 2 + r / 5 % 9 = (b : Nat) := ⟨(2 + r / 5 % 9).toNat, by omega⟩
    obtain ⟨n, hn⟩ : ∃ n : Nat, r / 45 % 20 = (n : Nat) := ⟨(r / 45 % 20).toNat, by omega⟩
    have ep := h2 b n (by omega) (by omega)
    have p1 : 1 ≤ b ^ n := Nat.pow_pos (by omega)
    have p2 : b ^ n ≤ 10 ^ 20 := Nat.le_trans (Nat.pow_le_pow_left (by omega : b ≤ 10) n) (Nat.pow_le_pow_right (by decide) (by omega))
    have p3 : (10 ^ 20 : Nat) < 10 ^ 30 := by decide +kernel
    refine ⟨(((b ^ n : Nat) : Int) - r / 900 % 2).toNat, b, fnD_of ?_, by omega, sm (by omega), sm ?_⟩
    · have := rt (x := ((b ^ n : Nat) : Int) - r / 900 % 2) (y := (b : Nat)) (by omega) (by omega)
      rw [show ((b : Nat) : Int).toNat = b by omega] at this
      rw [← this]
      generalize ((b ^ n : Nat) : Int) = w at *
      unfold G_l_pick
      simp [er, eg, q, d, m, hb, hn, ep]
    · have : (((b ^ n : Nat) : Int) - r / 900 % 2).toNat ≤ b ^ n := by omega
      exact Nat.lt_of_le_of_lt (Nat.le_trans this p2) p3
end Nm
namespace Nm
open PySem Pu O L2
theorem pow_part {b : Nat} : ∀ {a : O}, NF a → ∀ p ∈ a.parts, b ^ val b p.1 ≤ val b a
  | .c e n r, h, p, hp => by
    rcases List.mem_cons.mp (show p ∈ (e, n) :: r.parts from hp) with q | q
    · subst q; exact val_ge (nf_tail h).2.2.1
    · have := pow_part (b := b) (nf_tail h).1 p q
      show _ ≤ n.toNat * b ^ val b e + val b r
      omega
theorem exp_lt {b t : Nat} (hb : 2 ≤ b) {a : O} (na : NF a) (h : val b a < 2 ^ t) : ∀ p ∈ a.parts, val b p.1 < t := fun p hp => by
  have h1 := pow_part (b := b) na p hp
  have h2 : 2 ^ val b p.1 ≤ b ^ val b p.1 := Nat.pow_le_pow_left hb _
  exact (Nat.pow_lt_pow_iff_right (by decide)).mp (Nat.lt_of_le_of_lt (Nat.le_trans h2 h1) h)
theorem lt_e600 {x : Nat} (h : x < 2 ^ 1000) : x < E600 := Nat.lt_trans h (by decide +kernel)
/-- a loop over range(max(k, min(M, len))) -/
theorem law_loop1 {ns : List Int} {g : Vars → Out} {i : Nat} {kI MI : Int} (k M : Nat) (I : Vars → Prop) (ek : kI = k) (eM : MI = M) (hM : M ≤ 1000) (hkM : k ≤ M) (ρ : Vars) (h0 : ρ.getD 0 none = some (.list (ns.map .int))) (hI : I ρ)
    (hg : ∀ (v : Nat) (ρ : Vars), v < M → I ρ → ∃ ρ', g (ρ.set i (some (.int (v : Nat)))) = .nx ρ' ∧ I ρ') :
    ∃ ρ', sFor [] (iRange (aCons (eCall gMax2 (aCons (eC (.int kI)) (aCons (eCall gMin2 (aCons (eC (.int MI)) (aCons (eCall gLen (aCons (eVar 0) aNil)) aNil))) aNil))) aNil)) (gtName i) g ρ = .nx ρ' ∧ I ρ' := by
  subst ek eM
  obtain ⟨w, hw⟩ : ∃ w : Int, (if (ns.length : Int) < M then (ns.length : Int) else M) = w := ⟨_, rfl⟩
  obtain ⟨m, hm⟩ : ∃ m : Int, (if w > k then w else k) = m := ⟨_, rfl⟩
  have w0 : w ≤ M := by rw [← hw]; split <;> omega
  have m0 : 0 ≤ m ∧ m ≤ M := by rw [← hm]; split <;> omega
  obtain ⟨m', rfl⟩ : ∃ m' : Nat, m = (m' : Nat) := ⟨m.toNat, by omega⟩
  have k1 : okI (m' : Nat) = true := okI_small (by omega) (by omega)
  obtain ⟨ρ', r1, r2⟩ := forL_rng (n := m') (i := i) (g := g) (fun _ ρ => I ρ) ρ hI fun j ρ hj hi => by
    obtain ⟨ρ', e, h⟩ := hg j ρ (by omega) hi
    exact ⟨ρ', Or.inl e, h⟩
  have e1 : gMin2 [.int M, .int (ns.length : Nat)] = some (.int w) := by rw [← hw]; rfl
  have e2 : gMax2 [.int k, .int w] = some (.int (m' : Nat)) := by rw [← hm]; rfl
  refine ⟨ρ', ?_, r2⟩
  rw [List.getD_eq_getElem?_getD] at h0
  simp [h0, e1, e2, k1, r1]
end Nm
set_option Elab.async false
set_option linter.all false
set_option maxRecDepth 100000
set_option maxHeartbeats 4000000
namespace Pu
open PySem PySem.Spec PyProof.Rows L2
/-! ### tuple * int, all cases -/
theorem tuple_mul1 (l : Addr) (items : Array Value) (n : Nat) (dd : Option Addr) (sl : Array (Option Value)) (x : Int) (u : Tok) (c0 : (decide (x < -(2 ^ 63)) || decide (x ≥ 2 ^ 63)) = false) (c1 : (items.isEmpty || x == 1) = true) :
    Meets (Builtin.«tuple.__mul__» ⟨[.ref l, .int x u], []⟩) (fun _ R s => s.heap.get? l = some { cls := .type "tuple", dict := dd, data := .seq items n, slots := sl } ∧ R (.ok (.ret (Value.ref l))) s) :=
  .of_wp fun prog w A R s h => by
    obtain ⟨hp, g, d, tk, os⟩ := s
    obtain ⟨hl, h⟩ := h
    have f1 := AutoSeq1.idx_int
    wp_walk using wpAny_loadPart' hl
    repeat (first
      | (refine wpAny_ite_false (decide_eq_false (by rw [c0]; exact Bool.false_ne_true)) ?_; wp_walk using wpAny_loadPart' hl)
      | (refine wpAny_ite_true (decide_eq_true (by rw [c1])) ?_; wp_walk using wpAny_loadPart' hl))
    exact ⟨_, rfl, h⟩
theorem tuple_mul0 (l : Addr) (items : Array Value) (n : Nat) (dd : Option Addr) (sl : Array (Option Value)) (x : Int) (u : Tok) (c0 : (decide (x < -(2 ^ 63)) || decide (x ≥ 2 ^ 63)) = false) (c1 : (items.isEmpty || x == 1) = false) (c2 : (decide (x ≤ 0) || items.isEmpty) = true) :
    Meets (Builtin.«tuple.__mul__» ⟨[.ref l, .int x u], []⟩) (fun _ R s => s.heap.get? l = some { cls := .type "tuple", dict := dd, data := .seq items n, slots := sl } ∧
      R (.ok (.ret (Value.ref s.heap.objs.size))) { s with heap := s.heap.push { cls := Value.type "tuple", data := Data.seq #[] }, toks := s.toks }) :=
  .of_wp fun prog w A R s h => by
    obtain ⟨hp, g, d, tk, os⟩ := s
    obtain ⟨hl, h⟩ := h
    have f1 := AutoSeq1.idx_int
    wp_walk using wpAny_loadPart' hl
    repeat (first
      | (refine wpAny_ite_false (decide_eq_false (by rw [c0]; exact Bool.false_ne_true)) ?_; wp_walk using wpAny_loadPart' hl)
      | (refine wpAny_ite_false (decide_eq_false (by rw [c1]; exact Bool.false_ne_true)) ?_; wp_walk using wpAny_loadPart' hl)
      | (refine wpAny_ite_true (decide_eq_true (by rw [c2])) ?_; wp_walk using wpAny_loadPart' hl))
    exact ⟨_, rfl, h⟩
/-- a tuple times k, at most 1000 of each -/
def rRepA (K : PySem.W.Frag) : R2 := fun x y H Q => ∃ l k xs, x = .ref l ∧ y = .int k ∧ SqT K H l xs ∧ -(2 ^ 62) ≤ k ∧ k ≤ 1000 ∧ xs.length ≤ 1000 ∧ ((xs = [] ∨ k = 1) → Q (.ref l) H) ∧ (xs ≠ [] → k ≠ 1 → ∀ p, H p = none → Q (.ref p) (upd H p (.tup (List.replicate k.toNat xs).flatten)))
theorem op_repA {X : Cx} : OpR X (binaryOp .Mult) (rRepA X.K) := by
  intro pins s σ H x y v u Q I rx ry h
  obtain ⟨l, k, xs, rfl, rfl, hT, h0, h1, hz, q1, q2⟩ := h
  by_cases c : xs = [] ∨ k = 1
  case neg =>
    have c' : xs ≠ [] ∧ k ≠ 1 := ⟨fun z => c (.inl z), fun z => c (.inr z)⟩
    by_cases k2 : 2 ≤ k
    · exact op_repT pins s σ H _ _ v u Q I rx ry ⟨l, k, xs, rfl, rfl, hT, c'.1, k2, h1, hz, q2 c'.1 c'.2⟩
    · cases rx
      obtain ⟨t, rfl⟩ := ry
      obtain ⟨its, r, ⟨⟨cls, dd, data, sl⟩, ho, hc, n, hd⟩, hs⟩ := I.tuple hT
      simp only at hc hd
      subst hc hd
      have k0 : k ≤ 0 := by have := c'.2; omega
      have hle : its.length = xs.length := r.length.symm
      have hn : its ≠ [] := fun e => c'.1 (by
        rw [e] at hle
        exact List.eq_nil_of_length_eq_zero hle.symm)
      have hi : its.toArray.isEmpty = false := by
        cases its with
        | nil => exact absurd rfl hn
        | cons a b => rfl
      have c0 : (decide (k < -(2 ^ 63)) || decide (k ≥ 2 ^ 63)) = false := by
        rw [decide_eq_false (by omega), decide_eq_false (by omega)] <;> rfl
      have c1 : (its.toArray.isEmpty || k == 1) = false := by
        rw [hi, Bool.false_or]
        exact beq_eq_false_iff_ne.mpr (by omega)
      have c2 : (decide (k ≤ 0) || its.toArray.isEmpty) = true := by
        rw [hi, Bool.or_false]
        exact decide_eq_true k0
      refine wpAny_binaryOp_repeat_ref (T := "tuple") (U := "int") (by decide) ⟨_, ho, rfl⟩ (fun s' => typeIs_int s' k t) noFill_tuple_mul F.fills_int_mul F.slot_int_rmul repeat_tuple F.slot_int_index.lookup
        (call_meets F.slot_int_rmul (typeIs_int s k t) F.entry_int_rmul (F.args_int_rmul_2 _ _) (int_rmul_tuple k t l its.toArray n dd sl)
          ⟨ho, rfl, ⟨_, ho, rfl⟩, call_meets F.slot_tuple_mul ⟨_, ho, rfl⟩ F.entry_tuple_mul (F.args_tuple_mul_2 _ _) (tuple_mul0 l its.toArray n dd sl k t c0 c1 c2) ⟨ho, ?_⟩⟩)
      have e0 : (List.replicate k.toNat xs).flatten = [] := by rw [show k.toNat = 0 by omega]; rfl
      have q3 := q2 c'.1 c'.2
      rw [e0] at q3
      refine ⟨.ref s.heap.objs.size, _, I.laid (t' := s.toks) (o := .tup []) (fun b ob q => Heap.get?_push_of_some _ q) (Nat.le_refl _) ?_, rfl, q3 _ (I.hok.fresh (Nat.le_refl _))⟩
      exact ⟨by rw [sizeLine_eq]; decide, [], .nil, IsTup.new _ _⟩
  case pos =>
    have q3 := q1 c
    cases rx
    obtain ⟨t, rfl⟩ := ry
    obtain ⟨its, r, ⟨⟨cls, dd, data, sl⟩, ho, hc, n, hd⟩, hs⟩ := I.tuple hT
    simp only at hc hd
    subst hc hd
    have hle : its.length = xs.length := r.length.symm
    have c0 : (decide (k < -(2 ^ 63)) || decide (k ≥ 2 ^ 63)) = false := by
      rw [decide_eq_false (by omega), decide_eq_false (by omega)] <;> rfl
    have c1 : (its.toArray.isEmpty || k == 1) = true := by
      rcases c with c | c
      · subst c
        have : its = [] := List.eq_nil_of_length_eq_zero (by simpa using hle)
        subst this
        rfl
      · subst c; simp
    refine wpAny_binaryOp_repeat_ref (T := "tuple") (U := "int") (by decide) ⟨_, ho, rfl⟩ (fun s' => typeIs_int s' k t) noFill_tuple_mul F.fills_int_mul F.slot_int_rmul repeat_tuple F.slot_int_index.lookup
      (call_meets F.slot_int_rmul (typeIs_int s k t) F.entry_int_rmul (F.args_int_rmul_2 _ _) (int_rmul_tuple k t l its.toArray n dd sl)
        ⟨ho, rfl, ⟨_, ho, rfl⟩, call_meets F.slot_tuple_mul ⟨_, ho, rfl⟩ F.entry_tuple_mul (F.args_tuple_mul_2 _ _) (tuple_mul1 l its.toArray n dd sl k t c0 c1) ⟨ho, ?_⟩⟩)
    exact ⟨.ref l, H, I, rfl, q3⟩
/-- times as data -/
def okRep (k : Int) (n : Nat) : Bool := decide (k.natAbs < 2 ^ 62) && decide (k.toNat ≤ 1000) && decide (n ≤ 1000)
def gRep : PyData → PyData → Option PyData
  | .tuple xs, .int k => if okRep k xs.length = true then some (.tuple (List.replicate k.toNat xs).flatten) else none
  | _, _ => none
theorem okRep_of {k : Int} {n : Nat} (h : okRep k n = true) : -(2 ^ 62) ≤ k ∧ k ≤ 1000 ∧ n ≤ 1000 := by
  unfold okRep at h
  rw [Bool.and_eq_true, Bool.and_eq_true] at h
  have a1 := of_decide_eq_true h.1.1
  have a2 := of_decide_eq_true h.1.2
  exact ⟨by omega, by omega, of_decide_eq_true h.2⟩
theorem opr_rep {X : Cx} : OpR X (binaryOp .Mult) (rRepA X.K) := op_repA
theorem op2_rep {K : PySem.W.Frag} : Op2 K (rRepA K) gRep := by
  intro H O x y d e z Q hO rx ry h q
  cases rx with
  | @tup a xs ds hx rs =>
    cases ry with
    | int k =>
      unfold gRep at h
      dsimp only at h
      by_cases c : okRep k ds.length = true
      · rw [if_pos c] at h; cases h
        obtain ⟨c1, c2, c3⟩ := okRep_of c
        refine ⟨a, k, xs, rfl, rfl, seqT hide_sub hx, c1, c2, by rw [rs.length]; exact c3, fun w => ?_, fun _ _ p hp => q _ _ (same_new hp) (new_rep hO hp (rs.rep k.toNat))⟩
        have e : (List.replicate k.toNat ds).flatten = ds := by
          rcases w with w | w
          · have : ds = [] := (rps_nil rs).mp w
            subst this; simp
          · subst w; simp
        rw [e] at q
        exact q _ H (Same.refl H) (.tup hx rs)
      · rw [if_neg c] at h; cases h
    | _ => cases h
  | _ => cases h
@[simp] theorem u_gRep (xs : List PyData) (k : Int) : gRep (.tuple xs) (.int k) = if okRep k xs.length = true then some (.tuple (List.replicate k.toNat xs).flatten) else none := rfl
/-! ### [..] * n, a new list -/
def nRep (f : Vars → R (List PyData)) (h : Vars → R PyData) (ρ : Vars) : R (List PyData) := (f ρ).bind fun ds => if ds.length ≤ sizeLine then (h ρ).bind fun e => match e with
  | .int k => if okRep k ds.length = true then .ok (List.replicate k.toNat ds).flatten else .bad
  | _ => .bad else .bad
section
variable {X : Cx} {W : WX}
theorem nx_rep {es : List Expr} {n : Expr} {f : Vars → R (List PyData)} {h : Vars → R PyData} {lpos pos : Pos} (he : AX X W es f) (hn : EX X W n h) : NX X W (.BinOp (.List es lpos) .Mult n pos) (nRep f h) := by
  obtain ⟨t, p, ht⟩ := he
  obtain ⟨u, q, hu⟩ := hn
  refine ⟨_, pe_op op_rep (pe_lst p) q, fun σ H O ρ Q hO hr z => ht σ H O ρ _ hO hr ?_⟩
  unfold nRep at z
  cases e : f ρ with
  | bad => rw [e] at z; exact z
  | err c => rw [e] at z; exact z
  | ok ds =>
    rw [e, R.bind_ok] at z
    intro vs H1 s1 r1
    by_cases c : ds.length ≤ sizeLine
    · rw [if_pos c] at z
      refine ⟨by rw [r1.length]; exact c, fun l hl => ?_⟩
      have s2 : Same H (upd H1 l (.lst vs)) := s1.trans (same_new hl)
      refine hu σ _ O ρ _ (hO.same s2) (hr.mono (hide_same s2)) ?_
      cases e2 : h ρ with
      | bad => rw [e2] at z; exact z.elim
      | err c => rw [e2] at z; exact fun H' s' => z H' (s2.trans s')
      | ok d =>
        rw [e2, R.bind_ok] at z
        intro v H3 s3 r3
        cases r3 with
        | int k =>
          dsimp only at z
          by_cases c4 : okRep k ds.length = true
          · rw [if_pos c4] at z
            obtain ⟨k1, k2, k3⟩ := okRep_of c4
            refine ⟨l, k, vs, rfl, rfl, s3 _ _ upd_same, by omega, by omega, ?_, fun p hp => ?_⟩
            · rw [r1.length]
              have : ds.length * k.toNat ≤ 1000 * 1000 := Nat.mul_le_mul k3 (by omega)
              rw [sizeLine_eq]; omega
            · refine z p _ _ ((s2.trans s3).trans (same_new hp)) ((s2.trans s3).free hp) upd_same ?_
              refine (r1.rep k.toNat).mono fun a o ha => ?_
              obtain ⟨c1, h1⟩ := hide_some ha
              have h5 : H3 a = some o := s3 _ _ ((same_new hl) _ _ h1)
              have n := ne_of_none h5 hp
              exact hide_of (fun z => (List.mem_cons.mp z).elim n c1) (by rw [upd_ne n]; exact h5)
          · rw [if_neg c4] at z; exact z.elim
        | _ => exact z.elim
    · rw [if_neg c] at z; exact z.elim
end
@[simp] theorem u_nRep (f : Vars → R (List PyData)) (h : Vars → R PyData) (ρ : Vars) : nRep f h ρ = (f ρ).bind fun ds => if ds.length ≤ sizeLine then (h ρ).bind fun e => match e with
  | .int k => if okRep k ds.length = true then .ok (List.replicate k.toNat ds).flatten else .bad
  | _ => .bad else .bad := rfl
end Pu
set_option Elab.async false
set_option linter.all false
set_option maxRecDepth 100000
set_option maxHeartbeats 4000000
namespace Pu
open PySem PySem.Spec PyProof.Rows L2
/-! ### x[k] = v, x an own list -/
def sPut (i : Nat) (fv fk : Vars → R PyData) (ρ : Vars) : Out := match ρ.getD i none with
  | some (.list ds) => (fv ρ).run ρ fun d => (fk ρ).run ρ fun k => match k with
    | .int k => match ixN ds.length k with
      | some j => if imm d = true then .nx (ρ.set i (some (.list (ds.set j d)))) else .bad
      | none => .bad
    | _ => .bad
  | _ => .bad
section
variable {X : Cx} {W : WX} {own : List Nat}
theorem sx_put {i : Nat} {x : Str} {e k : Expr} {fv fk : Vars → R PyData} {p p2 pos : Pos} (h : EX X W e fv) (hk : EX X W k fk) (ho : own.contains i = true) (hN : X.N[i]? = some x := by rfl) (hv : Vis X.env.scope x := by first | exact Or.inl rfl | exact Or.inr (Or.inl rfl) | exact Or.inr (Or.inr rfl)) (hd : (x == ("__debug__" : Str)) = false := by decide)
    (hcd : (x == ("__classdict__" : Str)) = false := by decide)
    (ha : ∀ v, assign (.Subscript (.Name x p) k p2) X.env v = (do
      let ov ← holding [v] (eval (.Name x p) X.env)
      let iv ← holding [v, ov] (eval k X.env)
      standAt p2
      holding [v, ov, iv] (setItem ov iv v)
      release [v, ov, iv] []) := by intro _; rfl)
    (hs : swapsWithSole [.Subscript (.Name x p) k p2] e pos.line X.env = pure false := by rfl) (hw : swappedStores [.Subscript (.Name x p) k p2] e X.env = pure none := by rfl)
    (h1 : (assignEach [.Subscript (.Name x p) k p2] X.env).map (·.2) = [assign (.Subscript (.Name x p) k p2) X.env] := by rfl) :
    SX X W own (.Assign [.Subscript (.Name x p) k p2] e pos) (sPut i fv fk) := by
  obtain ⟨t, q, ht⟩ := h
  obtain ⟨u, q2, hu⟩ := hk
  have hi : i ∈ own := List.contains_iff_mem.mp ho
  refine ⟨_, ps_asg q (pg_sub (pe_var hN hv hd hcd) q2 set_list ha) hs hw h1, fun σ H ρ D H0 O0 O r z => ?_⟩
  unfold sPut at z
  obtain ⟨ds, e1, z⟩ := getD_list z
  refine ht σ H O0 ρ _ r.stands0 r.vrel0 (EOut.run r z fun d v H1 s1 rv z1 r1 => ?_)
  obtain ⟨a, vs, g1, g2, g3, g4, g5⟩ := own_list hi r1 e1
  refine ⟨.ref a, g1, hu σ H1 O0 ρ _ r1.stands0 r1.vrel0 (EOut.run r1 z1 fun kd kv H2 s2 rk z2 r2 => ?_)⟩
  cases rk with
  | int k =>
    dsimp only at z2
    cases e3 : ixN ds.length k with
    | none => rw [e3] at z2; exact z2.elim
    | some j =>
      rw [e3] at z2
      dsimp only at z2
      by_cases c : imm d = true
      · rw [if_pos c] at z2
        have rO := r2.imm (rv.mono (hide_same s2)) c
        obtain ⟨r3, sF⟩ := r2.write hi (getD_some e1) g1 g2 g3 (s2 _ _ g4) ((g5.mono (hide_same s2)).set j rO)
        exact ⟨a, vs, k, j, rfl, rfl, s2 _ _ g4, by rw [g5.length]; exact e3, z2 σ _ O r3 sF⟩
      · rw [if_neg c] at z2; exact z2.elim
  | _ => exact z2.elim
end
@[simp] theorem u_sPut (i : Nat) (fv fk : Vars → R PyData) (ρ : Vars) : sPut i fv fk ρ = match ρ.getD i none with
  | some (.list ds) => (fv ρ).run ρ fun d => (fk ρ).run ρ fun k => match k with
    | .int k => match ixN ds.length k with
      | some j => if imm d = true then .nx (ρ.set i (some (.list (ds.set j d)))) else .bad
      | none => .bad
    | _ => .bad
  | _ => .bad := rfl
/-! ### an own list of own lists -/
/-- the inner lists -/
structure Inner (K : PySem.W.Frag) (H0 : Hp) (O : List Addr) (H : Hp) (as : List Addr) (dss : List (List PyData)) : Prop where
  len : as.length = dss.length
  nd : as.Nodup
  mem : ∀ (j : Nat) (a : Addr) (ds : List PyData), as[j]? = some a → dss[j]? = some ds → a ∈ O ∧ H0 a = none ∧ ∃ vs, H a = some (.lst vs) ∧ Rps K (hide O H) vs ds
structure RelD (K : PySem.W.Frag) (own : List Nat) (iu : Nat) (H0 : Hp) (O0 O : List Addr) (σ : L2.St) (H : Hp) (ρ : Vars) : Prop where
  base : Rel K own H0 O0 O σ H (ρ.set iu none)
  nown : iu ∉ own
  deep : ∃ U as dss, ρ[iu]? = some (some (.list (dss.map .list))) ∧ σ[iu]? = some (some (.ref U)) ∧ U ∈ O ∧ H0 U = none ∧ H U = some (.lst (as.map V.ref)) ∧ U ∉ as ∧ Inner K H0 O H as dss ∧
    ∀ (i : Nat) (d : PyData) (b : Addr), i ∈ own → ρ[i]? = some (some d) → σ[i]? = some (some (.ref b)) → b ≠ U ∧ b ∉ as
theorem Inner.mono {K : PySem.W.Frag} {H0 : Hp} {O O' : List Addr} {H H' : Hp} {as : List Addr} {dss : List (List PyData)} (h : Inner K H0 O H as dss) (sO : ∀ a ∈ O, a ∈ O') (s : ∀ a ∈ as, H' a = H a) (sF : Same (hide O H) (hide O' H')) : Inner K H0 O' H' as dss := ⟨h.len, h.nd, fun j a ds e1 e2 => by
  obtain ⟨h1, h2, vs, h3, h4⟩ := h.mem j a ds e1 e2
  exact ⟨sO a h1, h2, vs, by rw [s a (List.mem_of_getElem? e1)]; exact h3, h4.mono sF⟩⟩
theorem set_getElem? {ρ : Vars} {iu : Nat} {i : Nat} (h : i ≠ iu) : (ρ.set iu none)[i]? = ρ[i]? := by rw [List.getElem?_set_ne (fun z => h z.symm)]
section
variable {K : PySem.W.Frag} {own : List Nat} {iu : Nat} {H0 : Hp} {O0 O : List Addr} {σ : L2.St} {H H' : Hp} {ρ : Vars}
theorem RelD.stands (r : RelD K own iu H0 O0 O σ H ρ) : Stands O H := r.base.stands
theorem RelD.stands0 (r : RelD K own iu H0 O0 O σ H ρ) : Stands O0 H := r.base.stands0
theorem RelD.same (r : RelD K own iu H0 O0 O σ H ρ) : Same H0 H := r.base.same
theorem inner_rps {h : Same (hide O H) (hide O0 H)} : ∀ {as : List Addr} {dss : List (List PyData)}, (∀ (j : Nat) (a : Addr) (ds : List PyData), as[j]? = some a → dss[j]? = some ds → a ∉ O0 ∧ ∃ vs, H a = some (.lst vs) ∧ Rps K (hide O H) vs ds) → as.length = dss.length → Rps K (hide O0 H) (as.map V.ref) (dss.map PyData.list)
  | [], [], _, _ => .nil
  | [], _ :: _, _, l => by cases l
  | _ :: _, [], _, l => by cases l
  | a :: as, ds :: dss, m, l => by
    obtain ⟨n, vs, h1, h2⟩ := m 0 a ds rfl rfl
    exact .cons (.lst (.inl (.inl (hide_of n h1))) (h2.mono h)) (inner_rps (h := h) (fun j b es e1 e2 => m (j + 1) b es e1 e2) (by simpa using l))
theorem RelD.vrel0 (r : RelD K own iu H0 O0 O σ H ρ) : VRel K (hide O0 H) σ ρ := ⟨by simpa using r.base.len, fun i d e => by
  by_cases c : i = iu
  · subst c
    obtain ⟨U, as, dss, h1, h2, h3, h4, h5, h6, h7, h8⟩ := r.deep
    rw [h1] at e
    cases e
    refine ⟨_, h2, .lst (.inl (.inl (hide_of (r.base.notO0 h4) h5))) (inner_rps (h := hide_less r.base.sub) (fun j a ds e1 e2 => ?_) h7.len)⟩
    obtain ⟨g1, g2, vs, g3, g4⟩ := h7.mem j a ds e1 e2
    exact ⟨r.base.notO0 g2, vs, g3, g4⟩
  · exact r.base.vrel0.get i d (by rw [set_getElem? c]; exact e)⟩
theorem mask_setN {own : List Nat} {iu : Nat} {ρ : Vars} : mask (iu :: own) ρ = mask own (ρ.set iu none) := by
  apply List.ext_getElem?
  intro i
  unfold mask
  rw [maskF_get, maskF_get, Nat.zero_add]
  by_cases c : i = iu
  · subst c
    rw [if_pos (by simp)]
    by_cases hl : i < ρ.length
    · rw [List.getElem?_eq_getElem hl, List.getElem?_set_self hl]
      split <;> rfl
    · rw [List.getElem?_eq_none (by omega), List.getElem?_eq_none (by simpa using hl)]
      split <;> rfl
  · rw [set_getElem? c]
    by_cases c2 : i ∈ own
    · rw [if_pos c2, if_pos (by simp [c2])]
    · rw [if_neg c2, if_neg (by simp [c, c2])]
theorem RelD.vrelM (r : RelD K own iu H0 O0 O σ H ρ) : VRel K (hide O H) σ (mask (iu :: own) ρ) := by
  rw [mask_setN]; exact r.base.vrelM
theorem RelD.imm (r : RelD K own iu H0 O0 O σ H ρ) {v : V} {d : PyData} (h : Rp K (hide O0 H) v d) (e : imm d = true) : Rp K (hide O H) v d := r.base.imm h e
theorem RelD.step (r : RelD K own iu H0 O0 O σ H ρ) (s : Same H H') : RelD K own iu H0 O0 O σ H' ρ := ⟨r.base.step s, r.nown, by
  obtain ⟨U, as, dss, h1, h2, h3, h4, h5, h6, h7, h8⟩ := r.deep
  refine ⟨U, as, dss, h1, h2, h3, h4, s _ _ h5, h6, ⟨h7.len, h7.nd, fun j a ds e1 e2 => ?_⟩, h8⟩
  obtain ⟨g1, g2, vs, g3, g4⟩ := h7.mem j a ds e1 e2
  exact ⟨g1, g2, vs, s _ _ g3, g4.mono (hide_same s)⟩⟩
theorem RelD.set (r : RelD K own iu H0 O0 O σ H ρ) {i : Nat} {v : V} {d : PyData} (c : i ∉ own) (c2 : i ≠ iu) (h : Rp K (hide O H) v d) : RelD K own iu H0 O0 O (σ.set i (some v)) H (ρ.set i (some d)) := ⟨by
    rw [List.set_comm _ _ c2]; exact r.base.set c h, r.nown, by
  obtain ⟨U, as, dss, h1, h2, h3, h4, h5, h6, h7, h8⟩ := r.deep
  refine ⟨U, as, dss, by rw [List.getElem?_set_ne c2]; exact h1, by rw [List.getElem?_set_ne c2]; exact h2, h3, h4, h5, h6, h7, fun j e b hj e1 e2 => ?_⟩
  have n : i ≠ j := fun z => c (z ▸ hj)
  rw [List.getElem?_set_ne n] at e1 e2
  exact h8 j e b hj e1 e2⟩
/-- slots of no own list are changed -/
theorem RelD.other (r : RelD K own iu H0 O0 O σ H ρ) {σ' : L2.St} {ρ' : Vars} {js : List Nat} (hj : ∀ j ∈ js, j ∉ iu :: own) (hl : σ'.length = σ.length) (v : VRel K (hide O H) σ' (mask (iu :: own) ρ')) (f : ∀ j : Nat, j ∉ js → σ'[j]? = σ[j]? ∧ (mask (iu :: own) ρ')[j]? = (mask (iu :: own) ρ)[j]?) (f2 : ∀ j : Nat, j ∉ js → ρ'[j]? = ρ[j]?) : RelD K own iu H0 O0 O σ' H ρ' := ⟨by
    refine r.base.other (js := js) (fun j h z => hj j h (List.mem_cons_of_mem _ z)) hl (by rw [← mask_setN]; exact v) (fun j h => by rw [← mask_setN, ← mask_setN]; exact f j h) fun j ho => ?_
    have n : j ≠ iu := fun z => r.nown (z ▸ ho)
    rw [set_getElem? n, set_getElem? n]
    exact f2 j fun z => hj j z (List.mem_cons_of_mem _ ho), r.nown, by
  obtain ⟨U, as, dss, h1, h2, h3, h4, h5, h6, h7, h8⟩ := r.deep
  have nu : iu ∉ js := fun z => hj iu z (by simp)
  refine ⟨U, as, dss, by rw [f2 iu nu]; exact h1, by rw [(f iu nu).1]; exact h2, h3, h4, h5, h6, h7, fun j e b ho e1 e2 => ?_⟩
  have n : j ∉ js := fun z => hj j z (List.mem_cons_of_mem _ ho)
  rw [f2 j n] at e1
  rw [(f j n).1] at e2
  exact h8 j e b ho e1 e2⟩
/-- an object that is hidden and of no own variable is changed -/
theorem Rel.upd_hid (r : Rel K own H0 O0 O σ H ρ) {a : Addr} {vs vs' : List V} (ha : a ∈ O) (h0 : H0 a = Option.none) (h : H a = some (.lst vs)) (hn : ∀ (i : Nat) (d : PyData) (b : Addr), i ∈ own → ρ[i]? = some (some d) → σ[i]? = some (some (.ref b)) → b ≠ a) :
    Rel K own H0 O0 O σ (upd H a (.lst vs')) ρ ∧ Same (hide O H) (hide O (upd H a (.lst vs'))) := by
  have hid : ∀ o', hide O (upd H a o') = hide O H := fun o' => by
    funext b
    unfold hide
    by_cases c : b ∈ O
    · rw [if_pos c, if_pos c]
    · rw [if_neg c, if_neg c, upd_ne (fun z => c (by rw [z]; exact ha))]
  refine ⟨⟨fun b o hb => ?_, r.st0, r.len, r.sub, fun b hb => ?_, fun i d c e => by rw [hid]; exact r.free i d c e, fun i d c e => ?_, r.apart⟩, by rw [hid]; exact Same.refl _⟩
  · rw [upd_ne (ne_of_none hb h0)]; exact r.same b o hb
  · by_cases n : b = a
    · subst n; exact .inr ⟨h0, vs', upd_same⟩
    · rw [upd_ne n]; exact r.lists b hb
  · obtain ⟨b, us, es, g0, g1, g2, g3, g4, g5⟩ := r.mine i d c e
    exact ⟨b, us, es, g0, g1, g2, g3, by rw [upd_ne (hn i d b c e g1)]; exact g4, by rw [hid]; exact g5⟩
/-- a new list that nothing holds yet -/
theorem Rel.grow (r : Rel K own H0 O0 O σ H ρ) {p : Addr} {vs : List V} (s : Same H H') (hp : H p = Option.none) (hp' : H' p = some (.lst vs)) : Rel K own H0 O0 (p :: O) σ H' ρ ∧ Same (hide O H) (hide (p :: O) H') := by
  have sF : Same (hide O H) (hide (p :: O) H') := fun a o h => by
    obtain ⟨c, e⟩ := hide_some h
    exact hide_of (fun z => (List.mem_cons.mp z).elim (ne_of_none e hp) c) (s a o e)
  have r1 : Rel K own H0 O0 O σ H' ρ := r.step s
  refine ⟨⟨r1.same, r1.st0, r1.len, fun a ha => List.mem_cons_of_mem _ (r1.sub a ha), fun a ha => ?_, fun j d cj q => ?_, fun j d cj q => ?_, r.apart⟩, sF⟩
  · rcases List.mem_cons.mp ha with e | ha
    · rw [e]; exact .inr ⟨r.same.free hp, vs, hp'⟩
    · exact r1.lists a ha
  · obtain ⟨v, h1, h2⟩ := r.free j d cj q
    exact ⟨v, h1, h2.mono sF⟩
  · obtain ⟨a, us, es, h0, h1, h2, h3, h4, h5⟩ := r.mine j d cj q
    exact ⟨a, us, es, h0, h1, List.mem_cons_of_mem _ h2, h3, s _ _ h4, h5.mono sF⟩
/-- it is shown from now on -/
theorem RelD.freeze (r : RelD K own iu H0 O0 O σ H ρ) : ∃ O', Rel K own H0 O0 O' σ H ρ ∧ Same (hide O H) (hide O' H) := by
  classical
  obtain ⟨U, as, dss, h1, h2, h3, h4, h5, h6, h7, h8⟩ := r.deep
  have hm : ∀ a, a ∈ O.filter (fun a => decide (a ≠ U ∧ a ∉ as)) ↔ a ∈ O ∧ a ≠ U ∧ a ∉ as := fun a => by simp [List.mem_filter]
  have sF : Same (hide O H) (hide (O.filter fun a => decide (a ≠ U ∧ a ∉ as)) H) := hide_less fun a ha => ((hm a).mp ha).1
  have b := r.base
  refine ⟨O.filter fun a => decide (a ≠ U ∧ a ∉ as), ⟨b.same, b.st0, by simpa using b.len, fun a ha => (hm a).mpr ⟨b.sub a ha, fun z => b.st0 a ha (z ▸ h4), fun z => ?_⟩, fun a ha => b.lists a ((hm a).mp ha).1, fun i d c e => ?_, fun i d c e => ?_, fun i j d e a ci cj q1 q2 => ?_⟩, sF⟩
  · obtain ⟨j, hj⟩ := List.getElem?_of_mem z
    have hl : j < dss.length := by rw [← h7.len]; exact (List.getElem?_eq_some_iff.mp hj).1
    exact b.st0 a ha (h7.mem j a _ hj (List.getElem?_eq_getElem hl)).2.1
  · by_cases ci : i = iu
    · subst ci
      rw [h1] at e
      cases e
      refine ⟨_, h2, .lst (.inl (.inl (hide_of (fun z => ((hm U).mp z).2.1 rfl) h5))) (inner_rps (h := sF) (fun j a ds e1 e2 => ?_) h7.len)⟩
      obtain ⟨g1, g2, vs, g3, g4⟩ := h7.mem j a ds e1 e2
      exact ⟨fun z => ((hm a).mp z).2.2 (List.mem_of_getElem? e1), vs, g3, g4⟩
    · obtain ⟨v, g1, g2⟩ := b.free i d c (by rw [set_getElem? ci]; exact e)
      exact ⟨v, g1, g2.mono sF⟩
  · have ci : i ≠ iu := fun z => r.nown (z ▸ c)
    obtain ⟨a, vs, ds, g0, g1, g2, g3, g4, g5⟩ := b.mine i d c (by rw [set_getElem? ci]; exact e)
    have g8 := h8 i d a c e g1
    exact ⟨a, vs, ds, g0, g1, (hm a).mpr ⟨g2, g8⟩, g3, g4, g5.mono sF⟩
  · have ni : i ≠ iu := fun z => r.nown (z ▸ ci)
    have nj : j ≠ iu := fun z => r.nown (z ▸ cj)
    exact b.apart i j d e a ci cj (by rw [set_getElem? ni]; exact q1) (by rw [set_getElem? nj]; exact q2)
end
section
variable (X : Cx) (W : WX) (own : List Nat) (iu : Nat)
def DOut (H0 : Hp) (O0 O : List Addr) (H : Hp) (D : Ends) : Out → Prop
  | .nx ρ => ∀ σ' H' O', RelD X.K own iu H0 O0 O' σ' H' ρ → Same (hide O H) (hide O' H') → D.nx σ' H'
  | .err c ρ => ∀ σ' H' O', RelD X.K own iu H0 O0 O' σ' H' ρ → Same (hide O H) (hide O' H') → W (exV X.mg c) none σ' H'
  | .rt d => ∀ v H', Same H0 H' → Rp X.K (hide O0 H') v d → D.rt v H'
  | .bk ρ => ∀ σ' H' O', RelD X.K own iu H0 O0 O' σ' H' ρ → Same (hide O H) (hide O' H') → D.bk σ' H'
  | .ct ρ => ∀ σ' H' O', RelD X.K own iu H0 O0 O' σ' H' ρ → Same (hide O H) (hide O' H') → D.ct σ' H'
  | .bad => False
def DX (st : Stmt) (g : Vars → Out) : Prop :=
  ∃ t, PS X st t ∧ ∀ σ H ρ D H0 O0 O, RelD X.K own iu H0 O0 O σ H ρ → DOut X W own iu H0 O0 O H D (g ρ) → t D σ H
def DsX (sts : List Stmt) (g : Vars → Out) : Prop :=
  ∃ t, PSs X sts t ∧ ∀ σ H ρ D H0 O0 O, RelD X.K own iu H0 O0 O σ H ρ → DOut X W own iu H0 O0 O H D (g ρ) → t D σ H
end
section
variable {X : Cx} {W : WX} {own : List Nat} {iu : Nat}
theorem DOut.from {H0 : Hp} {O0 O O' : List Addr} {H H' : Hp} {D : Ends} {o : Out} (h : DOut X W own iu H0 O0 O H D o) (s : Same (hide O H) (hide O' H')) : DOut X W own iu H0 O0 O' H' D o := by
  cases o with
  | nx ρ => exact fun σ' H'' O'' r s' => h σ' H'' O'' r (s.trans s')
  | err c ρ => exact fun σ' H'' O'' r s' => h σ' H'' O'' r (s.trans s')
  | bk ρ => exact fun σ' H'' O'' r s' => h σ' H'' O'' r (s.trans s')
  | ct ρ => exact fun σ' H'' O'' r s' => h σ' H'' O'' r (s.trans s')
  | _ => exact h
theorem EOut.runD {f : R PyData} {k : PyData → Out} {O : List Addr} {H0 : Hp} {O0 O1 : List Addr} {σ : L2.St} {H : Hp} {ρ : Vars} {D : Ends} {Q : VK} (r : RelD X.K own iu H0 O0 O1 σ H ρ) (z : DOut X W own iu H0 O0 O1 H D (f.run ρ k))
    (q : ∀ d v H', Same H H' → Rp X.K (hide O H') v d → DOut X W own iu H0 O0 O1 H' D (k d) → RelD X.K own iu H0 O0 O1 σ H' ρ → Q v H') : EOut X W O σ H Q f := by
  cases f with
  | ok d => exact fun v H' s rv => q d v H' s rv (DOut.from z (hide_same s)) (r.step s)
  | err c => exact fun H' s => z σ H' O1 (r.step s) (hide_same s)
  | bad => exact z
theorem TOut.runD {f : R Bool} {k : Bool → Out} {H0 : Hp} {O0 O1 : List Addr} {σ : L2.St} {H : Hp} {ρ : Vars} {D : Ends} {Q : Bool → Hp → Prop} (r : RelD X.K own iu H0 O0 O1 σ H ρ) (z : DOut X W own iu H0 O0 O1 H D (f.run ρ k))
    (q : ∀ d H', Same H H' → DOut X W own iu H0 O0 O1 H' D (k d) → RelD X.K own iu H0 O0 O1 σ H' ρ → Q d H') : TOut X W σ H Q f := by
  cases f with
  | ok d => exact fun H' s => q d H' s (DOut.from z (hide_same s)) (r.step s)
  | err c => exact fun H' s => z σ H' O1 (r.step s) (hide_same s)
  | bad => exact z
theorem AOut.runD {f : R (List PyData)} {k : List PyData → Out} {O : List Addr} {H0 : Hp} {O0 O1 : List Addr} {σ : L2.St} {H : Hp} {ρ : Vars} {D : Ends} {Q : List V → Hp → Prop} (r : RelD X.K own iu H0 O0 O1 σ H ρ) (z : DOut X W own iu H0 O0 O1 H D (f.run ρ k))
    (q : ∀ d v H', Same H H' → Rps X.K (hide O H') v d → DOut X W own iu H0 O0 O1 H' D (k d) → RelD X.K own iu H0 O0 O1 σ H' ρ → Q v H') : AOut X W O σ H Q f := by
  cases f with
  | ok d => exact fun v H' s rv => q d v H' s rv (DOut.from z (hide_same s)) (r.step s)
  | err c => exact fun H' s => z σ H' O1 (r.step s) (hide_same s)
  | bad => exact z
theorem dsx_nil : DsX X W own iu [] sNil := ⟨_, pss_nil, fun σ H ρ D H0 O0 O r z => z σ H O r (Same.refl _)⟩
theorem dsx_cons {st : Stmt} {rest : List Stmt} {g h : Vars → Out} (a : DX X W own iu st g) (b : DsX X W own iu rest h) : DsX X W own iu (st :: rest) (sSeq g h) := by
  obtain ⟨t, p, ht⟩ := a
  obtain ⟨u, q, hu⟩ := b
  refine ⟨_, pss_cons p q, fun σ H ρ D H0 O0 O r z => ht σ H ρ _ H0 O0 O r ?_⟩
  unfold sSeq at z
  cases e : g ρ with
  | nx ρ1 => rw [e] at z; exact fun σ1 H1 O1 r1 s1 => hu σ1 H1 ρ1 D H0 O0 O1 r1 (DOut.from z s1)
  | rt d => rw [e] at z; exact z
  | bk ρ1 => rw [e] at z; exact z
  | ct ρ1 => rw [e] at z; exact z
  | err c ρ1 => rw [e] at z; exact z
  | bad => rw [e] at z; exact z
theorem dsx_one {st : Stmt} {g : Vars → Out} (a : DX X W own iu st g) : DsX X W own iu [st] g := by
  obtain ⟨t, p, ht⟩ := a
  exact ⟨_, pss_one p, ht⟩
theorem dx_if {c : Expr} {a b : List Stmt} {tc : Vars → R Bool} {g h : Vars → Out} {pos : Pos} (hc : TX X W c tc) (ha : DsX X W own iu a g) (hb : DsX X W own iu b h) : DX X W own iu (.If c a b pos) (sIf tc g h) := by
  obtain ⟨t, p, ht⟩ := hc
  obtain ⟨ta, pa, hta⟩ := ha
  obtain ⟨tb, pb, htb⟩ := hb
  refine ⟨_, ps_if p pa pb, fun σ H ρ D H0 O0 O r z => ht σ H O0 ρ _ r.stands0 r.vrel0 (TOut.runD r z fun d H' s z' r' => ?_)⟩
  cases d with
  | true => exact hta σ H' ρ D H0 O0 O r' z'
  | false => exact htb σ H' ρ D H0 O0 O r' z'
/-- name = value: all variables may be read, the value has no list -/
def sSetD (i : Nat) (f : Vars → R PyData) (ρ : Vars) : Out := (f ρ).run ρ fun d => if imm d = true then .nx (ρ.set i (some d)) else .bad
theorem dx_set {i : Nat} {x : Str} {e : Expr} {f : Vars → R PyData} {pos' pos : Pos} (hN : X.N.Nodup) (hi : X.N[i]? = some x) (hx : Loc X.env.scope x) (h : EX X W e f) (ho : (iu :: own).contains i = false) (hs : swapsWith e (some (.Name x pos')) pos.line X.env = pure false := by rfl) (hf : X.fn x = true ∨ X.env.scope.names.lookup x = some .local := by first | exact .inl rfl | exact .inr rfl | assumption) :
    DX X W own iu (.Assign [.Name x pos'] e pos) (sSetD i f) := by
  obtain ⟨t, p, ht⟩ := h
  have hi' : i ∉ iu :: own := fun z => by rw [List.contains_iff_mem.mpr z] at ho; cases ho
  refine ⟨_, ps_set hN hi hx p hs hf, fun σ H ρ D H0 O0 O r z => ht σ H O0 ρ _ r.stands0 r.vrel0 (EOut.runD r z fun d v H' s rv z' r' => ?_)⟩
  by_cases c : imm d = true
  · rw [if_pos c] at z'
    exact z' _ H' O (r'.set (fun z => hi' (List.mem_cons_of_mem _ z)) (fun z => hi' (by simp [z])) (r'.imm rv c)) (Same.refl _)
  · rw [if_neg c] at z'; exact z'.elim
/-- name = a new own list -/
def sNewD (iu : Nat) (own : List Nat) (i : Nat) (f : Vars → R (List PyData)) (ρ : Vars) : Out := (f (mask (iu :: own) ρ)).run ρ fun ds => .nx (ρ.set i (some (.list ds)))
theorem dx_new {i : Nat} {x : Str} {e : Expr} {f : Vars → R (List PyData)} {pos' pos : Pos} (hN : X.N.Nodup) (hi : X.N[i]? = some x) (hx : Loc X.env.scope x) (h : NX X W e f) (ho : own.contains i = true) (hs : swapsWith e (some (.Name x pos')) pos.line X.env = pure false := by rfl) (hf : X.fn x = true ∨ X.env.scope.names.lookup x = some .local := by first | exact .inl rfl | exact .inr rfl | assumption) :
    DX X W own iu (.Assign [.Name x pos'] e pos) (sNewD iu own i f) := by
  obtain ⟨t, p, ht⟩ := h
  have hi' : i ∈ own := List.contains_iff_mem.mp ho
  refine ⟨_, ps_set hN hi hx p hs hf, fun σ H ρ D H0 O0 O r z => ht σ H O _ _ r.stands r.vrelM ?_⟩
  have ni : i ≠ iu := fun e => r.nown (e ▸ hi')
  unfold sNewD at z
  cases e : f (mask (iu :: own) ρ) with
  | bad => rw [e] at z; exact z
  | err c => rw [e] at z; exact fun H' s => z σ H' O (r.step s) (hide_same s)
  | ok ds =>
    rw [e] at z
    intro q vs H' s h1 h2 h3
    obtain ⟨r', sF⟩ := r.base.laid hi' s h1 h2 h3
    refine z _ H' _ ⟨by rw [List.set_comm _ _ ni]; exact r', r.nown, ?_⟩ sF
    obtain ⟨U, as, dss, k1, k2, k3, k4, k5, k6, k7, k8⟩ := r.deep
    have nq : q ∉ O := r.stands.new h1
    refine ⟨U, as, dss, by rw [List.getElem?_set_ne ni]; exact k1, by rw [List.getElem?_set_ne ni]; exact k2, List.mem_cons_of_mem _ k3, k4, s _ _ k5, k6, ⟨k7.len, k7.nd, fun j a ds e1 e2 => ?_⟩, fun j d b hj e1 e2 => ?_⟩
    · obtain ⟨g1, g2, us, g3, g4⟩ := k7.mem j a ds e1 e2
      exact ⟨List.mem_cons_of_mem _ g1, g2, us, s _ _ g3, g4.mono sF⟩
    · by_cases c : i = j
      · subst c
        have hlt : i < σ.length := by
          rcases Nat.lt_or_ge i σ.length with h | h
          · exact h
          · rw [List.getElem?_eq_none (by simpa using h)] at e2; cases e2
        rw [List.getElem?_set_self hlt] at e2
        cases e2
        refine ⟨fun z => nq (z ▸ k3), fun z => ?_⟩
        obtain ⟨j, hj⟩ := List.getElem?_of_mem z
        have hl : j < dss.length := by rw [← k7.len]; exact (List.getElem?_eq_some_iff.mp hj).1
        exact nq (k7.mem j q _ hj (List.getElem?_eq_getElem hl)).1
      · rw [List.getElem?_set_ne c] at e1 e2
        exact k8 j d b hj e1 e2
/-- x.append(e), x an own list, all variables may be read -/
theorem RelD.write {H0 : Hp} {O0 O : List Addr} {σ : L2.St} {H : Hp} {ρ : Vars} {i : Nat} (hi : i ∈ own) {a : Addr} {vs vs' : List V} {d : PyData} {es : List PyData} (r : RelD X.K own iu H0 O0 O σ H ρ) (q : ρ[i]? = some (some d)) (e : σ[i]? = some (some (.ref a))) (ha : a ∈ O) (h0 : H0 a = none) (h : H a = some (.lst vs)) (rs : Rps X.K (hide O H) vs' es) :
    RelD X.K own iu H0 O0 O σ (upd H a (.lst vs')) (ρ.set i (some (.list es))) ∧ Same (hide O H) (hide O (upd H a (.lst vs'))) := by
  have ni : i ≠ iu := fun e => r.nown (e ▸ hi)
  obtain ⟨b, sF⟩ := r.base.write hi (by rw [set_getElem? ni]; exact q) e ha h0 h rs
  refine ⟨⟨by rw [List.set_comm _ _ ni]; exact b, r.nown, ?_⟩, sF⟩
  obtain ⟨U, as, dss, k1, k2, k3, k4, k5, k6, k7, k8⟩ := r.deep
  obtain ⟨n1, n2⟩ := k8 i d a hi q e
  refine ⟨U, as, dss, by rw [List.getElem?_set_ne ni]; exact k1, k2, k3, k4, by rw [upd_ne (Ne.symm n1)]; exact k5, k6, k7.mono (fun _ h => h) (fun b hb => upd_ne fun z => n2 (z ▸ hb)) sF, fun j d' b hj e1 e2 => ?_⟩
  by_cases c : i = j
  · subst c; exact k8 i d b hi q e2
  · rw [List.getElem?_set_ne c] at e1; exact k8 j d' b hj e1 e2
theorem own_listD {i : Nat} (hi : i ∈ own) {H0 : Hp} {O0 O : List Addr} {σ : L2.St} {H : Hp} {ρ : Vars} {ds : List PyData} (r : RelD X.K own iu H0 O0 O σ H ρ) (e : ρ.getD i none = some (.list ds)) : ∃ a vs, σ[i]? = some (some (.ref a)) ∧ a ∈ O ∧ H0 a = none ∧ H a = some (.lst vs) ∧ Rps X.K (hide O H) vs ds := by
  have ni : i ≠ iu := fun e => r.nown (e ▸ hi)
  obtain ⟨a, vs, ds', h0, h1, h2, h3, h4, h5⟩ := r.base.mine i _ hi (by rw [set_getElem? ni]; exact getD_some e)
  cases h0
  exact ⟨a, vs, h1, h2, h3, h4, h5⟩
theorem getD_listD {ρ : Vars} {i : Nat} {k : List PyData → Out} {H0 : Hp} {O0 O : List Addr} {H : Hp} {D : Ends} (z : DOut X W own iu H0 O0 O H D (match ρ.getD i none with
    | some (.list ds) => k ds
    | _ => .bad)) : ∃ ds, ρ.getD i none = some (.list ds) ∧ DOut X W own iu H0 O0 O H D (k ds) := by
  cases e : ρ.getD i none with
  | none => rw [e] at z; exact z.elim
  | some d =>
    rw [e] at z
    cases d with
    | list ds => exact ⟨ds, rfl, z⟩
    | _ => exact z.elim
section
variable {i : Nat} {x : Str} {e : Expr} {f : Vars → R PyData} {p apos cpos pos : Pos}
theorem dx_app (h : EX X W e f) (ho : own.contains i = true) (hN : X.N[i]? = some x := by rfl) (hv : Vis X.env.scope x := by first | exact Or.inl rfl | exact Or.inr (Or.inl rfl) | exact Or.inr (Or.inr rfl)) (hd : (x == ("__debug__" : Str)) = false := by decide)
    (hcd : (x == ("__classdict__" : Str)) = false := by decide)
    (hbase : attributeBase (.Name x p) "append" X.env (eval (.Name x p) X.env) = eval (.Name x p) X.env := by rfl)
    (hfew : ((backTo cpos (starEach [e] X.env)).all (fun x => !x.1) && (backToKw cpos (keywordEach [] X.env)).all (fun x => x.1.isSome)
      && decide (([e] : List Expr).length + ([] : List Keyword).length + (if ([] : List Keyword).isEmpty then 0 else 1) < 30)) = true := by rfl)
    (hline : (apos.endLine == cpos.line) = true := by rfl) (hs : starEach [e] X.env = (false, eval e X.env) :: starEach [] X.env := by rfl) (hplain : (backTo cpos (starEach [] X.env)).any (·.1) = false := by rfl)
    (hsw : swapsWith (.Call (.Attribute (.Name x p) "append" apos) [e] [] cpos) none pos.line X.env = pure false := by rfl) :
    DX X W own iu (.Expr (.Call (.Attribute (.Name x p) "append" apos) [e] [] cpos) pos) (sApp i f) := by
  obtain ⟨t, q, ht⟩ := h
  have hi : i ∈ own := List.contains_iff_mem.mp ho
  refine ⟨_, ps_expr (pe_bm PySem.F.plainAttrs_list PySem.F.slot_list_append PySem.F.type_list_append mt_append (pe_var hN hv hd hcd) (pa_cons q pa_nil hs) hbase hfew hline hs hplain) hsw, fun σ H ρ D H0 O0 O r z => ?_⟩
  unfold sApp at z
  obtain ⟨ds, e1, z⟩ := getD_listD z
  obtain ⟨a, vs, g1, g2, g3, g4, g5⟩ := own_listD hi r e1
  refine ⟨.ref a, g1, .inl ⟨rfl, vs, .inl (.inl g4)⟩, ht σ H O0 ρ _ r.stands0 r.vrel0 (EOut.runD r z fun d v H' s rv z' r' => ?_)⟩
  by_cases c : (decide (ds.length < sizeLine) && imm d) = true
  · rw [if_pos c] at z'
    rw [Bool.and_eq_true] at c
    have rO := r'.imm rv c.2
    obtain ⟨r2, sF⟩ := r'.write hi (getD_some e1) g1 g2 g3 (s _ _ g4) ((g5.mono (hide_same s)).append (.cons rO .nil))
    exact ⟨a, vs, v, rfl, rfl, s _ _ g4, by rw [g5.length]; exact of_decide_eq_true c.1, z' σ _ O r2 sF⟩
  · rw [if_neg c] at z'; exact z'.elim
end
/-- x.append([]), x the list of lists -/
def sAppN (iu : Nat) (ρ : Vars) : Out := match ρ.getD iu none with
  | some (.list ls) => if ls.length < sizeLine then .nx (ρ.set iu (some (.list (ls ++ [.list []])))) else .bad
  | _ => .bad
theorem deep_of {H0 : Hp} {O0 O : List Addr} {σ : L2.St} {H : Hp} {ρ : Vars} {ls : List PyData} (r : RelD X.K own iu H0 O0 O σ H ρ) (e : ρ.getD iu none = some (.list ls)) : ∃ U as dss, ls = dss.map .list ∧ iu < ρ.length ∧ σ[iu]? = some (some (.ref U)) ∧ U ∈ O ∧ H0 U = none ∧ H U = some (.lst (as.map V.ref)) ∧ U ∉ as ∧ Inner X.K H0 O H as dss ∧
    ∀ (i : Nat) (d : PyData) (b : Addr), i ∈ own → ρ[i]? = some (some d) → σ[i]? = some (some (.ref b)) → b ≠ U ∧ b ∉ as := by
  obtain ⟨U, as, dss, k1, k2, k3, k4, k5, k6, k7, k8⟩ := r.deep
  rw [getD_some e] at k1
  cases k1
  exact ⟨U, as, dss, rfl, (List.getElem?_eq_some_iff.mp (getD_some e)).1, k2, k3, k4, k5, k6, k7, k8⟩
section
variable {x : Str} {p apos cpos lpos pos : Pos}
theorem dx_appN (hN : X.N[iu]? = some x := by rfl) (hv : Vis X.env.scope x := by first | exact Or.inl rfl | exact Or.inr (Or.inl rfl) | exact Or.inr (Or.inr rfl)) (hd : (x == ("__debug__" : Str)) = false := by decide)
    (hcd : (x == ("__classdict__" : Str)) = false := by decide)
    (hbase : attributeBase (.Name x p) "append" X.env (eval (.Name x p) X.env) = eval (.Name x p) X.env := by rfl)
    (hfew : ((backTo cpos (starEach [.List [] lpos] X.env)).all (fun x => !x.1) && (backToKw cpos (keywordEach [] X.env)).all (fun x => x.1.isSome)
      && decide (([.List [] lpos] : List Expr).length + ([] : List Keyword).length + (if ([] : List Keyword).isEmpty then 0 else 1) < 30)) = true := by rfl)
    (hline : (apos.endLine == cpos.line) = true := by rfl) (hs : starEach [.List [] lpos] X.env = (false, eval (.List [] lpos) X.env) :: starEach [] X.env := by rfl) (hplain : (backTo cpos (starEach [] X.env)).any (·.1) = false := by rfl)
    (hsw : swapsWith (.Call (.Attribute (.Name x p) "append" apos) [.List [] lpos] [] cpos) none pos.line X.env = pure false := by rfl) :
    DX X W own iu (.Expr (.Call (.Attribute (.Name x p) "append" apos) [.List [] lpos] [] cpos) pos) (sAppN iu) := by
  refine ⟨_, ps_expr (pe_bm PySem.F.plainAttrs_list PySem.F.slot_list_append PySem.F.type_list_append mt_append (pe_var hN hv hd hcd) (pa_cons (pe_lst pa_nil) pa_nil hs) hbase hfew hline hs hplain) hsw, fun σ H ρ D H0 O0 O r z => ?_⟩
  unfold sAppN at z
  obtain ⟨ls, e1, z⟩ := getD_listD z
  obtain ⟨U, as, dss, rfl, hlt, k2, k3, k4, k5, k6, k7, k8⟩ := deep_of r e1
  refine ⟨.ref U, k2, .inl ⟨rfl, _, .inl (.inl k5)⟩, ⟨Nat.zero_le _, fun q hq => ?_⟩⟩
  by_cases c : (dss.map PyData.list).length < sizeLine
  case neg => rw [if_neg c] at z; exact z.elim
  rw [if_pos c] at z
  have s1 : Same H (upd H q (.lst [])) := same_new hq
  have nU : U ≠ q := fun e => by rw [← e, k5] at hq; cases hq
  have nq : q ∉ O := r.stands.new hq
  have mO : ∀ a ∈ as, a ∈ O := fun a ha => by
    obtain ⟨j, hj⟩ := List.getElem?_of_mem ha
    have hl : j < dss.length := by rw [← k7.len]; exact (List.getElem?_eq_some_iff.mp hj).1
    exact (k7.mem j a _ hj (List.getElem?_eq_getElem hl)).1
  refine ⟨U, as.map V.ref, .ref q, rfl, rfl, s1 _ _ k5, by rw [List.length_map, k7.len]; simpa using c, ?_⟩
  obtain ⟨b1, sF1⟩ := r.base.grow s1 hq (vs := []) upd_same
  obtain ⟨b2, sF2⟩ := b1.upd_hid (a := U) (vs' := as.map V.ref ++ [V.ref q]) (List.mem_cons_of_mem _ k3) k4 (s1 _ _ k5) (fun i d b hi e1 e2 => by
    have ni : i ≠ iu := fun z => r.nown (z ▸ hi)
    exact (k8 i d b hi (by rw [← set_getElem? ni]; exact e1) e2).1)
  have sF := sF1.trans sF2
  refine z σ _ (q :: O) ⟨by rw [List.set_set]; exact b2, r.nown, U, as ++ [q], dss ++ [[]], by rw [List.getElem?_set_self hlt]; simp, k2, List.mem_cons_of_mem _ k3, k4, by rw [upd_same]; simp, ?_, ⟨?_, ?_, fun j a ds e1 e2 => ?_⟩, fun i d b hi e1 e2 => ?_⟩ sF
  · rw [List.mem_append]; rintro (h | h)
    · exact k6 h
    · simp at h; exact nU h
  · simp [k7.len]
  · rw [List.nodup_append]
    refine ⟨k7.nd, by simp, fun a ha b hb => ?_⟩
    simp at hb; subst hb
    exact fun z => nq (z ▸ mO a ha)
  · by_cases hj : j < as.length
    · rw [List.getElem?_append_left hj] at e1
      rw [List.getElem?_append_left (by rw [← k7.len]; exact hj)] at e2
      obtain ⟨g1, g2, vs, g3, g4⟩ := k7.mem j a ds e1 e2
      have na : a ≠ U := fun z => k6 (z ▸ List.mem_of_getElem? e1)
      exact ⟨List.mem_cons_of_mem _ g1, g2, vs, by rw [upd_ne na]; exact s1 _ _ g3, g4.mono sF⟩
    · rw [List.getElem?_append_right (by omega)] at e1
      rw [List.getElem?_append_right (by rw [← k7.len]; omega)] at e2
      obtain ⟨n, hn⟩ : ∃ n, j - as.length = n := ⟨_, rfl⟩
      rw [← k7.len] at e2
      rw [hn] at e1 e2
      cases n with
      | succ n => simp at e1
      | zero =>
        simp at e1 e2
        subst e1 e2
        exact ⟨List.mem_cons_self, r.same.free hq, [], by rw [upd_ne (Ne.symm nU)]; exact upd_same, .nil⟩
  · have ni : i ≠ iu := fun z => r.nown (z ▸ hi)
    rw [List.getElem?_set_ne (Ne.symm ni)] at e1
    obtain ⟨g1, g2⟩ := k8 i d b hi e1 e2
    refine ⟨g1, fun z => ?_⟩
    rcases List.mem_append.mp z with z | z
    · exact g2 z
    · simp at z
      subst z
      obtain ⟨a', us, es, w0, w1, w2, w3, w4, w5⟩ := r.base.mine i d hi (by rw [set_getElem? ni]; exact e1)
      rw [w1] at e2
      cases e2
      exact nq w2
end
/-- x[k].insert(i, e), x the list of lists -/
def sIns (iu : Nat) (fk : Vars → R PyData) (fa : Vars → R (List PyData)) (ρ : Vars) : Out := match ρ.getD iu none with
  | some (.list ls) => (fk ρ).run ρ fun k => match k with
    | .int k => match ixN ls.length k with
      | some j => match ls[j]? with
        | some (.list ds) => (fa ρ).run ρ fun as => match as with
          | [.int i, d] => if (decide (0 ≤ i) && decide (i.natAbs < 2 ^ 62) && decide (ds.length < sizeLine) && imm d) = true then .nx (ρ.set iu (some (.list (ls.set j (.list (ds.take i.toNat ++ [d] ++ ds.drop i.toNat)))))) else .bad
          | _ => .bad
        | _ => .bad
      | none => .bad
    | _ => .bad
  | _ => .bad
section
variable {x : Str} {k e1 e2 : Expr} {fk : Vars → R PyData} {fa : Vars → R (List PyData)} {p p2 apos cpos pos : Pos}
theorem dx_ins (hk : EX X W k fk) (h : AX X W [e1, e2] fa) (hpi : PlainIx k) (hN : X.N[iu]? = some x := by rfl) (hv : Vis X.env.scope x := by first | exact Or.inl rfl | exact Or.inr (Or.inl rfl) | exact Or.inr (Or.inr rfl)) (hd : (x == ("__debug__" : Str)) = false := by decide)
    (hcd : (x == ("__classdict__" : Str)) = false := by decide)
    (hbase : attributeBase (.Subscript (.Name x p) k p2) "insert" X.env (eval (.Subscript (.Name x p) k p2) X.env) = eval (.Subscript (.Name x p) k p2) X.env := by rfl)
    (hfew : ((backTo cpos (starEach [e1, e2] X.env)).all (fun x => !x.1) && (backToKw cpos (keywordEach [] X.env)).all (fun x => x.1.isSome)
      && decide (([e1, e2] : List Expr).length + ([] : List Keyword).length + (if ([] : List Keyword).isEmpty then 0 else 1) < 30)) = true := by rfl)
    (hline : (apos.endLine == cpos.line) = true := by rfl) (hs : starEach [e1, e2] X.env = (false, eval e1 X.env) :: starEach [e2] X.env := by rfl) (hplain : (backTo cpos (starEach [e2] X.env)).any (·.1) = false := by rfl)
    (hsw : swapsWith (.Call (.Attribute (.Subscript (.Name x p) k p2) "insert" apos) [e1, e2] [] cpos) none pos.line X.env = pure false := by rfl) :
    DX X W own iu (.Expr (.Call (.Attribute (.Subscript (.Name x p) k p2) "insert" apos) [e1, e2] [] cpos) pos) (sIns iu fk fa) := by
  obtain ⟨t, q, ht⟩ := hk
  obtain ⟨u, q2, hu⟩ := h
  refine ⟨_, ps_expr (pe_bm PySem.F.plainAttrs_list PySem.F.slot_list_insert PySem.F.type_list_insert mt_insert (pe_ix L2.ix_seq (pe_var hN hv hd hcd) q hpi) q2 hbase hfew hline hs hplain) hsw, fun σ H ρ D H0 O0 O r z => ?_⟩
  unfold sIns at z
  obtain ⟨ls, e1', z⟩ := getD_listD z
  obtain ⟨U, as, dss, rfl, hlt, k2, k3, k4, k5, k6, k7, k8⟩ := deep_of r e1'
  refine ⟨.ref U, k2, ht σ H O0 ρ _ r.stands0 r.vrel0 (EOut.runD r z fun kd kv H1 s1 rk z1 r1 => ?_)⟩
  cases rk with
  | int kk =>
    dsimp only at z1
    cases e3 : ixN (dss.map PyData.list).length kk with
    | none => rw [e3] at z1; exact z1.elim
    | some j =>
      rw [e3] at z1
      dsimp only at z1
      cases e4 : (dss.map PyData.list)[j]? with
      | none => rw [e4] at z1; exact z1.elim
      | some dl =>
        rw [e4] at z1
        obtain ⟨ds, e5, e6⟩ : ∃ ds, dss[j]? = some ds ∧ dl = .list ds := by
          rw [List.getElem?_map] at e4
          cases e5 : dss[j]? with
          | none => rw [e5] at e4; cases e4
          | some ds => rw [e5] at e4; cases e4; exact ⟨ds, rfl, rfl⟩
        subst e6
        dsimp only at z1
        have hjl : j < dss.length := (List.getElem?_eq_some_iff.mp e5).1
        obtain ⟨a, ea⟩ : ∃ a, as[j]? = some a := ⟨as[j]'(by rw [k7.len]; exact hjl), List.getElem?_eq_getElem _⟩
        obtain ⟨g1, g2, vs, g3, g4⟩ := k7.mem j a ds ea e5
        have hat : atI (as.map V.ref) kk = some (V.ref a) := by
          unfold atI
          rw [List.length_map, k7.len, ← List.length_map (f := PyData.list) (as := dss), e3]
          show (as.map V.ref)[j]? = _
          rw [List.getElem?_map, ea]; rfl
        refine .inl ⟨U, as.map V.ref, kk, .ref a, rfl, rfl, .inl (.inl (s1 _ _ k5)), hat, .inl ⟨rfl, vs, .inl (.inl (s1 _ _ g3))⟩, hu σ H1 O0 ρ _ r1.stands0 r1.vrel0 (AOut.runD r1 z1 fun das vas H2 s2 ra z2 r2 => ?_)⟩
        have s12 := s1.trans s2
        match das, ra, z2 with
        | [], _, z2 => exact z2.elim
        | [_], _, z2 => cases ‹PyData› <;> exact z2.elim
        | d1 :: d2 :: _ :: _, _, z2 => cases d1 <;> exact z2.elim
        | [d1, d2], ra, z2 =>
          obtain ⟨v, w, rfl, rv, rw'⟩ := rps_two ra
          cases rv with
          | int i =>
            dsimp only at z2
            by_cases c : (decide (0 ≤ i) && decide (i.natAbs < 2 ^ 62) && decide (ds.length < sizeLine) && imm d2) = true
            · rw [if_pos c] at z2
              rw [Bool.and_eq_true, Bool.and_eq_true, Bool.and_eq_true] at c
              obtain ⟨⟨⟨c1, c2⟩, c3⟩, c4⟩ := c
              have i0 := of_decide_eq_true c1
              have i1 := of_decide_eq_true c2
              have rO := r2.imm rw' c4
              refine ⟨a, vs, i, w, rfl, rfl, s12 _ _ g3, by rw [g4.length]; exact of_decide_eq_true c3, i0, by omega, ?_⟩
              obtain ⟨b2, sF⟩ := r2.base.upd_hid (a := a) (vs' := vs.take i.toNat ++ [w] ++ vs.drop i.toNat) g1 g2 (s12 _ _ g3) (fun n d b hi e1 e2 => by
                have ni : n ≠ iu := fun z => r.nown (z ▸ hi)
                exact fun z => (k8 n d b hi (by rw [← set_getElem? ni]; exact e1) e2).2 (z ▸ List.mem_of_getElem? ea))
              have na : a ≠ U := fun z => k6 (z ▸ List.mem_of_getElem? ea)
              refine z2 σ _ O ⟨by rw [List.set_set]; exact b2, r.nown, U, as, dss.set j (ds.take i.toNat ++ [d2] ++ ds.drop i.toNat), by rw [List.getElem?_set_self hlt, List.map_set], k2, k3, k4, by rw [upd_ne (Ne.symm na)]; exact s12 _ _ k5, k6, ⟨by rw [List.length_set]; exact k7.len, k7.nd, fun m b es h1 h2 => ?_⟩, fun n d b hi e1 e2 => ?_⟩ sF
              · by_cases cm : j = m
                · subst cm
                  rw [List.getElem?_set_self hjl] at h2
                  rw [ea] at h1
                  cases h1
                  cases h2
                  refine ⟨g1, g2, _, upd_same, ?_⟩
                  have g5 := (g4.mono (hide_same s12)).mono sF
                  exact ((g5.take i.toNat).append (.cons (rO.mono sF) .nil)).append (g5.drop i.toNat)
                · rw [List.getElem?_set_ne cm] at h2
                  obtain ⟨y1, y2, us, y3, y4⟩ := k7.mem m b es h1 h2
                  have nb : b ≠ a := fun z => by
                    subst z
                    have l1 : m < as.length := (List.getElem?_eq_some_iff.mp h1).1
                    have l2 : j < as.length := (List.getElem?_eq_some_iff.mp ea).1
                    rw [List.getElem?_eq_getElem l1] at h1
                    rw [List.getElem?_eq_getElem l2] at ea
                    exact cm ((List.getElem_inj k7.nd).mp (Option.some.inj (ea.trans h1.symm)))
                  exact ⟨y1, y2, us, by rw [upd_ne nb]; exact s12 _ _ y3, (y4.mono (hide_same s12)).mono sF⟩
              · have ni : n ≠ iu := fun z => r.nown (z ▸ hi)
                rw [List.getElem?_set_ne (Ne.symm ni)] at e1
                exact k8 n d b hi e1 e2
            · rw [if_neg c] at z2; exact z2.elim
          | _ => exact z2.elim
  | _ => exact z1.elim
end
/-- for .. in .. -/
def sForD (iu : Nat) (own : List Nat) (fi : Vars → R (List PyData)) (gt : PyData → Vars → Option Vars) (g : Vars → Out) (ρ : Vars) : Out := (fi (mask (iu :: own) ρ)).run ρ fun ds => forL gt g ds ρ
theorem dx_for {tg iter : Expr} {body : List Stmt} {js : List Nat} {fi : Vars → R (List PyData)} {gt : PyData → Vars → Option Vars} {g : Vars → Out} {pos : Pos} (hp : PassesOwn (model X.prog X.w) X.A X.env X.xe) (hc : X.calm = true) (hi : IX X W tg iter fi) (hg : GX X tg js gt) (hin : GtIn js gt) (ho : (js.all fun j => !(iu :: own).contains j) = true)
    (hb : DsX X W own iu body g) (hs : ∀ x, foldedSetIterable iter X.env x = pure x := by intro _; rfl) : DX X W own iu (.For tg iter body [] pos) (sForD iu own fi gt g) := by
  obtain ⟨wi, p, hwi⟩ := hi
  obtain ⟨ok, tgt, q, hgt⟩ := hg
  obtain ⟨tb, pb, htb⟩ := hb
  have hj : ∀ j ∈ js, j ∉ iu :: own := fun j h z => by
    have := List.all_eq_true.mp ho j h
    rw [List.contains_iff_mem.mpr z] at this; cases this
  refine ⟨_, ps_for hp hc p q pb hs, fun σ H ρ D H0 O0 O r z => ?_⟩
  refine hwi σ H O (mask (iu :: own) ρ) _ r.stands r.vrelM ?_
  unfold sForD at z
  cases e : fi (mask (iu :: own) ρ) with
  | bad => rw [e] at z; exact z
  | err c => rw [e] at z; exact fun H' s => z σ H' O (r.step s) (hide_same s)
  | ok ds =>
    rw [e, R.run_ok] at z
    intro J H1 s1 hJ
    refine ⟨fun i m σ2 H2 => m = ds.length - i ∧ i ≤ ds.length ∧ ∃ O2 ρ2, RelD X.K own iu H0 O0 O2 σ2 H2 ρ2 ∧ Same (hide O H1) (hide O2 H2) ∧ DOut X W own iu H0 O0 O2 H2 D (forL gt g (ds.drop i) ρ2), ⟨ds.length, rfl, Nat.zero_le _, O, ρ, r.step s1, Same.refl _, DOut.from z (hide_same s1)⟩, ?_⟩
    rintro i m σ2 H2 ⟨rfl, hle, O2, ρ2, r2, sF, z2⟩
    obtain ⟨j1, j2⟩ := hJ i H2 O2 r2.stands sF
    by_cases hlt : i < ds.length
    · have hd : ds[i]? = some ds[i] := List.getElem?_eq_getElem hlt
      obtain ⟨g1, g2⟩ := j1 _ hd
      have hdrop : ds.drop i = ds[i] :: ds.drop (i + 1) := List.drop_eq_getElem_cons hlt
      rw [hdrop] at z2
      unfold forL at z2
      cases eg : gt ds[i] ρ2 with
      | none => rw [eg] at z2; exact z2.elim
      | some ρ3 =>
        rw [eg] at z2
        dsimp only at z2
        refine .inr ⟨g1, fun σ' H' => (i + 1 ≤ ds.length ∧ ∃ O2 ρ2, RelD X.K own iu H0 O0 O2 σ' H' ρ2 ∧ Same (hide O H1) (hide O2 H') ∧ DOut X W own iu H0 O0 O2 H' D (forL gt g (ds.drop (i + 1)) ρ2)),
          fun σ' H' hn => ⟨ds.length - (i + 1), by omega, rfl, hn.1, hn.2⟩, fun x H3 y => ?_⟩
        obtain ⟨s23, rx⟩ := g2 x H3 y
        have r3 := r2.step s23
        refine hgt x ds[i] σ2 H3 O2 (mask (iu :: own) ρ2) (mask (iu :: own) ρ3) _ r3.stands r3.vrelM rx (ok.msk (iu :: own) _ ρ2 ρ3 hj eg) fun σ3 v3 l3 f3 => ?_
        have r4 : RelD X.K own iu H0 O0 O2 σ3 H3 ρ3 := r3.other hj l3 v3 f3 (hin.out _ ρ2 ρ3 eg)
        have sF3 : Same (hide O H1) (hide O2 H3) := sF.trans (hide_same s23)
        refine htb σ3 H3 ρ3 _ H0 O0 O2 r4 ?_
        cases eb : g ρ3 with
        | nx ρ4 =>
          rw [eb] at z2
          exact fun σ5 H5 O5 r5 s5 => ⟨hlt, O5, ρ4, r5, sF3.trans s5, DOut.from z2 ((hide_same s23).trans s5)⟩
        | err c ρ4 =>
          rw [eb] at z2
          exact fun σ5 H5 O5 r5 s5 => z2 σ5 H5 O5 r5 ((hide_same s23).trans s5)
        | ct ρ4 =>
          rw [eb] at z2
          exact fun σ5 H5 O5 r5 s5 => ⟨hlt, O5, ρ4, r5, sF3.trans s5, DOut.from z2 ((hide_same s23).trans s5)⟩
        | bk ρ4 =>
          rw [eb] at z2
          exact fun σ5 H5 O5 r5 s5 => z2 σ5 H5 O5 r5 ((hide_same s23).trans s5)
        | rt d => rw [eb] at z2; exact z2
        | bad => rw [eb] at z2; exact z2
    · have e3 : i = ds.length := by omega
      subst e3
      refine .inl ⟨j2 (Nat.le_refl _), ?_⟩
      rw [List.drop_length] at z2
      exact z2 σ2 H2 O2 r2 (Same.refl _)
end
/-! a def's body -/
section
variable (X : Cx) (E : XK)
def BDX (own : List Nat) (iu : Nat) (sts : List Stmt) (g : Vars → Out) : Prop :=
  ∃ t, PSs X sts t ∧ ∀ σ H ρ Q H0 O0 O, RelD X.K own iu H0 O0 O σ H ρ → BOut X E H0 O0 Q (g ρ) → t { nx := fun _ H' => Q .non H', rt := Q } σ H
end
section
variable {X : Cx} {E : XK} {own : List Nat} {iu : Nat}
theorem BDX.cons {st : Stmt} {rest : List Stmt} {g h : Vars → Out} (a : DX X (WD E) own iu st g) (b : BDX X E own iu rest h) : BDX X E own iu (st :: rest) (sSeq g h) := by
  obtain ⟨t, p, ht⟩ := a
  obtain ⟨u, q, hu⟩ := b
  refine ⟨_, pss_cons p q, fun σ H ρ Q H0 O0 O r z => ht σ H ρ _ H0 O0 O r ?_⟩
  unfold sSeq at z
  cases e : g ρ with
  | nx ρ1 => rw [e] at z; exact fun σ1 H1 O1 r1 s1 => hu σ1 H1 ρ1 Q H0 O0 O1 r1 z
  | err c ρ' => rw [e] at z; exact fun σ' H' O' r' s' => z H' r'.same
  | rt d => rw [e] at z; exact z
  | bk _ => rw [e] at z; exact z.elim
  | ct _ => rw [e] at z; exact z.elim
  | bad => rw [e] at z; exact z.elim
/-- x = [[]], the first row -/
def sNewL (iu : Nat) (ρ : Vars) : Out := if iu < ρ.length then .nx (ρ.set iu (some (.list [.list []]))) else .bad
theorem BX.consD {x : Str} {lp lp2 pos' pos : Pos} {rest : List Stmt} {h : Vars → Out} (hN : X.N.Nodup) (hi : X.N[iu]? = some x) (hx : Loc X.env.scope x) (ho : own.contains iu = false) (b : BDX X E own iu rest h) (hs : swapsWith (.List [.List [] lp] lp2) (some (.Name x pos')) pos.line X.env = pure false := by rfl) (hst : starEach [.List [] lp] X.env = (false, eval (.List [] lp) X.env) :: starEach [] X.env := by rfl) (hf : X.fn x = true ∨ X.env.scope.names.lookup x = some .local := by first | exact .inl rfl | exact .inr rfl | assumption) :
    BX X E own (.Assign [.Name x pos'] (.List [.List [] lp] lp2) pos :: rest) (sSeq (sNewL iu) h) := by
  obtain ⟨u, q, hu⟩ := b
  have hi' : iu ∉ own := fun z => by rw [List.contains_iff_mem.mpr z] at ho; cases ho
  refine ⟨_, pss_cons (ps_set hN hi hx (pe_lst (pa_cons (pe_lst pa_nil) pa_nil hst)) hs hf) q, fun σ H ρ Q H0 O0 O r z => ?_⟩
  unfold sSeq sNewL at z
  by_cases c : iu < ρ.length
  case neg => rw [if_neg c] at z; exact z.elim
  rw [if_pos c] at z
  refine ⟨Nat.zero_le _, fun p hp => ⟨sz1, fun U hU => hu _ _ _ _ H0 O0 (U :: p :: O) ?_ z⟩⟩
  have s1 : Same H (upd H p (.lst [])) := same_new hp
  have nU : p ≠ U := fun e => by rw [← e, upd_same] at hU; cases hU
  obtain ⟨b1, sF1⟩ := r.grow s1 hp (vs := []) upd_same
  obtain ⟨b2, sF2⟩ := b1.grow (same_new (o := .lst [V.ref p]) hU) hU (vs := [V.ref p]) upd_same
  have hl := r.len
  have hUn : H U = none := by
    have := hU
    rw [upd_ne (Ne.symm nU)] at this
    exact this
  refine ⟨by rw [List.set_set]; exact b2.none hi', hi', U, [p], [[]], by rw [List.getElem?_set_self c]; rfl, List.getElem?_set_self (by omega), List.mem_cons_self, r.same.free hUn, by rw [upd_same]; rfl, by simpa using Ne.symm nU, ⟨rfl, by simp, fun j a ds e1 e2 => ?_⟩, fun i d b hb e1 e2 => ?_⟩
  · cases j with
    | succ j => simp at e1
    | zero =>
      simp at e1 e2
      subst e1 e2
      exact ⟨by simp, r.same.free hp, [], by rw [upd_ne nU]; exact upd_same, .nil⟩
  · have ni : i ≠ iu := fun z => hi' (z ▸ hb)
    rw [List.getElem?_set_ne (Ne.symm ni)] at e1 e2
    obtain ⟨a', us, es, w0, w1, w2, w3, w4, w5⟩ := r.mine i d hb e1
    rw [w1] at e2
    cases e2
    refine ⟨fun z => ?_, fun z => ?_⟩
    · subst z; rw [w4] at hUn; cases hUn
    · simp at z; subst z; rw [w4] at hp; cases hp
theorem BDX.freeze {sts : List Stmt} {g : Vars → Out} {own' : List Nat} (b : BX X E own' sts g) (ho : (own'.all fun i => own.contains i) = true) : BDX X E own iu sts g := by
  obtain ⟨t, p, ht⟩ := b
  refine ⟨t, p, fun σ H ρ Q H0 O0 O r z => ?_⟩
  obtain ⟨O1, r1, _⟩ := r.freeze
  obtain ⟨O2, r2, _⟩ := r1.freeze (own' := own') fun i hi => List.contains_iff_mem.mp (List.all_eq_true.mp ho i hi)
  exact ht σ H ρ Q H0 O0 O2 r2 z
end
end Pu
set_option Elab.async false
set_option linter.all false
set_option maxRecDepth 100000
namespace Pu
open PySem
-- k41 k44 k45 k47 k48 k75 k76 k82 k84 slots 3 params 1
def G_number_of (c0 c1 c2 : Nat) (S : Nat → List PyData → R PyData) : Vars → Out :=
  (sSeq (sSet [] 1 (eTup aNil))
    (sSeq (sFor [] (iSeq (eVar 0)) (gtName 2) (sSet [] 1 (eFn (S c0) (aCons (eVar 1) (aCons (eFn (fun ds => S c2 (ds ++ [.int 1])) (aCons (eFn (S c1) (aCons (eVar 2) aNil)) aNil)) aNil)))))
    (sRet (eVar 1))))
-- k41 k42 k43 k44 k45 k46 k47 k48 k49 slots 9 params 2
def G_l_tree (c0 : Nat) (S : Nat → List PyData → R PyData) : Vars → Out :=
  (sSeq (sNewL 2)
    (sSeq (sNewD 2 [3, 7] 3 (nLst (aCons (eC (.int 0)) aNil)))
    (sSeq (sForD 2 [3, 7] (iRange (aCons (eCall gLen (aCons (eVar 0) aNil)) aNil)) (gtName 4) (sSeq (sSetD 5 (eFn (S c0) (aCons (eOp gIx (eVar 0) (eVar 4)) (aCons (eVar 4) aNil)))) (sSeq (sSetD 6 (eOp gMod (eOp gDiv (eVar 5) (eC (.int 3))) (eCall gLen (aCons (eVar 3) aNil)))) (sSeq (sIf (tOf (eOp gEq (eOp gMod (eVar 5) (eC (.int 3))) (eC (.int 0)))) (sSetD 6 (eOp gSub (eCall gLen (aCons (eVar 3) aNil)) (eC (.int 1)))) sNil) (sSeq (sIf (tOf (eOp gGe (eOp gIx (eVar 3) (eVar 6)) (eVar 1))) (sSetD 6 (eC (.int 0))) sNil) (sSeq (sIns 2 (eVar 6) (aCons (eOp gMod (eOp gDiv (eVar 5) (eC (.int 1000))) (eOp gAdd (eCall gLen (aCons (eOp gIx (eVar 2) (eVar 6)) aNil)) (eC (.int 1)))) (aCons (eCall gLen (aCons (eVar 3) aNil)) aNil))) (sSeq (sApp 3 (eOp gAdd (eOp gIx (eVar 3) (eVar 6)) (eC (.int 1)))) (sAppN 2))))))))
    (sSeq (sNew [7] 7 (nRep (aCons (eTup aNil) aNil) (eCall gLen (aCons (eVar 3) aNil))))
    (sSeq (sFor [7] (iRange3 (aCons (eOp gSub (eCall gLen (aCons (eVar 3) aNil)) (eC (.int 1))) (aCons (eNeg (eC (.int 1))) (aCons (eNeg (eC (.int 1))) aNil)))) (gtName 4) (sPut 7 (eCall gTuple (aCons (eLc (iSeq (eOp gIx (eVar 2) (eVar 4))) (gtName 8) tYesD (eOp gIx (eVar 7) (eVar 8)) [8]) aNil)) (eVar 4)))
    (sRet (eOp gIx (eVar 7) (eC (.int 0)))))))))
-- k41 k44 k45 k46 k47 k48 slots 4 params 2
def G_l_put_2 (c0 : Nat) (S : Nat → List PyData → R PyData) : Vars → Out :=
  (sSeq (sFor [] (iRange (aCons (eCall gLen (aCons (eVar 0) aNil)) aNil)) (gtName 2) (sSeq (sSet [] 3 (eFn (S c0) (aCons (eVar 1) (aCons (eOp gIx (eOp gIx (eVar 0) (eVar 2)) (eC (.int 0))) aNil)))) (sSeq (sIf (tOf (eOp gEq (eVar 3) (eC (.int 0)))) (sRet (eOp gAdd (eOp gAdd (eSl (eVar 0) oNone (oSome (eVar 2))) (eTup (aCons (eTup (aCons (eVar 1) (aCons (eOp gAdd (eOp gIx (eOp gIx (eVar 0) (eVar 2)) (eC (.int 1))) (eC (.int 1))) aNil))) aNil))) (eSl (eVar 0) (oSome (eOp gAdd (eVar 2) (eC (.int 1)))) oNone))) sNil) (sIf (tOf (eOp gGt (eVar 3) (eC (.int 0)))) (sRet (eOp gAdd (eOp gAdd (eSl (eVar 0) oNone (oSome (eVar 2))) (eTup (aCons (eTup (aCons (eVar 1) (aCons (eC (.int 1)) aNil))) aNil))) (eSl (eVar 0) (oSome (eVar 2)) oNone))) sNil))))
    (sRet (eOp gAdd (eVar 0) (eTup (aCons (eTup (aCons (eVar 1) (aCons (eC (.int 1)) aNil))) aNil)))))
-- k41 k44 k45 k46 k47 k48 k82 slots 3 params 1
def G_l_number_2 (c0 c1 : Nat) (S : Nat → List PyData → R PyData) : Vars → Out :=
  (sSeq (sSet [] 1 (eTup aNil))
    (sSeq (sFor [] (iSeq (eVar 0)) (gtName 2) (sSet [] 1 (eFn (S c0) (aCons (eVar 1) (aCons (eFn (S c1) (aCons (eVar 2) aNil)) aNil)))))
    (sRet (eVar 1))))
-- k42 k43 k44 k45 k47 k48 k49 k75 k76 k82 k84 slots 3 params 1
def G_points (c0 : Nat) (S : Nat → List PyData → R PyData) : Vars → Out :=
  (sSeq (sSet [] 1 (eC (.int 1)))
    (sSeq (sFor [] (iSeq (eVar 0)) (gtName 2) (sAug [] 1 gAddI (eFn (S c0) (aCons (eVar 2) aNil))))
    (sRet (eVar 1))))
-- k42 slots 3 params 1
def G_l_bare (c0 : Nat) (S : Nat → List PyData → R PyData) : Vars → Out :=
  (sSeq (sSet [] 1 (eC (.int 0)))
    (sSeq (sFor [] (iSeq (eVar 0)) (gtName 2) (sIf (tOf (eOp gEq (eVar 2) (eTup aNil))) (sSet [] 1 (eOp gAdd (eVar 1) (eC (.int 1)))) (sSet [] 1 (eOp gAdd (eVar 1) (eFn (S c0) (aCons (eVar 2) aNil))))))
    (sRet (eVar 1))))
-- k42 slots 3 params 2
def G_l_leads (c0 : Nat) (S : Nat → List PyData → R PyData) : Vars → Out :=
  (sSeq (sIf (tOrR (tNotR (tTru (eIsi "tuple" (eVar 1)))) (tOf (eOp gEq (eVar 1) (eTup aNil)))) (sRet (eC (.bool false))) sNil)
    (sSeq (sFor [] (iSeq (eVar 1)) (gtName 2) (sSeq (sIf (tOrR (tNotR (tTru (eFn (S c0) (aCons (eVar 2) aNil)))) (tOrR (tOf (eOp gLt (eVar 2) (eC (.int 0)))) (tOf (eOp gGe (eVar 2) (eCall gLen (aCons (eVar 0) aNil)))))) (sRet (eC (.bool false))) sNil) (sSet [] 0 (eOp gIx (eVar 0) (eVar 2)))))
    (sRet (eOp gEq (eVar 0) (eTup aNil)))))
-- k43 k44 k45 k47 k48 k49 k75 k76 k82 k84 slots 3 params 2
def G_is_head (c0 : Nat) (S : Nat → List PyData → R PyData) : Vars → Out :=
  (sSeq (sIf (tOrR (tNotR (tTru (eIsi "tuple" (eVar 1)))) (tOf (eOp gEq (eCall gLen (aCons (eVar 1) aNil)) (eC (.int 0))))) (sRet (eC (.bool false))) sNil)
    (sSeq (sFor [] (iSeq (eVar 1)) (gtName 2) (sSeq (sIf (tOrR (tNotR (tTru (eFn (S c0) (aCons (eVar 2) aNil)))) (tOf (eOp gGe (eVar 2) (eCall gLen (aCons (eVar 0) aNil))))) (sRet (eC (.bool false))) sNil) (sSet [] 0 (eOp gIx (eVar 0) (eVar 2)))))
    (sRet (eOp gEq (eCall gLen (aCons (eVar 0) aNil)) (eC (.int 0))))))
-- k43 k44 k45 k47 k48 k49 k75 k76 k82 k84 slots 3 params 3
def G_instead (S : Nat → List PyData → R PyData) : Vars → Out :=
  (sRet (eOp gAdd (eOp gAdd (eSl (eVar 0) oNone (oSome (eVar 1))) (eVar 2)) (eSl (eVar 0) (oSome (eOp gAdd (eVar 1) (eC (.int 1)))) oNone)))
-- k43 k44 k45 k47 k48 k49 k75 k76 k82 k84 slots 6 params 3
def G_regrown (c0 c1 : Nat) (S : Nat → List PyData → R PyData) : Vars → Out :=
  (sSeq (sSet [] 3 (eOp gIx (eVar 1) (eC (.int 0))))
    (sSeq (sSet [] 4 (eOp gIx (eVar 0) (eVar 3)))
    (sSeq (sIf (tOf (eOp gEq (eCall gLen (aCons (eVar 1) aNil)) (eC (.int 2)))) (sSeq (sSet [] 5 (eFn (S c0) (aCons (eVar 4) (aCons (eOp gIx (eVar 1) (eC (.int 1))) (aCons (eTup aNil) aNil))))) (sRet (eFn (S c0) (aCons (eVar 0) (aCons (eVar 3) (aCons (eOp gRep (eTup (aCons (eVar 5) aNil)) (eOp gAdd (eVar 2) (eC (.int 1)))) aNil)))))) sNil)
    (sRet (eFn (S c0) (aCons (eVar 0) (aCons (eVar 3) (aCons (eTup (aCons (eFn (S c1) (aCons (eVar 4) (aCons (eSl (eVar 1) (oSome (eC (.int 1))) oNone) (aCons (eVar 2) aNil)))) aNil)) aNil))))))))
-- k43 k44 k45 k47 k48 k49 k75 k76 k82 k84 slots 5 params 3
def G_cut (c0 c1 c2 c3 c4 : Nat) (S : Nat → List PyData → R PyData) : Vars → Out :=
  (sSeq (sIf (tNotR (tTru (eFn (S c0) (aCons (eVar 0) (aCons (eVar 1) aNil))))) (sRaise "NoHead") sNil)
    (sSeq (sIf (tNotR (tTru (eFn (S c1) (aCons (eVar 2) aNil)))) (sRaise "NoNumber") sNil)
    (sSeq (sIf (tOf (eOp gEq (eCall gLen (aCons (eVar 1) aNil)) (eC (.int 1)))) (sRet (eFn (S c2) (aCons (eVar 0) (aCons (eOp gIx (eVar 1) (eC (.int 0))) (aCons (eTup aNil) aNil))))) sNil)
    (sSeq (sSet [] 3 (eVar 0))
    (sSeq (sFor [] (iSeq (eSl (eVar 1) oNone (oSome (eNeg (eC (.int 1)))))) (gtName 4) (sSet [] 3 (eOp gIx (eVar 3) (eVar 4))))
    (sSeq (sIf (tOf (eOp gGt (eOp gAdd (eOp gSub (eFn (S c3) (aCons (eVar 0) aNil)) (eC (.int 1))) (eOp gMul (eVar 2) (eOp gSub (eFn (S c3) (aCons (eVar 3) aNil)) (eC (.int 1))))) (eC (.int 600)))) (sRaise "TooGreat") sNil)
    (sRet (eFn (S c4) (aCons (eVar 0) (aCons (eVar 1) (aCons (eVar 2) aNil)))))))))))
-- k43 slots 4 params 2
def G_l_alike_3 (c0 : Nat) (S : Nat → List PyData → R PyData) : Vars → Out :=
  (sSeq (sIf (tOrR (tNotR (tTru (eIsi "tuple" (eVar 0)))) (tOf (eOp gNe (eCall gLen (aCons (eVar 0) aNil)) (eCall gLen (aCons (eVar 1) aNil))))) (sRet (eC (.bool false))) sNil)
    (sSeq (sFor [] (iZipD (aCons (eVar 0) (aCons (eVar 1) aNil))) (gtTup 2 (gtCons (gtName 2) (gtCons (gtName 3) gtNil))) (sIf (tNotR (tTru (eFn (S c0) (aCons (eVar 2) (aCons (eVar 3) aNil))))) (sRet (eC (.bool false))) sNil))
    (sRet (eC (.bool true)))))
-- k43 k45 k47 k48 k49 k74 k75 k82 slots 2 params 1
def G_l_points (c0 : Nat) (S : Nat → List PyData → R PyData) : Vars → Out :=
  (sRet (eOp gAdd (eC (.int 1)) (eCall gSum (aCons (eLc (iSeq (eVar 0)) (gtName 1) tYesD (eFn (S c0) (aCons (eVar 1) aNil)) [1]) aNil))))
-- k43 k44 k47 k49 slots 4 params 2
def G_l_head (c0 : Nat) (S : Nat → List PyData → R PyData) : Vars → Out :=
  (sSeq (sSet [] 2 (eTup aNil))
    (sSeq (whileL (tOf (eOp gNe (eVar 0) (eTup aNil))) (sSeq (sSet [] 1 (eFn (S c0) (aCons (eVar 1) (aCons (eCall gLen (aCons (eVar 2) aNil)) aNil)))) (sSeq (sSet [] 3 (eOp gMod (eOp gDiv (eVar 1) (eC (.int 7))) (eCall gLen (aCons (eVar 0) aNil)))) (sSeq (sSet [] 2 (eOp gAdd (eVar 2) (eTup (aCons (eVar 3) aNil)))) (sSet [] 0 (eOp gIx (eVar 0) (eVar 3)))))) wfuel)
    (sRet (eVar 2))))
-- k43 k45 k47 k48 k49 slots 3 params 2
def G_l_at (S : Nat → List PyData → R PyData) : Vars → Out :=
  (sSeq (sFor [] (iSeq (eVar 1)) (gtName 2) (sSet [] 0 (eOp gIx (eVar 0) (eVar 2))))
    (sRet (eVar 0)))
-- k43 k47 k48 k49 slots 6 params 3
def G_l_cut_2 (c0 c1 : Nat) (S : Nat → List PyData → R PyData) : Vars → Out :=
  (sSeq (sIf (tOf (eOp gEq (eCall gLen (aCons (eVar 1) aNil)) (eC (.int 1)))) (sRet (eFn (S c0) (aCons (eVar 0) (aCons (eOp gIx (eVar 1) (eC (.int 0))) (aCons (eTup aNil) aNil))))) sNil)
    (sSeq (sSet [] 3 (eFn (S c1) (aCons (eVar 0) (aCons (eSl (eVar 1) oNone (oSome (eNeg (eC (.int 1))))) aNil))))
    (sSeq (sSet [] 4 (eOp gRep (eTup (aCons (eFn (S c0) (aCons (eVar 3) (aCons (eOp gIx (eVar 1) (eNeg (eC (.int 1)))) (aCons (eTup aNil) aNil)))) aNil)) (eOp gAdd (eVar 2) (eC (.int 1)))))
    (sSeq (sFor [] (iRange3 (aCons (eOp gSub (eCall gLen (aCons (eVar 1) aNil)) (eC (.int 2))) (aCons (eNeg (eC (.int 1))) (aCons (eNeg (eC (.int 1))) aNil)))) (gtName 5) (sSet [] 4 (eTup (aCons (eFn (S c0) (aCons (eFn (S c1) (aCons (eVar 0) (aCons (eSl (eVar 1) oNone (oSome (eVar 5))) aNil))) (aCons (eOp gIx (eVar 1) (eVar 5)) (aCons (eVar 4) aNil)))) aNil))))
    (sRet (eOp gIx (eVar 4) (eC (.int 0))))))))
-- k45 k48 k82 slots 5 params 1
def G_least_place (c0 c1 : Nat) (S : Nat → List PyData → R PyData) : Vars → Out :=
  (sSeq (sSet [] 1 (eC (.int 0)))
    (sSeq (sSet [] 2 (eFn (S c0) (aCons (eOp gIx (eVar 0) (eC (.int 0))) aNil)))
    (sSeq (sFor [] (iRange (aCons (eC (.int 1)) (aCons (eCall gLen (aCons (eVar 0) aNil)) aNil))) (gtName 3) (sSeq (sSet [] 4 (eFn (S c0) (aCons (eOp gIx (eVar 0) (eVar 3)) aNil))) (sIf (tOf (eOp gLe (eFn (S c1) (aCons (eVar 4) (aCons (eVar 2) aNil))) (eC (.int 0)))) (sSeq (sSet [] 1 (eVar 3)) (sSet [] 2 (eVar 4))) sNil)))
    (sRet (eVar 1)))))
-- k45 k48 k82 slots 3 params 1
def G_least_head (c0 : Nat) (S : Nat → List PyData → R PyData) : Vars → Out :=
  (sSeq (sIf (tOf (eOp gEq (eCall gLen (aCons (eVar 0) aNil)) (eC (.int 0)))) (sRaise "Nought") sNil)
    (sSeq (sSet [] 1 (eTup aNil))
    (sSeq (whileL (tOf (eOp gGt (eCall gLen (aCons (eVar 0) aNil)) (eC (.int 0)))) (sSeq (sSet [] 2 (eFn (S c0) (aCons (eVar 0) aNil))) (sSeq (sSet [] 1 (eOp gAdd (eVar 1) (eTup (aCons (eVar 2) aNil)))) (sSet [] 0 (eOp gIx (eVar 0) (eVar 2))))) wfuel)
    (sRet (eVar 1)))))
-- k45 slots 5 params 2
def G_l_least (c0 c1 : Nat) (S : Nat → List PyData → R PyData) : Vars → Out :=
  (sSeq (sIf (tNotR (tTru (eIsi "tuple" (eVar 1)))) (sRet (eC (.bool false))) sNil)
    (sSeq (sFor [] (iSeq (eVar 1)) (gtName 2) (sSeq (sIf (tOrR (tNotR (tTru (eIsi "int" (eVar 2)))) (tOrR (tTru (eIsi "bool" (eVar 2))) (tOrR (tOf (eOp gLt (eVar 2) (eC (.int 0)))) (tOf (eOp gGe (eVar 2) (eCall gLen (aCons (eVar 0) aNil))))))) (sRet (eC (.bool false))) sNil) (sSeq (sSet [] 3 (eFn (S c0) (aCons (eOp gIx (eVar 0) (eVar 2)) aNil))) (sSeq (sFor [] (iRange (aCons (eCall gLen (aCons (eVar 0) aNil)) aNil)) (gtName 4) (sIf (tOf (eOp gLt (eFn (S c1) (aCons (eFn (S c0) (aCons (eOp gIx (eVar 0) (eVar 4)) aNil)) (aCons (eVar 3) aNil))) (eCall gIntC (aCons (eOp gGt (eVar 4) (eVar 2)) aNil)))) (sRet (eC (.bool false))) sNil)) (sSet [] 0 (eOp gIx (eVar 0) (eVar 2)))))))
    (sRet (eOp gEq (eVar 0) (eTup aNil)))))
-- k46 slots 4 params 1
def G_points_of (c0 : Nat) (S : Nat → List PyData → R PyData) : Vars → Out :=
  (sSeq (sSet [] 1 (eC (.int 1)))
    (sSeq (sFor [] (iSeq (eVar 0)) (gtTup 2 (gtCons (gtName 2) (gtCons (gtName 3) gtNil))) (sAug [] 1 gAddI (eOp gMul (eVar 3) (eFn (S c0) (aCons (eVar 2) aNil)))))
    (sRet (eVar 1))))
-- k46 slots 4 params 1
def G_grown (c0 : Nat) (S : Nat → List PyData → R PyData) : Vars → Out :=
  (sSeq (sSet [] 1 (eTup aNil))
    (sSeq (sFor [] (iSeq (eVar 0)) (gtTup 2 (gtCons (gtName 2) (gtCons (gtName 3) gtNil))) (sSet [] 1 (eOp gAdd (eVar 1) (eOp gRep (eTup (aCons (eFn (S c0) (aCons (eVar 2) aNil)) aNil)) (eVar 3)))))
    (sRet (eVar 1))))
-- k46 slots 1 params 1
def G_tree_of (c0 c1 : Nat) (S : Nat → List PyData → R PyData) : Vars → Out :=
  (sSeq (sIf (tOf (eOp gGt (eFn (S c0) (aCons (eVar 0) aNil)) (eC (.int 600)))) (sRaise "TooGreat") sNil)
    (sRet (eFn (S c1) (aCons (eVar 0) aNil))))
-- k46 slots 2 params 1
def G_l_points_of (c0 : Nat) (S : Nat → List PyData → R PyData) : Vars → Out :=
  (sRet (eOp gAdd (eC (.int 1)) (eCall gSum (aCons (eLc (iSeq (eVar 0)) (gtName 1) tYesD (eOp gMul (eOp gIx (eVar 1) (eC (.int 1))) (eFn (S c0) (aCons (eOp gIx (eVar 1) (eC (.int 0))) aNil))) [1]) aNil))))
-- k46 slots 4 params 1
def G_l_told (c0 c1 : Nat) (S : Nat → List PyData → R PyData) : Vars → Out :=
  (sSeq (sIf (tNotR (tTru (eIsi "tuple" (eVar 0)))) (sRet (eC .none)) sNil)
    (sSeq (sNew [1] 1 (nLst aNil))
    (sSeq (sFor [1] (iSeq (eVar 0)) (gtName 2) (sSeq (sSetM [1] 3 (eFn (S c0) (aCons (eVar 2) aNil))) (sSeq (sIf (tOf (eOp gIsN (eVar 3) (eC .none))) (sRet (eC .none)) sNil) (sIf (tAndR (tOf (eOp gGt (eCall gLen (aCons (eVar 1) aNil)) (eC (.int 0)))) (tOf (eOp gEq (eOp gIx (eOp gIx (eVar 1) (eNeg (eC (.int 1)))) (eC (.int 0))) (eVar 3)))) (sPut 1 (eTup (aCons (eVar 3) (aCons (eOp gAdd (eOp gIx (eOp gIx (eVar 1) (eNeg (eC (.int 1)))) (eC (.int 1))) (eC (.int 1))) aNil))) (eNeg (eC (.int 1)))) (sIf (tAndR (tOf (eOp gGt (eCall gLen (aCons (eVar 1) aNil)) (eC (.int 0)))) (tOf (eOp gLt (eFn (S c1) (aCons (eOp gIx (eOp gIx (eVar 1) (eNeg (eC (.int 1)))) (eC (.int 0))) (aCons (eVar 3) aNil))) (eC (.int 0))))) (sRet (eC .none)) (sAppM [1] 1 (eTup (aCons (eVar 3) (aCons (eC (.int 1)) aNil)))))))))
    (sRet (eCall gTuple (aCons (eVar 1) aNil))))))
-- k46 slots 2 params 2
def G_l_more (S : Nat → List PyData → R PyData) : Vars → Out :=
  (sSeq (sIf (tOf (eOp gEq (eVar 1) (eC (.int 0)))) (sRet (eVar 0)) sNil)
    (sSeq (sIf (tAndR (tOf (eOp gNe (eVar 0) (eTup aNil))) (tOf (eOp gEq (eOp gIx (eOp gIx (eVar 0) (eNeg (eC (.int 1)))) (eC (.int 0))) (eTup aNil)))) (sRet (eOp gAdd (eSl (eVar 0) oNone (oSome (eNeg (eC (.int 1))))) (eTup (aCons (eTup (aCons (eTup aNil) (aCons (eOp gAdd (eOp gIx (eOp gIx (eVar 0) (eNeg (eC (.int 1)))) (eC (.int 1))) (eVar 1)) aNil))) aNil)))) sNil)
    (sRet (eOp gAdd (eVar 0) (eTup (aCons (eTup (aCons (eTup aNil) (aCons (eVar 1) aNil))) aNil))))))
end Pu
set_option Elab.async false
set_option linter.all false
set_option maxRecDepth 100000
set_option maxHeartbeats 4000000
namespace Pu
open PySem PySem.Spec PyProof.Rows L2
section
variable (ρ : Vars)
@[simp] theorem u_sNewL (iu : Nat) : sNewL iu ρ = if iu < ρ.length then .nx (ρ.set iu (some (.list [.list []]))) else .bad := rfl
@[simp] theorem u_sNewD (iu : Nat) (own : List Nat) (i : Nat) (f : Vars → R (List PyData)) : sNewD iu own i f ρ = (f (mask (iu :: own) ρ)).run ρ fun ds => .nx (ρ.set i (some (.list ds))) := rfl
@[simp] theorem u_sSetD (i : Nat) (f : Vars → R PyData) : sSetD i f ρ = (f ρ).run ρ fun d => if imm d = true then .nx (ρ.set i (some d)) else .bad := rfl
@[simp] theorem u_sForD (iu : Nat) (own : List Nat) (fi : Vars → R (List PyData)) (gt : PyData → Vars → Option Vars) (g : Vars → Out) : sForD iu own fi gt g ρ = (fi (mask (iu :: own) ρ)).run ρ fun ds => forL gt g ds ρ := rfl
@[simp] theorem u_sAppN (iu : Nat) : sAppN iu ρ = match ρ.getD iu none with
  | some (.list ls) => if ls.length < sizeLine then .nx (ρ.set iu (some (.list (ls ++ [.list []])))) else .bad
  | _ => .bad := rfl
@[simp] theorem u_sIns (iu : Nat) (fk : Vars → R PyData) (fa : Vars → R (List PyData)) : sIns iu fk fa ρ = match ρ.getD iu none with
  | some (.list ls) => (fk ρ).run ρ fun k => match k with
    | .int k => match ixN ls.length k with
      | some j => match ls[j]? with
        | some (.list ds) => (fa ρ).run ρ fun as => match as with
          | [.int i, d] => if (decide (0 ≤ i) && decide (i.natAbs < 2 ^ 62) && decide (ds.length < sizeLine) && imm d) = true then .nx (ρ.set iu (some (.list (ls.set j (.list (ds.take i.toNat ++ [d] ++ ds.drop i.toNat)))))) else .bad
          | _ => .bad
        | _ => .bad
      | none => .bad
    | _ => .bad
  | _ => .bad := rfl
end
/-! ### reversed(list or tuple), walked -/
theorem iterRevL {K : PySem.W.Frag} {F : Hp} {a : Addr} {xs : List V} {ds : List PyData} (h : SqL K F a xs) (r : Rps K F xs ds) : IterOk K (Itv K a xs.length) F ds.reverse := fun i H O hO s => by
  have s' : Same F H := s.trans hide_sub
  have hH : SqL K H a xs := seqL s' h
  have hl := r.length
  refine ⟨fun d e => ?_, fun l => by rw [List.length_reverse] at l; show xs.length ≤ i; omega⟩
  have hi : i < ds.length := by
    have := (List.getElem?_eq_some_iff.mp e).1
    simpa using this
  rw [List.getElem?_reverse hi] at e
  obtain ⟨v, h1, h2⟩ := r.get e
  rw [← hl] at h1
  refine ⟨⟨by omega, xs, v, hH, h1⟩, fun x H' y => ?_⟩
  obtain ⟨rfl, y⟩ := y
  have h3 := y xs hH
  rw [h1] at h3
  cases h3
  exact ⟨Same.refl _, h2.mono s⟩
theorem iterRevT {K : PySem.W.Frag} {F : Hp} {a : Addr} {xs : List V} {ds : List PyData} (h : SqT K F a xs) (r : Rps K F xs ds) : IterOk K (RT.ItvT K a xs.length) F ds.reverse := fun i H O hO s => by
  have s' : Same F H := s.trans hide_sub
  have hH : SqT K H a xs := seqT s' h
  have hl := r.length
  refine ⟨fun d e => ?_, fun l => by rw [List.length_reverse] at l; show xs.length ≤ i; omega⟩
  have hi : i < ds.length := by
    have := (List.getElem?_eq_some_iff.mp e).1
    simpa using this
  rw [List.getElem?_reverse hi] at e
  obtain ⟨v, h1, h2⟩ := r.get e
  rw [← hl] at h1
  refine ⟨⟨by omega, xs, v, hH, h1⟩, fun x H' y => ?_⟩
  obtain ⟨rfl, y⟩ := y
  have h3 := y xs hH
  rw [h1] at h3
  cases h3
  exact ⟨Same.refl _, h2.mono s⟩
def iRevD (f : Vars → R PyData) (ρ : Vars) : R (List PyData) := (f ρ).bind fun d => match d with
  | .list ds => .ok ds.reverse
  | .tuple ds => .ok ds.reverse
  | _ => .bad
@[simp] theorem u_iRevD (f : Vars → R PyData) (ρ : Vars) : iRevD f ρ = (f ρ).bind fun d => match d with
  | .list ds => .ok ds.reverse
  | .tuple ds => .ok ds.reverse
  | _ => .bad := rfl
section
variable {X : Cx} {W : WX} {tg : Expr}
theorem ix_rev {e : Expr} {f : Vars → R PyData} {p pos : Pos} (hg : Gl X "reversed") (hm : X.mg "reversed" = none) (h : EX X W e f) (hs : starEach [e] X.env = (false, eval e X.env) :: starEach [] X.env := by rfl) : IX X W tg (.Call (.Name "reversed" p) [e] [] pos) (iRevD f) := by
  obtain ⟨t, q, ht⟩ := h
  refine ⟨_, RT.pi_revA hg hm q hs, fun σ H O ρ Q hO hv z => ht σ H O ρ _ hO hv ?_⟩
  unfold iRevD at z
  cases e : f ρ with
  | bad => rw [e] at z; exact z
  | err c => rw [e] at z; exact z
  | ok d =>
    rw [e, R.bind_ok] at z
    intro v H1 s1 r1
    cases r1 with
    | @lst a xs ds hx rs => exact ⟨a, xs, rfl, .inl ⟨seqL hide_sub hx, z _ H1 s1 (iterRevL hx rs)⟩⟩
    | @tup a xs ds hx rs => exact ⟨a, xs, rfl, .inr ⟨seqT hide_sub hx, z _ H1 s1 (iterRevT hx rs)⟩⟩
    | _ => exact z.elim
end
/-! ### an error that is of no other class -/
theorem kitOne_no {K : PySem.W.Frag} {C CY : Addr} (hd : PySem.W.hasDictIn K CY = true) (ty : PySem.W.typeIn K (.ref CY) = some (.type "type")) (sb : PySem.W.subIn K (.ref C) (.ref CY) = some false) (sf : PySem.W.subIn K (.ref CY) (.ref CY) = some true) : PySem.W.kitOne K (.ref C) (.ref CY) = some false := by
  obtain ⟨cd, hc, _⟩ := PySem.W.any_some hd
  have ne : (Value.ref C == Value.ref CY) = false := by
    refine beq_eq_false_iff_ne.mpr fun e => ?_
    rw [e, sf] at sb
    cases sb
  unfold PySem.W.kitOne
  rw [ne, if_neg Bool.false_ne_true]
  show (if ((PySem.W.clsIn K CY).isSome && PySem.W.typeIn K (.ref CY) == some (.type "type")) = true then PySem.W.subIn K (.ref C) (.ref CY) else none) = some false
  have e2 : ((PySem.W.clsIn K CY).isSome && PySem.W.typeIn K (.ref CY) == some (.type "type")) = true := by rw [hc, ty] <;> rfl
  rw [if_pos e2]; exact sb
theorem kitY_consF {K : PySem.W.Frag} {mg : Str → Option Value} {c y : Str} {l : List (Str × Bool)} {C CY : Addr} (hc : mg c = some (.ref C)) (hy : mg y = some (.ref CY)) (E : ExcC K C) (h5 : PySem.W.hasDictIn K CY = true) (h6 : PySem.W.typeIn K (.ref CY) = some (.type "type")) (h7 : PySem.W.subIn K (.ref C) (.ref CY) = some false) (h8 : PySem.W.subIn K (.ref CY) (.ref CY) = some true) (r : KitY K mg y l) : KitY K mg y ((c, false) :: l) := by
  obtain ⟨CY', h', r'⟩ := r
  rw [hy] at h'
  cases h'
  exact ⟨CY, hy, kitL_cons hc E (kitOne_no h5 h6 h7 h8) r'⟩
end Pu
set_option Elab.async false
set_option linter.all false
set_option maxRecDepth 100000
set_option maxHeartbeats 4000000
namespace Nm
open PySem Pu O L2
/-! ### trees: a branch and the rest -/
inductive T where
  | z | c (b r : T)
  deriving DecidableEq
namespace T
def L : T → List T
  | z => []
  | c b r => b :: L r
def of : List T → T
  | [] => z
  | b :: r => c b (of r)
@[simp] theorem of_L : ∀ t : T, of t.L = t
  | z => rfl
  | c b r => by show c b (of r.L) = _; rw [of_L r]
@[simp] theorem L_of : ∀ l : List T, (of l).L = l
  | [] => rfl
  | b :: r => by show b :: (of r).L = _; rw [L_of r]
theorem L_inj {s t : T} (h : s.L = t.L) : s = t := by rw [← of_L s, h, of_L]
/-- points, the root too -/
def pts : T → Nat
  | z => 1
  | c b r => b.pts + r.pts
theorem pts_pos : ∀ t : T, 1 ≤ t.pts
  | z => Nat.le_refl _
  | c b r => by have := pts_pos r; show 1 ≤ b.pts + r.pts; omega
/-- how deep it is nested -/
def dp : T → Nat
  | z => 0
  | c b r => max (b.dp + 1) r.dp
theorem dp_lt : ∀ t : T, t.dp < t.pts
  | z => by decide
  | c b r => by
    have h1 := dp_lt b
    have h2 := dp_lt r
    have h3 := pts_pos r
    show max (b.dp + 1) r.dp < b.pts + r.pts
    omega
theorem ln_lt : ∀ t : T, t.L.length < t.pts
  | z => by decide
  | c b r => by
    have h1 := pts_pos b
    have h2 := ln_lt r
    show r.L.length + 1 < b.pts + r.pts
    omega
theorem pts_of (l : List T) : (of l).pts = 1 + (l.map pts).sum := by
  induction l with
  | nil => rfl
  | cons b r ih => show b.pts + (of r).pts = _; rw [ih, List.map_cons, List.sum_cons]; omega
theorem dp_of {l : List T} {n : Nat} (h : ∀ b ∈ l, b.dp + 1 ≤ n) : (of l).dp ≤ n := by
  induction l with
  | nil => exact Nat.zero_le _
  | cons b r ih =>
    show max (b.dp + 1) (of r).dp ≤ n
    have h1 := h b (by simp)
    have h2 := ih fun b hb => h b (by simp [hb])
    omega
theorem pts_mem : ∀ (t b : T), b ∈ t.L → b.pts < t.pts
  | z, b, h => by cases h
  | c b' r, b, h => by
    rcases List.mem_cons.mp h with h | h
    · subst h; have := pts_pos r; show b.pts < b.pts + r.pts; omega
    · have h1 := pts_mem r b h
      show b.pts < b'.pts + r.pts
      omega
theorem dp_mem : ∀ (t b : T), b ∈ t.L → b.dp + 1 ≤ t.dp
  | z, b, h => by cases h
  | c b' r, b, h => by
    rcases List.mem_cons.mp h with h | h
    · subst h; exact Nat.le_max_left _ _
    · have h1 := dp_mem r b h
      show b.dp + 1 ≤ max (b'.dp + 1) r.dp
      omega
end T
open T
def tenL : T → List PyData
  | .z => []
  | .c b r => .tuple (tenL b) :: tenL r
abbrev ten (t : T) : PyData := .tuple (tenL t)
@[simp] theorem tenL_z : tenL .z = [] := rfl
@[simp] theorem tenL_c (b r : T) : tenL (.c b r) = .tuple (tenL b) :: tenL r := rfl
theorem tenL_L : ∀ t : T, tenL t = t.L.map ten
  | .z => rfl
  | .c b r => by show _ :: tenL r = _ :: (r.L.map ten); rw [tenL_L r]
theorem tenL_of (l : List T) : tenL (T.of l) = l.map ten := by rw [tenL_L, T.L_of]
@[simp] theorem tenL_len (t : T) : (tenL t).length = t.L.length := by rw [tenL_L, List.length_map]
theorem ten_depth : ∀ t : T, (ten t).depth = t.dp + 1
  | .z => by simp [PyData.depth, PyData.depthAll, T.dp]
  | .c b r => by
    have h1 := ten_depth b
    have h2 := ten_depth r
    simp only [PyData.depth] at h1 h2
    simp only [tenL_c, PyData.depth, PyData.depthAll, T.dp]
    omega
theorem ten_lay : ∀ t : T, (ten t).canLay0 = true
  | .z => by simp [PyData.canLay0, PyData.canLayAll0]
  | .c b r => by
    have h1 := ten_lay b
    have h2 := ten_lay r
    simp only [PyData.canLay0] at h1 h2
    simp only [tenL_c, PyData.canLay0, PyData.canLayAll0, h1, h2, Bool.and_self]
theorem ten_shaped {t : T} (h : t.dp ≤ 63) : SeqAt.shaped (ten t) = true := by
  unfold SeqAt.shaped
  rw [ten_lay, ten_depth, Bool.true_and]
  exact decide_eq_true (by omega)
theorem ten_imm : ∀ t : T, imm (ten t) = true
  | .z => by simp [imm, imms]
  | .c b r => by
    have h1 := ten_imm b
    have h2 := ten_imm r
    simp only [imm] at h1 h2
    simp only [tenL_c, imm, imms, h1, h2, Bool.and_self]
theorem ten_eqv : ∀ s t : T, PyData.eqv (ten s) (ten t) = decide (s = t)
  | .z, .z => by simp [PyData.eqv, PyData.eqvAll]
  | .z, .c b r => by simp [PyData.eqv, PyData.eqvAll]
  | .c b r, .z => by simp [PyData.eqv, PyData.eqvAll]
  | .c b r, .c b' r' => by
    have h1 := ten_eqv b b'
    have h2 := ten_eqv r r'
    simp only [PyData.eqv] at h1 h2
    simp only [tenL_c, PyData.eqv, PyData.eqvAll, h1, h2, T.c.injEq]
    by_cases c1 : b = b' <;> by_cases c3 : r = r' <;> simp [c1, c3]
theorem gEq_ten {s t : T} (hs : s.dp ≤ 63) (ht : t.dp ≤ 63) : gEq (ten s) (ten t) = some (.bool (decide (s = t))) := by
  unfold gEq
  rw [ten_shaped hs, ten_shaped ht, ten_eqv]; rfl
theorem gNe_ten {s t : T} (hs : s.dp ≤ 63) (ht : t.dp ≤ 63) : gNe (ten s) (ten t) = some (.bool (!decide (s = t))) := by
  unfold gNe
  rw [ten_shaped hs, ten_shaped ht, ten_eqv]; rfl
theorem gEq_tnil {t : T} (h : t.dp ≤ 63) : gEq (ten t) (.tuple []) = some (.bool (decide (t = .z))) := gEq_ten (t := .z) h (by decide)
theorem gNe_tnil {t : T} (h : t.dp ≤ 63) : gNe (ten t) (.tuple []) = some (.bool (!decide (t = .z))) := gNe_ten (t := .z) h (by decide)
theorem atI_ten {t : T} {j : Nat} (h : j < t.L.length) : atI (tenL t) (j : Int) = some (ten t.L[j]) := L2.atI_nat (by rw [tenL_L, List.getElem?_map, List.getElem?_eq_getElem h]; rfl)
theorem nil_iff {t : T} : t = .z ↔ t.L = [] := by
  cases t with
  | z => simp [T.L]
  | c b r => simp [T.L]
/-! ### a tree out of cells -/
/-- the lists of places: a hang of n points; under, depths -/
structure Hang (n M : Nat) (us : List (List Nat)) (ds : List Nat) : Prop where
  lu : us.length = n + 1
  ld : ds.length = n + 1
  perm : us.flatten.Perm (List.range' 1 n)
  up : ∀ (k : Nat) (l : List Nat), us[k]? = some l → ∀ j ∈ l, k < j ∧ ∃ a b, ds[k]? = some a ∧ ds[j]? = some b ∧ b = a + 1
  le : ∀ d ∈ ds, d ≤ M
  root : ds[0]? = some 0
theorem Hang.zero {M : Nat} : Hang 0 M [[]] [0] := ⟨rfl, rfl, by simp, fun k l h j hj => by
  cases k with
  | zero => simp at h; subst h; cases hj
  | succ k => simp at h, fun d hd => by simp at hd; omega, rfl⟩
theorem flatten_set_ins {us : List (List Nat)} {k : Nat} {l : List Nat} (h : us[k]? = some l) (p x : Nat) : (us.set k (l.take p ++ [x] ++ l.drop p)).flatten.Perm (x :: us.flatten) := by
  induction us generalizing k with
  | nil => simp at h
  | cons u us ih =>
    cases k with
    | zero =>
      simp at h; subst h
      simp only [List.set_cons_zero, List.flatten_cons]
      have h1 : (u.take p ++ [x] ++ u.drop p).Perm (x :: u) := by
        have h2 : (u.take p ++ [x] ++ u.drop p).Perm ([x] ++ u.take p ++ u.drop p) := (List.perm_append_comm (l₁ := u.take p) (l₂ := [x])).append_right _
        have h3 : [x] ++ u.take p ++ u.drop p = x :: u := by rw [List.append_assoc, List.take_append_drop]; rfl
        rw [h3] at h2; exact h2
      exact h1.append_right _
    | succ k =>
      simp at h
      simp only [List.set_cons_succ, List.flatten_cons]
      have h1 := (ih h).append_left u
      exact h1.trans List.perm_middle
theorem Hang.step {n M k p : Nat} {us : List (List Nat)} {ds : List Nat} (h : Hang n M us ds) {l : List Nat} {d : Nat} (hk : us[k]? = some l) (hd : ds[k]? = some d) (hM : d + 1 ≤ M) :
    Hang (n + 1) M (us.set k (l.take p ++ [n + 1] ++ l.drop p) ++ [[]]) (ds ++ [d + 1]) := by
  have hkn : k < n + 1 := by rw [← h.lu]; exact (List.getElem?_eq_some_iff.mp hk).1
  have dget : ∀ (i a : Nat), ds[i]? = some a → (ds ++ [d + 1])[i]? = some a := fun i a e => by
    rw [List.getElem?_append_left (List.getElem?_eq_some_iff.mp e).1]; exact e
  refine ⟨by simp [h.lu], by simp [h.ld], ?_, fun i m hi j hj => ?_, fun x hx => ?_, dget _ _ h.root⟩
  · rw [List.flatten_append]
    have e : List.range' 1 (n + 1) = List.range' 1 n ++ [n + 1] := by rw [List.range'_concat]; simp; omega
    rw [e]
    have h1 := flatten_set_ins hk p (n + 1)
    have h2 : ((n + 1) :: us.flatten).Perm (List.range' 1 n ++ [n + 1]) := (List.Perm.cons (n + 1) h.perm).trans (List.perm_append_comm (l₁ := [n + 1]))
    simpa using h1.trans h2
  · by_cases hl : i < us.length
    · rw [List.getElem?_append_left (by simpa using hl)] at hi
      by_cases c : k = i
      · subst c
        rw [List.getElem?_set_self hl] at hi
        cases hi
        rcases List.mem_append.mp hj with hj | hj
        · rcases List.mem_append.mp hj with hj | hj
          · obtain ⟨g1, a, b, g2, g3, g4⟩ := h.up k l hk j (List.mem_of_mem_take hj)
            exact ⟨g1, a, b, dget _ _ g2, dget _ _ g3, g4⟩
          · simp at hj; subst hj
            exact ⟨hkn, d, d + 1, dget _ _ hd, by rw [List.getElem?_append_right (by rw [h.ld]; exact Nat.le_refl _), h.ld]; simp, rfl⟩
        · obtain ⟨g1, a, b, g2, g3, g4⟩ := h.up k l hk j (List.mem_of_mem_drop hj)
          exact ⟨g1, a, b, dget _ _ g2, dget _ _ g3, g4⟩
      · rw [List.getElem?_set_ne c] at hi
        obtain ⟨g1, a, b, g2, g3, g4⟩ := h.up i m hi j hj
        exact ⟨g1, a, b, dget _ _ g2, dget _ _ g3, g4⟩
    · rw [List.getElem?_append_right (by simpa using hl)] at hi
      have : m = [] := by
        obtain ⟨x, hx⟩ : ∃ x, i - (us.set k (l.take p ++ [n + 1] ++ l.drop p)).length = x := ⟨_, rfl⟩
        rw [hx] at hi
        cases x with
        | zero => simpa using hi.symm
        | succ x => simp at hi
      subst this
      cases hj
  · rcases List.mem_append.mp hx with hx | hx
    · exact h.le x hx
    · simp at hx; omega
/-- the trees of the last m places -/
structure Built (us : List (List Nat)) (ds : List Nat) (M n m : Nat) (ts : List T) : Prop where
  len : ts.length = n + 1
  got : ∀ k, n + 1 - m ≤ k → k ≤ n → ∃ t l, ts[k]? = some t ∧ us[k]? = some l ∧ t.L.map some = l.map (fun j => ts[j]?) ∧ ∀ d, ds[k]? = some d → t.dp + d ≤ M
theorem sum_perm {l l' : List Nat} (h : l.Perm l') (f : Nat → Nat) : (l.map f).sum = (l'.map f).sum := (h.map f).sum_nat
theorem sum_flatten (us : List (List Nat)) (f : Nat → Nat) : (us.flatten.map f).sum = (us.map fun l => (l.map f).sum).sum := by
  induction us with
  | nil => rfl
  | cons u us ih => rw [List.flatten_cons, List.map_append, List.sum_append_nat, ih, List.map_cons, List.sum_cons]
theorem built_pts {us : List (List Nat)} {ds : List Nat} {M n : Nat} {ts : List T} (H : Hang n M us ds) (b : Built us ds M n (n + 1) ts) : ∃ t, ts[0]? = some t ∧ t.pts = n + 1 ∧ t.dp ≤ M := by
  obtain ⟨t0, l0, e0, _, _, d0⟩ := b.got 0 (by omega) (Nat.zero_le _)
  have hd0 : ∃ d, ds[0]? = some d := ⟨ds[0]'(by rw [H.ld]; omega), List.getElem?_eq_getElem _⟩
  obtain ⟨d, hd⟩ := hd0
  refine ⟨t0, e0, ?_, by have := d0 d hd; omega⟩
  let P : Nat → Nat := fun k => match ts[k]? with
    | some t => t.pts
    | none => 0
  have hP : ∀ k, k ≤ n → P k = 1 + ((us.getD k []).map P).sum := fun k hk => by
    obtain ⟨t, l, e1, e2, e3, _⟩ := b.got k (by omega) hk
    have q1 : P k = t.pts := by show (match ts[k]? with | some t => t.pts | none => 0) = _; rw [e1]
    have q2 : us.getD k [] = l := by rw [List.getD_eq_getElem?_getD, e2]; rfl
    rw [q1, q2]
    have q4 : t.pts = 1 + (t.L.map pts).sum := by
      have := pts_of t.L
      rwa [of_L] at this
    rw [q4]
    congr 1
    have q3 : (t.L.map pts) = l.map P := by
      have h1 : ∀ (xs : List T) (l : List Nat), xs.map some = l.map (fun j => ts[j]?) → xs.map pts = l.map P := by
        intro xs
        induction xs with
        | nil => intro l h; cases l with
          | nil => rfl
          | cons _ _ => cases h
        | cons x xs ih => intro l h; cases l with
          | nil => cases h
          | cons j l =>
            have h1 := (List.cons.inj h).1
            have h2 := ih l (List.cons.inj h).2
            rw [List.map_cons, List.map_cons, h2]
            congr 1
            show x.pts = (match ts[j]? with | some t => t.pts | none => 0)
            have h1' : some x = ts[j]? := h1
            rw [← h1']
      exact h1 _ _ e3
    rw [q3]
  have hs1 : (us.map fun l => (l.map P).sum).sum + (n + 1) = ((List.range (n + 1)).map P).sum := by
    have e : us = (List.range (n + 1)).map fun k => us.getD k [] := by
      apply List.ext_getElem?
      intro i
      rw [List.getElem?_map]
      by_cases c : i < n + 1
      · rw [List.getElem?_range c]
        show us[i]? = some (us.getD i [])
        rw [List.getD_eq_getElem?_getD, List.getElem?_eq_getElem (by rw [H.lu]; exact c)]; rfl
      · rw [List.getElem?_eq_none (by rw [H.lu]; omega), List.getElem?_eq_none (by simpa using c)]; rfl
    have e2 : ∀ m, m ≤ n + 1 → ((List.range m).map fun k => ((us.getD k []).map P).sum).sum + m = ((List.range m).map P).sum := by
      intro m
      induction m with
      | zero => intro _; rfl
      | succ m ih =>
        intro hm
        rw [List.range_succ, List.map_append, List.map_append, List.sum_append_nat, List.sum_append_nat, ← ih (by omega)]
        simp only [List.map_cons, List.map_nil, List.sum_cons, List.sum_nil]
        rw [hP m (by omega)]
        omega
    have e3 := e2 (n + 1) (Nat.le_refl _)
    have e4 : (us.map fun l => (l.map P).sum) = (List.range (n + 1)).map fun k => ((us.getD k []).map P).sum := by
      have e5 := congrArg (List.map fun l => (List.map P l).sum) e
      rw [List.map_map] at e5
      exact e5
    rw [e4]; exact e3
  have hs2 : (us.map fun l => (l.map P).sum).sum = ((List.range' 1 n).map P).sum := by rw [← sum_flatten, sum_perm H.perm]
  have hs3 : ((List.range (n + 1)).map P).sum = P 0 + ((List.range' 1 n).map P).sum := by
    rw [List.range_eq_range', List.range'_succ]; simp
  have hP0 : P 0 = t0.pts := by show (match ts[0]? with | some t => t.pts | none => 0) = _; rw [e0]
  omega
end Nm
set_option Elab.async false
set_option linter.all false
set_option maxRecDepth 100000
set_option maxHeartbeats 4000000
set_option exponentiation.threshold 20
namespace Nm
open PySem Pu O L2
abbrev Dn (j : Nat) : PyData := .int (j : Nat)
abbrev Ul (us : List (List Nat)) : PyData := .list (us.map fun l => .list (l.map Dn))
def TreeOk (F : Fn) : Prop := ∀ (cs : List Int) (M : Nat), (∀ z ∈ cs, Bit z) → cs.length ≤ 100 → 1 ≤ M → M ≤ 100 → ∃ t : T, F [.list (cs.map .int), .int (M : Nat)] = .ok (ten t) ∧ t.pts = cs.length + 1 ∧ t.dp ≤ M
abbrev tr_5 (S : Nat → Fn) (c0 : Nat) : Vars → Out := sSetD 5 (eFn (S c0) (aCons (eOp gIx (eVar 0) (eVar 4)) (aCons (eVar 4) aNil)))
abbrev tr_6 : Vars → Out := sSetD 6 (eOp gMod (eOp gDiv (eVar 5) (eC (.int 3))) (eCall gLen (aCons (eVar 3) aNil)))
abbrev tr_7 : Vars → Out := sIf (tOf (eOp gEq (eOp gMod (eVar 5) (eC (.int 3))) (eC (.int 0)))) (sSetD 6 (eOp gSub (eCall gLen (aCons (eVar 3) aNil)) (eC (.int 1)))) sNil
abbrev tr_8 : Vars → Out := sIf (tOf (eOp gGe (eOp gIx (eVar 3) (eVar 6)) (eVar 1))) (sSetD 6 (eC (.int 0))) sNil
abbrev tr_9 : Vars → Out := sIns 2 (eVar 6) (aCons (eOp gMod (eOp gDiv (eVar 5) (eC (.int 1000))) (eOp gAdd (eCall gLen (aCons (eOp gIx (eVar 2) (eVar 6)) aNil)) (eC (.int 1)))) (aCons (eCall gLen (aCons (eVar 3) aNil)) aNil))
abbrev tr_a : Vars → Out := sApp 3 (eOp gAdd (eOp gIx (eVar 3) (eVar 6)) (eC (.int 1)))
abbrev tr_b : Vars → Out := sAppN 2
theorem ixNn {n j : Nat} (hj : j < n) : ixN n (j : Int) = some j := by
  unfold L2.ixN
  rw [if_pos (by omega), if_pos (by omega)]; simp
theorem rngN_down (n : Nat) : rngN ((n : Int) - 1) (-1) (-1) = n := by
  unfold rngN Builtin.Range.rangeSize
  rw [if_neg (by decide)]
  by_cases c : (n : Int) - 1 > -1
  · rw [if_pos c, show (-(-1 : Int)) = 1 from rfl, Int.ediv_one]; omega
  · rw [if_neg c]; omega
theorem mod_nat {n : Nat} (h : 0 < n) (v : Int) : ∃ k : Nat, v % (n : Int) = (k : Nat) ∧ k < n := by
  have h0 := Int.emod_nonneg v (show (n : Int) ≠ 0 by omega)
  have h1 := Int.emod_lt_of_pos v (show (0 : Int) < n by omega)
  exact ⟨(v % (n : Int)).toNat, by omega, by omega⟩
theorem atI_Dn {ds : List Nat} {k d : Nat} (h : ds[k]? = some d) : atI (ds.map Dn) (k : Int) = some (Dn d) := L2.atI_nat (by rw [List.getElem?_map, h]; rfl)
theorem tree_turn {S : Nat → Fn} {c0 : Nat} (hm : MxOk (S c0)) {cs : List Int} {M n : Nat} (hb : ∀ z ∈ cs, Bit z) (h1 : 1 ≤ M) (hn : n < cs.length) (h80 : cs.length ≤ 100) {us : List (List Nat)} {ds : List Nat} (H : Hang n M us ds) (x5 x6 x7 x8 : Option PyData) :
    ∃ us' ds' y5 y6, Hang (n + 1) M us' ds' ∧ (sSeq (tr_5 S c0) (sSeq tr_6 (sSeq tr_7 (sSeq tr_8 (sSeq tr_9 (sSeq tr_a tr_b)))))) [some (.list (cs.map .int)), some (Dn M), some (Ul us), some (.list (ds.map Dn)), some (Dn n), x5, x6, x7, x8]
      = .nx [some (.list (cs.map .int)), some (Dn M), some (Ul us'), some (.list (ds'.map Dn)), some (Dn n), y5, y6, x7, x8] := by
  have hc : cs[n] ∈ cs := List.getElem_mem hn
  obtain ⟨r, er, r0, r1⟩ := hm cs[n] (n : Nat) (hb _ hc) (by omega) (by omega)
  have a0 : atI (cs.map PyData.int) (n : Int) = some (.int cs[n]) := L2.atI_nat (by rw [List.getElem?_map, List.getElem?_eq_getElem hn]; rfl)
  have ld := H.ld
  have lu := H.lu
  have d3 : ∀ i : Int, cDiv i 3 = true := fun i => cDiv_of 10 (by decide) (by decide) (by decide) (by decide)
  have d4 : ∀ i : Int, cDiv i 1000 = true := fun i => cDiv_of 10 (by decide) (by decide) (by decide) (by decide)
  have m3 : ∀ i : Int, cMod i 3 = true := fun i => cMod_of (by decide)
  have ml : ∀ i : Int, cMod i ((n : Int) + 1) = true := fun i => cMod_of (by omega)
  obtain ⟨k6, e6, l6⟩ := mod_nat (n := n + 1) (by omega) (r / 3)
  rw [show ((n + 1 : Nat) : Int) = (n : Int) + 1 by omega] at e6
  have t5 : ∀ y6, tr_5 S c0 [some (.list (cs.map .int)), some (Dn M), some (Ul us), some (.list (ds.map Dn)), some (Dn n), x5, y6, x7, x8] = .nx [some (.list (cs.map .int)), some (Dn M), some (Ul us), some (.list (ds.map Dn)), some (Dn n), some (.int r), y6, x7, x8] := fun y6 => by
    simp [tr_5, a0, er, imm]
  have t6 : tr_6 [some (.list (cs.map .int)), some (Dn M), some (Ul us), some (.list (ds.map Dn)), some (Dn n), some (.int r), x6, x7, x8] = .nx [some (.list (cs.map .int)), some (Dn M), some (Ul us), some (.list (ds.map Dn)), some (Dn n), some (.int r), some (Dn k6), x7, x8] := by
    simp [tr_6, d3, ld, ml, e6, imm]
  have t7 : ∃ k, k < n + 1 ∧ tr_7 [some (.list (cs.map .int)), some (Dn M), some (Ul us), some (.list (ds.map Dn)), some (Dn n), some (.int r), some (Dn k6), x7, x8] = .nx [some (.list (cs.map .int)), some (Dn M), some (Ul us), some (.list (ds.map Dn)), some (Dn n), some (.int r), some (Dn k), x7, x8] := by
    by_cases c : r % 3 = 0
    · refine ⟨n, by omega, ?_⟩
      have : ((n : Int) + 1 - 1) = n := by omega
      simp [tr_7, m3, c, ld, this, imm]
    · exact ⟨k6, l6, by simp [tr_7, m3, c]⟩
  obtain ⟨k7, l7, t7⟩ := t7
  have t8 : ∃ k d, ds[k]? = some d ∧ d + 1 ≤ M ∧ tr_8 [some (.list (cs.map .int)), some (Dn M), some (Ul us), some (.list (ds.map Dn)), some (Dn n), some (.int r), some (Dn k7), x7, x8] = .nx [some (.list (cs.map .int)), some (Dn M), some (Ul us), some (.list (ds.map Dn)), some (Dn n), some (.int r), some (Dn k), x7, x8] := by
    have hk : k7 < ds.length := by omega
    have ek := List.getElem?_eq_getElem hk
    have ea := atI_Dn ek
    by_cases c : M ≤ ds[k7]
    · refine ⟨0, 0, H.root, by omega, ?_⟩
      have c' : (M : Int) ≤ (ds[k7] : Nat) := by omega
      simp [tr_8, ea, c', imm]
    · refine ⟨k7, ds[k7], ek, by omega, ?_⟩
      have c' : ¬ (M : Int) ≤ (ds[k7] : Nat) := by omega
      simp [tr_8, ea, c']
  obtain ⟨k, d, ed, dM, t8⟩ := t8
  have hk : k < n + 1 := by rw [← ld]; exact (List.getElem?_eq_some_iff.mp ed).1
  have hku : k < us.length := by omega
  have eu := List.getElem?_eq_getElem hku
  obtain ⟨l, hl⟩ : ∃ l, us[k] = l := ⟨_, rfl⟩
  rw [hl] at eu
  have eau : atI (us.map fun l => PyData.list (l.map Dn)) (k : Int) = some (.list (l.map Dn)) := L2.atI_nat (by rw [List.getElem?_map, eu]; rfl)
  obtain ⟨p, ep, lp⟩ := mod_nat (n := l.length + 1) (by omega) (r / 1000)
  rw [show ((l.length + 1 : Nat) : Int) = (l.length : Int) + 1 by omega] at ep
  have mp : ∀ i : Int, cMod i ((l.length : Int) + 1) = true := fun i => cMod_of (by omega)
  have ix : ixN us.length (k : Int) = some k := ixNn hku
  have hll : l.length ≤ n := by
    have h2 : l.length ≤ us.flatten.length := by
      have hmem : l ∈ us := List.mem_of_getElem? eu
      have : l.Sublist us.flatten := List.sublist_flatten_of_mem hmem
      exact this.length_le
    rw [H.perm.length_eq] at h2
    simpa using h2
  have slL : l.length < sizeLine := sz1000' (by omega)
  have slD : ds.length < sizeLine := sz1000' (by omega)
  have slU : us.length < sizeLine := sz1000' (by omega)
  have H' := H.step (p := p) eu ed dM
  have t9 : tr_9 [some (.list (cs.map .int)), some (Dn M), some (Ul us), some (.list (ds.map Dn)), some (Dn n), some (.int r), some (Dn k), x7, x8] = .nx [some (.list (cs.map .int)), some (Dn M), some (Ul (us.set k (l.take p ++ [n + 1] ++ l.drop p))), some (.list (ds.map Dn)), some (Dn n), some (.int r), some (Dn k), x7, x8] := by
    have p62 : p < 2 ^ 62 := by have : (2 : Nat) ^ 62 = 4611686018427387904 := by decide
                                omega
    have eset : (us.map fun l => PyData.list (l.map Dn)).set k (.list (List.map Dn (List.take p l) ++ PyData.int ((n : Int) + 1) :: List.map Dn (List.drop p l))) = (us.set k (l.take p ++ (n + 1) :: l.drop p)).map fun l => PyData.list (l.map Dn) := by
      rw [List.map_set]; simp; rfl
    have d4' : cDiv r 1000 = true := d4 r
    simp only [tr_9, u_sIns, u_eVar, u_aCons, u_eOp, u_eC, u_eCall, u_aNil, List.getD_cons_zero, List.getD_cons_succ, R.of_some, R.run_ok, R.bind_ok, List.length_map, ix, List.getElem?_map, eu, Option.map_some, u_gInt, d4', if_true, u_gIx_l, eau, u_gLen_l, u_gAdd_i, mp, ep, ld]
    simp only [imm, Int.natAbs_natCast, Int.natCast_nonneg, decide_true, decide_eq_true p62, decide_eq_true slL, Bool.and_self, if_true, List.set_cons_succ, List.set_cons_zero, Int.toNat_natCast]
    simp [List.map_set, List.map_take, List.map_drop]; rfl
  have ea := atI_Dn ed
  have ta : ∀ V, tr_a [some (.list (cs.map .int)), some (Dn M), V, some (.list (ds.map Dn)), some (Dn n), some (.int r), some (Dn k), x7, x8] = .nx [some (.list (cs.map .int)), some (Dn M), V, some (.list ((ds ++ [d + 1]).map Dn)), some (Dn n), some (.int r), some (Dn k), x7, x8] := fun V => by
    simp [tr_a, ea, imm, slD]
  have tb : tr_b [some (.list (cs.map .int)), some (Dn M), some (Ul (us.set k (l.take p ++ [n + 1] ++ l.drop p))), some (.list ((ds ++ [d + 1]).map Dn)), some (Dn n), some (.int r), some (Dn k), x7, x8] = .nx [some (.list (cs.map .int)), some (Dn M), some (Ul (us.set k (l.take p ++ [n + 1] ++ l.drop p) ++ [[]])), some (.list ((ds ++ [d + 1]).map Dn)), some (Dn n), some (.int r), some (Dn k), x7, x8] := by
    simp [tr_b, slU]
  refine ⟨_, _, some (.int r), some (Dn k), H', ?_⟩
  rw [u_sSeq, t5, Out.then_nx, u_sSeq, t6, Out.then_nx, u_sSeq, t7, Out.then_nx, u_sSeq, t8, Out.then_nx, u_sSeq, t9, Out.then_nx, u_sSeq, ta, Out.then_nx, tb]
/-! the trees, from the last one on -/
theorem lc_at {xs : List PyData} {is : List Nat} {ρ : Vars} (h7 : ρ.getD 7 none = some (.list xs)) (hl : 8 < ρ.length) {ys : List PyData} (h : is.map (fun j => xs[j]?) = ys.map some) : lcL (gtName 8) tYesD (eOp gIx (eVar 7) (eVar 8)) ρ (is.map Dn) = .ok ys := by
  induction is generalizing ys with
  | nil => cases ys with
    | nil => rfl
    | cons _ _ => cases h
  | cons i is ih =>
    cases ys with
    | nil => cases h
    | cons y ys =>
      have h1 : xs[i]? = some y := (List.cons.inj h).1
      have h2 := ih (List.cons.inj h).2
      have e7 : (ρ.set 8 (some (Dn i))).getD 7 none = some (.list xs) := by
        rw [List.getD_eq_getElem?_getD, List.getElem?_set_ne (by decide), ← List.getD_eq_getElem?_getD]; exact h7
      have e8 : (ρ.set 8 (some (Dn i))).getD 8 none = some (Dn i) := by
        rw [List.getD_eq_getElem?_getD, List.getElem?_set_self hl]; rfl
      have ea : atI xs (i : Int) = some y := L2.atI_nat h1
      rw [List.map_cons, u_lcL_c]
      simp only [u_gtName, u_tYesD, R.bind_ok, if_true, u_eOp, u_eVar, e7, e8, R.of_some, u_gIx_l, ea, h2]
abbrev tr_c : Vars → Out := sPut 7 (eCall gTuple (aCons (eLc (iSeq (eOp gIx (eVar 2) (eVar 4))) (gtName 8) tYesD (eOp gIx (eVar 7) (eVar 8)) [8]) aNil)) (eVar 4)
theorem built_turn {M n : Nat} {us : List (List Nat)} {ds : List Nat} (H : Hang n M us ds) (hn : n ≤ 100) {m : Nat} (hm : m ≤ n) {ts : List T} (B : Built us ds M n m ts) (c0 c1 x5 x6 x8 : Option PyData) :
    ∃ ts', Built us ds M n (m + 1) ts' ∧ tr_c [c0, c1, some (Ul us), some (.list (ds.map Dn)), some (.int ((n : Int) - m)), x5, x6, some (.list (ts.map ten)), x8]
      = .nx [c0, c1, some (Ul us), some (.list (ds.map Dn)), some (.int ((n : Int) - m)), x5, x6, some (.list (ts'.map ten)), x8] := by
  obtain ⟨k, hk⟩ : ∃ k, n - m = k := ⟨_, rfl⟩
  have ek : ((n : Int) - m) = (k : Nat) := by omega
  rw [ek]
  have lu := H.lu
  have ld := H.ld
  have lt := B.len
  have hku : k < us.length := by omega
  have eu := List.getElem?_eq_getElem hku
  obtain ⟨l, hl⟩ : ∃ l, us[k] = l := ⟨_, rfl⟩
  rw [hl] at eu
  have eau : atI (us.map fun l => PyData.list (l.map Dn)) (k : Int) = some (.list (l.map Dn)) := L2.atI_nat (by rw [List.getElem?_map, eu]; rfl)
  have hll : l.length ≤ n := by
    have h2 : l.length ≤ us.flatten.length := (List.sublist_flatten_of_mem (List.mem_of_getElem? eu)).length_le
    rw [H.perm.length_eq] at h2
    simpa using h2
  have slL : l.length < sizeLine := sz1000' (by omega)
  -- the branches
  have hj : ∀ j ∈ l, k < j ∧ j ≤ n := fun j hj => by
    obtain ⟨g1, a, b, g2, g3, g4⟩ := H.up k l eu j hj
    have := (List.getElem?_eq_some_iff.mp g3).1
    exact ⟨g1, by omega⟩
  obtain ⟨bs, ebs⟩ : ∃ bs : List T, (l.map fun j => ts.getD j .z) = bs := ⟨_, rfl⟩
  have hbs : bs.map some = l.map fun j => ts[j]? := by
    rw [← ebs, List.map_map]
    refine List.map_congr_left fun j hj' => ?_
    have := hj j hj'
    show some (ts.getD j .z) = ts[j]?
    rw [List.getD_eq_getElem?_getD, List.getElem?_eq_getElem (by omega)]; rfl
  have hlc : ∀ ρ : Vars, ρ.getD 7 none = some (.list (ts.map ten)) → 8 < ρ.length → lcL (gtName 8) tYesD (eOp gIx (eVar 7) (eVar 8)) ρ (l.map Dn) = .ok (bs.map ten) := fun ρ h1 h2 => by
    refine lc_at h1 h2 ?_
    have e1 : (fun j : Nat => (ts.map ten)[j]?) = fun j => (ts[j]?).map ten := by funext j; rw [List.getElem?_map]
    rw [e1, show (l.map fun j => (ts[j]?).map ten) = (l.map fun j => ts[j]?).map (Option.map ten) by rw [List.map_map]; rfl, ← hbs, List.map_map, List.map_map]
    simp [Function.comp_def]
  have blen : bs.length = l.length := by rw [← ebs, List.length_map]
  have ix : ixN ts.length (k : Int) = some k := ixNn (by omega)
  have im : imm (.tuple (bs.map ten)) = true := by rw [← tenL_of]; exact ten_imm _
  refine ⟨ts.set k (T.of bs), ⟨by rw [List.length_set]; exact lt, fun i hi1 hi2 => ?_⟩, ?_⟩
  · by_cases c : k = i
    · subst c
      refine ⟨T.of bs, l, List.getElem?_set_self (by omega), eu, ?_, fun d hd => ?_⟩
      · rw [T.L_of, hbs]
        refine List.map_congr_left fun j hj' => ?_
        have := hj j hj'
        rw [List.getElem?_set_ne (by omega)]
      · have hdM : d ≤ M := H.le d (List.mem_of_getElem? hd)
        have h2 : (T.of bs).dp ≤ M - d := by
          refine T.dp_of fun b hb => ?_
          rw [← ebs] at hb
          obtain ⟨j, hj', e⟩ := List.mem_map.mp hb
          have hj2 := hj j hj'
          obtain ⟨g1, a, b', g2, g3, g4⟩ := H.up k l eu j hj'
          obtain ⟨t, l', e1, e2, e3, e4⟩ := B.got j (by omega) hj2.2
          rw [List.getD_eq_getElem?_getD, e1] at e
          have e5 : t = b := e
          subst e5
          have e6 := e4 b' g3
          rw [hd] at g2
          cases g2
          omega
        omega
    · obtain ⟨t, l', e1, e2, e3, e4⟩ := B.got i (by omega) hi2
      refine ⟨t, l', by rw [List.getElem?_set_ne c]; exact e1, e2, ?_, e4⟩
      rw [e3]
      refine List.map_congr_left fun j hj' => ?_
      obtain ⟨g1, _⟩ := H.up i l' e2 j hj'
      rw [List.getElem?_set_ne (by omega)]
  · have hlc' := hlc [c0, c1, some (Ul us), some (.list (ds.map Dn)), some (Dn k), x5, x6, some (.list (ts.map ten)), none] rfl (by simp)
    have sb : bs.length < sizeLine := by rw [blen]; exact slL
    simp only [tr_c, u_sPut, List.getD_cons_zero, List.getD_cons_succ, u_eCall, u_aCons, u_eLc, u_nLc, u_iSeq, u_eOp, u_eVar, R.of_some, R.bind_ok, u_gIx_l, eau, u_wipe_c, u_wipe_n, List.set_cons_succ, List.set_cons_zero, hlc', sb, if_true, u_aNil, u_gTuple_l, R.run_ok, List.length_map, ix, im]
    have e : ten (T.of bs) = .tuple (bs.map ten) := by show PyData.tuple (tenL _) = _; rw [tenL_of]
    rw [List.map_set, e]
theorem l_tree_step {S : Nat → Fn} {c0 : Nat} (hm : MxOk (S c0)) : TreeOk (fun ds => fnD 9 (G_l_tree c0 S) ds) := by
  intro cs M hb h80 h1 h100
  have ok : okI (cs.length : Int) = true := okI_small (by omega) (by omega)
  obtain ⟨ρ1, r1, us, ds, y4, y5, y6, H, rfl⟩ := forL_rng (n := cs.length) (i := 4) (g := sSeq (tr_5 S c0) (sSeq tr_6 (sSeq tr_7 (sSeq tr_8 (sSeq tr_9 (sSeq tr_a tr_b))))))
    (fun n ρ => ∃ us ds y4 y5 y6, Hang n M us ds ∧ ρ = [some (.list (cs.map .int)), some (Dn M), some (Ul us), some (.list (ds.map Dn)), y4, y5, y6, none, none])
    [some (.list (cs.map .int)), some (Dn M), some (Ul [[]]), some (.list ([0].map Dn)), none, none, none, none, none] ⟨_, _, _, _, _, Hang.zero, rfl⟩ fun n ρ hn hi => by
      obtain ⟨us, ds, y4, y5, y6, H, rfl⟩ := hi
      obtain ⟨us', ds', z5, z6, H', e⟩ := tree_turn hm hb h1 hn h80 H y5 y6 none none
      exact ⟨_, Or.inl e, us', ds', _, z5, z6, H', rfl⟩
  have lu := H.lu
  have ld := H.ld
  obtain ⟨N, hN⟩ : ∃ N, cs.length = N := ⟨_, rfl⟩
  rw [hN] at H lu ld h80 ok
  have B0 : Built us ds M N 0 (List.replicate (N + 1) T.z) := ⟨by simp, fun k h1 h2 => by omega⟩
  have rn : rngN ((N : Int) + 1 - 1) (-1) (-1) = N + 1 := by
    have := rngN_down (N + 1)
    rwa [show ((N + 1 : Nat) : Int) - 1 = (N : Int) + 1 - 1 by omega] at this
  obtain ⟨ρ2, r2, ts, y4', B, rfl⟩ := forL_inv (gt := gtName 4) (g := tr_c)
    (fun m ρ => ∃ ts y4, Built us ds M N m ts ∧ ρ = [some (.list (cs.map .int)), some (Dn M), some (Ul us), some (.list (ds.map Dn)), y4, y5, y6, some (.list (ts.map ten)), none])
    (rngC ((N : Int) + 1 - 1) (-1) (N + 1)) 0 [some (.list (cs.map .int)), some (Dn M), some (Ul us), some (.list (ds.map Dn)), y4, y5, y6, some (.list ((List.replicate (N + 1) T.z).map ten)), none] ⟨_, _, B0, rfl⟩ fun j d ρ hd hi => by
      obtain ⟨ts, y4, B, rfl⟩ := hi
      rw [rngC_get] at hd
      by_cases q : j < N + 1
      · rw [if_pos q] at hd
        cases hd
        rw [Nat.zero_add] at B
        obtain ⟨ts', B', e⟩ := built_turn H (by omega) (m := j) (by omega) B (some (.list (cs.map .int))) (some (Dn M)) y5 y6 none
        refine ⟨_, _, rfl, Or.inl ?_, ts', some (.int ((N : Int) - (j : Nat))), by rw [Nat.zero_add]; exact B', rfl⟩
        rw [show ((N : Int) + 1 - 1 + (j : Nat) * (-1)) = (N : Int) - j by omega]
        exact e
      · rw [if_neg q] at hd; cases hd
  rw [rngC_len, Nat.zero_add] at B
  obtain ⟨t, e0, ep, ed⟩ := built_pts H B
  refine ⟨t, fnD_of ?_, by omega, ed⟩
  have ea : atI (ts.map ten) 0 = some (ten t) := L2.atI_nat (j := 0) (by rw [List.getElem?_map, e0]; rfl)
  have okN : okI ((N : Int) + 1 - 1) = true := okI_small (by omega) (by omega)
  have okM : okI (-1) = true := by decide
  have okc : okC (-1) = true := by decide
  have okr : okRep ((N : Int) + 1) 1 = true := by
    unfold okRep
    have : (2 : Nat) ^ 62 = 4611686018427387904 := by decide
    rw [decide_eq_true (by omega), decide_eq_true (by omega)]; rfl
  have erep : (List.replicate ((N : Int) + 1).toNat [PyData.tuple []]).flatten = (List.replicate (N + 1) T.z).map ten := by
    rw [show ((N : Int) + 1).toNat = N + 1 by omega, List.map_replicate]
    have : ∀ n, (List.replicate n [PyData.tuple []]).flatten = List.replicate n (PyData.tuple []) := fun n => by
      induction n with
      | zero => rfl
      | succ n ih => rw [List.replicate_succ, List.flatten_cons, ih]; rfl
    rw [this]; rfl
  unfold G_l_tree
  have h9 : ([PyData.list (cs.map .int), .int (M : Nat)].map some ++ List.replicate (9 - [PyData.list (cs.map .int), .int (M : Nat)].length) none) = [some (.list (cs.map .int)), some (Dn M), none, none, none, none, none, none, none] := rfl
  have l9 : 2 < [some (PyData.list (cs.map .int)), some (Dn M), none, none, none, none, none, none, none].length := by simp
  rw [h9, u_sSeq, u_sNewL, if_pos l9, Out.then_nx, u_sSeq, u_sNewD]
  simp only [mask, u_mask_c, u_mask_n, u_nLst, u_aCons, u_aNil, u_eC, R.bind_ok, List.length_cons, List.length_nil, show 0 + 1 ≤ sizeLine from sz1, if_true, R.run_ok, Out.then_nx, List.set_cons_succ, List.set_cons_zero]
  rw [u_sSeq, u_sForD]
  rw [hN] at r1
  have e1 : (iRange (aCons (eCall gLen (aCons (eVar 0) aNil)) aNil)) (mask [2, 3, 7] [some (.list (cs.map .int)), some (Dn M), some (.list [.list []]), some (.list [.int 0]), none, none, none, none, none]) = .ok (rngD 0 N) := by
    simp [mask, hN, ok]
  rw [e1, R.run_ok]
  refine Eq.trans (congrArg (fun o => Out.then o _) r1) ?_
  rw [Out.then_nx, u_sSeq, u_sNew]
  have e2 : (nRep (aCons (eTup aNil) aNil) (eCall gLen (aCons (eVar 3) aNil))) (mask [7] [some (.list (cs.map .int)), some (Dn M), some (Ul us), some (.list (ds.map Dn)), y4, y5, y6, none, none]) = .ok ((List.replicate (N + 1) T.z).map ten) := by
    have er' := erep
    simp [mask, ld, okr]
    first | done | (rw [erep, List.map_replicate])
  rw [e2, R.run_ok, Out.then_nx, u_sSeq, u_sFor]
  have e3 : (iRange3 (aCons (eOp gSub (eCall gLen (aCons (eVar 3) aNil)) (eC (.int 1))) (aCons (eNeg (eC (.int 1))) (aCons (eNeg (eC (.int 1))) aNil)))) (mask [7] ([some (.list (cs.map .int)), some (Dn M), some (Ul us), some (.list (ds.map Dn)), y4, y5, y6, none, none].set 7 (some (.list ((List.replicate (N + 1) T.z).map ten))))) = .ok (rngC ((N : Int) + 1 - 1) (-1) (N + 1)) := by
    simp only [mask, u_mask_c, u_mask_n, List.set_cons_succ, List.set_cons_zero, u_iRange3, u_aCons, u_eOp, u_eCall, u_eVar, u_aNil, u_eC, u_eNeg, R.bind_ok, R.of_some, u_gSub_i, u_gLen_l, List.length_map, ld, Int.natCast_add, Int.natCast_one, List.getD_cons_succ, List.getD_cons_zero]
    have eld : ((ds.length : Nat) : Int) - 1 = (N : Int) := by omega
    have eN : (N : Int) + 1 - 1 = N := by omega
    rw [eN] at okN rn ⊢
    simp [okN, okM, okc, rn, eld]
  rw [e3, R.run_ok]
  refine Eq.trans (congrArg (fun o => Out.then o _) r2) ?_
  rw [Out.then_nx]
  simp [ea]
end Nm
set_option Elab.async false
set_option linter.all false
set_option maxRecDepth 100000
namespace Pu
open PySem
-- k41 k44 k45 k46 k47 k48 k52 k54 k55 slots 5 params 2
def G_l_compare_2 (c0 : Nat) (S : Nat → List PyData → R PyData) : Vars → Out :=
  (sSeq (sFor [] (iZipD (aCons (eVar 0) (aCons (eVar 1) aNil))) (gtTup 2 (gtCons (gtName 2) (gtCons (gtName 3) gtNil))) (sIf (tOf (eOp gNe (eVar 2) (eVar 3))) (sSeq (sSet [] 4 (eFn (S c0) (aCons (eOp gIx (eVar 2) (eC (.int 0))) (aCons (eOp gIx (eVar 3) (eC (.int 0))) aNil)))) (sSeq (sIf (tOf (eOp gEq (eVar 4) (eC (.int 0)))) (sRet (eOp gSub (eCall gIntC (aCons (eOp gGt (eOp gIx (eVar 2) (eC (.int 1))) (eOp gIx (eVar 3) (eC (.int 1)))) aNil)) (eCall gIntC (aCons (eOp gLt (eOp gIx (eVar 2) (eC (.int 1))) (eOp gIx (eVar 3) (eC (.int 1)))) aNil)))) sNil) (sRet (eVar 4)))) sNil))
    (sRet (eOp gSub (eCall gIntC (aCons (eOp gGt (eCall gLen (aCons (eVar 0) aNil)) (eCall gLen (aCons (eVar 1) aNil))) aNil)) (eCall gIntC (aCons (eOp gLt (eCall gLen (aCons (eVar 0) aNil)) (eCall gLen (aCons (eVar 1) aNil))) aNil)))))
-- k41 k44 k47 k48 k49 k57 slots 4 params 2
def G_l_alike_2 (c0 : Nat) (S : Nat → List PyData → R PyData) : Vars → Out :=
  (sSeq (sIf (tTru (eIsi "int" (eVar 1))) (sRet (eAnd (eIsi "int" (eVar 0)) (eAnd (eNot (eIsi "bool" (eVar 0))) (eOp gEq (eVar 0) (eVar 1))))) sNil)
    (sSeq (sIf (tOrR (tNotR (tTru (eIsi "tuple" (eVar 0)))) (tOf (eOp gNe (eCall gLen (aCons (eVar 0) aNil)) (eCall gLen (aCons (eVar 1) aNil))))) (sRet (eC (.bool false))) sNil)
    (sSeq (sFor [] (iZipD (aCons (eVar 0) (aCons (eVar 1) aNil))) (gtTup 2 (gtCons (gtName 2) (gtCons (gtName 3) gtNil))) (sIf (tNotR (tTru (eFn (S c0) (aCons (eVar 2) (aCons (eVar 3) aNil))))) (sRet (eC (.bool false))) sNil))
    (sRet (eC (.bool true))))))
-- k45 k48 k57 slots 1 params 1
def G_l_less (S : Nat → List PyData → R PyData) : Vars → Out :=
  (sSeq (sIf (tOf (eOp gEq (eOp gIx (eOp gIx (eVar 0) (eNeg (eC (.int 1)))) (eC (.int 1))) (eC (.int 1)))) (sRet (eSl (eVar 0) oNone (oSome (eNeg (eC (.int 1)))))) sNil)
    (sRet (eOp gAdd (eSl (eVar 0) oNone (oSome (eNeg (eC (.int 1))))) (eTup (aCons (eTup (aCons (eOp gIx (eOp gIx (eVar 0) (eNeg (eC (.int 1)))) (eC (.int 0))) (aCons (eOp gSub (eOp gIx (eOp gIx (eVar 0) (eNeg (eC (.int 1)))) (eC (.int 1))) (eC (.int 1))) aNil))) aNil)))))
-- k45 k48 k57 slots 3 params 2
def G_l_rung_2 (c0 c1 : Nat) (S : Nat → List PyData → R PyData) : Vars → Out :=
  (sSeq (sSet [] 2 (eOp gIx (eOp gIx (eVar 0) (eNeg (eC (.int 1)))) (eC (.int 0))))
    (sSeq (sIf (tOf (eOp gEq (eVar 2) (eTup aNil))) (sRet (eFn (S c0) (aCons (eVar 0) aNil))) sNil)
    (sSeq (sIf (tOf (eOp gNe (eOp gIx (eOp gIx (eVar 2) (eNeg (eC (.int 1)))) (eC (.int 0))) (eTup aNil))) (sRet (eOp gAdd (eFn (S c0) (aCons (eVar 0) aNil)) (eTup (aCons (eTup (aCons (eFn (S c1) (aCons (eVar 2) (aCons (eVar 1) aNil))) (aCons (eC (.int 1)) aNil))) aNil)))) sNil)
    (sSeq (sIf (tOf (eOp gEq (eVar 1) (eC (.int 0)))) (sRet (eFn (S c0) (aCons (eVar 0) aNil))) sNil)
    (sRet (eOp gAdd (eFn (S c0) (aCons (eVar 0) aNil)) (eTup (aCons (eTup (aCons (eFn (S c0) (aCons (eVar 2) aNil)) (aCons (eVar 1) aNil))) aNil))))))))
-- k57 slots 2 params 2
def G_l_walked_2 (c0 c1 : Nat) (S : Nat → List PyData → R PyData) : Vars → Out :=
  (sSeq (whileL (tOf (eOp gNe (eOp gIx (eOp gIx (eVar 0) (eNeg (eC (.int 1)))) (eC (.int 0))) (eTup aNil))) (sSet [] 0 (eFn (S c0) (aCons (eVar 0) (aCons (eVar 1) aNil)))) wfuel)
    (sRet (eFn (S c1) (aCons (eVar 0) aNil))))
end Pu
set_option Elab.async false
set_option linter.all false
set_option maxRecDepth 100000
set_option maxHeartbeats 4000000
set_option exponentiation.threshold 20
namespace Nm
open PySem Pu O L2
/-! ### the greatest times, what fits a base, the order once more -/
theorem max3_eq (a b c : Int) : gMax3 [.int a, .int b, .int c] = some (.int (max a (max b c))) := by
  unfold gMax3
  simp
  omega
theorem mx_c {e r : O} {n : Int} : mx (.c e n r) = max n (max (mx e) (mx r)) := rfl
def GstOk (k : Nat) (F : Fn) : Prop := ∀ a : O, a.h < k → F [enc a] = .ok (.int (mx a))
theorem gst_loop {F : Fn} {k : Nat} (hF : GstOk k F) {A : Option PyData} : ∀ (x : O) (m : Int) (s2 s3 : Option PyData), x.h ≤ k → 0 ≤ m →
    ∃ s2' s3', forL (gtTup 2 (gtCons (gtName 2) (gtCons (gtName 3) gtNil))) (sSet [] 1 (eCall gMax3 (aCons (eVar 1) (aCons (eVar 3) (aCons (eFn F (aCons (eVar 2) aNil)) aNil))))) (encL x) [A, some (.int m), s2, s3] = .nx [A, some (.int (max m (mx x))), s2', s3']
  | .z, m, s2, s3, _, hm => ⟨s2, s3, by
    have : mx .z = 0 := rfl
    rw [this, show max m 0 = m by omega]; rfl⟩
  | .c e n r, m, s2, s3, hh, hm => by
    have h3 : (O.c e n r).h = max (e.h + 1) r.h := rfl
    have g1 := hF e (by omega)
    have m3 := max3_eq m n (mx e)
    obtain ⟨s2', s3', e1⟩ := gst_loop hF (A := A) r (max m (max n (mx e))) (some (enc e)) (some (.int n)) (by omega) (by omega)
    refine ⟨s2', s3', ?_⟩
    rw [mx_c, show max m (max n (max (mx e) (mx r))) = max (max m (max n (mx e))) (mx r) by omega, ← e1]
    show forL _ _ (.tuple [enc e, .int n] :: encL r) _ = _
    rw [u_forL_c]
    simp [g1, m3]
theorem greatest_step {S : Nat → Fn} {c0 k : Nat} (h : GstOk k (S c0)) : GstOk (k + 1) (fun ds => fnD 4 (G_greatest c0 S) ds) := by
  intro a hh
  refine fnD_of ?_
  obtain ⟨s2, s3, e1⟩ := gst_loop h (A := some (enc a)) a 0 none none (by omega) (Int.le_refl _)
  rw [show max 0 (mx a) = mx a by have := mx_nonneg a; omega] at e1
  unfold G_greatest
  simp [e1]
def FitOk (k : Nat) (F : Fn) : Prop := ∀ (a : O) (b : Int), a.h < k → F [enc a, .int b] = .ok (.bool (decide (mx a < b)))
theorem fits_step {S : Nat → Fn} {c0 k : Nat} (h : GstOk k (S c0)) : FitOk k (fun ds => fnD 2 (G_fits c0 S) ds) := by
  intro a b hh
  refine fnD_of ?_
  have g1 := h a hh
  unfold G_fits
  simp [g1]
theorem l_fits_step {S : Nat → Fn} {c0 c1 k : Nat} (h0 : FitOk k (S c0)) (h1 : GstOk k (S c1)) : ∀ (a : O) (b : Int), a.h < k → fnD 3 (G_l_fits c0 c1 S) [enc a, .int b] = .ok (.bool true) := by
  intro a b hh
  refine fnD_of ?_
  have g0 := h0 a b hh
  have g1 := h1 a hh
  have gb : ∀ x : Bool, gEq (.bool x) (.bool x) = some (.bool true) := fun x => by cases x <;> rfl
  generalize hx : decide (mx a < b) = x at *
  unfold G_l_fits
  simp [g0, g1, isiB, hx, gb]
theorem gNe_part {e e' : O} {n n' : Int} (he : e.h ≤ 30) (he' : e'.h ≤ 30) : gNe (.tuple [enc e, .int n]) (.tuple [enc e', .int n']) = some (.bool (!decide (e = e' ∧ n = n'))) := by
  have h := gEq_enc (a := .c e n .z) (b := .c e' n' .z) (by show max (e.h + 1) 0 ≤ 31; omega) (by show max (e'.h + 1) 0 ≤ 31; omega)
  have h1 := gEq_part (n := n) (n' := n') he he'
  unfold gEq at h1
  unfold gNe
  split at h1
  · rename_i c
    rw [if_pos c]
    injection h1 with h2
    injection h2 with h3
    rw [h3]
  · cases h1
theorem zip_loop2 {k : Nat} {g : Vars → Out} {A B : Option PyData} (hg : ∀ (e : O) (n : Int) (e' : O) (n' : Int) (s : Option PyData), e.h < k → e.h ≤ 30 → e'.h ≤ 30 → ∃ s', g [A, B, some (encP (e, n)), some (encP (e', n')), s] =
      if lead e n e' n' ≠ 0 then .rt (.int (lead e n e' n')) else .nx [A, B, some (encP (e, n)), some (encP (e', n')), s']) :
    ∀ (a b : O) (x y s : Option PyData), a.h < k + 1 → a.h ≤ 31 → b.h ≤ 31 → ∃ x' y' s', forL gt2 g (zipD (encL a) (encL b)) [A, B, x, y, s] = if first a b ≠ 0 then .rt (.int (first a b)) else .nx [A, B, x', y', s']
  | .z, b, x, y, s, _, _, _ => ⟨x, y, s, by cases b <;> simp [zipD, first]⟩
  | .c e n r, .z, x, y, s, _, _, _ => ⟨x, y, s, by simp [zipD, first]⟩
  | .c e n r, .c e' n' r', x, y, s, h, h1, h2 => by
    have q1 : (O.c e n r).h = max (e.h + 1) r.h := rfl
    have q2 : (O.c e' n' r').h = max (e'.h + 1) r'.h := rfl
    obtain ⟨s1, e1⟩ := hg e n e' n' s (by omega) (by omega) (by omega)
    obtain ⟨x2, y2, s2, e2⟩ := zip_loop2 hg r r' (some (encP (e, n))) (some (encP (e', n'))) s1 (by omega) (by omega) (by omega)
    by_cases c : lead e n e' n' = 0
    · refine ⟨x2, y2, s2, ?_⟩
      rw [if_neg (show ¬ lead e n e' n' ≠ 0 from fun z => z c)] at e1
      have ef : first (.c e n r) (.c e' n' r') = first r r' := by
        show (if lead e n e' n' ≠ 0 then lead e n e' n' else first r r') = _
        rw [if_neg (show ¬ lead e n e' n' ≠ 0 from fun z => z c)]
      rw [ef, ← e2]
      show forL gt2 g (.tuple [encP (e, n), encP (e', n')] :: zipD (encL r) (encL r')) _ = _
      rw [u_forL_c]
      simp only [u_gtTup, u_gtCons, u_gtName, u_gtNil, List.length_cons, List.length_nil, Nat.zero_add, Nat.reduceAdd, if_true, Option.bind_some, List.set_cons_succ, List.set_cons_zero, e1]
    · refine ⟨x, y, s, ?_⟩
      rw [if_pos c] at e1
      have ef : first (.c e n r) (.c e' n' r') = lead e n e' n' := by
        show (if lead e n e' n' ≠ 0 then lead e n e' n' else first r r') = _
        rw [if_pos c]
      rw [ef, if_pos c]
      show forL gt2 g (.tuple [encP (e, n), encP (e', n')] :: zipD (encL r) (encL r')) _ = _
      rw [u_forL_c]
      simp only [u_gtTup, u_gtCons, u_gtName, u_gtNil, List.length_cons, List.length_nil, Nat.zero_add, Nat.reduceAdd, if_true, Option.bind_some, List.set_cons_succ, List.set_cons_zero, e1]
def Cmp2Ok (k : Nat) (F : Fn) : Prop := ∀ a b : O, a.h < k → a.h ≤ 30 → b.h ≤ 30 → F [enc a, enc b] = .ok (.int (cmp a b))
theorem l_compare2_step {S : Nat → Fn} {c0 k : Nat} (h : Cmp2Ok k (S c0)) : Cmp2Ok (k + 1) (fun ds => fnD 5 (G_l_compare_2 c0 S) ds) := by
  intro a b ha a30 b30
  refine fnD_of ?_
  obtain ⟨x', y', s', e1⟩ := zip_loop2 (k := k) (A := some (enc a)) (B := some (enc b)) (g := (sIf (tOf (eOp gNe (eVar 2) (eVar 3))) (sSeq (sSet [] 4 (eFn (S c0) (aCons (eOp gIx (eVar 2) (eC (.int 0))) (aCons (eOp gIx (eVar 3) (eC (.int 0))) aNil)))) (sSeq (sIf (tOf (eOp gEq (eVar 4) (eC (.int 0)))) (sRet (eOp gSub (eCall gIntC (aCons (eOp gGt (eOp gIx (eVar 2) (eC (.int 1))) (eOp gIx (eVar 3) (eC (.int 1)))) aNil)) (eCall gIntC (aCons (eOp gLt (eOp gIx (eVar 2) (eC (.int 1))) (eOp gIx (eVar 3) (eC (.int 1)))) aNil)))) sNil) (sRet (eVar 4)))) sNil)) (fun e n e' n' s he h30 h30' => by
    have hc := h e e' he h30 h30'
    have gn := gNe_part (n := n) (n' := n') h30 h30'
    by_cases c0 : e = e' ∧ n = n'
    · obtain ⟨rfl, rfl⟩ := c0
      rw [decide_eq_true ⟨rfl, rfl⟩] at gn
      exact ⟨s, by simp [gn, lead]⟩
    · rw [decide_eq_false c0] at gn
      refine ⟨s, ?_⟩
      by_cases c1 : cmp e e' = 0
      · have ee := (cmp_eq e e').mp c1
        rcases Int.lt_trichotomy n n' with c2 | c2 | c2
        · have c3 : ¬ n' < n := by omega
          have c4 : n ≠ n' := by omega
          simp [gn, hc, c1, c2, c3, c4, lead]
        · exact absurd ⟨ee, c2⟩ c0
        · have c3 : ¬ n < n' := by omega
          have c4 : n ≠ n' := by omega
          simp [gn, hc, c1, c2, c3, c4, lead]
      · simp [gn, hc, c1, lead]) a b none none none ha (by omega) (by omega)
  rw [cmp_first]
  unfold G_l_compare_2
  by_cases c : first a b = 0
  · rw [if_neg (show ¬ first a b ≠ 0 from fun z => z c)] at e1 ⊢
    rcases Nat.lt_trichotomy a.len b.len with c2 | c2 | c2
    · have c3 : ¬ b.len < a.len := by omega
      simp [e1, lenc, c2, c3]
    · simp [e1, lenc, c2]
    · have c3 : ¬ a.len < b.len := by omega
      simp [e1, lenc, c2, c3]
  · rw [if_pos (show first a b ≠ 0 from c)] at e1 ⊢
    simp [e1]
theorem fit_mx {b : Nat} : ∀ {a : O}, Fit b a → 1 ≤ b → mx a < b
  | .z, _, h => by show (0 : Int) < _; omega
  | .c e n r, f, h => by
    have h1 := fit_mx f.1 h
    have h2 := fit_mx f.2.2 h
    have h3 := f.2.1
    rw [mx_c]; omega
theorem mx_fit {b : Nat} : ∀ {a : O}, mx a < b → Fit b a
  | .z, _ => trivial
  | .c e n r, h => by
    rw [mx_c] at h
    exact ⟨mx_fit (by omega), by omega, mx_fit (by omega)⟩
end Nm
set_option Elab.async false
set_option linter.all false
set_option maxRecDepth 100000
namespace Pu
open PySem
-- k53 slots 8 params 2
def G_l_worth (c0 : Nat) (S : Nat → List PyData → R PyData) : Vars → Out :=
  (sSeq (sSet [] 2 (eOp gPowW (eOp gPow (eC (.int 10)) (eC (.int 60))) (eC (.int 10))))
    (sSeq (sSet [] 3 (eC (.int 0)))
    (sSeq (sFor [] (iSeq (eVar 0)) (gtTup 2 (gtCons (gtName 4) (gtCons (gtName 5) gtNil))) (sSeq (sSet [] 6 (eFn (S c0) (aCons (eVar 4) (aCons (eVar 1) aNil)))) (sSeq (sIf (tOf (eOp gLt (eVar 6) (eC (.int 0)))) (sRet (eNeg (eC (.int 1)))) sNil) (sSeq (sSet [] 7 (eC (.int 1))) (sSeq (whileL (tAndR (tOf (eOp gGt (eVar 6) (eC (.int 0)))) (tOf (eOp gLt (eVar 7) (eVar 2)))) (sSeq (sSet [] 7 (eOp gMul (eVar 7) (eVar 1))) (sSet [] 6 (eOp gSub (eVar 6) (eC (.int 1))))) wfuel) (sSet [] 3 (eOp gAdd (eVar 3) (eOp gMul (eVar 5) (eVar 7)))))))))
    (sSeq (sIf (tOf (eOp gGe (eVar 3) (eVar 2))) (sRet (eNeg (eC (.int 1)))) sNil)
    (sRet (eVar 3))))))
-- k53 k61 slots 1 params 1
def G_l_number_3 (S : Nat → List PyData → R PyData) : Vars → Out :=
  (sSeq (sIf (tOf (eOp gEq (eVar 0) (eC (.int 0)))) (sRet (eTup aNil)) sNil)
    (sRet (eTup (aCons (eTup (aCons (eTup aNil) (aCons (eVar 0) aNil))) aNil))))
-- k53 slots 7 params 3
def G_l_parts (c0 c1 c2 : Nat) (S : Nat → List PyData → R PyData) : Vars → Out :=
  (sSeq (sSet [] 3 (eTup aNil))
    (sSeq (sSet [] 4 (eNeg (eC (.int 1))))
    (sSeq (sFor [] (iRange (aCons (eCall gLen (aCons (eVar 0) aNil)) aNil)) (gtName 5) (sSeq (sSet [] 6 (eFn (S c0) (aCons (eOp gIx (eVar 0) (eVar 5)) (aCons (eVar 5) aNil)))) (sSeq (sSet [] 4 (eOp gAdd (eOp gAdd (eVar 4) (eC (.int 1))) (eOp gMod (eVar 6) (eVar 1)))) (sSet [] 3 (eOp gAdd (eTup (aCons (eTup (aCons (eFn (S c1) (aCons (eVar 4) aNil)) (aCons (eOp gAdd (eC (.int 1)) (eOp gMod (eFn (S c2) (aCons (eOp gIx (eVar 0) (eVar 5)) (aCons (eVar 5) aNil))) (eVar 2))) aNil))) aNil)) (eVar 3))))))
    (sRet (eVar 3)))))
-- k53 slots 6 params 2
def G_l_pick_2 (c0 c1 : Nat) (S : Nat → List PyData → R PyData) : Vars → Out :=
  (sSeq (sIf (tOf (eOp gEq (eOp gMod (eVar 1) (eC (.int 5))) (eC (.int 0)))) (sRet (eTup (aCons (eFn (S c0) (aCons (eSl (eVar 0) (oSome (eC (.int 1))) (oSome (eC (.int 15)))) (aCons (eC (.int 60)) (aCons (eOp gPow (eC (.int 10)) (eC (.int 60))) aNil)))) (aCons (eOp gAdd (eC (.int 2)) (eOp gMod (eOp gDiv (eVar 1) (eC (.int 5))) (eC (.int 12)))) aNil)))) sNil)
    (sSeq (sIf (tOf (eOp gEq (eOp gMod (eVar 1) (eC (.int 5))) (eC (.int 1)))) (sSeq (sSet [] 2 (eFn (S c0) (aCons (eSl (eVar 0) (oSome (eC (.int 1))) (oSome (eC (.int 5)))) (aCons (eC (.int 2)) (aCons (eC (.int 9)) aNil))))) (sSeq (sIf (tOf (eOp gEq (eVar 2) (eTup aNil))) (sSet [] 2 (eFn (S c1) (aCons (eC (.int 1)) aNil))) sNil) (sRet (eTup (aCons (eOp gAdd (eTup (aCons (eTup (aCons (eVar 2) (aCons (eOp gAdd (eC (.int 1)) (eOp gMod (eOp gDiv (eVar 1) (eC (.int 5))) (eC (.int 7)))) aNil))) aNil)) (eFn (S c1) (aCons (eOp gMod (eOp gDiv (eVar 1) (eC (.int 35))) (eC (.int 3))) aNil))) (aCons (eOp gAdd (eC (.int 2)) (eOp gMod (eOp gDiv (eVar 1) (eC (.int 105))) (eC (.int 4)))) aNil)))))) sNil)
    (sSeq (sIf (tOf (eOp gEq (eOp gMod (eVar 1) (eC (.int 5))) (eC (.int 2)))) (sSeq (sSet [] 3 (eCall gTuple (aCons (eLc (iRange (aCons (eC (.int 9)) aNil)) (gtName 5) tYesD (eTup (aCons (eFn (S c1) (aCons (eOp gSub (eC (.int 9)) (eVar 5)) aNil)) (aCons (eOp gSub (eOp gPow (eC (.int 10)) (eC (.int 60))) (eC (.int 1))) aNil))) [5]) aNil))) (sRet (eTup (aCons (eOp gAdd (eVar 3) (eTup (aCons (eTup (aCons (eTup aNil) (aCons (eOp gSub (eOp gPow (eC (.int 10)) (eC (.int 60))) (eOp gMod (eOp gDiv (eVar 1) (eC (.int 5))) (eC (.int 2)))) aNil))) aNil))) (aCons (eOp gPow (eC (.int 10)) (eC (.int 60))) aNil))))) sNil)
    (sSeq (sIf (tOf (eOp gEq (eOp gMod (eVar 1) (eC (.int 5))) (eC (.int 3)))) (sRet (eTup (aCons (eTup (aCons (eTup (aCons (eFn (S c1) (aCons (eOp gAdd (eC (.int 1990)) (eOp gMod (eOp gDiv (eVar 1) (eC (.int 5))) (eC (.int 7)))) aNil)) (aCons (eC (.int 1)) aNil))) aNil)) (aCons (eC (.int 2)) aNil)))) sNil)
    (sSeq (sSet [] 4 (eOp gMul (eOp gPowW (eOp gPow (eC (.int 10)) (eC (.int 46))) (eC (.int 6))) (eOp gPow (eC (.int 10)) (eC (.int 23)))))
    (sRet (eTup (aCons (eTup (aCons (eTup (aCons (eFn (S c1) (aCons (eC (.int 599)) aNil)) (aCons (eC (.int 9)) aNil))) (aCons (eTup (aCons (eFn (S c1) (aCons (eC (.int 300)) aNil)) (aCons (eOp gSub (eVar 4) (eOp gMod (eOp gDiv (eVar 1) (eC (.int 5))) (eC (.int 2)))) aNil))) aNil))) (aCons (eC (.int 10)) aNil)))))))))
-- k53 slots 5 params 2
def G_l_right (c0 c1 c2 : Nat) (S : Nat → List PyData → R PyData) : Vars → Out :=
  (sSeq (sSet [] 2 (eC (.bool false)))
    (sSeq (sSet [] 3 (eC .none))
    (sSeq (sTryC (tabL [("TooGreat", true)]) 2 (.bool true) (sSet [] 3 (eFn (S c0) (aCons (eVar 0) (aCons (eVar 1) aNil)))))
    (sSeq (sSet [] 4 (eFn (S c1) (aCons (eVar 0) (aCons (eVar 1) aNil))))
    (sSeq (sIf (tOf (eOp gLt (eVar 4) (eC (.int 0)))) (sRet (eVar 2)) sNil)
    (sRet (eAnd (eNot (eVar 2)) (eAnd (eFn (S c2) (aCons (eVar 3) aNil)) (eOp gEq (eVar 3) (eVar 4))))))))))
end Pu
set_option Elab.async false
set_option linter.all false
set_option maxRecDepth 100000
set_option maxHeartbeats 4000000
set_option exponentiation.threshold 20
namespace Nm
open PySem Pu O L2
/-! ### worth, refused where it is too great -/
theorem whileL_e {T : Vars → R Bool} {B : Vars → Out} {f : Nat} {ρ ρ2 : Vars} {c : Str} (h1 : T ρ = .ok true) (h2 : B ρ = .err c ρ2) : whileL T B (f + 1) ρ = .err c ρ2 := by
  show (T ρ).run ρ _ = _
  rw [h1, R.run_ok, if_pos rfl, h2]
theorem bt_loop_err : ∀ (f d bs ex fd : Nat), 2 ≤ bs → bs < E600 → 1 ≤ fd → fd < E600 → ex < 2 ^ d → d + 1 ≤ f → E600 ≤ fd * bs ^ ex →
    ∃ ρ', whileL btT btB f [some (.int (bs : Nat)), some (.int (ex : Nat)), some (.int (E600 : Nat)), some (.int (fd : Nat))] = .err "TooGreat" ρ'
  | 0, d, bs, ex, fd, _, _, _, _, _, h, _ => by omega
  | f + 1, d, bs, ex, fd, hb, hb6, hf, hf6, hd, hfu, hge => by
    have z : ¬ ex = 0 := fun z => by rw [z, Nat.pow_zero, Nat.mul_one] at hge; omega
    obtain ⟨d', rfl⟩ : ∃ d', d = d' + 1 := by
      cases d with
      | zero => rw [Nat.pow_zero] at hd; omega
      | succ d => exact ⟨d, rfl⟩
    have tt : btT [some (.int (bs : Nat)), some (.int (ex : Nat)), some (.int (E600 : Nat)), some (.int (fd : Nat))] = .ok true := by
      have : 0 < ex := by omega
      simp [this]
    have dd : cDiv (ex : Nat) 2 = true := cDiv_of 2 (by decide) (by decide) (by decide) (by decide)
    have md : cMod (ex : Nat) 2 = true := cMod_of (by decide)
    obtain ⟨q, hq⟩ : ∃ q, ex / 2 = q := ⟨_, rfl⟩
    have q1 : ((ex : Nat) : Int) / 2 = (q : Nat) := by omega
    obtain ⟨fd', hfd⟩ : ∃ fd', (if ex % 2 = 1 then fd * bs else fd) = fd' := ⟨_, rfl⟩
    have hfd1 : 1 ≤ fd' := by
      rw [← hfd]; split
      · exact Nat.mul_pos hf (by omega)
      · exact hf
    have keep : fd' * (bs * bs) ^ q = fd * bs ^ ex := by
      have e2 : (bs * bs) ^ q = bs ^ (2 * q) := by rw [Nat.pow_mul, Nat.pow_two]
      rw [e2, ← hfd]
      by_cases o : ex % 2 = 1
      · rw [if_pos o, Nat.mul_assoc, ← Nat.pow_succ']
        congr 2; omega
      · rw [if_neg o]
        congr 2; omega
    have mo : ((ex : Nat) : Int) % 2 = ((ex % 2 : Nat) : Int) := by omega
    have m1 := mul600 hf6 hb6
    have m2 := mul600 hb6 hb6
    have mc1 : ((fd * bs : Nat) : Int) = (fd : Nat) * (bs : Nat) := Int.natCast_mul _ _
    have mc2 : ((bs * bs : Nat) : Int) = (bs : Nat) * (bs : Nat) := Int.natCast_mul _ _
    by_cases qz : q = 0
    · subst qz
      rw [Nat.pow_zero, Nat.mul_one] at keep
      have fl : ((E600 : Nat) : Int) ≤ (fd' : Nat) := by omega
      have bd : btB [some (.int (bs : Nat)), some (.int (ex : Nat)), some (.int (E600 : Nat)), some (.int (fd : Nat))] = .err "TooGreat" [some (.int (bs : Nat)), some (.int ((0 : Nat) : Int)), some (.int (E600 : Nat)), some (.int (fd' : Nat))] := by
        generalize E600 = L at *
        by_cases o : ex % 2 = 1
        · rw [if_pos o] at hfd
          subst hfd
          rw [mc1] at fl ⊢
          rw [o] at mo
          simp [md, dd, mo, m1, q1, fl]
        · have o' : ex % 2 = 0 := by omega
          rw [if_neg o] at hfd
          subst hfd
          rw [o'] at mo
          simp [md, dd, mo, q1, fl]
      exact ⟨_, whileL_e tt bd⟩
    · have qp : 0 < q := by omega
      by_cases fl : E600 ≤ fd'
      · have fl' : ((E600 : Nat) : Int) ≤ (fd' : Nat) := by omega
        have bd : btB [some (.int (bs : Nat)), some (.int (ex : Nat)), some (.int (E600 : Nat)), some (.int (fd : Nat))] = .err "TooGreat" [some (.int ((bs * bs : Nat) : Int)), some (.int (q : Nat)), some (.int (E600 : Nat)), some (.int (fd' : Nat))] := by
          generalize E600 = L at *
          rw [mc2] at *
          by_cases o : ex % 2 = 1
          · rw [if_pos o] at hfd
            subst hfd
            rw [mc1] at fl' ⊢
            rw [o] at mo
            simp [md, dd, mo, m1, m2, q1, fl', qp]
          · have o' : ex % 2 = 0 := by omega
            rw [if_neg o] at hfd
            subst hfd
            rw [o'] at mo
            simp [md, dd, mo, m2, q1, fl', qp]
        exact ⟨_, whileL_e tt bd⟩
      · have fl' : ¬ ((E600 : Nat) : Int) ≤ (fd' : Nat) := by omega
        by_cases bl : E600 ≤ bs * bs
        · have bl' : ((E600 : Nat) : Int) ≤ ((bs * bs : Nat) : Int) := by omega
          have bd : btB [some (.int (bs : Nat)), some (.int (ex : Nat)), some (.int (E600 : Nat)), some (.int (fd : Nat))] = .err "TooGreat" [some (.int ((bs * bs : Nat) : Int)), some (.int (q : Nat)), some (.int (E600 : Nat)), some (.int (fd' : Nat))] := by
            generalize E600 = L at *
            rw [mc2] at *
            by_cases o : ex % 2 = 1
            · rw [if_pos o] at hfd
              subst hfd
              rw [mc1] at fl' ⊢
              rw [o] at mo
              simp [md, dd, mo, m1, m2, q1, fl', bl', qp]
            · have o' : ex % 2 = 0 := by omega
              rw [if_neg o] at hfd
              subst hfd
              rw [o'] at mo
              simp [md, dd, mo, m2, q1, fl', bl', qp]
          exact ⟨_, whileL_e tt bd⟩
        · have bl' : ¬ ((E600 : Nat) : Int) ≤ ((bs * bs : Nat) : Int) := by omega
          have bd : btB [some (.int (bs : Nat)), some (.int (ex : Nat)), some (.int (E600 : Nat)), some (.int (fd : Nat))] = .nx [some (.int ((bs * bs : Nat) : Int)), some (.int (q : Nat)), some (.int (E600 : Nat)), some (.int (fd' : Nat))] := by
            generalize E600 = L at *
            rw [mc2] at *
            by_cases o : ex % 2 = 1
            · rw [if_pos o] at hfd
              subst hfd
              rw [mc1] at fl' ⊢
              rw [o] at mo
              simp [md, dd, mo, m1, m2, q1, fl', bl', qp]
            · have o' : ex % 2 = 0 := by omega
              rw [if_neg o] at hfd
              subst hfd
              rw [o'] at mo
              simp [md, dd, mo, m2, q1, fl', bl', qp]
          rw [whileL_t tt bd]
          exact bt_loop_err f d' (bs * bs) q fd' (by have := Nat.mul_le_mul hb hb; omega) (by omega) hfd1 (by omega) (by rw [Nat.pow_succ] at hd; omega) (by omega) (by rw [keep]; exact hge)
def BtEOk (F : Fn) : Prop := ∀ b e : Nat, 2 ≤ b → b < E600 → e < E600 → E600 ≤ b ^ e → F [.int (b : Nat), .int (e : Nat)] = .err "TooGreat"
theorem base_to_err {S : Nat → Fn} {c0 : Nat} (ht : TgOk (S c0)) : BtEOk (fun ds => fnD 4 (G_base_to c0 S) ds) := by
  intro b e hb hb6 he hge
  have ht' : S c0 [] = .ok (.int (E600 : Nat)) := ht
  obtain ⟨ρ', wl⟩ := bt_loop_err wfuel 2000 b e 1 hb hb6 (Nat.le_refl _) E600_pos (Nat.lt_trans he e600_lt) (by decide) (by rw [Nat.one_mul]; exact hge)
  have wl' : whileL btT btB wfuel [some (.int (b : Nat)), some (.int (e : Nat)), some (.int (E600 : Nat)), some (.int 1)] = _ := wl
  refine fnD_err (ρ := ρ') ?_
  generalize E600 = L at *
  unfold G_base_to
  simp [ht', wl']
structure WorE (k : Nat) (F : Fn) : Prop where
  ok : ∀ (b : Nat) (a : O), 2 ≤ b → NF a → a.h < k → a.size ≤ 1000000 → val b a < E600 → F [enc a, .int (b : Nat)] = .ok (.int (val b a : Nat))
  no : ∀ (b : Nat) (a : O), 2 ≤ b → b < E600 → NF a → a.h < k → a.size ≤ 1000000 → mx a < (E600 : Nat) → E600 ≤ val b a → F [enc a, .int (b : Nat)] = .err "TooGreat"
theorem woe_loop {S : Nat → Fn} {c0 c1 k : Nat} (h0 : BtOk (S c0)) (h0e : BtEOk (S c0)) (h1 : WorE k (S c1)) {b : Nat} (hb : 2 ≤ b) (hb6 : b < E600) {A : Option PyData} : ∀ (x : O) (f : Nat) (s3 s4 : Option PyData), NF x → x.h ≤ k → x.size ≤ 1000000 → mx x < (E600 : Nat) →
    (∃ s3' s4', forL (gtTup 2 (gtCons (gtName 3) (gtCons (gtName 4) gtNil))) (sAug [] 2 gAddI (eOp gMul (eVar 4) (eFn (S c0) (aCons (eVar 1) (aCons (eFn (S c1) (aCons (eVar 3) (aCons (eVar 1) aNil))) aNil))))) (encL x) [A, some (.int (b : Nat)), some (.int (f : Nat)), s3, s4] = .nx [A, some (.int (b : Nat)), some (.int ((f + val b x : Nat) : Int)), s3', s4']) ∨
    (E600 ≤ val b x ∧ ∃ ρ', forL (gtTup 2 (gtCons (gtName 3) (gtCons (gtName 4) gtNil))) (sAug [] 2 gAddI (eOp gMul (eVar 4) (eFn (S c0) (aCons (eVar 1) (aCons (eFn (S c1) (aCons (eVar 3) (aCons (eVar 1) aNil))) aNil))))) (encL x) [A, some (.int (b : Nat)), some (.int (f : Nat)), s3, s4] = .err "TooGreat" ρ')
  | .z, f, s3, s4, _, _, _, _ => Or.inl ⟨s3, s4, rfl⟩
  | .c e n r, f, s3, s4, nf, hh, hs, hm => by
    have h3 : (O.c e n r).h = max (e.h + 1) r.h := rfl
    have h5 : (O.c e n r).size = 1 + e.size + r.size := rfl
    rw [mx_c] at hm
    obtain ⟨nr, ne, n1, _⟩ := nf_tail nf
    have hv : val b (.c e n r) = n.toNat * b ^ val b e + val b r := rfl
    obtain ⟨m, rfl⟩ : ∃ m : Nat, n = (m : Nat) := ⟨n.toNat, by omega⟩
    have hmm : ((m : Nat) : Int).toNat = m := by omega
    rw [hmm] at hv
    have m1 : 1 ≤ m := by omega
    have ml : m < E600 := by omega
    have pv : b ^ val b e ≤ m * b ^ val b e := Nat.le_mul_of_pos_left _ m1
    by_cases ve : val b e < E600
    · have g1 := h1.ok b e hb ne (by omega) (by omega) ve
      by_cases pl : b ^ val b e < E600
      · have g0 := h0 b (val b e) hb pl
        have mm := mul600 ml pl
        have ec : ((f + m * b ^ val b e : Nat) : Int) = (f : Nat) + (m : Nat) * ((b ^ val b e : Nat) : Int) := by rw [Int.natCast_add, Int.natCast_mul]
        have st : ∀ K, forL (gtTup 2 (gtCons (gtName 3) (gtCons (gtName 4) gtNil))) (sAug [] 2 gAddI (eOp gMul (eVar 4) (eFn (S c0) (aCons (eVar 1) (aCons (eFn (S c1) (aCons (eVar 3) (aCons (eVar 1) aNil))) aNil))))) (encL r) [A, some (.int (b : Nat)), some (.int ((f + m * b ^ val b e : Nat) : Int)), some (enc e), some (.int (m : Nat))] = K → forL (gtTup 2 (gtCons (gtName 3) (gtCons (gtName 4) gtNil))) (sAug [] 2 gAddI (eOp gMul (eVar 4) (eFn (S c0) (aCons (eVar 1) (aCons (eFn (S c1) (aCons (eVar 3) (aCons (eVar 1) aNil))) aNil))))) (encL (.c e (m : Nat) r)) [A, some (.int (b : Nat)), some (.int (f : Nat)), s3, s4] = K := fun K hK => by
          rw [← hK]
          show forL _ _ (.tuple [enc e, .int (m : Nat)] :: encL r) _ = _
          rw [u_forL_c, ec]
          generalize ((b ^ val b e : Nat) : Int) = w at *
          simp [g1, g0, mm, gAddI, mask]
        rcases woe_loop h0 h0e h1 hb hb6 (A := A) r (f + m * b ^ val b e) (some (enc e)) (some (.int (m : Nat))) nr (by omega) (by omega) (by omega) with ⟨s3', s4', e1⟩ | ⟨ge, ρ', e1⟩
        · rw [Nat.add_assoc, ← hv] at e1
          exact Or.inl ⟨s3', s4', st _ e1⟩
        · exact Or.inr ⟨by omega, ρ', st _ e1⟩
      · have g0 := h0e b (val b e) hb hb6 ve (by omega)
        refine Or.inr ⟨by omega, [A, some (.int (b : Nat)), some (.int (f : Nat)), some (enc e), some (.int (m : Nat))], ?_⟩
        show forL _ _ (.tuple [enc e, .int (m : Nat)] :: encL r) _ = _
        rw [u_forL_c]
        simp [g1, g0, mask]
    · have g1 := h1.no b e hb hb6 ne (by omega) (by omega) (by omega) (by omega)
      have := one_pow_le hb (val b e)
      refine Or.inr ⟨by omega, [A, some (.int (b : Nat)), some (.int (f : Nat)), some (enc e), some (.int (m : Nat))], ?_⟩
      show forL _ _ (.tuple [enc e, .int (m : Nat)] :: encL r) _ = _
      rw [u_forL_c]
      simp [g1, mask]
theorem worth_e_step {S : Nat → Fn} {c0 c1 c2 k : Nat} (h0 : BtOk (S c0)) (h0e : BtEOk (S c0)) (h1 : WorE k (S c1)) (ht : TgOk (S c2)) : WorE (k + 1) (fun ds => fnD 5 (G_worth c0 c1 c2 S) ds) where
  ok := worth_step h0 h1.ok ht
  no b a hb hb6 na hh hs hm hge := by
    have ht' : S c2 [] = .ok (.int (E600 : Nat)) := ht
    rcases woe_loop h0 h0e h1 hb hb6 (A := some (enc a)) a 0 none none na (by omega) hs hm with ⟨s3, s4, e1⟩ | ⟨_, ρ', e1⟩
    · rw [Nat.zero_add] at e1
      have e1' : forL _ _ (encL a) [some (enc a), some (.int (b : Nat)), some (.int 0), none, none] = _ := e1
      have lt : ((E600 : Nat) : Int) ≤ (val b a : Nat) := by omega
      refine fnD_err (ρ := [some (enc a), some (.int (b : Nat)), some (.int (val b a : Nat)), s3, s4]) ?_
      generalize E600 = L at *
      generalize val b a = v at *
      unfold G_worth
      simp [ht', e1', lt]
    · have e1' : forL _ _ (encL a) [some (enc a), some (.int (b : Nat)), some (.int 0), none, none] = _ := e1
      refine fnD_err (ρ := ρ') ?_
      unfold G_worth
      simp [e1']
end Nm
set_option Elab.async false
set_option linter.all false
set_option maxRecDepth 100000
set_option maxHeartbeats 4000000
set_option exponentiation.threshold 20
namespace Nm
open PySem Pu O L2
/-! ### the law's own worth -/
/-- reckoned, or both too great -/
def Rl (c v : Nat) : Prop := c = v ∨ (E600 ≤ c ∧ E600 ≤ v)
theorem Rl.add {c v h p n : Nat} (x : Rl c v) (y : Rl h p) (hn : 1 ≤ n) : Rl (c + n * h) (v + n * p) := by
  have a : h ≤ n * h := Nat.le_mul_of_pos_left _ hn
  have b : p ≤ n * p := Nat.le_mul_of_pos_left _ hn
  rcases y with rfl | ⟨y1, y2⟩
  · rcases x with rfl | ⟨x1, x2⟩
    · exact Or.inl rfl
    · exact Or.inr ⟨by omega, by omega⟩
  · exact Or.inr ⟨by omega, by omega⟩
abbrev lhT : Vars → R Bool := tAndR (tOf (eOp gGt (eVar 6) (eC (.int 0)))) (tOf (eOp gLt (eVar 7) (eVar 2)))
abbrev lhB : Vars → Out := (sSeq (sSet [] 7 (eOp gMul (eVar 7) (eVar 1))) (sSet [] 6 (eOp gSub (eVar 6) (eC (.int 1)))))
theorem lh_loop {b : Nat} (hb : 2 ≤ b) (hb2 : b < 2 ^ 200) {x0 x3 x4 x5 : Option PyData} : ∀ (f d j : Nat), 2002 ≤ f + j → b ^ j < 2 ^ 2200 → (j = 0 ∨ b ^ (j - 1) < E600) → ∃ d' h, whileL lhT lhB f [x0, some (.int (b : Nat)), some (.int (E600 : Nat)), x3, x4, x5, some (.int (d : Nat)), some (.int ((b ^ j : Nat) : Int))] = .nx [x0, some (.int (b : Nat)), some (.int (E600 : Nat)), x3, x4, x5, some (.int (d' : Nat)), some (.int (h : Nat))] ∧ Rl h (b ^ (j + d)) ∧ h < 2 ^ 2200
  | 0, d, j, h1, h2, h3 => by
    rcases h3 with h3 | h3
    · omega
    · have : 2 ^ (j - 1) < 2 ^ 2000 := Nat.lt_of_le_of_lt (Nat.pow_le_pow_left hb _) (Nat.lt_trans h3 e600_lt)
      have := (Nat.pow_lt_pow_iff_right (by decide)).mp this
      omega
  | f + 1, d, j, h1, h2, h3 => by
    by_cases dz : d = 0
    · subst dz
      have tt : lhT [x0, some (.int (b : Nat)), some (.int (E600 : Nat)), x3, x4, x5, some (.int ((0 : Nat) : Int)), some (.int ((b ^ j : Nat) : Int))] = .ok false := by
        generalize E600 = L at *
        generalize ((b ^ j : Nat) : Int) = w at *
        simp
      exact ⟨0, b ^ j, whileL_f tt, Or.inl rfl, h2⟩
    · by_cases ge : E600 ≤ b ^ j
      · have ge' : ¬ ((b ^ j : Nat) : Int) < (E600 : Nat) := by omega
        have tt : lhT [x0, some (.int (b : Nat)), some (.int (E600 : Nat)), x3, x4, x5, some (.int (d : Nat)), some (.int ((b ^ j : Nat) : Int))] = .ok false := by
          have dp : 0 < d := by omega
          generalize E600 = L at *
          generalize ((b ^ j : Nat) : Int) = w at *
          simp [dp, ge']
        have : b ^ j ≤ b ^ (j + d) := Nat.pow_le_pow_right (by omega) (by omega)
        exact ⟨d, b ^ j, whileL_f tt, Or.inr ⟨ge, by omega⟩, h2⟩
      · have lt' : ((b ^ j : Nat) : Int) < (E600 : Nat) := by omega
        have tt : lhT [x0, some (.int (b : Nat)), some (.int (E600 : Nat)), x3, x4, x5, some (.int (d : Nat)), some (.int ((b ^ j : Nat) : Int))] = .ok true := by
          have dp : 0 < d := by omega
          generalize E600 = L at *
          generalize ((b ^ j : Nat) : Int) = w at *
          simp [dp, lt']
        have j2 : b ^ j < 2 ^ 2000 := Nat.lt_trans (by omega) e600_lt
        have mm : cMul ((b ^ j : Nat) : Int) (b : Nat) = true := cMul_of 2000 200 (by rw [Int.natAbs_natCast]; exact j2) (nat_bits hb2) (by decide) (by decide) (by decide)
        have ep : ((b ^ (j + 1) : Nat) : Int) = ((b ^ j : Nat) : Int) * (b : Nat) := by rw [Nat.pow_succ, Int.natCast_mul]
        have ed : ((d : Nat) : Int) - 1 = ((d - 1 : Nat) : Int) := by omega
        have bd : lhB [x0, some (.int (b : Nat)), some (.int (E600 : Nat)), x3, x4, x5, some (.int (d : Nat)), some (.int ((b ^ j : Nat) : Int))] = .nx [x0, some (.int (b : Nat)), some (.int (E600 : Nat)), x3, x4, x5, some (.int ((d - 1 : Nat) : Int)), some (.int ((b ^ (j + 1) : Nat) : Int))] := by
          rw [ep, ← ed]
          generalize E600 = L at *
          generalize ((b ^ j : Nat) : Int) = w at *
          simp [mm]
        rw [whileL_t tt bd]
        have h22 : b ^ (j + 1) < 2 ^ 2200 := by
          rw [Nat.pow_succ, show (2200 : Nat) = 2000 + 200 from rfl, Nat.pow_add]
          exact Nat.mul_lt_mul'' j2 hb2
        obtain ⟨d', h, e1, e2, e3⟩ := lh_loop hb hb2 (x0 := x0) (x3 := x3) (x4 := x4) (x5 := x5) f (d - 1) (j + 1) (by omega) h22 (Or.inr (by rw [Nat.add_sub_cancel]; omega))
        exact ⟨d', h, e1, by rw [show j + d = j + 1 + (d - 1) by omega]; exact e2, e3⟩
def LwOk (k : Nat) (F : Fn) : Prop := ∀ (b : Nat) (a : O), 2 ≤ b → b < 2 ^ 200 → NF a → a.h < k → mx a < (E600 : Nat) → F [enc a, .int (b : Nat)] = .ok (.int (if val b a < E600 then (val b a : Nat) else -1))
abbrev lwG (F : Fn) : Vars → Out := (sSeq (sSet [] 6 (eFn F (aCons (eVar 4) (aCons (eVar 1) aNil)))) (sSeq (sIf (tOf (eOp gLt (eVar 6) (eC (.int 0)))) (sRet (eNeg (eC (.int 1)))) sNil) (sSeq (sSet [] 7 (eC (.int 1))) (sSeq (whileL lhT lhB wfuel) (sSet [] 3 (eOp gAdd (eVar 3) (eOp gMul (eVar 5) (eVar 7))))))))
theorem lwo_loop {F : Fn} {k : Nat} (hF : LwOk k F) {b : Nat} (hb : 2 ≤ b) (hb2 : b < 2 ^ 200) {A : Option PyData} : ∀ (x : O) (u v : Nat) (s4 s5 s6 s7 : Option PyData), Rl u v → NF x → x.h ≤ k → mx x < (E600 : Nat) →
    (∃ c' s4' s5' s6' s7', forL (gtTup 2 (gtCons (gtName 4) (gtCons (gtName 5) gtNil))) (lwG F) (encL x) [A, some (.int (b : Nat)), some (.int (E600 : Nat)), some (.int (u : Nat)), s4, s5, s6, s7] = .nx [A, some (.int (b : Nat)), some (.int (E600 : Nat)), some (.int (c' : Nat)), s4', s5', s6', s7'] ∧ Rl c' (v + val b x)) ∨
    (E600 ≤ val b x ∧ forL (gtTup 2 (gtCons (gtName 4) (gtCons (gtName 5) gtNil))) (lwG F) (encL x) [A, some (.int (b : Nat)), some (.int (E600 : Nat)), some (.int (u : Nat)), s4, s5, s6, s7] = .rt (.int (-1)))
  | .z, u, v, s4, s5, s6, s7, hr, _, _, _ => Or.inl ⟨u, s4, s5, s6, s7, rfl, hr⟩
  | .c e n r, u, v, s4, s5, s6, s7, hr, nf, hh, hm => by
    have h3 : (O.c e n r).h = max (e.h + 1) r.h := rfl
    rw [mx_c] at hm
    obtain ⟨nr, ne, n1, _⟩ := nf_tail nf
    have hv : val b (.c e n r) = n.toNat * b ^ val b e + val b r := rfl
    obtain ⟨m, rfl⟩ : ∃ m : Nat, n = (m : Nat) := ⟨n.toNat, by omega⟩
    have hmm : ((m : Nat) : Int).toNat = m := by omega
    rw [hmm] at hv
    have m1 : 1 ≤ m := by omega
    have ml : m < E600 := by omega
    have pv : b ^ val b e ≤ m * b ^ val b e := Nat.le_mul_of_pos_left _ m1
    have g1 := hF b e hb hb2 ne (by omega) (by omega)
    by_cases ve : val b e < E600
    · rw [if_pos ve] at g1
      obtain ⟨d', h, wl, rh, hh22⟩ := lh_loop hb hb2 (x0 := A) (x3 := some (.int (u : Nat))) (x4 := some (enc e)) (x5 := some (.int (m : Nat))) wfuel (val b e) 0 (by decide) (by rw [Nat.pow_zero]; exact Nat.one_lt_two_pow (by decide)) (Or.inl rfl)
      rw [Nat.zero_add] at rh
      rw [Nat.pow_zero] at wl
      have wl' : whileL lhT lhB wfuel [A, some (.int (b : Nat)), some (.int (E600 : Nat)), some (.int (u : Nat)), some (enc e), some (.int (m : Nat)), some (.int (val b e : Nat)), some (.int 1)] = _ := wl
      have mm : cMul (m : Nat) (h : Nat) = true := cMul_of 2000 2200 (natbits ml) (by rw [Int.natAbs_natCast]; exact hh22) (by decide) (by decide) (by decide)
      have ec : ((u + m * h : Nat) : Int) = (u : Nat) + (m : Nat) * (h : Nat) := by rw [Int.natCast_add, Int.natCast_mul]
      have v0 : ¬ ((val b e : Nat) : Int) < 0 := by omega
      have st : forL (gtTup 2 (gtCons (gtName 4) (gtCons (gtName 5) gtNil))) (lwG F) (encL (.c e (m : Nat) r)) [A, some (.int (b : Nat)), some (.int (E600 : Nat)), some (.int (u : Nat)), s4, s5, s6, s7] = forL (gtTup 2 (gtCons (gtName 4) (gtCons (gtName 5) gtNil))) (lwG F) (encL r) [A, some (.int (b : Nat)), some (.int (E600 : Nat)), some (.int ((u + m * h : Nat) : Int)), some (enc e), some (.int (m : Nat)), some (.int (d' : Nat)), some (.int (h : Nat))] := by
        have bd : lwG F [A, some (.int (b : Nat)), some (.int (E600 : Nat)), some (.int (u : Nat)), some (enc e), some (.int (m : Nat)), s6, s7] = .nx [A, some (.int (b : Nat)), some (.int (E600 : Nat)), some (.int ((u + m * h : Nat) : Int)), some (enc e), some (.int (m : Nat)), some (.int (d' : Nat)), some (.int (h : Nat))] := by
          rw [ec]
          generalize E600 = L at *
          generalize val b e = w at *
          simp [g1, v0, wl', mm]
        show forL _ _ (.tuple [enc e, .int (m : Nat)] :: encL r) _ = _
        rw [u_forL_c]
        generalize lwG F = G at *
        simp [bd]
      rw [st, hv]
      rcases lwo_loop hF hb hb2 (A := A) r (u + m * h) (v + m * b ^ val b e) (some (enc e)) (some (.int (m : Nat))) (some (.int (d' : Nat))) (some (.int (h : Nat))) (hr.add rh m1) nr (by omega) (by omega) with ⟨c', t4, t5, t6, t7, e1, e2⟩ | ⟨e1, e2⟩
      · exact Or.inl ⟨c', t4, t5, t6, t7, e1, by rw [← Nat.add_assoc]; exact e2⟩
      · exact Or.inr ⟨by omega, e2⟩
    · rw [if_neg ve] at g1
      have := one_pow_le hb (val b e)
      refine Or.inr ⟨by omega, ?_⟩
      have bd : lwG F [A, some (.int (b : Nat)), some (.int (E600 : Nat)), some (.int (u : Nat)), some (enc e), some (.int (m : Nat)), s6, s7] = .rt (.int (-1)) := by
        simp [g1]
      show forL _ _ (.tuple [enc e, .int (m : Nat)] :: encL r) _ = _
      rw [u_forL_c]
      generalize lwG F = G at *
      simp [bd]
theorem l_worth_step {S : Nat → Fn} {c0 k : Nat} (hF : LwOk k (S c0)) : LwOk (k + 1) (fun ds => fnD 8 (G_l_worth c0 S) ds) := by
  intro b a hb hb2 na hh hm
  refine fnD_of ?_
  have h1 : gPow (.int 10) (.int 60) = some (.int E60) := rfl
  have c : cPowW E60 10 = true := by decide +kernel
  have e : E60 ^ 10 = ((E600 : Nat) : Int) := by decide +kernel
  rcases lwo_loop hF hb hb2 (A := some (enc a)) a 0 0 none none none none (Or.inl rfl) na (by omega) hm with ⟨c', t4, t5, t6, t7, e1, e2⟩ | ⟨e1, e2⟩
  · rw [Nat.zero_add] at e2
    have e1' : forL _ (lwG (S c0)) (encL a) [some (enc a), some (.int (b : Nat)), some (.int (E600 : Nat)), some (.int 0), none, none, none, none] = _ := e1
    by_cases q : val b a < E600
    · rw [if_pos q]
      have : c' = val b a := by rcases e2 with e2 | e2 <;> omega
      subst this
      have q' : ¬ ((E600 : Nat) : Int) ≤ (val b a : Nat) := by omega
      generalize E600 = L at *
      generalize val b a = w at *
      unfold G_l_worth
      simp [h1, c, e, e1', q']
    · rw [if_neg q]
      have q' : ((E600 : Nat) : Int) ≤ (c' : Nat) := by rcases e2 with e2 | e2 <;> omega
      generalize E600 = L at *
      unfold G_l_worth
      simp [h1, c, e, e1', q']
  · rw [if_neg (by omega)]
    have e2' : forL _ (lwG (S c0)) (encL a) [some (enc a), some (.int (b : Nat)), some (.int (E600 : Nat)), some (.int 0), none, none, none, none] = _ := e2
    generalize E600 = L at *
    unfold G_l_worth
    simp [h1, c, e, e2']
end Nm
set_option Elab.async false
set_option linter.all false
set_option maxRecDepth 100000
set_option maxHeartbeats 4000000
set_option exponentiation.threshold 20
namespace Nm
open PySem Pu O L2
/-! ### drawn numbers for worth -/
def NumOk3 (F : Fn) : Prop := ∀ n : Int, F [.int n] = .ok (enc (rzO .z n))
theorem l_number3_step (S : Nat → Fn) : NumOk3 (fun ds => fnD 1 (G_l_number_3 S) ds) := by
  intro n
  refine fnD_of ?_
  unfold G_l_number_3
  by_cases c : n = 0
  · have : rzO .z n = .z := if_pos c
    rw [this]
    simp [c]
  · have : rzO .z n = .c .z n .z := if_neg c
    rw [this]
    simp [c]
theorem rz_cmp {x y : Int} (hx : 0 ≤ x) (h : x < y) : cmp (rzO .z y) (rzO .z x) = 1 := by
  have e1 : rzO .z y = .c .z y .z := if_neg (by omega)
  rw [e1]
  by_cases c : x = 0
  · have : rzO .z x = .z := if_pos c
    rw [this]; exact cmp_cz
  · have : rzO .z x = .c .z x .z := if_neg c
    rw [this]
    have h1 : y ≠ x := by omega
    have h2 : y > x := by omega
    simp [cmp, h1, h2]
theorem rzn_nf {x : Int} (hx : 0 ≤ x) : NF (rzO .z x) := by
  by_cases c : x = 0
  · have : rzO .z x = .z := if_pos c
    rw [this]; trivial
  · have : rzO .z x = .c .z x .z := if_neg c
    rw [this]; exact nf_whole (by omega)
theorem rz_sz (x : Int) : (rzO .z x).h ≤ 1 ∧ (rzO .z x).size ≤ 1 := by
  by_cases c : x = 0
  · have : rzO .z x = .z := if_pos c
    rw [this]; exact ⟨Nat.zero_le _, Nat.zero_le _⟩
  · have : rzO .z x = .c .z x .z := if_neg c
    rw [this]; exact ⟨by show max (0 + 1) 0 ≤ 1; omega, by show 1 + 0 + 0 ≤ 1; omega⟩
theorem rz_mx {x : Int} (hx : 0 ≤ x) : mx (rzO .z x) = x := by
  by_cases c : x = 0
  · have : rzO .z x = .z := if_pos c
    rw [this, c]; rfl
  · have : rzO .z x = .c .z x .z := if_neg c
    rw [this, mx_c]
    have : mx .z = 0 := rfl
    rw [this]; omega
/-- a drawn number -/
structure Dw (L M : Nat) (a : O) : Prop where
  nf : NF a
  h : a.h ≤ 3
  s : a.size ≤ L
  m : mx a ≤ M
def LpOk (F : Fn) : Prop := ∀ (cs : List Int) (rise often : Nat), (∀ z ∈ cs, Bit z) → cs.length ≤ 20 → 1 ≤ rise → rise ≤ 100 → 1 ≤ often → ∃ a, F [.list (cs.map .int), .int (rise : Nat), .int (often : Nat)] = .ok (enc a) ∧ Dw 100 (often + 3000) a ∧ a.h ≤ 2
structure Lp (often j : Nat) (far : Int) (P : O) : Prop where
  nf : NF P
  h : P.h ≤ 2
  s : P.size ≤ 2 * j
  l : P.len ≤ j
  m : mx P ≤ (often : Nat) + 3000
  e : ∀ p ∈ P.parts, ∃ y : Int, 0 ≤ y ∧ y ≤ far ∧ p.1 = rzO .z y
  f : -1 ≤ far
  g : far ≤ 100 * (j : Nat)
theorem l_parts_step {S : Nat → Fn} {c0 c1 c2 : Nat} (h0 : MxOk (S c0)) (h1 : GrOk (S c1)) (h2 : NumOk3 (S c2)) (g : Vars → Out)
    (hg : g = (sSeq (sSet [] 6 (eFn (S c0) (aCons (eOp gIx (eVar 0) (eVar 5)) (aCons (eVar 5) aNil)))) (sSeq (sSet [] 4 (eOp gAdd (eOp gAdd (eVar 4) (eC (.int 1))) (eOp gMod (eVar 6) (eVar 1)))) (sSet [] 3 (eOp gAdd (eTup (aCons (eTup (aCons (eFn (S c2) (aCons (eVar 4) aNil)) (aCons (eOp gAdd (eC (.int 1)) (eOp gMod (eFn (S c1) (aCons (eOp gIx (eVar 0) (eVar 5)) (aCons (eVar 5) aNil))) (eVar 2))) aNil))) aNil)) (eVar 3))))))
    {cs : List Int} {rise often : Nat} (hb : ∀ z ∈ cs, Bit z) (hl : cs.length ≤ 20) (r1 : 1 ≤ rise) (r2 : rise ≤ 100) (o1 : 1 ≤ often) :
    ∃ far P y5 y6, forL (gtName 5) g (rngD 0 cs.length) [some (.list (cs.map .int)), some (.int (rise : Nat)), some (.int (often : Nat)), some (.tuple []), some (.int (-1)), none, none] = .nx [some (.list (cs.map .int)), some (.int (rise : Nat)), some (.int (often : Nat)), some (enc P), some (.int far), y5, y6] ∧ Lp often cs.length far P := by
  obtain ⟨ρ', q1, far, P, y5, y6, q2, q3⟩ := forL_rng (n := cs.length) (i := 5) (g := g) (fun j ρ => ∃ far P y5 y6, ρ = [some (.list (cs.map .int)), some (.int (rise : Nat)), some (.int (often : Nat)), some (enc P), some (.int far), y5, y6] ∧ Lp often j far P) [some (.list (cs.map .int)), some (.int (rise : Nat)), some (.int (often : Nat)), some (.tuple []), some (.int (-1)), none, none] ⟨-1, .z, none, none, rfl, trivial, Nat.zero_le _, Nat.zero_le _, Nat.zero_le _, (by show (0 : Int) ≤ _; omega), (fun p hp => by cases hp), Int.le_refl _, by omega⟩ fun j ρ hj ⟨far, P, y5, y6, e, w⟩ => by
    subst e
    obtain ⟨r, er, r0, _⟩ := h0 cs[j] (j : Nat) (hb _ (List.getElem_mem hj)) (by omega) (by omega)
    obtain ⟨t, et, t0, _⟩ := h1 cs[j] (j : Nat) (hb _ (List.getElem_mem hj)) (by omega) (by omega)
    have ax : atI (cs.map PyData.int) (j : Nat) = some (.int cs[j]) := L2.atI_nat (by rw [List.getElem?_map, List.getElem?_eq_getElem hj]; rfl)
    have m1 : cMod r (rise : Nat) = true := cMod_of (by omega)
    have m2 : cMod t (often : Nat) = true := cMod_of (by omega)
    have a1 := Int.emod_nonneg r (show ((rise : Nat) : Int) ≠ 0 by omega)
    have a2 := Int.emod_lt_of_pos r (show (0 : Int) < (rise : Nat) by omega)
    have b1 := Int.emod_nonneg t (show ((often : Nat) : Int) ≠ 0 by omega)
    have b2 := Int.emod_lt_of_pos t (show (0 : Int) < (often : Nat) by omega)
    obtain ⟨f2, hf2⟩ : ∃ f2, far + 1 + r % (rise : Nat) = f2 := ⟨_, rfl⟩
    obtain ⟨n2, hn2⟩ : ∃ n2, 1 + t % (often : Nat) = n2 := ⟨_, rfl⟩
    have wf := w.f
    have wg := w.g
    have wl := w.l
    have g2 := h2 f2
    have sl : 1 + P.len ≤ sizeLine := sz1000 (by omega)
    have z2 := rz_sz f2
    refine ⟨[some (.list (cs.map .int)), some (.int (rise : Nat)), some (.int (often : Nat)), some (enc (.c (rzO .z f2) n2 P)), some (.int f2), some (.int (j : Nat)), some (.int r)], Or.inl ?_, f2, _, _, _, rfl, ?_⟩
    · have ep : enc (.c (rzO .z f2) n2 P) = .tuple (.tuple [enc (rzO .z f2), .int n2] :: encL P) := rfl
      rw [ep, hg]
      simp [ax, er, et, m1, m2, hf2, hn2, g2, sl]
    · refine ⟨nf_mk (rzn_nf (by omega)) (by omega) w.nf (fun q hq => ?_), ?_, ?_, ?_, ?_, ?_, by omega, by omega⟩
      · obtain ⟨y, y0, y1, y2⟩ := w.e q hq
        rw [y2]; exact rz_cmp y0 (by omega)
      · have := w.h; show max ((rzO .z f2).h + 1) P.h ≤ 2; omega
      · have := w.s; show 1 + (rzO .z f2).size + P.size ≤ _; omega
      · show P.len + 1 ≤ _; omega
      · have := w.m
        rw [mx_c, rz_mx (by omega)]; omega
      · intro p hp
        rcases List.mem_cons.mp (show p ∈ (rzO .z f2, n2) :: P.parts from hp) with q | q
        · subst q; exact ⟨f2, by omega, Int.le_refl _, rfl⟩
        · obtain ⟨y, y0, y1, y2⟩ := w.e p q
          exact ⟨y, y0, by omega, y2⟩
  exact ⟨far, P, y5, y6, by rw [q1, q2], q3⟩
theorem l_parts_ok {S : Nat → Fn} {c0 c1 c2 : Nat} (h0 : MxOk (S c0)) (h1 : NumOk3 (S c1)) (h2 : GrOk (S c2)) : LpOk (fun ds => fnD 7 (G_l_parts c0 c1 c2 S) ds) := by
  intro cs rise often hb hl r1 r2 o1
  obtain ⟨far, P, y5, y6, lp, w⟩ := l_parts_step h0 h2 h1 _ rfl hb hl r1 r2 o1
  refine ⟨P, fnD_of ?_, ⟨w.nf, by have := w.h; omega, by have := w.s; omega, by have := w.m; omega⟩, w.h⟩
  have k1 : okI ((cs.length : Nat) : Int) = true := okI_small (by omega) (by omega)
  unfold G_l_parts
  simp [k1, lp]
theorem cut_ints (ns : List Int) (i j : Nat) : ∃ cs : List Int, Pu.cutD (ns.map PyData.int) (some (i : Int)) (some (j : Int)) = cs.map .int ∧ cs.length ≤ j ∧ (∀ z ∈ cs, z ∈ ns) := by
  refine ⟨(ns.drop (min i ns.length)).take (min j ns.length - min i ns.length), ?_, ?_, fun z hz => List.mem_of_mem_drop (List.mem_of_mem_take hz)⟩
  · unfold Pu.cutD
    rw [HT.sIx_nat, HT.sIx_nat, List.length_map, ← List.map_drop, ← List.map_take]
  · rw [List.length_take]; omega
def RgtOk (F : Fn) : Prop := ∀ (a : O) (b : Nat), NF a → a.h ≤ 20 → a.size ≤ 1000 → mx a < (E600 : Nat) → 2 ≤ b → b < 2 ^ 200 → F [enc a, .int (b : Nat)] = .ok (.bool true)
theorem l_right_step {S : Nat → Fn} {c0 c1 c2 : Nat} (h0 : WorE 40 (S c0)) (h1 : LwOk 40 (S c1)) (h2 : WhlOk (S c2)) : RgtOk (fun ds => fnD 5 (G_l_right c0 c1 c2 S) ds) := by
  intro a b na ah as hm hb hb2
  refine fnD_of ?_
  have tb : tabL [("TooGreat", true)] "TooGreat" = some true := by decide
  have b6 : b < E600 := lt_e600 (Nat.lt_trans hb2 (Nat.pow_lt_pow_right (by decide) (by decide)))
  have g1 := h1 b a hb hb2 na (by omega) hm
  by_cases q : val b a < E600
  · have g0 := h0.ok b a hb na (by omega) (by omega) q
    rw [if_pos q] at g1
    have g2 := h2.int (val b a : Nat)
    have v0 : ¬ ((val b a : Nat) : Int) < 0 := by omega
    generalize val b a = v at *
    unfold G_l_right
    simp [g0, g1, g2, v0]
  · have g0 := h0.no b a hb b6 na (by omega) (by omega) hm (by omega)
    rw [if_neg q] at g1
    unfold G_l_right
    simp [g0, g1, tb]
end Nm
set_option Elab.async false
set_option linter.all false
set_option maxRecDepth 100000
set_option maxHeartbeats 4000000
set_option exponentiation.threshold 20
namespace Nm
open PySem Pu O L2
theorem log_le {p q : Nat} (h : p ≤ q) : p.log2 ≤ q.log2 := by
  by_cases z : p = 0
  · rw [z]; exact Nat.zero_le _
  · exact Nat.le_of_lt_succ ((Nat.log2_lt z).mpr (Nat.lt_of_le_of_lt h Nat.lt_log2_self))
theorem imm_data (t : T) : True := trivial
/-- a loop over encoded things that goes on to its end -/
theorem forL_fold {α β : Type} {gt : PyData → Vars → Option Vars} {g : Vars → Out} (E : α → PyData) (f : β → α → β) (st : β → Option PyData → Vars) : ∀ (xs : List α) (b : β) (v : Option PyData),
    (∀ x ∈ xs, ∀ b v, ∃ ρ1 v', gt (E x) (st b v) = some ρ1 ∧ g ρ1 = .nx (st (f b x) v')) → ∃ v', forL gt g (xs.map E) (st b v) = .nx (st (xs.foldl f b) v')
  | [], b, v, _ => ⟨v, rfl⟩
  | x :: xs, b, v, h => by
    obtain ⟨ρ1, v1, h1, h2⟩ := h x (by simp) b v
    obtain ⟨v2, h3⟩ := forL_fold E f st xs (f b x) v1 fun y hy => h y (by simp [hy])
    refine ⟨v2, ?_⟩
    rw [List.map_cons, u_forL_c, h1]
    simp only [h2, h3, List.foldl_cons]
/-! ### points -/
def PtsOk (k : Nat) (F : Fn) : Prop := ∀ t : T, t.dp < k → F [ten t] = .ok (.int (t.pts : Nat))
theorem points_step {S : Nat → Fn} {c0 k : Nat} (h : PtsOk k (S c0)) : PtsOk (k + 1) (fun ds => fnD 3 (G_points c0 S) ds) := by
  intro t ht
  refine fnD_of ?_
  obtain ⟨v', e⟩ := forL_fold (gt := gtName 2) (g := sAug [] 1 gAddI (eFn (S c0) (aCons (eVar 2) aNil))) ten (fun (n : Nat) (b : T) => n + b.pts) (fun n v => [some (ten t), some (.int (n : Nat)), v]) t.L 1 none fun b hb n v => by
    have := T.dp_mem t b hb
    have hp := h b (by omega)
    exact ⟨_, some (ten b), rfl, by simp [gAddI, hp]⟩
  have es : ∀ (l : List T) (n : Nat), l.foldl (fun (n : Nat) (b : T) => n + b.pts) n = n + (l.map T.pts).sum := by
    intro l
    induction l with
    | nil => intro n; simp
    | cons b l ih => intro n; rw [List.foldl_cons, ih, List.map_cons, List.sum_cons]; omega
  have ep : t.pts = 1 + (t.L.map T.pts).sum := by
    have := T.pts_of t.L
    rwa [T.of_L] at this
  rw [es, ← ep, ← tenL_L] at e
  unfold G_points
  have e' : forL (gtName 2) (sAug [] 1 gAddI (eFn (S c0) (aCons (eVar 2) aNil))) (tenL t) [some (ten t), some (.int 1), none] = .nx [some (ten t), some (.int (t.pts : Nat)), v'] := e
  rw [u_sSeq]
  have e1 : (sSet [] 1 (eC (.int 1))) (List.map some [ten t] ++ List.replicate (3 - [ten t].length) none) = .nx [some (ten t), some (.int 1), none] := by simp
  rw [e1, Out.then_nx, u_sSeq, u_sFor]
  have e2 : (iSeq (eVar 0)) (mask [] [some (ten t), some (.int 1), none]) = .ok (tenL t) := by simp
  rw [e2, R.run_ok, e', Out.then_nx]
  simp
def PtlOk (k : Nat) (F : Fn) : Prop := ∀ t : T, t.dp < k → t.pts ≤ 2000 → F [ten t] = .ok (.int (t.pts : Nat))
theorem l_points_step {S : Nat → Fn} {c0 k : Nat} (h : PtlOk k (S c0)) : PtlOk (k + 1) (fun ds => fnD 2 (G_l_points c0 S) ds) := by
  intro t ht hp
  refine fnD_of ?_
  have e1 : lcL (gtName 1) tYesD (eFn (S c0) (aCons (eVar 1) aNil)) [some (ten t), none] (tenL t) = .ok (t.L.map fun b => PyData.int (b.pts : Nat)) := by
    rw [tenL_L]
    have := lc_gen (ps := t.L) (E := ten) (ρ := [some (ten t), none]) (i := 1) (tt := tYesD) (f := eFn (S c0) (aCons (eVar 1) aNil)) (P := fun _ => true) (F := fun b => PyData.int (b.pts : Nat)) (fun _ _ => rfl) fun b hb _ => by
      have := T.dp_mem t b hb
      have := T.pts_mem t b hb
      simp [h b (by omega) (by omega)]
    rw [List.filter_eq_self.mpr fun _ _ => rfl] at this
    exact this
  have es := intsOf_mapF (fun b : T => ((b.pts : Nat) : Int)) t.L
  have ep : ((t.pts : Nat) : Int) = 1 + (t.L.map fun b => ((b.pts : Nat) : Int)).sum := by
    have h1 := T.pts_of t.L
    rw [T.of_L] at h1
    have h2 : ∀ l : List T, ((l.map T.pts).sum : Int) = (l.map fun b => ((b.pts : Nat) : Int)).sum := by
      intro l
      induction l with
      | nil => rfl
      | cons b l ih => rw [List.map_cons, List.map_cons, List.sum_cons, List.sum_cons, ← ih]; omega
    rw [h1, ← h2]; omega
  have s1 : t.L.length < sizeLine := sz1000' (by have := T.ln_lt t; omega)
  unfold G_l_points
  simp [e1, s1, gSum, es, ep]
/-! ### ways -/
def sub : T → List Nat → Option T
  | t, [] => some t
  | t, i :: w => match t.L[i]? with
    | some b => sub b w
    | none => none
theorem sub_cons {t b : T} {i : Nat} {w : List Nat} (h : t.L[i]? = some b) : sub t (i :: w) = sub b w := by
  rw [sub, h]
theorem sub_cons_some {t s : T} {i : Nat} {w : List Nat} (h : sub t (i :: w) = some s) : ∃ b, t.L[i]? = some b ∧ sub b w = some s := by
  rw [sub] at h
  cases e : t.L[i]? with
  | none => rw [e] at h; cases h
  | some b => rw [e] at h; exact ⟨b, rfl, h⟩
theorem sub_len : ∀ {w : List Nat} {t s : T}, sub t w = some s → w.length + s.dp ≤ t.dp
  | [], t, s, h => by cases h; simp
  | i :: w, t, s, h => by
    obtain ⟨b, h1, h2⟩ := sub_cons_some h
    have := sub_len h2
    have := T.dp_mem t b (List.mem_of_getElem? h1)
    simp only [List.length_cons]; omega
theorem sub_append : ∀ {w v : List Nat} {t s : T}, sub t w = some s → sub t (w ++ v) = sub s v
  | [], v, t, s, h => by cases h; rfl
  | i :: w, v, t, s, h => by
    obtain ⟨b, h1, h2⟩ := sub_cons_some h
    rw [List.cons_append, sub_cons h1]
    exact sub_append h2
theorem sub_take : ∀ {w : List Nat} {t s : T} (n : Nat), sub t w = some s → ∃ u, sub t (w.take n) = some u ∧ sub u (w.drop n) = some s
  | w, t, s, 0, h => ⟨t, by simp [sub], by simpa using h⟩
  | [], t, s, n + 1, h => ⟨t, by simp [sub], by simpa using h⟩
  | i :: w, t, s, n + 1, h => by
    obtain ⟨b, h1, h2⟩ := sub_cons_some h
    obtain ⟨u, h3, h4⟩ := sub_take n h2
    exact ⟨u, by rw [List.take_succ_cons, sub_cons h1]; exact h3, by simpa using h4⟩
theorem sub_pts : ∀ {w : List Nat} {t s : T}, sub t w = some s → s.pts + w.length ≤ t.pts
  | [], t, s, h => by cases h; simp
  | i :: w, t, s, h => by
    obtain ⟨b, h1, h2⟩ := sub_cons_some h
    have := sub_pts h2
    have := T.pts_mem t b (List.mem_of_getElem? h1)
    simp only [List.length_cons]; omega
/-- with others in the place of one -/
def putL {α : Type} (xs : List α) (j : Nat) (ys : List α) : List α := xs.take j ++ ys ++ xs.drop (j + 1)
theorem putL_map {α β : Type} (f : α → β) (xs : List α) (j : Nat) (ys : List α) : (putL xs j ys).map f = putL (xs.map f) j (ys.map f) := by
  unfold putL
  rw [List.map_append, List.map_append, List.map_take, List.map_drop]
def InsOk (F : Fn) : Prop := ∀ (xs ys : List PyData) (j : Nat), j < xs.length → xs.length ≤ 2000 → ys.length ≤ 2000 → F [.tuple xs, .int (j : Nat), .tuple ys] = .ok (.tuple (putL xs j ys))
theorem instead_step (S : Nat → Fn) : InsOk (fun ds => fnD 3 (G_instead S) ds) := by
  intro xs ys j hj hx hy
  refine fnD_of ?_
  have c1 : Pu.cutD xs none (some (j : Int)) = xs.take j := cut_front xs j
  have c2 : Pu.cutD xs (some ((j : Int) + 1)) none = xs.drop (j + 1) := by
    have := cut_back xs (j + 1)
    rwa [Nat.min_eq_left (by omega)] at this
  have s1 : min j xs.length + ys.length ≤ sizeLine := sz1000 (by omega)
  have s2 : min j xs.length + (ys.length + (xs.length - (j + 1))) ≤ sizeLine := sz1000 (by omega)
  unfold G_instead putL
  simp [c1, c2, s1, s2, Nat.add_assoc]
theorem InsOk.tree {F : Fn} (h : InsOk F) {t : T} {j : Nat} (hj : j < t.L.length) (ht : t.pts ≤ 2000) {bs : List T} (hb : bs.length ≤ 2000) : F [ten t, .int (j : Nat), .tuple (bs.map ten)] = .ok (ten (T.of (putL t.L j bs))) := by
  have hl := T.ln_lt t
  have := h (tenL t) (bs.map ten) j (by rw [tenL_len]; exact hj) (by rw [tenL_len]; omega) (by rw [List.length_map]; exact hb)
  rw [this]
  show R.ok (PyData.tuple _) = R.ok (PyData.tuple (tenL (T.of _)))
  rw [tenL_of, putL_map, ← tenL_L]
/-! ### is a head -/
def whN : PyData → Option Nat
  | .int i => if 0 ≤ i then some i.toNat else none
  | _ => none
def subD : T → List PyData → Option T
  | t, [] => some t
  | t, d :: w => match whN d with
    | some i => match t.L[i]? with
      | some b => subD b w
      | none => none
    | none => none
theorem subD_Dn : ∀ (t : T) (w : List Nat), subD t (w.map Dn) = sub t w
  | t, [] => rfl
  | t, i :: w => by
    have e : whN (Dn i) = some i := by simp [whN]
    rw [List.map_cons, subD, e, sub]
    simp only []
    cases t.L[i]? with
    | none => rfl
    | some b => exact subD_Dn b w
structure HeadOk (F : Fn) : Prop where
  tup : ∀ (t : T) (w : List PyData), t.pts ≤ 2000 → F [ten t, .tuple w] = .ok (.bool (decide (w ≠ [] ∧ subD t w = some .z)))
  no : ∀ (t : T) (d : PyData), isiB "tuple" d = false → F [ten t, d] = .ok (.bool false)
abbrev hdB (F : Fn) : Vars → Out := (sSeq (sIf (tOrR (tNotR (tTru (eFn F (aCons (eVar 2) aNil)))) (tOf (eOp gGe (eVar 2) (eCall gLen (aCons (eVar 0) aNil))))) (sRet (eC (.bool false))) sNil) (sSet [] 0 (eOp gIx (eVar 0) (eVar 2))))
theorem head_loop {F : Fn} (h : WhoOk F) (W : Option PyData) : ∀ (w : List PyData) (t : T) (x : Option PyData), match subD t w with
    | some s => ∃ x', forL (gtName 2) (hdB F) w [some (ten t), W, x] = .nx [some (ten s), W, x']
    | none => forL (gtName 2) (hdB F) w [some (ten t), W, x] = .rt (.bool false)
  | [], t, x => ⟨x, rfl⟩
  | d :: w, t, x => by
    rw [u_forL_c]
    simp only [u_gtName, List.set_cons_succ, List.set_cons_zero]
    have no : F [d] = .ok (.bool false) → hdB F [some (ten t), W, some d] = .rt (.bool false) := fun e => by simp [e]
    cases ed : whN d with
    | none =>
      have e1 : F [d] = .ok (.bool false) := by
        cases d with
        | int i =>
          have : ¬ 0 ≤ i := fun z => by simp [whN, z] at ed
          rw [h.int, decide_eq_false this]
        | bool b => exact h.no _ (.inr rfl)
        | none => exact h.no _ (.inl rfl)
        | str x => exact h.no _ (.inl rfl)
        | list x => exact h.no _ (.inl rfl)
        | tuple x => exact h.no _ (.inl rfl)
        | dict x => exact h.no _ (.inl rfl)
      have e2 : subD t (d :: w) = none := by rw [subD, ed]
      rw [e2, no e1]
    | some i =>
      have ei : d = Dn i := by
        cases d with
        | int j =>
          by_cases z : 0 ≤ j
          · simp [whN, z] at ed
            subst ed
            show PyData.int j = .int ((j.toNat : Nat) : Int)
            rw [Int.toNat_of_nonneg z]
          · simp [whN, z] at ed
        | _ => cases ed
      subst ei
      have e1 : F [Dn i] = .ok (.bool true) := h.yes (Int.natCast_nonneg i)
      cases et : t.L[i]? with
      | none =>
        have hl : t.L.length ≤ i := List.getElem?_eq_none_iff.mp et
        have e2 : subD t (Dn i :: w) = none := by rw [subD, ed]; simp only [et]
        have hl' : (t.L.length : Int) ≤ (i : Int) := by omega
        rw [e2]
        have : hdB F [some (ten t), W, some (Dn i)] = .rt (.bool false) := by simp [e1, hl']
        rw [this]
      | some b =>
        have hl : i < t.L.length := (List.getElem?_eq_some_iff.mp et).1
        have eb : t.L[i] = b := (List.getElem?_eq_some_iff.mp et).2
        have e2 : subD t (Dn i :: w) = subD b w := by
          rw [subD, ed]; simp only [et]
        have hl' : ¬ (t.L.length : Int) ≤ (i : Int) := by omega
        have ea : atI (tenL t) (i : Int) = some (ten b) := by rw [atI_ten hl, eb]
        have : hdB F [some (ten t), W, some (Dn i)] = .nx [some (ten b), W, some (Dn i)] := by simp [e1, hl', ea]
        rw [e2, this]
        exact head_loop h W w b _
theorem is_head_step {S : Nat → Fn} {c0 : Nat} (h : WhoOk (S c0)) : HeadOk (fun ds => fnD 3 (G_is_head c0 S) ds) where
  tup := fun t w hp => by
    refine fnD_of ?_
    have hl := head_loop h (some (.tuple w)) w t none
    unfold G_is_head
    cases w with
    | nil => simp [isiB]
    | cons d w =>
      have e0 : ¬ ((w.length : Int) + 1 = 0) := by omega
      cases es : subD t (d :: w) with
      | none =>
        rw [es] at hl
        simp [isiB, e0, hl]
      | some s =>
        rw [es] at hl
        obtain ⟨x', hl⟩ := hl
        simp [isiB, e0, hl, nil_iff]
  no := fun t d hd => by
    refine fnD_of ?_
    unfold G_is_head
    simp [hd]
/-! ### at a way -/
def AtOk (F : Fn) : Prop := ∀ (t s : T) (w : List Nat), sub t w = some s → F [ten t, .tuple (w.map Dn)] = .ok (ten s)
theorem walk_loop {W : Option PyData} {i0 j : Nat} : ∀ (w : List Nat) (t s : T), sub t w = some s → True := fun _ _ _ _ => trivial
theorem at_loop (W : Option PyData) : ∀ (w : List Nat) (t s : T) (x : Option PyData), sub t w = some s → ∃ x', forL (gtName 2) (sSet [] 0 (eOp gIx (eVar 0) (eVar 2))) (w.map Dn) [some (ten t), W, x] = .nx [some (ten s), W, x']
  | [], t, s, x, h => by cases h; exact ⟨x, rfl⟩
  | i :: w, t, s, x, h => by
    obtain ⟨b, h1, h2⟩ := sub_cons_some h
    have hl : i < t.L.length := (List.getElem?_eq_some_iff.mp h1).1
    have eb : t.L[i] = b := (List.getElem?_eq_some_iff.mp h1).2
    have ea : atI (tenL t) (i : Int) = some (ten b) := by rw [atI_ten hl, eb]
    obtain ⟨x', e⟩ := at_loop W w b s (some (Dn i)) h2
    refine ⟨x', ?_⟩
    rw [List.map_cons, u_forL_c]
    have : (sSet [] 0 (eOp gIx (eVar 0) (eVar 2))) [some (ten t), W, some (Dn i)] = .nx [some (ten b), W, some (Dn i)] := by simp [ea]
    simp only [u_gtName, List.set_cons_succ, List.set_cons_zero, this, e]
theorem l_at_step (S : Nat → Fn) : AtOk (fun ds => fnD 3 (G_l_at S) ds) := by
  intro t s w h
  refine fnD_of ?_
  obtain ⟨x', e⟩ := at_loop (some (.tuple (w.map Dn))) w t s none h
  unfold G_l_at
  simp [e]
/-! ### a head that grows again -/
def rg : T → List Nat → Nat → T
  | t, [i, j], m => T.of (putL t.L i (List.replicate (m + 1) (T.of (putL (t.L.getD i .z).L j []))))
  | t, i :: j :: k :: w, m => T.of (putL t.L i [rg (t.L.getD i .z) (j :: k :: w) m])
  | _, _, _ => .z
theorem rg_two {t b : T} {i j m : Nat} (h : t.L[i]? = some b) : rg t [i, j] m = T.of (putL t.L i (List.replicate (m + 1) (T.of (putL b.L j [])))) := by
  rw [rg, List.getD_eq_getElem?_getD, h]; rfl
theorem rg_more {t b : T} {i m : Nat} {w : List Nat} (h : t.L[i]? = some b) (hw : 2 ≤ w.length) : rg t (i :: w) m = T.of (putL t.L i [rg b w m]) := by
  match w, hw with
  | j :: k :: w, _ => rw [rg, List.getD_eq_getElem?_getD, h]; rfl
def RegOk (k : Nat) (F : Fn) : Prop := ∀ (t : T) (w : List Nat) (m : Nat), 2 ≤ w.length → w.length < k + 2 → sub t w = some .z → t.pts ≤ 1000 → m ≤ 900 → F [ten t, .tuple (w.map Dn), Dn m] = .ok (ten (rg t w m))
theorem regrown_step {S : Nat → Fn} {c0 c1 k : Nat} (h0 : InsOk (S c0)) (h1 : RegOk k (S c1)) : RegOk (k + 1) (fun ds => fnD 6 (G_regrown c0 c1 S) ds) := by
  intro t w m hw hk hs hp hm
  refine fnD_of ?_
  match w, hw, hk, hs with
  | i :: j :: w, hw, hk, hs =>
    obtain ⟨b, b1, b2⟩ := sub_cons_some hs
    have hl : i < t.L.length := (List.getElem?_eq_some_iff.mp b1).1
    have eb : t.L[i] = b := (List.getElem?_eq_some_iff.mp b1).2
    have ea : atI (tenL t) (i : Int) = some (ten b) := by rw [atI_ten hl, eb]
    have bp := T.pts_mem t b (List.mem_of_getElem? b1)
    unfold G_regrown
    match w with
    | [] =>
      obtain ⟨c, c1', c2'⟩ := sub_cons_some b2
      have hl2 : j < b.L.length := (List.getElem?_eq_some_iff.mp c1').1
      have e1 := h0.tree (t := b) (bs := []) hl2 (by omega) (by simp)
      have e2 := h0.tree (t := t) (bs := List.replicate (m + 1) (T.of (putL b.L j []))) hl (by omega) (by simp; omega)
      have er : (List.replicate ((m : Int) + 1).toNat [ten (T.of (putL b.L j []))]).flatten = (List.replicate (m + 1) (T.of (putL b.L j []))).map ten := by
        rw [show ((m : Int) + 1).toNat = m + 1 by omega, List.map_replicate]
        have : ∀ n, (List.replicate n [ten (T.of (putL b.L j []))]).flatten = List.replicate n (ten (T.of (putL b.L j []))) := fun n => by
          induction n with
          | zero => rfl
          | succ n ih => rw [List.replicate_succ, List.flatten_cons, ih]; rfl
        exact this _
      have ok : okRep ((m : Int) + 1) 1 = true := by
        unfold okRep
        have : (2 : Nat) ^ 62 = 4611686018427387904 := by decide
        rw [decide_eq_true (by omega), decide_eq_true (by omega)]; rfl
      have e3 : ((1 : Int) + 1) = 2 := rfl
      rw [rg_two b1]
      rw [List.map_replicate] at e2 er
      simp only [List.map_nil] at e1
      simp [ea, e1, ok, er, e2]
    | k' :: w' =>
      have e3 := h1 b (j :: k' :: w') m (by simp) (by simp at hk ⊢; omega) b2 (by omega) hm
      have e2 := h0.tree (t := t) (bs := [rg b (j :: k' :: w') m]) hl (by omega) (by simp)
      have ne : ¬ ((w'.length : Int) + 1 + 1 + 1 = 2) := by omega
      have ct : Pu.cutD (Dn i :: Dn j :: Dn k' :: w'.map Dn) (some 1) none = Dn j :: Dn k' :: w'.map Dn := cut_tl _ _
      rw [rg_more b1 (by simp)]
      simp only [List.map_cons, List.map_nil] at e2 e3
      simp [ea, ne, ct, e3, e2]
end Nm
set_option Elab.async false
set_option linter.all false
set_option maxRecDepth 100000
set_option maxHeartbeats 4000000
set_option exponentiation.threshold 20
namespace Nm
open PySem Pu O L2
theorem fnD_errE {N : Nat} {g : Vars → Out} {ds : List PyData} {c : Str} (h : ∃ ρ, g (ds.map some ++ List.replicate (N - ds.length) none) = .err c ρ) : fnD N g ds = .err c := by
  obtain ⟨ρ, h⟩ := h
  unfold fnD; rw [h]
theorem big_log {m : Nat} (h : m < 2 ^ 300) : (m : Int).natAbs.log2 < 300 := log2_lt (by simpa using h) (by decide)
theorem map_init {α β : Type} (f : α → β) (w : List α) : Pu.cutD (w.map f) none (some (-1)) = (w.take (w.length - 1)).map f := by
  rw [cut_init, List.length_map, List.map_take]
/-! ### a cut -/
structure CutOk (k : Nat) (F : Fn) : Prop where
  noHead : ∀ (t : T) (d e : PyData), t.pts ≤ 1000 → (∀ w, d = .tuple w → ¬ (w ≠ [] ∧ subD t w = some .z)) → F [ten t, d, e] = .err "NoHead"
  noNum : ∀ (t : T) (w : List Nat) (e : PyData), t.pts ≤ 1000 → w ≠ [] → sub t w = some .z → (isiB "int" e = false ∨ isiB "bool" e = true ∨ ∃ i : Int, e = .int i ∧ i < 0) → F [ten t, .tuple (w.map Dn), e] = .err "NoNumber"
  one : ∀ (t : T) (j m : Nat), t.pts ≤ 1000 → sub t [j] = some .z → F [ten t, .tuple [Dn j], Dn m] = .ok (ten (T.of (putL t.L j [])))
  great : ∀ (t b : T) (w : List Nat) (m : Nat), t.pts ≤ 1000 → t.dp < k → 2 ≤ w.length → sub t w = some .z → sub t (w.take (w.length - 1)) = some b → m < 2 ^ 300 → 600 < t.pts - 1 + m * (b.pts - 1) → F [ten t, .tuple (w.map Dn), Dn m] = .err "TooGreat"
  grow : ∀ (t b : T) (w : List Nat) (m : Nat), t.pts ≤ 1000 → t.dp < k → 2 ≤ w.length → sub t w = some .z → sub t (w.take (w.length - 1)) = some b → t.pts - 1 + m * (b.pts - 1) ≤ 600 → F [ten t, .tuple (w.map Dn), Dn m] = .ok (ten (rg t w m))
theorem below_pts {t b : T} {w : List Nat} (hw : 1 ≤ w.length) (h : sub t w = some .z) (hb : sub t (w.take (w.length - 1)) = some b) : 2 ≤ b.pts := by
  obtain ⟨u, h1, h2⟩ := sub_take (w.length - 1) h
  rw [hb] at h1
  cases h1
  have := sub_pts h2
  rw [List.length_drop] at this
  have e : T.z.pts = 1 := rfl
  omega
abbrev cutT1 (S : Nat → Fn) (c0 : Nat) : Vars → Out := (sIf (tNotR (tTru (eFn (S c0) (aCons (eVar 0) (aCons (eVar 1) aNil))))) (sRaise "NoHead") sNil)
theorem head_yes {F : Fn} (h : HeadOk F) {t : T} {w : List Nat} (hp : t.pts ≤ 1000) (hw : w ≠ []) (hs : sub t w = some .z) : F [ten t, .tuple (w.map Dn)] = .ok (.bool true) := by
  rw [h.tup t _ (by omega), subD_Dn, hs]
  have : w.map Dn ≠ [] := fun z => hw (List.map_eq_nil_iff.mp z)
  first | (simp [this]; done) | (simp [this]; exact hw)
theorem cut_tail_eq {S : Nat → Fn} {c0 c1 c2 c3 c4 k : Nat} (h0 : HeadOk (S c0)) (h1 : WhoOk (S c1)) (h3 : PtsOk k (S c3)) {t b : T} {w : List Nat} {m : Nat} (hp : t.pts ≤ 1000) (hk : t.dp < k) (hw : 2 ≤ w.length) (hs : sub t w = some .z) (hb : sub t (w.take (w.length - 1)) = some b) (hm : m < 2 ^ 300) :
    ∃ x, G_cut c0 c1 c2 c3 c4 S [some (ten t), some (.tuple (w.map Dn)), some (Dn m), none, none] = (if 600 < t.pts - 1 + m * (b.pts - 1) then Out.err "TooGreat" [some (ten t), some (.tuple (w.map Dn)), some (Dn m), some (ten b), x] else
      (sRet (eFn (S c4) (aCons (eVar 0) (aCons (eVar 1) (aCons (eVar 2) aNil))))) [some (ten t), some (.tuple (w.map Dn)), some (Dn m), some (ten b), x]) := by
  have e0 := head_yes h0 hp (by intro z; rw [z] at hw; simp at hw) hs
  have e1 : S c1 [Dn m] = .ok (.bool true) := h1.yes (Int.natCast_nonneg m)
  have ne : ¬ ((w.length : Int) = 1) := by omega
  have ci : Pu.cutD (w.map Dn) none (some (-1)) = (w.take (w.length - 1)).map Dn := map_init Dn w
  obtain ⟨x, el⟩ := at_loop (some (.tuple (w.map Dn))) (w.take (w.length - 1)) t b none hb
  have bd : b.dp < k := by have := sub_len hb; omega
  have e3 := h3 t hk
  have e4 := h3 b bd
  have bp := below_pts (by omega) hs hb
  have tp := T.pts_pos t
  have bp2 := sub_pts hb
  have el' : ∃ x, forL (gtName 4) (sSet [] 3 (eOp gIx (eVar 3) (eVar 4))) ((w.take (w.length - 1)).map Dn) [some (ten t), some (.tuple (w.map Dn)), some (Dn m), some (ten t), none] = .nx [some (ten t), some (.tuple (w.map Dn)), some (Dn m), some (ten b), x] := by
    have go : ∀ (v : List Nat) (u s : T) (x : Option PyData), sub u v = some s → ∃ x', forL (gtName 4) (sSet [] 3 (eOp gIx (eVar 3) (eVar 4))) (v.map Dn) [some (ten t), some (.tuple (w.map Dn)), some (Dn m), some (ten u), x] = .nx [some (ten t), some (.tuple (w.map Dn)), some (Dn m), some (ten s), x'] := by
      intro v
      induction v with
      | nil => intro u s x h; cases h; exact ⟨x, rfl⟩
      | cons i v ih =>
        intro u s x h
        obtain ⟨b, b1, b2⟩ := sub_cons_some h
        have hl : i < u.L.length := (List.getElem?_eq_some_iff.mp b1).1
        have eb : u.L[i] = b := (List.getElem?_eq_some_iff.mp b1).2
        have ea : atI (tenL u) (i : Int) = some (ten b) := by rw [atI_ten hl, eb]
        obtain ⟨x', e⟩ := ih b s (some (Dn i)) b2
        refine ⟨x', ?_⟩
        rw [List.map_cons, u_forL_c]
        have : (sSet [] 3 (eOp gIx (eVar 3) (eVar 4))) [some (ten t), some (.tuple (w.map Dn)), some (Dn m), some (ten u), some (Dn i)] = .nx [some (ten t), some (.tuple (w.map Dn)), some (Dn m), some (ten b), some (Dn i)] := by simp [ea]
        simp only [u_gtName, List.set_cons_succ, List.set_cons_zero, this, e]
    exact go _ _ _ _ hb
  obtain ⟨x, el'⟩ := el'
  rw [List.map_take] at el'
  have cm : cMul (m : Int) (((b.pts : Nat) : Int) - 1) = true := by
    refine decide_eq_true ?_
    have a1 := big_log hm
    have a2 : (((b.pts : Nat) : Int) - 1).natAbs.log2 < 20 := log2_lt (by have : (2 : Nat) ^ 20 = 1048576 := by decide
                                                                          omega) (by decide)
    omega
  refine ⟨x, ?_⟩
  have ec : ((600 : Int) < ((t.pts : Nat) : Int) - 1 + (m : Int) * (((b.pts : Nat) : Int) - 1)) ↔ 600 < t.pts - 1 + m * (b.pts - 1) := by
    have q1 : ((t.pts : Nat) : Int) - 1 = ((t.pts - 1 : Nat) : Int) := by omega
    have q2 : ((b.pts : Nat) : Int) - 1 = ((b.pts - 1 : Nat) : Int) := by omega
    rw [q1, q2, ← Int.natCast_mul, ← Int.natCast_add]
    omega
  unfold G_cut
  by_cases c : 600 < t.pts - 1 + m * (b.pts - 1)
  · rw [if_pos c]
    have c' := ec.mpr c
    simp [e0, e1, ne, ci, el', e3, e4, cm, c']
  · rw [if_neg c]
    have c' : ¬ _ := fun z => c (ec.mp z)
    simp [e0, e1, ne, ci, el', e3, e4, cm, c']
theorem cut_step {S : Nat → Fn} {c0 c1 c2 c3 c4 k : Nat} (h0 : HeadOk (S c0)) (h1 : WhoOk (S c1)) (h2 : InsOk (S c2)) (h3 : PtsOk k (S c3)) (h4 : RegOk k (S c4)) : CutOk k (fun ds => fnD 5 (G_cut c0 c1 c2 c3 c4 S) ds) where
  noHead := fun t d e hp hd => by
    refine fnD_errE ⟨[some (ten t), some d, some e, none, none], ?_⟩
    have e0 : S c0 [ten t, d] = .ok (.bool false) := by
      by_cases c : isiB "tuple" d = false
      · exact h0.no t d c
      · cases d with
        | tuple w =>
          rw [h0.tup t w (by omega)]
          rw [decide_eq_false (hd w rfl)]
        | _ => exact absurd rfl c
    unfold G_cut
    simp [e0]
  noNum := fun t w e hp hw hs he => by
    refine fnD_errE ⟨[some (ten t), some (.tuple (w.map Dn)), some e, none, none], ?_⟩
    have e0 := head_yes h0 hp hw hs
    have e1 : S c1 [e] = .ok (.bool false) := by
      rcases he with he | he | ⟨i, rfl, hi⟩
      · exact h1.no e (.inl he)
      · exact h1.no e (.inr he)
      · rw [h1.int, decide_eq_false (by omega)]
    unfold G_cut
    simp [e0, e1]
  one := fun t j m hp hs => by
    refine fnD_of ?_
    have e0 := head_yes h0 hp (w := [j]) (by simp) hs
    have e1 : S c1 [Dn m] = .ok (.bool true) := h1.yes (Int.natCast_nonneg m)
    obtain ⟨b, b1, b2⟩ := sub_cons_some hs
    have e2 := h2.tree (t := t) (bs := []) (List.getElem?_eq_some_iff.mp b1).1 (by omega) (by simp)
    simp only [List.map_cons, List.map_nil] at e0 e2
    unfold G_cut
    simp [e0, e1, e2]
  great := fun t b w m hp hk hw hs hb hm hg => by
    refine fnD_errE ?_
    obtain ⟨x, e⟩ := cut_tail_eq (c2 := c2) (c4 := c4) h0 h1 h3 hp hk hw hs hb hm
    rw [if_pos hg] at e
    exact ⟨_, e⟩
  grow := fun t b w m hp hk hw hs hb hg => by
    refine fnD_of ?_
    have bp := below_pts (by omega) hs hb
    have tp := T.pts_pos t
    have m6 : m ≤ 600 := by
      have : m * 1 ≤ m * (b.pts - 1) := Nat.mul_le_mul (Nat.le_refl m) (by omega)
      omega
    obtain ⟨x, e⟩ := cut_tail_eq (c2 := c2) (c4 := c4) h0 h1 h3 hp hk hw hs hb (m := m) (Nat.lt_of_le_of_lt m6 (by decide))
    rw [if_neg (by omega)] at e
    have hl := sub_len hs
    have e4 := h4 t w m hw (by omega) hs hp (by omega)
    refine e.trans ?_
    simp [e4]
/-! ### a head, drawn -/
def HdrOk (F : Fn) : Prop := ∀ (t : T) (c : Int), Bit c → t.dp ≤ 60 → t.pts ≤ 2000 → ∃ w : List Nat, F [ten t, .int c] = .ok (.tuple (w.map Dn)) ∧ sub t w = some .z
abbrev hdrB (S : Nat → Fn) (c0 : Nat) : Vars → Out := (sSeq (sSet [] 1 (eFn (S c0) (aCons (eVar 1) (aCons (eCall gLen (aCons (eVar 2) aNil)) aNil)))) (sSeq (sSet [] 3 (eOp gMod (eOp gDiv (eVar 1) (eC (.int 7))) (eCall gLen (aCons (eVar 0) aNil)))) (sSeq (sSet [] 2 (eOp gAdd (eVar 2) (eTup (aCons (eVar 3) aNil)))) (sSet [] 0 (eOp gIx (eVar 0) (eVar 3))))))
abbrev hdrT : Vars → R Bool := tOf (eOp gNe (eVar 0) (eTup aNil))
theorem bit_small {r : Int} (h0 : 0 ≤ r) (h1 : r < 2147483647) : Bit r := by
  have : r.natAbs.log2 < 31 := log2_lt (by have : (2 : Nat) ^ 31 = 2147483648 := by decide
                                           omega) (by decide)
  show r.natAbs.log2 ≤ 1048576
  omega
theorem hdr_loop {S : Nat → Fn} {c0 : Nat} (hm : MxOk (S c0)) : ∀ (n f : Nat) (t : T) (cc : Int) (v : List Nat) (x : Option PyData), t.dp ≤ n → n ≤ f → t.dp ≤ 60 → v.length + n ≤ 100 → Bit cc →
    ∃ (w : List Nat) (c' : Int) (x' : Option PyData), whileL hdrT (hdrB S c0) (f + 1) [some (ten t), some (.int cc), some (.tuple (v.map Dn)), x] = .nx [some (.tuple []), some (.int c'), some (.tuple ((v ++ w).map Dn)), x'] ∧ sub t w = some .z
  | n, f, .z, cc, v, x, _, _, _, _, _ => by
    refine ⟨[], cc, x, ?_, rfl⟩
    have e : hdrT [some (ten .z), some (.int cc), some (.tuple (v.map Dn)), x] = .ok false := by
      have := gNe_tnil (t := .z) (by decide)
      simp [this]
    rw [whileL_f e, List.append_nil]; rfl
  | 0, f, .c b r, cc, v, x, hn, _, _, _, _ => by
    have := T.dp_mem (T.c b r) b (by simp [T.L])
    omega
  | n + 1, f + 1, .c b r, cc, v, x, hn, hf, h60, hv, hb => by
    obtain ⟨q, eq, q0, q1⟩ := hm cc (v.length : Nat) hb (by omega) (by omega)
    obtain ⟨t, ht⟩ : ∃ t, T.c b r = t := ⟨_, rfl⟩
    have tl : 0 < t.L.length := by rw [← ht]; simp [T.L]
    rw [ht] at hn h60 ⊢
    obtain ⟨j, ej, lj⟩ := mod_nat tl (q / 7)
    have ea := atI_ten lj
    have md := T.dp_mem t _ (List.getElem_mem lj)
    have d7 : ∀ i : Int, cDiv i 7 = true := fun i => cDiv_of 10 (by decide) (by decide) (by decide) (by decide)
    have ml : ∀ i : Int, cMod i (t.L.length : Int) = true := fun i => cMod_of (by omega)
    have s1 : v.length + 1 ≤ sizeLine := sz1000 (by omega)
    have e : hdrT [some (ten t), some (.int cc), some (.tuple (v.map Dn)), x] = .ok true := by
      have := gNe_tnil (t := t) (by omega)
      have ne : ¬ t = .z := by rw [← ht]; exact fun z => nomatch z
      simp [this, ne]
    have eb : hdrB S c0 [some (ten t), some (.int cc), some (.tuple (v.map Dn)), x] = .nx [some (ten t.L[j]), some (.int q), some (.tuple ((v ++ [j]).map Dn)), some (Dn j)] := by
      simp [eq, d7, ml, ej, s1, ea]
    obtain ⟨w, c', x', e1, e2⟩ := hdr_loop hm n f t.L[j] q (v ++ [j]) (some (Dn j)) (by omega) (by omega) (by omega) (by simp; omega) (bit_small q0 q1)
    refine ⟨j :: w, c', x', ?_, ?_⟩
    · rw [whileL_t e eb, e1, List.append_assoc]; rfl
    · rw [sub_cons (List.getElem?_eq_getElem lj)]; exact e2
theorem l_head_step {S : Nat → Fn} {c0 : Nat} (hm : MxOk (S c0)) : HdrOk (fun ds => fnD 4 (G_l_head c0 S) ds) := by
  intro t c hb h60 hp
  obtain ⟨w, c', x', e, es⟩ := hdr_loop hm 60 999999 t c [] none h60 (by decide) h60 (by simp) hb
  refine ⟨w, fnD_of ?_, es⟩
  have e' : whileL hdrT (hdrB S c0) wfuel [some (ten t), some (.int c), some (.tuple []), none] = .nx [some (.tuple []), some (.int c'), some (.tuple (w.map Dn)), x'] := e
  unfold G_l_head
  simp [e']
end Nm
set_option Elab.async false
set_option linter.all false
set_option maxRecDepth 100000
set_option maxHeartbeats 4000000
set_option exponentiation.threshold 20
namespace Nm
open PySem Pu O L2
/-! ### the same tree -/
def AlkT (k : Nat) (F : Fn) : Prop := ∀ t : T, t.dp < k → F [ten t, ten t] = .ok (.bool true)
theorem zipD_self (xs : List PyData) : zipD xs xs = xs.map fun x => .tuple [x, x] := by
  induction xs with
  | nil => rfl
  | cons x xs ih => show _ :: zipD xs xs = _; rw [ih]; rfl
theorem alike_loopT {F : Fn} {A B : Option PyData} : ∀ (l : List T) (x y : Option PyData), (∀ b ∈ l, F [ten b, ten b] = .ok (.bool true)) →
    ∃ x' y', forL (gtTup 2 (gtCons (gtName 2) (gtCons (gtName 3) gtNil))) (sIf (tNotR (tTru (eFn F (aCons (eVar 2) (aCons (eVar 3) aNil))))) (sRet (eC (.bool false))) sNil) ((l.map ten).map fun x => .tuple [x, x]) [A, B, x, y] = .nx [A, B, x', y']
  | [], x, y, _ => ⟨x, y, rfl⟩
  | b :: l, x, y, h => by
    obtain ⟨x', y', e⟩ := alike_loopT (F := F) (A := A) (B := B) l (some (ten b)) (some (ten b)) fun c hc => h c (by simp [hc])
    refine ⟨x', y', ?_⟩
    rw [List.map_cons, List.map_cons, u_forL_c]
    have e1 := h b (by simp)
    have e2 : (sIf (tNotR (tTru (eFn F (aCons (eVar 2) (aCons (eVar 3) aNil))))) (sRet (eC (.bool false))) sNil) [A, B, some (ten b), some (ten b)] = .nx [A, B, some (ten b), some (ten b)] := by simp [e1]
    have e3 : gtTup 2 (gtCons (gtName 2) (gtCons (gtName 3) gtNil)) (.tuple [ten b, ten b]) [A, B, x, y] = some [A, B, some (ten b), some (ten b)] := by simp
    simp only [e3, e2, e]
theorem l_alike3_step {S : Nat → Fn} {c0 k : Nat} (h : AlkT k (S c0)) : AlkT (k + 1) (fun ds => fnD 4 (G_l_alike_3 c0 S) ds) := by
  intro t ht
  refine fnD_of ?_
  obtain ⟨x', y', e⟩ := alike_loopT (F := S c0) (A := some (ten t)) (B := some (ten t)) t.L none none fun b hb => h b (by have := T.dp_mem t b hb; omega)
  rw [← tenL_L, ← zipD_self] at e
  unfold G_l_alike_3
  simp [isiB, e]
/-! ### the cut by the law's hands -/
abbrev lcB (S : Nat → Fn) (c0 c1 : Nat) : Vars → Out := (sSet [] 4 (eTup (aCons (eFn (S c0) (aCons (eFn (S c1) (aCons (eVar 0) (aCons (eSl (eVar 1) oNone (oSome (eVar 5))) aNil))) (aCons (eOp gIx (eVar 1) (eVar 5)) (aCons (eVar 4) aNil)))) aNil)))
structure LctOk (F : Fn) : Prop where
  one : ∀ (t : T) (j m : Nat), t.pts ≤ 1000 → sub t [j] = some .z → F [ten t, .tuple [Dn j], Dn m] = .ok (ten (T.of (putL t.L j [])))
  grow : ∀ (t : T) (w : List Nat) (m : Nat), t.pts ≤ 1000 → 2 ≤ w.length → w.length ≤ 900 → sub t w = some .z → m ≤ 900 → F [ten t, .tuple (w.map Dn), Dn m] = .ok (ten (rg t w m))
/-- the trees from place k of the way on -/
theorem lct_turn {S : Nat → Fn} {c0 c1 : Nat} (h0 : InsOk (S c0)) (h1 : AtOk (S c1)) {t u : T} {w : List Nat} {k i : Nat} (hp : t.pts ≤ 1000) (hu : sub t (w.take k) = some u) (hi : w[k]? = some i) (hl : i < u.L.length) {bs : List T} (hb : bs.length ≤ 1000) (A B : Option PyData) :
    lcB S c0 c1 [some (ten t), some (.tuple (w.map Dn)), A, B, some (.tuple (bs.map ten)), some (Dn k)] = .nx [some (ten t), some (.tuple (w.map Dn)), A, B, some (.tuple ([T.of (putL u.L i bs)].map ten)), some (Dn k)] := by
  have c1' : Pu.cutD (w.map Dn) none (some (k : Int)) = (w.take k).map Dn := by rw [cut_front, List.map_take]
  have e1 := h1 t u (w.take k) hu
  have ea := atI_Dn hi
  have up := sub_pts hu
  have e2 := h0.tree (t := u) (bs := bs) hl (by omega) (by omega)
  have e0 : (eSl (eVar 1) oNone (oSome (eVar 5))) [some (ten t), some (.tuple (w.map Dn)), A, B, some (.tuple (bs.map ten)), some (Dn k)] = .ok (.tuple ((w.take k).map Dn)) := by
    simp only [u_eSl, u_eVar, u_oNone, u_oSome, List.getD_cons_succ, List.getD_cons_zero, R.of_some, R.bind_ok, u_gSl_t, c1']
  simp only [lcB, u_sSet0, u_eTup, u_aCons, u_eFn, u_eVar, u_eOp, u_aNil, e0, e1, e2, ea, u_gIx_t, List.getD_cons_succ, List.getD_cons_zero, R.of_some, R.bind_ok, R.run_ok, List.set_cons_succ, List.set_cons_zero, List.length_cons, List.length_nil, show 0 + 1 ≤ sizeLine from sz1, if_true, List.map_cons, List.map_nil]
theorem lct_loop {S : Nat → Fn} {c0 c1 : Nat} (h0 : InsOk (S c0)) (h1 : AtOk (S c1)) {t : T} {w : List Nat} {m : Nat} (hp : t.pts ≤ 1000) (hs : sub t w = some .z) (A B : Option PyData) :
    ∀ (n : Nat) (x : Option PyData) (u : T), n + 2 ≤ w.length → sub t (w.take n) = some u →
      forL (gtName 5) (lcB S c0 c1) ((List.range n).map fun i => .int ((n : Int) - 1 + (i : Nat) * (-1))) [some (ten t), some (.tuple (w.map Dn)), A, B, some (.tuple ([rg u (w.drop n) m].map ten)), x]
        = .nx [some (ten t), some (.tuple (w.map Dn)), A, B, some (.tuple ([rg t w m].map ten)), if n = 0 then x else some (.int 0)]
  | 0, x, u, hn, hu => by
    have : t = u := by simpa [sub] using hu
    subst this
    simp
  | n + 1, x, u, hn, hu => by
    obtain ⟨v, v1, v2⟩ := sub_take n hs
    have hn' : n < w.length := by omega
    have ew : w.drop n = w[n] :: w.drop (n + 1) := List.drop_eq_getElem_cons hn'
    rw [ew] at v2
    obtain ⟨b, b1, b2⟩ := sub_cons_some v2
    have hub : u = b := by
      have e1 : sub t (w.take (n + 1)) = sub v [w[n]] := by
        rw [List.take_succ_eq_append_getElem hn']
        exact sub_append v1
      rw [e1, sub_cons b1, sub] at hu
      exact (Option.some.inj hu).symm
    subst hub
    have hl : w[n] < v.L.length := (List.getElem?_eq_some_iff.mp b1).1
    have e1 := lct_turn h0 h1 (k := n) hp v1 (List.getElem?_eq_getElem hn') hl (bs := [rg u (w.drop (n + 1)) m]) (by simp) A B
    have e2 : T.of (putL v.L w[n] [rg u (w.drop (n + 1)) m]) = rg v (w.drop n) m := by
      rw [ew, rg_more b1 (by rw [List.length_drop]; omega)]
    rw [e2] at e1
    have ih := lct_loop h0 h1 (m := m) hp hs A B n (some (Dn n)) v (by omega) v1
    have er : ((List.range (n + 1)).map fun i : Nat => PyData.int (((n + 1 : Nat) : Int) - 1 + (i : Nat) * (-1))) = Dn n :: (List.range n).map fun i : Nat => PyData.int ((n : Int) - 1 + (i : Nat) * (-1)) := by
      rw [List.range_succ_eq_map, List.map_cons, List.map_map]
      congr 1
      · show PyData.int _ = PyData.int _
        congr 1; simp
      · refine List.map_congr_left fun i _ => ?_
        show PyData.int _ = PyData.int _
        congr 1
        simp only [Nat.succ_eq_add_one]
        omega
    rw [er, u_forL_c]
    simp only [u_gtName, List.set_cons_succ, List.set_cons_zero, e1, ih]
    by_cases c : n = 0
    · subst c; simp
    · simp [c]
theorem l_cut_step {S : Nat → Fn} {c0 c1 : Nat} (h0 : InsOk (S c0)) (h1 : AtOk (S c1)) : LctOk (fun ds => fnD 6 (G_l_cut_2 c0 c1 S) ds) where
  one := fun t j m hp hs => by
    refine fnD_of ?_
    obtain ⟨b, b1, b2⟩ := sub_cons_some hs
    have e2 := h0.tree (t := t) (bs := []) (List.getElem?_eq_some_iff.mp b1).1 (by omega) (by simp)
    simp only [List.map_nil] at e2
    unfold G_l_cut_2
    simp [e2]
  grow := fun t w m hp hw h9 hs hm => by
    refine fnD_of ?_
    obtain ⟨n, hn⟩ : ∃ n, w.length = n + 2 := ⟨w.length - 2, by omega⟩
    have ne : ¬ ((w.length : Int) = 1) := by omega
    have ci : Pu.cutD (w.map Dn) none (some (-1)) = (w.take (n + 1)).map Dn := by rw [map_init, hn]; rfl
    obtain ⟨b, hb, hb2⟩ := sub_take (n + 1) hs
    obtain ⟨u, hu, hu2⟩ := sub_take n hs
    have e1 := h1 t b (w.take (n + 1)) hb
    have hn1 : n + 1 < w.length := by omega
    have hn0 : n < w.length := by omega
    have ew1 : w.drop (n + 1) = [w[n + 1]] := by
      rw [List.drop_eq_getElem_cons hn1, List.drop_eq_nil_of_le (by omega)]
    have ew0 : w.drop n = [w[n], w[n + 1]] := by
      rw [List.drop_eq_getElem_cons hn0, ew1]
    rw [ew1] at hb2
    obtain ⟨l, l1, l2⟩ := sub_cons_some hb2
    have el : atI (w.map Dn) (-1) = some (Dn w[n + 1]) := by
      have e : w.map Dn = (w.take (n + 1)).map Dn ++ [Dn w[n + 1]] := by
        have : w = w.take (n + 1) ++ [w[n + 1]] := by
          conv => lhs; rw [← List.take_append_drop (n + 1) w, ew1]
        conv => lhs; rw [this]
        rw [List.map_append]; rfl
      rw [e]; exact L2.atI_last _ _
    have bp := sub_pts hb
    have e2 := h0.tree (t := b) (bs := []) (List.getElem?_eq_some_iff.mp l1).1 (by omega) (by simp)
    simp only [List.map_nil] at e2
    obtain ⟨L, hL⟩ : ∃ L, T.of (putL b.L w[n + 1] []) = L := ⟨_, rfl⟩
    rw [hL] at e2
    have er : (List.replicate ((m : Int) + 1).toNat [ten L]).flatten = (List.replicate (m + 1) L).map ten := by
      rw [show ((m : Int) + 1).toNat = m + 1 by omega, List.map_replicate]
      have : ∀ n, (List.replicate n [ten L]).flatten = List.replicate n (ten L) := fun n => by
        induction n with
        | zero => rfl
        | succ n ih => rw [List.replicate_succ, List.flatten_cons, ih]; rfl
      exact this _
    have ok : okRep ((m : Int) + 1) 1 = true := by
      unfold okRep
      have : (2 : Nat) ^ 62 = 4611686018427387904 := by decide
      rw [decide_eq_true (by omega), decide_eq_true (by omega)]; rfl
    -- the first turn
    obtain ⟨b', hb1, hb'2⟩ := sub_cons_some (by rw [ew0] at hu2; exact hu2 : sub u (w[n] :: [w[n + 1]]) = some .z)
    have hbb : b = b' := by
      have e1 : sub t (w.take (n + 1)) = sub u [w[n]] := by
        rw [List.take_succ_eq_append_getElem hn0]
        exact sub_append hu
      rw [e1, sub_cons hb1, sub] at hb
      exact (Option.some.inj hb).symm
    subst hbb
    have t1 := lct_turn h0 h1 (k := n) hp hu (List.getElem?_eq_getElem hn0) (List.getElem?_eq_some_iff.mp hb1).1 (bs := List.replicate (m + 1) L) (by simp; omega) (some (Dn m)) (some (ten b))
    have e3 : T.of (putL u.L w[n] (List.replicate (m + 1) L)) = rg u (w.drop n) m := by rw [ew0, rg_two hb1, hL]
    rw [e3] at t1
    have lp := lct_loop h0 h1 (m := m) hp hs (some (Dn m)) (some (ten b)) n (some (Dn n)) u (by omega) hu
    have rn : rngN ((n : Int)) (-1) (-1) = n + 1 := by
      have := rngN_down (n + 1)
      rwa [show ((n + 1 : Nat) : Int) - 1 = (n : Int) by omega] at this
    have okn : okI (n : Int) = true := okI_small (by omega) (by omega)
    have okM : okI (-1) = true := by decide
    have okc : okC (-1) = true := by decide
    have erg : rngC (n : Int) (-1) (n + 1) = Dn n :: (List.range n).map fun i : Nat => PyData.int ((n : Int) - 1 + (i : Nat) * (-1)) := by
      unfold rngC
      rw [List.range_succ_eq_map, List.map_cons, List.map_map]
      have h0 : PyData.int ((n : Int) + ((0 : Nat) : Int) * (-1)) = Dn n := by
        show PyData.int _ = PyData.int _
        congr 1
      rw [h0]
      congr 1
      refine List.map_congr_left fun i _ => ?_
      show PyData.int _ = PyData.int _
      congr 1
      simp only [Nat.succ_eq_add_one]
      omega
    have lf : forL (gtName 5) (lcB S c0 c1) (rngC (n : Int) (-1) (n + 1)) [some (ten t), some (.tuple (w.map Dn)), some (Dn m), some (ten b), some (.tuple ((List.replicate (m + 1) L).map ten)), none] = .nx [some (ten t), some (.tuple (w.map Dn)), some (Dn m), some (ten b), some (.tuple ([rg t w m].map ten)), if n = 0 then some (Dn n) else some (.int 0)] := by
      rw [erg, u_forL_c]
      simp only [u_gtName, List.set_cons_succ, List.set_cons_zero, t1, lp]
    have en2 : ((w.length : Nat) : Int) - 2 = (n : Int) := by omega
    unfold G_l_cut_2
    rw [u_sSeq]
    have s1 : (sIf (tOf (eOp gEq (eCall gLen (aCons (eVar 1) aNil)) (eC (.int 1)))) (sRet (eFn (S c0) (aCons (eVar 0) (aCons (eOp gIx (eVar 1) (eC (.int 0))) (aCons (eTup aNil) aNil))))) sNil) (List.map some [ten t, .tuple (w.map Dn), Dn m] ++ List.replicate (6 - [ten t, PyData.tuple (w.map Dn), Dn m].length) none) = .nx [some (ten t), some (.tuple (w.map Dn)), some (Dn m), none, none, none] := by simp [ne]
    rw [s1, Out.then_nx, u_sSeq]
    have s2 : (sSet [] 3 (eFn (S c1) (aCons (eVar 0) (aCons (eSl (eVar 1) oNone (oSome (eNeg (eC (.int 1))))) aNil)))) [some (ten t), some (.tuple (w.map Dn)), some (Dn m), none, none, none] = .nx [some (ten t), some (.tuple (w.map Dn)), some (Dn m), some (ten b), none, none] := by
      simp only [u_sSet0, u_eFn, u_aCons, u_eVar, u_eSl, u_oNone, u_oSome, u_eNeg, u_eC, u_aNil, List.getD_cons_succ, List.getD_cons_zero, R.of_some, R.bind_ok, u_gSl_t, ci, e1, R.run_ok, List.set_cons_succ, List.set_cons_zero]
    rw [s2, Out.then_nx, u_sSeq]
    have s3 : (sSet [] 4 (eOp gRep (eTup (aCons (eFn (S c0) (aCons (eVar 3) (aCons (eOp gIx (eVar 1) (eNeg (eC (.int 1)))) (aCons (eTup aNil) aNil)))) aNil)) (eOp gAdd (eVar 2) (eC (.int 1))))) [some (ten t), some (.tuple (w.map Dn)), some (Dn m), some (ten b), none, none] = .nx [some (ten t), some (.tuple (w.map Dn)), some (Dn m), some (ten b), some (.tuple ((List.replicate (m + 1) L).map ten)), none] := by
      simp only [u_sSet0, u_eOp, u_eFn, u_aCons, u_eVar, u_eTup, u_eNeg, u_eC, u_aNil, List.getD_cons_succ, List.getD_cons_zero, R.of_some, R.bind_ok, u_gIx_t, el, List.length_nil, sz0, if_true, e2, List.length_cons, show 0 + 1 ≤ sizeLine from sz1, u_gAdd_i, u_gRep, ok, er, R.run_ok, List.set_cons_succ, List.set_cons_zero]
    rw [s3, Out.then_nx, u_sSeq, u_sFor]
    have s4 : (iRange3 (aCons (eOp gSub (eCall gLen (aCons (eVar 1) aNil)) (eC (.int 2))) (aCons (eNeg (eC (.int 1))) (aCons (eNeg (eC (.int 1))) aNil)))) (mask [] [some (ten t), some (.tuple (w.map Dn)), some (Dn m), some (ten b), some (.tuple ((List.replicate (m + 1) L).map ten)), none]) = .ok (rngC (n : Int) (-1) (n + 1)) := by
      simp only [mask_nil, u_iRange3, u_aCons, u_eOp, u_eCall, u_eVar, u_aNil, u_eC, u_eNeg, R.bind_ok, R.of_some, u_gSub_i, u_gLen_t, List.length_map, en2, List.getD_cons_succ, List.getD_cons_zero, okn, okM, okc, rn, Bool.and_self, if_true]
    rw [s4, R.run_ok, lf, Out.then_nx]
    simp
/-! bounds of what is left -/
theorem putL_mem {α : Type} {xs : List α} {j : Nat} {ys : List α} {x : α} (h : x ∈ putL xs j ys) : x ∈ xs ∨ x ∈ ys := by
  unfold putL at h
  rcases List.mem_append.mp h with h | h
  · rcases List.mem_append.mp h with h | h
    · exact .inl (List.mem_of_mem_take h)
    · exact .inr h
  · exact .inl (List.mem_of_mem_drop h)
theorem putL_dp {t : T} {j n : Nat} {bs : List T} (ht : t.dp ≤ n) (hb : ∀ b ∈ bs, b.dp + 1 ≤ n) : (T.of (putL t.L j bs)).dp ≤ n := T.dp_of fun b h => by
  rcases putL_mem h with h | h
  · have := T.dp_mem t b h; omega
  · exact hb b h
theorem rg_dp : ∀ (w : List Nat) (t : T) (m : Nat), 2 ≤ w.length → sub t w = some .z → (rg t w m).dp ≤ t.dp
  | [], t, m, h, _ => by simp at h
  | [_], t, m, h, _ => by simp at h
  | [i, j], t, m, _, hs => by
    obtain ⟨b, b1, b2⟩ := sub_cons_some hs
    have hb := T.dp_mem t b (List.mem_of_getElem? b1)
    rw [rg_two b1]
    refine putL_dp (Nat.le_refl _) fun c hc => ?_
    have : c = T.of (putL b.L j []) := (List.mem_replicate.mp hc).2
    subst this
    have := putL_dp (t := b) (j := j) (n := b.dp) (bs := []) (Nat.le_refl _) (fun _ h => by cases h)
    omega
  | i :: j :: k :: w, t, m, _, hs => by
    obtain ⟨b, b1, b2⟩ := sub_cons_some hs
    have hb := T.dp_mem t b (List.mem_of_getElem? b1)
    rw [rg_more b1 (by simp)]
    have ih := rg_dp (j :: k :: w) b m (by simp) b2
    refine putL_dp (Nat.le_refl _) fun c hc => ?_
    simp at hc
    subst hc
    omega
end Nm
set_option Elab.async false
set_option linter.all false
set_option maxRecDepth 100000
set_option maxHeartbeats 4000000
namespace Pu
open PySem PySem.Spec PyProof.Rows L2
open PySem.AutoSeq1 (wpAny_loadPart')
/-! ### enumerate(tuple) -/
theorem meets_enumerate_newT (l : Addr) (items : Array Value) (n : Nat) (dct : Option Addr) (sl : Array (Option Value)) :
    Meets (Builtin.«enumerate.__new__» ⟨[.type "enumerate", .ref l], []⟩) (fun _ R s => s.heap.get? l = some { cls := .type "tuple", dict := dct, data := .seq items n, slots := sl } ∧
      R (.ok (.ret (.ref (s.heap.push { cls := .type "tuple_iterator", data := .fields #[.ref l, .int 0 0] }).objs.size)))
        { s with heap := (s.heap.push { cls := .type "tuple_iterator", data := .fields #[.ref l, .int 0 0] }).push { cls := .type "enumerate", data := .fields #[.none, .bool false, .ref s.heap.objs.size, rawInt 0, .none, .none] } }) :=
  .of_wp fun prog w A R s h => by
    obtain ⟨hp, g, d, tk, os⟩ := s; obtain ⟨hl, h⟩ := h
    have hsub := sub_enumerate
    have hL : Heap.IsTuple (Shared.heap ⟨hp, g, d, tk, os⟩) l items := ⟨_, hl, rfl, n, rfl⟩
    wp_walk using wpAny_loadPart' hl
    refine wpAny_stack_any fun st => wpAny_pure ?_
    split
    · rename_i c _ _ _ _ _
      cases (c == Value.type "enumerate")
      · wp_walk using wpAny_loadPart' hl, wpAny_pyIter_tuple hL
        exact ⟨_, rfl, h⟩
      · wp_walk using wpAny_loadPart' hl, wpAny_pyIter_tuple hL
        exact ⟨_, rfl, h⟩
    · wp_walk using wpAny_loadPart' hl, wpAny_pyIter_tuple hL
      exact ⟨_, rfl, h⟩
theorem call_enumerate_tup {prog : Program} {w : World} {A : Around} {E : Value → Shared → Prop} {s : Shared} {l : Addr} {items : Array Value} {Q : Value → Shared → Prop} (hL : s.heap.IsTuple l items)
    (h : ∀ h', IsEnum h' (s.heap.objs.size + 1) s.heap.objs.size 0 .none → h'.IsTupleIter s.heap.objs.size l 0 → h'.objs.size = s.heap.objs.size + 2 →
      (∀ b o, s.heap.get? b = some o → h'.get? b = some o) → Q (.ref (s.heap.objs.size + 1)) { s with heap := h' }) :
    wpAny (model prog w) A (call (.type "enumerate") [.ref l]) Q E s := by
  obtain ⟨⟨c, dct, dt, sl⟩, hl, hc, n, hd⟩ := hL
  replace hc : c = .type "tuple" := hc
  replace hd : dt = .seq items n := hd
  subst hc hd
  refine callType_new F.called_enumerate (by decide) (F.typeCall_enumerate_1 _) (F.newCall_enumerate_1 _) (fun obj => F.args_object_init_2 obj _) F.entry_enumerate_new
    (meets_enumerate_newT l items n dct sl) ⟨hl, ?_⟩
  have hz : (s.heap.push { cls := .type "tuple_iterator", data := .fields #[.ref l, .int 0 0] }).objs.size = s.heap.objs.size + 1 := Heap.size_push ..
  show _ ∧ _
  rw [hz]
  have he : IsEnum ((s.heap.push { cls := .type "tuple_iterator", data := .fields #[.ref l, .int 0 0] }).push
      { cls := .type "enumerate", data := .fields #[.none, .bool false, .ref s.heap.objs.size, rawInt 0, .none, .none] }) (s.heap.objs.size + 1) s.heap.objs.size 0 .none := by
    have := Heap.get?_push_size (s.heap.push { cls := .type "tuple_iterator", data := .fields #[.ref l, .int 0 0] })
      (o := { cls := .type "enumerate", data := .fields #[.none, .bool false, .ref s.heap.objs.size, rawInt 0, .none, .none] }) rfl
    rw [hz] at this; exact this
  refine ⟨⟨_, he, rfl⟩, h _ he ⟨_, Heap.get?_push_of_some _ (Heap.get?_push_size _ rfl), rfl, rfl⟩ (by rw [Heap.size_push, hz]) fun b o x => Heap.get?_push_of_some _ (Heap.get?_push_of_some _ x)⟩
/-- the tuple at a, each item in a new pair with its place -/
def IteT (K : PySem.W.Frag) (a : Addr) : It :=
  ⟨fun i H => ∃ (xs : List V) (x : V), SqT K H a xs ∧ xs[i]? = some x, fun i H v H' => ∃ T x, v = .ref T ∧ H T = none ∧ H' = upd H T (.tup [.int (i : Nat), x]) ∧ ∀ xs, SqT K H a xs → xs[i]? = some x, fun i H => ∃ xs : List V, SqT K H a xs ∧ xs.length ≤ i⟩
theorem turn_enumT {P : Program} {w : World} {K : PySem.W.Frag} {elts : List Expr} {kk : Nat} {tpos : Pos} (a e it : Addr) :
    Turn P w K (.Tuple elts kk tpos) (IteT K a) [e, it] e (fun i h => (∃ old, IsEnum h e it ((i : Nat) : Int) old) ∧ h.IsTupleIter it a i ∧ e ≠ it ∧ a ≠ e ∧ a ≠ it) where
  mem := by simp
  obj := fun i h st b hb => by
    obtain ⟨⟨old, he⟩, ⟨o, ho, hc, hd⟩, _⟩ := st
    have e' : b = e ∨ b = it := by simpa using hb
    rcases e' with z | z
    · rw [z]; exact ⟨_, he, fun v q => nomatch q⟩
    · rw [z]; exact ⟨o, ho, fun v q => by rw [hd] at q; cases q⟩
  keep := fun i h h' st k => let ⟨⟨old, he⟩, hi, hne⟩ := st; ⟨⟨old, k e (by simp) _ he⟩, hi.at fun o q => k it (by simp) o q, hne⟩
  item := by
    intro X hP hw hK hc i pins s σ H E I hf st hg
    subst hP hw hK
    obtain ⟨⟨old, he⟩, hit, hne, hae, hai⟩ := st
    obtain ⟨xs, x, hq, hx⟩ := hg
    obtain ⟨its, rv, p, hz⟩ := I.tuple hq
    obtain ⟨u, hu, ru⟩ := rv.get hx
    have hel : e < s.heap.objs.size := Heap.lt_size he
    have hil : it < s.heap.objs.size := by obtain ⟨_, q, _⟩ := hit; exact Heap.lt_size q
    have hlt : i < its.toArray.size := by
      have := (List.getElem?_eq_some_iff.mp hu).1
      simpa using this
    have D := Draws.tuple (prog := X.prog) (w := X.w) (A := X.A.in1) (I.ok.hd hc) it a hai its.toArray
    refine wpAny_pyNext_enum_itemD D he ⟨hit, p⟩ hlt hne (by simp [hne, Ne.symm hae]) fun y h' tk hy ho hst' hT hsz hk => ?_
    have ey : y = u := by
      have : its.toArray[i]? = some u := by simpa using hu
      rw [this] at hy; exact (Option.some.inj hy).symm
    subst ey
    obtain ⟨hit', _⟩ := hst'
    refine ⟨_, rfl, wpAny_letOwnedTupleGo_enum (s := { s with heap := h', toks := tk + 1 }) ho fun h'' he' sb => ?_⟩
    have hT2 : h''.get? s.heap.objs.size = some { cls := .type "tuple", data := .seq #[.int i tk, y] } := (sb.2 _ (Nat.ne_of_gt hel)).trans hT
    have new : ObjOk X.prog X.w (upd H s.heap.objs.size (.tup [.int (i : Nat), x])) h'' s.heap.objs.size (.tup [.int (i : Nat), x]) :=
      ⟨by show 2 ≤ sizeLine; decide, [.int i tk, y], .cons ⟨_, rfl⟩ (.cons ru .nil), ⟨_, hT2, rfl, _, rfl⟩⟩
    have I1 : Inv X pins σ (upd H s.heap.objs.size (.tup [.int (i : Nat), x])) { s with heap := h'', toks := tk + 1 } :=
      I.turnedNew (ch := [e, it]) (fun b ob hb q => (sb.2 b (fun z => hb (by simp [z]))).trans (hk b ob (fun z => hb (by simp [z])) (fun z => hb (by simp [z])) q)) hf (Nat.le_refl _) new
    refine ⟨.ref s.heap.objs.size, _, I1, rfl, ⟨_, x, rfl, I.hok.fresh (Nat.le_refl _), rfl, fun ys hy => by rw [I.tuple_inj hy hq]; exact hx⟩, ⟨⟨y, ?_⟩, hit'.at fun o q => (sb.2 it (Ne.symm hne)).trans q, hne, hae, hai⟩, fun b hb => ?_⟩
    · have e1 : ((i + 1 : Nat) : Int) = (i : Int) + 1 := by omega
      rw [e1]; exact he'
    · have hb' : b < s.heap.objs.size := by
        have e' : b = e ∨ b = it := by simpa using hb
        rcases e' with z | z
        · rw [z]; exact hel
        · rw [z]; exact hil
      rw [upd_ne (Nat.ne_of_lt hb')]
      exact (hf b hb).1
  done := by
    intro X hP hw hK hc i pins s σ H E I hf st hg
    subst hP hw hK
    obtain ⟨⟨old, he⟩, hit, hne, hae, hai⟩ := st
    obtain ⟨xs, hq, hx⟩ := hg
    obtain ⟨its, rv, p, hz⟩ := I.tuple hq
    obtain ⟨f0, f1, f2, f3, f4, f5⟩ := hf it (by simp)
    have hl := rv.length
    have hT : s.TypeIs (.ref e) "enumerate" := ⟨_, he, rfl⟩
    unfold pyNext
    refine wpAny_bind (wpAny_attempt (wpAny_callSpecial?_slot (name := Str.ofString "__next__") hT F.slot_enumerate_next
      (wpAny_call_entry F.slot_enumerate_next hT F.entry_enumerate_next ?_ (F.args_enumerate_next_1 _))))
    show wpAny _ _ (field (.ref e) 2 >>= _) _ _ _
    refine wpAny_bind (wpAny_field he rfl (x := .ref it) rfl ?_)
    refine wpAny_bind (wpAny_nextOf_tuple_end (I.ok.hd hc) hit p (by simp; omega) fun h' x he' hx' => ?_)
    obtain ⟨o, ho, hc⟩ := hx'
    refine wpAny_bind (wpAny_isInstance (T := "StopIteration") (b := true) ⟨o, ho, hc⟩ isSubtype_stop ?_)
    exact wpAny_pure ⟨rfl, I.turned (t' := s.toks) (fun b o hb e => he' b o hb e) f0 f1 f3 f4 f5⟩
  self := fun A i s Q E st h => let ⟨⟨_, he⟩, _⟩ := st; wpAny_pyIter_enum he h
def iEnumA (K : PySem.W.Frag) (te : TE) : TI := fun σ H R => te σ H fun v H1 => ∃ a xs, v = .ref a ∧ ((SqL K H1 a xs ∧ R (Ite K a) H1) ∨ (SqT K H1 a xs ∧ R (IteT K a) H1))
theorem pi_enumA {X : Cx} {e : Expr} {te : TE} {p pos tpos : Pos} {elts : List Expr} {kk : Nat} (hg : Gl X "enumerate") (hm : X.mg "enumerate" = none) (he : PE X e te) (hs : starEach [e] X.env = (false, eval e X.env) :: starEach [] X.env := by rfl) :
    PI X (.Tuple elts kk tpos) (.Call (.Name "enumerate" p) [e] [] pos) (iEnumA X.K te) := by
  refine ⟨fun pins s σ H R I h => ?_⟩
  refine Call_ (ld_blt I hg hm boot_enumerate (PyProof.Rows.callWith_type1 (args_cons (thn (he.run pins s σ H _ I h) fun u s1 ⟨v, H1, I1, r1, q1⟩ => args_nil ?_) hs) hs rfl))
  obtain ⟨a, xs, ev, q⟩ := q1
  subst ev
  obtain rfl : u = Value.ref a := r1
  rcases q with ⟨hq, q⟩ | ⟨hq, q⟩
  · obtain ⟨its, rv, p', hz⟩ := I1.list hq
    refine call_enumerate_list p'.isList fun h' he hit hsz hk => wpAny_pyIter_enum he ?_
    have I2 : Inv X pins σ H1 { s1 with heap := h' } := I1.kept (t' := s1.toks) hk
    refine ⟨s1.heap.objs.size + 1, [s1.heap.objs.size + 1, s1.heap.objs.size], _, _, H1, rfl, I2, turn_enum a (s1.heap.objs.size + 1) s1.heap.objs.size, ⟨⟨.none, he⟩, hit, Nat.succ_ne_self _⟩, fun b hb => ?_, q⟩
    have e' : b = s1.heap.objs.size + 1 ∨ b = s1.heap.objs.size := by simpa using hb
    have hle : s1.heap.objs.size ≤ b := by
      rcases e' with z | z
      · rw [z]; exact Nat.le_add_right _ _
      · rw [z]; exact Nat.le_refl _
    exact I1.fpOk hle (I1.hok.fresh hle)
  · obtain ⟨its, rv, p', hz⟩ := I1.tuple hq
    refine call_enumerate_tup p' fun h' he hit hsz hk => wpAny_pyIter_enum he ?_
    have I2 : Inv X pins σ H1 { s1 with heap := h' } := I1.kept (t' := s1.toks) hk
    have hal : a < s1.heap.objs.size := by obtain ⟨o, ho, _⟩ := p'; exact Heap.lt_size ho
    refine ⟨s1.heap.objs.size + 1, [s1.heap.objs.size + 1, s1.heap.objs.size], _, _, H1, rfl, I2, turn_enumT a (s1.heap.objs.size + 1) s1.heap.objs.size, ⟨⟨.none, he⟩, hit, Nat.succ_ne_self _, Nat.ne_of_lt (Nat.lt_succ_of_lt hal), Nat.ne_of_lt hal⟩, fun b hb => ?_, q⟩
    have e' : b = s1.heap.objs.size + 1 ∨ b = s1.heap.objs.size := by simpa using hb
    have hle : s1.heap.objs.size ≤ b := by
      rcases e' with z | z
      · rw [z]; exact Nat.le_add_right _ _
      · rw [z]; exact Nat.le_refl _
    exact I1.fpOk hle (I1.hok.fresh hle)
/-- the items with their places -/
def enumD : Nat → List PyData → List PyData
  | _, [] => []
  | k, d :: ds => .tuple [.int (k : Nat), d] :: enumD (k + 1) ds
theorem enumD_len : ∀ (k : Nat) (ds : List PyData), (enumD k ds).length = ds.length
  | _, [] => rfl
  | k, _ :: ds => by rw [enumD, List.length_cons, enumD_len (k + 1) ds, List.length_cons]
theorem enumD_get : ∀ (k : Nat) (ds : List PyData) (i : Nat), (enumD k ds)[i]? = (ds[i]?).map fun d => .tuple [.int ((k + i : Nat) : Int), d]
  | _, [], _ => by simp [enumD]
  | k, d :: ds, 0 => by simp [enumD]
  | k, d :: ds, i + 1 => by
    rw [enumD, List.getElem?_cons_succ, List.getElem?_cons_succ, enumD_get (k + 1) ds i, show k + 1 + i = k + (i + 1) by omega]
theorem iterEL {K : PySem.W.Frag} {F : Hp} {a : Addr} {xs : List V} {ds : List PyData} (h : SqL K F a xs) (r : Rps K F xs ds) : IterOk K (Ite K a) F (enumD 0 ds) := fun i H O hO s => by
  have s' : Same F H := s.trans hide_sub
  have hH := seqL s' h
  refine ⟨fun d e => ?_, fun l => ⟨xs, hH, by rw [r.length]; rwa [enumD_len] at l⟩⟩
  rw [enumD_get] at e
  cases h1 : ds[i]? with
  | none => rw [h1] at e; cases e
  | some d1 =>
    rw [h1] at e
    cases e
    obtain ⟨v, h1, h2⟩ := r.get h1
    refine ⟨⟨xs, v, hH, h1⟩, fun x H' y => ?_⟩
    obtain ⟨T, x1, rfl, hT, rfl, y1⟩ := y
    have h3 := y1 xs hH
    rw [h1] at h3
    cases h3
    rw [Nat.zero_add]
    exact ⟨same_new hT, new_rep hO hT (.cons (.int _) (.cons (h2.mono s) .nil))⟩
theorem iterET {K : PySem.W.Frag} {F : Hp} {a : Addr} {xs : List V} {ds : List PyData} (h : SqT K F a xs) (r : Rps K F xs ds) : IterOk K (IteT K a) F (enumD 0 ds) := fun i H O hO s => by
  have s' : Same F H := s.trans hide_sub
  have hH := seqT s' h
  refine ⟨fun d e => ?_, fun l => ⟨xs, hH, by rw [r.length]; rwa [enumD_len] at l⟩⟩
  rw [enumD_get] at e
  cases h1 : ds[i]? with
  | none => rw [h1] at e; cases e
  | some d1 =>
    rw [h1] at e
    cases e
    obtain ⟨v, h1, h2⟩ := r.get h1
    refine ⟨⟨xs, v, hH, h1⟩, fun x H' y => ?_⟩
    obtain ⟨T, x1, rfl, hT, rfl, y1⟩ := y
    have h3 := y1 xs hH
    rw [h1] at h3
    cases h3
    rw [Nat.zero_add]
    exact ⟨same_new hT, new_rep hO hT (.cons (.int _) (.cons (h2.mono s) .nil))⟩
def iEnumD (f : Vars → R PyData) (ρ : Vars) : R (List PyData) := (f ρ).bind fun d => match d with
  | .list ds => .ok (enumD 0 ds)
  | .tuple ds => .ok (enumD 0 ds)
  | _ => .bad
@[simp] theorem u_iEnumD (f : Vars → R PyData) (ρ : Vars) : iEnumD f ρ = (f ρ).bind fun d => match d with
  | .list ds => .ok (enumD 0 ds)
  | .tuple ds => .ok (enumD 0 ds)
  | _ => .bad := rfl
theorem ix_enum {X : Cx} {W : WX} {e : Expr} {f : Vars → R PyData} {p pos tpos : Pos} {elts : List Expr} {kk : Nat} (hg : Gl X "enumerate") (hm : X.mg "enumerate" = none) (h : EX X W e f) (hs : starEach [e] X.env = (false, eval e X.env) :: starEach [] X.env := by rfl) : IX X W (.Tuple elts kk tpos) (.Call (.Name "enumerate" p) [e] [] pos) (iEnumD f) := by
  obtain ⟨t, q, ht⟩ := h
  refine ⟨_, pi_enumA hg hm q hs, fun σ H O ρ Q hO hv z => ht σ H O ρ _ hO hv ?_⟩
  unfold iEnumD at z
  cases e : f ρ with
  | bad => rw [e] at z; exact z
  | err c => rw [e] at z; exact z
  | ok d =>
    rw [e, R.bind_ok] at z
    intro v H1 s1 r1
    cases r1 with
    | @lst a xs ds hx rs => exact ⟨a, xs, rfl, .inl ⟨seqL hide_sub hx, z _ H1 s1 (iterEL hx rs)⟩⟩
    | @tup a xs ds hx rs => exact ⟨a, xs, rfl, .inr ⟨seqT hide_sub hx, z _ H1 s1 (iterET hx rs)⟩⟩
    | _ => exact z.elim
/-! ### tuples of ints: >= -/
def lexGeI : List Int → List Int → Bool
  | [], ms => ms.isEmpty
  | _ :: _, [] => true
  | x :: xs, y :: ys => if x = y then lexGeI xs ys else decide (y ≤ x)
theorem lexAt_shift {e r : Nat → Bool} {z : Bool} : ∀ (k i : Nat), Ob.lexAt e r z (i + 1) k = Ob.lexAt (fun j => e (j + 1)) (fun j => r (j + 1)) z i k
  | 0, _ => rfl
  | k + 1, i => by rw [Ob.lexAt_succ, Ob.lexAt_succ, lexAt_shift k (i + 1)]
theorem lexAt_ge : ∀ (ns ms : List Int), Ob.lexAt (fun j => decide (ns.getD j 0 = ms.getD j 0)) (fun j => decide (ms.getD j 0 ≤ ns.getD j 0)) (decide (ns.length ≥ ms.length)) 0 (min ns.length ms.length) = lexGeI ns ms
  | [], [] => rfl
  | [], _ :: _ => by simp [Ob.lexAt_zero, lexGeI]
  | _ :: _, [] => by simp [Ob.lexAt_zero, lexGeI]
  | x :: xs, y :: ys => by
    have e1 : min (x :: xs).length (y :: ys).length = min xs.length ys.length + 1 := by simp only [List.length_cons]; omega
    have e2 : decide ((x :: xs).length ≥ (y :: ys).length) = decide (xs.length ≥ ys.length) := by simp only [List.length_cons, ge_iff_le, Nat.add_le_add_iff_right]
    rw [e1, e2, Ob.lexAt_succ, lexAt_shift, lexGeI, ← lexAt_ge xs ys]
    simp only [List.getD_cons_zero, List.getD_cons_succ, decide_eq_true_eq]
def rGeT (K : PySem.W.Frag) : R2 := fun x y H Q => ∃ (a b : Addr) (ns ms : List Int), x = .ref a ∧ y = .ref b ∧ SqT K H a (ns.map V.int) ∧ SqT K H b (ms.map V.int) ∧ Q (.bl (lexGeI ns ms)) H
theorem op_geT {X : Cx} (hu' : X.A.units + 64 < cLine) : OpR X (compareOp .GtE) (rGeT X.K) := by
  have hu : X.A.units < cLine := Nat.lt_of_le_of_lt (Nat.le_add_right _ _) hu'
  intro pins s σ H x y v u Q I rx ry h
  obtain ⟨a, b, ns, ms, rfl, rfl, ha, hb, q⟩ := h
  cases rx
  cases ry
  obtain ⟨its, r1, p1, _⟩ := I.tuple ha
  obtain ⟨its2, r2, p2, _⟩ := I.tuple hb
  have i1 : IntsAre its ns := Vals.ints r1
  have i2 : IntsAre its2 ms := Vals.ints r2
  have e1 : its.toArray.size = ns.length := by rw [List.size_toArray]; exact i1.length
  have e2 : its2.toArray.size = ms.length := by rw [List.size_toArray]; exact i2.length
  have at1 : ∀ j (h1 : j < its.toArray.size), ∃ t, its.toArray[j] = .int (ns.getD j 0) t := fun j h1 => PyProof.Rows.IntsAre.int_at i1 _ _ (by simp at h1; simp [h1])
  have at2 : ∀ j (h1 : j < its2.toArray.size), ∃ t, its2.toArray[j] = .int (ms.getD j 0) t := fun j h1 => PyProof.Rows.IntsAre.int_at i2 _ _ (by simp at h1; simp [h1])
  have R := Ob.RcOp.tuples_ge (A := X.A) (s := s) (e := fun j => decide (ns.getD j 0 = ms.getD j 0)) (r := fun j => decide (ms.getD j 0 ≤ ns.getD j 0)) p1 p2 hu (fun j h1 h2 => by
    obtain ⟨t, et⟩ := at1 j h1
    obtain ⟨t', et'⟩ := at2 j h2
    rw [et, et']
    have z : (ns.getD j 0 == ms.getD j 0) = decide (ns.getD j 0 = ms.getD j 0) := by
      by_cases q : ns.getD j 0 = ms.getD j 0
      · rw [decide_eq_true q]; exact beq_iff_eq.mpr q
      · rw [decide_eq_false q]; exact beq_eq_false_iff_ne.mpr q
    rw [← z]
    exact SeqAt.EqAt.int_int _ _ _ _) (fun j h1 h2 _ => by
    obtain ⟨t, et⟩ := at1 j h1
    obtain ⟨t', et'⟩ := at2 j h2
    rw [et, et']
    exact Ob.RcOp.ge_int _ _ _ _)
  rw [e1, e2, lexAt_ge] at R
  have z : wpAny (model X.prog X.w) X.A (compareOp .GtE (.ref a) (.ref b)) (EP X pins σ Q) X.xe s := R X.prog X.w X.xe (EP X pins σ Q) ⟨.bl _, H, I, rfl, q⟩
  exact z
/-- all ints -/
def intsD : List PyData → Option (List Int)
  | [] => some []
  | .int i :: ds => (intsD ds).map fun l => i :: l
  | _ :: _ => none
theorem intsD_map (ns : List Int) : intsD (ns.map .int) = some ns := by
  induction ns with
  | nil => rfl
  | cons n ns ih => rw [List.map_cons, intsD, ih]; rfl
theorem rps_intsD {K : PySem.W.Frag} {H : Hp} : ∀ {xs : List V} {ds : List PyData} {ns : List Int}, Rps K H xs ds → intsD ds = some ns → xs = ns.map V.int
  | _, _, _, .nil, h => by cases h; rfl
  | _, _, _, .cons (d := .int i) (ds := ds) r rs, h => by
    rw [intsD] at h
    cases e : intsD ds with
    | none => rw [e] at h; cases h
    | some l =>
      rw [e] at h; cases h
      cases r
      rw [List.map_cons, rps_intsD rs e]
  | _, _, _, .cons (d := .none) _ _, h => by cases h
  | _, _, _, .cons (d := .bool _) _ _, h => by cases h
  | _, _, _, .cons (d := .str _) _ _, h => by cases h
  | _, _, _, .cons (d := .list _) _ _, h => by cases h
  | _, _, _, .cons (d := .tuple _) _ _, h => by cases h
  | _, _, _, .cons (d := .dict _) _ _, h => by cases h
def gGeT : PyData → PyData → Option PyData
  | .tuple ds, .tuple es => match intsD ds, intsD es with
    | some ns, some ms => some (.bool (lexGeI ns ms))
    | _, _ => none
  | _, _ => none
theorem op2_geT {K : PySem.W.Frag} : Op2 K (rGeT K) gGeT := by
  intro H O x y d e z Q hO rx ry h q
  cases rx with
  | @tup a xs ds hx rs =>
    cases ry with
    | @tup b ys es hy rs' =>
      unfold gGeT at h
      dsimp only at h
      cases e1 : intsD ds with
      | none => rw [e1] at h; cases h
      | some ns =>
        cases e2 : intsD es with
        | none => rw [e1, e2] at h; cases h
        | some ms =>
          rw [e1, e2] at h
          cases h
          have w1 := rps_intsD rs e1
          have w2 := rps_intsD rs' e2
          subst w1 w2
          exact ⟨a, b, ns, ms, rfl, rfl, seqT hide_sub hx, seqT hide_sub hy, q _ H (Same.refl H) (.bl _)⟩
    | _ => cases h
  | _ => cases h
theorem u_gGeT (ns ms : List Int) : gGeT (.tuple (ns.map .int)) (.tuple (ms.map .int)) = some (.bool (lexGeI ns ms)) := by
  rw [gGeT, intsD_map, intsD_map]
end Pu
set_option Elab.async false
set_option linter.all false
set_option maxRecDepth 100000
set_option maxHeartbeats 4000000
namespace Lk42
open PySem PySem.Spec PyProof.Rows L2 Pu
def top (i : Nat) : Stmt := PySem.Challenge.pw_hydrahouse_k42_heads_and_points.main.body.getD i (.Pass ⟨0, 0, 0, 0⟩)
abbrev s_points : Stmt := top 1
abbrev N_points : List Str := ["tree", "many", "branch"]
theorem sc_points : FnScope N_points ["tree"] (defScope s_points) := ⟨rfl, rfl, rfl, by decide +kernel, rfl, by decide +kernel, by decide +kernel⟩
abbrev gb_points_1 (S : Nat → List PyData → R PyData) : Vars → Out :=
  (sAug [] 1 gAddI (eFn (S 0) (aCons (eVar 2) aNil)))
def g_points (S : Nat → List PyData → R PyData) : Vars → Out :=
  (sSeq (sSet [] 1 (eC (.int 1)))
    (sSeq (sFor [] (iSeq (eVar 0)) (gtName 2) (gb_points_1 S))
    (sRet (eVar 1))))
abbrev s_heads : Stmt := top 2
abbrev N_heads : List Str := ["tree", "found", "at", "branch", "way"]
theorem sc_heads : FnScope N_heads ["tree"] (defScope s_heads) := ⟨rfl, rfl, rfl, by decide +kernel, rfl, by decide +kernel, by decide +kernel⟩
abbrev gb_heads_1 (S : Nat → List PyData → R PyData) : Vars → Out :=
  (sAppM [1] 1 (eOp gAdd (eTup (aCons (eVar 2) aNil)) (eVar 4)))
abbrev gb_heads_2 (S : Nat → List PyData → R PyData) : Vars → Out :=
  (sSeq (sIf (tOf (eOp gEq (eCall gLen (aCons (eVar 3) aNil)) (eC (.int 0)))) (sAppM [1] 1 (eTup (aCons (eVar 2) aNil))) sNil) (sFor [1] (iSeq (eFn (S 1) (aCons (eVar 3) aNil))) (gtName 4) (gb_heads_1 S)))
def g_heads (S : Nat → List PyData → R PyData) : Vars → Out :=
  (sSeq (sNew [1] 1 (nLst aNil))
    (sSeq (sFor [1] (iEnumD (eVar 0)) (gtTup 2 (gtCons (gtName 2) (gtCons (gtName 3) gtNil))) (gb_heads_2 S))
    (sRet (eVar 1))))
abbrev s_l_whole : Stmt := top 4
abbrev N_l_whole : List Str := ["_law_found"]
theorem sc_l_whole : FnScope N_l_whole ["_law_found"] (defScope s_l_whole) := ⟨rfl, rfl, rfl, by decide +kernel, rfl, by decide +kernel, by decide +kernel⟩
def g_l_whole (S : Nat → List PyData → R PyData) : Vars → Out :=
  (sRet (eAnd (eIsi "int" (eVar 0)) (eNot (eIsi "bool" (eVar 0)))))
abbrev s_l_cell_at : Stmt := top 5
abbrev N_l_cell_at : List Str := ["_law_script", "_law_k"]
theorem sc_l_cell_at : FnScope N_l_cell_at ["_law_script", "_law_k"] (defScope s_l_cell_at) := ⟨rfl, rfl, rfl, by decide +kernel, rfl, by decide +kernel, by decide +kernel⟩
def g_l_cell_at (S : Nat → List PyData → R PyData) : Vars → Out :=
  (sSeq (sIf (tOf (eOp gLt (eVar 1) (eCall gLen (aCons (eVar 0) aNil)))) (sRet (eOp gIx (eVar 0) (eVar 1))) sNil)
    (sRet (eC (.int 0))))
abbrev s_l_mix : Stmt := top 6
abbrev N_l_mix : List Str := ["_law_cell", "_law_k"]
theorem sc_l_mix : FnScope N_l_mix ["_law_cell", "_law_k"] (defScope s_l_mix) := ⟨rfl, rfl, rfl, by decide +kernel, rfl, by decide +kernel, by decide +kernel⟩
def g_l_mix (S : Nat → List PyData → R PyData) : Vars → Out :=
  (sRet (eOp gMod (eOp gAdd (eOp gAdd (eOp gAdd (eOp gMulX (eVar 0) (eC (.int 48271))) (eOp gMulX (eOp gMulX (eVar 1) (eVar 1)) (eC (.int 69621)))) (eOp gMulX (eC (.int 11)) (eVar 1))) (eC (.int 1))) (eC (.int 2147483647))))
abbrev s_l_tree : Stmt := top 7
abbrev N_l_tree : List Str := ["_law_cells", "_law_most", "_law_under", "_law_depths", "_law_k", "_law_mixed", "_law_at", "_law_built", "_law_j"]
theorem sc_l_tree : FnScope N_l_tree ["_law_cells", "_law_most"] (defScope s_l_tree) := ⟨rfl, rfl, rfl, by decide +kernel, rfl, by decide +kernel, by decide +kernel⟩
abbrev gb_l_tree_1 (S : Nat → List PyData → R PyData) : Vars → Out :=
  (sSeq (sSetD 5 (eFn (S 4) (aCons (eOp gIx (eVar 0) (eVar 4)) (aCons (eVar 4) aNil)))) (sSeq (sSetD 6 (eOp gMod (eOp gDiv (eVar 5) (eC (.int 3))) (eCall gLen (aCons (eVar 3) aNil)))) (sSeq (sIf (tOf (eOp gEq (eOp gMod (eVar 5) (eC (.int 3))) (eC (.int 0)))) (sSetD 6 (eOp gSub (eCall gLen (aCons (eVar 3) aNil)) (eC (.int 1)))) sNil) (sSeq (sIf (tOf (eOp gGe (eOp gIx (eVar 3) (eVar 6)) (eVar 1))) (sSetD 6 (eC (.int 0))) sNil) (sSeq (sIns 2 (eVar 6) (aCons (eOp gMod (eOp gDiv (eVar 5) (eC (.int 1000))) (eOp gAdd (eCall gLen (aCons (eOp gIx (eVar 2) (eVar 6)) aNil)) (eC (.int 1)))) (aCons (eCall gLen (aCons (eVar 3) aNil)) aNil))) (sSeq (sApp 3 (eOp gAdd (eOp gIx (eVar 3) (eVar 6)) (eC (.int 1)))) (sAppN 2)))))))
abbrev gb_l_tree_2 (S : Nat → List PyData → R PyData) : Vars → Out :=
  (sPut 7 (eCall gTuple (aCons (eLc (iSeq (eOp gIx (eVar 2) (eVar 4))) (gtName 8) tYesD (eOp gIx (eVar 7) (eVar 8)) [8]) aNil)) (eVar 4))
def g_l_tree (S : Nat → List PyData → R PyData) : Vars → Out :=
  (sSeq (sNewL 2)
    (sSeq (sNewD 2 [3, 7] 3 (nLst (aCons (eC (.int 0)) aNil)))
    (sSeq (sForD 2 [3, 7] (iRange (aCons (eCall gLen (aCons (eVar 0) aNil)) aNil)) (gtName 4) (gb_l_tree_1 S))
    (sSeq (sNew [7] 7 (nRep (aCons (eTup aNil) aNil) (eCall gLen (aCons (eVar 3) aNil))))
    (sSeq (sFor [7] (iRange3 (aCons (eOp gSub (eCall gLen (aCons (eVar 3) aNil)) (eC (.int 1))) (aCons (eNeg (eC (.int 1))) (aCons (eNeg (eC (.int 1))) aNil)))) (gtName 4) (gb_l_tree_2 S))
    (sRet (eOp gIx (eVar 7) (eC (.int 0)))))))))
abbrev s_l_bare : Stmt := top 8
abbrev N_l_bare : List Str := ["_law_tree_here", "_law_many", "_law_branch"]
theorem sc_l_bare : FnScope N_l_bare ["_law_tree_here"] (defScope s_l_bare) := ⟨rfl, rfl, rfl, by decide +kernel, rfl, by decide +kernel, by decide +kernel⟩
abbrev gb_l_bare_1 (S : Nat → List PyData → R PyData) : Vars → Out :=
  (sIf (tOf (eOp gEq (eVar 2) (eTup aNil))) (sSet [] 1 (eOp gAdd (eVar 1) (eC (.int 1)))) (sSet [] 1 (eOp gAdd (eVar 1) (eFn (S 6) (aCons (eVar 2) aNil)))))
def g_l_bare (S : Nat → List PyData → R PyData) : Vars → Out :=
  (sSeq (sSet [] 1 (eC (.int 0)))
    (sSeq (sFor [] (iSeq (eVar 0)) (gtName 2) (gb_l_bare_1 S))
    (sRet (eVar 1))))
abbrev s_l_leads : Stmt := top 9
abbrev N_l_leads : List Str := ["_law_tree_here", "_law_way", "_law_place"]
theorem sc_l_leads : FnScope N_l_leads ["_law_tree_here", "_law_way"] (defScope s_l_leads) := ⟨rfl, rfl, rfl, by decide +kernel, rfl, by decide +kernel, by decide +kernel⟩
abbrev gb_l_leads_1 (S : Nat → List PyData → R PyData) : Vars → Out :=
  (sSeq (sIf (tOrR (tNotR (tTru (eFn (S 2) (aCons (eVar 2) aNil)))) (tOrR (tOf (eOp gLt (eVar 2) (eC (.int 0)))) (tOf (eOp gGe (eVar 2) (eCall gLen (aCons (eVar 0) aNil)))))) (sRet (eC (.bool false))) sNil) (sSet [] 0 (eOp gIx (eVar 0) (eVar 2))))
def g_l_leads (S : Nat → List PyData → R PyData) : Vars → Out :=
  (sSeq (sIf (tOrR (tNotR (tTru (eIsi "tuple" (eVar 1)))) (tOf (eOp gEq (eVar 1) (eTup aNil)))) (sRet (eC (.bool false))) sNil)
    (sSeq (sFor [] (iSeq (eVar 1)) (gtName 2) (gb_l_leads_1 S))
    (sRet (eOp gEq (eVar 0) (eTup aNil)))))
abbrev s_law : Stmt := top 10
abbrev N_law : List Str := ["_law_script", "_law_first", "_law_cells", "_law_tree_here", "_law_many", "_law_k", "_law_told", "_law_found"]
theorem sc_law : FnScope N_law ["_law_script"] (defScope s_law) := ⟨rfl, rfl, rfl, by decide +kernel, rfl, by decide +kernel, by decide +kernel⟩
abbrev gb_law_1 (S : Nat → List PyData → R PyData) : Vars → Out :=
  (sSeq (sSet [] 3 (eTup (aCons (eVar 3) aNil))) (sSet [] 4 (eOp gAdd (eVar 4) (eC (.int 1)))))
abbrev gb_law_2 (S : Nat → List PyData → R PyData) : Vars → Out :=
  (sSeq (sIf (tNotR (tTru (eFn (S 7) (aCons (eVar 3) (aCons (eOp gIx (eVar 6) (eVar 5)) aNil))))) (sRet (eC (.bool false))) sNil) (sIf (tAndR (tOf (eOp gGt (eVar 5) (eC (.int 0)))) (tOf (eOp gGeT (eOp gIx (eVar 6) (eOp gSub (eVar 5) (eC (.int 1)))) (eOp gIx (eVar 6) (eVar 5))))) (sRet (eC (.bool false))) sNil))
def g_law (S : Nat → List PyData → R PyData) : Vars → Out :=
  (sSeq (sSet [] 1 (eFn (S 4) (aCons (eFn (S 3) (aCons (eVar 0) (aCons (eC (.int 0)) aNil))) (aCons (eC (.int 0)) aNil))))
    (sSeq (sSet [] 2 (eSl (eVar 0) (oSome (eC (.int 1))) (oSome (eC (.int 81)))))
    (sSeq (sSet [] 3 (eFn (S 5) (aCons (eVar 2) (aCons (eC (.int 7)) aNil))))
    (sSeq (sSet [] 4 (eOp gAdd (eC (.int 1)) (eCall gLen (aCons (eVar 2) aNil))))
    (sSeq (sIf (tOf (eOp gEq (eOp gMod (eVar 1) (eC (.int 4))) (eC (.int 1)))) (sFor [] (iRange (aCons (eOp gMod (eOp gDiv (eVar 1) (eC (.int 4))) (eC (.int 33))) aNil)) (gtName 5) (gb_law_1 S)) sNil)
    (sSeq (sIf (tOf (eOp gEq (eOp gMod (eVar 1) (eC (.int 4))) (eC (.int 2)))) (sSeq (sSet [] 3 (eOp gAdd (eVar 3) (eOp gRep (eTup (aCons (eTup aNil) aNil)) (eOp gMod (eOp gDiv (eVar 1) (eC (.int 4))) (eC (.int 501)))))) (sSet [] 4 (eOp gAdd (eVar 4) (eOp gMod (eOp gDiv (eVar 1) (eC (.int 4))) (eC (.int 501)))))) sNil)
    (sSeq (sSet [] 6 (eFn (S 1) (aCons (eVar 3) aNil)))
    (sSeq (sIf (tOrR (tNotR (tTru (eIsi "list" (eVar 6)))) (tOf (eOp gNe (eCall gLen (aCons (eVar 6) aNil)) (eFn (S 6) (aCons (eVar 3) aNil))))) (sRet (eC (.bool false))) sNil)
    (sSeq (sFor [] (iRange (aCons (eCall gLen (aCons (eVar 6) aNil)) aNil)) (gtName 5) (gb_law_2 S))
    (sSeq (sSet [] 7 (eFn (S 0) (aCons (eVar 3) aNil)))
    (sRet (eAnd (eFn (S 2) (aCons (eVar 7) aNil)) (eOp gEq (eVar 7) (eVar 4))))))))))))))
section
variable {P : Program} {w : World} {K : PySem.W.Frag} {mg : Str → Option Value} {base : Heap}
theorem b_points {k : Nat} {S : Nat → List PyData → R PyData} {f : Addr} {cdv : Value} {A : Around} {outer : List Env} {s : Shared} {H : Hp} {E : XK} (hr : Room k (A.deeper (envOfC "points" (defScope s_points) s.heap.objs.size f cdv))) (c_points : Cal P w K mg base k "points" 1 (S 0)) :
    BX (cxOf (L2.CX P w) P w K mg base N_points "points" (defScope s_points) f cdv A outer s H E) E [] (defBody s_points) (g_points S) :=
  (BX.cons (own := []) (own' := []) (sx_set (i := 1) sc_points.nd rfl (by first | exact Or.inl rfl | exact Or.inr rfl) ex_int rfl)
    (BX.cons (own := []) (own' := []) (sx_for passD rfl (ix_seq (ex_var 0)) (gx_name (i := 2) sc_points.nd rfl (by first | exact Or.inl rfl | exact Or.inr rfl)) (gtName_in 2) rfl (ssx_one (sx_aug (i := 1) sc_points.nd rfl (by first | exact Or.inl rfl | exact Or.inr rfl) ipx_addI (ex_fn takesD c_points hr rfl (ax_cons (ex_var 2) ax_nil) rfl (hlen := aCons_len (fun _ _ h => aNil_len h))) rfl)))
    (BX.of (own := []) (ssx_one (sx_ret (ex_var 1)))) rfl) rfl)
theorem b_heads {k : Nat} {S : Nat → List PyData → R PyData} {f : Addr} {cdv : Value} {A : Around} {outer : List Env} {s : Shared} {H : Hp} {E : XK} (hr : Room k (A.deeper (envOfC "heads" (defScope s_heads) s.heap.objs.size f cdv))) (c_heads : Cal P w K mg base k "heads" 1 (S 1)) (m_enumerate : mg "enumerate" = none) (m_len : mg "len" = none) :
    BX (cxOf (L2.CX P w) P w K mg base N_heads "heads" (defScope s_heads) f cdv A outer s H E) E [1] (defBody s_heads) (g_heads S) :=
  (BX.cons (own := [1]) (own' := [1]) (sx_new (i := 1) sc_heads.nd rfl (by first | exact Or.inl rfl | exact Or.inr rfl) (nx_lst ax_nil) rfl)
    (BX.cons (own := [1]) (own' := []) (sx_for passD rfl (ix_enum rfl m_enumerate (ex_var 0)) (gx_tup rfl (gsx_cons (gx_name (i := 2) sc_heads.nd rfl (by first | exact Or.inl rfl | exact Or.inr rfl)) (gsx_cons (gx_name (i := 3) sc_heads.nd rfl (by first | exact Or.inl rfl | exact Or.inr rfl)) gsx_nil))) (gtTup_in (gtCons_in (gtName_in 2) (gtCons_in (gtName_in 3) gtNil_in))) rfl (ssx_cons (sx_if (tx_cmp (op_eqD hr.units) op2_eq (ex_callB call_len calld_len rfl m_len (by decide +kernel) (ax_cons (ex_var 3) ax_nil)) ex_int (nomark _)) (ssx_one (sx_appM (i := 1) (ex_tup (ax_cons (ex_var 2) ax_nil)) rfl)) ssx_nil) (ssx_one (sx_for passD rfl (ix_seq (ex_fn takesD c_heads hr rfl (ax_cons (ex_var 3) ax_nil) rfl (hlen := aCons_len (fun _ _ h => aNil_len h)))) (gx_name (i := 4) sc_heads.nd rfl (by first | exact Or.inl rfl | exact Or.inr rfl)) (gtName_in 4) rfl (ssx_one (sx_appM (i := 1) (ex_op opr_add op2_add (ex_tup (ax_cons (ex_var 2) ax_nil)) (ex_var 4)) rfl))))))
    (BX.of (own := []) (ssx_one (sx_ret (ex_var 1)))) rfl) rfl)
theorem b_l_whole {k : Nat} {S : Nat → List PyData → R PyData} {f : Addr} {cdv : Value} {A : Around} {outer : List Env} {s : Shared} {H : Hp} {E : XK} (hr : Room k (A.deeper (envOfC "_law_whole" (defScope s_l_whole) s.heap.objs.size f cdv))) (m_bool : mg "bool" = none) (m_int : mg "int" = none) (m_isinstance : mg "isinstance" = none) :
    BX (cxOf (L2.CX P w) P w K mg base N_l_whole "_law_whole" (defScope s_l_whole) f cdv A outer s H E) E [] (defBody s_l_whole) (g_l_whole S) :=
  (BX.of (own := []) (ssx_one (sx_ret (ex_and (ex_isi kit_int rfl m_isinstance rfl m_int (by decide +kernel) (ex_var 0)) (ex_one (ex_not (ex_isi kit_bool rfl m_isinstance rfl m_bool (by decide +kernel) (ex_var 0))))))))
theorem b_l_cell_at {k : Nat} {S : Nat → List PyData → R PyData} {f : Addr} {cdv : Value} {A : Around} {outer : List Env} {s : Shared} {H : Hp} {E : XK} (hr : Room k (A.deeper (envOfC "_law_cell_at" (defScope s_l_cell_at) s.heap.objs.size f cdv))) (m_len : mg "len" = none) :
    BX (cxOf (L2.CX P w) P w K mg base N_l_cell_at "_law_cell_at" (defScope s_l_cell_at) f cdv A outer s H E) E [] (defBody s_l_cell_at) (g_l_cell_at S) :=
  (BX.cons (own := []) (own' := []) (sx_if (tx_cmp op_lt op2_cmp (ex_var 1) (ex_callB call_len calld_len rfl m_len (by decide +kernel) (ax_cons (ex_var 0) ax_nil)) (nomark _)) (ssx_one (sx_ret (ex_ix ix_seq op2_ix (ex_var 0) (ex_var 1) (fun _ _ => rfl)))) ssx_nil)
    (BX.of (own := []) (ssx_one (sx_ret ex_int))) rfl)
theorem b_l_mix {k : Nat} {S : Nat → List PyData → R PyData} {f : Addr} {cdv : Value} {A : Around} {outer : List Env} {s : Shared} {H : Hp} {E : XK} (hr : Room k (A.deeper (envOfC "_law_mix" (defScope s_l_mix) s.heap.objs.size f cdv)))  :
    BX (cxOf (L2.CX P w) P w K mg base N_l_mix "_law_mix" (defScope s_l_mix) f cdv A outer s H E) E [] (defBody s_l_mix) (g_l_mix S) :=
  (BX.of (own := []) (ssx_one (sx_ret (ex_op op_mod op2_mod (ex_op opr_add op2_add (ex_op opr_add op2_add (ex_op opr_add op2_add (ex_op op_mulX op2_mulX (ex_var 0) ex_int) (ex_op op_mulX op2_mulX (ex_op op_mulX op2_mulX (ex_var 1) (ex_var 1)) ex_int)) (ex_op op_mulX op2_mulX ex_int (ex_var 1))) ex_int) ex_int))))
theorem b_l_tree {k : Nat} {S : Nat → List PyData → R PyData} {f : Addr} {cdv : Value} {A : Around} {outer : List Env} {s : Shared} {H : Hp} {E : XK} (hr : Room k (A.deeper (envOfC "_law_tree" (defScope s_l_tree) s.heap.objs.size f cdv))) (c_l_mix : Cal P w K mg base k "_law_mix" 2 (S 4)) (m_len : mg "len" = none) (m_range : mg "range" = none) (m_tuple : mg "tuple" = none) :
    BX (cxOf (L2.CX P w) P w K mg base N_l_tree "_law_tree" (defScope s_l_tree) f cdv A outer s H E) E [3, 7] (defBody s_l_tree) (g_l_tree S) :=
  (BX.consD (own := [3, 7]) (iu := 2) sc_l_tree.nd rfl (by first | exact Or.inl rfl | exact Or.inr rfl) rfl
    (BDX.cons (dx_new (i := 3) sc_l_tree.nd rfl (by first | exact Or.inl rfl | exact Or.inr rfl) (nx_lst (ax_cons ex_int ax_nil)) rfl)
    (BDX.cons (dx_for passD rfl (ix_range1 rfl m_range (ax_cons (ex_callB call_len calld_len rfl m_len (by decide +kernel) (ax_cons (ex_var 0) ax_nil)) ax_nil) (hl := aCons_len (fun _ _ h => aNil_len h))) (gx_name (i := 4) sc_l_tree.nd rfl (by first | exact Or.inl rfl | exact Or.inr rfl)) (gtName_in 4) rfl (dsx_cons (dx_set (i := 5) sc_l_tree.nd rfl (by first | exact Or.inl rfl | exact Or.inr rfl) (ex_fn takesD c_l_mix hr rfl (ax_cons (ex_ix ix_seq op2_ix (ex_var 0) (ex_var 4) (fun _ _ => rfl)) (ax_cons (ex_var 4) ax_nil)) rfl (hlen := aCons_len (aCons_len (fun _ _ h => aNil_len h)))) rfl) (dsx_cons (dx_set (i := 6) sc_l_tree.nd rfl (by first | exact Or.inl rfl | exact Or.inr rfl) (ex_op op_mod op2_mod (ex_op op_fdivW op2_div (ex_var 5) ex_int) (ex_callB call_len calld_len rfl m_len (by decide +kernel) (ax_cons (ex_var 3) ax_nil))) rfl) (dsx_cons (dx_if (tx_cmp (op_eqD hr.units) op2_eq (ex_op op_mod op2_mod (ex_var 5) ex_int) ex_int (nomark _)) (dsx_one (dx_set (i := 6) sc_l_tree.nd rfl (by first | exact Or.inl rfl | exact Or.inr rfl) (ex_op opr_sub op2_sub (ex_callB call_len calld_len rfl m_len (by decide +kernel) (ax_cons (ex_var 3) ax_nil)) ex_int) rfl)) dsx_nil) (dsx_cons (dx_if (tx_cmp op_ge op2_cmp (ex_ix ix_seq op2_ix (ex_var 3) (ex_var 6) (fun _ _ => rfl)) (ex_var 1) (nomark _)) (dsx_one (dx_set (i := 6) sc_l_tree.nd rfl (by first | exact Or.inl rfl | exact Or.inr rfl) ex_int rfl)) dsx_nil) (dsx_cons (dx_ins (iu := 2) (ex_var 6) (ax_cons (ex_op op_mod op2_mod (ex_op op_fdivW op2_div (ex_var 5) ex_int) (ex_op opr_add op2_add (ex_callB call_len calld_len rfl m_len (by decide +kernel) (ax_cons (ex_ix ix_seq op2_ix (ex_var 2) (ex_var 6) (fun _ _ => rfl)) ax_nil)) ex_int)) (ax_cons (ex_callB call_len calld_len rfl m_len (by decide +kernel) (ax_cons (ex_var 3) ax_nil)) ax_nil)) (fun _ _ => rfl)) (dsx_cons (dx_app (i := 3) (ex_op opr_add op2_add (ex_ix ix_seq op2_ix (ex_var 3) (ex_var 6) (fun _ _ => rfl)) ex_int) rfl) (dsx_one (dx_appN (iu := 2))))))))))
    (BDX.freeze (own := [3, 7]) (iu := 2) (BX.cons (own := [7]) (own' := [7]) (sx_new (i := 7) sc_l_tree.nd rfl (by first | exact Or.inl rfl | exact Or.inr rfl) (nx_rep (ax_cons (ex_tup ax_nil) ax_nil) (ex_callB call_len calld_len rfl m_len (by decide +kernel) (ax_cons (ex_var 3) ax_nil))) rfl)
    (BX.cons (own := [7]) (own' := []) (sx_for passD rfl (ix_range3 rfl m_range (ax_cons (ex_op opr_sub op2_sub (ex_callB call_len calld_len rfl m_len (by decide +kernel) (ax_cons (ex_var 3) ax_nil)) ex_int) (ax_cons (ex_neg ex_int) (ax_cons (ex_neg ex_int) ax_nil))) (hl := aCons_len (aCons_len (aCons_len (fun _ _ h => aNil_len h))))) (gx_name (i := 4) sc_l_tree.nd rfl (by first | exact Or.inl rfl | exact Or.inr rfl)) (gtName_in 4) rfl (ssx_one (sx_put (i := 7) (ex_callT call_tuple_of calld_tuple rfl m_tuple (by decide +kernel) (ax_cons (by exact ex_lc (own := [("_law_j", 8)]) rfl sc_l_tree.nd (ix_seq (ex_ix ix_seq op2_ix (ex_var 2) (ex_var 4) (fun _ _ => rfl))) (blkOk_by (N := N_l_tree) (sc := defScope s_l_tree) (own := [("_law_j", 8)]) (by decide +kernel)) (by exact fun _ _ _ _ _ => (gx_name (i := 8) sc_l_tree.nd rfl (by first | exact Or.inl rfl | exact Or.inr rfl))) (by exact fun _ _ _ _ _ => tsx_nil) (by exact fun _ _ _ _ _ => (ex_ix ix_seq op2_ix (ex_var 7) (ex_var 8) (fun _ _ => rfl))) (by decide)) ax_nil)) (ex_var 4) rfl)))
    (BX.of (own := []) (ssx_one (sx_ret (ex_ix ix_seq op2_ix (ex_var 7) ex_int (fun _ _ => rfl))))) rfl) rfl) rfl))))
theorem b_l_bare {k : Nat} {S : Nat → List PyData → R PyData} {f : Addr} {cdv : Value} {A : Around} {outer : List Env} {s : Shared} {H : Hp} {E : XK} (hr : Room k (A.deeper (envOfC "_law_bare" (defScope s_l_bare) s.heap.objs.size f cdv))) (c_l_bare : Cal P w K mg base k "_law_bare" 1 (S 6)) :
    BX (cxOf (L2.CX P w) P w K mg base N_l_bare "_law_bare" (defScope s_l_bare) f cdv A outer s H E) E [] (defBody s_l_bare) (g_l_bare S) :=
  (BX.cons (own := []) (own' := []) (sx_set (i := 1) sc_l_bare.nd rfl (by first | exact Or.inl rfl | exact Or.inr rfl) ex_int rfl)
    (BX.cons (own := []) (own' := []) (sx_for passD rfl (ix_seq (ex_var 0)) (gx_name (i := 2) sc_l_bare.nd rfl (by first | exact Or.inl rfl | exact Or.inr rfl)) (gtName_in 2) rfl (ssx_one (sx_if (tx_cmp (op_eqD hr.units) op2_eq (ex_var 2) (ex_tup ax_nil) (nomark _)) (ssx_one (sx_set (i := 1) sc_l_bare.nd rfl (by first | exact Or.inl rfl | exact Or.inr rfl) (ex_op opr_add op2_add (ex_var 1) ex_int) rfl)) (ssx_one (sx_set (i := 1) sc_l_bare.nd rfl (by first | exact Or.inl rfl | exact Or.inr rfl) (ex_op opr_add op2_add (ex_var 1) (ex_fn takesD c_l_bare hr rfl (ax_cons (ex_var 2) ax_nil) rfl (hlen := aCons_len (fun _ _ h => aNil_len h)))) rfl)))))
    (BX.of (own := []) (ssx_one (sx_ret (ex_var 1)))) rfl) rfl)
theorem b_l_leads {k : Nat} {S : Nat → List PyData → R PyData} {f : Addr} {cdv : Value} {A : Around} {outer : List Env} {s : Shared} {H : Hp} {E : XK} (hr : Room k (A.deeper (envOfC "_law_leads" (defScope s_l_leads) s.heap.objs.size f cdv))) (c_l_whole : Cal P w K mg base k "_law_whole" 1 (S 2)) (m_isinstance : mg "isinstance" = none) (m_len : mg "len" = none) (m_tuple : mg "tuple" = none) :
    BX (cxOf (L2.CX P w) P w K mg base N_l_leads "_law_leads" (defScope s_l_leads) f cdv A outer s H E) E [] (defBody s_l_leads) (g_l_leads S) :=
  (BX.cons (own := []) (own' := []) (sx_if (WX'.tx (wx_or (tx_not (tx_tru (ex_isi kit_tuple rfl m_isinstance rfl m_tuple (by decide +kernel) (ex_var 1)))) (wx_or1 (tx_cmp (op_eqD hr.units) op2_eq (ex_var 1) (ex_tup ax_nil) (nomark _))))) (ssx_one (sx_ret ex_bl)) ssx_nil)
    (BX.cons (own := []) (own' := []) (sx_for passD rfl (ix_seq (ex_var 1)) (gx_name (i := 2) sc_l_leads.nd rfl (by first | exact Or.inl rfl | exact Or.inr rfl)) (gtName_in 2) rfl (ssx_cons (sx_if (WX'.tx (wx_or (tx_not (tx_tru (ex_fn takesD c_l_whole hr rfl (ax_cons (ex_var 2) ax_nil) rfl (hlen := aCons_len (fun _ _ h => aNil_len h))))) (wx_or (tx_cmp op_lt op2_cmp (ex_var 2) ex_int (nomark _)) (wx_or1 (tx_cmp op_ge op2_cmp (ex_var 2) (ex_callB call_len calld_len rfl m_len (by decide +kernel) (ax_cons (ex_var 0) ax_nil)) (nomark _)))))) (ssx_one (sx_ret ex_bl)) ssx_nil) (ssx_one (sx_set (i := 0) sc_l_leads.nd rfl (by first | exact Or.inl rfl | exact Or.inr rfl) (ex_ix ix_seq op2_ix (ex_var 0) (ex_var 2) (fun _ _ => rfl)) rfl))))
    (BX.of (own := []) (ssx_one (sx_ret (ex_cmp (op_eqD hr.units) op2_eq (ex_var 0) (ex_tup ax_nil) (nomark _))))) rfl) rfl)
theorem b_law {k : Nat} {S : Nat → List PyData → R PyData} {f : Addr} {cdv : Value} {A : Around} {outer : List Env} {s : Shared} {H : Hp} {E : XK} (hr : Room k (A.deeper (envOfC "law" (defScope s_law) s.heap.objs.size f cdv))) (c_l_bare : Cal P w K mg base k "_law_bare" 1 (S 6)) (c_l_cell_at : Cal P w K mg base k "_law_cell_at" 2 (S 3)) (c_l_leads : Cal P w K mg base k "_law_leads" 2 (S 7)) (c_l_mix : Cal P w K mg base k "_law_mix" 2 (S 4)) (c_l_tree : Cal P w K mg base k "_law_tree" 2 (S 5)) (c_l_whole : Cal P w K mg base k "_law_whole" 1 (S 2)) (c_heads : Cal P w K mg base k "heads" 1 (S 1)) (c_points : Cal P w K mg base k "points" 1 (S 0)) (m_isinstance : mg "isinstance" = none) (m_len : mg "len" = none) (m_list : mg "list" = none) (m_range : mg "range" = none) :
    BX (cxOf (L2.CX P w) P w K mg base N_law "law" (defScope s_law) f cdv A outer s H E) E [] (defBody s_law) (g_law S) :=
  (BX.cons (own := []) (own' := []) (sx_set (i := 1) sc_law.nd rfl (by first | exact Or.inl rfl | exact Or.inr rfl) (ex_fn takesD c_l_mix hr rfl (ax_cons (ex_fn takesD c_l_cell_at hr rfl (ax_cons (ex_var 0) (ax_cons ex_int ax_nil)) rfl (hlen := aCons_len (aCons_len (fun _ _ h => aNil_len h)))) (ax_cons ex_int ax_nil)) rfl (hlen := aCons_len (aCons_len (fun _ _ h => aNil_len h)))) rfl)
    (BX.cons (own := []) (own' := []) (sx_set (i := 2) sc_law.nd rfl (by first | exact Or.inl rfl | exact Or.inr rfl) (ex_slice (ex_var 0) (ox_some ex_int) (ox_some ex_int)) rfl)
    (BX.cons (own := []) (own' := []) (sx_set (i := 3) sc_law.nd rfl (by first | exact Or.inl rfl | exact Or.inr rfl) (ex_fn takesD c_l_tree hr rfl (ax_cons (ex_var 2) (ax_cons ex_int ax_nil)) rfl (hlen := aCons_len (aCons_len (fun _ _ h => aNil_len h)))) rfl)
    (BX.cons (own := []) (own' := []) (sx_set (i := 4) sc_law.nd rfl (by first | exact Or.inl rfl | exact Or.inr rfl) (ex_op opr_add op2_add ex_int (ex_callB call_len calld_len rfl m_len (by decide +kernel) (ax_cons (ex_var 2) ax_nil))) rfl)
    (BX.cons (own := []) (own' := []) (sx_if (tx_cmp (op_eqD hr.units) op2_eq (ex_op op_mod op2_mod (ex_var 1) ex_int) ex_int (nomark _)) (ssx_one (sx_for passD rfl (ix_range1 rfl m_range (ax_cons (ex_op op_mod op2_mod (ex_op op_fdivW op2_div (ex_var 1) ex_int) ex_int) ax_nil) (hl := aCons_len (fun _ _ h => aNil_len h))) (gx_name (i := 5) sc_law.nd rfl (by first | exact Or.inl rfl | exact Or.inr rfl)) (gtName_in 5) rfl (ssx_cons (sx_set (i := 3) sc_law.nd rfl (by first | exact Or.inl rfl | exact Or.inr rfl) (ex_tup (ax_cons (ex_var 3) ax_nil)) rfl) (ssx_one (sx_set (i := 4) sc_law.nd rfl (by first | exact Or.inl rfl | exact Or.inr rfl) (ex_op opr_add op2_add (ex_var 4) ex_int) rfl))))) ssx_nil)
    (BX.cons (own := []) (own' := []) (sx_if (tx_cmp (op_eqD hr.units) op2_eq (ex_op op_mod op2_mod (ex_var 1) ex_int) ex_int (nomark _)) (ssx_cons (sx_set (i := 3) sc_law.nd rfl (by first | exact Or.inl rfl | exact Or.inr rfl) (ex_op opr_add op2_add (ex_var 3) (ex_op opr_rep op2_rep (ex_tup (ax_cons (ex_tup ax_nil) ax_nil)) (ex_op op_mod op2_mod (ex_op op_fdivW op2_div (ex_var 1) ex_int) ex_int))) rfl) (ssx_one (sx_set (i := 4) sc_law.nd rfl (by first | exact Or.inl rfl | exact Or.inr rfl) (ex_op opr_add op2_add (ex_var 4) (ex_op op_mod op2_mod (ex_op op_fdivW op2_div (ex_var 1) ex_int) ex_int)) rfl))) ssx_nil)
    (BX.cons (own := []) (own' := []) (sx_set (i := 6) sc_law.nd rfl (by first | exact Or.inl rfl | exact Or.inr rfl) (ex_fn takesD c_heads hr rfl (ax_cons (ex_var 3) ax_nil) rfl (hlen := aCons_len (fun _ _ h => aNil_len h))) rfl)
    (BX.cons (own := []) (own' := []) (sx_if (WX'.tx (wx_or (tx_not (tx_tru (ex_isi kit_list rfl m_isinstance rfl m_list (by decide +kernel) (ex_var 6)))) (wx_or1 (tx_cmp (op_neD hr.units) op2_ne (ex_callB call_len calld_len rfl m_len (by decide +kernel) (ax_cons (ex_var 6) ax_nil)) (ex_fn takesD c_l_bare hr rfl (ax_cons (ex_var 3) ax_nil) rfl (hlen := aCons_len (fun _ _ h => aNil_len h))) (nomark _))))) (ssx_one (sx_ret ex_bl)) ssx_nil)
    (BX.cons (own := []) (own' := []) (sx_for passD rfl (ix_range1 rfl m_range (ax_cons (ex_callB call_len calld_len rfl m_len (by decide +kernel) (ax_cons (ex_var 6) ax_nil)) ax_nil) (hl := aCons_len (fun _ _ h => aNil_len h))) (gx_name (i := 5) sc_law.nd rfl (by first | exact Or.inl rfl | exact Or.inr rfl)) (gtName_in 5) rfl (ssx_cons (sx_if (tx_not (tx_tru (ex_fn takesD c_l_leads hr rfl (ax_cons (ex_var 3) (ax_cons (ex_ix ix_seq op2_ix (ex_var 6) (ex_var 5) (fun _ _ => rfl)) ax_nil)) rfl (hlen := aCons_len (aCons_len (fun _ _ h => aNil_len h)))))) (ssx_one (sx_ret ex_bl)) ssx_nil) (ssx_one (sx_if (WX'.tx (wx_and (tx_cmp op_gt op2_cmp (ex_var 5) ex_int (nomark _)) (wx_and1 (tx_cmp (op_geT hr.units) op2_geT (ex_ix ix_seq op2_ix (ex_var 6) (ex_op opr_sub op2_sub (ex_var 5) ex_int) (fun _ _ => rfl)) (ex_ix ix_seq op2_ix (ex_var 6) (ex_var 5) (fun _ _ => rfl)) (nomark _))))) (ssx_one (sx_ret ex_bl)) ssx_nil))))
    (BX.cons (own := []) (own' := []) (sx_set (i := 7) sc_law.nd rfl (by first | exact Or.inl rfl | exact Or.inr rfl) (ex_fn takesD c_points hr rfl (ax_cons (ex_var 3) ax_nil) rfl (hlen := aCons_len (fun _ _ h => aNil_len h))) rfl)
    (BX.of (own := []) (ssx_one (sx_ret (ex_and (ex_fn takesD c_l_whole hr rfl (ax_cons (ex_var 7) ax_nil) rfl (hlen := aCons_len (fun _ _ h => aNil_len h))) (ex_one (ex_cmp (op_eqD hr.units) op2_eq (ex_var 7) (ex_var 4) (nomark _))))))) rfl) rfl) rfl) rfl) rfl) rfl) rfl) rfl) rfl) rfl)
end
def sem : Nat → Nat → List PyData → R PyData
  | 0 => fun _ _ => .bad
  | k + 1 => fun i ds => match i with
    | 0 => fnD 3 (g_points (sem k)) ds
    | 1 => fnD 5 (g_heads (sem k)) ds
    | 2 => fnD 1 (g_l_whole (sem k)) ds
    | 3 => fnD 2 (g_l_cell_at (sem k)) ds
    | 4 => fnD 2 (g_l_mix (sem k)) ds
    | 5 => fnD 9 (g_l_tree (sem k)) ds
    | 6 => fnD 3 (g_l_bare (sem k)) ds
    | 7 => fnD 3 (g_l_leads (sem k)) ds
    | 8 => fnD 8 (g_law (sem k)) ds
    | _ => .bad
theorem sem_points (k : Nat) (ds : List PyData) : sem (k + 1) 0 ds = fnD 3 (g_points (sem k)) ds := rfl
theorem sem_heads (k : Nat) (ds : List PyData) : sem (k + 1) 1 ds = fnD 5 (g_heads (sem k)) ds := rfl
theorem sem_l_whole (k : Nat) (ds : List PyData) : sem (k + 1) 2 ds = fnD 1 (g_l_whole (sem k)) ds := rfl
theorem sem_l_cell_at (k : Nat) (ds : List PyData) : sem (k + 1) 3 ds = fnD 2 (g_l_cell_at (sem k)) ds := rfl
theorem sem_l_mix (k : Nat) (ds : List PyData) : sem (k + 1) 4 ds = fnD 2 (g_l_mix (sem k)) ds := rfl
theorem sem_l_tree (k : Nat) (ds : List PyData) : sem (k + 1) 5 ds = fnD 9 (g_l_tree (sem k)) ds := rfl
theorem sem_l_bare (k : Nat) (ds : List PyData) : sem (k + 1) 6 ds = fnD 3 (g_l_bare (sem k)) ds := rfl
theorem sem_l_leads (k : Nat) (ds : List PyData) : sem (k + 1) 7 ds = fnD 3 (g_l_leads (sem k)) ds := rfl
theorem sem_law (k : Nat) (ds : List PyData) : sem (k + 1) 8 ds = fnD 8 (g_law (sem k)) ds := rfl
structure Whole (K : PySem.W.Frag) (mg : Str → Option Value) : Prop where
  F_points : ∃ f fd, Fun K "points" "points" s_points f fd ∧ mg "points" = some (.ref f) ∧ Binds K fd ["tree"] []
  F_heads : ∃ f fd, Fun K "heads" "heads" s_heads f fd ∧ mg "heads" = some (.ref f) ∧ Binds K fd ["tree"] []
  F_l_whole : ∃ f fd, Fun K "_law_whole" "_law_whole" s_l_whole f fd ∧ mg "_law_whole" = some (.ref f) ∧ Binds K fd ["_law_found"] []
  F_l_cell_at : ∃ f fd, Fun K "_law_cell_at" "_law_cell_at" s_l_cell_at f fd ∧ mg "_law_cell_at" = some (.ref f) ∧ Binds K fd ["_law_script", "_law_k"] []
  F_l_mix : ∃ f fd, Fun K "_law_mix" "_law_mix" s_l_mix f fd ∧ mg "_law_mix" = some (.ref f) ∧ Binds K fd ["_law_cell", "_law_k"] []
  F_l_tree : ∃ f fd, Fun K "_law_tree" "_law_tree" s_l_tree f fd ∧ mg "_law_tree" = some (.ref f) ∧ Binds K fd ["_law_cells", "_law_most"] []
  F_l_bare : ∃ f fd, Fun K "_law_bare" "_law_bare" s_l_bare f fd ∧ mg "_law_bare" = some (.ref f) ∧ Binds K fd ["_law_tree_here"] []
  F_l_leads : ∃ f fd, Fun K "_law_leads" "_law_leads" s_l_leads f fd ∧ mg "_law_leads" = some (.ref f) ∧ Binds K fd ["_law_tree_here", "_law_way"] []
  m_bool : mg "bool" = none
  m_enumerate : mg "enumerate" = none
  m_int : mg "int" = none
  m_isinstance : mg "isinstance" = none
  m_len : mg "len" = none
  m_list : mg "list" = none
  m_range : mg "range" = none
  m_tuple : mg "tuple" = none
structure Calls (P : Program) (w : World) (K : PySem.W.Frag) (mg : Str → Option Value) (base : Heap) (k : Nat) (S : Nat → List PyData → R PyData) : Prop where
  c_points : Cal P w K mg base k "points" 1 (S 0)
  c_heads : Cal P w K mg base k "heads" 1 (S 1)
  c_l_whole : Cal P w K mg base k "_law_whole" 1 (S 2)
  c_l_cell_at : Cal P w K mg base k "_law_cell_at" 2 (S 3)
  c_l_mix : Cal P w K mg base k "_law_mix" 2 (S 4)
  c_l_tree : Cal P w K mg base k "_law_tree" 2 (S 5)
  c_l_bare : Cal P w K mg base k "_law_bare" 1 (S 6)
  c_l_leads : Cal P w K mg base k "_law_leads" 2 (S 7)
section
variable {P : Program} {w : World} {K : PySem.W.Frag} {mg : Str → Option Value} {base : Heap}
theorem calls (T : Whole K mg) : ∀ k, Calls P w K mg base k (sem k)
  | 0 => {
      c_points := by obtain ⟨f, fd, F, m, b⟩ := T.F_points; exact cal_zero F m b rfl
      c_heads := by obtain ⟨f, fd, F, m, b⟩ := T.F_heads; exact cal_zero F m b rfl
      c_l_whole := by obtain ⟨f, fd, F, m, b⟩ := T.F_l_whole; exact cal_zero F m b rfl
      c_l_cell_at := by obtain ⟨f, fd, F, m, b⟩ := T.F_l_cell_at; exact cal_zero F m b rfl
      c_l_mix := by obtain ⟨f, fd, F, m, b⟩ := T.F_l_mix; exact cal_zero F m b rfl
      c_l_tree := by obtain ⟨f, fd, F, m, b⟩ := T.F_l_tree; exact cal_zero F m b rfl
      c_l_bare := by obtain ⟨f, fd, F, m, b⟩ := T.F_l_bare; exact cal_zero F m b rfl
      c_l_leads := by obtain ⟨f, fd, F, m, b⟩ := T.F_l_leads; exact cal_zero F m b rfl
    }
  | k + 1 => by
    have ih := calls T k
    exact {
      c_points := by obtain ⟨f, fd, F, m, b⟩ := T.F_points; exact cal_data F m b sc_points rfl (by decide) fun cdv A outer s H E hr => b_points (S := sem k) hr (c_points := ih.c_points)
      c_heads := by obtain ⟨f, fd, F, m, b⟩ := T.F_heads; exact cal_data F m b sc_heads rfl (by decide) fun cdv A outer s H E hr => b_heads (S := sem k) hr (c_heads := ih.c_heads) (m_enumerate := T.m_enumerate) (m_len := T.m_len)
      c_l_whole := by obtain ⟨f, fd, F, m, b⟩ := T.F_l_whole; exact cal_data F m b sc_l_whole rfl (by decide) fun cdv A outer s H E hr => b_l_whole (S := sem k) hr (m_bool := T.m_bool) (m_int := T.m_int) (m_isinstance := T.m_isinstance)
      c_l_cell_at := by obtain ⟨f, fd, F, m, b⟩ := T.F_l_cell_at; exact cal_data F m b sc_l_cell_at rfl (by decide) fun cdv A outer s H E hr => b_l_cell_at (S := sem k) hr (m_len := T.m_len)
      c_l_mix := by obtain ⟨f, fd, F, m, b⟩ := T.F_l_mix; exact cal_data F m b sc_l_mix rfl (by decide) fun cdv A outer s H E hr => b_l_mix (S := sem k) hr 
      c_l_tree := by obtain ⟨f, fd, F, m, b⟩ := T.F_l_tree; exact cal_data F m b sc_l_tree rfl (by decide) fun cdv A outer s H E hr => b_l_tree (S := sem k) hr (c_l_mix := ih.c_l_mix) (m_len := T.m_len) (m_range := T.m_range) (m_tuple := T.m_tuple)
      c_l_bare := by obtain ⟨f, fd, F, m, b⟩ := T.F_l_bare; exact cal_data F m b sc_l_bare rfl (by decide) fun cdv A outer s H E hr => b_l_bare (S := sem k) hr (c_l_bare := ih.c_l_bare)
      c_l_leads := by obtain ⟨f, fd, F, m, b⟩ := T.F_l_leads; exact cal_data F m b sc_l_leads rfl (by decide) fun cdv A outer s H E hr => b_l_leads (S := sem k) hr (c_l_whole := ih.c_l_whole) (m_isinstance := T.m_isinstance) (m_len := T.m_len) (m_tuple := T.m_tuple)
    }
theorem law_ok {f : Addr} {fd : FuncData} (T : Whole K mg) (F : Fun K "law" "law" s_law f fd) (hl : ∀ ns : List Int, ns.length ≤ 63 → (∀ z ∈ ns, z.natAbs.log2 ≤ 1048576) → sem 101 8 [.list (ns.map .int)] = .ok (.bool true)) :
    FnOk P w K mg base (L2.CX P w) 101 f fd ["_law_script"] (spLawB K) := by
  have ih : Calls P w K mg base 100 (sem 100) := calls T 100
  exact (fn_data F sc_law rfl (by decide) fun cdv A outer s H E hr => b_law hr (c_l_bare := ih.c_l_bare) (c_l_cell_at := ih.c_l_cell_at) (c_l_leads := ih.c_l_leads) (c_l_mix := ih.c_l_mix) (c_l_tree := ih.c_l_tree) (c_l_whole := ih.c_l_whole) (c_heads := ih.c_heads) (c_points := ih.c_points) (m_isinstance := T.m_isinstance) (m_len := T.m_len) (m_list := T.m_list) (m_range := T.m_range)).imp (law_impB hl)
end
section
variable {l : PySem.W.OpenLaw} {w : World} {K : PySem.W.Frag} {h : Heap} {mg : Str → Option Value}
theorem all_mk (X : K.In h) (G : h.Ns mainGlobals mg) {fa : Addr} (hfa : mg "law" = some (.ref fa))
    {f0 : Addr} {od0 an0 : Option Addr} {sl0 : Array (Option Value)} {oc0 kV0 dc0 pm0 cd0 ct0 : Value}
    (a0 : PySem.W.nsIn K mainGlobals "points" = some (some (.ref f0))) (l0 : K.lookup f0 = some ⟨oc0, od0, .func (PySem.W.fnOf "points" "points" (defArgs s_points) (defBody s_points) (defScope s_points) .none kV0 dc0 pm0 an0 cd0 ct0), sl0⟩) (c0 : PySem.W.codeIn K cd0 "points" = true) (k0 : PySem.W.keepIn K (.ref f0) = true)
    {f1 : Addr} {od1 an1 : Option Addr} {sl1 : Array (Option Value)} {oc1 kV1 dc1 pm1 cd1 ct1 : Value}
    (a1 : PySem.W.nsIn K mainGlobals "heads" = some (some (.ref f1))) (l1 : K.lookup f1 = some ⟨oc1, od1, .func (PySem.W.fnOf "heads" "heads" (defArgs s_heads) (defBody s_heads) (defScope s_heads) .none kV1 dc1 pm1 an1 cd1 ct1), sl1⟩) (c1 : PySem.W.codeIn K cd1 "heads" = true) (k1 : PySem.W.keepIn K (.ref f1) = true)
    {f2 : Addr} {od2 an2 : Option Addr} {sl2 : Array (Option Value)} {oc2 kV2 dc2 pm2 cd2 ct2 : Value}
    (a2 : PySem.W.nsIn K mainGlobals "_law_whole" = some (some (.ref f2))) (l2 : K.lookup f2 = some ⟨oc2, od2, .func (PySem.W.fnOf "_law_whole" "_law_whole" (defArgs s_l_whole) (defBody s_l_whole) (defScope s_l_whole) .none kV2 dc2 pm2 an2 cd2 ct2), sl2⟩) (c2 : PySem.W.codeIn K cd2 "_law_whole" = true) (k2 : PySem.W.keepIn K (.ref f2) = true)
    {f3 : Addr} {od3 an3 : Option Addr} {sl3 : Array (Option Value)} {oc3 kV3 dc3 pm3 cd3 ct3 : Value}
    (a3 : PySem.W.nsIn K mainGlobals "_law_cell_at" = some (some (.ref f3))) (l3 : K.lookup f3 = some ⟨oc3, od3, .func (PySem.W.fnOf "_law_cell_at" "_law_cell_at" (defArgs s_l_cell_at) (defBody s_l_cell_at) (defScope s_l_cell_at) .none kV3 dc3 pm3 an3 cd3 ct3), sl3⟩) (c3 : PySem.W.codeIn K cd3 "_law_cell_at" = true) (k3 : PySem.W.keepIn K (.ref f3) = true)
    {f4 : Addr} {od4 an4 : Option Addr} {sl4 : Array (Option Value)} {oc4 kV4 dc4 pm4 cd4 ct4 : Value}
    (a4 : PySem.W.nsIn K mainGlobals "_law_mix" = some (some (.ref f4))) (l4 : K.lookup f4 = some ⟨oc4, od4, .func (PySem.W.fnOf "_law_mix" "_law_mix" (defArgs s_l_mix) (defBody s_l_mix) (defScope s_l_mix) .none kV4 dc4 pm4 an4 cd4 ct4), sl4⟩) (c4 : PySem.W.codeIn K cd4 "_law_mix" = true) (k4 : PySem.W.keepIn K (.ref f4) = true)
    {f5 : Addr} {od5 an5 : Option Addr} {sl5 : Array (Option Value)} {oc5 kV5 dc5 pm5 cd5 ct5 : Value}
    (a5 : PySem.W.nsIn K mainGlobals "_law_tree" = some (some (.ref f5))) (l5 : K.lookup f5 = some ⟨oc5, od5, .func (PySem.W.fnOf "_law_tree" "_law_tree" (defArgs s_l_tree) (defBody s_l_tree) (defScope s_l_tree) .none kV5 dc5 pm5 an5 cd5 ct5), sl5⟩) (c5 : PySem.W.codeIn K cd5 "_law_tree" = true) (k5 : PySem.W.keepIn K (.ref f5) = true)
    {f6 : Addr} {od6 an6 : Option Addr} {sl6 : Array (Option Value)} {oc6 kV6 dc6 pm6 cd6 ct6 : Value}
    (a6 : PySem.W.nsIn K mainGlobals "_law_bare" = some (some (.ref f6))) (l6 : K.lookup f6 = some ⟨oc6, od6, .func (PySem.W.fnOf "_law_bare" "_law_bare" (defArgs s_l_bare) (defBody s_l_bare) (defScope s_l_bare) .none kV6 dc6 pm6 an6 cd6 ct6), sl6⟩) (c6 : PySem.W.codeIn K cd6 "_law_bare" = true) (k6 : PySem.W.keepIn K (.ref f6) = true)
    {f7 : Addr} {od7 an7 : Option Addr} {sl7 : Array (Option Value)} {oc7 kV7 dc7 pm7 cd7 ct7 : Value}
    (a7 : PySem.W.nsIn K mainGlobals "_law_leads" = some (some (.ref f7))) (l7 : K.lookup f7 = some ⟨oc7, od7, .func (PySem.W.fnOf "_law_leads" "_law_leads" (defArgs s_l_leads) (defBody s_l_leads) (defScope s_l_leads) .none kV7 dc7 pm7 an7 cd7 ct7), sl7⟩) (c7 : PySem.W.codeIn K cd7 "_law_leads" = true) (k7 : PySem.W.keepIn K (.ref f7) = true)
    {f8 : Addr} {od8 an8 : Option Addr} {sl8 : Array (Option Value)} {oc8 kV8 dc8 pm8 cd8 ct8 : Value}
    (a8 : PySem.W.nsIn K mainGlobals "law" = some (some (.ref f8))) (l8 : K.lookup f8 = some ⟨oc8, od8, .func (PySem.W.fnOf "law" "law" (defArgs s_law) (defBody s_law) (defScope s_law) .none kV8 dc8 pm8 an8 cd8 ct8), sl8⟩) (c8 : PySem.W.codeIn K cd8 "law" = true) (k8 : PySem.W.keepIn K (.ref f8) = true)
    (z_bool : PySem.W.nsIn K mainGlobals "bool" = some none)
    (z_enumerate : PySem.W.nsIn K mainGlobals "enumerate" = some none)
    (z_int : PySem.W.nsIn K mainGlobals "int" = some none)
    (z_isinstance : PySem.W.nsIn K mainGlobals "isinstance" = some none)
    (z_len : PySem.W.nsIn K mainGlobals "len" = some none)
    (z_list : PySem.W.nsIn K mainGlobals "list" = some none)
    (z_range : PySem.W.nsIn K mainGlobals "range" = some none)
    (z_tuple : PySem.W.nsIn K mainGlobals "tuple" = some none)
    (hl : ∀ ns : List Int, ns.length ≤ 63 → (∀ z ∈ ns, z.natAbs.log2 ≤ 1048576) → sem 101 8 [.list (ns.map .int)] = .ok (.bool true)) :
    ∃ fd : FuncData, (∀ (s : Shared) (v : Value), BindsTo s fd ⟨[v], []⟩ [("_law_script", v)]) ∧ ∀ base : Heap, K.In base → base.Ns mainGlobals mg → FnOk l.prog w K mg base (L2.CX l.prog w) 101 fa fd ["_law_script"] (spLawB K) := by
  have e := hfa.symm.trans (PySem.W.mg_of X G a8)
  cases e
  have T : Whole K mg := {
    F_points := ⟨f0, _, fun_mk (st := s_points) l0 c0 k0, PySem.W.mg_of X G a0, (fun_mk (st := s_points) l0 c0 k0).binds fun _ _ _ _ _ _ us hl => match us, hl with | [_], _ => rfl⟩
    F_heads := ⟨f1, _, fun_mk (st := s_heads) l1 c1 k1, PySem.W.mg_of X G a1, (fun_mk (st := s_heads) l1 c1 k1).binds fun _ _ _ _ _ _ us hl => match us, hl with | [_], _ => rfl⟩
    F_l_whole := ⟨f2, _, fun_mk (st := s_l_whole) l2 c2 k2, PySem.W.mg_of X G a2, (fun_mk (st := s_l_whole) l2 c2 k2).binds fun _ _ _ _ _ _ us hl => match us, hl with | [_], _ => rfl⟩
    F_l_cell_at := ⟨f3, _, fun_mk (st := s_l_cell_at) l3 c3 k3, PySem.W.mg_of X G a3, (fun_mk (st := s_l_cell_at) l3 c3 k3).binds fun _ _ _ _ _ _ us hl => match us, hl with | [_, _], _ => rfl⟩
    F_l_mix := ⟨f4, _, fun_mk (st := s_l_mix) l4 c4 k4, PySem.W.mg_of X G a4, (fun_mk (st := s_l_mix) l4 c4 k4).binds fun _ _ _ _ _ _ us hl => match us, hl with | [_, _], _ => rfl⟩
    F_l_tree := ⟨f5, _, fun_mk (st := s_l_tree) l5 c5 k5, PySem.W.mg_of X G a5, (fun_mk (st := s_l_tree) l5 c5 k5).binds fun _ _ _ _ _ _ us hl => match us, hl with | [_, _], _ => rfl⟩
    F_l_bare := ⟨f6, _, fun_mk (st := s_l_bare) l6 c6 k6, PySem.W.mg_of X G a6, (fun_mk (st := s_l_bare) l6 c6 k6).binds fun _ _ _ _ _ _ us hl => match us, hl with | [_], _ => rfl⟩
    F_l_leads := ⟨f7, _, fun_mk (st := s_l_leads) l7 c7 k7, PySem.W.mg_of X G a7, (fun_mk (st := s_l_leads) l7 c7 k7).binds fun _ _ _ _ _ _ us hl => match us, hl with | [_, _], _ => rfl⟩
    m_bool := PySem.W.mg_none_of X G z_bool
    m_enumerate := PySem.W.mg_none_of X G z_enumerate
    m_int := PySem.W.mg_none_of X G z_int
    m_isinstance := PySem.W.mg_none_of X G z_isinstance
    m_len := PySem.W.mg_none_of X G z_len
    m_list := PySem.W.mg_none_of X G z_list
    m_range := PySem.W.mg_none_of X G z_range
    m_tuple := PySem.W.mg_none_of X G z_tuple
  }
  exact ⟨_, fun s v => .of_eq rfl, fun base _ _ => law_ok T (fun_mk (st := s_law) l8 c8 k8) hl⟩
end
end Lk42
set_option Elab.async false
set_option linter.all false
set_option maxRecDepth 100000
set_option maxHeartbeats 4000000
set_option exponentiation.threshold 20
namespace Lk42
open PySem PySem.Spec L2 Pu Nm O
theorem cel (k : Nat) : CellB (sem (k + 1) 3) := cell_b_step (sem k)
theorem mix (k : Nat) : MxOk (sem (k + 1) 4) := l_mix_step (sem k)
theorem tre (k : Nat) : TreeOk (sem (k + 2) 5) := l_tree_step (S := sem (k + 1)) (c0 := 4) (mix k)
theorem pts : ∀ k, PtsOk k (sem k 0)
  | 0 => fun _ h => absurd h (Nat.not_lt_zero _)
  | k + 1 => points_step (S := sem k) (c0 := 0) (pts k)
/-! ### heads -/
/-- the ways of all heads, from place i on -/
def hds : Nat → T → List (List Nat)
  | _, .z => []
  | i, .c b r => (if b = .z then [[i]] else (hds 0 b).map (i :: ·)) ++ hds (i + 1) r
def bare : T → Nat
  | .z => 0
  | .c b r => (if b = .z then 1 else bare b) + bare r
theorem hds_len : ∀ (i : Nat) (t : T), (hds i t).length = bare t
  | _, .z => rfl
  | i, .c b r => by
    have h1 := hds_len 0 b
    have h2 := hds_len (i + 1) r
    rw [hds, bare, List.length_append, h2]
    by_cases q : b = .z
    · rw [if_pos q, if_pos q]; rfl
    · rw [if_neg q, if_neg q, List.length_map, h1]
theorem bare_lt : ∀ t : T, bare t < t.pts
  | .z => by decide
  | .c b r => by
    have h1 := bare_lt b
    have h2 := bare_lt r
    have h3 := T.pts_pos b
    show (if b = T.z then 1 else bare b) + bare r < b.pts + r.pts
    split <;> omega
theorem hds_short : ∀ (i : Nat) (t : T) (w : List Nat), w ∈ hds i t → w.length ≤ t.dp
  | _, .z, _, h => by cases h
  | i, .c b r, w, h => by
    rw [hds, List.mem_append] at h
    show w.length ≤ max (b.dp + 1) r.dp
    rcases h with h | h
    · by_cases q : b = .z
      · rw [if_pos q] at h
        rw [List.mem_singleton.mp h]
        show 1 ≤ _
        omega
      · rw [if_neg q] at h
        obtain ⟨v, hv, rfl⟩ := List.mem_map.mp h
        have := hds_short 0 b v hv
        show v.length + 1 ≤ _
        omega
    · have := hds_short (i + 1) r w h
      omega
/-- each leads to a point without branches -/
theorem hds_sub : ∀ (i : Nat) (t : T) (w : List Nat), w ∈ hds i t → ∃ j v, w = (i + j) :: v ∧ sub t (j :: v) = some .z
  | _, .z, _, h => by cases h
  | i, .c b r, w, h => by
    rw [hds, List.mem_append] at h
    rcases h with h | h
    · by_cases q : b = .z
      · rw [if_pos q] at h
        subst q
        refine ⟨0, [], List.mem_singleton.mp h, ?_⟩
        rfl
      · rw [if_neg q] at h
        obtain ⟨v, hv, rfl⟩ := List.mem_map.mp h
        obtain ⟨j, u, e, hs⟩ := hds_sub 0 b v hv
        rw [Nat.zero_add] at e
        subst e
        refine ⟨0, j :: u, rfl, ?_⟩
        rw [sub_cons (b := b) (by rfl)]
        exact hs
    · obtain ⟨j, v, e, hs⟩ := hds_sub (i + 1) r w h
      refine ⟨j + 1, v, by rw [e, show i + 1 + j = i + (j + 1) by omega], ?_⟩
      obtain ⟨d, h1, h2⟩ := sub_cons_some hs
      rw [sub_cons (b := d) (by show (b :: r.L)[j + 1]? = some d; rw [List.getElem?_cons_succ]; exact h1)]
      exact h2
theorem hds_lead {t : T} {w : List Nat} (h : w ∈ hds 0 t) : w ≠ [] ∧ sub t w = some .z := by
  obtain ⟨j, v, e, hs⟩ := hds_sub 0 t w h
  rw [Nat.zero_add] at e
  subst e
  exact ⟨by simp, hs⟩
/-- the one above the other -/
def Up (a b : List Nat) : Prop := lexGeI (a.map fun n : Nat => (n : Int)) (b.map fun n : Nat => (n : Int)) = false
theorem up_cons {i : Nat} {a b : List Nat} (h : Up a b) : Up (i :: a) (i :: b) := by
  unfold Up at *
  rw [List.map_cons, List.map_cons, lexGeI, if_pos rfl]; exact h
theorem up_lt {i j : Nat} {a b : List Nat} (h : i < j) : Up (i :: a) (j :: b) := by
  unfold Up
  rw [List.map_cons, List.map_cons, lexGeI, if_neg (by omega)]
  exact decide_eq_false (by omega)
theorem hds_up : ∀ (i : Nat) (t : T), (hds i t).Pairwise Up
  | _, .z => .nil
  | i, .c b r => by
    rw [hds, List.pairwise_append]
    refine ⟨?_, hds_up (i + 1) r, fun x hx y hy => ?_⟩
    · by_cases q : b = .z
      · rw [if_pos q]; exact List.pairwise_singleton _ _
      · rw [if_neg q, List.pairwise_map]
        exact (hds_up 0 b).imp fun h => up_cons h
    · obtain ⟨j, v, e, _⟩ := hds_sub (i + 1) r y hy
      have ex : ∃ u, x = i :: u := by
        by_cases q : b = .z
        · rw [if_pos q] at hx; exact ⟨[], List.mem_singleton.mp hx⟩
        · rw [if_neg q] at hx
          obtain ⟨v, _, rfl⟩ := List.mem_map.mp hx
          exact ⟨v, rfl⟩
      obtain ⟨u, rfl⟩ := ex
      rw [e]
      exact up_lt (by omega)
abbrev wD (w : List Nat) : PyData := .tuple (w.map Dn)
def HdsOk (k : Nat) (F : Fn) : Prop := ∀ t : T, t.dp < k → t.dp ≤ 63 → t.pts ≤ 2000 → F [ten t] = .ok (.list ((hds 0 t).map wD))
theorem in_loop {S : Nat → Fn} {D B : PyData} {i : Nat} : ∀ (ws : List (List Nat)) (acc : List PyData) (x : Option PyData), acc.length + ws.length ≤ 5000 → (∀ w ∈ ws, w.length ≤ 100) →
    ∃ x', forL (gtName 4) (gb_heads_1 S) (ws.map wD) [some D, some (.list acc), some (Dn i), some B, x] = .nx [some D, some (.list (acc ++ (ws.map (i :: ·)).map wD)), some (Dn i), some B, x']
  | [], acc, x, _, _ => ⟨x, by simp⟩
  | w :: ws, acc, x, h, hw => by
    have l1 : acc.length < sizeLine := sz1000' (by rw [List.length_cons] at h; omega)
    have hl := hw w (by simp)
    have l2 : 1 + w.length ≤ sizeLine := sz1000 (by omega)
    obtain ⟨x', e⟩ := in_loop (S := S) (D := D) (B := B) (i := i) ws (acc ++ [wD (i :: w)]) (some (wD w)) (by simp at h ⊢; omega) fun w h => hw w (by simp [h])
    refine ⟨x', ?_⟩
    rw [List.map_cons, u_forL_c]
    have : (gb_heads_1 S) [some D, some (.list acc), some (Dn i), some B, some (wD w)] = .nx [some D, some (.list (acc ++ [wD (i :: w)])), some (Dn i), some B, some (wD w)] := by
      simp [mask, l1, l2]
    simp only [u_gtName, List.set_cons_succ, List.set_cons_zero, this, e]
    simp
theorem out_loop {S : Nat → Fn} {k : Nat} (hk : HdsOk k (S 1)) {D : PyData} : ∀ (r : T) (i : Nat) (acc : List PyData) (x y z : Option PyData), r.dp ≤ k → r.dp ≤ 63 → r.pts ≤ 2000 → acc.length + (hds i r).length ≤ 2000 →
    ∃ x' y' z', forL (gtTup 2 (gtCons (gtName 2) (gtCons (gtName 3) gtNil))) (gb_heads_2 S) (enumD i (tenL r)) [some D, some (.list acc), x, y, z] = .nx [some D, some (.list (acc ++ (hds i r).map wD)), x', y', z']
  | .z, i, acc, x, y, v, _, _, _, _ => ⟨x, y, v, by simp [enumD, hds]⟩
  | .c b r, i, acc, x, y, v, h1, h2, h3, h4 => by
    have d1 : b.dp + 1 ≤ k ∧ r.dp ≤ k ∧ b.dp + 1 ≤ 63 ∧ r.dp ≤ 63 := by
      have a : max (b.dp + 1) r.dp ≤ k := h1
      have b : max (b.dp + 1) r.dp ≤ 63 := h2
      omega
    have d2 : b.pts + r.pts ≤ 2000 := h3
    have pb := T.pts_pos b
    have pr := T.pts_pos r
    have eb := hk b (by omega) (by omega) (by omega)
    have l1 : acc.length < sizeLine := sz1000' (by omega)
    have len : (hds i (.c b r)).length = (if b = .z then 1 else (hds 0 b).length) + (hds (i + 1) r).length := by
      rw [hds_len, hds_len, hds_len, bare]
    rw [len] at h4
    have ll := T.ln_lt b
    have lb : ((tenL b).length : Int) = 0 ↔ b = .z := by
      rw [tenL_len]
      cases b with
      | z => simp [T.L]
      | c b' r' => simp [T.L]; omega
    by_cases q : b = .z
    · subst q
      rw [if_pos rfl] at h4
      obtain ⟨x', y', z', e⟩ := out_loop hk (D := D) r (i + 1) (acc ++ [wD [i]]) (some (Dn i)) (some (ten .z)) v d1.2.1 d1.2.2.2 (by omega) (by simp; omega)
      refine ⟨x', y', z', ?_⟩
      rw [tenL_c, enumD, u_forL_c]
      have eb' : S 1 [ten .z] = .ok (.list []) := eb
      have : (gb_heads_2 S) [some D, some (.list acc), some (Dn i), some (ten .z), v] = .nx [some D, some (.list (acc ++ [wD [i]])), some (Dn i), some (ten .z), v] := by
        simp [mask, l1, eb']
      simp only [u_gtTup, List.length_cons, List.length_nil, if_true, u_gtCons, u_gtName, u_gtNil, Option.bind_some, List.set_cons_succ, List.set_cons_zero, this, e]
      simp [hds]
    · rw [if_neg q] at h4
      obtain ⟨w', e1⟩ := in_loop (S := S) (D := D) (B := ten b) (i := i) (hds 0 b) acc v (by omega) fun w hw => by
        have := hds_short 0 b w hw
        omega
      obtain ⟨x', y', z', e⟩ := out_loop hk (D := D) r (i + 1) (acc ++ ((hds 0 b).map (i :: ·)).map wD) (some (Dn i)) (some (ten b)) w' d1.2.1 d1.2.2.2 (by omega) (by simp; omega)
      refine ⟨x', y', z', ?_⟩
      rw [tenL_c, enumD, u_forL_c]
      have nb : ¬ (((tenL b).length : Int) = 0) := fun z => q (lb.mp z)
      have nb' : ¬ b.L = [] := fun z => q (nil_iff.mpr z)
      have : (gb_heads_2 S) [some D, some (.list acc), some (Dn i), some (ten b), v] = .nx [some D, some (.list (acc ++ ((hds 0 b).map (i :: ·)).map wD)), some (Dn i), some (ten b), w'] := by
        unfold gb_heads_2
        rw [u_sSeq]
        have c1 : (sIf (tOf (eOp gEq (eCall gLen (aCons (eVar 3) aNil)) (eC (.int 0)))) (sAppM [1] 1 (eTup (aCons (eVar 2) aNil))) sNil) [some D, some (.list acc), some (Dn i), some (ten b), v] = .nx [some D, some (.list acc), some (Dn i), some (ten b), v] := by
          simp [nb']
        rw [c1, Out.then_nx, u_sFor]
        have c2 : (iSeq (eFn (S 1) (aCons (eVar 3) aNil))) (mask [1] [some D, some (.list acc), some (Dn i), some (ten b), v]) = .ok ((hds 0 b).map wD) := by
          simp [mask, eb]
        rw [c2, R.run_ok, e1]
      simp only [u_gtTup, List.length_cons, List.length_nil, if_true, u_gtCons, u_gtName, u_gtNil, Option.bind_some, List.set_cons_succ, List.set_cons_zero, this, e]
      simp [hds, q]
theorem heads_step {S : Nat → Fn} {k : Nat} (hk : HdsOk k (S 1)) : HdsOk (k + 1) (fun ds => fnD 5 (g_heads S) ds) := by
  intro t h1 h2 h3
  refine fnD_of ?_
  have hl := bare_lt t
  obtain ⟨x, y, z, e⟩ := out_loop hk (D := ten t) t 0 [] none none none (by omega) h2 h3 (by rw [hds_len]; simp; omega)
  unfold g_heads
  have s1 : (sSet [] 1 (eC (.int 1))) = (sSet [] 1 (eC (.int 1))) := rfl
  rw [u_sSeq]
  have e1 : (sNew [1] 1 (nLst aNil)) (List.map some [ten t] ++ List.replicate (5 - [ten t].length) none) = .nx [some (ten t), some (.list []), none, none, none] := by simp [mask]
  rw [e1, Out.then_nx, u_sSeq, u_sFor]
  have e2 : (iEnumD (eVar 0)) (mask [1] [some (ten t), some (.list []), none, none, none]) = .ok (enumD 0 (tenL t)) := by simp [mask]
  rw [e2, R.run_ok, e, Out.then_nx]
  simp
theorem hea : ∀ k, HdsOk k (sem k 1)
  | 0 => fun _ h => absurd h (Nat.not_lt_zero _)
  | k + 1 => heads_step (S := sem k) (hea k)
/-! ### counted -/
def BareOk (k : Nat) (F : Fn) : Prop := ∀ t : T, t.dp < k → t.dp ≤ 63 → F [ten t] = .ok (.int (bare t : Nat))
theorem bare_loop {S : Nat → Fn} {k : Nat} (hk : BareOk k (S 6)) {D : PyData} : ∀ (r : T) (n : Nat) (x : Option PyData), r.dp ≤ k → r.dp ≤ 63 →
    ∃ x', forL (gtName 2) (gb_l_bare_1 S) (tenL r) [some D, some (.int (n : Nat)), x] = .nx [some D, some (.int ((n + bare r : Nat) : Int)), x']
  | .z, n, x, _, _ => ⟨x, by simp [bare]⟩
  | .c b r, n, x, h1, h2 => by
    have d1 : b.dp + 1 ≤ k ∧ r.dp ≤ k ∧ b.dp + 1 ≤ 63 ∧ r.dp ≤ 63 := by
      have a : max (b.dp + 1) r.dp ≤ k := h1
      have b : max (b.dp + 1) r.dp ≤ 63 := h2
      omega
    have eb := hk b (by omega) (by omega)
    have q0 := gEq_tnil (t := b) (by omega)
    obtain ⟨x', e⟩ := bare_loop hk (D := D) r (n + (if b = .z then 1 else bare b)) (some (ten b)) d1.2.1 d1.2.2.2
    refine ⟨x', ?_⟩
    rw [tenL_c, u_forL_c]
    have : (gb_l_bare_1 S) [some D, some (.int (n : Nat)), some (ten b)] = .nx [some D, some (.int ((n + (if b = .z then 1 else bare b) : Nat) : Int)), some (ten b)] := by
      by_cases q : b = .z
      · rw [decide_eq_true q] at q0
        simp only [if_pos q]
        simp [q0]
      · rw [decide_eq_false q] at q0
        simp only [if_neg q]
        simp [q0, eb]
    simp only [u_gtName, List.set_cons_succ, List.set_cons_zero, this, e]
    rw [bare, Nat.add_assoc]
theorem bare_step {S : Nat → Fn} {k : Nat} (hk : BareOk k (S 6)) : BareOk (k + 1) (fun ds => fnD 3 (g_l_bare S) ds) := by
  intro t h1 h2
  refine fnD_of ?_
  obtain ⟨x, e⟩ := bare_loop hk (D := ten t) t 0 none (by omega) h2
  rw [Nat.zero_add] at e
  unfold g_l_bare
  rw [u_sSeq]
  have e1 : (sSet [] 1 (eC (.int 0))) (List.map some [ten t] ++ List.replicate (3 - [ten t].length) none) = .nx [some (ten t), some (.int ((0 : Nat) : Int)), none] := by simp
  rw [e1, Out.then_nx, u_sSeq, u_sFor]
  have e2 : (iSeq (eVar 0)) (mask [] [some (ten t), some (.int ((0 : Nat) : Int)), none]) = .ok (tenL t) := by simp
  rw [e2, R.run_ok, e, Out.then_nx]
  simp
theorem bar : ∀ k, BareOk k (sem k 6)
  | 0 => fun _ h => absurd h (Nat.not_lt_zero _)
  | k + 1 => bare_step (S := sem k) (bar k)
/-! ### leads -/
def LeadOk (F : Fn) : Prop := ∀ (t : T) (w : List Nat), w ≠ [] → sub t w = some .z → F [ten t, wD w] = .ok (.bool true)
theorem who (k : Nat) (i : Int) : sem (k + 1) 2 [.int i] = .ok (.bool true) := by
  rw [sem_l_whole]
  refine fnD_of ?_
  unfold g_l_whole
  simp [isiB]
theorem lead_loop {S : Nat → Fn} (hw : ∀ i : Int, S 2 [.int i] = .ok (.bool true)) {W : PyData} : ∀ (w : List Nat) (t s : T) (x : Option PyData), sub t w = some s →
    ∃ x', forL (gtName 2) (gb_l_leads_1 S) (w.map Dn) [some (ten t), some W, x] = .nx [some (ten s), some W, x']
  | [], t, s, x, h => by rw [sub] at h; cases h; exact ⟨x, rfl⟩
  | i :: w, t, s, x, h => by
    obtain ⟨b, h1, h2⟩ := sub_cons_some h
    have hl : i < t.L.length := (List.getElem?_eq_some_iff.mp h1).1
    have eb : t.L[i] = b := (List.getElem?_eq_some_iff.mp h1).2
    have ea : atI (tenL t) (i : Int) = some (ten b) := by rw [atI_ten hl, eb]
    obtain ⟨x', e⟩ := lead_loop hw (W := W) w b s (some (Dn i)) h2
    refine ⟨x', ?_⟩
    rw [List.map_cons, u_forL_c]
    have : (gb_l_leads_1 S) [some (ten t), some W, some (Dn i)] = .nx [some (ten b), some W, some (Dn i)] := by
      have c1 : ¬ ((i : Int) < 0) := by omega
      have c2 : ¬ (t.L.length ≤ i) := by omega
      simp [hw, ea, c1, c2]
    simp only [u_gtName, List.set_cons_succ, List.set_cons_zero, this, e]
theorem wD_lay : ∀ w : List Nat, PyData.canLayAll0 (w.map Dn) = true
  | [] => rfl
  | i :: w => by rw [List.map_cons, PyData.canLayAll0, wD_lay w]; rfl
theorem wD_depth : ∀ w : List Nat, PyData.depthAll (w.map Dn) ≤ 1
  | [] => by simp [PyData.depthAll]
  | i :: w => by
    have := wD_depth w
    simp only [List.map_cons, PyData.depthAll, PyData.depth]
    omega
theorem lead_step {S : Nat → Fn} (hw : ∀ i : Int, S 2 [.int i] = .ok (.bool true)) : LeadOk (fun ds => fnD 3 (g_l_leads S) ds) := by
  intro t w h0 h
  refine fnD_of ?_
  obtain ⟨x', e⟩ := lead_loop hw (W := wD w) w t .z none h
  have wn : gEq (.tuple (w.map Dn)) (.tuple []) = some (.bool false) := by
    cases w with
    | nil => exact absurd rfl h0
    | cons i w =>
      have a := wD_depth (i :: w)
      have s1 : SeqAt.shaped (.tuple ((i :: w).map Dn)) = true := by
        unfold SeqAt.shaped
        rw [PyData.canLay0, wD_lay, Bool.true_and]
        refine decide_eq_true ?_
        rw [PyData.depth]
        omega
      unfold gEq
      rw [s1, show SeqAt.shaped (.tuple []) = true from ten_shaped (t := .z) (by decide)]
      simp [PyData.eqv, PyData.eqvAll]
  have q0 : gEq (.tuple []) (.tuple []) = some (.bool true) := gEq_tnil (t := .z) (by decide)
  have e' : forL (gtName 2) (gb_l_leads_1 S) (w.map Dn) [some (ten t), some (wD w), none] = .nx [some (.tuple []), some (wD w), x'] := e
  unfold g_l_leads
  simp [wn, e', q0, isiB]
theorem lea (k : Nat) : LeadOk (sem (k + 2) 7) := lead_step (S := sem (k + 1)) (who k)
/-! ### the law -/
theorem chain_fold : ∀ (n : Nat) (t : T), ∃ u : T, u.pts = t.pts + n ∧ u.dp = t.dp + n ∧ ∀ {S : Nat → Fn} {A B C F G : Option PyData} (m : Nat) (ds : List PyData), ds.length = n → ∀ x : Option PyData,
    ∃ x', forL (gtName 5) (gb_law_1 S) ds [A, B, C, some (ten t), some (.int (m : Nat)), x, F, G] = .nx [A, B, C, some (ten u), some (.int ((m + n : Nat) : Int)), x', F, G]
  | 0, t => ⟨t, rfl, rfl, fun m ds h x => by
      cases List.eq_nil_of_length_eq_zero h
      exact ⟨x, rfl⟩⟩
  | n + 1, t => by
    obtain ⟨u, h1, h2, h3⟩ := chain_fold n (.c t .z)
    refine ⟨u, by rw [h1]; show t.pts + 1 + n = _; omega, by rw [h2]; show max (t.dp + 1) 0 + n = _; omega, fun {S A B C F G} m ds h x => ?_⟩
    cases ds with
    | nil => cases h
    | cons d ds =>
      obtain ⟨x', e⟩ := h3 (S := S) (A := A) (B := B) (C := C) (F := F) (G := G) (m + 1) ds (by simpa using h) (some d)
      refine ⟨x', ?_⟩
      rw [u_forL_c]
      have : (gb_law_1 S) [A, B, C, some (ten t), some (.int (m : Nat)), some d, F, G] = .nx [A, B, C, some (ten (.c t .z)), some (.int ((m + 1 : Nat) : Int)), some d, F, G] := by
        simp
      simp only [u_gtName, List.set_cons_succ, List.set_cons_zero, this, e]
      rw [show m + 1 + n = m + (n + 1) by omega]
theorem ups_get {l : List (List Nat)} (h : l.Pairwise Up) {k : Nat} {a b : List Nat} (ha : l[k]? = some a) (hb : l[k + 1]? = some b) : Up a b := by
  obtain ⟨h1, e1⟩ := List.getElem?_eq_some_iff.mp ha
  obtain ⟨h2, e2⟩ := List.getElem?_eq_some_iff.mp hb
  have := List.pairwise_iff_getElem.mp h k (k + 1) h1 h2 (by omega)
  rwa [e1, e2] at this
theorem wD_ge (a b : List Nat) : gGeT (wD a) (wD b) = some (.bool (lexGeI (a.map fun n : Nat => (n : Int)) (b.map fun n : Nat => (n : Int)))) := by
  have := u_gGeT (a.map fun n : Nat => (n : Int)) (b.map fun n : Nat => (n : Int))
  rw [List.map_map, List.map_map] at this
  exact this
theorem law_loop {S : Nat → Fn} (hl : LeadOk (S 7)) {t : T} {A B C D G : Option PyData} {x : Option PyData} : ∃ x', forL (gtName 5) (gb_law_2 S) (rngD 0 (hds 0 t).length) [A, B, C, some (ten t), D, x, some (.list ((hds 0 t).map wD)), G] = .nx [A, B, C, some (ten t), D, x', some (.list ((hds 0 t).map wD)), G] := by
  have up := hds_up 0 t
  have ld : ∀ w ∈ hds 0 t, w ≠ [] ∧ sub t w = some .z := fun w h => hds_lead h
  generalize hds 0 t = l at *
  obtain ⟨ρ', e, x', rfl⟩ := forL_rng (n := l.length) (i := 5) (g := gb_law_2 S) (fun _ ρ => ∃ x', ρ = [A, B, C, some (ten t), D, x', some (.list (l.map wD)), G]) [A, B, C, some (ten t), D, x, some (.list (l.map wD)), G] ⟨x, rfl⟩ fun j ρ hj ⟨x', h⟩ => by
    subst h
    refine ⟨_, .inl ?_, some (.int (j : Nat)), rfl⟩
    have hg : l[j]? = some l[j] := List.getElem?_eq_getElem hj
    have a1 : atI (l.map wD) (j : Int) = some (wD l[j]) := L2.atI_nat (by rw [List.getElem?_map, hg]; rfl)
    obtain ⟨n1, n2⟩ := ld l[j] (List.getElem_mem hj)
    have e1 : S 7 [ten t, wD l[j]] = .ok (.bool true) := hl t l[j] n1 n2
    simp only [List.set_cons_succ, List.set_cons_zero]
    by_cases c : j = 0
    · subst c
      have a1' : atI (l.map wD) 0 = some (wD l[0]) := a1
      simp [a1', e1]
    · obtain ⟨i, rfl⟩ : ∃ i, j = i + 1 := ⟨j - 1, by omega⟩
      have hi : i < l.length := by omega
      have gi : l[i]? = some l[i] := List.getElem?_eq_getElem hi
      have a0 : atI (l.map wD) (((i + 1 : Nat) : Int) - 1) = some (wD l[i]) := by
        rw [show ((i + 1 : Nat) : Int) - 1 = ((i : Nat) : Int) by omega]
        exact L2.atI_nat (by rw [List.getElem?_map, gi]; rfl)
      have u : Up l[i] l[i + 1] := ups_get up gi hg
      have g := wD_ge l[i] l[i + 1]
      rw [show lexGeI _ _ = false from u] at g
      have c' : ((0 : Int) < ((i + 1 : Nat) : Int)) := by omega
      unfold gb_law_2
      rw [u_sSeq]
      have s1 : (sIf (tNotR (tTru (eFn (S 7) (aCons (eVar 3) (aCons (eOp gIx (eVar 6) (eVar 5)) aNil))))) (sRet (eC (.bool false))) sNil) [A, B, C, some (ten t), D, some (.int ((i + 1 : Nat) : Int)), some (.list (l.map wD)), G] = .nx [A, B, C, some (ten t), D, some (.int ((i + 1 : Nat) : Int)), some (.list (l.map wD)), G] := by
        generalize ((i + 1 : Nat) : Int) = z at *
        simp [a1, e1]
      rw [s1, Out.then_nx]
      generalize ((i + 1 : Nat) : Int) = z at *
      simp [a1, a0, g, c']
  exact ⟨x', e⟩
theorem law_true : ∀ ns : List Int, ns.length ≤ 63 → (∀ z ∈ ns, z.natAbs.log2 ≤ 1048576) → sem 101 8 [.list (ns.map .int)] = .ok (.bool true) := by
  intro ns hn hB
  rw [sem_law]
  refine fnD_of ?_
  obtain ⟨cs, ec, lc, mc⟩ := cut_ints ns 1 81
  obtain ⟨t0, et, p0, d0⟩ := tre 98 cs 7 (fun z hz => hB z (mc z hz)) (by omega) (by decide) (by decide)
  obtain ⟨v0, ev0, bv0⟩ := cel 99 ns 0 hB (by decide)
  obtain ⟨x, ex, x0, x1⟩ := mix 99 v0 0 bv0 (by decide) (by decide)
  have m4 : cMod x 4 = true := cMod_of (by decide)
  have d4 : cDiv x 4 = true := cDiv_of 20 (by omega) (by decide) (by decide) (by decide)
  have m33 : cMod (x / 4) 33 = true := cMod_of (by decide)
  have m501 : cMod (x / 4) 501 = true := cMod_of (by decide)
  obtain ⟨n1, e33, l33⟩ : ∃ n : Nat, x / 4 % 33 = (n : Int) ∧ n < 33 := by
    have h0 := Int.emod_nonneg (x / 4) (b := 33) (by decide)
    have h1 := Int.emod_lt_of_pos (x / 4) (b := 33) (by decide)
    exact ⟨(x / 4 % 33).toNat, by omega, by omega⟩
  obtain ⟨n2, e501, l501⟩ : ∃ n : Nat, x / 4 % 501 = (n : Int) ∧ n < 501 := by
    have h0 := Int.emod_nonneg (x / 4) (b := 501) (by decide)
    have h1 := Int.emod_lt_of_pos (x / 4) (b := 501) (by decide)
    exact ⟨(x / 4 % 501).toNat, by omega, by omega⟩
  have tre' : sem 100 5 [.list (cs.map .int), .int 7] = .ok (ten t0) := et
  have H : HdsOk 90 (sem 100 1) := fun t h => hea 100 t (by omega)
  have Br : BareOk 90 (sem 100 6) := fun t h => bar 100 t (by omega)
  have Le : LeadOk (sem 100 7) := lea 98
  have Pt : PtsOk 90 (sem 100 0) := fun t h => pts 100 t (by omega)
  have Wh : ∀ i : Int, sem 100 2 [.int i] = .ok (.bool true) := who 99
  generalize sem 100 = S at *
  -- the tree that is asked about
  have tail : ∀ (t : T) (m : Nat) (c5 : Option PyData), t.dp ≤ 60 → t.pts ≤ 1000 → t.pts = m → 
      (sSeq (sSet [] 6 (eFn (S 1) (aCons (eVar 3) aNil)))
    (sSeq (sIf (tOrR (tNotR (tTru (eIsi "list" (eVar 6)))) (tOf (eOp gNe (eCall gLen (aCons (eVar 6) aNil)) (eFn (S 6) (aCons (eVar 3) aNil))))) (sRet (eC (.bool false))) sNil)
    (sSeq (sFor [] (iRange (aCons (eCall gLen (aCons (eVar 6) aNil)) aNil)) (gtName 5) (gb_law_2 S))
    (sSeq (sSet [] 7 (eFn (S 0) (aCons (eVar 3) aNil)))
    (sRet (eAnd (eFn (S 2) (aCons (eVar 7) aNil)) (eOp gEq (eVar 7) (eVar 4)))))))) [some (.list (ns.map .int)), some (.int x), some (.list (cs.map .int)), some (ten t), some (.int (m : Nat)), c5, none, none] = .rt (.bool true) := by
    intro t m c5 h1 h2 h3
    have e1 := H t (by omega) (by omega) (by omega)
    have e2 := Br t (by omega) (by omega)
    have e3 := Pt t (by omega)
    have lb := bare_lt t
    obtain ⟨x', e4⟩ := law_loop (S := S) Le (t := t) (A := some (.list (ns.map .int))) (B := some (.int x)) (C := some (.list (cs.map .int))) (D := some (.int (m : Nat))) (G := none) (x := c5)
    have hlen := hds_len 0 t
    generalize hds 0 t = l at *
    rw [u_sSeq]
    have t1 : (sSet [] 6 (eFn (S 1) (aCons (eVar 3) aNil))) [some (.list (ns.map .int)), some (.int x), some (.list (cs.map .int)), some (ten t), some (.int (m : Nat)), c5, none, none] = .nx [some (.list (ns.map .int)), some (.int x), some (.list (cs.map .int)), some (ten t), some (.int (m : Nat)), c5, some (.list (l.map wD)), none] := by
      simp [e1]
    rw [t1, Out.then_nx, u_sSeq]
    have gn : gNe (.int (l.length : Nat)) (.int (bare t : Nat)) = some (.bool false) := by rw [hlen]; simp
    have t2 : (sIf (tOrR (tNotR (tTru (eIsi "list" (eVar 6)))) (tOf (eOp gNe (eCall gLen (aCons (eVar 6) aNil)) (eFn (S 6) (aCons (eVar 3) aNil))))) (sRet (eC (.bool false))) sNil) [some (.list (ns.map .int)), some (.int x), some (.list (cs.map .int)), some (ten t), some (.int (m : Nat)), c5, some (.list (l.map wD)), none] = .nx [some (.list (ns.map .int)), some (.int x), some (.list (cs.map .int)), some (ten t), some (.int (m : Nat)), c5, some (.list (l.map wD)), none] := by
      simp [e2, isiB, gn, hlen]
    rw [t2, Out.then_nx, u_sSeq, u_sFor]
    have t3 : (iRange (aCons (eCall gLen (aCons (eVar 6) aNil)) aNil)) (mask [] [some (.list (ns.map .int)), some (.int x), some (.list (cs.map .int)), some (ten t), some (.int (m : Nat)), c5, some (.list (l.map wD)), none]) = .ok (rngD 0 l.length) := by
      have : okI (l.length : Nat) = true := okI_small (by omega) (by omega)
      simp [this]
    rw [t3, R.run_ok, e4, Out.then_nx, u_sSeq]
    have t4 : (sSet [] 7 (eFn (S 0) (aCons (eVar 3) aNil))) [some (.list (ns.map .int)), some (.int x), some (.list (cs.map .int)), some (ten t), some (.int (m : Nat)), x', some (.list (l.map wD)), none] = .nx [some (.list (ns.map .int)), some (.int x), some (.list (cs.map .int)), some (ten t), some (.int (m : Nat)), x', some (.list (l.map wD)), some (.int (t.pts : Nat))] := by
      simp [e3]
    rw [t4, Out.then_nx]
    subst h3
    simp [Wh]
  unfold g_law
  rw [u_sSeq]
  have s1 : (sSet [] 1 (eFn (S 4) (aCons (eFn (S 3) (aCons (eVar 0) (aCons (eC (.int 0)) aNil))) (aCons (eC (.int 0)) aNil)))) (List.map some [PyData.list (ns.map .int)] ++ List.replicate (8 - [PyData.list (ns.map .int)].length) none) = .nx [some (.list (ns.map .int)), some (.int x), none, none, none, none, none, none] := by
    simp [ev0, ex]
  rw [s1, Out.then_nx, u_sSeq]
  have s2 : (sSet [] 2 (eSl (eVar 0) (oSome (eC (.int 1))) (oSome (eC (.int 81))))) [some (.list (ns.map .int)), some (.int x), none, none, none, none, none, none] = .nx [some (.list (ns.map .int)), some (.int x), some (.list (cs.map .int)), none, none, none, none, none] := by
    have ec' : Pu.cutD (ns.map PyData.int) (some 1) (some 81) = cs.map .int := ec
    simp [ec']
  rw [s2, Out.then_nx, u_sSeq]
  have s3 : (sSet [] 3 (eFn (S 5) (aCons (eVar 2) (aCons (eC (.int 7)) aNil)))) [some (.list (ns.map .int)), some (.int x), some (.list (cs.map .int)), none, none, none, none, none] = .nx [some (.list (ns.map .int)), some (.int x), some (.list (cs.map .int)), some (ten t0), none, none, none, none] := by
    simp [tre']
  rw [s3, Out.then_nx, u_sSeq]
  have s4 : (sSet [] 4 (eOp gAdd (eC (.int 1)) (eCall gLen (aCons (eVar 2) aNil)))) [some (.list (ns.map .int)), some (.int x), some (.list (cs.map .int)), some (ten t0), none, none, none, none] = .nx [some (.list (ns.map .int)), some (.int x), some (.list (cs.map .int)), some (ten t0), some (.int ((1 + cs.length : Nat) : Int)), none, none, none] := by
    simp
  rw [s4, Out.then_nx, u_sSeq]
  have c4 : ∀ z : Int, gEq (.int (x % 4)) (.int z) = some (.bool (decide (x % 4 = z))) := fun z => by simp
  by_cases q1 : x % 4 = 1
  · obtain ⟨u, u1, u2, u3⟩ := chain_fold n1 t0
    obtain ⟨x', e⟩ := u3 (S := S) (A := some (.list (ns.map .int))) (B := some (.int x)) (C := some (.list (cs.map .int))) (F := none) (G := none) (1 + cs.length) (rngD 0 n1) (by rw [rngD_len]) none
    have s5 : (sIf (tOf (eOp gEq (eOp gMod (eVar 1) (eC (.int 4))) (eC (.int 1)))) (sFor [] (iRange (aCons (eOp gMod (eOp gDiv (eVar 1) (eC (.int 4))) (eC (.int 33))) aNil)) (gtName 5) (gb_law_1 S)) sNil) [some (.list (ns.map .int)), some (.int x), some (.list (cs.map .int)), some (ten t0), some (.int ((1 + cs.length : Nat) : Int)), none, none, none] = .nx [some (.list (ns.map .int)), some (.int x), some (.list (cs.map .int)), some (ten u), some (.int ((1 + cs.length + n1 : Nat) : Int)), x', none, none] := by
      have o : okI (n1 : Nat) = true := okI_small (by omega) (by omega)
      generalize ((1 + cs.length : Nat) : Int) = z at *
      simp [m4, q1, d4, m33, e33, o, e]
    rw [s5, Out.then_nx, u_sSeq]
    have s6 : (sIf (tOf (eOp gEq (eOp gMod (eVar 1) (eC (.int 4))) (eC (.int 2)))) (sSeq (sSet [] 3 (eOp gAdd (eVar 3) (eOp gRep (eTup (aCons (eTup aNil) aNil)) (eOp gMod (eOp gDiv (eVar 1) (eC (.int 4))) (eC (.int 501)))))) (sSet [] 4 (eOp gAdd (eVar 4) (eOp gMod (eOp gDiv (eVar 1) (eC (.int 4))) (eC (.int 501)))))) sNil) [some (.list (ns.map .int)), some (.int x), some (.list (cs.map .int)), some (ten u), some (.int ((1 + cs.length + n1 : Nat) : Int)), x', none, none] = .nx [some (.list (ns.map .int)), some (.int x), some (.list (cs.map .int)), some (ten u), some (.int ((1 + cs.length + n1 : Nat) : Int)), x', none, none] := by
      simp [m4, q1]
    rw [s6, Out.then_nx]
    exact tail u (1 + cs.length + n1) x' (by omega) (by omega) (by omega)
  · have s5 : (sIf (tOf (eOp gEq (eOp gMod (eVar 1) (eC (.int 4))) (eC (.int 1)))) (sFor [] (iRange (aCons (eOp gMod (eOp gDiv (eVar 1) (eC (.int 4))) (eC (.int 33))) aNil)) (gtName 5) (gb_law_1 S)) sNil) [some (.list (ns.map .int)), some (.int x), some (.list (cs.map .int)), some (ten t0), some (.int ((1 + cs.length : Nat) : Int)), none, none, none] = .nx [some (.list (ns.map .int)), some (.int x), some (.list (cs.map .int)), some (ten t0), some (.int ((1 + cs.length : Nat) : Int)), none, none, none] := by
      simp [m4, q1]
    rw [s5, Out.then_nx, u_sSeq]
    by_cases q2 : x % 4 = 2
    · have ln := T.ln_lt t0
      have eu : tenL t0 ++ List.replicate n2 (.tuple []) = tenL (T.of (t0.L ++ List.replicate n2 .z)) := by
        rw [tenL_of, List.map_append, ← tenL_L, List.map_replicate]; rfl
      have pu : (T.of (t0.L ++ List.replicate n2 .z)).pts = t0.pts + n2 := by
        have h0 := T.pts_of t0.L
        rw [T.of_L] at h0
        rw [T.pts_of, List.map_append, List.sum_append, List.map_replicate, List.sum_replicate_nat]
        show _ + (_ + n2 * 1) = _
        omega
      have du : (T.of (t0.L ++ List.replicate n2 .z)).dp ≤ 60 := T.dp_of fun b hb => by
        rcases List.mem_append.mp hb with hb | hb
        · have := T.dp_mem t0 b hb; omega
        · rw [(List.mem_replicate.mp hb).2]; decide
      generalize T.of (t0.L ++ List.replicate n2 .z) = u at *
      have sl : (tenL t0).length + n2 ≤ sizeLine := sz1000 (by rw [tenL_len]; omega)
      have sl' : t0.L.length + n2 ≤ sizeLine := sz1000 (by omega)
      have ok : okRep (n2 : Int) 1 = true := by
        unfold okRep
        have : (2 : Nat) ^ 62 = 4611686018427387904 := by decide
        rw [decide_eq_true (by omega), decide_eq_true (by omega)]; rfl
      have s6 : (sIf (tOf (eOp gEq (eOp gMod (eVar 1) (eC (.int 4))) (eC (.int 2)))) (sSeq (sSet [] 3 (eOp gAdd (eVar 3) (eOp gRep (eTup (aCons (eTup aNil) aNil)) (eOp gMod (eOp gDiv (eVar 1) (eC (.int 4))) (eC (.int 501)))))) (sSet [] 4 (eOp gAdd (eVar 4) (eOp gMod (eOp gDiv (eVar 1) (eC (.int 4))) (eC (.int 501)))))) sNil) [some (.list (ns.map .int)), some (.int x), some (.list (cs.map .int)), some (ten t0), some (.int ((1 + cs.length : Nat) : Int)), none, none, none] = .nx [some (.list (ns.map .int)), some (.int x), some (.list (cs.map .int)), some (ten u), some (.int ((1 + cs.length + n2 : Nat) : Int)), none, none, none] := by
        rw [Int.natCast_add (1 + cs.length) n2]
        generalize ((1 + cs.length : Nat) : Int) = z at *
        simp [m4, q2, d4, m501, e501, ok, sl', eu]
      rw [s6, Out.then_nx]
      exact tail u (1 + cs.length + n2) none du (by omega) (by omega)
    · have s6 : (sIf (tOf (eOp gEq (eOp gMod (eVar 1) (eC (.int 4))) (eC (.int 2)))) (sSeq (sSet [] 3 (eOp gAdd (eVar 3) (eOp gRep (eTup (aCons (eTup aNil) aNil)) (eOp gMod (eOp gDiv (eVar 1) (eC (.int 4))) (eC (.int 501)))))) (sSet [] 4 (eOp gAdd (eVar 4) (eOp gMod (eOp gDiv (eVar 1) (eC (.int 4))) (eC (.int 501)))))) sNil) [some (.list (ns.map .int)), some (.int x), some (.list (cs.map .int)), some (ten t0), some (.int ((1 + cs.length : Nat) : Int)), none, none, none] = .nx [some (.list (ns.map .int)), some (.int x), some (.list (cs.map .int)), some (ten t0), some (.int ((1 + cs.length : Nat) : Int)), none, none, none] := by
        simp [m4, q2]
      rw [s6, Out.then_nx]
      exact tail t0 (1 + cs.length) none (by omega) (by omega) (by omega)
end Lk42
open PySem PySem.W PyProof.Rows
set_option maxRecDepth 100000 in
set_option maxHeartbeats 0 in
theorem PySem.Challenge.cw_hydrahouse_k42_heads_and_points_holds : PySem.Challenge.rw_hydrahouse_k42_heads_and_points.Holds := by
  w_on; o_law; k_head; (case hw => w_witness2)
  k_fill
  refine Pu.walkLB (l := PySem.Challenge.rw_hydrahouse_k42_heads_and_points) (k := 101) (x := "_law_script") rfl rfl ⟨rfl, by decide, by decide⟩ (fun w h Y => PySem.W.kIn_of Y) ?F
  case F =>
    intro w mg fa h KX G hmg
    refine' Lk42.all_mk KX G hmg ?a0 ?l0 ?c0 ?k0 ?a1 ?l1 ?c1 ?k1 ?a2 ?l2 ?c2 ?k2 ?a3 ?l3 ?c3 ?k3 ?a4 ?l4 ?c4 ?k4 ?a5 ?l5 ?c5 ?k5 ?a6 ?l6 ?c6 ?k6 ?a7 ?l7 ?c7 ?k7 ?a8 ?l8 ?c8 ?k8 ?z_bool ?z_enumerate ?z_int ?z_isinstance ?z_len ?z_list ?z_range ?z_tuple Lk42.law_true
    (case a0 => k_is); (case l0 => k_is); (case c0 => k_is); (case k0 => k_is)
    (case a1 => k_is); (case l1 => k_is); (case c1 => k_is); (case k1 => k_is)
    (case a2 => k_is); (case l2 => k_is); (case c2 => k_is); (case k2 => k_is)
    (case a3 => k_is); (case l3 => k_is); (case c3 => k_is); (case k3 => k_is)
    (case a4 => k_is); (case l4 => k_is); (case c4 => k_is); (case k4 => k_is)
    (case a5 => k_is); (case l5 => k_is); (case c5 => k_is); (case k5 => k_is)
    (case a6 => k_is); (case l6 => k_is); (case c6 => k_is); (case k6 => k_is)
    (case a7 => k_is); (case l7 => k_is); (case c7 => k_is); (case k7 => k_is)
    (case a8 => k_is); (case l8 => k_is); (case c8 => k_is); (case k8 => k_is)
    (case z_bool => k_is)
    (case z_enumerate => k_is)
    (case z_int => k_is)
    (case z_isinstance => k_is)
    (case z_len => k_is)
    (case z_list => k_is)
    (case z_range => k_is)
    (case z_tuple => k_is)
