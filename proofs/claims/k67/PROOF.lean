import PyProof.Rows.All
import Wide.All
import OpenK.AllK
import Wide.FinOn
import HandS.ForMost
import HandS.ForExc
import HandS.Zip
import HandS.Wide
import HandS.IsInst
import HandS.TupMul
import HandS.TupAny
import HandS.ExcIs
import HandS.Defaults
import HandS.Nested
import HandS.EndOwn
import KE.DataMinMax
import HandS.SortKw
import HandS.CallSlots
import HandS.Iter
import PyProof.Rows.ChunkLeaf
import HandS.TryOnly
import HandS.TryMany
import HandS.Rev
import HandS.EndBits
import HandS.More
import HandS.TupLe
import KE.GoesMore
import HandS.DictEq
import HandS.DictComp
import HandS.ClsMeth
import HandS.DeepEq
import HandS.HotCalls
import HandS.Deep
import HandS.Conv
import HandS.Style
import HandS.Text
import HandS.FStr
import HandS.Strs
import HandS.Finally
import PySem.Challenge.RW_hydrahouse_k67_ranks_or_ring
set_option Elab.async false
set_option linter.all false
set_option maxRecDepth 100000
set_option maxHeartbeats 4000000
namespace Pu
open PySem PySem.Spec PyProof.Rows L2
inductive R (α : Type) where
  | ok (a : α) | err (c : Str) | bad
def R.bind {α β : Type} (x : R α) (f : α → R β) : R β := match x with
  | .ok a => f a
  | .err c => .err c
  | .bad => .bad
@[simp] theorem R.bind_ok {α β : Type} (a : α) (f : α → R β) : R.bind (.ok a) f = f a := rfl
@[simp] theorem R.bind_err {α β : Type} (c : Str) (f : α → R β) : R.bind (.err c) f = .err c := rfl
@[simp] theorem R.bind_bad {α β : Type} (f : α → R β) : R.bind .bad f = .bad := rfl
def R.of {α : Type} : Option α → R α
  | some a => .ok a
  | none => .bad
@[simp] theorem R.of_some {α : Type} (a : α) : R.of (some a) = .ok a := rfl
@[simp] theorem R.of_none {α : Type} : R.of (none : Option α) = .bad := rfl
abbrev Vars := List (Option PyData)
def hide (O : List Addr) (H : Hp) : Hp := fun a => if a ∈ O then none else H a
theorem hide_nil (H : Hp) : hide [] H = H := by
  funext a
  unfold hide
  rw [if_neg (by simp)]
theorem hide_some {O : List Addr} {H : Hp} {a : Addr} {o : HO} (h : hide O H a = some o) : a ∉ O ∧ H a = some o := by
  unfold hide at h
  by_cases c : a ∈ O
  · rw [if_pos c] at h; cases h
  · rw [if_neg c] at h; exact ⟨c, h⟩
theorem hide_of {O : List Addr} {H : Hp} {a : Addr} {o : HO} (c : a ∉ O) (h : H a = some o) : hide O H a = some o := by
  unfold hide
  rw [if_neg c]; exact h
theorem hide_same {O : List Addr} {H H' : Hp} (s : Same H H') : Same (hide O H) (hide O H') := fun a o h => by
  obtain ⟨c, e⟩ := hide_some h
  exact hide_of c (s a o e)
theorem hide_sub {O : List Addr} {H : Hp} : Same (hide O H) H := fun a o h => (hide_some h).2
theorem hide_less {O O' : List Addr} {H : Hp} (s : ∀ a ∈ O', a ∈ O) : Same (hide O H) (hide O' H) := fun a o h => by
  obtain ⟨c, e⟩ := hide_some h
  exact hide_of (fun z => c (s a z)) e
theorem same_new {H : Hp} {p : Addr} {o : HO} (h : H p = none) : Same H (upd H p o) := fun b u e => by
  rw [upd_ne (ne_of_none e h)]; exact e
def Stands (O : List Addr) (H : Hp) : Prop := ∀ a ∈ O, ∃ o, H a = some o ∧ ∀ xs, o ≠ .tup xs
theorem Stands.nn {O : List Addr} {H : Hp} (h : Stands O H) {a : Addr} (ha : a ∈ O) : H a ≠ none := fun z => by
  obtain ⟨o, e, _⟩ := h a ha
  rw [z] at e; cases e
theorem Stands.tup {O : List Addr} {H : Hp} (h : Stands O H) {a : Addr} {xs : List V} (e : H a = some (.tup xs)) : a ∉ O := fun z => by
  obtain ⟨o, e1, n⟩ := h a z
  rw [e] at e1; cases e1
  exact n _ rfl
theorem Stands.same {O : List Addr} {H H' : Hp} (h : Stands O H) (s : Same H H') : Stands O H' := fun a ha => by
  obtain ⟨o, e, n⟩ := h a ha
  exact ⟨o, s a o e, n⟩
theorem Stands.new {O : List Addr} {H : Hp} {p : Addr} (h : Stands O H) (n : H p = none) : p ∉ O := fun z => h.nn z n
theorem seqL {K : PySem.W.Frag} {H H' : Hp} {a : Addr} {xs : List V} (e : Same H H') (h : SqL K H a xs) : SqL K H' a xs := e.seq h
theorem seqT {K : PySem.W.Frag} {H H' : Hp} {a : Addr} {xs : List V} (e : Same H H') (h : SqT K H a xs) : SqT K H' a xs := by
  rcases h with (h | ⟨o, h⟩) | h
  · exact .inl (.inl (e _ _ h))
  · exact .inl (.inr ⟨o, e _ _ h⟩)
  · exact .inr h
def kD : Key → PyData
  | .inl i => .int i
  | .inr x => .str x
theorem rd_mono {H H' : Hp} {a : Addr} {u : HO} (s : Same H H') (h : Rd H a u) : Rd H' a u := by
  rcases h with h | ⟨o, h⟩
  · exact .inl (s _ _ h)
  · exact .inr ⟨o, s _ _ h⟩
structure ClN (K : PySem.W.Frag) (c : Str) (C : Addr) : Prop where
  at_ : PySem.W.nsIn K mainGlobals c = some (some (.ref C))
  cl : L2.Cls K C
  ha : PySem.W.findIn K (.ref C) "__class__" = some (some (.builtin "object.__class__"))
  hn : PySem.W.specialIn K (.builtin "object.__class__") "__get__" = some (some (.builtin "getset_descriptor.__get__"))
  htk : PySem.W.takesIn K (.builtin "object.__class__") = some true
  hm : PySem.W.mroIn K C (.type "object") = some true
  no : ∀ T ∈ (["int", "bool", "str", "list", "tuple", "dict"] : List String), PySem.W.kitOne K (.ref C) (.type T) = some false
theorem ClN.one {K : PySem.W.Frag} {c : Str} {C D : Addr} (h : ClN K c C) (g : ClN K c D) : C = D := by
  have := h.at_
  rw [g.at_] at this; cases this; rfl
def fK (fs : List (Str × V)) : List (Key × V) := fs.map fun p => (Sum.inr p.1, p.2)
mutual
inductive Rp (K : PySem.W.Frag) (H : Hp) : V → PyData → Prop
  | non : Rp K H .non .none
  | bl (b : Bool) : Rp K H (.bl b) (.bool b)
  | int (i : Int) : Rp K H (.int i) (.int i)
  | str (x : Str) : Rp K H (.str x) (.str x)
  | lst {a : Addr} {xs : List V} {ds : List PyData} : SqL K H a xs → Rps K H xs ds → Rp K H (.ref a) (.list ds)
  | tup {a : Addr} {xs : List V} {ds : List PyData} : SqT K H a xs → Rps K H xs ds → Rp K H (.ref a) (.tuple ds)
  | dic {a : Addr} {kvs : List (Key × V)} {ds : List (PyData × PyData)} : Rd H a (.dK kvs) → Rpd K H kvs ds → Rp K H (.ref a) (.dict ds)
  | ins {a C dx : Addr} {fs : List (Str × V)} {c : Str} {ds : List (PyData × PyData)} : H a = some (.ins C dx fs) → H dx = some (.own a) → ClN K c C → Rpd K H (fK fs) ds → Rp K H (.ref a) (.dict [(.none, .tuple [.str c, .dict ds])])
  | fn {f b c : Addr} {q : Str} {d : PyData} : H c = some (LamX.CodeO c q) → Rp K H (.ref b) d → Rp K H (.ref f) (.dict [(.none, .list [.int (f : Nat), .int (b : Nat), .int (c : Nat), .str q, d])])
  | fn0 {f c : Addr} {q : Str} : H c = some (LamX.CodeO c q) → Rp K H (.ref f) (.dict [(.none, .list [.int (f : Nat), .int (c : Nat), .str q])])
  | dct {a : Addr} {kvs : List (List Key × V)} {ds : List (PyData × PyData)} : Rd H a (.dT kvs) → RpT K H kvs ds → Rp K H (.ref a) (.dict [(.none, .dict ds)])
  | tpx {a : Addr} {xs : List V} {ds : List PyData} : H a = some (.tup xs) → Rps K H xs ds → Rp K H (.ref a) (.dict [(.none, .bool true), (.none, .tuple ds)])
inductive Rps (K : PySem.W.Frag) (H : Hp) : List V → List PyData → Prop
  | nil : Rps K H [] []
  | cons {v : V} {vs : List V} {d : PyData} {ds : List PyData} : Rp K H v d → Rps K H vs ds → Rps K H (v :: vs) (d :: ds)
inductive Rpd (K : PySem.W.Frag) (H : Hp) : List (Key × V) → List (PyData × PyData) → Prop
  | nil : Rpd K H [] []
  | cons {k : Key} {v : V} {vs : List (Key × V)} {d : PyData} {ds : List (PyData × PyData)} : Rp K H v d → Rpd K H vs ds → Rpd K H ((k, v) :: vs) ((kD k, d) :: ds)
inductive RpT (K : PySem.W.Frag) (H : Hp) : List (List Key × V) → List (PyData × PyData) → Prop
  | nil : RpT K H [] []
  | cons {k : List Key} {v : V} {vs : List (List Key × V)} {d : PyData} {ds : List (PyData × PyData)} : Rp K H v d → RpT K H vs ds → RpT K H ((k, v) :: vs) ((.tuple (k.map kD), d) :: ds)
end
section
variable {K : PySem.W.Frag} {H H' : Hp}
mutual
theorem Rp.mono (s : Same H H') : ∀ {v : V} {d : PyData}, Rp K H v d → Rp K H' v d
  | _, _, .non => .non
  | _, _, .bl b => .bl b
  | _, _, .int i => .int i
  | _, _, .str x => .str x
  | _, _, .lst h r => .lst (seqL s h) (Rps.mono s r)
  | _, _, .tup h r => .tup (seqT s h) (Rps.mono s r)
  | _, _, .dic h r => .dic (rd_mono s h) (Rpd.mono s r)
  | _, _, .ins h o c r => .ins (s _ _ h) (s _ _ o) c (Rpd.mono s r)
  | _, _, .fn h r => .fn (s _ _ h) (Rp.mono s r)
  | _, _, .fn0 h => .fn0 (s _ _ h)
  | _, _, .dct h r => .dct (rd_mono s h) (RpT.mono s r)
  | _, _, .tpx h r => .tpx (s _ _ h) (Rps.mono s r)
theorem Rps.mono (s : Same H H') : ∀ {vs : List V} {ds : List PyData}, Rps K H vs ds → Rps K H' vs ds
  | _, _, .nil => .nil
  | _, _, .cons h r => .cons (Rp.mono s h) (Rps.mono s r)
theorem Rpd.mono (s : Same H H') : ∀ {vs : List (Key × V)} {ds : List (PyData × PyData)}, Rpd K H vs ds → Rpd K H' vs ds
  | _, _, .nil => .nil
  | _, _, .cons h r => .cons (Rp.mono s h) (Rpd.mono s r)
theorem RpT.mono (s : Same H H') : ∀ {vs : List (List Key × V)} {ds : List (PyData × PyData)}, RpT K H vs ds → RpT K H' vs ds
  | _, _, .nil => .nil
  | _, _, .cons h r => .cons (Rp.mono s h) (RpT.mono s r)
end
theorem Rps.length : ∀ {vs : List V} {ds : List PyData}, Rps K H vs ds → vs.length = ds.length
  | _, _, .nil => rfl
  | _, _, .cons _ r => congrArg Nat.succ (Rps.length r)
theorem Rps.get : ∀ {vs : List V} {ds : List PyData} {i : Nat} {d : PyData}, Rps K H vs ds → ds[i]? = some d → ∃ v, vs[i]? = some v ∧ Rp K H v d
  | _, _, _, _, .nil, e => by simp at e
  | _, _, 0, _, .cons h _, e => by simp at e; subst e; exact ⟨_, rfl, h⟩
  | _, _, i + 1, _, .cons _ r, e => by
    obtain ⟨v, h1, h2⟩ := Rps.get (i := i) r (by simpa using e)
    exact ⟨v, by simpa using h1, h2⟩
theorem Rps.append : ∀ {vs ws : List V} {ds es : List PyData}, Rps K H vs ds → Rps K H ws es → Rps K H (vs ++ ws) (ds ++ es)
  | _, _, _, _, .nil, s => s
  | _, _, _, _, .cons h r, s => .cons h (Rps.append r s)
theorem Rps.take : ∀ {vs : List V} {ds : List PyData} (n : Nat), Rps K H vs ds → Rps K H (vs.take n) (ds.take n)
  | _, _, 0, _ => .nil
  | _, _, _ + 1, .nil => .nil
  | _, _, n + 1, .cons h r => .cons h (Rps.take n r)
theorem Rps.drop : ∀ {vs : List V} {ds : List PyData} (n : Nat), Rps K H vs ds → Rps K H (vs.drop n) (ds.drop n)
  | _, _, 0, r => r
  | _, _, _ + 1, .nil => .nil
  | _, _, n + 1, .cons _ r => Rps.drop n r
theorem Rps.reverse {vs : List V} {ds : List PyData} (h : Rps K H vs ds) : Rps K H vs.reverse ds.reverse := by
  have go : ∀ {vs : List V} {ds : List PyData}, Rps K H vs ds → Rps K H vs.reverse ds.reverse := by
    intro vs
    induction vs with
    | nil => intro ds h; cases h; exact .nil
    | cons v vs ih =>
      intro ds h
      cases h with
      | cons h r => rw [List.reverse_cons, List.reverse_cons]; exact Rps.append (ih r) (.cons h .nil)
  exact go h
theorem Rps.set : ∀ {vs : List V} {ds : List PyData} {v : V} {d : PyData} (i : Nat), Rps K H vs ds → Rp K H v d → Rps K H (vs.set i v) (ds.set i d)
  | _, _, _, _, _, .nil, _ => .nil
  | _, _, _, _, 0, .cons _ t, r => .cons r t
  | _, _, _, _, i + 1, .cons q t, r => .cons q (Rps.set i t r)
theorem Rps.ints : ∀ {vs : List V} {ns : List Int}, Rps K H vs (ns.map PyData.int) → vs = ns.map V.int
  | _, [], h => by cases h; rfl
  | _, n :: ns, h => by
    cases h with
    | cons h r =>
      cases h
      rw [Rps.ints r]; rfl
theorem Rps.ofInts : ∀ (ns : List Int), Rps K H (ns.map V.int) (ns.map PyData.int)
  | [] => .nil
  | n :: ns => .cons (.int n) (Rps.ofInts ns)
mutual
def imm : PyData → Bool
  | .none | .bool _ | .int _ | .str _ => true
  | .tuple xs => imms xs
  | .list _ | .dict _ => false
def imms : List PyData → Bool
  | [] => true
  | x :: xs => imm x && imms xs
end
mutual
theorem Rp.imm (s : ∀ a xs, SqT K H a xs → SqT K H' a xs) : ∀ {d : PyData} {v : V}, Rp K H v d → imm d = true → Rp K H' v d
  | .none, _, h, _ => by cases h; exact .non
  | .bool _, _, h, _ => by cases h; exact .bl _
  | .int _, _, h, _ => by cases h; exact .int _
  | .str _, _, h, _ => by cases h; exact .str _
  | .tuple ds, _, h, e => by
    cases h with
    | tup q r => exact .tup (s _ _ q) (Rps.imm s r (by simpa [Pu.imm] using e))
  | .list _, _, _, e => by simp [Pu.imm] at e
  | .dict _, _, _, e => by simp [Pu.imm] at e
theorem Rps.imm (s : ∀ a xs, SqT K H a xs → SqT K H' a xs) : ∀ {ds : List PyData} {vs : List V}, Rps K H vs ds → imms ds = true → Rps K H' vs ds
  | [], _, h, _ => by cases h; exact .nil
  | d :: ds, _, h, e => by
    cases h with
    | cons h r =>
      have e' : Pu.imm d = true ∧ imms ds = true := by simpa [imms] using e
      exact .cons (Rp.imm s h e'.1) (Rps.imm s r e'.2)
end
mutual
theorem Rp.dp : ∀ {d : PyData} {v : V}, Rp K H v d → d.canLay0 = true → Same H H' → Dp K H' v d
  | .none, _, h, _, _ => by cases h; exact .non
  | .bool _, _, h, _, _ => by cases h; exact .bl _
  | .int _, _, h, _, _ => by cases h; exact .int _
  | .str _, _, h, _, _ => by cases h; exact .str _
  | .tuple ds, _, h, e, s => by
    cases h with
    | tup q r => exact .tup (seqT s q) (Rps.dp r (by simpa [PyData.canLay0] using e) s)
  | .list ds, _, h, e, s => by
    cases h with
    | lst q r => exact .lst (seqL s q) (Rps.dp r (by simpa [PyData.canLay0] using e) s)
  | .dict _, _, _, e, _ => by simp [PyData.canLay0] at e
theorem Rps.dp : ∀ {ds : List PyData} {vs : List V}, Rps K H vs ds → PyData.canLayAll0 ds = true → Same H H' → DpAll K H' vs ds
  | [], _, h, _, _ => by cases h; exact .nil
  | d :: ds, _, h, e, s => by
    cases h with
    | cons h r =>
      have e' : d.canLay0 = true ∧ PyData.canLayAll0 ds = true := by simpa [PyData.canLayAll0] using e
      exact .cons (Rp.dp h e'.1 s) (Rps.dp r e'.2 s)
end
end
structure VRel (K : PySem.W.Frag) (F : Hp) (σ : L2.St) (ρ : Vars) : Prop where
  len : σ.length = ρ.length
  get : ∀ (i : Nat) (d : PyData), ρ[i]? = some (some d) → ∃ v, σ[i]? = some (some v) ∧ Rp K F v d
theorem VRel.mono {K : PySem.W.Frag} {F F' : Hp} {σ : L2.St} {ρ : Vars} (h : VRel K F σ ρ) (s : Same F F') : VRel K F' σ ρ := ⟨h.len, fun i d e => by
  obtain ⟨v, h1, h2⟩ := h.get i d e
  exact ⟨v, h1, h2.mono s⟩⟩
theorem VRel.set {K : PySem.W.Frag} {F : Hp} {σ : L2.St} {ρ : Vars} {i : Nat} {v : V} {d : PyData} (h : VRel K F σ ρ) (r : Rp K F v d) : VRel K F (σ.set i (some v)) (ρ.set i (some d)) := ⟨by simpa using h.len, fun j e q => by
  have hl := h.len
  by_cases c : i = j
  · subst c
    by_cases hi : i < ρ.length
    · rw [List.getElem?_set_self hi] at q
      cases q
      exact ⟨v, List.getElem?_set_self (by omega), r⟩
    · rw [List.getElem?_eq_none (by simpa using hi)] at q; cases q
  · rw [List.getElem?_set_ne c] at q
    obtain ⟨w, h1, h2⟩ := h.get j e q
    exact ⟨w, by rw [List.getElem?_set_ne c]; exact h1, h2⟩⟩
def exV (mg : Str → Option Value) (c : Str) : Value := (mg c).getD .none
section
variable (X : Cx) (W : WX)
def EOut (O : List Addr) (σ : L2.St) (H : Hp) (Q : VK) : R PyData → Prop
  | .ok d => ∀ v H', Same H H' → Rp X.K (hide O H') v d → Q v H'
  | .err c => ∀ H', Same H H' → W (exV X.mg c) none σ H'
  | .bad => False
def AOut (O : List Addr) (σ : L2.St) (H : Hp) (Q : List V → Hp → Prop) : R (List PyData) → Prop
  | .ok ds => ∀ vs H', Same H H' → Rps X.K (hide O H') vs ds → Q vs H'
  | .err c => ∀ H', Same H H' → W (exV X.mg c) none σ H'
  | .bad => False
def TOut (σ : L2.St) (H : Hp) (Q : Bool → Hp → Prop) : R Bool → Prop
  | .ok b => ∀ H', Same H H' → Q b H'
  | .err c => ∀ H', Same H H' → W (exV X.mg c) none σ H'
  | .bad => False
def EX (e : Expr) (f : Vars → R PyData) : Prop :=
  ∃ t, PE X e t ∧ ∀ σ H O ρ Q, Stands O H → VRel X.K (hide O H) σ ρ → EOut X W O σ H Q (f ρ) → t σ H Q
def AX (es : List Expr) (f : Vars → R (List PyData)) : Prop :=
  ∃ t, PA X es t ∧ ∀ σ H O ρ Q, Stands O H → VRel X.K (hide O H) σ ρ → AOut X W O σ H Q (f ρ) → t σ H Q
def TX (e : Expr) (f : Vars → R Bool) : Prop :=
  ∃ t, PT X e t ∧ ∀ σ H O ρ Q, Stands O H → VRel X.K (hide O H) σ ρ → TOut X W σ H Q (f ρ) → t σ H Q
def WX' (e : Expr) (f : Vars → R Bool) : Prop :=
  ∃ t, PW X e t ∧ ∀ σ H O ρ Q, Stands O H → VRel X.K (hide O H) σ ρ → TOut X W σ H Q (f ρ) → t σ H Q
def OX (e : Option Expr) (f : Vars → R (Option Int)) : Prop :=
  ∃ t, PO X e t ∧ ∀ σ H O ρ (Q : Option Int → Hp → Prop), Stands O H → VRel X.K (hide O H) σ ρ →
    (match f ρ with
      | .ok o => ∀ H', Same H H' → Q o H'
      | .err c => ∀ H', Same H H' → W (exV X.mg c) none σ H'
      | .bad => False) → t σ H Q
end
section
variable (X : Cx) (W : WX)
def tE (f : Vars → R PyData) : TE := fun σ H Q => ∃ O ρ, Stands O H ∧ VRel X.K (hide O H) σ ρ ∧ EOut X W O σ H Q (f ρ)
def tT (f : Vars → R Bool) : TT := fun σ H Q => ∃ O ρ, Stands O H ∧ VRel X.K (hide O H) σ ρ ∧ TOut X W σ H Q (f ρ)
end
theorem EX.pe {X : Cx} {W : WX} {e : Expr} {f : Vars → R PyData} (h : EX X W e f) : PE X e (tE X W f) := by
  obtain ⟨t, p, ht⟩ := h
  exact ⟨fun pins s σ H Q I ⟨O, ρ, h1, h2, h3⟩ => p.run pins s σ H Q I (ht σ H O ρ Q h1 h2 h3)⟩
theorem TX.pt {X : Cx} {W : WX} {e : Expr} {f : Vars → R Bool} (h : TX X W e f) : PT X e (tT X W f) := by
  obtain ⟨t, p, ht⟩ := h
  exact ⟨fun pins s σ H Q I ⟨O, ρ, h1, h2, h3⟩ => p.run pins s σ H Q I (ht σ H O ρ Q h1 h2 h3)⟩
section
variable {X : Cx} {W : WX}
theorem EOut.from {O : List Addr} {σ : L2.St} {H H1 : Hp} {Q : VK} {r : R PyData} (h : EOut X W O σ H Q r) (s : Same H H1) : EOut X W O σ H1 Q r := by
  cases r with
  | ok d => exact fun v H' s' r => h v H' (s.trans s') r
  | err c => exact fun H' s' => h H' (s.trans s')
  | bad => exact h
theorem AOut.from {O : List Addr} {σ : L2.St} {H H1 : Hp} {Q : List V → Hp → Prop} {r : R (List PyData)} (h : AOut X W O σ H Q r) (s : Same H H1) : AOut X W O σ H1 Q r := by
  cases r with
  | ok d => exact fun v H' s' r => h v H' (s.trans s') r
  | err c => exact fun H' s' => h H' (s.trans s')
  | bad => exact h
theorem TOut.from {σ : L2.St} {H H1 : Hp} {Q : Bool → Hp → Prop} {r : R Bool} (h : TOut X W σ H Q r) (s : Same H H1) : TOut X W σ H1 Q r := by
  cases r with
  | ok d => exact fun H' s' => h H' (s.trans s')
  | err c => exact fun H' s' => h H' (s.trans s')
  | bad => exact h
theorem EOut.then {O : List Addr} {σ : L2.St} {H : Hp} {r : R PyData} {β : Type} {g : PyData → R β} {P : R β → Prop} {Q : VK} (hb : P .bad → False) (he : ∀ c, P (.err c) → ∀ H', Same H H' → W (exV X.mg c) none σ H')
    (h : P (r.bind g)) (k : ∀ d v H', Same H H' → Rp X.K (hide O H') v d → P (g d) → Q v H') : EOut X W O σ H Q r := by
  cases r with
  | ok d => exact fun v H' s r => k d v H' s r h
  | err c => exact he c h
  | bad => exact hb h
theorem TOut.then {σ : L2.St} {H : Hp} {r : R Bool} {β : Type} {g : Bool → R β} {P : R β → Prop} {Q : Bool → Hp → Prop} (hb : P .bad → False) (he : ∀ c, P (.err c) → ∀ H', Same H H' → W (exV X.mg c) none σ H')
    (h : P (r.bind g)) (k : ∀ d H', Same H H' → P (g d) → Q d H') : TOut X W σ H Q r := by
  cases r with
  | ok d => exact fun H' s => k d H' s h
  | err c => exact he c h
  | bad => exact hb h
theorem AOut.then {O : List Addr} {σ : L2.St} {H : Hp} {r : R (List PyData)} {β : Type} {g : List PyData → R β} {P : R β → Prop} {Q : List V → Hp → Prop} (hb : P .bad → False) (he : ∀ c, P (.err c) → ∀ H', Same H H' → W (exV X.mg c) none σ H')
    (h : P (r.bind g)) (k : ∀ d v H', Same H H' → Rps X.K (hide O H') v d → P (g d) → Q v H') : AOut X W O σ H Q r := by
  cases r with
  | ok d => exact fun v H' s r => k d v H' s r h
  | err c => exact he c h
  | bad => exact hb h
theorem EOut.b {O : List Addr} {σ : L2.St} {H : Hp} {Q : VK} : EOut X W O σ H Q .bad → False := fun z => z
theorem EOut.e {O : List Addr} {σ : L2.St} {H : Hp} {Q : VK} (c : Str) : EOut X W O σ H Q (.err c) → ∀ H', Same H H' → W (exV X.mg c) none σ H' := fun z => z
theorem AOut.b {O : List Addr} {σ : L2.St} {H : Hp} {Q : List V → Hp → Prop} : AOut X W O σ H Q .bad → False := fun z => z
theorem AOut.e {O : List Addr} {σ : L2.St} {H : Hp} {Q : List V → Hp → Prop} (c : Str) : AOut X W O σ H Q (.err c) → ∀ H', Same H H' → W (exV X.mg c) none σ H' := fun z => z
theorem TOut.b {σ : L2.St} {H : Hp} {Q : Bool → Hp → Prop} : TOut X W σ H Q .bad → False := fun z => z
theorem TOut.e {σ : L2.St} {H : Hp} {Q : Bool → Hp → Prop} (c : Str) : TOut X W σ H Q (.err c) → ∀ H', Same H H' → W (exV X.mg c) none σ H' := fun z => z
def eVar (i : Nat) (ρ : Vars) : R PyData := R.of (ρ.getD i none)
theorem ex_var (i : Nat) {x : Str} {pos : Pos} (hN : X.N[i]? = some x := by rfl) (hv : Vis X.env.scope x := by first | exact Or.inl rfl | exact Or.inr (Or.inl rfl) | exact Or.inr (Or.inr rfl)) (hd : (x == ("__debug__" : Str)) = false := by decide)
    (hcd : (x == ("__classdict__" : Str)) = false := by decide) : EX X W (.Name x pos) (eVar i) := by
  refine ⟨_, pe_var hN hv hd hcd, fun σ H O ρ Q hO h q => ?_⟩
  unfold eVar at q
  rw [List.getD_eq_getElem?_getD] at q
  cases e : ρ[i]? with
  | none => rw [e] at q; exact q.elim
  | some o =>
    cases o with
    | none => rw [e] at q; exact q.elim
    | some d =>
      rw [e] at q
      obtain ⟨v, h1, h2⟩ := h.get i d e
      exact ⟨v, h1, q v H (Same.refl H) h2⟩
def eC (d : PyData) (_ : Vars) : R PyData := .ok d
theorem ex_c {e : Expr} {v : V} {d : PyData} (h : PE X e (tC v)) (r : ∀ H, Rp X.K H v d) : EX X W e (eC d) :=
  ⟨_, h, fun σ H O ρ Q _ _ q => q v H (Same.refl H) (r _)⟩
theorem ex_int {i j pos} : EX X W (.Constant (.int i) j pos) (eC (.int i)) := ex_c pe_int fun _ => .int i
theorem ex_bl {i j pos} : EX X W (.Constant (.bool i) j pos) (eC (.bool i)) := ex_c pe_bl fun _ => .bl i
theorem ex_non {j pos} : EX X W (.Constant .none j pos) (eC .none) := ex_c pe_non fun _ => .non
theorem ex_str {i j pos} : EX X W (.Constant (.str i) j pos) (eC (.str i)) := ex_c pe_str fun _ => .str i
def aNil (_ : Vars) : R (List PyData) := .ok []
def aCons (f : Vars → R PyData) (g : Vars → R (List PyData)) (ρ : Vars) : R (List PyData) := (f ρ).bind fun d => (g ρ).bind fun ds => .ok (d :: ds)
theorem ax_nil : AX X W [] aNil := ⟨_, pa_nil, fun σ H O ρ Q _ _ q => q [] H (Same.refl H) .nil⟩
theorem ax_cons {e : Expr} {es : List Expr} {f : Vars → R PyData} {g : Vars → R (List PyData)} (h : EX X W e f) (k : AX X W es g) (hs : starEach (e :: es) X.env = (false, eval e X.env) :: starEach es X.env := by rfl) : AX X W (e :: es) (aCons f g) := by
  obtain ⟨t, p, ht⟩ := h
  obtain ⟨u, q, hu⟩ := k
  refine ⟨_, pa_cons p q hs, fun σ H O ρ Q hO hr z => ht σ H O ρ _ hO hr (EOut.then (g := fun d => (g ρ).bind fun ds => .ok (d :: ds)) AOut.b AOut.e z fun d v H1 s1 r1 z1 => ?_)⟩
  refine hu σ H1 O ρ _ (hO.same s1) (hr.mono (hide_same s1)) (AOut.then (g := fun ds => .ok (d :: ds)) AOut.b AOut.e (z1.from s1) fun ds vs H2 s2 r2 z2 => ?_)
  exact z2 (v :: vs) H2 s2 (.cons (r1.mono (hide_same s2)) r2)
def eTup (f : Vars → R (List PyData)) (ρ : Vars) : R PyData := (f ρ).bind fun ds => if ds.length ≤ sizeLine then .ok (.tuple ds) else .bad
def eLst (f : Vars → R (List PyData)) (ρ : Vars) : R PyData := (f ρ).bind fun ds => if ds.length ≤ sizeLine then .ok (.list ds) else .bad
theorem new_rep {K : PySem.W.Frag} {O : List Addr} {H : Hp} {p : Addr} {vs : List V} {ds : List PyData} (hO : Stands O H) (hp : H p = none) (r : Rps K (hide O H) vs ds) : Rp K (hide O (upd H p (.tup vs))) (.ref p) (.tuple ds) :=
  .tup (.inl (.inl (hide_of (hO.new hp) upd_same))) (r.mono (hide_same (same_new hp)))
theorem new_repL {K : PySem.W.Frag} {O : List Addr} {H : Hp} {p : Addr} {vs : List V} {ds : List PyData} (hO : Stands O H) (hp : H p = none) (r : Rps K (hide O H) vs ds) : Rp K (hide O (upd H p (.lst vs))) (.ref p) (.list ds) :=
  .lst (.inl (.inl (hide_of (hO.new hp) upd_same))) (r.mono (hide_same (same_new hp)))
theorem ex_tup {es : List Expr} {f : Vars → R (List PyData)} {k : Nat} {pos : Pos} (h : AX X W es f) : EX X W (.Tuple es k pos) (eTup f) := by
  obtain ⟨t, p, ht⟩ := h
  refine ⟨_, pe_tup p, fun σ H O ρ Q hO hr z => ht σ H O ρ _ hO hr (AOut.then EOut.b EOut.e z fun ds vs H1 s1 r1 z1 => ?_)⟩
  by_cases c : ds.length ≤ sizeLine
  · rw [if_pos c] at z1
    exact ⟨by rw [r1.length]; exact c, fun p hp => z1 _ _ (s1.trans (same_new hp)) (new_rep (hO.same s1) hp r1)⟩
  · rw [if_neg c] at z1; exact z1.elim
theorem ex_lst {es : List Expr} {f : Vars → R (List PyData)} {pos : Pos} (h : AX X W es f) : EX X W (.List es pos) (eLst f) := by
  obtain ⟨t, p, ht⟩ := h
  refine ⟨_, pe_lst p, fun σ H O ρ Q hO hr z => ht σ H O ρ _ hO hr (AOut.then EOut.b EOut.e z fun ds vs H1 s1 r1 z1 => ?_)⟩
  by_cases c : ds.length ≤ sizeLine
  · rw [if_pos c] at z1
    exact ⟨by rw [r1.length]; exact c, fun p hp => z1 _ _ (s1.trans (same_new hp)) (new_repL (hO.same s1) hp r1)⟩
  · rw [if_neg c] at z1; exact z1.elim
def Op2 (K : PySem.W.Frag) (r : R2) (g : PyData → PyData → Option PyData) : Prop :=
  ∀ (H : Hp) (O : List Addr) (x y : V) (d e : PyData) (z : PyData) (Q : VK), Stands O H → Rp K (hide O H) x d → Rp K (hide O H) y e → g d e = some z → (∀ v H', Same H H' → Rp K (hide O H') v z → Q v H') → r x y H Q
def eOp (g : PyData → PyData → Option PyData) (f h : Vars → R PyData) (ρ : Vars) : R PyData := (f ρ).bind fun d => (h ρ).bind fun e => R.of (g d e)
theorem op_run {r : R2} {g : PyData → PyData → Option PyData} (ho : Op2 X.K r g) {ta tb : TE} {f h : Vars → R PyData}
    (ha : ∀ σ H O ρ Q, Stands O H → VRel X.K (hide O H) σ ρ → EOut X W O σ H Q (f ρ) → ta σ H Q) (hb : ∀ σ H O ρ Q, Stands O H → VRel X.K (hide O H) σ ρ → EOut X W O σ H Q (h ρ) → tb σ H Q) :
    ∀ σ H O ρ Q, Stands O H → VRel X.K (hide O H) σ ρ → EOut X W O σ H Q (eOp g f h ρ) → tOp r ta tb σ H Q := fun σ H O ρ Q hO hr z =>
  ha σ H O ρ _ hO hr (EOut.then (g := fun d => (h ρ).bind fun e => R.of (g d e)) EOut.b EOut.e z fun d v H1 s1 r1 z1 =>
    hb σ H1 O ρ _ (hO.same s1) (hr.mono (hide_same s1)) (EOut.then (g := fun e => R.of (g d e)) EOut.b EOut.e (z1.from s1) fun e v2 H2 s2 r2 z2 => by
      cases q : g d e with
      | none => rw [q] at z2; exact z2.elim
      | some w =>
        rw [q] at z2
        exact ho H2 O v v2 d e w Q ((hO.same s1).same s2) (r1.mono (hide_same s2)) r2 q fun v' H' s' r' => z2 v' H' (s2.trans s') r'))
theorem ex_op {op : Operator} {r : R2} {g : PyData → PyData → Option PyData} {a b : Expr} {f h : Vars → R PyData} {pos : Pos} (hr : OpR X (binaryOp op) r) (ho : Op2 X.K r g) (ha : EX X W a f) (hb : EX X W b h) : EX X W (.BinOp a op b pos) (eOp g f h) := by
  obtain ⟨ta, p, hta⟩ := ha
  obtain ⟨tb, q, htb⟩ := hb
  exact ⟨_, pe_op hr p q, op_run ho hta htb⟩
theorem ex_cmp {op : CmpOp} {r : R2} {g : PyData → PyData → Option PyData} {a b : Expr} {f h : Vars → R PyData} {pos : Pos} (hr : OpR X (compareOp op) r) (ho : Op2 X.K r g) (ha : EX X W a f) (hb : EX X W b h) (hm : behindInMarks op b = false) : EX X W (.Compare a [op] [b] pos) (eOp g f h) := by
  obtain ⟨ta, p, hta⟩ := ha
  obtain ⟨tb, q, htb⟩ := hb
  exact ⟨_, pe_cmpR hr p q hm, op_run ho hta htb⟩
theorem ex_ix {r : R2} {g : PyData → PyData → Option PyData} {a b : Expr} {f h : Vars → R PyData} {pos : Pos} (hr : IxR X r) (ho : Op2 X.K r g) (ha : EX X W a f) (hb : EX X W b h) (hs : PlainIx b) : EX X W (.Subscript a b pos) (eOp g f h) := by
  obtain ⟨ta, p, hta⟩ := ha
  obtain ⟨tb, q, htb⟩ := hb
  exact ⟨_, pe_ix hr p q hs, op_run ho hta htb⟩
def tOf (f : Vars → R PyData) (ρ : Vars) : R Bool := (f ρ).bind fun d => match d with
  | .bool b => .ok b
  | _ => .bad
theorem tx_cmp {op : CmpOp} {r : R2} {g : PyData → PyData → Option PyData} {a b : Expr} {f h : Vars → R PyData} {pos : Pos} (hr : OpR X (compareOp op) r) (ho : Op2 X.K r g) (ha : EX X W a f) (hb : EX X W b h) (hm : behindInMarks op b = false) : TX X W (.Compare a [op] [b] pos) (tOf (eOp g f h)) := by
  obtain ⟨ta, p, hta⟩ := ha
  obtain ⟨tb, q, htb⟩ := hb
  refine ⟨_, pt_cmpR hr p q hm, fun σ H O ρ Q hO hv z => op_run ho hta htb σ H O ρ _ hO hv (EOut.then TOut.b TOut.e z fun d v H1 s1 r1 z1 => ?_)⟩
  cases r1 with
  | bl b => exact ⟨b, rfl, z1 H1 s1⟩
  | _ => exact z1.elim
def truD : PyData → Option Bool
  | .none => some false
  | .bool b => some b
  | .int i => some (i != 0)
  | .str x => if x.length ≤ sizeLine then some ((x.length : Int) != 0) else none
  | .list xs => some (!xs.isEmpty)
  | .tuple xs => some (!xs.isEmpty)
  | .dict _ => none
def tTru (f : Vars → R PyData) (ρ : Vars) : R Bool := (f ρ).bind fun d => R.of (truD d)
theorem Rps.isEmpty {K : PySem.W.Frag} {H : Hp} {vs : List V} {ds : List PyData} (r : Rps K H vs ds) : vs.isEmpty = ds.isEmpty := by
  cases r <;> rfl
theorem truV_of {K : PySem.W.Frag} {H : Hp} {v : V} {d : PyData} {b : Bool} (r : Rp K H v d) (e : truD d = some b) {H' : Hp} (s : Same H H') : TruV K v H' b := by
  cases r with
  | non => cases e; rfl
  | bl _ => cases e; rfl
  | int _ => cases e; rfl
  | str x =>
    unfold truD at e
    dsimp only at e
    by_cases c : x.length ≤ sizeLine
    · rw [if_pos c] at e; cases e; exact ⟨c, rfl⟩
    · rw [if_neg c] at e; cases e
  | lst h r => cases e; exact .inl ⟨_, seqL s h, by rw [r.isEmpty]⟩
  | tup h r => cases e; exact .inr (.inl ⟨_, seqT s h, by rw [r.isEmpty]⟩)
  | dic _ _ => cases e
  | ins _ _ _ _ => cases e
  | fn _ => cases e
  | fn0 => cases e
  | dct => cases e
  | tpx => cases e
theorem tx_tru {a : Expr} {f : Vars → R PyData} (h : EX X W a f) (he : ∀ whole, isTrue a X.env whole = (do let v ← whole; standAt a.pos; holding [v] (truthy v)) := by intro _; rfl) : TX X W a (tTru f) := by
  obtain ⟨t, p, ht⟩ := h
  refine ⟨_, pt_truth p he, fun σ H O ρ Q hO hv z => ht σ H O ρ _ hO hv (EOut.then TOut.b TOut.e z fun d v H1 s1 r1 z1 => ?_)⟩
  cases q : truD d with
  | none => rw [q] at z1; exact z1.elim
  | some b =>
    rw [q] at z1
    exact ⟨b, truV_of r1 q hide_sub, z1 H1 s1⟩
def tNotR (f : Vars → R Bool) (ρ : Vars) : R Bool := (f ρ).bind fun b => .ok (!b)
def tAndR (f g : Vars → R Bool) (ρ : Vars) : R Bool := (f ρ).bind fun b => if b = true then g ρ else .ok false
def tOrR (f g : Vars → R Bool) (ρ : Vars) : R Bool := (f ρ).bind fun b => if b = true then .ok true else g ρ
theorem tx_not {a : Expr} {f : Vars → R Bool} {pos : Pos} (h : TX X W a f) : TX X W (.UnaryOp .Not a pos) (tNotR f) := by
  obtain ⟨t, p, ht⟩ := h
  exact ⟨_, pt_not p, fun σ H O ρ Q hO hv z => ht σ H O ρ _ hO hv (TOut.then TOut.b TOut.e z fun d H1 s1 z1 => z1 H1 s1)⟩
theorem wx_and1 {a : Expr} {f : Vars → R Bool} {pos : Pos} (h : TX X W a f) : WX' X W (.BoolOp .And [a] pos) f := by
  obtain ⟨t, p, ht⟩ := h
  exact ⟨_, pw_and1 p, ht⟩
theorem wx_or1 {a : Expr} {f : Vars → R Bool} {pos : Pos} (h : TX X W a f) : WX' X W (.BoolOp .Or [a] pos) f := by
  obtain ⟨t, p, ht⟩ := h
  exact ⟨_, pw_or1 p, ht⟩
theorem wx_and {a b : Expr} {rest : List Expr} {f g : Vars → R Bool} {pos : Pos} (h : TX X W a f) (k : WX' X W (.BoolOp .And (b :: rest) pos) g) : WX' X W (.BoolOp .And (a :: b :: rest) pos) (tAndR f g) := by
  obtain ⟨t, p, ht⟩ := h
  obtain ⟨u, q, hu⟩ := k
  refine ⟨_, pw_and p q, fun σ H O ρ Q hO hv z => ht σ H O ρ _ hO hv (TOut.then (g := fun b => if b = true then g ρ else .ok false) TOut.b TOut.e z fun d H1 s1 z1 => ?_)⟩
  cases d with
  | true => exact hu σ H1 O ρ Q (hO.same s1) (hv.mono (hide_same s1)) (z1.from s1)
  | false => exact z1 H1 s1
theorem wx_or {a b : Expr} {rest : List Expr} {f g : Vars → R Bool} {pos : Pos} (h : TX X W a f) (k : WX' X W (.BoolOp .Or (b :: rest) pos) g) : WX' X W (.BoolOp .Or (a :: b :: rest) pos) (tOrR f g) := by
  obtain ⟨t, p, ht⟩ := h
  obtain ⟨u, q, hu⟩ := k
  refine ⟨_, pw_or p q, fun σ H O ρ Q hO hv z => ht σ H O ρ _ hO hv (TOut.then (g := fun b => if b = true then .ok true else g ρ) TOut.b TOut.e z fun d H1 s1 z1 => ?_)⟩
  cases d with
  | true => exact z1 H1 s1
  | false => exact hu σ H1 O ρ Q (hO.same s1) (hv.mono (hide_same s1)) (z1.from s1)
theorem WX'.tx {e : Expr} {f : Vars → R Bool} (h : WX' X W e f) : TX X W e f := by
  obtain ⟨t, p, ht⟩ := h
  exact ⟨_, p.pt, ht⟩
def eAnd (f g : Vars → R PyData) (ρ : Vars) : R PyData := (tOf f ρ).bind fun b => if b = true then g ρ else .ok (.bool false)
theorem tOf_run {f : Vars → R PyData} {t : TE} (ht : ∀ σ H O ρ Q, Stands O H → VRel X.K (hide O H) σ ρ → EOut X W O σ H Q (f ρ) → t σ H Q) {σ : L2.St} {H : Hp} {O : List Addr} {ρ : Vars} {Q : VK} {β : Type} {g : Bool → R β} {P : R β → Prop} (hO : Stands O H) (hv : VRel X.K (hide O H) σ ρ)
    (hb : P .bad → False) (he : ∀ c, P (.err c) → ∀ H', Same H H' → W (exV X.mg c) none σ H') (z : P ((tOf f ρ).bind g)) (k : ∀ b H', Same H H' → P (g b) → Q (.bl b) H') : t σ H Q := by
  refine ht σ H O ρ _ hO hv ?_
  unfold tOf at z
  cases q : f ρ with
  | bad => rw [q] at z; exact hb z
  | err c => rw [q] at z; exact he c z
  | ok d =>
    rw [q] at z
    refine fun v H1 s1 r1 => ?_
    cases r1 with
    | bl b => exact k b H1 s1 z
    | _ => exact (hb z).elim
theorem ex_one {op} {a : Expr} {f : Vars → R PyData} {pos : Pos} (h : EX X W a f) : EX X W (.BoolOp op [a] pos) f := by
  obtain ⟨t, p, ht⟩ := h
  exact ⟨_, pe_one p, ht⟩
theorem ex_and {a b : Expr} {rest : List Expr} {f g : Vars → R PyData} {pos : Pos} (h : EX X W a f) (k : EX X W (.BoolOp .And (b :: rest) pos) g) : EX X W (.BoolOp .And (a :: b :: rest) pos) (eAnd f g) := by
  obtain ⟨t, p, ht⟩ := h
  obtain ⟨u, q, hu⟩ := k
  refine ⟨_, pe_and p q, fun σ H O ρ Q hO hv z => tOf_run (g := fun b => if b = true then g ρ else .ok (.bool false)) ht hO hv EOut.b EOut.e z fun b H1 s1 z1 => ⟨b, rfl, ?_⟩⟩
  cases b with
  | true => exact hu σ H1 O ρ Q (hO.same s1) (hv.mono (hide_same s1)) (z1.from s1)
  | false => exact z1 _ H1 s1 (.bl false)
end
end Pu
set_option Elab.async false
set_option linter.all false
set_option maxRecDepth 100000
set_option maxHeartbeats 4000000
namespace Pu
open PySem PySem.Spec PyProof.Rows L2
theorem int_sub_bool_bool (a b : Bool) : Gives (Builtin.«int.__sub__» ⟨[.bool a, .bool b], []⟩) (.int ((if a = true then (1 : Int) else 0) - (if b = true then (1 : Int) else 0))) :=
  .of_wp fun M A E s Q h => by obtain ⟨hp, g, d, tk, os⟩ := s; wp_walk; exact ⟨_, rfl, h⟩
theorem sub_bb {prog : Program} {w : World} {A : Around} {E : Value → Shared → Prop} {s : Shared} {a b : Bool} {Q : Value → Shared → Prop}
    (h : Q (.int ((if a = true then (1 : Int) else 0) - (if b = true then (1 : Int) else 0)) s.toks) { s with toks := s.toks + 1 }) : wpAny (model prog w) A (binaryOp .Sub (.bool a) (.bool b)) Q E s :=
  binaryOp_gives (op := .Sub) (T := "bool") rfl rfl F.fills_bool_sub F.slot_bool_sub F.entry_int_sub (F.args_int_sub_2 _ _) (int_sub_bool_bool a b) trivial h
section
variable {X : Cx}
def rSubB : R2 := fun x y H Q => ∃ a b, x = .bl a ∧ y = .bl b ∧ Q (.int ((if a = true then (1 : Int) else 0) - (if b = true then (1 : Int) else 0))) H
theorem op_subB : OpR X (binaryOp .Sub) rSubB := by
  intro pins s σ H x y v u Q I rx ry h
  obtain ⟨a, b, rfl, rfl, q⟩ := h
  cases rx
  cases ry
  exact sub_bb ⟨.int _, H, I.tok _, ⟨_, rfl⟩, q⟩
def rCatL (K : PySem.W.Frag) : R2 := fun x y H Q => ∃ l b xs zs, x = .ref l ∧ y = .ref b ∧ SqL K H l xs ∧ SqL K H b zs ∧ xs.length + zs.length ≤ sizeLine ∧ ∀ p, H p = none → Q (.ref p) (upd H p (.lst (xs ++ zs)))
theorem plain_get {h : Heap} {a : Addr} {its : Array Value} (p : PlainL h a its) : ∃ (n : Nat) (sl : Array (Option Value)), h.get? a = some { cls := .type "list", data := .seq its n, slots := sl } := by
  obtain ⟨⟨c, d, dt, sl⟩, n, e, hc, hd, hs⟩ := p
  simp only at hc hd hs
  subst hc hd hs
  exact ⟨n, sl, e⟩
end
theorem op_catL {X : Cx} : OpR X (binaryOp .Add) (rCatL X.K) := by
  intro pins s σ H x y v u Q I rx ry h
  obtain ⟨l, b, xs, zs, rfl, rfl, hH, hB, hz, q⟩ := h
  cases rx
  cases ry
  obtain ⟨its, r, pl, hl⟩ := I.list hH
  obtain ⟨its2, r2, pl2, hl2⟩ := I.list hB
  obtain ⟨n, sl, e⟩ := plain_get pl
  obtain ⟨n2, sl2, e2⟩ := plain_get pl2
  have l1 := r.length
  have l2 := r2.length
  refine concat_meets ⟨_, e, rfl⟩ ⟨_, e2, rfl⟩ noFill_list_add seq_list_add PySem.F.slot_list_add PySem.F.entry_list_add (PySem.F.args_list_add_2 _ _)
    (PyProof.Rows.list_addW l b its.toArray its2.toArray n n2 none none sl sl2 (by rw [List.size_toArray, List.size_toArray]; omega)) ⟨e, e2, ?_⟩
  have ea : its.toArray ++ its2.toArray = (its ++ its2).toArray := by simp
  rw [ea]
  exact ⟨.ref _, _, I.lnew (t' := s.toks) (r.append r2) (by rw [List.length_append]; omega), rfl, q _ I.fresh⟩
def gAdd : PyData → PyData → Option PyData
  | .int i, .int j => some (.int (i + j))
  | .tuple xs, .tuple ys => if xs.length + ys.length ≤ sizeLine then some (.tuple (xs ++ ys)) else none
  | .list xs, .list ys => if xs.length + ys.length ≤ sizeLine then some (.list (xs ++ ys)) else none
  | .str x, .str y => if x.length + y.length ≤ sizeLine then some (.str (x ++ y)) else none
  | _, _ => none
abbrev rAddD (K : PySem.W.Frag) : R2 := fun x y H Q => (∃ i j, x = .int i ∧ y = .int j ∧ Q (.int (i + j)) H) ∨ rCatA K x y H Q ∨ (∃ i j, x = .str i ∧ y = .str j ∧ i.length + j.length ≤ sizeLine ∧ Q (.str (i ++ j)) H) ∨ rCatL K x y H Q
theorem opr_add {X : Cx} : OpR X (binaryOp .Add) (rAddD X.K) := op_add.or (op_catA.or (op_add_str.or op_catL))
theorem rps_nil {K : PySem.W.Frag} {H : Hp} {xs : List V} {ds : List PyData} (r : Rps K H xs ds) : xs = [] ↔ ds = [] := by
  constructor
  · intro e; subst e; cases r; rfl
  · intro e; subst e; cases r; rfl
theorem op2_add {K : PySem.W.Frag} : Op2 K (rAddD K) gAdd := by
  intro H O x y d e z Q hO rx ry h q
  cases rx with
  | int i =>
    cases ry with
    | int j => cases h; exact .inl ⟨i, j, rfl, rfl, q _ H (Same.refl H) (.int _)⟩
    | _ => cases h
  | str i =>
    cases ry with
    | str j =>
      unfold gAdd at h
      dsimp only at h
      by_cases c : i.length + j.length ≤ sizeLine
      · rw [if_pos c] at h; cases h
        exact .inr (.inr (.inl ⟨i, j, rfl, rfl, c, q _ H (Same.refl H) (.str _)⟩))
      · rw [if_neg c] at h; cases h
    | _ => cases h
  | @tup a xs ds hx rs =>
    cases ry with
    | @tup b ys es hy rt =>
      unfold gAdd at h
      dsimp only at h
      by_cases c : ds.length + es.length ≤ sizeLine
      · rw [if_pos c] at h; cases h
        have hx' := seqT (hide_sub (O := O)) hx
        have hy' := seqT (hide_sub (O := O)) hy
        refine .inr (.inl ⟨a, b, xs, ys, rfl, rfl, hx', hy', by rw [rs.length, rt.length]; exact c, fun n => ?_, fun n n2 => ?_, fun n n2 p hp => ?_⟩)
        · have : ds = [] := (rps_nil rs).mp n
          subst this
          exact q _ H (Same.refl H) (.tup hy rt)
        · have : es = [] := (rps_nil rt).mp n2
          subst this
          rw [List.append_nil] at q
          exact q _ H (Same.refl H) (.tup hx rs)
        · exact q _ _ (same_new hp) (new_rep hO hp (rs.append rt))
      · rw [if_neg c] at h; cases h
    | _ => cases h
  | @lst a xs ds hx rs =>
    cases ry with
    | @lst b ys es hy rt =>
      unfold gAdd at h
      dsimp only at h
      by_cases c : ds.length + es.length ≤ sizeLine
      · rw [if_pos c] at h; cases h
        exact .inr (.inr (.inr ⟨a, b, xs, ys, rfl, rfl, seqL hide_sub hx, seqL hide_sub hy, by rw [rs.length, rt.length]; exact c, fun p hp => q _ _ (same_new hp) (new_repL hO hp (rs.append rt))⟩))
      · rw [if_neg c] at h; cases h
    | _ => cases h
  | _ => cases h
def gSub : PyData → PyData → Option PyData
  | .int i, .int j => some (.int (i - j))
  | .bool a, .bool b => some (.int ((if a = true then (1 : Int) else 0) - (if b = true then (1 : Int) else 0)))
  | _, _ => none
abbrev rSubD : R2 := fun x y H Q => (∃ i j, x = .int i ∧ y = .int j ∧ Q (.int (i - j)) H) ∨ rSubB x y H Q
theorem opr_sub {X : Cx} : OpR X (binaryOp .Sub) rSubD := op_sub.or op_subB
theorem op2_sub {K : PySem.W.Frag} : Op2 K rSubD gSub := by
  intro H O x y d e z Q hO rx ry h q
  cases rx with
  | int i =>
    cases ry with
    | int j => cases h; exact .inl ⟨i, j, rfl, rfl, q _ H (Same.refl H) (.int _)⟩
    | _ => cases h
  | bl i =>
    cases ry with
    | bl j => cases h; exact .inr ⟨i, j, rfl, rfl, q _ H (Same.refl H) (.int _)⟩
    | _ => cases h
  | _ => cases h
def gInt (C : Int → Int → Bool) (g : Int → Int → PyData) : PyData → PyData → Option PyData
  | .int i, .int j => if C i j = true then some (g i j) else none
  | _, _ => none
theorem op2_int {K : PySem.W.Frag} {P : Int → Int → Prop} {C : Int → Int → Bool} {g : Int → Int → PyData} {gv : Int → Int → V} (hc : ∀ i j, C i j = true → P i j) (hg : ∀ H i j, Rp K H (gv i j) (g i j)) : Op2 K (rI P gv) (gInt C g) := by
  intro H O x y d e z Q hO rx ry h q
  cases rx with
  | int i =>
    cases ry with
    | int j =>
      unfold gInt at h
      dsimp only at h
      by_cases c : C i j = true
      · rw [if_pos c] at h; cases h
        exact ⟨i, j, rfl, rfl, hc i j c, q _ H (Same.refl H) (hg _ i j)⟩
      · rw [if_neg c] at h; cases h
    | _ => cases h
  | _ => cases h
def cMul (i j : Int) : Bool := decide (i.natAbs.log2 + j.natAbs.log2 < 1000000)
def cDiv (_ j : Int) : Bool := decide (0 < j) && decide (j.natAbs.log2 < 9000)
def cMod (_ j : Int) : Bool := decide (0 < j)
abbrev gMul := gInt cMul fun i j => .int (i * j)
abbrev gDiv := gInt cDiv fun i j => .int (i / j)
abbrev gMod := gInt cMod fun i j => .int (i % j)
theorem op2_mul {K : PySem.W.Frag} : Op2 K (rI CMulW fun i j => .int (i * j)) gMul := op2_int (fun i j h => (of_decide_eq_true h : i.natAbs.log2 + j.natAbs.log2 < 1000000)) fun _ _ _ => .int _
theorem op2_div {K : PySem.W.Frag} : Op2 K (rI CDivW fun i j => .int (i / j)) gDiv := op2_int (fun _ _ h => by unfold cDiv at h; rw [Bool.and_eq_true] at h; exact ⟨of_decide_eq_true h.1, of_decide_eq_true h.2⟩) fun _ _ _ => .int _
theorem op2_mod {K : PySem.W.Frag} : Op2 K (rI (fun _ j => 0 < j) fun i j => .int (i % j)) gMod := op2_int (fun _ _ h => of_decide_eq_true h) fun _ _ _ => .int _
def gCmp (p : Int → Int → Bool) : PyData → PyData → Option PyData
  | .int i, .int j => some (.bool (p i j))
  | _, _ => none
theorem op2_cmp {K : PySem.W.Frag} {p : Int → Int → Bool} : Op2 K (rI0 fun i j => .bl (p i j)) (gCmp p) := by
  intro H O x y d e z Q hO rx ry h q
  cases rx with
  | int i =>
    cases ry with
    | int j => cases h; exact ⟨i, j, rfl, rfl, q _ H (Same.refl H) (.bl _)⟩
    | _ => cases h
  | _ => cases h
abbrev gLt := gCmp fun i j => decide (i < j)
abbrev gGt := gCmp fun i j => decide (j < i)
def shp (d : PyData) : Bool := d.canLay0 && decide (d.depth ≤ 190)
theorem canLay_of_shp {d : PyData} (h : shp d = true) : d.canLay0 = true := (Bool.and_eq_true_iff.mp h).1
theorem depth_of_shp {d : PyData} (h : shp d = true) : d.depth ≤ 190 := of_decide_eq_true (Bool.and_eq_true_iff.mp h).2
theorem room_of_shp {A : Around} {da db : PyData} (h : shp da = true) (hu : A.units + 190 < cLine) : A.units + min da.depth db.depth < cLine := by
  have h1 := depth_of_shp h
  have h2 : min da.depth db.depth ≤ da.depth := Nat.min_le_left _ _
  omega
theorem _root_.L2.Room.un190 {k : Nat} {A : Around} (r : Room k A) : A.units + 190 < cLine := by have := r.un; omega
def rEqX (K : PySem.W.Frag) : R2 := fun x y H Q => ∃ d e, Dp K H x d ∧ Dp K H y e ∧ shp d = true ∧ shp e = true ∧ Q (.bl (PyData.eqv d e)) H
def rNeX (K : PySem.W.Frag) : R2 := fun x y H Q => ∃ d e, Dp K H x d ∧ Dp K H y e ∧ shp d = true ∧ shp e = true ∧ Q (.bl (!PyData.eqv d e)) H
theorem op_eqX {X : Cx} (hu : X.A.units + 190 < cLine) : OpR X (compareOp .Eq) (rEqX X.K) := by
  intro pins s σ H x y v u Q I rx ry h
  obtain ⟨d, e, hd, he, sd, se, q⟩ := h
  obtain ⟨as, r1⟩ := Dp.reads I d x v hd rx
  obtain ⟨bs, r2⟩ := Dp.reads I e y u he ry
  exact SeqAt.compareEq_reads r1 r2 (canLay_of_shp sd) (canLay_of_shp se) (room_of_shp sd hu) ⟨.bl _, H, I, rfl, q⟩
theorem op_neX {X : Cx} (hu : X.A.units + 190 < cLine) : OpR X (compareOp .NotEq) (rNeX X.K) := by
  intro pins s σ H x y v u Q I rx ry h
  obtain ⟨d, e, hd, he, sd, se, q⟩ := h
  obtain ⟨as, r1⟩ := Dp.reads I d x v hd rx
  obtain ⟨bs, r2⟩ := Dp.reads I e y u he ry
  exact SeqAt.compareNe_reads r1 r2 (canLay_of_shp sd) (canLay_of_shp se) (room_of_shp sd hu) ⟨.bl _, H, I, rfl, q⟩
def gEq (d e : PyData) : Option PyData := if (shp d && shp e) = true then some (.bool (PyData.eqv d e)) else none
def gNe (d e : PyData) : Option PyData := if (shp d && shp e) = true then some (.bool (!PyData.eqv d e)) else none
theorem op2_eq {K : PySem.W.Frag} : Op2 K (rEqX K) gEq := by
  intro H O x y d e z Q hO rx ry h q
  unfold gEq at h
  by_cases c : (shp d && shp e) = true
  · rw [if_pos c] at h; cases h
    rw [Bool.and_eq_true] at c
    exact ⟨d, e, rx.dp (canLay_of_shp c.1) hide_sub, ry.dp (canLay_of_shp c.2) hide_sub, c.1, c.2, q _ H (Same.refl H) (.bl _)⟩
  · rw [if_neg c] at h; cases h
theorem op2_ne {K : PySem.W.Frag} : Op2 K (rNeX K) gNe := by
  intro H O x y d e z Q hO rx ry h q
  unfold gNe at h
  by_cases c : (shp d && shp e) = true
  · rw [if_pos c] at h; cases h
    rw [Bool.and_eq_true] at c
    exact ⟨d, e, rx.dp (canLay_of_shp c.1) hide_sub, ry.dp (canLay_of_shp c.2) hide_sub, c.1, c.2, q _ H (Same.refl H) (.bl _)⟩
  · rw [if_neg c] at h; cases h
def isN : PyData → Bool
  | .none => true
  | _ => false
def gIsN (d e : PyData) : Option PyData := if isN e = true then some (.bool (isN d)) else none
def gNotN (d e : PyData) : Option PyData := if isN e = true then some (.bool (!isN d)) else none
theorem isN_rp {K : PySem.W.Frag} {H : Hp} {x : V} {d : PyData} (r : Rp K H x d) : decide (x = .non) = isN d := by
  cases r <;> simp [isN]
theorem op2_isN {K : PySem.W.Frag} : Op2 K (fun x y H Q => y = .non ∧ Q (.bl (decide (x = .non))) H) gIsN := by
  intro H O x y d e z Q hO rx ry h q
  unfold gIsN at h
  cases ry with
  | non =>
    cases h
    rw [isN_rp rx]
    exact ⟨rfl, q _ H (Same.refl H) (.bl _)⟩
  | _ => cases h
theorem op2_notN {K : PySem.W.Frag} : Op2 K (fun x y H Q => y = .non ∧ Q (.bl (!decide (x = .non))) H) gNotN := by
  intro H O x y d e z Q hO rx ry h q
  unfold gNotN at h
  cases ry with
  | non =>
    cases h
    rw [isN_rp rx]
    exact ⟨rfl, q _ H (Same.refl H) (.bl _)⟩
  | _ => cases h
def gIx : PyData → PyData → Option PyData
  | .tuple xs, .int i => atI xs i
  | .list xs, .int i => atI xs i
  | .str x, .int i => if x.length ≤ sizeLine then (atI x.cps.toList i).map fun c => .str ⟨#[c]⟩ else none
  | _, _ => none
theorem atI_rps {K : PySem.W.Frag} {H : Hp} {xs : List V} {ds : List PyData} {i : Int} {d : PyData} (r : Rps K H xs ds) (h : atI ds i = some d) : ∃ v, atI xs i = some v ∧ Rp K H v d := by
  unfold atI at h ⊢
  rw [r.length]
  cases e : ixN ds.length i with
  | none => rw [e] at h; cases h
  | some j =>
    rw [e] at h
    exact r.get (i := j) h
theorem op2_ix {K : PySem.W.Frag} : Op2 K (rIx K) gIx := by
  intro H O x y d e z Q hO rx ry h q
  cases rx with
  | @tup a xs ds hx rs =>
    cases ry with
    | int i =>
      obtain ⟨v, h1, h2⟩ := atI_rps rs (show atI ds i = some z from h)
      exact .inr (.inl ⟨a, xs, i, v, rfl, rfl, seqT hide_sub hx, h1, q v H (Same.refl H) h2⟩)
    | _ => cases h
  | @lst a xs ds hx rs =>
    cases ry with
    | int i =>
      obtain ⟨v, h1, h2⟩ := atI_rps rs (show atI ds i = some z from h)
      exact .inl ⟨a, xs, i, v, rfl, rfl, seqL hide_sub hx, h1, q v H (Same.refl H) h2⟩
    | _ => cases h
  | str x =>
    cases ry with
    | int i =>
      unfold gIx at h
      dsimp only at h
      by_cases c : x.length ≤ sizeLine
      · rw [if_pos c] at h
        cases e : atI x.cps.toList i with
        | none => rw [e] at h; cases h
        | some k =>
          rw [e] at h
          cases h
          exact .inr (.inr ⟨x, i, k, rfl, rfl, c, e, q _ H (Same.refl H) (.str _)⟩)
      · rw [if_neg c] at h; cases h
    | _ => cases h
  | _ => cases h
def cutD {α : Type} (xs : List α) (lo hi : Option Int) : List α := (xs.drop (HT.sIx xs.length 0 lo)).take (HT.sIx xs.length xs.length hi - HT.sIx xs.length 0 lo)
def gSl : PyData → Option Int → Option Int → Option PyData
  | .tuple xs, lo, hi => some (.tuple (cutD xs lo hi))
  | .list xs, lo, hi => some (.list (cutD xs lo hi))
  | _, _, _ => none
theorem rps_cut {K : PySem.W.Frag} {H : Hp} {xs : List V} {ds : List PyData} {lo hi : Option Int} (r : Rps K H xs ds) : Rps K H (cutV xs lo hi) (cutD ds lo hi) := by
  unfold cutV cutD
  rw [r.length]
  exact (r.drop _).take _
theorem cut_whole {α : Type} {xs : List α} {lo hi : Option Int} (h : HT.sIx xs.length 0 lo = 0 ∧ HT.sIx xs.length xs.length hi = xs.length) : cutD xs lo hi = xs := by
  unfold cutD
  rw [h.1, h.2]
  simp
section
variable {X : Cx} {W : WX}
def eSl (f : Vars → R PyData) (g h : Vars → R (Option Int)) (ρ : Vars) : R PyData := (f ρ).bind fun d => (g ρ).bind fun l => (h ρ).bind fun u => R.of (gSl d l u)
def oNone (_ : Vars) : R (Option Int) := .ok none
def oSome (f : Vars → R PyData) (ρ : Vars) : R (Option Int) := (f ρ).bind fun d => match d with
  | .int i => .ok (some i)
  | _ => .bad
theorem ox_none : OX X W none oNone := ⟨_, po_none, fun σ H O ρ Q _ _ q => q H (Same.refl H)⟩
theorem ox_some {e : Expr} {f : Vars → R PyData} (h : EX X W e f) : OX X W (some e) (oSome f) := by
  obtain ⟨t, p, ht⟩ := h
  refine ⟨_, po_some p, fun σ H O ρ Q hO hv z => ht σ H O ρ _ hO hv ?_⟩
  unfold oSome at z
  cases q : f ρ with
  | bad => rw [q] at z; exact z
  | err c => rw [q] at z; exact z
  | ok d =>
    rw [q] at z
    intro v H1 s1 r1
    cases r1 with
    | int i => exact ⟨i, rfl, z H1 s1⟩
    | _ => exact z.elim
theorem ex_slice {e : Expr} {lo hi : Option Expr} {f : Vars → R PyData} {g h : Vars → R (Option Int)} {p2 pos : Pos} (he : EX X W e f) (hl : OX X W lo g) (hu : OX X W hi h) : EX X W (.Subscript e (.Slice lo hi none p2) pos) (eSl f g h) := by
  obtain ⟨t, p, ht⟩ := he
  obtain ⟨tl, pl, htl⟩ := hl
  obtain ⟨tu, pu, htu⟩ := hu
  refine ⟨_, pe_slice (sl_tupA.or sl_list) p pl pu, fun σ H O ρ Q hO hv z => ht σ H O ρ _ hO hv (EOut.then (g := fun d => (g ρ).bind fun l => (h ρ).bind fun u => R.of (gSl d l u)) EOut.b EOut.e z fun d v H1 s1 r1 z1 => ?_)⟩
  refine htl σ H1 O ρ _ (hO.same s1) (hv.mono (hide_same s1)) ?_
  cases q1 : g ρ with
  | bad => rw [q1] at z1; exact z1.elim
  | err c => rw [q1] at z1; exact fun H2 s2 => z1 H2 (s1.trans s2)
  | ok l =>
    rw [q1] at z1
    intro H2 s2
    refine htu σ H2 O ρ _ ((hO.same s1).same s2) (hv.mono (hide_same (s1.trans s2))) ?_
    cases q2 : h ρ with
    | bad => rw [q2] at z1; exact z1.elim
    | err c => rw [q2] at z1; exact fun H3 s3 => z1 H3 ((s1.trans s2).trans s3)
    | ok u =>
      rw [q2] at z1
      intro H3 s3
      have r3 := r1.mono (hide_same (O := O) (s2.trans s3))
      have hO3 := (hO.same s1).same (s2.trans s3)
      have s13 : Same H H3 := s1.trans (s2.trans s3)
      cases r3 with
      | @tup a xs ds hx rs =>
        have hx' := seqT (hide_sub (O := O)) hx
        refine .inl ⟨a, xs, rfl, hx', fun w => ?_, fun w p hp => ?_⟩
        · refine z1 _ H3 s13 ?_
          rw [cut_whole (by rw [← rs.length]; exact w)]
          exact .tup hx rs
        · exact z1 _ _ (s13.trans (same_new hp)) (new_rep hO3 hp (rps_cut rs))
      | @lst a xs ds hx rs =>
        refine .inr ⟨a, xs, rfl, seqL hide_sub hx, fun p hp => ?_⟩
        exact z1 _ _ (s13.trans (same_new hp)) (new_repL hO3 hp (rps_cut rs))
      | _ => exact z1.elim
def eNeg (f : Vars → R PyData) (ρ : Vars) : R PyData := (f ρ).bind fun d => match d with
  | .int i => .ok (.int (-i))
  | _ => .bad
theorem ex_neg {a : Expr} {f : Vars → R PyData} {pos : Pos} (h : EX X W a f) : EX X W (.UnaryOp .USub a pos) (eNeg f) := by
  obtain ⟨t, p, ht⟩ := h
  refine ⟨_, pe_un un_neg p, fun σ H O ρ Q hO hv z => ht σ H O ρ _ hO hv ?_⟩
  unfold eNeg at z
  cases q : f ρ with
  | bad => rw [q] at z; exact z
  | err c => rw [q] at z; exact z
  | ok d =>
    rw [q] at z
    intro v H1 s1 r1
    cases r1 with
    | int i => exact ⟨i, rfl, z _ H1 s1 (.int _)⟩
    | _ => exact z.elim
def CallD (K : PySem.W.Frag) (r : List V → Hp → VK → Prop) (g : List PyData → Option PyData) : Prop :=
  ∀ (H : Hp) (O : List Addr) (xs : List V) (ds : List PyData) (z : PyData) (Q : VK), Stands O H → Rps K (hide O H) xs ds → g ds = some z → (∀ v H', Same H H' → Rp K (hide O H') v z → Q v H') → r xs H Q
def eCall (g : List PyData → Option PyData) (f : Vars → R (List PyData)) (ρ : Vars) : R PyData := (f ρ).bind fun ds => R.of (g ds)
theorem call_run {r : List V → Hp → VK → Prop} {g : List PyData → Option PyData} (ho : CallD X.K r g) {ta : TA} {f : Vars → R (List PyData)}
    (ha : ∀ σ H O ρ Q, Stands O H → VRel X.K (hide O H) σ ρ → AOut X W O σ H Q (f ρ) → ta σ H Q) :
    ∀ σ H O ρ Q, Stands O H → VRel X.K (hide O H) σ ρ → EOut X W O σ H Q (eCall g f ρ) → tCB r ta σ H Q := fun σ H O ρ Q hO hr z =>
  ha σ H O ρ _ hO hr (AOut.then (g := fun ds => R.of (g ds)) EOut.b EOut.e z fun ds vs H1 s1 r1 z1 => by
    cases q : g ds with
    | none => rw [q] at z1; exact z1.elim
    | some w =>
      rw [q] at z1
      exact ho H1 O vs ds w Q (hO.same s1) r1 q fun v H2 s2 r2 => z1 v H2 (s1.trans s2) r2)
theorem ex_callB {id : String} {x : Str} {r : List V → Hp → VK → Prop} {g : List PyData → Option PyData} {e : Expr} {es : List Expr} {f : Vars → R (List PyData)} {p pos : Pos} (hc : CallR X (.builtin id) r) (ho : CallD X.K r g) (hg : Gl X x) (hm : X.mg x = none) (hv : bootBuiltins x = some (.builtin id)) (ha : AX X W (e :: es) f)
    (hn : x ≠ "__name__" := by decide) (hdb : (x == ("__debug__" : Str)) = false := by decide)
    (he : starEach (e :: es) X.env = (false, eval e X.env) :: starEach es X.env := by rfl) (hpl : (backTo pos (starEach es X.env)).any (·.1) = false := by rfl) : EX X W (.Call (.Name x p) (e :: es) [] pos) (eCall g f) := by
  obtain ⟨t, q, ht⟩ := ha
  exact ⟨_, pe_callB hc hg hm hv q hn hdb he hpl, call_run ho ht⟩
theorem ex_callT {T : String} {x : Str} {r : List V → Hp → VK → Prop} {g : List PyData → Option PyData} {e : Expr} {es : List Expr} {f : Vars → R (List PyData)} {p pos : Pos} (hc : CallR X (.type T) r) (ho : CallD X.K r g) (hg : Gl X x) (hm : X.mg x = none) (hv : bootBuiltins x = some (.type T)) (ha : AX X W (e :: es) f)
    (hn : x ≠ "__name__" := by decide) (hdb : (x == ("__debug__" : Str)) = false := by decide)
    (he : starEach (e :: es) X.env = (false, eval e X.env) :: starEach es X.env := by rfl) (hpl : (backTo pos (starEach es X.env)).any (·.1) = false := by rfl) : EX X W (.Call (.Name x p) (e :: es) [] pos) (eCall g f) := by
  obtain ⟨t, q, ht⟩ := ha
  exact ⟨_, pe_callTy hc hg hm hv q hn hdb he hpl, call_run ho ht⟩
end
def gLen : List PyData → Option PyData
  | [.tuple xs] => some (.int xs.length)
  | [.list xs] => some (.int xs.length)
  | [.str x] => if x.length ≤ sizeLine then some (.int x.length) else none
  | _ => none
theorem rps_one {K : PySem.W.Frag} {H : Hp} {vs : List V} {d : PyData} (r : Rps K H vs [d]) : ∃ v, vs = [v] ∧ Rp K H v d := by
  cases r with
  | cons h t => cases t; exact ⟨_, rfl, h⟩
theorem rps_two {K : PySem.W.Frag} {H : Hp} {vs : List V} {d e : PyData} (r : Rps K H vs [d, e]) : ∃ v w, vs = [v, w] ∧ Rp K H v d ∧ Rp K H w e := by
  cases r with
  | cons h t => cases t with | cons h2 t => cases t; exact ⟨_, _, rfl, h, h2⟩
theorem calld_len {K : PySem.W.Frag} : CallD K (fun xs H Q => ∃ x n, xs = [x] ∧ LenV K x H n ∧ Q (.int n) H) gLen := by
  intro H O xs ds z Q hO r h q
  unfold gLen at h
  split at h
  · cases h
    obtain ⟨v, rfl, rv⟩ := rps_one r
    cases rv with
    | tup hx rs => rw [← rs.length] at q; exact ⟨_, _, rfl, .inr ⟨_, seqT hide_sub hx, rfl⟩, q _ H (Same.refl H) (.int _)⟩
  · cases h
    obtain ⟨v, rfl, rv⟩ := rps_one r
    cases rv with
    | lst hx rs => rw [← rs.length] at q; exact ⟨_, _, rfl, .inl ⟨_, seqL hide_sub hx, rfl⟩, q _ H (Same.refl H) (.int _)⟩
  · rename_i x
    by_cases c : x.length ≤ sizeLine
    · rw [if_pos c] at h; cases h
      obtain ⟨v, rfl, rv⟩ := rps_one r
      cases rv
      exact ⟨_, _, rfl, ⟨c, rfl⟩, q _ H (Same.refl H) (.int _)⟩
    · rw [if_neg c] at h; cases h
  · cases h
def gList : List PyData → Option PyData
  | [.tuple xs] => some (.list xs)
  | [.list xs] => some (.list xs)
  | _ => none
theorem calld_list {K : PySem.W.Frag} : CallD K (fun xs H Q => ∃ p ys, xs = [.ref p] ∧ (SqL K H p ys ∨ SqT K H p ys) ∧ ∀ l, H l = none → Q (.ref l) (upd H l (.lst ys))) gList := by
  intro H O xs ds z Q hO r h q
  unfold gList at h
  split at h
  · cases h
    obtain ⟨v, rfl, rv⟩ := rps_one r
    cases rv with
    | tup hx rs => exact ⟨_, _, rfl, .inr (seqT hide_sub hx), fun l hl => q _ _ (same_new hl) (new_repL hO hl rs)⟩
  · cases h
    obtain ⟨v, rfl, rv⟩ := rps_one r
    cases rv with
    | lst hx rs => exact ⟨_, _, rfl, .inl (seqL hide_sub hx), fun l hl => q _ _ (same_new hl) (new_repL hO hl rs)⟩
  · cases h
def gMax2 : List PyData → Option PyData
  | [.int i, .int j] => some (.int (if j > i then j else i))
  | _ => none
theorem calld_max2 {K : PySem.W.Frag} : CallD K (fun xs H Q => ∃ i j, xs = [.int i, .int j] ∧ Q (.int (if j > i then j else i)) H) gMax2 := by
  intro H O xs ds z Q hO r h q
  unfold gMax2 at h
  split at h
  · cases h
    obtain ⟨v, w, rfl, rv, rw'⟩ := rps_two r
    cases rv
    cases rw'
    exact ⟨_, _, rfl, q _ H (Same.refl H) (.int _)⟩
  · cases h
def intsOf : List PyData → Option (List Int)
  | [] => some []
  | .int i :: r => (intsOf r).map fun ns => i :: ns
  | _ => none
theorem intsOf_eq : ∀ {ds : List PyData} {ns : List Int}, intsOf ds = some ns → ds = ns.map PyData.int
  | [], ns, h => by cases h; rfl
  | .int i :: r, ns, h => by
    unfold intsOf at h
    cases e : intsOf r with
    | none => rw [e] at h; cases h
    | some ms => rw [e] at h; cases h; rw [intsOf_eq e]; rfl
  | .none :: _, _, h => by cases h
  | .bool _ :: _, _, h => by cases h
  | .str _ :: _, _, h => by cases h
  | .list _ :: _, _, h => by cases h
  | .tuple _ :: _, _, h => by cases h
  | .dict _ :: _, _, h => by cases h
theorem intsOf_map : ∀ ns : List Int, intsOf (ns.map PyData.int) = some ns
  | [] => rfl
  | n :: ns => by
    show (intsOf (ns.map PyData.int)).map _ = _
    rw [intsOf_map ns]; rfl
def maxI : Int → List Int → Int
  | m, [] => m
  | m, n :: ns => maxI (if n > m then n else m) ns
theorem maxI_mem : ∀ (m : Int) (ns : List Int), maxI m ns ∈ m :: ns
  | m, [] => by simp [maxI]
  | m, n :: ns => by
    unfold maxI
    have h := maxI_mem (if n > m then n else m) ns
    rcases List.mem_cons.mp h with h | h
    · rw [h]
      by_cases c : n > m
      · rw [if_pos c]; simp
      · rw [if_neg c]; simp
    · simp [h]
theorem maxI_le : ∀ (m : Int) (ns : List Int) (y : Int), y ∈ m :: ns → y ≤ maxI m ns
  | m, [], y, h => by simp at h; subst h; exact Int.le_refl _
  | m, n :: ns, y, h => by
    unfold maxI
    have h0 := maxI_le (if n > m then n else m) ns (if n > m then n else m) (by simp)
    have h1 := maxI_le (if n > m then n else m) ns
    by_cases c : n > m
    · rw [if_pos c] at h0 h1 ⊢
      simp only [List.mem_cons] at h
      rcases h with h | h | h
      · subst h; omega
      · subst h; exact h0
      · exact h1 y (by simp [h])
    · rw [if_neg c] at h0 h1 ⊢
      simp only [List.mem_cons] at h
      rcases h with h | h | h
      · subst h; exact h0
      · subst h; omega
      · exact h1 y (by simp [h])
def fnB : PyData → Bool
  | .dict [(.none, .list _)] => true
  | .dict [(.none, .dict _)] => true
  | .dict [(.none, .bool _), _] => true
  | _ => false
def insB : List (PyData × PyData) → Bool
  | (.none, _) :: _ => true
  | _ => false
def isiB (T : String) (d : PyData) : Bool := match d with
  | .none => false
  | .bool _ => T == "bool" || T == "int"
  | .int _ => T == "int"
  | .str _ => T == "str"
  | .list _ => T == "list"
  | .tuple _ => T == "tuple"
  | .dict kvs => T == "dict" && !insB kvs
def kitAll (T : String) : Bool := (["int", "bool", "str", "list", "tuple", "dict"] : List String).contains T && (decide (kitB "NoneType" T = some false) && decide (kitB "bool" T = some (T == "bool" || T == "int")) && decide (kitB "int" T = some (T == "int")) && decide (kitB "str" T = some (T == "str")) && decide (kitB "list" T = some (T == "list")) && decide (kitB "tuple" T = some (T == "tuple")) && decide (kitB "dict" T = some (T == "dict")))
theorem kit_int : kitAll "int" = true := by decide +kernel
theorem kit_bool : kitAll "bool" = true := by decide +kernel
theorem kit_tuple : kitAll "tuple" = true := by decide +kernel
theorem kit_list : kitAll "list" = true := by decide +kernel
theorem kit_dict : kitAll "dict" = true := by decide +kernel
theorem kit_is {K : PySem.W.Frag} {H : Hp} {v : V} {d : PyData} {T : String} (h : kitAll T = true) (r : Rp K H v d) (nf : fnB d = false) : ∃ t, TyX K H v t ∧ PySem.W.kitOne K t (.type T) = some (isiB T d) := by
  unfold kitAll at h
  rw [Bool.and_eq_true] at h
  have hm := List.contains_iff_mem.mp h.1
  replace h := h.2
  simp only [Bool.and_eq_true, decide_eq_true_eq] at h
  obtain ⟨⟨⟨⟨⟨⟨h1, h2⟩, h3⟩, h4⟩, h5⟩, h6⟩, h7⟩ := h
  cases r with
  | fn _ => cases nf
  | fn0 => cases nf
  | dct => cases nf
  | tpx => cases nf
  | non => exact ⟨_, .base .non, kit_ty h1⟩
  | bl b => exact ⟨_, .base (.bl b), kit_ty h2⟩
  | int b => exact ⟨_, .base (.int b), kit_ty h3⟩
  | str b => exact ⟨_, .base (.str b), kit_ty h4⟩
  | lst h _ =>
    rcases h with (h | ⟨o, h⟩) | ⟨o, its, n, h, hc, _⟩
    · exact ⟨_, .base (.lst h), kit_ty h5⟩
    · exact ⟨_, .base (.frz h), kit_ty h5⟩
    · exact ⟨_, .kList h hc, kit_ty h5⟩
  | tup h _ =>
    rcases h with (h | ⟨o, h⟩) | ⟨o, its, n, h, hc, _⟩
    · exact ⟨_, .base (.tup h), kit_ty h6⟩
    · exact ⟨_, .fTuple h, kit_ty h6⟩
    · exact ⟨_, .kTuple h hc, kit_ty h6⟩
  | dic h r =>
    refine ⟨.type "dict", by rcases h with h | ⟨o, h⟩; exact .base (.dK h); exact .fDict h, ?_⟩
    have e : ∀ ds, insB ds = false → isiB T (.dict ds) = (T == "dict") := fun ds e => by show (T == "dict" && !insB ds) = _; rw [e]; simp
    cases r with
    | nil => rw [e _ rfl]; exact kit_ty h7
    | @cons k _ _ _ _ _ _ => cases k <;> rw [e _ rfl] <;> exact kit_ty h7
  | ins h _ c _ =>
    refine ⟨_, .base (.ins h c.cl c.ha c.hn c.htk c.hm), ?_⟩
    have e : ∀ b : PyData, isiB T (.dict [(.none, b)]) = false := fun b => by show (T == "dict" && !true) = false; simp
    rw [e]
    exact c.no T hm
section
variable {X : Cx} {W : WX}
def gIsi (T : String) (d : PyData) : R PyData := if fnB d = true then .bad else .ok (.bool (isiB T d))
@[simp] theorem gIsi_non (T : String) : gIsi T .none = .ok (.bool (isiB T .none)) := rfl
@[simp] theorem gIsi_bl (T : String) (b : Bool) : gIsi T (.bool b) = .ok (.bool (isiB T (.bool b))) := rfl
@[simp] theorem gIsi_int (T : String) (b : Int) : gIsi T (.int b) = .ok (.bool (isiB T (.int b))) := rfl
@[simp] theorem gIsi_str (T : String) (b : Str) : gIsi T (.str b) = .ok (.bool (isiB T (.str b))) := rfl
@[simp] theorem gIsi_lst (T : String) (b : List PyData) : gIsi T (.list b) = .ok (.bool (isiB T (.list b))) := rfl
@[simp] theorem gIsi_tup (T : String) (b : List PyData) : gIsi T (.tuple b) = .ok (.bool (isiB T (.tuple b))) := rfl
theorem fnB_ins {ds : List (PyData × PyData)} (h : insB ds = false) : fnB (.dict ds) = false := by
  cases ds with
  | nil => rfl
  | cons p r =>
    obtain ⟨k, v⟩ := p
    cases k <;> first | rfl | (cases h)
@[simp] theorem gIsi_dict (T : String) {ds : List (PyData × PyData)} (h : insB ds = false) : gIsi T (.dict ds) = .ok (.bool (isiB T (.dict ds))) := by
  unfold gIsi
  rw [fnB_ins h]; rfl
@[simp] theorem gIsi_ins (T : String) (x : List PyData) : gIsi T (.dict [(.none, .tuple x)]) = .ok (.bool (isiB T (.dict [(.none, .tuple x)]))) := rfl
theorem gIsi_no {T : String} {d : PyData} (h : fnB d = false) : gIsi T d = .ok (.bool (isiB T d)) := by
  unfold gIsi
  rw [h]; rfl
@[simp] theorem gIsi_t {T : String} {d : PyData} (h : isiB T d = true) : gIsi T d = .ok (.bool true) := by
  cases d with
  | dict ds =>
    have : insB ds = false := by
      unfold isiB at h
      simp at h
      exact h.2
    rw [gIsi_dict T this, h]
  | _ => simp [h]
def eIsi (T : String) (f : Vars → R PyData) (ρ : Vars) : R PyData := (f ρ).bind fun d => gIsi T d
theorem ex_isi {T : String} {x : Str} {a : Expr} {f : Vars → R PyData} {p p2 pos : Pos} (hk : kitAll T = true) (hg : Gl X "isinstance") (hm : X.mg "isinstance" = none) (hgT : Gl X x) (hmT : X.mg x = none) (hvT : bootBuiltins x = some (.type T)) (ha : EX X W a f)
    (hn : x ≠ "__name__" := by decide) (hdb : (x == ("__debug__" : Str)) = false := by decide)
    (he : starEach [a, .Name x p2] X.env = (false, eval a X.env) :: starEach [.Name x p2] X.env := by rfl) (hpl : (backTo pos (starEach [.Name x p2] X.env)).any (·.1) = false := by rfl)
    (he2 : starEach [.Name x p2] X.env = (false, eval (.Name x p2) X.env) :: starEach [] X.env := by rfl) : EX X W (.Call (.Name "isinstance" p) [a, .Name x p2] [] pos) (eIsi T f) := by
  obtain ⟨t, q, ht⟩ := ha
  refine ⟨_, pe_callB call_isi hg hm (by decide +kernel) (pa_cons q (pa_cons (pe_bltn (v := .ty T) hgT hmT hvT rfl hn hdb) pa_nil he2) he) (by decide) (by decide) he hpl, fun σ H O ρ Q hO hv z => ht σ H O ρ _ hO hv (EOut.then (g := fun d => gIsi T d) EOut.b EOut.e z fun d v H1 s1 r1 z1 => ?_)⟩
  cases nf : fnB d with
  | true => unfold gIsi at z1; rw [if_pos nf] at z1; exact z1.elim
  | false =>
  rw [gIsi_no nf] at z1
  obtain ⟨ty, k1, k2⟩ := kit_is hk (r1.mono hide_sub) nf
  exact ⟨v, .ty T, _, _, _, rfl, .ty T, k1, k2, z1 _ H1 s1 (.bl _)⟩
end
end Pu
set_option Elab.async false
set_option linter.all false
set_option maxRecDepth 100000
set_option maxHeartbeats 4000000
namespace Pu
open PySem PySem.Spec PyProof.Rows L2
def SpOut (K : PySem.W.Frag) (mg : Str → Option Value) (O : List Addr) (H : Hp) (Q : VK) (E : XK) : R PyData → Prop
  | .ok d => ∀ v H', Same H H' → Rp K (hide O H') v d → Q v H'
  | .err c => ∀ H', Same H H' → E (exV mg c) none H'
  | .bad => False
def spD (K : PySem.W.Frag) (mg : Str → Option Value) (n : Nat) (f : List PyData → R PyData) : Sp := fun vs H Q E =>
  vs.length = n ∧ ∃ O ds, Stands O H ∧ Rps K (hide O H) vs ds ∧ SpOut K mg O H Q E (f ds)
def Cal (P : Program) (w : World) (K : PySem.W.Frag) (mg : Str → Option Value) (base : Heap) (k : Nat) (x : Str) (n : Nat) (f : List PyData → R PyData) : Prop :=
  ∃ (fa : Addr) (fd : FuncData) (ps : List Str), ps.length = n ∧ FnOk P w K mg base (L2.CX P w) k fa fd ps (spD K mg n f) ∧ mg x = some (.ref fa) ∧ PySem.W.keepIn K (.ref fa) = true ∧ Binds K fd ps []
theorem Cal.mono {P : Program} {w : World} {K : PySem.W.Frag} {mg : Str → Option Value} {base : Heap} {k k' n : Nat} {x : Str} {f : List PyData → R PyData} (h : Cal P w K mg base k x n f) (l : k ≤ k') : Cal P w K mg base k' x n f := by
  obtain ⟨fa, fd, ps, h1, h2, h3⟩ := h
  exact ⟨fa, fd, ps, h1, h2.mono l, h3⟩
def eFn (g : List PyData → R PyData) (f : Vars → R (List PyData)) (ρ : Vars) : R PyData := (f ρ).bind g
section
variable {X : Cx} {W : WX}
theorem ex_fn {k n : Nat} {x : Str} {g : List PyData → R PyData} {e : Expr} {es : List Expr} {f : Vars → R (List PyData)} {p pos : Pos} (tk : Takes X W) (F : Cal X.prog X.w X.K X.mg X.base k x n g) (hr : Room k X.A) (hg : Gl X x) (ha : AX X W (e :: es) f) (hn : es.length + 1 = n)
    (hdb : (x == ("__debug__" : Str)) = false := by decide) (he : starEach (e :: es) X.env = (false, eval e X.env) :: starEach es X.env := by rfl) (hpl : (backTo pos (starEach es X.env)).any (·.1) = false := by rfl) (hlen : ∀ ρ ds, f ρ = .ok ds → ds.length = n) :
    EX X W (.Call (.Name x p) (e :: es) [] pos) (eFn g f) := by
  obtain ⟨fa, fd, ps, h1, h2, h3, h4, h5⟩ := F
  obtain ⟨t, q, ht⟩ := ha
  refine ⟨_, pe_callS h2 hr hg h3 h4 h5 (fun σ => passAt tk σ) q hdb he hpl, fun σ H O ρ Q hO hv z => ht σ H O ρ _ hO hv ?_⟩
  unfold eFn at z
  cases e1 : f ρ with
  | bad => rw [e1] at z; exact z
  | err c => rw [e1] at z; exact z
  | ok ds =>
    rw [e1] at z
    intro vs H1 s1 r1
    refine ⟨by rw [r1.length]; exact hlen ρ ds e1, O, ds, hO.same s1, r1, ?_⟩
    cases e2 : g ds with
    | bad => rw [R.bind_ok, e2] at z; exact z.elim
    | err c => rw [R.bind_ok, e2] at z; exact fun H' s' => z H' (s1.trans s')
    | ok d => rw [R.bind_ok, e2] at z; exact fun v H' s' r' => z v H' (s1.trans s') r'
theorem aNil_len {ρ : Vars} {ds : List PyData} (h : aNil ρ = .ok ds) : ds.length = 0 := by cases h; rfl
theorem aCons_len {f : Vars → R PyData} {g : Vars → R (List PyData)} {n : Nat} (h : ∀ ρ ds, g ρ = .ok ds → ds.length = n) : ∀ ρ ds, aCons f g ρ = .ok ds → ds.length = n + 1 := fun ρ ds e => by
  unfold aCons at e
  cases e1 : f ρ with
  | bad => rw [e1] at e; cases e
  | err c => rw [e1] at e; cases e
  | ok d =>
    rw [e1, R.bind_ok] at e
    cases e2 : g ρ with
    | bad => rw [e2] at e; cases e
    | err c => rw [e2] at e; cases e
    | ok ds' => rw [e2] at e; cases e; rw [List.length_cons, h ρ ds' e2]
end
def maskF (own : List Nat) : Nat → Vars → Vars
  | _, [] => []
  | k, x :: r => (if own.contains k = true then none else x) :: maskF own (k + 1) r
abbrev mask (own : List Nat) (ρ : Vars) : Vars := maskF own 0 ρ
theorem maskF_len (own : List Nat) : ∀ (k : Nat) (ρ : Vars), (maskF own k ρ).length = ρ.length
  | _, [] => rfl
  | k, x :: r => by unfold maskF; rw [List.length_cons, List.length_cons, maskF_len own (k + 1) r]
theorem maskF_get (own : List Nat) : ∀ (k : Nat) (ρ : Vars) (i : Nat), (maskF own k ρ)[i]? = if k + i ∈ own then (ρ[i]?).map fun _ => none else ρ[i]?
  | k, [], i => by simp [maskF]
  | k, x :: r, 0 => by
    unfold maskF
    by_cases c : k ∈ own <;> simp [c]
  | k, x :: r, i + 1 => by
    unfold maskF
    rw [List.getElem?_cons_succ, List.getElem?_cons_succ, maskF_get own (k + 1) r i, show k + 1 + i = k + (i + 1) by omega]
theorem mask_some {own : List Nat} {ρ : Vars} {i : Nat} {d : PyData} (h : (mask own ρ)[i]? = some (some d)) : i ∉ own ∧ ρ[i]? = some (some d) := by
  unfold mask at h
  rw [maskF_get, Nat.zero_add] at h
  by_cases c : i ∈ own
  · rw [if_pos c] at h
    cases e : ρ[i]? <;> rw [e] at h <;> cases h
  · rw [if_neg c] at h; exact ⟨c, h⟩
theorem mask_of {own : List Nat} {ρ : Vars} {i : Nat} {d : PyData} (c : i ∉ own) (h : ρ[i]? = some (some d)) : (mask own ρ)[i]? = some (some d) := by
  unfold mask
  rw [maskF_get, Nat.zero_add, if_neg c]; exact h
theorem mask_set {own : List Nat} {ρ : Vars} {i : Nat} {x : Option PyData} (c : i ∉ own) : mask own (ρ.set i x) = (mask own ρ).set i x := by
  apply List.ext_getElem?
  intro j
  unfold mask
  rw [maskF_get, Nat.zero_add]
  by_cases z : i = j
  · subst z
    rw [if_neg c]
    by_cases hl : i < ρ.length
    · rw [List.getElem?_set_self hl, List.getElem?_set_self (by rw [maskF_len]; exact hl)]
    · rw [List.getElem?_eq_none (by simpa using hl), List.getElem?_eq_none (by simp [maskF_len]; omega)]
  · rw [List.getElem?_set_ne z, List.getElem?_set_ne z, maskF_get, Nat.zero_add]
section
variable (X : Cx)
structure GtOk (js : List Nat) (gt : PyData → Vars → Option Vars) : Prop where
  len : ∀ d ρ ρ', gt d ρ = some ρ' → ρ'.length = ρ.length
  msk : ∀ own d ρ ρ', (∀ j ∈ js, j ∉ own) → gt d ρ = some ρ' → gt d (mask own ρ) = some (mask own ρ')
structure GtsOk (js : List Nat) (gt : List PyData → Vars → Option Vars) : Prop where
  len : ∀ d ρ ρ', gt d ρ = some ρ' → ρ'.length = ρ.length
  msk : ∀ own d ρ ρ', (∀ j ∈ js, j ∉ own) → gt d ρ = some ρ' → gt d (mask own ρ) = some (mask own ρ')
def GX (tg : Expr) (js : List Nat) (gt : PyData → Vars → Option Vars) : Prop := GtOk js gt ∧
  ∃ g, PG X tg g ∧ ∀ v d σ H O ρ ρ' Q, Stands O H → VRel X.K (hide O H) σ ρ → Rp X.K (hide O H) v d → gt d ρ = some ρ' →
    (∀ σ', VRel X.K (hide O H) σ' ρ' → σ'.length = σ.length → (∀ j : Nat, j ∉ js → σ'[j]? = σ[j]? ∧ ρ'[j]? = ρ[j]?) → Q σ' H) → g v σ H Q
def GsX (ts : List Expr) (js : List Nat) (gt : List PyData → Vars → Option Vars) : Prop := GtsOk js gt ∧
  ∃ g, PGs X ts g ∧ ∀ vs ds σ H O ρ ρ' Q, Stands O H → VRel X.K (hide O H) σ ρ → Rps X.K (hide O H) vs ds → gt ds ρ = some ρ' →
    (∀ σ', VRel X.K (hide O H) σ' ρ' → σ'.length = σ.length → (∀ j : Nat, j ∉ js → σ'[j]? = σ[j]? ∧ ρ'[j]? = ρ[j]?) → Q σ' H) → g vs σ H Q
end
def gtName (i : Nat) (d : PyData) (ρ : Vars) : Option Vars := some (ρ.set i (some d))
def gtNil (ds : List PyData) (ρ : Vars) : Option Vars := match ds with
  | [] => some ρ
  | _ => none
def gtCons (g : PyData → Vars → Option Vars) (h : List PyData → Vars → Option Vars) (ds : List PyData) (ρ : Vars) : Option Vars := match ds with
  | d :: r => (g d ρ).bind fun ρ' => h r ρ'
  | [] => none
def gtTup (n : Nat) (h : List PyData → Vars → Option Vars) (d : PyData) (ρ : Vars) : Option Vars := match d with
  | .tuple ds => if ds.length = n then h ds ρ else none
  | _ => none
theorem gtName_ok (i : Nat) : GtOk [i] (gtName i) where
  len := fun d ρ ρ' e => by cases e; simp
  msk := fun own d ρ ρ' h e => by cases e; unfold gtName; rw [mask_set (h i (by simp))]
theorem gtNil_ok : GtsOk [] gtNil where
  len := fun d ρ ρ' e => by cases d <;> cases e; rfl
  msk := fun own d ρ ρ' h e => by cases d <;> cases e; rfl
theorem gtCons_ok {js ks : List Nat} {g : PyData → Vars → Option Vars} {h : List PyData → Vars → Option Vars} (a : GtOk js g) (b : GtsOk ks h) : GtsOk (js ++ ks) (gtCons g h) where
  len := fun d ρ ρ' e => by
    cases d with
    | nil => cases e
    | cons d r =>
      have e' : (g d ρ).bind (fun ρ' => h r ρ') = some ρ' := e
      cases e1 : g d ρ with
      | none => rw [e1] at e'; cases e'
      | some ρ1 => rw [e1] at e'; rw [b.len r ρ1 ρ' e', a.len d ρ ρ1 e1]
  msk := fun own d ρ ρ' hj e => by
    cases d with
    | nil => cases e
    | cons d r =>
      have e' : (g d ρ).bind (fun ρ' => h r ρ') = some ρ' := e
      cases e1 : g d ρ with
      | none => rw [e1] at e'; cases e'
      | some ρ1 =>
        rw [e1] at e'
        show (g d (mask own ρ)).bind (fun ρ' => h r ρ') = _
        rw [a.msk own d ρ ρ1 (fun j hh => hj j (List.mem_append_left _ hh)) e1]
        exact b.msk own r ρ1 ρ' (fun j hh => hj j (List.mem_append_right _ hh)) e'
theorem gtTup_ok {n : Nat} {js : List Nat} {h : List PyData → Vars → Option Vars} (b : GtsOk js h) : GtOk js (gtTup n h) where
  len := fun d ρ ρ' e => by
    cases d <;> try cases e
    rename_i ds
    unfold gtTup at e
    dsimp only at e
    by_cases c : ds.length = n
    · rw [if_pos c] at e; exact b.len _ _ _ e
    · rw [if_neg c] at e; cases e
  msk := fun own d ρ ρ' hj e => by
    cases d <;> try cases e
    rename_i ds
    unfold gtTup at e ⊢
    dsimp only at e ⊢
    by_cases c : ds.length = n
    · rw [if_pos c] at e ⊢; exact b.msk _ _ _ _ hj e
    · rw [if_neg c] at e; cases e
section
variable {X : Cx}
theorem gx_name {i : Nat} {x : Str} {pos : Pos} (hN : X.N.Nodup) (hi : X.N[i]? = some x) (hx : Loc X.env.scope x) (hf : X.fn x = true ∨ X.env.scope.names.lookup x = some .local := by first | exact .inl rfl | exact .inr rfl | assumption) : GX X (.Name x pos) [i] (gtName i) := by
  refine ⟨gtName_ok i, _, pg_name hN hi hx hf, fun v d σ H O ρ ρ' Q hO hv r e k => ?_⟩
  cases e
  refine k _ (hv.set r) (by simp) fun j hj => ?_
  have c : i ≠ j := fun e => hj (by simp [e])
  exact ⟨by rw [List.getElem?_set_ne c], by rw [List.getElem?_set_ne c]⟩
theorem gsx_nil : GsX X [] [] gtNil := by
  refine ⟨gtNil_ok, _, pgs_nil, fun vs ds σ H O ρ ρ' Q hO hv r e k => ?_⟩
  cases r with
  | nil => cases e; exact ⟨rfl, k σ hv rfl fun _ _ => ⟨rfl, rfl⟩⟩
  | cons _ _ => cases e
theorem gsx_cons {e : Expr} {es : List Expr} {js ks : List Nat} {g : PyData → Vars → Option Vars} {h : List PyData → Vars → Option Vars} (hg : GX X e js g) (hh : GsX X es ks h) (hs : (assignEach (e :: es) X.env).map (·.2) = assign e X.env :: (assignEach es X.env).map (·.2) := by rfl) : GsX X (e :: es) (js ++ ks) (gtCons g h) := by
  obtain ⟨a, t, p, ht⟩ := hg
  obtain ⟨b, u, q, hu⟩ := hh
  refine ⟨gtCons_ok a b, _, pgs_cons p q hs, fun vs ds σ H O ρ ρ' Q hO hv r e k => ?_⟩
  cases r with
  | nil => cases e
  | @cons v vs d ds r rs =>
    have e' : (g d ρ).bind (fun ρ' => h ds ρ') = some ρ' := e
    cases e1 : g d ρ with
    | none => rw [e1] at e'; cases e'
    | some ρ1 =>
      rw [e1] at e'
      refine ⟨v, vs, rfl, ht v d σ H O ρ ρ1 _ hO hv r e1 fun σ1 v1 m1 f1 => hu vs ds σ1 H O ρ1 ρ' Q hO v1 rs e' fun σ2 v2 m2 f2 => k σ2 v2 (m2.trans m1) fun j hj => ?_⟩
      have h1 := f1 j (fun z => hj (List.mem_append_left _ z))
      have h2 := f2 j (fun z => hj (List.mem_append_right _ z))
      exact ⟨h2.1.trans h1.1, h2.2.trans h1.2⟩
theorem gx_tup {es : List Expr} {k n : Nat} {js : List Nat} {h : List PyData → Vars → Option Vars} {pos : Pos} (hc : X.calm = true) (hh : GsX X es js h) (hn : (assignEach es X.env).length = n := by rfl) (hst : (assignEach es X.env).findIdx? (·.1) = none := by rfl) : GX X (.Tuple es k pos) js (gtTup n h) := by
  obtain ⟨b, u, q, hu⟩ := hh
  refine ⟨gtTup_ok b, _, pg_tup hc q hn hst, fun v d σ H O ρ ρ' Q hO hv r e kk => ?_⟩
  cases r with
  | @tup a xs ds hx rs =>
    unfold gtTup at e
    dsimp only at e
    by_cases c : ds.length = n
    · rw [if_pos c] at e
      exact ⟨a, xs, rfl, seqT hide_sub hx, by rw [rs.length]; exact c, hu xs ds σ H O ρ ρ' Q hO hv rs e kk⟩
    · rw [if_neg c] at e; cases e
  | _ => cases e
def tG (X : Cx) (js : List Nat) (gt : PyData → Vars → Option Vars) : TG := fun v σ H Q => ∃ d O ρ ρ', Stands O H ∧ VRel X.K (hide O H) σ ρ ∧ Rp X.K (hide O H) v d ∧ gt d ρ = some ρ' ∧
  ∀ σ', VRel X.K (hide O H) σ' ρ' → σ'.length = σ.length → (∀ j : Nat, j ∉ js → σ'[j]? = σ[j]? ∧ ρ'[j]? = ρ[j]?) → Q σ' H
theorem GX.pg {tg : Expr} {js : List Nat} {gt : PyData → Vars → Option Vars} (h : GX X tg js gt) : PG X tg (tG X js gt) := by
  obtain ⟨_, t, p, ht⟩ := h
  exact ⟨fun pins s σ H v u Q I r ⟨d, O, ρ, ρ', h1, h2, h3, h4, h5⟩ => p.run pins s σ H v u Q I r (ht v d σ H O ρ ρ' Q h1 h2 h3 h4 h5)⟩
end
def IterOk (K : PySem.W.Frag) (J : It) (F : Hp) (ds : List PyData) : Prop := ∀ (i : Nat) (H : Hp) (O : List Addr), Stands O H → Same F (hide O H) →
  (∀ d, ds[i]? = some d → J.go i H ∧ ∀ x H', J.yld i H x H' → Same H H' ∧ Rp K (hide O H') x d) ∧ (ds.length ≤ i → J.stop i H)
def IX (X : Cx) (W : WX) (tg e : Expr) (f : Vars → R (List PyData)) : Prop :=
  ∃ wi, PI X tg e wi ∧ ∀ σ H O ρ (Q : It → Hp → Prop), Stands O H → VRel X.K (hide O H) σ ρ →
    (match f ρ with
      | .ok ds => ∀ J H', Same H H' → IterOk X.K J (hide O H') ds → Q J H'
      | .err c => ∀ H', Same H H' → W (exV X.mg c) none σ H'
      | .bad => False) → wi σ H Q
section
variable {X : Cx} {W : WX} {tg : Expr}
theorem iterL {K : PySem.W.Frag} {F : Hp} {a : Addr} {xs : List V} {ds : List PyData} (h : SqL K F a xs) (r : Rps K F xs ds) : IterOk K (Itl K a) F ds := fun i H O hO s => by
  have s' : Same F H := s.trans hide_sub
  have hH : SqL K H a xs := seqL s' h
  refine ⟨fun d e => ?_, fun l => ⟨xs, hH, by rw [r.length]; exact l⟩⟩
  obtain ⟨v, h1, h2⟩ := r.get e
  refine ⟨⟨xs, v, hH, h1⟩, fun x H' y => ?_⟩
  obtain ⟨rfl, y⟩ := y
  have h3 := y xs hH
  rw [h1] at h3
  cases h3
  exact ⟨Same.refl _, h2.mono s⟩
theorem iterT {K : PySem.W.Frag} {F : Hp} {a : Addr} {xs : List V} {ds : List PyData} (h : SqT K F a xs) (r : Rps K F xs ds) : IterOk K (Itt K a) F ds := fun i H O hO s => by
  have s' : Same F H := s.trans hide_sub
  have hH : SqT K H a xs := seqT s' h
  refine ⟨fun d e => ?_, fun l => ⟨xs, hH, by rw [r.length]; exact l⟩⟩
  obtain ⟨v, h1, h2⟩ := r.get e
  refine ⟨⟨xs, v, hH, h1⟩, fun x H' y => ?_⟩
  obtain ⟨rfl, y⟩ := y
  have h3 := y xs hH
  rw [h1] at h3
  cases h3
  exact ⟨Same.refl _, h2.mono s⟩
def iSeq (f : Vars → R PyData) (ρ : Vars) : R (List PyData) := (f ρ).bind fun d => match d with
  | .list ds => .ok ds
  | .tuple ds => .ok ds
  | _ => .bad
theorem pi_seq {l : Expr} {tl : TE} (hl : PE X l tl) : PI X tg l (fun σ H R => tl σ H fun x H1 => ∃ a, x = .ref a ∧ ((∃ xs, SqL X.K H1 a xs) ∧ R (Itl X.K a) H1 ∨ (∃ xs, SqT X.K H1 a xs) ∧ R (Itt X.K a) H1)) := by
  refine ⟨fun pins s σ H R I h => ?_⟩
  refine thn (hl.run pins s σ H _ I h) fun v s1 ⟨x, H1, I1, r1, q1⟩ => ?_
  obtain ⟨a, e, q1⟩ := q1
  subst e
  cases r1
  rcases q1 with ⟨⟨xs, hq⟩, q⟩ | ⟨⟨xs, hq⟩, q⟩
  · obtain ⟨its, rv, p, hz⟩ := I1.list hq
    refine wpAny_pyIter_list p.isList ?_
    refine ⟨s1.heap.objs.size, [s1.heap.objs.size], _, _, H1, rfl, I1.kept (t' := s1.toks) fun b o e => Heap.get?_push_of_some _ e, turn_list a _, ⟨_, Heap.get?_push_size _ rfl, rfl, rfl⟩, fun b hb => ?_, q⟩
    have e : b = s1.heap.objs.size := by simpa using hb
    subst e
    exact I1.fpOk (Nat.le_refl _) (I1.hok.fresh (Nat.le_refl _))
  · obtain ⟨its, rv, p, hz⟩ := I1.tuple hq
    refine wpAny_pyIter_tuple (show s1.heap.IsTuple a its.toArray from p) ?_
    refine ⟨s1.heap.objs.size, [s1.heap.objs.size], _, _, H1, rfl, I1.kept (t' := s1.toks) fun b o e => Heap.get?_push_of_some _ e, turn_tuple a _, ⟨_, Heap.get?_push_size _ rfl, rfl, rfl⟩, fun b hb => ?_, q⟩
    have e : b = s1.heap.objs.size := by simpa using hb
    subst e
    exact I1.fpOk (Nat.le_refl _) (I1.hok.fresh (Nat.le_refl _))
theorem ix_seq {e : Expr} {f : Vars → R PyData} (h : EX X W e f) : IX X W tg e (iSeq f) := by
  obtain ⟨t, p, ht⟩ := h
  refine ⟨_, pi_seq p, fun σ H O ρ Q hO hv z => ht σ H O ρ _ hO hv ?_⟩
  unfold iSeq at z
  cases q : f ρ with
  | bad => rw [q] at z; exact z
  | err c => rw [q] at z; exact z
  | ok d =>
    rw [q] at z
    intro v H1 s1 r1
    cases r1 with
    | tup hx rs => exact ⟨_, rfl, .inr ⟨⟨_, seqT hide_sub hx⟩, z _ H1 s1 (iterT hx rs)⟩⟩
    | lst hx rs => exact ⟨_, rfl, .inl ⟨⟨_, seqL hide_sub hx⟩, z _ H1 s1 (iterL hx rs)⟩⟩
    | _ => exact z.elim
def rngD (lo : Int) (n : Nat) : List PyData := (List.range n).map fun i => .int (lo + (i : Nat))
theorem rngD_get {lo : Int} {n i : Nat} : (rngD lo n)[i]? = if i < n then some (.int (lo + (i : Nat))) else none := by
  unfold rngD
  rw [List.getElem?_map]
  by_cases h : i < n
  · rw [if_pos h, List.getElem?_range h]; rfl
  · rw [if_neg h, List.getElem?_eq_none (by simpa using h)]; rfl
theorem rngD_len {lo : Int} {n : Nat} : (rngD lo n).length = n := by simp [rngD]
theorem iterR {K : PySem.W.Frag} {F : Hp} {lo : Int} {n : Nat} : IterOk K (Itr lo n) F (rngD lo n) := fun i H O hO s => by
  refine ⟨fun d e => ?_, fun l => by rw [rngD_len] at l; exact l⟩
  rw [rngD_get] at e
  by_cases h : i < n
  · rw [if_pos h] at e
    cases e
    refine ⟨h, fun x H' y => ?_⟩
    obtain ⟨rfl, rfl⟩ := y
    exact ⟨Same.refl _, .int _⟩
  · rw [if_neg h] at e; cases e
def okI (j : Int) : Bool := decide (j.natAbs < 2 ^ 62)
theorem okI_of {j : Int} (h : okI j = true) : -(2 ^ 62) ≤ j ∧ j < 2 ^ 62 := by
  unfold okI at h
  have := of_decide_eq_true h
  omega
theorem okI_small {j : Int} (h0 : -1000000 ≤ j) (h1 : j ≤ 1000000) : okI j = true := by
  unfold okI
  exact decide_eq_true (by omega)
def iRange (f : Vars → R (List PyData)) (ρ : Vars) : R (List PyData) := (f ρ).bind fun ds => match ds with
  | [.int j] => if okI j = true then .ok (rngD 0 j.toNat) else .bad
  | [.int i, .int j] => if (okI i && okI j) = true then .ok (rngD i (j - i).toNat) else .bad
  | _ => .bad
theorem ix_range1 {a : Expr} {f : Vars → R (List PyData)} {p pos : Pos} (hg : Gl X "range") (hm : X.mg "range" = none) (ha : AX X W [a] f) (hs : starEach [a] X.env = [(false, eval a X.env)] := by rfl) (hl : ∀ ρ ds, f ρ = .ok ds → ds.length = 1) : IX X W tg (.Call (.Name "range" p) [a] [] pos) (iRange f) := by
  obtain ⟨t, q, ht⟩ := ha
  refine ⟨_, pi_range1 hg hm q hs, fun σ H O ρ Q hO hv z => ht σ H O ρ _ hO hv ?_⟩
  unfold iRange at z
  cases e : f ρ with
  | bad => rw [e] at z; exact z
  | err c => rw [e] at z; exact z
  | ok ds =>
    rw [e, R.bind_ok] at z
    have l := hl ρ ds e
    intro vs H1 s1 r1
    match ds, l, r1, z with
    | [.int j], _, r1, z =>
      obtain ⟨v, rfl, rv⟩ := rps_one r1
      cases rv
      by_cases c : okI j = true
      · simp only [if_pos c] at z
        obtain ⟨h1, h2⟩ := okI_of c
        exact ⟨j, rfl, h1, h2, z _ H1 s1 iterR⟩
      · simp only [if_neg c] at z
    | [.none], _, _, z => exact z.elim
    | [.bool _], _, _, z => exact z.elim
    | [.str _], _, _, z => exact z.elim
    | [.list _], _, _, z => exact z.elim
    | [.tuple _], _, _, z => exact z.elim
    | [.dict _], _, _, z => exact z.elim
end
end Pu
set_option Elab.async false
set_option linter.all false
set_option maxRecDepth 100000
set_option maxHeartbeats 4000000
namespace Pu
open PySem PySem.Spec PyProof.Rows L2
def W0 : WX := fun _ _ _ _ => False
def wipeD (ρ : Vars) : List Nat → Vars
  | [] => ρ
  | v :: vs => (wipeD ρ vs).set v none
theorem wipeD_length (ρ : Vars) : ∀ vs : List Nat, (wipeD ρ vs).length = ρ.length
  | [] => rfl
  | v :: vs => by unfold wipeD; rw [List.length_set, wipeD_length ρ vs]
theorem wipeD_some {ρ : Vars} {i : Nat} {d : PyData} : ∀ {vs : List Nat}, (wipeD ρ vs)[i]? = some (some d) → ρ[i]? = some (some d) ∧ i ∉ vs
  | [], h => ⟨h, by simp⟩
  | v :: vs, h => by
    unfold wipeD at h
    by_cases hi : v = i
    · subst hi
      by_cases hv : v < (wipeD ρ vs).length
      · rw [List.getElem?_set_self hv] at h; cases h
      · rw [List.getElem?_eq_none (by simpa using hv)] at h; cases h
    · rw [List.getElem?_set_ne hi] at h
      obtain ⟨h1, h2⟩ := wipeD_some h
      exact ⟨h1, by simp only [List.mem_cons, not_or]; exact ⟨fun e => hi e.symm, h2⟩⟩
theorem wipe_at {σ : L2.St} {i : Nat} : ∀ {vs : List Nat}, i ∉ vs → (wipe σ vs)[i]? = σ[i]?
  | [], _ => rfl
  | v :: vs, h => by
    simp only [List.mem_cons, not_or] at h
    unfold wipe
    rw [List.getElem?_set_ne (fun e => h.1 e.symm), wipe_at h.2]
theorem wipe_in {σ : L2.St} {i : Nat} : ∀ {vs : List Nat}, i ∈ vs → i < σ.length → (wipe σ vs)[i]? = some none
  | [], h, _ => absurd h (by simp)
  | v :: vs, h, hl => by
    unfold wipe
    by_cases c : v = i
    · subst c
      rw [List.getElem?_set_self (by rw [wipe_length]; exact hl)]
    · rw [List.getElem?_set_ne c]
      refine wipe_in ?_ hl
      rcases List.mem_cons.mp h with e | h
      · exact absurd e.symm c
      · exact h
theorem vrel_wipe {K : PySem.W.Frag} {F : Hp} {σ : L2.St} {ρ : Vars} {vs : List Nat} (h : VRel K F σ ρ) : VRel K F (wipe σ vs) (wipeD ρ vs) := ⟨by rw [wipe_length, wipeD_length]; exact h.len, fun i d e => by
  obtain ⟨h1, h2⟩ := wipeD_some e
  obtain ⟨v, h3, h4⟩ := h.get i d h1
  exact ⟨v, by rw [wipe_at h2]; exact h3, h4⟩⟩
theorem wipe_eq {σ σ' : L2.St} {js vs : List Nat} (hl : σ'.length = (wipe σ vs).length) (h : ∀ j : Nat, j ∉ js → σ'[j]? = (wipe σ vs)[j]?) (hs : ∀ j ∈ js, j ∈ vs) : wipe σ' vs = wipe σ vs := by
  apply List.ext_getElem?
  intro i
  rw [wipe_length] at hl
  by_cases hi : i ∈ vs
  · by_cases c : i < σ.length
    · rw [wipe_in hi c, wipe_in hi (by omega)]
    · rw [List.getElem?_eq_none (by rw [wipe_length]; omega), List.getElem?_eq_none (by rw [wipe_length]; omega)]
  · rw [wipe_at hi, h i fun z => hi (hs i z)]
def lcL (gt : PyData → Vars → Option Vars) (tt : Vars → R Bool) (f : Vars → R PyData) (ρ : Vars) : List PyData → R (List PyData)
  | [] => .ok []
  | d :: ds => match gt d ρ with
    | none => .bad
    | some ρ' => (tt ρ').bind fun b => if b = true then (f ρ').bind fun y => (lcL gt tt f ρ ds).bind fun ys => .ok (y :: ys) else lcL gt tt f ρ ds
def nLc (fi : Vars → R (List PyData)) (gt : PyData → Vars → Option Vars) (tt : Vars → R Bool) (f : Vars → R PyData) (vs : List Nat) (ρ : Vars) : R (List PyData) :=
  (fi ρ).bind fun ds => match lcL gt tt f (wipeD ρ vs) ds with
    | .ok ys => if ys.length < sizeLine then .ok ys else .bad
    | _ => .bad
def eLc (fi : Vars → R (List PyData)) (gt : PyData → Vars → Option Vars) (tt : Vars → R Bool) (f : Vars → R PyData) (vs : List Nat) (ρ : Vars) : R PyData := (nLc fi gt tt f vs ρ).bind fun ys => .ok (.list ys)
def NOut (X : Cx) (W : WX) (O : List Addr) (σ : L2.St) (H : Hp) (Q : VK) : R (List PyData) → Prop
  | .ok ds => ∀ p vs H', Same H H' → H p = none → H' p = some (.lst vs) → Rps X.K (hide (p :: O) H') vs ds → Q (.ref p) H'
  | .err c => ∀ H', Same H H' → W (exV X.mg c) none σ H'
  | .bad => False
def tYesD (_ : Vars) : R Bool := .ok true
def TsX (X : Cx) (W : WX) (ifs : List Expr) (f : Vars → R Bool) : Prop :=
  ∃ t, PTs X ifs t ∧ ∀ σ H O ρ Q, Stands O H → VRel X.K (hide O H) σ ρ → TOut X W σ H Q (f ρ) → t σ H Q
section
variable {X : Cx} {W : WX}
theorem TsX.pts {ifs : List Expr} {f : Vars → R Bool} (h : TsX X W ifs f) : PTs X ifs (tT X W f) := by
  obtain ⟨t, p, ht⟩ := h
  exact ⟨fun pins s σ H Q I ⟨O, ρ, h1, h2, h3⟩ => p.run pins s σ H Q I (ht σ H O ρ Q h1 h2 h3)⟩
theorem tsx_nil : TsX X W [] tYesD := ⟨_, pts_nil, fun σ H O ρ Q _ _ q => q H (Same.refl H)⟩
end
section
variable {X : Cx} {W : WX}
theorem lc_run {wi : TI} {vs js : List Nat} {fi : Vars → R (List PyData)} {gt : PyData → Vars → Option Vars} {ft : Vars → R Bool} {f : Vars → R PyData}
    (hi : ∀ σ H O ρ (Q : It → Hp → Prop), Stands O H → VRel X.K (hide O H) σ ρ → (match fi ρ with
      | .ok ds => ∀ J H', Same H H' → IterOk X.K J (hide O H') ds → Q J H'
      | .err c => ∀ H', Same H H' → W (exV X.mg c) none σ H'
      | .bad => False) → wi σ H Q)
    (hjs : ∀ j ∈ js, j ∈ vs) {σ : L2.St} {H : Hp} {O : List Addr} {ρ : Vars} {Q : VK} (hO : Stands O H) (hv : VRel X.K (hide O H) σ ρ)
    (z : NOut X W O σ H Q (nLc fi gt ft f vs ρ)) : tLc wi (tG X js gt) (tT X W0 ft) (tE X W0 f) vs σ H Q := by
  refine hi σ H O ρ _ hO hv ?_
  unfold nLc at z
  cases e : fi ρ with
  | bad => rw [e] at z; exact z
  | err c => rw [e] at z; exact z
  | ok ds =>
    rw [e, R.bind_ok] at z
    intro J H1 s1 hJ D hD
    cases e2 : lcL gt ft f (wipeD ρ vs) ds with
    | bad => rw [e2] at z; exact z.elim
    | err c => rw [e2] at z; exact z.elim
    | ok ys =>
      rw [e2] at z
      dsimp only at z
      by_cases hsz : ys.length < sizeLine
      case neg => rw [if_neg hsz] at z; exact z.elim
      rw [if_pos hsz] at z
      have hO1 := hO.same s1
      have hDO : D ∉ O := hO1.new hD
      have hHD : H D = none := s1.free hD
      -- the invariant
      refine ⟨fun i m H2 => m = ds.length - i ∧ i ≤ ds.length ∧ Same (hide O H1) (hide (D :: O) H2) ∧ Same H1 (fun a => if a = D then none else H2 a) ∧ ∃ acc as rest, H2 D = some (.lst acc) ∧ Rps X.K (hide (D :: O) H2) acc as ∧ lcL gt ft f (wipeD ρ vs) (ds.drop i) = .ok rest ∧ as ++ rest = ys, ⟨ds.length, rfl, Nat.zero_le _, fun a o h => ?_, fun a o h => ?_, [], [], ys, upd_same, .nil, by rw [List.drop_zero]; exact e2, rfl⟩, ?_⟩
      · obtain ⟨c, q⟩ := hide_some h
        have n : a ≠ D := ne_of_none q hD
        refine hide_of (fun zz => ?_) (by rw [upd_ne n]; exact q)
        rcases List.mem_cons.mp zz with r | r
        · exact n r
        · exact c r
      · have n : a ≠ D := ne_of_none h hD
        show (if a = D then none else upd H1 D (.lst []) a) = some o
        rw [if_neg n, upd_ne n]; exact h
      rintro i m H2 ⟨rfl, hle, sF, sH, acc, as, rest, hD2, rAcc, eRest, eYs⟩
      have hO2 : Stands (D :: O) H2 := fun a ha => by
        rcases List.mem_cons.mp ha with r | r
        · exact ⟨.lst acc, by rw [r]; exact hD2, fun xs z => nomatch z⟩
        · have n : a ≠ D := fun z => hDO (z ▸ r)
          obtain ⟨o, q, nn⟩ := hO1 a r
          have := sH a o q
          rw [show (fun a => if a = D then none else H2 a) a = H2 a from if_neg n] at this
          exact ⟨o, this, nn⟩
      obtain ⟨j1, j2⟩ := hJ i H2 (D :: O) hO2 sF
      have s12 : Same H1 H2 := fun a o h => by
        have n : a ≠ D := ne_of_none h hD
        have := sH a o h
        rw [show (fun a => if a = D then none else H2 a) a = H2 a from if_neg n] at this
        exact this
      by_cases hlt : i < ds.length
      · have hd : ds[i]? = some ds[i] := List.getElem?_eq_getElem hlt
        obtain ⟨g1, g2⟩ := j1 _ hd
        have hdrop : ds.drop i = ds[i] :: ds.drop (i + 1) := List.drop_eq_getElem_cons hlt
        rw [hdrop] at eRest
        unfold lcL at eRest
        cases eg : gt ds[i] (wipeD ρ vs) with
        | none => rw [eg] at eRest; cases eRest
        | some ρ1 =>
          rw [eg] at eRest
          dsimp only at eRest
          refine .inr ⟨g1, fun H' => (i + 1 ≤ ds.length ∧ Same (hide O H1) (hide (D :: O) H') ∧ Same H1 (fun a => if a = D then none else H' a) ∧ ∃ acc as rest, H' D = some (.lst acc) ∧ Rps X.K (hide (D :: O) H') acc as ∧ lcL gt ft f (wipeD ρ vs) (ds.drop (i + 1)) = .ok rest ∧ as ++ rest = ys),
            fun H' hn => ⟨ds.length - (i + 1), by omega, rfl, hn.1, hn.2⟩, fun x H3 y => ?_⟩
          obtain ⟨s23, rx⟩ := g2 x H3 y
          have hO3 := hO2.same s23
          have v2 : VRel X.K (hide (D :: O) H3) (wipe σ vs) (wipeD ρ vs) := by
            exact (vrel_wipe (hv.mono (hide_same s1))).mono (sF.trans (hide_same s23))
          have nx : ∀ (H' : Hp) (acc' : List V) (as' rest' : List PyData), Same H3 H' ∨ (∃ H5, Same H3 H5 ∧ H' = upd H5 D (.lst acc')) → H' D = some (.lst acc') → Rps X.K (hide (D :: O) H') acc' as' → lcL gt ft f (wipeD ρ vs) (ds.drop (i + 1)) = .ok rest' → as' ++ rest' = ys →
              i + 1 ≤ ds.length ∧ Same (hide O H1) (hide (D :: O) H') ∧ Same H1 (fun a => if a = D then none else H' a) ∧ ∃ acc as rest, H' D = some (.lst acc) ∧ Rps X.K (hide (D :: O) H') acc as ∧ lcL gt ft f (wipeD ρ vs) (ds.drop (i + 1)) = .ok rest ∧ as ++ rest = ys := fun H' acc' as' rest' hs hD' rr el ey => by
            have tr : ∀ a o, a ≠ D → H3 a = some o → H' a = some o := fun a o n h => by
              rcases hs with hs | ⟨H5, hs, rfl⟩
              · exact hs a o h
              · rw [upd_ne n]; exact hs a o h
            refine ⟨hlt, fun a o h => ?_, fun a o h => ?_, acc', as', rest', hD', rr, el, ey⟩
            · obtain ⟨c, q⟩ := hide_some (sF a o h)
              exact hide_of c (tr a o (fun z => c (by simp [z])) (s23 a o q))
            · have n : a ≠ D := ne_of_none h hD
              show (if a = D then none else H' a) = some o
              rw [if_neg n]
              exact tr a o n (s23 a o (s12 a o h))
          refine ⟨ds[i], D :: O, _, ρ1, hO3, v2, rx, eg, fun σ3 v3 m3 f3 => ⟨wipe_eq m3 (fun j hj => (f3 j hj).1) hjs, ?_⟩⟩
          refine ⟨D :: O, ρ1, hO3, v3, ?_⟩
          cases et : ft ρ1 with
          | bad => rw [et] at eRest; cases eRest
          | err c => rw [et] at eRest; cases eRest
          | ok b =>
            rw [et, R.bind_ok] at eRest
            intro H4 s34
            cases b with
            | false =>
              simp only [Bool.false_eq_true, if_false] at eRest ⊢
              exact nx H4 acc as rest (.inl s34) (s34 _ _ (s23 _ _ hD2)) (rAcc.mono (hide_same (s23.trans s34))) eRest eYs
            | true =>
              simp only [if_true] at eRest ⊢
              refine ⟨D :: O, ρ1, hO3.same s34, v3.mono (hide_same s34), ?_⟩
              cases ef : f ρ1 with
              | bad => rw [ef] at eRest; cases eRest
              | err c => rw [ef] at eRest; cases eRest
              | ok yv =>
                rw [ef, R.bind_ok] at eRest
                obtain ⟨rr, el⟩ : ∃ rr, lcL gt ft f (wipeD ρ vs) (ds.drop (i + 1)) = rr := ⟨_, rfl⟩
                cases rr with
                | bad => rw [el] at eRest; cases eRest
                | err c => rw [el] at eRest; cases eRest
                | ok rest' =>
                  rw [el, R.bind_ok] at eRest
                  have er : yv :: rest' = rest := R.ok.inj eRest
                  subst er
                  intro v H5 s45 rv
                  have s25 := (s23.trans s34).trans s45
                  refine ⟨acc, s25 _ _ hD2, ?_, ?_⟩
                  · have l1 := rAcc.length
                    rw [← eYs, List.length_append, List.length_cons] at hsz
                    omega
                  · have hid : ∀ o', hide (D :: O) (upd H5 D o') = hide (D :: O) H5 := fun o' => by
                      funext a
                      unfold hide
                      by_cases c : a ∈ D :: O
                      · rw [if_pos c, if_pos c]
                      · rw [if_neg c, if_neg c, upd_ne (fun z => c (by simp [z]))]
                    refine nx _ (acc ++ [v]) (as ++ [yv]) rest' (.inr ⟨H5, s34.trans s45, rfl⟩) upd_same ?_ el (by rw [List.append_assoc]; exact eYs)
                    rw [hid]
                    exact (rAcc.mono (hide_same s25)).append (.cons rv .nil)
      · have e3 : i = ds.length := by omega
        subst e3
        refine .inl ⟨j2 (Nat.le_refl _), ?_⟩
        rw [List.drop_length] at eRest
        cases eRest
        rw [List.append_nil] at eYs
        subst eYs
        exact z D acc H2 (s1.trans s12) hHD hD2 rAcc
theorem rps_less {K : PySem.W.Frag} {H : Hp} {p : Addr} {O : List Addr} {xs : List V} {ys : List PyData} (h : Rps K (hide (p :: O) H) xs ys) : Rps K (hide O H) xs ys := h.mono (hide_less fun a ha => List.mem_cons_of_mem _ ha)
section
variable {elt tg iter : Expr} {ifs : List Expr} {scope : Scope} {own : List (Str × Nat)} {pos : Pos} {js : List Nat} {fi : Vars → R (List PyData)} {gt : PyData → Vars → Option Vars} {ft : Vars → R Bool} {f : Vars → R PyData}
theorem pe_lcD (hc : X.calm = true) (hN : X.N.Nodup) (hi : IX X W tg iter fi) (ok : BlkOk X.N X.env.scope scope own)
    (hg : ∀ (s : Shared) (H : Hp) (C : Addr) (cl : List (Str × Addr)) (fp : List Addr), GX (X.blk s H scope (compEnvC scope cl C X.env) fp) tg js gt) (ht : ∀ (s : Shared) (H : Hp) (C : Addr) (cl : List (Str × Addr)) (fp : List Addr), TsX (X.blk s H scope (compEnvC scope cl C X.env) fp) W0 ifs ft)
    (he : ∀ (s : Shared) (H : Hp) (C : Addr) (cl : List (Str × Addr)) (fp : List Addr), EX (X.blk s H scope (compEnvC scope cl C X.env) fp) W0 elt f) (hs : ∀ x, foldedSetIterable iter X.env x = pure x := by intro _; rfl) :
    ∃ wi : TI, PE X (.ListComp elt [⟨tg, iter, ifs, 0⟩] scope pos) (tLc wi (tG X js gt) (tT X W0 ft) (tE X W0 f) (own.map (·.2))) ∧ ∀ σ H O ρ (Q : It → Hp → Prop), Stands O H → VRel X.K (hide O H) σ ρ → (match fi ρ with
      | .ok ds => ∀ J H', Same H H' → IterOk X.K J (hide O H') ds → Q J H'
      | .err c => ∀ H', Same H H' → W (exV X.mg c) none σ H'
      | .bad => False) → wi σ H Q := by
  obtain ⟨wi, p, hwi⟩ := hi
  exact ⟨wi, pe_lc hc hN p ok (fun s H C cl fp => (hg s H C cl fp).pg) (fun s H C cl fp => (ht s H C cl fp).pts) (fun s H C cl fp => (he s H C cl fp).pe) hs, hwi⟩
theorem eLc_to {vs : List Nat} {σ : L2.St} {H : Hp} {O : List Addr} {ρ : Vars} {Q : VK} (hO : Stands O H) (z : EOut X W O σ H Q (eLc fi gt ft f vs ρ)) : NOut X W O σ H Q (nLc fi gt ft f vs ρ) := by
  unfold eLc at z
  cases e : nLc fi gt ft f vs ρ with
  | bad => rw [e] at z; exact z
  | err c => rw [e] at z; exact z
  | ok ys =>
    rw [e, R.bind_ok] at z
    exact fun p xs H' s hp h' r => z _ H' s (.lst (.inl (.inl (hide_of (hO.new hp) h'))) (rps_less r))
theorem ex_lc (hc : X.calm = true) (hN : X.N.Nodup) (hi : IX X W tg iter fi) (ok : BlkOk X.N X.env.scope scope own)
    (hg : ∀ (s : Shared) (H : Hp) (C : Addr) (cl : List (Str × Addr)) (fp : List Addr), GX (X.blk s H scope (compEnvC scope cl C X.env) fp) tg js gt) (ht : ∀ (s : Shared) (H : Hp) (C : Addr) (cl : List (Str × Addr)) (fp : List Addr), TsX (X.blk s H scope (compEnvC scope cl C X.env) fp) W0 ifs ft)
    (he : ∀ (s : Shared) (H : Hp) (C : Addr) (cl : List (Str × Addr)) (fp : List Addr), EX (X.blk s H scope (compEnvC scope cl C X.env) fp) W0 elt f) (hjs : (js.all fun j => (own.map (·.2)).contains j) = true) (hs : ∀ x, foldedSetIterable iter X.env x = pure x := by intro _; rfl) :
    EX X W (.ListComp elt [⟨tg, iter, ifs, 0⟩] scope pos) (eLc fi gt ft f (own.map (·.2))) := by
  obtain ⟨wi, p, hwi⟩ := pe_lcD (pos := pos) hc hN hi ok hg ht he hs
  have hj : ∀ j ∈ js, j ∈ own.map (·.2) := fun j h => by simpa using List.all_eq_true.mp hjs j h
  exact ⟨_, p, fun σ H O ρ Q hO hv z => lc_run hwi hj hO hv (eLc_to hO z)⟩
end
end
end Pu
set_option Elab.async false
set_option linter.all false
set_option maxRecDepth 100000
set_option maxHeartbeats 4000000
namespace Pu
open PySem PySem.Spec PyProof.Rows L2
inductive Out where
  | nx (ρ : Vars) | rt (d : PyData) | bk (ρ : Vars) | ct (ρ : Vars) | err (c : Str) (ρ : Vars) | bad
def Out.then (o : Out) (f : Vars → Out) : Out := match o with
  | .nx ρ => f ρ
  | .rt d => .rt d
  | .bk ρ => .bk ρ
  | .ct ρ => .ct ρ
  | .err c ρ => .err c ρ
  | .bad => .bad
@[simp] theorem Out.then_nx (ρ : Vars) (f : Vars → Out) : (Out.nx ρ).then f = f ρ := rfl
@[simp] theorem Out.then_rt (d : PyData) (f : Vars → Out) : (Out.rt d).then f = .rt d := rfl
@[simp] theorem Out.then_bk (ρ : Vars) (f : Vars → Out) : (Out.bk ρ).then f = .bk ρ := rfl
@[simp] theorem Out.then_ct (ρ : Vars) (f : Vars → Out) : (Out.ct ρ).then f = .ct ρ := rfl
@[simp] theorem Out.then_err (c : Str) (ρ : Vars) (f : Vars → Out) : (Out.err c ρ).then f = .err c ρ := rfl
@[simp] theorem Out.then_bad (f : Vars → Out) : Out.bad.then f = .bad := rfl
def R.run {α : Type} (r : R α) (ρ : Vars) (k : α → Out) : Out := match r with
  | .ok a => k a
  | .err c => .err c ρ
  | .bad => .bad
@[simp] theorem R.run_ok {α : Type} (a : α) (ρ : Vars) (k : α → Out) : (R.ok a).run ρ k = k a := rfl
@[simp] theorem R.run_err {α : Type} (c : Str) (ρ : Vars) (k : α → Out) : (R.err c : R α).run ρ k = .err c ρ := rfl
@[simp] theorem R.run_bad {α : Type} (ρ : Vars) (k : α → Out) : (R.bad : R α).run ρ k = .bad := rfl
def OwnV (K : PySem.W.Frag) (F H : Hp) (a : Addr) : PyData → Prop
  | .list ds => ∃ vs, H a = some (.lst vs) ∧ Rps K F vs ds
  | .dict ds => (∃ kvs, H a = some (.dK kvs) ∧ Rpd K F kvs ds) ∨ ∃ ts es, ds = [(.none, .dict es)] ∧ H a = some (.dT ts) ∧ RpT K F ts es
  | _ => False
def OwnO (o : HO) : Prop := ((∃ xs, o = .lst xs) ∨ ∃ ts, o = .dT ts) ∨ ∃ kvs, o = .dK kvs ∨ ∃ od, o = .frz od (.dK kvs)
theorem OwnV.mono {K : PySem.W.Frag} {F F' H H' : Hp} {a : Addr} {d : PyData} (h : OwnV K F H a d) (s : Same F F') (e : ∀ o, H a = some o → H' a = some o) : OwnV K F' H' a d := by
  cases d with
  | list ds => obtain ⟨vs, h1, h2⟩ := h; exact ⟨vs, e _ h1, h2.mono s⟩
  | dict ds => exact h.imp (fun ⟨vs, h1, h2⟩ => ⟨vs, e _ h1, h2.mono s⟩) (fun ⟨ts, es, z, h1, h2⟩ => ⟨ts, es, z, e _ h1, h2.mono s⟩)
  | _ => exact h.elim
theorem OwnV.rp {K : PySem.W.Frag} {F H F' : Hp} {a : Addr} {d : PyData} (h : OwnV K F H a d) (s : Same F F') (e : ∀ o, H a = some o → F' a = some o) : Rp K F' (.ref a) d := by
  cases d with
  | list ds => obtain ⟨vs, h1, h2⟩ := h; exact .lst (.inl (.inl (e _ h1))) (h2.mono s)
  | dict ds =>
    rcases h with ⟨vs, h1, h2⟩ | ⟨ts, es, rfl, h1, h2⟩
    · exact .dic (.inl (e _ h1)) (h2.mono s)
    · exact .dct (.inl (e _ h1)) (h2.mono s)
  | _ => exact h.elim
theorem OwnV.own {K : PySem.W.Frag} {F H : Hp} {a : Addr} {d : PyData} (h : OwnV K F H a d) : ∃ o, H a = some o ∧ OwnO o := by
  cases d with
  | list ds => obtain ⟨vs, h1, h2⟩ := h; exact ⟨_, h1, .inl (.inl ⟨_, rfl⟩)⟩
  | dict ds =>
    rcases h with ⟨vs, h1, h2⟩ | ⟨ts, es, rfl, h1, h2⟩
    · exact ⟨_, h1, .inr ⟨_, .inl rfl⟩⟩
    · exact ⟨_, h1, .inl (.inr ⟨_, rfl⟩)⟩
  | _ => exact h.elim
structure HB where
  h : Hp
  b : List (Nat × Addr)
instance : Coe HB Hp := ⟨HB.h⟩
instance : CoeFun HB (fun _ => Addr → Option HO) := ⟨HB.h⟩
structure Rel (K : PySem.W.Frag) (own : List Nat) (H0 : HB) (O0 O : List Addr) (σ : L2.St) (H : Hp) (ρ : Vars) : Prop where
  same : Same H0 H
  st0 : Stands O0 H0
  len : σ.length = ρ.length
  sub : ∀ a ∈ O0, a ∈ O
  lists : ∀ a ∈ O, a ∈ O0 ∨ (H0 a = none ∧ ∃ o, H a = some o ∧ OwnO o)
  free : ∀ (i : Nat) (d : PyData), i ∉ own → ρ[i]? = some (some d) → ∃ v, σ[i]? = some (some v) ∧ Rp K (hide O H) v d
  mine : ∀ (i : Nat) (d : PyData), i ∈ own → ρ[i]? = some (some d) → ∃ a, σ[i]? = some (some (.ref a)) ∧ a ∈ O ∧ H0 a = none ∧ OwnV K (hide O H) H a d
  apart : ∀ (i j : Nat) (d e : PyData) (a : Addr), i ∈ own → j ∈ own → ρ[i]? = some (some d) → ρ[j]? = some (some e) → σ[i]? = some (some (.ref a)) → σ[j]? = some (some (.ref a)) → i = j
  bor : ∀ p ∈ H0.b, p.1 ∈ own ∧ 1000 + p.1 ∈ own ∧ σ[p.1]? = some (some (.ref p.2)) ∧ p.2 ∈ O
  bord : ∀ p ∈ H0.b, ∀ (i : Nat) (d : PyData), i ∈ own → ρ[i]? = some (some d) → σ[i]? = some (some (.ref p.2)) → i = p.1
  mark : ∀ i : Nat, 1000 + i ∈ own → ∃ a, (i, a) ∈ H0.b
section
variable {K : PySem.W.Frag} {own : List Nat} {H0 : HB} {O0 O : List Addr} {σ : L2.St} {H H' : Hp} {ρ : Vars}
theorem OwnO.notup {o : HO} (h : OwnO o) : ∀ xs, o ≠ .tup xs := fun xs z => by
  rcases h with (⟨_, h⟩ | ⟨_, h⟩) | ⟨_, h | ⟨_, h⟩⟩ <;> rw [h] at z <;> cases z
theorem Rel.notO0 (r : Rel K own H0 O0 O σ H ρ) {a : Addr} (h : H0 a = none) : a ∉ O0 := fun z => r.st0.nn z h
theorem Rel.stands0 (r : Rel K own H0 O0 O σ H ρ) : Stands O0 H := r.st0.same r.same
theorem Rel.stands (r : Rel K own H0 O0 O σ H ρ) : Stands O H := fun a ha => by
  rcases r.lists a ha with h | ⟨_, o, h, ho⟩
  · exact r.stands0 a h
  · exact ⟨o, h, ho.notup⟩
theorem Rel.vrel0 (r : Rel K own H0 O0 O σ H ρ) : VRel K (hide O0 H) σ ρ := ⟨r.len, fun i d e => by
  by_cases c : i ∈ own
  · obtain ⟨a, h1, _, h3, h4⟩ := r.mine i d c e
    exact ⟨.ref a, h1, h4.rp (hide_less r.sub) fun o h => hide_of (r.notO0 h3) h⟩
  · obtain ⟨v, h1, h2⟩ := r.free i d c e
    exact ⟨v, h1, h2.mono (hide_less r.sub)⟩⟩
theorem Rel.vrel (r : Rel K [] H0 O0 O σ H ρ) : VRel K (hide O H) σ ρ := ⟨r.len, fun i d e => r.free i d (by simp) e⟩
theorem Rel.step (r : Rel K own H0 O0 O σ H ρ) (s : Same H H') : Rel K own H0 O0 O σ H' ρ where
  same := r.same.trans s
  st0 := r.st0
  len := r.len
  sub := r.sub
  lists := fun a ha => (r.lists a ha).imp id fun ⟨h1, xs, h2, h3⟩ => ⟨h1, xs, s _ _ h2, h3⟩
  free := fun i d c e => by
    obtain ⟨v, h1, h2⟩ := r.free i d c e
    exact ⟨v, h1, h2.mono (hide_same s)⟩
  mine := fun i d c e => by
    obtain ⟨a, h1, h2, h3, h4⟩ := r.mine i d c e
    exact ⟨a, h1, h2, h3, h4.mono (hide_same s) (s a)⟩
  apart := r.apart
  bor := r.bor
  bord := r.bord
  mark := r.mark
theorem Rel.imm (r : Rel K own H0 O0 O σ H ρ) {v : V} {d : PyData} (h : Rp K (hide O0 H) v d) (e : imm d = true) : Rp K (hide O H) v d :=
  h.imm (fun a xs q => by
    rcases q with (q | ⟨o, q⟩) | q
    · obtain ⟨c, q⟩ := hide_some q
      refine .inl (.inl (hide_of (fun z => ?_) q))
      rcases r.lists a z with h | ⟨_, ys, h, h'⟩
      · exact c h
      · rw [q] at h; cases h; rcases h' with (⟨_, h'⟩ | ⟨_, h'⟩) | ⟨_, h' | ⟨_, h'⟩⟩ <;> cases h'
    · obtain ⟨c, q⟩ := hide_some q
      refine .inl (.inr ⟨o, hide_of (fun z => ?_) q⟩)
      rcases r.lists a z with h | ⟨_, ys, h, h'⟩
      · exact c h
      · rw [q] at h; cases h; rcases h' with (⟨_, h'⟩ | ⟨_, h'⟩) | ⟨_, h' | ⟨_, h'⟩⟩ <;> cases h'
    · exact .inr q) e
theorem Rel.set (r : Rel K own H0 O0 O σ H ρ) {i : Nat} {v : V} {d : PyData} (c : i ∉ own) (h : Rp K (hide O H) v d) : Rel K own H0 O0 O (σ.set i (some v)) H (ρ.set i (some d)) where
  same := r.same
  st0 := r.st0
  len := by simpa using r.len
  sub := r.sub
  lists := r.lists
  free := fun j e cj q => by
    have hl := r.len
    by_cases z : i = j
    · subst z
      by_cases hi : i < ρ.length
      · rw [List.getElem?_set_self hi] at q
        cases q
        exact ⟨v, List.getElem?_set_self (by omega), h⟩
      · rw [List.getElem?_eq_none (by simpa using hi)] at q; cases q
    · rw [List.getElem?_set_ne z] at q
      rw [List.getElem?_set_ne z]
      exact r.free j e cj q
  mine := fun j e cj q => by
    have z : i ≠ j := fun z => c (z ▸ cj)
    rw [List.getElem?_set_ne z] at q
    rw [List.getElem?_set_ne z]
    exact r.mine j e cj q
  apart := fun j k d e a cj ck q1 q2 e1 e2 => by
    have z : i ≠ j := fun z => c (z ▸ cj)
    have z2 : i ≠ k := fun z => c (z ▸ ck)
    rw [List.getElem?_set_ne z] at q1 e1
    rw [List.getElem?_set_ne z2] at q2 e2
    exact r.apart j k d e a cj ck q1 q2 e1 e2
  bor := fun p hp => by
    obtain ⟨h1, h2, h3, h4⟩ := r.bor p hp
    exact ⟨h1, h2, by rw [List.getElem?_set_ne (show i ≠ p.1 from fun z => c (by rw [z]; exact h1))]; exact h3, h4⟩
  bord := fun p hp j d' cj q e => by
    have z : i ≠ j := fun z => c (z ▸ cj)
    rw [List.getElem?_set_ne z] at q e
    exact r.bord p hp j d' cj q e
  mark := r.mark
theorem Rel.vrelM (r : Rel K own H0 O0 O σ H ρ) : VRel K (hide O H) σ (mask own ρ) := ⟨by unfold mask; rw [maskF_len]; exact r.len, fun i d e => by
  obtain ⟨c, q⟩ := mask_some e
  exact r.free i d c q⟩
theorem Rel.other (r : Rel K own H0 O0 O σ H ρ) {σ' : L2.St} {ρ' : Vars} {js : List Nat} (hj : ∀ j ∈ js, j ∉ own) (hl : σ'.length = σ.length) (v : VRel K (hide O H) σ' (mask own ρ')) (f : ∀ j : Nat, j ∉ js → σ'[j]? = σ[j]? ∧ (mask own ρ')[j]? = (mask own ρ)[j]?) (f2 : ∀ j ∈ own, ρ'[j]? = ρ[j]?) : Rel K own H0 O0 O σ' H ρ' where
  same := r.same
  st0 := r.st0
  len := by have := v.len; unfold mask at this; rw [maskF_len] at this; exact this
  sub := r.sub
  lists := r.lists
  free := fun i d c e => v.get i d (mask_of c e)
  mine := fun i d c e => by
    have nj : i ∉ js := fun z => hj i z c
    rw [f2 i c] at e
    rw [(f i nj).1]
    exact r.mine i d c e
  apart := fun i j d e a ci cj q1 q2 e1 e2 => by
    have ni : i ∉ js := fun z => hj i z ci
    have nj : j ∉ js := fun z => hj j z cj
    rw [f2 i ci] at q1
    rw [f2 j cj] at q2
    rw [(f i ni).1] at e1
    rw [(f j nj).1] at e2
    exact r.apart i j d e a ci cj q1 q2 e1 e2
  bor := fun p hp => by
    obtain ⟨h1, h2, h3, h4⟩ := r.bor p hp
    exact ⟨h1, h2, by rw [(f p.1 (fun z => hj p.1 z h1)).1]; exact h3, h4⟩
  bord := fun p hp i d ci q e => by
    rw [f2 i ci] at q
    rw [(f i (fun z => hj i z ci)).1] at e
    exact r.bord p hp i d ci q e
  mark := r.mark
def keepB (own own' : List Nat) : Bool := own.all fun i => decide (i < 1000) || (own'.contains i && own'.contains (i - 1000))
theorem Rel.keep (r : Rel K own H0 O0 O σ H ρ) {own' : List Nat} (hk : keepB own own' = true) : ∀ p ∈ H0.b, p.1 ∈ own' ∧ 1000 + p.1 ∈ own' := fun p hp => by
    obtain ⟨_, h2, _⟩ := r.bor p hp
    have := List.all_eq_true.mp hk _ h2
    rw [Bool.or_eq_true] at this
    rcases this with z | z
    · exact absurd (of_decide_eq_true z) (by omega)
    · rw [Bool.and_eq_true] at z
      have e : 1000 + p.1 - 1000 = p.1 := by omega
      rw [e] at z
      exact ⟨List.contains_iff_mem.mp z.2, List.contains_iff_mem.mp z.1⟩
theorem Rel.freeze (r : Rel K own H0 O0 O σ H ρ) {own' : List Nat} (h : ∀ i ∈ own', i ∈ own) (kb : ∀ p ∈ H0.b, p.1 ∈ own' ∧ 1000 + p.1 ∈ own') : ∃ O', Rel K own' H0 O0 O' σ H ρ ∧ Same (hide O H) (hide O' H) := by
  classical
  let P : Addr → Prop := fun a => a ∈ O0 ∨ (∃ i ∈ own', σ[i]? = some (some (V.ref a)) ∧ ∃ d, ρ[i]? = some (some d)) ∨ ∃ p ∈ H0.b, p.2 = a
  have hm : ∀ a, a ∈ O.filter (fun a => decide (P a)) ↔ a ∈ O ∧ P a := fun a => by simp [List.mem_filter]
  have sF : Same (hide O H) (hide (O.filter fun a => decide (P a)) H) := hide_less fun a ha => ((hm a).mp ha).1
  refine ⟨O.filter fun a => decide (P a), ⟨r.same, r.st0, r.len, fun a ha => (hm a).mpr ⟨r.sub a ha, .inl ha⟩, fun a ha => r.lists a ((hm a).mp ha).1, fun i d c e => ?_, fun i d c e => ?_, fun i j d e a ci cj => r.apart i j d e a (h i ci) (h j cj), fun p hp => ?_, fun p hp i d ci q e => r.bord p hp i d (h i ci) q e, fun i hi => r.mark i (h _ hi)⟩, sF⟩
  · by_cases ci : i ∈ own
    · obtain ⟨a, h1, h2, h3, h4⟩ := r.mine i d ci e
      refine ⟨.ref a, h1, h4.rp sF fun o ho => hide_of (fun z => ?_) ho⟩
      rcases ((hm a).mp z).2 with z | ⟨j, hj, e1, d', e2⟩ | ⟨p, hp, e1⟩
      · exact r.notO0 h3 z
      · exact c (r.apart i j _ _ a ci (h j hj) e e2 h1 e1 ▸ hj)
      · subst e1
        exact c (r.bord p hp i d ci e h1 ▸ (kb p hp).1)
    · obtain ⟨v, h1, h2⟩ := r.free i d ci e
      exact ⟨v, h1, h2.mono sF⟩
  · obtain ⟨a, h1, h2, h3, h4⟩ := r.mine i d (h i c) e
    exact ⟨a, h1, (hm a).mpr ⟨h2, .inr (.inl ⟨i, c, h1, d, e⟩)⟩, h3, h4.mono sF fun o ho => ho⟩
  · obtain ⟨h1, h2, h3, h4⟩ := r.bor p hp
    exact ⟨(kb p hp).1, (kb p hp).2, h3, (hm p.2).mpr ⟨h4, .inr (.inr ⟨p, hp, rfl⟩)⟩⟩
theorem Rel.notLent (r : Rel K own H0 O0 O σ H ρ) {i : Nat} (h : 1000 + i ∉ own) : ∀ q ∈ H0.b, i ≠ q.1 := fun q hq z => by
  subst z
  exact h (r.bor q hq).2.1
theorem Rel.unlent (r : Rel K own H0 O0 O σ H ρ) (h : (own.all fun i => decide (i < 1000)) = true) : H0.b = [] := by
  cases e : H0.b with
  | nil => rfl
  | cons p ps =>
    obtain ⟨_, h2, _⟩ := r.bor p (by rw [e]; exact List.mem_cons_self)
    exact absurd (of_decide_eq_true (List.all_eq_true.mp h _ h2)) (by omega)
end
def lkp : List (PyData × PyData) → Nat → Option PyData
  | [], _ => none
  | (.int j, d) :: r, i => if j = (i : Nat) then some d else lkp r i
  | _ :: r, i => lkp r i
def RtW (K : PySem.W.Frag) (H0 : HB) (O0 : List Addr) (F : Hp) (D : Ends) (d : PyData) : Prop := match H0.b with
  | [] => ∀ v H' O', Same H0 H' → Same F (hide O' H') → Rp K (hide O0 H') v d → D.rt v H'
  | b :: bs => match d with
    | .tuple [d1, .dict kvs] => ∀ v H' O', Same H0 H' → Same F (hide O' H') → Rp K (hide ((b :: bs).map (·.2) ++ O0) H') v d1 → (∀ p ∈ b :: bs, ∀ dd, lkp kvs p.1 = some dd → OwnV K (hide ((b :: bs).map (·.2) ++ O0) H') H' p.2 dd) → D.rt v H'
    | _ => False
theorem RtW.from {K : PySem.W.Frag} {H0 : HB} {O0 : List Addr} {F F' : Hp} {D : Ends} {d : PyData} (z : RtW K H0 O0 F D d) (s : Same F F') : RtW K H0 O0 F' D d := by
  unfold RtW at z ⊢
  cases e : H0.b with
  | nil => rw [e] at z; exact fun v H' O' s0 s1 r => z v H' O' s0 (s.trans s1) r
  | cons b bs =>
    rw [e] at z
    dsimp only at z ⊢
    split at z
    · exact fun v H' O' s0 s1 r => z v H' O' s0 (s.trans s1) r
    · exact z.elim
theorem RtW.no {K : PySem.W.Frag} {H0 : HB} {O0 : List Addr} {F : Hp} {D : Ends} {d : PyData} (h : H0.b = []) (z : RtW K H0 O0 F D d) : ∀ v H' O', Same H0 H' → Same F (hide O' H') → Rp K (hide O0 H') v d → D.rt v H' := by
  unfold RtW at z
  rw [h] at z; exact z
section
variable (X : Cx) (W : WX) (own : List Nat)
def SOut (H0 : HB) (O0 O : List Addr) (H : Hp) (D : Ends) : Out → Prop
  | .nx ρ => ∀ σ' H' O', Rel X.K own H0 O0 O' σ' H' ρ → Same (hide O H) (hide O' H') → D.nx σ' H'
  | .rt d => RtW X.K H0 O0 (hide O H) D d
  | .bk ρ => ∀ σ' H' O', Rel X.K own H0 O0 O' σ' H' ρ → Same (hide O H) (hide O' H') → D.bk σ' H'
  | .ct ρ => ∀ σ' H' O', Rel X.K own H0 O0 O' σ' H' ρ → Same (hide O H) (hide O' H') → D.ct σ' H'
  | .err c ρ => ∀ σ' H' O', Rel X.K own H0 O0 O' σ' H' ρ → Same (hide O H) (hide O' H') → W (exV X.mg c) none σ' H'
  | .bad => False
def SX (st : Stmt) (g : Vars → Out) : Prop :=
  ∃ t, PS X st t ∧ ∀ σ H ρ D H0 O0 O, Rel X.K own H0 O0 O σ H ρ → SOut X W own H0 O0 O H D (g ρ) → t D σ H
def SsX (sts : List Stmt) (g : Vars → Out) : Prop :=
  ∃ t, PSs X sts t ∧ ∀ σ H ρ D H0 O0 O, Rel X.K own H0 O0 O σ H ρ → SOut X W own H0 O0 O H D (g ρ) → t D σ H
end
section
variable {X : Cx} {W : WX} {own : List Nat}
theorem SOut.from {H0 : HB} {O0 O O' : List Addr} {H H' : Hp} {D : Ends} {o : Out} (h : SOut X W own H0 O0 O H D o) (s : Same (hide O H) (hide O' H')) : SOut X W own H0 O0 O' H' D o := by
  cases o with
  | nx ρ => exact fun σ' H'' O'' r s' => h σ' H'' O'' r (s.trans s')
  | rt d => exact RtW.from h s
  | bk ρ => exact fun σ' H'' O'' r s' => h σ' H'' O'' r (s.trans s')
  | ct ρ => exact fun σ' H'' O'' r s' => h σ' H'' O'' r (s.trans s')
  | err c ρ => exact fun σ' H'' O'' r s' => h σ' H'' O'' r (s.trans s')
  | bad => exact h
theorem EOut.run {f : R PyData} {k : PyData → Out} {O : List Addr} {H0 : HB} {O0 O1 : List Addr} {σ : L2.St} {H : Hp} {ρ : Vars} {D : Ends} {Q : VK} (r : Rel X.K own H0 O0 O1 σ H ρ) (z : SOut X W own H0 O0 O1 H D (f.run ρ k))
    (q : ∀ d v H', Same H H' → Rp X.K (hide O H') v d → SOut X W own H0 O0 O1 H' D (k d) → Rel X.K own H0 O0 O1 σ H' ρ → Q v H') : EOut X W O σ H Q f := by
  cases f with
  | ok d => exact fun v H' s rv => q d v H' s rv (SOut.from z (hide_same s)) (r.step s)
  | err c => exact fun H' s => z σ H' O1 (r.step s) (hide_same s)
  | bad => exact z
theorem TOut.run {f : R Bool} {k : Bool → Out} {H0 : HB} {O0 O1 : List Addr} {σ : L2.St} {H : Hp} {ρ : Vars} {D : Ends} {Q : Bool → Hp → Prop} (r : Rel X.K own H0 O0 O1 σ H ρ) (z : SOut X W own H0 O0 O1 H D (f.run ρ k))
    (q : ∀ d H', Same H H' → SOut X W own H0 O0 O1 H' D (k d) → Rel X.K own H0 O0 O1 σ H' ρ → Q d H') : TOut X W σ H Q f := by
  cases f with
  | ok d => exact fun H' s => q d H' s (SOut.from z (hide_same s)) (r.step s)
  | err c => exact fun H' s => z σ H' O1 (r.step s) (hide_same s)
  | bad => exact z
def sNil (ρ : Vars) : Out := .nx ρ
def sSeq (g h : Vars → Out) (ρ : Vars) : Out := (g ρ).then h
theorem ssx_nil : SsX X W own [] sNil := ⟨_, pss_nil, fun σ H ρ D H0 O0 O r z => z σ H O r (Same.refl _)⟩
theorem ssx_cons {st : Stmt} {rest : List Stmt} {g h : Vars → Out} (a : SX X W own st g) (b : SsX X W own rest h) : SsX X W own (st :: rest) (sSeq g h) := by
  obtain ⟨t, p, ht⟩ := a
  obtain ⟨u, q, hu⟩ := b
  refine ⟨_, pss_cons p q, fun σ H ρ D H0 O0 O r z => ht σ H ρ _ H0 O0 O r ?_⟩
  unfold sSeq at z
  cases e : g ρ with
  | nx ρ1 => rw [e] at z; exact fun σ1 H1 O1 r1 s1 => hu σ1 H1 ρ1 D H0 O0 O1 r1 (SOut.from z s1)
  | rt d => rw [e] at z; exact z
  | bk ρ1 => rw [e] at z; exact z
  | ct ρ1 => rw [e] at z; exact z
  | err c ρ1 => rw [e] at z; exact z
  | bad => rw [e] at z; exact z
theorem ssx_one {st : Stmt} {g : Vars → Out} (a : SX X W own st g) : SsX X W own [st] g := by
  obtain ⟨t, p, ht⟩ := a
  exact ⟨_, pss_one p, ht⟩
def sRet (f : Vars → R PyData) (ρ : Vars) : Out := (f ρ).run ρ fun d => .rt d
theorem sx_ret {e : Expr} {f : Vars → R PyData} {pos : Pos} (h : EX X W e f) (hnb : (own.all fun i => decide (i < 1000)) = true := by rfl) : SX X W own (.Return (some e) pos) (sRet f) := by
  obtain ⟨t, p, ht⟩ := h
  exact ⟨_, ps_ret p, fun σ H ρ D H0 O0 O r z => ht σ H O0 ρ _ r.stands0 r.vrel0 (EOut.run r z fun d v H' s rv z' r' => z'.no (r.unlent hnb) v H' O r'.same (Same.refl _) rv)⟩
def sIf (c : Vars → R Bool) (g h : Vars → Out) (ρ : Vars) : Out := (c ρ).run ρ fun b => if b = true then g ρ else h ρ
theorem sx_if {c : Expr} {a b : List Stmt} {tc : Vars → R Bool} {g h : Vars → Out} {pos : Pos} (hc : TX X W c tc) (ha : SsX X W own a g) (hb : SsX X W own b h) : SX X W own (.If c a b pos) (sIf tc g h) := by
  obtain ⟨t, p, ht⟩ := hc
  obtain ⟨ta, pa, hta⟩ := ha
  obtain ⟨tb, pb, htb⟩ := hb
  refine ⟨_, ps_if p pa pb, fun σ H ρ D H0 O0 O r z => ht σ H O0 ρ _ r.stands0 r.vrel0 (TOut.run r z fun d H' s z' r' => ?_)⟩
  cases d with
  | true => exact hta σ H' ρ D H0 O0 O r' z'
  | false => exact htb σ H' ρ D H0 O0 O r' z'
def sSet (own : List Nat) (i : Nat) (f : Vars → R PyData) (ρ : Vars) : Out := (f ρ).run ρ fun d => if (own.isEmpty || imm d) = true then .nx (ρ.set i (some d)) else .bad
theorem set_end {i : Nat} {H0 : HB} {O0 O : List Addr} {σ : L2.St} {H' : Hp} {ρ : Vars} {D : Ends} {v : V} {d : PyData} (hi : i ∉ own) (r' : Rel X.K own H0 O0 O σ H' ρ) (rv : Rp X.K (hide O0 H') v d) (z' : SOut X W own H0 O0 O H' D (if (own.isEmpty || imm d) = true then .nx (ρ.set i (some d)) else .bad)) (h2 : own = [] → Rp X.K (hide O H') v d) : D.nx (σ.set i (some v)) H' := by
  by_cases c : (own.isEmpty || imm d) = true
  · rw [if_pos c] at z'
    have rO : Rp X.K (hide O H') v d := by
      rw [Bool.or_eq_true] at c
      rcases c with c | c
      · exact h2 (List.isEmpty_iff.mp c)
      · exact r'.imm rv c
    exact z' _ H' O (r'.set hi rO) (Same.refl _)
  · rw [if_neg c] at z'; exact z'.elim
theorem sx_set {i : Nat} {x : Str} {e : Expr} {f : Vars → R PyData} {pos' pos : Pos} (hN : X.N.Nodup) (hi : X.N[i]? = some x) (hx : Loc X.env.scope x) (h : EX X W e f) (ho : own.contains i = false) (hs : swapsWith e (some (.Name x pos')) pos.line X.env = pure false := by rfl) (hf : X.fn x = true ∨ X.env.scope.names.lookup x = some .local := by first | exact .inl rfl | exact .inr rfl | assumption) :
    SX X W own (.Assign [.Name x pos'] e pos) (sSet own i f) := by
  obtain ⟨t, p, ht⟩ := h
  have hi' : i ∉ own := fun z => by rw [List.contains_iff_mem.mpr z] at ho; cases ho
  refine ⟨_, ps_set hN hi hx p hs hf, fun σ H ρ D H0 O0 O r z => ?_⟩
  by_cases c : own = []
  · subst c
    exact ht σ H O ρ _ r.stands r.vrel (EOut.run r z fun d v H' s rv z' r' => set_end hi' r' (rv.mono (hide_less r'.sub)) z' fun _ => rv)
  · exact ht σ H O0 ρ _ r.stands0 r.vrel0 (EOut.run r z fun d v H' s rv z' r' => set_end hi' r' rv z' fun e => absurd e c)
def sSetM (own : List Nat) (i : Nat) (f : Vars → R PyData) (ρ : Vars) : Out := (f (mask own ρ)).run ρ fun d => .nx (ρ.set i (some d))
theorem sx_setM {i : Nat} {x : Str} {e : Expr} {f : Vars → R PyData} {pos' pos : Pos} (hN : X.N.Nodup) (hi : X.N[i]? = some x) (hx : Loc X.env.scope x) (h : EX X W e f) (ho : own.contains i = false) (hs : swapsWith e (some (.Name x pos')) pos.line X.env = pure false := by rfl) (hf : X.fn x = true ∨ X.env.scope.names.lookup x = some .local := by first | exact .inl rfl | exact .inr rfl | assumption) :
    SX X W own (.Assign [.Name x pos'] e pos) (sSetM own i f) := by
  obtain ⟨t, p, ht⟩ := h
  have hi' : i ∉ own := fun z => by rw [List.contains_iff_mem.mpr z] at ho; cases ho
  refine ⟨_, ps_set hN hi hx p hs hf, fun σ H ρ D H0 O0 O r z => ?_⟩
  exact ht σ H O _ _ r.stands r.vrelM (EOut.run r z fun d v H' s rv z' r' => z' _ H' O (r'.set hi' rv) (Same.refl _))
theorem other_of {js : List Nat} {gt : PyData → Vars → Option Vars} (ok : GtOk js gt) (hj : ∀ j ∈ js, j ∉ own) {H0 : HB} {O0 O : List Addr} {σ σ' : L2.St} {H : Hp} {ρ ρ' : Vars} {d : PyData} (r : Rel X.K own H0 O0 O σ H ρ) (e : gt d ρ = some ρ') (v : VRel X.K (hide O H) σ' (mask own ρ')) (l : σ'.length = σ.length)
    (f : ∀ j : Nat, j ∉ js → σ'[j]? = σ[j]? ∧ (mask own ρ')[j]? = (mask own ρ)[j]?) (f2 : ∀ j : Nat, j ∉ js → ρ'[j]? = ρ[j]?) : Rel X.K own H0 O0 O σ' H ρ' := r.other hj l v f fun j ho => f2 j fun z => hj j z ho
structure GtIn (js : List Nat) (gt : PyData → Vars → Option Vars) : Prop where
  out : ∀ d ρ ρ', gt d ρ = some ρ' → ∀ j : Nat, j ∉ js → ρ'[j]? = ρ[j]?
theorem gtName_in (i : Nat) : GtIn [i] (gtName i) := ⟨fun d ρ ρ' e j hj => by
  cases e
  rw [List.getElem?_set_ne (fun z => hj (by simp [z]))]⟩
structure GtsIn (js : List Nat) (gt : List PyData → Vars → Option Vars) : Prop where
  out : ∀ d ρ ρ', gt d ρ = some ρ' → ∀ j : Nat, j ∉ js → ρ'[j]? = ρ[j]?
theorem gtNil_in : GtsIn [] gtNil := ⟨fun d ρ ρ' e j hj => by cases d <;> cases e; rfl⟩
theorem gtCons_in {js ks : List Nat} {g : PyData → Vars → Option Vars} {h : List PyData → Vars → Option Vars} (a : GtIn js g) (b : GtsIn ks h) : GtsIn (js ++ ks) (gtCons g h) := ⟨fun d ρ ρ' e j hj => by
  cases d with
  | nil => cases e
  | cons d r =>
    have e' : (g d ρ).bind (fun ρ' => h r ρ') = some ρ' := e
    cases e1 : g d ρ with
    | none => rw [e1] at e'; cases e'
    | some ρ1 =>
      rw [e1] at e'
      rw [b.out r ρ1 ρ' e' j (fun z => hj (List.mem_append_right _ z)), a.out d ρ ρ1 e1 j (fun z => hj (List.mem_append_left _ z))]⟩
theorem gtTup_in {n : Nat} {js : List Nat} {h : List PyData → Vars → Option Vars} (b : GtsIn js h) : GtIn js (gtTup n h) := ⟨fun d ρ ρ' e j hj => by
  cases d <;> try cases e
  rename_i ds
  unfold gtTup at e
  dsimp only at e
  by_cases c : ds.length = n
  · rw [if_pos c] at e; exact b.out _ _ _ e j hj
  · rw [if_neg c] at e; cases e⟩
def NX (X : Cx) (W : WX) (e : Expr) (f : Vars → R (List PyData)) : Prop :=
  ∃ t, PE X e t ∧ ∀ σ H O ρ (Q : VK), Stands O H → VRel X.K (hide O H) σ ρ → NOut X W O σ H Q (f ρ) → t σ H Q
def nLst (f : Vars → R (List PyData)) (ρ : Vars) : R (List PyData) := (f ρ).bind fun ds => if ds.length ≤ sizeLine then .ok ds else .bad
theorem nx_lst {es : List Expr} {f : Vars → R (List PyData)} {pos : Pos} (h : AX X W es f) : NX X W (.List es pos) (nLst f) := by
  obtain ⟨t, p, ht⟩ := h
  refine ⟨_, pe_lst p, fun σ H O ρ Q hO hr z => ht σ H O ρ _ hO hr ?_⟩
  unfold nLst at z
  cases e : f ρ with
  | bad => rw [e] at z; exact z
  | err c => rw [e] at z; exact z
  | ok ds =>
    rw [e, R.bind_ok] at z
    intro vs H1 s1 r1
    by_cases c : ds.length ≤ sizeLine
    · rw [if_pos c] at z
      refine ⟨by rw [r1.length]; exact c, fun p hp => z p vs _ (s1.trans (same_new hp)) (s1.free hp) upd_same (r1.mono fun a o h => ?_)⟩
      obtain ⟨c1, h1⟩ := hide_some h
      have n := ne_of_none h1 hp
      exact hide_of (fun z => (List.mem_cons.mp z).elim n c1) (by rw [upd_ne n]; exact h1)
    · rw [if_neg c] at z; exact z.elim
def sNew (own : List Nat) (i : Nat) (f : Vars → R (List PyData)) (ρ : Vars) : Out := (f (mask own ρ)).run ρ fun ds => .nx (ρ.set i (some (.list ds)))
theorem Rel.laidV {H0 : HB} {O0 O : List Addr} {σ : L2.St} {H H' : Hp} {ρ : Vars} {i : Nat} (hi : i ∈ own) (hni : ∀ q ∈ H0.b, i ≠ q.1) {p : Addr} {dn : PyData} (r : Rel X.K own H0 O0 O σ H ρ) (s : Same H H') (hp : H p = none) (rs : OwnV X.K (hide (p :: O) H') H' p dn) :
    Rel X.K own H0 O0 (p :: O) (σ.set i (some (.ref p))) H' (ρ.set i (some dn)) ∧ Same (hide O H) (hide (p :: O) H') := by
  have sF : Same (hide O H) (hide (p :: O) H') := fun a o h => by
    obtain ⟨c, e⟩ := hide_some h
    exact hide_of (fun z => (List.mem_cons.mp z).elim (ne_of_none e hp) c) (s a o e)
  refine ⟨?_, sF⟩
  -- the state ahead of the store, in the later heap
  have r1 : Rel X.K own H0 O0 O σ H' ρ := r.step s
  have np : p ∉ O := r.stands.new hp
  refine ⟨r1.same, r1.st0, by simpa using r1.len, fun a ha => List.mem_cons_of_mem _ (r1.sub a ha), fun a ha => ?_, fun j d cj q => ?_, fun j d cj q => ?_, fun j k d e a cj ck q1 q2 e1 e2 => ?_, fun q hq => ?_, fun q hq j d cj q1 e1 => ?_, r.mark⟩
  · rcases List.mem_cons.mp ha with e | ha
    · rw [e]; exact .inr ⟨r.same.free hp, rs.own⟩
    · exact r1.lists a ha
  · have z : i ≠ j := fun z => cj (z ▸ hi)
    rw [List.getElem?_set_ne z] at q
    rw [List.getElem?_set_ne z]
    obtain ⟨v, h1, h2⟩ := r.free j d cj q
    exact ⟨v, h1, h2.mono sF⟩
  · have hl := r.len
    by_cases z : i = j
    · subst z
      by_cases hlt : i < ρ.length
      · rw [List.getElem?_set_self hlt] at q
        cases q
        exact ⟨p, List.getElem?_set_self (by omega), List.mem_cons_self, r.same.free hp, rs⟩
      · rw [List.getElem?_eq_none (by simpa using hlt)] at q; cases q
    · rw [List.getElem?_set_ne z] at q
      rw [List.getElem?_set_ne z]
      obtain ⟨a, h1, h2, h3, h4⟩ := r.mine j d cj q
      exact ⟨a, h1, List.mem_cons_of_mem _ h2, h3, h4.mono sF (s a)⟩
  · have key : ∀ (m : Nat) (d : PyData), m ∈ own → i ≠ m → (ρ.set i (some dn))[m]? = some (some d) → (σ.set i (some (V.ref p)))[m]? ≠ some (some (V.ref p)) := fun m d cm z q1 e1 => by
      rw [List.getElem?_set_ne z] at q1 e1
      obtain ⟨a', h1, h2, h3, h4⟩ := r.mine m d cm q1
      rw [e1] at h1
      cases h1
      exact np h2
    by_cases z : i = j
    · by_cases z2 : i = k
      · exact z.symm.trans z2
      · subst z
        have hlt : i < σ.length := by
          rcases Nat.lt_or_ge i σ.length with h | h
          · exact h
          · rw [List.getElem?_eq_none (by simpa using h)] at e1; cases e1
        rw [List.getElem?_set_self hlt] at e1
        cases e1
        exact absurd e2 (key k e ck z2 q2)
    · by_cases z2 : i = k
      · subst z2
        have hlt : i < σ.length := by
          rcases Nat.lt_or_ge i σ.length with h | h
          · exact h
          · rw [List.getElem?_eq_none (by simpa using h)] at e2; cases e2
        rw [List.getElem?_set_self hlt] at e2
        cases e2
        exact absurd e1 (key j d cj z q1)
      · rw [List.getElem?_set_ne z] at q1 e1
        rw [List.getElem?_set_ne z2] at q2 e2
        exact r.apart j k d e a cj ck q1 q2 e1 e2
  · obtain ⟨h1, h2, h3, h4⟩ := r.bor q hq
    have z : i ≠ q.1 := hni q hq
    exact ⟨h1, h2, by rw [List.getElem?_set_ne z]; exact h3, List.mem_cons_of_mem _ h4⟩
  · obtain ⟨h1, h2, h3, h4⟩ := r.bor q hq
    by_cases z : i = j
    · subst z
      have hlt : i < σ.length := by
        rcases Nat.lt_or_ge i σ.length with h | h
        · exact h
        · rw [List.getElem?_eq_none (by simpa using h)] at e1; cases e1
      rw [List.getElem?_set_self hlt] at e1
      injection e1 with e1; injection e1 with e1; injection e1 with e1
      exact absurd (e1 ▸ h4) np
    · rw [List.getElem?_set_ne z] at q1 e1
      exact r.bord q hq j d cj q1 e1
theorem Rel.laid {H0 : HB} {O0 O : List Addr} {σ : L2.St} {H H' : Hp} {ρ : Vars} {i : Nat} (hi : i ∈ own) (hni : ∀ q ∈ H0.b, i ≠ q.1) {p : Addr} {vs : List V} {ds : List PyData} (r : Rel X.K own H0 O0 O σ H ρ) (s : Same H H') (hp : H p = none) (hp' : H' p = some (.lst vs)) (rs : Rps X.K (hide (p :: O) H') vs ds) :
    Rel X.K own H0 O0 (p :: O) (σ.set i (some (.ref p))) H' (ρ.set i (some (.list ds))) ∧ Same (hide O H) (hide (p :: O) H') := r.laidV hi hni s hp ⟨vs, hp', rs⟩
theorem NOut.run {f : R (List PyData)} {k : List PyData → Out} {O : List Addr} {H0 : HB} {O0 O1 : List Addr} {σ : L2.St} {H : Hp} {ρ : Vars} {D : Ends} {Q : VK} (r : Rel X.K own H0 O0 O1 σ H ρ) (z : SOut X W own H0 O0 O1 H D (f.run ρ k))
    (q : ∀ ds p vs H', Same H H' → H p = none → H' p = some (.lst vs) → Rps X.K (hide (p :: O) H') vs ds → SOut X W own H0 O0 O1 H D (k ds) → Q (.ref p) H') : NOut X W O σ H Q f := by
  cases f with
  | ok d => exact fun p vs H' s h1 h2 h3 => q d p vs H' s h1 h2 h3 z
  | err c => exact fun H' s => z σ H' O1 (r.step s) (hide_same s)
  | bad => exact z
theorem sx_new {i : Nat} {x : Str} {e : Expr} {f : Vars → R (List PyData)} {pos' pos : Pos} (hN : X.N.Nodup) (hi : X.N[i]? = some x) (hx : Loc X.env.scope x) (h : NX X W e f) (ho : own.contains i = true) (hs : swapsWith e (some (.Name x pos')) pos.line X.env = pure false := by rfl) (hf : X.fn x = true ∨ X.env.scope.names.lookup x = some .local := by first | exact .inl rfl | exact .inr rfl | assumption) (hni : own.contains (1000 + i) = false := by rfl) :
    SX X W own (.Assign [.Name x pos'] e pos) (sNew own i f) := by
  obtain ⟨t, p, ht⟩ := h
  have hni' : 1000 + i ∉ own := fun z => by rw [List.contains_iff_mem.mpr z] at hni; cases hni
  have hi' : i ∈ own := List.contains_iff_mem.mp ho
  refine ⟨_, ps_set hN hi hx p hs hf, fun σ H ρ D H0 O0 O r z => ht σ H O _ _ r.stands r.vrelM (NOut.run r z fun ds p vs H' s h1 h2 h3 z' => ?_)⟩
  obtain ⟨r', sF⟩ := r.laid hi' (r.notLent hni') s h1 h2 h3
  exact z' _ H' _ r' sF
theorem Rel.writeV {H0 : HB} {O0 O : List Addr} {σ : L2.St} {H : Hp} {ρ : Vars} {i : Nat} (hi : i ∈ own) {a : Addr} {ob : HO} {d de : PyData} (r : Rel X.K own H0 O0 O σ H ρ) (q : ρ[i]? = some (some d)) (e : σ[i]? = some (some (.ref a))) (ha : a ∈ O) (h0 : H0 a = none) (rs : OwnV X.K (hide O H) (upd H a ob) a de) :
    Rel X.K own H0 O0 O σ (upd H a ob) (ρ.set i (some de)) ∧ Same (hide O H) (hide O (upd H a ob)) := by
  have hid : ∀ o', hide O (upd H a o') = hide O H := fun o' => by
    funext b
    unfold hide
    by_cases c : b ∈ O
    · rw [if_pos c, if_pos c]
    · rw [if_neg c, if_neg c, upd_ne (fun z => c (by rw [z]; exact ha))]
  have hlt : i < ρ.length := (List.getElem?_eq_some_iff.mp q).1
  refine ⟨⟨fun b o hb => ?_, r.st0, by simpa using r.len, r.sub, fun b hb => ?_, fun j d' cj q' => ?_, fun j d' cj q' => ?_, fun j k d1 d2 b cj ck q1 q2 e1 e2 => ?_, r.bor, fun p hp j d' cj q' e' => ?_, r.mark⟩, by rw [hid]; exact Same.refl _⟩
  · have n : b ≠ a := ne_of_none hb h0
    rw [upd_ne n]; exact r.same b o hb
  · by_cases n : b = a
    · subst n; exact .inr ⟨h0, rs.own⟩
    · rw [upd_ne n]; exact r.lists b hb
  · have z : i ≠ j := fun z => cj (z ▸ hi)
    rw [List.getElem?_set_ne z] at q'
    rw [hid]
    exact r.free j d' cj q'
  · by_cases z : i = j
    · subst z
      rw [List.getElem?_set_self hlt] at q'
      cases q'
      exact ⟨a, e, ha, h0, by rw [hid]; exact rs⟩
    · rw [List.getElem?_set_ne z] at q'
      obtain ⟨b, g1, g2, g3, g4⟩ := r.mine j d' cj q'
      have n : b ≠ a := fun n => by
        subst n
        exact z (r.apart i j _ _ b hi cj q q' e g1)
      exact ⟨b, g1, g2, g3, g4.mono (by rw [hid]; exact Same.refl _) fun o ho => by rw [upd_ne n]; exact ho⟩
  · have as : ∀ (m : Nat) (d : PyData), (ρ.set i (some de))[m]? = some (some d) → ∃ d', ρ[m]? = some (some d') := fun m d hm => by
      by_cases z : i = m
      · subst z; exact ⟨_, q⟩
      · rw [List.getElem?_set_ne z] at hm; exact ⟨_, hm⟩
    obtain ⟨d1', q1'⟩ := as j d1 q1
    obtain ⟨d2', q2'⟩ := as k d2 q2
    exact r.apart j k d1' d2' b cj ck q1' q2' e1 e2
  · by_cases z : i = j
    · subst z; exact r.bord p hp i d cj q e'
    · rw [List.getElem?_set_ne z] at q'
      exact r.bord p hp j d' cj q' e'
theorem Rel.write {H0 : HB} {O0 O : List Addr} {σ : L2.St} {H : Hp} {ρ : Vars} {i : Nat} (hi : i ∈ own) {a : Addr} {vs vs' : List V} {d : PyData} {es : List PyData} (r : Rel X.K own H0 O0 O σ H ρ) (q : ρ[i]? = some (some d)) (e : σ[i]? = some (some (.ref a))) (ha : a ∈ O) (h0 : H0 a = none) (h : H a = some (.lst vs)) (rs : Rps X.K (hide O H) vs' es) :
    Rel X.K own H0 O0 O σ (upd H a (.lst vs')) (ρ.set i (some (.list es))) ∧ Same (hide O H) (hide O (upd H a (.lst vs'))) := r.writeV hi q e ha h0 ⟨vs', upd_same, rs⟩
def sApp (i : Nat) (f : Vars → R PyData) (ρ : Vars) : Out := match ρ.getD i none with
  | some (.list ds) => (f ρ).run ρ fun d => if (decide (ds.length < sizeLine) && imm d) = true then .nx (ρ.set i (some (.list (ds ++ [d])))) else .bad
  | _ => .bad
def sAppM (own : List Nat) (i : Nat) (f : Vars → R PyData) (ρ : Vars) : Out := match ρ.getD i none with
  | some (.list ds) => (f (mask own ρ)).run ρ fun d => if ds.length < sizeLine then .nx (ρ.set i (some (.list (ds ++ [d])))) else .bad
  | _ => .bad
theorem getD_some {ρ : Vars} {i : Nat} {d : PyData} (h : ρ.getD i none = some d) : ρ[i]? = some (some d) := by
  rw [List.getD_eq_getElem?_getD] at h
  cases e : ρ[i]? with
  | none => rw [e] at h; cases h
  | some o => rw [e] at h; exact congrArg some h
theorem own_list {i : Nat} (hi : i ∈ own) {H0 : HB} {O0 O : List Addr} {σ : L2.St} {H : Hp} {ρ : Vars} {ds : List PyData} (r : Rel X.K own H0 O0 O σ H ρ) (e : ρ.getD i none = some (.list ds)) : ∃ a vs, σ[i]? = some (some (.ref a)) ∧ a ∈ O ∧ H0 a = none ∧ H a = some (.lst vs) ∧ Rps X.K (hide O H) vs ds := by
  obtain ⟨a, h1, h2, h3, vs, h4, h5⟩ := r.mine i _ hi (getD_some e)
  exact ⟨a, vs, h1, h2, h3, h4, h5⟩
theorem Rel.mineL {i : Nat} (hi : i ∈ own) {H0 : HB} {O0 O : List Addr} {σ : L2.St} {H : Hp} {ρ : Vars} {ds : List PyData} (r : Rel X.K own H0 O0 O σ H ρ) (e : ρ[i]? = some (some (.list ds))) : ∃ a vs, σ[i]? = some (some (.ref a)) ∧ a ∈ O ∧ H0 a = none ∧ H a = some (.lst vs) ∧ Rps X.K (hide O H) vs ds := by
  obtain ⟨a, h1, h2, h3, vs, h4, h5⟩ := r.mine i _ hi e
  exact ⟨a, vs, h1, h2, h3, h4, h5⟩
theorem getD_list {ρ : Vars} {i : Nat} {k : List PyData → Out} {H0 : HB} {O0 O : List Addr} {H : Hp} {D : Ends} (z : SOut X W own H0 O0 O H D (match ρ.getD i none with
    | some (.list ds) => k ds
    | _ => .bad)) : ∃ ds, ρ.getD i none = some (.list ds) ∧ SOut X W own H0 O0 O H D (k ds) := by
  cases e : ρ.getD i none with
  | none => rw [e] at z; exact z.elim
  | some d =>
    rw [e] at z
    cases d with
    | list ds => exact ⟨ds, rfl, z⟩
    | _ => exact z.elim
section
variable {i : Nat} {x : Str} {e : Expr} {f : Vars → R PyData} {p apos cpos pos : Pos}
theorem sx_app (h : EX X W e f) (ho : own.contains i = true) (hN : X.N[i]? = some x := by rfl) (hv : Vis X.env.scope x := by first | exact Or.inl rfl | exact Or.inr (Or.inl rfl) | exact Or.inr (Or.inr rfl)) (hd : (x == ("__debug__" : Str)) = false := by decide)
    (hcd : (x == ("__classdict__" : Str)) = false := by decide)
    (hbase : attributeBase (.Name x p) "append" X.env (eval (.Name x p) X.env) = eval (.Name x p) X.env := by rfl)
    (hfew : ((backTo cpos (starEach [e] X.env)).all (fun x => !x.1) && (backToKw cpos (keywordEach [] X.env)).all (fun x => x.1.isSome)
      && decide (([e] : List Expr).length + ([] : List Keyword).length + (if ([] : List Keyword).isEmpty then 0 else 1) < 30)) = true := by rfl)
    (hline : (apos.endLine == cpos.line) = true := by rfl) (hs : starEach [e] X.env = (false, eval e X.env) :: starEach [] X.env := by rfl) (hplain : (backTo cpos (starEach [] X.env)).any (·.1) = false := by rfl)
    (hsw : swapsWith (.Call (.Attribute (.Name x p) "append" apos) [e] [] cpos) none pos.line X.env = pure false := by rfl) :
    SX X W own (.Expr (.Call (.Attribute (.Name x p) "append" apos) [e] [] cpos) pos) (sApp i f) := by
  obtain ⟨t, q, ht⟩ := h
  have hi : i ∈ own := List.contains_iff_mem.mp ho
  refine ⟨_, ps_expr (pe_bm PySem.F.plainAttrs_list PySem.F.slot_list_append PySem.F.type_list_append mt_append (pe_var hN hv hd hcd) (pa_cons q pa_nil hs) hbase hfew hline hs hplain) hsw, fun σ H ρ D H0 O0 O r z => ?_⟩
  unfold sApp at z
  obtain ⟨ds, e1, z⟩ := getD_list z
  obtain ⟨a, vs, g1, g2, g3, g4, g5⟩ := own_list hi r e1
  refine ⟨.ref a, g1, .inl ⟨rfl, vs, .inl (.inl g4)⟩, ht σ H O0 ρ _ r.stands0 r.vrel0 (EOut.run r z fun d v H' s rv z' r' => ?_)⟩
  by_cases c : (decide (ds.length < sizeLine) && imm d) = true
  · rw [if_pos c] at z'
    rw [Bool.and_eq_true] at c
    have rO := r'.imm rv c.2
    obtain ⟨r2, sF⟩ := r'.write hi (getD_some e1) g1 g2 g3 (s _ _ g4) ((g5.mono (hide_same s)).append (.cons rO .nil))
    exact ⟨a, vs, v, rfl, rfl, s _ _ g4, by rw [g5.length]; exact of_decide_eq_true c.1, z' σ _ O r2 sF⟩
  · rw [if_neg c] at z'; exact z'.elim
theorem sx_appM (h : EX X W e f) (ho : own.contains i = true) (hN : X.N[i]? = some x := by rfl) (hv : Vis X.env.scope x := by first | exact Or.inl rfl | exact Or.inr (Or.inl rfl) | exact Or.inr (Or.inr rfl)) (hd : (x == ("__debug__" : Str)) = false := by decide)
    (hcd : (x == ("__classdict__" : Str)) = false := by decide)
    (hbase : attributeBase (.Name x p) "append" X.env (eval (.Name x p) X.env) = eval (.Name x p) X.env := by rfl)
    (hfew : ((backTo cpos (starEach [e] X.env)).all (fun x => !x.1) && (backToKw cpos (keywordEach [] X.env)).all (fun x => x.1.isSome)
      && decide (([e] : List Expr).length + ([] : List Keyword).length + (if ([] : List Keyword).isEmpty then 0 else 1) < 30)) = true := by rfl)
    (hline : (apos.endLine == cpos.line) = true := by rfl) (hs : starEach [e] X.env = (false, eval e X.env) :: starEach [] X.env := by rfl) (hplain : (backTo cpos (starEach [] X.env)).any (·.1) = false := by rfl)
    (hsw : swapsWith (.Call (.Attribute (.Name x p) "append" apos) [e] [] cpos) none pos.line X.env = pure false := by rfl) :
    SX X W own (.Expr (.Call (.Attribute (.Name x p) "append" apos) [e] [] cpos) pos) (sAppM own i f) := by
  obtain ⟨t, q, ht⟩ := h
  have hi : i ∈ own := List.contains_iff_mem.mp ho
  refine ⟨_, ps_expr (pe_bm PySem.F.plainAttrs_list PySem.F.slot_list_append PySem.F.type_list_append mt_append (pe_var hN hv hd hcd) (pa_cons q pa_nil hs) hbase hfew hline hs hplain) hsw, fun σ H ρ D H0 O0 O r z => ?_⟩
  unfold sAppM at z
  obtain ⟨ds, e1, z⟩ := getD_list z
  obtain ⟨a, vs, g1, g2, g3, g4, g5⟩ := own_list hi r e1
  refine ⟨.ref a, g1, .inl ⟨rfl, vs, .inl (.inl g4)⟩, ht σ H O _ _ r.stands r.vrelM (EOut.run r z fun d v H' s rv z' r' => ?_)⟩
  by_cases c : ds.length < sizeLine
  · rw [if_pos c] at z'
    obtain ⟨r2, sF⟩ := r'.write hi (getD_some e1) g1 g2 g3 (s _ _ g4) ((g5.mono (hide_same s)).append (.cons rv .nil))
    exact ⟨a, vs, v, rfl, rfl, s _ _ g4, by rw [g5.length]; exact c, z' σ _ O r2 sF⟩
  · rw [if_neg c] at z'; exact z'.elim
end
end
end Pu
set_option Elab.async false
set_option linter.all false
set_option maxRecDepth 100000
set_option maxHeartbeats 4000000
namespace Pu
open PySem PySem.Spec PyProof.Rows L2
section
variable {X : Cx} {W : WX} {own : List Nat}
def forL (gt : PyData → Vars → Option Vars) (g : Vars → Out) : List PyData → Vars → Out
  | [], ρ => .nx ρ
  | d :: ds, ρ => match gt d ρ with
    | none => .bad
    | some ρ1 => match g ρ1 with
      | .nx ρ2 => forL gt g ds ρ2
      | .ct ρ2 => forL gt g ds ρ2
      | .bk ρ2 => .nx ρ2
      | .rt d => .rt d
      | .err c ρ2 => .err c ρ2
      | .bad => .bad
def sFor (own : List Nat) (fi : Vars → R (List PyData)) (gt : PyData → Vars → Option Vars) (g : Vars → Out) (ρ : Vars) : Out := (fi (mask own ρ)).run ρ fun ds => forL gt g ds ρ
theorem sx_for {tg iter : Expr} {body : List Stmt} {js : List Nat} {fi : Vars → R (List PyData)} {gt : PyData → Vars → Option Vars} {g : Vars → Out} {pos : Pos} (hp : PassesOwn (model X.prog X.w) X.A X.env X.xe) (hc : X.calm = true) (hi : IX X W tg iter fi) (hg : GX X tg js gt) (hin : GtIn js gt) (ho : (js.all fun j => !own.contains j) = true)
    (hb : SsX X W own body g) (hs : ∀ x, foldedSetIterable iter X.env x = pure x := by intro _; rfl) : SX X W own (.For tg iter body [] pos) (sFor own fi gt g) := by
  obtain ⟨wi, p, hwi⟩ := hi
  obtain ⟨ok, tgt, q, hgt⟩ := hg
  obtain ⟨tb, pb, htb⟩ := hb
  have hj : ∀ j ∈ js, j ∉ own := fun j h z => by
    have := List.all_eq_true.mp ho j h
    rw [List.contains_iff_mem.mpr z] at this; cases this
  refine ⟨_, ps_for hp hc p q pb hs, fun σ H ρ D H0 O0 O r z => ?_⟩
  refine hwi σ H O (mask own ρ) _ r.stands r.vrelM ?_
  unfold sFor at z
  cases e : fi (mask own ρ) with
  | bad => rw [e] at z; exact z
  | err c => rw [e] at z; exact fun H' s => z σ H' O (r.step s) (hide_same s)
  | ok ds =>
    rw [e, R.run_ok] at z
    intro J H1 s1 hJ
    refine ⟨fun i m σ2 H2 => m = ds.length - i ∧ i ≤ ds.length ∧ ∃ O2 ρ2, Rel X.K own H0 O0 O2 σ2 H2 ρ2 ∧ Same (hide O H1) (hide O2 H2) ∧ SOut X W own H0 O0 O2 H2 D (forL gt g (ds.drop i) ρ2), ⟨ds.length, rfl, Nat.zero_le _, O, ρ, r.step s1, Same.refl _, SOut.from z (hide_same s1)⟩, ?_⟩
    rintro i m σ2 H2 ⟨rfl, hle, O2, ρ2, r2, sF, z2⟩
    obtain ⟨j1, j2⟩ := hJ i H2 O2 r2.stands sF
    by_cases hlt : i < ds.length
    · have hd : ds[i]? = some ds[i] := List.getElem?_eq_getElem hlt
      obtain ⟨g1, g2⟩ := j1 _ hd
      have hdrop : ds.drop i = ds[i] :: ds.drop (i + 1) := List.drop_eq_getElem_cons hlt
      rw [hdrop] at z2
      unfold forL at z2
      cases eg : gt ds[i] ρ2 with
      | none => rw [eg] at z2; exact z2.elim
      | some ρ3 =>
        rw [eg] at z2
        dsimp only at z2
        refine .inr ⟨g1, fun σ' H' => (i + 1 ≤ ds.length ∧ ∃ O2 ρ2, Rel X.K own H0 O0 O2 σ' H' ρ2 ∧ Same (hide O H1) (hide O2 H') ∧ SOut X W own H0 O0 O2 H' D (forL gt g (ds.drop (i + 1)) ρ2)),
          fun σ' H' hn => ⟨ds.length - (i + 1), by omega, rfl, hn.1, hn.2⟩, fun x H3 y => ?_⟩
        obtain ⟨s23, rx⟩ := g2 x H3 y
        have r3 := r2.step s23
        refine hgt x ds[i] σ2 H3 O2 (mask own ρ2) (mask own ρ3) _ r3.stands r3.vrelM rx (ok.msk own _ ρ2 ρ3 hj eg) fun σ3 v3 l3 f3 => ?_
        have r4 : Rel X.K own H0 O0 O2 σ3 H3 ρ3 := other_of ok hj r3 eg v3 l3 f3 (hin.out _ ρ2 ρ3 eg)
        have sF3 : Same (hide O H1) (hide O2 H3) := sF.trans (hide_same s23)
        refine htb σ3 H3 ρ3 _ H0 O0 O2 r4 ?_
        cases eb : g ρ3 with
        | nx ρ4 =>
          rw [eb] at z2
          exact fun σ5 H5 O5 r5 s5 => ⟨hlt, O5, ρ4, r5, sF3.trans s5, SOut.from z2 ((hide_same s23).trans s5)⟩
        | ct ρ4 =>
          rw [eb] at z2
          exact fun σ5 H5 O5 r5 s5 => ⟨hlt, O5, ρ4, r5, sF3.trans s5, SOut.from z2 ((hide_same s23).trans s5)⟩
        | bk ρ4 =>
          rw [eb] at z2
          exact fun σ5 H5 O5 r5 s5 => z2 σ5 H5 O5 r5 ((hide_same s23).trans s5)
        | rt d => rw [eb] at z2; exact RtW.from z2 (hide_same s23)
        | err c ρ4 =>
          rw [eb] at z2
          exact fun σ5 H5 O5 r5 s5 => z2 σ5 H5 O5 r5 ((hide_same s23).trans s5)
        | bad => rw [eb] at z2; exact z2
    · have e3 : i = ds.length := by omega
      subst e3
      refine .inl ⟨j2 (Nat.le_refl _), ?_⟩
      rw [List.drop_length] at z2
      exact z2 σ2 H2 O2 r2 (Same.refl _)
def whileL (c : Vars → R Bool) (g : Vars → Out) : Nat → Vars → Out
  | 0, _ => .bad
  | n + 1, ρ => (c ρ).run ρ fun b => if b = true then (match g ρ with
      | .nx ρ2 => whileL c g n ρ2
      | .ct ρ2 => whileL c g n ρ2
      | .bk ρ2 => .nx ρ2
      | .rt d => .rt d
      | .err c ρ2 => .err c ρ2
      | .bad => .bad) else .nx ρ
theorem sx_while {c : Expr} {body : List Stmt} {tc : Vars → R Bool} {g : Vars → Out} {pos : Pos} (n : Nat) (hp : PassesOwn (model X.prog X.w) X.A X.env X.xe) (hc : TX X W c tc) (hb : SsX X W own body g) : SX X W own (.While c body [] pos) (whileL tc g n) := by
  obtain ⟨t, p, ht⟩ := hc
  obtain ⟨tb, pb, htb⟩ := hb
  refine ⟨_, ps_while hp p pb, fun σ H ρ D H0 O0 O r z => ?_⟩
  refine ⟨fun m σ2 H2 => ∃ O2 ρ2, Rel X.K own H0 O0 O2 σ2 H2 ρ2 ∧ SOut X W own H0 O0 O2 H2 D (whileL tc g m ρ2), ⟨n, O, ρ, r, z⟩, ?_⟩
  rintro m σ2 H2 ⟨O2, ρ2, r2, z2⟩
  cases m with
  | zero => exact z2.elim
  | succ m =>
    unfold whileL at z2
    refine ht σ2 H2 O0 ρ2 _ r2.stands0 r2.vrel0 (TOut.run r2 z2 fun b H3 s3 z3 r3 => ?_)
    cases b with
    | false =>
      simp only [Bool.false_eq_true, if_false] at z3 ⊢
      exact z3 σ2 H3 O2 r3 (Same.refl _)
    | true =>
      simp only [if_true] at z3 ⊢
      refine ⟨fun σ' H' => ∃ O2 ρ2, Rel X.K own H0 O0 O2 σ' H' ρ2 ∧ SOut X W own H0 O0 O2 H' D (whileL tc g m ρ2), fun σ' H' h => ⟨m, Nat.lt_succ_self m, h⟩, ?_⟩
      refine htb σ2 H3 ρ2 _ H0 O0 O2 r3 ?_
      cases eb : g ρ2 with
      | nx ρ4 => rw [eb] at z3; exact fun σ5 H5 O5 r5 s5 => ⟨O5, ρ4, r5, SOut.from z3 s5⟩
      | ct ρ4 => rw [eb] at z3; exact fun σ5 H5 O5 r5 s5 => ⟨O5, ρ4, r5, SOut.from z3 s5⟩
      | bk ρ4 => rw [eb] at z3; exact z3
      | rt d => rw [eb] at z3; exact z3
      | err c ρ4 => rw [eb] at z3; exact z3
      | bad => rw [eb] at z3; exact z3
end
section
variable (X : Cx) (E : XK)
def BOut (H0 : Hp) (O0 : List Addr) (Q : VK) : Out → Prop
  | .nx _ => ∀ H', Same H0 H' → Q .non H'
  | .rt d => ∀ v H', Same H0 H' → Rp X.K (hide O0 H') v d → Q v H'
  | .err c _ => ∀ H', Same H0 H' → E (exV X.mg c) none H'
  | _ => False
abbrev WD : WX := fun c d _ H => E c d H
def BX (own : List Nat) (sts : List Stmt) (g : Vars → Out) : Prop :=
  ∃ t, PSs X sts t ∧ ∀ σ H ρ Q (H0 : Hp) O0 O, Rel X.K own ⟨H0, []⟩ O0 O σ H ρ → BOut X E H0 O0 Q (g ρ) → t { nx := fun _ H' => Q .non H', rt := Q } σ H
end
section
variable {X : Cx} {E : XK} {own : List Nat}
theorem BX.of {sts : List Stmt} {g : Vars → Out} (h : SsX X (WD E) own sts g) : BX X E own sts g := by
  obtain ⟨t, p, ht⟩ := h
  refine ⟨t, p, fun σ H ρ Q H0 O0 O r z => ht σ H ρ _ ⟨H0, []⟩ O0 O r ?_⟩
  cases e : g ρ with
  | nx ρ' => rw [e] at z; exact fun σ' H' O' r' s' => z H' r'.same
  | rt d => rw [e] at z; exact fun v H' O' s _ rv => z v H' s rv
  | err c ρ' => rw [e] at z; exact fun σ' H' O' r' s' => z H' r'.same
  | bk _ => rw [e] at z; exact z.elim
  | ct _ => rw [e] at z; exact z.elim
  | bad => rw [e] at z; exact z.elim
theorem BX.cons {st : Stmt} {rest : List Stmt} {g h : Vars → Out} {own' : List Nat} (a : SX X (WD E) own st g) (b : BX X E own' rest h) (ho : (own'.all fun i => own.contains i) = true) : BX X E own (st :: rest) (sSeq g h) := by
  obtain ⟨t, p, ht⟩ := a
  obtain ⟨u, q, hu⟩ := b
  refine ⟨_, pss_cons p q, fun σ H ρ Q H0 O0 O r z => ht σ H ρ _ ⟨H0, []⟩ O0 O r ?_⟩
  unfold sSeq at z
  cases e : g ρ with
  | nx ρ1 =>
    rw [e] at z
    intro σ1 H1 O1 r1 s1
    obtain ⟨O2, r2, _⟩ := r1.freeze (own' := own') (fun i hi => List.contains_iff_mem.mp (List.all_eq_true.mp ho i hi)) fun p hp => nomatch hp
    exact hu σ1 H1 ρ1 Q H0 O0 O2 r2 z
  | rt d => rw [e] at z; exact fun v H' O' s _ rv => z v H' s rv
  | err c ρ' => rw [e] at z; exact fun σ' H' O' r' s' => z H' r'.same
  | bk _ => rw [e] at z; exact z.elim
  | ct _ => rw [e] at z; exact z.elim
  | bad => rw [e] at z; exact z.elim
end
def fnD (N : Nat) (g : Vars → Out) (ds : List PyData) : R PyData := match g (ds.map some ++ List.replicate (N - ds.length) none) with
  | .nx _ => .ok .none
  | .rt d => .ok d
  | .err c _ => .err c
  | _ => .bad
section
variable {P : Program} {w : World} {K : PySem.W.Frag} {mg : Str → Option Value} {base : Heap}
theorem start_rel {K : PySem.W.Frag} {own : List Nat} {N : List Str} {H : Hp} {O : List Addr} {vs : List V} {ds : List PyData} (hO : Stands O H) (r : Rps K (hide O H) vs ds) (hl : ds.length ≤ N.length) (ho : ∀ i ∈ own, ds.length ≤ i) (hmk : (own.all fun i => decide (i < 1000)) = true) :
    Rel K own ⟨H, []⟩ O O (L2.start N vs) H (ds.map some ++ List.replicate (N.length - ds.length) none) where
  same := Same.refl H
  st0 := hO
  len := by
    unfold L2.start
    rw [List.length_append, List.length_append, List.length_map, List.length_map, List.length_replicate, List.length_replicate, r.length]
  sub := fun a ha => ha
  lists := fun a ha => .inl ha
  free := fun i d _ e => by
    by_cases h : i < ds.length
    · rw [List.getElem?_append_left (by simpa using h), List.getElem?_map] at e
      cases q : ds[i]? with
      | none => rw [q] at e; cases e
      | some x =>
        rw [q] at e
        cases e
        obtain ⟨v, h1, h2⟩ := r.get q
        refine ⟨v, ?_, h2⟩
        unfold L2.start
        rw [List.getElem?_append_left (by rw [List.length_map, r.length]; exact h), List.getElem?_map, h1]
        rfl
    · rw [List.getElem?_append_right (by simpa using h), List.getElem?_replicate] at e
      split at e <;> cases e
  mine := fun i d c e => by
    have h := ho i c
    rw [List.getElem?_append_right (by simpa using h), List.getElem?_replicate] at e
    split at e <;> cases e
  apart := fun i j d e a c _ q1 _ _ _ => by
    have h := ho i c
    rw [List.getElem?_append_right (by simpa using h), List.getElem?_replicate] at q1
    split at q1 <;> cases q1
  bor := fun p hp => nomatch hp
  bord := fun p hp => nomatch hp
  mark := fun i hi => absurd (of_decide_eq_true (List.all_eq_true.mp hmk _ hi)) (by omega)
theorem fn_data {x qual : Str} {st : Stmt} {f : Addr} {fd : FuncData} {N ps : List Str} {k n : Nat} {own : List Nat} {g : Vars → Out} (F : Fun K x qual st f fd) (S : FnScope N ps (defScope st)) (hn : ps.length = n) (ho : (own.all fun i => decide (n ≤ i)) = true)
    (hb : ∀ (cdv : Value) (A : Around) (outer : List Env) (s : Shared) (H : Hp) (E : XK), Room k (A.deeper (envOfC qual (defScope st) s.heap.objs.size f cdv)) → BX (cxOf (L2.CX P w) P w K mg base N qual (defScope st) f cdv A outer s H E) E own (defBody st) g) (hmk : (own.all fun i => decide (i < 1000)) = true := by decide) :
    FnOk P w K mg base (L2.CX P w) (k + 1) f fd ps (spD K mg n (fnD N.length g)) := by
  refine F.okX S (fun vs H Q E h => ?_) fun cdv A outer s H vs Q E hr h => ?_
  · rw [h.1]; exact hn.symm
  obtain ⟨hl, O, ds, hO, r, z⟩ := h
  obtain ⟨t, p, ht⟩ := hb cdv A outer s H E hr
  have hpl : ps.length ≤ N.length := by have := congrArg List.length S.pre; rw [List.length_take] at this; omega
  have hdl : ds.length = n := by rw [← r.length]; exact hl
  refine ⟨t, p, ht _ H _ Q H O O (start_rel hO r (by omega) (fun i hi => by have := of_decide_eq_true (List.all_eq_true.mp ho i hi); omega) hmk) ?_⟩
  unfold fnD at z
  cases e : g (ds.map some ++ List.replicate (N.length - ds.length) none) with
  | nx ρ' => rw [e] at z; exact fun H' s' => z .non H' s' .non
  | rt d => rw [e] at z; exact z
  | err c ρ' => rw [e] at z; exact z
  | bk _ => rw [e] at z; exact z.elim
  | ct _ => rw [e] at z; exact z.elim
  | bad => rw [e] at z; exact z.elim
theorem cal_data {x qual : Str} {st : Stmt} {f : Addr} {fd : FuncData} {N ps : List Str} {k n : Nat} {own : List Nat} {g : Vars → Out} (F : Fun K x qual st f fd) (hm : mg x = some (.ref f)) (hbn : Binds K fd ps []) (S : FnScope N ps (defScope st)) (hn : ps.length = n) (ho : (own.all fun i => decide (n ≤ i)) = true)
    (hb : ∀ (cdv : Value) (A : Around) (outer : List Env) (s : Shared) (H : Hp) (E : XK), Room k (A.deeper (envOfC qual (defScope st) s.heap.objs.size f cdv)) → BX (cxOf (L2.CX P w) P w K mg base N qual (defScope st) f cdv A outer s H E) E own (defBody st) g) (hmk : (own.all fun i => decide (i < 1000)) = true := by decide) :
    Cal P w K mg base (k + 1) x n (fnD N.length g) := ⟨f, fd, ps, hn, fn_data F S hn ho hb hmk, hm, F.kp, hbn⟩
theorem cal_zero {x qual : Str} {st : Stmt} {f : Addr} {fd : FuncData} {ps : List Str} {n : Nat} (F : Fun K x qual st f fd) (hm : mg x = some (.ref f)) (hbn : Binds K fd ps []) (hn : ps.length = n) : Cal P w K mg base 0 x n fun _ => .bad := by
  have no : ∀ vs H Q E, ¬ spD K mg n (fun _ => .bad) vs H Q E := fun vs H Q E h => by
    obtain ⟨_, _, _, _, _, z⟩ := h
    exact z
  exact ⟨f, fd, ps, hn, ⟨fun vs H Q E h => absurd h (no vs H Q E), fun A outer s H args us vs Q E _ _ _ _ h => absurd h (no vs H Q E)⟩, hm, F.kp, hbn⟩
theorem takesD {N : List Str} {qual : Str} {scope : Scope} {f : Addr} {cdv : Value} {A : Around} {outer : List Env} {s : Shared} {H : Hp} {E : XK} : Takes (cxOf (L2.CX P w) P w K mg base N qual scope f cdv A outer s H E) (WD E) := takes_of rfl rfl rfl rfl
theorem passD {N : List Str} {qual : Str} {scope : Scope} {f : Addr} {cdv : Value} {A : Around} {outer : List Env} {s : Shared} {H : Hp} {E : XK} : PassesOwn (model (cxOf (L2.CX P w) P w K mg base N qual scope f cdv A outer s H E).prog (cxOf (L2.CX P w) P w K mg base N qual scope f cdv A outer s H E).w) (cxOf (L2.CX P w) P w K mg base N qual scope f cdv A outer s H E).A (cxOf (L2.CX P w) P w K mg base N qual scope f cdv A outer s H E).env (cxOf (L2.CX P w) P w K mg base N qual scope f cdv A outer s H E).xe := passes_of rfl
end
end Pu
set_option Elab.async false
set_option linter.all false
set_option maxRecDepth 100000
set_option maxHeartbeats 4000000
namespace Pu
open PySem PySem.Spec PyProof.Rows L2
abbrev wfuel : Nat := 1000000
def spLaw (K : PySem.W.Frag) : Sp := fun vs H Q _ => ∃ (a : Addr) (ns : List Int), vs = [.ref a] ∧ SqL K H a (ns.map V.int) ∧ ns.length ≤ 63 ∧ ∀ H', Q (.bl true) H'
theorem law_imp {K : PySem.W.Frag} {mg : Str → Option Value} {f : List PyData → R PyData} (hl : ∀ ns : List Int, ns.length ≤ 63 → f [.list (ns.map .int)] = .ok (.bool true)) : ∀ vs H Q E, spLaw K vs H Q E → spD K mg 1 f vs H Q E := fun vs H Q E h => by
  obtain ⟨a, ns, rfl, hS, h63, q⟩ := h
  refine ⟨rfl, [], [.list (ns.map .int)], fun a z => absurd z (by simp), .cons (.lst (by rw [hide_nil]; exact hS) (Rps.ofInts ns)) .nil, ?_⟩
  rw [hl ns h63]
  intro v H' s r
  cases r
  exact q H'
theorem walkL {l : PySem.W.OpenLaw} {q : Program} {loose : List Str} {XP : (Str → Option Value) → Heap → Prop} {YP : World → Heap → Prop} {d : DefRec} {K : Params → PySem.W.Frag} {k : Nat} {x : Str} (hn : l.most = some 63) (hdf : d.params.defaults = []) (hr : Room k callerA)
    (hY : ∀ (w : World) (h : Heap), YP w h → (K w.params).In h)
    (F : ∀ (w : World) (mg : Str → Option Value) (fa : Addr) (h : Heap), (K w.params).In h → h.Ns mainGlobals mg → mg d.name = some (.ref fa) →
      ∃ fd : FuncData, (∀ (s : Shared) (u : Value), BindsTo s fd ⟨[u], []⟩ [(x, u)]) ∧ ∀ base : Heap, (K w.params).In base → base.Ns mainGlobals mg → FnOk l.prog w (K w.params) mg base (L2.CX l.prog w) k fa fd [x] (spLaw (K w.params))) :
    PySem.W.WalkO q loose XP YP l.row.toRowW d [] (fun f vs => PySem.call f vs) :=
  L2.walk_of (n := 63) (k := k) (x := x) (CX := fun w => L2.CX l.prog w) (sp := fun w => spLaw (K w.params)) hn (by decide) hdf hr hY F (fun _ _ a ns hl _ hS => ⟨a, ns, rfl, hS, hl, fun _ => rfl⟩) fun _ _ _ _ _ z => by
    obtain ⟨_, _, _, _, _, _, _, _, _, _, _, _, z⟩ := z
    exact z
end Pu
set_option Elab.async false
set_option linter.all false
set_option maxRecDepth 100000
set_option maxHeartbeats 4000000
namespace Pu
open PySem PySem.Spec PyProof.Rows L2
section
variable (ρ : Vars)
@[simp] theorem u_sSeq (g h : Vars → Out) : sSeq g h ρ = (g ρ).then h := rfl
@[simp] theorem u_sNil : sNil ρ = .nx ρ := rfl
@[simp] theorem u_sRet (f : Vars → R PyData) : sRet f ρ = (f ρ).run ρ fun d => .rt d := rfl
@[simp] theorem u_sIf (c : Vars → R Bool) (g h : Vars → Out) : sIf c g h ρ = (c ρ).run ρ fun b => if b = true then g ρ else h ρ := rfl
@[simp] theorem u_sSet0 (i : Nat) (f : Vars → R PyData) : sSet [] i f ρ = (f ρ).run ρ fun d => .nx (ρ.set i (some d)) := rfl
@[simp] theorem u_sSet1 (o : Nat) (os : List Nat) (i : Nat) (f : Vars → R PyData) : sSet (o :: os) i f ρ = (f ρ).run ρ fun d => if imm d = true then .nx (ρ.set i (some d)) else .bad := rfl
@[simp] theorem u_sSetM (own : List Nat) (i : Nat) (f : Vars → R PyData) : sSetM own i f ρ = (f (mask own ρ)).run ρ fun d => .nx (ρ.set i (some d)) := rfl
@[simp] theorem mask_nil : mask [] ρ = ρ := by
  have h : ∀ (k : Nat) (ρ : Vars), maskF [] k ρ = ρ := by
    intro k ρ
    induction ρ generalizing k with
    | nil => rfl
    | cons x r ih => unfold maskF; rw [ih]; rfl
  exact h 0 ρ
@[simp] theorem u_mask_c (own : List Nat) (k : Nat) (x : Option PyData) : maskF own k (x :: ρ) = (if own.contains k = true then none else x) :: maskF own (k + 1) ρ := rfl
@[simp] theorem u_mask_n (own : List Nat) (k : Nat) : maskF own k [] = [] := rfl
@[simp] theorem u_sFor (own : List Nat) (fi : Vars → R (List PyData)) (gt : PyData → Vars → Option Vars) (g : Vars → Out) : sFor own fi gt g ρ = (fi (mask own ρ)).run ρ fun ds => forL gt g ds ρ := rfl
@[simp] theorem u_sNew (own : List Nat) (i : Nat) (f : Vars → R (List PyData)) : sNew own i f ρ = (f (mask own ρ)).run ρ fun ds => .nx (ρ.set i (some (.list ds))) := rfl
@[simp] theorem u_sApp (i : Nat) (f : Vars → R PyData) : sApp i f ρ = match ρ.getD i none with
  | some (.list ds) => (f ρ).run ρ fun d => if (decide (ds.length < sizeLine) && imm d) = true then .nx (ρ.set i (some (.list (ds ++ [d])))) else .bad
  | _ => .bad := rfl
@[simp] theorem u_sAppM (own : List Nat) (i : Nat) (f : Vars → R PyData) : sAppM own i f ρ = match ρ.getD i none with
  | some (.list ds) => (f (mask own ρ)).run ρ fun d => if ds.length < sizeLine then .nx (ρ.set i (some (.list (ds ++ [d])))) else .bad
  | _ => .bad := rfl
@[simp] theorem u_eVar (i : Nat) : eVar i ρ = R.of (ρ.getD i none) := rfl
@[simp] theorem u_eC (d : PyData) : eC d ρ = .ok d := rfl
@[simp] theorem u_aNil : aNil ρ = .ok [] := rfl
@[simp] theorem u_aCons (f : Vars → R PyData) (g : Vars → R (List PyData)) : aCons f g ρ = (f ρ).bind fun d => (g ρ).bind fun ds => .ok (d :: ds) := rfl
@[simp] theorem u_eTup (f : Vars → R (List PyData)) : eTup f ρ = (f ρ).bind fun ds => if ds.length ≤ sizeLine then .ok (.tuple ds) else .bad := rfl
@[simp] theorem u_eLst (f : Vars → R (List PyData)) : eLst f ρ = (f ρ).bind fun ds => if ds.length ≤ sizeLine then .ok (.list ds) else .bad := rfl
@[simp] theorem u_nLst (f : Vars → R (List PyData)) : nLst f ρ = (f ρ).bind fun ds => if ds.length ≤ sizeLine then .ok ds else .bad := rfl
@[simp] theorem u_eOp (g : PyData → PyData → Option PyData) (f h : Vars → R PyData) : eOp g f h ρ = (f ρ).bind fun d => (h ρ).bind fun e => R.of (g d e) := rfl
@[simp] theorem u_eCall (g : List PyData → Option PyData) (f : Vars → R (List PyData)) : eCall g f ρ = (f ρ).bind fun ds => R.of (g ds) := rfl
@[simp] theorem u_eFn (g : List PyData → R PyData) (f : Vars → R (List PyData)) : eFn g f ρ = (f ρ).bind g := rfl
@[simp] theorem u_tOf (f : Vars → R PyData) : tOf f ρ = (f ρ).bind fun d => match d with
  | .bool b => .ok b
  | _ => .bad := rfl
@[simp] theorem u_tTru (f : Vars → R PyData) : tTru f ρ = (f ρ).bind fun d => R.of (truD d) := rfl
@[simp] theorem u_tNotR (f : Vars → R Bool) : tNotR f ρ = (f ρ).bind fun b => .ok (!b) := rfl
@[simp] theorem u_tAndR (f g : Vars → R Bool) : tAndR f g ρ = (f ρ).bind fun b => if b = true then g ρ else .ok false := rfl
@[simp] theorem u_tOrR (f g : Vars → R Bool) : tOrR f g ρ = (f ρ).bind fun b => if b = true then .ok true else g ρ := rfl
@[simp] theorem u_tYesD : tYesD ρ = .ok true := rfl
@[simp] theorem u_eAnd (f g : Vars → R PyData) : eAnd f g ρ = (tOf f ρ).bind fun b => if b = true then g ρ else .ok (.bool false) := rfl
@[simp] theorem u_eNeg (f : Vars → R PyData) : eNeg f ρ = (f ρ).bind fun d => match d with
  | .int i => .ok (.int (-i))
  | _ => .bad := rfl
@[simp] theorem u_eIsi (T : String) (f : Vars → R PyData) : eIsi T f ρ = (f ρ).bind fun d => gIsi T d := rfl
@[simp] theorem u_oNone : oNone ρ = .ok none := rfl
@[simp] theorem u_oSome (f : Vars → R PyData) : oSome f ρ = (f ρ).bind fun d => match d with
  | .int i => .ok (some i)
  | _ => .bad := rfl
@[simp] theorem u_eSl (f : Vars → R PyData) (g h : Vars → R (Option Int)) : eSl f g h ρ = (f ρ).bind fun d => (g ρ).bind fun l => (h ρ).bind fun u => R.of (gSl d l u) := rfl
@[simp] theorem u_iSeq (f : Vars → R PyData) : iSeq f ρ = (f ρ).bind fun d => match d with
  | .list ds => .ok ds
  | .tuple ds => .ok ds
  | _ => .bad := rfl
@[simp] theorem u_iRange (f : Vars → R (List PyData)) : iRange f ρ = (f ρ).bind fun ds => match ds with
  | [.int j] => if okI j = true then .ok (rngD 0 j.toNat) else .bad
  | [.int i, .int j] => if (okI i && okI j) = true then .ok (rngD i (j - i).toNat) else .bad
  | _ => .bad := rfl
@[simp] theorem u_eLc (fi : Vars → R (List PyData)) (gt : PyData → Vars → Option Vars) (tt : Vars → R Bool) (f : Vars → R PyData) (vs : List Nat) : eLc fi gt tt f vs ρ = (nLc fi gt tt f vs ρ).bind fun ys => .ok (.list ys) := rfl
@[simp] theorem u_nLc (fi : Vars → R (List PyData)) (gt : PyData → Vars → Option Vars) (tt : Vars → R Bool) (f : Vars → R PyData) (vs : List Nat) : nLc fi gt tt f vs ρ = (fi ρ).bind fun ds => match lcL gt tt f (wipeD ρ vs) ds with
    | .ok ys => if ys.length < sizeLine then .ok ys else .bad
    | _ => .bad := rfl
@[simp] theorem u_wipe_n : wipeD ρ [] = ρ := rfl
@[simp] theorem u_wipe_c (v : Nat) (vs : List Nat) : wipeD ρ (v :: vs) = (wipeD ρ vs).set v none := rfl
@[simp] theorem u_gtName (i : Nat) (d : PyData) : gtName i d ρ = some (ρ.set i (some d)) := rfl
@[simp] theorem u_gtNil : gtNil [] ρ = some ρ := rfl
@[simp] theorem u_gtCons (g : PyData → Vars → Option Vars) (h : List PyData → Vars → Option Vars) (d : PyData) (ds : List PyData) : gtCons g h (d :: ds) ρ = (g d ρ).bind fun ρ' => h ds ρ' := rfl
@[simp] theorem u_gtTup (n : Nat) (h : List PyData → Vars → Option Vars) (ds : List PyData) : gtTup n h (.tuple ds) ρ = if ds.length = n then h ds ρ else none := rfl
@[simp] theorem u_forL_n (gt : PyData → Vars → Option Vars) (g : Vars → Out) : forL gt g [] ρ = .nx ρ := rfl
theorem u_forL_c (gt : PyData → Vars → Option Vars) (g : Vars → Out) (d : PyData) (ds : List PyData) : forL gt g (d :: ds) ρ = match gt d ρ with
    | none => .bad
    | some ρ1 => match g ρ1 with
      | .nx ρ2 => forL gt g ds ρ2
      | .ct ρ2 => forL gt g ds ρ2
      | .bk ρ2 => .nx ρ2
      | .rt d => .rt d
      | .err c ρ2 => .err c ρ2
      | .bad => .bad := rfl
@[simp] theorem u_lcL_n (gt : PyData → Vars → Option Vars) (tt : Vars → R Bool) (f : Vars → R PyData) : lcL gt tt f ρ [] = .ok [] := rfl
theorem u_lcL_c (gt : PyData → Vars → Option Vars) (tt : Vars → R Bool) (f : Vars → R PyData) (d : PyData) (ds : List PyData) : lcL gt tt f ρ (d :: ds) = match gt d ρ with
    | none => .bad
    | some ρ' => (tt ρ').bind fun b => if b = true then (f ρ').bind fun y => (lcL gt tt f ρ ds).bind fun ys => .ok (y :: ys) else lcL gt tt f ρ ds := rfl
end
@[simp] theorem u_gInt (C : Int → Int → Bool) (g : Int → Int → PyData) (i j : Int) : gInt C g (.int i) (.int j) = if C i j = true then some (g i j) else none := rfl
@[simp] theorem u_gCmp (p : Int → Int → Bool) (i j : Int) : gCmp p (.int i) (.int j) = some (.bool (p i j)) := rfl
@[simp] theorem u_gAdd_i (i j : Int) : gAdd (.int i) (.int j) = some (.int (i + j)) := rfl
@[simp] theorem u_gAdd_t (xs ys : List PyData) : gAdd (.tuple xs) (.tuple ys) = if xs.length + ys.length ≤ sizeLine then some (.tuple (xs ++ ys)) else none := rfl
@[simp] theorem u_gAdd_l (xs ys : List PyData) : gAdd (.list xs) (.list ys) = if xs.length + ys.length ≤ sizeLine then some (.list (xs ++ ys)) else none := rfl
@[simp] theorem u_gSub_i (i j : Int) : gSub (.int i) (.int j) = some (.int (i - j)) := rfl
@[simp] theorem u_gSub_b (a b : Bool) : gSub (.bool a) (.bool b) = some (.int ((if a = true then (1 : Int) else 0) - (if b = true then (1 : Int) else 0))) := rfl
@[simp] theorem u_gIx_t (xs : List PyData) (i : Int) : gIx (.tuple xs) (.int i) = atI xs i := rfl
@[simp] theorem u_gIx_l (xs : List PyData) (i : Int) : gIx (.list xs) (.int i) = atI xs i := rfl
@[simp] theorem u_gSl_t (xs : List PyData) (l u : Option Int) : gSl (.tuple xs) l u = some (.tuple (cutD xs l u)) := rfl
@[simp] theorem u_gSl_l (xs : List PyData) (l u : Option Int) : gSl (.list xs) l u = some (.list (cutD xs l u)) := rfl
@[simp] theorem u_gLen_t (xs : List PyData) : gLen [.tuple xs] = some (.int xs.length) := rfl
@[simp] theorem u_gLen_l (xs : List PyData) : gLen [.list xs] = some (.int xs.length) := rfl
@[simp] theorem u_gList_t (xs : List PyData) : gList [.tuple xs] = some (.list xs) := rfl
@[simp] theorem u_gList_l (xs : List PyData) : gList [.list xs] = some (.list xs) := rfl
@[simp] theorem u_truD_b (b : Bool) : truD (.bool b) = some b := rfl
@[simp] theorem atI_zero {α : Type} (x : α) (r : List α) : atI (x :: r) 0 = some x := atI_nat (j := 0) rfl
@[simp] theorem atI_one {α : Type} (x y : α) (r : List α) : atI (x :: y :: r) 1 = some y := atI_nat (j := 1) rfl
@[simp] theorem atI_two {α : Type} (x y z : α) (r : List α) : atI (x :: y :: z :: r) 2 = some z := atI_nat (j := 2) rfl
theorem sz1000 {n : Nat} (h : n ≤ 10000000) : n ≤ sizeLine := Nat.le_trans h (by decide)
theorem sz1000' {n : Nat} (h : n ≤ 10000000) : n < sizeLine := Nat.lt_of_le_of_lt h (by decide)
@[simp] theorem sz0 : (0 : Nat) ≤ sizeLine := by decide
@[simp] theorem sz1 : (1 : Nat) ≤ sizeLine := by decide
@[simp] theorem sz2 : (2 : Nat) ≤ sizeLine := by decide
@[simp] theorem sz3 : (3 : Nat) ≤ sizeLine := by decide
@[simp] theorem sz4 : (4 : Nat) ≤ sizeLine := by decide
theorem fnD_of {N : Nat} {g : Vars → Out} {ds : List PyData} {d : PyData} (h : g (ds.map some ++ List.replicate (N - ds.length) none) = .rt d) : fnD N g ds = .ok d := by unfold fnD; rw [h]
@[simp] theorem then_ite {c : Prop} [Decidable c] (x y : Out) (f : Vars → Out) : (if c then x else y).then f = if c then x.then f else y.then f := by split <;> rfl
@[simp] theorem bind_ite {α β : Type} {c : Prop} [Decidable c] (x y : R α) (f : α → R β) : (if c then x else y).bind f = if c then x.bind f else y.bind f := by split <;> rfl
@[simp] theorem run_ite {α : Type} {c : Prop} [Decidable c] (x y : R α) (ρ : Vars) (k : α → Out) : (if c then x else y).run ρ k = if c then x.run ρ k else y.run ρ k := by split <;> rfl
@[simp] theorem of_ite {α : Type} {c : Prop} [Decidable c] (x y : Option α) : R.of (if c then x else y) = if c then R.of x else R.of y := by split <;> rfl
end Pu
set_option Elab.async false
set_option linter.all false
set_option maxRecDepth 100000
set_option maxHeartbeats 4000000
namespace Pu
open PySem PySem.Spec PyProof.Rows L2
theorem max_rawD {prog : Program} {w : World} {A : Around} {E : Value → Shared → Prop} {s : Shared} {l : Addr} {its : List Value} {ns : List Int} {Q : Value → Shared → Prop} {d : Value} (hh : A.handled = none) (hl : s.heap.IsList l its.toArray) (hi : IntsAre its ns)
    (h0 : ns = [] → ∀ h' tk, (∀ b o, s.heap.get? b = some o → h'.get? b = some o) → Q d { s with heap := h', toks := tk })
    (h : ∀ h' tk M t', (∀ b o, s.heap.get? b = some o → h'.get? b = some o) → M ∈ ns → (∀ a, a ∈ ns → a ≤ M) → Q (.int M t') { s with heap := h', toks := tk }) :
    wpAny (model prog w) A (call (.builtin "max") [.ref l] [(Str.ofString "default", d)]) Q E s := by
  obtain ⟨xs, e⟩ := hi.allInts.items
  have hn : numsOf (intItems xs).toList = ns := by rw [← e]; exact hi.numsOf
  rw [nums_intItems] at hn
  subst hn
  rw [e] at hl
  have hsz : (intItems xs).size = xs.size := by unfold intItems; rw [Array.size_map]
  refine PySem.call_max_walkD (PySem.W.iter_listW (A := A.in1) hh hl fun s₂ e W st hfp hw hk => ?_)
  refine ⟨_, _, _, _, _, _, _, s.heap, (fun i j => decide (numAt xs i > numAt xs j)), rfl, W, st, hfp, hw, hk, fun hz s' m => ?_, fun hp => ⟨fun i j vi vj s Q E _ hi hj h => CmpOf.ints_gt (numAt xs) (fun _ _ => intItems_at) i j vi vj s Q E hi hj h, fun v s' hP m => ?_⟩⟩
  · obtain ⟨h', tk, rfl, hk'⟩ := PySem.W.moved_old e rfl m
    refine h0 ?_ h' tk hk'
    apply List.eq_nil_of_length_eq_zero
    rw [List.length_map, Array.length_toList]
    rw [hsz] at hz
    exact hz
  · obtain ⟨h', tk, rfl, hk'⟩ := PySem.W.moved_old e rfl m
    obtain ⟨t, rfl⟩ := intItems_at hP
    rw [hsz] at hp ⊢
    obtain ⟨h1, h2⟩ := argBest_gt (numAt xs) (xs.size - 1)
    refine h h' tk _ t hk' ?_ fun a ha => ?_
    · rw [numAt_eq]; exact PySem.getD_mem (by rw [List.length_map, Array.length_toList]; omega)
    · obtain ⟨j, hj, rfl⟩ := mem_getD ha
      rw [List.length_map, Array.length_toList] at hj
      rw [← numAt_eq]; exact h2 j (by omega)
def rMaxD (K : PySem.W.Frag) (d : Int) : List V → List V → Hp → VK → Prop := fun vs zs H Q => ∃ (a : Addr) (ns : List Int), vs = [V.ref a] ∧ zs = [V.int d] ∧ SqL K H a (ns.map V.int) ∧ (ns = [] → Q (.int d) H) ∧ ∀ m, m ∈ ns → (∀ y, y ∈ ns → y ≤ m) → Q (.int m) H
theorem cr_maxD {X : Cx} {d : Int} (hc : X.calm = true) : CallRK X (.builtin "max") ["default"] (rMaxD X.K d) := by
  intro pins s σ H vs zs us ws Q I r r2 h
  obtain ⟨a, ns, rfl, rfl, hs, q0, q⟩ := h
  obtain ⟨its, rv, hl, _⟩ := I.list hs
  rw [Vals.ref1 r]
  cases r2 with
  | cons rw_ rr =>
    cases rr
    obtain ⟨t0, rfl⟩ := rw_
    exact max_rawD (I.ok.hd hc) hl.isList rv.ints (fun hz h' tk hk => ⟨.int d, H, I.kept hk, ⟨_, rfl⟩, q0 hz⟩) fun h' tk m t' hk h1 h2 => ⟨.int _, H, I.kept hk, ⟨_, rfl⟩, q m h1 h2⟩
def gMaxD (d : Int) : List PyData → Option PyData
  | [.list ds] => match intsOf ds with
    | some (n :: ns) => some (.int (maxI n ns))
    | some [] => some (.int d)
    | none => none
  | _ => none
def eMaxD (d : Int) (f : Vars → R PyData) (ρ : Vars) : R PyData := (f ρ).bind fun z => R.of (gMaxD d [z])
section
variable {X : Cx} {W : WX}
theorem ex_maxD {a : Expr} {f : Vars → R PyData} {d : Int} {p kp j pos : Pos} {jk} (hc : X.calm = true) (hg : Gl X "max") (hm : X.mg "max" = none) (ha : EX X W a f)
    (he : backTo pos (starEach [a] X.env) = (false, eval a X.env) :: backTo pos (starEach [] X.env) := by rfl) (hpl : (backTo pos (starEach [a] X.env)).any (·.1) = false := by rfl)
    (he2 : starEach [a] X.env = (false, eval a X.env) :: starEach [] X.env := by rfl)
    (hall : (backToKw pos (keywordEach [⟨some "default", .Constant (.int d) jk j, kp⟩] X.env)).all (·.1.isSome) = true := by rfl) (hnone : (backToKw pos (keywordEach [⟨some "default", .Constant (.int d) jk j, kp⟩] X.env)).any (·.1.isNone) = false := by rfl) (hks : (backToKw pos (keywordEach [⟨some "default", .Constant (.int d) jk j, kp⟩] X.env)).filterMap (·.1) = [("default" : Str)] := by rfl) :
    EX X W (.Call (.Name "max" p) [a] [⟨some "default", .Constant (.int d) jk j, kp⟩] pos) (eMaxD d f) := by
  obtain ⟨t, q, ht⟩ := ha
  refine ⟨_, pe_callBK (cr_maxD (d := d) hc) hg hm (by decide +kernel) (pa_cons q pa_nil he2) (pk_cons pe_int pk_nil) (by decide) (by decide) he hpl hall hnone hks, fun σ H O ρ Q hO hv z => ht σ H O ρ _ hO hv (EOut.then (g := fun z => R.of (gMaxD d [z])) EOut.b EOut.e z fun d1 v H1 s1 r1 z1 => ?_)⟩
  show rMaxD X.K d [v] [V.int d] H1 Q
  unfold gMaxD at z1
  cases r1 with
  | lst hx rs =>
    rename_i aa vv ds
    simp only [] at z1
    cases e : intsOf ds with
    | none => rw [e] at z1; exact z1.elim
    | some ns =>
      rw [e] at z1
      have e2 := intsOf_eq e
      subst e2
      have e3 := rs.ints
      subst e3
      refine ⟨_, ns, rfl, rfl, seqL hide_sub hx, fun hz => ?_, fun m h1 h2 => ?_⟩
      · subst hz
        exact z1 _ H1 s1 (.int _)
      · cases ns with
        | nil => cases h1
        | cons n ns =>
          have e4 : m = maxI n ns := Int.le_antisymm (maxI_le n ns m h1) (h2 _ (maxI_mem n ns))
          rw [e4]
          exact z1 _ H1 s1 (.int _)
  | _ => exact z1.elim
end
@[simp] theorem u_eMaxD (d : Int) (f : Vars → R PyData) (ρ : Vars) : eMaxD d f ρ = (f ρ).bind fun z => R.of (gMaxD d [z]) := rfl
end Pu
set_option Elab.async false
set_option linter.all false
set_option maxRecDepth 100000
set_option maxHeartbeats 4000000
namespace Pu
open PySem PySem.Spec PyProof.Rows L2
theorem Rel.none {K : PySem.W.Frag} {own : List Nat} {H0 : HB} {O0 O : List Addr} {σ : L2.St} {H : Hp} {ρ : Vars} (r : Rel K own H0 O0 O σ H ρ) {i : Nat} {x : Option V} (c : i ∉ own) : Rel K own H0 O0 O (σ.set i x) H (ρ.set i none) where
  same := r.same
  st0 := r.st0
  len := by simpa using r.len
  sub := r.sub
  lists := r.lists
  free := fun j e cj q => by
    by_cases z : i = j
    · subst z
      by_cases hi : i < ρ.length
      · rw [List.getElem?_set_self hi] at q; cases q
      · rw [List.getElem?_eq_none (by simpa using hi)] at q; cases q
    · rw [List.getElem?_set_ne z] at q
      rw [List.getElem?_set_ne z]
      exact r.free j e cj q
  mine := fun j e cj q => by
    have z : i ≠ j := fun z => c (z ▸ cj)
    rw [List.getElem?_set_ne z] at q
    rw [List.getElem?_set_ne z]
    exact r.mine j e cj q
  apart := fun j k d e a cj ck q1 q2 e1 e2 => by
    have z : i ≠ j := fun z => c (z ▸ cj)
    have z2 : i ≠ k := fun z => c (z ▸ ck)
    rw [List.getElem?_set_ne z] at q1 e1
    rw [List.getElem?_set_ne z2] at q2 e2
    exact r.apart j k d e a cj ck q1 q2 e1 e2
  bor := fun p hp => by
    obtain ⟨h1, h2, h3, h4⟩ := r.bor p hp
    exact ⟨h1, h2, by rw [List.getElem?_set_ne (show i ≠ p.1 from fun z => c (by rw [z]; exact h1))]; exact h3, h4⟩
  bord := fun p hp j d' cj q e => by
    have z : i ≠ j := fun z => c (z ▸ cj)
    rw [List.getElem?_set_ne z] at q e
    exact r.bord p hp j d' cj q e
  mark := r.mark
section
variable {X : Cx} {W : WX} {own : List Nat}
end
section
variable {X : Cx} {W : WX} {own : List Nat}
end
end Pu
set_option Elab.async false
set_option linter.all false
set_option maxRecDepth 100000
set_option maxHeartbeats 4000000
namespace Pu
open PySem PySem.Spec PyProof.Rows L2
section
variable {P : Program} {w : World} {K : PySem.W.Frag} {mg : Str → Option Value} {base : Heap}
end
section
variable {X : Cx} {W : WX}
end
end Pu
set_option Elab.async false
set_option linter.all false
set_option maxRecDepth 100000
set_option maxHeartbeats 4000000
namespace Pu
open PySem PySem.Spec PyProof.Rows L2
section
variable {X : Cx} {W : WX} {tg : Expr}
end
section
variable {X : Cx} {W : WX} {own : List Nat} {i : Nat} {x : Str} {e : Expr} {f : Vars → R PyData} {p apos cpos pos : Pos}
end
end Pu
set_option Elab.async false
set_option linter.all false
set_option maxRecDepth 100000
set_option maxHeartbeats 4000000
namespace Pu
open PySem PySem.Spec PyProof.Rows L2
section
variable {X : Cx} {W : WX} {own : List Nat}
end
def tabL : List (Str × Bool) → Str → Option Bool
  | [], _ => none
  | (c, b) :: r, d => if d = c then some b else tabL r d
@[simp] theorem tabL_self (c : Str) (b : Bool) (r : List (Str × Bool)) : tabL ((c, b) :: r) c = some b := if_pos rfl
section
variable {X : Cx} {W : WX} {own : List Nat}
end
end Pu
set_option Elab.async false
set_option linter.all false
set_option maxRecDepth 100000
set_option maxHeartbeats 4000000
namespace Pu
open PySem PySem.Spec PyProof.Rows L2
section
variable {X : Cx} {W : WX}
end
section
variable {X : Cx} {W : WX} {own : List Nat}
end
def KitL (K : PySem.W.Frag) (mg : Str → Option Value) (cY : Value) (l : List (Str × Bool)) : Prop := ∀ c b, tabL l c = some b → ∃ C, mg c = some (.ref C) ∧ ExcC K C ∧ PySem.W.kitOne K (.ref C) cY = some b
section
variable {X : Cx} {ie : Nat} {c : Str}
end
section
variable {X : Cx} {W : WX} {own : List Nat}
end
def KitY (K : PySem.W.Frag) (mg : Str → Option Value) (y : Str) (l : List (Str × Bool)) : Prop := ∃ CY, mg y = some (.ref CY) ∧ KitL K mg (.ref CY) l
section
variable {X : Cx} {ie : Nat} {c : Str}
end
def CMulX (i j : Int) : Prop := i.natAbs.log2 + j.natAbs.log2 < 134000000
theorem CMulX.ok {i j : Int} (h : CMulX i j) : IntMulOk i j := by
  have b : ∀ x : Int, Builtin.Int.intBits x ≤ x.natAbs.log2 + 1 := fun x => by
    unfold Builtin.Int.intBits
    split <;> omega
  have h1 := b i
  have h2 := b j
  have h3 : i.natAbs.log2 + j.natAbs.log2 < 134000000 := h
  intro z
  have z2 := (Bool.and_eq_true _ _ ▸ z).2
  unfold Builtin.Int.intTooBig at z2
  have z3 := of_decide_eq_true z2
  rw [show bitsLine = 134217728 by decide] at z3
  omega
section
variable {P : Program} {w : World} {K : PySem.W.Frag} {mg : Str → Option Value} {base : Heap}
section
variable {x : Str} {st : Stmt} {f : Addr} {fd : FuncData} {N ps : List Str} {k n : Nat} {i j : Int} {own : List Nat} {g : Vars → Out}
end
end
section
variable {X : Cx} {W : WX}
end
end Pu
set_option Elab.async false
set_option linter.all false
set_option maxRecDepth 100000
set_option maxHeartbeats 4000000
namespace Pu
open PySem PySem.Spec PyProof.Rows L2
section
variable {X : Cx} {W : WX}
end
end Pu
set_option Elab.async false
set_option linter.all false
set_option maxRecDepth 100000
set_option maxHeartbeats 4000000
namespace Pu
open PySem PySem.Spec PyProof.Rows L2
section
variable {X : Cx} {W : WX} {own : List Nat}
end
structure Inner (K : PySem.W.Frag) (H0 : Hp) (O : List Addr) (H : Hp) (as : List Addr) (dss : List (List PyData)) : Prop where
  len : as.length = dss.length
  nd : as.Nodup
  mem : ∀ (j : Nat) (a : Addr) (ds : List PyData), as[j]? = some a → dss[j]? = some ds → a ∈ O ∧ H0 a = none ∧ ∃ vs, H a = some (.lst vs) ∧ Rps K (hide O H) vs ds
structure RelD (K : PySem.W.Frag) (own : List Nat) (iu : Nat) (H0 : Hp) (O0 O : List Addr) (σ : L2.St) (H : Hp) (ρ : Vars) : Prop where
  base : Rel K own ⟨H0, []⟩ O0 O σ H (ρ.set iu none)
  nown : iu ∉ own
  deep : ∃ U as dss, ρ[iu]? = some (some (.list (dss.map .list))) ∧ σ[iu]? = some (some (.ref U)) ∧ U ∈ O ∧ H0 U = none ∧ H U = some (.lst (as.map V.ref)) ∧ U ∉ as ∧ Inner K H0 O H as dss ∧
    ∀ (i : Nat) (d : PyData) (b : Addr), i ∈ own → ρ[i]? = some (some d) → σ[i]? = some (some (.ref b)) → b ≠ U ∧ b ∉ as
theorem Inner.mono {K : PySem.W.Frag} {H0 : Hp} {O O' : List Addr} {H H' : Hp} {as : List Addr} {dss : List (List PyData)} (h : Inner K H0 O H as dss) (sO : ∀ a ∈ O, a ∈ O') (s : ∀ a ∈ as, H' a = H a) (sF : Same (hide O H) (hide O' H')) : Inner K H0 O' H' as dss := ⟨h.len, h.nd, fun j a ds e1 e2 => by
  obtain ⟨h1, h2, vs, h3, h4⟩ := h.mem j a ds e1 e2
  exact ⟨sO a h1, h2, vs, by rw [s a (List.mem_of_getElem? e1)]; exact h3, h4.mono sF⟩⟩
theorem set_getElem? {ρ : Vars} {iu : Nat} {i : Nat} (h : i ≠ iu) : (ρ.set iu none)[i]? = ρ[i]? := by rw [List.getElem?_set_ne (fun z => h z.symm)]
section
variable {K : PySem.W.Frag} {own : List Nat} {iu : Nat} {H0 : Hp} {O0 O : List Addr} {σ : L2.St} {H H' : Hp} {ρ : Vars}
theorem RelD.stands (r : RelD K own iu H0 O0 O σ H ρ) : Stands O H := r.base.stands
theorem RelD.stands0 (r : RelD K own iu H0 O0 O σ H ρ) : Stands O0 H := r.base.stands0
theorem RelD.same (r : RelD K own iu H0 O0 O σ H ρ) : Same H0 H := r.base.same
theorem inner_rps {h : Same (hide O H) (hide O0 H)} : ∀ {as : List Addr} {dss : List (List PyData)}, (∀ (j : Nat) (a : Addr) (ds : List PyData), as[j]? = some a → dss[j]? = some ds → a ∉ O0 ∧ ∃ vs, H a = some (.lst vs) ∧ Rps K (hide O H) vs ds) → as.length = dss.length → Rps K (hide O0 H) (as.map V.ref) (dss.map PyData.list)
  | [], [], _, _ => .nil
  | [], _ :: _, _, l => by cases l
  | _ :: _, [], _, l => by cases l
  | a :: as, ds :: dss, m, l => by
    obtain ⟨n, vs, h1, h2⟩ := m 0 a ds rfl rfl
    exact .cons (.lst (.inl (.inl (hide_of n h1))) (h2.mono h)) (inner_rps (h := h) (fun j b es e1 e2 => m (j + 1) b es e1 e2) (by simpa using l))
theorem RelD.vrel0 (r : RelD K own iu H0 O0 O σ H ρ) : VRel K (hide O0 H) σ ρ := ⟨by simpa using r.base.len, fun i d e => by
  by_cases c : i = iu
  · subst c
    obtain ⟨U, as, dss, h1, h2, h3, h4, h5, h6, h7, h8⟩ := r.deep
    rw [h1] at e
    cases e
    refine ⟨_, h2, .lst (.inl (.inl (hide_of (r.base.notO0 h4) h5))) (inner_rps (h := hide_less r.base.sub) (fun j a ds e1 e2 => ?_) h7.len)⟩
    obtain ⟨g1, g2, vs, g3, g4⟩ := h7.mem j a ds e1 e2
    exact ⟨r.base.notO0 g2, vs, g3, g4⟩
  · exact r.base.vrel0.get i d (by rw [set_getElem? c]; exact e)⟩
theorem mask_setN {own : List Nat} {iu : Nat} {ρ : Vars} : mask (iu :: own) ρ = mask own (ρ.set iu none) := by
  apply List.ext_getElem?
  intro i
  unfold mask
  rw [maskF_get, maskF_get, Nat.zero_add]
  by_cases c : i = iu
  · subst c
    rw [if_pos (by simp)]
    by_cases hl : i < ρ.length
    · rw [List.getElem?_eq_getElem hl, List.getElem?_set_self hl]
      split <;> rfl
    · rw [List.getElem?_eq_none (by omega), List.getElem?_eq_none (by simpa using hl)]
      split <;> rfl
  · rw [set_getElem? c]
    by_cases c2 : i ∈ own
    · rw [if_pos c2, if_pos (by simp [c2])]
    · rw [if_neg c2, if_neg (by simp [c, c2])]
theorem RelD.vrelM (r : RelD K own iu H0 O0 O σ H ρ) : VRel K (hide O H) σ (mask (iu :: own) ρ) := by
  rw [mask_setN]; exact r.base.vrelM
theorem RelD.imm (r : RelD K own iu H0 O0 O σ H ρ) {v : V} {d : PyData} (h : Rp K (hide O0 H) v d) (e : imm d = true) : Rp K (hide O H) v d := r.base.imm h e
theorem RelD.step (r : RelD K own iu H0 O0 O σ H ρ) (s : Same H H') : RelD K own iu H0 O0 O σ H' ρ := ⟨r.base.step s, r.nown, by
  obtain ⟨U, as, dss, h1, h2, h3, h4, h5, h6, h7, h8⟩ := r.deep
  refine ⟨U, as, dss, h1, h2, h3, h4, s _ _ h5, h6, ⟨h7.len, h7.nd, fun j a ds e1 e2 => ?_⟩, h8⟩
  obtain ⟨g1, g2, vs, g3, g4⟩ := h7.mem j a ds e1 e2
  exact ⟨g1, g2, vs, s _ _ g3, g4.mono (hide_same s)⟩⟩
theorem RelD.set (r : RelD K own iu H0 O0 O σ H ρ) {i : Nat} {v : V} {d : PyData} (c : i ∉ own) (c2 : i ≠ iu) (h : Rp K (hide O H) v d) : RelD K own iu H0 O0 O (σ.set i (some v)) H (ρ.set i (some d)) := ⟨by
    rw [List.set_comm _ _ c2]; exact r.base.set c h, r.nown, by
  obtain ⟨U, as, dss, h1, h2, h3, h4, h5, h6, h7, h8⟩ := r.deep
  refine ⟨U, as, dss, by rw [List.getElem?_set_ne c2]; exact h1, by rw [List.getElem?_set_ne c2]; exact h2, h3, h4, h5, h6, h7, fun j e b hj e1 e2 => ?_⟩
  have n : i ≠ j := fun z => c (z ▸ hj)
  rw [List.getElem?_set_ne n] at e1 e2
  exact h8 j e b hj e1 e2⟩
theorem RelD.other (r : RelD K own iu H0 O0 O σ H ρ) {σ' : L2.St} {ρ' : Vars} {js : List Nat} (hj : ∀ j ∈ js, j ∉ iu :: own) (hl : σ'.length = σ.length) (v : VRel K (hide O H) σ' (mask (iu :: own) ρ')) (f : ∀ j : Nat, j ∉ js → σ'[j]? = σ[j]? ∧ (mask (iu :: own) ρ')[j]? = (mask (iu :: own) ρ)[j]?) (f2 : ∀ j : Nat, j ∉ js → ρ'[j]? = ρ[j]?) : RelD K own iu H0 O0 O σ' H ρ' := ⟨by
    refine r.base.other (js := js) (fun j h z => hj j h (List.mem_cons_of_mem _ z)) hl (by rw [← mask_setN]; exact v) (fun j h => by rw [← mask_setN, ← mask_setN]; exact f j h) fun j ho => ?_
    have n : j ≠ iu := fun z => r.nown (z ▸ ho)
    rw [set_getElem? n, set_getElem? n]
    exact f2 j fun z => hj j z (List.mem_cons_of_mem _ ho), r.nown, by
  obtain ⟨U, as, dss, h1, h2, h3, h4, h5, h6, h7, h8⟩ := r.deep
  have nu : iu ∉ js := fun z => hj iu z (by simp)
  refine ⟨U, as, dss, by rw [f2 iu nu]; exact h1, by rw [(f iu nu).1]; exact h2, h3, h4, h5, h6, h7, fun j e b ho e1 e2 => ?_⟩
  have n : j ∉ js := fun z => hj j z (List.mem_cons_of_mem _ ho)
  rw [f2 j n] at e1
  rw [(f j n).1] at e2
  exact h8 j e b ho e1 e2⟩
theorem RelD.freeze (r : RelD K own iu H0 O0 O σ H ρ) : ∃ O', Rel K own ⟨H0, []⟩ O0 O' σ H ρ ∧ Same (hide O H) (hide O' H) := by
  classical
  obtain ⟨U, as, dss, h1, h2, h3, h4, h5, h6, h7, h8⟩ := r.deep
  have hm : ∀ a, a ∈ O.filter (fun a => decide (a ≠ U ∧ a ∉ as)) ↔ a ∈ O ∧ a ≠ U ∧ a ∉ as := fun a => by simp [List.mem_filter]
  have sF : Same (hide O H) (hide (O.filter fun a => decide (a ≠ U ∧ a ∉ as)) H) := hide_less fun a ha => ((hm a).mp ha).1
  have b := r.base
  refine ⟨O.filter fun a => decide (a ≠ U ∧ a ∉ as), ⟨b.same, b.st0, by simpa using b.len, fun a ha => (hm a).mpr ⟨b.sub a ha, fun z => b.st0.nn ha (z ▸ h4), fun z => ?_⟩, fun a ha => b.lists a ((hm a).mp ha).1, fun i d c e => ?_, fun i d c e => ?_, fun i j d e a ci cj q1 q2 => ?_, (fun p hp => nomatch hp), (fun p hp => nomatch hp), b.mark⟩, sF⟩
  · obtain ⟨j, hj⟩ := List.getElem?_of_mem z
    have hl : j < dss.length := by rw [← h7.len]; exact (List.getElem?_eq_some_iff.mp hj).1
    exact b.st0.nn ha (h7.mem j a _ hj (List.getElem?_eq_getElem hl)).2.1
  · by_cases ci : i = iu
    · subst ci
      rw [h1] at e
      cases e
      refine ⟨_, h2, .lst (.inl (.inl (hide_of (fun z => ((hm U).mp z).2.1 rfl) h5))) (inner_rps (h := sF) (fun j a ds e1 e2 => ?_) h7.len)⟩
      obtain ⟨g1, g2, vs, g3, g4⟩ := h7.mem j a ds e1 e2
      exact ⟨fun z => ((hm a).mp z).2.2 (List.mem_of_getElem? e1), vs, g3, g4⟩
    · obtain ⟨v, g1, g2⟩ := b.free i d c (by rw [set_getElem? ci]; exact e)
      exact ⟨v, g1, g2.mono sF⟩
  · have ci : i ≠ iu := fun z => r.nown (z ▸ c)
    obtain ⟨a, g1, g2, g3, g4⟩ := b.mine i d c (by rw [set_getElem? ci]; exact e)
    have g8 := h8 i d a c e g1
    exact ⟨a, g1, (hm a).mpr ⟨g2, g8⟩, g3, g4.mono sF fun o ho => ho⟩
  · have ni : i ≠ iu := fun z => r.nown (z ▸ ci)
    have nj : j ≠ iu := fun z => r.nown (z ▸ cj)
    exact b.apart i j d e a ci cj (by rw [set_getElem? ni]; exact q1) (by rw [set_getElem? nj]; exact q2)
end
section
variable (X : Cx) (W : WX) (own : List Nat) (iu : Nat)
def DOut (H0 : Hp) (O0 O : List Addr) (H : Hp) (D : Ends) : Out → Prop
  | .nx ρ => ∀ σ' H' O', RelD X.K own iu H0 O0 O' σ' H' ρ → Same (hide O H) (hide O' H') → D.nx σ' H'
  | .err c ρ => ∀ σ' H' O', RelD X.K own iu H0 O0 O' σ' H' ρ → Same (hide O H) (hide O' H') → W (exV X.mg c) none σ' H'
  | .rt d => ∀ v H', Same H0 H' → Rp X.K (hide O0 H') v d → D.rt v H'
  | .bk ρ => ∀ σ' H' O', RelD X.K own iu H0 O0 O' σ' H' ρ → Same (hide O H) (hide O' H') → D.bk σ' H'
  | .ct ρ => ∀ σ' H' O', RelD X.K own iu H0 O0 O' σ' H' ρ → Same (hide O H) (hide O' H') → D.ct σ' H'
  | .bad => False
def DX (st : Stmt) (g : Vars → Out) : Prop :=
  ∃ t, PS X st t ∧ ∀ σ H ρ D H0 O0 O, RelD X.K own iu H0 O0 O σ H ρ → DOut X W own iu H0 O0 O H D (g ρ) → t D σ H
end
section
variable {X : Cx} {W : WX} {own : List Nat} {iu : Nat}
theorem DOut.from {H0 : Hp} {O0 O O' : List Addr} {H H' : Hp} {D : Ends} {o : Out} (h : DOut X W own iu H0 O0 O H D o) (s : Same (hide O H) (hide O' H')) : DOut X W own iu H0 O0 O' H' D o := by
  cases o with
  | nx ρ => exact fun σ' H'' O'' r s' => h σ' H'' O'' r (s.trans s')
  | err c ρ => exact fun σ' H'' O'' r s' => h σ' H'' O'' r (s.trans s')
  | bk ρ => exact fun σ' H'' O'' r s' => h σ' H'' O'' r (s.trans s')
  | ct ρ => exact fun σ' H'' O'' r s' => h σ' H'' O'' r (s.trans s')
  | _ => exact h
def sSetD (i : Nat) (f : Vars → R PyData) (ρ : Vars) : Out := (f ρ).run ρ fun d => if imm d = true then .nx (ρ.set i (some d)) else .bad
theorem RelD.write {H0 : Hp} {O0 O : List Addr} {σ : L2.St} {H : Hp} {ρ : Vars} {i : Nat} (hi : i ∈ own) {a : Addr} {vs vs' : List V} {d : PyData} {es : List PyData} (r : RelD X.K own iu H0 O0 O σ H ρ) (q : ρ[i]? = some (some d)) (e : σ[i]? = some (some (.ref a))) (ha : a ∈ O) (h0 : H0 a = none) (h : H a = some (.lst vs)) (rs : Rps X.K (hide O H) vs' es) :
    RelD X.K own iu H0 O0 O σ (upd H a (.lst vs')) (ρ.set i (some (.list es))) ∧ Same (hide O H) (hide O (upd H a (.lst vs'))) := by
  have ni : i ≠ iu := fun e => r.nown (e ▸ hi)
  obtain ⟨b, sF⟩ := r.base.write hi (by rw [set_getElem? ni]; exact q) e ha h0 h rs
  refine ⟨⟨by rw [List.set_comm _ _ ni]; exact b, r.nown, ?_⟩, sF⟩
  obtain ⟨U, as, dss, k1, k2, k3, k4, k5, k6, k7, k8⟩ := r.deep
  obtain ⟨n1, n2⟩ := k8 i d a hi q e
  refine ⟨U, as, dss, by rw [List.getElem?_set_ne ni]; exact k1, k2, k3, k4, by rw [upd_ne (Ne.symm n1)]; exact k5, k6, k7.mono (fun _ h => h) (fun b hb => upd_ne fun z => n2 (z ▸ hb)) sF, fun j d' b hj e1 e2 => ?_⟩
  by_cases c : i = j
  · subst c; exact k8 i d b hi q e2
  · rw [List.getElem?_set_ne c] at e1; exact k8 j d' b hj e1 e2
section
variable {i : Nat} {x : Str} {e : Expr} {f : Vars → R PyData} {p apos cpos pos : Pos}
end
section
variable {x : Str} {p apos cpos lpos pos : Pos}
end
section
variable {x : Str} {k e1 e2 : Expr} {fk : Vars → R PyData} {fa : Vars → R (List PyData)} {p p2 apos cpos pos : Pos}
end
def sForD (iu : Nat) (own : List Nat) (fi : Vars → R (List PyData)) (gt : PyData → Vars → Option Vars) (g : Vars → Out) (ρ : Vars) : Out := (fi (mask (iu :: own) ρ)).run ρ fun ds => forL gt g ds ρ
end
section
variable (X : Cx) (E : XK)
def BDX (own : List Nat) (iu : Nat) (sts : List Stmt) (g : Vars → Out) : Prop :=
  ∃ t, PSs X sts t ∧ ∀ σ H ρ Q H0 O0 O, RelD X.K own iu H0 O0 O σ H ρ → BOut X E H0 O0 Q (g ρ) → t { nx := fun _ H' => Q .non H', rt := Q } σ H
end
section
variable {X : Cx} {E : XK} {own : List Nat} {iu : Nat}
theorem BDX.cons {st : Stmt} {rest : List Stmt} {g h : Vars → Out} (a : DX X (WD E) own iu st g) (b : BDX X E own iu rest h) : BDX X E own iu (st :: rest) (sSeq g h) := by
  obtain ⟨t, p, ht⟩ := a
  obtain ⟨u, q, hu⟩ := b
  refine ⟨_, pss_cons p q, fun σ H ρ Q H0 O0 O r z => ht σ H ρ _ H0 O0 O r ?_⟩
  unfold sSeq at z
  cases e : g ρ with
  | nx ρ1 => rw [e] at z; exact fun σ1 H1 O1 r1 s1 => hu σ1 H1 ρ1 Q H0 O0 O1 r1 z
  | err c ρ' => rw [e] at z; exact fun σ' H' O' r' s' => z H' r'.same
  | rt d => rw [e] at z; exact z
  | bk _ => rw [e] at z; exact z.elim
  | ct _ => rw [e] at z; exact z.elim
  | bad => rw [e] at z; exact z.elim
theorem BDX.freeze {sts : List Stmt} {g : Vars → Out} {own' : List Nat} (b : BX X E own' sts g) (ho : (own'.all fun i => own.contains i) = true) : BDX X E own iu sts g := by
  obtain ⟨t, p, ht⟩ := b
  refine ⟨t, p, fun σ H ρ Q H0 O0 O r z => ?_⟩
  obtain ⟨O1, r1, _⟩ := r.freeze
  obtain ⟨O2, r2, _⟩ := r1.freeze (own' := own') (fun i hi => List.contains_iff_mem.mp (List.all_eq_true.mp ho i hi)) fun p hp => nomatch hp
  exact ht σ H ρ Q H0 O0 O2 r2 z
end
end Pu
set_option Elab.async false
set_option linter.all false
set_option maxRecDepth 100000
set_option maxHeartbeats 4000000
namespace Pu
open PySem PySem.Spec PyProof.Rows L2
section
variable (ρ : Vars)
@[simp] theorem u_sSetD (i : Nat) (f : Vars → R PyData) : sSetD i f ρ = (f ρ).run ρ fun d => if imm d = true then .nx (ρ.set i (some d)) else .bad := rfl
@[simp] theorem u_sForD (iu : Nat) (own : List Nat) (fi : Vars → R (List PyData)) (gt : PyData → Vars → Option Vars) (g : Vars → Out) : sForD iu own fi gt g ρ = (fi (mask (iu :: own) ρ)).run ρ fun ds => forL gt g ds ρ := rfl
end
section
variable {X : Cx} {W : WX} {tg : Expr}
end
end Pu
set_option Elab.async false
set_option linter.all false
set_option maxRecDepth 100000
set_option maxHeartbeats 4000000
namespace Pu
open PySem PySem.Spec PyProof.Rows L2
open PySem.AutoSeq1 (wpAny_loadPart')
end Pu
set_option Elab.async false
set_option linter.all false
set_option maxRecDepth 100000
set_option maxHeartbeats 4000000
namespace Pu
open PySem PySem.Spec PyProof.Rows L2 RT
section
variable {prog : Program} {w : World} {A : Around} {E : Value → Shared → Prop} {s : Shared}
end
end Pu
set_option Elab.async false
set_option linter.all false
set_option maxRecDepth 100000
set_option maxHeartbeats 4000000
namespace Pu
open PySem PySem.Spec PyProof.Rows L2
def newL : R PyData → R PyData
  | .ok (.list ds) => .ok (.list ds)
  | .ok _ => .bad
  | .err c => .err c
  | .bad => .bad
@[simp] theorem u_newL (ds : List PyData) : newL (.ok (.list ds)) = .ok (.list ds) := rfl
@[simp] theorem u_newL_e (c : Str) : newL (.err c) = .err c := rfl
def NpOut (K : PySem.W.Frag) (mg : Str → Option Value) (O : List Addr) (H : Hp) (Q : VK) (E : XK) : R PyData → Prop
  | .ok (.list ds) => ∀ p vs H', Same H H' → H p = Option.none → H' p = some (.lst vs) → Rps K (hide (p :: O) H') vs ds → Q (.ref p) H'
  | .ok _ => False
  | .err c => ∀ H', Same H H' → E (exV mg c) Option.none H'
  | .bad => False
def spN (K : PySem.W.Frag) (mg : Str → Option Value) (n : Nat) (f : List PyData → R PyData) : Sp := fun vs H Q E =>
  vs.length = n ∧ ∃ O ds, Stands O H ∧ Rps K (hide O H) vs ds ∧ NpOut K mg O H Q E (newL (f ds))
def CalN (P : Program) (w : World) (K : PySem.W.Frag) (mg : Str → Option Value) (base : Heap) (k : Nat) (x : Str) (n : Nat) (f : List PyData → R PyData) : Prop :=
  ∃ (fa : Addr) (fd : FuncData) (ps : List Str), ps.length = n ∧ FnOk P w K mg base (L2.CX P w) k fa fd ps (spN K mg n f) ∧ mg x = some (.ref fa) ∧ PySem.W.keepIn K (.ref fa) = true ∧ Binds K fd ps []
theorem spN_of {K : PySem.W.Frag} {mg : Str → Option Value} {n : Nat} {f : List PyData → R PyData} : ∀ vs H Q E, spD K mg n (fun ds => newL (f ds)) vs H Q E → spN K mg n f vs H Q E := fun vs H Q E ⟨hl, O, ds, hO, r, z⟩ => by
  refine ⟨hl, O, ds, hO, r, ?_⟩
  replace z : SpOut K mg O H Q E (newL (f ds)) := z
  cases e : newL (f ds) with
  | bad => rw [e] at z; exact z.elim
  | err c => rw [e] at z; exact z
  | ok d =>
    rw [e] at z
    cases d with
    | list xs =>
      intro p ys H' s hp hp' rs
      have np : p ∉ O := hO.new hp
      exact z (.ref p) H' s (.lst (.inl (.inl (hide_of np hp'))) (rs.mono (hide_less fun a ha => List.mem_cons_of_mem _ ha)))
    | _ => exfalso; revert e; cases f ds with
      | bad => intro e; cases e
      | err c => intro e; cases e
      | ok d => cases d <;> intro e <;> cases e
section
variable (X : Cx) (E : XK)
def NBOut (H0 : Hp) (O0 : List Addr) (Q : VK) : Out → Prop
  | .rt (.list ds) => ∀ p vs H', Same H0 H' → H0 p = Option.none → H' p = some (.lst vs) → Rps X.K (hide (p :: O0) H') vs ds → Q (.ref p) H'
  | .err c _ => ∀ H', Same H0 H' → E (exV X.mg c) Option.none H'
  | _ => False
def NBX (own : List Nat) (sts : List Stmt) (g : Vars → Out) : Prop :=
  ∃ t, PSs X sts t ∧ ∀ σ H ρ Q (H0 : Hp) O0 O, Rel X.K own ⟨H0, []⟩ O0 O σ H ρ → NBOut X E H0 O0 Q (g ρ) → t { nx := fun _ H' => Q .non H', rt := Q } σ H
end
def sSeqN (g h : Vars → Out) (ρ : Vars) : Out := match g ρ with
  | .nx ρ' => h ρ'
  | .err c ρ' => .err c ρ'
  | _ => .bad
@[simp] theorem u_sSeqN (g h : Vars → Out) (ρ : Vars) : sSeqN g h ρ = match g ρ with
  | .nx ρ' => h ρ'
  | .err c ρ' => .err c ρ'
  | _ => .bad := rfl
section
variable {X : Cx} {E : XK} {own : List Nat}
theorem NBX.cons {st : Stmt} {rest : List Stmt} {g h : Vars → Out} {own' : List Nat} (a : SX X (WD E) own st g) (b : NBX X E own' rest h) (ho : (own'.all fun i => own.contains i) = true) : NBX X E own (st :: rest) (sSeqN g h) := by
  obtain ⟨t, p, ht⟩ := a
  obtain ⟨u, q, hu⟩ := b
  refine ⟨_, pss_cons p q, fun σ H ρ Q H0 O0 O r z => ht σ H ρ _ ⟨H0, []⟩ O0 O r ?_⟩
  unfold sSeqN at z
  cases e : g ρ with
  | nx ρ1 =>
    rw [e] at z
    intro σ1 H1 O1 r1 s1
    obtain ⟨O2, r2, _⟩ := r1.freeze (own' := own') (fun i hi => List.contains_iff_mem.mp (List.all_eq_true.mp ho i hi)) fun p hp => nomatch hp
    exact hu σ1 H1 ρ1 Q H0 O0 O2 r2 z
  | rt d => rw [e] at z; exact z.elim
  | err c ρ' => rw [e] at z; exact fun σ' H' O' r' s' => z H' r'.same
  | bk _ => rw [e] at z; exact z.elim
  | ct _ => rw [e] at z; exact z.elim
  | bad => rw [e] at z; exact z.elim
theorem NBX.ret {i : Nat} {x : Str} {p0 pos : Pos} (hi : X.N[i]? = some x) (ho : own.contains i = true)
    (hv : Vis X.env.scope x := by first | exact Or.inl rfl | exact Or.inr (Or.inl rfl) | exact Or.inr (Or.inr rfl)) (hdn : (x == ("__debug__" : Str)) = false := by decide) (hcd : (x == ("__classdict__" : Str)) = false := by decide) :
    NBX X E own [.Return (some (.Name x p0)) pos] (sRet (eVar i)) := by
  refine ⟨_, pss_one (ps_ret (pe_var hi hv hdn hcd)), fun σ H ρ Q H0 O0 O r z => ?_⟩
  have hi' : i ∈ own := List.contains_iff_mem.mp ho
  unfold sRet eVar at z
  have e2 : ρ.getD i Option.none = (ρ[i]?).getD Option.none := by rw [List.getD_eq_getElem?_getD]
  rw [e2] at z
  cases e : ρ[i]? with
  | none => rw [e] at z; exact z.elim
  | some o =>
    cases o with
    | none => rw [e] at z; exact z.elim
    | some d =>
      rw [e] at z
      cases d <;> try exact z.elim
      rename_i ds
      obtain ⟨a, vs, h1, h2, h3, h4, h5⟩ := r.mineL hi' e
      refine ⟨.ref a, h1, ?_⟩
      exact z a vs H r.same h3 h4 (h5.mono (hide_less fun b hb => (List.mem_cons.mp hb).elim (fun e => e ▸ h2) (r.sub b)))
end
section
variable {P : Program} {w : World} {K : PySem.W.Frag} {mg : Str → Option Value} {base : Heap}
theorem fn_dataN {x qual : Str} {st : Stmt} {f : Addr} {fd : FuncData} {N ps : List Str} {k n : Nat} {own : List Nat} {g : Vars → Out} (F : Fun K x qual st f fd) (S : FnScope N ps (defScope st)) (hn : ps.length = n) (ho : (own.all fun i => decide (n ≤ i)) = true)
    (hb : ∀ (cdv : Value) (A : Around) (outer : List Env) (s : Shared) (H : Hp) (E : XK), Room k (A.deeper (envOfC qual (defScope st) s.heap.objs.size f cdv)) → NBX (cxOf (L2.CX P w) P w K mg base N qual (defScope st) f cdv A outer s H E) E own (defBody st) g) (hmk : (own.all fun i => decide (i < 1000)) = true := by decide) :
    FnOk P w K mg base (L2.CX P w) (k + 1) f fd ps (spN K mg n (fnD N.length g)) := by
  refine F.okX S (fun vs H Q E h => ?_) fun cdv A outer s H vs Q E hr h => ?_
  · rw [h.1]; exact hn.symm
  obtain ⟨hl, O, ds, hO, r, z⟩ := h
  obtain ⟨t, p, ht⟩ := hb cdv A outer s H E hr
  have hpl : ps.length ≤ N.length := by have := congrArg List.length S.pre; rw [List.length_take] at this; omega
  have hdl : ds.length = n := by rw [← r.length]; exact hl
  refine ⟨t, p, ht _ H _ Q H O O (start_rel hO r (by omega) (fun i hi => by have := of_decide_eq_true (List.all_eq_true.mp ho i hi); omega) hmk) ?_⟩
  unfold fnD at z
  cases e : g (ds.map some ++ List.replicate (N.length - ds.length) Option.none) with
  | nx ρ' => rw [e] at z; exact z.elim
  | rt d =>
    rw [e] at z
    cases d with
    | list xs => exact z
    | _ => exact z.elim
  | err c ρ' => rw [e] at z; exact z
  | bk _ => rw [e] at z; exact z.elim
  | ct _ => rw [e] at z; exact z.elim
  | bad => rw [e] at z; exact z.elim
theorem cal_dataN {x qual : Str} {st : Stmt} {f : Addr} {fd : FuncData} {N ps : List Str} {k n : Nat} {own : List Nat} {g : Vars → Out} (F : Fun K x qual st f fd) (hm : mg x = some (.ref f)) (hbn : Binds K fd ps []) (S : FnScope N ps (defScope st)) (hn : ps.length = n) (ho : (own.all fun i => decide (n ≤ i)) = true)
    (hb : ∀ (cdv : Value) (A : Around) (outer : List Env) (s : Shared) (H : Hp) (E : XK), Room k (A.deeper (envOfC qual (defScope st) s.heap.objs.size f cdv)) → NBX (cxOf (L2.CX P w) P w K mg base N qual (defScope st) f cdv A outer s H E) E own (defBody st) g) (hmk : (own.all fun i => decide (i < 1000)) = true := by decide) :
    CalN P w K mg base (k + 1) x n (fnD N.length g) := ⟨f, fd, ps, hn, fn_dataN F S hn ho hb hmk, hm, F.kp, hbn⟩
theorem cal_zeroN {x qual : Str} {st : Stmt} {f : Addr} {fd : FuncData} {ps : List Str} {n : Nat} (F : Fun K x qual st f fd) (hm : mg x = some (.ref f)) (hbn : Binds K fd ps []) (hn : ps.length = n) : CalN P w K mg base 0 x n fun _ => .bad := by
  have no : ∀ vs H Q E, ¬ spN K mg n (fun _ => .bad) vs H Q E := fun vs H Q E h => by
    obtain ⟨_, _, _, _, _, z⟩ := h
    exact z
  exact ⟨f, fd, ps, hn, ⟨fun vs H Q E h => absurd h (no vs H Q E), fun A outer s H args us vs Q E _ _ _ _ h => absurd h (no vs H Q E)⟩, hm, F.kp, hbn⟩
end
def nFn (g : List PyData → R PyData) (f : Vars → R (List PyData)) (ρ : Vars) : R (List PyData) := (f ρ).bind fun ds => match newL (g ds) with
  | .ok (.list ys) => .ok ys
  | .err c => .err c
  | _ => .bad
@[simp] theorem u_nFn (g : List PyData → R PyData) (f : Vars → R (List PyData)) (ρ : Vars) : nFn g f ρ = (f ρ).bind fun ds => match newL (g ds) with
  | .ok (.list ys) => .ok ys
  | .err c => .err c
  | _ => .bad := rfl
section
variable {X : Cx} {W : WX}
theorem nx_fn {k n : Nat} {x : Str} {g : List PyData → R PyData} {e : Expr} {es : List Expr} {f : Vars → R (List PyData)} {p pos : Pos} (tk : Takes X W) (F : CalN X.prog X.w X.K X.mg X.base k x n g) (hr : Room k X.A) (hg : Gl X x) (ha : AX X W (e :: es) f) (hn : es.length + 1 = n)
    (hdb : (x == ("__debug__" : Str)) = false := by decide) (he : starEach (e :: es) X.env = (false, eval e X.env) :: starEach es X.env := by rfl) (hpl : (backTo pos (starEach es X.env)).any (·.1) = false := by rfl) (hlen : ∀ ρ ds, f ρ = .ok ds → ds.length = n) :
    NX X W (.Call (.Name x p) (e :: es) [] pos) (nFn g f) := by
  obtain ⟨fa, fd, ps, h1, h2, h3, h4, h5⟩ := F
  obtain ⟨t, q, ht⟩ := ha
  refine ⟨_, pe_callS h2 hr hg h3 h4 h5 (fun σ => passAt tk σ) q hdb he hpl, fun σ H O ρ Q hO hv z => ht σ H O ρ _ hO hv ?_⟩
  unfold nFn at z
  cases e1 : f ρ with
  | bad => rw [e1] at z; exact z
  | err c => rw [e1] at z; exact z
  | ok ds =>
    rw [e1, R.bind_ok] at z
    intro vs H1 s1 r1
    refine ⟨by rw [r1.length]; exact hlen ρ ds e1, O, ds, hO.same s1, r1, ?_⟩
    cases e2 : newL (g ds) with
    | bad => rw [e2] at z; exact z.elim
    | err c => rw [e2] at z; exact fun H' s' => z H' (s1.trans s')
    | ok d =>
      rw [e2] at z
      cases d with
      | list ys => exact fun p vs H' s' hp hp' rs => z p vs H' (s1.trans s') (s1.free hp) hp' rs
      | _ => exact z.elim
end
section
variable (X : Cx) (W : WX) (own : List Nat) (io : Nat)
def FOut (a : Addr) (vs : List V) (H0 : HB) (O0 O : List Addr) (H : Hp) (D : Ends) : Out → Prop
  | .nx ρ => ∀ σ' H' O', Rel X.K own H0 O0 O' σ' H' ρ → σ'[io]? = some (some (.ref a)) → H' a = some (.lst vs) → Same (hide O H) (hide O' H') → D.nx σ' H'
  | .rt d => RtW X.K H0 O0 (hide O H) D d
  | .bk ρ => ∀ σ' H' O', Rel X.K own H0 O0 O' σ' H' ρ → σ'[io]? = some (some (.ref a)) → H' a = some (.lst vs) → Same (hide O H) (hide O' H') → D.bk σ' H'
  | .ct ρ => ∀ σ' H' O', Rel X.K own H0 O0 O' σ' H' ρ → σ'[io]? = some (some (.ref a)) → H' a = some (.lst vs) → Same (hide O H) (hide O' H') → D.ct σ' H'
  | .err c ρ => ∀ σ' H' O', Rel X.K own H0 O0 O' σ' H' ρ → Same (hide O H) (hide O' H') → W (exV X.mg c) Option.none σ' H'
  | .bad => False
end
section
variable {X : Cx} {W : WX} {own : List Nat} {io : Nat}
theorem FOut.from {a : Addr} {vs : List V} {H0 : HB} {O0 O O' : List Addr} {H H' : Hp} {D : Ends} {o : Out} (h : FOut X W own io a vs H0 O0 O H D o) (s : Same (hide O H) (hide O' H')) : FOut X W own io a vs H0 O0 O' H' D o := by
  cases o with
  | nx ρ => exact fun σ' H'' O'' r h1 h2 s' => h σ' H'' O'' r h1 h2 (s.trans s')
  | rt d => exact RtW.from h s
  | bk ρ => exact fun σ' H'' O'' r h1 h2 s' => h σ' H'' O'' r h1 h2 (s.trans s')
  | ct ρ => exact fun σ' H'' O'' r h1 h2 s' => h σ' H'' O'' r h1 h2 (s.trans s')
  | err c ρ => exact fun σ' H'' O'' r s' => h σ' H'' O'' r (s.trans s')
  | bad => exact h
end
end Pu
set_option Elab.async false
set_option linter.all false
set_option maxRecDepth 100000
set_option maxHeartbeats 4000000
namespace Pu
open PySem PySem.Spec PyProof.Rows L2
def keyD : PyData → Option Key
  | .int i => some (.inl i)
  | .str x => some (.inr x)
  | _ => none
theorem keyD_kD (k : Key) : keyD (kD k) = some k := by cases k <;> rfl
theorem rp_key {K : PySem.W.Frag} {H : Hp} {v : V} {d : PyData} {k : Key} (r : Rp K H v d) (h : keyD d = some k) : v = kV k := by
  cases r with
  | int i => cases h; rfl
  | str x => cases h; rfl
  | _ => cases h
def valD (ds : List (PyData × PyData)) (k : Key) : Option PyData := (ds.find? fun p => decide (keyD p.1 = some k)).map (·.2)
def putD (ds : List (PyData × PyData)) (k : Key) (v : PyData) : List (PyData × PyData) :=
  if (ds.any fun p => decide (keyD p.1 = some k)) = true then ds.map (fun p => if keyD p.1 = some k then (p.1, v) else p) else ds ++ [(kD k, v)]
section
variable {K : PySem.W.Frag} {H : Hp}
theorem rpd_ins : ∀ {kvs : List (Key × V)} {ds : List (PyData × PyData)}, Rpd K H kvs ds → insB ds = false
  | _, _, .nil => rfl
  | _, _, @Rpd.cons _ _ k _ _ _ _ _ _ => by cases k <;> rfl
theorem Rpd.length : ∀ {kvs : List (Key × V)} {ds : List (PyData × PyData)}, Rpd K H kvs ds → kvs.length = ds.length
  | _, _, .nil => rfl
  | _, _, .cons _ r => congrArg Nat.succ r.length
theorem rpd_val (k : Key) : ∀ {kvs : List (Key × V)} {ds : List (PyData × PyData)}, Rpd K H kvs ds → (∃ v d, valV kvs k = some v ∧ valD ds k = some d ∧ Rp K H v d) ∨ (valV kvs k = none ∧ valD ds k = none)
  | _, _, .nil => .inr ⟨rfl, rfl⟩
  | _, _, @Rpd.cons _ _ j v vs d ds h r => by
    by_cases e : j = k
    · subst e
      exact .inl ⟨v, d, valV_pos rfl, by simp [valD, List.find?_cons, keyD_kD], h⟩
    · have e1 : valV ((j, v) :: vs) k = valV vs k := valV_neg (by exact e)
      have e2 : valD ((kD j, d) :: ds) k = valD ds k := by
        simp only [valD, List.find?_cons, keyD_kD]
        rw [decide_eq_false (by intro z; cases z; exact e rfl)]
      rw [e1, e2]
      exact rpd_val k r
theorem rpd_any (k : Key) : ∀ {kvs : List (Key × V)} {ds : List (PyData × PyData)}, Rpd K H kvs ds → (kvs.any fun kv => decide (kv.1 = k)) = (ds.any fun p => decide (keyD p.1 = some k))
  | _, _, .nil => rfl
  | _, _, @Rpd.cons _ _ j v vs d ds h r => by
    simp only [List.any_cons, keyD_kD, Option.some.injEq]
    rw [rpd_any k r]
theorem rpd_snoc {k : Key} {v : V} {d : PyData} (h : Rp K H v d) : ∀ {kvs : List (Key × V)} {ds : List (PyData × PyData)}, Rpd K H kvs ds → Rpd K H (kvs ++ [(k, v)]) (ds ++ [(kD k, d)])
  | _, _, .nil => .cons h .nil
  | _, _, .cons g r => .cons g (rpd_snoc h r)
theorem rpd_map {k : Key} {v : V} {d : PyData} (h : Rp K H v d) : ∀ {kvs : List (Key × V)} {ds : List (PyData × PyData)}, Rpd K H kvs ds → Rpd K H (kvs.map fun kv => if kv.1 = k then (kv.1, v) else kv) (ds.map fun p => if keyD p.1 = some k then (p.1, d) else p)
  | _, _, .nil => .nil
  | _, _, @Rpd.cons _ _ j w vs e ds g r => by
    rw [List.map_cons, List.map_cons]
    by_cases c : j = k
    · subst c
      rw [if_pos rfl, if_pos (keyD_kD j)]
      exact .cons h (rpd_map h r)
    · rw [if_neg c, if_neg (by rw [keyD_kD]; intro z; cases z; exact c rfl)]
      exact .cons g (rpd_map h r)
theorem rpd_put {k : Key} {v : V} {d : PyData} (h : Rp K H v d) {kvs : List (Key × V)} {ds : List (PyData × PyData)} (r : Rpd K H kvs ds) : Rpd K H (putK kvs k v) (putD ds k d) := by
  unfold putK putD
  rw [rpd_any k r]
  by_cases c : (ds.any fun p => decide (keyD p.1 = some k)) = true
  · rw [if_pos c, if_pos c]; exact rpd_map h r
  · rw [if_neg c, if_neg c]; exact rpd_snoc h r
theorem Rpd.get : ∀ {vs : List (Key × V)} {ds : List (PyData × PyData)} {i : Nat} {p : PyData × PyData}, Rpd K H vs ds → ds[i]? = some p → ∃ k v, vs[i]? = some (k, v) ∧ p.1 = kD k ∧ Rp K H v p.2
  | _, _, _, _, .nil, e => by simp at e
  | _, _, 0, _, .cons h _, e => by simp at e; subst e; exact ⟨_, _, rfl, rfl, h⟩
  | _, _, i + 1, _, .cons _ r, e => by
    obtain ⟨k, v, h1, h2⟩ := Rpd.get (i := i) r (by simpa using e)
    exact ⟨k, v, by simpa using h1, h2⟩
end
theorem rp_kV {K : PySem.W.Frag} {H : Hp} (k : Key) : Rp K H (kV k) (kD k) := by
  cases k with
  | inl i => exact .int i
  | inr x => exact .str x
def gDix (d k : PyData) : Option PyData := match d with
  | .dict ds => (keyD k).bind (valD ds)
  | _ => none
def gDget (ds : List (PyData × PyData)) (k x : PyData) : Option PyData := (keyD k).map fun k => (valD ds k).getD x
def gDin (k d : PyData) : Option PyData := match d with
  | .dict ds => if insB ds = true then none else (keyD k).map fun k => .bool (valD ds k).isSome
  | _ => none
def gDnin (k d : PyData) : Option PyData := match d with
  | .dict ds => if insB ds = true then none else (keyD k).map fun k => .bool (!(valD ds k).isSome)
  | _ => none
@[simp] def eDget (f k x : Vars → R PyData) (ρ : Vars) : R PyData := (f ρ).bind fun d => match d with
  | .dict ds => if insB ds = true then .bad else (k ρ).bind fun k => (x ρ).bind fun x => R.of (gDget ds k x)
  | _ => .bad
section
variable {X : Cx} {W : WX}
theorem dget_of {H H' : Hp} {O : List Addr} {a : Addr} {kvs : List (Key × V)} {k : Key} (h : Rd (hide O H) a (.dK kvs)) (s : Same H H') : DGet H' a (kV k) (valV kvs k) := .inl ⟨kvs, k, rd_mono s (rd_mono hide_sub h), rfl, rfl⟩
theorem ex_dix {a b : Expr} {f h : Vars → R PyData} {pos : Pos} (hu : X.A.units + 1 < cLine) (ha : EX X W a f) (hb : EX X W b h) (hs : NoSl b := by exact fun _ _ => rfl) : EX X W (.Subscript a b pos) (eOp gDix f h) := by
  obtain ⟨ta, p, hta⟩ := ha
  obtain ⟨tb, q, htb⟩ := hb
  refine ⟨_, pe_dget hu p q hs, fun σ H O ρ Q hO hv z => ?_⟩
  refine hta σ H O ρ _ hO hv (EOut.then (g := fun d => (h ρ).bind fun e => R.of (gDix d e)) EOut.b EOut.e z fun d v H1 s1 r1 z1 => ?_)
  refine htb σ H1 O ρ _ (hO.same s1) (hv.mono (hide_same s1)) (EOut.then (g := fun e => R.of (gDix d e)) EOut.b EOut.e (z1.from s1) fun e v2 H2 s2 r2 z2 => ?_)
  cases r1 with
  | dic hd rd =>
    replace z2 : EOut X W O σ H2 Q (R.of ((keyD e).bind (valD _))) := z2.from s2
    cases hk : keyD e with
    | none => rw [hk] at z2; exact z2.elim
    | some k =>
      rw [hk] at z2
      replace z2 : EOut X W O σ H2 Q (R.of (valD _ k)) := z2
      have ev := rp_key r2 hk
      subst ev
      rcases rpd_val k (rd.mono (hide_same s2)) with ⟨v, d, e1, e2, e3⟩ | ⟨e1, e2⟩
      · rw [e2] at z2
        refine ⟨_, v, rfl, ?_, z2 v H2 (Same.refl _) e3⟩
        rw [← e1]; exact dget_of hd s2
      · rw [e2] at z2; exact z2.elim
  | fn _ =>
    have : ∀ b : PyData, gDix (.dict [(.none, b)]) e = none := fun b => by show (keyD e).bind _ = none; cases keyD e <;> rfl
    rw [this] at z2; exact z2.elim
  | fn0 =>
    have : ∀ b : PyData, gDix (.dict [(.none, b)]) e = none := fun b => by show (keyD e).bind _ = none; cases keyD e <;> rfl
    rw [this] at z2; exact z2.elim
  | tpx =>
    have : ∀ b c : PyData, gDix (.dict [(.none, b), (.none, c)]) e = none := fun b c => by show (keyD e).bind _ = none; cases keyD e <;> rfl
    rw [this] at z2; exact z2.elim
  | dct =>
    have : ∀ b : PyData, gDix (.dict [(.none, b)]) e = none := fun b => by show (keyD e).bind _ = none; cases keyD e <;> rfl
    rw [this] at z2; exact z2.elim
  | ins =>
    have : ∀ b : PyData, gDix (.dict [(.none, b)]) e = none := fun b => by show (keyD e).bind _ = none; cases keyD e <;> rfl
    rw [this] at z2; exact z2.elim
  | _ => exact z2.elim
theorem ex_dget {o e f : Expr} {apos cpos : Pos} {g k x : Vars → R PyData} (hu : X.A.units + 1 < cLine) (ho : EX X W o g) (he : EX X W e k) (hf : EX X W f x) (m : M2 X o "get" apos e f cpos := by exact ⟨rfl, rfl, rfl, rfl⟩) : EX X W (.Call (.Attribute o "get" apos) [e, f] [] cpos) (eDget g k x) := by
  obtain ⟨ta, p, hta⟩ := ho
  obtain ⟨tb, q, htb⟩ := he
  obtain ⟨tc, r, htc⟩ := hf
  refine ⟨_, pe_dget2 hu p q r m, fun σ H O ρ Q hO hv z => ?_⟩
  refine hta σ H O ρ _ hO hv (EOut.then EOut.b EOut.e z fun d v H1 s1 r1 z1 => ?_)
  cases r1 with
  | dic hd rd =>
    have ei := rpd_ins rd
    dsimp only at z1
    rw [if_neg (by rw [ei]; exact Bool.false_ne_true)] at z1
    refine ⟨_, rfl, .inl ⟨_, rd_mono hide_sub hd⟩, ?_⟩
    refine htb σ H1 O ρ _ (hO.same s1) (hv.mono (hide_same s1)) (EOut.then EOut.b EOut.e (z1.from s1) fun e v2 H2 s2 r2 z2 => ?_)
    refine htc σ H2 O ρ _ ((hO.same s1).same s2) (hv.mono (hide_same (s1.trans s2))) (EOut.then EOut.b EOut.e (z2.from s2) fun y v3 H3 s3 r3 z3 => ?_)
    have s23 := s2.trans s3
    replace z3 : EOut X W O σ H3 Q (R.of ((keyD e).map fun k => (valD _ k).getD y)) := z3.from s3
    cases hk : keyD e with
    | none => rw [hk] at z3; exact z3.elim
    | some k =>
      rw [hk] at z3
      have ev := rp_key r2 hk
      subst ev
      refine ⟨_, dget_of hd s23, ?_⟩
      rcases rpd_val k (rd.mono (hide_same s23)) with ⟨v, d, e1, e2, e3⟩ | ⟨e1, e2⟩
      · replace z3 : EOut X W O σ H3 Q (.ok ((valD _ k).getD y)) := z3
        rw [e2] at z3
        rw [e1]; exact z3 v H3 (Same.refl _) e3
      · replace z3 : EOut X W O σ H3 Q (.ok ((valD _ k).getD y)) := z3
        rw [e2] at z3
        rw [e1]; exact z3 v3 H3 (Same.refl _) r3
  | _ => exact z1.elim
theorem din_run {f h : Vars → R PyData} {ta tb : TE} {bb : Bool → Bool} (hta : ∀ σ H O ρ Q, Stands O H → VRel X.K (hide O H) σ ρ → EOut X W O σ H Q (f ρ) → ta σ H Q) (htb : ∀ σ H O ρ Q, Stands O H → VRel X.K (hide O H) σ ρ → EOut X W O σ H Q (h ρ) → tb σ H Q)
    {σ : L2.St} {H : Hp} {O : List Addr} {ρ : Vars} {Q : VK} (hO : Stands O H) (hv : VRel X.K (hide O H) σ ρ) (g : PyData → PyData → Option PyData) (hg : ∀ k d, g k d = match d with
      | .dict ds => if insB ds = true then none else (keyD k).map fun k => .bool (bb (valD ds k).isSome)
      | _ => none) (z : EOut X W O σ H Q (eOp g f h ρ)) : ta σ H fun y H1 => tb σ H1 fun x H2 => ∃ a o, x = .ref a ∧ DGet H2 a y o ∧ Q (.bl (bb o.isSome)) H2 := by
  refine hta σ H O ρ _ hO hv (EOut.then (g := fun d => (h ρ).bind fun e => R.of (g d e)) EOut.b EOut.e z fun e v2 H1 s1 r2 z1 => ?_)
  refine htb σ H1 O ρ _ (hO.same s1) (hv.mono (hide_same s1)) (EOut.then (g := fun d => R.of (g e d)) EOut.b EOut.e (z1.from s1) fun d v H2 s2 r1 z2 => ?_)
  rw [hg] at z2
  cases r1 with
  | dic hd rd =>
    have ei := rpd_ins rd
    dsimp only at z2
    rw [if_neg (by rw [ei]; exact Bool.false_ne_true)] at z2
    cases hk : keyD e with
    | none => rw [hk] at z2; exact z2.elim
    | some k =>
      rw [hk] at z2
      have ev := rp_key (r2.mono (hide_same s2)) hk
      subst ev
      refine ⟨_, _, rfl, dget_of hd (Same.refl _), ?_⟩
      rcases rpd_val k rd with ⟨v, d, e1, e2, e3⟩ | ⟨e1, e2⟩
      · replace z2 : EOut X W O σ H1 Q (.ok (.bool (bb (valD _ k).isSome))) := z2
        rw [e2] at z2
        rw [e1]; exact z2 _ H2 s2 (.bl _)
      · replace z2 : EOut X W O σ H1 Q (.ok (.bool (bb (valD _ k).isSome))) := z2
        rw [e2] at z2
        rw [e1]; exact z2 _ H2 s2 (.bl _)
  | _ => exact z2.elim
theorem tx_in {op : CmpOp} {a b : Expr} {f h : Vars → R PyData} {ta tb : TE} {g : PyData → PyData → Option PyData} {pos : Pos} {t : TE} (p : PC X op a b t) (hm : behindInMarks op b = false) (ht : ∀ σ H O ρ Q, Stands O H → VRel X.K (hide O H) σ ρ → EOut X W O σ H Q (eOp g f h ρ) → t σ H Q) : TX X W (.Compare a [op] [b] pos) (tOf (eOp g f h)) := by
  refine ⟨_, pt_cmp p hm, fun σ H O ρ Q hO hv z => ht σ H O ρ _ hO hv (EOut.then TOut.b TOut.e z fun d v H1 s1 r1 z1 => ?_)⟩
  cases r1 with
  | bl b => exact ⟨b, rfl, z1 H1 s1⟩
  | _ => exact z1.elim
theorem tx_din {a b : Expr} {f h : Vars → R PyData} {pos : Pos} (hu : X.A.units + 1 < cLine) (ha : EX X W a f) (hb : EX X W b h) (hm : behindInMarks .In b = false := by first | rfl | with_unfolding_all rfl) : TX X W (.Compare a [.In] [b] pos) (tOf (eOp gDin f h)) := by
  obtain ⟨ta, p, hta⟩ := ha
  obtain ⟨tb, q, htb⟩ := hb
  exact tx_in (ta := ta) (tb := tb) (pc_din hu p q) hm fun σ H O ρ Q hO hv z => din_run (bb := fun b => b) hta htb hO hv gDin (fun _ _ => rfl) z
theorem tx_dnin {a b : Expr} {f h : Vars → R PyData} {pos : Pos} (hu : X.A.units + 1 < cLine) (ha : EX X W a f) (hb : EX X W b h) (hm : behindInMarks .NotIn b = false := by first | rfl | with_unfolding_all rfl) : TX X W (.Compare a [.NotIn] [b] pos) (tOf (eOp gDnin f h)) := by
  obtain ⟨ta, p, hta⟩ := ha
  obtain ⟨tb, q, htb⟩ := hb
  exact tx_in (ta := ta) (tb := tb) (pc_dnotin hu p q) hm fun σ H O ρ Q hO hv z => din_run (bb := fun b => !b) hta htb hO hv gDnin (fun _ _ => rfl) z
end
end Pu
set_option Elab.async false
set_option linter.all false
set_option maxRecDepth 100000
set_option maxHeartbeats 4000000
namespace Pu
open PySem PySem.Spec PyProof.Rows L2
def flatD (d e : PyData) : Bool := match d, e with
  | .none, .none => true
  | .bool a, .bool b => a == b
  | .int i, .int j => decide (i = j)
  | .str x, .str y => decide (x = y)
  | _, _ => false
theorem flat_of {K : PySem.W.Frag} {H : Hp} {v w : V} {d e : PyData} (r : Rp K H v d) (r2 : Rp K H w e) (h : flatD d e = true) : v = w ∧ flatB v = true := by
  cases d <;> cases e <;> simp [flatD] at h
  · cases r; cases r2; exact ⟨rfl, rfl⟩
  · subst h; cases r; cases r2; exact ⟨rfl, rfl⟩
  · subst h; cases r; cases r2; exact ⟨rfl, rfl⟩
  · subst h; cases r; cases r2; exact ⟨rfl, rfl⟩
section
variable {X : Cx} {W : WX} {own : List Nat}
def NVOut (X : Cx) (W : WX) (O : List Addr) (σ : L2.St) (H : Hp) (Q : VK) : R PyData → Prop
  | .ok d => ∀ p H', Same H H' → H p = none → OwnV X.K (hide (p :: O) H') H' p d → Q (.ref p) H'
  | .err c => ∀ H', Same H H' → W (exV X.mg c) none σ H'
  | .bad => False
def NVX (X : Cx) (W : WX) (e : Expr) (f : Vars → R PyData) : Prop :=
  ∃ t, PE X e t ∧ ∀ σ H O ρ (Q : VK), Stands O H → VRel X.K (hide O H) σ ρ → NVOut X W O σ H Q (f ρ) → t σ H Q
theorem nv_dict0 {pos : Pos} : NVX X W (.Dict [] [] pos) (eC (.dict [])) :=
  ⟨_, pe_dnewK, fun σ H O ρ Q hO hv z p hp => z p _ (same_new hp) hp (.inl ⟨[], upd_same, .nil⟩)⟩
theorem NVX.ex {e : Expr} {f : Vars → R PyData} (h : NVX X W e f) : EX X W e f := by
  obtain ⟨t, p, ht⟩ := h
  refine ⟨t, p, fun σ H O ρ Q hO hv z => ht σ H O ρ Q hO hv ?_⟩
  cases e : f ρ with
  | ok d => rw [e] at z; exact fun p H' s hp ov => z _ H' s (ov.rp (hide_less fun a ha => List.mem_cons_of_mem _ ha) fun o ho => hide_of (hO.new hp) ho)
  | err c => rw [e] at z; exact z
  | bad => rw [e] at z; exact z
@[simp] def sNewV (own : List Nat) (i : Nat) (f : Vars → R PyData) (ρ : Vars) : Out := (f (mask own ρ)).run ρ fun d => .nx (ρ.set i (some d))
theorem sx_newV {i : Nat} {x : Str} {e : Expr} {f : Vars → R PyData} {pos' pos : Pos} (hN : X.N.Nodup) (hi : X.N[i]? = some x) (hx : Loc X.env.scope x) (h : NVX X W e f) (ho : own.contains i = true) (hs : swapsWith e (some (.Name x pos')) pos.line X.env = pure false := by rfl) (hf : X.fn x = true ∨ X.env.scope.names.lookup x = some .local := by first | exact .inl rfl | exact .inr rfl | assumption) (hni : own.contains (1000 + i) = false := by rfl) :
    SX X W own (.Assign [.Name x pos'] e pos) (sNewV own i f) := by
  obtain ⟨t, p, ht⟩ := h
  have hni' : 1000 + i ∉ own := fun z => by rw [List.contains_iff_mem.mpr z] at hni; cases hni
  have hi' : i ∈ own := List.contains_iff_mem.mp ho
  refine ⟨_, ps_set hN hi hx p hs hf, fun σ H ρ D H0 O0 O r z => ht σ H O _ _ r.stands r.vrelM ?_⟩
  unfold sNewV at z
  cases e : f (mask own ρ) with
  | bad => rw [e] at z; exact z
  | err c => rw [e] at z; exact fun H' s => z σ H' O (r.step s) (hide_same s)
  | ok d =>
    rw [e, R.run_ok] at z
    intro p H' s hp ov
    obtain ⟨r', sF⟩ := r.laidV hi' (r.notLent hni') s hp ov
    exact z _ H' _ r' sF
@[simp] def sDPutM (own : List Nat) (i : Nat) (f k : Vars → R PyData) (ρ : Vars) : Out := match ρ.getD i none with
  | some (.dict ds) => if insB ds = true then .bad else (f (mask own ρ)).run ρ fun d => (k (mask own ρ)).run ρ fun e => match keyD e with
    | some key => if ds.length < sizeLine then .nx (ρ.set i (some (.dict (putD ds key d)))) else .bad
    | none => .bad
  | _ => .bad
theorem own_dict' {i : Nat} (hi : i ∈ own) {H0 : HB} {O0 O : List Addr} {σ : L2.St} {H : Hp} {ρ : Vars} {ds : List (PyData × PyData)} (r : Rel X.K own H0 O0 O σ H ρ) (e : ρ.getD i none = some (.dict ds)) (ei : insB ds = false) : ∃ a kvs, σ[i]? = some (some (.ref a)) ∧ a ∈ O ∧ H0 a = none ∧ H a = some (.dK kvs) ∧ Rpd X.K (hide O H) kvs ds := by
  obtain ⟨a, h1, h2, h3, h⟩ := r.mine i _ hi (getD_some e)
  rcases h with ⟨kvs, h4, h5⟩ | ⟨ts, es, z, _⟩
  case inr => subst z; cases ei
  exact ⟨a, kvs, h1, h2, h3, h4, h5⟩
theorem sx_dputM {i : Nat} {x : Str} {e j : Expr} {f k : Vars → R PyData} {p pos' pos : Pos} (hu : X.A.units + 1 < cLine) (hf : EX X W e f) (hk : EX X W j k) (ho : own.contains i = true) (hN : X.N[i]? = some x := by rfl)
    (hs : swapsWith e (some (.Subscript (.Name x p) j pos')) pos.line X.env = pure false := by rfl)
    (hv : Vis X.env.scope x := by first | exact Or.inl rfl | exact Or.inr (Or.inl rfl) | exact Or.inr (Or.inr rfl)) (hdn : (x == ("__debug__" : Str)) = false := by decide) (hcd : (x == ("__classdict__" : Str)) = false := by decide) :
    SX X W own (.Assign [.Subscript (.Name x p) j pos'] e pos) (sDPutM own i f k) := by
  obtain ⟨t, q, ht⟩ := hf
  obtain ⟨u, q2, hu2⟩ := hk
  have hi : i ∈ own := List.contains_iff_mem.mp ho
  refine ⟨_, ps_dput hu (pe_var hN hv hdn hcd) q2 q hs, fun σ H ρ D H0 O0 O r z => ?_⟩
  unfold sDPutM at z
  cases e1 : ρ.getD i none with
  | none => rw [e1] at z; exact z.elim
  | some dd =>
    rw [e1] at z
    cases dd with
    | dict ds =>
      dsimp only at z
      by_cases ib : insB ds = true
      · rw [if_pos ib] at z; exact z.elim
      rw [if_neg ib] at z
      refine ht σ H O _ _ r.stands r.vrelM (EOut.run r z fun d v H1 s1 rv z1 r1 => ?_)
      obtain ⟨a, kvs, g1, g2, g3, g4, g5⟩ := own_dict' hi r1 e1 (by simpa using ib)
      refine ⟨.ref a, g1, hu2 σ H1 O _ _ r1.stands r1.vrelM (EOut.run r1 z1 fun e w H2 s2 rw' z2 r2 => ?_)⟩
      cases hk : keyD e with
      | none => rw [hk] at z2; exact z2.elim
      | some key =>
        rw [hk] at z2
        have ev := rp_key rw' hk
        subst ev
        dsimp only at z2
        by_cases c : ds.length < sizeLine
        · rw [if_pos c] at z2
          have g5' := g5.mono (hide_same s2)
          obtain ⟨r3, sF⟩ := r2.writeV (ob := .dK (putK kvs key v)) (de := .dict (putD ds key d)) hi (getD_some e1) g1 g2 g3 (.inl ⟨_, upd_same, rpd_put (rv.mono (hide_same s2)) g5'⟩)
          exact ⟨a, _, rfl, DPut.k (s2 _ _ g4) (by rw [g5.length]; exact c), z2 σ _ O r3 sF⟩
        · rw [if_neg c] at z2; exact z2.elim
    | _ => exact z.elim
end
end Pu
set_option Elab.async false
set_option linter.all false
set_option maxRecDepth 100000
set_option maxHeartbeats 4000000
namespace Pu
open PySem PySem.Spec PyProof.Rows L2
def Sl (o o' : HO) : Prop := o' = o ∨ ∃ kvs od, (o = .dK kvs ∧ o' = .frz od (.dK kvs)) ∨ (o = .frz od (.dK kvs) ∧ o' = .dK kvs)
def SameL (H H' : Hp) : Prop := ∀ a o, H a = some o → ∃ o', H' a = some o' ∧ Sl o o'
theorem Same.l {H H' : Hp} (s : Same H H') : SameL H H' := fun a o h => ⟨o, s a o h, .inl rfl⟩
section
variable {K : PySem.W.Frag} {H H' : Hp} {a : Addr}
theorem SameL.at_ (s : SameL H H') {o : HO} (h : H a = some o) (h1 : ∀ kvs, o ≠ .dK kvs) (h2 : ∀ od kvs, o ≠ .frz od (.dK kvs)) : H' a = some o := by
  obtain ⟨o', e, z⟩ := s a o h
  rcases z with z | ⟨kvs, od, ⟨z, _⟩ | ⟨z, _⟩⟩
  · rw [e, z]
  · exact absurd z (h1 _)
  · exact absurd z (h2 _ _)
theorem SameL.rdN (s : SameL H H') {u : HO} (h : Rd H a u) (h1 : ∀ kvs, u ≠ .dK kvs) (h2 : ∀ od kvs, u ≠ .frz od (.dK kvs)) : Rd H' a u := by
  rcases h with h | ⟨o, h⟩
  · exact .inl (s.at_ h h1 h2)
  · exact .inr ⟨o, s.at_ h (fun _ z => by cases z) fun od kvs z => by cases z; exact h1 _ rfl⟩
theorem SameL.rdD (s : SameL H H') {kvs : List (Key × V)} (h : Rd H a (.dK kvs)) : Rd H' a (.dK kvs) := by
  rcases h with h | ⟨o, h⟩
  · obtain ⟨o', e, z⟩ := s a _ h
    rcases z with z | ⟨kvs', od, ⟨z, z2⟩ | ⟨z, _⟩⟩
    · subst z; exact .inl e
    · cases z; subst z2; exact .inr ⟨od, e⟩
    · cases z
  · obtain ⟨o', e, z⟩ := s a _ h
    rcases z with z | ⟨kvs', od, ⟨z, _⟩ | ⟨z, z2⟩⟩
    · subst z; exact .inr ⟨o, e⟩
    · cases z
    · cases z; subst z2; exact .inl e
theorem SameL.seqL (s : SameL H H') {xs : List V} (h : SqL K H a xs) : SqL K H' a xs := by
  rcases h with h | h
  · exact .inl (s.rdN h (fun _ z => by cases z) (fun _ _ z => by cases z))
  · exact .inr h
theorem SameL.seqT (s : SameL H H') {xs : List V} (h : SqT K H a xs) : SqT K H' a xs := by
  rcases h with h | h
  · exact .inl (s.rdN h (fun _ z => by cases z) (fun _ _ z => by cases z))
  · exact .inr h
mutual
theorem Rp.lk (s : SameL H H') : ∀ {v : V} {d : PyData}, Rp K H v d → Rp K H' v d
  | _, _, .non => .non
  | _, _, .bl b => .bl b
  | _, _, .int i => .int i
  | _, _, .str x => .str x
  | _, _, .lst h r => .lst (s.seqL h) (Rps.lk s r)
  | _, _, .tup h r => .tup (s.seqT h) (Rps.lk s r)
  | _, _, .dic h r => .dic (s.rdD h) (Rpd.lk s r)
  | _, _, .ins h o c r => .ins (s.at_ h (fun _ z => by cases z) (fun _ _ z => by cases z)) (s.at_ o (fun _ z => by cases z) (fun _ _ z => by cases z)) c (Rpd.lk s r)
  | _, _, .fn h r => .fn (s.at_ h (fun _ z => by cases z) (fun _ _ z => by cases z)) (Rp.lk s r)
  | _, _, .fn0 h => .fn0 (s.at_ h (fun _ z => by cases z) (fun _ _ z => by cases z))
  | _, _, .tpx h r => .tpx (s.at_ h (fun _ z => by cases z) (fun _ _ z => by cases z)) (Rps.lk s r)
  | _, _, .dct h r => .dct (s.rdN h (fun _ z => by cases z) (fun _ _ z => by cases z)) (RpT.lk s r)
theorem Rps.lk (s : SameL H H') : ∀ {vs : List V} {ds : List PyData}, Rps K H vs ds → Rps K H' vs ds
  | _, _, .nil => .nil
  | _, _, .cons h r => .cons (Rp.lk s h) (Rps.lk s r)
theorem Rpd.lk (s : SameL H H') : ∀ {vs : List (Key × V)} {ds : List (PyData × PyData)}, Rpd K H vs ds → Rpd K H' vs ds
  | _, _, .nil => .nil
  | _, _, .cons h r => .cons (Rp.lk s h) (Rpd.lk s r)
theorem RpT.lk (s : SameL H H') : ∀ {vs : List (List Key × V)} {ds : List (PyData × PyData)}, RpT K H vs ds → RpT K H' vs ds
  | _, _, .nil => .nil
  | _, _, .cons h r => .cons (Rp.lk s h) (RpT.lk s r)
end
theorem OwnV.lk {F F' : Hp} {d : PyData} (h : OwnV K F H a d) (s : SameL F F') (e : ∀ o, H a = some o → H' a = some o) : OwnV K F' H' a d := by
  cases d with
  | list ds => obtain ⟨vs, h1, h2⟩ := h; exact ⟨vs, e _ h1, h2.lk s⟩
  | dict ds => exact h.imp (fun ⟨vs, h1, h2⟩ => ⟨vs, e _ h1, h2.lk s⟩) (fun ⟨ts, es, z, h1, h2⟩ => ⟨ts, es, z, e _ h1, h2.lk s⟩)
  | _ => exact h.elim
end
theorem for_core {X : Cx} {W : WX} {own : List Nat} {js : List Nat} {gt : PyData → Vars → Option Vars} {g : Vars → Out} {tgt : TG} {tb : TS} {J : It} {ds : List PyData} (ok : GtOk js gt) (hj : ∀ j ∈ js, j ∉ own) (hin : GtIn js gt)
    (hgt : ∀ v d σ H O ρ ρ' Q, Stands O H → VRel X.K (hide O H) σ ρ → Rp X.K (hide O H) v d → gt d ρ = some ρ' → (∀ σ', VRel X.K (hide O H) σ' ρ' → σ'.length = σ.length → (∀ j : Nat, j ∉ js → σ'[j]? = σ[j]? ∧ ρ'[j]? = ρ[j]?) → Q σ' H) → tgt v σ H Q)
    (htb : ∀ σ H ρ D H0 O0 O, Rel X.K own H0 O0 O σ H ρ → SOut X W own H0 O0 O H D (g ρ) → tb D σ H) {H0 : HB} {O0 O : List Addr} {σ : L2.St} {H1 : Hp} {ρ : Vars} {D : Ends} (r : Rel X.K own H0 O0 O σ H1 ρ)
    (hJ : ∀ i H2 O2 σ2 ρ2, Rel X.K own H0 O0 O2 σ2 H2 ρ2 → Same (hide O H1) (hide O2 H2) → (∀ d, ds[i]? = some d → J.go i H2 ∧ ∀ x H', J.yld i H2 x H' → Same H2 H' ∧ Rp X.K (hide O2 H') x d) ∧ (ds.length ≤ i → J.stop i H2))
    (z : SOut X W own H0 O0 O H1 D (forL gt g ds ρ)) :
    ∃ W : Nat → Nat → L2.St → Hp → Prop, (∃ m, W 0 m σ H1) ∧ ∀ i m σ H, W i m σ H →
  (J.stop i H ∧ D.nx σ H) ∨ (J.go i H ∧ ∃ N : L2.St → Hp → Prop, (∀ σ' H', N σ' H' → ∃ m', m' < m ∧ W (i + 1) m' σ' H') ∧ ∀ x H', J.yld i H x H' → tgt x σ H' fun σ2 H2 => tb { D with nx := N, ct := N, bk := D.nx } σ2 H2) := by
    refine ⟨fun i m σ2 H2 => m = ds.length - i ∧ i ≤ ds.length ∧ ∃ O2 ρ2, Rel X.K own H0 O0 O2 σ2 H2 ρ2 ∧ Same (hide O H1) (hide O2 H2) ∧ SOut X W own H0 O0 O2 H2 D (forL gt g (ds.drop i) ρ2), ⟨ds.length, rfl, Nat.zero_le _, O, ρ, r, Same.refl _, z⟩, ?_⟩
    rintro i m σ2 H2 ⟨rfl, hle, O2, ρ2, r2, sF, z2⟩
    obtain ⟨j1, j2⟩ := hJ i H2 O2 σ2 ρ2 r2 sF
    by_cases hlt : i < ds.length
    · have hd : ds[i]? = some ds[i] := List.getElem?_eq_getElem hlt
      obtain ⟨g1, g2⟩ := j1 _ hd
      have hdrop : ds.drop i = ds[i] :: ds.drop (i + 1) := List.drop_eq_getElem_cons hlt
      rw [hdrop] at z2
      unfold forL at z2
      cases eg : gt ds[i] ρ2 with
      | none => rw [eg] at z2; exact z2.elim
      | some ρ3 =>
        rw [eg] at z2
        dsimp only at z2
        refine .inr ⟨g1, fun σ' H' => (i + 1 ≤ ds.length ∧ ∃ O2 ρ2, Rel X.K own H0 O0 O2 σ' H' ρ2 ∧ Same (hide O H1) (hide O2 H') ∧ SOut X W own H0 O0 O2 H' D (forL gt g (ds.drop (i + 1)) ρ2)),
          fun σ' H' hn => ⟨ds.length - (i + 1), by omega, rfl, hn.1, hn.2⟩, fun x H3 y => ?_⟩
        obtain ⟨s23, rx⟩ := g2 x H3 y
        have r3 := r2.step s23
        refine hgt x ds[i] σ2 H3 O2 (mask own ρ2) (mask own ρ3) _ r3.stands r3.vrelM rx (ok.msk own _ ρ2 ρ3 hj eg) fun σ3 v3 l3 f3 => ?_
        have r4 : Rel X.K own H0 O0 O2 σ3 H3 ρ3 := other_of ok hj r3 eg v3 l3 f3 (hin.out _ ρ2 ρ3 eg)
        have sF3 : Same (hide O H1) (hide O2 H3) := sF.trans (hide_same s23)
        refine htb σ3 H3 ρ3 _ H0 O0 O2 r4 ?_
        cases eb : g ρ3 with
        | nx ρ4 =>
          rw [eb] at z2
          exact fun σ5 H5 O5 r5 s5 => ⟨hlt, O5, ρ4, r5, sF3.trans s5, SOut.from z2 ((hide_same s23).trans s5)⟩
        | ct ρ4 =>
          rw [eb] at z2
          exact fun σ5 H5 O5 r5 s5 => ⟨hlt, O5, ρ4, r5, sF3.trans s5, SOut.from z2 ((hide_same s23).trans s5)⟩
        | bk ρ4 =>
          rw [eb] at z2
          exact fun σ5 H5 O5 r5 s5 => z2 σ5 H5 O5 r5 ((hide_same s23).trans s5)
        | rt d => rw [eb] at z2; exact RtW.from z2 (hide_same s23)
        | err c ρ4 =>
          rw [eb] at z2
          exact fun σ5 H5 O5 r5 s5 => z2 σ5 H5 O5 r5 ((hide_same s23).trans s5)
        | bad => rw [eb] at z2; exact z2
    · have e3 : i = ds.length := by omega
      subst e3
      refine .inl ⟨j2 (Nat.le_refl _), ?_⟩
      rw [List.drop_length] at z2
      exact z2 σ2 H2 O2 r2 (Same.refl _)
def itI (p : PyData × PyData) : PyData := .tuple [p.1, p.2]
def itV (p : PyData × PyData) : PyData := p.2
structure DWalk (K : PySem.W.Frag) (J : Addr → Obj → List (Key × V) → It) (it : PyData × PyData → PyData) : Prop where
  step : ∀ {d o kvs ds i F H O}, Rpd K F kvs ds → H d = some (.frz o (.dK kvs)) → Stands O H → Same F (hide O H) → (∀ e, (ds.map it)[i]? = some e → (J d o kvs).go i H ∧ ∀ x H', (J d o kvs).yld i H x H' → Same H H' ∧ Rp K (hide O H') x e) ∧ ((ds.map it).length ≤ i → (J d o kvs).stop i H)
theorem walkI {K : PySem.W.Frag} : DWalk K Iti itI := ⟨fun {d o kvs ds i F H O} r h hO s => by
  refine ⟨fun e he => ?_, fun l => ⟨h, by rw [List.length_map] at l; rw [r.length]; exact l⟩⟩
  rw [List.getElem?_map] at he
  obtain ⟨p, hp, rfl⟩ := Option.map_eq_some_iff.mp he
  obtain ⟨k, v, e1, e2, e3⟩ := r.get hp
  refine ⟨⟨h, (List.getElem?_eq_some_iff.mp e1).1⟩, fun x H' y => ?_⟩
  obtain ⟨T, k', v', f1, rfl, f3, rfl⟩ := y
  rw [e1] at f1
  cases f1
  refine ⟨same_new f3, new_rep hO f3 ?_⟩
  rw [e2]
  exact .cons (rp_kV k) (.cons (e3.mono s) .nil)⟩
theorem walkV {K : PySem.W.Frag} : DWalk K Itd itV := ⟨fun {d o kvs ds i F H O} r h hO s => by
  refine ⟨fun e he => ?_, fun l => ⟨h, by rw [List.length_map] at l; rw [r.length]; exact l⟩⟩
  rw [List.getElem?_map] at he
  obtain ⟨p, hp, rfl⟩ := Option.map_eq_some_iff.mp he
  obtain ⟨k, v, e1, e2, e3⟩ := r.get hp
  refine ⟨⟨h, (List.getElem?_eq_some_iff.mp e1).1⟩, fun x H' y => ?_⟩
  obtain ⟨rfl, k', f1⟩ := y
  rw [e1] at f1
  cases f1
  exact ⟨Same.refl _, e3.mono s⟩⟩
def tWalk (J : Addr → Obj → List (Key × V) → It) (td : TE) : TI := fun σ H R => td σ H fun x H1 => ∃ d o kvs, x = .ref d ∧ H1 d = some (.frz o (.dK kvs)) ∧ R (J d o kvs) H1
theorem hide_upd {O : List Addr} {H : Hp} {a : Addr} {o : HO} (ha : a ∈ O) : hide O (upd H a o) = hide O H := by
  funext b
  unfold hide
  by_cases c : b ∈ O
  · rw [if_pos c, if_pos c]
  · rw [if_neg c, if_neg c, upd_ne (fun z => c (by rw [z]; exact ha))]
section
variable {K : PySem.W.Frag} {own : List Nat} {H0 : HB} {O0 O : List Addr} {σ : L2.St} {H : Hp} {ρ : Vars}
end
end Pu
set_option Elab.async false
set_option linter.all false
set_option maxRecDepth 100000
set_option maxHeartbeats 4000000
namespace Pu
open PySem PySem.Spec PyProof.Rows L2
def lkB (H0 : HB) (a : Addr) (o : HO) : HB := ⟨fun b => if b = a then (match H0 a with
  | Option.none => Option.none
  | some _ => some o) else H0 b, H0.b⟩
theorem lkB_ne {H0 : HB} {a b : Addr} {o : HO} (n : b ≠ a) : lkB H0 a o b = H0 b := if_neg n
theorem lkB_at {H0 : HB} {a : Addr} {o u : HO} (h : H0 a = some u) : lkB H0 a o a = some o := by
  show (if a = a then _ else _) = _
  rw [if_pos rfl, h]
theorem lkB_no {H0 : HB} {a b : Addr} {o : HO} (h : H0 b = Option.none) : lkB H0 a o b = Option.none := by
  by_cases c : b = a
  · subst c
    show (if b = b then _ else _) = _
    rw [if_pos rfl, h]
  · rw [lkB_ne c]; exact h
theorem lkB_none {H0 : HB} {a b : Addr} {o : HO} (h : lkB H0 a o b = Option.none) : H0 b = Option.none := by
  by_cases c : b = a
  · subst c
    cases e : H0 b with
    | none => rfl
    | some u => rw [lkB_at e] at h; cases h
  · rw [lkB_ne c] at h; exact h
theorem lk_same {H : Hp} {a : Addr} {kvs : List (Key × V)} {od : Obj} (h : H a = some (.dK kvs)) : SameL H (upd H a (.frz od (.dK kvs))) := fun b o e => by
  by_cases c : b = a
  · subst c
    rw [h] at e; cases e
    exact ⟨_, upd_same, .inr ⟨kvs, od, .inl ⟨rfl, rfl⟩⟩⟩
  · exact ⟨o, by rw [upd_ne c]; exact e, .inl rfl⟩
theorem ulk_same {H : Hp} {a : Addr} {kvs : List (Key × V)} {od : Obj} (h : H a = some (.frz od (.dK kvs))) : SameL H (upd H a (.dK kvs)) := fun b o e => by
  by_cases c : b = a
  · subst c
    rw [h] at e; cases e
    exact ⟨_, upd_same, .inr ⟨kvs, od, .inr ⟨rfl, rfl⟩⟩⟩
  · exact ⟨o, by rw [upd_ne c]; exact e, .inl rfl⟩
theorem SameL.hide {O : List Addr} {H H' : Hp} (s : SameL H H') : SameL (hide O H) (hide O H') := fun a o h => by
  obtain ⟨c, e⟩ := hide_some h
  obtain ⟨o', e', z⟩ := s a o e
  exact ⟨o', hide_of c e', z⟩
section
variable {K : PySem.W.Frag} {own : List Nat} {H0 : HB} {O0 O : List Addr} {σ : L2.St} {H : Hp} {ρ : Vars} {a : Addr} {kvs : List (Key × V)} {od : Obj}
theorem Rel.lockP (r : Rel K own H0 O0 O σ H ρ) (na : a ∉ O) (h : H a = some (.dK kvs)) : Rel K own (lkB H0 a (.frz od (.dK kvs))) O0 O σ (upd H a (.frz od (.dK kvs))) ρ where
  same := fun b o e => by
    by_cases c : b = a
    · subst c
      rw [upd_same]
      cases q : H0 b with
      | none => rw [show (lkB H0 b _).h b = Option.none from lkB_no q] at e; cases e
      | some u => rw [show (lkB H0 b _).h b = _ from lkB_at q] at e; exact e
    · rw [upd_ne c]
      exact r.same b o (by rw [← lkB_ne c]; exact e)
  st0 := fun b hb => by
    obtain ⟨ob, q1, q2⟩ := r.st0 b hb
    have nb : b ≠ a := fun z => na (by rw [← z]; exact r.sub b hb)
    exact ⟨ob, by show lkB H0 a _ b = _; rw [lkB_ne nb]; exact q1, q2⟩
  len := r.len
  sub := r.sub
  lists := fun b hb => (r.lists b hb).imp id fun ⟨h1, o, h2, h3⟩ => ⟨lkB_no h1, o, by rw [upd_ne (show b ≠ a from fun z => na (by rw [← z]; exact hb))]; exact h2, h3⟩
  free := fun i d c e => by
    obtain ⟨v, h1, h2⟩ := r.free i d c e
    exact ⟨v, h1, h2.lk (lk_same h).hide⟩
  mine := fun i d c e => by
    obtain ⟨b, h1, h2, h3, h4⟩ := r.mine i d c e
    exact ⟨b, h1, h2, lkB_no h3, h4.lk (lk_same h).hide fun o ho => by rw [upd_ne (show b ≠ a from fun z => na (by rw [← z]; exact h2))]; exact ho⟩
  apart := r.apart
  bor := r.bor
  bord := r.bord
  mark := r.mark
theorem Rel.unlockP (r : Rel K own (lkB H0 a (.frz od (.dK kvs))) O0 O σ H ρ) (na : a ∉ O) (h : H a = some (.frz od (.dK kvs))) (h0 : ∀ u, H0 a = some u → u = .dK kvs) : Rel K own H0 O0 O σ (upd H a (.dK kvs)) ρ where
  same := fun b o e => by
    by_cases c : b = a
    · subst c
      rw [upd_same, h0 o e]
    · rw [upd_ne c]
      exact r.same b o (by show lkB H0 a _ b = _; rw [lkB_ne c]; exact e)
  st0 := fun b hb => by
    obtain ⟨ob, q1, q2⟩ := r.st0 b hb
    have q3 : lkB H0 a (.frz od (.dK kvs)) b = some ob := q1
    have nb : b ≠ a := fun z => na (by rw [← z]; exact r.sub b hb)
    rw [lkB_ne nb] at q3
    exact ⟨ob, q3, q2⟩
  len := r.len
  sub := r.sub
  lists := fun b hb => (r.lists b hb).imp id fun ⟨h1, o, h2, h3⟩ => ⟨lkB_none h1, o, by rw [upd_ne (show b ≠ a from fun z => na (by rw [← z]; exact hb))]; exact h2, h3⟩
  free := fun i d c e => by
    obtain ⟨v, h1, h2⟩ := r.free i d c e
    exact ⟨v, h1, h2.lk (ulk_same h).hide⟩
  mine := fun i d c e => by
    obtain ⟨b, h1, h2, h3, h4⟩ := r.mine i d c e
    exact ⟨b, h1, h2, lkB_none h3, h4.lk (ulk_same h).hide fun o ho => by rw [upd_ne (show b ≠ a from fun z => na (by rw [← z]; exact h2))]; exact ho⟩
  apart := r.apart
  bor := r.bor
  bord := r.bord
  mark := r.mark
end
theorem same_unlock {O O' : List Addr} {H H' : Hp} {a : Addr} {kvs : List (Key × V)} {od : Obj} (na : a ∉ O) (h : H a = some (.dK kvs)) (s : Same (hide O (upd H a (.frz od (.dK kvs)))) (hide O' H')) : a ∉ O' ∧ H' a = some (.frz od (.dK kvs)) ∧ Same (hide O H) (hide O' (upd H' a (.dK kvs))) := by
  have e := s a _ (hide_of na (upd_same (H := H) (a := a) (o := .frz od (.dK kvs))))
  obtain ⟨n, e'⟩ := hide_some e
  refine ⟨n, e', fun b o hb => ?_⟩
  obtain ⟨c, q⟩ := hide_some hb
  by_cases z : b = a
  · subst z
    rw [h] at q; cases q
    exact hide_of n upd_same
  · have := s b o (hide_of c (by rw [upd_ne z]; exact q))
    obtain ⟨c', q'⟩ := hide_some this
    exact hide_of c' (by rw [upd_ne z]; exact q')
def EXd (X : Cx) (e : Expr) (f : Vars → R PyData) : Prop :=
  ∃ t, PE X e t ∧ ∀ σ H O ρ d, VRel X.K (hide O H) σ ρ → f ρ = .ok d → ∃ v, Rp X.K (hide O H) v d ∧ ∀ H1 (Q : VK), SameL H H1 → Q v H1 → t σ H1 Q
theorem exd_var {X : Cx} (i : Nat) {x : Str} {pos : Pos} (hN : X.N[i]? = some x := by rfl) (hv : Vis X.env.scope x := by first | exact Or.inl rfl | exact Or.inr (Or.inl rfl) | exact Or.inr (Or.inr rfl)) (hd : (x == ("__debug__" : Str)) = false := by decide)
    (hcd : (x == ("__classdict__" : Str)) = false := by decide) : EXd X (.Name x pos) (eVar i) := by
  refine ⟨_, pe_var hN hv hd hcd, fun σ H O ρ d hr e => ?_⟩
  unfold eVar at e
  cases q : ρ.getD i Option.none with
  | none => rw [q] at e; cases e
  | some d' =>
    rw [q] at e
    cases e
    obtain ⟨v, h1, h2⟩ := hr.get i d (getD_some q)
    exact ⟨v, h2, fun H1 Q _ hq => ⟨v, h1, hq⟩⟩
@[simp] def sForDP (own : List Nat) (rr : Bool) (f : Vars → R PyData) (it : PyData × PyData → PyData) (gt : PyData → Vars → Option Vars) (g : Vars → Out) (ρ : Vars) : Out := match f (mask own ρ) with
  | .ok (.dict ds) => if insB ds = true then .bad else match forL gt g (ds.map it) ρ with
    | .nx ρ' => .nx ρ'
    | .rt d => if rr = true then .rt d else .bad
    | _ => .bad
  | _ => .bad
theorem sx_forDP {X : Cx} {W : WX} {own : List Nat} {tg iter e : Expr} {body : List Stmt} {js : List Nat} {f : Vars → R PyData} {gt : PyData → Vars → Option Vars} {g : Vars → Out} {J : Addr → Obj → List (Key × V) → It} {it : PyData × PyData → PyData} {pos : Pos} {rr : Bool}
    (w : DWalk X.K J it) (hp : PassesOwn (model X.prog X.w) X.A X.env X.xe) (hc : X.calm = true) (hpi : ∀ {td : TE}, PE X e td → PI X tg iter (tWalk J td)) (he : EXd X e f) (hr : rr = true → (own.all fun i => decide (i < 1000)) = true)
    (hg : GX X tg js gt) (hin : GtIn js gt) (ho : (js.all fun j => !own.contains j) = true) (hb : SsX X W0 own body g) (hs : ∀ x, foldedSetIterable iter X.env x = pure x := by intro _; rfl) :
    SX X W own (.For tg iter body [] pos) (sForDP own rr f it gt g) := by
  obtain ⟨td, pe, hte⟩ := he
  obtain ⟨ok, tgt, q, hgt⟩ := hg
  obtain ⟨tb, pb, htb⟩ := hb
  have hj : ∀ j ∈ js, j ∉ own := fun j h z => by
    have := List.all_eq_true.mp ho j h
    rw [List.contains_iff_mem.mpr z] at this; cases this
  have P := ps_for (pos := pos) hp hc (hpi pe) q pb hs
  refine ⟨fun D σ H => tLock (tFor (tWalk J td) tgt tb) D σ H ∨ tFor (tWalk J td) tgt tb D σ H, ⟨fun pins s σ H D I h => h.elim (fun h => (ps_lock P).run pins s σ H D I h) fun h => P.run pins s σ H D I h⟩, fun σ H ρ D H0 O0 O r z => ?_⟩
  unfold sForDP at z
  cases e1 : f (mask own ρ) with
  | bad => rw [e1] at z; exact z.elim
  | err c => rw [e1] at z; exact z.elim
  | ok dd =>
    rw [e1] at z
    cases dd with
    | dict ds =>
      dsimp only at z
      by_cases ib : insB ds = true
      · rw [if_pos ib] at z; exact z.elim
      rw [if_neg ib] at z
      obtain ⟨v, rv, hv⟩ := hte σ H O _ _ r.vrelM e1
      cases rv with
      | ins => exact absurd rfl ib
      | fn _ => exact absurd rfl ib
      | fn0 => exact absurd rfl ib
      | dct => exact absurd rfl ib
      | tpx => exact absurd rfl ib
      | @dic a kvs _ hd rd =>
        rcases hd with hd | ⟨od, hd⟩
        · obtain ⟨na, ha⟩ := hide_some hd
          refine .inl ⟨a, .dK kvs, ha, True.intro, fun od => ?_⟩
          refine hv _ _ (lk_same ha) ⟨a, od, kvs, rfl, upd_same, ?_⟩
          have r1 := r.lockP (od := od) na ha
          have h0 : ∀ u, H0 a = some u → u = .dK kvs := fun u hu => by
            have := r.same a u hu
            rw [ha] at this; cases this; rfl
          refine for_core (W := W0) (gt := gt) (g := g) (ds := ds.map it) ok hj hin hgt htb r1 (fun i H2 O2 σ2 ρ2 r2 sF => ?_) ?_
          · obtain ⟨_, h2, sF'⟩ := same_unlock na ha sF
            exact w.step (F := hide O (upd H a (.frz od (.dK kvs)))) (rd.lk (lk_same ha).hide) h2 r2.stands sF
          · cases eL : forL gt g (ds.map it) ρ with
            | nx ρ' =>
              rw [eL] at z
              intro σ' H' O' r' sF
              obtain ⟨n2, h2, sF'⟩ := same_unlock na ha sF
              exact ⟨h2, z σ' _ O' (r'.unlockP n2 h2 h0) sF'⟩
            | rt d =>
              rw [eL] at z
              dsimp only at z
              by_cases c : rr = true
              · rw [if_pos c] at z
                have hb0 := r.unlent (hr c)
                have z' := RtW.no hb0 z
                have hb1 : (lkB H0 a (.frz od (.dK kvs))).b = [] := hb0
                show RtW X.K (lkB H0 a _) O0 _ _ d
                unfold RtW
                rw [hb1]
                intro v H' O' s0 sF rv
                obtain ⟨n2, h2, sF'⟩ := same_unlock na ha sF
                refine ⟨h2, z' v _ O' (fun b o e => ?_) sF' (rv.lk (ulk_same h2).hide)⟩
                by_cases c2 : b = a
                · subst c2; rw [upd_same, h0 o e]
                · rw [upd_ne c2]
                  exact s0 b o (by show lkB H0 a _ b = _; rw [lkB_ne c2]; exact e)
              · rw [if_neg c] at z; exact z.elim
            | _ => rw [eL] at z; exact z.elim
        · obtain ⟨na, ha⟩ := hide_some hd
          refine .inr (hv _ _ (Same.l (Same.refl H)) ⟨a, od, kvs, rfl, ha, ?_⟩)
          refine for_core (W := W0) (gt := gt) (g := g) (ds := ds.map it) ok hj hin hgt htb r (fun i H2 O2 σ2 ρ2 r2 sF => ?_) ?_
          · exact w.step (F := hide O H) rd (hide_some (sF a _ hd)).2 r2.stands sF
          · cases eL : forL gt g (ds.map it) ρ with
            | nx ρ' => rw [eL] at z; exact z
            | rt d =>
              rw [eL] at z
              dsimp only at z
              by_cases c : rr = true
              · rw [if_pos c] at z; exact z
              · rw [if_neg c] at z; exact z.elim
            | _ => rw [eL] at z; exact z.elim
    | _ => exact z.elim
section
variable {X : Cx} {tg e : Expr} {td : TE} {apos cpos : Pos}
theorem pi_itemsD {elts : List Expr} {kk : Nat} {tpos : Pos} (he : PE X e td) (hbase : attributeBase e "items" X.env (eval e X.env) = eval e X.env := by rfl) (hline : (apos.endLine == cpos.line) = true := by rfl) :
    PI X (.Tuple elts kk tpos) (.Call (.Attribute e "items" apos) [] [] cpos) (tWalk Iti td) := pi_items he hbase hline
theorem pi_valuesD (he : PE X e td) (hbase : attributeBase e "values" X.env (eval e X.env) = eval e X.env := by rfl) (hline : (apos.endLine == cpos.line) = true := by rfl) : PI X tg (.Call (.Attribute e "values" apos) [] [] cpos) (tWalk Itd td) := pi_values he hbase hline
end
end Pu
set_option Elab.async false
set_option linter.all false
set_option maxRecDepth 100000
set_option maxHeartbeats 4000000
namespace Pu
open PySem PySem.Spec PyProof.Rows L2
def LtV (K : PySem.W.Frag) (F H : Hp) : List Bool → List V → List PyData → List Addr → Prop
  | [], [], [], [] => True
  | false :: ks, v :: vs, d :: ds, as => Rp K F v d ∧ LtV K F H ks vs ds as
  | true :: ks, v :: vs, d :: ds, a :: as => v = .ref a ∧ OwnV K F H a d ∧ LtV K F H ks vs ds as
  | _, _, _, _ => False
@[simp] def ltS : Nat → List Bool → List Nat
  | _, [] => []
  | i, true :: ks => i :: ltS (i + 1) ks
  | i, false :: ks => ltS (i + 1) ks
section
variable {K : PySem.W.Frag} {F H : Hp}
theorem LtV.len : ∀ {ks : List Bool} {vs : List V} {ds : List PyData} {as : List Addr}, LtV K F H ks vs ds as → vs.length = ks.length ∧ ds.length = ks.length ∧ as.length = (ltS 0 ks).length := by
  have key : ∀ {ks : List Bool} {vs : List V} {ds : List PyData} {as : List Addr} (o : Nat), LtV K F H ks vs ds as → vs.length = ks.length ∧ ds.length = ks.length ∧ as.length = (ltS o ks).length := by
    intro ks
    induction ks with
    | nil =>
      intro vs ds as o h
      match vs, ds, as, h with
      | [], [], [], _ => exact ⟨rfl, rfl, rfl⟩
    | cons k ks ih =>
      intro vs ds as o h
      match k, vs, ds, as, h with
      | false, v :: vs, d :: ds, as, h =>
        obtain ⟨h1, h2, h3⟩ := ih (o + 1) h.2
        exact ⟨by simp [h1], by simp [h2], h3⟩
      | true, v :: vs, d :: ds, a :: as, h =>
        obtain ⟨h1, h2, h3⟩ := ih (o + 1) h.2.2
        exact ⟨by simp [h1], by simp [h2], by show as.length + 1 = (ltS (o + 1) ks).length + 1; rw [h3]⟩
  intro ks vs ds as h
  exact key 0 h
theorem LtV.get (o : Nat) : ∀ {ks : List Bool} {vs : List V} {ds : List PyData} {as : List Addr}, LtV K F H ks vs ds as → ∀ (i : Nat) (d : PyData), ds[i]? = some d →
    (ks[i]? = some false → ∃ v, vs[i]? = some v ∧ Rp K F v d) ∧ (ks[i]? = some true → ∃ a, vs[i]? = some (.ref a) ∧ OwnV K F H a d ∧ (o + i, a) ∈ (ltS o ks).zip as) := by
  intro ks
  induction ks generalizing o with
  | nil =>
    intro vs ds as h i d hd
    match vs, ds, as, h with
    | [], [], [], _ => simp at hd
  | cons k ks ih =>
    intro vs ds as h i d hd
    match k, vs, ds, as, h with
    | false, v :: vs, e :: ds, as, h =>
      cases i with
      | zero => simp at hd; subst hd; exact ⟨fun _ => ⟨v, rfl, h.1⟩, fun z => by simp at z⟩
      | succ i =>
        obtain ⟨h1, h2⟩ := ih (o + 1) h.2 i d (by simpa using hd)
        refine ⟨fun z => ?_, fun z => ?_⟩
        · obtain ⟨w, e1, e2⟩ := h1 (by simpa using z); exact ⟨w, by simpa using e1, e2⟩
        · obtain ⟨a, e1, e2, e3⟩ := h2 (by simpa using z)
          exact ⟨a, by simpa using e1, e2, by rw [show o + (i + 1) = o + 1 + i by omega]; exact e3⟩
    | true, v :: vs, e :: ds, a :: as, h =>
      cases i with
      | zero => simp at hd; subst hd; exact ⟨fun z => by simp at z, fun _ => ⟨a, by rw [h.1]; rfl, h.2.1, by rw [Nat.add_zero]; exact List.mem_cons_self⟩⟩
      | succ i =>
        obtain ⟨h1, h2⟩ := ih (o + 1) h.2.2 i d (by simpa using hd)
        refine ⟨fun z => ?_, fun z => ?_⟩
        · obtain ⟨w, e1, e2⟩ := h1 (by simpa using z); exact ⟨w, by simpa using e1, e2⟩
        · obtain ⟨b, e1, e2, e3⟩ := h2 (by simpa using z)
          exact ⟨b, by simpa using e1, e2, by rw [show o + (i + 1) = o + 1 + i by omega]; exact List.mem_cons_of_mem _ e3⟩
end
section
variable {X : Cx} {W : WX} {own : List Nat}
end
section
variable (X : Cx) (E : XK)
def BOutP (H0 : HB) (O0 : List Addr) (Q : VK) : Out → Prop
  | .nx ρ => ∀ H', Same H0 H' → (∀ p ∈ H0.b, ∀ dd, ρ[p.1]? = some (some dd) → OwnV X.K (hide (H0.b.map (·.2) ++ O0) H') H' p.2 dd) → Q .non H'
  | .rt (.tuple [d1, .dict kvs]) => ∀ v H', Same H0 H' → Rp X.K (hide (H0.b.map (·.2) ++ O0) H') v d1 → (∀ p ∈ H0.b, ∀ dd, lkp kvs p.1 = some dd → OwnV X.K (hide (H0.b.map (·.2) ++ O0) H') H' p.2 dd) → Q v H'
  | .err c _ => ∀ H', Same H0 H' → (∀ p ∈ H0.b, ∃ o, H' p.2 = some o ∧ OwnO o) → E (exV X.mg c) none H'
  | _ => False
def BXP (own : List Nat) (sts : List Stmt) (g : Vars → Out) : Prop :=
  ∃ t, PSs X sts t ∧ ∀ σ H ρ Q H0 O0 O, Rel X.K own H0 O0 O σ H ρ → H0.b ≠ [] → (∀ p ∈ H0.b, H0 p.2 = none) → BOutP X E H0 O0 Q (g ρ) → t { nx := fun _ H' => Q .non H', rt := Q } σ H
end
section
variable {X : Cx} {E : XK} {own : List Nat}
theorem lent_own {H0 : HB} {O0 O : List Addr} {σ : L2.St} {H : Hp} {ρ : Vars} (r : Rel X.K own H0 O0 O σ H ρ) (hn : ∀ p ∈ H0.b, H0 p.2 = none) : ∀ p ∈ H0.b, ∃ o, H p.2 = some o ∧ OwnO o := fun p hp => by
  rcases r.lists p.2 (r.bor p hp).2.2.2 with h | ⟨_, h⟩
  · exact absurd h (r.notO0 (hn p hp))
  · exact h
theorem lent_sub {H0 : HB} {O0 O : List Addr} {σ : L2.St} {H : Hp} {ρ : Vars} (r : Rel X.K own H0 O0 O σ H ρ) : ∀ a ∈ H0.b.map (·.2) ++ O0, a ∈ O := fun a ha => by
  rcases List.mem_append.mp ha with h | h
  · obtain ⟨p, hp, rfl⟩ := List.mem_map.mp h
    exact (r.bor p hp).2.2.2
  · exact r.sub a h
theorem lent_at {H0 : HB} {O0 O : List Addr} {σ : L2.St} {H : Hp} {ρ : Vars} (r : Rel X.K own H0 O0 O σ H ρ) : ∀ p ∈ H0.b, ∀ dd, ρ[p.1]? = some (some dd) → OwnV X.K (hide (H0.b.map (·.2) ++ O0) H) H p.2 dd := fun p hp dd hd => by
  obtain ⟨b1, b2, b3, b4⟩ := r.bor p hp
  obtain ⟨a, h1, h2, h3, h4⟩ := r.mine p.1 dd b1 hd
  rw [b3] at h1
  injection h1 with h1; injection h1 with h1; injection h1 with h1
  subst h1
  exact h4.mono (hide_less (lent_sub r)) fun o ho => ho
theorem rt_of {H0 : HB} {O0 : List Addr} {F : Hp} {D : Ends} {d : PyData} (ne : H0.b ≠ []) (h : ∃ d1 kvs, d = .tuple [d1, .dict kvs] ∧ ∀ v H', Same H0 H' → Rp X.K (hide (H0.b.map (·.2) ++ O0) H') v d1 → (∀ p ∈ H0.b, ∀ dd, lkp kvs p.1 = some dd → OwnV X.K (hide (H0.b.map (·.2) ++ O0) H') H' p.2 dd) → D.rt v H') : RtW X.K H0 O0 F D d := by
  obtain ⟨d1, kvs, rfl, h⟩ := h
  unfold RtW
  cases e : H0.b with
  | nil => exact absurd e ne
  | cons b bs =>
    rw [e] at h
    exact fun v H' O' s0 _ rv ov => h v H' s0 rv ov
theorem BOutP.rt {H0 : HB} {O0 : List Addr} {Q : VK} {d : PyData} (z : BOutP X E H0 O0 Q (.rt d)) : ∃ d1 kvs, d = .tuple [d1, .dict kvs] ∧ ∀ v H', Same H0 H' → Rp X.K (hide (H0.b.map (·.2) ++ O0) H') v d1 → (∀ p ∈ H0.b, ∀ dd, lkp kvs p.1 = some dd → OwnV X.K (hide (H0.b.map (·.2) ++ O0) H') H' p.2 dd) → Q v H' := by
  unfold BOutP at z
  split at z
  · rename_i e; cases e
  · rename_i e; cases e; exact ⟨_, _, rfl, z⟩
  · rename_i e; cases e
  · exact z.elim
theorem BXP.of {sts : List Stmt} {g : Vars → Out} (h : SsX X (WD E) own sts g) : BXP X E own sts g := by
  obtain ⟨t, p, ht⟩ := h
  refine ⟨t, p, fun σ H ρ Q H0 O0 O r ne hn z => ht σ H ρ _ H0 O0 O r ?_⟩
  cases e : g ρ with
  | nx ρ' => rw [e] at z; exact fun σ' H' O' r' s' => z H' r'.same (lent_at r')
  | rt d => rw [e] at z; exact rt_of ne z.rt
  | err c ρ' => rw [e] at z; exact fun σ' H' O' r' s' => z H' r'.same (lent_own r' hn)
  | bk _ => rw [e] at z; exact z.elim
  | ct _ => rw [e] at z; exact z.elim
  | bad => rw [e] at z; exact z.elim
theorem BXP.cons {st : Stmt} {rest : List Stmt} {g h : Vars → Out} {own' : List Nat} (a : SX X (WD E) own st g) (b : BXP X E own' rest h) (ho : (own'.all fun i => own.contains i) = true) (hk : keepB own own' = true := by rfl) : BXP X E own (st :: rest) (sSeq g h) := by
  obtain ⟨t, p, ht⟩ := a
  obtain ⟨u, q, hu⟩ := b
  refine ⟨_, pss_cons p q, fun σ H ρ Q H0 O0 O r ne hn z => ht σ H ρ _ H0 O0 O r ?_⟩
  unfold sSeq at z
  cases e : g ρ with
  | nx ρ1 =>
    rw [e] at z
    intro σ1 H1 O1 r1 s1
    obtain ⟨O2, r2, _⟩ := r1.freeze (own' := own') (fun i hi => List.contains_iff_mem.mp (List.all_eq_true.mp ho i hi)) (r1.keep hk)
    exact hu σ1 H1 ρ1 Q H0 O0 O2 r2 ne hn z
  | rt d => rw [e] at z; exact rt_of ne (BOutP.rt z)
  | err c ρ' => rw [e] at z; exact fun σ' H' O' r' s' => z H' r'.same (lent_own r' hn)
  | bk _ => rw [e] at z; exact z.elim
  | ct _ => rw [e] at z; exact z.elim
  | bad => rw [e] at z; exact z.elim
end
section
variable {P : Program} {w : World} {K : PySem.W.Frag} {mg : Str → Option Value} {base : Heap}
end
end Pu
set_option Elab.async false
set_option linter.all false
set_option maxRecDepth 100000
set_option maxHeartbeats 4000000
namespace Pu
open PySem PySem.Spec PyProof.Rows L2
inductive RE where
  | ok (d : PyData) (ρ : Vars) | err (c : Str) (ρ : Vars) | bad
inductive RA where
  | ok (ds : List PyData) (ρ : Vars) | err (c : Str) (ρ : Vars) | bad
@[simp] def RE.then (r : RE) (k : PyData → Vars → RE) : RE := match r with
  | .ok d ρ => k d ρ
  | .err c ρ => .err c ρ
  | .bad => .bad
@[simp] def RA.then (r : RA) (k : List PyData → Vars → RE) : RE := match r with
  | .ok d ρ => k d ρ
  | .err c ρ => .err c ρ
  | .bad => .bad
@[simp] def RE.run (r : RE) (k : PyData → Vars → Out) : Out := match r with
  | .ok d ρ => k d ρ
  | .err c ρ => .err c ρ
  | .bad => .bad
@[simp] def RA.run (r : RA) (k : List PyData → Vars → Out) : Out := match r with
  | .ok d ρ => k d ρ
  | .err c ρ => .err c ρ
  | .bad => .bad
section
variable (X : Cx) (W : WX) (own : List Nat)
def EE (H0 : HB) (O0 O : List Addr) (σ : L2.St) (H : Hp) (Q : VK) : RE → Prop
  | .ok d ρ => ∀ v H' O', Rel X.K own H0 O0 O' σ H' ρ → Same (hide O H) (hide O' H') → Rp X.K (hide O' H') v d → Q v H'
  | .err c ρ => ∀ H' O', Rel X.K own H0 O0 O' σ H' ρ → Same (hide O H) (hide O' H') → W (exV X.mg c) none σ H'
  | .bad => False
def AA (H0 : HB) (O0 O : List Addr) (σ : L2.St) (H : Hp) (Q : List V → Hp → Prop) : RA → Prop
  | .ok ds ρ => ∀ vs H' O', Rel X.K own H0 O0 O' σ H' ρ → Same (hide O H) (hide O' H') → Rps X.K (hide O' H') vs ds → Q vs H'
  | .err c ρ => ∀ H' O', Rel X.K own H0 O0 O' σ H' ρ → Same (hide O H) (hide O' H') → W (exV X.mg c) none σ H'
  | .bad => False
end
section
variable {X : Cx} {W : WX} {own : List Nat}
theorem EE.from {H0 : HB} {O0 O O' : List Addr} {σ : L2.St} {H H' : Hp} {Q : VK} {r : RE} (z : EE X W own H0 O0 O σ H Q r) (s : Same (hide O H) (hide O' H')) : EE X W own H0 O0 O' σ H' Q r := by
  cases r with
  | ok d ρ => exact fun v H2 O2 r s2 rv => z v H2 O2 r (s.trans s2) rv
  | err c ρ => exact fun H2 O2 r s2 => z H2 O2 r (s.trans s2)
  | bad => exact z
theorem AA.from {H0 : HB} {O0 O O' : List Addr} {σ : L2.St} {H H' : Hp} {Q : List V → Hp → Prop} {r : RA} (z : AA X W own H0 O0 O σ H Q r) (s : Same (hide O H) (hide O' H')) : AA X W own H0 O0 O' σ H' Q r := by
  cases r with
  | ok d ρ => exact fun v H2 O2 r s2 rv => z v H2 O2 r (s.trans s2) rv
  | err c ρ => exact fun H2 O2 r s2 => z H2 O2 r (s.trans s2)
  | bad => exact z
end
end Pu
set_option Elab.async false
set_option linter.all false
set_option maxRecDepth 100000
set_option maxHeartbeats 4000000
namespace Pu
open PySem PySem.Spec PyProof.Rows L2
def SlA (σ : L2.St) (ρ : Vars) : List Nat → List Addr → Prop
  | [], [] => True
  | io :: ls, a :: as => σ[io]? = some (some (.ref a)) ∧ (∃ d, ρ[io]? = some (some d)) ∧ SlA σ ρ ls as
  | _, _ => False
theorem LtV.mono {K : PySem.W.Frag} {F F' H H' : Hp} (s : Same F F') (e : Same H H') : ∀ {ks : List Bool} {vs : List V} {ds : List PyData} {as : List Addr}, LtV K F H ks vs ds as → LtV K F' H' ks vs ds as := by
  intro ks
  induction ks with
  | nil => intro vs ds as h; match vs, ds, as, h with | [], [], [], _ => trivial
  | cons k ks ih =>
    intro vs ds as h
    match k, vs, ds, as, h with
    | false, v :: vs, d :: ds, as, h => exact ⟨h.1.mono s, ih h.2⟩
    | true, v :: vs, d :: ds, a :: as, h => exact ⟨h.1, h.2.1.mono s (e a), ih h.2.2⟩
section
variable {X : Cx} {W : WX} {own : List Nat}
end
theorem SlA.at_ {σ : L2.St} {ρ : Vars} : ∀ {ls : List Nat} {as : List Addr}, SlA σ ρ ls as → (∀ a ∈ as, ∃ io ∈ ls, σ[io]? = some (some (.ref a)) ∧ ∃ d, ρ[io]? = some (some d)) ∧ ∀ io ∈ ls, ∃ a ∈ as, σ[io]? = some (some (.ref a)) ∧ ∃ d, ρ[io]? = some (some d)
  | [], [], _ => ⟨fun _ h => (by cases h), fun _ h => (by cases h)⟩
  | [], _ :: _, h => h.elim
  | _ :: _, [], h => h.elim
  | io :: ls, a :: as, h => by
    obtain ⟨h1, h2⟩ := h.2.2.at_
    refine ⟨fun b hb => ?_, fun i hi => ?_⟩
    · rcases List.mem_cons.mp hb with z | z
      · subst z; exact ⟨io, List.mem_cons_self, h.1, h.2.1⟩
      · obtain ⟨j, k1, k2⟩ := h1 b z; exact ⟨j, List.mem_cons_of_mem _ k1, k2⟩
    · rcases List.mem_cons.mp hi with z | z
      · subst z; exact ⟨a, List.mem_cons_self, h.1, h.2.1⟩
      · obtain ⟨j, k1, k2⟩ := h2 i z; exact ⟨j, List.mem_cons_of_mem _ k1, k2⟩
section
variable {K : PySem.W.Frag} {own : List Nat} {H0 : HB} {O0 O : List Addr} {σ : L2.St} {H H' : Hp} {ρ ρ' : Vars} {ls : List Nat} {as : List Addr}
end
section
variable {X : Cx} {W : WX} {own : List Nat}
end
section
variable {P : Program} {w : World} {K : PySem.W.Frag} {mg : Str → Option Value} {base : Heap}
end
end Pu
set_option Elab.async false
set_option linter.all false
set_option maxRecDepth 100000
set_option maxHeartbeats 4000000
namespace Pu
open PySem PySem.Spec PyProof.Rows L2
def putFD (f : Str) (d : PyData) : List (PyData × PyData) → List (PyData × PyData)
  | [] => [(.str f, d)]
  | (k, x) :: r => if keyD k = some (.inr f) then (k, d) :: r else (k, x) :: putFD f d r
theorem rpd_putF {K : PySem.W.Frag} {F : Hp} {f : Str} {v : V} {d : PyData} (h : Rp K F v d) : ∀ {fs : List (Str × V)} {ds : List (PyData × PyData)}, Rpd K F (fK fs) ds → Rpd K F (fK (putF f v fs)) (putFD f d ds)
  | [], _, .nil => .cons (k := .inr f) h .nil
  | (g, w) :: r, _, .cons (d := e) (ds := ds) hw hr => by
    unfold putF putFD
    rw [keyD_kD]
    by_cases c : g = f
    · subst c
      rw [if_pos rfl, if_pos rfl]
      exact .cons (k := .inr g) h hr
    · rw [if_neg c, if_neg (fun z => c (by cases z; rfl))]
      exact .cons (k := .inr g) hw (rpd_putF h hr)
section
variable {X : Cx} {W : WX} {own : List Nat}
end
section
variable {X : Cx} {W : WX} {own : List Nat}
end
end Pu
set_option Elab.async false
set_option linter.all false
set_option maxRecDepth 100000
set_option maxHeartbeats 4000000
namespace Pu
open PySem PySem.Spec PyProof.Rows L2
def CpV (K : PySem.W.Frag) (F H : Hp) (v : V) (d : PyData) : Prop := ∃ a xs ds, v = .ref a ∧ d = .list ds ∧ SqL K H a xs ∧ Rps K F xs ds
def CpA (K : PySem.W.Frag) (F H : Hp) : List Bool → List V → List PyData → Prop
  | [], [], [] => True
  | false :: ks, v :: vs, d :: ds => Rp K F v d ∧ CpA K F H ks vs ds
  | true :: ks, v :: vs, d :: ds => CpV K F H v d ∧ CpA K F H ks vs ds
  | _, _, _ => False
theorem CpA.len {K : PySem.W.Frag} {F H : Hp} : ∀ {ks : List Bool} {vs : List V} {ds : List PyData}, CpA K F H ks vs ds → vs.length = ks.length ∧ ds.length = ks.length := by
  intro ks
  induction ks with
  | nil => intro vs ds h; match vs, ds, h with | [], [], _ => exact ⟨rfl, rfl⟩
  | cons k ks ih =>
    intro vs ds h
    match k, vs, ds, h with
    | false, v :: vs, d :: ds, h => have := ih h.2; exact ⟨by simp [this.1], by simp [this.2]⟩
    | true, v :: vs, d :: ds, h => have := ih h.2; exact ⟨by simp [this.1], by simp [this.2]⟩
theorem CpA.get {K : PySem.W.Frag} {F H : Hp} : ∀ {ks : List Bool} {vs : List V} {ds : List PyData}, CpA K F H ks vs ds → ∀ (i : Nat) (d : PyData), ds[i]? = some d → (ks[i]? = some false → ∃ v, vs[i]? = some v ∧ Rp K F v d) ∧ (ks[i]? = some true → ∃ v, vs[i]? = some v ∧ CpV K F H v d) := by
  intro ks
  induction ks with
  | nil => intro vs ds h i d hd; match vs, ds, h with | [], [], _ => simp at hd
  | cons k ks ih =>
    intro vs ds h i d hd
    match k, vs, ds, h with
    | false, v :: vs, e :: ds, h =>
      cases i with
      | zero => simp at hd; subst hd; exact ⟨fun _ => ⟨v, rfl, h.1⟩, fun z => by simp at z⟩
      | succ i =>
        obtain ⟨h1, h2⟩ := ih h.2 i d (by simpa using hd)
        exact ⟨fun z => by simpa using h1 (by simpa using z), fun z => by simpa using h2 (by simpa using z)⟩
    | true, v :: vs, e :: ds, h =>
      cases i with
      | zero => simp at hd; subst hd; exact ⟨fun z => by simp at z, fun _ => ⟨v, rfl, h.1⟩⟩
      | succ i =>
        obtain ⟨h1, h2⟩ := ih h.2 i d (by simpa using hd)
        exact ⟨fun z => by simpa using h1 (by simpa using z), fun z => by simpa using h2 (by simpa using z)⟩
theorem CpA.mono {K : PySem.W.Frag} {F F' H H' : Hp} (s : Same F F') (e : Same H H') : ∀ {ks : List Bool} {vs : List V} {ds : List PyData}, CpA K F H ks vs ds → CpA K F' H' ks vs ds := by
  intro ks
  induction ks with
  | nil => intro vs ds h; match vs, ds, h with | [], [], _ => trivial
  | cons k ks ih =>
    intro vs ds h
    match k, vs, ds, h with
    | false, v :: vs, d :: ds, h => exact ⟨h.1.mono s, ih h.2⟩
    | true, v :: vs, d :: ds, h =>
      obtain ⟨⟨a, xs, es, h1, h2, h3, h4⟩, h5⟩ := h
      exact ⟨⟨a, xs, es, h1, h2, seqL e h3, h4.mono s⟩, ih h5⟩
structure RelI (K : PySem.W.Frag) (O : List Addr) (a C dx : Addr) (σ : L2.St) (H : Hp) (ρ γ : Vars) (fs : List (Str × V)) (dfs : List (PyData × PyData)) : Prop where
  self : σ[0]? = some (some (.ref a))
  ao : a ∈ O
  st : Stands O H
  at_ : H a = some (.ins C dx fs)
  vr : VRel K (hide O H) σ ρ
  cp : ∀ (i : Nat) (d : PyData), γ[i]? = some (some d) → ∃ v, σ[i]? = some (some v) ∧ CpV K (hide O H) H v d
  fd : Rpd K (hide O H) (fK fs) dfs
section
variable {X : Cx} {cs : List Str} {E : XK} {m : Nat}
theorem RelI.put {K : PySem.W.Frag} {O : List Addr} {a C dx : Addr} {σ : L2.St} {H H1 : Hp} {ρ γ : Vars} {fs : List (Str × V)} {dfs : List (PyData × PyData)} (r : RelI K O a C dx σ H ρ γ fs dfs) (s : Same H H1) {f : Str} {v : V} {d : PyData} (h : Rp K (hide O H1) v d) : RelI K O a C dx σ (upd H1 a (.ins C dx (putF f v fs))) ρ γ (putF f v fs) (putFD f d dfs) where
  self := r.self
  ao := r.ao
  st := fun b hb => by
    by_cases c : b = a
    · subst c; exact ⟨_, upd_same, fun xs z => nomatch z⟩
    · rw [upd_ne c]; exact (r.st.same s) b hb
  at_ := upd_same
  vr := by rw [hide_upd r.ao]; exact r.vr.mono (hide_same s)
  cp := fun i e hi => by
    obtain ⟨w, h1, b, xs, ds, h2, h3, h4, h5⟩ := r.cp i e hi
    refine ⟨w, h1, b, xs, ds, h2, h3, ?_, by rw [hide_upd r.ao]; exact h5.mono (hide_same s)⟩
    have h6 := seqL s h4
    rcases h6 with h6 | h6
    · have n : b ≠ a := fun z => by
        have ha := s _ _ r.at_
        rw [← z] at ha
        rcases h6 with h6 | ⟨o, h6⟩ <;> rw [ha] at h6 <;> cases h6
      rcases h6 with h6 | ⟨o, h6⟩
      · exact .inl (.inl (by rw [upd_ne n]; exact h6))
      · exact .inl (.inr ⟨o, by rw [upd_ne n]; exact h6⟩)
    · exact .inr h6
  fd := by rw [hide_upd r.ao]; exact rpd_putF h (r.fd.mono (hide_same s))
end
section
variable {P : Program} {w : World} {K : PySem.W.Frag} {mg : Str → Option Value} {base : Heap}
end
section
variable {X : Cx} {W : WX} {own : List Nat}
end
end Pu
set_option Elab.async false
set_option linter.all false
set_option maxRecDepth 100000
set_option maxHeartbeats 4000000
namespace Pu
open PySem PySem.Spec PyProof.Rows L2
section
variable {P : Program} {w : World} {K : PySem.W.Frag} {mg : Str → Option Value} {base : Heap}
end
end Pu
set_option Elab.async false
set_option linter.all false
set_option maxRecDepth 100000
set_option maxHeartbeats 4000000
namespace Pu
open PySem PySem.Spec PyProof.Rows L2
section
variable {X : Cx} {W : WX} {own : List Nat}
end
end Pu
set_option Elab.async false
set_option linter.all false
set_option maxRecDepth 100000
set_option maxHeartbeats 4000000
namespace Pu
open PySem PySem.Spec PyProof.Rows L2
section
variable {X : Cx} {cs : List Str} {E : XK} {m : Nat}
end
section
variable {P : Program} {w : World} {K : PySem.W.Frag} {mg : Str → Option Value} {base : Heap}
end
end Pu
set_option Elab.async false
set_option linter.all false
set_option maxRecDepth 100000
set_option maxHeartbeats 4000000
namespace Pu
open PySem PySem.Spec PyProof.Rows L2 SeqAt MeetsSeq
section
variable {P : Program} {w : World}
end
inductive Prd (F : V → V → Prop) : List V → List V → Prop where
  | nil : Prd F [] []
  | cons {x y xs ys} : F x y → Prd F xs ys → Prd F (x :: xs) (y :: ys)
theorem Prd.len {F : V → V → Prop} {xs ys : List V} (h : Prd F xs ys) : xs.length = ys.length := by
  induction h with
  | nil => rfl
  | cons _ _ ih => simp [ih]
section
variable {X : Cx} {pins : List (Addr × Obj)} {σ : L2.St} {H : Hp} {s : Shared}
end
end Pu
set_option Elab.async false
set_option linter.all false
set_option maxRecDepth 100000
set_option maxHeartbeats 4000000
namespace Pu
open PySem PySem.Spec PyProof.Rows L2
end Pu
set_option Elab.async false
set_option linter.all false
set_option maxRecDepth 100000
set_option maxHeartbeats 4000000
namespace Pu
open PySem PySem.Spec PyProof.Rows L2
section
variable {X : Cx} {W : WX}
end
end Pu
set_option Elab.async false
set_option linter.all false
set_option maxRecDepth 100000
set_option maxHeartbeats 4000000
namespace Pu
open PySem PySem.Spec PyProof.Rows L2
inductive KTs (X : Cx) : List Expr → List (List (Str × Bool)) → Prop
  | nil : KTs X [] []
  | cons {y : Str} {l : List (Str × Bool)} {p : Pos} {es : List Expr} {ls : List (List (Str × Bool))} (F : KitY X.K X.mg y l) (gY : Gl X y) (dY : (y == ("__debug__" : Str)) = false) (hs : starEach (.Name y p :: es) X.env = (false, eval (.Name y p) X.env) :: starEach es X.env) (r : KTs X es ls) : KTs X (.Name y p :: es) (l :: ls)
def anyT : List (List (Str × Bool)) → Str → Option Bool
  | [], _ => some false
  | l :: ls, c => match tabL l c with
    | some true => some true
    | some false => anyT ls c
    | none => none
theorem KTs.pa {X : Cx} {a : Addr} {pn : List (Addr × Obj)} : ∀ {es : List Expr} {ls : List (List (Str × Bool))}, KTs X es ls → ∃ (cs : List Addr) (t : TA), cs.length = es.length ∧ PA (X.suite a pn) es t ∧ (∀ σ H (Q : List V → Hp → Prop), Q (cs.map V.ref) H → t σ H Q) ∧ ∀ (c : Str) (C : Addr) (b : Bool), X.mg c = some (.ref C) → anyT ls c = some b → PySem.W.kitAny X.K (.ref C) (cs.map Value.ref) = some b := by
  intro es ls h
  induction h with
  | nil => exact ⟨[], _, rfl, pa_nil, fun σ H Q q => q, fun c C b _ e => by cases e; rfl⟩
  | @cons y l p es ls F gY dY hs r ih =>
    obtain ⟨cs, t, h0, h1, h2, h3⟩ := ih
    obtain ⟨CY, hy, hF⟩ := F
    refine ⟨CY :: cs, _, by simp [h0], pa_cons (pe_glob (X := X.suite a pn) (v := .ref CY) gY hy rfl dY) h1 hs, fun σ H Q q => h2 _ _ _ q, fun c C b hc e => ?_⟩
    unfold anyT at e
    cases ht : tabL l c with
    | none => rw [ht] at e; cases e
    | some d =>
      obtain ⟨C', hC', _, hk⟩ := hF c d ht
      rw [hc] at hC'
      cases hC'
      show (match PySem.W.kitOne X.K (.ref C) (.ref CY) with | some true => some true | some false => PySem.W.kitAny X.K (.ref C) (cs.map Value.ref) | none => none) = some b
      rw [hk]
      rw [ht] at e
      cases d with
      | true => exact e
      | false => exact h3 c C b hc e
section
variable {X : Cx} {ie : Nat} {c : Str}
end
def HOut (X : Cx) (own : List Nat) (ie : Nat) (a : Addr) (H0 : HB) (O0 O : List Addr) (H : Hp) (D : Ends) : R Vars → Prop
  | .ok ρ' => ∀ σ' H', Rel X.K own H0 O0 O σ' H' ρ' → Same H H' → σ'[ie]? = some (some (.ref a)) → D.nx σ' H'
  | _ => False
theorem HOut.from {X : Cx} {own : List Nat} {ie : Nat} {a : Addr} {H0 : HB} {O0 O : List Addr} {H H1 : Hp} {D : Ends} {r : R Vars} (z : HOut X own ie a H0 O0 O H D r) (s : Same H H1) : HOut X own ie a H0 O0 O H1 D r := by
  cases r with
  | ok ρ' => exact fun σ' H' r' s' => z σ' H' r' (s.trans s')
  | err _ => exact z
  | bad => exact z
section
variable {X : Cx} {own : List Nat} {ie : Nat} {c : Str}
end
section
variable {X : Cx} {W : WX} {own : List Nat}
end
end Pu
set_option Elab.async false
set_option linter.all false
set_option maxRecDepth 100000
set_option maxHeartbeats 4000000
namespace Pu
open PySem PySem.Spec PyProof.Rows L2
section
variable {X : Cx} {W : WX} {pos : Pos}
end
end Pu
set_option Elab.async false
set_option linter.all false
set_option maxRecDepth 100000
set_option maxHeartbeats 4000000
namespace Pu
open PySem PySem.Spec PyProof.Rows L2
section
variable {P : Program} {w : World} {K : PySem.W.Frag} {mg : Str → Option Value} {base : Heap}
end
section
variable {X : Cx} {ie : Nat} {c : Str}
end
end Pu
set_option Elab.async false
set_option linter.all false
set_option maxRecDepth 100000
set_option maxHeartbeats 4000000
namespace Pu
open PySem PySem.Spec PyProof.Rows L2
def ExcT (C a : Addr) : HO := .ext fun h => ∃ oe : Obj, h.get? a = some oe ∧ Zc (.ref C) none oe ∧ ∃ vs, oe.data = .fields vs
section
variable {X : Cx} {pins : List (Addr × Obj)} {σ : L2.St} {H : Hp} {s : Shared}
end
section
variable {X : Cx} {x n : Str} {c : Value} {i : Nat} {body suite : List Stmt} {b₀ : Stmt} {np pos pos' : Pos} {tb : WX → TS} {ts : Addr → Addr → TS}
end
end Pu
set_option Elab.async false
set_option linter.all false
set_option maxRecDepth 100000
set_option maxHeartbeats 4000000
namespace Pu
open PySem PySem.Spec PyProof.Rows L2
def TXK (X : Cx) (W : WX) (ie : Nat) (c : Str) (e : Expr) (f : Vars → R Bool) : Prop := ∀ (a C : Addr), X.mg c = some (.ref C) →
  ∃ t, PT X e t ∧ ∀ σ H O ρ (Q : Bool → Hp → Prop), σ[ie]? = some (some (.ref a)) → H a = some (ExcT C a) → Stands O H → VRel X.K (hide O H) σ ρ → TOut X W σ H Q (f ρ) → t σ H Q
section
variable {X : Cx} {W : WX} {ie : Nat} {c : Str}
end
end Pu
set_option Elab.async false
set_option linter.all false
set_option maxRecDepth 100000
set_option maxHeartbeats 4000000
namespace Pu
open PySem PySem.Spec PyProof.Rows L2
def WXK (X : Cx) (W : WX) (ie : Nat) (c : Str) (e : Expr) (f : Vars → R Bool) : Prop := ∀ (a C : Addr), X.mg c = some (.ref C) →
  ∃ t, PW X e t ∧ ∀ σ H O ρ (Q : Bool → Hp → Prop), σ[ie]? = some (some (.ref a)) → H a = some (ExcT C a) → Stands O H → VRel X.K (hide O H) σ ρ → TOut X W σ H Q (f ρ) → t σ H Q
section
variable {X : Cx} {W : WX} {ie : Nat} {c : Str}
theorem WXK.tx {e : Expr} {f : Vars → R Bool} (h : WXK X W ie c e f) : TXK X W ie c e f := fun ad C hC => by
  obtain ⟨t, p, ht⟩ := h ad C hC
  exact ⟨_, p.pt, ht⟩
end
def KOut (K : PySem.W.Frag) (O0 : List Addr) (H : Hp) (D : Ends) : R PyData → Prop
  | .ok d => ∀ v H', Same H H' → Rp K (hide O0 H') v d → D.rt v H'
  | _ => False
theorem KOut.from {K : PySem.W.Frag} {O0 : List Addr} {H H1 : Hp} {D : Ends} {r : R PyData} (z : KOut K O0 H D r) (s : Same H H1) : KOut K O0 H1 D r := by
  cases r with
  | ok d => exact fun v H' s' rv => z v H' (s.trans s') rv
  | err _ => exact z
  | bad => exact z
section
variable {X : Cx} {ie : Nat} {c : Str}
end
end Pu
set_option Elab.async false
set_option linter.all false
set_option maxRecDepth 100000
set_option maxHeartbeats 4000000
namespace Pu
open PySem PySem.Spec PyProof.Rows L2
section
variable {X : Cx}
end
end Pu
set_option Elab.async false
set_option linter.all false
set_option maxRecDepth 100000
set_option maxHeartbeats 4000000
namespace Pu
open PySem PySem.Spec PyProof.Rows L2
end Pu
set_option Elab.async false
set_option linter.all false
set_option maxRecDepth 100000
set_option maxHeartbeats 4000000
namespace Pu
open PySem PySem.Spec PyProof.Rows L2
inductive RB where
  | ok (b : Bool) (ρ : Vars) | err (c : Str) (ρ : Vars) | bad
@[simp] def RB.then (r : RB) (k : Bool → Vars → RB) : RB := match r with
  | .ok b ρ => k b ρ
  | .err c ρ => .err c ρ
  | .bad => .bad
@[simp] def RB.run (r : RB) (k : Bool → Vars → Out) : Out := match r with
  | .ok b ρ => k b ρ
  | .err c ρ => .err c ρ
  | .bad => .bad
section
variable (X : Cx) (W : WX) (own : List Nat)
def BB (H0 : HB) (O0 O : List Addr) (σ : L2.St) (H : Hp) (Q : Bool → Hp → Prop) : RB → Prop
  | .ok b ρ => ∀ H' O', Rel X.K own H0 O0 O' σ H' ρ → Same (hide O H) (hide O' H') → Q b H'
  | .err c ρ => ∀ H' O', Rel X.K own H0 O0 O' σ H' ρ → Same (hide O H) (hide O' H') → W (exV X.mg c) none σ H'
  | .bad => False
end
section
variable {X : Cx} {W : WX} {own : List Nat}
theorem BB.from {H0 : HB} {O0 O O' : List Addr} {σ : L2.St} {H H' : Hp} {Q : Bool → Hp → Prop} {r : RB} (z : BB X W own H0 O0 O σ H Q r) (s : Same (hide O H) (hide O' H')) : BB X W own H0 O0 O' σ H' Q r := by
  cases r with
  | ok d ρ => exact fun H2 O2 r s2 => z H2 O2 r (s.trans s2)
  | err c ρ => exact fun H2 O2 r s2 => z H2 O2 r (s.trans s2)
  | bad => exact z
end
end Pu
set_option Elab.async false
set_option linter.all false
set_option maxRecDepth 100000
set_option maxHeartbeats 4000000
namespace Pu
open PySem PySem.Spec PyProof.Rows L2
structure Hf where
  f : Addr
  fd : FuncData
  cl : List (Str × Addr)
  fr : List Str
  ws : List (Option V)
structure Held (p : Hf) (h : Heap) (H : Hp) : Prop where
  no : H p.f = Option.none
  at_ : ∃ od sl, h.get? p.f = some (⟨.type "function", od, .func p.fd, sl⟩ : Obj)
  cells : NdefX.CellsAt p.cl p.fr p.ws h H
theorem Held.later {X : Cx} {p : Hf} {pins : List (Addr × Obj)} {σ : L2.St} {H : Hp} {s : Shared} (h : Held p X.s_0.heap X.H_0) (hx : X.ex = []) (I : Inv X pins σ H s) : Held p s.heap H := by
  have nx : ∀ b : Addr, b ∉ X.ex := fun b z => by rw [hx] at z; cases z
  have kp : ∀ c v, X.s_0.heap.IsCell c v → X.H_0 c = Option.none → s.heap.IsCell c v := fun c v ⟨o, ho, hd⟩ n => by
    obtain ⟨sl, q⟩ := I.base.any ho n (nx c)
    exact ⟨_, q, hd⟩
  obtain ⟨od, sl, ho⟩ := h.at_
  refine ⟨I.base.free _ _ ho h.no (nx _), ?_, h.cells.len, fun y c e => ?_, h.cells.inj, fun i y e => ?_⟩
  · obtain ⟨sl', q⟩ := I.base.any ho h.no (nx _)
    exact ⟨od, sl', q⟩
  · obtain ⟨n, v, z⟩ := h.cells.all y c e
    obtain ⟨o, ho', hd⟩ := id z
    exact ⟨I.base.free _ _ ho' n (nx _), v, kp c v z n⟩
  · obtain ⟨c, hc, hv⟩ := h.cells.has i y e
    refine ⟨c, hc, fun v ev => ?_⟩
    obtain ⟨u, r, z⟩ := hv v ev
    exact ⟨u, r, kp c _ z (h.cells.all y c hc).1⟩
def CallT (P : Program) (w : World) (K : PySem.W.Frag) (mg : Str → Option Value) (base : Heap) (k : Nat) (p : Hf) (r : PyData → PyData → Option PyData) : Prop :=
  ∀ (A : Around) (outer : List Env) (s : Shared) (H : Hp) (u : Value) (v : V) (O : List Addr) (D d z : PyData) (Q : VK), Room k A → Env0 P w K mg base A outer s H → Held p s.heap H → Stands O H → Rp K (hide O H) (.ref p.f) D → Rp K (hide O H) v d → RelV v u → r D d = some z → (∀ v' H', Same H H' → Rp K (hide O H') v' z → Q v' H') →
    codeAny (model P w) A (.call (.ref p.f) ⟨[u], []⟩) (CR (L2.CX P w) outer P w H s Q (fun _ _ _ => False)) s
theorem CallT.mono {P : Program} {w : World} {K : PySem.W.Frag} {mg : Str → Option Value} {base : Heap} {j k : Nat} {p : Hf} {r : PyData → PyData → Option PyData} (h : CallT P w K mg base j p r) (l : j ≤ k) : CallT P w K mg base k p r := fun A outer s H u v O D d z Q hr => h A outer s H u v O D d z Q (hr.mono l)
structure FnR (P : Program) (w : World) (K : PySem.W.Frag) (mg : Str → Option Value) (base : Heap) (k : Nat) (p : Hf) (f : Addr) (fd : FuncData) (ps : List Str) (sp : Sp) : Prop where
  len : ∀ vs H Q E, sp vs H Q E → vs.length = ps.length
  run : ∀ (A : Around) (outer : List Env) (s : Shared) (H : Hp) (args : Args) (us : List Value) (vs : List V) (Q : VK) (E : XK), Room k A → Env0 P w K mg base A outer s H → BindsTo s fd args (ps.zip us) → Vals vs us → Held p s.heap H → sp vs H Q E →
    codeAny (model P w) A (.call (.ref f) args) (CR (L2.CX P w) outer P w H s Q E) s
theorem FnR.mono {P : Program} {w : World} {K : PySem.W.Frag} {mg : Str → Option Value} {base : Heap} {j k : Nat} {p : Hf} {f : Addr} {fd : FuncData} {ps : List Str} {sp : Sp} (F : FnR P w K mg base j p f fd ps sp) (h : j ≤ k) : FnR P w K mg base k p f fd ps sp := ⟨F.len, fun A outer s H args us vs Q E hr => F.run A outer s H args us vs Q E (hr.mono h)⟩
section
variable {K : PySem.W.Frag} {H : Hp}
end
theorem OwnO.notbl {o : HO} (h : OwnO o) : ∀ ps, o ≠ .tbl ps := fun ps z => by
  rcases h with (⟨_, h⟩ | ⟨_, h⟩) | ⟨_, h | ⟨_, h⟩⟩ <;> rw [h] at z <;> cases z
def Ol (O : List Addr) (H : Hp) : Prop := ∀ a ∈ O, ∃ o, H a = some o ∧ OwnO o
theorem Ol.stands {O : List Addr} {H : Hp} (h : Ol O H) : Stands O H := fun a ha => by
  obtain ⟨o, e, ho⟩ := h a ha
  exact ⟨o, e, ho.notup⟩
theorem Ol.ext {O : List Addr} {H H' : Hp} (h : Ol O H) (e : LamX.ExtN H H') : Ol O H' := fun a ha => by
  obtain ⟨o, e1, e2⟩ := h a ha
  exact ⟨o, e a o e1 e2.notbl, e2⟩
theorem Ol.same {O : List Addr} {H H' : Hp} (h : Ol O H) (s : Same H H') : Ol O H' := h.ext (LamX.ExtN.of s)
theorem Ol.no {O : List Addr} {H : Hp} (h : Ol O H) {a : Addr} {o : HO} (e : H a = some o) (n : ¬ OwnO o) : a ∉ O := fun z => by
  obtain ⟨u, e1, e2⟩ := h a z
  rw [e] at e1; cases e1
  exact n e2
theorem Rel.ol {K : PySem.W.Frag} {own : List Nat} {O : List Addr} {σ : L2.St} {H : Hp} {ρ : Vars} {H0 : HB} (r : Rel K own H0 [] O σ H ρ) : Ol O H := fun a ha => by
  rcases r.lists a ha with h | ⟨_, o, h1, h2⟩
  · exact absurd h (by simp)
  · exact ⟨o, h1, h2⟩
abbrev HB0 : HB := ⟨fun _ => Option.none, []⟩
end Pu
set_option Elab.async false
set_option linter.all false
set_option maxRecDepth 100000
set_option maxHeartbeats 4000000
namespace Pu
open PySem PySem.Spec PyProof.Rows L2
section
variable (X : Cx)
end
section
variable {X : Cx} {P : Addr} {q : Str} {own : List Nat}
end
def CalR (P : Program) (w : World) (K : PySem.W.Frag) (mg : Str → Option Value) (base : Heap) (k : Nat) (x : Str) (n : Nat) (i0 : Int) (G : Addr → (PyData → PyData → Option PyData) → List PyData → R PyData) : Prop :=
  ∃ (fa : Addr) (fd : FuncData) (ps : List Str) (ds : List Value), ps.length = n ∧ (∀ hp rr, CallT P w K mg base 1 hp rr → FnR P w K mg base k hp fa fd ps (spN K mg n (G hp.f rr))) ∧ mg x = some (.ref fa) ∧ PySem.W.keepIn K (.ref fa) = true ∧ Binds K fd ps [] ∧ Binds K fd ps ds ∧ Vals [V.int i0] ds
end Pu
set_option Elab.async false
set_option linter.all false
set_option maxRecDepth 100000
set_option maxHeartbeats 4000000
namespace Pu
open PySem PySem.Spec PyProof.Rows L2
theorem units65 {k : Nat} {A : Around} (r : Room k A) : A.units + 65 < cLine := by have := r.un; omega
def gInL (d : PyData) : PyData → Option PyData
  | .list ds => if (SeqAt.shaped d && SeqAt.shaped (.list ds)) = true then some (.bool (ds.any fun z => PyData.eqv z d)) else Option.none
  | _ => Option.none
def gNinL (d : PyData) : PyData → Option PyData
  | .list ds => if (SeqAt.shaped d && SeqAt.shaped (.list ds)) = true then some (.bool (!ds.any fun z => PyData.eqv z d)) else Option.none
  | _ => Option.none
theorem op2_inL {K : PySem.W.Frag} : Op2 K (rInD K) gInL := fun H O x y d e z Q hO rx ry h q => by
  unfold gInL at h
  cases e with
  | list ds =>
    dsimp only at h
    by_cases c : (SeqAt.shaped d && SeqAt.shaped (.list ds)) = true
    · rw [if_pos c] at h
      cases h
      rw [Bool.and_eq_true] at c
      exact ⟨d, ds, rx.dp (SeqAt.canLay_of_shaped c.1) hide_sub, ry.dp (SeqAt.canLay_of_shaped c.2) hide_sub, c.1, c.2, q _ H (Same.refl H) (.bl _)⟩
    · rw [if_neg c] at h; cases h
  | _ => cases h
theorem op2_ninL {K : PySem.W.Frag} : Op2 K (rNotInD K) gNinL := fun H O x y d e z Q hO rx ry h q => by
  unfold gNinL at h
  cases e with
  | list ds =>
    dsimp only at h
    by_cases c : (SeqAt.shaped d && SeqAt.shaped (.list ds)) = true
    · rw [if_pos c] at h
      cases h
      rw [Bool.and_eq_true] at c
      exact ⟨d, ds, rx.dp (SeqAt.canLay_of_shaped c.1) hide_sub, ry.dp (SeqAt.canLay_of_shaped c.2) hide_sub, c.1, c.2, q _ H (Same.refl H) (.bl _)⟩
    · rw [if_neg c] at h; cases h
  | _ => cases h
end Pu
set_option Elab.async false
set_option linter.all false
set_option maxRecDepth 100000
set_option maxHeartbeats 4000000
namespace Pu
open PySem PySem.Spec PyProof.Rows L2
section
variable {X : Cx} {p : Addr × Obj} {pins : List (Addr × Obj)} {σ : L2.St} {H : Hp} {s : Shared}
end
section
variable {X : Cx} {pins : List (Addr × Obj)} {σ : L2.St} {H : Hp} {s : Shared}
end
end Pu
set_option Elab.async false
set_option linter.all false
set_option maxRecDepth 100000
set_option maxHeartbeats 4000000
namespace Pu
open PySem PySem.Spec PyProof.Rows L2
theorem FnR.imp {P : Program} {w : World} {K : PySem.W.Frag} {mg : Str → Option Value} {base : Heap} {k : Nat} {p : Hf} {f : Addr} {fd : FuncData} {ps : List Str} {sp sp' : Sp} (F : FnR P w K mg base k p f fd ps sp) (h : ∀ vs H Q E, sp' vs H Q E → sp vs H Q E) : FnR P w K mg base k p f fd ps sp' :=
  ⟨fun vs H Q E q => F.len vs H Q E (h _ _ _ _ q), fun A outer s H args us vs Q E hr e0 hb r hh q => F.run A outer s H args us vs Q E hr e0 hb r hh (h _ _ _ _ q)⟩
def CalD (P : Program) (w : World) (K : PySem.W.Frag) (mg : Str → Option Value) (base : Heap) (k : Nat) (x : Str) (n : Nat) (dv : List PyData) (G : Addr → (PyData → PyData → Option PyData) → List PyData → R PyData) : Prop :=
  ∃ (fa : Addr) (fd : FuncData) (ps : List Str) (ds : List Value) (dvV : List V), ps.length = n ∧ (∀ hp rr, CallT P w K mg base 1 hp rr → FnR P w K mg base k hp fa fd ps (spD K mg n (G hp.f rr))) ∧ mg x = some (.ref fa) ∧ PySem.W.keepIn K (.ref fa) = true ∧ Binds K fd ps ds ∧ Vals dvV ds ∧ ∀ F, Rps K F dvV dv
theorem CalR.all {P : Program} {w : World} {K : PySem.W.Frag} {mg : Str → Option Value} {base : Heap} {k n : Nat} {x : Str} {i0 : Int} {G : Addr → (PyData → PyData → Option PyData) → List PyData → R PyData} (h : CalR P w K mg base k x n i0 G) : CalD P w K mg base k x n [] (fun f rr ds => newL (G f rr ds)) := by
  obtain ⟨fa, fd, ps, ds, h1, h2, h3, h4, h5, h6, h7⟩ := h
  exact ⟨fa, fd, ps, [], [], h1, fun hp rr ct => (h2 hp rr ct).imp spN_of, h3, h4, h5, .nil, fun F => .nil⟩
theorem CalR.one {P : Program} {w : World} {K : PySem.W.Frag} {mg : Str → Option Value} {base : Heap} {k n : Nat} {x : Str} {i0 : Int} {G : Addr → (PyData → PyData → Option PyData) → List PyData → R PyData} (h : CalR P w K mg base k x n i0 G) : CalD P w K mg base k x n [.int i0] (fun f rr ds => newL (G f rr ds)) := by
  obtain ⟨fa, fd, ps, ds, h1, h2, h3, h4, h5, h6, h7⟩ := h
  exact ⟨fa, fd, ps, ds, [.int i0], h1, fun hp rr ct => (h2 hp rr ct).imp spN_of, h3, h4, h6, h7, fun F => .cons (.int _) .nil⟩
end Pu
set_option Elab.async false
set_option linter.all false
set_option maxRecDepth 100000
set_option maxHeartbeats 4000000
namespace Pu
open PySem PySem.Spec PyProof.Rows L2
theorem hb0 : ∀ p ∈ HB0.b, False := fun p hp => absurd (show p ∈ ([] : List (Nat × Addr)) from hp) (by simp)
section
variable {X : Cx} {P : Addr} {nm : Nat → Nat → Str} {own : List Nat}
end
end Pu
set_option Elab.async false
set_option linter.all false
set_option maxRecDepth 100000
set_option maxHeartbeats 4000000
namespace Pu
open PySem PySem.Spec PyProof.Rows L2
end Pu
set_option Elab.async false
set_option linter.all false
set_option maxRecDepth 100000
set_option maxHeartbeats 4000000
namespace Pu
open PySem PySem.Spec PyProof.Rows L2
section
variable {K : PySem.W.Frag} {H : Hp}
theorem RpT.length : ∀ {kvs : List (List Key × V)} {ds : List (PyData × PyData)}, RpT K H kvs ds → kvs.length = ds.length
  | _, _, .nil => rfl
  | _, _, .cons _ r => congrArg Nat.succ r.length
end
section
variable {X : Cx} {W : WX} {own : List Nat}
end
end Pu
set_option Elab.async false
set_option linter.all false
set_option maxRecDepth 100000
set_option maxHeartbeats 4000000
namespace Pu
open PySem PySem.Spec PyProof.Rows L2
section
variable {X : Cx} {W : WX}
end
end Pu
set_option Elab.async false
set_option linter.all false
set_option maxRecDepth 100000
set_option maxHeartbeats 4000000
namespace Pu
open PySem PySem.Spec PyProof.Rows L2
@[simp] def sRevO (i : Nat) (ρ : Vars) : Out := match ρ.getD i none with
  | some (.list ds) => .nx (ρ.set i (some (.list ds.reverse)))
  | _ => .bad
section
variable {X : Cx} {W : WX} {own : List Nat}
theorem sx_revO {i k : Nat} {x : Str} {p p0 p1 p2 p3 pos pos' : Pos} (hN : X.N.Nodup) (hi : X.N[i]? = some x) (hx : Loc X.env.scope x) (ho : own.contains i = true)
    (hs : swapsWith (.Subscript (.Name x p) (.Slice none none (some (.UnaryOp .USub (.Constant (.int 1) k p1) p2)) p3) pos) (some (.Name x p0)) pos'.line X.env = pure false := by rfl) (hf : X.fn x = true ∨ X.env.scope.names.lookup x = some .local := by first | exact .inl rfl | exact .inr rfl | assumption)
    (hv : Vis X.env.scope x := by first | exact Or.inl rfl | exact Or.inr (Or.inl rfl) | exact Or.inr (Or.inr rfl)) (hdn : (x == ("__debug__" : Str)) = false := by decide) (hcd : (x == ("__classdict__" : Str)) = false := by decide) (hni : own.contains (1000 + i) = false := by rfl) :
    SX X W own (.Assign [.Name x p0] (.Subscript (.Name x p) (.Slice none none (some (.UnaryOp .USub (.Constant (.int 1) k p1) p2)) p3) pos) pos') (sRevO i) := by
  have hio : i ∈ own := List.contains_iff_mem.mp ho
  have hni' : 1000 + i ∉ own := fun z => by rw [List.contains_iff_mem.mpr z] at hni; cases hni
  refine ⟨_, ps_set hN hi hx (pe_revL (pe_var hi hv hdn hcd)) hs hf, fun σ H ρ D H0 O0 O r z => ?_⟩
  unfold sRevO at z
  have e2 : ρ.getD i Option.none = (ρ[i]?).getD Option.none := by rw [List.getD_eq_getElem?_getD]
  rw [e2] at z
  cases e : ρ[i]? with
  | none => rw [e] at z; exact z.elim
  | some od =>
    cases od with
    | none => rw [e] at z; exact z.elim
    | some d =>
      rw [e] at z
      cases d <;> try exact z.elim
      rename_i ds
      obtain ⟨a, vs, h1, h2, h3, h4, h5⟩ := r.mineL hio e
      replace z : SOut X W own H0 O0 O H D (.nx (ρ.set i (some (.list ds.reverse)))) := z
      refine ⟨.ref a, h1, a, vs, rfl, .inl (.inl h4), fun l hl => ?_⟩
      have s : Same H (upd H l (.lst vs.reverse)) := same_new hl
      have sF : Same (hide O H) (hide (l :: O) (upd H l (.lst vs.reverse))) := fun b o hb => by
        obtain ⟨c1, q⟩ := hide_some hb
        exact hide_of (fun z => (List.mem_cons.mp z).elim (ne_of_none q hl) c1) (s b o q)
      obtain ⟨r', s'⟩ := r.laidV hio (r.notLent hni') s hl (dn := .list ds.reverse) ⟨vs.reverse, upd_same, (h5.reverse).mono sF⟩
      exact z _ _ _ r' s'
end
end Pu
set_option Elab.async false
set_option linter.all false
set_option maxRecDepth 100000
set_option maxHeartbeats 4000000
namespace Pu
open PySem PySem.Spec PyProof.Rows L2
def strsOf : List PyData → Option (List Str)
  | [] => some []
  | .str x :: r => (strsOf r).map (x :: ·)
  | _ :: _ => none
theorem rps_strs {K : PySem.W.Frag} {H : Hp} : ∀ {vs : List V} {ds : List PyData} {ys : List Str}, Rps K H vs ds → strsOf ds = some ys → vs = ys.map V.str
  | _, _, ys, .nil, h => by cases h; rfl
  | _, _, ys, @Rps.cons _ _ v vs d ds a r, h => by
    cases d with
    | str x =>
      replace h : (strsOf ds).map (x :: ·) = some ys := h
      cases e : strsOf ds with
      | none => rw [e] at h; cases h
      | some l =>
        rw [e] at h
        cases h
        cases a
        rw [rps_strs r e]; rfl
    | _ => cases h
section
variable {X : Cx} {W : WX} {tg : Expr}
end
end Pu
set_option Elab.async false
set_option linter.all false
set_option maxRecDepth 100000
set_option maxHeartbeats 4000000
namespace Pu
open PySem PySem.Spec PyProof.Rows L2
section
variable {X : Cx} {W : WX} {own : List Nat} {iu : Nat}
end
end Pu
set_option Elab.async false
set_option linter.all false
set_option maxRecDepth 100000
set_option maxHeartbeats 4000000
namespace Pu
open PySem PySem.Spec PyProof.Rows L2
section
variable {X : Cx} {W : WX}
end
end Pu
set_option Elab.async false
set_option linter.all false
set_option maxRecDepth 100000
set_option maxHeartbeats 4000000
namespace Pu
open PySem PySem.Spec PyProof.Rows L2
section
variable {P : Program} {w : World} {K : PySem.W.Frag} {mg : Str → Option Value} {base : Heap}
end
section
variable {X : Cx} {W : WX}
end
end Pu
set_option Elab.async false
set_option linter.all false
set_option maxRecDepth 100000
set_option maxHeartbeats 4000000
namespace Pu
open PySem PySem.Spec PyProof.Rows L2
def eqvX (d e : PyData) : Bool := flatD d e || (shp d && shp e && PyData.eqv d e)
def sameX (ks ls : List (PyData × PyData)) : Bool := decide (ks.length = ls.length) && ks.all fun p => match keyD p.1 with
  | some k => match valD ls k with
    | some e => eqvX p.2 e
    | none => false
  | none => false
def gDeqX (d e : PyData) : Option PyData := match d, e with
  | .dict ks, .dict ls => if (!insB ks && !insB ls && sameX ks ls) = true then some (.bool true) else none
  | _, _ => none
def likeV (K : PySem.W.Frag) (H : Hp) (v w : V) : Prop := (v = w ∧ flatB v = true) ∨ ∃ d e, Dp K H v d ∧ Dp K H w e ∧ shp d = true ∧ shp e = true ∧ PyData.eqv d e = true
theorem like_of {K : PySem.W.Frag} {H H' : Hp} {v w : V} {d e : PyData} (r : Rp K H v d) (r2 : Rp K H w e) (hs : Same H H') (h : eqvX d e = true) : likeV K H' v w := by
  unfold eqvX at h
  rcases Bool.or_eq_true_iff.mp h with h | h
  · exact .inl (flat_of r r2 h)
  · simp only [Bool.and_eq_true] at h
    exact .inr ⟨d, e, r.dp (canLay_of_shp h.1.1) hs, r2.dp (canLay_of_shp h.1.2) hs, h.1.1, h.1.2, h.2⟩
theorem likes_of {K : PySem.W.Frag} {H H' : Hp} (hs : Same H H') {ls : List (PyData × PyData)} {vl : List (Key × V)} (rl : Rpd K H vl ls) : ∀ {vk : List (Key × V)} {ks : List (PyData × PyData)}, Rpd K H vk ks → (ks.all fun p => match keyD p.1 with
  | some k => match valD ls k with
    | some e => eqvX p.2 e
    | none => false
  | none => false) = true → ∀ p ∈ vk, ∃ w, valV vl p.1 = some w ∧ likeV K H' p.2 w
  | _, _, .nil, _, p, hp => by cases hp
  | _, _, @Rpd.cons _ _ k v vs d ds h r, e, p, hp => by
    rw [List.all_cons, Bool.and_eq_true] at e
    rcases List.mem_cons.mp hp with z | z
    · subst z
      have e1 := e.1
      rw [keyD_kD] at e1
      rcases rpd_val k rl with ⟨w, d', h1, h2, h3⟩ | ⟨h1, h2⟩
      · dsimp only at e1
        rw [h2] at e1
        exact ⟨w, h1, like_of h h3 hs e1⟩
      · dsimp only at e1
        rw [h2] at e1; cases e1
    · exact likes_of hs rl r e.2 p z
theorem hits_allX {X : Cx} {pins : List (Addr × Obj)} {σ : L2.St} {H : Hp} {s : Shared} (I : Inv X pins σ H s) {A : Around} (hu : A.units + 190 < cLine) {kvs : List (Key × V)} {vb : List (Key × Value)} (rb : KV kvs vb) {ks : List (Key × V)} {va : List (Key × Value)} (ra : KV ks va) :
    (∀ p ∈ ks, ∃ w, valV kvs p.1 = some w ∧ likeV X.K H p.2 w) → PySem.W.KeqHits A s vb va true := by
  unfold KV at ra
  induction ra with
  | nil => intro _; exact .nil
  | @cons p q ps qs h t ih =>
    intro hp
    obtain ⟨h1, h2⟩ := h
    obtain ⟨w, e, f⟩ := hp p List.mem_cons_self
    have rr : RelO (some w) (valueAt vb p.1) := by rw [← e]; exact rb.val p.1
    obtain ⟨y, hy, ry⟩ := rr.some_of
    obtain ⟨k, v⟩ := q
    have h1' : p.1 = k := h1
    rw [h1'] at hy
    show PySem.W.KeqHits A s vb ((k, v) :: qs) (true && true)
    refine .hit hy ?_ (ih fun p' hm => hp p' (List.mem_cons_of_mem _ hm))
    rcases f with ⟨f1, f2⟩ | ⟨d, e', r1, r2, s1, s2, ev⟩
    · rw [← f1] at ry
      exact eqAt_same h2 ry f2
    · obtain ⟨as, q1⟩ := Dp.reads I d _ _ r1 h2
      obtain ⟨bs, q2⟩ := Dp.reads I e' _ _ r2 ry
      have := SeqAt.eqAt_reads d e' A s _ _ as bs q1 q2 (canLay_of_shp s1) (canLay_of_shp s2) (room_of_shp s1 hu)
      rw [ev] at this
      exact this
def rEqX' (K : PySem.W.Frag) : R2 := fun x y H Q => ∃ a c ks ls, x = .ref a ∧ y = .ref c ∧ Rd H a (.dK ks) ∧ Rd H c (.dK ls) ∧ ks.length = ls.length ∧ (∀ p ∈ ks, ∃ w, valV ls p.1 = some w ∧ likeV K H p.2 w) ∧ Q (.bl true) H
theorem op_eqX' {X : Cx} (hu : X.A.units + 190 + 1 < cLine) : OpR X (compareOp .Eq) (rEqX' X.K) := by
  intro pins s σ H x y v u Q I rx ry h
  obtain ⟨a, b, ks, ls, rfl, rfl, ea, eb, hlen, hp, q⟩ := h
  obtain rfl : v = Value.ref a := rx
  obtain rfl : u = Value.ref b := ry
  obtain ⟨_, ya, va, ra, da⟩ := (show ObjOk X.prog X.w H s.heap a (.dK ks) from ea.ok I.hok)
  obtain ⟨_, yb, vb, rb, db⟩ := (show ObjOk X.prog X.w H s.heap b (.dK ls) from eb.ok I.hok)
  have hl : va.length = vb.length := by rw [← ra.length, ← rb.length]; exact hlen
  exact PySem.W.keq_eq (knd := mixKind X.prog X.w) (r := true) ya yb da db (by omega) (fun _ => hits_allX I (by show X.A.units + 1 + 190 < cLine; omega) rb ra hp) (fin_bl I q (by simp [hl]))
theorem _root_.L2.Room.un191 {k : Nat} {A : Around} (r : Room k A) : A.units + 190 + 1 < cLine := by have := r.un; omega
theorem op2_dEqX {K : PySem.W.Frag} : Op2 K (rEqX' K) gDeqX := by
  intro H O x y d e z Q hO rx ry h q
  unfold gDeqX at h
  cases d with
  | dict ks =>
    cases e with
    | dict ls =>
      dsimp only at h
      by_cases c : (!insB ks && !insB ls && sameX ks ls) = true
      · rw [if_pos c] at h
        cases h
        simp only [Bool.and_eq_true, Bool.not_eq_true'] at c
        obtain ⟨⟨c1, c2⟩, c3⟩ := c
        unfold sameX at c3
        rw [Bool.and_eq_true] at c3
        cases rx with
        | dic h1 r1 =>
          cases ry with
          | dic h2 r2 =>
            exact ⟨_, _, _, _, rfl, rfl, rd_mono hide_sub h1, rd_mono hide_sub h2, by rw [r1.length, r2.length]; exact of_decide_eq_true c3.1, likes_of hide_sub r2 r1 c3.2, q _ H (Same.refl H) (.bl _)⟩
          | ins => cases c2
          | fn _ => cases c2
          | fn0 => cases c2
          | dct => cases c2
          | tpx => cases c2
        | ins => cases c1
        | fn _ => cases c1
        | fn0 => cases c1
        | dct => cases c1
        | tpx => cases c1
      · rw [if_neg c] at h; cases h
    | _ => cases h
  | _ => cases h
def itK (p : PyData × PyData) : PyData := p.1
end Pu
set_option Elab.async false
set_option linter.all false
set_option maxRecDepth 100000
set_option maxHeartbeats 4000000
namespace Pu
open PySem PySem.Spec PyProof.Rows L2
structure InM (K : PySem.W.Frag) (H0 : Hp) (O : List Addr) (H : Hp) (U : Addr) (kvs : List (Key × V)) (ds : List (PyData × PyData)) : Prop where
  len : kvs.length = ds.length
  keys : (kvs.map (·.1)).Nodup
  mem : ∀ (j : Nat) (k : Key) (v : V), kvs[j]? = some (k, v) → ∃ a vs es, v = .ref a ∧ ds[j]? = some (kD k, .list es) ∧ a ∈ O ∧ a ≠ U ∧ H0 a = none ∧ H a = some (.lst vs) ∧ Rps K (hide O H) vs es
  inj : ∀ (i j : Nat) (k l : Key) (a : Addr), kvs[i]? = some (k, .ref a) → kvs[j]? = some (l, .ref a) → i = j
structure RelM (K : PySem.W.Frag) (iu : Nat) (H0 : Hp) (O0 O : List Addr) (σ : L2.St) (H : Hp) (ρ : Vars) : Prop where
  base : Rel K [] ⟨H0, []⟩ O0 O σ H (ρ.set iu none)
  deep : ∃ U kvs ds, ρ[iu]? = some (some (.dict ds)) ∧ σ[iu]? = some (some (.ref U)) ∧ U ∈ O ∧ H0 U = none ∧ H U = some (.dK kvs) ∧ InM K H0 O H U kvs ds
theorem InM.mono {K : PySem.W.Frag} {H0 : Hp} {O O' : List Addr} {H H' : Hp} {U : Addr} {kvs : List (Key × V)} {ds : List (PyData × PyData)} (h : InM K H0 O H U kvs ds) (sO : ∀ a ∈ O, a ∈ O') (s : ∀ a o, a ≠ U → H0 a = none → H a = some o → H' a = some o) (sF : Same (hide O H) (hide O' H')) : InM K H0 O' H' U kvs ds := ⟨h.len, h.keys, fun j k v e => by
  obtain ⟨a, vs, es, e1, e2, e3, e4, e5, e6, e7⟩ := h.mem j k v e
  exact ⟨a, vs, es, e1, e2, sO a e3, e4, e5, s a _ e4 e5 e6, e7.mono sF⟩, h.inj⟩
theorem rpd_ofIx {K : PySem.W.Frag} {F : Hp} : ∀ {kvs : List (Key × V)} {ds : List (PyData × PyData)}, kvs.length = ds.length → (∀ (j : Nat) (k : Key) (v : V), kvs[j]? = some (k, v) → ∃ d, ds[j]? = some (kD k, d) ∧ Rp K F v d) → Rpd K F kvs ds
  | [], [], _, _ => .nil
  | [], _ :: _, l, _ => by cases l
  | _ :: _, [], l, _ => by cases l
  | (k, v) :: kvs, p :: ds, l, h => by
    obtain ⟨d, e1, e2⟩ := h 0 k v rfl
    have e1 : p = (kD k, d) := by simpa using e1
    subst e1
    exact .cons e2 (rpd_ofIx (by simpa using l) fun j k v e => h (j + 1) k v e)
theorem InM.rpd {K : PySem.W.Frag} {H0 : Hp} {O : List Addr} {H F : Hp} {U : Addr} {kvs : List (Key × V)} {ds : List (PyData × PyData)} (h : InM K H0 O H U kvs ds) (sF : Same (hide O H) F) (s : ∀ a o, a ≠ U → H0 a = none → a ∈ O → (∃ (j : Nat) (k : Key), kvs[j]? = some (k, .ref a)) → H a = some o → F a = some o) : Rpd K F kvs ds := rpd_ofIx h.len fun j k v e => by
  obtain ⟨a, vs, es, rfl, e2, e3, e4, e5, e6, e7⟩ := h.mem j k v e
  exact ⟨_, e2, .lst (.inl (.inl (s a _ e4 e5 e3 ⟨j, k, e⟩ e6))) (e7.mono sF)⟩
section
variable {K : PySem.W.Frag} {iu : Nat} {H0 : Hp} {O0 O : List Addr} {σ : L2.St} {H H' : Hp} {ρ : Vars}
theorem RelM.stands (r : RelM K iu H0 O0 O σ H ρ) : Stands O H := r.base.stands
theorem RelM.stands0 (r : RelM K iu H0 O0 O σ H ρ) : Stands O0 H := r.base.stands0
theorem RelM.same (r : RelM K iu H0 O0 O σ H ρ) : Same H0 H := r.base.same
theorem RelM.vrel0 (r : RelM K iu H0 O0 O σ H ρ) : VRel K (hide O0 H) σ ρ := ⟨by simpa using r.base.len, fun i d e => by
  by_cases c : i = iu
  · subst c
    obtain ⟨U, kvs, ds, h1, h2, h3, h4, h5, h6⟩ := r.deep
    rw [h1] at e
    cases e
    exact ⟨_, h2, .dic (.inl (hide_of (r.base.notO0 h4) h5)) (h6.rpd (hide_less r.base.sub) fun a o _ g1 _ _ g => hide_of (r.base.notO0 g1) g)⟩
  · exact r.base.vrel0.get i d (by rw [set_getElem? c]; exact e)⟩
theorem RelM.vrelM (r : RelM K iu H0 O0 O σ H ρ) : VRel K (hide O H) σ (mask [iu] ρ) := by
  rw [mask_setN]; exact r.base.vrelM
theorem RelM.imm (r : RelM K iu H0 O0 O σ H ρ) {v : V} {d : PyData} (h : Rp K (hide O0 H) v d) (e : imm d = true) : Rp K (hide O H) v d := r.base.imm h e
theorem RelM.step (r : RelM K iu H0 O0 O σ H ρ) (s : Same H H') : RelM K iu H0 O0 O σ H' ρ := ⟨r.base.step s, by
  obtain ⟨U, kvs, ds, h1, h2, h3, h4, h5, h6⟩ := r.deep
  exact ⟨U, kvs, ds, h1, h2, h3, h4, s _ _ h5, h6.mono (fun _ h => h) (fun a o _ _ h => s _ _ h) (hide_same s)⟩⟩
theorem RelM.set (r : RelM K iu H0 O0 O σ H ρ) {i : Nat} {v : V} {d : PyData} (c2 : i ≠ iu) (h : Rp K (hide O H) v d) : RelM K iu H0 O0 O (σ.set i (some v)) H (ρ.set i (some d)) := ⟨by
    rw [List.set_comm _ _ c2]; exact r.base.set (by simp) h, by
  obtain ⟨U, kvs, ds, h1, h2, h⟩ := r.deep
  exact ⟨U, kvs, ds, by rw [List.getElem?_set_ne c2]; exact h1, by rw [List.getElem?_set_ne c2]; exact h2, h⟩⟩
theorem RelM.other (r : RelM K iu H0 O0 O σ H ρ) {σ' : L2.St} {ρ' : Vars} {js : List Nat} (hj : ∀ j ∈ js, j ∉ [iu]) (hl : σ'.length = σ.length) (v : VRel K (hide O H) σ' (mask [iu] ρ')) (f : ∀ j : Nat, j ∉ js → σ'[j]? = σ[j]? ∧ (mask [iu] ρ')[j]? = (mask [iu] ρ)[j]?) (f2 : ∀ j : Nat, j ∉ js → ρ'[j]? = ρ[j]?) : RelM K iu H0 O0 O σ' H ρ' := ⟨by
    exact r.base.other (js := js) (fun j h z => by cases z) hl (by rw [← mask_setN]; exact v) (fun j h => by rw [← mask_setN, ← mask_setN]; exact f j h) fun j ho => (by cases ho), by
  obtain ⟨U, kvs, ds, h1, h2, h⟩ := r.deep
  have nu : iu ∉ js := fun z => hj iu z (by simp)
  exact ⟨U, kvs, ds, by rw [f2 iu nu]; exact h1, by rw [(f iu nu).1]; exact h2, h⟩⟩
theorem Rel.updM (r : Rel K [] ⟨H0, []⟩ O0 O σ H ρ) {a : Addr} {o : HO} (ha : a ∈ O) (h0 : H0 a = Option.none) (ho : OwnO o) :
    Rel K [] ⟨H0, []⟩ O0 O σ (upd H a o) ρ ∧ Same (hide O H) (hide O (upd H a o)) := by
  have hid : ∀ o', hide O (upd H a o') = hide O H := fun o' => by
    funext b
    unfold hide
    by_cases c : b ∈ O
    · rw [if_pos c, if_pos c]
    · rw [if_neg c, if_neg c, upd_ne (fun z => c (by rw [z]; exact ha))]
  refine ⟨⟨fun b o' hb => ?_, r.st0, r.len, r.sub, fun b hb => ?_, fun i d c e => by rw [hid]; exact r.free i d c e, fun i d c e => (by cases c), r.apart, (fun p hp => nomatch hp), (fun p hp => nomatch hp), r.mark⟩, by rw [hid]; exact Same.refl _⟩
  · rw [upd_ne (ne_of_none hb h0)]; exact r.same b o' hb
  · by_cases n : b = a
    · subst n; exact .inr ⟨h0, _, upd_same, ho⟩
    · rw [upd_ne n]; exact r.lists b hb
theorem Rel.growM (r : Rel K [] ⟨H0, []⟩ O0 O σ H ρ) {p : Addr} {o : HO} (s : Same H H') (hp : H p = Option.none) (hp' : H' p = some o) (ho : OwnO o) : Rel K [] ⟨H0, []⟩ O0 (p :: O) σ H' ρ ∧ Same (hide O H) (hide (p :: O) H') := by
  have sF : Same (hide O H) (hide (p :: O) H') := fun a o h => by
    obtain ⟨c, e⟩ := hide_some h
    exact hide_of (fun z => (List.mem_cons.mp z).elim (ne_of_none e hp) c) (s a o e)
  have r1 : Rel K [] ⟨H0, []⟩ O0 O σ H' ρ := r.step s
  refine ⟨⟨r1.same, r1.st0, r1.len, fun a ha => List.mem_cons_of_mem _ (r1.sub a ha), fun a ha => ?_, fun j d cj q => ?_, fun j d cj q => (by cases cj), r.apart, (fun p hp => nomatch hp), (fun p hp => nomatch hp), r.mark⟩, sF⟩
  · rcases List.mem_cons.mp ha with e | ha
    · rw [e]; exact .inr ⟨r.same.free hp, _, hp', ho⟩
    · exact r1.lists a ha
  · obtain ⟨v, h1, h2⟩ := r.free j d cj q
    exact ⟨v, h1, h2.mono sF⟩
theorem RelM.freeze (r : RelM K iu H0 O0 O σ H ρ) : Rel K [] ⟨H0, []⟩ O0 O0 σ H ρ := by
  have v := r.vrel0
  exact ⟨r.base.same, r.base.st0, v.len, fun a ha => ha, fun a ha => .inl ha, fun i d c e => v.get i d e, fun i d c e => (by cases c), fun i j d e a ci => (by cases ci), (fun p hp => nomatch hp), (fun p hp => nomatch hp), r.base.mark⟩
end
section
variable (X : Cx) (W : WX) (iu : Nat)
def MOut (H0 : Hp) (O0 O : List Addr) (H : Hp) (D : Ends) : Out → Prop
  | .nx ρ => ∀ σ' H' O', RelM X.K iu H0 O0 O' σ' H' ρ → Same (hide O H) (hide O' H') → D.nx σ' H'
  | .err c ρ => ∀ σ' H' O', RelM X.K iu H0 O0 O' σ' H' ρ → Same (hide O H) (hide O' H') → W (exV X.mg c) none σ' H'
  | .rt d => ∀ v H', Same H0 H' → Rp X.K (hide O0 H') v d → D.rt v H'
  | .bk ρ => ∀ σ' H' O', RelM X.K iu H0 O0 O' σ' H' ρ → Same (hide O H) (hide O' H') → D.bk σ' H'
  | .ct ρ => ∀ σ' H' O', RelM X.K iu H0 O0 O' σ' H' ρ → Same (hide O H) (hide O' H') → D.ct σ' H'
  | .bad => False
def MX (st : Stmt) (g : Vars → Out) : Prop :=
  ∃ t, PS X st t ∧ ∀ σ H ρ D H0 O0 O, RelM X.K iu H0 O0 O σ H ρ → MOut X W iu H0 O0 O H D (g ρ) → t D σ H
def MsX (sts : List Stmt) (g : Vars → Out) : Prop :=
  ∃ t, PSs X sts t ∧ ∀ σ H ρ D H0 O0 O, RelM X.K iu H0 O0 O σ H ρ → MOut X W iu H0 O0 O H D (g ρ) → t D σ H
end
section
variable {X : Cx} {W : WX} {iu : Nat}
theorem MOut.from {H0 : Hp} {O0 O O' : List Addr} {H H' : Hp} {D : Ends} {o : Out} (h : MOut X W iu H0 O0 O H D o) (s : Same (hide O H) (hide O' H')) : MOut X W iu H0 O0 O' H' D o := by
  cases o with
  | nx ρ => exact fun σ' H'' O'' r s' => h σ' H'' O'' r (s.trans s')
  | err c ρ => exact fun σ' H'' O'' r s' => h σ' H'' O'' r (s.trans s')
  | bk ρ => exact fun σ' H'' O'' r s' => h σ' H'' O'' r (s.trans s')
  | ct ρ => exact fun σ' H'' O'' r s' => h σ' H'' O'' r (s.trans s')
  | _ => exact h
theorem EOut.runM {f : R PyData} {k : PyData → Out} {O : List Addr} {H0 : Hp} {O0 O1 : List Addr} {σ : L2.St} {H : Hp} {ρ : Vars} {D : Ends} {Q : VK} (r : RelM X.K iu H0 O0 O1 σ H ρ) (z : MOut X W iu H0 O0 O1 H D (f.run ρ k))
    (q : ∀ d v H', Same H H' → Rp X.K (hide O H') v d → MOut X W iu H0 O0 O1 H' D (k d) → RelM X.K iu H0 O0 O1 σ H' ρ → Q v H') : EOut X W O σ H Q f := by
  cases f with
  | ok d => exact fun v H' s rv => q d v H' s rv (MOut.from z (hide_same s)) (r.step s)
  | err c => exact fun H' s => z σ H' O1 (r.step s) (hide_same s)
  | bad => exact z
theorem TOut.runM {f : R Bool} {k : Bool → Out} {H0 : Hp} {O0 O1 : List Addr} {σ : L2.St} {H : Hp} {ρ : Vars} {D : Ends} {Q : Bool → Hp → Prop} (r : RelM X.K iu H0 O0 O1 σ H ρ) (z : MOut X W iu H0 O0 O1 H D (f.run ρ k))
    (q : ∀ d H', Same H H' → MOut X W iu H0 O0 O1 H' D (k d) → RelM X.K iu H0 O0 O1 σ H' ρ → Q d H') : TOut X W σ H Q f := by
  cases f with
  | ok d => exact fun H' s => q d H' s (MOut.from z (hide_same s)) (r.step s)
  | err c => exact fun H' s => z σ H' O1 (r.step s) (hide_same s)
  | bad => exact z
theorem msx_nil : MsX X W iu [] sNil := ⟨_, pss_nil, fun σ H ρ D H0 O0 O r z => z σ H O r (Same.refl _)⟩
theorem msx_cons {st : Stmt} {rest : List Stmt} {g h : Vars → Out} (a : MX X W iu st g) (b : MsX X W iu rest h) : MsX X W iu (st :: rest) (sSeq g h) := by
  obtain ⟨t, p, ht⟩ := a
  obtain ⟨u, q, hu⟩ := b
  refine ⟨_, pss_cons p q, fun σ H ρ D H0 O0 O r z => ht σ H ρ _ H0 O0 O r ?_⟩
  unfold sSeq at z
  cases e : g ρ with
  | nx ρ1 => rw [e] at z; exact fun σ1 H1 O1 r1 s1 => hu σ1 H1 ρ1 D H0 O0 O1 r1 (MOut.from z s1)
  | rt d => rw [e] at z; exact z
  | bk ρ1 => rw [e] at z; exact z
  | ct ρ1 => rw [e] at z; exact z
  | err c ρ1 => rw [e] at z; exact z
  | bad => rw [e] at z; exact z
theorem msx_one {st : Stmt} {g : Vars → Out} (a : MX X W iu st g) : MsX X W iu [st] g := by
  obtain ⟨t, p, ht⟩ := a
  exact ⟨_, pss_one p, ht⟩
theorem mx_if {c : Expr} {a b : List Stmt} {tc : Vars → R Bool} {g h : Vars → Out} {pos : Pos} (hc : TX X W c tc) (ha : MsX X W iu a g) (hb : MsX X W iu b h) : MX X W iu (.If c a b pos) (sIf tc g h) := by
  obtain ⟨t, p, ht⟩ := hc
  obtain ⟨ta, pa, hta⟩ := ha
  obtain ⟨tb, pb, htb⟩ := hb
  refine ⟨_, ps_if p pa pb, fun σ H ρ D H0 O0 O r z => ht σ H O0 ρ _ r.stands0 r.vrel0 (TOut.runM r z fun d H' s z' r' => ?_)⟩
  cases d with
  | true => exact hta σ H' ρ D H0 O0 O r' z'
  | false => exact htb σ H' ρ D H0 O0 O r' z'
theorem mx_set {i : Nat} {x : Str} {e : Expr} {f : Vars → R PyData} {pos' pos : Pos} (hN : X.N.Nodup) (hi : X.N[i]? = some x) (hx : Loc X.env.scope x) (h : EX X W e f) (ho : ([iu] : List Nat).contains i = false) (hs : swapsWith e (some (.Name x pos')) pos.line X.env = pure false := by rfl) (hf : X.fn x = true ∨ X.env.scope.names.lookup x = some .local := by first | exact .inl rfl | exact .inr rfl | assumption) :
    MX X W iu (.Assign [.Name x pos'] e pos) (sSetD i f) := by
  obtain ⟨t, p, ht⟩ := h
  have hi' : i ≠ iu := fun z => by rw [z] at ho; simp at ho
  refine ⟨_, ps_set hN hi hx p hs hf, fun σ H ρ D H0 O0 O r z => ht σ H O0 ρ _ r.stands0 r.vrel0 (EOut.runM r z fun d v H' s rv z' r' => ?_)⟩
  by_cases c : imm d = true
  · rw [if_pos c] at z'
    exact z' _ H' O (r'.set hi' (r'.imm rv c)) (Same.refl _)
  · rw [if_neg c] at z'; exact z'.elim
theorem mx_for {tg iter : Expr} {body : List Stmt} {js : List Nat} {fi : Vars → R (List PyData)} {gt : PyData → Vars → Option Vars} {g : Vars → Out} {pos : Pos} (hp : PassesOwn (model X.prog X.w) X.A X.env X.xe) (hc : X.calm = true) (hi : IX X W tg iter fi) (hg : GX X tg js gt) (hin : GtIn js gt) (ho : (js.all fun j => !([iu] : List Nat).contains j) = true)
    (hb : MsX X W iu body g) (hs : ∀ x, foldedSetIterable iter X.env x = pure x := by intro _; rfl) : MX X W iu (.For tg iter body [] pos) (sForD iu [] fi gt g) := by
  obtain ⟨wi, p, hwi⟩ := hi
  obtain ⟨ok, tgt, q, hgt⟩ := hg
  obtain ⟨tb, pb, htb⟩ := hb
  have hj : ∀ j ∈ js, j ∉ [iu] := fun j h z => by
    have := List.all_eq_true.mp ho j h
    rw [List.contains_iff_mem.mpr z] at this; cases this
  refine ⟨_, ps_for hp hc p q pb hs, fun σ H ρ D H0 O0 O r z => ?_⟩
  refine hwi σ H O (mask [iu] ρ) _ r.stands r.vrelM ?_
  unfold sForD at z
  cases e : fi (mask [iu] ρ) with
  | bad => rw [e] at z; exact z
  | err c => rw [e] at z; exact fun H' s => z σ H' O (r.step s) (hide_same s)
  | ok ds =>
    rw [e, R.run_ok] at z
    intro J H1 s1 hJ
    refine ⟨fun i m σ2 H2 => m = ds.length - i ∧ i ≤ ds.length ∧ ∃ O2 ρ2, RelM X.K iu H0 O0 O2 σ2 H2 ρ2 ∧ Same (hide O H1) (hide O2 H2) ∧ MOut X W iu H0 O0 O2 H2 D (forL gt g (ds.drop i) ρ2), ⟨ds.length, rfl, Nat.zero_le _, O, ρ, r.step s1, Same.refl _, MOut.from z (hide_same s1)⟩, ?_⟩
    rintro i m σ2 H2 ⟨rfl, hle, O2, ρ2, r2, sF, z2⟩
    obtain ⟨j1, j2⟩ := hJ i H2 O2 r2.stands sF
    by_cases hlt : i < ds.length
    · have hd : ds[i]? = some ds[i] := List.getElem?_eq_getElem hlt
      obtain ⟨g1, g2⟩ := j1 _ hd
      have hdrop : ds.drop i = ds[i] :: ds.drop (i + 1) := List.drop_eq_getElem_cons hlt
      rw [hdrop] at z2
      unfold forL at z2
      cases eg : gt ds[i] ρ2 with
      | none => rw [eg] at z2; exact z2.elim
      | some ρ3 =>
        rw [eg] at z2
        dsimp only at z2
        refine .inr ⟨g1, fun σ' H' => (i + 1 ≤ ds.length ∧ ∃ O2 ρ2, RelM X.K iu H0 O0 O2 σ' H' ρ2 ∧ Same (hide O H1) (hide O2 H') ∧ MOut X W iu H0 O0 O2 H' D (forL gt g (ds.drop (i + 1)) ρ2)),
          fun σ' H' hn => ⟨ds.length - (i + 1), by omega, rfl, hn.1, hn.2⟩, fun x H3 y => ?_⟩
        obtain ⟨s23, rx⟩ := g2 x H3 y
        have r3 := r2.step s23
        refine hgt x ds[i] σ2 H3 O2 (mask [iu] ρ2) (mask [iu] ρ3) _ r3.stands r3.vrelM rx (ok.msk [iu] _ ρ2 ρ3 hj eg) fun σ3 v3 l3 f3 => ?_
        have r4 : RelM X.K iu H0 O0 O2 σ3 H3 ρ3 := r3.other hj l3 v3 f3 (hin.out _ ρ2 ρ3 eg)
        have sF3 : Same (hide O H1) (hide O2 H3) := sF.trans (hide_same s23)
        refine htb σ3 H3 ρ3 _ H0 O0 O2 r4 ?_
        cases eb : g ρ3 with
        | nx ρ4 =>
          rw [eb] at z2
          exact fun σ5 H5 O5 r5 s5 => ⟨hlt, O5, ρ4, r5, sF3.trans s5, MOut.from z2 ((hide_same s23).trans s5)⟩
        | err c ρ4 =>
          rw [eb] at z2
          exact fun σ5 H5 O5 r5 s5 => z2 σ5 H5 O5 r5 ((hide_same s23).trans s5)
        | ct ρ4 =>
          rw [eb] at z2
          exact fun σ5 H5 O5 r5 s5 => ⟨hlt, O5, ρ4, r5, sF3.trans s5, MOut.from z2 ((hide_same s23).trans s5)⟩
        | bk ρ4 =>
          rw [eb] at z2
          exact fun σ5 H5 O5 r5 s5 => z2 σ5 H5 O5 r5 ((hide_same s23).trans s5)
        | rt d => rw [eb] at z2; exact z2
        | bad => rw [eb] at z2; exact z2
    · have e3 : i = ds.length := by omega
      subst e3
      refine .inl ⟨j2 (Nat.le_refl _), ?_⟩
      rw [List.drop_length] at z2
      exact z2 σ2 H2 O2 r2 (Same.refl _)
def sPutN (iu : Nat) (f : Vars → R (List PyData)) (k : Vars → R PyData) (ρ : Vars) : Out := match ρ.getD iu none with
  | some (.dict ds) => (f (mask [iu] ρ)).run ρ fun es => (k (mask [iu] ρ)).run ρ fun e => match keyD e with
    | some key => if ds.length < sizeLine then .nx (ρ.set iu (some (.dict (putD ds key (.list es))))) else .bad
    | none => .bad
  | _ => .bad
@[simp] theorem u_sPutN (f : Vars → R (List PyData)) (k : Vars → R PyData) (ρ : Vars) : sPutN iu f k ρ = match ρ.getD iu none with
  | some (.dict ds) => (f (mask [iu] ρ)).run ρ fun es => (k (mask [iu] ρ)).run ρ fun e => match keyD e with
    | some key => if ds.length < sizeLine then .nx (ρ.set iu (some (.dict (putD ds key (.list es))))) else .bad
    | none => .bad
  | _ => .bad := rfl
theorem InM.putNew {K : PySem.W.Frag} {H0 : Hp} {O : List Addr} {H : Hp} {U q : Addr} {kvs : List (Key × V)} {ds : List (PyData × PyData)} {key : Key} {vs : List V} {es : List PyData} (h : InM K H0 O H U kvs ds) (hq : q ∈ O) (nU : q ≠ U) (h0 : H0 q = none) (hp : H q = some (.lst vs)) (rs : Rps K (hide O H) vs es)
    (nq : ∀ (j : Nat) (k : Key), kvs[j]? ≠ some (k, .ref q)) : InM K H0 O H U (putK kvs key (.ref q)) (putD ds key (.list es)) := by
  have hany : (kvs.any fun kv => decide (kv.1 = key)) = (ds.any fun p => decide (keyD p.1 = some key)) := by
    have r : Rpd K (hide [] H) kvs ds := h.rpd (hide_less fun a ha => by cases ha) fun a o _ _ _ _ g => hide_of (by simp) g
    exact rpd_any key r
  unfold putK putD
  rw [hany]
  by_cases c : (ds.any fun p => decide (keyD p.1 = some key)) = true
  · rw [if_pos c, if_pos c]
    have hk : (kvs.map (fun kv => if kv.1 = key then (kv.1, V.ref q) else kv)).map (·.1) = kvs.map (·.1) := by
      rw [List.map_map]
      refine List.map_congr_left fun p _ => ?_
      show (if p.1 = key then (p.1, V.ref q) else p).1 = p.1
      split <;> rfl
    have uniq : ∀ (i j : Nat) (v w : V), kvs[i]? = some (key, v) → kvs[j]? = some (key, w) → i = j := fun i j v w e1 e2 => by
      have l1 := (List.getElem?_eq_some_iff.mp e1).1
      have l2 := (List.getElem?_eq_some_iff.mp e2).1
      have m1 : (kvs.map (·.1))[i]? = some key := by rw [List.getElem?_map, e1]; rfl
      have m2 : (kvs.map (·.1))[j]? = some key := by rw [List.getElem?_map, e2]; rfl
      have l1' : i < (kvs.map (·.1)).length := by rw [List.length_map]; exact l1
      have l2' : j < (kvs.map (·.1)).length := by rw [List.length_map]; exact l2
      rw [List.getElem?_eq_getElem l1'] at m1
      rw [List.getElem?_eq_getElem l2'] at m2
      exact (List.getElem_inj h.keys).mp (Option.some.inj (m1.trans m2.symm))
    have get : ∀ (j : Nat) (k : Key) (v : V), (kvs.map fun kv => if kv.1 = key then (kv.1, V.ref q) else kv)[j]? = some (k, v) → (k = key ∧ v = .ref q ∧ ∃ w, kvs[j]? = some (key, w)) ∨ (k ≠ key ∧ kvs[j]? = some (k, v)) := fun j k v e => by
      rw [List.getElem?_map] at e
      obtain ⟨p, e1, e2⟩ := Option.map_eq_some_iff.mp e
      by_cases d : p.1 = key
      · rw [if_pos d] at e2
        cases e2
        exact .inl ⟨d, rfl, p.2, by rw [e1, ← d]⟩
      · rw [if_neg d] at e2
        subst e2
        exact .inr ⟨d, e1⟩
    refine ⟨by rw [List.length_map, List.length_map]; exact h.len, by rw [hk]; exact h.keys, fun j k v e => ?_, fun i j k l a e1 e2 => ?_⟩
    · rcases get j k v e with ⟨rfl, rfl, w, e1⟩ | ⟨d, e1⟩
      · obtain ⟨a, _, es0, _, e2, _⟩ := h.mem j k w e1
        refine ⟨q, vs, es, rfl, ?_, hq, nU, h0, hp, rs⟩
        rw [List.getElem?_map, e2]
        show some (if keyD (kD k) = some k then _ else _) = _
        rw [if_pos (keyD_kD k)]
      · obtain ⟨a, us, es0, f1, e2, f3, f4, f5, f6, f7⟩ := h.mem j k v e1
        refine ⟨a, us, es0, f1, ?_, f3, f4, f5, f6, f7⟩
        rw [List.getElem?_map, e2]
        show some (if keyD (kD k) = some key then _ else _) = _
        rw [if_neg (by rw [keyD_kD]; intro z; cases z; exact d rfl)]
    · rcases get i k _ e1 with ⟨rfl, z1, w1, g1⟩ | ⟨d1, g1⟩ <;> rcases get j l _ e2 with ⟨rfl, z2, w2, g2⟩ | ⟨d2, g2⟩
      · exact uniq i j _ _ g1 g2
      · cases z1; exact absurd g2 (nq j l)
      · cases z2; exact absurd g1 (nq i k)
      · exact h.inj i j k l a g1 g2
  · rw [if_neg c, if_neg c]
    have nk : ∀ (j : Nat) (v : V), kvs[j]? ≠ some (key, v) := fun j v e => by
      rw [← hany] at c
      exact c (List.any_eq_true.mpr ⟨_, List.mem_of_getElem? e, decide_eq_true rfl⟩)
    have get : ∀ (j : Nat) (k : Key) (v : V), (kvs ++ [(key, V.ref q)])[j]? = some (k, v) → (j < kvs.length ∧ kvs[j]? = some (k, v)) ∨ (j = kvs.length ∧ k = key ∧ v = .ref q) := fun j k v e => by
      by_cases hj : j < kvs.length
      · rw [List.getElem?_append_left hj] at e; exact .inl ⟨hj, e⟩
      · rw [List.getElem?_append_right (by omega)] at e
        cases hn : j - kvs.length with
        | zero =>
          rw [hn] at e
          simp at e
          exact .inr ⟨by omega, e.1.symm, e.2.symm⟩
        | succ n => rw [hn] at e; simp at e
    refine ⟨by simp [h.len], ?_, fun j k v e => ?_, fun i j k l a e1 e2 => ?_⟩
    · rw [List.map_append, List.nodup_append]
      refine ⟨h.keys, by simp, fun x hx y hy => ?_⟩
      simp at hy
      subst hy
      intro z
      subst z
      obtain ⟨p, hp, e⟩ := List.mem_map.mp hx
      obtain ⟨j, hj⟩ := List.getElem?_of_mem hp
      exact nk j p.2 (by rw [hj, ← e])
    · rcases get j k v e with ⟨hj, e1⟩ | ⟨hj, rfl, rfl⟩
      · obtain ⟨a, us, es0, f1, e2, f⟩ := h.mem j k v e1
        exact ⟨a, us, es0, f1, by rw [List.getElem?_append_left (by rw [← h.len]; exact hj)]; exact e2, f⟩
      · exact ⟨q, vs, es, rfl, by rw [hj, h.len, List.getElem?_append_right (Nat.le_refl _), Nat.sub_self]; rfl, hq, nU, h0, hp, rs⟩
    · rcases get i k _ e1 with ⟨_, g1⟩ | ⟨h1, _, z1⟩ <;> rcases get j l _ e2 with ⟨_, g2⟩ | ⟨h2, _, z2⟩
      · exact h.inj i j k l a g1 g2
      · cases z2; exact absurd g1 (nq i k)
      · cases z1; exact absurd g2 (nq j l)
      · omega
theorem mx_putN {x : Str} {e j : Expr} {f : Vars → R (List PyData)} {k : Vars → R PyData} {p pos' pos : Pos} (hu : X.A.units + 1 < cLine) (hf : NX X W e f) (hk : EX X W j k) (hN : X.N[iu]? = some x := by rfl)
    (hs : swapsWith e (some (.Subscript (.Name x p) j pos')) pos.line X.env = pure false := by rfl)
    (hv : Vis X.env.scope x := by first | exact Or.inl rfl | exact Or.inr (Or.inl rfl) | exact Or.inr (Or.inr rfl)) (hdn : (x == ("__debug__" : Str)) = false := by decide) (hcd : (x == ("__classdict__" : Str)) = false := by decide) :
    MX X W iu (.Assign [.Subscript (.Name x p) j pos'] e pos) (sPutN iu f k) := by
  obtain ⟨t, q, ht⟩ := hf
  obtain ⟨u, q2, hu2⟩ := hk
  refine ⟨_, ps_dput hu (pe_var hN hv hdn hcd) q2 q hs, fun σ H ρ D H0 O0 O r z => ?_⟩
  unfold sPutN at z
  obtain ⟨U, kvs, ds, k1, k2, k3, k4, k5, k6⟩ := r.deep
  have e1 : ρ.getD iu none = some (.dict ds) := by rw [List.getD_eq_getElem?_getD, k1]; rfl
  have hlt : iu < ρ.length := (List.getElem?_eq_some_iff.mp k1).1
  rw [e1] at z
  dsimp only at z
  refine ht σ H O _ _ r.stands r.vrelM ?_
  cases ef : f (mask [iu] ρ) with
  | bad => rw [ef] at z; exact z
  | err c => rw [ef] at z; exact fun H' s => z σ H' O (r.step s) (hide_same s)
  | ok es =>
    rw [ef, R.run_ok] at z
    intro n vs H1 s1 hn hn1 rs
    obtain ⟨b1, sF1⟩ := r.base.growM s1 hn hn1 (.inl (.inl ⟨_, rfl⟩))
    have nO : n ∉ O := r.stands.new hn
    have nU : n ≠ U := fun z => nO (z ▸ k3)
    have i1 : InM X.K H0 (n :: O) H1 U kvs ds := k6.mono (fun a h => List.mem_cons_of_mem _ h) (fun a o _ _ h => s1 _ _ h) sF1
    have r1 : RelM X.K iu H0 O0 (n :: O) σ H1 ρ := ⟨b1, U, kvs, ds, k1, k2, List.mem_cons_of_mem _ k3, k4, s1 _ _ k5, i1⟩
    refine ⟨.ref U, k2, hu2 σ H1 (n :: O) _ _ r1.stands r1.vrelM (EOut.runM r1 (MOut.from z sF1) fun e w H2 s2 rw' z2 r2 => ?_)⟩
    cases hk : keyD e with
    | none => rw [hk] at z2; exact z2.elim
    | some key =>
      rw [hk] at z2
      have ev := rp_key rw' hk
      subst ev
      dsimp only at z2
      by_cases c : ds.length < sizeLine
      · rw [if_pos c] at z2
        have sF2 := hide_same (O := n :: O) s2
        have i2 := i1.mono (fun a h => h) (fun a o _ _ h => s2 _ _ h) sF2
        have i3 := i2.putNew (key := key) (q := n) (vs := vs) (es := es) List.mem_cons_self nU (r.same.free hn) (s2 _ _ hn1) (rs.mono sF2) fun j k e => by
          obtain ⟨a, _, _, ea, _, ha, _⟩ := k6.mem j k _ e
          cases ea
          exact nO ha
        obtain ⟨b3, sF3⟩ := r2.base.updM (a := U) (o := .dK (putK kvs key (.ref n))) (List.mem_cons_of_mem _ k3) k4 (.inr ⟨_, .inl rfl⟩)
        refine ⟨U, _, rfl, DPut.k (s2 _ _ (s1 _ _ k5)) (by rw [k6.len]; exact c), z2 σ _ (n :: O) ⟨by rw [List.set_set]; exact b3, U, _, _, List.getElem?_set_self hlt, k2, List.mem_cons_of_mem _ k3, k4, upd_same, i3.mono (fun a h => h) (fun a o na _ h => by rw [upd_ne na]; exact h) sF3⟩ sF3⟩
      · rw [if_neg c] at z2; exact z2.elim
def sMapp (iu : Nat) (k f : Vars → R PyData) (ρ : Vars) : Out := match ρ.getD iu none with
  | some (.dict ds) => (k (mask [iu] ρ)).run ρ fun e => match keyD e with
    | some key => match valD ds key with
      | some (.list es) => (f (mask [iu] ρ)).run ρ fun d => if es.length < sizeLine then .nx (ρ.set iu (some (.dict (putD ds key (.list (es ++ [d])))))) else .bad
      | _ => .bad
    | none => .bad
  | _ => .bad
@[simp] theorem u_sMapp (k f : Vars → R PyData) (ρ : Vars) : sMapp iu k f ρ = match ρ.getD iu none with
  | some (.dict ds) => (k (mask [iu] ρ)).run ρ fun e => match keyD e with
    | some key => match valD ds key with
      | some (.list es) => (f (mask [iu] ρ)).run ρ fun d => if es.length < sizeLine then .nx (ρ.set iu (some (.dict (putD ds key (.list (es ++ [d])))))) else .bad
      | _ => .bad
    | none => .bad
  | _ => .bad := rfl
theorem InM.find {K : PySem.W.Frag} {H0 : Hp} {O : List Addr} {H : Hp} {U : Addr} {kvs : List (Key × V)} {ds : List (PyData × PyData)} {key : Key} {d : PyData} (h : InM K H0 O H U kvs ds) (e : valD ds key = some d) : ∃ (a : Addr) (vs : List V) (es : List PyData) (j : Nat), d = .list es ∧ valV kvs key = some (V.ref a) ∧ kvs[j]? = some (key, V.ref a) ∧ a ∈ O ∧ a ≠ U ∧ H0 a = none ∧ H a = some (.lst vs) ∧ Rps K (hide O H) vs es := by
  have r : Rpd K (hide [] H) kvs ds := h.rpd (hide_less fun a ha => by cases ha) fun a o _ _ _ _ g => hide_of (by simp) g
  rcases rpd_val key r with ⟨v, d', e1, e2, e3⟩ | ⟨e1, e2⟩
  · rw [e2] at e
    cases e
    have e1' := e1
    unfold valV at e1'
    obtain ⟨p, hp, ep⟩ := Option.map_eq_some_iff.mp e1'
    have hk := List.find?_some hp
    have hm := List.mem_of_find?_eq_some hp
    obtain ⟨j, hj⟩ := List.getElem?_of_mem hm
    have hk : p.1 = key := of_decide_eq_true hk
    have hj : kvs[j]? = some (key, v) := by rw [hj, ← hk, ← ep]
    obtain ⟨a, vs, es, f1, f2, f3, f4, f5, f6, f7⟩ := h.mem j key v hj
    subst f1
    refine ⟨a, vs, es, j, ?_, e1, hj, f3, f4, f5, f6, f7⟩
    obtain ⟨k', v', q1, q2, q3⟩ := r.get f2
    rw [hj] at q1
    cases q1
    unfold valD at e2
    obtain ⟨p2, hp2, ep2⟩ := Option.map_eq_some_iff.mp e2
    have hk2 := List.find?_some hp2
    have hk2 : keyD p2.1 = some key := of_decide_eq_true hk2
    obtain ⟨j2, hj2⟩ := List.getElem?_of_mem (List.mem_of_find?_eq_some hp2)
    obtain ⟨k3, v3, s1, s2, s3⟩ := r.get hj2
    rw [s2, keyD_kD] at hk2
    cases hk2
    have m1 : (kvs.map (·.1))[j]? = some key := by rw [List.getElem?_map, hj]; rfl
    have m2 : (kvs.map (·.1))[j2]? = some key := by rw [List.getElem?_map, s1]; rfl
    have l1' : j < (kvs.map (·.1)).length := (List.getElem?_eq_some_iff.mp m1).1
    have l2' : j2 < (kvs.map (·.1)).length := (List.getElem?_eq_some_iff.mp m2).1
    rw [List.getElem?_eq_getElem l1'] at m1
    rw [List.getElem?_eq_getElem l2'] at m2
    have : j = j2 := (List.getElem_inj h.keys).mp (Option.some.inj (m1.trans m2.symm))
    subst this
    rw [f2] at hj2
    cases hj2
    exact ep2.symm
  · rw [e2] at e; cases e
theorem InM.putAt {K : PySem.W.Frag} {H0 : Hp} {O : List Addr} {H H' : Hp} {U a : Addr} {kvs : List (Key × V)} {ds : List (PyData × PyData)} {key : Key} {j0 : Nat} {vs : List V} {es : List PyData} (h : InM K H0 O H U kvs ds) (e : kvs[j0]? = some (key, .ref a)) (sF : Same (hide O H) (hide O H')) (s : ∀ b o, b ≠ a → H b = some o → H' b = some o) (hp : H' a = some (.lst vs)) (rs : Rps K (hide O H') vs es) :
    InM K H0 O H' U kvs (putD ds key (.list es)) := by
  obtain ⟨a', _, es0, ea, hd, ha, nU, h0, _⟩ := h.mem j0 key _ e
  cases ea
  have hany : (ds.any fun p => decide (keyD p.1 = some key)) = true := List.any_eq_true.mpr ⟨_, List.mem_of_getElem? hd, decide_eq_true (keyD_kD key)⟩
  unfold putD
  rw [if_pos hany]
  refine ⟨by rw [List.length_map]; exact h.len, h.keys, fun j k v ej => ?_, h.inj⟩
  obtain ⟨b, us, fs, f1, f2, f3, f4, f5, f6, f7⟩ := h.mem j k v ej
  by_cases c : k = key
  · subst c
    have m1 : (kvs.map (·.1))[j]? = some k := by rw [List.getElem?_map, ej]; rfl
    have m2 : (kvs.map (·.1))[j0]? = some k := by rw [List.getElem?_map, e]; rfl
    have l1' : j < (kvs.map (·.1)).length := (List.getElem?_eq_some_iff.mp m1).1
    have l2' : j0 < (kvs.map (·.1)).length := (List.getElem?_eq_some_iff.mp m2).1
    rw [List.getElem?_eq_getElem l1'] at m1
    rw [List.getElem?_eq_getElem l2'] at m2
    have : j = j0 := (List.getElem_inj h.keys).mp (Option.some.inj (m1.trans m2.symm))
    subst this
    rw [e] at ej
    cases ej
    refine ⟨a, vs, es, rfl, ?_, ha, nU, h0, hp, rs⟩
    rw [List.getElem?_map, hd]
    show some (if keyD (kD k) = some k then _ else _) = _
    rw [if_pos (keyD_kD k)]
  · subst f1
    have nb : b ≠ a := fun z => by
      subst z
      have := h.inj j j0 k key b ej e
      subst this
      rw [e] at ej
      cases ej
      exact c rfl
    refine ⟨b, us, fs, rfl, ?_, f3, f4, f5, s _ _ nb f6, f7.mono sF⟩
    rw [List.getElem?_map, f2]
    show some (if keyD (kD k) = some key then _ else _) = _
    rw [if_neg (by rw [keyD_kD]; intro z; cases z; exact c rfl)]
theorem mx_mapp {x : Str} {e j : Expr} {f k : Vars → R PyData} {p p2 apos cpos pos : Pos} (hu : X.A.units + 1 < cLine) (hk : EX X W j k) (h : EX X W e f) (hsl : NoSl j := by exact fun _ _ => rfl) (hN : X.N[iu]? = some x := by rfl) (hv : Vis X.env.scope x := by first | exact Or.inl rfl | exact Or.inr (Or.inl rfl) | exact Or.inr (Or.inr rfl)) (hd : (x == ("__debug__" : Str)) = false := by decide)
    (hcd : (x == ("__classdict__" : Str)) = false := by decide)
    (hbase : attributeBase (.Subscript (.Name x p) j p2) "append" X.env (eval (.Subscript (.Name x p) j p2) X.env) = eval (.Subscript (.Name x p) j p2) X.env := by rfl)
    (hfew : ((backTo cpos (starEach [e] X.env)).all (fun x => !x.1) && (backToKw cpos (keywordEach [] X.env)).all (fun x => x.1.isSome)
      && decide (([e] : List Expr).length + ([] : List Keyword).length + (if ([] : List Keyword).isEmpty then 0 else 1) < 30)) = true := by rfl)
    (hline : (apos.endLine == cpos.line) = true := by rfl) (hs : starEach [e] X.env = (false, eval e X.env) :: starEach [] X.env := by rfl) (hplain : (backTo cpos (starEach [] X.env)).any (·.1) = false := by rfl)
    (hsw : swapsWith (.Call (.Attribute (.Subscript (.Name x p) j p2) "append" apos) [e] [] cpos) none pos.line X.env = pure false := by rfl) :
    MX X W iu (.Expr (.Call (.Attribute (.Subscript (.Name x p) j p2) "append" apos) [e] [] cpos) pos) (sMapp iu k f) := by
  obtain ⟨t, q, ht⟩ := h
  obtain ⟨u, q2, hu2⟩ := hk
  refine ⟨_, ps_expr (pe_bm PySem.F.plainAttrs_list PySem.F.slot_list_append PySem.F.type_list_append mt_append (pe_dget hu (pe_var hN hv hd hcd) q2 hsl) (pa_cons q pa_nil hs) hbase hfew hline hs hplain) hsw, fun σ H ρ D H0 O0 O r z => ?_⟩
  unfold sMapp at z
  obtain ⟨U, kvs, ds, k1, k2, k3, k4, k5, k6⟩ := r.deep
  have e1 : ρ.getD iu none = some (.dict ds) := by rw [List.getD_eq_getElem?_getD, k1]; rfl
  have hlt : iu < ρ.length := (List.getElem?_eq_some_iff.mp k1).1
  rw [e1] at z
  dsimp only at z
  refine ⟨.ref U, k2, hu2 σ H O _ _ r.stands r.vrelM (EOut.runM r z fun e w H1 s1 rw' z1 r1 => ?_)⟩
  cases hk : keyD e with
  | none => rw [hk] at z1; exact z1.elim
  | some key =>
    rw [hk] at z1
    have ev := rp_key rw' hk
    subst ev
    dsimp only at z1
    cases hval : valD ds key with
    | none => rw [hval] at z1; exact z1.elim
    | some dl =>
      rw [hval] at z1
      have sF1 := hide_same (O := O) s1
      have i1 := k6.mono (fun a h => h) (fun a o _ _ h => s1 _ _ h) sF1
      obtain ⟨a, vs, es, j0, rfl, f1, f2, f3, f4, f5, f6, f7⟩ := i1.find hval
      dsimp only at z1
      refine ⟨U, .ref a, rfl, ?_, .inl ⟨rfl, vs, .inl (.inl f6)⟩, ht σ H1 O _ _ r1.stands r1.vrelM (EOut.runM r1 z1 fun d v H2 s2 rv z2 r2 => ?_)⟩
      · exact .inl ⟨kvs, key, .inl (s1 _ _ k5), rfl, f1.symm⟩
      by_cases c : es.length < sizeLine
      · rw [if_pos c] at z2
        have sF2 := hide_same (O := O) s2
        have i2 := i1.mono (fun a h => h) (fun a o _ _ h => s2 _ _ h) sF2
        obtain ⟨b3, sF3⟩ := r2.base.updM (a := a) (o := .lst (vs ++ [v])) f3 f5 (.inl (.inl ⟨_, rfl⟩))
        have rs3 := (((f7.mono sF2).append (.cons rv .nil))).mono sF3
        have i3 := i2.putAt (H' := upd H2 a (.lst (vs ++ [v]))) f2 sF3 (fun b o nb h => by rw [upd_ne nb]; exact h) upd_same rs3
        exact ⟨a, vs, v, rfl, rfl, s2 _ _ f6, by rw [f7.length]; exact c, z2 σ _ O ⟨by rw [List.set_set]; exact b3, U, _, _, List.getElem?_set_self hlt, k2, k3, k4, by rw [upd_ne (Ne.symm f4)]; exact s2 _ _ (s1 _ _ k5), i3⟩ sF3⟩
      · rw [if_neg c] at z2; exact z2.elim
end
section
variable (X : Cx) (E : XK)
def BMX (iu : Nat) (sts : List Stmt) (g : Vars → Out) : Prop :=
  ∃ t, PSs X sts t ∧ ∀ σ H ρ Q H0 O0 O, RelM X.K iu H0 O0 O σ H ρ → BOut X E H0 O0 Q (g ρ) → t { nx := fun _ H' => Q .non H', rt := Q } σ H
end
section
variable {X : Cx} {E : XK} {iu : Nat}
theorem BMX.cons {st : Stmt} {rest : List Stmt} {g h : Vars → Out} (a : MX X (WD E) iu st g) (b : BMX X E iu rest h) : BMX X E iu (st :: rest) (sSeq g h) := by
  obtain ⟨t, p, ht⟩ := a
  obtain ⟨u, q, hu⟩ := b
  refine ⟨_, pss_cons p q, fun σ H ρ Q H0 O0 O r z => ht σ H ρ _ H0 O0 O r ?_⟩
  unfold sSeq at z
  cases e : g ρ with
  | nx ρ1 => rw [e] at z; exact fun σ1 H1 O1 r1 s1 => hu σ1 H1 ρ1 Q H0 O0 O1 r1 z
  | err c ρ' => rw [e] at z; exact fun σ' H' O' r' s' => z H' r'.same
  | rt d => rw [e] at z; exact z
  | bk _ => rw [e] at z; exact z.elim
  | ct _ => rw [e] at z; exact z.elim
  | bad => rw [e] at z; exact z.elim
def sNewM (iu : Nat) (ρ : Vars) : Out := if iu < ρ.length then .nx (ρ.set iu (some (.dict []))) else .bad
@[simp] theorem u_sNewM (ρ : Vars) : sNewM iu ρ = if iu < ρ.length then .nx (ρ.set iu (some (.dict []))) else .bad := rfl
theorem BX.consM {x : Str} {lp pos' pos : Pos} {rest : List Stmt} {h : Vars → Out} (hN : X.N.Nodup) (hi : X.N[iu]? = some x) (hx : Loc X.env.scope x) (b : BMX X E iu rest h) (hs : swapsWith (.Dict [] [] lp) (some (.Name x pos')) pos.line X.env = pure false := by rfl) (hf : X.fn x = true ∨ X.env.scope.names.lookup x = some .local := by first | exact .inl rfl | exact .inr rfl | assumption) :
    BX X E [] (.Assign [.Name x pos'] (.Dict [] [] lp) pos :: rest) (sSeq (sNewM iu) h) := by
  obtain ⟨u, q, hu⟩ := b
  refine ⟨_, pss_cons (ps_set hN hi hx pe_dnewK hs hf) q, fun σ H ρ Q H0 O0 O r z => ?_⟩
  unfold sSeq sNewM at z
  by_cases c : iu < ρ.length
  case neg => rw [if_neg c] at z; exact z.elim
  rw [if_pos c] at z
  intro U hU
  obtain ⟨b1, sF1⟩ := r.growM (same_new (o := .dK []) hU) hU upd_same (.inr ⟨_, .inl rfl⟩)
  have hl := r.len
  exact hu _ _ _ _ H0 O0 (U :: O) ⟨by rw [List.set_set]; exact b1.none (by simp), U, [], [], List.getElem?_set_self c, List.getElem?_set_self (by omega), List.mem_cons_self, r.same.free hU, upd_same, ⟨rfl, by simp, (fun j k v e => by cases e), (fun i j k l a e => by cases e)⟩⟩ z
theorem BMX.freeze {sts : List Stmt} {g : Vars → Out} (b : BX X E [] sts g) : BMX X E iu sts g := by
  obtain ⟨t, p, ht⟩ := b
  exact ⟨t, p, fun σ H ρ Q H0 O0 O r z => ht σ H ρ Q H0 O0 O0 r.freeze z⟩
end
end Pu
set_option Elab.async false
set_option linter.all false
set_option maxRecDepth 100000
set_option maxHeartbeats 4000000
namespace Pu
open PySem PySem.Spec PyProof.Rows L2
def gListK (ds : List PyData) : Option PyData := match ds with
  | [.dict kvs] => if insB kvs = true then none else some (.list (kvs.map itK))
  | _ => none
theorem rps_keys {K : PySem.W.Frag} {F F' : Hp} : ∀ {kvs : List (Key × V)} {ds : List (PyData × PyData)}, Rpd K F kvs ds → Rps K F' (kvs.map fun kv => kV kv.1) (ds.map itK)
  | _, _, .nil => .nil
  | _, _, .cons (k := k) h r => .cons (rp_kV k) (rps_keys r)
theorem calld_listK {K : PySem.W.Frag} : CallD K (fun xs H Q => ∃ (a : Addr) (kvs : List (Key × V)), xs = [.ref a] ∧ Rd H a (.dK kvs) ∧ ∀ p, H p = none → Q (.ref p) (upd H p (.lst (kvs.map fun kv => kV kv.1)))) gListK := by
  intro H O xs ds z Q hO rx h q
  match ds, h, rx with
  | [.dict kvs], h, rx =>
    obtain ⟨v, rfl, rv⟩ := rps_one rx
    unfold gListK at h
    dsimp only at h
    by_cases c : insB kvs = true
    · rw [if_pos c] at h; cases h
    · rw [if_neg c] at h
      cases h
      have c : insB kvs = false := by simpa using c
      cases rv with
      | @dic a vs _ hx r =>
        exact ⟨a, vs, rfl, rd_mono hide_sub hx, fun p hp => q _ _ (same_new hp) (new_repL hO hp (rps_keys r))⟩
      | ins => cases c
      | fn _ => cases c
      | fn0 => cases c
      | dct => cases c
      | tpx => cases c
  | [], h, _ => cases h
  | .none :: _, h, _ => cases h
  | .bool _ :: _, h, _ => cases h
  | .int _ :: _, h, _ => cases h
  | .str _ :: _, h, _ => cases h
  | .list _ :: _, h, _ => cases h
  | .tuple _ :: _, h, _ => cases h
  | .dict _ :: _ :: _, h, _ => cases h
def gIdx (ds : List PyData) (d : PyData) : Option PyData := if (SeqAt.shaped d && SeqAt.shaped (.list ds)) = true then (ds.findIdx? fun z => PyData.eqv z d).map fun j => .int (j : Nat) else Option.none
@[simp] def eIdx (f g : Vars → R PyData) (ρ : Vars) : R PyData := (f ρ).bind fun d => match d with
  | .list ds => (g ρ).bind fun e => R.of (gIdx ds e)
  | _ => .bad
section
variable {X : Cx} {W : WX} {own : List Nat}
theorem ex_idx {o e : Expr} {f g : Vars → R PyData} {apos cpos : Pos} (hu : X.A.units + 65 < cLine) (ho : EX X W o f) (h : EX X W e g)
    (hbase : attributeBase o "index" X.env (eval o X.env) = eval o X.env := by rfl)
    (hfew : ((backTo cpos (starEach [e] X.env)).all (fun x => !x.1) && (backToKw cpos (keywordEach [] X.env)).all (fun x => x.1.isSome)
      && decide (([e] : List Expr).length + ([] : List Keyword).length + (if ([] : List Keyword).isEmpty then 0 else 1) < 30)) = true := by rfl)
    (hline : (apos.endLine == cpos.line) = true := by rfl) (hs : starEach [e] X.env = (false, eval e X.env) :: starEach [] X.env := by rfl) (hplain : (backTo cpos (starEach [] X.env)).any (·.1) = false := by rfl) :
    EX X W (.Call (.Attribute o "index" apos) [e] [] cpos) (eIdx f g) := by
  obtain ⟨t, q, ht⟩ := ho
  obtain ⟨u, q2, hu2⟩ := h
  refine ⟨_, pe_bm PySem.F.plainAttrs_list PySem.F.slot_list_index PySem.F.type_list_index (mt_indexD hu) q (pa_cons q2 pa_nil hs) hbase hfew hline hs hplain, fun σ H O ρ Q hO hv z => ?_⟩
  refine ht σ H O ρ _ hO hv (EOut.then (g := fun d => match d with
    | .list ds => (g ρ).bind fun e => R.of (gIdx ds e)
    | _ => .bad) EOut.b EOut.e z fun d v H1 s1 r1 z1 => ?_)
  cases d <;> try exact z1.elim
  rename_i ds
  cases r1 with
  | @lst a xs _ hx rs =>
    refine ⟨.inl ⟨rfl, xs, seqL hide_sub hx⟩, hu2 σ H1 O ρ _ (hO.same s1) (hv.mono (hide_same s1)) ?_⟩
    refine EOut.then (g := fun e => R.of (gIdx ds e)) EOut.b EOut.e (z1.from s1) fun e v2 H2 s2 r2 z2 => ?_
    replace z2 : EOut X W O σ H1 Q (R.of (gIdx ds e)) := z2
    unfold gIdx at z2
    by_cases c : (SeqAt.shaped e && SeqAt.shaped (.list ds)) = true
    · rw [if_pos c] at z2
      rw [Bool.and_eq_true] at c
      cases ej : ds.findIdx? fun z => PyData.eqv z e with
      | none => rw [ej] at z2; exact z2.elim
      | some j =>
        rw [ej] at z2
        obtain ⟨hj, h1, h2⟩ := List.findIdx?_eq_some_iff_getElem.mp ej
        have hl : Rp X.K (hide O H2) (.ref a) (.list ds) := (Rp.lst hx rs).mono (hide_same s2)
        exact ⟨a, v2, e, ds, j, ds[j], rfl, rfl, hl.dp (SeqAt.canLay_of_shaped c.2) hide_sub, r2.dp (SeqAt.canLay_of_shaped c.1) hide_sub, c.2, c.1, List.getElem?_eq_getElem hj, h1, fun m z' hm hz => by
          obtain ⟨hml, ez⟩ := List.getElem?_eq_some_iff.mp hz
          have := h2 m hm
          rw [ez] at this
          simpa using this, z2 _ H2 s2 (.int _)⟩
    · rw [if_neg c] at z2; exact z2.elim
def sForM (own : List Nat) (fa fk : Vars → R PyData) (gt : PyData → Vars → Option Vars) (g : Vars → Out) (ρ : Vars) : Out := (fa (mask own ρ)).run ρ fun d => (fk ρ).run ρ fun e => match R.of ((gDix d e).bind fun x => match x with
  | .list es => some es
  | _ => Option.none) with
  | .ok es => forL gt g es ρ
  | _ => .bad
@[simp] theorem u_sForM (own : List Nat) (fa fk : Vars → R PyData) (gt : PyData → Vars → Option Vars) (g : Vars → Out) (ρ : Vars) : sForM own fa fk gt g ρ = (fa (mask own ρ)).run ρ fun d => (fk ρ).run ρ fun e => match R.of ((gDix d e).bind fun x => match x with
  | .list es => some es
  | _ => Option.none) with
  | .ok es => forL gt g es ρ
  | _ => .bad := rfl
theorem gDix_rp {K : PySem.W.Frag} {F : Hp} {v : V} {d e : PyData} {es : List PyData} (r : Rp K F v d) (h : gDix d e = some (.list es)) : ∃ a kvs k w, v = .ref a ∧ Rd F a (.dK kvs) ∧ keyD e = some k ∧ valV kvs k = some w ∧ Rp K F w (.list es) := by
  cases r with
  | @dic a kvs ds hd rd =>
    replace h : (keyD e).bind (valD ds) = some (.list es) := h
    cases hk : keyD e with
    | none => rw [hk] at h; cases h
    | some k =>
      rw [hk, Option.bind_some] at h
      rcases rpd_val k rd with ⟨w, d, e1, e2, e3⟩ | ⟨e1, e2⟩
      · rw [e2] at h
        cases h
        exact ⟨a, kvs, k, w, rfl, hd, rfl, e1, e3⟩
      · rw [e2] at h; cases h
  | fn _ =>
    have : ∀ b : PyData, gDix (.dict [(.none, b)]) e = none := fun b => by show (keyD e).bind _ = none; cases keyD e <;> rfl
    rw [this] at h; cases h
  | fn0 =>
    have : ∀ b : PyData, gDix (.dict [(.none, b)]) e = none := fun b => by show (keyD e).bind _ = none; cases keyD e <;> rfl
    rw [this] at h; cases h
  | tpx =>
    have : ∀ b c : PyData, gDix (.dict [(.none, b), (.none, c)]) e = none := fun b c => by show (keyD e).bind _ = none; cases keyD e <;> rfl
    rw [this] at h; cases h
  | dct =>
    have : ∀ b : PyData, gDix (.dict [(.none, b)]) e = none := fun b => by show (keyD e).bind _ = none; cases keyD e <;> rfl
    rw [this] at h; cases h
  | ins =>
    have : ∀ b : PyData, gDix (.dict [(.none, b)]) e = none := fun b => by show (keyD e).bind _ = none; cases keyD e <;> rfl
    rw [this] at h; cases h
  | _ => cases h
theorem sx_forM {tg a b : Expr} {body : List Stmt} {js : List Nat} {fa fk : Vars → R PyData} {gt : PyData → Vars → Option Vars} {g : Vars → Out} {pos2 pos : Pos} (hu : X.A.units + 1 < cLine) (hp : PassesOwn (model X.prog X.w) X.A X.env X.xe) (hc : X.calm = true) (ha : EX X W a fa) (hk : EX X W b fk) (hg : GX X tg js gt) (hin : GtIn js gt) (ho : (js.all fun j => !own.contains j) = true)
    (hb : SsX X W own body g) (hsl : NoSl b := by exact fun _ _ => rfl) (hs : ∀ x, foldedSetIterable (.Subscript a b pos2) X.env x = pure x := by intro _; rfl) : SX X W own (.For tg (.Subscript a b pos2) body [] pos) (sForM own fa fk gt g) := by
  obtain ⟨ta, pa, hta⟩ := ha
  obtain ⟨tk, pk, htk⟩ := hk
  obtain ⟨ok, tgt, q, hgt⟩ := hg
  obtain ⟨tb, pb, htb⟩ := hb
  have hj : ∀ j ∈ js, j ∉ own := fun j h z => by
    have := List.all_eq_true.mp ho j h
    rw [List.contains_iff_mem.mpr z] at this; cases this
  refine ⟨_, ps_for hp hc (pi_seq (pe_dget hu pa pk hsl)) q pb hs, fun σ H ρ D H0 O0 O r z => ?_⟩
  unfold sForM at z
  refine hta σ H O _ _ r.stands r.vrelM (EOut.run r z fun d v H1 s1 rv z1 r1 => ?_)
  refine htk σ H1 O0 _ _ r1.stands0 r1.vrel0 (EOut.run r1 z1 fun e w H2 s2 rw' z2 r2 => ?_)
  cases hd : gDix d e with
  | none => rw [hd] at z2; exact z2.elim
  | some x =>
    rw [hd] at z2
    cases x <;> try exact z2.elim
    rename_i ds
    replace z2 : SOut X W own H0 O0 O H2 D (forL gt g ds ρ) := z2
    obtain ⟨ad, kvs, k, y, rfl, hx, ek, ev, ry⟩ := gDix_rp (rv.mono (hide_same s2)) hd
    have ew := rp_key rw' ek
    subst ew
    refine ⟨ad, y, rfl, by rw [← ev]; exact dget_of hx (Same.refl _), ?_⟩
    cases ry with
    | @lst al xs _ hl rs =>
      refine ⟨al, rfl, .inl ⟨⟨xs, seqL hide_sub hl⟩, ?_⟩⟩
      have hJ := iterL hl rs
      refine ⟨fun i m σ2 H3 => m = ds.length - i ∧ i ≤ ds.length ∧ ∃ O2 ρ2, Rel X.K own H0 O0 O2 σ2 H3 ρ2 ∧ Same (hide O H2) (hide O2 H3) ∧ SOut X W own H0 O0 O2 H3 D (forL gt g (ds.drop i) ρ2), ⟨ds.length, rfl, Nat.zero_le _, O, ρ, r2, Same.refl _, z2⟩, ?_⟩
      rintro i m σ2 H3 ⟨rfl, hle, O2, ρ2, r3, sF, z3⟩
      obtain ⟨j1, j2⟩ := hJ i H3 O2 r3.stands sF
      by_cases hlt : i < ds.length
      · have hdi : ds[i]? = some ds[i] := List.getElem?_eq_getElem hlt
        obtain ⟨g1, g2⟩ := j1 _ hdi
        have hdrop : ds.drop i = ds[i] :: ds.drop (i + 1) := List.drop_eq_getElem_cons hlt
        rw [hdrop] at z3
        unfold forL at z3
        cases eg : gt ds[i] ρ2 with
        | none => rw [eg] at z3; exact z3.elim
        | some ρ3 =>
          rw [eg] at z3
          dsimp only at z3
          refine .inr ⟨g1, fun σ' H' => (i + 1 ≤ ds.length ∧ ∃ O2 ρ2, Rel X.K own H0 O0 O2 σ' H' ρ2 ∧ Same (hide O H2) (hide O2 H') ∧ SOut X W own H0 O0 O2 H' D (forL gt g (ds.drop (i + 1)) ρ2)),
            fun σ' H' hn => ⟨ds.length - (i + 1), by omega, rfl, hn.1, hn.2⟩, fun x H4 y => ?_⟩
          obtain ⟨s23, rx⟩ := g2 x H4 y
          have r4 := r3.step s23
          refine hgt x ds[i] σ2 H4 O2 (mask own ρ2) (mask own ρ3) _ r4.stands r4.vrelM rx (ok.msk own _ ρ2 ρ3 hj eg) fun σ3 v3 l3 f3 => ?_
          have r5 : Rel X.K own H0 O0 O2 σ3 H4 ρ3 := other_of ok hj r4 eg v3 l3 f3 (hin.out _ ρ2 ρ3 eg)
          have sF3 : Same (hide O H2) (hide O2 H4) := sF.trans (hide_same s23)
          refine htb σ3 H4 ρ3 _ H0 O0 O2 r5 ?_
          cases eb : g ρ3 with
          | nx ρ4 =>
            rw [eb] at z3
            exact fun σ5 H5 O5 r6 s5 => ⟨hlt, O5, ρ4, r6, sF3.trans s5, SOut.from z3 ((hide_same s23).trans s5)⟩
          | ct ρ4 =>
            rw [eb] at z3
            exact fun σ5 H5 O5 r6 s5 => ⟨hlt, O5, ρ4, r6, sF3.trans s5, SOut.from z3 ((hide_same s23).trans s5)⟩
          | bk ρ4 =>
            rw [eb] at z3
            exact fun σ5 H5 O5 r6 s5 => z3 σ5 H5 O5 r6 ((hide_same s23).trans s5)
          | rt d => rw [eb] at z3; exact RtW.from z3 (hide_same s23)
          | err c ρ4 =>
            rw [eb] at z3
            exact fun σ5 H5 O5 r6 s5 => z3 σ5 H5 O5 r6 ((hide_same s23).trans s5)
          | bad => rw [eb] at z3; exact z3
      · have e3 : i = ds.length := by omega
        subst e3
        refine .inl ⟨j2 (Nat.le_refl _), ?_⟩
        rw [List.drop_length] at z3
        exact z3 σ2 H3 O2 r3 (Same.refl _)
end
end Pu
set_option Elab.async false
set_option linter.all false
set_option maxRecDepth 100000
namespace Pu
open PySem
def G_kinds_of (S : Nat → List PyData → R PyData) : Vars → Out :=
  (sSeq (sNewV [1] 1 (eC (.dict [])))
    (sSeq (sForDP [1] false (eVar 0) itI (gtTup 2 (gtCons (gtName 2) (gtCons (gtName 3) gtNil))) (sSeq (sDPutM [1] 1 (eC (.bool true)) (eVar 2)) (sFor [1] (iSeq (eVar 3)) (gtName 4) (sDPutM [1] 1 (eC (.bool true)) (eVar 4)))))
    (sRet (eCall gListK (aCons (eVar 1) aNil)))))
def G_next_rank (S : Nat → List PyData → R PyData) : Vars → Out :=
  (sSeq (sSet [] 2 (eC (.int 0)))
    (sSeq (sFor [] (iSeq (eVar 0)) (gtName 3) (sSeq (sIf (tOf (eOp gDnin (eVar 3) (eVar 1))) (sRet (eC .none)) sNil) (sSet [] 2 (eCall gMax2 (aCons (eVar 2) (aCons (eOp gAdd (eOp gDix (eVar 1) (eVar 3)) (eC (.int 1))) aNil))))))
    (sRet (eVar 2))))
def G_ring_from (S : Nat → List PyData → R PyData) : Vars → Out :=
  (sSeq (sNew [3] 3 (nLst (aCons (eVar 0) aNil)))
    (whileL (tTru (eC (.bool true))) (sSeq (sSetM [3] 4 (eC .none)) (sSeq (sForM [3] (eVar 1) (eOp gIx (eVar 3) (eNeg (eC (.int 1)))) (gtName 5) (sIf (tAndR (tOf (eOp gDnin (eVar 5) (eVar 2))) (tOf (eOp gIsN (eVar 4) (eC .none)))) (sSetM [3] 4 (eVar 5)) sNil)) (sSeq (sIf (tOf (eOp gInL (eVar 4) (eVar 3))) (sRet (eSl (eVar 3) (oSome (eIdx (eVar 3) (eVar 4))) oNone)) sNil) (sAppM [3] 3 (eVar 4))))) wfuel))
def G_ranks (c0 c1 c2 : Nat) (S : Nat → List PyData → R PyData) : Vars → Out :=
  (sSeq (sNewV [1] 1 (eC (.dict [])))
    (sSeq (sSetM [1] 2 (eFn (S c0) (aCons (eVar 0) aNil)))
    (sSeq (sFor [1] (iRange (aCons (eCall gLen (aCons (eVar 2) aNil)) aNil)) (gtName 3) (sFor [1] (iSeq (eVar 2)) (gtName 4) (sIf (tOf (eOp gDnin (eVar 4) (eVar 1))) (sSeq (sSet [1] 5 (eFn (S c1) (aCons (eDget (eVar 0) (eVar 4) (eLst aNil)) (aCons (eVar 1) aNil)))) (sIf (tOf (eOp gNotN (eVar 5) (eC .none))) (sDPutM [1] 1 (eVar 5) (eVar 4)) sNil)) sNil)))
    (sSeq (sFor [] (iSeq (eVar 2)) (gtName 4) (sIf (tOf (eOp gDnin (eVar 4) (eVar 1))) (sRet (eTup (aCons (eC (.str "ring")) (aCons (eFn (S c2) (aCons (eVar 4) (aCons (eVar 0) (aCons (eVar 1) aNil)))) aNil)))) sNil))
    (sRet (eTup (aCons (eC (.str "ranks")) (aCons (eVar 1) aNil))))))))
end Pu
set_option Elab.async false
set_option linter.all false
set_option maxRecDepth 100000
namespace Pu
open PySem
end Pu
set_option Elab.async false
set_option linter.all false
set_option maxRecDepth 100000
set_option maxHeartbeats 4000000
namespace Nm
open PySem Pu
inductive O where
  | z | c (e : O) (n : Int) (r : O)
  deriving DecidableEq
namespace O
def parts : O → List (O × Int)
  | z => []
  | c e n r => (e, n) :: r.parts
def of : List (O × Int) → O
  | [] => z
  | (e, n) :: r => c e n (of r)
@[simp] theorem of_parts : ∀ a : O, of a.parts = a
  | z => rfl
  | c e n r => by show c e n (of r.parts) = _; rw [of_parts r]
@[simp] theorem parts_of : ∀ ps : List (O × Int), (of ps).parts = ps
  | [] => rfl
  | (e, n) :: r => by show (e, n) :: (of r).parts = _; rw [parts_of r]
def h : O → Nat
  | z => 0
  | c e _ r => max (e.h + 1) r.h
def size : O → Nat
  | z => 0
  | c e _ r => 1 + e.size + r.size
def len : O → Nat
  | z => 0
  | c _ _ r => r.len + 1
theorem len_parts : ∀ a : O, a.parts.length = a.len
  | z => rfl
  | c e n r => by show r.parts.length + 1 = _; rw [len_parts r]; rfl
theorem h_le_size : ∀ a : O, a.h ≤ a.size
  | z => Nat.le_refl _
  | c e n r => by
    have h1 := h_le_size e
    have h2 := h_le_size r
    show max (e.h + 1) r.h ≤ 1 + e.size + r.size
    omega
theorem len_le_size : ∀ a : O, a.len ≤ a.size
  | z => Nat.le_refl _
  | c e n r => by
    have h2 := len_le_size r
    show r.len + 1 ≤ 1 + e.size + r.size
    omega
end O
open O
def encL : O → List PyData
  | .z => []
  | .c e n r => .tuple [.tuple (encL e), .int n] :: encL r
abbrev enc (a : O) : PyData := .tuple (encL a)
abbrev encP (p : O × Int) : PyData := .tuple [enc p.1, .int p.2]
@[simp] theorem encL_z : encL .z = [] := rfl
@[simp] theorem encL_c (e : O) (n : Int) (r : O) : encL (.c e n r) = .tuple [.tuple (encL e), .int n] :: encL r := rfl
theorem encL_parts : ∀ a : O, encL a = a.parts.map encP
  | .z => rfl
  | .c e n r => by show _ :: encL r = _ :: (r.parts.map encP); rw [encL_parts r]
@[simp] theorem encL_len (a : O) : (encL a).length = a.len := by rw [encL_parts, List.length_map, len_parts]
@[simp] theorem gEq_int (i j : Int) : gEq (.int i) (.int j) = some (.bool (decide (i = j))) := by
  unfold gEq shp
  simp [PyData.canLay0, PyData.depth, PyData.eqv, Bool.beq_eq_decide_eq]
@[simp] theorem gNe_int (i j : Int) : gNe (.int i) (.int j) = some (.bool (!decide (i = j))) := by
  unfold gNe shp
  simp [PyData.canLay0, PyData.depth, PyData.eqv, Bool.beq_eq_decide_eq]
def cmp : O → O → Int
  | .z, .z => 0
  | .z, .c _ _ _ => -1
  | .c _ _ _, .z => 1
  | .c e n r, .c e' n' r' => if cmp e e' ≠ 0 then cmp e e' else if n ≠ n' then (if n > n' then 1 else -1) else cmp r r'
theorem cmp_eq : ∀ a b : O, cmp a b = 0 ↔ a = b
  | .z, .z => by simp [cmp]
  | .z, .c _ _ _ => by simp [cmp]
  | .c _ _ _, .z => by simp [cmp]
  | .c e n r, .c e' n' r' => by
    unfold cmp
    have h1 := cmp_eq e e'
    have h2 := cmp_eq r r'
    by_cases c1 : cmp e e' = 0
    · rw [if_neg (by simp [c1])]
      by_cases c2 : n = n'
      · rw [if_neg (by simp [c2]), h2]
        simp [h1.mp c1, c2]
      · rw [if_pos c2]
        constructor
        · intro h; split at h <;> simp at h
        · intro h; exact absurd (O.c.inj h).2.1 c2
    · rw [if_pos c1]
      constructor
      · intro h; exact absurd h c1
      · intro h; exact absurd (h1.mpr (O.c.inj h).1) c1
@[simp] theorem cmp_self (a : O) : cmp a a = 0 := (cmp_eq a a).mpr rfl
end Nm
set_option Elab.async false
set_option linter.all false
set_option maxRecDepth 100000
namespace Pu
open PySem
end Pu
set_option Elab.async false
set_option linter.all false
set_option maxRecDepth 100000
set_option maxHeartbeats 4000000
namespace Nm
open PySem Pu
abbrev Fn := List PyData → R PyData
def lead (e : O) (n : Int) (e' : O) (n' : Int) : Int := if cmp e e' ≠ 0 then cmp e e' else if n ≠ n' then (if n > n' then 1 else -1) else 0
def first : O → O → Int
  | .c e n r, .c e' n' r' => if lead e n e' n' ≠ 0 then lead e n e' n' else first r r'
  | _, _ => 0
end Nm
set_option Elab.async false
set_option linter.all false
set_option maxRecDepth 100000
set_option maxHeartbeats 4000000
namespace Nm
open PySem Pu O
def NF : O → Prop
  | .z => True
  | .c e n r => NF e ∧ 1 ≤ n ∧ NF r ∧ ∀ p ∈ r.parts, cmp e p.1 = 1
theorem nf_parts : ∀ a : O, NF a ↔ a.parts.Pairwise (fun p q => cmp p.1 q.1 = 1) ∧ ∀ p ∈ a.parts, NF p.1 ∧ 1 ≤ p.2
  | .z => by simp [NF, O.parts]
  | .c e n r => by
    have ih := nf_parts r
    show NF e ∧ 1 ≤ n ∧ NF r ∧ (∀ p ∈ r.parts, cmp e p.1 = 1) ↔ _
    simp only [O.parts, List.pairwise_cons, List.mem_cons, forall_eq_or_imp]
    rw [ih]
    constructor
    · rintro ⟨h1, h2, ⟨h3, h4⟩, h5⟩; exact ⟨⟨h5, h3⟩, ⟨h1, h2⟩, h4⟩
    · rintro ⟨⟨h5, h3⟩, ⟨h1, h2⟩, h4⟩; exact ⟨h1, h2, ⟨h3, h4⟩, h5⟩
theorem nf_of {ps : List (O × Int)} : NF (of ps) ↔ ps.Pairwise (fun p q => cmp p.1 q.1 = 1) ∧ ∀ p ∈ ps, NF p.1 ∧ 1 ≤ p.2 := by rw [nf_parts, parts_of]
def mx : O → Int
  | .z => 0
  | .c e n r => max n (max (mx e) (mx r))
theorem mx_nonneg : ∀ a : O, 0 ≤ mx a
  | .z => Int.le_refl _
  | .c e n r => by
    have := mx_nonneg r
    show 0 ≤ max n (max (mx e) (mx r))
    omega
theorem mx_parts {B : Int} (hB : 0 ≤ B) : ∀ a : O, mx a ≤ B ↔ ∀ p ∈ a.parts, p.2 ≤ B ∧ mx p.1 ≤ B
  | .z => by simp [mx, O.parts, hB]
  | .c e n r => by
    have ih := mx_parts hB r
    simp only [mx, O.parts, List.mem_cons, forall_eq_or_imp]
    rw [← ih]
    constructor
    · intro h; exact ⟨⟨by omega, by omega⟩, by omega⟩
    · rintro ⟨⟨h1, h2⟩, h3⟩; omega
theorem mx_of {B : Int} (hB : 0 ≤ B) {ps : List (O × Int)} : mx (of ps) ≤ B ↔ ∀ p ∈ ps, p.2 ≤ B ∧ mx p.1 ≤ B := by rw [mx_parts hB, parts_of]
theorem nf_sub {ps qs : List (O × Int)} (h : NF (of ps)) (s : qs.Sublist ps) : NF (of qs) := by
  rw [nf_of] at h ⊢
  exact ⟨h.1.sublist s, fun p hp => h.2 p (s.subset hp)⟩
theorem size_sub : ∀ {ps qs : List (O × Int)}, qs.Sublist ps → (of qs).size ≤ (of ps).size
  | _, _, .slnil => Nat.le_refl _
  | _, _, .cons (l₂ := l) a s => by
    have := size_sub s
    show _ ≤ 1 + a.1.size + (of l).size
    omega
  | _, _, .cons₂ (l₁ := l1) (l₂ := l2) a s => by
    have := size_sub s
    show 1 + a.1.size + (of l1).size ≤ 1 + a.1.size + (of l2).size
    omega
theorem mx_sub {B : Int} (hB : 0 ≤ B) {ps qs : List (O × Int)} (h : mx (of ps) ≤ B) (s : qs.Sublist ps) : mx (of qs) ≤ B := by
  rw [mx_of hB] at h ⊢
  exact fun p hp => h p (s.subset hp)
def above (a e : O) : List (O × Int) := a.parts.filter fun p => decide (0 < cmp p.1 e)
def sameN (a e : O) : Int := ((a.parts.filter fun p => decide (p.1 = e)).map fun p => p.2).sum
end Nm
set_option Elab.async false
set_option linter.all false
set_option maxRecDepth 100000
set_option maxHeartbeats 4000000
namespace Nm
open PySem Pu O L2
theorem lc_gen {α : Type} {E : α → PyData} {ρ : Vars} {i : Nat} {tt : Vars → R Bool} {f : Vars → R PyData} {P : α → Bool} {F : α → PyData} : ∀ {ps : List α}, (∀ p ∈ ps, tt (ρ.set i (some (E p))) = .ok (P p)) → (∀ p ∈ ps, P p = true → f (ρ.set i (some (E p))) = .ok (F p)) →
    lcL (gtName i) tt f ρ (ps.map E) = .ok ((ps.filter P).map F)
  | [], _, _ => rfl
  | p :: ps, h1, h2 => by
    have ih := lc_gen (ps := ps) (fun q hq => h1 q (List.mem_cons_of_mem _ hq)) (fun q hq => h2 q (List.mem_cons_of_mem _ hq))
    rw [List.map_cons, u_lcL_c]
    simp only [u_gtName, h1 p (by simp), R.bind_ok]
    cases c : P p with
    | true =>
      rw [if_pos rfl, h2 p (by simp) c, R.bind_ok, ih, R.bind_ok, List.filter_cons_of_pos c, List.map_cons]
    | false =>
      rw [if_neg Bool.false_ne_true, ih, List.filter_cons_of_neg (by simp [c])]
theorem intsOf_mapF {α : Type} (F : α → Int) (ps : List α) : intsOf (ps.map fun p => PyData.int (F p)) = some (ps.map F) := by
  have := intsOf_map (ps.map F)
  rw [List.map_map] at this
  exact this
theorem size_part : ∀ {a : O} {p : O × Int}, p ∈ a.parts → p.1.size ≤ a.size
  | .c e n r, p, hp => by
    rcases List.mem_cons.mp (show p ∈ (e, n) :: r.parts from hp) with h | h
    · subst h; show e.size ≤ 1 + e.size + r.size; omega
    · have := size_part h; show _ ≤ 1 + e.size + r.size; omega
theorem log2_lt {i : Int} {n : Nat} (h : i.natAbs < 2 ^ n) (h0 : 0 < n) : i.natAbs.log2 < n := PySem.Flt.log2_lt_of h0 h
theorem cMul_of {i j : Int} (a b : Nat) (ha : i.natAbs < 2 ^ a) (hb : j.natAbs < 2 ^ b) (h0 : 0 < a) (h1 : 0 < b) (h : a + b ≤ 1000000) : cMul i j = true := by
  have x := log2_lt ha h0
  have y := log2_lt hb h1
  unfold cMul
  exact decide_eq_true (by omega)
theorem cDiv_of {i j : Int} (b : Nat) (hp : 0 < j) (hb : j.natAbs < 2 ^ b) (h0 : 0 < b) (h9 : b ≤ 9000) : cDiv i j = true := by
  have y := log2_lt hb h0
  unfold cDiv
  simp [hp]
  omega
theorem cMod_of {i j : Int} (h : 0 < j) : cMod i j = true := decide_eq_true h
def E50 : Int := 10 ^ 50
structure PO (B : Int) (a : O) : Prop where
  nf : NF a
  sz : a.size ≤ 24
  mx : mx a ≤ B
theorem PO.hh {B : Int} {a : O} (p : PO B a) : a.h ≤ 24 := Nat.le_trans (h_le_size a) p.sz
theorem PO.ll {B : Int} {a : O} (p : PO B a) : a.len ≤ 24 := Nat.le_trans (len_le_size a) p.sz
theorem PO.sub {B : Int} (hB : 0 ≤ B) {a : O} (p : PO B a) {qs : List (O × Int)} (s : qs.Sublist a.parts) : PO B (of qs) where
  nf := nf_sub (ps := a.parts) (by rw [of_parts]; exact p.nf) s
  sz := by have := size_sub s; rw [of_parts] at this; have := p.sz; omega
  mx := mx_sub hB (by rw [of_parts]; exact p.mx) s
def NextOk (k : Nat) (F : Fn) : Prop := ∀ (B : Int) (ps : List O) (v : Int), 0 ≤ B → ps ≠ [] → ps.length ≤ 1000 → (∀ a ∈ ps, PO B a) → ∃ r, F [.list (ps.map enc), .int v] = .ok (enc r) ∧ PO (B + E50) r
end Nm
set_option Elab.async false
set_option linter.all false
set_option maxRecDepth 100000
set_option maxHeartbeats 4000000
namespace Pu
open PySem PySem.Spec PyProof.Rows L2
theorem forL_inv {gt : PyData → Vars → Option Vars} {g : Vars → Out} (I : Nat → Vars → Prop) : ∀ (ds : List PyData) (i : Nat) (ρ : Vars), I i ρ →
    (∀ (j : Nat) (d : PyData) (ρ : Vars), ds[j]? = some d → I (i + j) ρ → ∃ ρ1 ρ2, gt d ρ = some ρ1 ∧ (g ρ1 = .nx ρ2 ∨ g ρ1 = .ct ρ2) ∧ I (i + j + 1) ρ2) →
    ∃ ρ', forL gt g ds ρ = .nx ρ' ∧ I (i + ds.length) ρ'
  | [], i, ρ, h, _ => ⟨ρ, rfl, h⟩
  | d :: ds, i, ρ, h, hs => by
    obtain ⟨ρ1, ρ2, h1, h2, h3⟩ := hs 0 d ρ rfl h
    obtain ⟨ρ', h4, h5⟩ := forL_inv I ds (i + 1) ρ2 h3 fun j d ρ hd hi => by
      have := hs (j + 1) d ρ hd (by rw [show i + (j + 1) = i + 1 + j by omega]; exact hi)
      rw [show i + (j + 1) = i + 1 + j by omega] at this
      exact this
    refine ⟨ρ', ?_, by rw [List.length_cons, show i + (ds.length + 1) = i + 1 + ds.length by omega]; exact h5⟩
    rw [u_forL_c, h1]
    rcases h2 with h2 | h2 <;> simp only [h2, h4]
theorem forL_rng {n : Nat} {i : Nat} {g : Vars → Out} (I : Nat → Vars → Prop) (ρ : Vars) (h : I 0 ρ)
    (hs : ∀ (j : Nat) (ρ : Vars), j < n → I j ρ → ∃ ρ2, (g (ρ.set i (some (.int (j : Nat)))) = .nx ρ2 ∨ g (ρ.set i (some (.int (j : Nat)))) = .ct ρ2) ∧ I (j + 1) ρ2) :
    ∃ ρ', forL (gtName i) g (rngD 0 n) ρ = .nx ρ' ∧ I n ρ' := by
  obtain ⟨ρ', h1, h2⟩ := forL_inv (gt := gtName i) (g := g) I (rngD 0 n) 0 ρ h fun j d ρ hd hi => by
    rw [rngD_get] at hd
    by_cases q : j < n
    · rw [if_pos q] at hd
      cases hd
      rw [Nat.zero_add] at hi ⊢
      obtain ⟨ρ2, h3, h4⟩ := hs j ρ q hi
      exact ⟨_, ρ2, rfl, by rw [show (0 : Int) + (j : Nat) = (j : Nat) by omega]; exact h3, h4⟩
    · rw [if_neg q] at hd; cases hd
  rw [rngD_len, Nat.zero_add] at h2
  exact ⟨ρ', h1, h2⟩
end Pu
namespace Nm
open PySem PySem.Spec PyProof.Rows L2 Pu
end Nm
set_option Elab.async false
set_option linter.all false
set_option maxRecDepth 100000
set_option maxHeartbeats 4000000
namespace Nm
open PySem Pu O L2
def plusO (a : O) : O → O
  | .z => a
  | .c e n r => of (above a e ++ (e, sameN a e + n) :: r.parts)
def PlusOk (k : Nat) (F : Fn) : Prop := ∀ a b : O, NF a → a.h < k → a.h ≤ 60 → b.h ≤ 60 → a.len ≤ 1000000 → b.len ≤ 1000000 → F [enc a, enc b] = .ok (enc (plusO a b))
end Nm
set_option Elab.async false
set_option linter.all false
set_option maxRecDepth 100000
set_option maxHeartbeats 4000000
namespace Nm
open PySem Pu O L2
end Nm
set_option Elab.async false
set_option linter.all false
set_option maxRecDepth 100000
set_option maxHeartbeats 4000000
namespace Nm
open PySem Pu O L2
theorem nf_tail {f r : O} {m : Int} (h : NF (.c f m r)) : NF r ∧ NF f ∧ 1 ≤ m ∧ ∀ q ∈ r.parts, cmp f q.1 = 1 := by
  have h1 := (nf_parts _).mp h
  have h2 : ((f, m) :: r.parts).Pairwise (fun p q => cmp p.1 q.1 = 1) := h1.1
  have h3 : ∀ p ∈ (f, m) :: r.parts, NF p.1 ∧ 1 ≤ p.2 := h1.2
  rw [List.pairwise_cons] at h2
  have h4 := h3 (f, m) (by simp)
  exact ⟨(nf_parts r).mpr ⟨h2.2, fun p hp => h3 p (List.mem_cons_of_mem _ hp)⟩, h4.1, h4.2, h2.1⟩
end Nm
set_option Elab.async false
set_option linter.all false
set_option maxRecDepth 100000
set_option maxHeartbeats 4000000
namespace Nm
open PySem PySem.Spec PyProof.Rows L2 Pu O
structure G (m : Nat) (a : O) : Prop where
  nf : NF a
  h : a.h ≤ 25
  l : a.len ≤ m
theorem cut_back {α : Type} (xs : List α) (k : Nat) : Pu.cutD xs (some (k : Int)) none = xs.drop (min k xs.length) := by
  unfold Pu.cutD
  rw [HT.sIx_nat]
  show (xs.drop (min k xs.length)).take (xs.length - min k xs.length) = _
  apply List.take_of_length_le
  simp
end Nm
set_option Elab.async false
set_option linter.all false
set_option maxRecDepth 100000
set_option maxHeartbeats 4000000
namespace Nm
open PySem Pu O L2
theorem nf_mk {e r : O} {n : Int} (he : NF e) (hn : 1 ≤ n) (hr : NF r) (hp : ∀ q ∈ r.parts, cmp e q.1 = 1) : NF (.c e n r) := by
  refine (nf_parts _).mpr ⟨?_, fun p hp => ?_⟩
  · show ((e, n) :: r.parts).Pairwise _
    exact List.pairwise_cons.mpr ⟨hp, ((nf_parts r).mp hr).1⟩
  · rcases List.mem_cons.mp (show p ∈ (e, n) :: r.parts from hp) with h | h
    · subst h; exact ⟨he, hn⟩
    · exact ((nf_parts r).mp hr).2 p h
theorem ne_of_gt {x e : O} (c : cmp x e = 1) : ¬ e = x := fun z => by rw [z, cmp_self] at c; cases c
end Nm
set_option Elab.async false
set_option linter.all false
set_option maxRecDepth 100000
set_option maxHeartbeats 4000000
namespace Pu
open PySem
end Pu
namespace Nm
open PySem Pu O L2
end Nm
set_option Elab.async false
set_option linter.all false
set_option maxRecDepth 100000
set_option maxHeartbeats 4000000
namespace Pu
open PySem
end Pu
namespace Nm
open PySem Pu O L2
end Nm
set_option Elab.async false
set_option linter.all false
set_option maxRecDepth 100000
namespace Pu
open PySem
end Pu
set_option Elab.async false
set_option linter.all false
set_option maxRecDepth 100000
set_option maxHeartbeats 4000000
namespace Nm
open PySem Pu O L2
def CellOk (F : Fn) : Prop := ∀ (ns : List Int) (j : Int), 0 ≤ j → ∃ v, F [.list (ns.map .int), .int j] = .ok (.int v)
end Nm
set_option Elab.async false
set_option linter.all false
set_option maxRecDepth 100000
set_option maxHeartbeats 4000000
namespace Nm
open PySem Pu O L2
def prodL (e : O) (n : Int) (r : O) (ps : List (O × Int)) : List (O × Int) := ps.flatMap fun p => if p.1 = .z then (e, n * p.2) :: r.parts else [(plusO e p.1, p.2)]
def prodO : O → O → O
  | .z, _ => .z
  | .c e n r, b => of (prodL e n r b.parts)
end Nm
set_option Elab.async false
set_option linter.all false
set_option maxRecDepth 100000
set_option maxHeartbeats 4000000
namespace Nm
open PySem Pu O L2
end Nm
set_option Elab.async false
set_option linter.all false
set_option maxRecDepth 100000
set_option maxHeartbeats 4000000
namespace Nm
open PySem Pu O L2
structure Bg (L E C Z : Nat) (a : O) : Prop where
  nf : NF a
  h : a.h ≤ 8
  ll : a.len ≤ L
  el : ∀ p ∈ a.parts, p.1.len ≤ E
  cs : ∀ p ∈ a.parts, p.2.natAbs < 2 ^ C
  s : a.size ≤ Z
theorem Bg.up {L E C Z L' E' C' Z' : Nat} {a : O} (b : Bg L E C Z a) (h1 : L ≤ L') (h2 : E ≤ E') (h3 : C ≤ C') (h4 : Z ≤ Z') : Bg L' E' C' Z' a :=
  ⟨b.nf, b.h, Nat.le_trans b.ll h1, fun p hp => Nat.le_trans (b.el p hp) h2, fun p hp => Nat.lt_of_lt_of_le (b.cs p hp) (Nat.pow_le_pow_right (by decide) h3), Nat.le_trans b.s h4⟩
def TimesG (F : Fn) : Prop := ∀ {L1 E1 C1 Z1 L2 E2 C2 Z2 : Nat} {a b : O}, Bg L1 E1 C1 Z1 a → Bg L2 E2 C2 Z2 b → E1 ≤ 1000000 → E2 ≤ 1000000 → L2 * (1 + L1) ≤ 5000000 → 0 < C1 → 0 < C2 → C1 + C2 ≤ 100000 → F [enc a, enc b] = .ok (enc (prodO a b))
end Nm
set_option Elab.async false
set_option linter.all false
set_option maxRecDepth 100000
set_option maxHeartbeats 4000000
namespace Nm
open PySem Pu O L2
end Nm
set_option Elab.async false
set_option linter.all false
set_option maxRecDepth 100000
namespace Pu
open PySem
end Pu
set_option Elab.async false
set_option linter.all false
set_option maxRecDepth 100000
set_option maxHeartbeats 4000000
namespace Nm
open PySem Pu O L2
end Nm
namespace Nm
open PySem Pu O L2
end Nm
set_option Elab.async false
set_option linter.all false
set_option maxRecDepth 100000
set_option maxHeartbeats 4000000
namespace Nm
open PySem Pu O L2
end Nm
set_option Elab.async false
set_option linter.all false
set_option maxRecDepth 100000
set_option maxHeartbeats 4000000
namespace Nm
open PySem Pu O L2
structure WhoOk (F : Fn) : Prop where
  int : ∀ i : Int, F [.int i] = .ok (.bool (decide (0 ≤ i)))
  no : ∀ (d : PyData) (_ : isiB "int" d = false ∨ isiB "bool" d = true) (hf : fnB d = false := by first | rfl | assumption), F [d] = .ok (.bool false)
theorem WhoOk.yes {F : Fn} (h : WhoOk F) {i : Int} (hi : 0 ≤ i) : F [.int i] = .ok (.bool true) := by rw [h.int, decide_eq_true hi]
def rzO (e : O) (n : Int) : O := if n = 0 then .z else .c e n .z
structure RaiOk (F : Fn) : Prop where
  yes : ∀ (e : O) (n : Int), 0 ≤ n → F [enc e, .int n] = .ok (enc (rzO e n))
  no : ∀ (e : O) (d : PyData) (_ : isiB "int" d = false ∨ isiB "bool" d = true) (hf : fnB d = false := by first | rfl | assumption), F [enc e, d] = .err "NoNumber"
  neg : ∀ (e : O) (i : Int), i < 0 → F [enc e, .int i] = .err "NoNumber"
theorem RaiOk.one {F : Fn} (h : RaiOk F) (e : O) : F [enc e, .int 1] = .ok (enc (.c e 1 .z)) := by
  have := h.yes e 1 (by decide)
  unfold rzO at this
  rw [if_neg (by decide)] at this
  exact this
end Nm
set_option Elab.async false
set_option linter.all false
set_option maxRecDepth 100000
namespace Pu
open PySem
end Pu
set_option Elab.async false
set_option linter.all false
set_option maxRecDepth 100000
set_option maxHeartbeats 4000000
namespace Nm
open PySem Pu O L2
def hdE : O → O
  | .z => .z
  | .c e _ _ => e
structure Sz (H L K Z C M : Nat) (a : O) : Prop where
  nf : NF a
  h : a.h ≤ H
  ll : a.len ≤ L
  k : (hdE a).size ≤ K
  s : a.size ≤ Z
  cs : ∀ p ∈ a.parts, p.2.natAbs < 2 ^ C
  m : mx a < 2 ^ M
theorem Sz.up {H L K Z C M H' L' K' Z' C' M' : Nat} {a : O} (x : Sz H L K Z C M a) (h0 : H ≤ H') (h1 : L ≤ L') (h2 : K ≤ K') (h3 : Z ≤ Z') (h4 : C ≤ C') (h5 : M ≤ M') : Sz H' L' K' Z' C' M' a where
  nf := x.nf
  h := Nat.le_trans x.h h0
  ll := Nat.le_trans x.ll h1
  k := Nat.le_trans x.k h2
  s := Nat.le_trans x.s h3
  cs := fun p hp => Nat.lt_of_lt_of_le (x.cs p hp) (Nat.pow_le_pow_right (by decide) h4)
  m := Int.lt_of_lt_of_le x.m (by exact_mod_cast Nat.pow_le_pow_right (by decide) h5)
theorem Sz.bg {H L K Z C M : Nat} {a : O} (x : Sz H L K Z C M a) (hH : H ≤ 8) : Bg L Z C Z a where
  nf := x.nf
  h := Nat.le_trans x.h hH
  ll := x.ll
  el := fun p hp => by
    have h1 := size_part hp
    have h2 := len_le_size p.1
    have := x.s; omega
  cs := x.cs
  s := x.s
theorem hd_size (a : O) : (hdE a).size ≤ a.size := by
  cases a with
  | z => exact Nat.le_refl _
  | c e n r => show e.size ≤ 1 + e.size + r.size; omega
theorem hd_h (a : O) {k : Nat} (h : a.h ≤ k) : (hdE a).h ≤ k - 1 := by
  cases a with
  | z => exact Nat.zero_le _
  | c e n r =>
    have : (O.c e n r).h = max (e.h + 1) r.h := rfl
    show e.h ≤ k - 1; omega
theorem Sz.one : Sz 1 1 0 1 1 1 (.c .z 1 .z) where
  nf := nf_mk trivial (by decide) trivial (fun q hq => by cases hq)
  h := by show max (0 + 1) 0 ≤ 1; decide
  ll := by show 0 + 1 ≤ 1; decide
  k := by show 0 ≤ 0; decide
  s := by show 1 + 0 + 0 ≤ 1; decide
  cs := fun p hp => by
    rcases List.mem_cons.mp (show p ∈ (O.z, (1 : Int)) :: [] from hp) with h | h
    · rw [h]; decide
    · cases h
  m := by show max (1 : Int) (max 0 0) < 2 ^ 1; decide
end Nm
set_option Elab.async false
set_option linter.all false
set_option maxRecDepth 100000
set_option maxHeartbeats 4000000
namespace Nm
open PySem Pu O L2
end Nm
set_option Elab.async false
set_option linter.all false
set_option maxRecDepth 100000
set_option maxHeartbeats 4000000
namespace Nm
open PySem Pu O L2
end Nm
set_option Elab.async false
set_option linter.all false
set_option maxRecDepth 100000
set_option maxHeartbeats 4000000
namespace Nm
open PySem Pu O L2
theorem hd_nf {a : O} (h : NF a) : NF (hdE a) := by
  cases a with
  | z => trivial
  | c e n r => exact (nf_tail h).2.1
theorem hd_mx (a : O) : mx (hdE a) ≤ mx a := by
  cases a with
  | z => exact Int.le_refl _
  | c e n r => show mx e ≤ max n (max (mx e) (mx r)); omega
theorem cs_of_mx {a : O} (h : NF a) {M : Nat} (m : mx a < 2 ^ M) : ∀ p ∈ a.parts, p.2.natAbs < 2 ^ M := fun p hp => by
  have h1 := ((mx_parts (mx_nonneg a) a).mp (Int.le_refl _) p hp).1
  have h2 := (((nf_parts a).mp h).2 p hp).2
  have : (p.2.natAbs : Int) < ((2 ^ M : Nat) : Int) := by rw [Int.natCast_pow]; show _ < (2 : Int) ^ M; omega
  exact_mod_cast this
theorem Sz.hd {H L K Z C M : Nat} {a : O} (x : Sz H L K Z C M a) : Sz H K K K M M (hdE a) where
  nf := hd_nf x.nf
  h := by have := hd_h a x.h; omega
  ll := Nat.le_trans (len_le_size _) x.k
  k := Nat.le_trans (hd_size _) x.k
  s := x.k
  cs := cs_of_mx (hd_nf x.nf) (Int.lt_of_le_of_lt (hd_mx a) x.m)
  m := Int.lt_of_le_of_lt (hd_mx a) x.m
theorem Sz.w {H L K Z C M : Nat} {e : O} (x : Sz H L K Z C M e) {n : Int} (n1 : 1 ≤ n) {c : Nat} (hc : n.natAbs < 2 ^ c) (hM : c ≤ M) : Sz (H + 1) 1 Z (1 + Z) c M (.c e n .z) where
  nf := nf_mk x.nf n1 trivial (fun q hq => by cases hq)
  h := by have := x.h; show max (e.h + 1) 0 ≤ H + 1; omega
  ll := by show 0 + 1 ≤ 1; decide
  k := x.s
  s := by have := x.s; show 1 + e.size + 0 ≤ 1 + Z; omega
  cs := fun p hp => by
    rcases List.mem_cons.mp (show p ∈ (e, n) :: [] from hp) with h | h
    · rw [h]; exact hc
    · cases h
  m := by
    have h1 := x.m
    have h2 : (n.natAbs : Int) < 2 ^ M := by
      have := Nat.lt_of_lt_of_le hc (Nat.pow_le_pow_right (by decide : 0 < 2) hM)
      have : ((n.natAbs : Nat) : Int) < ((2 ^ M : Nat) : Int) := by exact_mod_cast this
      rw [Int.natCast_pow] at this; exact this
    show max n (max (mx e) 0) < 2 ^ M
    omega
end Nm
set_option Elab.async false
set_option linter.all false
set_option maxRecDepth 100000
set_option maxHeartbeats 4000000
namespace Nm
open PySem Pu O L2
end Nm
set_option Elab.async false
set_option linter.all false
set_option maxRecDepth 100000
set_option maxHeartbeats 4000000
namespace Nm
open PySem Pu O L2
end Nm
set_option Elab.async false
set_option linter.all false
set_option maxRecDepth 100000
set_option maxHeartbeats 4000000
namespace Nm
open PySem Pu O L2
theorem Sz.zero : Sz 0 0 0 0 0 0 .z := ⟨trivial, Nat.le_refl _, Nat.le_refl _, Nat.le_refl _, Nat.le_refl _, (fun p hp => by cases hp), by show (0 : Int) < 2 ^ 0; decide⟩
theorem Sz.whole {n : Int} {C M : Nat} (h : 1 ≤ n) (hc : n.natAbs < 2 ^ C) (hM : C ≤ M) : Sz 1 1 0 1 C M (.c .z n .z) :=
  (Sz.zero.up (Nat.le_refl _) (Nat.le_refl _) (Nat.le_refl _) (Nat.le_refl _) (Nat.le_refl _) (Nat.zero_le M)).w h hc hM
theorem TimesG.sz {F : Fn} (h : TimesG F) {H1 L1 K1 Z1 C1 M1 H2 L2 K2 Z2 C2 M2 : Nat} {a b : O} (x : Sz H1 L1 K1 Z1 C1 M1 a) (y : Sz H2 L2 K2 Z2 C2 M2 b)
    (q : (decide (H1 ≤ 8) && decide (H2 ≤ 8) && decide (Z1 ≤ 1000000) && decide (Z2 ≤ 1000000) && decide (L2 * (1 + L1) ≤ 5000000) && decide (0 < C1) && decide (0 < C2) && decide (C1 + C2 ≤ 100000)) = true) : F [enc a, enc b] = .ok (enc (prodO a b)) := by
  simp only [Bool.and_eq_true, decide_eq_true_eq] at q
  obtain ⟨⟨⟨⟨⟨⟨⟨q1, q2⟩, q3⟩, q4⟩, q5⟩, q6⟩, q7⟩, q8⟩ := q
  exact h (x.bg q1) (y.bg q2) q3 q4 q5 q6 q7 q8
theorem PlusOk.sz {F : Fn} {k : Nat} (h : PlusOk k F) {H1 L1 K1 Z1 C1 M1 H2 L2 K2 Z2 C2 M2 : Nat} {a b : O} (x : Sz H1 L1 K1 Z1 C1 M1 a) (y : Sz H2 L2 K2 Z2 C2 M2 b) (hk : 31 ≤ k)
    (q : (decide (H1 ≤ 30) && decide (H2 ≤ 30) && decide (L1 ≤ 1000000) && decide (L2 ≤ 1000000)) = true) : F [enc a, enc b] = .ok (enc (plusO a b)) := by
  simp only [Bool.and_eq_true, decide_eq_true_eq] at q
  have := x.h; have := y.h; have := x.ll; have := y.ll
  exact h a b x.nf (by omega) (by omega) (by omega) (by omega) (by omega)
end Nm
set_option Elab.async false
set_option linter.all false
set_option maxRecDepth 100000
set_option maxHeartbeats 4000000
namespace Nm
open PySem Pu O L2
def val (b : Nat) : O → Nat
  | .z => 0
  | .c e n r => n.toNat * b ^ val b e + val b r
def Fit (b : Nat) : O → Prop
  | .z => True
  | .c e n r => Fit b e ∧ n < b ∧ Fit b r
end Nm
set_option Elab.async false
set_option linter.all false
set_option maxRecDepth 100000
set_option maxHeartbeats 4000000
namespace Nm
open PySem Pu O L2
def TT : Nat → Nat
  | 0 => 0
  | k + 1 => 2 ^ TT k
def SS : Nat → Nat
  | 0 => 0
  | k + 1 => TT k * (1 + SS k)
structure Wi (b m0 mc place k : Nat) (a : O) : Prop where
  nf : NF a
  f : Fit b a
  v : val b a + mc * b ^ place = m0
  e : ∀ p ∈ a.parts, val b p.1 < place
  h : a.h ≤ k
  l : a.len ≤ place
  s : a.size ≤ place * (1 + SS k)
theorem Wi.zero {b m0 k : Nat} : Wi b m0 m0 0 k .z := ⟨trivial, trivial, (by show 0 + m0 * b ^ 0 = m0; rw [Nat.pow_zero, Nat.mul_one, Nat.zero_add]), (fun p hp => by cases hp), Nat.zero_le _, Nat.le_refl _, Nat.zero_le _⟩
end Nm
set_option Elab.async false
set_option linter.all false
set_option maxRecDepth 100000
set_option maxHeartbeats 4000000
set_option exponentiation.threshold 20
namespace Nm
open PySem Pu O L2
end Nm
set_option Elab.async false
set_option linter.all false
set_option maxRecDepth 100000
set_option maxHeartbeats 4000000
set_option exponentiation.threshold 20
namespace Nm
open PySem Pu O L2
def dn (b : Nat) : O → Nat
  | .z => 0
  | .c e _ _ => val b e + 1
end Nm
set_option Elab.async false
set_option linter.all false
set_option maxRecDepth 100000
set_option maxHeartbeats 4000000
set_option exponentiation.threshold 20
namespace Nm
open PySem Pu O L2
end Nm
namespace Nm
open PySem Pu O L2
end Nm
set_option Elab.async false
set_option linter.all false
set_option maxRecDepth 100000
namespace Pu
open PySem
end Pu
set_option Elab.async false
set_option linter.all false
set_option maxRecDepth 100000
set_option maxHeartbeats 4000000
namespace Nm
open PySem Pu O L2
inductive T where
  | z | c (b r : T)
  deriving DecidableEq
namespace T
def L : T → List T
  | z => []
  | c b r => b :: L r
def of : List T → T
  | [] => z
  | b :: r => c b (of r)
@[simp] theorem of_L : ∀ t : T, of t.L = t
  | z => rfl
  | c b r => by show c b (of r.L) = _; rw [of_L r]
@[simp] theorem L_of : ∀ l : List T, (of l).L = l
  | [] => rfl
  | b :: r => by show b :: (of r).L = _; rw [L_of r]
def pts : T → Nat
  | z => 1
  | c b r => b.pts + r.pts
def dp : T → Nat
  | z => 0
  | c b r => max (b.dp + 1) r.dp
theorem dp_mem : ∀ (t b : T), b ∈ t.L → b.dp + 1 ≤ t.dp
  | z, b, h => by cases h
  | c b' r, b, h => by
    rcases List.mem_cons.mp h with h | h
    · subst h; exact Nat.le_max_left _ _
    · have h1 := dp_mem r b h
      show b.dp + 1 ≤ max (b'.dp + 1) r.dp
      omega
end T
open T
structure Hang (n M : Nat) (us : List (List Nat)) (ds : List Nat) : Prop where
  lu : us.length = n + 1
  ld : ds.length = n + 1
  perm : us.flatten.Perm (List.range' 1 n)
  up : ∀ (k : Nat) (l : List Nat), us[k]? = some l → ∀ j ∈ l, k < j ∧ ∃ a b, ds[k]? = some a ∧ ds[j]? = some b ∧ b = a + 1
  le : ∀ d ∈ ds, d ≤ M
  root : ds[0]? = some 0
theorem Hang.zero {M : Nat} : Hang 0 M [[]] [0] := ⟨rfl, rfl, by simp, fun k l h j hj => by
  cases k with
  | zero => simp at h; subst h; cases hj
  | succ k => simp at h, fun d hd => by simp at hd; omega, rfl⟩
theorem flatten_set_ins {us : List (List Nat)} {k : Nat} {l : List Nat} (h : us[k]? = some l) (p x : Nat) : (us.set k (l.take p ++ [x] ++ l.drop p)).flatten.Perm (x :: us.flatten) := by
  induction us generalizing k with
  | nil => simp at h
  | cons u us ih =>
    cases k with
    | zero =>
      simp at h; subst h
      simp only [List.set_cons_zero, List.flatten_cons]
      have h1 : (u.take p ++ [x] ++ u.drop p).Perm (x :: u) := by
        have h2 : (u.take p ++ [x] ++ u.drop p).Perm ([x] ++ u.take p ++ u.drop p) := (List.perm_append_comm (l₁ := u.take p) (l₂ := [x])).append_right _
        have h3 : [x] ++ u.take p ++ u.drop p = x :: u := by rw [List.append_assoc, List.take_append_drop]; rfl
        rw [h3] at h2; exact h2
      exact h1.append_right _
    | succ k =>
      simp at h
      simp only [List.set_cons_succ, List.flatten_cons]
      have h1 := (ih h).append_left u
      exact h1.trans List.perm_middle
theorem Hang.step {n M k p : Nat} {us : List (List Nat)} {ds : List Nat} (h : Hang n M us ds) {l : List Nat} {d : Nat} (hk : us[k]? = some l) (hd : ds[k]? = some d) (hM : d + 1 ≤ M) :
    Hang (n + 1) M (us.set k (l.take p ++ [n + 1] ++ l.drop p) ++ [[]]) (ds ++ [d + 1]) := by
  have hkn : k < n + 1 := by rw [← h.lu]; exact (List.getElem?_eq_some_iff.mp hk).1
  have dget : ∀ (i a : Nat), ds[i]? = some a → (ds ++ [d + 1])[i]? = some a := fun i a e => by
    rw [List.getElem?_append_left (List.getElem?_eq_some_iff.mp e).1]; exact e
  refine ⟨by simp [h.lu], by simp [h.ld], ?_, fun i m hi j hj => ?_, fun x hx => ?_, dget _ _ h.root⟩
  · rw [List.flatten_append]
    have e : List.range' 1 (n + 1) = List.range' 1 n ++ [n + 1] := by rw [List.range'_concat]; simp; omega
    rw [e]
    have h1 := flatten_set_ins hk p (n + 1)
    have h2 : ((n + 1) :: us.flatten).Perm (List.range' 1 n ++ [n + 1]) := (List.Perm.cons (n + 1) h.perm).trans (List.perm_append_comm (l₁ := [n + 1]))
    simpa using h1.trans h2
  · by_cases hl : i < us.length
    · rw [List.getElem?_append_left (by simpa using hl)] at hi
      by_cases c : k = i
      · subst c
        rw [List.getElem?_set_self hl] at hi
        cases hi
        rcases List.mem_append.mp hj with hj | hj
        · rcases List.mem_append.mp hj with hj | hj
          · obtain ⟨g1, a, b, g2, g3, g4⟩ := h.up k l hk j (List.mem_of_mem_take hj)
            exact ⟨g1, a, b, dget _ _ g2, dget _ _ g3, g4⟩
          · simp at hj; subst hj
            exact ⟨hkn, d, d + 1, dget _ _ hd, by rw [List.getElem?_append_right (by rw [h.ld]; exact Nat.le_refl _), h.ld]; simp, rfl⟩
        · obtain ⟨g1, a, b, g2, g3, g4⟩ := h.up k l hk j (List.mem_of_mem_drop hj)
          exact ⟨g1, a, b, dget _ _ g2, dget _ _ g3, g4⟩
      · rw [List.getElem?_set_ne c] at hi
        obtain ⟨g1, a, b, g2, g3, g4⟩ := h.up i m hi j hj
        exact ⟨g1, a, b, dget _ _ g2, dget _ _ g3, g4⟩
    · rw [List.getElem?_append_right (by simpa using hl)] at hi
      have : m = [] := by
        obtain ⟨x, hx⟩ : ∃ x, i - (us.set k (l.take p ++ [n + 1] ++ l.drop p)).length = x := ⟨_, rfl⟩
        rw [hx] at hi
        cases x with
        | zero => simpa using hi.symm
        | succ x => simp at hi
      subst this
      cases hj
  · rcases List.mem_append.mp hx with hx | hx
    · exact h.le x hx
    · simp at hx; omega
end Nm
set_option Elab.async false
set_option linter.all false
set_option maxRecDepth 100000
set_option maxHeartbeats 4000000
set_option exponentiation.threshold 20
namespace Nm
open PySem Pu O L2
end Nm
set_option Elab.async false
set_option linter.all false
set_option maxRecDepth 100000
namespace Pu
open PySem
end Pu
set_option Elab.async false
set_option linter.all false
set_option maxRecDepth 100000
set_option maxHeartbeats 4000000
set_option exponentiation.threshold 20
namespace Nm
open PySem Pu O L2
end Nm
set_option Elab.async false
set_option linter.all false
set_option maxRecDepth 100000
namespace Pu
open PySem
end Pu
set_option Elab.async false
set_option linter.all false
set_option maxRecDepth 100000
set_option maxHeartbeats 4000000
set_option exponentiation.threshold 20
namespace Nm
open PySem Pu O L2
end Nm
set_option Elab.async false
set_option linter.all false
set_option maxRecDepth 100000
set_option maxHeartbeats 4000000
set_option exponentiation.threshold 20
namespace Nm
open PySem Pu O L2
end Nm
set_option Elab.async false
set_option linter.all false
set_option maxRecDepth 100000
set_option maxHeartbeats 4000000
set_option exponentiation.threshold 20
namespace Nm
open PySem Pu O L2
end Nm
set_option Elab.async false
set_option linter.all false
set_option maxRecDepth 100000
set_option maxHeartbeats 4000000
set_option exponentiation.threshold 20
namespace Nm
open PySem Pu O L2
def sub : T → List Nat → Option T
  | t, [] => some t
  | t, i :: w => match t.L[i]? with
    | some b => sub b w
    | none => none
theorem sub_cons_some {t s : T} {i : Nat} {w : List Nat} (h : sub t (i :: w) = some s) : ∃ b, t.L[i]? = some b ∧ sub b w = some s := by
  rw [sub] at h
  cases e : t.L[i]? with
  | none => rw [e] at h; cases h
  | some b => rw [e] at h; exact ⟨b, rfl, h⟩
theorem sub_len : ∀ {w : List Nat} {t s : T}, sub t w = some s → w.length + s.dp ≤ t.dp
  | [], t, s, h => by cases h; simp
  | i :: w, t, s, h => by
    obtain ⟨b, h1, h2⟩ := sub_cons_some h
    have := sub_len h2
    have := T.dp_mem t b (List.mem_of_getElem? h1)
    simp only [List.length_cons]; omega
end Nm
set_option Elab.async false
set_option linter.all false
set_option maxRecDepth 100000
set_option maxHeartbeats 4000000
namespace Rk
open PySem PySem.Spec L2 Pu Nm
abbrev KD (α : Type) := List (Str × α)
section
variable {α : Type}
def kv (f : α → PyData) (ps : KD α) : List (PyData × PyData) := ps.map fun p => (.str p.1, f p.2)
def gt (ps : KD α) (w : Str) : Option α := (ps.find? fun p => decide (p.1 = w)).map (·.2)
def pt (ps : KD α) (w : Str) (a : α) : KD α := if (ps.any fun p => decide (p.1 = w)) = true then ps.map (fun p => if p.1 = w then (p.1, a) else p) else ps ++ [(w, a)]
abbrev kS (w : Str) : Key := .inr w
theorem keyD_k (w : Str) : keyD (.str w) = some (kS w) := rfl
theorem key_dec (v w : Str) : decide (keyD (.str v) = some (kS w)) = decide (v = w) := by
  rw [keyD_k]
  by_cases c : v = w
  · subst c; rw [decide_eq_true rfl, decide_eq_true rfl]
  · rw [decide_eq_false c]
    refine decide_eq_false fun z => c ?_
    injection z with z
    injection z with z
theorem val_kv (f : α → PyData) (ps : KD α) (w : Str) : valD (kv f ps) (kS w) = (gt ps w).map f := by
  unfold valD kv gt
  induction ps with
  | nil => rfl
  | cons p r ih =>
    rw [List.map_cons, List.find?_cons, List.find?_cons]
    dsimp only
    rw [key_dec]
    cases decide (p.1 = w) with
    | true => rfl
    | false => exact ih
theorem put_kv (f : α → PyData) (ps : KD α) (w : Str) (a : α) : putD (kv f ps) (kS w) (f a) = kv f (pt ps w a) := by
  unfold putD pt kv
  have e1 : (ps.map fun p => (PyData.str p.1, f p.2)).any (fun p => decide (keyD p.1 = some (kS w))) = ps.any fun p => decide (p.1 = w) := by
    rw [List.any_map]
    congr 1
    funext p
    exact key_dec p.1 w
  rw [e1]
  by_cases c : (ps.any fun p => decide (p.1 = w)) = true
  · rw [if_pos c, if_pos c, List.map_map, List.map_map]
    refine List.map_congr_left fun p _ => ?_
    have := key_dec p.1 w
    show (if keyD (.str p.1) = some (kS w) then (PyData.str p.1, f a) else (.str p.1, f p.2)) = _
    by_cases d : p.1 = w
    · rw [decide_eq_true d] at this
      rw [if_pos (of_decide_eq_true this)]
      show _ = (PyData.str (if p.1 = w then (p.1, a) else p).1, f (if p.1 = w then (p.1, a) else p).2)
      rw [if_pos d]
    · rw [decide_eq_false d] at this
      rw [if_neg (of_decide_eq_false this)]
      show _ = (PyData.str (if p.1 = w then (p.1, a) else p).1, f (if p.1 = w then (p.1, a) else p).2)
      rw [if_neg d]
  · rw [if_neg c, if_neg c, List.map_append]; rfl
theorem ins_kv (f : α → PyData) (ps : KD α) : insB (kv f ps) = false := by cases ps <;> rfl
theorem len_kv (f : α → PyData) (ps : KD α) : (kv f ps).length = ps.length := List.length_map ..
theorem gt_some {ps : KD α} {w : Str} {a : α} (h : gt ps w = some a) : (w, a) ∈ ps := by
  unfold gt at h
  obtain ⟨p, hp, rfl⟩ := Option.map_eq_some_iff.mp h
  have h1 := List.mem_of_find?_eq_some hp
  have h2 := List.find?_some hp
  have : p.1 = w := of_decide_eq_true h2
  subst this
  exact h1
theorem gt_none {ps : KD α} {w : Str} : gt ps w = none ↔ w ∉ ps.map (·.1) := by
  unfold gt
  rw [Option.map_eq_none_iff, List.find?_eq_none]
  refine ⟨fun h z => ?_, fun h p hp z => ?_⟩
  · obtain ⟨p, hp, e⟩ := List.mem_map.mp z
    exact h p hp (decide_eq_true e)
  · exact h (List.mem_map.mpr ⟨p, hp, of_decide_eq_true z⟩)
theorem gt_mem {ps : KD α} (h : (ps.map (·.1)).Nodup) {w : Str} {a : α} (hm : (w, a) ∈ ps) : gt ps w = some a := by
  unfold gt
  induction ps with
  | nil => cases hm
  | cons q r ih =>
    rw [List.map_cons, List.nodup_cons] at h
    rw [List.find?_cons]
    rcases List.mem_cons.mp hm with rfl | hp
    · rw [decide_eq_true rfl]; rfl
    · have : ¬ q.1 = w := fun z => h.1 (List.mem_map.mpr ⟨(w, a), hp, z.symm⟩)
      rw [decide_eq_false this]
      exact ih h.2 hp
theorem pt_new {ps : KD α} {w : Str} (h : gt ps w = none) (a : α) : pt ps w a = ps ++ [(w, a)] := by
  unfold pt
  rw [if_neg]
  intro z
  obtain ⟨p, hp, e⟩ := List.any_eq_true.mp z
  exact gt_none.mp h (List.mem_map.mpr ⟨p, hp, of_decide_eq_true e⟩)
theorem pt_keys (ps : KD α) (w : Str) (a : α) : (pt ps w a).map (·.1) = if w ∈ ps.map (·.1) then ps.map (·.1) else ps.map (·.1) ++ [w] := by
  unfold pt
  by_cases c : w ∈ ps.map (·.1)
  · rw [if_pos c, if_pos, List.map_map]
    · refine List.map_congr_left fun p _ => ?_
      show (if p.1 = w then (p.1, a) else p).1 = p.1
      split <;> rfl
    · obtain ⟨p, hp, e⟩ := List.mem_map.mp c
      exact List.any_eq_true.mpr ⟨p, hp, decide_eq_true e⟩
  · rw [if_neg c, if_neg, List.map_append]; rfl
    intro z
    obtain ⟨p, hp, e⟩ := List.any_eq_true.mp z
    exact c (List.mem_map.mpr ⟨p, hp, of_decide_eq_true e⟩)
theorem gt_app {ps qs : KD α} {w : Str} {a : α} (h : gt ps w = some a) : gt (ps ++ qs) w = some a := by
  unfold gt at h ⊢
  obtain ⟨p, hp, e⟩ := Option.map_eq_some_iff.mp h
  rw [List.find?_append, hp]
  exact congrArg some e
theorem gt_snoc {ps : KD α} {w v : Str} {a : α} (h : gt ps w = none) : gt (ps ++ [(v, a)]) w = if v = w then some a else none := by
  unfold gt at h ⊢
  rw [Option.map_eq_none_iff] at h
  rw [List.find?_append, h, Option.none_or, List.find?_cons]
  by_cases c : v = w
  · rw [decide_eq_true c, if_pos c]; rfl
  · rw [decide_eq_false c, if_neg c]; rfl
end
theorem sub_len {a : List Str} : ∀ {b : List Str}, a.Nodup → (∀ x ∈ a, x ∈ b) → a.length ≤ b.length := by
  induction a with
  | nil => intro b _ _; exact Nat.zero_le _
  | cons x r ih =>
    intro b hn hs
    rw [List.nodup_cons] at hn
    have hx : x ∈ b := hs x (by simp)
    have := ih (b := b.erase x) hn.2 fun y hy => (List.mem_erase_of_ne fun z : y = x => hn.1 (z ▸ hy)).mpr (hs y (List.mem_cons_of_mem _ hy))
    rw [List.length_erase_of_mem hx] at this
    have : 0 < b.length := List.length_pos_of_mem hx
    rw [List.length_cons]; omega
theorem sub_all {a b : List Str} (ha : a.Nodup) (hs : ∀ x ∈ a, x ∈ b) (hl : b.length ≤ a.length) : ∀ x ∈ b, x ∈ a := fun x hx => by
  apply Classical.byContradiction
  intro hn
  have := sub_len (b := b.erase x) ha fun y hy => (List.mem_erase_of_ne fun z : y = x => hn (z ▸ hy)).mpr (hs y hy)
  rw [List.length_erase_of_mem hx] at this
  have : 0 < b.length := List.length_pos_of_mem hx
  omega
def addK (ks : List Str) (w : Str) : List Str := if w ∈ ks then ks else ks ++ [w]
theorem mem_addK {ks : List Str} {w v : Str} : v ∈ addK ks w ↔ v ∈ ks ∨ v = w := by
  unfold addK
  by_cases c : w ∈ ks
  · rw [if_pos c]; exact ⟨.inl, fun h => h.elim id fun e => e ▸ c⟩
  · rw [if_neg c]; simp
theorem nodup_addK {ks : List Str} {w : Str} (h : ks.Nodup) : (addK ks w).Nodup := by
  unfold addK
  by_cases c : w ∈ ks
  · rw [if_pos c]; exact h
  · rw [if_neg c]
    refine List.nodup_append.mpr ⟨h, by simp, fun a ha b hb e => c ?_⟩
    rw [List.mem_singleton.mp hb] at e
    exact e ▸ ha
theorem mem_adds : ∀ {os ks : List Str} {v : Str}, v ∈ os.foldl addK ks ↔ v ∈ ks ∨ v ∈ os
  | [], ks, v => by simp
  | o :: os, ks, v => by rw [List.foldl_cons, mem_adds, mem_addK, List.mem_cons, or_assoc]
theorem nodup_adds : ∀ {os ks : List Str}, ks.Nodup → (os.foldl addK ks).Nodup
  | [], ks, h => h
  | o :: os, ks, h => nodup_adds (os := os) (nodup_addK h)
abbrev Rs := KD (List Str)
def uni (rs : Rs) : List Str := rs.flatMap fun p => p.1 :: p.2
def kin (ks : List Str) (p : Str × List Str) : List Str := p.2.foldl addK (addK ks p.1)
def kinds (rs : Rs) : List Str := rs.foldl kin []
theorem mem_kin {ks : List Str} {p : Str × List Str} {v : Str} : v ∈ kin ks p ↔ v ∈ ks ∨ v ∈ p.1 :: p.2 := by
  unfold kin
  rw [mem_adds, mem_addK, List.mem_cons, or_assoc]
theorem mem_kins : ∀ {rs : Rs} {ks : List Str} {v : Str}, v ∈ rs.foldl kin ks ↔ v ∈ ks ∨ v ∈ uni rs
  | [], ks, v => by simp [uni]
  | p :: rs, ks, v => by rw [List.foldl_cons, mem_kins, mem_kin, or_assoc]; unfold uni; rw [List.flatMap_cons, List.mem_append]
theorem nodup_kins : ∀ {rs : Rs} {ks : List Str}, ks.Nodup → (rs.foldl kin ks).Nodup
  | [], ks, h => h
  | p :: rs, ks, h => nodup_kins (rs := rs) (nodup_adds (nodup_addK h))
theorem mem_kinds {rs : Rs} {v : Str} : v ∈ kinds rs ↔ v ∈ uni rs := by unfold kinds; rw [mem_kins]; simp
theorem nodup_kinds (rs : Rs) : (kinds rs).Nodup := nodup_kins List.nodup_nil
abbrev Kn := KD Int
def nrk (K : Kn) : List Str → Int → Option Int
  | [], r => some r
  | o :: os, r => match gt K o with
    | none => none
    | some v => nrk K os (if v + 1 > r then v + 1 else r)
def lsR (rs : Rs) (k : Str) : List Str := (gt rs k).getD []
def stK (rs : Rs) (K : Kn) (k : Str) : Kn := match gt K k with
  | some _ => K
  | none => match nrk K (lsR rs k) 0 with
    | none => K
    | some r => K ++ [(k, r)]
def pass (rs : Rs) (K : Kn) : Kn := (kinds rs).foldl (stK rs) K
def itK (rs : Rs) : Nat → Kn
  | 0 => []
  | n + 1 => pass rs (itK rs n)
theorem nrk_none {K : Kn} : ∀ {os : List Str} {r : Int}, nrk K os r = none ↔ ∃ o ∈ os, gt K o = none
  | [], r => by simp [nrk]
  | o :: os, r => by
    unfold nrk
    cases e : gt K o with
    | none => simp [e]
    | some v =>
      dsimp only
      rw [nrk_none]
      simp [e]
theorem nrk_app {K L : Kn} : ∀ {os : List Str} {r v : Int}, nrk K os r = some v → nrk (K ++ L) os r = some v
  | [], r, v, h => h
  | o :: os, r, v, h => by
    unfold nrk at h ⊢
    cases e : gt K o with
    | none => rw [e] at h; cases h
    | some x =>
      rw [e] at h
      rw [gt_app e]
      exact nrk_app h
structure KnOk (rs : Rs) (K : Kn) : Prop where
  nd : (K.map (·.1)).Nodup
  mem : ∀ w ∈ K.map (·.1), w ∈ kinds rs
  val : ∀ w r, gt K w = some r → nrk K (lsR rs w) 0 = some r
theorem KnOk.nil (rs : Rs) : KnOk rs [] where
  nd := List.nodup_nil
  mem := fun w h => nomatch h
  val := fun w r h => nomatch h
theorem stK_cases (rs : Rs) (K : Kn) (k : Str) : stK rs K k = K ∨ (gt K k = none ∧ ∃ r, nrk K (lsR rs k) 0 = some r ∧ stK rs K k = K ++ [(k, r)]) := by
  unfold stK
  cases e : gt K k with
  | some _ => exact .inl rfl
  | none =>
    dsimp only
    cases e2 : nrk K (lsR rs k) 0 with
    | none => exact .inl rfl
    | some r => exact .inr ⟨rfl, r, rfl, rfl⟩
theorem KnOk.st {rs : Rs} {K : Kn} (h : KnOk rs K) {k : Str} (hk : k ∈ kinds rs) : KnOk rs (stK rs K k) := by
  rcases stK_cases rs K k with e | ⟨e1, r, e2, e⟩
  · rw [e]; exact h
  · rw [e]
    refine ⟨?_, fun w hw => ?_, fun w v hv => ?_⟩
    · rw [List.map_append]
      refine List.nodup_append.mpr ⟨h.nd, by simp, fun a ha b hb z => gt_none.mp e1 ?_⟩
      have : b = k := by simpa using hb
      exact this ▸ z ▸ ha
    · rw [List.map_append] at hw
      rcases List.mem_append.mp hw with z | z
      · exact h.mem w z
      · have : w = k := by simpa using z
        exact this ▸ hk
    · cases ew : gt K w with
      | some x =>
        rw [gt_app ew] at hv
        cases hv
        exact nrk_app (h.val w _ ew)
      | none =>
        rw [gt_snoc ew] at hv
        by_cases c : k = w
        · rw [if_pos c] at hv
          cases hv
          subst c
          exact nrk_app e2
        · rw [if_neg c] at hv; cases hv
theorem KnOk.sts {rs : Rs} : ∀ {ks : List Str} {K : Kn}, KnOk rs K → (∀ k ∈ ks, k ∈ kinds rs) → KnOk rs (ks.foldl (stK rs) K)
  | [], K, h, _ => h
  | k :: ks, K, h, hk => KnOk.sts (ks := ks) (h.st (hk k (by simp))) fun x hx => hk x (List.mem_cons_of_mem _ hx)
theorem st_len (rs : Rs) (K : Kn) (k : Str) : K.length ≤ (stK rs K k).length ∧ ((stK rs K k).length = K.length → stK rs K k = K) := by
  rcases stK_cases rs K k with e | ⟨_, r, _, e⟩
  · rw [e]; exact ⟨Nat.le_refl _, fun _ => rfl⟩
  · rw [e, List.length_append]
    exact ⟨by simp, fun z => by simp at z⟩
theorem sts_len (rs : Rs) : ∀ (ks : List Str) (K : Kn), K.length ≤ (ks.foldl (stK rs) K).length ∧ ((ks.foldl (stK rs) K).length = K.length → ks.foldl (stK rs) K = K ∧ ∀ k ∈ ks, stK rs K k = K)
  | [], K => ⟨Nat.le_refl _, fun _ => ⟨rfl, fun k h => by cases h⟩⟩
  | k :: ks, K => by
    obtain ⟨h1, h2⟩ := st_len rs K k
    obtain ⟨h3, h4⟩ := sts_len rs ks (stK rs K k)
    rw [List.foldl_cons]
    refine ⟨Nat.le_trans h1 h3, fun z => ?_⟩
    have e1 := h2 (by omega)
    rw [e1] at h3 h4 z ⊢
    obtain ⟨e2, e3⟩ := h4 z
    exact ⟨e2, fun x hx => (List.mem_cons.mp hx).elim (fun e => e ▸ e1) (e3 x)⟩
theorem itK_ok (rs : Rs) : ∀ n, KnOk rs (itK rs n)
  | 0 => .nil rs
  | n + 1 => (itK_ok rs n).sts fun k h => h
theorem it_grow (rs : Rs) : ∀ n, pass rs (itK rs n) = itK rs n ∨ n ≤ (itK rs n).length
  | 0 => .inr (Nat.zero_le _)
  | n + 1 => by
    rcases it_grow rs n with h | h
    · left
      show pass rs (pass rs (itK rs n)) = pass rs (itK rs n)
      rw [h, h]
    · obtain ⟨h1, h2⟩ := sts_len rs (kinds rs) (itK rs n)
      by_cases c : ((kinds rs).foldl (stK rs) (itK rs n)).length = (itK rs n).length
      · left
        have := (h2 c).1
        show pass rs (pass rs (itK rs n)) = pass rs (itK rs n)
        have e : pass rs (itK rs n) = itK rs n := this
        rw [e, e]
      · right
        show n + 1 ≤ ((kinds rs).foldl (stK rs) (itK rs n)).length
        omega
def known (rs : Rs) : Kn := itK rs (kinds rs).length
theorem known_ok (rs : Rs) : KnOk rs (known rs) := itK_ok rs _
theorem known_fix (rs : Rs) : ∀ k ∈ kinds rs, stK rs (known rs) k = known rs := by
  have key : pass rs (known rs) = known rs → ∀ k ∈ kinds rs, stK rs (known rs) k = known rs := fun e =>
    ((sts_len rs (kinds rs) (known rs)).2 (by show (pass rs (known rs)).length = _; rw [e])).2
  rcases it_grow rs (kinds rs).length with h | h
  · exact key h
  · have ok := known_ok rs
    intro k hk
    have : k ∈ (known rs).map (·.1) := sub_all ok.nd ok.mem (by rw [List.length_map]; exact h) k hk
    unfold stK
    cases e : gt (known rs) k with
    | some _ => rfl
    | none => exact absurd this (gt_none.mp e)
theorem known_no {rs : Rs} {k : Str} (hk : k ∈ kinds rs) (h : gt (known rs) k = none) : ∃ o ∈ lsR rs k, gt (known rs) o = none := by
  have e := known_fix rs k hk
  unfold stK at e
  rw [h] at e
  dsimp only at e
  cases e2 : nrk (known rs) (lsR rs k) 0 with
  | none => exact nrk_none.mp e2
  | some r =>
    rw [e2] at e
    have := congrArg List.length e
    simp at this
end Rk
set_option Elab.async false
set_option linter.all false
set_option maxRecDepth 100000
set_option maxHeartbeats 4000000
namespace Rk
open PySem PySem.Spec L2 Pu Nm
theorem forL_fj {α β J : Type} {gt : PyData → Vars → Option Vars} {g : Vars → Out} (E : α → PyData) (f : β → α → β) (st : β → J → Vars) (P : β → Prop) : ∀ (xs : List α) (b : β) (j : J), P b →
    (∀ x ∈ xs, ∀ b j, P b → ∃ ρ1 j', gt (E x) (st b j) = some ρ1 ∧ g ρ1 = .nx (st (f b x) j') ∧ P (f b x)) → ∃ j', forL gt g (xs.map E) (st b j) = .nx (st (xs.foldl f b) j') ∧ P (xs.foldl f b)
  | [], b, j, hb, _ => ⟨j, rfl, hb⟩
  | x :: xs, b, j, hb, h => by
    obtain ⟨ρ1, j1, h1, h2, h3⟩ := h x (by simp) b j hb
    obtain ⟨j2, h4, h5⟩ := forL_fj E f st P xs (f b x) j1 h3 fun y hy => h y (by simp [hy])
    refine ⟨j2, ?_, h5⟩
    rw [List.map_cons, u_forL_c, h1]
    simp only [h2, h4, List.foldl_cons]
def tx (l : List Str) : PyData := .list (l.map .str)
abbrev rsD (rs : Rs) : PyData := .dict (kv tx rs)
abbrev knD (K : Kn) : PyData := .dict (kv .int K)
theorem lay_tx : ∀ {l : List Str}, (∀ w ∈ l, PyData.strOk w = true) → PyData.canLayAll0 (l.map .str) = true ∧ PyData.depthAll (l.map .str) ≤ 1
  | [], _ => ⟨rfl, by simp [PyData.depthAll]⟩
  | w :: l, h => by
    obtain ⟨b1, b2⟩ := lay_tx (l := l) fun u hu => h u (List.mem_cons_of_mem _ hu)
    have hw := h w (by simp)
    refine ⟨?_, ?_⟩
    · simp only [List.map_cons, PyData.canLayAll0, PyData.canLay0, Bool.and_eq_true]
      exact ⟨hw, b1⟩
    · simp only [List.map_cons, PyData.depthAll, PyData.depth]
      omega
theorem shaped_tx {l : List Str} (h : ∀ w ∈ l, PyData.strOk w = true) : SeqAt.shaped (tx l) = true := by
  obtain ⟨a, b⟩ := lay_tx h
  unfold SeqAt.shaped tx
  simp only [PyData.canLay0, PyData.depth, Bool.and_eq_true, decide_eq_true_eq]
  exact ⟨a, decide_eq_true (by omega)⟩
theorem shp_tx {l : List Str} (h : ∀ w ∈ l, PyData.strOk w = true) : shp (tx l) = true := by
  obtain ⟨a, b⟩ := lay_tx h
  unfold shp tx
  simp only [PyData.canLay0, PyData.depth, Bool.and_eq_true, decide_eq_true_eq]
  exact ⟨a, decide_eq_true (by omega)⟩
theorem shaped_w {w : Str} (h : PyData.strOk w = true) : SeqAt.shaped (.str w) = true := by
  unfold SeqAt.shaped
  simp only [PyData.canLay0, PyData.depth, Bool.and_eq_true, decide_eq_true_eq]
  exact ⟨h, decide_eq_true (by omega)⟩
theorem eqv_w (x y : Str) : PyData.eqv (.str x) (.str y) = decide (x = y) := by
  have e : PyData.eqv (.str x) (.str y) = (x == y) := by simp [PyData.eqv]
  rw [e]
  by_cases c : x = y
  · subst c; rw [decide_eq_true rfl, beq_iff_eq]
  · rw [decide_eq_false c]
    exact beq_eq_false_iff_ne.mpr c
theorem any_tx (l : List Str) (w : Str) : ((l.map PyData.str).any fun z => PyData.eqv z (.str w)) = decide (w ∈ l) := by
  rw [List.any_map]
  by_cases c : w ∈ l
  · rw [decide_eq_true c]
    exact List.any_eq_true.mpr ⟨w, c, by show PyData.eqv (.str w) (.str w) = true; rw [eqv_w]; exact decide_eq_true rfl⟩
  · rw [decide_eq_false c, List.any_eq_false]
    intro x hx z
    have : PyData.eqv (.str x) (.str w) = true := z
    rw [eqv_w] at this
    exact c (of_decide_eq_true this ▸ hx)
theorem gInL_tx {l : List Str} {w : Str} (hw : PyData.strOk w = true) (hl : ∀ v ∈ l, PyData.strOk v = true) : gInL (.str w) (tx l) = some (.bool (decide (w ∈ l))) := by
  have h1 := shaped_tx hl
  unfold gInL tx at *
  dsimp only
  rw [if_pos (by rw [shaped_w hw, h1]; rfl), any_tx]
theorem gNinL_tx {l : List Str} {w : Str} (hw : PyData.strOk w = true) (hl : ∀ v ∈ l, PyData.strOk v = true) : gNinL (.str w) (tx l) = some (.bool (!decide (w ∈ l))) := by
  have h1 := shaped_tx hl
  unfold gNinL tx at *
  dsimp only
  rw [if_pos (by rw [shaped_w hw, h1]; rfl), any_tx]
theorem din_kv {α : Type} (f : α → PyData) (ps : KD α) (w : Str) : gDin (.str w) (.dict (kv f ps)) = some (.bool (gt ps w).isSome) := by
  unfold gDin
  dsimp only
  rw [if_neg (by rw [ins_kv]; decide), keyD_k, Option.map_some, val_kv, Option.isSome_map]
theorem dnin_kv {α : Type} (f : α → PyData) (ps : KD α) (w : Str) : gDnin (.str w) (.dict (kv f ps)) = some (.bool (!(gt ps w).isSome)) := by
  unfold gDnin
  dsimp only
  rw [if_neg (by rw [ins_kv]; decide), keyD_k, Option.map_some, val_kv, Option.isSome_map]
theorem dix_kv {α : Type} {f : α → PyData} {ps : KD α} {w : Str} {a : α} (h : gt ps w = some a) : gDix (.dict (kv f ps)) (.str w) = some (f a) := by
  unfold gDix
  dsimp only
  rw [keyD_k, Option.bind_some, val_kv, h]; rfl
def tK (ks : List Str) : List (PyData × PyData) := kv (fun _ : Unit => .bool true) (ks.map fun w => (w, ()))
theorem tK_keys (ks : List Str) : (ks.map fun w => (w, ())).map (·.1) = ks := by rw [List.map_map]; exact List.map_id _
theorem put_tK (ks : List Str) (w : Str) : putD (tK ks) (kS w) (.bool true) = tK (addK ks w) := by
  unfold tK
  rw [put_kv (fun _ : Unit => .bool true) _ w ()]
  congr 1
  have e := pt_keys (ks.map fun w => (w, ())) w ()
  rw [tK_keys] at e
  have key : ∀ ps : KD Unit, ps = (ps.map (·.1)).map fun w => (w, ()) := fun ps => by
    rw [List.map_map]
    exact (List.map_id ps).symm
  rw [key (pt _ w ()), e]
  rfl
theorem ins_tK (ks : List Str) : insB (tK ks) = false := ins_kv _ _
theorem len_tK (ks : List Str) : (tK ks).length = ks.length := by unfold tK; rw [len_kv, List.length_map]
theorem list_tK (ks : List Str) : gListK [.dict (tK ks)] = some (tx ks) := by
  unfold gListK
  dsimp only
  rw [if_neg (by rw [ins_tK]; decide)]
  unfold tK kv tx
  rw [List.map_map, List.map_map]
  rfl
theorem kinds_of_step {S : Nat → Fn} {rs : Rs} (hu : (uni rs).length ≤ 1000000) : fnD 5 (G_kinds_of S) [rsD rs] = .ok (tx (kinds rs)) := by
  refine fnD_of ?_
  obtain ⟨⟨y2, y3, y4⟩, e, _⟩ := forL_fj (gt := gtTup 2 (gtCons (gtName 2) (gtCons (gtName 3) gtNil))) (g := (sSeq (sDPutM [1] 1 (eC (.bool true)) (eVar 2)) (sFor [1] (iSeq (eVar 3)) (gtName 4) (sDPutM [1] 1 (eC (.bool true)) (eVar 4)))))
    (fun p : Str × List Str => .tuple [.str p.1, tx p.2]) kin (fun ks (j : Option PyData × Option PyData × Option PyData) => [some (rsD rs), some (.dict (tK ks)), j.1, j.2.1, j.2.2]) (fun ks => ks.Nodup ∧ ∀ w ∈ ks, w ∈ uni rs) rs [] (none, none, none) ⟨List.nodup_nil, fun w h => by cases h⟩ fun p hp ks j hk => by
      have sub : ∀ w ∈ p.1 :: p.2, w ∈ uni rs := fun w hw => List.mem_flatMap.mpr ⟨p, hp, hw⟩
      have kl : ∀ ks : List Str, ks.Nodup → (∀ w ∈ ks, w ∈ uni rs) → ks.length < sizeLine := fun ks h1 h2 => sz1000' (by have := sub_len h1 h2; omega)
      have k1 : (addK ks p.1).Nodup ∧ ∀ w ∈ addK ks p.1, w ∈ uni rs := ⟨nodup_addK hk.1, fun w hw => (mem_addK.mp hw).elim (hk.2 w) fun e => e ▸ sub _ (by simp)⟩
      obtain ⟨y4, e2, k2⟩ := forL_fj (gt := gtName 4) (g := sDPutM [1] 1 (eC (.bool true)) (eVar 4)) PyData.str addK (fun ks (y : Option PyData) => [some (rsD rs), some (.dict (tK ks)), some (.str p.1), some (tx p.2), y]) (fun ks => ks.Nodup ∧ ∀ w ∈ ks, w ∈ uni rs)
        p.2 (addK ks p.1) j.2.2 k1 fun o ho ks y hk => by
          refine ⟨_, some (.str o), rfl, ?_, nodup_addK hk.1, fun w hw => (mem_addK.mp hw).elim (hk.2 w) fun e => e ▸ sub _ (List.mem_cons_of_mem _ ho)⟩
          have l1 := kl ks hk.1 hk.2
          rw [← len_tK] at l1
          have pu := put_tK ks o
          have ii := ins_tK ks
          generalize rsD rs = R at *
          generalize tx p.2 = T at *
          generalize tK ks = D at *
          simp [ii, keyD_k, l1, pu]
      refine ⟨_, (some (.str p.1), some (tx p.2), y4), rfl, ?_, k2⟩
      have l1 := kl ks hk.1 hk.2
      rw [← len_tK] at l1
      have pu := put_tK ks p.1
      have ii := ins_tK ks
      show _ = Out.nx [some (rsD rs), some (.dict (tK (p.2.foldl addK (addK ks p.1)))), some (.str p.1), some (tx p.2), y4]
      rw [← e2]
      unfold tx
      generalize rsD rs = R at *
      generalize hT : p.2.map PyData.str = T at *
      generalize tK ks = D at *
      generalize tK (addK ks p.1) = D2 at *
      simp [ii, keyD_k, l1, pu]
  have ek : (kv tx rs).map itI = rs.map fun p => .tuple [.str p.1, tx p.2] := by unfold kv; rw [List.map_map]; rfl
  have ii : insB (kv tx rs) = false := ins_kv _ _
  have e0 : tK [] = [] := rfl
  have lk := list_tK (kinds rs)
  dsimp only at e
  rw [e0] at e
  rw [← ek] at e
  unfold G_kinds_of
  unfold rsD at *
  generalize kv tx rs = R at *
  unfold kinds at *
  generalize rs.foldl kin [] = KS at *
  generalize tK KS = TK at *
  simp [ii, e, lk]
def opI : Option Int → PyData
  | none => .none
  | some r => .int r
theorem next_rank_step {S : Nat → Fn} (os : List Str) (K : Kn) : fnD 4 (G_next_rank S) [tx os, knD K] = .ok (opI (nrk K os 0)) := by
  refine fnD_of ?_
  have key : ∀ (os' : List Str) (r : Int) (y : Option PyData), (∀ v, nrk K os' r = some v → ∃ y', forL (gtName 3) (sSeq (sIf (tOf (eOp gDnin (eVar 3) (eVar 1))) (sRet (eC .none)) sNil) (sSet [] 2 (eCall gMax2 (aCons (eVar 2) (aCons (eOp gAdd (eOp gDix (eVar 1) (eVar 3)) (eC (.int 1))) aNil))))) (os'.map .str) [some (tx os), some (knD K), some (.int r), y] = .nx [some (tx os), some (knD K), some (.int v), y']) ∧
      (nrk K os' r = none → forL (gtName 3) (sSeq (sIf (tOf (eOp gDnin (eVar 3) (eVar 1))) (sRet (eC .none)) sNil) (sSet [] 2 (eCall gMax2 (aCons (eVar 2) (aCons (eOp gAdd (eOp gDix (eVar 1) (eVar 3)) (eC (.int 1))) aNil))))) (os'.map .str) [some (tx os), some (knD K), some (.int r), y] = .rt .none) := by
    intro os'
    induction os' with
    | nil => intro r y; exact ⟨fun v e => by cases e; exact ⟨y, rfl⟩, fun e => by cases e⟩
    | cons o os' ih =>
      intro r y
      have dn := dnin_kv PyData.int K o
      rw [List.map_cons, u_forL_c, u_gtName]
      unfold nrk
      cases eo : gt K o with
      | none =>
        rw [eo] at dn
        refine ⟨fun v e => (by cases e), fun _ => ?_⟩
        have : (sSeq (sIf (tOf (eOp gDnin (eVar 3) (eVar 1))) (sRet (eC .none)) sNil) (sSet [] 2 (eCall gMax2 (aCons (eVar 2) (aCons (eOp gAdd (eOp gDix (eVar 1) (eVar 3)) (eC (.int 1))) aNil))))) [some (tx os), some (knD K), some (.int r), some (.str o)] = .rt .none := by
          unfold knD
          generalize tx os = T at *
          generalize kv PyData.int K = KK at *
          simp [dn]
        show (match (sSeq (sIf (tOf (eOp gDnin (eVar 3) (eVar 1))) (sRet (eC .none)) sNil) (sSet [] 2 (eCall gMax2 (aCons (eVar 2) (aCons (eOp gAdd (eOp gDix (eVar 1) (eVar 3)) (eC (.int 1))) aNil))))) [some (tx os), some (knD K), some (.int r), some (.str o)] with
          | .nx ρ2 => _ | .ct ρ2 => _ | .bk ρ2 => _ | .rt d => _ | .err c ρ2 => _ | .bad => _) = _
        rw [this]
      | some v =>
        rw [eo] at dn
        have dx := dix_kv (f := PyData.int) eo
        have : (sSeq (sIf (tOf (eOp gDnin (eVar 3) (eVar 1))) (sRet (eC .none)) sNil) (sSet [] 2 (eCall gMax2 (aCons (eVar 2) (aCons (eOp gAdd (eOp gDix (eVar 1) (eVar 3)) (eC (.int 1))) aNil))))) [some (tx os), some (knD K), some (.int r), some (.str o)] = .nx [some (tx os), some (knD K), some (.int (if v + 1 > r then v + 1 else r)), some (.str o)] := by
          unfold knD
          generalize tx os = T at *
          generalize kv PyData.int K = KK at *
          simp [dn, dx, gMax2]
        dsimp only
        obtain ⟨i1, i2⟩ := ih (if v + 1 > r then v + 1 else r) (some (.str o))
        refine ⟨fun u e => ?_, fun e => ?_⟩
        · obtain ⟨y', h⟩ := i1 u e
          refine ⟨y', ?_⟩
          rw [← h]
          show (match (sSeq (sIf (tOf (eOp gDnin (eVar 3) (eVar 1))) (sRet (eC .none)) sNil) (sSet [] 2 (eCall gMax2 (aCons (eVar 2) (aCons (eOp gAdd (eOp gDix (eVar 1) (eVar 3)) (eC (.int 1))) aNil))))) [some (tx os), some (knD K), some (.int r), some (.str o)] with
            | .nx ρ2 => _ | .ct ρ2 => _ | .bk ρ2 => _ | .rt d => _ | .err c ρ2 => _ | .bad => _) = _
          rw [this]
        · rw [← i2 e]
          show (match (sSeq (sIf (tOf (eOp gDnin (eVar 3) (eVar 1))) (sRet (eC .none)) sNil) (sSet [] 2 (eCall gMax2 (aCons (eVar 2) (aCons (eOp gAdd (eOp gDix (eVar 1) (eVar 3)) (eC (.int 1))) aNil))))) [some (tx os), some (knD K), some (.int r), some (.str o)] with
            | .nx ρ2 => _ | .ct ρ2 => _ | .bk ρ2 => _ | .rt d => _ | .err c ρ2 => _ | .bad => _) = _
          rw [this]
  unfold G_next_rank
  obtain ⟨k1, k2⟩ := key os 0 none
  cases e : nrk K os 0 with
  | some v =>
    obtain ⟨y', h⟩ := k1 v e
    unfold tx at *
    generalize os.map PyData.str = T at *
    generalize knD K = KK at *
    simp [h, opI]
  | none =>
    have h := k2 e
    unfold tx at *
    generalize os.map PyData.str = T at *
    generalize knD K = KK at *
    simp [h, opI]
end Rk
set_option Elab.async false
set_option linter.all false
set_option maxRecDepth 100000
set_option maxHeartbeats 4000000
namespace Rk
open PySem PySem.Spec L2 Pu Nm
structure RsOk (rs : Rs) : Prop where
  nd : (rs.map (·.1)).Nodup
  len : (uni rs).length ≤ 100000
  ok : ∀ w ∈ uni rs, PyData.strOk w = true
theorem lsR_uni {rs : Rs} {k o : Str} (h : o ∈ lsR rs k) : ∃ l, gt rs k = some l ∧ o ∈ l ∧ o ∈ uni rs := by
  unfold lsR at h
  cases e : gt rs k with
  | none => rw [e] at h; cases h
  | some l =>
    rw [e] at h
    exact ⟨l, rfl, h, List.mem_flatMap.mpr ⟨(k, l), gt_some e, List.mem_cons_of_mem _ h⟩⟩
theorem kinds_len {rs : Rs} (h : RsOk rs) : (kinds rs).length ≤ 100000 := Nat.le_trans (sub_len (nodup_kinds rs) fun x hx => mem_kinds.mp hx) h.len
theorem kn_len {rs : Rs} {K : Kn} (h : RsOk rs) (k : KnOk rs K) : K.length ≤ 100000 := by
  have := sub_len k.nd k.mem
  rw [List.length_map] at this
  exact Nat.le_trans this (kinds_len h)
theorem dget_kv (rs : Rs) (k : Str) : gDget (kv tx rs) (.str k) (.list []) = some (tx (lsR rs k)) := by
  unfold gDget
  rw [keyD_k, Option.map_some, val_kv]
  unfold lsR
  cases gt rs k <;> rfl
def KindsOk (F : Fn) : Prop := ∀ rs, RsOk rs → F [rsD rs] = .ok (tx (kinds rs))
def NextOk (F : Fn) : Prop := ∀ (os : List Str) (K : Kn), F [tx os, knD K] = .ok (opI (nrk K os 0))
structure RingOk (rs : Rs) (r : List Str) : Prop where
  ne : r ≠ []
  nd : r.Nodup
  ch : ∀ i (h : i + 1 < r.length), r[i + 1] ∈ lsR rs r[i]
  cl : r.head ne ∈ lsR rs (r.getLast ne)
def RingF (F : Fn) : Prop := ∀ rs, RsOk rs → ∀ k ∈ kinds rs, gt (known rs) k = none → ∃ r, F [.str k, rsD rs, knD (known rs)] = .ok (tx r) ∧ RingOk rs r
def RanksOk (F : Fn) : Prop := ∀ rs, RsOk rs → (F [rsD rs] = .ok (.tuple [.str "ranks", knD (known rs)]) ∧ ∀ k ∈ kinds rs, gt (known rs) k ≠ none) ∨ ∃ r, F [rsD rs] = .ok (.tuple [.str "ring", tx r]) ∧ RingOk rs r
abbrev rkB (c1 : Nat) (S : Nat → Fn) : Vars → Out := sIf (tOf (eOp gDnin (eVar 4) (eVar 1))) (sSeq (sSet [1] 5 (eFn (S c1) (aCons (eDget (eVar 0) (eVar 4) (eLst aNil)) (aCons (eVar 1) aNil)))) (sIf (tOf (eOp gNotN (eVar 5) (eC .none))) (sDPutM [1] 1 (eVar 5) (eVar 4)) sNil)) sNil
theorem rk_turn {S : Nat → Fn} {c1 : Nat} (h1 : NextOk (S c1)) {rs : Rs} (R : RsOk rs) {K : Kn} (ok : KnOk rs K) {k : Str} {x2 x3 y5 : Option PyData} : ∃ y5', rkB c1 S [some (rsD rs), some (knD K), x2, x3, some (.str k), y5] = .nx [some (rsD rs), some (knD (stK rs K k)), x2, x3, some (.str k), y5'] := by
  have dn := dnin_kv PyData.int K k
  have dg := dget_kv rs k
  have hn := h1 (lsR rs k) K
  have ii := ins_kv tx rs
  have ik := ins_kv PyData.int K
  have l0 : (0 : Nat) ≤ sizeLine := Nat.zero_le _
  have ll : (kv PyData.int K).length < sizeLine := sz1000' (by rw [len_kv]; have := kn_len R ok; omega)
  unfold stK
  cases e : gt K k with
  | some v =>
    rw [e] at dn
    refine ⟨y5, ?_⟩
    unfold rsD knD at *
    generalize kv tx rs = RR at *
    generalize kv PyData.int K = KK at *
    simp [dn]
  | none =>
    rw [e] at dn
    dsimp only
    cases e2 : nrk K (lsR rs k) 0 with
    | none =>
      rw [e2] at hn
      have gn : gNotN .none .none = some (.bool false) := rfl
      refine ⟨some .none, ?_⟩
      unfold rsD knD at *
      generalize kv tx rs = RR at *
      generalize kv PyData.int K = KK at *
      generalize tx (lsR rs k) = TT at *
      simp [dn, ii, dg, hn, opI, gn, imm]
    | some r =>
      rw [e2] at hn
      have gn : gNotN (.int r) .none = some (.bool true) := rfl
      have pu := put_kv PyData.int K k r
      rw [pt_new e] at pu
      refine ⟨some (.int r), ?_⟩
      unfold rsD knD at *
      generalize kv tx rs = RR at *
      generalize kv PyData.int (K ++ [(k, r)]) = KK2 at *
      generalize kv PyData.int K = KK at *
      generalize tx (lsR rs k) = TT at *
      simp [dn, ii, dg, hn, opI, gn, imm, ik, keyD_k, ll, pu]
theorem it_range (rs : Rs) : ∀ n, (List.range n).foldl (fun K _ => pass rs K) [] = itK rs n
  | 0 => rfl
  | n + 1 => by rw [List.range_succ, List.foldl_append, it_range rs n]; rfl
theorem ranks_step {S : Nat → Fn} {c0 c1 c2 : Nat} (h0 : KindsOk (S c0)) (h1 : NextOk (S c1)) (h2 : RingF (S c2)) : RanksOk (fun ds => fnD 6 (G_ranks c0 c1 c2 S) ds) := by
  intro rs R
  have hk := h0 rs R
  have lk := kinds_len R
  -- the rounds
  obtain ⟨⟨y3, y4, y5⟩, e1, ok⟩ := forL_fj (gt := gtName 3) (g := sFor [1] (iSeq (eVar 2)) (gtName 4) (rkB c1 S)) (fun i : Nat => PyData.int (0 + (i : Nat))) (fun K _ => pass rs K)
    (fun K (j : Option PyData × Option PyData × Option PyData) => [some (rsD rs), some (knD K), some (tx (kinds rs)), j.1, j.2.1, j.2.2]) (KnOk rs) (List.range (kinds rs).length) [] (none, none, none) (.nil rs) fun i _ K j ok => by
      obtain ⟨⟨z4, z5⟩, e2, ok2⟩ := forL_fj (gt := gtName 4) (g := rkB c1 S) PyData.str (stK rs) (fun K (q : Option PyData × Option PyData) => [some (rsD rs), some (knD K), some (tx (kinds rs)), some (.int (0 + (i : Nat))), q.1, q.2]) (KnOk rs)
        (kinds rs) K (j.2.1, j.2.2) ok fun k hk K q ok => by
          obtain ⟨y5', e3⟩ := rk_turn h1 R ok (k := k) (x2 := some (tx (kinds rs))) (x3 := some (.int (0 + (i : Nat)))) (y5 := q.2)
          exact ⟨_, (some (.str k), y5'), rfl, e3, ok.st hk⟩
      refine ⟨_, (some (.int (0 + (i : Nat))), z4, z5), rfl, ?_, ok2⟩
      show _ = Out.nx [some (rsD rs), some (knD (pass rs K)), some (tx (kinds rs)), some (.int (0 + (i : Nat))), z4, z5]
      have e2' : forL (gtName 4) (rkB c1 S) ((kinds rs).map .str) [some (rsD rs), some (knD K), some (tx (kinds rs)), some (.int (0 + (i : Nat))), j.2.1, j.2.2] = Out.nx [some (rsD rs), some (knD (pass rs K)), some (tx (kinds rs)), some (.int (0 + (i : Nat))), z4, z5] := e2
      rw [← e2']
      unfold tx
      generalize (kinds rs).map PyData.str = KL at *
      generalize rsD rs = RR at *
      generalize knD K = KK at *
      generalize rkB c1 S = G at *
      simp
  rw [it_range] at e1
  have ekn : itK rs (kinds rs).length = known rs := rfl
  rw [ekn] at e1
  have okk := known_ok rs
  -- one without a rank
  have key : ∀ (ks : List Str) (y : Option PyData), (∀ k ∈ ks, k ∈ kinds rs) →
      ((∀ k ∈ ks, gt (known rs) k ≠ none) → ∃ y', forL (gtName 4) (sIf (tOf (eOp gDnin (eVar 4) (eVar 1))) (sRet (eTup (aCons (eC (.str "ring")) (aCons (eFn (S c2) (aCons (eVar 4) (aCons (eVar 0) (aCons (eVar 1) aNil)))) aNil)))) sNil) (ks.map .str) [some (rsD rs), some (knD (known rs)), some (tx (kinds rs)), y3, y, y5] = .nx [some (rsD rs), some (knD (known rs)), some (tx (kinds rs)), y3, y', y5]) ∧
      ((∃ k ∈ ks, gt (known rs) k = none) → ∃ r, forL (gtName 4) (sIf (tOf (eOp gDnin (eVar 4) (eVar 1))) (sRet (eTup (aCons (eC (.str "ring")) (aCons (eFn (S c2) (aCons (eVar 4) (aCons (eVar 0) (aCons (eVar 1) aNil)))) aNil)))) sNil) (ks.map .str) [some (rsD rs), some (knD (known rs)), some (tx (kinds rs)), y3, y, y5] = .rt (.tuple [.str "ring", tx r]) ∧ RingOk rs r) := by
    intro ks
    induction ks with
    | nil => intro y _; exact ⟨fun _ => ⟨y, rfl⟩, fun ⟨k, hk, _⟩ => by cases hk⟩
    | cons k ks ih =>
      intro y hm
      have dn := dnin_kv PyData.int (known rs) k
      obtain ⟨i1, i2⟩ := ih (some (.str k)) fun x hx => hm x (List.mem_cons_of_mem _ hx)
      rw [List.map_cons, u_forL_c, u_gtName]
      cases e : gt (known rs) k with
      | none =>
        rw [e] at dn
        obtain ⟨r, hr, okr⟩ := h2 rs R k (hm k (by simp)) e
        refine ⟨fun h => absurd e (h k (by simp)), fun _ => ⟨r, ?_, okr⟩⟩
        have le2 : 2 ≤ sizeLine := sz1000 (by decide)
        have : (sIf (tOf (eOp gDnin (eVar 4) (eVar 1))) (sRet (eTup (aCons (eC (.str "ring")) (aCons (eFn (S c2) (aCons (eVar 4) (aCons (eVar 0) (aCons (eVar 1) aNil)))) aNil)))) sNil) [some (rsD rs), some (knD (known rs)), some (tx (kinds rs)), y3, some (.str k), y5] = .rt (.tuple [.str "ring", tx r]) := by
          unfold rsD knD at *
          generalize kv tx rs = RR at *
          generalize kv PyData.int (known rs) = KK at *
          generalize tx (kinds rs) = TT at *
          generalize tx r = TR at *
          simp [dn, hr]
        show (match (sIf (tOf (eOp gDnin (eVar 4) (eVar 1))) (sRet (eTup (aCons (eC (.str "ring")) (aCons (eFn (S c2) (aCons (eVar 4) (aCons (eVar 0) (aCons (eVar 1) aNil)))) aNil)))) sNil) [some (rsD rs), some (knD (known rs)), some (tx (kinds rs)), y3, some (.str k), y5] with
          | .nx ρ2 => _ | .ct ρ2 => _ | .bk ρ2 => _ | .rt d => _ | .err c ρ2 => _ | .bad => _) = _
        rw [this]
      | some v =>
        rw [e] at dn
        have : (sIf (tOf (eOp gDnin (eVar 4) (eVar 1))) (sRet (eTup (aCons (eC (.str "ring")) (aCons (eFn (S c2) (aCons (eVar 4) (aCons (eVar 0) (aCons (eVar 1) aNil)))) aNil)))) sNil) [some (rsD rs), some (knD (known rs)), some (tx (kinds rs)), y3, some (.str k), y5] = .nx [some (rsD rs), some (knD (known rs)), some (tx (kinds rs)), y3, some (.str k), y5] := by
          unfold rsD knD at *
          generalize kv tx rs = RR at *
          generalize kv PyData.int (known rs) = KK at *
          generalize tx (kinds rs) = TT at *
          simp [dn]
        refine ⟨fun h => ?_, fun h => ?_⟩
        · obtain ⟨y', hy⟩ := i1 fun x hx => h x (List.mem_cons_of_mem _ hx)
          refine ⟨y', ?_⟩
          rw [← hy]
          show (match (sIf (tOf (eOp gDnin (eVar 4) (eVar 1))) (sRet (eTup (aCons (eC (.str "ring")) (aCons (eFn (S c2) (aCons (eVar 4) (aCons (eVar 0) (aCons (eVar 1) aNil)))) aNil)))) sNil) [some (rsD rs), some (knD (known rs)), some (tx (kinds rs)), y3, some (.str k), y5] with
            | .nx ρ2 => _ | .ct ρ2 => _ | .bk ρ2 => _ | .rt d => _ | .err c ρ2 => _ | .bad => _) = _
          rw [this]
        · obtain ⟨r, hr, okr⟩ := i2 (by
            obtain ⟨x, hx, hn⟩ := h
            rcases List.mem_cons.mp hx with rfl | z
            · rw [e] at hn; cases hn
            · exact ⟨x, z, hn⟩)
          refine ⟨r, ?_, okr⟩
          rw [← hr]
          show (match (sIf (tOf (eOp gDnin (eVar 4) (eVar 1))) (sRet (eTup (aCons (eC (.str "ring")) (aCons (eFn (S c2) (aCons (eVar 4) (aCons (eVar 0) (aCons (eVar 1) aNil)))) aNil)))) sNil) [some (rsD rs), some (knD (known rs)), some (tx (kinds rs)), y3, some (.str k), y5] with
            | .nx ρ2 => _ | .ct ρ2 => _ | .bk ρ2 => _ | .rt d => _ | .err c ρ2 => _ | .bad => _) = _
          rw [this]
  obtain ⟨k1, k2⟩ := key (kinds rs) y4 fun k h => h
  have kI : okI ((kinds rs).length : Int) = true := okI_small (by omega) (by omega)
  have e0 : knD [] = .dict [] := rfl
  have e1' : forL (gtName 3) (sFor [1] (iSeq (eVar 2)) (gtName 4) (rkB c1 S)) (rngD 0 (kinds rs).length) [some (rsD rs), some (.dict []), some (tx (kinds rs)), none, none, none] = .nx [some (rsD rs), some (knD (known rs)), some (tx (kinds rs)), y3, y4, y5] := e1
  have le2 : 2 ≤ sizeLine := sz1000 (by decide)
  have gl : gLen [tx (kinds rs)] = some (.int ((kinds rs).length : Nat)) := by
    unfold tx gLen
    dsimp only
    rw [List.length_map]
  have tn : ((kinds rs).length : Int).toNat = (kinds rs).length := by omega
  by_cases c : ∃ k ∈ kinds rs, gt (known rs) k = none
  · right
    obtain ⟨r, hr, okr⟩ := k2 c
    refine ⟨r, fnD_of ?_, okr⟩
    unfold G_ranks
    unfold rkB at e1'
    unfold tx at hr hk gl e1' ⊢
    generalize hL : (kinds rs).length = L at *
    generalize (kinds rs).map PyData.str = KL at *
    generalize rsD rs = RR at *
    generalize knD (known rs) = KK at *
    simp [hk, gl, kI, e1', hr, tn]
  · left
    have hall : ∀ k ∈ kinds rs, gt (known rs) k ≠ none := fun k hk z => c ⟨k, hk, z⟩
    obtain ⟨y', hr⟩ := k1 hall
    refine ⟨fnD_of ?_, hall⟩
    unfold G_ranks
    unfold rkB at e1'
    unfold tx at hr hk gl e1'
    generalize hL : (kinds rs).length = L at *
    generalize (kinds rs).map PyData.str = KL at *
    generalize rsD rs = RR at *
    generalize knD (known rs) = KK at *
    simp [hk, gl, kI, e1', hr, tn]
end Rk
set_option Elab.async false
set_option linter.all false
set_option maxRecDepth 100000
set_option maxHeartbeats 4000000
namespace Rk
open PySem PySem.Spec L2 Pu Nm
theorem at_last {α : Type} (xs : List α) (x : α) : atI (xs ++ [x]) (-1) = some x := by
  unfold atI ixN
  rw [if_neg (by decide), List.length_append, List.length_singleton, if_pos (by omega), Option.bind_some, show ((-1 : Int) + ((xs.length + 1 : Nat) : Int)).toNat = xs.length by omega, List.getElem?_append_right (Nat.le_refl _), Nat.sub_self]
  rfl
structure Way (rs : Rs) (way : List Str) : Prop where
  ne : way ≠ []
  nd : way.Nodup
  un : ∀ w ∈ way, w ∈ kinds rs ∧ gt (known rs) w = none
  ch : ∀ i (h : i + 1 < way.length), way[i + 1] ∈ lsR rs way[i]
def d4 : Option Str → PyData
  | none => .none
  | some w => .str w
def accU (K : Kn) (a : Option Str) (o : Str) : Option Str := if (gt K o).isNone ∧ a = none then some o else a
theorem accU_some (K : Kn) : ∀ (l : List Str) (w : Str), l.foldl (accU K) (some w) = some w
  | [], w => rfl
  | o :: l, w => by
    have : accU K (some w) o = some w := if_neg fun h => by cases h.2
    rw [List.foldl_cons, this, accU_some K l w]
theorem accU_find (K : Kn) : ∀ l : List Str, l.foldl (accU K) none = l.find? fun o => (gt K o).isNone
  | [] => rfl
  | o :: l => by
    rw [List.foldl_cons, List.find?_cons]
    cases e : (gt K o).isNone with
    | true =>
      have : accU K none o = some o := if_pos ⟨e, rfl⟩
      rw [this, accU_some]
    | false =>
      have : accU K none o = none := if_neg fun h => by rw [e] at h; cases h.1
      rw [this, accU_find K l]
abbrev acB : Vars → Out := sIf (tAndR (tOf (eOp gDnin (eVar 5) (eVar 2))) (tOf (eOp gIsN (eVar 4) (eC .none)))) (sSetM [3] 4 (eVar 5)) sNil
theorem ac_loop (K : Kn) (x0 x1 x3 : Option PyData) (l : List Str) (y : Option PyData) : ∃ y', forL (gtName 5) acB (l.map .str) [x0, x1, some (knD K), x3, some .none, y] = .nx [x0, x1, some (knD K), x3, some (d4 (l.find? fun o => (gt K o).isNone)), y'] := by
  obtain ⟨y', h, _⟩ := forL_fj (gt := gtName 5) (g := acB) PyData.str (accU K) (fun a (y : Option PyData) => [x0, x1, some (knD K), x3, some (d4 a), y]) (fun _ => True) l none y trivial fun o ho a y _ => by
    refine ⟨_, some (.str o), rfl, ?_, trivial⟩
    have dn := dnin_kv PyData.int K o
    unfold accU
    have gn0 : gIsN .none .none = some (.bool true) := rfl
    have gn1 : ∀ w : Str, gIsN (.str w) .none = some (.bool false) := fun w => rfl
    cases e : gt K o with
    | some v =>
      rw [e] at dn
      rw [if_neg (by simp)]
      unfold knD at *
      generalize kv PyData.int K = KK at *
      generalize d4 a = A at *
      simp [dn]
    | none =>
      rw [e] at dn
      cases a with
      | none =>
        rw [if_pos ⟨rfl, rfl⟩]
        unfold knD at *
        generalize kv PyData.int K = KK at *
        simp [dn, d4, gn0]
      | some w =>
        rw [if_neg (by simp)]
        unfold knD at *
        generalize kv PyData.int K = KK at *
        simp [dn, d4, gn1]
  rw [accU_find] at h
  exact ⟨y', h⟩
abbrev rgB : Vars → Out := sSeq (sSetM [3] 4 (eC .none)) (sSeq (sForM [3] (eVar 1) (eOp gIx (eVar 3) (eNeg (eC (.int 1)))) (gtName 5) acB) (sSeq (sIf (tOf (eOp gInL (eVar 4) (eVar 3))) (sRet (eSl (eVar 3) (oSome (eIdx (eVar 3) (eVar 4))) oNone)) sNil) (sAppM [3] 3 (eVar 4))))
theorem rg_turn {rs : Rs} (R : RsOk rs) {way : List Str} (W : Way rs way) {x0 y4 y5 : Option PyData} :
    (∃ r, rgB [x0, some (rsD rs), some (knD (known rs)), some (tx way), y4, y5] = .rt (tx r) ∧ RingOk rs r) ∨
    ∃ a z4 z5, rgB [x0, some (rsD rs), some (knD (known rs)), some (tx way), y4, y5] = .nx [x0, some (rsD rs), some (knD (known rs)), some (tx (way ++ [a])), z4, z5] ∧ Way rs (way ++ [a]) := by
  obtain ⟨l, rfl⟩ : ∃ l, l = way.getLast W.ne := ⟨_, rfl⟩
  have ew : way.dropLast ++ [way.getLast W.ne] = way := List.dropLast_concat_getLast W.ne
  generalize hl : way.getLast W.ne = l at *
  have lm : l ∈ way := by rw [← hl]; exact List.getLast_mem W.ne
  obtain ⟨lk, ln⟩ := W.un l lm
  obtain ⟨o, ho, on⟩ := known_no lk ln
  obtain ⟨ls, gl, ol, _⟩ := lsR_uni ho
  have els : lsR rs l = ls := by unfold lsR; rw [gl]; rfl
  obtain ⟨a, fa⟩ : ∃ a, (ls.find? fun o => (gt (known rs) o).isNone) = some a := by
    cases e : (ls.find? fun o => (gt (known rs) o).isNone) with
    | some a => exact ⟨a, rfl⟩
    | none => exact absurd (by rw [on]; rfl) (List.find?_eq_none.mp e o ol)
  have am : a ∈ lsR rs l := by rw [els]; exact List.mem_of_find?_eq_some fa
  have an : gt (known rs) a = none := by
    have := List.find?_some fa
    exact Option.isNone_iff_eq_none.mp this
  obtain ⟨_, _, _, au⟩ := lsR_uni am
  have ak : a ∈ kinds rs := mem_kinds.mpr au
  have oa := R.ok a au
  have ow : ∀ w ∈ way, PyData.strOk w = true := fun w hw => R.ok w (mem_kinds.mp (W.un w hw).1)
  have wl : way.length ≤ 100000 := Nat.le_trans (sub_len W.nd fun w hw => (W.un w hw).1) (kinds_len R)
  obtain ⟨y', e1⟩ := ac_loop (known rs) x0 (some (rsD rs)) (some (tx way)) ls y5
  rw [fa] at e1
  have gx : gIx (tx way) (.int (-1)) = some (.str l) := by
    show atI (way.map PyData.str) (-1) = _
    rw [← ew, List.map_append]
    exact at_last _ _
  have dx : gDix (rsD rs) (.str l) = some (.list (ls.map .str)) := dix_kv (f := tx) gl
  have gi := gInL_tx oa ow
  by_cases c : a ∈ way
  · left
    rw [decide_eq_true c] at gi
    obtain ⟨j, hj⟩ : ∃ j, way.findIdx? (fun z => decide (z = a)) = some j := by
      cases e : way.findIdx? (fun z => decide (z = a)) with
      | some j => exact ⟨j, rfl⟩
      | none =>
        have := List.findIdx?_eq_none_iff.mp e a c
        simp at this
    obtain ⟨jl, j1, j2⟩ := List.findIdx?_eq_some_iff_getElem.mp hj
    have ja : way[j] = a := of_decide_eq_true j1
    have gd : gIdx (way.map .str) (.str a) = some (.int (j : Nat)) := by
      have sh := shaped_tx ow
      unfold gIdx
      unfold tx at sh
      rw [if_pos (by rw [shaped_w oa, sh]; rfl), List.findIdx?_map]
      have : ((fun z => PyData.eqv z (.str a)) ∘ PyData.str) = fun z : Str => decide (z = a) := by
        funext z
        exact eqv_w z a
      rw [this, hj]; rfl
    have cb : cutD (way.map PyData.str) (some (j : Int)) none = (way.drop j).map PyData.str := by
      rw [cut_back, List.length_map, Nat.min_eq_left (by omega), List.map_drop]
    refine ⟨way.drop j, ?_, ?_⟩
    · have sl : gSl (.list (way.map .str)) (some (j : Int)) none = some (.list ((way.drop j).map .str)) := by
        show some (PyData.list (cutD (way.map PyData.str) (some (j : Int)) none)) = _
        rw [cb]
      unfold tx at *
      generalize (way.drop j).map PyData.str = DL at *
      generalize way.map PyData.str = WL at *
      generalize ls.map PyData.str = LL at *
      generalize knD (known rs) = KK at *
      generalize rsD rs = RR at *
      simp [gx, dx, e1, d4, gi, gd, sl]
    · have ne : way.drop j ≠ [] := fun z => by have := congrArg List.length z; rw [List.length_drop, List.length_nil] at this; omega
      refine ⟨ne, W.nd.sublist (List.drop_sublist ..), fun i hi => ?_, ?_⟩
      · rw [List.length_drop] at hi
        have := W.ch (j + i) (by omega)
        simpa [List.getElem_drop, Nat.add_assoc] using this
      · have e2 : (way.drop j).head ne = a := by
          rw [List.head_eq_getElem, List.getElem_drop]; simpa using ja
        have e3 : (way.drop j).getLast ne = l := by
          rw [List.getLast_drop]; exact hl
        rw [e2, e3]; exact am
  · right
    rw [decide_eq_false c] at gi
    refine ⟨a, some (.str a), y', ?_, ?_⟩
    · have ll : (way.map PyData.str).length < sizeLine := sz1000' (by rw [List.length_map]; omega)
      have ma : (way ++ [a]).map PyData.str = way.map PyData.str ++ [.str a] := List.map_append ..
      unfold tx at *
      rw [ma]
      generalize way.map PyData.str = WL at *
      generalize ls.map PyData.str = LL at *
      generalize knD (known rs) = KK at *
      generalize rsD rs = RR at *
      simp [gx, dx, e1, d4, gi, ll]
    · refine ⟨by simp, List.nodup_append.mpr ⟨W.nd, by simp, fun x hx b hb e => c (by rw [List.mem_singleton.mp hb] at e; exact e ▸ hx)⟩, fun w hw => ?_, fun i hi => ?_⟩
      · rcases List.mem_append.mp hw with z | z
        · exact W.un w z
        · rw [List.mem_singleton.mp z]; exact ⟨ak, an⟩
      · rw [List.length_append, List.length_singleton] at hi
        by_cases q : i + 1 < way.length
        · rw [List.getElem_append_left q, List.getElem_append_left (by omega)]
          exact W.ch i q
        · have ei : i + 1 = way.length := by omega
          rw [List.getElem_append_left (show i < way.length by omega), List.getElem_append_right (by omega)]
          have : way[i]'(by omega) = l := by
            rw [← hl, List.getLast_eq_getElem]
            congr 1; omega
          rw [this]
          simpa using am
theorem rg_loop {rs : Rs} (R : RsOk rs) {x0 : Option PyData} : ∀ (n : Nat) (way : List Str) (y4 y5 : Option PyData) (f : Nat), Way rs way → (kinds rs).length < way.length + n → n ≤ f →
    ∃ r, whileL (tTru (eC (.bool true))) rgB f [x0, some (rsD rs), some (knD (known rs)), some (tx way), y4, y5] = .rt (tx r) ∧ RingOk rs r
  | 0, way, y4, y5, f, W, h, _ => by
    have := sub_len W.nd fun w hw => (W.un w hw).1
    omega
  | n + 1, way, y4, y5, 0, W, h, hf => by omega
  | n + 1, way, y4, y5, f + 1, W, h, hf => by
    have t : tTru (eC (.bool true)) [x0, some (rsD rs), some (knD (known rs)), some (tx way), y4, y5] = .ok true := rfl
    unfold whileL
    rw [t, Pu.R.run_ok, if_pos rfl]
    rcases rg_turn R W (x0 := x0) (y4 := y4) (y5 := y5) with ⟨r, e, ok⟩ | ⟨a, z4, z5, e, W2⟩
    · rw [e]; exact ⟨r, rfl, ok⟩
    · rw [e]
      exact rg_loop R n _ z4 z5 f W2 (by rw [List.length_append, List.length_singleton]; omega) (by omega)
theorem ring_step {S : Nat → Fn} : RingF (fun ds => fnD 6 (G_ring_from S) ds) := by
  intro rs R k hk hn
  have lk := kinds_len R
  obtain ⟨r, e, ok⟩ := rg_loop R (x0 := some (.str k)) ((kinds rs).length) [k] none none wfuel ⟨by simp, by simp, fun w hw => by rw [List.mem_singleton.mp hw]; exact ⟨hk, hn⟩, fun i hi => by simp at hi⟩ (by simp) (by show _ ≤ 1000000; omega)
  refine ⟨r, fnD_of ?_, ok⟩
  have le1 : 1 ≤ sizeLine := sz1000 (by decide)
  have f1 : sNew [3] 3 (nLst (aCons (eVar 0) aNil)) [some (.str k), some (rsD rs), some (knD (known rs)), none, none, none] = .nx [some (.str k), some (rsD rs), some (knD (known rs)), some (tx [k]), none, none] := by
    unfold tx
    generalize rsD rs = RR at *
    generalize knD (known rs) = KK at *
    simp [le1]
  show sSeq (sNew [3] 3 (nLst (aCons (eVar 0) aNil))) (whileL (tTru (eC (.bool true))) rgB wfuel) [some (.str k), some (rsD rs), some (knD (known rs)), none, none, none] = _
  rw [u_sSeq, f1, Out.then_nx]
  exact e
end Rk
set_option Elab.async false
set_option linter.all false
set_option maxRecDepth 100000
set_option maxHeartbeats 4000000
namespace Tx
open PySem PySem.Spec L2 Pu Nm
abbrev sg (a : Nat) : PyData := .str ⟨#[a]⟩
theorem gIx_any {x : Str} (h : x.length ≤ 10000) (ok : ∀ a ∈ x.cps.toList, a < 1114112) {i : Int} (h0 : 0 ≤ i) (h1 : i < x.length) : ∃ a, a < 1114112 ∧ gIx (.str x) (.int i) = some (sg a) := by
  obtain ⟨j, rfl⟩ := Int.eq_ofNat_of_zero_le h0
  have hj : j < x.cps.toList.length := by simp [Str.length] at h1 ⊢; omega
  refine ⟨x.cps.toList[j], ok _ (List.getElem_mem hj), ?_⟩
  have : atI x.cps.toList (j : Int) = some x.cps.toList[j] := L2.atI_nat (List.getElem?_eq_getElem hj)
  unfold gIx
  dsimp only
  rw [if_pos (sz1000 (by omega)), this]
  rfl
end Tx
set_option Elab.async false
set_option linter.all false
set_option maxRecDepth 100000
set_option maxHeartbeats 4000000
namespace Pu
open PySem PySem.Spec PyProof.Rows L2
section
variable {X : Cx} {W : WX}
end
end Pu
set_option Elab.async false
set_option linter.all false
set_option maxRecDepth 100000
set_option maxHeartbeats 4000000
namespace SS
open PySem PySem.Spec PyProof.Rows
section
variable {prog : Program} {w : World} {A : Around} {R : Result → Shared → Prop} {I : Addr} {fp wr : List Addr} {G : Array GenState → Array GenState → Prop} {n : Nat} {P : Nat → Value → Prop} {St : Nat → Shared → Prop}
theorem loopTx (W : WalksS prog w A.in1 I fp wr G n P St) (S : Addr) (hSf : S ∉ fp) (xs : List Str) (hsz : xs.length = n) (hnd : xs.Nodup) (hn1 : n + 1 < scanBound)
    (hval : ∀ i v, P i v → ∃ t, v = .str (xs.getD i Str.empty) t) :
    ∀ (k i : Nat) (s : Shared), n - i = k → i ≤ n → St i s →
      s.heap.SetOf (PySem.strKind prog w) S (fun k' => (xs.take i).any (· == k')) i →
      (∀ s', Moved (S :: wr) G s s' → s'.heap.SetOf (PySem.strKind prog w) S (fun k' => (xs.take n).any (· == k')) n → R (.ok (.ret .none)) s') →
      codeAny (model prog w) A (.builtin "set.update.loop" ⟨[.ref S, .ref I], []⟩) R s := by
  have hSw : S ∉ wr := fun h => hSf (W.sub _ h)
  have hsub : ∀ b ∈ wr, b ∈ S :: wr := fun b hb => List.mem_cons_of_mem _ hb
  intro k
  induction k with
  | zero =>
    intro i s hk hi hst hS hR
    have hin : i = n := by omega
    subst hin
    refine codeAny_builtin PyProof.Rows.F.entry_set_update_loop ?_
    rw [Around.under_plainId PyProof.Rows.F.plain_set_update_loop _]
    show wpAny _ A.in1 (pyNext (.ref I) >>= _) _ _ s
    refine wpAny_bind (W.done s _ _ hst fun s' hm => ?_)
    show wpAny _ A.in1 (ret Value.none) _ _ s'
    exact wpAny_pure (hR s' (hm.mono hsub) (by
      obtain ⟨o, es, ep, t, ho, rest⟩ := hS
      exact ⟨o, es, ep, t, hm.heap S _ hSw ho, rest⟩))
  | succ k ih =>
    intro i s hk hi hst hS hR
    have hlt : i < n := by omega
    refine codeAny_builtin PyProof.Rows.F.entry_set_update_loop ?_
    rw [Around.under_plainId PyProof.Rows.F.plain_set_update_loop _]
    show wpAny _ A.in1 (pyNext (.ref I) >>= _) _ _ s
    refine wpAny_bind (W.item i s _ _ hlt hst fun v s' hP hst' hm => ?_)
    obtain ⟨t, rfl⟩ := hval i v hP
    have hS' : s'.heap.SetOf (PySem.strKind prog w) S (fun k' => (xs.take i).any (· == k')) i := by
      obtain ⟨o, es, ep, tb, ho, rest⟩ := hS
      exact ⟨o, es, ep, tb, hm.heap S _ hSw ho, rest⟩
    show wpAny _ A.in1 (holding [Value.str (xs.getD i Str.empty) t] (setAdd S (.str (xs.getD i Str.empty) t)) >>= _) _ _ s'
    refine wpAny_bind (wpAny_holding ?_)
    unfold setAdd
    refine wpAny_holding ?_
    refine wpAny_bind ((PySem.strKind prog w).pyHash (k := xs.getD i Str.empty) (strKind_is _ _ _ _) ?_)
    have hix : i < xs.length := by omega
    have ex : xs.getD i Str.empty = xs[i] := by rw [List.getD_eq_getElem?_getD, List.getElem?_eq_getElem hix]; rfl
    have no : ((xs.take i).any (· == xs[i])) = false := by
      rw [List.any_eq_false]
      intro y hy e
      have ey : y = xs[i] := eq_of_beq e
      subst ey
      obtain ⟨m, hm, em⟩ := List.getElem_of_mem hy
      rw [List.getElem_take] at em
      have hmi : m < i := by rw [List.length_take] at hm; omega
      exact absurd em (List.pairwise_iff_getElem.mp hnd m i (by omega) hix hmi)
    refine wpAny_setAddHashed_of (knd := PySem.strKind prog w) (s := { s' with toks := s'.toks + 1 }) (strKind_is _ _ _ _) rfl hS' (by omega) fun h' hsb hS2 => ?_
    have hSi : h'.SetOf (PySem.strKind prog w) S (fun k' => (xs.take (i + 1)).any (· == k')) (i + 1) := by
      refine SetOf_congr hS2 (fun k' => ?_) (by rw [ex, no]; rfl)
      rw [List.take_add_one, List.getElem?_eq_getElem hix, ex]
      simp only [Option.toList_some, List.any_append, List.any_cons, List.any_nil, Bool.or_false]
      congr 1
      by_cases e : k' = xs[i]
      · subst e; simp
      · have hb : (xs[i] == k') = false := by simpa [beq_iff_eq] using (fun h' : xs[i] = k' => e h'.symm)
        rw [hb, decide_eq_false e]
    refine wpAny_pure ⟨plainId_quiet PyProof.Rows.F.plain_set_update_loop _, ih (i + 1) _ (by omega) hlt (W.frame _ s' _ _ hst' (Nat.le_succ _) fun b hb o e => ?_) hSi fun s'' hm'' hS'' => ?_⟩
    · rw [hsb.2 b (fun h : b = S => hSf (by rw [← h]; exact hb))]; exact e
    · refine hR s'' (Moved.trans W.gtrans ((hm.mono hsub).then_heap (Nat.le_succ _) fun b o hb e => ?_) hm'') hS''
      rw [hsb.2 b (fun h : b = S => hb (by rw [h]; exact List.mem_cons_self))]; exact e
end
section
variable {prog : Program} {w : World} {A : Around} {E : Value → Shared → Prop} {s : Shared}
set_option maxHeartbeats 3200000 in
theorem call_set_listT {l : Addr} {items : Array Value} {xs : List Str} {Q : Value → Shared → Prop}
    (hh : A.handled = none) (hl : s.heap.IsList l items) (hi : PyProof.Rows.StrsAre items.toList xs) (hnd : xs.Nodup) (hn1 : xs.length + 1 < scanBound)
    (h : ∀ (h' : Heap) (tk : Nat), h'.SetOf (PySem.strKind prog w) s.heap.objs.size (fun k' => (xs.take items.size).any (· == k')) items.size →
      (∀ b o, b < s.heap.objs.size → s.heap.get? b = some o → h'.get? b = some o) → Q (.ref s.heap.objs.size) { s with heap := h', toks := tk }) :
    wpAny (model prog w) A (call (.type "set") [.ref l]) Q E s := by
  obtain ⟨c, tl, hmro⟩ := PySem.F.called_set.mro
  have hmade := PySem.F.called_set.made
  have hsub := PySem.F.called_set.sub
  refine wpAny_call (codeAny_of_tree ?_)
  show wpAny _ _ (callAny (.type "set") _) _ _ _
  refine wpAny_pure ⟨Code.quiet_builtin _ (by decide +kernel), codeAny_builtin PySem.F.entry_type_call ?_⟩
  rw [Around.under_plain (weight_type_call_type "set" [.ref l] []) rfl]
  have h1 := PySem.F.called_set.notType
  have h2 := PySem.F.called_set.canCreate
  have hct := PySem.F.typeCall_set_1 (.ref l)
  repeat (any_goals (first | assumption | wp_step))
  refine codeAny_mono (code_set_new_1 (.ref l) (E := E) (Q₁ := fun obj s₁ => ∃ led : Bool, obj = .ref s.heap.objs.size ∧ s₁ = { s with heap := s.heap.push { cls := .type "set", dict := none, data := .set #[] 0 (.fresh 0 0 led) } }) fun led => ⟨led, rfl, rfl⟩) fun r s₁ hr => ?_
  cases r with
  | error e => exact hr
  | ok fl =>
    cases fl with
    | ret obj =>
      obtain ⟨led, rfl, rfl⟩ := hr
      have hS : (s.heap.push { cls := .type "set", dict := none, data := .set #[] 0 (.fresh 0 0 led) }).get? s.heap.objs.size = some { cls := .type "set", dict := none, data := .set #[] 0 (.fresh 0 0 led) } := Heap.get?_push_size _ rfl
      have hT : Shared.TypeIs { s with heap := s.heap.push { cls := .type "set", dict := none, data := .set #[] 0 (.fresh 0 0 led) } } (.ref s.heap.objs.size) "set" := ⟨_, hS, rfl⟩
      have hli := PySem.F.called_set.init.lookup
      have hbi := PySem.F.called_set.init.bind (.ref s.heap.objs.size)
      repeat (any_goals (first | assumption | wp_step))
      refine codeAny_mono (codeAny_call_builtin (R := wants (fun r s₂ => r = .none ∧ ∃ h' tk, s₂ = { s with heap := h', toks := tk } ∧
          h'.SetOf (PySem.strKind prog w) s.heap.objs.size (fun k' => (xs.take items.size).any (· == k')) items.size ∧
          (∀ b o, b < s.heap.objs.size → s.heap.get? b = some o → h'.get? b = some o)) E) PySem.F.called_set.init.plain PySem.F.entry_set_init (check_set_init_1 hT ?_)) fun r₂ s₂ hr₂ => ?_
      · obtain ⟨ol, hol, hcl, nl, hdl⟩ := hl
        obtain ⟨ocls, odict, odata, oslots⟩ := ol
        simp only at hcl hdl
        subst hcl; subst hdl
        have hol' : (s.heap.push { cls := .type "set", dict := none, data := .set #[] 0 (.fresh 0 0 led) }).get? l = some { cls := .type "list", dict := odict, data := .seq items nl, slots := oslots } := Heap.get?_push_of_some _ hol
        have hsls := PySem.F.sub_list_set
        have hslf := PySem.F.sub_list_frozenset
        have hne : (Value.type "list" == Value.type "dict") = false := by decide
        have hl1 : (s.heap.push { cls := .type "set", dict := none, data := .set #[] 0 (.fresh 0 0 led) }).IsList l items := ⟨_, hol', rfl, nl, rfl⟩
        unfold Builtin.«set.__init__» noKeywords Builtin.Frozenset.updateFrom
        generalize hPI : pyIter = PI
        wp_walk
        subst hPI
        refine wpAny_pyIter_list hl1 ?_
        refine wpAny_bind (wpAny_runValue ?_)
        have hlS : l < s.heap.objs.size := Heap.lt_size hol
        have hh3 : A.in1.in1.in1.handled = none := by simp [hh]
        have hneI : l ≠ (s.heap.push { cls := .type "set", dict := none, data := .set #[] 0 (.fresh 0 0 led) }).objs.size := by
          rw [Heap.size_push]; exact Nat.ne_of_lt (Nat.lt_succ_of_lt hlS)
        have hSf : s.heap.objs.size ∉ [(s.heap.push { cls := .type "set", dict := none, data := .set #[] 0 (.fresh 0 0 led) }).objs.size, l] := by
          rw [Heap.size_push]; simp only [List.mem_cons, List.mem_singleton, List.not_mem_nil, or_false, not_or]
          exact ⟨Nat.ne_of_lt (Nat.lt_succ_self _), Nat.ne_of_gt hlS⟩
        have hsz : xs.length = items.size := by rw [← StrsAre.len_eq hi, Array.length_toList]
        have hval : ∀ (i : Nat) (v : Value), items[i]? = some v → ∃ t, v = .str (xs.getD i Str.empty) t := fun i v hv => strs_at hi i v (by rw [Array.getElem?_toList]; exact hv)
        refine loopTx ((Walks.list hh3 _ l hneI items).toS) s.heap.objs.size
          hSf xs hsz hnd (by rw [← hsz]; exact hn1) hval (items.size - 0) 0 _ (by omega) (Nat.zero_le _)
          ⟨⟨_, Heap.get?_push_size _ rfl, rfl, rfl⟩, (hl1.push _)⟩ ?hS0 ?hR
        case hS0 =>
          have hget : ((s.heap.push { cls := .type "set", dict := none, data := .set #[] 0 (.fresh 0 0 led) }).push { cls := .type "list_iterator", data := .fields #[.ref l, .int 0 0] }).get? s.heap.objs.size
              = some { cls := .type "set", dict := none, data := .set #[] 0 (.fresh 0 0 led) } := Heap.get?_push_of_some _ hS
          exact PyProof.Rows.SetOf_congr ((PyProof.Rows.setObjOf_fresh (knd := PySem.strKind prog w) led).setOf hget (by unfold scanBound; omega)) (fun _ => rfl) rfl
        case hR =>
          intro s' hm hS'
          obtain ⟨h', g', d', tk', os'⟩ := s'
          have eg : g' = s.gens := hm.gens
          have ed : d' = s.drawn := hm.drawn
          have eo : os' = s.os := hm.os
          subst eg; subst ed; subst eo
          show wpAny _ _ _ _ _ _
          refine wpAny_pure ?_
          show wpAny _ _ (ret Value.none) _ _ _
          refine wpAny_pure ⟨rfl, h', tk', rfl, hS', fun b o hb e => ?_⟩
          have hb1 : b ≠ s.heap.objs.size := Nat.ne_of_lt hb
          have hb2 : b ≠ (s.heap.push { cls := .type "set", dict := none, data := .set #[] 0 (.fresh 0 0 led) }).objs.size := by
            rw [Heap.size_push]; exact Nat.ne_of_lt (Nat.lt_succ_of_lt hb)
          exact hm.heap b o (by simp only [List.mem_cons, List.mem_singleton, List.not_mem_nil, or_false, not_or]; exact ⟨hb1, hb2⟩) (Heap.get?_push_of_some _ (Heap.get?_push_of_some _ e))
      · cases r₂ with
        | error e => exact hr₂
        | ok fl₂ =>
          cases fl₂ with
          | ret r =>
            obtain ⟨rfl, h', tk, rfl, hS', hk'⟩ := hr₂
            repeat (any_goals (first | assumption | wp_step))
            exact h _ _ hS' hk'
          | _ => exact hr₂.elim
    | _ => exact hr.elim
end
end SS
namespace L2
open PySem PySem.Spec PyProof.Rows
variable {X : Cx}
def tLenSetT (K : PySem.W.Frag) (ta : TE) : TE := fun σ H Q => ta σ H fun x H1 => ∃ l, ∃ xs : List Str, x = .ref l ∧ SqL K H1 l (xs.map V.str) ∧ xs.Nodup ∧ xs.length ≤ 4000 ∧ Q (.int (xs.length : Nat)) H1
theorem pe_lenSetT {a : Expr} {ta : TE} {p p2 q pos : Pos} (hc : X.calm = true) (hg : Gl X "len") (hm : X.mg "len" = none) (hg2 : Gl X "set") (hm2 : X.mg "set" = none) (ha : PE X a ta)
    (na : starEach [a] X.env = (false, eval a X.env) :: starEach [] X.env := by rfl) : PE X (.Call (.Name "len" p) [.Call (.Name "set" p2) [a] [] q] [] pos) (tLenSetT X.K ta) := by
  refine ⟨fun pins s σ H Q I h => ?_⟩
  refine Call_ (ld_blt I hg hm boot_len ?_)
  refine PyProof.Rows.callWith_builtin1 (PyProof.Rows.args_cons ?_ rfl) rfl rfl
  refine Call_ (ld_blt I hg2 hm2 boot_set ?_)
  refine PyProof.Rows.callWith_type1 (PyProof.Rows.args_cons (thn (ha.run pins s σ H _ I h) fun v s1 ⟨x, H1, I1, r1, q1⟩ => PyProof.Rows.args_nil ?_) na) na rfl
  obtain ⟨l, xs, rfl, hq, hnd, hl, q1⟩ := q1
  cases r1
  obtain ⟨its, r, pl, hz⟩ := I1.list hq
  refine SS.call_set_listT (I1.ok.hd hc) pl.isList (xs := xs) (by simpa using strsAre_of r) hnd (by unfold scanBound; omega) fun h' tk hS hk => ?_
  refine PyProof.Rows.args_nil ?_
  have hl2 : its.toArray.size = xs.length := by rw [List.size_toArray, ← r.length, List.length_map]
  rw [hl2] at hS
  obtain ⟨o, es, ep, t, ho, hex, hd, _, _, _, hf, hn⟩ := hS
  have I2 : Inv X pins σ H1 { s1 with heap := h', toks := tk } := I1.kept fun b o e => hk b o (Heap.lt_size e) e
  exact call_len_set ho hex hd hf (by rw [hn] <;> omega) ⟨.int (xs.length : Nat), H1, I2.tok _, ⟨_, by rw [hn]⟩, q1⟩
end L2
set_option Elab.async false
set_option linter.all false
set_option maxRecDepth 100000
set_option maxHeartbeats 4000000
namespace Pu
open PySem PySem.Spec PyProof.Rows L2
@[simp] def eLenSet (f : Vars → R PyData) (ρ : Vars) : R PyData := (f ρ).bind fun d => match d with
  | .list ds => match strsOf ds with
    | some ys => if (decide ys.Nodup && decide (ys.length ≤ 4000)) = true then .ok (.int (ys.length : Nat)) else .bad
    | Option.none => .bad
  | _ => .bad
section
variable {X : Cx} {W : WX}
theorem ex_lenSet {a : Expr} {f : Vars → R PyData} {p p2 q pos : Pos} (hc : X.calm = true) (hg : Gl X "len") (hm : X.mg "len" = none) (hg2 : Gl X "set") (hm2 : X.mg "set" = none) (ha : EX X W a f)
    (na : starEach [a] X.env = (false, eval a X.env) :: starEach [] X.env := by rfl) : EX X W (.Call (.Name "len" p) [.Call (.Name "set" p2) [a] [] q] [] pos) (eLenSet f) := by
  obtain ⟨t, pt, ht⟩ := ha
  refine ⟨_, pe_lenSetT hc hg hm hg2 hm2 pt na, fun σ H O ρ Q hO hv z => ht σ H O ρ _ hO hv ?_⟩
  unfold eLenSet at z
  cases e : f ρ with
  | bad => rw [e] at z; exact z
  | err c => rw [e] at z; exact z
  | ok d =>
    rw [e, R.bind_ok] at z
    cases d <;> try exact z.elim
    rename_i ds
    dsimp only at z
    cases es : strsOf ds with
    | none => rw [es] at z; exact z.elim
    | some ys =>
      rw [es] at z
      dsimp only at z
      by_cases c : (decide ys.Nodup && decide (ys.length ≤ 4000)) = true
      · rw [if_pos c] at z
        rw [Bool.and_eq_true, decide_eq_true_eq, decide_eq_true_eq] at c
        intro v H1 s1 r1
        cases r1 with
        | lst hq rs =>
          have := rps_strs rs es
          subst this
          exact ⟨_, ys, rfl, seqL hide_sub hq, c.1, c.2, z _ H1 s1 (.int _)⟩
      · rw [if_neg c] at z; exact z.elim
end
def isLD : PyData → Bool
  | .list _ | .dict _ => true
  | _ => false
def NvOut (K : PySem.W.Frag) (mg : Str → Option Value) (O : List Addr) (H : Hp) (Q : VK) (E : XK) : R PyData → Prop
  | .ok d => isLD d = true ∧ ∀ p H', Same H H' → H p = Option.none → OwnV K (hide (p :: O) H') H' p d → Q (.ref p) H'
  | .err c => ∀ H', Same H H' → E (exV mg c) Option.none H'
  | .bad => False
def newV : R PyData → R PyData
  | .ok d => if isLD d = true then .ok d else .bad
  | .err c => .err c
  | .bad => .bad
@[simp] theorem u_newV_d (ds : List (PyData × PyData)) : newV (.ok (.dict ds)) = .ok (.dict ds) := rfl
@[simp] theorem u_newV_l (ds : List PyData) : newV (.ok (.list ds)) = .ok (.list ds) := rfl
@[simp] theorem u_newV_e (c : Str) : newV (.err c) = .err c := rfl
def spV (K : PySem.W.Frag) (mg : Str → Option Value) (n : Nat) (f : List PyData → R PyData) : Sp := fun vs H Q E =>
  vs.length = n ∧ ∃ O ds, Stands O H ∧ Rps K (hide O H) vs ds ∧ NvOut K mg O H Q E (f ds)
def CalV (P : Program) (w : World) (K : PySem.W.Frag) (mg : Str → Option Value) (base : Heap) (k : Nat) (x : Str) (n : Nat) (f : List PyData → R PyData) : Prop :=
  ∃ (fa : Addr) (fd : FuncData) (ps : List Str), ps.length = n ∧ FnOk P w K mg base (L2.CX P w) k fa fd ps (spV K mg n f) ∧ mg x = some (.ref fa) ∧ PySem.W.keepIn K (.ref fa) = true ∧ Binds K fd ps []
section
variable (X : Cx) (E : XK)
def VBOut (H0 : Hp) (O0 : List Addr) (Q : VK) : Out → Prop
  | .rt d => ∀ p H', Same H0 H' → H0 p = Option.none → OwnV X.K (hide (p :: O0) H') H' p d → Q (.ref p) H'
  | .err c _ => ∀ H', Same H0 H' → E (exV X.mg c) Option.none H'
  | _ => False
def VBX (own : List Nat) (sts : List Stmt) (g : Vars → Out) : Prop :=
  ∃ t, PSs X sts t ∧ ∀ σ H ρ Q (H0 : Hp) O0 O, Rel X.K own ⟨H0, []⟩ O0 O σ H ρ → VBOut X E H0 O0 Q (g ρ) → t { nx := fun _ H' => Q .non H', rt := Q } σ H
end
section
variable {X : Cx} {E : XK} {own : List Nat}
theorem VBX.cons {st : Stmt} {rest : List Stmt} {g h : Vars → Out} {own' : List Nat} (a : SX X (WD E) own st g) (b : VBX X E own' rest h) (ho : (own'.all fun i => own.contains i) = true) : VBX X E own (st :: rest) (sSeqN g h) := by
  obtain ⟨t, p, ht⟩ := a
  obtain ⟨u, q, hu⟩ := b
  refine ⟨_, pss_cons p q, fun σ H ρ Q H0 O0 O r z => ht σ H ρ _ ⟨H0, []⟩ O0 O r ?_⟩
  unfold sSeqN at z
  cases e : g ρ with
  | nx ρ1 =>
    rw [e] at z
    intro σ1 H1 O1 r1 s1
    obtain ⟨O2, r2, _⟩ := r1.freeze (own' := own') (fun i hi => List.contains_iff_mem.mp (List.all_eq_true.mp ho i hi)) fun p hp => nomatch hp
    exact hu σ1 H1 ρ1 Q H0 O0 O2 r2 z
  | rt d => rw [e] at z; exact z.elim
  | err c ρ' => rw [e] at z; exact fun σ' H' O' r' s' => z H' r'.same
  | bk _ => rw [e] at z; exact z.elim
  | ct _ => rw [e] at z; exact z.elim
  | bad => rw [e] at z; exact z.elim
theorem VBX.ret {i : Nat} {x : Str} {p0 pos : Pos} (hi : X.N[i]? = some x) (ho : own.contains i = true)
    (hv : Vis X.env.scope x := by first | exact Or.inl rfl | exact Or.inr (Or.inl rfl) | exact Or.inr (Or.inr rfl)) (hdn : (x == ("__debug__" : Str)) = false := by decide) (hcd : (x == ("__classdict__" : Str)) = false := by decide) :
    VBX X E own [.Return (some (.Name x p0)) pos] (sRet (eVar i)) := by
  refine ⟨_, pss_one (ps_ret (pe_var hi hv hdn hcd)), fun σ H ρ Q H0 O0 O r z => ?_⟩
  have hi' : i ∈ own := List.contains_iff_mem.mp ho
  unfold sRet eVar at z
  have e2 : ρ.getD i Option.none = (ρ[i]?).getD Option.none := by rw [List.getD_eq_getElem?_getD]
  rw [e2] at z
  cases e : ρ[i]? with
  | none => rw [e] at z; exact z.elim
  | some o =>
    cases o with
    | none => rw [e] at z; exact z.elim
    | some d =>
      rw [e] at z
      obtain ⟨a, h1, h2, h3, h4⟩ := r.mine i d hi' e
      refine ⟨.ref a, h1, ?_⟩
      exact z a H r.same h3 (h4.mono (hide_less fun b hb => (List.mem_cons.mp hb).elim (fun e => e ▸ h2) (r.sub b)) fun o ho => ho)
end
section
variable {P : Program} {w : World} {K : PySem.W.Frag} {mg : Str → Option Value} {base : Heap}
theorem fn_dataV {x qual : Str} {st : Stmt} {f : Addr} {fd : FuncData} {N ps : List Str} {k n : Nat} {own : List Nat} {g : Vars → Out} (F : Fun K x qual st f fd) (S : FnScope N ps (defScope st)) (hn : ps.length = n) (ho : (own.all fun i => decide (n ≤ i)) = true)
    (hb : ∀ (cdv : Value) (A : Around) (outer : List Env) (s : Shared) (H : Hp) (E : XK), Room k (A.deeper (envOfC qual (defScope st) s.heap.objs.size f cdv)) → VBX (cxOf (L2.CX P w) P w K mg base N qual (defScope st) f cdv A outer s H E) E own (defBody st) g) (hmk : (own.all fun i => decide (i < 1000)) = true := by decide) :
    FnOk P w K mg base (L2.CX P w) (k + 1) f fd ps (spV K mg n (fnD N.length g)) := by
  refine F.okX S (fun vs H Q E h => ?_) fun cdv A outer s H vs Q E hr h => ?_
  · rw [h.1]; exact hn.symm
  obtain ⟨hl, O, ds, hO, r, z⟩ := h
  obtain ⟨t, p, ht⟩ := hb cdv A outer s H E hr
  have hpl : ps.length ≤ N.length := by have := congrArg List.length S.pre; rw [List.length_take] at this; omega
  have hdl : ds.length = n := by rw [← r.length]; exact hl
  refine ⟨t, p, ht _ H _ Q H O O (start_rel hO r (by omega) (fun i hi => by have := of_decide_eq_true (List.all_eq_true.mp ho i hi); omega) hmk) ?_⟩
  unfold fnD at z
  cases e : g (ds.map some ++ List.replicate (N.length - ds.length) Option.none) with
  | nx ρ' =>
    rw [e] at z
    exact absurd z.1 (by decide)
  | rt d => rw [e] at z; exact z.2
  | err c ρ' => rw [e] at z; exact z
  | bk _ => rw [e] at z; exact z.elim
  | ct _ => rw [e] at z; exact z.elim
  | bad => rw [e] at z; exact z.elim
theorem cal_dataV {x qual : Str} {st : Stmt} {f : Addr} {fd : FuncData} {N ps : List Str} {k n : Nat} {own : List Nat} {g : Vars → Out} (F : Fun K x qual st f fd) (hm : mg x = some (.ref f)) (hbn : Binds K fd ps []) (S : FnScope N ps (defScope st)) (hn : ps.length = n) (ho : (own.all fun i => decide (n ≤ i)) = true)
    (hb : ∀ (cdv : Value) (A : Around) (outer : List Env) (s : Shared) (H : Hp) (E : XK), Room k (A.deeper (envOfC qual (defScope st) s.heap.objs.size f cdv)) → VBX (cxOf (L2.CX P w) P w K mg base N qual (defScope st) f cdv A outer s H E) E own (defBody st) g) (hmk : (own.all fun i => decide (i < 1000)) = true := by decide) :
    CalV P w K mg base (k + 1) x n (fnD N.length g) := ⟨f, fd, ps, hn, fn_dataV F S hn ho hb hmk, hm, F.kp, hbn⟩
theorem cal_zeroV {x qual : Str} {st : Stmt} {f : Addr} {fd : FuncData} {ps : List Str} {n : Nat} (F : Fun K x qual st f fd) (hm : mg x = some (.ref f)) (hbn : Binds K fd ps []) (hn : ps.length = n) : CalV P w K mg base 0 x n fun _ => .bad := by
  have no : ∀ vs H Q E, ¬ spV K mg n (fun _ => .bad) vs H Q E := fun vs H Q E h => by
    obtain ⟨_, _, _, _, _, z⟩ := h
    exact z
  exact ⟨f, fd, ps, hn, ⟨fun vs H Q E h => absurd h (no vs H Q E), fun A outer s H args us vs Q E _ _ _ _ h => absurd h (no vs H Q E)⟩, hm, F.kp, hbn⟩
end
@[simp] def vFn (g : List PyData → R PyData) (f : Vars → R (List PyData)) (ρ : Vars) : R PyData := (f ρ).bind fun ds => newV (g ds)
section
variable {X : Cx} {W : WX}
theorem nv_fn {k n : Nat} {x : Str} {g : List PyData → R PyData} {e : Expr} {es : List Expr} {f : Vars → R (List PyData)} {p pos : Pos} (tk : Takes X W) (F : CalV X.prog X.w X.K X.mg X.base k x n g) (hr : Room k X.A) (hg : Gl X x) (ha : AX X W (e :: es) f) (hn : es.length + 1 = n)
    (hdb : (x == ("__debug__" : Str)) = false := by decide) (he : starEach (e :: es) X.env = (false, eval e X.env) :: starEach es X.env := by rfl) (hpl : (backTo pos (starEach es X.env)).any (·.1) = false := by rfl) (hlen : ∀ ρ ds, f ρ = .ok ds → ds.length = n) :
    NVX X W (.Call (.Name x p) (e :: es) [] pos) (vFn g f) := by
  obtain ⟨fa, fd, ps, h1, h2, h3, h4, h5⟩ := F
  obtain ⟨t, q, ht⟩ := ha
  refine ⟨_, pe_callS h2 hr hg h3 h4 h5 (fun σ => passAt tk σ) q hdb he hpl, fun σ H O ρ Q hO hv z => ht σ H O ρ _ hO hv ?_⟩
  unfold vFn at z
  cases e1 : f ρ with
  | bad => rw [e1] at z; exact z
  | err c => rw [e1] at z; exact z
  | ok ds =>
    rw [e1, R.bind_ok] at z
    intro vs H1 s1 r1
    refine ⟨by rw [r1.length]; exact hlen ρ ds e1, O, ds, hO.same s1, r1, ?_⟩
    cases e2 : g ds with
    | bad => rw [e2] at z; exact z.elim
    | err c => rw [e2] at z; exact fun H' s' => z H' (s1.trans s')
    | ok d =>
      rw [e2] at z
      unfold newV at z
      dsimp only at z
      by_cases c : isLD d = true
      case neg => rw [if_neg c] at z; exact z.elim
      rw [if_pos c] at z
      exact ⟨c, fun p H' s' hp ov => z p H' (s1.trans s') (s1.free hp) ov⟩
end
def isI : PyData → Bool
  | .int _ => true
  | _ => false
mutual
def pln : PyData → Bool
  | .list ds => plns ds
  | .tuple ds => plns ds
  | .dict kvs => kvs.all fun p => isI p.2
  | _ => true
def plns : List PyData → Bool
  | [] => true
  | d :: r => pln d && plns r
end
theorem rpd_ints {K : PySem.W.Frag} {F F' : Hp} : ∀ {kvs : List (Key × V)} {ds : List (PyData × PyData)}, Rpd K F kvs ds → (ds.all fun p => isI p.2) = true → Rpd K F' kvs ds
  | _, _, .nil, _ => .nil
  | _, _, .cons (d := d) h r, e => by
    rw [List.all_cons, Bool.and_eq_true] at e
    refine .cons ?_ (rpd_ints r e.2)
    have eI : isI d = true := e.1
    cases d <;> first | exact absurd eI Bool.false_ne_true | skip
    cases h
    exact .int _
section
variable {K : PySem.W.Frag} {F F' : Hp} {a : Addr} {kvs : List (Key × V)} {k0 : PyData} {l0 : List PyData} {E0 : List (PyData × PyData)}
mutual
theorem Rp.plnD (ha : F a = some (.dK kvs)) (hE : Rpd K F kvs ((k0, .list l0) :: E0)) (sk : ∀ b, b ≠ a → F' b = F b) : ∀ {d : PyData} {v : V}, Rp K F v d → pln d = true → Rp K F' v d
  | .none, _, h, _ => by cases h; exact .non
  | .bool _, _, h, _ => by cases h; exact .bl _
  | .int _, _, h, _ => by cases h; exact .int _
  | .str _, _, h, _ => by cases h; exact .str _
  | .tuple ds, _, h, e => by
    cases h with
    | @tup b xs _ q r =>
      refine .tup ?_ (Rps.plnD ha hE sk r (by simpa [pln] using e))
      rcases q with (q | ⟨o, q⟩) | q
      · exact .inl (.inl (by rw [sk b fun z => by rw [z, ha] at q; cases q]; exact q))
      · exact .inl (.inr ⟨o, by rw [sk b fun z => by rw [z, ha] at q; cases q]; exact q⟩)
      · exact .inr q
  | .list ds, _, h, e => by
    cases h with
    | @lst b xs _ q r =>
      refine .lst ?_ (Rps.plnD ha hE sk r (by simpa [pln] using e))
      rcases q with (q | ⟨o, q⟩) | q
      · exact .inl (.inl (by rw [sk b fun z => by rw [z, ha] at q; cases q]; exact q))
      · exact .inl (.inr ⟨o, by rw [sk b fun z => by rw [z, ha] at q; cases q]; exact q⟩)
      · exact .inr q
  | .dict ds, _, h, e => by
    have e' : (ds.all fun p => isI p.2) = true := by simpa [pln] using e
    cases h with
    | @dic b vs _ q r =>
      refine .dic ?_ (rpd_ints r e')
      have nb : b ≠ a ∨ ds = [] := by
        by_cases z : b = a
        · right
          subst z
          rcases q with q | ⟨o, q⟩
          · rw [ha] at q
            cases q
            cases hE with
            | cons hx _ =>
              cases r with
              | @cons _ _ _ d _ hy _ =>
                rw [List.all_cons, Bool.and_eq_true] at e'
                exfalso
                have eI : isI d = true := e'.1
                cases d <;> first | exact absurd eI Bool.false_ne_true | skip
                cases hy
                cases hx
          · rw [ha] at q; cases q
        · exact .inl z
      rcases nb with nb | nb
      · rcases q with q | ⟨o, q⟩
        · exact .inl (by rw [sk b nb]; exact q)
        · exact .inr ⟨o, by rw [sk b nb]; exact q⟩
      · subst nb
        cases r
        have nb : b ≠ a := fun z => by
          subst z
          rcases q with q | ⟨o, q⟩
          · rw [ha] at q; cases q; cases hE
          · rw [ha] at q; cases q
        rcases q with q | ⟨o, q⟩
        · exact .inl (by rw [sk b nb]; exact q)
        · exact .inr ⟨o, by rw [sk b nb]; exact q⟩
    | ins => exact absurd e' (by simp [isI])
    | fn => exact absurd e' (by simp [isI])
    | fn0 => exact absurd e' (by simp [isI])
    | dct => exact absurd e' (by simp [isI])
    | tpx => exact absurd e' (by simp [isI])
theorem Rps.plnD (ha : F a = some (.dK kvs)) (hE : Rpd K F kvs ((k0, .list l0) :: E0)) (sk : ∀ b, b ≠ a → F' b = F b) : ∀ {ds : List PyData} {vs : List V}, Rps K F vs ds → plns ds = true → Rps K F' vs ds
  | [], _, h, _ => by cases h; exact .nil
  | d :: ds, _, h, e => by
    cases h with
    | cons h r =>
      have e' : pln d = true ∧ plns ds = true := by simpa [plns] using e
      exact .cons (Rp.plnD ha hE sk h e'.1) (Rps.plnD ha hE sk r e'.2)
end
end
end Pu
set_option Elab.async false
set_option linter.all false
set_option maxRecDepth 100000
set_option maxHeartbeats 4000000
namespace Pu
open PySem PySem.Spec PyProof.Rows L2
def sepT (es : List (PyData × PyData)) (d : PyData) : Bool := match es with
  | [] => true
  | p :: _ => match p.2 with
    | .list _ => pln d
    | _ => false
@[simp] def sTri (h i : Nat) (fe : Vars → R PyData) (tt : Vars → R Bool) (ρ : Vars) : Out := match ρ.getD h none with
  | some (.dict es) => if insB es = true then .bad else (fe ρ).run ρ fun d => if sepT es d = true then (match tt (ρ.set i (some d)) with
      | .ok b => if b = true then .rt (.bool false) else .nx ((ρ.set i (some d)).set h none)
      | _ => .bad) else .bad
  | _ => .bad
section
variable {X : Cx} {E : XK}
theorem BX.tri {h i : Nat} {y x : Str} {e c : Expr} {rest : List Stmt} {fe : Vars → R PyData} {tt : Vars → R Bool} {g : Vars → Out} {pos' pos pos2 pos3 pos4 p apos cpos pos5 : Pos} {j : _}
    (hN : X.N.Nodup) (hi : X.N[i]? = some x) (hh : X.N[h]? = some y) (hne : h ≠ i) (hx : Loc X.env.scope x) (he : EX X (WD E) e fe) (hc : TX X (WD E) c tt) (b : BX X E [] rest g)
    (hv : Vis X.env.scope y := by first | exact Or.inl rfl | exact Or.inr (Or.inl rfl) | exact Or.inr (Or.inr rfl)) (hd : (y == ("__debug__" : Str)) = false := by decide)
    (hcd : (y == ("__classdict__" : Str)) = false := by decide)
    (hs : swapsWith e (some (.Name x pos')) pos.line X.env = pure false := by rfl) (hf : X.fn x = true ∨ X.env.scope.names.lookup x = some .local := by first | exact .inl rfl | exact .inr rfl | assumption)
    (hbase : attributeBase (.Name y p) "clear" X.env (eval (.Name y p) X.env) = eval (.Name y p) X.env := by rfl) (hline : (apos.endLine == cpos.line) = true := by rfl)
    (hsw : swapsWith (.Call (.Attribute (.Name y p) "clear" apos) [] [] cpos) none pos5.line X.env = pure false := by rfl) (hk : h < 1000 := by decide) :
    BX X E [h] (.Assign [.Name x pos'] e pos :: .If c [.Return (some (.Constant (.bool false) j pos2)) pos3] [] pos4 :: .Expr (.Call (.Attribute (.Name y p) "clear" apos) [] [] cpos) pos5 :: rest) (sSeq (sTri h i fe tt) g) := by
  obtain ⟨te, pe, hte⟩ := he
  obtain ⟨tc, pc, htc⟩ := hc
  obtain ⟨u, q, hu⟩ := b
  refine ⟨_, pss_cons (ps_set hN hi hx pe hs hf) (pss_cons (ps_if pc (pss_one (ps_ret pe_bl)) pss_nil) (pss_cons (ps_expr (pe_dclear (pe_var hh hv hd hcd) hbase hline) hsw) q)), fun σ H ρ Q H0 O0 O r z => ?_⟩
  unfold sSeq sTri at z
  cases e1 : ρ.getD h none with
  | none => rw [e1] at z; exact z.elim
  | some d0 =>
    rw [e1] at z
    cases d0 <;> try exact z.elim
    rename_i es
    dsimp only at z
    by_cases ei : insB es = true
    · rw [if_pos ei] at z; exact z.elim
    rw [if_neg ei] at z
    obtain ⟨a, kvs, s1, s2, s3, s4, s5⟩ := own_dict' (own := [h]) (List.mem_singleton.mpr rfl) r e1 (by simpa using ei)
    refine hte σ H O0 ρ _ r.stands0 r.vrel0 ?_
    cases e2 : fe ρ with
    | bad => rw [e2] at z; exact z.elim
    | err k => rw [e2] at z; exact fun H' s => z H' (r.same.trans s)
    | ok d =>
      rw [e2, R.run_ok] at z
      intro v H1 sm1 rv
      by_cases sp : sepT es d = true
      case neg => rw [if_neg sp] at z; exact z.elim
      rw [if_pos sp] at z
      have r1 := r.step sm1
      have vr : VRel X.K (hide O0 H1) (σ.set i (some v)) (ρ.set i (some d)) := r1.vrel0.set rv
      refine htc (σ.set i (some v)) H1 O0 (ρ.set i (some d)) _ r1.stands0 vr ?_
      cases e3 : tt (ρ.set i (some d)) with
      | bad => rw [e3] at z; exact z.elim
      | err k => rw [e3] at z; exact z.elim
      | ok bb =>
        rw [e3] at z
        dsimp only at z
        intro H2 sm2
        have r2 := r1.step sm2
        cases bb with
        | true =>
          rw [if_pos rfl] at z
          exact z (.bl false) H2 r2.same (.bl _)
        | false =>
          rw [if_neg (by decide)] at z
          have ga : (σ.set i (some v))[h]? = some (some (.ref a)) := by rw [List.getElem?_set_ne (fun z => hne z.symm)]; exact s1
          have h2 : H2 a = some (.dK kvs) := sm2 _ _ (sm1 _ _ s4)
          refine ⟨.ref a, ga, .inr (.inr (.inl ⟨rfl, .inl ⟨kvs, h2⟩⟩)), a, kvs, rfl, rfl, h2, ?_⟩
          have lnl : H0 a = none := s3
          have nO0 : a ∉ O0 := r.notO0 s3
          have sF : ∀ O' : List Addr, (∀ b ∈ O', b ∈ O) → Same (hide O H) (hide O' (upd H2 a (.dK []))) := fun O' ho b o hb => by
            obtain ⟨c1, c2⟩ := hide_some hb
            have n : b ≠ a := fun z => c1 (by rw [z]; exact s2)
            exact hide_of (fun z => c1 (ho b z)) (by rw [upd_ne n]; exact sm2 _ _ (sm1 _ _ c2))
          have mk : ∀ O' : List Addr, (∀ b ∈ O0, b ∈ O') → (∀ b ∈ O', b ∈ O) → (∀ b ∈ O', b ∈ O0 ∨ b = a) → Rp X.K (hide O' (upd H2 a (.dK []))) v d → Rel X.K [] ⟨H0, []⟩ O0 O' (σ.set i (some v)) (upd H2 a (.dK [])) ((ρ.set i (some d)).set h none) := fun O' o1 o2 o3 rd =>
            { same := fun b o hb => by
                have n : b ≠ a := fun z => by rw [z] at hb; exact absurd (hb.symm.trans lnl) (by simp)
                rw [upd_ne n]; exact sm2 _ _ (sm1 _ _ (r.same _ _ hb))
              st0 := r.st0
              len := by simpa using r.len
              sub := o1
              lists := fun b hb => (o3 b hb).imp id fun z => by
                subst z
                exact ⟨lnl, _, upd_same, .inr ⟨_, .inl rfl⟩⟩
              free := fun m dd _ hm => by
                by_cases m1 : h = m
                · subst m1
                  by_cases hl : h < (ρ.set i (some d)).length
                  · rw [List.getElem?_set_self hl] at hm; cases hm
                  · rw [List.getElem?_eq_none (by rw [List.length_set]; omega)] at hm; cases hm
                · rw [List.getElem?_set_ne m1] at hm
                  by_cases m2 : i = m
                  · subst m2
                    have hl : i < ρ.length := by
                      have := (List.getElem?_eq_some_iff.mp hm).1
                      rwa [List.length_set] at this
                    rw [List.getElem?_set_self hl] at hm
                    cases hm
                    exact ⟨v, by rw [List.getElem?_set_self (by rw [r.len]; exact hl)], rd⟩
                  · rw [List.getElem?_set_ne m2] at hm
                    obtain ⟨w, w1, w2⟩ := r.free m dd (fun z => m1 (List.mem_singleton.mp z).symm) hm
                    exact ⟨w, by rw [List.getElem?_set_ne m2]; exact w1, w2.mono (sF O' o2)⟩
              mine := fun m _ hm => nomatch hm
              apart := fun m _ _ _ _ hm => nomatch hm
              bor := fun p hp => nomatch hp
              bord := fun p hp => nomatch hp
              mark := fun m hm => nomatch hm }
          have go : ∃ O', Rel X.K [] ⟨H0, []⟩ O0 O' (σ.set i (some v)) (upd H2 a (.dK [])) ((ρ.set i (some d)).set h none) := by
            cases es with
            | nil =>
              cases s5
              have e4 : upd H2 a (.dK []) = H2 := by
                funext b
                by_cases n : b = a
                · subst n; rw [upd_same, h2]
                · rw [upd_ne n]
              exact ⟨O0, mk O0 (fun b hb => hb) (fun b hb => r.sub b hb) (fun b hb => .inl hb) (by rw [e4]; exact rv.mono (hide_same sm2))⟩
            | cons p0 es =>
              obtain ⟨k0, d1⟩ := p0
              unfold sepT at sp
              dsimp only at sp
              cases d1 <;> try exact absurd sp Bool.false_ne_true
              rename_i l0
              dsimp only at sp
              have hE : Rpd X.K (hide O0 H1) kvs ((k0, .list l0) :: es) := s5.mono fun b o hb => by
                obtain ⟨c1, c2⟩ := hide_some hb
                exact hide_of (fun z => c1 (r.sub b z)) (sm1 _ _ c2)
              have ha : hide O0 H1 a = some (.dK kvs) := hide_of nO0 (sm1 _ _ s4)
              have rd : Rp X.K (hide (a :: O0) H1) v d := Rp.plnD ha hE (fun b n => by
                unfold hide
                by_cases c1 : b ∈ O0
                · rw [if_pos c1, if_pos (List.mem_cons_of_mem _ c1)]
                · rw [if_neg c1, if_neg fun z => (List.mem_cons.mp z).elim n c1]) rv sp
              refine ⟨a :: O0, mk _ (fun b hb => List.mem_cons_of_mem _ hb) (fun b hb => (List.mem_cons.mp hb).elim (fun e => e ▸ s2) (r.sub b)) (fun b hb => (List.mem_cons.mp hb).elim .inr .inl) (rd.mono fun b o hb => ?_)⟩
              obtain ⟨c1, c2⟩ := hide_some hb
              have n : b ≠ a := fun z => c1 (by rw [z]; exact List.mem_cons_self)
              exact hide_of c1 (by rw [upd_ne n]; exact sm2 _ _ c2)
          obtain ⟨O', r3⟩ := go
          exact hu _ _ _ Q H0 O0 O' r3 z
end
end Pu
set_option Elab.async false
set_option linter.all false
set_option maxRecDepth 100000
set_option maxHeartbeats 4000000
namespace Pu
open PySem PySem.Spec PyProof.Rows L2
def gDneX (d e : PyData) : Option PyData := match d, e with
  | .dict ks, .dict ls => if (!insB ks && !insB ls && sameX ks ls) = true then some (.bool false) else none
  | _, _ => none
def rNeX' (K : PySem.W.Frag) : R2 := fun x y H Q => ∃ a c ks ls, x = .ref a ∧ y = .ref c ∧ Rd H a (.dK ks) ∧ Rd H c (.dK ls) ∧ ks.length = ls.length ∧ (∀ p ∈ ks, ∃ w, valV ls p.1 = some w ∧ likeV K H p.2 w) ∧ Q (.bl false) H
theorem op_neX' {X : Cx} (hu : X.A.units + 190 + 1 < cLine) : OpR X (compareOp .NotEq) (rNeX' X.K) := by
  intro pins s σ H x y v u Q I rx ry h
  obtain ⟨a, b, ks, ls, rfl, rfl, ea, eb, hlen, hp, q⟩ := h
  obtain rfl : v = Value.ref a := rx
  obtain rfl : u = Value.ref b := ry
  obtain ⟨_, ya, va, ra, da⟩ := (show ObjOk X.prog X.w H s.heap a (.dK ks) from ea.ok I.hok)
  obtain ⟨_, yb, vb, rb, db⟩ := (show ObjOk X.prog X.w H s.heap b (.dK ls) from eb.ok I.hok)
  have hl : va.length = vb.length := by rw [← ra.length, ← rb.length]; exact hlen
  exact PySem.W.keq_ne (knd := mixKind X.prog X.w) (r := true) ya yb da db (by omega) (fun _ => hits_allX I (by show X.A.units + 1 + 190 < cLine; omega) rb ra hp) (fin_bl I q (by simp [hl]))
theorem op2_dNeX {K : PySem.W.Frag} : Op2 K (rNeX' K) gDneX := by
  intro H O x y d e z Q hO rx ry h q
  unfold gDneX at h
  cases d with
  | dict ks =>
    cases e with
    | dict ls =>
      dsimp only at h
      by_cases c : (!insB ks && !insB ls && sameX ks ls) = true
      · rw [if_pos c] at h
        cases h
        simp only [Bool.and_eq_true, Bool.not_eq_true'] at c
        obtain ⟨⟨c1, c2⟩, c3⟩ := c
        unfold sameX at c3
        rw [Bool.and_eq_true] at c3
        cases rx with
        | dic h1 r1 =>
          cases ry with
          | dic h2 r2 =>
            exact ⟨_, _, _, _, rfl, rfl, rd_mono hide_sub h1, rd_mono hide_sub h2, by rw [r1.length, r2.length]; exact of_decide_eq_true c3.1, likes_of hide_sub r2 r1 c3.2, q _ H (Same.refl H) (.bl _)⟩
          | ins => cases c2
          | fn _ => cases c2
          | fn0 => cases c2
          | dct => cases c2
          | tpx => cases c2
        | ins => cases c1
        | fn _ => cases c1
        | fn0 => cases c1
        | dct => cases c1
        | tpx => cases c1
      · rw [if_neg c] at h; cases h
    | _ => cases h
  | _ => cases h
end Pu
set_option Elab.async false
set_option linter.all false
set_option maxRecDepth 100000
set_option maxHeartbeats 4000000
namespace Pu
open PySem PySem.Spec PyProof.Rows L2
def gLenD (ds : List PyData) : Option PyData := match ds with
  | [.dict kvs] => if insB kvs = true then none else some (.int (kvs.length : Nat))
  | _ => none
theorem call_lenDk {X : Cx} : CallR X (.builtin "len") (fun xs H Q => ∃ (a : Addr) (kvs : List (Key × V)), xs = [.ref a] ∧ Rd H a (.dK kvs) ∧ Q (.int (kvs.length : Nat)) H) := by
  intro pins s σ H xs us Q I r h
  obtain ⟨a, kvs, rfl, ha, q⟩ := h
  obtain ⟨u, rfl, rx⟩ := vals1 r
  obtain rfl : u = Value.ref a := rx
  exact d_len I ha fun t s' I' => ⟨.int (kvs.length : Nat), H, I', ⟨t, rfl⟩, q⟩
theorem calld_lenDk {K : PySem.W.Frag} : CallD K (fun xs H Q => ∃ (a : Addr) (kvs : List (Key × V)), xs = [.ref a] ∧ Rd H a (.dK kvs) ∧ Q (.int (kvs.length : Nat)) H) gLenD := by
  intro H O xs ds z Q hO rx h q
  match ds, h, rx with
  | [.dict kvs], h, rx =>
    obtain ⟨v, rfl, rv⟩ := rps_one rx
    unfold gLenD at h
    dsimp only at h
    by_cases c : insB kvs = true
    · rw [if_pos c] at h; cases h
    · rw [if_neg c] at h
      cases h
      have c : insB kvs = false := by simpa using c
      cases rv with
      | @dic a vs _ hx r =>
        rw [← r.length] at q
        exact ⟨a, vs, rfl, rd_mono hide_sub hx, q _ H (Same.refl H) (.int _)⟩
      | ins => cases c
      | fn _ => cases c
      | fn0 => cases c
      | dct => cases c
      | tpx => cases c
  | [], h, _ => cases h
  | .none :: _, h, _ => cases h
  | .bool _ :: _, h, _ => cases h
  | .int _ :: _, h, _ => cases h
  | .str _ :: _, h, _ => cases h
  | .list _ :: _, h, _ => cases h
  | .tuple _ :: _, h, _ => cases h
  | .dict _ :: _ :: _, h, _ => cases h
@[simp] def nListK (f : Vars → R (List PyData)) (ρ : Vars) : R (List PyData) := (f ρ).bind fun ds => match gListK ds with
  | some (.list xs) => .ok xs
  | _ => .bad
section
variable {X : Cx} {W : WX}
theorem nx_listK {e : Expr} {f : Vars → R (List PyData)} {p pos : Pos} (hc : X.calm = true) (hg : Gl X "list") (hm : X.mg "list" = none) (ha : AX X W [e] f)
    (he : starEach [e] X.env = (false, eval e X.env) :: starEach [] X.env := by rfl) (hpl : (backTo pos (starEach [] X.env)).any (·.1) = false := by rfl) : NX X W (.Call (.Name "list" p) [e] [] pos) (nListK f) := by
  obtain ⟨t, q, ht⟩ := ha
  refine ⟨_, pe_callTy (call_listD hc) hg hm (by decide +kernel) q (by decide) (by decide) he hpl, fun σ H O ρ Q hO hr z => ht σ H O ρ _ hO hr ?_⟩
  unfold nListK at z
  cases c : f ρ with
  | bad => rw [c] at z; exact z
  | err c' => rw [c] at z; exact z
  | ok ds =>
    rw [c, R.bind_ok] at z
    intro vs H1 s1 r1
    have : ∃ kvs, ds = [.dict kvs] ∧ insB kvs = false ∧ NOut X W O σ H Q (.ok (kvs.map itK)) := by
      unfold gListK at z
      match ds, z with
      | [.dict kvs], z =>
        dsimp only at z
        by_cases c : insB kvs = true
        · rw [if_pos c] at z; exact z.elim
        · rw [if_neg c] at z; exact ⟨kvs, rfl, by simpa using c, z⟩
      | [], z => exact z.elim
      | .none :: _, z => exact z.elim
      | .bool _ :: _, z => exact z.elim
      | .int _ :: _, z => exact z.elim
      | .str _ :: _, z => exact z.elim
      | .list _ :: _, z => exact z.elim
      | .tuple _ :: _, z => exact z.elim
      | .dict _ :: _ :: _, z => exact z.elim
    obtain ⟨kvs, rfl, ei, z⟩ := this
    obtain ⟨v, rfl, rv⟩ := rps_one r1
    cases rv with
    | @dic a vs _ hx r =>
      exact ⟨a, vs, rfl, rd_mono hide_sub hx, fun p hp => z p _ _ (s1.trans (same_new hp)) (s1.free hp) upd_same (rps_keys r)⟩
    | ins => cases ei
    | fn _ => cases ei
    | fn0 => cases ei
    | dct => cases ei
    | tpx => cases ei
end
end Pu
set_option Elab.async false
set_option linter.all false
set_option maxRecDepth 100000
set_option maxHeartbeats 4000000
namespace Lk67
open PySem PySem.Spec PyProof.Rows L2 Pu
def top (i : Nat) : Stmt := PySem.Challenge.pw_hydrahouse_k67_ranks_or_ring.main.body.getD i (.Pass ⟨0, 0, 0, 0⟩)
abbrev s_kinds_of : Stmt := top 1
abbrev N_kinds_of : List Str := ["rules", "kinds", "kind", "others", "other"]
theorem sc_kinds_of : FnScope N_kinds_of ["rules"] (defScope s_kinds_of) := ⟨rfl, rfl, rfl, by decide +kernel, rfl, by decide +kernel, by decide +kernel⟩
abbrev gb_kinds_of_1 (S : Nat → List PyData → R PyData) : Vars → Out :=
  (sDPutM [1] 1 (eC (.bool true)) (eVar 4))
abbrev gb_kinds_of_2 (S : Nat → List PyData → R PyData) : Vars → Out :=
  (sSeq (sDPutM [1] 1 (eC (.bool true)) (eVar 2)) (sFor [1] (iSeq (eVar 3)) (gtName 4) (gb_kinds_of_1 S)))
def g_kinds_of (S : Nat → List PyData → R PyData) : Vars → Out :=
  (sSeq (sNewV [1] 1 (eC (.dict [])))
    (sSeq (sForDP [1] false (eVar 0) itI (gtTup 2 (gtCons (gtName 2) (gtCons (gtName 3) gtNil))) (gb_kinds_of_2 S))
    (sRet (eCall gListK (aCons (eVar 1) aNil)))))
abbrev s_next_rank : Stmt := top 2
abbrev N_next_rank : List Str := ["others", "known", "rank", "other"]
theorem sc_next_rank : FnScope N_next_rank ["others", "known"] (defScope s_next_rank) := ⟨rfl, rfl, rfl, by decide +kernel, rfl, by decide +kernel, by decide +kernel⟩
abbrev gb_next_rank_1 (S : Nat → List PyData → R PyData) : Vars → Out :=
  (sSeq (sIf (tOf (eOp gDnin (eVar 3) (eVar 1))) (sRet (eC .none)) sNil) (sSet [] 2 (eCall gMax2 (aCons (eVar 2) (aCons (eOp gAdd (eOp gDix (eVar 1) (eVar 3)) (eC (.int 1))) aNil)))))
def g_next_rank (S : Nat → List PyData → R PyData) : Vars → Out :=
  (sSeq (sSet [] 2 (eC (.int 0)))
    (sSeq (sFor [] (iSeq (eVar 0)) (gtName 3) (gb_next_rank_1 S))
    (sRet (eVar 2))))
abbrev s_ring_from : Stmt := top 3
abbrev N_ring_from : List Str := ["kind", "rules", "known", "way", "after", "other"]
theorem sc_ring_from : FnScope N_ring_from ["kind", "rules", "known"] (defScope s_ring_from) := ⟨rfl, rfl, rfl, by decide +kernel, rfl, by decide +kernel, by decide +kernel⟩
abbrev gb_ring_from_1 (S : Nat → List PyData → R PyData) : Vars → Out :=
  (sSeq (sSetM [3] 4 (eC .none)) (sSeq (sForM [3] (eVar 1) (eOp gIx (eVar 3) (eNeg (eC (.int 1)))) (gtName 5) (sIf (tAndR (tOf (eOp gDnin (eVar 5) (eVar 2))) (tOf (eOp gIsN (eVar 4) (eC .none)))) (sSetM [3] 4 (eVar 5)) sNil)) (sSeq (sIf (tOf (eOp gInL (eVar 4) (eVar 3))) (sRet (eSl (eVar 3) (oSome (eIdx (eVar 3) (eVar 4))) oNone)) sNil) (sAppM [3] 3 (eVar 4)))))
def g_ring_from (S : Nat → List PyData → R PyData) : Vars → Out :=
  (sSeq (sNew [3] 3 (nLst (aCons (eVar 0) aNil)))
    (whileL (tTru (eC (.bool true))) (gb_ring_from_1 S) wfuel))
abbrev s_ranks : Stmt := top 4
abbrev N_ranks : List Str := ["rules", "known", "kinds", "turn", "kind", "rank"]
theorem sc_ranks : FnScope N_ranks ["rules"] (defScope s_ranks) := ⟨rfl, rfl, rfl, by decide +kernel, rfl, by decide +kernel, by decide +kernel⟩
abbrev gb_ranks_1 (S : Nat → List PyData → R PyData) : Vars → Out :=
  (sIf (tOf (eOp gDnin (eVar 4) (eVar 1))) (sSeq (sSet [1] 5 (eFn (S 1) (aCons (eDget (eVar 0) (eVar 4) (eLst aNil)) (aCons (eVar 1) aNil)))) (sIf (tOf (eOp gNotN (eVar 5) (eC .none))) (sDPutM [1] 1 (eVar 5) (eVar 4)) sNil)) sNil)
abbrev gb_ranks_2 (S : Nat → List PyData → R PyData) : Vars → Out :=
  (sFor [1] (iSeq (eVar 2)) (gtName 4) (gb_ranks_1 S))
abbrev gb_ranks_3 (S : Nat → List PyData → R PyData) : Vars → Out :=
  (sIf (tOf (eOp gDnin (eVar 4) (eVar 1))) (sRet (eTup (aCons (eC (.str "ring")) (aCons (eFn (S 2) (aCons (eVar 4) (aCons (eVar 0) (aCons (eVar 1) aNil)))) aNil)))) sNil)
def g_ranks (S : Nat → List PyData → R PyData) : Vars → Out :=
  (sSeq (sNewV [1] 1 (eC (.dict [])))
    (sSeq (sSetM [1] 2 (eFn (S 0) (aCons (eVar 0) aNil)))
    (sSeq (sFor [1] (iRange (aCons (eCall gLen (aCons (eVar 2) aNil)) aNil)) (gtName 3) (gb_ranks_2 S))
    (sSeq (sFor [] (iSeq (eVar 2)) (gtName 4) (gb_ranks_3 S))
    (sRet (eTup (aCons (eC (.str "ranks")) (aCons (eVar 1) aNil))))))))
abbrev s_l_cell_at : Stmt := top 6
abbrev N_l_cell_at : List Str := ["_law_script", "_law_k"]
theorem sc_l_cell_at : FnScope N_l_cell_at ["_law_script", "_law_k"] (defScope s_l_cell_at) := ⟨rfl, rfl, rfl, by decide +kernel, rfl, by decide +kernel, by decide +kernel⟩
def g_l_cell_at (S : Nat → List PyData → R PyData) : Vars → Out :=
  (sSeq (sIf (tOf (eOp gLt (eVar 1) (eCall gLen (aCons (eVar 0) aNil)))) (sRet (eOp gIx (eVar 0) (eVar 1))) sNil)
    (sRet (eC (.int 0))))
abbrev s_l_names : Stmt := top 7
abbrev N_l_names : List Str := ["_law_cell", "_law_many", "_law_letters", "_law_size", "_law_at", "_law_names_here", "_law_k", "_law_name", "_law_j", "_law_step"]
theorem sc_l_names : FnScope N_l_names ["_law_cell", "_law_many"] (defScope s_l_names) := ⟨rfl, rfl, rfl, by decide +kernel, rfl, by decide +kernel, by decide +kernel⟩
abbrev gb_l_names_1 (S : Nat → List PyData → R PyData) : Vars → Out :=
  (sSeq (sSetM [5] 9 (eOp gAdd (eOp gDiv (eVar 0) (eC (.int 36))) (eOp gMul (eOp gMul (eVar 8) (eVar 8)) (eVar 8)))) (sSeq (sIf (tOf (eOp gEq (eVar 8) (eVar 4))) (sSetM [5] 9 (eOp gAdd (eVar 9) (eOp gMul (eC (.int 3)) (eVar 6)))) sNil) (sSetM [5] 7 (eOp gAdd (eVar 7) (eOp gIx (eVar 2) (eOp gMod (eVar 9) (eC (.int 26))))))))
abbrev gb_l_names_2 (S : Nat → List PyData → R PyData) : Vars → Out :=
  (sSeq (sSetM [5] 7 (eC (.str ""))) (sSeq (sFor [5] (iRange (aCons (eVar 3) aNil)) (gtName 8) (gb_l_names_1 S)) (sAppM [5] 5 (eVar 7))))
def g_l_names (S : Nat → List PyData → R PyData) : Vars → Out :=
  (sSeq (sSetM [5] 2 (eC (.str "abcdefghijklmnopqrstuvwxyz")))
    (sSeq (sSetM [5] 3 (eOp gAdd (eC (.int 1)) (eOp gMod (eVar 0) (eC (.int 6)))))
    (sSeq (sSetM [5] 4 (eOp gMod (eOp gDiv (eVar 0) (eC (.int 6))) (eVar 3)))
    (sSeq (sNew [5] 5 (nLst aNil))
    (sSeq (sFor [5] (iRange (aCons (eVar 1) aNil)) (gtName 6) (gb_l_names_2 S))
    (sRet (eVar 5)))))))
abbrev s_l_list : Stmt := top 8
abbrev N_l_list : List Str := ["_law_cell", "_law_k", "_law_names_here", "_law_start", "_law_straight", "_law_many", "_law_others", "_law_j", "_law_later"]
theorem sc_l_list : FnScope N_l_list ["_law_cell", "_law_k", "_law_names_here", "_law_start", "_law_straight"] (defScope s_l_list) := ⟨rfl, rfl, rfl, by decide +kernel, rfl, by decide +kernel, by decide +kernel⟩
abbrev gb_l_list_1 (S : Nat → List PyData → R PyData) : Vars → Out :=
  (sSeq (sSetM [6] 8 (eOp gGt (eOp gMod (eOp gSub (eVar 7) (eVar 3)) (eVar 5)) (eOp gMod (eOp gSub (eVar 1) (eVar 3)) (eVar 5)))) (sSeq (sIf (tAndR (tOf (eOp gEq (eOp gMod (eVar 0) (eC (.int 2))) (eC (.int 1)))) (tOrR (tTru (eVar 8)) (tNotR (tTru (eVar 4))))) (sAppM [6] 6 (eOp gIx (eVar 2) (eVar 7))) sNil) (sSetM [6] 0 (eOp gDiv (eVar 0) (eC (.int 2))))))
def g_l_list (S : Nat → List PyData → R PyData) : Vars → Out :=
  (sSeqN (sSetM [6] 5 (eCall gLen (aCons (eVar 2) aNil)))
    (sSeqN (sNew [6] 6 (nLst aNil))
    (sSeqN (sFor [6] (iRange (aCons (eVar 5) aNil)) (gtName 7) (gb_l_list_1 S))
    (sSeqN (sIf (tAndR (tOf (eOp gEq (eOp gMod (eVar 0) (eC (.int 3))) (eC (.int 1)))) (tOf (eOp gGt (eCall gLen (aCons (eVar 6) aNil)) (eC (.int 0))))) (sApp 6 (eOp gIx (eVar 6) (eOp gMod (eOp gDiv (eVar 0) (eC (.int 3))) (eCall gLen (aCons (eVar 6) aNil))))) sNil)
    (sSeqN (sIf (tOf (eOp gEq (eOp gMod (eOp gDiv (eVar 0) (eC (.int 9))) (eC (.int 2))) (eC (.int 1)))) (sRevO 6) sNil)
    (sRet (eVar 6)))))))
abbrev s_l_rules : Stmt := top 9
abbrev N_l_rules : List Str := ["_law_script", "_law_names_here", "_law_way", "_law_rules_here", "_law_k", "_law_cell", "_law_more"]
theorem sc_l_rules : FnScope N_l_rules ["_law_script", "_law_names_here"] (defScope s_l_rules) := ⟨rfl, rfl, rfl, by decide +kernel, rfl, by decide +kernel, by decide +kernel⟩
abbrev gb_l_rules_1 (S : Nat → List PyData → R PyData) : Vars → Out :=
  (sSeq (sSetD 5 (eFn (S 4) (aCons (eVar 0) (aCons (eOp gAdd (eC (.int 2)) (eVar 4)) aNil)))) (sIf (tOf (eOp gNe (eOp gMod (eVar 5) (eC (.int 5))) (eC (.int 0)))) (sPutN 3 (nFn (S 6) (aCons (eOp gDiv (eVar 5) (eC (.int 5))) (aCons (eVar 4) (aCons (eVar 1) (aCons (eOp gMod (eOp gDiv (eVar 2) (eC (.int 2))) (eCall gLen (aCons (eVar 1) aNil))) (aCons (eOp gEq (eOp gMod (eVar 2) (eC (.int 2))) (eC (.int 0))) aNil)))))) (eOp gIx (eVar 1) (eVar 4))) sNil))
def g_l_rules (S : Nat → List PyData → R PyData) : Vars → Out :=
  (sSeq (sSet [] 2 (eFn (S 4) (aCons (eVar 0) (aCons (eC (.int 1)) aNil))))
    (sSeq (sNewM 3)
    (sSeq (sForD 3 [] (iRange (aCons (eCall gLen (aCons (eVar 1) aNil)) aNil)) (gtName 4) (gb_l_rules_1 S))
    (sSeq (sSetD 6 (eOp gIx (eVar 1) (eOp gMod (eOp gDiv (eVar 2) (eC (.int 2))) (eCall gLen (aCons (eVar 1) aNil)))))
    (sSeq (sIf (tAndR (tOf (eOp gEq (eOp gMod (eVar 2) (eC (.int 16))) (eC (.int 6)))) (tOf (eOp gDin (eVar 6) (eVar 3)))) (sMapp 3 (eVar 6) (eOp gIx (eVar 1) (eOp gMod (eOp gDiv (eVar 2) (eC (.int 16))) (eCall gLen (aCons (eVar 1) aNil))))) sNil)
    (sRet (eVar 3)))))))
abbrev s_l_copied : Stmt := top 10
abbrev N_l_copied : List Str := ["_law_rules_here", "_law_copied_here", "_law_kind", "_law_others"]
theorem sc_l_copied : FnScope N_l_copied ["_law_rules_here"] (defScope s_l_copied) := ⟨rfl, rfl, rfl, by decide +kernel, rfl, by decide +kernel, by decide +kernel⟩
abbrev gb_l_copied_1 (S : Nat → List PyData → R PyData) : Vars → Out :=
  (sDPutM [1] 1 (eCall gList (aCons (eVar 3) aNil)) (eVar 2))
def g_l_copied (S : Nat → List PyData → R PyData) : Vars → Out :=
  (sSeqN (sNewV [1] 1 (eC (.dict [])))
    (sSeqN (sForDP [1] false (eVar 0) itI (gtTup 2 (gtCons (gtName 2) (gtCons (gtName 3) gtNil))) (gb_l_copied_1 S))
    (sRet (eVar 1))))
abbrev s_l_ranked : Stmt := top 11
abbrev N_l_ranked : List Str := ["_law_rules_here", "_law_told", "_law_kinds", "_law_others", "_law_other", "_law_kind"]
theorem sc_l_ranked : FnScope N_l_ranked ["_law_rules_here", "_law_told"] (defScope s_l_ranked) := ⟨rfl, rfl, rfl, by decide +kernel, rfl, by decide +kernel, by decide +kernel⟩
abbrev gb_l_ranked_1 (S : Nat → List PyData → R PyData) : Vars → Out :=
  (sIf (tOf (eOp gNinL (eVar 4) (eVar 2))) (sAppM [2] 2 (eVar 4)) sNil)
abbrev gb_l_ranked_2 (S : Nat → List PyData → R PyData) : Vars → Out :=
  (sFor [2] (iSeq (eVar 3)) (gtName 4) (gb_l_ranked_1 S))
abbrev gb_l_ranked_3 (S : Nat → List PyData → R PyData) : Vars → Out :=
  (sIf (tOrR (tOf (eOp gDnin (eVar 5) (eVar 1))) (tOrR (tNotR (tTru (eIsi "int" (eOp gDix (eVar 1) (eVar 5))))) (tTru (eIsi "bool" (eOp gDix (eVar 1) (eVar 5)))))) (sRet (eC (.bool false))) sNil)
abbrev gb_l_ranked_4 (S : Nat → List PyData → R PyData) : Vars → Out :=
  (sIf (tOf (eOp gNe (eOp gDix (eVar 1) (eVar 5)) (eMaxD 0 (eLc (iSeq (eDget (eVar 0) (eVar 5) (eLst aNil))) (gtName 4) tYesD (eOp gAdd (eOp gDix (eVar 1) (eVar 4)) (eC (.int 1))) [4])))) (sRet (eC (.bool false))) sNil)
def g_l_ranked (S : Nat → List PyData → R PyData) : Vars → Out :=
  (sSeq (sIf (tNotR (tTru (eIsi "dict" (eVar 1)))) (sRet (eC (.bool false))) sNil)
    (sSeq (sNew [2] 2 (nListK (aCons (eVar 0) aNil)))
    (sSeq (sForDP [2] false (eVar 0) itV (gtName 3) (gb_l_ranked_2 S))
    (sSeq (sIf (tOf (eOp gNe (eCall gLenD (aCons (eVar 1) aNil)) (eCall gLen (aCons (eVar 2) aNil)))) (sRet (eC (.bool false))) sNil)
    (sSeq (sFor [] (iSeq (eVar 2)) (gtName 5) (gb_l_ranked_3 S))
    (sSeq (sFor [] (iSeq (eVar 2)) (gtName 5) (gb_l_ranked_4 S))
    (sRet (eC (.bool true)))))))))
abbrev s_l_rings : Stmt := top 12
abbrev N_l_rings : List Str := ["_law_rules_here", "_law_told", "_law_k"]
theorem sc_l_rings : FnScope N_l_rings ["_law_rules_here", "_law_told"] (defScope s_l_rings) := ⟨rfl, rfl, rfl, by decide +kernel, rfl, by decide +kernel, by decide +kernel⟩
abbrev gb_l_rings_1 (S : Nat → List PyData → R PyData) : Vars → Out :=
  (sIf (tOrR (tOf (eOp gDnin (eOp gIx (eVar 1) (eOp gSub (eVar 2) (eC (.int 1)))) (eVar 0))) (tOf (eOp gNinL (eOp gIx (eVar 1) (eVar 2)) (eOp gDix (eVar 0) (eOp gIx (eVar 1) (eOp gSub (eVar 2) (eC (.int 1)))))))) (sRet (eC (.bool false))) sNil)
def g_l_rings (S : Nat → List PyData → R PyData) : Vars → Out :=
  (sSeq (sIf (tOrR (tNotR (tTru (eIsi "list" (eVar 1)))) (tOrR (tOf (eOp gEq (eCall gLen (aCons (eVar 1) aNil)) (eC (.int 0)))) (tOf (eOp gNe (eLenSet (eVar 1)) (eCall gLen (aCons (eVar 1) aNil)))))) (sRet (eC (.bool false))) sNil)
    (sSeq (sFor [] (iRange (aCons (eCall gLen (aCons (eVar 1) aNil)) aNil)) (gtName 2) (gb_l_rings_1 S))
    (sRet (eC (.bool true)))))
abbrev s_law : Stmt := top 13
abbrev N_law : List Str := ["_law_script", "_law_names_here", "_law_rules_here", "_law_handed", "_law_found", "_law_again"]
theorem sc_law : FnScope N_law ["_law_script"] (defScope s_law) := ⟨rfl, rfl, rfl, by decide +kernel, rfl, by decide +kernel, by decide +kernel⟩
def g_law (S : Nat → List PyData → R PyData) : Vars → Out :=
  (sSeq (sSetM [3] 1 (eFn (S 5) (aCons (eOp gDiv (eFn (S 4) (aCons (eVar 0) (aCons (eC (.int 0)) aNil))) (eC (.int 7))) (aCons (eOp gAdd (eC (.int 1)) (eOp gMod (eFn (S 4) (aCons (eVar 0) (aCons (eC (.int 0)) aNil))) (eC (.int 7)))) aNil))))
    (sSeq (sSetM [3] 2 (eFn (S 7) (aCons (eVar 0) (aCons (eVar 1) aNil))))
    (sSeq (sNewV [3] 3 (vFn (S 8) (aCons (eVar 2) aNil)))
    (sSeq (sTri 3 4 (eFn (S 3) (aCons (eVar 3) aNil)) (tOrR (tNotR (tTru (eIsi "tuple" (eVar 4)))) (tOrR (tOf (eOp gNe (eCall gLen (aCons (eVar 4) aNil)) (eC (.int 2)))) (tOf (eOp gDneX (eVar 3) (eVar 2))))))
    (sSeq (sSet [] 5 (eFn (S 3) (aCons (eVar 2) aNil)))
    (sSeq (sIf (tOrR (tNotR (tTru (eIsi "tuple" (eVar 5)))) (tOrR (tOf (eOp gNe (eCall gLen (aCons (eVar 5) aNil)) (eC (.int 2)))) (tOf (eOp gNe (eOp gIx (eVar 5) (eC (.int 0))) (eOp gIx (eVar 4) (eC (.int 0))))))) (sRet (eC (.bool false))) sNil)
    (sSeq (sIf (tOf (eOp gEq (eOp gIx (eVar 4) (eC (.int 0))) (eC (.str "ranks")))) (sRet (eAnd (eFn (S 9) (aCons (eVar 2) (aCons (eOp gIx (eVar 4) (eC (.int 1))) aNil))) (eOp gDeqX (eOp gIx (eVar 5) (eC (.int 1))) (eOp gIx (eVar 4) (eC (.int 1)))))) sNil)
    (sRet (eAnd (eOp gEq (eOp gIx (eVar 4) (eC (.int 0))) (eC (.str "ring"))) (eAnd (eFn (S 10) (aCons (eVar 2) (aCons (eOp gIx (eVar 4) (eC (.int 1))) aNil))) (eFn (S 10) (aCons (eVar 2) (aCons (eOp gIx (eVar 5) (eC (.int 1))) aNil)))))))))))))
section
variable {P : Program} {w : World} {K : PySem.W.Frag} {mg : Str → Option Value} {base : Heap}
theorem b_kinds_of {k : Nat} {S : Nat → List PyData → R PyData} {f : Addr} {cdv : Value} {A : Around} {outer : List Env} {s : Shared} {H : Hp} {E : XK} (hr : Room k (A.deeper (envOfC "kinds_of" (defScope s_kinds_of) s.heap.objs.size f cdv))) (m_list : mg "list" = none) :
    BX (cxOf (L2.CX P w) P w K mg base N_kinds_of "kinds_of" (defScope s_kinds_of) f cdv A outer s H E) E [1] (defBody s_kinds_of) (g_kinds_of S) :=
  (BX.cons (own := [1]) (own' := [1]) (sx_newV (i := 1) sc_kinds_of.nd rfl (by first | exact Or.inl rfl | exact Or.inr rfl) nv_dict0 rfl)
    (BX.cons (own := [1]) (own' := []) (sx_forDP (rr := false) walkI passD rfl (fun h => pi_itemsD h) (exd_var 0) (by decide) (gx_tup rfl (gsx_cons (gx_name (i := 2) sc_kinds_of.nd rfl (by first | exact Or.inl rfl | exact Or.inr rfl)) (gsx_cons (gx_name (i := 3) sc_kinds_of.nd rfl (by first | exact Or.inl rfl | exact Or.inr rfl)) gsx_nil))) (gtTup_in (gtCons_in (gtName_in 2) (gtCons_in (gtName_in 3) gtNil_in))) rfl (ssx_cons (sx_dputM (i := 1) (hu_of hr) ex_bl (ex_var 2) rfl) (ssx_one (sx_for passD rfl (ix_seq (ex_var 3)) (gx_name (i := 4) sc_kinds_of.nd rfl (by first | exact Or.inl rfl | exact Or.inr rfl)) (gtName_in 4) rfl (ssx_one (sx_dputM (i := 1) (hu_of hr) ex_bl (ex_var 4) rfl))))))
    (BX.of (own := []) (ssx_one (sx_ret (ex_callT (call_listD rfl) calld_listK rfl m_list (by decide +kernel) (ax_cons (ex_var 1) ax_nil))))) rfl) rfl)
theorem b_next_rank {k : Nat} {S : Nat → List PyData → R PyData} {f : Addr} {cdv : Value} {A : Around} {outer : List Env} {s : Shared} {H : Hp} {E : XK} (hr : Room k (A.deeper (envOfC "next_rank" (defScope s_next_rank) s.heap.objs.size f cdv))) (m_max : mg "max" = none) :
    BX (cxOf (L2.CX P w) P w K mg base N_next_rank "next_rank" (defScope s_next_rank) f cdv A outer s H E) E [] (defBody s_next_rank) (g_next_rank S) :=
  (BX.cons (own := []) (own' := []) (sx_set (i := 2) sc_next_rank.nd rfl (by first | exact Or.inl rfl | exact Or.inr rfl) ex_int rfl)
    (BX.cons (own := []) (own' := []) (sx_for passD rfl (ix_seq (ex_var 0)) (gx_name (i := 3) sc_next_rank.nd rfl (by first | exact Or.inl rfl | exact Or.inr rfl)) (gtName_in 3) rfl (ssx_cons (sx_if (tx_dnin (hu_of hr) (ex_var 3) (ex_var 1)) (ssx_one (sx_ret ex_non)) ssx_nil) (ssx_one (sx_set (i := 2) sc_next_rank.nd rfl (by first | exact Or.inl rfl | exact Or.inr rfl) (ex_callB (call_max2 rfl) calld_max2 rfl m_max (by decide +kernel) (ax_cons (ex_var 2) (ax_cons (ex_op opr_add op2_add (ex_dix (hu_of hr) (ex_var 1) (ex_var 3)) ex_int) ax_nil))) rfl))))
    (BX.of (own := []) (ssx_one (sx_ret (ex_var 2)))) rfl) rfl)
theorem b_ring_from {k : Nat} {S : Nat → List PyData → R PyData} {f : Addr} {cdv : Value} {A : Around} {outer : List Env} {s : Shared} {H : Hp} {E : XK} (hr : Room k (A.deeper (envOfC "ring_from" (defScope s_ring_from) s.heap.objs.size f cdv)))  :
    BX (cxOf (L2.CX P w) P w K mg base N_ring_from "ring_from" (defScope s_ring_from) f cdv A outer s H E) E [3] (defBody s_ring_from) (g_ring_from S) :=
  (BX.cons (own := [3]) (own' := [3]) (sx_new (i := 3) sc_ring_from.nd rfl (by first | exact Or.inl rfl | exact Or.inr rfl) (nx_lst (ax_cons (ex_var 0) ax_nil)) rfl)
    (BX.of (own := [3]) (ssx_one (sx_while wfuel passD (tx_tru ex_bl) (ssx_cons (sx_setM (i := 4) sc_ring_from.nd rfl (by first | exact Or.inl rfl | exact Or.inr rfl) ex_non rfl) (ssx_cons (sx_forM (hu_of hr) passD rfl (ex_var 1) (ex_ix ix_seq op2_ix (ex_var 3) (ex_neg ex_int) (fun _ _ => rfl)) (gx_name (i := 5) sc_ring_from.nd rfl (by first | exact Or.inl rfl | exact Or.inr rfl)) (gtName_in 5) rfl (ssx_one (sx_if (WX'.tx (wx_and (tx_dnin (hu_of hr) (ex_var 5) (ex_var 2)) (wx_and1 (tx_cmp op_isN op2_isN (ex_var 4) ex_non (nomark _))))) (ssx_one (sx_setM (i := 4) sc_ring_from.nd rfl (by first | exact Or.inl rfl | exact Or.inr rfl) (ex_var 5) rfl)) ssx_nil)) (fun _ _ => rfl)) (ssx_cons (sx_if (tx_cmp (op_inD (units65 hr)) op2_inL (ex_var 4) (ex_var 3) rfl) (ssx_one (sx_ret (ex_slice (ex_var 3) (ox_some (ex_idx (units65 hr) (ex_var 3) (ex_var 4))) ox_none))) ssx_nil) (ssx_one (sx_appM (i := 3) (ex_var 4) rfl)))))))) rfl)
theorem b_ranks {k : Nat} {S : Nat → List PyData → R PyData} {f : Addr} {cdv : Value} {A : Around} {outer : List Env} {s : Shared} {H : Hp} {E : XK} (hr : Room k (A.deeper (envOfC "ranks" (defScope s_ranks) s.heap.objs.size f cdv))) (c_kinds_of : Cal P w K mg base k "kinds_of" 1 (S 0)) (c_next_rank : Cal P w K mg base k "next_rank" 2 (S 1)) (c_ring_from : Cal P w K mg base k "ring_from" 3 (S 2)) (m_len : mg "len" = none) (m_range : mg "range" = none) :
    BX (cxOf (L2.CX P w) P w K mg base N_ranks "ranks" (defScope s_ranks) f cdv A outer s H E) E [1] (defBody s_ranks) (g_ranks S) :=
  (BX.cons (own := [1]) (own' := [1]) (sx_newV (i := 1) sc_ranks.nd rfl (by first | exact Or.inl rfl | exact Or.inr rfl) nv_dict0 rfl)
    (BX.cons (own := [1]) (own' := [1]) (sx_setM (i := 2) sc_ranks.nd rfl (by first | exact Or.inl rfl | exact Or.inr rfl) (ex_fn takesD c_kinds_of hr rfl (ax_cons (ex_var 0) ax_nil) rfl (hlen := aCons_len (fun _ _ h => aNil_len h))) rfl)
    (BX.cons (own := [1]) (own' := []) (sx_for passD rfl (ix_range1 rfl m_range (ax_cons (ex_callB call_len calld_len rfl m_len (by decide +kernel) (ax_cons (ex_var 2) ax_nil)) ax_nil) (hl := aCons_len (fun _ _ h => aNil_len h))) (gx_name (i := 3) sc_ranks.nd rfl (by first | exact Or.inl rfl | exact Or.inr rfl)) (gtName_in 3) rfl (ssx_one (sx_for passD rfl (ix_seq (ex_var 2)) (gx_name (i := 4) sc_ranks.nd rfl (by first | exact Or.inl rfl | exact Or.inr rfl)) (gtName_in 4) rfl (ssx_one (sx_if (tx_dnin (hu_of hr) (ex_var 4) (ex_var 1)) (ssx_cons (sx_set (i := 5) sc_ranks.nd rfl (by first | exact Or.inl rfl | exact Or.inr rfl) (ex_fn takesD c_next_rank hr rfl (ax_cons (ex_dget (hu_of hr) (ex_var 0) (ex_var 4) (ex_lst ax_nil)) (ax_cons (ex_var 1) ax_nil)) rfl (hlen := aCons_len (aCons_len (fun _ _ h => aNil_len h)))) rfl) (ssx_one (sx_if (tx_cmp op_notN op2_notN (ex_var 5) ex_non (nomark _)) (ssx_one (sx_dputM (i := 1) (hu_of hr) (ex_var 5) (ex_var 4) rfl)) ssx_nil))) ssx_nil)))))
    (BX.cons (own := []) (own' := []) (sx_for passD rfl (ix_seq (ex_var 2)) (gx_name (i := 4) sc_ranks.nd rfl (by first | exact Or.inl rfl | exact Or.inr rfl)) (gtName_in 4) rfl (ssx_one (sx_if (tx_dnin (hu_of hr) (ex_var 4) (ex_var 1)) (ssx_one (sx_ret (ex_tup (ax_cons ex_str (ax_cons (ex_fn takesD c_ring_from hr rfl (ax_cons (ex_var 4) (ax_cons (ex_var 0) (ax_cons (ex_var 1) ax_nil))) rfl (hlen := aCons_len (aCons_len (aCons_len (fun _ _ h => aNil_len h))))) ax_nil))))) ssx_nil)))
    (BX.of (own := []) (ssx_one (sx_ret (ex_tup (ax_cons ex_str (ax_cons (ex_var 1) ax_nil)))))) rfl) rfl) rfl) rfl)
theorem b_l_cell_at {k : Nat} {S : Nat → List PyData → R PyData} {f : Addr} {cdv : Value} {A : Around} {outer : List Env} {s : Shared} {H : Hp} {E : XK} (hr : Room k (A.deeper (envOfC "_law_cell_at" (defScope s_l_cell_at) s.heap.objs.size f cdv))) (m_len : mg "len" = none) :
    BX (cxOf (L2.CX P w) P w K mg base N_l_cell_at "_law_cell_at" (defScope s_l_cell_at) f cdv A outer s H E) E [] (defBody s_l_cell_at) (g_l_cell_at S) :=
  (BX.cons (own := []) (own' := []) (sx_if (tx_cmp op_lt op2_cmp (ex_var 1) (ex_callB call_len calld_len rfl m_len (by decide +kernel) (ax_cons (ex_var 0) ax_nil)) (nomark _)) (ssx_one (sx_ret (ex_ix ix_seq op2_ix (ex_var 0) (ex_var 1) (fun _ _ => rfl)))) ssx_nil)
    (BX.of (own := []) (ssx_one (sx_ret ex_int))) rfl)
theorem b_l_names {k : Nat} {S : Nat → List PyData → R PyData} {f : Addr} {cdv : Value} {A : Around} {outer : List Env} {s : Shared} {H : Hp} {E : XK} (hr : Room k (A.deeper (envOfC "_law_names" (defScope s_l_names) s.heap.objs.size f cdv))) (m_range : mg "range" = none) :
    BX (cxOf (L2.CX P w) P w K mg base N_l_names "_law_names" (defScope s_l_names) f cdv A outer s H E) E [5] (defBody s_l_names) (g_l_names S) :=
  (BX.cons (own := [5]) (own' := [5]) (sx_setM (i := 2) sc_l_names.nd rfl (by first | exact Or.inl rfl | exact Or.inr rfl) ex_str rfl)
    (BX.cons (own := [5]) (own' := [5]) (sx_setM (i := 3) sc_l_names.nd rfl (by first | exact Or.inl rfl | exact Or.inr rfl) (ex_op opr_add op2_add ex_int (ex_op op_mod op2_mod (ex_var 0) ex_int)) rfl)
    (BX.cons (own := [5]) (own' := [5]) (sx_setM (i := 4) sc_l_names.nd rfl (by first | exact Or.inl rfl | exact Or.inr rfl) (ex_op op_mod op2_mod (ex_op op_fdivW op2_div (ex_var 0) ex_int) (ex_var 3)) rfl)
    (BX.cons (own := [5]) (own' := [5]) (sx_new (i := 5) sc_l_names.nd rfl (by first | exact Or.inl rfl | exact Or.inr rfl) (nx_lst ax_nil) rfl)
    (BX.cons (own := [5]) (own' := []) (sx_for passD rfl (ix_range1 rfl m_range (ax_cons (ex_var 1) ax_nil) (hl := aCons_len (fun _ _ h => aNil_len h))) (gx_name (i := 6) sc_l_names.nd rfl (by first | exact Or.inl rfl | exact Or.inr rfl)) (gtName_in 6) rfl (ssx_cons (sx_setM (i := 7) sc_l_names.nd rfl (by first | exact Or.inl rfl | exact Or.inr rfl) ex_str rfl) (ssx_cons (sx_for passD rfl (ix_range1 rfl m_range (ax_cons (ex_var 3) ax_nil) (hl := aCons_len (fun _ _ h => aNil_len h))) (gx_name (i := 8) sc_l_names.nd rfl (by first | exact Or.inl rfl | exact Or.inr rfl)) (gtName_in 8) rfl (ssx_cons (sx_setM (i := 9) sc_l_names.nd rfl (by first | exact Or.inl rfl | exact Or.inr rfl) (ex_op opr_add op2_add (ex_op op_fdivW op2_div (ex_var 0) ex_int) (ex_op op_mulW op2_mul (ex_op op_mulW op2_mul (ex_var 8) (ex_var 8)) (ex_var 8))) rfl) (ssx_cons (sx_if (tx_cmp (op_eqX hr.un190) op2_eq (ex_var 8) (ex_var 4) (nomark _)) (ssx_one (sx_setM (i := 9) sc_l_names.nd rfl (by first | exact Or.inl rfl | exact Or.inr rfl) (ex_op opr_add op2_add (ex_var 9) (ex_op op_mulW op2_mul ex_int (ex_var 6))) rfl)) ssx_nil) (ssx_one (sx_setM (i := 7) sc_l_names.nd rfl (by first | exact Or.inl rfl | exact Or.inr rfl) (ex_op opr_add op2_add (ex_var 7) (ex_ix ix_seq op2_ix (ex_var 2) (ex_op op_mod op2_mod (ex_var 9) ex_int) (fun _ _ => rfl))) rfl))))) (ssx_one (sx_appM (i := 5) (ex_var 7) rfl)))))
    (BX.of (own := []) (ssx_one (sx_ret (ex_var 5)))) rfl) rfl) rfl) rfl) rfl)
theorem b_l_list {k : Nat} {S : Nat → List PyData → R PyData} {f : Addr} {cdv : Value} {A : Around} {outer : List Env} {s : Shared} {H : Hp} {E : XK} (hr : Room k (A.deeper (envOfC "_law_list" (defScope s_l_list) s.heap.objs.size f cdv))) (m_len : mg "len" = none) (m_range : mg "range" = none) :
    NBX (cxOf (L2.CX P w) P w K mg base N_l_list "_law_list" (defScope s_l_list) f cdv A outer s H E) E [6] (defBody s_l_list) (g_l_list S) :=
  (NBX.cons (own := [6]) (own' := [6]) (sx_setM (i := 5) sc_l_list.nd rfl (by first | exact Or.inl rfl | exact Or.inr rfl) (ex_callB call_len calld_len rfl m_len (by decide +kernel) (ax_cons (ex_var 2) ax_nil)) rfl)
    (NBX.cons (own := [6]) (own' := [6]) (sx_new (i := 6) sc_l_list.nd rfl (by first | exact Or.inl rfl | exact Or.inr rfl) (nx_lst ax_nil) rfl)
    (NBX.cons (own := [6]) (own' := [6]) (sx_for passD rfl (ix_range1 rfl m_range (ax_cons (ex_var 5) ax_nil) (hl := aCons_len (fun _ _ h => aNil_len h))) (gx_name (i := 7) sc_l_list.nd rfl (by first | exact Or.inl rfl | exact Or.inr rfl)) (gtName_in 7) rfl (ssx_cons (sx_setM (i := 8) sc_l_list.nd rfl (by first | exact Or.inl rfl | exact Or.inr rfl) (ex_cmp op_gt op2_cmp (ex_op op_mod op2_mod (ex_op opr_sub op2_sub (ex_var 7) (ex_var 3)) (ex_var 5)) (ex_op op_mod op2_mod (ex_op opr_sub op2_sub (ex_var 1) (ex_var 3)) (ex_var 5)) (nomark _)) rfl) (ssx_cons (sx_if (WX'.tx (wx_and (tx_cmp (op_eqX hr.un190) op2_eq (ex_op op_mod op2_mod (ex_var 0) ex_int) ex_int (nomark _)) (wx_and1 (WX'.tx (wx_or (tx_tru (ex_var 8)) (wx_or1 (tx_not (tx_tru (ex_var 4))))))))) (ssx_one (sx_appM (i := 6) (ex_ix ix_seq op2_ix (ex_var 2) (ex_var 7) (fun _ _ => rfl)) rfl)) ssx_nil) (ssx_one (sx_setM (i := 0) sc_l_list.nd rfl (by first | exact Or.inl rfl | exact Or.inr rfl) (ex_op op_fdivW op2_div (ex_var 0) ex_int) rfl)))))
    (NBX.cons (own := [6]) (own' := [6]) (sx_if (WX'.tx (wx_and (tx_cmp (op_eqX hr.un190) op2_eq (ex_op op_mod op2_mod (ex_var 0) ex_int) ex_int (nomark _)) (wx_and1 (tx_cmp op_gt op2_cmp (ex_callB call_len calld_len rfl m_len (by decide +kernel) (ax_cons (ex_var 6) ax_nil)) ex_int (nomark _))))) (ssx_one (sx_app (i := 6) (ex_ix ix_seq op2_ix (ex_var 6) (ex_op op_mod op2_mod (ex_op op_fdivW op2_div (ex_var 0) ex_int) (ex_callB call_len calld_len rfl m_len (by decide +kernel) (ax_cons (ex_var 6) ax_nil))) (fun _ _ => rfl)) rfl)) ssx_nil)
    (NBX.cons (own := [6]) (own' := [6]) (sx_if (tx_cmp (op_eqX hr.un190) op2_eq (ex_op op_mod op2_mod (ex_op op_fdivW op2_div (ex_var 0) ex_int) ex_int) ex_int (nomark _)) (ssx_one (sx_revO (i := 6) sc_l_list.nd rfl (by first | exact Or.inl rfl | exact Or.inr rfl) rfl)) ssx_nil)
    (NBX.ret (own := [6]) (i := 6) rfl rfl) rfl) rfl) rfl) rfl) rfl)
theorem b_l_rules {k : Nat} {S : Nat → List PyData → R PyData} {f : Addr} {cdv : Value} {A : Around} {outer : List Env} {s : Shared} {H : Hp} {E : XK} (hr : Room k (A.deeper (envOfC "_law_rules" (defScope s_l_rules) s.heap.objs.size f cdv))) (c_l_cell_at : Cal P w K mg base k "_law_cell_at" 2 (S 4)) (cn_l_list : CalN P w K mg base k "_law_list" 5 (S 6)) (m_len : mg "len" = none) (m_range : mg "range" = none) :
    BX (cxOf (L2.CX P w) P w K mg base N_l_rules "_law_rules" (defScope s_l_rules) f cdv A outer s H E) E [] (defBody s_l_rules) (g_l_rules S) :=
  (BX.cons (own := []) (own' := []) (sx_set (i := 2) sc_l_rules.nd rfl (by first | exact Or.inl rfl | exact Or.inr rfl) (ex_fn takesD c_l_cell_at hr rfl (ax_cons (ex_var 0) (ax_cons ex_int ax_nil)) rfl (hlen := aCons_len (aCons_len (fun _ _ h => aNil_len h)))) rfl)
    (BX.consM (iu := 3) sc_l_rules.nd rfl (by first | exact Or.inl rfl | exact Or.inr rfl)
    (BMX.cons (mx_for (iu := 3) passD rfl (ix_range1 rfl m_range (ax_cons (ex_callB call_len calld_len rfl m_len (by decide +kernel) (ax_cons (ex_var 1) ax_nil)) ax_nil) (hl := aCons_len (fun _ _ h => aNil_len h))) (gx_name (i := 4) sc_l_rules.nd rfl (by first | exact Or.inl rfl | exact Or.inr rfl)) (gtName_in 4) rfl (msx_cons (mx_set (i := 5) sc_l_rules.nd rfl (by first | exact Or.inl rfl | exact Or.inr rfl) (ex_fn takesD c_l_cell_at hr rfl (ax_cons (ex_var 0) (ax_cons (ex_op opr_add op2_add ex_int (ex_var 4)) ax_nil)) rfl (hlen := aCons_len (aCons_len (fun _ _ h => aNil_len h)))) rfl) (msx_one (mx_if (tx_cmp (op_neX hr.un190) op2_ne (ex_op op_mod op2_mod (ex_var 5) ex_int) ex_int (nomark _)) (msx_one (mx_putN (iu := 3) (hu_of hr) (nx_fn takesD cn_l_list hr rfl (ax_cons (ex_op op_fdivW op2_div (ex_var 5) ex_int) (ax_cons (ex_var 4) (ax_cons (ex_var 1) (ax_cons (ex_op op_mod op2_mod (ex_op op_fdivW op2_div (ex_var 2) ex_int) (ex_callB call_len calld_len rfl m_len (by decide +kernel) (ax_cons (ex_var 1) ax_nil))) (ax_cons (ex_cmp (op_eqX hr.un190) op2_eq (ex_op op_mod op2_mod (ex_var 2) ex_int) ex_int (nomark _)) ax_nil))))) rfl (hlen := aCons_len (aCons_len (aCons_len (aCons_len (aCons_len (fun _ _ h => aNil_len h))))))) (ex_ix ix_seq op2_ix (ex_var 1) (ex_var 4) (fun _ _ => rfl)))) msx_nil))))
    (BMX.cons (mx_set (i := 6) sc_l_rules.nd rfl (by first | exact Or.inl rfl | exact Or.inr rfl) (ex_ix ix_seq op2_ix (ex_var 1) (ex_op op_mod op2_mod (ex_op op_fdivW op2_div (ex_var 2) ex_int) (ex_callB call_len calld_len rfl m_len (by decide +kernel) (ax_cons (ex_var 1) ax_nil))) (fun _ _ => rfl)) rfl)
    (BMX.cons (mx_if (WX'.tx (wx_and (tx_cmp (op_eqX hr.un190) op2_eq (ex_op op_mod op2_mod (ex_var 2) ex_int) ex_int (nomark _)) (wx_and1 (tx_din (hu_of hr) (ex_var 6) (ex_var 3))))) (msx_one (mx_mapp (iu := 3) (hu_of hr) (ex_var 6) (ex_ix ix_seq op2_ix (ex_var 1) (ex_op op_mod op2_mod (ex_op op_fdivW op2_div (ex_var 2) ex_int) (ex_callB call_len calld_len rfl m_len (by decide +kernel) (ax_cons (ex_var 1) ax_nil))) (fun _ _ => rfl)) (fun _ _ => rfl))) msx_nil)
    (BMX.freeze (iu := 3) (BX.of (own := []) (ssx_one (sx_ret (ex_var 3))))))))) rfl)
theorem b_l_copied {k : Nat} {S : Nat → List PyData → R PyData} {f : Addr} {cdv : Value} {A : Around} {outer : List Env} {s : Shared} {H : Hp} {E : XK} (hr : Room k (A.deeper (envOfC "_law_copied" (defScope s_l_copied) s.heap.objs.size f cdv))) (m_list : mg "list" = none) :
    VBX (cxOf (L2.CX P w) P w K mg base N_l_copied "_law_copied" (defScope s_l_copied) f cdv A outer s H E) E [1] (defBody s_l_copied) (g_l_copied S) :=
  (VBX.cons (own := [1]) (own' := [1]) (sx_newV (i := 1) sc_l_copied.nd rfl (by first | exact Or.inl rfl | exact Or.inr rfl) nv_dict0 rfl)
    (VBX.cons (own := [1]) (own' := [1]) (sx_forDP (rr := false) walkI passD rfl (fun h => pi_itemsD h) (exd_var 0) (by decide) (gx_tup rfl (gsx_cons (gx_name (i := 2) sc_l_copied.nd rfl (by first | exact Or.inl rfl | exact Or.inr rfl)) (gsx_cons (gx_name (i := 3) sc_l_copied.nd rfl (by first | exact Or.inl rfl | exact Or.inr rfl)) gsx_nil))) (gtTup_in (gtCons_in (gtName_in 2) (gtCons_in (gtName_in 3) gtNil_in))) rfl (ssx_one (sx_dputM (i := 1) (hu_of hr) (ex_callT call_list_of calld_list rfl m_list (by decide +kernel) (ax_cons (ex_var 3) ax_nil)) (ex_var 2) rfl)))
    (VBX.ret (own := [1]) (i := 1) rfl rfl) rfl) rfl)
theorem b_l_ranked {k : Nat} {S : Nat → List PyData → R PyData} {f : Addr} {cdv : Value} {A : Around} {outer : List Env} {s : Shared} {H : Hp} {E : XK} (hr : Room k (A.deeper (envOfC "_law_ranked" (defScope s_l_ranked) s.heap.objs.size f cdv))) (m_bool : mg "bool" = none) (m_dict : mg "dict" = none) (m_int : mg "int" = none) (m_isinstance : mg "isinstance" = none) (m_len : mg "len" = none) (m_list : mg "list" = none) (m_max : mg "max" = none) :
    BX (cxOf (L2.CX P w) P w K mg base N_l_ranked "_law_ranked" (defScope s_l_ranked) f cdv A outer s H E) E [2] (defBody s_l_ranked) (g_l_ranked S) :=
  (BX.cons (own := [2]) (own' := [2]) (sx_if (tx_not (tx_tru (ex_isi kit_dict rfl m_isinstance rfl m_dict (by decide +kernel) (ex_var 1)))) (ssx_one (sx_ret ex_bl)) ssx_nil)
    (BX.cons (own := [2]) (own' := [2]) (sx_new (i := 2) sc_l_ranked.nd rfl (by first | exact Or.inl rfl | exact Or.inr rfl) (nx_listK rfl rfl m_list (ax_cons (ex_var 0) ax_nil)) rfl)
    (BX.cons (own := [2]) (own' := []) (sx_forDP (rr := false) walkV passD rfl (fun h => pi_valuesD h) (exd_var 0) (by decide) (gx_name (i := 3) sc_l_ranked.nd rfl (by first | exact Or.inl rfl | exact Or.inr rfl)) (gtName_in 3) rfl (ssx_one (sx_for passD rfl (ix_seq (ex_var 3)) (gx_name (i := 4) sc_l_ranked.nd rfl (by first | exact Or.inl rfl | exact Or.inr rfl)) (gtName_in 4) rfl (ssx_one (sx_if (tx_cmp (op_notInD (units65 hr)) op2_ninL (ex_var 4) (ex_var 2) rfl) (ssx_one (sx_appM (i := 2) (ex_var 4) rfl)) ssx_nil)))))
    (BX.cons (own := []) (own' := []) (sx_if (tx_cmp (op_neX hr.un190) op2_ne (ex_callB call_lenDk calld_lenDk rfl m_len (by decide +kernel) (ax_cons (ex_var 1) ax_nil)) (ex_callB call_len calld_len rfl m_len (by decide +kernel) (ax_cons (ex_var 2) ax_nil)) (nomark _)) (ssx_one (sx_ret ex_bl)) ssx_nil)
    (BX.cons (own := []) (own' := []) (sx_for passD rfl (ix_seq (ex_var 2)) (gx_name (i := 5) sc_l_ranked.nd rfl (by first | exact Or.inl rfl | exact Or.inr rfl)) (gtName_in 5) rfl (ssx_one (sx_if (WX'.tx (wx_or (tx_dnin (hu_of hr) (ex_var 5) (ex_var 1)) (wx_or (tx_not (tx_tru (ex_isi kit_int rfl m_isinstance rfl m_int (by decide +kernel) (ex_dix (hu_of hr) (ex_var 1) (ex_var 5))))) (wx_or1 (tx_tru (ex_isi kit_bool rfl m_isinstance rfl m_bool (by decide +kernel) (ex_dix (hu_of hr) (ex_var 1) (ex_var 5)))))))) (ssx_one (sx_ret ex_bl)) ssx_nil)))
    (BX.cons (own := []) (own' := []) (sx_for passD rfl (ix_seq (ex_var 2)) (gx_name (i := 5) sc_l_ranked.nd rfl (by first | exact Or.inl rfl | exact Or.inr rfl)) (gtName_in 5) rfl (ssx_one (sx_if (tx_cmp (op_neX hr.un190) op2_ne (ex_dix (hu_of hr) (ex_var 1) (ex_var 5)) (ex_maxD rfl rfl m_max (by exact ex_lc (own := [("_law_other", 4)]) rfl sc_l_ranked.nd (ix_seq (ex_dget (hu_of hr) (ex_var 0) (ex_var 5) (ex_lst ax_nil))) (blkOk_by (N := N_l_ranked) (sc := defScope s_l_ranked) (own := [("_law_other", 4)]) (by decide +kernel)) (by exact fun _ _ _ _ _ => (gx_name (i := 4) sc_l_ranked.nd rfl (by first | exact Or.inl rfl | exact Or.inr rfl))) (by exact fun _ _ _ _ _ => tsx_nil) (by exact fun _ _ _ _ _ => (ex_op opr_add op2_add (ex_dix (hu_of hr) (ex_var 1) (ex_var 4)) ex_int)) (by decide))) (nomark _)) (ssx_one (sx_ret ex_bl)) ssx_nil)))
    (BX.of (own := []) (ssx_one (sx_ret ex_bl))) rfl) rfl) rfl) rfl) rfl) rfl)
theorem b_l_rings {k : Nat} {S : Nat → List PyData → R PyData} {f : Addr} {cdv : Value} {A : Around} {outer : List Env} {s : Shared} {H : Hp} {E : XK} (hr : Room k (A.deeper (envOfC "_law_rings" (defScope s_l_rings) s.heap.objs.size f cdv))) (m_isinstance : mg "isinstance" = none) (m_len : mg "len" = none) (m_list : mg "list" = none) (m_range : mg "range" = none) (m_set : mg "set" = none) :
    BX (cxOf (L2.CX P w) P w K mg base N_l_rings "_law_rings" (defScope s_l_rings) f cdv A outer s H E) E [] (defBody s_l_rings) (g_l_rings S) :=
  (BX.cons (own := []) (own' := []) (sx_if (WX'.tx (wx_or (tx_not (tx_tru (ex_isi kit_list rfl m_isinstance rfl m_list (by decide +kernel) (ex_var 1)))) (wx_or (tx_cmp (op_eqX hr.un190) op2_eq (ex_callB call_len calld_len rfl m_len (by decide +kernel) (ax_cons (ex_var 1) ax_nil)) ex_int (nomark _)) (wx_or1 (tx_cmp (op_neX hr.un190) op2_ne (ex_lenSet rfl rfl m_len rfl m_set (ex_var 1)) (ex_callB call_len calld_len rfl m_len (by decide +kernel) (ax_cons (ex_var 1) ax_nil)) (nomark _)))))) (ssx_one (sx_ret ex_bl)) ssx_nil)
    (BX.cons (own := []) (own' := []) (sx_for passD rfl (ix_range1 rfl m_range (ax_cons (ex_callB call_len calld_len rfl m_len (by decide +kernel) (ax_cons (ex_var 1) ax_nil)) ax_nil) (hl := aCons_len (fun _ _ h => aNil_len h))) (gx_name (i := 2) sc_l_rings.nd rfl (by first | exact Or.inl rfl | exact Or.inr rfl)) (gtName_in 2) rfl (ssx_one (sx_if (WX'.tx (wx_or (tx_dnin (hu_of hr) (ex_ix ix_seq op2_ix (ex_var 1) (ex_op opr_sub op2_sub (ex_var 2) ex_int) (fun _ _ => rfl)) (ex_var 0)) (wx_or1 (tx_cmp (op_notInD (units65 hr)) op2_ninL (ex_ix ix_seq op2_ix (ex_var 1) (ex_var 2) (fun _ _ => rfl)) (ex_dix (hu_of hr) (ex_var 0) (ex_ix ix_seq op2_ix (ex_var 1) (ex_op opr_sub op2_sub (ex_var 2) ex_int) (fun _ _ => rfl))) rfl)))) (ssx_one (sx_ret ex_bl)) ssx_nil)))
    (BX.of (own := []) (ssx_one (sx_ret ex_bl))) rfl) rfl)
theorem b_law {k : Nat} {S : Nat → List PyData → R PyData} {f : Addr} {cdv : Value} {A : Around} {outer : List Env} {s : Shared} {H : Hp} {E : XK} (hr : Room k (A.deeper (envOfC "law" (defScope s_law) s.heap.objs.size f cdv))) (c_l_cell_at : Cal P w K mg base k "_law_cell_at" 2 (S 4)) (cn_l_copied : CalV P w K mg base k "_law_copied" 1 (S 8)) (c_l_names : Cal P w K mg base k "_law_names" 2 (S 5)) (c_l_ranked : Cal P w K mg base k "_law_ranked" 2 (S 9)) (c_l_rings : Cal P w K mg base k "_law_rings" 2 (S 10)) (c_l_rules : Cal P w K mg base k "_law_rules" 2 (S 7)) (c_ranks : Cal P w K mg base k "ranks" 1 (S 3)) (m_isinstance : mg "isinstance" = none) (m_len : mg "len" = none) (m_tuple : mg "tuple" = none) :
    BX (cxOf (L2.CX P w) P w K mg base N_law "law" (defScope s_law) f cdv A outer s H E) E [3] (defBody s_law) (g_law S) :=
  (BX.cons (own := [3]) (own' := [3]) (sx_setM (i := 1) sc_law.nd rfl (by first | exact Or.inl rfl | exact Or.inr rfl) (ex_fn takesD c_l_names hr rfl (ax_cons (ex_op op_fdivW op2_div (ex_fn takesD c_l_cell_at hr rfl (ax_cons (ex_var 0) (ax_cons ex_int ax_nil)) rfl (hlen := aCons_len (aCons_len (fun _ _ h => aNil_len h)))) ex_int) (ax_cons (ex_op opr_add op2_add ex_int (ex_op op_mod op2_mod (ex_fn takesD c_l_cell_at hr rfl (ax_cons (ex_var 0) (ax_cons ex_int ax_nil)) rfl (hlen := aCons_len (aCons_len (fun _ _ h => aNil_len h)))) ex_int)) ax_nil)) rfl (hlen := aCons_len (aCons_len (fun _ _ h => aNil_len h)))) rfl)
    (BX.cons (own := [3]) (own' := [3]) (sx_setM (i := 2) sc_law.nd rfl (by first | exact Or.inl rfl | exact Or.inr rfl) (ex_fn takesD c_l_rules hr rfl (ax_cons (ex_var 0) (ax_cons (ex_var 1) ax_nil)) rfl (hlen := aCons_len (aCons_len (fun _ _ h => aNil_len h)))) rfl)
    (BX.cons (own := [3]) (own' := [3]) (sx_newV (i := 3) sc_law.nd rfl (by first | exact Or.inl rfl | exact Or.inr rfl) (nv_fn takesD cn_l_copied hr rfl (ax_cons (ex_var 2) ax_nil) rfl (hlen := aCons_len (fun _ _ h => aNil_len h))) rfl)
    (BX.tri (h := 3) (i := 4) sc_law.nd rfl rfl (by decide) (by first | exact Or.inl rfl | exact Or.inr rfl) (ex_fn takesD c_ranks hr rfl (ax_cons (ex_var 3) ax_nil) rfl (hlen := aCons_len (fun _ _ h => aNil_len h))) (WX'.tx (wx_or (tx_not (tx_tru (ex_isi kit_tuple rfl m_isinstance rfl m_tuple (by decide +kernel) (ex_var 4)))) (wx_or (tx_cmp (op_neX hr.un190) op2_ne (ex_callB call_len calld_len rfl m_len (by decide +kernel) (ax_cons (ex_var 4) ax_nil)) ex_int (nomark _)) (wx_or1 (tx_cmp (op_neX' hr.un191) op2_dNeX (ex_var 3) (ex_var 2) (nomark _))))))
    (BX.cons (own := []) (own' := []) (sx_set (i := 5) sc_law.nd rfl (by first | exact Or.inl rfl | exact Or.inr rfl) (ex_fn takesD c_ranks hr rfl (ax_cons (ex_var 2) ax_nil) rfl (hlen := aCons_len (fun _ _ h => aNil_len h))) rfl)
    (BX.cons (own := []) (own' := []) (sx_if (WX'.tx (wx_or (tx_not (tx_tru (ex_isi kit_tuple rfl m_isinstance rfl m_tuple (by decide +kernel) (ex_var 5)))) (wx_or (tx_cmp (op_neX hr.un190) op2_ne (ex_callB call_len calld_len rfl m_len (by decide +kernel) (ax_cons (ex_var 5) ax_nil)) ex_int (nomark _)) (wx_or1 (tx_cmp (op_neX hr.un190) op2_ne (ex_ix ix_seq op2_ix (ex_var 5) ex_int (fun _ _ => rfl)) (ex_ix ix_seq op2_ix (ex_var 4) ex_int (fun _ _ => rfl)) (nomark _)))))) (ssx_one (sx_ret ex_bl)) ssx_nil)
    (BX.cons (own := []) (own' := []) (sx_if (tx_cmp (op_eqX hr.un190) op2_eq (ex_ix ix_seq op2_ix (ex_var 4) ex_int (fun _ _ => rfl)) ex_str (nomark _)) (ssx_one (sx_ret (ex_and (ex_fn takesD c_l_ranked hr rfl (ax_cons (ex_var 2) (ax_cons (ex_ix ix_seq op2_ix (ex_var 4) ex_int (fun _ _ => rfl)) ax_nil)) rfl (hlen := aCons_len (aCons_len (fun _ _ h => aNil_len h)))) (ex_one (ex_cmp (op_eqX' hr.un191) op2_dEqX (ex_ix ix_seq op2_ix (ex_var 5) ex_int (fun _ _ => rfl)) (ex_ix ix_seq op2_ix (ex_var 4) ex_int (fun _ _ => rfl)) (nomark _)))))) ssx_nil)
    (BX.of (own := []) (ssx_one (sx_ret (ex_and (ex_cmp (op_eqX hr.un190) op2_eq (ex_ix ix_seq op2_ix (ex_var 4) ex_int (fun _ _ => rfl)) ex_str (nomark _)) (ex_and (ex_fn takesD c_l_rings hr rfl (ax_cons (ex_var 2) (ax_cons (ex_ix ix_seq op2_ix (ex_var 4) ex_int (fun _ _ => rfl)) ax_nil)) rfl (hlen := aCons_len (aCons_len (fun _ _ h => aNil_len h)))) (ex_one (ex_fn takesD c_l_rings hr rfl (ax_cons (ex_var 2) (ax_cons (ex_ix ix_seq op2_ix (ex_var 5) ex_int (fun _ _ => rfl)) ax_nil)) rfl (hlen := aCons_len (aCons_len (fun _ _ h => aNil_len h)))))))))) rfl) rfl) rfl)) rfl) rfl) rfl)
end
def sem : Nat → Nat → List PyData → R PyData
  | 0 => fun _ _ => .bad
  | k + 1 => fun i ds => match i with
    | 0 => fnD 5 (g_kinds_of (sem k)) ds
    | 1 => fnD 4 (g_next_rank (sem k)) ds
    | 2 => fnD 6 (g_ring_from (sem k)) ds
    | 3 => fnD 6 (g_ranks (sem k)) ds
    | 4 => fnD 2 (g_l_cell_at (sem k)) ds
    | 5 => fnD 10 (g_l_names (sem k)) ds
    | 6 => fnD 9 (g_l_list (sem k)) ds
    | 7 => fnD 7 (g_l_rules (sem k)) ds
    | 8 => fnD 4 (g_l_copied (sem k)) ds
    | 9 => fnD 6 (g_l_ranked (sem k)) ds
    | 10 => fnD 3 (g_l_rings (sem k)) ds
    | 11 => fnD 6 (g_law (sem k)) ds
    | _ => .bad
theorem sem_law (k : Nat) (ds : List PyData) : sem (k + 1) 11 ds = fnD 6 (g_law (sem k)) ds := rfl
structure Whole (K : PySem.W.Frag) (mg : Str → Option Value) : Prop where
  F_kinds_of : ∃ f fd, Fun K "kinds_of" "kinds_of" s_kinds_of f fd ∧ mg "kinds_of" = some (.ref f) ∧ Binds K fd ["rules"] []
  F_next_rank : ∃ f fd, Fun K "next_rank" "next_rank" s_next_rank f fd ∧ mg "next_rank" = some (.ref f) ∧ Binds K fd ["others", "known"] []
  F_ring_from : ∃ f fd, Fun K "ring_from" "ring_from" s_ring_from f fd ∧ mg "ring_from" = some (.ref f) ∧ Binds K fd ["kind", "rules", "known"] []
  F_ranks : ∃ f fd, Fun K "ranks" "ranks" s_ranks f fd ∧ mg "ranks" = some (.ref f) ∧ Binds K fd ["rules"] []
  F_l_cell_at : ∃ f fd, Fun K "_law_cell_at" "_law_cell_at" s_l_cell_at f fd ∧ mg "_law_cell_at" = some (.ref f) ∧ Binds K fd ["_law_script", "_law_k"] []
  F_l_names : ∃ f fd, Fun K "_law_names" "_law_names" s_l_names f fd ∧ mg "_law_names" = some (.ref f) ∧ Binds K fd ["_law_cell", "_law_many"] []
  F_l_list : ∃ f fd, Fun K "_law_list" "_law_list" s_l_list f fd ∧ mg "_law_list" = some (.ref f) ∧ Binds K fd ["_law_cell", "_law_k", "_law_names_here", "_law_start", "_law_straight"] []
  F_l_rules : ∃ f fd, Fun K "_law_rules" "_law_rules" s_l_rules f fd ∧ mg "_law_rules" = some (.ref f) ∧ Binds K fd ["_law_script", "_law_names_here"] []
  F_l_copied : ∃ f fd, Fun K "_law_copied" "_law_copied" s_l_copied f fd ∧ mg "_law_copied" = some (.ref f) ∧ Binds K fd ["_law_rules_here"] []
  F_l_ranked : ∃ f fd, Fun K "_law_ranked" "_law_ranked" s_l_ranked f fd ∧ mg "_law_ranked" = some (.ref f) ∧ Binds K fd ["_law_rules_here", "_law_told"] []
  F_l_rings : ∃ f fd, Fun K "_law_rings" "_law_rings" s_l_rings f fd ∧ mg "_law_rings" = some (.ref f) ∧ Binds K fd ["_law_rules_here", "_law_told"] []
  m_bool : mg "bool" = none
  m_dict : mg "dict" = none
  m_int : mg "int" = none
  m_isinstance : mg "isinstance" = none
  m_len : mg "len" = none
  m_list : mg "list" = none
  m_max : mg "max" = none
  m_range : mg "range" = none
  m_set : mg "set" = none
  m_tuple : mg "tuple" = none
structure Calls (P : Program) (w : World) (K : PySem.W.Frag) (mg : Str → Option Value) (base : Heap) (k : Nat) (S : Nat → List PyData → R PyData) : Prop where
  c_kinds_of : Cal P w K mg base k "kinds_of" 1 (S 0)
  c_next_rank : Cal P w K mg base k "next_rank" 2 (S 1)
  c_ring_from : Cal P w K mg base k "ring_from" 3 (S 2)
  c_ranks : Cal P w K mg base k "ranks" 1 (S 3)
  c_l_cell_at : Cal P w K mg base k "_law_cell_at" 2 (S 4)
  c_l_names : Cal P w K mg base k "_law_names" 2 (S 5)
  cn_l_list : CalN P w K mg base k "_law_list" 5 (S 6)
  c_l_rules : Cal P w K mg base k "_law_rules" 2 (S 7)
  cn_l_copied : CalV P w K mg base k "_law_copied" 1 (S 8)
  c_l_ranked : Cal P w K mg base k "_law_ranked" 2 (S 9)
  c_l_rings : Cal P w K mg base k "_law_rings" 2 (S 10)
section
variable {P : Program} {w : World} {K : PySem.W.Frag} {mg : Str → Option Value} {base : Heap}
theorem calls (T : Whole K mg) : ∀ k, Calls P w K mg base k (sem k)
  | 0 => {
      c_kinds_of := by obtain ⟨f, fd, F, m, b⟩ := T.F_kinds_of; exact cal_zero F m b rfl
      c_next_rank := by obtain ⟨f, fd, F, m, b⟩ := T.F_next_rank; exact cal_zero F m b rfl
      c_ring_from := by obtain ⟨f, fd, F, m, b⟩ := T.F_ring_from; exact cal_zero F m b rfl
      c_ranks := by obtain ⟨f, fd, F, m, b⟩ := T.F_ranks; exact cal_zero F m b rfl
      c_l_cell_at := by obtain ⟨f, fd, F, m, b⟩ := T.F_l_cell_at; exact cal_zero F m b rfl
      c_l_names := by obtain ⟨f, fd, F, m, b⟩ := T.F_l_names; exact cal_zero F m b rfl
      cn_l_list := by obtain ⟨f, fd, F, m, b⟩ := T.F_l_list; exact cal_zeroN F m b rfl
      c_l_rules := by obtain ⟨f, fd, F, m, b⟩ := T.F_l_rules; exact cal_zero F m b rfl
      cn_l_copied := by obtain ⟨f, fd, F, m, b⟩ := T.F_l_copied; exact cal_zeroV F m b rfl
      c_l_ranked := by obtain ⟨f, fd, F, m, b⟩ := T.F_l_ranked; exact cal_zero F m b rfl
      c_l_rings := by obtain ⟨f, fd, F, m, b⟩ := T.F_l_rings; exact cal_zero F m b rfl
    }
  | k + 1 => by
    have ih := calls T k
    exact {
      c_kinds_of := by obtain ⟨f, fd, F, m, b⟩ := T.F_kinds_of; exact cal_data F m b sc_kinds_of rfl (by decide) fun cdv A outer s H E hr => b_kinds_of (S := sem k) hr (m_list := T.m_list)
      c_next_rank := by obtain ⟨f, fd, F, m, b⟩ := T.F_next_rank; exact cal_data F m b sc_next_rank rfl (by decide) fun cdv A outer s H E hr => b_next_rank (S := sem k) hr (m_max := T.m_max)
      c_ring_from := by obtain ⟨f, fd, F, m, b⟩ := T.F_ring_from; exact cal_data F m b sc_ring_from rfl (by decide) fun cdv A outer s H E hr => b_ring_from (S := sem k) hr 
      c_ranks := by obtain ⟨f, fd, F, m, b⟩ := T.F_ranks; exact cal_data F m b sc_ranks rfl (by decide) fun cdv A outer s H E hr => b_ranks (S := sem k) hr (c_kinds_of := ih.c_kinds_of) (c_next_rank := ih.c_next_rank) (c_ring_from := ih.c_ring_from) (m_len := T.m_len) (m_range := T.m_range)
      c_l_cell_at := by obtain ⟨f, fd, F, m, b⟩ := T.F_l_cell_at; exact cal_data F m b sc_l_cell_at rfl (by decide) fun cdv A outer s H E hr => b_l_cell_at (S := sem k) hr (m_len := T.m_len)
      c_l_names := by obtain ⟨f, fd, F, m, b⟩ := T.F_l_names; exact cal_data F m b sc_l_names rfl (by decide) fun cdv A outer s H E hr => b_l_names (S := sem k) hr (m_range := T.m_range)
      cn_l_list := by obtain ⟨f, fd, F, m, b⟩ := T.F_l_list; exact cal_dataN F m b sc_l_list rfl (by decide) fun cdv A outer s H E hr => b_l_list (S := sem k) hr (m_len := T.m_len) (m_range := T.m_range)
      c_l_rules := by obtain ⟨f, fd, F, m, b⟩ := T.F_l_rules; exact cal_data F m b sc_l_rules rfl (by decide) fun cdv A outer s H E hr => b_l_rules (S := sem k) hr (c_l_cell_at := ih.c_l_cell_at) (cn_l_list := ih.cn_l_list) (m_len := T.m_len) (m_range := T.m_range)
      cn_l_copied := by obtain ⟨f, fd, F, m, b⟩ := T.F_l_copied; exact cal_dataV F m b sc_l_copied rfl (by decide) fun cdv A outer s H E hr => b_l_copied (S := sem k) hr (m_list := T.m_list)
      c_l_ranked := by obtain ⟨f, fd, F, m, b⟩ := T.F_l_ranked; exact cal_data F m b sc_l_ranked rfl (by decide) fun cdv A outer s H E hr => b_l_ranked (S := sem k) hr (m_bool := T.m_bool) (m_dict := T.m_dict) (m_int := T.m_int) (m_isinstance := T.m_isinstance) (m_len := T.m_len) (m_list := T.m_list) (m_max := T.m_max)
      c_l_rings := by obtain ⟨f, fd, F, m, b⟩ := T.F_l_rings; exact cal_data F m b sc_l_rings rfl (by decide) fun cdv A outer s H E hr => b_l_rings (S := sem k) hr (m_isinstance := T.m_isinstance) (m_len := T.m_len) (m_list := T.m_list) (m_range := T.m_range) (m_set := T.m_set)
    }
theorem law_ok {f : Addr} {fd : FuncData} (T : Whole K mg) (F : Fun K "law" "law" s_law f fd) (hl : ∀ ns : List Int, ns.length ≤ 63 → sem 101 11 [.list (ns.map .int)] = .ok (.bool true)) :
    FnOk P w K mg base (L2.CX P w) 101 f fd ["_law_script"] (spLaw K) := by
  have ih : Calls P w K mg base 100 (sem 100) := calls T 100
  exact (fn_data F sc_law rfl (by decide) fun cdv A outer s H E hr => b_law hr (c_l_cell_at := ih.c_l_cell_at) (cn_l_copied := ih.cn_l_copied) (c_l_names := ih.c_l_names) (c_l_ranked := ih.c_l_ranked) (c_l_rings := ih.c_l_rings) (c_l_rules := ih.c_l_rules) (c_ranks := ih.c_ranks) (m_isinstance := T.m_isinstance) (m_len := T.m_len) (m_tuple := T.m_tuple)).imp (law_imp hl)
end
section
variable {l : PySem.W.OpenLaw} {w : World} {K : PySem.W.Frag} {h : Heap} {mg : Str → Option Value}
theorem all_mk (X : K.In h) (G : h.Ns mainGlobals mg) {fa : Addr} (hfa : mg "law" = some (.ref fa))
    {f0 : Addr} {od0 an0 : Option Addr} {sl0 : Array (Option Value)} {oc0 kV0 dc0 pm0 cd0 ct0 : Value}
    (a0 : PySem.W.nsIn K mainGlobals "kinds_of" = some (some (.ref f0))) (l0 : K.lookup f0 = some ⟨oc0, od0, .func (PySem.W.fnOf "kinds_of" "kinds_of" (defArgs s_kinds_of) (defBody s_kinds_of) (defScope s_kinds_of) .none kV0 dc0 pm0 an0 cd0 ct0), sl0⟩) (c0 : PySem.W.codeIn K cd0 "kinds_of" = true) (k0 : PySem.W.keepIn K (.ref f0) = true)
    {f1 : Addr} {od1 an1 : Option Addr} {sl1 : Array (Option Value)} {oc1 kV1 dc1 pm1 cd1 ct1 : Value}
    (a1 : PySem.W.nsIn K mainGlobals "next_rank" = some (some (.ref f1))) (l1 : K.lookup f1 = some ⟨oc1, od1, .func (PySem.W.fnOf "next_rank" "next_rank" (defArgs s_next_rank) (defBody s_next_rank) (defScope s_next_rank) .none kV1 dc1 pm1 an1 cd1 ct1), sl1⟩) (c1 : PySem.W.codeIn K cd1 "next_rank" = true) (k1 : PySem.W.keepIn K (.ref f1) = true)
    {f2 : Addr} {od2 an2 : Option Addr} {sl2 : Array (Option Value)} {oc2 kV2 dc2 pm2 cd2 ct2 : Value}
    (a2 : PySem.W.nsIn K mainGlobals "ring_from" = some (some (.ref f2))) (l2 : K.lookup f2 = some ⟨oc2, od2, .func (PySem.W.fnOf "ring_from" "ring_from" (defArgs s_ring_from) (defBody s_ring_from) (defScope s_ring_from) .none kV2 dc2 pm2 an2 cd2 ct2), sl2⟩) (c2 : PySem.W.codeIn K cd2 "ring_from" = true) (k2 : PySem.W.keepIn K (.ref f2) = true)
    {f3 : Addr} {od3 an3 : Option Addr} {sl3 : Array (Option Value)} {oc3 kV3 dc3 pm3 cd3 ct3 : Value}
    (a3 : PySem.W.nsIn K mainGlobals "ranks" = some (some (.ref f3))) (l3 : K.lookup f3 = some ⟨oc3, od3, .func (PySem.W.fnOf "ranks" "ranks" (defArgs s_ranks) (defBody s_ranks) (defScope s_ranks) .none kV3 dc3 pm3 an3 cd3 ct3), sl3⟩) (c3 : PySem.W.codeIn K cd3 "ranks" = true) (k3 : PySem.W.keepIn K (.ref f3) = true)
    {f4 : Addr} {od4 an4 : Option Addr} {sl4 : Array (Option Value)} {oc4 kV4 dc4 pm4 cd4 ct4 : Value}
    (a4 : PySem.W.nsIn K mainGlobals "_law_cell_at" = some (some (.ref f4))) (l4 : K.lookup f4 = some ⟨oc4, od4, .func (PySem.W.fnOf "_law_cell_at" "_law_cell_at" (defArgs s_l_cell_at) (defBody s_l_cell_at) (defScope s_l_cell_at) .none kV4 dc4 pm4 an4 cd4 ct4), sl4⟩) (c4 : PySem.W.codeIn K cd4 "_law_cell_at" = true) (k4 : PySem.W.keepIn K (.ref f4) = true)
    {f5 : Addr} {od5 an5 : Option Addr} {sl5 : Array (Option Value)} {oc5 kV5 dc5 pm5 cd5 ct5 : Value}
    (a5 : PySem.W.nsIn K mainGlobals "_law_names" = some (some (.ref f5))) (l5 : K.lookup f5 = some ⟨oc5, od5, .func (PySem.W.fnOf "_law_names" "_law_names" (defArgs s_l_names) (defBody s_l_names) (defScope s_l_names) .none kV5 dc5 pm5 an5 cd5 ct5), sl5⟩) (c5 : PySem.W.codeIn K cd5 "_law_names" = true) (k5 : PySem.W.keepIn K (.ref f5) = true)
    {f6 : Addr} {od6 an6 : Option Addr} {sl6 : Array (Option Value)} {oc6 kV6 dc6 pm6 cd6 ct6 : Value}
    (a6 : PySem.W.nsIn K mainGlobals "_law_list" = some (some (.ref f6))) (l6 : K.lookup f6 = some ⟨oc6, od6, .func (PySem.W.fnOf "_law_list" "_law_list" (defArgs s_l_list) (defBody s_l_list) (defScope s_l_list) .none kV6 dc6 pm6 an6 cd6 ct6), sl6⟩) (c6 : PySem.W.codeIn K cd6 "_law_list" = true) (k6 : PySem.W.keepIn K (.ref f6) = true)
    {f7 : Addr} {od7 an7 : Option Addr} {sl7 : Array (Option Value)} {oc7 kV7 dc7 pm7 cd7 ct7 : Value}
    (a7 : PySem.W.nsIn K mainGlobals "_law_rules" = some (some (.ref f7))) (l7 : K.lookup f7 = some ⟨oc7, od7, .func (PySem.W.fnOf "_law_rules" "_law_rules" (defArgs s_l_rules) (defBody s_l_rules) (defScope s_l_rules) .none kV7 dc7 pm7 an7 cd7 ct7), sl7⟩) (c7 : PySem.W.codeIn K cd7 "_law_rules" = true) (k7 : PySem.W.keepIn K (.ref f7) = true)
    {f8 : Addr} {od8 an8 : Option Addr} {sl8 : Array (Option Value)} {oc8 kV8 dc8 pm8 cd8 ct8 : Value}
    (a8 : PySem.W.nsIn K mainGlobals "_law_copied" = some (some (.ref f8))) (l8 : K.lookup f8 = some ⟨oc8, od8, .func (PySem.W.fnOf "_law_copied" "_law_copied" (defArgs s_l_copied) (defBody s_l_copied) (defScope s_l_copied) .none kV8 dc8 pm8 an8 cd8 ct8), sl8⟩) (c8 : PySem.W.codeIn K cd8 "_law_copied" = true) (k8 : PySem.W.keepIn K (.ref f8) = true)
    {f9 : Addr} {od9 an9 : Option Addr} {sl9 : Array (Option Value)} {oc9 kV9 dc9 pm9 cd9 ct9 : Value}
    (a9 : PySem.W.nsIn K mainGlobals "_law_ranked" = some (some (.ref f9))) (l9 : K.lookup f9 = some ⟨oc9, od9, .func (PySem.W.fnOf "_law_ranked" "_law_ranked" (defArgs s_l_ranked) (defBody s_l_ranked) (defScope s_l_ranked) .none kV9 dc9 pm9 an9 cd9 ct9), sl9⟩) (c9 : PySem.W.codeIn K cd9 "_law_ranked" = true) (k9 : PySem.W.keepIn K (.ref f9) = true)
    {f10 : Addr} {od10 an10 : Option Addr} {sl10 : Array (Option Value)} {oc10 kV10 dc10 pm10 cd10 ct10 : Value}
    (a10 : PySem.W.nsIn K mainGlobals "_law_rings" = some (some (.ref f10))) (l10 : K.lookup f10 = some ⟨oc10, od10, .func (PySem.W.fnOf "_law_rings" "_law_rings" (defArgs s_l_rings) (defBody s_l_rings) (defScope s_l_rings) .none kV10 dc10 pm10 an10 cd10 ct10), sl10⟩) (c10 : PySem.W.codeIn K cd10 "_law_rings" = true) (k10 : PySem.W.keepIn K (.ref f10) = true)
    {f11 : Addr} {od11 an11 : Option Addr} {sl11 : Array (Option Value)} {oc11 kV11 dc11 pm11 cd11 ct11 : Value}
    (a11 : PySem.W.nsIn K mainGlobals "law" = some (some (.ref f11))) (l11 : K.lookup f11 = some ⟨oc11, od11, .func (PySem.W.fnOf "law" "law" (defArgs s_law) (defBody s_law) (defScope s_law) .none kV11 dc11 pm11 an11 cd11 ct11), sl11⟩) (c11 : PySem.W.codeIn K cd11 "law" = true) (k11 : PySem.W.keepIn K (.ref f11) = true)
    (z_bool : PySem.W.nsIn K mainGlobals "bool" = some none)
    (z_dict : PySem.W.nsIn K mainGlobals "dict" = some none)
    (z_int : PySem.W.nsIn K mainGlobals "int" = some none)
    (z_isinstance : PySem.W.nsIn K mainGlobals "isinstance" = some none)
    (z_len : PySem.W.nsIn K mainGlobals "len" = some none)
    (z_list : PySem.W.nsIn K mainGlobals "list" = some none)
    (z_max : PySem.W.nsIn K mainGlobals "max" = some none)
    (z_range : PySem.W.nsIn K mainGlobals "range" = some none)
    (z_set : PySem.W.nsIn K mainGlobals "set" = some none)
    (z_tuple : PySem.W.nsIn K mainGlobals "tuple" = some none)
    (hl : ∀ ns : List Int, ns.length ≤ 63 → sem 101 11 [.list (ns.map .int)] = .ok (.bool true)) :
    ∃ fd : FuncData, (∀ (s : Shared) (v : Value), BindsTo s fd ⟨[v], []⟩ [("_law_script", v)]) ∧ ∀ base : Heap, K.In base → base.Ns mainGlobals mg → FnOk l.prog w K mg base (L2.CX l.prog w) 101 fa fd ["_law_script"] (spLaw K) := by
  have e := hfa.symm.trans (PySem.W.mg_of X G a11)
  cases e
  have T : Whole K mg := {
    F_kinds_of := ⟨f0, _, fun_mk (st := s_kinds_of) l0 c0 k0, PySem.W.mg_of X G a0, (fun_mk (st := s_kinds_of) l0 c0 k0).binds fun _ _ _ _ _ _ us hl => match us, hl with | [_], _ => rfl⟩
    F_next_rank := ⟨f1, _, fun_mk (st := s_next_rank) l1 c1 k1, PySem.W.mg_of X G a1, (fun_mk (st := s_next_rank) l1 c1 k1).binds fun _ _ _ _ _ _ us hl => match us, hl with | [_, _], _ => rfl⟩
    F_ring_from := ⟨f2, _, fun_mk (st := s_ring_from) l2 c2 k2, PySem.W.mg_of X G a2, (fun_mk (st := s_ring_from) l2 c2 k2).binds fun _ _ _ _ _ _ us hl => match us, hl with | [_, _, _], _ => rfl⟩
    F_ranks := ⟨f3, _, fun_mk (st := s_ranks) l3 c3 k3, PySem.W.mg_of X G a3, (fun_mk (st := s_ranks) l3 c3 k3).binds fun _ _ _ _ _ _ us hl => match us, hl with | [_], _ => rfl⟩
    F_l_cell_at := ⟨f4, _, fun_mk (st := s_l_cell_at) l4 c4 k4, PySem.W.mg_of X G a4, (fun_mk (st := s_l_cell_at) l4 c4 k4).binds fun _ _ _ _ _ _ us hl => match us, hl with | [_, _], _ => rfl⟩
    F_l_names := ⟨f5, _, fun_mk (st := s_l_names) l5 c5 k5, PySem.W.mg_of X G a5, (fun_mk (st := s_l_names) l5 c5 k5).binds fun _ _ _ _ _ _ us hl => match us, hl with | [_, _], _ => rfl⟩
    F_l_list := ⟨f6, _, fun_mk (st := s_l_list) l6 c6 k6, PySem.W.mg_of X G a6, (fun_mk (st := s_l_list) l6 c6 k6).binds fun _ _ _ _ _ _ us hl => match us, hl with | [_, _, _, _, _], _ => rfl⟩
    F_l_rules := ⟨f7, _, fun_mk (st := s_l_rules) l7 c7 k7, PySem.W.mg_of X G a7, (fun_mk (st := s_l_rules) l7 c7 k7).binds fun _ _ _ _ _ _ us hl => match us, hl with | [_, _], _ => rfl⟩
    F_l_copied := ⟨f8, _, fun_mk (st := s_l_copied) l8 c8 k8, PySem.W.mg_of X G a8, (fun_mk (st := s_l_copied) l8 c8 k8).binds fun _ _ _ _ _ _ us hl => match us, hl with | [_], _ => rfl⟩
    F_l_ranked := ⟨f9, _, fun_mk (st := s_l_ranked) l9 c9 k9, PySem.W.mg_of X G a9, (fun_mk (st := s_l_ranked) l9 c9 k9).binds fun _ _ _ _ _ _ us hl => match us, hl with | [_, _], _ => rfl⟩
    F_l_rings := ⟨f10, _, fun_mk (st := s_l_rings) l10 c10 k10, PySem.W.mg_of X G a10, (fun_mk (st := s_l_rings) l10 c10 k10).binds fun _ _ _ _ _ _ us hl => match us, hl with | [_, _], _ => rfl⟩
    m_bool := PySem.W.mg_none_of X G z_bool
    m_dict := PySem.W.mg_none_of X G z_dict
    m_int := PySem.W.mg_none_of X G z_int
    m_isinstance := PySem.W.mg_none_of X G z_isinstance
    m_len := PySem.W.mg_none_of X G z_len
    m_list := PySem.W.mg_none_of X G z_list
    m_max := PySem.W.mg_none_of X G z_max
    m_range := PySem.W.mg_none_of X G z_range
    m_set := PySem.W.mg_none_of X G z_set
    m_tuple := PySem.W.mg_none_of X G z_tuple
  }
  exact ⟨_, fun s v => .of_eq rfl, fun base _ _ => law_ok T (fun_mk (st := s_law) l11 c11 k11) hl⟩
end
end Lk67
set_option Elab.async false
set_option linter.all false
set_option maxRecDepth 100000
set_option maxHeartbeats 4000000
namespace Lk67
open PySem PySem.Spec L2 Pu Nm Rk
theorem cell_step {S : Nat → Fn} (ns : List Int) (k : Nat) : ∃ c : Int, fnD 2 (g_l_cell_at S) [.list (ns.map .int), .int (k : Nat)] = .ok (.int c) := by
  by_cases h : k < ns.length
  · refine ⟨ns[k], fnD_of ?_⟩
    have ix : atI (ns.map PyData.int) (k : Int) = some (.int ns[k]) := L2.atI_nat (by rw [List.getElem?_map, List.getElem?_eq_getElem h]; rfl)
    unfold g_l_cell_at
    simp [h, ix]
  · refine ⟨0, fnD_of ?_⟩
    unfold g_l_cell_at
    simp [h]
structure SO (x : Str) (L : Nat) : Prop where
  len : x.length ≤ L
  ok : ∀ a ∈ x.cps.toList, a < 1114112
theorem SO.app {x y : Str} {L M : Nat} (h : SO x L) (k : SO y M) : SO (x ++ y) (L + M) := ⟨by
    have := TL.len_tl (x ++ y)
    rw [this, TL.tl_append, List.length_append, ← TL.len_tl, ← TL.len_tl]
    have := h.len; have := k.len; omega, fun a ha => by
    have e : (x ++ y).cps.toList = x.cps.toList ++ y.cps.toList := TL.tl_append x y
    rw [e] at ha
    rcases List.mem_append.mp ha with z | z
    · exact h.ok a z
    · exact k.ok a z⟩
theorem SO.so {x : Str} {L : Nat} (h : SO x L) : PyData.strOk x = true := by
  unfold PyData.strOk
  rw [Array.all_eq_true']
  intro a ha
  have := h.ok a (by simpa using ha)
  exact decide_eq_true this
theorem gAdd_x {x y : Str} {L M : Nat} (h : SO x L) (k : SO y M) (hz : L + M ≤ 10000) : gAdd (.str x) (.str y) = some (.str (x ++ y)) := by
  unfold gAdd
  dsimp only
  rw [if_pos (sz1000 (by have := h.len; have := k.len; omega))]
abbrev ltrs : Str := "abcdefghijklmnopqrstuvwxyz"
theorem ltr {i : Int} (h0 : 0 ≤ i) (h1 : i < 26) : ∃ y : Str, SO y 1 ∧ gIx (.str ltrs) (.int i) = some (.str y) := by
  have o : ∀ a ∈ ltrs.cps.toList, a < 1114112 := by decide +kernel
  have ln : ltrs.length = 26 := by decide +kernel
  obtain ⟨a, ha, e⟩ := Tx.gIx_any (x := ltrs) (by omega) o h0 (by omega)
  exact ⟨⟨#[a]⟩, ⟨by simp [Str.length], fun b hb => by
    have : b = a := by simpa using hb
    omega⟩, e⟩
def NamesOk (F : Fn) : Prop := ∀ (c : Int) (n : Nat), 1 ≤ n → n ≤ 7 → ∃ names : List Str, F [.int c, .int (n : Nat)] = .ok (tx names) ∧ names.length = n ∧ ∀ w ∈ names, PyData.strOk w = true
theorem l_names_step (S : Nat → Fn) : NamesOk (fun ds => fnD 10 (g_l_names S) ds) := by
  intro c n n1 n7
  obtain ⟨z, hz⟩ : ∃ z, 1 + c % 6 = z := ⟨_, rfl⟩
  obtain ⟨w, hw⟩ : ∃ w, c / 6 % z = w := ⟨_, rfl⟩
  have z1 : 1 ≤ z ∧ z ≤ 6 := by omega
  have m6 : cMod c 6 = true := cMod_of (by decide)
  have d6 : cDiv c 6 = true := cDiv_of 6 (by decide) (by decide) (by decide) (by decide)
  have d36 : cDiv c 36 = true := cDiv_of 6 (by decide) (by decide) (by decide) (by decide)
  have mz : cMod (c / 6) z = true := cMod_of (by omega)
  have m26 : ∀ i : Int, cMod i 26 = true := fun i => cMod_of (by decide)
  obtain ⟨ρ', r, names, x6, x7, x8, x9, rfl, nl, nok⟩ := forL_rng (n := n) (i := 6) (g := gb_l_names_2 S) (fun j ρ => ∃ (names : List Str) (x6 x7 x8 x9 : Option PyData), ρ = [some (.int c), some (.int (n : Nat)), some (.str ltrs), some (.int z), some (.int w), some (tx names), x6, x7, x8, x9] ∧ names.length = j ∧ ∀ w ∈ names, PyData.strOk w = true)
    [some (.int c), some (.int (n : Nat)), some (.str ltrs), some (.int z), some (.int w), some (tx []), none, none, none, none] ⟨[], _, _, _, _, rfl, rfl, fun w h => by cases h⟩ fun k ρ hk hi => by
      obtain ⟨names, x6, x7, x8, x9, rfl, nl, nok⟩ := hi
      obtain ⟨zn, ez⟩ := Int.eq_ofNat_of_zero_le (show 0 ≤ z by omega)
      obtain ⟨ρ2, r2, y, y8, y9, rfl, so⟩ := forL_rng (n := zn) (i := 8) (g := gb_l_names_1 S) (fun j ρ => ∃ (y : Str) (y8 y9 : Option PyData), ρ = [some (.int c), some (.int (n : Nat)), some (.str ltrs), some (.int z), some (.int w), some (tx names), some (.int (k : Nat)), some (.str y), y8, y9] ∧ SO y j)
        [some (.int c), some (.int (n : Nat)), some (.str ltrs), some (.int z), some (.int w), some (tx names), some (.int (k : Nat)), some (.str ""), x8, x9] ⟨"", _, _, rfl, ⟨by decide +kernel, by decide +kernel⟩⟩ fun j ρ hj hi => by
          obtain ⟨y, y8, y9, rfl, so⟩ := hi
          have hjj : (j : Int) < 6 := by omega
          have q1 : cMul (j : Int) (j : Int) = true := cMul_of 10 10 (by omega) (by omega) (by decide) (by decide) (by decide)
          have bj : ((j : Int) * (j : Int)).natAbs < 2 ^ 10 := by
            have : j ≤ 5 := by omega
            have h2 : j * j ≤ 5 * 5 := Nat.mul_le_mul this this
            have : (j : Int) * (j : Int) = ((j * j : Nat) : Int) := by simp
            rw [this]; omega
          have q2 : cMul ((j : Int) * (j : Int)) (j : Int) = true := cMul_of 10 10 bj (by omega) (by decide) (by decide) (by decide)
          have q3 : cMul 3 (k : Int) = true := cMul_of 10 10 (by decide) (by omega) (by decide) (by decide) (by decide)
          by_cases hjw : (j : Int) = w
          · subst hjw
            obtain ⟨t, ht⟩ : ∃ t, c / 36 + (j : Int) * (j : Int) * (j : Int) + 3 * (k : Int) = t := ⟨_, rfl⟩
            obtain ⟨u, su, eu⟩ := ltr (i := t % 26) (by omega) (by omega)
            have ga := gAdd_x so su (by omega)
            refine ⟨_, Or.inl ?_, y ++ u, some (.int (j : Nat)), some (.int t), rfl, so.app su⟩
            unfold tx at *
            generalize names.map PyData.str = NL at *
            generalize ltrs = LT at *
            simp [d36, q1, q2, q3, m26, ht, eu, ga]
          · obtain ⟨t, ht⟩ : ∃ t, c / 36 + (j : Int) * (j : Int) * (j : Int) = t := ⟨_, rfl⟩
            obtain ⟨u, su, eu⟩ := ltr (i := t % 26) (by omega) (by omega)
            have ga := gAdd_x so su (by omega)
            refine ⟨_, Or.inl ?_, y ++ u, some (.int (j : Nat)), some (.int t), rfl, so.app su⟩
            unfold tx at *
            generalize names.map PyData.str = NL at *
            generalize ltrs = LT at *
            simp [d36, q1, q2, hjw, q3, m26, ht, eu, ga]
      have ki : okI z = true := okI_small (by omega) (by omega)
      have ll : (names.map PyData.str).length < sizeLine := sz1000' (by rw [List.length_map]; omega)
      have ma : (names ++ [y]).map PyData.str = names.map PyData.str ++ [.str y] := List.map_append ..
      have tz : z.toNat = zn := by omega
      refine ⟨_, Or.inl ?_, names ++ [y], some (.int (k : Nat)), some (.str y), y8, y9, rfl, by rw [List.length_append, nl]; rfl, fun v hv => (List.mem_append.mp hv).elim (nok v) fun e => by rw [List.mem_singleton.mp e]; exact so.so⟩
      unfold tx at *
      rw [ma]
      generalize names.map PyData.str = NL at *
      generalize ltrs = LT at *
      simp [ki, tz, r2, ll]
  refine ⟨names, fnD_of ?_, nl, nok⟩
  have kn : okI (n : Int) = true := okI_small (by omega) (by omega)
  have l0 : (0 : Nat) ≤ sizeLine := Nat.zero_le _
  unfold tx at *
  unfold g_l_names
  rw [List.map_nil] at r
  generalize names.map PyData.str = NL at *
  generalize gb_l_names_2 S = G at *
  simp [m6, hz, d6, mz, hw, kn, r, l0]
end Lk67
set_option Elab.async false
set_option linter.all false
set_option maxRecDepth 100000
set_option maxHeartbeats 4000000
namespace Lk67
open PySem PySem.Spec L2 Pu Nm Rk
theorem at_tx {l : List Str} {i : Int} (h0 : 0 ≤ i) (h1 : i < l.length) : ∃ w ∈ l, atI (l.map PyData.str) i = some (.str w) := by
  obtain ⟨j, rfl⟩ := Int.eq_ofNat_of_zero_le h0
  have hj : j < l.length := by omega
  exact ⟨l[j], List.getElem_mem hj, L2.atI_nat (by rw [List.getElem?_map, List.getElem?_eq_getElem hj]; rfl)⟩
def ListOk (F : Fn) : Prop := ∀ (c st : Int) (k : Nat) (names : List Str) (b : Bool), 1 ≤ names.length → names.length ≤ 7 → ∃ l : List Str, F [.int c, .int (k : Nat), tx names, .int st, .bool b] = .ok (tx l) ∧ (∀ w ∈ l, w ∈ names) ∧ l.length ≤ 8
theorem l_list_step (S : Nat → Fn) : ListOk (fun ds => fnD 9 (g_l_list S) ds) := by
  intro c st k names b n1 n7
  have mn : ∀ i : Int, cMod i (names.length : Int) = true := fun i => cMod_of (by omega)
  have m2 : ∀ i : Int, cMod i 2 = true := fun i => cMod_of (by decide)
  have d2 : ∀ i : Int, cDiv i 2 = true := fun i => cDiv_of 3 (by decide) (by decide) (by decide) (by decide)
  obtain ⟨ρ', r, c', l, x7, x8, rfl, lm, ll⟩ := forL_rng (n := names.length) (i := 7) (g := gb_l_list_1 S) (fun j ρ => ∃ (c' : Int) (l : List Str) (x7 x8 : Option PyData), ρ = [some (.int c'), some (.int (k : Nat)), some (tx names), some (.int st), some (.bool b), some (.int (names.length : Nat)), some (tx l), x7, x8] ∧ (∀ w ∈ l, w ∈ names) ∧ l.length ≤ j)
    [some (.int c), some (.int (k : Nat)), some (tx names), some (.int st), some (.bool b), some (.int (names.length : Nat)), some (tx []), none, none] ⟨c, [], _, _, rfl, (fun w h => by cases h), Nat.le_refl _⟩ fun j ρ hj hi => by
      obtain ⟨c', l, x7, x8, rfl, lm, ll⟩ := hi
      obtain ⟨B, hB⟩ : ∃ B : Bool, gGt (.int (((j : Int) - st) % (names.length : Int))) (.int (((k : Int) - st) % (names.length : Int))) = some (.bool B) := ⟨_, rfl⟩
      obtain ⟨w, hw, ew⟩ := at_tx (l := names) (i := (j : Int)) (by omega) (by omega)
      have ls : (l.map PyData.str).length < sizeLine := sz1000' (by rw [List.length_map]; omega)
      have ma : (l ++ [w]).map PyData.str = l.map PyData.str ++ [.str w] := List.map_append ..
      have go : ∀ T : Bool, T = (decide (c' % 2 = 1) && (B || !b)) → gb_l_list_1 S [some (.int c'), some (.int (k : Nat)), some (tx names), some (.int st), some (.bool b), some (.int (names.length : Nat)), some (tx l), some (.int (j : Nat)), x8] =
          .nx [some (.int (c' / 2)), some (.int (k : Nat)), some (tx names), some (.int st), some (.bool b), some (.int (names.length : Nat)), some (tx (if T = true then l ++ [w] else l)), some (.int (j : Nat)), some (.bool B)] := by
        intro T hT
        by_cases h2 : c' % 2 = 1
        · cases B <;> cases b <;> (subst hT; unfold tx at *; rw [decide_eq_true h2]; simp only [Bool.true_and, Bool.or_true, Bool.or_false, Bool.not_true, Bool.not_false, Bool.false_or, Bool.true_or, if_true, Bool.false_eq_true, if_false, ma]; generalize l.map PyData.str = LL at *; generalize hN : names.map PyData.str = NL at *; generalize names.length = L at *; simp [mn, m2, d2, hB, ew, ls, h2])
        · subst hT
          rw [decide_eq_false h2, Bool.false_and, if_neg (by decide)]
          unfold tx at *
          generalize l.map PyData.str = LL at *
          generalize hN : names.map PyData.str = NL at *
          generalize names.length = L at *
          simp [mn, m2, d2, hB, h2]
      refine ⟨_, Or.inl (go _ rfl), _, _, _, _, rfl, ?_, ?_⟩
      · intro v hv
        split at hv
        · rcases List.mem_append.mp hv with z | z
          · exact lm v z
          · rw [List.mem_singleton.mp z]; exact hw
        · exact lm v hv
      · split
        · rw [List.length_append, List.length_singleton]; omega
        · omega
  have kI : okI (names.length : Int) = true := okI_small (by omega) (by omega)
  have l0 : (0 : Nat) ≤ sizeLine := Nat.zero_le _
  have m3 : ∀ i : Int, cMod i 3 = true := fun i => cMod_of (by decide)
  have d3 : ∀ i : Int, cDiv i 3 = true := fun i => cDiv_of 3 (by decide) (by decide) (by decide) (by decide)
  have d9 : ∀ i : Int, cDiv i 9 = true := fun i => cDiv_of 4 (by decide) (by decide) (by decide) (by decide)
  -- one twice
  obtain ⟨l2, e2, lm2, ll2⟩ : ∃ l2 : List Str, sIf (tAndR (tOf (eOp gEq (eOp gMod (eVar 0) (eC (.int 3))) (eC (.int 1)))) (tOf (eOp gGt (eCall gLen (aCons (eVar 6) aNil)) (eC (.int 0))))) (sApp 6 (eOp gIx (eVar 6) (eOp gMod (eOp gDiv (eVar 0) (eC (.int 3))) (eCall gLen (aCons (eVar 6) aNil))))) sNil
      [some (.int c'), some (.int (k : Nat)), some (tx names), some (.int st), some (.bool b), some (.int (names.length : Nat)), some (tx l), x7, x8] = .nx [some (.int c'), some (.int (k : Nat)), some (tx names), some (.int st), some (.bool b), some (.int (names.length : Nat)), some (tx l2), x7, x8] ∧ (∀ w ∈ l2, w ∈ names) ∧ l2.length ≤ 8 := by
    by_cases h : c' % 3 = 1
    · by_cases hl : 0 < l.length
      · obtain ⟨w, hw, ew⟩ := at_tx (l := l) (i := c' / 3 % (l.length : Int)) (Int.emod_nonneg _ (by omega)) (Int.emod_lt_of_pos _ (by omega))
        have ml : ∀ i : Int, cMod i (l.length : Int) = true := fun i => cMod_of (by omega)
        have ls : (l.map PyData.str).length < sizeLine := sz1000' (by rw [List.length_map]; omega)
        have hl' : (0 : Int) < (l.length : Int) := by omega
        have ma : (l ++ [w]).map PyData.str = l.map PyData.str ++ [.str w] := List.map_append ..
        have eL : (l.map PyData.str).length = l.length := List.length_map ..
        refine ⟨l ++ [w], ?_, fun v hv => (List.mem_append.mp hv).elim (lm v) fun z => by rw [List.mem_singleton.mp z]; exact lm w hw, by rw [List.length_append, List.length_singleton]; omega⟩
        unfold tx at *
        rw [ma]
        generalize names.map PyData.str = NL at *
        generalize l.map PyData.str = LL at *
        have ls' : l.length < sizeLine := by rw [← eL]; exact ls
        simp [m3, h, eL, hl', hl, d3, ml, ew, ls', imm]
      · have hl' : ¬ (0 : Int) < (l.length : Int) := by omega
        have eL : (l.map PyData.str).length = l.length := List.length_map ..
        refine ⟨l, ?_, lm, by omega⟩
        unfold tx at *
        generalize names.map PyData.str = NL at *
        generalize l.map PyData.str = LL at *
        have hl2 : ¬ 0 < l.length := hl
        simp [m3, h, eL, hl2]
        try omega
    · refine ⟨l, ?_, lm, by omega⟩
      unfold tx at *
      generalize names.map PyData.str = NL at *
      generalize l.map PyData.str = LL at *
      simp [m3, h]
  -- the other way round
  obtain ⟨l3, e3, lm3, ll3⟩ : ∃ l3 : List Str, sIf (tOf (eOp gEq (eOp gMod (eOp gDiv (eVar 0) (eC (.int 9))) (eC (.int 2))) (eC (.int 1)))) (sRevO 6) sNil
      [some (.int c'), some (.int (k : Nat)), some (tx names), some (.int st), some (.bool b), some (.int (names.length : Nat)), some (tx l2), x7, x8] = .nx [some (.int c'), some (.int (k : Nat)), some (tx names), some (.int st), some (.bool b), some (.int (names.length : Nat)), some (tx l3), x7, x8] ∧ (∀ w ∈ l3, w ∈ names) ∧ l3.length ≤ 8 := by
    by_cases h : c' / 9 % 2 = 1
    · refine ⟨l2.reverse, ?_, fun v hv => lm2 v (List.mem_reverse.mp hv), by rw [List.length_reverse]; exact ll2⟩
      have ma : l2.reverse.map PyData.str = (l2.map PyData.str).reverse := List.map_reverse ..
      have ls : (l2.map PyData.str).length ≤ sizeLine := sz1000 (by rw [List.length_map]; omega)
      unfold tx at *
      rw [ma]
      generalize names.map PyData.str = NL at *
      generalize l2.map PyData.str = LL at *
      simp [d9, m2, h, sRevO, ls]
    · refine ⟨l2, ?_, lm2, ll2⟩
      unfold tx at *
      generalize names.map PyData.str = NL at *
      generalize l2.map PyData.str = LL at *
      simp [d9, m2, h]
  refine ⟨l3, fnD_of ?_, lm3, ll3⟩
  have gl : gLen [tx names] = some (.int (names.length : Nat)) := by
    unfold tx gLen
    dsimp only
    rw [List.length_map]
  have tn : ((names.length : Nat) : Int).toNat = names.length := by omega
  have et : tx [] = .list [] := rfl
  rw [et] at r
  unfold g_l_list
  show sSeqN _ (sSeqN _ (sSeqN _ (sSeqN _ (sSeqN _ _)))) [some (.int c), some (.int (k : Nat)), some (tx names), some (.int st), some (.bool b), none, none, none, none] = _
  have f1 : sSetM [6] 5 (eCall gLen (aCons (eVar 2) aNil)) [some (.int c), some (.int (k : Nat)), some (tx names), some (.int st), some (.bool b), none, none, none, none] = .nx [some (.int c), some (.int (k : Nat)), some (tx names), some (.int st), some (.bool b), some (.int (names.length : Nat)), none, none, none] := by
    generalize tx names = NL at *
    simp [gl]
  have f2 : sNew [6] 6 (nLst aNil) [some (.int c), some (.int (k : Nat)), some (tx names), some (.int st), some (.bool b), some (.int (names.length : Nat)), none, none, none] = .nx [some (.int c), some (.int (k : Nat)), some (tx names), some (.int st), some (.bool b), some (.int (names.length : Nat)), some (.list []), none, none] := by
    generalize tx names = NL at *
    simp [l0]
  have f3 : sFor [6] (iRange (aCons (eVar 5) aNil)) (gtName 7) (gb_l_list_1 S) [some (.int c), some (.int (k : Nat)), some (tx names), some (.int st), some (.bool b), some (.int (names.length : Nat)), some (.list []), none, none] = .nx [some (.int c'), some (.int (k : Nat)), some (tx names), some (.int st), some (.bool b), some (.int (names.length : Nat)), some (tx l), x7, x8] := by
    rw [← r]
    generalize tx names = NL at *
    simp [kI, tn]
  simp only [u_sSeqN]
  rw [f1]
  dsimp only
  rw [f2]
  dsimp only
  rw [f3]
  dsimp only
  rw [e2]
  dsimp only
  rw [e3]
  dsimp only
  simp
end Lk67
set_option Elab.async false
set_option linter.all false
set_option maxRecDepth 100000
set_option maxHeartbeats 4000000
namespace Lk67
open PySem PySem.Spec L2 Pu Nm Rk
structure RP (names : List Str) (m : Nat) (rs : Rs) : Prop where
  nd : (rs.map (·.1)).Nodup
  mem : ∀ p ∈ rs, p.1 ∈ names ∧ (∀ w ∈ p.2, w ∈ names) ∧ p.2.length ≤ m
theorem pt_mem {α : Type} {ps : KD α} {w : Str} {a : α} {p : Str × α} (h : p ∈ pt ps w a) : p ∈ ps ∨ p = (w, a) := by
  unfold pt at h
  split at h
  · obtain ⟨q, hq, e⟩ := List.mem_map.mp h
    split at e
    · rename_i z; right; rw [← e, z]
    · left; exact e ▸ hq
  · rcases List.mem_append.mp h with z | z
    · exact .inl z
    · exact .inr (List.mem_singleton.mp z)
theorem pt_nodup {α : Type} {ps : KD α} {w : Str} {a : α} (h : (ps.map (·.1)).Nodup) : ((pt ps w a).map (·.1)).Nodup := by
  rw [pt_keys]
  split
  · exact h
  · rename_i c
    exact List.nodup_append.mpr ⟨h, by simp, fun x hx b hb e => c (by rw [List.mem_singleton.mp hb] at e; exact e ▸ hx)⟩
theorem RP.up {names : List Str} {m n : Nat} {rs : Rs} (h : RP names m rs) (hm : m ≤ n) : RP names n rs := ⟨h.nd, fun p hp => ⟨(h.mem p hp).1, (h.mem p hp).2.1, Nat.le_trans (h.mem p hp).2.2 hm⟩⟩
theorem RP.put {names : List Str} {m : Nat} {rs : Rs} (h : RP names m rs) {w : Str} {l : List Str} (hw : w ∈ names) (hl : ∀ v ∈ l, v ∈ names) (h9 : l.length ≤ m) : RP names m (pt rs w l) := ⟨pt_nodup h.nd, fun p hp => by
  rcases pt_mem hp with z | rfl
  · exact h.mem p z
  · exact ⟨hw, hl, h9⟩⟩
theorem RP.len {names : List Str} {m : Nat} {rs : Rs} (h : RP names m rs) : rs.length ≤ names.length := by
  have := sub_len h.nd (b := names) fun w hw => by
    obtain ⟨p, hp, rfl⟩ := List.mem_map.mp hw
    exact (h.mem p hp).1
  rwa [List.length_map] at this
theorem uni_len : ∀ {rs : Rs}, (∀ p ∈ rs, p.2.length ≤ 9) → (uni rs).length ≤ 10 * rs.length
  | [], _ => Nat.le_refl _
  | p :: rs, h => by
    have h1 := h p (by simp)
    have h2 := uni_len (rs := rs) fun q hq => h q (List.mem_cons_of_mem _ hq)
    unfold uni at *
    rw [List.flatMap_cons, List.length_append, List.length_cons, List.length_cons]
    omega
theorem RP.ok {names : List Str} {rs : Rs} (h : RP names 9 rs) (hn : names.length ≤ 1000) (ho : ∀ w ∈ names, PyData.strOk w = true) : RsOk rs where
  nd := h.nd
  len := by
    have := uni_len fun p hp => (h.mem p hp).2.2
    have := h.len
    omega
  ok := fun w hw => by
    obtain ⟨p, hp, z⟩ := List.mem_flatMap.mp hw
    rcases List.mem_cons.mp z with rfl | z
    · exact ho _ (h.mem p hp).1
    · exact ho _ ((h.mem p hp).2.1 w z)
theorem gLen_tx (l : List Str) : gLen [tx l] = some (.int (l.length : Nat)) := by
  unfold tx gLen
  dsimp only
  rw [List.length_map]
def CellOk (F : Fn) : Prop := ∀ (ns : List Int) (k : Nat), ∃ c : Int, F [.list (ns.map .int), .int (k : Nat)] = .ok (.int c)
def RulesOk (F : Fn) : Prop := ∀ (ns : List Int) (names : List Str), 1 ≤ names.length → names.length ≤ 7 → ∃ rs : Rs, F [.list (ns.map .int), tx names] = .ok (rsD rs) ∧ RP names 9 rs
theorem l_rules_step {S : Nat → Fn} (h4 : CellOk (S 4)) (h6 : ListOk (S 6)) : RulesOk (fun ds => fnD 7 (g_l_rules S) ds) := by
  intro ns names n1 n7
  obtain ⟨way, hw⟩ := h4 ns 1
  have gl := gLen_tx names
  have mn : ∀ i : Int, cMod i (names.length : Int) = true := fun i => cMod_of (by omega)
  have m2 : ∀ i : Int, cMod i 2 = true := fun i => cMod_of (by decide)
  have m5 : ∀ i : Int, cMod i 5 = true := fun i => cMod_of (by decide)
  have m16 : ∀ i : Int, cMod i 16 = true := fun i => cMod_of (by decide)
  have d2 : ∀ i : Int, cDiv i 2 = true := fun i => cDiv_of 3 (by decide) (by decide) (by decide) (by decide)
  have d5 : ∀ i : Int, cDiv i 5 = true := fun i => cDiv_of 3 (by decide) (by decide) (by decide) (by decide)
  have d16 : ∀ i : Int, cDiv i 16 = true := fun i => cDiv_of 5 (by decide) (by decide) (by decide) (by decide)
  have kI : okI (names.length : Int) = true := okI_small (by omega) (by omega)
  have tn : ((names.length : Nat) : Int).toNat = names.length := by omega
  obtain ⟨B, hB⟩ : ∃ B : Bool, gEq (.int (way % 2)) (.int 0) = some (.bool B) := ⟨_, rfl⟩
  obtain ⟨ρ', r, rs, x4, x5, rfl, P⟩ := forL_rng (n := names.length) (i := 4) (g := gb_l_rules_1 S) (fun j ρ => ∃ (rs : Rs) (x4 x5 : Option PyData), ρ = [some (.list (ns.map .int)), some (tx names), some (.int way), some (rsD rs), x4, x5, none] ∧ RP names 8 rs)
    [some (.list (ns.map .int)), some (tx names), some (.int way), some (rsD []), none, none, none] ⟨[], _, _, rfl, List.nodup_nil, fun p hp => by cases hp⟩ fun k ρ hk hi => by
      obtain ⟨rs, x4, x5, rfl, P⟩ := hi
      obtain ⟨c, hc⟩ := h4 ns (2 + k)
      have hc' : S 4 [.list (ns.map .int), .int (2 + (k : Int))] = .ok (.int c) := by rw [← hc]; congr 3
      obtain ⟨w, hw2, ew⟩ := at_tx (l := names) (i := (k : Int)) (by omega) (by omega)
      obtain ⟨l, hl, lm, l8⟩ := h6 (c / 5) (way / 2 % (names.length : Int)) k names B n1 n7
      have pl := P.len
      have ll : (kv tx rs).length < sizeLine := sz1000' (by rw [len_kv]; omega)
      have pu := put_kv tx rs w l
      have ii := ins_kv tx rs
      by_cases h5 : c % 5 = 0
      · refine ⟨_, Or.inl ?_, rs, some (.int (k : Nat)), some (.int c), rfl, P⟩
        unfold tx rsD at *
        generalize hNL : names.map PyData.str = NL at *
        generalize ns.map PyData.int = IL at *
        generalize kv (fun l => PyData.list (l.map .str)) rs = RR at *
        simp [sSetD, hc', imm, m5, h5]
      · refine ⟨_, Or.inl ?_, pt rs w l, some (.int (k : Nat)), some (.int c), rfl, P.put hw2 lm (by omega)⟩
        have pu' : putD (kv tx rs) (kS w) (.list (l.map .str)) = kv tx (pt rs w l) := pu
        have hl' : S 6 [.int (c / 5), .int (k : Nat), tx names, .int (way / 2 % (names.length : Int)), .bool B] = .ok (.list (l.map .str)) := hl
        have ew' : gIx (tx names) (.int (k : Nat)) = some (.str w) := ew
        unfold rsD at *
        generalize tx names = NL at *
        generalize ns.map PyData.int = IL at *
        generalize l.map PyData.str = LL at *
        generalize kv tx (pt rs w l) = RR2 at *
        generalize kv tx rs = RR at *
        generalize names.length = L at *
        simp [sSetD, hc', imm, m5, h5, d5, gl, d2, mn, m2, hB, hl', ew', keyD_k, ll, pu']
  obtain ⟨w, hw2, ew⟩ := at_tx (l := names) (i := way / 2 % (names.length : Int)) (Int.emod_nonneg _ (by omega)) (Int.emod_lt_of_pos _ (by omega))
  obtain ⟨u, hu2, eu⟩ := at_tx (l := names) (i := way / 16 % (names.length : Int)) (Int.emod_nonneg _ (by omega)) (Int.emod_lt_of_pos _ (by omega))
  have ew' : gIx (tx names) (.int (way / 2 % (names.length : Int))) = some (.str w) := ew
  have eu' : gIx (tx names) (.int (way / 16 % (names.length : Int))) = some (.str u) := eu
  have di := din_kv tx rs w
  -- one more
  obtain ⟨rs2, e2, P2⟩ : ∃ rs2, sIf (tAndR (tOf (eOp gEq (eOp gMod (eVar 2) (eC (.int 16))) (eC (.int 6)))) (tOf (eOp gDin (eVar 6) (eVar 3)))) (sMapp 3 (eVar 6) (eOp gIx (eVar 1) (eOp gMod (eOp gDiv (eVar 2) (eC (.int 16))) (eCall gLen (aCons (eVar 1) aNil))))) sNil
      [some (.list (ns.map .int)), some (tx names), some (.int way), some (rsD rs), x4, x5, some (.str w)] = .nx [some (.list (ns.map .int)), some (tx names), some (.int way), some (rsD rs2), x4, x5, some (.str w)] ∧ RP names 9 rs2 := by
    by_cases h : way % 16 = 6
    · cases e : gt rs w with
      | none =>
        rw [e] at di
        refine ⟨rs, ?_, P.up (by decide)⟩
        unfold rsD at *
        generalize tx names = NL at *
        generalize ns.map PyData.int = IL at *
        generalize kv tx rs = RR at *
        simp [m16, h, di]
      | some l =>
        rw [e] at di
        have ml := P.mem _ (gt_some e)
        have vl := val_kv tx rs w
        rw [e] at vl
        have vl' : valD (kv tx rs) (kS w) = some (.list (l.map .str)) := vl
        have pu : putD (kv tx rs) (kS w) (.list (l.map .str ++ [.str u])) = kv tx (pt rs w (l ++ [u])) := by
          rw [← put_kv]
          congr 1
          unfold tx
          rw [List.map_append]; rfl
        have ls : (l.map PyData.str).length < sizeLine := sz1000' (by rw [List.length_map]; have := ml.2.2; dsimp only at this; omega)
        refine ⟨pt rs w (l ++ [u]), ?_, (P.up (by decide)).put hw2 (fun v hv => (List.mem_append.mp hv).elim (ml.2.1 v) fun z => by rw [List.mem_singleton.mp z]; exact hu2) (by have := ml.2.2; dsimp only at this; rw [List.length_append, List.length_singleton]; omega)⟩
        unfold rsD at *
        generalize tx names = NL at *
        generalize ns.map PyData.int = IL at *
        generalize l.map PyData.str = LL at *
        generalize kv tx (pt rs w (l ++ [u])) = RR2 at *
        generalize kv tx rs = RR at *
        simp [m16, h, di, keyD_k, vl', d16, gl, mn, eu', ls, pu]
    · refine ⟨rs, ?_, P.up (by decide)⟩
      unfold rsD at *
      generalize tx names = NL at *
      generalize ns.map PyData.int = IL at *
      generalize kv tx rs = RR at *
      simp [m16, h]
  refine ⟨rs2, fnD_of ?_, P2⟩
  have r' : forL (gtName 4) (gb_l_rules_1 S) (rngD 0 names.length) [some (.list (ns.map .int)), some (tx names), some (.int way), some (.dict []), none, none, none] = .nx [some (.list (ns.map .int)), some (tx names), some (.int way), some (rsD rs), x4, x5, none] := r
  have hw' : S 4 [.list (ns.map .int), .int 1] = .ok (.int way) := hw
  have f1 : sSet [] 2 (eFn (S 4) (aCons (eVar 0) (aCons (eC (.int 1)) aNil))) [some (.list (ns.map .int)), some (tx names), none, none, none, none, none] = .nx [some (.list (ns.map .int)), some (tx names), some (.int way), none, none, none, none] := by
    generalize tx names = NL at *
    generalize ns.map PyData.int = IL at *
    simp [hw']
  have f2 : sNewM 3 [some (.list (ns.map .int)), some (tx names), some (.int way), none, none, none, none] = .nx [some (.list (ns.map .int)), some (tx names), some (.int way), some (.dict []), none, none, none] := by
    generalize tx names = NL at *
    generalize ns.map PyData.int = IL at *
    simp
  have f3 : sForD 3 [] (iRange (aCons (eCall gLen (aCons (eVar 1) aNil)) aNil)) (gtName 4) (gb_l_rules_1 S) [some (.list (ns.map .int)), some (tx names), some (.int way), some (.dict []), none, none, none] = .nx [some (.list (ns.map .int)), some (tx names), some (.int way), some (rsD rs), x4, x5, none] := by
    rw [← r']
    generalize tx names = NL at *
    generalize ns.map PyData.int = IL at *
    generalize names.length = L at *
    simp [sForD, gl, kI, tn]
  have f4 : sSetD 6 (eOp gIx (eVar 1) (eOp gMod (eOp gDiv (eVar 2) (eC (.int 2))) (eCall gLen (aCons (eVar 1) aNil)))) [some (.list (ns.map .int)), some (tx names), some (.int way), some (rsD rs), x4, x5, none] = .nx [some (.list (ns.map .int)), some (tx names), some (.int way), some (rsD rs), x4, x5, some (.str w)] := by
    generalize rsD rs = RR at *
    generalize tx names = NL at *
    generalize ns.map PyData.int = IL at *
    generalize names.length = L at *
    simp [sSetD, imm, d2, gl, mn, ew']
  show sSeq _ (sSeq _ (sSeq _ (sSeq _ (sSeq _ _)))) [some (.list (ns.map .int)), some (tx names), none, none, none, none, none] = _
  rw [u_sSeq, f1, Out.then_nx, u_sSeq, f2, Out.then_nx, u_sSeq, f3, Out.then_nx, u_sSeq, f4, Out.then_nx, u_sSeq, e2, Out.then_nx]
  simp
end Lk67
set_option Elab.async false
set_option linter.all false
set_option maxRecDepth 100000
set_option maxHeartbeats 4000000
namespace Rk
open PySem PySem.Spec L2 Pu Nm
theorem nrk_ge {K : Kn} : ∀ {os : List Str} {r v : Int}, nrk K os r = some v → r ≤ v
  | [], r, v, h => by cases h; exact Int.le_refl _
  | o :: os, r, v, h => by
    unfold nrk at h
    cases e : gt K o with
    | none => rw [e] at h; cases h
    | some x =>
      rw [e] at h
      have := nrk_ge h
      split at this <;> omega
theorem KnOk.pos {rs : Rs} {K : Kn} (h : KnOk rs K) {w : Str} {r : Int} (e : gt K w = some r) : 0 ≤ r := nrk_ge (h.val w r e)
def vlK (K : Kn) (o : Str) : Int := (gt K o).getD 0
theorem nrk_max {K : Kn} : ∀ {os : List Str} {r v : Int}, nrk K os r = some v → maxI r (os.map fun o => vlK K o + 1) = v
  | [], r, v, h => by cases h; rfl
  | o :: os, r, v, h => by
    unfold nrk at h
    cases e : gt K o with
    | none => rw [e] at h; cases h
    | some x =>
      rw [e] at h
      have ev : vlK K o = x := by unfold vlK; rw [e]; rfl
      rw [List.map_cons, ev]
      exact nrk_max h
theorem gMax_rank {rs : Rs} {K : Kn} (h : KnOk rs K) {os : List Str} {v : Int} (e : nrk K os 0 = some v) : gMaxD 0 [.list (os.map fun o => .int (vlK K o + 1))] = some (.int v) := by
  unfold gMaxD
  dsimp only
  rw [intsOf_mapF]
  cases os with
  | nil => cases e; rfl
  | cons o os =>
    rw [List.map_cons]
    unfold nrk at e
    cases eo : gt K o with
    | none => rw [eo] at e; cases e
    | some x =>
      rw [eo] at e
      have ev : vlK K o = x := by unfold vlK; rw [eo]; rfl
      have hx := h.pos eo
      dsimp only at e
      rw [if_pos (by omega)] at e
      rw [ev]
      show some (PyData.int (maxI (x + 1) (os.map fun o => vlK K o + 1))) = _
      rw [nrk_max e]
theorem nrk_all {K : Kn} {os : List Str} {r v : Int} (h : nrk K os r = some v) : ∀ o ∈ os, ∃ x, gt K o = some x := fun o ho => by
  cases e : gt K o with
  | some x => exact ⟨x, rfl⟩
  | none =>
    have := (nrk_none (K := K) (os := os) (r := r)).mpr ⟨o, ho, e⟩
    rw [this] at h; cases h
def kin2 (ks : List Str) (p : Str × List Str) : List Str := p.2.foldl addK ks
def kinds2 (rs : Rs) : List Str := rs.foldl kin2 (rs.map (·.1))
theorem mem_kin2 : ∀ {rs : Rs} {ks : List Str} {v : Str}, v ∈ rs.foldl kin2 ks ↔ v ∈ ks ∨ ∃ p ∈ rs, v ∈ p.2
  | [], ks, v => by simp
  | p :: rs, ks, v => by
    rw [List.foldl_cons, mem_kin2]
    unfold kin2
    rw [mem_adds]
    simp [or_assoc]
theorem nodup_kin2 : ∀ {rs : Rs} {ks : List Str}, ks.Nodup → (rs.foldl kin2 ks).Nodup
  | [], ks, h => h
  | p :: rs, ks, h => nodup_kin2 (rs := rs) (nodup_adds h)
theorem mem_kinds2 {rs : Rs} {v : Str} : v ∈ kinds2 rs ↔ v ∈ kinds rs := by
  unfold kinds2
  rw [mem_kin2, mem_kinds]
  unfold uni
  constructor
  · rintro (h | ⟨p, hp, h⟩)
    · obtain ⟨p, hp, rfl⟩ := List.mem_map.mp h
      exact List.mem_flatMap.mpr ⟨p, hp, by simp⟩
    · exact List.mem_flatMap.mpr ⟨p, hp, List.mem_cons_of_mem _ h⟩
  · intro h
    obtain ⟨p, hp, z⟩ := List.mem_flatMap.mp h
    rcases List.mem_cons.mp z with rfl | z
    · exact .inl (List.mem_map.mpr ⟨p, hp, rfl⟩)
    · exact .inr ⟨p, hp, z⟩
theorem len_kinds2 {rs : Rs} (R : RsOk rs) (h : ∀ k ∈ kinds rs, gt (known rs) k ≠ none) : (known rs).length = (kinds2 rs).length := by
  have ok := known_ok rs
  have n2 : (kinds2 rs).Nodup := nodup_kin2 R.nd
  have h1 := sub_len ok.nd (b := kinds2 rs) fun w hw => mem_kinds2.mpr (ok.mem w hw)
  have h2 := sub_len n2 (b := (known rs).map (·.1)) fun w hw => Classical.byContradiction fun z => h w (mem_kinds2.mp hw) (gt_none.mpr z)
  rw [List.length_map] at h1 h2
  omega
theorem strsOf_tx (l : List Str) : strsOf (l.map .str) = some l := by
  induction l with
  | nil => rfl
  | cons w r ih =>
    show (strsOf (r.map .str)).map (w :: ·) = _
    rw [ih]; rfl
theorem RingOk.sub {rs : Rs} {r : List Str} (h : RingOk rs r) : ∀ w ∈ r, w ∈ uni rs := fun w hw => by
  obtain ⟨i, hi, rfl⟩ := List.getElem_of_mem hw
  cases i with
  | zero =>
    have := h.cl
    rw [List.head_eq_getElem] at this
    exact (lsR_uni this).elim fun _ q => q.2.2
  | succ i => exact (lsR_uni (h.ch i hi)).elim fun _ q => q.2.2
theorem RingOk.at {rs : Rs} {r : List Str} (h : RingOk rs r) {k : Nat} (hk : k < r.length) : ∃ p w, atI (r.map PyData.str) ((k : Int) - 1) = some (.str p) ∧ atI (r.map PyData.str) (k : Int) = some (.str w) ∧ w ∈ lsR rs p := by
  have e0 : atI (r.map PyData.str) (k : Int) = some (.str r[k]) := L2.atI_nat (by rw [List.getElem?_map, List.getElem?_eq_getElem hk]; rfl)
  cases k with
  | zero =>
    refine ⟨r.getLast h.ne, r[0], ?_, e0, ?_⟩
    · have ew := List.dropLast_concat_getLast h.ne
      have : r.map PyData.str = r.dropLast.map PyData.str ++ [.str (r.getLast h.ne)] := by
        conv => lhs; rw [← ew]
        exact List.map_append ..
      rw [this]
      exact at_last _ _
    · have := h.cl
      rw [List.head_eq_getElem] at this
      exact this
  | succ k =>
    refine ⟨r[k], r[k + 1], ?_, e0, h.ch k hk⟩
    rw [show (((k + 1 : Nat) : Int) - 1) = (k : Int) by omega]
    exact L2.atI_nat (by rw [List.getElem?_map, List.getElem?_eq_getElem (by omega)]; rfl)
end Rk
namespace Lk67
open PySem PySem.Spec L2 Pu Nm Rk
theorem lenD_kv {α : Type} (f : α → PyData) (ps : KD α) : gLenD [.dict (kv f ps)] = some (.int (ps.length : Nat)) := by
  unfold gLenD
  dsimp only
  rw [if_neg (by rw [ins_kv]; decide), len_kv]
theorem isi_kv {α : Type} (f : α → PyData) (ps : KD α) : gIsi "dict" (.dict (kv f ps)) = .ok (.bool true) := by
  cases ps <;> rfl
theorem listK_kv {α : Type} (f : α → PyData) (ps : KD α) : gListK [.dict (kv f ps)] = some (tx (ps.map (·.1))) := by
  unfold gListK
  dsimp only
  rw [if_neg (by rw [ins_kv]; decide)]
  unfold kv tx
  rw [List.map_map, List.map_map]
  rfl
theorem l_copied_step {S : Nat → Fn} {rs : Rs} (R : RsOk rs) : fnD 4 (g_l_copied S) [rsD rs] = .ok (rsD rs) := by
  refine fnD_of ?_
  have key : ∀ (qs acc : Rs) (y2 y3 : Option PyData), ((acc ++ qs).map (·.1)).Nodup → acc.length + qs.length ≤ 1000000 → ∃ y2' y3', forL (gtTup 2 (gtCons (gtName 2) (gtCons (gtName 3) gtNil))) (gb_l_copied_1 S) (qs.map fun p => .tuple [.str p.1, tx p.2]) [some (rsD rs), some (rsD acc), y2, y3] = .nx [some (rsD rs), some (rsD (acc ++ qs)), y2', y3'] := by
    intro qs
    induction qs with
    | nil => intro acc y2 y3 _ _; exact ⟨y2, y3, by rw [List.append_nil]; rfl⟩
    | cons p qs ih =>
      intro acc y2 y3 hn hl
      have gn : gt acc p.1 = none := gt_none.mpr fun z => by
        rw [List.map_append, List.nodup_append] at hn
        exact hn.2.2 p.1 z p.1 (by simp) rfl
      have pu := put_kv tx acc p.1 p.2
      rw [pt_new gn] at pu
      have ii := ins_kv tx acc
      have ll : (kv tx acc).length < sizeLine := sz1000' (by rw [len_kv]; omega)
      obtain ⟨y2', y3', e⟩ := ih (acc ++ [p]) (some (.str p.1)) (some (tx p.2)) (by rw [List.append_assoc]; exact hn) (by rw [List.length_append, List.length_singleton]; rw [List.length_cons] at hl; omega)
      refine ⟨y2', y3', ?_⟩
      rw [List.append_assoc] at e
      have e' : forL (gtTup 2 (gtCons (gtName 2) (gtCons (gtName 3) gtNil))) (gb_l_copied_1 S) (qs.map fun p => .tuple [.str p.1, tx p.2]) [some (rsD rs), some (rsD (acc ++ [p])), some (.str p.1), some (tx p.2)] = .nx [some (rsD rs), some (rsD (acc ++ p :: qs)), y2', y3'] := e
      rw [← e', List.map_cons, u_forL_c]
      have ep : (p.1, p.2) = p := rfl
      have one : gb_l_copied_1 S [some (rsD rs), some (rsD acc), some (.str p.1), some (tx p.2)] = .nx [some (rsD rs), some (rsD (acc ++ [p])), some (.str p.1), some (tx p.2)] := by
        have gL : gList [tx p.2] = some (tx p.2) := rfl
        unfold rsD
        rw [← ep]
        dsimp only
        rw [← pu]
        generalize kv tx rs = RR at *
        generalize tx p.2 = T at *
        generalize kv tx acc = AA at *
        simp [ii, gL, keyD_k, ll]
      show (match gb_l_copied_1 S [some (rsD rs), some (rsD acc), some (.str p.1), some (tx p.2)] with
        | .nx ρ2 => _ | .ct ρ2 => _ | .bk ρ2 => _ | .rt d => _ | .err c ρ2 => _ | .bad => _) = _
      rw [one]
  have rl : rs.length ≤ 100000 := by
    have := sub_len R.nd (b := uni rs) fun w hw => by
      obtain ⟨p, hp, rfl⟩ := List.mem_map.mp hw
      exact List.mem_flatMap.mpr ⟨p, hp, by simp⟩
    rw [List.length_map] at this
    exact Nat.le_trans this R.len
  obtain ⟨y2, y3, e⟩ := key rs [] none none R.nd (by rw [List.length_nil]; omega)
  rw [List.nil_append] at e
  have ek : (kv tx rs).map itI = rs.map fun p => .tuple [.str p.1, tx p.2] := by unfold kv; rw [List.map_map]; rfl
  rw [← ek] at e
  have ii := ins_kv tx rs
  have e0 : rsD [] = .dict [] := rfl
  rw [e0] at e
  unfold g_l_copied
  unfold rsD at *
  generalize kv tx rs = RR at *
  simp [ii, e]
theorem l_rings_step {S : Nat → Fn} {rs : Rs} (R : RsOk rs) (hu : (uni rs).length ≤ 4000) {r : List Str} (h : RingOk rs r) : fnD 3 (g_l_rings S) [rsD rs, tx r] = .ok (.bool true) := by
  refine fnD_of ?_
  have rl : r.length ≤ 4000 := Nat.le_trans (sub_len h.nd h.sub) hu
  have r0 : 0 < r.length := List.length_pos_iff.mpr h.ne
  have gs : gIsi "list" (tx r) = .ok (.bool true) := rfl
  have gl := gLen_tx r
  have so := strsOf_tx r
  have kI : okI (r.length : Int) = true := okI_small (by omega) (by omega)
  have tn : ((r.length : Nat) : Int).toNat = r.length := by omega
  have cn : (decide r.Nodup && decide (r.length ≤ 4000)) = true := by rw [decide_eq_true h.nd, decide_eq_true rl]; rfl
  obtain ⟨ρ', e, x2, rfl⟩ := forL_rng (n := r.length) (i := 2) (g := gb_l_rings_1 S) (fun _ ρ => ∃ x2, ρ = [some (rsD rs), some (tx r), x2]) [some (rsD rs), some (tx r), none] ⟨_, rfl⟩ fun k ρ hk hi => by
    obtain ⟨x2, rfl⟩ := hi
    obtain ⟨p, w, e1, e2, m⟩ := h.at hk
    obtain ⟨l, gp, lm, wu⟩ := lsR_uni m
    have dn := dnin_kv tx rs p
    rw [gp] at dn
    have dx := dix_kv (f := tx) gp
    have lo : ∀ v ∈ l, PyData.strOk v = true := fun v hv => R.ok v (List.mem_flatMap.mpr ⟨(p, l), gt_some gp, List.mem_cons_of_mem _ hv⟩)
    have gn := gNinL_tx (R.ok w wu) lo
    rw [decide_eq_true lm] at gn
    have e1' : gIx (tx r) (.int ((k : Int) - 1)) = some (.str p) := e1
    have e2' : gIx (tx r) (.int (k : Int)) = some (.str w) := e2
    refine ⟨[some (rsD rs), some (tx r), some (.int (k : Nat))], Or.inl ?_, _, rfl⟩
    unfold rsD at *
    generalize kv tx rs = RR at *
    generalize tx r = TR at *
    generalize tx l = TL at *
    simp [e1', dn, e2', dx, gn]
  unfold g_l_rings
  have z0 : ¬ r.length = 0 := by omega
  unfold tx at gs gl e ⊢
  have f1 : sIf (tOrR (tNotR (tTru (eIsi "list" (eVar 1)))) (tOrR (tOf (eOp gEq (eCall gLen (aCons (eVar 1) aNil)) (eC (.int 0)))) (tOf (eOp gNe (eLenSet (eVar 1)) (eCall gLen (aCons (eVar 1) aNil)))))) (sRet (eC (.bool false))) sNil [some (rsD rs), some (.list (r.map .str)), none] = .nx [some (rsD rs), some (.list (r.map .str)), none] := by
    generalize hL : r.map PyData.str = RL at *
    generalize rsD rs = RR at *
    have eL : RL.length = r.length := by rw [← hL, List.length_map]
    simp [gs, gl, so, cn, z0, eL, h.nd, rl]
  show sSeq _ (sSeq _ _) [some (rsD rs), some (.list (r.map .str)), none] = _
  rw [u_sSeq, f1, Out.then_nx, u_sSeq]
  have f2 : sFor [] (iRange (aCons (eCall gLen (aCons (eVar 1) aNil)) aNil)) (gtName 2) (gb_l_rings_1 S) [some (rsD rs), some (.list (r.map .str)), none] = .nx [some (rsD rs), some (.list (r.map .str)), x2] := by
    rw [← e]
    generalize hL : r.map PyData.str = RL at *
    generalize rsD rs = RR at *
    generalize r.length = L at *
    simp [gl, kI, tn]
  rw [f2, Out.then_nx]
  simp
theorem l_ranked_step {S : Nat → Fn} {rs : Rs} (R : RsOk rs) (hall : ∀ k ∈ kinds rs, gt (known rs) k ≠ none) : fnD 6 (g_l_ranked S) [rsD rs, knD (known rs)] = .ok (.bool true) := by
  refine fnD_of ?_
  have ok := known_ok rs
  have gs := isi_kv PyData.int (known rs)
  have lk := listK_kv tx rs
  have ii := ins_kv tx rs
  have sk : ∀ w ∈ kinds rs, PyData.strOk w = true := fun w hw => R.ok w (mem_kinds.mp hw)
  -- kinds
  obtain ⟨⟨y3, y4⟩, e1, _⟩ := forL_fj (gt := gtName 3) (g := gb_l_ranked_2 S) (fun p : Str × List Str => tx p.2) kin2 (fun ks (j : Option PyData × Option PyData) => [some (rsD rs), some (knD (known rs)), some (tx ks), j.1, j.2, none]) (fun ks => ks.Nodup ∧ ∀ w ∈ ks, w ∈ kinds rs)
    rs (rs.map (·.1)) (none, none) ⟨R.nd, fun w hw => by
      obtain ⟨p, hp, rfl⟩ := List.mem_map.mp hw
      exact mem_kinds.mpr (List.mem_flatMap.mpr ⟨p, hp, by simp⟩)⟩ fun p hp ks j hk => by
      have sub : ∀ w ∈ p.2, w ∈ kinds rs := fun w hw => mem_kinds.mpr (List.mem_flatMap.mpr ⟨p, hp, List.mem_cons_of_mem _ hw⟩)
      obtain ⟨z4, e2, k2⟩ := forL_fj (gt := gtName 4) (g := gb_l_ranked_1 S) PyData.str addK (fun ks (y : Option PyData) => [some (rsD rs), some (knD (known rs)), some (tx ks), some (tx p.2), y, none]) (fun ks => ks.Nodup ∧ ∀ w ∈ ks, w ∈ kinds rs)
        p.2 ks j.2 hk fun o ho ks y hk => by
          refine ⟨_, some (.str o), rfl, ?_, nodup_addK hk.1, fun w hw => (mem_addK.mp hw).elim (hk.2 w) fun e => e ▸ sub _ ho⟩
          have gn := gNinL_tx (sk o (sub o ho)) fun v hv => sk v (hk.2 v hv)
          have ll : (ks.map PyData.str).length < sizeLine := sz1000' (by rw [List.length_map]; have := sub_len hk.1 hk.2; have := kinds_len R; omega)
          unfold addK
          by_cases c : o ∈ ks
          · rw [decide_eq_true c] at gn
            rw [if_pos c]
            generalize tx p.2 = T at *
            unfold tx at *
            generalize ks.map PyData.str = KL at *
            generalize rsD rs = RR at *
            generalize knD (known rs) = KK at *
            simp [gn]
          · rw [decide_eq_false c] at gn
            rw [if_neg c]
            have ma : (ks ++ [o]).map PyData.str = ks.map PyData.str ++ [.str o] := List.map_append ..
            generalize tx p.2 = T at *
            unfold tx at *
            rw [ma]
            generalize ks.map PyData.str = KL at *
            generalize rsD rs = RR at *
            generalize knD (known rs) = KK at *
            simp [gn, ll]
      refine ⟨_, (some (tx p.2), z4), rfl, ?_, k2⟩
      show _ = Out.nx [some (rsD rs), some (knD (known rs)), some (tx (p.2.foldl addK ks)), some (tx p.2), z4, none]
      rw [← e2]
      generalize tx ks = KL at *
      unfold tx
      generalize p.2.map PyData.str = PL at *
      generalize rsD rs = RR at *
      generalize knD (known rs) = KK at *
      simp
  have e1' : forL (gtName 3) (gb_l_ranked_2 S) ((kv tx rs).map itV) [some (rsD rs), some (knD (known rs)), some (tx (rs.map (·.1))), none, none, none] = .nx [some (rsD rs), some (knD (known rs)), some (tx (kinds2 rs)), y3, y4, none] := by
    have ek : (kv tx rs).map itV = rs.map fun p => tx p.2 := by unfold kv; rw [List.map_map]; rfl
    rw [ek]; exact e1
  -- sizes
  have ld := lenD_kv PyData.int (known rs)
  have ll := gLen_tx (kinds2 rs)
  rw [← len_kinds2 R hall] at ll
  -- each is known
  obtain ⟨y5, e3, _⟩ := forL_fj (gt := gtName 5) (g := gb_l_ranked_3 S) PyData.str (fun (_ : Unit) _ => ()) (fun _ (y : Option PyData) => [some (rsD rs), some (knD (known rs)), some (tx (kinds2 rs)), y3, y4, y]) (fun _ => True) (kinds2 rs) () none trivial fun k hk _ y _ => by
    refine ⟨_, some (.str k), rfl, ?_, trivial⟩
    obtain ⟨v, gv⟩ := Option.ne_none_iff_exists'.mp (hall k (mem_kinds2.mp hk))
    have dn := dnin_kv PyData.int (known rs) k
    rw [gv] at dn
    have dx := dix_kv (f := PyData.int) gv
    unfold knD at *
    generalize rsD rs = RR at *
    generalize kv PyData.int (known rs) = KK at *
    generalize tx (kinds2 rs) = TT at *
    simp [dn, dx, isiB]
  -- each by its list
  obtain ⟨y6, e4, _⟩ := forL_fj (gt := gtName 5) (g := gb_l_ranked_4 S) PyData.str (fun (_ : Unit) _ => ()) (fun _ (y : Option PyData) => [some (rsD rs), some (knD (known rs)), some (tx (kinds2 rs)), y3, y4, y]) (fun _ => True) (kinds2 rs) () y5 trivial fun k hk _ y _ => by
    refine ⟨_, some (.str k), rfl, ?_, trivial⟩
    obtain ⟨v, gv⟩ := Option.ne_none_iff_exists'.mp (hall k (mem_kinds2.mp hk))
    have nv := ok.val k v gv
    have dx := dix_kv (f := PyData.int) gv
    have dg := dget_kv rs k
    have mx := gMax_rank ok nv
    have lc := lc_gen (E := PyData.str) (ρ := [some (rsD rs), some (knD (known rs)), some (tx (kinds2 rs)), y3, none, some (.str k)]) (i := 4) (tt := tYesD) (f := eOp gAdd (eOp gDix (eVar 1) (eVar 4)) (eC (.int 1))) (P := fun _ => true) (F := fun o => PyData.int (vlK (known rs) o + 1)) (ps := lsR rs k) (fun _ _ => rfl) fun o ho _ => by
      obtain ⟨x, gx⟩ := nrk_all nv o ho
      have dx := dix_kv (f := PyData.int) gx
      have ev : vlK (known rs) o = x := by unfold vlK; rw [gx]; rfl
      rw [ev]
      unfold knD at *
      generalize rsD rs = RR at *
      generalize kv PyData.int (known rs) = KK at *
      generalize tx (kinds2 rs) = TT at *
      simp [dx]
    rw [List.filter_eq_self.mpr fun _ _ => rfl] at lc
    have lz : ((lsR rs k).map fun o => PyData.int (vlK (known rs) o + 1)).length < sizeLine := sz1000' (by
      rw [List.length_map]
      unfold lsR
      cases gp : gt rs k with
      | none => exact Nat.zero_le _
      | some l =>
        have : l.length ≤ (uni rs).length := by
          have hm := gt_some gp
          have : (k :: l).Sublist (uni rs) := List.sublist_flatten_of_mem (List.mem_map.mpr ⟨(k, l), hm, rfl⟩)
          have := this.length_le
          rw [List.length_cons] at this; omega
        have := R.len
        show l.length ≤ _
        omega)
    have l0 : (0 : Nat) ≤ sizeLine := Nat.zero_le _
    have ii := ins_kv tx rs
    have dgx : tx (lsR rs k) = .list ((lsR rs k).map .str) := rfl
    rw [dgx] at dg
    unfold knD rsD at *
    generalize kv tx rs = RR at *
    generalize kv PyData.int (known rs) = KK at *
    generalize tx (kinds2 rs) = TT at *
    generalize (lsR rs k).map PyData.str = LL at *
    generalize (lsR rs k).map (fun o => PyData.int (vlK (known rs) o + 1)) = ML at *
    simp [dx, ii, dg, lc, lz, mx]
  have hN : tx (kinds2 rs) = .list ((kinds2 rs).map .str) := rfl
  have f1 : sIf (tNotR (tTru (eIsi "dict" (eVar 1)))) (sRet (eC (.bool false))) sNil [some (rsD rs), some (knD (known rs)), none, none, none, none] = .nx [some (rsD rs), some (knD (known rs)), none, none, none, none] := by
    unfold knD
    generalize rsD rs = RR at *
    generalize kv PyData.int (known rs) = KK at *
    simp [gs]
  have f2 : sNew [2] 2 (nListK (aCons (eVar 0) aNil)) [some (rsD rs), some (knD (known rs)), none, none, none, none] = .nx [some (rsD rs), some (knD (known rs)), some (tx (rs.map (·.1))), none, none, none] := by
    unfold rsD tx at *
    generalize knD (known rs) = KK at *
    generalize kv (fun l => PyData.list (List.map PyData.str l)) rs = RR at *
    simp [lk]
  have f3 : sForDP [2] false (eVar 0) itV (gtName 3) (gb_l_ranked_2 S) [some (rsD rs), some (knD (known rs)), some (tx (rs.map (·.1))), none, none, none] = .nx [some (rsD rs), some (knD (known rs)), some (tx (kinds2 rs)), y3, y4, none] := by
    unfold rsD at *
    generalize knD (known rs) = KK at *
    generalize kv tx rs = RR at *
    generalize tx (rs.map (·.1)) = T1 at *
    generalize tx (kinds2 rs) = T2 at *
    simp [ii, e1']
  have f4 : sIf (tOf (eOp gNe (eCall gLenD (aCons (eVar 1) aNil)) (eCall gLen (aCons (eVar 2) aNil)))) (sRet (eC (.bool false))) sNil [some (rsD rs), some (knD (known rs)), some (tx (kinds2 rs)), y3, y4, none] = .nx [some (rsD rs), some (knD (known rs)), some (tx (kinds2 rs)), y3, y4, none] := by
    unfold knD
    generalize rsD rs = RR at *
    generalize kv PyData.int (known rs) = KK at *
    generalize tx (kinds2 rs) = TT at *
    simp [ld, ll]
  have f5 : sFor [] (iSeq (eVar 2)) (gtName 5) (gb_l_ranked_3 S) [some (rsD rs), some (knD (known rs)), some (tx (kinds2 rs)), y3, y4, none] = .nx [some (rsD rs), some (knD (known rs)), some (tx (kinds2 rs)), y3, y4, y5] := by
    have e3' : forL (gtName 5) (gb_l_ranked_3 S) ((kinds2 rs).map .str) [some (rsD rs), some (knD (known rs)), some (tx (kinds2 rs)), y3, y4, none] = .nx [some (rsD rs), some (knD (known rs)), some (tx (kinds2 rs)), y3, y4, y5] := e3
    rw [← e3']
    rfl
  have f6 : sFor [] (iSeq (eVar 2)) (gtName 5) (gb_l_ranked_4 S) [some (rsD rs), some (knD (known rs)), some (tx (kinds2 rs)), y3, y4, y5] = .nx [some (rsD rs), some (knD (known rs)), some (tx (kinds2 rs)), y3, y4, y6] := by
    have e4' : forL (gtName 5) (gb_l_ranked_4 S) ((kinds2 rs).map .str) [some (rsD rs), some (knD (known rs)), some (tx (kinds2 rs)), y3, y4, y5] = .nx [some (rsD rs), some (knD (known rs)), some (tx (kinds2 rs)), y3, y4, y6] := e4
    rw [← e4']
    rfl
  unfold g_l_ranked
  show sSeq _ (sSeq _ (sSeq _ (sSeq _ (sSeq _ (sSeq _ _))))) [some (rsD rs), some (knD (known rs)), none, none, none, none] = _
  rw [u_sSeq, f1, Out.then_nx, u_sSeq, f2, Out.then_nx, u_sSeq, f3, Out.then_nx, u_sSeq, f4, Out.then_nx, u_sSeq, f5, Out.then_nx, u_sSeq, f6, Out.then_nx]
  rfl
end Lk67
set_option Elab.async false
set_option linter.all false
set_option maxRecDepth 100000
set_option maxHeartbeats 4000000
namespace Lk67
open PySem PySem.Spec L2 Pu Nm Rk
theorem gEq_w {x y : Str} (hx : PyData.strOk x = true) (hy : PyData.strOk y = true) : gEq (.str x) (.str y) = some (.bool (decide (x = y))) := by
  unfold gEq
  rw [if_pos (by simp [shp, PyData.canLay0, PyData.depth, hx, hy]), eqv_w]
theorem gNe_w {x y : Str} (hx : PyData.strOk x = true) (hy : PyData.strOk y = true) : gNe (.str x) (.str y) = some (.bool (!decide (x = y))) := by
  unfold gNe
  rw [if_pos (by simp [shp, PyData.canLay0, PyData.depth, hx, hy]), eqv_w]
theorem same_kv {α : Type} {f : α → PyData} {ps : KD α} (h : (ps.map (·.1)).Nodup) (hf : ∀ p ∈ ps, eqvX (f p.2) (f p.2) = true) : sameX (kv f ps) (kv f ps) = true := by
  unfold sameX
  rw [decide_eq_true rfl, Bool.true_and, List.all_eq_true]
  intro p hp
  obtain ⟨q, hq, rfl⟩ := List.mem_map.mp hp
  dsimp only
  rw [keyD_k]
  dsimp only
  rw [val_kv, gt_mem h (show (q.1, q.2) ∈ ps from hq), Option.map_some]
  exact hf q hq
theorem eqvX_tx {l : List Str} (h : ∀ w ∈ l, PyData.strOk w = true) : eqvX (tx l) (tx l) = true := by
  unfold eqvX
  have : PyData.eqv (tx l) (tx l) = true := by
    unfold tx
    show PyData.eqvAll (l.map .str) (l.map .str) = true
    clear h
    induction l with
    | nil => rfl
    | cons w r ih =>
      show (PyData.eqv (.str w) (.str w) && PyData.eqvAll (r.map .str) (r.map .str)) = true
      rw [ih, eqv_w, decide_eq_true rfl]; rfl
  rw [shp_tx h, this]
  simp
theorem dne_rs {rs : Rs} (R : RsOk rs) : gDneX (rsD rs) (rsD rs) = some (.bool false) := by
  unfold gDneX rsD
  dsimp only
  rw [if_pos]
  rw [ins_kv, same_kv R.nd fun p hp => eqvX_tx fun w hw => R.ok w (List.mem_flatMap.mpr ⟨p, hp, List.mem_cons_of_mem _ hw⟩)]
  rfl
theorem deq_kn {rs : Rs} {K : Kn} (ok : KnOk rs K) : gDeqX (knD K) (knD K) = some (.bool true) := by
  unfold gDeqX knD
  dsimp only
  rw [if_pos]
  rw [ins_kv, same_kv ok.nd fun p hp => by unfold eqvX flatD; simp]
  rfl
theorem pln_tx (l : List Str) : pln (tx l) = true := by
  unfold tx
  show plns (l.map .str) = true
  induction l with
  | nil => rfl
  | cons w r ih => show (pln (.str w) && plns (r.map .str)) = true; rw [ih]; rfl
theorem pln_kn (K : Kn) : pln (knD K) = true := by
  show ((kv PyData.int K).all fun p => isI p.2) = true
  rw [List.all_eq_true]
  intro p hp
  obtain ⟨q, hq, rfl⟩ := List.mem_map.mp hp
  rfl
theorem sep_rs (rs : Rs) {d : PyData} (h : pln d = true) : sepT (kv tx rs) d = true := by
  cases rs with
  | nil => rfl
  | cons p rs => exact h
theorem cel (k : Nat) : CellOk (sem (k + 1) 4) := fun ns j => cell_step (S := sem k) ns j
theorem nam (k : Nat) : NamesOk (sem (k + 1) 5) := l_names_step (sem k)
theorem lst (k : Nat) : ListOk (sem (k + 1) 6) := l_list_step (sem k)
theorem rul (k : Nat) : RulesOk (sem (k + 2) 7) := l_rules_step (S := sem (k + 1)) (cel k) (lst k)
theorem kds (k : Nat) : KindsOk (sem (k + 1) 0) := fun rs R => kinds_of_step (S := sem k) (by have := R.len; omega)
theorem nxr (k : Nat) : NextOk (sem (k + 1) 1) := fun os K => next_rank_step (S := sem k) os K
theorem rng (k : Nat) : RingF (sem (k + 1) 2) := ring_step (S := sem k)
theorem rks (k : Nat) : RanksOk (sem (k + 2) 3) := ranks_step (S := sem (k + 1)) (c0 := 0) (c1 := 1) (c2 := 2) (kds k) (nxr k) (rng k)
theorem law_true : ∀ ns : List Int, ns.length ≤ 63 → sem 101 11 [.list (ns.map .int)] = .ok (.bool true) := by
  intro ns hn
  rw [sem_law]
  refine fnD_of ?_
  obtain ⟨c, hc⟩ := cel 99 ns 0
  obtain ⟨n, hn2⟩ := Int.eq_ofNat_of_zero_le (show 0 ≤ 1 + c % 7 by omega)
  obtain ⟨names, h5, nl, no⟩ := nam 99 (c / 7) n (by omega) (by omega)
  obtain ⟨rs, h7, P⟩ := rul 98 ns names (by omega) (by omega)
  have R := P.ok (by omega) no
  have ul : (uni rs).length ≤ 4000 := by
    have := uni_len fun p hp => (P.mem p hp).2.2
    have := P.len
    omega
  have h8 : sem 100 8 [rsD rs] = .ok (rsD rs) := l_copied_step (S := sem 99) R
  have hr := rks 98 rs R
  have m7 : cMod c 7 = true := cMod_of (by decide)
  have d7 : cDiv c 7 = true := cDiv_of 3 (by decide) (by decide) (by decide) (by decide)
  have hc' : sem 100 4 [.list (ns.map .int), .int 0] = .ok (.int c) := hc
  have h5' : sem 100 5 [.int (c / 7), .int (1 + c % 7)] = .ok (tx names) := by rw [hn2]; exact h5
  have dn := dne_rs R
  have ii := ins_kv tx rs
  have ok := known_ok rs
  have dk := deq_kn ok
  have e1 : gEq (.str "ranks") (.str "ranks") = some (.bool true) := by rw [gEq_w (by decide +kernel) (by decide +kernel)]; rfl
  have e2 : gEq (.str "ring") (.str "ranks") = some (.bool false) := by rw [gEq_w (by decide +kernel) (by decide +kernel), decide_eq_false (by decide +kernel)]
  have it : ∀ xs : List PyData, isiB "tuple" (.tuple xs) = true := fun _ => rfl
  have e3 : gEq (.str "ring") (.str "ring") = some (.bool true) := by rw [gEq_w (by decide +kernel) (by decide +kernel)]; rfl
  have n1 : gNe (.str "ranks") (.str "ranks") = some (.bool false) := by rw [gNe_w (by decide +kernel) (by decide +kernel)]; rfl
  have n2 : gNe (.str "ring") (.str "ring") = some (.bool false) := by rw [gNe_w (by decide +kernel) (by decide +kernel)]; rfl
  rcases hr with ⟨h3, hall⟩ | ⟨r, h3, ro⟩
  · have h9 : sem 100 9 [rsD rs, knD (known rs)] = .ok (.bool true) := l_ranked_step (S := sem 99) R hall
    have sp := sep_rs rs (d := .tuple [.str "ranks", knD (known rs)]) (by show (pln (.str "ranks") && (pln (knD (known rs)) && true)) = true; rw [pln_kn]; rfl)
    have h3' : sem 100 3 [rsD rs] = .ok (.tuple [.str "ranks", knD (known rs)]) := h3
    have h7' : sem 100 7 [.list (ns.map .int), tx names] = .ok (rsD rs) := h7
    unfold g_law
    unfold rsD at *
    generalize tx names = NL at *
    generalize ns.map PyData.int = IL at *
    generalize kv tx rs = RR at *
    generalize knD (known rs) = KK at *
    generalize sem 100 = S at *
    simp [hc', d7, m7, h5', h7', h8, ii, h3', sp, dn, it, n1, e1, h9, dk]
  · have h10 : sem 100 10 [rsD rs, tx r] = .ok (.bool true) := l_rings_step (S := sem 99) R ul ro
    have sp := sep_rs rs (d := .tuple [.str "ring", tx r]) (by show (pln (.str "ring") && (pln (tx r) && true)) = true; rw [pln_tx]; rfl)
    have h3' : sem 100 3 [rsD rs] = .ok (.tuple [.str "ring", tx r]) := h3
    have h7' : sem 100 7 [.list (ns.map .int), tx names] = .ok (rsD rs) := h7
    unfold g_law
    unfold rsD at *
    generalize tx names = NL at *
    generalize ns.map PyData.int = IL at *
    generalize kv tx rs = RR at *
    generalize tx r = TR at *
    generalize sem 100 = S at *
    simp [hc', d7, m7, h5', h7', h8, ii, h3', sp, dn, it, n2, e2, e3, h10]
end Lk67
open PySem PySem.W PyProof.Rows
set_option maxRecDepth 100000 in
set_option maxHeartbeats 0 in
theorem PySem.Challenge.cw_hydrahouse_k67_ranks_or_ring_holds : PySem.Challenge.rw_hydrahouse_k67_ranks_or_ring.Holds := by
  w_on; o_law; k_head; (case hw => w_witness2)
  k_fill
  refine Pu.walkL (l := PySem.Challenge.rw_hydrahouse_k67_ranks_or_ring) (k := 101) (x := "_law_script") rfl rfl ⟨rfl, by decide, by decide⟩ (fun w h Y => PySem.W.kIn_of Y) ?F
  case F =>
    intro w mg fa h KX G hmg
    refine' Lk67.all_mk KX G hmg ?a0 ?l0 ?c0 ?k0 ?a1 ?l1 ?c1 ?k1 ?a2 ?l2 ?c2 ?k2 ?a3 ?l3 ?c3 ?k3 ?a4 ?l4 ?c4 ?k4 ?a5 ?l5 ?c5 ?k5 ?a6 ?l6 ?c6 ?k6 ?a7 ?l7 ?c7 ?k7 ?a8 ?l8 ?c8 ?k8 ?a9 ?l9 ?c9 ?k9 ?a10 ?l10 ?c10 ?k10 ?a11 ?l11 ?c11 ?k11 ?z_bool ?z_dict ?z_int ?z_isinstance ?z_len ?z_list ?z_max ?z_range ?z_set ?z_tuple Lk67.law_true
    (case a0 => k_is)
    (case l0 => k_is)
    (case c0 => k_is)
    (case k0 => k_is)
    (case a1 => k_is)
    (case l1 => k_is)
    (case c1 => k_is)
    (case k1 => k_is)
    (case a2 => k_is)
    (case l2 => k_is)
    (case c2 => k_is)
    (case k2 => k_is)
    (case a3 => k_is)
    (case l3 => k_is)
    (case c3 => k_is)
    (case k3 => k_is)
    (case a4 => k_is)
    (case l4 => k_is)
    (case c4 => k_is)
    (case k4 => k_is)
    (case a5 => k_is)
    (case l5 => k_is)
    (case c5 => k_is)
    (case k5 => k_is)
    (case a6 => k_is)
    (case l6 => k_is)
    (case c6 => k_is)
    (case k6 => k_is)
    (case a7 => k_is)
    (case l7 => k_is)
    (case c7 => k_is)
    (case k7 => k_is)
    (case a8 => k_is)
    (case l8 => k_is)
    (case c8 => k_is)
    (case k8 => k_is)
    (case a9 => k_is)
    (case l9 => k_is)
    (case c9 => k_is)
    (case k9 => k_is)
    (case a10 => k_is)
    (case l10 => k_is)
    (case c10 => k_is)
    (case k10 => k_is)
    (case a11 => k_is)
    (case l11 => k_is)
    (case c11 => k_is)
    (case k11 => k_is)
    (case z_bool => k_is)
    (case z_dict => k_is)
    (case z_int => k_is)
    (case z_isinstance => k_is)
    (case z_len => k_is)
    (case z_list => k_is)
    (case z_max => k_is)
    (case z_range => k_is)
    (case z_set => k_is)
    (case z_tuple => k_is)
