import PyProof.Rows.All
import Wide.All
import OpenK.AllK
import Wide.FinOn
import HandS.ForMost
import HandS.ForExc
import HandS.Zip
import HandS.Wide
import HandS.IsInst
import HandS.TupMul
import HandS.TupAny
import HandS.ExcIs
import HandS.Defaults
import HandS.Nested
import HandS.EndOwn
import KE.DataMinMax
import HandS.SortKw
import HandS.CallSlots
import HandS.Iter
import PyProof.Rows.ChunkLeaf
import HandS.TryOnly
import HandS.TryMany
import HandS.Rev
import HandS.EndBits
import HandS.More
import HandS.TupLe
import KE.GoesMore
import HandS.DictEq
import HandS.DictComp
import HandS.ClsMeth
import HandS.DeepEq
import HandS.HotCalls
import HandS.Deep
import HandS.Conv
import HandS.Style
import HandS.Text
import HandS.FStr
import HandS.Strs
import HandS.Finally
import PySem.Challenge.RW_hydrahouse_k68_exchanges_fall
set_option Elab.async false
set_option linter.all false
set_option maxRecDepth 100000
set_option maxHeartbeats 4000000
namespace Pu
open PySem PySem.Spec PyProof.Rows L2
inductive R (α : Type) where
  | ok (a : α) | err (c : Str) | bad
def R.bind {α β : Type} (x : R α) (f : α → R β) : R β := match x with
  | .ok a => f a
  | .err c => .err c
  | .bad => .bad
@[simp] theorem R.bind_ok {α β : Type} (a : α) (f : α → R β) : R.bind (.ok a) f = f a := rfl
@[simp] theorem R.bind_err {α β : Type} (c : Str) (f : α → R β) : R.bind (.err c) f = .err c := rfl
@[simp] theorem R.bind_bad {α β : Type} (f : α → R β) : R.bind .bad f = .bad := rfl
def R.of {α : Type} : Option α → R α
  | some a => .ok a
  | none => .bad
@[simp] theorem R.of_some {α : Type} (a : α) : R.of (some a) = .ok a := rfl
@[simp] theorem R.of_none {α : Type} : R.of (none : Option α) = .bad := rfl
abbrev Vars := List (Option PyData)
def hide (O : List Addr) (H : Hp) : Hp := fun a => if a ∈ O then none else H a
theorem hide_nil (H : Hp) : hide [] H = H := by
  funext a
  unfold hide
  rw [if_neg (by simp)]
theorem hide_some {O : List Addr} {H : Hp} {a : Addr} {o : HO} (h : hide O H a = some o) : a ∉ O ∧ H a = some o := by
  unfold hide at h
  by_cases c : a ∈ O
  · rw [if_pos c] at h; cases h
  · rw [if_neg c] at h; exact ⟨c, h⟩
theorem hide_of {O : List Addr} {H : Hp} {a : Addr} {o : HO} (c : a ∉ O) (h : H a = some o) : hide O H a = some o := by
  unfold hide
  rw [if_neg c]; exact h
theorem hide_same {O : List Addr} {H H' : Hp} (s : Same H H') : Same (hide O H) (hide O H') := fun a o h => by
  obtain ⟨c, e⟩ := hide_some h
  exact hide_of c (s a o e)
theorem hide_sub {O : List Addr} {H : Hp} : Same (hide O H) H := fun a o h => (hide_some h).2
theorem hide_less {O O' : List Addr} {H : Hp} (s : ∀ a ∈ O', a ∈ O) : Same (hide O H) (hide O' H) := fun a o h => by
  obtain ⟨c, e⟩ := hide_some h
  exact hide_of (fun z => c (s a z)) e
theorem same_new {H : Hp} {p : Addr} {o : HO} (h : H p = none) : Same H (upd H p o) := fun b u e => by
  rw [upd_ne (ne_of_none e h)]; exact e
def Stands (O : List Addr) (H : Hp) : Prop := ∀ a ∈ O, ∃ o, H a = some o ∧ ∀ xs, o ≠ .tup xs
theorem Stands.nn {O : List Addr} {H : Hp} (h : Stands O H) {a : Addr} (ha : a ∈ O) : H a ≠ none := fun z => by
  obtain ⟨o, e, _⟩ := h a ha
  rw [z] at e; cases e
theorem Stands.tup {O : List Addr} {H : Hp} (h : Stands O H) {a : Addr} {xs : List V} (e : H a = some (.tup xs)) : a ∉ O := fun z => by
  obtain ⟨o, e1, n⟩ := h a z
  rw [e] at e1; cases e1
  exact n _ rfl
theorem Stands.same {O : List Addr} {H H' : Hp} (h : Stands O H) (s : Same H H') : Stands O H' := fun a ha => by
  obtain ⟨o, e, n⟩ := h a ha
  exact ⟨o, s a o e, n⟩
theorem Stands.new {O : List Addr} {H : Hp} {p : Addr} (h : Stands O H) (n : H p = none) : p ∉ O := fun z => h.nn z n
theorem seqL {K : PySem.W.Frag} {H H' : Hp} {a : Addr} {xs : List V} (e : Same H H') (h : SqL K H a xs) : SqL K H' a xs := e.seq h
theorem seqT {K : PySem.W.Frag} {H H' : Hp} {a : Addr} {xs : List V} (e : Same H H') (h : SqT K H a xs) : SqT K H' a xs := by
  rcases h with (h | ⟨o, h⟩) | h
  · exact .inl (.inl (e _ _ h))
  · exact .inl (.inr ⟨o, e _ _ h⟩)
  · exact .inr h
def kD : Key → PyData
  | .inl i => .int i
  | .inr x => .str x
theorem rd_mono {H H' : Hp} {a : Addr} {u : HO} (s : Same H H') (h : Rd H a u) : Rd H' a u := by
  rcases h with h | ⟨o, h⟩
  · exact .inl (s _ _ h)
  · exact .inr ⟨o, s _ _ h⟩
structure ClN (K : PySem.W.Frag) (c : Str) (C : Addr) : Prop where
  at_ : PySem.W.nsIn K mainGlobals c = some (some (.ref C))
  cl : L2.Cls K C
  ha : PySem.W.findIn K (.ref C) "__class__" = some (some (.builtin "object.__class__"))
  hn : PySem.W.specialIn K (.builtin "object.__class__") "__get__" = some (some (.builtin "getset_descriptor.__get__"))
  htk : PySem.W.takesIn K (.builtin "object.__class__") = some true
  hm : PySem.W.mroIn K C (.type "object") = some true
  no : ∀ T ∈ (["int", "bool", "str", "list", "tuple", "dict"] : List String), PySem.W.kitOne K (.ref C) (.type T) = some false
theorem ClN.one {K : PySem.W.Frag} {c : Str} {C D : Addr} (h : ClN K c C) (g : ClN K c D) : C = D := by
  have := h.at_
  rw [g.at_] at this; cases this; rfl
def fK (fs : List (Str × V)) : List (Key × V) := fs.map fun p => (Sum.inr p.1, p.2)
mutual
inductive Rp (K : PySem.W.Frag) (H : Hp) : V → PyData → Prop
  | non : Rp K H .non .none
  | bl (b : Bool) : Rp K H (.bl b) (.bool b)
  | int (i : Int) : Rp K H (.int i) (.int i)
  | str (x : Str) : Rp K H (.str x) (.str x)
  | lst {a : Addr} {xs : List V} {ds : List PyData} : SqL K H a xs → Rps K H xs ds → Rp K H (.ref a) (.list ds)
  | tup {a : Addr} {xs : List V} {ds : List PyData} : SqT K H a xs → Rps K H xs ds → Rp K H (.ref a) (.tuple ds)
  | dic {a : Addr} {kvs : List (Key × V)} {ds : List (PyData × PyData)} : Rd H a (.dK kvs) → Rpd K H kvs ds → Rp K H (.ref a) (.dict ds)
  | ins {a C dx : Addr} {fs : List (Str × V)} {c : Str} {ds : List (PyData × PyData)} : H a = some (.ins C dx fs) → H dx = some (.own a) → ClN K c C → Rpd K H (fK fs) ds → Rp K H (.ref a) (.dict [(.none, .tuple [.str c, .dict ds])])
  | fn {f b c : Addr} {q : Str} {d : PyData} : H c = some (LamX.CodeO c q) → Rp K H (.ref b) d → Rp K H (.ref f) (.dict [(.none, .list [.int (f : Nat), .int (b : Nat), .int (c : Nat), .str q, d])])
  | fn0 {f c : Addr} {q : Str} : H c = some (LamX.CodeO c q) → Rp K H (.ref f) (.dict [(.none, .list [.int (f : Nat), .int (c : Nat), .str q])])
  | dct {a : Addr} {kvs : List (List Key × V)} {ds : List (PyData × PyData)} : Rd H a (.dT kvs) → RpT K H kvs ds → Rp K H (.ref a) (.dict [(.none, .dict ds)])
  | tpx {a : Addr} {xs : List V} {ds : List PyData} : H a = some (.tup xs) → Rps K H xs ds → Rp K H (.ref a) (.dict [(.none, .bool true), (.none, .tuple ds)])
inductive Rps (K : PySem.W.Frag) (H : Hp) : List V → List PyData → Prop
  | nil : Rps K H [] []
  | cons {v : V} {vs : List V} {d : PyData} {ds : List PyData} : Rp K H v d → Rps K H vs ds → Rps K H (v :: vs) (d :: ds)
inductive Rpd (K : PySem.W.Frag) (H : Hp) : List (Key × V) → List (PyData × PyData) → Prop
  | nil : Rpd K H [] []
  | cons {k : Key} {v : V} {vs : List (Key × V)} {d : PyData} {ds : List (PyData × PyData)} : Rp K H v d → Rpd K H vs ds → Rpd K H ((k, v) :: vs) ((kD k, d) :: ds)
inductive RpT (K : PySem.W.Frag) (H : Hp) : List (List Key × V) → List (PyData × PyData) → Prop
  | nil : RpT K H [] []
  | cons {k : List Key} {v : V} {vs : List (List Key × V)} {d : PyData} {ds : List (PyData × PyData)} : Rp K H v d → RpT K H vs ds → RpT K H ((k, v) :: vs) ((.tuple (k.map kD), d) :: ds)
end
section
variable {K : PySem.W.Frag} {H H' : Hp}
mutual
theorem Rp.mono (s : Same H H') : ∀ {v : V} {d : PyData}, Rp K H v d → Rp K H' v d
  | _, _, .non => .non
  | _, _, .bl b => .bl b
  | _, _, .int i => .int i
  | _, _, .str x => .str x
  | _, _, .lst h r => .lst (seqL s h) (Rps.mono s r)
  | _, _, .tup h r => .tup (seqT s h) (Rps.mono s r)
  | _, _, .dic h r => .dic (rd_mono s h) (Rpd.mono s r)
  | _, _, .ins h o c r => .ins (s _ _ h) (s _ _ o) c (Rpd.mono s r)
  | _, _, .fn h r => .fn (s _ _ h) (Rp.mono s r)
  | _, _, .fn0 h => .fn0 (s _ _ h)
  | _, _, .dct h r => .dct (rd_mono s h) (RpT.mono s r)
  | _, _, .tpx h r => .tpx (s _ _ h) (Rps.mono s r)
theorem Rps.mono (s : Same H H') : ∀ {vs : List V} {ds : List PyData}, Rps K H vs ds → Rps K H' vs ds
  | _, _, .nil => .nil
  | _, _, .cons h r => .cons (Rp.mono s h) (Rps.mono s r)
theorem Rpd.mono (s : Same H H') : ∀ {vs : List (Key × V)} {ds : List (PyData × PyData)}, Rpd K H vs ds → Rpd K H' vs ds
  | _, _, .nil => .nil
  | _, _, .cons h r => .cons (Rp.mono s h) (Rpd.mono s r)
theorem RpT.mono (s : Same H H') : ∀ {vs : List (List Key × V)} {ds : List (PyData × PyData)}, RpT K H vs ds → RpT K H' vs ds
  | _, _, .nil => .nil
  | _, _, .cons h r => .cons (Rp.mono s h) (RpT.mono s r)
end
theorem Rps.length : ∀ {vs : List V} {ds : List PyData}, Rps K H vs ds → vs.length = ds.length
  | _, _, .nil => rfl
  | _, _, .cons _ r => congrArg Nat.succ (Rps.length r)
theorem Rps.get : ∀ {vs : List V} {ds : List PyData} {i : Nat} {d : PyData}, Rps K H vs ds → ds[i]? = some d → ∃ v, vs[i]? = some v ∧ Rp K H v d
  | _, _, _, _, .nil, e => by simp at e
  | _, _, 0, _, .cons h _, e => by simp at e; subst e; exact ⟨_, rfl, h⟩
  | _, _, i + 1, _, .cons _ r, e => by
    obtain ⟨v, h1, h2⟩ := Rps.get (i := i) r (by simpa using e)
    exact ⟨v, by simpa using h1, h2⟩
theorem Rps.append : ∀ {vs ws : List V} {ds es : List PyData}, Rps K H vs ds → Rps K H ws es → Rps K H (vs ++ ws) (ds ++ es)
  | _, _, _, _, .nil, s => s
  | _, _, _, _, .cons h r, s => .cons h (Rps.append r s)
theorem Rps.take : ∀ {vs : List V} {ds : List PyData} (n : Nat), Rps K H vs ds → Rps K H (vs.take n) (ds.take n)
  | _, _, 0, _ => .nil
  | _, _, _ + 1, .nil => .nil
  | _, _, n + 1, .cons h r => .cons h (Rps.take n r)
theorem Rps.drop : ∀ {vs : List V} {ds : List PyData} (n : Nat), Rps K H vs ds → Rps K H (vs.drop n) (ds.drop n)
  | _, _, 0, r => r
  | _, _, _ + 1, .nil => .nil
  | _, _, n + 1, .cons _ r => Rps.drop n r
theorem Rps.reverse {vs : List V} {ds : List PyData} (h : Rps K H vs ds) : Rps K H vs.reverse ds.reverse := by
  have go : ∀ {vs : List V} {ds : List PyData}, Rps K H vs ds → Rps K H vs.reverse ds.reverse := by
    intro vs
    induction vs with
    | nil => intro ds h; cases h; exact .nil
    | cons v vs ih =>
      intro ds h
      cases h with
      | cons h r => rw [List.reverse_cons, List.reverse_cons]; exact Rps.append (ih r) (.cons h .nil)
  exact go h
theorem Rps.set : ∀ {vs : List V} {ds : List PyData} {v : V} {d : PyData} (i : Nat), Rps K H vs ds → Rp K H v d → Rps K H (vs.set i v) (ds.set i d)
  | _, _, _, _, _, .nil, _ => .nil
  | _, _, _, _, 0, .cons _ t, r => .cons r t
  | _, _, _, _, i + 1, .cons q t, r => .cons q (Rps.set i t r)
theorem Rps.ofInts : ∀ (ns : List Int), Rps K H (ns.map V.int) (ns.map PyData.int)
  | [] => .nil
  | n :: ns => .cons (.int n) (Rps.ofInts ns)
mutual
def imm : PyData → Bool
  | .none | .bool _ | .int _ | .str _ => true
  | .tuple xs => imms xs
  | .list _ | .dict _ => false
def imms : List PyData → Bool
  | [] => true
  | x :: xs => imm x && imms xs
end
mutual
theorem Rp.imm (s : ∀ a xs, SqT K H a xs → SqT K H' a xs) : ∀ {d : PyData} {v : V}, Rp K H v d → imm d = true → Rp K H' v d
  | .none, _, h, _ => by cases h; exact .non
  | .bool _, _, h, _ => by cases h; exact .bl _
  | .int _, _, h, _ => by cases h; exact .int _
  | .str _, _, h, _ => by cases h; exact .str _
  | .tuple ds, _, h, e => by
    cases h with
    | tup q r => exact .tup (s _ _ q) (Rps.imm s r (by simpa [Pu.imm] using e))
  | .list _, _, _, e => by simp [Pu.imm] at e
  | .dict _, _, _, e => by simp [Pu.imm] at e
theorem Rps.imm (s : ∀ a xs, SqT K H a xs → SqT K H' a xs) : ∀ {ds : List PyData} {vs : List V}, Rps K H vs ds → imms ds = true → Rps K H' vs ds
  | [], _, h, _ => by cases h; exact .nil
  | d :: ds, _, h, e => by
    cases h with
    | cons h r =>
      have e' : Pu.imm d = true ∧ imms ds = true := by simpa [imms] using e
      exact .cons (Rp.imm s h e'.1) (Rps.imm s r e'.2)
end
mutual
theorem Rp.dp : ∀ {d : PyData} {v : V}, Rp K H v d → d.canLay0 = true → Same H H' → Dp K H' v d
  | .none, _, h, _, _ => by cases h; exact .non
  | .bool _, _, h, _, _ => by cases h; exact .bl _
  | .int _, _, h, _, _ => by cases h; exact .int _
  | .str _, _, h, _, _ => by cases h; exact .str _
  | .tuple ds, _, h, e, s => by
    cases h with
    | tup q r => exact .tup (seqT s q) (Rps.dp r (by simpa [PyData.canLay0] using e) s)
  | .list ds, _, h, e, s => by
    cases h with
    | lst q r => exact .lst (seqL s q) (Rps.dp r (by simpa [PyData.canLay0] using e) s)
  | .dict _, _, _, e, _ => by simp [PyData.canLay0] at e
theorem Rps.dp : ∀ {ds : List PyData} {vs : List V}, Rps K H vs ds → PyData.canLayAll0 ds = true → Same H H' → DpAll K H' vs ds
  | [], _, h, _, _ => by cases h; exact .nil
  | d :: ds, _, h, e, s => by
    cases h with
    | cons h r =>
      have e' : d.canLay0 = true ∧ PyData.canLayAll0 ds = true := by simpa [PyData.canLayAll0] using e
      exact .cons (Rp.dp h e'.1 s) (Rps.dp r e'.2 s)
end
end
structure VRel (K : PySem.W.Frag) (F : Hp) (σ : L2.St) (ρ : Vars) : Prop where
  len : σ.length = ρ.length
  get : ∀ (i : Nat) (d : PyData), ρ[i]? = some (some d) → ∃ v, σ[i]? = some (some v) ∧ Rp K F v d
theorem VRel.mono {K : PySem.W.Frag} {F F' : Hp} {σ : L2.St} {ρ : Vars} (h : VRel K F σ ρ) (s : Same F F') : VRel K F' σ ρ := ⟨h.len, fun i d e => by
  obtain ⟨v, h1, h2⟩ := h.get i d e
  exact ⟨v, h1, h2.mono s⟩⟩
theorem VRel.set {K : PySem.W.Frag} {F : Hp} {σ : L2.St} {ρ : Vars} {i : Nat} {v : V} {d : PyData} (h : VRel K F σ ρ) (r : Rp K F v d) : VRel K F (σ.set i (some v)) (ρ.set i (some d)) := ⟨by simpa using h.len, fun j e q => by
  have hl := h.len
  by_cases c : i = j
  · subst c
    by_cases hi : i < ρ.length
    · rw [List.getElem?_set_self hi] at q
      cases q
      exact ⟨v, List.getElem?_set_self (by omega), r⟩
    · rw [List.getElem?_eq_none (by simpa using hi)] at q; cases q
  · rw [List.getElem?_set_ne c] at q
    obtain ⟨w, h1, h2⟩ := h.get j e q
    exact ⟨w, by rw [List.getElem?_set_ne c]; exact h1, h2⟩⟩
def exV (mg : Str → Option Value) (c : Str) : Value := (mg c).getD .none
section
variable (X : Cx) (W : WX)
def EOut (O : List Addr) (σ : L2.St) (H : Hp) (Q : VK) : R PyData → Prop
  | .ok d => ∀ v H', Same H H' → Rp X.K (hide O H') v d → Q v H'
  | .err c => ∀ H', Same H H' → W (exV X.mg c) none σ H'
  | .bad => False
def AOut (O : List Addr) (σ : L2.St) (H : Hp) (Q : List V → Hp → Prop) : R (List PyData) → Prop
  | .ok ds => ∀ vs H', Same H H' → Rps X.K (hide O H') vs ds → Q vs H'
  | .err c => ∀ H', Same H H' → W (exV X.mg c) none σ H'
  | .bad => False
def TOut (σ : L2.St) (H : Hp) (Q : Bool → Hp → Prop) : R Bool → Prop
  | .ok b => ∀ H', Same H H' → Q b H'
  | .err c => ∀ H', Same H H' → W (exV X.mg c) none σ H'
  | .bad => False
def EX (e : Expr) (f : Vars → R PyData) : Prop :=
  ∃ t, PE X e t ∧ ∀ σ H O ρ Q, Stands O H → VRel X.K (hide O H) σ ρ → EOut X W O σ H Q (f ρ) → t σ H Q
def AX (es : List Expr) (f : Vars → R (List PyData)) : Prop :=
  ∃ t, PA X es t ∧ ∀ σ H O ρ Q, Stands O H → VRel X.K (hide O H) σ ρ → AOut X W O σ H Q (f ρ) → t σ H Q
def TX (e : Expr) (f : Vars → R Bool) : Prop :=
  ∃ t, PT X e t ∧ ∀ σ H O ρ Q, Stands O H → VRel X.K (hide O H) σ ρ → TOut X W σ H Q (f ρ) → t σ H Q
def WX' (e : Expr) (f : Vars → R Bool) : Prop :=
  ∃ t, PW X e t ∧ ∀ σ H O ρ Q, Stands O H → VRel X.K (hide O H) σ ρ → TOut X W σ H Q (f ρ) → t σ H Q
def OX (e : Option Expr) (f : Vars → R (Option Int)) : Prop :=
  ∃ t, PO X e t ∧ ∀ σ H O ρ (Q : Option Int → Hp → Prop), Stands O H → VRel X.K (hide O H) σ ρ →
    (match f ρ with
      | .ok o => ∀ H', Same H H' → Q o H'
      | .err c => ∀ H', Same H H' → W (exV X.mg c) none σ H'
      | .bad => False) → t σ H Q
end
section
variable (X : Cx) (W : WX)
def tE (f : Vars → R PyData) : TE := fun σ H Q => ∃ O ρ, Stands O H ∧ VRel X.K (hide O H) σ ρ ∧ EOut X W O σ H Q (f ρ)
def tT (f : Vars → R Bool) : TT := fun σ H Q => ∃ O ρ, Stands O H ∧ VRel X.K (hide O H) σ ρ ∧ TOut X W σ H Q (f ρ)
end
theorem EX.pe {X : Cx} {W : WX} {e : Expr} {f : Vars → R PyData} (h : EX X W e f) : PE X e (tE X W f) := by
  obtain ⟨t, p, ht⟩ := h
  exact ⟨fun pins s σ H Q I ⟨O, ρ, h1, h2, h3⟩ => p.run pins s σ H Q I (ht σ H O ρ Q h1 h2 h3)⟩
theorem TX.pt {X : Cx} {W : WX} {e : Expr} {f : Vars → R Bool} (h : TX X W e f) : PT X e (tT X W f) := by
  obtain ⟨t, p, ht⟩ := h
  exact ⟨fun pins s σ H Q I ⟨O, ρ, h1, h2, h3⟩ => p.run pins s σ H Q I (ht σ H O ρ Q h1 h2 h3)⟩
section
variable {X : Cx} {W : WX}
theorem EOut.from {O : List Addr} {σ : L2.St} {H H1 : Hp} {Q : VK} {r : R PyData} (h : EOut X W O σ H Q r) (s : Same H H1) : EOut X W O σ H1 Q r := by
  cases r with
  | ok d => exact fun v H' s' r => h v H' (s.trans s') r
  | err c => exact fun H' s' => h H' (s.trans s')
  | bad => exact h
theorem AOut.from {O : List Addr} {σ : L2.St} {H H1 : Hp} {Q : List V → Hp → Prop} {r : R (List PyData)} (h : AOut X W O σ H Q r) (s : Same H H1) : AOut X W O σ H1 Q r := by
  cases r with
  | ok d => exact fun v H' s' r => h v H' (s.trans s') r
  | err c => exact fun H' s' => h H' (s.trans s')
  | bad => exact h
theorem TOut.from {σ : L2.St} {H H1 : Hp} {Q : Bool → Hp → Prop} {r : R Bool} (h : TOut X W σ H Q r) (s : Same H H1) : TOut X W σ H1 Q r := by
  cases r with
  | ok d => exact fun H' s' => h H' (s.trans s')
  | err c => exact fun H' s' => h H' (s.trans s')
  | bad => exact h
theorem EOut.then {O : List Addr} {σ : L2.St} {H : Hp} {r : R PyData} {β : Type} {g : PyData → R β} {P : R β → Prop} {Q : VK} (hb : P .bad → False) (he : ∀ c, P (.err c) → ∀ H', Same H H' → W (exV X.mg c) none σ H')
    (h : P (r.bind g)) (k : ∀ d v H', Same H H' → Rp X.K (hide O H') v d → P (g d) → Q v H') : EOut X W O σ H Q r := by
  cases r with
  | ok d => exact fun v H' s r => k d v H' s r h
  | err c => exact he c h
  | bad => exact hb h
theorem TOut.then {σ : L2.St} {H : Hp} {r : R Bool} {β : Type} {g : Bool → R β} {P : R β → Prop} {Q : Bool → Hp → Prop} (hb : P .bad → False) (he : ∀ c, P (.err c) → ∀ H', Same H H' → W (exV X.mg c) none σ H')
    (h : P (r.bind g)) (k : ∀ d H', Same H H' → P (g d) → Q d H') : TOut X W σ H Q r := by
  cases r with
  | ok d => exact fun H' s => k d H' s h
  | err c => exact he c h
  | bad => exact hb h
theorem AOut.then {O : List Addr} {σ : L2.St} {H : Hp} {r : R (List PyData)} {β : Type} {g : List PyData → R β} {P : R β → Prop} {Q : List V → Hp → Prop} (hb : P .bad → False) (he : ∀ c, P (.err c) → ∀ H', Same H H' → W (exV X.mg c) none σ H')
    (h : P (r.bind g)) (k : ∀ d v H', Same H H' → Rps X.K (hide O H') v d → P (g d) → Q v H') : AOut X W O σ H Q r := by
  cases r with
  | ok d => exact fun v H' s r => k d v H' s r h
  | err c => exact he c h
  | bad => exact hb h
theorem EOut.b {O : List Addr} {σ : L2.St} {H : Hp} {Q : VK} : EOut X W O σ H Q .bad → False := fun z => z
theorem EOut.e {O : List Addr} {σ : L2.St} {H : Hp} {Q : VK} (c : Str) : EOut X W O σ H Q (.err c) → ∀ H', Same H H' → W (exV X.mg c) none σ H' := fun z => z
theorem AOut.b {O : List Addr} {σ : L2.St} {H : Hp} {Q : List V → Hp → Prop} : AOut X W O σ H Q .bad → False := fun z => z
theorem AOut.e {O : List Addr} {σ : L2.St} {H : Hp} {Q : List V → Hp → Prop} (c : Str) : AOut X W O σ H Q (.err c) → ∀ H', Same H H' → W (exV X.mg c) none σ H' := fun z => z
theorem TOut.b {σ : L2.St} {H : Hp} {Q : Bool → Hp → Prop} : TOut X W σ H Q .bad → False := fun z => z
theorem TOut.e {σ : L2.St} {H : Hp} {Q : Bool → Hp → Prop} (c : Str) : TOut X W σ H Q (.err c) → ∀ H', Same H H' → W (exV X.mg c) none σ H' := fun z => z
def eVar (i : Nat) (ρ : Vars) : R PyData := R.of (ρ.getD i none)
theorem ex_var (i : Nat) {x : Str} {pos : Pos} (hN : X.N[i]? = some x := by rfl) (hv : Vis X.env.scope x := by first | exact Or.inl rfl | exact Or.inr (Or.inl rfl) | exact Or.inr (Or.inr rfl)) (hd : (x == ("__debug__" : Str)) = false := by decide)
    (hcd : (x == ("__classdict__" : Str)) = false := by decide) : EX X W (.Name x pos) (eVar i) := by
  refine ⟨_, pe_var hN hv hd hcd, fun σ H O ρ Q hO h q => ?_⟩
  unfold eVar at q
  rw [List.getD_eq_getElem?_getD] at q
  cases e : ρ[i]? with
  | none => rw [e] at q; exact q.elim
  | some o =>
    cases o with
    | none => rw [e] at q; exact q.elim
    | some d =>
      rw [e] at q
      obtain ⟨v, h1, h2⟩ := h.get i d e
      exact ⟨v, h1, q v H (Same.refl H) h2⟩
def eC (d : PyData) (_ : Vars) : R PyData := .ok d
theorem ex_c {e : Expr} {v : V} {d : PyData} (h : PE X e (tC v)) (r : ∀ H, Rp X.K H v d) : EX X W e (eC d) :=
  ⟨_, h, fun σ H O ρ Q _ _ q => q v H (Same.refl H) (r _)⟩
theorem ex_int {i j pos} : EX X W (.Constant (.int i) j pos) (eC (.int i)) := ex_c pe_int fun _ => .int i
theorem ex_bl {i j pos} : EX X W (.Constant (.bool i) j pos) (eC (.bool i)) := ex_c pe_bl fun _ => .bl i
theorem ex_non {j pos} : EX X W (.Constant .none j pos) (eC .none) := ex_c pe_non fun _ => .non
theorem ex_str {i j pos} : EX X W (.Constant (.str i) j pos) (eC (.str i)) := ex_c pe_str fun _ => .str i
def aNil (_ : Vars) : R (List PyData) := .ok []
def aCons (f : Vars → R PyData) (g : Vars → R (List PyData)) (ρ : Vars) : R (List PyData) := (f ρ).bind fun d => (g ρ).bind fun ds => .ok (d :: ds)
theorem ax_nil : AX X W [] aNil := ⟨_, pa_nil, fun σ H O ρ Q _ _ q => q [] H (Same.refl H) .nil⟩
theorem ax_cons {e : Expr} {es : List Expr} {f : Vars → R PyData} {g : Vars → R (List PyData)} (h : EX X W e f) (k : AX X W es g) (hs : starEach (e :: es) X.env = (false, eval e X.env) :: starEach es X.env := by rfl) : AX X W (e :: es) (aCons f g) := by
  obtain ⟨t, p, ht⟩ := h
  obtain ⟨u, q, hu⟩ := k
  refine ⟨_, pa_cons p q hs, fun σ H O ρ Q hO hr z => ht σ H O ρ _ hO hr (EOut.then (g := fun d => (g ρ).bind fun ds => .ok (d :: ds)) AOut.b AOut.e z fun d v H1 s1 r1 z1 => ?_)⟩
  refine hu σ H1 O ρ _ (hO.same s1) (hr.mono (hide_same s1)) (AOut.then (g := fun ds => .ok (d :: ds)) AOut.b AOut.e (z1.from s1) fun ds vs H2 s2 r2 z2 => ?_)
  exact z2 (v :: vs) H2 s2 (.cons (r1.mono (hide_same s2)) r2)
def eTup (f : Vars → R (List PyData)) (ρ : Vars) : R PyData := (f ρ).bind fun ds => if ds.length ≤ sizeLine then .ok (.tuple ds) else .bad
def eLst (f : Vars → R (List PyData)) (ρ : Vars) : R PyData := (f ρ).bind fun ds => if ds.length ≤ sizeLine then .ok (.list ds) else .bad
theorem new_rep {K : PySem.W.Frag} {O : List Addr} {H : Hp} {p : Addr} {vs : List V} {ds : List PyData} (hO : Stands O H) (hp : H p = none) (r : Rps K (hide O H) vs ds) : Rp K (hide O (upd H p (.tup vs))) (.ref p) (.tuple ds) :=
  .tup (.inl (.inl (hide_of (hO.new hp) upd_same))) (r.mono (hide_same (same_new hp)))
theorem new_repL {K : PySem.W.Frag} {O : List Addr} {H : Hp} {p : Addr} {vs : List V} {ds : List PyData} (hO : Stands O H) (hp : H p = none) (r : Rps K (hide O H) vs ds) : Rp K (hide O (upd H p (.lst vs))) (.ref p) (.list ds) :=
  .lst (.inl (.inl (hide_of (hO.new hp) upd_same))) (r.mono (hide_same (same_new hp)))
theorem ex_tup {es : List Expr} {f : Vars → R (List PyData)} {k : Nat} {pos : Pos} (h : AX X W es f) : EX X W (.Tuple es k pos) (eTup f) := by
  obtain ⟨t, p, ht⟩ := h
  refine ⟨_, pe_tup p, fun σ H O ρ Q hO hr z => ht σ H O ρ _ hO hr (AOut.then EOut.b EOut.e z fun ds vs H1 s1 r1 z1 => ?_)⟩
  by_cases c : ds.length ≤ sizeLine
  · rw [if_pos c] at z1
    exact ⟨by rw [r1.length]; exact c, fun p hp => z1 _ _ (s1.trans (same_new hp)) (new_rep (hO.same s1) hp r1)⟩
  · rw [if_neg c] at z1; exact z1.elim
theorem ex_lst {es : List Expr} {f : Vars → R (List PyData)} {pos : Pos} (h : AX X W es f) : EX X W (.List es pos) (eLst f) := by
  obtain ⟨t, p, ht⟩ := h
  refine ⟨_, pe_lst p, fun σ H O ρ Q hO hr z => ht σ H O ρ _ hO hr (AOut.then EOut.b EOut.e z fun ds vs H1 s1 r1 z1 => ?_)⟩
  by_cases c : ds.length ≤ sizeLine
  · rw [if_pos c] at z1
    exact ⟨by rw [r1.length]; exact c, fun p hp => z1 _ _ (s1.trans (same_new hp)) (new_repL (hO.same s1) hp r1)⟩
  · rw [if_neg c] at z1; exact z1.elim
def Op2 (K : PySem.W.Frag) (r : R2) (g : PyData → PyData → Option PyData) : Prop :=
  ∀ (H : Hp) (O : List Addr) (x y : V) (d e : PyData) (z : PyData) (Q : VK), Stands O H → Rp K (hide O H) x d → Rp K (hide O H) y e → g d e = some z → (∀ v H', Same H H' → Rp K (hide O H') v z → Q v H') → r x y H Q
def eOp (g : PyData → PyData → Option PyData) (f h : Vars → R PyData) (ρ : Vars) : R PyData := (f ρ).bind fun d => (h ρ).bind fun e => R.of (g d e)
theorem op_run {r : R2} {g : PyData → PyData → Option PyData} (ho : Op2 X.K r g) {ta tb : TE} {f h : Vars → R PyData}
    (ha : ∀ σ H O ρ Q, Stands O H → VRel X.K (hide O H) σ ρ → EOut X W O σ H Q (f ρ) → ta σ H Q) (hb : ∀ σ H O ρ Q, Stands O H → VRel X.K (hide O H) σ ρ → EOut X W O σ H Q (h ρ) → tb σ H Q) :
    ∀ σ H O ρ Q, Stands O H → VRel X.K (hide O H) σ ρ → EOut X W O σ H Q (eOp g f h ρ) → tOp r ta tb σ H Q := fun σ H O ρ Q hO hr z =>
  ha σ H O ρ _ hO hr (EOut.then (g := fun d => (h ρ).bind fun e => R.of (g d e)) EOut.b EOut.e z fun d v H1 s1 r1 z1 =>
    hb σ H1 O ρ _ (hO.same s1) (hr.mono (hide_same s1)) (EOut.then (g := fun e => R.of (g d e)) EOut.b EOut.e (z1.from s1) fun e v2 H2 s2 r2 z2 => by
      cases q : g d e with
      | none => rw [q] at z2; exact z2.elim
      | some w =>
        rw [q] at z2
        exact ho H2 O v v2 d e w Q ((hO.same s1).same s2) (r1.mono (hide_same s2)) r2 q fun v' H' s' r' => z2 v' H' (s2.trans s') r'))
theorem ex_op {op : Operator} {r : R2} {g : PyData → PyData → Option PyData} {a b : Expr} {f h : Vars → R PyData} {pos : Pos} (hr : OpR X (binaryOp op) r) (ho : Op2 X.K r g) (ha : EX X W a f) (hb : EX X W b h) : EX X W (.BinOp a op b pos) (eOp g f h) := by
  obtain ⟨ta, p, hta⟩ := ha
  obtain ⟨tb, q, htb⟩ := hb
  exact ⟨_, pe_op hr p q, op_run ho hta htb⟩
theorem ex_cmp {op : CmpOp} {r : R2} {g : PyData → PyData → Option PyData} {a b : Expr} {f h : Vars → R PyData} {pos : Pos} (hr : OpR X (compareOp op) r) (ho : Op2 X.K r g) (ha : EX X W a f) (hb : EX X W b h) (hm : behindInMarks op b = false) : EX X W (.Compare a [op] [b] pos) (eOp g f h) := by
  obtain ⟨ta, p, hta⟩ := ha
  obtain ⟨tb, q, htb⟩ := hb
  exact ⟨_, pe_cmpR hr p q hm, op_run ho hta htb⟩
theorem ex_ix {r : R2} {g : PyData → PyData → Option PyData} {a b : Expr} {f h : Vars → R PyData} {pos : Pos} (hr : IxR X r) (ho : Op2 X.K r g) (ha : EX X W a f) (hb : EX X W b h) (hs : PlainIx b) : EX X W (.Subscript a b pos) (eOp g f h) := by
  obtain ⟨ta, p, hta⟩ := ha
  obtain ⟨tb, q, htb⟩ := hb
  exact ⟨_, pe_ix hr p q hs, op_run ho hta htb⟩
def tOf (f : Vars → R PyData) (ρ : Vars) : R Bool := (f ρ).bind fun d => match d with
  | .bool b => .ok b
  | _ => .bad
theorem tx_cmp {op : CmpOp} {r : R2} {g : PyData → PyData → Option PyData} {a b : Expr} {f h : Vars → R PyData} {pos : Pos} (hr : OpR X (compareOp op) r) (ho : Op2 X.K r g) (ha : EX X W a f) (hb : EX X W b h) (hm : behindInMarks op b = false) : TX X W (.Compare a [op] [b] pos) (tOf (eOp g f h)) := by
  obtain ⟨ta, p, hta⟩ := ha
  obtain ⟨tb, q, htb⟩ := hb
  refine ⟨_, pt_cmpR hr p q hm, fun σ H O ρ Q hO hv z => op_run ho hta htb σ H O ρ _ hO hv (EOut.then TOut.b TOut.e z fun d v H1 s1 r1 z1 => ?_)⟩
  cases r1 with
  | bl b => exact ⟨b, rfl, z1 H1 s1⟩
  | _ => exact z1.elim
def truD : PyData → Option Bool
  | .none => some false
  | .bool b => some b
  | .int i => some (i != 0)
  | .str x => if x.length ≤ sizeLine then some ((x.length : Int) != 0) else none
  | .list xs => some (!xs.isEmpty)
  | .tuple xs => some (!xs.isEmpty)
  | .dict _ => none
def tTru (f : Vars → R PyData) (ρ : Vars) : R Bool := (f ρ).bind fun d => R.of (truD d)
theorem Rps.isEmpty {K : PySem.W.Frag} {H : Hp} {vs : List V} {ds : List PyData} (r : Rps K H vs ds) : vs.isEmpty = ds.isEmpty := by
  cases r <;> rfl
theorem truV_of {K : PySem.W.Frag} {H : Hp} {v : V} {d : PyData} {b : Bool} (r : Rp K H v d) (e : truD d = some b) {H' : Hp} (s : Same H H') : TruV K v H' b := by
  cases r with
  | non => cases e; rfl
  | bl _ => cases e; rfl
  | int _ => cases e; rfl
  | str x =>
    unfold truD at e
    dsimp only at e
    by_cases c : x.length ≤ sizeLine
    · rw [if_pos c] at e; cases e; exact ⟨c, rfl⟩
    · rw [if_neg c] at e; cases e
  | lst h r => cases e; exact .inl ⟨_, seqL s h, by rw [r.isEmpty]⟩
  | tup h r => cases e; exact .inr (.inl ⟨_, seqT s h, by rw [r.isEmpty]⟩)
  | dic _ _ => cases e
  | ins _ _ _ _ => cases e
  | fn _ => cases e
  | fn0 => cases e
  | dct => cases e
  | tpx => cases e
theorem tx_tru {a : Expr} {f : Vars → R PyData} (h : EX X W a f) (he : ∀ whole, isTrue a X.env whole = (do let v ← whole; standAt a.pos; holding [v] (truthy v)) := by intro _; rfl) : TX X W a (tTru f) := by
  obtain ⟨t, p, ht⟩ := h
  refine ⟨_, pt_truth p he, fun σ H O ρ Q hO hv z => ht σ H O ρ _ hO hv (EOut.then TOut.b TOut.e z fun d v H1 s1 r1 z1 => ?_)⟩
  cases q : truD d with
  | none => rw [q] at z1; exact z1.elim
  | some b =>
    rw [q] at z1
    exact ⟨b, truV_of r1 q hide_sub, z1 H1 s1⟩
def tNotR (f : Vars → R Bool) (ρ : Vars) : R Bool := (f ρ).bind fun b => .ok (!b)
def tAndR (f g : Vars → R Bool) (ρ : Vars) : R Bool := (f ρ).bind fun b => if b = true then g ρ else .ok false
def tOrR (f g : Vars → R Bool) (ρ : Vars) : R Bool := (f ρ).bind fun b => if b = true then .ok true else g ρ
theorem tx_not {a : Expr} {f : Vars → R Bool} {pos : Pos} (h : TX X W a f) : TX X W (.UnaryOp .Not a pos) (tNotR f) := by
  obtain ⟨t, p, ht⟩ := h
  exact ⟨_, pt_not p, fun σ H O ρ Q hO hv z => ht σ H O ρ _ hO hv (TOut.then TOut.b TOut.e z fun d H1 s1 z1 => z1 H1 s1)⟩
theorem wx_and1 {a : Expr} {f : Vars → R Bool} {pos : Pos} (h : TX X W a f) : WX' X W (.BoolOp .And [a] pos) f := by
  obtain ⟨t, p, ht⟩ := h
  exact ⟨_, pw_and1 p, ht⟩
theorem wx_or1 {a : Expr} {f : Vars → R Bool} {pos : Pos} (h : TX X W a f) : WX' X W (.BoolOp .Or [a] pos) f := by
  obtain ⟨t, p, ht⟩ := h
  exact ⟨_, pw_or1 p, ht⟩
theorem wx_and {a b : Expr} {rest : List Expr} {f g : Vars → R Bool} {pos : Pos} (h : TX X W a f) (k : WX' X W (.BoolOp .And (b :: rest) pos) g) : WX' X W (.BoolOp .And (a :: b :: rest) pos) (tAndR f g) := by
  obtain ⟨t, p, ht⟩ := h
  obtain ⟨u, q, hu⟩ := k
  refine ⟨_, pw_and p q, fun σ H O ρ Q hO hv z => ht σ H O ρ _ hO hv (TOut.then (g := fun b => if b = true then g ρ else .ok false) TOut.b TOut.e z fun d H1 s1 z1 => ?_)⟩
  cases d with
  | true => exact hu σ H1 O ρ Q (hO.same s1) (hv.mono (hide_same s1)) (z1.from s1)
  | false => exact z1 H1 s1
theorem wx_or {a b : Expr} {rest : List Expr} {f g : Vars → R Bool} {pos : Pos} (h : TX X W a f) (k : WX' X W (.BoolOp .Or (b :: rest) pos) g) : WX' X W (.BoolOp .Or (a :: b :: rest) pos) (tOrR f g) := by
  obtain ⟨t, p, ht⟩ := h
  obtain ⟨u, q, hu⟩ := k
  refine ⟨_, pw_or p q, fun σ H O ρ Q hO hv z => ht σ H O ρ _ hO hv (TOut.then (g := fun b => if b = true then .ok true else g ρ) TOut.b TOut.e z fun d H1 s1 z1 => ?_)⟩
  cases d with
  | true => exact z1 H1 s1
  | false => exact hu σ H1 O ρ Q (hO.same s1) (hv.mono (hide_same s1)) (z1.from s1)
theorem WX'.tx {e : Expr} {f : Vars → R Bool} (h : WX' X W e f) : TX X W e f := by
  obtain ⟨t, p, ht⟩ := h
  exact ⟨_, p.pt, ht⟩
def eAnd (f g : Vars → R PyData) (ρ : Vars) : R PyData := (tOf f ρ).bind fun b => if b = true then g ρ else .ok (.bool false)
def eNot (f : Vars → R PyData) (ρ : Vars) : R PyData := (tOf f ρ).bind fun b => .ok (.bool (!b))
theorem tOf_run {f : Vars → R PyData} {t : TE} (ht : ∀ σ H O ρ Q, Stands O H → VRel X.K (hide O H) σ ρ → EOut X W O σ H Q (f ρ) → t σ H Q) {σ : L2.St} {H : Hp} {O : List Addr} {ρ : Vars} {Q : VK} {β : Type} {g : Bool → R β} {P : R β → Prop} (hO : Stands O H) (hv : VRel X.K (hide O H) σ ρ)
    (hb : P .bad → False) (he : ∀ c, P (.err c) → ∀ H', Same H H' → W (exV X.mg c) none σ H') (z : P ((tOf f ρ).bind g)) (k : ∀ b H', Same H H' → P (g b) → Q (.bl b) H') : t σ H Q := by
  refine ht σ H O ρ _ hO hv ?_
  unfold tOf at z
  cases q : f ρ with
  | bad => rw [q] at z; exact hb z
  | err c => rw [q] at z; exact he c z
  | ok d =>
    rw [q] at z
    refine fun v H1 s1 r1 => ?_
    cases r1 with
    | bl b => exact k b H1 s1 z
    | _ => exact (hb z).elim
theorem ex_one {op} {a : Expr} {f : Vars → R PyData} {pos : Pos} (h : EX X W a f) : EX X W (.BoolOp op [a] pos) f := by
  obtain ⟨t, p, ht⟩ := h
  exact ⟨_, pe_one p, ht⟩
theorem ex_and {a b : Expr} {rest : List Expr} {f g : Vars → R PyData} {pos : Pos} (h : EX X W a f) (k : EX X W (.BoolOp .And (b :: rest) pos) g) : EX X W (.BoolOp .And (a :: b :: rest) pos) (eAnd f g) := by
  obtain ⟨t, p, ht⟩ := h
  obtain ⟨u, q, hu⟩ := k
  refine ⟨_, pe_and p q, fun σ H O ρ Q hO hv z => tOf_run (g := fun b => if b = true then g ρ else .ok (.bool false)) ht hO hv EOut.b EOut.e z fun b H1 s1 z1 => ⟨b, rfl, ?_⟩⟩
  cases b with
  | true => exact hu σ H1 O ρ Q (hO.same s1) (hv.mono (hide_same s1)) (z1.from s1)
  | false => exact z1 _ H1 s1 (.bl false)
theorem ex_not {a : Expr} {f : Vars → R PyData} {pos : Pos} (h : EX X W a f) : EX X W (.UnaryOp .Not a pos) (eNot f) := by
  obtain ⟨t, p, ht⟩ := h
  exact ⟨_, pe_not p, fun σ H O ρ Q hO hv z => tOf_run (g := fun b => .ok (.bool (!b))) ht hO hv EOut.b EOut.e z fun b H1 s1 z1 => ⟨b, rfl, z1 _ H1 s1 (.bl _)⟩⟩
def eIf (c : Vars → R Bool) (f g : Vars → R PyData) (ρ : Vars) : R PyData := (c ρ).bind fun b => if b = true then f ρ else g ρ
theorem ex_if {c a b : Expr} {h : Vars → R Bool} {f g : Vars → R PyData} {pos : Pos} (hc : TX X W c h) (ha : EX X W a f) (hb : EX X W b g) : EX X W (.IfExp c a b pos) (eIf h f g) := by
  obtain ⟨t, p, ht⟩ := hc
  obtain ⟨ta, pa, hta⟩ := ha
  obtain ⟨tb, pb, htb⟩ := hb
  refine ⟨_, pe_ifExp p pa pb, fun σ H O ρ Q hO hv z => ht σ H O ρ _ hO hv (TOut.then (g := fun b => if b = true then f ρ else g ρ) EOut.b EOut.e z fun d H1 s1 z1 => ?_)⟩
  cases d with
  | true => exact hta σ H1 O ρ Q (hO.same s1) (hv.mono (hide_same s1)) (z1.from s1)
  | false => exact htb σ H1 O ρ Q (hO.same s1) (hv.mono (hide_same s1)) (z1.from s1)
end
end Pu
set_option Elab.async false
set_option linter.all false
set_option maxRecDepth 100000
set_option maxHeartbeats 4000000
namespace Pu
open PySem PySem.Spec PyProof.Rows L2
theorem int_sub_bool_bool (a b : Bool) : Gives (Builtin.«int.__sub__» ⟨[.bool a, .bool b], []⟩) (.int ((if a = true then (1 : Int) else 0) - (if b = true then (1 : Int) else 0))) :=
  .of_wp fun M A E s Q h => by obtain ⟨hp, g, d, tk, os⟩ := s; wp_walk; exact ⟨_, rfl, h⟩
theorem sub_bb {prog : Program} {w : World} {A : Around} {E : Value → Shared → Prop} {s : Shared} {a b : Bool} {Q : Value → Shared → Prop}
    (h : Q (.int ((if a = true then (1 : Int) else 0) - (if b = true then (1 : Int) else 0)) s.toks) { s with toks := s.toks + 1 }) : wpAny (model prog w) A (binaryOp .Sub (.bool a) (.bool b)) Q E s :=
  binaryOp_gives (op := .Sub) (T := "bool") rfl rfl F.fills_bool_sub F.slot_bool_sub F.entry_int_sub (F.args_int_sub_2 _ _) (int_sub_bool_bool a b) trivial h
section
variable {X : Cx}
def rSubB : R2 := fun x y H Q => ∃ a b, x = .bl a ∧ y = .bl b ∧ Q (.int ((if a = true then (1 : Int) else 0) - (if b = true then (1 : Int) else 0))) H
theorem op_subB : OpR X (binaryOp .Sub) rSubB := by
  intro pins s σ H x y v u Q I rx ry h
  obtain ⟨a, b, rfl, rfl, q⟩ := h
  cases rx
  cases ry
  exact sub_bb ⟨.int _, H, I.tok _, ⟨_, rfl⟩, q⟩
def rCatL (K : PySem.W.Frag) : R2 := fun x y H Q => ∃ l b xs zs, x = .ref l ∧ y = .ref b ∧ SqL K H l xs ∧ SqL K H b zs ∧ xs.length + zs.length ≤ sizeLine ∧ ∀ p, H p = none → Q (.ref p) (upd H p (.lst (xs ++ zs)))
theorem plain_get {h : Heap} {a : Addr} {its : Array Value} (p : PlainL h a its) : ∃ (n : Nat) (sl : Array (Option Value)), h.get? a = some { cls := .type "list", data := .seq its n, slots := sl } := by
  obtain ⟨⟨c, d, dt, sl⟩, n, e, hc, hd, hs⟩ := p
  simp only at hc hd hs
  subst hc hd hs
  exact ⟨n, sl, e⟩
end
theorem op_catL {X : Cx} : OpR X (binaryOp .Add) (rCatL X.K) := by
  intro pins s σ H x y v u Q I rx ry h
  obtain ⟨l, b, xs, zs, rfl, rfl, hH, hB, hz, q⟩ := h
  cases rx
  cases ry
  obtain ⟨its, r, pl, hl⟩ := I.list hH
  obtain ⟨its2, r2, pl2, hl2⟩ := I.list hB
  obtain ⟨n, sl, e⟩ := plain_get pl
  obtain ⟨n2, sl2, e2⟩ := plain_get pl2
  have l1 := r.length
  have l2 := r2.length
  refine concat_meets ⟨_, e, rfl⟩ ⟨_, e2, rfl⟩ noFill_list_add seq_list_add PySem.F.slot_list_add PySem.F.entry_list_add (PySem.F.args_list_add_2 _ _)
    (PyProof.Rows.list_addW l b its.toArray its2.toArray n n2 none none sl sl2 (by rw [List.size_toArray, List.size_toArray]; omega)) ⟨e, e2, ?_⟩
  have ea : its.toArray ++ its2.toArray = (its ++ its2).toArray := by simp
  rw [ea]
  exact ⟨.ref _, _, I.lnew (t' := s.toks) (r.append r2) (by rw [List.length_append]; omega), rfl, q _ I.fresh⟩
def gAdd : PyData → PyData → Option PyData
  | .int i, .int j => some (.int (i + j))
  | .tuple xs, .tuple ys => if xs.length + ys.length ≤ sizeLine then some (.tuple (xs ++ ys)) else none
  | .list xs, .list ys => if xs.length + ys.length ≤ sizeLine then some (.list (xs ++ ys)) else none
  | .str x, .str y => if x.length + y.length ≤ sizeLine then some (.str (x ++ y)) else none
  | _, _ => none
abbrev rAddD (K : PySem.W.Frag) : R2 := fun x y H Q => (∃ i j, x = .int i ∧ y = .int j ∧ Q (.int (i + j)) H) ∨ rCatA K x y H Q ∨ (∃ i j, x = .str i ∧ y = .str j ∧ i.length + j.length ≤ sizeLine ∧ Q (.str (i ++ j)) H) ∨ rCatL K x y H Q
theorem opr_add {X : Cx} : OpR X (binaryOp .Add) (rAddD X.K) := op_add.or (op_catA.or (op_add_str.or op_catL))
theorem rps_nil {K : PySem.W.Frag} {H : Hp} {xs : List V} {ds : List PyData} (r : Rps K H xs ds) : xs = [] ↔ ds = [] := by
  constructor
  · intro e; subst e; cases r; rfl
  · intro e; subst e; cases r; rfl
theorem op2_add {K : PySem.W.Frag} : Op2 K (rAddD K) gAdd := by
  intro H O x y d e z Q hO rx ry h q
  cases rx with
  | int i =>
    cases ry with
    | int j => cases h; exact .inl ⟨i, j, rfl, rfl, q _ H (Same.refl H) (.int _)⟩
    | _ => cases h
  | str i =>
    cases ry with
    | str j =>
      unfold gAdd at h
      dsimp only at h
      by_cases c : i.length + j.length ≤ sizeLine
      · rw [if_pos c] at h; cases h
        exact .inr (.inr (.inl ⟨i, j, rfl, rfl, c, q _ H (Same.refl H) (.str _)⟩))
      · rw [if_neg c] at h; cases h
    | _ => cases h
  | @tup a xs ds hx rs =>
    cases ry with
    | @tup b ys es hy rt =>
      unfold gAdd at h
      dsimp only at h
      by_cases c : ds.length + es.length ≤ sizeLine
      · rw [if_pos c] at h; cases h
        have hx' := seqT (hide_sub (O := O)) hx
        have hy' := seqT (hide_sub (O := O)) hy
        refine .inr (.inl ⟨a, b, xs, ys, rfl, rfl, hx', hy', by rw [rs.length, rt.length]; exact c, fun n => ?_, fun n n2 => ?_, fun n n2 p hp => ?_⟩)
        · have : ds = [] := (rps_nil rs).mp n
          subst this
          exact q _ H (Same.refl H) (.tup hy rt)
        · have : es = [] := (rps_nil rt).mp n2
          subst this
          rw [List.append_nil] at q
          exact q _ H (Same.refl H) (.tup hx rs)
        · exact q _ _ (same_new hp) (new_rep hO hp (rs.append rt))
      · rw [if_neg c] at h; cases h
    | _ => cases h
  | @lst a xs ds hx rs =>
    cases ry with
    | @lst b ys es hy rt =>
      unfold gAdd at h
      dsimp only at h
      by_cases c : ds.length + es.length ≤ sizeLine
      · rw [if_pos c] at h; cases h
        exact .inr (.inr (.inr ⟨a, b, xs, ys, rfl, rfl, seqL hide_sub hx, seqL hide_sub hy, by rw [rs.length, rt.length]; exact c, fun p hp => q _ _ (same_new hp) (new_repL hO hp (rs.append rt))⟩))
      · rw [if_neg c] at h; cases h
    | _ => cases h
  | _ => cases h
def gSub : PyData → PyData → Option PyData
  | .int i, .int j => some (.int (i - j))
  | .bool a, .bool b => some (.int ((if a = true then (1 : Int) else 0) - (if b = true then (1 : Int) else 0)))
  | _, _ => none
abbrev rSubD : R2 := fun x y H Q => (∃ i j, x = .int i ∧ y = .int j ∧ Q (.int (i - j)) H) ∨ rSubB x y H Q
theorem opr_sub {X : Cx} : OpR X (binaryOp .Sub) rSubD := op_sub.or op_subB
theorem op2_sub {K : PySem.W.Frag} : Op2 K rSubD gSub := by
  intro H O x y d e z Q hO rx ry h q
  cases rx with
  | int i =>
    cases ry with
    | int j => cases h; exact .inl ⟨i, j, rfl, rfl, q _ H (Same.refl H) (.int _)⟩
    | _ => cases h
  | bl i =>
    cases ry with
    | bl j => cases h; exact .inr ⟨i, j, rfl, rfl, q _ H (Same.refl H) (.int _)⟩
    | _ => cases h
  | _ => cases h
def gInt (C : Int → Int → Bool) (g : Int → Int → PyData) : PyData → PyData → Option PyData
  | .int i, .int j => if C i j = true then some (g i j) else none
  | _, _ => none
theorem op2_int {K : PySem.W.Frag} {P : Int → Int → Prop} {C : Int → Int → Bool} {g : Int → Int → PyData} {gv : Int → Int → V} (hc : ∀ i j, C i j = true → P i j) (hg : ∀ H i j, Rp K H (gv i j) (g i j)) : Op2 K (rI P gv) (gInt C g) := by
  intro H O x y d e z Q hO rx ry h q
  cases rx with
  | int i =>
    cases ry with
    | int j =>
      unfold gInt at h
      dsimp only at h
      by_cases c : C i j = true
      · rw [if_pos c] at h; cases h
        exact ⟨i, j, rfl, rfl, hc i j c, q _ H (Same.refl H) (hg _ i j)⟩
      · rw [if_neg c] at h; cases h
    | _ => cases h
  | _ => cases h
def cDiv (_ j : Int) : Bool := decide (0 < j) && decide (j.natAbs.log2 < 9000)
def cMod (_ j : Int) : Bool := decide (0 < j)
def cPow (i j : Int) : Bool := decide (0 ≤ j) && decide (j ≤ 1000000) && decide (i.natAbs < 2 ^ 64)
abbrev gDiv := gInt cDiv fun i j => .int (i / j)
abbrev gMod := gInt cMod fun i j => .int (i % j)
abbrev gPow := gInt cPow fun i j => .int (i ^ j.toNat)
theorem op2_div {K : PySem.W.Frag} : Op2 K (rI CDivW fun i j => .int (i / j)) gDiv := op2_int (fun _ _ h => by unfold cDiv at h; rw [Bool.and_eq_true] at h; exact ⟨of_decide_eq_true h.1, of_decide_eq_true h.2⟩) fun _ _ _ => .int _
theorem op2_mod {K : PySem.W.Frag} : Op2 K (rI (fun _ j => 0 < j) fun i j => .int (i % j)) gMod := op2_int (fun _ _ h => of_decide_eq_true h) fun _ _ _ => .int _
theorem op2_pow {K : PySem.W.Frag} : Op2 K (rI CPow fun i j => .int (i ^ j.toNat)) gPow := op2_int (fun _ _ h => by
  unfold cPow at h; rw [Bool.and_eq_true, Bool.and_eq_true] at h; exact ⟨of_decide_eq_true h.1.1, of_decide_eq_true h.1.2, of_decide_eq_true h.2⟩) fun _ _ _ => .int _
def gCmp (p : Int → Int → Bool) : PyData → PyData → Option PyData
  | .int i, .int j => some (.bool (p i j))
  | _, _ => none
theorem op2_cmp {K : PySem.W.Frag} {p : Int → Int → Bool} : Op2 K (rI0 fun i j => .bl (p i j)) (gCmp p) := by
  intro H O x y d e z Q hO rx ry h q
  cases rx with
  | int i =>
    cases ry with
    | int j => cases h; exact ⟨i, j, rfl, rfl, q _ H (Same.refl H) (.bl _)⟩
    | _ => cases h
  | _ => cases h
abbrev gLt := gCmp fun i j => decide (i < j)
abbrev gGt := gCmp fun i j => decide (j < i)
abbrev gGe := gCmp fun i j => decide (j ≤ i)
def shp (d : PyData) : Bool := d.canLay0 && decide (d.depth ≤ 190)
theorem canLay_of_shp {d : PyData} (h : shp d = true) : d.canLay0 = true := (Bool.and_eq_true_iff.mp h).1
theorem depth_of_shp {d : PyData} (h : shp d = true) : d.depth ≤ 190 := of_decide_eq_true (Bool.and_eq_true_iff.mp h).2
theorem room_of_shp {A : Around} {da db : PyData} (h : shp da = true) (hu : A.units + 190 < cLine) : A.units + min da.depth db.depth < cLine := by
  have h1 := depth_of_shp h
  have h2 : min da.depth db.depth ≤ da.depth := Nat.min_le_left _ _
  omega
theorem _root_.L2.Room.un190 {k : Nat} {A : Around} (r : Room k A) : A.units + 190 < cLine := by have := r.un; omega
def rEqX (K : PySem.W.Frag) : R2 := fun x y H Q => ∃ d e, Dp K H x d ∧ Dp K H y e ∧ shp d = true ∧ shp e = true ∧ Q (.bl (PyData.eqv d e)) H
def rNeX (K : PySem.W.Frag) : R2 := fun x y H Q => ∃ d e, Dp K H x d ∧ Dp K H y e ∧ shp d = true ∧ shp e = true ∧ Q (.bl (!PyData.eqv d e)) H
theorem op_eqX {X : Cx} (hu : X.A.units + 190 < cLine) : OpR X (compareOp .Eq) (rEqX X.K) := by
  intro pins s σ H x y v u Q I rx ry h
  obtain ⟨d, e, hd, he, sd, se, q⟩ := h
  obtain ⟨as, r1⟩ := Dp.reads I d x v hd rx
  obtain ⟨bs, r2⟩ := Dp.reads I e y u he ry
  exact SeqAt.compareEq_reads r1 r2 (canLay_of_shp sd) (canLay_of_shp se) (room_of_shp sd hu) ⟨.bl _, H, I, rfl, q⟩
theorem op_neX {X : Cx} (hu : X.A.units + 190 < cLine) : OpR X (compareOp .NotEq) (rNeX X.K) := by
  intro pins s σ H x y v u Q I rx ry h
  obtain ⟨d, e, hd, he, sd, se, q⟩ := h
  obtain ⟨as, r1⟩ := Dp.reads I d x v hd rx
  obtain ⟨bs, r2⟩ := Dp.reads I e y u he ry
  exact SeqAt.compareNe_reads r1 r2 (canLay_of_shp sd) (canLay_of_shp se) (room_of_shp sd hu) ⟨.bl _, H, I, rfl, q⟩
def gEq (d e : PyData) : Option PyData := if (shp d && shp e) = true then some (.bool (PyData.eqv d e)) else none
def gNe (d e : PyData) : Option PyData := if (shp d && shp e) = true then some (.bool (!PyData.eqv d e)) else none
theorem op2_eq {K : PySem.W.Frag} : Op2 K (rEqX K) gEq := by
  intro H O x y d e z Q hO rx ry h q
  unfold gEq at h
  by_cases c : (shp d && shp e) = true
  · rw [if_pos c] at h; cases h
    rw [Bool.and_eq_true] at c
    exact ⟨d, e, rx.dp (canLay_of_shp c.1) hide_sub, ry.dp (canLay_of_shp c.2) hide_sub, c.1, c.2, q _ H (Same.refl H) (.bl _)⟩
  · rw [if_neg c] at h; cases h
theorem op2_ne {K : PySem.W.Frag} : Op2 K (rNeX K) gNe := by
  intro H O x y d e z Q hO rx ry h q
  unfold gNe at h
  by_cases c : (shp d && shp e) = true
  · rw [if_pos c] at h; cases h
    rw [Bool.and_eq_true] at c
    exact ⟨d, e, rx.dp (canLay_of_shp c.1) hide_sub, ry.dp (canLay_of_shp c.2) hide_sub, c.1, c.2, q _ H (Same.refl H) (.bl _)⟩
  · rw [if_neg c] at h; cases h
def isN : PyData → Bool
  | .none => true
  | _ => false
def gIsN (d e : PyData) : Option PyData := if isN e = true then some (.bool (isN d)) else none
def gNotN (d e : PyData) : Option PyData := if isN e = true then some (.bool (!isN d)) else none
theorem isN_rp {K : PySem.W.Frag} {H : Hp} {x : V} {d : PyData} (r : Rp K H x d) : decide (x = .non) = isN d := by
  cases r <;> simp [isN]
theorem op2_isN {K : PySem.W.Frag} : Op2 K (fun x y H Q => y = .non ∧ Q (.bl (decide (x = .non))) H) gIsN := by
  intro H O x y d e z Q hO rx ry h q
  unfold gIsN at h
  cases ry with
  | non =>
    cases h
    rw [isN_rp rx]
    exact ⟨rfl, q _ H (Same.refl H) (.bl _)⟩
  | _ => cases h
theorem op2_notN {K : PySem.W.Frag} : Op2 K (fun x y H Q => y = .non ∧ Q (.bl (!decide (x = .non))) H) gNotN := by
  intro H O x y d e z Q hO rx ry h q
  unfold gNotN at h
  cases ry with
  | non =>
    cases h
    rw [isN_rp rx]
    exact ⟨rfl, q _ H (Same.refl H) (.bl _)⟩
  | _ => cases h
def gIx : PyData → PyData → Option PyData
  | .tuple xs, .int i => atI xs i
  | .list xs, .int i => atI xs i
  | .str x, .int i => if x.length ≤ sizeLine then (atI x.cps.toList i).map fun c => .str ⟨#[c]⟩ else none
  | _, _ => none
theorem atI_rps {K : PySem.W.Frag} {H : Hp} {xs : List V} {ds : List PyData} {i : Int} {d : PyData} (r : Rps K H xs ds) (h : atI ds i = some d) : ∃ v, atI xs i = some v ∧ Rp K H v d := by
  unfold atI at h ⊢
  rw [r.length]
  cases e : ixN ds.length i with
  | none => rw [e] at h; cases h
  | some j =>
    rw [e] at h
    exact r.get (i := j) h
theorem op2_ix {K : PySem.W.Frag} : Op2 K (rIx K) gIx := by
  intro H O x y d e z Q hO rx ry h q
  cases rx with
  | @tup a xs ds hx rs =>
    cases ry with
    | int i =>
      obtain ⟨v, h1, h2⟩ := atI_rps rs (show atI ds i = some z from h)
      exact .inr (.inl ⟨a, xs, i, v, rfl, rfl, seqT hide_sub hx, h1, q v H (Same.refl H) h2⟩)
    | _ => cases h
  | @lst a xs ds hx rs =>
    cases ry with
    | int i =>
      obtain ⟨v, h1, h2⟩ := atI_rps rs (show atI ds i = some z from h)
      exact .inl ⟨a, xs, i, v, rfl, rfl, seqL hide_sub hx, h1, q v H (Same.refl H) h2⟩
    | _ => cases h
  | str x =>
    cases ry with
    | int i =>
      unfold gIx at h
      dsimp only at h
      by_cases c : x.length ≤ sizeLine
      · rw [if_pos c] at h
        cases e : atI x.cps.toList i with
        | none => rw [e] at h; cases h
        | some k =>
          rw [e] at h
          cases h
          exact .inr (.inr ⟨x, i, k, rfl, rfl, c, e, q _ H (Same.refl H) (.str _)⟩)
      · rw [if_neg c] at h; cases h
    | _ => cases h
  | _ => cases h
def cutD {α : Type} (xs : List α) (lo hi : Option Int) : List α := (xs.drop (HT.sIx xs.length 0 lo)).take (HT.sIx xs.length xs.length hi - HT.sIx xs.length 0 lo)
def gSl : PyData → Option Int → Option Int → Option PyData
  | .tuple xs, lo, hi => some (.tuple (cutD xs lo hi))
  | .list xs, lo, hi => some (.list (cutD xs lo hi))
  | _, _, _ => none
theorem rps_cut {K : PySem.W.Frag} {H : Hp} {xs : List V} {ds : List PyData} {lo hi : Option Int} (r : Rps K H xs ds) : Rps K H (cutV xs lo hi) (cutD ds lo hi) := by
  unfold cutV cutD
  rw [r.length]
  exact (r.drop _).take _
theorem cut_whole {α : Type} {xs : List α} {lo hi : Option Int} (h : HT.sIx xs.length 0 lo = 0 ∧ HT.sIx xs.length xs.length hi = xs.length) : cutD xs lo hi = xs := by
  unfold cutD
  rw [h.1, h.2]
  simp
section
variable {X : Cx} {W : WX}
def eSl (f : Vars → R PyData) (g h : Vars → R (Option Int)) (ρ : Vars) : R PyData := (f ρ).bind fun d => (g ρ).bind fun l => (h ρ).bind fun u => R.of (gSl d l u)
def oNone (_ : Vars) : R (Option Int) := .ok none
def oSome (f : Vars → R PyData) (ρ : Vars) : R (Option Int) := (f ρ).bind fun d => match d with
  | .int i => .ok (some i)
  | _ => .bad
theorem ox_none : OX X W none oNone := ⟨_, po_none, fun σ H O ρ Q _ _ q => q H (Same.refl H)⟩
theorem ox_some {e : Expr} {f : Vars → R PyData} (h : EX X W e f) : OX X W (some e) (oSome f) := by
  obtain ⟨t, p, ht⟩ := h
  refine ⟨_, po_some p, fun σ H O ρ Q hO hv z => ht σ H O ρ _ hO hv ?_⟩
  unfold oSome at z
  cases q : f ρ with
  | bad => rw [q] at z; exact z
  | err c => rw [q] at z; exact z
  | ok d =>
    rw [q] at z
    intro v H1 s1 r1
    cases r1 with
    | int i => exact ⟨i, rfl, z H1 s1⟩
    | _ => exact z.elim
theorem ex_slice {e : Expr} {lo hi : Option Expr} {f : Vars → R PyData} {g h : Vars → R (Option Int)} {p2 pos : Pos} (he : EX X W e f) (hl : OX X W lo g) (hu : OX X W hi h) : EX X W (.Subscript e (.Slice lo hi none p2) pos) (eSl f g h) := by
  obtain ⟨t, p, ht⟩ := he
  obtain ⟨tl, pl, htl⟩ := hl
  obtain ⟨tu, pu, htu⟩ := hu
  refine ⟨_, pe_slice (sl_tupA.or sl_list) p pl pu, fun σ H O ρ Q hO hv z => ht σ H O ρ _ hO hv (EOut.then (g := fun d => (g ρ).bind fun l => (h ρ).bind fun u => R.of (gSl d l u)) EOut.b EOut.e z fun d v H1 s1 r1 z1 => ?_)⟩
  refine htl σ H1 O ρ _ (hO.same s1) (hv.mono (hide_same s1)) ?_
  cases q1 : g ρ with
  | bad => rw [q1] at z1; exact z1.elim
  | err c => rw [q1] at z1; exact fun H2 s2 => z1 H2 (s1.trans s2)
  | ok l =>
    rw [q1] at z1
    intro H2 s2
    refine htu σ H2 O ρ _ ((hO.same s1).same s2) (hv.mono (hide_same (s1.trans s2))) ?_
    cases q2 : h ρ with
    | bad => rw [q2] at z1; exact z1.elim
    | err c => rw [q2] at z1; exact fun H3 s3 => z1 H3 ((s1.trans s2).trans s3)
    | ok u =>
      rw [q2] at z1
      intro H3 s3
      have r3 := r1.mono (hide_same (O := O) (s2.trans s3))
      have hO3 := (hO.same s1).same (s2.trans s3)
      have s13 : Same H H3 := s1.trans (s2.trans s3)
      cases r3 with
      | @tup a xs ds hx rs =>
        have hx' := seqT (hide_sub (O := O)) hx
        refine .inl ⟨a, xs, rfl, hx', fun w => ?_, fun w p hp => ?_⟩
        · refine z1 _ H3 s13 ?_
          rw [cut_whole (by rw [← rs.length]; exact w)]
          exact .tup hx rs
        · exact z1 _ _ (s13.trans (same_new hp)) (new_rep hO3 hp (rps_cut rs))
      | @lst a xs ds hx rs =>
        refine .inr ⟨a, xs, rfl, seqL hide_sub hx, fun p hp => ?_⟩
        exact z1 _ _ (s13.trans (same_new hp)) (new_repL hO3 hp (rps_cut rs))
      | _ => exact z1.elim
def eNeg (f : Vars → R PyData) (ρ : Vars) : R PyData := (f ρ).bind fun d => match d with
  | .int i => .ok (.int (-i))
  | _ => .bad
theorem ex_neg {a : Expr} {f : Vars → R PyData} {pos : Pos} (h : EX X W a f) : EX X W (.UnaryOp .USub a pos) (eNeg f) := by
  obtain ⟨t, p, ht⟩ := h
  refine ⟨_, pe_un un_neg p, fun σ H O ρ Q hO hv z => ht σ H O ρ _ hO hv ?_⟩
  unfold eNeg at z
  cases q : f ρ with
  | bad => rw [q] at z; exact z
  | err c => rw [q] at z; exact z
  | ok d =>
    rw [q] at z
    intro v H1 s1 r1
    cases r1 with
    | int i => exact ⟨i, rfl, z _ H1 s1 (.int _)⟩
    | _ => exact z.elim
def CallD (K : PySem.W.Frag) (r : List V → Hp → VK → Prop) (g : List PyData → Option PyData) : Prop :=
  ∀ (H : Hp) (O : List Addr) (xs : List V) (ds : List PyData) (z : PyData) (Q : VK), Stands O H → Rps K (hide O H) xs ds → g ds = some z → (∀ v H', Same H H' → Rp K (hide O H') v z → Q v H') → r xs H Q
def eCall (g : List PyData → Option PyData) (f : Vars → R (List PyData)) (ρ : Vars) : R PyData := (f ρ).bind fun ds => R.of (g ds)
theorem call_run {r : List V → Hp → VK → Prop} {g : List PyData → Option PyData} (ho : CallD X.K r g) {ta : TA} {f : Vars → R (List PyData)}
    (ha : ∀ σ H O ρ Q, Stands O H → VRel X.K (hide O H) σ ρ → AOut X W O σ H Q (f ρ) → ta σ H Q) :
    ∀ σ H O ρ Q, Stands O H → VRel X.K (hide O H) σ ρ → EOut X W O σ H Q (eCall g f ρ) → tCB r ta σ H Q := fun σ H O ρ Q hO hr z =>
  ha σ H O ρ _ hO hr (AOut.then (g := fun ds => R.of (g ds)) EOut.b EOut.e z fun ds vs H1 s1 r1 z1 => by
    cases q : g ds with
    | none => rw [q] at z1; exact z1.elim
    | some w =>
      rw [q] at z1
      exact ho H1 O vs ds w Q (hO.same s1) r1 q fun v H2 s2 r2 => z1 v H2 (s1.trans s2) r2)
theorem ex_callB {id : String} {x : Str} {r : List V → Hp → VK → Prop} {g : List PyData → Option PyData} {e : Expr} {es : List Expr} {f : Vars → R (List PyData)} {p pos : Pos} (hc : CallR X (.builtin id) r) (ho : CallD X.K r g) (hg : Gl X x) (hm : X.mg x = none) (hv : bootBuiltins x = some (.builtin id)) (ha : AX X W (e :: es) f)
    (hn : x ≠ "__name__" := by decide) (hdb : (x == ("__debug__" : Str)) = false := by decide)
    (he : starEach (e :: es) X.env = (false, eval e X.env) :: starEach es X.env := by rfl) (hpl : (backTo pos (starEach es X.env)).any (·.1) = false := by rfl) : EX X W (.Call (.Name x p) (e :: es) [] pos) (eCall g f) := by
  obtain ⟨t, q, ht⟩ := ha
  exact ⟨_, pe_callB hc hg hm hv q hn hdb he hpl, call_run ho ht⟩
theorem ex_callT {T : String} {x : Str} {r : List V → Hp → VK → Prop} {g : List PyData → Option PyData} {e : Expr} {es : List Expr} {f : Vars → R (List PyData)} {p pos : Pos} (hc : CallR X (.type T) r) (ho : CallD X.K r g) (hg : Gl X x) (hm : X.mg x = none) (hv : bootBuiltins x = some (.type T)) (ha : AX X W (e :: es) f)
    (hn : x ≠ "__name__" := by decide) (hdb : (x == ("__debug__" : Str)) = false := by decide)
    (he : starEach (e :: es) X.env = (false, eval e X.env) :: starEach es X.env := by rfl) (hpl : (backTo pos (starEach es X.env)).any (·.1) = false := by rfl) : EX X W (.Call (.Name x p) (e :: es) [] pos) (eCall g f) := by
  obtain ⟨t, q, ht⟩ := ha
  exact ⟨_, pe_callTy hc hg hm hv q hn hdb he hpl, call_run ho ht⟩
end
def gLen : List PyData → Option PyData
  | [.tuple xs] => some (.int xs.length)
  | [.list xs] => some (.int xs.length)
  | [.str x] => if x.length ≤ sizeLine then some (.int x.length) else none
  | _ => none
theorem rps_one {K : PySem.W.Frag} {H : Hp} {vs : List V} {d : PyData} (r : Rps K H vs [d]) : ∃ v, vs = [v] ∧ Rp K H v d := by
  cases r with
  | cons h t => cases t; exact ⟨_, rfl, h⟩
theorem rps_two {K : PySem.W.Frag} {H : Hp} {vs : List V} {d e : PyData} (r : Rps K H vs [d, e]) : ∃ v w, vs = [v, w] ∧ Rp K H v d ∧ Rp K H w e := by
  cases r with
  | cons h t => cases t with | cons h2 t => cases t; exact ⟨_, _, rfl, h, h2⟩
theorem calld_len {K : PySem.W.Frag} : CallD K (fun xs H Q => ∃ x n, xs = [x] ∧ LenV K x H n ∧ Q (.int n) H) gLen := by
  intro H O xs ds z Q hO r h q
  unfold gLen at h
  split at h
  · cases h
    obtain ⟨v, rfl, rv⟩ := rps_one r
    cases rv with
    | tup hx rs => rw [← rs.length] at q; exact ⟨_, _, rfl, .inr ⟨_, seqT hide_sub hx, rfl⟩, q _ H (Same.refl H) (.int _)⟩
  · cases h
    obtain ⟨v, rfl, rv⟩ := rps_one r
    cases rv with
    | lst hx rs => rw [← rs.length] at q; exact ⟨_, _, rfl, .inl ⟨_, seqL hide_sub hx, rfl⟩, q _ H (Same.refl H) (.int _)⟩
  · rename_i x
    by_cases c : x.length ≤ sizeLine
    · rw [if_pos c] at h; cases h
      obtain ⟨v, rfl, rv⟩ := rps_one r
      cases rv
      exact ⟨_, _, rfl, ⟨c, rfl⟩, q _ H (Same.refl H) (.int _)⟩
    · rw [if_neg c] at h; cases h
  · cases h
def gTuple : List PyData → Option PyData
  | [.tuple xs] => some (.tuple xs)
  | [.list xs] => some (.tuple xs)
  | _ => none
theorem calld_tuple {K : PySem.W.Frag} : CallD K (fun xs H Q => ∃ p ys, xs = [.ref p] ∧ ((SqL K H p ys ∧ ∀ l, H l = none → Q (.ref l) (upd H l (.tup ys))) ∨ (SqT K H p ys ∧ Q (.ref p) H))) gTuple := by
  intro H O xs ds z Q hO r h q
  unfold gTuple at h
  split at h
  · cases h
    obtain ⟨v, rfl, rv⟩ := rps_one r
    cases rv with
    | tup hx rs => exact ⟨_, _, rfl, .inr ⟨seqT hide_sub hx, q _ H (Same.refl H) (.tup hx rs)⟩⟩
  · cases h
    obtain ⟨v, rfl, rv⟩ := rps_one r
    cases rv with
    | lst hx rs => exact ⟨_, _, rfl, .inl ⟨seqL hide_sub hx, fun l hl => q _ _ (same_new hl) (new_rep hO hl rs)⟩⟩
  · cases h
def gIntC : List PyData → Option PyData
  | [.int i] => some (.int i)
  | [.bool b] => some (.int (if b then 1 else 0))
  | _ => none
theorem calld_int {K : PySem.W.Frag} : CallD K (fun xs H Q => (∃ i, xs = [.int i] ∧ Q (.int i) H) ∨ ∃ k, xs = [.bl k] ∧ Q (.int (if k then 1 else 0)) H) gIntC := by
  intro H O xs ds z Q hO r h q
  unfold gIntC at h
  split at h
  · cases h
    obtain ⟨v, rfl, rv⟩ := rps_one r
    cases rv
    exact .inl ⟨_, rfl, q _ H (Same.refl H) (.int _)⟩
  · cases h
    obtain ⟨v, rfl, rv⟩ := rps_one r
    cases rv
    exact .inr ⟨_, rfl, q _ H (Same.refl H) (.int _)⟩
  · cases h
def gMax2 : List PyData → Option PyData
  | [.int i, .int j] => some (.int (if j > i then j else i))
  | _ => none
def gMin2 : List PyData → Option PyData
  | [.int i, .int j] => some (.int (if j < i then j else i))
  | _ => none
theorem calld_max2 {K : PySem.W.Frag} : CallD K (fun xs H Q => ∃ i j, xs = [.int i, .int j] ∧ Q (.int (if j > i then j else i)) H) gMax2 := by
  intro H O xs ds z Q hO r h q
  unfold gMax2 at h
  split at h
  · cases h
    obtain ⟨v, w, rfl, rv, rw'⟩ := rps_two r
    cases rv
    cases rw'
    exact ⟨_, _, rfl, q _ H (Same.refl H) (.int _)⟩
  · cases h
theorem calld_min2 {K : PySem.W.Frag} : CallD K (fun xs H Q => ∃ i j, xs = [.int i, .int j] ∧ Q (.int (if j < i then j else i)) H) gMin2 := by
  intro H O xs ds z Q hO r h q
  unfold gMin2 at h
  split at h
  · cases h
    obtain ⟨v, w, rfl, rv, rw'⟩ := rps_two r
    cases rv
    cases rw'
    exact ⟨_, _, rfl, q _ H (Same.refl H) (.int _)⟩
  · cases h
def fnB : PyData → Bool
  | .dict [(.none, .list _)] => true
  | .dict [(.none, .dict _)] => true
  | .dict [(.none, .bool _), _] => true
  | _ => false
def insB : List (PyData × PyData) → Bool
  | (.none, _) :: _ => true
  | _ => false
def isiB (T : String) (d : PyData) : Bool := match d with
  | .none => false
  | .bool _ => T == "bool" || T == "int"
  | .int _ => T == "int"
  | .str _ => T == "str"
  | .list _ => T == "list"
  | .tuple _ => T == "tuple"
  | .dict kvs => T == "dict" && !insB kvs
def kitAll (T : String) : Bool := (["int", "bool", "str", "list", "tuple", "dict"] : List String).contains T && (decide (kitB "NoneType" T = some false) && decide (kitB "bool" T = some (T == "bool" || T == "int")) && decide (kitB "int" T = some (T == "int")) && decide (kitB "str" T = some (T == "str")) && decide (kitB "list" T = some (T == "list")) && decide (kitB "tuple" T = some (T == "tuple")) && decide (kitB "dict" T = some (T == "dict")))
theorem kit_int : kitAll "int" = true := by decide +kernel
theorem kit_bool : kitAll "bool" = true := by decide +kernel
theorem kit_dict : kitAll "dict" = true := by decide +kernel
theorem kit_is {K : PySem.W.Frag} {H : Hp} {v : V} {d : PyData} {T : String} (h : kitAll T = true) (r : Rp K H v d) (nf : fnB d = false) : ∃ t, TyX K H v t ∧ PySem.W.kitOne K t (.type T) = some (isiB T d) := by
  unfold kitAll at h
  rw [Bool.and_eq_true] at h
  have hm := List.contains_iff_mem.mp h.1
  replace h := h.2
  simp only [Bool.and_eq_true, decide_eq_true_eq] at h
  obtain ⟨⟨⟨⟨⟨⟨h1, h2⟩, h3⟩, h4⟩, h5⟩, h6⟩, h7⟩ := h
  cases r with
  | fn _ => cases nf
  | fn0 => cases nf
  | dct => cases nf
  | tpx => cases nf
  | non => exact ⟨_, .base .non, kit_ty h1⟩
  | bl b => exact ⟨_, .base (.bl b), kit_ty h2⟩
  | int b => exact ⟨_, .base (.int b), kit_ty h3⟩
  | str b => exact ⟨_, .base (.str b), kit_ty h4⟩
  | lst h _ =>
    rcases h with (h | ⟨o, h⟩) | ⟨o, its, n, h, hc, _⟩
    · exact ⟨_, .base (.lst h), kit_ty h5⟩
    · exact ⟨_, .base (.frz h), kit_ty h5⟩
    · exact ⟨_, .kList h hc, kit_ty h5⟩
  | tup h _ =>
    rcases h with (h | ⟨o, h⟩) | ⟨o, its, n, h, hc, _⟩
    · exact ⟨_, .base (.tup h), kit_ty h6⟩
    · exact ⟨_, .fTuple h, kit_ty h6⟩
    · exact ⟨_, .kTuple h hc, kit_ty h6⟩
  | dic h r =>
    refine ⟨.type "dict", by rcases h with h | ⟨o, h⟩; exact .base (.dK h); exact .fDict h, ?_⟩
    have e : ∀ ds, insB ds = false → isiB T (.dict ds) = (T == "dict") := fun ds e => by show (T == "dict" && !insB ds) = _; rw [e]; simp
    cases r with
    | nil => rw [e _ rfl]; exact kit_ty h7
    | @cons k _ _ _ _ _ _ => cases k <;> rw [e _ rfl] <;> exact kit_ty h7
  | ins h _ c _ =>
    refine ⟨_, .base (.ins h c.cl c.ha c.hn c.htk c.hm), ?_⟩
    have e : ∀ b : PyData, isiB T (.dict [(.none, b)]) = false := fun b => by show (T == "dict" && !true) = false; simp
    rw [e]
    exact c.no T hm
section
variable {X : Cx} {W : WX}
def gIsi (T : String) (d : PyData) : R PyData := if fnB d = true then .bad else .ok (.bool (isiB T d))
@[simp] theorem gIsi_non (T : String) : gIsi T .none = .ok (.bool (isiB T .none)) := rfl
@[simp] theorem gIsi_bl (T : String) (b : Bool) : gIsi T (.bool b) = .ok (.bool (isiB T (.bool b))) := rfl
@[simp] theorem gIsi_int (T : String) (b : Int) : gIsi T (.int b) = .ok (.bool (isiB T (.int b))) := rfl
@[simp] theorem gIsi_str (T : String) (b : Str) : gIsi T (.str b) = .ok (.bool (isiB T (.str b))) := rfl
@[simp] theorem gIsi_lst (T : String) (b : List PyData) : gIsi T (.list b) = .ok (.bool (isiB T (.list b))) := rfl
@[simp] theorem gIsi_tup (T : String) (b : List PyData) : gIsi T (.tuple b) = .ok (.bool (isiB T (.tuple b))) := rfl
theorem fnB_ins {ds : List (PyData × PyData)} (h : insB ds = false) : fnB (.dict ds) = false := by
  cases ds with
  | nil => rfl
  | cons p r =>
    obtain ⟨k, v⟩ := p
    cases k <;> first | rfl | (cases h)
@[simp] theorem gIsi_dict (T : String) {ds : List (PyData × PyData)} (h : insB ds = false) : gIsi T (.dict ds) = .ok (.bool (isiB T (.dict ds))) := by
  unfold gIsi
  rw [fnB_ins h]; rfl
@[simp] theorem gIsi_ins (T : String) (x : List PyData) : gIsi T (.dict [(.none, .tuple x)]) = .ok (.bool (isiB T (.dict [(.none, .tuple x)]))) := rfl
theorem gIsi_no {T : String} {d : PyData} (h : fnB d = false) : gIsi T d = .ok (.bool (isiB T d)) := by
  unfold gIsi
  rw [h]; rfl
@[simp] theorem gIsi_t {T : String} {d : PyData} (h : isiB T d = true) : gIsi T d = .ok (.bool true) := by
  cases d with
  | dict ds =>
    have : insB ds = false := by
      unfold isiB at h
      simp at h
      exact h.2
    rw [gIsi_dict T this, h]
  | _ => simp [h]
def eIsi (T : String) (f : Vars → R PyData) (ρ : Vars) : R PyData := (f ρ).bind fun d => gIsi T d
theorem ex_isi {T : String} {x : Str} {a : Expr} {f : Vars → R PyData} {p p2 pos : Pos} (hk : kitAll T = true) (hg : Gl X "isinstance") (hm : X.mg "isinstance" = none) (hgT : Gl X x) (hmT : X.mg x = none) (hvT : bootBuiltins x = some (.type T)) (ha : EX X W a f)
    (hn : x ≠ "__name__" := by decide) (hdb : (x == ("__debug__" : Str)) = false := by decide)
    (he : starEach [a, .Name x p2] X.env = (false, eval a X.env) :: starEach [.Name x p2] X.env := by rfl) (hpl : (backTo pos (starEach [.Name x p2] X.env)).any (·.1) = false := by rfl)
    (he2 : starEach [.Name x p2] X.env = (false, eval (.Name x p2) X.env) :: starEach [] X.env := by rfl) : EX X W (.Call (.Name "isinstance" p) [a, .Name x p2] [] pos) (eIsi T f) := by
  obtain ⟨t, q, ht⟩ := ha
  refine ⟨_, pe_callB call_isi hg hm (by decide +kernel) (pa_cons q (pa_cons (pe_bltn (v := .ty T) hgT hmT hvT rfl hn hdb) pa_nil he2) he) (by decide) (by decide) he hpl, fun σ H O ρ Q hO hv z => ht σ H O ρ _ hO hv (EOut.then (g := fun d => gIsi T d) EOut.b EOut.e z fun d v H1 s1 r1 z1 => ?_)⟩
  cases nf : fnB d with
  | true => unfold gIsi at z1; rw [if_pos nf] at z1; exact z1.elim
  | false =>
  rw [gIsi_no nf] at z1
  obtain ⟨ty, k1, k2⟩ := kit_is hk (r1.mono hide_sub) nf
  exact ⟨v, .ty T, _, _, _, rfl, .ty T, k1, k2, z1 _ H1 s1 (.bl _)⟩
end
end Pu
set_option Elab.async false
set_option linter.all false
set_option maxRecDepth 100000
set_option maxHeartbeats 4000000
namespace Pu
open PySem PySem.Spec PyProof.Rows L2
def SpOut (K : PySem.W.Frag) (mg : Str → Option Value) (O : List Addr) (H : Hp) (Q : VK) (E : XK) : R PyData → Prop
  | .ok d => ∀ v H', Same H H' → Rp K (hide O H') v d → Q v H'
  | .err c => ∀ H', Same H H' → E (exV mg c) none H'
  | .bad => False
def spD (K : PySem.W.Frag) (mg : Str → Option Value) (n : Nat) (f : List PyData → R PyData) : Sp := fun vs H Q E =>
  vs.length = n ∧ ∃ O ds, Stands O H ∧ Rps K (hide O H) vs ds ∧ SpOut K mg O H Q E (f ds)
def Cal (P : Program) (w : World) (K : PySem.W.Frag) (mg : Str → Option Value) (base : Heap) (k : Nat) (x : Str) (n : Nat) (f : List PyData → R PyData) : Prop :=
  ∃ (fa : Addr) (fd : FuncData) (ps : List Str), ps.length = n ∧ FnOk P w K mg base (L2.CX P w) k fa fd ps (spD K mg n f) ∧ mg x = some (.ref fa) ∧ PySem.W.keepIn K (.ref fa) = true ∧ Binds K fd ps []
theorem Cal.mono {P : Program} {w : World} {K : PySem.W.Frag} {mg : Str → Option Value} {base : Heap} {k k' n : Nat} {x : Str} {f : List PyData → R PyData} (h : Cal P w K mg base k x n f) (l : k ≤ k') : Cal P w K mg base k' x n f := by
  obtain ⟨fa, fd, ps, h1, h2, h3⟩ := h
  exact ⟨fa, fd, ps, h1, h2.mono l, h3⟩
def eFn (g : List PyData → R PyData) (f : Vars → R (List PyData)) (ρ : Vars) : R PyData := (f ρ).bind g
section
variable {X : Cx} {W : WX}
theorem ex_fn {k n : Nat} {x : Str} {g : List PyData → R PyData} {e : Expr} {es : List Expr} {f : Vars → R (List PyData)} {p pos : Pos} (tk : Takes X W) (F : Cal X.prog X.w X.K X.mg X.base k x n g) (hr : Room k X.A) (hg : Gl X x) (ha : AX X W (e :: es) f) (hn : es.length + 1 = n)
    (hdb : (x == ("__debug__" : Str)) = false := by decide) (he : starEach (e :: es) X.env = (false, eval e X.env) :: starEach es X.env := by rfl) (hpl : (backTo pos (starEach es X.env)).any (·.1) = false := by rfl) (hlen : ∀ ρ ds, f ρ = .ok ds → ds.length = n) :
    EX X W (.Call (.Name x p) (e :: es) [] pos) (eFn g f) := by
  obtain ⟨fa, fd, ps, h1, h2, h3, h4, h5⟩ := F
  obtain ⟨t, q, ht⟩ := ha
  refine ⟨_, pe_callS h2 hr hg h3 h4 h5 (fun σ => passAt tk σ) q hdb he hpl, fun σ H O ρ Q hO hv z => ht σ H O ρ _ hO hv ?_⟩
  unfold eFn at z
  cases e1 : f ρ with
  | bad => rw [e1] at z; exact z
  | err c => rw [e1] at z; exact z
  | ok ds =>
    rw [e1] at z
    intro vs H1 s1 r1
    refine ⟨by rw [r1.length]; exact hlen ρ ds e1, O, ds, hO.same s1, r1, ?_⟩
    cases e2 : g ds with
    | bad => rw [R.bind_ok, e2] at z; exact z.elim
    | err c => rw [R.bind_ok, e2] at z; exact fun H' s' => z H' (s1.trans s')
    | ok d => rw [R.bind_ok, e2] at z; exact fun v H' s' r' => z v H' (s1.trans s') r'
theorem aNil_len {ρ : Vars} {ds : List PyData} (h : aNil ρ = .ok ds) : ds.length = 0 := by cases h; rfl
theorem aCons_len {f : Vars → R PyData} {g : Vars → R (List PyData)} {n : Nat} (h : ∀ ρ ds, g ρ = .ok ds → ds.length = n) : ∀ ρ ds, aCons f g ρ = .ok ds → ds.length = n + 1 := fun ρ ds e => by
  unfold aCons at e
  cases e1 : f ρ with
  | bad => rw [e1] at e; cases e
  | err c => rw [e1] at e; cases e
  | ok d =>
    rw [e1, R.bind_ok] at e
    cases e2 : g ρ with
    | bad => rw [e2] at e; cases e
    | err c => rw [e2] at e; cases e
    | ok ds' => rw [e2] at e; cases e; rw [List.length_cons, h ρ ds' e2]
end
def maskF (own : List Nat) : Nat → Vars → Vars
  | _, [] => []
  | k, x :: r => (if own.contains k = true then none else x) :: maskF own (k + 1) r
abbrev mask (own : List Nat) (ρ : Vars) : Vars := maskF own 0 ρ
theorem maskF_len (own : List Nat) : ∀ (k : Nat) (ρ : Vars), (maskF own k ρ).length = ρ.length
  | _, [] => rfl
  | k, x :: r => by unfold maskF; rw [List.length_cons, List.length_cons, maskF_len own (k + 1) r]
theorem maskF_get (own : List Nat) : ∀ (k : Nat) (ρ : Vars) (i : Nat), (maskF own k ρ)[i]? = if k + i ∈ own then (ρ[i]?).map fun _ => none else ρ[i]?
  | k, [], i => by simp [maskF]
  | k, x :: r, 0 => by
    unfold maskF
    by_cases c : k ∈ own <;> simp [c]
  | k, x :: r, i + 1 => by
    unfold maskF
    rw [List.getElem?_cons_succ, List.getElem?_cons_succ, maskF_get own (k + 1) r i, show k + 1 + i = k + (i + 1) by omega]
theorem mask_some {own : List Nat} {ρ : Vars} {i : Nat} {d : PyData} (h : (mask own ρ)[i]? = some (some d)) : i ∉ own ∧ ρ[i]? = some (some d) := by
  unfold mask at h
  rw [maskF_get, Nat.zero_add] at h
  by_cases c : i ∈ own
  · rw [if_pos c] at h
    cases e : ρ[i]? <;> rw [e] at h <;> cases h
  · rw [if_neg c] at h; exact ⟨c, h⟩
theorem mask_of {own : List Nat} {ρ : Vars} {i : Nat} {d : PyData} (c : i ∉ own) (h : ρ[i]? = some (some d)) : (mask own ρ)[i]? = some (some d) := by
  unfold mask
  rw [maskF_get, Nat.zero_add, if_neg c]; exact h
theorem mask_set {own : List Nat} {ρ : Vars} {i : Nat} {x : Option PyData} (c : i ∉ own) : mask own (ρ.set i x) = (mask own ρ).set i x := by
  apply List.ext_getElem?
  intro j
  unfold mask
  rw [maskF_get, Nat.zero_add]
  by_cases z : i = j
  · subst z
    rw [if_neg c]
    by_cases hl : i < ρ.length
    · rw [List.getElem?_set_self hl, List.getElem?_set_self (by rw [maskF_len]; exact hl)]
    · rw [List.getElem?_eq_none (by simpa using hl), List.getElem?_eq_none (by simp [maskF_len]; omega)]
  · rw [List.getElem?_set_ne z, List.getElem?_set_ne z, maskF_get, Nat.zero_add]
section
variable (X : Cx)
structure GtOk (js : List Nat) (gt : PyData → Vars → Option Vars) : Prop where
  len : ∀ d ρ ρ', gt d ρ = some ρ' → ρ'.length = ρ.length
  msk : ∀ own d ρ ρ', (∀ j ∈ js, j ∉ own) → gt d ρ = some ρ' → gt d (mask own ρ) = some (mask own ρ')
structure GtsOk (js : List Nat) (gt : List PyData → Vars → Option Vars) : Prop where
  len : ∀ d ρ ρ', gt d ρ = some ρ' → ρ'.length = ρ.length
  msk : ∀ own d ρ ρ', (∀ j ∈ js, j ∉ own) → gt d ρ = some ρ' → gt d (mask own ρ) = some (mask own ρ')
def GX (tg : Expr) (js : List Nat) (gt : PyData → Vars → Option Vars) : Prop := GtOk js gt ∧
  ∃ g, PG X tg g ∧ ∀ v d σ H O ρ ρ' Q, Stands O H → VRel X.K (hide O H) σ ρ → Rp X.K (hide O H) v d → gt d ρ = some ρ' →
    (∀ σ', VRel X.K (hide O H) σ' ρ' → σ'.length = σ.length → (∀ j : Nat, j ∉ js → σ'[j]? = σ[j]? ∧ ρ'[j]? = ρ[j]?) → Q σ' H) → g v σ H Q
def GsX (ts : List Expr) (js : List Nat) (gt : List PyData → Vars → Option Vars) : Prop := GtsOk js gt ∧
  ∃ g, PGs X ts g ∧ ∀ vs ds σ H O ρ ρ' Q, Stands O H → VRel X.K (hide O H) σ ρ → Rps X.K (hide O H) vs ds → gt ds ρ = some ρ' →
    (∀ σ', VRel X.K (hide O H) σ' ρ' → σ'.length = σ.length → (∀ j : Nat, j ∉ js → σ'[j]? = σ[j]? ∧ ρ'[j]? = ρ[j]?) → Q σ' H) → g vs σ H Q
end
def gtName (i : Nat) (d : PyData) (ρ : Vars) : Option Vars := some (ρ.set i (some d))
def gtNil (ds : List PyData) (ρ : Vars) : Option Vars := match ds with
  | [] => some ρ
  | _ => none
def gtCons (g : PyData → Vars → Option Vars) (h : List PyData → Vars → Option Vars) (ds : List PyData) (ρ : Vars) : Option Vars := match ds with
  | d :: r => (g d ρ).bind fun ρ' => h r ρ'
  | [] => none
def gtTup (n : Nat) (h : List PyData → Vars → Option Vars) (d : PyData) (ρ : Vars) : Option Vars := match d with
  | .tuple ds => if ds.length = n then h ds ρ else none
  | _ => none
theorem gtName_ok (i : Nat) : GtOk [i] (gtName i) where
  len := fun d ρ ρ' e => by cases e; simp
  msk := fun own d ρ ρ' h e => by cases e; unfold gtName; rw [mask_set (h i (by simp))]
theorem gtNil_ok : GtsOk [] gtNil where
  len := fun d ρ ρ' e => by cases d <;> cases e; rfl
  msk := fun own d ρ ρ' h e => by cases d <;> cases e; rfl
theorem gtCons_ok {js ks : List Nat} {g : PyData → Vars → Option Vars} {h : List PyData → Vars → Option Vars} (a : GtOk js g) (b : GtsOk ks h) : GtsOk (js ++ ks) (gtCons g h) where
  len := fun d ρ ρ' e => by
    cases d with
    | nil => cases e
    | cons d r =>
      have e' : (g d ρ).bind (fun ρ' => h r ρ') = some ρ' := e
      cases e1 : g d ρ with
      | none => rw [e1] at e'; cases e'
      | some ρ1 => rw [e1] at e'; rw [b.len r ρ1 ρ' e', a.len d ρ ρ1 e1]
  msk := fun own d ρ ρ' hj e => by
    cases d with
    | nil => cases e
    | cons d r =>
      have e' : (g d ρ).bind (fun ρ' => h r ρ') = some ρ' := e
      cases e1 : g d ρ with
      | none => rw [e1] at e'; cases e'
      | some ρ1 =>
        rw [e1] at e'
        show (g d (mask own ρ)).bind (fun ρ' => h r ρ') = _
        rw [a.msk own d ρ ρ1 (fun j hh => hj j (List.mem_append_left _ hh)) e1]
        exact b.msk own r ρ1 ρ' (fun j hh => hj j (List.mem_append_right _ hh)) e'
theorem gtTup_ok {n : Nat} {js : List Nat} {h : List PyData → Vars → Option Vars} (b : GtsOk js h) : GtOk js (gtTup n h) where
  len := fun d ρ ρ' e => by
    cases d <;> try cases e
    rename_i ds
    unfold gtTup at e
    dsimp only at e
    by_cases c : ds.length = n
    · rw [if_pos c] at e; exact b.len _ _ _ e
    · rw [if_neg c] at e; cases e
  msk := fun own d ρ ρ' hj e => by
    cases d <;> try cases e
    rename_i ds
    unfold gtTup at e ⊢
    dsimp only at e ⊢
    by_cases c : ds.length = n
    · rw [if_pos c] at e ⊢; exact b.msk _ _ _ _ hj e
    · rw [if_neg c] at e; cases e
section
variable {X : Cx}
theorem gx_name {i : Nat} {x : Str} {pos : Pos} (hN : X.N.Nodup) (hi : X.N[i]? = some x) (hx : Loc X.env.scope x) (hf : X.fn x = true ∨ X.env.scope.names.lookup x = some .local := by first | exact .inl rfl | exact .inr rfl | assumption) : GX X (.Name x pos) [i] (gtName i) := by
  refine ⟨gtName_ok i, _, pg_name hN hi hx hf, fun v d σ H O ρ ρ' Q hO hv r e k => ?_⟩
  cases e
  refine k _ (hv.set r) (by simp) fun j hj => ?_
  have c : i ≠ j := fun e => hj (by simp [e])
  exact ⟨by rw [List.getElem?_set_ne c], by rw [List.getElem?_set_ne c]⟩
theorem gsx_nil : GsX X [] [] gtNil := by
  refine ⟨gtNil_ok, _, pgs_nil, fun vs ds σ H O ρ ρ' Q hO hv r e k => ?_⟩
  cases r with
  | nil => cases e; exact ⟨rfl, k σ hv rfl fun _ _ => ⟨rfl, rfl⟩⟩
  | cons _ _ => cases e
theorem gsx_cons {e : Expr} {es : List Expr} {js ks : List Nat} {g : PyData → Vars → Option Vars} {h : List PyData → Vars → Option Vars} (hg : GX X e js g) (hh : GsX X es ks h) (hs : (assignEach (e :: es) X.env).map (·.2) = assign e X.env :: (assignEach es X.env).map (·.2) := by rfl) : GsX X (e :: es) (js ++ ks) (gtCons g h) := by
  obtain ⟨a, t, p, ht⟩ := hg
  obtain ⟨b, u, q, hu⟩ := hh
  refine ⟨gtCons_ok a b, _, pgs_cons p q hs, fun vs ds σ H O ρ ρ' Q hO hv r e k => ?_⟩
  cases r with
  | nil => cases e
  | @cons v vs d ds r rs =>
    have e' : (g d ρ).bind (fun ρ' => h ds ρ') = some ρ' := e
    cases e1 : g d ρ with
    | none => rw [e1] at e'; cases e'
    | some ρ1 =>
      rw [e1] at e'
      refine ⟨v, vs, rfl, ht v d σ H O ρ ρ1 _ hO hv r e1 fun σ1 v1 m1 f1 => hu vs ds σ1 H O ρ1 ρ' Q hO v1 rs e' fun σ2 v2 m2 f2 => k σ2 v2 (m2.trans m1) fun j hj => ?_⟩
      have h1 := f1 j (fun z => hj (List.mem_append_left _ z))
      have h2 := f2 j (fun z => hj (List.mem_append_right _ z))
      exact ⟨h2.1.trans h1.1, h2.2.trans h1.2⟩
theorem gx_tup {es : List Expr} {k n : Nat} {js : List Nat} {h : List PyData → Vars → Option Vars} {pos : Pos} (hc : X.calm = true) (hh : GsX X es js h) (hn : (assignEach es X.env).length = n := by rfl) (hst : (assignEach es X.env).findIdx? (·.1) = none := by rfl) : GX X (.Tuple es k pos) js (gtTup n h) := by
  obtain ⟨b, u, q, hu⟩ := hh
  refine ⟨gtTup_ok b, _, pg_tup hc q hn hst, fun v d σ H O ρ ρ' Q hO hv r e kk => ?_⟩
  cases r with
  | @tup a xs ds hx rs =>
    unfold gtTup at e
    dsimp only at e
    by_cases c : ds.length = n
    · rw [if_pos c] at e
      exact ⟨a, xs, rfl, seqT hide_sub hx, by rw [rs.length]; exact c, hu xs ds σ H O ρ ρ' Q hO hv rs e kk⟩
    · rw [if_neg c] at e; cases e
  | _ => cases e
def tG (X : Cx) (js : List Nat) (gt : PyData → Vars → Option Vars) : TG := fun v σ H Q => ∃ d O ρ ρ', Stands O H ∧ VRel X.K (hide O H) σ ρ ∧ Rp X.K (hide O H) v d ∧ gt d ρ = some ρ' ∧
  ∀ σ', VRel X.K (hide O H) σ' ρ' → σ'.length = σ.length → (∀ j : Nat, j ∉ js → σ'[j]? = σ[j]? ∧ ρ'[j]? = ρ[j]?) → Q σ' H
theorem GX.pg {tg : Expr} {js : List Nat} {gt : PyData → Vars → Option Vars} (h : GX X tg js gt) : PG X tg (tG X js gt) := by
  obtain ⟨_, t, p, ht⟩ := h
  exact ⟨fun pins s σ H v u Q I r ⟨d, O, ρ, ρ', h1, h2, h3, h4, h5⟩ => p.run pins s σ H v u Q I r (ht v d σ H O ρ ρ' Q h1 h2 h3 h4 h5)⟩
end
def IterOk (K : PySem.W.Frag) (J : It) (F : Hp) (ds : List PyData) : Prop := ∀ (i : Nat) (H : Hp) (O : List Addr), Stands O H → Same F (hide O H) →
  (∀ d, ds[i]? = some d → J.go i H ∧ ∀ x H', J.yld i H x H' → Same H H' ∧ Rp K (hide O H') x d) ∧ (ds.length ≤ i → J.stop i H)
def IX (X : Cx) (W : WX) (tg e : Expr) (f : Vars → R (List PyData)) : Prop :=
  ∃ wi, PI X tg e wi ∧ ∀ σ H O ρ (Q : It → Hp → Prop), Stands O H → VRel X.K (hide O H) σ ρ →
    (match f ρ with
      | .ok ds => ∀ J H', Same H H' → IterOk X.K J (hide O H') ds → Q J H'
      | .err c => ∀ H', Same H H' → W (exV X.mg c) none σ H'
      | .bad => False) → wi σ H Q
section
variable {X : Cx} {W : WX} {tg : Expr}
theorem iterL {K : PySem.W.Frag} {F : Hp} {a : Addr} {xs : List V} {ds : List PyData} (h : SqL K F a xs) (r : Rps K F xs ds) : IterOk K (Itl K a) F ds := fun i H O hO s => by
  have s' : Same F H := s.trans hide_sub
  have hH : SqL K H a xs := seqL s' h
  refine ⟨fun d e => ?_, fun l => ⟨xs, hH, by rw [r.length]; exact l⟩⟩
  obtain ⟨v, h1, h2⟩ := r.get e
  refine ⟨⟨xs, v, hH, h1⟩, fun x H' y => ?_⟩
  obtain ⟨rfl, y⟩ := y
  have h3 := y xs hH
  rw [h1] at h3
  cases h3
  exact ⟨Same.refl _, h2.mono s⟩
theorem iterT {K : PySem.W.Frag} {F : Hp} {a : Addr} {xs : List V} {ds : List PyData} (h : SqT K F a xs) (r : Rps K F xs ds) : IterOk K (Itt K a) F ds := fun i H O hO s => by
  have s' : Same F H := s.trans hide_sub
  have hH : SqT K H a xs := seqT s' h
  refine ⟨fun d e => ?_, fun l => ⟨xs, hH, by rw [r.length]; exact l⟩⟩
  obtain ⟨v, h1, h2⟩ := r.get e
  refine ⟨⟨xs, v, hH, h1⟩, fun x H' y => ?_⟩
  obtain ⟨rfl, y⟩ := y
  have h3 := y xs hH
  rw [h1] at h3
  cases h3
  exact ⟨Same.refl _, h2.mono s⟩
def iSeq (f : Vars → R PyData) (ρ : Vars) : R (List PyData) := (f ρ).bind fun d => match d with
  | .list ds => .ok ds
  | .tuple ds => .ok ds
  | _ => .bad
theorem pi_seq {l : Expr} {tl : TE} (hl : PE X l tl) : PI X tg l (fun σ H R => tl σ H fun x H1 => ∃ a, x = .ref a ∧ ((∃ xs, SqL X.K H1 a xs) ∧ R (Itl X.K a) H1 ∨ (∃ xs, SqT X.K H1 a xs) ∧ R (Itt X.K a) H1)) := by
  refine ⟨fun pins s σ H R I h => ?_⟩
  refine thn (hl.run pins s σ H _ I h) fun v s1 ⟨x, H1, I1, r1, q1⟩ => ?_
  obtain ⟨a, e, q1⟩ := q1
  subst e
  cases r1
  rcases q1 with ⟨⟨xs, hq⟩, q⟩ | ⟨⟨xs, hq⟩, q⟩
  · obtain ⟨its, rv, p, hz⟩ := I1.list hq
    refine wpAny_pyIter_list p.isList ?_
    refine ⟨s1.heap.objs.size, [s1.heap.objs.size], _, _, H1, rfl, I1.kept (t' := s1.toks) fun b o e => Heap.get?_push_of_some _ e, turn_list a _, ⟨_, Heap.get?_push_size _ rfl, rfl, rfl⟩, fun b hb => ?_, q⟩
    have e : b = s1.heap.objs.size := by simpa using hb
    subst e
    exact I1.fpOk (Nat.le_refl _) (I1.hok.fresh (Nat.le_refl _))
  · obtain ⟨its, rv, p, hz⟩ := I1.tuple hq
    refine wpAny_pyIter_tuple (show s1.heap.IsTuple a its.toArray from p) ?_
    refine ⟨s1.heap.objs.size, [s1.heap.objs.size], _, _, H1, rfl, I1.kept (t' := s1.toks) fun b o e => Heap.get?_push_of_some _ e, turn_tuple a _, ⟨_, Heap.get?_push_size _ rfl, rfl, rfl⟩, fun b hb => ?_, q⟩
    have e : b = s1.heap.objs.size := by simpa using hb
    subst e
    exact I1.fpOk (Nat.le_refl _) (I1.hok.fresh (Nat.le_refl _))
theorem ix_seq {e : Expr} {f : Vars → R PyData} (h : EX X W e f) : IX X W tg e (iSeq f) := by
  obtain ⟨t, p, ht⟩ := h
  refine ⟨_, pi_seq p, fun σ H O ρ Q hO hv z => ht σ H O ρ _ hO hv ?_⟩
  unfold iSeq at z
  cases q : f ρ with
  | bad => rw [q] at z; exact z
  | err c => rw [q] at z; exact z
  | ok d =>
    rw [q] at z
    intro v H1 s1 r1
    cases r1 with
    | tup hx rs => exact ⟨_, rfl, .inr ⟨⟨_, seqT hide_sub hx⟩, z _ H1 s1 (iterT hx rs)⟩⟩
    | lst hx rs => exact ⟨_, rfl, .inl ⟨⟨_, seqL hide_sub hx⟩, z _ H1 s1 (iterL hx rs)⟩⟩
    | _ => exact z.elim
def rngD (lo : Int) (n : Nat) : List PyData := (List.range n).map fun i => .int (lo + (i : Nat))
theorem rngD_get {lo : Int} {n i : Nat} : (rngD lo n)[i]? = if i < n then some (.int (lo + (i : Nat))) else none := by
  unfold rngD
  rw [List.getElem?_map]
  by_cases h : i < n
  · rw [if_pos h, List.getElem?_range h]; rfl
  · rw [if_neg h, List.getElem?_eq_none (by simpa using h)]; rfl
theorem rngD_len {lo : Int} {n : Nat} : (rngD lo n).length = n := by simp [rngD]
theorem iterR {K : PySem.W.Frag} {F : Hp} {lo : Int} {n : Nat} : IterOk K (Itr lo n) F (rngD lo n) := fun i H O hO s => by
  refine ⟨fun d e => ?_, fun l => by rw [rngD_len] at l; exact l⟩
  rw [rngD_get] at e
  by_cases h : i < n
  · rw [if_pos h] at e
    cases e
    refine ⟨h, fun x H' y => ?_⟩
    obtain ⟨rfl, rfl⟩ := y
    exact ⟨Same.refl _, .int _⟩
  · rw [if_neg h] at e; cases e
def okI (j : Int) : Bool := decide (j.natAbs < 2 ^ 62)
theorem okI_of {j : Int} (h : okI j = true) : -(2 ^ 62) ≤ j ∧ j < 2 ^ 62 := by
  unfold okI at h
  have := of_decide_eq_true h
  omega
theorem okI_small {j : Int} (h0 : -1000000 ≤ j) (h1 : j ≤ 1000000) : okI j = true := by
  unfold okI
  exact decide_eq_true (by omega)
def iRange (f : Vars → R (List PyData)) (ρ : Vars) : R (List PyData) := (f ρ).bind fun ds => match ds with
  | [.int j] => if okI j = true then .ok (rngD 0 j.toNat) else .bad
  | [.int i, .int j] => if (okI i && okI j) = true then .ok (rngD i (j - i).toNat) else .bad
  | _ => .bad
theorem ix_range1 {a : Expr} {f : Vars → R (List PyData)} {p pos : Pos} (hg : Gl X "range") (hm : X.mg "range" = none) (ha : AX X W [a] f) (hs : starEach [a] X.env = [(false, eval a X.env)] := by rfl) (hl : ∀ ρ ds, f ρ = .ok ds → ds.length = 1) : IX X W tg (.Call (.Name "range" p) [a] [] pos) (iRange f) := by
  obtain ⟨t, q, ht⟩ := ha
  refine ⟨_, pi_range1 hg hm q hs, fun σ H O ρ Q hO hv z => ht σ H O ρ _ hO hv ?_⟩
  unfold iRange at z
  cases e : f ρ with
  | bad => rw [e] at z; exact z
  | err c => rw [e] at z; exact z
  | ok ds =>
    rw [e, R.bind_ok] at z
    have l := hl ρ ds e
    intro vs H1 s1 r1
    match ds, l, r1, z with
    | [.int j], _, r1, z =>
      obtain ⟨v, rfl, rv⟩ := rps_one r1
      cases rv
      by_cases c : okI j = true
      · simp only [if_pos c] at z
        obtain ⟨h1, h2⟩ := okI_of c
        exact ⟨j, rfl, h1, h2, z _ H1 s1 iterR⟩
      · simp only [if_neg c] at z
    | [.none], _, _, z => exact z.elim
    | [.bool _], _, _, z => exact z.elim
    | [.str _], _, _, z => exact z.elim
    | [.list _], _, _, z => exact z.elim
    | [.tuple _], _, _, z => exact z.elim
    | [.dict _], _, _, z => exact z.elim
theorem ix_range2 {a b : Expr} {f : Vars → R (List PyData)} {p pos : Pos} (hg : Gl X "range") (hm : X.mg "range" = none) (ha : AX X W [a, b] f) (hs : starEach [a, b] X.env = [(false, eval a X.env), (false, eval b X.env)] := by rfl) (hs2 : starEach [b] X.env = [(false, eval b X.env)] := by rfl) (hl : ∀ ρ ds, f ρ = .ok ds → ds.length = 2) : IX X W tg (.Call (.Name "range" p) [a, b] [] pos) (iRange f) := by
  obtain ⟨t, q, ht⟩ := ha
  refine ⟨_, pi_range2 hg hm q hs hs2, fun σ H O ρ Q hO hv z => ht σ H O ρ _ hO hv ?_⟩
  unfold iRange at z
  cases e : f ρ with
  | bad => rw [e] at z; exact z
  | err c => rw [e] at z; exact z
  | ok ds =>
    rw [e, R.bind_ok] at z
    have l := hl ρ ds e
    intro vs H1 s1 r1
    match ds, l, r1, z with
    | [d1, d2], _, r1, z =>
      obtain ⟨v, w, rfl, rv, rw'⟩ := rps_two r1
      cases rv with
      | int i =>
        cases rw' with
        | int j =>
          by_cases c : (okI i && okI j) = true
          · simp only [if_pos c] at z
            rw [Bool.and_eq_true] at c
            obtain ⟨h1, h2⟩ := okI_of c.1
            obtain ⟨h3, h4⟩ := okI_of c.2
            exact ⟨i, j, rfl, ⟨h1, h2, h3, h4⟩, z _ H1 s1 iterR⟩
          · simp only [if_neg c] at z
        | _ => exact z.elim
      | _ => exact z.elim
def zipD : List PyData → List PyData → List PyData
  | d :: ds, e :: es => .tuple [d, e] :: zipD ds es
  | _, _ => []
theorem zipD_get : ∀ {ds es : List PyData} {i : Nat} {z : PyData}, (zipD ds es)[i]? = some z → ∃ d e, ds[i]? = some d ∧ es[i]? = some e ∧ z = .tuple [d, e]
  | [], _, _, _, h => by simp [zipD] at h
  | _ :: _, [], _, _, h => by simp [zipD] at h
  | d :: ds, e :: es, 0, z, h => by simp [zipD] at h; exact ⟨d, e, rfl, rfl, h.symm⟩
  | d :: ds, e :: es, i + 1, z, h => by
    have h' : (zipD ds es)[i]? = some z := by simpa [zipD] using h
    obtain ⟨x, y, h1, h2, h3⟩ := zipD_get h'
    exact ⟨x, y, by simpa using h1, by simpa using h2, h3⟩
theorem zipD_len : ∀ {ds es : List PyData} {i : Nat}, (zipD ds es).length ≤ i → ds.length ≤ i ∨ es.length ≤ i
  | [], _, _, _ => .inl (Nat.zero_le _)
  | _ :: _, [], _, _ => .inr (Nat.zero_le _)
  | d :: ds, e :: es, 0, h => by simp [zipD] at h
  | d :: ds, e :: es, i + 1, h => by
    rcases zipD_len (ds := ds) (es := es) (i := i) (by simpa [zipD] using h) with h | h
    · exact .inl (by simpa using h)
    · exact .inr (by simpa using h)
theorem iterZL {K : PySem.W.Frag} {F : Hp} {a b : Addr} {xs ys : List V} {ds es : List PyData} (h : SqL K F a xs) (r : Rps K F xs ds) (h' : SqL K F b ys) (r' : Rps K F ys es) : IterOk K (Itz K a b) F (zipD ds es) := fun i H O hO s => by
  have s' : Same F H := s.trans hide_sub
  have hH := seqL s' h
  have hH' := seqL s' h'
  refine ⟨fun d e => ?_, fun l => ⟨xs, ys, hH, hH', by rw [r.length, r'.length]; exact zipD_len l⟩⟩
  obtain ⟨d1, d2, e1, e2, rfl⟩ := zipD_get e
  obtain ⟨v, h1, h2⟩ := r.get e1
  obtain ⟨v', h1', h2'⟩ := r'.get e2
  refine ⟨⟨xs, ys, v, v', hH, hH', h1, h1'⟩, fun x H' y => ?_⟩
  obtain ⟨T, x1, x2, rfl, hT, rfl, y1, y2⟩ := y
  have h3 := y1 xs hH
  have h4 := y2 ys hH'
  rw [h1] at h3
  rw [h1'] at h4
  cases h3
  cases h4
  exact ⟨same_new hT, new_rep hO hT (.cons (h2.mono s) (.cons (h2'.mono s) .nil))⟩
theorem iterZT {K : PySem.W.Frag} {F : Hp} {a b : Addr} {xs ys : List V} {ds es : List PyData} (h : SqT K F a xs) (r : Rps K F xs ds) (h' : SqT K F b ys) (r' : Rps K F ys es) : IterOk K (RZ.ItzT K a b) F (zipD ds es) := fun i H O hO s => by
  have s' : Same F H := s.trans hide_sub
  have hH := seqT s' h
  have hH' := seqT s' h'
  refine ⟨fun d e => ?_, fun l => ⟨xs, ys, hH, hH', by rw [r.length, r'.length]; exact zipD_len l⟩⟩
  obtain ⟨d1, d2, e1, e2, rfl⟩ := zipD_get e
  obtain ⟨v, h1, h2⟩ := r.get e1
  obtain ⟨v', h1', h2'⟩ := r'.get e2
  refine ⟨⟨xs, ys, v, v', hH, hH', h1, h1'⟩, fun x H' y => ?_⟩
  obtain ⟨T, x1, x2, rfl, hT, rfl, y1, y2⟩ := y
  have h3 := y1 xs hH
  have h4 := y2 ys hH'
  rw [h1] at h3
  rw [h1'] at h4
  cases h3
  cases h4
  exact ⟨same_new hT, new_rep hO hT (.cons (h2.mono s) (.cons (h2'.mono s) .nil))⟩
def iZipD (f : Vars → R (List PyData)) (ρ : Vars) : R (List PyData) := (f ρ).bind fun ds => match ds with
  | [.list xs, .list ys] => .ok (zipD xs ys)
  | [.tuple xs, .tuple ys] => .ok (zipD xs ys)
  | _ => .bad
theorem ix_zip {e e2 : Expr} {f : Vars → R (List PyData)} {p pos tpos : Pos} {elts : List Expr} {kk : Nat} (hg : Gl X "zip") (hm : X.mg "zip" = none) (ha : AX X W [e, e2] f)
    (hs : starEach [e, e2] X.env = (false, eval e X.env) :: starEach [e2] X.env := by rfl) (hpl : (backTo pos (starEach [e2] X.env)).any (·.1) = false := by rfl) : IX X W (.Tuple elts kk tpos) (.Call (.Name "zip" p) [e, e2] [] pos) (iZipD f) := by
  obtain ⟨t, q, ht⟩ := ha
  refine ⟨_, RZ.pi_zipA hg hm q hs hpl, fun σ H O ρ Q hO hv z => ht σ H O ρ _ hO hv ?_⟩
  unfold iZipD at z
  cases e : f ρ with
  | bad => rw [e] at z; exact z
  | err c => rw [e] at z; exact z
  | ok ds =>
    rw [e, R.bind_ok] at z
    have key : (∃ xs ys, ds = [.list xs, .list ys] ∧ ∀ J H', Same H H' → IterOk X.K J (hide O H') (zipD xs ys) → Q J H') ∨ (∃ xs ys, ds = [.tuple xs, .tuple ys] ∧ ∀ J H', Same H H' → IterOk X.K J (hide O H') (zipD xs ys) → Q J H') := by
      clear e
      split at z
      · rename_i q
        split at q
        · cases q; exact .inl ⟨_, _, rfl, z⟩
        · cases q; exact .inr ⟨_, _, rfl, z⟩
        · cases q
      · rename_i q
        split at q <;> cases q
      · exact z.elim
    intro vs H1 s1 r1
    rcases key with ⟨xs, ys, rfl, z⟩ | ⟨xs, ys, rfl, z⟩
    · obtain ⟨v, w, rfl, rv, rw'⟩ := rps_two r1
      cases rv with
      | lst hx rs => cases rw' with
        | lst hy rt => exact ⟨_, _, _, _, rfl, .inl ⟨seqL hide_sub hx, seqL hide_sub hy, z _ H1 s1 (iterZL hx rs hy rt)⟩⟩
    · obtain ⟨v, w, rfl, rv, rw'⟩ := rps_two r1
      cases rv with
      | tup hx rs => cases rw' with
        | tup hy rt => exact ⟨_, _, _, _, rfl, .inr ⟨seqT hide_sub hx, seqT hide_sub hy, z _ H1 s1 (iterZT hx rs hy rt)⟩⟩
end
end Pu
set_option Elab.async false
set_option linter.all false
set_option maxRecDepth 100000
set_option maxHeartbeats 4000000
namespace Pu
open PySem PySem.Spec PyProof.Rows L2
def W0 : WX := fun _ _ _ _ => False
def wipeD (ρ : Vars) : List Nat → Vars
  | [] => ρ
  | v :: vs => (wipeD ρ vs).set v none
theorem wipeD_length (ρ : Vars) : ∀ vs : List Nat, (wipeD ρ vs).length = ρ.length
  | [] => rfl
  | v :: vs => by unfold wipeD; rw [List.length_set, wipeD_length ρ vs]
theorem wipeD_some {ρ : Vars} {i : Nat} {d : PyData} : ∀ {vs : List Nat}, (wipeD ρ vs)[i]? = some (some d) → ρ[i]? = some (some d) ∧ i ∉ vs
  | [], h => ⟨h, by simp⟩
  | v :: vs, h => by
    unfold wipeD at h
    by_cases hi : v = i
    · subst hi
      by_cases hv : v < (wipeD ρ vs).length
      · rw [List.getElem?_set_self hv] at h; cases h
      · rw [List.getElem?_eq_none (by simpa using hv)] at h; cases h
    · rw [List.getElem?_set_ne hi] at h
      obtain ⟨h1, h2⟩ := wipeD_some h
      exact ⟨h1, by simp only [List.mem_cons, not_or]; exact ⟨fun e => hi e.symm, h2⟩⟩
theorem wipe_at {σ : L2.St} {i : Nat} : ∀ {vs : List Nat}, i ∉ vs → (wipe σ vs)[i]? = σ[i]?
  | [], _ => rfl
  | v :: vs, h => by
    simp only [List.mem_cons, not_or] at h
    unfold wipe
    rw [List.getElem?_set_ne (fun e => h.1 e.symm), wipe_at h.2]
theorem wipe_in {σ : L2.St} {i : Nat} : ∀ {vs : List Nat}, i ∈ vs → i < σ.length → (wipe σ vs)[i]? = some none
  | [], h, _ => absurd h (by simp)
  | v :: vs, h, hl => by
    unfold wipe
    by_cases c : v = i
    · subst c
      rw [List.getElem?_set_self (by rw [wipe_length]; exact hl)]
    · rw [List.getElem?_set_ne c]
      refine wipe_in ?_ hl
      rcases List.mem_cons.mp h with e | h
      · exact absurd e.symm c
      · exact h
theorem vrel_wipe {K : PySem.W.Frag} {F : Hp} {σ : L2.St} {ρ : Vars} {vs : List Nat} (h : VRel K F σ ρ) : VRel K F (wipe σ vs) (wipeD ρ vs) := ⟨by rw [wipe_length, wipeD_length]; exact h.len, fun i d e => by
  obtain ⟨h1, h2⟩ := wipeD_some e
  obtain ⟨v, h3, h4⟩ := h.get i d h1
  exact ⟨v, by rw [wipe_at h2]; exact h3, h4⟩⟩
theorem wipe_eq {σ σ' : L2.St} {js vs : List Nat} (hl : σ'.length = (wipe σ vs).length) (h : ∀ j : Nat, j ∉ js → σ'[j]? = (wipe σ vs)[j]?) (hs : ∀ j ∈ js, j ∈ vs) : wipe σ' vs = wipe σ vs := by
  apply List.ext_getElem?
  intro i
  rw [wipe_length] at hl
  by_cases hi : i ∈ vs
  · by_cases c : i < σ.length
    · rw [wipe_in hi c, wipe_in hi (by omega)]
    · rw [List.getElem?_eq_none (by rw [wipe_length]; omega), List.getElem?_eq_none (by rw [wipe_length]; omega)]
  · rw [wipe_at hi, h i fun z => hi (hs i z)]
def lcL (gt : PyData → Vars → Option Vars) (tt : Vars → R Bool) (f : Vars → R PyData) (ρ : Vars) : List PyData → R (List PyData)
  | [] => .ok []
  | d :: ds => match gt d ρ with
    | none => .bad
    | some ρ' => (tt ρ').bind fun b => if b = true then (f ρ').bind fun y => (lcL gt tt f ρ ds).bind fun ys => .ok (y :: ys) else lcL gt tt f ρ ds
def nLc (fi : Vars → R (List PyData)) (gt : PyData → Vars → Option Vars) (tt : Vars → R Bool) (f : Vars → R PyData) (vs : List Nat) (ρ : Vars) : R (List PyData) :=
  (fi ρ).bind fun ds => match lcL gt tt f (wipeD ρ vs) ds with
    | .ok ys => if ys.length < sizeLine then .ok ys else .bad
    | _ => .bad
def eLc (fi : Vars → R (List PyData)) (gt : PyData → Vars → Option Vars) (tt : Vars → R Bool) (f : Vars → R PyData) (vs : List Nat) (ρ : Vars) : R PyData := (nLc fi gt tt f vs ρ).bind fun ys => .ok (.list ys)
def NOut (X : Cx) (W : WX) (O : List Addr) (σ : L2.St) (H : Hp) (Q : VK) : R (List PyData) → Prop
  | .ok ds => ∀ p vs H', Same H H' → H p = none → H' p = some (.lst vs) → Rps X.K (hide (p :: O) H') vs ds → Q (.ref p) H'
  | .err c => ∀ H', Same H H' → W (exV X.mg c) none σ H'
  | .bad => False
def TsX (X : Cx) (W : WX) (ifs : List Expr) (f : Vars → R Bool) : Prop :=
  ∃ t, PTs X ifs t ∧ ∀ σ H O ρ Q, Stands O H → VRel X.K (hide O H) σ ρ → TOut X W σ H Q (f ρ) → t σ H Q
section
variable {X : Cx} {W : WX}
theorem TsX.pts {ifs : List Expr} {f : Vars → R Bool} (h : TsX X W ifs f) : PTs X ifs (tT X W f) := by
  obtain ⟨t, p, ht⟩ := h
  exact ⟨fun pins s σ H Q I ⟨O, ρ, h1, h2, h3⟩ => p.run pins s σ H Q I (ht σ H O ρ Q h1 h2 h3)⟩
theorem tsx_one {c : Expr} {f : Vars → R Bool} (h : TX X W c f) : TsX X W [c] f := by
  obtain ⟨t, p, ht⟩ := h
  exact ⟨_, pts_one p, ht⟩
end
section
variable {X : Cx} {W : WX}
theorem lc_run {wi : TI} {vs js : List Nat} {fi : Vars → R (List PyData)} {gt : PyData → Vars → Option Vars} {ft : Vars → R Bool} {f : Vars → R PyData}
    (hi : ∀ σ H O ρ (Q : It → Hp → Prop), Stands O H → VRel X.K (hide O H) σ ρ → (match fi ρ with
      | .ok ds => ∀ J H', Same H H' → IterOk X.K J (hide O H') ds → Q J H'
      | .err c => ∀ H', Same H H' → W (exV X.mg c) none σ H'
      | .bad => False) → wi σ H Q)
    (hjs : ∀ j ∈ js, j ∈ vs) {σ : L2.St} {H : Hp} {O : List Addr} {ρ : Vars} {Q : VK} (hO : Stands O H) (hv : VRel X.K (hide O H) σ ρ)
    (z : NOut X W O σ H Q (nLc fi gt ft f vs ρ)) : tLc wi (tG X js gt) (tT X W0 ft) (tE X W0 f) vs σ H Q := by
  refine hi σ H O ρ _ hO hv ?_
  unfold nLc at z
  cases e : fi ρ with
  | bad => rw [e] at z; exact z
  | err c => rw [e] at z; exact z
  | ok ds =>
    rw [e, R.bind_ok] at z
    intro J H1 s1 hJ D hD
    cases e2 : lcL gt ft f (wipeD ρ vs) ds with
    | bad => rw [e2] at z; exact z.elim
    | err c => rw [e2] at z; exact z.elim
    | ok ys =>
      rw [e2] at z
      dsimp only at z
      by_cases hsz : ys.length < sizeLine
      case neg => rw [if_neg hsz] at z; exact z.elim
      rw [if_pos hsz] at z
      have hO1 := hO.same s1
      have hDO : D ∉ O := hO1.new hD
      have hHD : H D = none := s1.free hD
      -- the invariant
      refine ⟨fun i m H2 => m = ds.length - i ∧ i ≤ ds.length ∧ Same (hide O H1) (hide (D :: O) H2) ∧ Same H1 (fun a => if a = D then none else H2 a) ∧ ∃ acc as rest, H2 D = some (.lst acc) ∧ Rps X.K (hide (D :: O) H2) acc as ∧ lcL gt ft f (wipeD ρ vs) (ds.drop i) = .ok rest ∧ as ++ rest = ys, ⟨ds.length, rfl, Nat.zero_le _, fun a o h => ?_, fun a o h => ?_, [], [], ys, upd_same, .nil, by rw [List.drop_zero]; exact e2, rfl⟩, ?_⟩
      · obtain ⟨c, q⟩ := hide_some h
        have n : a ≠ D := ne_of_none q hD
        refine hide_of (fun zz => ?_) (by rw [upd_ne n]; exact q)
        rcases List.mem_cons.mp zz with r | r
        · exact n r
        · exact c r
      · have n : a ≠ D := ne_of_none h hD
        show (if a = D then none else upd H1 D (.lst []) a) = some o
        rw [if_neg n, upd_ne n]; exact h
      rintro i m H2 ⟨rfl, hle, sF, sH, acc, as, rest, hD2, rAcc, eRest, eYs⟩
      have hO2 : Stands (D :: O) H2 := fun a ha => by
        rcases List.mem_cons.mp ha with r | r
        · exact ⟨.lst acc, by rw [r]; exact hD2, fun xs z => nomatch z⟩
        · have n : a ≠ D := fun z => hDO (z ▸ r)
          obtain ⟨o, q, nn⟩ := hO1 a r
          have := sH a o q
          rw [show (fun a => if a = D then none else H2 a) a = H2 a from if_neg n] at this
          exact ⟨o, this, nn⟩
      obtain ⟨j1, j2⟩ := hJ i H2 (D :: O) hO2 sF
      have s12 : Same H1 H2 := fun a o h => by
        have n : a ≠ D := ne_of_none h hD
        have := sH a o h
        rw [show (fun a => if a = D then none else H2 a) a = H2 a from if_neg n] at this
        exact this
      by_cases hlt : i < ds.length
      · have hd : ds[i]? = some ds[i] := List.getElem?_eq_getElem hlt
        obtain ⟨g1, g2⟩ := j1 _ hd
        have hdrop : ds.drop i = ds[i] :: ds.drop (i + 1) := List.drop_eq_getElem_cons hlt
        rw [hdrop] at eRest
        unfold lcL at eRest
        cases eg : gt ds[i] (wipeD ρ vs) with
        | none => rw [eg] at eRest; cases eRest
        | some ρ1 =>
          rw [eg] at eRest
          dsimp only at eRest
          refine .inr ⟨g1, fun H' => (i + 1 ≤ ds.length ∧ Same (hide O H1) (hide (D :: O) H') ∧ Same H1 (fun a => if a = D then none else H' a) ∧ ∃ acc as rest, H' D = some (.lst acc) ∧ Rps X.K (hide (D :: O) H') acc as ∧ lcL gt ft f (wipeD ρ vs) (ds.drop (i + 1)) = .ok rest ∧ as ++ rest = ys),
            fun H' hn => ⟨ds.length - (i + 1), by omega, rfl, hn.1, hn.2⟩, fun x H3 y => ?_⟩
          obtain ⟨s23, rx⟩ := g2 x H3 y
          have hO3 := hO2.same s23
          have v2 : VRel X.K (hide (D :: O) H3) (wipe σ vs) (wipeD ρ vs) := by
            exact (vrel_wipe (hv.mono (hide_same s1))).mono (sF.trans (hide_same s23))
          have nx : ∀ (H' : Hp) (acc' : List V) (as' rest' : List PyData), Same H3 H' ∨ (∃ H5, Same H3 H5 ∧ H' = upd H5 D (.lst acc')) → H' D = some (.lst acc') → Rps X.K (hide (D :: O) H') acc' as' → lcL gt ft f (wipeD ρ vs) (ds.drop (i + 1)) = .ok rest' → as' ++ rest' = ys →
              i + 1 ≤ ds.length ∧ Same (hide O H1) (hide (D :: O) H') ∧ Same H1 (fun a => if a = D then none else H' a) ∧ ∃ acc as rest, H' D = some (.lst acc) ∧ Rps X.K (hide (D :: O) H') acc as ∧ lcL gt ft f (wipeD ρ vs) (ds.drop (i + 1)) = .ok rest ∧ as ++ rest = ys := fun H' acc' as' rest' hs hD' rr el ey => by
            have tr : ∀ a o, a ≠ D → H3 a = some o → H' a = some o := fun a o n h => by
              rcases hs with hs | ⟨H5, hs, rfl⟩
              · exact hs a o h
              · rw [upd_ne n]; exact hs a o h
            refine ⟨hlt, fun a o h => ?_, fun a o h => ?_, acc', as', rest', hD', rr, el, ey⟩
            · obtain ⟨c, q⟩ := hide_some (sF a o h)
              exact hide_of c (tr a o (fun z => c (by simp [z])) (s23 a o q))
            · have n : a ≠ D := ne_of_none h hD
              show (if a = D then none else H' a) = some o
              rw [if_neg n]
              exact tr a o n (s23 a o (s12 a o h))
          refine ⟨ds[i], D :: O, _, ρ1, hO3, v2, rx, eg, fun σ3 v3 m3 f3 => ⟨wipe_eq m3 (fun j hj => (f3 j hj).1) hjs, ?_⟩⟩
          refine ⟨D :: O, ρ1, hO3, v3, ?_⟩
          cases et : ft ρ1 with
          | bad => rw [et] at eRest; cases eRest
          | err c => rw [et] at eRest; cases eRest
          | ok b =>
            rw [et, R.bind_ok] at eRest
            intro H4 s34
            cases b with
            | false =>
              simp only [Bool.false_eq_true, if_false] at eRest ⊢
              exact nx H4 acc as rest (.inl s34) (s34 _ _ (s23 _ _ hD2)) (rAcc.mono (hide_same (s23.trans s34))) eRest eYs
            | true =>
              simp only [if_true] at eRest ⊢
              refine ⟨D :: O, ρ1, hO3.same s34, v3.mono (hide_same s34), ?_⟩
              cases ef : f ρ1 with
              | bad => rw [ef] at eRest; cases eRest
              | err c => rw [ef] at eRest; cases eRest
              | ok yv =>
                rw [ef, R.bind_ok] at eRest
                obtain ⟨rr, el⟩ : ∃ rr, lcL gt ft f (wipeD ρ vs) (ds.drop (i + 1)) = rr := ⟨_, rfl⟩
                cases rr with
                | bad => rw [el] at eRest; cases eRest
                | err c => rw [el] at eRest; cases eRest
                | ok rest' =>
                  rw [el, R.bind_ok] at eRest
                  have er : yv :: rest' = rest := R.ok.inj eRest
                  subst er
                  intro v H5 s45 rv
                  have s25 := (s23.trans s34).trans s45
                  refine ⟨acc, s25 _ _ hD2, ?_, ?_⟩
                  · have l1 := rAcc.length
                    rw [← eYs, List.length_append, List.length_cons] at hsz
                    omega
                  · have hid : ∀ o', hide (D :: O) (upd H5 D o') = hide (D :: O) H5 := fun o' => by
                      funext a
                      unfold hide
                      by_cases c : a ∈ D :: O
                      · rw [if_pos c, if_pos c]
                      · rw [if_neg c, if_neg c, upd_ne (fun z => c (by simp [z]))]
                    refine nx _ (acc ++ [v]) (as ++ [yv]) rest' (.inr ⟨H5, s34.trans s45, rfl⟩) upd_same ?_ el (by rw [List.append_assoc]; exact eYs)
                    rw [hid]
                    exact (rAcc.mono (hide_same s25)).append (.cons rv .nil)
      · have e3 : i = ds.length := by omega
        subst e3
        refine .inl ⟨j2 (Nat.le_refl _), ?_⟩
        rw [List.drop_length] at eRest
        cases eRest
        rw [List.append_nil] at eYs
        subst eYs
        exact z D acc H2 (s1.trans s12) hHD hD2 rAcc
theorem rps_less {K : PySem.W.Frag} {H : Hp} {p : Addr} {O : List Addr} {xs : List V} {ys : List PyData} (h : Rps K (hide (p :: O) H) xs ys) : Rps K (hide O H) xs ys := h.mono (hide_less fun a ha => List.mem_cons_of_mem _ ha)
section
variable {elt tg iter : Expr} {ifs : List Expr} {scope : Scope} {own : List (Str × Nat)} {pos : Pos} {js : List Nat} {fi : Vars → R (List PyData)} {gt : PyData → Vars → Option Vars} {ft : Vars → R Bool} {f : Vars → R PyData}
theorem eLc_to {vs : List Nat} {σ : L2.St} {H : Hp} {O : List Addr} {ρ : Vars} {Q : VK} (hO : Stands O H) (z : EOut X W O σ H Q (eLc fi gt ft f vs ρ)) : NOut X W O σ H Q (nLc fi gt ft f vs ρ) := by
  unfold eLc at z
  cases e : nLc fi gt ft f vs ρ with
  | bad => rw [e] at z; exact z
  | err c => rw [e] at z; exact z
  | ok ys =>
    rw [e, R.bind_ok] at z
    exact fun p xs H' s hp h' r => z _ H' s (.lst (.inl (.inl (hide_of (hO.new hp) h'))) (rps_less r))
end
end
end Pu
set_option Elab.async false
set_option linter.all false
set_option maxRecDepth 100000
set_option maxHeartbeats 4000000
namespace Pu
open PySem PySem.Spec PyProof.Rows L2
inductive Out where
  | nx (ρ : Vars) | rt (d : PyData) | bk (ρ : Vars) | ct (ρ : Vars) | err (c : Str) (ρ : Vars) | bad
def Out.then (o : Out) (f : Vars → Out) : Out := match o with
  | .nx ρ => f ρ
  | .rt d => .rt d
  | .bk ρ => .bk ρ
  | .ct ρ => .ct ρ
  | .err c ρ => .err c ρ
  | .bad => .bad
@[simp] theorem Out.then_nx (ρ : Vars) (f : Vars → Out) : (Out.nx ρ).then f = f ρ := rfl
@[simp] theorem Out.then_rt (d : PyData) (f : Vars → Out) : (Out.rt d).then f = .rt d := rfl
@[simp] theorem Out.then_bk (ρ : Vars) (f : Vars → Out) : (Out.bk ρ).then f = .bk ρ := rfl
@[simp] theorem Out.then_ct (ρ : Vars) (f : Vars → Out) : (Out.ct ρ).then f = .ct ρ := rfl
@[simp] theorem Out.then_err (c : Str) (ρ : Vars) (f : Vars → Out) : (Out.err c ρ).then f = .err c ρ := rfl
@[simp] theorem Out.then_bad (f : Vars → Out) : Out.bad.then f = .bad := rfl
def R.run {α : Type} (r : R α) (ρ : Vars) (k : α → Out) : Out := match r with
  | .ok a => k a
  | .err c => .err c ρ
  | .bad => .bad
@[simp] theorem R.run_ok {α : Type} (a : α) (ρ : Vars) (k : α → Out) : (R.ok a).run ρ k = k a := rfl
@[simp] theorem R.run_err {α : Type} (c : Str) (ρ : Vars) (k : α → Out) : (R.err c : R α).run ρ k = .err c ρ := rfl
@[simp] theorem R.run_bad {α : Type} (ρ : Vars) (k : α → Out) : (R.bad : R α).run ρ k = .bad := rfl
def OwnV (K : PySem.W.Frag) (F H : Hp) (a : Addr) : PyData → Prop
  | .list ds => ∃ vs, H a = some (.lst vs) ∧ Rps K F vs ds
  | .dict ds => (∃ kvs, H a = some (.dK kvs) ∧ Rpd K F kvs ds) ∨ ∃ ts es, ds = [(.none, .dict es)] ∧ H a = some (.dT ts) ∧ RpT K F ts es
  | _ => False
def OwnO (o : HO) : Prop := ((∃ xs, o = .lst xs) ∨ ∃ ts, o = .dT ts) ∨ ∃ kvs, o = .dK kvs ∨ ∃ od, o = .frz od (.dK kvs)
theorem OwnV.mono {K : PySem.W.Frag} {F F' H H' : Hp} {a : Addr} {d : PyData} (h : OwnV K F H a d) (s : Same F F') (e : ∀ o, H a = some o → H' a = some o) : OwnV K F' H' a d := by
  cases d with
  | list ds => obtain ⟨vs, h1, h2⟩ := h; exact ⟨vs, e _ h1, h2.mono s⟩
  | dict ds => exact h.imp (fun ⟨vs, h1, h2⟩ => ⟨vs, e _ h1, h2.mono s⟩) (fun ⟨ts, es, z, h1, h2⟩ => ⟨ts, es, z, e _ h1, h2.mono s⟩)
  | _ => exact h.elim
theorem OwnV.rp {K : PySem.W.Frag} {F H F' : Hp} {a : Addr} {d : PyData} (h : OwnV K F H a d) (s : Same F F') (e : ∀ o, H a = some o → F' a = some o) : Rp K F' (.ref a) d := by
  cases d with
  | list ds => obtain ⟨vs, h1, h2⟩ := h; exact .lst (.inl (.inl (e _ h1))) (h2.mono s)
  | dict ds =>
    rcases h with ⟨vs, h1, h2⟩ | ⟨ts, es, rfl, h1, h2⟩
    · exact .dic (.inl (e _ h1)) (h2.mono s)
    · exact .dct (.inl (e _ h1)) (h2.mono s)
  | _ => exact h.elim
theorem OwnV.own {K : PySem.W.Frag} {F H : Hp} {a : Addr} {d : PyData} (h : OwnV K F H a d) : ∃ o, H a = some o ∧ OwnO o := by
  cases d with
  | list ds => obtain ⟨vs, h1, h2⟩ := h; exact ⟨_, h1, .inl (.inl ⟨_, rfl⟩)⟩
  | dict ds =>
    rcases h with ⟨vs, h1, h2⟩ | ⟨ts, es, rfl, h1, h2⟩
    · exact ⟨_, h1, .inr ⟨_, .inl rfl⟩⟩
    · exact ⟨_, h1, .inl (.inr ⟨_, rfl⟩)⟩
  | _ => exact h.elim
structure HB where
  h : Hp
  b : List (Nat × Addr)
instance : Coe HB Hp := ⟨HB.h⟩
instance : CoeFun HB (fun _ => Addr → Option HO) := ⟨HB.h⟩
structure Rel (K : PySem.W.Frag) (own : List Nat) (H0 : HB) (O0 O : List Addr) (σ : L2.St) (H : Hp) (ρ : Vars) : Prop where
  same : Same H0 H
  st0 : Stands O0 H0
  len : σ.length = ρ.length
  sub : ∀ a ∈ O0, a ∈ O
  lists : ∀ a ∈ O, a ∈ O0 ∨ (H0 a = none ∧ ∃ o, H a = some o ∧ OwnO o)
  free : ∀ (i : Nat) (d : PyData), i ∉ own → ρ[i]? = some (some d) → ∃ v, σ[i]? = some (some v) ∧ Rp K (hide O H) v d
  mine : ∀ (i : Nat) (d : PyData), i ∈ own → ρ[i]? = some (some d) → ∃ a, σ[i]? = some (some (.ref a)) ∧ a ∈ O ∧ H0 a = none ∧ OwnV K (hide O H) H a d
  apart : ∀ (i j : Nat) (d e : PyData) (a : Addr), i ∈ own → j ∈ own → ρ[i]? = some (some d) → ρ[j]? = some (some e) → σ[i]? = some (some (.ref a)) → σ[j]? = some (some (.ref a)) → i = j
  bor : ∀ p ∈ H0.b, p.1 ∈ own ∧ 1000 + p.1 ∈ own ∧ σ[p.1]? = some (some (.ref p.2)) ∧ p.2 ∈ O
  bord : ∀ p ∈ H0.b, ∀ (i : Nat) (d : PyData), i ∈ own → ρ[i]? = some (some d) → σ[i]? = some (some (.ref p.2)) → i = p.1
  mark : ∀ i : Nat, 1000 + i ∈ own → ∃ a, (i, a) ∈ H0.b
section
variable {K : PySem.W.Frag} {own : List Nat} {H0 : HB} {O0 O : List Addr} {σ : L2.St} {H H' : Hp} {ρ : Vars}
theorem OwnO.notup {o : HO} (h : OwnO o) : ∀ xs, o ≠ .tup xs := fun xs z => by
  rcases h with (⟨_, h⟩ | ⟨_, h⟩) | ⟨_, h | ⟨_, h⟩⟩ <;> rw [h] at z <;> cases z
theorem Rel.notO0 (r : Rel K own H0 O0 O σ H ρ) {a : Addr} (h : H0 a = none) : a ∉ O0 := fun z => r.st0.nn z h
theorem Rel.stands0 (r : Rel K own H0 O0 O σ H ρ) : Stands O0 H := r.st0.same r.same
theorem Rel.stands (r : Rel K own H0 O0 O σ H ρ) : Stands O H := fun a ha => by
  rcases r.lists a ha with h | ⟨_, o, h, ho⟩
  · exact r.stands0 a h
  · exact ⟨o, h, ho.notup⟩
theorem Rel.vrel0 (r : Rel K own H0 O0 O σ H ρ) : VRel K (hide O0 H) σ ρ := ⟨r.len, fun i d e => by
  by_cases c : i ∈ own
  · obtain ⟨a, h1, _, h3, h4⟩ := r.mine i d c e
    exact ⟨.ref a, h1, h4.rp (hide_less r.sub) fun o h => hide_of (r.notO0 h3) h⟩
  · obtain ⟨v, h1, h2⟩ := r.free i d c e
    exact ⟨v, h1, h2.mono (hide_less r.sub)⟩⟩
theorem Rel.vrel (r : Rel K [] H0 O0 O σ H ρ) : VRel K (hide O H) σ ρ := ⟨r.len, fun i d e => r.free i d (by simp) e⟩
theorem Rel.step (r : Rel K own H0 O0 O σ H ρ) (s : Same H H') : Rel K own H0 O0 O σ H' ρ where
  same := r.same.trans s
  st0 := r.st0
  len := r.len
  sub := r.sub
  lists := fun a ha => (r.lists a ha).imp id fun ⟨h1, xs, h2, h3⟩ => ⟨h1, xs, s _ _ h2, h3⟩
  free := fun i d c e => by
    obtain ⟨v, h1, h2⟩ := r.free i d c e
    exact ⟨v, h1, h2.mono (hide_same s)⟩
  mine := fun i d c e => by
    obtain ⟨a, h1, h2, h3, h4⟩ := r.mine i d c e
    exact ⟨a, h1, h2, h3, h4.mono (hide_same s) (s a)⟩
  apart := r.apart
  bor := r.bor
  bord := r.bord
  mark := r.mark
theorem Rel.imm (r : Rel K own H0 O0 O σ H ρ) {v : V} {d : PyData} (h : Rp K (hide O0 H) v d) (e : imm d = true) : Rp K (hide O H) v d :=
  h.imm (fun a xs q => by
    rcases q with (q | ⟨o, q⟩) | q
    · obtain ⟨c, q⟩ := hide_some q
      refine .inl (.inl (hide_of (fun z => ?_) q))
      rcases r.lists a z with h | ⟨_, ys, h, h'⟩
      · exact c h
      · rw [q] at h; cases h; rcases h' with (⟨_, h'⟩ | ⟨_, h'⟩) | ⟨_, h' | ⟨_, h'⟩⟩ <;> cases h'
    · obtain ⟨c, q⟩ := hide_some q
      refine .inl (.inr ⟨o, hide_of (fun z => ?_) q⟩)
      rcases r.lists a z with h | ⟨_, ys, h, h'⟩
      · exact c h
      · rw [q] at h; cases h; rcases h' with (⟨_, h'⟩ | ⟨_, h'⟩) | ⟨_, h' | ⟨_, h'⟩⟩ <;> cases h'
    · exact .inr q) e
theorem Rel.set (r : Rel K own H0 O0 O σ H ρ) {i : Nat} {v : V} {d : PyData} (c : i ∉ own) (h : Rp K (hide O H) v d) : Rel K own H0 O0 O (σ.set i (some v)) H (ρ.set i (some d)) where
  same := r.same
  st0 := r.st0
  len := by simpa using r.len
  sub := r.sub
  lists := r.lists
  free := fun j e cj q => by
    have hl := r.len
    by_cases z : i = j
    · subst z
      by_cases hi : i < ρ.length
      · rw [List.getElem?_set_self hi] at q
        cases q
        exact ⟨v, List.getElem?_set_self (by omega), h⟩
      · rw [List.getElem?_eq_none (by simpa using hi)] at q; cases q
    · rw [List.getElem?_set_ne z] at q
      rw [List.getElem?_set_ne z]
      exact r.free j e cj q
  mine := fun j e cj q => by
    have z : i ≠ j := fun z => c (z ▸ cj)
    rw [List.getElem?_set_ne z] at q
    rw [List.getElem?_set_ne z]
    exact r.mine j e cj q
  apart := fun j k d e a cj ck q1 q2 e1 e2 => by
    have z : i ≠ j := fun z => c (z ▸ cj)
    have z2 : i ≠ k := fun z => c (z ▸ ck)
    rw [List.getElem?_set_ne z] at q1 e1
    rw [List.getElem?_set_ne z2] at q2 e2
    exact r.apart j k d e a cj ck q1 q2 e1 e2
  bor := fun p hp => by
    obtain ⟨h1, h2, h3, h4⟩ := r.bor p hp
    exact ⟨h1, h2, by rw [List.getElem?_set_ne (show i ≠ p.1 from fun z => c (by rw [z]; exact h1))]; exact h3, h4⟩
  bord := fun p hp j d' cj q e => by
    have z : i ≠ j := fun z => c (z ▸ cj)
    rw [List.getElem?_set_ne z] at q e
    exact r.bord p hp j d' cj q e
  mark := r.mark
theorem Rel.vrelM (r : Rel K own H0 O0 O σ H ρ) : VRel K (hide O H) σ (mask own ρ) := ⟨by unfold mask; rw [maskF_len]; exact r.len, fun i d e => by
  obtain ⟨c, q⟩ := mask_some e
  exact r.free i d c q⟩
theorem Rel.other (r : Rel K own H0 O0 O σ H ρ) {σ' : L2.St} {ρ' : Vars} {js : List Nat} (hj : ∀ j ∈ js, j ∉ own) (hl : σ'.length = σ.length) (v : VRel K (hide O H) σ' (mask own ρ')) (f : ∀ j : Nat, j ∉ js → σ'[j]? = σ[j]? ∧ (mask own ρ')[j]? = (mask own ρ)[j]?) (f2 : ∀ j ∈ own, ρ'[j]? = ρ[j]?) : Rel K own H0 O0 O σ' H ρ' where
  same := r.same
  st0 := r.st0
  len := by have := v.len; unfold mask at this; rw [maskF_len] at this; exact this
  sub := r.sub
  lists := r.lists
  free := fun i d c e => v.get i d (mask_of c e)
  mine := fun i d c e => by
    have nj : i ∉ js := fun z => hj i z c
    rw [f2 i c] at e
    rw [(f i nj).1]
    exact r.mine i d c e
  apart := fun i j d e a ci cj q1 q2 e1 e2 => by
    have ni : i ∉ js := fun z => hj i z ci
    have nj : j ∉ js := fun z => hj j z cj
    rw [f2 i ci] at q1
    rw [f2 j cj] at q2
    rw [(f i ni).1] at e1
    rw [(f j nj).1] at e2
    exact r.apart i j d e a ci cj q1 q2 e1 e2
  bor := fun p hp => by
    obtain ⟨h1, h2, h3, h4⟩ := r.bor p hp
    exact ⟨h1, h2, by rw [(f p.1 (fun z => hj p.1 z h1)).1]; exact h3, h4⟩
  bord := fun p hp i d ci q e => by
    rw [f2 i ci] at q
    rw [(f i (fun z => hj i z ci)).1] at e
    exact r.bord p hp i d ci q e
  mark := r.mark
def keepB (own own' : List Nat) : Bool := own.all fun i => decide (i < 1000) || (own'.contains i && own'.contains (i - 1000))
theorem Rel.keep (r : Rel K own H0 O0 O σ H ρ) {own' : List Nat} (hk : keepB own own' = true) : ∀ p ∈ H0.b, p.1 ∈ own' ∧ 1000 + p.1 ∈ own' := fun p hp => by
    obtain ⟨_, h2, _⟩ := r.bor p hp
    have := List.all_eq_true.mp hk _ h2
    rw [Bool.or_eq_true] at this
    rcases this with z | z
    · exact absurd (of_decide_eq_true z) (by omega)
    · rw [Bool.and_eq_true] at z
      have e : 1000 + p.1 - 1000 = p.1 := by omega
      rw [e] at z
      exact ⟨List.contains_iff_mem.mp z.2, List.contains_iff_mem.mp z.1⟩
theorem Rel.freeze (r : Rel K own H0 O0 O σ H ρ) {own' : List Nat} (h : ∀ i ∈ own', i ∈ own) (kb : ∀ p ∈ H0.b, p.1 ∈ own' ∧ 1000 + p.1 ∈ own') : ∃ O', Rel K own' H0 O0 O' σ H ρ ∧ Same (hide O H) (hide O' H) := by
  classical
  let P : Addr → Prop := fun a => a ∈ O0 ∨ (∃ i ∈ own', σ[i]? = some (some (V.ref a)) ∧ ∃ d, ρ[i]? = some (some d)) ∨ ∃ p ∈ H0.b, p.2 = a
  have hm : ∀ a, a ∈ O.filter (fun a => decide (P a)) ↔ a ∈ O ∧ P a := fun a => by simp [List.mem_filter]
  have sF : Same (hide O H) (hide (O.filter fun a => decide (P a)) H) := hide_less fun a ha => ((hm a).mp ha).1
  refine ⟨O.filter fun a => decide (P a), ⟨r.same, r.st0, r.len, fun a ha => (hm a).mpr ⟨r.sub a ha, .inl ha⟩, fun a ha => r.lists a ((hm a).mp ha).1, fun i d c e => ?_, fun i d c e => ?_, fun i j d e a ci cj => r.apart i j d e a (h i ci) (h j cj), fun p hp => ?_, fun p hp i d ci q e => r.bord p hp i d (h i ci) q e, fun i hi => r.mark i (h _ hi)⟩, sF⟩
  · by_cases ci : i ∈ own
    · obtain ⟨a, h1, h2, h3, h4⟩ := r.mine i d ci e
      refine ⟨.ref a, h1, h4.rp sF fun o ho => hide_of (fun z => ?_) ho⟩
      rcases ((hm a).mp z).2 with z | ⟨j, hj, e1, d', e2⟩ | ⟨p, hp, e1⟩
      · exact r.notO0 h3 z
      · exact c (r.apart i j _ _ a ci (h j hj) e e2 h1 e1 ▸ hj)
      · subst e1
        exact c (r.bord p hp i d ci e h1 ▸ (kb p hp).1)
    · obtain ⟨v, h1, h2⟩ := r.free i d ci e
      exact ⟨v, h1, h2.mono sF⟩
  · obtain ⟨a, h1, h2, h3, h4⟩ := r.mine i d (h i c) e
    exact ⟨a, h1, (hm a).mpr ⟨h2, .inr (.inl ⟨i, c, h1, d, e⟩)⟩, h3, h4.mono sF fun o ho => ho⟩
  · obtain ⟨h1, h2, h3, h4⟩ := r.bor p hp
    exact ⟨(kb p hp).1, (kb p hp).2, h3, (hm p.2).mpr ⟨h4, .inr (.inr ⟨p, hp, rfl⟩)⟩⟩
theorem Rel.notLent (r : Rel K own H0 O0 O σ H ρ) {i : Nat} (h : 1000 + i ∉ own) : ∀ q ∈ H0.b, i ≠ q.1 := fun q hq z => by
  subst z
  exact h (r.bor q hq).2.1
theorem Rel.unlent (r : Rel K own H0 O0 O σ H ρ) (h : (own.all fun i => decide (i < 1000)) = true) : H0.b = [] := by
  cases e : H0.b with
  | nil => rfl
  | cons p ps =>
    obtain ⟨_, h2, _⟩ := r.bor p (by rw [e]; exact List.mem_cons_self)
    exact absurd (of_decide_eq_true (List.all_eq_true.mp h _ h2)) (by omega)
end
def lkp : List (PyData × PyData) → Nat → Option PyData
  | [], _ => none
  | (.int j, d) :: r, i => if j = (i : Nat) then some d else lkp r i
  | _ :: r, i => lkp r i
def RtW (K : PySem.W.Frag) (H0 : HB) (O0 : List Addr) (F : Hp) (D : Ends) (d : PyData) : Prop := match H0.b with
  | [] => ∀ v H' O', Same H0 H' → Same F (hide O' H') → Rp K (hide O0 H') v d → D.rt v H'
  | b :: bs => match d with
    | .tuple [d1, .dict kvs] => ∀ v H' O', Same H0 H' → Same F (hide O' H') → Rp K (hide ((b :: bs).map (·.2) ++ O0) H') v d1 → (∀ p ∈ b :: bs, ∀ dd, lkp kvs p.1 = some dd → OwnV K (hide ((b :: bs).map (·.2) ++ O0) H') H' p.2 dd) → D.rt v H'
    | _ => False
theorem RtW.from {K : PySem.W.Frag} {H0 : HB} {O0 : List Addr} {F F' : Hp} {D : Ends} {d : PyData} (z : RtW K H0 O0 F D d) (s : Same F F') : RtW K H0 O0 F' D d := by
  unfold RtW at z ⊢
  cases e : H0.b with
  | nil => rw [e] at z; exact fun v H' O' s0 s1 r => z v H' O' s0 (s.trans s1) r
  | cons b bs =>
    rw [e] at z
    dsimp only at z ⊢
    split at z
    · exact fun v H' O' s0 s1 r => z v H' O' s0 (s.trans s1) r
    · exact z.elim
theorem RtW.no {K : PySem.W.Frag} {H0 : HB} {O0 : List Addr} {F : Hp} {D : Ends} {d : PyData} (h : H0.b = []) (z : RtW K H0 O0 F D d) : ∀ v H' O', Same H0 H' → Same F (hide O' H') → Rp K (hide O0 H') v d → D.rt v H' := by
  unfold RtW at z
  rw [h] at z; exact z
section
variable (X : Cx) (W : WX) (own : List Nat)
def SOut (H0 : HB) (O0 O : List Addr) (H : Hp) (D : Ends) : Out → Prop
  | .nx ρ => ∀ σ' H' O', Rel X.K own H0 O0 O' σ' H' ρ → Same (hide O H) (hide O' H') → D.nx σ' H'
  | .rt d => RtW X.K H0 O0 (hide O H) D d
  | .bk ρ => ∀ σ' H' O', Rel X.K own H0 O0 O' σ' H' ρ → Same (hide O H) (hide O' H') → D.bk σ' H'
  | .ct ρ => ∀ σ' H' O', Rel X.K own H0 O0 O' σ' H' ρ → Same (hide O H) (hide O' H') → D.ct σ' H'
  | .err c ρ => ∀ σ' H' O', Rel X.K own H0 O0 O' σ' H' ρ → Same (hide O H) (hide O' H') → W (exV X.mg c) none σ' H'
  | .bad => False
def tS (g : Vars → Out) : TS := fun D σ H => ∃ H0 O0 O ρ, Rel X.K own H0 O0 O σ H ρ ∧ SOut X W own H0 O0 O H D (g ρ)
def SX (st : Stmt) (g : Vars → Out) : Prop :=
  ∃ t, PS X st t ∧ ∀ σ H ρ D H0 O0 O, Rel X.K own H0 O0 O σ H ρ → SOut X W own H0 O0 O H D (g ρ) → t D σ H
def SsX (sts : List Stmt) (g : Vars → Out) : Prop :=
  ∃ t, PSs X sts t ∧ ∀ σ H ρ D H0 O0 O, Rel X.K own H0 O0 O σ H ρ → SOut X W own H0 O0 O H D (g ρ) → t D σ H
end
section
variable {X : Cx} {W : WX} {own : List Nat}
theorem SsX.pss {sts : List Stmt} {g : Vars → Out} (h : SsX X W own sts g) : PSs X sts (tS X W own g) := by
  obtain ⟨t, p, ht⟩ := h
  exact ⟨fun pins s σ H D I ⟨H0, O0, O, ρ, h1, h2⟩ => p.run pins s σ H D I (ht σ H ρ D H0 O0 O h1 h2)⟩
theorem SOut.from {H0 : HB} {O0 O O' : List Addr} {H H' : Hp} {D : Ends} {o : Out} (h : SOut X W own H0 O0 O H D o) (s : Same (hide O H) (hide O' H')) : SOut X W own H0 O0 O' H' D o := by
  cases o with
  | nx ρ => exact fun σ' H'' O'' r s' => h σ' H'' O'' r (s.trans s')
  | rt d => exact RtW.from h s
  | bk ρ => exact fun σ' H'' O'' r s' => h σ' H'' O'' r (s.trans s')
  | ct ρ => exact fun σ' H'' O'' r s' => h σ' H'' O'' r (s.trans s')
  | err c ρ => exact fun σ' H'' O'' r s' => h σ' H'' O'' r (s.trans s')
  | bad => exact h
theorem EOut.run {f : R PyData} {k : PyData → Out} {O : List Addr} {H0 : HB} {O0 O1 : List Addr} {σ : L2.St} {H : Hp} {ρ : Vars} {D : Ends} {Q : VK} (r : Rel X.K own H0 O0 O1 σ H ρ) (z : SOut X W own H0 O0 O1 H D (f.run ρ k))
    (q : ∀ d v H', Same H H' → Rp X.K (hide O H') v d → SOut X W own H0 O0 O1 H' D (k d) → Rel X.K own H0 O0 O1 σ H' ρ → Q v H') : EOut X W O σ H Q f := by
  cases f with
  | ok d => exact fun v H' s rv => q d v H' s rv (SOut.from z (hide_same s)) (r.step s)
  | err c => exact fun H' s => z σ H' O1 (r.step s) (hide_same s)
  | bad => exact z
theorem TOut.run {f : R Bool} {k : Bool → Out} {H0 : HB} {O0 O1 : List Addr} {σ : L2.St} {H : Hp} {ρ : Vars} {D : Ends} {Q : Bool → Hp → Prop} (r : Rel X.K own H0 O0 O1 σ H ρ) (z : SOut X W own H0 O0 O1 H D (f.run ρ k))
    (q : ∀ d H', Same H H' → SOut X W own H0 O0 O1 H' D (k d) → Rel X.K own H0 O0 O1 σ H' ρ → Q d H') : TOut X W σ H Q f := by
  cases f with
  | ok d => exact fun H' s => q d H' s (SOut.from z (hide_same s)) (r.step s)
  | err c => exact fun H' s => z σ H' O1 (r.step s) (hide_same s)
  | bad => exact z
def sNil (ρ : Vars) : Out := .nx ρ
def sSeq (g h : Vars → Out) (ρ : Vars) : Out := (g ρ).then h
theorem ssx_nil : SsX X W own [] sNil := ⟨_, pss_nil, fun σ H ρ D H0 O0 O r z => z σ H O r (Same.refl _)⟩
theorem ssx_cons {st : Stmt} {rest : List Stmt} {g h : Vars → Out} (a : SX X W own st g) (b : SsX X W own rest h) : SsX X W own (st :: rest) (sSeq g h) := by
  obtain ⟨t, p, ht⟩ := a
  obtain ⟨u, q, hu⟩ := b
  refine ⟨_, pss_cons p q, fun σ H ρ D H0 O0 O r z => ht σ H ρ _ H0 O0 O r ?_⟩
  unfold sSeq at z
  cases e : g ρ with
  | nx ρ1 => rw [e] at z; exact fun σ1 H1 O1 r1 s1 => hu σ1 H1 ρ1 D H0 O0 O1 r1 (SOut.from z s1)
  | rt d => rw [e] at z; exact z
  | bk ρ1 => rw [e] at z; exact z
  | ct ρ1 => rw [e] at z; exact z
  | err c ρ1 => rw [e] at z; exact z
  | bad => rw [e] at z; exact z
theorem ssx_one {st : Stmt} {g : Vars → Out} (a : SX X W own st g) : SsX X W own [st] g := by
  obtain ⟨t, p, ht⟩ := a
  exact ⟨_, pss_one p, ht⟩
def sRet (f : Vars → R PyData) (ρ : Vars) : Out := (f ρ).run ρ fun d => .rt d
theorem sx_ret {e : Expr} {f : Vars → R PyData} {pos : Pos} (h : EX X W e f) (hnb : (own.all fun i => decide (i < 1000)) = true := by rfl) : SX X W own (.Return (some e) pos) (sRet f) := by
  obtain ⟨t, p, ht⟩ := h
  exact ⟨_, ps_ret p, fun σ H ρ D H0 O0 O r z => ht σ H O0 ρ _ r.stands0 r.vrel0 (EOut.run r z fun d v H' s rv z' r' => z'.no (r.unlent hnb) v H' O r'.same (Same.refl _) rv)⟩
def sExpr (f : Vars → R PyData) (ρ : Vars) : Out := (f ρ).run ρ fun _ => .nx ρ
theorem sx_expr {e : Expr} {f : Vars → R PyData} {pos : Pos} (h : EX X W e f) (hs : swapsWith e none pos.line X.env = pure false := by rfl) : SX X W own (.Expr e pos) (sExpr f) := by
  obtain ⟨t, p, ht⟩ := h
  exact ⟨_, ps_expr p hs, fun σ H ρ D H0 O0 O r z => ht σ H O0 ρ _ r.stands0 r.vrel0 (EOut.run r z fun d v H' s rv z' r' => z' σ H' O r' (Same.refl _))⟩
def sIf (c : Vars → R Bool) (g h : Vars → Out) (ρ : Vars) : Out := (c ρ).run ρ fun b => if b = true then g ρ else h ρ
theorem sx_if {c : Expr} {a b : List Stmt} {tc : Vars → R Bool} {g h : Vars → Out} {pos : Pos} (hc : TX X W c tc) (ha : SsX X W own a g) (hb : SsX X W own b h) : SX X W own (.If c a b pos) (sIf tc g h) := by
  obtain ⟨t, p, ht⟩ := hc
  obtain ⟨ta, pa, hta⟩ := ha
  obtain ⟨tb, pb, htb⟩ := hb
  refine ⟨_, ps_if p pa pb, fun σ H ρ D H0 O0 O r z => ht σ H O0 ρ _ r.stands0 r.vrel0 (TOut.run r z fun d H' s z' r' => ?_)⟩
  cases d with
  | true => exact hta σ H' ρ D H0 O0 O r' z'
  | false => exact htb σ H' ρ D H0 O0 O r' z'
def sSet (own : List Nat) (i : Nat) (f : Vars → R PyData) (ρ : Vars) : Out := (f ρ).run ρ fun d => if (own.isEmpty || imm d) = true then .nx (ρ.set i (some d)) else .bad
theorem set_end {i : Nat} {H0 : HB} {O0 O : List Addr} {σ : L2.St} {H' : Hp} {ρ : Vars} {D : Ends} {v : V} {d : PyData} (hi : i ∉ own) (r' : Rel X.K own H0 O0 O σ H' ρ) (rv : Rp X.K (hide O0 H') v d) (z' : SOut X W own H0 O0 O H' D (if (own.isEmpty || imm d) = true then .nx (ρ.set i (some d)) else .bad)) (h2 : own = [] → Rp X.K (hide O H') v d) : D.nx (σ.set i (some v)) H' := by
  by_cases c : (own.isEmpty || imm d) = true
  · rw [if_pos c] at z'
    have rO : Rp X.K (hide O H') v d := by
      rw [Bool.or_eq_true] at c
      rcases c with c | c
      · exact h2 (List.isEmpty_iff.mp c)
      · exact r'.imm rv c
    exact z' _ H' O (r'.set hi rO) (Same.refl _)
  · rw [if_neg c] at z'; exact z'.elim
theorem sx_set {i : Nat} {x : Str} {e : Expr} {f : Vars → R PyData} {pos' pos : Pos} (hN : X.N.Nodup) (hi : X.N[i]? = some x) (hx : Loc X.env.scope x) (h : EX X W e f) (ho : own.contains i = false) (hs : swapsWith e (some (.Name x pos')) pos.line X.env = pure false := by rfl) (hf : X.fn x = true ∨ X.env.scope.names.lookup x = some .local := by first | exact .inl rfl | exact .inr rfl | assumption) :
    SX X W own (.Assign [.Name x pos'] e pos) (sSet own i f) := by
  obtain ⟨t, p, ht⟩ := h
  have hi' : i ∉ own := fun z => by rw [List.contains_iff_mem.mpr z] at ho; cases ho
  refine ⟨_, ps_set hN hi hx p hs hf, fun σ H ρ D H0 O0 O r z => ?_⟩
  by_cases c : own = []
  · subst c
    exact ht σ H O ρ _ r.stands r.vrel (EOut.run r z fun d v H' s rv z' r' => set_end hi' r' (rv.mono (hide_less r'.sub)) z' fun _ => rv)
  · exact ht σ H O0 ρ _ r.stands0 r.vrel0 (EOut.run r z fun d v H' s rv z' r' => set_end hi' r' rv z' fun e => absurd e c)
def sSetM (own : List Nat) (i : Nat) (f : Vars → R PyData) (ρ : Vars) : Out := (f (mask own ρ)).run ρ fun d => .nx (ρ.set i (some d))
theorem sx_setM {i : Nat} {x : Str} {e : Expr} {f : Vars → R PyData} {pos' pos : Pos} (hN : X.N.Nodup) (hi : X.N[i]? = some x) (hx : Loc X.env.scope x) (h : EX X W e f) (ho : own.contains i = false) (hs : swapsWith e (some (.Name x pos')) pos.line X.env = pure false := by rfl) (hf : X.fn x = true ∨ X.env.scope.names.lookup x = some .local := by first | exact .inl rfl | exact .inr rfl | assumption) :
    SX X W own (.Assign [.Name x pos'] e pos) (sSetM own i f) := by
  obtain ⟨t, p, ht⟩ := h
  have hi' : i ∉ own := fun z => by rw [List.contains_iff_mem.mpr z] at ho; cases ho
  refine ⟨_, ps_set hN hi hx p hs hf, fun σ H ρ D H0 O0 O r z => ?_⟩
  exact ht σ H O _ _ r.stands r.vrelM (EOut.run r z fun d v H' s rv z' r' => z' _ H' O (r'.set hi' rv) (Same.refl _))
theorem other_of {js : List Nat} {gt : PyData → Vars → Option Vars} (ok : GtOk js gt) (hj : ∀ j ∈ js, j ∉ own) {H0 : HB} {O0 O : List Addr} {σ σ' : L2.St} {H : Hp} {ρ ρ' : Vars} {d : PyData} (r : Rel X.K own H0 O0 O σ H ρ) (e : gt d ρ = some ρ') (v : VRel X.K (hide O H) σ' (mask own ρ')) (l : σ'.length = σ.length)
    (f : ∀ j : Nat, j ∉ js → σ'[j]? = σ[j]? ∧ (mask own ρ')[j]? = (mask own ρ)[j]?) (f2 : ∀ j : Nat, j ∉ js → ρ'[j]? = ρ[j]?) : Rel X.K own H0 O0 O σ' H ρ' := r.other hj l v f fun j ho => f2 j fun z => hj j z ho
structure GtIn (js : List Nat) (gt : PyData → Vars → Option Vars) : Prop where
  out : ∀ d ρ ρ', gt d ρ = some ρ' → ∀ j : Nat, j ∉ js → ρ'[j]? = ρ[j]?
theorem gtName_in (i : Nat) : GtIn [i] (gtName i) := ⟨fun d ρ ρ' e j hj => by
  cases e
  rw [List.getElem?_set_ne (fun z => hj (by simp [z]))]⟩
structure GtsIn (js : List Nat) (gt : List PyData → Vars → Option Vars) : Prop where
  out : ∀ d ρ ρ', gt d ρ = some ρ' → ∀ j : Nat, j ∉ js → ρ'[j]? = ρ[j]?
theorem gtNil_in : GtsIn [] gtNil := ⟨fun d ρ ρ' e j hj => by cases d <;> cases e; rfl⟩
theorem gtCons_in {js ks : List Nat} {g : PyData → Vars → Option Vars} {h : List PyData → Vars → Option Vars} (a : GtIn js g) (b : GtsIn ks h) : GtsIn (js ++ ks) (gtCons g h) := ⟨fun d ρ ρ' e j hj => by
  cases d with
  | nil => cases e
  | cons d r =>
    have e' : (g d ρ).bind (fun ρ' => h r ρ') = some ρ' := e
    cases e1 : g d ρ with
    | none => rw [e1] at e'; cases e'
    | some ρ1 =>
      rw [e1] at e'
      rw [b.out r ρ1 ρ' e' j (fun z => hj (List.mem_append_right _ z)), a.out d ρ ρ1 e1 j (fun z => hj (List.mem_append_left _ z))]⟩
theorem gtTup_in {n : Nat} {js : List Nat} {h : List PyData → Vars → Option Vars} (b : GtsIn js h) : GtIn js (gtTup n h) := ⟨fun d ρ ρ' e j hj => by
  cases d <;> try cases e
  rename_i ds
  unfold gtTup at e
  dsimp only at e
  by_cases c : ds.length = n
  · rw [if_pos c] at e; exact b.out _ _ _ e j hj
  · rw [if_neg c] at e; cases e⟩
def NX (X : Cx) (W : WX) (e : Expr) (f : Vars → R (List PyData)) : Prop :=
  ∃ t, PE X e t ∧ ∀ σ H O ρ (Q : VK), Stands O H → VRel X.K (hide O H) σ ρ → NOut X W O σ H Q (f ρ) → t σ H Q
def nLst (f : Vars → R (List PyData)) (ρ : Vars) : R (List PyData) := (f ρ).bind fun ds => if ds.length ≤ sizeLine then .ok ds else .bad
theorem nx_lst {es : List Expr} {f : Vars → R (List PyData)} {pos : Pos} (h : AX X W es f) : NX X W (.List es pos) (nLst f) := by
  obtain ⟨t, p, ht⟩ := h
  refine ⟨_, pe_lst p, fun σ H O ρ Q hO hr z => ht σ H O ρ _ hO hr ?_⟩
  unfold nLst at z
  cases e : f ρ with
  | bad => rw [e] at z; exact z
  | err c => rw [e] at z; exact z
  | ok ds =>
    rw [e, R.bind_ok] at z
    intro vs H1 s1 r1
    by_cases c : ds.length ≤ sizeLine
    · rw [if_pos c] at z
      refine ⟨by rw [r1.length]; exact c, fun p hp => z p vs _ (s1.trans (same_new hp)) (s1.free hp) upd_same (r1.mono fun a o h => ?_)⟩
      obtain ⟨c1, h1⟩ := hide_some h
      have n := ne_of_none h1 hp
      exact hide_of (fun z => (List.mem_cons.mp z).elim n c1) (by rw [upd_ne n]; exact h1)
    · rw [if_neg c] at z; exact z.elim
def sNew (own : List Nat) (i : Nat) (f : Vars → R (List PyData)) (ρ : Vars) : Out := (f (mask own ρ)).run ρ fun ds => .nx (ρ.set i (some (.list ds)))
theorem Rel.laidV {H0 : HB} {O0 O : List Addr} {σ : L2.St} {H H' : Hp} {ρ : Vars} {i : Nat} (hi : i ∈ own) (hni : ∀ q ∈ H0.b, i ≠ q.1) {p : Addr} {dn : PyData} (r : Rel X.K own H0 O0 O σ H ρ) (s : Same H H') (hp : H p = none) (rs : OwnV X.K (hide (p :: O) H') H' p dn) :
    Rel X.K own H0 O0 (p :: O) (σ.set i (some (.ref p))) H' (ρ.set i (some dn)) ∧ Same (hide O H) (hide (p :: O) H') := by
  have sF : Same (hide O H) (hide (p :: O) H') := fun a o h => by
    obtain ⟨c, e⟩ := hide_some h
    exact hide_of (fun z => (List.mem_cons.mp z).elim (ne_of_none e hp) c) (s a o e)
  refine ⟨?_, sF⟩
  -- the state ahead of the store, in the later heap
  have r1 : Rel X.K own H0 O0 O σ H' ρ := r.step s
  have np : p ∉ O := r.stands.new hp
  refine ⟨r1.same, r1.st0, by simpa using r1.len, fun a ha => List.mem_cons_of_mem _ (r1.sub a ha), fun a ha => ?_, fun j d cj q => ?_, fun j d cj q => ?_, fun j k d e a cj ck q1 q2 e1 e2 => ?_, fun q hq => ?_, fun q hq j d cj q1 e1 => ?_, r.mark⟩
  · rcases List.mem_cons.mp ha with e | ha
    · rw [e]; exact .inr ⟨r.same.free hp, rs.own⟩
    · exact r1.lists a ha
  · have z : i ≠ j := fun z => cj (z ▸ hi)
    rw [List.getElem?_set_ne z] at q
    rw [List.getElem?_set_ne z]
    obtain ⟨v, h1, h2⟩ := r.free j d cj q
    exact ⟨v, h1, h2.mono sF⟩
  · have hl := r.len
    by_cases z : i = j
    · subst z
      by_cases hlt : i < ρ.length
      · rw [List.getElem?_set_self hlt] at q
        cases q
        exact ⟨p, List.getElem?_set_self (by omega), List.mem_cons_self, r.same.free hp, rs⟩
      · rw [List.getElem?_eq_none (by simpa using hlt)] at q; cases q
    · rw [List.getElem?_set_ne z] at q
      rw [List.getElem?_set_ne z]
      obtain ⟨a, h1, h2, h3, h4⟩ := r.mine j d cj q
      exact ⟨a, h1, List.mem_cons_of_mem _ h2, h3, h4.mono sF (s a)⟩
  · have key : ∀ (m : Nat) (d : PyData), m ∈ own → i ≠ m → (ρ.set i (some dn))[m]? = some (some d) → (σ.set i (some (V.ref p)))[m]? ≠ some (some (V.ref p)) := fun m d cm z q1 e1 => by
      rw [List.getElem?_set_ne z] at q1 e1
      obtain ⟨a', h1, h2, h3, h4⟩ := r.mine m d cm q1
      rw [e1] at h1
      cases h1
      exact np h2
    by_cases z : i = j
    · by_cases z2 : i = k
      · exact z.symm.trans z2
      · subst z
        have hlt : i < σ.length := by
          rcases Nat.lt_or_ge i σ.length with h | h
          · exact h
          · rw [List.getElem?_eq_none (by simpa using h)] at e1; cases e1
        rw [List.getElem?_set_self hlt] at e1
        cases e1
        exact absurd e2 (key k e ck z2 q2)
    · by_cases z2 : i = k
      · subst z2
        have hlt : i < σ.length := by
          rcases Nat.lt_or_ge i σ.length with h | h
          · exact h
          · rw [List.getElem?_eq_none (by simpa using h)] at e2; cases e2
        rw [List.getElem?_set_self hlt] at e2
        cases e2
        exact absurd e1 (key j d cj z q1)
      · rw [List.getElem?_set_ne z] at q1 e1
        rw [List.getElem?_set_ne z2] at q2 e2
        exact r.apart j k d e a cj ck q1 q2 e1 e2
  · obtain ⟨h1, h2, h3, h4⟩ := r.bor q hq
    have z : i ≠ q.1 := hni q hq
    exact ⟨h1, h2, by rw [List.getElem?_set_ne z]; exact h3, List.mem_cons_of_mem _ h4⟩
  · obtain ⟨h1, h2, h3, h4⟩ := r.bor q hq
    by_cases z : i = j
    · subst z
      have hlt : i < σ.length := by
        rcases Nat.lt_or_ge i σ.length with h | h
        · exact h
        · rw [List.getElem?_eq_none (by simpa using h)] at e1; cases e1
      rw [List.getElem?_set_self hlt] at e1
      injection e1 with e1; injection e1 with e1; injection e1 with e1
      exact absurd (e1 ▸ h4) np
    · rw [List.getElem?_set_ne z] at q1 e1
      exact r.bord q hq j d cj q1 e1
theorem Rel.laid {H0 : HB} {O0 O : List Addr} {σ : L2.St} {H H' : Hp} {ρ : Vars} {i : Nat} (hi : i ∈ own) (hni : ∀ q ∈ H0.b, i ≠ q.1) {p : Addr} {vs : List V} {ds : List PyData} (r : Rel X.K own H0 O0 O σ H ρ) (s : Same H H') (hp : H p = none) (hp' : H' p = some (.lst vs)) (rs : Rps X.K (hide (p :: O) H') vs ds) :
    Rel X.K own H0 O0 (p :: O) (σ.set i (some (.ref p))) H' (ρ.set i (some (.list ds))) ∧ Same (hide O H) (hide (p :: O) H') := r.laidV hi hni s hp ⟨vs, hp', rs⟩
theorem NOut.run {f : R (List PyData)} {k : List PyData → Out} {O : List Addr} {H0 : HB} {O0 O1 : List Addr} {σ : L2.St} {H : Hp} {ρ : Vars} {D : Ends} {Q : VK} (r : Rel X.K own H0 O0 O1 σ H ρ) (z : SOut X W own H0 O0 O1 H D (f.run ρ k))
    (q : ∀ ds p vs H', Same H H' → H p = none → H' p = some (.lst vs) → Rps X.K (hide (p :: O) H') vs ds → SOut X W own H0 O0 O1 H D (k ds) → Q (.ref p) H') : NOut X W O σ H Q f := by
  cases f with
  | ok d => exact fun p vs H' s h1 h2 h3 => q d p vs H' s h1 h2 h3 z
  | err c => exact fun H' s => z σ H' O1 (r.step s) (hide_same s)
  | bad => exact z
theorem sx_new {i : Nat} {x : Str} {e : Expr} {f : Vars → R (List PyData)} {pos' pos : Pos} (hN : X.N.Nodup) (hi : X.N[i]? = some x) (hx : Loc X.env.scope x) (h : NX X W e f) (ho : own.contains i = true) (hs : swapsWith e (some (.Name x pos')) pos.line X.env = pure false := by rfl) (hf : X.fn x = true ∨ X.env.scope.names.lookup x = some .local := by first | exact .inl rfl | exact .inr rfl | assumption) (hni : own.contains (1000 + i) = false := by rfl) :
    SX X W own (.Assign [.Name x pos'] e pos) (sNew own i f) := by
  obtain ⟨t, p, ht⟩ := h
  have hni' : 1000 + i ∉ own := fun z => by rw [List.contains_iff_mem.mpr z] at hni; cases hni
  have hi' : i ∈ own := List.contains_iff_mem.mp ho
  refine ⟨_, ps_set hN hi hx p hs hf, fun σ H ρ D H0 O0 O r z => ht σ H O _ _ r.stands r.vrelM (NOut.run r z fun ds p vs H' s h1 h2 h3 z' => ?_)⟩
  obtain ⟨r', sF⟩ := r.laid hi' (r.notLent hni') s h1 h2 h3
  exact z' _ H' _ r' sF
theorem Rel.writeV {H0 : HB} {O0 O : List Addr} {σ : L2.St} {H : Hp} {ρ : Vars} {i : Nat} (hi : i ∈ own) {a : Addr} {ob : HO} {d de : PyData} (r : Rel X.K own H0 O0 O σ H ρ) (q : ρ[i]? = some (some d)) (e : σ[i]? = some (some (.ref a))) (ha : a ∈ O) (h0 : H0 a = none) (rs : OwnV X.K (hide O H) (upd H a ob) a de) :
    Rel X.K own H0 O0 O σ (upd H a ob) (ρ.set i (some de)) ∧ Same (hide O H) (hide O (upd H a ob)) := by
  have hid : ∀ o', hide O (upd H a o') = hide O H := fun o' => by
    funext b
    unfold hide
    by_cases c : b ∈ O
    · rw [if_pos c, if_pos c]
    · rw [if_neg c, if_neg c, upd_ne (fun z => c (by rw [z]; exact ha))]
  have hlt : i < ρ.length := (List.getElem?_eq_some_iff.mp q).1
  refine ⟨⟨fun b o hb => ?_, r.st0, by simpa using r.len, r.sub, fun b hb => ?_, fun j d' cj q' => ?_, fun j d' cj q' => ?_, fun j k d1 d2 b cj ck q1 q2 e1 e2 => ?_, r.bor, fun p hp j d' cj q' e' => ?_, r.mark⟩, by rw [hid]; exact Same.refl _⟩
  · have n : b ≠ a := ne_of_none hb h0
    rw [upd_ne n]; exact r.same b o hb
  · by_cases n : b = a
    · subst n; exact .inr ⟨h0, rs.own⟩
    · rw [upd_ne n]; exact r.lists b hb
  · have z : i ≠ j := fun z => cj (z ▸ hi)
    rw [List.getElem?_set_ne z] at q'
    rw [hid]
    exact r.free j d' cj q'
  · by_cases z : i = j
    · subst z
      rw [List.getElem?_set_self hlt] at q'
      cases q'
      exact ⟨a, e, ha, h0, by rw [hid]; exact rs⟩
    · rw [List.getElem?_set_ne z] at q'
      obtain ⟨b, g1, g2, g3, g4⟩ := r.mine j d' cj q'
      have n : b ≠ a := fun n => by
        subst n
        exact z (r.apart i j _ _ b hi cj q q' e g1)
      exact ⟨b, g1, g2, g3, g4.mono (by rw [hid]; exact Same.refl _) fun o ho => by rw [upd_ne n]; exact ho⟩
  · have as : ∀ (m : Nat) (d : PyData), (ρ.set i (some de))[m]? = some (some d) → ∃ d', ρ[m]? = some (some d') := fun m d hm => by
      by_cases z : i = m
      · subst z; exact ⟨_, q⟩
      · rw [List.getElem?_set_ne z] at hm; exact ⟨_, hm⟩
    obtain ⟨d1', q1'⟩ := as j d1 q1
    obtain ⟨d2', q2'⟩ := as k d2 q2
    exact r.apart j k d1' d2' b cj ck q1' q2' e1 e2
  · by_cases z : i = j
    · subst z; exact r.bord p hp i d cj q e'
    · rw [List.getElem?_set_ne z] at q'
      exact r.bord p hp j d' cj q' e'
theorem Rel.write {H0 : HB} {O0 O : List Addr} {σ : L2.St} {H : Hp} {ρ : Vars} {i : Nat} (hi : i ∈ own) {a : Addr} {vs vs' : List V} {d : PyData} {es : List PyData} (r : Rel X.K own H0 O0 O σ H ρ) (q : ρ[i]? = some (some d)) (e : σ[i]? = some (some (.ref a))) (ha : a ∈ O) (h0 : H0 a = none) (h : H a = some (.lst vs)) (rs : Rps X.K (hide O H) vs' es) :
    Rel X.K own H0 O0 O σ (upd H a (.lst vs')) (ρ.set i (some (.list es))) ∧ Same (hide O H) (hide O (upd H a (.lst vs'))) := r.writeV hi q e ha h0 ⟨vs', upd_same, rs⟩
def sAppM (own : List Nat) (i : Nat) (f : Vars → R PyData) (ρ : Vars) : Out := match ρ.getD i none with
  | some (.list ds) => (f (mask own ρ)).run ρ fun d => if ds.length < sizeLine then .nx (ρ.set i (some (.list (ds ++ [d])))) else .bad
  | _ => .bad
theorem getD_some {ρ : Vars} {i : Nat} {d : PyData} (h : ρ.getD i none = some d) : ρ[i]? = some (some d) := by
  rw [List.getD_eq_getElem?_getD] at h
  cases e : ρ[i]? with
  | none => rw [e] at h; cases h
  | some o => rw [e] at h; exact congrArg some h
theorem own_list {i : Nat} (hi : i ∈ own) {H0 : HB} {O0 O : List Addr} {σ : L2.St} {H : Hp} {ρ : Vars} {ds : List PyData} (r : Rel X.K own H0 O0 O σ H ρ) (e : ρ.getD i none = some (.list ds)) : ∃ a vs, σ[i]? = some (some (.ref a)) ∧ a ∈ O ∧ H0 a = none ∧ H a = some (.lst vs) ∧ Rps X.K (hide O H) vs ds := by
  obtain ⟨a, h1, h2, h3, vs, h4, h5⟩ := r.mine i _ hi (getD_some e)
  exact ⟨a, vs, h1, h2, h3, h4, h5⟩
theorem Rel.mineL {i : Nat} (hi : i ∈ own) {H0 : HB} {O0 O : List Addr} {σ : L2.St} {H : Hp} {ρ : Vars} {ds : List PyData} (r : Rel X.K own H0 O0 O σ H ρ) (e : ρ[i]? = some (some (.list ds))) : ∃ a vs, σ[i]? = some (some (.ref a)) ∧ a ∈ O ∧ H0 a = none ∧ H a = some (.lst vs) ∧ Rps X.K (hide O H) vs ds := by
  obtain ⟨a, h1, h2, h3, vs, h4, h5⟩ := r.mine i _ hi e
  exact ⟨a, vs, h1, h2, h3, h4, h5⟩
theorem getD_list {ρ : Vars} {i : Nat} {k : List PyData → Out} {H0 : HB} {O0 O : List Addr} {H : Hp} {D : Ends} (z : SOut X W own H0 O0 O H D (match ρ.getD i none with
    | some (.list ds) => k ds
    | _ => .bad)) : ∃ ds, ρ.getD i none = some (.list ds) ∧ SOut X W own H0 O0 O H D (k ds) := by
  cases e : ρ.getD i none with
  | none => rw [e] at z; exact z.elim
  | some d =>
    rw [e] at z
    cases d with
    | list ds => exact ⟨ds, rfl, z⟩
    | _ => exact z.elim
section
variable {i : Nat} {x : Str} {e : Expr} {f : Vars → R PyData} {p apos cpos pos : Pos}
theorem sx_appM (h : EX X W e f) (ho : own.contains i = true) (hN : X.N[i]? = some x := by rfl) (hv : Vis X.env.scope x := by first | exact Or.inl rfl | exact Or.inr (Or.inl rfl) | exact Or.inr (Or.inr rfl)) (hd : (x == ("__debug__" : Str)) = false := by decide)
    (hcd : (x == ("__classdict__" : Str)) = false := by decide)
    (hbase : attributeBase (.Name x p) "append" X.env (eval (.Name x p) X.env) = eval (.Name x p) X.env := by rfl)
    (hfew : ((backTo cpos (starEach [e] X.env)).all (fun x => !x.1) && (backToKw cpos (keywordEach [] X.env)).all (fun x => x.1.isSome)
      && decide (([e] : List Expr).length + ([] : List Keyword).length + (if ([] : List Keyword).isEmpty then 0 else 1) < 30)) = true := by rfl)
    (hline : (apos.endLine == cpos.line) = true := by rfl) (hs : starEach [e] X.env = (false, eval e X.env) :: starEach [] X.env := by rfl) (hplain : (backTo cpos (starEach [] X.env)).any (·.1) = false := by rfl)
    (hsw : swapsWith (.Call (.Attribute (.Name x p) "append" apos) [e] [] cpos) none pos.line X.env = pure false := by rfl) :
    SX X W own (.Expr (.Call (.Attribute (.Name x p) "append" apos) [e] [] cpos) pos) (sAppM own i f) := by
  obtain ⟨t, q, ht⟩ := h
  have hi : i ∈ own := List.contains_iff_mem.mp ho
  refine ⟨_, ps_expr (pe_bm PySem.F.plainAttrs_list PySem.F.slot_list_append PySem.F.type_list_append mt_append (pe_var hN hv hd hcd) (pa_cons q pa_nil hs) hbase hfew hline hs hplain) hsw, fun σ H ρ D H0 O0 O r z => ?_⟩
  unfold sAppM at z
  obtain ⟨ds, e1, z⟩ := getD_list z
  obtain ⟨a, vs, g1, g2, g3, g4, g5⟩ := own_list hi r e1
  refine ⟨.ref a, g1, .inl ⟨rfl, vs, .inl (.inl g4)⟩, ht σ H O _ _ r.stands r.vrelM (EOut.run r z fun d v H' s rv z' r' => ?_)⟩
  by_cases c : ds.length < sizeLine
  · rw [if_pos c] at z'
    obtain ⟨r2, sF⟩ := r'.write hi (getD_some e1) g1 g2 g3 (s _ _ g4) ((g5.mono (hide_same s)).append (.cons rv .nil))
    exact ⟨a, vs, v, rfl, rfl, s _ _ g4, by rw [g5.length]; exact c, z' σ _ O r2 sF⟩
  · rw [if_neg c] at z'; exact z'.elim
end
end
end Pu
set_option Elab.async false
set_option linter.all false
set_option maxRecDepth 100000
set_option maxHeartbeats 4000000
namespace Pu
open PySem PySem.Spec PyProof.Rows L2
section
variable {X : Cx} {W : WX} {own : List Nat}
def forL (gt : PyData → Vars → Option Vars) (g : Vars → Out) : List PyData → Vars → Out
  | [], ρ => .nx ρ
  | d :: ds, ρ => match gt d ρ with
    | none => .bad
    | some ρ1 => match g ρ1 with
      | .nx ρ2 => forL gt g ds ρ2
      | .ct ρ2 => forL gt g ds ρ2
      | .bk ρ2 => .nx ρ2
      | .rt d => .rt d
      | .err c ρ2 => .err c ρ2
      | .bad => .bad
def sFor (own : List Nat) (fi : Vars → R (List PyData)) (gt : PyData → Vars → Option Vars) (g : Vars → Out) (ρ : Vars) : Out := (fi (mask own ρ)).run ρ fun ds => forL gt g ds ρ
theorem sx_for {tg iter : Expr} {body : List Stmt} {js : List Nat} {fi : Vars → R (List PyData)} {gt : PyData → Vars → Option Vars} {g : Vars → Out} {pos : Pos} (hp : PassesOwn (model X.prog X.w) X.A X.env X.xe) (hc : X.calm = true) (hi : IX X W tg iter fi) (hg : GX X tg js gt) (hin : GtIn js gt) (ho : (js.all fun j => !own.contains j) = true)
    (hb : SsX X W own body g) (hs : ∀ x, foldedSetIterable iter X.env x = pure x := by intro _; rfl) : SX X W own (.For tg iter body [] pos) (sFor own fi gt g) := by
  obtain ⟨wi, p, hwi⟩ := hi
  obtain ⟨ok, tgt, q, hgt⟩ := hg
  obtain ⟨tb, pb, htb⟩ := hb
  have hj : ∀ j ∈ js, j ∉ own := fun j h z => by
    have := List.all_eq_true.mp ho j h
    rw [List.contains_iff_mem.mpr z] at this; cases this
  refine ⟨_, ps_for hp hc p q pb hs, fun σ H ρ D H0 O0 O r z => ?_⟩
  refine hwi σ H O (mask own ρ) _ r.stands r.vrelM ?_
  unfold sFor at z
  cases e : fi (mask own ρ) with
  | bad => rw [e] at z; exact z
  | err c => rw [e] at z; exact fun H' s => z σ H' O (r.step s) (hide_same s)
  | ok ds =>
    rw [e, R.run_ok] at z
    intro J H1 s1 hJ
    refine ⟨fun i m σ2 H2 => m = ds.length - i ∧ i ≤ ds.length ∧ ∃ O2 ρ2, Rel X.K own H0 O0 O2 σ2 H2 ρ2 ∧ Same (hide O H1) (hide O2 H2) ∧ SOut X W own H0 O0 O2 H2 D (forL gt g (ds.drop i) ρ2), ⟨ds.length, rfl, Nat.zero_le _, O, ρ, r.step s1, Same.refl _, SOut.from z (hide_same s1)⟩, ?_⟩
    rintro i m σ2 H2 ⟨rfl, hle, O2, ρ2, r2, sF, z2⟩
    obtain ⟨j1, j2⟩ := hJ i H2 O2 r2.stands sF
    by_cases hlt : i < ds.length
    · have hd : ds[i]? = some ds[i] := List.getElem?_eq_getElem hlt
      obtain ⟨g1, g2⟩ := j1 _ hd
      have hdrop : ds.drop i = ds[i] :: ds.drop (i + 1) := List.drop_eq_getElem_cons hlt
      rw [hdrop] at z2
      unfold forL at z2
      cases eg : gt ds[i] ρ2 with
      | none => rw [eg] at z2; exact z2.elim
      | some ρ3 =>
        rw [eg] at z2
        dsimp only at z2
        refine .inr ⟨g1, fun σ' H' => (i + 1 ≤ ds.length ∧ ∃ O2 ρ2, Rel X.K own H0 O0 O2 σ' H' ρ2 ∧ Same (hide O H1) (hide O2 H') ∧ SOut X W own H0 O0 O2 H' D (forL gt g (ds.drop (i + 1)) ρ2)),
          fun σ' H' hn => ⟨ds.length - (i + 1), by omega, rfl, hn.1, hn.2⟩, fun x H3 y => ?_⟩
        obtain ⟨s23, rx⟩ := g2 x H3 y
        have r3 := r2.step s23
        refine hgt x ds[i] σ2 H3 O2 (mask own ρ2) (mask own ρ3) _ r3.stands r3.vrelM rx (ok.msk own _ ρ2 ρ3 hj eg) fun σ3 v3 l3 f3 => ?_
        have r4 : Rel X.K own H0 O0 O2 σ3 H3 ρ3 := other_of ok hj r3 eg v3 l3 f3 (hin.out _ ρ2 ρ3 eg)
        have sF3 : Same (hide O H1) (hide O2 H3) := sF.trans (hide_same s23)
        refine htb σ3 H3 ρ3 _ H0 O0 O2 r4 ?_
        cases eb : g ρ3 with
        | nx ρ4 =>
          rw [eb] at z2
          exact fun σ5 H5 O5 r5 s5 => ⟨hlt, O5, ρ4, r5, sF3.trans s5, SOut.from z2 ((hide_same s23).trans s5)⟩
        | ct ρ4 =>
          rw [eb] at z2
          exact fun σ5 H5 O5 r5 s5 => ⟨hlt, O5, ρ4, r5, sF3.trans s5, SOut.from z2 ((hide_same s23).trans s5)⟩
        | bk ρ4 =>
          rw [eb] at z2
          exact fun σ5 H5 O5 r5 s5 => z2 σ5 H5 O5 r5 ((hide_same s23).trans s5)
        | rt d => rw [eb] at z2; exact RtW.from z2 (hide_same s23)
        | err c ρ4 =>
          rw [eb] at z2
          exact fun σ5 H5 O5 r5 s5 => z2 σ5 H5 O5 r5 ((hide_same s23).trans s5)
        | bad => rw [eb] at z2; exact z2
    · have e3 : i = ds.length := by omega
      subst e3
      refine .inl ⟨j2 (Nat.le_refl _), ?_⟩
      rw [List.drop_length] at z2
      exact z2 σ2 H2 O2 r2 (Same.refl _)
def whileL (c : Vars → R Bool) (g : Vars → Out) : Nat → Vars → Out
  | 0, _ => .bad
  | n + 1, ρ => (c ρ).run ρ fun b => if b = true then (match g ρ with
      | .nx ρ2 => whileL c g n ρ2
      | .ct ρ2 => whileL c g n ρ2
      | .bk ρ2 => .nx ρ2
      | .rt d => .rt d
      | .err c ρ2 => .err c ρ2
      | .bad => .bad) else .nx ρ
theorem sx_while {c : Expr} {body : List Stmt} {tc : Vars → R Bool} {g : Vars → Out} {pos : Pos} (n : Nat) (hp : PassesOwn (model X.prog X.w) X.A X.env X.xe) (hc : TX X W c tc) (hb : SsX X W own body g) : SX X W own (.While c body [] pos) (whileL tc g n) := by
  obtain ⟨t, p, ht⟩ := hc
  obtain ⟨tb, pb, htb⟩ := hb
  refine ⟨_, ps_while hp p pb, fun σ H ρ D H0 O0 O r z => ?_⟩
  refine ⟨fun m σ2 H2 => ∃ O2 ρ2, Rel X.K own H0 O0 O2 σ2 H2 ρ2 ∧ SOut X W own H0 O0 O2 H2 D (whileL tc g m ρ2), ⟨n, O, ρ, r, z⟩, ?_⟩
  rintro m σ2 H2 ⟨O2, ρ2, r2, z2⟩
  cases m with
  | zero => exact z2.elim
  | succ m =>
    unfold whileL at z2
    refine ht σ2 H2 O0 ρ2 _ r2.stands0 r2.vrel0 (TOut.run r2 z2 fun b H3 s3 z3 r3 => ?_)
    cases b with
    | false =>
      simp only [Bool.false_eq_true, if_false] at z3 ⊢
      exact z3 σ2 H3 O2 r3 (Same.refl _)
    | true =>
      simp only [if_true] at z3 ⊢
      refine ⟨fun σ' H' => ∃ O2 ρ2, Rel X.K own H0 O0 O2 σ' H' ρ2 ∧ SOut X W own H0 O0 O2 H' D (whileL tc g m ρ2), fun σ' H' h => ⟨m, Nat.lt_succ_self m, h⟩, ?_⟩
      refine htb σ2 H3 ρ2 _ H0 O0 O2 r3 ?_
      cases eb : g ρ2 with
      | nx ρ4 => rw [eb] at z3; exact fun σ5 H5 O5 r5 s5 => ⟨O5, ρ4, r5, SOut.from z3 s5⟩
      | ct ρ4 => rw [eb] at z3; exact fun σ5 H5 O5 r5 s5 => ⟨O5, ρ4, r5, SOut.from z3 s5⟩
      | bk ρ4 => rw [eb] at z3; exact z3
      | rt d => rw [eb] at z3; exact z3
      | err c ρ4 => rw [eb] at z3; exact z3
      | bad => rw [eb] at z3; exact z3
def IpX (X : Cx) (op : Operator) (g : PyData → PyData → Option PyData) : Prop := ∃ r, PIp X op r ∧ Op2 X.K r g
theorem ipx_addI : IpX X .Add (gInt (fun _ _ => true) fun i j => .int (i + j)) := by
  refine ⟨_, ip_add, fun H O x y d e z Q hO rx ry h q => ?_⟩
  cases rx with
  | int i =>
    cases ry with
    | int j => cases h; exact ⟨i, j, rfl, rfl, q _ H (Same.refl H) (.int _)⟩
    | _ => cases h
  | _ => cases h
def sAug (own : List Nat) (i : Nat) (g : PyData → PyData → Option PyData) (f : Vars → R PyData) (ρ : Vars) : Out := match ρ.getD i none with
  | some d => (f (mask own ρ)).run ρ fun e => match g d e with
    | some z => .nx (ρ.set i (some z))
    | none => .bad
  | none => .bad
theorem sx_aug {i : Nat} {x : Str} {e : Expr} {op : Operator} {g : PyData → PyData → Option PyData} {f : Vars → R PyData} {pos' pos : Pos} (hN : X.N.Nodup) (hi : X.N[i]? = some x) (hx : Loc X.env.scope x) (hg : IpX X op g) (h : EX X W e f) (ho : own.contains i = false) (hf : X.fn x = true ∨ X.env.scope.names.lookup x = some .local := by first | exact .inl rfl | exact .inr rfl | assumption) :
    SX X W own (.AugAssign (.Name x pos') op e pos) (sAug own i g f) := by
  obtain ⟨t, p, ht⟩ := h
  obtain ⟨r, pr, hr⟩ := hg
  have hi' : i ∉ own := fun z => by rw [List.contains_iff_mem.mpr z] at ho; cases ho
  refine ⟨_, ps_aug hN hi hx p pr hf, fun σ H ρ D H0 O0 O rl z => ?_⟩
  unfold sAug at z
  cases e1 : ρ.getD i none with
  | none => rw [e1] at z; exact z.elim
  | some d =>
    rw [e1] at z
    obtain ⟨v, h1, h2⟩ := rl.free i d hi' (getD_some e1)
    refine ⟨v, h1, ht σ H O _ _ rl.stands rl.vrelM (EOut.run rl z fun e w H' s rw' z' r' => ?_)⟩
    cases e2 : g d e with
    | none => rw [e2] at z'; exact z'.elim
    | some y =>
      rw [e2] at z'
      exact hr H' O v w d e y _ r'.stands (h2.mono (hide_same s)) rw' e2 fun v2 H2 s2 r2 => z' _ H2 O ((r'.step s2).set hi' r2) (hide_same s2)
end
section
variable (X : Cx) (E : XK)
def BOut (H0 : Hp) (O0 : List Addr) (Q : VK) : Out → Prop
  | .nx _ => ∀ H', Same H0 H' → Q .non H'
  | .rt d => ∀ v H', Same H0 H' → Rp X.K (hide O0 H') v d → Q v H'
  | .err c _ => ∀ H', Same H0 H' → E (exV X.mg c) none H'
  | _ => False
abbrev WD : WX := fun c d _ H => E c d H
def BX (own : List Nat) (sts : List Stmt) (g : Vars → Out) : Prop :=
  ∃ t, PSs X sts t ∧ ∀ σ H ρ Q (H0 : Hp) O0 O, Rel X.K own ⟨H0, []⟩ O0 O σ H ρ → BOut X E H0 O0 Q (g ρ) → t { nx := fun _ H' => Q .non H', rt := Q } σ H
end
section
variable {X : Cx} {E : XK} {own : List Nat}
theorem BX.of {sts : List Stmt} {g : Vars → Out} (h : SsX X (WD E) own sts g) : BX X E own sts g := by
  obtain ⟨t, p, ht⟩ := h
  refine ⟨t, p, fun σ H ρ Q H0 O0 O r z => ht σ H ρ _ ⟨H0, []⟩ O0 O r ?_⟩
  cases e : g ρ with
  | nx ρ' => rw [e] at z; exact fun σ' H' O' r' s' => z H' r'.same
  | rt d => rw [e] at z; exact fun v H' O' s _ rv => z v H' s rv
  | err c ρ' => rw [e] at z; exact fun σ' H' O' r' s' => z H' r'.same
  | bk _ => rw [e] at z; exact z.elim
  | ct _ => rw [e] at z; exact z.elim
  | bad => rw [e] at z; exact z.elim
theorem BX.cons {st : Stmt} {rest : List Stmt} {g h : Vars → Out} {own' : List Nat} (a : SX X (WD E) own st g) (b : BX X E own' rest h) (ho : (own'.all fun i => own.contains i) = true) : BX X E own (st :: rest) (sSeq g h) := by
  obtain ⟨t, p, ht⟩ := a
  obtain ⟨u, q, hu⟩ := b
  refine ⟨_, pss_cons p q, fun σ H ρ Q H0 O0 O r z => ht σ H ρ _ ⟨H0, []⟩ O0 O r ?_⟩
  unfold sSeq at z
  cases e : g ρ with
  | nx ρ1 =>
    rw [e] at z
    intro σ1 H1 O1 r1 s1
    obtain ⟨O2, r2, _⟩ := r1.freeze (own' := own') (fun i hi => List.contains_iff_mem.mp (List.all_eq_true.mp ho i hi)) fun p hp => nomatch hp
    exact hu σ1 H1 ρ1 Q H0 O0 O2 r2 z
  | rt d => rw [e] at z; exact fun v H' O' s _ rv => z v H' s rv
  | err c ρ' => rw [e] at z; exact fun σ' H' O' r' s' => z H' r'.same
  | bk _ => rw [e] at z; exact z.elim
  | ct _ => rw [e] at z; exact z.elim
  | bad => rw [e] at z; exact z.elim
end
def fnD (N : Nat) (g : Vars → Out) (ds : List PyData) : R PyData := match g (ds.map some ++ List.replicate (N - ds.length) none) with
  | .nx _ => .ok .none
  | .rt d => .ok d
  | .err c _ => .err c
  | _ => .bad
section
variable {P : Program} {w : World} {K : PySem.W.Frag} {mg : Str → Option Value} {base : Heap}
theorem start_rel {K : PySem.W.Frag} {own : List Nat} {N : List Str} {H : Hp} {O : List Addr} {vs : List V} {ds : List PyData} (hO : Stands O H) (r : Rps K (hide O H) vs ds) (hl : ds.length ≤ N.length) (ho : ∀ i ∈ own, ds.length ≤ i) (hmk : (own.all fun i => decide (i < 1000)) = true) :
    Rel K own ⟨H, []⟩ O O (L2.start N vs) H (ds.map some ++ List.replicate (N.length - ds.length) none) where
  same := Same.refl H
  st0 := hO
  len := by
    unfold L2.start
    rw [List.length_append, List.length_append, List.length_map, List.length_map, List.length_replicate, List.length_replicate, r.length]
  sub := fun a ha => ha
  lists := fun a ha => .inl ha
  free := fun i d _ e => by
    by_cases h : i < ds.length
    · rw [List.getElem?_append_left (by simpa using h), List.getElem?_map] at e
      cases q : ds[i]? with
      | none => rw [q] at e; cases e
      | some x =>
        rw [q] at e
        cases e
        obtain ⟨v, h1, h2⟩ := r.get q
        refine ⟨v, ?_, h2⟩
        unfold L2.start
        rw [List.getElem?_append_left (by rw [List.length_map, r.length]; exact h), List.getElem?_map, h1]
        rfl
    · rw [List.getElem?_append_right (by simpa using h), List.getElem?_replicate] at e
      split at e <;> cases e
  mine := fun i d c e => by
    have h := ho i c
    rw [List.getElem?_append_right (by simpa using h), List.getElem?_replicate] at e
    split at e <;> cases e
  apart := fun i j d e a c _ q1 _ _ _ => by
    have h := ho i c
    rw [List.getElem?_append_right (by simpa using h), List.getElem?_replicate] at q1
    split at q1 <;> cases q1
  bor := fun p hp => nomatch hp
  bord := fun p hp => nomatch hp
  mark := fun i hi => absurd (of_decide_eq_true (List.all_eq_true.mp hmk _ hi)) (by omega)
theorem fn_data {x qual : Str} {st : Stmt} {f : Addr} {fd : FuncData} {N ps : List Str} {k n : Nat} {own : List Nat} {g : Vars → Out} (F : Fun K x qual st f fd) (S : FnScope N ps (defScope st)) (hn : ps.length = n) (ho : (own.all fun i => decide (n ≤ i)) = true)
    (hb : ∀ (cdv : Value) (A : Around) (outer : List Env) (s : Shared) (H : Hp) (E : XK), Room k (A.deeper (envOfC qual (defScope st) s.heap.objs.size f cdv)) → BX (cxOf (L2.CX P w) P w K mg base N qual (defScope st) f cdv A outer s H E) E own (defBody st) g) (hmk : (own.all fun i => decide (i < 1000)) = true := by decide) :
    FnOk P w K mg base (L2.CX P w) (k + 1) f fd ps (spD K mg n (fnD N.length g)) := by
  refine F.okX S (fun vs H Q E h => ?_) fun cdv A outer s H vs Q E hr h => ?_
  · rw [h.1]; exact hn.symm
  obtain ⟨hl, O, ds, hO, r, z⟩ := h
  obtain ⟨t, p, ht⟩ := hb cdv A outer s H E hr
  have hpl : ps.length ≤ N.length := by have := congrArg List.length S.pre; rw [List.length_take] at this; omega
  have hdl : ds.length = n := by rw [← r.length]; exact hl
  refine ⟨t, p, ht _ H _ Q H O O (start_rel hO r (by omega) (fun i hi => by have := of_decide_eq_true (List.all_eq_true.mp ho i hi); omega) hmk) ?_⟩
  unfold fnD at z
  cases e : g (ds.map some ++ List.replicate (N.length - ds.length) none) with
  | nx ρ' => rw [e] at z; exact fun H' s' => z .non H' s' .non
  | rt d => rw [e] at z; exact z
  | err c ρ' => rw [e] at z; exact z
  | bk _ => rw [e] at z; exact z.elim
  | ct _ => rw [e] at z; exact z.elim
  | bad => rw [e] at z; exact z.elim
theorem cal_data {x qual : Str} {st : Stmt} {f : Addr} {fd : FuncData} {N ps : List Str} {k n : Nat} {own : List Nat} {g : Vars → Out} (F : Fun K x qual st f fd) (hm : mg x = some (.ref f)) (hbn : Binds K fd ps []) (S : FnScope N ps (defScope st)) (hn : ps.length = n) (ho : (own.all fun i => decide (n ≤ i)) = true)
    (hb : ∀ (cdv : Value) (A : Around) (outer : List Env) (s : Shared) (H : Hp) (E : XK), Room k (A.deeper (envOfC qual (defScope st) s.heap.objs.size f cdv)) → BX (cxOf (L2.CX P w) P w K mg base N qual (defScope st) f cdv A outer s H E) E own (defBody st) g) (hmk : (own.all fun i => decide (i < 1000)) = true := by decide) :
    Cal P w K mg base (k + 1) x n (fnD N.length g) := ⟨f, fd, ps, hn, fn_data F S hn ho hb hmk, hm, F.kp, hbn⟩
theorem cal_zero {x qual : Str} {st : Stmt} {f : Addr} {fd : FuncData} {ps : List Str} {n : Nat} (F : Fun K x qual st f fd) (hm : mg x = some (.ref f)) (hbn : Binds K fd ps []) (hn : ps.length = n) : Cal P w K mg base 0 x n fun _ => .bad := by
  have no : ∀ vs H Q E, ¬ spD K mg n (fun _ => .bad) vs H Q E := fun vs H Q E h => by
    obtain ⟨_, _, _, _, _, z⟩ := h
    exact z
  exact ⟨f, fd, ps, hn, ⟨fun vs H Q E h => absurd h (no vs H Q E), fun A outer s H args us vs Q E _ _ _ _ h => absurd h (no vs H Q E)⟩, hm, F.kp, hbn⟩
theorem takesD {N : List Str} {qual : Str} {scope : Scope} {f : Addr} {cdv : Value} {A : Around} {outer : List Env} {s : Shared} {H : Hp} {E : XK} : Takes (cxOf (L2.CX P w) P w K mg base N qual scope f cdv A outer s H E) (WD E) := takes_of rfl rfl rfl rfl
theorem passD {N : List Str} {qual : Str} {scope : Scope} {f : Addr} {cdv : Value} {A : Around} {outer : List Env} {s : Shared} {H : Hp} {E : XK} : PassesOwn (model (cxOf (L2.CX P w) P w K mg base N qual scope f cdv A outer s H E).prog (cxOf (L2.CX P w) P w K mg base N qual scope f cdv A outer s H E).w) (cxOf (L2.CX P w) P w K mg base N qual scope f cdv A outer s H E).A (cxOf (L2.CX P w) P w K mg base N qual scope f cdv A outer s H E).env (cxOf (L2.CX P w) P w K mg base N qual scope f cdv A outer s H E).xe := passes_of rfl
end
end Pu
set_option Elab.async false
set_option linter.all false
set_option maxRecDepth 100000
set_option maxHeartbeats 4000000
namespace Pu
open PySem PySem.Spec PyProof.Rows L2
abbrev wfuel : Nat := 1000000
def gAddI : PyData → PyData → Option PyData := gInt (fun _ _ => true) fun i j => .int (i + j)
def ErrF (K : PySem.W.Frag) (mg : Str → Option Value) (c : Str) : Prop := ∃ C, mg c = some (.ref C) ∧ PySem.W.excIn K C [.type "ValueError", .type "Exception", .type "BaseException", .type "object"] "ValueError.__new__" = true ∧ PySem.W.keepIn K (.ref C) = true ∧
  PySem.W.subIn K (.ref C) (.type "BaseException") = some true ∧ PySem.W.typeIn K (.ref C) = some (.type "type")
def sRaise (c : Str) (ρ : Vars) : Out := .err c ρ
theorem sx_raise {X : Cx} {W : WX} {own : List Nat} {x m : Str} {j : Nat} {p p2 pos' pos : Pos} (hc : X.calm = true) (tk : Takes X W) (F : ErrF X.K X.mg x) (hg : Gl X x) (hdb : (x == ("__debug__" : Str)) = false := by decide) :
    SX X W own (.Raise (some (.Call (.Name x p) [.Constant (.str m) j p2] [] pos')) none pos) (sRaise x) := by
  obtain ⟨C, h1, h2, h3, h4, h5⟩ := F
  refine ⟨_, ps_raise hc tk (pmk_own PySem.F.excBase_ValueError h2 h1 h3 (raises_own h4 h5) hg hdb), fun σ H ρ D H0 O0 O r z => ?_⟩
  have e : exV X.mg x = .ref C := by unfold exV; rw [h1]; rfl
  rw [← e]
  exact z σ H O r (Same.refl _)
end Pu
set_option Elab.async false
set_option linter.all false
set_option maxRecDepth 100000
set_option maxHeartbeats 4000000
namespace Pu
open PySem PySem.Spec PyProof.Rows L2
section
variable (ρ : Vars)
@[simp] theorem u_sSeq (g h : Vars → Out) : sSeq g h ρ = (g ρ).then h := rfl
@[simp] theorem u_sNil : sNil ρ = .nx ρ := rfl
@[simp] theorem u_sRaise (c : Str) : sRaise c ρ = .err c ρ := rfl
@[simp] theorem u_sRet (f : Vars → R PyData) : sRet f ρ = (f ρ).run ρ fun d => .rt d := rfl
@[simp] theorem u_sExpr (f : Vars → R PyData) : sExpr f ρ = (f ρ).run ρ fun _ => .nx ρ := rfl
@[simp] theorem u_sIf (c : Vars → R Bool) (g h : Vars → Out) : sIf c g h ρ = (c ρ).run ρ fun b => if b = true then g ρ else h ρ := rfl
@[simp] theorem u_sSet0 (i : Nat) (f : Vars → R PyData) : sSet [] i f ρ = (f ρ).run ρ fun d => .nx (ρ.set i (some d)) := rfl
@[simp] theorem u_sSet1 (o : Nat) (os : List Nat) (i : Nat) (f : Vars → R PyData) : sSet (o :: os) i f ρ = (f ρ).run ρ fun d => if imm d = true then .nx (ρ.set i (some d)) else .bad := rfl
@[simp] theorem u_sSetM (own : List Nat) (i : Nat) (f : Vars → R PyData) : sSetM own i f ρ = (f (mask own ρ)).run ρ fun d => .nx (ρ.set i (some d)) := rfl
@[simp] theorem mask_nil : mask [] ρ = ρ := by
  have h : ∀ (k : Nat) (ρ : Vars), maskF [] k ρ = ρ := by
    intro k ρ
    induction ρ generalizing k with
    | nil => rfl
    | cons x r ih => unfold maskF; rw [ih]; rfl
  exact h 0 ρ
@[simp] theorem u_mask_c (own : List Nat) (k : Nat) (x : Option PyData) : maskF own k (x :: ρ) = (if own.contains k = true then none else x) :: maskF own (k + 1) ρ := rfl
@[simp] theorem u_mask_n (own : List Nat) (k : Nat) : maskF own k [] = [] := rfl
@[simp] theorem u_sFor (own : List Nat) (fi : Vars → R (List PyData)) (gt : PyData → Vars → Option Vars) (g : Vars → Out) : sFor own fi gt g ρ = (fi (mask own ρ)).run ρ fun ds => forL gt g ds ρ := rfl
@[simp] theorem u_sAug (own : List Nat) (i : Nat) (g : PyData → PyData → Option PyData) (f : Vars → R PyData) : sAug own i g f ρ = match ρ.getD i none with
  | some d => (f (mask own ρ)).run ρ fun e => match g d e with
    | some z => .nx (ρ.set i (some z))
    | none => .bad
  | none => .bad := rfl
@[simp] theorem u_sNew (own : List Nat) (i : Nat) (f : Vars → R (List PyData)) : sNew own i f ρ = (f (mask own ρ)).run ρ fun ds => .nx (ρ.set i (some (.list ds))) := rfl
@[simp] theorem u_sAppM (own : List Nat) (i : Nat) (f : Vars → R PyData) : sAppM own i f ρ = match ρ.getD i none with
  | some (.list ds) => (f (mask own ρ)).run ρ fun d => if ds.length < sizeLine then .nx (ρ.set i (some (.list (ds ++ [d])))) else .bad
  | _ => .bad := rfl
@[simp] theorem u_eVar (i : Nat) : eVar i ρ = R.of (ρ.getD i none) := rfl
@[simp] theorem u_eC (d : PyData) : eC d ρ = .ok d := rfl
@[simp] theorem u_aNil : aNil ρ = .ok [] := rfl
@[simp] theorem u_aCons (f : Vars → R PyData) (g : Vars → R (List PyData)) : aCons f g ρ = (f ρ).bind fun d => (g ρ).bind fun ds => .ok (d :: ds) := rfl
@[simp] theorem u_eTup (f : Vars → R (List PyData)) : eTup f ρ = (f ρ).bind fun ds => if ds.length ≤ sizeLine then .ok (.tuple ds) else .bad := rfl
@[simp] theorem u_eLst (f : Vars → R (List PyData)) : eLst f ρ = (f ρ).bind fun ds => if ds.length ≤ sizeLine then .ok (.list ds) else .bad := rfl
@[simp] theorem u_nLst (f : Vars → R (List PyData)) : nLst f ρ = (f ρ).bind fun ds => if ds.length ≤ sizeLine then .ok ds else .bad := rfl
@[simp] theorem u_eOp (g : PyData → PyData → Option PyData) (f h : Vars → R PyData) : eOp g f h ρ = (f ρ).bind fun d => (h ρ).bind fun e => R.of (g d e) := rfl
@[simp] theorem u_eCall (g : List PyData → Option PyData) (f : Vars → R (List PyData)) : eCall g f ρ = (f ρ).bind fun ds => R.of (g ds) := rfl
@[simp] theorem u_eFn (g : List PyData → R PyData) (f : Vars → R (List PyData)) : eFn g f ρ = (f ρ).bind g := rfl
@[simp] theorem u_tOf (f : Vars → R PyData) : tOf f ρ = (f ρ).bind fun d => match d with
  | .bool b => .ok b
  | _ => .bad := rfl
@[simp] theorem u_tTru (f : Vars → R PyData) : tTru f ρ = (f ρ).bind fun d => R.of (truD d) := rfl
@[simp] theorem u_tNotR (f : Vars → R Bool) : tNotR f ρ = (f ρ).bind fun b => .ok (!b) := rfl
@[simp] theorem u_tAndR (f g : Vars → R Bool) : tAndR f g ρ = (f ρ).bind fun b => if b = true then g ρ else .ok false := rfl
@[simp] theorem u_tOrR (f g : Vars → R Bool) : tOrR f g ρ = (f ρ).bind fun b => if b = true then .ok true else g ρ := rfl
@[simp] theorem u_eAnd (f g : Vars → R PyData) : eAnd f g ρ = (tOf f ρ).bind fun b => if b = true then g ρ else .ok (.bool false) := rfl
@[simp] theorem u_eNot (f : Vars → R PyData) : eNot f ρ = (tOf f ρ).bind fun b => .ok (.bool (!b)) := rfl
@[simp] theorem u_eIf (c : Vars → R Bool) (f g : Vars → R PyData) : eIf c f g ρ = (c ρ).bind fun b => if b = true then f ρ else g ρ := rfl
@[simp] theorem u_eNeg (f : Vars → R PyData) : eNeg f ρ = (f ρ).bind fun d => match d with
  | .int i => .ok (.int (-i))
  | _ => .bad := rfl
@[simp] theorem u_eIsi (T : String) (f : Vars → R PyData) : eIsi T f ρ = (f ρ).bind fun d => gIsi T d := rfl
@[simp] theorem u_oNone : oNone ρ = .ok none := rfl
@[simp] theorem u_oSome (f : Vars → R PyData) : oSome f ρ = (f ρ).bind fun d => match d with
  | .int i => .ok (some i)
  | _ => .bad := rfl
@[simp] theorem u_eSl (f : Vars → R PyData) (g h : Vars → R (Option Int)) : eSl f g h ρ = (f ρ).bind fun d => (g ρ).bind fun l => (h ρ).bind fun u => R.of (gSl d l u) := rfl
@[simp] theorem u_iSeq (f : Vars → R PyData) : iSeq f ρ = (f ρ).bind fun d => match d with
  | .list ds => .ok ds
  | .tuple ds => .ok ds
  | _ => .bad := rfl
@[simp] theorem u_iRange (f : Vars → R (List PyData)) : iRange f ρ = (f ρ).bind fun ds => match ds with
  | [.int j] => if okI j = true then .ok (rngD 0 j.toNat) else .bad
  | [.int i, .int j] => if (okI i && okI j) = true then .ok (rngD i (j - i).toNat) else .bad
  | _ => .bad := rfl
@[simp] theorem u_iZipD (f : Vars → R (List PyData)) : iZipD f ρ = (f ρ).bind fun ds => match ds with
  | [.list xs, .list ys] => .ok (zipD xs ys)
  | [.tuple xs, .tuple ys] => .ok (zipD xs ys)
  | _ => .bad := rfl
@[simp] theorem u_eLc (fi : Vars → R (List PyData)) (gt : PyData → Vars → Option Vars) (tt : Vars → R Bool) (f : Vars → R PyData) (vs : List Nat) : eLc fi gt tt f vs ρ = (nLc fi gt tt f vs ρ).bind fun ys => .ok (.list ys) := rfl
@[simp] theorem u_nLc (fi : Vars → R (List PyData)) (gt : PyData → Vars → Option Vars) (tt : Vars → R Bool) (f : Vars → R PyData) (vs : List Nat) : nLc fi gt tt f vs ρ = (fi ρ).bind fun ds => match lcL gt tt f (wipeD ρ vs) ds with
    | .ok ys => if ys.length < sizeLine then .ok ys else .bad
    | _ => .bad := rfl
@[simp] theorem u_wipe_n : wipeD ρ [] = ρ := rfl
@[simp] theorem u_wipe_c (v : Nat) (vs : List Nat) : wipeD ρ (v :: vs) = (wipeD ρ vs).set v none := rfl
@[simp] theorem u_gtName (i : Nat) (d : PyData) : gtName i d ρ = some (ρ.set i (some d)) := rfl
@[simp] theorem u_gtNil : gtNil [] ρ = some ρ := rfl
@[simp] theorem u_gtCons (g : PyData → Vars → Option Vars) (h : List PyData → Vars → Option Vars) (d : PyData) (ds : List PyData) : gtCons g h (d :: ds) ρ = (g d ρ).bind fun ρ' => h ds ρ' := rfl
@[simp] theorem u_gtTup (n : Nat) (h : List PyData → Vars → Option Vars) (ds : List PyData) : gtTup n h (.tuple ds) ρ = if ds.length = n then h ds ρ else none := rfl
@[simp] theorem u_forL_n (gt : PyData → Vars → Option Vars) (g : Vars → Out) : forL gt g [] ρ = .nx ρ := rfl
theorem u_forL_c (gt : PyData → Vars → Option Vars) (g : Vars → Out) (d : PyData) (ds : List PyData) : forL gt g (d :: ds) ρ = match gt d ρ with
    | none => .bad
    | some ρ1 => match g ρ1 with
      | .nx ρ2 => forL gt g ds ρ2
      | .ct ρ2 => forL gt g ds ρ2
      | .bk ρ2 => .nx ρ2
      | .rt d => .rt d
      | .err c ρ2 => .err c ρ2
      | .bad => .bad := rfl
@[simp] theorem u_lcL_n (gt : PyData → Vars → Option Vars) (tt : Vars → R Bool) (f : Vars → R PyData) : lcL gt tt f ρ [] = .ok [] := rfl
theorem u_lcL_c (gt : PyData → Vars → Option Vars) (tt : Vars → R Bool) (f : Vars → R PyData) (d : PyData) (ds : List PyData) : lcL gt tt f ρ (d :: ds) = match gt d ρ with
    | none => .bad
    | some ρ' => (tt ρ').bind fun b => if b = true then (f ρ').bind fun y => (lcL gt tt f ρ ds).bind fun ys => .ok (y :: ys) else lcL gt tt f ρ ds := rfl
end
@[simp] theorem u_gInt (C : Int → Int → Bool) (g : Int → Int → PyData) (i j : Int) : gInt C g (.int i) (.int j) = if C i j = true then some (g i j) else none := rfl
@[simp] theorem u_gCmp (p : Int → Int → Bool) (i j : Int) : gCmp p (.int i) (.int j) = some (.bool (p i j)) := rfl
@[simp] theorem u_gAdd_i (i j : Int) : gAdd (.int i) (.int j) = some (.int (i + j)) := rfl
@[simp] theorem u_gAdd_t (xs ys : List PyData) : gAdd (.tuple xs) (.tuple ys) = if xs.length + ys.length ≤ sizeLine then some (.tuple (xs ++ ys)) else none := rfl
@[simp] theorem u_gAdd_l (xs ys : List PyData) : gAdd (.list xs) (.list ys) = if xs.length + ys.length ≤ sizeLine then some (.list (xs ++ ys)) else none := rfl
@[simp] theorem u_gSub_i (i j : Int) : gSub (.int i) (.int j) = some (.int (i - j)) := rfl
@[simp] theorem u_gSub_b (a b : Bool) : gSub (.bool a) (.bool b) = some (.int ((if a = true then (1 : Int) else 0) - (if b = true then (1 : Int) else 0))) := rfl
@[simp] theorem u_gIx_t (xs : List PyData) (i : Int) : gIx (.tuple xs) (.int i) = atI xs i := rfl
@[simp] theorem u_gIx_l (xs : List PyData) (i : Int) : gIx (.list xs) (.int i) = atI xs i := rfl
@[simp] theorem u_gSl_t (xs : List PyData) (l u : Option Int) : gSl (.tuple xs) l u = some (.tuple (cutD xs l u)) := rfl
@[simp] theorem u_gSl_l (xs : List PyData) (l u : Option Int) : gSl (.list xs) l u = some (.list (cutD xs l u)) := rfl
@[simp] theorem u_gLen_t (xs : List PyData) : gLen [.tuple xs] = some (.int xs.length) := rfl
@[simp] theorem u_gLen_l (xs : List PyData) : gLen [.list xs] = some (.int xs.length) := rfl
@[simp] theorem u_gTuple_t (xs : List PyData) : gTuple [.tuple xs] = some (.tuple xs) := rfl
@[simp] theorem u_gTuple_l (xs : List PyData) : gTuple [.list xs] = some (.tuple xs) := rfl
@[simp] theorem u_gIntC_i (i : Int) : gIntC [.int i] = some (.int i) := rfl
@[simp] theorem u_gIntC_b (b : Bool) : gIntC [.bool b] = some (.int (if b then 1 else 0)) := rfl
@[simp] theorem u_truD_b (b : Bool) : truD (.bool b) = some b := rfl
@[simp] theorem atI_zero {α : Type} (x : α) (r : List α) : atI (x :: r) 0 = some x := atI_nat (j := 0) rfl
@[simp] theorem atI_one {α : Type} (x y : α) (r : List α) : atI (x :: y :: r) 1 = some y := atI_nat (j := 1) rfl
@[simp] theorem atI_two {α : Type} (x y z : α) (r : List α) : atI (x :: y :: z :: r) 2 = some z := atI_nat (j := 2) rfl
theorem sz1000 {n : Nat} (h : n ≤ 10000000) : n ≤ sizeLine := Nat.le_trans h (by decide)
theorem sz1000' {n : Nat} (h : n ≤ 10000000) : n < sizeLine := Nat.lt_of_le_of_lt h (by decide)
@[simp] theorem sz0 : (0 : Nat) ≤ sizeLine := by decide
@[simp] theorem sz1 : (1 : Nat) ≤ sizeLine := by decide
@[simp] theorem sz2 : (2 : Nat) ≤ sizeLine := by decide
@[simp] theorem sz3 : (3 : Nat) ≤ sizeLine := by decide
@[simp] theorem sz4 : (4 : Nat) ≤ sizeLine := by decide
theorem fnD_of {N : Nat} {g : Vars → Out} {ds : List PyData} {d : PyData} (h : g (ds.map some ++ List.replicate (N - ds.length) none) = .rt d) : fnD N g ds = .ok d := by unfold fnD; rw [h]
@[simp] theorem then_ite {c : Prop} [Decidable c] (x y : Out) (f : Vars → Out) : (if c then x else y).then f = if c then x.then f else y.then f := by split <;> rfl
@[simp] theorem bind_ite {α β : Type} {c : Prop} [Decidable c] (x y : R α) (f : α → R β) : (if c then x else y).bind f = if c then x.bind f else y.bind f := by split <;> rfl
@[simp] theorem run_ite {α : Type} {c : Prop} [Decidable c] (x y : R α) (ρ : Vars) (k : α → Out) : (if c then x else y).run ρ k = if c then x.run ρ k else y.run ρ k := by split <;> rfl
@[simp] theorem of_ite {α : Type} {c : Prop} [Decidable c] (x y : Option α) : R.of (if c then x else y) = if c then R.of x else R.of y := by split <;> rfl
end Pu
set_option Elab.async false
set_option linter.all false
set_option maxRecDepth 100000
set_option maxHeartbeats 4000000
namespace Pu
open PySem PySem.Spec PyProof.Rows L2
section
variable {X : Cx} {W : WX}
end
end Pu
set_option Elab.async false
set_option linter.all false
set_option maxRecDepth 100000
set_option maxHeartbeats 4000000
namespace Pu
open PySem PySem.Spec PyProof.Rows L2
theorem Rel.none {K : PySem.W.Frag} {own : List Nat} {H0 : HB} {O0 O : List Addr} {σ : L2.St} {H : Hp} {ρ : Vars} (r : Rel K own H0 O0 O σ H ρ) {i : Nat} {x : Option V} (c : i ∉ own) : Rel K own H0 O0 O (σ.set i x) H (ρ.set i none) where
  same := r.same
  st0 := r.st0
  len := by simpa using r.len
  sub := r.sub
  lists := r.lists
  free := fun j e cj q => by
    by_cases z : i = j
    · subst z
      by_cases hi : i < ρ.length
      · rw [List.getElem?_set_self hi] at q; cases q
      · rw [List.getElem?_eq_none (by simpa using hi)] at q; cases q
    · rw [List.getElem?_set_ne z] at q
      rw [List.getElem?_set_ne z]
      exact r.free j e cj q
  mine := fun j e cj q => by
    have z : i ≠ j := fun z => c (z ▸ cj)
    rw [List.getElem?_set_ne z] at q
    rw [List.getElem?_set_ne z]
    exact r.mine j e cj q
  apart := fun j k d e a cj ck q1 q2 e1 e2 => by
    have z : i ≠ j := fun z => c (z ▸ cj)
    have z2 : i ≠ k := fun z => c (z ▸ ck)
    rw [List.getElem?_set_ne z] at q1 e1
    rw [List.getElem?_set_ne z2] at q2 e2
    exact r.apart j k d e a cj ck q1 q2 e1 e2
  bor := fun p hp => by
    obtain ⟨h1, h2, h3, h4⟩ := r.bor p hp
    exact ⟨h1, h2, by rw [List.getElem?_set_ne (show i ≠ p.1 from fun z => c (by rw [z]; exact h1))]; exact h3, h4⟩
  bord := fun p hp j d' cj q e => by
    have z : i ≠ j := fun z => c (z ▸ cj)
    rw [List.getElem?_set_ne z] at q e
    exact r.bord p hp j d' cj q e
  mark := r.mark
section
variable {X : Cx} {W : WX} {own : List Nat}
end
theorem kitOne_ref {K : PySem.W.Frag} {C CY : Addr} (hd : PySem.W.hasDictIn K CY = true) (ty : PySem.W.typeIn K (.ref CY) = some (.type "type")) (sb : PySem.W.subIn K (.ref C) (.ref CY) = some true) : PySem.W.kitOne K (.ref C) (.ref CY) = some true := by
  obtain ⟨cd, hc, _⟩ := PySem.W.any_some hd
  unfold PySem.W.kitOne
  split
  · rfl
  · show (if ((PySem.W.clsIn K CY).isSome && PySem.W.typeIn K (.ref CY) == some (.type "type")) = true then PySem.W.subIn K (.ref C) (.ref CY) else none) = some true
    have e2 : ((PySem.W.clsIn K CY).isSome && PySem.W.typeIn K (.ref CY) == some (.type "type")) = true := by rw [hc, ty] <;> rfl
    rw [if_pos e2]; exact sb
theorem kitOne_ve {K : PySem.W.Frag} {C : Addr} (sb : PySem.W.subIn K (.ref C) (.type "ValueError") = some true) : PySem.W.kitOne K (.ref C) (.type "ValueError") = some true := by
  unfold PySem.W.kitOne
  split
  · rfl
  · show (if PySem.W.kitMeta "ValueError" = true then PySem.W.subIn K (.ref C) (.type "ValueError") else none) = some true
    rw [if_pos (by decide +kernel)]; exact sb
section
variable {X : Cx} {W : WX} {own : List Nat}
end
end Pu
set_option Elab.async false
set_option linter.all false
set_option maxRecDepth 100000
set_option maxHeartbeats 4000000
namespace Pu
open PySem PySem.Spec PyProof.Rows L2
section
variable {P : Program} {w : World} {K : PySem.W.Frag} {mg : Str → Option Value} {base : Heap}
abbrev Fun1 (K : PySem.W.Frag) (x : Str) (st : Stmt) (i : Int) (f : Addr) (fd : FuncData) : Prop := FunD K x x (defArgs st) (defBody st) (defScope st) [V.int i] [] f fd
theorem fn_data1 {x : Str} {st : Stmt} {f : Addr} {fd : FuncData} {N ps : List Str} {k n : Nat} {i0 : Int} {own : List Nat} {g : Vars → Out} (F : Fun1 K x st i0 f fd) (S : FnScope N ps (defScope st)) (hn : ps.length = n) (ho : (own.all fun i => decide (n ≤ i)) = true)
    (hb : ∀ (cdv : Value) (A : Around) (outer : List Env) (s : Shared) (H : Hp) (E : XK), Room k (A.deeper (envOfC x (defScope st) s.heap.objs.size f cdv)) → BX (cxOf (L2.CX P w) P w K mg base N x (defScope st) f cdv A outer s H E) E own (defBody st) g) (hmk : (own.all fun i => decide (i < 1000)) = true := by decide) :
    FnOk P w K mg base (L2.CX P w) (k + 1) f fd ps (spD K mg n (fnD N.length g)) := by
  refine F.ok S (fun vs H Q E h => ?_) fun cdv A outer s H vs Q E hr h => ?_
  · rw [h.1]; exact hn.symm
  obtain ⟨hl, O, ds, hO, r, z⟩ := h
  obtain ⟨t, p, ht⟩ := hb cdv A outer s H E hr
  have hpl : ps.length ≤ N.length := by have := congrArg List.length S.pre; rw [List.length_take] at this; omega
  have hdl : ds.length = n := by rw [← r.length]; exact hl
  refine ⟨t, p, ht _ H _ Q H O O (start_rel hO r (by omega) (fun i hi => by have := of_decide_eq_true (List.all_eq_true.mp ho i hi); omega) hmk) ?_⟩
  unfold fnD at z
  cases e : g (ds.map some ++ List.replicate (N.length - ds.length) none) with
  | nx ρ' => rw [e] at z; exact fun H' s' => z .non H' s' .non
  | rt d => rw [e] at z; exact z
  | err c ρ' => rw [e] at z; exact z
  | bk _ => rw [e] at z; exact z.elim
  | ct _ => rw [e] at z; exact z.elim
  | bad => rw [e] at z; exact z.elim
theorem cal_data1 {x : Str} {st : Stmt} {f : Addr} {fd : FuncData} {N ps : List Str} {k n : Nat} {i0 : Int} {own : List Nat} {g : Vars → Out} (F : Fun1 K x st i0 f fd) (hm : mg x = some (.ref f)) (hbn : Binds K fd ps []) (S : FnScope N ps (defScope st)) (hn : ps.length = n) (ho : (own.all fun i => decide (n ≤ i)) = true)
    (hb : ∀ (cdv : Value) (A : Around) (outer : List Env) (s : Shared) (H : Hp) (E : XK), Room k (A.deeper (envOfC x (defScope st) s.heap.objs.size f cdv)) → BX (cxOf (L2.CX P w) P w K mg base N x (defScope st) f cdv A outer s H E) E own (defBody st) g) (hmk : (own.all fun i => decide (i < 1000)) = true := by decide) :
    Cal P w K mg base (k + 1) x n (fnD N.length g) := ⟨f, fd, ps, hn, fn_data1 F S hn ho hb hmk, hm, F.kp, hbn⟩
theorem cal_zero1 {x : Str} {st : Stmt} {f : Addr} {fd : FuncData} {ps : List Str} {n : Nat} {i0 : Int} (F : Fun1 K x st i0 f fd) (hm : mg x = some (.ref f)) (hbn : Binds K fd ps []) (hn : ps.length = n) : Cal P w K mg base 0 x n fun _ => .bad := by
  have no : ∀ vs H Q E, ¬ spD K mg n (fun _ => .bad) vs H Q E := fun vs H Q E h => by
    obtain ⟨_, _, _, _, _, z⟩ := h
    exact z
  exact ⟨f, fd, ps, hn, ⟨fun vs H Q E h => absurd h (no vs H Q E), fun A outer s H args us vs Q E _ _ _ _ h => absurd h (no vs H Q E)⟩, hm, F.kp, hbn⟩
end
section
variable {X : Cx} {W : WX}
end
theorem fun1_mk {K : PySem.W.Frag} {x : Str} {st : Stmt} {i : Int} {f T : Addr} {oc : Value} {od an : Option Addr} {kV dc pm cd ct ocT : Value} {sl slT : Array (Option Value)} {odT : Option Addr} {nT : Nat} {tk : Tok}
    (lk : K.lookup f = some ⟨oc, od, .func (PySem.W.fnOf x x (defArgs st) (defBody st) (defScope st) (.ref T) kV dc pm an cd ct), sl⟩) (c : PySem.W.codeIn K cd x = true) (kp : PySem.W.keepIn K (.ref f) = true) (lT : K.lookup T = some ⟨ocT, odT, .seq #[.int i tk] nT, slT⟩) :
    Fun1 K x st i f (PySem.W.fnOf x x (defArgs st) (defBody st) (defScope st) (.ref T) kV dc pm an cd ct) :=
  ⟨⟨oc, od, .ref T, kV, dc, pm, an, cd, ct, sl, rfl, lk, c, Or.inr ⟨by simp, T, _, [.int i tk], nT, rfl, lT, rfl, .cons ⟨tk, rfl⟩ .nil⟩, Or.inl rfl⟩, kp⟩
theorem fun1_all {K : PySem.W.Frag} {x : Str} {st : Stmt} {i : Int} {f : Addr} {fd : FuncData} {ps : List Str} {n : Nat} (F : Fun1 K x st i f fd) (hn : ps.length = n)
    (h : ∀ (T : Addr) (kV doc pm : Value) (an : Option Addr) (cdv ct : Value) (us its : List Value), us.length = n → its.length = 1 →
      ∃ k, bindArgs (PySem.W.fnOf x x (defArgs st) (defBody st) (defScope st) (.ref T) kV doc pm an cdv ct) ⟨us, []⟩ = seqItems? (.ref T) >>= k ∧ k (some its.toArray) = pure (ps.zip (us ++ its.drop 1))) : Binds K fd ps [] := by
  obtain ⟨ds, h1, h2⟩ := FunD.binds1 F n 1 (by simp) (by simp [hn]) h
  cases h1
  exact h2
theorem fun1_one {K : PySem.W.Frag} {x : Str} {st : Stmt} {i : Int} {f : Addr} {fd : FuncData} {ps : List Str} {n : Nat} (F : Fun1 K x st i f fd) (hn : ps.length = n + 1)
    (h : ∀ (T : Addr) (kV doc pm : Value) (an : Option Addr) (cdv ct : Value) (us its : List Value), us.length = n → its.length = 1 →
      ∃ k, bindArgs (PySem.W.fnOf x x (defArgs st) (defBody st) (defScope st) (.ref T) kV doc pm an cdv ct) ⟨us, []⟩ = seqItems? (.ref T) >>= k ∧ k (some its.toArray) = pure (ps.zip (us ++ its.drop 0))) : ∃ ds, Vals [V.int i] ds ∧ Binds K fd ps ds :=
  FunD.binds1 F n 0 (by simp) (by simp [hn]) h
end Pu
set_option Elab.async false
set_option linter.all false
set_option maxRecDepth 100000
set_option maxHeartbeats 4000000
namespace Pu
open PySem PySem.Spec PyProof.Rows L2
section
variable {X : Cx} {W : WX} {tg : Expr}
end
section
variable {X : Cx} {W : WX} {own : List Nat} {i : Nat} {x : Str} {e : Expr} {f : Vars → R PyData} {p apos cpos pos : Pos}
end
end Pu
set_option Elab.async false
set_option linter.all false
set_option maxRecDepth 100000
set_option maxHeartbeats 4000000
namespace Pu
open PySem PySem.Spec PyProof.Rows L2
def sTryC (T : Str → Option Bool) (iv : Nat) (d : PyData) (g : Vars → Out) (ρ : Vars) : Out := match g ρ with
  | .err c ρ' => match T c with
    | some true => .nx (ρ'.set iv (some d))
    | some false => .err c ρ'
    | none => .bad
  | o => o
def TryCF (K : PySem.W.Frag) (mg : Str → Option Value) (cX : Value) (c : Str) : Option Bool → Prop
  | some b => ∃ C, mg c = some (.ref C) ∧ PySem.W.exmOne K (.ref C) cX = some b
  | none => True
section
variable {X : Cx} {W : WX} {own : List Nat}
theorem sx_tryC {T : Str → Option Bool} {iv : Nat} {d : PyData} {vd : V} {g : Vars → Out} {body : List Stmt} {x v : Str} {e : Expr} {cX : Value} {p0 p1 p10 pos' pos : Pos}
    (hN : X.N.Nodup) (hiv : X.N[iv]? = some v) (hlv : Loc X.env.scope v) (oiv : own.contains iv = false)
    (hs : X.stack = X.env :: X.outer) (hf : X.env.frame = some X.env.locals) (hX : Names X x cX) (tk : Takes X W)
    (he : ∀ (a : Addr) (pn : List (Addr × Obj)), PE (X.suite a pn) e (tC vd)) (hr : ∀ H, Rp X.K H vd d)
    (hT : ∀ c, TryCF X.K X.mg cX c (T c))
    (hb : ∀ (W' : WX) (pn : List (Addr × Obj)) (xe : Value → Shared → Prop), Takes (X.tr pn xe) W' → PassesOwn (model X.prog X.w) X.A X.env xe → SsX (X.tr pn xe) W' own body g)
    (hsw : ∀ (a : Addr) (pn : List (Addr × Obj)), swapsWith e (some (.Name v p1)) p10.line (X.suite a pn).env = pure false := by intro a pn; rfl)
    (hfv : X.fn v = true ∨ X.env.scope.names.lookup v = some .local := by first | exact .inl rfl | exact .inr rfl | assumption) :
    SX X W own (.Try body [.ExceptHandler (some (.Name x p0)) none [.Assign [.Name v p1] e p10] pos'] [] [] pos) (sTryC T iv d g) := by
  have oiv' : iv ∉ own := fun z => by rw [List.contains_iff_mem.mpr z] at oiv; cases oiv
  refine ⟨_, ps_try_only (c := cX) (Wout := W) (tb := fun W' => tS X W' own g) (ts := fun a cls d0 D σ H => D.nx (σ.set iv (some vd)) H)
    hs hf hX tk (fun W' pn xe tk' px => (hb W' pn xe tk' px).pss) (fun a oe cls d0 pn hz hfl => ⟨fun pins s σ H D I h => ?_⟩), fun σ H ρ D H0 O0 O r z => ?_⟩
  · have P := pss_one (ps_set (X := X.suite a ((a, oe) :: pn)) (pos' := p1) (pos := p10) hN hiv hlv (he a ((a, oe) :: pn)) (hsw a ((a, oe) :: pn)) hfv)
    exact P.run pins s _ H D I h
  · refine ⟨H0, O0, O, ρ, r, ?_⟩
    unfold sTryC at z
    cases e : g ρ with
    | nx ρ' => rw [e] at z; exact z
    | rt d => rw [e] at z; exact z
    | bk ρ' => rw [e] at z; exact z
    | ct ρ' => rw [e] at z; exact z
    | bad => rw [e] at z; exact z
    | err c ρ' =>
      rw [e] at z
      dsimp only at z
      intro σ' H' O' r' s'
      have hTF := hT c
      cases hTc : T c with
      | none => rw [hTc] at z; exact z.elim
      | some b =>
        rw [hTc] at hTF
        obtain ⟨C, hmC, hx1⟩ := hTF
        have hcls : exV X.mg c = .ref C := by unfold exV; rw [hmC]; rfl
        cases b with
        | false =>
          refine ⟨false, by rw [hcls]; exact hx1, ⟨fun q => absurd q Bool.false_ne_true, fun _ => ?_⟩⟩
          rw [hTc] at z
          exact z σ' H' O' r' s'
        | true =>
          refine ⟨true, by rw [hcls]; exact hx1, ⟨fun _ a ha => ?_, fun q => absurd q.symm Bool.false_ne_true⟩⟩
          rw [hTc] at z
          exact z _ H' O' (r'.set oiv' (hr _)) s'
end
@[simp] theorem u_sTryC (T : Str → Option Bool) (iv : Nat) (d : PyData) (g : Vars → Out) (ρ : Vars) : sTryC T iv d g ρ = match g ρ with
  | .err c ρ' => match T c with
    | some true => .nx (ρ'.set iv (some d))
    | some false => .err c ρ'
    | none => .bad
  | o => o := rfl
def tabL : List (Str × Bool) → Str → Option Bool
  | [], _ => none
  | (c, b) :: r, d => if d = c then some b else tabL r d
@[simp] theorem tabL_self (c : Str) (b : Bool) (r : List (Str × Bool)) : tabL ((c, b) :: r) c = some b := if_pos rfl
def TryL (K : PySem.W.Frag) (mg : Str → Option Value) (x : Str) (l : List (Str × Bool)) : Prop := ∃ CX, mg x = some (.ref CX) ∧ ∀ c, TryCF K mg (.ref CX) c (tabL l c)
theorem tryL_nil {K : PySem.W.Frag} {mg : Str → Option Value} {x : Str} {CX : Addr} (hx : mg x = some (.ref CX)) : TryL K mg x [] := ⟨CX, hx, fun _ => trivial⟩
theorem tryL_cons {K : PySem.W.Frag} {mg : Str → Option Value} {x c : Str} {b : Bool} {l : List (Str × Bool)} {C CX : Addr} (hc : mg c = some (.ref C)) (hx : mg x = some (.ref CX)) (h1 : PySem.W.subIn K (.ref CX) (.type "BaseException") = some true) (h2 : PySem.W.hasDictIn K CX = true) (h3 : PySem.W.typeIn K (.ref CX) = some (.type "type"))
    (h4 : PySem.W.subIn K (.ref C) (.ref CX) = some b) (r : TryL K mg x l) : TryL K mg x ((c, b) :: l) := by
  obtain ⟨CX', hx', hr⟩ := r
  rw [hx] at hx'
  cases hx'
  refine ⟨CX, hx, fun d => ?_⟩
  show TryCF K mg (.ref CX) d (if d = c then some b else tabL l d)
  by_cases e : d = c
  · subst e; rw [if_pos rfl]; exact ⟨C, hc, PySem.W.exm_ref h1 h2 h3 h4⟩
  · rw [if_neg e]; exact hr d
section
variable {X : Cx} {W : WX} {own : List Nat}
theorem sx_tryL {l : List (Str × Bool)} {iv : Nat} {d : PyData} {vd : V} {g : Vars → Out} {body : List Stmt} {x v : Str} {e : Expr} {p0 p1 p10 pos' pos : Pos} (F : TryL X.K X.mg x l) (gX : Gl X x) (dX : (x == ("__debug__" : Str)) = false)
    (hN : X.N.Nodup) (hiv : X.N[iv]? = some v) (hlv : Loc X.env.scope v) (oiv : own.contains iv = false)
    (hs : X.stack = X.env :: X.outer) (hf : X.env.frame = some X.env.locals) (tk : Takes X W)
    (he : ∀ (a : Addr) (pn : List (Addr × Obj)), PE (X.suite a pn) e (tC vd)) (hr : ∀ H, Rp X.K H vd d)
    (hb : ∀ (W' : WX) (pn : List (Addr × Obj)) (xe : Value → Shared → Prop), Takes (X.tr pn xe) W' → PassesOwn (model X.prog X.w) X.A X.env xe → SsX (X.tr pn xe) W' own body g)
    (hsw : ∀ (a : Addr) (pn : List (Addr × Obj)), swapsWith e (some (.Name v p1)) p10.line (X.suite a pn).env = pure false := by intro a pn; rfl)
    (hfv : X.fn v = true ∨ X.env.scope.names.lookup v = some .local := by first | exact .inl rfl | exact .inr rfl | assumption) :
    SX X W own (.Try body [.ExceptHandler (some (.Name x p0)) none [.Assign [.Name v p1] e p10] pos'] [] [] pos) (sTryC (tabL l) iv d g) := by
  obtain ⟨CX, hx, hF⟩ := F
  exact sx_tryC hN hiv hlv oiv hs hf ⟨gX, dX, Or.inl hx⟩ tk he hr hF hb hsw hfv
end
end Pu
set_option Elab.async false
set_option linter.all false
set_option maxRecDepth 100000
set_option maxHeartbeats 4000000
namespace Pu
open PySem PySem.Spec PyProof.Rows L2
section
variable {X : Cx} {W : WX}
end
def goM : List ((Str → Option Bool) × Nat × PyData) → Str → Vars → Out
  | [], c, ρ => .err c ρ
  | (T, iv, d) :: r, c, ρ => match T c with
    | some true => .nx (ρ.set iv (some d))
    | some false => goM r c ρ
    | none => .bad
@[simp] theorem u_goM_n (c : Str) (ρ : Vars) : goM [] c ρ = .err c ρ := rfl
@[simp] theorem u_goM_c (T : Str → Option Bool) (iv : Nat) (d : PyData) (r : List ((Str → Option Bool) × Nat × PyData)) (c : Str) (ρ : Vars) : goM ((T, iv, d) :: r) c ρ = match T c with
    | some true => .nx (ρ.set iv (some d))
    | some false => goM r c ρ
    | none => .bad := rfl
section
variable {X : Cx} {W : WX} {own : List Nat}
inductive ClOk (X : Cx) (own : List Nat) : List ExceptHandler → List ((Str → Option Bool) × Nat × PyData) → Prop
  | nil : ClOk X own [] []
  | cons {l : List (Str × Bool)} {iv : Nat} {d : PyData} {vd : V} {x v : Str} {e : Expr} {p0 p1 p10 pos' : Pos} {hds : List ExceptHandler} {r : List ((Str → Option Bool) × Nat × PyData)} (F : TryL X.K X.mg x l) (gX : Gl X x) (dX : (x == ("__debug__" : Str)) = false)
      (hiv : X.N[iv]? = some v) (hlv : Loc X.env.scope v) (oiv : own.contains iv = false)
      (he : ∀ (a : Addr) (pn : List (Addr × Obj)), PE (X.suite a pn) e (tC vd)) (hr : ∀ H, Rp X.K H vd d)
      (hsw : ∀ (a : Addr) (pn : List (Addr × Obj)), swapsWith e (some (.Name v p1)) p10.line (X.suite a pn).env = pure false)
      (hfv : X.fn v = true ∨ X.env.scope.names.lookup v = some .local) (rest : ClOk X own hds r) :
      ClOk X own (.ExceptHandler (some (.Name x p0)) none [.Assign [.Name v p1] e p10] pos' :: hds) ((tabL l, iv, d) :: r)
theorem ClOk.hds (hN : X.N.Nodup) {hds : List ExceptHandler} {l : List ((Str → Option Bool) × Nat × PyData)} (h : ClOk X own hds l) : ∃ l', HdsOk X hds l' ∧
    ∀ (H0 : HB) (O0 O' : List Addr) (D : Ends) (c : Str) (σ' : L2.St) (H' : Hp) (ρ' : Vars), Rel X.K own H0 O0 O' σ' H' ρ' → SOut X W own H0 O0 O' H' D (goM l c ρ') → wMany X.K W D l' (exV X.mg c) none σ' H' := by
  induction h with
  | nil => exact ⟨[], .nil, fun H0 O0 O' D c σ' H' ρ' r z => z σ' H' O' r (Same.refl _)⟩
  | @cons l iv d vd x v e p0 p1 p10 pos' hds r F gX dX hiv hlv oiv he hr hsw hfv rest ih =>
    obtain ⟨l', h1, h2⟩ := ih
    obtain ⟨CX, hx, hF⟩ := F
    have oiv' : iv ∉ own := fun z => by rw [List.contains_iff_mem.mpr z] at oiv; cases oiv
    refine ⟨((.ref CX), fun a cls d0 D σ H => D.nx (σ.set iv (some vd)) H) :: l', .cons ⟨gX, dX, Or.inl hx⟩ (fun a oe cls d0 pn hz hfl => ⟨fun pins s σ H D I h => ?_⟩) h1, fun H0 O0 O' D c σ' H' ρ' rr z => ?_⟩
    · have P := pss_one (ps_set (X := X.suite a ((a, oe) :: pn)) (pos' := p1) (pos := p10) hN hiv hlv (he a ((a, oe) :: pn)) (hsw a ((a, oe) :: pn)) hfv)
      exact P.run pins s _ H D I h
    · have hTF := hF c
      show ∃ b, PySem.W.exmOne X.K (exV X.mg c) (.ref CX) = some b ∧ _
      unfold goM at z
      cases hTc : tabL l c with
      | none => rw [hTc] at z; exact z.elim
      | some b =>
        rw [hTc] at hTF z
        obtain ⟨C, hmC, hx1⟩ := hTF
        have hcls : exV X.mg c = .ref C := by unfold exV; rw [hmC]; rfl
        refine ⟨b, by rw [hcls]; exact hx1, fun hb a ha => ?_, fun hb => ?_⟩
        · subst hb
          exact z _ H' O' (rr.set oiv' (hr _)) (Same.refl _)
        · subst hb
          exact h2 H0 O0 O' D c σ' H' ρ' rr z
end
def KitL (K : PySem.W.Frag) (mg : Str → Option Value) (cY : Value) (l : List (Str × Bool)) : Prop := ∀ c b, tabL l c = some b → ∃ C, mg c = some (.ref C) ∧ ExcC K C ∧ PySem.W.kitOne K (.ref C) cY = some b
def EXH (X : Cx) (ie : Nat) (c : Str) (e : Expr) (f : Vars → R PyData) : Prop := ∀ (a : Addr) (oe : Obj) (pn : List (Addr × Obj)) (C : Addr), X.mg c = some (.ref C) → Zc (.ref C) none oe → (∃ vs, oe.data = .fields vs) →
  ∃ t, PE (X.suite a ((a, oe) :: pn)) e t ∧ ∀ σ H O ρ (Q : VK), σ[ie]? = some (some (.ref a)) → Stands O H → VRel X.K (hide O H) σ ρ → EOut X W0 O σ H Q (f ρ) → t σ H Q
def eKit (T : Str → Option Bool) (c : Str) (_ : Vars) : R PyData := match T c with
  | some b => .ok (.bool b)
  | none => .bad
section
variable {X : Cx} {ie : Nat} {c : Str}
theorem exh_ex {e : Expr} {f : Vars → R PyData} (h : ∀ (a : Addr) (pn : List (Addr × Obj)), EX (X.suite a pn) W0 e f) : EXH X ie c e f := fun a oe pn C _ _ _ => by
  obtain ⟨t, p, ht⟩ := h a ((a, oe) :: pn)
  refine ⟨t, p, fun σ H O ρ Q _ hO hr z => ht σ H O ρ Q hO hr ?_⟩
  cases q : f ρ with
  | ok d => rw [q] at z; exact z
  | err _ => rw [q] at z; exact fun H' s => z H' s
  | bad => rw [q] at z; exact z
theorem exh_isi {l : List (Str × Bool)} {n y : Str} {vY : V} {cY : Value} {p6 p7 p8 p9 : Pos} (F : KitL X.K X.mg cY l) (hN : X.N[ie]? = some n)
    (gS : Gl X "isinstance") (mS : X.mg "isinstance" = none)
    (hY : ∀ (a : Addr) (pn : List (Addr × Obj)), PE (X.suite a pn) (.Name y p9) (tC vY)) (hYv : ∀ u, RelV vY u → u = cY)
    (hv : Vis X.env.scope n := by first | exact Or.inl rfl | exact Or.inr (Or.inl rfl) | exact Or.inr (Or.inr rfl)) (hdn : (n == ("__debug__" : Str)) = false := by decide) (hcd : (n == ("__classdict__" : Str)) = false := by decide)
    (he1 : starEach [.Name n p8, .Name y p9] X.env = (false, eval (.Name n p8) X.env) :: starEach [.Name y p9] X.env := by rfl) (he2 : starEach [.Name y p9] X.env = (false, eval (.Name y p9) X.env) :: starEach [] X.env := by rfl)
    (hp1 : (backTo p7 (starEach [.Name y p9] X.env)).any (·.1) = false := by rfl) :
    EXH X ie c (.Call (.Name "isinstance" p6) [.Name n p8, .Name y p9] [] p7) (eKit (tabL l) c) := fun a oe pn C hC hz hfl => by
  cases hT : tabL l c with
  | none =>
    refine ⟨fun _ _ _ => False, ⟨fun _ _ _ _ _ _ h => h.elim⟩, fun σ H O ρ Q _ _ _ z => ?_⟩
    unfold eKit at z
    rw [hT] at z
    exact z
  | some b =>
    obtain ⟨C', hC', hxc, hk⟩ := F c b hT
    rw [hC] at hC'
    cases hC'
    refine ⟨_, pe_callB (X := X.suite a ((a, oe) :: pn)) (call_isE hxc hz hfl) gS mS (by decide +kernel) (pa_cons (pe_var hN hv hdn hcd) (pa_cons (hY a ((a, oe) :: pn)) pa_nil he2) he1) (by decide) (by decide) he1 hp1, fun σ H O ρ Q hs hO hr z => ?_⟩
    unfold eKit at z
    rw [hT] at z
    refine ⟨.ref a, hs, vY, cY, b, rfl, hYv, hk, ?_⟩
    exact z _ H (Same.refl H) (.bl b)
end
@[simp] theorem u_eKit (T : Str → Option Bool) (c : Str) (ρ : Vars) : eKit T c ρ = match T c with
  | some b => .ok (.bool b)
  | none => .bad := rfl
section
variable {X : Cx} {W : WX} {own : List Nat}
end
theorem kitL_nil {K : PySem.W.Frag} {mg : Str → Option Value} {cY : Value} : KitL K mg cY [] := fun c b h => by cases h
theorem kitL_cons {K : PySem.W.Frag} {mg : Str → Option Value} {cY : Value} {c : Str} {b : Bool} {l : List (Str × Bool)} {C : Addr} (hc : mg c = some (.ref C)) (E : ExcC K C) (k : PySem.W.kitOne K (.ref C) cY = some b) (r : KitL K mg cY l) : KitL K mg cY ((c, b) :: l) := fun d b' h => by
  unfold tabL at h
  by_cases e : d = c
  · subst e; rw [if_pos rfl] at h; cases h; exact ⟨C, hc, E, k⟩
  · rw [if_neg e] at h; exact r d b' h
def KitY (K : PySem.W.Frag) (mg : Str → Option Value) (y : Str) (l : List (Str × Bool)) : Prop := ∃ CY, mg y = some (.ref CY) ∧ KitL K mg (.ref CY) l
abbrev KitB (K : PySem.W.Frag) (mg : Str → Option Value) (l : List (Str × Bool)) : Prop := KitL K mg (.type "ValueError") l
theorem kitY_nil {K : PySem.W.Frag} {mg : Str → Option Value} {y : Str} {CY : Addr} (h : mg y = some (.ref CY)) : KitY K mg y [] := ⟨CY, h, kitL_nil⟩
theorem kitY_cons {K : PySem.W.Frag} {mg : Str → Option Value} {c y : Str} {l : List (Str × Bool)} {C CY : Addr} (hc : mg c = some (.ref C)) (hy : mg y = some (.ref CY)) (E : ExcC K C) (h5 : PySem.W.hasDictIn K CY = true) (h6 : PySem.W.typeIn K (.ref CY) = some (.type "type")) (h7 : PySem.W.subIn K (.ref C) (.ref CY) = some true) (r : KitY K mg y l) : KitY K mg y ((c, true) :: l) := by
  obtain ⟨CY', h', r'⟩ := r
  rw [hy] at h'
  cases h'
  exact ⟨CY, hy, kitL_cons hc E (kitOne_ref h5 h6 h7) r'⟩
section
variable {X : Cx} {ie : Nat} {c : Str}
theorem exh_isB {l : List (Str × Bool)} {n : Str} {p6 p7 p8 p9 : Pos} (F : KitB X.K X.mg l) (hN : X.N[ie]? = some n)
    (gS : Gl X "isinstance") (mS : X.mg "isinstance" = none) (gV : Gl X "ValueError") (mV : X.mg "ValueError" = none)
    (hv : Vis X.env.scope n := by first | exact Or.inl rfl | exact Or.inr (Or.inl rfl) | exact Or.inr (Or.inr rfl)) (hdn : (n == ("__debug__" : Str)) = false := by decide) (hcd : (n == ("__classdict__" : Str)) = false := by decide)
    (he1 : starEach [.Name n p8, .Name "ValueError" p9] X.env = (false, eval (.Name n p8) X.env) :: starEach [.Name "ValueError" p9] X.env := by rfl) (he2 : starEach [.Name "ValueError" p9] X.env = (false, eval (.Name "ValueError" p9) X.env) :: starEach [] X.env := by rfl)
    (hp1 : (backTo p7 (starEach [.Name "ValueError" p9] X.env)).any (·.1) = false := by rfl) :
    EXH X ie c (.Call (.Name "isinstance" p6) [.Name n p8, .Name "ValueError" p9] [] p7) (eKit (tabL l) c) :=
  exh_isi (vY := .ty "ValueError") F hN gS mS (fun a pn => pe_bltn (v := .ty "ValueError") gV mV (by decide +kernel) rfl (by decide) (by decide)) (fun u r => r) hv hdn hcd he1 he2 hp1
theorem exh_isC {l : List (Str × Bool)} {n y : Str} {p6 p7 p8 p9 : Pos} (F : KitY X.K X.mg y l) (hN : X.N[ie]? = some n)
    (gS : Gl X "isinstance") (mS : X.mg "isinstance" = none) (gY : Gl X y) (dY : (y == ("__debug__" : Str)) = false)
    (hv : Vis X.env.scope n := by first | exact Or.inl rfl | exact Or.inr (Or.inl rfl) | exact Or.inr (Or.inr rfl)) (hdn : (n == ("__debug__" : Str)) = false := by decide) (hcd : (n == ("__classdict__" : Str)) = false := by decide)
    (he1 : starEach [.Name n p8, .Name y p9] X.env = (false, eval (.Name n p8) X.env) :: starEach [.Name y p9] X.env := by rfl) (he2 : starEach [.Name y p9] X.env = (false, eval (.Name y p9) X.env) :: starEach [] X.env := by rfl)
    (hp1 : (backTo p7 (starEach [.Name y p9] X.env)).any (·.1) = false := by rfl) :
    EXH X ie c (.Call (.Name "isinstance" p6) [.Name n p8, .Name y p9] [] p7) (eKit (tabL l) c) := by
  obtain ⟨CY, hy, hF⟩ := F
  exact exh_isi (vY := .ref CY) hF hN gS mS (fun a pn => pe_glob (v := .ref CY) gY hy rfl dY) (fun u r => r) hv hdn hcd he1 he2 hp1
end
def CMulX (i j : Int) : Prop := i.natAbs.log2 + j.natAbs.log2 < 134000000
theorem CMulX.ok {i j : Int} (h : CMulX i j) : IntMulOk i j := by
  have b : ∀ x : Int, Builtin.Int.intBits x ≤ x.natAbs.log2 + 1 := fun x => by
    unfold Builtin.Int.intBits
    split <;> omega
  have h1 := b i
  have h2 := b j
  have h3 : i.natAbs.log2 + j.natAbs.log2 < 134000000 := h
  intro z
  have z2 := (Bool.and_eq_true _ _ ▸ z).2
  unfold Builtin.Int.intTooBig at z2
  have z3 := of_decide_eq_true z2
  rw [show bitsLine = 134217728 by decide] at z3
  omega
theorem op_mulX {X : Cx} : OpR X (binaryOp .Mult) (rI CMulX fun i j => .int (i * j)) := opI fun _ _ _ _ _ _ _ hc q => mul_int q hc.ok
def cMulX (i j : Int) : Bool := decide (i.natAbs.log2 + j.natAbs.log2 < 134000000)
abbrev gMulX := gInt cMulX fun i j => .int (i * j)
theorem op2_mulX {K : PySem.W.Frag} : Op2 K (rI CMulX fun i j => .int (i * j)) gMulX := op2_int (fun i j h => (of_decide_eq_true (show decide (i.natAbs.log2 + j.natAbs.log2 < 134000000) = true from h) : i.natAbs.log2 + j.natAbs.log2 < 134000000)) fun _ _ _ => .int _
def spLawB (K : PySem.W.Frag) : Sp := fun vs H Q _ => ∃ (a : Addr) (ns : List Int), vs = [.ref a] ∧ SqL K H a (ns.map V.int) ∧ ns.length ≤ 63 ∧ (∀ z ∈ ns, z.natAbs.log2 ≤ 1048576) ∧ ∀ H', Q (.bl true) H'
theorem law_impB {K : PySem.W.Frag} {mg : Str → Option Value} {f : List PyData → R PyData} (hl : ∀ ns : List Int, ns.length ≤ 63 → (∀ z ∈ ns, z.natAbs.log2 ≤ 1048576) → f [.list (ns.map .int)] = .ok (.bool true)) : ∀ vs H Q E, spLawB K vs H Q E → spD K mg 1 f vs H Q E := fun vs H Q E h => by
  obtain ⟨a, ns, rfl, hS, h63, hb, q⟩ := h
  refine ⟨rfl, [], [.list (ns.map .int)], fun a z => absurd z (by simp), .cons (.lst (by rw [hide_nil]; exact hS) (Rps.ofInts ns)) .nil, ?_⟩
  rw [hl ns h63 hb]
  intro v H' s r
  cases r
  exact q H'
theorem walkLB {l : PySem.W.OpenLaw} {q : Program} {loose : List Str} {XP : (Str → Option Value) → Heap → Prop} {YP : World → Heap → Prop} {d : DefRec} {K : Params → PySem.W.Frag} {k : Nat} {x : Str} (hn : l.most = some 63) (hdf : d.params.defaults = []) (hr : Room k callerA)
    (hY : ∀ (w : World) (h : Heap), YP w h → (K w.params).In h)
    (F : ∀ (w : World) (mg : Str → Option Value) (fa : Addr) (h : Heap), (K w.params).In h → h.Ns mainGlobals mg → mg d.name = some (.ref fa) →
      ∃ fd : FuncData, (∀ (s : Shared) (u : Value), BindsTo s fd ⟨[u], []⟩ [(x, u)]) ∧ ∀ base : Heap, (K w.params).In base → base.Ns mainGlobals mg → FnOk l.prog w (K w.params) mg base (L2.CX l.prog w) k fa fd [x] (spLawB (K w.params))) :
    PySem.W.WalkO q loose XP YP l.row.toRowW d [] (fun f vs => PySem.call f vs) :=
  L2.walk_ofB (n := 63) (k := k) (x := x) (CX := fun w => L2.CX l.prog w) (sp := fun w => spLawB (K w.params)) hn (by decide) hdf hr hY F (fun _ _ a ns hl hb _ hS => ⟨a, ns, rfl, hS, hl, (fun z hz => by
    have h1 := hb z hz
    unfold Builtin.Int.intBits at h1
    by_cases c : (z == 0) = true
    · have : z = 0 := by simpa using c
      subst this; decide
    · rw [if_neg c] at h1; omega), fun _ => rfl⟩) fun _ _ _ _ _ z => by
    obtain ⟨_, _, _, _, _, _, _, _, _, _, _, _, z⟩ := z
    exact z
section
variable {P : Program} {w : World} {K : PySem.W.Frag} {mg : Str → Option Value} {base : Heap}
section
variable {x : Str} {st : Stmt} {f : Addr} {fd : FuncData} {N ps : List Str} {k n : Nat} {i j : Int} {own : List Nat} {g : Vars → Out}
end
end
section
variable {X : Cx} {W : WX}
end
end Pu
set_option Elab.async false
set_option linter.all false
set_option maxRecDepth 100000
set_option maxHeartbeats 4000000
namespace Pu
open PySem PySem.Spec PyProof.Rows L2
section
variable {X : Cx} {W : WX}
end
end Pu
set_option Elab.async false
set_option linter.all false
set_option maxRecDepth 100000
set_option maxHeartbeats 4000000
namespace Pu
open PySem PySem.Spec PyProof.Rows L2
section
variable {X : Cx} {W : WX} {own : List Nat}
end
structure Inner (K : PySem.W.Frag) (H0 : Hp) (O : List Addr) (H : Hp) (as : List Addr) (dss : List (List PyData)) : Prop where
  len : as.length = dss.length
  nd : as.Nodup
  mem : ∀ (j : Nat) (a : Addr) (ds : List PyData), as[j]? = some a → dss[j]? = some ds → a ∈ O ∧ H0 a = none ∧ ∃ vs, H a = some (.lst vs) ∧ Rps K (hide O H) vs ds
structure RelD (K : PySem.W.Frag) (own : List Nat) (iu : Nat) (H0 : Hp) (O0 O : List Addr) (σ : L2.St) (H : Hp) (ρ : Vars) : Prop where
  base : Rel K own ⟨H0, []⟩ O0 O σ H (ρ.set iu none)
  nown : iu ∉ own
  deep : ∃ U as dss, ρ[iu]? = some (some (.list (dss.map .list))) ∧ σ[iu]? = some (some (.ref U)) ∧ U ∈ O ∧ H0 U = none ∧ H U = some (.lst (as.map V.ref)) ∧ U ∉ as ∧ Inner K H0 O H as dss ∧
    ∀ (i : Nat) (d : PyData) (b : Addr), i ∈ own → ρ[i]? = some (some d) → σ[i]? = some (some (.ref b)) → b ≠ U ∧ b ∉ as
theorem Inner.mono {K : PySem.W.Frag} {H0 : Hp} {O O' : List Addr} {H H' : Hp} {as : List Addr} {dss : List (List PyData)} (h : Inner K H0 O H as dss) (sO : ∀ a ∈ O, a ∈ O') (s : ∀ a ∈ as, H' a = H a) (sF : Same (hide O H) (hide O' H')) : Inner K H0 O' H' as dss := ⟨h.len, h.nd, fun j a ds e1 e2 => by
  obtain ⟨h1, h2, vs, h3, h4⟩ := h.mem j a ds e1 e2
  exact ⟨sO a h1, h2, vs, by rw [s a (List.mem_of_getElem? e1)]; exact h3, h4.mono sF⟩⟩
theorem set_getElem? {ρ : Vars} {iu : Nat} {i : Nat} (h : i ≠ iu) : (ρ.set iu none)[i]? = ρ[i]? := by rw [List.getElem?_set_ne (fun z => h z.symm)]
section
variable {K : PySem.W.Frag} {own : List Nat} {iu : Nat} {H0 : Hp} {O0 O : List Addr} {σ : L2.St} {H H' : Hp} {ρ : Vars}
theorem RelD.stands (r : RelD K own iu H0 O0 O σ H ρ) : Stands O H := r.base.stands
theorem RelD.stands0 (r : RelD K own iu H0 O0 O σ H ρ) : Stands O0 H := r.base.stands0
theorem RelD.same (r : RelD K own iu H0 O0 O σ H ρ) : Same H0 H := r.base.same
theorem inner_rps {h : Same (hide O H) (hide O0 H)} : ∀ {as : List Addr} {dss : List (List PyData)}, (∀ (j : Nat) (a : Addr) (ds : List PyData), as[j]? = some a → dss[j]? = some ds → a ∉ O0 ∧ ∃ vs, H a = some (.lst vs) ∧ Rps K (hide O H) vs ds) → as.length = dss.length → Rps K (hide O0 H) (as.map V.ref) (dss.map PyData.list)
  | [], [], _, _ => .nil
  | [], _ :: _, _, l => by cases l
  | _ :: _, [], _, l => by cases l
  | a :: as, ds :: dss, m, l => by
    obtain ⟨n, vs, h1, h2⟩ := m 0 a ds rfl rfl
    exact .cons (.lst (.inl (.inl (hide_of n h1))) (h2.mono h)) (inner_rps (h := h) (fun j b es e1 e2 => m (j + 1) b es e1 e2) (by simpa using l))
theorem RelD.vrel0 (r : RelD K own iu H0 O0 O σ H ρ) : VRel K (hide O0 H) σ ρ := ⟨by simpa using r.base.len, fun i d e => by
  by_cases c : i = iu
  · subst c
    obtain ⟨U, as, dss, h1, h2, h3, h4, h5, h6, h7, h8⟩ := r.deep
    rw [h1] at e
    cases e
    refine ⟨_, h2, .lst (.inl (.inl (hide_of (r.base.notO0 h4) h5))) (inner_rps (h := hide_less r.base.sub) (fun j a ds e1 e2 => ?_) h7.len)⟩
    obtain ⟨g1, g2, vs, g3, g4⟩ := h7.mem j a ds e1 e2
    exact ⟨r.base.notO0 g2, vs, g3, g4⟩
  · exact r.base.vrel0.get i d (by rw [set_getElem? c]; exact e)⟩
theorem mask_setN {own : List Nat} {iu : Nat} {ρ : Vars} : mask (iu :: own) ρ = mask own (ρ.set iu none) := by
  apply List.ext_getElem?
  intro i
  unfold mask
  rw [maskF_get, maskF_get, Nat.zero_add]
  by_cases c : i = iu
  · subst c
    rw [if_pos (by simp)]
    by_cases hl : i < ρ.length
    · rw [List.getElem?_eq_getElem hl, List.getElem?_set_self hl]
      split <;> rfl
    · rw [List.getElem?_eq_none (by omega), List.getElem?_eq_none (by simpa using hl)]
      split <;> rfl
  · rw [set_getElem? c]
    by_cases c2 : i ∈ own
    · rw [if_pos c2, if_pos (by simp [c2])]
    · rw [if_neg c2, if_neg (by simp [c, c2])]
theorem RelD.vrelM (r : RelD K own iu H0 O0 O σ H ρ) : VRel K (hide O H) σ (mask (iu :: own) ρ) := by
  rw [mask_setN]; exact r.base.vrelM
theorem RelD.imm (r : RelD K own iu H0 O0 O σ H ρ) {v : V} {d : PyData} (h : Rp K (hide O0 H) v d) (e : imm d = true) : Rp K (hide O H) v d := r.base.imm h e
theorem RelD.step (r : RelD K own iu H0 O0 O σ H ρ) (s : Same H H') : RelD K own iu H0 O0 O σ H' ρ := ⟨r.base.step s, r.nown, by
  obtain ⟨U, as, dss, h1, h2, h3, h4, h5, h6, h7, h8⟩ := r.deep
  refine ⟨U, as, dss, h1, h2, h3, h4, s _ _ h5, h6, ⟨h7.len, h7.nd, fun j a ds e1 e2 => ?_⟩, h8⟩
  obtain ⟨g1, g2, vs, g3, g4⟩ := h7.mem j a ds e1 e2
  exact ⟨g1, g2, vs, s _ _ g3, g4.mono (hide_same s)⟩⟩
theorem RelD.set (r : RelD K own iu H0 O0 O σ H ρ) {i : Nat} {v : V} {d : PyData} (c : i ∉ own) (c2 : i ≠ iu) (h : Rp K (hide O H) v d) : RelD K own iu H0 O0 O (σ.set i (some v)) H (ρ.set i (some d)) := ⟨by
    rw [List.set_comm _ _ c2]; exact r.base.set c h, r.nown, by
  obtain ⟨U, as, dss, h1, h2, h3, h4, h5, h6, h7, h8⟩ := r.deep
  refine ⟨U, as, dss, by rw [List.getElem?_set_ne c2]; exact h1, by rw [List.getElem?_set_ne c2]; exact h2, h3, h4, h5, h6, h7, fun j e b hj e1 e2 => ?_⟩
  have n : i ≠ j := fun z => c (z ▸ hj)
  rw [List.getElem?_set_ne n] at e1 e2
  exact h8 j e b hj e1 e2⟩
theorem RelD.other (r : RelD K own iu H0 O0 O σ H ρ) {σ' : L2.St} {ρ' : Vars} {js : List Nat} (hj : ∀ j ∈ js, j ∉ iu :: own) (hl : σ'.length = σ.length) (v : VRel K (hide O H) σ' (mask (iu :: own) ρ')) (f : ∀ j : Nat, j ∉ js → σ'[j]? = σ[j]? ∧ (mask (iu :: own) ρ')[j]? = (mask (iu :: own) ρ)[j]?) (f2 : ∀ j : Nat, j ∉ js → ρ'[j]? = ρ[j]?) : RelD K own iu H0 O0 O σ' H ρ' := ⟨by
    refine r.base.other (js := js) (fun j h z => hj j h (List.mem_cons_of_mem _ z)) hl (by rw [← mask_setN]; exact v) (fun j h => by rw [← mask_setN, ← mask_setN]; exact f j h) fun j ho => ?_
    have n : j ≠ iu := fun z => r.nown (z ▸ ho)
    rw [set_getElem? n, set_getElem? n]
    exact f2 j fun z => hj j z (List.mem_cons_of_mem _ ho), r.nown, by
  obtain ⟨U, as, dss, h1, h2, h3, h4, h5, h6, h7, h8⟩ := r.deep
  have nu : iu ∉ js := fun z => hj iu z (by simp)
  refine ⟨U, as, dss, by rw [f2 iu nu]; exact h1, by rw [(f iu nu).1]; exact h2, h3, h4, h5, h6, h7, fun j e b ho e1 e2 => ?_⟩
  have n : j ∉ js := fun z => hj j z (List.mem_cons_of_mem _ ho)
  rw [f2 j n] at e1
  rw [(f j n).1] at e2
  exact h8 j e b ho e1 e2⟩
theorem RelD.freeze (r : RelD K own iu H0 O0 O σ H ρ) : ∃ O', Rel K own ⟨H0, []⟩ O0 O' σ H ρ ∧ Same (hide O H) (hide O' H) := by
  classical
  obtain ⟨U, as, dss, h1, h2, h3, h4, h5, h6, h7, h8⟩ := r.deep
  have hm : ∀ a, a ∈ O.filter (fun a => decide (a ≠ U ∧ a ∉ as)) ↔ a ∈ O ∧ a ≠ U ∧ a ∉ as := fun a => by simp [List.mem_filter]
  have sF : Same (hide O H) (hide (O.filter fun a => decide (a ≠ U ∧ a ∉ as)) H) := hide_less fun a ha => ((hm a).mp ha).1
  have b := r.base
  refine ⟨O.filter fun a => decide (a ≠ U ∧ a ∉ as), ⟨b.same, b.st0, by simpa using b.len, fun a ha => (hm a).mpr ⟨b.sub a ha, fun z => b.st0.nn ha (z ▸ h4), fun z => ?_⟩, fun a ha => b.lists a ((hm a).mp ha).1, fun i d c e => ?_, fun i d c e => ?_, fun i j d e a ci cj q1 q2 => ?_, (fun p hp => nomatch hp), (fun p hp => nomatch hp), b.mark⟩, sF⟩
  · obtain ⟨j, hj⟩ := List.getElem?_of_mem z
    have hl : j < dss.length := by rw [← h7.len]; exact (List.getElem?_eq_some_iff.mp hj).1
    exact b.st0.nn ha (h7.mem j a _ hj (List.getElem?_eq_getElem hl)).2.1
  · by_cases ci : i = iu
    · subst ci
      rw [h1] at e
      cases e
      refine ⟨_, h2, .lst (.inl (.inl (hide_of (fun z => ((hm U).mp z).2.1 rfl) h5))) (inner_rps (h := sF) (fun j a ds e1 e2 => ?_) h7.len)⟩
      obtain ⟨g1, g2, vs, g3, g4⟩ := h7.mem j a ds e1 e2
      exact ⟨fun z => ((hm a).mp z).2.2 (List.mem_of_getElem? e1), vs, g3, g4⟩
    · obtain ⟨v, g1, g2⟩ := b.free i d c (by rw [set_getElem? ci]; exact e)
      exact ⟨v, g1, g2.mono sF⟩
  · have ci : i ≠ iu := fun z => r.nown (z ▸ c)
    obtain ⟨a, g1, g2, g3, g4⟩ := b.mine i d c (by rw [set_getElem? ci]; exact e)
    have g8 := h8 i d a c e g1
    exact ⟨a, g1, (hm a).mpr ⟨g2, g8⟩, g3, g4.mono sF fun o ho => ho⟩
  · have ni : i ≠ iu := fun z => r.nown (z ▸ ci)
    have nj : j ≠ iu := fun z => r.nown (z ▸ cj)
    exact b.apart i j d e a ci cj (by rw [set_getElem? ni]; exact q1) (by rw [set_getElem? nj]; exact q2)
end
section
variable (X : Cx) (W : WX) (own : List Nat) (iu : Nat)
def DOut (H0 : Hp) (O0 O : List Addr) (H : Hp) (D : Ends) : Out → Prop
  | .nx ρ => ∀ σ' H' O', RelD X.K own iu H0 O0 O' σ' H' ρ → Same (hide O H) (hide O' H') → D.nx σ' H'
  | .err c ρ => ∀ σ' H' O', RelD X.K own iu H0 O0 O' σ' H' ρ → Same (hide O H) (hide O' H') → W (exV X.mg c) none σ' H'
  | .rt d => ∀ v H', Same H0 H' → Rp X.K (hide O0 H') v d → D.rt v H'
  | .bk ρ => ∀ σ' H' O', RelD X.K own iu H0 O0 O' σ' H' ρ → Same (hide O H) (hide O' H') → D.bk σ' H'
  | .ct ρ => ∀ σ' H' O', RelD X.K own iu H0 O0 O' σ' H' ρ → Same (hide O H) (hide O' H') → D.ct σ' H'
  | .bad => False
def DX (st : Stmt) (g : Vars → Out) : Prop :=
  ∃ t, PS X st t ∧ ∀ σ H ρ D H0 O0 O, RelD X.K own iu H0 O0 O σ H ρ → DOut X W own iu H0 O0 O H D (g ρ) → t D σ H
end
section
variable {X : Cx} {W : WX} {own : List Nat} {iu : Nat}
theorem DOut.from {H0 : Hp} {O0 O O' : List Addr} {H H' : Hp} {D : Ends} {o : Out} (h : DOut X W own iu H0 O0 O H D o) (s : Same (hide O H) (hide O' H')) : DOut X W own iu H0 O0 O' H' D o := by
  cases o with
  | nx ρ => exact fun σ' H'' O'' r s' => h σ' H'' O'' r (s.trans s')
  | err c ρ => exact fun σ' H'' O'' r s' => h σ' H'' O'' r (s.trans s')
  | bk ρ => exact fun σ' H'' O'' r s' => h σ' H'' O'' r (s.trans s')
  | ct ρ => exact fun σ' H'' O'' r s' => h σ' H'' O'' r (s.trans s')
  | _ => exact h
def sSetD (i : Nat) (f : Vars → R PyData) (ρ : Vars) : Out := (f ρ).run ρ fun d => if imm d = true then .nx (ρ.set i (some d)) else .bad
theorem RelD.write {H0 : Hp} {O0 O : List Addr} {σ : L2.St} {H : Hp} {ρ : Vars} {i : Nat} (hi : i ∈ own) {a : Addr} {vs vs' : List V} {d : PyData} {es : List PyData} (r : RelD X.K own iu H0 O0 O σ H ρ) (q : ρ[i]? = some (some d)) (e : σ[i]? = some (some (.ref a))) (ha : a ∈ O) (h0 : H0 a = none) (h : H a = some (.lst vs)) (rs : Rps X.K (hide O H) vs' es) :
    RelD X.K own iu H0 O0 O σ (upd H a (.lst vs')) (ρ.set i (some (.list es))) ∧ Same (hide O H) (hide O (upd H a (.lst vs'))) := by
  have ni : i ≠ iu := fun e => r.nown (e ▸ hi)
  obtain ⟨b, sF⟩ := r.base.write hi (by rw [set_getElem? ni]; exact q) e ha h0 h rs
  refine ⟨⟨by rw [List.set_comm _ _ ni]; exact b, r.nown, ?_⟩, sF⟩
  obtain ⟨U, as, dss, k1, k2, k3, k4, k5, k6, k7, k8⟩ := r.deep
  obtain ⟨n1, n2⟩ := k8 i d a hi q e
  refine ⟨U, as, dss, by rw [List.getElem?_set_ne ni]; exact k1, k2, k3, k4, by rw [upd_ne (Ne.symm n1)]; exact k5, k6, k7.mono (fun _ h => h) (fun b hb => upd_ne fun z => n2 (z ▸ hb)) sF, fun j d' b hj e1 e2 => ?_⟩
  by_cases c : i = j
  · subst c; exact k8 i d b hi q e2
  · rw [List.getElem?_set_ne c] at e1; exact k8 j d' b hj e1 e2
section
variable {i : Nat} {x : Str} {e : Expr} {f : Vars → R PyData} {p apos cpos pos : Pos}
end
section
variable {x : Str} {p apos cpos lpos pos : Pos}
end
section
variable {x : Str} {k e1 e2 : Expr} {fk : Vars → R PyData} {fa : Vars → R (List PyData)} {p p2 apos cpos pos : Pos}
end
def sForD (iu : Nat) (own : List Nat) (fi : Vars → R (List PyData)) (gt : PyData → Vars → Option Vars) (g : Vars → Out) (ρ : Vars) : Out := (fi (mask (iu :: own) ρ)).run ρ fun ds => forL gt g ds ρ
end
section
variable (X : Cx) (E : XK)
def BDX (own : List Nat) (iu : Nat) (sts : List Stmt) (g : Vars → Out) : Prop :=
  ∃ t, PSs X sts t ∧ ∀ σ H ρ Q H0 O0 O, RelD X.K own iu H0 O0 O σ H ρ → BOut X E H0 O0 Q (g ρ) → t { nx := fun _ H' => Q .non H', rt := Q } σ H
end
section
variable {X : Cx} {E : XK} {own : List Nat} {iu : Nat}
theorem BDX.cons {st : Stmt} {rest : List Stmt} {g h : Vars → Out} (a : DX X (WD E) own iu st g) (b : BDX X E own iu rest h) : BDX X E own iu (st :: rest) (sSeq g h) := by
  obtain ⟨t, p, ht⟩ := a
  obtain ⟨u, q, hu⟩ := b
  refine ⟨_, pss_cons p q, fun σ H ρ Q H0 O0 O r z => ht σ H ρ _ H0 O0 O r ?_⟩
  unfold sSeq at z
  cases e : g ρ with
  | nx ρ1 => rw [e] at z; exact fun σ1 H1 O1 r1 s1 => hu σ1 H1 ρ1 Q H0 O0 O1 r1 z
  | err c ρ' => rw [e] at z; exact fun σ' H' O' r' s' => z H' r'.same
  | rt d => rw [e] at z; exact z
  | bk _ => rw [e] at z; exact z.elim
  | ct _ => rw [e] at z; exact z.elim
  | bad => rw [e] at z; exact z.elim
theorem BDX.freeze {sts : List Stmt} {g : Vars → Out} {own' : List Nat} (b : BX X E own' sts g) (ho : (own'.all fun i => own.contains i) = true) : BDX X E own iu sts g := by
  obtain ⟨t, p, ht⟩ := b
  refine ⟨t, p, fun σ H ρ Q H0 O0 O r z => ?_⟩
  obtain ⟨O1, r1, _⟩ := r.freeze
  obtain ⟨O2, r2, _⟩ := r1.freeze (own' := own') (fun i hi => List.contains_iff_mem.mp (List.all_eq_true.mp ho i hi)) fun p hp => nomatch hp
  exact ht σ H ρ Q H0 O0 O2 r2 z
end
end Pu
set_option Elab.async false
set_option linter.all false
set_option maxRecDepth 100000
set_option maxHeartbeats 4000000
namespace Pu
open PySem PySem.Spec PyProof.Rows L2
section
variable (ρ : Vars)
@[simp] theorem u_sSetD (i : Nat) (f : Vars → R PyData) : sSetD i f ρ = (f ρ).run ρ fun d => if imm d = true then .nx (ρ.set i (some d)) else .bad := rfl
@[simp] theorem u_sForD (iu : Nat) (own : List Nat) (fi : Vars → R (List PyData)) (gt : PyData → Vars → Option Vars) (g : Vars → Out) : sForD iu own fi gt g ρ = (fi (mask (iu :: own) ρ)).run ρ fun ds => forL gt g ds ρ := rfl
end
section
variable {X : Cx} {W : WX} {tg : Expr}
end
theorem kitOne_no {K : PySem.W.Frag} {C CY : Addr} (hd : PySem.W.hasDictIn K CY = true) (ty : PySem.W.typeIn K (.ref CY) = some (.type "type")) (sb : PySem.W.subIn K (.ref C) (.ref CY) = some false) (sf : PySem.W.subIn K (.ref CY) (.ref CY) = some true) : PySem.W.kitOne K (.ref C) (.ref CY) = some false := by
  obtain ⟨cd, hc, _⟩ := PySem.W.any_some hd
  have ne : (Value.ref C == Value.ref CY) = false := by
    refine beq_eq_false_iff_ne.mpr fun e => ?_
    rw [e, sf] at sb
    cases sb
  unfold PySem.W.kitOne
  rw [ne, if_neg Bool.false_ne_true]
  show (if ((PySem.W.clsIn K CY).isSome && PySem.W.typeIn K (.ref CY) == some (.type "type")) = true then PySem.W.subIn K (.ref C) (.ref CY) else none) = some false
  have e2 : ((PySem.W.clsIn K CY).isSome && PySem.W.typeIn K (.ref CY) == some (.type "type")) = true := by rw [hc, ty] <;> rfl
  rw [if_pos e2]; exact sb
theorem kitY_consF {K : PySem.W.Frag} {mg : Str → Option Value} {c y : Str} {l : List (Str × Bool)} {C CY : Addr} (hc : mg c = some (.ref C)) (hy : mg y = some (.ref CY)) (E : ExcC K C) (h5 : PySem.W.hasDictIn K CY = true) (h6 : PySem.W.typeIn K (.ref CY) = some (.type "type")) (h7 : PySem.W.subIn K (.ref C) (.ref CY) = some false) (h8 : PySem.W.subIn K (.ref CY) (.ref CY) = some true) (r : KitY K mg y l) : KitY K mg y ((c, false) :: l) := by
  obtain ⟨CY', h', r'⟩ := r
  rw [hy] at h'
  cases h'
  exact ⟨CY, hy, kitL_cons hc E (kitOne_no h5 h6 h7 h8) r'⟩
end Pu
set_option Elab.async false
set_option linter.all false
set_option maxRecDepth 100000
set_option maxHeartbeats 4000000
namespace Pu
open PySem PySem.Spec PyProof.Rows L2
open PySem.AutoSeq1 (wpAny_loadPart')
end Pu
set_option Elab.async false
set_option linter.all false
set_option maxRecDepth 100000
set_option maxHeartbeats 4000000
namespace Pu
open PySem PySem.Spec PyProof.Rows L2 RT
section
variable {prog : Program} {w : World} {A : Around} {E : Value → Shared → Prop} {s : Shared}
end
end Pu
set_option Elab.async false
set_option linter.all false
set_option maxRecDepth 100000
set_option maxHeartbeats 4000000
namespace Pu
open PySem PySem.Spec PyProof.Rows L2
def newL : R PyData → R PyData
  | .ok (.list ds) => .ok (.list ds)
  | .ok _ => .bad
  | .err c => .err c
  | .bad => .bad
@[simp] theorem u_newL (ds : List PyData) : newL (.ok (.list ds)) = .ok (.list ds) := rfl
@[simp] theorem u_newL_e (c : Str) : newL (.err c) = .err c := rfl
def NpOut (K : PySem.W.Frag) (mg : Str → Option Value) (O : List Addr) (H : Hp) (Q : VK) (E : XK) : R PyData → Prop
  | .ok (.list ds) => ∀ p vs H', Same H H' → H p = Option.none → H' p = some (.lst vs) → Rps K (hide (p :: O) H') vs ds → Q (.ref p) H'
  | .ok _ => False
  | .err c => ∀ H', Same H H' → E (exV mg c) Option.none H'
  | .bad => False
def spN (K : PySem.W.Frag) (mg : Str → Option Value) (n : Nat) (f : List PyData → R PyData) : Sp := fun vs H Q E =>
  vs.length = n ∧ ∃ O ds, Stands O H ∧ Rps K (hide O H) vs ds ∧ NpOut K mg O H Q E (newL (f ds))
theorem spN_of {K : PySem.W.Frag} {mg : Str → Option Value} {n : Nat} {f : List PyData → R PyData} : ∀ vs H Q E, spD K mg n (fun ds => newL (f ds)) vs H Q E → spN K mg n f vs H Q E := fun vs H Q E ⟨hl, O, ds, hO, r, z⟩ => by
  refine ⟨hl, O, ds, hO, r, ?_⟩
  replace z : SpOut K mg O H Q E (newL (f ds)) := z
  cases e : newL (f ds) with
  | bad => rw [e] at z; exact z.elim
  | err c => rw [e] at z; exact z
  | ok d =>
    rw [e] at z
    cases d with
    | list xs =>
      intro p ys H' s hp hp' rs
      have np : p ∉ O := hO.new hp
      exact z (.ref p) H' s (.lst (.inl (.inl (hide_of np hp'))) (rs.mono (hide_less fun a ha => List.mem_cons_of_mem _ ha)))
    | _ => exfalso; revert e; cases f ds with
      | bad => intro e; cases e
      | err c => intro e; cases e
      | ok d => cases d <;> intro e <;> cases e
section
variable (X : Cx) (E : XK)
def NBOut (H0 : Hp) (O0 : List Addr) (Q : VK) : Out → Prop
  | .rt (.list ds) => ∀ p vs H', Same H0 H' → H0 p = Option.none → H' p = some (.lst vs) → Rps X.K (hide (p :: O0) H') vs ds → Q (.ref p) H'
  | .err c _ => ∀ H', Same H0 H' → E (exV X.mg c) Option.none H'
  | _ => False
def NBX (own : List Nat) (sts : List Stmt) (g : Vars → Out) : Prop :=
  ∃ t, PSs X sts t ∧ ∀ σ H ρ Q (H0 : Hp) O0 O, Rel X.K own ⟨H0, []⟩ O0 O σ H ρ → NBOut X E H0 O0 Q (g ρ) → t { nx := fun _ H' => Q .non H', rt := Q } σ H
end
def sSeqN (g h : Vars → Out) (ρ : Vars) : Out := match g ρ with
  | .nx ρ' => h ρ'
  | .err c ρ' => .err c ρ'
  | _ => .bad
@[simp] theorem u_sSeqN (g h : Vars → Out) (ρ : Vars) : sSeqN g h ρ = match g ρ with
  | .nx ρ' => h ρ'
  | .err c ρ' => .err c ρ'
  | _ => .bad := rfl
section
variable {X : Cx} {E : XK} {own : List Nat}
theorem NBX.cons {st : Stmt} {rest : List Stmt} {g h : Vars → Out} {own' : List Nat} (a : SX X (WD E) own st g) (b : NBX X E own' rest h) (ho : (own'.all fun i => own.contains i) = true) : NBX X E own (st :: rest) (sSeqN g h) := by
  obtain ⟨t, p, ht⟩ := a
  obtain ⟨u, q, hu⟩ := b
  refine ⟨_, pss_cons p q, fun σ H ρ Q H0 O0 O r z => ht σ H ρ _ ⟨H0, []⟩ O0 O r ?_⟩
  unfold sSeqN at z
  cases e : g ρ with
  | nx ρ1 =>
    rw [e] at z
    intro σ1 H1 O1 r1 s1
    obtain ⟨O2, r2, _⟩ := r1.freeze (own' := own') (fun i hi => List.contains_iff_mem.mp (List.all_eq_true.mp ho i hi)) fun p hp => nomatch hp
    exact hu σ1 H1 ρ1 Q H0 O0 O2 r2 z
  | rt d => rw [e] at z; exact z.elim
  | err c ρ' => rw [e] at z; exact fun σ' H' O' r' s' => z H' r'.same
  | bk _ => rw [e] at z; exact z.elim
  | ct _ => rw [e] at z; exact z.elim
  | bad => rw [e] at z; exact z.elim
theorem NBX.ret {i : Nat} {x : Str} {p0 pos : Pos} (hi : X.N[i]? = some x) (ho : own.contains i = true)
    (hv : Vis X.env.scope x := by first | exact Or.inl rfl | exact Or.inr (Or.inl rfl) | exact Or.inr (Or.inr rfl)) (hdn : (x == ("__debug__" : Str)) = false := by decide) (hcd : (x == ("__classdict__" : Str)) = false := by decide) :
    NBX X E own [.Return (some (.Name x p0)) pos] (sRet (eVar i)) := by
  refine ⟨_, pss_one (ps_ret (pe_var hi hv hdn hcd)), fun σ H ρ Q H0 O0 O r z => ?_⟩
  have hi' : i ∈ own := List.contains_iff_mem.mp ho
  unfold sRet eVar at z
  have e2 : ρ.getD i Option.none = (ρ[i]?).getD Option.none := by rw [List.getD_eq_getElem?_getD]
  rw [e2] at z
  cases e : ρ[i]? with
  | none => rw [e] at z; exact z.elim
  | some o =>
    cases o with
    | none => rw [e] at z; exact z.elim
    | some d =>
      rw [e] at z
      cases d <;> try exact z.elim
      rename_i ds
      obtain ⟨a, vs, h1, h2, h3, h4, h5⟩ := r.mineL hi' e
      refine ⟨.ref a, h1, ?_⟩
      exact z a vs H r.same h3 h4 (h5.mono (hide_less fun b hb => (List.mem_cons.mp hb).elim (fun e => e ▸ h2) (r.sub b)))
end
section
variable {P : Program} {w : World} {K : PySem.W.Frag} {mg : Str → Option Value} {base : Heap}
end
section
variable {X : Cx} {W : WX}
end
section
variable (X : Cx) (W : WX) (own : List Nat) (io : Nat)
def FOut (a : Addr) (vs : List V) (H0 : HB) (O0 O : List Addr) (H : Hp) (D : Ends) : Out → Prop
  | .nx ρ => ∀ σ' H' O', Rel X.K own H0 O0 O' σ' H' ρ → σ'[io]? = some (some (.ref a)) → H' a = some (.lst vs) → Same (hide O H) (hide O' H') → D.nx σ' H'
  | .rt d => RtW X.K H0 O0 (hide O H) D d
  | .bk ρ => ∀ σ' H' O', Rel X.K own H0 O0 O' σ' H' ρ → σ'[io]? = some (some (.ref a)) → H' a = some (.lst vs) → Same (hide O H) (hide O' H') → D.bk σ' H'
  | .ct ρ => ∀ σ' H' O', Rel X.K own H0 O0 O' σ' H' ρ → σ'[io]? = some (some (.ref a)) → H' a = some (.lst vs) → Same (hide O H) (hide O' H') → D.ct σ' H'
  | .err c ρ => ∀ σ' H' O', Rel X.K own H0 O0 O' σ' H' ρ → Same (hide O H) (hide O' H') → W (exV X.mg c) Option.none σ' H'
  | .bad => False
end
section
variable {X : Cx} {W : WX} {own : List Nat} {io : Nat}
theorem FOut.from {a : Addr} {vs : List V} {H0 : HB} {O0 O O' : List Addr} {H H' : Hp} {D : Ends} {o : Out} (h : FOut X W own io a vs H0 O0 O H D o) (s : Same (hide O H) (hide O' H')) : FOut X W own io a vs H0 O0 O' H' D o := by
  cases o with
  | nx ρ => exact fun σ' H'' O'' r h1 h2 s' => h σ' H'' O'' r h1 h2 (s.trans s')
  | rt d => exact RtW.from h s
  | bk ρ => exact fun σ' H'' O'' r h1 h2 s' => h σ' H'' O'' r h1 h2 (s.trans s')
  | ct ρ => exact fun σ' H'' O'' r h1 h2 s' => h σ' H'' O'' r h1 h2 (s.trans s')
  | err c ρ => exact fun σ' H'' O'' r s' => h σ' H'' O'' r (s.trans s')
  | bad => exact h
end
end Pu
set_option Elab.async false
set_option linter.all false
set_option maxRecDepth 100000
set_option maxHeartbeats 4000000
namespace Pu
open PySem PySem.Spec PyProof.Rows L2
def keyD : PyData → Option Key
  | .int i => some (.inl i)
  | .str x => some (.inr x)
  | _ => none
theorem keyD_kD (k : Key) : keyD (kD k) = some k := by cases k <;> rfl
theorem rp_key {K : PySem.W.Frag} {H : Hp} {v : V} {d : PyData} {k : Key} (r : Rp K H v d) (h : keyD d = some k) : v = kV k := by
  cases r with
  | int i => cases h; rfl
  | str x => cases h; rfl
  | _ => cases h
def valD (ds : List (PyData × PyData)) (k : Key) : Option PyData := (ds.find? fun p => decide (keyD p.1 = some k)).map (·.2)
def putD (ds : List (PyData × PyData)) (k : Key) (v : PyData) : List (PyData × PyData) :=
  if (ds.any fun p => decide (keyD p.1 = some k)) = true then ds.map (fun p => if keyD p.1 = some k then (p.1, v) else p) else ds ++ [(kD k, v)]
section
variable {K : PySem.W.Frag} {H : Hp}
theorem rpd_ins : ∀ {kvs : List (Key × V)} {ds : List (PyData × PyData)}, Rpd K H kvs ds → insB ds = false
  | _, _, .nil => rfl
  | _, _, @Rpd.cons _ _ k _ _ _ _ _ _ => by cases k <;> rfl
theorem Rpd.length : ∀ {kvs : List (Key × V)} {ds : List (PyData × PyData)}, Rpd K H kvs ds → kvs.length = ds.length
  | _, _, .nil => rfl
  | _, _, .cons _ r => congrArg Nat.succ r.length
theorem rpd_val (k : Key) : ∀ {kvs : List (Key × V)} {ds : List (PyData × PyData)}, Rpd K H kvs ds → (∃ v d, valV kvs k = some v ∧ valD ds k = some d ∧ Rp K H v d) ∨ (valV kvs k = none ∧ valD ds k = none)
  | _, _, .nil => .inr ⟨rfl, rfl⟩
  | _, _, @Rpd.cons _ _ j v vs d ds h r => by
    by_cases e : j = k
    · subst e
      exact .inl ⟨v, d, valV_pos rfl, by simp [valD, List.find?_cons, keyD_kD], h⟩
    · have e1 : valV ((j, v) :: vs) k = valV vs k := valV_neg (by exact e)
      have e2 : valD ((kD j, d) :: ds) k = valD ds k := by
        simp only [valD, List.find?_cons, keyD_kD]
        rw [decide_eq_false (by intro z; cases z; exact e rfl)]
      rw [e1, e2]
      exact rpd_val k r
theorem rpd_any (k : Key) : ∀ {kvs : List (Key × V)} {ds : List (PyData × PyData)}, Rpd K H kvs ds → (kvs.any fun kv => decide (kv.1 = k)) = (ds.any fun p => decide (keyD p.1 = some k))
  | _, _, .nil => rfl
  | _, _, @Rpd.cons _ _ j v vs d ds h r => by
    simp only [List.any_cons, keyD_kD, Option.some.injEq]
    rw [rpd_any k r]
theorem rpd_snoc {k : Key} {v : V} {d : PyData} (h : Rp K H v d) : ∀ {kvs : List (Key × V)} {ds : List (PyData × PyData)}, Rpd K H kvs ds → Rpd K H (kvs ++ [(k, v)]) (ds ++ [(kD k, d)])
  | _, _, .nil => .cons h .nil
  | _, _, .cons g r => .cons g (rpd_snoc h r)
theorem rpd_map {k : Key} {v : V} {d : PyData} (h : Rp K H v d) : ∀ {kvs : List (Key × V)} {ds : List (PyData × PyData)}, Rpd K H kvs ds → Rpd K H (kvs.map fun kv => if kv.1 = k then (kv.1, v) else kv) (ds.map fun p => if keyD p.1 = some k then (p.1, d) else p)
  | _, _, .nil => .nil
  | _, _, @Rpd.cons _ _ j w vs e ds g r => by
    rw [List.map_cons, List.map_cons]
    by_cases c : j = k
    · subst c
      rw [if_pos rfl, if_pos (keyD_kD j)]
      exact .cons h (rpd_map h r)
    · rw [if_neg c, if_neg (by rw [keyD_kD]; intro z; cases z; exact c rfl)]
      exact .cons g (rpd_map h r)
theorem rpd_put {k : Key} {v : V} {d : PyData} (h : Rp K H v d) {kvs : List (Key × V)} {ds : List (PyData × PyData)} (r : Rpd K H kvs ds) : Rpd K H (putK kvs k v) (putD ds k d) := by
  unfold putK putD
  rw [rpd_any k r]
  by_cases c : (ds.any fun p => decide (keyD p.1 = some k)) = true
  · rw [if_pos c, if_pos c]; exact rpd_map h r
  · rw [if_neg c, if_neg c]; exact rpd_snoc h r
theorem Rpd.get : ∀ {vs : List (Key × V)} {ds : List (PyData × PyData)} {i : Nat} {p : PyData × PyData}, Rpd K H vs ds → ds[i]? = some p → ∃ k v, vs[i]? = some (k, v) ∧ p.1 = kD k ∧ Rp K H v p.2
  | _, _, _, _, .nil, e => by simp at e
  | _, _, 0, _, .cons h _, e => by simp at e; subst e; exact ⟨_, _, rfl, rfl, h⟩
  | _, _, i + 1, _, .cons _ r, e => by
    obtain ⟨k, v, h1, h2⟩ := Rpd.get (i := i) r (by simpa using e)
    exact ⟨k, v, by simpa using h1, h2⟩
end
theorem rp_kV {K : PySem.W.Frag} {H : Hp} (k : Key) : Rp K H (kV k) (kD k) := by
  cases k with
  | inl i => exact .int i
  | inr x => exact .str x
def gDix (d k : PyData) : Option PyData := match d with
  | .dict ds => (keyD k).bind (valD ds)
  | _ => none
def gDget (ds : List (PyData × PyData)) (k x : PyData) : Option PyData := (keyD k).map fun k => (valD ds k).getD x
def gDin (k d : PyData) : Option PyData := match d with
  | .dict ds => if insB ds = true then none else (keyD k).map fun k => .bool (valD ds k).isSome
  | _ => none
def gDnin (k d : PyData) : Option PyData := match d with
  | .dict ds => if insB ds = true then none else (keyD k).map fun k => .bool (!(valD ds k).isSome)
  | _ => none
@[simp] def eDget (f k x : Vars → R PyData) (ρ : Vars) : R PyData := (f ρ).bind fun d => match d with
  | .dict ds => if insB ds = true then .bad else (k ρ).bind fun k => (x ρ).bind fun x => R.of (gDget ds k x)
  | _ => .bad
section
variable {X : Cx} {W : WX}
theorem dget_of {H H' : Hp} {O : List Addr} {a : Addr} {kvs : List (Key × V)} {k : Key} (h : Rd (hide O H) a (.dK kvs)) (s : Same H H') : DGet H' a (kV k) (valV kvs k) := .inl ⟨kvs, k, rd_mono s (rd_mono hide_sub h), rfl, rfl⟩
theorem ex_dix {a b : Expr} {f h : Vars → R PyData} {pos : Pos} (hu : X.A.units + 1 < cLine) (ha : EX X W a f) (hb : EX X W b h) (hs : NoSl b := by exact fun _ _ => rfl) : EX X W (.Subscript a b pos) (eOp gDix f h) := by
  obtain ⟨ta, p, hta⟩ := ha
  obtain ⟨tb, q, htb⟩ := hb
  refine ⟨_, pe_dget hu p q hs, fun σ H O ρ Q hO hv z => ?_⟩
  refine hta σ H O ρ _ hO hv (EOut.then (g := fun d => (h ρ).bind fun e => R.of (gDix d e)) EOut.b EOut.e z fun d v H1 s1 r1 z1 => ?_)
  refine htb σ H1 O ρ _ (hO.same s1) (hv.mono (hide_same s1)) (EOut.then (g := fun e => R.of (gDix d e)) EOut.b EOut.e (z1.from s1) fun e v2 H2 s2 r2 z2 => ?_)
  cases r1 with
  | dic hd rd =>
    replace z2 : EOut X W O σ H2 Q (R.of ((keyD e).bind (valD _))) := z2.from s2
    cases hk : keyD e with
    | none => rw [hk] at z2; exact z2.elim
    | some k =>
      rw [hk] at z2
      replace z2 : EOut X W O σ H2 Q (R.of (valD _ k)) := z2
      have ev := rp_key r2 hk
      subst ev
      rcases rpd_val k (rd.mono (hide_same s2)) with ⟨v, d, e1, e2, e3⟩ | ⟨e1, e2⟩
      · rw [e2] at z2
        refine ⟨_, v, rfl, ?_, z2 v H2 (Same.refl _) e3⟩
        rw [← e1]; exact dget_of hd s2
      · rw [e2] at z2; exact z2.elim
  | fn _ =>
    have : ∀ b : PyData, gDix (.dict [(.none, b)]) e = none := fun b => by show (keyD e).bind _ = none; cases keyD e <;> rfl
    rw [this] at z2; exact z2.elim
  | fn0 =>
    have : ∀ b : PyData, gDix (.dict [(.none, b)]) e = none := fun b => by show (keyD e).bind _ = none; cases keyD e <;> rfl
    rw [this] at z2; exact z2.elim
  | tpx =>
    have : ∀ b c : PyData, gDix (.dict [(.none, b), (.none, c)]) e = none := fun b c => by show (keyD e).bind _ = none; cases keyD e <;> rfl
    rw [this] at z2; exact z2.elim
  | dct =>
    have : ∀ b : PyData, gDix (.dict [(.none, b)]) e = none := fun b => by show (keyD e).bind _ = none; cases keyD e <;> rfl
    rw [this] at z2; exact z2.elim
  | ins =>
    have : ∀ b : PyData, gDix (.dict [(.none, b)]) e = none := fun b => by show (keyD e).bind _ = none; cases keyD e <;> rfl
    rw [this] at z2; exact z2.elim
  | _ => exact z2.elim
theorem ex_dget {o e f : Expr} {apos cpos : Pos} {g k x : Vars → R PyData} (hu : X.A.units + 1 < cLine) (ho : EX X W o g) (he : EX X W e k) (hf : EX X W f x) (m : M2 X o "get" apos e f cpos := by exact ⟨rfl, rfl, rfl, rfl⟩) : EX X W (.Call (.Attribute o "get" apos) [e, f] [] cpos) (eDget g k x) := by
  obtain ⟨ta, p, hta⟩ := ho
  obtain ⟨tb, q, htb⟩ := he
  obtain ⟨tc, r, htc⟩ := hf
  refine ⟨_, pe_dget2 hu p q r m, fun σ H O ρ Q hO hv z => ?_⟩
  refine hta σ H O ρ _ hO hv (EOut.then EOut.b EOut.e z fun d v H1 s1 r1 z1 => ?_)
  cases r1 with
  | dic hd rd =>
    have ei := rpd_ins rd
    dsimp only at z1
    rw [if_neg (by rw [ei]; exact Bool.false_ne_true)] at z1
    refine ⟨_, rfl, .inl ⟨_, rd_mono hide_sub hd⟩, ?_⟩
    refine htb σ H1 O ρ _ (hO.same s1) (hv.mono (hide_same s1)) (EOut.then EOut.b EOut.e (z1.from s1) fun e v2 H2 s2 r2 z2 => ?_)
    refine htc σ H2 O ρ _ ((hO.same s1).same s2) (hv.mono (hide_same (s1.trans s2))) (EOut.then EOut.b EOut.e (z2.from s2) fun y v3 H3 s3 r3 z3 => ?_)
    have s23 := s2.trans s3
    replace z3 : EOut X W O σ H3 Q (R.of ((keyD e).map fun k => (valD _ k).getD y)) := z3.from s3
    cases hk : keyD e with
    | none => rw [hk] at z3; exact z3.elim
    | some k =>
      rw [hk] at z3
      have ev := rp_key r2 hk
      subst ev
      refine ⟨_, dget_of hd s23, ?_⟩
      rcases rpd_val k (rd.mono (hide_same s23)) with ⟨v, d, e1, e2, e3⟩ | ⟨e1, e2⟩
      · replace z3 : EOut X W O σ H3 Q (.ok ((valD _ k).getD y)) := z3
        rw [e2] at z3
        rw [e1]; exact z3 v H3 (Same.refl _) e3
      · replace z3 : EOut X W O σ H3 Q (.ok ((valD _ k).getD y)) := z3
        rw [e2] at z3
        rw [e1]; exact z3 v3 H3 (Same.refl _) r3
  | _ => exact z1.elim
theorem din_run {f h : Vars → R PyData} {ta tb : TE} {bb : Bool → Bool} (hta : ∀ σ H O ρ Q, Stands O H → VRel X.K (hide O H) σ ρ → EOut X W O σ H Q (f ρ) → ta σ H Q) (htb : ∀ σ H O ρ Q, Stands O H → VRel X.K (hide O H) σ ρ → EOut X W O σ H Q (h ρ) → tb σ H Q)
    {σ : L2.St} {H : Hp} {O : List Addr} {ρ : Vars} {Q : VK} (hO : Stands O H) (hv : VRel X.K (hide O H) σ ρ) (g : PyData → PyData → Option PyData) (hg : ∀ k d, g k d = match d with
      | .dict ds => if insB ds = true then none else (keyD k).map fun k => .bool (bb (valD ds k).isSome)
      | _ => none) (z : EOut X W O σ H Q (eOp g f h ρ)) : ta σ H fun y H1 => tb σ H1 fun x H2 => ∃ a o, x = .ref a ∧ DGet H2 a y o ∧ Q (.bl (bb o.isSome)) H2 := by
  refine hta σ H O ρ _ hO hv (EOut.then (g := fun d => (h ρ).bind fun e => R.of (g d e)) EOut.b EOut.e z fun e v2 H1 s1 r2 z1 => ?_)
  refine htb σ H1 O ρ _ (hO.same s1) (hv.mono (hide_same s1)) (EOut.then (g := fun d => R.of (g e d)) EOut.b EOut.e (z1.from s1) fun d v H2 s2 r1 z2 => ?_)
  rw [hg] at z2
  cases r1 with
  | dic hd rd =>
    have ei := rpd_ins rd
    dsimp only at z2
    rw [if_neg (by rw [ei]; exact Bool.false_ne_true)] at z2
    cases hk : keyD e with
    | none => rw [hk] at z2; exact z2.elim
    | some k =>
      rw [hk] at z2
      have ev := rp_key (r2.mono (hide_same s2)) hk
      subst ev
      refine ⟨_, _, rfl, dget_of hd (Same.refl _), ?_⟩
      rcases rpd_val k rd with ⟨v, d, e1, e2, e3⟩ | ⟨e1, e2⟩
      · replace z2 : EOut X W O σ H1 Q (.ok (.bool (bb (valD _ k).isSome))) := z2
        rw [e2] at z2
        rw [e1]; exact z2 _ H2 s2 (.bl _)
      · replace z2 : EOut X W O σ H1 Q (.ok (.bool (bb (valD _ k).isSome))) := z2
        rw [e2] at z2
        rw [e1]; exact z2 _ H2 s2 (.bl _)
  | _ => exact z2.elim
theorem tx_in {op : CmpOp} {a b : Expr} {f h : Vars → R PyData} {ta tb : TE} {g : PyData → PyData → Option PyData} {pos : Pos} {t : TE} (p : PC X op a b t) (hm : behindInMarks op b = false) (ht : ∀ σ H O ρ Q, Stands O H → VRel X.K (hide O H) σ ρ → EOut X W O σ H Q (eOp g f h ρ) → t σ H Q) : TX X W (.Compare a [op] [b] pos) (tOf (eOp g f h)) := by
  refine ⟨_, pt_cmp p hm, fun σ H O ρ Q hO hv z => ht σ H O ρ _ hO hv (EOut.then TOut.b TOut.e z fun d v H1 s1 r1 z1 => ?_)⟩
  cases r1 with
  | bl b => exact ⟨b, rfl, z1 H1 s1⟩
  | _ => exact z1.elim
theorem tx_din {a b : Expr} {f h : Vars → R PyData} {pos : Pos} (hu : X.A.units + 1 < cLine) (ha : EX X W a f) (hb : EX X W b h) (hm : behindInMarks .In b = false := by first | rfl | with_unfolding_all rfl) : TX X W (.Compare a [.In] [b] pos) (tOf (eOp gDin f h)) := by
  obtain ⟨ta, p, hta⟩ := ha
  obtain ⟨tb, q, htb⟩ := hb
  exact tx_in (ta := ta) (tb := tb) (pc_din hu p q) hm fun σ H O ρ Q hO hv z => din_run (bb := fun b => b) hta htb hO hv gDin (fun _ _ => rfl) z
theorem tx_dnin {a b : Expr} {f h : Vars → R PyData} {pos : Pos} (hu : X.A.units + 1 < cLine) (ha : EX X W a f) (hb : EX X W b h) (hm : behindInMarks .NotIn b = false := by first | rfl | with_unfolding_all rfl) : TX X W (.Compare a [.NotIn] [b] pos) (tOf (eOp gDnin f h)) := by
  obtain ⟨ta, p, hta⟩ := ha
  obtain ⟨tb, q, htb⟩ := hb
  exact tx_in (ta := ta) (tb := tb) (pc_dnotin hu p q) hm fun σ H O ρ Q hO hv z => din_run (bb := fun b => !b) hta htb hO hv gDnin (fun _ _ => rfl) z
end
end Pu
set_option Elab.async false
set_option linter.all false
set_option maxRecDepth 100000
set_option maxHeartbeats 4000000
namespace Pu
open PySem PySem.Spec PyProof.Rows L2
def flatD (d e : PyData) : Bool := match d, e with
  | .none, .none => true
  | .bool a, .bool b => a == b
  | .int i, .int j => decide (i = j)
  | .str x, .str y => decide (x = y)
  | _, _ => false
def sameD (ks ls : List (PyData × PyData)) : Bool := decide (ks.length = ls.length) && ks.all fun p => match keyD p.1 with
  | some k => match valD ls k with
    | some e => flatD p.2 e
    | none => false
  | none => false
theorem flat_of {K : PySem.W.Frag} {H : Hp} {v w : V} {d e : PyData} (r : Rp K H v d) (r2 : Rp K H w e) (h : flatD d e = true) : v = w ∧ flatB v = true := by
  cases d <;> cases e <;> simp [flatD] at h
  · cases r; cases r2; exact ⟨rfl, rfl⟩
  · subst h; cases r; cases r2; exact ⟨rfl, rfl⟩
  · subst h; cases r; cases r2; exact ⟨rfl, rfl⟩
  · subst h; cases r; cases r2; exact ⟨rfl, rfl⟩
theorem same_of {K : PySem.W.Frag} {H : Hp} {ls : List (PyData × PyData)} {vl : List (Key × V)} (rl : Rpd K H vl ls) : ∀ {vk : List (Key × V)} {ks : List (PyData × PyData)}, Rpd K H vk ks → (ks.all fun p => match keyD p.1 with
  | some k => match valD ls k with
    | some e => flatD p.2 e
    | none => false
  | none => false) = true → ∀ p ∈ vk, valV vl p.1 = some p.2 ∧ flatB p.2 = true
  | _, _, .nil, _, p, hp => by cases hp
  | _, _, @Rpd.cons _ _ k v vs d ds h r, e, p, hp => by
    rw [List.all_cons, Bool.and_eq_true] at e
    rcases List.mem_cons.mp hp with z | z
    · subst z
      have e1 := e.1
      rw [keyD_kD] at e1
      rcases rpd_val k rl with ⟨w, d', h1, h2, h3⟩ | ⟨h1, h2⟩
      · dsimp only at e1
        rw [h2] at e1
        obtain ⟨z1, z2⟩ := flat_of h h3 e1
        exact ⟨by rw [h1, z1], z2⟩
      · dsimp only at e1
        rw [h2] at e1; cases e1
    · exact same_of rl r e.2 p z
section
variable {X : Cx} {W : WX} {own : List Nat}
def NVOut (X : Cx) (W : WX) (O : List Addr) (σ : L2.St) (H : Hp) (Q : VK) : R PyData → Prop
  | .ok d => ∀ p H', Same H H' → H p = none → OwnV X.K (hide (p :: O) H') H' p d → Q (.ref p) H'
  | .err c => ∀ H', Same H H' → W (exV X.mg c) none σ H'
  | .bad => False
def NVX (X : Cx) (W : WX) (e : Expr) (f : Vars → R PyData) : Prop :=
  ∃ t, PE X e t ∧ ∀ σ H O ρ (Q : VK), Stands O H → VRel X.K (hide O H) σ ρ → NVOut X W O σ H Q (f ρ) → t σ H Q
theorem nv_dict0 {pos : Pos} : NVX X W (.Dict [] [] pos) (eC (.dict [])) :=
  ⟨_, pe_dnewK, fun σ H O ρ Q hO hv z p hp => z p _ (same_new hp) hp (.inl ⟨[], upd_same, .nil⟩)⟩
def gDcopy (ds : List PyData) : Option PyData := match ds with
  | [.dict kvs] => if insB kvs = true then none else some (.dict kvs)
  | _ => none
theorem nv_dcopy {e : Expr} {f : Vars → R (List PyData)} {p pos : Pos} (hg : Gl X "dict") (hm : X.mg "dict" = none) (h : AX X W [e] f)
    (he : starEach [e] X.env = (false, eval e X.env) :: starEach [] X.env := by rfl) (hpl : (backTo pos (starEach [] X.env)).any (·.1) = false := by rfl) : NVX X W (.Call (.Name "dict" p) [e] [] pos) (eCall gDcopy f) := by
  obtain ⟨t, q, ht⟩ := h
  refine ⟨_, pe_callTy call_dictD hg hm (by decide +kernel) q (by decide) (by decide) he hpl, fun σ H O ρ Q hO hv z => ht σ H O ρ _ hO hv ?_⟩
  unfold eCall at z
  cases e1 : f ρ with
  | bad => rw [e1] at z; exact z
  | err c => rw [e1] at z; exact z
  | ok ds =>
    rw [e1, R.bind_ok] at z
    intro vs H1 s1 r1
    have : ∃ kvs, ds = [.dict kvs] ∧ insB kvs = false ∧ NVOut X W O σ H Q (.ok (.dict kvs)) := by
      unfold gDcopy at z
      split at z
      · rename_i kvs
        by_cases c : insB kvs = true
        · rw [if_pos c] at z; exact z.elim
        · rw [if_neg c] at z; exact ⟨kvs, rfl, by simpa using c, z⟩
      · exact z.elim
    obtain ⟨kvs, rfl, ei, z⟩ := this
    cases r1 with
    | cons hr hn =>
      cases hn
      cases hr with
      | dic hd rd =>
        refine ⟨_, _, rfl, rd_mono hide_sub hd, fun p hp => z p _ (s1.trans (same_new hp)) (s1.free hp) (.inl ⟨_, upd_same, rd.mono fun a o h => ?_⟩)⟩
        obtain ⟨c1, h1⟩ := hide_some h
        have n := ne_of_none h1 hp
        exact hide_of (fun z => (List.mem_cons.mp z).elim n c1) (by rw [upd_ne n]; exact h1)
      | ins => cases ei
      | fn _ => cases ei
      | fn0 => cases ei
      | dct => cases ei
      | tpx => cases ei
theorem NVX.ex {e : Expr} {f : Vars → R PyData} (h : NVX X W e f) : EX X W e f := by
  obtain ⟨t, p, ht⟩ := h
  refine ⟨t, p, fun σ H O ρ Q hO hv z => ht σ H O ρ Q hO hv ?_⟩
  cases e : f ρ with
  | ok d => rw [e] at z; exact fun p H' s hp ov => z _ H' s (ov.rp (hide_less fun a ha => List.mem_cons_of_mem _ ha) fun o ho => hide_of (hO.new hp) ho)
  | err c => rw [e] at z; exact z
  | bad => rw [e] at z; exact z
@[simp] def sNewV (own : List Nat) (i : Nat) (f : Vars → R PyData) (ρ : Vars) : Out := (f (mask own ρ)).run ρ fun d => .nx (ρ.set i (some d))
theorem sx_newV {i : Nat} {x : Str} {e : Expr} {f : Vars → R PyData} {pos' pos : Pos} (hN : X.N.Nodup) (hi : X.N[i]? = some x) (hx : Loc X.env.scope x) (h : NVX X W e f) (ho : own.contains i = true) (hs : swapsWith e (some (.Name x pos')) pos.line X.env = pure false := by rfl) (hf : X.fn x = true ∨ X.env.scope.names.lookup x = some .local := by first | exact .inl rfl | exact .inr rfl | assumption) (hni : own.contains (1000 + i) = false := by rfl) :
    SX X W own (.Assign [.Name x pos'] e pos) (sNewV own i f) := by
  obtain ⟨t, p, ht⟩ := h
  have hni' : 1000 + i ∉ own := fun z => by rw [List.contains_iff_mem.mpr z] at hni; cases hni
  have hi' : i ∈ own := List.contains_iff_mem.mp ho
  refine ⟨_, ps_set hN hi hx p hs hf, fun σ H ρ D H0 O0 O r z => ht σ H O _ _ r.stands r.vrelM ?_⟩
  unfold sNewV at z
  cases e : f (mask own ρ) with
  | bad => rw [e] at z; exact z
  | err c => rw [e] at z; exact fun H' s => z σ H' O (r.step s) (hide_same s)
  | ok d =>
    rw [e, R.run_ok] at z
    intro p H' s hp ov
    obtain ⟨r', sF⟩ := r.laidV hi' (r.notLent hni') s hp ov
    exact z _ H' _ r' sF
@[simp] def sDPutM (own : List Nat) (i : Nat) (f k : Vars → R PyData) (ρ : Vars) : Out := match ρ.getD i none with
  | some (.dict ds) => if insB ds = true then .bad else (f (mask own ρ)).run ρ fun d => (k (mask own ρ)).run ρ fun e => match keyD e with
    | some key => if ds.length < sizeLine then .nx (ρ.set i (some (.dict (putD ds key d)))) else .bad
    | none => .bad
  | _ => .bad
@[simp] def sDPut (i : Nat) (f k : Vars → R PyData) (ρ : Vars) : Out := match ρ.getD i none with
  | some (.dict ds) => if insB ds = true then .bad else (f ρ).run ρ fun d => (k ρ).run ρ fun e => match keyD e with
    | some key => if (decide (ds.length < sizeLine) && imm d) = true then .nx (ρ.set i (some (.dict (putD ds key d)))) else .bad
    | none => .bad
  | _ => .bad
theorem own_dict' {i : Nat} (hi : i ∈ own) {H0 : HB} {O0 O : List Addr} {σ : L2.St} {H : Hp} {ρ : Vars} {ds : List (PyData × PyData)} (r : Rel X.K own H0 O0 O σ H ρ) (e : ρ.getD i none = some (.dict ds)) (ei : insB ds = false) : ∃ a kvs, σ[i]? = some (some (.ref a)) ∧ a ∈ O ∧ H0 a = none ∧ H a = some (.dK kvs) ∧ Rpd X.K (hide O H) kvs ds := by
  obtain ⟨a, h1, h2, h3, h⟩ := r.mine i _ hi (getD_some e)
  rcases h with ⟨kvs, h4, h5⟩ | ⟨ts, es, z, _⟩
  case inr => subst z; cases ei
  exact ⟨a, kvs, h1, h2, h3, h4, h5⟩
theorem sx_dputM {i : Nat} {x : Str} {e j : Expr} {f k : Vars → R PyData} {p pos' pos : Pos} (hu : X.A.units + 1 < cLine) (hf : EX X W e f) (hk : EX X W j k) (ho : own.contains i = true) (hN : X.N[i]? = some x := by rfl)
    (hs : swapsWith e (some (.Subscript (.Name x p) j pos')) pos.line X.env = pure false := by rfl)
    (hv : Vis X.env.scope x := by first | exact Or.inl rfl | exact Or.inr (Or.inl rfl) | exact Or.inr (Or.inr rfl)) (hdn : (x == ("__debug__" : Str)) = false := by decide) (hcd : (x == ("__classdict__" : Str)) = false := by decide) :
    SX X W own (.Assign [.Subscript (.Name x p) j pos'] e pos) (sDPutM own i f k) := by
  obtain ⟨t, q, ht⟩ := hf
  obtain ⟨u, q2, hu2⟩ := hk
  have hi : i ∈ own := List.contains_iff_mem.mp ho
  refine ⟨_, ps_dput hu (pe_var hN hv hdn hcd) q2 q hs, fun σ H ρ D H0 O0 O r z => ?_⟩
  unfold sDPutM at z
  cases e1 : ρ.getD i none with
  | none => rw [e1] at z; exact z.elim
  | some dd =>
    rw [e1] at z
    cases dd with
    | dict ds =>
      dsimp only at z
      by_cases ib : insB ds = true
      · rw [if_pos ib] at z; exact z.elim
      rw [if_neg ib] at z
      refine ht σ H O _ _ r.stands r.vrelM (EOut.run r z fun d v H1 s1 rv z1 r1 => ?_)
      obtain ⟨a, kvs, g1, g2, g3, g4, g5⟩ := own_dict' hi r1 e1 (by simpa using ib)
      refine ⟨.ref a, g1, hu2 σ H1 O _ _ r1.stands r1.vrelM (EOut.run r1 z1 fun e w H2 s2 rw' z2 r2 => ?_)⟩
      cases hk : keyD e with
      | none => rw [hk] at z2; exact z2.elim
      | some key =>
        rw [hk] at z2
        have ev := rp_key rw' hk
        subst ev
        dsimp only at z2
        by_cases c : ds.length < sizeLine
        · rw [if_pos c] at z2
          have g5' := g5.mono (hide_same s2)
          obtain ⟨r3, sF⟩ := r2.writeV (ob := .dK (putK kvs key v)) (de := .dict (putD ds key d)) hi (getD_some e1) g1 g2 g3 (.inl ⟨_, upd_same, rpd_put (rv.mono (hide_same s2)) g5'⟩)
          exact ⟨a, _, rfl, DPut.k (s2 _ _ g4) (by rw [g5.length]; exact c), z2 σ _ O r3 sF⟩
        · rw [if_neg c] at z2; exact z2.elim
    | _ => exact z.elim
theorem sx_dput {i : Nat} {x : Str} {e j : Expr} {f k : Vars → R PyData} {p pos' pos : Pos} (hu : X.A.units + 1 < cLine) (hf : EX X W e f) (hk : EX X W j k) (ho : own.contains i = true) (hN : X.N[i]? = some x := by rfl)
    (hs : swapsWith e (some (.Subscript (.Name x p) j pos')) pos.line X.env = pure false := by rfl)
    (hv : Vis X.env.scope x := by first | exact Or.inl rfl | exact Or.inr (Or.inl rfl) | exact Or.inr (Or.inr rfl)) (hdn : (x == ("__debug__" : Str)) = false := by decide) (hcd : (x == ("__classdict__" : Str)) = false := by decide) :
    SX X W own (.Assign [.Subscript (.Name x p) j pos'] e pos) (sDPut i f k) := by
  obtain ⟨t, q, ht⟩ := hf
  obtain ⟨u, q2, hu2⟩ := hk
  have hi : i ∈ own := List.contains_iff_mem.mp ho
  refine ⟨_, ps_dput hu (pe_var hN hv hdn hcd) q2 q hs, fun σ H ρ D H0 O0 O r z => ?_⟩
  unfold sDPut at z
  cases e1 : ρ.getD i none with
  | none => rw [e1] at z; exact z.elim
  | some dd =>
    rw [e1] at z
    cases dd with
    | dict ds =>
      dsimp only at z
      by_cases ib : insB ds = true
      · rw [if_pos ib] at z; exact z.elim
      rw [if_neg ib] at z
      refine ht σ H O0 _ _ r.stands0 r.vrel0 (EOut.run r z fun d v H1 s1 rv z1 r1 => ?_)
      obtain ⟨a, kvs, g1, g2, g3, g4, g5⟩ := own_dict' hi r1 e1 (by simpa using ib)
      refine ⟨.ref a, g1, hu2 σ H1 O0 _ _ r1.stands0 r1.vrel0 (EOut.run r1 z1 fun e w H2 s2 rw' z2 r2 => ?_)⟩
      cases hk : keyD e with
      | none => rw [hk] at z2; exact z2.elim
      | some key =>
        rw [hk] at z2
        have ev := rp_key rw' hk
        subst ev
        dsimp only at z2
        by_cases c : (decide (ds.length < sizeLine) && imm d) = true
        · rw [if_pos c] at z2
          rw [Bool.and_eq_true] at c
          have g5' := g5.mono (hide_same s2)
          have rO := r1.imm rv c.2
          obtain ⟨r3, sF⟩ := r2.writeV (ob := .dK (putK kvs key v)) (de := .dict (putD ds key d)) hi (getD_some e1) g1 g2 g3 (.inl ⟨_, upd_same, rpd_put (rO.mono (hide_same s2)) g5'⟩)
          exact ⟨a, _, rfl, DPut.k (s2 _ _ g4) (by rw [g5.length]; exact of_decide_eq_true c.1), z2 σ _ O r3 sF⟩
        · rw [if_neg c] at z2; exact z2.elim
    | _ => exact z.elim
end
end Pu
set_option Elab.async false
set_option linter.all false
set_option maxRecDepth 100000
set_option maxHeartbeats 4000000
namespace Pu
open PySem PySem.Spec PyProof.Rows L2
def Sl (o o' : HO) : Prop := o' = o ∨ ∃ kvs od, (o = .dK kvs ∧ o' = .frz od (.dK kvs)) ∨ (o = .frz od (.dK kvs) ∧ o' = .dK kvs)
def SameL (H H' : Hp) : Prop := ∀ a o, H a = some o → ∃ o', H' a = some o' ∧ Sl o o'
theorem Same.l {H H' : Hp} (s : Same H H') : SameL H H' := fun a o h => ⟨o, s a o h, .inl rfl⟩
section
variable {K : PySem.W.Frag} {H H' : Hp} {a : Addr}
theorem SameL.at_ (s : SameL H H') {o : HO} (h : H a = some o) (h1 : ∀ kvs, o ≠ .dK kvs) (h2 : ∀ od kvs, o ≠ .frz od (.dK kvs)) : H' a = some o := by
  obtain ⟨o', e, z⟩ := s a o h
  rcases z with z | ⟨kvs, od, ⟨z, _⟩ | ⟨z, _⟩⟩
  · rw [e, z]
  · exact absurd z (h1 _)
  · exact absurd z (h2 _ _)
theorem SameL.rdN (s : SameL H H') {u : HO} (h : Rd H a u) (h1 : ∀ kvs, u ≠ .dK kvs) (h2 : ∀ od kvs, u ≠ .frz od (.dK kvs)) : Rd H' a u := by
  rcases h with h | ⟨o, h⟩
  · exact .inl (s.at_ h h1 h2)
  · exact .inr ⟨o, s.at_ h (fun _ z => by cases z) fun od kvs z => by cases z; exact h1 _ rfl⟩
theorem SameL.rdD (s : SameL H H') {kvs : List (Key × V)} (h : Rd H a (.dK kvs)) : Rd H' a (.dK kvs) := by
  rcases h with h | ⟨o, h⟩
  · obtain ⟨o', e, z⟩ := s a _ h
    rcases z with z | ⟨kvs', od, ⟨z, z2⟩ | ⟨z, _⟩⟩
    · subst z; exact .inl e
    · cases z; subst z2; exact .inr ⟨od, e⟩
    · cases z
  · obtain ⟨o', e, z⟩ := s a _ h
    rcases z with z | ⟨kvs', od, ⟨z, _⟩ | ⟨z, z2⟩⟩
    · subst z; exact .inr ⟨o, e⟩
    · cases z
    · cases z; subst z2; exact .inl e
theorem SameL.seqL (s : SameL H H') {xs : List V} (h : SqL K H a xs) : SqL K H' a xs := by
  rcases h with h | h
  · exact .inl (s.rdN h (fun _ z => by cases z) (fun _ _ z => by cases z))
  · exact .inr h
theorem SameL.seqT (s : SameL H H') {xs : List V} (h : SqT K H a xs) : SqT K H' a xs := by
  rcases h with h | h
  · exact .inl (s.rdN h (fun _ z => by cases z) (fun _ _ z => by cases z))
  · exact .inr h
mutual
theorem Rp.lk (s : SameL H H') : ∀ {v : V} {d : PyData}, Rp K H v d → Rp K H' v d
  | _, _, .non => .non
  | _, _, .bl b => .bl b
  | _, _, .int i => .int i
  | _, _, .str x => .str x
  | _, _, .lst h r => .lst (s.seqL h) (Rps.lk s r)
  | _, _, .tup h r => .tup (s.seqT h) (Rps.lk s r)
  | _, _, .dic h r => .dic (s.rdD h) (Rpd.lk s r)
  | _, _, .ins h o c r => .ins (s.at_ h (fun _ z => by cases z) (fun _ _ z => by cases z)) (s.at_ o (fun _ z => by cases z) (fun _ _ z => by cases z)) c (Rpd.lk s r)
  | _, _, .fn h r => .fn (s.at_ h (fun _ z => by cases z) (fun _ _ z => by cases z)) (Rp.lk s r)
  | _, _, .fn0 h => .fn0 (s.at_ h (fun _ z => by cases z) (fun _ _ z => by cases z))
  | _, _, .tpx h r => .tpx (s.at_ h (fun _ z => by cases z) (fun _ _ z => by cases z)) (Rps.lk s r)
  | _, _, .dct h r => .dct (s.rdN h (fun _ z => by cases z) (fun _ _ z => by cases z)) (RpT.lk s r)
theorem Rps.lk (s : SameL H H') : ∀ {vs : List V} {ds : List PyData}, Rps K H vs ds → Rps K H' vs ds
  | _, _, .nil => .nil
  | _, _, .cons h r => .cons (Rp.lk s h) (Rps.lk s r)
theorem Rpd.lk (s : SameL H H') : ∀ {vs : List (Key × V)} {ds : List (PyData × PyData)}, Rpd K H vs ds → Rpd K H' vs ds
  | _, _, .nil => .nil
  | _, _, .cons h r => .cons (Rp.lk s h) (Rpd.lk s r)
theorem RpT.lk (s : SameL H H') : ∀ {vs : List (List Key × V)} {ds : List (PyData × PyData)}, RpT K H vs ds → RpT K H' vs ds
  | _, _, .nil => .nil
  | _, _, .cons h r => .cons (Rp.lk s h) (RpT.lk s r)
end
theorem OwnV.lk {F F' : Hp} {d : PyData} (h : OwnV K F H a d) (s : SameL F F') (e : ∀ o, H a = some o → H' a = some o) : OwnV K F' H' a d := by
  cases d with
  | list ds => obtain ⟨vs, h1, h2⟩ := h; exact ⟨vs, e _ h1, h2.lk s⟩
  | dict ds => exact h.imp (fun ⟨vs, h1, h2⟩ => ⟨vs, e _ h1, h2.lk s⟩) (fun ⟨ts, es, z, h1, h2⟩ => ⟨ts, es, z, e _ h1, h2.lk s⟩)
  | _ => exact h.elim
end
theorem for_core {X : Cx} {W : WX} {own : List Nat} {js : List Nat} {gt : PyData → Vars → Option Vars} {g : Vars → Out} {tgt : TG} {tb : TS} {J : It} {ds : List PyData} (ok : GtOk js gt) (hj : ∀ j ∈ js, j ∉ own) (hin : GtIn js gt)
    (hgt : ∀ v d σ H O ρ ρ' Q, Stands O H → VRel X.K (hide O H) σ ρ → Rp X.K (hide O H) v d → gt d ρ = some ρ' → (∀ σ', VRel X.K (hide O H) σ' ρ' → σ'.length = σ.length → (∀ j : Nat, j ∉ js → σ'[j]? = σ[j]? ∧ ρ'[j]? = ρ[j]?) → Q σ' H) → tgt v σ H Q)
    (htb : ∀ σ H ρ D H0 O0 O, Rel X.K own H0 O0 O σ H ρ → SOut X W own H0 O0 O H D (g ρ) → tb D σ H) {H0 : HB} {O0 O : List Addr} {σ : L2.St} {H1 : Hp} {ρ : Vars} {D : Ends} (r : Rel X.K own H0 O0 O σ H1 ρ)
    (hJ : ∀ i H2 O2 σ2 ρ2, Rel X.K own H0 O0 O2 σ2 H2 ρ2 → Same (hide O H1) (hide O2 H2) → (∀ d, ds[i]? = some d → J.go i H2 ∧ ∀ x H', J.yld i H2 x H' → Same H2 H' ∧ Rp X.K (hide O2 H') x d) ∧ (ds.length ≤ i → J.stop i H2))
    (z : SOut X W own H0 O0 O H1 D (forL gt g ds ρ)) :
    ∃ W : Nat → Nat → L2.St → Hp → Prop, (∃ m, W 0 m σ H1) ∧ ∀ i m σ H, W i m σ H →
  (J.stop i H ∧ D.nx σ H) ∨ (J.go i H ∧ ∃ N : L2.St → Hp → Prop, (∀ σ' H', N σ' H' → ∃ m', m' < m ∧ W (i + 1) m' σ' H') ∧ ∀ x H', J.yld i H x H' → tgt x σ H' fun σ2 H2 => tb { D with nx := N, ct := N, bk := D.nx } σ2 H2) := by
    refine ⟨fun i m σ2 H2 => m = ds.length - i ∧ i ≤ ds.length ∧ ∃ O2 ρ2, Rel X.K own H0 O0 O2 σ2 H2 ρ2 ∧ Same (hide O H1) (hide O2 H2) ∧ SOut X W own H0 O0 O2 H2 D (forL gt g (ds.drop i) ρ2), ⟨ds.length, rfl, Nat.zero_le _, O, ρ, r, Same.refl _, z⟩, ?_⟩
    rintro i m σ2 H2 ⟨rfl, hle, O2, ρ2, r2, sF, z2⟩
    obtain ⟨j1, j2⟩ := hJ i H2 O2 σ2 ρ2 r2 sF
    by_cases hlt : i < ds.length
    · have hd : ds[i]? = some ds[i] := List.getElem?_eq_getElem hlt
      obtain ⟨g1, g2⟩ := j1 _ hd
      have hdrop : ds.drop i = ds[i] :: ds.drop (i + 1) := List.drop_eq_getElem_cons hlt
      rw [hdrop] at z2
      unfold forL at z2
      cases eg : gt ds[i] ρ2 with
      | none => rw [eg] at z2; exact z2.elim
      | some ρ3 =>
        rw [eg] at z2
        dsimp only at z2
        refine .inr ⟨g1, fun σ' H' => (i + 1 ≤ ds.length ∧ ∃ O2 ρ2, Rel X.K own H0 O0 O2 σ' H' ρ2 ∧ Same (hide O H1) (hide O2 H') ∧ SOut X W own H0 O0 O2 H' D (forL gt g (ds.drop (i + 1)) ρ2)),
          fun σ' H' hn => ⟨ds.length - (i + 1), by omega, rfl, hn.1, hn.2⟩, fun x H3 y => ?_⟩
        obtain ⟨s23, rx⟩ := g2 x H3 y
        have r3 := r2.step s23
        refine hgt x ds[i] σ2 H3 O2 (mask own ρ2) (mask own ρ3) _ r3.stands r3.vrelM rx (ok.msk own _ ρ2 ρ3 hj eg) fun σ3 v3 l3 f3 => ?_
        have r4 : Rel X.K own H0 O0 O2 σ3 H3 ρ3 := other_of ok hj r3 eg v3 l3 f3 (hin.out _ ρ2 ρ3 eg)
        have sF3 : Same (hide O H1) (hide O2 H3) := sF.trans (hide_same s23)
        refine htb σ3 H3 ρ3 _ H0 O0 O2 r4 ?_
        cases eb : g ρ3 with
        | nx ρ4 =>
          rw [eb] at z2
          exact fun σ5 H5 O5 r5 s5 => ⟨hlt, O5, ρ4, r5, sF3.trans s5, SOut.from z2 ((hide_same s23).trans s5)⟩
        | ct ρ4 =>
          rw [eb] at z2
          exact fun σ5 H5 O5 r5 s5 => ⟨hlt, O5, ρ4, r5, sF3.trans s5, SOut.from z2 ((hide_same s23).trans s5)⟩
        | bk ρ4 =>
          rw [eb] at z2
          exact fun σ5 H5 O5 r5 s5 => z2 σ5 H5 O5 r5 ((hide_same s23).trans s5)
        | rt d => rw [eb] at z2; exact RtW.from z2 (hide_same s23)
        | err c ρ4 =>
          rw [eb] at z2
          exact fun σ5 H5 O5 r5 s5 => z2 σ5 H5 O5 r5 ((hide_same s23).trans s5)
        | bad => rw [eb] at z2; exact z2
    · have e3 : i = ds.length := by omega
      subst e3
      refine .inl ⟨j2 (Nat.le_refl _), ?_⟩
      rw [List.drop_length] at z2
      exact z2 σ2 H2 O2 r2 (Same.refl _)
def itI (p : PyData × PyData) : PyData := .tuple [p.1, p.2]
def itV (p : PyData × PyData) : PyData := p.2
structure DWalk (K : PySem.W.Frag) (J : Addr → Obj → List (Key × V) → It) (it : PyData × PyData → PyData) : Prop where
  step : ∀ {d o kvs ds i F H O}, Rpd K F kvs ds → H d = some (.frz o (.dK kvs)) → Stands O H → Same F (hide O H) → (∀ e, (ds.map it)[i]? = some e → (J d o kvs).go i H ∧ ∀ x H', (J d o kvs).yld i H x H' → Same H H' ∧ Rp K (hide O H') x e) ∧ ((ds.map it).length ≤ i → (J d o kvs).stop i H)
theorem walkI {K : PySem.W.Frag} : DWalk K Iti itI := ⟨fun {d o kvs ds i F H O} r h hO s => by
  refine ⟨fun e he => ?_, fun l => ⟨h, by rw [List.length_map] at l; rw [r.length]; exact l⟩⟩
  rw [List.getElem?_map] at he
  obtain ⟨p, hp, rfl⟩ := Option.map_eq_some_iff.mp he
  obtain ⟨k, v, e1, e2, e3⟩ := r.get hp
  refine ⟨⟨h, (List.getElem?_eq_some_iff.mp e1).1⟩, fun x H' y => ?_⟩
  obtain ⟨T, k', v', f1, rfl, f3, rfl⟩ := y
  rw [e1] at f1
  cases f1
  refine ⟨same_new f3, new_rep hO f3 ?_⟩
  rw [e2]
  exact .cons (rp_kV k) (.cons (e3.mono s) .nil)⟩
theorem walkV {K : PySem.W.Frag} : DWalk K Itd itV := ⟨fun {d o kvs ds i F H O} r h hO s => by
  refine ⟨fun e he => ?_, fun l => ⟨h, by rw [List.length_map] at l; rw [r.length]; exact l⟩⟩
  rw [List.getElem?_map] at he
  obtain ⟨p, hp, rfl⟩ := Option.map_eq_some_iff.mp he
  obtain ⟨k, v, e1, e2, e3⟩ := r.get hp
  refine ⟨⟨h, (List.getElem?_eq_some_iff.mp e1).1⟩, fun x H' y => ?_⟩
  obtain ⟨rfl, k', f1⟩ := y
  rw [e1] at f1
  cases f1
  exact ⟨Same.refl _, e3.mono s⟩⟩
def tWalk (J : Addr → Obj → List (Key × V) → It) (td : TE) : TI := fun σ H R => td σ H fun x H1 => ∃ d o kvs, x = .ref d ∧ H1 d = some (.frz o (.dK kvs)) ∧ R (J d o kvs) H1
theorem hide_upd {O : List Addr} {H : Hp} {a : Addr} {o : HO} (ha : a ∈ O) : hide O (upd H a o) = hide O H := by
  funext b
  unfold hide
  by_cases c : b ∈ O
  · rw [if_pos c, if_pos c]
  · rw [if_neg c, if_neg c, upd_ne (fun z => c (by rw [z]; exact ha))]
section
variable {K : PySem.W.Frag} {own : List Nat} {H0 : HB} {O0 O : List Addr} {σ : L2.St} {H : Hp} {ρ : Vars}
end
end Pu
set_option Elab.async false
set_option linter.all false
set_option maxRecDepth 100000
set_option maxHeartbeats 4000000
namespace Pu
open PySem PySem.Spec PyProof.Rows L2
def lkB (H0 : HB) (a : Addr) (o : HO) : HB := ⟨fun b => if b = a then (match H0 a with
  | Option.none => Option.none
  | some _ => some o) else H0 b, H0.b⟩
theorem lkB_ne {H0 : HB} {a b : Addr} {o : HO} (n : b ≠ a) : lkB H0 a o b = H0 b := if_neg n
theorem lkB_at {H0 : HB} {a : Addr} {o u : HO} (h : H0 a = some u) : lkB H0 a o a = some o := by
  show (if a = a then _ else _) = _
  rw [if_pos rfl, h]
theorem lkB_no {H0 : HB} {a b : Addr} {o : HO} (h : H0 b = Option.none) : lkB H0 a o b = Option.none := by
  by_cases c : b = a
  · subst c
    show (if b = b then _ else _) = _
    rw [if_pos rfl, h]
  · rw [lkB_ne c]; exact h
theorem lkB_none {H0 : HB} {a b : Addr} {o : HO} (h : lkB H0 a o b = Option.none) : H0 b = Option.none := by
  by_cases c : b = a
  · subst c
    cases e : H0 b with
    | none => rfl
    | some u => rw [lkB_at e] at h; cases h
  · rw [lkB_ne c] at h; exact h
theorem lk_same {H : Hp} {a : Addr} {kvs : List (Key × V)} {od : Obj} (h : H a = some (.dK kvs)) : SameL H (upd H a (.frz od (.dK kvs))) := fun b o e => by
  by_cases c : b = a
  · subst c
    rw [h] at e; cases e
    exact ⟨_, upd_same, .inr ⟨kvs, od, .inl ⟨rfl, rfl⟩⟩⟩
  · exact ⟨o, by rw [upd_ne c]; exact e, .inl rfl⟩
theorem ulk_same {H : Hp} {a : Addr} {kvs : List (Key × V)} {od : Obj} (h : H a = some (.frz od (.dK kvs))) : SameL H (upd H a (.dK kvs)) := fun b o e => by
  by_cases c : b = a
  · subst c
    rw [h] at e; cases e
    exact ⟨_, upd_same, .inr ⟨kvs, od, .inr ⟨rfl, rfl⟩⟩⟩
  · exact ⟨o, by rw [upd_ne c]; exact e, .inl rfl⟩
theorem SameL.hide {O : List Addr} {H H' : Hp} (s : SameL H H') : SameL (hide O H) (hide O H') := fun a o h => by
  obtain ⟨c, e⟩ := hide_some h
  obtain ⟨o', e', z⟩ := s a o e
  exact ⟨o', hide_of c e', z⟩
section
variable {K : PySem.W.Frag} {own : List Nat} {H0 : HB} {O0 O : List Addr} {σ : L2.St} {H : Hp} {ρ : Vars} {a : Addr} {kvs : List (Key × V)} {od : Obj}
theorem Rel.lockP (r : Rel K own H0 O0 O σ H ρ) (na : a ∉ O) (h : H a = some (.dK kvs)) : Rel K own (lkB H0 a (.frz od (.dK kvs))) O0 O σ (upd H a (.frz od (.dK kvs))) ρ where
  same := fun b o e => by
    by_cases c : b = a
    · subst c
      rw [upd_same]
      cases q : H0 b with
      | none => rw [show (lkB H0 b _).h b = Option.none from lkB_no q] at e; cases e
      | some u => rw [show (lkB H0 b _).h b = _ from lkB_at q] at e; exact e
    · rw [upd_ne c]
      exact r.same b o (by rw [← lkB_ne c]; exact e)
  st0 := fun b hb => by
    obtain ⟨ob, q1, q2⟩ := r.st0 b hb
    have nb : b ≠ a := fun z => na (by rw [← z]; exact r.sub b hb)
    exact ⟨ob, by show lkB H0 a _ b = _; rw [lkB_ne nb]; exact q1, q2⟩
  len := r.len
  sub := r.sub
  lists := fun b hb => (r.lists b hb).imp id fun ⟨h1, o, h2, h3⟩ => ⟨lkB_no h1, o, by rw [upd_ne (show b ≠ a from fun z => na (by rw [← z]; exact hb))]; exact h2, h3⟩
  free := fun i d c e => by
    obtain ⟨v, h1, h2⟩ := r.free i d c e
    exact ⟨v, h1, h2.lk (lk_same h).hide⟩
  mine := fun i d c e => by
    obtain ⟨b, h1, h2, h3, h4⟩ := r.mine i d c e
    exact ⟨b, h1, h2, lkB_no h3, h4.lk (lk_same h).hide fun o ho => by rw [upd_ne (show b ≠ a from fun z => na (by rw [← z]; exact h2))]; exact ho⟩
  apart := r.apart
  bor := r.bor
  bord := r.bord
  mark := r.mark
theorem Rel.unlockP (r : Rel K own (lkB H0 a (.frz od (.dK kvs))) O0 O σ H ρ) (na : a ∉ O) (h : H a = some (.frz od (.dK kvs))) (h0 : ∀ u, H0 a = some u → u = .dK kvs) : Rel K own H0 O0 O σ (upd H a (.dK kvs)) ρ where
  same := fun b o e => by
    by_cases c : b = a
    · subst c
      rw [upd_same, h0 o e]
    · rw [upd_ne c]
      exact r.same b o (by show lkB H0 a _ b = _; rw [lkB_ne c]; exact e)
  st0 := fun b hb => by
    obtain ⟨ob, q1, q2⟩ := r.st0 b hb
    have q3 : lkB H0 a (.frz od (.dK kvs)) b = some ob := q1
    have nb : b ≠ a := fun z => na (by rw [← z]; exact r.sub b hb)
    rw [lkB_ne nb] at q3
    exact ⟨ob, q3, q2⟩
  len := r.len
  sub := r.sub
  lists := fun b hb => (r.lists b hb).imp id fun ⟨h1, o, h2, h3⟩ => ⟨lkB_none h1, o, by rw [upd_ne (show b ≠ a from fun z => na (by rw [← z]; exact hb))]; exact h2, h3⟩
  free := fun i d c e => by
    obtain ⟨v, h1, h2⟩ := r.free i d c e
    exact ⟨v, h1, h2.lk (ulk_same h).hide⟩
  mine := fun i d c e => by
    obtain ⟨b, h1, h2, h3, h4⟩ := r.mine i d c e
    exact ⟨b, h1, h2, lkB_none h3, h4.lk (ulk_same h).hide fun o ho => by rw [upd_ne (show b ≠ a from fun z => na (by rw [← z]; exact h2))]; exact ho⟩
  apart := r.apart
  bor := r.bor
  bord := r.bord
  mark := r.mark
end
theorem same_unlock {O O' : List Addr} {H H' : Hp} {a : Addr} {kvs : List (Key × V)} {od : Obj} (na : a ∉ O) (h : H a = some (.dK kvs)) (s : Same (hide O (upd H a (.frz od (.dK kvs)))) (hide O' H')) : a ∉ O' ∧ H' a = some (.frz od (.dK kvs)) ∧ Same (hide O H) (hide O' (upd H' a (.dK kvs))) := by
  have e := s a _ (hide_of na (upd_same (H := H) (a := a) (o := .frz od (.dK kvs))))
  obtain ⟨n, e'⟩ := hide_some e
  refine ⟨n, e', fun b o hb => ?_⟩
  obtain ⟨c, q⟩ := hide_some hb
  by_cases z : b = a
  · subst z
    rw [h] at q; cases q
    exact hide_of n upd_same
  · have := s b o (hide_of c (by rw [upd_ne z]; exact q))
    obtain ⟨c', q'⟩ := hide_some this
    exact hide_of c' (by rw [upd_ne z]; exact q')
def EXd (X : Cx) (e : Expr) (f : Vars → R PyData) : Prop :=
  ∃ t, PE X e t ∧ ∀ σ H O ρ d, VRel X.K (hide O H) σ ρ → f ρ = .ok d → ∃ v, Rp X.K (hide O H) v d ∧ ∀ H1 (Q : VK), SameL H H1 → Q v H1 → t σ H1 Q
theorem exd_var {X : Cx} (i : Nat) {x : Str} {pos : Pos} (hN : X.N[i]? = some x := by rfl) (hv : Vis X.env.scope x := by first | exact Or.inl rfl | exact Or.inr (Or.inl rfl) | exact Or.inr (Or.inr rfl)) (hd : (x == ("__debug__" : Str)) = false := by decide)
    (hcd : (x == ("__classdict__" : Str)) = false := by decide) : EXd X (.Name x pos) (eVar i) := by
  refine ⟨_, pe_var hN hv hd hcd, fun σ H O ρ d hr e => ?_⟩
  unfold eVar at e
  cases q : ρ.getD i Option.none with
  | none => rw [q] at e; cases e
  | some d' =>
    rw [q] at e
    cases e
    obtain ⟨v, h1, h2⟩ := hr.get i d (getD_some q)
    exact ⟨v, h2, fun H1 Q _ hq => ⟨v, h1, hq⟩⟩
@[simp] def sForDP (own : List Nat) (rr : Bool) (f : Vars → R PyData) (it : PyData × PyData → PyData) (gt : PyData → Vars → Option Vars) (g : Vars → Out) (ρ : Vars) : Out := match f (mask own ρ) with
  | .ok (.dict ds) => if insB ds = true then .bad else match forL gt g (ds.map it) ρ with
    | .nx ρ' => .nx ρ'
    | .rt d => if rr = true then .rt d else .bad
    | _ => .bad
  | _ => .bad
theorem sx_forDP {X : Cx} {W : WX} {own : List Nat} {tg iter e : Expr} {body : List Stmt} {js : List Nat} {f : Vars → R PyData} {gt : PyData → Vars → Option Vars} {g : Vars → Out} {J : Addr → Obj → List (Key × V) → It} {it : PyData × PyData → PyData} {pos : Pos} {rr : Bool}
    (w : DWalk X.K J it) (hp : PassesOwn (model X.prog X.w) X.A X.env X.xe) (hc : X.calm = true) (hpi : ∀ {td : TE}, PE X e td → PI X tg iter (tWalk J td)) (he : EXd X e f) (hr : rr = true → (own.all fun i => decide (i < 1000)) = true)
    (hg : GX X tg js gt) (hin : GtIn js gt) (ho : (js.all fun j => !own.contains j) = true) (hb : SsX X W0 own body g) (hs : ∀ x, foldedSetIterable iter X.env x = pure x := by intro _; rfl) :
    SX X W own (.For tg iter body [] pos) (sForDP own rr f it gt g) := by
  obtain ⟨td, pe, hte⟩ := he
  obtain ⟨ok, tgt, q, hgt⟩ := hg
  obtain ⟨tb, pb, htb⟩ := hb
  have hj : ∀ j ∈ js, j ∉ own := fun j h z => by
    have := List.all_eq_true.mp ho j h
    rw [List.contains_iff_mem.mpr z] at this; cases this
  have P := ps_for (pos := pos) hp hc (hpi pe) q pb hs
  refine ⟨fun D σ H => tLock (tFor (tWalk J td) tgt tb) D σ H ∨ tFor (tWalk J td) tgt tb D σ H, ⟨fun pins s σ H D I h => h.elim (fun h => (ps_lock P).run pins s σ H D I h) fun h => P.run pins s σ H D I h⟩, fun σ H ρ D H0 O0 O r z => ?_⟩
  unfold sForDP at z
  cases e1 : f (mask own ρ) with
  | bad => rw [e1] at z; exact z.elim
  | err c => rw [e1] at z; exact z.elim
  | ok dd =>
    rw [e1] at z
    cases dd with
    | dict ds =>
      dsimp only at z
      by_cases ib : insB ds = true
      · rw [if_pos ib] at z; exact z.elim
      rw [if_neg ib] at z
      obtain ⟨v, rv, hv⟩ := hte σ H O _ _ r.vrelM e1
      cases rv with
      | ins => exact absurd rfl ib
      | fn _ => exact absurd rfl ib
      | fn0 => exact absurd rfl ib
      | dct => exact absurd rfl ib
      | tpx => exact absurd rfl ib
      | @dic a kvs _ hd rd =>
        rcases hd with hd | ⟨od, hd⟩
        · obtain ⟨na, ha⟩ := hide_some hd
          refine .inl ⟨a, .dK kvs, ha, True.intro, fun od => ?_⟩
          refine hv _ _ (lk_same ha) ⟨a, od, kvs, rfl, upd_same, ?_⟩
          have r1 := r.lockP (od := od) na ha
          have h0 : ∀ u, H0 a = some u → u = .dK kvs := fun u hu => by
            have := r.same a u hu
            rw [ha] at this; cases this; rfl
          refine for_core (W := W0) (gt := gt) (g := g) (ds := ds.map it) ok hj hin hgt htb r1 (fun i H2 O2 σ2 ρ2 r2 sF => ?_) ?_
          · obtain ⟨_, h2, sF'⟩ := same_unlock na ha sF
            exact w.step (F := hide O (upd H a (.frz od (.dK kvs)))) (rd.lk (lk_same ha).hide) h2 r2.stands sF
          · cases eL : forL gt g (ds.map it) ρ with
            | nx ρ' =>
              rw [eL] at z
              intro σ' H' O' r' sF
              obtain ⟨n2, h2, sF'⟩ := same_unlock na ha sF
              exact ⟨h2, z σ' _ O' (r'.unlockP n2 h2 h0) sF'⟩
            | rt d =>
              rw [eL] at z
              dsimp only at z
              by_cases c : rr = true
              · rw [if_pos c] at z
                have hb0 := r.unlent (hr c)
                have z' := RtW.no hb0 z
                have hb1 : (lkB H0 a (.frz od (.dK kvs))).b = [] := hb0
                show RtW X.K (lkB H0 a _) O0 _ _ d
                unfold RtW
                rw [hb1]
                intro v H' O' s0 sF rv
                obtain ⟨n2, h2, sF'⟩ := same_unlock na ha sF
                refine ⟨h2, z' v _ O' (fun b o e => ?_) sF' (rv.lk (ulk_same h2).hide)⟩
                by_cases c2 : b = a
                · subst c2; rw [upd_same, h0 o e]
                · rw [upd_ne c2]
                  exact s0 b o (by show lkB H0 a _ b = _; rw [lkB_ne c2]; exact e)
              · rw [if_neg c] at z; exact z.elim
            | _ => rw [eL] at z; exact z.elim
        · obtain ⟨na, ha⟩ := hide_some hd
          refine .inr (hv _ _ (Same.l (Same.refl H)) ⟨a, od, kvs, rfl, ha, ?_⟩)
          refine for_core (W := W0) (gt := gt) (g := g) (ds := ds.map it) ok hj hin hgt htb r (fun i H2 O2 σ2 ρ2 r2 sF => ?_) ?_
          · exact w.step (F := hide O H) rd (hide_some (sF a _ hd)).2 r2.stands sF
          · cases eL : forL gt g (ds.map it) ρ with
            | nx ρ' => rw [eL] at z; exact z
            | rt d =>
              rw [eL] at z
              dsimp only at z
              by_cases c : rr = true
              · rw [if_pos c] at z; exact z
              · rw [if_neg c] at z; exact z.elim
            | _ => rw [eL] at z; exact z.elim
    | _ => exact z.elim
section
variable {X : Cx} {tg e : Expr} {td : TE} {apos cpos : Pos}
theorem pi_itemsD {elts : List Expr} {kk : Nat} {tpos : Pos} (he : PE X e td) (hbase : attributeBase e "items" X.env (eval e X.env) = eval e X.env := by rfl) (hline : (apos.endLine == cpos.line) = true := by rfl) :
    PI X (.Tuple elts kk tpos) (.Call (.Attribute e "items" apos) [] [] cpos) (tWalk Iti td) := pi_items he hbase hline
theorem pi_valuesD (he : PE X e td) (hbase : attributeBase e "values" X.env (eval e X.env) = eval e X.env := by rfl) (hline : (apos.endLine == cpos.line) = true := by rfl) : PI X tg (.Call (.Attribute e "values" apos) [] [] cpos) (tWalk Itd td) := pi_values he hbase hline
end
end Pu
set_option Elab.async false
set_option linter.all false
set_option maxRecDepth 100000
set_option maxHeartbeats 4000000
namespace Pu
open PySem PySem.Spec PyProof.Rows L2
def LtV (K : PySem.W.Frag) (F H : Hp) : List Bool → List V → List PyData → List Addr → Prop
  | [], [], [], [] => True
  | false :: ks, v :: vs, d :: ds, as => Rp K F v d ∧ LtV K F H ks vs ds as
  | true :: ks, v :: vs, d :: ds, a :: as => v = .ref a ∧ OwnV K F H a d ∧ LtV K F H ks vs ds as
  | _, _, _, _ => False
@[simp] def ltS : Nat → List Bool → List Nat
  | _, [] => []
  | i, true :: ks => i :: ltS (i + 1) ks
  | i, false :: ks => ltS (i + 1) ks
section
variable {K : PySem.W.Frag} {F H : Hp}
theorem LtV.len : ∀ {ks : List Bool} {vs : List V} {ds : List PyData} {as : List Addr}, LtV K F H ks vs ds as → vs.length = ks.length ∧ ds.length = ks.length ∧ as.length = (ltS 0 ks).length := by
  have key : ∀ {ks : List Bool} {vs : List V} {ds : List PyData} {as : List Addr} (o : Nat), LtV K F H ks vs ds as → vs.length = ks.length ∧ ds.length = ks.length ∧ as.length = (ltS o ks).length := by
    intro ks
    induction ks with
    | nil =>
      intro vs ds as o h
      match vs, ds, as, h with
      | [], [], [], _ => exact ⟨rfl, rfl, rfl⟩
    | cons k ks ih =>
      intro vs ds as o h
      match k, vs, ds, as, h with
      | false, v :: vs, d :: ds, as, h =>
        obtain ⟨h1, h2, h3⟩ := ih (o + 1) h.2
        exact ⟨by simp [h1], by simp [h2], h3⟩
      | true, v :: vs, d :: ds, a :: as, h =>
        obtain ⟨h1, h2, h3⟩ := ih (o + 1) h.2.2
        exact ⟨by simp [h1], by simp [h2], by show as.length + 1 = (ltS (o + 1) ks).length + 1; rw [h3]⟩
  intro ks vs ds as h
  exact key 0 h
theorem LtV.get (o : Nat) : ∀ {ks : List Bool} {vs : List V} {ds : List PyData} {as : List Addr}, LtV K F H ks vs ds as → ∀ (i : Nat) (d : PyData), ds[i]? = some d →
    (ks[i]? = some false → ∃ v, vs[i]? = some v ∧ Rp K F v d) ∧ (ks[i]? = some true → ∃ a, vs[i]? = some (.ref a) ∧ OwnV K F H a d ∧ (o + i, a) ∈ (ltS o ks).zip as) := by
  intro ks
  induction ks generalizing o with
  | nil =>
    intro vs ds as h i d hd
    match vs, ds, as, h with
    | [], [], [], _ => simp at hd
  | cons k ks ih =>
    intro vs ds as h i d hd
    match k, vs, ds, as, h with
    | false, v :: vs, e :: ds, as, h =>
      cases i with
      | zero => simp at hd; subst hd; exact ⟨fun _ => ⟨v, rfl, h.1⟩, fun z => by simp at z⟩
      | succ i =>
        obtain ⟨h1, h2⟩ := ih (o + 1) h.2 i d (by simpa using hd)
        refine ⟨fun z => ?_, fun z => ?_⟩
        · obtain ⟨w, e1, e2⟩ := h1 (by simpa using z); exact ⟨w, by simpa using e1, e2⟩
        · obtain ⟨a, e1, e2, e3⟩ := h2 (by simpa using z)
          exact ⟨a, by simpa using e1, e2, by rw [show o + (i + 1) = o + 1 + i by omega]; exact e3⟩
    | true, v :: vs, e :: ds, a :: as, h =>
      cases i with
      | zero => simp at hd; subst hd; exact ⟨fun z => by simp at z, fun _ => ⟨a, by rw [h.1]; rfl, h.2.1, by rw [Nat.add_zero]; exact List.mem_cons_self⟩⟩
      | succ i =>
        obtain ⟨h1, h2⟩ := ih (o + 1) h.2.2 i d (by simpa using hd)
        refine ⟨fun z => ?_, fun z => ?_⟩
        · obtain ⟨w, e1, e2⟩ := h1 (by simpa using z); exact ⟨w, by simpa using e1, e2⟩
        · obtain ⟨b, e1, e2, e3⟩ := h2 (by simpa using z)
          exact ⟨b, by simpa using e1, e2, by rw [show o + (i + 1) = o + 1 + i by omega]; exact List.mem_cons_of_mem _ e3⟩
end
section
variable {X : Cx} {W : WX} {own : List Nat}
end
section
variable (X : Cx) (E : XK)
def BOutP (H0 : HB) (O0 : List Addr) (Q : VK) : Out → Prop
  | .nx ρ => ∀ H', Same H0 H' → (∀ p ∈ H0.b, ∀ dd, ρ[p.1]? = some (some dd) → OwnV X.K (hide (H0.b.map (·.2) ++ O0) H') H' p.2 dd) → Q .non H'
  | .rt (.tuple [d1, .dict kvs]) => ∀ v H', Same H0 H' → Rp X.K (hide (H0.b.map (·.2) ++ O0) H') v d1 → (∀ p ∈ H0.b, ∀ dd, lkp kvs p.1 = some dd → OwnV X.K (hide (H0.b.map (·.2) ++ O0) H') H' p.2 dd) → Q v H'
  | .err c _ => ∀ H', Same H0 H' → (∀ p ∈ H0.b, ∃ o, H' p.2 = some o ∧ OwnO o) → E (exV X.mg c) none H'
  | _ => False
def BXP (own : List Nat) (sts : List Stmt) (g : Vars → Out) : Prop :=
  ∃ t, PSs X sts t ∧ ∀ σ H ρ Q H0 O0 O, Rel X.K own H0 O0 O σ H ρ → H0.b ≠ [] → (∀ p ∈ H0.b, H0 p.2 = none) → BOutP X E H0 O0 Q (g ρ) → t { nx := fun _ H' => Q .non H', rt := Q } σ H
end
section
variable {X : Cx} {E : XK} {own : List Nat}
theorem lent_own {H0 : HB} {O0 O : List Addr} {σ : L2.St} {H : Hp} {ρ : Vars} (r : Rel X.K own H0 O0 O σ H ρ) (hn : ∀ p ∈ H0.b, H0 p.2 = none) : ∀ p ∈ H0.b, ∃ o, H p.2 = some o ∧ OwnO o := fun p hp => by
  rcases r.lists p.2 (r.bor p hp).2.2.2 with h | ⟨_, h⟩
  · exact absurd h (r.notO0 (hn p hp))
  · exact h
theorem lent_sub {H0 : HB} {O0 O : List Addr} {σ : L2.St} {H : Hp} {ρ : Vars} (r : Rel X.K own H0 O0 O σ H ρ) : ∀ a ∈ H0.b.map (·.2) ++ O0, a ∈ O := fun a ha => by
  rcases List.mem_append.mp ha with h | h
  · obtain ⟨p, hp, rfl⟩ := List.mem_map.mp h
    exact (r.bor p hp).2.2.2
  · exact r.sub a h
theorem lent_at {H0 : HB} {O0 O : List Addr} {σ : L2.St} {H : Hp} {ρ : Vars} (r : Rel X.K own H0 O0 O σ H ρ) : ∀ p ∈ H0.b, ∀ dd, ρ[p.1]? = some (some dd) → OwnV X.K (hide (H0.b.map (·.2) ++ O0) H) H p.2 dd := fun p hp dd hd => by
  obtain ⟨b1, b2, b3, b4⟩ := r.bor p hp
  obtain ⟨a, h1, h2, h3, h4⟩ := r.mine p.1 dd b1 hd
  rw [b3] at h1
  injection h1 with h1; injection h1 with h1; injection h1 with h1
  subst h1
  exact h4.mono (hide_less (lent_sub r)) fun o ho => ho
theorem rt_of {H0 : HB} {O0 : List Addr} {F : Hp} {D : Ends} {d : PyData} (ne : H0.b ≠ []) (h : ∃ d1 kvs, d = .tuple [d1, .dict kvs] ∧ ∀ v H', Same H0 H' → Rp X.K (hide (H0.b.map (·.2) ++ O0) H') v d1 → (∀ p ∈ H0.b, ∀ dd, lkp kvs p.1 = some dd → OwnV X.K (hide (H0.b.map (·.2) ++ O0) H') H' p.2 dd) → D.rt v H') : RtW X.K H0 O0 F D d := by
  obtain ⟨d1, kvs, rfl, h⟩ := h
  unfold RtW
  cases e : H0.b with
  | nil => exact absurd e ne
  | cons b bs =>
    rw [e] at h
    exact fun v H' O' s0 _ rv ov => h v H' s0 rv ov
theorem BOutP.rt {H0 : HB} {O0 : List Addr} {Q : VK} {d : PyData} (z : BOutP X E H0 O0 Q (.rt d)) : ∃ d1 kvs, d = .tuple [d1, .dict kvs] ∧ ∀ v H', Same H0 H' → Rp X.K (hide (H0.b.map (·.2) ++ O0) H') v d1 → (∀ p ∈ H0.b, ∀ dd, lkp kvs p.1 = some dd → OwnV X.K (hide (H0.b.map (·.2) ++ O0) H') H' p.2 dd) → Q v H' := by
  unfold BOutP at z
  split at z
  · rename_i e; cases e
  · rename_i e; cases e; exact ⟨_, _, rfl, z⟩
  · rename_i e; cases e
  · exact z.elim
theorem BXP.of {sts : List Stmt} {g : Vars → Out} (h : SsX X (WD E) own sts g) : BXP X E own sts g := by
  obtain ⟨t, p, ht⟩ := h
  refine ⟨t, p, fun σ H ρ Q H0 O0 O r ne hn z => ht σ H ρ _ H0 O0 O r ?_⟩
  cases e : g ρ with
  | nx ρ' => rw [e] at z; exact fun σ' H' O' r' s' => z H' r'.same (lent_at r')
  | rt d => rw [e] at z; exact rt_of ne z.rt
  | err c ρ' => rw [e] at z; exact fun σ' H' O' r' s' => z H' r'.same (lent_own r' hn)
  | bk _ => rw [e] at z; exact z.elim
  | ct _ => rw [e] at z; exact z.elim
  | bad => rw [e] at z; exact z.elim
theorem BXP.cons {st : Stmt} {rest : List Stmt} {g h : Vars → Out} {own' : List Nat} (a : SX X (WD E) own st g) (b : BXP X E own' rest h) (ho : (own'.all fun i => own.contains i) = true) (hk : keepB own own' = true := by rfl) : BXP X E own (st :: rest) (sSeq g h) := by
  obtain ⟨t, p, ht⟩ := a
  obtain ⟨u, q, hu⟩ := b
  refine ⟨_, pss_cons p q, fun σ H ρ Q H0 O0 O r ne hn z => ht σ H ρ _ H0 O0 O r ?_⟩
  unfold sSeq at z
  cases e : g ρ with
  | nx ρ1 =>
    rw [e] at z
    intro σ1 H1 O1 r1 s1
    obtain ⟨O2, r2, _⟩ := r1.freeze (own' := own') (fun i hi => List.contains_iff_mem.mp (List.all_eq_true.mp ho i hi)) (r1.keep hk)
    exact hu σ1 H1 ρ1 Q H0 O0 O2 r2 ne hn z
  | rt d => rw [e] at z; exact rt_of ne (BOutP.rt z)
  | err c ρ' => rw [e] at z; exact fun σ' H' O' r' s' => z H' r'.same (lent_own r' hn)
  | bk _ => rw [e] at z; exact z.elim
  | ct _ => rw [e] at z; exact z.elim
  | bad => rw [e] at z; exact z.elim
end
section
variable {P : Program} {w : World} {K : PySem.W.Frag} {mg : Str → Option Value} {base : Heap}
end
end Pu
set_option Elab.async false
set_option linter.all false
set_option maxRecDepth 100000
set_option maxHeartbeats 4000000
namespace Pu
open PySem PySem.Spec PyProof.Rows L2
inductive RE where
  | ok (d : PyData) (ρ : Vars) | err (c : Str) (ρ : Vars) | bad
inductive RA where
  | ok (ds : List PyData) (ρ : Vars) | err (c : Str) (ρ : Vars) | bad
@[simp] def RE.then (r : RE) (k : PyData → Vars → RE) : RE := match r with
  | .ok d ρ => k d ρ
  | .err c ρ => .err c ρ
  | .bad => .bad
@[simp] def RA.then (r : RA) (k : List PyData → Vars → RE) : RE := match r with
  | .ok d ρ => k d ρ
  | .err c ρ => .err c ρ
  | .bad => .bad
@[simp] def RE.run (r : RE) (k : PyData → Vars → Out) : Out := match r with
  | .ok d ρ => k d ρ
  | .err c ρ => .err c ρ
  | .bad => .bad
@[simp] def RA.run (r : RA) (k : List PyData → Vars → Out) : Out := match r with
  | .ok d ρ => k d ρ
  | .err c ρ => .err c ρ
  | .bad => .bad
section
variable (X : Cx) (W : WX) (own : List Nat)
def EE (H0 : HB) (O0 O : List Addr) (σ : L2.St) (H : Hp) (Q : VK) : RE → Prop
  | .ok d ρ => ∀ v H' O', Rel X.K own H0 O0 O' σ H' ρ → Same (hide O H) (hide O' H') → Rp X.K (hide O' H') v d → Q v H'
  | .err c ρ => ∀ H' O', Rel X.K own H0 O0 O' σ H' ρ → Same (hide O H) (hide O' H') → W (exV X.mg c) none σ H'
  | .bad => False
def AA (H0 : HB) (O0 O : List Addr) (σ : L2.St) (H : Hp) (Q : List V → Hp → Prop) : RA → Prop
  | .ok ds ρ => ∀ vs H' O', Rel X.K own H0 O0 O' σ H' ρ → Same (hide O H) (hide O' H') → Rps X.K (hide O' H') vs ds → Q vs H'
  | .err c ρ => ∀ H' O', Rel X.K own H0 O0 O' σ H' ρ → Same (hide O H) (hide O' H') → W (exV X.mg c) none σ H'
  | .bad => False
end
section
variable {X : Cx} {W : WX} {own : List Nat}
theorem EE.from {H0 : HB} {O0 O O' : List Addr} {σ : L2.St} {H H' : Hp} {Q : VK} {r : RE} (z : EE X W own H0 O0 O σ H Q r) (s : Same (hide O H) (hide O' H')) : EE X W own H0 O0 O' σ H' Q r := by
  cases r with
  | ok d ρ => exact fun v H2 O2 r s2 rv => z v H2 O2 r (s.trans s2) rv
  | err c ρ => exact fun H2 O2 r s2 => z H2 O2 r (s.trans s2)
  | bad => exact z
theorem AA.from {H0 : HB} {O0 O O' : List Addr} {σ : L2.St} {H H' : Hp} {Q : List V → Hp → Prop} {r : RA} (z : AA X W own H0 O0 O σ H Q r) (s : Same (hide O H) (hide O' H')) : AA X W own H0 O0 O' σ H' Q r := by
  cases r with
  | ok d ρ => exact fun v H2 O2 r s2 rv => z v H2 O2 r (s.trans s2) rv
  | err c ρ => exact fun H2 O2 r s2 => z H2 O2 r (s.trans s2)
  | bad => exact z
end
end Pu
set_option Elab.async false
set_option linter.all false
set_option maxRecDepth 100000
set_option maxHeartbeats 4000000
namespace Pu
open PySem PySem.Spec PyProof.Rows L2
def SlA (σ : L2.St) (ρ : Vars) : List Nat → List Addr → Prop
  | [], [] => True
  | io :: ls, a :: as => σ[io]? = some (some (.ref a)) ∧ (∃ d, ρ[io]? = some (some d)) ∧ SlA σ ρ ls as
  | _, _ => False
theorem LtV.mono {K : PySem.W.Frag} {F F' H H' : Hp} (s : Same F F') (e : Same H H') : ∀ {ks : List Bool} {vs : List V} {ds : List PyData} {as : List Addr}, LtV K F H ks vs ds as → LtV K F' H' ks vs ds as := by
  intro ks
  induction ks with
  | nil => intro vs ds as h; match vs, ds, as, h with | [], [], [], _ => trivial
  | cons k ks ih =>
    intro vs ds as h
    match k, vs, ds, as, h with
    | false, v :: vs, d :: ds, as, h => exact ⟨h.1.mono s, ih h.2⟩
    | true, v :: vs, d :: ds, a :: as, h => exact ⟨h.1, h.2.1.mono s (e a), ih h.2.2⟩
section
variable {X : Cx} {W : WX} {own : List Nat}
end
theorem SlA.at_ {σ : L2.St} {ρ : Vars} : ∀ {ls : List Nat} {as : List Addr}, SlA σ ρ ls as → (∀ a ∈ as, ∃ io ∈ ls, σ[io]? = some (some (.ref a)) ∧ ∃ d, ρ[io]? = some (some d)) ∧ ∀ io ∈ ls, ∃ a ∈ as, σ[io]? = some (some (.ref a)) ∧ ∃ d, ρ[io]? = some (some d)
  | [], [], _ => ⟨fun _ h => (by cases h), fun _ h => (by cases h)⟩
  | [], _ :: _, h => h.elim
  | _ :: _, [], h => h.elim
  | io :: ls, a :: as, h => by
    obtain ⟨h1, h2⟩ := h.2.2.at_
    refine ⟨fun b hb => ?_, fun i hi => ?_⟩
    · rcases List.mem_cons.mp hb with z | z
      · subst z; exact ⟨io, List.mem_cons_self, h.1, h.2.1⟩
      · obtain ⟨j, k1, k2⟩ := h1 b z; exact ⟨j, List.mem_cons_of_mem _ k1, k2⟩
    · rcases List.mem_cons.mp hi with z | z
      · subst z; exact ⟨a, List.mem_cons_self, h.1, h.2.1⟩
      · obtain ⟨j, k1, k2⟩ := h2 i z; exact ⟨j, List.mem_cons_of_mem _ k1, k2⟩
section
variable {K : PySem.W.Frag} {own : List Nat} {H0 : HB} {O0 O : List Addr} {σ : L2.St} {H H' : Hp} {ρ ρ' : Vars} {ls : List Nat} {as : List Addr}
end
section
variable {X : Cx} {W : WX} {own : List Nat}
end
section
variable {P : Program} {w : World} {K : PySem.W.Frag} {mg : Str → Option Value} {base : Heap}
end
end Pu
set_option Elab.async false
set_option linter.all false
set_option maxRecDepth 100000
set_option maxHeartbeats 4000000
namespace Pu
open PySem PySem.Spec PyProof.Rows L2
def putFD (f : Str) (d : PyData) : List (PyData × PyData) → List (PyData × PyData)
  | [] => [(.str f, d)]
  | (k, x) :: r => if keyD k = some (.inr f) then (k, d) :: r else (k, x) :: putFD f d r
theorem rpd_putF {K : PySem.W.Frag} {F : Hp} {f : Str} {v : V} {d : PyData} (h : Rp K F v d) : ∀ {fs : List (Str × V)} {ds : List (PyData × PyData)}, Rpd K F (fK fs) ds → Rpd K F (fK (putF f v fs)) (putFD f d ds)
  | [], _, .nil => .cons (k := .inr f) h .nil
  | (g, w) :: r, _, .cons (d := e) (ds := ds) hw hr => by
    unfold putF putFD
    rw [keyD_kD]
    by_cases c : g = f
    · subst c
      rw [if_pos rfl, if_pos rfl]
      exact .cons (k := .inr g) h hr
    · rw [if_neg c, if_neg (fun z => c (by cases z; rfl))]
      exact .cons (k := .inr g) hw (rpd_putF h hr)
section
variable {X : Cx} {W : WX} {own : List Nat}
end
section
variable {X : Cx} {W : WX} {own : List Nat}
end
end Pu
set_option Elab.async false
set_option linter.all false
set_option maxRecDepth 100000
set_option maxHeartbeats 4000000
namespace Pu
open PySem PySem.Spec PyProof.Rows L2
def CpV (K : PySem.W.Frag) (F H : Hp) (v : V) (d : PyData) : Prop := ∃ a xs ds, v = .ref a ∧ d = .list ds ∧ SqL K H a xs ∧ Rps K F xs ds
def CpA (K : PySem.W.Frag) (F H : Hp) : List Bool → List V → List PyData → Prop
  | [], [], [] => True
  | false :: ks, v :: vs, d :: ds => Rp K F v d ∧ CpA K F H ks vs ds
  | true :: ks, v :: vs, d :: ds => CpV K F H v d ∧ CpA K F H ks vs ds
  | _, _, _ => False
theorem CpA.len {K : PySem.W.Frag} {F H : Hp} : ∀ {ks : List Bool} {vs : List V} {ds : List PyData}, CpA K F H ks vs ds → vs.length = ks.length ∧ ds.length = ks.length := by
  intro ks
  induction ks with
  | nil => intro vs ds h; match vs, ds, h with | [], [], _ => exact ⟨rfl, rfl⟩
  | cons k ks ih =>
    intro vs ds h
    match k, vs, ds, h with
    | false, v :: vs, d :: ds, h => have := ih h.2; exact ⟨by simp [this.1], by simp [this.2]⟩
    | true, v :: vs, d :: ds, h => have := ih h.2; exact ⟨by simp [this.1], by simp [this.2]⟩
theorem CpA.get {K : PySem.W.Frag} {F H : Hp} : ∀ {ks : List Bool} {vs : List V} {ds : List PyData}, CpA K F H ks vs ds → ∀ (i : Nat) (d : PyData), ds[i]? = some d → (ks[i]? = some false → ∃ v, vs[i]? = some v ∧ Rp K F v d) ∧ (ks[i]? = some true → ∃ v, vs[i]? = some v ∧ CpV K F H v d) := by
  intro ks
  induction ks with
  | nil => intro vs ds h i d hd; match vs, ds, h with | [], [], _ => simp at hd
  | cons k ks ih =>
    intro vs ds h i d hd
    match k, vs, ds, h with
    | false, v :: vs, e :: ds, h =>
      cases i with
      | zero => simp at hd; subst hd; exact ⟨fun _ => ⟨v, rfl, h.1⟩, fun z => by simp at z⟩
      | succ i =>
        obtain ⟨h1, h2⟩ := ih h.2 i d (by simpa using hd)
        exact ⟨fun z => by simpa using h1 (by simpa using z), fun z => by simpa using h2 (by simpa using z)⟩
    | true, v :: vs, e :: ds, h =>
      cases i with
      | zero => simp at hd; subst hd; exact ⟨fun z => by simp at z, fun _ => ⟨v, rfl, h.1⟩⟩
      | succ i =>
        obtain ⟨h1, h2⟩ := ih h.2 i d (by simpa using hd)
        exact ⟨fun z => by simpa using h1 (by simpa using z), fun z => by simpa using h2 (by simpa using z)⟩
theorem CpA.mono {K : PySem.W.Frag} {F F' H H' : Hp} (s : Same F F') (e : Same H H') : ∀ {ks : List Bool} {vs : List V} {ds : List PyData}, CpA K F H ks vs ds → CpA K F' H' ks vs ds := by
  intro ks
  induction ks with
  | nil => intro vs ds h; match vs, ds, h with | [], [], _ => trivial
  | cons k ks ih =>
    intro vs ds h
    match k, vs, ds, h with
    | false, v :: vs, d :: ds, h => exact ⟨h.1.mono s, ih h.2⟩
    | true, v :: vs, d :: ds, h =>
      obtain ⟨⟨a, xs, es, h1, h2, h3, h4⟩, h5⟩ := h
      exact ⟨⟨a, xs, es, h1, h2, seqL e h3, h4.mono s⟩, ih h5⟩
structure RelI (K : PySem.W.Frag) (O : List Addr) (a C dx : Addr) (σ : L2.St) (H : Hp) (ρ γ : Vars) (fs : List (Str × V)) (dfs : List (PyData × PyData)) : Prop where
  self : σ[0]? = some (some (.ref a))
  ao : a ∈ O
  st : Stands O H
  at_ : H a = some (.ins C dx fs)
  vr : VRel K (hide O H) σ ρ
  cp : ∀ (i : Nat) (d : PyData), γ[i]? = some (some d) → ∃ v, σ[i]? = some (some v) ∧ CpV K (hide O H) H v d
  fd : Rpd K (hide O H) (fK fs) dfs
section
variable {X : Cx} {cs : List Str} {E : XK} {m : Nat}
theorem RelI.put {K : PySem.W.Frag} {O : List Addr} {a C dx : Addr} {σ : L2.St} {H H1 : Hp} {ρ γ : Vars} {fs : List (Str × V)} {dfs : List (PyData × PyData)} (r : RelI K O a C dx σ H ρ γ fs dfs) (s : Same H H1) {f : Str} {v : V} {d : PyData} (h : Rp K (hide O H1) v d) : RelI K O a C dx σ (upd H1 a (.ins C dx (putF f v fs))) ρ γ (putF f v fs) (putFD f d dfs) where
  self := r.self
  ao := r.ao
  st := fun b hb => by
    by_cases c : b = a
    · subst c; exact ⟨_, upd_same, fun xs z => nomatch z⟩
    · rw [upd_ne c]; exact (r.st.same s) b hb
  at_ := upd_same
  vr := by rw [hide_upd r.ao]; exact r.vr.mono (hide_same s)
  cp := fun i e hi => by
    obtain ⟨w, h1, b, xs, ds, h2, h3, h4, h5⟩ := r.cp i e hi
    refine ⟨w, h1, b, xs, ds, h2, h3, ?_, by rw [hide_upd r.ao]; exact h5.mono (hide_same s)⟩
    have h6 := seqL s h4
    rcases h6 with h6 | h6
    · have n : b ≠ a := fun z => by
        have ha := s _ _ r.at_
        rw [← z] at ha
        rcases h6 with h6 | ⟨o, h6⟩ <;> rw [ha] at h6 <;> cases h6
      rcases h6 with h6 | ⟨o, h6⟩
      · exact .inl (.inl (by rw [upd_ne n]; exact h6))
      · exact .inl (.inr ⟨o, by rw [upd_ne n]; exact h6⟩)
    · exact .inr h6
  fd := by rw [hide_upd r.ao]; exact rpd_putF h (r.fd.mono (hide_same s))
end
section
variable {P : Program} {w : World} {K : PySem.W.Frag} {mg : Str → Option Value} {base : Heap}
end
section
variable {X : Cx} {W : WX} {own : List Nat}
end
end Pu
set_option Elab.async false
set_option linter.all false
set_option maxRecDepth 100000
set_option maxHeartbeats 4000000
namespace Pu
open PySem PySem.Spec PyProof.Rows L2
section
variable {P : Program} {w : World} {K : PySem.W.Frag} {mg : Str → Option Value} {base : Heap}
end
end Pu
set_option Elab.async false
set_option linter.all false
set_option maxRecDepth 100000
set_option maxHeartbeats 4000000
namespace Pu
open PySem PySem.Spec PyProof.Rows L2
section
variable {X : Cx} {W : WX} {own : List Nat}
end
end Pu
set_option Elab.async false
set_option linter.all false
set_option maxRecDepth 100000
set_option maxHeartbeats 4000000
namespace Pu
open PySem PySem.Spec PyProof.Rows L2
section
variable {X : Cx} {cs : List Str} {E : XK} {m : Nat}
end
section
variable {P : Program} {w : World} {K : PySem.W.Frag} {mg : Str → Option Value} {base : Heap}
end
end Pu
set_option Elab.async false
set_option linter.all false
set_option maxRecDepth 100000
set_option maxHeartbeats 4000000
namespace Pu
open PySem PySem.Spec PyProof.Rows L2 SeqAt MeetsSeq
section
variable {P : Program} {w : World}
end
inductive Prd (F : V → V → Prop) : List V → List V → Prop where
  | nil : Prd F [] []
  | cons {x y xs ys} : F x y → Prd F xs ys → Prd F (x :: xs) (y :: ys)
theorem Prd.len {F : V → V → Prop} {xs ys : List V} (h : Prd F xs ys) : xs.length = ys.length := by
  induction h with
  | nil => rfl
  | cons _ _ ih => simp [ih]
section
variable {X : Cx} {pins : List (Addr × Obj)} {σ : L2.St} {H : Hp} {s : Shared}
end
end Pu
set_option Elab.async false
set_option linter.all false
set_option maxRecDepth 100000
set_option maxHeartbeats 4000000
namespace Pu
open PySem PySem.Spec PyProof.Rows L2
end Pu
set_option Elab.async false
set_option linter.all false
set_option maxRecDepth 100000
set_option maxHeartbeats 4000000
namespace Pu
open PySem PySem.Spec PyProof.Rows L2
theorem cr_sortedDIR {X : Cx} (hcalm : X.calm = true) : CallRK X (.builtin "sorted") ["reverse"] (fun xs zs H Q => ∃ (a : Addr) (kvs : List (Key × V)) (ks : List Int), xs = [.ref a] ∧ zs = [.bl true] ∧ Rd H a (.dK kvs) ∧ kvs.map (·.1) = ks.map Sum.inl ∧ ks.length ≤ 100000 ∧
    ∀ (ys : List Int) (p : Addr), ys.Perm ks → OrdB true ys → H p = none → Q (.ref p) (upd H p (.lst (ys.map V.int)))) := by
  intro pins s σ H xs zs us ws Q I r rz q
  obtain ⟨a, kvs, ks, ex, ez, hd, hks, h64, q⟩ := q
  subst ex ez
  obtain ⟨u, eu, rx⟩ := vals1 r
  subst eu
  cases rx
  obtain ⟨w1, rfl, e1⟩ := vals1 rz
  obtain rfl : w1 = Value.bool true := e1
  obtain ⟨z, lo, vs, rel, dd⟩ := dk_rd I.hok hd
  obtain ⟨ep, hat⟩ := dd.dictAt
  have hkeys : vs.map (·.1) = ks.map Sum.inl := rel.keys.symm.trans hks
  have hl : vs.length = ks.length := by
    have e := congrArg List.length hkeys
    rw [List.length_map, List.length_map] at e
    exact e
  have h16 : vs.length ≤ sizeLine := by rw [hl, sizeLine_eq]; omega
  show wpAny _ _ (call (.builtin "sorted") [.ref a] [(Str.ofString "reverse", Value.bool true)]) _ _ _
  refine call_function_entry_kw PyProof.Rows.kind_sorted PyProof.Rows.plain_sorted PyProof.Rows.entry_sorted (PyProof.Rows.args_sorted_rev _ _) ?_
  unfold Builtin.«sorted»
  refine wpAny_bind (m := checkCount "sorted" 1 1 _) (wpAny_pure ?_)
  refine wpAny_bind (PySem.W.kdu_collect (A := X.A.in1) (PySem.W.kdl_dict (knd := mixKind X.prog X.w) (kvs := vs) (ep := ep) lo) (I.ok.hd hcalm) hat h16 fun h' tk acc hk hacc => ?_)
  have hal : acc.toList.length = ks.length := by rw [Array.length_toList, hacc.1, hl]
  have hS : IntsAre acc.toList ks := ints_each hal fun j v e => by
    obtain ⟨k, x, e1, e2⟩ := hacc.2 j v (by rw [← Array.getElem?_toList]; exact e)
    have e3 : (vs.map (·.1))[j]? = some k := by rw [List.getElem?_map, e1]; rfl
    rw [hkeys, List.getElem?_map] at e3
    cases e4 : ks[j]? with
    | none => rw [e4] at e3; cases e3
    | some y =>
      rw [e4] at e3
      have e5 : Sum.inl y = k := Option.some.inj e3
      subst e5
      rcases keyIs_shape (show keyIs (Sum.inl y) v = true from e2) with ⟨i, t, ek, ev⟩ | ⟨z, t, ek, ev⟩
      · cases ek
        exact ⟨y, t, rfl, ev⟩
      · cases ek
  have I1 : Inv X pins σ H { s with heap := h', toks := tk } := I.kept hk
  refine wpAny_bind (wpAny_newList ?_ (by rw [hal, sizeLine_eq]; omega))
  have hoL : (h'.push (seqObj "list" acc.toList.toArray 0)).get? h'.objs.size = some (seqObj "list" acc.toList.toArray 0) := Heap.get?_push_size _ rfl
  show wpAny _ _ _ _ _ { s with heap := h'.push (seqObj "list" acc.toList.toArray 0), toks := tk }
  refine wpAny_bind (wpAny_holding (wpAny_call_entry_kw PyProof.Rows.slot_list_sort ⟨_, hoL, rfl⟩ PyProof.Rows.entry_list_sort ?_ (PyProof.Rows.args_list_sort_rev _ _)))
  refine SrtR.list_sort_ordR SrtO.swo_int (s := { s with heap := h'.push (seqObj "list" acc.toList.toArray 0), toks := tk }) hoL (by rw [hal, sizeLine_eq]; omega) (fun h2 => SrtO.ints_sortable hS h2) fun out h1 h2 => ⟨_, rfl, ?_⟩
  obtain ⟨ys, g1, g2, g3⟩ := SrtR.ints_outR hS h1 h2
  obtain ⟨e', he'⟩ := PyProof.Rows.sortedHeap_at (vs := acc.toList) (out := out.toArray.reverse) hoL
  have hlen : (ys.map V.int).length ≤ sizeLine := by
    rw [List.length_map, g2.length_eq, sizeLine_eq]
    omega
  refine wpAny_pure ⟨_, rfl, .ref h'.objs.size, upd H h'.objs.size (.lst (ys.map V.int)), I1.laid (t' := tk) (fun b u e => ?_) (Nat.le_refl _)
    (show ObjOk X.prog X.w _ _ _ (.lst (ys.map V.int)) from ⟨hlen, out.toArray.reverse.toList, e', vals_of_ints g1, by rw [Array.toArray_toList]; exact he'⟩), rfl, q ys _ g2 g3 (I1.hok.fresh (Nat.le_refl _))⟩
  have hb : b < h'.objs.size := Heap.lt_size e
  rw [PyProof.Rows.sortedHeap_old (Nat.ne_of_lt hb) (by rw [size_push']; exact Nat.lt_succ_of_lt hb)]
  exact Heap.get?_push_of_some _ e
def insG (x : Int) : List Int → List Int
  | [] => [x]
  | y :: ys => if x ≥ y then x :: y :: ys else y :: insG x ys
def dsort : List Int → List Int
  | [] => []
  | x :: xs => insG x (dsort xs)
theorem insG_perm (x : Int) : ∀ ys : List Int, (insG x ys).Perm (x :: ys)
  | [] => List.Perm.refl _
  | y :: ys => by
    unfold insG
    split
    · exact List.Perm.refl _
    · exact ((insG_perm x ys).cons y).trans (List.Perm.swap x y ys)
theorem dsort_perm : ∀ xs : List Int, (dsort xs).Perm xs
  | [] => List.Perm.refl _
  | x :: xs => (insG_perm x _).trans ((dsort_perm xs).cons x)
theorem insG_ord (x : Int) : ∀ ys : List Int, ys.Pairwise (· ≥ ·) → (insG x ys).Pairwise (· ≥ ·)
  | [], _ => List.pairwise_singleton _ _
  | y :: ys, h => by
    have h' := List.pairwise_cons.mp h
    unfold insG
    split
    · rename_i c
      exact List.pairwise_cons.mpr ⟨fun z hz => by
        rcases List.mem_cons.mp hz with e | e
        · rw [e]; exact c
        · exact Int.le_trans (h'.1 z e) c, h⟩
    · rename_i c
      exact List.pairwise_cons.mpr ⟨fun z hz => by
        rcases List.mem_cons.mp ((insG_perm x ys).mem_iff.mp hz) with e | e
        · rw [e]; omega
        · exact h'.1 z e, insG_ord x ys h'.2⟩
theorem dsort_ord : ∀ xs : List Int, (dsort xs).Pairwise (· ≥ ·)
  | [] => List.Pairwise.nil
  | x :: xs => insG_ord x _ (dsort_ord xs)
theorem desc_eq : ∀ xs ys : List Int, xs.Perm ys → xs.Pairwise (· ≥ ·) → ys.Pairwise (· ≥ ·) → xs = ys
  | [], ys, p, _, _ => (List.Perm.nil_eq p)
  | x :: xs, [], p, _, _ => absurd p.length_eq (by simp)
  | x :: xs, y :: ys, p, h1, h2 => by
    have a := List.pairwise_cons.mp h1
    have b := List.pairwise_cons.mp h2
    have e : x = y := by
      have m1 : x ∈ y :: ys := p.mem_iff.mp List.mem_cons_self
      have m2 : y ∈ x :: xs := p.mem_iff.mpr List.mem_cons_self
      rcases List.mem_cons.mp m1 with z | z
      · exact z
      · rcases List.mem_cons.mp m2 with w | w
        · exact w.symm
        · exact Int.le_antisymm (b.1 x z) (a.1 y w)
    subst e
    rw [desc_eq xs ys (List.Perm.cons_inv p) a.2 b.2]
def intKs : List (PyData × PyData) → Option (List Int)
  | [] => some []
  | (.int i, _) :: r => (intKs r).map (i :: ·)
  | _ :: _ => none
def gSortR : PyData → Option PyData
  | .dict kvs => if insB kvs = true then none else match intKs kvs with
    | some ks => if ks.length ≤ 100000 then some (.list ((dsort ks).map .int)) else none
    | none => none
  | _ => none
def eSortR (f : Vars → R PyData) (ρ : Vars) : R PyData := (f ρ).bind fun z => R.of (gSortR z)
@[simp] theorem u_eSortR (f : Vars → R PyData) (ρ : Vars) : eSortR f ρ = (f ρ).bind fun z => R.of (gSortR z) := rfl
theorem intKs_of {K : PySem.W.Frag} {F : Hp} : ∀ {vs : List (Key × V)} {ds : List (PyData × PyData)} {ks : List Int}, Rpd K F vs ds → intKs ds = some ks → vs.map (·.1) = ks.map Sum.inl
  | _, _, ks, .nil, h => by cases h; rfl
  | _, _, ks, @Rpd.cons _ _ k v vs d ds a r, h => by
    cases k with
    | inl i =>
      replace h : (intKs ds).map (i :: ·) = some ks := h
      cases e : intKs ds with
      | none => rw [e] at h; cases h
      | some l =>
        rw [e] at h
        cases h
        show Sum.inl i :: vs.map (·.1) = _
        rw [intKs_of r e]
        rfl
    | inr x => cases h
section
variable {X : Cx} {W : WX}
theorem ex_sortR {a : Expr} {f : Vars → R PyData} {p kp j pos : Pos} {jk} (hc : X.calm = true) (hg : Gl X "sorted") (hm : X.mg "sorted" = none) (ha : EX X W a f)
    (he : backTo pos (starEach [a] X.env) = (false, eval a X.env) :: backTo pos (starEach [] X.env) := by rfl) (hpl : (backTo pos (starEach [a] X.env)).any (·.1) = false := by rfl)
    (he2 : starEach [a] X.env = (false, eval a X.env) :: starEach [] X.env := by rfl)
    (hall : (backToKw pos (keywordEach [⟨some "reverse", .Constant (.bool true) jk j, kp⟩] X.env)).all (·.1.isSome) = true := by rfl) (hnone : (backToKw pos (keywordEach [⟨some "reverse", .Constant (.bool true) jk j, kp⟩] X.env)).any (·.1.isNone) = false := by rfl) (hks : (backToKw pos (keywordEach [⟨some "reverse", .Constant (.bool true) jk j, kp⟩] X.env)).filterMap (·.1) = [("reverse" : Str)] := by rfl) :
    EX X W (.Call (.Name "sorted" p) [a] [⟨some "reverse", .Constant (.bool true) jk j, kp⟩] pos) (eSortR f) := by
  obtain ⟨t, q, ht⟩ := ha
  refine ⟨_, pe_callBK (cr_sortedDIR hc) hg hm (by decide +kernel) (pa_cons q pa_nil he2) (pk_cons pe_bl pk_nil) (by decide) (by decide) he hpl hall hnone hks, fun σ H O ρ Q hO hv z => ht σ H O ρ _ hO hv (EOut.then (g := fun z => R.of (gSortR z)) EOut.b EOut.e z fun d1 v H1 s1 r1 z1 => ?_)⟩
  unfold gSortR at z1
  cases r1 with
  | @dic a kvs ds hx rs =>
    simp only [] at z1
    by_cases ci : insB ds = true
    · rw [if_pos ci] at z1; exact z1.elim
    · rw [if_neg ci] at z1
      cases e : intKs ds with
      | none => rw [e] at z1; exact z1.elim
      | some ks =>
        rw [e] at z1
        dsimp only at z1
        by_cases cl : ks.length ≤ 100000
        · rw [if_pos cl] at z1
          refine ⟨_, kvs, ks, rfl, rfl, rd_mono hide_sub hx, intKs_of rs e, cl, fun ys p hp ho hn => ?_⟩
          have ey : ys = dsort ks := desc_eq _ _ (hp.trans (dsort_perm ks).symm) ho (dsort_ord ks)
          rw [ey]
          exact z1 _ _ (s1.trans (same_new hn)) (new_repL (hO.same s1) hn (Rps.ofInts _))
        · rw [if_neg cl] at z1; exact z1.elim
  | ins => simp only [] at z1; exact z1.elim
  | fn _ => simp only [] at z1; exact z1.elim
  | fn0 => simp only [] at z1; exact z1.elim
  | dct => simp only [] at z1; exact z1.elim
  | tpx => simp only [] at z1; exact z1.elim
  | _ => exact z1.elim
end
end Pu
set_option Elab.async false
set_option linter.all false
set_option maxRecDepth 100000
set_option maxHeartbeats 4000000
namespace Pu
open PySem PySem.Spec PyProof.Rows L2
theorem call_isET {X : Cx} {a D : Addr} {oe : Obj} {pn : List (Addr × Obj)} (C : ExcC X.K D) (hz : Zc (.ref D) none oe) (hf : ∃ vs, oe.data = .fields vs) : CallR (X.suite a ((a, oe) :: pn)) (.builtin "isinstance") (fun xs H Q => ∃ (tp : Addr) (cs : List Addr) (b : Bool), xs = [.ref a, .ref tp] ∧ H tp = some (.tup (cs.map V.ref)) ∧ PySem.W.kitAny X.K (.ref D) (cs.map Value.ref) = some b ∧ Q (.bl b) H) := by
  intro pins s σ H xs us Q I r h
  obtain ⟨tp, cs, b, rfl, ht, e, q⟩ := h
  obtain ⟨u1, u2, rfl, rx, rt⟩ := vals2 r
  cases rx
  cases rt
  obtain ⟨hget, _⟩ := I.pin (a, oe) (List.mem_append.mpr (.inl List.mem_cons_self))
  obtain ⟨vs, hv⟩ := hf
  have J : PySem.W.InstAt s.heap a oe D none := by
    obtain ⟨oc, od, oda, osl⟩ := oe
    obtain ⟨h1, h2⟩ := hz
    dsimp only at h1 h2 hv
    subst h1 h2 hv
    exact ⟨hget, rfl, rfl, trivial⟩
  obtain ⟨its, rv, p1, _⟩ := I.tuple (show SqT _ H tp (cs.map V.ref) from .inl (.inl ht))
  have ei : its = cs.map Value.ref := by
    clear e ht
    have key : ∀ (cs : List Addr) (its : List Value), Vals (cs.map V.ref) its → its = cs.map Value.ref := by
      intro cs
      induction cs with
      | nil => intro its rv; cases rv; rfl
      | cons c cs ih =>
        intro its rv
        cases rv with
        | cons a b => rw [ih _ b]; cases a; rfl
    exact key cs its rv
  subst ei
  obtain ⟨⟨c1, d1, t1, s1⟩, h1, k1, n, e1⟩ := p1
  simp only at k1 e1
  subst k1 e1
  exact PySem.W.kia_tup (PySem.W.handS_kitx_exc C.hg C.hk C.hs C.hd C.ha C.hn C.ht C.hm) I.kIn J h1 e (fun z => nomatch z) fun tk => ⟨.bl b, H, I.kept (t' := tk) fun _ _ z => z, rfl, q⟩
inductive KTs (X : Cx) : List Expr → List (List (Str × Bool)) → Prop
  | nil : KTs X [] []
  | cons {y : Str} {l : List (Str × Bool)} {p : Pos} {es : List Expr} {ls : List (List (Str × Bool))} (F : KitY X.K X.mg y l) (gY : Gl X y) (dY : (y == ("__debug__" : Str)) = false) (hs : starEach (.Name y p :: es) X.env = (false, eval (.Name y p) X.env) :: starEach es X.env) (r : KTs X es ls) : KTs X (.Name y p :: es) (l :: ls)
def anyT : List (List (Str × Bool)) → Str → Option Bool
  | [], _ => some false
  | l :: ls, c => match tabL l c with
    | some true => some true
    | some false => anyT ls c
    | none => none
def eKits (ls : List (List (Str × Bool))) (c : Str) (_ : Vars) : R PyData := match anyT ls c with
  | some b => .ok (.bool b)
  | none => .bad
@[simp] theorem u_eKits (ls : List (List (Str × Bool))) (c : Str) (ρ : Vars) : eKits ls c ρ = match anyT ls c with
  | some b => .ok (.bool b)
  | none => .bad := rfl
theorem KTs.pa {X : Cx} {a : Addr} {pn : List (Addr × Obj)} : ∀ {es : List Expr} {ls : List (List (Str × Bool))}, KTs X es ls → ∃ (cs : List Addr) (t : TA), cs.length = es.length ∧ PA (X.suite a pn) es t ∧ (∀ σ H (Q : List V → Hp → Prop), Q (cs.map V.ref) H → t σ H Q) ∧ ∀ (c : Str) (C : Addr) (b : Bool), X.mg c = some (.ref C) → anyT ls c = some b → PySem.W.kitAny X.K (.ref C) (cs.map Value.ref) = some b := by
  intro es ls h
  induction h with
  | nil => exact ⟨[], _, rfl, pa_nil, fun σ H Q q => q, fun c C b _ e => by cases e; rfl⟩
  | @cons y l p es ls F gY dY hs r ih =>
    obtain ⟨cs, t, h0, h1, h2, h3⟩ := ih
    obtain ⟨CY, hy, hF⟩ := F
    refine ⟨CY :: cs, _, by simp [h0], pa_cons (pe_glob (X := X.suite a pn) (v := .ref CY) gY hy rfl dY) h1 hs, fun σ H Q q => h2 _ _ _ q, fun c C b hc e => ?_⟩
    unfold anyT at e
    cases ht : tabL l c with
    | none => rw [ht] at e; cases e
    | some d =>
      obtain ⟨C', hC', _, hk⟩ := hF c d ht
      rw [hc] at hC'
      cases hC'
      show (match PySem.W.kitOne X.K (.ref C) (.ref CY) with | some true => some true | some false => PySem.W.kitAny X.K (.ref C) (cs.map Value.ref) | none => none) = some b
      rw [hk]
      rw [ht] at e
      cases d with
      | true => exact e
      | false => exact h3 c C b hc e
def ExcS (X : Cx) (ls : List (List (Str × Bool))) : Prop := ∀ c C b, X.mg c = some (.ref C) → anyT ls c = some b → ExcC X.K C
theorem excS_of {X : Cx} {es : List Expr} {ls : List (List (Str × Bool))} (h : KTs X es ls) (hn : ls ≠ []) : ExcS X ls := by
  cases h with
  | nil => exact absurd rfl hn
  | cons F gY dY hs r =>
    intro c C b hc e
    obtain ⟨CY, hy, hF⟩ := F
    unfold anyT at e
    rename_i l _ _ _
    cases ht : tabL l c with
    | none => rw [ht] at e; cases e
    | some d =>
      obtain ⟨C', hC', hx, _⟩ := hF c d ht
      rw [hc] at hC'
      cases hC'
      exact hx
section
variable {X : Cx} {ie : Nat} {c : Str}
theorem exh_isT {ls : List (List (Str × Bool))} {n : Str} {es : List Expr} {kk : Nat} {p6 p7 p8 p9 : Pos} (F : KTs X es ls) (hne : ls ≠ []) (hN : X.N[ie]? = some n)
    (gS : Gl X "isinstance") (mS : X.mg "isinstance" = none)
    (hv : Vis X.env.scope n := by first | exact Or.inl rfl | exact Or.inr (Or.inl rfl) | exact Or.inr (Or.inr rfl)) (hdn : (n == ("__debug__" : Str)) = false := by decide) (hcd : (n == ("__classdict__" : Str)) = false := by decide)
    (hz : es.length ≤ sizeLine := by decide)
    (he1 : starEach [.Name n p8, .Tuple es kk p9] X.env = (false, eval (.Name n p8) X.env) :: starEach [.Tuple es kk p9] X.env := by rfl) (he2 : starEach [.Tuple es kk p9] X.env = (false, eval (.Tuple es kk p9) X.env) :: starEach [] X.env := by rfl)
    (hp1 : (backTo p7 (starEach [.Tuple es kk p9] X.env)).any (·.1) = false := by rfl) :
    EXH X ie c (.Call (.Name "isinstance" p6) [.Name n p8, .Tuple es kk p9] [] p7) (eKits ls c) := fun a oe pn C hC hz0 hfl => by
  cases hT : anyT ls c with
  | none =>
    refine ⟨fun _ _ _ => False, ⟨fun _ _ _ _ _ _ h => h.elim⟩, fun σ H O ρ Q _ _ _ z => ?_⟩
    unfold eKits at z
    rw [hT] at z
    exact z
  | some b =>
    obtain ⟨cs, t, h0, h1, h2, h3⟩ := F.pa (a := a) (pn := (a, oe) :: pn)
    have hxc := excS_of F hne c C b hC hT
    refine ⟨_, pe_callB (X := X.suite a ((a, oe) :: pn)) (call_isET hxc hz0 hfl) gS mS (by decide +kernel) (pa_cons (pe_var hN hv hdn hcd) (pa_cons (pe_tup h1) pa_nil he2) he1) (by decide) (by decide) he1 hp1, fun σ H O ρ Q hs hO hr z => ?_⟩
    unfold eKits at z
    rw [hT] at z
    refine ⟨.ref a, hs, h2 σ H _ ⟨?_, fun p hp => ⟨p, cs, b, rfl, upd_same, h3 c C b hC hT, ?_⟩⟩⟩
    · rw [List.length_map]
      rw [h0]; exact hz
    · exact z _ _ (same_new hp) (.bl b)
theorem exh_one {op : BoolOp} {a : Expr} {f : Vars → R PyData} {pos : Pos} (ha : EXH X ie c a f) : EXH X ie c (.BoolOp op [a] pos) f := fun ad oe pn C hC hz hfl => by
  obtain ⟨ta, p, hta⟩ := ha ad oe pn C hC hz hfl
  exact ⟨_, pe_one p, hta⟩
theorem exh_and {a b : Expr} {rest : List Expr} {f g : Vars → R PyData} {pos : Pos} (ha : EXH X ie c a f) (hb : EXH X ie c (.BoolOp .And (b :: rest) pos) g) : EXH X ie c (.BoolOp .And (a :: b :: rest) pos) (eAnd f g) := fun ad oe pn C hC hz hfl => by
  obtain ⟨ta, p, hta⟩ := ha ad oe pn C hC hz hfl
  obtain ⟨tb, q, htb⟩ := hb ad oe pn C hC hz hfl
  refine ⟨_, pe_and p q, fun σ H O ρ Q hs hO hv z => hta σ H O ρ _ hs hO hv ?_⟩
  unfold eAnd tOf at z
  cases e : f ρ with
  | bad => rw [e] at z; exact z.elim
  | err c' => rw [e] at z; exact fun H' s => z H' s
  | ok d =>
    rw [e] at z
    cases d with
    | bool b =>
      intro v H1 s1 r1
      cases r1
      refine ⟨b, rfl, ?_⟩
      cases b with
      | true => exact htb σ H1 O ρ Q hs (hO.same s1) (hv.mono (hide_same s1)) (EOut.from z s1)
      | false => exact z _ H1 s1 (.bl false)
    | _ => exact z.elim
end
def HOut (X : Cx) (own : List Nat) (ie : Nat) (a : Addr) (H0 : HB) (O0 O : List Addr) (H : Hp) (D : Ends) : R Vars → Prop
  | .ok ρ' => ∀ σ' H', Rel X.K own H0 O0 O σ' H' ρ' → Same H H' → σ'[ie]? = some (some (.ref a)) → D.nx σ' H'
  | _ => False
theorem HOut.from {X : Cx} {own : List Nat} {ie : Nat} {a : Addr} {H0 : HB} {O0 O : List Addr} {H H1 : Hp} {D : Ends} {r : R Vars} (z : HOut X own ie a H0 O0 O H D r) (s : Same H H1) : HOut X own ie a H0 O0 O H1 D r := by
  cases r with
  | ok ρ' => exact fun σ' H' r' s' => z σ' H' r' (s.trans s')
  | err _ => exact z
  | bad => exact z
def SXH (X : Cx) (own : List Nat) (ie : Nat) (c : Str) (st : Stmt) (f : Vars → R Vars) : Prop := ∀ (a : Addr) (oe : Obj) (pn : List (Addr × Obj)) (C : Addr), X.mg c = some (.ref C) → Zc (.ref C) none oe → (∃ vs, oe.data = .fields vs) →
  ∃ t, PS (X.suite a ((a, oe) :: pn)) st t ∧ ∀ σ H ρ D H0 O0 O, Rel X.K own H0 O0 O σ H ρ → σ[ie]? = some (some (.ref a)) → HOut X own ie a H0 O0 O H D (f ρ) → t D σ H
def SsXH (X : Cx) (own : List Nat) (ie : Nat) (c : Str) (sts : List Stmt) (f : Vars → R Vars) : Prop := ∀ (a : Addr) (oe : Obj) (pn : List (Addr × Obj)) (C : Addr), X.mg c = some (.ref C) → Zc (.ref C) none oe → (∃ vs, oe.data = .fields vs) →
  ∃ t, PSs (X.suite a ((a, oe) :: pn)) sts t ∧ ∀ σ H ρ D H0 O0 O, Rel X.K own H0 O0 O σ H ρ → σ[ie]? = some (some (.ref a)) → HOut X own ie a H0 O0 O H D (f ρ) → t D σ H
def hSet (own : List Nat) (iv : Nat) (f : Vars → R PyData) (ρ : Vars) : R Vars := (f (mask own ρ)).bind fun d => .ok (ρ.set iv (some d))
def hIf (f : Vars → R PyData) (g : Vars → R Vars) (ρ : Vars) : R Vars := (f ρ).bind fun d => match d with
  | .bool true => g ρ
  | .bool false => .ok ρ
  | _ => .bad
def hSeq (f g : Vars → R Vars) (ρ : Vars) : R Vars := (f ρ).bind g
def hNil (ρ : Vars) : R Vars := .ok ρ
@[simp] theorem u_hSet (own : List Nat) (iv : Nat) (f : Vars → R PyData) (ρ : Vars) : hSet own iv f ρ = (f (mask own ρ)).bind fun d => .ok (ρ.set iv (some d)) := rfl
@[simp] theorem u_hIf (f : Vars → R PyData) (g : Vars → R Vars) (ρ : Vars) : hIf f g ρ = (f ρ).bind fun d => match d with
  | .bool true => g ρ
  | .bool false => .ok ρ
  | _ => .bad := rfl
@[simp] theorem u_hSeq (f g : Vars → R Vars) (ρ : Vars) : hSeq f g ρ = (f ρ).bind g := rfl
@[simp] theorem u_hNil (ρ : Vars) : hNil ρ = .ok ρ := rfl
section
variable {X : Cx} {own : List Nat} {ie : Nat} {c : Str}
theorem sxh_nil : SsXH X own ie c [] hNil := fun a oe pn C _ _ _ => ⟨_, pss_nil, fun σ H ρ D H0 O0 O r hs z => z σ H r (Same.refl H) hs⟩
theorem sxh_cons {st : Stmt} {rest : List Stmt} {f g : Vars → R Vars} (h : SXH X own ie c st f) (k : SsXH X own ie c rest g) : SsXH X own ie c (st :: rest) (hSeq f g) := fun a oe pn C hC hz hfl => by
  obtain ⟨t, p, ht⟩ := h a oe pn C hC hz hfl
  obtain ⟨u, q, hu⟩ := k a oe pn C hC hz hfl
  refine ⟨_, pss_cons p q, fun σ H ρ D H0 O0 O r hs z => ht σ H ρ _ H0 O0 O r hs ?_⟩
  unfold hSeq at z
  cases e : f ρ with
  | ok ρ1 => rw [e] at z; exact fun σ1 H1 r1 s1 hs1 => hu σ1 H1 ρ1 D H0 O0 O r1 hs1 (HOut.from z s1)
  | err _ => rw [e] at z; exact z.elim
  | bad => rw [e] at z; exact z.elim
theorem sxh_set {iv : Nat} {v : Str} {e : Expr} {f : Vars → R PyData} {p1 p10 : Pos} (hN : X.N.Nodup) (hiv : X.N[iv]? = some v) (hlv : Loc X.env.scope v) (oiv : own.contains iv = false) (hne : iv ≠ ie) (h : EXH X ie c e f)
    (hsw : ∀ (a : Addr) (pn : List (Addr × Obj)), swapsWith e (some (.Name v p1)) p10.line (X.suite a pn).env = pure false := by intro a pn; rfl)
    (hfv : X.fn v = true ∨ X.env.scope.names.lookup v = some .local := by first | exact .inl rfl | exact .inr rfl | assumption) : SXH X own ie c (.Assign [.Name v p1] e p10) (hSet own iv f) := fun a oe pn C hC hz hfl => by
  obtain ⟨t, p, ht⟩ := h a oe pn C hC hz hfl
  have oiv' : iv ∉ own := fun z => by rw [List.contains_iff_mem.mpr z] at oiv; cases oiv
  refine ⟨_, ps_set (X := X.suite a ((a, oe) :: pn)) (pos' := p1) (pos := p10) hN hiv hlv p (hsw a ((a, oe) :: pn)) hfv, fun σ H ρ D H0 O0 O r hs z => ht σ H O _ _ hs r.stands r.vrelM ?_⟩
  unfold hSet at z
  cases q : f (mask own ρ) with
  | bad => rw [q] at z; exact z.elim
  | err _ => rw [q] at z; exact z.elim
  | ok d =>
    rw [q] at z
    intro w H1 s1 rw1
    exact z _ H1 ((r.step s1).set oiv' rw1) s1 (by rw [List.getElem?_set_ne hne]; exact hs)
theorem sxh_if {e : Expr} {f : Vars → R PyData} {body : List Stmt} {g : Vars → R Vars} {pos : Pos} (ho : own = []) (h : EXH X ie c e f) (k : SsXH X own ie c body g) (he : ∀ (a : Addr) (pn : List (Addr × Obj)) whole, isTrue e (X.suite a pn).env whole = (do let v ← whole; standAt e.pos; holding [v] (truthy v)) := by intro _ _ _; rfl) : SXH X own ie c (.If e body [] pos) (hIf f g) := fun a oe pn C hC hz hfl => by
  subst ho
  obtain ⟨t, p, ht⟩ := h a oe pn C hC hz hfl
  obtain ⟨u, q, hu⟩ := k a oe pn C hC hz hfl
  refine ⟨_, ps_if (pt_truth p (he a ((a, oe) :: pn))) q pss_nil, fun σ H ρ D H0 O0 O r hs z => ht σ H O ρ _ hs r.stands r.vrel ?_⟩
  unfold hIf at z
  cases e1 : f ρ with
  | bad => rw [e1] at z; exact z.elim
  | err _ => rw [e1] at z; exact z.elim
  | ok d =>
    rw [e1] at z
    cases d with
    | bool b =>
      intro v H1 s1 r1
      cases r1
      refine ⟨b, rfl, ?_⟩
      cases b with
      | true => exact hu σ H1 ρ D H0 O0 O (r.step s1) hs (HOut.from z s1)
      | false => exact z σ H1 (r.step s1) s1 hs
    | _ => exact z.elim
end
def sTryX (T : Str → Option Bool) (ie : Nat) (f : Str → Vars → R Vars) (g : Vars → Out) (ρ : Vars) : Out := match g ρ with
  | .err c ρ' => match T c with
    | some true => match f c (ρ'.set ie none) with
      | .ok ρ2 => .nx (ρ2.set ie none)
      | _ => .bad
    | some false => .err c ρ'
    | none => .bad
  | o => o
@[simp] theorem u_sTryX (T : Str → Option Bool) (ie : Nat) (f : Str → Vars → R Vars) (g : Vars → Out) (ρ : Vars) : sTryX T ie f g ρ = match g ρ with
  | .err c ρ' => match T c with
    | some true => match f c (ρ'.set ie none) with
      | .ok ρ2 => .nx (ρ2.set ie none)
      | _ => .bad
    | some false => .err c ρ'
    | none => .bad
  | o => o := rfl
section
variable {X : Cx} {W : WX} {own : List Nat}
theorem sx_tryX {l : List (Str × Bool)} {ie : Nat} {f : Str → Vars → R Vars} {g : Vars → Out} {body : List Stmt} {b₀ : Stmt} {suite : List Stmt} {x n : Str} {p0 pos' pos : Pos} (F : TryL X.K X.mg x l) (gX : Gl X x) (dX : (x == ("__debug__" : Str)) = false)
    (hN : X.N.Nodup) (hie : X.N[ie]? = some n) (hln : X.env.kindOf n = some .local) (oie : own.contains ie = false)
    (hs : X.stack = X.env :: X.outer) (hf : X.env.frame = some X.env.locals) (tk : Takes X W)
    (he : ∀ c, SsXH X own ie c (b₀ :: suite) (f c))
    (hb : ∀ (W' : WX) (pn : List (Addr × Obj)) (xe : Value → Shared → Prop), Takes (X.tr pn xe) W' → PassesOwn (model X.prog X.w) X.A X.env xe → SsX (X.tr pn xe) W' own body g) :
    SX X W own (.Try body [.ExceptHandler (some (.Name x p0)) (some n) (b₀ :: suite) pos'] [] [] pos) (sTryX (tabL l) ie f g) := by
  have oie' : ie ∉ own := fun z => by rw [List.contains_iff_mem.mpr z] at oie; cases oie
  have hlt : ie < X.N.length := (List.getElem?_eq_some_iff.mp hie).1
  obtain ⟨CX, hx, hF⟩ := F
  refine ⟨_, ps_try_as (c := .ref CX) (i := ie) (Wout := W) (tb := fun W' => tS X W' own g) (ts := fun a cls d0 D σ H => ∃ (c : Str) (C : Addr) (H0 : HB) (O0 O : List Addr) (ρ2 : Vars), X.mg c = some (.ref C) ∧ cls = .ref C ∧ d0 = none ∧ (∃ σ0 : L2.St, σ = σ0.set ie (some (.ref a))) ∧ Rel X.K own H0 O0 O σ H ρ2 ∧ HOut X own ie a H0 O0 O H D (f c ρ2))
    hs hf hN hie hln ⟨gX, dX, Or.inl hx⟩ tk (fun W' pn xe tk' px => (hb W' pn xe tk' px).pss) (fun a oe cls d0 pn hz hfl => ⟨fun pins s σ H D I h => ?_⟩), fun σ H ρ D H0 O0 O r z => ?_⟩
  · obtain ⟨c, C, H0, O0, O, ρ2, hC, rfl, rfl, ⟨σ0, hσ⟩, hr, hD⟩ := h
    have hie2 : σ[ie]? = some (some (.ref a)) := by
      have hl0 : ie < σ0.length := by have := I.len; rw [hσ] at this; simp at this; show _ < _; omega
      rw [hσ, List.getElem?_set_self hl0]
    obtain ⟨t, p, ht⟩ := he c a oe pn C hC hz hfl
    exact p.run pins s _ H D I (ht σ H ρ2 D H0 O0 O hr hie2 hD)
  · refine ⟨H0, O0, O, ρ, r, ?_⟩
    unfold sTryX at z
    cases e1 : g ρ with
    | nx ρ' => rw [e1] at z; exact z
    | rt d => rw [e1] at z; exact z
    | bk ρ' => rw [e1] at z; exact z
    | ct ρ' => rw [e1] at z; exact z
    | bad => rw [e1] at z; exact z
    | err c ρ' =>
      rw [e1] at z
      dsimp only at z
      intro σ' H' O' r' s'
      have hTF := hF c
      cases hTc : tabL l c with
      | none => rw [hTc] at z; exact z.elim
      | some b =>
        rw [hTc] at hTF
        obtain ⟨C, hmC, hx1⟩ := hTF
        have hcls : exV X.mg c = .ref C := by unfold exV; rw [hmC]; rfl
        cases b with
        | false =>
          refine ⟨false, by rw [hcls]; exact hx1, ⟨fun q => absurd q Bool.false_ne_true, fun _ => ?_⟩⟩
          rw [hTc] at z
          exact z σ' H' O' r' s'
        | true =>
          refine ⟨true, by rw [hcls]; exact hx1, ⟨fun _ a ha => ?_, fun q => absurd q.symm Bool.false_ne_true⟩⟩
          rw [hTc] at z
          dsimp only at z
          cases hd : f c (ρ'.set ie none) with
          | bad => rw [hd] at z; exact z.elim
          | err _ => rw [hd] at z; exact z.elim
          | ok ρ2 =>
            rw [hd] at z
            have rn := r'.none (x := some (.ref a)) oie'
            refine ⟨c, C, H0, O0, O', ρ'.set ie none, hmC, hcls, rfl, ⟨σ', rfl⟩, rn, ?_⟩
            rw [hd]
            intro σ2 H2 r2 s2 _
            exact z _ H2 O' (r2.none oie') (s'.trans (hide_same s2))
end
end Pu
set_option Elab.async false
set_option linter.all false
set_option maxRecDepth 100000
set_option maxHeartbeats 4000000
namespace Pu
open PySem PySem.Spec PyProof.Rows L2
section
variable {X : Cx} {W : WX} {pos : Pos}
end
end Pu
set_option Elab.async false
set_option linter.all false
set_option maxRecDepth 100000
set_option maxHeartbeats 4000000
namespace Pu
open PySem PySem.Spec PyProof.Rows L2
section
variable {P : Program} {w : World} {K : PySem.W.Frag} {mg : Str → Option Value} {base : Heap}
end
section
variable {X : Cx} {ie : Nat} {c : Str}
end
end Pu
set_option Elab.async false
set_option linter.all false
set_option maxRecDepth 100000
set_option maxHeartbeats 4000000
namespace Pu
open PySem PySem.Spec PyProof.Rows L2
def ExcT (C a : Addr) : HO := .ext fun h => ∃ oe : Obj, h.get? a = some oe ∧ Zc (.ref C) none oe ∧ ∃ vs, oe.data = .fields vs
section
variable {X : Cx} {pins : List (Addr × Obj)} {σ : L2.St} {H : Hp} {s : Shared}
end
section
variable {X : Cx} {x n : Str} {c : Value} {i : Nat} {body suite : List Stmt} {b₀ : Stmt} {np pos pos' : Pos} {tb : WX → TS} {ts : Addr → Addr → TS}
end
end Pu
set_option Elab.async false
set_option linter.all false
set_option maxRecDepth 100000
set_option maxHeartbeats 4000000
namespace Pu
open PySem PySem.Spec PyProof.Rows L2
def TXK (X : Cx) (W : WX) (ie : Nat) (c : Str) (e : Expr) (f : Vars → R Bool) : Prop := ∀ (a C : Addr), X.mg c = some (.ref C) →
  ∃ t, PT X e t ∧ ∀ σ H O ρ (Q : Bool → Hp → Prop), σ[ie]? = some (some (.ref a)) → H a = some (ExcT C a) → Stands O H → VRel X.K (hide O H) σ ρ → TOut X W σ H Q (f ρ) → t σ H Q
section
variable {X : Cx} {W : WX} {ie : Nat} {c : Str}
end
end Pu
set_option Elab.async false
set_option linter.all false
set_option maxRecDepth 100000
set_option maxHeartbeats 4000000
namespace Pu
open PySem PySem.Spec PyProof.Rows L2
def WXK (X : Cx) (W : WX) (ie : Nat) (c : Str) (e : Expr) (f : Vars → R Bool) : Prop := ∀ (a C : Addr), X.mg c = some (.ref C) →
  ∃ t, PW X e t ∧ ∀ σ H O ρ (Q : Bool → Hp → Prop), σ[ie]? = some (some (.ref a)) → H a = some (ExcT C a) → Stands O H → VRel X.K (hide O H) σ ρ → TOut X W σ H Q (f ρ) → t σ H Q
section
variable {X : Cx} {W : WX} {ie : Nat} {c : Str}
theorem WXK.tx {e : Expr} {f : Vars → R Bool} (h : WXK X W ie c e f) : TXK X W ie c e f := fun ad C hC => by
  obtain ⟨t, p, ht⟩ := h ad C hC
  exact ⟨_, p.pt, ht⟩
end
def KOut (K : PySem.W.Frag) (O0 : List Addr) (H : Hp) (D : Ends) : R PyData → Prop
  | .ok d => ∀ v H', Same H H' → Rp K (hide O0 H') v d → D.rt v H'
  | _ => False
theorem KOut.from {K : PySem.W.Frag} {O0 : List Addr} {H H1 : Hp} {D : Ends} {r : R PyData} (z : KOut K O0 H D r) (s : Same H H1) : KOut K O0 H1 D r := by
  cases r with
  | ok d => exact fun v H' s' rv => z v H' (s.trans s') rv
  | err _ => exact z
  | bad => exact z
section
variable {X : Cx} {ie : Nat} {c : Str}
end
end Pu
set_option Elab.async false
set_option linter.all false
set_option maxRecDepth 100000
set_option maxHeartbeats 4000000
namespace Pu
open PySem PySem.Spec PyProof.Rows L2
section
variable {X : Cx}
end
end Pu
set_option Elab.async false
set_option linter.all false
set_option maxRecDepth 100000
set_option maxHeartbeats 4000000
namespace Pu
open PySem PySem.Spec PyProof.Rows L2
end Pu
set_option Elab.async false
set_option linter.all false
set_option maxRecDepth 100000
set_option maxHeartbeats 4000000
namespace Pu
open PySem PySem.Spec PyProof.Rows L2
inductive RB where
  | ok (b : Bool) (ρ : Vars) | err (c : Str) (ρ : Vars) | bad
@[simp] def RB.then (r : RB) (k : Bool → Vars → RB) : RB := match r with
  | .ok b ρ => k b ρ
  | .err c ρ => .err c ρ
  | .bad => .bad
@[simp] def RB.run (r : RB) (k : Bool → Vars → Out) : Out := match r with
  | .ok b ρ => k b ρ
  | .err c ρ => .err c ρ
  | .bad => .bad
section
variable (X : Cx) (W : WX) (own : List Nat)
def BB (H0 : HB) (O0 O : List Addr) (σ : L2.St) (H : Hp) (Q : Bool → Hp → Prop) : RB → Prop
  | .ok b ρ => ∀ H' O', Rel X.K own H0 O0 O' σ H' ρ → Same (hide O H) (hide O' H') → Q b H'
  | .err c ρ => ∀ H' O', Rel X.K own H0 O0 O' σ H' ρ → Same (hide O H) (hide O' H') → W (exV X.mg c) none σ H'
  | .bad => False
end
section
variable {X : Cx} {W : WX} {own : List Nat}
theorem BB.from {H0 : HB} {O0 O O' : List Addr} {σ : L2.St} {H H' : Hp} {Q : Bool → Hp → Prop} {r : RB} (z : BB X W own H0 O0 O σ H Q r) (s : Same (hide O H) (hide O' H')) : BB X W own H0 O0 O' σ H' Q r := by
  cases r with
  | ok d ρ => exact fun H2 O2 r s2 => z H2 O2 r (s.trans s2)
  | err c ρ => exact fun H2 O2 r s2 => z H2 O2 r (s.trans s2)
  | bad => exact z
end
end Pu
set_option Elab.async false
set_option linter.all false
set_option maxRecDepth 100000
set_option maxHeartbeats 4000000
namespace Pu
open PySem PySem.Spec PyProof.Rows L2
structure Hf where
  f : Addr
  fd : FuncData
  cl : List (Str × Addr)
  fr : List Str
  ws : List (Option V)
structure Held (p : Hf) (h : Heap) (H : Hp) : Prop where
  no : H p.f = Option.none
  at_ : ∃ od sl, h.get? p.f = some (⟨.type "function", od, .func p.fd, sl⟩ : Obj)
  cells : NdefX.CellsAt p.cl p.fr p.ws h H
theorem Held.later {X : Cx} {p : Hf} {pins : List (Addr × Obj)} {σ : L2.St} {H : Hp} {s : Shared} (h : Held p X.s_0.heap X.H_0) (hx : X.ex = []) (I : Inv X pins σ H s) : Held p s.heap H := by
  have nx : ∀ b : Addr, b ∉ X.ex := fun b z => by rw [hx] at z; cases z
  have kp : ∀ c v, X.s_0.heap.IsCell c v → X.H_0 c = Option.none → s.heap.IsCell c v := fun c v ⟨o, ho, hd⟩ n => by
    obtain ⟨sl, q⟩ := I.base.any ho n (nx c)
    exact ⟨_, q, hd⟩
  obtain ⟨od, sl, ho⟩ := h.at_
  refine ⟨I.base.free _ _ ho h.no (nx _), ?_, h.cells.len, fun y c e => ?_, h.cells.inj, fun i y e => ?_⟩
  · obtain ⟨sl', q⟩ := I.base.any ho h.no (nx _)
    exact ⟨od, sl', q⟩
  · obtain ⟨n, v, z⟩ := h.cells.all y c e
    obtain ⟨o, ho', hd⟩ := id z
    exact ⟨I.base.free _ _ ho' n (nx _), v, kp c v z n⟩
  · obtain ⟨c, hc, hv⟩ := h.cells.has i y e
    refine ⟨c, hc, fun v ev => ?_⟩
    obtain ⟨u, r, z⟩ := hv v ev
    exact ⟨u, r, kp c _ z (h.cells.all y c hc).1⟩
def CallT (P : Program) (w : World) (K : PySem.W.Frag) (mg : Str → Option Value) (base : Heap) (k : Nat) (p : Hf) (r : PyData → PyData → Option PyData) : Prop :=
  ∀ (A : Around) (outer : List Env) (s : Shared) (H : Hp) (u : Value) (v : V) (O : List Addr) (D d z : PyData) (Q : VK), Room k A → Env0 P w K mg base A outer s H → Held p s.heap H → Stands O H → Rp K (hide O H) (.ref p.f) D → Rp K (hide O H) v d → RelV v u → r D d = some z → (∀ v' H', Same H H' → Rp K (hide O H') v' z → Q v' H') →
    codeAny (model P w) A (.call (.ref p.f) ⟨[u], []⟩) (CR (L2.CX P w) outer P w H s Q (fun _ _ _ => False)) s
theorem CallT.mono {P : Program} {w : World} {K : PySem.W.Frag} {mg : Str → Option Value} {base : Heap} {j k : Nat} {p : Hf} {r : PyData → PyData → Option PyData} (h : CallT P w K mg base j p r) (l : j ≤ k) : CallT P w K mg base k p r := fun A outer s H u v O D d z Q hr => h A outer s H u v O D d z Q (hr.mono l)
structure FnR (P : Program) (w : World) (K : PySem.W.Frag) (mg : Str → Option Value) (base : Heap) (k : Nat) (p : Hf) (f : Addr) (fd : FuncData) (ps : List Str) (sp : Sp) : Prop where
  len : ∀ vs H Q E, sp vs H Q E → vs.length = ps.length
  run : ∀ (A : Around) (outer : List Env) (s : Shared) (H : Hp) (args : Args) (us : List Value) (vs : List V) (Q : VK) (E : XK), Room k A → Env0 P w K mg base A outer s H → BindsTo s fd args (ps.zip us) → Vals vs us → Held p s.heap H → sp vs H Q E →
    codeAny (model P w) A (.call (.ref f) args) (CR (L2.CX P w) outer P w H s Q E) s
theorem FnR.mono {P : Program} {w : World} {K : PySem.W.Frag} {mg : Str → Option Value} {base : Heap} {j k : Nat} {p : Hf} {f : Addr} {fd : FuncData} {ps : List Str} {sp : Sp} (F : FnR P w K mg base j p f fd ps sp) (h : j ≤ k) : FnR P w K mg base k p f fd ps sp := ⟨F.len, fun A outer s H args us vs Q E hr => F.run A outer s H args us vs Q E (hr.mono h)⟩
section
variable {K : PySem.W.Frag} {H : Hp}
end
theorem OwnO.notbl {o : HO} (h : OwnO o) : ∀ ps, o ≠ .tbl ps := fun ps z => by
  rcases h with (⟨_, h⟩ | ⟨_, h⟩) | ⟨_, h | ⟨_, h⟩⟩ <;> rw [h] at z <;> cases z
def Ol (O : List Addr) (H : Hp) : Prop := ∀ a ∈ O, ∃ o, H a = some o ∧ OwnO o
theorem Ol.stands {O : List Addr} {H : Hp} (h : Ol O H) : Stands O H := fun a ha => by
  obtain ⟨o, e, ho⟩ := h a ha
  exact ⟨o, e, ho.notup⟩
theorem Ol.ext {O : List Addr} {H H' : Hp} (h : Ol O H) (e : LamX.ExtN H H') : Ol O H' := fun a ha => by
  obtain ⟨o, e1, e2⟩ := h a ha
  exact ⟨o, e a o e1 e2.notbl, e2⟩
theorem Ol.same {O : List Addr} {H H' : Hp} (h : Ol O H) (s : Same H H') : Ol O H' := h.ext (LamX.ExtN.of s)
theorem Ol.no {O : List Addr} {H : Hp} (h : Ol O H) {a : Addr} {o : HO} (e : H a = some o) (n : ¬ OwnO o) : a ∉ O := fun z => by
  obtain ⟨u, e1, e2⟩ := h a z
  rw [e] at e1; cases e1
  exact n e2
theorem Rel.ol {K : PySem.W.Frag} {own : List Nat} {O : List Addr} {σ : L2.St} {H : Hp} {ρ : Vars} {H0 : HB} (r : Rel K own H0 [] O σ H ρ) : Ol O H := fun a ha => by
  rcases r.lists a ha with h | ⟨_, o, h1, h2⟩
  · exact absurd h (by simp)
  · exact ⟨o, h1, h2⟩
abbrev HB0 : HB := ⟨fun _ => Option.none, []⟩
end Pu
set_option Elab.async false
set_option linter.all false
set_option maxRecDepth 100000
set_option maxHeartbeats 4000000
namespace Pu
open PySem PySem.Spec PyProof.Rows L2
section
variable (X : Cx)
end
section
variable {X : Cx} {P : Addr} {q : Str} {own : List Nat}
end
def CalR (P : Program) (w : World) (K : PySem.W.Frag) (mg : Str → Option Value) (base : Heap) (k : Nat) (x : Str) (n : Nat) (i0 : Int) (G : Addr → (PyData → PyData → Option PyData) → List PyData → R PyData) : Prop :=
  ∃ (fa : Addr) (fd : FuncData) (ps : List Str) (ds : List Value), ps.length = n ∧ (∀ hp rr, CallT P w K mg base 1 hp rr → FnR P w K mg base k hp fa fd ps (spN K mg n (G hp.f rr))) ∧ mg x = some (.ref fa) ∧ PySem.W.keepIn K (.ref fa) = true ∧ Binds K fd ps [] ∧ Binds K fd ps ds ∧ Vals [V.int i0] ds
end Pu
set_option Elab.async false
set_option linter.all false
set_option maxRecDepth 100000
set_option maxHeartbeats 4000000
namespace Pu
open PySem PySem.Spec PyProof.Rows L2
theorem units65 {k : Nat} {A : Around} (r : Room k A) : A.units + 65 < cLine := by have := r.un; omega
def gInL (d : PyData) : PyData → Option PyData
  | .list ds => if (SeqAt.shaped d && SeqAt.shaped (.list ds)) = true then some (.bool (ds.any fun z => PyData.eqv z d)) else Option.none
  | _ => Option.none
def gNinL (d : PyData) : PyData → Option PyData
  | .list ds => if (SeqAt.shaped d && SeqAt.shaped (.list ds)) = true then some (.bool (!ds.any fun z => PyData.eqv z d)) else Option.none
  | _ => Option.none
theorem op2_inL {K : PySem.W.Frag} : Op2 K (rInD K) gInL := fun H O x y d e z Q hO rx ry h q => by
  unfold gInL at h
  cases e with
  | list ds =>
    dsimp only at h
    by_cases c : (SeqAt.shaped d && SeqAt.shaped (.list ds)) = true
    · rw [if_pos c] at h
      cases h
      rw [Bool.and_eq_true] at c
      exact ⟨d, ds, rx.dp (SeqAt.canLay_of_shaped c.1) hide_sub, ry.dp (SeqAt.canLay_of_shaped c.2) hide_sub, c.1, c.2, q _ H (Same.refl H) (.bl _)⟩
    · rw [if_neg c] at h; cases h
  | _ => cases h
theorem op2_ninL {K : PySem.W.Frag} : Op2 K (rNotInD K) gNinL := fun H O x y d e z Q hO rx ry h q => by
  unfold gNinL at h
  cases e with
  | list ds =>
    dsimp only at h
    by_cases c : (SeqAt.shaped d && SeqAt.shaped (.list ds)) = true
    · rw [if_pos c] at h
      cases h
      rw [Bool.and_eq_true] at c
      exact ⟨d, ds, rx.dp (SeqAt.canLay_of_shaped c.1) hide_sub, ry.dp (SeqAt.canLay_of_shaped c.2) hide_sub, c.1, c.2, q _ H (Same.refl H) (.bl _)⟩
    · rw [if_neg c] at h; cases h
  | _ => cases h
end Pu
set_option Elab.async false
set_option linter.all false
set_option maxRecDepth 100000
set_option maxHeartbeats 4000000
namespace Pu
open PySem PySem.Spec PyProof.Rows L2
section
variable {X : Cx} {p : Addr × Obj} {pins : List (Addr × Obj)} {σ : L2.St} {H : Hp} {s : Shared}
end
section
variable {X : Cx} {pins : List (Addr × Obj)} {σ : L2.St} {H : Hp} {s : Shared}
end
end Pu
set_option Elab.async false
set_option linter.all false
set_option maxRecDepth 100000
set_option maxHeartbeats 4000000
namespace Pu
open PySem PySem.Spec PyProof.Rows L2
theorem FnR.imp {P : Program} {w : World} {K : PySem.W.Frag} {mg : Str → Option Value} {base : Heap} {k : Nat} {p : Hf} {f : Addr} {fd : FuncData} {ps : List Str} {sp sp' : Sp} (F : FnR P w K mg base k p f fd ps sp) (h : ∀ vs H Q E, sp' vs H Q E → sp vs H Q E) : FnR P w K mg base k p f fd ps sp' :=
  ⟨fun vs H Q E q => F.len vs H Q E (h _ _ _ _ q), fun A outer s H args us vs Q E hr e0 hb r hh q => F.run A outer s H args us vs Q E hr e0 hb r hh (h _ _ _ _ q)⟩
def CalD (P : Program) (w : World) (K : PySem.W.Frag) (mg : Str → Option Value) (base : Heap) (k : Nat) (x : Str) (n : Nat) (dv : List PyData) (G : Addr → (PyData → PyData → Option PyData) → List PyData → R PyData) : Prop :=
  ∃ (fa : Addr) (fd : FuncData) (ps : List Str) (ds : List Value) (dvV : List V), ps.length = n ∧ (∀ hp rr, CallT P w K mg base 1 hp rr → FnR P w K mg base k hp fa fd ps (spD K mg n (G hp.f rr))) ∧ mg x = some (.ref fa) ∧ PySem.W.keepIn K (.ref fa) = true ∧ Binds K fd ps ds ∧ Vals dvV ds ∧ ∀ F, Rps K F dvV dv
theorem CalR.all {P : Program} {w : World} {K : PySem.W.Frag} {mg : Str → Option Value} {base : Heap} {k n : Nat} {x : Str} {i0 : Int} {G : Addr → (PyData → PyData → Option PyData) → List PyData → R PyData} (h : CalR P w K mg base k x n i0 G) : CalD P w K mg base k x n [] (fun f rr ds => newL (G f rr ds)) := by
  obtain ⟨fa, fd, ps, ds, h1, h2, h3, h4, h5, h6, h7⟩ := h
  exact ⟨fa, fd, ps, [], [], h1, fun hp rr ct => (h2 hp rr ct).imp spN_of, h3, h4, h5, .nil, fun F => .nil⟩
theorem CalR.one {P : Program} {w : World} {K : PySem.W.Frag} {mg : Str → Option Value} {base : Heap} {k n : Nat} {x : Str} {i0 : Int} {G : Addr → (PyData → PyData → Option PyData) → List PyData → R PyData} (h : CalR P w K mg base k x n i0 G) : CalD P w K mg base k x n [.int i0] (fun f rr ds => newL (G f rr ds)) := by
  obtain ⟨fa, fd, ps, ds, h1, h2, h3, h4, h5, h6, h7⟩ := h
  exact ⟨fa, fd, ps, ds, [.int i0], h1, fun hp rr ct => (h2 hp rr ct).imp spN_of, h3, h4, h6, h7, fun F => .cons (.int _) .nil⟩
end Pu
set_option Elab.async false
set_option linter.all false
set_option maxRecDepth 100000
set_option maxHeartbeats 4000000
namespace Pu
open PySem PySem.Spec PyProof.Rows L2
theorem hb0 : ∀ p ∈ HB0.b, False := fun p hp => absurd (show p ∈ ([] : List (Nat × Addr)) from hp) (by simp)
section
variable {X : Cx} {P : Addr} {nm : Nat → Nat → Str} {own : List Nat}
end
end Pu
set_option Elab.async false
set_option linter.all false
set_option maxRecDepth 100000
set_option maxHeartbeats 4000000
namespace Pu
open PySem PySem.Spec PyProof.Rows L2
end Pu
set_option Elab.async false
set_option linter.all false
set_option maxRecDepth 100000
set_option maxHeartbeats 4000000
namespace Pu
open PySem PySem.Spec PyProof.Rows L2
section
variable {K : PySem.W.Frag} {H : Hp}
theorem RpT.length : ∀ {kvs : List (List Key × V)} {ds : List (PyData × PyData)}, RpT K H kvs ds → kvs.length = ds.length
  | _, _, .nil => rfl
  | _, _, .cons _ r => congrArg Nat.succ r.length
end
section
variable {X : Cx} {W : WX} {own : List Nat}
end
end Pu
set_option Elab.async false
set_option linter.all false
set_option maxRecDepth 100000
set_option maxHeartbeats 4000000
namespace Pu
open PySem PySem.Spec PyProof.Rows L2
section
variable {X : Cx} {W : WX}
end
end Pu
set_option Elab.async false
set_option linter.all false
set_option maxRecDepth 100000
set_option maxHeartbeats 4000000
namespace Pu
open PySem PySem.Spec PyProof.Rows L2
section
variable {X : Cx} {W : WX} {own : List Nat}
end
end Pu
set_option Elab.async false
set_option linter.all false
set_option maxRecDepth 100000
set_option maxHeartbeats 4000000
namespace Pu
open PySem PySem.Spec PyProof.Rows L2
section
variable {X : Cx} {W : WX} {tg : Expr}
end
end Pu
set_option Elab.async false
set_option linter.all false
set_option maxRecDepth 100000
set_option maxHeartbeats 4000000
namespace Pu
open PySem PySem.Spec PyProof.Rows L2
section
variable {X : Cx} {W : WX} {own : List Nat} {iu : Nat}
end
end Pu
set_option Elab.async false
set_option linter.all false
set_option maxRecDepth 100000
set_option maxHeartbeats 4000000
namespace Pu
open PySem PySem.Spec PyProof.Rows L2
section
variable {X : Cx} {W : WX}
end
end Pu
set_option Elab.async false
set_option linter.all false
set_option maxRecDepth 100000
set_option maxHeartbeats 4000000
namespace Pu
open PySem PySem.Spec PyProof.Rows L2
section
variable {P : Program} {w : World} {K : PySem.W.Frag} {mg : Str → Option Value} {base : Heap}
end
section
variable {X : Cx} {W : WX}
end
end Pu
set_option Elab.async false
set_option linter.all false
set_option maxRecDepth 100000
set_option maxHeartbeats 4000000
namespace Pu
open PySem PySem.Spec PyProof.Rows L2
def eqvX (d e : PyData) : Bool := flatD d e || (shp d && shp e && PyData.eqv d e)
def sameX (ks ls : List (PyData × PyData)) : Bool := decide (ks.length = ls.length) && ks.all fun p => match keyD p.1 with
  | some k => match valD ls k with
    | some e => eqvX p.2 e
    | none => false
  | none => false
def gDeqX (d e : PyData) : Option PyData := match d, e with
  | .dict ks, .dict ls => if (!insB ks && !insB ls && sameX ks ls) = true then some (.bool true) else none
  | _, _ => none
def likeV (K : PySem.W.Frag) (H : Hp) (v w : V) : Prop := (v = w ∧ flatB v = true) ∨ ∃ d e, Dp K H v d ∧ Dp K H w e ∧ shp d = true ∧ shp e = true ∧ PyData.eqv d e = true
theorem like_of {K : PySem.W.Frag} {H H' : Hp} {v w : V} {d e : PyData} (r : Rp K H v d) (r2 : Rp K H w e) (hs : Same H H') (h : eqvX d e = true) : likeV K H' v w := by
  unfold eqvX at h
  rcases Bool.or_eq_true_iff.mp h with h | h
  · exact .inl (flat_of r r2 h)
  · simp only [Bool.and_eq_true] at h
    exact .inr ⟨d, e, r.dp (canLay_of_shp h.1.1) hs, r2.dp (canLay_of_shp h.1.2) hs, h.1.1, h.1.2, h.2⟩
theorem likes_of {K : PySem.W.Frag} {H H' : Hp} (hs : Same H H') {ls : List (PyData × PyData)} {vl : List (Key × V)} (rl : Rpd K H vl ls) : ∀ {vk : List (Key × V)} {ks : List (PyData × PyData)}, Rpd K H vk ks → (ks.all fun p => match keyD p.1 with
  | some k => match valD ls k with
    | some e => eqvX p.2 e
    | none => false
  | none => false) = true → ∀ p ∈ vk, ∃ w, valV vl p.1 = some w ∧ likeV K H' p.2 w
  | _, _, .nil, _, p, hp => by cases hp
  | _, _, @Rpd.cons _ _ k v vs d ds h r, e, p, hp => by
    rw [List.all_cons, Bool.and_eq_true] at e
    rcases List.mem_cons.mp hp with z | z
    · subst z
      have e1 := e.1
      rw [keyD_kD] at e1
      rcases rpd_val k rl with ⟨w, d', h1, h2, h3⟩ | ⟨h1, h2⟩
      · dsimp only at e1
        rw [h2] at e1
        exact ⟨w, h1, like_of h h3 hs e1⟩
      · dsimp only at e1
        rw [h2] at e1; cases e1
    · exact likes_of hs rl r e.2 p z
theorem hits_allX {X : Cx} {pins : List (Addr × Obj)} {σ : L2.St} {H : Hp} {s : Shared} (I : Inv X pins σ H s) {A : Around} (hu : A.units + 190 < cLine) {kvs : List (Key × V)} {vb : List (Key × Value)} (rb : KV kvs vb) {ks : List (Key × V)} {va : List (Key × Value)} (ra : KV ks va) :
    (∀ p ∈ ks, ∃ w, valV kvs p.1 = some w ∧ likeV X.K H p.2 w) → PySem.W.KeqHits A s vb va true := by
  unfold KV at ra
  induction ra with
  | nil => intro _; exact .nil
  | @cons p q ps qs h t ih =>
    intro hp
    obtain ⟨h1, h2⟩ := h
    obtain ⟨w, e, f⟩ := hp p List.mem_cons_self
    have rr : RelO (some w) (valueAt vb p.1) := by rw [← e]; exact rb.val p.1
    obtain ⟨y, hy, ry⟩ := rr.some_of
    obtain ⟨k, v⟩ := q
    have h1' : p.1 = k := h1
    rw [h1'] at hy
    show PySem.W.KeqHits A s vb ((k, v) :: qs) (true && true)
    refine .hit hy ?_ (ih fun p' hm => hp p' (List.mem_cons_of_mem _ hm))
    rcases f with ⟨f1, f2⟩ | ⟨d, e', r1, r2, s1, s2, ev⟩
    · rw [← f1] at ry
      exact eqAt_same h2 ry f2
    · obtain ⟨as, q1⟩ := Dp.reads I d _ _ r1 h2
      obtain ⟨bs, q2⟩ := Dp.reads I e' _ _ r2 ry
      have := SeqAt.eqAt_reads d e' A s _ _ as bs q1 q2 (canLay_of_shp s1) (canLay_of_shp s2) (room_of_shp s1 hu)
      rw [ev] at this
      exact this
def rEqX' (K : PySem.W.Frag) : R2 := fun x y H Q => ∃ a c ks ls, x = .ref a ∧ y = .ref c ∧ Rd H a (.dK ks) ∧ Rd H c (.dK ls) ∧ ks.length = ls.length ∧ (∀ p ∈ ks, ∃ w, valV ls p.1 = some w ∧ likeV K H p.2 w) ∧ Q (.bl true) H
theorem op_eqX' {X : Cx} (hu : X.A.units + 190 + 1 < cLine) : OpR X (compareOp .Eq) (rEqX' X.K) := by
  intro pins s σ H x y v u Q I rx ry h
  obtain ⟨a, b, ks, ls, rfl, rfl, ea, eb, hlen, hp, q⟩ := h
  obtain rfl : v = Value.ref a := rx
  obtain rfl : u = Value.ref b := ry
  obtain ⟨_, ya, va, ra, da⟩ := (show ObjOk X.prog X.w H s.heap a (.dK ks) from ea.ok I.hok)
  obtain ⟨_, yb, vb, rb, db⟩ := (show ObjOk X.prog X.w H s.heap b (.dK ls) from eb.ok I.hok)
  have hl : va.length = vb.length := by rw [← ra.length, ← rb.length]; exact hlen
  exact PySem.W.keq_eq (knd := mixKind X.prog X.w) (r := true) ya yb da db (by omega) (fun _ => hits_allX I (by show X.A.units + 1 + 190 < cLine; omega) rb ra hp) (fin_bl I q (by simp [hl]))
theorem _root_.L2.Room.un191 {k : Nat} {A : Around} (r : Room k A) : A.units + 190 + 1 < cLine := by have := r.un; omega
theorem op2_dEqX {K : PySem.W.Frag} : Op2 K (rEqX' K) gDeqX := by
  intro H O x y d e z Q hO rx ry h q
  unfold gDeqX at h
  cases d with
  | dict ks =>
    cases e with
    | dict ls =>
      dsimp only at h
      by_cases c : (!insB ks && !insB ls && sameX ks ls) = true
      · rw [if_pos c] at h
        cases h
        simp only [Bool.and_eq_true, Bool.not_eq_true'] at c
        obtain ⟨⟨c1, c2⟩, c3⟩ := c
        unfold sameX at c3
        rw [Bool.and_eq_true] at c3
        cases rx with
        | dic h1 r1 =>
          cases ry with
          | dic h2 r2 =>
            exact ⟨_, _, _, _, rfl, rfl, rd_mono hide_sub h1, rd_mono hide_sub h2, by rw [r1.length, r2.length]; exact of_decide_eq_true c3.1, likes_of hide_sub r2 r1 c3.2, q _ H (Same.refl H) (.bl _)⟩
          | ins => cases c2
          | fn _ => cases c2
          | fn0 => cases c2
          | dct => cases c2
          | tpx => cases c2
        | ins => cases c1
        | fn _ => cases c1
        | fn0 => cases c1
        | dct => cases c1
        | tpx => cases c1
      · rw [if_neg c] at h; cases h
    | _ => cases h
  | _ => cases h
def itK (p : PyData × PyData) : PyData := p.1
end Pu
set_option Elab.async false
set_option linter.all false
set_option maxRecDepth 100000
set_option maxHeartbeats 4000000
namespace Pu
open PySem PySem.Spec PyProof.Rows L2
structure InM (K : PySem.W.Frag) (H0 : Hp) (O : List Addr) (H : Hp) (U : Addr) (kvs : List (Key × V)) (ds : List (PyData × PyData)) : Prop where
  len : kvs.length = ds.length
  keys : (kvs.map (·.1)).Nodup
  mem : ∀ (j : Nat) (k : Key) (v : V), kvs[j]? = some (k, v) → ∃ a vs es, v = .ref a ∧ ds[j]? = some (kD k, .list es) ∧ a ∈ O ∧ a ≠ U ∧ H0 a = none ∧ H a = some (.lst vs) ∧ Rps K (hide O H) vs es
  inj : ∀ (i j : Nat) (k l : Key) (a : Addr), kvs[i]? = some (k, .ref a) → kvs[j]? = some (l, .ref a) → i = j
structure RelM (K : PySem.W.Frag) (iu : Nat) (H0 : Hp) (O0 O : List Addr) (σ : L2.St) (H : Hp) (ρ : Vars) : Prop where
  base : Rel K [] ⟨H0, []⟩ O0 O σ H (ρ.set iu none)
  deep : ∃ U kvs ds, ρ[iu]? = some (some (.dict ds)) ∧ σ[iu]? = some (some (.ref U)) ∧ U ∈ O ∧ H0 U = none ∧ H U = some (.dK kvs) ∧ InM K H0 O H U kvs ds
theorem InM.mono {K : PySem.W.Frag} {H0 : Hp} {O O' : List Addr} {H H' : Hp} {U : Addr} {kvs : List (Key × V)} {ds : List (PyData × PyData)} (h : InM K H0 O H U kvs ds) (sO : ∀ a ∈ O, a ∈ O') (s : ∀ a o, a ≠ U → H0 a = none → H a = some o → H' a = some o) (sF : Same (hide O H) (hide O' H')) : InM K H0 O' H' U kvs ds := ⟨h.len, h.keys, fun j k v e => by
  obtain ⟨a, vs, es, e1, e2, e3, e4, e5, e6, e7⟩ := h.mem j k v e
  exact ⟨a, vs, es, e1, e2, sO a e3, e4, e5, s a _ e4 e5 e6, e7.mono sF⟩, h.inj⟩
theorem rpd_ofIx {K : PySem.W.Frag} {F : Hp} : ∀ {kvs : List (Key × V)} {ds : List (PyData × PyData)}, kvs.length = ds.length → (∀ (j : Nat) (k : Key) (v : V), kvs[j]? = some (k, v) → ∃ d, ds[j]? = some (kD k, d) ∧ Rp K F v d) → Rpd K F kvs ds
  | [], [], _, _ => .nil
  | [], _ :: _, l, _ => by cases l
  | _ :: _, [], l, _ => by cases l
  | (k, v) :: kvs, p :: ds, l, h => by
    obtain ⟨d, e1, e2⟩ := h 0 k v rfl
    have e1 : p = (kD k, d) := by simpa using e1
    subst e1
    exact .cons e2 (rpd_ofIx (by simpa using l) fun j k v e => h (j + 1) k v e)
theorem InM.rpd {K : PySem.W.Frag} {H0 : Hp} {O : List Addr} {H F : Hp} {U : Addr} {kvs : List (Key × V)} {ds : List (PyData × PyData)} (h : InM K H0 O H U kvs ds) (sF : Same (hide O H) F) (s : ∀ a o, a ≠ U → H0 a = none → a ∈ O → (∃ (j : Nat) (k : Key), kvs[j]? = some (k, .ref a)) → H a = some o → F a = some o) : Rpd K F kvs ds := rpd_ofIx h.len fun j k v e => by
  obtain ⟨a, vs, es, rfl, e2, e3, e4, e5, e6, e7⟩ := h.mem j k v e
  exact ⟨_, e2, .lst (.inl (.inl (s a _ e4 e5 e3 ⟨j, k, e⟩ e6))) (e7.mono sF)⟩
section
variable {K : PySem.W.Frag} {iu : Nat} {H0 : Hp} {O0 O : List Addr} {σ : L2.St} {H H' : Hp} {ρ : Vars}
theorem RelM.stands (r : RelM K iu H0 O0 O σ H ρ) : Stands O H := r.base.stands
theorem RelM.stands0 (r : RelM K iu H0 O0 O σ H ρ) : Stands O0 H := r.base.stands0
theorem RelM.same (r : RelM K iu H0 O0 O σ H ρ) : Same H0 H := r.base.same
theorem RelM.vrel0 (r : RelM K iu H0 O0 O σ H ρ) : VRel K (hide O0 H) σ ρ := ⟨by simpa using r.base.len, fun i d e => by
  by_cases c : i = iu
  · subst c
    obtain ⟨U, kvs, ds, h1, h2, h3, h4, h5, h6⟩ := r.deep
    rw [h1] at e
    cases e
    exact ⟨_, h2, .dic (.inl (hide_of (r.base.notO0 h4) h5)) (h6.rpd (hide_less r.base.sub) fun a o _ g1 _ _ g => hide_of (r.base.notO0 g1) g)⟩
  · exact r.base.vrel0.get i d (by rw [set_getElem? c]; exact e)⟩
theorem RelM.vrelM (r : RelM K iu H0 O0 O σ H ρ) : VRel K (hide O H) σ (mask [iu] ρ) := by
  rw [mask_setN]; exact r.base.vrelM
theorem RelM.imm (r : RelM K iu H0 O0 O σ H ρ) {v : V} {d : PyData} (h : Rp K (hide O0 H) v d) (e : imm d = true) : Rp K (hide O H) v d := r.base.imm h e
theorem RelM.step (r : RelM K iu H0 O0 O σ H ρ) (s : Same H H') : RelM K iu H0 O0 O σ H' ρ := ⟨r.base.step s, by
  obtain ⟨U, kvs, ds, h1, h2, h3, h4, h5, h6⟩ := r.deep
  exact ⟨U, kvs, ds, h1, h2, h3, h4, s _ _ h5, h6.mono (fun _ h => h) (fun a o _ _ h => s _ _ h) (hide_same s)⟩⟩
theorem RelM.set (r : RelM K iu H0 O0 O σ H ρ) {i : Nat} {v : V} {d : PyData} (c2 : i ≠ iu) (h : Rp K (hide O H) v d) : RelM K iu H0 O0 O (σ.set i (some v)) H (ρ.set i (some d)) := ⟨by
    rw [List.set_comm _ _ c2]; exact r.base.set (by simp) h, by
  obtain ⟨U, kvs, ds, h1, h2, h⟩ := r.deep
  exact ⟨U, kvs, ds, by rw [List.getElem?_set_ne c2]; exact h1, by rw [List.getElem?_set_ne c2]; exact h2, h⟩⟩
theorem RelM.other (r : RelM K iu H0 O0 O σ H ρ) {σ' : L2.St} {ρ' : Vars} {js : List Nat} (hj : ∀ j ∈ js, j ∉ [iu]) (hl : σ'.length = σ.length) (v : VRel K (hide O H) σ' (mask [iu] ρ')) (f : ∀ j : Nat, j ∉ js → σ'[j]? = σ[j]? ∧ (mask [iu] ρ')[j]? = (mask [iu] ρ)[j]?) (f2 : ∀ j : Nat, j ∉ js → ρ'[j]? = ρ[j]?) : RelM K iu H0 O0 O σ' H ρ' := ⟨by
    exact r.base.other (js := js) (fun j h z => by cases z) hl (by rw [← mask_setN]; exact v) (fun j h => by rw [← mask_setN, ← mask_setN]; exact f j h) fun j ho => (by cases ho), by
  obtain ⟨U, kvs, ds, h1, h2, h⟩ := r.deep
  have nu : iu ∉ js := fun z => hj iu z (by simp)
  exact ⟨U, kvs, ds, by rw [f2 iu nu]; exact h1, by rw [(f iu nu).1]; exact h2, h⟩⟩
theorem Rel.updM (r : Rel K [] ⟨H0, []⟩ O0 O σ H ρ) {a : Addr} {o : HO} (ha : a ∈ O) (h0 : H0 a = Option.none) (ho : OwnO o) :
    Rel K [] ⟨H0, []⟩ O0 O σ (upd H a o) ρ ∧ Same (hide O H) (hide O (upd H a o)) := by
  have hid : ∀ o', hide O (upd H a o') = hide O H := fun o' => by
    funext b
    unfold hide
    by_cases c : b ∈ O
    · rw [if_pos c, if_pos c]
    · rw [if_neg c, if_neg c, upd_ne (fun z => c (by rw [z]; exact ha))]
  refine ⟨⟨fun b o' hb => ?_, r.st0, r.len, r.sub, fun b hb => ?_, fun i d c e => by rw [hid]; exact r.free i d c e, fun i d c e => (by cases c), r.apart, (fun p hp => nomatch hp), (fun p hp => nomatch hp), r.mark⟩, by rw [hid]; exact Same.refl _⟩
  · rw [upd_ne (ne_of_none hb h0)]; exact r.same b o' hb
  · by_cases n : b = a
    · subst n; exact .inr ⟨h0, _, upd_same, ho⟩
    · rw [upd_ne n]; exact r.lists b hb
theorem Rel.growM (r : Rel K [] ⟨H0, []⟩ O0 O σ H ρ) {p : Addr} {o : HO} (s : Same H H') (hp : H p = Option.none) (hp' : H' p = some o) (ho : OwnO o) : Rel K [] ⟨H0, []⟩ O0 (p :: O) σ H' ρ ∧ Same (hide O H) (hide (p :: O) H') := by
  have sF : Same (hide O H) (hide (p :: O) H') := fun a o h => by
    obtain ⟨c, e⟩ := hide_some h
    exact hide_of (fun z => (List.mem_cons.mp z).elim (ne_of_none e hp) c) (s a o e)
  have r1 : Rel K [] ⟨H0, []⟩ O0 O σ H' ρ := r.step s
  refine ⟨⟨r1.same, r1.st0, r1.len, fun a ha => List.mem_cons_of_mem _ (r1.sub a ha), fun a ha => ?_, fun j d cj q => ?_, fun j d cj q => (by cases cj), r.apart, (fun p hp => nomatch hp), (fun p hp => nomatch hp), r.mark⟩, sF⟩
  · rcases List.mem_cons.mp ha with e | ha
    · rw [e]; exact .inr ⟨r.same.free hp, _, hp', ho⟩
    · exact r1.lists a ha
  · obtain ⟨v, h1, h2⟩ := r.free j d cj q
    exact ⟨v, h1, h2.mono sF⟩
theorem RelM.freeze (r : RelM K iu H0 O0 O σ H ρ) : Rel K [] ⟨H0, []⟩ O0 O0 σ H ρ := by
  have v := r.vrel0
  exact ⟨r.base.same, r.base.st0, v.len, fun a ha => ha, fun a ha => .inl ha, fun i d c e => v.get i d e, fun i d c e => (by cases c), fun i j d e a ci => (by cases ci), (fun p hp => nomatch hp), (fun p hp => nomatch hp), r.base.mark⟩
end
section
variable (X : Cx) (W : WX) (iu : Nat)
def MOut (H0 : Hp) (O0 O : List Addr) (H : Hp) (D : Ends) : Out → Prop
  | .nx ρ => ∀ σ' H' O', RelM X.K iu H0 O0 O' σ' H' ρ → Same (hide O H) (hide O' H') → D.nx σ' H'
  | .err c ρ => ∀ σ' H' O', RelM X.K iu H0 O0 O' σ' H' ρ → Same (hide O H) (hide O' H') → W (exV X.mg c) none σ' H'
  | .rt d => ∀ v H', Same H0 H' → Rp X.K (hide O0 H') v d → D.rt v H'
  | .bk ρ => ∀ σ' H' O', RelM X.K iu H0 O0 O' σ' H' ρ → Same (hide O H) (hide O' H') → D.bk σ' H'
  | .ct ρ => ∀ σ' H' O', RelM X.K iu H0 O0 O' σ' H' ρ → Same (hide O H) (hide O' H') → D.ct σ' H'
  | .bad => False
def MX (st : Stmt) (g : Vars → Out) : Prop :=
  ∃ t, PS X st t ∧ ∀ σ H ρ D H0 O0 O, RelM X.K iu H0 O0 O σ H ρ → MOut X W iu H0 O0 O H D (g ρ) → t D σ H
def MsX (sts : List Stmt) (g : Vars → Out) : Prop :=
  ∃ t, PSs X sts t ∧ ∀ σ H ρ D H0 O0 O, RelM X.K iu H0 O0 O σ H ρ → MOut X W iu H0 O0 O H D (g ρ) → t D σ H
end
section
variable {X : Cx} {W : WX} {iu : Nat}
theorem MOut.from {H0 : Hp} {O0 O O' : List Addr} {H H' : Hp} {D : Ends} {o : Out} (h : MOut X W iu H0 O0 O H D o) (s : Same (hide O H) (hide O' H')) : MOut X W iu H0 O0 O' H' D o := by
  cases o with
  | nx ρ => exact fun σ' H'' O'' r s' => h σ' H'' O'' r (s.trans s')
  | err c ρ => exact fun σ' H'' O'' r s' => h σ' H'' O'' r (s.trans s')
  | bk ρ => exact fun σ' H'' O'' r s' => h σ' H'' O'' r (s.trans s')
  | ct ρ => exact fun σ' H'' O'' r s' => h σ' H'' O'' r (s.trans s')
  | _ => exact h
theorem EOut.runM {f : R PyData} {k : PyData → Out} {O : List Addr} {H0 : Hp} {O0 O1 : List Addr} {σ : L2.St} {H : Hp} {ρ : Vars} {D : Ends} {Q : VK} (r : RelM X.K iu H0 O0 O1 σ H ρ) (z : MOut X W iu H0 O0 O1 H D (f.run ρ k))
    (q : ∀ d v H', Same H H' → Rp X.K (hide O H') v d → MOut X W iu H0 O0 O1 H' D (k d) → RelM X.K iu H0 O0 O1 σ H' ρ → Q v H') : EOut X W O σ H Q f := by
  cases f with
  | ok d => exact fun v H' s rv => q d v H' s rv (MOut.from z (hide_same s)) (r.step s)
  | err c => exact fun H' s => z σ H' O1 (r.step s) (hide_same s)
  | bad => exact z
theorem TOut.runM {f : R Bool} {k : Bool → Out} {H0 : Hp} {O0 O1 : List Addr} {σ : L2.St} {H : Hp} {ρ : Vars} {D : Ends} {Q : Bool → Hp → Prop} (r : RelM X.K iu H0 O0 O1 σ H ρ) (z : MOut X W iu H0 O0 O1 H D (f.run ρ k))
    (q : ∀ d H', Same H H' → MOut X W iu H0 O0 O1 H' D (k d) → RelM X.K iu H0 O0 O1 σ H' ρ → Q d H') : TOut X W σ H Q f := by
  cases f with
  | ok d => exact fun H' s => q d H' s (MOut.from z (hide_same s)) (r.step s)
  | err c => exact fun H' s => z σ H' O1 (r.step s) (hide_same s)
  | bad => exact z
theorem msx_nil : MsX X W iu [] sNil := ⟨_, pss_nil, fun σ H ρ D H0 O0 O r z => z σ H O r (Same.refl _)⟩
theorem msx_cons {st : Stmt} {rest : List Stmt} {g h : Vars → Out} (a : MX X W iu st g) (b : MsX X W iu rest h) : MsX X W iu (st :: rest) (sSeq g h) := by
  obtain ⟨t, p, ht⟩ := a
  obtain ⟨u, q, hu⟩ := b
  refine ⟨_, pss_cons p q, fun σ H ρ D H0 O0 O r z => ht σ H ρ _ H0 O0 O r ?_⟩
  unfold sSeq at z
  cases e : g ρ with
  | nx ρ1 => rw [e] at z; exact fun σ1 H1 O1 r1 s1 => hu σ1 H1 ρ1 D H0 O0 O1 r1 (MOut.from z s1)
  | rt d => rw [e] at z; exact z
  | bk ρ1 => rw [e] at z; exact z
  | ct ρ1 => rw [e] at z; exact z
  | err c ρ1 => rw [e] at z; exact z
  | bad => rw [e] at z; exact z
theorem msx_one {st : Stmt} {g : Vars → Out} (a : MX X W iu st g) : MsX X W iu [st] g := by
  obtain ⟨t, p, ht⟩ := a
  exact ⟨_, pss_one p, ht⟩
theorem mx_if {c : Expr} {a b : List Stmt} {tc : Vars → R Bool} {g h : Vars → Out} {pos : Pos} (hc : TX X W c tc) (ha : MsX X W iu a g) (hb : MsX X W iu b h) : MX X W iu (.If c a b pos) (sIf tc g h) := by
  obtain ⟨t, p, ht⟩ := hc
  obtain ⟨ta, pa, hta⟩ := ha
  obtain ⟨tb, pb, htb⟩ := hb
  refine ⟨_, ps_if p pa pb, fun σ H ρ D H0 O0 O r z => ht σ H O0 ρ _ r.stands0 r.vrel0 (TOut.runM r z fun d H' s z' r' => ?_)⟩
  cases d with
  | true => exact hta σ H' ρ D H0 O0 O r' z'
  | false => exact htb σ H' ρ D H0 O0 O r' z'
theorem mx_set {i : Nat} {x : Str} {e : Expr} {f : Vars → R PyData} {pos' pos : Pos} (hN : X.N.Nodup) (hi : X.N[i]? = some x) (hx : Loc X.env.scope x) (h : EX X W e f) (ho : ([iu] : List Nat).contains i = false) (hs : swapsWith e (some (.Name x pos')) pos.line X.env = pure false := by rfl) (hf : X.fn x = true ∨ X.env.scope.names.lookup x = some .local := by first | exact .inl rfl | exact .inr rfl | assumption) :
    MX X W iu (.Assign [.Name x pos'] e pos) (sSetD i f) := by
  obtain ⟨t, p, ht⟩ := h
  have hi' : i ≠ iu := fun z => by rw [z] at ho; simp at ho
  refine ⟨_, ps_set hN hi hx p hs hf, fun σ H ρ D H0 O0 O r z => ht σ H O0 ρ _ r.stands0 r.vrel0 (EOut.runM r z fun d v H' s rv z' r' => ?_)⟩
  by_cases c : imm d = true
  · rw [if_pos c] at z'
    exact z' _ H' O (r'.set hi' (r'.imm rv c)) (Same.refl _)
  · rw [if_neg c] at z'; exact z'.elim
theorem mx_for {tg iter : Expr} {body : List Stmt} {js : List Nat} {fi : Vars → R (List PyData)} {gt : PyData → Vars → Option Vars} {g : Vars → Out} {pos : Pos} (hp : PassesOwn (model X.prog X.w) X.A X.env X.xe) (hc : X.calm = true) (hi : IX X W tg iter fi) (hg : GX X tg js gt) (hin : GtIn js gt) (ho : (js.all fun j => !([iu] : List Nat).contains j) = true)
    (hb : MsX X W iu body g) (hs : ∀ x, foldedSetIterable iter X.env x = pure x := by intro _; rfl) : MX X W iu (.For tg iter body [] pos) (sForD iu [] fi gt g) := by
  obtain ⟨wi, p, hwi⟩ := hi
  obtain ⟨ok, tgt, q, hgt⟩ := hg
  obtain ⟨tb, pb, htb⟩ := hb
  have hj : ∀ j ∈ js, j ∉ [iu] := fun j h z => by
    have := List.all_eq_true.mp ho j h
    rw [List.contains_iff_mem.mpr z] at this; cases this
  refine ⟨_, ps_for hp hc p q pb hs, fun σ H ρ D H0 O0 O r z => ?_⟩
  refine hwi σ H O (mask [iu] ρ) _ r.stands r.vrelM ?_
  unfold sForD at z
  cases e : fi (mask [iu] ρ) with
  | bad => rw [e] at z; exact z
  | err c => rw [e] at z; exact fun H' s => z σ H' O (r.step s) (hide_same s)
  | ok ds =>
    rw [e, R.run_ok] at z
    intro J H1 s1 hJ
    refine ⟨fun i m σ2 H2 => m = ds.length - i ∧ i ≤ ds.length ∧ ∃ O2 ρ2, RelM X.K iu H0 O0 O2 σ2 H2 ρ2 ∧ Same (hide O H1) (hide O2 H2) ∧ MOut X W iu H0 O0 O2 H2 D (forL gt g (ds.drop i) ρ2), ⟨ds.length, rfl, Nat.zero_le _, O, ρ, r.step s1, Same.refl _, MOut.from z (hide_same s1)⟩, ?_⟩
    rintro i m σ2 H2 ⟨rfl, hle, O2, ρ2, r2, sF, z2⟩
    obtain ⟨j1, j2⟩ := hJ i H2 O2 r2.stands sF
    by_cases hlt : i < ds.length
    · have hd : ds[i]? = some ds[i] := List.getElem?_eq_getElem hlt
      obtain ⟨g1, g2⟩ := j1 _ hd
      have hdrop : ds.drop i = ds[i] :: ds.drop (i + 1) := List.drop_eq_getElem_cons hlt
      rw [hdrop] at z2
      unfold forL at z2
      cases eg : gt ds[i] ρ2 with
      | none => rw [eg] at z2; exact z2.elim
      | some ρ3 =>
        rw [eg] at z2
        dsimp only at z2
        refine .inr ⟨g1, fun σ' H' => (i + 1 ≤ ds.length ∧ ∃ O2 ρ2, RelM X.K iu H0 O0 O2 σ' H' ρ2 ∧ Same (hide O H1) (hide O2 H') ∧ MOut X W iu H0 O0 O2 H' D (forL gt g (ds.drop (i + 1)) ρ2)),
          fun σ' H' hn => ⟨ds.length - (i + 1), by omega, rfl, hn.1, hn.2⟩, fun x H3 y => ?_⟩
        obtain ⟨s23, rx⟩ := g2 x H3 y
        have r3 := r2.step s23
        refine hgt x ds[i] σ2 H3 O2 (mask [iu] ρ2) (mask [iu] ρ3) _ r3.stands r3.vrelM rx (ok.msk [iu] _ ρ2 ρ3 hj eg) fun σ3 v3 l3 f3 => ?_
        have r4 : RelM X.K iu H0 O0 O2 σ3 H3 ρ3 := r3.other hj l3 v3 f3 (hin.out _ ρ2 ρ3 eg)
        have sF3 : Same (hide O H1) (hide O2 H3) := sF.trans (hide_same s23)
        refine htb σ3 H3 ρ3 _ H0 O0 O2 r4 ?_
        cases eb : g ρ3 with
        | nx ρ4 =>
          rw [eb] at z2
          exact fun σ5 H5 O5 r5 s5 => ⟨hlt, O5, ρ4, r5, sF3.trans s5, MOut.from z2 ((hide_same s23).trans s5)⟩
        | err c ρ4 =>
          rw [eb] at z2
          exact fun σ5 H5 O5 r5 s5 => z2 σ5 H5 O5 r5 ((hide_same s23).trans s5)
        | ct ρ4 =>
          rw [eb] at z2
          exact fun σ5 H5 O5 r5 s5 => ⟨hlt, O5, ρ4, r5, sF3.trans s5, MOut.from z2 ((hide_same s23).trans s5)⟩
        | bk ρ4 =>
          rw [eb] at z2
          exact fun σ5 H5 O5 r5 s5 => z2 σ5 H5 O5 r5 ((hide_same s23).trans s5)
        | rt d => rw [eb] at z2; exact z2
        | bad => rw [eb] at z2; exact z2
    · have e3 : i = ds.length := by omega
      subst e3
      refine .inl ⟨j2 (Nat.le_refl _), ?_⟩
      rw [List.drop_length] at z2
      exact z2 σ2 H2 O2 r2 (Same.refl _)
def sPutN (iu : Nat) (f : Vars → R (List PyData)) (k : Vars → R PyData) (ρ : Vars) : Out := match ρ.getD iu none with
  | some (.dict ds) => (f (mask [iu] ρ)).run ρ fun es => (k (mask [iu] ρ)).run ρ fun e => match keyD e with
    | some key => if ds.length < sizeLine then .nx (ρ.set iu (some (.dict (putD ds key (.list es))))) else .bad
    | none => .bad
  | _ => .bad
@[simp] theorem u_sPutN (f : Vars → R (List PyData)) (k : Vars → R PyData) (ρ : Vars) : sPutN iu f k ρ = match ρ.getD iu none with
  | some (.dict ds) => (f (mask [iu] ρ)).run ρ fun es => (k (mask [iu] ρ)).run ρ fun e => match keyD e with
    | some key => if ds.length < sizeLine then .nx (ρ.set iu (some (.dict (putD ds key (.list es))))) else .bad
    | none => .bad
  | _ => .bad := rfl
theorem InM.putNew {K : PySem.W.Frag} {H0 : Hp} {O : List Addr} {H : Hp} {U q : Addr} {kvs : List (Key × V)} {ds : List (PyData × PyData)} {key : Key} {vs : List V} {es : List PyData} (h : InM K H0 O H U kvs ds) (hq : q ∈ O) (nU : q ≠ U) (h0 : H0 q = none) (hp : H q = some (.lst vs)) (rs : Rps K (hide O H) vs es)
    (nq : ∀ (j : Nat) (k : Key), kvs[j]? ≠ some (k, .ref q)) : InM K H0 O H U (putK kvs key (.ref q)) (putD ds key (.list es)) := by
  have hany : (kvs.any fun kv => decide (kv.1 = key)) = (ds.any fun p => decide (keyD p.1 = some key)) := by
    have r : Rpd K (hide [] H) kvs ds := h.rpd (hide_less fun a ha => by cases ha) fun a o _ _ _ _ g => hide_of (by simp) g
    exact rpd_any key r
  unfold putK putD
  rw [hany]
  by_cases c : (ds.any fun p => decide (keyD p.1 = some key)) = true
  · rw [if_pos c, if_pos c]
    have hk : (kvs.map (fun kv => if kv.1 = key then (kv.1, V.ref q) else kv)).map (·.1) = kvs.map (·.1) := by
      rw [List.map_map]
      refine List.map_congr_left fun p _ => ?_
      show (if p.1 = key then (p.1, V.ref q) else p).1 = p.1
      split <;> rfl
    have uniq : ∀ (i j : Nat) (v w : V), kvs[i]? = some (key, v) → kvs[j]? = some (key, w) → i = j := fun i j v w e1 e2 => by
      have l1 := (List.getElem?_eq_some_iff.mp e1).1
      have l2 := (List.getElem?_eq_some_iff.mp e2).1
      have m1 : (kvs.map (·.1))[i]? = some key := by rw [List.getElem?_map, e1]; rfl
      have m2 : (kvs.map (·.1))[j]? = some key := by rw [List.getElem?_map, e2]; rfl
      have l1' : i < (kvs.map (·.1)).length := by rw [List.length_map]; exact l1
      have l2' : j < (kvs.map (·.1)).length := by rw [List.length_map]; exact l2
      rw [List.getElem?_eq_getElem l1'] at m1
      rw [List.getElem?_eq_getElem l2'] at m2
      exact (List.getElem_inj h.keys).mp (Option.some.inj (m1.trans m2.symm))
    have get : ∀ (j : Nat) (k : Key) (v : V), (kvs.map fun kv => if kv.1 = key then (kv.1, V.ref q) else kv)[j]? = some (k, v) → (k = key ∧ v = .ref q ∧ ∃ w, kvs[j]? = some (key, w)) ∨ (k ≠ key ∧ kvs[j]? = some (k, v)) := fun j k v e => by
      rw [List.getElem?_map] at e
      obtain ⟨p, e1, e2⟩ := Option.map_eq_some_iff.mp e
      by_cases d : p.1 = key
      · rw [if_pos d] at e2
        cases e2
        exact .inl ⟨d, rfl, p.2, by rw [e1, ← d]⟩
      · rw [if_neg d] at e2
        subst e2
        exact .inr ⟨d, e1⟩
    refine ⟨by rw [List.length_map, List.length_map]; exact h.len, by rw [hk]; exact h.keys, fun j k v e => ?_, fun i j k l a e1 e2 => ?_⟩
    · rcases get j k v e with ⟨rfl, rfl, w, e1⟩ | ⟨d, e1⟩
      · obtain ⟨a, _, es0, _, e2, _⟩ := h.mem j k w e1
        refine ⟨q, vs, es, rfl, ?_, hq, nU, h0, hp, rs⟩
        rw [List.getElem?_map, e2]
        show some (if keyD (kD k) = some k then _ else _) = _
        rw [if_pos (keyD_kD k)]
      · obtain ⟨a, us, es0, f1, e2, f3, f4, f5, f6, f7⟩ := h.mem j k v e1
        refine ⟨a, us, es0, f1, ?_, f3, f4, f5, f6, f7⟩
        rw [List.getElem?_map, e2]
        show some (if keyD (kD k) = some key then _ else _) = _
        rw [if_neg (by rw [keyD_kD]; intro z; cases z; exact d rfl)]
    · rcases get i k _ e1 with ⟨rfl, z1, w1, g1⟩ | ⟨d1, g1⟩ <;> rcases get j l _ e2 with ⟨rfl, z2, w2, g2⟩ | ⟨d2, g2⟩
      · exact uniq i j _ _ g1 g2
      · cases z1; exact absurd g2 (nq j l)
      · cases z2; exact absurd g1 (nq i k)
      · exact h.inj i j k l a g1 g2
  · rw [if_neg c, if_neg c]
    have nk : ∀ (j : Nat) (v : V), kvs[j]? ≠ some (key, v) := fun j v e => by
      rw [← hany] at c
      exact c (List.any_eq_true.mpr ⟨_, List.mem_of_getElem? e, decide_eq_true rfl⟩)
    have get : ∀ (j : Nat) (k : Key) (v : V), (kvs ++ [(key, V.ref q)])[j]? = some (k, v) → (j < kvs.length ∧ kvs[j]? = some (k, v)) ∨ (j = kvs.length ∧ k = key ∧ v = .ref q) := fun j k v e => by
      by_cases hj : j < kvs.length
      · rw [List.getElem?_append_left hj] at e; exact .inl ⟨hj, e⟩
      · rw [List.getElem?_append_right (by omega)] at e
        cases hn : j - kvs.length with
        | zero =>
          rw [hn] at e
          simp at e
          exact .inr ⟨by omega, e.1.symm, e.2.symm⟩
        | succ n => rw [hn] at e; simp at e
    refine ⟨by simp [h.len], ?_, fun j k v e => ?_, fun i j k l a e1 e2 => ?_⟩
    · rw [List.map_append, List.nodup_append]
      refine ⟨h.keys, by simp, fun x hx y hy => ?_⟩
      simp at hy
      subst hy
      intro z
      subst z
      obtain ⟨p, hp, e⟩ := List.mem_map.mp hx
      obtain ⟨j, hj⟩ := List.getElem?_of_mem hp
      exact nk j p.2 (by rw [hj, ← e])
    · rcases get j k v e with ⟨hj, e1⟩ | ⟨hj, rfl, rfl⟩
      · obtain ⟨a, us, es0, f1, e2, f⟩ := h.mem j k v e1
        exact ⟨a, us, es0, f1, by rw [List.getElem?_append_left (by rw [← h.len]; exact hj)]; exact e2, f⟩
      · exact ⟨q, vs, es, rfl, by rw [hj, h.len, List.getElem?_append_right (Nat.le_refl _), Nat.sub_self]; rfl, hq, nU, h0, hp, rs⟩
    · rcases get i k _ e1 with ⟨_, g1⟩ | ⟨h1, _, z1⟩ <;> rcases get j l _ e2 with ⟨_, g2⟩ | ⟨h2, _, z2⟩
      · exact h.inj i j k l a g1 g2
      · cases z2; exact absurd g1 (nq i k)
      · cases z1; exact absurd g2 (nq j l)
      · omega
theorem mx_putN {x : Str} {e j : Expr} {f : Vars → R (List PyData)} {k : Vars → R PyData} {p pos' pos : Pos} (hu : X.A.units + 1 < cLine) (hf : NX X W e f) (hk : EX X W j k) (hN : X.N[iu]? = some x := by rfl)
    (hs : swapsWith e (some (.Subscript (.Name x p) j pos')) pos.line X.env = pure false := by rfl)
    (hv : Vis X.env.scope x := by first | exact Or.inl rfl | exact Or.inr (Or.inl rfl) | exact Or.inr (Or.inr rfl)) (hdn : (x == ("__debug__" : Str)) = false := by decide) (hcd : (x == ("__classdict__" : Str)) = false := by decide) :
    MX X W iu (.Assign [.Subscript (.Name x p) j pos'] e pos) (sPutN iu f k) := by
  obtain ⟨t, q, ht⟩ := hf
  obtain ⟨u, q2, hu2⟩ := hk
  refine ⟨_, ps_dput hu (pe_var hN hv hdn hcd) q2 q hs, fun σ H ρ D H0 O0 O r z => ?_⟩
  unfold sPutN at z
  obtain ⟨U, kvs, ds, k1, k2, k3, k4, k5, k6⟩ := r.deep
  have e1 : ρ.getD iu none = some (.dict ds) := by rw [List.getD_eq_getElem?_getD, k1]; rfl
  have hlt : iu < ρ.length := (List.getElem?_eq_some_iff.mp k1).1
  rw [e1] at z
  dsimp only at z
  refine ht σ H O _ _ r.stands r.vrelM ?_
  cases ef : f (mask [iu] ρ) with
  | bad => rw [ef] at z; exact z
  | err c => rw [ef] at z; exact fun H' s => z σ H' O (r.step s) (hide_same s)
  | ok es =>
    rw [ef, R.run_ok] at z
    intro n vs H1 s1 hn hn1 rs
    obtain ⟨b1, sF1⟩ := r.base.growM s1 hn hn1 (.inl (.inl ⟨_, rfl⟩))
    have nO : n ∉ O := r.stands.new hn
    have nU : n ≠ U := fun z => nO (z ▸ k3)
    have i1 : InM X.K H0 (n :: O) H1 U kvs ds := k6.mono (fun a h => List.mem_cons_of_mem _ h) (fun a o _ _ h => s1 _ _ h) sF1
    have r1 : RelM X.K iu H0 O0 (n :: O) σ H1 ρ := ⟨b1, U, kvs, ds, k1, k2, List.mem_cons_of_mem _ k3, k4, s1 _ _ k5, i1⟩
    refine ⟨.ref U, k2, hu2 σ H1 (n :: O) _ _ r1.stands r1.vrelM (EOut.runM r1 (MOut.from z sF1) fun e w H2 s2 rw' z2 r2 => ?_)⟩
    cases hk : keyD e with
    | none => rw [hk] at z2; exact z2.elim
    | some key =>
      rw [hk] at z2
      have ev := rp_key rw' hk
      subst ev
      dsimp only at z2
      by_cases c : ds.length < sizeLine
      · rw [if_pos c] at z2
        have sF2 := hide_same (O := n :: O) s2
        have i2 := i1.mono (fun a h => h) (fun a o _ _ h => s2 _ _ h) sF2
        have i3 := i2.putNew (key := key) (q := n) (vs := vs) (es := es) List.mem_cons_self nU (r.same.free hn) (s2 _ _ hn1) (rs.mono sF2) fun j k e => by
          obtain ⟨a, _, _, ea, _, ha, _⟩ := k6.mem j k _ e
          cases ea
          exact nO ha
        obtain ⟨b3, sF3⟩ := r2.base.updM (a := U) (o := .dK (putK kvs key (.ref n))) (List.mem_cons_of_mem _ k3) k4 (.inr ⟨_, .inl rfl⟩)
        refine ⟨U, _, rfl, DPut.k (s2 _ _ (s1 _ _ k5)) (by rw [k6.len]; exact c), z2 σ _ (n :: O) ⟨by rw [List.set_set]; exact b3, U, _, _, List.getElem?_set_self hlt, k2, List.mem_cons_of_mem _ k3, k4, upd_same, i3.mono (fun a h => h) (fun a o na _ h => by rw [upd_ne na]; exact h) sF3⟩ sF3⟩
      · rw [if_neg c] at z2; exact z2.elim
def sMapp (iu : Nat) (k f : Vars → R PyData) (ρ : Vars) : Out := match ρ.getD iu none with
  | some (.dict ds) => (k (mask [iu] ρ)).run ρ fun e => match keyD e with
    | some key => match valD ds key with
      | some (.list es) => (f (mask [iu] ρ)).run ρ fun d => if es.length < sizeLine then .nx (ρ.set iu (some (.dict (putD ds key (.list (es ++ [d])))))) else .bad
      | _ => .bad
    | none => .bad
  | _ => .bad
@[simp] theorem u_sMapp (k f : Vars → R PyData) (ρ : Vars) : sMapp iu k f ρ = match ρ.getD iu none with
  | some (.dict ds) => (k (mask [iu] ρ)).run ρ fun e => match keyD e with
    | some key => match valD ds key with
      | some (.list es) => (f (mask [iu] ρ)).run ρ fun d => if es.length < sizeLine then .nx (ρ.set iu (some (.dict (putD ds key (.list (es ++ [d])))))) else .bad
      | _ => .bad
    | none => .bad
  | _ => .bad := rfl
theorem InM.find {K : PySem.W.Frag} {H0 : Hp} {O : List Addr} {H : Hp} {U : Addr} {kvs : List (Key × V)} {ds : List (PyData × PyData)} {key : Key} {d : PyData} (h : InM K H0 O H U kvs ds) (e : valD ds key = some d) : ∃ (a : Addr) (vs : List V) (es : List PyData) (j : Nat), d = .list es ∧ valV kvs key = some (V.ref a) ∧ kvs[j]? = some (key, V.ref a) ∧ a ∈ O ∧ a ≠ U ∧ H0 a = none ∧ H a = some (.lst vs) ∧ Rps K (hide O H) vs es := by
  have r : Rpd K (hide [] H) kvs ds := h.rpd (hide_less fun a ha => by cases ha) fun a o _ _ _ _ g => hide_of (by simp) g
  rcases rpd_val key r with ⟨v, d', e1, e2, e3⟩ | ⟨e1, e2⟩
  · rw [e2] at e
    cases e
    have e1' := e1
    unfold valV at e1'
    obtain ⟨p, hp, ep⟩ := Option.map_eq_some_iff.mp e1'
    have hk := List.find?_some hp
    have hm := List.mem_of_find?_eq_some hp
    obtain ⟨j, hj⟩ := List.getElem?_of_mem hm
    have hk : p.1 = key := of_decide_eq_true hk
    have hj : kvs[j]? = some (key, v) := by rw [hj, ← hk, ← ep]
    obtain ⟨a, vs, es, f1, f2, f3, f4, f5, f6, f7⟩ := h.mem j key v hj
    subst f1
    refine ⟨a, vs, es, j, ?_, e1, hj, f3, f4, f5, f6, f7⟩
    obtain ⟨k', v', q1, q2, q3⟩ := r.get f2
    rw [hj] at q1
    cases q1
    unfold valD at e2
    obtain ⟨p2, hp2, ep2⟩ := Option.map_eq_some_iff.mp e2
    have hk2 := List.find?_some hp2
    have hk2 : keyD p2.1 = some key := of_decide_eq_true hk2
    obtain ⟨j2, hj2⟩ := List.getElem?_of_mem (List.mem_of_find?_eq_some hp2)
    obtain ⟨k3, v3, s1, s2, s3⟩ := r.get hj2
    rw [s2, keyD_kD] at hk2
    cases hk2
    have m1 : (kvs.map (·.1))[j]? = some key := by rw [List.getElem?_map, hj]; rfl
    have m2 : (kvs.map (·.1))[j2]? = some key := by rw [List.getElem?_map, s1]; rfl
    have l1' : j < (kvs.map (·.1)).length := (List.getElem?_eq_some_iff.mp m1).1
    have l2' : j2 < (kvs.map (·.1)).length := (List.getElem?_eq_some_iff.mp m2).1
    rw [List.getElem?_eq_getElem l1'] at m1
    rw [List.getElem?_eq_getElem l2'] at m2
    have : j = j2 := (List.getElem_inj h.keys).mp (Option.some.inj (m1.trans m2.symm))
    subst this
    rw [f2] at hj2
    cases hj2
    exact ep2.symm
  · rw [e2] at e; cases e
theorem InM.putAt {K : PySem.W.Frag} {H0 : Hp} {O : List Addr} {H H' : Hp} {U a : Addr} {kvs : List (Key × V)} {ds : List (PyData × PyData)} {key : Key} {j0 : Nat} {vs : List V} {es : List PyData} (h : InM K H0 O H U kvs ds) (e : kvs[j0]? = some (key, .ref a)) (sF : Same (hide O H) (hide O H')) (s : ∀ b o, b ≠ a → H b = some o → H' b = some o) (hp : H' a = some (.lst vs)) (rs : Rps K (hide O H') vs es) :
    InM K H0 O H' U kvs (putD ds key (.list es)) := by
  obtain ⟨a', _, es0, ea, hd, ha, nU, h0, _⟩ := h.mem j0 key _ e
  cases ea
  have hany : (ds.any fun p => decide (keyD p.1 = some key)) = true := List.any_eq_true.mpr ⟨_, List.mem_of_getElem? hd, decide_eq_true (keyD_kD key)⟩
  unfold putD
  rw [if_pos hany]
  refine ⟨by rw [List.length_map]; exact h.len, h.keys, fun j k v ej => ?_, h.inj⟩
  obtain ⟨b, us, fs, f1, f2, f3, f4, f5, f6, f7⟩ := h.mem j k v ej
  by_cases c : k = key
  · subst c
    have m1 : (kvs.map (·.1))[j]? = some k := by rw [List.getElem?_map, ej]; rfl
    have m2 : (kvs.map (·.1))[j0]? = some k := by rw [List.getElem?_map, e]; rfl
    have l1' : j < (kvs.map (·.1)).length := (List.getElem?_eq_some_iff.mp m1).1
    have l2' : j0 < (kvs.map (·.1)).length := (List.getElem?_eq_some_iff.mp m2).1
    rw [List.getElem?_eq_getElem l1'] at m1
    rw [List.getElem?_eq_getElem l2'] at m2
    have : j = j0 := (List.getElem_inj h.keys).mp (Option.some.inj (m1.trans m2.symm))
    subst this
    rw [e] at ej
    cases ej
    refine ⟨a, vs, es, rfl, ?_, ha, nU, h0, hp, rs⟩
    rw [List.getElem?_map, hd]
    show some (if keyD (kD k) = some k then _ else _) = _
    rw [if_pos (keyD_kD k)]
  · subst f1
    have nb : b ≠ a := fun z => by
      subst z
      have := h.inj j j0 k key b ej e
      subst this
      rw [e] at ej
      cases ej
      exact c rfl
    refine ⟨b, us, fs, rfl, ?_, f3, f4, f5, s _ _ nb f6, f7.mono sF⟩
    rw [List.getElem?_map, f2]
    show some (if keyD (kD k) = some key then _ else _) = _
    rw [if_neg (by rw [keyD_kD]; intro z; cases z; exact c rfl)]
theorem mx_mapp {x : Str} {e j : Expr} {f k : Vars → R PyData} {p p2 apos cpos pos : Pos} (hu : X.A.units + 1 < cLine) (hk : EX X W j k) (h : EX X W e f) (hsl : NoSl j := by exact fun _ _ => rfl) (hN : X.N[iu]? = some x := by rfl) (hv : Vis X.env.scope x := by first | exact Or.inl rfl | exact Or.inr (Or.inl rfl) | exact Or.inr (Or.inr rfl)) (hd : (x == ("__debug__" : Str)) = false := by decide)
    (hcd : (x == ("__classdict__" : Str)) = false := by decide)
    (hbase : attributeBase (.Subscript (.Name x p) j p2) "append" X.env (eval (.Subscript (.Name x p) j p2) X.env) = eval (.Subscript (.Name x p) j p2) X.env := by rfl)
    (hfew : ((backTo cpos (starEach [e] X.env)).all (fun x => !x.1) && (backToKw cpos (keywordEach [] X.env)).all (fun x => x.1.isSome)
      && decide (([e] : List Expr).length + ([] : List Keyword).length + (if ([] : List Keyword).isEmpty then 0 else 1) < 30)) = true := by rfl)
    (hline : (apos.endLine == cpos.line) = true := by rfl) (hs : starEach [e] X.env = (false, eval e X.env) :: starEach [] X.env := by rfl) (hplain : (backTo cpos (starEach [] X.env)).any (·.1) = false := by rfl)
    (hsw : swapsWith (.Call (.Attribute (.Subscript (.Name x p) j p2) "append" apos) [e] [] cpos) none pos.line X.env = pure false := by rfl) :
    MX X W iu (.Expr (.Call (.Attribute (.Subscript (.Name x p) j p2) "append" apos) [e] [] cpos) pos) (sMapp iu k f) := by
  obtain ⟨t, q, ht⟩ := h
  obtain ⟨u, q2, hu2⟩ := hk
  refine ⟨_, ps_expr (pe_bm PySem.F.plainAttrs_list PySem.F.slot_list_append PySem.F.type_list_append mt_append (pe_dget hu (pe_var hN hv hd hcd) q2 hsl) (pa_cons q pa_nil hs) hbase hfew hline hs hplain) hsw, fun σ H ρ D H0 O0 O r z => ?_⟩
  unfold sMapp at z
  obtain ⟨U, kvs, ds, k1, k2, k3, k4, k5, k6⟩ := r.deep
  have e1 : ρ.getD iu none = some (.dict ds) := by rw [List.getD_eq_getElem?_getD, k1]; rfl
  have hlt : iu < ρ.length := (List.getElem?_eq_some_iff.mp k1).1
  rw [e1] at z
  dsimp only at z
  refine ⟨.ref U, k2, hu2 σ H O _ _ r.stands r.vrelM (EOut.runM r z fun e w H1 s1 rw' z1 r1 => ?_)⟩
  cases hk : keyD e with
  | none => rw [hk] at z1; exact z1.elim
  | some key =>
    rw [hk] at z1
    have ev := rp_key rw' hk
    subst ev
    dsimp only at z1
    cases hval : valD ds key with
    | none => rw [hval] at z1; exact z1.elim
    | some dl =>
      rw [hval] at z1
      have sF1 := hide_same (O := O) s1
      have i1 := k6.mono (fun a h => h) (fun a o _ _ h => s1 _ _ h) sF1
      obtain ⟨a, vs, es, j0, rfl, f1, f2, f3, f4, f5, f6, f7⟩ := i1.find hval
      dsimp only at z1
      refine ⟨U, .ref a, rfl, ?_, .inl ⟨rfl, vs, .inl (.inl f6)⟩, ht σ H1 O _ _ r1.stands r1.vrelM (EOut.runM r1 z1 fun d v H2 s2 rv z2 r2 => ?_)⟩
      · exact .inl ⟨kvs, key, .inl (s1 _ _ k5), rfl, f1.symm⟩
      by_cases c : es.length < sizeLine
      · rw [if_pos c] at z2
        have sF2 := hide_same (O := O) s2
        have i2 := i1.mono (fun a h => h) (fun a o _ _ h => s2 _ _ h) sF2
        obtain ⟨b3, sF3⟩ := r2.base.updM (a := a) (o := .lst (vs ++ [v])) f3 f5 (.inl (.inl ⟨_, rfl⟩))
        have rs3 := (((f7.mono sF2).append (.cons rv .nil))).mono sF3
        have i3 := i2.putAt (H' := upd H2 a (.lst (vs ++ [v]))) f2 sF3 (fun b o nb h => by rw [upd_ne nb]; exact h) upd_same rs3
        exact ⟨a, vs, v, rfl, rfl, s2 _ _ f6, by rw [f7.length]; exact c, z2 σ _ O ⟨by rw [List.set_set]; exact b3, U, _, _, List.getElem?_set_self hlt, k2, k3, k4, by rw [upd_ne (Ne.symm f4)]; exact s2 _ _ (s1 _ _ k5), i3⟩ sF3⟩
      · rw [if_neg c] at z2; exact z2.elim
end
section
variable (X : Cx) (E : XK)
def BMX (iu : Nat) (sts : List Stmt) (g : Vars → Out) : Prop :=
  ∃ t, PSs X sts t ∧ ∀ σ H ρ Q H0 O0 O, RelM X.K iu H0 O0 O σ H ρ → BOut X E H0 O0 Q (g ρ) → t { nx := fun _ H' => Q .non H', rt := Q } σ H
end
section
variable {X : Cx} {E : XK} {iu : Nat}
theorem BMX.cons {st : Stmt} {rest : List Stmt} {g h : Vars → Out} (a : MX X (WD E) iu st g) (b : BMX X E iu rest h) : BMX X E iu (st :: rest) (sSeq g h) := by
  obtain ⟨t, p, ht⟩ := a
  obtain ⟨u, q, hu⟩ := b
  refine ⟨_, pss_cons p q, fun σ H ρ Q H0 O0 O r z => ht σ H ρ _ H0 O0 O r ?_⟩
  unfold sSeq at z
  cases e : g ρ with
  | nx ρ1 => rw [e] at z; exact fun σ1 H1 O1 r1 s1 => hu σ1 H1 ρ1 Q H0 O0 O1 r1 z
  | err c ρ' => rw [e] at z; exact fun σ' H' O' r' s' => z H' r'.same
  | rt d => rw [e] at z; exact z
  | bk _ => rw [e] at z; exact z.elim
  | ct _ => rw [e] at z; exact z.elim
  | bad => rw [e] at z; exact z.elim
def sNewM (iu : Nat) (ρ : Vars) : Out := if iu < ρ.length then .nx (ρ.set iu (some (.dict []))) else .bad
@[simp] theorem u_sNewM (ρ : Vars) : sNewM iu ρ = if iu < ρ.length then .nx (ρ.set iu (some (.dict []))) else .bad := rfl
theorem BX.consM {x : Str} {lp pos' pos : Pos} {rest : List Stmt} {h : Vars → Out} (hN : X.N.Nodup) (hi : X.N[iu]? = some x) (hx : Loc X.env.scope x) (b : BMX X E iu rest h) (hs : swapsWith (.Dict [] [] lp) (some (.Name x pos')) pos.line X.env = pure false := by rfl) (hf : X.fn x = true ∨ X.env.scope.names.lookup x = some .local := by first | exact .inl rfl | exact .inr rfl | assumption) :
    BX X E [] (.Assign [.Name x pos'] (.Dict [] [] lp) pos :: rest) (sSeq (sNewM iu) h) := by
  obtain ⟨u, q, hu⟩ := b
  refine ⟨_, pss_cons (ps_set hN hi hx pe_dnewK hs hf) q, fun σ H ρ Q H0 O0 O r z => ?_⟩
  unfold sSeq sNewM at z
  by_cases c : iu < ρ.length
  case neg => rw [if_neg c] at z; exact z.elim
  rw [if_pos c] at z
  intro U hU
  obtain ⟨b1, sF1⟩ := r.growM (same_new (o := .dK []) hU) hU upd_same (.inr ⟨_, .inl rfl⟩)
  have hl := r.len
  exact hu _ _ _ _ H0 O0 (U :: O) ⟨by rw [List.set_set]; exact b1.none (by simp), U, [], [], List.getElem?_set_self c, List.getElem?_set_self (by omega), List.mem_cons_self, r.same.free hU, upd_same, ⟨rfl, by simp, (fun j k v e => by cases e), (fun i j k l a e => by cases e)⟩⟩ z
theorem BMX.freeze {sts : List Stmt} {g : Vars → Out} (b : BX X E [] sts g) : BMX X E iu sts g := by
  obtain ⟨t, p, ht⟩ := b
  exact ⟨t, p, fun σ H ρ Q H0 O0 O r z => ht σ H ρ Q H0 O0 O0 r.freeze z⟩
end
end Pu
set_option Elab.async false
set_option linter.all false
set_option maxRecDepth 100000
set_option maxHeartbeats 4000000
namespace Pu
open PySem PySem.Spec PyProof.Rows L2
def gListK (ds : List PyData) : Option PyData := match ds with
  | [.dict kvs] => if insB kvs = true then none else some (.list (kvs.map itK))
  | _ => none
theorem rps_keys {K : PySem.W.Frag} {F F' : Hp} : ∀ {kvs : List (Key × V)} {ds : List (PyData × PyData)}, Rpd K F kvs ds → Rps K F' (kvs.map fun kv => kV kv.1) (ds.map itK)
  | _, _, .nil => .nil
  | _, _, .cons (k := k) h r => .cons (rp_kV k) (rps_keys r)
theorem calld_listK {K : PySem.W.Frag} : CallD K (fun xs H Q => ∃ (a : Addr) (kvs : List (Key × V)), xs = [.ref a] ∧ Rd H a (.dK kvs) ∧ ∀ p, H p = none → Q (.ref p) (upd H p (.lst (kvs.map fun kv => kV kv.1)))) gListK := by
  intro H O xs ds z Q hO rx h q
  match ds, h, rx with
  | [.dict kvs], h, rx =>
    obtain ⟨v, rfl, rv⟩ := rps_one rx
    unfold gListK at h
    dsimp only at h
    by_cases c : insB kvs = true
    · rw [if_pos c] at h; cases h
    · rw [if_neg c] at h
      cases h
      have c : insB kvs = false := by simpa using c
      cases rv with
      | @dic a vs _ hx r =>
        exact ⟨a, vs, rfl, rd_mono hide_sub hx, fun p hp => q _ _ (same_new hp) (new_repL hO hp (rps_keys r))⟩
      | ins => cases c
      | fn _ => cases c
      | fn0 => cases c
      | dct => cases c
      | tpx => cases c
  | [], h, _ => cases h
  | .none :: _, h, _ => cases h
  | .bool _ :: _, h, _ => cases h
  | .int _ :: _, h, _ => cases h
  | .str _ :: _, h, _ => cases h
  | .list _ :: _, h, _ => cases h
  | .tuple _ :: _, h, _ => cases h
  | .dict _ :: _ :: _, h, _ => cases h
def gIdx (ds : List PyData) (d : PyData) : Option PyData := if (SeqAt.shaped d && SeqAt.shaped (.list ds)) = true then (ds.findIdx? fun z => PyData.eqv z d).map fun j => .int (j : Nat) else Option.none
@[simp] def eIdx (f g : Vars → R PyData) (ρ : Vars) : R PyData := (f ρ).bind fun d => match d with
  | .list ds => (g ρ).bind fun e => R.of (gIdx ds e)
  | _ => .bad
section
variable {X : Cx} {W : WX} {own : List Nat}
theorem ex_idx {o e : Expr} {f g : Vars → R PyData} {apos cpos : Pos} (hu : X.A.units + 65 < cLine) (ho : EX X W o f) (h : EX X W e g)
    (hbase : attributeBase o "index" X.env (eval o X.env) = eval o X.env := by rfl)
    (hfew : ((backTo cpos (starEach [e] X.env)).all (fun x => !x.1) && (backToKw cpos (keywordEach [] X.env)).all (fun x => x.1.isSome)
      && decide (([e] : List Expr).length + ([] : List Keyword).length + (if ([] : List Keyword).isEmpty then 0 else 1) < 30)) = true := by rfl)
    (hline : (apos.endLine == cpos.line) = true := by rfl) (hs : starEach [e] X.env = (false, eval e X.env) :: starEach [] X.env := by rfl) (hplain : (backTo cpos (starEach [] X.env)).any (·.1) = false := by rfl) :
    EX X W (.Call (.Attribute o "index" apos) [e] [] cpos) (eIdx f g) := by
  obtain ⟨t, q, ht⟩ := ho
  obtain ⟨u, q2, hu2⟩ := h
  refine ⟨_, pe_bm PySem.F.plainAttrs_list PySem.F.slot_list_index PySem.F.type_list_index (mt_indexD hu) q (pa_cons q2 pa_nil hs) hbase hfew hline hs hplain, fun σ H O ρ Q hO hv z => ?_⟩
  refine ht σ H O ρ _ hO hv (EOut.then (g := fun d => match d with
    | .list ds => (g ρ).bind fun e => R.of (gIdx ds e)
    | _ => .bad) EOut.b EOut.e z fun d v H1 s1 r1 z1 => ?_)
  cases d <;> try exact z1.elim
  rename_i ds
  cases r1 with
  | @lst a xs _ hx rs =>
    refine ⟨.inl ⟨rfl, xs, seqL hide_sub hx⟩, hu2 σ H1 O ρ _ (hO.same s1) (hv.mono (hide_same s1)) ?_⟩
    refine EOut.then (g := fun e => R.of (gIdx ds e)) EOut.b EOut.e (z1.from s1) fun e v2 H2 s2 r2 z2 => ?_
    replace z2 : EOut X W O σ H1 Q (R.of (gIdx ds e)) := z2
    unfold gIdx at z2
    by_cases c : (SeqAt.shaped e && SeqAt.shaped (.list ds)) = true
    · rw [if_pos c] at z2
      rw [Bool.and_eq_true] at c
      cases ej : ds.findIdx? fun z => PyData.eqv z e with
      | none => rw [ej] at z2; exact z2.elim
      | some j =>
        rw [ej] at z2
        obtain ⟨hj, h1, h2⟩ := List.findIdx?_eq_some_iff_getElem.mp ej
        have hl : Rp X.K (hide O H2) (.ref a) (.list ds) := (Rp.lst hx rs).mono (hide_same s2)
        exact ⟨a, v2, e, ds, j, ds[j], rfl, rfl, hl.dp (SeqAt.canLay_of_shaped c.2) hide_sub, r2.dp (SeqAt.canLay_of_shaped c.1) hide_sub, c.2, c.1, List.getElem?_eq_getElem hj, h1, fun m z' hm hz => by
          obtain ⟨hml, ez⟩ := List.getElem?_eq_some_iff.mp hz
          have := h2 m hm
          rw [ez] at this
          simpa using this, z2 _ H2 s2 (.int _)⟩
    · rw [if_neg c] at z2; exact z2.elim
def sForM (own : List Nat) (fa fk : Vars → R PyData) (gt : PyData → Vars → Option Vars) (g : Vars → Out) (ρ : Vars) : Out := (fa (mask own ρ)).run ρ fun d => (fk ρ).run ρ fun e => match R.of ((gDix d e).bind fun x => match x with
  | .list es => some es
  | _ => Option.none) with
  | .ok es => forL gt g es ρ
  | _ => .bad
@[simp] theorem u_sForM (own : List Nat) (fa fk : Vars → R PyData) (gt : PyData → Vars → Option Vars) (g : Vars → Out) (ρ : Vars) : sForM own fa fk gt g ρ = (fa (mask own ρ)).run ρ fun d => (fk ρ).run ρ fun e => match R.of ((gDix d e).bind fun x => match x with
  | .list es => some es
  | _ => Option.none) with
  | .ok es => forL gt g es ρ
  | _ => .bad := rfl
theorem gDix_rp {K : PySem.W.Frag} {F : Hp} {v : V} {d e : PyData} {es : List PyData} (r : Rp K F v d) (h : gDix d e = some (.list es)) : ∃ a kvs k w, v = .ref a ∧ Rd F a (.dK kvs) ∧ keyD e = some k ∧ valV kvs k = some w ∧ Rp K F w (.list es) := by
  cases r with
  | @dic a kvs ds hd rd =>
    replace h : (keyD e).bind (valD ds) = some (.list es) := h
    cases hk : keyD e with
    | none => rw [hk] at h; cases h
    | some k =>
      rw [hk, Option.bind_some] at h
      rcases rpd_val k rd with ⟨w, d, e1, e2, e3⟩ | ⟨e1, e2⟩
      · rw [e2] at h
        cases h
        exact ⟨a, kvs, k, w, rfl, hd, rfl, e1, e3⟩
      · rw [e2] at h; cases h
  | fn _ =>
    have : ∀ b : PyData, gDix (.dict [(.none, b)]) e = none := fun b => by show (keyD e).bind _ = none; cases keyD e <;> rfl
    rw [this] at h; cases h
  | fn0 =>
    have : ∀ b : PyData, gDix (.dict [(.none, b)]) e = none := fun b => by show (keyD e).bind _ = none; cases keyD e <;> rfl
    rw [this] at h; cases h
  | tpx =>
    have : ∀ b c : PyData, gDix (.dict [(.none, b), (.none, c)]) e = none := fun b c => by show (keyD e).bind _ = none; cases keyD e <;> rfl
    rw [this] at h; cases h
  | dct =>
    have : ∀ b : PyData, gDix (.dict [(.none, b)]) e = none := fun b => by show (keyD e).bind _ = none; cases keyD e <;> rfl
    rw [this] at h; cases h
  | ins =>
    have : ∀ b : PyData, gDix (.dict [(.none, b)]) e = none := fun b => by show (keyD e).bind _ = none; cases keyD e <;> rfl
    rw [this] at h; cases h
  | _ => cases h
theorem sx_forM {tg a b : Expr} {body : List Stmt} {js : List Nat} {fa fk : Vars → R PyData} {gt : PyData → Vars → Option Vars} {g : Vars → Out} {pos2 pos : Pos} (hu : X.A.units + 1 < cLine) (hp : PassesOwn (model X.prog X.w) X.A X.env X.xe) (hc : X.calm = true) (ha : EX X W a fa) (hk : EX X W b fk) (hg : GX X tg js gt) (hin : GtIn js gt) (ho : (js.all fun j => !own.contains j) = true)
    (hb : SsX X W own body g) (hsl : NoSl b := by exact fun _ _ => rfl) (hs : ∀ x, foldedSetIterable (.Subscript a b pos2) X.env x = pure x := by intro _; rfl) : SX X W own (.For tg (.Subscript a b pos2) body [] pos) (sForM own fa fk gt g) := by
  obtain ⟨ta, pa, hta⟩ := ha
  obtain ⟨tk, pk, htk⟩ := hk
  obtain ⟨ok, tgt, q, hgt⟩ := hg
  obtain ⟨tb, pb, htb⟩ := hb
  have hj : ∀ j ∈ js, j ∉ own := fun j h z => by
    have := List.all_eq_true.mp ho j h
    rw [List.contains_iff_mem.mpr z] at this; cases this
  refine ⟨_, ps_for hp hc (pi_seq (pe_dget hu pa pk hsl)) q pb hs, fun σ H ρ D H0 O0 O r z => ?_⟩
  unfold sForM at z
  refine hta σ H O _ _ r.stands r.vrelM (EOut.run r z fun d v H1 s1 rv z1 r1 => ?_)
  refine htk σ H1 O0 _ _ r1.stands0 r1.vrel0 (EOut.run r1 z1 fun e w H2 s2 rw' z2 r2 => ?_)
  cases hd : gDix d e with
  | none => rw [hd] at z2; exact z2.elim
  | some x =>
    rw [hd] at z2
    cases x <;> try exact z2.elim
    rename_i ds
    replace z2 : SOut X W own H0 O0 O H2 D (forL gt g ds ρ) := z2
    obtain ⟨ad, kvs, k, y, rfl, hx, ek, ev, ry⟩ := gDix_rp (rv.mono (hide_same s2)) hd
    have ew := rp_key rw' ek
    subst ew
    refine ⟨ad, y, rfl, by rw [← ev]; exact dget_of hx (Same.refl _), ?_⟩
    cases ry with
    | @lst al xs _ hl rs =>
      refine ⟨al, rfl, .inl ⟨⟨xs, seqL hide_sub hl⟩, ?_⟩⟩
      have hJ := iterL hl rs
      refine ⟨fun i m σ2 H3 => m = ds.length - i ∧ i ≤ ds.length ∧ ∃ O2 ρ2, Rel X.K own H0 O0 O2 σ2 H3 ρ2 ∧ Same (hide O H2) (hide O2 H3) ∧ SOut X W own H0 O0 O2 H3 D (forL gt g (ds.drop i) ρ2), ⟨ds.length, rfl, Nat.zero_le _, O, ρ, r2, Same.refl _, z2⟩, ?_⟩
      rintro i m σ2 H3 ⟨rfl, hle, O2, ρ2, r3, sF, z3⟩
      obtain ⟨j1, j2⟩ := hJ i H3 O2 r3.stands sF
      by_cases hlt : i < ds.length
      · have hdi : ds[i]? = some ds[i] := List.getElem?_eq_getElem hlt
        obtain ⟨g1, g2⟩ := j1 _ hdi
        have hdrop : ds.drop i = ds[i] :: ds.drop (i + 1) := List.drop_eq_getElem_cons hlt
        rw [hdrop] at z3
        unfold forL at z3
        cases eg : gt ds[i] ρ2 with
        | none => rw [eg] at z3; exact z3.elim
        | some ρ3 =>
          rw [eg] at z3
          dsimp only at z3
          refine .inr ⟨g1, fun σ' H' => (i + 1 ≤ ds.length ∧ ∃ O2 ρ2, Rel X.K own H0 O0 O2 σ' H' ρ2 ∧ Same (hide O H2) (hide O2 H') ∧ SOut X W own H0 O0 O2 H' D (forL gt g (ds.drop (i + 1)) ρ2)),
            fun σ' H' hn => ⟨ds.length - (i + 1), by omega, rfl, hn.1, hn.2⟩, fun x H4 y => ?_⟩
          obtain ⟨s23, rx⟩ := g2 x H4 y
          have r4 := r3.step s23
          refine hgt x ds[i] σ2 H4 O2 (mask own ρ2) (mask own ρ3) _ r4.stands r4.vrelM rx (ok.msk own _ ρ2 ρ3 hj eg) fun σ3 v3 l3 f3 => ?_
          have r5 : Rel X.K own H0 O0 O2 σ3 H4 ρ3 := other_of ok hj r4 eg v3 l3 f3 (hin.out _ ρ2 ρ3 eg)
          have sF3 : Same (hide O H2) (hide O2 H4) := sF.trans (hide_same s23)
          refine htb σ3 H4 ρ3 _ H0 O0 O2 r5 ?_
          cases eb : g ρ3 with
          | nx ρ4 =>
            rw [eb] at z3
            exact fun σ5 H5 O5 r6 s5 => ⟨hlt, O5, ρ4, r6, sF3.trans s5, SOut.from z3 ((hide_same s23).trans s5)⟩
          | ct ρ4 =>
            rw [eb] at z3
            exact fun σ5 H5 O5 r6 s5 => ⟨hlt, O5, ρ4, r6, sF3.trans s5, SOut.from z3 ((hide_same s23).trans s5)⟩
          | bk ρ4 =>
            rw [eb] at z3
            exact fun σ5 H5 O5 r6 s5 => z3 σ5 H5 O5 r6 ((hide_same s23).trans s5)
          | rt d => rw [eb] at z3; exact RtW.from z3 (hide_same s23)
          | err c ρ4 =>
            rw [eb] at z3
            exact fun σ5 H5 O5 r6 s5 => z3 σ5 H5 O5 r6 ((hide_same s23).trans s5)
          | bad => rw [eb] at z3; exact z3
      · have e3 : i = ds.length := by omega
        subst e3
        refine .inl ⟨j2 (Nat.le_refl _), ?_⟩
        rw [List.drop_length] at z3
        exact z3 σ2 H3 O2 r3 (Same.refl _)
end
end Pu
set_option Elab.async false
set_option linter.all false
set_option maxRecDepth 100000
namespace Pu
open PySem
def G_kinds_of (S : Nat → List PyData → R PyData) : Vars → Out :=
  (sSeq (sNewV [1] 1 (eC (.dict [])))
    (sSeq (sForDP [1] false (eVar 0) itI (gtTup 2 (gtCons (gtName 2) (gtCons (gtName 3) gtNil))) (sSeq (sDPutM [1] 1 (eC (.bool true)) (eVar 2)) (sFor [1] (iSeq (eVar 3)) (gtName 4) (sDPutM [1] 1 (eC (.bool true)) (eVar 4)))))
    (sRet (eCall gListK (aCons (eVar 1) aNil)))))
def G_next_rank (S : Nat → List PyData → R PyData) : Vars → Out :=
  (sSeq (sSet [] 2 (eC (.int 0)))
    (sSeq (sFor [] (iSeq (eVar 0)) (gtName 3) (sSeq (sIf (tOf (eOp gDnin (eVar 3) (eVar 1))) (sRet (eC .none)) sNil) (sSet [] 2 (eCall gMax2 (aCons (eVar 2) (aCons (eOp gAdd (eOp gDix (eVar 1) (eVar 3)) (eC (.int 1))) aNil))))))
    (sRet (eVar 2))))
def G_ring_from (S : Nat → List PyData → R PyData) : Vars → Out :=
  (sSeq (sNew [3] 3 (nLst (aCons (eVar 0) aNil)))
    (whileL (tTru (eC (.bool true))) (sSeq (sSetM [3] 4 (eC .none)) (sSeq (sForM [3] (eVar 1) (eOp gIx (eVar 3) (eNeg (eC (.int 1)))) (gtName 5) (sIf (tAndR (tOf (eOp gDnin (eVar 5) (eVar 2))) (tOf (eOp gIsN (eVar 4) (eC .none)))) (sSetM [3] 4 (eVar 5)) sNil)) (sSeq (sIf (tOf (eOp gInL (eVar 4) (eVar 3))) (sRet (eSl (eVar 3) (oSome (eIdx (eVar 3) (eVar 4))) oNone)) sNil) (sAppM [3] 3 (eVar 4))))) wfuel))
def G_ranks (c0 c1 c2 : Nat) (S : Nat → List PyData → R PyData) : Vars → Out :=
  (sSeq (sNewV [1] 1 (eC (.dict [])))
    (sSeq (sSetM [1] 2 (eFn (S c0) (aCons (eVar 0) aNil)))
    (sSeq (sFor [1] (iRange (aCons (eCall gLen (aCons (eVar 2) aNil)) aNil)) (gtName 3) (sFor [1] (iSeq (eVar 2)) (gtName 4) (sIf (tOf (eOp gDnin (eVar 4) (eVar 1))) (sSeq (sSet [1] 5 (eFn (S c1) (aCons (eDget (eVar 0) (eVar 4) (eLst aNil)) (aCons (eVar 1) aNil)))) (sIf (tOf (eOp gNotN (eVar 5) (eC .none))) (sDPutM [1] 1 (eVar 5) (eVar 4)) sNil)) sNil)))
    (sSeq (sFor [] (iSeq (eVar 2)) (gtName 4) (sIf (tOf (eOp gDnin (eVar 4) (eVar 1))) (sRet (eTup (aCons (eC (.str "ring")) (aCons (eFn (S c2) (aCons (eVar 4) (aCons (eVar 0) (aCons (eVar 1) aNil)))) aNil)))) sNil))
    (sRet (eTup (aCons (eC (.str "ranks")) (aCons (eVar 1) aNil))))))))
end Pu
set_option Elab.async false
set_option linter.all false
set_option maxRecDepth 100000
namespace Pu
open PySem
end Pu
set_option Elab.async false
set_option linter.all false
set_option maxRecDepth 100000
set_option maxHeartbeats 4000000
namespace Nm
open PySem Pu
inductive O where
  | z | c (e : O) (n : Int) (r : O)
  deriving DecidableEq
namespace O
def parts : O → List (O × Int)
  | z => []
  | c e n r => (e, n) :: r.parts
def of : List (O × Int) → O
  | [] => z
  | (e, n) :: r => c e n (of r)
@[simp] theorem of_parts : ∀ a : O, of a.parts = a
  | z => rfl
  | c e n r => by show c e n (of r.parts) = _; rw [of_parts r]
@[simp] theorem parts_of : ∀ ps : List (O × Int), (of ps).parts = ps
  | [] => rfl
  | (e, n) :: r => by show (e, n) :: (of r).parts = _; rw [parts_of r]
def h : O → Nat
  | z => 0
  | c e _ r => max (e.h + 1) r.h
def size : O → Nat
  | z => 0
  | c e _ r => 1 + e.size + r.size
def len : O → Nat
  | z => 0
  | c _ _ r => r.len + 1
theorem len_parts : ∀ a : O, a.parts.length = a.len
  | z => rfl
  | c e n r => by show r.parts.length + 1 = _; rw [len_parts r]; rfl
theorem h_le_size : ∀ a : O, a.h ≤ a.size
  | z => Nat.le_refl _
  | c e n r => by
    have h1 := h_le_size e
    have h2 := h_le_size r
    show max (e.h + 1) r.h ≤ 1 + e.size + r.size
    omega
theorem len_le_size : ∀ a : O, a.len ≤ a.size
  | z => Nat.le_refl _
  | c e n r => by
    have h2 := len_le_size r
    show r.len + 1 ≤ 1 + e.size + r.size
    omega
end O
open O
def encL : O → List PyData
  | .z => []
  | .c e n r => .tuple [.tuple (encL e), .int n] :: encL r
abbrev enc (a : O) : PyData := .tuple (encL a)
abbrev encP (p : O × Int) : PyData := .tuple [enc p.1, .int p.2]
@[simp] theorem encL_z : encL .z = [] := rfl
@[simp] theorem encL_c (e : O) (n : Int) (r : O) : encL (.c e n r) = .tuple [.tuple (encL e), .int n] :: encL r := rfl
theorem encL_parts : ∀ a : O, encL a = a.parts.map encP
  | .z => rfl
  | .c e n r => by show _ :: encL r = _ :: (r.parts.map encP); rw [encL_parts r]
@[simp] theorem encL_len (a : O) : (encL a).length = a.len := by rw [encL_parts, List.length_map, len_parts]
theorem enc_depth : ∀ a : O, (enc a).depth = 2 * a.h + 1
  | .z => by simp [PyData.depth, PyData.depthAll, O.h]
  | .c e n r => by
    have h1 := enc_depth e
    have h2 := enc_depth r
    simp only [PyData.depth] at h1 h2
    simp only [encL_c, PyData.depth, PyData.depthAll, O.h]
    omega
theorem enc_lay : ∀ a : O, (enc a).canLay0 = true
  | .z => by simp [PyData.canLay0, PyData.canLayAll0]
  | .c e n r => by
    have h1 := enc_lay e
    have h2 := enc_lay r
    simp only [PyData.canLay0] at h1 h2
    simp only [encL_c, PyData.canLay0, PyData.canLayAll0, h1, h2, Bool.and_self]
theorem enc_shaped {a : O} (h : a.h ≤ 94) : shp (enc a) = true := by
  unfold shp
  rw [enc_lay, enc_depth, Bool.true_and]
  exact decide_eq_true (by omega)
theorem enc_eqv : ∀ a b : O, PyData.eqv (enc a) (enc b) = decide (a = b)
  | .z, .z => by simp [PyData.eqv, PyData.eqvAll]
  | .z, .c e n r => by simp [PyData.eqv, PyData.eqvAll]
  | .c e n r, .z => by simp [PyData.eqv, PyData.eqvAll]
  | .c e n r, .c e' n' r' => by
    have h1 := enc_eqv e e'
    have h2 := enc_eqv r r'
    simp only [PyData.eqv] at h1 h2
    simp only [encL_c, PyData.eqv, PyData.eqvAll, h1, h2, Bool.and_true, O.c.injEq]
    by_cases c1 : e = e' <;> by_cases c2 : n = n' <;> by_cases c3 : r = r' <;> simp [c1, c2, c3]
@[simp] theorem gEq_int (i j : Int) : gEq (.int i) (.int j) = some (.bool (decide (i = j))) := by
  unfold gEq shp
  simp [PyData.canLay0, PyData.depth, PyData.eqv, Bool.beq_eq_decide_eq]
@[simp] theorem gNe_int (i j : Int) : gNe (.int i) (.int j) = some (.bool (!decide (i = j))) := by
  unfold gNe shp
  simp [PyData.canLay0, PyData.depth, PyData.eqv, Bool.beq_eq_decide_eq]
def cmp : O → O → Int
  | .z, .z => 0
  | .z, .c _ _ _ => -1
  | .c _ _ _, .z => 1
  | .c e n r, .c e' n' r' => if cmp e e' ≠ 0 then cmp e e' else if n ≠ n' then (if n > n' then 1 else -1) else cmp r r'
theorem cmp_range : ∀ a b : O, cmp a b = -1 ∨ cmp a b = 0 ∨ cmp a b = 1
  | .z, .z => by simp [cmp]
  | .z, .c _ _ _ => by simp [cmp]
  | .c _ _ _, .z => by simp [cmp]
  | .c e n r, .c e' n' r' => by
    unfold cmp
    have h1 := cmp_range e e'
    have h2 := cmp_range r r'
    split
    · exact h1
    · split
      · split <;> simp
      · exact h2
theorem cmp_eq : ∀ a b : O, cmp a b = 0 ↔ a = b
  | .z, .z => by simp [cmp]
  | .z, .c _ _ _ => by simp [cmp]
  | .c _ _ _, .z => by simp [cmp]
  | .c e n r, .c e' n' r' => by
    unfold cmp
    have h1 := cmp_eq e e'
    have h2 := cmp_eq r r'
    by_cases c1 : cmp e e' = 0
    · rw [if_neg (by simp [c1])]
      by_cases c2 : n = n'
      · rw [if_neg (by simp [c2]), h2]
        simp [h1.mp c1, c2]
      · rw [if_pos c2]
        constructor
        · intro h; split at h <;> simp at h
        · intro h; exact absurd (O.c.inj h).2.1 c2
    · rw [if_pos c1]
      constructor
      · intro h; exact absurd h c1
      · intro h; exact absurd (h1.mpr (O.c.inj h).1) c1
@[simp] theorem cmp_self (a : O) : cmp a a = 0 := (cmp_eq a a).mpr rfl
theorem cmp_neg : ∀ a b : O, cmp b a = - cmp a b
  | .z, .z => by simp [cmp]
  | .z, .c _ _ _ => by simp [cmp]
  | .c _ _ _, .z => by simp [cmp]
  | .c e n r, .c e' n' r' => by
    unfold cmp
    have h1 := cmp_neg e e'
    have h2 := cmp_neg r r'
    by_cases c1 : cmp e e' = 0
    · have c1' : cmp e' e = 0 := by rw [h1, c1]; rfl
      rw [if_neg (show ¬ cmp e e' ≠ 0 from fun h => h c1), if_neg (show ¬ cmp e' e ≠ 0 from fun h => h c1')]
      by_cases c2 : n = n'
      · rw [if_neg (show ¬ n ≠ n' from fun h => h c2), if_neg (show ¬ n' ≠ n from fun h => h c2.symm), h2]
      · rw [if_pos (show n ≠ n' from c2), if_pos (show n' ≠ n from fun h => c2 h.symm)]
        by_cases c3 : n > n'
        · rw [if_pos c3, if_neg (show ¬ n' > n by omega)]
        · rw [if_neg c3, if_pos (show n' > n by omega)]; rfl
    · have c1' : cmp e' e ≠ 0 := by rw [h1]; omega
      rw [if_pos c1, if_pos c1', h1]
end Nm
set_option Elab.async false
set_option linter.all false
set_option maxRecDepth 100000
namespace Pu
open PySem
def G_is_whole (S : Nat → List PyData → R PyData) : Vars → Out :=
  (sRet (eAnd (eIsi "int" (eVar 0)) (eAnd (eNot (eIsi "bool" (eVar 0))) (eOp gGe (eVar 0) (eC (.int 0))))))
def G_whole (c0 : Nat) (S : Nat → List PyData → R PyData) : Vars → Out :=
  (sRet (eFn (S c0) (aCons (eTup aNil) (aCons (eVar 0) aNil))))
def G_raised (c0 : Nat) (S : Nat → List PyData → R PyData) : Vars → Out :=
  (sSeq (sIf (tNotR (tTru (eFn (S c0) (aCons (eVar 1) aNil)))) (sRaise "NoNumber") sNil)
    (sSeq (sIf (tOf (eOp gEq (eVar 1) (eC (.int 0)))) (sRet (eTup aNil)) sNil)
    (sRet (eTup (aCons (eTup (aCons (eVar 0) (aCons (eVar 1) aNil))) aNil)))))
def G_compare (c0 : Nat) (S : Nat → List PyData → R PyData) : Vars → Out :=
  (sSeq (sFor [] (iZipD (aCons (eVar 0) (aCons (eVar 1) aNil))) (gtTup 2 (gtCons (gtName 2) (gtCons (gtName 3) gtNil))) (sSeq (sSet [] 4 (eFn (S c0) (aCons (eOp gIx (eVar 2) (eC (.int 0))) (aCons (eOp gIx (eVar 3) (eC (.int 0))) aNil)))) (sSeq (sIf (tOf (eOp gNe (eVar 4) (eC (.int 0)))) (sRet (eVar 4)) sNil) (sIf (tOf (eOp gNe (eOp gIx (eVar 2) (eC (.int 1))) (eOp gIx (eVar 3) (eC (.int 1))))) (sRet (eIf (tOf (eOp gGt (eOp gIx (eVar 2) (eC (.int 1))) (eOp gIx (eVar 3) (eC (.int 1))))) (eC (.int 1)) (eNeg (eC (.int 1))))) sNil))))
    (sSeq (sIf (tOf (eOp gEq (eCall gLen (aCons (eVar 0) aNil)) (eCall gLen (aCons (eVar 1) aNil)))) (sRet (eC (.int 0))) sNil)
    (sRet (eIf (tOf (eOp gGt (eCall gLen (aCons (eVar 0) aNil)) (eCall gLen (aCons (eVar 1) aNil)))) (eC (.int 1)) (eNeg (eC (.int 1)))))))
def G_merged (c0 : Nat) (S : Nat → List PyData → R PyData) : Vars → Out :=
  (sSeq (sNew [2] 2 (nLst aNil))
    (sSeq (sSetM [2] 3 (eC (.int 0)))
    (sSeq (sSetM [2] 4 (eC (.int 0)))
    (sSeq (whileL (tAndR (tOf (eOp gLt (eVar 3) (eCall gLen (aCons (eVar 0) aNil)))) (tOf (eOp gLt (eVar 4) (eCall gLen (aCons (eVar 1) aNil))))) (sSeq (sSetM [2] 5 (eFn (S c0) (aCons (eOp gIx (eOp gIx (eVar 0) (eVar 3)) (eC (.int 0))) (aCons (eOp gIx (eOp gIx (eVar 1) (eVar 4)) (eC (.int 0))) aNil)))) (sIf (tOf (eOp gEq (eVar 5) (eC (.int 1)))) (sSeq (sAppM [2] 2 (eOp gIx (eVar 0) (eVar 3))) (sAug [2] 3 gAddI (eC (.int 1)))) (sIf (tOf (eOp gEq (eVar 5) (eNeg (eC (.int 1))))) (sSeq (sAppM [2] 2 (eOp gIx (eVar 1) (eVar 4))) (sAug [2] 4 gAddI (eC (.int 1)))) (sSeq (sAppM [2] 2 (eTup (aCons (eOp gIx (eOp gIx (eVar 0) (eVar 3)) (eC (.int 0))) (aCons (eOp gAdd (eOp gIx (eOp gIx (eVar 0) (eVar 3)) (eC (.int 1))) (eOp gIx (eOp gIx (eVar 1) (eVar 4)) (eC (.int 1)))) aNil)))) (sSeq (sAug [2] 3 gAddI (eC (.int 1))) (sAug [2] 4 gAddI (eC (.int 1)))))))) wfuel)
    (sRet (eOp gAdd (eOp gAdd (eCall gTuple (aCons (eVar 2) aNil)) (eSl (eVar 0) (oSome (eVar 3)) oNone)) (eSl (eVar 1) (oSome (eVar 4)) oNone)))))))
end Pu
set_option Elab.async false
set_option linter.all false
set_option maxRecDepth 100000
set_option maxHeartbeats 4000000
namespace Nm
open PySem Pu
abbrev Fn := List PyData → R PyData
def lead (e : O) (n : Int) (e' : O) (n' : Int) : Int := if cmp e e' ≠ 0 then cmp e e' else if n ≠ n' then (if n > n' then 1 else -1) else 0
def first : O → O → Int
  | .c e n r, .c e' n' r' => if lead e n e' n' ≠ 0 then lead e n e' n' else first r r'
  | _, _ => 0
def lenc (a b : O) : Int := if a.len > b.len then 1 else if a.len < b.len then -1 else 0
theorem cmp_first : ∀ a b : O, cmp a b = if first a b ≠ 0 then first a b else lenc a b
  | .z, .z => by simp [cmp, first, lenc, O.len]
  | .z, .c _ _ _ => by simp [cmp, first, lenc, O.len]
  | .c _ _ _, .z => by simp [cmp, first, lenc, O.len]
  | .c e n r, .c e' n' r' => by
    have h2 := cmp_first r r'
    unfold cmp first lead
    by_cases c1 : cmp e e' = 0
    · by_cases c2 : n = n'
      · simp only [c1, c2, ne_eq, not_true_eq_false, if_false, h2, lenc, O.len]
        simp
      · by_cases c3 : n > n' <;> simp [c1, c2, c3]
    · simp [c1]
abbrev gt2 := gtTup 2 (gtCons (gtName 2) (gtCons (gtName 3) gtNil))
theorem zip_loop {k : Nat} {g : Vars → Out} {A B : Option PyData} (hg : ∀ (e : O) (n : Int) (e' : O) (n' : Int) (s : Option PyData), e.h < k → ∃ s', g [A, B, some (encP (e, n)), some (encP (e', n')), s] =
      if lead e n e' n' ≠ 0 then .rt (.int (lead e n e' n')) else .nx [A, B, some (encP (e, n)), some (encP (e', n')), s']) :
    ∀ (a b : O) (x y s : Option PyData), a.h < k + 1 → ∃ x' y' s', forL gt2 g (zipD (encL a) (encL b)) [A, B, x, y, s] = if first a b ≠ 0 then .rt (.int (first a b)) else .nx [A, B, x', y', s']
  | .z, b, x, y, s, _ => ⟨x, y, s, by cases b <;> simp [zipD, first]⟩
  | .c e n r, .z, x, y, s, _ => ⟨x, y, s, by simp [zipD, first]⟩
  | .c e n r, .c e' n' r', x, y, s, h => by
    have he : e.h < k := by have : max (e.h + 1) r.h < k + 1 := h; omega
    have hr : r.h < k + 1 := by have : max (e.h + 1) r.h < k + 1 := h; omega
    obtain ⟨s1, e1⟩ := hg e n e' n' s he
    obtain ⟨x2, y2, s2, e2⟩ := zip_loop hg r r' (some (encP (e, n))) (some (encP (e', n'))) s1 hr
    by_cases c : lead e n e' n' = 0
    · refine ⟨x2, y2, s2, ?_⟩
      rw [if_neg (show ¬ lead e n e' n' ≠ 0 from fun z => z c)] at e1
      have ef : first (.c e n r) (.c e' n' r') = first r r' := by
        show (if lead e n e' n' ≠ 0 then lead e n e' n' else first r r') = _
        rw [if_neg (show ¬ lead e n e' n' ≠ 0 from fun z => z c)]
      rw [ef, ← e2]
      show forL gt2 g (.tuple [encP (e, n), encP (e', n')] :: zipD (encL r) (encL r')) _ = _
      rw [u_forL_c]
      simp only [u_gtTup, u_gtCons, u_gtName, u_gtNil, List.length_cons, List.length_nil, Nat.zero_add, Nat.reduceAdd, if_true, Option.bind_some, List.set_cons_succ, List.set_cons_zero, e1]
    · refine ⟨x, y, s, ?_⟩
      rw [if_pos c] at e1
      have ef : first (.c e n r) (.c e' n' r') = lead e n e' n' := by
        show (if lead e n e' n' ≠ 0 then lead e n e' n' else first r r') = _
        rw [if_pos c]
      rw [ef, if_pos c]
      show forL gt2 g (.tuple [encP (e, n), encP (e', n')] :: zipD (encL r) (encL r')) _ = _
      rw [u_forL_c]
      simp only [u_gtTup, u_gtCons, u_gtName, u_gtNil, List.length_cons, List.length_nil, Nat.zero_add, Nat.reduceAdd, if_true, Option.bind_some, List.set_cons_succ, List.set_cons_zero, e1]
theorem zip_then {k : Nat} {g K : Vars → Out} {A B x y s : Option PyData} {a b : O} {out : Out} (hg : ∀ (e : O) (n : Int) (e' : O) (n' : Int) (s : Option PyData), e.h < k → ∃ s', g [A, B, some (encP (e, n)), some (encP (e', n')), s] =
      if lead e n e' n' ≠ 0 then .rt (.int (lead e n e' n')) else .nx [A, B, some (encP (e, n)), some (encP (e', n')), s']) (ha : a.h < k + 1) (h1 : first a b ≠ 0 → .rt (.int (first a b)) = out) (h2 : first a b = 0 → ∀ x y s, K [A, B, x, y, s] = out) :
    (forL gt2 g (zipD (encL a) (encL b)) [A, B, x, y, s]).then K = out := by
  obtain ⟨x', y', s', e⟩ := zip_loop hg a b x y s ha
  rw [e]
  by_cases c : first a b = 0
  · rw [if_neg (fun z => z c)]; exact h2 c x' y' s'
  · rw [if_pos c]; exact h1 c
def CmpOk (k : Nat) (F : Fn) : Prop := ∀ a b : O, a.h < k → F [enc a, enc b] = .ok (.int (cmp a b))
theorem compare_step {S : Nat → Fn} {c0 k : Nat} (h : CmpOk k (S c0)) : CmpOk (k + 1) (fun ds => fnD 5 (G_compare c0 S) ds) := by
  intro a b ha
  refine fnD_of ?_
  unfold G_compare
  simp only [u_sSeq, u_sFor, mask_nil, u_iZipD, u_aCons, u_aNil, u_eVar, List.map_cons, List.map_nil, List.length_cons, List.length_nil, List.cons_append, List.nil_append, List.replicate, List.getD_cons_zero, List.getD_cons_succ, R.of_some, R.bind_ok, R.run_ok, Nat.reduceAdd, Nat.reduceSub, Nat.zero_add]
  refine zip_then (k := k) (fun e n e' n' s he => ⟨some (.int (cmp e e')), ?_⟩) ha (fun c => ?_) (fun c x y s => ?_)
  · have hc := h e e' he
    by_cases c1 : cmp e e' = 0
    · by_cases c2 : n = n'
      · simp [hc, c1, c2, lead]
      · by_cases c3 : n > n' <;> simp [hc, c1, c2, c3, lead]
    · simp [hc, c1, lead]
  · rw [cmp_first, if_pos c]
  · rw [cmp_first, if_neg (fun z => z c)]
    by_cases c1 : a.len = b.len
    · simp [lenc, c1]
    · by_cases c2 : a.len > b.len
      · simp [lenc, c1, c2]; omega
      · have c3 : a.len < b.len := by omega
        simp [lenc, c1, c2, c3]; omega
end Nm
set_option Elab.async false
set_option linter.all false
set_option maxRecDepth 100000
set_option maxHeartbeats 4000000
namespace Nm
open PySem Pu O
theorem cmp_gt {a b : O} : cmp a b = 1 ↔ cmp b a = -1 := by rw [cmp_neg a b]; omega
theorem cmp_c {e : O} {n : Int} {r e' : O} {n' : Int} {r' : O} : cmp (.c e n r) (.c e' n' r') = -1 ↔ cmp e e' = -1 ∨ (e = e' ∧ (n < n' ∨ (n = n' ∧ cmp r r' = -1))) := by
  have h0 : cmp (.c e n r) (.c e' n' r') = if cmp e e' ≠ 0 then cmp e e' else if n ≠ n' then (if n > n' then 1 else -1) else cmp r r' := rfl
  rw [h0]
  by_cases c1 : cmp e e' = 0
  · have c1' := (cmp_eq e e').mp c1
    rw [if_neg (show ¬ cmp e e' ≠ 0 from fun h => h c1)]
    by_cases c2 : n = n'
    · rw [if_neg (show ¬ n ≠ n' from fun h => h c2)]
      subst c1' c2
      simp
    · rw [if_pos c2]
      by_cases c3 : n > n'
      · rw [if_pos c3]
        constructor
        · intro h; cases h
        · rintro (h | ⟨_, h | ⟨h, _⟩⟩)
          · rw [c1] at h; cases h
          · omega
          · exact absurd h c2
      · rw [if_neg c3]
        exact ⟨fun _ => .inr ⟨c1', .inl (by omega)⟩, fun _ => rfl⟩
  · rw [if_pos c1]
    constructor
    · exact .inl
    · rintro (h | ⟨h, _⟩)
      · exact h
      · exact absurd ((cmp_eq e e').mpr h) c1
theorem lt_trans : ∀ {a b d : O}, cmp a b = -1 → cmp b d = -1 → cmp a d = -1
  | a, .z, _, h, _ => by cases a <;> simp [cmp] at h
  | .z, .c _ _ _, .z, _, h => by simp [cmp] at h
  | .z, .c _ _ _, .c _ _ _, _, _ => rfl
  | .c _ _ _, .c _ _ _, .z, _, h => by simp [cmp] at h
  | .c e n r, .c e' n' r', .c e'' n'' r'', h1, h2 => by
    rw [cmp_c] at h1 h2 ⊢
    rcases h1 with h1 | ⟨rfl, h1⟩
    · rcases h2 with h2 | ⟨rfl, h2⟩
      · exact .inl (lt_trans h1 h2)
      · exact .inl h1
    · rcases h2 with h2 | ⟨rfl, h2⟩
      · exact .inl h2
      · refine .inr ⟨rfl, ?_⟩
        rcases h1 with h1 | ⟨rfl, h1⟩ <;> rcases h2 with h2 | ⟨rfl, h2⟩
        · exact .inl (by omega)
        · exact .inl h1
        · exact .inl h2
        · exact .inr ⟨rfl, lt_trans h1 h2⟩
theorem gt_trans {a b d : O} (h1 : cmp a b = 1) (h2 : cmp b d = 1) : cmp a d = 1 := cmp_gt.mpr (lt_trans (cmp_gt.mp h2) (cmp_gt.mp h1))
theorem cmp_tri (a b : O) : cmp a b = -1 ∨ a = b ∨ cmp a b = 1 := by
  rcases cmp_range a b with h | h | h
  · exact .inl h
  · exact .inr (.inl ((cmp_eq a b).mp h))
  · exact .inr (.inr h)
def NF : O → Prop
  | .z => True
  | .c e n r => NF e ∧ 1 ≤ n ∧ NF r ∧ ∀ p ∈ r.parts, cmp e p.1 = 1
theorem nf_parts : ∀ a : O, NF a ↔ a.parts.Pairwise (fun p q => cmp p.1 q.1 = 1) ∧ ∀ p ∈ a.parts, NF p.1 ∧ 1 ≤ p.2
  | .z => by simp [NF, O.parts]
  | .c e n r => by
    have ih := nf_parts r
    show NF e ∧ 1 ≤ n ∧ NF r ∧ (∀ p ∈ r.parts, cmp e p.1 = 1) ↔ _
    simp only [O.parts, List.pairwise_cons, List.mem_cons, forall_eq_or_imp]
    rw [ih]
    constructor
    · rintro ⟨h1, h2, ⟨h3, h4⟩, h5⟩; exact ⟨⟨h5, h3⟩, ⟨h1, h2⟩, h4⟩
    · rintro ⟨⟨h5, h3⟩, ⟨h1, h2⟩, h4⟩; exact ⟨h1, h2, ⟨h3, h4⟩, h5⟩
theorem nf_of {ps : List (O × Int)} : NF (of ps) ↔ ps.Pairwise (fun p q => cmp p.1 q.1 = 1) ∧ ∀ p ∈ ps, NF p.1 ∧ 1 ≤ p.2 := by rw [nf_parts, parts_of]
def mx : O → Int
  | .z => 0
  | .c e n r => max n (max (mx e) (mx r))
theorem mx_nonneg : ∀ a : O, 0 ≤ mx a
  | .z => Int.le_refl _
  | .c e n r => by
    have := mx_nonneg r
    show 0 ≤ max n (max (mx e) (mx r))
    omega
theorem mx_parts {B : Int} (hB : 0 ≤ B) : ∀ a : O, mx a ≤ B ↔ ∀ p ∈ a.parts, p.2 ≤ B ∧ mx p.1 ≤ B
  | .z => by simp [mx, O.parts, hB]
  | .c e n r => by
    have ih := mx_parts hB r
    simp only [mx, O.parts, List.mem_cons, forall_eq_or_imp]
    rw [← ih]
    constructor
    · intro h; exact ⟨⟨by omega, by omega⟩, by omega⟩
    · rintro ⟨⟨h1, h2⟩, h3⟩; omega
theorem mx_of {B : Int} (hB : 0 ≤ B) {ps : List (O × Int)} : mx (of ps) ≤ B ↔ ∀ p ∈ ps, p.2 ≤ B ∧ mx p.1 ≤ B := by rw [mx_parts hB, parts_of]
theorem h_parts {k : Nat} : ∀ a : O, a.h ≤ k ↔ ∀ p ∈ a.parts, p.1.h + 1 ≤ k
  | .z => by simp [O.h, O.parts]
  | .c e n r => by
    have ih := h_parts (k := k) r
    simp only [O.h, O.parts, List.mem_cons, forall_eq_or_imp]
    rw [← ih]
    omega
theorem nf_sub {ps qs : List (O × Int)} (h : NF (of ps)) (s : qs.Sublist ps) : NF (of qs) := by
  rw [nf_of] at h ⊢
  exact ⟨h.1.sublist s, fun p hp => h.2 p (s.subset hp)⟩
theorem size_sub : ∀ {ps qs : List (O × Int)}, qs.Sublist ps → (of qs).size ≤ (of ps).size
  | _, _, .slnil => Nat.le_refl _
  | _, _, .cons (l₂ := l) a s => by
    have := size_sub s
    show _ ≤ 1 + a.1.size + (of l).size
    omega
  | _, _, .cons₂ (l₁ := l1) (l₂ := l2) a s => by
    have := size_sub s
    show 1 + a.1.size + (of l1).size ≤ 1 + a.1.size + (of l2).size
    omega
theorem mx_sub {B : Int} (hB : 0 ≤ B) {ps qs : List (O × Int)} (h : mx (of ps) ≤ B) (s : qs.Sublist ps) : mx (of qs) ≤ B := by
  rw [mx_of hB] at h ⊢
  exact fun p hp => h p (s.subset hp)
def above (a e : O) : List (O × Int) := a.parts.filter fun p => decide (0 < cmp p.1 e)
def sameN (a e : O) : Int := ((a.parts.filter fun p => decide (p.1 = e)).map fun p => p.2).sum
end Nm
set_option Elab.async false
set_option linter.all false
set_option maxRecDepth 100000
set_option maxHeartbeats 4000000
namespace Nm
open PySem Pu O L2
theorem lc_gen {α : Type} {E : α → PyData} {ρ : Vars} {i : Nat} {tt : Vars → R Bool} {f : Vars → R PyData} {P : α → Bool} {F : α → PyData} : ∀ {ps : List α}, (∀ p ∈ ps, tt (ρ.set i (some (E p))) = .ok (P p)) → (∀ p ∈ ps, P p = true → f (ρ.set i (some (E p))) = .ok (F p)) →
    lcL (gtName i) tt f ρ (ps.map E) = .ok ((ps.filter P).map F)
  | [], _, _ => rfl
  | p :: ps, h1, h2 => by
    have ih := lc_gen (ps := ps) (fun q hq => h1 q (List.mem_cons_of_mem _ hq)) (fun q hq => h2 q (List.mem_cons_of_mem _ hq))
    rw [List.map_cons, u_lcL_c]
    simp only [u_gtName, h1 p (by simp), R.bind_ok]
    cases c : P p with
    | true =>
      rw [if_pos rfl, h2 p (by simp) c, R.bind_ok, ih, R.bind_ok, List.filter_cons_of_pos c, List.map_cons]
    | false =>
      rw [if_neg Bool.false_ne_true, ih, List.filter_cons_of_neg (by simp [c])]
theorem part_mem_h {a : O} {p : O × Int} (hp : p ∈ a.parts) : p.1.h + 1 ≤ a.h := (h_parts a).mp (Nat.le_refl _) p hp
theorem size_part : ∀ {a : O} {p : O × Int}, p ∈ a.parts → p.1.size ≤ a.size
  | .c e n r, p, hp => by
    rcases List.mem_cons.mp (show p ∈ (e, n) :: r.parts from hp) with h | h
    · subst h; show e.size ≤ 1 + e.size + r.size; omega
    · have := size_part h; show _ ≤ 1 + e.size + r.size; omega
theorem log2_lt {i : Int} {n : Nat} (h : i.natAbs < 2 ^ n) (h0 : 0 < n) : i.natAbs.log2 < n := PySem.Flt.log2_lt_of h0 h
theorem cDiv_of {i j : Int} (b : Nat) (hp : 0 < j) (hb : j.natAbs < 2 ^ b) (h0 : 0 < b) (h9 : b ≤ 9000) : cDiv i j = true := by
  have y := log2_lt hb h0
  unfold cDiv
  simp [hp]
  omega
theorem cMod_of {i j : Int} (h : 0 < j) : cMod i j = true := decide_eq_true h
def E60 : Int := 10 ^ 60
def E50 : Int := 10 ^ 50
@[simp high] theorem p60 : gPow (.int 10) (.int 60) = some (.int E60) := by
  show (if cPow 10 60 = true then some (PyData.int (10 ^ (60 : Int).toNat)) else none) = _
  rw [if_pos (by decide +kernel)]; rfl
@[simp high] theorem p50 : gPow (.int 10) (.int 50) = some (.int E50) := by
  show (if cPow 10 50 = true then some (PyData.int (10 ^ (50 : Int).toNat)) else none) = _
  rw [if_pos (by decide +kernel)]; rfl
structure PO (B : Int) (a : O) : Prop where
  nf : NF a
  sz : a.size ≤ 24
  mx : mx a ≤ B
theorem PO.hh {B : Int} {a : O} (p : PO B a) : a.h ≤ 24 := Nat.le_trans (h_le_size a) p.sz
theorem PO.ll {B : Int} {a : O} (p : PO B a) : a.len ≤ 24 := Nat.le_trans (len_le_size a) p.sz
theorem PO.sub {B : Int} (hB : 0 ≤ B) {a : O} (p : PO B a) {qs : List (O × Int)} (s : qs.Sublist a.parts) : PO B (of qs) where
  nf := nf_sub (ps := a.parts) (by rw [of_parts]; exact p.nf) s
  sz := by have := size_sub s; rw [of_parts] at this; have := p.sz; omega
  mx := mx_sub hB (by rw [of_parts]; exact p.mx) s
def NextOk (k : Nat) (F : Fn) : Prop := ∀ (B : Int) (ps : List O) (v : Int), 0 ≤ B → ps ≠ [] → ps.length ≤ 1000 → (∀ a ∈ ps, PO B a) → ∃ r, F [.list (ps.map enc), .int v] = .ok (enc r) ∧ PO (B + E50) r
theorem cut_front {α : Type} (xs : List α) (k : Nat) : cutD xs none (some (k : Int)) = xs.take k := by
  unfold cutD
  rw [HT.sIx_nat]
  show (xs.drop 0).take (min k xs.length - 0) = _
  rw [List.drop_zero, Nat.sub_zero, List.take_eq_take_iff]
  omega
end Nm
set_option Elab.async false
set_option linter.all false
set_option maxRecDepth 100000
set_option maxHeartbeats 4000000
namespace Pu
open PySem PySem.Spec PyProof.Rows L2
theorem forL_inv {gt : PyData → Vars → Option Vars} {g : Vars → Out} (I : Nat → Vars → Prop) : ∀ (ds : List PyData) (i : Nat) (ρ : Vars), I i ρ →
    (∀ (j : Nat) (d : PyData) (ρ : Vars), ds[j]? = some d → I (i + j) ρ → ∃ ρ1 ρ2, gt d ρ = some ρ1 ∧ (g ρ1 = .nx ρ2 ∨ g ρ1 = .ct ρ2) ∧ I (i + j + 1) ρ2) →
    ∃ ρ', forL gt g ds ρ = .nx ρ' ∧ I (i + ds.length) ρ'
  | [], i, ρ, h, _ => ⟨ρ, rfl, h⟩
  | d :: ds, i, ρ, h, hs => by
    obtain ⟨ρ1, ρ2, h1, h2, h3⟩ := hs 0 d ρ rfl h
    obtain ⟨ρ', h4, h5⟩ := forL_inv I ds (i + 1) ρ2 h3 fun j d ρ hd hi => by
      have := hs (j + 1) d ρ hd (by rw [show i + (j + 1) = i + 1 + j by omega]; exact hi)
      rw [show i + (j + 1) = i + 1 + j by omega] at this
      exact this
    refine ⟨ρ', ?_, by rw [List.length_cons, show i + (ds.length + 1) = i + 1 + ds.length by omega]; exact h5⟩
    rw [u_forL_c, h1]
    rcases h2 with h2 | h2 <;> simp only [h2, h4]
theorem forL_rng {n : Nat} {i : Nat} {g : Vars → Out} (I : Nat → Vars → Prop) (ρ : Vars) (h : I 0 ρ)
    (hs : ∀ (j : Nat) (ρ : Vars), j < n → I j ρ → ∃ ρ2, (g (ρ.set i (some (.int (j : Nat)))) = .nx ρ2 ∨ g (ρ.set i (some (.int (j : Nat)))) = .ct ρ2) ∧ I (j + 1) ρ2) :
    ∃ ρ', forL (gtName i) g (rngD 0 n) ρ = .nx ρ' ∧ I n ρ' := by
  obtain ⟨ρ', h1, h2⟩ := forL_inv (gt := gtName i) (g := g) I (rngD 0 n) 0 ρ h fun j d ρ hd hi => by
    rw [rngD_get] at hd
    by_cases q : j < n
    · rw [if_pos q] at hd
      cases hd
      rw [Nat.zero_add] at hi ⊢
      obtain ⟨ρ2, h3, h4⟩ := hs j ρ q hi
      exact ⟨_, ρ2, rfl, by rw [show (0 : Int) + (j : Nat) = (j : Nat) by omega]; exact h3, h4⟩
    · rw [if_neg q] at hd; cases hd
  rw [rngD_len, Nat.zero_add] at h2
  exact ⟨ρ', h1, h2⟩
end Pu
namespace Nm
open PySem PySem.Spec PyProof.Rows L2 Pu
end Nm
set_option Elab.async false
set_option linter.all false
set_option maxRecDepth 100000
set_option maxHeartbeats 4000000
namespace Nm
open PySem Pu O L2
def plusO (a : O) : O → O
  | .z => a
  | .c e n r => of (above a e ++ (e, sameN a e + n) :: r.parts)
def PlusOk (k : Nat) (F : Fn) : Prop := ∀ a b : O, NF a → a.h < k → a.h ≤ 60 → b.h ≤ 60 → a.len ≤ 1000000 → b.len ≤ 1000000 → F [enc a, enc b] = .ok (enc (plusO a b))
end Nm
set_option Elab.async false
set_option linter.all false
set_option maxRecDepth 100000
set_option maxHeartbeats 4000000
namespace Nm
open PySem Pu O L2
end Nm
set_option Elab.async false
set_option linter.all false
set_option maxRecDepth 100000
set_option maxHeartbeats 4000000
namespace Nm
open PySem Pu O L2
theorem nf_tail {f r : O} {m : Int} (h : NF (.c f m r)) : NF r ∧ NF f ∧ 1 ≤ m ∧ ∀ q ∈ r.parts, cmp f q.1 = 1 := by
  have h1 := (nf_parts _).mp h
  have h2 : ((f, m) :: r.parts).Pairwise (fun p q => cmp p.1 q.1 = 1) := h1.1
  have h3 : ∀ p ∈ (f, m) :: r.parts, NF p.1 ∧ 1 ≤ p.2 := h1.2
  rw [List.pairwise_cons] at h2
  have h4 := h3 (f, m) (by simp)
  exact ⟨(nf_parts r).mpr ⟨h2.2, fun p hp => h3 p (List.mem_cons_of_mem _ hp)⟩, h4.1, h4.2, h2.1⟩
end Nm
set_option Elab.async false
set_option linter.all false
set_option maxRecDepth 100000
set_option maxHeartbeats 4000000
namespace Nm
open PySem PySem.Spec PyProof.Rows L2 Pu O
structure G (m : Nat) (a : O) : Prop where
  nf : NF a
  h : a.h ≤ 25
  l : a.len ≤ m
theorem cut_back {α : Type} (xs : List α) (k : Nat) : Pu.cutD xs (some (k : Int)) none = xs.drop (min k xs.length) := by
  unfold Pu.cutD
  rw [HT.sIx_nat]
  show (xs.drop (min k xs.length)).take (xs.length - min k xs.length) = _
  apply List.take_of_length_le
  simp
end Nm
set_option Elab.async false
set_option linter.all false
set_option maxRecDepth 100000
set_option maxHeartbeats 4000000
namespace Nm
open PySem Pu O L2
theorem nf_mk {e r : O} {n : Int} (he : NF e) (hn : 1 ≤ n) (hr : NF r) (hp : ∀ q ∈ r.parts, cmp e q.1 = 1) : NF (.c e n r) := by
  refine (nf_parts _).mpr ⟨?_, fun p hp => ?_⟩
  · show ((e, n) :: r.parts).Pairwise _
    exact List.pairwise_cons.mpr ⟨hp, ((nf_parts r).mp hr).1⟩
  · rcases List.mem_cons.mp (show p ∈ (e, n) :: r.parts from hp) with h | h
    · subst h; exact ⟨he, hn⟩
    · exact ((nf_parts r).mp hr).2 p h
def mrgO : O → O → O
  | .z, b => b
  | .c e n r, .z => .c e n r
  | .c e n r, .c e' n' r' => if cmp e e' = 1 then .c e n (mrgO r (.c e' n' r')) else if cmp e e' = -1 then .c e' n' (mrgO (.c e n r) r') else .c e (n + n') (mrgO r r')
termination_by a b => a.len + b.len
decreasing_by all_goals (simp only [O.len]; omega)
theorem mrg_z {a : O} : mrgO a .z = a := by cases a <;> simp [mrgO]
theorem mrg_gt {e r e' r' : O} {n n' : Int} (c : cmp e e' = 1) : mrgO (.c e n r) (.c e' n' r') = .c e n (mrgO r (.c e' n' r')) := by rw [mrgO, if_pos c]
theorem mrg_lt {e r e' r' : O} {n n' : Int} (c : cmp e e' = -1) : mrgO (.c e n r) (.c e' n' r') = .c e' n' (mrgO (.c e n r) r') := by rw [mrgO, if_neg (by omega), if_pos c]
theorem mrg_eq {e r r' : O} {n n' : Int} : mrgO (.c e n r) (.c e n' r') = .c e (n + n') (mrgO r r') := by rw [mrgO, if_neg (by rw [cmp_self]; decide), if_neg (by rw [cmp_self]; decide)]
theorem mrg_exp : ∀ (a b : O) (p : O × Int), p ∈ (mrgO a b).parts → ∃ q, (q ∈ a.parts ∨ q ∈ b.parts) ∧ q.1 = p.1
  | .z, b, p, h => by rw [mrgO] at h; exact ⟨p, Or.inr h, rfl⟩
  | .c e n r, .z, p, h => by rw [mrgO] at h; exact ⟨p, Or.inl h, rfl⟩
  | .c e n r, .c e' n' r', p, h => by
    have inA : ∀ q ∈ r.parts, q ∈ (O.c e n r).parts := fun q hq => by show q ∈ (e, n) :: r.parts; simp [hq]
    have inB : ∀ q ∈ r'.parts, q ∈ (O.c e' n' r').parts := fun q hq => by show q ∈ (e', n') :: r'.parts; simp [hq]
    have hA : (e, n) ∈ (O.c e n r).parts := by show _ ∈ (e, n) :: r.parts; simp
    have hB : (e', n') ∈ (O.c e' n' r').parts := by show _ ∈ (e', n') :: r'.parts; simp
    rcases cmp_tri e e' with c | c | c
    · rw [mrg_lt c] at h
      rcases List.mem_cons.mp (show p ∈ (e', n') :: (mrgO (.c e n r) r').parts from h) with h | h
      · exact ⟨_, Or.inr hB, by rw [h]⟩
      · obtain ⟨q, q1, q2⟩ := mrg_exp (.c e n r) r' p h
        exact ⟨q, q1.imp id (inB q), q2⟩
    · subst c
      rw [mrg_eq] at h
      rcases List.mem_cons.mp (show p ∈ (e, n + n') :: (mrgO r r').parts from h) with h | h
      · exact ⟨_, Or.inl hA, by rw [h]⟩
      · obtain ⟨q, q1, q2⟩ := mrg_exp r r' p h
        exact ⟨q, q1.imp (inA q) (inB q), q2⟩
    · rw [mrg_gt c] at h
      rcases List.mem_cons.mp (show p ∈ (e, n) :: (mrgO r (.c e' n' r')).parts from h) with h | h
      · exact ⟨_, Or.inl hA, by rw [h]⟩
      · obtain ⟨q, q1, q2⟩ := mrg_exp r (.c e' n' r') p h
        exact ⟨q, q1.imp (inA q) id, q2⟩
termination_by a b => a.len + b.len
decreasing_by all_goals (simp only [O.len]; omega)
theorem mrg_nf : ∀ a b : O, NF a → NF b → NF (mrgO a b)
  | .z, b, _, hb => by rw [mrgO]; exact hb
  | .c e n r, .z, ha, _ => by rw [mrgO]; exact ha
  | .c e n r, .c e' n' r', ha, hb => by
    have ta := nf_tail ha
    have tb := nf_tail hb
    rcases cmp_tri e e' with c | c | c
    · rw [mrg_lt c]
      refine nf_mk tb.2.1 tb.2.2.1 (mrg_nf _ _ ha tb.1) fun p hp => ?_
      obtain ⟨q, q1, q2⟩ := mrg_exp _ _ p hp
      rw [← q2]
      rcases q1 with q1 | q1
      · rcases List.mem_cons.mp (show q ∈ (e, n) :: r.parts from q1) with h | h
        · rw [h]; exact cmp_gt.mpr c
        · exact gt_trans (cmp_gt.mpr c) (ta.2.2.2 q h)
      · exact tb.2.2.2 q q1
    · subst c
      rw [mrg_eq]
      refine nf_mk ta.2.1 (by have := ta.2.2.1; have := tb.2.2.1; omega) (mrg_nf _ _ ta.1 tb.1) fun p hp => ?_
      obtain ⟨q, q1, q2⟩ := mrg_exp _ _ p hp
      rw [← q2]
      rcases q1 with q1 | q1
      · exact ta.2.2.2 q q1
      · exact tb.2.2.2 q q1
    · rw [mrg_gt c]
      refine nf_mk ta.2.1 ta.2.2.1 (mrg_nf _ _ ta.1 hb) fun p hp => ?_
      obtain ⟨q, q1, q2⟩ := mrg_exp _ _ p hp
      rw [← q2]
      rcases q1 with q1 | q1
      · exact ta.2.2.2 q q1
      · rcases List.mem_cons.mp (show q ∈ (e', n') :: r'.parts from q1) with h | h
        · rw [h]; exact c
        · exact gt_trans c (tb.2.2.2 q h)
termination_by a b => a.len + b.len
decreasing_by all_goals (simp only [O.len]; omega)
theorem mrg_len : ∀ a b : O, (mrgO a b).len ≤ a.len + b.len
  | .z, b => by rw [mrgO]; simp only [O.len]; omega
  | .c e n r, .z => by rw [mrgO]; exact Nat.le_add_right _ _
  | .c e n r, .c e' n' r' => by
    rcases cmp_tri e e' with c | c | c
    · rw [mrg_lt c]; have := mrg_len (.c e n r) r'; simp only [O.len] at this ⊢; omega
    · subst c; rw [mrg_eq]; have := mrg_len r r'; simp only [O.len] at this ⊢; omega
    · rw [mrg_gt c]; have := mrg_len r (.c e' n' r'); simp only [O.len] at this ⊢; omega
termination_by a b => a.len + b.len
decreasing_by all_goals (simp only [O.len]; omega)
theorem mrg_h {a b : O} {k : Nat} (ha : a.h ≤ k) (hb : b.h ≤ k) : (mrgO a b).h ≤ k := by
  rw [h_parts]
  intro p hp
  obtain ⟨q, q1, q2⟩ := mrg_exp a b p hp
  rw [← q2]
  rcases q1 with q1 | q1
  · exact (h_parts a).mp ha q q1
  · exact (h_parts b).mp hb q q1
theorem G.mrg {m n : Nat} {a b : O} (ha : G m a) (hb : G n b) : G (m + n) (mrgO a b) := ⟨mrg_nf _ _ ha.nf hb.nf, mrg_h ha.h hb.h, by have := mrg_len a b; have := ha.l; have := hb.l; omega⟩
end Nm
set_option Elab.async false
set_option linter.all false
set_option maxRecDepth 100000
set_option maxHeartbeats 4000000
namespace Pu
open PySem
theorem whileL_t {T : Vars → R Bool} {B : Vars → Out} {f : Nat} {ρ ρ2 : Vars} (h1 : T ρ = .ok true) (h2 : B ρ = .nx ρ2) : whileL T B (f + 1) ρ = whileL T B f ρ2 := by
  show (T ρ).run ρ _ = _
  rw [h1, R.run_ok, if_pos rfl, h2]
theorem whileL_f {T : Vars → R Bool} {B : Vars → Out} {f : Nat} {ρ : Vars} (h1 : T ρ = .ok false) : whileL T B (f + 1) ρ = .nx ρ := by
  show (T ρ).run ρ _ = _
  rw [h1, R.run_ok, if_neg Bool.false_ne_true]
end Pu
namespace Nm
open PySem Pu O L2
abbrev mT : Vars → R Bool := tAndR (tOf (eOp gLt (eVar 3) (eCall gLen (aCons (eVar 0) aNil)))) (tOf (eOp gLt (eVar 4) (eCall gLen (aCons (eVar 1) aNil))))
abbrev mB (F : Fn) : Vars → Out := sSeq (sSetM [2] 5 (eFn F (aCons (eOp gIx (eOp gIx (eVar 0) (eVar 3)) (eC (.int 0))) (aCons (eOp gIx (eOp gIx (eVar 1) (eVar 4)) (eC (.int 0))) aNil)))) (sIf (tOf (eOp gEq (eVar 5) (eC (.int 1)))) (sSeq (sAppM [2] 2 (eOp gIx (eVar 0) (eVar 3))) (sAug [2] 3 gAddI (eC (.int 1)))) (sIf (tOf (eOp gEq (eVar 5) (eNeg (eC (.int 1))))) (sSeq (sAppM [2] 2 (eOp gIx (eVar 1) (eVar 4))) (sAug [2] 4 gAddI (eC (.int 1)))) (sSeq (sAppM [2] 2 (eTup (aCons (eOp gIx (eOp gIx (eVar 0) (eVar 3)) (eC (.int 0))) (aCons (eOp gAdd (eOp gIx (eOp gIx (eVar 0) (eVar 3)) (eC (.int 1))) (eOp gIx (eOp gIx (eVar 1) (eVar 4)) (eC (.int 1)))) aNil)))) (sSeq (sAug [2] 3 gAddI (eC (.int 1))) (sAug [2] 4 gAddI (eC (.int 1)))))))
theorem drop_at {ps : List (O × Int)} {i : Nat} {p : O × Int} {r : List (O × Int)} (h : ps.drop i = p :: r) : ps[i]? = some p ∧ ps.drop (i + 1) = r ∧ i < ps.length := by
  have h1 : i < ps.length := by
    rcases Nat.lt_or_ge i ps.length with c | c
    · exact c
    · rw [List.drop_eq_nil_of_le c] at h; cases h
  have h2 := List.drop_eq_getElem_cons h1
  rw [h2] at h
  injection h with h3 h4
  exact ⟨by rw [List.getElem?_eq_getElem h1, h3], h4, h1⟩
theorem atI_at {a : O} {i : Nat} {p : O × Int} (h : a.parts[i]? = some p) : atI (encL a) (i : Int) = some (encP p) := by
  rw [encL_parts]
  exact L2.atI_nat (by rw [List.getElem?_map, h]; rfl)
theorem mrg_loop {k : Nat} {F : Fn} (hF : CmpOk k F) {a b : O} (ha : a.h ≤ k) : ∀ (f : Nat) (x y : O) (i j : Nat) (Fd : List (O × Int)) (s : Option PyData), a.parts.drop i = x.parts → b.parts.drop j = y.parts → i ≤ a.len → j ≤ b.len → x.len + y.len + 1 ≤ f → Fd.length + x.len + y.len ≤ 2000 →
    ∃ (i' j' : Nat) (F' : List (O × Int)) (s' : Option PyData), whileL mT (mB F) f [some (enc a), some (enc b), some (.list (Fd.map encP)), some (.int (i : Nat)), some (.int (j : Nat)), s] = .nx [some (enc a), some (enc b), some (.list (F'.map encP)), some (.int (i' : Nat)), some (.int (j' : Nat)), s'] ∧
      F' ++ a.parts.drop i' ++ b.parts.drop j' = Fd ++ (mrgO x y).parts ∧ i' ≤ a.len ∧ j' ≤ b.len ∧ F'.length ≤ 2000
  | 0, x, y, i, j, Fd, s, _, _, _, _, hf, _ => by omega
  | f + 1, .z, y, i, j, Fd, s, hx, hy, hi, hj, hf, hl => by
    have hi2 : a.parts.length ≤ i := by
      rcases Nat.lt_or_ge i a.parts.length with c | c
      · rw [List.drop_eq_getElem_cons c] at hx; cases hx
      · exact c
    rw [len_parts] at hi2
    have t : mT [some (enc a), some (enc b), some (.list (Fd.map encP)), some (.int (i : Nat)), some (.int (j : Nat)), s] = .ok false := by
      have : ¬ (i : Int) < (a.len : Int) := by omega
      simp [this]
    refine ⟨i, j, Fd, s, whileL_f t, ?_, hi, hj, by omega⟩
    rw [hx, hy, mrgO]
    show Fd ++ [] ++ y.parts = _
    rw [List.append_nil]
  | f + 1, .c e n r, .z, i, j, Fd, s, hx, hy, hi, hj, hf, hl => by
    have hj2 : b.parts.length ≤ j := by
      rcases Nat.lt_or_ge j b.parts.length with c | c
      · rw [List.drop_eq_getElem_cons c] at hy; cases hy
      · exact c
    rw [len_parts] at hj2
    have t : mT [some (enc a), some (enc b), some (.list (Fd.map encP)), some (.int (i : Nat)), some (.int (j : Nat)), s] = .ok false := by
      have : ¬ (j : Int) < (b.len : Int) := by omega
      by_cases c : (i : Int) < (a.len : Int) <;> simp [this, c] <;> omega
    refine ⟨i, j, Fd, s, whileL_f t, ?_, hi, hj, by omega⟩
    rw [hx, hy, mrgO]
    show Fd ++ _ ++ [] = _
    rw [List.append_nil]
  | f + 1, .c e n r, .c e' n' r', i, j, Fd, s, hx, hy, hi, hj, hf, hl => by
    obtain ⟨x1, x2, x3⟩ := drop_at (show a.parts.drop i = (e, n) :: r.parts from hx)
    obtain ⟨y1, y2, y3⟩ := drop_at (show b.parts.drop j = (e', n') :: r'.parts from hy)
    rw [len_parts] at x3 y3
    simp only [O.len] at hf hl
    have pe : e.h + 1 ≤ a.h := part_mem_h (List.mem_of_getElem? x1)
    have ax := atI_at x1
    have ay := atI_at y1
    have cc := hF e e' (by omega)
    have t : mT [some (enc a), some (enc b), some (.list (Fd.map encP)), some (.int (i : Nat)), some (.int (j : Nat)), s] = .ok true := by
      have h1 : (i : Int) < (a.len : Int) := by omega
      have h2 : (j : Int) < (b.len : Int) := by omega
      simp [h1, h2]
    have s1 : Fd.length < sizeLine := sz1000' (by omega)
    rcases cmp_tri e e' with c | c | c
    · rw [c] at cc
      have bd : mB F [some (enc a), some (enc b), some (.list (Fd.map encP)), some (.int (i : Nat)), some (.int (j : Nat)), s] = .nx [some (enc a), some (enc b), some (.list ((Fd ++ [(e', n')]).map encP)), some (.int (i : Nat)), some (.int ((j + 1 : Nat) : Nat)), some (.int (-1))] := by
        simp [mask, ax, ay, cc, s1, gAddI]
      obtain ⟨i', j', F', s', g1, g2, g3, g4, g5⟩ := mrg_loop hF ha f (.c e n r) r' i (j + 1) (Fd ++ [(e', n')]) (some (.int (-1))) hx y2 hi (by omega) (by simp only [O.len]; omega) (by rw [List.length_append, List.length_singleton]; simp only [O.len]; omega)
      refine ⟨i', j', F', s', by rw [whileL_t t bd]; exact g1, ?_, g3, g4, g5⟩
      rw [g2, mrg_lt c]
      show Fd ++ [(e', n')] ++ _ = Fd ++ (e', n') :: _
      simp
    · subst c
      rw [cmp_self] at cc
      have bd : mB F [some (enc a), some (enc b), some (.list (Fd.map encP)), some (.int (i : Nat)), some (.int (j : Nat)), s] = .nx [some (enc a), some (enc b), some (.list ((Fd ++ [(e, n + n')]).map encP)), some (.int ((i + 1 : Nat) : Nat)), some (.int ((j + 1 : Nat) : Nat)), some (.int 0)] := by
        simp [mask, ax, ay, cc, s1, gAddI]
      obtain ⟨i', j', F', s', g1, g2, g3, g4, g5⟩ := mrg_loop hF ha f r r' (i + 1) (j + 1) (Fd ++ [(e, n + n')]) (some (.int 0)) x2 y2 (by omega) (by omega) (by omega) (by rw [List.length_append, List.length_singleton]; omega)
      refine ⟨i', j', F', s', by rw [whileL_t t bd]; exact g1, ?_, g3, g4, g5⟩
      rw [g2, mrg_eq]
      show Fd ++ [(e, n + n')] ++ _ = Fd ++ (e, n + n') :: _
      simp
    · rw [c] at cc
      have bd : mB F [some (enc a), some (enc b), some (.list (Fd.map encP)), some (.int (i : Nat)), some (.int (j : Nat)), s] = .nx [some (enc a), some (enc b), some (.list ((Fd ++ [(e, n)]).map encP)), some (.int ((i + 1 : Nat) : Nat)), some (.int (j : Nat)), some (.int 1)] := by
        simp [mask, ax, ay, cc, s1, gAddI]
      obtain ⟨i', j', F', s', g1, g2, g3, g4, g5⟩ := mrg_loop hF ha f r (.c e' n' r') (i + 1) j (Fd ++ [(e, n)]) (some (.int 1)) x2 hy (by omega) hj (by simp only [O.len]; omega) (by rw [List.length_append, List.length_singleton]; simp only [O.len]; omega)
      refine ⟨i', j', F', s', by rw [whileL_t t bd]; exact g1, ?_, g3, g4, g5⟩
      rw [g2, mrg_gt c]
      show Fd ++ [(e, n)] ++ _ = Fd ++ (e, n) :: _
      simp
def MrgOk (k : Nat) (F : Fn) : Prop := ∀ a b : O, a.h ≤ k → a.len ≤ 900 → b.len ≤ 900 → F [enc a, enc b] = .ok (enc (mrgO a b))
theorem merged_step {S : Nat → Fn} {c0 k : Nat} (hc : CmpOk k (S c0)) : MrgOk k (fun ds => fnD 6 (G_merged c0 S) ds) := by
  intro a b ha la lb
  refine fnD_of ?_
  obtain ⟨i, j, F', s', g1, g2, g3, g4, g5⟩ := mrg_loop hc (a := a) (b := b) ha wfuel a b 0 0 [] none rfl rfl (Nat.zero_le _) (Nat.zero_le _) (by show _ ≤ 1000000; omega) (by simp; omega)
  have ep : encL (mrgO a b) = F'.map encP ++ (encL a).drop i ++ (encL b).drop j := by
    rw [List.nil_append] at g2
    rw [encL_parts, ← g2, encL_parts a, encL_parts b, List.map_append, List.map_append, List.map_drop, List.map_drop]
  have c1 : Pu.cutD (encL a) (some (i : Int)) none = (encL a).drop i := by rw [cut_back, encL_len, Nat.min_eq_left g3]
  have c2 : Pu.cutD (encL b) (some (j : Int)) none = (encL b).drop j := by rw [cut_back, encL_len, Nat.min_eq_left g4]
  have l1 : ((encL a).drop i).length ≤ 900 := by rw [List.length_drop, encL_len]; omega
  have l2 : ((encL b).drop j).length ≤ 900 := by rw [List.length_drop, encL_len]; omega
  have s1 : F'.length + ((encL a).drop i).length ≤ sizeLine := sz1000 (by omega)
  have s2 : F'.length + ((encL a).drop i).length + ((encL b).drop j).length ≤ sizeLine := sz1000 (by omega)
  have g1' : whileL mT (mB (S c0)) wfuel [some (enc a), some (enc b), some (.list []), some (.int 0), some (.int 0), none] = _ := g1
  unfold G_merged
  rw [u_sSeq]
  have e1 : (sNew [2] 2 (nLst aNil)) (List.map some [enc a, enc b] ++ List.replicate (6 - [enc a, enc b].length) none) = .nx [some (enc a), some (enc b), some (.list []), none, none, none] := by simp
  rw [e1, Out.then_nx, u_sSeq]
  have e2 : (sSetM [2] 3 (eC (.int 0))) [some (enc a), some (enc b), some (.list []), none, none, none] = .nx [some (enc a), some (enc b), some (.list []), some (.int 0), none, none] := by simp
  rw [e2, Out.then_nx, u_sSeq]
  have e3 : (sSetM [2] 4 (eC (.int 0))) [some (enc a), some (enc b), some (.list []), some (.int 0), none, none] = .nx [some (enc a), some (enc b), some (.list []), some (.int 0), some (.int 0), none] := by simp
  rw [e3, Out.then_nx, u_sSeq, g1', Out.then_nx]
  simp only [List.length_drop, encL_len] at s1 s2
  simp [c1, c2, s1, s2, ep]
end Nm
set_option Elab.async false
set_option linter.all false
set_option maxRecDepth 100000
set_option maxHeartbeats 4000000
namespace Pu
open PySem
theorem fnD_err {N : Nat} {g : Vars → Out} {ds : List PyData} {c : Str} {ρ : Vars} (h : g (ds.map some ++ List.replicate (N - ds.length) none) = .err c ρ) : fnD N g ds = .err c := by unfold fnD; rw [h]
end Pu
namespace Nm
open PySem Pu O L2
abbrev nT : Vars → R Bool := tAndR (tOf (eOp gLt (eVar 2) (eCall gLen (aCons (eVar 1) aNil)))) (tOf (eOp gEq (eOp gIx (eVar 0) (eVar 2)) (eOp gIx (eVar 1) (eVar 2))))
abbrev nB : Vars → Out := sAug [] 2 gAddI (eC (.int 1))
end Nm
set_option Elab.async false
set_option linter.all false
set_option maxRecDepth 100000
namespace Pu
open PySem
end Pu
set_option Elab.async false
set_option linter.all false
set_option maxRecDepth 100000
set_option maxHeartbeats 4000000
namespace Nm
open PySem Pu O L2
def CellOk (F : Fn) : Prop := ∀ (ns : List Int) (j : Int), 0 ≤ j → ∃ v, F [.list (ns.map .int), .int j] = .ok (.int v)
def insO : O → O → Int → O
  | .z, e, n => .c e n .z
  | .c f k r, e, n => if cmp f e = 1 then .c f k (insO r e n) else if f = e then .c f k r else .c e n (.c f k r)
theorem ins_len : ∀ (a e : O) (n : Int), (insO a e n).len ≤ a.len + 1
  | .z, e, n => Nat.le_refl _
  | .c f k r, e, n => by
    have := ins_len r e n
    unfold insO
    split
    · simp only [O.len]; omega
    · split
      · exact Nat.le_succ _
      · exact Nat.le_refl _
abbrev pB : Vars → Out := sSet [] 2 (eOp gAdd (eVar 2) (eC (.int 1)))
@[simp high] theorem p15 : gPow (.int 10) (.int 15) = some (.int 1000000000000000) := by
  show (if cPow 10 15 = true then some (PyData.int (10 ^ (15 : Int).toNat)) else none) = _
  rw [if_pos (by decide +kernel)]; rfl
@[simp high] theorem p25 : gPow (.int 10) (.int 25) = some (.int 10000000000000000000000000) := by
  show (if cPow 10 25 = true then some (PyData.int (10 ^ (25 : Int).toNat)) else none) = _
  rw [if_pos (by decide +kernel)]; rfl
@[simp high] theorem p24 : gPow (.int 10) (.int 24) = some (.int 1000000000000000000000000) := by
  show (if cPow 10 24 = true then some (PyData.int (10 ^ (24 : Int).toNat)) else none) = _
  rw [if_pos (by decide +kernel)]; rfl
end Nm
set_option Elab.async false
set_option linter.all false
set_option maxRecDepth 100000
set_option maxHeartbeats 4000000
namespace Nm
open PySem Pu O L2
def prodL (e : O) (n : Int) (r : O) (ps : List (O × Int)) : List (O × Int) := ps.flatMap fun p => if p.1 = .z then (e, n * p.2) :: r.parts else [(plusO e p.1, p.2)]
def prodO : O → O → O
  | .z, _ => .z
  | .c e n r, b => of (prodL e n r b.parts)
theorem z_min {s : O} {m : Int} (h : NF (.c .z m s)) : s = .z := by
  cases s with
  | z => rfl
  | c f k t =>
    have := (nf_tail h).2.2.2 (f, k) (by show _ ∈ (f, k) :: t.parts; simp)
    cases f <;> simp [cmp] at this
end Nm
set_option Elab.async false
set_option linter.all false
set_option maxRecDepth 100000
set_option maxHeartbeats 4000000
namespace Nm
open PySem Pu O L2
end Nm
set_option Elab.async false
set_option linter.all false
set_option maxRecDepth 100000
set_option maxHeartbeats 4000000
namespace Nm
open PySem Pu O L2
structure Bg (L E C Z : Nat) (a : O) : Prop where
  nf : NF a
  h : a.h ≤ 8
  ll : a.len ≤ L
  el : ∀ p ∈ a.parts, p.1.len ≤ E
  cs : ∀ p ∈ a.parts, p.2.natAbs < 2 ^ C
  s : a.size ≤ Z
theorem Bg.up {L E C Z L' E' C' Z' : Nat} {a : O} (b : Bg L E C Z a) (h1 : L ≤ L') (h2 : E ≤ E') (h3 : C ≤ C') (h4 : Z ≤ Z') : Bg L' E' C' Z' a :=
  ⟨b.nf, b.h, Nat.le_trans b.ll h1, fun p hp => Nat.le_trans (b.el p hp) h2, fun p hp => Nat.lt_of_lt_of_le (b.cs p hp) (Nat.pow_le_pow_right (by decide) h3), Nat.le_trans b.s h4⟩
def TimesG (F : Fn) : Prop := ∀ {L1 E1 C1 Z1 L2 E2 C2 Z2 : Nat} {a b : O}, Bg L1 E1 C1 Z1 a → Bg L2 E2 C2 Z2 b → E1 ≤ 1000000 → E2 ≤ 1000000 → L2 * (1 + L1) ≤ 5000000 → 0 < C1 → 0 < C2 → C1 + C2 ≤ 100000 → F [enc a, enc b] = .ok (enc (prodO a b))
end Nm
set_option Elab.async false
set_option linter.all false
set_option maxRecDepth 100000
set_option maxHeartbeats 4000000
namespace Nm
open PySem Pu O L2
end Nm
set_option Elab.async false
set_option linter.all false
set_option maxRecDepth 100000
namespace Pu
open PySem
end Pu
set_option Elab.async false
set_option linter.all false
set_option maxRecDepth 100000
set_option maxHeartbeats 4000000
namespace Nm
open PySem Pu O L2
end Nm
namespace Nm
open PySem Pu O L2
end Nm
set_option Elab.async false
set_option linter.all false
set_option maxRecDepth 100000
set_option maxHeartbeats 4000000
namespace Nm
open PySem Pu O L2
end Nm
set_option Elab.async false
set_option linter.all false
set_option maxRecDepth 100000
set_option maxHeartbeats 4000000
namespace Nm
open PySem Pu O L2
structure WhoOk (F : Fn) : Prop where
  int : ∀ i : Int, F [.int i] = .ok (.bool (decide (0 ≤ i)))
  no : ∀ (d : PyData) (_ : isiB "int" d = false ∨ isiB "bool" d = true) (hf : fnB d = false := by first | rfl | assumption), F [d] = .ok (.bool false)
theorem is_whole_step (S : Nat → Fn) : WhoOk (fun ds => fnD 1 (G_is_whole S) ds) where
  int := fun i => by
    refine fnD_of ?_
    unfold G_is_whole
    simp [isiB]
  no := fun d h hf => by
    refine fnD_of ?_
    unfold G_is_whole
    have g := gIsi_no (T := "int") hf
    rcases h with h | h
    · rw [h] at g; simp [g]
    · cases d <;> simp [isiB] at h
      simp [isiB]
theorem WhoOk.yes {F : Fn} (h : WhoOk F) {i : Int} (hi : 0 ≤ i) : F [.int i] = .ok (.bool true) := by rw [h.int, decide_eq_true hi]
def rzO (e : O) (n : Int) : O := if n = 0 then .z else .c e n .z
structure RaiOk (F : Fn) : Prop where
  yes : ∀ (e : O) (n : Int), 0 ≤ n → F [enc e, .int n] = .ok (enc (rzO e n))
  no : ∀ (e : O) (d : PyData) (_ : isiB "int" d = false ∨ isiB "bool" d = true) (hf : fnB d = false := by first | rfl | assumption), F [enc e, d] = .err "NoNumber"
  neg : ∀ (e : O) (i : Int), i < 0 → F [enc e, .int i] = .err "NoNumber"
theorem raised_step {S : Nat → Fn} {c0 : Nat} (h : WhoOk (S c0)) : RaiOk (fun ds => fnD 2 (G_raised c0 S) ds) where
  yes := fun e n hn => by
    refine fnD_of ?_
    have e1 := h.yes hn
    unfold G_raised rzO
    by_cases c : n = 0
    · rw [if_pos c]; subst c
      simp [e1]
    · rw [if_neg c]; simp [e1, c]
  no := fun e d hd hf => by
    refine fnD_err (ρ := [some (enc e), some d]) ?_
    have e1 := h.no d hd
    unfold G_raised
    simp [e1]
  neg := fun e i hi => by
    refine fnD_err (ρ := [some (enc e), some (.int i)]) ?_
    have e1 := h.int i
    rw [decide_eq_false (by omega)] at e1
    unfold G_raised
    simp [e1]
theorem RaiOk.one {F : Fn} (h : RaiOk F) (e : O) : F [enc e, .int 1] = .ok (enc (.c e 1 .z)) := by
  have := h.yes e 1 (by decide)
  unfold rzO at this
  rw [if_neg (by decide)] at this
  exact this
theorem whole_step {S : Nat → Fn} {c0 : Nat} (h : RaiOk (S c0)) {n : Int} (hn : 0 ≤ n) : fnD 1 (G_whole c0 S) [.int n] = .ok (enc (rzO .z n)) := by
  refine fnD_of ?_
  have e1 : S c0 [.tuple [], .int n] = _ := h.yes .z n hn
  unfold G_whole
  simp [e1]
end Nm
set_option Elab.async false
set_option linter.all false
set_option maxRecDepth 100000
namespace Pu
open PySem
end Pu
set_option Elab.async false
set_option linter.all false
set_option maxRecDepth 100000
set_option maxHeartbeats 4000000
namespace Nm
open PySem Pu O L2
def hdE : O → O
  | .z => .z
  | .c e _ _ => e
structure Sz (H L K Z C M : Nat) (a : O) : Prop where
  nf : NF a
  h : a.h ≤ H
  ll : a.len ≤ L
  k : (hdE a).size ≤ K
  s : a.size ≤ Z
  cs : ∀ p ∈ a.parts, p.2.natAbs < 2 ^ C
  m : mx a < 2 ^ M
theorem Sz.up {H L K Z C M H' L' K' Z' C' M' : Nat} {a : O} (x : Sz H L K Z C M a) (h0 : H ≤ H') (h1 : L ≤ L') (h2 : K ≤ K') (h3 : Z ≤ Z') (h4 : C ≤ C') (h5 : M ≤ M') : Sz H' L' K' Z' C' M' a where
  nf := x.nf
  h := Nat.le_trans x.h h0
  ll := Nat.le_trans x.ll h1
  k := Nat.le_trans x.k h2
  s := Nat.le_trans x.s h3
  cs := fun p hp => Nat.lt_of_lt_of_le (x.cs p hp) (Nat.pow_le_pow_right (by decide) h4)
  m := Int.lt_of_lt_of_le x.m (by exact_mod_cast Nat.pow_le_pow_right (by decide) h5)
theorem Sz.bg {H L K Z C M : Nat} {a : O} (x : Sz H L K Z C M a) (hH : H ≤ 8) : Bg L Z C Z a where
  nf := x.nf
  h := Nat.le_trans x.h hH
  ll := x.ll
  el := fun p hp => by
    have h1 := size_part hp
    have h2 := len_le_size p.1
    have := x.s; omega
  cs := x.cs
  s := x.s
theorem hd_size (a : O) : (hdE a).size ≤ a.size := by
  cases a with
  | z => exact Nat.le_refl _
  | c e n r => show e.size ≤ 1 + e.size + r.size; omega
theorem hd_h (a : O) {k : Nat} (h : a.h ≤ k) : (hdE a).h ≤ k - 1 := by
  cases a with
  | z => exact Nat.zero_le _
  | c e n r =>
    have : (O.c e n r).h = max (e.h + 1) r.h := rfl
    show e.h ≤ k - 1; omega
theorem Sz.one : Sz 1 1 0 1 1 1 (.c .z 1 .z) where
  nf := nf_mk trivial (by decide) trivial (fun q hq => by cases hq)
  h := by show max (0 + 1) 0 ≤ 1; decide
  ll := by show 0 + 1 ≤ 1; decide
  k := by show 0 ≤ 0; decide
  s := by show 1 + 0 + 0 ≤ 1; decide
  cs := fun p hp => by
    rcases List.mem_cons.mp (show p ∈ (O.z, (1 : Int)) :: [] from hp) with h | h
    · rw [h]; decide
    · cases h
  m := by show max (1 : Int) (max 0 0) < 2 ^ 1; decide
end Nm
set_option Elab.async false
set_option linter.all false
set_option maxRecDepth 100000
set_option maxHeartbeats 4000000
namespace Nm
open PySem Pu O L2
end Nm
set_option Elab.async false
set_option linter.all false
set_option maxRecDepth 100000
set_option maxHeartbeats 4000000
namespace Nm
open PySem Pu O L2
end Nm
set_option Elab.async false
set_option linter.all false
set_option maxRecDepth 100000
set_option maxHeartbeats 4000000
namespace Nm
open PySem Pu O L2
theorem hd_nf {a : O} (h : NF a) : NF (hdE a) := by
  cases a with
  | z => trivial
  | c e n r => exact (nf_tail h).2.1
theorem hd_mx (a : O) : mx (hdE a) ≤ mx a := by
  cases a with
  | z => exact Int.le_refl _
  | c e n r => show mx e ≤ max n (max (mx e) (mx r)); omega
theorem cs_of_mx {a : O} (h : NF a) {M : Nat} (m : mx a < 2 ^ M) : ∀ p ∈ a.parts, p.2.natAbs < 2 ^ M := fun p hp => by
  have h1 := ((mx_parts (mx_nonneg a) a).mp (Int.le_refl _) p hp).1
  have h2 := (((nf_parts a).mp h).2 p hp).2
  have : (p.2.natAbs : Int) < ((2 ^ M : Nat) : Int) := by rw [Int.natCast_pow]; show _ < (2 : Int) ^ M; omega
  exact_mod_cast this
theorem Sz.hd {H L K Z C M : Nat} {a : O} (x : Sz H L K Z C M a) : Sz H K K K M M (hdE a) where
  nf := hd_nf x.nf
  h := by have := hd_h a x.h; omega
  ll := Nat.le_trans (len_le_size _) x.k
  k := Nat.le_trans (hd_size _) x.k
  s := x.k
  cs := cs_of_mx (hd_nf x.nf) (Int.lt_of_le_of_lt (hd_mx a) x.m)
  m := Int.lt_of_le_of_lt (hd_mx a) x.m
theorem Sz.w {H L K Z C M : Nat} {e : O} (x : Sz H L K Z C M e) {n : Int} (n1 : 1 ≤ n) {c : Nat} (hc : n.natAbs < 2 ^ c) (hM : c ≤ M) : Sz (H + 1) 1 Z (1 + Z) c M (.c e n .z) where
  nf := nf_mk x.nf n1 trivial (fun q hq => by cases hq)
  h := by have := x.h; show max (e.h + 1) 0 ≤ H + 1; omega
  ll := by show 0 + 1 ≤ 1; decide
  k := x.s
  s := by have := x.s; show 1 + e.size + 0 ≤ 1 + Z; omega
  cs := fun p hp => by
    rcases List.mem_cons.mp (show p ∈ (e, n) :: [] from hp) with h | h
    · rw [h]; exact hc
    · cases h
  m := by
    have h1 := x.m
    have h2 : (n.natAbs : Int) < 2 ^ M := by
      have := Nat.lt_of_lt_of_le hc (Nat.pow_le_pow_right (by decide : 0 < 2) hM)
      have : ((n.natAbs : Nat) : Int) < ((2 ^ M : Nat) : Int) := by exact_mod_cast this
      rw [Int.natCast_pow] at this; exact this
    show max n (max (mx e) 0) < 2 ^ M
    omega
end Nm
set_option Elab.async false
set_option linter.all false
set_option maxRecDepth 100000
set_option maxHeartbeats 4000000
namespace Nm
open PySem Pu O L2
end Nm
set_option Elab.async false
set_option linter.all false
set_option maxRecDepth 100000
set_option maxHeartbeats 4000000
namespace Nm
open PySem Pu O L2
end Nm
set_option Elab.async false
set_option linter.all false
set_option maxRecDepth 100000
set_option maxHeartbeats 4000000
namespace Nm
open PySem Pu O L2
theorem Sz.zero : Sz 0 0 0 0 0 0 .z := ⟨trivial, Nat.le_refl _, Nat.le_refl _, Nat.le_refl _, Nat.le_refl _, (fun p hp => by cases hp), by show (0 : Int) < 2 ^ 0; decide⟩
theorem Sz.whole {n : Int} {C M : Nat} (h : 1 ≤ n) (hc : n.natAbs < 2 ^ C) (hM : C ≤ M) : Sz 1 1 0 1 C M (.c .z n .z) :=
  (Sz.zero.up (Nat.le_refl _) (Nat.le_refl _) (Nat.le_refl _) (Nat.le_refl _) (Nat.le_refl _) (Nat.zero_le M)).w h hc hM
theorem TimesG.sz {F : Fn} (h : TimesG F) {H1 L1 K1 Z1 C1 M1 H2 L2 K2 Z2 C2 M2 : Nat} {a b : O} (x : Sz H1 L1 K1 Z1 C1 M1 a) (y : Sz H2 L2 K2 Z2 C2 M2 b)
    (q : (decide (H1 ≤ 8) && decide (H2 ≤ 8) && decide (Z1 ≤ 1000000) && decide (Z2 ≤ 1000000) && decide (L2 * (1 + L1) ≤ 5000000) && decide (0 < C1) && decide (0 < C2) && decide (C1 + C2 ≤ 100000)) = true) : F [enc a, enc b] = .ok (enc (prodO a b)) := by
  simp only [Bool.and_eq_true, decide_eq_true_eq] at q
  obtain ⟨⟨⟨⟨⟨⟨⟨q1, q2⟩, q3⟩, q4⟩, q5⟩, q6⟩, q7⟩, q8⟩ := q
  exact h (x.bg q1) (y.bg q2) q3 q4 q5 q6 q7 q8
theorem PlusOk.sz {F : Fn} {k : Nat} (h : PlusOk k F) {H1 L1 K1 Z1 C1 M1 H2 L2 K2 Z2 C2 M2 : Nat} {a b : O} (x : Sz H1 L1 K1 Z1 C1 M1 a) (y : Sz H2 L2 K2 Z2 C2 M2 b) (hk : 31 ≤ k)
    (q : (decide (H1 ≤ 30) && decide (H2 ≤ 30) && decide (L1 ≤ 1000000) && decide (L2 ≤ 1000000)) = true) : F [enc a, enc b] = .ok (enc (plusO a b)) := by
  simp only [Bool.and_eq_true, decide_eq_true_eq] at q
  have := x.h; have := y.h; have := x.ll; have := y.ll
  exact h a b x.nf (by omega) (by omega) (by omega) (by omega) (by omega)
end Nm
set_option Elab.async false
set_option linter.all false
set_option maxRecDepth 100000
set_option maxHeartbeats 4000000
namespace Nm
open PySem Pu O L2
def val (b : Nat) : O → Nat
  | .z => 0
  | .c e n r => n.toNat * b ^ val b e + val b r
def Fit (b : Nat) : O → Prop
  | .z => True
  | .c e n r => Fit b e ∧ n < b ∧ Fit b r
end Nm
set_option Elab.async false
set_option linter.all false
set_option maxRecDepth 100000
set_option maxHeartbeats 4000000
namespace Nm
open PySem Pu O L2
def TT : Nat → Nat
  | 0 => 0
  | k + 1 => 2 ^ TT k
def SS : Nat → Nat
  | 0 => 0
  | k + 1 => TT k * (1 + SS k)
structure Wi (b m0 mc place k : Nat) (a : O) : Prop where
  nf : NF a
  f : Fit b a
  v : val b a + mc * b ^ place = m0
  e : ∀ p ∈ a.parts, val b p.1 < place
  h : a.h ≤ k
  l : a.len ≤ place
  s : a.size ≤ place * (1 + SS k)
theorem Wi.zero {b m0 k : Nat} : Wi b m0 m0 0 k .z := ⟨trivial, trivial, (by show 0 + m0 * b ^ 0 = m0; rw [Nat.pow_zero, Nat.mul_one, Nat.zero_add]), (fun p hp => by cases hp), Nat.zero_le _, Nat.le_refl _, Nat.zero_le _⟩
end Nm
set_option Elab.async false
set_option linter.all false
set_option maxRecDepth 100000
set_option maxHeartbeats 4000000
set_option exponentiation.threshold 20
namespace Nm
open PySem Pu O L2
end Nm
set_option Elab.async false
set_option linter.all false
set_option maxRecDepth 100000
set_option maxHeartbeats 4000000
set_option exponentiation.threshold 20
namespace Nm
open PySem Pu O L2
def dn (b : Nat) : O → Nat
  | .z => 0
  | .c e _ _ => val b e + 1
end Nm
set_option Elab.async false
set_option linter.all false
set_option maxRecDepth 100000
set_option maxHeartbeats 4000000
set_option exponentiation.threshold 20
namespace Nm
open PySem Pu O L2
end Nm
namespace Nm
open PySem Pu O L2
end Nm
set_option Elab.async false
set_option linter.all false
set_option maxRecDepth 100000
namespace Pu
open PySem
end Pu
set_option Elab.async false
set_option linter.all false
set_option maxRecDepth 100000
set_option maxHeartbeats 4000000
namespace Nm
open PySem Pu O L2
inductive T where
  | z | c (b r : T)
  deriving DecidableEq
namespace T
def L : T → List T
  | z => []
  | c b r => b :: L r
def of : List T → T
  | [] => z
  | b :: r => c b (of r)
@[simp] theorem of_L : ∀ t : T, of t.L = t
  | z => rfl
  | c b r => by show c b (of r.L) = _; rw [of_L r]
@[simp] theorem L_of : ∀ l : List T, (of l).L = l
  | [] => rfl
  | b :: r => by show b :: (of r).L = _; rw [L_of r]
def pts : T → Nat
  | z => 1
  | c b r => b.pts + r.pts
def dp : T → Nat
  | z => 0
  | c b r => max (b.dp + 1) r.dp
theorem dp_mem : ∀ (t b : T), b ∈ t.L → b.dp + 1 ≤ t.dp
  | z, b, h => by cases h
  | c b' r, b, h => by
    rcases List.mem_cons.mp h with h | h
    · subst h; exact Nat.le_max_left _ _
    · have h1 := dp_mem r b h
      show b.dp + 1 ≤ max (b'.dp + 1) r.dp
      omega
end T
open T
structure Hang (n M : Nat) (us : List (List Nat)) (ds : List Nat) : Prop where
  lu : us.length = n + 1
  ld : ds.length = n + 1
  perm : us.flatten.Perm (List.range' 1 n)
  up : ∀ (k : Nat) (l : List Nat), us[k]? = some l → ∀ j ∈ l, k < j ∧ ∃ a b, ds[k]? = some a ∧ ds[j]? = some b ∧ b = a + 1
  le : ∀ d ∈ ds, d ≤ M
  root : ds[0]? = some 0
theorem Hang.zero {M : Nat} : Hang 0 M [[]] [0] := ⟨rfl, rfl, by simp, fun k l h j hj => by
  cases k with
  | zero => simp at h; subst h; cases hj
  | succ k => simp at h, fun d hd => by simp at hd; omega, rfl⟩
theorem flatten_set_ins {us : List (List Nat)} {k : Nat} {l : List Nat} (h : us[k]? = some l) (p x : Nat) : (us.set k (l.take p ++ [x] ++ l.drop p)).flatten.Perm (x :: us.flatten) := by
  induction us generalizing k with
  | nil => simp at h
  | cons u us ih =>
    cases k with
    | zero =>
      simp at h; subst h
      simp only [List.set_cons_zero, List.flatten_cons]
      have h1 : (u.take p ++ [x] ++ u.drop p).Perm (x :: u) := by
        have h2 : (u.take p ++ [x] ++ u.drop p).Perm ([x] ++ u.take p ++ u.drop p) := (List.perm_append_comm (l₁ := u.take p) (l₂ := [x])).append_right _
        have h3 : [x] ++ u.take p ++ u.drop p = x :: u := by rw [List.append_assoc, List.take_append_drop]; rfl
        rw [h3] at h2; exact h2
      exact h1.append_right _
    | succ k =>
      simp at h
      simp only [List.set_cons_succ, List.flatten_cons]
      have h1 := (ih h).append_left u
      exact h1.trans List.perm_middle
theorem Hang.step {n M k p : Nat} {us : List (List Nat)} {ds : List Nat} (h : Hang n M us ds) {l : List Nat} {d : Nat} (hk : us[k]? = some l) (hd : ds[k]? = some d) (hM : d + 1 ≤ M) :
    Hang (n + 1) M (us.set k (l.take p ++ [n + 1] ++ l.drop p) ++ [[]]) (ds ++ [d + 1]) := by
  have hkn : k < n + 1 := by rw [← h.lu]; exact (List.getElem?_eq_some_iff.mp hk).1
  have dget : ∀ (i a : Nat), ds[i]? = some a → (ds ++ [d + 1])[i]? = some a := fun i a e => by
    rw [List.getElem?_append_left (List.getElem?_eq_some_iff.mp e).1]; exact e
  refine ⟨by simp [h.lu], by simp [h.ld], ?_, fun i m hi j hj => ?_, fun x hx => ?_, dget _ _ h.root⟩
  · rw [List.flatten_append]
    have e : List.range' 1 (n + 1) = List.range' 1 n ++ [n + 1] := by rw [List.range'_concat]; simp; omega
    rw [e]
    have h1 := flatten_set_ins hk p (n + 1)
    have h2 : ((n + 1) :: us.flatten).Perm (List.range' 1 n ++ [n + 1]) := (List.Perm.cons (n + 1) h.perm).trans (List.perm_append_comm (l₁ := [n + 1]))
    simpa using h1.trans h2
  · by_cases hl : i < us.length
    · rw [List.getElem?_append_left (by simpa using hl)] at hi
      by_cases c : k = i
      · subst c
        rw [List.getElem?_set_self hl] at hi
        cases hi
        rcases List.mem_append.mp hj with hj | hj
        · rcases List.mem_append.mp hj with hj | hj
          · obtain ⟨g1, a, b, g2, g3, g4⟩ := h.up k l hk j (List.mem_of_mem_take hj)
            exact ⟨g1, a, b, dget _ _ g2, dget _ _ g3, g4⟩
          · simp at hj; subst hj
            exact ⟨hkn, d, d + 1, dget _ _ hd, by rw [List.getElem?_append_right (by rw [h.ld]; exact Nat.le_refl _), h.ld]; simp, rfl⟩
        · obtain ⟨g1, a, b, g2, g3, g4⟩ := h.up k l hk j (List.mem_of_mem_drop hj)
          exact ⟨g1, a, b, dget _ _ g2, dget _ _ g3, g4⟩
      · rw [List.getElem?_set_ne c] at hi
        obtain ⟨g1, a, b, g2, g3, g4⟩ := h.up i m hi j hj
        exact ⟨g1, a, b, dget _ _ g2, dget _ _ g3, g4⟩
    · rw [List.getElem?_append_right (by simpa using hl)] at hi
      have : m = [] := by
        obtain ⟨x, hx⟩ : ∃ x, i - (us.set k (l.take p ++ [n + 1] ++ l.drop p)).length = x := ⟨_, rfl⟩
        rw [hx] at hi
        cases x with
        | zero => simpa using hi.symm
        | succ x => simp at hi
      subst this
      cases hj
  · rcases List.mem_append.mp hx with hx | hx
    · exact h.le x hx
    · simp at hx; omega
end Nm
set_option Elab.async false
set_option linter.all false
set_option maxRecDepth 100000
set_option maxHeartbeats 4000000
set_option exponentiation.threshold 20
namespace Nm
open PySem Pu O L2
end Nm
set_option Elab.async false
set_option linter.all false
set_option maxRecDepth 100000
namespace Pu
open PySem
end Pu
set_option Elab.async false
set_option linter.all false
set_option maxRecDepth 100000
set_option maxHeartbeats 4000000
set_option exponentiation.threshold 20
namespace Nm
open PySem Pu O L2
end Nm
set_option Elab.async false
set_option linter.all false
set_option maxRecDepth 100000
namespace Pu
open PySem
end Pu
set_option Elab.async false
set_option linter.all false
set_option maxRecDepth 100000
set_option maxHeartbeats 4000000
set_option exponentiation.threshold 20
namespace Nm
open PySem Pu O L2
end Nm
set_option Elab.async false
set_option linter.all false
set_option maxRecDepth 100000
set_option maxHeartbeats 4000000
set_option exponentiation.threshold 20
namespace Nm
open PySem Pu O L2
end Nm
set_option Elab.async false
set_option linter.all false
set_option maxRecDepth 100000
set_option maxHeartbeats 4000000
set_option exponentiation.threshold 20
namespace Nm
open PySem Pu O L2
theorem cut_ints (ns : List Int) (i j : Nat) : ∃ cs : List Int, Pu.cutD (ns.map PyData.int) (some (i : Int)) (some (j : Int)) = cs.map .int ∧ cs.length ≤ j ∧ (∀ z ∈ cs, z ∈ ns) := by
  refine ⟨(ns.drop (min i ns.length)).take (min j ns.length - min i ns.length), ?_, ?_, fun z hz => List.mem_of_mem_drop (List.mem_of_mem_take hz)⟩
  · unfold Pu.cutD
    rw [HT.sIx_nat, HT.sIx_nat, List.length_map, ← List.map_drop, ← List.map_take]
  · rw [List.length_take]; omega
end Nm
set_option Elab.async false
set_option linter.all false
set_option maxRecDepth 100000
set_option maxHeartbeats 4000000
set_option exponentiation.threshold 20
namespace Nm
open PySem Pu O L2
def sub : T → List Nat → Option T
  | t, [] => some t
  | t, i :: w => match t.L[i]? with
    | some b => sub b w
    | none => none
theorem sub_cons_some {t s : T} {i : Nat} {w : List Nat} (h : sub t (i :: w) = some s) : ∃ b, t.L[i]? = some b ∧ sub b w = some s := by
  rw [sub] at h
  cases e : t.L[i]? with
  | none => rw [e] at h; cases h
  | some b => rw [e] at h; exact ⟨b, rfl, h⟩
theorem sub_len : ∀ {w : List Nat} {t s : T}, sub t w = some s → w.length + s.dp ≤ t.dp
  | [], t, s, h => by cases h; simp
  | i :: w, t, s, h => by
    obtain ⟨b, h1, h2⟩ := sub_cons_some h
    have := sub_len h2
    have := T.dp_mem t b (List.mem_of_getElem? h1)
    simp only [List.length_cons]; omega
end Nm
set_option Elab.async false
set_option linter.all false
set_option maxRecDepth 100000
set_option maxHeartbeats 4000000
namespace Rk
open PySem PySem.Spec L2 Pu Nm
abbrev KD (α : Type) := List (Str × α)
section
variable {α : Type}
def kv (f : α → PyData) (ps : KD α) : List (PyData × PyData) := ps.map fun p => (.str p.1, f p.2)
def gt (ps : KD α) (w : Str) : Option α := (ps.find? fun p => decide (p.1 = w)).map (·.2)
def pt (ps : KD α) (w : Str) (a : α) : KD α := if (ps.any fun p => decide (p.1 = w)) = true then ps.map (fun p => if p.1 = w then (p.1, a) else p) else ps ++ [(w, a)]
abbrev kS (w : Str) : Key := .inr w
theorem keyD_k (w : Str) : keyD (.str w) = some (kS w) := rfl
theorem key_dec (v w : Str) : decide (keyD (.str v) = some (kS w)) = decide (v = w) := by
  rw [keyD_k]
  by_cases c : v = w
  · subst c; rw [decide_eq_true rfl, decide_eq_true rfl]
  · rw [decide_eq_false c]
    refine decide_eq_false fun z => c ?_
    injection z with z
    injection z with z
theorem val_kv (f : α → PyData) (ps : KD α) (w : Str) : valD (kv f ps) (kS w) = (gt ps w).map f := by
  unfold valD kv gt
  induction ps with
  | nil => rfl
  | cons p r ih =>
    rw [List.map_cons, List.find?_cons, List.find?_cons]
    dsimp only
    rw [key_dec]
    cases decide (p.1 = w) with
    | true => rfl
    | false => exact ih
theorem put_kv (f : α → PyData) (ps : KD α) (w : Str) (a : α) : putD (kv f ps) (kS w) (f a) = kv f (pt ps w a) := by
  unfold putD pt kv
  have e1 : (ps.map fun p => (PyData.str p.1, f p.2)).any (fun p => decide (keyD p.1 = some (kS w))) = ps.any fun p => decide (p.1 = w) := by
    rw [List.any_map]
    congr 1
    funext p
    exact key_dec p.1 w
  rw [e1]
  by_cases c : (ps.any fun p => decide (p.1 = w)) = true
  · rw [if_pos c, if_pos c, List.map_map, List.map_map]
    refine List.map_congr_left fun p _ => ?_
    have := key_dec p.1 w
    show (if keyD (.str p.1) = some (kS w) then (PyData.str p.1, f a) else (.str p.1, f p.2)) = _
    by_cases d : p.1 = w
    · rw [decide_eq_true d] at this
      rw [if_pos (of_decide_eq_true this)]
      show _ = (PyData.str (if p.1 = w then (p.1, a) else p).1, f (if p.1 = w then (p.1, a) else p).2)
      rw [if_pos d]
    · rw [decide_eq_false d] at this
      rw [if_neg (of_decide_eq_false this)]
      show _ = (PyData.str (if p.1 = w then (p.1, a) else p).1, f (if p.1 = w then (p.1, a) else p).2)
      rw [if_neg d]
  · rw [if_neg c, if_neg c, List.map_append]; rfl
theorem ins_kv (f : α → PyData) (ps : KD α) : insB (kv f ps) = false := by cases ps <;> rfl
theorem len_kv (f : α → PyData) (ps : KD α) : (kv f ps).length = ps.length := List.length_map ..
theorem gt_some {ps : KD α} {w : Str} {a : α} (h : gt ps w = some a) : (w, a) ∈ ps := by
  unfold gt at h
  obtain ⟨p, hp, rfl⟩ := Option.map_eq_some_iff.mp h
  have h1 := List.mem_of_find?_eq_some hp
  have h2 := List.find?_some hp
  have : p.1 = w := of_decide_eq_true h2
  subst this
  exact h1
theorem gt_none {ps : KD α} {w : Str} : gt ps w = none ↔ w ∉ ps.map (·.1) := by
  unfold gt
  rw [Option.map_eq_none_iff, List.find?_eq_none]
  refine ⟨fun h z => ?_, fun h p hp z => ?_⟩
  · obtain ⟨p, hp, e⟩ := List.mem_map.mp z
    exact h p hp (decide_eq_true e)
  · exact h (List.mem_map.mpr ⟨p, hp, of_decide_eq_true z⟩)
theorem gt_isSome {ps : KD α} {w : Str} : (gt ps w).isSome = decide (w ∈ ps.map (·.1)) := by
  by_cases c : w ∈ ps.map (·.1)
  · rw [decide_eq_true c]
    cases e : gt ps w with
    | none => exact absurd c (gt_none.mp e)
    | some _ => rfl
  · rw [decide_eq_false c, gt_none.mpr c]; rfl
theorem gt_mem {ps : KD α} (h : (ps.map (·.1)).Nodup) {w : Str} {a : α} (hm : (w, a) ∈ ps) : gt ps w = some a := by
  unfold gt
  induction ps with
  | nil => cases hm
  | cons q r ih =>
    rw [List.map_cons, List.nodup_cons] at h
    rw [List.find?_cons]
    rcases List.mem_cons.mp hm with rfl | hp
    · rw [decide_eq_true rfl]; rfl
    · have : ¬ q.1 = w := fun z => h.1 (List.mem_map.mpr ⟨(w, a), hp, z.symm⟩)
      rw [decide_eq_false this]
      exact ih h.2 hp
theorem pt_new {ps : KD α} {w : Str} (h : gt ps w = none) (a : α) : pt ps w a = ps ++ [(w, a)] := by
  unfold pt
  rw [if_neg]
  intro z
  obtain ⟨p, hp, e⟩ := List.any_eq_true.mp z
  exact gt_none.mp h (List.mem_map.mpr ⟨p, hp, of_decide_eq_true e⟩)
theorem pt_keys (ps : KD α) (w : Str) (a : α) : (pt ps w a).map (·.1) = if w ∈ ps.map (·.1) then ps.map (·.1) else ps.map (·.1) ++ [w] := by
  unfold pt
  by_cases c : w ∈ ps.map (·.1)
  · rw [if_pos c, if_pos, List.map_map]
    · refine List.map_congr_left fun p _ => ?_
      show (if p.1 = w then (p.1, a) else p).1 = p.1
      split <;> rfl
    · obtain ⟨p, hp, e⟩ := List.mem_map.mp c
      exact List.any_eq_true.mpr ⟨p, hp, decide_eq_true e⟩
  · rw [if_neg c, if_neg, List.map_append]; rfl
    intro z
    obtain ⟨p, hp, e⟩ := List.any_eq_true.mp z
    exact c (List.mem_map.mpr ⟨p, hp, of_decide_eq_true e⟩)
theorem gt_app {ps qs : KD α} {w : Str} {a : α} (h : gt ps w = some a) : gt (ps ++ qs) w = some a := by
  unfold gt at h ⊢
  obtain ⟨p, hp, e⟩ := Option.map_eq_some_iff.mp h
  rw [List.find?_append, hp]
  exact congrArg some e
theorem gt_snoc {ps : KD α} {w v : Str} {a : α} (h : gt ps w = none) : gt (ps ++ [(v, a)]) w = if v = w then some a else none := by
  unfold gt at h ⊢
  rw [Option.map_eq_none_iff] at h
  rw [List.find?_append, h, Option.none_or, List.find?_cons]
  by_cases c : v = w
  · rw [decide_eq_true c, if_pos c]; rfl
  · rw [decide_eq_false c, if_neg c]; rfl
end
theorem sub_len {a : List Str} : ∀ {b : List Str}, a.Nodup → (∀ x ∈ a, x ∈ b) → a.length ≤ b.length := by
  induction a with
  | nil => intro b _ _; exact Nat.zero_le _
  | cons x r ih =>
    intro b hn hs
    rw [List.nodup_cons] at hn
    have hx : x ∈ b := hs x (by simp)
    have := ih (b := b.erase x) hn.2 fun y hy => (List.mem_erase_of_ne fun z : y = x => hn.1 (z ▸ hy)).mpr (hs y (List.mem_cons_of_mem _ hy))
    rw [List.length_erase_of_mem hx] at this
    have : 0 < b.length := List.length_pos_of_mem hx
    rw [List.length_cons]; omega
theorem sub_all {a b : List Str} (ha : a.Nodup) (hs : ∀ x ∈ a, x ∈ b) (hl : b.length ≤ a.length) : ∀ x ∈ b, x ∈ a := fun x hx => by
  apply Classical.byContradiction
  intro hn
  have := sub_len (b := b.erase x) ha fun y hy => (List.mem_erase_of_ne fun z : y = x => hn (z ▸ hy)).mpr (hs y hy)
  rw [List.length_erase_of_mem hx] at this
  have : 0 < b.length := List.length_pos_of_mem hx
  omega
def addK (ks : List Str) (w : Str) : List Str := if w ∈ ks then ks else ks ++ [w]
theorem mem_addK {ks : List Str} {w v : Str} : v ∈ addK ks w ↔ v ∈ ks ∨ v = w := by
  unfold addK
  by_cases c : w ∈ ks
  · rw [if_pos c]; exact ⟨.inl, fun h => h.elim id fun e => e ▸ c⟩
  · rw [if_neg c]; simp
theorem nodup_addK {ks : List Str} {w : Str} (h : ks.Nodup) : (addK ks w).Nodup := by
  unfold addK
  by_cases c : w ∈ ks
  · rw [if_pos c]; exact h
  · rw [if_neg c]
    refine List.nodup_append.mpr ⟨h, by simp, fun a ha b hb e => c ?_⟩
    rw [List.mem_singleton.mp hb] at e
    exact e ▸ ha
theorem mem_adds : ∀ {os ks : List Str} {v : Str}, v ∈ os.foldl addK ks ↔ v ∈ ks ∨ v ∈ os
  | [], ks, v => by simp
  | o :: os, ks, v => by rw [List.foldl_cons, mem_adds, mem_addK, List.mem_cons, or_assoc]
theorem nodup_adds : ∀ {os ks : List Str}, ks.Nodup → (os.foldl addK ks).Nodup
  | [], ks, h => h
  | o :: os, ks, h => nodup_adds (os := os) (nodup_addK h)
abbrev Rs := KD (List Str)
def uni (rs : Rs) : List Str := rs.flatMap fun p => p.1 :: p.2
def kin (ks : List Str) (p : Str × List Str) : List Str := p.2.foldl addK (addK ks p.1)
def kinds (rs : Rs) : List Str := rs.foldl kin []
theorem mem_kin {ks : List Str} {p : Str × List Str} {v : Str} : v ∈ kin ks p ↔ v ∈ ks ∨ v ∈ p.1 :: p.2 := by
  unfold kin
  rw [mem_adds, mem_addK, List.mem_cons, or_assoc]
theorem mem_kins : ∀ {rs : Rs} {ks : List Str} {v : Str}, v ∈ rs.foldl kin ks ↔ v ∈ ks ∨ v ∈ uni rs
  | [], ks, v => by simp [uni]
  | p :: rs, ks, v => by rw [List.foldl_cons, mem_kins, mem_kin, or_assoc]; unfold uni; rw [List.flatMap_cons, List.mem_append]
theorem nodup_kins : ∀ {rs : Rs} {ks : List Str}, ks.Nodup → (rs.foldl kin ks).Nodup
  | [], ks, h => h
  | p :: rs, ks, h => nodup_kins (rs := rs) (nodup_adds (nodup_addK h))
theorem mem_kinds {rs : Rs} {v : Str} : v ∈ kinds rs ↔ v ∈ uni rs := by unfold kinds; rw [mem_kins]; simp
theorem nodup_kinds (rs : Rs) : (kinds rs).Nodup := nodup_kins List.nodup_nil
abbrev Kn := KD Int
def nrk (K : Kn) : List Str → Int → Option Int
  | [], r => some r
  | o :: os, r => match gt K o with
    | none => none
    | some v => nrk K os (if v + 1 > r then v + 1 else r)
def lsR (rs : Rs) (k : Str) : List Str := (gt rs k).getD []
def stK (rs : Rs) (K : Kn) (k : Str) : Kn := match gt K k with
  | some _ => K
  | none => match nrk K (lsR rs k) 0 with
    | none => K
    | some r => K ++ [(k, r)]
def pass (rs : Rs) (K : Kn) : Kn := (kinds rs).foldl (stK rs) K
def itK (rs : Rs) : Nat → Kn
  | 0 => []
  | n + 1 => pass rs (itK rs n)
theorem nrk_none {K : Kn} : ∀ {os : List Str} {r : Int}, nrk K os r = none ↔ ∃ o ∈ os, gt K o = none
  | [], r => by simp [nrk]
  | o :: os, r => by
    unfold nrk
    cases e : gt K o with
    | none => simp [e]
    | some v =>
      dsimp only
      rw [nrk_none]
      simp [e]
theorem nrk_app {K L : Kn} : ∀ {os : List Str} {r v : Int}, nrk K os r = some v → nrk (K ++ L) os r = some v
  | [], r, v, h => h
  | o :: os, r, v, h => by
    unfold nrk at h ⊢
    cases e : gt K o with
    | none => rw [e] at h; cases h
    | some x =>
      rw [e] at h
      rw [gt_app e]
      exact nrk_app h
structure KnOk (rs : Rs) (K : Kn) : Prop where
  nd : (K.map (·.1)).Nodup
  mem : ∀ w ∈ K.map (·.1), w ∈ kinds rs
  val : ∀ w r, gt K w = some r → nrk K (lsR rs w) 0 = some r
theorem KnOk.nil (rs : Rs) : KnOk rs [] where
  nd := List.nodup_nil
  mem := fun w h => nomatch h
  val := fun w r h => nomatch h
theorem stK_cases (rs : Rs) (K : Kn) (k : Str) : stK rs K k = K ∨ (gt K k = none ∧ ∃ r, nrk K (lsR rs k) 0 = some r ∧ stK rs K k = K ++ [(k, r)]) := by
  unfold stK
  cases e : gt K k with
  | some _ => exact .inl rfl
  | none =>
    dsimp only
    cases e2 : nrk K (lsR rs k) 0 with
    | none => exact .inl rfl
    | some r => exact .inr ⟨rfl, r, rfl, rfl⟩
theorem KnOk.st {rs : Rs} {K : Kn} (h : KnOk rs K) {k : Str} (hk : k ∈ kinds rs) : KnOk rs (stK rs K k) := by
  rcases stK_cases rs K k with e | ⟨e1, r, e2, e⟩
  · rw [e]; exact h
  · rw [e]
    refine ⟨?_, fun w hw => ?_, fun w v hv => ?_⟩
    · rw [List.map_append]
      refine List.nodup_append.mpr ⟨h.nd, by simp, fun a ha b hb z => gt_none.mp e1 ?_⟩
      have : b = k := by simpa using hb
      exact this ▸ z ▸ ha
    · rw [List.map_append] at hw
      rcases List.mem_append.mp hw with z | z
      · exact h.mem w z
      · have : w = k := by simpa using z
        exact this ▸ hk
    · cases ew : gt K w with
      | some x =>
        rw [gt_app ew] at hv
        cases hv
        exact nrk_app (h.val w _ ew)
      | none =>
        rw [gt_snoc ew] at hv
        by_cases c : k = w
        · rw [if_pos c] at hv
          cases hv
          subst c
          exact nrk_app e2
        · rw [if_neg c] at hv; cases hv
theorem KnOk.sts {rs : Rs} : ∀ {ks : List Str} {K : Kn}, KnOk rs K → (∀ k ∈ ks, k ∈ kinds rs) → KnOk rs (ks.foldl (stK rs) K)
  | [], K, h, _ => h
  | k :: ks, K, h, hk => KnOk.sts (ks := ks) (h.st (hk k (by simp))) fun x hx => hk x (List.mem_cons_of_mem _ hx)
theorem st_len (rs : Rs) (K : Kn) (k : Str) : K.length ≤ (stK rs K k).length ∧ ((stK rs K k).length = K.length → stK rs K k = K) := by
  rcases stK_cases rs K k with e | ⟨_, r, _, e⟩
  · rw [e]; exact ⟨Nat.le_refl _, fun _ => rfl⟩
  · rw [e, List.length_append]
    exact ⟨by simp, fun z => by simp at z⟩
theorem sts_len (rs : Rs) : ∀ (ks : List Str) (K : Kn), K.length ≤ (ks.foldl (stK rs) K).length ∧ ((ks.foldl (stK rs) K).length = K.length → ks.foldl (stK rs) K = K ∧ ∀ k ∈ ks, stK rs K k = K)
  | [], K => ⟨Nat.le_refl _, fun _ => ⟨rfl, fun k h => by cases h⟩⟩
  | k :: ks, K => by
    obtain ⟨h1, h2⟩ := st_len rs K k
    obtain ⟨h3, h4⟩ := sts_len rs ks (stK rs K k)
    rw [List.foldl_cons]
    refine ⟨Nat.le_trans h1 h3, fun z => ?_⟩
    have e1 := h2 (by omega)
    rw [e1] at h3 h4 z ⊢
    obtain ⟨e2, e3⟩ := h4 z
    exact ⟨e2, fun x hx => (List.mem_cons.mp hx).elim (fun e => e ▸ e1) (e3 x)⟩
theorem itK_ok (rs : Rs) : ∀ n, KnOk rs (itK rs n)
  | 0 => .nil rs
  | n + 1 => (itK_ok rs n).sts fun k h => h
theorem it_grow (rs : Rs) : ∀ n, pass rs (itK rs n) = itK rs n ∨ n ≤ (itK rs n).length
  | 0 => .inr (Nat.zero_le _)
  | n + 1 => by
    rcases it_grow rs n with h | h
    · left
      show pass rs (pass rs (itK rs n)) = pass rs (itK rs n)
      rw [h, h]
    · obtain ⟨h1, h2⟩ := sts_len rs (kinds rs) (itK rs n)
      by_cases c : ((kinds rs).foldl (stK rs) (itK rs n)).length = (itK rs n).length
      · left
        have := (h2 c).1
        show pass rs (pass rs (itK rs n)) = pass rs (itK rs n)
        have e : pass rs (itK rs n) = itK rs n := this
        rw [e, e]
      · right
        show n + 1 ≤ ((kinds rs).foldl (stK rs) (itK rs n)).length
        omega
def known (rs : Rs) : Kn := itK rs (kinds rs).length
theorem known_ok (rs : Rs) : KnOk rs (known rs) := itK_ok rs _
theorem known_fix (rs : Rs) : ∀ k ∈ kinds rs, stK rs (known rs) k = known rs := by
  have key : pass rs (known rs) = known rs → ∀ k ∈ kinds rs, stK rs (known rs) k = known rs := fun e =>
    ((sts_len rs (kinds rs) (known rs)).2 (by show (pass rs (known rs)).length = _; rw [e])).2
  rcases it_grow rs (kinds rs).length with h | h
  · exact key h
  · have ok := known_ok rs
    intro k hk
    have : k ∈ (known rs).map (·.1) := sub_all ok.nd ok.mem (by rw [List.length_map]; exact h) k hk
    unfold stK
    cases e : gt (known rs) k with
    | some _ => rfl
    | none => exact absurd this (gt_none.mp e)
theorem known_no {rs : Rs} {k : Str} (hk : k ∈ kinds rs) (h : gt (known rs) k = none) : ∃ o ∈ lsR rs k, gt (known rs) o = none := by
  have e := known_fix rs k hk
  unfold stK at e
  rw [h] at e
  dsimp only at e
  cases e2 : nrk (known rs) (lsR rs k) 0 with
  | none => exact nrk_none.mp e2
  | some r =>
    rw [e2] at e
    have := congrArg List.length e
    simp at this
end Rk
set_option Elab.async false
set_option linter.all false
set_option maxRecDepth 100000
set_option maxHeartbeats 4000000
namespace Rk
open PySem PySem.Spec L2 Pu Nm
theorem forL_fj {α β J : Type} {gt : PyData → Vars → Option Vars} {g : Vars → Out} (E : α → PyData) (f : β → α → β) (st : β → J → Vars) (P : β → Prop) : ∀ (xs : List α) (b : β) (j : J), P b →
    (∀ x ∈ xs, ∀ b j, P b → ∃ ρ1 j', gt (E x) (st b j) = some ρ1 ∧ g ρ1 = .nx (st (f b x) j') ∧ P (f b x)) → ∃ j', forL gt g (xs.map E) (st b j) = .nx (st (xs.foldl f b) j') ∧ P (xs.foldl f b)
  | [], b, j, hb, _ => ⟨j, rfl, hb⟩
  | x :: xs, b, j, hb, h => by
    obtain ⟨ρ1, j1, h1, h2, h3⟩ := h x (by simp) b j hb
    obtain ⟨j2, h4, h5⟩ := forL_fj E f st P xs (f b x) j1 h3 fun y hy => h y (by simp [hy])
    refine ⟨j2, ?_, h5⟩
    rw [List.map_cons, u_forL_c, h1]
    simp only [h2, h4, List.foldl_cons]
def tx (l : List Str) : PyData := .list (l.map .str)
abbrev rsD (rs : Rs) : PyData := .dict (kv tx rs)
abbrev knD (K : Kn) : PyData := .dict (kv .int K)
theorem lay_tx : ∀ {l : List Str}, (∀ w ∈ l, PyData.strOk w = true) → PyData.canLayAll0 (l.map .str) = true ∧ PyData.depthAll (l.map .str) ≤ 1
  | [], _ => ⟨rfl, by simp [PyData.depthAll]⟩
  | w :: l, h => by
    obtain ⟨b1, b2⟩ := lay_tx (l := l) fun u hu => h u (List.mem_cons_of_mem _ hu)
    have hw := h w (by simp)
    refine ⟨?_, ?_⟩
    · simp only [List.map_cons, PyData.canLayAll0, PyData.canLay0, Bool.and_eq_true]
      exact ⟨hw, b1⟩
    · simp only [List.map_cons, PyData.depthAll, PyData.depth]
      omega
theorem shaped_tx {l : List Str} (h : ∀ w ∈ l, PyData.strOk w = true) : SeqAt.shaped (tx l) = true := by
  obtain ⟨a, b⟩ := lay_tx h
  unfold SeqAt.shaped tx
  simp only [PyData.canLay0, PyData.depth, Bool.and_eq_true, decide_eq_true_eq]
  exact ⟨a, decide_eq_true (by omega)⟩
theorem shaped_w {w : Str} (h : PyData.strOk w = true) : SeqAt.shaped (.str w) = true := by
  unfold SeqAt.shaped
  simp only [PyData.canLay0, PyData.depth, Bool.and_eq_true, decide_eq_true_eq]
  exact ⟨h, decide_eq_true (by omega)⟩
theorem eqv_w (x y : Str) : PyData.eqv (.str x) (.str y) = decide (x = y) := by
  have e : PyData.eqv (.str x) (.str y) = (x == y) := by simp [PyData.eqv]
  rw [e]
  by_cases c : x = y
  · subst c; rw [decide_eq_true rfl, beq_iff_eq]
  · rw [decide_eq_false c]
    exact beq_eq_false_iff_ne.mpr c
theorem any_tx (l : List Str) (w : Str) : ((l.map PyData.str).any fun z => PyData.eqv z (.str w)) = decide (w ∈ l) := by
  rw [List.any_map]
  by_cases c : w ∈ l
  · rw [decide_eq_true c]
    exact List.any_eq_true.mpr ⟨w, c, by show PyData.eqv (.str w) (.str w) = true; rw [eqv_w]; exact decide_eq_true rfl⟩
  · rw [decide_eq_false c, List.any_eq_false]
    intro x hx z
    have : PyData.eqv (.str x) (.str w) = true := z
    rw [eqv_w] at this
    exact c (of_decide_eq_true this ▸ hx)
theorem gInL_tx {l : List Str} {w : Str} (hw : PyData.strOk w = true) (hl : ∀ v ∈ l, PyData.strOk v = true) : gInL (.str w) (tx l) = some (.bool (decide (w ∈ l))) := by
  have h1 := shaped_tx hl
  unfold gInL tx at *
  dsimp only
  rw [if_pos (by rw [shaped_w hw, h1]; rfl), any_tx]
theorem gNinL_tx {l : List Str} {w : Str} (hw : PyData.strOk w = true) (hl : ∀ v ∈ l, PyData.strOk v = true) : gNinL (.str w) (tx l) = some (.bool (!decide (w ∈ l))) := by
  have h1 := shaped_tx hl
  unfold gNinL tx at *
  dsimp only
  rw [if_pos (by rw [shaped_w hw, h1]; rfl), any_tx]
theorem din_kv {α : Type} (f : α → PyData) (ps : KD α) (w : Str) : gDin (.str w) (.dict (kv f ps)) = some (.bool (gt ps w).isSome) := by
  unfold gDin
  dsimp only
  rw [if_neg (by rw [ins_kv]; decide), keyD_k, Option.map_some, val_kv, Option.isSome_map]
theorem dnin_kv {α : Type} (f : α → PyData) (ps : KD α) (w : Str) : gDnin (.str w) (.dict (kv f ps)) = some (.bool (!(gt ps w).isSome)) := by
  unfold gDnin
  dsimp only
  rw [if_neg (by rw [ins_kv]; decide), keyD_k, Option.map_some, val_kv, Option.isSome_map]
theorem dix_kv {α : Type} {f : α → PyData} {ps : KD α} {w : Str} {a : α} (h : gt ps w = some a) : gDix (.dict (kv f ps)) (.str w) = some (f a) := by
  unfold gDix
  dsimp only
  rw [keyD_k, Option.bind_some, val_kv, h]; rfl
def tK (ks : List Str) : List (PyData × PyData) := kv (fun _ : Unit => .bool true) (ks.map fun w => (w, ()))
theorem tK_keys (ks : List Str) : (ks.map fun w => (w, ())).map (·.1) = ks := by rw [List.map_map]; exact List.map_id _
theorem put_tK (ks : List Str) (w : Str) : putD (tK ks) (kS w) (.bool true) = tK (addK ks w) := by
  unfold tK
  rw [put_kv (fun _ : Unit => .bool true) _ w ()]
  congr 1
  have e := pt_keys (ks.map fun w => (w, ())) w ()
  rw [tK_keys] at e
  have key : ∀ ps : KD Unit, ps = (ps.map (·.1)).map fun w => (w, ()) := fun ps => by
    rw [List.map_map]
    exact (List.map_id ps).symm
  rw [key (pt _ w ()), e]
  rfl
theorem ins_tK (ks : List Str) : insB (tK ks) = false := ins_kv _ _
theorem len_tK (ks : List Str) : (tK ks).length = ks.length := by unfold tK; rw [len_kv, List.length_map]
theorem list_tK (ks : List Str) : gListK [.dict (tK ks)] = some (tx ks) := by
  unfold gListK
  dsimp only
  rw [if_neg (by rw [ins_tK]; decide)]
  unfold tK kv tx
  rw [List.map_map, List.map_map]
  rfl
theorem kinds_of_step {S : Nat → Fn} {rs : Rs} (hu : (uni rs).length ≤ 1000000) : fnD 5 (G_kinds_of S) [rsD rs] = .ok (tx (kinds rs)) := by
  refine fnD_of ?_
  obtain ⟨⟨y2, y3, y4⟩, e, _⟩ := forL_fj (gt := gtTup 2 (gtCons (gtName 2) (gtCons (gtName 3) gtNil))) (g := (sSeq (sDPutM [1] 1 (eC (.bool true)) (eVar 2)) (sFor [1] (iSeq (eVar 3)) (gtName 4) (sDPutM [1] 1 (eC (.bool true)) (eVar 4)))))
    (fun p : Str × List Str => .tuple [.str p.1, tx p.2]) kin (fun ks (j : Option PyData × Option PyData × Option PyData) => [some (rsD rs), some (.dict (tK ks)), j.1, j.2.1, j.2.2]) (fun ks => ks.Nodup ∧ ∀ w ∈ ks, w ∈ uni rs) rs [] (none, none, none) ⟨List.nodup_nil, fun w h => by cases h⟩ fun p hp ks j hk => by
      have sub : ∀ w ∈ p.1 :: p.2, w ∈ uni rs := fun w hw => List.mem_flatMap.mpr ⟨p, hp, hw⟩
      have kl : ∀ ks : List Str, ks.Nodup → (∀ w ∈ ks, w ∈ uni rs) → ks.length < sizeLine := fun ks h1 h2 => sz1000' (by have := sub_len h1 h2; omega)
      have k1 : (addK ks p.1).Nodup ∧ ∀ w ∈ addK ks p.1, w ∈ uni rs := ⟨nodup_addK hk.1, fun w hw => (mem_addK.mp hw).elim (hk.2 w) fun e => e ▸ sub _ (by simp)⟩
      obtain ⟨y4, e2, k2⟩ := forL_fj (gt := gtName 4) (g := sDPutM [1] 1 (eC (.bool true)) (eVar 4)) PyData.str addK (fun ks (y : Option PyData) => [some (rsD rs), some (.dict (tK ks)), some (.str p.1), some (tx p.2), y]) (fun ks => ks.Nodup ∧ ∀ w ∈ ks, w ∈ uni rs)
        p.2 (addK ks p.1) j.2.2 k1 fun o ho ks y hk => by
          refine ⟨_, some (.str o), rfl, ?_, nodup_addK hk.1, fun w hw => (mem_addK.mp hw).elim (hk.2 w) fun e => e ▸ sub _ (List.mem_cons_of_mem _ ho)⟩
          have l1 := kl ks hk.1 hk.2
          rw [← len_tK] at l1
          have pu := put_tK ks o
          have ii := ins_tK ks
          generalize rsD rs = R at *
          generalize tx p.2 = T at *
          generalize tK ks = D at *
          simp [ii, keyD_k, l1, pu]
      refine ⟨_, (some (.str p.1), some (tx p.2), y4), rfl, ?_, k2⟩
      have l1 := kl ks hk.1 hk.2
      rw [← len_tK] at l1
      have pu := put_tK ks p.1
      have ii := ins_tK ks
      show _ = Out.nx [some (rsD rs), some (.dict (tK (p.2.foldl addK (addK ks p.1)))), some (.str p.1), some (tx p.2), y4]
      rw [← e2]
      unfold tx
      generalize rsD rs = R at *
      generalize hT : p.2.map PyData.str = T at *
      generalize tK ks = D at *
      generalize tK (addK ks p.1) = D2 at *
      simp [ii, keyD_k, l1, pu]
  have ek : (kv tx rs).map itI = rs.map fun p => .tuple [.str p.1, tx p.2] := by unfold kv; rw [List.map_map]; rfl
  have ii : insB (kv tx rs) = false := ins_kv _ _
  have e0 : tK [] = [] := rfl
  have lk := list_tK (kinds rs)
  dsimp only at e
  rw [e0] at e
  rw [← ek] at e
  unfold G_kinds_of
  unfold rsD at *
  generalize kv tx rs = R at *
  unfold kinds at *
  generalize rs.foldl kin [] = KS at *
  generalize tK KS = TK at *
  simp [ii, e, lk]
def opI : Option Int → PyData
  | none => .none
  | some r => .int r
theorem next_rank_step {S : Nat → Fn} (os : List Str) (K : Kn) : fnD 4 (G_next_rank S) [tx os, knD K] = .ok (opI (nrk K os 0)) := by
  refine fnD_of ?_
  have key : ∀ (os' : List Str) (r : Int) (y : Option PyData), (∀ v, nrk K os' r = some v → ∃ y', forL (gtName 3) (sSeq (sIf (tOf (eOp gDnin (eVar 3) (eVar 1))) (sRet (eC .none)) sNil) (sSet [] 2 (eCall gMax2 (aCons (eVar 2) (aCons (eOp gAdd (eOp gDix (eVar 1) (eVar 3)) (eC (.int 1))) aNil))))) (os'.map .str) [some (tx os), some (knD K), some (.int r), y] = .nx [some (tx os), some (knD K), some (.int v), y']) ∧
      (nrk K os' r = none → forL (gtName 3) (sSeq (sIf (tOf (eOp gDnin (eVar 3) (eVar 1))) (sRet (eC .none)) sNil) (sSet [] 2 (eCall gMax2 (aCons (eVar 2) (aCons (eOp gAdd (eOp gDix (eVar 1) (eVar 3)) (eC (.int 1))) aNil))))) (os'.map .str) [some (tx os), some (knD K), some (.int r), y] = .rt .none) := by
    intro os'
    induction os' with
    | nil => intro r y; exact ⟨fun v e => by cases e; exact ⟨y, rfl⟩, fun e => by cases e⟩
    | cons o os' ih =>
      intro r y
      have dn := dnin_kv PyData.int K o
      rw [List.map_cons, u_forL_c, u_gtName]
      unfold nrk
      cases eo : gt K o with
      | none =>
        rw [eo] at dn
        refine ⟨fun v e => (by cases e), fun _ => ?_⟩
        have : (sSeq (sIf (tOf (eOp gDnin (eVar 3) (eVar 1))) (sRet (eC .none)) sNil) (sSet [] 2 (eCall gMax2 (aCons (eVar 2) (aCons (eOp gAdd (eOp gDix (eVar 1) (eVar 3)) (eC (.int 1))) aNil))))) [some (tx os), some (knD K), some (.int r), some (.str o)] = .rt .none := by
          unfold knD
          generalize tx os = T at *
          generalize kv PyData.int K = KK at *
          simp [dn]
        show (match (sSeq (sIf (tOf (eOp gDnin (eVar 3) (eVar 1))) (sRet (eC .none)) sNil) (sSet [] 2 (eCall gMax2 (aCons (eVar 2) (aCons (eOp gAdd (eOp gDix (eVar 1) (eVar 3)) (eC (.int 1))) aNil))))) [some (tx os), some (knD K), some (.int r), some (.str o)] with
          | .nx ρ2 => _ | .ct ρ2 => _ | .bk ρ2 => _ | .rt d => _ | .err c ρ2 => _ | .bad => _) = _
        rw [this]
      | some v =>
        rw [eo] at dn
        have dx := dix_kv (f := PyData.int) eo
        have : (sSeq (sIf (tOf (eOp gDnin (eVar 3) (eVar 1))) (sRet (eC .none)) sNil) (sSet [] 2 (eCall gMax2 (aCons (eVar 2) (aCons (eOp gAdd (eOp gDix (eVar 1) (eVar 3)) (eC (.int 1))) aNil))))) [some (tx os), some (knD K), some (.int r), some (.str o)] = .nx [some (tx os), some (knD K), some (.int (if v + 1 > r then v + 1 else r)), some (.str o)] := by
          unfold knD
          generalize tx os = T at *
          generalize kv PyData.int K = KK at *
          simp [dn, dx, gMax2]
        dsimp only
        obtain ⟨i1, i2⟩ := ih (if v + 1 > r then v + 1 else r) (some (.str o))
        refine ⟨fun u e => ?_, fun e => ?_⟩
        · obtain ⟨y', h⟩ := i1 u e
          refine ⟨y', ?_⟩
          rw [← h]
          show (match (sSeq (sIf (tOf (eOp gDnin (eVar 3) (eVar 1))) (sRet (eC .none)) sNil) (sSet [] 2 (eCall gMax2 (aCons (eVar 2) (aCons (eOp gAdd (eOp gDix (eVar 1) (eVar 3)) (eC (.int 1))) aNil))))) [some (tx os), some (knD K), some (.int r), some (.str o)] with
            | .nx ρ2 => _ | .ct ρ2 => _ | .bk ρ2 => _ | .rt d => _ | .err c ρ2 => _ | .bad => _) = _
          rw [this]
        · rw [← i2 e]
          show (match (sSeq (sIf (tOf (eOp gDnin (eVar 3) (eVar 1))) (sRet (eC .none)) sNil) (sSet [] 2 (eCall gMax2 (aCons (eVar 2) (aCons (eOp gAdd (eOp gDix (eVar 1) (eVar 3)) (eC (.int 1))) aNil))))) [some (tx os), some (knD K), some (.int r), some (.str o)] with
            | .nx ρ2 => _ | .ct ρ2 => _ | .bk ρ2 => _ | .rt d => _ | .err c ρ2 => _ | .bad => _) = _
          rw [this]
  unfold G_next_rank
  obtain ⟨k1, k2⟩ := key os 0 none
  cases e : nrk K os 0 with
  | some v =>
    obtain ⟨y', h⟩ := k1 v e
    unfold tx at *
    generalize os.map PyData.str = T at *
    generalize knD K = KK at *
    simp [h, opI]
  | none =>
    have h := k2 e
    unfold tx at *
    generalize os.map PyData.str = T at *
    generalize knD K = KK at *
    simp [h, opI]
end Rk
set_option Elab.async false
set_option linter.all false
set_option maxRecDepth 100000
set_option maxHeartbeats 4000000
namespace Rk
open PySem PySem.Spec L2 Pu Nm
structure RsOk (rs : Rs) : Prop where
  nd : (rs.map (·.1)).Nodup
  len : (uni rs).length ≤ 100000
  ok : ∀ w ∈ uni rs, PyData.strOk w = true
theorem lsR_uni {rs : Rs} {k o : Str} (h : o ∈ lsR rs k) : ∃ l, gt rs k = some l ∧ o ∈ l ∧ o ∈ uni rs := by
  unfold lsR at h
  cases e : gt rs k with
  | none => rw [e] at h; cases h
  | some l =>
    rw [e] at h
    exact ⟨l, rfl, h, List.mem_flatMap.mpr ⟨(k, l), gt_some e, List.mem_cons_of_mem _ h⟩⟩
theorem kinds_len {rs : Rs} (h : RsOk rs) : (kinds rs).length ≤ 100000 := Nat.le_trans (sub_len (nodup_kinds rs) fun x hx => mem_kinds.mp hx) h.len
theorem kn_len {rs : Rs} {K : Kn} (h : RsOk rs) (k : KnOk rs K) : K.length ≤ 100000 := by
  have := sub_len k.nd k.mem
  rw [List.length_map] at this
  exact Nat.le_trans this (kinds_len h)
theorem dget_kv (rs : Rs) (k : Str) : gDget (kv tx rs) (.str k) (.list []) = some (tx (lsR rs k)) := by
  unfold gDget
  rw [keyD_k, Option.map_some, val_kv]
  unfold lsR
  cases gt rs k <;> rfl
def KindsOk (F : Fn) : Prop := ∀ rs, RsOk rs → F [rsD rs] = .ok (tx (kinds rs))
def NextOk (F : Fn) : Prop := ∀ (os : List Str) (K : Kn), F [tx os, knD K] = .ok (opI (nrk K os 0))
structure RingOk (rs : Rs) (r : List Str) : Prop where
  ne : r ≠ []
  nd : r.Nodup
  ch : ∀ i (h : i + 1 < r.length), r[i + 1] ∈ lsR rs r[i]
  cl : r.head ne ∈ lsR rs (r.getLast ne)
def RingF (F : Fn) : Prop := ∀ rs, RsOk rs → ∀ k ∈ kinds rs, gt (known rs) k = none → ∃ r, F [.str k, rsD rs, knD (known rs)] = .ok (tx r) ∧ RingOk rs r
def RanksOk (F : Fn) : Prop := ∀ rs, RsOk rs → (F [rsD rs] = .ok (.tuple [.str "ranks", knD (known rs)]) ∧ ∀ k ∈ kinds rs, gt (known rs) k ≠ none) ∨ ∃ r, F [rsD rs] = .ok (.tuple [.str "ring", tx r]) ∧ RingOk rs r
abbrev rkB (c1 : Nat) (S : Nat → Fn) : Vars → Out := sIf (tOf (eOp gDnin (eVar 4) (eVar 1))) (sSeq (sSet [1] 5 (eFn (S c1) (aCons (eDget (eVar 0) (eVar 4) (eLst aNil)) (aCons (eVar 1) aNil)))) (sIf (tOf (eOp gNotN (eVar 5) (eC .none))) (sDPutM [1] 1 (eVar 5) (eVar 4)) sNil)) sNil
theorem rk_turn {S : Nat → Fn} {c1 : Nat} (h1 : NextOk (S c1)) {rs : Rs} (R : RsOk rs) {K : Kn} (ok : KnOk rs K) {k : Str} {x2 x3 y5 : Option PyData} : ∃ y5', rkB c1 S [some (rsD rs), some (knD K), x2, x3, some (.str k), y5] = .nx [some (rsD rs), some (knD (stK rs K k)), x2, x3, some (.str k), y5'] := by
  have dn := dnin_kv PyData.int K k
  have dg := dget_kv rs k
  have hn := h1 (lsR rs k) K
  have ii := ins_kv tx rs
  have ik := ins_kv PyData.int K
  have l0 : (0 : Nat) ≤ sizeLine := Nat.zero_le _
  have ll : (kv PyData.int K).length < sizeLine := sz1000' (by rw [len_kv]; have := kn_len R ok; omega)
  unfold stK
  cases e : gt K k with
  | some v =>
    rw [e] at dn
    refine ⟨y5, ?_⟩
    unfold rsD knD at *
    generalize kv tx rs = RR at *
    generalize kv PyData.int K = KK at *
    simp [dn]
  | none =>
    rw [e] at dn
    dsimp only
    cases e2 : nrk K (lsR rs k) 0 with
    | none =>
      rw [e2] at hn
      have gn : gNotN .none .none = some (.bool false) := rfl
      refine ⟨some .none, ?_⟩
      unfold rsD knD at *
      generalize kv tx rs = RR at *
      generalize kv PyData.int K = KK at *
      generalize tx (lsR rs k) = TT at *
      simp [dn, ii, dg, hn, opI, gn, imm]
    | some r =>
      rw [e2] at hn
      have gn : gNotN (.int r) .none = some (.bool true) := rfl
      have pu := put_kv PyData.int K k r
      rw [pt_new e] at pu
      refine ⟨some (.int r), ?_⟩
      unfold rsD knD at *
      generalize kv tx rs = RR at *
      generalize kv PyData.int (K ++ [(k, r)]) = KK2 at *
      generalize kv PyData.int K = KK at *
      generalize tx (lsR rs k) = TT at *
      simp [dn, ii, dg, hn, opI, gn, imm, ik, keyD_k, ll, pu]
theorem it_range (rs : Rs) : ∀ n, (List.range n).foldl (fun K _ => pass rs K) [] = itK rs n
  | 0 => rfl
  | n + 1 => by rw [List.range_succ, List.foldl_append, it_range rs n]; rfl
theorem ranks_step {S : Nat → Fn} {c0 c1 c2 : Nat} (h0 : KindsOk (S c0)) (h1 : NextOk (S c1)) (h2 : RingF (S c2)) : RanksOk (fun ds => fnD 6 (G_ranks c0 c1 c2 S) ds) := by
  intro rs R
  have hk := h0 rs R
  have lk := kinds_len R
  -- the rounds
  obtain ⟨⟨y3, y4, y5⟩, e1, ok⟩ := forL_fj (gt := gtName 3) (g := sFor [1] (iSeq (eVar 2)) (gtName 4) (rkB c1 S)) (fun i : Nat => PyData.int (0 + (i : Nat))) (fun K _ => pass rs K)
    (fun K (j : Option PyData × Option PyData × Option PyData) => [some (rsD rs), some (knD K), some (tx (kinds rs)), j.1, j.2.1, j.2.2]) (KnOk rs) (List.range (kinds rs).length) [] (none, none, none) (.nil rs) fun i _ K j ok => by
      obtain ⟨⟨z4, z5⟩, e2, ok2⟩ := forL_fj (gt := gtName 4) (g := rkB c1 S) PyData.str (stK rs) (fun K (q : Option PyData × Option PyData) => [some (rsD rs), some (knD K), some (tx (kinds rs)), some (.int (0 + (i : Nat))), q.1, q.2]) (KnOk rs)
        (kinds rs) K (j.2.1, j.2.2) ok fun k hk K q ok => by
          obtain ⟨y5', e3⟩ := rk_turn h1 R ok (k := k) (x2 := some (tx (kinds rs))) (x3 := some (.int (0 + (i : Nat)))) (y5 := q.2)
          exact ⟨_, (some (.str k), y5'), rfl, e3, ok.st hk⟩
      refine ⟨_, (some (.int (0 + (i : Nat))), z4, z5), rfl, ?_, ok2⟩
      show _ = Out.nx [some (rsD rs), some (knD (pass rs K)), some (tx (kinds rs)), some (.int (0 + (i : Nat))), z4, z5]
      have e2' : forL (gtName 4) (rkB c1 S) ((kinds rs).map .str) [some (rsD rs), some (knD K), some (tx (kinds rs)), some (.int (0 + (i : Nat))), j.2.1, j.2.2] = Out.nx [some (rsD rs), some (knD (pass rs K)), some (tx (kinds rs)), some (.int (0 + (i : Nat))), z4, z5] := e2
      rw [← e2']
      unfold tx
      generalize (kinds rs).map PyData.str = KL at *
      generalize rsD rs = RR at *
      generalize knD K = KK at *
      generalize rkB c1 S = G at *
      simp
  rw [it_range] at e1
  have ekn : itK rs (kinds rs).length = known rs := rfl
  rw [ekn] at e1
  have okk := known_ok rs
  -- one without a rank
  have key : ∀ (ks : List Str) (y : Option PyData), (∀ k ∈ ks, k ∈ kinds rs) →
      ((∀ k ∈ ks, gt (known rs) k ≠ none) → ∃ y', forL (gtName 4) (sIf (tOf (eOp gDnin (eVar 4) (eVar 1))) (sRet (eTup (aCons (eC (.str "ring")) (aCons (eFn (S c2) (aCons (eVar 4) (aCons (eVar 0) (aCons (eVar 1) aNil)))) aNil)))) sNil) (ks.map .str) [some (rsD rs), some (knD (known rs)), some (tx (kinds rs)), y3, y, y5] = .nx [some (rsD rs), some (knD (known rs)), some (tx (kinds rs)), y3, y', y5]) ∧
      ((∃ k ∈ ks, gt (known rs) k = none) → ∃ r, forL (gtName 4) (sIf (tOf (eOp gDnin (eVar 4) (eVar 1))) (sRet (eTup (aCons (eC (.str "ring")) (aCons (eFn (S c2) (aCons (eVar 4) (aCons (eVar 0) (aCons (eVar 1) aNil)))) aNil)))) sNil) (ks.map .str) [some (rsD rs), some (knD (known rs)), some (tx (kinds rs)), y3, y, y5] = .rt (.tuple [.str "ring", tx r]) ∧ RingOk rs r) := by
    intro ks
    induction ks with
    | nil => intro y _; exact ⟨fun _ => ⟨y, rfl⟩, fun ⟨k, hk, _⟩ => by cases hk⟩
    | cons k ks ih =>
      intro y hm
      have dn := dnin_kv PyData.int (known rs) k
      obtain ⟨i1, i2⟩ := ih (some (.str k)) fun x hx => hm x (List.mem_cons_of_mem _ hx)
      rw [List.map_cons, u_forL_c, u_gtName]
      cases e : gt (known rs) k with
      | none =>
        rw [e] at dn
        obtain ⟨r, hr, okr⟩ := h2 rs R k (hm k (by simp)) e
        refine ⟨fun h => absurd e (h k (by simp)), fun _ => ⟨r, ?_, okr⟩⟩
        have le2 : 2 ≤ sizeLine := sz1000 (by decide)
        have : (sIf (tOf (eOp gDnin (eVar 4) (eVar 1))) (sRet (eTup (aCons (eC (.str "ring")) (aCons (eFn (S c2) (aCons (eVar 4) (aCons (eVar 0) (aCons (eVar 1) aNil)))) aNil)))) sNil) [some (rsD rs), some (knD (known rs)), some (tx (kinds rs)), y3, some (.str k), y5] = .rt (.tuple [.str "ring", tx r]) := by
          unfold rsD knD at *
          generalize kv tx rs = RR at *
          generalize kv PyData.int (known rs) = KK at *
          generalize tx (kinds rs) = TT at *
          generalize tx r = TR at *
          simp [dn, hr]
        show (match (sIf (tOf (eOp gDnin (eVar 4) (eVar 1))) (sRet (eTup (aCons (eC (.str "ring")) (aCons (eFn (S c2) (aCons (eVar 4) (aCons (eVar 0) (aCons (eVar 1) aNil)))) aNil)))) sNil) [some (rsD rs), some (knD (known rs)), some (tx (kinds rs)), y3, some (.str k), y5] with
          | .nx ρ2 => _ | .ct ρ2 => _ | .bk ρ2 => _ | .rt d => _ | .err c ρ2 => _ | .bad => _) = _
        rw [this]
      | some v =>
        rw [e] at dn
        have : (sIf (tOf (eOp gDnin (eVar 4) (eVar 1))) (sRet (eTup (aCons (eC (.str "ring")) (aCons (eFn (S c2) (aCons (eVar 4) (aCons (eVar 0) (aCons (eVar 1) aNil)))) aNil)))) sNil) [some (rsD rs), some (knD (known rs)), some (tx (kinds rs)), y3, some (.str k), y5] = .nx [some (rsD rs), some (knD (known rs)), some (tx (kinds rs)), y3, some (.str k), y5] := by
          unfold rsD knD at *
          generalize kv tx rs = RR at *
          generalize kv PyData.int (known rs) = KK at *
          generalize tx (kinds rs) = TT at *
          simp [dn]
        refine ⟨fun h => ?_, fun h => ?_⟩
        · obtain ⟨y', hy⟩ := i1 fun x hx => h x (List.mem_cons_of_mem _ hx)
          refine ⟨y', ?_⟩
          rw [← hy]
          show (match (sIf (tOf (eOp gDnin (eVar 4) (eVar 1))) (sRet (eTup (aCons (eC (.str "ring")) (aCons (eFn (S c2) (aCons (eVar 4) (aCons (eVar 0) (aCons (eVar 1) aNil)))) aNil)))) sNil) [some (rsD rs), some (knD (known rs)), some (tx (kinds rs)), y3, some (.str k), y5] with
            | .nx ρ2 => _ | .ct ρ2 => _ | .bk ρ2 => _ | .rt d => _ | .err c ρ2 => _ | .bad => _) = _
          rw [this]
        · obtain ⟨r, hr, okr⟩ := i2 (by
            obtain ⟨x, hx, hn⟩ := h
            rcases List.mem_cons.mp hx with rfl | z
            · rw [e] at hn; cases hn
            · exact ⟨x, z, hn⟩)
          refine ⟨r, ?_, okr⟩
          rw [← hr]
          show (match (sIf (tOf (eOp gDnin (eVar 4) (eVar 1))) (sRet (eTup (aCons (eC (.str "ring")) (aCons (eFn (S c2) (aCons (eVar 4) (aCons (eVar 0) (aCons (eVar 1) aNil)))) aNil)))) sNil) [some (rsD rs), some (knD (known rs)), some (tx (kinds rs)), y3, some (.str k), y5] with
            | .nx ρ2 => _ | .ct ρ2 => _ | .bk ρ2 => _ | .rt d => _ | .err c ρ2 => _ | .bad => _) = _
          rw [this]
  obtain ⟨k1, k2⟩ := key (kinds rs) y4 fun k h => h
  have kI : okI ((kinds rs).length : Int) = true := okI_small (by omega) (by omega)
  have e0 : knD [] = .dict [] := rfl
  have e1' : forL (gtName 3) (sFor [1] (iSeq (eVar 2)) (gtName 4) (rkB c1 S)) (rngD 0 (kinds rs).length) [some (rsD rs), some (.dict []), some (tx (kinds rs)), none, none, none] = .nx [some (rsD rs), some (knD (known rs)), some (tx (kinds rs)), y3, y4, y5] := e1
  have le2 : 2 ≤ sizeLine := sz1000 (by decide)
  have gl : gLen [tx (kinds rs)] = some (.int ((kinds rs).length : Nat)) := by
    unfold tx gLen
    dsimp only
    rw [List.length_map]
  have tn : ((kinds rs).length : Int).toNat = (kinds rs).length := by omega
  by_cases c : ∃ k ∈ kinds rs, gt (known rs) k = none
  · right
    obtain ⟨r, hr, okr⟩ := k2 c
    refine ⟨r, fnD_of ?_, okr⟩
    unfold G_ranks
    unfold rkB at e1'
    unfold tx at hr hk gl e1' ⊢
    generalize hL : (kinds rs).length = L at *
    generalize (kinds rs).map PyData.str = KL at *
    generalize rsD rs = RR at *
    generalize knD (known rs) = KK at *
    simp [hk, gl, kI, e1', hr, tn]
  · left
    have hall : ∀ k ∈ kinds rs, gt (known rs) k ≠ none := fun k hk z => c ⟨k, hk, z⟩
    obtain ⟨y', hr⟩ := k1 hall
    refine ⟨fnD_of ?_, hall⟩
    unfold G_ranks
    unfold rkB at e1'
    unfold tx at hr hk gl e1'
    generalize hL : (kinds rs).length = L at *
    generalize (kinds rs).map PyData.str = KL at *
    generalize rsD rs = RR at *
    generalize knD (known rs) = KK at *
    simp [hk, gl, kI, e1', hr, tn]
end Rk
set_option Elab.async false
set_option linter.all false
set_option maxRecDepth 100000
set_option maxHeartbeats 4000000
namespace Rk
open PySem PySem.Spec L2 Pu Nm
abbrev Hd := KD Int
structure HOk (H : Hd) : Prop where
  nd : (H.map (·.1)).Nodup
  pos : ∀ p ∈ H, 0 < p.2
structure GOk (G : Hd) : Prop where
  nd : (G.map (·.1)).Nodup
  pos : ∀ p ∈ G, 0 ≤ p.2
def hv (H : Hd) (w : Str) : Int := (gt H w).getD 0
theorem hv_mem {H : Hd} (h : (H.map (·.1)).Nodup) {w : Str} {m : Int} (hm : (w, m) ∈ H) : hv H w = m := by
  unfold hv; rw [gt_mem h hm]; rfl
theorem hv_out {H : Hd} {w : Str} (h : w ∉ H.map (·.1)) : hv H w = 0 := by
  unfold hv; rw [gt_none.mpr h]; rfl
theorem hv_in {H : Hd} (h : HOk H) {w : Str} : w ∈ H.map (·.1) ↔ hv H w ≠ 0 := by
  constructor
  · intro hw
    obtain ⟨p, hp, rfl⟩ := List.mem_map.mp hw
    rw [hv_mem h.nd (show (p.1, p.2) ∈ H from hp)]
    have := h.pos p hp
    omega
  · intro hw
    exact Classical.byContradiction fun z => hw (hv_out z)
theorem hv_ge {H : Hd} (h : HOk H) (w : Str) : 0 ≤ hv H w := by
  by_cases c : w ∈ H.map (·.1)
  · obtain ⟨p, hp, rfl⟩ := List.mem_map.mp c
    rw [hv_mem h.nd (show (p.1, p.2) ∈ H from hp)]
    have := h.pos p hp
    omega
  · rw [hv_out c]; exact Int.le_refl _
theorem gv_ge {H : Hd} (h : GOk H) (w : Str) : 0 ≤ hv H w := by
  by_cases c : w ∈ H.map (·.1)
  · obtain ⟨p, hp, rfl⟩ := List.mem_map.mp c
    rw [hv_mem h.nd (show (p.1, p.2) ∈ H from hp)]
    exact h.pos p hp
  · rw [hv_out c]; exact Int.le_refl _
theorem gt_pt {α : Type} {ps : KD α} {w v : Str} {a : α} : gt (pt ps w a) v = if w = v then some a else gt ps v := by
  unfold pt
  by_cases c : (ps.any fun p => decide (p.1 = w)) = true
  · rw [if_pos c]
    unfold gt
    rw [List.find?_map]
    have e : (fun p : Str × α => decide (p.1 = v)) ∘ (fun p => if p.1 = w then (p.1, a) else p) = fun p => decide (p.1 = v) := by
      funext p
      show decide ((if p.1 = w then (p.1, a) else p).1 = v) = _
      split <;> rfl
    rw [e]
    by_cases d : w = v
    · subst d
      rw [if_pos rfl]
      obtain ⟨p, hp, q⟩ := List.any_eq_true.mp c
      cases e2 : ps.find? (fun p => decide (p.1 = w)) with
      | none => exact absurd q (List.find?_eq_none.mp e2 p hp)
      | some x =>
        have h2 := List.find?_some e2
        have : x.1 = w := of_decide_eq_true h2
        simp [this]
    · rw [if_neg d]
      cases e2 : ps.find? (fun p => decide (p.1 = v)) with
      | none => rfl
      | some x =>
        have h2 := List.find?_some e2
        have : x.1 = v := of_decide_eq_true h2
        have n : ¬ x.1 = w := fun z => d (by rw [← z, this])
        simp [n]
  · rw [if_neg c]
    have gn : gt ps w = none := gt_none.mpr fun z => by
      obtain ⟨p, hp, e⟩ := List.mem_map.mp z
      exact c (List.any_eq_true.mpr ⟨p, hp, decide_eq_true e⟩)
    by_cases d : w = v
    · subst d
      rw [if_pos rfl, gt_snoc gn, if_pos rfl]
    · rw [if_neg d]
      cases e : gt ps v with
      | some x => rw [gt_app e]
      | none => rw [gt_snoc e, if_neg d]
theorem hv_pt {H : Hd} {w v : Str} {m : Int} : hv (pt H w m) v = if w = v then m else hv H v := by
  unfold hv
  rw [gt_pt]
  split <;> rfl
theorem pt_mem' {α : Type} {ps : KD α} {w : Str} {a : α} {p : Str × α} (h : p ∈ pt ps w a) : p ∈ ps ∨ p = (w, a) := by
  unfold pt at h
  split at h
  · obtain ⟨q, hq, e⟩ := List.mem_map.mp h
    split at e
    · rename_i z; right; rw [← e, z]
    · left; exact e ▸ hq
  · rcases List.mem_append.mp h with z | z
    · exact .inl z
    · exact .inr (List.mem_singleton.mp z)
theorem pt_nodup' {α : Type} {ps : KD α} {w : Str} {a : α} (h : (ps.map (·.1)).Nodup) : ((pt ps w a).map (·.1)).Nodup := by
  rw [pt_keys]
  split
  · exact h
  · rename_i c
    exact List.nodup_append.mpr ⟨h, by simp, fun x hx b hb e => c (by rw [List.mem_singleton.mp hb] at e; exact e ▸ hx)⟩
theorem GOk.put {H : Hd} (h : GOk H) {w : Str} {m : Int} (hm : 0 ≤ m) : GOk (pt H w m) := ⟨pt_nodup' h.nd, fun p hp => by
  rcases pt_mem' hp with z | rfl
  · exact h.pos p z
  · exact hm⟩
theorem HOk.put {H : Hd} (h : HOk H) {w : Str} {m : Int} (hm : 0 < m) : HOk (pt H w m) := ⟨pt_nodup' h.nd, fun p hp => by
  rcases pt_mem' hp with z | rfl
  · exact h.pos p z
  · exact hm⟩
theorem HOk.g {H : Hd} (h : HOk H) : GOk H := ⟨h.nd, fun p hp => Int.le_of_lt (h.pos p hp)⟩
def addH (L : Hd) (p : Str × Int) : Hd := pt L p.1 (hv L p.1 + p.2)
theorem adds_ok : ∀ {G L : Hd}, GOk L → (∀ p ∈ G, 0 ≤ p.2) → GOk (G.foldl addH L)
  | [], L, h, _ => h
  | p :: G, L, h, hg => adds_ok (G := G) (h.put (by have := gv_ge h p.1; have := hg p (by simp); omega)) fun q hq => hg q (List.mem_cons_of_mem _ hq)
theorem hv_adds : ∀ {G L : Hd}, (G.map (·.1)).Nodup → ∀ w, hv (G.foldl addH L) w = hv L w + hv G w
  | [], L, _, w => by show hv L w = hv L w + 0; omega
  | p :: G, L, hn, w => by
    rw [List.map_cons, List.nodup_cons] at hn
    rw [List.foldl_cons, hv_adds hn.2]
    unfold addH
    rw [hv_pt]
    have e : hv (p :: G) w = if p.1 = w then p.2 else hv G w := by
      unfold hv gt
      rw [List.find?_cons]
      by_cases c : p.1 = w
      · rw [decide_eq_true c, if_pos c]; rfl
      · rw [decide_eq_false c, if_neg c]
    rw [e]
    by_cases c : p.1 = w
    · rw [if_pos c, if_pos c, c]
      have : hv G w = 0 := hv_out (c ▸ hn.1)
      omega
    · rw [if_neg c, if_neg c]
def keepP (H : Hd) : Hd := H.filter fun p => decide (0 < p.2)
theorem keepP_ok {L : Hd} (h : GOk L) : HOk (keepP L) ∧ ∀ w, hv (keepP L) w = hv L w := by
  have nd : ((keepP L).map (·.1)).Nodup := h.nd.sublist ((List.filter_sublist).map _)
  refine ⟨⟨nd, fun p hp => of_decide_eq_true (List.mem_filter.mp hp).2⟩, fun w => ?_⟩
  by_cases c : w ∈ L.map (·.1)
  · obtain ⟨p, hp, rfl⟩ := List.mem_map.mp c
    have e1 : hv L p.1 = p.2 := hv_mem h.nd (show (p.1, p.2) ∈ L from hp)
    by_cases z : 0 < p.2
    · rw [e1]
      exact hv_mem nd (show (p.1, p.2) ∈ keepP L from List.mem_filter.mpr ⟨hp, decide_eq_true z⟩)
    · have p0 : p.2 = 0 := by have := h.pos p hp; omega
      rw [e1, p0]
      refine hv_out fun q => ?_
      obtain ⟨r, hr, er⟩ := List.mem_map.mp q
      obtain ⟨r1, r2⟩ := List.mem_filter.mp hr
      have := hv_mem h.nd (show (r.1, r.2) ∈ L from r1)
      rw [er, e1] at this
      have := of_decide_eq_true r2
      omega
  · rw [hv_out c]
    refine hv_out fun q => c ?_
    obtain ⟨r, hr, er⟩ := List.mem_map.mp q
    exact List.mem_map.mpr ⟨r, (List.mem_filter.mp hr).1, er⟩
def exH (H : Hd) (k : Str) (G : Hd) : Hd := keepP (G.foldl addH (pt H k (hv H k - 1)))
theorem exH_ok {H : Hd} {k : Str} {G : Hd} (h : HOk H) (hk : hv H k ≠ 0) (g : GOk G) : HOk (exH H k G) ∧ ∀ w, hv (exH H k G) w = hv H w - (if k = w then 1 else 0) + hv G w := by
  have h1 : GOk (pt H k (hv H k - 1)) := h.g.put (by have := hv_ge h k; omega)
  obtain ⟨o, e⟩ := keepP_ok (adds_ok h1 g.pos)
  refine ⟨o, fun w => ?_⟩
  rw [show hv (exH H k G) w = _ from e w, hv_adds g.nd, hv_pt]
  by_cases c : k = w
  · rw [if_pos c, if_pos c, c]
  · rw [if_neg c, if_neg c]; omega
theorem same_hv {A B : Hd} (a : HOk A) (b : HOk B) (h : ∀ w, hv A w = hv B w) : sameD (kv .int A) (kv .int B) = true := by
  unfold sameD
  have k1 : ∀ w, w ∈ A.map (·.1) ↔ w ∈ B.map (·.1) := fun w => by rw [hv_in a, hv_in b, h]
  have l1 := sub_len a.nd fun w hw => (k1 w).mp hw
  have l2 := sub_len b.nd fun w hw => (k1 w).mpr hw
  rw [List.length_map, List.length_map] at l1 l2
  rw [Bool.and_eq_true]
  refine ⟨decide_eq_true (by rw [len_kv, len_kv]; omega), ?_⟩
  rw [List.all_eq_true]
  intro p hp
  obtain ⟨q, hq, rfl⟩ := List.mem_map.mp hp
  dsimp only
  rw [keyD_k]
  dsimp only
  rw [val_kv]
  have e1 := hv_mem a.nd (show (q.1, q.2) ∈ A from hq)
  have n1 : hv A q.1 ≠ 0 := (hv_in a).mp (List.mem_map.mpr ⟨q, hq, rfl⟩)
  rw [h] at e1 n1
  cases e : gt B q.1 with
  | none => exact absurd (by unfold hv; rw [e]; rfl) n1
  | some m =>
    unfold hv at e1
    rw [e] at e1
    have : m = q.2 := e1
    show flatD (.int q.2) (.int m) = true
    rw [this]
    exact decide_eq_true rfl
theorem sameX_of {ks ls : List (PyData × PyData)} (h : sameD ks ls = true) : sameX ks ls = true := by
  unfold sameD at h
  unfold sameX
  rw [Bool.and_eq_true] at h ⊢
  refine ⟨h.1, ?_⟩
  rw [List.all_eq_true]
  intro p hp
  have := List.all_eq_true.mp h.2 p hp
  cases e : keyD p.1 with
  | none => rw [e] at this; exact this
  | some k =>
    rw [e] at this
    dsimp only at this ⊢
    cases e2 : valD ls k with
    | none => rw [e2] at this; exact this
    | some d =>
      rw [e2] at this
      dsimp only at this ⊢
      unfold eqvX
      rw [this]; rfl
end Rk
set_option Elab.async false
set_option linter.all false
set_option maxRecDepth 100000
set_option maxHeartbeats 4000000
namespace Pu
open PySem PySem.Spec PyProof.Rows L2
@[simp] def eDisp1 (fk fv : Vars → R PyData) (ρ : Vars) : R PyData := (fk ρ).bind fun e => (fv ρ).bind fun d => match keyD e with
  | some k => .ok (.dict [(kD k, d)])
  | Option.none => .bad
section
variable {X : Cx} {W : WX}
theorem nv_disp1 {a b : Expr} {fk fv : Vars → R PyData} {pos : Pos} (ha : EX X W a fk) (hb : EX X W b fv) : NVX X W (.Dict [some a] [b] pos) (eDisp1 fk fv) := by
  obtain ⟨ta, p, hta⟩ := ha
  obtain ⟨tb, q, htb⟩ := hb
  refine ⟨_, pe_disp (pps_cons p q pps_nil) rfl rfl (fun z => by cases z) (by simp), fun σ H O ρ Q hO hv z n hn => ?_⟩
  have s0 : Same H (upd H n (.dK [])) := same_new hn
  have sF : Same (hide O H) (hide (n :: O) (upd H n (.dK []))) := fun b o hb => by
    obtain ⟨c1, e⟩ := hide_some hb
    exact hide_of (fun z => (List.mem_cons.mp z).elim (ne_of_none e hn) c1) (s0 b o e)
  have hO1 : Stands (n :: O) (upd H n (.dK [])) := fun b hb => by
    rcases List.mem_cons.mp hb with z | z
    · subst z; exact ⟨.dK [], upd_same, fun xs z => nomatch z⟩
    · exact (hO.same s0) b z
  have hv1 := hv.mono sF
  refine hta σ _ (n :: O) ρ _ hO1 hv1 ?_
  unfold eDisp1 at z
  cases e1 : fk ρ with
  | bad => rw [e1] at z; exact z
  | err c => rw [e1] at z; exact fun H' s => z H' (s0.trans s)
  | ok e =>
    rw [e1, R.bind_ok] at z
    intro w H1 s1 r1
    refine htb σ H1 (n :: O) ρ _ (hO1.same s1) (hv1.mono (hide_same s1)) ?_
    cases e2 : fv ρ with
    | bad => rw [e2] at z; exact z
    | err c => rw [e2] at z; exact fun H' s => z H' ((s0.trans s1).trans s)
    | ok d =>
      rw [e2, R.bind_ok] at z
      intro v H2 s2 r2
      cases hk : keyD e with
      | none => rw [hk] at z; exact z.elim
      | some k =>
        rw [hk] at z
        dsimp only at z
        have ew := rp_key r1 hk
        subst ew
        have s12 := s1.trans s2
        refine ⟨s12 _ _ upd_same, [(k, v)], rfl, by simp, ?_⟩
        have s3 : Same H (upd H2 n (.dK [(k, v)])) := fun b o hb => by
          rw [upd_ne (ne_of_none hb hn)]
          exact s12 b o (by rw [upd_ne (ne_of_none hb hn)]; exact hb)
        refine z n _ s3 hn (.inl ⟨[(k, v)], upd_same, ?_⟩)
        refine .cons (r2.mono fun b o hb => ?_) .nil
        obtain ⟨c1, e⟩ := hide_some hb
        have nb : b ≠ n := fun z => c1 (z ▸ List.mem_cons_self)
        exact hide_of c1 (by rw [upd_ne nb]; exact e)
end
end Pu
set_option Elab.async false
set_option linter.all false
set_option maxRecDepth 100000
set_option maxHeartbeats 4000000
namespace SS
open PySem PySem.Spec PyProof.Rows
section
variable {prog : Program} {w : World} {A : Around} {R : Result → Shared → Prop} {I : Addr} {fp wr : List Addr} {G : Array GenState → Array GenState → Prop} {n : Nat} {P : Nat → Value → Prop} {St : Nat → Shared → Prop}
end
section
variable {prog : Program} {w : World} {A : Around} {E : Value → Shared → Prop} {s : Shared}
set_option maxHeartbeats 3200000 in
end
end SS
namespace L2
open PySem PySem.Spec PyProof.Rows
variable {X : Cx}
end L2
set_option Elab.async false
set_option linter.all false
set_option maxRecDepth 100000
set_option maxHeartbeats 4000000
namespace Pu
open PySem PySem.Spec PyProof.Rows L2
section
variable {X : Cx} {W : WX}
end
section
variable (X : Cx) (E : XK)
def VBOut (H0 : Hp) (O0 : List Addr) (Q : VK) : Out → Prop
  | .rt d => ∀ p H', Same H0 H' → H0 p = Option.none → OwnV X.K (hide (p :: O0) H') H' p d → Q (.ref p) H'
  | .err c _ => ∀ H', Same H0 H' → E (exV X.mg c) Option.none H'
  | _ => False
def VBX (own : List Nat) (sts : List Stmt) (g : Vars → Out) : Prop :=
  ∃ t, PSs X sts t ∧ ∀ σ H ρ Q (H0 : Hp) O0 O, Rel X.K own ⟨H0, []⟩ O0 O σ H ρ → VBOut X E H0 O0 Q (g ρ) → t { nx := fun _ H' => Q .non H', rt := Q } σ H
end
section
variable {X : Cx} {E : XK} {own : List Nat}
theorem VBX.cons {st : Stmt} {rest : List Stmt} {g h : Vars → Out} {own' : List Nat} (a : SX X (WD E) own st g) (b : VBX X E own' rest h) (ho : (own'.all fun i => own.contains i) = true) : VBX X E own (st :: rest) (sSeqN g h) := by
  obtain ⟨t, p, ht⟩ := a
  obtain ⟨u, q, hu⟩ := b
  refine ⟨_, pss_cons p q, fun σ H ρ Q H0 O0 O r z => ht σ H ρ _ ⟨H0, []⟩ O0 O r ?_⟩
  unfold sSeqN at z
  cases e : g ρ with
  | nx ρ1 =>
    rw [e] at z
    intro σ1 H1 O1 r1 s1
    obtain ⟨O2, r2, _⟩ := r1.freeze (own' := own') (fun i hi => List.contains_iff_mem.mp (List.all_eq_true.mp ho i hi)) fun p hp => nomatch hp
    exact hu σ1 H1 ρ1 Q H0 O0 O2 r2 z
  | rt d => rw [e] at z; exact z.elim
  | err c ρ' => rw [e] at z; exact fun σ' H' O' r' s' => z H' r'.same
  | bk _ => rw [e] at z; exact z.elim
  | ct _ => rw [e] at z; exact z.elim
  | bad => rw [e] at z; exact z.elim
theorem VBX.ret {i : Nat} {x : Str} {p0 pos : Pos} (hi : X.N[i]? = some x) (ho : own.contains i = true)
    (hv : Vis X.env.scope x := by first | exact Or.inl rfl | exact Or.inr (Or.inl rfl) | exact Or.inr (Or.inr rfl)) (hdn : (x == ("__debug__" : Str)) = false := by decide) (hcd : (x == ("__classdict__" : Str)) = false := by decide) :
    VBX X E own [.Return (some (.Name x p0)) pos] (sRet (eVar i)) := by
  refine ⟨_, pss_one (ps_ret (pe_var hi hv hdn hcd)), fun σ H ρ Q H0 O0 O r z => ?_⟩
  have hi' : i ∈ own := List.contains_iff_mem.mp ho
  unfold sRet eVar at z
  have e2 : ρ.getD i Option.none = (ρ[i]?).getD Option.none := by rw [List.getD_eq_getElem?_getD]
  rw [e2] at z
  cases e : ρ[i]? with
  | none => rw [e] at z; exact z.elim
  | some o =>
    cases o with
    | none => rw [e] at z; exact z.elim
    | some d =>
      rw [e] at z
      obtain ⟨a, h1, h2, h3, h4⟩ := r.mine i d hi' e
      refine ⟨.ref a, h1, ?_⟩
      exact z a H r.same h3 (h4.mono (hide_less fun b hb => (List.mem_cons.mp hb).elim (fun e => e ▸ h2) (r.sub b)) fun o ho => ho)
end
section
variable {P : Program} {w : World} {K : PySem.W.Frag} {mg : Str → Option Value} {base : Heap}
end
section
variable {X : Cx} {W : WX}
end
section
variable {K : PySem.W.Frag} {F F' : Hp} {a : Addr} {kvs : List (Key × V)} {k0 : PyData} {l0 : List PyData} {E0 : List (PyData × PyData)}
end
end Pu
set_option Elab.async false
set_option linter.all false
set_option maxRecDepth 100000
set_option maxHeartbeats 4000000
namespace Pu
open PySem PySem.Spec PyProof.Rows L2
section
variable {X : Cx} {E : XK}
end
end Pu
set_option Elab.async false
set_option linter.all false
set_option maxRecDepth 100000
set_option maxHeartbeats 4000000
namespace Pu
open PySem PySem.Spec PyProof.Rows L2
def gDneX (d e : PyData) : Option PyData := match d, e with
  | .dict ks, .dict ls => if (!insB ks && !insB ls && sameX ks ls) = true then some (.bool false) else none
  | _, _ => none
def rNeX' (K : PySem.W.Frag) : R2 := fun x y H Q => ∃ a c ks ls, x = .ref a ∧ y = .ref c ∧ Rd H a (.dK ks) ∧ Rd H c (.dK ls) ∧ ks.length = ls.length ∧ (∀ p ∈ ks, ∃ w, valV ls p.1 = some w ∧ likeV K H p.2 w) ∧ Q (.bl false) H
theorem op_neX' {X : Cx} (hu : X.A.units + 190 + 1 < cLine) : OpR X (compareOp .NotEq) (rNeX' X.K) := by
  intro pins s σ H x y v u Q I rx ry h
  obtain ⟨a, b, ks, ls, rfl, rfl, ea, eb, hlen, hp, q⟩ := h
  obtain rfl : v = Value.ref a := rx
  obtain rfl : u = Value.ref b := ry
  obtain ⟨_, ya, va, ra, da⟩ := (show ObjOk X.prog X.w H s.heap a (.dK ks) from ea.ok I.hok)
  obtain ⟨_, yb, vb, rb, db⟩ := (show ObjOk X.prog X.w H s.heap b (.dK ls) from eb.ok I.hok)
  have hl : va.length = vb.length := by rw [← ra.length, ← rb.length]; exact hlen
  exact PySem.W.keq_ne (knd := mixKind X.prog X.w) (r := true) ya yb da db (by omega) (fun _ => hits_allX I (by show X.A.units + 1 + 190 < cLine; omega) rb ra hp) (fin_bl I q (by simp [hl]))
theorem op2_dNeX {K : PySem.W.Frag} : Op2 K (rNeX' K) gDneX := by
  intro H O x y d e z Q hO rx ry h q
  unfold gDneX at h
  cases d with
  | dict ks =>
    cases e with
    | dict ls =>
      dsimp only at h
      by_cases c : (!insB ks && !insB ls && sameX ks ls) = true
      · rw [if_pos c] at h
        cases h
        simp only [Bool.and_eq_true, Bool.not_eq_true'] at c
        obtain ⟨⟨c1, c2⟩, c3⟩ := c
        unfold sameX at c3
        rw [Bool.and_eq_true] at c3
        cases rx with
        | dic h1 r1 =>
          cases ry with
          | dic h2 r2 =>
            exact ⟨_, _, _, _, rfl, rfl, rd_mono hide_sub h1, rd_mono hide_sub h2, by rw [r1.length, r2.length]; exact of_decide_eq_true c3.1, likes_of hide_sub r2 r1 c3.2, q _ H (Same.refl H) (.bl _)⟩
          | ins => cases c2
          | fn _ => cases c2
          | fn0 => cases c2
          | dct => cases c2
          | tpx => cases c2
        | ins => cases c1
        | fn _ => cases c1
        | fn0 => cases c1
        | dct => cases c1
        | tpx => cases c1
      · rw [if_neg c] at h; cases h
    | _ => cases h
  | _ => cases h
end Pu
set_option Elab.async false
set_option linter.all false
set_option maxRecDepth 100000
set_option maxHeartbeats 4000000
namespace Pu
open PySem PySem.Spec PyProof.Rows L2
section
variable {X : Cx} {W : WX}
end
end Pu
set_option Elab.async false
set_option linter.all false
set_option maxRecDepth 100000
set_option maxHeartbeats 4000000
namespace Pu
open PySem PySem.Spec PyProof.Rows L2
def iDict (i : Nat) (it : PyData × PyData → PyData) (ρ : Vars) : R (List PyData) := match ρ.getD i none with
  | some (.dict ds) => if insB ds = true then .bad else .ok (ds.map it)
  | _ => .bad
@[simp] theorem u_iDict (i : Nat) (it : PyData × PyData → PyData) (ρ : Vars) : iDict i it ρ = match ρ.getD i none with
  | some (.dict ds) => if insB ds = true then .bad else .ok (ds.map it)
  | _ => .bad := rfl
section
variable {X : Cx} {W : WX} {x : Str} {elt tg iter : Expr} {ifs : List Expr} {scope : Scope} {own : List (Str × Nat)} {pos p0 : Pos} {js : List Nat} {gt : PyData → Vars → Option Vars} {ft : Vars → R Bool} {f : Vars → R PyData} {i : Nat} {J : Addr → Obj → List (Key × V) → It} {it : PyData × PyData → PyData}
theorem ex_lcV (w : DWalk X.K J it) (hpi : ∀ {td : TE}, PE X (.Name x p0) td → PI X tg iter (tWalk J td)) (hc : X.calm = true) (hN : X.N.Nodup) (ok : BlkOk X.N X.env.scope scope own)
    (hg : ∀ (s : Shared) (H : Hp) (C : Addr) (cl : List (Str × Addr)) (fp : List Addr), GX (X.blk s H scope (compEnvC scope cl C X.env) fp) tg js gt) (ht : ∀ (s : Shared) (H : Hp) (C : Addr) (cl : List (Str × Addr)) (fp : List Addr), TsX (X.blk s H scope (compEnvC scope cl C X.env) fp) W0 ifs ft)
    (he : ∀ (s : Shared) (H : Hp) (C : Addr) (cl : List (Str × Addr)) (fp : List Addr), EX (X.blk s H scope (compEnvC scope cl C X.env) fp) W0 elt f) (hjs : (js.all fun j => (own.map (·.2)).contains j) = true)
    (hi : X.N[i]? = some x := by rfl) (hv : Vis X.env.scope x := by first | exact Or.inl rfl | exact Or.inr (Or.inl rfl) | exact Or.inr (Or.inr rfl)) (hd : (x == ("__debug__" : Str)) = false := by decide)
    (hcd : (x == ("__classdict__" : Str)) = false := by decide) (hs : ∀ x, foldedSetIterable iter X.env x = pure x := by intro _; rfl) :
    EX X W (.ListComp elt [⟨tg, iter, ifs, 0⟩] scope pos) (eLc (iDict i it) gt ft f (own.map (·.2))) := by
  have pv : PE X (.Name x p0) (tVar i) := pe_var hi hv hd hcd
  have P : PE X (.ListComp elt [⟨tg, iter, ifs, 0⟩] scope pos) (tLc (tWalk J (tVar i)) (tG X js gt) (tT X W0 ft) (tE X W0 f) (own.map (·.2))) := pe_lc (pos := pos) hc hN (hpi pv) ok (fun s H C cl fp => (hg s H C cl fp).pg) (fun s H C cl fp => (ht s H C cl fp).pts) (fun s H C cl fp => (he s H C cl fp).pe) hs
  have hj : ∀ j ∈ js, j ∈ own.map (·.2) := fun j h => by simpa using List.all_eq_true.mp hjs j h
  refine ⟨fun σ H Q => tLockE (tLc (tWalk J (tVar i)) (tG X js gt) (tT X W0 ft) (tE X W0 f) (own.map (·.2))) σ H Q ∨ tLc (tWalk J (tVar i)) (tG X js gt) (tT X W0 ft) (tE X W0 f) (own.map (·.2)) σ H Q, ⟨fun pins s σ H Q I h => h.elim (fun h => (pe_lock P).run pins s σ H Q I h) fun h => P.run pins s σ H Q I h⟩, fun σ H O ρ Q hO hvr z => ?_⟩
  -- the walk at a locked dict
  have wlk : ∀ (HL : Hp) (a : Addr) (od : Obj) (kvs : List (Key × V)), σ[i]? = some (some (.ref a)) → HL a = some (.frz od (.dK kvs)) → ∀ (Oz : List Addr) (Qz : VK), Stands Oz HL → VRel X.K (hide Oz HL) σ ρ → NOut X W Oz σ HL Qz (nLc (iDict i it) gt ft f (own.map (·.2)) ρ) →
      tLc (fun σ' H' R => σ' = σ → H' = HL → ∃ v, σ'[i]? = some (some v) ∧ ∃ d o kvs, v = .ref d ∧ H' d = some (.frz o (.dK kvs)) ∧ R (J d o kvs) H') (tG X js gt) (tT X W0 ft) (tE X W0 f) (own.map (·.2)) σ HL Qz := fun HL a od kvs hσ ha Oz Qz hOz hvz zz => by
    refine lc_run (W := W) (fi := iDict i it) (fun σ' H' O' ρ' R hO' hv' hR e1 e2 => ?_) hj hOz hvz zz
    subst e1 e2
    refine ⟨.ref a, hσ, a, od, kvs, rfl, ha, ?_⟩
    unfold iDict at hR
    cases q : ρ'.getD i none with
    | none => rw [q] at hR; exact hR.elim
    | some d =>
      rw [q] at hR
      cases d <;> try exact hR.elim
      rename_i ds
      dsimp only at hR
      by_cases ib : insB ds = true
      · rw [if_pos ib] at hR; exact hR.elim
      rw [if_neg ib] at hR
      refine hR _ _ (Same.refl _) fun n H2 O2 hO2 s2 => ?_
      obtain ⟨v, h1, h2⟩ := hv'.get i _ (getD_some q)
      rw [hσ] at h1
      cases h1
      cases h2 with
      | ins => exact absurd rfl ib
      | fn _ => exact absurd rfl ib
      | fn0 => exact absurd rfl ib
      | dct => exact absurd rfl ib
      | tpx => exact absurd rfl ib
      | @dic _ kvs' _ hd rd =>
        rcases hd with hd | ⟨o', hd⟩
        · obtain ⟨_, q2⟩ := hide_some hd
          rw [ha] at q2; cases q2
        · obtain ⟨_, q2⟩ := hide_some hd
          rw [ha] at q2; cases q2
          exact w.step rd (hide_some (s2 _ _ hd)).2 hO2 s2
  -- what stands in the slot
  cases q : ρ.getD i none with
  | none =>
    have : eLc (iDict i it) gt ft f (own.map (·.2)) ρ = .bad := by unfold eLc nLc iDict; rw [q]; rfl
    rw [this] at z; exact z.elim
  | some d =>
    by_cases hds : ∃ ds, d = .dict ds ∧ insB ds = false
    case neg =>
      have : eLc (iDict i it) gt ft f (own.map (·.2)) ρ = .bad := by
        unfold eLc nLc iDict
        rw [q]
        cases d <;> try rfl
        rename_i ds
        dsimp only
        by_cases ib : insB ds = true
        · rw [if_pos ib]; rfl
        · exact absurd ⟨ds, rfl, by simpa using ib⟩ hds
      rw [this] at z; exact z.elim
    obtain ⟨ds, rfl, ib⟩ := hds
    have hn := eLc_to hO z
    obtain ⟨v, h1, h2⟩ := hvr.get i _ (getD_some q)
    cases h2 with
    | ins => cases ib
    | fn _ => cases ib
    | fn0 => cases ib
    | dct => cases ib
    | tpx => cases ib
    | @dic a kvs _ hd rd =>
      rcases hd with hd | ⟨od, hd⟩
      · obtain ⟨na, ha⟩ := hide_some hd
        refine .inl ⟨a, .dK kvs, ha, True.intro, fun od => ?_⟩
        have hOL : Stands O (upd H a (.frz od (.dK kvs))) := fun b hb => by
          obtain ⟨o, h3, h4⟩ := hO b hb
          exact ⟨o, by rw [upd_ne (show b ≠ a from fun z => na (by rw [← z]; exact hb))]; exact h3, h4⟩
        have hvL : VRel X.K (hide O (upd H a (.frz od (.dK kvs)))) σ ρ := ⟨hvr.len, fun m dd e => by
          obtain ⟨v, g1, g2⟩ := hvr.get m dd e
          exact ⟨v, g1, g2.lk (lk_same ha).hide⟩⟩
        refine (wlk (upd H a (.frz od (.dK kvs))) a od kvs h1 upd_same O (fun v H' => H' a = some (.frz od (.dK kvs)) ∧ Q v (upd H' a (.dK kvs))) hOL hvL ?_) rfl rfl
        unfold nLc iDict at hn ⊢
        rw [q] at hn ⊢
        dsimp only at hn ⊢
        rw [if_neg (by rw [ib]; decide), R.bind_ok] at hn ⊢
        cases el : lcL gt ft f (wipeD ρ (own.map (·.2))) (ds.map it) with
        | bad => rw [el] at hn; exact hn.elim
        | err c => rw [el] at hn; exact hn.elim
        | ok ys =>
          rw [el] at hn
          dsimp only at hn ⊢
          by_cases sz : ys.length < sizeLine
          case neg => rw [if_neg sz] at hn; exact hn.elim
          rw [if_pos sz] at hn ⊢
          intro p vs H2 s2 hp hp2 rs
          have h2a : H2 a = some (.frz od (.dK kvs)) := s2 _ _ upd_same
          have pa : p ≠ a := fun z => by rw [z, upd_same] at hp; cases hp
          have hp0 : H p = none := by rw [upd_ne pa] at hp; exact hp
          refine ⟨h2a, hn p vs _ (fun b o hb => ?_) hp0 (by rw [upd_ne pa]; exact hp2) (rs.lk (ulk_same h2a).hide)⟩
          by_cases c : b = a
          · subst c
            rw [ha] at hb; cases hb
            exact upd_same
          · rw [upd_ne c]
            exact s2 b o (by rw [upd_ne c]; exact hb)
      · obtain ⟨na, ha⟩ := hide_some hd
        exact .inr (wlk H a od kvs h1 ha O Q hO hvr hn rfl rfl)
end
end Pu
set_option Elab.async false
set_option linter.all false
set_option maxRecDepth 100000
set_option maxHeartbeats 4000000
namespace PySem.SeqAt
open AutoSeq1 (wpAny_loadPart')
open MeetsSeq MeetsSeq2 MeetsSeq3 SeqRoads2
section
variable {prog : Program} {w : World}
theorem ne_loopIn (l b : Addr) (items items2 : Array Value) (n n2 : Nat) (dd dd2 : Option Addr) (sl sl2 : Array (Option Value)) (hsz : items.size = items2.size) (e : Nat → Bool) (k : Nat) :
    ∀ i : Nat, items.size - i = k → MeetsIn prog w (Builtin.«list.__eq__.loop» ⟨[.ref l, .ref b, rawInt i, rawInt 3], []⟩)
      (fun A R s => s.heap.get? l = some { cls := .type "list", dict := dd, data := .seq items n, slots := sl } ∧ s.heap.get? b = some { cls := .type "list", dict := dd2, data := .seq items2 n2, slots := sl2 } ∧
        (∀ j (h1 : j < items.size) (h2 : j < items2.size), EqP prog w A.in1 s items[j] items2[j] (e j)) ∧
        R (.ok (.ret (.bool (!((List.range items.size).drop i).all e)))) s) := by
  induction k with
  | zero =>
    intro i hk A R s h
    obtain ⟨hp, g, d, tk, os⟩ := s; obtain ⟨hl, hb, he, h⟩ := h
    wp_walk using wpAny_loadPart' hl, wpAny_loadPart' hb
    have hi1 : items[((i : Nat) : Int).toNat]? = none := by simp; omega
    have hi2 : items2[((i : Nat) : Int).toNat]? = none := by simp; omega
    have hd : (List.range items.size).drop i = [] := by simp; omega
    rw [hd] at h
    rw [hi1, hi2]
    wp_walk using wpAny_loadPart' hl, wpAny_loadPart' hb
    show R (.ok (.ret (.bool (items.size != items2.size)))) _
    rw [hsz]
    simpa using h
  | succ k ih =>
    intro i hk A R s h
    obtain ⟨hp, g, d, tk, os⟩ := s; obtain ⟨hl, hb, he, h⟩ := h
    wp_walk using wpAny_loadPart' hl, wpAny_loadPart' hb
    have hlt : i < items.size := by omega
    have hlt2 : i < items2.size := by omega
    have hi1 : items[((i : Nat) : Int).toNat]? = some items[i] := by simp [hlt]
    have hi2 : items2[((i : Nat) : Int).toNat]? = some items2[i] := by simp [hlt2]
    have hd : (List.range items.size).drop i = i :: (List.range items.size).drop (i + 1) := by simp [List.drop_eq_getElem_cons, hlt]
    have hc : ((i : Int) + 1) = ((i + 1 : Nat) : Int) := by push_cast; rfl
    rw [hd, List.all_cons] at h
    rw [hi1, hi2]
    refine wpAny_bind (he i hlt hlt2 _ _ ?_)
    cases hb' : e i with
    | true =>
      rw [hb'] at h
      wp_walk
      rw [hc]
      exact ⟨plainId_quiet plain_eq_loop _, codeAny_builtin entry_eq_loop (by
        rw [Around.under_plainId plain_eq_loop _]
        exact ih (i + 1) (by omega) A R _ ⟨hl, hb, he, by simpa using h⟩)⟩
    | false =>
      rw [hb'] at h
      wp_walk using wpAny_loadPart' hl, wpAny_loadPart' hb
      rw [hi1, hi2]
      wp_walk
      simpa using h
theorem list_neIn (l b : Addr) (items items2 : Array Value) (n n2 : Nat) (dd dd2 : Option Addr) (sl sl2 : Array (Option Value)) (hsz : items.size = items2.size) (e : Nat → Bool) :
    MeetsIn prog w (Builtin.«list.__ne__» ⟨[.ref l, .ref b], []⟩)
      (fun A R s => s.heap.get? l = some { cls := .type "list", dict := dd, data := .seq items n, slots := sl } ∧ s.heap.get? b = some { cls := .type "list", dict := dd2, data := .seq items2 n2, slots := sl2 } ∧
        (∀ j (h1 : j < items.size) (h2 : j < items2.size), EqP prog w A.in1 s items[j] items2[j] (e j)) ∧
        R (.ok (.ret (.bool (!(List.range items.size).all e)))) s) := by
  intro A R s h
  obtain ⟨hp, g, d, tk, os⟩ := s; obtain ⟨hl, hb, he, h⟩ := h
  have f3 := AutoSeq1.sub_list_list
  have hne : ¬ (items.size != items2.size) = true := by simp [hsz]
  wp_walk using wpAny_loadPart' hl, wpAny_loadPart' hb
  exact ⟨plainId_quiet plain_eq_loop _, codeAny_builtin entry_eq_loop (by
    rw [Around.under_plainId plain_eq_loop _]
    exact ne_loopIn l b items items2 n n2 dd dd2 sl sl2 hsz e _ 0 rfl A R _ ⟨hl, hb, he, by simpa using h⟩)⟩
theorem rcNP_lists {A : Around} {s : Shared} {l b : Addr} {items items2 : Array Value} {e : Nat → Bool} (hl : s.heap.IsList l items) (hb : s.heap.IsList b items2) (hsz : items.size = items2.size) (hu : A.units < cLine)
    (he : ∀ j (h1 : j < items.size) (h2 : j < items2.size), EqP prog w A.in1 s items[j] items2[j] (e j)) (E Q : Value → Shared → Prop) (h : Q (.bool (!(List.range items.size).all e)) s) : wpAny (model prog w) A (richCompare .NotEq (.ref l) (.ref b)) Q E s := by
  obtain ⟨⟨cls, dd, data, sl⟩, ho, hc, n, hd⟩ := id hl
  obtain ⟨⟨cls2, dd2, data2, sl2⟩, ho2, hc2, n2, hd2⟩ := id hb
  simp only at hc hd hc2 hd2
  subst hc hd hc2 hd2
  have ta : s.TypeIs (.ref l) "list" := ⟨_, ho, rfl⟩
  have tb : s.TypeIs (.ref b) "list" := ⟨_, ho2, rfl⟩
  exact wpAny_richCompare_same_room (op := .NotEq) ta tb F.slot_list_ne (call_meetsIn F.slot_list_ne ta F.entry_list_ne (F.args_list_ne_2 _ _) (list_neIn l b items items2 n n2 dd dd2 sl sl2 hsz e)
    ⟨ho, ho2, he, show Value.bool (!(List.range items.size).all e) ≠ Value.notImplemented ∧ Q (.bool (!(List.range items.size).all e)) s from ⟨(fun x => nomatch x), h⟩⟩) hu
end
end PySem.SeqAt
namespace Pu
open PySem PySem.Spec PyProof.Rows L2
def dsame (d e : PyData) : Bool := match d, e with
  | .dict ks, .dict ls => !insB ks && !insB ls && sameD ks ls
  | _, _ => false
def dsames : List PyData → List PyData → Bool
  | [], [] => true
  | d :: ds, e :: es => dsame d e && dsames ds es
  | _, _ => false
def gNeLD (d e : PyData) : Option PyData := match d, e with
  | .list ds, .list es => if dsames ds es = true then some (.bool false) else none
  | _, _ => none
def DSm (H : Hp) (x y : V) : Prop := ∃ a b ks ls, x = .ref a ∧ y = .ref b ∧ Rd H a (.dK ks) ∧ Rd H b (.dK ls) ∧ ks.length = ls.length ∧ ∀ p ∈ ks, valV ls p.1 = some p.2 ∧ flatB p.2 = true
theorem dsm_run {X : Cx} {pins : List (Addr × Obj)} {σ : L2.St} {H : Hp} {s : Shared} (I : Inv X pins σ H s) {A : Around} (hu : A.units < cLine) : ∀ (x y : V) (v u : Value), DSm H x y → RelV x v → RelV y u → SeqAt.EqP X.prog X.w A s v u true := by
  rintro x y v u ⟨a, b, ks, ls, rfl, rfl, ea, eb, hl, hp⟩ rx ry
  cases (show v = Value.ref a from rx)
  cases (show u = Value.ref b from ry)
  by_cases e : a = b
  · subst e
    exact (SeqAt.EqAt.same _).eqP
  · refine SeqAt.eqP_refs e fun E Q q => ?_
    obtain ⟨_, ya, va, ra, da⟩ := (show ObjOk X.prog X.w H s.heap a (.dK ks) from ea.ok I.hok)
    obtain ⟨_, yb, vb, rb, db⟩ := (show ObjOk X.prog X.w H s.heap b (.dK ls) from eb.ok I.hok)
    refine PySem.W.rcP_dicts (knd := mixKind X.prog X.w) (r := true) ya yb da db hu (fun _ => hits_run (F := fun x y => x = y ∧ flatB x = true) (fun x y v u h r1 r2 => by
      obtain ⟨rfl, f⟩ := h
      exact (eqAt_same r1 r2 f).eqP) rb ra fun p hm => ⟨p.2, (hp p hm).1, rfl, (hp p hm).2⟩) E Q ?_
    have e : va.length = vb.length := by rw [← ra.length, ← rb.length]; exact hl
    rw [show (va.length == vb.length && true) = true from by rw [e]; simp]
    exact q
def rNeLD (K : PySem.W.Frag) : R2 := fun x y H Q => ∃ a b xs ys, x = .ref a ∧ y = .ref b ∧ SqL K H a xs ∧ SqL K H b ys ∧ Paired (DSm H) xs ys ∧ Q (.bl false) H
theorem op_neLD {X : Cx} (hu : X.A.units + 64 < cLine) : OpR X (compareOp .NotEq) (rNeLD X.K) := by
  intro pins s σ H x y v u Q I rx ry h
  obtain ⟨a, b, xs, ys, rfl, rfl, ha, hb, hp, q⟩ := h
  cases (show v = Value.ref a from rx)
  cases (show u = Value.ref b from ry)
  obtain ⟨us, r1, p1, _⟩ := I.list ha
  obtain ⟨ws, r2, p2, _⟩ := I.list hb
  have hsz : us.toArray.size = ws.toArray.size := by
    rw [List.size_toArray, List.size_toArray, ← r1.length, ← r2.length]
    exact Paired.length hp
  refine SeqAt.rcNP_lists (e := fun _ => true) p1.isList p2.isList hsz (by show X.A.units < cLine; omega) (fun j h1 h2 => ?_) _ _ ?_
  · have k := items_run (dsm_run I (A := X.A.in1) (by show X.A.units + 1 < cLine; omega)) hp r1 r2 j (by simpa using h1) (by simpa using h2)
    simpa using k
  · rw [show ((List.range us.toArray.size).all fun _ => true) = true from List.all_eq_true.mpr fun _ _ => rfl]
    exact ⟨.bl false, H, I, rfl, q⟩
theorem dsm_of {K : PySem.W.Frag} {H : Hp} {x y : V} {d e : PyData} (rx : Rp K H x d) (ry : Rp K H y e) (h : dsame d e = true) : DSm H x y := by
  unfold dsame at h
  cases d <;> cases e <;> first | exact absurd h Bool.false_ne_true | skip
  rename_i ks ls
  dsimp only at h
  simp only [Bool.and_eq_true, Bool.not_eq_true'] at h
  obtain ⟨⟨c1, c2⟩, c3⟩ := h
  unfold sameD at c3
  rw [Bool.and_eq_true] at c3
  cases rx with
  | dic h1 r1 =>
    cases ry with
    | dic h2 r2 => exact ⟨_, _, _, _, rfl, rfl, h1, h2, by rw [r1.length, r2.length]; exact of_decide_eq_true c3.1, same_of r2 r1 c3.2⟩
    | ins => cases c2
    | fn _ => cases c2
    | fn0 => cases c2
    | dct => cases c2
    | tpx => cases c2
  | ins => cases c1
  | fn _ => cases c1
  | fn0 => cases c1
  | dct => cases c1
  | tpx => cases c1
theorem dsms_of {K : PySem.W.Frag} {H : Hp} : ∀ {xs ys : List V} {ds es : List PyData}, Rps K H xs ds → Rps K H ys es → dsames ds es = true → Paired (DSm H) xs ys
  | _, _, [], [], .nil, .nil, _ => .nil
  | _, _, d :: ds, e :: es, .cons h1 r1, .cons h2 r2, h => by
    have h' : dsame d e = true ∧ dsames ds es = true := by simpa [dsames] using h
    exact .cons (dsm_of h1 h2 h'.1) (dsms_of r1 r2 h'.2)
  | _, _, [], _ :: _, _, _, h => absurd h Bool.false_ne_true
  | _, _, _ :: _, [], _, _, h => absurd h Bool.false_ne_true
theorem op2_neLD {K : PySem.W.Frag} : Op2 K (rNeLD K) gNeLD := by
  intro H O x y d e z Q hO rx ry h q
  unfold gNeLD at h
  cases d <;> cases e <;> first | (cases h; done) | skip
  rename_i ds es
  dsimp only at h
  by_cases c : dsames ds es = true
  · rw [if_pos c] at h
    cases h
    have rx' := rx.mono (hide_sub (O := O) (H := H))
    have ry' := ry.mono (hide_sub (O := O) (H := H))
    cases rx' with
    | lst h1 r1 =>
      cases ry' with
      | lst h2 r2 => exact ⟨_, _, _, _, rfl, rfl, h1, h2, dsms_of r1 r2 c, q _ H (Same.refl H) (.bl _)⟩
  · rw [if_neg c] at h; cases h
end Pu
set_option Elab.async false
set_option linter.all false
set_option maxRecDepth 100000
set_option maxHeartbeats 4000000
namespace Pu
open PySem PySem.Spec PyProof.Rows L2
def Wk (X : Cx) (W : WX) : WX := fun c d σ H => W c d σ H ∨ ∃ a od kvs, H a = some (.frz od (.dK kvs)) ∧ (∀ o' u', X.H_0 a ≠ some (.frz o' u')) ∧ W c d σ (upd H a (.dK kvs))
theorem takesL {X : Cx} {W : WX} (t : Takes X W) : Takes X (Wk X W) := fun u s' ⟨a, B, sI, pins, σ, H, cls, d, e, I, nb, up, sky, na, os, ag, w⟩ => by
  rcases w with w | ⟨b, od, kvs, hb, hn, w⟩
  · exact t u s' ⟨a, B, sI, pins, σ, H, cls, d, e, I, nb, up, sky, na, os, ag, w⟩
  · refine t u s' ⟨a, B, sI, pins, σ, _, cls, d, e, I.unlock hb hn, nb, up, sky, ?_, os, ag, w⟩
    have n : a ≠ b := fun z => by rw [z, hb] at na; cases na
    rw [upd_ne n]; exact na
def tLockN (X : Cx) (t : TS) : TS := fun D σ H => ∃ d u, H d = some u ∧ Mut (some u) ∧ ∀ od, (∀ o' u', X.H_0 d ≠ some (.frz o' u')) → t ⟨fun σ' H' => H' d = some (.frz od u) ∧ D.nx σ' (upd H' d u), fun v H' => H' d = some (.frz od u) ∧ D.rt v (upd H' d u), fun σ' H' => H' d = some (.frz od u) ∧ D.bk σ' (upd H' d u), fun σ' H' => H' d = some (.frz od u) ∧ D.ct σ' (upd H' d u)⟩ σ (upd H d (.frz od u))
theorem ps_lockN {X : Cx} {st : Stmt} {t : TS} (h : PS X st t) : PS X st (tLockN X t) := by
  refine ⟨fun pins s σ H D I hw => ?_⟩
  obtain ⟨d, u, hd, mu, hw⟩ := hw
  obtain ⟨od, I1⟩ := I.lock hd mu
  refine thn (h.run pins s σ _ _ I1 (hw od (I.nofrz hd mu))) fun f s1 q => ?_
  cases f with
  | next => obtain ⟨σ', H', I2, e, q⟩ := q; exact ⟨σ', _, I2.unlock e (I.nofrz hd mu), q⟩
  | brk => obtain ⟨σ', H', I2, e, q⟩ := q; exact ⟨σ', _, I2.unlock e (I.nofrz hd mu), q⟩
  | cont => obtain ⟨σ', H', I2, e, q⟩ := q; exact ⟨σ', _, I2.unlock e (I.nofrz hd mu), q⟩
  | ret v => obtain ⟨x, σ', H', I2, r, e, q⟩ := q; exact ⟨x, σ', _, I2.unlock e (I.nofrz hd mu), r, q⟩
@[simp] def sForDE (own : List Nat) (f : Vars → R PyData) (it : PyData × PyData → PyData) (gt : PyData → Vars → Option Vars) (g : Vars → Out) (ρ : Vars) : Out := match f (mask own ρ) with
  | .ok (.dict ds) => if insB ds = true then .bad else match forL gt g (ds.map it) ρ with
    | .nx ρ' => .nx ρ'
    | .err c ρ' => .err c ρ'
    | _ => .bad
  | _ => .bad
theorem sx_forDE {X : Cx} {W : WX} {own : List Nat} {tg iter e : Expr} {body : List Stmt} {js : List Nat} {f : Vars → R PyData} {gt : PyData → Vars → Option Vars} {g : Vars → Out} {J : Addr → Obj → List (Key × V) → It} {it : PyData × PyData → PyData} {pos : Pos}
    (w : DWalk X.K J it) (hp : PassesOwn (model X.prog X.w) X.A X.env X.xe) (hc : X.calm = true) (hpi : ∀ {td : TE}, PE X e td → PI X tg iter (tWalk J td)) (he : EXd X e f)
    (hg : GX X tg js gt) (hin : GtIn js gt) (ho : (js.all fun j => !own.contains j) = true) (hb : SsX X (Wk X W) own body g) (hs : ∀ x, foldedSetIterable iter X.env x = pure x := by intro _; rfl) :
    SX X W own (.For tg iter body [] pos) (sForDE own f it gt g) := by
  obtain ⟨td, pe, hte⟩ := he
  obtain ⟨ok, tgt, q, hgt⟩ := hg
  obtain ⟨tb, pb, htb⟩ := hb
  have hj : ∀ j ∈ js, j ∉ own := fun j h z => by
    have := List.all_eq_true.mp ho j h
    rw [List.contains_iff_mem.mpr z] at this; cases this
  have P := ps_for (pos := pos) hp hc (hpi pe) q pb hs
  refine ⟨fun D σ H => tLockN X (tFor (tWalk J td) tgt tb) D σ H ∨ tFor (tWalk J td) tgt tb D σ H, ⟨fun pins s σ H D I h => h.elim (fun h => (ps_lockN P).run pins s σ H D I h) fun h => P.run pins s σ H D I h⟩, fun σ H ρ D H0 O0 O r z => ?_⟩
  unfold sForDE at z
  cases e1 : f (mask own ρ) with
  | bad => rw [e1] at z; exact z.elim
  | err c => rw [e1] at z; exact z.elim
  | ok dd =>
    rw [e1] at z
    cases dd with
    | dict ds =>
      dsimp only at z
      by_cases ib : insB ds = true
      · rw [if_pos ib] at z; exact z.elim
      rw [if_neg ib] at z
      obtain ⟨v, rv, hv⟩ := hte σ H O _ _ r.vrelM e1
      cases rv with
      | ins => exact absurd rfl ib
      | fn _ => exact absurd rfl ib
      | fn0 => exact absurd rfl ib
      | dct => exact absurd rfl ib
      | tpx => exact absurd rfl ib
      | @dic a kvs _ hd rd =>
        rcases hd with hd | ⟨od, hd⟩
        · obtain ⟨na, ha⟩ := hide_some hd
          refine .inl ⟨a, .dK kvs, ha, True.intro, fun od hnf => ?_⟩
          refine hv _ _ (lk_same ha) ⟨a, od, kvs, rfl, upd_same, ?_⟩
          have r1 := r.lockP (od := od) na ha
          have h0 : ∀ u, H0 a = some u → u = .dK kvs := fun u hu => by
            have := r.same a u hu
            rw [ha] at this; cases this; rfl
          refine for_core (W := Wk X W) (gt := gt) (g := g) (ds := ds.map it) ok hj hin hgt htb r1 (fun i H2 O2 σ2 ρ2 r2 sF => ?_) ?_
          · obtain ⟨_, h2, sF'⟩ := same_unlock na ha sF
            exact w.step (F := hide O (upd H a (.frz od (.dK kvs)))) (rd.lk (lk_same ha).hide) h2 r2.stands sF
          · cases eL : forL gt g (ds.map it) ρ with
            | nx ρ' =>
              rw [eL] at z
              intro σ' H' O' r' sF
              obtain ⟨n2, h2, sF'⟩ := same_unlock na ha sF
              exact ⟨h2, z σ' _ O' (r'.unlockP n2 h2 h0) sF'⟩
            | err c ρ' =>
              rw [eL] at z
              intro σ' H' O' r' sF
              obtain ⟨n2, h2, sF'⟩ := same_unlock na ha sF
              exact .inr ⟨a, od, kvs, h2, hnf, z σ' _ O' (r'.unlockP n2 h2 h0) sF'⟩
            | _ => rw [eL] at z; exact z.elim
        · obtain ⟨na, ha⟩ := hide_some hd
          refine .inr (hv _ _ (Same.l (Same.refl H)) ⟨a, od, kvs, rfl, ha, ?_⟩)
          refine for_core (W := Wk X W) (gt := gt) (g := g) (ds := ds.map it) ok hj hin hgt htb r (fun i H2 O2 σ2 ρ2 r2 sF => ?_) ?_
          · exact w.step (F := hide O H) rd (hide_some (sF a _ hd)).2 r2.stands sF
          · cases eL : forL gt g (ds.map it) ρ with
            | nx ρ' => rw [eL] at z; exact z
            | err c ρ' => rw [eL] at z; exact fun σ' H' O' r' sF => .inl (z σ' H' O' r' sF)
            | _ => rw [eL] at z; exact z.elim
    | _ => exact z.elim
end Pu
set_option Elab.async false
set_option linter.all false
set_option maxRecDepth 100000
set_option maxHeartbeats 4000000
namespace Lk68
open PySem PySem.Spec PyProof.Rows L2 Pu
def top (i : Nat) : Stmt := PySem.Challenge.pw_hydrahouse_k68_exchanges_fall.main.body.getD i (.Pass ⟨0, 0, 0, 0⟩)
abbrev s_is_whole : Stmt := top 16
abbrev N_is_whole : List Str := ["thing"]
theorem sc_is_whole : FnScope N_is_whole ["thing"] (defScope s_is_whole) := ⟨rfl, rfl, rfl, by decide +kernel, rfl, by decide +kernel, by decide +kernel⟩
def g_is_whole (S : Nat → List PyData → R PyData) : Vars → Out :=
  (sRet (eAnd (eIsi "int" (eVar 0)) (eAnd (eNot (eIsi "bool" (eVar 0))) (eOp gGe (eVar 0) (eC (.int 0))))))
abbrev s_compare : Stmt := top 17
abbrev N_compare : List Str := ["a", "b", "one", "other", "side"]
theorem sc_compare : FnScope N_compare ["a", "b"] (defScope s_compare) := ⟨rfl, rfl, rfl, by decide +kernel, rfl, by decide +kernel, by decide +kernel⟩
abbrev gb_compare_1 (S : Nat → List PyData → R PyData) : Vars → Out :=
  (sSeq (sSet [] 4 (eFn (S 1) (aCons (eOp gIx (eVar 2) (eC (.int 0))) (aCons (eOp gIx (eVar 3) (eC (.int 0))) aNil)))) (sSeq (sIf (tOf (eOp gNe (eVar 4) (eC (.int 0)))) (sRet (eVar 4)) sNil) (sIf (tOf (eOp gNe (eOp gIx (eVar 2) (eC (.int 1))) (eOp gIx (eVar 3) (eC (.int 1))))) (sRet (eIf (tOf (eOp gGt (eOp gIx (eVar 2) (eC (.int 1))) (eOp gIx (eVar 3) (eC (.int 1))))) (eC (.int 1)) (eNeg (eC (.int 1))))) sNil)))
def g_compare (S : Nat → List PyData → R PyData) : Vars → Out :=
  (sSeq (sFor [] (iZipD (aCons (eVar 0) (aCons (eVar 1) aNil))) (gtTup 2 (gtCons (gtName 2) (gtCons (gtName 3) gtNil))) (gb_compare_1 S))
    (sSeq (sIf (tOf (eOp gEq (eCall gLen (aCons (eVar 0) aNil)) (eCall gLen (aCons (eVar 1) aNil)))) (sRet (eC (.int 0))) sNil)
    (sRet (eIf (tOf (eOp gGt (eCall gLen (aCons (eVar 0) aNil)) (eCall gLen (aCons (eVar 1) aNil)))) (eC (.int 1)) (eNeg (eC (.int 1)))))))
abbrev s_whole : Stmt := top 18
abbrev N_whole : List Str := ["n"]
theorem sc_whole : FnScope N_whole ["n"] (defScope s_whole) := ⟨rfl, rfl, rfl, by decide +kernel, rfl, by decide +kernel, by decide +kernel⟩
def g_whole (S : Nat → List PyData → R PyData) : Vars → Out :=
  (sRet (eFn (S 3) (aCons (eTup aNil) (aCons (eVar 0) aNil))))
abbrev s_raised : Stmt := top 19
abbrev N_raised : List Str := ["exponent", "times"]
theorem sc_raised : FnScope N_raised ["exponent", "times"] (defScope s_raised) := ⟨rfl, rfl, rfl, by decide +kernel, rfl, by decide +kernel, by decide +kernel⟩
def g_raised (S : Nat → List PyData → R PyData) : Vars → Out :=
  (sSeq (sIf (tNotR (tTru (eFn (S 0) (aCons (eVar 1) aNil)))) (sRaise "NoNumber") sNil)
    (sSeq (sIf (tOf (eOp gEq (eVar 1) (eC (.int 0)))) (sRet (eTup aNil)) sNil)
    (sRet (eTup (aCons (eTup (aCons (eVar 0) (aCons (eVar 1) aNil))) aNil)))))
abbrev s_merged : Stmt := top 21
abbrev N_merged : List Str := ["a", "b", "found", "i", "j", "side"]
theorem sc_merged : FnScope N_merged ["a", "b"] (defScope s_merged) := ⟨rfl, rfl, rfl, by decide +kernel, rfl, by decide +kernel, by decide +kernel⟩
abbrev gb_merged_1 (S : Nat → List PyData → R PyData) : Vars → Out :=
  (sSeq (sSetM [2] 5 (eFn (S 1) (aCons (eOp gIx (eOp gIx (eVar 0) (eVar 3)) (eC (.int 0))) (aCons (eOp gIx (eOp gIx (eVar 1) (eVar 4)) (eC (.int 0))) aNil)))) (sIf (tOf (eOp gEq (eVar 5) (eC (.int 1)))) (sSeq (sAppM [2] 2 (eOp gIx (eVar 0) (eVar 3))) (sAug [2] 3 gAddI (eC (.int 1)))) (sIf (tOf (eOp gEq (eVar 5) (eNeg (eC (.int 1))))) (sSeq (sAppM [2] 2 (eOp gIx (eVar 1) (eVar 4))) (sAug [2] 4 gAddI (eC (.int 1)))) (sSeq (sAppM [2] 2 (eTup (aCons (eOp gIx (eOp gIx (eVar 0) (eVar 3)) (eC (.int 0))) (aCons (eOp gAdd (eOp gIx (eOp gIx (eVar 0) (eVar 3)) (eC (.int 1))) (eOp gIx (eOp gIx (eVar 1) (eVar 4)) (eC (.int 1)))) aNil)))) (sSeq (sAug [2] 3 gAddI (eC (.int 1))) (sAug [2] 4 gAddI (eC (.int 1))))))))
def g_merged (S : Nat → List PyData → R PyData) : Vars → Out :=
  (sSeq (sNew [2] 2 (nLst aNil))
    (sSeq (sSetM [2] 3 (eC (.int 0)))
    (sSeq (sSetM [2] 4 (eC (.int 0)))
    (sSeq (whileL (tAndR (tOf (eOp gLt (eVar 3) (eCall gLen (aCons (eVar 0) aNil)))) (tOf (eOp gLt (eVar 4) (eCall gLen (aCons (eVar 1) aNil))))) (gb_merged_1 S) wfuel)
    (sRet (eOp gAdd (eOp gAdd (eCall gTuple (aCons (eVar 2) aNil)) (eSl (eVar 0) (oSome (eVar 3)) oNone)) (eSl (eVar 1) (oSome (eVar 4)) oNone)))))))
abbrev s_kinds_of : Stmt := top 23
abbrev N_kinds_of : List Str := ["rules", "kinds", "kind", "others", "other"]
theorem sc_kinds_of : FnScope N_kinds_of ["rules"] (defScope s_kinds_of) := ⟨rfl, rfl, rfl, by decide +kernel, rfl, by decide +kernel, by decide +kernel⟩
abbrev gb_kinds_of_1 (S : Nat → List PyData → R PyData) : Vars → Out :=
  (sDPutM [1] 1 (eC (.bool true)) (eVar 4))
abbrev gb_kinds_of_2 (S : Nat → List PyData → R PyData) : Vars → Out :=
  (sSeq (sDPutM [1] 1 (eC (.bool true)) (eVar 2)) (sFor [1] (iSeq (eVar 3)) (gtName 4) (gb_kinds_of_1 S)))
def g_kinds_of (S : Nat → List PyData → R PyData) : Vars → Out :=
  (sSeq (sNewV [1] 1 (eC (.dict [])))
    (sSeq (sForDP [1] false (eVar 0) itI (gtTup 2 (gtCons (gtName 2) (gtCons (gtName 3) gtNil))) (gb_kinds_of_2 S))
    (sRet (eCall gListK (aCons (eVar 1) aNil)))))
abbrev s_next_rank : Stmt := top 24
abbrev N_next_rank : List Str := ["others", "known", "rank", "other"]
theorem sc_next_rank : FnScope N_next_rank ["others", "known"] (defScope s_next_rank) := ⟨rfl, rfl, rfl, by decide +kernel, rfl, by decide +kernel, by decide +kernel⟩
abbrev gb_next_rank_1 (S : Nat → List PyData → R PyData) : Vars → Out :=
  (sSeq (sIf (tOf (eOp gDnin (eVar 3) (eVar 1))) (sRet (eC .none)) sNil) (sSet [] 2 (eCall gMax2 (aCons (eVar 2) (aCons (eOp gAdd (eOp gDix (eVar 1) (eVar 3)) (eC (.int 1))) aNil)))))
def g_next_rank (S : Nat → List PyData → R PyData) : Vars → Out :=
  (sSeq (sSet [] 2 (eC (.int 0)))
    (sSeq (sFor [] (iSeq (eVar 0)) (gtName 3) (gb_next_rank_1 S))
    (sRet (eVar 2))))
abbrev s_ring_from : Stmt := top 25
abbrev N_ring_from : List Str := ["kind", "rules", "known", "way", "after", "other"]
theorem sc_ring_from : FnScope N_ring_from ["kind", "rules", "known"] (defScope s_ring_from) := ⟨rfl, rfl, rfl, by decide +kernel, rfl, by decide +kernel, by decide +kernel⟩
abbrev gb_ring_from_1 (S : Nat → List PyData → R PyData) : Vars → Out :=
  (sSeq (sSetM [3] 4 (eC .none)) (sSeq (sForM [3] (eVar 1) (eOp gIx (eVar 3) (eNeg (eC (.int 1)))) (gtName 5) (sIf (tAndR (tOf (eOp gDnin (eVar 5) (eVar 2))) (tOf (eOp gIsN (eVar 4) (eC .none)))) (sSetM [3] 4 (eVar 5)) sNil)) (sSeq (sIf (tOf (eOp gInL (eVar 4) (eVar 3))) (sRet (eSl (eVar 3) (oSome (eIdx (eVar 3) (eVar 4))) oNone)) sNil) (sAppM [3] 3 (eVar 4)))))
def g_ring_from (S : Nat → List PyData → R PyData) : Vars → Out :=
  (sSeq (sNew [3] 3 (nLst (aCons (eVar 0) aNil)))
    (whileL (tTru (eC (.bool true))) (gb_ring_from_1 S) wfuel))
abbrev s_ranks : Stmt := top 26
abbrev N_ranks : List Str := ["rules", "known", "kinds", "turn", "kind", "rank"]
theorem sc_ranks : FnScope N_ranks ["rules"] (defScope s_ranks) := ⟨rfl, rfl, rfl, by decide +kernel, rfl, by decide +kernel, by decide +kernel⟩
abbrev gb_ranks_1 (S : Nat → List PyData → R PyData) : Vars → Out :=
  (sIf (tOf (eOp gDnin (eVar 4) (eVar 1))) (sSeq (sSet [1] 5 (eFn (S 6) (aCons (eDget (eVar 0) (eVar 4) (eLst aNil)) (aCons (eVar 1) aNil)))) (sIf (tOf (eOp gNotN (eVar 5) (eC .none))) (sDPutM [1] 1 (eVar 5) (eVar 4)) sNil)) sNil)
abbrev gb_ranks_2 (S : Nat → List PyData → R PyData) : Vars → Out :=
  (sFor [1] (iSeq (eVar 2)) (gtName 4) (gb_ranks_1 S))
abbrev gb_ranks_3 (S : Nat → List PyData → R PyData) : Vars → Out :=
  (sIf (tOf (eOp gDnin (eVar 4) (eVar 1))) (sRet (eTup (aCons (eC (.str "ring")) (aCons (eFn (S 7) (aCons (eVar 4) (aCons (eVar 0) (aCons (eVar 1) aNil)))) aNil)))) sNil)
def g_ranks (S : Nat → List PyData → R PyData) : Vars → Out :=
  (sSeq (sNewV [1] 1 (eC (.dict [])))
    (sSeq (sSetM [1] 2 (eFn (S 5) (aCons (eVar 0) aNil)))
    (sSeq (sFor [1] (iRange (aCons (eCall gLen (aCons (eVar 2) aNil)) aNil)) (gtName 3) (gb_ranks_2 S))
    (sSeq (sFor [] (iSeq (eVar 2)) (gtName 4) (gb_ranks_3 S))
    (sRet (eTup (aCons (eC (.str "ranks")) (aCons (eVar 1) aNil))))))))
abbrev s_heap_number : Stmt := top 27
abbrev N_heap_number : List Str := ["ranking", "heap", "found", "kind", "many"]
theorem sc_heap_number : FnScope N_heap_number ["ranking", "heap"] (defScope s_heap_number) := ⟨rfl, rfl, rfl, by decide +kernel, rfl, by decide +kernel, by decide +kernel⟩
abbrev gb_heap_number_1 (S : Nat → List PyData → R PyData) : Vars → Out :=
  (sSet [] 2 (eFn (S 4) (aCons (eVar 2) (aCons (eFn (S 3) (aCons (eFn (S 2) (aCons (eOp gDix (eVar 0) (eVar 3)) aNil)) (aCons (eVar 4) aNil))) aNil))))
def g_heap_number (S : Nat → List PyData → R PyData) : Vars → Out :=
  (sSeq (sSet [] 2 (eTup aNil))
    (sSeq (sForDP [] false (eVar 1) itI (gtTup 2 (gtCons (gtName 3) (gtCons (gtName 4) gtNil))) (gb_heap_number_1 S))
    (sRet (eVar 2))))
abbrev s_exchange : Stmt := top 28
abbrev N_exchange : List Str := ["rules", "heap", "kind", "given", "other", "many", "left", "made"]
theorem sc_exchange : FnScope N_exchange ["rules", "heap", "kind", "given"] (defScope s_exchange) := ⟨rfl, rfl, rfl, by decide +kernel, rfl, by decide +kernel, by decide +kernel⟩
abbrev gb_exchange_1 (S : Nat → List PyData → R PyData) : Vars → Out :=
  (sDPut 6 (eOp gAdd (eDget (eVar 6) (eVar 4) (eC (.int 0))) (eVar 5)) (eVar 4))
abbrev gb_exchange_2 (S : Nat → List PyData → R PyData) : Vars → Out :=
  (sIf (tOf (eOp gGt (eVar 5) (eC (.int 0)))) (sDPutM [7] 7 (eVar 5) (eVar 4)) sNil)
def g_exchange (S : Nat → List PyData → R PyData) : Vars → Out :=
  (sSeq (sIf (tOrR (tOf (eOp gDnin (eVar 2) (eVar 0))) (tOf (eOp gEq (eDget (eVar 1) (eVar 2) (eC (.int 0))) (eC (.int 0))))) (sRaise "NoChore") sNil)
    (sSeq (sForDE [6, 7] (eVar 3) itI (gtTup 2 (gtCons (gtName 4) (gtCons (gtName 5) gtNil))) (sIf (tAndR (tOf (eOp gGt (eVar 5) (eC (.int 0)))) (tOf (eOp gNinL (eVar 4) (eOp gDix (eVar 0) (eVar 2))))) (sRaise "NoChore") sNil))
    (sSeq (sNewV [6, 7] 6 (eCall gDcopy (aCons (eVar 1) aNil)))
    (sSeq (sDPut 6 (eOp gSub (eOp gDix (eVar 6) (eVar 2)) (eC (.int 1))) (eVar 2))
    (sSeq (sForDP [6, 7] false (eVar 3) itI (gtTup 2 (gtCons (gtName 4) (gtCons (gtName 5) gtNil))) (gb_exchange_1 S))
    (sSeq (sNewV [7] 7 (eC (.dict [])))
    (sSeq (sForDP [7] false (eVar 6) itI (gtTup 2 (gtCons (gtName 4) (gtCons (gtName 5) gtNil))) (gb_exchange_2 S))
    (sRet (eVar 7)))))))))
abbrev s_l_cell_at : Stmt := top 30
abbrev N_l_cell_at : List Str := ["_law_script", "_law_k"]
theorem sc_l_cell_at : FnScope N_l_cell_at ["_law_script", "_law_k"] (defScope s_l_cell_at) := ⟨rfl, rfl, rfl, by decide +kernel, rfl, by decide +kernel, by decide +kernel⟩
def g_l_cell_at (S : Nat → List PyData → R PyData) : Vars → Out :=
  (sSeq (sIf (tOf (eOp gLt (eVar 1) (eCall gLen (aCons (eVar 0) aNil)))) (sRet (eOp gIx (eVar 0) (eVar 1))) sNil)
    (sRet (eC (.int 0))))
abbrev s_l_whole : Stmt := top 31
abbrev N_l_whole : List Str := ["_law_found"]
theorem sc_l_whole : FnScope N_l_whole ["_law_found"] (defScope s_l_whole) := ⟨rfl, rfl, rfl, by decide +kernel, rfl, by decide +kernel, by decide +kernel⟩
def g_l_whole (S : Nat → List PyData → R PyData) : Vars → Out :=
  (sRet (eAnd (eIsi "int" (eVar 0)) (eNot (eIsi "bool" (eVar 0)))))
abbrev s_l_amount : Stmt := top 32
abbrev N_l_amount : List Str := ["_law_cell"]
theorem sc_l_amount : FnScope N_l_amount ["_law_cell"] (defScope s_l_amount) := ⟨rfl, rfl, rfl, by decide +kernel, rfl, by decide +kernel, by decide +kernel⟩
def g_l_amount (S : Nat → List PyData → R PyData) : Vars → Out :=
  (sSeq (sIf (tOf (eOp gEq (eOp gMod (eVar 0) (eC (.int 4))) (eC (.int 3)))) (sRet (eOp gMod (eOp gDiv (eVar 0) (eC (.int 4))) (eOp gPow (eC (.int 10)) (eC (.int 50))))) sNil)
    (sRet (eOp gMod (eOp gDiv (eVar 0) (eC (.int 4))) (eC (.int 3)))))
abbrev s_l_rules : Stmt := top 33
abbrev N_l_rules : List Str := ["_law_script", "_law_kinds", "_law_rules_here", "_law_k", "_law_cell", "_law_j"]
theorem sc_l_rules : FnScope N_l_rules ["_law_script", "_law_kinds"] (defScope s_l_rules) := ⟨rfl, rfl, rfl, by decide +kernel, rfl, by decide +kernel, by decide +kernel⟩
abbrev gb_l_rules_1 (S : Nat → List PyData → R PyData) : Vars → Out :=
  (sSeq (sIf (tOf (eOp gNe (eOp gMod (eVar 4) (eC (.int 3))) (eC (.int 0)))) (sMapp 2 (eOp gIx (eVar 1) (eVar 3)) (eOp gIx (eVar 1) (eVar 5))) sNil) (sSetD 4 (eOp gDiv (eVar 4) (eC (.int 3)))))
abbrev gb_l_rules_2 (S : Nat → List PyData → R PyData) : Vars → Out :=
  (sSeq (sSetD 4 (eFn (S 11) (aCons (eVar 0) (aCons (eOp gAdd (eC (.int 1)) (eVar 3)) aNil)))) (sIf (tOf (eOp gNe (eOp gMod (eVar 4) (eC (.int 5))) (eC (.int 0)))) (sSeq (sSetD 4 (eOp gDiv (eVar 4) (eC (.int 5)))) (sSeq (sPutN 2 (nLst aNil) (eOp gIx (eVar 1) (eVar 3))) (sForD 2 [] (iRange (aCons (eOp gAdd (eVar 3) (eC (.int 1))) (aCons (eCall gLen (aCons (eVar 1) aNil)) aNil))) (gtName 5) (gb_l_rules_1 S)))) sNil))
def g_l_rules (S : Nat → List PyData → R PyData) : Vars → Out :=
  (sSeq (sNewM 2)
    (sSeq (sForD 2 [] (iRange (aCons (eCall gLen (aCons (eVar 1) aNil)) aNil)) (gtName 3) (gb_l_rules_2 S))
    (sSeq (sIf (tOf (eOp gEq (eOp gMod (eFn (S 11) (aCons (eVar 0) (aCons (eC (.int 11)) aNil))) (eC (.int 3))) (eC (.int 2)))) (sPutN 2 (nLst (aCons (eOp gIx (eVar 1) (eOp gMod (eOp gDiv (eFn (S 11) (aCons (eVar 0) (aCons (eC (.int 11)) aNil))) (eC (.int 3))) (eCall gLen (aCons (eVar 1) aNil)))) aNil)) (eOp gIx (eVar 1) (eNeg (eC (.int 1))))) sNil)
    (sRet (eVar 2)))))
abbrev s_l_heap : Stmt := top 34
abbrev N_l_heap : List Str := ["_law_script", "_law_kinds", "_law_heap_here", "_law_k", "_law_amount_here"]
theorem sc_l_heap : FnScope N_l_heap ["_law_script", "_law_kinds"] (defScope s_l_heap) := ⟨rfl, rfl, rfl, by decide +kernel, rfl, by decide +kernel, by decide +kernel⟩
abbrev gb_l_heap_1 (S : Nat → List PyData → R PyData) : Vars → Out :=
  (sSeq (sSetM [2] 4 (eFn (S 13) (aCons (eFn (S 11) (aCons (eVar 0) (aCons (eOp gAdd (eC (.int 12)) (eVar 3)) aNil))) aNil))) (sIf (tOf (eOp gGt (eVar 4) (eC (.int 0)))) (sDPutM [2] 2 (eVar 4) (eOp gIx (eVar 1) (eVar 3))) sNil))
def g_l_heap (S : Nat → List PyData → R PyData) : Vars → Out :=
  (sSeq (sNewV [2] 2 (eC (.dict [])))
    (sSeq (sFor [2] (iRange (aCons (eCall gLen (aCons (eVar 1) aNil)) aNil)) (gtName 3) (gb_l_heap_1 S))
    (sRet (eVar 2))))
abbrev s_l_ranked : Stmt := top 35
abbrev N_l_ranked : List Str := ["_law_heap_here", "_law_ranking", "_law_ranked_here", "_law_kind", "_law_many"]
theorem sc_l_ranked : FnScope N_l_ranked ["_law_heap_here", "_law_ranking"] (defScope s_l_ranked) := ⟨rfl, rfl, rfl, by decide +kernel, rfl, by decide +kernel, by decide +kernel⟩
abbrev gb_l_ranked_1 (S : Nat → List PyData → R PyData) : Vars → Out :=
  (sIf (tOf (eOp gDin (eVar 3) (eVar 1))) (sDPutM [2] 2 (eVar 4) (eVar 3)) sNil)
def g_l_ranked (S : Nat → List PyData → R PyData) : Vars → Out :=
  (sSeq (sNewV [2] 2 (eC (.dict [])))
    (sSeq (sForDP [2] false (eVar 0) itI (gtTup 2 (gtCons (gtName 3) (gtCons (gtName 4) gtNil))) (gb_l_ranked_1 S))
    (sRet (eVar 2))))
abbrev s_l_given : Stmt := top 36
abbrev N_l_given : List Str := ["_law_cell", "_law_kind", "_law_rules_here", "_law_kinds", "_law_given_here", "_law_other", "_law_odd"]
theorem sc_l_given : FnScope N_l_given ["_law_cell", "_law_kind", "_law_rules_here", "_law_kinds"] (defScope s_l_given) := ⟨rfl, rfl, rfl, by decide +kernel, rfl, by decide +kernel, by decide +kernel⟩
abbrev gb_l_given_1 (S : Nat → List PyData → R PyData) : Vars → Out :=
  (sSeq (sDPutM [4] 4 (eFn (S 13) (aCons (eOp gMod (eOp gMulX (eVar 0) (eC (.int 48271))) (eOp gAdd (eOp gPow (eC (.int 10)) (eC (.int 60))) (eC (.int 7)))) aNil)) (eVar 5)) (sSetM [4] 0 (eOp gDiv (eVar 0) (eC (.int 7)))))
def g_l_given (S : Nat → List PyData → R PyData) : Vars → Out :=
  (sSeq (sNewV [4] 4 (eC (.dict [])))
    (sSeq (sFor [4] (iSeq (eDget (eVar 2) (eVar 1) (eLst aNil))) (gtName 5) (gb_l_given_1 S))
    (sSeq (sSetM [4] 6 (eOp gIx (eVar 3) (eOp gMod (eVar 0) (eCall gLen (aCons (eVar 3) aNil)))))
    (sSeq (sIf (tAndR (tOf (eOp gEq (eOp gMod (eOp gDiv (eVar 0) (eC (.int 8))) (eC (.int 6))) (eC (.int 1)))) (tOf (eOp gDnin (eVar 6) (eVar 4)))) (sDPutM [4] 4 (eOp gMod (eOp gDiv (eVar 0) (eC (.int 48))) (eC (.int 2))) (eVar 6)) sNil)
    (sRet (eVar 4))))))
abbrev s_l_allowed : Stmt := top 37
abbrev N_l_allowed : List Str := ["_law_rules_here", "_law_heap_here", "_law_kind", "_law_given_here", "_law_other", "_law_many"]
theorem sc_l_allowed : FnScope N_l_allowed ["_law_rules_here", "_law_heap_here", "_law_kind", "_law_given_here"] (defScope s_l_allowed) := ⟨rfl, rfl, rfl, by decide +kernel, rfl, by decide +kernel, by decide +kernel⟩
abbrev gb_l_allowed_1 (S : Nat → List PyData → R PyData) : Vars → Out :=
  (sIf (tAndR (tOf (eOp gGt (eVar 5) (eC (.int 0)))) (tOf (eOp gNinL (eVar 4) (eOp gDix (eVar 0) (eVar 2))))) (sRet (eC (.bool false))) sNil)
def g_l_allowed (S : Nat → List PyData → R PyData) : Vars → Out :=
  (sSeq (sIf (tOrR (tOf (eOp gDnin (eVar 2) (eVar 0))) (tOf (eOp gDnin (eVar 2) (eVar 1)))) (sRet (eC (.bool false))) sNil)
    (sSeq (sForDP [] true (eVar 3) itI (gtTup 2 (gtCons (gtName 4) (gtCons (gtName 5) gtNil))) (gb_l_allowed_1 S))
    (sRet (eC (.bool true)))))
abbrev s_l_behind : Stmt := top 38
abbrev N_l_behind : List Str := ["_law_heap_here", "_law_kind", "_law_given_here", "_law_behind_here", "_law_other", "_law_many"]
theorem sc_l_behind : FnScope N_l_behind ["_law_heap_here", "_law_kind", "_law_given_here"] (defScope s_l_behind) := ⟨rfl, rfl, rfl, by decide +kernel, rfl, by decide +kernel, by decide +kernel⟩
abbrev gb_l_behind_1 (S : Nat → List PyData → R PyData) : Vars → Out :=
  (sSeq (sSetM [3] 5 (eOp gSub (eOp gAdd (eDget (eVar 0) (eVar 4) (eC (.int 0))) (eDget (eVar 2) (eVar 4) (eC (.int 0)))) (eCall gIntC (aCons (eOp gEq (eVar 4) (eVar 1)) aNil)))) (sIf (tOf (eOp gGt (eVar 5) (eC (.int 0)))) (sDPutM [3] 3 (eVar 5) (eVar 4)) sNil))
def g_l_behind (S : Nat → List PyData → R PyData) : Vars → Out :=
  (sSeq (sNewV [3] 3 (eC (.dict [])))
    (sSeq (sFor [3] (iSeq (eOp gAdd (eCall gListK (aCons (eVar 0) aNil)) (eCall gListK (aCons (eVar 2) aNil)))) (gtName 4) (gb_l_behind_1 S))
    (sRet (eVar 3))))
abbrev s_l_number : Stmt := top 39
abbrev N_l_number : List Str := ["_law_told", "_law_heap_here", "_law_together", "_law_kind", "_law_many", "_law_parts", "_law_rank", "_law_exponent"]
theorem sc_l_number : FnScope N_l_number ["_law_told", "_law_heap_here"] (defScope s_l_number) := ⟨rfl, rfl, rfl, by decide +kernel, rfl, by decide +kernel, by decide +kernel⟩
abbrev gb_l_number_1 (S : Nat → List PyData → R PyData) : Vars → Out :=
  (sDPut 2 (eOp gAdd (eDget (eVar 2) (eOp gDix (eVar 0) (eVar 3)) (eC (.int 0))) (eVar 4)) (eOp gDix (eVar 0) (eVar 3)))
abbrev gb_l_number_2 (S : Nat → List PyData → R PyData) : Vars → Out :=
  (sSeq (sSetM [5] 7 (eTup aNil)) (sSeq (sIf (tOf (eOp gGt (eVar 6) (eC (.int 0)))) (sSetM [5] 7 (eTup (aCons (eTup (aCons (eTup aNil) (aCons (eVar 6) aNil))) aNil))) sNil) (sAppM [5] 5 (eTup (aCons (eVar 7) (aCons (eOp gDix (eVar 2) (eVar 6)) aNil))))))
def g_l_number (S : Nat → List PyData → R PyData) : Vars → Out :=
  (sSeq (sNewV [2, 5] 2 (eC (.dict [])))
    (sSeq (sForDP [2, 5] false (eVar 1) itI (gtTup 2 (gtCons (gtName 3) (gtCons (gtName 4) gtNil))) (gb_l_number_1 S))
    (sSeq (sNew [5] 5 (nLst aNil))
    (sSeq (sFor [5] (iSeq (eSortR (eVar 2))) (gtName 6) (gb_l_number_2 S))
    (sRet (eCall gTuple (aCons (eVar 5) aNil)))))))
abbrev s_l_less : Stmt := top 40
abbrev N_l_less : List Str := ["_law_one", "_law_other", "_law_k", "_law_left", "_law_right"]
theorem sc_l_less : FnScope N_l_less ["_law_one", "_law_other"] (defScope s_l_less) := ⟨rfl, rfl, rfl, by decide +kernel, rfl, by decide +kernel, by decide +kernel⟩
abbrev gb_l_less_1 (S : Nat → List PyData → R PyData) : Vars → Out :=
  (sSeq (sSet [] 3 (eC (.int 0))) (sSeq (sSet [] 4 (eC (.int 0))) (sSeq (sIf (tOf (eOp gNe (eOp gIx (eOp gIx (eVar 0) (eVar 2)) (eC (.int 0))) (eTup aNil))) (sSet [] 3 (eOp gIx (eOp gIx (eOp gIx (eOp gIx (eVar 0) (eVar 2)) (eC (.int 0))) (eC (.int 0))) (eC (.int 1)))) sNil) (sSeq (sIf (tOf (eOp gNe (eOp gIx (eOp gIx (eVar 1) (eVar 2)) (eC (.int 0))) (eTup aNil))) (sSet [] 4 (eOp gIx (eOp gIx (eOp gIx (eOp gIx (eVar 1) (eVar 2)) (eC (.int 0))) (eC (.int 0))) (eC (.int 1)))) sNil) (sSeq (sIf (tOf (eOp gNe (eVar 3) (eVar 4))) (sRet (eOp gLt (eVar 3) (eVar 4))) sNil) (sIf (tOf (eOp gNe (eOp gIx (eOp gIx (eVar 0) (eVar 2)) (eC (.int 1))) (eOp gIx (eOp gIx (eVar 1) (eVar 2)) (eC (.int 1))))) (sRet (eOp gLt (eOp gIx (eOp gIx (eVar 0) (eVar 2)) (eC (.int 1))) (eOp gIx (eOp gIx (eVar 1) (eVar 2)) (eC (.int 1))))) sNil))))))
def g_l_less (S : Nat → List PyData → R PyData) : Vars → Out :=
  (sSeq (sFor [] (iRange (aCons (eCall gMin2 (aCons (eCall gLen (aCons (eVar 0) aNil)) (aCons (eCall gLen (aCons (eVar 1) aNil)) aNil))) aNil)) (gtName 2) (gb_l_less_1 S))
    (sRet (eOp gLt (eCall gLen (aCons (eVar 0) aNil)) (eCall gLen (aCons (eVar 1) aNil)))))
abbrev s_l_exchanged : Stmt := top 41
abbrev N_l_exchanged : List Str := ["_law_rules_here", "_law_heap_here", "_law_kind", "_law_given_here", "_law_found", "_law_refused"]
theorem sc_l_exchanged : FnScope N_l_exchanged ["_law_rules_here", "_law_heap_here", "_law_kind", "_law_given_here"] (defScope s_l_exchanged) := ⟨rfl, rfl, rfl, by decide +kernel, rfl, by decide +kernel, by decide +kernel⟩
def g_l_exchanged (S : Nat → List PyData → R PyData) : Vars → Out :=
  (sSeq (sSet [] 4 (eC .none))
    (sSeq (sSet [] 5 (eC (.bool false)))
    (sSeq (sTryC (tabL [("NoChore", true)]) 5 (.bool true) (sSet [] 4 (eFn (S 10) (aCons (eVar 0) (aCons (eVar 1) (aCons (eVar 2) (aCons (eVar 3) aNil)))))))
    (sSeq (sIf (tTru (eVar 5)) (sRet (eC .none)) sNil)
    (sRet (eVar 4))))))
abbrev s_l_refused_so : Stmt := top 42
abbrev N_l_refused_so : List Str := ["_law_rules_here", "_law_heap_here", "_law_kind", "_law_given_here", "_law_right", "_law_other", "e"]
theorem sc_l_refused_so : FnScope N_l_refused_so ["_law_rules_here", "_law_heap_here", "_law_kind", "_law_given_here"] (defScope s_l_refused_so) := ⟨rfl, rfl, rfl, by decide +kernel, rfl, by decide +kernel, by decide +kernel⟩
def g_l_refused_so (S : Nat → List PyData → R PyData) : Vars → Out :=
  (sSeq (sSet [] 4 (eC (.bool false)))
    (sSeq (sSet [] 5 (eC (.bool false)))
    (sSeq (sTryX (tabL [("NoChore", true)]) 6 (fun c => (hSeq (hSet [] 4 (eAnd (eKit (tabL [("NoChore", true)]) c) (eKit (tabL [("NoChore", true)]) c))) (hSeq (hSet [] 5 (eKits [[("NoChore", false)], [("NoChore", false)], [("NoChore", false)], [("NoChore", false)], [("NoChore", false)], [("NoChore", false)]] c)) (hSeq (hIf (eKits [[("NoChore", false)], [("NoChore", false)], [("NoChore", false)], [("NoChore", false)], [("NoChore", false)], [("NoChore", false)]] c) (hSeq (hSet [] 5 (eC (.bool true))) hNil)) hNil)))) (sExpr (eFn (S 10) (aCons (eVar 0) (aCons (eVar 1) (aCons (eVar 2) (aCons (eVar 3) aNil)))))))
    (sRet (eAnd (eVar 4) (eNot (eVar 5)))))))
abbrev s_l_round : Stmt := top 43
abbrev N_l_round : List Str := ["_law_rules_here", "_law_ring", "_law_many", "_law_heap_here", "_law_first", "_law_k"]
theorem sc_l_round : FnScope N_l_round ["_law_rules_here", "_law_ring", "_law_many"] (defScope s_l_round) := ⟨rfl, rfl, rfl, by decide +kernel, rfl, by decide +kernel, by decide +kernel⟩
abbrev gb_l_round_1 (S : Nat → List PyData → R PyData) : Vars → Out :=
  (sSet [] 3 (eFn (S 10) (aCons (eVar 0) (aCons (eVar 3) (aCons (eOp gIx (eVar 1) (eVar 5)) (aCons (eDisp1 (eOp gIx (eVar 1) (eOp gMod (eOp gAdd (eVar 5) (eC (.int 1))) (eCall gLen (aCons (eVar 1) aNil)))) (eC (.int 1))) aNil))))))
def g_l_round (S : Nat → List PyData → R PyData) : Vars → Out :=
  (sSeq (sNewV [3] 3 (eC (.dict [])))
    (sSeq (sDPutM [3] 3 (eVar 2) (eOp gIx (eVar 1) (eC (.int 0))))
    (sSeq (sSet [] 4 (eCall gDcopy (aCons (eVar 3) aNil)))
    (sSeq (sFor [] (iRange (aCons (eCall gLen (aCons (eVar 1) aNil)) aNil)) (gtName 5) (gb_l_round_1 S))
    (sRet (eOp gDeqX (eVar 3) (eVar 4)))))))
abbrev s_law : Stmt := top 44
abbrev N_law : List Str := ["_law_script", "_law_kinds", "_law_rules_here", "_law_heap_here", "_law_told", "_law_cell", "_law_kind", "_law_given_here", "_law_handed", "_law_found", "_law_number_here", "_law_many"]
theorem sc_law : FnScope N_law ["_law_script"] (defScope s_law) := ⟨rfl, rfl, rfl, by decide +kernel, rfl, by decide +kernel, by decide +kernel⟩
abbrev gb_law_1 (S : Nat → List PyData → R PyData) : Vars → Out :=
  (sSeq (sSet [] 6 (eOp gIx (eVar 1) (eOp gMod (eVar 5) (eCall gLen (aCons (eVar 1) aNil))))) (sSeq (sSet [] 7 (eFn (S 17) (aCons (eOp gDiv (eVar 5) (eC (.int 10))) (aCons (eVar 6) (aCons (eVar 2) (aCons (eVar 1) aNil)))))) (sSeq (sSet [] 8 (eLst (aCons (eCall gDcopy (aCons (eVar 3) aNil)) (aCons (eCall gDcopy (aCons (eVar 7) aNil)) aNil)))) (sSeq (sSet [] 9 (eFn (S 22) (aCons (eVar 2) (aCons (eOp gIx (eVar 8) (eC (.int 0))) (aCons (eVar 6) (aCons (eOp gIx (eVar 8) (eC (.int 1))) aNil)))))) (sSeq (sIf (tOf (eOp gNeLD (eVar 8) (eLst (aCons (eVar 3) (aCons (eVar 7) aNil))))) (sRet (eC (.bool false))) sNil) (sIf (tNotR (tTru (eFn (S 18) (aCons (eVar 2) (aCons (eVar 3) (aCons (eVar 6) (aCons (eVar 7) aNil))))))) (sIf (tOrR (tOf (eOp gNotN (eVar 9) (eC .none))) (tNotR (tTru (eFn (S 23) (aCons (eVar 2) (aCons (eVar 3) (aCons (eVar 6) (aCons (eVar 7) aNil)))))))) (sRet (eC (.bool false))) sNil) (sSeq (sIf (tOrR (tNotR (tTru (eIsi "dict" (eVar 9)))) (tOf (eOp gDneX (eVar 9) (eFn (S 19) (aCons (eVar 3) (aCons (eVar 6) (aCons (eVar 7) aNil))))))) (sRet (eC (.bool false))) sNil) (sSeq (sIf (tOf (eOp gGt (eCall gLen (aCons (eLc (iDict 9 itV) (gtName 11) (tNotR (tTru (eFn (S 12) (aCons (eVar 11) aNil)))) (eVar 11) [11]) aNil)) (eC (.int 0)))) (sRet (eC (.bool false))) sNil) (sSeq (sIf (tOf (eOp gEq (eOp gIx (eVar 4) (eC (.int 0))) (eC (.str "ranks")))) (sSeq (sSet [] 10 (eFn (S 9) (aCons (eOp gIx (eVar 4) (eC (.int 1))) (aCons (eVar 9) aNil)))) (sIf (tOrR (tOf (eOp gNe (eVar 10) (eFn (S 20) (aCons (eOp gIx (eVar 4) (eC (.int 1))) (aCons (eVar 9) aNil))))) (tNotR (tTru (eFn (S 21) (aCons (eVar 10) (aCons (eFn (S 20) (aCons (eOp gIx (eVar 4) (eC (.int 1))) (aCons (eVar 3) aNil))) aNil)))))) (sRet (eC (.bool false))) sNil)) sNil) (sSet [] 3 (eCall gDcopy (aCons (eVar 9) aNil))))))))))))
def g_law (S : Nat → List PyData → R PyData) : Vars → Out :=
  (sSeq (sSet [] 1 (eLst (aCons (eC (.str "hoe")) (aCons (eC (.str "rake")) (aCons (eC (.str "pail")) (aCons (eC (.str "saw")) (aCons (eC (.str "axe")) (aCons (eC (.str "line")) (aCons (eC (.str "ra")) (aCons (eC (.str "sawbench")) (aCons (eC (.str "b")) (aCons (eC (.str "pa")) aNil))))))))))))
    (sSeq (sSet [] 1 (eSl (eVar 1) oNone (oSome (eOp gAdd (eC (.int 2)) (eOp gMod (eFn (S 11) (aCons (eVar 0) (aCons (eC (.int 0)) aNil))) (eC (.int 9)))))))
    (sSeq (sSet [] 2 (eFn (S 14) (aCons (eVar 0) (aCons (eVar 1) aNil))))
    (sSeq (sSet [] 3 (eFn (S 15) (aCons (eVar 0) (aCons (eVar 1) aNil))))
    (sSeq (sSet [] 4 (eFn (S 8) (aCons (eVar 2) aNil)))
    (sSeq (sIf (tOf (eOp gEq (eOp gIx (eVar 4) (eC (.int 0))) (eC (.str "ranks")))) (sSet [] 3 (eFn (S 16) (aCons (eVar 3) (aCons (eOp gIx (eVar 4) (eC (.int 1))) aNil)))) sNil)
    (sSeq (sIf (tAndR (tOf (eOp gEq (eOp gIx (eVar 4) (eC (.int 0))) (eC (.str "ring")))) (tNotR (tTru (eFn (S 24) (aCons (eVar 2) (aCons (eOp gIx (eVar 4) (eC (.int 1))) (aCons (eOp gAdd (eC (.int 1)) (eOp gMod (eOp gDiv (eFn (S 11) (aCons (eVar 0) (aCons (eC (.int 11)) aNil))) (eC (.int 18))) (eOp gPow (eC (.int 10)) (eC (.int 50))))) aNil))))))) (sRet (eC (.bool false))) sNil)
    (sSeq (sFor [] (iSeq (eSl (eVar 0) (oSome (eC (.int 22))) (oSome (eC (.int 62))))) (gtName 5) (gb_law_1 S))
    (sRet (eC (.bool true)))))))))))
section
variable {P : Program} {w : World} {K : PySem.W.Frag} {mg : Str → Option Value} {base : Heap}
theorem b_is_whole {k : Nat} {S : Nat → List PyData → R PyData} {f : Addr} {cdv : Value} {A : Around} {outer : List Env} {s : Shared} {H : Hp} {E : XK} (hr : Room k (A.deeper (envOfC "is_whole" (defScope s_is_whole) s.heap.objs.size f cdv))) (m_bool : mg "bool" = none) (m_int : mg "int" = none) (m_isinstance : mg "isinstance" = none) :
    BX (cxOf (L2.CX P w) P w K mg base N_is_whole "is_whole" (defScope s_is_whole) f cdv A outer s H E) E [] (defBody s_is_whole) (g_is_whole S) :=
  (BX.of (own := []) (ssx_one (sx_ret (ex_and (ex_isi kit_int rfl m_isinstance rfl m_int (by decide +kernel) (ex_var 0)) (ex_and (ex_not (ex_isi kit_bool rfl m_isinstance rfl m_bool (by decide +kernel) (ex_var 0))) (ex_one (ex_cmp op_ge op2_cmp (ex_var 0) ex_int (nomark _))))))))
theorem b_compare {k : Nat} {S : Nat → List PyData → R PyData} {f : Addr} {cdv : Value} {A : Around} {outer : List Env} {s : Shared} {H : Hp} {E : XK} (hr : Room k (A.deeper (envOfC "compare" (defScope s_compare) s.heap.objs.size f cdv))) (c_compare : Cal P w K mg base k "compare" 2 (S 1)) (m_len : mg "len" = none) (m_zip : mg "zip" = none) :
    BX (cxOf (L2.CX P w) P w K mg base N_compare "compare" (defScope s_compare) f cdv A outer s H E) E [] (defBody s_compare) (g_compare S) :=
  (BX.cons (own := []) (own' := []) (sx_for passD rfl (ix_zip rfl m_zip (ax_cons (ex_var 0) (ax_cons (ex_var 1) ax_nil))) (gx_tup rfl (gsx_cons (gx_name (i := 2) sc_compare.nd rfl (by first | exact Or.inl rfl | exact Or.inr rfl)) (gsx_cons (gx_name (i := 3) sc_compare.nd rfl (by first | exact Or.inl rfl | exact Or.inr rfl)) gsx_nil))) (gtTup_in (gtCons_in (gtName_in 2) (gtCons_in (gtName_in 3) gtNil_in))) rfl (ssx_cons (sx_set (i := 4) sc_compare.nd rfl (by first | exact Or.inl rfl | exact Or.inr rfl) (ex_fn takesD c_compare hr rfl (ax_cons (ex_ix ix_seq op2_ix (ex_var 2) ex_int (fun _ _ => rfl)) (ax_cons (ex_ix ix_seq op2_ix (ex_var 3) ex_int (fun _ _ => rfl)) ax_nil)) rfl (hlen := aCons_len (aCons_len (fun _ _ h => aNil_len h)))) rfl) (ssx_cons (sx_if (tx_cmp (op_neX hr.un190) op2_ne (ex_var 4) ex_int (nomark _)) (ssx_one (sx_ret (ex_var 4))) ssx_nil) (ssx_one (sx_if (tx_cmp (op_neX hr.un190) op2_ne (ex_ix ix_seq op2_ix (ex_var 2) ex_int (fun _ _ => rfl)) (ex_ix ix_seq op2_ix (ex_var 3) ex_int (fun _ _ => rfl)) (nomark _)) (ssx_one (sx_ret (ex_if (tx_cmp op_gt op2_cmp (ex_ix ix_seq op2_ix (ex_var 2) ex_int (fun _ _ => rfl)) (ex_ix ix_seq op2_ix (ex_var 3) ex_int (fun _ _ => rfl)) (nomark _)) ex_int (ex_neg ex_int)))) ssx_nil)))))
    (BX.cons (own := []) (own' := []) (sx_if (tx_cmp (op_eqX hr.un190) op2_eq (ex_callB call_len calld_len rfl m_len (by decide +kernel) (ax_cons (ex_var 0) ax_nil)) (ex_callB call_len calld_len rfl m_len (by decide +kernel) (ax_cons (ex_var 1) ax_nil)) (nomark _)) (ssx_one (sx_ret ex_int)) ssx_nil)
    (BX.of (own := []) (ssx_one (sx_ret (ex_if (tx_cmp op_gt op2_cmp (ex_callB call_len calld_len rfl m_len (by decide +kernel) (ax_cons (ex_var 0) ax_nil)) (ex_callB call_len calld_len rfl m_len (by decide +kernel) (ax_cons (ex_var 1) ax_nil)) (nomark _)) ex_int (ex_neg ex_int))))) rfl) rfl)
theorem b_whole {k : Nat} {S : Nat → List PyData → R PyData} {f : Addr} {cdv : Value} {A : Around} {outer : List Env} {s : Shared} {H : Hp} {E : XK} (hr : Room k (A.deeper (envOfC "whole" (defScope s_whole) s.heap.objs.size f cdv))) (c_raised : Cal P w K mg base k "raised" 2 (S 3)) :
    BX (cxOf (L2.CX P w) P w K mg base N_whole "whole" (defScope s_whole) f cdv A outer s H E) E [] (defBody s_whole) (g_whole S) :=
  (BX.of (own := []) (ssx_one (sx_ret (ex_fn takesD c_raised hr rfl (ax_cons (ex_tup ax_nil) (ax_cons (ex_var 0) ax_nil)) rfl (hlen := aCons_len (aCons_len (fun _ _ h => aNil_len h)))))))
theorem b_raised {k : Nat} {S : Nat → List PyData → R PyData} {f : Addr} {cdv : Value} {A : Around} {outer : List Env} {s : Shared} {H : Hp} {E : XK} (hr : Room k (A.deeper (envOfC "raised" (defScope s_raised) s.heap.objs.size f cdv))) (c_is_whole : Cal P w K mg base k "is_whole" 1 (S 0)) (e_NoNumber : ErrF K mg "NoNumber") :
    BX (cxOf (L2.CX P w) P w K mg base N_raised "raised" (defScope s_raised) f cdv A outer s H E) E [] (defBody s_raised) (g_raised S) :=
  (BX.cons (own := []) (own' := []) (sx_if (tx_not (tx_tru (ex_fn takesD c_is_whole hr rfl (ax_cons (ex_var 1) ax_nil) rfl (hlen := aCons_len (fun _ _ h => aNil_len h))))) (ssx_one (sx_raise rfl takesD e_NoNumber rfl)) ssx_nil)
    (BX.cons (own := []) (own' := []) (sx_if (tx_cmp (op_eqX hr.un190) op2_eq (ex_var 1) ex_int (nomark _)) (ssx_one (sx_ret (ex_tup ax_nil))) ssx_nil)
    (BX.of (own := []) (ssx_one (sx_ret (ex_tup (ax_cons (ex_tup (ax_cons (ex_var 0) (ax_cons (ex_var 1) ax_nil))) ax_nil))))) rfl) rfl)
theorem b_merged {k : Nat} {S : Nat → List PyData → R PyData} {f : Addr} {cdv : Value} {A : Around} {outer : List Env} {s : Shared} {H : Hp} {E : XK} (hr : Room k (A.deeper (envOfC "merged" (defScope s_merged) s.heap.objs.size f cdv))) (c_compare : Cal P w K mg base k "compare" 2 (S 1)) (m_len : mg "len" = none) (m_tuple : mg "tuple" = none) :
    BX (cxOf (L2.CX P w) P w K mg base N_merged "merged" (defScope s_merged) f cdv A outer s H E) E [2] (defBody s_merged) (g_merged S) :=
  (BX.cons (own := [2]) (own' := [2]) (sx_new (i := 2) sc_merged.nd rfl (by first | exact Or.inl rfl | exact Or.inr rfl) (nx_lst ax_nil) rfl)
    (BX.cons (own := [2]) (own' := [2]) (sx_setM (i := 3) sc_merged.nd rfl (by first | exact Or.inl rfl | exact Or.inr rfl) ex_int rfl)
    (BX.cons (own := [2]) (own' := [2]) (sx_setM (i := 4) sc_merged.nd rfl (by first | exact Or.inl rfl | exact Or.inr rfl) ex_int rfl)
    (BX.cons (own := [2]) (own' := []) (sx_while wfuel passD (WX'.tx (wx_and (tx_cmp op_lt op2_cmp (ex_var 3) (ex_callB call_len calld_len rfl m_len (by decide +kernel) (ax_cons (ex_var 0) ax_nil)) (nomark _)) (wx_and1 (tx_cmp op_lt op2_cmp (ex_var 4) (ex_callB call_len calld_len rfl m_len (by decide +kernel) (ax_cons (ex_var 1) ax_nil)) (nomark _))))) (ssx_cons (sx_setM (i := 5) sc_merged.nd rfl (by first | exact Or.inl rfl | exact Or.inr rfl) (ex_fn takesD c_compare hr rfl (ax_cons (ex_ix ix_seq op2_ix (ex_ix ix_seq op2_ix (ex_var 0) (ex_var 3) (fun _ _ => rfl)) ex_int (fun _ _ => rfl)) (ax_cons (ex_ix ix_seq op2_ix (ex_ix ix_seq op2_ix (ex_var 1) (ex_var 4) (fun _ _ => rfl)) ex_int (fun _ _ => rfl)) ax_nil)) rfl (hlen := aCons_len (aCons_len (fun _ _ h => aNil_len h)))) rfl) (ssx_one (sx_if (tx_cmp (op_eqX hr.un190) op2_eq (ex_var 5) ex_int (nomark _)) (ssx_cons (sx_appM (i := 2) (ex_ix ix_seq op2_ix (ex_var 0) (ex_var 3) (fun _ _ => rfl)) rfl) (ssx_one (sx_aug (i := 3) sc_merged.nd rfl (by first | exact Or.inl rfl | exact Or.inr rfl) ipx_addI ex_int rfl))) (ssx_one (sx_if (tx_cmp (op_eqX hr.un190) op2_eq (ex_var 5) (ex_neg ex_int) (nomark _)) (ssx_cons (sx_appM (i := 2) (ex_ix ix_seq op2_ix (ex_var 1) (ex_var 4) (fun _ _ => rfl)) rfl) (ssx_one (sx_aug (i := 4) sc_merged.nd rfl (by first | exact Or.inl rfl | exact Or.inr rfl) ipx_addI ex_int rfl))) (ssx_cons (sx_appM (i := 2) (ex_tup (ax_cons (ex_ix ix_seq op2_ix (ex_ix ix_seq op2_ix (ex_var 0) (ex_var 3) (fun _ _ => rfl)) ex_int (fun _ _ => rfl)) (ax_cons (ex_op opr_add op2_add (ex_ix ix_seq op2_ix (ex_ix ix_seq op2_ix (ex_var 0) (ex_var 3) (fun _ _ => rfl)) ex_int (fun _ _ => rfl)) (ex_ix ix_seq op2_ix (ex_ix ix_seq op2_ix (ex_var 1) (ex_var 4) (fun _ _ => rfl)) ex_int (fun _ _ => rfl))) ax_nil))) rfl) (ssx_cons (sx_aug (i := 3) sc_merged.nd rfl (by first | exact Or.inl rfl | exact Or.inr rfl) ipx_addI ex_int rfl) (ssx_one (sx_aug (i := 4) sc_merged.nd rfl (by first | exact Or.inl rfl | exact Or.inr rfl) ipx_addI ex_int rfl))))))))))
    (BX.of (own := []) (ssx_one (sx_ret (ex_op opr_add op2_add (ex_op opr_add op2_add (ex_callT call_tuple_of calld_tuple rfl m_tuple (by decide +kernel) (ax_cons (ex_var 2) ax_nil)) (ex_slice (ex_var 0) (ox_some (ex_var 3)) ox_none)) (ex_slice (ex_var 1) (ox_some (ex_var 4)) ox_none))))) rfl) rfl) rfl) rfl)
theorem b_kinds_of {k : Nat} {S : Nat → List PyData → R PyData} {f : Addr} {cdv : Value} {A : Around} {outer : List Env} {s : Shared} {H : Hp} {E : XK} (hr : Room k (A.deeper (envOfC "kinds_of" (defScope s_kinds_of) s.heap.objs.size f cdv))) (m_list : mg "list" = none) :
    BX (cxOf (L2.CX P w) P w K mg base N_kinds_of "kinds_of" (defScope s_kinds_of) f cdv A outer s H E) E [1] (defBody s_kinds_of) (g_kinds_of S) :=
  (BX.cons (own := [1]) (own' := [1]) (sx_newV (i := 1) sc_kinds_of.nd rfl (by first | exact Or.inl rfl | exact Or.inr rfl) nv_dict0 rfl)
    (BX.cons (own := [1]) (own' := []) (sx_forDP (rr := false) walkI passD rfl (fun h => pi_itemsD h) (exd_var 0) (by decide) (gx_tup rfl (gsx_cons (gx_name (i := 2) sc_kinds_of.nd rfl (by first | exact Or.inl rfl | exact Or.inr rfl)) (gsx_cons (gx_name (i := 3) sc_kinds_of.nd rfl (by first | exact Or.inl rfl | exact Or.inr rfl)) gsx_nil))) (gtTup_in (gtCons_in (gtName_in 2) (gtCons_in (gtName_in 3) gtNil_in))) rfl (ssx_cons (sx_dputM (i := 1) (hu_of hr) ex_bl (ex_var 2) rfl) (ssx_one (sx_for passD rfl (ix_seq (ex_var 3)) (gx_name (i := 4) sc_kinds_of.nd rfl (by first | exact Or.inl rfl | exact Or.inr rfl)) (gtName_in 4) rfl (ssx_one (sx_dputM (i := 1) (hu_of hr) ex_bl (ex_var 4) rfl))))))
    (BX.of (own := []) (ssx_one (sx_ret (ex_callT (call_listD rfl) calld_listK rfl m_list (by decide +kernel) (ax_cons (ex_var 1) ax_nil))))) rfl) rfl)
theorem b_next_rank {k : Nat} {S : Nat → List PyData → R PyData} {f : Addr} {cdv : Value} {A : Around} {outer : List Env} {s : Shared} {H : Hp} {E : XK} (hr : Room k (A.deeper (envOfC "next_rank" (defScope s_next_rank) s.heap.objs.size f cdv))) (m_max : mg "max" = none) :
    BX (cxOf (L2.CX P w) P w K mg base N_next_rank "next_rank" (defScope s_next_rank) f cdv A outer s H E) E [] (defBody s_next_rank) (g_next_rank S) :=
  (BX.cons (own := []) (own' := []) (sx_set (i := 2) sc_next_rank.nd rfl (by first | exact Or.inl rfl | exact Or.inr rfl) ex_int rfl)
    (BX.cons (own := []) (own' := []) (sx_for passD rfl (ix_seq (ex_var 0)) (gx_name (i := 3) sc_next_rank.nd rfl (by first | exact Or.inl rfl | exact Or.inr rfl)) (gtName_in 3) rfl (ssx_cons (sx_if (tx_dnin (hu_of hr) (ex_var 3) (ex_var 1)) (ssx_one (sx_ret ex_non)) ssx_nil) (ssx_one (sx_set (i := 2) sc_next_rank.nd rfl (by first | exact Or.inl rfl | exact Or.inr rfl) (ex_callB (call_max2 rfl) calld_max2 rfl m_max (by decide +kernel) (ax_cons (ex_var 2) (ax_cons (ex_op opr_add op2_add (ex_dix (hu_of hr) (ex_var 1) (ex_var 3)) ex_int) ax_nil))) rfl))))
    (BX.of (own := []) (ssx_one (sx_ret (ex_var 2)))) rfl) rfl)
theorem b_ring_from {k : Nat} {S : Nat → List PyData → R PyData} {f : Addr} {cdv : Value} {A : Around} {outer : List Env} {s : Shared} {H : Hp} {E : XK} (hr : Room k (A.deeper (envOfC "ring_from" (defScope s_ring_from) s.heap.objs.size f cdv)))  :
    BX (cxOf (L2.CX P w) P w K mg base N_ring_from "ring_from" (defScope s_ring_from) f cdv A outer s H E) E [3] (defBody s_ring_from) (g_ring_from S) :=
  (BX.cons (own := [3]) (own' := [3]) (sx_new (i := 3) sc_ring_from.nd rfl (by first | exact Or.inl rfl | exact Or.inr rfl) (nx_lst (ax_cons (ex_var 0) ax_nil)) rfl)
    (BX.of (own := [3]) (ssx_one (sx_while wfuel passD (tx_tru ex_bl) (ssx_cons (sx_setM (i := 4) sc_ring_from.nd rfl (by first | exact Or.inl rfl | exact Or.inr rfl) ex_non rfl) (ssx_cons (sx_forM (hu_of hr) passD rfl (ex_var 1) (ex_ix ix_seq op2_ix (ex_var 3) (ex_neg ex_int) (fun _ _ => rfl)) (gx_name (i := 5) sc_ring_from.nd rfl (by first | exact Or.inl rfl | exact Or.inr rfl)) (gtName_in 5) rfl (ssx_one (sx_if (WX'.tx (wx_and (tx_dnin (hu_of hr) (ex_var 5) (ex_var 2)) (wx_and1 (tx_cmp op_isN op2_isN (ex_var 4) ex_non (nomark _))))) (ssx_one (sx_setM (i := 4) sc_ring_from.nd rfl (by first | exact Or.inl rfl | exact Or.inr rfl) (ex_var 5) rfl)) ssx_nil)) (fun _ _ => rfl)) (ssx_cons (sx_if (tx_cmp (op_inD (units65 hr)) op2_inL (ex_var 4) (ex_var 3) rfl) (ssx_one (sx_ret (ex_slice (ex_var 3) (ox_some (ex_idx (units65 hr) (ex_var 3) (ex_var 4))) ox_none))) ssx_nil) (ssx_one (sx_appM (i := 3) (ex_var 4) rfl)))))))) rfl)
theorem b_ranks {k : Nat} {S : Nat → List PyData → R PyData} {f : Addr} {cdv : Value} {A : Around} {outer : List Env} {s : Shared} {H : Hp} {E : XK} (hr : Room k (A.deeper (envOfC "ranks" (defScope s_ranks) s.heap.objs.size f cdv))) (c_kinds_of : Cal P w K mg base k "kinds_of" 1 (S 5)) (c_next_rank : Cal P w K mg base k "next_rank" 2 (S 6)) (c_ring_from : Cal P w K mg base k "ring_from" 3 (S 7)) (m_len : mg "len" = none) (m_range : mg "range" = none) :
    BX (cxOf (L2.CX P w) P w K mg base N_ranks "ranks" (defScope s_ranks) f cdv A outer s H E) E [1] (defBody s_ranks) (g_ranks S) :=
  (BX.cons (own := [1]) (own' := [1]) (sx_newV (i := 1) sc_ranks.nd rfl (by first | exact Or.inl rfl | exact Or.inr rfl) nv_dict0 rfl)
    (BX.cons (own := [1]) (own' := [1]) (sx_setM (i := 2) sc_ranks.nd rfl (by first | exact Or.inl rfl | exact Or.inr rfl) (ex_fn takesD c_kinds_of hr rfl (ax_cons (ex_var 0) ax_nil) rfl (hlen := aCons_len (fun _ _ h => aNil_len h))) rfl)
    (BX.cons (own := [1]) (own' := []) (sx_for passD rfl (ix_range1 rfl m_range (ax_cons (ex_callB call_len calld_len rfl m_len (by decide +kernel) (ax_cons (ex_var 2) ax_nil)) ax_nil) (hl := aCons_len (fun _ _ h => aNil_len h))) (gx_name (i := 3) sc_ranks.nd rfl (by first | exact Or.inl rfl | exact Or.inr rfl)) (gtName_in 3) rfl (ssx_one (sx_for passD rfl (ix_seq (ex_var 2)) (gx_name (i := 4) sc_ranks.nd rfl (by first | exact Or.inl rfl | exact Or.inr rfl)) (gtName_in 4) rfl (ssx_one (sx_if (tx_dnin (hu_of hr) (ex_var 4) (ex_var 1)) (ssx_cons (sx_set (i := 5) sc_ranks.nd rfl (by first | exact Or.inl rfl | exact Or.inr rfl) (ex_fn takesD c_next_rank hr rfl (ax_cons (ex_dget (hu_of hr) (ex_var 0) (ex_var 4) (ex_lst ax_nil)) (ax_cons (ex_var 1) ax_nil)) rfl (hlen := aCons_len (aCons_len (fun _ _ h => aNil_len h)))) rfl) (ssx_one (sx_if (tx_cmp op_notN op2_notN (ex_var 5) ex_non (nomark _)) (ssx_one (sx_dputM (i := 1) (hu_of hr) (ex_var 5) (ex_var 4) rfl)) ssx_nil))) ssx_nil)))))
    (BX.cons (own := []) (own' := []) (sx_for passD rfl (ix_seq (ex_var 2)) (gx_name (i := 4) sc_ranks.nd rfl (by first | exact Or.inl rfl | exact Or.inr rfl)) (gtName_in 4) rfl (ssx_one (sx_if (tx_dnin (hu_of hr) (ex_var 4) (ex_var 1)) (ssx_one (sx_ret (ex_tup (ax_cons ex_str (ax_cons (ex_fn takesD c_ring_from hr rfl (ax_cons (ex_var 4) (ax_cons (ex_var 0) (ax_cons (ex_var 1) ax_nil))) rfl (hlen := aCons_len (aCons_len (aCons_len (fun _ _ h => aNil_len h))))) ax_nil))))) ssx_nil)))
    (BX.of (own := []) (ssx_one (sx_ret (ex_tup (ax_cons ex_str (ax_cons (ex_var 1) ax_nil)))))) rfl) rfl) rfl) rfl)
theorem b_heap_number {k : Nat} {S : Nat → List PyData → R PyData} {f : Addr} {cdv : Value} {A : Around} {outer : List Env} {s : Shared} {H : Hp} {E : XK} (hr : Room k (A.deeper (envOfC "heap_number" (defScope s_heap_number) s.heap.objs.size f cdv))) (c_merged : Cal P w K mg base k "merged" 2 (S 4)) (c_raised : Cal P w K mg base k "raised" 2 (S 3)) (c_whole : Cal P w K mg base k "whole" 1 (S 2)) :
    BX (cxOf (L2.CX P w) P w K mg base N_heap_number "heap_number" (defScope s_heap_number) f cdv A outer s H E) E [] (defBody s_heap_number) (g_heap_number S) :=
  (BX.cons (own := []) (own' := []) (sx_set (i := 2) sc_heap_number.nd rfl (by first | exact Or.inl rfl | exact Or.inr rfl) (ex_tup ax_nil) rfl)
    (BX.cons (own := []) (own' := []) (sx_forDP (rr := false) walkI passD rfl (fun h => pi_itemsD h) (exd_var 1) (by decide) (gx_tup rfl (gsx_cons (gx_name (i := 3) sc_heap_number.nd rfl (by first | exact Or.inl rfl | exact Or.inr rfl)) (gsx_cons (gx_name (i := 4) sc_heap_number.nd rfl (by first | exact Or.inl rfl | exact Or.inr rfl)) gsx_nil))) (gtTup_in (gtCons_in (gtName_in 3) (gtCons_in (gtName_in 4) gtNil_in))) rfl (ssx_one (sx_set (i := 2) sc_heap_number.nd rfl (by first | exact Or.inl rfl | exact Or.inr rfl) (ex_fn takes0 c_merged hr rfl (ax_cons (ex_var 2) (ax_cons (ex_fn takes0 c_raised hr rfl (ax_cons (ex_fn takes0 c_whole hr rfl (ax_cons (ex_dix (hu_of hr) (ex_var 0) (ex_var 3)) ax_nil) rfl (hlen := aCons_len (fun _ _ h => aNil_len h))) (ax_cons (ex_var 4) ax_nil)) rfl (hlen := aCons_len (aCons_len (fun _ _ h => aNil_len h)))) ax_nil)) rfl (hlen := aCons_len (aCons_len (fun _ _ h => aNil_len h)))) rfl)))
    (BX.of (own := []) (ssx_one (sx_ret (ex_var 2)))) rfl) rfl)
theorem b_exchange {k : Nat} {S : Nat → List PyData → R PyData} {f : Addr} {cdv : Value} {A : Around} {outer : List Env} {s : Shared} {H : Hp} {E : XK} (hr : Room k (A.deeper (envOfC "exchange" (defScope s_exchange) s.heap.objs.size f cdv))) (m_dict : mg "dict" = none) (e_NoChore : ErrF K mg "NoChore") :
    BX (cxOf (L2.CX P w) P w K mg base N_exchange "exchange" (defScope s_exchange) f cdv A outer s H E) E [6, 7] (defBody s_exchange) (g_exchange S) :=
  (BX.cons (own := [6, 7]) (own' := [6, 7]) (sx_if (WX'.tx (wx_or (tx_dnin (hu_of hr) (ex_var 2) (ex_var 0)) (wx_or1 (tx_cmp (op_eqX hr.un190) op2_eq (ex_dget (hu_of hr) (ex_var 1) (ex_var 2) ex_int) ex_int (nomark _))))) (ssx_one (sx_raise rfl takesD e_NoChore rfl)) ssx_nil)
    (BX.cons (own := [6, 7]) (own' := [6, 7]) (sx_forDE walkI passD rfl (fun h => pi_itemsD h) (exd_var 3) (gx_tup rfl (gsx_cons (gx_name (i := 4) sc_exchange.nd rfl (by first | exact Or.inl rfl | exact Or.inr rfl)) (gsx_cons (gx_name (i := 5) sc_exchange.nd rfl (by first | exact Or.inl rfl | exact Or.inr rfl)) gsx_nil))) (gtTup_in (gtCons_in (gtName_in 4) (gtCons_in (gtName_in 5) gtNil_in))) rfl (ssx_one (sx_if (WX'.tx (wx_and (tx_cmp op_gt op2_cmp (ex_var 5) ex_int (nomark _)) (wx_and1 (tx_cmp (op_notInD (units65 hr)) op2_ninL (ex_var 4) (ex_dix (hu_of hr) (ex_var 0) (ex_var 2)) rfl)))) (ssx_one (sx_raise rfl (takesL takesD) e_NoChore rfl)) ssx_nil)))
    (BX.cons (own := [6, 7]) (own' := [6, 7]) (sx_newV (i := 6) sc_exchange.nd rfl (by first | exact Or.inl rfl | exact Or.inr rfl) (nv_dcopy rfl m_dict (ax_cons (ex_var 1) ax_nil)) rfl)
    (BX.cons (own := [6, 7]) (own' := [6, 7]) (sx_dput (i := 6) (hu_of hr) (ex_op opr_sub op2_sub (ex_dix (hu_of hr) (ex_var 6) (ex_var 2)) ex_int) (ex_var 2) rfl)
    (BX.cons (own := [6, 7]) (own' := [7]) (sx_forDP (rr := false) walkI passD rfl (fun h => pi_itemsD h) (exd_var 3) (by decide) (gx_tup rfl (gsx_cons (gx_name (i := 4) sc_exchange.nd rfl (by first | exact Or.inl rfl | exact Or.inr rfl)) (gsx_cons (gx_name (i := 5) sc_exchange.nd rfl (by first | exact Or.inl rfl | exact Or.inr rfl)) gsx_nil))) (gtTup_in (gtCons_in (gtName_in 4) (gtCons_in (gtName_in 5) gtNil_in))) rfl (ssx_one (sx_dput (i := 6) (hu_of hr) (ex_op opr_add op2_add (ex_dget (hu_of hr) (ex_var 6) (ex_var 4) ex_int) (ex_var 5)) (ex_var 4) rfl)))
    (BX.cons (own := [7]) (own' := [7]) (sx_newV (i := 7) sc_exchange.nd rfl (by first | exact Or.inl rfl | exact Or.inr rfl) nv_dict0 rfl)
    (BX.cons (own := [7]) (own' := []) (sx_forDP (rr := false) walkI passD rfl (fun h => pi_itemsD h) (exd_var 6) (by decide) (gx_tup rfl (gsx_cons (gx_name (i := 4) sc_exchange.nd rfl (by first | exact Or.inl rfl | exact Or.inr rfl)) (gsx_cons (gx_name (i := 5) sc_exchange.nd rfl (by first | exact Or.inl rfl | exact Or.inr rfl)) gsx_nil))) (gtTup_in (gtCons_in (gtName_in 4) (gtCons_in (gtName_in 5) gtNil_in))) rfl (ssx_one (sx_if (tx_cmp op_gt op2_cmp (ex_var 5) ex_int (nomark _)) (ssx_one (sx_dputM (i := 7) (hu_of hr) (ex_var 5) (ex_var 4) rfl)) ssx_nil)))
    (BX.of (own := []) (ssx_one (sx_ret (ex_var 7)))) rfl) rfl) rfl) rfl) rfl) rfl) rfl)
theorem b_l_cell_at {k : Nat} {S : Nat → List PyData → R PyData} {f : Addr} {cdv : Value} {A : Around} {outer : List Env} {s : Shared} {H : Hp} {E : XK} (hr : Room k (A.deeper (envOfC "_law_cell_at" (defScope s_l_cell_at) s.heap.objs.size f cdv))) (m_len : mg "len" = none) :
    BX (cxOf (L2.CX P w) P w K mg base N_l_cell_at "_law_cell_at" (defScope s_l_cell_at) f cdv A outer s H E) E [] (defBody s_l_cell_at) (g_l_cell_at S) :=
  (BX.cons (own := []) (own' := []) (sx_if (tx_cmp op_lt op2_cmp (ex_var 1) (ex_callB call_len calld_len rfl m_len (by decide +kernel) (ax_cons (ex_var 0) ax_nil)) (nomark _)) (ssx_one (sx_ret (ex_ix ix_seq op2_ix (ex_var 0) (ex_var 1) (fun _ _ => rfl)))) ssx_nil)
    (BX.of (own := []) (ssx_one (sx_ret ex_int))) rfl)
theorem b_l_whole {k : Nat} {S : Nat → List PyData → R PyData} {f : Addr} {cdv : Value} {A : Around} {outer : List Env} {s : Shared} {H : Hp} {E : XK} (hr : Room k (A.deeper (envOfC "_law_whole" (defScope s_l_whole) s.heap.objs.size f cdv))) (m_bool : mg "bool" = none) (m_int : mg "int" = none) (m_isinstance : mg "isinstance" = none) :
    BX (cxOf (L2.CX P w) P w K mg base N_l_whole "_law_whole" (defScope s_l_whole) f cdv A outer s H E) E [] (defBody s_l_whole) (g_l_whole S) :=
  (BX.of (own := []) (ssx_one (sx_ret (ex_and (ex_isi kit_int rfl m_isinstance rfl m_int (by decide +kernel) (ex_var 0)) (ex_one (ex_not (ex_isi kit_bool rfl m_isinstance rfl m_bool (by decide +kernel) (ex_var 0))))))))
theorem b_l_amount {k : Nat} {S : Nat → List PyData → R PyData} {f : Addr} {cdv : Value} {A : Around} {outer : List Env} {s : Shared} {H : Hp} {E : XK} (hr : Room k (A.deeper (envOfC "_law_amount" (defScope s_l_amount) s.heap.objs.size f cdv)))  :
    BX (cxOf (L2.CX P w) P w K mg base N_l_amount "_law_amount" (defScope s_l_amount) f cdv A outer s H E) E [] (defBody s_l_amount) (g_l_amount S) :=
  (BX.cons (own := []) (own' := []) (sx_if (tx_cmp (op_eqX hr.un190) op2_eq (ex_op op_mod op2_mod (ex_var 0) ex_int) ex_int (nomark _)) (ssx_one (sx_ret (ex_op op_mod op2_mod (ex_op op_fdivW op2_div (ex_var 0) ex_int) (ex_op op_pow op2_pow ex_int ex_int)))) ssx_nil)
    (BX.of (own := []) (ssx_one (sx_ret (ex_op op_mod op2_mod (ex_op op_fdivW op2_div (ex_var 0) ex_int) ex_int)))) rfl)
theorem b_l_rules {k : Nat} {S : Nat → List PyData → R PyData} {f : Addr} {cdv : Value} {A : Around} {outer : List Env} {s : Shared} {H : Hp} {E : XK} (hr : Room k (A.deeper (envOfC "_law_rules" (defScope s_l_rules) s.heap.objs.size f cdv))) (c_l_cell_at : Cal P w K mg base k "_law_cell_at" 2 (S 11)) (m_len : mg "len" = none) (m_range : mg "range" = none) :
    BX (cxOf (L2.CX P w) P w K mg base N_l_rules "_law_rules" (defScope s_l_rules) f cdv A outer s H E) E [] (defBody s_l_rules) (g_l_rules S) :=
  (BX.consM (iu := 2) sc_l_rules.nd rfl (by first | exact Or.inl rfl | exact Or.inr rfl)
    (BMX.cons (mx_for (iu := 2) passD rfl (ix_range1 rfl m_range (ax_cons (ex_callB call_len calld_len rfl m_len (by decide +kernel) (ax_cons (ex_var 1) ax_nil)) ax_nil) (hl := aCons_len (fun _ _ h => aNil_len h))) (gx_name (i := 3) sc_l_rules.nd rfl (by first | exact Or.inl rfl | exact Or.inr rfl)) (gtName_in 3) rfl (msx_cons (mx_set (i := 4) sc_l_rules.nd rfl (by first | exact Or.inl rfl | exact Or.inr rfl) (ex_fn takesD c_l_cell_at hr rfl (ax_cons (ex_var 0) (ax_cons (ex_op opr_add op2_add ex_int (ex_var 3)) ax_nil)) rfl (hlen := aCons_len (aCons_len (fun _ _ h => aNil_len h)))) rfl) (msx_one (mx_if (tx_cmp (op_neX hr.un190) op2_ne (ex_op op_mod op2_mod (ex_var 4) ex_int) ex_int (nomark _)) (msx_cons (mx_set (i := 4) sc_l_rules.nd rfl (by first | exact Or.inl rfl | exact Or.inr rfl) (ex_op op_fdivW op2_div (ex_var 4) ex_int) rfl) (msx_cons (mx_putN (iu := 2) (hu_of hr) (nx_lst ax_nil) (ex_ix ix_seq op2_ix (ex_var 1) (ex_var 3) (fun _ _ => rfl))) (msx_one (mx_for (iu := 2) passD rfl (ix_range2 rfl m_range (ax_cons (ex_op opr_add op2_add (ex_var 3) ex_int) (ax_cons (ex_callB call_len calld_len rfl m_len (by decide +kernel) (ax_cons (ex_var 1) ax_nil)) ax_nil)) (hl := aCons_len (aCons_len (fun _ _ h => aNil_len h)))) (gx_name (i := 5) sc_l_rules.nd rfl (by first | exact Or.inl rfl | exact Or.inr rfl)) (gtName_in 5) rfl (msx_cons (mx_if (tx_cmp (op_neX hr.un190) op2_ne (ex_op op_mod op2_mod (ex_var 4) ex_int) ex_int (nomark _)) (msx_one (mx_mapp (iu := 2) (hu_of hr) (ex_ix ix_seq op2_ix (ex_var 1) (ex_var 3) (fun _ _ => rfl)) (ex_ix ix_seq op2_ix (ex_var 1) (ex_var 5) (fun _ _ => rfl)) (fun _ _ => rfl))) msx_nil) (msx_one (mx_set (i := 4) sc_l_rules.nd rfl (by first | exact Or.inl rfl | exact Or.inr rfl) (ex_op op_fdivW op2_div (ex_var 4) ex_int) rfl))))))) msx_nil))))
    (BMX.cons (mx_if (tx_cmp (op_eqX hr.un190) op2_eq (ex_op op_mod op2_mod (ex_fn takesD c_l_cell_at hr rfl (ax_cons (ex_var 0) (ax_cons ex_int ax_nil)) rfl (hlen := aCons_len (aCons_len (fun _ _ h => aNil_len h)))) ex_int) ex_int (nomark _)) (msx_one (mx_putN (iu := 2) (hu_of hr) (nx_lst (ax_cons (ex_ix ix_seq op2_ix (ex_var 1) (ex_op op_mod op2_mod (ex_op op_fdivW op2_div (ex_fn takesD c_l_cell_at hr rfl (ax_cons (ex_var 0) (ax_cons ex_int ax_nil)) rfl (hlen := aCons_len (aCons_len (fun _ _ h => aNil_len h)))) ex_int) (ex_callB call_len calld_len rfl m_len (by decide +kernel) (ax_cons (ex_var 1) ax_nil))) (fun _ _ => rfl)) ax_nil)) (ex_ix ix_seq op2_ix (ex_var 1) (ex_neg ex_int) (fun _ _ => rfl)))) msx_nil)
    (BMX.freeze (iu := 2) (BX.of (own := []) (ssx_one (sx_ret (ex_var 2))))))))
theorem b_l_heap {k : Nat} {S : Nat → List PyData → R PyData} {f : Addr} {cdv : Value} {A : Around} {outer : List Env} {s : Shared} {H : Hp} {E : XK} (hr : Room k (A.deeper (envOfC "_law_heap" (defScope s_l_heap) s.heap.objs.size f cdv))) (c_l_amount : Cal P w K mg base k "_law_amount" 1 (S 13)) (c_l_cell_at : Cal P w K mg base k "_law_cell_at" 2 (S 11)) (m_len : mg "len" = none) (m_range : mg "range" = none) :
    BX (cxOf (L2.CX P w) P w K mg base N_l_heap "_law_heap" (defScope s_l_heap) f cdv A outer s H E) E [2] (defBody s_l_heap) (g_l_heap S) :=
  (BX.cons (own := [2]) (own' := [2]) (sx_newV (i := 2) sc_l_heap.nd rfl (by first | exact Or.inl rfl | exact Or.inr rfl) nv_dict0 rfl)
    (BX.cons (own := [2]) (own' := []) (sx_for passD rfl (ix_range1 rfl m_range (ax_cons (ex_callB call_len calld_len rfl m_len (by decide +kernel) (ax_cons (ex_var 1) ax_nil)) ax_nil) (hl := aCons_len (fun _ _ h => aNil_len h))) (gx_name (i := 3) sc_l_heap.nd rfl (by first | exact Or.inl rfl | exact Or.inr rfl)) (gtName_in 3) rfl (ssx_cons (sx_setM (i := 4) sc_l_heap.nd rfl (by first | exact Or.inl rfl | exact Or.inr rfl) (ex_fn takesD c_l_amount hr rfl (ax_cons (ex_fn takesD c_l_cell_at hr rfl (ax_cons (ex_var 0) (ax_cons (ex_op opr_add op2_add ex_int (ex_var 3)) ax_nil)) rfl (hlen := aCons_len (aCons_len (fun _ _ h => aNil_len h)))) ax_nil) rfl (hlen := aCons_len (fun _ _ h => aNil_len h))) rfl) (ssx_one (sx_if (tx_cmp op_gt op2_cmp (ex_var 4) ex_int (nomark _)) (ssx_one (sx_dputM (i := 2) (hu_of hr) (ex_var 4) (ex_ix ix_seq op2_ix (ex_var 1) (ex_var 3) (fun _ _ => rfl)) rfl)) ssx_nil))))
    (BX.of (own := []) (ssx_one (sx_ret (ex_var 2)))) rfl) rfl)
theorem b_l_ranked {k : Nat} {S : Nat → List PyData → R PyData} {f : Addr} {cdv : Value} {A : Around} {outer : List Env} {s : Shared} {H : Hp} {E : XK} (hr : Room k (A.deeper (envOfC "_law_ranked" (defScope s_l_ranked) s.heap.objs.size f cdv)))  :
    BX (cxOf (L2.CX P w) P w K mg base N_l_ranked "_law_ranked" (defScope s_l_ranked) f cdv A outer s H E) E [2] (defBody s_l_ranked) (g_l_ranked S) :=
  (BX.cons (own := [2]) (own' := [2]) (sx_newV (i := 2) sc_l_ranked.nd rfl (by first | exact Or.inl rfl | exact Or.inr rfl) nv_dict0 rfl)
    (BX.cons (own := [2]) (own' := []) (sx_forDP (rr := false) walkI passD rfl (fun h => pi_itemsD h) (exd_var 0) (by decide) (gx_tup rfl (gsx_cons (gx_name (i := 3) sc_l_ranked.nd rfl (by first | exact Or.inl rfl | exact Or.inr rfl)) (gsx_cons (gx_name (i := 4) sc_l_ranked.nd rfl (by first | exact Or.inl rfl | exact Or.inr rfl)) gsx_nil))) (gtTup_in (gtCons_in (gtName_in 3) (gtCons_in (gtName_in 4) gtNil_in))) rfl (ssx_one (sx_if (tx_din (hu_of hr) (ex_var 3) (ex_var 1)) (ssx_one (sx_dputM (i := 2) (hu_of hr) (ex_var 4) (ex_var 3) rfl)) ssx_nil)))
    (BX.of (own := []) (ssx_one (sx_ret (ex_var 2)))) rfl) rfl)
theorem b_l_given {k : Nat} {S : Nat → List PyData → R PyData} {f : Addr} {cdv : Value} {A : Around} {outer : List Env} {s : Shared} {H : Hp} {E : XK} (hr : Room k (A.deeper (envOfC "_law_given" (defScope s_l_given) s.heap.objs.size f cdv))) (c_l_amount : Cal P w K mg base k "_law_amount" 1 (S 13)) (m_len : mg "len" = none) :
    BX (cxOf (L2.CX P w) P w K mg base N_l_given "_law_given" (defScope s_l_given) f cdv A outer s H E) E [4] (defBody s_l_given) (g_l_given S) :=
  (BX.cons (own := [4]) (own' := [4]) (sx_newV (i := 4) sc_l_given.nd rfl (by first | exact Or.inl rfl | exact Or.inr rfl) nv_dict0 rfl)
    (BX.cons (own := [4]) (own' := [4]) (sx_for passD rfl (ix_seq (ex_dget (hu_of hr) (ex_var 2) (ex_var 1) (ex_lst ax_nil))) (gx_name (i := 5) sc_l_given.nd rfl (by first | exact Or.inl rfl | exact Or.inr rfl)) (gtName_in 5) rfl (ssx_cons (sx_dputM (i := 4) (hu_of hr) (ex_fn takesD c_l_amount hr rfl (ax_cons (ex_op op_mod op2_mod (ex_op op_mulX op2_mulX (ex_var 0) ex_int) (ex_op opr_add op2_add (ex_op op_pow op2_pow ex_int ex_int) ex_int)) ax_nil) rfl (hlen := aCons_len (fun _ _ h => aNil_len h))) (ex_var 5) rfl) (ssx_one (sx_setM (i := 0) sc_l_given.nd rfl (by first | exact Or.inl rfl | exact Or.inr rfl) (ex_op op_fdivW op2_div (ex_var 0) ex_int) rfl))))
    (BX.cons (own := [4]) (own' := [4]) (sx_setM (i := 6) sc_l_given.nd rfl (by first | exact Or.inl rfl | exact Or.inr rfl) (ex_ix ix_seq op2_ix (ex_var 3) (ex_op op_mod op2_mod (ex_var 0) (ex_callB call_len calld_len rfl m_len (by decide +kernel) (ax_cons (ex_var 3) ax_nil))) (fun _ _ => rfl)) rfl)
    (BX.cons (own := [4]) (own' := []) (sx_if (WX'.tx (wx_and (tx_cmp (op_eqX hr.un190) op2_eq (ex_op op_mod op2_mod (ex_op op_fdivW op2_div (ex_var 0) ex_int) ex_int) ex_int (nomark _)) (wx_and1 (tx_dnin (hu_of hr) (ex_var 6) (ex_var 4))))) (ssx_one (sx_dputM (i := 4) (hu_of hr) (ex_op op_mod op2_mod (ex_op op_fdivW op2_div (ex_var 0) ex_int) ex_int) (ex_var 6) rfl)) ssx_nil)
    (BX.of (own := []) (ssx_one (sx_ret (ex_var 4)))) rfl) rfl) rfl) rfl)
theorem b_l_allowed {k : Nat} {S : Nat → List PyData → R PyData} {f : Addr} {cdv : Value} {A : Around} {outer : List Env} {s : Shared} {H : Hp} {E : XK} (hr : Room k (A.deeper (envOfC "_law_allowed" (defScope s_l_allowed) s.heap.objs.size f cdv)))  :
    BX (cxOf (L2.CX P w) P w K mg base N_l_allowed "_law_allowed" (defScope s_l_allowed) f cdv A outer s H E) E [] (defBody s_l_allowed) (g_l_allowed S) :=
  (BX.cons (own := []) (own' := []) (sx_if (WX'.tx (wx_or (tx_dnin (hu_of hr) (ex_var 2) (ex_var 0)) (wx_or1 (tx_dnin (hu_of hr) (ex_var 2) (ex_var 1))))) (ssx_one (sx_ret ex_bl)) ssx_nil)
    (BX.cons (own := []) (own' := []) (sx_forDP (rr := true) walkI passD rfl (fun h => pi_itemsD h) (exd_var 3) (by decide) (gx_tup rfl (gsx_cons (gx_name (i := 4) sc_l_allowed.nd rfl (by first | exact Or.inl rfl | exact Or.inr rfl)) (gsx_cons (gx_name (i := 5) sc_l_allowed.nd rfl (by first | exact Or.inl rfl | exact Or.inr rfl)) gsx_nil))) (gtTup_in (gtCons_in (gtName_in 4) (gtCons_in (gtName_in 5) gtNil_in))) rfl (ssx_one (sx_if (WX'.tx (wx_and (tx_cmp op_gt op2_cmp (ex_var 5) ex_int (nomark _)) (wx_and1 (tx_cmp (op_notInD (units65 hr)) op2_ninL (ex_var 4) (ex_dix (hu_of hr) (ex_var 0) (ex_var 2)) rfl)))) (ssx_one (sx_ret ex_bl)) ssx_nil)))
    (BX.of (own := []) (ssx_one (sx_ret ex_bl))) rfl) rfl)
theorem b_l_behind {k : Nat} {S : Nat → List PyData → R PyData} {f : Addr} {cdv : Value} {A : Around} {outer : List Env} {s : Shared} {H : Hp} {E : XK} (hr : Room k (A.deeper (envOfC "_law_behind" (defScope s_l_behind) s.heap.objs.size f cdv))) (m_int : mg "int" = none) (m_list : mg "list" = none) :
    BX (cxOf (L2.CX P w) P w K mg base N_l_behind "_law_behind" (defScope s_l_behind) f cdv A outer s H E) E [3] (defBody s_l_behind) (g_l_behind S) :=
  (BX.cons (own := [3]) (own' := [3]) (sx_newV (i := 3) sc_l_behind.nd rfl (by first | exact Or.inl rfl | exact Or.inr rfl) nv_dict0 rfl)
    (BX.cons (own := [3]) (own' := []) (sx_for passD rfl (ix_seq (ex_op opr_add op2_add (ex_callT (call_listD rfl) calld_listK rfl m_list (by decide +kernel) (ax_cons (ex_var 0) ax_nil)) (ex_callT (call_listD rfl) calld_listK rfl m_list (by decide +kernel) (ax_cons (ex_var 2) ax_nil)))) (gx_name (i := 4) sc_l_behind.nd rfl (by first | exact Or.inl rfl | exact Or.inr rfl)) (gtName_in 4) rfl (ssx_cons (sx_setM (i := 5) sc_l_behind.nd rfl (by first | exact Or.inl rfl | exact Or.inr rfl) (ex_op opr_sub op2_sub (ex_op opr_add op2_add (ex_dget (hu_of hr) (ex_var 0) (ex_var 4) ex_int) (ex_dget (hu_of hr) (ex_var 2) (ex_var 4) ex_int)) (ex_callT call_int1 calld_int rfl m_int (by decide +kernel) (ax_cons (ex_cmp (op_eqX hr.un190) op2_eq (ex_var 4) (ex_var 1) (nomark _)) ax_nil))) rfl) (ssx_one (sx_if (tx_cmp op_gt op2_cmp (ex_var 5) ex_int (nomark _)) (ssx_one (sx_dputM (i := 3) (hu_of hr) (ex_var 5) (ex_var 4) rfl)) ssx_nil))))
    (BX.of (own := []) (ssx_one (sx_ret (ex_var 3)))) rfl) rfl)
theorem b_l_number {k : Nat} {S : Nat → List PyData → R PyData} {f : Addr} {cdv : Value} {A : Around} {outer : List Env} {s : Shared} {H : Hp} {E : XK} (hr : Room k (A.deeper (envOfC "_law_number" (defScope s_l_number) s.heap.objs.size f cdv))) (m_sorted : mg "sorted" = none) (m_tuple : mg "tuple" = none) :
    BX (cxOf (L2.CX P w) P w K mg base N_l_number "_law_number" (defScope s_l_number) f cdv A outer s H E) E [2, 5] (defBody s_l_number) (g_l_number S) :=
  (BX.cons (own := [2, 5]) (own' := [2, 5]) (sx_newV (i := 2) sc_l_number.nd rfl (by first | exact Or.inl rfl | exact Or.inr rfl) nv_dict0 rfl)
    (BX.cons (own := [2, 5]) (own' := [5]) (sx_forDP (rr := false) walkI passD rfl (fun h => pi_itemsD h) (exd_var 1) (by decide) (gx_tup rfl (gsx_cons (gx_name (i := 3) sc_l_number.nd rfl (by first | exact Or.inl rfl | exact Or.inr rfl)) (gsx_cons (gx_name (i := 4) sc_l_number.nd rfl (by first | exact Or.inl rfl | exact Or.inr rfl)) gsx_nil))) (gtTup_in (gtCons_in (gtName_in 3) (gtCons_in (gtName_in 4) gtNil_in))) rfl (ssx_one (sx_dput (i := 2) (hu_of hr) (ex_op opr_add op2_add (ex_dget (hu_of hr) (ex_var 2) (ex_dix (hu_of hr) (ex_var 0) (ex_var 3)) ex_int) (ex_var 4)) (ex_dix (hu_of hr) (ex_var 0) (ex_var 3)) rfl)))
    (BX.cons (own := [5]) (own' := [5]) (sx_new (i := 5) sc_l_number.nd rfl (by first | exact Or.inl rfl | exact Or.inr rfl) (nx_lst ax_nil) rfl)
    (BX.cons (own := [5]) (own' := []) (sx_for passD rfl (ix_seq (ex_sortR rfl rfl m_sorted (ex_var 2))) (gx_name (i := 6) sc_l_number.nd rfl (by first | exact Or.inl rfl | exact Or.inr rfl)) (gtName_in 6) rfl (ssx_cons (sx_setM (i := 7) sc_l_number.nd rfl (by first | exact Or.inl rfl | exact Or.inr rfl) (ex_tup ax_nil) rfl) (ssx_cons (sx_if (tx_cmp op_gt op2_cmp (ex_var 6) ex_int (nomark _)) (ssx_one (sx_setM (i := 7) sc_l_number.nd rfl (by first | exact Or.inl rfl | exact Or.inr rfl) (ex_tup (ax_cons (ex_tup (ax_cons (ex_tup ax_nil) (ax_cons (ex_var 6) ax_nil))) ax_nil)) rfl)) ssx_nil) (ssx_one (sx_appM (i := 5) (ex_tup (ax_cons (ex_var 7) (ax_cons (ex_dix (hu_of hr) (ex_var 2) (ex_var 6)) ax_nil))) rfl)))))
    (BX.of (own := []) (ssx_one (sx_ret (ex_callT call_tuple_of calld_tuple rfl m_tuple (by decide +kernel) (ax_cons (ex_var 5) ax_nil))))) rfl) rfl) rfl) rfl)
theorem b_l_less {k : Nat} {S : Nat → List PyData → R PyData} {f : Addr} {cdv : Value} {A : Around} {outer : List Env} {s : Shared} {H : Hp} {E : XK} (hr : Room k (A.deeper (envOfC "_law_less" (defScope s_l_less) s.heap.objs.size f cdv))) (m_len : mg "len" = none) (m_min : mg "min" = none) (m_range : mg "range" = none) :
    BX (cxOf (L2.CX P w) P w K mg base N_l_less "_law_less" (defScope s_l_less) f cdv A outer s H E) E [] (defBody s_l_less) (g_l_less S) :=
  (BX.cons (own := []) (own' := []) (sx_for passD rfl (ix_range1 rfl m_range (ax_cons (ex_callB (call_min2 rfl) calld_min2 rfl m_min (by decide +kernel) (ax_cons (ex_callB call_len calld_len rfl m_len (by decide +kernel) (ax_cons (ex_var 0) ax_nil)) (ax_cons (ex_callB call_len calld_len rfl m_len (by decide +kernel) (ax_cons (ex_var 1) ax_nil)) ax_nil))) ax_nil) (hl := aCons_len (fun _ _ h => aNil_len h))) (gx_name (i := 2) sc_l_less.nd rfl (by first | exact Or.inl rfl | exact Or.inr rfl)) (gtName_in 2) rfl (ssx_cons (sx_set (i := 3) sc_l_less.nd rfl (by first | exact Or.inl rfl | exact Or.inr rfl) ex_int rfl) (ssx_cons (sx_set (i := 4) sc_l_less.nd rfl (by first | exact Or.inl rfl | exact Or.inr rfl) ex_int rfl) (ssx_cons (sx_if (tx_cmp (op_neX hr.un190) op2_ne (ex_ix ix_seq op2_ix (ex_ix ix_seq op2_ix (ex_var 0) (ex_var 2) (fun _ _ => rfl)) ex_int (fun _ _ => rfl)) (ex_tup ax_nil) (nomark _)) (ssx_one (sx_set (i := 3) sc_l_less.nd rfl (by first | exact Or.inl rfl | exact Or.inr rfl) (ex_ix ix_seq op2_ix (ex_ix ix_seq op2_ix (ex_ix ix_seq op2_ix (ex_ix ix_seq op2_ix (ex_var 0) (ex_var 2) (fun _ _ => rfl)) ex_int (fun _ _ => rfl)) ex_int (fun _ _ => rfl)) ex_int (fun _ _ => rfl)) rfl)) ssx_nil) (ssx_cons (sx_if (tx_cmp (op_neX hr.un190) op2_ne (ex_ix ix_seq op2_ix (ex_ix ix_seq op2_ix (ex_var 1) (ex_var 2) (fun _ _ => rfl)) ex_int (fun _ _ => rfl)) (ex_tup ax_nil) (nomark _)) (ssx_one (sx_set (i := 4) sc_l_less.nd rfl (by first | exact Or.inl rfl | exact Or.inr rfl) (ex_ix ix_seq op2_ix (ex_ix ix_seq op2_ix (ex_ix ix_seq op2_ix (ex_ix ix_seq op2_ix (ex_var 1) (ex_var 2) (fun _ _ => rfl)) ex_int (fun _ _ => rfl)) ex_int (fun _ _ => rfl)) ex_int (fun _ _ => rfl)) rfl)) ssx_nil) (ssx_cons (sx_if (tx_cmp (op_neX hr.un190) op2_ne (ex_var 3) (ex_var 4) (nomark _)) (ssx_one (sx_ret (ex_cmp op_lt op2_cmp (ex_var 3) (ex_var 4) (nomark _)))) ssx_nil) (ssx_one (sx_if (tx_cmp (op_neX hr.un190) op2_ne (ex_ix ix_seq op2_ix (ex_ix ix_seq op2_ix (ex_var 0) (ex_var 2) (fun _ _ => rfl)) ex_int (fun _ _ => rfl)) (ex_ix ix_seq op2_ix (ex_ix ix_seq op2_ix (ex_var 1) (ex_var 2) (fun _ _ => rfl)) ex_int (fun _ _ => rfl)) (nomark _)) (ssx_one (sx_ret (ex_cmp op_lt op2_cmp (ex_ix ix_seq op2_ix (ex_ix ix_seq op2_ix (ex_var 0) (ex_var 2) (fun _ _ => rfl)) ex_int (fun _ _ => rfl)) (ex_ix ix_seq op2_ix (ex_ix ix_seq op2_ix (ex_var 1) (ex_var 2) (fun _ _ => rfl)) ex_int (fun _ _ => rfl)) (nomark _)))) ssx_nil))))))))
    (BX.of (own := []) (ssx_one (sx_ret (ex_cmp op_lt op2_cmp (ex_callB call_len calld_len rfl m_len (by decide +kernel) (ax_cons (ex_var 0) ax_nil)) (ex_callB call_len calld_len rfl m_len (by decide +kernel) (ax_cons (ex_var 1) ax_nil)) (nomark _))))) rfl)
theorem b_l_exchanged {k : Nat} {S : Nat → List PyData → R PyData} {f : Addr} {cdv : Value} {A : Around} {outer : List Env} {s : Shared} {H : Hp} {E : XK} (hr : Room k (A.deeper (envOfC "_law_exchanged" (defScope s_l_exchanged) s.heap.objs.size f cdv))) (c_exchange : Cal P w K mg base k "exchange" 4 (S 10)) (yl_NoChore_NoChore : TryL K mg "NoChore" [("NoChore", true)]) :
    BX (cxOf (L2.CX P w) P w K mg base N_l_exchanged "_law_exchanged" (defScope s_l_exchanged) f cdv A outer s H E) E [] (defBody s_l_exchanged) (g_l_exchanged S) :=
  (BX.cons (own := []) (own' := []) (sx_set (i := 4) sc_l_exchanged.nd rfl (by first | exact Or.inl rfl | exact Or.inr rfl) ex_non rfl)
    (BX.cons (own := []) (own' := []) (sx_set (i := 5) sc_l_exchanged.nd rfl (by first | exact Or.inl rfl | exact Or.inr rfl) ex_bl rfl)
    (BX.cons (own := []) (own' := []) (sx_tryL (iv := 5) yl_NoChore_NoChore rfl (by decide) sc_l_exchanged.nd rfl (by first | exact Or.inl rfl | exact Or.inr rfl) rfl rfl rfl takesD (fun _ _ => pe_bl) (fun _ => .bl _) (fun W' pn xe tk' px => (ssx_one (sx_set (i := 4) sc_l_exchanged.nd rfl (by first | exact Or.inl rfl | exact Or.inr rfl) (ex_fn tk' c_exchange hr rfl (ax_cons (ex_var 0) (ax_cons (ex_var 1) (ax_cons (ex_var 2) (ax_cons (ex_var 3) ax_nil)))) rfl (hlen := aCons_len (aCons_len (aCons_len (aCons_len (fun _ _ h => aNil_len h)))))) rfl))))
    (BX.cons (own := []) (own' := []) (sx_if (tx_tru (ex_var 5)) (ssx_one (sx_ret ex_non)) ssx_nil)
    (BX.of (own := []) (ssx_one (sx_ret (ex_var 4)))) rfl) rfl) rfl) rfl)
theorem b_l_refused_so {k : Nat} {S : Nat → List PyData → R PyData} {f : Addr} {cdv : Value} {A : Around} {outer : List Env} {s : Shared} {H : Hp} {E : XK} (hr : Room k (A.deeper (envOfC "_law_refused_so" (defScope s_l_refused_so) s.heap.objs.size f cdv))) (c_exchange : Cal P w K mg base k "exchange" 4 (S 10)) (m_ValueError : mg "ValueError" = none) (m_isinstance : mg "isinstance" = none) (yl_HydraError_NoChore : TryL K mg "HydraError" [("NoChore", true)]) (kl_NoChore_NoChore : KitY K mg "NoChore" [("NoChore", true)]) (kl_NoFall_NoChore : KitY K mg "NoFall" [("NoChore", false)]) (kl_NoFit_NoChore : KitY K mg "NoFit" [("NoChore", false)]) (kl_NoHead_NoChore : KitY K mg "NoHead" [("NoChore", false)]) (kl_NoLimit_NoChore : KitY K mg "NoLimit" [("NoChore", false)]) (kl_NoName_NoChore : KitY K mg "NoName" [("NoChore", false)]) (kl_NoNumber_NoChore : KitY K mg "NoNumber" [("NoChore", false)]) (kl_NoRow_NoChore : KitY K mg "NoRow" [("NoChore", false)]) (kl_NoStep_NoChore : KitY K mg "NoStep" [("NoChore", false)]) (kl_NoText_NoChore : KitY K mg "NoText" [("NoChore", false)]) (kl_Nought_NoChore : KitY K mg "Nought" [("NoChore", false)]) (kl_TooGreat_NoChore : KitY K mg "TooGreat" [("NoChore", false)]) (kl_TooHigh_NoChore : KitY K mg "TooHigh" [("NoChore", false)]) (kl_ValueError_NoChore : KitB K mg [("NoChore", true)]) :
    BX (cxOf (L2.CX P w) P w K mg base N_l_refused_so "_law_refused_so" (defScope s_l_refused_so) f cdv A outer s H E) E [] (defBody s_l_refused_so) (g_l_refused_so S) :=
  (BX.cons (own := []) (own' := []) (sx_set (i := 4) sc_l_refused_so.nd rfl (by first | exact Or.inl rfl | exact Or.inr rfl) ex_bl rfl)
    (BX.cons (own := []) (own' := []) (sx_set (i := 5) sc_l_refused_so.nd rfl (by first | exact Or.inl rfl | exact Or.inr rfl) ex_bl rfl)
    (BX.cons (own := []) (own' := []) (sx_tryX (ie := 6) yl_HydraError_NoChore rfl (by decide) sc_l_refused_so.nd rfl rfl rfl rfl rfl takesD (fun c => (sxh_cons (sxh_set (iv := 4) sc_l_refused_so.nd rfl (by first | exact Or.inl rfl | exact Or.inr rfl) rfl (by decide) (exh_and (exh_isC kl_NoChore_NoChore rfl rfl m_isinstance rfl (by decide)) (exh_one (exh_isB kl_ValueError_NoChore rfl rfl m_isinstance rfl m_ValueError)))) (sxh_cons (sxh_set (iv := 5) sc_l_refused_so.nd rfl (by first | exact Or.inl rfl | exact Or.inr rfl) rfl (by decide) (exh_isT (KTs.cons kl_NoNumber_NoChore rfl (by decide) rfl (KTs.cons kl_Nought_NoChore rfl (by decide) rfl (KTs.cons kl_TooHigh_NoChore rfl (by decide) rfl (KTs.cons kl_NoLimit_NoChore rfl (by decide) rfl (KTs.cons kl_NoHead_NoChore rfl (by decide) rfl (KTs.cons kl_NoStep_NoChore rfl (by decide) rfl KTs.nil)))))) (by decide) rfl rfl m_isinstance)) (sxh_cons (sxh_if rfl (exh_isT (KTs.cons kl_NoFit_NoChore rfl (by decide) rfl (KTs.cons kl_TooGreat_NoChore rfl (by decide) rfl (KTs.cons kl_NoFall_NoChore rfl (by decide) rfl (KTs.cons kl_NoText_NoChore rfl (by decide) rfl (KTs.cons kl_NoName_NoChore rfl (by decide) rfl (KTs.cons kl_NoRow_NoChore rfl (by decide) rfl KTs.nil)))))) (by decide) rfl rfl m_isinstance) (sxh_cons (sxh_set (iv := 5) sc_l_refused_so.nd rfl (by first | exact Or.inl rfl | exact Or.inr rfl) rfl (by decide) (exh_ex (fun a pn => ex_bl))) sxh_nil)) sxh_nil)))) (fun W' pn xe tk' px => (ssx_one (sx_expr (ex_fn tk' c_exchange hr rfl (ax_cons (ex_var 0) (ax_cons (ex_var 1) (ax_cons (ex_var 2) (ax_cons (ex_var 3) ax_nil)))) rfl (hlen := aCons_len (aCons_len (aCons_len (aCons_len (fun _ _ h => aNil_len h))))))))))
    (BX.of (own := []) (ssx_one (sx_ret (ex_and (ex_var 4) (ex_one (ex_not (ex_var 5))))))) rfl) rfl) rfl)
theorem b_l_round {k : Nat} {S : Nat → List PyData → R PyData} {f : Addr} {cdv : Value} {A : Around} {outer : List Env} {s : Shared} {H : Hp} {E : XK} (hr : Room k (A.deeper (envOfC "_law_round" (defScope s_l_round) s.heap.objs.size f cdv))) (c_exchange : Cal P w K mg base k "exchange" 4 (S 10)) (m_dict : mg "dict" = none) (m_len : mg "len" = none) (m_range : mg "range" = none) :
    BX (cxOf (L2.CX P w) P w K mg base N_l_round "_law_round" (defScope s_l_round) f cdv A outer s H E) E [3] (defBody s_l_round) (g_l_round S) :=
  (BX.cons (own := [3]) (own' := [3]) (sx_newV (i := 3) sc_l_round.nd rfl (by first | exact Or.inl rfl | exact Or.inr rfl) nv_dict0 rfl)
    (BX.cons (own := [3]) (own' := []) (sx_dputM (i := 3) (hu_of hr) (ex_var 2) (ex_ix ix_seq op2_ix (ex_var 1) ex_int (fun _ _ => rfl)) rfl)
    (BX.cons (own := []) (own' := []) (sx_set (i := 4) sc_l_round.nd rfl (by first | exact Or.inl rfl | exact Or.inr rfl) (NVX.ex (nv_dcopy rfl m_dict (ax_cons (ex_var 3) ax_nil))) rfl)
    (BX.cons (own := []) (own' := []) (sx_for passD rfl (ix_range1 rfl m_range (ax_cons (ex_callB call_len calld_len rfl m_len (by decide +kernel) (ax_cons (ex_var 1) ax_nil)) ax_nil) (hl := aCons_len (fun _ _ h => aNil_len h))) (gx_name (i := 5) sc_l_round.nd rfl (by first | exact Or.inl rfl | exact Or.inr rfl)) (gtName_in 5) rfl (ssx_one (sx_set (i := 3) sc_l_round.nd rfl (by first | exact Or.inl rfl | exact Or.inr rfl) (ex_fn takesD c_exchange hr rfl (ax_cons (ex_var 0) (ax_cons (ex_var 3) (ax_cons (ex_ix ix_seq op2_ix (ex_var 1) (ex_var 5) (fun _ _ => rfl)) (ax_cons (NVX.ex (nv_disp1 (ex_ix ix_seq op2_ix (ex_var 1) (ex_op op_mod op2_mod (ex_op opr_add op2_add (ex_var 5) ex_int) (ex_callB call_len calld_len rfl m_len (by decide +kernel) (ax_cons (ex_var 1) ax_nil))) (fun _ _ => rfl)) ex_int)) ax_nil)))) rfl (hlen := aCons_len (aCons_len (aCons_len (aCons_len (fun _ _ h => aNil_len h)))))) rfl)))
    (BX.of (own := []) (ssx_one (sx_ret (ex_cmp (op_eqX' hr.un191) op2_dEqX (ex_var 3) (ex_var 4) (nomark _))))) rfl) rfl) rfl) rfl)
theorem b_law {k : Nat} {S : Nat → List PyData → R PyData} {f : Addr} {cdv : Value} {A : Around} {outer : List Env} {s : Shared} {H : Hp} {E : XK} (hr : Room k (A.deeper (envOfC "law" (defScope s_law) s.heap.objs.size f cdv))) (c_l_allowed : Cal P w K mg base k "_law_allowed" 4 (S 18)) (c_l_behind : Cal P w K mg base k "_law_behind" 3 (S 19)) (c_l_cell_at : Cal P w K mg base k "_law_cell_at" 2 (S 11)) (c_l_exchanged : Cal P w K mg base k "_law_exchanged" 4 (S 22)) (c_l_given : Cal P w K mg base k "_law_given" 4 (S 17)) (c_l_heap : Cal P w K mg base k "_law_heap" 2 (S 15)) (c_l_less : Cal P w K mg base k "_law_less" 2 (S 21)) (c_l_number : Cal P w K mg base k "_law_number" 2 (S 20)) (c_l_ranked : Cal P w K mg base k "_law_ranked" 2 (S 16)) (c_l_refused_so : Cal P w K mg base k "_law_refused_so" 4 (S 23)) (c_l_round : Cal P w K mg base k "_law_round" 3 (S 24)) (c_l_rules : Cal P w K mg base k "_law_rules" 2 (S 14)) (c_l_whole : Cal P w K mg base k "_law_whole" 1 (S 12)) (c_heap_number : Cal P w K mg base k "heap_number" 2 (S 9)) (c_ranks : Cal P w K mg base k "ranks" 1 (S 8)) (m_dict : mg "dict" = none) (m_isinstance : mg "isinstance" = none) (m_len : mg "len" = none) :
    BX (cxOf (L2.CX P w) P w K mg base N_law "law" (defScope s_law) f cdv A outer s H E) E [] (defBody s_law) (g_law S) :=
  (BX.cons (own := []) (own' := []) (sx_set (i := 1) sc_law.nd rfl (by first | exact Or.inl rfl | exact Or.inr rfl) (ex_lst (ax_cons ex_str (ax_cons ex_str (ax_cons ex_str (ax_cons ex_str (ax_cons ex_str (ax_cons ex_str (ax_cons ex_str (ax_cons ex_str (ax_cons ex_str (ax_cons ex_str ax_nil))))))))))) rfl)
    (BX.cons (own := []) (own' := []) (sx_set (i := 1) sc_law.nd rfl (by first | exact Or.inl rfl | exact Or.inr rfl) (ex_slice (ex_var 1) ox_none (ox_some (ex_op opr_add op2_add ex_int (ex_op op_mod op2_mod (ex_fn takesD c_l_cell_at hr rfl (ax_cons (ex_var 0) (ax_cons ex_int ax_nil)) rfl (hlen := aCons_len (aCons_len (fun _ _ h => aNil_len h)))) ex_int)))) rfl)
    (BX.cons (own := []) (own' := []) (sx_set (i := 2) sc_law.nd rfl (by first | exact Or.inl rfl | exact Or.inr rfl) (ex_fn takesD c_l_rules hr rfl (ax_cons (ex_var 0) (ax_cons (ex_var 1) ax_nil)) rfl (hlen := aCons_len (aCons_len (fun _ _ h => aNil_len h)))) rfl)
    (BX.cons (own := []) (own' := []) (sx_set (i := 3) sc_law.nd rfl (by first | exact Or.inl rfl | exact Or.inr rfl) (ex_fn takesD c_l_heap hr rfl (ax_cons (ex_var 0) (ax_cons (ex_var 1) ax_nil)) rfl (hlen := aCons_len (aCons_len (fun _ _ h => aNil_len h)))) rfl)
    (BX.cons (own := []) (own' := []) (sx_set (i := 4) sc_law.nd rfl (by first | exact Or.inl rfl | exact Or.inr rfl) (ex_fn takesD c_ranks hr rfl (ax_cons (ex_var 2) ax_nil) rfl (hlen := aCons_len (fun _ _ h => aNil_len h))) rfl)
    (BX.cons (own := []) (own' := []) (sx_if (tx_cmp (op_eqX hr.un190) op2_eq (ex_ix ix_seq op2_ix (ex_var 4) ex_int (fun _ _ => rfl)) ex_str (nomark _)) (ssx_one (sx_set (i := 3) sc_law.nd rfl (by first | exact Or.inl rfl | exact Or.inr rfl) (ex_fn takesD c_l_ranked hr rfl (ax_cons (ex_var 3) (ax_cons (ex_ix ix_seq op2_ix (ex_var 4) ex_int (fun _ _ => rfl)) ax_nil)) rfl (hlen := aCons_len (aCons_len (fun _ _ h => aNil_len h)))) rfl)) ssx_nil)
    (BX.cons (own := []) (own' := []) (sx_if (WX'.tx (wx_and (tx_cmp (op_eqX hr.un190) op2_eq (ex_ix ix_seq op2_ix (ex_var 4) ex_int (fun _ _ => rfl)) ex_str (nomark _)) (wx_and1 (tx_not (tx_tru (ex_fn takesD c_l_round hr rfl (ax_cons (ex_var 2) (ax_cons (ex_ix ix_seq op2_ix (ex_var 4) ex_int (fun _ _ => rfl)) (ax_cons (ex_op opr_add op2_add ex_int (ex_op op_mod op2_mod (ex_op op_fdivW op2_div (ex_fn takesD c_l_cell_at hr rfl (ax_cons (ex_var 0) (ax_cons ex_int ax_nil)) rfl (hlen := aCons_len (aCons_len (fun _ _ h => aNil_len h)))) ex_int) (ex_op op_pow op2_pow ex_int ex_int))) ax_nil))) rfl (hlen := aCons_len (aCons_len (aCons_len (fun _ _ h => aNil_len h)))))))))) (ssx_one (sx_ret ex_bl)) ssx_nil)
    (BX.cons (own := []) (own' := []) (sx_for passD rfl (ix_seq (ex_slice (ex_var 0) (ox_some ex_int) (ox_some ex_int))) (gx_name (i := 5) sc_law.nd rfl (by first | exact Or.inl rfl | exact Or.inr rfl)) (gtName_in 5) rfl (ssx_cons (sx_set (i := 6) sc_law.nd rfl (by first | exact Or.inl rfl | exact Or.inr rfl) (ex_ix ix_seq op2_ix (ex_var 1) (ex_op op_mod op2_mod (ex_var 5) (ex_callB call_len calld_len rfl m_len (by decide +kernel) (ax_cons (ex_var 1) ax_nil))) (fun _ _ => rfl)) rfl) (ssx_cons (sx_set (i := 7) sc_law.nd rfl (by first | exact Or.inl rfl | exact Or.inr rfl) (ex_fn takesD c_l_given hr rfl (ax_cons (ex_op op_fdivW op2_div (ex_var 5) ex_int) (ax_cons (ex_var 6) (ax_cons (ex_var 2) (ax_cons (ex_var 1) ax_nil)))) rfl (hlen := aCons_len (aCons_len (aCons_len (aCons_len (fun _ _ h => aNil_len h)))))) rfl) (ssx_cons (sx_set (i := 8) sc_law.nd rfl (by first | exact Or.inl rfl | exact Or.inr rfl) (ex_lst (ax_cons (NVX.ex (nv_dcopy rfl m_dict (ax_cons (ex_var 3) ax_nil))) (ax_cons (NVX.ex (nv_dcopy rfl m_dict (ax_cons (ex_var 7) ax_nil))) ax_nil))) rfl) (ssx_cons (sx_set (i := 9) sc_law.nd rfl (by first | exact Or.inl rfl | exact Or.inr rfl) (ex_fn takesD c_l_exchanged hr rfl (ax_cons (ex_var 2) (ax_cons (ex_ix ix_seq op2_ix (ex_var 8) ex_int (fun _ _ => rfl)) (ax_cons (ex_var 6) (ax_cons (ex_ix ix_seq op2_ix (ex_var 8) ex_int (fun _ _ => rfl)) ax_nil)))) rfl (hlen := aCons_len (aCons_len (aCons_len (aCons_len (fun _ _ h => aNil_len h)))))) rfl) (ssx_cons (sx_if (tx_cmp (op_neLD hr.units) op2_neLD (ex_var 8) (ex_lst (ax_cons (ex_var 3) (ax_cons (ex_var 7) ax_nil))) (nomark _)) (ssx_one (sx_ret ex_bl)) ssx_nil) (ssx_one (sx_if (tx_not (tx_tru (ex_fn takesD c_l_allowed hr rfl (ax_cons (ex_var 2) (ax_cons (ex_var 3) (ax_cons (ex_var 6) (ax_cons (ex_var 7) ax_nil)))) rfl (hlen := aCons_len (aCons_len (aCons_len (aCons_len (fun _ _ h => aNil_len h)))))))) (ssx_one (sx_if (WX'.tx (wx_or (tx_cmp op_notN op2_notN (ex_var 9) ex_non (nomark _)) (wx_or1 (tx_not (tx_tru (ex_fn takesD c_l_refused_so hr rfl (ax_cons (ex_var 2) (ax_cons (ex_var 3) (ax_cons (ex_var 6) (ax_cons (ex_var 7) ax_nil)))) rfl (hlen := aCons_len (aCons_len (aCons_len (aCons_len (fun _ _ h => aNil_len h))))))))))) (ssx_one (sx_ret ex_bl)) ssx_nil)) (ssx_cons (sx_if (WX'.tx (wx_or (tx_not (tx_tru (ex_isi kit_dict rfl m_isinstance rfl m_dict (by decide +kernel) (ex_var 9)))) (wx_or1 (tx_cmp (op_neX' hr.un191) op2_dNeX (ex_var 9) (ex_fn takesD c_l_behind hr rfl (ax_cons (ex_var 3) (ax_cons (ex_var 6) (ax_cons (ex_var 7) ax_nil))) rfl (hlen := aCons_len (aCons_len (aCons_len (fun _ _ h => aNil_len h))))) (nomark _))))) (ssx_one (sx_ret ex_bl)) ssx_nil) (ssx_cons (sx_if (tx_cmp op_gt op2_cmp (ex_callB call_len calld_len rfl m_len (by decide +kernel) (ax_cons (by exact ex_lcV (own := [("_law_many", 11)]) (i := 9) walkV (fun he => pi_valuesD he) rfl sc_law.nd (blkOk_by (N := N_law) (sc := defScope s_law) (own := [("_law_many", 11)]) (by decide +kernel)) (by exact fun _ _ _ _ _ => (gx_name (i := 11) sc_law.nd rfl (by first | exact Or.inl rfl | exact Or.inr rfl))) (by exact fun _ _ _ _ _ => (tsx_one (tx_not (tx_tru (ex_fn takes0 c_l_whole hr rfl (ax_cons (ex_var 11) ax_nil) rfl (hlen := aCons_len (fun _ _ h => aNil_len h))))))) (by exact fun _ _ _ _ _ => (ex_var 11)) (by decide)) ax_nil)) ex_int (nomark _)) (ssx_one (sx_ret ex_bl)) ssx_nil) (ssx_cons (sx_if (tx_cmp (op_eqX hr.un190) op2_eq (ex_ix ix_seq op2_ix (ex_var 4) ex_int (fun _ _ => rfl)) ex_str (nomark _)) (ssx_cons (sx_set (i := 10) sc_law.nd rfl (by first | exact Or.inl rfl | exact Or.inr rfl) (ex_fn takesD c_heap_number hr rfl (ax_cons (ex_ix ix_seq op2_ix (ex_var 4) ex_int (fun _ _ => rfl)) (ax_cons (ex_var 9) ax_nil)) rfl (hlen := aCons_len (aCons_len (fun _ _ h => aNil_len h)))) rfl) (ssx_one (sx_if (WX'.tx (wx_or (tx_cmp (op_neX hr.un190) op2_ne (ex_var 10) (ex_fn takesD c_l_number hr rfl (ax_cons (ex_ix ix_seq op2_ix (ex_var 4) ex_int (fun _ _ => rfl)) (ax_cons (ex_var 9) ax_nil)) rfl (hlen := aCons_len (aCons_len (fun _ _ h => aNil_len h)))) (nomark _)) (wx_or1 (tx_not (tx_tru (ex_fn takesD c_l_less hr rfl (ax_cons (ex_var 10) (ax_cons (ex_fn takesD c_l_number hr rfl (ax_cons (ex_ix ix_seq op2_ix (ex_var 4) ex_int (fun _ _ => rfl)) (ax_cons (ex_var 3) ax_nil)) rfl (hlen := aCons_len (aCons_len (fun _ _ h => aNil_len h)))) ax_nil)) rfl (hlen := aCons_len (aCons_len (fun _ _ h => aNil_len h))))))))) (ssx_one (sx_ret ex_bl)) ssx_nil))) ssx_nil) (ssx_one (sx_set (i := 3) sc_law.nd rfl (by first | exact Or.inl rfl | exact Or.inr rfl) (NVX.ex (nv_dcopy rfl m_dict (ax_cons (ex_var 9) ax_nil))) rfl)))))))))))))
    (BX.of (own := []) (ssx_one (sx_ret ex_bl))) rfl) rfl) rfl) rfl) rfl) rfl) rfl) rfl)
end
def sem : Nat → Nat → List PyData → R PyData
  | 0 => fun _ _ => .bad
  | k + 1 => fun i ds => match i with
    | 0 => fnD 1 (g_is_whole (sem k)) ds
    | 1 => fnD 5 (g_compare (sem k)) ds
    | 2 => fnD 1 (g_whole (sem k)) ds
    | 3 => fnD 2 (g_raised (sem k)) ds
    | 4 => fnD 6 (g_merged (sem k)) ds
    | 5 => fnD 5 (g_kinds_of (sem k)) ds
    | 6 => fnD 4 (g_next_rank (sem k)) ds
    | 7 => fnD 6 (g_ring_from (sem k)) ds
    | 8 => fnD 6 (g_ranks (sem k)) ds
    | 9 => fnD 5 (g_heap_number (sem k)) ds
    | 10 => fnD 8 (g_exchange (sem k)) ds
    | 11 => fnD 2 (g_l_cell_at (sem k)) ds
    | 12 => fnD 1 (g_l_whole (sem k)) ds
    | 13 => fnD 1 (g_l_amount (sem k)) ds
    | 14 => fnD 6 (g_l_rules (sem k)) ds
    | 15 => fnD 5 (g_l_heap (sem k)) ds
    | 16 => fnD 5 (g_l_ranked (sem k)) ds
    | 17 => fnD 7 (g_l_given (sem k)) ds
    | 18 => fnD 6 (g_l_allowed (sem k)) ds
    | 19 => fnD 6 (g_l_behind (sem k)) ds
    | 20 => fnD 8 (g_l_number (sem k)) ds
    | 21 => fnD 5 (g_l_less (sem k)) ds
    | 22 => fnD 6 (g_l_exchanged (sem k)) ds
    | 23 => fnD 7 (g_l_refused_so (sem k)) ds
    | 24 => fnD 6 (g_l_round (sem k)) ds
    | 25 => fnD 12 (g_law (sem k)) ds
    | _ => .bad
theorem sem_law (k : Nat) (ds : List PyData) : sem (k + 1) 25 ds = fnD 12 (g_law (sem k)) ds := rfl
structure Whole (K : PySem.W.Frag) (mg : Str → Option Value) : Prop where
  F_is_whole : ∃ f fd, Fun K "is_whole" "is_whole" s_is_whole f fd ∧ mg "is_whole" = some (.ref f) ∧ Binds K fd ["thing"] []
  F_compare : ∃ f fd, Fun K "compare" "compare" s_compare f fd ∧ mg "compare" = some (.ref f) ∧ Binds K fd ["a", "b"] []
  F_whole : ∃ f fd, Fun K "whole" "whole" s_whole f fd ∧ mg "whole" = some (.ref f) ∧ Binds K fd ["n"] []
  F_raised : ∃ f fd, Fun1 K "raised" s_raised 1 f fd ∧ mg "raised" = some (.ref f) ∧ Binds K fd ["exponent", "times"] [] ∧ ∃ ds, Vals [V.int 1] ds ∧ Binds K fd ["exponent", "times"] ds
  F_merged : ∃ f fd, Fun K "merged" "merged" s_merged f fd ∧ mg "merged" = some (.ref f) ∧ Binds K fd ["a", "b"] []
  F_kinds_of : ∃ f fd, Fun K "kinds_of" "kinds_of" s_kinds_of f fd ∧ mg "kinds_of" = some (.ref f) ∧ Binds K fd ["rules"] []
  F_next_rank : ∃ f fd, Fun K "next_rank" "next_rank" s_next_rank f fd ∧ mg "next_rank" = some (.ref f) ∧ Binds K fd ["others", "known"] []
  F_ring_from : ∃ f fd, Fun K "ring_from" "ring_from" s_ring_from f fd ∧ mg "ring_from" = some (.ref f) ∧ Binds K fd ["kind", "rules", "known"] []
  F_ranks : ∃ f fd, Fun K "ranks" "ranks" s_ranks f fd ∧ mg "ranks" = some (.ref f) ∧ Binds K fd ["rules"] []
  F_heap_number : ∃ f fd, Fun K "heap_number" "heap_number" s_heap_number f fd ∧ mg "heap_number" = some (.ref f) ∧ Binds K fd ["ranking", "heap"] []
  F_exchange : ∃ f fd, Fun K "exchange" "exchange" s_exchange f fd ∧ mg "exchange" = some (.ref f) ∧ Binds K fd ["rules", "heap", "kind", "given"] []
  F_l_cell_at : ∃ f fd, Fun K "_law_cell_at" "_law_cell_at" s_l_cell_at f fd ∧ mg "_law_cell_at" = some (.ref f) ∧ Binds K fd ["_law_script", "_law_k"] []
  F_l_whole : ∃ f fd, Fun K "_law_whole" "_law_whole" s_l_whole f fd ∧ mg "_law_whole" = some (.ref f) ∧ Binds K fd ["_law_found"] []
  F_l_amount : ∃ f fd, Fun K "_law_amount" "_law_amount" s_l_amount f fd ∧ mg "_law_amount" = some (.ref f) ∧ Binds K fd ["_law_cell"] []
  F_l_rules : ∃ f fd, Fun K "_law_rules" "_law_rules" s_l_rules f fd ∧ mg "_law_rules" = some (.ref f) ∧ Binds K fd ["_law_script", "_law_kinds"] []
  F_l_heap : ∃ f fd, Fun K "_law_heap" "_law_heap" s_l_heap f fd ∧ mg "_law_heap" = some (.ref f) ∧ Binds K fd ["_law_script", "_law_kinds"] []
  F_l_ranked : ∃ f fd, Fun K "_law_ranked" "_law_ranked" s_l_ranked f fd ∧ mg "_law_ranked" = some (.ref f) ∧ Binds K fd ["_law_heap_here", "_law_ranking"] []
  F_l_given : ∃ f fd, Fun K "_law_given" "_law_given" s_l_given f fd ∧ mg "_law_given" = some (.ref f) ∧ Binds K fd ["_law_cell", "_law_kind", "_law_rules_here", "_law_kinds"] []
  F_l_allowed : ∃ f fd, Fun K "_law_allowed" "_law_allowed" s_l_allowed f fd ∧ mg "_law_allowed" = some (.ref f) ∧ Binds K fd ["_law_rules_here", "_law_heap_here", "_law_kind", "_law_given_here"] []
  F_l_behind : ∃ f fd, Fun K "_law_behind" "_law_behind" s_l_behind f fd ∧ mg "_law_behind" = some (.ref f) ∧ Binds K fd ["_law_heap_here", "_law_kind", "_law_given_here"] []
  F_l_number : ∃ f fd, Fun K "_law_number" "_law_number" s_l_number f fd ∧ mg "_law_number" = some (.ref f) ∧ Binds K fd ["_law_told", "_law_heap_here"] []
  F_l_less : ∃ f fd, Fun K "_law_less" "_law_less" s_l_less f fd ∧ mg "_law_less" = some (.ref f) ∧ Binds K fd ["_law_one", "_law_other"] []
  F_l_exchanged : ∃ f fd, Fun K "_law_exchanged" "_law_exchanged" s_l_exchanged f fd ∧ mg "_law_exchanged" = some (.ref f) ∧ Binds K fd ["_law_rules_here", "_law_heap_here", "_law_kind", "_law_given_here"] []
  F_l_refused_so : ∃ f fd, Fun K "_law_refused_so" "_law_refused_so" s_l_refused_so f fd ∧ mg "_law_refused_so" = some (.ref f) ∧ Binds K fd ["_law_rules_here", "_law_heap_here", "_law_kind", "_law_given_here"] []
  F_l_round : ∃ f fd, Fun K "_law_round" "_law_round" s_l_round f fd ∧ mg "_law_round" = some (.ref f) ∧ Binds K fd ["_law_rules_here", "_law_ring", "_law_many"] []
  m_ValueError : mg "ValueError" = none
  m_bool : mg "bool" = none
  m_dict : mg "dict" = none
  m_int : mg "int" = none
  m_isinstance : mg "isinstance" = none
  m_len : mg "len" = none
  m_list : mg "list" = none
  m_max : mg "max" = none
  m_min : mg "min" = none
  m_range : mg "range" = none
  m_sorted : mg "sorted" = none
  m_tuple : mg "tuple" = none
  m_zip : mg "zip" = none
  e_NoChore : ErrF K mg "NoChore"
  e_NoNumber : ErrF K mg "NoNumber"
  yl_HydraError_NoChore : TryL K mg "HydraError" [("NoChore", true)]
  yl_NoChore_NoChore : TryL K mg "NoChore" [("NoChore", true)]
  kl_NoChore_NoChore : KitY K mg "NoChore" [("NoChore", true)]
  kl_NoFall_NoChore : KitY K mg "NoFall" [("NoChore", false)]
  kl_NoFit_NoChore : KitY K mg "NoFit" [("NoChore", false)]
  kl_NoHead_NoChore : KitY K mg "NoHead" [("NoChore", false)]
  kl_NoLimit_NoChore : KitY K mg "NoLimit" [("NoChore", false)]
  kl_NoName_NoChore : KitY K mg "NoName" [("NoChore", false)]
  kl_NoNumber_NoChore : KitY K mg "NoNumber" [("NoChore", false)]
  kl_NoRow_NoChore : KitY K mg "NoRow" [("NoChore", false)]
  kl_NoStep_NoChore : KitY K mg "NoStep" [("NoChore", false)]
  kl_NoText_NoChore : KitY K mg "NoText" [("NoChore", false)]
  kl_Nought_NoChore : KitY K mg "Nought" [("NoChore", false)]
  kl_TooGreat_NoChore : KitY K mg "TooGreat" [("NoChore", false)]
  kl_TooHigh_NoChore : KitY K mg "TooHigh" [("NoChore", false)]
  kl_ValueError_NoChore : KitB K mg [("NoChore", true)]
structure Calls (P : Program) (w : World) (K : PySem.W.Frag) (mg : Str → Option Value) (base : Heap) (k : Nat) (S : Nat → List PyData → R PyData) : Prop where
  c_is_whole : Cal P w K mg base k "is_whole" 1 (S 0)
  c_compare : Cal P w K mg base k "compare" 2 (S 1)
  c_whole : Cal P w K mg base k "whole" 1 (S 2)
  c_raised : Cal P w K mg base k "raised" 2 (S 3)
  c_merged : Cal P w K mg base k "merged" 2 (S 4)
  c_kinds_of : Cal P w K mg base k "kinds_of" 1 (S 5)
  c_next_rank : Cal P w K mg base k "next_rank" 2 (S 6)
  c_ring_from : Cal P w K mg base k "ring_from" 3 (S 7)
  c_ranks : Cal P w K mg base k "ranks" 1 (S 8)
  c_heap_number : Cal P w K mg base k "heap_number" 2 (S 9)
  c_exchange : Cal P w K mg base k "exchange" 4 (S 10)
  c_l_cell_at : Cal P w K mg base k "_law_cell_at" 2 (S 11)
  c_l_whole : Cal P w K mg base k "_law_whole" 1 (S 12)
  c_l_amount : Cal P w K mg base k "_law_amount" 1 (S 13)
  c_l_rules : Cal P w K mg base k "_law_rules" 2 (S 14)
  c_l_heap : Cal P w K mg base k "_law_heap" 2 (S 15)
  c_l_ranked : Cal P w K mg base k "_law_ranked" 2 (S 16)
  c_l_given : Cal P w K mg base k "_law_given" 4 (S 17)
  c_l_allowed : Cal P w K mg base k "_law_allowed" 4 (S 18)
  c_l_behind : Cal P w K mg base k "_law_behind" 3 (S 19)
  c_l_number : Cal P w K mg base k "_law_number" 2 (S 20)
  c_l_less : Cal P w K mg base k "_law_less" 2 (S 21)
  c_l_exchanged : Cal P w K mg base k "_law_exchanged" 4 (S 22)
  c_l_refused_so : Cal P w K mg base k "_law_refused_so" 4 (S 23)
  c_l_round : Cal P w K mg base k "_law_round" 3 (S 24)
section
variable {P : Program} {w : World} {K : PySem.W.Frag} {mg : Str → Option Value} {base : Heap}
theorem calls (T : Whole K mg) : ∀ k, Calls P w K mg base k (sem k)
  | 0 => {
      c_is_whole := by obtain ⟨f, fd, F, m, b⟩ := T.F_is_whole; exact cal_zero F m b rfl
      c_compare := by obtain ⟨f, fd, F, m, b⟩ := T.F_compare; exact cal_zero F m b rfl
      c_whole := by obtain ⟨f, fd, F, m, b⟩ := T.F_whole; exact cal_zero F m b rfl
      c_raised := by obtain ⟨f, fd, F, m, b, b2⟩ := T.F_raised; exact cal_zero1 F m b rfl
      c_merged := by obtain ⟨f, fd, F, m, b⟩ := T.F_merged; exact cal_zero F m b rfl
      c_kinds_of := by obtain ⟨f, fd, F, m, b⟩ := T.F_kinds_of; exact cal_zero F m b rfl
      c_next_rank := by obtain ⟨f, fd, F, m, b⟩ := T.F_next_rank; exact cal_zero F m b rfl
      c_ring_from := by obtain ⟨f, fd, F, m, b⟩ := T.F_ring_from; exact cal_zero F m b rfl
      c_ranks := by obtain ⟨f, fd, F, m, b⟩ := T.F_ranks; exact cal_zero F m b rfl
      c_heap_number := by obtain ⟨f, fd, F, m, b⟩ := T.F_heap_number; exact cal_zero F m b rfl
      c_exchange := by obtain ⟨f, fd, F, m, b⟩ := T.F_exchange; exact cal_zero F m b rfl
      c_l_cell_at := by obtain ⟨f, fd, F, m, b⟩ := T.F_l_cell_at; exact cal_zero F m b rfl
      c_l_whole := by obtain ⟨f, fd, F, m, b⟩ := T.F_l_whole; exact cal_zero F m b rfl
      c_l_amount := by obtain ⟨f, fd, F, m, b⟩ := T.F_l_amount; exact cal_zero F m b rfl
      c_l_rules := by obtain ⟨f, fd, F, m, b⟩ := T.F_l_rules; exact cal_zero F m b rfl
      c_l_heap := by obtain ⟨f, fd, F, m, b⟩ := T.F_l_heap; exact cal_zero F m b rfl
      c_l_ranked := by obtain ⟨f, fd, F, m, b⟩ := T.F_l_ranked; exact cal_zero F m b rfl
      c_l_given := by obtain ⟨f, fd, F, m, b⟩ := T.F_l_given; exact cal_zero F m b rfl
      c_l_allowed := by obtain ⟨f, fd, F, m, b⟩ := T.F_l_allowed; exact cal_zero F m b rfl
      c_l_behind := by obtain ⟨f, fd, F, m, b⟩ := T.F_l_behind; exact cal_zero F m b rfl
      c_l_number := by obtain ⟨f, fd, F, m, b⟩ := T.F_l_number; exact cal_zero F m b rfl
      c_l_less := by obtain ⟨f, fd, F, m, b⟩ := T.F_l_less; exact cal_zero F m b rfl
      c_l_exchanged := by obtain ⟨f, fd, F, m, b⟩ := T.F_l_exchanged; exact cal_zero F m b rfl
      c_l_refused_so := by obtain ⟨f, fd, F, m, b⟩ := T.F_l_refused_so; exact cal_zero F m b rfl
      c_l_round := by obtain ⟨f, fd, F, m, b⟩ := T.F_l_round; exact cal_zero F m b rfl
    }
  | k + 1 => by
    have ih := calls T k
    exact {
      c_is_whole := by obtain ⟨f, fd, F, m, b⟩ := T.F_is_whole; exact cal_data F m b sc_is_whole rfl (by decide) fun cdv A outer s H E hr => b_is_whole (S := sem k) hr (m_bool := T.m_bool) (m_int := T.m_int) (m_isinstance := T.m_isinstance)
      c_compare := by obtain ⟨f, fd, F, m, b⟩ := T.F_compare; exact cal_data F m b sc_compare rfl (by decide) fun cdv A outer s H E hr => b_compare (S := sem k) hr (c_compare := ih.c_compare) (m_len := T.m_len) (m_zip := T.m_zip)
      c_whole := by obtain ⟨f, fd, F, m, b⟩ := T.F_whole; exact cal_data F m b sc_whole rfl (by decide) fun cdv A outer s H E hr => b_whole (S := sem k) hr (c_raised := ih.c_raised)
      c_raised := by obtain ⟨f, fd, F, m, b, b2⟩ := T.F_raised; exact cal_data1 F m b sc_raised rfl (by decide) fun cdv A outer s H E hr => b_raised (S := sem k) hr (c_is_whole := ih.c_is_whole) (e_NoNumber := T.e_NoNumber)
      c_merged := by obtain ⟨f, fd, F, m, b⟩ := T.F_merged; exact cal_data F m b sc_merged rfl (by decide) fun cdv A outer s H E hr => b_merged (S := sem k) hr (c_compare := ih.c_compare) (m_len := T.m_len) (m_tuple := T.m_tuple)
      c_kinds_of := by obtain ⟨f, fd, F, m, b⟩ := T.F_kinds_of; exact cal_data F m b sc_kinds_of rfl (by decide) fun cdv A outer s H E hr => b_kinds_of (S := sem k) hr (m_list := T.m_list)
      c_next_rank := by obtain ⟨f, fd, F, m, b⟩ := T.F_next_rank; exact cal_data F m b sc_next_rank rfl (by decide) fun cdv A outer s H E hr => b_next_rank (S := sem k) hr (m_max := T.m_max)
      c_ring_from := by obtain ⟨f, fd, F, m, b⟩ := T.F_ring_from; exact cal_data F m b sc_ring_from rfl (by decide) fun cdv A outer s H E hr => b_ring_from (S := sem k) hr 
      c_ranks := by obtain ⟨f, fd, F, m, b⟩ := T.F_ranks; exact cal_data F m b sc_ranks rfl (by decide) fun cdv A outer s H E hr => b_ranks (S := sem k) hr (c_kinds_of := ih.c_kinds_of) (c_next_rank := ih.c_next_rank) (c_ring_from := ih.c_ring_from) (m_len := T.m_len) (m_range := T.m_range)
      c_heap_number := by obtain ⟨f, fd, F, m, b⟩ := T.F_heap_number; exact cal_data F m b sc_heap_number rfl (by decide) fun cdv A outer s H E hr => b_heap_number (S := sem k) hr (c_merged := ih.c_merged) (c_raised := ih.c_raised) (c_whole := ih.c_whole)
      c_exchange := by obtain ⟨f, fd, F, m, b⟩ := T.F_exchange; exact cal_data F m b sc_exchange rfl (by decide) fun cdv A outer s H E hr => b_exchange (S := sem k) hr (m_dict := T.m_dict) (e_NoChore := T.e_NoChore)
      c_l_cell_at := by obtain ⟨f, fd, F, m, b⟩ := T.F_l_cell_at; exact cal_data F m b sc_l_cell_at rfl (by decide) fun cdv A outer s H E hr => b_l_cell_at (S := sem k) hr (m_len := T.m_len)
      c_l_whole := by obtain ⟨f, fd, F, m, b⟩ := T.F_l_whole; exact cal_data F m b sc_l_whole rfl (by decide) fun cdv A outer s H E hr => b_l_whole (S := sem k) hr (m_bool := T.m_bool) (m_int := T.m_int) (m_isinstance := T.m_isinstance)
      c_l_amount := by obtain ⟨f, fd, F, m, b⟩ := T.F_l_amount; exact cal_data F m b sc_l_amount rfl (by decide) fun cdv A outer s H E hr => b_l_amount (S := sem k) hr 
      c_l_rules := by obtain ⟨f, fd, F, m, b⟩ := T.F_l_rules; exact cal_data F m b sc_l_rules rfl (by decide) fun cdv A outer s H E hr => b_l_rules (S := sem k) hr (c_l_cell_at := ih.c_l_cell_at) (m_len := T.m_len) (m_range := T.m_range)
      c_l_heap := by obtain ⟨f, fd, F, m, b⟩ := T.F_l_heap; exact cal_data F m b sc_l_heap rfl (by decide) fun cdv A outer s H E hr => b_l_heap (S := sem k) hr (c_l_amount := ih.c_l_amount) (c_l_cell_at := ih.c_l_cell_at) (m_len := T.m_len) (m_range := T.m_range)
      c_l_ranked := by obtain ⟨f, fd, F, m, b⟩ := T.F_l_ranked; exact cal_data F m b sc_l_ranked rfl (by decide) fun cdv A outer s H E hr => b_l_ranked (S := sem k) hr 
      c_l_given := by obtain ⟨f, fd, F, m, b⟩ := T.F_l_given; exact cal_data F m b sc_l_given rfl (by decide) fun cdv A outer s H E hr => b_l_given (S := sem k) hr (c_l_amount := ih.c_l_amount) (m_len := T.m_len)
      c_l_allowed := by obtain ⟨f, fd, F, m, b⟩ := T.F_l_allowed; exact cal_data F m b sc_l_allowed rfl (by decide) fun cdv A outer s H E hr => b_l_allowed (S := sem k) hr 
      c_l_behind := by obtain ⟨f, fd, F, m, b⟩ := T.F_l_behind; exact cal_data F m b sc_l_behind rfl (by decide) fun cdv A outer s H E hr => b_l_behind (S := sem k) hr (m_int := T.m_int) (m_list := T.m_list)
      c_l_number := by obtain ⟨f, fd, F, m, b⟩ := T.F_l_number; exact cal_data F m b sc_l_number rfl (by decide) fun cdv A outer s H E hr => b_l_number (S := sem k) hr (m_sorted := T.m_sorted) (m_tuple := T.m_tuple)
      c_l_less := by obtain ⟨f, fd, F, m, b⟩ := T.F_l_less; exact cal_data F m b sc_l_less rfl (by decide) fun cdv A outer s H E hr => b_l_less (S := sem k) hr (m_len := T.m_len) (m_min := T.m_min) (m_range := T.m_range)
      c_l_exchanged := by obtain ⟨f, fd, F, m, b⟩ := T.F_l_exchanged; exact cal_data F m b sc_l_exchanged rfl (by decide) fun cdv A outer s H E hr => b_l_exchanged (S := sem k) hr (c_exchange := ih.c_exchange) (yl_NoChore_NoChore := T.yl_NoChore_NoChore)
      c_l_refused_so := by obtain ⟨f, fd, F, m, b⟩ := T.F_l_refused_so; exact cal_data F m b sc_l_refused_so rfl (by decide) fun cdv A outer s H E hr => b_l_refused_so (S := sem k) hr (c_exchange := ih.c_exchange) (m_ValueError := T.m_ValueError) (m_isinstance := T.m_isinstance) (yl_HydraError_NoChore := T.yl_HydraError_NoChore) (kl_NoChore_NoChore := T.kl_NoChore_NoChore) (kl_NoFall_NoChore := T.kl_NoFall_NoChore) (kl_NoFit_NoChore := T.kl_NoFit_NoChore) (kl_NoHead_NoChore := T.kl_NoHead_NoChore) (kl_NoLimit_NoChore := T.kl_NoLimit_NoChore) (kl_NoName_NoChore := T.kl_NoName_NoChore) (kl_NoNumber_NoChore := T.kl_NoNumber_NoChore) (kl_NoRow_NoChore := T.kl_NoRow_NoChore) (kl_NoStep_NoChore := T.kl_NoStep_NoChore) (kl_NoText_NoChore := T.kl_NoText_NoChore) (kl_Nought_NoChore := T.kl_Nought_NoChore) (kl_TooGreat_NoChore := T.kl_TooGreat_NoChore) (kl_TooHigh_NoChore := T.kl_TooHigh_NoChore) (kl_ValueError_NoChore := T.kl_ValueError_NoChore)
      c_l_round := by obtain ⟨f, fd, F, m, b⟩ := T.F_l_round; exact cal_data F m b sc_l_round rfl (by decide) fun cdv A outer s H E hr => b_l_round (S := sem k) hr (c_exchange := ih.c_exchange) (m_dict := T.m_dict) (m_len := T.m_len) (m_range := T.m_range)
    }
theorem law_ok {f : Addr} {fd : FuncData} (T : Whole K mg) (F : Fun K "law" "law" s_law f fd) (hl : ∀ ns : List Int, ns.length ≤ 63 → (∀ z ∈ ns, z.natAbs.log2 ≤ 1048576) → sem 101 25 [.list (ns.map .int)] = .ok (.bool true)) :
    FnOk P w K mg base (L2.CX P w) 101 f fd ["_law_script"] (spLawB K) := by
  have ih : Calls P w K mg base 100 (sem 100) := calls T 100
  exact (fn_data F sc_law rfl (by decide) fun cdv A outer s H E hr => b_law hr (c_l_allowed := ih.c_l_allowed) (c_l_behind := ih.c_l_behind) (c_l_cell_at := ih.c_l_cell_at) (c_l_exchanged := ih.c_l_exchanged) (c_l_given := ih.c_l_given) (c_l_heap := ih.c_l_heap) (c_l_less := ih.c_l_less) (c_l_number := ih.c_l_number) (c_l_ranked := ih.c_l_ranked) (c_l_refused_so := ih.c_l_refused_so) (c_l_round := ih.c_l_round) (c_l_rules := ih.c_l_rules) (c_l_whole := ih.c_l_whole) (c_heap_number := ih.c_heap_number) (c_ranks := ih.c_ranks) (m_dict := T.m_dict) (m_isinstance := T.m_isinstance) (m_len := T.m_len)).imp (law_impB hl)
end
section
variable {l : PySem.W.OpenLaw} {w : World} {K : PySem.W.Frag} {h : Heap} {mg : Str → Option Value}
theorem all_mk (X : K.In h) (G : h.Ns mainGlobals mg) {fa : Addr} (hfa : mg "law" = some (.ref fa))
    {f0 : Addr} {od0 an0 : Option Addr} {sl0 : Array (Option Value)} {oc0 kV0 dc0 pm0 cd0 ct0 : Value}
    (a0 : PySem.W.nsIn K mainGlobals "is_whole" = some (some (.ref f0))) (l0 : K.lookup f0 = some ⟨oc0, od0, .func (PySem.W.fnOf "is_whole" "is_whole" (defArgs s_is_whole) (defBody s_is_whole) (defScope s_is_whole) .none kV0 dc0 pm0 an0 cd0 ct0), sl0⟩) (c0 : PySem.W.codeIn K cd0 "is_whole" = true) (k0 : PySem.W.keepIn K (.ref f0) = true)
    {f1 : Addr} {od1 an1 : Option Addr} {sl1 : Array (Option Value)} {oc1 kV1 dc1 pm1 cd1 ct1 : Value}
    (a1 : PySem.W.nsIn K mainGlobals "compare" = some (some (.ref f1))) (l1 : K.lookup f1 = some ⟨oc1, od1, .func (PySem.W.fnOf "compare" "compare" (defArgs s_compare) (defBody s_compare) (defScope s_compare) .none kV1 dc1 pm1 an1 cd1 ct1), sl1⟩) (c1 : PySem.W.codeIn K cd1 "compare" = true) (k1 : PySem.W.keepIn K (.ref f1) = true)
    {f2 : Addr} {od2 an2 : Option Addr} {sl2 : Array (Option Value)} {oc2 kV2 dc2 pm2 cd2 ct2 : Value}
    (a2 : PySem.W.nsIn K mainGlobals "whole" = some (some (.ref f2))) (l2 : K.lookup f2 = some ⟨oc2, od2, .func (PySem.W.fnOf "whole" "whole" (defArgs s_whole) (defBody s_whole) (defScope s_whole) .none kV2 dc2 pm2 an2 cd2 ct2), sl2⟩) (c2 : PySem.W.codeIn K cd2 "whole" = true) (k2 : PySem.W.keepIn K (.ref f2) = true)
    {f3 : Addr} {od3 an3 : Option Addr} {sl3 : Array (Option Value)} {oc3 kV3 dc3 pm3 cd3 ct3 : Value}
    {T3 : Addr} {ocT3 : Value} {odT3 : Option Addr} {nT3 : Nat} {tkT3 : Tok} {slT3 : Array (Option Value)}
    (a3 : PySem.W.nsIn K mainGlobals "raised" = some (some (.ref f3))) (l3 : K.lookup f3 = some ⟨oc3, od3, .func (PySem.W.fnOf "raised" "raised" (defArgs s_raised) (defBody s_raised) (defScope s_raised) (.ref T3) kV3 dc3 pm3 an3 cd3 ct3), sl3⟩) (c3 : PySem.W.codeIn K cd3 "raised" = true) (k3 : PySem.W.keepIn K (.ref f3) = true)
    {f4 : Addr} {od4 an4 : Option Addr} {sl4 : Array (Option Value)} {oc4 kV4 dc4 pm4 cd4 ct4 : Value}
    (a4 : PySem.W.nsIn K mainGlobals "merged" = some (some (.ref f4))) (l4 : K.lookup f4 = some ⟨oc4, od4, .func (PySem.W.fnOf "merged" "merged" (defArgs s_merged) (defBody s_merged) (defScope s_merged) .none kV4 dc4 pm4 an4 cd4 ct4), sl4⟩) (c4 : PySem.W.codeIn K cd4 "merged" = true) (k4 : PySem.W.keepIn K (.ref f4) = true)
    {f5 : Addr} {od5 an5 : Option Addr} {sl5 : Array (Option Value)} {oc5 kV5 dc5 pm5 cd5 ct5 : Value}
    (a5 : PySem.W.nsIn K mainGlobals "kinds_of" = some (some (.ref f5))) (l5 : K.lookup f5 = some ⟨oc5, od5, .func (PySem.W.fnOf "kinds_of" "kinds_of" (defArgs s_kinds_of) (defBody s_kinds_of) (defScope s_kinds_of) .none kV5 dc5 pm5 an5 cd5 ct5), sl5⟩) (c5 : PySem.W.codeIn K cd5 "kinds_of" = true) (k5 : PySem.W.keepIn K (.ref f5) = true)
    {f6 : Addr} {od6 an6 : Option Addr} {sl6 : Array (Option Value)} {oc6 kV6 dc6 pm6 cd6 ct6 : Value}
    (a6 : PySem.W.nsIn K mainGlobals "next_rank" = some (some (.ref f6))) (l6 : K.lookup f6 = some ⟨oc6, od6, .func (PySem.W.fnOf "next_rank" "next_rank" (defArgs s_next_rank) (defBody s_next_rank) (defScope s_next_rank) .none kV6 dc6 pm6 an6 cd6 ct6), sl6⟩) (c6 : PySem.W.codeIn K cd6 "next_rank" = true) (k6 : PySem.W.keepIn K (.ref f6) = true)
    {f7 : Addr} {od7 an7 : Option Addr} {sl7 : Array (Option Value)} {oc7 kV7 dc7 pm7 cd7 ct7 : Value}
    (a7 : PySem.W.nsIn K mainGlobals "ring_from" = some (some (.ref f7))) (l7 : K.lookup f7 = some ⟨oc7, od7, .func (PySem.W.fnOf "ring_from" "ring_from" (defArgs s_ring_from) (defBody s_ring_from) (defScope s_ring_from) .none kV7 dc7 pm7 an7 cd7 ct7), sl7⟩) (c7 : PySem.W.codeIn K cd7 "ring_from" = true) (k7 : PySem.W.keepIn K (.ref f7) = true)
    {f8 : Addr} {od8 an8 : Option Addr} {sl8 : Array (Option Value)} {oc8 kV8 dc8 pm8 cd8 ct8 : Value}
    (a8 : PySem.W.nsIn K mainGlobals "ranks" = some (some (.ref f8))) (l8 : K.lookup f8 = some ⟨oc8, od8, .func (PySem.W.fnOf "ranks" "ranks" (defArgs s_ranks) (defBody s_ranks) (defScope s_ranks) .none kV8 dc8 pm8 an8 cd8 ct8), sl8⟩) (c8 : PySem.W.codeIn K cd8 "ranks" = true) (k8 : PySem.W.keepIn K (.ref f8) = true)
    {f9 : Addr} {od9 an9 : Option Addr} {sl9 : Array (Option Value)} {oc9 kV9 dc9 pm9 cd9 ct9 : Value}
    (a9 : PySem.W.nsIn K mainGlobals "heap_number" = some (some (.ref f9))) (l9 : K.lookup f9 = some ⟨oc9, od9, .func (PySem.W.fnOf "heap_number" "heap_number" (defArgs s_heap_number) (defBody s_heap_number) (defScope s_heap_number) .none kV9 dc9 pm9 an9 cd9 ct9), sl9⟩) (c9 : PySem.W.codeIn K cd9 "heap_number" = true) (k9 : PySem.W.keepIn K (.ref f9) = true)
    {f10 : Addr} {od10 an10 : Option Addr} {sl10 : Array (Option Value)} {oc10 kV10 dc10 pm10 cd10 ct10 : Value}
    (a10 : PySem.W.nsIn K mainGlobals "exchange" = some (some (.ref f10))) (l10 : K.lookup f10 = some ⟨oc10, od10, .func (PySem.W.fnOf "exchange" "exchange" (defArgs s_exchange) (defBody s_exchange) (defScope s_exchange) .none kV10 dc10 pm10 an10 cd10 ct10), sl10⟩) (c10 : PySem.W.codeIn K cd10 "exchange" = true) (k10 : PySem.W.keepIn K (.ref f10) = true)
    {f11 : Addr} {od11 an11 : Option Addr} {sl11 : Array (Option Value)} {oc11 kV11 dc11 pm11 cd11 ct11 : Value}
    (a11 : PySem.W.nsIn K mainGlobals "_law_cell_at" = some (some (.ref f11))) (l11 : K.lookup f11 = some ⟨oc11, od11, .func (PySem.W.fnOf "_law_cell_at" "_law_cell_at" (defArgs s_l_cell_at) (defBody s_l_cell_at) (defScope s_l_cell_at) .none kV11 dc11 pm11 an11 cd11 ct11), sl11⟩) (c11 : PySem.W.codeIn K cd11 "_law_cell_at" = true) (k11 : PySem.W.keepIn K (.ref f11) = true)
    {f12 : Addr} {od12 an12 : Option Addr} {sl12 : Array (Option Value)} {oc12 kV12 dc12 pm12 cd12 ct12 : Value}
    (a12 : PySem.W.nsIn K mainGlobals "_law_whole" = some (some (.ref f12))) (l12 : K.lookup f12 = some ⟨oc12, od12, .func (PySem.W.fnOf "_law_whole" "_law_whole" (defArgs s_l_whole) (defBody s_l_whole) (defScope s_l_whole) .none kV12 dc12 pm12 an12 cd12 ct12), sl12⟩) (c12 : PySem.W.codeIn K cd12 "_law_whole" = true) (k12 : PySem.W.keepIn K (.ref f12) = true)
    {f13 : Addr} {od13 an13 : Option Addr} {sl13 : Array (Option Value)} {oc13 kV13 dc13 pm13 cd13 ct13 : Value}
    (a13 : PySem.W.nsIn K mainGlobals "_law_amount" = some (some (.ref f13))) (l13 : K.lookup f13 = some ⟨oc13, od13, .func (PySem.W.fnOf "_law_amount" "_law_amount" (defArgs s_l_amount) (defBody s_l_amount) (defScope s_l_amount) .none kV13 dc13 pm13 an13 cd13 ct13), sl13⟩) (c13 : PySem.W.codeIn K cd13 "_law_amount" = true) (k13 : PySem.W.keepIn K (.ref f13) = true)
    {f14 : Addr} {od14 an14 : Option Addr} {sl14 : Array (Option Value)} {oc14 kV14 dc14 pm14 cd14 ct14 : Value}
    (a14 : PySem.W.nsIn K mainGlobals "_law_rules" = some (some (.ref f14))) (l14 : K.lookup f14 = some ⟨oc14, od14, .func (PySem.W.fnOf "_law_rules" "_law_rules" (defArgs s_l_rules) (defBody s_l_rules) (defScope s_l_rules) .none kV14 dc14 pm14 an14 cd14 ct14), sl14⟩) (c14 : PySem.W.codeIn K cd14 "_law_rules" = true) (k14 : PySem.W.keepIn K (.ref f14) = true)
    {f15 : Addr} {od15 an15 : Option Addr} {sl15 : Array (Option Value)} {oc15 kV15 dc15 pm15 cd15 ct15 : Value}
    (a15 : PySem.W.nsIn K mainGlobals "_law_heap" = some (some (.ref f15))) (l15 : K.lookup f15 = some ⟨oc15, od15, .func (PySem.W.fnOf "_law_heap" "_law_heap" (defArgs s_l_heap) (defBody s_l_heap) (defScope s_l_heap) .none kV15 dc15 pm15 an15 cd15 ct15), sl15⟩) (c15 : PySem.W.codeIn K cd15 "_law_heap" = true) (k15 : PySem.W.keepIn K (.ref f15) = true)
    {f16 : Addr} {od16 an16 : Option Addr} {sl16 : Array (Option Value)} {oc16 kV16 dc16 pm16 cd16 ct16 : Value}
    (a16 : PySem.W.nsIn K mainGlobals "_law_ranked" = some (some (.ref f16))) (l16 : K.lookup f16 = some ⟨oc16, od16, .func (PySem.W.fnOf "_law_ranked" "_law_ranked" (defArgs s_l_ranked) (defBody s_l_ranked) (defScope s_l_ranked) .none kV16 dc16 pm16 an16 cd16 ct16), sl16⟩) (c16 : PySem.W.codeIn K cd16 "_law_ranked" = true) (k16 : PySem.W.keepIn K (.ref f16) = true)
    {f17 : Addr} {od17 an17 : Option Addr} {sl17 : Array (Option Value)} {oc17 kV17 dc17 pm17 cd17 ct17 : Value}
    (a17 : PySem.W.nsIn K mainGlobals "_law_given" = some (some (.ref f17))) (l17 : K.lookup f17 = some ⟨oc17, od17, .func (PySem.W.fnOf "_law_given" "_law_given" (defArgs s_l_given) (defBody s_l_given) (defScope s_l_given) .none kV17 dc17 pm17 an17 cd17 ct17), sl17⟩) (c17 : PySem.W.codeIn K cd17 "_law_given" = true) (k17 : PySem.W.keepIn K (.ref f17) = true)
    {f18 : Addr} {od18 an18 : Option Addr} {sl18 : Array (Option Value)} {oc18 kV18 dc18 pm18 cd18 ct18 : Value}
    (a18 : PySem.W.nsIn K mainGlobals "_law_allowed" = some (some (.ref f18))) (l18 : K.lookup f18 = some ⟨oc18, od18, .func (PySem.W.fnOf "_law_allowed" "_law_allowed" (defArgs s_l_allowed) (defBody s_l_allowed) (defScope s_l_allowed) .none kV18 dc18 pm18 an18 cd18 ct18), sl18⟩) (c18 : PySem.W.codeIn K cd18 "_law_allowed" = true) (k18 : PySem.W.keepIn K (.ref f18) = true)
    {f19 : Addr} {od19 an19 : Option Addr} {sl19 : Array (Option Value)} {oc19 kV19 dc19 pm19 cd19 ct19 : Value}
    (a19 : PySem.W.nsIn K mainGlobals "_law_behind" = some (some (.ref f19))) (l19 : K.lookup f19 = some ⟨oc19, od19, .func (PySem.W.fnOf "_law_behind" "_law_behind" (defArgs s_l_behind) (defBody s_l_behind) (defScope s_l_behind) .none kV19 dc19 pm19 an19 cd19 ct19), sl19⟩) (c19 : PySem.W.codeIn K cd19 "_law_behind" = true) (k19 : PySem.W.keepIn K (.ref f19) = true)
    {f20 : Addr} {od20 an20 : Option Addr} {sl20 : Array (Option Value)} {oc20 kV20 dc20 pm20 cd20 ct20 : Value}
    (a20 : PySem.W.nsIn K mainGlobals "_law_number" = some (some (.ref f20))) (l20 : K.lookup f20 = some ⟨oc20, od20, .func (PySem.W.fnOf "_law_number" "_law_number" (defArgs s_l_number) (defBody s_l_number) (defScope s_l_number) .none kV20 dc20 pm20 an20 cd20 ct20), sl20⟩) (c20 : PySem.W.codeIn K cd20 "_law_number" = true) (k20 : PySem.W.keepIn K (.ref f20) = true)
    {f21 : Addr} {od21 an21 : Option Addr} {sl21 : Array (Option Value)} {oc21 kV21 dc21 pm21 cd21 ct21 : Value}
    (a21 : PySem.W.nsIn K mainGlobals "_law_less" = some (some (.ref f21))) (l21 : K.lookup f21 = some ⟨oc21, od21, .func (PySem.W.fnOf "_law_less" "_law_less" (defArgs s_l_less) (defBody s_l_less) (defScope s_l_less) .none kV21 dc21 pm21 an21 cd21 ct21), sl21⟩) (c21 : PySem.W.codeIn K cd21 "_law_less" = true) (k21 : PySem.W.keepIn K (.ref f21) = true)
    {f22 : Addr} {od22 an22 : Option Addr} {sl22 : Array (Option Value)} {oc22 kV22 dc22 pm22 cd22 ct22 : Value}
    (a22 : PySem.W.nsIn K mainGlobals "_law_exchanged" = some (some (.ref f22))) (l22 : K.lookup f22 = some ⟨oc22, od22, .func (PySem.W.fnOf "_law_exchanged" "_law_exchanged" (defArgs s_l_exchanged) (defBody s_l_exchanged) (defScope s_l_exchanged) .none kV22 dc22 pm22 an22 cd22 ct22), sl22⟩) (c22 : PySem.W.codeIn K cd22 "_law_exchanged" = true) (k22 : PySem.W.keepIn K (.ref f22) = true)
    {f23 : Addr} {od23 an23 : Option Addr} {sl23 : Array (Option Value)} {oc23 kV23 dc23 pm23 cd23 ct23 : Value}
    (a23 : PySem.W.nsIn K mainGlobals "_law_refused_so" = some (some (.ref f23))) (l23 : K.lookup f23 = some ⟨oc23, od23, .func (PySem.W.fnOf "_law_refused_so" "_law_refused_so" (defArgs s_l_refused_so) (defBody s_l_refused_so) (defScope s_l_refused_so) .none kV23 dc23 pm23 an23 cd23 ct23), sl23⟩) (c23 : PySem.W.codeIn K cd23 "_law_refused_so" = true) (k23 : PySem.W.keepIn K (.ref f23) = true)
    {f24 : Addr} {od24 an24 : Option Addr} {sl24 : Array (Option Value)} {oc24 kV24 dc24 pm24 cd24 ct24 : Value}
    (a24 : PySem.W.nsIn K mainGlobals "_law_round" = some (some (.ref f24))) (l24 : K.lookup f24 = some ⟨oc24, od24, .func (PySem.W.fnOf "_law_round" "_law_round" (defArgs s_l_round) (defBody s_l_round) (defScope s_l_round) .none kV24 dc24 pm24 an24 cd24 ct24), sl24⟩) (c24 : PySem.W.codeIn K cd24 "_law_round" = true) (k24 : PySem.W.keepIn K (.ref f24) = true)
    {f25 : Addr} {od25 an25 : Option Addr} {sl25 : Array (Option Value)} {oc25 kV25 dc25 pm25 cd25 ct25 : Value}
    (a25 : PySem.W.nsIn K mainGlobals "law" = some (some (.ref f25))) (l25 : K.lookup f25 = some ⟨oc25, od25, .func (PySem.W.fnOf "law" "law" (defArgs s_law) (defBody s_law) (defScope s_law) .none kV25 dc25 pm25 an25 cd25 ct25), sl25⟩) (c25 : PySem.W.codeIn K cd25 "law" = true) (k25 : PySem.W.keepIn K (.ref f25) = true)
    (z_ValueError : PySem.W.nsIn K mainGlobals "ValueError" = some none)
    (z_bool : PySem.W.nsIn K mainGlobals "bool" = some none)
    (z_dict : PySem.W.nsIn K mainGlobals "dict" = some none)
    (z_int : PySem.W.nsIn K mainGlobals "int" = some none)
    (z_isinstance : PySem.W.nsIn K mainGlobals "isinstance" = some none)
    (z_len : PySem.W.nsIn K mainGlobals "len" = some none)
    (z_list : PySem.W.nsIn K mainGlobals "list" = some none)
    (z_max : PySem.W.nsIn K mainGlobals "max" = some none)
    (z_min : PySem.W.nsIn K mainGlobals "min" = some none)
    (z_range : PySem.W.nsIn K mainGlobals "range" = some none)
    (z_sorted : PySem.W.nsIn K mainGlobals "sorted" = some none)
    (z_tuple : PySem.W.nsIn K mainGlobals "tuple" = some none)
    (z_zip : PySem.W.nsIn K mainGlobals "zip" = some none)
    (lT3 : K.lookup T3 = some ⟨ocT3, odT3, .seq #[.int 1 tkT3] nT3, slT3⟩)
    {C_HydraError : Addr}
    (ac_HydraError : PySem.W.nsIn K mainGlobals "HydraError" = some (some (.ref C_HydraError)))
    (sc_HydraError : PySem.W.subIn K (.ref C_HydraError) (.type "BaseException") = some true)
    (tc_HydraError : PySem.W.typeIn K (.ref C_HydraError) = some (.type "type"))
    (hc_HydraError : PySem.W.hasDictIn K C_HydraError = true)
    {C_NoChore : Addr}
    (ac_NoChore : PySem.W.nsIn K mainGlobals "NoChore" = some (some (.ref C_NoChore)))
    (xc_NoChore : PySem.W.excIn K C_NoChore [.type "ValueError", .type "Exception", .type "BaseException", .type "object"] "ValueError.__new__" = true)
    (kc_NoChore : PySem.W.keepIn K (.ref C_NoChore) = true)
    (sc_NoChore : PySem.W.subIn K (.ref C_NoChore) (.type "BaseException") = some true)
    (tc_NoChore : PySem.W.typeIn K (.ref C_NoChore) = some (.type "type"))
    (hc_NoChore : PySem.W.hasDictIn K C_NoChore = true)
    {C_NoFall : Addr}
    (ac_NoFall : PySem.W.nsIn K mainGlobals "NoFall" = some (some (.ref C_NoFall)))
    (sc_NoFall : PySem.W.subIn K (.ref C_NoFall) (.type "BaseException") = some true)
    (tc_NoFall : PySem.W.typeIn K (.ref C_NoFall) = some (.type "type"))
    (hc_NoFall : PySem.W.hasDictIn K C_NoFall = true)
    {C_NoFit : Addr}
    (ac_NoFit : PySem.W.nsIn K mainGlobals "NoFit" = some (some (.ref C_NoFit)))
    (sc_NoFit : PySem.W.subIn K (.ref C_NoFit) (.type "BaseException") = some true)
    (tc_NoFit : PySem.W.typeIn K (.ref C_NoFit) = some (.type "type"))
    (hc_NoFit : PySem.W.hasDictIn K C_NoFit = true)
    {C_NoHead : Addr}
    (ac_NoHead : PySem.W.nsIn K mainGlobals "NoHead" = some (some (.ref C_NoHead)))
    (sc_NoHead : PySem.W.subIn K (.ref C_NoHead) (.type "BaseException") = some true)
    (tc_NoHead : PySem.W.typeIn K (.ref C_NoHead) = some (.type "type"))
    (hc_NoHead : PySem.W.hasDictIn K C_NoHead = true)
    {C_NoLimit : Addr}
    (ac_NoLimit : PySem.W.nsIn K mainGlobals "NoLimit" = some (some (.ref C_NoLimit)))
    (sc_NoLimit : PySem.W.subIn K (.ref C_NoLimit) (.type "BaseException") = some true)
    (tc_NoLimit : PySem.W.typeIn K (.ref C_NoLimit) = some (.type "type"))
    (hc_NoLimit : PySem.W.hasDictIn K C_NoLimit = true)
    {C_NoName : Addr}
    (ac_NoName : PySem.W.nsIn K mainGlobals "NoName" = some (some (.ref C_NoName)))
    (sc_NoName : PySem.W.subIn K (.ref C_NoName) (.type "BaseException") = some true)
    (tc_NoName : PySem.W.typeIn K (.ref C_NoName) = some (.type "type"))
    (hc_NoName : PySem.W.hasDictIn K C_NoName = true)
    {C_NoNumber : Addr}
    (ac_NoNumber : PySem.W.nsIn K mainGlobals "NoNumber" = some (some (.ref C_NoNumber)))
    (xc_NoNumber : PySem.W.excIn K C_NoNumber [.type "ValueError", .type "Exception", .type "BaseException", .type "object"] "ValueError.__new__" = true)
    (kc_NoNumber : PySem.W.keepIn K (.ref C_NoNumber) = true)
    (sc_NoNumber : PySem.W.subIn K (.ref C_NoNumber) (.type "BaseException") = some true)
    (tc_NoNumber : PySem.W.typeIn K (.ref C_NoNumber) = some (.type "type"))
    (hc_NoNumber : PySem.W.hasDictIn K C_NoNumber = true)
    {C_NoRow : Addr}
    (ac_NoRow : PySem.W.nsIn K mainGlobals "NoRow" = some (some (.ref C_NoRow)))
    (sc_NoRow : PySem.W.subIn K (.ref C_NoRow) (.type "BaseException") = some true)
    (tc_NoRow : PySem.W.typeIn K (.ref C_NoRow) = some (.type "type"))
    (hc_NoRow : PySem.W.hasDictIn K C_NoRow = true)
    {C_NoStep : Addr}
    (ac_NoStep : PySem.W.nsIn K mainGlobals "NoStep" = some (some (.ref C_NoStep)))
    (sc_NoStep : PySem.W.subIn K (.ref C_NoStep) (.type "BaseException") = some true)
    (tc_NoStep : PySem.W.typeIn K (.ref C_NoStep) = some (.type "type"))
    (hc_NoStep : PySem.W.hasDictIn K C_NoStep = true)
    {C_NoText : Addr}
    (ac_NoText : PySem.W.nsIn K mainGlobals "NoText" = some (some (.ref C_NoText)))
    (sc_NoText : PySem.W.subIn K (.ref C_NoText) (.type "BaseException") = some true)
    (tc_NoText : PySem.W.typeIn K (.ref C_NoText) = some (.type "type"))
    (hc_NoText : PySem.W.hasDictIn K C_NoText = true)
    {C_Nought : Addr}
    (ac_Nought : PySem.W.nsIn K mainGlobals "Nought" = some (some (.ref C_Nought)))
    (sc_Nought : PySem.W.subIn K (.ref C_Nought) (.type "BaseException") = some true)
    (tc_Nought : PySem.W.typeIn K (.ref C_Nought) = some (.type "type"))
    (hc_Nought : PySem.W.hasDictIn K C_Nought = true)
    {C_TooGreat : Addr}
    (ac_TooGreat : PySem.W.nsIn K mainGlobals "TooGreat" = some (some (.ref C_TooGreat)))
    (sc_TooGreat : PySem.W.subIn K (.ref C_TooGreat) (.type "BaseException") = some true)
    (tc_TooGreat : PySem.W.typeIn K (.ref C_TooGreat) = some (.type "type"))
    (hc_TooGreat : PySem.W.hasDictIn K C_TooGreat = true)
    {C_TooHigh : Addr}
    (ac_TooHigh : PySem.W.nsIn K mainGlobals "TooHigh" = some (some (.ref C_TooHigh)))
    (sc_TooHigh : PySem.W.subIn K (.ref C_TooHigh) (.type "BaseException") = some true)
    (tc_TooHigh : PySem.W.typeIn K (.ref C_TooHigh) = some (.type "type"))
    (hc_TooHigh : PySem.W.hasDictIn K C_TooHigh = true)
    (ga_NoChore : PySem.W.findIn K (.ref C_NoChore) "__getattribute__" = some (some (.builtin "BaseException.__getattribute__")))
    (gg_NoChore : PySem.W.findIn K (.ref C_NoChore) "__getattr__" = some none)
    (gc_NoChore : PySem.W.findIn K (.ref C_NoChore) "__class__" = some (some (.builtin "object.__class__")))
    (mo_NoChore : PySem.W.mroIn K C_NoChore (.type "object") = some true)
    (sv_NoChore : PySem.W.subIn K (.ref C_NoChore) (.type "ValueError") = some true)
    (su_NoChore_HydraError : PySem.W.subIn K (.ref C_NoChore) (.ref C_HydraError) = some true)
    (su_NoChore_NoChore : PySem.W.subIn K (.ref C_NoChore) (.ref C_NoChore) = some true)
    (su_NoChore_NoFall : PySem.W.subIn K (.ref C_NoChore) (.ref C_NoFall) = some false)
    (su_NoChore_NoFit : PySem.W.subIn K (.ref C_NoChore) (.ref C_NoFit) = some false)
    (su_NoChore_NoHead : PySem.W.subIn K (.ref C_NoChore) (.ref C_NoHead) = some false)
    (su_NoChore_NoLimit : PySem.W.subIn K (.ref C_NoChore) (.ref C_NoLimit) = some false)
    (su_NoChore_NoName : PySem.W.subIn K (.ref C_NoChore) (.ref C_NoName) = some false)
    (su_NoChore_NoNumber : PySem.W.subIn K (.ref C_NoChore) (.ref C_NoNumber) = some false)
    (su_NoChore_NoRow : PySem.W.subIn K (.ref C_NoChore) (.ref C_NoRow) = some false)
    (su_NoChore_NoStep : PySem.W.subIn K (.ref C_NoChore) (.ref C_NoStep) = some false)
    (su_NoChore_NoText : PySem.W.subIn K (.ref C_NoChore) (.ref C_NoText) = some false)
    (su_NoChore_Nought : PySem.W.subIn K (.ref C_NoChore) (.ref C_Nought) = some false)
    (su_NoChore_TooGreat : PySem.W.subIn K (.ref C_NoChore) (.ref C_TooGreat) = some false)
    (su_NoChore_TooHigh : PySem.W.subIn K (.ref C_NoChore) (.ref C_TooHigh) = some false)
    (su_NoFall_NoFall : PySem.W.subIn K (.ref C_NoFall) (.ref C_NoFall) = some true)
    (su_NoFit_NoFit : PySem.W.subIn K (.ref C_NoFit) (.ref C_NoFit) = some true)
    (su_NoHead_NoHead : PySem.W.subIn K (.ref C_NoHead) (.ref C_NoHead) = some true)
    (su_NoLimit_NoLimit : PySem.W.subIn K (.ref C_NoLimit) (.ref C_NoLimit) = some true)
    (su_NoName_NoName : PySem.W.subIn K (.ref C_NoName) (.ref C_NoName) = some true)
    (su_NoNumber_NoNumber : PySem.W.subIn K (.ref C_NoNumber) (.ref C_NoNumber) = some true)
    (su_NoRow_NoRow : PySem.W.subIn K (.ref C_NoRow) (.ref C_NoRow) = some true)
    (su_NoStep_NoStep : PySem.W.subIn K (.ref C_NoStep) (.ref C_NoStep) = some true)
    (su_NoText_NoText : PySem.W.subIn K (.ref C_NoText) (.ref C_NoText) = some true)
    (su_Nought_Nought : PySem.W.subIn K (.ref C_Nought) (.ref C_Nought) = some true)
    (su_TooGreat_TooGreat : PySem.W.subIn K (.ref C_TooGreat) (.ref C_TooGreat) = some true)
    (su_TooHigh_TooHigh : PySem.W.subIn K (.ref C_TooHigh) (.ref C_TooHigh) = some true)
    (zget : PySem.W.specialIn K (.builtin "object.__class__") "__get__" = some (some (.builtin "getset_descriptor.__get__")))
    (ztak : PySem.W.takesIn K (.builtin "object.__class__") = some true)
    (hl : ∀ ns : List Int, ns.length ≤ 63 → (∀ z ∈ ns, z.natAbs.log2 ≤ 1048576) → sem 101 25 [.list (ns.map .int)] = .ok (.bool true)) :
    ∃ fd : FuncData, (∀ (s : Shared) (v : Value), BindsTo s fd ⟨[v], []⟩ [("_law_script", v)]) ∧ ∀ base : Heap, K.In base → base.Ns mainGlobals mg → FnOk l.prog w K mg base (L2.CX l.prog w) 101 fa fd ["_law_script"] (spLawB K) := by
  have e := hfa.symm.trans (PySem.W.mg_of X G a25)
  cases e
  have T : Whole K mg := {
    F_is_whole := ⟨f0, _, fun_mk (st := s_is_whole) l0 c0 k0, PySem.W.mg_of X G a0, (fun_mk (st := s_is_whole) l0 c0 k0).binds fun _ _ _ _ _ _ us hl => match us, hl with | [_], _ => rfl⟩
    F_compare := ⟨f1, _, fun_mk (st := s_compare) l1 c1 k1, PySem.W.mg_of X G a1, (fun_mk (st := s_compare) l1 c1 k1).binds fun _ _ _ _ _ _ us hl => match us, hl with | [_, _], _ => rfl⟩
    F_whole := ⟨f2, _, fun_mk (st := s_whole) l2 c2 k2, PySem.W.mg_of X G a2, (fun_mk (st := s_whole) l2 c2 k2).binds fun _ _ _ _ _ _ us hl => match us, hl with | [_], _ => rfl⟩
    F_raised := ⟨f3, _, (fun1_mk (st := s_raised) (i := 1) l3 c3 k3 lT3), PySem.W.mg_of X G a3, fun1_all (fun1_mk (st := s_raised) (i := 1) l3 c3 k3 lT3) rfl fun _ _ _ _ _ _ _ us its h1 h2 => match us, its, h1, h2 with | [_, _], [_], _, _ => ⟨_, rfl, rfl⟩, fun1_one (fun1_mk (st := s_raised) (i := 1) l3 c3 k3 lT3) rfl fun _ _ _ _ _ _ _ us its h1 h2 => match us, its, h1, h2 with | [_], [_], _, _ => ⟨_, rfl, rfl⟩⟩
    F_merged := ⟨f4, _, fun_mk (st := s_merged) l4 c4 k4, PySem.W.mg_of X G a4, (fun_mk (st := s_merged) l4 c4 k4).binds fun _ _ _ _ _ _ us hl => match us, hl with | [_, _], _ => rfl⟩
    F_kinds_of := ⟨f5, _, fun_mk (st := s_kinds_of) l5 c5 k5, PySem.W.mg_of X G a5, (fun_mk (st := s_kinds_of) l5 c5 k5).binds fun _ _ _ _ _ _ us hl => match us, hl with | [_], _ => rfl⟩
    F_next_rank := ⟨f6, _, fun_mk (st := s_next_rank) l6 c6 k6, PySem.W.mg_of X G a6, (fun_mk (st := s_next_rank) l6 c6 k6).binds fun _ _ _ _ _ _ us hl => match us, hl with | [_, _], _ => rfl⟩
    F_ring_from := ⟨f7, _, fun_mk (st := s_ring_from) l7 c7 k7, PySem.W.mg_of X G a7, (fun_mk (st := s_ring_from) l7 c7 k7).binds fun _ _ _ _ _ _ us hl => match us, hl with | [_, _, _], _ => rfl⟩
    F_ranks := ⟨f8, _, fun_mk (st := s_ranks) l8 c8 k8, PySem.W.mg_of X G a8, (fun_mk (st := s_ranks) l8 c8 k8).binds fun _ _ _ _ _ _ us hl => match us, hl with | [_], _ => rfl⟩
    F_heap_number := ⟨f9, _, fun_mk (st := s_heap_number) l9 c9 k9, PySem.W.mg_of X G a9, (fun_mk (st := s_heap_number) l9 c9 k9).binds fun _ _ _ _ _ _ us hl => match us, hl with | [_, _], _ => rfl⟩
    F_exchange := ⟨f10, _, fun_mk (st := s_exchange) l10 c10 k10, PySem.W.mg_of X G a10, (fun_mk (st := s_exchange) l10 c10 k10).binds fun _ _ _ _ _ _ us hl => match us, hl with | [_, _, _, _], _ => rfl⟩
    F_l_cell_at := ⟨f11, _, fun_mk (st := s_l_cell_at) l11 c11 k11, PySem.W.mg_of X G a11, (fun_mk (st := s_l_cell_at) l11 c11 k11).binds fun _ _ _ _ _ _ us hl => match us, hl with | [_, _], _ => rfl⟩
    F_l_whole := ⟨f12, _, fun_mk (st := s_l_whole) l12 c12 k12, PySem.W.mg_of X G a12, (fun_mk (st := s_l_whole) l12 c12 k12).binds fun _ _ _ _ _ _ us hl => match us, hl with | [_], _ => rfl⟩
    F_l_amount := ⟨f13, _, fun_mk (st := s_l_amount) l13 c13 k13, PySem.W.mg_of X G a13, (fun_mk (st := s_l_amount) l13 c13 k13).binds fun _ _ _ _ _ _ us hl => match us, hl with | [_], _ => rfl⟩
    F_l_rules := ⟨f14, _, fun_mk (st := s_l_rules) l14 c14 k14, PySem.W.mg_of X G a14, (fun_mk (st := s_l_rules) l14 c14 k14).binds fun _ _ _ _ _ _ us hl => match us, hl with | [_, _], _ => rfl⟩
    F_l_heap := ⟨f15, _, fun_mk (st := s_l_heap) l15 c15 k15, PySem.W.mg_of X G a15, (fun_mk (st := s_l_heap) l15 c15 k15).binds fun _ _ _ _ _ _ us hl => match us, hl with | [_, _], _ => rfl⟩
    F_l_ranked := ⟨f16, _, fun_mk (st := s_l_ranked) l16 c16 k16, PySem.W.mg_of X G a16, (fun_mk (st := s_l_ranked) l16 c16 k16).binds fun _ _ _ _ _ _ us hl => match us, hl with | [_, _], _ => rfl⟩
    F_l_given := ⟨f17, _, fun_mk (st := s_l_given) l17 c17 k17, PySem.W.mg_of X G a17, (fun_mk (st := s_l_given) l17 c17 k17).binds fun _ _ _ _ _ _ us hl => match us, hl with | [_, _, _, _], _ => rfl⟩
    F_l_allowed := ⟨f18, _, fun_mk (st := s_l_allowed) l18 c18 k18, PySem.W.mg_of X G a18, (fun_mk (st := s_l_allowed) l18 c18 k18).binds fun _ _ _ _ _ _ us hl => match us, hl with | [_, _, _, _], _ => rfl⟩
    F_l_behind := ⟨f19, _, fun_mk (st := s_l_behind) l19 c19 k19, PySem.W.mg_of X G a19, (fun_mk (st := s_l_behind) l19 c19 k19).binds fun _ _ _ _ _ _ us hl => match us, hl with | [_, _, _], _ => rfl⟩
    F_l_number := ⟨f20, _, fun_mk (st := s_l_number) l20 c20 k20, PySem.W.mg_of X G a20, (fun_mk (st := s_l_number) l20 c20 k20).binds fun _ _ _ _ _ _ us hl => match us, hl with | [_, _], _ => rfl⟩
    F_l_less := ⟨f21, _, fun_mk (st := s_l_less) l21 c21 k21, PySem.W.mg_of X G a21, (fun_mk (st := s_l_less) l21 c21 k21).binds fun _ _ _ _ _ _ us hl => match us, hl with | [_, _], _ => rfl⟩
    F_l_exchanged := ⟨f22, _, fun_mk (st := s_l_exchanged) l22 c22 k22, PySem.W.mg_of X G a22, (fun_mk (st := s_l_exchanged) l22 c22 k22).binds fun _ _ _ _ _ _ us hl => match us, hl with | [_, _, _, _], _ => rfl⟩
    F_l_refused_so := ⟨f23, _, fun_mk (st := s_l_refused_so) l23 c23 k23, PySem.W.mg_of X G a23, (fun_mk (st := s_l_refused_so) l23 c23 k23).binds fun _ _ _ _ _ _ us hl => match us, hl with | [_, _, _, _], _ => rfl⟩
    F_l_round := ⟨f24, _, fun_mk (st := s_l_round) l24 c24 k24, PySem.W.mg_of X G a24, (fun_mk (st := s_l_round) l24 c24 k24).binds fun _ _ _ _ _ _ us hl => match us, hl with | [_, _, _], _ => rfl⟩
    m_ValueError := PySem.W.mg_none_of X G z_ValueError
    m_bool := PySem.W.mg_none_of X G z_bool
    m_dict := PySem.W.mg_none_of X G z_dict
    m_int := PySem.W.mg_none_of X G z_int
    m_isinstance := PySem.W.mg_none_of X G z_isinstance
    m_len := PySem.W.mg_none_of X G z_len
    m_list := PySem.W.mg_none_of X G z_list
    m_max := PySem.W.mg_none_of X G z_max
    m_min := PySem.W.mg_none_of X G z_min
    m_range := PySem.W.mg_none_of X G z_range
    m_sorted := PySem.W.mg_none_of X G z_sorted
    m_tuple := PySem.W.mg_none_of X G z_tuple
    m_zip := PySem.W.mg_none_of X G z_zip
    e_NoChore := ⟨C_NoChore, PySem.W.mg_of X G ac_NoChore, xc_NoChore, kc_NoChore, sc_NoChore, tc_NoChore⟩
    e_NoNumber := ⟨C_NoNumber, PySem.W.mg_of X G ac_NoNumber, xc_NoNumber, kc_NoNumber, sc_NoNumber, tc_NoNumber⟩
    yl_HydraError_NoChore := (tryL_cons (PySem.W.mg_of X G ac_NoChore) (PySem.W.mg_of X G ac_HydraError) sc_HydraError hc_HydraError tc_HydraError su_NoChore_HydraError (tryL_nil (PySem.W.mg_of X G ac_HydraError)))
    yl_NoChore_NoChore := (tryL_cons (PySem.W.mg_of X G ac_NoChore) (PySem.W.mg_of X G ac_NoChore) sc_NoChore hc_NoChore tc_NoChore su_NoChore_NoChore (tryL_nil (PySem.W.mg_of X G ac_NoChore)))
    kl_NoChore_NoChore := (kitY_cons (PySem.W.mg_of X G ac_NoChore) (PySem.W.mg_of X G ac_NoChore) ⟨ga_NoChore, gg_NoChore, sc_NoChore, hc_NoChore, gc_NoChore, zget, ztak, mo_NoChore⟩ hc_NoChore tc_NoChore su_NoChore_NoChore (kitY_nil (PySem.W.mg_of X G ac_NoChore)))
    kl_NoFall_NoChore := (kitY_consF (PySem.W.mg_of X G ac_NoChore) (PySem.W.mg_of X G ac_NoFall) ⟨ga_NoChore, gg_NoChore, sc_NoChore, hc_NoChore, gc_NoChore, zget, ztak, mo_NoChore⟩ hc_NoFall tc_NoFall su_NoChore_NoFall su_NoFall_NoFall (kitY_nil (PySem.W.mg_of X G ac_NoFall)))
    kl_NoFit_NoChore := (kitY_consF (PySem.W.mg_of X G ac_NoChore) (PySem.W.mg_of X G ac_NoFit) ⟨ga_NoChore, gg_NoChore, sc_NoChore, hc_NoChore, gc_NoChore, zget, ztak, mo_NoChore⟩ hc_NoFit tc_NoFit su_NoChore_NoFit su_NoFit_NoFit (kitY_nil (PySem.W.mg_of X G ac_NoFit)))
    kl_NoHead_NoChore := (kitY_consF (PySem.W.mg_of X G ac_NoChore) (PySem.W.mg_of X G ac_NoHead) ⟨ga_NoChore, gg_NoChore, sc_NoChore, hc_NoChore, gc_NoChore, zget, ztak, mo_NoChore⟩ hc_NoHead tc_NoHead su_NoChore_NoHead su_NoHead_NoHead (kitY_nil (PySem.W.mg_of X G ac_NoHead)))
    kl_NoLimit_NoChore := (kitY_consF (PySem.W.mg_of X G ac_NoChore) (PySem.W.mg_of X G ac_NoLimit) ⟨ga_NoChore, gg_NoChore, sc_NoChore, hc_NoChore, gc_NoChore, zget, ztak, mo_NoChore⟩ hc_NoLimit tc_NoLimit su_NoChore_NoLimit su_NoLimit_NoLimit (kitY_nil (PySem.W.mg_of X G ac_NoLimit)))
    kl_NoName_NoChore := (kitY_consF (PySem.W.mg_of X G ac_NoChore) (PySem.W.mg_of X G ac_NoName) ⟨ga_NoChore, gg_NoChore, sc_NoChore, hc_NoChore, gc_NoChore, zget, ztak, mo_NoChore⟩ hc_NoName tc_NoName su_NoChore_NoName su_NoName_NoName (kitY_nil (PySem.W.mg_of X G ac_NoName)))
    kl_NoNumber_NoChore := (kitY_consF (PySem.W.mg_of X G ac_NoChore) (PySem.W.mg_of X G ac_NoNumber) ⟨ga_NoChore, gg_NoChore, sc_NoChore, hc_NoChore, gc_NoChore, zget, ztak, mo_NoChore⟩ hc_NoNumber tc_NoNumber su_NoChore_NoNumber su_NoNumber_NoNumber (kitY_nil (PySem.W.mg_of X G ac_NoNumber)))
    kl_NoRow_NoChore := (kitY_consF (PySem.W.mg_of X G ac_NoChore) (PySem.W.mg_of X G ac_NoRow) ⟨ga_NoChore, gg_NoChore, sc_NoChore, hc_NoChore, gc_NoChore, zget, ztak, mo_NoChore⟩ hc_NoRow tc_NoRow su_NoChore_NoRow su_NoRow_NoRow (kitY_nil (PySem.W.mg_of X G ac_NoRow)))
    kl_NoStep_NoChore := (kitY_consF (PySem.W.mg_of X G ac_NoChore) (PySem.W.mg_of X G ac_NoStep) ⟨ga_NoChore, gg_NoChore, sc_NoChore, hc_NoChore, gc_NoChore, zget, ztak, mo_NoChore⟩ hc_NoStep tc_NoStep su_NoChore_NoStep su_NoStep_NoStep (kitY_nil (PySem.W.mg_of X G ac_NoStep)))
    kl_NoText_NoChore := (kitY_consF (PySem.W.mg_of X G ac_NoChore) (PySem.W.mg_of X G ac_NoText) ⟨ga_NoChore, gg_NoChore, sc_NoChore, hc_NoChore, gc_NoChore, zget, ztak, mo_NoChore⟩ hc_NoText tc_NoText su_NoChore_NoText su_NoText_NoText (kitY_nil (PySem.W.mg_of X G ac_NoText)))
    kl_Nought_NoChore := (kitY_consF (PySem.W.mg_of X G ac_NoChore) (PySem.W.mg_of X G ac_Nought) ⟨ga_NoChore, gg_NoChore, sc_NoChore, hc_NoChore, gc_NoChore, zget, ztak, mo_NoChore⟩ hc_Nought tc_Nought su_NoChore_Nought su_Nought_Nought (kitY_nil (PySem.W.mg_of X G ac_Nought)))
    kl_TooGreat_NoChore := (kitY_consF (PySem.W.mg_of X G ac_NoChore) (PySem.W.mg_of X G ac_TooGreat) ⟨ga_NoChore, gg_NoChore, sc_NoChore, hc_NoChore, gc_NoChore, zget, ztak, mo_NoChore⟩ hc_TooGreat tc_TooGreat su_NoChore_TooGreat su_TooGreat_TooGreat (kitY_nil (PySem.W.mg_of X G ac_TooGreat)))
    kl_TooHigh_NoChore := (kitY_consF (PySem.W.mg_of X G ac_NoChore) (PySem.W.mg_of X G ac_TooHigh) ⟨ga_NoChore, gg_NoChore, sc_NoChore, hc_NoChore, gc_NoChore, zget, ztak, mo_NoChore⟩ hc_TooHigh tc_TooHigh su_NoChore_TooHigh su_TooHigh_TooHigh (kitY_nil (PySem.W.mg_of X G ac_TooHigh)))
    kl_ValueError_NoChore := (kitL_cons (PySem.W.mg_of X G ac_NoChore) ⟨ga_NoChore, gg_NoChore, sc_NoChore, hc_NoChore, gc_NoChore, zget, ztak, mo_NoChore⟩ (kitOne_ve sv_NoChore) kitL_nil)
  }
  exact ⟨_, fun s v => .of_eq rfl, fun base _ _ => law_ok T (fun_mk (st := s_law) l25 c25 k25) hl⟩
end
end Lk68
set_option Elab.async false
set_option linter.all false
set_option maxRecDepth 100000
set_option maxHeartbeats 4000000
namespace Lk68
open PySem PySem.Spec L2 Pu Nm Rk
abbrev prI (p : Str × Int) : PyData := .tuple [.str p.1, .int p.2]
theorem items_kv (H : Hd) : (kv PyData.int H).map itI = H.map prI := by unfold kv; rw [List.map_map]; rfl
theorem dgetI (H : Hd) (k : Str) : gDget (kv PyData.int H) (.str k) (.int 0) = some (.int (hv H k)) := by
  unfold gDget
  rw [keyD_k, Option.map_some, val_kv]
  unfold hv
  cases gt H k <;> rfl
def Alw (rs : Rs) (H : Hd) (k : Str) (G : Hd) : Prop := (∃ l, gt rs k = some l ∧ ∀ p ∈ G, 0 < p.2 → p.1 ∈ l) ∧ hv H k ≠ 0
structure Ctx (rs : Rs) (H : Hd) (k : Str) (G : Hd) : Prop where
  R : RsOk rs
  h : HOk H
  g : GOk G
  so : ∀ p ∈ G, PyData.strOk p.1 = true
  len : H.length + G.length ≤ 10000
abbrev exB1 : Vars → Out := sIf (tAndR (tOf (eOp gGt (eVar 5) (eC (.int 0)))) (tOf (eOp gNinL (eVar 4) (eOp gDix (eVar 0) (eVar 2))))) (sRaise "NoChore") sNil
abbrev tg2 (i j : Nat) : PyData → Vars → Option Vars := gtTup 2 (gtCons (gtName i) (gtCons (gtName j) gtNil))
section
variable {S : Nat → Fn} {rs : Rs} {H G : Hd} {k : Str} {x6 x7 : Option PyData}
theorem ex1_yes (C : Ctx rs H k G) {l : List Str} (gl : gt rs k = some l) : ∀ (qs : Hd) (y4 y5 : Option PyData), (∀ p ∈ qs, p ∈ G) → (∀ p ∈ qs, 0 < p.2 → p.1 ∈ l) → ∃ z4 z5, forL (tg2 4 5) exB1 (qs.map prI) [some (rsD rs), some (knD H), some (.str k), some (knD G), y4, y5, x6, x7] = .nx [some (rsD rs), some (knD H), some (.str k), some (knD G), z4, z5, x6, x7] := fun qs y4 y5 hm ha => by
  obtain ⟨⟨z4, z5⟩, e, _⟩ := forL_fj (gt := tg2 4 5) (g := exB1) prI (fun (_ : Unit) _ => ()) (fun _ (j : Option PyData × Option PyData) => [some (rsD rs), some (knD H), some (.str k), some (knD G), j.1, j.2, x6, x7]) (fun _ => True) qs () (y4, y5) trivial fun p hp _ j _ => by
    refine ⟨_, (some (.str p.1), some (.int p.2)), rfl, ?_, trivial⟩
    have dx := dix_kv (f := tx) gl
    have lo : ∀ v ∈ l, PyData.strOk v = true := fun v hv => C.R.ok v (List.mem_flatMap.mpr ⟨(k, l), gt_some gl, List.mem_cons_of_mem _ hv⟩)
    have gn := gNinL_tx (C.so p (hm p hp)) lo
    by_cases c : 0 < p.2
    · rw [decide_eq_true (ha p hp c)] at gn
      unfold rsD at *
      generalize kv tx rs = RR at *
      generalize knD H = HH at *
      generalize knD G = GG at *
      generalize tx l = TL at *
      simp [c, dx, gn]
    · unfold rsD at *
      generalize kv tx rs = RR at *
      generalize knD H = HH at *
      generalize knD G = GG at *
      simp [c]
  exact ⟨z4, z5, e⟩
theorem ex1_no (C : Ctx rs H k G) {l : List Str} (gl : gt rs k = some l) : ∀ (qs : Hd) (y4 y5 : Option PyData), (∀ p ∈ qs, p ∈ G) → (∃ p ∈ qs, 0 < p.2 ∧ p.1 ∉ l) → ∃ ρ', forL (tg2 4 5) exB1 (qs.map prI) [some (rsD rs), some (knD H), some (.str k), some (knD G), y4, y5, x6, x7] = .err "NoChore" ρ'
  | [], y4, y5, _, h => by obtain ⟨p, hp, _⟩ := h; cases hp
  | p :: qs, y4, y5, hm, h => by
    have dx := dix_kv (f := tx) gl
    have lo : ∀ v ∈ l, PyData.strOk v = true := fun v hv => C.R.ok v (List.mem_flatMap.mpr ⟨(k, l), gt_some gl, List.mem_cons_of_mem _ hv⟩)
    have gn := gNinL_tx (C.so p (hm p (by simp))) lo
    rw [List.map_cons, u_forL_c]
    by_cases c : 0 < p.2 ∧ p.1 ∉ l
    · rw [decide_eq_false c.2] at gn
      have one : exB1 [some (rsD rs), some (knD H), some (.str k), some (knD G), some (.str p.1), some (.int p.2), x6, x7] = .err "NoChore" [some (rsD rs), some (knD H), some (.str k), some (knD G), some (.str p.1), some (.int p.2), x6, x7] := by
        have c1 := c.1
        unfold rsD at *
        generalize kv tx rs = RR at *
        generalize knD H = HH at *
        generalize knD G = GG at *
        generalize tx l = TL at *
        simp [c1, dx, gn]
      refine ⟨[some (rsD rs), some (knD H), some (.str k), some (knD G), some (.str p.1), some (.int p.2), x6, x7], ?_⟩
      show (match exB1 [some (rsD rs), some (knD H), some (.str k), some (knD G), some (.str p.1), some (.int p.2), x6, x7] with
        | .nx ρ2 => _ | .ct ρ2 => _ | .bk ρ2 => _ | .rt d => _ | .err c ρ2 => _ | .bad => _) = _
      rw [one]
    · obtain ⟨ρ', e⟩ := ex1_no C gl qs (some (.str p.1)) (some (.int p.2)) (fun q hq => hm q (List.mem_cons_of_mem _ hq)) (by
        obtain ⟨q, hq, hc⟩ := h
        rcases List.mem_cons.mp hq with rfl | z
        · exact absurd hc c
        · exact ⟨q, z, hc⟩)
      have one : exB1 [some (rsD rs), some (knD H), some (.str k), some (knD G), some (.str p.1), some (.int p.2), x6, x7] = .nx [some (rsD rs), some (knD H), some (.str k), some (knD G), some (.str p.1), some (.int p.2), x6, x7] := by
        by_cases c1 : 0 < p.2
        · have c2 : p.1 ∈ l := Classical.byContradiction fun z => c ⟨c1, z⟩
          rw [decide_eq_true c2] at gn
          unfold rsD at *
          generalize kv tx rs = RR at *
          generalize knD H = HH at *
          generalize knD G = GG at *
          generalize tx l = TL at *
          simp [c1, dx, gn]
        · unfold rsD at *
          generalize kv tx rs = RR at *
          generalize knD H = HH at *
          generalize knD G = GG at *
          simp [c1]
      refine ⟨ρ', ?_⟩
      rw [← e]
      show (match exB1 [some (rsD rs), some (knD H), some (.str k), some (knD G), some (.str p.1), some (.int p.2), x6, x7] with
        | .nx ρ2 => _ | .ct ρ2 => _ | .bk ρ2 => _ | .rt d => _ | .err c ρ2 => _ | .bad => _) = _
      rw [one]
end
theorem kept_loop {S : Nat → Fn} {a0 a1 a2 a3 : Option PyData} {LL : PyData} : ∀ (qs acc : Hd) (y4 y5 : Option PyData), ((acc ++ qs).map (·.1)).Nodup → acc.length + qs.length ≤ 100000 → ∃ z4 z5, forL (tg2 4 5) (gb_exchange_2 S) (qs.map prI) [a0, a1, a2, a3, y4, y5, some LL, some (knD acc)] = .nx [a0, a1, a2, a3, z4, z5, some LL, some (knD (acc ++ keepP qs))]
  | [], acc, y4, y5, _, _ => ⟨y4, y5, by show _ = Out.nx [a0, a1, a2, a3, y4, y5, some LL, some (knD (acc ++ []))]; rw [List.append_nil]; rfl⟩
  | p :: qs, acc, y4, y5, hn, hl => by
    rw [List.map_cons, u_forL_c]
    by_cases c : 0 < p.2
    · have gn : gt acc p.1 = none := gt_none.mpr fun z => by
        rw [List.map_append, List.nodup_append] at hn
        exact hn.2.2 p.1 z p.1 (by simp) rfl
      have pu := put_kv PyData.int acc p.1 p.2
      rw [pt_new gn] at pu
      have ii := ins_kv PyData.int acc
      have ll : (kv PyData.int acc).length < sizeLine := sz1000' (by rw [len_kv]; omega)
      obtain ⟨z4, z5, e⟩ := kept_loop (S := S) (a0 := a0) (a1 := a1) (a2 := a2) (a3 := a3) (LL := LL) qs (acc ++ [p]) (some (.str p.1)) (some (.int p.2)) (by rw [List.append_assoc]; exact hn) (by rw [List.length_append, List.length_singleton]; rw [List.length_cons] at hl; omega)
      have ek : keepP (p :: qs) = p :: keepP qs := by unfold keepP; rw [List.filter_cons, if_pos (decide_eq_true c)]
      refine ⟨z4, z5, ?_⟩
      rw [ek]
      rw [List.append_assoc] at e
      have e' : forL (tg2 4 5) (gb_exchange_2 S) (qs.map prI) [a0, a1, a2, a3, some (.str p.1), some (.int p.2), some LL, some (knD (acc ++ [p]))] = .nx [a0, a1, a2, a3, z4, z5, some LL, some (knD (acc ++ p :: keepP qs))] := e
      rw [← e']
      have ep : (p.1, p.2) = p := rfl
      have one : gb_exchange_2 S [a0, a1, a2, a3, some (.str p.1), some (.int p.2), some LL, some (knD acc)] = .nx [a0, a1, a2, a3, some (.str p.1), some (.int p.2), some LL, some (knD (acc ++ [p]))] := by
        unfold knD
        rw [← ep]
        dsimp only
        rw [← pu]
        generalize kv PyData.int acc = AA at *
        simp [c, ii, keyD_k, ll]
      show (match gb_exchange_2 S [a0, a1, a2, a3, some (.str p.1), some (.int p.2), some LL, some (knD acc)] with
        | .nx ρ2 => _ | .ct ρ2 => _ | .bk ρ2 => _ | .rt d => _ | .err c ρ2 => _ | .bad => _) = _
      rw [one]
    · obtain ⟨z4, z5, e⟩ := kept_loop (S := S) (a0 := a0) (a1 := a1) (a2 := a2) (a3 := a3) (LL := LL) qs acc (some (.str p.1)) (some (.int p.2)) (by
        rw [List.map_append, List.nodup_append] at hn ⊢
        rw [List.map_cons, List.nodup_cons] at hn
        exact ⟨hn.1, hn.2.1.2, fun a ha b hb => hn.2.2 a ha b (List.mem_cons_of_mem _ hb)⟩) (by rw [List.length_cons] at hl; omega)
      have ek : keepP (p :: qs) = keepP qs := by unfold keepP; rw [List.filter_cons, if_neg (by simpa using c)]
      refine ⟨z4, z5, ?_⟩
      rw [ek, ← e]
      have one : gb_exchange_2 S [a0, a1, a2, a3, some (.str p.1), some (.int p.2), some LL, some (knD acc)] = .nx [a0, a1, a2, a3, some (.str p.1), some (.int p.2), some LL, some (knD acc)] := by
        generalize knD acc = AA at *
        simp [c]
      show (match gb_exchange_2 S [a0, a1, a2, a3, some (.str p.1), some (.int p.2), some LL, some (knD acc)] with
        | .nx ρ2 => _ | .ct ρ2 => _ | .bk ρ2 => _ | .rt d => _ | .err c ρ2 => _ | .bad => _) = _
      rw [one]
theorem exchange_yes {S : Nat → Fn} {rs : Rs} {H G : Hd} {k : Str} (C : Ctx rs H k G) (a : Alw rs H k G) : fnD 8 (g_exchange S) [rsD rs, knD H, .str k, knD G] = .ok (knD (exH H k G)) := by
  refine fnD_of ?_
  obtain ⟨⟨l, gl, hal⟩, hk⟩ := a
  have hk0 := hv_ge C.h k
  obtain ⟨z4, z5, e1⟩ := ex1_yes (x6 := none) (x7 := none) C gl G none none (fun p h => h) hal
  rw [← items_kv] at e1
  have o1 : GOk (pt H k (hv H k - 1)) := C.h.g.put (by omega)
  -- left
  have ii := ins_kv PyData.int
  obtain ⟨⟨w4, w5⟩, e2, o2, l2, n2⟩ := forL_fj (gt := tg2 4 5) (g := gb_exchange_1 S) prI (fun (q : Hd × Nat) p => (addH q.1 p, q.2 + 1)) (fun q (j : Option PyData × Option PyData) => [some (rsD rs), some (knD H), some (.str k), some (knD G), j.1, j.2, some (knD q.1), none])
    (fun q => GOk q.1 ∧ (∀ w ∈ q.1.map (·.1), w ∈ H.map (·.1) ++ k :: G.map (·.1)) ∧ True) G (pt H k (hv H k - 1), 0) (z4, z5) ⟨o1, fun w hw => by
      rw [pt_keys] at hw
      split at hw
      · exact List.mem_append_left _ hw
      · rcases List.mem_append.mp hw with z | z
        · exact List.mem_append_left _ z
        · exact List.mem_append_right _ (by rw [List.mem_singleton.mp z]; simp), trivial⟩ fun p hp q j hq => by
      have h0 := gv_ge hq.1 p.1
      have hp0 := C.g.pos p hp
      have dg := dgetI q.1 p.1
      have pu := put_kv PyData.int q.1 p.1 (hv q.1 p.1 + p.2)
      have ll : (kv PyData.int q.1).length < sizeLine := sz1000' (by
        have := sub_len hq.1.nd hq.2.1
        rw [List.length_map, List.length_append, List.length_cons, List.length_map, List.length_map] at this
        have := C.len
        rw [len_kv]; omega)
      refine ⟨_, (some (.str p.1), some (.int p.2)), rfl, ?_, hq.1.put (by omega), fun w hw => ?_, trivial⟩
      · have iq := ii q.1
        unfold addH
        unfold knD
        dsimp only
        rw [← pu]
        unfold rsD
        generalize kv tx rs = RR at *
        generalize kv PyData.int H = HH at *
        generalize kv PyData.int G = GG at *
        generalize kv PyData.int q.1 = QQ at *
        simp [iq, dg, keyD_k, ll, imm]
      · have hw' : w ∈ (pt q.1 p.1 (hv q.1 p.1 + p.2)).map (·.1) := hw
        rw [pt_keys] at hw'
        split at hw'
        · exact hq.2.1 w hw'
        · rcases List.mem_append.mp hw' with z | z
          · exact hq.2.1 w z
          · exact List.mem_append_right _ (List.mem_cons_of_mem _ (by rw [List.mem_singleton.mp z]; exact List.mem_map.mpr ⟨p, hp, rfl⟩))
  have ef : ∀ (qs : Hd) (L : Hd) (n : Nat), (qs.foldl (fun (q : Hd × Nat) p => (addH q.1 p, q.2 + 1)) (L, n)).1 = qs.foldl addH L := fun qs => by
    induction qs with
    | nil => intro L n; rfl
    | cons p qs ih => intro L n; rw [List.foldl_cons, List.foldl_cons]; exact ih _ _
  rw [ef] at o2 l2
  dsimp only at e2
  rw [ef] at e2
  rw [← items_kv] at e2
  obtain ⟨LL, hLL⟩ : ∃ LL, LL = G.foldl addH (pt H k (hv H k - 1)) := ⟨_, rfl⟩
  rw [← hLL] at o2 l2 e2
  have eE : exH H k G = keepP LL := by unfold exH; rw [hLL]
  have lLL : LL.length ≤ 20001 := by
    have := sub_len o2.nd l2
    rw [List.length_map, List.length_append, List.length_cons, List.length_map, List.length_map] at this
    have := C.len
    omega
  obtain ⟨v4, v5, e3⟩ := kept_loop (S := S) (a0 := some (rsD rs)) (a1 := some (knD H)) (a2 := some (.str k)) (a3 := some (knD G)) (LL := knD LL) LL [] w4 w5 o2.nd (by rw [List.length_nil]; omega)
  rw [List.nil_append, ← items_kv] at e3
  rw [eE]
  -- the steps
  have din := dnin_kv tx rs k
  rw [gl] at din
  have dg := dgetI H k
  have f1 : sIf (tOrR (tOf (eOp gDnin (eVar 2) (eVar 0))) (tOf (eOp gEq (eDget (eVar 1) (eVar 2) (eC (.int 0))) (eC (.int 0))))) (sRaise "NoChore") sNil [some (rsD rs), some (knD H), some (.str k), some (knD G), none, none, none, none] = .nx [some (rsD rs), some (knD H), some (.str k), some (knD G), none, none, none, none] := by
    have iH := ii H
    unfold rsD knD at *
    generalize kv tx rs = RR at *
    generalize kv PyData.int H = HH at *
    generalize kv PyData.int G = GG at *
    simp [din, iH, dg, hk]
  have f2 : sForDE [6, 7] (eVar 3) itI (tg2 4 5) exB1 [some (rsD rs), some (knD H), some (.str k), some (knD G), none, none, none, none] = .nx [some (rsD rs), some (knD H), some (.str k), some (knD G), z4, z5, none, none] := by
    have iG := ii G
    unfold knD at *
    generalize rsD rs = RR at *
    generalize kv PyData.int H = HH at *
    generalize kv PyData.int G = GG at *
    generalize exB1 = B1 at *
    simp [iG, e1]
  have f3 : sNewV [6, 7] 6 (eCall gDcopy (aCons (eVar 1) aNil)) [some (rsD rs), some (knD H), some (.str k), some (knD G), z4, z5, none, none] = .nx [some (rsD rs), some (knD H), some (.str k), some (knD G), z4, z5, some (knD H), none] := by
    have dc : gDcopy [knD H] = some (knD H) := by unfold gDcopy knD; dsimp only; rw [if_neg (by rw [ii]; decide)]
    generalize rsD rs = RR at *
    generalize knD H = HH at *
    generalize knD G = GG at *
    simp [dc]
  have f4 : sDPut 6 (eOp gSub (eOp gDix (eVar 6) (eVar 2)) (eC (.int 1))) (eVar 2) [some (rsD rs), some (knD H), some (.str k), some (knD G), z4, z5, some (knD H), none] = .nx [some (rsD rs), some (knD H), some (.str k), some (knD G), z4, z5, some (knD (pt H k (hv H k - 1))), none] := by
    obtain ⟨m, gm⟩ : ∃ m, gt H k = some m := by
      cases e : gt H k with
      | some m => exact ⟨m, rfl⟩
      | none => exact absurd (by unfold hv; rw [e]; rfl) hk
    have hm : hv H k = m := by unfold hv; rw [gm]; rfl
    have dx := dix_kv (f := PyData.int) gm
    have pu := put_kv PyData.int H k (hv H k - 1)
    rw [hm] at pu ⊢
    have iH := ii H
    have ll : (kv PyData.int H).length < sizeLine := sz1000' (by rw [len_kv]; have := C.len; omega)
    unfold knD at *
    rw [← pu]
    generalize rsD rs = RR at *
    generalize kv PyData.int H = HH at *
    generalize kv PyData.int G = GG at *
    simp [dx, iH, keyD_k, ll, imm]
  have f5 : sForDP [6, 7] false (eVar 3) itI (tg2 4 5) (gb_exchange_1 S) [some (rsD rs), some (knD H), some (.str k), some (knD G), z4, z5, some (knD (pt H k (hv H k - 1))), none] = .nx [some (rsD rs), some (knD H), some (.str k), some (knD G), w4, w5, some (knD LL), none] := by
    have iG := ii G
    unfold knD at *
    generalize rsD rs = RR at *
    generalize kv PyData.int H = HH at *
    generalize kv PyData.int G = GG at *
    generalize kv PyData.int LL = L2 at *
    generalize kv PyData.int (pt H k (hv H k - 1)) = L1 at *
    simp [iG, e2]
  have f6 : sNewV [7] 7 (eC (.dict [])) [some (rsD rs), some (knD H), some (.str k), some (knD G), w4, w5, some (knD LL), none] = .nx [some (rsD rs), some (knD H), some (.str k), some (knD G), w4, w5, some (knD LL), some (knD [])] := by
    generalize rsD rs = RR at *
    generalize knD H = HH at *
    generalize knD G = GG at *
    generalize knD LL = L2 at *
    simp [knD, kv]
  have f7 : sForDP [7] false (eVar 6) itI (tg2 4 5) (gb_exchange_2 S) [some (rsD rs), some (knD H), some (.str k), some (knD G), w4, w5, some (knD LL), some (knD [])] = .nx [some (rsD rs), some (knD H), some (.str k), some (knD G), v4, v5, some (knD LL), some (knD (keepP LL))] := by
    have iL := ii LL
    unfold knD at *
    generalize rsD rs = RR at *
    generalize kv PyData.int H = HH at *
    generalize kv PyData.int G = GG at *
    generalize kv PyData.int (keepP LL) = L3 at *
    generalize kv PyData.int LL = L2 at *
    generalize kv PyData.int [] = L0 at *
    simp [iL, e3]
  unfold g_exchange
  show sSeq _ (sSeq _ (sSeq _ (sSeq _ (sSeq _ (sSeq _ (sSeq _ _)))))) [some (rsD rs), some (knD H), some (.str k), some (knD G), none, none, none, none] = _
  rw [u_sSeq, f1, Out.then_nx, u_sSeq, f2, Out.then_nx, u_sSeq, f3, Out.then_nx, u_sSeq, f4, Out.then_nx, u_sSeq, f5, Out.then_nx, u_sSeq, f6, Out.then_nx, u_sSeq, f7, Out.then_nx]
  rfl
end Lk68
set_option Elab.async false
set_option linter.all false
set_option maxRecDepth 100000
set_option maxHeartbeats 4000000
namespace Lk68
open PySem PySem.Spec L2 Pu Nm Rk
theorem exchange_no {S : Nat → Fn} {rs : Rs} {H G : Hd} {k : Str} (C : Ctx rs H k G) (a : ¬ Alw rs H k G) : fnD 8 (g_exchange S) [rsD rs, knD H, .str k, knD G] = .err "NoChore" := by
  have ii := ins_kv PyData.int
  have din := dnin_kv tx rs k
  have dg := dgetI H k
  have iH := ii H
  by_cases c : (gt rs k).isSome = true ∧ hv H k ≠ 0
  · obtain ⟨l, gl⟩ := Option.isSome_iff_exists.mp c.1
    have hm : ∃ p ∈ G, 0 < p.2 ∧ p.1 ∉ l := Classical.byContradiction fun z => a ⟨⟨l, gl, fun p hp h0 => Classical.byContradiction fun q => z ⟨p, hp, h0, q⟩⟩, c.2⟩
    obtain ⟨ρ', e1⟩ := ex1_no (x6 := none) (x7 := none) C gl G none none (fun p h => h) hm
    rw [← items_kv] at e1
    rw [gl] at din
    have hk := c.2
    have iG := ii G
    refine fnD_err (ρ := ρ') ?_
    have f1 : sIf (tOrR (tOf (eOp gDnin (eVar 2) (eVar 0))) (tOf (eOp gEq (eDget (eVar 1) (eVar 2) (eC (.int 0))) (eC (.int 0))))) (sRaise "NoChore") sNil [some (rsD rs), some (knD H), some (.str k), some (knD G), none, none, none, none] = .nx [some (rsD rs), some (knD H), some (.str k), some (knD G), none, none, none, none] := by
      unfold rsD knD at *
      generalize kv tx rs = RR at *
      generalize kv PyData.int H = HH at *
      generalize kv PyData.int G = GG at *
      simp [din, iH, dg, hk]
    have f2 : sForDE [6, 7] (eVar 3) itI (tg2 4 5) exB1 [some (rsD rs), some (knD H), some (.str k), some (knD G), none, none, none, none] = .err "NoChore" ρ' := by
      unfold knD at *
      generalize rsD rs = RR at *
      generalize kv PyData.int H = HH at *
      generalize kv PyData.int G = GG at *
      generalize exB1 = B1 at *
      simp [iG, e1]
    unfold g_exchange
    show sSeq _ (sSeq _ _) [some (rsD rs), some (knD H), some (.str k), some (knD G), none, none, none, none] = _
    rw [u_sSeq, f1, Out.then_nx, u_sSeq, f2]
    rfl
  · refine fnD_err (ρ := [some (rsD rs), some (knD H), some (.str k), some (knD G), none, none, none, none]) ?_
    unfold g_exchange
    by_cases c1 : (gt rs k).isSome = true
    · have hk : hv H k = 0 := Classical.byContradiction fun z => c ⟨c1, z⟩
      rw [c1] at din
      rw [hk] at dg
      unfold rsD knD at *
      generalize kv tx rs = RR at *
      generalize kv PyData.int H = HH at *
      generalize kv PyData.int G = GG at *
      simp [din, iH, dg]
    · have c2 : (gt rs k).isSome = false := by simpa using c1
      rw [c2] at din
      unfold rsD knD at *
      generalize kv tx rs = RR at *
      generalize kv PyData.int H = HH at *
      generalize kv PyData.int G = GG at *
      simp [din]
theorem dn_hv {H : Hd} (h : HOk H) (k : Str) : gDnin (.str k) (knD H) = some (.bool (decide (hv H k = 0))) := by
  rw [show knD H = .dict (kv PyData.int H) from rfl, dnin_kv]
  have := hv_in h (w := k)
  rw [gt_isSome]
  by_cases c : k ∈ H.map (·.1)
  · rw [decide_eq_true c, decide_eq_false (this.mp c)]; rfl
  · rw [decide_eq_false c, decide_eq_true (hv_out c)]; rfl
theorem allowed_yes {S : Nat → Fn} {rs : Rs} {H G : Hd} {k : Str} (C : Ctx rs H k G) (a : Alw rs H k G) : fnD 6 (g_l_allowed S) [rsD rs, knD H, .str k, knD G] = .ok (.bool true) := by
  refine fnD_of ?_
  obtain ⟨⟨l, gl, hal⟩, hk⟩ := a
  have din := dnin_kv tx rs k
  rw [gl] at din
  have dh := dn_hv C.h k
  rw [decide_eq_false hk] at dh
  have iG := ins_kv PyData.int G
  obtain ⟨⟨z4, z5⟩, e, _⟩ := forL_fj (gt := tg2 4 5) (g := gb_l_allowed_1 S) prI (fun (_ : Unit) _ => ()) (fun _ (j : Option PyData × Option PyData) => [some (rsD rs), some (knD H), some (.str k), some (knD G), j.1, j.2]) (fun _ => True) G () (none, none) trivial fun p hp _ j _ => by
    refine ⟨_, (some (.str p.1), some (.int p.2)), rfl, ?_, trivial⟩
    have dx := dix_kv (f := tx) gl
    have lo : ∀ v ∈ l, PyData.strOk v = true := fun v hv => C.R.ok v (List.mem_flatMap.mpr ⟨(k, l), gt_some gl, List.mem_cons_of_mem _ hv⟩)
    have gn := gNinL_tx (C.so p hp) lo
    by_cases c : 0 < p.2
    · rw [decide_eq_true (hal p hp c)] at gn
      unfold rsD at *
      generalize kv tx rs = RR at *
      generalize knD H = HH at *
      generalize knD G = GG at *
      generalize tx l = TL at *
      simp [c, dx, gn]
    · unfold rsD at *
      generalize kv tx rs = RR at *
      generalize knD H = HH at *
      generalize knD G = GG at *
      simp [c]
  have e' : forL (tg2 4 5) (gb_l_allowed_1 S) ((kv PyData.int G).map itI) [some (rsD rs), some (knD H), some (.str k), some (knD G), none, none] = .nx [some (rsD rs), some (knD H), some (.str k), some (knD G), z4, z5] := by rw [items_kv]; exact e
  have f1 : sIf (tOrR (tOf (eOp gDnin (eVar 2) (eVar 0))) (tOf (eOp gDnin (eVar 2) (eVar 1)))) (sRet (eC (.bool false))) sNil [some (rsD rs), some (knD H), some (.str k), some (knD G), none, none] = .nx [some (rsD rs), some (knD H), some (.str k), some (knD G), none, none] := by
    unfold rsD at *
    generalize kv tx rs = RR at *
    generalize knD H = HH at *
    generalize knD G = GG at *
    simp [din, dh]
  have f2 : sForDP [] true (eVar 3) itI (tg2 4 5) (gb_l_allowed_1 S) [some (rsD rs), some (knD H), some (.str k), some (knD G), none, none] = .nx [some (rsD rs), some (knD H), some (.str k), some (knD G), z4, z5] := by
    unfold knD at *
    generalize rsD rs = RR at *
    generalize kv PyData.int H = HH at *
    generalize kv PyData.int G = GG at *
    generalize gb_l_allowed_1 S = B1 at *
    simp [iG, e']
  unfold g_l_allowed
  show sSeq _ (sSeq _ _) [some (rsD rs), some (knD H), some (.str k), some (knD G), none, none] = _
  rw [u_sSeq, f1, Out.then_nx, u_sSeq, f2, Out.then_nx]
  rfl
theorem al_no {S : Nat → Fn} {rs : Rs} {H G : Hd} {k : Str} (C : Ctx rs H k G) {l : List Str} (gl : gt rs k = some l) : ∀ (qs : Hd) (y4 y5 : Option PyData), (∀ p ∈ qs, p ∈ G) → (∃ p ∈ qs, 0 < p.2 ∧ p.1 ∉ l) → forL (tg2 4 5) (gb_l_allowed_1 S) (qs.map prI) [some (rsD rs), some (knD H), some (.str k), some (knD G), y4, y5] = .rt (.bool false)
  | [], y4, y5, _, h => by obtain ⟨p, hp, _⟩ := h; cases hp
  | p :: qs, y4, y5, hm, h => by
    have dx := dix_kv (f := tx) gl
    have lo : ∀ v ∈ l, PyData.strOk v = true := fun v hv => C.R.ok v (List.mem_flatMap.mpr ⟨(k, l), gt_some gl, List.mem_cons_of_mem _ hv⟩)
    have gn := gNinL_tx (C.so p (hm p (by simp))) lo
    rw [List.map_cons, u_forL_c]
    by_cases c : 0 < p.2 ∧ p.1 ∉ l
    · rw [decide_eq_false c.2] at gn
      have one : gb_l_allowed_1 S [some (rsD rs), some (knD H), some (.str k), some (knD G), some (.str p.1), some (.int p.2)] = .rt (.bool false) := by
        have c1 := c.1
        unfold rsD at *
        generalize kv tx rs = RR at *
        generalize knD H = HH at *
        generalize knD G = GG at *
        generalize tx l = TL at *
        simp [c1, dx, gn]
      show (match gb_l_allowed_1 S [some (rsD rs), some (knD H), some (.str k), some (knD G), some (.str p.1), some (.int p.2)] with
        | .nx ρ2 => _ | .ct ρ2 => _ | .bk ρ2 => _ | .rt d => _ | .err c ρ2 => _ | .bad => _) = _
      rw [one]
    · have e := al_no (S := S) C gl qs (some (.str p.1)) (some (.int p.2)) (fun q hq => hm q (List.mem_cons_of_mem _ hq)) (by
        obtain ⟨q, hq, hc⟩ := h
        rcases List.mem_cons.mp hq with rfl | z
        · exact absurd hc c
        · exact ⟨q, z, hc⟩)
      have one : gb_l_allowed_1 S [some (rsD rs), some (knD H), some (.str k), some (knD G), some (.str p.1), some (.int p.2)] = .nx [some (rsD rs), some (knD H), some (.str k), some (knD G), some (.str p.1), some (.int p.2)] := by
        by_cases c1 : 0 < p.2
        · have c2 : p.1 ∈ l := Classical.byContradiction fun z => c ⟨c1, z⟩
          rw [decide_eq_true c2] at gn
          unfold rsD at *
          generalize kv tx rs = RR at *
          generalize knD H = HH at *
          generalize knD G = GG at *
          generalize tx l = TL at *
          simp [c1, dx, gn]
        · unfold rsD at *
          generalize kv tx rs = RR at *
          generalize knD H = HH at *
          generalize knD G = GG at *
          simp [c1]
      rw [← e]
      show (match gb_l_allowed_1 S [some (rsD rs), some (knD H), some (.str k), some (knD G), some (.str p.1), some (.int p.2)] with
        | .nx ρ2 => _ | .ct ρ2 => _ | .bk ρ2 => _ | .rt d => _ | .err c ρ2 => _ | .bad => _) = _
      rw [one]
theorem allowed_no {S : Nat → Fn} {rs : Rs} {H G : Hd} {k : Str} (C : Ctx rs H k G) (a : ¬ Alw rs H k G) : fnD 6 (g_l_allowed S) [rsD rs, knD H, .str k, knD G] = .ok (.bool false) := by
  refine fnD_of ?_
  have din := dnin_kv tx rs k
  have dh := dn_hv C.h k
  have iG := ins_kv PyData.int G
  by_cases c : (gt rs k).isSome = true ∧ hv H k ≠ 0
  · obtain ⟨l, gl⟩ := Option.isSome_iff_exists.mp c.1
    have hm : ∃ p ∈ G, 0 < p.2 ∧ p.1 ∉ l := Classical.byContradiction fun z => a ⟨⟨l, gl, fun p hp h0 => Classical.byContradiction fun q => z ⟨p, hp, h0, q⟩⟩, c.2⟩
    have e1 := al_no (S := S) C gl G none none (fun p h => h) hm
    rw [← items_kv] at e1
    rw [gl] at din
    rw [decide_eq_false c.2] at dh
    have f1 : sIf (tOrR (tOf (eOp gDnin (eVar 2) (eVar 0))) (tOf (eOp gDnin (eVar 2) (eVar 1)))) (sRet (eC (.bool false))) sNil [some (rsD rs), some (knD H), some (.str k), some (knD G), none, none] = .nx [some (rsD rs), some (knD H), some (.str k), some (knD G), none, none] := by
      unfold rsD at *
      generalize kv tx rs = RR at *
      generalize knD H = HH at *
      generalize knD G = GG at *
      simp [din, dh]
    have f2 : sForDP [] true (eVar 3) itI (tg2 4 5) (gb_l_allowed_1 S) [some (rsD rs), some (knD H), some (.str k), some (knD G), none, none] = .rt (.bool false) := by
      unfold knD at *
      generalize rsD rs = RR at *
      generalize kv PyData.int H = HH at *
      generalize kv PyData.int G = GG at *
      generalize gb_l_allowed_1 S = B1 at *
      simp [iG, e1]
    unfold g_l_allowed
    show sSeq _ (sSeq _ _) [some (rsD rs), some (knD H), some (.str k), some (knD G), none, none] = _
    rw [u_sSeq, f1, Out.then_nx, u_sSeq, f2]
    rfl
  · unfold g_l_allowed
    by_cases c1 : (gt rs k).isSome = true
    · have hk : hv H k = 0 := Classical.byContradiction fun z => c ⟨c1, z⟩
      rw [c1] at din
      rw [decide_eq_true hk] at dh
      unfold rsD at *
      generalize kv tx rs = RR at *
      generalize knD H = HH at *
      generalize knD G = GG at *
      simp [din, dh]
    · have c2 : (gt rs k).isSome = false := by simpa using c1
      rw [c2] at din
      unfold rsD at *
      generalize kv tx rs = RR at *
      generalize knD H = HH at *
      generalize knD G = GG at *
      simp [din]
theorem exchanged_yes {S : Nat → Fn} {a b c d e : PyData} (h : S 10 [a, b, c, d] = .ok e) : fnD 6 (g_l_exchanged S) [a, b, c, d] = .ok e := by
  refine fnD_of ?_
  unfold g_l_exchanged
  simp [h, sTryC]
theorem exchanged_no {S : Nat → Fn} {a b c d : PyData} (h : S 10 [a, b, c, d] = .err "NoChore") : fnD 6 (g_l_exchanged S) [a, b, c, d] = .ok .none := by
  refine fnD_of ?_
  have t1 : (tabL [("NoChore", true)]) (Str.ofString "NoChore") = some true := by decide +kernel
  unfold g_l_exchanged
  simp [h, sTryC, t1]
theorem refused_so {S : Nat → Fn} {a b c d : PyData} (h : S 10 [a, b, c, d] = .err "NoChore") : fnD 7 (g_l_refused_so S) [a, b, c, d] = .ok (.bool true) := by
  refine fnD_of ?_
  have t1 : (tabL [("NoChore", true)]) (Str.ofString "NoChore") = some true := by decide +kernel
  have t2 : (tabL [("NoChore", false)]) (Str.ofString "NoChore") = some false := by decide +kernel
  have t3 : anyT [[(("NoChore" : Str), false)], [("NoChore", false)], [("NoChore", false)], [("NoChore", false)], [("NoChore", false)], [("NoChore", false)]] "NoChore" = some false := by decide +kernel
  unfold g_l_refused_so
  simp [h, t1, t2, t3, eKit, eKits]
end Lk68
set_option Elab.async false
set_option linter.all false
set_option maxRecDepth 100000
set_option maxHeartbeats 4000000
namespace Rk
open PySem PySem.Spec L2 Pu Nm
theorem at_last {α : Type} (xs : List α) (x : α) : atI (xs ++ [x]) (-1) = some x := by
  unfold atI ixN
  rw [if_neg (by decide), List.length_append, List.length_singleton, if_pos (by omega), Option.bind_some, show ((-1 : Int) + ((xs.length + 1 : Nat) : Int)).toNat = xs.length by omega, List.getElem?_append_right (Nat.le_refl _), Nat.sub_self]
  rfl
structure Way (rs : Rs) (way : List Str) : Prop where
  ne : way ≠ []
  nd : way.Nodup
  un : ∀ w ∈ way, w ∈ kinds rs ∧ gt (known rs) w = none
  ch : ∀ i (h : i + 1 < way.length), way[i + 1] ∈ lsR rs way[i]
def d4 : Option Str → PyData
  | none => .none
  | some w => .str w
def accU (K : Kn) (a : Option Str) (o : Str) : Option Str := if (gt K o).isNone ∧ a = none then some o else a
theorem accU_some (K : Kn) : ∀ (l : List Str) (w : Str), l.foldl (accU K) (some w) = some w
  | [], w => rfl
  | o :: l, w => by
    have : accU K (some w) o = some w := if_neg fun h => by cases h.2
    rw [List.foldl_cons, this, accU_some K l w]
theorem accU_find (K : Kn) : ∀ l : List Str, l.foldl (accU K) none = l.find? fun o => (gt K o).isNone
  | [] => rfl
  | o :: l => by
    rw [List.foldl_cons, List.find?_cons]
    cases e : (gt K o).isNone with
    | true =>
      have : accU K none o = some o := if_pos ⟨e, rfl⟩
      rw [this, accU_some]
    | false =>
      have : accU K none o = none := if_neg fun h => by rw [e] at h; cases h.1
      rw [this, accU_find K l]
abbrev acB : Vars → Out := sIf (tAndR (tOf (eOp gDnin (eVar 5) (eVar 2))) (tOf (eOp gIsN (eVar 4) (eC .none)))) (sSetM [3] 4 (eVar 5)) sNil
theorem ac_loop (K : Kn) (x0 x1 x3 : Option PyData) (l : List Str) (y : Option PyData) : ∃ y', forL (gtName 5) acB (l.map .str) [x0, x1, some (knD K), x3, some .none, y] = .nx [x0, x1, some (knD K), x3, some (d4 (l.find? fun o => (gt K o).isNone)), y'] := by
  obtain ⟨y', h, _⟩ := forL_fj (gt := gtName 5) (g := acB) PyData.str (accU K) (fun a (y : Option PyData) => [x0, x1, some (knD K), x3, some (d4 a), y]) (fun _ => True) l none y trivial fun o ho a y _ => by
    refine ⟨_, some (.str o), rfl, ?_, trivial⟩
    have dn := dnin_kv PyData.int K o
    unfold accU
    have gn0 : gIsN .none .none = some (.bool true) := rfl
    have gn1 : ∀ w : Str, gIsN (.str w) .none = some (.bool false) := fun w => rfl
    cases e : gt K o with
    | some v =>
      rw [e] at dn
      rw [if_neg (by simp)]
      unfold knD at *
      generalize kv PyData.int K = KK at *
      generalize d4 a = A at *
      simp [dn]
    | none =>
      rw [e] at dn
      cases a with
      | none =>
        rw [if_pos ⟨rfl, rfl⟩]
        unfold knD at *
        generalize kv PyData.int K = KK at *
        simp [dn, d4, gn0]
      | some w =>
        rw [if_neg (by simp)]
        unfold knD at *
        generalize kv PyData.int K = KK at *
        simp [dn, d4, gn1]
  rw [accU_find] at h
  exact ⟨y', h⟩
abbrev rgB : Vars → Out := sSeq (sSetM [3] 4 (eC .none)) (sSeq (sForM [3] (eVar 1) (eOp gIx (eVar 3) (eNeg (eC (.int 1)))) (gtName 5) acB) (sSeq (sIf (tOf (eOp gInL (eVar 4) (eVar 3))) (sRet (eSl (eVar 3) (oSome (eIdx (eVar 3) (eVar 4))) oNone)) sNil) (sAppM [3] 3 (eVar 4))))
theorem rg_turn {rs : Rs} (R : RsOk rs) {way : List Str} (W : Way rs way) {x0 y4 y5 : Option PyData} :
    (∃ r, rgB [x0, some (rsD rs), some (knD (known rs)), some (tx way), y4, y5] = .rt (tx r) ∧ RingOk rs r) ∨
    ∃ a z4 z5, rgB [x0, some (rsD rs), some (knD (known rs)), some (tx way), y4, y5] = .nx [x0, some (rsD rs), some (knD (known rs)), some (tx (way ++ [a])), z4, z5] ∧ Way rs (way ++ [a]) := by
  obtain ⟨l, rfl⟩ : ∃ l, l = way.getLast W.ne := ⟨_, rfl⟩
  have ew : way.dropLast ++ [way.getLast W.ne] = way := List.dropLast_concat_getLast W.ne
  generalize hl : way.getLast W.ne = l at *
  have lm : l ∈ way := by rw [← hl]; exact List.getLast_mem W.ne
  obtain ⟨lk, ln⟩ := W.un l lm
  obtain ⟨o, ho, on⟩ := known_no lk ln
  obtain ⟨ls, gl, ol, _⟩ := lsR_uni ho
  have els : lsR rs l = ls := by unfold lsR; rw [gl]; rfl
  obtain ⟨a, fa⟩ : ∃ a, (ls.find? fun o => (gt (known rs) o).isNone) = some a := by
    cases e : (ls.find? fun o => (gt (known rs) o).isNone) with
    | some a => exact ⟨a, rfl⟩
    | none => exact absurd (by rw [on]; rfl) (List.find?_eq_none.mp e o ol)
  have am : a ∈ lsR rs l := by rw [els]; exact List.mem_of_find?_eq_some fa
  have an : gt (known rs) a = none := by
    have := List.find?_some fa
    exact Option.isNone_iff_eq_none.mp this
  obtain ⟨_, _, _, au⟩ := lsR_uni am
  have ak : a ∈ kinds rs := mem_kinds.mpr au
  have oa := R.ok a au
  have ow : ∀ w ∈ way, PyData.strOk w = true := fun w hw => R.ok w (mem_kinds.mp (W.un w hw).1)
  have wl : way.length ≤ 100000 := Nat.le_trans (sub_len W.nd fun w hw => (W.un w hw).1) (kinds_len R)
  obtain ⟨y', e1⟩ := ac_loop (known rs) x0 (some (rsD rs)) (some (tx way)) ls y5
  rw [fa] at e1
  have gx : gIx (tx way) (.int (-1)) = some (.str l) := by
    show atI (way.map PyData.str) (-1) = _
    rw [← ew, List.map_append]
    exact at_last _ _
  have dx : gDix (rsD rs) (.str l) = some (.list (ls.map .str)) := dix_kv (f := tx) gl
  have gi := gInL_tx oa ow
  by_cases c : a ∈ way
  · left
    rw [decide_eq_true c] at gi
    obtain ⟨j, hj⟩ : ∃ j, way.findIdx? (fun z => decide (z = a)) = some j := by
      cases e : way.findIdx? (fun z => decide (z = a)) with
      | some j => exact ⟨j, rfl⟩
      | none =>
        have := List.findIdx?_eq_none_iff.mp e a c
        simp at this
    obtain ⟨jl, j1, j2⟩ := List.findIdx?_eq_some_iff_getElem.mp hj
    have ja : way[j] = a := of_decide_eq_true j1
    have gd : gIdx (way.map .str) (.str a) = some (.int (j : Nat)) := by
      have sh := shaped_tx ow
      unfold gIdx
      unfold tx at sh
      rw [if_pos (by rw [shaped_w oa, sh]; rfl), List.findIdx?_map]
      have : ((fun z => PyData.eqv z (.str a)) ∘ PyData.str) = fun z : Str => decide (z = a) := by
        funext z
        exact eqv_w z a
      rw [this, hj]; rfl
    have cb : cutD (way.map PyData.str) (some (j : Int)) none = (way.drop j).map PyData.str := by
      rw [cut_back, List.length_map, Nat.min_eq_left (by omega), List.map_drop]
    refine ⟨way.drop j, ?_, ?_⟩
    · have sl : gSl (.list (way.map .str)) (some (j : Int)) none = some (.list ((way.drop j).map .str)) := by
        show some (PyData.list (cutD (way.map PyData.str) (some (j : Int)) none)) = _
        rw [cb]
      unfold tx at *
      generalize (way.drop j).map PyData.str = DL at *
      generalize way.map PyData.str = WL at *
      generalize ls.map PyData.str = LL at *
      generalize knD (known rs) = KK at *
      generalize rsD rs = RR at *
      simp [gx, dx, e1, d4, gi, gd, sl]
    · have ne : way.drop j ≠ [] := fun z => by have := congrArg List.length z; rw [List.length_drop, List.length_nil] at this; omega
      refine ⟨ne, W.nd.sublist (List.drop_sublist ..), fun i hi => ?_, ?_⟩
      · rw [List.length_drop] at hi
        have := W.ch (j + i) (by omega)
        simpa [List.getElem_drop, Nat.add_assoc] using this
      · have e2 : (way.drop j).head ne = a := by
          rw [List.head_eq_getElem, List.getElem_drop]; simpa using ja
        have e3 : (way.drop j).getLast ne = l := by
          rw [List.getLast_drop]; exact hl
        rw [e2, e3]; exact am
  · right
    rw [decide_eq_false c] at gi
    refine ⟨a, some (.str a), y', ?_, ?_⟩
    · have ll : (way.map PyData.str).length < sizeLine := sz1000' (by rw [List.length_map]; omega)
      have ma : (way ++ [a]).map PyData.str = way.map PyData.str ++ [.str a] := List.map_append ..
      unfold tx at *
      rw [ma]
      generalize way.map PyData.str = WL at *
      generalize ls.map PyData.str = LL at *
      generalize knD (known rs) = KK at *
      generalize rsD rs = RR at *
      simp [gx, dx, e1, d4, gi, ll]
    · refine ⟨by simp, List.nodup_append.mpr ⟨W.nd, by simp, fun x hx b hb e => c (by rw [List.mem_singleton.mp hb] at e; exact e ▸ hx)⟩, fun w hw => ?_, fun i hi => ?_⟩
      · rcases List.mem_append.mp hw with z | z
        · exact W.un w z
        · rw [List.mem_singleton.mp z]; exact ⟨ak, an⟩
      · rw [List.length_append, List.length_singleton] at hi
        by_cases q : i + 1 < way.length
        · rw [List.getElem_append_left q, List.getElem_append_left (by omega)]
          exact W.ch i q
        · have ei : i + 1 = way.length := by omega
          rw [List.getElem_append_left (show i < way.length by omega), List.getElem_append_right (by omega)]
          have : way[i]'(by omega) = l := by
            rw [← hl, List.getLast_eq_getElem]
            congr 1; omega
          rw [this]
          simpa using am
theorem rg_loop {rs : Rs} (R : RsOk rs) {x0 : Option PyData} : ∀ (n : Nat) (way : List Str) (y4 y5 : Option PyData) (f : Nat), Way rs way → (kinds rs).length < way.length + n → n ≤ f →
    ∃ r, whileL (tTru (eC (.bool true))) rgB f [x0, some (rsD rs), some (knD (known rs)), some (tx way), y4, y5] = .rt (tx r) ∧ RingOk rs r
  | 0, way, y4, y5, f, W, h, _ => by
    have := sub_len W.nd fun w hw => (W.un w hw).1
    omega
  | n + 1, way, y4, y5, 0, W, h, hf => by omega
  | n + 1, way, y4, y5, f + 1, W, h, hf => by
    have t : tTru (eC (.bool true)) [x0, some (rsD rs), some (knD (known rs)), some (tx way), y4, y5] = .ok true := rfl
    unfold whileL
    rw [t, Pu.R.run_ok, if_pos rfl]
    rcases rg_turn R W (x0 := x0) (y4 := y4) (y5 := y5) with ⟨r, e, ok⟩ | ⟨a, z4, z5, e, W2⟩
    · rw [e]; exact ⟨r, rfl, ok⟩
    · rw [e]
      exact rg_loop R n _ z4 z5 f W2 (by rw [List.length_append, List.length_singleton]; omega) (by omega)
theorem ring_step {S : Nat → Fn} : RingF (fun ds => fnD 6 (G_ring_from S) ds) := by
  intro rs R k hk hn
  have lk := kinds_len R
  obtain ⟨r, e, ok⟩ := rg_loop R (x0 := some (.str k)) ((kinds rs).length) [k] none none wfuel ⟨by simp, by simp, fun w hw => by rw [List.mem_singleton.mp hw]; exact ⟨hk, hn⟩, fun i hi => by simp at hi⟩ (by simp) (by show _ ≤ 1000000; omega)
  refine ⟨r, fnD_of ?_, ok⟩
  have le1 : 1 ≤ sizeLine := sz1000 (by decide)
  have f1 : sNew [3] 3 (nLst (aCons (eVar 0) aNil)) [some (.str k), some (rsD rs), some (knD (known rs)), none, none, none] = .nx [some (.str k), some (rsD rs), some (knD (known rs)), some (tx [k]), none, none] := by
    unfold tx
    generalize rsD rs = RR at *
    generalize knD (known rs) = KK at *
    simp [le1]
  show sSeq (sNew [3] 3 (nLst (aCons (eVar 0) aNil))) (whileL (tTru (eC (.bool true))) rgB wfuel) [some (.str k), some (rsD rs), some (knD (known rs)), none, none, none] = _
  rw [u_sSeq, f1, Out.then_nx]
  exact e
end Rk
set_option Elab.async false
set_option linter.all false
set_option maxRecDepth 100000
set_option maxHeartbeats 4000000
namespace Lk68
open PySem PySem.Spec L2 Pu Nm Rk
theorem gEq_w {x y : Str} (hx : PyData.strOk x = true) (hy : PyData.strOk y = true) : gEq (.str x) (.str y) = some (.bool (decide (x = y))) := by
  unfold gEq
  rw [if_pos (by simp [shp, PyData.canLay0, PyData.depth, hx, hy]), eqv_w]
theorem listK_kv {α : Type} (f : α → PyData) (ps : KD α) : gListK [.dict (kv f ps)] = some (tx (ps.map (·.1))) := by
  unfold gListK
  dsimp only
  rw [if_neg (by rw [ins_kv]; decide)]
  unfold kv tx
  rw [List.map_map, List.map_map]
  rfl
def mW (H : Hd) (k : Str) (G : Hd) (w : Str) : Int := hv H w + hv G w - if w = k then 1 else 0
def bhF (H : Hd) (k : Str) (G : Hd) (B : Hd) (w : Str) : Hd := if 0 < mW H k G w then pt B w (mW H k G w) else B
theorem hv_bh {H G : Hd} {k : Str} : ∀ (ws : List Str) (B : Hd) (v : Str), hv (ws.foldl (bhF H k G) B) v = if v ∈ ws ∧ 0 < mW H k G v then mW H k G v else hv B v
  | [], B, v => by rw [if_neg fun h => by cases h.1]; rfl
  | w :: ws, B, v => by
    rw [List.foldl_cons, hv_bh ws]
    by_cases c : v ∈ ws ∧ 0 < mW H k G v
    · rw [if_pos c, if_pos ⟨List.mem_cons_of_mem _ c.1, c.2⟩]
    · rw [if_neg c]
      unfold bhF
      by_cases p : 0 < mW H k G w
      · rw [if_pos p, hv_pt]
        by_cases e : w = v
        · subst e
          rw [if_pos rfl, if_pos ⟨by simp, p⟩]
        · rw [if_neg e, if_neg fun z => (List.mem_cons.mp z.1).elim (fun q => e q.symm) fun q => c ⟨q, z.2⟩]
      · rw [if_neg p]
        have nz : ¬ (v ∈ w :: ws ∧ 0 < mW H k G v) := fun z => by
          rcases List.mem_cons.mp z.1 with q | q
          · subst q; exact p z.2
          · exact c ⟨q, z.2⟩
        rw [if_neg nz]
theorem behind_step {S : Nat → Fn} {H G : Hd} {k : Str} (h : HOk H) (g : GOk G) (hk : PyData.strOk k = true) (hH : ∀ w ∈ H.map (·.1), PyData.strOk w = true) (hG : ∀ w ∈ G.map (·.1), PyData.strOk w = true) (len : H.length + G.length ≤ 10000) :
    ∃ B, fnD 6 (g_l_behind S) [knD H, .str k, knD G] = .ok (knD B) ∧ HOk B ∧ ∀ v, hv B v = if v ∈ H.map (·.1) ++ G.map (·.1) ∧ 0 < mW H k G v then mW H k G v else 0 := by
  have ii := ins_kv PyData.int
  obtain ⟨⟨y4, y5⟩, e, o, _⟩ := forL_fj (gt := gtName 4) (g := gb_l_behind_1 S) PyData.str (bhF H k G) (fun B (j : Option PyData × Option PyData) => [some (knD H), some (.str k), some (knD G), some (knD B), j.1, j.2]) (fun B => HOk B ∧ ∀ v ∈ B.map (·.1), v ∈ H.map (·.1) ++ G.map (·.1))
    (H.map (·.1) ++ G.map (·.1)) [] (none, none) ⟨⟨List.nodup_nil, fun p hp => by cases hp⟩, fun v hv => by cases hv⟩ fun w hw B j hB => by
      have hwo : PyData.strOk w = true := (List.mem_append.mp hw).elim (hH w) (hG w)
      have d1 := dgetI H w
      have d2 := dgetI G w
      have ge := gEq_w hwo hk
      have ci : gIntC [.bool (decide (w = k))] = some (.int (if w = k then 1 else 0)) := by
        unfold gIntC
        by_cases c : w = k
        · rw [decide_eq_true c, if_pos c]; rfl
        · rw [decide_eq_false c, if_neg c]; rfl
      have pu := put_kv PyData.int B w (mW H k G w)
      have ll : (kv PyData.int B).length < sizeLine := sz1000' (by
        have := sub_len hB.1.nd hB.2
        rw [List.length_map, List.length_append, List.length_map, List.length_map] at this
        rw [len_kv]; omega)
      have iB := ii B
      have iH := ii H
      have iG := ii G
      have em : mW H k G w = hv H w + hv G w - if w = k then 1 else 0 := rfl
      refine ⟨_, (some (.str w), some (.int (mW H k G w))), rfl, ?_, ?_⟩
      · unfold bhF
        generalize mW H k G w = m at *
        by_cases c : 0 < m
        · rw [if_pos c]
          unfold knD at *
          dsimp only
          rw [← pu]
          generalize kv PyData.int H = HH at *
          generalize kv PyData.int G = GG at *
          generalize kv PyData.int B = BB at *
          generalize decide (w = k) = D at *
          generalize (if w = k then (1 : Int) else 0) = I at *
          simp [iH, iG, d1, d2, ge, ci, ← em, c, iB, keyD_k, ll]
        · rw [if_neg c]
          unfold knD at *
          dsimp only
          generalize kv PyData.int H = HH at *
          generalize kv PyData.int G = GG at *
          generalize kv PyData.int B = BB at *
          generalize decide (w = k) = D at *
          generalize (if w = k then (1 : Int) else 0) = I at *
          simp [iH, iG, d1, d2, ge, ci, ← em, c]
      · unfold bhF
        by_cases c : 0 < mW H k G w
        · rw [if_pos c]
          refine ⟨hB.1.put c, fun v hv => ?_⟩
          rw [pt_keys] at hv
          split at hv
          · exact hB.2 v hv
          · rcases List.mem_append.mp hv with z | z
            · exact hB.2 v z
            · rw [List.mem_singleton.mp z]; exact hw
        · rw [if_neg c]; exact hB
  refine ⟨_, fnD_of ?_, o, fun v => hv_bh _ [] v⟩
  have l1 := listK_kv PyData.int H
  have l2 := listK_kv PyData.int G
  have ga : gAdd (tx (H.map (·.1))) (tx (G.map (·.1))) = some (.list ((H.map (·.1) ++ G.map (·.1)).map .str)) := by
    unfold tx gAdd
    dsimp only
    rw [if_pos (sz1000 (by rw [List.length_map, List.length_map, List.length_map, List.length_map]; omega)), List.map_append]
  have e' : forL (gtName 4) (gb_l_behind_1 S) ((H.map (·.1) ++ G.map (·.1)).map .str) [some (knD H), some (.str k), some (knD G), some (knD []), none, none] = .nx [some (knD H), some (.str k), some (knD G), some (knD ((H.map (·.1) ++ G.map (·.1)).foldl (bhF H k G) [])), y4, y5] := e
  have e0 : knD [] = .dict [] := rfl
  rw [e0] at e'
  unfold g_l_behind
  unfold knD at *
  generalize (H.map (·.1) ++ G.map (·.1)).map PyData.str = WL at *
  generalize kv PyData.int ((H.map (·.1) ++ G.map (·.1)).foldl (bhF H k G) []) = BB at *
  generalize tx (H.map (·.1)) = T1 at *
  generalize tx (G.map (·.1)) = T2 at *
  generalize kv PyData.int H = HH at *
  generalize kv PyData.int G = GG at *
  simp [l1, l2, ga, e']
theorem behind_same {S : Nat → Fn} {rs : Rs} {H G : Hd} {k : Str} (C : Ctx rs H k G) (a : Alw rs H k G) (hk : PyData.strOk k = true) (hH : ∀ w ∈ H.map (·.1), PyData.strOk w = true) :
    ∃ B, fnD 6 (g_l_behind S) [knD H, .str k, knD G] = .ok (knD B) ∧ gDneX (knD (exH H k G)) (knD B) = some (.bool false) := by
  obtain ⟨B, hB, oB, eB⟩ := behind_step (S := S) C.h C.g hk hH (fun w hw => by
    obtain ⟨p, hp, rfl⟩ := List.mem_map.mp hw
    exact C.so p hp) C.len
  obtain ⟨o, e⟩ := exH_ok C.h a.2 C.g
  refine ⟨B, hB, ?_⟩
  have sm : sameX (kv PyData.int (exH H k G)) (kv .int B) = true := sameX_of (same_hv o oB fun w => by
    rw [e, eB]
    have h1 := hv_ge C.h w
    have h2 := gv_ge C.g w
    have hkk : k = w → 1 ≤ hv H w := fun z => by
      subst z
      have := a.2
      omega
    have em : mW H k G w = hv H w - (if k = w then 1 else 0) + hv G w := by
      unfold mW
      by_cases c : w = k
      · rw [if_pos c, if_pos c.symm]; omega
      · rw [if_neg c, if_neg fun z => c z.symm]; omega
    rw [← em]
    by_cases c : w ∈ H.map (·.1) ++ G.map (·.1) ∧ 0 < mW H k G w
    · rw [if_pos c]
    · rw [if_neg c]
      by_cases c1 : w ∈ H.map (·.1) ++ G.map (·.1)
      · have : ¬ 0 < mW H k G w := fun z => c ⟨c1, z⟩
        rw [em] at this ⊢
        by_cases c2 : k = w
        · have := hkk c2
          rw [if_pos c2] at *
          omega
        · rw [if_neg c2] at *
          omega
      · have z1 : hv H w = 0 := hv_out fun z => c1 (List.mem_append_left _ z)
        have z2 : hv G w = 0 := hv_out fun z => c1 (List.mem_append_right _ z)
        rw [em, z1, z2]
        by_cases c2 : k = w
        · have := hkk c2; omega
        · rw [if_neg c2]; rfl)
  unfold gDneX knD
  dsimp only
  rw [if_pos (by rw [ins_kv, ins_kv, sm]; rfl)]
end Lk68
set_option Elab.async false
set_option linter.all false
set_option maxRecDepth 100000
set_option maxHeartbeats 4000000
namespace Rk
open PySem PySem.Spec L2 Pu Nm
theorem RingOk.sub' {rs : Rs} {r : List Str} (h : RingOk rs r) : ∀ w ∈ r, w ∈ uni rs := fun w hw => by
  obtain ⟨i, hi, rfl⟩ := List.getElem_of_mem hw
  cases i with
  | zero =>
    have := h.cl
    rw [List.head_eq_getElem] at this
    exact (lsR_uni this).elim fun _ q => q.2.2
  | succ i => exact (lsR_uni (h.ch i hi)).elim fun _ q => q.2.2
theorem RingOk.nx {rs : Rs} {r : List Str} (h : RingOk rs r) {j : Nat} (hj : j < r.length) : r[(j + 1) % r.length]'(Nat.mod_lt _ (by omega)) ∈ lsR rs r[j] := by
  by_cases c : j + 1 < r.length
  · have := h.ch j c
    simpa [Nat.mod_eq_of_lt c] using this
  · have e : j + 1 = r.length := by omega
    have h1 := h.cl
    rw [List.head_eq_getElem, List.getLast_eq_getElem] at h1
    have e1 : r.length - 1 = j := by omega
    simpa [e, e1] using h1
end Rk
namespace Lk68
open PySem PySem.Spec L2 Pu Nm Rk
def ExOk (F : Fn) : Prop := ∀ rs H k G, Ctx rs H k G → (Alw rs H k G → F [rsD rs, knD H, .str k, knD G] = .ok (knD (exH H k G))) ∧ (¬ Alw rs H k G → F [rsD rs, knD H, .str k, knD G] = .err "NoChore")
theorem ex_ok (S : Nat → Fn) : ExOk (fun ds => fnD 8 (g_exchange S) ds) := fun rs H k G C => ⟨exchange_yes C, exchange_no C⟩
def fR (r0 : Str) (m : Int) (u w : Str) : Int := (if w = r0 then m - 1 else 0) + if w = u then 1 else 0
theorem round_step {S : Nat → Fn} {rs : Rs} (R : RsOk rs) (h10 : ExOk (S 10)) {r : List Str} (ro : RingOk rs r) {m : Int} (hm : 1 ≤ m) : fnD 6 (g_l_round S) [rsD rs, tx r, .int m] = .ok (.bool true) := by
  refine fnD_of ?_
  have r0 : 0 < r.length := List.length_pos_iff.mpr ro.ne
  have rl : r.length ≤ 100000 := Nat.le_trans (sub_len ro.nd ro.sub') R.len
  have at_ : ∀ j (h : j < r.length), gIx (tx r) (.int (j : Nat)) = some (.str r[j]) := fun j h => L2.atI_nat (by rw [List.getElem?_map, List.getElem?_eq_getElem h]; rfl)
  have a0 := at_ 0 r0
  have kI : okI (r.length : Int) = true := okI_small (by omega) (by omega)
  have tn : ((r.length : Nat) : Int).toNat = r.length := by omega
  have gl : gLen [tx r] = some (.int (r.length : Nat)) := by
    unfold tx gLen
    dsimp only
    rw [List.length_map]
  have mr : ∀ i : Int, cMod i (r.length : Int) = true := fun i => cMod_of (by omega)
  obtain ⟨H0, hH0⟩ : ∃ H0 : Hd, H0 = [(r[0], m)] := ⟨_, rfl⟩
  have o0 : HOk H0 := by rw [hH0]; exact ⟨by simp, fun p hp => by rw [List.mem_singleton.mp hp]; show 0 < m; omega⟩
  have e0 : ∀ w, hv H0 w = fR r[0] m r[0] w := fun w => by
    rw [hH0]
    unfold hv gt fR
    rw [List.find?_cons]
    by_cases c : r[0] = w
    · rw [decide_eq_true c, if_pos c.symm, if_pos c.symm]; show m = m - 1 + 1; omega
    · rw [decide_eq_false c, if_neg fun z => c z.symm, if_neg fun z => c z.symm]; rfl
  obtain ⟨ρ', e, H, x5, rfl, o, eH⟩ := forL_rng (n := r.length) (i := 5) (g := gb_l_round_1 S) (fun j ρ => ∃ (H : Hd) (x5 : Option PyData), ρ = [some (rsD rs), some (tx r), some (.int m), some (knD H), some (knD H0), x5] ∧ HOk H ∧ ∀ w, hv H w = fR r[0] m (r[j % r.length]'(Nat.mod_lt _ r0)) w)
    [some (rsD rs), some (tx r), some (.int m), some (knD H0), some (knD H0), none] ⟨H0, none, rfl, o0, fun w => by rw [e0]; simp⟩ fun j ρ hj hi => by
      obtain ⟨H, x5, rfl, o, eH⟩ := hi
      have ej : j % r.length = j := Nat.mod_eq_of_lt hj
      have aj := at_ j hj
      have an := at_ ((j + 1) % r.length) (Nat.mod_lt _ r0)
      have nx := ro.nx hj
      generalize hn : r[(j + 1) % r.length]'(Nat.mod_lt _ r0) = n at *
      have eH' : ∀ w, hv H w = fR r[0] m r[j] w := fun w => by rw [eH]; simp [ej]
      obtain ⟨l, gl2, nl, nu⟩ := lsR_uni nx
      have hl : H.length ≤ 2 := by
        have := sub_len o.nd (b := [r[0], r[j]]) fun w hw => by
          have := (hv_in o).mp hw
          rw [eH'] at this
          unfold fR at this
          by_cases c1 : w = r[0]
          · simp [c1]
          · by_cases c2 : w = r[j]
            · simp [c2]
            · rw [if_neg c1, if_neg c2] at this; exact absurd rfl this
        rw [List.length_map] at this
        exact this
      have g1 : GOk [(n, (1 : Int))] := ⟨by simp, fun p hp => by rw [List.mem_singleton.mp hp]; show (0 : Int) ≤ 1; decide⟩
      have C : Ctx rs H r[j] [(n, 1)] := ⟨R, o, g1, fun p hp => by rw [List.mem_singleton.mp hp]; exact R.ok n nu, by show H.length + 1 ≤ 10000; omega⟩
      have hj1 : hv H r[j] ≠ 0 := by
        rw [eH']
        unfold fR
        rw [if_pos rfl]
        split <;> omega
      have A : Alw rs H r[j] [(n, 1)] := ⟨⟨l, gl2, fun p hp _ => by rw [List.mem_singleton.mp hp]; exact nl⟩, hj1⟩
      have hx := (h10 rs H r[j] [(n, 1)] C).1 A
      obtain ⟨ox, ex⟩ := exH_ok o hj1 g1
      have kn : knD [(n, 1)] = .dict [(.str n, .int 1)] := rfl
      rw [kn] at hx
      refine ⟨[some (rsD rs), some (tx r), some (.int m), some (knD (exH H r[j] [(n, 1)])), some (knD H0), some (.int (j : Nat))], Or.inl ?_, _, _, rfl, ox, fun w => ?_⟩
      · have an' : gIx (tx r) (.int (((j : Int) + 1) % (r.length : Int))) = some (.str n) := by
          rw [← an]; congr 2
        have kd : keyD (.str n) = some (kS n) := rfl
        have kk : kD (kS n) = .str n := rfl
        generalize rsD rs = RR at *
        generalize tx r = TR at *
        generalize knD H = HH at *
        generalize knD H0 = HZ at *
        generalize knD (exH H r[j] [(n, 1)]) = HX at *
        generalize r[j] = u at *
        simp [aj, an', gl, mr, kd, kk, hx]
      · rw [ex, eH']
        have hg : hv [(n, (1 : Int))] w = if w = n then 1 else 0 := by
          unfold hv gt
          rw [List.find?_cons]
          by_cases c : n = w
          · rw [decide_eq_true c, if_pos c.symm]; rfl
          · rw [decide_eq_false c, if_neg fun z => c z.symm]; rfl
        rw [hg]
        unfold fR
        have e1 : (if w = r[j] then (1 : Int) else 0) = if r[j] = w then 1 else 0 := by
          by_cases c : r[j] = w
          · rw [if_pos c, if_pos c.symm]
          · rw [if_neg c, if_neg fun z => c z.symm]
        rw [e1]
        omega
  have fin : gDeqX (knD H) (knD H0) = some (.bool true) := by
    unfold gDeqX knD
    dsimp only
    rw [if_pos]
    rw [ins_kv, ins_kv, sameX_of (same_hv o o0 fun w => by rw [eH, e0]; simp)]
    rfl
  have i0 : insB ([] : List (PyData × PyData)) = false := rfl
  have pu : putD [] (kS r[0]) (.int m) = kv PyData.int H0 := by rw [hH0]; rfl
  have dc : gDcopy [.dict (kv PyData.int H0)] = some (.dict (kv PyData.int H0)) := by unfold gDcopy; dsimp only; rw [if_neg (by rw [ins_kv]; decide)]
  have kd : keyD (.str r[0]) = some (kS r[0]) := rfl
  have l0 : (0 : Nat) < sizeLine := sz1000' (by decide)
  have a0' : gIx (tx r) (.int 0) = some (.str r[0]) := a0
  unfold g_l_round
  unfold knD at *
  generalize rsD rs = RR at *
  generalize tx r = TR at *
  generalize kv PyData.int H = HH at *
  generalize kv PyData.int H0 = HZ at *
  generalize r[0] = u at *
  simp [i0, a0', kd, l0, pu, dc, gl, kI, tn, e, fin]
end Lk68
set_option Elab.async false
set_option linter.all false
set_option maxRecDepth 100000
set_option maxHeartbeats 4000000
set_option exponentiation.threshold 20
namespace Lk68
open PySem PySem.Spec L2 Pu Nm Rk
theorem cell_step {S : Nat → Fn} (ns : List Int) (k : Nat) : ∃ c : Int, fnD 2 (g_l_cell_at S) [.list (ns.map .int), .int (k : Nat)] = .ok (.int c) := by
  by_cases h : k < ns.length
  · refine ⟨ns[k], fnD_of ?_⟩
    have ix : atI (ns.map PyData.int) (k : Int) = some (.int ns[k]) := L2.atI_nat (by rw [List.getElem?_map, List.getElem?_eq_getElem h]; rfl)
    unfold g_l_cell_at
    simp [h, ix]
  · refine ⟨0, fnD_of ?_⟩
    unfold g_l_cell_at
    simp [h]
def CellOk (F : Fn) : Prop := ∀ (ns : List Int) (k : Nat), ∃ c : Int, F [.list (ns.map .int), .int (k : Nat)] = .ok (.int c)
def AmOk (F : Fn) : Prop := ∀ c : Int, ∃ m : Int, F [.int c] = .ok (.int m) ∧ 0 ≤ m
theorem amount_step (S : Nat → Fn) : AmOk (fun ds => fnD 1 (g_l_amount S) ds) := fun c => by
  have m4 : cMod c 4 = true := cMod_of (by decide)
  have d4 : cDiv c 4 = true := cDiv_of 3 (by decide) (by decide) (by decide) (by decide)
  have m3 : ∀ i : Int, cMod i 3 = true := fun i => cMod_of (by decide)
  have e5 : 0 < E50 := by unfold E50; decide +kernel
  have mE : ∀ i : Int, cMod i E50 = true := fun i => cMod_of e5
  by_cases h : c % 4 = 3
  · refine ⟨c / 4 % E50, fnD_of ?_, Int.emod_nonneg _ (by omega)⟩
    unfold g_l_amount
    simp [m4, h, d4, mE]
  · refine ⟨c / 4 % 3, fnD_of ?_, by omega⟩
    unfold g_l_amount
    simp [m4, h, d4, m3]
theorem at_tx {l : List Str} {i : Int} (h0 : 0 ≤ i) (h1 : i < l.length) : ∃ w ∈ l, gIx (tx l) (.int i) = some (.str w) := by
  obtain ⟨j, rfl⟩ := Int.eq_ofNat_of_zero_le h0
  have hj : j < l.length := by omega
  exact ⟨l[j], List.getElem_mem hj, L2.atI_nat (by rw [List.getElem?_map, List.getElem?_eq_getElem hj]; rfl)⟩
theorem gLen_tx (l : List Str) : gLen [tx l] = some (.int (l.length : Nat)) := by
  unfold tx gLen
  dsimp only
  rw [List.length_map]
theorem pt_sub {α : Type} {ps : KD α} {w : Str} {a : α} {names : List Str} (h : ∀ v ∈ ps.map (·.1), v ∈ names) (hw : w ∈ names) : ∀ v ∈ (pt ps w a).map (·.1), v ∈ names := fun v hv => by
  rw [pt_keys] at hv
  split at hv
  · exact h v hv
  · rcases List.mem_append.mp hv with z | z
    · exact h v z
    · rw [List.mem_singleton.mp z]; exact hw
theorem heap_step {S : Nat → Fn} (h11 : CellOk (S 11)) (h13 : AmOk (S 13)) (ns : List Int) {names : List Str} (n1 : names.length ≤ 1000) : ∃ H, fnD 5 (g_l_heap S) [.list (ns.map .int), tx names] = .ok (knD H) ∧ HOk H ∧ ∀ v ∈ H.map (·.1), v ∈ names := by
  have gl := gLen_tx names
  have kI : okI (names.length : Int) = true := okI_small (by omega) (by omega)
  have tn : ((names.length : Nat) : Int).toNat = names.length := by omega
  obtain ⟨ρ', e, H, x3, x4, rfl, o, s⟩ := forL_rng (n := names.length) (i := 3) (g := gb_l_heap_1 S) (fun j ρ => ∃ (H : Hd) (x3 x4 : Option PyData), ρ = [some (.list (ns.map .int)), some (tx names), some (knD H), x3, x4] ∧ HOk H ∧ ∀ v ∈ H.map (·.1), v ∈ names)
    [some (.list (ns.map .int)), some (tx names), some (knD []), none, none] ⟨[], _, _, rfl, ⟨List.nodup_nil, fun p hp => by cases hp⟩, fun v hv => by cases hv⟩ fun k ρ hk hi => by
      obtain ⟨H, x3, x4, rfl, o, s⟩ := hi
      obtain ⟨c, hc⟩ := h11 ns (12 + k)
      have hc' : S 11 [.list (ns.map .int), .int (12 + (k : Int))] = .ok (.int c) := by rw [← hc]; congr 3
      obtain ⟨m, hm, m0⟩ := h13 c
      obtain ⟨w, hw, ew⟩ := at_tx (l := names) (i := (k : Int)) (by omega) (by omega)
      have pu := put_kv PyData.int H w m
      have iH := ins_kv PyData.int H
      have kd : keyD (.str w) = some (kS w) := rfl
      have ll : (kv PyData.int H).length < sizeLine := sz1000' (by
        have := sub_len o.nd s
        rw [List.length_map] at this
        rw [len_kv]; omega)
      by_cases c0 : 0 < m
      · refine ⟨[some (.list (ns.map .int)), some (tx names), some (knD (pt H w m)), some (.int (k : Nat)), some (.int m)], Or.inl ?_, _, _, _, rfl, o.put c0, pt_sub s hw⟩
        unfold knD at *
        rw [← pu]
        generalize ns.map PyData.int = IL at *
        generalize tx names = NL at *
        generalize kv PyData.int H = HH at *
        simp [hc', hm, c0, ew, iH, kd, ll]
      · refine ⟨[some (.list (ns.map .int)), some (tx names), some (knD H), some (.int (k : Nat)), some (.int m)], Or.inl ?_, _, _, _, rfl, o, s⟩
        unfold knD at *
        generalize ns.map PyData.int = IL at *
        generalize tx names = NL at *
        generalize kv PyData.int H = HH at *
        simp [hc', hm, c0]
  refine ⟨H, fnD_of ?_, o, s⟩
  have e0 : knD [] = .dict [] := rfl
  rw [e0] at e
  unfold g_l_heap
  unfold knD at *
  generalize ns.map PyData.int = IL at *
  generalize tx names = NL at *
  generalize kv PyData.int H = HH at *
  simp [gl, kI, tn, e]
theorem ranked_step {S : Nat → Fn} {H K : Hd} (o : HOk H) (hl : H.length ≤ 1000) : ∃ H', fnD 5 (g_l_ranked S) [knD H, knD K] = .ok (knD H') ∧ HOk H' ∧ ∀ v ∈ H'.map (·.1), v ∈ H.map (·.1) ∧ v ∈ K.map (·.1) := by
  obtain ⟨⟨y3, y4⟩, e, o2, s2⟩ := forL_fj (gt := tg2 3 4) (g := gb_l_ranked_1 S) prI (fun (A : Hd) p => if (gt K p.1).isSome = true then pt A p.1 p.2 else A) (fun A (j : Option PyData × Option PyData) => [some (knD H), some (knD K), some (knD A), j.1, j.2])
    (fun A => HOk A ∧ ∀ v ∈ A.map (·.1), v ∈ H.map (·.1) ∧ v ∈ K.map (·.1)) H [] (none, none) ⟨⟨List.nodup_nil, fun p hp => by cases hp⟩, fun v hv => by cases hv⟩ fun p hp A j hA => by
      have di := din_kv PyData.int K p.1
      have pu := put_kv PyData.int A p.1 p.2
      have iA := ins_kv PyData.int A
      have kd : keyD (.str p.1) = some (kS p.1) := rfl
      have ll : (kv PyData.int A).length < sizeLine := sz1000' (by
        have := sub_len hA.1.nd fun v hv => (hA.2 v hv).1
        rw [List.length_map, List.length_map] at this
        rw [len_kv]; omega)
      refine ⟨_, (some (.str p.1), some (.int p.2)), rfl, ?_, ?_⟩
      · by_cases c : (gt K p.1).isSome = true
        · rw [c] at di
          rw [if_pos c]
          unfold knD at *
          dsimp only
          rw [← pu]
          generalize kv PyData.int H = HH at *
          generalize kv PyData.int K = KK at *
          generalize kv PyData.int A = AA at *
          simp [di, iA, kd, ll]
        · rw [if_neg c]
          have c2 : (gt K p.1).isSome = false := by simpa using c
          rw [c2] at di
          unfold knD at *
          dsimp only
          generalize kv PyData.int H = HH at *
          generalize kv PyData.int K = KK at *
          generalize kv PyData.int A = AA at *
          simp [di]
      · by_cases c : (gt K p.1).isSome = true
        · rw [if_pos c]
          refine ⟨hA.1.put (o.pos p hp), fun v hv => ?_⟩
          rw [pt_keys] at hv
          have key : p.1 ∈ H.map (·.1) ∧ p.1 ∈ K.map (·.1) := ⟨List.mem_map.mpr ⟨p, hp, rfl⟩, by rw [gt_isSome] at c; exact of_decide_eq_true c⟩
          split at hv
          · exact hA.2 v hv
          · rcases List.mem_append.mp hv with z | z
            · exact hA.2 v z
            · rw [List.mem_singleton.mp z]; exact key
        · rw [if_neg c]; exact hA
  refine ⟨_, fnD_of ?_, o2, s2⟩
  have iH := ins_kv PyData.int H
  have e' : forL (tg2 3 4) (gb_l_ranked_1 S) ((kv PyData.int H).map itI) [some (knD H), some (knD K), some (knD []), none, none] = .nx [some (knD H), some (knD K), some (knD (H.foldl (fun (A : Hd) p => if (gt K p.1).isSome = true then pt A p.1 p.2 else A) [])), y3, y4] := by rw [items_kv]; exact e
  have e0 : knD [] = .dict [] := rfl
  rw [e0] at e'
  unfold g_l_ranked
  unfold knD at *
  generalize kv PyData.int (H.foldl (fun (A : Hd) p => if (gt K p.1).isSome = true then pt A p.1 p.2 else A) []) = RR at *
  generalize kv PyData.int H = HH at *
  generalize kv PyData.int K = KK at *
  simp [iH, e']
theorem div_abs (c : Int) (d : Nat) (hd : 0 < d) : (c / (d : Int)).natAbs ≤ c.natAbs := by
  have h1 := Int.emod_nonneg c (show (d : Int) ≠ 0 by omega)
  have h2 := Int.emod_lt_of_pos c (show (0 : Int) < d by omega)
  have h3 := Int.emod_add_mul_ediv c d
  by_cases c0 : 0 ≤ c
  · have h4 : 0 ≤ c / (d : Int) := Int.ediv_nonneg c0 (by omega)
    have h5 : c / (d : Int) ≤ c := Int.ediv_le_self _ c0
    omega
  · have h4 : c / (d : Int) < 0 := Int.ediv_neg_of_neg_of_pos (by omega) (by omega)
    have h5 : (d : Int) * (c / (d : Int) + 1) ≤ 1 * (c / (d : Int) + 1) := Int.mul_le_mul_of_nonpos_right (by omega) (by omega)
    rw [Int.mul_add] at h5
    omega
theorem given_step {S : Nat → Fn} (h13 : AmOk (S 13)) {c : Int} {N : Nat} (hN : N.log2 ≤ 1048576) (hc : c.natAbs ≤ N) {rs : Rs} {names : List Str} (n1 : 1 ≤ names.length) (n2 : names.length ≤ 1000) (hs : ∀ k, ∀ w ∈ lsR rs k, w ∈ names) (k : Str) :
    ∃ G, fnD 7 (g_l_given S) [.int c, .str k, rsD rs, tx names] = .ok (knD G) ∧ GOk G ∧ ∀ v ∈ G.map (·.1), v ∈ names := by
  have cm : ∀ c : Int, c.natAbs ≤ N → cMulX c 48271 = true := fun c hc => decide_eq_true (by
    have h1 : c.natAbs.log2 ≤ 1048576 := by
      by_cases z : c.natAbs = 0
      · rw [z]; decide
      · have : c.natAbs < 2 ^ (N.log2 + 1) := Nat.lt_of_le_of_lt hc Nat.lt_log2_self
        have := (Nat.log2_lt z).mpr this
        omega
    have h2 : (48271 : Int).natAbs.log2 = 15 := by decide +kernel
    omega)
  have e67 : 0 < E60 + 7 := by unfold E60; decide +kernel
  have mE : ∀ i : Int, cMod i (E60 + 7) = true := fun i => cMod_of e67
  have d7 : ∀ i : Int, cDiv i 7 = true := fun i => cDiv_of 3 (by decide) (by decide) (by decide) (by decide)
  have d8 : ∀ i : Int, cDiv i 8 = true := fun i => cDiv_of 4 (by decide) (by decide) (by decide) (by decide)
  have d48 : ∀ i : Int, cDiv i 48 = true := fun i => cDiv_of 6 (by decide) (by decide) (by decide) (by decide)
  have m6 : ∀ i : Int, cMod i 6 = true := fun i => cMod_of (by decide)
  have m2 : ∀ i : Int, cMod i 2 = true := fun i => cMod_of (by decide)
  have mn : ∀ i : Int, cMod i (names.length : Int) = true := fun i => cMod_of (by omega)
  have gl := gLen_tx names
  obtain ⟨ρ', e, c', G, y5, rfl, hc', o, s⟩ := forL_inv (gt := gtName 5) (g := gb_l_given_1 S) (fun j ρ => ∃ (c' : Int) (G : Hd) (y5 : Option PyData), ρ = [some (.int c'), some (.str k), some (rsD rs), some (tx names), some (knD G), y5, none] ∧ c'.natAbs ≤ N ∧ GOk G ∧ ∀ v ∈ G.map (·.1), v ∈ names)
    ((lsR rs k).map .str) 0 [some (.int c), some (.str k), some (rsD rs), some (tx names), some (knD []), none, none] ⟨c, [], none, rfl, hc, ⟨List.nodup_nil, fun p hp => by cases hp⟩, fun v hv => by cases hv⟩ fun j d ρ hd hi => by
      obtain ⟨c', G, y5, rfl, hc', o, s⟩ := hi
      rw [List.getElem?_map] at hd
      obtain ⟨w, hw, rfl⟩ := Option.map_eq_some_iff.mp hd
      have wn := hs k w (List.mem_of_getElem? hw)
      obtain ⟨m, hm, m0⟩ := h13 (c' * 48271 % (E60 + 7))
      have pu := put_kv PyData.int G w m
      have iG := ins_kv PyData.int G
      have kd : keyD (.str w) = some (kS w) := rfl
      have ll : (kv PyData.int G).length < sizeLine := sz1000' (by
        have := sub_len o.nd s
        rw [List.length_map] at this
        rw [len_kv]; omega)
      have cx := cm c' hc'
      refine ⟨_, [some (.int (c' / 7)), some (.str k), some (rsD rs), some (tx names), some (knD (pt G w m)), some (.str w), none], rfl, Or.inl ?_, _, _, _, rfl, Nat.le_trans (div_abs c' 7 (by decide)) hc', o.put m0, pt_sub s wn⟩
      unfold knD at *
      rw [← pu]
      generalize rsD rs = RR at *
      generalize tx names = NL at *
      generalize kv PyData.int G = GG at *
      simp [cx, mE, hm, iG, kd, ll, d7]
  obtain ⟨w, hw, ew⟩ := at_tx (l := names) (i := c' % (names.length : Int)) (Int.emod_nonneg _ (by omega)) (Int.emod_lt_of_pos _ (by omega))
  have dn := dnin_kv PyData.int G w
  have kd : keyD (.str w) = some (kS w) := rfl
  have iG := ins_kv PyData.int G
  have ll : (kv PyData.int G).length < sizeLine := sz1000' (by
    have := sub_len o.nd s
    rw [List.length_map] at this
    rw [len_kv]; omega)
  obtain ⟨G2, e2, o2, s2⟩ : ∃ G2, sIf (tAndR (tOf (eOp gEq (eOp gMod (eOp gDiv (eVar 0) (eC (.int 8))) (eC (.int 6))) (eC (.int 1)))) (tOf (eOp gDnin (eVar 6) (eVar 4)))) (sDPutM [4] 4 (eOp gMod (eOp gDiv (eVar 0) (eC (.int 48))) (eC (.int 2))) (eVar 6)) sNil
      [some (.int c'), some (.str k), some (rsD rs), some (tx names), some (knD G), y5, some (.str w)] = .nx [some (.int c'), some (.str k), some (rsD rs), some (tx names), some (knD G2), y5, some (.str w)] ∧ GOk G2 ∧ ∀ v ∈ G2.map (·.1), v ∈ names := by
    by_cases h : c' / 8 % 6 = 1
    · by_cases g : (gt G w).isSome = true
      · rw [g] at dn
        refine ⟨G, ?_, o, s⟩
        unfold knD at *
        generalize rsD rs = RR at *
        generalize tx names = NL at *
        generalize kv PyData.int G = GG at *
        simp [d8, m6, h, dn]
      · have g2 : (gt G w).isSome = false := by simpa using g
        rw [g2] at dn
        have pu := put_kv PyData.int G w (c' / 48 % 2)
        refine ⟨pt G w (c' / 48 % 2), ?_, o.put (by omega), pt_sub s hw⟩
        unfold knD at *
        rw [← pu]
        generalize rsD rs = RR at *
        generalize tx names = NL at *
        generalize kv PyData.int G = GG at *
        simp [d8, m6, h, dn, d48, m2, iG, kd, ll]
    · refine ⟨G, ?_, o, s⟩
      generalize rsD rs = RR at *
      generalize tx names = NL at *
      generalize knD G = GG at *
      simp [d8, m6, h]
  refine ⟨G2, fnD_of ?_, o2, s2⟩
  have ir := ins_kv tx rs
  have dg := dget_kv rs k
  have dgx : tx (lsR rs k) = .list ((lsR rs k).map .str) := rfl
  rw [dgx] at dg
  have l0 : (0 : Nat) ≤ sizeLine := Nat.zero_le _
  have f1 : sNewV [4] 4 (eC (.dict [])) [some (.int c), some (.str k), some (rsD rs), some (tx names), none, none, none] = .nx [some (.int c), some (.str k), some (rsD rs), some (tx names), some (knD []), none, none] := by
    generalize rsD rs = RR at *
    generalize tx names = NL at *
    simp [knD, kv]
  have f2 : sFor [4] (iSeq (eDget (eVar 2) (eVar 1) (eLst aNil))) (gtName 5) (gb_l_given_1 S) [some (.int c), some (.str k), some (rsD rs), some (tx names), some (knD []), none, none] = .nx [some (.int c'), some (.str k), some (rsD rs), some (tx names), some (knD G), y5, none] := by
    rw [← e]
    unfold rsD at *
    generalize (lsR rs k).map PyData.str = LL at *
    generalize kv tx rs = RR at *
    generalize tx names = NL at *
    generalize knD [] = K0 at *
    simp [ir, dg, l0]
  have f3 : sSetM [4] 6 (eOp gIx (eVar 3) (eOp gMod (eVar 0) (eCall gLen (aCons (eVar 3) aNil)))) [some (.int c'), some (.str k), some (rsD rs), some (tx names), some (knD G), y5, none] = .nx [some (.int c'), some (.str k), some (rsD rs), some (tx names), some (knD G), y5, some (.str w)] := by
    generalize rsD rs = RR at *
    generalize tx names = NL at *
    generalize knD G = GG at *
    simp [gl, mn, ew]
  unfold g_l_given
  show sSeq _ (sSeq _ (sSeq _ (sSeq _ _))) [some (.int c), some (.str k), some (rsD rs), some (tx names), none, none, none] = _
  rw [u_sSeq, f1, Out.then_nx, u_sSeq, f2, Out.then_nx, u_sSeq, f3, Out.then_nx, u_sSeq, e2, Out.then_nx]
  rfl
end Lk68
set_option Elab.async false
set_option linter.all false
set_option maxRecDepth 100000
set_option maxHeartbeats 4000000
namespace Lk68
open PySem PySem.Spec L2 Pu Nm Rk
structure RP (names : List Str) (m : Nat) (rs : Rs) : Prop where
  nd : (rs.map (·.1)).Nodup
  mem : ∀ p ∈ rs, p.1 ∈ names ∧ (∀ w ∈ p.2, w ∈ names) ∧ p.2.length ≤ m
theorem RP.put {names : List Str} {m : Nat} {rs : Rs} (h : RP names m rs) {w : Str} {l : List Str} (hw : w ∈ names) (hl : ∀ v ∈ l, v ∈ names) (h9 : l.length ≤ m) : RP names m (pt rs w l) := ⟨pt_nodup' h.nd, fun p hp => by
  rcases pt_mem' hp with z | rfl
  · exact h.mem p z
  · exact ⟨hw, hl, h9⟩⟩
theorem RP.len {names : List Str} {m : Nat} {rs : Rs} (h : RP names m rs) : rs.length ≤ names.length := by
  have := sub_len h.nd (b := names) fun w hw => by
    obtain ⟨p, hp, rfl⟩ := List.mem_map.mp hw
    exact (h.mem p hp).1
  rwa [List.length_map] at this
theorem uni_len : ∀ {rs : Rs}, (∀ p ∈ rs, p.2.length ≤ 20) → (uni rs).length ≤ 21 * rs.length
  | [], _ => Nat.le_refl _
  | p :: rs, h => by
    have h1 := h p (by simp)
    have h2 := uni_len (rs := rs) fun q hq => h q (List.mem_cons_of_mem _ hq)
    unfold uni at *
    rw [List.flatMap_cons, List.length_append, List.length_cons, List.length_cons]
    omega
theorem RP.ok {names : List Str} {rs : Rs} (h : RP names 20 rs) (hn : names.length ≤ 1000) (ho : ∀ w ∈ names, PyData.strOk w = true) : RsOk rs where
  nd := h.nd
  len := by
    have := uni_len fun p hp => (h.mem p hp).2.2
    have := h.len
    omega
  ok := fun w hw => by
    obtain ⟨p, hp, z⟩ := List.mem_flatMap.mp hw
    rcases List.mem_cons.mp z with rfl | z
    · exact ho _ (h.mem p hp).1
    · exact ho _ ((h.mem p hp).2.1 w z)
theorem RP.ls {names : List Str} {m : Nat} {rs : Rs} (h : RP names m rs) (k : Str) : ∀ w ∈ lsR rs k, w ∈ names := fun w hw => by
  obtain ⟨l, gl, hm, _⟩ := lsR_uni hw
  exact (h.mem _ (gt_some gl)).2.1 w hm
section
variable {S : Nat → Fn} {ns : List Int} {names : List Str}
theorem rl_in (n2 : names.length ≤ 10) {k : Nat} (hk : k < names.length) {w : Str} (hw : w ∈ names) (ew : gIx (tx names) (.int (k : Nat)) = some (.str w)) (rs : Rs) (P : RP names 20 rs) (g0 : gt rs w = some []) (c : Int) (y5 : Option PyData) :
    ∃ rs2 c2 z5, forL (gtName 5) (gb_l_rules_1 S) (rngD ((k : Int) + 1) (names.length - (k + 1))) [some (.list (ns.map .int)), some (tx names), some (rsD rs), some (.int (k : Nat)), some (.int c), y5] = .nx [some (.list (ns.map .int)), some (tx names), some (rsD rs2), some (.int (k : Nat)), some (.int c2), z5] ∧ RP names 20 rs2 := by
  have m3 : ∀ i : Int, cMod i 3 = true := fun i => cMod_of (by decide)
  have d3 : ∀ i : Int, cDiv i 3 = true := fun i => cDiv_of 3 (by decide) (by decide) (by decide) (by decide)
  obtain ⟨ρ', e, rs2, c2, l, z5, rfl, P2, _⟩ := forL_inv (gt := gtName 5) (g := gb_l_rules_1 S) (fun t ρ => ∃ (rs : Rs) (c : Int) (l : List Str) (y5 : Option PyData), ρ = [some (.list (ns.map .int)), some (tx names), some (rsD rs), some (.int (k : Nat)), some (.int c), y5] ∧ RP names 20 rs ∧ gt rs w = some l ∧ l.length ≤ t)
    (rngD ((k : Int) + 1) (names.length - (k + 1))) 0 [some (.list (ns.map .int)), some (tx names), some (rsD rs), some (.int (k : Nat)), some (.int c), y5] ⟨rs, c, [], y5, rfl, P, g0, Nat.le_refl _⟩ fun t d ρ hd hi => by
      rw [Nat.zero_add] at hi ⊢
      obtain ⟨rs, c, l, y5, rfl, P, gl, ll⟩ := hi
      rw [rngD_get] at hd
      by_cases ht : t < names.length - (k + 1)
      case neg => rw [if_neg ht] at hd; cases hd
      rw [if_pos ht] at hd
      cases hd
      obtain ⟨u, hu, eu⟩ := at_tx (l := names) (i := (k : Int) + 1 + (t : Nat)) (by omega) (by omega)
      by_cases h : c % 3 = 0
      · refine ⟨_, [some (.list (ns.map .int)), some (tx names), some (rsD rs), some (.int (k : Nat)), some (.int (c / 3)), some (.int ((k : Int) + 1 + (t : Nat)))], rfl, Or.inl ?_, rs, _, l, _, rfl, P, gl, by omega⟩
        generalize ns.map PyData.int = IL at *
        generalize tx names = NL at *
        generalize rsD rs = RR at *
        simp [m3, h, sSetD, d3, imm]
      · have vl := val_kv tx rs w
        rw [gl] at vl
        have vl' : valD (kv tx rs) (kS w) = some (.list (l.map .str)) := vl
        have pu : putD (kv tx rs) (kS w) (.list (l.map .str ++ [.str u])) = kv tx (pt rs w (l ++ [u])) := by
          rw [← put_kv]
          congr 1
          unfold tx
          rw [List.map_append]; rfl
        have ls : (l.map PyData.str).length < sizeLine := sz1000' (by rw [List.length_map]; omega)
        have kd : keyD (.str w) = some (kS w) := rfl
        have ml := P.mem _ (gt_some gl)
        refine ⟨_, [some (.list (ns.map .int)), some (tx names), some (rsD (pt rs w (l ++ [u]))), some (.int (k : Nat)), some (.int (c / 3)), some (.int ((k : Int) + 1 + (t : Nat)))], rfl, Or.inl ?_, _, _, l ++ [u], _, rfl, P.put hw (fun v hv => (List.mem_append.mp hv).elim (ml.2.1 v) fun z => by rw [List.mem_singleton.mp z]; exact hu) (by rw [List.length_append, List.length_singleton]; omega), by rw [gt_pt, if_pos rfl], by rw [List.length_append, List.length_singleton]; omega⟩
        unfold rsD at *
        rw [← pu]
        generalize ns.map PyData.int = IL at *
        generalize tx names = NL at *
        generalize l.map PyData.str = LL at *
        generalize kv tx rs = RR at *
        simp [m3, h, sSetD, d3, imm, ew, eu, kd, vl', ls]
  exact ⟨rs2, c2, z5, e, P2⟩
theorem rules_step (h11 : CellOk (S 11)) (n1 : 1 ≤ names.length) (n2 : names.length ≤ 10) : ∃ rs, fnD 6 (g_l_rules S) [.list (ns.map .int), tx names] = .ok (rsD rs) ∧ RP names 20 rs := by
  have gl := gLen_tx names
  have kI : okI (names.length : Int) = true := okI_small (by omega) (by omega)
  have tn : ((names.length : Nat) : Int).toNat = names.length := by omega
  have m5 : ∀ i : Int, cMod i 5 = true := fun i => cMod_of (by decide)
  have d5 : ∀ i : Int, cDiv i 5 = true := fun i => cDiv_of 3 (by decide) (by decide) (by decide) (by decide)
  have m3 : ∀ i : Int, cMod i 3 = true := fun i => cMod_of (by decide)
  have d3 : ∀ i : Int, cDiv i 3 = true := fun i => cDiv_of 3 (by decide) (by decide) (by decide) (by decide)
  have mn : ∀ i : Int, cMod i (names.length : Int) = true := fun i => cMod_of (by omega)
  have l0 : (0 : Nat) ≤ sizeLine := Nat.zero_le _
  have l1 : (1 : Nat) ≤ sizeLine := sz1000 (by decide)
  obtain ⟨ρ', e, rs, x3, x4, x5, rfl, P⟩ := forL_rng (n := names.length) (i := 3) (g := gb_l_rules_2 S) (fun j ρ => ∃ (rs : Rs) (x3 x4 x5 : Option PyData), ρ = [some (.list (ns.map .int)), some (tx names), some (rsD rs), x3, x4, x5] ∧ RP names 20 rs)
    [some (.list (ns.map .int)), some (tx names), some (rsD []), none, none, none] ⟨[], _, _, _, rfl, List.nodup_nil, fun p hp => by cases hp⟩ fun k ρ hk hi => by
      obtain ⟨rs, x3, x4, x5, rfl, P⟩ := hi
      obtain ⟨c, hc⟩ := h11 ns (1 + k)
      have hc' : S 11 [.list (ns.map .int), .int (1 + (k : Int))] = .ok (.int c) := by rw [← hc]; congr 3
      obtain ⟨w, hw, ew⟩ := at_tx (l := names) (i := (k : Int)) (by omega) (by omega)
      have kd : keyD (.str w) = some (kS w) := rfl
      have ll : (kv tx rs).length < sizeLine := sz1000' (by rw [len_kv]; have := P.len; omega)
      by_cases h5 : c % 5 = 0
      · refine ⟨[some (.list (ns.map .int)), some (tx names), some (rsD rs), some (.int (k : Nat)), some (.int c), x5], Or.inl ?_, _, _, _, _, rfl, P⟩
        generalize ns.map PyData.int = IL at *
        generalize tx names = NL at *
        generalize rsD rs = RR at *
        simp [sSetD, hc', imm, m5, h5]
      · have P0 : RP names 20 (pt rs w []) := P.put hw (fun v hv => by cases hv) (by decide)
        obtain ⟨rs2, c2, z5, e2, P2⟩ := rl_in (S := S) (ns := ns) n2 hk hw ew _ P0 (by rw [gt_pt, if_pos rfl]) (c / 5) x5
        have pu : putD (kv tx rs) (kS w) (.list []) = kv tx (pt rs w []) := put_kv tx rs w []
        refine ⟨_, Or.inl ?_, rs2, some (.int (k : Nat)), some (.int c2), z5, rfl, P2⟩
        have k1 : okI ((k : Int) + 1) = true := okI_small (by omega) (by omega)
        have tk : ((names.length : Int) - ((k : Int) + 1)).toNat = names.length - (k + 1) := by omega
        rw [← e2]
        unfold rsD at *
        rw [← pu]
        generalize ns.map PyData.int = IL at *
        generalize tx names = NL at *
        generalize kv tx rs = RR at *
        simp [sSetD, hc', imm, m5, h5, d5, l0, ew, kd, ll, sForD, gl, k1, kI, tk]
  obtain ⟨c, hc⟩ := h11 ns 11
  have hc' : S 11 [.list (ns.map .int), .int 11] = .ok (.int c) := hc
  have e0 : rsD [] = .dict [] := rfl
  rw [e0] at e
  obtain ⟨w, hw, ew⟩ := at_tx (l := names) (i := c / 3 % (names.length : Int)) (Int.emod_nonneg _ (by omega)) (Int.emod_lt_of_pos _ (by omega))
  obtain ⟨u, hu, eu⟩ : ∃ u ∈ names, gIx (tx names) (.int (-1)) = some (.str u) := by
    have ne : names ≠ [] := fun z => by rw [z] at n1; exact absurd n1 (by decide)
    refine ⟨names.getLast ne, List.getLast_mem ne, ?_⟩
    have ex := List.dropLast_concat_getLast ne
    show atI (names.map PyData.str) (-1) = _
    have : names.map PyData.str = names.dropLast.map PyData.str ++ [.str (names.getLast ne)] := by
      conv => lhs; rw [← ex]
      exact List.map_append ..
    rw [this]
    exact at_last _ _
  have kd : keyD (.str u) = some (kS u) := rfl
  have ll : (kv tx rs).length < sizeLine := sz1000' (by rw [len_kv]; have := P.len; omega)
  by_cases h2 : c % 3 = 2
  · have pu : putD (kv tx rs) (kS u) (.list [.str w]) = kv tx (pt rs u [w]) := put_kv tx rs u [w]
    refine ⟨pt rs u [w], fnD_of ?_, P.put hu (fun v hv => by rw [List.mem_singleton.mp hv]; exact hw) (by simp)⟩
    unfold g_l_rules
    unfold rsD at *
    rw [← pu]
    generalize ns.map PyData.int = IL at *
    generalize tx names = NL at *
    generalize kv tx rs = RR at *
    simp [sForD, gl, kI, tn, e, hc', m3, h2, d3, mn, ew, eu, l1, kd, ll]
  · refine ⟨rs, fnD_of ?_, P⟩
    unfold g_l_rules
    unfold rsD at *
    generalize ns.map PyData.int = IL at *
    generalize tx names = NL at *
    generalize kv tx rs = RR at *
    simp [sForD, gl, kI, tn, e, hc', m3, h2]
end
end Lk68
set_option Elab.async false
set_option linter.all false
set_option maxRecDepth 100000
set_option maxHeartbeats 4000000
namespace Lk68
open PySem PySem.Spec L2 Pu Nm Rk O
abbrev RL := List (Int × Int)
def wr (r : Int) : O := rzO .z r
def numL : RL → O
  | [] => .z
  | p :: t => .c (wr p.1) p.2 (numL t)
def insL : RL → Int → Int → RL
  | [], r, m => [(r, m)]
  | p :: t, r, m => if r < p.1 then p :: insL t r m else if p.1 < r then (r, m) :: p :: t else (p.1, p.2 + m) :: t
theorem cmp_wr {s r : Int} (hs : 0 ≤ s) (hr : 0 ≤ r) : cmp (wr s) (wr r) = if r < s then 1 else if s < r then -1 else 0 := by
  unfold wr rzO
  by_cases s0 : s = 0
  · by_cases r0 : r = 0
    · rw [if_pos s0, if_pos r0, if_neg (by omega), if_neg (by omega)]; rfl
    · rw [if_pos s0, if_neg r0, if_neg (by omega), if_pos (by omega)]; rfl
  · by_cases r0 : r = 0
    · rw [if_neg s0, if_pos r0, if_pos (by omega)]; rfl
    · rw [if_neg s0, if_neg r0]
      unfold cmp
      rw [show cmp .z .z = 0 from rfl, if_neg (by decide)]
      by_cases e : s = r
      · rw [if_neg (by omega), if_neg (by omega), if_neg (by omega)]
      · rw [if_pos e]
        by_cases g : s > r
        · rw [if_pos g, if_pos g]
        · rw [if_neg g, if_neg g, if_pos (by omega)]
theorem mrg_ins : ∀ (L : RL) (r m : Int), (∀ p ∈ L, 0 ≤ p.1) → 0 ≤ r → mrgO (numL L) (.c (wr r) m .z) = numL (insL L r m)
  | [], r, m, _, _ => by unfold numL insL; rw [mrgO]; try rfl
  | p :: t, r, m, h, hr => by
    have hp := h p (by simp)
    have hc := cmp_wr hp hr
    unfold insL
    show mrgO (.c (wr p.1) p.2 (numL t)) (.c (wr r) m .z) = _
    by_cases c : r < p.1
    · rw [if_pos c] at hc ⊢
      rw [mrg_gt hc, mrg_ins t r m (fun q hq => h q (List.mem_cons_of_mem _ hq)) hr]
      rfl
    · rw [if_neg c] at hc ⊢
      by_cases d : p.1 < r
      · rw [if_pos d] at hc ⊢
        rw [mrg_lt hc, mrg_z]
        rfl
      · rw [if_neg d] at hc ⊢
        have e : p.1 = r := by omega
        rw [mrgO, hc, if_neg (by decide), if_neg (by decide), mrg_z]
        rfl
theorem ins_pos : ∀ (L : RL) (r m : Int), (∀ p ∈ L, 0 ≤ p.1) → 0 ≤ r → ∀ p ∈ insL L r m, 0 ≤ p.1
  | [], r, m, _, hr => fun p hp => by rw [List.mem_singleton.mp hp]; exact hr
  | q :: t, r, m, h, hr => fun p hp => by
    unfold insL at hp
    split at hp
    · rcases List.mem_cons.mp hp with rfl | z
      · exact h _ (by simp)
      · exact ins_pos t r m (fun x hx => h x (List.mem_cons_of_mem _ hx)) hr p z
    · split at hp
      · rcases List.mem_cons.mp hp with rfl | z
        · exact hr
        · exact h p z
      · rcases List.mem_cons.mp hp with rfl | z
        · exact h q (by simp)
        · exact h p (List.mem_cons_of_mem _ z)
theorem ins_len : ∀ (L : RL) (r m : Int), (insL L r m).length ≤ L.length + 1
  | [], r, m => Nat.le_refl _
  | q :: t, r, m => by
    unfold insL
    split
    · have := ins_len t r m; rw [List.length_cons, List.length_cons]; omega
    · split <;> (simp only [List.length_cons]; omega)
theorem num_len : ∀ L : RL, (numL L).len = L.length
  | [] => rfl
  | p :: t => by show (numL t).len + 1 = _; rw [num_len t]; rfl
theorem num_h : ∀ L : RL, (numL L).h ≤ 3
  | [] => by show (0 : Nat) ≤ 3; decide
  | p :: t => by
    have h1 := num_h t
    have h2 : (wr p.1).h ≤ 1 := by
      unfold wr rzO
      split
      · show (0 : Nat) ≤ 1; decide
      · show max (0 + 1) 0 ≤ 1; decide
    show max ((wr p.1).h + 1) (numL t).h ≤ 3
    omega
def totL (K H : Hd) : RL := H.foldl (fun L p => insL L (hv K p.1) p.2) []
theorem tot_pos {K : Hd} (hK : ∀ w, 0 ≤ hv K w) : ∀ (H : Hd) (L : RL), (∀ p ∈ L, 0 ≤ p.1) → ∀ p ∈ H.foldl (fun L p => insL L (hv K p.1) p.2) L, 0 ≤ p.1
  | [], L, h => h
  | p :: H, L, h => tot_pos hK H _ (ins_pos L _ _ h (hK _))
theorem heap_number_step {S : Nat → Fn} {k : Nat} (h2 : ∀ n : Int, 0 ≤ n → S 2 [.int n] = .ok (enc (rzO .z n))) (h3 : RaiOk (S 3)) (h4 : MrgOk k (S 4)) (hk : 5 ≤ k) {K H : Hd} (hK : ∀ w, 0 ≤ hv K w) (o : HOk H) (hin : ∀ w ∈ H.map (·.1), w ∈ K.map (·.1)) (hl : H.length ≤ 100) :
    fnD 5 (g_heap_number S) [knD K, knD H] = .ok (enc (numL (totL K H))) := by
  refine fnD_of ?_
  have fl : ∀ (qs : Hd) (L : RL), (qs.foldl (fun L p => insL L (hv K p.1) p.2) L).length ≤ L.length + qs.length := fun qs => by
    induction qs with
    | nil => intro L; exact Nat.le_refl _
    | cons q qs ih =>
      intro L
      have h1 := ih (insL L (hv K q.1) q.2)
      have h2 := ins_len L (hv K q.1) q.2
      rw [List.foldl_cons, List.length_cons]
      omega
  obtain ⟨ρ', e, y3, y4, rfl⟩ := forL_inv (gt := tg2 3 4) (g := gb_heap_number_1 S) (fun j ρ => ∃ y3 y4, ρ = [some (knD K), some (knD H), some (enc (numL (totL K (H.take j)))), y3, y4])
    (H.map prI) 0 [some (knD K), some (knD H), some (enc (numL [])), none, none] ⟨none, none, rfl⟩ fun j d ρ hd hi => by
      rw [Nat.zero_add] at hi ⊢
      obtain ⟨y3, y4, rfl⟩ := hi
      rw [List.getElem?_map] at hd
      obtain ⟨p, hp, rfl⟩ := Option.map_eq_some_iff.mp hd
      have pm : p ∈ H := List.mem_of_getElem? hp
      have p0 := o.pos p pm
      obtain ⟨v, gv⟩ : ∃ v, gt K p.1 = some v := by
        cases q : gt K p.1 with
        | some v => exact ⟨v, rfl⟩
        | none => exact absurd (hin p.1 (List.mem_map.mpr ⟨p, pm, rfl⟩)) (gt_none.mp q)
      have hvv : hv K p.1 = v := by unfold hv; rw [gv]; rfl
      have v0 := hK p.1
      rw [hvv] at v0
      have dx := dix_kv (f := PyData.int) gv
      have w2 := h2 v v0
      have w3 := h3.yes (rzO .z v) p.2 (by omega)
      have er : rzO (rzO .z v) p.2 = .c (wr v) p.2 .z := if_neg (by omega)
      rw [er] at w3
      have tp : ∀ q ∈ totL K (H.take j), 0 ≤ q.1 := tot_pos hK _ _ fun q hq => by cases hq
      have tl : (totL K (H.take j)).length ≤ 100 := by
        have := fl (H.take j) []
        rw [List.length_nil, List.length_take] at this
        show ((H.take j).foldl _ []).length ≤ 100
        omega
      have w4 := h4 (numL (totL K (H.take j))) (.c (wr v) p.2 .z) (by have := num_h (totL K (H.take j)); omega) (by rw [num_len]; omega) (by show 0 + 1 ≤ 900; decide)
      rw [mrg_ins _ _ _ tp v0] at w4
      have et : totL K (H.take (j + 1)) = insL (totL K (H.take j)) v p.2 := by
        unfold totL
        rw [List.take_add_one, hp, Option.toList_some, List.foldl_append]
        show insL _ (hv K p.1) p.2 = _
        rw [hvv]
      refine ⟨_, [some (knD K), some (knD H), some (enc (numL (totL K (H.take (j + 1))))), some (.str p.1), some (.int p.2)], rfl, Or.inl ?_, _, _, rfl⟩
      rw [et]
      unfold knD at *
      generalize kv PyData.int K = KK at *
      generalize kv PyData.int H = HH at *
      generalize enc (numL (insL (totL K (H.take j)) v p.2)) = E2 at *
      generalize enc (numL (totL K (H.take j))) = E1 at *
      generalize enc (.c (wr v) p.2 .z) = E3 at *
      generalize enc (rzO .z v) = E4 at *
      simp [dx, w2, w3, w4]
  rw [Nat.zero_add, List.length_map, List.take_length, ← items_kv] at e
  have ii := ins_kv PyData.int H
  have e0 : enc (numL []) = .tuple [] := rfl
  rw [e0] at e
  unfold g_heap_number
  unfold knD at *
  generalize enc (numL (totL K H)) = E1 at *
  generalize kv PyData.int K = KK at *
  generalize kv PyData.int H = HH at *
  simp [ii, e]
end Lk68
set_option Elab.async false
set_option linter.all false
set_option maxRecDepth 100000
set_option maxHeartbeats 4000000
namespace Lk68
open PySem PySem.Spec L2 Pu Nm Rk O
def kI (T : RL) : List (PyData × PyData) := T.map fun p => (.int p.1, .int p.2)
def gI (T : RL) (r : Int) : Option Int := (T.find? fun p => decide (p.1 = r)).map (·.2)
def pI (T : RL) (r m : Int) : RL := if (T.any fun p => decide (p.1 = r)) = true then T.map (fun p => if p.1 = r then (p.1, m) else p) else T ++ [(r, m)]
abbrev kN (r : Int) : Key := .inl r
theorem keyI_dec (v w : Int) : decide (keyD (.int v) = some (kN w)) = decide (v = w) := by
  show decide (some (kN v) = some (kN w)) = _
  by_cases c : v = w
  · subst c; rw [decide_eq_true rfl, decide_eq_true rfl]
  · rw [decide_eq_false c]
    refine decide_eq_false fun z => c ?_
    injection z with z
    injection z with z
theorem val_kI (T : RL) (r : Int) : valD (kI T) (kN r) = (gI T r).map .int := by
  unfold valD kI gI
  induction T with
  | nil => rfl
  | cons p t ih =>
    rw [List.map_cons, List.find?_cons, List.find?_cons]
    dsimp only
    rw [keyI_dec]
    cases decide (p.1 = r) with
    | true => rfl
    | false => exact ih
theorem put_kI (T : RL) (r m : Int) : putD (kI T) (kN r) (.int m) = kI (pI T r m) := by
  unfold putD pI kI
  have e1 : (T.map fun p => (PyData.int p.1, PyData.int p.2)).any (fun p => decide (keyD p.1 = some (kN r))) = T.any fun p => decide (p.1 = r) := by
    rw [List.any_map]
    congr 1
    funext p
    exact keyI_dec p.1 r
  rw [e1]
  by_cases c : (T.any fun p => decide (p.1 = r)) = true
  · rw [if_pos c, if_pos c, List.map_map, List.map_map]
    refine List.map_congr_left fun p _ => ?_
    have := keyI_dec p.1 r
    show (if keyD (.int p.1) = some (kN r) then (PyData.int p.1, PyData.int m) else (.int p.1, .int p.2)) = _
    by_cases d : p.1 = r
    · rw [decide_eq_true d] at this
      rw [if_pos (of_decide_eq_true this)]
      show _ = (PyData.int (if p.1 = r then (p.1, m) else p).1, PyData.int (if p.1 = r then (p.1, m) else p).2)
      rw [if_pos d]
    · rw [decide_eq_false d] at this
      rw [if_neg (of_decide_eq_false this)]
      show _ = (PyData.int (if p.1 = r then (p.1, m) else p).1, PyData.int (if p.1 = r then (p.1, m) else p).2)
      rw [if_neg d]
  · rw [if_neg c, if_neg c, List.map_append]; rfl
theorem ins_kI (T : RL) : insB (kI T) = false := by cases T <;> rfl
theorem gI_none {T : RL} {r : Int} : gI T r = none ↔ r ∉ T.map (·.1) := by
  unfold gI
  rw [Option.map_eq_none_iff, List.find?_eq_none]
  refine ⟨fun h z => ?_, fun h p hp z => ?_⟩
  · obtain ⟨p, hp, e⟩ := List.mem_map.mp z
    exact h p hp (decide_eq_true e)
  · exact h (List.mem_map.mpr ⟨p, hp, of_decide_eq_true z⟩)
theorem gI_mem {T : RL} (h : (T.map (·.1)).Nodup) {r m : Int} (hm : (r, m) ∈ T) : gI T r = some m := by
  unfold gI
  induction T with
  | nil => cases hm
  | cons q t ih =>
    rw [List.map_cons, List.nodup_cons] at h
    rw [List.find?_cons]
    rcases List.mem_cons.mp hm with rfl | hp
    · rw [decide_eq_true rfl]; rfl
    · have : ¬ q.1 = r := fun z => h.1 (List.mem_map.mpr ⟨(r, m), hp, z.symm⟩)
      rw [decide_eq_false this]
      exact ih h.2 hp
def Srt (L : RL) : Prop := L.Pairwise fun p q => q.1 < p.1
theorem ins_mem : ∀ (L : RL) (r m : Int), ∀ p ∈ insL L r m, p.1 = r ∨ ∃ q ∈ L, q.1 = p.1
  | [], r, m => fun p hp => by rw [List.mem_singleton.mp hp]; exact .inl rfl
  | q :: t, r, m => fun p hp => by
    unfold insL at hp
    split at hp
    · rcases List.mem_cons.mp hp with rfl | z
      · exact .inr ⟨_, by simp, rfl⟩
      · exact (ins_mem t r m p z).imp id fun ⟨x, hx, e⟩ => ⟨x, List.mem_cons_of_mem _ hx, e⟩
    · split at hp
      · rcases List.mem_cons.mp hp with rfl | z
        · exact .inl rfl
        · exact .inr ⟨p, z, rfl⟩
      · rcases List.mem_cons.mp hp with rfl | z
        · exact .inr ⟨q, by simp, rfl⟩
        · exact .inr ⟨p, List.mem_cons_of_mem _ z, rfl⟩
theorem ins_srt : ∀ (L : RL) (r m : Int), Srt L → Srt (insL L r m)
  | [], r, m, _ => List.pairwise_singleton ..
  | q :: t, r, m, h => by
    have a := List.pairwise_cons.mp h
    unfold insL
    by_cases c : r < q.1
    · rw [if_pos c]
      refine List.pairwise_cons.mpr ⟨fun p hp => ?_, ins_srt t r m a.2⟩
      rcases ins_mem t r m p hp with e | ⟨x, hx, e⟩
      · omega
      · have := a.1 x hx; omega
    · rw [if_neg c]
      by_cases d : q.1 < r
      · rw [if_pos d]
        refine List.pairwise_cons.mpr ⟨fun p hp => ?_, h⟩
        rcases List.mem_cons.mp hp with rfl | z
        · exact d
        · have := a.1 p z
          show p.1 < r
          omega
      · rw [if_neg d]
        exact List.pairwise_cons.mpr ⟨fun p hp => a.1 p hp, a.2⟩
theorem ins_new : ∀ (L : RL) (r m : Int), r ∉ L.map (·.1) → (insL L r m).Perm ((r, m) :: L)
  | [], r, m, _ => .refl _
  | q :: t, r, m, h => by
    unfold insL
    have nq : r ≠ q.1 := fun z => h (by rw [z]; simp)
    by_cases c : r < q.1
    · rw [if_pos c]
      exact ((ins_new t r m fun z => h (by rw [List.map_cons]; exact List.mem_cons_of_mem _ z)).cons q).trans (.swap ..)
    · rw [if_neg c, if_pos (by omega)]
theorem ins_old : ∀ (L : RL) (r m n : Int), Srt L → (r, n) ∈ L → insL L r m = L.map fun p => if p.1 = r then (p.1, n + m) else p
  | [], r, m, n, _, h => by cases h
  | q :: t, r, m, n, hs, h => by
    have a := List.pairwise_cons.mp hs
    unfold insL
    rw [List.map_cons]
    rcases List.mem_cons.mp h with rfl | z
    · rw [if_neg (by show ¬ r < r; omega), if_neg (by show ¬ r < r; omega), if_pos rfl]
      congr 1
      have : t.map (fun p => if p.1 = r then (p.1, n + m) else p) = t.map id := List.map_congr_left fun p hp => if_neg fun e => by
        have := a.1 p hp
        have : p.1 < r := this
        omega
      rw [this, List.map_id]
    · have := a.1 _ z
      have lt : r < q.1 := this
      rw [if_pos lt, if_neg (by omega), ins_old t r m n a.2 z]
theorem srt_nodup {L : RL} (h : Srt L) : (L.map (·.1)).Nodup := by
  unfold List.Nodup
  rw [List.pairwise_map]
  exact h.imp fun {a b} h => by omega
structure Tg (T L : RL) : Prop where
  srt : Srt L
  pm : T.Perm L
theorem Tg.nd {T L : RL} (h : Tg T L) : (T.map (·.1)).Nodup := (h.pm.map (·.1)).nodup_iff.mpr (srt_nodup h.srt)
theorem Tg.step {T L : RL} (h : Tg T L) (r m : Int) : Tg (pI T r ((gI T r).getD 0 + m)) (insL L r m) := by
  refine ⟨ins_srt L r m h.srt, ?_⟩
  cases e : gI T r with
  | none =>
    have nm := gI_none.mp e
    have c : ¬ (T.any fun p => decide (p.1 = r)) = true := fun z => by
      obtain ⟨p, hp, q⟩ := List.any_eq_true.mp z
      exact nm (List.mem_map.mpr ⟨p, hp, of_decide_eq_true q⟩)
    unfold pI
    rw [if_neg c, show (Option.none : Option Int).getD 0 + m = m by show 0 + m = m; omega]
    have n2 : r ∉ L.map (·.1) := fun z => nm ((h.pm.map (·.1)).mem_iff.mpr z)
    exact (List.perm_append_singleton _ _).trans ((h.pm.cons _).trans (ins_new L r m n2).symm)
  | some n =>
    have hm : (r, n) ∈ T := by
      unfold gI at e
      obtain ⟨p, hp, q⟩ := Option.map_eq_some_iff.mp e
      have h1 := List.mem_of_find?_eq_some hp
      have h2 := List.find?_some hp
      have : p.1 = r := of_decide_eq_true h2
      rw [← this, ← q]; exact h1
    have c : (T.any fun p => decide (p.1 = r)) = true := List.any_eq_true.mpr ⟨(r, n), hm, decide_eq_true rfl⟩
    unfold pI
    rw [if_pos c, ins_old L r m n h.srt (h.pm.mem_iff.mp hm)]
    exact h.pm.map _
end Lk68
set_option Elab.async false
set_option linter.all false
set_option maxRecDepth 100000
set_option maxHeartbeats 4000000
namespace Lk68
open PySem PySem.Spec L2 Pu Nm Rk O
abbrev partD (p : Int × Int) : PyData := .tuple [enc (wr p.1), .int p.2]
theorem enc_num : ∀ L : RL, encL (numL L) = L.map partD
  | [] => rfl
  | p :: t => by show partD p :: encL (numL t) = _; rw [enc_num t]; rfl
theorem enc_numT (L : RL) : enc (numL L) = .tuple (L.map partD) := by show PyData.tuple (encL (numL L)) = _; rw [enc_num]
theorem dgetN (T : RL) (r : Int) : gDget (kI T) (.int r) (.int 0) = some (.int ((gI T r).getD 0)) := by
  unfold gDget
  show (some (kN r)).map _ = _
  rw [Option.map_some, val_kI]
  cases gI T r <;> rfl
theorem pI_len {T : RL} {r m : Int} : (pI T r m).length ≤ T.length + 1 := by
  unfold pI
  split
  · rw [List.length_map]; omega
  · rw [List.length_append, List.length_singleton]; omega
theorem intKs_kI : ∀ T : RL, intKs (kI T) = some (T.map (·.1))
  | [] => rfl
  | p :: t => by show (intKs (kI t)).map (p.1 :: ·) = _; rw [intKs_kI t]; rfl
theorem sort_tg {T L : RL} (h : Tg T L) (hl : T.length ≤ 1000) : gSortR (.dict (kI T)) = some (.list (L.map fun p => .int p.1)) := by
  unfold gSortR
  dsimp only
  rw [if_neg (by rw [ins_kI]; decide), intKs_kI]
  dsimp only
  rw [if_pos (by rw [List.length_map]; omega)]
  have e : dsort (T.map (·.1)) = L.map (·.1) := desc_eq _ _ ((dsort_perm _).trans (h.pm.map _)) (dsort_ord _) (by
    rw [List.pairwise_map]
    exact h.srt.imp fun {a b} z => by show a.1 ≥ b.1; omega)
  rw [e, List.map_map]
  rfl
theorem number_step {S : Nat → Fn} {K H : Hd} (hK : ∀ w, 0 ≤ hv K w) (o : HOk H) (hin : ∀ w ∈ H.map (·.1), w ∈ K.map (·.1)) (hl : H.length ≤ 100) : fnD 8 (g_l_number S) [knD K, knD H] = .ok (enc (numL (totL K H))) := by
  refine fnD_of ?_
  have iH := ins_kv PyData.int H
  -- together
  obtain ⟨ρ', e, T, y3, y4, rfl, tg, tl⟩ := forL_inv (gt := tg2 3 4) (g := gb_l_number_1 S) (fun j ρ => ∃ (T : RL) (y3 y4 : Option PyData), ρ = [some (knD K), some (knD H), some (.dict (kI T)), y3, y4, none, none, none] ∧ Tg T (totL K (H.take j)) ∧ T.length ≤ j)
    (H.map prI) 0 [some (knD K), some (knD H), some (.dict []), none, none, none, none, none] ⟨[], none, none, rfl, ⟨List.Pairwise.nil, .refl _⟩, Nat.le_refl _⟩ fun j d ρ hd hi => by
      rw [Nat.zero_add] at hi ⊢
      obtain ⟨T, y3, y4, rfl, tg, tl⟩ := hi
      rw [List.getElem?_map] at hd
      obtain ⟨p, hp, rfl⟩ := Option.map_eq_some_iff.mp hd
      have pm : p ∈ H := List.mem_of_getElem? hp
      have jl := (List.getElem?_eq_some_iff.mp hp).1
      obtain ⟨v, gv⟩ : ∃ v, gt K p.1 = some v := by
        cases q : gt K p.1 with
        | some v => exact ⟨v, rfl⟩
        | none => exact absurd (hin p.1 (List.mem_map.mpr ⟨p, pm, rfl⟩)) (gt_none.mp q)
      have hvv : hv K p.1 = v := by unfold hv; rw [gv]; rfl
      have dx := dix_kv (f := PyData.int) gv
      have et : totL K (H.take (j + 1)) = insL (totL K (H.take j)) v p.2 := by
        unfold totL
        rw [List.take_add_one, hp, Option.toList_some, List.foldl_append]
        show insL _ (hv K p.1) p.2 = _
        rw [hvv]
      have dg := dgetN T v
      have pu := put_kI T v ((gI T v).getD 0 + p.2)
      have iT := ins_kI T
      have kd : keyD (.int v) = some (kN v) := rfl
      have ll : (kI T).length < sizeLine := sz1000' (by unfold kI; rw [List.length_map]; omega)
      refine ⟨_, [some (knD K), some (knD H), some (.dict (kI (pI T v ((gI T v).getD 0 + p.2)))), some (.str p.1), some (.int p.2), none, none, none], rfl, Or.inl ?_, _, _, _, rfl, by rw [et]; exact tg.step v p.2, by have := pI_len (T := T) (r := v) (m := (gI T v).getD 0 + p.2); omega⟩
      rw [← pu]
      unfold knD at *
      generalize kv PyData.int K = KK at *
      generalize kv PyData.int H = HH at *
      generalize (gI T v).getD 0 = g0 at *
      generalize kI T = TT at *
      simp [iT, dx, dg, kd, ll, imm]
  rw [Nat.zero_add, List.length_map] at tg tl
  rw [List.take_length] at tg
  rw [← items_kv] at e
  -- the parts
  obtain ⟨L, hL⟩ : ∃ L, L = totL K H := ⟨_, rfl⟩
  rw [← hL] at tg
  have lL : L.length ≤ 100 := by rw [← tg.pm.length_eq]; omega
  have st := sort_tg tg (by omega)
  obtain ⟨ρ2, e2, y6, y7, rfl⟩ := forL_inv (gt := gtName 6) (g := gb_l_number_2 S) (fun j ρ => ∃ (y6 y7 : Option PyData), ρ = [some (knD K), some (knD H), some (.dict (kI T)), y3, y4, some (.list ((L.take j).map partD)), y6, y7])
    (L.map fun p => .int p.1) 0 [some (knD K), some (knD H), some (.dict (kI T)), y3, y4, some (.list []), none, none] ⟨none, none, rfl⟩ fun j d ρ hd hi => by
      rw [Nat.zero_add] at hi ⊢
      obtain ⟨y6, y7, rfl⟩ := hi
      rw [List.getElem?_map] at hd
      obtain ⟨p, hp, rfl⟩ := Option.map_eq_some_iff.mp hd
      have pm : p ∈ L := List.mem_of_getElem? hp
      have gm := gI_mem tg.nd (tg.pm.mem_iff.mpr (show (p.1, p.2) ∈ L from pm))
      have dx : gDix (.dict (kI T)) (.int p.1) = some (.int p.2) := by
        show (some (kN p.1)).bind (valD (kI T)) = _
        rw [Option.bind_some, val_kI, gm]; rfl
      have et : (L.take (j + 1)).map partD = (L.take j).map partD ++ [partD p] := by
        rw [List.take_add_one, hp, Option.toList_some, List.map_append]; rfl
      have ll : ((L.take j).map partD).length < sizeLine := sz1000' (by rw [List.length_map, List.length_take]; omega)
      have l0 : (0 : Nat) ≤ sizeLine := Nat.zero_le _
      have l1 : (1 : Nat) ≤ sizeLine := sz1000 (by decide)
      have l2 : (2 : Nat) ≤ sizeLine := sz1000 (by decide)
      refine ⟨_, [some (knD K), some (knD H), some (.dict (kI T)), y3, y4, some (.list ((L.take (j + 1)).map partD)), some (.int p.1), some (enc (wr p.1))], rfl, Or.inl ?_, _, _, rfl⟩
      rw [et]
      by_cases c : 0 < p.1
      · have ee : enc (wr p.1) = .tuple [.tuple [.tuple [], .int p.1]] := by
          unfold wr rzO
          rw [if_neg (by omega)]; rfl
        show gb_l_number_2 S _ = Out.nx [_, _, _, _, _, some (.list ((L.take j).map partD ++ [.tuple [enc (wr p.1), .int p.2]])), _, _]
        rw [ee]
        generalize (L.take j).map partD = PL at *
        generalize knD K = KK at *
        generalize knD H = HH at *
        generalize kI T = TT at *
        simp [c, dx, ll]
      · have z0 : p.1 = 0 := by
          have := tot_pos hK H [] (fun q hq => by cases hq) p (by rw [hL] at pm; exact pm)
          omega
        have ee : enc (wr p.1) = .tuple [] := by
          unfold wr rzO
          rw [if_pos z0]; rfl
        show gb_l_number_2 S _ = Out.nx [_, _, _, _, _, some (.list ((L.take j).map partD ++ [.tuple [enc (wr p.1), .int p.2]])), _, _]
        rw [ee]
        generalize (L.take j).map partD = PL at *
        generalize knD K = KK at *
        generalize knD H = HH at *
        generalize kI T = TT at *
        simp [c, dx, ll]
  rw [Nat.zero_add, List.length_map, List.take_length] at e2
  rw [← hL, enc_numT]
  have l0 : (0 : Nat) ≤ sizeLine := Nat.zero_le _
  have f1 : sNewV [2, 5] 2 (eC (.dict [])) [some (knD K), some (knD H), none, none, none, none, none, none] = .nx [some (knD K), some (knD H), some (.dict []), none, none, none, none, none] := by
    generalize knD K = KK at *
    generalize knD H = HH at *
    simp
  have f2 : sForDP [2, 5] false (eVar 1) itI (tg2 3 4) (gb_l_number_1 S) [some (knD K), some (knD H), some (.dict []), none, none, none, none, none] = .nx [some (knD K), some (knD H), some (.dict (kI T)), y3, y4, none, none, none] := by
    unfold knD at *
    generalize kv PyData.int K = KK at *
    generalize kv PyData.int H = HH at *
    generalize kI T = TT at *
    simp [iH, e]
  have f3 : sNew [5] 5 (nLst aNil) [some (knD K), some (knD H), some (.dict (kI T)), y3, y4, none, none, none] = .nx [some (knD K), some (knD H), some (.dict (kI T)), y3, y4, some (.list []), none, none] := by
    generalize knD K = KK at *
    generalize knD H = HH at *
    generalize kI T = TT at *
    simp [l0]
  have f4 : sFor [5] (iSeq (eSortR (eVar 2))) (gtName 6) (gb_l_number_2 S) [some (knD K), some (knD H), some (.dict (kI T)), y3, y4, some (.list []), none, none] = .nx [some (knD K), some (knD H), some (.dict (kI T)), y3, y4, some (.list (L.map partD)), y6, y7] := by
    rw [← e2]
    generalize knD K = KK at *
    generalize knD H = HH at *
    generalize L.map (fun p => PyData.int p.1) = IL at *
    generalize kI T = TT at *
    simp [st]
  unfold g_l_number
  show sSeq _ (sSeq _ (sSeq _ (sSeq _ _))) [some (knD K), some (knD H), none, none, none, none, none, none] = _
  rw [u_sSeq, f1, Out.then_nx, u_sSeq, f2, Out.then_nx, u_sSeq, f3, Out.then_nx, u_sSeq, f4, Out.then_nx]
  rfl
end Lk68
set_option Elab.async false
set_option linter.all false
set_option maxRecDepth 100000
set_option maxHeartbeats 4000000
namespace Lk68
open PySem PySem.Spec L2 Pu Nm Rk O
def lessL : RL → RL → Bool
  | [], [] => false
  | [], _ :: _ => true
  | _ :: _, [] => false
  | p :: a, q :: b => if p.1 ≠ q.1 then decide (p.1 < q.1) else if p.2 ≠ q.2 then decide (p.2 < q.2) else lessL a b
theorem ne_wr {r : Int} : gNe (enc (wr r)) (.tuple []) = some (.bool (decide (r ≠ 0))) := by
  unfold wr rzO
  by_cases c : r = 0
  · rw [if_pos c, decide_eq_false (by simpa using c)]
    show gNe (.tuple []) (.tuple []) = _
    simp [gNe, shp, PyData.canLay0, PyData.canLayAll0, PyData.depth, PyData.depthAll, PyData.eqv, PyData.eqvAll]
  · rw [if_neg c, decide_eq_true c]
    show gNe (.tuple [.tuple [.tuple [], .int r]]) (.tuple []) = _
    simp [gNe, shp, PyData.canLay0, PyData.canLayAll0, PyData.depth, PyData.depthAll, PyData.eqv, PyData.eqvAll]
theorem ix_wr {r : Int} (h : r ≠ 0) : (gIx (enc (wr r)) (.int 0)).bind (fun d => gIx d (.int 1)) = some (.int r) := by
  unfold wr rzO
  rw [if_neg h]
  rfl
theorem rngD_cons (lo : Int) (n : Nat) : rngD lo (n + 1) = .int lo :: rngD (lo + 1) n := by
  unfold rngD
  rw [List.range_succ_eq_map, List.map_cons, List.map_map]
  congr 1
  · congr 1; simp
  · refine List.map_congr_left fun i _ => ?_
    show PyData.int (lo + ((i + 1 : Nat) : Int)) = .int (lo + 1 + (i : Nat))
    congr 1; omega
section
variable {S : Nat → Fn} {DA DB : PyData} {j : Int} {p q : Int × Int}
theorem less_A (ga : gIx DA (.int j) = some (partD p)) {y4 : Option PyData} : sIf (tOf (eOp gNe (eOp gIx (eOp gIx (eVar 0) (eVar 2)) (eC (.int 0))) (eTup aNil))) (sSet [] 3 (eOp gIx (eOp gIx (eOp gIx (eOp gIx (eVar 0) (eVar 2)) (eC (.int 0))) (eC (.int 0))) (eC (.int 1)))) sNil [some DA, some DB, some (.int j), some (.int 0), y4] = .nx [some DA, some DB, some (.int j), some (.int p.1), y4] := by
  have g0 : gIx (partD p) (.int 0) = some (enc (wr p.1)) := rfl
  have ne := ne_wr (r := p.1)
  have l0 : (0 : Nat) ≤ sizeLine := Nat.zero_le _
  by_cases c : p.1 = 0
  · rw [decide_eq_false (by simpa using c)] at ne
    rw [c] at *
    generalize enc (wr 0) = E at *
    generalize partD p = PP at *
    simp [ga, g0, ne, l0]
  · rw [decide_eq_true c] at ne
    have ix := ix_wr c
    obtain ⟨d, h1, h2⟩ := Option.bind_eq_some_iff.mp ix
    generalize enc (wr p.1) = E at *
    generalize partD p = PP at *
    simp [ga, g0, ne, l0, h1, h2]
theorem less_B (gb : gIx DB (.int j) = some (partD q)) {y3 : Option PyData} : sIf (tOf (eOp gNe (eOp gIx (eOp gIx (eVar 1) (eVar 2)) (eC (.int 0))) (eTup aNil))) (sSet [] 4 (eOp gIx (eOp gIx (eOp gIx (eOp gIx (eVar 1) (eVar 2)) (eC (.int 0))) (eC (.int 0))) (eC (.int 1)))) sNil [some DA, some DB, some (.int j), y3, some (.int 0)] = .nx [some DA, some DB, some (.int j), y3, some (.int q.1)] := by
  have g0 : gIx (partD q) (.int 0) = some (enc (wr q.1)) := rfl
  have ne := ne_wr (r := q.1)
  have l0 : (0 : Nat) ≤ sizeLine := Nat.zero_le _
  by_cases c : q.1 = 0
  · rw [decide_eq_false (by simpa using c)] at ne
    rw [c] at *
    generalize enc (wr 0) = E at *
    generalize partD q = PP at *
    simp [gb, g0, ne, l0]
  · rw [decide_eq_true c] at ne
    have ix := ix_wr c
    obtain ⟨d, h1, h2⟩ := Option.bind_eq_some_iff.mp ix
    generalize enc (wr q.1) = E at *
    generalize partD q = PP at *
    simp [gb, g0, ne, l0, h1, h2]
theorem less_turn (ga : gIx DA (.int j) = some (partD p)) (gb : gIx DB (.int j) = some (partD q)) {y3 y4 : Option PyData} : gb_l_less_1 S [some DA, some DB, some (.int j), y3, y4] =
    if p.1 ≠ q.1 then .rt (.bool (decide (p.1 < q.1))) else if p.2 ≠ q.2 then .rt (.bool (decide (p.2 < q.2))) else .nx [some DA, some DB, some (.int j), some (.int p.1), some (.int q.1)] := by
  have f1 : sSet [] 3 (eC (.int 0)) [some DA, some DB, some (.int j), y3, y4] = .nx [some DA, some DB, some (.int j), some (.int 0), y4] := by simp
  have f2 : sSet [] 4 (eC (.int 0)) [some DA, some DB, some (.int j), some (.int 0), y4] = .nx [some DA, some DB, some (.int j), some (.int 0), some (.int 0)] := by simp
  have f3 := less_A (DB := DB) ga (y4 := some (.int 0))
  have f4 := less_B (DA := DA) gb (y3 := some (.int p.1))
  have a1 : gIx (partD p) (.int 1) = some (.int p.2) := rfl
  have b1 : gIx (partD q) (.int 1) = some (.int q.2) := rfl
  show sSeq _ (sSeq _ (sSeq _ (sSeq _ _))) [some DA, some DB, some (.int j), y3, y4] = _
  rw [u_sSeq, f1, Out.then_nx, u_sSeq, f2, Out.then_nx, u_sSeq, f3, Out.then_nx, u_sSeq, f4, Out.then_nx]
  by_cases c : p.1 = q.1
  · rw [if_neg (by simpa using c)]
    by_cases d : p.2 = q.2
    · rw [if_neg (by simpa using d)]
      generalize partD p = PP at *
      generalize partD q = QQ at *
      simp [c, ga, gb, a1, b1, d]
    · rw [if_pos d]
      generalize partD p = PP at *
      generalize partD q = QQ at *
      simp [c, ga, gb, a1, b1, d]
  · rw [if_pos c]
    simp [c]
end
def outK (o : Out) (f : Vars → Out) : Out := match o with
  | .nx ρ2 => f ρ2
  | .ct ρ2 => f ρ2
  | .bk ρ2 => .nx ρ2
  | .rt d => .rt d
  | .err kk ρ2 => .err kk ρ2
  | .bad => .bad
theorem forL_one {gt : PyData → Vars → Option Vars} {g : Vars → Out} {d : PyData} {ds : List PyData} {ρ ρ1 : Vars} {o : Out} (h1 : gt d ρ = some ρ1) (h2 : g ρ1 = o) : forL gt g (d :: ds) ρ = outK o (forL gt g ds) := by
  rw [u_forL_c, h1]
  dsimp only
  rw [h2]
  cases o <;> rfl
theorem less_step {S : Nat → Fn} (A B : RL) (ha : A.length ≤ 1000) (hb : B.length ≤ 1000) : fnD 5 (g_l_less S) [enc (numL A), enc (numL B)] = .ok (.bool (lessL A B)) := by
  refine fnD_of ?_
  rw [enc_numT, enc_numT]
  have at_ : ∀ (L : RL) (j : Nat) (h : j < L.length), gIx (.tuple (L.map partD)) (.int (j : Nat)) = some (partD L[j]) := fun L j h => L2.atI_nat (by rw [List.getElem?_map, List.getElem?_eq_getElem h]; rfl)
  have la : gLen [.tuple (A.map partD)] = some (.int (A.length : Nat)) := by unfold gLen; dsimp only; rw [List.length_map]
  have lb : gLen [.tuple (B.map partD)] = some (.int (B.length : Nat)) := by unfold gLen; dsimp only; rw [List.length_map]
  have key : ∀ (n j : Nat) (y2 y3 y4 : Option PyData), j + n = min A.length B.length →
      forL (gtName 2) (gb_l_less_1 S) (rngD (j : Int) n) [some (.tuple (A.map partD)), some (.tuple (B.map partD)), y2, y3, y4] = .rt (.bool (lessL (A.drop j) (B.drop j))) ∨
      ∃ z2 z3 z4, forL (gtName 2) (gb_l_less_1 S) (rngD (j : Int) n) [some (.tuple (A.map partD)), some (.tuple (B.map partD)), y2, y3, y4] = .nx [some (.tuple (A.map partD)), some (.tuple (B.map partD)), z2, z3, z4] ∧ lessL (A.drop j) (B.drop j) = decide (A.length < B.length) := by
    intro n
    induction n with
    | zero =>
      intro j y2 y3 y4 hj
      refine .inr ⟨y2, y3, y4, rfl, ?_⟩
      by_cases c : A.length < B.length
      · rw [decide_eq_true c, List.drop_of_length_le (show A.length ≤ j by omega)]
        cases e : B.drop j with
        | nil => have := congrArg List.length e; rw [List.length_drop, List.length_nil] at this; omega
        | cons x t => rfl
      · rw [decide_eq_false c, List.drop_of_length_le (show B.length ≤ j by omega)]
        cases A.drop j <;> rfl
    | succ n ih =>
      intro j y2 y3 y4 hj
      have ja : j < A.length := by omega
      have jb : j < B.length := by omega
      have t := less_turn (S := S) (at_ A j ja) (at_ B j jb) (y3 := y3) (y4 := y4)
      have da : A.drop j = A[j] :: A.drop (j + 1) := List.drop_eq_getElem_cons ja
      have db : B.drop j = B[j] :: B.drop (j + 1) := List.drop_eq_getElem_cons jb
      have ll : lessL (A.drop j) (B.drop j) = if A[j].1 ≠ B[j].1 then decide (A[j].1 < B[j].1) else if A[j].2 ≠ B[j].2 then decide (A[j].2 < B[j].2) else lessL (A.drop (j + 1)) (B.drop (j + 1)) := by rw [da, db]; rfl
      have h1 : gtName 2 (.int (j : Nat)) [some (.tuple (A.map partD)), some (.tuple (B.map partD)), y2, y3, y4] = some [some (.tuple (A.map partD)), some (.tuple (B.map partD)), some (.int (j : Nat)), y3, y4] := rfl
      rw [rngD_cons, ll]
      by_cases c : A[j].1 = B[j].1
      · rw [if_neg (by simpa using c)] at t ⊢
        by_cases d : A[j].2 = B[j].2
        · rw [if_neg (by simpa using d)] at t ⊢
          rw [forL_one h1 t]
          exact ih (j + 1) _ _ _ (by omega)
        · rw [if_pos d] at t ⊢
          rw [forL_one h1 t]
          exact .inl rfl
      · rw [if_pos c] at t ⊢
        rw [forL_one h1 t]
        exact .inl rfl
  have gm : gMin2 [.int (A.length : Nat), .int (B.length : Nat)] = some (.int (min A.length B.length : Nat)) := by
    unfold gMin2
    dsimp only
    by_cases c : (B.length : Int) < (A.length : Int)
    · rw [if_pos c, Nat.min_eq_right (by omega)]
    · rw [if_neg c, Nat.min_eq_left (by omega)]
  have kI' : okI ((min A.length B.length : Nat) : Int) = true := okI_small (by omega) (by omega)
  have tn : ((min A.length B.length : Nat) : Int).toNat = min A.length B.length := Int.toNat_natCast _
  unfold g_l_less
  rcases key (min A.length B.length) 0 none none none (by omega) with k | ⟨z2, z3, z4, k, e⟩
  · rw [List.drop_zero, List.drop_zero] at k
    have k' : forL (gtName 2) (gb_l_less_1 S) (rngD 0 (min A.length B.length)) [some (.tuple (A.map partD)), some (.tuple (B.map partD)), none, none, none] = .rt (.bool (lessL A B)) := k
    generalize lessL A B = b at *
    generalize min A.length B.length = mm at *
    generalize A.map partD = AA at *
    generalize B.map partD = BB at *
    simp [la, lb, gm, kI', tn, k']
  · rw [List.drop_zero, List.drop_zero] at e
    have k' : forL (gtName 2) (gb_l_less_1 S) (rngD 0 (min A.length B.length)) [some (.tuple (A.map partD)), some (.tuple (B.map partD)), none, none, none] = .nx [some (.tuple (A.map partD)), some (.tuple (B.map partD)), z2, z3, z4] := k
    rw [e]
    generalize min A.length B.length = mm at *
    generalize A.map partD = AA at *
    generalize B.map partD = BB at *
    simp [la, lb, gm, kI', tn, k']
end Lk68
set_option Elab.async false
set_option linter.all false
set_option maxRecDepth 100000
set_option maxHeartbeats 4000000
namespace Lk68
open PySem PySem.Spec L2 Pu Nm Rk
def gL : RL → Int → Int
  | [], _ => 0
  | p :: t, r => if p.1 = r then p.2 else gL t r
theorem gL_out : ∀ {L : RL} {r : Int}, (∀ p ∈ L, p.1 < r) → gL L r = 0
  | [], r, _ => rfl
  | p :: t, r, h => by
    have := h p (by simp)
    unfold gL
    rw [if_neg (by omega)]
    exact gL_out fun q hq => h q (List.mem_cons_of_mem _ hq)
theorem gL_ge : ∀ {L : RL} {r : Int}, (∀ p ∈ L, 0 < p.2) → 0 ≤ gL L r
  | [], r, _ => Int.le_refl _
  | p :: t, r, h => by
    have := h p (by simp)
    unfold gL
    split
    · omega
    · exact gL_ge fun q hq => h q (List.mem_cons_of_mem _ hq)
theorem less_true : ∀ (A B : RL) (rk : Int), Srt A → Srt B → (∀ p ∈ A, 0 < p.2) → (∀ p ∈ B, 0 < p.2) → (∀ r, rk < r → gL A r = gL B r) → gL A rk < gL B rk → lessL A B = true
  | [], [], rk, _, _, _, _, _, h => by unfold gL at h; omega
  | [], q :: b, rk, _, _, _, _, _, _ => rfl
  | p :: a, [], rk, _, _, hA, _, _, h => by
    have := gL_ge (L := p :: a) (r := rk) hA
    have e : gL [] rk = 0 := rfl
    omega
  | p :: a, q :: b, rk, sA, sB, hA, hB, hg, h => by
    have a1 := List.pairwise_cons.mp sA
    have b1 := List.pairwise_cons.mp sB
    have pA := hA p (by simp)
    have pB := hB q (by simp)
    have oA : ∀ r, p.1 < r → gL (p :: a) r = 0 := fun r hr => gL_out fun x hx => (List.mem_cons.mp hx).elim (fun e => by rw [e]; exact hr) fun z => by have := a1.1 x z; omega
    have oB : ∀ r, q.1 < r → gL (q :: b) r = 0 := fun r hr => gL_out fun x hx => (List.mem_cons.mp hx).elim (fun e => by rw [e]; exact hr) fun z => by have := b1.1 x z; omega
    have eA : gL (p :: a) p.1 = p.2 := if_pos rfl
    have eB : gL (q :: b) q.1 = q.2 := if_pos rfl
    unfold lessL
    by_cases c : p.1 = q.1
    · rw [if_neg (by simpa using c)]
      by_cases d : p.2 = q.2
      · rw [if_neg (by simpa using d)]
        have s1 : rk ≠ p.1 := fun z => by
          rw [z, eA, c, eB] at h; omega
        have s2 : ¬ p.1 < rk := fun z => by
          rw [oA rk z, oB rk (by omega)] at h; omega
        have ra : gL (p :: a) rk = gL a rk := if_neg fun z => s1 z.symm
        have rb : gL (q :: b) rk = gL b rk := if_neg fun z => s1 (by rw [c]; exact z.symm)
        refine less_true a b rk a1.2 b1.2 (fun x hx => hA x (List.mem_cons_of_mem _ hx)) (fun x hx => hB x (List.mem_cons_of_mem _ hx)) (fun r hr => ?_) (by rw [← ra, ← rb]; exact h)
        by_cases z : r < p.1
        · have h1 : gL (p :: a) r = gL a r := if_neg (by omega)
          have h2 : gL (q :: b) r = gL b r := if_neg (by omega)
          rw [← h1, ← h2]; exact hg r hr
        · rw [gL_out fun x hx => by have := a1.1 x hx; omega, gL_out fun x hx => by have := b1.1 x hx; omega]
      · rw [if_pos d]
        refine decide_eq_true ?_
        by_cases s1 : rk < p.1
        · have := hg p.1 s1
          rw [eA, c, eB] at this
          exact absurd this d
        · by_cases s2 : p.1 < rk
          · rw [oA rk s2, oB rk (by omega)] at h; omega
          · have e : rk = p.1 := by omega
            rw [e, eA, c, eB] at h
            exact h
    · rw [if_pos c]
      refine decide_eq_true ?_
      apply Classical.byContradiction
      intro z
      have lt : q.1 < p.1 := by omega
      by_cases s1 : rk < p.1
      · have := hg p.1 s1
        rw [eA, oB p.1 lt] at this
        omega
      · rw [oB rk (by omega)] at h
        have := gL_ge (L := p :: a) (r := rk) hA
        omega
theorem gL_ins : ∀ (L : RL) (r m s : Int), Srt L → gL (insL L r m) s = gL L s + if s = r then m else 0
  | [], r, m, s, _ => by
    show (if r = s then m else 0) = 0 + _
    by_cases c : r = s
    · rw [if_pos c, if_pos c.symm]; omega
    · rw [if_neg c, if_neg fun z => c z.symm]; omega
  | p :: t, r, m, s, h => by
    have a := List.pairwise_cons.mp h
    unfold insL
    by_cases c : r < p.1
    · rw [if_pos c]
      have ih := gL_ins t r m s a.2
      show (if p.1 = s then p.2 else gL (insL t r m) s) = (if p.1 = s then p.2 else gL t s) + _
      by_cases d : p.1 = s
      · rw [if_pos d, if_pos d, if_neg (by omega)]; omega
      · rw [if_neg d, if_neg d, ih]
    · rw [if_neg c]
      by_cases d : p.1 < r
      · rw [if_pos d]
        show (if r = s then m else gL (p :: t) s) = gL (p :: t) s + _
        by_cases e : r = s
        · rw [if_pos e, if_pos e.symm]
          have : gL (p :: t) s = 0 := gL_out fun x hx => (List.mem_cons.mp hx).elim (fun z => by rw [z]; omega) fun z => by have := a.1 x z; omega
          omega
        · rw [if_neg e, if_neg fun z => e z.symm]; omega
      · rw [if_neg d]
        show (if p.1 = s then p.2 + m else gL t s) = (if p.1 = s then p.2 else gL t s) + _
        by_cases e : p.1 = s
        · rw [if_pos e, if_pos e, if_pos (by omega)]
        · rw [if_neg e, if_neg e, if_neg (by omega)]; omega
def sumR (K : Hd) : Hd → Int → Int
  | [], _ => 0
  | p :: H, r => (if r = hv K p.1 then p.2 else 0) + sumR K H r
theorem ins_val : ∀ (L : RL) (r m : Int), 0 < m → (∀ p ∈ L, 0 < p.2) → ∀ p ∈ insL L r m, 0 < p.2
  | [], r, m, hm, _ => fun p hp => by rw [List.mem_singleton.mp hp]; exact hm
  | q :: t, r, m, hm, h => fun p hp => by
    have hq := h q (by simp)
    unfold insL at hp
    split at hp
    · rcases List.mem_cons.mp hp with rfl | z
      · exact hq
      · exact ins_val t r m hm (fun x hx => h x (List.mem_cons_of_mem _ hx)) p z
    · split at hp
      · rcases List.mem_cons.mp hp with rfl | z
        · exact hm
        · exact h p z
      · rcases List.mem_cons.mp hp with rfl | z
        · show 0 < q.2 + m; omega
        · exact h p (List.mem_cons_of_mem _ z)
theorem tot_get {K : Hd} : ∀ (H : Hd) (L : RL), Srt L → (∀ p ∈ L, 0 < p.2) → (∀ p ∈ H, 0 < p.2) →
    Srt (H.foldl (fun L p => insL L (hv K p.1) p.2) L) ∧ (∀ p ∈ H.foldl (fun L p => insL L (hv K p.1) p.2) L, 0 < p.2) ∧ ∀ s, gL (H.foldl (fun L p => insL L (hv K p.1) p.2) L) s = gL L s + sumR K H s
  | [], L, h1, h2, _ => ⟨h1, h2, fun s => by show gL L s = gL L s + 0; omega⟩
  | p :: H, L, h1, h2, h3 => by
    obtain ⟨a, b, c⟩ := tot_get (K := K) H (insL L (hv K p.1) p.2) (ins_srt _ _ _ h1) (ins_val _ _ _ (h3 p (by simp)) h2) fun q hq => h3 q (List.mem_cons_of_mem _ hq)
    refine ⟨a, b, fun s => ?_⟩
    rw [List.foldl_cons, c, gL_ins _ _ _ _ h1]
    show _ = gL L s + ((if s = hv K p.1 then p.2 else 0) + sumR K H s)
    omega
def sumU (K : Hd) (f : Str → Int) : List Str → Int → Int
  | [], _ => 0
  | w :: U, r => (if r = hv K w then f w else 0) + sumU K f U r
theorem sumU_zero {K : Hd} {f : Str → Int} : ∀ {U : List Str} {r : Int}, (∀ w ∈ U, r = hv K w → f w = 0) → sumU K f U r = 0
  | [], r, _ => rfl
  | w :: U, r, h => by
    unfold sumU
    rw [sumU_zero fun v hm => h v (List.mem_cons_of_mem _ hm)]
    split
    · rename_i e
      rw [h w (by simp) e]; rfl
    · rfl
theorem sumU_add {K : Hd} {f g e : Str → Int} (h : ∀ w, e w = f w + g w) : ∀ (U : List Str) (r : Int), sumU K e U r = sumU K f U r + sumU K g U r
  | [], r => rfl
  | w :: U, r => by
    unfold sumU
    rw [sumU_add h U r, h w]
    split <;> omega
theorem sumU_one {K : Hd} {k : Str} {n : Int} : ∀ {U : List Str} {r : Int}, U.Nodup → k ∈ U → sumU K (fun w => if k = w then n else 0) U r = if r = hv K k then n else 0
  | w :: U, r, hn, hk => by
    rw [List.nodup_cons] at hn
    unfold sumU
    by_cases c : k = w
    · subst c
      rw [sumU_zero fun v hm _ => if_neg fun z : k = v => hn.1 (z ▸ hm), if_pos rfl]
      omega
    · rw [if_neg c, sumU_one hn.2 ((List.mem_cons.mp hk).resolve_left c)]
      split <;> (split <;> omega)
theorem sumR_U {K : Hd} {U : List Str} (hU : U.Nodup) : ∀ (H : Hd), (H.map (·.1)).Nodup → (∀ w ∈ H.map (·.1), w ∈ U) → ∀ r, sumR K H r = sumU K (hv H) U r
  | [], _, _, r => (sumU_zero fun w _ _ => rfl).symm
  | p :: H, hn, hs, r => by
    rw [List.map_cons, List.nodup_cons] at hn
    unfold sumR
    rw [sumR_U hU H hn.2 (fun w hw => hs w (List.mem_cons_of_mem _ hw)) r]
    have e : ∀ w, hv (p :: H) w = (if p.1 = w then p.2 else 0) + hv H w := fun w => by
      have h1 : hv (p :: H) w = if p.1 = w then p.2 else hv H w := by
        unfold hv gt
        rw [List.find?_cons]
        by_cases c : p.1 = w
        · rw [decide_eq_true c, if_pos c]; rfl
        · rw [decide_eq_false c, if_neg c]
      rw [h1]
      by_cases c : p.1 = w
      · rw [if_pos c, if_pos c, hv_out (c ▸ hn.1)]; omega
      · rw [if_neg c, if_neg c]; omega
    rw [sumU_add e, sumU_one hU (hs p.1 (by simp))]
theorem falls {K H G : Hd} {k : Str} {U : List Str} (hU : U.Nodup) (o : HOk H) (g : GOk G) (hk : hv H k ≠ 0) (hH : ∀ w ∈ H.map (·.1), w ∈ U) (hE : ∀ w ∈ (exH H k G).map (·.1), w ∈ U) (hG : ∀ w ∈ G.map (·.1), w ∈ U) (low : ∀ p ∈ G, 0 < p.2 → hv K p.1 < hv K k) :
    lessL (totL K (exH H k G)) (totL K H) = true := by
  obtain ⟨ox, ex⟩ := exH_ok o hk g
  obtain ⟨a1, a2, a3⟩ := tot_get (K := K) (exH H k G) [] List.Pairwise.nil (fun p hp => by cases hp) ox.pos
  obtain ⟨b1, b2, b3⟩ := tot_get (K := K) H [] List.Pairwise.nil (fun p hp => by cases hp) o.pos
  have kU : k ∈ U := hH k ((hv_in o).mpr hk)
  have e1 : ∀ r, sumR K (exH H k G) r = sumU K (hv H) U r + (sumU K (fun w => if k = w then -1 else 0) U r + sumU K (hv G) U r) := fun r => by
    rw [sumR_U hU _ ox.nd hE, sumU_add (f := hv H) (g := fun w => (if k = w then -1 else 0) + hv G w) (fun w => by
      rw [ex]
      show hv H w - (if k = w then 1 else 0) + hv G w = hv H w + ((if k = w then -1 else 0) + hv G w)
      split <;> omega), sumU_add (f := fun w => if k = w then (-1 : Int) else 0) (g := hv G) fun w => rfl]
  have e2 : ∀ r, hv K k ≤ r → sumU K (hv G) U r = 0 := fun r hr => sumU_zero fun w _ hw => by
    apply Classical.byContradiction
    intro z
    have wG : w ∈ G.map (·.1) := Classical.byContradiction fun q => z (hv_out q)
    obtain ⟨p, hp, rfl⟩ := List.mem_map.mp wG
    have h1 := hv_mem g.nd (show (p.1, p.2) ∈ G from hp)
    have h2 := g.pos p hp
    have := low p hp (by omega)
    omega
  have z0 : ∀ s, gL [] s = 0 := fun s => rfl
  have hx : ∀ r, gL (totL K (exH H k G)) r = sumR K (exH H k G) r := fun r => by rw [show gL (totL K (exH H k G)) r = _ from a3 r, z0]; omega
  have hy : ∀ r, gL (totL K H) r = sumU K (hv H) U r := fun r => by rw [show gL (totL K H) r = _ from b3 r, z0, sumR_U hU _ o.nd hH]; omega
  refine less_true _ _ (hv K k) a1 b1 a2 b2 (fun r hr => ?_) ?_
  · rw [hx, hy, e1, e2 r (by omega), sumU_one hU kU, if_neg (by omega)]; omega
  · rw [hx, hy, e1, e2 _ (Int.le_refl _), sumU_one hU kU, if_pos rfl]; omega
end Lk68
set_option Elab.async false
set_option linter.all false
set_option maxRecDepth 100000
set_option maxHeartbeats 4000000
set_option exponentiation.threshold 20
namespace Lk68
open PySem PySem.Spec L2 Pu Nm Rk
theorem who (k : Nat) : WhoOk (sem (k + 1) 0) := is_whole_step (sem k)
theorem rai (k : Nat) : RaiOk (sem (k + 2) 3) := raised_step (S := sem (k + 1)) (c0 := 0) (who k)
theorem whl (k : Nat) {n : Int} (hn : 0 ≤ n) : sem (k + 3) 2 [.int n] = .ok (enc (rzO .z n)) := whole_step (S := sem (k + 2)) (c0 := 3) (rai k) hn
theorem cmp1 : ∀ k, CmpOk k (sem k 1)
  | 0 => fun _ _ h => absurd h (Nat.not_lt_zero _)
  | k + 1 => compare_step (c0 := 1) (cmp1 k)
theorem mrg (k : Nat) : MrgOk k (sem (k + 1) 4) := merged_step (S := sem k) (c0 := 1) (cmp1 k)
theorem cel (k : Nat) : CellOk (sem (k + 1) 11) := fun ns j => cell_step (S := sem k) ns j
theorem amt (k : Nat) : AmOk (sem (k + 1) 13) := amount_step (sem k)
theorem kds (k : Nat) : KindsOk (sem (k + 1) 5) := fun rs R => kinds_of_step (S := sem k) (by have := R.len; omega)
theorem nxr (k : Nat) : NextOk (sem (k + 1) 6) := fun os K => next_rank_step (S := sem k) os K
theorem rng (k : Nat) : RingF (sem (k + 1) 7) := ring_step (S := sem k)
theorem rks (k : Nat) : RanksOk (sem (k + 2) 8) := ranks_step (S := sem (k + 1)) (c0 := 5) (c1 := 6) (c2 := 7) (kds k) (nxr k) (rng k)
theorem exo (k : Nat) : ExOk (sem (k + 1) 10) := ex_ok (sem k)
theorem nrk_ge' {K : Kn} : ∀ {os : List Str} {r v : Int}, nrk K os r = some v → r ≤ v
  | [], r, v, h => by cases h; exact Int.le_refl _
  | o :: os, r, v, h => by
    unfold nrk at h
    cases e : gt K o with
    | none => rw [e] at h; cases h
    | some x =>
      rw [e] at h
      have := nrk_ge' h
      split at this <;> omega
theorem nrk_lt {K : Kn} : ∀ {os : List Str} {r v : Int}, nrk K os r = some v → ∀ o ∈ os, hv K o < v
  | [], r, v, _ => fun o ho => by cases ho
  | o :: os, r, v, h => by
    unfold nrk at h
    cases e : gt K o with
    | none => rw [e] at h; cases h
    | some x =>
      rw [e] at h
      intro u hu
      rcases List.mem_cons.mp hu with rfl | z
      · have := nrk_ge' h
        have e2 : hv K u = x := by unfold hv; rw [e]; rfl
        rw [e2]
        split at this <;> omega
      · exact nrk_lt h u z
theorem kn_pos {rs : Rs} {K : Kn} (h : KnOk rs K) (w : Str) : 0 ≤ hv K w := by
  cases e : gt K w with
  | none => unfold hv; rw [e]; exact Int.le_refl _
  | some r =>
    unfold hv; rw [e]
    exact nrk_ge' (h.val w r e)
theorem same_self {G : Hd} (h : (G.map (·.1)).Nodup) : sameD (kv .int G) (kv .int G) = true := by
  unfold sameD
  rw [decide_eq_true rfl, Bool.true_and, List.all_eq_true]
  intro p hp
  obtain ⟨q, hq, rfl⟩ := List.mem_map.mp hp
  dsimp only
  rw [keyD_k]
  dsimp only
  rw [val_kv, gt_mem h (show (q.1, q.2) ∈ G from hq), Option.map_some]
  exact decide_eq_true rfl
theorem ne_two {H G : Hd} (h : (H.map (·.1)).Nodup) (g : (G.map (·.1)).Nodup) : gNeLD (.list [knD H, knD G]) (.list [knD H, knD G]) = some (.bool false) := by
  unfold gNeLD
  dsimp only
  rw [if_pos]
  unfold dsames dsames dsames dsame knD
  dsimp only
  rw [ins_kv, ins_kv, same_self h, same_self g]
  rfl
theorem ne_num (L : RL) : gNe (enc (numL L)) (enc (numL L)) = some (.bool false) := by
  have := num_h L
  unfold gNe
  rw [enc_shaped (by omega), enc_eqv, decide_eq_true rfl]
  rfl
theorem whole_i {S : Nat → Fn} (m : Int) : fnD 1 (g_l_whole S) [.int m] = .ok (.bool true) := rfl
theorem copy_kn (H : Hd) : gDcopy [knD H] = some (knD H) := by unfold gDcopy knD; dsimp only; rw [if_neg (by rw [ins_kv]; decide)]
theorem isi_kn (H : Hd) : gIsi "dict" (knD H) = .ok (.bool true) := by cases H <;> rfl
def Told (rs : Rs) (told : PyData) (H : Hd) : Prop := (told = .tuple [.str "ranks", knD (known rs)] ∧ ∀ w ∈ H.map (·.1), w ∈ (known rs).map (·.1)) ∨ ∃ r, told = .tuple [.str "ring", tx r]
structure St (names : List Str) (rs : Rs) (told : PyData) (H : Hd) : Prop where
  o : HOk H
  sub : ∀ w ∈ H.map (·.1), w ∈ names
  told : Told rs told H
theorem St.len {names : List Str} {rs : Rs} {told : PyData} {H : Hd} (s : St names rs told H) : H.length ≤ names.length := by
  have := sub_len s.o.nd s.sub
  rwa [List.length_map] at this
theorem turn {names : List Str} (n1 : 1 ≤ names.length) (n2 : names.length ≤ 10) (no : ∀ w ∈ names, PyData.strOk w = true) {rs : Rs} (P : RP names 20 rs) {told : PyData} (hall : told = .tuple [.str "ranks", knD (known rs)] → ∀ k ∈ kinds rs, gt (known rs) k ≠ none) {H : Hd} (s : St names rs told H) {c : Int} (hc : c.natAbs.log2 ≤ 1048576) (x0 x6 x7 x8 x9 x10 x11 : Option PyData) :
    ∃ H' y6 y7 y8 y9 y10 y11, St names rs told H' ∧ gb_law_1 (sem 100) [x0, some (tx names), some (rsD rs), some (knD H), some told, some (.int c), x6, x7, x8, x9, x10, x11] = .nx [x0, some (tx names), some (rsD rs), some (knD H'), some told, some (.int c), y6, y7, y8, y9, y10, y11] := by
  have R := P.ok (by omega) no
  have gl := gLen_tx names
  have mn : ∀ i : Int, cMod i (names.length : Int) = true := fun i => cMod_of (by omega)
  have d10 : cDiv c 10 = true := cDiv_of 4 (by decide) (by decide) (by decide) (by decide)
  obtain ⟨k, hk, ek⟩ := at_tx (l := names) (i := c % (names.length : Int)) (Int.emod_nonneg _ (by omega)) (Int.emod_lt_of_pos _ (by omega))
  obtain ⟨G, h17, g, gs⟩ := given_step (S := sem 99) (amt 98) (c := c / 10) (N := c.natAbs) hc (div_abs c 10 (by decide)) (rs := rs) n1 (by omega) (fun k => P.ls k) k
  have gl2 : G.length ≤ names.length := by
    have := sub_len g.nd gs
    rwa [List.length_map] at this
  have hl := s.len
  have C : Ctx rs H k G := ⟨R, s.o, g, fun p hp => no _ (gs _ (List.mem_map.mpr ⟨p, hp, rfl⟩)), by omega⟩
  have cH := copy_kn H
  have cG := copy_kn G
  have nt := ne_two s.o.nd g.nd
  have i0 : gIx (.list [knD H, knD G]) (.int 0) = some (knD H) := rfl
  have i1 : gIx (.list [knD H, knD G]) (.int 1) = some (knD G) := rfl
  have le2 : 2 ≤ sizeLine := sz1000 (by decide)
  have h17' : sem 100 17 [.int (c / 10), .str k, rsD rs, tx names] = .ok (knD G) := h17
  by_cases a : Alw rs H k G
  · -- it may be
    have h22 : sem 100 22 [rsD rs, knD H, .str k, knD G] = .ok (knD (exH H k G)) := exchanged_yes (S := sem 99) ((exo 98 rs H k G C).1 a)
    have h18 : sem 100 18 [rsD rs, knD H, .str k, knD G] = .ok (.bool true) := allowed_yes (S := sem 99) C a
    obtain ⟨B, h19, nB⟩ := behind_same (S := sem 99) C a (no k hk) fun w hw => no w (s.sub w hw)
    have h19' : sem 100 19 [knD H, .str k, knD G] = .ok (knD B) := h19
    obtain ⟨oE, eE⟩ := exH_ok s.o a.2 g
    have subE : ∀ w ∈ (exH H k G).map (·.1), w ∈ H.map (·.1) ++ G.map (·.1) := fun w hw => by
      have := (hv_in oE).mp hw
      rw [eE] at this
      apply Classical.byContradiction
      intro z
      have z1 : hv H w = 0 := hv_out fun q => z (List.mem_append_left _ q)
      have z2 : hv G w = 0 := hv_out fun q => z (List.mem_append_right _ q)
      have z3 : k ≠ w := fun q => by have := a.2; rw [q] at this; exact this z1
      rw [z1, z2, if_neg z3] at this
      exact this rfl
    have subN : ∀ w ∈ (exH H k G).map (·.1), w ∈ names := fun w hw => (List.mem_append.mp (subE w hw)).elim (s.sub w) (gs w)
    have lE : (exH H k G).length ≤ 10 := by
      have := sub_len oE.nd subN
      rw [List.length_map] at this
      omega
    have iE := isi_kn (exH H k G)
    have cE := copy_kn (exH H k G)
    have insE := ins_kv PyData.int (exH H k G)
    have ev : (kv PyData.int (exH H k G)).map itV = (exH H k G).map fun p => .int p.2 := by unfold kv; rw [List.map_map]; rfl
    have h12 : ∀ m : Int, sem 100 12 [.int m] = .ok (.bool true) := fun m => whole_i (S := sem 99) m
    have lc : ∀ ρ : Vars, ρ.length = 12 → lcL (gtName 11) (tNotR (tTru (eFn (sem 100 12) (aCons (eVar 11) aNil)))) (eVar 11) ρ ((kv PyData.int (exH H k G)).map itV) = .ok [] := fun ρ hρ => by
      rw [ev]
      have := lc_gen (E := fun p : Str × Int => PyData.int p.2) (ρ := ρ) (i := 11) (tt := tNotR (tTru (eFn (sem 100 12) (aCons (eVar 11) aNil)))) (f := eVar 11) (P := fun _ => false) (F := fun _ => PyData.none) (ps := exH H k G) (fun p _ => by
        have e : (ρ.set 11 (some (.int p.2))).getD 11 none = some (.int p.2) := by
          rw [List.getD_eq_getElem?_getD, List.getElem?_set_self (by omega)]; rfl
        have h := h12 p.2
        generalize sem 100 12 = F at *
        simp only [u_tNotR, u_tTru, u_eFn, u_aCons, u_aNil, u_eVar, e]
        simp [h]) (fun p _ z => by cases z)
      rw [this, List.filter_eq_nil_iff.mpr fun _ _ => by decide]
      rfl
    have l0 : (0 : Nat) < sizeLine := sz1000' (by decide)
    have gl0 : gLen [.list []] = some (.int 0) := rfl
    rcases s.told with ⟨rfl, hin⟩ | ⟨r, rfl⟩
    · -- ranks
      have hall' := hall rfl
      have ok := known_ok rs
      have kp := kn_pos ok
      have inE : ∀ w ∈ (exH H k G).map (·.1), w ∈ (known rs).map (·.1) := fun w hw => by
        rcases List.mem_append.mp (subE w hw) with z | z
        · exact hin w z
        · -- given ones stand in the list
          have nz := (hv_in oE).mp hw
          by_cases q : hv G w = 0
          · rw [eE, q] at nz
            have : hv H w ≠ 0 := fun y => by
              rw [y] at nz
              by_cases kw : k = w
              · rw [← kw] at y; exact a.2 y
              · rw [if_neg kw] at nz; exact nz rfl
            exact hin w ((hv_in s.o).mpr this)
          · obtain ⟨p, hp, rfl⟩ := List.mem_map.mp z
            have e1 := hv_mem g.nd (show (p.1, p.2) ∈ G from hp)
            have p0 := g.pos p hp
            obtain ⟨⟨l, gl3, hal⟩, _⟩ := a
            have pm := hal p hp (by omega)
            have pk : p.1 ∈ kinds rs := mem_kinds.mpr (List.mem_flatMap.mpr ⟨(k, l), gt_some gl3, List.mem_cons_of_mem _ pm⟩)
            exact Classical.byContradiction fun y => hall' p.1 pk (gt_none.mpr y)
      have nE : sem 100 9 [knD (known rs), knD (exH H k G)] = .ok (enc (numL (totL (known rs) (exH H k G)))) := heap_number_step (S := sem 99) (k := 98) (fun n hn => whl 96 hn) (rai 97) (mrg 98) (by decide) kp oE inE (by omega)
      have mE : sem 100 20 [knD (known rs), knD (exH H k G)] = .ok (enc (numL (totL (known rs) (exH H k G)))) := number_step (S := sem 99) kp oE inE (by omega)
      have mH : sem 100 20 [knD (known rs), knD H] = .ok (enc (numL (totL (known rs) H))) := number_step (S := sem 99) kp s.o hin (by omega)
      have nn := ne_num (totL (known rs) (exH H k G))
      obtain ⟨⟨l, gl3, hal⟩, hk0⟩ := a
      have kk : k ∈ (known rs).map (·.1) := hin k ((hv_in s.o).mpr hk0)
      have low : ∀ p ∈ G, 0 < p.2 → hv (known rs) p.1 < hv (known rs) k := fun p hp h0 => by
        obtain ⟨v, gv⟩ : ∃ v, gt (known rs) k = some v := by
          cases q : gt (known rs) k with
          | some v => exact ⟨v, rfl⟩
          | none => exact absurd kk (gt_none.mp q)
        have nv := ok.val k v gv
        have ev2 : hv (known rs) k = v := by unfold hv; rw [gv]; rfl
        rw [ev2]
        refine nrk_lt nv p.1 ?_
        unfold lsR
        rw [gl3]
        exact hal p hp h0
      obtain ⟨U, hU⟩ : ∃ U : List Str, U = (names.foldl addK []) := ⟨_, rfl⟩
      have uN : U.Nodup := by rw [hU]; exact nodup_adds List.nodup_nil
      have uM : ∀ w ∈ names, w ∈ U := fun w hw => by rw [hU]; exact mem_adds.mpr (.inr hw)
      have fl := falls (K := known rs) uN s.o g hk0 (fun w hw => uM w (s.sub w hw)) (fun w hw => uM w (subN w hw)) (fun w hw => uM w (gs w hw)) low
      have tl : ∀ H : Hd, H.length ≤ 10 → (totL (known rs) H).length ≤ 1000 := fun H h => by
        have fl2 : ∀ (qs : Hd) (L : RL), (qs.foldl (fun L p => insL L (hv (known rs) p.1) p.2) L).length ≤ L.length + qs.length := fun qs => by
          induction qs with
          | nil => intro L; exact Nat.le_refl _
          | cons q qs ih =>
            intro L
            have h1 := ih (insL L (hv (known rs) q.1) q.2)
            have h2 := ins_len L (hv (known rs) q.1) q.2
            rw [List.foldl_cons, List.length_cons]
            omega
        have := fl2 H []
        rw [List.length_nil] at this
        show (H.foldl _ []).length ≤ 1000
        omega
      have h21 : sem 100 21 [enc (numL (totL (known rs) (exH H k G))), enc (numL (totL (known rs) H))] = .ok (.bool true) := by
        have := less_step (S := sem 99) (totL (known rs) (exH H k G)) (totL (known rs) H) (tl _ lE) (tl _ (by omega))
        rw [fl] at this
        exact this
      have t0 : gIx (.tuple [.str "ranks", knD (known rs)]) (.int 0) = some (.str "ranks") := rfl
      have t1 : gIx (.tuple [.str "ranks", knD (known rs)]) (.int 1) = some (knD (known rs)) := rfl
      have te : gEq (.str "ranks") (.str "ranks") = some (.bool true) := by rw [gEq_w (by decide +kernel) (by decide +kernel)]; rfl
      refine ⟨exH H k G, some (.str k), some (knD G), some (.list [knD H, knD G]), some (knD (exH H k G)), some (enc (numL (totL (known rs) (exH H k G)))), x11, ⟨oE, subN, .inl ⟨rfl, inE⟩⟩, ?_⟩
      generalize hT : PyData.tuple [.str "ranks", knD (known rs)] = TT at *
      unfold knD at *
      generalize enc (numL (totL (known rs) (exH H k G))) = N1 at *
      generalize enc (numL (totL (known rs) H)) = N2 at *
      generalize kv PyData.int (known rs) = KK at *
      generalize kv PyData.int (exH H k G) = EE at *
      generalize kv PyData.int B = BB at *
      generalize kv PyData.int H = HH at *
      generalize kv PyData.int G = GG at *
      generalize rsD rs = RR at *
      generalize tx names = NL at *
      generalize names.length = nlen at *
      generalize sem 100 = S at *
      simp [gl, mn, ek, d10, h17', cH, cG, le2, i0, i1, h22, nt, h18, iE, h19', nB, insE, lc, l0, gl0, t0, t1, te, nE, mE, nn, mH, h21, cE]
    · -- a ring
      have t0 : gIx (.tuple [.str "ring", tx r]) (.int 0) = some (.str "ring") := rfl
      have te : gEq (.str "ring") (.str "ranks") = some (.bool false) := by rw [gEq_w (by decide +kernel) (by decide +kernel), decide_eq_false (by decide +kernel)]
      refine ⟨exH H k G, some (.str k), some (knD G), some (.list [knD H, knD G]), some (knD (exH H k G)), x10, x11, ⟨oE, subN, .inr ⟨r, rfl⟩⟩, ?_⟩
      generalize hT : PyData.tuple [.str "ring", tx r] = TT at *
      unfold knD at *
      generalize kv PyData.int (exH H k G) = EE at *
      generalize kv PyData.int B = BB at *
      generalize kv PyData.int H = HH at *
      generalize kv PyData.int G = GG at *
      generalize rsD rs = RR at *
      generalize tx names = NL at *
      generalize names.length = nlen at *
      generalize sem 100 = S at *
      simp [gl, mn, ek, d10, h17', cH, cG, le2, i0, i1, h22, nt, h18, iE, h19', nB, insE, lc, l0, gl0, t0, te, cE]
  · -- refused
    have hx := (exo 98 rs H k G C).2 a
    have h22 : sem 100 22 [rsD rs, knD H, .str k, knD G] = .ok .none := exchanged_no (S := sem 99) hx
    have h23 : sem 100 23 [rsD rs, knD H, .str k, knD G] = .ok (.bool true) := refused_so (S := sem 99) hx
    have h18 : sem 100 18 [rsD rs, knD H, .str k, knD G] = .ok (.bool false) := allowed_no (S := sem 99) C a
    have gn : gNotN .none .none = some (.bool false) := rfl
    refine ⟨H, some (.str k), some (knD G), some (.list [knD H, knD G]), some .none, x10, x11, s, ?_⟩
    unfold knD at *
    generalize kv PyData.int H = HH at *
    generalize kv PyData.int G = GG at *
    generalize rsD rs = RR at *
    generalize tx names = NL at *
    generalize names.length = nlen at *
    generalize sem 100 = S at *
    simp [gl, mn, ek, d10, h17', cH, cG, le2, i0, i1, h22, nt, h18, gn, h23]
abbrev T10 : List Str := ["hoe", "rake", "pail", "saw", "axe", "line", "ra", "sawbench", "b", "pa"]
theorem t10_ok : ∀ w ∈ T10, PyData.strOk w = true := by decide +kernel
theorem law_true : ∀ ns : List Int, ns.length ≤ 63 → (∀ z ∈ ns, z.natAbs.log2 ≤ 1048576) → sem 101 25 [.list (ns.map .int)] = .ok (.bool true) := by
  intro ns hn hb
  rw [sem_law]
  refine fnD_of ?_
  obtain ⟨c, hc⟩ := cel 99 ns 0
  obtain ⟨n, hn2⟩ := Int.eq_ofNat_of_zero_le (show 0 ≤ 2 + c % 9 by omega)
  obtain ⟨names, hnm⟩ : ∃ names, names = T10.take n := ⟨_, rfl⟩
  have nl : names.length = n := by
    rw [hnm, List.length_take, Nat.min_eq_left]
    show n ≤ 10
    omega
  have no : ∀ w ∈ names, PyData.strOk w = true := fun w hw => t10_ok w (List.mem_of_mem_take (hnm ▸ hw))
  obtain ⟨rs, h14, P⟩ := rules_step (S := sem 99) (ns := ns) (names := names) (cel 98) (by omega) (by omega)
  have R := P.ok (by omega) no
  obtain ⟨H0, h15, o0, s0⟩ := heap_step (S := sem 99) (cel 98) (amt 98) ns (names := names) (by omega)
  have l0 : H0.length ≤ 10 := by
    have := sub_len o0.nd s0
    rw [List.length_map] at this
    omega
  have m9 : cMod c 9 = true := cMod_of (by decide)
  have hc' : sem 100 11 [.list (ns.map .int), .int 0] = .ok (.int c) := hc
  have h14' : sem 100 14 [.list (ns.map .int), tx names] = .ok (rsD rs) := h14
  have h15' : sem 100 15 [.list (ns.map .int), tx names] = .ok (knD H0) := h15
  have le10 : 10 ≤ sizeLine := sz1000 (by decide)
  have cf : cutD (T10.map PyData.str) none (some (n : Int)) = names.map .str := by rw [cut_front, hnm, List.map_take]
  have sl : gSl (tx T10) none (some (n : Int)) = some (tx names) := by
    show some (PyData.list (cutD (T10.map PyData.str) none (some (n : Int)))) = _
    rw [cf]; rfl
  have f1 : sSet [] 1 (eLst (aCons (eC (.str "hoe")) (aCons (eC (.str "rake")) (aCons (eC (.str "pail")) (aCons (eC (.str "saw")) (aCons (eC (.str "axe")) (aCons (eC (.str "line")) (aCons (eC (.str "ra")) (aCons (eC (.str "sawbench")) (aCons (eC (.str "b")) (aCons (eC (.str "pa")) aNil))))))))))) [some (.list (ns.map .int)), none, none, none, none, none, none, none, none, none, none, none] = .nx [some (.list (ns.map .int)), some (tx T10), none, none, none, none, none, none, none, none, none, none] := by
    generalize ns.map PyData.int = IL at *
    simp [le10, tx]
  have f2 : sSet [] 1 (eSl (eVar 1) oNone (oSome (eOp gAdd (eC (.int 2)) (eOp gMod (eFn (sem 100 11) (aCons (eVar 0) (aCons (eC (.int 0)) aNil))) (eC (.int 9)))))) [some (.list (ns.map .int)), some (tx T10), none, none, none, none, none, none, none, none, none, none] = .nx [some (.list (ns.map .int)), some (tx names), none, none, none, none, none, none, none, none, none, none] := by
    rw [← hn2] at sl
    generalize ns.map PyData.int = IL at *
    generalize tx T10 = TL at *
    generalize tx names = NL at *
    generalize sem 100 11 = F at *
    simp [hc', m9, sl]
  have f3 : sSet [] 2 (eFn (sem 100 14) (aCons (eVar 0) (aCons (eVar 1) aNil))) [some (.list (ns.map .int)), some (tx names), none, none, none, none, none, none, none, none, none, none] = .nx [some (.list (ns.map .int)), some (tx names), some (rsD rs), none, none, none, none, none, none, none, none, none] := by
    generalize ns.map PyData.int = IL at *
    generalize tx names = NL at *
    generalize rsD rs = RR at *
    generalize sem 100 14 = F at *
    simp [h14']
  have f4 : sSet [] 3 (eFn (sem 100 15) (aCons (eVar 0) (aCons (eVar 1) aNil))) [some (.list (ns.map .int)), some (tx names), some (rsD rs), none, none, none, none, none, none, none, none, none] = .nx [some (.list (ns.map .int)), some (tx names), some (rsD rs), some (knD H0), none, none, none, none, none, none, none, none] := by
    generalize ns.map PyData.int = IL at *
    generalize tx names = NL at *
    generalize rsD rs = RR at *
    generalize knD H0 = HH at *
    generalize sem 100 15 = F at *
    simp [h15']
  -- what is told
  obtain ⟨told, H1, h8, hall, st, e6, e7⟩ : ∃ (told : PyData) (H1 : Hd), sem 100 8 [rsD rs] = .ok told ∧ (told = .tuple [.str "ranks", knD (known rs)] → ∀ k ∈ kinds rs, gt (known rs) k ≠ none) ∧ St names rs told H1 ∧
      sIf (tOf (eOp gEq (eOp gIx (eVar 4) (eC (.int 0))) (eC (.str "ranks")))) (sSet [] 3 (eFn (sem 100 16) (aCons (eVar 3) (aCons (eOp gIx (eVar 4) (eC (.int 1))) aNil)))) sNil [some (.list (ns.map .int)), some (tx names), some (rsD rs), some (knD H0), some told, none, none, none, none, none, none, none] = .nx [some (.list (ns.map .int)), some (tx names), some (rsD rs), some (knD H1), some told, none, none, none, none, none, none, none] ∧
      sIf (tAndR (tOf (eOp gEq (eOp gIx (eVar 4) (eC (.int 0))) (eC (.str "ring")))) (tNotR (tTru (eFn (sem 100 24) (aCons (eVar 2) (aCons (eOp gIx (eVar 4) (eC (.int 1))) (aCons (eOp gAdd (eC (.int 1)) (eOp gMod (eOp gDiv (eFn (sem 100 11) (aCons (eVar 0) (aCons (eC (.int 11)) aNil))) (eC (.int 18))) (eOp gPow (eC (.int 10)) (eC (.int 50))))) aNil))))))) (sRet (eC (.bool false))) sNil [some (.list (ns.map .int)), some (tx names), some (rsD rs), some (knD H1), some told, none, none, none, none, none, none, none] = .nx [some (.list (ns.map .int)), some (tx names), some (rsD rs), some (knD H1), some told, none, none, none, none, none, none, none] := by
    have eq1 : gEq (.str "ranks") (.str "ranks") = some (.bool true) := by rw [gEq_w (by decide +kernel) (by decide +kernel)]; rfl
    have eq2 : gEq (.str "ring") (.str "ranks") = some (.bool false) := by rw [gEq_w (by decide +kernel) (by decide +kernel), decide_eq_false (by decide +kernel)]
    have eq3 : gEq (.str "ring") (.str "ring") = some (.bool true) := by rw [gEq_w (by decide +kernel) (by decide +kernel)]; rfl
    have eq4 : gEq (.str "ranks") (.str "ring") = some (.bool false) := by rw [gEq_w (by decide +kernel) (by decide +kernel), decide_eq_false (by decide +kernel)]
    rcases rks 98 rs R with ⟨h8, hall⟩ | ⟨r, h8, ro⟩
    · obtain ⟨H1, h16, o1, s1⟩ := ranked_step (S := sem 99) (K := known rs) o0 (by omega)
      have h16' : sem 100 16 [knD H0, knD (known rs)] = .ok (knD H1) := h16
      have t0 : gIx (.tuple [.str "ranks", knD (known rs)]) (.int 0) = some (.str "ranks") := rfl
      have t1 : gIx (.tuple [.str "ranks", knD (known rs)]) (.int 1) = some (knD (known rs)) := rfl
      refine ⟨_, H1, h8, fun _ => hall, ⟨o1, fun w hw => s0 w (s1 w hw).1, .inl ⟨rfl, fun w hw => (s1 w hw).2⟩⟩, ?_, ?_⟩
      · generalize PyData.tuple [.str "ranks", knD (known rs)] = TT at *
        generalize ns.map PyData.int = IL at *
        generalize tx names = NL at *
        generalize rsD rs = RR at *
        generalize knD (known rs) = KK at *
        generalize knD H0 = HH at *
        generalize knD H1 = HI at *
        generalize sem 100 16 = F at *
        simp [t0, t1, eq1, h16']
      · generalize PyData.tuple [.str "ranks", knD (known rs)] = TT at *
        generalize ns.map PyData.int = IL at *
        generalize tx names = NL at *
        generalize rsD rs = RR at *
        generalize knD H1 = HI at *
        generalize sem 100 24 = F at *
        generalize sem 100 11 = F2 at *
        simp [t0, eq4]
    · obtain ⟨d, hd⟩ := cel 99 ns 11
      have hd' : sem 100 11 [.list (ns.map .int), .int 11] = .ok (.int d) := hd
      have e5 : 0 < E50 := by unfold E50; decide +kernel
      have mE : ∀ i : Int, cMod i E50 = true := fun i => cMod_of e5
      have d18 : cDiv d 18 = true := cDiv_of 5 (by decide) (by decide) (by decide) (by decide)
      have m1 : 1 ≤ 1 + d / 18 % E50 := by have := Int.emod_nonneg (d / 18) (show E50 ≠ 0 by omega); omega
      have h24 : sem 100 24 [rsD rs, tx r, .int (1 + d / 18 % E50)] = .ok (.bool true) := round_step (S := sem 99) R (exo 98) ro m1
      have t0 : gIx (.tuple [.str "ring", tx r]) (.int 0) = some (.str "ring") := rfl
      have t1 : gIx (.tuple [.str "ring", tx r]) (.int 1) = some (tx r) := rfl
      have hne : PyData.tuple [.str "ring", tx r] = .tuple [.str "ranks", knD (known rs)] → False := fun z => by
        injection z with z
        injection z with z1 z2
        injection z1 with z1
        revert z1
        decide +kernel
      refine ⟨_, H0, h8, fun z => (hne z).elim, ⟨o0, s0, .inr ⟨r, rfl⟩⟩, ?_, ?_⟩
      · generalize PyData.tuple [.str "ring", tx r] = TT at *
        generalize ns.map PyData.int = IL at *
        generalize tx names = NL at *
        generalize rsD rs = RR at *
        generalize knD H0 = HH at *
        generalize sem 100 16 = F at *
        simp [t0, eq2]
      · generalize PyData.tuple [.str "ring", tx r] = TT at *
        generalize ns.map PyData.int = IL at *
        generalize tx names = NL at *
        generalize tx r = TR at *
        generalize rsD rs = RR at *
        generalize knD H0 = HH at *
        generalize sem 100 24 = F at *
        generalize sem 100 11 = F2 at *
        simp [t0, t1, eq3, hd', d18, mE, h24]
  have f5 : sSet [] 4 (eFn (sem 100 8) (aCons (eVar 2) aNil)) [some (.list (ns.map .int)), some (tx names), some (rsD rs), some (knD H0), none, none, none, none, none, none, none, none] = .nx [some (.list (ns.map .int)), some (tx names), some (rsD rs), some (knD H0), some told, none, none, none, none, none, none, none] := by
    generalize ns.map PyData.int = IL at *
    generalize tx names = NL at *
    generalize rsD rs = RR at *
    generalize knD H0 = HH at *
    generalize sem 100 8 = F at *
    simp [h8]
  obtain ⟨cs, ecs, _, hcs⟩ := cut_ints ns 22 62
  obtain ⟨ρ', e8, H2, y5, y6, y7, y8, y9, y10, y11, rfl, _⟩ := forL_inv (gt := gtName 5) (g := gb_law_1 (sem 100)) (fun _ ρ => ∃ (H : Hd) (y5 y6 y7 y8 y9 y10 y11 : Option PyData), ρ = [some (.list (ns.map .int)), some (tx names), some (rsD rs), some (knD H), some told, y5, y6, y7, y8, y9, y10, y11] ∧ St names rs told H)
    (cs.map .int) 0 [some (.list (ns.map .int)), some (tx names), some (rsD rs), some (knD H1), some told, none, none, none, none, none, none, none] ⟨H1, _, _, _, _, _, _, _, rfl, st⟩ fun j d ρ hd hi => by
      obtain ⟨H, y5, y6, y7, y8, y9, y10, y11, rfl, st⟩ := hi
      rw [List.getElem?_map] at hd
      obtain ⟨v, hv', rfl⟩ := Option.map_eq_some_iff.mp hd
      obtain ⟨H', z6, z7, z8, z9, z10, z11, st', h⟩ := turn (by omega) (by omega) no P hall st (c := v) (hb v (hcs v (List.mem_of_getElem? hv'))) (some (.list (ns.map .int))) y6 y7 y8 y9 y10 y11
      exact ⟨_, _, rfl, Or.inl h, H', some (.int v), z6, z7, z8, z9, z10, z11, rfl, st'⟩
  have f8 : sFor [] (iSeq (eSl (eVar 0) (oSome (eC (.int 22))) (oSome (eC (.int 62))))) (gtName 5) (gb_law_1 (sem 100)) [some (.list (ns.map .int)), some (tx names), some (rsD rs), some (knD H1), some told, none, none, none, none, none, none, none] = .nx [some (.list (ns.map .int)), some (tx names), some (rsD rs), some (knD H2), some told, y5, y6, y7, y8, y9, y10, y11] := by
    rw [← e8, ← ecs]
    simp only [u_sFor, mask_nil, u_iSeq, u_eSl, u_eVar, u_oSome, u_eC, List.getD_cons_zero]
    rfl
  unfold g_law
  show sSeq _ (sSeq _ (sSeq _ (sSeq _ (sSeq _ (sSeq _ (sSeq _ (sSeq _ _))))))) [some (.list (ns.map .int)), none, none, none, none, none, none, none, none, none, none, none] = _
  rw [u_sSeq, f1, Out.then_nx, u_sSeq, f2, Out.then_nx, u_sSeq, f3, Out.then_nx, u_sSeq, f4, Out.then_nx, u_sSeq, f5, Out.then_nx, u_sSeq, e6, Out.then_nx, u_sSeq, e7, Out.then_nx, u_sSeq, f8, Out.then_nx]
  rfl
end Lk68
open PySem PySem.W PyProof.Rows
set_option maxRecDepth 100000 in
set_option maxHeartbeats 0 in
theorem PySem.Challenge.cw_hydrahouse_k68_exchanges_fall_holds : PySem.Challenge.rw_hydrahouse_k68_exchanges_fall.Holds := by
  w_on; o_law; k_head; (case hw => w_witness2)
  k_fill
  refine Pu.walkLB (l := PySem.Challenge.rw_hydrahouse_k68_exchanges_fall) (k := 101) (x := "_law_script") rfl rfl ⟨rfl, by decide, by decide⟩ (fun w h Y => PySem.W.kIn_of Y) ?F
  case F =>
    intro w mg fa h KX G hmg
    refine' Lk68.all_mk KX G hmg ?a0 ?l0 ?c0 ?k0 ?a1 ?l1 ?c1 ?k1 ?a2 ?l2 ?c2 ?k2 ?a3 ?l3 ?c3 ?k3 ?a4 ?l4 ?c4 ?k4 ?a5 ?l5 ?c5 ?k5 ?a6 ?l6 ?c6 ?k6 ?a7 ?l7 ?c7 ?k7 ?a8 ?l8 ?c8 ?k8 ?a9 ?l9 ?c9 ?k9 ?a10 ?l10 ?c10 ?k10 ?a11 ?l11 ?c11 ?k11 ?a12 ?l12 ?c12 ?k12 ?a13 ?l13 ?c13 ?k13 ?a14 ?l14 ?c14 ?k14 ?a15 ?l15 ?c15 ?k15 ?a16 ?l16 ?c16 ?k16 ?a17 ?l17 ?c17 ?k17 ?a18 ?l18 ?c18 ?k18 ?a19 ?l19 ?c19 ?k19 ?a20 ?l20 ?c20 ?k20 ?a21 ?l21 ?c21 ?k21 ?a22 ?l22 ?c22 ?k22 ?a23 ?l23 ?c23 ?k23 ?a24 ?l24 ?c24 ?k24 ?a25 ?l25 ?c25 ?k25 ?z_ValueError ?z_bool ?z_dict ?z_int ?z_isinstance ?z_len ?z_list ?z_max ?z_min ?z_range ?z_sorted ?z_tuple ?z_zip ?lT3 ?ac_HydraError ?sc_HydraError ?tc_HydraError ?hc_HydraError ?ac_NoChore ?xc_NoChore ?kc_NoChore ?sc_NoChore ?tc_NoChore ?hc_NoChore ?ac_NoFall ?sc_NoFall ?tc_NoFall ?hc_NoFall ?ac_NoFit ?sc_NoFit ?tc_NoFit ?hc_NoFit ?ac_NoHead ?sc_NoHead ?tc_NoHead ?hc_NoHead ?ac_NoLimit ?sc_NoLimit ?tc_NoLimit ?hc_NoLimit ?ac_NoName ?sc_NoName ?tc_NoName ?hc_NoName ?ac_NoNumber ?xc_NoNumber ?kc_NoNumber ?sc_NoNumber ?tc_NoNumber ?hc_NoNumber ?ac_NoRow ?sc_NoRow ?tc_NoRow ?hc_NoRow ?ac_NoStep ?sc_NoStep ?tc_NoStep ?hc_NoStep ?ac_NoText ?sc_NoText ?tc_NoText ?hc_NoText ?ac_Nought ?sc_Nought ?tc_Nought ?hc_Nought ?ac_TooGreat ?sc_TooGreat ?tc_TooGreat ?hc_TooGreat ?ac_TooHigh ?sc_TooHigh ?tc_TooHigh ?hc_TooHigh ?ga_NoChore ?gg_NoChore ?gc_NoChore ?mo_NoChore ?sv_NoChore ?su_NoChore_HydraError ?su_NoChore_NoChore ?su_NoChore_NoFall ?su_NoChore_NoFit ?su_NoChore_NoHead ?su_NoChore_NoLimit ?su_NoChore_NoName ?su_NoChore_NoNumber ?su_NoChore_NoRow ?su_NoChore_NoStep ?su_NoChore_NoText ?su_NoChore_Nought ?su_NoChore_TooGreat ?su_NoChore_TooHigh ?su_NoFall_NoFall ?su_NoFit_NoFit ?su_NoHead_NoHead ?su_NoLimit_NoLimit ?su_NoName_NoName ?su_NoNumber_NoNumber ?su_NoRow_NoRow ?su_NoStep_NoStep ?su_NoText_NoText ?su_Nought_Nought ?su_TooGreat_TooGreat ?su_TooHigh_TooHigh ?zget ?ztak Lk68.law_true
    (case a0 => k_is)
    (case l0 => k_is)
    (case c0 => k_is)
    (case k0 => k_is)
    (case a1 => k_is)
    (case l1 => k_is)
    (case c1 => k_is)
    (case k1 => k_is)
    (case a2 => k_is)
    (case l2 => k_is)
    (case c2 => k_is)
    (case k2 => k_is)
    (case a3 => k_is)
    (case l3 => k_is)
    (case c3 => k_is)
    (case k3 => k_is)
    (case a4 => k_is)
    (case l4 => k_is)
    (case c4 => k_is)
    (case k4 => k_is)
    (case a5 => k_is)
    (case l5 => k_is)
    (case c5 => k_is)
    (case k5 => k_is)
    (case a6 => k_is)
    (case l6 => k_is)
    (case c6 => k_is)
    (case k6 => k_is)
    (case a7 => k_is)
    (case l7 => k_is)
    (case c7 => k_is)
    (case k7 => k_is)
    (case a8 => k_is)
    (case l8 => k_is)
    (case c8 => k_is)
    (case k8 => k_is)
    (case a9 => k_is)
    (case l9 => k_is)
    (case c9 => k_is)
    (case k9 => k_is)
    (case a10 => k_is)
    (case l10 => k_is)
    (case c10 => k_is)
    (case k10 => k_is)
    (case a11 => k_is)
    (case l11 => k_is)
    (case c11 => k_is)
    (case k11 => k_is)
    (case a12 => k_is)
    (case l12 => k_is)
    (case c12 => k_is)
    (case k12 => k_is)
    (case a13 => k_is)
    (case l13 => k_is)
    (case c13 => k_is)
    (case k13 => k_is)
    (case a14 => k_is)
    (case l14 => k_is)
    (case c14 => k_is)
    (case k14 => k_is)
    (case a15 => k_is)
    (case l15 => k_is)
    (case c15 => k_is)
    (case k15 => k_is)
    (case a16 => k_is)
    (case l16 => k_is)
    (case c16 => k_is)
    (case k16 => k_is)
    (case a17 => k_is)
    (case l17 => k_is)
    (case c17 => k_is)
    (case k17 => k_is)
    (case a18 => k_is)
    (case l18 => k_is)
    (case c18 => k_is)
    (case k18 => k_is)
    (case a19 => k_is)
    (case l19 => k_is)
    (case c19 => k_is)
    (case k19 => k_is)
    (case a20 => k_is)
    (case l20 => k_is)
    (case c20 => k_is)
    (case k20 => k_is)
    (case a21 => k_is)
    (case l21 => k_is)
    (case c21 => k_is)
    (case k21 => k_is)
    (case a22 => k_is)
    (case l22 => k_is)
    (case c22 => k_is)
    (case k22 => k_is)
    (case a23 => k_is)
    (case l23 => k_is)
    (case c23 => k_is)
    (case k23 => k_is)
    (case a24 => k_is)
    (case l24 => k_is)
    (case c24 => k_is)
    (case k24 => k_is)
    (case a25 => k_is)
    (case l25 => k_is)
    (case c25 => k_is)
    (case k25 => k_is)
    (case z_ValueError => k_is)
    (case z_bool => k_is)
    (case z_dict => k_is)
    (case z_int => k_is)
    (case z_isinstance => k_is)
    (case z_len => k_is)
    (case z_list => k_is)
    (case z_max => k_is)
    (case z_min => k_is)
    (case z_range => k_is)
    (case z_sorted => k_is)
    (case z_tuple => k_is)
    (case z_zip => k_is)
    (case lT3 => k_is)
    (case ac_HydraError => k_is)
    (case sc_HydraError => k_is)
    (case tc_HydraError => k_is)
    (case hc_HydraError => k_is)
    (case ac_NoChore => k_is)
    (case xc_NoChore => k_exc)
    (case kc_NoChore => k_is)
    (case sc_NoChore => k_is)
    (case tc_NoChore => k_is)
    (case hc_NoChore => k_is)
    (case ac_NoFall => k_is)
    (case sc_NoFall => k_is)
    (case tc_NoFall => k_is)
    (case hc_NoFall => k_is)
    (case ac_NoFit => k_is)
    (case sc_NoFit => k_is)
    (case tc_NoFit => k_is)
    (case hc_NoFit => k_is)
    (case ac_NoHead => k_is)
    (case sc_NoHead => k_is)
    (case tc_NoHead => k_is)
    (case hc_NoHead => k_is)
    (case ac_NoLimit => k_is)
    (case sc_NoLimit => k_is)
    (case tc_NoLimit => k_is)
    (case hc_NoLimit => k_is)
    (case ac_NoName => k_is)
    (case sc_NoName => k_is)
    (case tc_NoName => k_is)
    (case hc_NoName => k_is)
    (case ac_NoNumber => k_is)
    (case xc_NoNumber => k_exc)
    (case kc_NoNumber => k_is)
    (case sc_NoNumber => k_is)
    (case tc_NoNumber => k_is)
    (case hc_NoNumber => k_is)
    (case ac_NoRow => k_is)
    (case sc_NoRow => k_is)
    (case tc_NoRow => k_is)
    (case hc_NoRow => k_is)
    (case ac_NoStep => k_is)
    (case sc_NoStep => k_is)
    (case tc_NoStep => k_is)
    (case hc_NoStep => k_is)
    (case ac_NoText => k_is)
    (case sc_NoText => k_is)
    (case tc_NoText => k_is)
    (case hc_NoText => k_is)
    (case ac_Nought => k_is)
    (case sc_Nought => k_is)
    (case tc_Nought => k_is)
    (case hc_Nought => k_is)
    (case ac_TooGreat => k_is)
    (case sc_TooGreat => k_is)
    (case tc_TooGreat => k_is)
    (case hc_TooGreat => k_is)
    (case ac_TooHigh => k_is)
    (case sc_TooHigh => k_is)
    (case tc_TooHigh => k_is)
    (case hc_TooHigh => k_is)
    (case ga_NoChore => k_is)
    (case gg_NoChore => k_is)
    (case gc_NoChore => k_is)
    (case mo_NoChore => k_is)
    (case sv_NoChore => k_is)
    (case su_NoChore_HydraError => k_is)
    (case su_NoChore_NoChore => k_is)
    (case su_NoChore_NoFall => k_is)
    (case su_NoChore_NoFit => k_is)
    (case su_NoChore_NoHead => k_is)
    (case su_NoChore_NoLimit => k_is)
    (case su_NoChore_NoName => k_is)
    (case su_NoChore_NoNumber => k_is)
    (case su_NoChore_NoRow => k_is)
    (case su_NoChore_NoStep => k_is)
    (case su_NoChore_NoText => k_is)
    (case su_NoChore_Nought => k_is)
    (case su_NoChore_TooGreat => k_is)
    (case su_NoChore_TooHigh => k_is)
    (case su_NoFall_NoFall => k_is)
    (case su_NoFit_NoFit => k_is)
    (case su_NoHead_NoHead => k_is)
    (case su_NoLimit_NoLimit => k_is)
    (case su_NoName_NoName => k_is)
    (case su_NoNumber_NoNumber => k_is)
    (case su_NoRow_NoRow => k_is)
    (case su_NoStep_NoStep => k_is)
    (case su_NoText_NoText => k_is)
    (case su_Nought_Nought => k_is)
    (case su_TooGreat_TooGreat => k_is)
    (case su_TooHigh_TooHigh => k_is)
    (case zget => k_is)
    (case ztak => k_is)
