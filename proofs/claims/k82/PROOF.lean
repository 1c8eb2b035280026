import PyProof.Rows.All
import Wide.All
import OpenK.AllK
import Wide.FinOn
import HandS.ForMost
import HandS.ForExc
import HandS.Zip
import HandS.Wide
import HandS.IsInst
import HandS.TupMul
import HandS.TupAny
import HandS.ExcIs
import HandS.Defaults
import HandS.Nested
import HandS.EndOwn
import KE.DataMinMax
import HandS.SortKw
import HandS.CallSlots
import HandS.Iter
import PyProof.Rows.ChunkLeaf
import HandS.TryOnly
import HandS.TryMany
import HandS.Rev
import HandS.EndBits
import HandS.More
import HandS.TupLe
import KE.GoesMore
import HandS.DictEq
import HandS.DictComp
import HandS.ClsMeth
import HandS.DeepEq
import HandS.HotCalls
import HandS.Deep
import HandS.Conv
import HandS.Style
import HandS.Text
import HandS.FStr
import HandS.Strs
import HandS.Finally
import PySem.Challenge.RW_hydrahouse_k82_whole_play
set_option Elab.async false
set_option linter.all false
set_option maxRecDepth 100000
set_option maxHeartbeats 4000000
namespace Pu
open PySem PySem.Spec PyProof.Rows L2
inductive R (α : Type) where
  | ok (a : α) | err (c : Str) | bad
def R.bind {α β : Type} (x : R α) (f : α → R β) : R β := match x with
  | .ok a => f a
  | .err c => .err c
  | .bad => .bad
@[simp] theorem R.bind_ok {α β : Type} (a : α) (f : α → R β) : R.bind (.ok a) f = f a := rfl
@[simp] theorem R.bind_err {α β : Type} (c : Str) (f : α → R β) : R.bind (.err c) f = .err c := rfl
@[simp] theorem R.bind_bad {α β : Type} (f : α → R β) : R.bind .bad f = .bad := rfl
def R.of {α : Type} : Option α → R α
  | some a => .ok a
  | none => .bad
@[simp] theorem R.of_some {α : Type} (a : α) : R.of (some a) = .ok a := rfl
@[simp] theorem R.of_none {α : Type} : R.of (none : Option α) = .bad := rfl
abbrev Vars := List (Option PyData)
def hide (O : List Addr) (H : Hp) : Hp := fun a => if a ∈ O then none else H a
theorem hide_nil (H : Hp) : hide [] H = H := by
  funext a
  unfold hide
  rw [if_neg (by simp)]
theorem hide_some {O : List Addr} {H : Hp} {a : Addr} {o : HO} (h : hide O H a = some o) : a ∉ O ∧ H a = some o := by
  unfold hide at h
  by_cases c : a ∈ O
  · rw [if_pos c] at h; cases h
  · rw [if_neg c] at h; exact ⟨c, h⟩
theorem hide_of {O : List Addr} {H : Hp} {a : Addr} {o : HO} (c : a ∉ O) (h : H a = some o) : hide O H a = some o := by
  unfold hide
  rw [if_neg c]; exact h
theorem hide_same {O : List Addr} {H H' : Hp} (s : Same H H') : Same (hide O H) (hide O H') := fun a o h => by
  obtain ⟨c, e⟩ := hide_some h
  exact hide_of c (s a o e)
theorem hide_sub {O : List Addr} {H : Hp} : Same (hide O H) H := fun a o h => (hide_some h).2
theorem hide_less {O O' : List Addr} {H : Hp} (s : ∀ a ∈ O', a ∈ O) : Same (hide O H) (hide O' H) := fun a o h => by
  obtain ⟨c, e⟩ := hide_some h
  exact hide_of (fun z => c (s a z)) e
theorem same_new {H : Hp} {p : Addr} {o : HO} (h : H p = none) : Same H (upd H p o) := fun b u e => by
  rw [upd_ne (ne_of_none e h)]; exact e
def Stands (O : List Addr) (H : Hp) : Prop := ∀ a ∈ O, ∃ o, H a = some o ∧ ∀ xs, o ≠ .tup xs
theorem Stands.nn {O : List Addr} {H : Hp} (h : Stands O H) {a : Addr} (ha : a ∈ O) : H a ≠ none := fun z => by
  obtain ⟨o, e, _⟩ := h a ha
  rw [z] at e; cases e
theorem Stands.tup {O : List Addr} {H : Hp} (h : Stands O H) {a : Addr} {xs : List V} (e : H a = some (.tup xs)) : a ∉ O := fun z => by
  obtain ⟨o, e1, n⟩ := h a z
  rw [e] at e1; cases e1
  exact n _ rfl
theorem Stands.same {O : List Addr} {H H' : Hp} (h : Stands O H) (s : Same H H') : Stands O H' := fun a ha => by
  obtain ⟨o, e, n⟩ := h a ha
  exact ⟨o, s a o e, n⟩
theorem Stands.new {O : List Addr} {H : Hp} {p : Addr} (h : Stands O H) (n : H p = none) : p ∉ O := fun z => h.nn z n
theorem seqL {K : PySem.W.Frag} {H H' : Hp} {a : Addr} {xs : List V} (e : Same H H') (h : SqL K H a xs) : SqL K H' a xs := e.seq h
theorem seqT {K : PySem.W.Frag} {H H' : Hp} {a : Addr} {xs : List V} (e : Same H H') (h : SqT K H a xs) : SqT K H' a xs := by
  rcases h with (h | ⟨o, h⟩) | h
  · exact .inl (.inl (e _ _ h))
  · exact .inl (.inr ⟨o, e _ _ h⟩)
  · exact .inr h
def kD : Key → PyData
  | .inl i => .int i
  | .inr x => .str x
theorem rd_mono {H H' : Hp} {a : Addr} {u : HO} (s : Same H H') (h : Rd H a u) : Rd H' a u := by
  rcases h with h | ⟨o, h⟩
  · exact .inl (s _ _ h)
  · exact .inr ⟨o, s _ _ h⟩
structure ClN (K : PySem.W.Frag) (c : Str) (C : Addr) : Prop where
  at_ : PySem.W.nsIn K mainGlobals c = some (some (.ref C))
  cl : L2.Cls K C
  ha : PySem.W.findIn K (.ref C) "__class__" = some (some (.builtin "object.__class__"))
  hn : PySem.W.specialIn K (.builtin "object.__class__") "__get__" = some (some (.builtin "getset_descriptor.__get__"))
  htk : PySem.W.takesIn K (.builtin "object.__class__") = some true
  hm : PySem.W.mroIn K C (.type "object") = some true
  no : ∀ T ∈ (["int", "bool", "str", "list", "tuple", "dict"] : List String), PySem.W.kitOne K (.ref C) (.type T) = some false
theorem ClN.one {K : PySem.W.Frag} {c : Str} {C D : Addr} (h : ClN K c C) (g : ClN K c D) : C = D := by
  have := h.at_
  rw [g.at_] at this; cases this; rfl
def fK (fs : List (Str × V)) : List (Key × V) := fs.map fun p => (Sum.inr p.1, p.2)
mutual
inductive Rp (K : PySem.W.Frag) (H : Hp) : V → PyData → Prop
  | non : Rp K H .non .none
  | bl (b : Bool) : Rp K H (.bl b) (.bool b)
  | int (i : Int) : Rp K H (.int i) (.int i)
  | str (x : Str) : Rp K H (.str x) (.str x)
  | lst {a : Addr} {xs : List V} {ds : List PyData} : SqL K H a xs → Rps K H xs ds → Rp K H (.ref a) (.list ds)
  | tup {a : Addr} {xs : List V} {ds : List PyData} : SqT K H a xs → Rps K H xs ds → Rp K H (.ref a) (.tuple ds)
  | dic {a : Addr} {kvs : List (Key × V)} {ds : List (PyData × PyData)} : Rd H a (.dK kvs) → Rpd K H kvs ds → Rp K H (.ref a) (.dict ds)
  | ins {a C dx : Addr} {fs : List (Str × V)} {c : Str} {ds : List (PyData × PyData)} : H a = some (.ins C dx fs) → H dx = some (.own a) → ClN K c C → Rpd K H (fK fs) ds → Rp K H (.ref a) (.dict [(.none, .tuple [.str c, .dict ds])])
  | fn {f b c : Addr} {q : Str} {d : PyData} : H c = some (LamX.CodeO c q) → Rp K H (.ref b) d → Rp K H (.ref f) (.dict [(.none, .list [.int (f : Nat), .int (b : Nat), .int (c : Nat), .str q, d])])
  | fn0 {f c : Addr} {q : Str} : H c = some (LamX.CodeO c q) → Rp K H (.ref f) (.dict [(.none, .list [.int (f : Nat), .int (c : Nat), .str q])])
  | dct {a : Addr} {kvs : List (List Key × V)} {ds : List (PyData × PyData)} : Rd H a (.dT kvs) → RpT K H kvs ds → Rp K H (.ref a) (.dict [(.none, .dict ds)])
  | tpx {a : Addr} {xs : List V} {ds : List PyData} : H a = some (.tup xs) → Rps K H xs ds → Rp K H (.ref a) (.dict [(.none, .bool true), (.none, .tuple ds)])
inductive Rps (K : PySem.W.Frag) (H : Hp) : List V → List PyData → Prop
  | nil : Rps K H [] []
  | cons {v : V} {vs : List V} {d : PyData} {ds : List PyData} : Rp K H v d → Rps K H vs ds → Rps K H (v :: vs) (d :: ds)
inductive Rpd (K : PySem.W.Frag) (H : Hp) : List (Key × V) → List (PyData × PyData) → Prop
  | nil : Rpd K H [] []
  | cons {k : Key} {v : V} {vs : List (Key × V)} {d : PyData} {ds : List (PyData × PyData)} : Rp K H v d → Rpd K H vs ds → Rpd K H ((k, v) :: vs) ((kD k, d) :: ds)
inductive RpT (K : PySem.W.Frag) (H : Hp) : List (List Key × V) → List (PyData × PyData) → Prop
  | nil : RpT K H [] []
  | cons {k : List Key} {v : V} {vs : List (List Key × V)} {d : PyData} {ds : List (PyData × PyData)} : Rp K H v d → RpT K H vs ds → RpT K H ((k, v) :: vs) ((.tuple (k.map kD), d) :: ds)
end
section
variable {K : PySem.W.Frag} {H H' : Hp}
mutual
theorem Rp.mono (s : Same H H') : ∀ {v : V} {d : PyData}, Rp K H v d → Rp K H' v d
  | _, _, .non => .non
  | _, _, .bl b => .bl b
  | _, _, .int i => .int i
  | _, _, .str x => .str x
  | _, _, .lst h r => .lst (seqL s h) (Rps.mono s r)
  | _, _, .tup h r => .tup (seqT s h) (Rps.mono s r)
  | _, _, .dic h r => .dic (rd_mono s h) (Rpd.mono s r)
  | _, _, .ins h o c r => .ins (s _ _ h) (s _ _ o) c (Rpd.mono s r)
  | _, _, .fn h r => .fn (s _ _ h) (Rp.mono s r)
  | _, _, .fn0 h => .fn0 (s _ _ h)
  | _, _, .dct h r => .dct (rd_mono s h) (RpT.mono s r)
  | _, _, .tpx h r => .tpx (s _ _ h) (Rps.mono s r)
theorem Rps.mono (s : Same H H') : ∀ {vs : List V} {ds : List PyData}, Rps K H vs ds → Rps K H' vs ds
  | _, _, .nil => .nil
  | _, _, .cons h r => .cons (Rp.mono s h) (Rps.mono s r)
theorem Rpd.mono (s : Same H H') : ∀ {vs : List (Key × V)} {ds : List (PyData × PyData)}, Rpd K H vs ds → Rpd K H' vs ds
  | _, _, .nil => .nil
  | _, _, .cons h r => .cons (Rp.mono s h) (Rpd.mono s r)
theorem RpT.mono (s : Same H H') : ∀ {vs : List (List Key × V)} {ds : List (PyData × PyData)}, RpT K H vs ds → RpT K H' vs ds
  | _, _, .nil => .nil
  | _, _, .cons h r => .cons (Rp.mono s h) (RpT.mono s r)
end
theorem Rps.length : ∀ {vs : List V} {ds : List PyData}, Rps K H vs ds → vs.length = ds.length
  | _, _, .nil => rfl
  | _, _, .cons _ r => congrArg Nat.succ (Rps.length r)
theorem Rps.get : ∀ {vs : List V} {ds : List PyData} {i : Nat} {d : PyData}, Rps K H vs ds → ds[i]? = some d → ∃ v, vs[i]? = some v ∧ Rp K H v d
  | _, _, _, _, .nil, e => by simp at e
  | _, _, 0, _, .cons h _, e => by simp at e; subst e; exact ⟨_, rfl, h⟩
  | _, _, i + 1, _, .cons _ r, e => by
    obtain ⟨v, h1, h2⟩ := Rps.get (i := i) r (by simpa using e)
    exact ⟨v, by simpa using h1, h2⟩
theorem Rps.append : ∀ {vs ws : List V} {ds es : List PyData}, Rps K H vs ds → Rps K H ws es → Rps K H (vs ++ ws) (ds ++ es)
  | _, _, _, _, .nil, s => s
  | _, _, _, _, .cons h r, s => .cons h (Rps.append r s)
theorem Rps.take : ∀ {vs : List V} {ds : List PyData} (n : Nat), Rps K H vs ds → Rps K H (vs.take n) (ds.take n)
  | _, _, 0, _ => .nil
  | _, _, _ + 1, .nil => .nil
  | _, _, n + 1, .cons h r => .cons h (Rps.take n r)
theorem Rps.drop : ∀ {vs : List V} {ds : List PyData} (n : Nat), Rps K H vs ds → Rps K H (vs.drop n) (ds.drop n)
  | _, _, 0, r => r
  | _, _, _ + 1, .nil => .nil
  | _, _, n + 1, .cons _ r => Rps.drop n r
theorem Rps.set : ∀ {vs : List V} {ds : List PyData} {v : V} {d : PyData} (i : Nat), Rps K H vs ds → Rp K H v d → Rps K H (vs.set i v) (ds.set i d)
  | _, _, _, _, _, .nil, _ => .nil
  | _, _, _, _, 0, .cons _ t, r => .cons r t
  | _, _, _, _, i + 1, .cons q t, r => .cons q (Rps.set i t r)
theorem Rps.rep {vs : List V} {ds : List PyData} (h : Rps K H vs ds) : ∀ k : Nat, Rps K H (List.replicate k vs).flatten (List.replicate k ds).flatten
  | 0 => .nil
  | k + 1 => by
    rw [List.replicate_succ, List.replicate_succ, List.flatten_cons, List.flatten_cons]
    exact Rps.append h (Rps.rep h k)
theorem Rps.ints : ∀ {vs : List V} {ns : List Int}, Rps K H vs (ns.map PyData.int) → vs = ns.map V.int
  | _, [], h => by cases h; rfl
  | _, n :: ns, h => by
    cases h with
    | cons h r =>
      cases h
      rw [Rps.ints r]; rfl
theorem Rps.ofInts : ∀ (ns : List Int), Rps K H (ns.map V.int) (ns.map PyData.int)
  | [] => .nil
  | n :: ns => .cons (.int n) (Rps.ofInts ns)
mutual
def imm : PyData → Bool
  | .none | .bool _ | .int _ | .str _ => true
  | .tuple xs => imms xs
  | .list _ | .dict _ => false
def imms : List PyData → Bool
  | [] => true
  | x :: xs => imm x && imms xs
end
mutual
theorem Rp.imm (s : ∀ a xs, SqT K H a xs → SqT K H' a xs) : ∀ {d : PyData} {v : V}, Rp K H v d → imm d = true → Rp K H' v d
  | .none, _, h, _ => by cases h; exact .non
  | .bool _, _, h, _ => by cases h; exact .bl _
  | .int _, _, h, _ => by cases h; exact .int _
  | .str _, _, h, _ => by cases h; exact .str _
  | .tuple ds, _, h, e => by
    cases h with
    | tup q r => exact .tup (s _ _ q) (Rps.imm s r (by simpa [Pu.imm] using e))
  | .list _, _, _, e => by simp [Pu.imm] at e
  | .dict _, _, _, e => by simp [Pu.imm] at e
theorem Rps.imm (s : ∀ a xs, SqT K H a xs → SqT K H' a xs) : ∀ {ds : List PyData} {vs : List V}, Rps K H vs ds → imms ds = true → Rps K H' vs ds
  | [], _, h, _ => by cases h; exact .nil
  | d :: ds, _, h, e => by
    cases h with
    | cons h r =>
      have e' : Pu.imm d = true ∧ imms ds = true := by simpa [imms] using e
      exact .cons (Rp.imm s h e'.1) (Rps.imm s r e'.2)
end
mutual
theorem Rp.dp : ∀ {d : PyData} {v : V}, Rp K H v d → d.canLay0 = true → Same H H' → Dp K H' v d
  | .none, _, h, _, _ => by cases h; exact .non
  | .bool _, _, h, _, _ => by cases h; exact .bl _
  | .int _, _, h, _, _ => by cases h; exact .int _
  | .str _, _, h, _, _ => by cases h; exact .str _
  | .tuple ds, _, h, e, s => by
    cases h with
    | tup q r => exact .tup (seqT s q) (Rps.dp r (by simpa [PyData.canLay0] using e) s)
  | .list ds, _, h, e, s => by
    cases h with
    | lst q r => exact .lst (seqL s q) (Rps.dp r (by simpa [PyData.canLay0] using e) s)
  | .dict _, _, _, e, _ => by simp [PyData.canLay0] at e
theorem Rps.dp : ∀ {ds : List PyData} {vs : List V}, Rps K H vs ds → PyData.canLayAll0 ds = true → Same H H' → DpAll K H' vs ds
  | [], _, h, _, _ => by cases h; exact .nil
  | d :: ds, _, h, e, s => by
    cases h with
    | cons h r =>
      have e' : d.canLay0 = true ∧ PyData.canLayAll0 ds = true := by simpa [PyData.canLayAll0] using e
      exact .cons (Rp.dp h e'.1 s) (Rps.dp r e'.2 s)
end
end
structure VRel (K : PySem.W.Frag) (F : Hp) (σ : L2.St) (ρ : Vars) : Prop where
  len : σ.length = ρ.length
  get : ∀ (i : Nat) (d : PyData), ρ[i]? = some (some d) → ∃ v, σ[i]? = some (some v) ∧ Rp K F v d
theorem VRel.mono {K : PySem.W.Frag} {F F' : Hp} {σ : L2.St} {ρ : Vars} (h : VRel K F σ ρ) (s : Same F F') : VRel K F' σ ρ := ⟨h.len, fun i d e => by
  obtain ⟨v, h1, h2⟩ := h.get i d e
  exact ⟨v, h1, h2.mono s⟩⟩
theorem VRel.set {K : PySem.W.Frag} {F : Hp} {σ : L2.St} {ρ : Vars} {i : Nat} {v : V} {d : PyData} (h : VRel K F σ ρ) (r : Rp K F v d) : VRel K F (σ.set i (some v)) (ρ.set i (some d)) := ⟨by simpa using h.len, fun j e q => by
  have hl := h.len
  by_cases c : i = j
  · subst c
    by_cases hi : i < ρ.length
    · rw [List.getElem?_set_self hi] at q
      cases q
      exact ⟨v, List.getElem?_set_self (by omega), r⟩
    · rw [List.getElem?_eq_none (by simpa using hi)] at q; cases q
  · rw [List.getElem?_set_ne c] at q
    obtain ⟨w, h1, h2⟩ := h.get j e q
    exact ⟨w, by rw [List.getElem?_set_ne c]; exact h1, h2⟩⟩
def exV (mg : Str → Option Value) (c : Str) : Value := (mg c).getD .none
section
variable (X : Cx) (W : WX)
def EOut (O : List Addr) (σ : L2.St) (H : Hp) (Q : VK) : R PyData → Prop
  | .ok d => ∀ v H', Same H H' → Rp X.K (hide O H') v d → Q v H'
  | .err c => ∀ H', Same H H' → W (exV X.mg c) none σ H'
  | .bad => False
def AOut (O : List Addr) (σ : L2.St) (H : Hp) (Q : List V → Hp → Prop) : R (List PyData) → Prop
  | .ok ds => ∀ vs H', Same H H' → Rps X.K (hide O H') vs ds → Q vs H'
  | .err c => ∀ H', Same H H' → W (exV X.mg c) none σ H'
  | .bad => False
def TOut (σ : L2.St) (H : Hp) (Q : Bool → Hp → Prop) : R Bool → Prop
  | .ok b => ∀ H', Same H H' → Q b H'
  | .err c => ∀ H', Same H H' → W (exV X.mg c) none σ H'
  | .bad => False
def EX (e : Expr) (f : Vars → R PyData) : Prop :=
  ∃ t, PE X e t ∧ ∀ σ H O ρ Q, Stands O H → VRel X.K (hide O H) σ ρ → EOut X W O σ H Q (f ρ) → t σ H Q
def AX (es : List Expr) (f : Vars → R (List PyData)) : Prop :=
  ∃ t, PA X es t ∧ ∀ σ H O ρ Q, Stands O H → VRel X.K (hide O H) σ ρ → AOut X W O σ H Q (f ρ) → t σ H Q
def TX (e : Expr) (f : Vars → R Bool) : Prop :=
  ∃ t, PT X e t ∧ ∀ σ H O ρ Q, Stands O H → VRel X.K (hide O H) σ ρ → TOut X W σ H Q (f ρ) → t σ H Q
def WX' (e : Expr) (f : Vars → R Bool) : Prop :=
  ∃ t, PW X e t ∧ ∀ σ H O ρ Q, Stands O H → VRel X.K (hide O H) σ ρ → TOut X W σ H Q (f ρ) → t σ H Q
def OX (e : Option Expr) (f : Vars → R (Option Int)) : Prop :=
  ∃ t, PO X e t ∧ ∀ σ H O ρ (Q : Option Int → Hp → Prop), Stands O H → VRel X.K (hide O H) σ ρ →
    (match f ρ with
      | .ok o => ∀ H', Same H H' → Q o H'
      | .err c => ∀ H', Same H H' → W (exV X.mg c) none σ H'
      | .bad => False) → t σ H Q
end
section
variable (X : Cx) (W : WX)
def tE (f : Vars → R PyData) : TE := fun σ H Q => ∃ O ρ, Stands O H ∧ VRel X.K (hide O H) σ ρ ∧ EOut X W O σ H Q (f ρ)
def tT (f : Vars → R Bool) : TT := fun σ H Q => ∃ O ρ, Stands O H ∧ VRel X.K (hide O H) σ ρ ∧ TOut X W σ H Q (f ρ)
end
theorem EX.pe {X : Cx} {W : WX} {e : Expr} {f : Vars → R PyData} (h : EX X W e f) : PE X e (tE X W f) := by
  obtain ⟨t, p, ht⟩ := h
  exact ⟨fun pins s σ H Q I ⟨O, ρ, h1, h2, h3⟩ => p.run pins s σ H Q I (ht σ H O ρ Q h1 h2 h3)⟩
theorem TX.pt {X : Cx} {W : WX} {e : Expr} {f : Vars → R Bool} (h : TX X W e f) : PT X e (tT X W f) := by
  obtain ⟨t, p, ht⟩ := h
  exact ⟨fun pins s σ H Q I ⟨O, ρ, h1, h2, h3⟩ => p.run pins s σ H Q I (ht σ H O ρ Q h1 h2 h3)⟩
section
variable {X : Cx} {W : WX}
theorem EOut.from {O : List Addr} {σ : L2.St} {H H1 : Hp} {Q : VK} {r : R PyData} (h : EOut X W O σ H Q r) (s : Same H H1) : EOut X W O σ H1 Q r := by
  cases r with
  | ok d => exact fun v H' s' r => h v H' (s.trans s') r
  | err c => exact fun H' s' => h H' (s.trans s')
  | bad => exact h
theorem AOut.from {O : List Addr} {σ : L2.St} {H H1 : Hp} {Q : List V → Hp → Prop} {r : R (List PyData)} (h : AOut X W O σ H Q r) (s : Same H H1) : AOut X W O σ H1 Q r := by
  cases r with
  | ok d => exact fun v H' s' r => h v H' (s.trans s') r
  | err c => exact fun H' s' => h H' (s.trans s')
  | bad => exact h
theorem TOut.from {σ : L2.St} {H H1 : Hp} {Q : Bool → Hp → Prop} {r : R Bool} (h : TOut X W σ H Q r) (s : Same H H1) : TOut X W σ H1 Q r := by
  cases r with
  | ok d => exact fun H' s' => h H' (s.trans s')
  | err c => exact fun H' s' => h H' (s.trans s')
  | bad => exact h
theorem EOut.then {O : List Addr} {σ : L2.St} {H : Hp} {r : R PyData} {β : Type} {g : PyData → R β} {P : R β → Prop} {Q : VK} (hb : P .bad → False) (he : ∀ c, P (.err c) → ∀ H', Same H H' → W (exV X.mg c) none σ H')
    (h : P (r.bind g)) (k : ∀ d v H', Same H H' → Rp X.K (hide O H') v d → P (g d) → Q v H') : EOut X W O σ H Q r := by
  cases r with
  | ok d => exact fun v H' s r => k d v H' s r h
  | err c => exact he c h
  | bad => exact hb h
theorem TOut.then {σ : L2.St} {H : Hp} {r : R Bool} {β : Type} {g : Bool → R β} {P : R β → Prop} {Q : Bool → Hp → Prop} (hb : P .bad → False) (he : ∀ c, P (.err c) → ∀ H', Same H H' → W (exV X.mg c) none σ H')
    (h : P (r.bind g)) (k : ∀ d H', Same H H' → P (g d) → Q d H') : TOut X W σ H Q r := by
  cases r with
  | ok d => exact fun H' s => k d H' s h
  | err c => exact he c h
  | bad => exact hb h
theorem AOut.then {O : List Addr} {σ : L2.St} {H : Hp} {r : R (List PyData)} {β : Type} {g : List PyData → R β} {P : R β → Prop} {Q : List V → Hp → Prop} (hb : P .bad → False) (he : ∀ c, P (.err c) → ∀ H', Same H H' → W (exV X.mg c) none σ H')
    (h : P (r.bind g)) (k : ∀ d v H', Same H H' → Rps X.K (hide O H') v d → P (g d) → Q v H') : AOut X W O σ H Q r := by
  cases r with
  | ok d => exact fun v H' s r => k d v H' s r h
  | err c => exact he c h
  | bad => exact hb h
theorem EOut.b {O : List Addr} {σ : L2.St} {H : Hp} {Q : VK} : EOut X W O σ H Q .bad → False := fun z => z
theorem EOut.e {O : List Addr} {σ : L2.St} {H : Hp} {Q : VK} (c : Str) : EOut X W O σ H Q (.err c) → ∀ H', Same H H' → W (exV X.mg c) none σ H' := fun z => z
theorem AOut.b {O : List Addr} {σ : L2.St} {H : Hp} {Q : List V → Hp → Prop} : AOut X W O σ H Q .bad → False := fun z => z
theorem AOut.e {O : List Addr} {σ : L2.St} {H : Hp} {Q : List V → Hp → Prop} (c : Str) : AOut X W O σ H Q (.err c) → ∀ H', Same H H' → W (exV X.mg c) none σ H' := fun z => z
theorem TOut.b {σ : L2.St} {H : Hp} {Q : Bool → Hp → Prop} : TOut X W σ H Q .bad → False := fun z => z
theorem TOut.e {σ : L2.St} {H : Hp} {Q : Bool → Hp → Prop} (c : Str) : TOut X W σ H Q (.err c) → ∀ H', Same H H' → W (exV X.mg c) none σ H' := fun z => z
def eVar (i : Nat) (ρ : Vars) : R PyData := R.of (ρ.getD i none)
theorem ex_var (i : Nat) {x : Str} {pos : Pos} (hN : X.N[i]? = some x := by rfl) (hv : Vis X.env.scope x := by first | exact Or.inl rfl | exact Or.inr (Or.inl rfl) | exact Or.inr (Or.inr rfl)) (hd : (x == ("__debug__" : Str)) = false := by decide)
    (hcd : (x == ("__classdict__" : Str)) = false := by decide) : EX X W (.Name x pos) (eVar i) := by
  refine ⟨_, pe_var hN hv hd hcd, fun σ H O ρ Q hO h q => ?_⟩
  unfold eVar at q
  rw [List.getD_eq_getElem?_getD] at q
  cases e : ρ[i]? with
  | none => rw [e] at q; exact q.elim
  | some o =>
    cases o with
    | none => rw [e] at q; exact q.elim
    | some d =>
      rw [e] at q
      obtain ⟨v, h1, h2⟩ := h.get i d e
      exact ⟨v, h1, q v H (Same.refl H) h2⟩
def eC (d : PyData) (_ : Vars) : R PyData := .ok d
theorem ex_c {e : Expr} {v : V} {d : PyData} (h : PE X e (tC v)) (r : ∀ H, Rp X.K H v d) : EX X W e (eC d) :=
  ⟨_, h, fun σ H O ρ Q _ _ q => q v H (Same.refl H) (r _)⟩
theorem ex_int {i j pos} : EX X W (.Constant (.int i) j pos) (eC (.int i)) := ex_c pe_int fun _ => .int i
theorem ex_bl {i j pos} : EX X W (.Constant (.bool i) j pos) (eC (.bool i)) := ex_c pe_bl fun _ => .bl i
theorem ex_globI {x : Str} {i : Int} {t : Tok} {pos : Pos} (hg : Gl X x) (hm : X.mg x = some (.int i t)) (hd : (x == ("__debug__" : Str)) = false := by decide) : EX X W (.Name x pos) (eC (.int i)) := ex_c (pe_glob (v := .int i) hg hm ⟨t, rfl⟩ hd) fun _ => .int i
def aNil (_ : Vars) : R (List PyData) := .ok []
def aCons (f : Vars → R PyData) (g : Vars → R (List PyData)) (ρ : Vars) : R (List PyData) := (f ρ).bind fun d => (g ρ).bind fun ds => .ok (d :: ds)
theorem ax_nil : AX X W [] aNil := ⟨_, pa_nil, fun σ H O ρ Q _ _ q => q [] H (Same.refl H) .nil⟩
theorem ax_cons {e : Expr} {es : List Expr} {f : Vars → R PyData} {g : Vars → R (List PyData)} (h : EX X W e f) (k : AX X W es g) (hs : starEach (e :: es) X.env = (false, eval e X.env) :: starEach es X.env := by rfl) : AX X W (e :: es) (aCons f g) := by
  obtain ⟨t, p, ht⟩ := h
  obtain ⟨u, q, hu⟩ := k
  refine ⟨_, pa_cons p q hs, fun σ H O ρ Q hO hr z => ht σ H O ρ _ hO hr (EOut.then (g := fun d => (g ρ).bind fun ds => .ok (d :: ds)) AOut.b AOut.e z fun d v H1 s1 r1 z1 => ?_)⟩
  refine hu σ H1 O ρ _ (hO.same s1) (hr.mono (hide_same s1)) (AOut.then (g := fun ds => .ok (d :: ds)) AOut.b AOut.e (z1.from s1) fun ds vs H2 s2 r2 z2 => ?_)
  exact z2 (v :: vs) H2 s2 (.cons (r1.mono (hide_same s2)) r2)
def eTup (f : Vars → R (List PyData)) (ρ : Vars) : R PyData := (f ρ).bind fun ds => if ds.length ≤ sizeLine then .ok (.tuple ds) else .bad
theorem new_rep {K : PySem.W.Frag} {O : List Addr} {H : Hp} {p : Addr} {vs : List V} {ds : List PyData} (hO : Stands O H) (hp : H p = none) (r : Rps K (hide O H) vs ds) : Rp K (hide O (upd H p (.tup vs))) (.ref p) (.tuple ds) :=
  .tup (.inl (.inl (hide_of (hO.new hp) upd_same))) (r.mono (hide_same (same_new hp)))
theorem new_repL {K : PySem.W.Frag} {O : List Addr} {H : Hp} {p : Addr} {vs : List V} {ds : List PyData} (hO : Stands O H) (hp : H p = none) (r : Rps K (hide O H) vs ds) : Rp K (hide O (upd H p (.lst vs))) (.ref p) (.list ds) :=
  .lst (.inl (.inl (hide_of (hO.new hp) upd_same))) (r.mono (hide_same (same_new hp)))
theorem ex_tup {es : List Expr} {f : Vars → R (List PyData)} {k : Nat} {pos : Pos} (h : AX X W es f) : EX X W (.Tuple es k pos) (eTup f) := by
  obtain ⟨t, p, ht⟩ := h
  refine ⟨_, pe_tup p, fun σ H O ρ Q hO hr z => ht σ H O ρ _ hO hr (AOut.then EOut.b EOut.e z fun ds vs H1 s1 r1 z1 => ?_)⟩
  by_cases c : ds.length ≤ sizeLine
  · rw [if_pos c] at z1
    exact ⟨by rw [r1.length]; exact c, fun p hp => z1 _ _ (s1.trans (same_new hp)) (new_rep (hO.same s1) hp r1)⟩
  · rw [if_neg c] at z1; exact z1.elim
def Op2 (K : PySem.W.Frag) (r : R2) (g : PyData → PyData → Option PyData) : Prop :=
  ∀ (H : Hp) (O : List Addr) (x y : V) (d e : PyData) (z : PyData) (Q : VK), Stands O H → Rp K (hide O H) x d → Rp K (hide O H) y e → g d e = some z → (∀ v H', Same H H' → Rp K (hide O H') v z → Q v H') → r x y H Q
def eOp (g : PyData → PyData → Option PyData) (f h : Vars → R PyData) (ρ : Vars) : R PyData := (f ρ).bind fun d => (h ρ).bind fun e => R.of (g d e)
theorem op_run {r : R2} {g : PyData → PyData → Option PyData} (ho : Op2 X.K r g) {ta tb : TE} {f h : Vars → R PyData}
    (ha : ∀ σ H O ρ Q, Stands O H → VRel X.K (hide O H) σ ρ → EOut X W O σ H Q (f ρ) → ta σ H Q) (hb : ∀ σ H O ρ Q, Stands O H → VRel X.K (hide O H) σ ρ → EOut X W O σ H Q (h ρ) → tb σ H Q) :
    ∀ σ H O ρ Q, Stands O H → VRel X.K (hide O H) σ ρ → EOut X W O σ H Q (eOp g f h ρ) → tOp r ta tb σ H Q := fun σ H O ρ Q hO hr z =>
  ha σ H O ρ _ hO hr (EOut.then (g := fun d => (h ρ).bind fun e => R.of (g d e)) EOut.b EOut.e z fun d v H1 s1 r1 z1 =>
    hb σ H1 O ρ _ (hO.same s1) (hr.mono (hide_same s1)) (EOut.then (g := fun e => R.of (g d e)) EOut.b EOut.e (z1.from s1) fun e v2 H2 s2 r2 z2 => by
      cases q : g d e with
      | none => rw [q] at z2; exact z2.elim
      | some w =>
        rw [q] at z2
        exact ho H2 O v v2 d e w Q ((hO.same s1).same s2) (r1.mono (hide_same s2)) r2 q fun v' H' s' r' => z2 v' H' (s2.trans s') r'))
theorem ex_op {op : Operator} {r : R2} {g : PyData → PyData → Option PyData} {a b : Expr} {f h : Vars → R PyData} {pos : Pos} (hr : OpR X (binaryOp op) r) (ho : Op2 X.K r g) (ha : EX X W a f) (hb : EX X W b h) : EX X W (.BinOp a op b pos) (eOp g f h) := by
  obtain ⟨ta, p, hta⟩ := ha
  obtain ⟨tb, q, htb⟩ := hb
  exact ⟨_, pe_op hr p q, op_run ho hta htb⟩
theorem ex_cmp {op : CmpOp} {r : R2} {g : PyData → PyData → Option PyData} {a b : Expr} {f h : Vars → R PyData} {pos : Pos} (hr : OpR X (compareOp op) r) (ho : Op2 X.K r g) (ha : EX X W a f) (hb : EX X W b h) (hm : behindInMarks op b = false) : EX X W (.Compare a [op] [b] pos) (eOp g f h) := by
  obtain ⟨ta, p, hta⟩ := ha
  obtain ⟨tb, q, htb⟩ := hb
  exact ⟨_, pe_cmpR hr p q hm, op_run ho hta htb⟩
theorem ex_ix {r : R2} {g : PyData → PyData → Option PyData} {a b : Expr} {f h : Vars → R PyData} {pos : Pos} (hr : IxR X r) (ho : Op2 X.K r g) (ha : EX X W a f) (hb : EX X W b h) (hs : PlainIx b) : EX X W (.Subscript a b pos) (eOp g f h) := by
  obtain ⟨ta, p, hta⟩ := ha
  obtain ⟨tb, q, htb⟩ := hb
  exact ⟨_, pe_ix hr p q hs, op_run ho hta htb⟩
def tOf (f : Vars → R PyData) (ρ : Vars) : R Bool := (f ρ).bind fun d => match d with
  | .bool b => .ok b
  | _ => .bad
theorem tx_cmp {op : CmpOp} {r : R2} {g : PyData → PyData → Option PyData} {a b : Expr} {f h : Vars → R PyData} {pos : Pos} (hr : OpR X (compareOp op) r) (ho : Op2 X.K r g) (ha : EX X W a f) (hb : EX X W b h) (hm : behindInMarks op b = false) : TX X W (.Compare a [op] [b] pos) (tOf (eOp g f h)) := by
  obtain ⟨ta, p, hta⟩ := ha
  obtain ⟨tb, q, htb⟩ := hb
  refine ⟨_, pt_cmpR hr p q hm, fun σ H O ρ Q hO hv z => op_run ho hta htb σ H O ρ _ hO hv (EOut.then TOut.b TOut.e z fun d v H1 s1 r1 z1 => ?_)⟩
  cases r1 with
  | bl b => exact ⟨b, rfl, z1 H1 s1⟩
  | _ => exact z1.elim
def truD : PyData → Option Bool
  | .none => some false
  | .bool b => some b
  | .int i => some (i != 0)
  | .str x => if x.length ≤ sizeLine then some ((x.length : Int) != 0) else none
  | .list xs => some (!xs.isEmpty)
  | .tuple xs => some (!xs.isEmpty)
  | .dict _ => none
def tTru (f : Vars → R PyData) (ρ : Vars) : R Bool := (f ρ).bind fun d => R.of (truD d)
theorem Rps.isEmpty {K : PySem.W.Frag} {H : Hp} {vs : List V} {ds : List PyData} (r : Rps K H vs ds) : vs.isEmpty = ds.isEmpty := by
  cases r <;> rfl
theorem truV_of {K : PySem.W.Frag} {H : Hp} {v : V} {d : PyData} {b : Bool} (r : Rp K H v d) (e : truD d = some b) {H' : Hp} (s : Same H H') : TruV K v H' b := by
  cases r with
  | non => cases e; rfl
  | bl _ => cases e; rfl
  | int _ => cases e; rfl
  | str x =>
    unfold truD at e
    dsimp only at e
    by_cases c : x.length ≤ sizeLine
    · rw [if_pos c] at e; cases e; exact ⟨c, rfl⟩
    · rw [if_neg c] at e; cases e
  | lst h r => cases e; exact .inl ⟨_, seqL s h, by rw [r.isEmpty]⟩
  | tup h r => cases e; exact .inr (.inl ⟨_, seqT s h, by rw [r.isEmpty]⟩)
  | dic _ _ => cases e
  | ins _ _ _ _ => cases e
  | fn _ => cases e
  | fn0 => cases e
  | dct => cases e
  | tpx => cases e
theorem tx_tru {a : Expr} {f : Vars → R PyData} (h : EX X W a f) (he : ∀ whole, isTrue a X.env whole = (do let v ← whole; standAt a.pos; holding [v] (truthy v)) := by intro _; rfl) : TX X W a (tTru f) := by
  obtain ⟨t, p, ht⟩ := h
  refine ⟨_, pt_truth p he, fun σ H O ρ Q hO hv z => ht σ H O ρ _ hO hv (EOut.then TOut.b TOut.e z fun d v H1 s1 r1 z1 => ?_)⟩
  cases q : truD d with
  | none => rw [q] at z1; exact z1.elim
  | some b =>
    rw [q] at z1
    exact ⟨b, truV_of r1 q hide_sub, z1 H1 s1⟩
def tNotR (f : Vars → R Bool) (ρ : Vars) : R Bool := (f ρ).bind fun b => .ok (!b)
def tAndR (f g : Vars → R Bool) (ρ : Vars) : R Bool := (f ρ).bind fun b => if b = true then g ρ else .ok false
def tOrR (f g : Vars → R Bool) (ρ : Vars) : R Bool := (f ρ).bind fun b => if b = true then .ok true else g ρ
theorem tx_not {a : Expr} {f : Vars → R Bool} {pos : Pos} (h : TX X W a f) : TX X W (.UnaryOp .Not a pos) (tNotR f) := by
  obtain ⟨t, p, ht⟩ := h
  exact ⟨_, pt_not p, fun σ H O ρ Q hO hv z => ht σ H O ρ _ hO hv (TOut.then TOut.b TOut.e z fun d H1 s1 z1 => z1 H1 s1)⟩
theorem wx_and1 {a : Expr} {f : Vars → R Bool} {pos : Pos} (h : TX X W a f) : WX' X W (.BoolOp .And [a] pos) f := by
  obtain ⟨t, p, ht⟩ := h
  exact ⟨_, pw_and1 p, ht⟩
theorem wx_or1 {a : Expr} {f : Vars → R Bool} {pos : Pos} (h : TX X W a f) : WX' X W (.BoolOp .Or [a] pos) f := by
  obtain ⟨t, p, ht⟩ := h
  exact ⟨_, pw_or1 p, ht⟩
theorem wx_and {a b : Expr} {rest : List Expr} {f g : Vars → R Bool} {pos : Pos} (h : TX X W a f) (k : WX' X W (.BoolOp .And (b :: rest) pos) g) : WX' X W (.BoolOp .And (a :: b :: rest) pos) (tAndR f g) := by
  obtain ⟨t, p, ht⟩ := h
  obtain ⟨u, q, hu⟩ := k
  refine ⟨_, pw_and p q, fun σ H O ρ Q hO hv z => ht σ H O ρ _ hO hv (TOut.then (g := fun b => if b = true then g ρ else .ok false) TOut.b TOut.e z fun d H1 s1 z1 => ?_)⟩
  cases d with
  | true => exact hu σ H1 O ρ Q (hO.same s1) (hv.mono (hide_same s1)) (z1.from s1)
  | false => exact z1 H1 s1
theorem wx_or {a b : Expr} {rest : List Expr} {f g : Vars → R Bool} {pos : Pos} (h : TX X W a f) (k : WX' X W (.BoolOp .Or (b :: rest) pos) g) : WX' X W (.BoolOp .Or (a :: b :: rest) pos) (tOrR f g) := by
  obtain ⟨t, p, ht⟩ := h
  obtain ⟨u, q, hu⟩ := k
  refine ⟨_, pw_or p q, fun σ H O ρ Q hO hv z => ht σ H O ρ _ hO hv (TOut.then (g := fun b => if b = true then .ok true else g ρ) TOut.b TOut.e z fun d H1 s1 z1 => ?_)⟩
  cases d with
  | true => exact z1 H1 s1
  | false => exact hu σ H1 O ρ Q (hO.same s1) (hv.mono (hide_same s1)) (z1.from s1)
theorem WX'.tx {e : Expr} {f : Vars → R Bool} (h : WX' X W e f) : TX X W e f := by
  obtain ⟨t, p, ht⟩ := h
  exact ⟨_, p.pt, ht⟩
def eAnd (f g : Vars → R PyData) (ρ : Vars) : R PyData := (tOf f ρ).bind fun b => if b = true then g ρ else .ok (.bool false)
def eNot (f : Vars → R PyData) (ρ : Vars) : R PyData := (tOf f ρ).bind fun b => .ok (.bool (!b))
theorem tOf_run {f : Vars → R PyData} {t : TE} (ht : ∀ σ H O ρ Q, Stands O H → VRel X.K (hide O H) σ ρ → EOut X W O σ H Q (f ρ) → t σ H Q) {σ : L2.St} {H : Hp} {O : List Addr} {ρ : Vars} {Q : VK} {β : Type} {g : Bool → R β} {P : R β → Prop} (hO : Stands O H) (hv : VRel X.K (hide O H) σ ρ)
    (hb : P .bad → False) (he : ∀ c, P (.err c) → ∀ H', Same H H' → W (exV X.mg c) none σ H') (z : P ((tOf f ρ).bind g)) (k : ∀ b H', Same H H' → P (g b) → Q (.bl b) H') : t σ H Q := by
  refine ht σ H O ρ _ hO hv ?_
  unfold tOf at z
  cases q : f ρ with
  | bad => rw [q] at z; exact hb z
  | err c => rw [q] at z; exact he c z
  | ok d =>
    rw [q] at z
    refine fun v H1 s1 r1 => ?_
    cases r1 with
    | bl b => exact k b H1 s1 z
    | _ => exact (hb z).elim
theorem ex_one {op} {a : Expr} {f : Vars → R PyData} {pos : Pos} (h : EX X W a f) : EX X W (.BoolOp op [a] pos) f := by
  obtain ⟨t, p, ht⟩ := h
  exact ⟨_, pe_one p, ht⟩
theorem ex_and {a b : Expr} {rest : List Expr} {f g : Vars → R PyData} {pos : Pos} (h : EX X W a f) (k : EX X W (.BoolOp .And (b :: rest) pos) g) : EX X W (.BoolOp .And (a :: b :: rest) pos) (eAnd f g) := by
  obtain ⟨t, p, ht⟩ := h
  obtain ⟨u, q, hu⟩ := k
  refine ⟨_, pe_and p q, fun σ H O ρ Q hO hv z => tOf_run (g := fun b => if b = true then g ρ else .ok (.bool false)) ht hO hv EOut.b EOut.e z fun b H1 s1 z1 => ⟨b, rfl, ?_⟩⟩
  cases b with
  | true => exact hu σ H1 O ρ Q (hO.same s1) (hv.mono (hide_same s1)) (z1.from s1)
  | false => exact z1 _ H1 s1 (.bl false)
theorem ex_not {a : Expr} {f : Vars → R PyData} {pos : Pos} (h : EX X W a f) : EX X W (.UnaryOp .Not a pos) (eNot f) := by
  obtain ⟨t, p, ht⟩ := h
  exact ⟨_, pe_not p, fun σ H O ρ Q hO hv z => tOf_run (g := fun b => .ok (.bool (!b))) ht hO hv EOut.b EOut.e z fun b H1 s1 z1 => ⟨b, rfl, z1 _ H1 s1 (.bl _)⟩⟩
def eIf (c : Vars → R Bool) (f g : Vars → R PyData) (ρ : Vars) : R PyData := (c ρ).bind fun b => if b = true then f ρ else g ρ
theorem ex_if {c a b : Expr} {h : Vars → R Bool} {f g : Vars → R PyData} {pos : Pos} (hc : TX X W c h) (ha : EX X W a f) (hb : EX X W b g) : EX X W (.IfExp c a b pos) (eIf h f g) := by
  obtain ⟨t, p, ht⟩ := hc
  obtain ⟨ta, pa, hta⟩ := ha
  obtain ⟨tb, pb, htb⟩ := hb
  refine ⟨_, pe_ifExp p pa pb, fun σ H O ρ Q hO hv z => ht σ H O ρ _ hO hv (TOut.then (g := fun b => if b = true then f ρ else g ρ) EOut.b EOut.e z fun d H1 s1 z1 => ?_)⟩
  cases d with
  | true => exact hta σ H1 O ρ Q (hO.same s1) (hv.mono (hide_same s1)) (z1.from s1)
  | false => exact htb σ H1 O ρ Q (hO.same s1) (hv.mono (hide_same s1)) (z1.from s1)
end
end Pu
set_option Elab.async false
set_option linter.all false
set_option maxRecDepth 100000
set_option maxHeartbeats 4000000
namespace Pu
open PySem PySem.Spec PyProof.Rows L2
theorem int_sub_bool_bool (a b : Bool) : Gives (Builtin.«int.__sub__» ⟨[.bool a, .bool b], []⟩) (.int ((if a = true then (1 : Int) else 0) - (if b = true then (1 : Int) else 0))) :=
  .of_wp fun M A E s Q h => by obtain ⟨hp, g, d, tk, os⟩ := s; wp_walk; exact ⟨_, rfl, h⟩
theorem sub_bb {prog : Program} {w : World} {A : Around} {E : Value → Shared → Prop} {s : Shared} {a b : Bool} {Q : Value → Shared → Prop}
    (h : Q (.int ((if a = true then (1 : Int) else 0) - (if b = true then (1 : Int) else 0)) s.toks) { s with toks := s.toks + 1 }) : wpAny (model prog w) A (binaryOp .Sub (.bool a) (.bool b)) Q E s :=
  binaryOp_gives (op := .Sub) (T := "bool") rfl rfl F.fills_bool_sub F.slot_bool_sub F.entry_int_sub (F.args_int_sub_2 _ _) (int_sub_bool_bool a b) trivial h
section
variable {X : Cx}
def rSubB : R2 := fun x y H Q => ∃ a b, x = .bl a ∧ y = .bl b ∧ Q (.int ((if a = true then (1 : Int) else 0) - (if b = true then (1 : Int) else 0))) H
theorem op_subB : OpR X (binaryOp .Sub) rSubB := by
  intro pins s σ H x y v u Q I rx ry h
  obtain ⟨a, b, rfl, rfl, q⟩ := h
  cases rx
  cases ry
  exact sub_bb ⟨.int _, H, I.tok _, ⟨_, rfl⟩, q⟩
def rCatL (K : PySem.W.Frag) : R2 := fun x y H Q => ∃ l b xs zs, x = .ref l ∧ y = .ref b ∧ SqL K H l xs ∧ SqL K H b zs ∧ xs.length + zs.length ≤ sizeLine ∧ ∀ p, H p = none → Q (.ref p) (upd H p (.lst (xs ++ zs)))
theorem plain_get {h : Heap} {a : Addr} {its : Array Value} (p : PlainL h a its) : ∃ (n : Nat) (sl : Array (Option Value)), h.get? a = some { cls := .type "list", data := .seq its n, slots := sl } := by
  obtain ⟨⟨c, d, dt, sl⟩, n, e, hc, hd, hs⟩ := p
  simp only at hc hd hs
  subst hc hd hs
  exact ⟨n, sl, e⟩
end
theorem op_catL {X : Cx} : OpR X (binaryOp .Add) (rCatL X.K) := by
  intro pins s σ H x y v u Q I rx ry h
  obtain ⟨l, b, xs, zs, rfl, rfl, hH, hB, hz, q⟩ := h
  cases rx
  cases ry
  obtain ⟨its, r, pl, hl⟩ := I.list hH
  obtain ⟨its2, r2, pl2, hl2⟩ := I.list hB
  obtain ⟨n, sl, e⟩ := plain_get pl
  obtain ⟨n2, sl2, e2⟩ := plain_get pl2
  have l1 := r.length
  have l2 := r2.length
  refine concat_meets ⟨_, e, rfl⟩ ⟨_, e2, rfl⟩ noFill_list_add seq_list_add PySem.F.slot_list_add PySem.F.entry_list_add (PySem.F.args_list_add_2 _ _)
    (PyProof.Rows.list_addW l b its.toArray its2.toArray n n2 none none sl sl2 (by rw [List.size_toArray, List.size_toArray]; omega)) ⟨e, e2, ?_⟩
  have ea : its.toArray ++ its2.toArray = (its ++ its2).toArray := by simp
  rw [ea]
  exact ⟨.ref _, _, I.lnew (t' := s.toks) (r.append r2) (by rw [List.length_append]; omega), rfl, q _ I.fresh⟩
def gAdd : PyData → PyData → Option PyData
  | .int i, .int j => some (.int (i + j))
  | .tuple xs, .tuple ys => if xs.length + ys.length ≤ sizeLine then some (.tuple (xs ++ ys)) else none
  | .list xs, .list ys => if xs.length + ys.length ≤ sizeLine then some (.list (xs ++ ys)) else none
  | .str x, .str y => if x.length + y.length ≤ sizeLine then some (.str (x ++ y)) else none
  | _, _ => none
abbrev rAddD (K : PySem.W.Frag) : R2 := fun x y H Q => (∃ i j, x = .int i ∧ y = .int j ∧ Q (.int (i + j)) H) ∨ rCatA K x y H Q ∨ (∃ i j, x = .str i ∧ y = .str j ∧ i.length + j.length ≤ sizeLine ∧ Q (.str (i ++ j)) H) ∨ rCatL K x y H Q
theorem opr_add {X : Cx} : OpR X (binaryOp .Add) (rAddD X.K) := op_add.or (op_catA.or (op_add_str.or op_catL))
theorem rps_nil {K : PySem.W.Frag} {H : Hp} {xs : List V} {ds : List PyData} (r : Rps K H xs ds) : xs = [] ↔ ds = [] := by
  constructor
  · intro e; subst e; cases r; rfl
  · intro e; subst e; cases r; rfl
theorem op2_add {K : PySem.W.Frag} : Op2 K (rAddD K) gAdd := by
  intro H O x y d e z Q hO rx ry h q
  cases rx with
  | int i =>
    cases ry with
    | int j => cases h; exact .inl ⟨i, j, rfl, rfl, q _ H (Same.refl H) (.int _)⟩
    | _ => cases h
  | str i =>
    cases ry with
    | str j =>
      unfold gAdd at h
      dsimp only at h
      by_cases c : i.length + j.length ≤ sizeLine
      · rw [if_pos c] at h; cases h
        exact .inr (.inr (.inl ⟨i, j, rfl, rfl, c, q _ H (Same.refl H) (.str _)⟩))
      · rw [if_neg c] at h; cases h
    | _ => cases h
  | @tup a xs ds hx rs =>
    cases ry with
    | @tup b ys es hy rt =>
      unfold gAdd at h
      dsimp only at h
      by_cases c : ds.length + es.length ≤ sizeLine
      · rw [if_pos c] at h; cases h
        have hx' := seqT (hide_sub (O := O)) hx
        have hy' := seqT (hide_sub (O := O)) hy
        refine .inr (.inl ⟨a, b, xs, ys, rfl, rfl, hx', hy', by rw [rs.length, rt.length]; exact c, fun n => ?_, fun n n2 => ?_, fun n n2 p hp => ?_⟩)
        · have : ds = [] := (rps_nil rs).mp n
          subst this
          exact q _ H (Same.refl H) (.tup hy rt)
        · have : es = [] := (rps_nil rt).mp n2
          subst this
          rw [List.append_nil] at q
          exact q _ H (Same.refl H) (.tup hx rs)
        · exact q _ _ (same_new hp) (new_rep hO hp (rs.append rt))
      · rw [if_neg c] at h; cases h
    | _ => cases h
  | @lst a xs ds hx rs =>
    cases ry with
    | @lst b ys es hy rt =>
      unfold gAdd at h
      dsimp only at h
      by_cases c : ds.length + es.length ≤ sizeLine
      · rw [if_pos c] at h; cases h
        exact .inr (.inr (.inr ⟨a, b, xs, ys, rfl, rfl, seqL hide_sub hx, seqL hide_sub hy, by rw [rs.length, rt.length]; exact c, fun p hp => q _ _ (same_new hp) (new_repL hO hp (rs.append rt))⟩))
      · rw [if_neg c] at h; cases h
    | _ => cases h
  | _ => cases h
def gSub : PyData → PyData → Option PyData
  | .int i, .int j => some (.int (i - j))
  | .bool a, .bool b => some (.int ((if a = true then (1 : Int) else 0) - (if b = true then (1 : Int) else 0)))
  | _, _ => none
abbrev rSubD : R2 := fun x y H Q => (∃ i j, x = .int i ∧ y = .int j ∧ Q (.int (i - j)) H) ∨ rSubB x y H Q
theorem opr_sub {X : Cx} : OpR X (binaryOp .Sub) rSubD := op_sub.or op_subB
theorem op2_sub {K : PySem.W.Frag} : Op2 K rSubD gSub := by
  intro H O x y d e z Q hO rx ry h q
  cases rx with
  | int i =>
    cases ry with
    | int j => cases h; exact .inl ⟨i, j, rfl, rfl, q _ H (Same.refl H) (.int _)⟩
    | _ => cases h
  | bl i =>
    cases ry with
    | bl j => cases h; exact .inr ⟨i, j, rfl, rfl, q _ H (Same.refl H) (.int _)⟩
    | _ => cases h
  | _ => cases h
def gInt (C : Int → Int → Bool) (g : Int → Int → PyData) : PyData → PyData → Option PyData
  | .int i, .int j => if C i j = true then some (g i j) else none
  | _, _ => none
theorem op2_int {K : PySem.W.Frag} {P : Int → Int → Prop} {C : Int → Int → Bool} {g : Int → Int → PyData} {gv : Int → Int → V} (hc : ∀ i j, C i j = true → P i j) (hg : ∀ H i j, Rp K H (gv i j) (g i j)) : Op2 K (rI P gv) (gInt C g) := by
  intro H O x y d e z Q hO rx ry h q
  cases rx with
  | int i =>
    cases ry with
    | int j =>
      unfold gInt at h
      dsimp only at h
      by_cases c : C i j = true
      · rw [if_pos c] at h; cases h
        exact ⟨i, j, rfl, rfl, hc i j c, q _ H (Same.refl H) (hg _ i j)⟩
      · rw [if_neg c] at h; cases h
    | _ => cases h
  | _ => cases h
def cMul (i j : Int) : Bool := decide (i.natAbs.log2 + j.natAbs.log2 < 1000000)
def cDiv (_ j : Int) : Bool := decide (0 < j) && decide (j.natAbs.log2 < 9000)
def cMod (_ j : Int) : Bool := decide (0 < j)
abbrev gMul := gInt cMul fun i j => .int (i * j)
abbrev gDiv := gInt cDiv fun i j => .int (i / j)
abbrev gMod := gInt cMod fun i j => .int (i % j)
theorem op2_mul {K : PySem.W.Frag} : Op2 K (rI CMulW fun i j => .int (i * j)) gMul := op2_int (fun i j h => (of_decide_eq_true h : i.natAbs.log2 + j.natAbs.log2 < 1000000)) fun _ _ _ => .int _
theorem op2_div {K : PySem.W.Frag} : Op2 K (rI CDivW fun i j => .int (i / j)) gDiv := op2_int (fun _ _ h => by unfold cDiv at h; rw [Bool.and_eq_true] at h; exact ⟨of_decide_eq_true h.1, of_decide_eq_true h.2⟩) fun _ _ _ => .int _
theorem op2_mod {K : PySem.W.Frag} : Op2 K (rI (fun _ j => 0 < j) fun i j => .int (i % j)) gMod := op2_int (fun _ _ h => of_decide_eq_true h) fun _ _ _ => .int _
def gCmp (p : Int → Int → Bool) : PyData → PyData → Option PyData
  | .int i, .int j => some (.bool (p i j))
  | _, _ => none
theorem op2_cmp {K : PySem.W.Frag} {p : Int → Int → Bool} : Op2 K (rI0 fun i j => .bl (p i j)) (gCmp p) := by
  intro H O x y d e z Q hO rx ry h q
  cases rx with
  | int i =>
    cases ry with
    | int j => cases h; exact ⟨i, j, rfl, rfl, q _ H (Same.refl H) (.bl _)⟩
    | _ => cases h
  | _ => cases h
abbrev gLt := gCmp fun i j => decide (i < j)
abbrev gLe := gCmp fun i j => decide (i ≤ j)
abbrev gGt := gCmp fun i j => decide (j < i)
abbrev gGe := gCmp fun i j => decide (j ≤ i)
def shp (d : PyData) : Bool := d.canLay0 && decide (d.depth ≤ 190)
theorem canLay_of_shp {d : PyData} (h : shp d = true) : d.canLay0 = true := (Bool.and_eq_true_iff.mp h).1
theorem depth_of_shp {d : PyData} (h : shp d = true) : d.depth ≤ 190 := of_decide_eq_true (Bool.and_eq_true_iff.mp h).2
theorem room_of_shp {A : Around} {da db : PyData} (h : shp da = true) (hu : A.units + 190 < cLine) : A.units + min da.depth db.depth < cLine := by
  have h1 := depth_of_shp h
  have h2 : min da.depth db.depth ≤ da.depth := Nat.min_le_left _ _
  omega
theorem _root_.L2.Room.un190 {k : Nat} {A : Around} (r : Room k A) : A.units + 190 < cLine := by have := r.un; omega
def rEqX (K : PySem.W.Frag) : R2 := fun x y H Q => ∃ d e, Dp K H x d ∧ Dp K H y e ∧ shp d = true ∧ shp e = true ∧ Q (.bl (PyData.eqv d e)) H
def rNeX (K : PySem.W.Frag) : R2 := fun x y H Q => ∃ d e, Dp K H x d ∧ Dp K H y e ∧ shp d = true ∧ shp e = true ∧ Q (.bl (!PyData.eqv d e)) H
theorem op_eqX {X : Cx} (hu : X.A.units + 190 < cLine) : OpR X (compareOp .Eq) (rEqX X.K) := by
  intro pins s σ H x y v u Q I rx ry h
  obtain ⟨d, e, hd, he, sd, se, q⟩ := h
  obtain ⟨as, r1⟩ := Dp.reads I d x v hd rx
  obtain ⟨bs, r2⟩ := Dp.reads I e y u he ry
  exact SeqAt.compareEq_reads r1 r2 (canLay_of_shp sd) (canLay_of_shp se) (room_of_shp sd hu) ⟨.bl _, H, I, rfl, q⟩
theorem op_neX {X : Cx} (hu : X.A.units + 190 < cLine) : OpR X (compareOp .NotEq) (rNeX X.K) := by
  intro pins s σ H x y v u Q I rx ry h
  obtain ⟨d, e, hd, he, sd, se, q⟩ := h
  obtain ⟨as, r1⟩ := Dp.reads I d x v hd rx
  obtain ⟨bs, r2⟩ := Dp.reads I e y u he ry
  exact SeqAt.compareNe_reads r1 r2 (canLay_of_shp sd) (canLay_of_shp se) (room_of_shp sd hu) ⟨.bl _, H, I, rfl, q⟩
def gEq (d e : PyData) : Option PyData := if (shp d && shp e) = true then some (.bool (PyData.eqv d e)) else none
def gNe (d e : PyData) : Option PyData := if (shp d && shp e) = true then some (.bool (!PyData.eqv d e)) else none
theorem op2_eq {K : PySem.W.Frag} : Op2 K (rEqX K) gEq := by
  intro H O x y d e z Q hO rx ry h q
  unfold gEq at h
  by_cases c : (shp d && shp e) = true
  · rw [if_pos c] at h; cases h
    rw [Bool.and_eq_true] at c
    exact ⟨d, e, rx.dp (canLay_of_shp c.1) hide_sub, ry.dp (canLay_of_shp c.2) hide_sub, c.1, c.2, q _ H (Same.refl H) (.bl _)⟩
  · rw [if_neg c] at h; cases h
theorem op2_ne {K : PySem.W.Frag} : Op2 K (rNeX K) gNe := by
  intro H O x y d e z Q hO rx ry h q
  unfold gNe at h
  by_cases c : (shp d && shp e) = true
  · rw [if_pos c] at h; cases h
    rw [Bool.and_eq_true] at c
    exact ⟨d, e, rx.dp (canLay_of_shp c.1) hide_sub, ry.dp (canLay_of_shp c.2) hide_sub, c.1, c.2, q _ H (Same.refl H) (.bl _)⟩
  · rw [if_neg c] at h; cases h
def gIx : PyData → PyData → Option PyData
  | .tuple xs, .int i => atI xs i
  | .list xs, .int i => atI xs i
  | .str x, .int i => if x.length ≤ sizeLine then (atI x.cps.toList i).map fun c => .str ⟨#[c]⟩ else none
  | _, _ => none
theorem atI_rps {K : PySem.W.Frag} {H : Hp} {xs : List V} {ds : List PyData} {i : Int} {d : PyData} (r : Rps K H xs ds) (h : atI ds i = some d) : ∃ v, atI xs i = some v ∧ Rp K H v d := by
  unfold atI at h ⊢
  rw [r.length]
  cases e : ixN ds.length i with
  | none => rw [e] at h; cases h
  | some j =>
    rw [e] at h
    exact r.get (i := j) h
theorem op2_ix {K : PySem.W.Frag} : Op2 K (rIx K) gIx := by
  intro H O x y d e z Q hO rx ry h q
  cases rx with
  | @tup a xs ds hx rs =>
    cases ry with
    | int i =>
      obtain ⟨v, h1, h2⟩ := atI_rps rs (show atI ds i = some z from h)
      exact .inr (.inl ⟨a, xs, i, v, rfl, rfl, seqT hide_sub hx, h1, q v H (Same.refl H) h2⟩)
    | _ => cases h
  | @lst a xs ds hx rs =>
    cases ry with
    | int i =>
      obtain ⟨v, h1, h2⟩ := atI_rps rs (show atI ds i = some z from h)
      exact .inl ⟨a, xs, i, v, rfl, rfl, seqL hide_sub hx, h1, q v H (Same.refl H) h2⟩
    | _ => cases h
  | str x =>
    cases ry with
    | int i =>
      unfold gIx at h
      dsimp only at h
      by_cases c : x.length ≤ sizeLine
      · rw [if_pos c] at h
        cases e : atI x.cps.toList i with
        | none => rw [e] at h; cases h
        | some k =>
          rw [e] at h
          cases h
          exact .inr (.inr ⟨x, i, k, rfl, rfl, c, e, q _ H (Same.refl H) (.str _)⟩)
      · rw [if_neg c] at h; cases h
    | _ => cases h
  | _ => cases h
def cutD {α : Type} (xs : List α) (lo hi : Option Int) : List α := (xs.drop (HT.sIx xs.length 0 lo)).take (HT.sIx xs.length xs.length hi - HT.sIx xs.length 0 lo)
def gSl : PyData → Option Int → Option Int → Option PyData
  | .tuple xs, lo, hi => some (.tuple (cutD xs lo hi))
  | .list xs, lo, hi => some (.list (cutD xs lo hi))
  | _, _, _ => none
theorem rps_cut {K : PySem.W.Frag} {H : Hp} {xs : List V} {ds : List PyData} {lo hi : Option Int} (r : Rps K H xs ds) : Rps K H (cutV xs lo hi) (cutD ds lo hi) := by
  unfold cutV cutD
  rw [r.length]
  exact (r.drop _).take _
theorem cut_whole {α : Type} {xs : List α} {lo hi : Option Int} (h : HT.sIx xs.length 0 lo = 0 ∧ HT.sIx xs.length xs.length hi = xs.length) : cutD xs lo hi = xs := by
  unfold cutD
  rw [h.1, h.2]
  simp
section
variable {X : Cx} {W : WX}
def eSl (f : Vars → R PyData) (g h : Vars → R (Option Int)) (ρ : Vars) : R PyData := (f ρ).bind fun d => (g ρ).bind fun l => (h ρ).bind fun u => R.of (gSl d l u)
def oNone (_ : Vars) : R (Option Int) := .ok none
def oSome (f : Vars → R PyData) (ρ : Vars) : R (Option Int) := (f ρ).bind fun d => match d with
  | .int i => .ok (some i)
  | _ => .bad
theorem ox_none : OX X W none oNone := ⟨_, po_none, fun σ H O ρ Q _ _ q => q H (Same.refl H)⟩
theorem ox_some {e : Expr} {f : Vars → R PyData} (h : EX X W e f) : OX X W (some e) (oSome f) := by
  obtain ⟨t, p, ht⟩ := h
  refine ⟨_, po_some p, fun σ H O ρ Q hO hv z => ht σ H O ρ _ hO hv ?_⟩
  unfold oSome at z
  cases q : f ρ with
  | bad => rw [q] at z; exact z
  | err c => rw [q] at z; exact z
  | ok d =>
    rw [q] at z
    intro v H1 s1 r1
    cases r1 with
    | int i => exact ⟨i, rfl, z H1 s1⟩
    | _ => exact z.elim
theorem ex_slice {e : Expr} {lo hi : Option Expr} {f : Vars → R PyData} {g h : Vars → R (Option Int)} {p2 pos : Pos} (he : EX X W e f) (hl : OX X W lo g) (hu : OX X W hi h) : EX X W (.Subscript e (.Slice lo hi none p2) pos) (eSl f g h) := by
  obtain ⟨t, p, ht⟩ := he
  obtain ⟨tl, pl, htl⟩ := hl
  obtain ⟨tu, pu, htu⟩ := hu
  refine ⟨_, pe_slice (sl_tupA.or sl_list) p pl pu, fun σ H O ρ Q hO hv z => ht σ H O ρ _ hO hv (EOut.then (g := fun d => (g ρ).bind fun l => (h ρ).bind fun u => R.of (gSl d l u)) EOut.b EOut.e z fun d v H1 s1 r1 z1 => ?_)⟩
  refine htl σ H1 O ρ _ (hO.same s1) (hv.mono (hide_same s1)) ?_
  cases q1 : g ρ with
  | bad => rw [q1] at z1; exact z1.elim
  | err c => rw [q1] at z1; exact fun H2 s2 => z1 H2 (s1.trans s2)
  | ok l =>
    rw [q1] at z1
    intro H2 s2
    refine htu σ H2 O ρ _ ((hO.same s1).same s2) (hv.mono (hide_same (s1.trans s2))) ?_
    cases q2 : h ρ with
    | bad => rw [q2] at z1; exact z1.elim
    | err c => rw [q2] at z1; exact fun H3 s3 => z1 H3 ((s1.trans s2).trans s3)
    | ok u =>
      rw [q2] at z1
      intro H3 s3
      have r3 := r1.mono (hide_same (O := O) (s2.trans s3))
      have hO3 := (hO.same s1).same (s2.trans s3)
      have s13 : Same H H3 := s1.trans (s2.trans s3)
      cases r3 with
      | @tup a xs ds hx rs =>
        have hx' := seqT (hide_sub (O := O)) hx
        refine .inl ⟨a, xs, rfl, hx', fun w => ?_, fun w p hp => ?_⟩
        · refine z1 _ H3 s13 ?_
          rw [cut_whole (by rw [← rs.length]; exact w)]
          exact .tup hx rs
        · exact z1 _ _ (s13.trans (same_new hp)) (new_rep hO3 hp (rps_cut rs))
      | @lst a xs ds hx rs =>
        refine .inr ⟨a, xs, rfl, seqL hide_sub hx, fun p hp => ?_⟩
        exact z1 _ _ (s13.trans (same_new hp)) (new_repL hO3 hp (rps_cut rs))
      | _ => exact z1.elim
def eNeg (f : Vars → R PyData) (ρ : Vars) : R PyData := (f ρ).bind fun d => match d with
  | .int i => .ok (.int (-i))
  | _ => .bad
theorem ex_neg {a : Expr} {f : Vars → R PyData} {pos : Pos} (h : EX X W a f) : EX X W (.UnaryOp .USub a pos) (eNeg f) := by
  obtain ⟨t, p, ht⟩ := h
  refine ⟨_, pe_un un_neg p, fun σ H O ρ Q hO hv z => ht σ H O ρ _ hO hv ?_⟩
  unfold eNeg at z
  cases q : f ρ with
  | bad => rw [q] at z; exact z
  | err c => rw [q] at z; exact z
  | ok d =>
    rw [q] at z
    intro v H1 s1 r1
    cases r1 with
    | int i => exact ⟨i, rfl, z _ H1 s1 (.int _)⟩
    | _ => exact z.elim
def CallD (K : PySem.W.Frag) (r : List V → Hp → VK → Prop) (g : List PyData → Option PyData) : Prop :=
  ∀ (H : Hp) (O : List Addr) (xs : List V) (ds : List PyData) (z : PyData) (Q : VK), Stands O H → Rps K (hide O H) xs ds → g ds = some z → (∀ v H', Same H H' → Rp K (hide O H') v z → Q v H') → r xs H Q
def eCall (g : List PyData → Option PyData) (f : Vars → R (List PyData)) (ρ : Vars) : R PyData := (f ρ).bind fun ds => R.of (g ds)
theorem call_run {r : List V → Hp → VK → Prop} {g : List PyData → Option PyData} (ho : CallD X.K r g) {ta : TA} {f : Vars → R (List PyData)}
    (ha : ∀ σ H O ρ Q, Stands O H → VRel X.K (hide O H) σ ρ → AOut X W O σ H Q (f ρ) → ta σ H Q) :
    ∀ σ H O ρ Q, Stands O H → VRel X.K (hide O H) σ ρ → EOut X W O σ H Q (eCall g f ρ) → tCB r ta σ H Q := fun σ H O ρ Q hO hr z =>
  ha σ H O ρ _ hO hr (AOut.then (g := fun ds => R.of (g ds)) EOut.b EOut.e z fun ds vs H1 s1 r1 z1 => by
    cases q : g ds with
    | none => rw [q] at z1; exact z1.elim
    | some w =>
      rw [q] at z1
      exact ho H1 O vs ds w Q (hO.same s1) r1 q fun v H2 s2 r2 => z1 v H2 (s1.trans s2) r2)
theorem ex_callB {id : String} {x : Str} {r : List V → Hp → VK → Prop} {g : List PyData → Option PyData} {e : Expr} {es : List Expr} {f : Vars → R (List PyData)} {p pos : Pos} (hc : CallR X (.builtin id) r) (ho : CallD X.K r g) (hg : Gl X x) (hm : X.mg x = none) (hv : bootBuiltins x = some (.builtin id)) (ha : AX X W (e :: es) f)
    (hn : x ≠ "__name__" := by decide) (hdb : (x == ("__debug__" : Str)) = false := by decide)
    (he : starEach (e :: es) X.env = (false, eval e X.env) :: starEach es X.env := by rfl) (hpl : (backTo pos (starEach es X.env)).any (·.1) = false := by rfl) : EX X W (.Call (.Name x p) (e :: es) [] pos) (eCall g f) := by
  obtain ⟨t, q, ht⟩ := ha
  exact ⟨_, pe_callB hc hg hm hv q hn hdb he hpl, call_run ho ht⟩
theorem ex_callT {T : String} {x : Str} {r : List V → Hp → VK → Prop} {g : List PyData → Option PyData} {e : Expr} {es : List Expr} {f : Vars → R (List PyData)} {p pos : Pos} (hc : CallR X (.type T) r) (ho : CallD X.K r g) (hg : Gl X x) (hm : X.mg x = none) (hv : bootBuiltins x = some (.type T)) (ha : AX X W (e :: es) f)
    (hn : x ≠ "__name__" := by decide) (hdb : (x == ("__debug__" : Str)) = false := by decide)
    (he : starEach (e :: es) X.env = (false, eval e X.env) :: starEach es X.env := by rfl) (hpl : (backTo pos (starEach es X.env)).any (·.1) = false := by rfl) : EX X W (.Call (.Name x p) (e :: es) [] pos) (eCall g f) := by
  obtain ⟨t, q, ht⟩ := ha
  exact ⟨_, pe_callTy hc hg hm hv q hn hdb he hpl, call_run ho ht⟩
end
def gLen : List PyData → Option PyData
  | [.tuple xs] => some (.int xs.length)
  | [.list xs] => some (.int xs.length)
  | [.str x] => if x.length ≤ sizeLine then some (.int x.length) else none
  | _ => none
theorem rps_one {K : PySem.W.Frag} {H : Hp} {vs : List V} {d : PyData} (r : Rps K H vs [d]) : ∃ v, vs = [v] ∧ Rp K H v d := by
  cases r with
  | cons h t => cases t; exact ⟨_, rfl, h⟩
theorem rps_two {K : PySem.W.Frag} {H : Hp} {vs : List V} {d e : PyData} (r : Rps K H vs [d, e]) : ∃ v w, vs = [v, w] ∧ Rp K H v d ∧ Rp K H w e := by
  cases r with
  | cons h t => cases t with | cons h2 t => cases t; exact ⟨_, _, rfl, h, h2⟩
theorem calld_len {K : PySem.W.Frag} : CallD K (fun xs H Q => ∃ x n, xs = [x] ∧ LenV K x H n ∧ Q (.int n) H) gLen := by
  intro H O xs ds z Q hO r h q
  unfold gLen at h
  split at h
  · cases h
    obtain ⟨v, rfl, rv⟩ := rps_one r
    cases rv with
    | tup hx rs => rw [← rs.length] at q; exact ⟨_, _, rfl, .inr ⟨_, seqT hide_sub hx, rfl⟩, q _ H (Same.refl H) (.int _)⟩
  · cases h
    obtain ⟨v, rfl, rv⟩ := rps_one r
    cases rv with
    | lst hx rs => rw [← rs.length] at q; exact ⟨_, _, rfl, .inl ⟨_, seqL hide_sub hx, rfl⟩, q _ H (Same.refl H) (.int _)⟩
  · rename_i x
    by_cases c : x.length ≤ sizeLine
    · rw [if_pos c] at h; cases h
      obtain ⟨v, rfl, rv⟩ := rps_one r
      cases rv
      exact ⟨_, _, rfl, ⟨c, rfl⟩, q _ H (Same.refl H) (.int _)⟩
    · rw [if_neg c] at h; cases h
  · cases h
def gTuple : List PyData → Option PyData
  | [.tuple xs] => some (.tuple xs)
  | [.list xs] => some (.tuple xs)
  | _ => none
theorem calld_tuple {K : PySem.W.Frag} : CallD K (fun xs H Q => ∃ p ys, xs = [.ref p] ∧ ((SqL K H p ys ∧ ∀ l, H l = none → Q (.ref l) (upd H l (.tup ys))) ∨ (SqT K H p ys ∧ Q (.ref p) H))) gTuple := by
  intro H O xs ds z Q hO r h q
  unfold gTuple at h
  split at h
  · cases h
    obtain ⟨v, rfl, rv⟩ := rps_one r
    cases rv with
    | tup hx rs => exact ⟨_, _, rfl, .inr ⟨seqT hide_sub hx, q _ H (Same.refl H) (.tup hx rs)⟩⟩
  · cases h
    obtain ⟨v, rfl, rv⟩ := rps_one r
    cases rv with
    | lst hx rs => exact ⟨_, _, rfl, .inl ⟨seqL hide_sub hx, fun l hl => q _ _ (same_new hl) (new_rep hO hl rs)⟩⟩
  · cases h
def gIntC : List PyData → Option PyData
  | [.int i] => some (.int i)
  | [.bool b] => some (.int (if b then 1 else 0))
  | _ => none
theorem calld_int {K : PySem.W.Frag} : CallD K (fun xs H Q => (∃ i, xs = [.int i] ∧ Q (.int i) H) ∨ ∃ k, xs = [.bl k] ∧ Q (.int (if k then 1 else 0)) H) gIntC := by
  intro H O xs ds z Q hO r h q
  unfold gIntC at h
  split at h
  · cases h
    obtain ⟨v, rfl, rv⟩ := rps_one r
    cases rv
    exact .inl ⟨_, rfl, q _ H (Same.refl H) (.int _)⟩
  · cases h
    obtain ⟨v, rfl, rv⟩ := rps_one r
    cases rv
    exact .inr ⟨_, rfl, q _ H (Same.refl H) (.int _)⟩
  · cases h
def gMin2 : List PyData → Option PyData
  | [.int i, .int j] => some (.int (if j < i then j else i))
  | _ => none
theorem calld_min2 {K : PySem.W.Frag} : CallD K (fun xs H Q => ∃ i j, xs = [.int i, .int j] ∧ Q (.int (if j < i then j else i)) H) gMin2 := by
  intro H O xs ds z Q hO r h q
  unfold gMin2 at h
  split at h
  · cases h
    obtain ⟨v, w, rfl, rv, rw'⟩ := rps_two r
    cases rv
    cases rw'
    exact ⟨_, _, rfl, q _ H (Same.refl H) (.int _)⟩
  · cases h
def intsOf : List PyData → Option (List Int)
  | [] => some []
  | .int i :: r => (intsOf r).map fun ns => i :: ns
  | _ => none
theorem intsOf_eq : ∀ {ds : List PyData} {ns : List Int}, intsOf ds = some ns → ds = ns.map PyData.int
  | [], ns, h => by cases h; rfl
  | .int i :: r, ns, h => by
    unfold intsOf at h
    cases e : intsOf r with
    | none => rw [e] at h; cases h
    | some ms => rw [e] at h; cases h; rw [intsOf_eq e]; rfl
  | .none :: _, _, h => by cases h
  | .bool _ :: _, _, h => by cases h
  | .str _ :: _, _, h => by cases h
  | .list _ :: _, _, h => by cases h
  | .tuple _ :: _, _, h => by cases h
  | .dict _ :: _, _, h => by cases h
theorem intsOf_map : ∀ ns : List Int, intsOf (ns.map PyData.int) = some ns
  | [] => rfl
  | n :: ns => by
    show (intsOf (ns.map PyData.int)).map _ = _
    rw [intsOf_map ns]; rfl
def gSum : List PyData → Option PyData
  | [.list ds] => (intsOf ds).map fun ns => .int ns.sum
  | _ => none
theorem calld_sum {K : PySem.W.Frag} : CallD K (rSum K) gSum := by
  intro H O xs ds z Q hO r h q
  unfold gSum at h
  split at h
  · rename_i ds
    cases e : intsOf ds with
    | none => rw [e] at h; cases h
    | some ns =>
      rw [e] at h; cases h
      obtain ⟨v, rfl, rv⟩ := rps_one r
      have e2 := intsOf_eq e
      subst e2
      cases rv with
      | lst hx rs =>
        have e3 := rs.ints
        subst e3
        exact ⟨_, ns, rfl, seqL hide_sub hx, q _ H (Same.refl H) (.int _)⟩
  · cases h
def fnB : PyData → Bool
  | .dict [(.none, .list _)] => true
  | .dict [(.none, .dict _)] => true
  | .dict [(.none, .bool _), _] => true
  | _ => false
def insB : List (PyData × PyData) → Bool
  | (.none, _) :: _ => true
  | _ => false
def isiB (T : String) (d : PyData) : Bool := match d with
  | .none => false
  | .bool _ => T == "bool" || T == "int"
  | .int _ => T == "int"
  | .str _ => T == "str"
  | .list _ => T == "list"
  | .tuple _ => T == "tuple"
  | .dict kvs => T == "dict" && !insB kvs
def kitAll (T : String) : Bool := (["int", "bool", "str", "list", "tuple", "dict"] : List String).contains T && (decide (kitB "NoneType" T = some false) && decide (kitB "bool" T = some (T == "bool" || T == "int")) && decide (kitB "int" T = some (T == "int")) && decide (kitB "str" T = some (T == "str")) && decide (kitB "list" T = some (T == "list")) && decide (kitB "tuple" T = some (T == "tuple")) && decide (kitB "dict" T = some (T == "dict")))
theorem kit_int : kitAll "int" = true := by decide +kernel
theorem kit_bool : kitAll "bool" = true := by decide +kernel
theorem kit_tuple : kitAll "tuple" = true := by decide +kernel
theorem kit_is {K : PySem.W.Frag} {H : Hp} {v : V} {d : PyData} {T : String} (h : kitAll T = true) (r : Rp K H v d) (nf : fnB d = false) : ∃ t, TyX K H v t ∧ PySem.W.kitOne K t (.type T) = some (isiB T d) := by
  unfold kitAll at h
  rw [Bool.and_eq_true] at h
  have hm := List.contains_iff_mem.mp h.1
  replace h := h.2
  simp only [Bool.and_eq_true, decide_eq_true_eq] at h
  obtain ⟨⟨⟨⟨⟨⟨h1, h2⟩, h3⟩, h4⟩, h5⟩, h6⟩, h7⟩ := h
  cases r with
  | fn _ => cases nf
  | fn0 => cases nf
  | dct => cases nf
  | tpx => cases nf
  | non => exact ⟨_, .base .non, kit_ty h1⟩
  | bl b => exact ⟨_, .base (.bl b), kit_ty h2⟩
  | int b => exact ⟨_, .base (.int b), kit_ty h3⟩
  | str b => exact ⟨_, .base (.str b), kit_ty h4⟩
  | lst h _ =>
    rcases h with (h | ⟨o, h⟩) | ⟨o, its, n, h, hc, _⟩
    · exact ⟨_, .base (.lst h), kit_ty h5⟩
    · exact ⟨_, .base (.frz h), kit_ty h5⟩
    · exact ⟨_, .kList h hc, kit_ty h5⟩
  | tup h _ =>
    rcases h with (h | ⟨o, h⟩) | ⟨o, its, n, h, hc, _⟩
    · exact ⟨_, .base (.tup h), kit_ty h6⟩
    · exact ⟨_, .fTuple h, kit_ty h6⟩
    · exact ⟨_, .kTuple h hc, kit_ty h6⟩
  | dic h r =>
    refine ⟨.type "dict", by rcases h with h | ⟨o, h⟩; exact .base (.dK h); exact .fDict h, ?_⟩
    have e : ∀ ds, insB ds = false → isiB T (.dict ds) = (T == "dict") := fun ds e => by show (T == "dict" && !insB ds) = _; rw [e]; simp
    cases r with
    | nil => rw [e _ rfl]; exact kit_ty h7
    | @cons k _ _ _ _ _ _ => cases k <;> rw [e _ rfl] <;> exact kit_ty h7
  | ins h _ c _ =>
    refine ⟨_, .base (.ins h c.cl c.ha c.hn c.htk c.hm), ?_⟩
    have e : ∀ b : PyData, isiB T (.dict [(.none, b)]) = false := fun b => by show (T == "dict" && !true) = false; simp
    rw [e]
    exact c.no T hm
section
variable {X : Cx} {W : WX}
def gIsi (T : String) (d : PyData) : R PyData := if fnB d = true then .bad else .ok (.bool (isiB T d))
@[simp] theorem gIsi_non (T : String) : gIsi T .none = .ok (.bool (isiB T .none)) := rfl
@[simp] theorem gIsi_bl (T : String) (b : Bool) : gIsi T (.bool b) = .ok (.bool (isiB T (.bool b))) := rfl
@[simp] theorem gIsi_int (T : String) (b : Int) : gIsi T (.int b) = .ok (.bool (isiB T (.int b))) := rfl
@[simp] theorem gIsi_str (T : String) (b : Str) : gIsi T (.str b) = .ok (.bool (isiB T (.str b))) := rfl
@[simp] theorem gIsi_lst (T : String) (b : List PyData) : gIsi T (.list b) = .ok (.bool (isiB T (.list b))) := rfl
@[simp] theorem gIsi_tup (T : String) (b : List PyData) : gIsi T (.tuple b) = .ok (.bool (isiB T (.tuple b))) := rfl
theorem fnB_ins {ds : List (PyData × PyData)} (h : insB ds = false) : fnB (.dict ds) = false := by
  cases ds with
  | nil => rfl
  | cons p r =>
    obtain ⟨k, v⟩ := p
    cases k <;> first | rfl | (cases h)
@[simp] theorem gIsi_dict (T : String) {ds : List (PyData × PyData)} (h : insB ds = false) : gIsi T (.dict ds) = .ok (.bool (isiB T (.dict ds))) := by
  unfold gIsi
  rw [fnB_ins h]; rfl
@[simp] theorem gIsi_ins (T : String) (x : List PyData) : gIsi T (.dict [(.none, .tuple x)]) = .ok (.bool (isiB T (.dict [(.none, .tuple x)]))) := rfl
theorem gIsi_no {T : String} {d : PyData} (h : fnB d = false) : gIsi T d = .ok (.bool (isiB T d)) := by
  unfold gIsi
  rw [h]; rfl
@[simp] theorem gIsi_t {T : String} {d : PyData} (h : isiB T d = true) : gIsi T d = .ok (.bool true) := by
  cases d with
  | dict ds =>
    have : insB ds = false := by
      unfold isiB at h
      simp at h
      exact h.2
    rw [gIsi_dict T this, h]
  | _ => simp [h]
def eIsi (T : String) (f : Vars → R PyData) (ρ : Vars) : R PyData := (f ρ).bind fun d => gIsi T d
theorem ex_isi {T : String} {x : Str} {a : Expr} {f : Vars → R PyData} {p p2 pos : Pos} (hk : kitAll T = true) (hg : Gl X "isinstance") (hm : X.mg "isinstance" = none) (hgT : Gl X x) (hmT : X.mg x = none) (hvT : bootBuiltins x = some (.type T)) (ha : EX X W a f)
    (hn : x ≠ "__name__" := by decide) (hdb : (x == ("__debug__" : Str)) = false := by decide)
    (he : starEach [a, .Name x p2] X.env = (false, eval a X.env) :: starEach [.Name x p2] X.env := by rfl) (hpl : (backTo pos (starEach [.Name x p2] X.env)).any (·.1) = false := by rfl)
    (he2 : starEach [.Name x p2] X.env = (false, eval (.Name x p2) X.env) :: starEach [] X.env := by rfl) : EX X W (.Call (.Name "isinstance" p) [a, .Name x p2] [] pos) (eIsi T f) := by
  obtain ⟨t, q, ht⟩ := ha
  refine ⟨_, pe_callB call_isi hg hm (by decide +kernel) (pa_cons q (pa_cons (pe_bltn (v := .ty T) hgT hmT hvT rfl hn hdb) pa_nil he2) he) (by decide) (by decide) he hpl, fun σ H O ρ Q hO hv z => ht σ H O ρ _ hO hv (EOut.then (g := fun d => gIsi T d) EOut.b EOut.e z fun d v H1 s1 r1 z1 => ?_)⟩
  cases nf : fnB d with
  | true => unfold gIsi at z1; rw [if_pos nf] at z1; exact z1.elim
  | false =>
  rw [gIsi_no nf] at z1
  obtain ⟨ty, k1, k2⟩ := kit_is hk (r1.mono hide_sub) nf
  exact ⟨v, .ty T, _, _, _, rfl, .ty T, k1, k2, z1 _ H1 s1 (.bl _)⟩
end
end Pu
set_option Elab.async false
set_option linter.all false
set_option maxRecDepth 100000
set_option maxHeartbeats 4000000
namespace Pu
open PySem PySem.Spec PyProof.Rows L2
def SpOut (K : PySem.W.Frag) (mg : Str → Option Value) (O : List Addr) (H : Hp) (Q : VK) (E : XK) : R PyData → Prop
  | .ok d => ∀ v H', Same H H' → Rp K (hide O H') v d → Q v H'
  | .err c => ∀ H', Same H H' → E (exV mg c) none H'
  | .bad => False
def spD (K : PySem.W.Frag) (mg : Str → Option Value) (n : Nat) (f : List PyData → R PyData) : Sp := fun vs H Q E =>
  vs.length = n ∧ ∃ O ds, Stands O H ∧ Rps K (hide O H) vs ds ∧ SpOut K mg O H Q E (f ds)
def Cal (P : Program) (w : World) (K : PySem.W.Frag) (mg : Str → Option Value) (base : Heap) (k : Nat) (x : Str) (n : Nat) (f : List PyData → R PyData) : Prop :=
  ∃ (fa : Addr) (fd : FuncData) (ps : List Str), ps.length = n ∧ FnOk P w K mg base (L2.CX P w) k fa fd ps (spD K mg n f) ∧ mg x = some (.ref fa) ∧ PySem.W.keepIn K (.ref fa) = true ∧ Binds K fd ps []
theorem Cal.mono {P : Program} {w : World} {K : PySem.W.Frag} {mg : Str → Option Value} {base : Heap} {k k' n : Nat} {x : Str} {f : List PyData → R PyData} (h : Cal P w K mg base k x n f) (l : k ≤ k') : Cal P w K mg base k' x n f := by
  obtain ⟨fa, fd, ps, h1, h2, h3⟩ := h
  exact ⟨fa, fd, ps, h1, h2.mono l, h3⟩
def eFn (g : List PyData → R PyData) (f : Vars → R (List PyData)) (ρ : Vars) : R PyData := (f ρ).bind g
section
variable {X : Cx} {W : WX}
theorem ex_fn {k n : Nat} {x : Str} {g : List PyData → R PyData} {e : Expr} {es : List Expr} {f : Vars → R (List PyData)} {p pos : Pos} (tk : Takes X W) (F : Cal X.prog X.w X.K X.mg X.base k x n g) (hr : Room k X.A) (hg : Gl X x) (ha : AX X W (e :: es) f) (hn : es.length + 1 = n)
    (hdb : (x == ("__debug__" : Str)) = false := by decide) (he : starEach (e :: es) X.env = (false, eval e X.env) :: starEach es X.env := by rfl) (hpl : (backTo pos (starEach es X.env)).any (·.1) = false := by rfl) (hlen : ∀ ρ ds, f ρ = .ok ds → ds.length = n) :
    EX X W (.Call (.Name x p) (e :: es) [] pos) (eFn g f) := by
  obtain ⟨fa, fd, ps, h1, h2, h3, h4, h5⟩ := F
  obtain ⟨t, q, ht⟩ := ha
  refine ⟨_, pe_callS h2 hr hg h3 h4 h5 (fun σ => passAt tk σ) q hdb he hpl, fun σ H O ρ Q hO hv z => ht σ H O ρ _ hO hv ?_⟩
  unfold eFn at z
  cases e1 : f ρ with
  | bad => rw [e1] at z; exact z
  | err c => rw [e1] at z; exact z
  | ok ds =>
    rw [e1] at z
    intro vs H1 s1 r1
    refine ⟨by rw [r1.length]; exact hlen ρ ds e1, O, ds, hO.same s1, r1, ?_⟩
    cases e2 : g ds with
    | bad => rw [R.bind_ok, e2] at z; exact z.elim
    | err c => rw [R.bind_ok, e2] at z; exact fun H' s' => z H' (s1.trans s')
    | ok d => rw [R.bind_ok, e2] at z; exact fun v H' s' r' => z v H' (s1.trans s') r'
theorem aNil_len {ρ : Vars} {ds : List PyData} (h : aNil ρ = .ok ds) : ds.length = 0 := by cases h; rfl
theorem aCons_len {f : Vars → R PyData} {g : Vars → R (List PyData)} {n : Nat} (h : ∀ ρ ds, g ρ = .ok ds → ds.length = n) : ∀ ρ ds, aCons f g ρ = .ok ds → ds.length = n + 1 := fun ρ ds e => by
  unfold aCons at e
  cases e1 : f ρ with
  | bad => rw [e1] at e; cases e
  | err c => rw [e1] at e; cases e
  | ok d =>
    rw [e1, R.bind_ok] at e
    cases e2 : g ρ with
    | bad => rw [e2] at e; cases e
    | err c => rw [e2] at e; cases e
    | ok ds' => rw [e2] at e; cases e; rw [List.length_cons, h ρ ds' e2]
end
def maskF (own : List Nat) : Nat → Vars → Vars
  | _, [] => []
  | k, x :: r => (if own.contains k = true then none else x) :: maskF own (k + 1) r
abbrev mask (own : List Nat) (ρ : Vars) : Vars := maskF own 0 ρ
theorem maskF_len (own : List Nat) : ∀ (k : Nat) (ρ : Vars), (maskF own k ρ).length = ρ.length
  | _, [] => rfl
  | k, x :: r => by unfold maskF; rw [List.length_cons, List.length_cons, maskF_len own (k + 1) r]
theorem maskF_get (own : List Nat) : ∀ (k : Nat) (ρ : Vars) (i : Nat), (maskF own k ρ)[i]? = if k + i ∈ own then (ρ[i]?).map fun _ => none else ρ[i]?
  | k, [], i => by simp [maskF]
  | k, x :: r, 0 => by
    unfold maskF
    by_cases c : k ∈ own <;> simp [c]
  | k, x :: r, i + 1 => by
    unfold maskF
    rw [List.getElem?_cons_succ, List.getElem?_cons_succ, maskF_get own (k + 1) r i, show k + 1 + i = k + (i + 1) by omega]
theorem mask_some {own : List Nat} {ρ : Vars} {i : Nat} {d : PyData} (h : (mask own ρ)[i]? = some (some d)) : i ∉ own ∧ ρ[i]? = some (some d) := by
  unfold mask at h
  rw [maskF_get, Nat.zero_add] at h
  by_cases c : i ∈ own
  · rw [if_pos c] at h
    cases e : ρ[i]? <;> rw [e] at h <;> cases h
  · rw [if_neg c] at h; exact ⟨c, h⟩
theorem mask_of {own : List Nat} {ρ : Vars} {i : Nat} {d : PyData} (c : i ∉ own) (h : ρ[i]? = some (some d)) : (mask own ρ)[i]? = some (some d) := by
  unfold mask
  rw [maskF_get, Nat.zero_add, if_neg c]; exact h
theorem mask_set {own : List Nat} {ρ : Vars} {i : Nat} {x : Option PyData} (c : i ∉ own) : mask own (ρ.set i x) = (mask own ρ).set i x := by
  apply List.ext_getElem?
  intro j
  unfold mask
  rw [maskF_get, Nat.zero_add]
  by_cases z : i = j
  · subst z
    rw [if_neg c]
    by_cases hl : i < ρ.length
    · rw [List.getElem?_set_self hl, List.getElem?_set_self (by rw [maskF_len]; exact hl)]
    · rw [List.getElem?_eq_none (by simpa using hl), List.getElem?_eq_none (by simp [maskF_len]; omega)]
  · rw [List.getElem?_set_ne z, List.getElem?_set_ne z, maskF_get, Nat.zero_add]
section
variable (X : Cx)
structure GtOk (js : List Nat) (gt : PyData → Vars → Option Vars) : Prop where
  len : ∀ d ρ ρ', gt d ρ = some ρ' → ρ'.length = ρ.length
  msk : ∀ own d ρ ρ', (∀ j ∈ js, j ∉ own) → gt d ρ = some ρ' → gt d (mask own ρ) = some (mask own ρ')
structure GtsOk (js : List Nat) (gt : List PyData → Vars → Option Vars) : Prop where
  len : ∀ d ρ ρ', gt d ρ = some ρ' → ρ'.length = ρ.length
  msk : ∀ own d ρ ρ', (∀ j ∈ js, j ∉ own) → gt d ρ = some ρ' → gt d (mask own ρ) = some (mask own ρ')
def GX (tg : Expr) (js : List Nat) (gt : PyData → Vars → Option Vars) : Prop := GtOk js gt ∧
  ∃ g, PG X tg g ∧ ∀ v d σ H O ρ ρ' Q, Stands O H → VRel X.K (hide O H) σ ρ → Rp X.K (hide O H) v d → gt d ρ = some ρ' →
    (∀ σ', VRel X.K (hide O H) σ' ρ' → σ'.length = σ.length → (∀ j : Nat, j ∉ js → σ'[j]? = σ[j]? ∧ ρ'[j]? = ρ[j]?) → Q σ' H) → g v σ H Q
def GsX (ts : List Expr) (js : List Nat) (gt : List PyData → Vars → Option Vars) : Prop := GtsOk js gt ∧
  ∃ g, PGs X ts g ∧ ∀ vs ds σ H O ρ ρ' Q, Stands O H → VRel X.K (hide O H) σ ρ → Rps X.K (hide O H) vs ds → gt ds ρ = some ρ' →
    (∀ σ', VRel X.K (hide O H) σ' ρ' → σ'.length = σ.length → (∀ j : Nat, j ∉ js → σ'[j]? = σ[j]? ∧ ρ'[j]? = ρ[j]?) → Q σ' H) → g vs σ H Q
end
def gtName (i : Nat) (d : PyData) (ρ : Vars) : Option Vars := some (ρ.set i (some d))
def gtNil (ds : List PyData) (ρ : Vars) : Option Vars := match ds with
  | [] => some ρ
  | _ => none
def gtCons (g : PyData → Vars → Option Vars) (h : List PyData → Vars → Option Vars) (ds : List PyData) (ρ : Vars) : Option Vars := match ds with
  | d :: r => (g d ρ).bind fun ρ' => h r ρ'
  | [] => none
def gtTup (n : Nat) (h : List PyData → Vars → Option Vars) (d : PyData) (ρ : Vars) : Option Vars := match d with
  | .tuple ds => if ds.length = n then h ds ρ else none
  | _ => none
theorem gtName_ok (i : Nat) : GtOk [i] (gtName i) where
  len := fun d ρ ρ' e => by cases e; simp
  msk := fun own d ρ ρ' h e => by cases e; unfold gtName; rw [mask_set (h i (by simp))]
theorem gtNil_ok : GtsOk [] gtNil where
  len := fun d ρ ρ' e => by cases d <;> cases e; rfl
  msk := fun own d ρ ρ' h e => by cases d <;> cases e; rfl
theorem gtCons_ok {js ks : List Nat} {g : PyData → Vars → Option Vars} {h : List PyData → Vars → Option Vars} (a : GtOk js g) (b : GtsOk ks h) : GtsOk (js ++ ks) (gtCons g h) where
  len := fun d ρ ρ' e => by
    cases d with
    | nil => cases e
    | cons d r =>
      have e' : (g d ρ).bind (fun ρ' => h r ρ') = some ρ' := e
      cases e1 : g d ρ with
      | none => rw [e1] at e'; cases e'
      | some ρ1 => rw [e1] at e'; rw [b.len r ρ1 ρ' e', a.len d ρ ρ1 e1]
  msk := fun own d ρ ρ' hj e => by
    cases d with
    | nil => cases e
    | cons d r =>
      have e' : (g d ρ).bind (fun ρ' => h r ρ') = some ρ' := e
      cases e1 : g d ρ with
      | none => rw [e1] at e'; cases e'
      | some ρ1 =>
        rw [e1] at e'
        show (g d (mask own ρ)).bind (fun ρ' => h r ρ') = _
        rw [a.msk own d ρ ρ1 (fun j hh => hj j (List.mem_append_left _ hh)) e1]
        exact b.msk own r ρ1 ρ' (fun j hh => hj j (List.mem_append_right _ hh)) e'
theorem gtTup_ok {n : Nat} {js : List Nat} {h : List PyData → Vars → Option Vars} (b : GtsOk js h) : GtOk js (gtTup n h) where
  len := fun d ρ ρ' e => by
    cases d <;> try cases e
    rename_i ds
    unfold gtTup at e
    dsimp only at e
    by_cases c : ds.length = n
    · rw [if_pos c] at e; exact b.len _ _ _ e
    · rw [if_neg c] at e; cases e
  msk := fun own d ρ ρ' hj e => by
    cases d <;> try cases e
    rename_i ds
    unfold gtTup at e ⊢
    dsimp only at e ⊢
    by_cases c : ds.length = n
    · rw [if_pos c] at e ⊢; exact b.msk _ _ _ _ hj e
    · rw [if_neg c] at e; cases e
section
variable {X : Cx}
theorem gx_name {i : Nat} {x : Str} {pos : Pos} (hN : X.N.Nodup) (hi : X.N[i]? = some x) (hx : Loc X.env.scope x) (hf : X.fn x = true ∨ X.env.scope.names.lookup x = some .local := by first | exact .inl rfl | exact .inr rfl | assumption) : GX X (.Name x pos) [i] (gtName i) := by
  refine ⟨gtName_ok i, _, pg_name hN hi hx hf, fun v d σ H O ρ ρ' Q hO hv r e k => ?_⟩
  cases e
  refine k _ (hv.set r) (by simp) fun j hj => ?_
  have c : i ≠ j := fun e => hj (by simp [e])
  exact ⟨by rw [List.getElem?_set_ne c], by rw [List.getElem?_set_ne c]⟩
theorem gsx_nil : GsX X [] [] gtNil := by
  refine ⟨gtNil_ok, _, pgs_nil, fun vs ds σ H O ρ ρ' Q hO hv r e k => ?_⟩
  cases r with
  | nil => cases e; exact ⟨rfl, k σ hv rfl fun _ _ => ⟨rfl, rfl⟩⟩
  | cons _ _ => cases e
theorem gsx_cons {e : Expr} {es : List Expr} {js ks : List Nat} {g : PyData → Vars → Option Vars} {h : List PyData → Vars → Option Vars} (hg : GX X e js g) (hh : GsX X es ks h) (hs : (assignEach (e :: es) X.env).map (·.2) = assign e X.env :: (assignEach es X.env).map (·.2) := by rfl) : GsX X (e :: es) (js ++ ks) (gtCons g h) := by
  obtain ⟨a, t, p, ht⟩ := hg
  obtain ⟨b, u, q, hu⟩ := hh
  refine ⟨gtCons_ok a b, _, pgs_cons p q hs, fun vs ds σ H O ρ ρ' Q hO hv r e k => ?_⟩
  cases r with
  | nil => cases e
  | @cons v vs d ds r rs =>
    have e' : (g d ρ).bind (fun ρ' => h ds ρ') = some ρ' := e
    cases e1 : g d ρ with
    | none => rw [e1] at e'; cases e'
    | some ρ1 =>
      rw [e1] at e'
      refine ⟨v, vs, rfl, ht v d σ H O ρ ρ1 _ hO hv r e1 fun σ1 v1 m1 f1 => hu vs ds σ1 H O ρ1 ρ' Q hO v1 rs e' fun σ2 v2 m2 f2 => k σ2 v2 (m2.trans m1) fun j hj => ?_⟩
      have h1 := f1 j (fun z => hj (List.mem_append_left _ z))
      have h2 := f2 j (fun z => hj (List.mem_append_right _ z))
      exact ⟨h2.1.trans h1.1, h2.2.trans h1.2⟩
theorem gx_tup {es : List Expr} {k n : Nat} {js : List Nat} {h : List PyData → Vars → Option Vars} {pos : Pos} (hc : X.calm = true) (hh : GsX X es js h) (hn : (assignEach es X.env).length = n := by rfl) (hst : (assignEach es X.env).findIdx? (·.1) = none := by rfl) : GX X (.Tuple es k pos) js (gtTup n h) := by
  obtain ⟨b, u, q, hu⟩ := hh
  refine ⟨gtTup_ok b, _, pg_tup hc q hn hst, fun v d σ H O ρ ρ' Q hO hv r e kk => ?_⟩
  cases r with
  | @tup a xs ds hx rs =>
    unfold gtTup at e
    dsimp only at e
    by_cases c : ds.length = n
    · rw [if_pos c] at e
      exact ⟨a, xs, rfl, seqT hide_sub hx, by rw [rs.length]; exact c, hu xs ds σ H O ρ ρ' Q hO hv rs e kk⟩
    · rw [if_neg c] at e; cases e
  | _ => cases e
def tG (X : Cx) (js : List Nat) (gt : PyData → Vars → Option Vars) : TG := fun v σ H Q => ∃ d O ρ ρ', Stands O H ∧ VRel X.K (hide O H) σ ρ ∧ Rp X.K (hide O H) v d ∧ gt d ρ = some ρ' ∧
  ∀ σ', VRel X.K (hide O H) σ' ρ' → σ'.length = σ.length → (∀ j : Nat, j ∉ js → σ'[j]? = σ[j]? ∧ ρ'[j]? = ρ[j]?) → Q σ' H
theorem GX.pg {tg : Expr} {js : List Nat} {gt : PyData → Vars → Option Vars} (h : GX X tg js gt) : PG X tg (tG X js gt) := by
  obtain ⟨_, t, p, ht⟩ := h
  exact ⟨fun pins s σ H v u Q I r ⟨d, O, ρ, ρ', h1, h2, h3, h4, h5⟩ => p.run pins s σ H v u Q I r (ht v d σ H O ρ ρ' Q h1 h2 h3 h4 h5)⟩
end
def IterOk (K : PySem.W.Frag) (J : It) (F : Hp) (ds : List PyData) : Prop := ∀ (i : Nat) (H : Hp) (O : List Addr), Stands O H → Same F (hide O H) →
  (∀ d, ds[i]? = some d → J.go i H ∧ ∀ x H', J.yld i H x H' → Same H H' ∧ Rp K (hide O H') x d) ∧ (ds.length ≤ i → J.stop i H)
def IX (X : Cx) (W : WX) (tg e : Expr) (f : Vars → R (List PyData)) : Prop :=
  ∃ wi, PI X tg e wi ∧ ∀ σ H O ρ (Q : It → Hp → Prop), Stands O H → VRel X.K (hide O H) σ ρ →
    (match f ρ with
      | .ok ds => ∀ J H', Same H H' → IterOk X.K J (hide O H') ds → Q J H'
      | .err c => ∀ H', Same H H' → W (exV X.mg c) none σ H'
      | .bad => False) → wi σ H Q
section
variable {X : Cx} {W : WX} {tg : Expr}
theorem iterL {K : PySem.W.Frag} {F : Hp} {a : Addr} {xs : List V} {ds : List PyData} (h : SqL K F a xs) (r : Rps K F xs ds) : IterOk K (Itl K a) F ds := fun i H O hO s => by
  have s' : Same F H := s.trans hide_sub
  have hH : SqL K H a xs := seqL s' h
  refine ⟨fun d e => ?_, fun l => ⟨xs, hH, by rw [r.length]; exact l⟩⟩
  obtain ⟨v, h1, h2⟩ := r.get e
  refine ⟨⟨xs, v, hH, h1⟩, fun x H' y => ?_⟩
  obtain ⟨rfl, y⟩ := y
  have h3 := y xs hH
  rw [h1] at h3
  cases h3
  exact ⟨Same.refl _, h2.mono s⟩
theorem iterT {K : PySem.W.Frag} {F : Hp} {a : Addr} {xs : List V} {ds : List PyData} (h : SqT K F a xs) (r : Rps K F xs ds) : IterOk K (Itt K a) F ds := fun i H O hO s => by
  have s' : Same F H := s.trans hide_sub
  have hH : SqT K H a xs := seqT s' h
  refine ⟨fun d e => ?_, fun l => ⟨xs, hH, by rw [r.length]; exact l⟩⟩
  obtain ⟨v, h1, h2⟩ := r.get e
  refine ⟨⟨xs, v, hH, h1⟩, fun x H' y => ?_⟩
  obtain ⟨rfl, y⟩ := y
  have h3 := y xs hH
  rw [h1] at h3
  cases h3
  exact ⟨Same.refl _, h2.mono s⟩
def iSeq (f : Vars → R PyData) (ρ : Vars) : R (List PyData) := (f ρ).bind fun d => match d with
  | .list ds => .ok ds
  | .tuple ds => .ok ds
  | _ => .bad
theorem pi_seq {l : Expr} {tl : TE} (hl : PE X l tl) : PI X tg l (fun σ H R => tl σ H fun x H1 => ∃ a, x = .ref a ∧ ((∃ xs, SqL X.K H1 a xs) ∧ R (Itl X.K a) H1 ∨ (∃ xs, SqT X.K H1 a xs) ∧ R (Itt X.K a) H1)) := by
  refine ⟨fun pins s σ H R I h => ?_⟩
  refine thn (hl.run pins s σ H _ I h) fun v s1 ⟨x, H1, I1, r1, q1⟩ => ?_
  obtain ⟨a, e, q1⟩ := q1
  subst e
  cases r1
  rcases q1 with ⟨⟨xs, hq⟩, q⟩ | ⟨⟨xs, hq⟩, q⟩
  · obtain ⟨its, rv, p, hz⟩ := I1.list hq
    refine wpAny_pyIter_list p.isList ?_
    refine ⟨s1.heap.objs.size, [s1.heap.objs.size], _, _, H1, rfl, I1.kept (t' := s1.toks) fun b o e => Heap.get?_push_of_some _ e, turn_list a _, ⟨_, Heap.get?_push_size _ rfl, rfl, rfl⟩, fun b hb => ?_, q⟩
    have e : b = s1.heap.objs.size := by simpa using hb
    subst e
    exact I1.fpOk (Nat.le_refl _) (I1.hok.fresh (Nat.le_refl _))
  · obtain ⟨its, rv, p, hz⟩ := I1.tuple hq
    refine wpAny_pyIter_tuple (show s1.heap.IsTuple a its.toArray from p) ?_
    refine ⟨s1.heap.objs.size, [s1.heap.objs.size], _, _, H1, rfl, I1.kept (t' := s1.toks) fun b o e => Heap.get?_push_of_some _ e, turn_tuple a _, ⟨_, Heap.get?_push_size _ rfl, rfl, rfl⟩, fun b hb => ?_, q⟩
    have e : b = s1.heap.objs.size := by simpa using hb
    subst e
    exact I1.fpOk (Nat.le_refl _) (I1.hok.fresh (Nat.le_refl _))
theorem ix_seq {e : Expr} {f : Vars → R PyData} (h : EX X W e f) : IX X W tg e (iSeq f) := by
  obtain ⟨t, p, ht⟩ := h
  refine ⟨_, pi_seq p, fun σ H O ρ Q hO hv z => ht σ H O ρ _ hO hv ?_⟩
  unfold iSeq at z
  cases q : f ρ with
  | bad => rw [q] at z; exact z
  | err c => rw [q] at z; exact z
  | ok d =>
    rw [q] at z
    intro v H1 s1 r1
    cases r1 with
    | tup hx rs => exact ⟨_, rfl, .inr ⟨⟨_, seqT hide_sub hx⟩, z _ H1 s1 (iterT hx rs)⟩⟩
    | lst hx rs => exact ⟨_, rfl, .inl ⟨⟨_, seqL hide_sub hx⟩, z _ H1 s1 (iterL hx rs)⟩⟩
    | _ => exact z.elim
def rngD (lo : Int) (n : Nat) : List PyData := (List.range n).map fun i => .int (lo + (i : Nat))
theorem rngD_get {lo : Int} {n i : Nat} : (rngD lo n)[i]? = if i < n then some (.int (lo + (i : Nat))) else none := by
  unfold rngD
  rw [List.getElem?_map]
  by_cases h : i < n
  · rw [if_pos h, List.getElem?_range h]; rfl
  · rw [if_neg h, List.getElem?_eq_none (by simpa using h)]; rfl
theorem rngD_len {lo : Int} {n : Nat} : (rngD lo n).length = n := by simp [rngD]
theorem iterR {K : PySem.W.Frag} {F : Hp} {lo : Int} {n : Nat} : IterOk K (Itr lo n) F (rngD lo n) := fun i H O hO s => by
  refine ⟨fun d e => ?_, fun l => by rw [rngD_len] at l; exact l⟩
  rw [rngD_get] at e
  by_cases h : i < n
  · rw [if_pos h] at e
    cases e
    refine ⟨h, fun x H' y => ?_⟩
    obtain ⟨rfl, rfl⟩ := y
    exact ⟨Same.refl _, .int _⟩
  · rw [if_neg h] at e; cases e
def okI (j : Int) : Bool := decide (j.natAbs < 2 ^ 62)
theorem okI_of {j : Int} (h : okI j = true) : -(2 ^ 62) ≤ j ∧ j < 2 ^ 62 := by
  unfold okI at h
  have := of_decide_eq_true h
  omega
theorem okI_small {j : Int} (h0 : -1000000 ≤ j) (h1 : j ≤ 1000000) : okI j = true := by
  unfold okI
  exact decide_eq_true (by omega)
def iRange (f : Vars → R (List PyData)) (ρ : Vars) : R (List PyData) := (f ρ).bind fun ds => match ds with
  | [.int j] => if okI j = true then .ok (rngD 0 j.toNat) else .bad
  | [.int i, .int j] => if (okI i && okI j) = true then .ok (rngD i (j - i).toNat) else .bad
  | _ => .bad
theorem ix_range1 {a : Expr} {f : Vars → R (List PyData)} {p pos : Pos} (hg : Gl X "range") (hm : X.mg "range" = none) (ha : AX X W [a] f) (hs : starEach [a] X.env = [(false, eval a X.env)] := by rfl) (hl : ∀ ρ ds, f ρ = .ok ds → ds.length = 1) : IX X W tg (.Call (.Name "range" p) [a] [] pos) (iRange f) := by
  obtain ⟨t, q, ht⟩ := ha
  refine ⟨_, pi_range1 hg hm q hs, fun σ H O ρ Q hO hv z => ht σ H O ρ _ hO hv ?_⟩
  unfold iRange at z
  cases e : f ρ with
  | bad => rw [e] at z; exact z
  | err c => rw [e] at z; exact z
  | ok ds =>
    rw [e, R.bind_ok] at z
    have l := hl ρ ds e
    intro vs H1 s1 r1
    match ds, l, r1, z with
    | [.int j], _, r1, z =>
      obtain ⟨v, rfl, rv⟩ := rps_one r1
      cases rv
      by_cases c : okI j = true
      · simp only [if_pos c] at z
        obtain ⟨h1, h2⟩ := okI_of c
        exact ⟨j, rfl, h1, h2, z _ H1 s1 iterR⟩
      · simp only [if_neg c] at z
    | [.none], _, _, z => exact z.elim
    | [.bool _], _, _, z => exact z.elim
    | [.str _], _, _, z => exact z.elim
    | [.list _], _, _, z => exact z.elim
    | [.tuple _], _, _, z => exact z.elim
    | [.dict _], _, _, z => exact z.elim
theorem ix_range2 {a b : Expr} {f : Vars → R (List PyData)} {p pos : Pos} (hg : Gl X "range") (hm : X.mg "range" = none) (ha : AX X W [a, b] f) (hs : starEach [a, b] X.env = [(false, eval a X.env), (false, eval b X.env)] := by rfl) (hs2 : starEach [b] X.env = [(false, eval b X.env)] := by rfl) (hl : ∀ ρ ds, f ρ = .ok ds → ds.length = 2) : IX X W tg (.Call (.Name "range" p) [a, b] [] pos) (iRange f) := by
  obtain ⟨t, q, ht⟩ := ha
  refine ⟨_, pi_range2 hg hm q hs hs2, fun σ H O ρ Q hO hv z => ht σ H O ρ _ hO hv ?_⟩
  unfold iRange at z
  cases e : f ρ with
  | bad => rw [e] at z; exact z
  | err c => rw [e] at z; exact z
  | ok ds =>
    rw [e, R.bind_ok] at z
    have l := hl ρ ds e
    intro vs H1 s1 r1
    match ds, l, r1, z with
    | [d1, d2], _, r1, z =>
      obtain ⟨v, w, rfl, rv, rw'⟩ := rps_two r1
      cases rv with
      | int i =>
        cases rw' with
        | int j =>
          by_cases c : (okI i && okI j) = true
          · simp only [if_pos c] at z
            rw [Bool.and_eq_true] at c
            obtain ⟨h1, h2⟩ := okI_of c.1
            obtain ⟨h3, h4⟩ := okI_of c.2
            exact ⟨i, j, rfl, ⟨h1, h2, h3, h4⟩, z _ H1 s1 iterR⟩
          · simp only [if_neg c] at z
        | _ => exact z.elim
      | _ => exact z.elim
def zipD : List PyData → List PyData → List PyData
  | d :: ds, e :: es => .tuple [d, e] :: zipD ds es
  | _, _ => []
theorem zipD_get : ∀ {ds es : List PyData} {i : Nat} {z : PyData}, (zipD ds es)[i]? = some z → ∃ d e, ds[i]? = some d ∧ es[i]? = some e ∧ z = .tuple [d, e]
  | [], _, _, _, h => by simp [zipD] at h
  | _ :: _, [], _, _, h => by simp [zipD] at h
  | d :: ds, e :: es, 0, z, h => by simp [zipD] at h; exact ⟨d, e, rfl, rfl, h.symm⟩
  | d :: ds, e :: es, i + 1, z, h => by
    have h' : (zipD ds es)[i]? = some z := by simpa [zipD] using h
    obtain ⟨x, y, h1, h2, h3⟩ := zipD_get h'
    exact ⟨x, y, by simpa using h1, by simpa using h2, h3⟩
theorem zipD_len : ∀ {ds es : List PyData} {i : Nat}, (zipD ds es).length ≤ i → ds.length ≤ i ∨ es.length ≤ i
  | [], _, _, _ => .inl (Nat.zero_le _)
  | _ :: _, [], _, _ => .inr (Nat.zero_le _)
  | d :: ds, e :: es, 0, h => by simp [zipD] at h
  | d :: ds, e :: es, i + 1, h => by
    rcases zipD_len (ds := ds) (es := es) (i := i) (by simpa [zipD] using h) with h | h
    · exact .inl (by simpa using h)
    · exact .inr (by simpa using h)
theorem iterZL {K : PySem.W.Frag} {F : Hp} {a b : Addr} {xs ys : List V} {ds es : List PyData} (h : SqL K F a xs) (r : Rps K F xs ds) (h' : SqL K F b ys) (r' : Rps K F ys es) : IterOk K (Itz K a b) F (zipD ds es) := fun i H O hO s => by
  have s' : Same F H := s.trans hide_sub
  have hH := seqL s' h
  have hH' := seqL s' h'
  refine ⟨fun d e => ?_, fun l => ⟨xs, ys, hH, hH', by rw [r.length, r'.length]; exact zipD_len l⟩⟩
  obtain ⟨d1, d2, e1, e2, rfl⟩ := zipD_get e
  obtain ⟨v, h1, h2⟩ := r.get e1
  obtain ⟨v', h1', h2'⟩ := r'.get e2
  refine ⟨⟨xs, ys, v, v', hH, hH', h1, h1'⟩, fun x H' y => ?_⟩
  obtain ⟨T, x1, x2, rfl, hT, rfl, y1, y2⟩ := y
  have h3 := y1 xs hH
  have h4 := y2 ys hH'
  rw [h1] at h3
  rw [h1'] at h4
  cases h3
  cases h4
  exact ⟨same_new hT, new_rep hO hT (.cons (h2.mono s) (.cons (h2'.mono s) .nil))⟩
theorem iterZT {K : PySem.W.Frag} {F : Hp} {a b : Addr} {xs ys : List V} {ds es : List PyData} (h : SqT K F a xs) (r : Rps K F xs ds) (h' : SqT K F b ys) (r' : Rps K F ys es) : IterOk K (RZ.ItzT K a b) F (zipD ds es) := fun i H O hO s => by
  have s' : Same F H := s.trans hide_sub
  have hH := seqT s' h
  have hH' := seqT s' h'
  refine ⟨fun d e => ?_, fun l => ⟨xs, ys, hH, hH', by rw [r.length, r'.length]; exact zipD_len l⟩⟩
  obtain ⟨d1, d2, e1, e2, rfl⟩ := zipD_get e
  obtain ⟨v, h1, h2⟩ := r.get e1
  obtain ⟨v', h1', h2'⟩ := r'.get e2
  refine ⟨⟨xs, ys, v, v', hH, hH', h1, h1'⟩, fun x H' y => ?_⟩
  obtain ⟨T, x1, x2, rfl, hT, rfl, y1, y2⟩ := y
  have h3 := y1 xs hH
  have h4 := y2 ys hH'
  rw [h1] at h3
  rw [h1'] at h4
  cases h3
  cases h4
  exact ⟨same_new hT, new_rep hO hT (.cons (h2.mono s) (.cons (h2'.mono s) .nil))⟩
def iZipD (f : Vars → R (List PyData)) (ρ : Vars) : R (List PyData) := (f ρ).bind fun ds => match ds with
  | [.list xs, .list ys] => .ok (zipD xs ys)
  | [.tuple xs, .tuple ys] => .ok (zipD xs ys)
  | _ => .bad
theorem ix_zip {e e2 : Expr} {f : Vars → R (List PyData)} {p pos tpos : Pos} {elts : List Expr} {kk : Nat} (hg : Gl X "zip") (hm : X.mg "zip" = none) (ha : AX X W [e, e2] f)
    (hs : starEach [e, e2] X.env = (false, eval e X.env) :: starEach [e2] X.env := by rfl) (hpl : (backTo pos (starEach [e2] X.env)).any (·.1) = false := by rfl) : IX X W (.Tuple elts kk tpos) (.Call (.Name "zip" p) [e, e2] [] pos) (iZipD f) := by
  obtain ⟨t, q, ht⟩ := ha
  refine ⟨_, RZ.pi_zipA hg hm q hs hpl, fun σ H O ρ Q hO hv z => ht σ H O ρ _ hO hv ?_⟩
  unfold iZipD at z
  cases e : f ρ with
  | bad => rw [e] at z; exact z
  | err c => rw [e] at z; exact z
  | ok ds =>
    rw [e, R.bind_ok] at z
    have key : (∃ xs ys, ds = [.list xs, .list ys] ∧ ∀ J H', Same H H' → IterOk X.K J (hide O H') (zipD xs ys) → Q J H') ∨ (∃ xs ys, ds = [.tuple xs, .tuple ys] ∧ ∀ J H', Same H H' → IterOk X.K J (hide O H') (zipD xs ys) → Q J H') := by
      clear e
      split at z
      · rename_i q
        split at q
        · cases q; exact .inl ⟨_, _, rfl, z⟩
        · cases q; exact .inr ⟨_, _, rfl, z⟩
        · cases q
      · rename_i q
        split at q <;> cases q
      · exact z.elim
    intro vs H1 s1 r1
    rcases key with ⟨xs, ys, rfl, z⟩ | ⟨xs, ys, rfl, z⟩
    · obtain ⟨v, w, rfl, rv, rw'⟩ := rps_two r1
      cases rv with
      | lst hx rs => cases rw' with
        | lst hy rt => exact ⟨_, _, _, _, rfl, .inl ⟨seqL hide_sub hx, seqL hide_sub hy, z _ H1 s1 (iterZL hx rs hy rt)⟩⟩
    · obtain ⟨v, w, rfl, rv, rw'⟩ := rps_two r1
      cases rv with
      | tup hx rs => cases rw' with
        | tup hy rt => exact ⟨_, _, _, _, rfl, .inr ⟨seqT hide_sub hx, seqT hide_sub hy, z _ H1 s1 (iterZT hx rs hy rt)⟩⟩
end
end Pu
set_option Elab.async false
set_option linter.all false
set_option maxRecDepth 100000
set_option maxHeartbeats 4000000
namespace Pu
open PySem PySem.Spec PyProof.Rows L2
def W0 : WX := fun _ _ _ _ => False
def wipeD (ρ : Vars) : List Nat → Vars
  | [] => ρ
  | v :: vs => (wipeD ρ vs).set v none
theorem wipeD_length (ρ : Vars) : ∀ vs : List Nat, (wipeD ρ vs).length = ρ.length
  | [] => rfl
  | v :: vs => by unfold wipeD; rw [List.length_set, wipeD_length ρ vs]
theorem wipeD_some {ρ : Vars} {i : Nat} {d : PyData} : ∀ {vs : List Nat}, (wipeD ρ vs)[i]? = some (some d) → ρ[i]? = some (some d) ∧ i ∉ vs
  | [], h => ⟨h, by simp⟩
  | v :: vs, h => by
    unfold wipeD at h
    by_cases hi : v = i
    · subst hi
      by_cases hv : v < (wipeD ρ vs).length
      · rw [List.getElem?_set_self hv] at h; cases h
      · rw [List.getElem?_eq_none (by simpa using hv)] at h; cases h
    · rw [List.getElem?_set_ne hi] at h
      obtain ⟨h1, h2⟩ := wipeD_some h
      exact ⟨h1, by simp only [List.mem_cons, not_or]; exact ⟨fun e => hi e.symm, h2⟩⟩
theorem wipe_at {σ : L2.St} {i : Nat} : ∀ {vs : List Nat}, i ∉ vs → (wipe σ vs)[i]? = σ[i]?
  | [], _ => rfl
  | v :: vs, h => by
    simp only [List.mem_cons, not_or] at h
    unfold wipe
    rw [List.getElem?_set_ne (fun e => h.1 e.symm), wipe_at h.2]
theorem wipe_in {σ : L2.St} {i : Nat} : ∀ {vs : List Nat}, i ∈ vs → i < σ.length → (wipe σ vs)[i]? = some none
  | [], h, _ => absurd h (by simp)
  | v :: vs, h, hl => by
    unfold wipe
    by_cases c : v = i
    · subst c
      rw [List.getElem?_set_self (by rw [wipe_length]; exact hl)]
    · rw [List.getElem?_set_ne c]
      refine wipe_in ?_ hl
      rcases List.mem_cons.mp h with e | h
      · exact absurd e.symm c
      · exact h
theorem vrel_wipe {K : PySem.W.Frag} {F : Hp} {σ : L2.St} {ρ : Vars} {vs : List Nat} (h : VRel K F σ ρ) : VRel K F (wipe σ vs) (wipeD ρ vs) := ⟨by rw [wipe_length, wipeD_length]; exact h.len, fun i d e => by
  obtain ⟨h1, h2⟩ := wipeD_some e
  obtain ⟨v, h3, h4⟩ := h.get i d h1
  exact ⟨v, by rw [wipe_at h2]; exact h3, h4⟩⟩
theorem wipe_eq {σ σ' : L2.St} {js vs : List Nat} (hl : σ'.length = (wipe σ vs).length) (h : ∀ j : Nat, j ∉ js → σ'[j]? = (wipe σ vs)[j]?) (hs : ∀ j ∈ js, j ∈ vs) : wipe σ' vs = wipe σ vs := by
  apply List.ext_getElem?
  intro i
  rw [wipe_length] at hl
  by_cases hi : i ∈ vs
  · by_cases c : i < σ.length
    · rw [wipe_in hi c, wipe_in hi (by omega)]
    · rw [List.getElem?_eq_none (by rw [wipe_length]; omega), List.getElem?_eq_none (by rw [wipe_length]; omega)]
  · rw [wipe_at hi, h i fun z => hi (hs i z)]
def lcL (gt : PyData → Vars → Option Vars) (tt : Vars → R Bool) (f : Vars → R PyData) (ρ : Vars) : List PyData → R (List PyData)
  | [] => .ok []
  | d :: ds => match gt d ρ with
    | none => .bad
    | some ρ' => (tt ρ').bind fun b => if b = true then (f ρ').bind fun y => (lcL gt tt f ρ ds).bind fun ys => .ok (y :: ys) else lcL gt tt f ρ ds
def nLc (fi : Vars → R (List PyData)) (gt : PyData → Vars → Option Vars) (tt : Vars → R Bool) (f : Vars → R PyData) (vs : List Nat) (ρ : Vars) : R (List PyData) :=
  (fi ρ).bind fun ds => match lcL gt tt f (wipeD ρ vs) ds with
    | .ok ys => if ys.length < sizeLine then .ok ys else .bad
    | _ => .bad
def eLc (fi : Vars → R (List PyData)) (gt : PyData → Vars → Option Vars) (tt : Vars → R Bool) (f : Vars → R PyData) (vs : List Nat) (ρ : Vars) : R PyData := (nLc fi gt tt f vs ρ).bind fun ys => .ok (.list ys)
def NOut (X : Cx) (W : WX) (O : List Addr) (σ : L2.St) (H : Hp) (Q : VK) : R (List PyData) → Prop
  | .ok ds => ∀ p vs H', Same H H' → H p = none → H' p = some (.lst vs) → Rps X.K (hide (p :: O) H') vs ds → Q (.ref p) H'
  | .err c => ∀ H', Same H H' → W (exV X.mg c) none σ H'
  | .bad => False
def tYesD (_ : Vars) : R Bool := .ok true
def TsX (X : Cx) (W : WX) (ifs : List Expr) (f : Vars → R Bool) : Prop :=
  ∃ t, PTs X ifs t ∧ ∀ σ H O ρ Q, Stands O H → VRel X.K (hide O H) σ ρ → TOut X W σ H Q (f ρ) → t σ H Q
section
variable {X : Cx} {W : WX}
theorem TsX.pts {ifs : List Expr} {f : Vars → R Bool} (h : TsX X W ifs f) : PTs X ifs (tT X W f) := by
  obtain ⟨t, p, ht⟩ := h
  exact ⟨fun pins s σ H Q I ⟨O, ρ, h1, h2, h3⟩ => p.run pins s σ H Q I (ht σ H O ρ Q h1 h2 h3)⟩
theorem tsx_nil : TsX X W [] tYesD := ⟨_, pts_nil, fun σ H O ρ Q _ _ q => q H (Same.refl H)⟩
end
section
variable {X : Cx} {W : WX}
theorem lc_run {wi : TI} {vs js : List Nat} {fi : Vars → R (List PyData)} {gt : PyData → Vars → Option Vars} {ft : Vars → R Bool} {f : Vars → R PyData}
    (hi : ∀ σ H O ρ (Q : It → Hp → Prop), Stands O H → VRel X.K (hide O H) σ ρ → (match fi ρ with
      | .ok ds => ∀ J H', Same H H' → IterOk X.K J (hide O H') ds → Q J H'
      | .err c => ∀ H', Same H H' → W (exV X.mg c) none σ H'
      | .bad => False) → wi σ H Q)
    (hjs : ∀ j ∈ js, j ∈ vs) {σ : L2.St} {H : Hp} {O : List Addr} {ρ : Vars} {Q : VK} (hO : Stands O H) (hv : VRel X.K (hide O H) σ ρ)
    (z : NOut X W O σ H Q (nLc fi gt ft f vs ρ)) : tLc wi (tG X js gt) (tT X W0 ft) (tE X W0 f) vs σ H Q := by
  refine hi σ H O ρ _ hO hv ?_
  unfold nLc at z
  cases e : fi ρ with
  | bad => rw [e] at z; exact z
  | err c => rw [e] at z; exact z
  | ok ds =>
    rw [e, R.bind_ok] at z
    intro J H1 s1 hJ D hD
    cases e2 : lcL gt ft f (wipeD ρ vs) ds with
    | bad => rw [e2] at z; exact z.elim
    | err c => rw [e2] at z; exact z.elim
    | ok ys =>
      rw [e2] at z
      dsimp only at z
      by_cases hsz : ys.length < sizeLine
      case neg => rw [if_neg hsz] at z; exact z.elim
      rw [if_pos hsz] at z
      have hO1 := hO.same s1
      have hDO : D ∉ O := hO1.new hD
      have hHD : H D = none := s1.free hD
      -- the invariant
      refine ⟨fun i m H2 => m = ds.length - i ∧ i ≤ ds.length ∧ Same (hide O H1) (hide (D :: O) H2) ∧ Same H1 (fun a => if a = D then none else H2 a) ∧ ∃ acc as rest, H2 D = some (.lst acc) ∧ Rps X.K (hide (D :: O) H2) acc as ∧ lcL gt ft f (wipeD ρ vs) (ds.drop i) = .ok rest ∧ as ++ rest = ys, ⟨ds.length, rfl, Nat.zero_le _, fun a o h => ?_, fun a o h => ?_, [], [], ys, upd_same, .nil, by rw [List.drop_zero]; exact e2, rfl⟩, ?_⟩
      · obtain ⟨c, q⟩ := hide_some h
        have n : a ≠ D := ne_of_none q hD
        refine hide_of (fun zz => ?_) (by rw [upd_ne n]; exact q)
        rcases List.mem_cons.mp zz with r | r
        · exact n r
        · exact c r
      · have n : a ≠ D := ne_of_none h hD
        show (if a = D then none else upd H1 D (.lst []) a) = some o
        rw [if_neg n, upd_ne n]; exact h
      rintro i m H2 ⟨rfl, hle, sF, sH, acc, as, rest, hD2, rAcc, eRest, eYs⟩
      have hO2 : Stands (D :: O) H2 := fun a ha => by
        rcases List.mem_cons.mp ha with r | r
        · exact ⟨.lst acc, by rw [r]; exact hD2, fun xs z => nomatch z⟩
        · have n : a ≠ D := fun z => hDO (z ▸ r)
          obtain ⟨o, q, nn⟩ := hO1 a r
          have := sH a o q
          rw [show (fun a => if a = D then none else H2 a) a = H2 a from if_neg n] at this
          exact ⟨o, this, nn⟩
      obtain ⟨j1, j2⟩ := hJ i H2 (D :: O) hO2 sF
      have s12 : Same H1 H2 := fun a o h => by
        have n : a ≠ D := ne_of_none h hD
        have := sH a o h
        rw [show (fun a => if a = D then none else H2 a) a = H2 a from if_neg n] at this
        exact this
      by_cases hlt : i < ds.length
      · have hd : ds[i]? = some ds[i] := List.getElem?_eq_getElem hlt
        obtain ⟨g1, g2⟩ := j1 _ hd
        have hdrop : ds.drop i = ds[i] :: ds.drop (i + 1) := List.drop_eq_getElem_cons hlt
        rw [hdrop] at eRest
        unfold lcL at eRest
        cases eg : gt ds[i] (wipeD ρ vs) with
        | none => rw [eg] at eRest; cases eRest
        | some ρ1 =>
          rw [eg] at eRest
          dsimp only at eRest
          refine .inr ⟨g1, fun H' => (i + 1 ≤ ds.length ∧ Same (hide O H1) (hide (D :: O) H') ∧ Same H1 (fun a => if a = D then none else H' a) ∧ ∃ acc as rest, H' D = some (.lst acc) ∧ Rps X.K (hide (D :: O) H') acc as ∧ lcL gt ft f (wipeD ρ vs) (ds.drop (i + 1)) = .ok rest ∧ as ++ rest = ys),
            fun H' hn => ⟨ds.length - (i + 1), by omega, rfl, hn.1, hn.2⟩, fun x H3 y => ?_⟩
          obtain ⟨s23, rx⟩ := g2 x H3 y
          have hO3 := hO2.same s23
          have v2 : VRel X.K (hide (D :: O) H3) (wipe σ vs) (wipeD ρ vs) := by
            exact (vrel_wipe (hv.mono (hide_same s1))).mono (sF.trans (hide_same s23))
          have nx : ∀ (H' : Hp) (acc' : List V) (as' rest' : List PyData), Same H3 H' ∨ (∃ H5, Same H3 H5 ∧ H' = upd H5 D (.lst acc')) → H' D = some (.lst acc') → Rps X.K (hide (D :: O) H') acc' as' → lcL gt ft f (wipeD ρ vs) (ds.drop (i + 1)) = .ok rest' → as' ++ rest' = ys →
              i + 1 ≤ ds.length ∧ Same (hide O H1) (hide (D :: O) H') ∧ Same H1 (fun a => if a = D then none else H' a) ∧ ∃ acc as rest, H' D = some (.lst acc) ∧ Rps X.K (hide (D :: O) H') acc as ∧ lcL gt ft f (wipeD ρ vs) (ds.drop (i + 1)) = .ok rest ∧ as ++ rest = ys := fun H' acc' as' rest' hs hD' rr el ey => by
            have tr : ∀ a o, a ≠ D → H3 a = some o → H' a = some o := fun a o n h => by
              rcases hs with hs | ⟨H5, hs, rfl⟩
              · exact hs a o h
              · rw [upd_ne n]; exact hs a o h
            refine ⟨hlt, fun a o h => ?_, fun a o h => ?_, acc', as', rest', hD', rr, el, ey⟩
            · obtain ⟨c, q⟩ := hide_some (sF a o h)
              exact hide_of c (tr a o (fun z => c (by simp [z])) (s23 a o q))
            · have n : a ≠ D := ne_of_none h hD
              show (if a = D then none else H' a) = some o
              rw [if_neg n]
              exact tr a o n (s23 a o (s12 a o h))
          refine ⟨ds[i], D :: O, _, ρ1, hO3, v2, rx, eg, fun σ3 v3 m3 f3 => ⟨wipe_eq m3 (fun j hj => (f3 j hj).1) hjs, ?_⟩⟩
          refine ⟨D :: O, ρ1, hO3, v3, ?_⟩
          cases et : ft ρ1 with
          | bad => rw [et] at eRest; cases eRest
          | err c => rw [et] at eRest; cases eRest
          | ok b =>
            rw [et, R.bind_ok] at eRest
            intro H4 s34
            cases b with
            | false =>
              simp only [Bool.false_eq_true, if_false] at eRest ⊢
              exact nx H4 acc as rest (.inl s34) (s34 _ _ (s23 _ _ hD2)) (rAcc.mono (hide_same (s23.trans s34))) eRest eYs
            | true =>
              simp only [if_true] at eRest ⊢
              refine ⟨D :: O, ρ1, hO3.same s34, v3.mono (hide_same s34), ?_⟩
              cases ef : f ρ1 with
              | bad => rw [ef] at eRest; cases eRest
              | err c => rw [ef] at eRest; cases eRest
              | ok yv =>
                rw [ef, R.bind_ok] at eRest
                obtain ⟨rr, el⟩ : ∃ rr, lcL gt ft f (wipeD ρ vs) (ds.drop (i + 1)) = rr := ⟨_, rfl⟩
                cases rr with
                | bad => rw [el] at eRest; cases eRest
                | err c => rw [el] at eRest; cases eRest
                | ok rest' =>
                  rw [el, R.bind_ok] at eRest
                  have er : yv :: rest' = rest := R.ok.inj eRest
                  subst er
                  intro v H5 s45 rv
                  have s25 := (s23.trans s34).trans s45
                  refine ⟨acc, s25 _ _ hD2, ?_, ?_⟩
                  · have l1 := rAcc.length
                    rw [← eYs, List.length_append, List.length_cons] at hsz
                    omega
                  · have hid : ∀ o', hide (D :: O) (upd H5 D o') = hide (D :: O) H5 := fun o' => by
                      funext a
                      unfold hide
                      by_cases c : a ∈ D :: O
                      · rw [if_pos c, if_pos c]
                      · rw [if_neg c, if_neg c, upd_ne (fun z => c (by simp [z]))]
                    refine nx _ (acc ++ [v]) (as ++ [yv]) rest' (.inr ⟨H5, s34.trans s45, rfl⟩) upd_same ?_ el (by rw [List.append_assoc]; exact eYs)
                    rw [hid]
                    exact (rAcc.mono (hide_same s25)).append (.cons rv .nil)
      · have e3 : i = ds.length := by omega
        subst e3
        refine .inl ⟨j2 (Nat.le_refl _), ?_⟩
        rw [List.drop_length] at eRest
        cases eRest
        rw [List.append_nil] at eYs
        subst eYs
        exact z D acc H2 (s1.trans s12) hHD hD2 rAcc
theorem rps_less {K : PySem.W.Frag} {H : Hp} {p : Addr} {O : List Addr} {xs : List V} {ys : List PyData} (h : Rps K (hide (p :: O) H) xs ys) : Rps K (hide O H) xs ys := h.mono (hide_less fun a ha => List.mem_cons_of_mem _ ha)
section
variable {elt tg iter : Expr} {ifs : List Expr} {scope : Scope} {own : List (Str × Nat)} {pos : Pos} {js : List Nat} {fi : Vars → R (List PyData)} {gt : PyData → Vars → Option Vars} {ft : Vars → R Bool} {f : Vars → R PyData}
theorem pe_lcD (hc : X.calm = true) (hN : X.N.Nodup) (hi : IX X W tg iter fi) (ok : BlkOk X.N X.env.scope scope own)
    (hg : ∀ (s : Shared) (H : Hp) (C : Addr) (cl : List (Str × Addr)) (fp : List Addr), GX (X.blk s H scope (compEnvC scope cl C X.env) fp) tg js gt) (ht : ∀ (s : Shared) (H : Hp) (C : Addr) (cl : List (Str × Addr)) (fp : List Addr), TsX (X.blk s H scope (compEnvC scope cl C X.env) fp) W0 ifs ft)
    (he : ∀ (s : Shared) (H : Hp) (C : Addr) (cl : List (Str × Addr)) (fp : List Addr), EX (X.blk s H scope (compEnvC scope cl C X.env) fp) W0 elt f) (hs : ∀ x, foldedSetIterable iter X.env x = pure x := by intro _; rfl) :
    ∃ wi : TI, PE X (.ListComp elt [⟨tg, iter, ifs, 0⟩] scope pos) (tLc wi (tG X js gt) (tT X W0 ft) (tE X W0 f) (own.map (·.2))) ∧ ∀ σ H O ρ (Q : It → Hp → Prop), Stands O H → VRel X.K (hide O H) σ ρ → (match fi ρ with
      | .ok ds => ∀ J H', Same H H' → IterOk X.K J (hide O H') ds → Q J H'
      | .err c => ∀ H', Same H H' → W (exV X.mg c) none σ H'
      | .bad => False) → wi σ H Q := by
  obtain ⟨wi, p, hwi⟩ := hi
  exact ⟨wi, pe_lc hc hN p ok (fun s H C cl fp => (hg s H C cl fp).pg) (fun s H C cl fp => (ht s H C cl fp).pts) (fun s H C cl fp => (he s H C cl fp).pe) hs, hwi⟩
theorem eLc_to {vs : List Nat} {σ : L2.St} {H : Hp} {O : List Addr} {ρ : Vars} {Q : VK} (hO : Stands O H) (z : EOut X W O σ H Q (eLc fi gt ft f vs ρ)) : NOut X W O σ H Q (nLc fi gt ft f vs ρ) := by
  unfold eLc at z
  cases e : nLc fi gt ft f vs ρ with
  | bad => rw [e] at z; exact z
  | err c => rw [e] at z; exact z
  | ok ys =>
    rw [e, R.bind_ok] at z
    exact fun p xs H' s hp h' r => z _ H' s (.lst (.inl (.inl (hide_of (hO.new hp) h'))) (rps_less r))
theorem ex_lc (hc : X.calm = true) (hN : X.N.Nodup) (hi : IX X W tg iter fi) (ok : BlkOk X.N X.env.scope scope own)
    (hg : ∀ (s : Shared) (H : Hp) (C : Addr) (cl : List (Str × Addr)) (fp : List Addr), GX (X.blk s H scope (compEnvC scope cl C X.env) fp) tg js gt) (ht : ∀ (s : Shared) (H : Hp) (C : Addr) (cl : List (Str × Addr)) (fp : List Addr), TsX (X.blk s H scope (compEnvC scope cl C X.env) fp) W0 ifs ft)
    (he : ∀ (s : Shared) (H : Hp) (C : Addr) (cl : List (Str × Addr)) (fp : List Addr), EX (X.blk s H scope (compEnvC scope cl C X.env) fp) W0 elt f) (hjs : (js.all fun j => (own.map (·.2)).contains j) = true) (hs : ∀ x, foldedSetIterable iter X.env x = pure x := by intro _; rfl) :
    EX X W (.ListComp elt [⟨tg, iter, ifs, 0⟩] scope pos) (eLc fi gt ft f (own.map (·.2))) := by
  obtain ⟨wi, p, hwi⟩ := pe_lcD (pos := pos) hc hN hi ok hg ht he hs
  have hj : ∀ j ∈ js, j ∈ own.map (·.2) := fun j h => by simpa using List.all_eq_true.mp hjs j h
  exact ⟨_, p, fun σ H O ρ Q hO hv z => lc_run hwi hj hO hv (eLc_to hO z)⟩
end
end
end Pu
set_option Elab.async false
set_option linter.all false
set_option maxRecDepth 100000
set_option maxHeartbeats 4000000
namespace Pu
open PySem PySem.Spec PyProof.Rows L2
inductive Out where
  | nx (ρ : Vars) | rt (d : PyData) | bk (ρ : Vars) | ct (ρ : Vars) | err (c : Str) (ρ : Vars) | bad
def Out.then (o : Out) (f : Vars → Out) : Out := match o with
  | .nx ρ => f ρ
  | .rt d => .rt d
  | .bk ρ => .bk ρ
  | .ct ρ => .ct ρ
  | .err c ρ => .err c ρ
  | .bad => .bad
@[simp] theorem Out.then_nx (ρ : Vars) (f : Vars → Out) : (Out.nx ρ).then f = f ρ := rfl
@[simp] theorem Out.then_rt (d : PyData) (f : Vars → Out) : (Out.rt d).then f = .rt d := rfl
@[simp] theorem Out.then_bk (ρ : Vars) (f : Vars → Out) : (Out.bk ρ).then f = .bk ρ := rfl
@[simp] theorem Out.then_ct (ρ : Vars) (f : Vars → Out) : (Out.ct ρ).then f = .ct ρ := rfl
@[simp] theorem Out.then_err (c : Str) (ρ : Vars) (f : Vars → Out) : (Out.err c ρ).then f = .err c ρ := rfl
@[simp] theorem Out.then_bad (f : Vars → Out) : Out.bad.then f = .bad := rfl
def R.run {α : Type} (r : R α) (ρ : Vars) (k : α → Out) : Out := match r with
  | .ok a => k a
  | .err c => .err c ρ
  | .bad => .bad
@[simp] theorem R.run_ok {α : Type} (a : α) (ρ : Vars) (k : α → Out) : (R.ok a).run ρ k = k a := rfl
@[simp] theorem R.run_err {α : Type} (c : Str) (ρ : Vars) (k : α → Out) : (R.err c : R α).run ρ k = .err c ρ := rfl
@[simp] theorem R.run_bad {α : Type} (ρ : Vars) (k : α → Out) : (R.bad : R α).run ρ k = .bad := rfl
def OwnV (K : PySem.W.Frag) (F H : Hp) (a : Addr) : PyData → Prop
  | .list ds => ∃ vs, H a = some (.lst vs) ∧ Rps K F vs ds
  | .dict ds => (∃ kvs, H a = some (.dK kvs) ∧ Rpd K F kvs ds) ∨ ∃ ts es, ds = [(.none, .dict es)] ∧ H a = some (.dT ts) ∧ RpT K F ts es
  | _ => False
def OwnO (o : HO) : Prop := ((∃ xs, o = .lst xs) ∨ ∃ ts, o = .dT ts) ∨ ∃ kvs, o = .dK kvs ∨ ∃ od, o = .frz od (.dK kvs)
theorem OwnV.mono {K : PySem.W.Frag} {F F' H H' : Hp} {a : Addr} {d : PyData} (h : OwnV K F H a d) (s : Same F F') (e : ∀ o, H a = some o → H' a = some o) : OwnV K F' H' a d := by
  cases d with
  | list ds => obtain ⟨vs, h1, h2⟩ := h; exact ⟨vs, e _ h1, h2.mono s⟩
  | dict ds => exact h.imp (fun ⟨vs, h1, h2⟩ => ⟨vs, e _ h1, h2.mono s⟩) (fun ⟨ts, es, z, h1, h2⟩ => ⟨ts, es, z, e _ h1, h2.mono s⟩)
  | _ => exact h.elim
theorem OwnV.rp {K : PySem.W.Frag} {F H F' : Hp} {a : Addr} {d : PyData} (h : OwnV K F H a d) (s : Same F F') (e : ∀ o, H a = some o → F' a = some o) : Rp K F' (.ref a) d := by
  cases d with
  | list ds => obtain ⟨vs, h1, h2⟩ := h; exact .lst (.inl (.inl (e _ h1))) (h2.mono s)
  | dict ds =>
    rcases h with ⟨vs, h1, h2⟩ | ⟨ts, es, rfl, h1, h2⟩
    · exact .dic (.inl (e _ h1)) (h2.mono s)
    · exact .dct (.inl (e _ h1)) (h2.mono s)
  | _ => exact h.elim
theorem OwnV.own {K : PySem.W.Frag} {F H : Hp} {a : Addr} {d : PyData} (h : OwnV K F H a d) : ∃ o, H a = some o ∧ OwnO o := by
  cases d with
  | list ds => obtain ⟨vs, h1, h2⟩ := h; exact ⟨_, h1, .inl (.inl ⟨_, rfl⟩)⟩
  | dict ds =>
    rcases h with ⟨vs, h1, h2⟩ | ⟨ts, es, rfl, h1, h2⟩
    · exact ⟨_, h1, .inr ⟨_, .inl rfl⟩⟩
    · exact ⟨_, h1, .inl (.inr ⟨_, rfl⟩)⟩
  | _ => exact h.elim
def Mi (K : PySem.W.Frag) (F H : Hp) (v : V) (a : Addr) (d : PyData) : Prop :=
  (v = .ref a ∧ OwnV K F H a d) ∨ ∃ (b C dx : Addr) (c f : Str) (d' : PyData), v = .ref b ∧ d = .dict [(.none, .tuple [.str c, .dict [(.str f, d')]])] ∧ F b = some (.ins C dx [(f, .ref a)]) ∧ F dx = some (.own b) ∧ ClN K c C ∧ OwnV K F H a d'
theorem Mi.mono {K : PySem.W.Frag} {F F' H H' : Hp} {v : V} {a : Addr} {d : PyData} (h : Mi K F H v a d) (s : Same F F') (e : ∀ o, H a = some o → H' a = some o) : Mi K F' H' v a d := by
  rcases h with ⟨h1, h2⟩ | ⟨b, C, dx, c, f, d', h1, h2, h3, h4, h5, h6⟩
  · exact .inl ⟨h1, h2.mono s e⟩
  · exact .inr ⟨b, C, dx, c, f, d', h1, h2, s _ _ h3, s _ _ h4, h5, h6.mono s e⟩
theorem Mi.rp {K : PySem.W.Frag} {F H F' : Hp} {v : V} {a : Addr} {d : PyData} (h : Mi K F H v a d) (s : Same F F') (e : ∀ o, H a = some o → F' a = some o) : Rp K F' v d := by
  rcases h with ⟨rfl, h2⟩ | ⟨b, C, dx, c, f, d', rfl, rfl, h3, h4, h5, h6⟩
  · exact h2.rp s e
  · exact .ins (s _ _ h3) (s _ _ h4) h5 (.cons (k := .inr f) (h6.rp s e) .nil)
theorem Mi.own {K : PySem.W.Frag} {F H : Hp} {v : V} {a : Addr} {d : PyData} (h : Mi K F H v a d) : ∃ o, H a = some o ∧ OwnO o := by
  rcases h with ⟨h1, h2⟩ | ⟨b, C, dx, c, f, d', h1, h2, h3, h4, h5, h6⟩
  · exact h2.own
  · exact h6.own
theorem Mi.det {K : PySem.W.Frag} {F H H' : Hp} {v : V} {a a' : Addr} {d d' : PyData} (h : Mi K F H v a d) (h' : Mi K F H' v a' d') (n : F a = none) (n' : F a' = none) : a = a' := by
  rcases h with ⟨h1, h2⟩ | ⟨b, C, dx, c, f, d1, h1, h2, h3, h4, h5, h6⟩ <;> rcases h' with ⟨k1, k2⟩ | ⟨b', C', dx', c', f', d1', k1, k2, k3, k4, k5, k6⟩
  · rw [h1] at k1; cases k1; rfl
  · rw [h1] at k1; cases k1; rw [n] at k3; cases k3
  · rw [k1] at h1; cases h1; rw [n'] at h3; cases h3
  · rw [h1] at k1; cases k1; rw [h3] at k3; cases k3; rfl
theorem Mi.ref {K : PySem.W.Frag} {F H : Hp} {a a' : Addr} {d : PyData} (h : Mi K F H (.ref a) a' d) (n : F a = none) : a' = a ∧ OwnV K F H a d := by
  rcases h with ⟨h1, h2⟩ | ⟨b, C, dx, c, f, d', h1, h2, h3, h4, h5, h6⟩
  · cases h1; exact ⟨rfl, h2⟩
  · cases h1; rw [n] at h3; cases h3
theorem Mi.list {K : PySem.W.Frag} {F H : Hp} {v : V} {a : Addr} {ds : List PyData} (h : Mi K F H v a (.list ds)) : v = .ref a ∧ ∃ vs, H a = some (.lst vs) ∧ Rps K F vs ds := by
  rcases h with ⟨h1, h2⟩ | ⟨b, C, dx, c, f, d', h1, h2, h3, h4, h5, h6⟩
  · exact ⟨h1, h2⟩
  · cases h2
theorem Mi.tup {K : PySem.W.Frag} {F H : Hp} {v : V} {a : Addr} {ds : List PyData} (h : Mi K F H v a (.tuple ds)) : False := by
  rcases h with ⟨h1, h2⟩ | ⟨b, C, dx, c, f, d', h1, h2, h3, h4, h5, h6⟩
  · exact h2
  · cases h2
theorem hide_in {O : List Addr} {H : Hp} {a : Addr} (h : a ∈ O) : hide O H a = none := if_pos h
structure HB where
  h : Hp
  b : List (Nat × Addr)
  r : Nat → V
def HB.nl (H : Hp) : HB := ⟨H, [], fun _ => .non⟩
@[simp] theorem HB.nl_b (H : Hp) : (HB.nl H).b = [] := rfl
@[simp] theorem HB.nl_h (H : Hp) : (HB.nl H).h = H := rfl
instance : Coe HB Hp := ⟨HB.h⟩
instance : CoeFun HB (fun _ => Addr → Option HO) := ⟨HB.h⟩
structure Deep (K : PySem.W.Frag) (own : List Nat) (H0 : HB) (O : List Addr) (σ : L2.St) (H : Hp) (ρ : Vars) (fp : Nat → Option Addr) : Prop where
  at_ : ∀ (i : Nat) (d : PyData), i ∈ own → ρ[i]? = some (some d) → ∃ v a, σ[i]? = some (some v) ∧ fp i = some a ∧ Mi K (hide O H) H v a d
  ino : ∀ (i : Nat) (a : Addr), i ∈ own → fp i = some a → a ∈ O ∧ ((∃ d, ρ[i]? = some (some d)) → H0 a = none)
  dis : ∀ (i j : Nat) (a : Addr), i ∈ own → j ∈ own → fp i = some a → fp j = some a → i = j
  bor : ∀ p ∈ H0.b, p.1 ∈ own ∧ 1000 + p.1 ∈ own ∧ σ[p.1]? = some (some (H0.r p.1)) ∧ fp p.1 = some p.2
structure Rel (K : PySem.W.Frag) (own : List Nat) (H0 : HB) (O0 O : List Addr) (σ : L2.St) (H : Hp) (ρ : Vars) : Prop where
  same : Same H0 H
  st0 : Stands O0 H0
  len : σ.length = ρ.length
  sub : ∀ a ∈ O0, a ∈ O
  lists : ∀ a ∈ O, a ∈ O0 ∨ (H0 a = none ∧ ∃ o, H a = some o ∧ OwnO o)
  free : ∀ (i : Nat) (d : PyData), i ∉ own → ρ[i]? = some (some d) → ∃ v, σ[i]? = some (some v) ∧ Rp K (hide O H) v d
  deep : ∃ fp, Deep K own H0 O σ H ρ fp
  mark : ∀ i : Nat, 1000 + i ∈ own → ∃ a, (i, a) ∈ H0.b
section
variable {K : PySem.W.Frag} {own : List Nat} {H0 : HB} {O0 O : List Addr} {σ : L2.St} {H H' : Hp} {ρ : Vars} {fp : Nat → Option Addr}
theorem Rel.mine (r : Rel K own H0 O0 O σ H ρ) {i : Nat} {d : PyData} (hi : i ∈ own) (e : ρ[i]? = some (some d)) : ∃ v a, σ[i]? = some (some v) ∧ a ∈ O ∧ H0 a = none ∧ Mi K (hide O H) H v a d := by
  obtain ⟨fp, D⟩ := r.deep
  obtain ⟨v, a, h1, h2, h3⟩ := D.at_ i d hi e
  exact ⟨v, a, h1, (D.ino i a hi h2).1, (D.ino i a hi h2).2 ⟨d, e⟩, h3⟩
theorem Rel.bor (r : Rel K own H0 O0 O σ H ρ) : ∀ p ∈ H0.b, p.1 ∈ own ∧ 1000 + p.1 ∈ own ∧ σ[p.1]? = some (some (H0.r p.1)) ∧ p.2 ∈ O := fun p hp => by
  obtain ⟨fp, D⟩ := r.deep
  obtain ⟨h1, h2, h3, h4⟩ := D.bor p hp
  exact ⟨h1, h2, h3, (D.ino _ _ h1 h4).1⟩
theorem Deep.fpAt (D : Deep K own H0 O σ H ρ fp) {i : Nat} {d d' : PyData} {v : V} {a : Addr} {H' : Hp} (hi : i ∈ own) (e : ρ[i]? = some (some d)) (q : σ[i]? = some (some v)) (ha : a ∈ O) (m : Mi K (hide O H) H' v a d') : fp i = some a := by
  obtain ⟨w, b, h1, h2, h3⟩ := D.at_ i d hi e
  rw [q] at h1
  cases h1
  rw [h2, h3.det m (hide_in (D.ino i b hi h2).1) (hide_in ha)]
theorem Deep.zero (h : ∀ (i : Nat) (d : PyData), i ∈ own → ρ[i]? = some (some d) → False) (hb : H0.b = []) : Deep K own H0 O σ H ρ fun _ => none where
  at_ := fun i d hi e => (h i d hi e).elim
  ino := fun i a hi e => by cases e
  dis := fun i j a hi hj e => by cases e
  bor := fun p hp => by rw [hb] at hp; cases hp
theorem OwnO.notup {o : HO} (h : OwnO o) : ∀ xs, o ≠ .tup xs := fun xs z => by
  rcases h with (⟨_, h⟩ | ⟨_, h⟩) | ⟨_, h | ⟨_, h⟩⟩ <;> rw [h] at z <;> cases z
theorem Rel.notO0 (r : Rel K own H0 O0 O σ H ρ) {a : Addr} (h : H0 a = none) : a ∉ O0 := fun z => r.st0.nn z h
theorem Rel.stands0 (r : Rel K own H0 O0 O σ H ρ) : Stands O0 H := r.st0.same r.same
theorem Rel.stands (r : Rel K own H0 O0 O σ H ρ) : Stands O H := fun a ha => by
  rcases r.lists a ha with h | ⟨_, o, h, ho⟩
  · exact r.stands0 a h
  · exact ⟨o, h, ho.notup⟩
theorem Rel.vrel0 (r : Rel K own H0 O0 O σ H ρ) : VRel K (hide O0 H) σ ρ := ⟨r.len, fun i d e => by
  by_cases c : i ∈ own
  · obtain ⟨v, a, h1, _, h3, h4⟩ := r.mine c e
    exact ⟨v, h1, h4.rp (hide_less r.sub) fun o h => hide_of (r.notO0 h3) h⟩
  · obtain ⟨v, h1, h2⟩ := r.free i d c e
    exact ⟨v, h1, h2.mono (hide_less r.sub)⟩⟩
theorem Rel.vrel (r : Rel K [] H0 O0 O σ H ρ) : VRel K (hide O H) σ ρ := ⟨r.len, fun i d e => r.free i d (by simp) e⟩
theorem Deep.mono (D : Deep K own H0 O σ H ρ fp) {O' : List Addr} (s : Same (hide O H) (hide O' H')) (sO : ∀ a ∈ O, a ∈ O') (e : ∀ i a o, i ∈ own → fp i = some a → H a = some o → H' a = some o) : Deep K own H0 O' σ H' ρ fp where
  at_ := fun i d hi q => by
    obtain ⟨v, a, h1, h2, h3⟩ := D.at_ i d hi q
    exact ⟨v, a, h1, h2, h3.mono s fun o => e i a o hi h2⟩
  ino := fun i a hi q => ⟨sO a (D.ino i a hi q).1, (D.ino i a hi q).2⟩
  dis := D.dis
  bor := D.bor
theorem Deep.frame (D : Deep K own H0 O σ H ρ fp) {σ' : L2.St} {ρ' : Vars} (h : ∀ i ∈ own, σ'[i]? = σ[i]? ∧ ∀ d, ρ'[i]? = some (some d) → ρ[i]? = some (some d)) : Deep K own H0 O σ' H ρ' fp where
  at_ := fun i d hi q => by rw [(h i hi).1]; exact D.at_ i d hi ((h i hi).2 d q)
  ino := fun i a hi q => ⟨(D.ino i a hi q).1, fun ⟨d, e⟩ => (D.ino i a hi q).2 ⟨d, (h i hi).2 d e⟩⟩
  dis := D.dis
  bor := fun p hp => by
    obtain ⟨h1, h2, h3, h4⟩ := D.bor p hp
    exact ⟨h1, h2, by rw [(h p.1 h1).1]; exact h3, h4⟩
theorem Rel.step (r : Rel K own H0 O0 O σ H ρ) (s : Same H H') : Rel K own H0 O0 O σ H' ρ where
  same := r.same.trans s
  st0 := r.st0
  len := r.len
  sub := r.sub
  lists := fun a ha => (r.lists a ha).imp id fun ⟨h1, xs, h2, h3⟩ => ⟨h1, xs, s _ _ h2, h3⟩
  free := fun i d c e => by
    obtain ⟨v, h1, h2⟩ := r.free i d c e
    exact ⟨v, h1, h2.mono (hide_same s)⟩
  deep := by
    obtain ⟨fp, D⟩ := r.deep
    exact ⟨fp, D.mono (hide_same s) (fun _ h => h) fun _ a o _ _ h => s a o h⟩
  mark := r.mark
theorem Rel.imm (r : Rel K own H0 O0 O σ H ρ) {v : V} {d : PyData} (h : Rp K (hide O0 H) v d) (e : imm d = true) : Rp K (hide O H) v d :=
  h.imm (fun a xs q => by
    rcases q with (q | ⟨o, q⟩) | q
    · obtain ⟨c, q⟩ := hide_some q
      refine .inl (.inl (hide_of (fun z => ?_) q))
      rcases r.lists a z with h | ⟨_, ys, h, h'⟩
      · exact c h
      · rw [q] at h; cases h; rcases h' with (⟨_, h'⟩ | ⟨_, h'⟩) | ⟨_, h' | ⟨_, h'⟩⟩ <;> cases h'
    · obtain ⟨c, q⟩ := hide_some q
      refine .inl (.inr ⟨o, hide_of (fun z => ?_) q⟩)
      rcases r.lists a z with h | ⟨_, ys, h, h'⟩
      · exact c h
      · rw [q] at h; cases h; rcases h' with (⟨_, h'⟩ | ⟨_, h'⟩) | ⟨_, h' | ⟨_, h'⟩⟩ <;> cases h'
    · exact .inr q) e
theorem Rel.set (r : Rel K own H0 O0 O σ H ρ) {i : Nat} {v : V} {d : PyData} (c : i ∉ own) (h : Rp K (hide O H) v d) : Rel K own H0 O0 O (σ.set i (some v)) H (ρ.set i (some d)) where
  same := r.same
  st0 := r.st0
  len := by simpa using r.len
  sub := r.sub
  lists := r.lists
  free := fun j e cj q => by
    have hl := r.len
    by_cases z : i = j
    · subst z
      by_cases hi : i < ρ.length
      · rw [List.getElem?_set_self hi] at q
        cases q
        exact ⟨v, List.getElem?_set_self (by omega), h⟩
      · rw [List.getElem?_eq_none (by simpa using hi)] at q; cases q
    · rw [List.getElem?_set_ne z] at q
      rw [List.getElem?_set_ne z]
      exact r.free j e cj q
  deep := by
    obtain ⟨fp, D⟩ := r.deep
    refine ⟨fp, D.frame fun j hj => ?_⟩
    have z : i ≠ j := fun z => c (z ▸ hj)
    rw [List.getElem?_set_ne z, List.getElem?_set_ne z]
    exact ⟨rfl, fun _ q => q⟩
  mark := r.mark
theorem Rel.vrelM (r : Rel K own H0 O0 O σ H ρ) : VRel K (hide O H) σ (mask own ρ) := ⟨by unfold mask; rw [maskF_len]; exact r.len, fun i d e => by
  obtain ⟨c, q⟩ := mask_some e
  exact r.free i d c q⟩
theorem Rel.other (r : Rel K own H0 O0 O σ H ρ) {σ' : L2.St} {ρ' : Vars} {js : List Nat} (hj : ∀ j ∈ js, j ∉ own) (hl : σ'.length = σ.length) (v : VRel K (hide O H) σ' (mask own ρ')) (f : ∀ j : Nat, j ∉ js → σ'[j]? = σ[j]? ∧ (mask own ρ')[j]? = (mask own ρ)[j]?) (f2 : ∀ j ∈ own, ρ'[j]? = ρ[j]?) : Rel K own H0 O0 O σ' H ρ' where
  same := r.same
  st0 := r.st0
  len := by have := v.len; unfold mask at this; rw [maskF_len] at this; exact this
  sub := r.sub
  lists := r.lists
  free := fun i d c e => v.get i d (mask_of c e)
  deep := by
    obtain ⟨fp, D⟩ := r.deep
    refine ⟨fp, D.frame fun i hi => ⟨(f i fun z => hj i z hi).1, fun d q => by rw [← f2 i hi]; exact q⟩⟩
  mark := r.mark
def keepB (own own' : List Nat) : Bool := own.all fun i => decide (i < 1000) || (own'.contains i && own'.contains (i - 1000))
theorem Rel.keep (r : Rel K own H0 O0 O σ H ρ) {own' : List Nat} (hk : keepB own own' = true) : ∀ p ∈ H0.b, p.1 ∈ own' ∧ 1000 + p.1 ∈ own' := fun p hp => by
    obtain ⟨_, h2, _⟩ := r.bor p hp
    have := List.all_eq_true.mp hk _ h2
    rw [Bool.or_eq_true] at this
    rcases this with z | z
    · exact absurd (of_decide_eq_true z) (by omega)
    · rw [Bool.and_eq_true] at z
      have e : 1000 + p.1 - 1000 = p.1 := by omega
      rw [e] at z
      exact ⟨List.contains_iff_mem.mp z.2, List.contains_iff_mem.mp z.1⟩
theorem Rel.freeze (r : Rel K own H0 O0 O σ H ρ) {own' : List Nat} (h : ∀ i ∈ own', i ∈ own) (kb : ∀ p ∈ H0.b, p.1 ∈ own' ∧ 1000 + p.1 ∈ own') : ∃ O', Rel K own' H0 O0 O' σ H ρ ∧ Same (hide O H) (hide O' H) := by
  classical
  obtain ⟨fp, D⟩ := r.deep
  let P : Addr → Prop := fun a => a ∈ O0 ∨ ∃ i ∈ own', fp i = some a
  have hm : ∀ a, a ∈ O.filter (fun a => decide (P a)) ↔ a ∈ O ∧ P a := fun a => by simp [List.mem_filter]
  have sF : Same (hide O H) (hide (O.filter fun a => decide (P a)) H) := hide_less fun a ha => ((hm a).mp ha).1
  refine ⟨O.filter fun a => decide (P a), ⟨r.same, r.st0, r.len, fun a ha => (hm a).mpr ⟨r.sub a ha, .inl ha⟩, fun a ha => r.lists a ((hm a).mp ha).1, fun i d c e => ?_, ⟨fp, fun i d hi e => ?_, fun i a hi e => ?_, fun i j a hi hj => D.dis i j a (h i hi) (h j hj), fun p hp => ?_⟩, fun i hi => r.mark i (h _ hi)⟩, sF⟩
  · by_cases ci : i ∈ own
    · obtain ⟨v, a, h1, h2, h3⟩ := D.at_ i d ci e
      refine ⟨v, h1, h3.rp sF fun o ho => hide_of (fun z => ?_) ho⟩
      rcases ((hm a).mp z).2 with z | ⟨j, hj, e1⟩
      · exact r.notO0 ((D.ino i a ci h2).2 ⟨d, e⟩) z
      · exact c (D.dis i j a ci (h j hj) h2 e1 ▸ hj)
    · obtain ⟨v, h1, h2⟩ := r.free i d ci e
      exact ⟨v, h1, h2.mono sF⟩
  · obtain ⟨v, a, h1, h2, h3⟩ := D.at_ i d (h i hi) e
    exact ⟨v, a, h1, h2, h3.mono sF fun o ho => ho⟩
  · obtain ⟨h1, h2⟩ := D.ino i a (h i hi) e
    exact ⟨(hm a).mpr ⟨h1, .inr ⟨i, hi, e⟩⟩, h2⟩
  · obtain ⟨h1, h2, h3, h4⟩ := D.bor p hp
    exact ⟨(kb p hp).1, (kb p hp).2, h3, h4⟩
theorem Rel.notLent (r : Rel K own H0 O0 O σ H ρ) {i : Nat} (h : 1000 + i ∉ own) : ∀ q ∈ H0.b, i ≠ q.1 := fun q hq z => by
  subst z
  exact h (r.bor q hq).2.1
theorem Rel.unlent (r : Rel K own H0 O0 O σ H ρ) (h : (own.all fun i => decide (i < 1000)) = true) : H0.b = [] := by
  cases e : H0.b with
  | nil => rfl
  | cons p ps =>
    obtain ⟨_, h2, _⟩ := r.bor p (by rw [e]; exact List.mem_cons_self)
    exact absurd (of_decide_eq_true (List.all_eq_true.mp h _ h2)) (by omega)
def Apt (K : PySem.W.Frag) (own : List Nat) (H0 : HB) (O : List Addr) (σ : L2.St) (H : Hp) (ρ : Vars) (xs : List Addr) : Prop := ∃ fp, Deep K own H0 O σ H ρ fp ∧ ∀ (i : Nat) (b : Addr), i ∈ own → fp i = some b → b ∉ xs
theorem Apt.mono {xs : List Addr} (A : Apt K own H0 O σ H ρ xs) {O' : List Addr} (s : Same (hide O H) (hide O' H')) (sO : ∀ a ∈ O, a ∈ O') (e : Same H H') : Apt K own H0 O' σ H' ρ xs := by
  obtain ⟨fp, D, h⟩ := A
  exact ⟨fp, D.mono s sO fun _ a o _ _ q => e a o q, h⟩
theorem Apt.frame {xs : List Addr} (A : Apt K own H0 O σ H ρ xs) {σ' : L2.St} {ρ' : Vars} (h : ∀ i ∈ own, σ'[i]? = σ[i]? ∧ ∀ d, ρ'[i]? = some (some d) → ρ[i]? = some (some d)) : Apt K own H0 O σ' H ρ' xs := by
  obtain ⟨fp, D, k⟩ := A
  exact ⟨fp, D.frame h, k⟩
theorem Apt.fresh {xs : List Addr} (A : Apt K own H0 O σ H ρ xs) {p : Addr} (hp : p ∉ O) : Apt K own H0 O σ H ρ (p :: xs) := by
  obtain ⟨fp, D, k⟩ := A
  refine ⟨fp, D, fun i b hi e z => ?_⟩
  rcases List.mem_cons.mp z with z | z
  · exact hp (z ▸ (D.ino i b hi e).1)
  · exact k i b hi e z
theorem Apt.sub {xs ys : List Addr} (A : Apt K own H0 O σ H ρ xs) (h : ∀ a ∈ ys, a ∈ xs) : Apt K own H0 O σ H ρ ys := by
  obtain ⟨fp, D, k⟩ := A
  exact ⟨fp, D, fun i b hi e z => k i b hi e (h b z)⟩
end
def lkp : List (PyData × PyData) → Nat → Option PyData
  | [], _ => none
  | (.int j, d) :: r, i => if j = (i : Nat) then some d else lkp r i
  | _ :: r, i => lkp r i
def RtW (K : PySem.W.Frag) (H0 : HB) (O0 : List Addr) (F : Hp) (D : Ends) (d : PyData) : Prop := match H0.b with
  | [] => ∀ v H' O', Same H0 H' → Same F (hide O' H') → Rp K (hide O0 H') v d → D.rt v H'
  | b :: bs => match d with
    | .tuple [d1, .dict kvs] => ∀ v H' O', Same H0 H' → Same F (hide O' H') → Rp K (hide ((b :: bs).map (·.2) ++ O0) H') v d1 → (∀ p ∈ b :: bs, ∀ dd, lkp kvs p.1 = some dd → Mi K (hide ((b :: bs).map (·.2) ++ O0) H') H' (H0.r p.1) p.2 dd) → D.rt v H'
    | _ => False
theorem RtW.from {K : PySem.W.Frag} {H0 : HB} {O0 : List Addr} {F F' : Hp} {D : Ends} {d : PyData} (z : RtW K H0 O0 F D d) (s : Same F F') : RtW K H0 O0 F' D d := by
  unfold RtW at z ⊢
  cases e : H0.b with
  | nil => rw [e] at z; exact fun v H' O' s0 s1 r => z v H' O' s0 (s.trans s1) r
  | cons b bs =>
    rw [e] at z
    dsimp only at z ⊢
    split at z
    · exact fun v H' O' s0 s1 r => z v H' O' s0 (s.trans s1) r
    · exact z.elim
theorem RtW.no {K : PySem.W.Frag} {H0 : HB} {O0 : List Addr} {F : Hp} {D : Ends} {d : PyData} (h : H0.b = []) (z : RtW K H0 O0 F D d) : ∀ v H' O', Same H0 H' → Same F (hide O' H') → Rp K (hide O0 H') v d → D.rt v H' := by
  unfold RtW at z
  rw [h] at z; exact z
section
variable (X : Cx) (W : WX) (own : List Nat)
def SOut (H0 : HB) (O0 O : List Addr) (H : Hp) (D : Ends) : Out → Prop
  | .nx ρ => ∀ σ' H' O', Rel X.K own H0 O0 O' σ' H' ρ → Same (hide O H) (hide O' H') → D.nx σ' H'
  | .rt d => RtW X.K H0 O0 (hide O H) D d
  | .bk ρ => ∀ σ' H' O', Rel X.K own H0 O0 O' σ' H' ρ → Same (hide O H) (hide O' H') → D.bk σ' H'
  | .ct ρ => ∀ σ' H' O', Rel X.K own H0 O0 O' σ' H' ρ → Same (hide O H) (hide O' H') → D.ct σ' H'
  | .err c ρ => ∀ σ' H' O', Rel X.K own H0 O0 O' σ' H' ρ → Same (hide O H) (hide O' H') → W (exV X.mg c) none σ' H'
  | .bad => False
def SX (st : Stmt) (g : Vars → Out) : Prop :=
  ∃ t, PS X st t ∧ ∀ σ H ρ D H0 O0 O, Rel X.K own H0 O0 O σ H ρ → SOut X W own H0 O0 O H D (g ρ) → t D σ H
def SsX (sts : List Stmt) (g : Vars → Out) : Prop :=
  ∃ t, PSs X sts t ∧ ∀ σ H ρ D H0 O0 O, Rel X.K own H0 O0 O σ H ρ → SOut X W own H0 O0 O H D (g ρ) → t D σ H
end
section
variable {X : Cx} {W : WX} {own : List Nat}
theorem SOut.from {H0 : HB} {O0 O O' : List Addr} {H H' : Hp} {D : Ends} {o : Out} (h : SOut X W own H0 O0 O H D o) (s : Same (hide O H) (hide O' H')) : SOut X W own H0 O0 O' H' D o := by
  cases o with
  | nx ρ => exact fun σ' H'' O'' r s' => h σ' H'' O'' r (s.trans s')
  | rt d => exact RtW.from h s
  | bk ρ => exact fun σ' H'' O'' r s' => h σ' H'' O'' r (s.trans s')
  | ct ρ => exact fun σ' H'' O'' r s' => h σ' H'' O'' r (s.trans s')
  | err c ρ => exact fun σ' H'' O'' r s' => h σ' H'' O'' r (s.trans s')
  | bad => exact h
theorem EOut.run {f : R PyData} {k : PyData → Out} {O : List Addr} {H0 : HB} {O0 O1 : List Addr} {σ : L2.St} {H : Hp} {ρ : Vars} {D : Ends} {Q : VK} (r : Rel X.K own H0 O0 O1 σ H ρ) (z : SOut X W own H0 O0 O1 H D (f.run ρ k))
    (q : ∀ d v H', Same H H' → Rp X.K (hide O H') v d → SOut X W own H0 O0 O1 H' D (k d) → Rel X.K own H0 O0 O1 σ H' ρ → Q v H') : EOut X W O σ H Q f := by
  cases f with
  | ok d => exact fun v H' s rv => q d v H' s rv (SOut.from z (hide_same s)) (r.step s)
  | err c => exact fun H' s => z σ H' O1 (r.step s) (hide_same s)
  | bad => exact z
theorem TOut.run {f : R Bool} {k : Bool → Out} {H0 : HB} {O0 O1 : List Addr} {σ : L2.St} {H : Hp} {ρ : Vars} {D : Ends} {Q : Bool → Hp → Prop} (r : Rel X.K own H0 O0 O1 σ H ρ) (z : SOut X W own H0 O0 O1 H D (f.run ρ k))
    (q : ∀ d H', Same H H' → SOut X W own H0 O0 O1 H' D (k d) → Rel X.K own H0 O0 O1 σ H' ρ → Q d H') : TOut X W σ H Q f := by
  cases f with
  | ok d => exact fun H' s => q d H' s (SOut.from z (hide_same s)) (r.step s)
  | err c => exact fun H' s => z σ H' O1 (r.step s) (hide_same s)
  | bad => exact z
def sNil (ρ : Vars) : Out := .nx ρ
def sSeq (g h : Vars → Out) (ρ : Vars) : Out := (g ρ).then h
theorem ssx_nil : SsX X W own [] sNil := ⟨_, pss_nil, fun σ H ρ D H0 O0 O r z => z σ H O r (Same.refl _)⟩
theorem ssx_cons {st : Stmt} {rest : List Stmt} {g h : Vars → Out} (a : SX X W own st g) (b : SsX X W own rest h) : SsX X W own (st :: rest) (sSeq g h) := by
  obtain ⟨t, p, ht⟩ := a
  obtain ⟨u, q, hu⟩ := b
  refine ⟨_, pss_cons p q, fun σ H ρ D H0 O0 O r z => ht σ H ρ _ H0 O0 O r ?_⟩
  unfold sSeq at z
  cases e : g ρ with
  | nx ρ1 => rw [e] at z; exact fun σ1 H1 O1 r1 s1 => hu σ1 H1 ρ1 D H0 O0 O1 r1 (SOut.from z s1)
  | rt d => rw [e] at z; exact z
  | bk ρ1 => rw [e] at z; exact z
  | ct ρ1 => rw [e] at z; exact z
  | err c ρ1 => rw [e] at z; exact z
  | bad => rw [e] at z; exact z
theorem ssx_one {st : Stmt} {g : Vars → Out} (a : SX X W own st g) : SsX X W own [st] g := by
  obtain ⟨t, p, ht⟩ := a
  exact ⟨_, pss_one p, ht⟩
def sRet (f : Vars → R PyData) (ρ : Vars) : Out := (f ρ).run ρ fun d => .rt d
theorem sx_ret {e : Expr} {f : Vars → R PyData} {pos : Pos} (h : EX X W e f) (hnb : (own.all fun i => decide (i < 1000)) = true := by rfl) : SX X W own (.Return (some e) pos) (sRet f) := by
  obtain ⟨t, p, ht⟩ := h
  exact ⟨_, ps_ret p, fun σ H ρ D H0 O0 O r z => ht σ H O0 ρ _ r.stands0 r.vrel0 (EOut.run r z fun d v H' s rv z' r' => z'.no (r.unlent hnb) v H' O r'.same (Same.refl _) rv)⟩
def sBrk (ρ : Vars) : Out := .bk ρ
theorem sx_break {pos : Pos} : SX X W own (.Break pos) sBrk := ⟨_, ps_break, fun σ H ρ D H0 O0 O r z => z σ H O r (Same.refl _)⟩
def sIf (c : Vars → R Bool) (g h : Vars → Out) (ρ : Vars) : Out := (c ρ).run ρ fun b => if b = true then g ρ else h ρ
theorem sx_if {c : Expr} {a b : List Stmt} {tc : Vars → R Bool} {g h : Vars → Out} {pos : Pos} (hc : TX X W c tc) (ha : SsX X W own a g) (hb : SsX X W own b h) : SX X W own (.If c a b pos) (sIf tc g h) := by
  obtain ⟨t, p, ht⟩ := hc
  obtain ⟨ta, pa, hta⟩ := ha
  obtain ⟨tb, pb, htb⟩ := hb
  refine ⟨_, ps_if p pa pb, fun σ H ρ D H0 O0 O r z => ht σ H O0 ρ _ r.stands0 r.vrel0 (TOut.run r z fun d H' s z' r' => ?_)⟩
  cases d with
  | true => exact hta σ H' ρ D H0 O0 O r' z'
  | false => exact htb σ H' ρ D H0 O0 O r' z'
def sSet (own : List Nat) (i : Nat) (f : Vars → R PyData) (ρ : Vars) : Out := (f ρ).run ρ fun d => if (own.isEmpty || imm d) = true then .nx (ρ.set i (some d)) else .bad
theorem set_end {i : Nat} {H0 : HB} {O0 O : List Addr} {σ : L2.St} {H' : Hp} {ρ : Vars} {D : Ends} {v : V} {d : PyData} (hi : i ∉ own) (r' : Rel X.K own H0 O0 O σ H' ρ) (rv : Rp X.K (hide O0 H') v d) (z' : SOut X W own H0 O0 O H' D (if (own.isEmpty || imm d) = true then .nx (ρ.set i (some d)) else .bad)) (h2 : own = [] → Rp X.K (hide O H') v d) : D.nx (σ.set i (some v)) H' := by
  by_cases c : (own.isEmpty || imm d) = true
  · rw [if_pos c] at z'
    have rO : Rp X.K (hide O H') v d := by
      rw [Bool.or_eq_true] at c
      rcases c with c | c
      · exact h2 (List.isEmpty_iff.mp c)
      · exact r'.imm rv c
    exact z' _ H' O (r'.set hi rO) (Same.refl _)
  · rw [if_neg c] at z'; exact z'.elim
theorem sx_set {i : Nat} {x : Str} {e : Expr} {f : Vars → R PyData} {pos' pos : Pos} (hN : X.N.Nodup) (hi : X.N[i]? = some x) (hx : Loc X.env.scope x) (h : EX X W e f) (ho : own.contains i = false) (hs : swapsWith e (some (.Name x pos')) pos.line X.env = pure false := by rfl) (hf : X.fn x = true ∨ X.env.scope.names.lookup x = some .local := by first | exact .inl rfl | exact .inr rfl | assumption) :
    SX X W own (.Assign [.Name x pos'] e pos) (sSet own i f) := by
  obtain ⟨t, p, ht⟩ := h
  have hi' : i ∉ own := fun z => by rw [List.contains_iff_mem.mpr z] at ho; cases ho
  refine ⟨_, ps_set hN hi hx p hs hf, fun σ H ρ D H0 O0 O r z => ?_⟩
  by_cases c : own = []
  · subst c
    exact ht σ H O ρ _ r.stands r.vrel (EOut.run r z fun d v H' s rv z' r' => set_end hi' r' (rv.mono (hide_less r'.sub)) z' fun _ => rv)
  · exact ht σ H O0 ρ _ r.stands0 r.vrel0 (EOut.run r z fun d v H' s rv z' r' => set_end hi' r' rv z' fun e => absurd e c)
def sSetM (own : List Nat) (i : Nat) (f : Vars → R PyData) (ρ : Vars) : Out := (f (mask own ρ)).run ρ fun d => .nx (ρ.set i (some d))
theorem sx_setM {i : Nat} {x : Str} {e : Expr} {f : Vars → R PyData} {pos' pos : Pos} (hN : X.N.Nodup) (hi : X.N[i]? = some x) (hx : Loc X.env.scope x) (h : EX X W e f) (ho : own.contains i = false) (hs : swapsWith e (some (.Name x pos')) pos.line X.env = pure false := by rfl) (hf : X.fn x = true ∨ X.env.scope.names.lookup x = some .local := by first | exact .inl rfl | exact .inr rfl | assumption) :
    SX X W own (.Assign [.Name x pos'] e pos) (sSetM own i f) := by
  obtain ⟨t, p, ht⟩ := h
  have hi' : i ∉ own := fun z => by rw [List.contains_iff_mem.mpr z] at ho; cases ho
  refine ⟨_, ps_set hN hi hx p hs hf, fun σ H ρ D H0 O0 O r z => ?_⟩
  exact ht σ H O _ _ r.stands r.vrelM (EOut.run r z fun d v H' s rv z' r' => z' _ H' O (r'.set hi' rv) (Same.refl _))
theorem other_of {js : List Nat} {gt : PyData → Vars → Option Vars} (ok : GtOk js gt) (hj : ∀ j ∈ js, j ∉ own) {H0 : HB} {O0 O : List Addr} {σ σ' : L2.St} {H : Hp} {ρ ρ' : Vars} {d : PyData} (r : Rel X.K own H0 O0 O σ H ρ) (e : gt d ρ = some ρ') (v : VRel X.K (hide O H) σ' (mask own ρ')) (l : σ'.length = σ.length)
    (f : ∀ j : Nat, j ∉ js → σ'[j]? = σ[j]? ∧ (mask own ρ')[j]? = (mask own ρ)[j]?) (f2 : ∀ j : Nat, j ∉ js → ρ'[j]? = ρ[j]?) : Rel X.K own H0 O0 O σ' H ρ' := r.other hj l v f fun j ho => f2 j fun z => hj j z ho
structure GtIn (js : List Nat) (gt : PyData → Vars → Option Vars) : Prop where
  out : ∀ d ρ ρ', gt d ρ = some ρ' → ∀ j : Nat, j ∉ js → ρ'[j]? = ρ[j]?
def sAsg (own : List Nat) (gt : PyData → Vars → Option Vars) (f : Vars → R PyData) (ρ : Vars) : Out := (f (mask own ρ)).run ρ fun d => match gt d ρ with
  | some ρ' => .nx ρ'
  | none => .bad
theorem sx_asg {tg e : Expr} {js : List Nat} {gt : PyData → Vars → Option Vars} {f : Vars → R PyData} {pos : Pos} (h : EX X W e f) (hg : GX X tg js gt) (hin : GtIn js gt) (ho : (js.all fun j => !own.contains j) = true) (hs : swapsWithSole [tg] e pos.line X.env = pure false := by rfl) (hw : swappedStores [tg] e X.env = pure none := by rfl)
    (h1 : (assignEach [tg] X.env).map (·.2) = [assign tg X.env] := by rfl) : SX X W own (.Assign [tg] e pos) (sAsg own gt f) := by
  obtain ⟨t, p, ht⟩ := h
  obtain ⟨ok, g, q, hgt⟩ := hg
  have hj : ∀ j ∈ js, j ∉ own := fun j h z => by
    have := List.all_eq_true.mp ho j h
    rw [List.contains_iff_mem.mpr z] at this; cases this
  refine ⟨_, ps_asg p q hs hw h1, fun σ H ρ D H0 O0 O r z => ht σ H O _ _ r.stands r.vrelM (EOut.run r z fun d v H' s rv z' r' => ?_)⟩
  cases e : gt d ρ with
  | none => rw [e] at z'; exact z'.elim
  | some ρ' =>
    rw [e] at z'
    refine hgt v d σ H' O (mask own ρ) (mask own ρ') _ r'.stands r'.vrelM rv (ok.msk own d ρ ρ' hj e) fun σ' v' l' f' => ?_
    exact z' σ' H' O (other_of ok hj r' e v' l' f' (hin.out d ρ ρ' e)) (Same.refl _)
theorem gtName_in (i : Nat) : GtIn [i] (gtName i) := ⟨fun d ρ ρ' e j hj => by
  cases e
  rw [List.getElem?_set_ne (fun z => hj (by simp [z]))]⟩
structure GtsIn (js : List Nat) (gt : List PyData → Vars → Option Vars) : Prop where
  out : ∀ d ρ ρ', gt d ρ = some ρ' → ∀ j : Nat, j ∉ js → ρ'[j]? = ρ[j]?
theorem gtNil_in : GtsIn [] gtNil := ⟨fun d ρ ρ' e j hj => by cases d <;> cases e; rfl⟩
theorem gtCons_in {js ks : List Nat} {g : PyData → Vars → Option Vars} {h : List PyData → Vars → Option Vars} (a : GtIn js g) (b : GtsIn ks h) : GtsIn (js ++ ks) (gtCons g h) := ⟨fun d ρ ρ' e j hj => by
  cases d with
  | nil => cases e
  | cons d r =>
    have e' : (g d ρ).bind (fun ρ' => h r ρ') = some ρ' := e
    cases e1 : g d ρ with
    | none => rw [e1] at e'; cases e'
    | some ρ1 =>
      rw [e1] at e'
      rw [b.out r ρ1 ρ' e' j (fun z => hj (List.mem_append_right _ z)), a.out d ρ ρ1 e1 j (fun z => hj (List.mem_append_left _ z))]⟩
theorem gtTup_in {n : Nat} {js : List Nat} {h : List PyData → Vars → Option Vars} (b : GtsIn js h) : GtIn js (gtTup n h) := ⟨fun d ρ ρ' e j hj => by
  cases d <;> try cases e
  rename_i ds
  unfold gtTup at e
  dsimp only at e
  by_cases c : ds.length = n
  · rw [if_pos c] at e; exact b.out _ _ _ e j hj
  · rw [if_neg c] at e; cases e⟩
def NX (X : Cx) (W : WX) (e : Expr) (f : Vars → R (List PyData)) : Prop :=
  ∃ t, PE X e t ∧ ∀ σ H O ρ (Q : VK), Stands O H → VRel X.K (hide O H) σ ρ → NOut X W O σ H Q (f ρ) → t σ H Q
def nLst (f : Vars → R (List PyData)) (ρ : Vars) : R (List PyData) := (f ρ).bind fun ds => if ds.length ≤ sizeLine then .ok ds else .bad
theorem nx_lst {es : List Expr} {f : Vars → R (List PyData)} {pos : Pos} (h : AX X W es f) : NX X W (.List es pos) (nLst f) := by
  obtain ⟨t, p, ht⟩ := h
  refine ⟨_, pe_lst p, fun σ H O ρ Q hO hr z => ht σ H O ρ _ hO hr ?_⟩
  unfold nLst at z
  cases e : f ρ with
  | bad => rw [e] at z; exact z
  | err c => rw [e] at z; exact z
  | ok ds =>
    rw [e, R.bind_ok] at z
    intro vs H1 s1 r1
    by_cases c : ds.length ≤ sizeLine
    · rw [if_pos c] at z
      refine ⟨by rw [r1.length]; exact c, fun p hp => z p vs _ (s1.trans (same_new hp)) (s1.free hp) upd_same (r1.mono fun a o h => ?_)⟩
      obtain ⟨c1, h1⟩ := hide_some h
      have n := ne_of_none h1 hp
      exact hide_of (fun z => (List.mem_cons.mp z).elim n c1) (by rw [upd_ne n]; exact h1)
    · rw [if_neg c] at z; exact z.elim
def sNew (own : List Nat) (i : Nat) (f : Vars → R (List PyData)) (ρ : Vars) : Out := (f (mask own ρ)).run ρ fun ds => .nx (ρ.set i (some (.list ds)))
theorem Deep.laid {K : PySem.W.Frag} {H0 : HB} {O : List Addr} {σ : L2.St} {H H' : Hp} {ρ : Vars} {fp : Nat → Option Addr} (D : Deep K own H0 O σ H ρ fp) {i : Nat} (hl : σ.length = ρ.length) (hni : ∀ q ∈ H0.b, i ≠ q.1) {p : Addr} {v : V} {dn : PyData} (s : Same H H') (hp : H p = none) (h0 : H0 p = none) (np : p ∉ O) (rs : Mi K (hide (p :: O) H') H' v p dn) :
    Deep K own H0 (p :: O) (σ.set i (some v)) H' (ρ.set i (some dn)) (fun j => if j = i then some p else fp j) := by
  have sF : Same (hide O H) (hide (p :: O) H') := fun a o h => by
    obtain ⟨c, e⟩ := hide_some h
    exact hide_of (fun z => (List.mem_cons.mp z).elim (ne_of_none e hp) c) (s a o e)
  refine ⟨fun j d cj q => ?_, fun j a cj q => ?_, fun j k a cj ck q1 q2 => ?_, fun q hq => ?_⟩
  · by_cases z : i = j
    · subst z
      by_cases hlt : i < ρ.length
      · rw [List.getElem?_set_self hlt] at q
        cases q
        exact ⟨v, p, List.getElem?_set_self (by omega), if_pos rfl, rs⟩
      · rw [List.getElem?_eq_none (by simpa using hlt)] at q; cases q
    · rw [List.getElem?_set_ne z] at q
      rw [List.getElem?_set_ne z]
      obtain ⟨w, a, h1, h2, h3⟩ := D.at_ j d cj q
      exact ⟨w, a, h1, by rw [if_neg (fun e => z e.symm)]; exact h2, h3.mono sF fun o => s a o⟩
  · by_cases z : j = i
    · rw [if_pos z] at q; cases q; exact ⟨List.mem_cons_self, fun _ => h0⟩
    · rw [if_neg z] at q
      exact ⟨List.mem_cons_of_mem _ (D.ino j a cj q).1, by rw [List.getElem?_set_ne (fun e => z e.symm)]; exact (D.ino j a cj q).2⟩
  · by_cases z : j = i <;> by_cases z2 : k = i
    · rw [z, z2]
    · rw [if_pos z] at q1; rw [if_neg z2] at q2
      cases q1
      exact absurd (D.ino k p ck q2).1 np
    · rw [if_neg z] at q1; rw [if_pos z2] at q2
      cases q2
      exact absurd (D.ino j p cj q1).1 np
    · rw [if_neg z] at q1; rw [if_neg z2] at q2
      exact D.dis j k a cj ck q1 q2
  · obtain ⟨h1, h2, h3, h4⟩ := D.bor q hq
    have z : i ≠ q.1 := hni q hq
    exact ⟨h1, h2, by rw [List.getElem?_set_ne z]; exact h3, by rw [if_neg (fun e => z e.symm)]; exact h4⟩
theorem Rel.laidM {H0 : HB} {O0 O : List Addr} {σ : L2.St} {H H' : Hp} {ρ : Vars} {i : Nat} (hi : i ∈ own) (hni : ∀ q ∈ H0.b, i ≠ q.1) {p : Addr} {v : V} {dn : PyData} (r : Rel X.K own H0 O0 O σ H ρ) (s : Same H H') (hp : H p = none) (rs : Mi X.K (hide (p :: O) H') H' v p dn) :
    Rel X.K own H0 O0 (p :: O) (σ.set i (some v)) H' (ρ.set i (some dn)) ∧ Same (hide O H) (hide (p :: O) H') := by
  have sF : Same (hide O H) (hide (p :: O) H') := fun a o h => by
    obtain ⟨c, e⟩ := hide_some h
    exact hide_of (fun z => (List.mem_cons.mp z).elim (ne_of_none e hp) c) (s a o e)
  refine ⟨?_, sF⟩
  have r1 : Rel X.K own H0 O0 O σ H' ρ := r.step s
  have np : p ∉ O := r.stands.new hp
  obtain ⟨fp, D⟩ := r.deep
  refine ⟨r1.same, r1.st0, by simpa using r1.len, fun a ha => List.mem_cons_of_mem _ (r1.sub a ha), fun a ha => ?_, fun j d cj q => ?_, ⟨_, D.laid r.len hni s hp (r.same.free hp) np rs⟩, r.mark⟩
  · rcases List.mem_cons.mp ha with e | ha
    · rw [e]; exact .inr ⟨r.same.free hp, rs.own⟩
    · exact r1.lists a ha
  · have z : i ≠ j := fun z => cj (z ▸ hi)
    rw [List.getElem?_set_ne z] at q
    rw [List.getElem?_set_ne z]
    obtain ⟨v, h1, h2⟩ := r.free j d cj q
    exact ⟨v, h1, h2.mono sF⟩
theorem Rel.laidV {H0 : HB} {O0 O : List Addr} {σ : L2.St} {H H' : Hp} {ρ : Vars} {i : Nat} (hi : i ∈ own) (hni : ∀ q ∈ H0.b, i ≠ q.1) {p : Addr} {dn : PyData} (r : Rel X.K own H0 O0 O σ H ρ) (s : Same H H') (hp : H p = none) (rs : OwnV X.K (hide (p :: O) H') H' p dn) :
    Rel X.K own H0 O0 (p :: O) (σ.set i (some (.ref p))) H' (ρ.set i (some dn)) ∧ Same (hide O H) (hide (p :: O) H') := r.laidM hi hni s hp (.inl ⟨rfl, rs⟩)
theorem Rel.laid {H0 : HB} {O0 O : List Addr} {σ : L2.St} {H H' : Hp} {ρ : Vars} {i : Nat} (hi : i ∈ own) (hni : ∀ q ∈ H0.b, i ≠ q.1) {p : Addr} {vs : List V} {ds : List PyData} (r : Rel X.K own H0 O0 O σ H ρ) (s : Same H H') (hp : H p = none) (hp' : H' p = some (.lst vs)) (rs : Rps X.K (hide (p :: O) H') vs ds) :
    Rel X.K own H0 O0 (p :: O) (σ.set i (some (.ref p))) H' (ρ.set i (some (.list ds))) ∧ Same (hide O H) (hide (p :: O) H') := r.laidV hi hni s hp ⟨vs, hp', rs⟩
theorem NOut.run {f : R (List PyData)} {k : List PyData → Out} {O : List Addr} {H0 : HB} {O0 O1 : List Addr} {σ : L2.St} {H : Hp} {ρ : Vars} {D : Ends} {Q : VK} (r : Rel X.K own H0 O0 O1 σ H ρ) (z : SOut X W own H0 O0 O1 H D (f.run ρ k))
    (q : ∀ ds p vs H', Same H H' → H p = none → H' p = some (.lst vs) → Rps X.K (hide (p :: O) H') vs ds → SOut X W own H0 O0 O1 H D (k ds) → Q (.ref p) H') : NOut X W O σ H Q f := by
  cases f with
  | ok d => exact fun p vs H' s h1 h2 h3 => q d p vs H' s h1 h2 h3 z
  | err c => exact fun H' s => z σ H' O1 (r.step s) (hide_same s)
  | bad => exact z
theorem sx_new {i : Nat} {x : Str} {e : Expr} {f : Vars → R (List PyData)} {pos' pos : Pos} (hN : X.N.Nodup) (hi : X.N[i]? = some x) (hx : Loc X.env.scope x) (h : NX X W e f) (ho : own.contains i = true) (hs : swapsWith e (some (.Name x pos')) pos.line X.env = pure false := by rfl) (hf : X.fn x = true ∨ X.env.scope.names.lookup x = some .local := by first | exact .inl rfl | exact .inr rfl | assumption) (hni : own.contains (1000 + i) = false := by rfl) :
    SX X W own (.Assign [.Name x pos'] e pos) (sNew own i f) := by
  obtain ⟨t, p, ht⟩ := h
  have hni' : 1000 + i ∉ own := fun z => by rw [List.contains_iff_mem.mpr z] at hni; cases hni
  have hi' : i ∈ own := List.contains_iff_mem.mp ho
  refine ⟨_, ps_set hN hi hx p hs hf, fun σ H ρ D H0 O0 O r z => ht σ H O _ _ r.stands r.vrelM (NOut.run r z fun ds p vs H' s h1 h2 h3 z' => ?_)⟩
  obtain ⟨r', sF⟩ := r.laid hi' (r.notLent hni') s h1 h2 h3
  exact z' _ H' _ r' sF
theorem hide_upd {O : List Addr} {H : Hp} {a : Addr} {o : HO} (ha : a ∈ O) : hide O (upd H a o) = hide O H := by
  funext b
  unfold hide
  by_cases c : b ∈ O
  · rw [if_pos c, if_pos c]
  · rw [if_neg c, if_neg c, upd_ne (fun z => c (by rw [z]; exact ha))]
theorem Deep.write {K : PySem.W.Frag} {H0 : HB} {O : List Addr} {σ : L2.St} {H : Hp} {ρ : Vars} {fp : Nat → Option Addr} (D : Deep K own H0 O σ H ρ fp) {i : Nat} (hi : i ∈ own) {a : Addr} {ob : HO} {v : V} {d de : PyData} (q : ρ[i]? = some (some d)) (e : σ[i]? = some (some v)) (fa : fp i = some a) (rs : Mi K (hide O H) (upd H a ob) v a de) :
    Deep K own H0 O σ (upd H a ob) (ρ.set i (some de)) fp := by
  have hid : ∀ o', hide O (upd H a o') = hide O H := fun o' => hide_upd (D.ino i a hi fa).1
  have hlt : i < ρ.length := (List.getElem?_eq_some_iff.mp q).1
  refine ⟨fun j d' cj q' => ?_, fun j b cj q' => ⟨(D.ino j b cj q').1, fun ⟨d', e'⟩ => (D.ino j b cj q').2 ?_⟩, D.dis, D.bor⟩
  case refine_2 =>
    by_cases z : i = j
    · subst z; exact ⟨d, q⟩
    · rw [List.getElem?_set_ne z] at e'; exact ⟨d', e'⟩
  by_cases z : i = j
  · subst z
    rw [List.getElem?_set_self hlt] at q'
    cases q'
    exact ⟨v, a, e, fa, by rw [hid]; exact rs⟩
  · rw [List.getElem?_set_ne z] at q'
    obtain ⟨w, b, g1, g2, g3⟩ := D.at_ j d' cj q'
    have n : b ≠ a := fun n => by
      subst n
      exact z (D.dis i j _ hi cj fa g2)
    exact ⟨w, b, g1, g2, g3.mono (by rw [hid]; exact Same.refl _) fun o ho => by rw [upd_ne n]; exact ho⟩
theorem Rel.writeM {H0 : HB} {O0 O : List Addr} {σ : L2.St} {H : Hp} {ρ : Vars} {i : Nat} (hi : i ∈ own) {a : Addr} {ob : HO} {v : V} {d d0 de : PyData} {H1 : Hp} (r : Rel X.K own H0 O0 O σ H ρ) (q : ρ[i]? = some (some d)) (e : σ[i]? = some (some v)) (ha : a ∈ O) (m : Mi X.K (hide O H) H1 v a d0) (rs : Mi X.K (hide O H) (upd H a ob) v a de) :
    Rel X.K own H0 O0 O σ (upd H a ob) (ρ.set i (some de)) ∧ Same (hide O H) (hide O (upd H a ob)) := by
  have hid : ∀ o', hide O (upd H a o') = hide O H := fun o' => hide_upd ha
  obtain ⟨fp, D⟩ := r.deep
  have fa : fp i = some a := D.fpAt hi q e ha m
  have h0 : H0 a = none := (D.ino i a hi fa).2 ⟨_, q⟩
  refine ⟨⟨fun b o hb => ?_, r.st0, by simpa using r.len, r.sub, fun b hb => ?_, fun j d' cj q' => ?_, ⟨fp, D.write hi q e fa rs⟩, r.mark⟩, by rw [hid]; exact Same.refl _⟩
  · have n : b ≠ a := ne_of_none hb h0
    rw [upd_ne n]; exact r.same b o hb
  · by_cases n : b = a
    · subst n; exact .inr ⟨h0, rs.own⟩
    · rw [upd_ne n]; exact r.lists b hb
  · have z : i ≠ j := fun z => cj (z ▸ hi)
    rw [List.getElem?_set_ne z] at q'
    rw [hid]
    exact r.free j d' cj q'
theorem Rel.writeV {H0 : HB} {O0 O : List Addr} {σ : L2.St} {H : Hp} {ρ : Vars} {i : Nat} (hi : i ∈ own) {a : Addr} {ob : HO} {d de : PyData} (r : Rel X.K own H0 O0 O σ H ρ) (q : ρ[i]? = some (some d)) (e : σ[i]? = some (some (.ref a))) (ha : a ∈ O) (h0 : H0 a = none) (rs : OwnV X.K (hide O H) (upd H a ob) a de) :
    Rel X.K own H0 O0 O σ (upd H a ob) (ρ.set i (some de)) ∧ Same (hide O H) (hide O (upd H a ob)) := r.writeM hi q e ha (.inl ⟨rfl, rs⟩) (.inl ⟨rfl, rs⟩)
theorem Rel.write {H0 : HB} {O0 O : List Addr} {σ : L2.St} {H : Hp} {ρ : Vars} {i : Nat} (hi : i ∈ own) {a : Addr} {vs vs' : List V} {d : PyData} {es : List PyData} (r : Rel X.K own H0 O0 O σ H ρ) (q : ρ[i]? = some (some d)) (e : σ[i]? = some (some (.ref a))) (ha : a ∈ O) (h0 : H0 a = none) (h : H a = some (.lst vs)) (rs : Rps X.K (hide O H) vs' es) :
    Rel X.K own H0 O0 O σ (upd H a (.lst vs')) (ρ.set i (some (.list es))) ∧ Same (hide O H) (hide O (upd H a (.lst vs'))) := r.writeV hi q e ha h0 ⟨vs', upd_same, rs⟩
theorem Apt.laid {K : PySem.W.Frag} {H0 : HB} {O : List Addr} {σ : L2.St} {H H' : Hp} {ρ : Vars} {xs : List Addr} (A : Apt K own H0 O σ H ρ xs) {i : Nat} (hl : σ.length = ρ.length) (hni : ∀ q ∈ H0.b, i ≠ q.1) {p : Addr} {v : V} {dn : PyData} (s : Same H H') (hp : H p = none) (h0 : H0 p = none) (np : p ∉ O) (nx : p ∉ xs) (rs : Mi K (hide (p :: O) H') H' v p dn) :
    Apt K own H0 (p :: O) (σ.set i (some v)) H' (ρ.set i (some dn)) xs := by
  obtain ⟨fp, D, k⟩ := A
  refine ⟨_, D.laid hl hni s hp h0 np rs, fun j b hj e z => ?_⟩
  by_cases c : j = i
  · rw [if_pos c] at e; cases e; exact nx z
  · rw [if_neg c] at e; exact k j b hj e z
theorem Apt.write {K : PySem.W.Frag} {H0 : HB} {O : List Addr} {σ : L2.St} {H : Hp} {ρ : Vars} {xs : List Addr} (A : Apt K own H0 O σ H ρ xs) {i : Nat} (hi : i ∈ own) {a : Addr} {ob : HO} {v : V} {d d0 de : PyData} {H1 : Hp} (q : ρ[i]? = some (some d)) (e : σ[i]? = some (some v)) (ha : a ∈ O) (m : Mi K (hide O H) H1 v a d0) (rs : Mi K (hide O H) (upd H a ob) v a de) :
    Apt K own H0 O σ (upd H a ob) (ρ.set i (some de)) xs ∧ a ∉ xs := by
  obtain ⟨fp, D, k⟩ := A
  have fa := D.fpAt hi q e ha m
  exact ⟨⟨fp, D.write hi q e fa rs, k⟩, k i a hi fa⟩
theorem Apt.upd {K : PySem.W.Frag} {H0 : HB} {O : List Addr} {σ : L2.St} {H : Hp} {ρ : Vars} {xs : List Addr} (A : Apt K own H0 O σ H ρ xs) {a : Addr} {ob : HO} (ha : a ∈ O) (hx : a ∈ xs) : Apt K own H0 O σ (L2.upd H a ob) ρ xs := by
  obtain ⟨fp, D, k⟩ := A
  refine ⟨fp, ⟨fun i d hi q => ?_, D.ino, D.dis, D.bor⟩, k⟩
  obtain ⟨v, b, h1, h2, h3⟩ := D.at_ i d hi q
  have n : b ≠ a := fun z => k i b hi h2 (z ▸ hx)
  exact ⟨v, b, h1, h2, h3.mono (by rw [hide_upd ha]; exact Same.refl _) fun o ho => by rw [upd_ne n]; exact ho⟩
def sApp (i : Nat) (f : Vars → R PyData) (ρ : Vars) : Out := match ρ.getD i none with
  | some (.list ds) => (f ρ).run ρ fun d => if (decide (ds.length < sizeLine) && imm d) = true then .nx (ρ.set i (some (.list (ds ++ [d])))) else .bad
  | _ => .bad
def sAppM (own : List Nat) (i : Nat) (f : Vars → R PyData) (ρ : Vars) : Out := match ρ.getD i none with
  | some (.list ds) => (f (mask own ρ)).run ρ fun d => if ds.length < sizeLine then .nx (ρ.set i (some (.list (ds ++ [d])))) else .bad
  | _ => .bad
theorem getD_some {ρ : Vars} {i : Nat} {d : PyData} (h : ρ.getD i none = some d) : ρ[i]? = some (some d) := by
  rw [List.getD_eq_getElem?_getD] at h
  cases e : ρ[i]? with
  | none => rw [e] at h; cases h
  | some o => rw [e] at h; exact congrArg some h
theorem own_list {i : Nat} (hi : i ∈ own) {H0 : HB} {O0 O : List Addr} {σ : L2.St} {H : Hp} {ρ : Vars} {ds : List PyData} (r : Rel X.K own H0 O0 O σ H ρ) (e : ρ.getD i none = some (.list ds)) : ∃ a vs, σ[i]? = some (some (.ref a)) ∧ a ∈ O ∧ H0 a = none ∧ H a = some (.lst vs) ∧ Rps X.K (hide O H) vs ds := by
  obtain ⟨v, a, h1, h2, h3, h⟩ := r.mine hi (getD_some e)
  obtain ⟨rfl, vs, h4, h5⟩ := h.list
  exact ⟨a, vs, h1, h2, h3, h4, h5⟩
theorem Rel.mineL {i : Nat} (hi : i ∈ own) {H0 : HB} {O0 O : List Addr} {σ : L2.St} {H : Hp} {ρ : Vars} {ds : List PyData} (r : Rel X.K own H0 O0 O σ H ρ) (e : ρ[i]? = some (some (.list ds))) : ∃ a vs, σ[i]? = some (some (.ref a)) ∧ a ∈ O ∧ H0 a = none ∧ H a = some (.lst vs) ∧ Rps X.K (hide O H) vs ds := by
  obtain ⟨v, a, h1, h2, h3, h⟩ := r.mine hi e
  obtain ⟨rfl, vs, h4, h5⟩ := h.list
  exact ⟨a, vs, h1, h2, h3, h4, h5⟩
theorem getD_list {ρ : Vars} {i : Nat} {k : List PyData → Out} {H0 : HB} {O0 O : List Addr} {H : Hp} {D : Ends} (z : SOut X W own H0 O0 O H D (match ρ.getD i none with
    | some (.list ds) => k ds
    | _ => .bad)) : ∃ ds, ρ.getD i none = some (.list ds) ∧ SOut X W own H0 O0 O H D (k ds) := by
  cases e : ρ.getD i none with
  | none => rw [e] at z; exact z.elim
  | some d =>
    rw [e] at z
    cases d with
    | list ds => exact ⟨ds, rfl, z⟩
    | _ => exact z.elim
section
variable {i : Nat} {x : Str} {e : Expr} {f : Vars → R PyData} {p apos cpos pos : Pos}
theorem sx_appM (h : EX X W e f) (ho : own.contains i = true) (hN : X.N[i]? = some x := by rfl) (hv : Vis X.env.scope x := by first | exact Or.inl rfl | exact Or.inr (Or.inl rfl) | exact Or.inr (Or.inr rfl)) (hd : (x == ("__debug__" : Str)) = false := by decide)
    (hcd : (x == ("__classdict__" : Str)) = false := by decide)
    (hbase : attributeBase (.Name x p) "append" X.env (eval (.Name x p) X.env) = eval (.Name x p) X.env := by rfl)
    (hfew : ((backTo cpos (starEach [e] X.env)).all (fun x => !x.1) && (backToKw cpos (keywordEach [] X.env)).all (fun x => x.1.isSome)
      && decide (([e] : List Expr).length + ([] : List Keyword).length + (if ([] : List Keyword).isEmpty then 0 else 1) < 30)) = true := by rfl)
    (hline : (apos.endLine == cpos.line) = true := by rfl) (hs : starEach [e] X.env = (false, eval e X.env) :: starEach [] X.env := by rfl) (hplain : (backTo cpos (starEach [] X.env)).any (·.1) = false := by rfl)
    (hsw : swapsWith (.Call (.Attribute (.Name x p) "append" apos) [e] [] cpos) none pos.line X.env = pure false := by rfl) :
    SX X W own (.Expr (.Call (.Attribute (.Name x p) "append" apos) [e] [] cpos) pos) (sAppM own i f) := by
  obtain ⟨t, q, ht⟩ := h
  have hi : i ∈ own := List.contains_iff_mem.mp ho
  refine ⟨_, ps_expr (pe_bm PySem.F.plainAttrs_list PySem.F.slot_list_append PySem.F.type_list_append mt_append (pe_var hN hv hd hcd) (pa_cons q pa_nil hs) hbase hfew hline hs hplain) hsw, fun σ H ρ D H0 O0 O r z => ?_⟩
  unfold sAppM at z
  obtain ⟨ds, e1, z⟩ := getD_list z
  obtain ⟨a, vs, g1, g2, g3, g4, g5⟩ := own_list hi r e1
  refine ⟨.ref a, g1, .inl ⟨rfl, vs, .inl (.inl g4)⟩, ht σ H O _ _ r.stands r.vrelM (EOut.run r z fun d v H' s rv z' r' => ?_)⟩
  by_cases c : ds.length < sizeLine
  · rw [if_pos c] at z'
    obtain ⟨r2, sF⟩ := r'.write hi (getD_some e1) g1 g2 g3 (s _ _ g4) ((g5.mono (hide_same s)).append (.cons rv .nil))
    exact ⟨a, vs, v, rfl, rfl, s _ _ g4, by rw [g5.length]; exact c, z' σ _ O r2 sF⟩
  · rw [if_neg c] at z'; exact z'.elim
end
end
end Pu
set_option Elab.async false
set_option linter.all false
set_option maxRecDepth 100000
set_option maxHeartbeats 4000000
namespace Pu
open PySem PySem.Spec PyProof.Rows L2
section
variable {X : Cx} {W : WX} {own : List Nat}
def forL (gt : PyData → Vars → Option Vars) (g : Vars → Out) : List PyData → Vars → Out
  | [], ρ => .nx ρ
  | d :: ds, ρ => match gt d ρ with
    | none => .bad
    | some ρ1 => match g ρ1 with
      | .nx ρ2 => forL gt g ds ρ2
      | .ct ρ2 => forL gt g ds ρ2
      | .bk ρ2 => .nx ρ2
      | .rt d => .rt d
      | .err c ρ2 => .err c ρ2
      | .bad => .bad
def sFor (own : List Nat) (fi : Vars → R (List PyData)) (gt : PyData → Vars → Option Vars) (g : Vars → Out) (ρ : Vars) : Out := (fi (mask own ρ)).run ρ fun ds => forL gt g ds ρ
theorem sx_for {tg iter : Expr} {body : List Stmt} {js : List Nat} {fi : Vars → R (List PyData)} {gt : PyData → Vars → Option Vars} {g : Vars → Out} {pos : Pos} (hp : PassesOwn (model X.prog X.w) X.A X.env X.xe) (hc : X.calm = true) (hi : IX X W tg iter fi) (hg : GX X tg js gt) (hin : GtIn js gt) (ho : (js.all fun j => !own.contains j) = true)
    (hb : SsX X W own body g) (hs : ∀ x, foldedSetIterable iter X.env x = pure x := by intro _; rfl) : SX X W own (.For tg iter body [] pos) (sFor own fi gt g) := by
  obtain ⟨wi, p, hwi⟩ := hi
  obtain ⟨ok, tgt, q, hgt⟩ := hg
  obtain ⟨tb, pb, htb⟩ := hb
  have hj : ∀ j ∈ js, j ∉ own := fun j h z => by
    have := List.all_eq_true.mp ho j h
    rw [List.contains_iff_mem.mpr z] at this; cases this
  refine ⟨_, ps_for hp hc p q pb hs, fun σ H ρ D H0 O0 O r z => ?_⟩
  refine hwi σ H O (mask own ρ) _ r.stands r.vrelM ?_
  unfold sFor at z
  cases e : fi (mask own ρ) with
  | bad => rw [e] at z; exact z
  | err c => rw [e] at z; exact fun H' s => z σ H' O (r.step s) (hide_same s)
  | ok ds =>
    rw [e, R.run_ok] at z
    intro J H1 s1 hJ
    refine ⟨fun i m σ2 H2 => m = ds.length - i ∧ i ≤ ds.length ∧ ∃ O2 ρ2, Rel X.K own H0 O0 O2 σ2 H2 ρ2 ∧ Same (hide O H1) (hide O2 H2) ∧ SOut X W own H0 O0 O2 H2 D (forL gt g (ds.drop i) ρ2), ⟨ds.length, rfl, Nat.zero_le _, O, ρ, r.step s1, Same.refl _, SOut.from z (hide_same s1)⟩, ?_⟩
    rintro i m σ2 H2 ⟨rfl, hle, O2, ρ2, r2, sF, z2⟩
    obtain ⟨j1, j2⟩ := hJ i H2 O2 r2.stands sF
    by_cases hlt : i < ds.length
    · have hd : ds[i]? = some ds[i] := List.getElem?_eq_getElem hlt
      obtain ⟨g1, g2⟩ := j1 _ hd
      have hdrop : ds.drop i = ds[i] :: ds.drop (i + 1) := List.drop_eq_getElem_cons hlt
      rw [hdrop] at z2
      unfold forL at z2
      cases eg : gt ds[i] ρ2 with
      | none => rw [eg] at z2; exact z2.elim
      | some ρ3 =>
        rw [eg] at z2
        dsimp only at z2
        refine .inr ⟨g1, fun σ' H' => (i + 1 ≤ ds.length ∧ ∃ O2 ρ2, Rel X.K own H0 O0 O2 σ' H' ρ2 ∧ Same (hide O H1) (hide O2 H') ∧ SOut X W own H0 O0 O2 H' D (forL gt g (ds.drop (i + 1)) ρ2)),
          fun σ' H' hn => ⟨ds.length - (i + 1), by omega, rfl, hn.1, hn.2⟩, fun x H3 y => ?_⟩
        obtain ⟨s23, rx⟩ := g2 x H3 y
        have r3 := r2.step s23
        refine hgt x ds[i] σ2 H3 O2 (mask own ρ2) (mask own ρ3) _ r3.stands r3.vrelM rx (ok.msk own _ ρ2 ρ3 hj eg) fun σ3 v3 l3 f3 => ?_
        have r4 : Rel X.K own H0 O0 O2 σ3 H3 ρ3 := other_of ok hj r3 eg v3 l3 f3 (hin.out _ ρ2 ρ3 eg)
        have sF3 : Same (hide O H1) (hide O2 H3) := sF.trans (hide_same s23)
        refine htb σ3 H3 ρ3 _ H0 O0 O2 r4 ?_
        cases eb : g ρ3 with
        | nx ρ4 =>
          rw [eb] at z2
          exact fun σ5 H5 O5 r5 s5 => ⟨hlt, O5, ρ4, r5, sF3.trans s5, SOut.from z2 ((hide_same s23).trans s5)⟩
        | ct ρ4 =>
          rw [eb] at z2
          exact fun σ5 H5 O5 r5 s5 => ⟨hlt, O5, ρ4, r5, sF3.trans s5, SOut.from z2 ((hide_same s23).trans s5)⟩
        | bk ρ4 =>
          rw [eb] at z2
          exact fun σ5 H5 O5 r5 s5 => z2 σ5 H5 O5 r5 ((hide_same s23).trans s5)
        | rt d => rw [eb] at z2; exact RtW.from z2 (hide_same s23)
        | err c ρ4 =>
          rw [eb] at z2
          exact fun σ5 H5 O5 r5 s5 => z2 σ5 H5 O5 r5 ((hide_same s23).trans s5)
        | bad => rw [eb] at z2; exact z2
    · have e3 : i = ds.length := by omega
      subst e3
      refine .inl ⟨j2 (Nat.le_refl _), ?_⟩
      rw [List.drop_length] at z2
      exact z2 σ2 H2 O2 r2 (Same.refl _)
def whileL (c : Vars → R Bool) (g : Vars → Out) : Nat → Vars → Out
  | 0, _ => .bad
  | n + 1, ρ => (c ρ).run ρ fun b => if b = true then (match g ρ with
      | .nx ρ2 => whileL c g n ρ2
      | .ct ρ2 => whileL c g n ρ2
      | .bk ρ2 => .nx ρ2
      | .rt d => .rt d
      | .err c ρ2 => .err c ρ2
      | .bad => .bad) else .nx ρ
theorem sx_while {c : Expr} {body : List Stmt} {tc : Vars → R Bool} {g : Vars → Out} {pos : Pos} (n : Nat) (hp : PassesOwn (model X.prog X.w) X.A X.env X.xe) (hc : TX X W c tc) (hb : SsX X W own body g) : SX X W own (.While c body [] pos) (whileL tc g n) := by
  obtain ⟨t, p, ht⟩ := hc
  obtain ⟨tb, pb, htb⟩ := hb
  refine ⟨_, ps_while hp p pb, fun σ H ρ D H0 O0 O r z => ?_⟩
  refine ⟨fun m σ2 H2 => ∃ O2 ρ2, Rel X.K own H0 O0 O2 σ2 H2 ρ2 ∧ SOut X W own H0 O0 O2 H2 D (whileL tc g m ρ2), ⟨n, O, ρ, r, z⟩, ?_⟩
  rintro m σ2 H2 ⟨O2, ρ2, r2, z2⟩
  cases m with
  | zero => exact z2.elim
  | succ m =>
    unfold whileL at z2
    refine ht σ2 H2 O0 ρ2 _ r2.stands0 r2.vrel0 (TOut.run r2 z2 fun b H3 s3 z3 r3 => ?_)
    cases b with
    | false =>
      simp only [Bool.false_eq_true, if_false] at z3 ⊢
      exact z3 σ2 H3 O2 r3 (Same.refl _)
    | true =>
      simp only [if_true] at z3 ⊢
      refine ⟨fun σ' H' => ∃ O2 ρ2, Rel X.K own H0 O0 O2 σ' H' ρ2 ∧ SOut X W own H0 O0 O2 H' D (whileL tc g m ρ2), fun σ' H' h => ⟨m, Nat.lt_succ_self m, h⟩, ?_⟩
      refine htb σ2 H3 ρ2 _ H0 O0 O2 r3 ?_
      cases eb : g ρ2 with
      | nx ρ4 => rw [eb] at z3; exact fun σ5 H5 O5 r5 s5 => ⟨O5, ρ4, r5, SOut.from z3 s5⟩
      | ct ρ4 => rw [eb] at z3; exact fun σ5 H5 O5 r5 s5 => ⟨O5, ρ4, r5, SOut.from z3 s5⟩
      | bk ρ4 => rw [eb] at z3; exact z3
      | rt d => rw [eb] at z3; exact z3
      | err c ρ4 => rw [eb] at z3; exact z3
      | bad => rw [eb] at z3; exact z3
def IpX (X : Cx) (op : Operator) (g : PyData → PyData → Option PyData) : Prop := ∃ r, PIp X op r ∧ Op2 X.K r g
theorem ipx_addI : IpX X .Add (gInt (fun _ _ => true) fun i j => .int (i + j)) := by
  refine ⟨_, ip_add, fun H O x y d e z Q hO rx ry h q => ?_⟩
  cases rx with
  | int i =>
    cases ry with
    | int j => cases h; exact ⟨i, j, rfl, rfl, q _ H (Same.refl H) (.int _)⟩
    | _ => cases h
  | _ => cases h
def sAug (own : List Nat) (i : Nat) (g : PyData → PyData → Option PyData) (f : Vars → R PyData) (ρ : Vars) : Out := match ρ.getD i none with
  | some d => (f (mask own ρ)).run ρ fun e => match g d e with
    | some z => .nx (ρ.set i (some z))
    | none => .bad
  | none => .bad
theorem sx_aug {i : Nat} {x : Str} {e : Expr} {op : Operator} {g : PyData → PyData → Option PyData} {f : Vars → R PyData} {pos' pos : Pos} (hN : X.N.Nodup) (hi : X.N[i]? = some x) (hx : Loc X.env.scope x) (hg : IpX X op g) (h : EX X W e f) (ho : own.contains i = false) (hf : X.fn x = true ∨ X.env.scope.names.lookup x = some .local := by first | exact .inl rfl | exact .inr rfl | assumption) :
    SX X W own (.AugAssign (.Name x pos') op e pos) (sAug own i g f) := by
  obtain ⟨t, p, ht⟩ := h
  obtain ⟨r, pr, hr⟩ := hg
  have hi' : i ∉ own := fun z => by rw [List.contains_iff_mem.mpr z] at ho; cases ho
  refine ⟨_, ps_aug hN hi hx p pr hf, fun σ H ρ D H0 O0 O rl z => ?_⟩
  unfold sAug at z
  cases e1 : ρ.getD i none with
  | none => rw [e1] at z; exact z.elim
  | some d =>
    rw [e1] at z
    obtain ⟨v, h1, h2⟩ := rl.free i d hi' (getD_some e1)
    refine ⟨v, h1, ht σ H O _ _ rl.stands rl.vrelM (EOut.run rl z fun e w H' s rw' z' r' => ?_)⟩
    cases e2 : g d e with
    | none => rw [e2] at z'; exact z'.elim
    | some y =>
      rw [e2] at z'
      exact hr H' O v w d e y _ r'.stands (h2.mono (hide_same s)) rw' e2 fun v2 H2 s2 r2 => z' _ H2 O ((r'.step s2).set hi' r2) (hide_same s2)
end
section
variable (X : Cx) (E : XK)
def BOut (H0 : Hp) (O0 : List Addr) (Q : VK) : Out → Prop
  | .nx _ => ∀ H', Same H0 H' → Q .non H'
  | .rt d => ∀ v H', Same H0 H' → Rp X.K (hide O0 H') v d → Q v H'
  | .err c _ => ∀ H', Same H0 H' → E (exV X.mg c) none H'
  | _ => False
abbrev WD : WX := fun c d _ H => E c d H
def BX (own : List Nat) (sts : List Stmt) (g : Vars → Out) : Prop :=
  ∃ t, PSs X sts t ∧ ∀ σ H ρ Q (H0 : Hp) O0 O, Rel X.K own (HB.nl H0) O0 O σ H ρ → BOut X E H0 O0 Q (g ρ) → t { nx := fun _ H' => Q .non H', rt := Q } σ H
end
section
variable {X : Cx} {E : XK} {own : List Nat}
theorem BX.of {sts : List Stmt} {g : Vars → Out} (h : SsX X (WD E) own sts g) : BX X E own sts g := by
  obtain ⟨t, p, ht⟩ := h
  refine ⟨t, p, fun σ H ρ Q H0 O0 O r z => ht σ H ρ _ (HB.nl H0) O0 O r ?_⟩
  cases e : g ρ with
  | nx ρ' => rw [e] at z; exact fun σ' H' O' r' s' => z H' r'.same
  | rt d => rw [e] at z; exact fun v H' O' s _ rv => z v H' s rv
  | err c ρ' => rw [e] at z; exact fun σ' H' O' r' s' => z H' r'.same
  | bk _ => rw [e] at z; exact z.elim
  | ct _ => rw [e] at z; exact z.elim
  | bad => rw [e] at z; exact z.elim
theorem BX.cons {st : Stmt} {rest : List Stmt} {g h : Vars → Out} {own' : List Nat} (a : SX X (WD E) own st g) (b : BX X E own' rest h) (ho : (own'.all fun i => own.contains i) = true) : BX X E own (st :: rest) (sSeq g h) := by
  obtain ⟨t, p, ht⟩ := a
  obtain ⟨u, q, hu⟩ := b
  refine ⟨_, pss_cons p q, fun σ H ρ Q H0 O0 O r z => ht σ H ρ _ (HB.nl H0) O0 O r ?_⟩
  unfold sSeq at z
  cases e : g ρ with
  | nx ρ1 =>
    rw [e] at z
    intro σ1 H1 O1 r1 s1
    obtain ⟨O2, r2, _⟩ := r1.freeze (own' := own') (fun i hi => List.contains_iff_mem.mp (List.all_eq_true.mp ho i hi)) fun p hp => nomatch hp
    exact hu σ1 H1 ρ1 Q H0 O0 O2 r2 z
  | rt d => rw [e] at z; exact fun v H' O' s _ rv => z v H' s rv
  | err c ρ' => rw [e] at z; exact fun σ' H' O' r' s' => z H' r'.same
  | bk _ => rw [e] at z; exact z.elim
  | ct _ => rw [e] at z; exact z.elim
  | bad => rw [e] at z; exact z.elim
end
def fnD (N : Nat) (g : Vars → Out) (ds : List PyData) : R PyData := match g (ds.map some ++ List.replicate (N - ds.length) none) with
  | .nx _ => .ok .none
  | .rt d => .ok d
  | .err c _ => .err c
  | _ => .bad
section
variable {P : Program} {w : World} {K : PySem.W.Frag} {mg : Str → Option Value} {base : Heap}
theorem start_rel {K : PySem.W.Frag} {own : List Nat} {N : List Str} {H : Hp} {O : List Addr} {vs : List V} {ds : List PyData} (hO : Stands O H) (r : Rps K (hide O H) vs ds) (hl : ds.length ≤ N.length) (ho : ∀ i ∈ own, ds.length ≤ i) (hmk : (own.all fun i => decide (i < 1000)) = true) :
    Rel K own (HB.nl H) O O (L2.start N vs) H (ds.map some ++ List.replicate (N.length - ds.length) none) where
  same := Same.refl H
  st0 := hO
  len := by
    unfold L2.start
    rw [List.length_append, List.length_append, List.length_map, List.length_map, List.length_replicate, List.length_replicate, r.length]
  sub := fun a ha => ha
  lists := fun a ha => .inl ha
  free := fun i d _ e => by
    by_cases h : i < ds.length
    · rw [List.getElem?_append_left (by simpa using h), List.getElem?_map] at e
      cases q : ds[i]? with
      | none => rw [q] at e; cases e
      | some x =>
        rw [q] at e
        cases e
        obtain ⟨v, h1, h2⟩ := r.get q
        refine ⟨v, ?_, h2⟩
        unfold L2.start
        rw [List.getElem?_append_left (by rw [List.length_map, r.length]; exact h), List.getElem?_map, h1]
        rfl
    · rw [List.getElem?_append_right (by simpa using h), List.getElem?_replicate] at e
      split at e <;> cases e
  deep := ⟨_, Deep.zero (fun i d c e => by
    have h := ho i c
    rw [List.getElem?_append_right (by simpa using h), List.getElem?_replicate] at e
    split at e <;> cases e) rfl⟩
  mark := fun i hi => absurd (of_decide_eq_true (List.all_eq_true.mp hmk _ hi)) (by omega)
theorem fn_data {x qual : Str} {st : Stmt} {f : Addr} {fd : FuncData} {N ps : List Str} {k n : Nat} {own : List Nat} {g : Vars → Out} (F : Fun K x qual st f fd) (S : FnScope N ps (defScope st)) (hn : ps.length = n) (ho : (own.all fun i => decide (n ≤ i)) = true)
    (hb : ∀ (cdv : Value) (A : Around) (outer : List Env) (s : Shared) (H : Hp) (E : XK), Room k (A.deeper (envOfC qual (defScope st) s.heap.objs.size f cdv)) → BX (cxOf (L2.CX P w) P w K mg base N qual (defScope st) f cdv A outer s H E) E own (defBody st) g) (hmk : (own.all fun i => decide (i < 1000)) = true := by decide) :
    FnOk P w K mg base (L2.CX P w) (k + 1) f fd ps (spD K mg n (fnD N.length g)) := by
  refine F.okX S (fun vs H Q E h => ?_) fun cdv A outer s H vs Q E hr h => ?_
  · rw [h.1]; exact hn.symm
  obtain ⟨hl, O, ds, hO, r, z⟩ := h
  obtain ⟨t, p, ht⟩ := hb cdv A outer s H E hr
  have hpl : ps.length ≤ N.length := by have := congrArg List.length S.pre; rw [List.length_take] at this; omega
  have hdl : ds.length = n := by rw [← r.length]; exact hl
  refine ⟨t, p, ht _ H _ Q H O O (start_rel hO r (by omega) (fun i hi => by have := of_decide_eq_true (List.all_eq_true.mp ho i hi); omega) hmk) ?_⟩
  unfold fnD at z
  cases e : g (ds.map some ++ List.replicate (N.length - ds.length) none) with
  | nx ρ' => rw [e] at z; exact fun H' s' => z .non H' s' .non
  | rt d => rw [e] at z; exact z
  | err c ρ' => rw [e] at z; exact z
  | bk _ => rw [e] at z; exact z.elim
  | ct _ => rw [e] at z; exact z.elim
  | bad => rw [e] at z; exact z.elim
theorem cal_data {x qual : Str} {st : Stmt} {f : Addr} {fd : FuncData} {N ps : List Str} {k n : Nat} {own : List Nat} {g : Vars → Out} (F : Fun K x qual st f fd) (hm : mg x = some (.ref f)) (hbn : Binds K fd ps []) (S : FnScope N ps (defScope st)) (hn : ps.length = n) (ho : (own.all fun i => decide (n ≤ i)) = true)
    (hb : ∀ (cdv : Value) (A : Around) (outer : List Env) (s : Shared) (H : Hp) (E : XK), Room k (A.deeper (envOfC qual (defScope st) s.heap.objs.size f cdv)) → BX (cxOf (L2.CX P w) P w K mg base N qual (defScope st) f cdv A outer s H E) E own (defBody st) g) (hmk : (own.all fun i => decide (i < 1000)) = true := by decide) :
    Cal P w K mg base (k + 1) x n (fnD N.length g) := ⟨f, fd, ps, hn, fn_data F S hn ho hb hmk, hm, F.kp, hbn⟩
theorem cal_zero {x qual : Str} {st : Stmt} {f : Addr} {fd : FuncData} {ps : List Str} {n : Nat} (F : Fun K x qual st f fd) (hm : mg x = some (.ref f)) (hbn : Binds K fd ps []) (hn : ps.length = n) : Cal P w K mg base 0 x n fun _ => .bad := by
  have no : ∀ vs H Q E, ¬ spD K mg n (fun _ => .bad) vs H Q E := fun vs H Q E h => by
    obtain ⟨_, _, _, _, _, z⟩ := h
    exact z
  exact ⟨f, fd, ps, hn, ⟨fun vs H Q E h => absurd h (no vs H Q E), fun A outer s H args us vs Q E _ _ _ _ h => absurd h (no vs H Q E)⟩, hm, F.kp, hbn⟩
theorem takesD {N : List Str} {qual : Str} {scope : Scope} {f : Addr} {cdv : Value} {A : Around} {outer : List Env} {s : Shared} {H : Hp} {E : XK} : Takes (cxOf (L2.CX P w) P w K mg base N qual scope f cdv A outer s H E) (WD E) := takes_of rfl rfl rfl rfl
theorem passD {N : List Str} {qual : Str} {scope : Scope} {f : Addr} {cdv : Value} {A : Around} {outer : List Env} {s : Shared} {H : Hp} {E : XK} : PassesOwn (model (cxOf (L2.CX P w) P w K mg base N qual scope f cdv A outer s H E).prog (cxOf (L2.CX P w) P w K mg base N qual scope f cdv A outer s H E).w) (cxOf (L2.CX P w) P w K mg base N qual scope f cdv A outer s H E).A (cxOf (L2.CX P w) P w K mg base N qual scope f cdv A outer s H E).env (cxOf (L2.CX P w) P w K mg base N qual scope f cdv A outer s H E).xe := passes_of rfl
end
end Pu
set_option Elab.async false
set_option linter.all false
set_option maxRecDepth 100000
set_option maxHeartbeats 4000000
namespace Pu
open PySem PySem.Spec PyProof.Rows L2
abbrev wfuel : Nat := 1000000
def gAddI : PyData → PyData → Option PyData := gInt (fun _ _ => true) fun i j => .int (i + j)
def spLaw (K : PySem.W.Frag) : Sp := fun vs H Q _ => ∃ (a : Addr) (ns : List Int), vs = [.ref a] ∧ SqL K H a (ns.map V.int) ∧ ns.length ≤ 63 ∧ ∀ H', Q (.bl true) H'
theorem law_imp {K : PySem.W.Frag} {mg : Str → Option Value} {f : List PyData → R PyData} (hl : ∀ ns : List Int, ns.length ≤ 63 → f [.list (ns.map .int)] = .ok (.bool true)) : ∀ vs H Q E, spLaw K vs H Q E → spD K mg 1 f vs H Q E := fun vs H Q E h => by
  obtain ⟨a, ns, rfl, hS, h63, q⟩ := h
  refine ⟨rfl, [], [.list (ns.map .int)], fun a z => absurd z (by simp), .cons (.lst (by rw [hide_nil]; exact hS) (Rps.ofInts ns)) .nil, ?_⟩
  rw [hl ns h63]
  intro v H' s r
  cases r
  exact q H'
theorem walkL {l : PySem.W.OpenLaw} {q : Program} {loose : List Str} {XP : (Str → Option Value) → Heap → Prop} {YP : World → Heap → Prop} {d : DefRec} {K : Params → PySem.W.Frag} {k : Nat} {x : Str} (hn : l.most = some 63) (hdf : d.params.defaults = []) (hr : Room k callerA)
    (hY : ∀ (w : World) (h : Heap), YP w h → (K w.params).In h)
    (F : ∀ (w : World) (mg : Str → Option Value) (fa : Addr) (h : Heap), (K w.params).In h → h.Ns mainGlobals mg → mg d.name = some (.ref fa) →
      ∃ fd : FuncData, (∀ (s : Shared) (u : Value), BindsTo s fd ⟨[u], []⟩ [(x, u)]) ∧ ∀ base : Heap, (K w.params).In base → base.Ns mainGlobals mg → FnOk l.prog w (K w.params) mg base (L2.CX l.prog w) k fa fd [x] (spLaw (K w.params))) :
    PySem.W.WalkO q loose XP YP l.row.toRowW d [] (fun f vs => PySem.call f vs) :=
  L2.walk_of (n := 63) (k := k) (x := x) (CX := fun w => L2.CX l.prog w) (sp := fun w => spLaw (K w.params)) hn (by decide) hdf hr hY F (fun _ _ a ns hl _ hS => ⟨a, ns, rfl, hS, hl, fun _ => rfl⟩) fun _ _ _ _ _ z => by
    obtain ⟨_, _, _, _, _, _, _, _, _, _, _, _, z⟩ := z
    exact z
def ErrF (K : PySem.W.Frag) (mg : Str → Option Value) (c : Str) : Prop := ∃ C, mg c = some (.ref C) ∧ PySem.W.excIn K C [.type "ValueError", .type "Exception", .type "BaseException", .type "object"] "ValueError.__new__" = true ∧ PySem.W.keepIn K (.ref C) = true ∧
  PySem.W.subIn K (.ref C) (.type "BaseException") = some true ∧ PySem.W.typeIn K (.ref C) = some (.type "type")
def sRaise (c : Str) (ρ : Vars) : Out := .err c ρ
theorem sx_raise {X : Cx} {W : WX} {own : List Nat} {x m : Str} {j : Nat} {p p2 pos' pos : Pos} (hc : X.calm = true) (tk : Takes X W) (F : ErrF X.K X.mg x) (hg : Gl X x) (hdb : (x == ("__debug__" : Str)) = false := by decide) :
    SX X W own (.Raise (some (.Call (.Name x p) [.Constant (.str m) j p2] [] pos')) none pos) (sRaise x) := by
  obtain ⟨C, h1, h2, h3, h4, h5⟩ := F
  refine ⟨_, ps_raise hc tk (pmk_own PySem.F.excBase_ValueError h2 h1 h3 (raises_own h4 h5) hg hdb), fun σ H ρ D H0 O0 O r z => ?_⟩
  have e : exV X.mg x = .ref C := by unfold exV; rw [h1]; rfl
  rw [← e]
  exact z σ H O r (Same.refl _)
end Pu
set_option Elab.async false
set_option linter.all false
set_option maxRecDepth 100000
set_option maxHeartbeats 4000000
namespace Pu
open PySem PySem.Spec PyProof.Rows L2
section
variable (ρ : Vars)
@[simp] theorem u_sSeq (g h : Vars → Out) : sSeq g h ρ = (g ρ).then h := rfl
@[simp] theorem u_sNil : sNil ρ = .nx ρ := rfl
@[simp] theorem u_sRaise (c : Str) : sRaise c ρ = .err c ρ := rfl
@[simp] theorem u_sBrk : sBrk ρ = .bk ρ := rfl
@[simp] theorem u_sRet (f : Vars → R PyData) : sRet f ρ = (f ρ).run ρ fun d => .rt d := rfl
@[simp] theorem u_sIf (c : Vars → R Bool) (g h : Vars → Out) : sIf c g h ρ = (c ρ).run ρ fun b => if b = true then g ρ else h ρ := rfl
@[simp] theorem u_sSet0 (i : Nat) (f : Vars → R PyData) : sSet [] i f ρ = (f ρ).run ρ fun d => .nx (ρ.set i (some d)) := rfl
@[simp] theorem u_sSet1 (o : Nat) (os : List Nat) (i : Nat) (f : Vars → R PyData) : sSet (o :: os) i f ρ = (f ρ).run ρ fun d => if imm d = true then .nx (ρ.set i (some d)) else .bad := rfl
@[simp] theorem u_sSetM (own : List Nat) (i : Nat) (f : Vars → R PyData) : sSetM own i f ρ = (f (mask own ρ)).run ρ fun d => .nx (ρ.set i (some d)) := rfl
@[simp] theorem mask_nil : mask [] ρ = ρ := by
  have h : ∀ (k : Nat) (ρ : Vars), maskF [] k ρ = ρ := by
    intro k ρ
    induction ρ generalizing k with
    | nil => rfl
    | cons x r ih => unfold maskF; rw [ih]; rfl
  exact h 0 ρ
@[simp] theorem u_mask_c (own : List Nat) (k : Nat) (x : Option PyData) : maskF own k (x :: ρ) = (if own.contains k = true then none else x) :: maskF own (k + 1) ρ := rfl
@[simp] theorem u_mask_n (own : List Nat) (k : Nat) : maskF own k [] = [] := rfl
@[simp] theorem u_sFor (own : List Nat) (fi : Vars → R (List PyData)) (gt : PyData → Vars → Option Vars) (g : Vars → Out) : sFor own fi gt g ρ = (fi (mask own ρ)).run ρ fun ds => forL gt g ds ρ := rfl
@[simp] theorem u_sAsg (own : List Nat) (gt : PyData → Vars → Option Vars) (f : Vars → R PyData) : sAsg own gt f ρ = (f (mask own ρ)).run ρ fun d => match gt d ρ with
  | some ρ' => .nx ρ'
  | none => .bad := rfl
@[simp] theorem u_sAug (own : List Nat) (i : Nat) (g : PyData → PyData → Option PyData) (f : Vars → R PyData) : sAug own i g f ρ = match ρ.getD i none with
  | some d => (f (mask own ρ)).run ρ fun e => match g d e with
    | some z => .nx (ρ.set i (some z))
    | none => .bad
  | none => .bad := rfl
@[simp] theorem u_sNew (own : List Nat) (i : Nat) (f : Vars → R (List PyData)) : sNew own i f ρ = (f (mask own ρ)).run ρ fun ds => .nx (ρ.set i (some (.list ds))) := rfl
@[simp] theorem u_sApp (i : Nat) (f : Vars → R PyData) : sApp i f ρ = match ρ.getD i none with
  | some (.list ds) => (f ρ).run ρ fun d => if (decide (ds.length < sizeLine) && imm d) = true then .nx (ρ.set i (some (.list (ds ++ [d])))) else .bad
  | _ => .bad := rfl
@[simp] theorem u_sAppM (own : List Nat) (i : Nat) (f : Vars → R PyData) : sAppM own i f ρ = match ρ.getD i none with
  | some (.list ds) => (f (mask own ρ)).run ρ fun d => if ds.length < sizeLine then .nx (ρ.set i (some (.list (ds ++ [d])))) else .bad
  | _ => .bad := rfl
@[simp] theorem u_eVar (i : Nat) : eVar i ρ = R.of (ρ.getD i none) := rfl
@[simp] theorem u_eC (d : PyData) : eC d ρ = .ok d := rfl
@[simp] theorem u_aNil : aNil ρ = .ok [] := rfl
@[simp] theorem u_aCons (f : Vars → R PyData) (g : Vars → R (List PyData)) : aCons f g ρ = (f ρ).bind fun d => (g ρ).bind fun ds => .ok (d :: ds) := rfl
@[simp] theorem u_eTup (f : Vars → R (List PyData)) : eTup f ρ = (f ρ).bind fun ds => if ds.length ≤ sizeLine then .ok (.tuple ds) else .bad := rfl
@[simp] theorem u_nLst (f : Vars → R (List PyData)) : nLst f ρ = (f ρ).bind fun ds => if ds.length ≤ sizeLine then .ok ds else .bad := rfl
@[simp] theorem u_eOp (g : PyData → PyData → Option PyData) (f h : Vars → R PyData) : eOp g f h ρ = (f ρ).bind fun d => (h ρ).bind fun e => R.of (g d e) := rfl
@[simp] theorem u_eCall (g : List PyData → Option PyData) (f : Vars → R (List PyData)) : eCall g f ρ = (f ρ).bind fun ds => R.of (g ds) := rfl
@[simp] theorem u_eFn (g : List PyData → R PyData) (f : Vars → R (List PyData)) : eFn g f ρ = (f ρ).bind g := rfl
@[simp] theorem u_tOf (f : Vars → R PyData) : tOf f ρ = (f ρ).bind fun d => match d with
  | .bool b => .ok b
  | _ => .bad := rfl
@[simp] theorem u_tTru (f : Vars → R PyData) : tTru f ρ = (f ρ).bind fun d => R.of (truD d) := rfl
@[simp] theorem u_tNotR (f : Vars → R Bool) : tNotR f ρ = (f ρ).bind fun b => .ok (!b) := rfl
@[simp] theorem u_tAndR (f g : Vars → R Bool) : tAndR f g ρ = (f ρ).bind fun b => if b = true then g ρ else .ok false := rfl
@[simp] theorem u_tOrR (f g : Vars → R Bool) : tOrR f g ρ = (f ρ).bind fun b => if b = true then .ok true else g ρ := rfl
@[simp] theorem u_tYesD : tYesD ρ = .ok true := rfl
@[simp] theorem u_eAnd (f g : Vars → R PyData) : eAnd f g ρ = (tOf f ρ).bind fun b => if b = true then g ρ else .ok (.bool false) := rfl
@[simp] theorem u_eNot (f : Vars → R PyData) : eNot f ρ = (tOf f ρ).bind fun b => .ok (.bool (!b)) := rfl
@[simp] theorem u_eIf (c : Vars → R Bool) (f g : Vars → R PyData) : eIf c f g ρ = (c ρ).bind fun b => if b = true then f ρ else g ρ := rfl
@[simp] theorem u_eNeg (f : Vars → R PyData) : eNeg f ρ = (f ρ).bind fun d => match d with
  | .int i => .ok (.int (-i))
  | _ => .bad := rfl
@[simp] theorem u_eIsi (T : String) (f : Vars → R PyData) : eIsi T f ρ = (f ρ).bind fun d => gIsi T d := rfl
@[simp] theorem u_oNone : oNone ρ = .ok none := rfl
@[simp] theorem u_oSome (f : Vars → R PyData) : oSome f ρ = (f ρ).bind fun d => match d with
  | .int i => .ok (some i)
  | _ => .bad := rfl
@[simp] theorem u_eSl (f : Vars → R PyData) (g h : Vars → R (Option Int)) : eSl f g h ρ = (f ρ).bind fun d => (g ρ).bind fun l => (h ρ).bind fun u => R.of (gSl d l u) := rfl
@[simp] theorem u_iSeq (f : Vars → R PyData) : iSeq f ρ = (f ρ).bind fun d => match d with
  | .list ds => .ok ds
  | .tuple ds => .ok ds
  | _ => .bad := rfl
@[simp] theorem u_iRange (f : Vars → R (List PyData)) : iRange f ρ = (f ρ).bind fun ds => match ds with
  | [.int j] => if okI j = true then .ok (rngD 0 j.toNat) else .bad
  | [.int i, .int j] => if (okI i && okI j) = true then .ok (rngD i (j - i).toNat) else .bad
  | _ => .bad := rfl
@[simp] theorem u_iZipD (f : Vars → R (List PyData)) : iZipD f ρ = (f ρ).bind fun ds => match ds with
  | [.list xs, .list ys] => .ok (zipD xs ys)
  | [.tuple xs, .tuple ys] => .ok (zipD xs ys)
  | _ => .bad := rfl
@[simp] theorem u_eLc (fi : Vars → R (List PyData)) (gt : PyData → Vars → Option Vars) (tt : Vars → R Bool) (f : Vars → R PyData) (vs : List Nat) : eLc fi gt tt f vs ρ = (nLc fi gt tt f vs ρ).bind fun ys => .ok (.list ys) := rfl
@[simp] theorem u_nLc (fi : Vars → R (List PyData)) (gt : PyData → Vars → Option Vars) (tt : Vars → R Bool) (f : Vars → R PyData) (vs : List Nat) : nLc fi gt tt f vs ρ = (fi ρ).bind fun ds => match lcL gt tt f (wipeD ρ vs) ds with
    | .ok ys => if ys.length < sizeLine then .ok ys else .bad
    | _ => .bad := rfl
@[simp] theorem u_wipe_n : wipeD ρ [] = ρ := rfl
@[simp] theorem u_wipe_c (v : Nat) (vs : List Nat) : wipeD ρ (v :: vs) = (wipeD ρ vs).set v none := rfl
@[simp] theorem u_gtName (i : Nat) (d : PyData) : gtName i d ρ = some (ρ.set i (some d)) := rfl
@[simp] theorem u_gtNil : gtNil [] ρ = some ρ := rfl
@[simp] theorem u_gtCons (g : PyData → Vars → Option Vars) (h : List PyData → Vars → Option Vars) (d : PyData) (ds : List PyData) : gtCons g h (d :: ds) ρ = (g d ρ).bind fun ρ' => h ds ρ' := rfl
@[simp] theorem u_gtTup (n : Nat) (h : List PyData → Vars → Option Vars) (ds : List PyData) : gtTup n h (.tuple ds) ρ = if ds.length = n then h ds ρ else none := rfl
@[simp] theorem u_forL_n (gt : PyData → Vars → Option Vars) (g : Vars → Out) : forL gt g [] ρ = .nx ρ := rfl
theorem u_forL_c (gt : PyData → Vars → Option Vars) (g : Vars → Out) (d : PyData) (ds : List PyData) : forL gt g (d :: ds) ρ = match gt d ρ with
    | none => .bad
    | some ρ1 => match g ρ1 with
      | .nx ρ2 => forL gt g ds ρ2
      | .ct ρ2 => forL gt g ds ρ2
      | .bk ρ2 => .nx ρ2
      | .rt d => .rt d
      | .err c ρ2 => .err c ρ2
      | .bad => .bad := rfl
@[simp] theorem u_lcL_n (gt : PyData → Vars → Option Vars) (tt : Vars → R Bool) (f : Vars → R PyData) : lcL gt tt f ρ [] = .ok [] := rfl
theorem u_lcL_c (gt : PyData → Vars → Option Vars) (tt : Vars → R Bool) (f : Vars → R PyData) (d : PyData) (ds : List PyData) : lcL gt tt f ρ (d :: ds) = match gt d ρ with
    | none => .bad
    | some ρ' => (tt ρ').bind fun b => if b = true then (f ρ').bind fun y => (lcL gt tt f ρ ds).bind fun ys => .ok (y :: ys) else lcL gt tt f ρ ds := rfl
end
@[simp] theorem u_gInt (C : Int → Int → Bool) (g : Int → Int → PyData) (i j : Int) : gInt C g (.int i) (.int j) = if C i j = true then some (g i j) else none := rfl
@[simp] theorem u_gCmp (p : Int → Int → Bool) (i j : Int) : gCmp p (.int i) (.int j) = some (.bool (p i j)) := rfl
@[simp] theorem u_gAdd_i (i j : Int) : gAdd (.int i) (.int j) = some (.int (i + j)) := rfl
@[simp] theorem u_gAdd_t (xs ys : List PyData) : gAdd (.tuple xs) (.tuple ys) = if xs.length + ys.length ≤ sizeLine then some (.tuple (xs ++ ys)) else none := rfl
@[simp] theorem u_gAdd_l (xs ys : List PyData) : gAdd (.list xs) (.list ys) = if xs.length + ys.length ≤ sizeLine then some (.list (xs ++ ys)) else none := rfl
@[simp] theorem u_gSub_i (i j : Int) : gSub (.int i) (.int j) = some (.int (i - j)) := rfl
@[simp] theorem u_gSub_b (a b : Bool) : gSub (.bool a) (.bool b) = some (.int ((if a = true then (1 : Int) else 0) - (if b = true then (1 : Int) else 0))) := rfl
@[simp] theorem u_gIx_t (xs : List PyData) (i : Int) : gIx (.tuple xs) (.int i) = atI xs i := rfl
@[simp] theorem u_gIx_l (xs : List PyData) (i : Int) : gIx (.list xs) (.int i) = atI xs i := rfl
@[simp] theorem u_gSl_t (xs : List PyData) (l u : Option Int) : gSl (.tuple xs) l u = some (.tuple (cutD xs l u)) := rfl
@[simp] theorem u_gSl_l (xs : List PyData) (l u : Option Int) : gSl (.list xs) l u = some (.list (cutD xs l u)) := rfl
@[simp] theorem u_gLen_t (xs : List PyData) : gLen [.tuple xs] = some (.int xs.length) := rfl
@[simp] theorem u_gLen_l (xs : List PyData) : gLen [.list xs] = some (.int xs.length) := rfl
@[simp] theorem u_gTuple_t (xs : List PyData) : gTuple [.tuple xs] = some (.tuple xs) := rfl
@[simp] theorem u_gTuple_l (xs : List PyData) : gTuple [.list xs] = some (.tuple xs) := rfl
@[simp] theorem u_gIntC_i (i : Int) : gIntC [.int i] = some (.int i) := rfl
@[simp] theorem u_gIntC_b (b : Bool) : gIntC [.bool b] = some (.int (if b then 1 else 0)) := rfl
@[simp] theorem u_truD_b (b : Bool) : truD (.bool b) = some b := rfl
@[simp] theorem atI_zero {α : Type} (x : α) (r : List α) : atI (x :: r) 0 = some x := atI_nat (j := 0) rfl
@[simp] theorem atI_one {α : Type} (x y : α) (r : List α) : atI (x :: y :: r) 1 = some y := atI_nat (j := 1) rfl
@[simp] theorem atI_two {α : Type} (x y z : α) (r : List α) : atI (x :: y :: z :: r) 2 = some z := atI_nat (j := 2) rfl
theorem sz1000 {n : Nat} (h : n ≤ 10000000) : n ≤ sizeLine := Nat.le_trans h (by decide)
theorem sz1000' {n : Nat} (h : n ≤ 10000000) : n < sizeLine := Nat.lt_of_le_of_lt h (by decide)
@[simp] theorem sz0 : (0 : Nat) ≤ sizeLine := by decide
@[simp] theorem sz1 : (1 : Nat) ≤ sizeLine := by decide
@[simp] theorem sz2 : (2 : Nat) ≤ sizeLine := by decide
@[simp] theorem sz3 : (3 : Nat) ≤ sizeLine := by decide
@[simp] theorem sz4 : (4 : Nat) ≤ sizeLine := by decide
theorem fnD_of {N : Nat} {g : Vars → Out} {ds : List PyData} {d : PyData} (h : g (ds.map some ++ List.replicate (N - ds.length) none) = .rt d) : fnD N g ds = .ok d := by unfold fnD; rw [h]
@[simp] theorem then_ite {c : Prop} [Decidable c] (x y : Out) (f : Vars → Out) : (if c then x else y).then f = if c then x.then f else y.then f := by split <;> rfl
@[simp] theorem bind_ite {α β : Type} {c : Prop} [Decidable c] (x y : R α) (f : α → R β) : (if c then x else y).bind f = if c then x.bind f else y.bind f := by split <;> rfl
@[simp] theorem run_ite {α : Type} {c : Prop} [Decidable c] (x y : R α) (ρ : Vars) (k : α → Out) : (if c then x else y).run ρ k = if c then x.run ρ k else y.run ρ k := by split <;> rfl
@[simp] theorem of_ite {α : Type} {c : Prop} [Decidable c] (x y : Option α) : R.of (if c then x else y) = if c then R.of x else R.of y := by split <;> rfl
end Pu
set_option Elab.async false
set_option linter.all false
set_option maxRecDepth 100000
set_option maxHeartbeats 4000000
namespace Pu
open PySem PySem.Spec PyProof.Rows L2
section
variable {X : Cx} {W : WX}
end
end Pu
set_option Elab.async false
set_option linter.all false
set_option maxRecDepth 100000
set_option maxHeartbeats 4000000
namespace Pu
open PySem PySem.Spec PyProof.Rows L2
theorem Rel.none {K : PySem.W.Frag} {own : List Nat} {H0 : HB} {O0 O : List Addr} {σ : L2.St} {H : Hp} {ρ : Vars} (r : Rel K own H0 O0 O σ H ρ) {i : Nat} {x : Option V} (c : i ∉ own) : Rel K own H0 O0 O (σ.set i x) H (ρ.set i none) where
  same := r.same
  st0 := r.st0
  len := by simpa using r.len
  sub := r.sub
  lists := r.lists
  free := fun j e cj q => by
    by_cases z : i = j
    · subst z
      by_cases hi : i < ρ.length
      · rw [List.getElem?_set_self hi] at q; cases q
      · rw [List.getElem?_eq_none (by simpa using hi)] at q; cases q
    · rw [List.getElem?_set_ne z] at q
      rw [List.getElem?_set_ne z]
      exact r.free j e cj q
  deep := by
    obtain ⟨fp, D⟩ := r.deep
    refine ⟨fp, D.frame fun j hj => ?_⟩
    have z : i ≠ j := fun z => c (z ▸ hj)
    rw [List.getElem?_set_ne z, List.getElem?_set_ne z]
    exact ⟨rfl, fun _ q => q⟩
  mark := r.mark
section
variable {X : Cx} {W : WX} {own : List Nat}
end
section
variable {X : Cx} {W : WX} {own : List Nat}
end
end Pu
set_option Elab.async false
set_option linter.all false
set_option maxRecDepth 100000
set_option maxHeartbeats 4000000
namespace Pu
open PySem PySem.Spec PyProof.Rows L2
section
variable {P : Program} {w : World} {K : PySem.W.Frag} {mg : Str → Option Value} {base : Heap}
abbrev Fun1 (K : PySem.W.Frag) (x : Str) (st : Stmt) (i : Int) (f : Addr) (fd : FuncData) : Prop := FunD K x x (defArgs st) (defBody st) (defScope st) [V.int i] [] f fd
theorem fn_data1 {x : Str} {st : Stmt} {f : Addr} {fd : FuncData} {N ps : List Str} {k n : Nat} {i0 : Int} {own : List Nat} {g : Vars → Out} (F : Fun1 K x st i0 f fd) (S : FnScope N ps (defScope st)) (hn : ps.length = n) (ho : (own.all fun i => decide (n ≤ i)) = true)
    (hb : ∀ (cdv : Value) (A : Around) (outer : List Env) (s : Shared) (H : Hp) (E : XK), Room k (A.deeper (envOfC x (defScope st) s.heap.objs.size f cdv)) → BX (cxOf (L2.CX P w) P w K mg base N x (defScope st) f cdv A outer s H E) E own (defBody st) g) (hmk : (own.all fun i => decide (i < 1000)) = true := by decide) :
    FnOk P w K mg base (L2.CX P w) (k + 1) f fd ps (spD K mg n (fnD N.length g)) := by
  refine F.ok S (fun vs H Q E h => ?_) fun cdv A outer s H vs Q E hr h => ?_
  · rw [h.1]; exact hn.symm
  obtain ⟨hl, O, ds, hO, r, z⟩ := h
  obtain ⟨t, p, ht⟩ := hb cdv A outer s H E hr
  have hpl : ps.length ≤ N.length := by have := congrArg List.length S.pre; rw [List.length_take] at this; omega
  have hdl : ds.length = n := by rw [← r.length]; exact hl
  refine ⟨t, p, ht _ H _ Q H O O (start_rel hO r (by omega) (fun i hi => by have := of_decide_eq_true (List.all_eq_true.mp ho i hi); omega) hmk) ?_⟩
  unfold fnD at z
  cases e : g (ds.map some ++ List.replicate (N.length - ds.length) none) with
  | nx ρ' => rw [e] at z; exact fun H' s' => z .non H' s' .non
  | rt d => rw [e] at z; exact z
  | err c ρ' => rw [e] at z; exact z
  | bk _ => rw [e] at z; exact z.elim
  | ct _ => rw [e] at z; exact z.elim
  | bad => rw [e] at z; exact z.elim
def CalX (P : Program) (w : World) (K : PySem.W.Frag) (mg : Str → Option Value) (base : Heap) (k : Nat) (x : Str) (n : Nat) (i : Int) (f : List PyData → R PyData) : Prop :=
  ∃ (fa : Addr) (fd : FuncData) (ps : List Str) (ds : List Value), ps.length = n + 1 ∧ FnOk P w K mg base (L2.CX P w) k fa fd ps (spD K mg (n + 1) f) ∧ mg x = some (.ref fa) ∧ PySem.W.keepIn K (.ref fa) = true ∧ Binds K fd ps ds ∧ Vals [V.int i] ds
theorem cal_data1 {x : Str} {st : Stmt} {f : Addr} {fd : FuncData} {N ps : List Str} {k n : Nat} {i0 : Int} {own : List Nat} {g : Vars → Out} (F : Fun1 K x st i0 f fd) (hm : mg x = some (.ref f)) (hbn : Binds K fd ps []) (S : FnScope N ps (defScope st)) (hn : ps.length = n) (ho : (own.all fun i => decide (n ≤ i)) = true)
    (hb : ∀ (cdv : Value) (A : Around) (outer : List Env) (s : Shared) (H : Hp) (E : XK), Room k (A.deeper (envOfC x (defScope st) s.heap.objs.size f cdv)) → BX (cxOf (L2.CX P w) P w K mg base N x (defScope st) f cdv A outer s H E) E own (defBody st) g) (hmk : (own.all fun i => decide (i < 1000)) = true := by decide) :
    Cal P w K mg base (k + 1) x n (fnD N.length g) := ⟨f, fd, ps, hn, fn_data1 F S hn ho hb hmk, hm, F.kp, hbn⟩
theorem calX_data {x : Str} {st : Stmt} {f : Addr} {fd : FuncData} {N ps : List Str} {k n : Nat} {i0 : Int} {own : List Nat} {g : Vars → Out} (F : Fun1 K x st i0 f fd) (hm : mg x = some (.ref f)) (hbn : ∃ ds, Vals [V.int i0] ds ∧ Binds K fd ps ds) (S : FnScope N ps (defScope st)) (hn : ps.length = n + 1) (ho : (own.all fun i => decide (n + 1 ≤ i)) = true)
    (hb : ∀ (cdv : Value) (A : Around) (outer : List Env) (s : Shared) (H : Hp) (E : XK), Room k (A.deeper (envOfC x (defScope st) s.heap.objs.size f cdv)) → BX (cxOf (L2.CX P w) P w K mg base N x (defScope st) f cdv A outer s H E) E own (defBody st) g) (hmk : (own.all fun i => decide (i < 1000)) = true := by decide) :
    CalX P w K mg base (k + 1) x n i0 (fnD N.length g) := by
  obtain ⟨ds, h1, h2⟩ := hbn
  exact ⟨f, fd, ps, ds, hn, fn_data1 F S hn ho hb hmk, hm, F.kp, h2, h1⟩
theorem cal_zero1 {x : Str} {st : Stmt} {f : Addr} {fd : FuncData} {ps : List Str} {n : Nat} {i0 : Int} (F : Fun1 K x st i0 f fd) (hm : mg x = some (.ref f)) (hbn : Binds K fd ps []) (hn : ps.length = n) : Cal P w K mg base 0 x n fun _ => .bad := by
  have no : ∀ vs H Q E, ¬ spD K mg n (fun _ => .bad) vs H Q E := fun vs H Q E h => by
    obtain ⟨_, _, _, _, _, z⟩ := h
    exact z
  exact ⟨f, fd, ps, hn, ⟨fun vs H Q E h => absurd h (no vs H Q E), fun A outer s H args us vs Q E _ _ _ _ h => absurd h (no vs H Q E)⟩, hm, F.kp, hbn⟩
theorem calX_zero {x : Str} {st : Stmt} {f : Addr} {fd : FuncData} {ps : List Str} {n : Nat} {i0 : Int} (F : Fun1 K x st i0 f fd) (hm : mg x = some (.ref f)) (hbn : ∃ ds, Vals [V.int i0] ds ∧ Binds K fd ps ds) (hn : ps.length = n + 1) : CalX P w K mg base 0 x n i0 fun _ => .bad := by
  have no : ∀ vs H Q E, ¬ spD K mg (n + 1) (fun _ => .bad) vs H Q E := fun vs H Q E h => by
    obtain ⟨_, _, _, _, _, z⟩ := h
    exact z
  obtain ⟨ds, h1, h2⟩ := hbn
  exact ⟨f, fd, ps, ds, hn, ⟨fun vs H Q E h => absurd h (no vs H Q E), fun A outer s H args us vs Q E _ _ _ _ h => absurd h (no vs H Q E)⟩, hm, F.kp, h2, h1⟩
end
section
variable {X : Cx} {W : WX}
theorem rps_app {K : PySem.W.Frag} {H : Hp} {z : V} {e : PyData} (q : Rp K H z e) : ∀ {vs : List V} {ds : List PyData}, Rps K H vs ds → Rps K H (vs ++ [z]) (ds ++ [e])
  | _, _, .nil => .cons q .nil
  | _, _, .cons h r => .cons h (rps_app q r)
theorem ex_fnX {k n : Nat} {i0 : Int} {x : Str} {g : List PyData → R PyData} {e : Expr} {es : List Expr} {f : Vars → R (List PyData)} {p pos : Pos} (tk : Takes X W) (F : CalX X.prog X.w X.K X.mg X.base k x n i0 g) (hr : Room k X.A) (hg : Gl X x) (ha : AX X W (e :: es) f) (hn : es.length + 1 = n)
    (hdb : (x == ("__debug__" : Str)) = false := by decide) (he : starEach (e :: es) X.env = (false, eval e X.env) :: starEach es X.env := by rfl) (hpl : (backTo pos (starEach es X.env)).any (·.1) = false := by rfl) (hlen : ∀ ρ ds, f ρ = .ok ds → ds.length = n) :
    EX X W (.Call (.Name x p) (e :: es) [] pos) (eFn (fun ds => g (ds ++ [.int i0])) f) := by
  obtain ⟨fa, fd, ps, dv, h1, h2, h3, h4, h5, h6⟩ := F
  obtain ⟨t, q, ht⟩ := ha
  refine ⟨_, pe_callSD h2 hr hg h3 h4 h5 h6 (fun σ => passAt tk σ) q hdb he hpl, fun σ H O ρ Q hO hv z => ht σ H O ρ _ hO hv ?_⟩
  unfold eFn at z
  cases e1 : f ρ with
  | bad => rw [e1] at z; exact z
  | err c => rw [e1] at z; exact z
  | ok ds =>
    rw [e1] at z
    intro vs H1 s1 r1
    refine ⟨by rw [List.length_append, r1.length, hlen ρ ds e1]; rfl, O, ds ++ [.int i0], hO.same s1, rps_app (.int i0) r1, ?_⟩
    cases e2 : g (ds ++ [.int i0]) with
    | bad => rw [R.bind_ok, e2] at z; exact z.elim
    | err c => rw [R.bind_ok, e2] at z; exact fun H' s' => z H' (s1.trans s')
    | ok d => rw [R.bind_ok, e2] at z; exact fun v H' s' r' => z v H' (s1.trans s') r'
end
theorem fun1_mk {K : PySem.W.Frag} {x : Str} {st : Stmt} {i : Int} {f T : Addr} {oc : Value} {od an : Option Addr} {kV dc pm cd ct ocT : Value} {sl slT : Array (Option Value)} {odT : Option Addr} {nT : Nat} {tk : Tok}
    (lk : K.lookup f = some ⟨oc, od, .func (PySem.W.fnOf x x (defArgs st) (defBody st) (defScope st) (.ref T) kV dc pm an cd ct), sl⟩) (c : PySem.W.codeIn K cd x = true) (kp : PySem.W.keepIn K (.ref f) = true) (lT : K.lookup T = some ⟨ocT, odT, .seq #[.int i tk] nT, slT⟩) :
    Fun1 K x st i f (PySem.W.fnOf x x (defArgs st) (defBody st) (defScope st) (.ref T) kV dc pm an cd ct) :=
  ⟨⟨oc, od, .ref T, kV, dc, pm, an, cd, ct, sl, rfl, lk, c, Or.inr ⟨by simp, T, _, [.int i tk], nT, rfl, lT, rfl, .cons ⟨tk, rfl⟩ .nil⟩, Or.inl rfl⟩, kp⟩
theorem fun1_all {K : PySem.W.Frag} {x : Str} {st : Stmt} {i : Int} {f : Addr} {fd : FuncData} {ps : List Str} {n : Nat} (F : Fun1 K x st i f fd) (hn : ps.length = n)
    (h : ∀ (T : Addr) (kV doc pm : Value) (an : Option Addr) (cdv ct : Value) (us its : List Value), us.length = n → its.length = 1 →
      ∃ k, bindArgs (PySem.W.fnOf x x (defArgs st) (defBody st) (defScope st) (.ref T) kV doc pm an cdv ct) ⟨us, []⟩ = seqItems? (.ref T) >>= k ∧ k (some its.toArray) = pure (ps.zip (us ++ its.drop 1))) : Binds K fd ps [] := by
  obtain ⟨ds, h1, h2⟩ := FunD.binds1 F n 1 (by simp) (by simp [hn]) h
  cases h1
  exact h2
theorem fun1_one {K : PySem.W.Frag} {x : Str} {st : Stmt} {i : Int} {f : Addr} {fd : FuncData} {ps : List Str} {n : Nat} (F : Fun1 K x st i f fd) (hn : ps.length = n + 1)
    (h : ∀ (T : Addr) (kV doc pm : Value) (an : Option Addr) (cdv ct : Value) (us its : List Value), us.length = n → its.length = 1 →
      ∃ k, bindArgs (PySem.W.fnOf x x (defArgs st) (defBody st) (defScope st) (.ref T) kV doc pm an cdv ct) ⟨us, []⟩ = seqItems? (.ref T) >>= k ∧ k (some its.toArray) = pure (ps.zip (us ++ its.drop 0))) : ∃ ds, Vals [V.int i] ds ∧ Binds K fd ps ds :=
  FunD.binds1 F n 0 (by simp) (by simp [hn]) h
end Pu
set_option Elab.async false
set_option linter.all false
set_option maxRecDepth 100000
set_option maxHeartbeats 4000000
namespace Pu
open PySem PySem.Spec PyProof.Rows L2
section
variable {X : Cx} {W : WX} {tg : Expr}
end
section
variable {X : Cx} {W : WX} {own : List Nat} {i : Nat} {x : Str} {e : Expr} {f : Vars → R PyData} {p apos cpos pos : Pos}
end
end Pu
set_option Elab.async false
set_option linter.all false
set_option maxRecDepth 100000
set_option maxHeartbeats 4000000
namespace Pu
open PySem PySem.Spec PyProof.Rows L2
def TryCF (K : PySem.W.Frag) (mg : Str → Option Value) (cX : Value) (c : Str) : Option Bool → Prop
  | some b => ∃ C, mg c = some (.ref C) ∧ PySem.W.exmOne K (.ref C) cX = some b
  | none => True
section
variable {X : Cx} {W : WX} {own : List Nat}
end
def tabL : List (Str × Bool) → Str → Option Bool
  | [], _ => none
  | (c, b) :: r, d => if d = c then some b else tabL r d
@[simp] theorem tabL_self (c : Str) (b : Bool) (r : List (Str × Bool)) : tabL ((c, b) :: r) c = some b := if_pos rfl
def TryL (K : PySem.W.Frag) (mg : Str → Option Value) (x : Str) (l : List (Str × Bool)) : Prop := ∃ CX, mg x = some (.ref CX) ∧ ∀ c, TryCF K mg (.ref CX) c (tabL l c)
section
variable {X : Cx} {W : WX} {own : List Nat}
end
end Pu
set_option Elab.async false
set_option linter.all false
set_option maxRecDepth 100000
set_option maxHeartbeats 4000000
namespace Pu
open PySem PySem.Spec PyProof.Rows L2
section
variable {X : Cx} {W : WX}
end
def goM : List ((Str → Option Bool) × Nat × PyData) → Str → Vars → Out
  | [], c, ρ => .err c ρ
  | (T, iv, d) :: r, c, ρ => match T c with
    | some true => .nx (ρ.set iv (some d))
    | some false => goM r c ρ
    | none => .bad
@[simp] theorem u_goM_n (c : Str) (ρ : Vars) : goM [] c ρ = .err c ρ := rfl
@[simp] theorem u_goM_c (T : Str → Option Bool) (iv : Nat) (d : PyData) (r : List ((Str → Option Bool) × Nat × PyData)) (c : Str) (ρ : Vars) : goM ((T, iv, d) :: r) c ρ = match T c with
    | some true => .nx (ρ.set iv (some d))
    | some false => goM r c ρ
    | none => .bad := rfl
section
variable {X : Cx} {W : WX} {own : List Nat}
inductive ClOk (X : Cx) (own : List Nat) : List ExceptHandler → List ((Str → Option Bool) × Nat × PyData) → Prop
  | nil : ClOk X own [] []
  | cons {l : List (Str × Bool)} {iv : Nat} {d : PyData} {vd : V} {x v : Str} {e : Expr} {p0 p1 p10 pos' : Pos} {hds : List ExceptHandler} {r : List ((Str → Option Bool) × Nat × PyData)} (F : TryL X.K X.mg x l) (gX : Gl X x) (dX : (x == ("__debug__" : Str)) = false)
      (hiv : X.N[iv]? = some v) (hlv : Loc X.env.scope v) (oiv : own.contains iv = false)
      (he : ∀ (a : Addr) (pn : List (Addr × Obj)), PE (X.suite a pn) e (tC vd)) (hr : ∀ H, Rp X.K H vd d)
      (hsw : ∀ (a : Addr) (pn : List (Addr × Obj)), swapsWith e (some (.Name v p1)) p10.line (X.suite a pn).env = pure false)
      (hfv : X.fn v = true ∨ X.env.scope.names.lookup v = some .local) (rest : ClOk X own hds r) :
      ClOk X own (.ExceptHandler (some (.Name x p0)) none [.Assign [.Name v p1] e p10] pos' :: hds) ((tabL l, iv, d) :: r)
theorem ClOk.hds (hN : X.N.Nodup) {hds : List ExceptHandler} {l : List ((Str → Option Bool) × Nat × PyData)} (h : ClOk X own hds l) : ∃ l', HdsOk X hds l' ∧
    ∀ (H0 : HB) (O0 O' : List Addr) (D : Ends) (c : Str) (σ' : L2.St) (H' : Hp) (ρ' : Vars), Rel X.K own H0 O0 O' σ' H' ρ' → SOut X W own H0 O0 O' H' D (goM l c ρ') → wMany X.K W D l' (exV X.mg c) none σ' H' := by
  induction h with
  | nil => exact ⟨[], .nil, fun H0 O0 O' D c σ' H' ρ' r z => z σ' H' O' r (Same.refl _)⟩
  | @cons l iv d vd x v e p0 p1 p10 pos' hds r F gX dX hiv hlv oiv he hr hsw hfv rest ih =>
    obtain ⟨l', h1, h2⟩ := ih
    obtain ⟨CX, hx, hF⟩ := F
    have oiv' : iv ∉ own := fun z => by rw [List.contains_iff_mem.mpr z] at oiv; cases oiv
    refine ⟨((.ref CX), fun a cls d0 D σ H => D.nx (σ.set iv (some vd)) H) :: l', .cons ⟨gX, dX, Or.inl hx⟩ (fun a oe cls d0 pn hz hfl => ⟨fun pins s σ H D I h => ?_⟩) h1, fun H0 O0 O' D c σ' H' ρ' rr z => ?_⟩
    · have P := pss_one (ps_set (X := X.suite a ((a, oe) :: pn)) (pos' := p1) (pos := p10) hN hiv hlv (he a ((a, oe) :: pn)) (hsw a ((a, oe) :: pn)) hfv)
      exact P.run pins s _ H D I h
    · have hTF := hF c
      show ∃ b, PySem.W.exmOne X.K (exV X.mg c) (.ref CX) = some b ∧ _
      unfold goM at z
      cases hTc : tabL l c with
      | none => rw [hTc] at z; exact z.elim
      | some b =>
        rw [hTc] at hTF z
        obtain ⟨C, hmC, hx1⟩ := hTF
        have hcls : exV X.mg c = .ref C := by unfold exV; rw [hmC]; rfl
        refine ⟨b, by rw [hcls]; exact hx1, fun hb a ha => ?_, fun hb => ?_⟩
        · subst hb
          exact z _ H' O' (rr.set oiv' (hr _)) (Same.refl _)
        · subst hb
          exact h2 H0 O0 O' D c σ' H' ρ' rr z
end
def KitL (K : PySem.W.Frag) (mg : Str → Option Value) (cY : Value) (l : List (Str × Bool)) : Prop := ∀ c b, tabL l c = some b → ∃ C, mg c = some (.ref C) ∧ ExcC K C ∧ PySem.W.kitOne K (.ref C) cY = some b
section
variable {X : Cx} {ie : Nat} {c : Str}
end
section
variable {X : Cx} {W : WX} {own : List Nat}
end
def KitY (K : PySem.W.Frag) (mg : Str → Option Value) (y : Str) (l : List (Str × Bool)) : Prop := ∃ CY, mg y = some (.ref CY) ∧ KitL K mg (.ref CY) l
section
variable {X : Cx} {ie : Nat} {c : Str}
end
def CMulX (i j : Int) : Prop := i.natAbs.log2 + j.natAbs.log2 < 134000000
theorem CMulX.ok {i j : Int} (h : CMulX i j) : IntMulOk i j := by
  have b : ∀ x : Int, Builtin.Int.intBits x ≤ x.natAbs.log2 + 1 := fun x => by
    unfold Builtin.Int.intBits
    split <;> omega
  have h1 := b i
  have h2 := b j
  have h3 : i.natAbs.log2 + j.natAbs.log2 < 134000000 := h
  intro z
  have z2 := (Bool.and_eq_true _ _ ▸ z).2
  unfold Builtin.Int.intTooBig at z2
  have z3 := of_decide_eq_true z2
  rw [show bitsLine = 134217728 by decide] at z3
  omega
section
variable {P : Program} {w : World} {K : PySem.W.Frag} {mg : Str → Option Value} {base : Heap}
section
variable {x : Str} {st : Stmt} {f : Addr} {fd : FuncData} {N ps : List Str} {k n : Nat} {i j : Int} {own : List Nat} {g : Vars → Out}
end
end
section
variable {X : Cx} {W : WX}
end
end Pu
set_option Elab.async false
set_option linter.all false
set_option maxRecDepth 100000
namespace Pu
open PySem
end Pu
set_option Elab.async false
set_option linter.all false
set_option maxRecDepth 100000
set_option maxHeartbeats 4000000
namespace Nm
open PySem Pu
inductive O where
  | z | c (e : O) (n : Int) (r : O)
  deriving DecidableEq
namespace O
def parts : O → List (O × Int)
  | z => []
  | c e n r => (e, n) :: r.parts
def of : List (O × Int) → O
  | [] => z
  | (e, n) :: r => c e n (of r)
@[simp] theorem of_parts : ∀ a : O, of a.parts = a
  | z => rfl
  | c e n r => by show c e n (of r.parts) = _; rw [of_parts r]
@[simp] theorem parts_of : ∀ ps : List (O × Int), (of ps).parts = ps
  | [] => rfl
  | (e, n) :: r => by show (e, n) :: (of r).parts = _; rw [parts_of r]
theorem parts_inj {a b : O} (h : a.parts = b.parts) : a = b := by rw [← of_parts a, h, of_parts]
def h : O → Nat
  | z => 0
  | c e _ r => max (e.h + 1) r.h
def size : O → Nat
  | z => 0
  | c e _ r => 1 + e.size + r.size
def len : O → Nat
  | z => 0
  | c _ _ r => r.len + 1
theorem len_parts : ∀ a : O, a.parts.length = a.len
  | z => rfl
  | c e n r => by show r.parts.length + 1 = _; rw [len_parts r]; rfl
theorem h_le_size : ∀ a : O, a.h ≤ a.size
  | z => Nat.le_refl _
  | c e n r => by
    have h1 := h_le_size e
    have h2 := h_le_size r
    show max (e.h + 1) r.h ≤ 1 + e.size + r.size
    omega
theorem len_le_size : ∀ a : O, a.len ≤ a.size
  | z => Nat.le_refl _
  | c e n r => by
    have h2 := len_le_size r
    show r.len + 1 ≤ 1 + e.size + r.size
    omega
end O
open O
def encL : O → List PyData
  | .z => []
  | .c e n r => .tuple [.tuple (encL e), .int n] :: encL r
abbrev enc (a : O) : PyData := .tuple (encL a)
abbrev encP (p : O × Int) : PyData := .tuple [enc p.1, .int p.2]
@[simp] theorem encL_z : encL .z = [] := rfl
@[simp] theorem encL_c (e : O) (n : Int) (r : O) : encL (.c e n r) = .tuple [.tuple (encL e), .int n] :: encL r := rfl
theorem encL_parts : ∀ a : O, encL a = a.parts.map encP
  | .z => rfl
  | .c e n r => by show _ :: encL r = _ :: (r.parts.map encP); rw [encL_parts r]
theorem encL_of (ps : List (O × Int)) : encL (of ps) = ps.map encP := by rw [encL_parts, parts_of]
@[simp] theorem encL_len (a : O) : (encL a).length = a.len := by rw [encL_parts, List.length_map, len_parts]
theorem enc_depth : ∀ a : O, (enc a).depth = 2 * a.h + 1
  | .z => by simp [PyData.depth, PyData.depthAll, O.h]
  | .c e n r => by
    have h1 := enc_depth e
    have h2 := enc_depth r
    simp only [PyData.depth] at h1 h2
    simp only [encL_c, PyData.depth, PyData.depthAll, O.h]
    omega
theorem enc_lay : ∀ a : O, (enc a).canLay0 = true
  | .z => by simp [PyData.canLay0, PyData.canLayAll0]
  | .c e n r => by
    have h1 := enc_lay e
    have h2 := enc_lay r
    simp only [PyData.canLay0] at h1 h2
    simp only [encL_c, PyData.canLay0, PyData.canLayAll0, h1, h2, Bool.and_self]
theorem enc_shaped {a : O} (h : a.h ≤ 94) : shp (enc a) = true := by
  unfold shp
  rw [enc_lay, enc_depth, Bool.true_and]
  exact decide_eq_true (by omega)
theorem enc_imm : ∀ a : O, imm (enc a) = true
  | .z => by simp [imm, imms]
  | .c e n r => by
    have h1 := enc_imm e
    have h2 := enc_imm r
    simp only [imm] at h1 h2
    simp only [encL_c, imm, imms, h1, h2, Bool.and_self]
theorem enc_eqv : ∀ a b : O, PyData.eqv (enc a) (enc b) = decide (a = b)
  | .z, .z => by simp [PyData.eqv, PyData.eqvAll]
  | .z, .c e n r => by simp [PyData.eqv, PyData.eqvAll]
  | .c e n r, .z => by simp [PyData.eqv, PyData.eqvAll]
  | .c e n r, .c e' n' r' => by
    have h1 := enc_eqv e e'
    have h2 := enc_eqv r r'
    simp only [PyData.eqv] at h1 h2
    simp only [encL_c, PyData.eqv, PyData.eqvAll, h1, h2, Bool.and_true, O.c.injEq]
    by_cases c1 : e = e' <;> by_cases c2 : n = n' <;> by_cases c3 : r = r' <;> simp [c1, c2, c3]
theorem gEq_enc {a b : O} (ha : a.h ≤ 94) (hb : b.h ≤ 94) : gEq (enc a) (enc b) = some (.bool (decide (a = b))) := by
  unfold gEq
  rw [enc_shaped ha, enc_shaped hb, enc_eqv]; rfl
theorem gNe_enc {a b : O} (ha : a.h ≤ 94) (hb : b.h ≤ 94) : gNe (enc a) (enc b) = some (.bool (!decide (a = b))) := by
  unfold gNe
  rw [enc_shaped ha, enc_shaped hb, enc_eqv]; rfl
@[simp] theorem gEq_int (i j : Int) : gEq (.int i) (.int j) = some (.bool (decide (i = j))) := by
  unfold gEq shp
  simp [PyData.canLay0, PyData.depth, PyData.eqv, Bool.beq_eq_decide_eq]
@[simp] theorem gNe_int (i j : Int) : gNe (.int i) (.int j) = some (.bool (!decide (i = j))) := by
  unfold gNe shp
  simp [PyData.canLay0, PyData.depth, PyData.eqv, Bool.beq_eq_decide_eq]
theorem gEq_nil {a : O} (ha : a.h ≤ 94) : gEq (enc a) (.tuple []) = some (.bool (decide (a = .z))) := gEq_enc (b := .z) ha (by decide)
theorem gNe_nil {a : O} (ha : a.h ≤ 94) : gNe (enc a) (.tuple []) = some (.bool (!decide (a = .z))) := gNe_enc (b := .z) ha (by decide)
def cmp : O → O → Int
  | .z, .z => 0
  | .z, .c _ _ _ => -1
  | .c _ _ _, .z => 1
  | .c e n r, .c e' n' r' => if cmp e e' ≠ 0 then cmp e e' else if n ≠ n' then (if n > n' then 1 else -1) else cmp r r'
theorem cmp_range : ∀ a b : O, cmp a b = -1 ∨ cmp a b = 0 ∨ cmp a b = 1
  | .z, .z => by simp [cmp]
  | .z, .c _ _ _ => by simp [cmp]
  | .c _ _ _, .z => by simp [cmp]
  | .c e n r, .c e' n' r' => by
    unfold cmp
    have h1 := cmp_range e e'
    have h2 := cmp_range r r'
    split
    · exact h1
    · split
      · split <;> simp
      · exact h2
theorem cmp_eq : ∀ a b : O, cmp a b = 0 ↔ a = b
  | .z, .z => by simp [cmp]
  | .z, .c _ _ _ => by simp [cmp]
  | .c _ _ _, .z => by simp [cmp]
  | .c e n r, .c e' n' r' => by
    unfold cmp
    have h1 := cmp_eq e e'
    have h2 := cmp_eq r r'
    by_cases c1 : cmp e e' = 0
    · rw [if_neg (by simp [c1])]
      by_cases c2 : n = n'
      · rw [if_neg (by simp [c2]), h2]
        simp [h1.mp c1, c2]
      · rw [if_pos c2]
        constructor
        · intro h; split at h <;> simp at h
        · intro h; exact absurd (O.c.inj h).2.1 c2
    · rw [if_pos c1]
      constructor
      · intro h; exact absurd h c1
      · intro h; exact absurd (h1.mpr (O.c.inj h).1) c1
@[simp] theorem cmp_self (a : O) : cmp a a = 0 := (cmp_eq a a).mpr rfl
theorem cmp_neg : ∀ a b : O, cmp b a = - cmp a b
  | .z, .z => by simp [cmp]
  | .z, .c _ _ _ => by simp [cmp]
  | .c _ _ _, .z => by simp [cmp]
  | .c e n r, .c e' n' r' => by
    unfold cmp
    have h1 := cmp_neg e e'
    have h2 := cmp_neg r r'
    by_cases c1 : cmp e e' = 0
    · have c1' : cmp e' e = 0 := by rw [h1, c1]; rfl
      rw [if_neg (show ¬ cmp e e' ≠ 0 from fun h => h c1), if_neg (show ¬ cmp e' e ≠ 0 from fun h => h c1')]
      by_cases c2 : n = n'
      · rw [if_neg (show ¬ n ≠ n' from fun h => h c2), if_neg (show ¬ n' ≠ n from fun h => h c2.symm), h2]
      · rw [if_pos (show n ≠ n' from c2), if_pos (show n' ≠ n from fun h => c2 h.symm)]
        by_cases c3 : n > n'
        · rw [if_pos c3, if_neg (show ¬ n' > n by omega)]
        · rw [if_neg c3, if_pos (show n' > n by omega)]; rfl
    · have c1' : cmp e' e ≠ 0 := by rw [h1]; omega
      rw [if_pos c1, if_pos c1', h1]
end Nm
set_option Elab.async false
set_option linter.all false
set_option maxRecDepth 100000
namespace Pu
open PySem
def G_is_whole (S : Nat → List PyData → R PyData) : Vars → Out :=
  (sRet (eAnd (eIsi "int" (eVar 0)) (eAnd (eNot (eIsi "bool" (eVar 0))) (eOp gGe (eVar 0) (eC (.int 0))))))
def G_raised (c0 : Nat) (S : Nat → List PyData → R PyData) : Vars → Out :=
  (sSeq (sIf (tNotR (tTru (eFn (S c0) (aCons (eVar 1) aNil)))) (sRaise "NoNumber") sNil)
    (sSeq (sIf (tOf (eOp gEq (eVar 1) (eC (.int 0)))) (sRet (eTup aNil)) sNil)
    (sRet (eTup (aCons (eTup (aCons (eVar 0) (aCons (eVar 1) aNil))) aNil)))))
def G_compare (c0 : Nat) (S : Nat → List PyData → R PyData) : Vars → Out :=
  (sSeq (sFor [] (iZipD (aCons (eVar 0) (aCons (eVar 1) aNil))) (gtTup 2 (gtCons (gtName 2) (gtCons (gtName 3) gtNil))) (sSeq (sSet [] 4 (eFn (S c0) (aCons (eOp gIx (eVar 2) (eC (.int 0))) (aCons (eOp gIx (eVar 3) (eC (.int 0))) aNil)))) (sSeq (sIf (tOf (eOp gNe (eVar 4) (eC (.int 0)))) (sRet (eVar 4)) sNil) (sIf (tOf (eOp gNe (eOp gIx (eVar 2) (eC (.int 1))) (eOp gIx (eVar 3) (eC (.int 1))))) (sRet (eIf (tOf (eOp gGt (eOp gIx (eVar 2) (eC (.int 1))) (eOp gIx (eVar 3) (eC (.int 1))))) (eC (.int 1)) (eNeg (eC (.int 1))))) sNil))))
    (sSeq (sIf (tOf (eOp gEq (eCall gLen (aCons (eVar 0) aNil)) (eCall gLen (aCons (eVar 1) aNil)))) (sRet (eC (.int 0))) sNil)
    (sRet (eIf (tOf (eOp gGt (eCall gLen (aCons (eVar 0) aNil)) (eCall gLen (aCons (eVar 1) aNil)))) (eC (.int 1)) (eNeg (eC (.int 1)))))))
def G_merged (c0 : Nat) (S : Nat → List PyData → R PyData) : Vars → Out :=
  (sSeq (sNew [2] 2 (nLst aNil))
    (sSeq (sSetM [2] 3 (eC (.int 0)))
    (sSeq (sSetM [2] 4 (eC (.int 0)))
    (sSeq (whileL (tAndR (tOf (eOp gLt (eVar 3) (eCall gLen (aCons (eVar 0) aNil)))) (tOf (eOp gLt (eVar 4) (eCall gLen (aCons (eVar 1) aNil))))) (sSeq (sSetM [2] 5 (eFn (S c0) (aCons (eOp gIx (eOp gIx (eVar 0) (eVar 3)) (eC (.int 0))) (aCons (eOp gIx (eOp gIx (eVar 1) (eVar 4)) (eC (.int 0))) aNil)))) (sIf (tOf (eOp gEq (eVar 5) (eC (.int 1)))) (sSeq (sAppM [2] 2 (eOp gIx (eVar 0) (eVar 3))) (sAug [2] 3 gAddI (eC (.int 1)))) (sIf (tOf (eOp gEq (eVar 5) (eNeg (eC (.int 1))))) (sSeq (sAppM [2] 2 (eOp gIx (eVar 1) (eVar 4))) (sAug [2] 4 gAddI (eC (.int 1)))) (sSeq (sAppM [2] 2 (eTup (aCons (eOp gIx (eOp gIx (eVar 0) (eVar 3)) (eC (.int 0))) (aCons (eOp gAdd (eOp gIx (eOp gIx (eVar 0) (eVar 3)) (eC (.int 1))) (eOp gIx (eOp gIx (eVar 1) (eVar 4)) (eC (.int 1)))) aNil)))) (sSeq (sAug [2] 3 gAddI (eC (.int 1))) (sAug [2] 4 gAddI (eC (.int 1)))))))) wfuel)
    (sRet (eOp gAdd (eOp gAdd (eCall gTuple (aCons (eVar 2) aNil)) (eSl (eVar 0) (oSome (eVar 3)) oNone)) (eSl (eVar 1) (oSome (eVar 4)) oNone)))))))
end Pu
set_option Elab.async false
set_option linter.all false
set_option maxRecDepth 100000
set_option maxHeartbeats 4000000
namespace Nm
open PySem Pu
abbrev Fn := List PyData → R PyData
def lead (e : O) (n : Int) (e' : O) (n' : Int) : Int := if cmp e e' ≠ 0 then cmp e e' else if n ≠ n' then (if n > n' then 1 else -1) else 0
def first : O → O → Int
  | .c e n r, .c e' n' r' => if lead e n e' n' ≠ 0 then lead e n e' n' else first r r'
  | _, _ => 0
def lenc (a b : O) : Int := if a.len > b.len then 1 else if a.len < b.len then -1 else 0
theorem cmp_first : ∀ a b : O, cmp a b = if first a b ≠ 0 then first a b else lenc a b
  | .z, .z => by simp [cmp, first, lenc, O.len]
  | .z, .c _ _ _ => by simp [cmp, first, lenc, O.len]
  | .c _ _ _, .z => by simp [cmp, first, lenc, O.len]
  | .c e n r, .c e' n' r' => by
    have h2 := cmp_first r r'
    unfold cmp first lead
    by_cases c1 : cmp e e' = 0
    · by_cases c2 : n = n'
      · simp only [c1, c2, ne_eq, not_true_eq_false, if_false, h2, lenc, O.len]
        simp
      · by_cases c3 : n > n' <;> simp [c1, c2, c3]
    · simp [c1]
abbrev gt2 := gtTup 2 (gtCons (gtName 2) (gtCons (gtName 3) gtNil))
theorem zip_loop {k : Nat} {g : Vars → Out} {A B : Option PyData} (hg : ∀ (e : O) (n : Int) (e' : O) (n' : Int) (s : Option PyData), e.h < k → ∃ s', g [A, B, some (encP (e, n)), some (encP (e', n')), s] =
      if lead e n e' n' ≠ 0 then .rt (.int (lead e n e' n')) else .nx [A, B, some (encP (e, n)), some (encP (e', n')), s']) :
    ∀ (a b : O) (x y s : Option PyData), a.h < k + 1 → ∃ x' y' s', forL gt2 g (zipD (encL a) (encL b)) [A, B, x, y, s] = if first a b ≠ 0 then .rt (.int (first a b)) else .nx [A, B, x', y', s']
  | .z, b, x, y, s, _ => ⟨x, y, s, by cases b <;> simp [zipD, first]⟩
  | .c e n r, .z, x, y, s, _ => ⟨x, y, s, by simp [zipD, first]⟩
  | .c e n r, .c e' n' r', x, y, s, h => by
    have he : e.h < k := by have : max (e.h + 1) r.h < k + 1 := h; omega
    have hr : r.h < k + 1 := by have : max (e.h + 1) r.h < k + 1 := h; omega
    obtain ⟨s1, e1⟩ := hg e n e' n' s he
    obtain ⟨x2, y2, s2, e2⟩ := zip_loop hg r r' (some (encP (e, n))) (some (encP (e', n'))) s1 hr
    by_cases c : lead e n e' n' = 0
    · refine ⟨x2, y2, s2, ?_⟩
      rw [if_neg (show ¬ lead e n e' n' ≠ 0 from fun z => z c)] at e1
      have ef : first (.c e n r) (.c e' n' r') = first r r' := by
        show (if lead e n e' n' ≠ 0 then lead e n e' n' else first r r') = _
        rw [if_neg (show ¬ lead e n e' n' ≠ 0 from fun z => z c)]
      rw [ef, ← e2]
      show forL gt2 g (.tuple [encP (e, n), encP (e', n')] :: zipD (encL r) (encL r')) _ = _
      rw [u_forL_c]
      simp only [u_gtTup, u_gtCons, u_gtName, u_gtNil, List.length_cons, List.length_nil, Nat.zero_add, Nat.reduceAdd, if_true, Option.bind_some, List.set_cons_succ, List.set_cons_zero, e1]
    · refine ⟨x, y, s, ?_⟩
      rw [if_pos c] at e1
      have ef : first (.c e n r) (.c e' n' r') = lead e n e' n' := by
        show (if lead e n e' n' ≠ 0 then lead e n e' n' else first r r') = _
        rw [if_pos c]
      rw [ef, if_pos c]
      show forL gt2 g (.tuple [encP (e, n), encP (e', n')] :: zipD (encL r) (encL r')) _ = _
      rw [u_forL_c]
      simp only [u_gtTup, u_gtCons, u_gtName, u_gtNil, List.length_cons, List.length_nil, Nat.zero_add, Nat.reduceAdd, if_true, Option.bind_some, List.set_cons_succ, List.set_cons_zero, e1]
theorem zip_then {k : Nat} {g K : Vars → Out} {A B x y s : Option PyData} {a b : O} {out : Out} (hg : ∀ (e : O) (n : Int) (e' : O) (n' : Int) (s : Option PyData), e.h < k → ∃ s', g [A, B, some (encP (e, n)), some (encP (e', n')), s] =
      if lead e n e' n' ≠ 0 then .rt (.int (lead e n e' n')) else .nx [A, B, some (encP (e, n)), some (encP (e', n')), s']) (ha : a.h < k + 1) (h1 : first a b ≠ 0 → .rt (.int (first a b)) = out) (h2 : first a b = 0 → ∀ x y s, K [A, B, x, y, s] = out) :
    (forL gt2 g (zipD (encL a) (encL b)) [A, B, x, y, s]).then K = out := by
  obtain ⟨x', y', s', e⟩ := zip_loop hg a b x y s ha
  rw [e]
  by_cases c : first a b = 0
  · rw [if_neg (fun z => z c)]; exact h2 c x' y' s'
  · rw [if_pos c]; exact h1 c
def CmpOk (k : Nat) (F : Fn) : Prop := ∀ a b : O, a.h < k → F [enc a, enc b] = .ok (.int (cmp a b))
theorem compare_step {S : Nat → Fn} {c0 k : Nat} (h : CmpOk k (S c0)) : CmpOk (k + 1) (fun ds => fnD 5 (G_compare c0 S) ds) := by
  intro a b ha
  refine fnD_of ?_
  unfold G_compare
  simp only [u_sSeq, u_sFor, mask_nil, u_iZipD, u_aCons, u_aNil, u_eVar, List.map_cons, List.map_nil, List.length_cons, List.length_nil, List.cons_append, List.nil_append, List.replicate, List.getD_cons_zero, List.getD_cons_succ, R.of_some, R.bind_ok, R.run_ok, Nat.reduceAdd, Nat.reduceSub, Nat.zero_add]
  refine zip_then (k := k) (fun e n e' n' s he => ⟨some (.int (cmp e e')), ?_⟩) ha (fun c => ?_) (fun c x y s => ?_)
  · have hc := h e e' he
    by_cases c1 : cmp e e' = 0
    · by_cases c2 : n = n'
      · simp [hc, c1, c2, lead]
      · by_cases c3 : n > n' <;> simp [hc, c1, c2, c3, lead]
    · simp [hc, c1, lead]
  · rw [cmp_first, if_pos c]
  · rw [cmp_first, if_neg (fun z => z c)]
    by_cases c1 : a.len = b.len
    · simp [lenc, c1]
    · by_cases c2 : a.len > b.len
      · simp [lenc, c1, c2]; omega
      · have c3 : a.len < b.len := by omega
        simp [lenc, c1, c2, c3]; omega
end Nm
set_option Elab.async false
set_option linter.all false
set_option maxRecDepth 100000
set_option maxHeartbeats 4000000
namespace Nm
open PySem Pu O
theorem cmp_gt {a b : O} : cmp a b = 1 ↔ cmp b a = -1 := by rw [cmp_neg a b]; omega
theorem cmp_c {e : O} {n : Int} {r e' : O} {n' : Int} {r' : O} : cmp (.c e n r) (.c e' n' r') = -1 ↔ cmp e e' = -1 ∨ (e = e' ∧ (n < n' ∨ (n = n' ∧ cmp r r' = -1))) := by
  have h0 : cmp (.c e n r) (.c e' n' r') = if cmp e e' ≠ 0 then cmp e e' else if n ≠ n' then (if n > n' then 1 else -1) else cmp r r' := rfl
  rw [h0]
  by_cases c1 : cmp e e' = 0
  · have c1' := (cmp_eq e e').mp c1
    rw [if_neg (show ¬ cmp e e' ≠ 0 from fun h => h c1)]
    by_cases c2 : n = n'
    · rw [if_neg (show ¬ n ≠ n' from fun h => h c2)]
      subst c1' c2
      simp
    · rw [if_pos c2]
      by_cases c3 : n > n'
      · rw [if_pos c3]
        constructor
        · intro h; cases h
        · rintro (h | ⟨_, h | ⟨h, _⟩⟩)
          · rw [c1] at h; cases h
          · omega
          · exact absurd h c2
      · rw [if_neg c3]
        exact ⟨fun _ => .inr ⟨c1', .inl (by omega)⟩, fun _ => rfl⟩
  · rw [if_pos c1]
    constructor
    · exact .inl
    · rintro (h | ⟨h, _⟩)
      · exact h
      · exact absurd ((cmp_eq e e').mpr h) c1
theorem lt_trans : ∀ {a b d : O}, cmp a b = -1 → cmp b d = -1 → cmp a d = -1
  | a, .z, _, h, _ => by cases a <;> simp [cmp] at h
  | .z, .c _ _ _, .z, _, h => by simp [cmp] at h
  | .z, .c _ _ _, .c _ _ _, _, _ => rfl
  | .c _ _ _, .c _ _ _, .z, _, h => by simp [cmp] at h
  | .c e n r, .c e' n' r', .c e'' n'' r'', h1, h2 => by
    rw [cmp_c] at h1 h2 ⊢
    rcases h1 with h1 | ⟨rfl, h1⟩
    · rcases h2 with h2 | ⟨rfl, h2⟩
      · exact .inl (lt_trans h1 h2)
      · exact .inl h1
    · rcases h2 with h2 | ⟨rfl, h2⟩
      · exact .inl h2
      · refine .inr ⟨rfl, ?_⟩
        rcases h1 with h1 | ⟨rfl, h1⟩ <;> rcases h2 with h2 | ⟨rfl, h2⟩
        · exact .inl (by omega)
        · exact .inl h1
        · exact .inl h2
        · exact .inr ⟨rfl, lt_trans h1 h2⟩
theorem gt_trans {a b d : O} (h1 : cmp a b = 1) (h2 : cmp b d = 1) : cmp a d = 1 := cmp_gt.mpr (lt_trans (cmp_gt.mp h2) (cmp_gt.mp h1))
theorem cmp_tri (a b : O) : cmp a b = -1 ∨ a = b ∨ cmp a b = 1 := by
  rcases cmp_range a b with h | h | h
  · exact .inl h
  · exact .inr (.inl ((cmp_eq a b).mp h))
  · exact .inr (.inr h)
def NF : O → Prop
  | .z => True
  | .c e n r => NF e ∧ 1 ≤ n ∧ NF r ∧ ∀ p ∈ r.parts, cmp e p.1 = 1
theorem nf_parts : ∀ a : O, NF a ↔ a.parts.Pairwise (fun p q => cmp p.1 q.1 = 1) ∧ ∀ p ∈ a.parts, NF p.1 ∧ 1 ≤ p.2
  | .z => by simp [NF, O.parts]
  | .c e n r => by
    have ih := nf_parts r
    show NF e ∧ 1 ≤ n ∧ NF r ∧ (∀ p ∈ r.parts, cmp e p.1 = 1) ↔ _
    simp only [O.parts, List.pairwise_cons, List.mem_cons, forall_eq_or_imp]
    rw [ih]
    constructor
    · rintro ⟨h1, h2, ⟨h3, h4⟩, h5⟩; exact ⟨⟨h5, h3⟩, ⟨h1, h2⟩, h4⟩
    · rintro ⟨⟨h5, h3⟩, ⟨h1, h2⟩, h4⟩; exact ⟨h1, h2, ⟨h3, h4⟩, h5⟩
theorem nf_of {ps : List (O × Int)} : NF (of ps) ↔ ps.Pairwise (fun p q => cmp p.1 q.1 = 1) ∧ ∀ p ∈ ps, NF p.1 ∧ 1 ≤ p.2 := by rw [nf_parts, parts_of]
def mx : O → Int
  | .z => 0
  | .c e n r => max n (max (mx e) (mx r))
theorem mx_nonneg : ∀ a : O, 0 ≤ mx a
  | .z => Int.le_refl _
  | .c e n r => by
    have := mx_nonneg r
    show 0 ≤ max n (max (mx e) (mx r))
    omega
theorem mx_parts {B : Int} (hB : 0 ≤ B) : ∀ a : O, mx a ≤ B ↔ ∀ p ∈ a.parts, p.2 ≤ B ∧ mx p.1 ≤ B
  | .z => by simp [mx, O.parts, hB]
  | .c e n r => by
    have ih := mx_parts hB r
    simp only [mx, O.parts, List.mem_cons, forall_eq_or_imp]
    rw [← ih]
    constructor
    · intro h; exact ⟨⟨by omega, by omega⟩, by omega⟩
    · rintro ⟨⟨h1, h2⟩, h3⟩; omega
theorem mx_of {B : Int} (hB : 0 ≤ B) {ps : List (O × Int)} : mx (of ps) ≤ B ↔ ∀ p ∈ ps, p.2 ≤ B ∧ mx p.1 ≤ B := by rw [mx_parts hB, parts_of]
theorem h_parts {k : Nat} : ∀ a : O, a.h ≤ k ↔ ∀ p ∈ a.parts, p.1.h + 1 ≤ k
  | .z => by simp [O.h, O.parts]
  | .c e n r => by
    have ih := h_parts (k := k) r
    simp only [O.h, O.parts, List.mem_cons, forall_eq_or_imp]
    rw [← ih]
    omega
theorem h_of {k : Nat} {ps : List (O × Int)} : (of ps).h ≤ k ↔ ∀ p ∈ ps, p.1.h + 1 ≤ k := by rw [h_parts, parts_of]
theorem len_of (ps : List (O × Int)) : (of ps).len = ps.length := by rw [← len_parts, parts_of]
theorem nf_sub {ps qs : List (O × Int)} (h : NF (of ps)) (s : qs.Sublist ps) : NF (of qs) := by
  rw [nf_of] at h ⊢
  exact ⟨h.1.sublist s, fun p hp => h.2 p (s.subset hp)⟩
theorem size_sub : ∀ {ps qs : List (O × Int)}, qs.Sublist ps → (of qs).size ≤ (of ps).size
  | _, _, .slnil => Nat.le_refl _
  | _, _, .cons (l₂ := l) a s => by
    have := size_sub s
    show _ ≤ 1 + a.1.size + (of l).size
    omega
  | _, _, .cons₂ (l₁ := l1) (l₂ := l2) a s => by
    have := size_sub s
    show 1 + a.1.size + (of l1).size ≤ 1 + a.1.size + (of l2).size
    omega
theorem mx_sub {B : Int} (hB : 0 ≤ B) {ps qs : List (O × Int)} (h : mx (of ps) ≤ B) (s : qs.Sublist ps) : mx (of qs) ≤ B := by
  rw [mx_of hB] at h ⊢
  exact fun p hp => h p (s.subset hp)
def above (a e : O) : List (O × Int) := a.parts.filter fun p => decide (0 < cmp p.1 e)
def sameN (a e : O) : Int := ((a.parts.filter fun p => decide (p.1 = e)).map fun p => p.2).sum
end Nm
set_option Elab.async false
set_option linter.all false
set_option maxRecDepth 100000
set_option maxHeartbeats 4000000
namespace Nm
open PySem Pu O L2
theorem lc_gen {α : Type} {E : α → PyData} {ρ : Vars} {i : Nat} {tt : Vars → R Bool} {f : Vars → R PyData} {P : α → Bool} {F : α → PyData} : ∀ {ps : List α}, (∀ p ∈ ps, tt (ρ.set i (some (E p))) = .ok (P p)) → (∀ p ∈ ps, P p = true → f (ρ.set i (some (E p))) = .ok (F p)) →
    lcL (gtName i) tt f ρ (ps.map E) = .ok ((ps.filter P).map F)
  | [], _, _ => rfl
  | p :: ps, h1, h2 => by
    have ih := lc_gen (ps := ps) (fun q hq => h1 q (List.mem_cons_of_mem _ hq)) (fun q hq => h2 q (List.mem_cons_of_mem _ hq))
    rw [List.map_cons, u_lcL_c]
    simp only [u_gtName, h1 p (by simp), R.bind_ok]
    cases c : P p with
    | true =>
      rw [if_pos rfl, h2 p (by simp) c, R.bind_ok, ih, R.bind_ok, List.filter_cons_of_pos c, List.map_cons]
    | false =>
      rw [if_neg Bool.false_ne_true, ih, List.filter_cons_of_neg (by simp [c])]
theorem intsOf_mapF {α : Type} (F : α → Int) (ps : List α) : intsOf (ps.map fun p => PyData.int (F p)) = some (ps.map F) := by
  have := intsOf_map (ps.map F)
  rw [List.map_map] at this
  exact this
theorem part_mem_h {a : O} {p : O × Int} (hp : p ∈ a.parts) : p.1.h + 1 ≤ a.h := (h_parts a).mp (Nat.le_refl _) p hp
theorem size_part : ∀ {a : O} {p : O × Int}, p ∈ a.parts → p.1.size ≤ a.size
  | .c e n r, p, hp => by
    rcases List.mem_cons.mp (show p ∈ (e, n) :: r.parts from hp) with h | h
    · subst h; show e.size ≤ 1 + e.size + r.size; omega
    · have := size_part h; show _ ≤ 1 + e.size + r.size; omega
theorem log2_lt {i : Int} {n : Nat} (h : i.natAbs < 2 ^ n) (h0 : 0 < n) : i.natAbs.log2 < n := PySem.Flt.log2_lt_of h0 h
theorem cDiv_of {i j : Int} (b : Nat) (hp : 0 < j) (hb : j.natAbs < 2 ^ b) (h0 : 0 < b) (h9 : b ≤ 9000) : cDiv i j = true := by
  have y := log2_lt hb h0
  unfold cDiv
  simp [hp]
  omega
theorem cMod_of {i j : Int} (h : 0 < j) : cMod i j = true := decide_eq_true h
structure PO (B : Int) (a : O) : Prop where
  nf : NF a
  sz : a.size ≤ 24
  mx : mx a ≤ B
theorem PO.hh {B : Int} {a : O} (p : PO B a) : a.h ≤ 24 := Nat.le_trans (h_le_size a) p.sz
theorem PO.ll {B : Int} {a : O} (p : PO B a) : a.len ≤ 24 := Nat.le_trans (len_le_size a) p.sz
theorem sIx_m1 (n d : Nat) : HT.sIx n d (some (-1)) = n - 1 := by
  show (if (-1 : Int) < 0 then ((-1 : Int) + (n : Int)).toNat else min (-1 : Int).toNat n) = _
  rw [if_pos (by decide)]
  omega
theorem cut_init {α : Type} (xs : List α) : cutD xs none (some (-1)) = xs.take (xs.length - 1) := by
  unfold cutD
  rw [sIx_m1]
  show (xs.drop 0).take (xs.length - 1 - 0) = _
  simp
theorem encL_take (a : O) (n : Nat) : (encL a).take n = encL (of (a.parts.take n)) := by rw [encL_of, encL_parts, List.map_take]
theorem PO.sub {B : Int} (hB : 0 ≤ B) {a : O} (p : PO B a) {qs : List (O × Int)} (s : qs.Sublist a.parts) : PO B (of qs) where
  nf := nf_sub (ps := a.parts) (by rw [of_parts]; exact p.nf) s
  sz := by have := size_sub s; rw [of_parts] at this; have := p.sz; omega
  mx := mx_sub hB (by rw [of_parts]; exact p.mx) s
theorem part_last {a : O} (ha : a ≠ .z) : ∃ p ∈ a.parts, atI (encL a) (-1) = some (encP p) ∧ a.parts.getLast? = some p := by
  have hne : a.parts ≠ [] := fun e => ha (parts_inj (b := .z) e)
  refine ⟨a.parts.getLast hne, List.getLast_mem hne, ?_, List.getLast?_eq_getLast hne⟩
  rw [encL_parts]
  have e : a.parts.map encP = (a.parts.dropLast.map encP) ++ [encP (a.parts.getLast hne)] := by
    rw [← List.map_singleton (f := encP), ← List.map_append, List.dropLast_concat_getLast]
  rw [e]
  exact atI_last _ _
theorem cut_front {α : Type} (xs : List α) (k : Nat) : cutD xs none (some (k : Int)) = xs.take k := by
  unfold cutD
  rw [HT.sIx_nat]
  show (xs.drop 0).take (min k xs.length - 0) = _
  rw [List.drop_zero, Nat.sub_zero, List.take_eq_take_iff]
  omega
end Nm
set_option Elab.async false
set_option linter.all false
set_option maxRecDepth 100000
set_option maxHeartbeats 4000000
namespace Pu
open PySem PySem.Spec PyProof.Rows L2
theorem forL_inv {gt : PyData → Vars → Option Vars} {g : Vars → Out} (I : Nat → Vars → Prop) : ∀ (ds : List PyData) (i : Nat) (ρ : Vars), I i ρ →
    (∀ (j : Nat) (d : PyData) (ρ : Vars), ds[j]? = some d → I (i + j) ρ → ∃ ρ1 ρ2, gt d ρ = some ρ1 ∧ (g ρ1 = .nx ρ2 ∨ g ρ1 = .ct ρ2) ∧ I (i + j + 1) ρ2) →
    ∃ ρ', forL gt g ds ρ = .nx ρ' ∧ I (i + ds.length) ρ'
  | [], i, ρ, h, _ => ⟨ρ, rfl, h⟩
  | d :: ds, i, ρ, h, hs => by
    obtain ⟨ρ1, ρ2, h1, h2, h3⟩ := hs 0 d ρ rfl h
    obtain ⟨ρ', h4, h5⟩ := forL_inv I ds (i + 1) ρ2 h3 fun j d ρ hd hi => by
      have := hs (j + 1) d ρ hd (by rw [show i + (j + 1) = i + 1 + j by omega]; exact hi)
      rw [show i + (j + 1) = i + 1 + j by omega] at this
      exact this
    refine ⟨ρ', ?_, by rw [List.length_cons, show i + (ds.length + 1) = i + 1 + ds.length by omega]; exact h5⟩
    rw [u_forL_c, h1]
    rcases h2 with h2 | h2 <;> simp only [h2, h4]
end Pu
namespace Nm
open PySem PySem.Spec PyProof.Rows L2 Pu
end Nm
set_option Elab.async false
set_option linter.all false
set_option maxRecDepth 100000
set_option maxHeartbeats 4000000
namespace Nm
open PySem Pu O L2
def plusO (a : O) : O → O
  | .z => a
  | .c e n r => of (above a e ++ (e, sameN a e + n) :: r.parts)
def PlusOk (k : Nat) (F : Fn) : Prop := ∀ a b : O, NF a → a.h < k → a.h ≤ 60 → b.h ≤ 60 → a.len ≤ 1000000 → b.len ≤ 1000000 → F [enc a, enc b] = .ok (enc (plusO a b))
theorem cut_tl {α : Type} (x : α) (r : List α) : cutD (x :: r) (some 1) none = r := by
  unfold cutD
  rw [show HT.sIx (x :: r).length 0 (some 1) = 1 from by
    have := HT.sIx_nat (x :: r).length 0 1
    rw [show ((1 : Nat) : Int) = 1 from rfl] at this
    rw [this]
    simp]
  show ((x :: r).drop 1).take ((x :: r).length - 1) = _
  simp
end Nm
set_option Elab.async false
set_option linter.all false
set_option maxRecDepth 100000
set_option maxHeartbeats 4000000
namespace Nm
open PySem Pu O L2
end Nm
set_option Elab.async false
set_option linter.all false
set_option maxRecDepth 100000
set_option maxHeartbeats 4000000
namespace Nm
open PySem Pu O L2
theorem nf_tail {f r : O} {m : Int} (h : NF (.c f m r)) : NF r ∧ NF f ∧ 1 ≤ m ∧ ∀ q ∈ r.parts, cmp f q.1 = 1 := by
  have h1 := (nf_parts _).mp h
  have h2 : ((f, m) :: r.parts).Pairwise (fun p q => cmp p.1 q.1 = 1) := h1.1
  have h3 : ∀ p ∈ (f, m) :: r.parts, NF p.1 ∧ 1 ≤ p.2 := h1.2
  rw [List.pairwise_cons] at h2
  have h4 := h3 (f, m) (by simp)
  exact ⟨(nf_parts r).mpr ⟨h2.2, fun p hp => h3 p (List.mem_cons_of_mem _ hp)⟩, h4.1, h4.2, h2.1⟩
theorem lows {a e : O} (h : ∀ q ∈ a.parts, cmp q.1 e = -1) : above a e = [] ∧ sameN a e = 0 := by
  refine ⟨?_, ?_⟩
  · unfold above
    rw [List.filter_eq_nil_iff]; intro q hq; have := h q hq; simp; omega
  · unfold sameN
    have : (a.parts.filter fun p => decide (p.1 = e)) = [] := by
      rw [List.filter_eq_nil_iff]; intro q hq; have := h q hq; simp; intro z; rw [z, cmp_self] at this; cases this
    rw [this]; rfl
theorem plus_gt {f r e s : O} {m n : Int} (c : cmp f e = 1) : plusO (.c f m r) (.c e n s) = .c f m (plusO r (.c e n s)) := by
  have h3 : above (.c f m r) e = (f, m) :: above r e := by
    show ((f, m) :: r.parts).filter _ = _
    rw [List.filter_cons_of_pos (by simp [c])]; rfl
  have ne : ¬ f = e := fun z => by rw [z, cmp_self] at c; cases c
  have h4 : sameN (.c f m r) e = sameN r e := by
    show ((((f, m) :: r.parts).filter _).map _).sum = _
    rw [List.filter_cons_of_neg (by simp [ne])]; rfl
  show of (above _ e ++ (e, sameN _ e + n) :: s.parts) = _
  rw [h3, h4]
  rfl
theorem plus_z {a : O} : plusO .z a = a := by
  cases a with
  | z => rfl
  | c e n r =>
    show of ([] ++ (e, 0 + n) :: r.parts) = _
    rw [Int.zero_add, List.nil_append]
    exact congrArg _ (of_parts r)
theorem cmp_lt_head {e e' r r' : O} {n n' : Int} (c : cmp e e' = -1) : cmp (.c e n r) (.c e' n' r') = -1 := cmp_c.mpr (Or.inl c)
theorem cmp_zc {e r : O} {n : Int} : cmp .z (.c e n r) = -1 := by simp [cmp]
end Nm
set_option Elab.async false
set_option linter.all false
set_option maxRecDepth 100000
set_option maxHeartbeats 4000000
namespace Nm
open PySem PySem.Spec PyProof.Rows L2 Pu O
structure G (m : Nat) (a : O) : Prop where
  nf : NF a
  h : a.h ≤ 25
  l : a.len ≤ m
theorem cut_back {α : Type} (xs : List α) (k : Nat) : Pu.cutD xs (some (k : Int)) none = xs.drop (min k xs.length) := by
  unfold Pu.cutD
  rw [HT.sIx_nat]
  show (xs.drop (min k xs.length)).take (xs.length - min k xs.length) = _
  apply List.take_of_length_le
  simp
theorem depthAll_le {n : Nat} : ∀ {ds : List PyData}, (∀ d ∈ ds, d.depth ≤ n) → PyData.depthAll ds ≤ n
  | [], _ => by simp [PyData.depthAll]
  | d :: ds, h => by
    have h1 := h d (by simp)
    have h2 := depthAll_le (ds := ds) fun x hx => h x (List.mem_cons_of_mem _ hx)
    simp only [PyData.depthAll]
    omega
theorem layAll_of : ∀ {ds : List PyData}, (∀ d ∈ ds, d.canLay0 = true) → PyData.canLayAll0 ds = true
  | [], _ => by simp [PyData.canLayAll0]
  | d :: ds, h => by
    have h1 := h d (by simp)
    have h2 := layAll_of (ds := ds) fun x hx => h x (List.mem_cons_of_mem _ hx)
    simp only [PyData.canLayAll0, h1, h2, Bool.and_self]
theorem eqvAll_self : ∀ {ps : List O}, PyData.eqvAll (ps.map enc) (ps.map enc) = true
  | [] => by simp [PyData.eqvAll]
  | p :: ps => by
    have h1 := enc_eqv p p
    have h2 := eqvAll_self (ps := ps)
    simp only [List.map_cons, PyData.eqvAll, h2, h1, decide_true, Bool.and_self]
theorem gNe_list {ps : List O} (h : ∀ a ∈ ps, a.h ≤ 30) : gNe (.list (ps.map enc)) (.list (ps.map enc)) = some (.bool false) := by
  have h1 : PyData.depthAll (ps.map enc) ≤ 61 := depthAll_le fun d hd => by
    obtain ⟨a, ha, rfl⟩ := List.mem_map.mp hd
    rw [enc_depth]; have := h a ha; omega
  have h2 : PyData.canLayAll0 (ps.map enc) = true := layAll_of fun d hd => by
    obtain ⟨a, ha, rfl⟩ := List.mem_map.mp hd
    exact enc_lay a
  unfold gNe shp
  have h3 : PyData.depth (.list (ps.map enc)) ≤ 190 := by simp only [PyData.depth]; omega
  have h4 : PyData.canLay0 (.list (ps.map enc)) = true := by simp only [PyData.canLay0, h2]
  have h5 : PyData.eqv (.list (ps.map enc)) (.list (ps.map enc)) = true := by simp only [PyData.eqv, eqvAll_self]
  simp [h3, h4, h5]
end Nm
set_option Elab.async false
set_option linter.all false
set_option maxRecDepth 100000
set_option maxHeartbeats 4000000
namespace Nm
open PySem Pu O L2
theorem co_z {x : O} : sameN .z x = 0 := rfl
theorem co_c {e r x : O} {n : Int} : sameN (.c e n r) x = (if e = x then n else 0) + sameN r x := by
  unfold sameN
  show ((((e, n) :: r.parts).filter fun p => decide (p.1 = x)).map fun p => p.2).sum = _
  by_cases c : e = x
  · rw [List.filter_cons_of_pos (by simp [c]), if_pos c, List.map_cons, List.sum_cons]
  · rw [List.filter_cons_of_neg (by simp [c]), if_neg c, Int.zero_add]
theorem nf_mk {e r : O} {n : Int} (he : NF e) (hn : 1 ≤ n) (hr : NF r) (hp : ∀ q ∈ r.parts, cmp e q.1 = 1) : NF (.c e n r) := by
  refine (nf_parts _).mpr ⟨?_, fun p hp => ?_⟩
  · show ((e, n) :: r.parts).Pairwise _
    exact List.pairwise_cons.mpr ⟨hp, ((nf_parts r).mp hr).1⟩
  · rcases List.mem_cons.mp (show p ∈ (e, n) :: r.parts from hp) with h | h
    · subst h; exact ⟨he, hn⟩
    · exact ((nf_parts r).mp hr).2 p h
theorem co_tail {e r x : O} {n : Int} (h : NF (.c e n r)) (c : cmp x e = 1 ∨ x = e) : sameN r x = 0 := by
  refine (lows (fun q hq => ?_)).2
  have h1 := cmp_gt.mp ((nf_tail h).2.2.2 q hq)
  rcases c with c | c
  · exact lt_trans h1 (cmp_gt.mp c)
  · rw [c]; exact h1
theorem ne_of_gt {x e : O} (c : cmp x e = 1) : ¬ e = x := fun z => by rw [z, cmp_self] at c; cases c
theorem co_high {e r x : O} {n : Int} (h : NF (.c e n r)) (c : cmp x e = 1) : sameN (.c e n r) x = 0 := by
  rw [co_c, if_neg (ne_of_gt c), co_tail h (Or.inl c)]; rfl
theorem co_head {e r : O} {n : Int} (h : NF (.c e n r)) : sameN (.c e n r) e = n := by
  rw [co_c, if_pos rfl, co_tail h (Or.inr rfl)]; omega
theorem lt_co : ∀ a b : O, NF a → NF b → cmp a b = -1 → ∃ x, sameN a x < sameN b x ∧ ∀ y, cmp y x = 1 → sameN a y = sameN b y
  | a, .z, _, _, h => by cases a <;> simp [cmp] at h
  | .z, .c e n r, _, hb, h => ⟨e, by rw [co_z, co_head hb]; have := (nf_tail hb).2.2.1; omega, fun y hy => by rw [co_z, co_high hb hy]⟩
  | .c e n r, .c e' n' r', ha, hb, h => by
    rcases cmp_c.mp h with q | ⟨q, q2⟩
    · have g := cmp_gt.mpr q
      refine ⟨e', ?_, fun y hy => ?_⟩
      · rw [co_high ha g, co_head hb]; have := (nf_tail hb).2.2.1; omega
      · rw [co_high ha (gt_trans hy g), co_high hb hy]
    · subst q
      rcases q2 with q2 | ⟨q2, q3⟩
      · exact ⟨e, by rw [co_head ha, co_head hb]; exact q2, fun y hy => by rw [co_high ha hy, co_high hb hy]⟩
      · subst q2
        obtain ⟨x, h1, h2⟩ := lt_co r r' (nf_tail ha).1 (nf_tail hb).1 q3
        exact ⟨x, by rw [co_c, co_c]; omega, fun y hy => by rw [co_c, co_c, h2 y hy]⟩
theorem co_lt {a b : O} (ha : NF a) (hb : NF b) (h : ∃ x, sameN a x < sameN b x ∧ ∀ y, cmp y x = 1 → sameN a y = sameN b y) : cmp a b = -1 := by
  obtain ⟨x, h1, h2⟩ := h
  rcases cmp_tri a b with c | c | c
  · exact c
  · subst c; omega
  · obtain ⟨x', h3, h4⟩ := lt_co b a hb ha (cmp_gt.mp c)
    rcases cmp_tri x x' with d | d | d
    · have := h2 x' (cmp_gt.mpr d); omega
    · subst d; omega
    · have := h4 x d; omega
theorem co_ext {a b : O} (ha : NF a) (hb : NF b) (h : ∀ x, sameN a x = sameN b x) : a = b := by
  rcases cmp_tri a b with c | c | c
  · obtain ⟨x, h1, _⟩ := lt_co a b ha hb c
    have := h x; omega
  · exact c
  · obtain ⟨x, h1, _⟩ := lt_co b a hb ha (cmp_gt.mp c)
    have := h x; omega
def mrgO : O → O → O
  | .z, b => b
  | .c e n r, .z => .c e n r
  | .c e n r, .c e' n' r' => if cmp e e' = 1 then .c e n (mrgO r (.c e' n' r')) else if cmp e e' = -1 then .c e' n' (mrgO (.c e n r) r') else .c e (n + n') (mrgO r r')
termination_by a b => a.len + b.len
decreasing_by all_goals (simp only [O.len]; omega)
theorem mrg_z {a : O} : mrgO a .z = a := by cases a <;> simp [mrgO]
theorem mrg_gt {e r e' r' : O} {n n' : Int} (c : cmp e e' = 1) : mrgO (.c e n r) (.c e' n' r') = .c e n (mrgO r (.c e' n' r')) := by rw [mrgO, if_pos c]
theorem mrg_lt {e r e' r' : O} {n n' : Int} (c : cmp e e' = -1) : mrgO (.c e n r) (.c e' n' r') = .c e' n' (mrgO (.c e n r) r') := by rw [mrgO, if_neg (by omega), if_pos c]
theorem mrg_eq {e r r' : O} {n n' : Int} : mrgO (.c e n r) (.c e n' r') = .c e (n + n') (mrgO r r') := by rw [mrgO, if_neg (by rw [cmp_self]; decide), if_neg (by rw [cmp_self]; decide)]
theorem mrg_co (x : O) : ∀ a b : O, sameN (mrgO a b) x = sameN a x + sameN b x
  | .z, b => by rw [mrgO, co_z, Int.zero_add]
  | .c e n r, .z => by rw [mrgO, co_z, Int.add_zero]
  | .c e n r, .c e' n' r' => by
    rcases cmp_tri e e' with c | c | c
    · rw [mrg_lt c, co_c, mrg_co x (.c e n r) r', co_c (e := e')]; omega
    · subst c; rw [mrg_eq, co_c, mrg_co x r r', co_c, co_c]; split <;> omega
    · rw [mrg_gt c, co_c, mrg_co x r (.c e' n' r'), co_c (e := e)]; omega
termination_by a b => a.len + b.len
decreasing_by all_goals (simp only [O.len]; omega)
theorem mrg_exp : ∀ (a b : O) (p : O × Int), p ∈ (mrgO a b).parts → ∃ q, (q ∈ a.parts ∨ q ∈ b.parts) ∧ q.1 = p.1
  | .z, b, p, h => by rw [mrgO] at h; exact ⟨p, Or.inr h, rfl⟩
  | .c e n r, .z, p, h => by rw [mrgO] at h; exact ⟨p, Or.inl h, rfl⟩
  | .c e n r, .c e' n' r', p, h => by
    have inA : ∀ q ∈ r.parts, q ∈ (O.c e n r).parts := fun q hq => by show q ∈ (e, n) :: r.parts; simp [hq]
    have inB : ∀ q ∈ r'.parts, q ∈ (O.c e' n' r').parts := fun q hq => by show q ∈ (e', n') :: r'.parts; simp [hq]
    have hA : (e, n) ∈ (O.c e n r).parts := by show _ ∈ (e, n) :: r.parts; simp
    have hB : (e', n') ∈ (O.c e' n' r').parts := by show _ ∈ (e', n') :: r'.parts; simp
    rcases cmp_tri e e' with c | c | c
    · rw [mrg_lt c] at h
      rcases List.mem_cons.mp (show p ∈ (e', n') :: (mrgO (.c e n r) r').parts from h) with h | h
      · exact ⟨_, Or.inr hB, by rw [h]⟩
      · obtain ⟨q, q1, q2⟩ := mrg_exp (.c e n r) r' p h
        exact ⟨q, q1.imp id (inB q), q2⟩
    · subst c
      rw [mrg_eq] at h
      rcases List.mem_cons.mp (show p ∈ (e, n + n') :: (mrgO r r').parts from h) with h | h
      · exact ⟨_, Or.inl hA, by rw [h]⟩
      · obtain ⟨q, q1, q2⟩ := mrg_exp r r' p h
        exact ⟨q, q1.imp (inA q) (inB q), q2⟩
    · rw [mrg_gt c] at h
      rcases List.mem_cons.mp (show p ∈ (e, n) :: (mrgO r (.c e' n' r')).parts from h) with h | h
      · exact ⟨_, Or.inl hA, by rw [h]⟩
      · obtain ⟨q, q1, q2⟩ := mrg_exp r (.c e' n' r') p h
        exact ⟨q, q1.imp (inA q) id, q2⟩
termination_by a b => a.len + b.len
decreasing_by all_goals (simp only [O.len]; omega)
theorem mrg_nf : ∀ a b : O, NF a → NF b → NF (mrgO a b)
  | .z, b, _, hb => by rw [mrgO]; exact hb
  | .c e n r, .z, ha, _ => by rw [mrgO]; exact ha
  | .c e n r, .c e' n' r', ha, hb => by
    have ta := nf_tail ha
    have tb := nf_tail hb
    rcases cmp_tri e e' with c | c | c
    · rw [mrg_lt c]
      refine nf_mk tb.2.1 tb.2.2.1 (mrg_nf _ _ ha tb.1) fun p hp => ?_
      obtain ⟨q, q1, q2⟩ := mrg_exp _ _ p hp
      rw [← q2]
      rcases q1 with q1 | q1
      · rcases List.mem_cons.mp (show q ∈ (e, n) :: r.parts from q1) with h | h
        · rw [h]; exact cmp_gt.mpr c
        · exact gt_trans (cmp_gt.mpr c) (ta.2.2.2 q h)
      · exact tb.2.2.2 q q1
    · subst c
      rw [mrg_eq]
      refine nf_mk ta.2.1 (by have := ta.2.2.1; have := tb.2.2.1; omega) (mrg_nf _ _ ta.1 tb.1) fun p hp => ?_
      obtain ⟨q, q1, q2⟩ := mrg_exp _ _ p hp
      rw [← q2]
      rcases q1 with q1 | q1
      · exact ta.2.2.2 q q1
      · exact tb.2.2.2 q q1
    · rw [mrg_gt c]
      refine nf_mk ta.2.1 ta.2.2.1 (mrg_nf _ _ ta.1 hb) fun p hp => ?_
      obtain ⟨q, q1, q2⟩ := mrg_exp _ _ p hp
      rw [← q2]
      rcases q1 with q1 | q1
      · exact ta.2.2.2 q q1
      · rcases List.mem_cons.mp (show q ∈ (e', n') :: r'.parts from q1) with h | h
        · rw [h]; exact c
        · exact gt_trans c (tb.2.2.2 q h)
termination_by a b => a.len + b.len
decreasing_by all_goals (simp only [O.len]; omega)
theorem mrg_len : ∀ a b : O, (mrgO a b).len ≤ a.len + b.len
  | .z, b => by rw [mrgO]; simp only [O.len]; omega
  | .c e n r, .z => by rw [mrgO]; exact Nat.le_add_right _ _
  | .c e n r, .c e' n' r' => by
    rcases cmp_tri e e' with c | c | c
    · rw [mrg_lt c]; have := mrg_len (.c e n r) r'; simp only [O.len] at this ⊢; omega
    · subst c; rw [mrg_eq]; have := mrg_len r r'; simp only [O.len] at this ⊢; omega
    · rw [mrg_gt c]; have := mrg_len r (.c e' n' r'); simp only [O.len] at this ⊢; omega
termination_by a b => a.len + b.len
decreasing_by all_goals (simp only [O.len]; omega)
theorem mrg_h {a b : O} {k : Nat} (ha : a.h ≤ k) (hb : b.h ≤ k) : (mrgO a b).h ≤ k := by
  rw [h_parts]
  intro p hp
  obtain ⟨q, q1, q2⟩ := mrg_exp a b p hp
  rw [← q2]
  rcases q1 with q1 | q1
  · exact (h_parts a).mp ha q q1
  · exact (h_parts b).mp hb q q1
theorem G.mrg {m n : Nat} {a b : O} (ha : G m a) (hb : G n b) : G (m + n) (mrgO a b) := ⟨mrg_nf _ _ ha.nf hb.nf, mrg_h ha.h hb.h, by have := mrg_len a b; have := ha.l; have := hb.l; omega⟩
theorem mrg_assoc {a b d : O} (ha : NF a) (hb : NF b) (hd : NF d) : mrgO (mrgO a b) d = mrgO a (mrgO b d) := co_ext (mrg_nf _ _ (mrg_nf _ _ ha hb) hd) (mrg_nf _ _ ha (mrg_nf _ _ hb hd)) fun x => by rw [mrg_co, mrg_co, mrg_co, mrg_co]; omega
end Nm
set_option Elab.async false
set_option linter.all false
set_option maxRecDepth 100000
set_option maxHeartbeats 4000000
namespace Pu
open PySem
theorem whileL_t {T : Vars → R Bool} {B : Vars → Out} {f : Nat} {ρ ρ2 : Vars} (h1 : T ρ = .ok true) (h2 : B ρ = .nx ρ2) : whileL T B (f + 1) ρ = whileL T B f ρ2 := by
  show (T ρ).run ρ _ = _
  rw [h1, R.run_ok, if_pos rfl, h2]
theorem whileL_f {T : Vars → R Bool} {B : Vars → Out} {f : Nat} {ρ : Vars} (h1 : T ρ = .ok false) : whileL T B (f + 1) ρ = .nx ρ := by
  show (T ρ).run ρ _ = _
  rw [h1, R.run_ok, if_neg Bool.false_ne_true]
end Pu
namespace Nm
open PySem Pu O L2
abbrev mT : Vars → R Bool := tAndR (tOf (eOp gLt (eVar 3) (eCall gLen (aCons (eVar 0) aNil)))) (tOf (eOp gLt (eVar 4) (eCall gLen (aCons (eVar 1) aNil))))
abbrev mB (F : Fn) : Vars → Out := sSeq (sSetM [2] 5 (eFn F (aCons (eOp gIx (eOp gIx (eVar 0) (eVar 3)) (eC (.int 0))) (aCons (eOp gIx (eOp gIx (eVar 1) (eVar 4)) (eC (.int 0))) aNil)))) (sIf (tOf (eOp gEq (eVar 5) (eC (.int 1)))) (sSeq (sAppM [2] 2 (eOp gIx (eVar 0) (eVar 3))) (sAug [2] 3 gAddI (eC (.int 1)))) (sIf (tOf (eOp gEq (eVar 5) (eNeg (eC (.int 1))))) (sSeq (sAppM [2] 2 (eOp gIx (eVar 1) (eVar 4))) (sAug [2] 4 gAddI (eC (.int 1)))) (sSeq (sAppM [2] 2 (eTup (aCons (eOp gIx (eOp gIx (eVar 0) (eVar 3)) (eC (.int 0))) (aCons (eOp gAdd (eOp gIx (eOp gIx (eVar 0) (eVar 3)) (eC (.int 1))) (eOp gIx (eOp gIx (eVar 1) (eVar 4)) (eC (.int 1)))) aNil)))) (sSeq (sAug [2] 3 gAddI (eC (.int 1))) (sAug [2] 4 gAddI (eC (.int 1)))))))
theorem drop_at {ps : List (O × Int)} {i : Nat} {p : O × Int} {r : List (O × Int)} (h : ps.drop i = p :: r) : ps[i]? = some p ∧ ps.drop (i + 1) = r ∧ i < ps.length := by
  have h1 : i < ps.length := by
    rcases Nat.lt_or_ge i ps.length with c | c
    · exact c
    · rw [List.drop_eq_nil_of_le c] at h; cases h
  have h2 := List.drop_eq_getElem_cons h1
  rw [h2] at h
  injection h with h3 h4
  exact ⟨by rw [List.getElem?_eq_getElem h1, h3], h4, h1⟩
theorem atI_at {a : O} {i : Nat} {p : O × Int} (h : a.parts[i]? = some p) : atI (encL a) (i : Int) = some (encP p) := by
  rw [encL_parts]
  exact L2.atI_nat (by rw [List.getElem?_map, h]; rfl)
theorem mrg_loop {k : Nat} {F : Fn} (hF : CmpOk k F) {a b : O} (ha : a.h ≤ k) : ∀ (f : Nat) (x y : O) (i j : Nat) (Fd : List (O × Int)) (s : Option PyData), a.parts.drop i = x.parts → b.parts.drop j = y.parts → i ≤ a.len → j ≤ b.len → x.len + y.len + 1 ≤ f → Fd.length + x.len + y.len ≤ 2000 →
    ∃ (i' j' : Nat) (F' : List (O × Int)) (s' : Option PyData), whileL mT (mB F) f [some (enc a), some (enc b), some (.list (Fd.map encP)), some (.int (i : Nat)), some (.int (j : Nat)), s] = .nx [some (enc a), some (enc b), some (.list (F'.map encP)), some (.int (i' : Nat)), some (.int (j' : Nat)), s'] ∧
      F' ++ a.parts.drop i' ++ b.parts.drop j' = Fd ++ (mrgO x y).parts ∧ i' ≤ a.len ∧ j' ≤ b.len ∧ F'.length ≤ 2000
  | 0, x, y, i, j, Fd, s, _, _, _, _, hf, _ => by omega
  | f + 1, .z, y, i, j, Fd, s, hx, hy, hi, hj, hf, hl => by
    have hi2 : a.parts.length ≤ i := by
      rcases Nat.lt_or_ge i a.parts.length with c | c
      · rw [List.drop_eq_getElem_cons c] at hx; cases hx
      · exact c
    rw [len_parts] at hi2
    have t : mT [some (enc a), some (enc b), some (.list (Fd.map encP)), some (.int (i : Nat)), some (.int (j : Nat)), s] = .ok false := by
      have : ¬ (i : Int) < (a.len : Int) := by omega
      simp [this]
    refine ⟨i, j, Fd, s, whileL_f t, ?_, hi, hj, by omega⟩
    rw [hx, hy, mrgO]
    show Fd ++ [] ++ y.parts = _
    rw [List.append_nil]
  | f + 1, .c e n r, .z, i, j, Fd, s, hx, hy, hi, hj, hf, hl => by
    have hj2 : b.parts.length ≤ j := by
      rcases Nat.lt_or_ge j b.parts.length with c | c
      · rw [List.drop_eq_getElem_cons c] at hy; cases hy
      · exact c
    rw [len_parts] at hj2
    have t : mT [some (enc a), some (enc b), some (.list (Fd.map encP)), some (.int (i : Nat)), some (.int (j : Nat)), s] = .ok false := by
      have : ¬ (j : Int) < (b.len : Int) := by omega
      by_cases c : (i : Int) < (a.len : Int) <;> simp [this, c] <;> omega
    refine ⟨i, j, Fd, s, whileL_f t, ?_, hi, hj, by omega⟩
    rw [hx, hy, mrgO]
    show Fd ++ _ ++ [] = _
    rw [List.append_nil]
  | f + 1, .c e n r, .c e' n' r', i, j, Fd, s, hx, hy, hi, hj, hf, hl => by
    obtain ⟨x1, x2, x3⟩ := drop_at (show a.parts.drop i = (e, n) :: r.parts from hx)
    obtain ⟨y1, y2, y3⟩ := drop_at (show b.parts.drop j = (e', n') :: r'.parts from hy)
    rw [len_parts] at x3 y3
    simp only [O.len] at hf hl
    have pe : e.h + 1 ≤ a.h := part_mem_h (List.mem_of_getElem? x1)
    have ax := atI_at x1
    have ay := atI_at y1
    have cc := hF e e' (by omega)
    have t : mT [some (enc a), some (enc b), some (.list (Fd.map encP)), some (.int (i : Nat)), some (.int (j : Nat)), s] = .ok true := by
      have h1 : (i : Int) < (a.len : Int) := by omega
      have h2 : (j : Int) < (b.len : Int) := by omega
      simp [h1, h2]
    have s1 : Fd.length < sizeLine := sz1000' (by omega)
    rcases cmp_tri e e' with c | c | c
    · rw [c] at cc
      have bd : mB F [some (enc a), some (enc b), some (.list (Fd.map encP)), some (.int (i : Nat)), some (.int (j : Nat)), s] = .nx [some (enc a), some (enc b), some (.list ((Fd ++ [(e', n')]).map encP)), some (.int (i : Nat)), some (.int ((j + 1 : Nat) : Nat)), some (.int (-1))] := by
        simp [mask, ax, ay, cc, s1, gAddI]
      obtain ⟨i', j', F', s', g1, g2, g3, g4, g5⟩ := mrg_loop hF ha f (.c e n r) r' i (j + 1) (Fd ++ [(e', n')]) (some (.int (-1))) hx y2 hi (by omega) (by simp only [O.len]; omega) (by rw [List.length_append, List.length_singleton]; simp only [O.len]; omega)
      refine ⟨i', j', F', s', by rw [whileL_t t bd]; exact g1, ?_, g3, g4, g5⟩
      rw [g2, mrg_lt c]
      show Fd ++ [(e', n')] ++ _ = Fd ++ (e', n') :: _
      simp
    · subst c
      rw [cmp_self] at cc
      have bd : mB F [some (enc a), some (enc b), some (.list (Fd.map encP)), some (.int (i : Nat)), some (.int (j : Nat)), s] = .nx [some (enc a), some (enc b), some (.list ((Fd ++ [(e, n + n')]).map encP)), some (.int ((i + 1 : Nat) : Nat)), some (.int ((j + 1 : Nat) : Nat)), some (.int 0)] := by
        simp [mask, ax, ay, cc, s1, gAddI]
      obtain ⟨i', j', F', s', g1, g2, g3, g4, g5⟩ := mrg_loop hF ha f r r' (i + 1) (j + 1) (Fd ++ [(e, n + n')]) (some (.int 0)) x2 y2 (by omega) (by omega) (by omega) (by rw [List.length_append, List.length_singleton]; omega)
      refine ⟨i', j', F', s', by rw [whileL_t t bd]; exact g1, ?_, g3, g4, g5⟩
      rw [g2, mrg_eq]
      show Fd ++ [(e, n + n')] ++ _ = Fd ++ (e, n + n') :: _
      simp
    · rw [c] at cc
      have bd : mB F [some (enc a), some (enc b), some (.list (Fd.map encP)), some (.int (i : Nat)), some (.int (j : Nat)), s] = .nx [some (enc a), some (enc b), some (.list ((Fd ++ [(e, n)]).map encP)), some (.int ((i + 1 : Nat) : Nat)), some (.int (j : Nat)), some (.int 1)] := by
        simp [mask, ax, ay, cc, s1, gAddI]
      obtain ⟨i', j', F', s', g1, g2, g3, g4, g5⟩ := mrg_loop hF ha f r (.c e' n' r') (i + 1) j (Fd ++ [(e, n)]) (some (.int 1)) x2 hy (by omega) hj (by simp only [O.len]; omega) (by rw [List.length_append, List.length_singleton]; simp only [O.len]; omega)
      refine ⟨i', j', F', s', by rw [whileL_t t bd]; exact g1, ?_, g3, g4, g5⟩
      rw [g2, mrg_gt c]
      show Fd ++ [(e, n)] ++ _ = Fd ++ (e, n) :: _
      simp
def MrgOk (k : Nat) (F : Fn) : Prop := ∀ a b : O, a.h ≤ k → a.len ≤ 900 → b.len ≤ 900 → F [enc a, enc b] = .ok (enc (mrgO a b))
theorem merged_step {S : Nat → Fn} {c0 k : Nat} (hc : CmpOk k (S c0)) : MrgOk k (fun ds => fnD 6 (G_merged c0 S) ds) := by
  intro a b ha la lb
  refine fnD_of ?_
  obtain ⟨i, j, F', s', g1, g2, g3, g4, g5⟩ := mrg_loop hc (a := a) (b := b) ha wfuel a b 0 0 [] none rfl rfl (Nat.zero_le _) (Nat.zero_le _) (by show _ ≤ 1000000; omega) (by simp; omega)
  have ep : encL (mrgO a b) = F'.map encP ++ (encL a).drop i ++ (encL b).drop j := by
    rw [List.nil_append] at g2
    rw [encL_parts, ← g2, encL_parts a, encL_parts b, List.map_append, List.map_append, List.map_drop, List.map_drop]
  have c1 : Pu.cutD (encL a) (some (i : Int)) none = (encL a).drop i := by rw [cut_back, encL_len, Nat.min_eq_left g3]
  have c2 : Pu.cutD (encL b) (some (j : Int)) none = (encL b).drop j := by rw [cut_back, encL_len, Nat.min_eq_left g4]
  have l1 : ((encL a).drop i).length ≤ 900 := by rw [List.length_drop, encL_len]; omega
  have l2 : ((encL b).drop j).length ≤ 900 := by rw [List.length_drop, encL_len]; omega
  have s1 : F'.length + ((encL a).drop i).length ≤ sizeLine := sz1000 (by omega)
  have s2 : F'.length + ((encL a).drop i).length + ((encL b).drop j).length ≤ sizeLine := sz1000 (by omega)
  have g1' : whileL mT (mB (S c0)) wfuel [some (enc a), some (enc b), some (.list []), some (.int 0), some (.int 0), none] = _ := g1
  unfold G_merged
  rw [u_sSeq]
  have e1 : (sNew [2] 2 (nLst aNil)) (List.map some [enc a, enc b] ++ List.replicate (6 - [enc a, enc b].length) none) = .nx [some (enc a), some (enc b), some (.list []), none, none, none] := by simp
  rw [e1, Out.then_nx, u_sSeq]
  have e2 : (sSetM [2] 3 (eC (.int 0))) [some (enc a), some (enc b), some (.list []), none, none, none] = .nx [some (enc a), some (enc b), some (.list []), some (.int 0), none, none] := by simp
  rw [e2, Out.then_nx, u_sSeq]
  have e3 : (sSetM [2] 4 (eC (.int 0))) [some (enc a), some (enc b), some (.list []), some (.int 0), none, none] = .nx [some (enc a), some (enc b), some (.list []), some (.int 0), some (.int 0), none] := by simp
  rw [e3, Out.then_nx, u_sSeq, g1', Out.then_nx]
  simp only [List.length_drop, encL_len] at s1 s2
  simp [c1, c2, s1, s2, ep]
end Nm
set_option Elab.async false
set_option linter.all false
set_option maxRecDepth 100000
set_option maxHeartbeats 4000000
namespace Pu
open PySem
theorem fnD_err {N : Nat} {g : Vars → Out} {ds : List PyData} {c : Str} {ρ : Vars} (h : g (ds.map some ++ List.replicate (N - ds.length) none) = .err c ρ) : fnD N g ds = .err c := by unfold fnD; rw [h]
end Pu
namespace Nm
open PySem Pu O L2
abbrev nT : Vars → R Bool := tAndR (tOf (eOp gLt (eVar 2) (eCall gLen (aCons (eVar 1) aNil)))) (tOf (eOp gEq (eOp gIx (eVar 0) (eVar 2)) (eOp gIx (eVar 1) (eVar 2))))
end Nm
set_option Elab.async false
set_option linter.all false
set_option maxRecDepth 100000
namespace Pu
open PySem
end Pu
set_option Elab.async false
set_option linter.all false
set_option maxRecDepth 100000
set_option maxHeartbeats 4000000
namespace Nm
open PySem Pu O L2
def insO : O → O → Int → O
  | .z, e, n => .c e n .z
  | .c f k r, e, n => if cmp f e = 1 then .c f k (insO r e n) else if f = e then .c f k r else .c e n (.c f k r)
theorem ins_exp : ∀ (a e : O) (n : Int) (p : O × Int), p ∈ (insO a e n).parts → p.1 = e ∨ ∃ q ∈ a.parts, q.1 = p.1
  | .z, e, n, p, h => by
    rcases List.mem_cons.mp (show p ∈ (e, n) :: [] from h) with h | h
    · exact Or.inl (by rw [h])
    · cases h
  | .c f k r, e, n, p, h => by
    unfold insO at h
    by_cases c1 : cmp f e = 1
    · rw [if_pos c1] at h
      rcases List.mem_cons.mp (show p ∈ (f, k) :: (insO r e n).parts from h) with h | h
      · exact Or.inr ⟨(f, k), by show _ ∈ (f, k) :: r.parts; simp, by rw [h]⟩
      · rcases ins_exp r e n p h with h | ⟨q, q1, q2⟩
        · exact Or.inl h
        · exact Or.inr ⟨q, by show _ ∈ (f, k) :: r.parts; simp [q1], q2⟩
    · rw [if_neg c1] at h
      by_cases c2 : f = e
      · rw [if_pos c2] at h; exact Or.inr ⟨p, h, rfl⟩
      · rw [if_neg c2] at h
        rcases List.mem_cons.mp (show p ∈ (e, n) :: (O.c f k r).parts from h) with h | h
        · exact Or.inl (by rw [h])
        · exact Or.inr ⟨p, h, rfl⟩
theorem ins_nf : ∀ (a e : O) (n : Int), NF a → NF e → 1 ≤ n → NF (insO a e n)
  | .z, e, n, _, he, hn => nf_mk he hn trivial (fun q hq => by cases hq)
  | .c f k r, e, n, ha, he, hn => by
    have ta := nf_tail ha
    unfold insO
    by_cases c1 : cmp f e = 1
    · rw [if_pos c1]
      refine nf_mk ta.2.1 ta.2.2.1 (ins_nf r e n ta.1 he hn) fun q hq => ?_
      rcases ins_exp r e n q hq with h | ⟨q', q1, q2⟩
      · rw [h]; exact c1
      · rw [← q2]; exact ta.2.2.2 q' q1
    · rw [if_neg c1]
      by_cases c2 : f = e
      · rw [if_pos c2]; exact ha
      · rw [if_neg c2]
        have lt : cmp f e = -1 := by
          rcases cmp_tri f e with c | c | c
          · exact c
          · exact absurd c c2
          · exact absurd c c1
        refine nf_mk he hn ha fun q hq => ?_
        rcases List.mem_cons.mp (show q ∈ (f, k) :: r.parts from hq) with h | h
        · rw [h]; exact cmp_gt.mpr lt
        · exact gt_trans (cmp_gt.mpr lt) (ta.2.2.2 q h)
theorem ins_len : ∀ (a e : O) (n : Int), (insO a e n).len ≤ a.len + 1
  | .z, e, n => Nat.le_refl _
  | .c f k r, e, n => by
    have := ins_len r e n
    unfold insO
    split
    · simp only [O.len]; omega
    · split
      · exact Nat.le_succ _
      · exact Nat.le_refl _
theorem ins_h {a e : O} {n : Int} {k : Nat} (ha : a.h ≤ k) (he : e.h + 1 ≤ k) : (insO a e n).h ≤ k := by
  rw [h_parts]
  intro p hp
  rcases ins_exp a e n p hp with h | ⟨q, q1, q2⟩
  · rw [h]; exact he
  · rw [← q2]; exact (h_parts a).mp ha q q1
theorem ins_mx : ∀ {a e : O} {n B : Int}, mx a ≤ B → mx e ≤ B → n ≤ B → mx (insO a e n) ≤ B
  | .z, e, n, B, _, h2, h3 => by
    show max n (max (mx e) 0) ≤ B
    have := mx_nonneg e; omega
  | .c f k r, e, n, B, h1, h2, h3 => by
    have m1 : mx (.c f k r) = max k (max (mx f) (mx r)) := rfl
    have ih := ins_mx (a := r) (e := e) (n := n) (B := B) (by omega) h2 h3
    unfold insO
    split
    · show max k (max (mx f) (mx (insO r e n))) ≤ B; omega
    · split
      · exact h1
      · show max n (max (mx e) (mx (.c f k r))) ≤ B; omega
theorem ins_size : ∀ (a e : O) (n : Int), (insO a e n).size ≤ a.size + 1 + e.size
  | .z, e, n => by show 1 + e.size + 0 ≤ 0 + 1 + e.size; omega
  | .c f k r, e, n => by
    have := ins_size r e n
    unfold insO
    split
    · show 1 + f.size + (insO r e n).size ≤ 1 + f.size + r.size + 1 + e.size; omega
    · split
      · show _ ≤ _; omega
      · show 1 + e.size + (1 + f.size + r.size) ≤ 1 + f.size + r.size + 1 + e.size; omega
end Nm
set_option Elab.async false
set_option linter.all false
set_option maxRecDepth 100000
set_option maxHeartbeats 4000000
namespace Nm
open PySem Pu O L2
def prodL (e : O) (n : Int) (r : O) (ps : List (O × Int)) : List (O × Int) := ps.flatMap fun p => if p.1 = .z then (e, n * p.2) :: r.parts else [(plusO e p.1, p.2)]
def prodO : O → O → O
  | .z, _ => .z
  | .c e n r, b => of (prodL e n r b.parts)
theorem z_min {s : O} {m : Int} (h : NF (.c .z m s)) : s = .z := by
  cases s with
  | z => rfl
  | c f k t =>
    have := (nf_tail h).2.2.2 (f, k) (by show _ ∈ (f, k) :: t.parts; simp)
    cases f <;> simp [cmp] at this
end Nm
set_option Elab.async false
set_option linter.all false
set_option maxRecDepth 100000
set_option maxHeartbeats 4000000
namespace Nm
open PySem Pu O L2
theorem z_lt {f : O} (h : f ≠ .z) : cmp .z f = -1 := by
  cases f with
  | z => exact absurd rfl h
  | c e n r => exact cmp_zc
end Nm
set_option Elab.async false
set_option linter.all false
set_option maxRecDepth 100000
set_option maxHeartbeats 4000000
namespace Nm
open PySem Pu O L2
structure Bg (L E C Z : Nat) (a : O) : Prop where
  nf : NF a
  h : a.h ≤ 8
  ll : a.len ≤ L
  el : ∀ p ∈ a.parts, p.1.len ≤ E
  cs : ∀ p ∈ a.parts, p.2.natAbs < 2 ^ C
  s : a.size ≤ Z
theorem Bg.up {L E C Z L' E' C' Z' : Nat} {a : O} (b : Bg L E C Z a) (h1 : L ≤ L') (h2 : E ≤ E') (h3 : C ≤ C') (h4 : Z ≤ Z') : Bg L' E' C' Z' a :=
  ⟨b.nf, b.h, Nat.le_trans b.ll h1, fun p hp => Nat.le_trans (b.el p hp) h2, fun p hp => Nat.lt_of_lt_of_le (b.cs p hp) (Nat.pow_le_pow_right (by decide) h3), Nat.le_trans b.s h4⟩
def TimesG (F : Fn) : Prop := ∀ {L1 E1 C1 Z1 L2 E2 C2 Z2 : Nat} {a b : O}, Bg L1 E1 C1 Z1 a → Bg L2 E2 C2 Z2 b → E1 ≤ 1000000 → E2 ≤ 1000000 → L2 * (1 + L1) ≤ 5000000 → 0 < C1 → 0 < C2 → C1 + C2 ≤ 100000 → F [enc a, enc b] = .ok (enc (prodO a b))
end Nm
set_option Elab.async false
set_option linter.all false
set_option maxRecDepth 100000
set_option maxHeartbeats 4000000
namespace Nm
open PySem Pu O L2
def isLim : O → Bool
  | .z => false
  | .c e _ r => if r = .z then !decide (e = .z) else isLim r
def tailP (e : O) (m : Int) (x : O) : O := if m = 1 then x else .c e (m - 1) x
def predO : O → O
  | .z => .z
  | .c e m r => if r = .z then tailP e m .z else .c e m (predO r)
def rung : O → Int → O
  | .z, _ => .z
  | .c e m r, n => if r = .z then (if e = .z then tailP e m .z else if isLim e = true then tailP e m (.c (rung e n) 1 .z) else tailP e m (if n = 0 then .z else .c (predO e) n .z)) else .c e m (rung r n)
structure Below (x a : O) : Prop where
  nf : NF x
  lt : cmp x a = -1
  hd : ∀ g, (∀ q ∈ a.parts, cmp g q.1 = 1) → ∀ p ∈ x.parts, cmp g p.1 = 1
theorem tail_below {e x : O} {m : Int} (h : NF (.c e m .z)) (nx : NF x) (hx : ∀ p ∈ x.parts, cmp e p.1 = 1) : Below (tailP e m x) (.c e m .z) := by
  have t := nf_tail h
  have up : ∀ g, cmp g e = 1 → ∀ p ∈ x.parts, cmp g p.1 = 1 := fun g hg p hp => gt_trans hg (hx p hp)
  have xlt : cmp x (.c e m .z) = -1 := by
    cases x with
    | z => exact cmp_zc
    | c f k s => exact cmp_lt_head (cmp_gt.mp (hx (f, k) (by show _ ∈ (f, k) :: s.parts; simp)))
  unfold tailP
  by_cases c : m = 1
  · rw [if_pos c]
    exact ⟨nx, xlt, fun g hg p hp => up g (hg (e, m) (by show _ ∈ (e, m) :: []; simp)) p hp⟩
  · rw [if_neg c]
    refine ⟨nf_mk t.2.1 (by omega) nx hx, cmp_c.mpr (Or.inr ⟨rfl, Or.inl (by omega)⟩), fun g hg p hp => ?_⟩
    have ge := hg (e, m) (by show _ ∈ (e, m) :: []; simp)
    rcases List.mem_cons.mp (show p ∈ (e, m - 1) :: x.parts from hp) with h | h
    · rw [h]; exact ge
    · exact up g ge p h
theorem cons_below {e r x : O} {m : Int} (h : NF (.c e m r)) (b : Below x r) : Below (.c e m x) (.c e m r) := by
  have t := nf_tail h
  refine ⟨nf_mk t.2.1 t.2.2.1 b.nf (b.hd e t.2.2.2), cmp_c.mpr (Or.inr ⟨rfl, Or.inr ⟨rfl, b.lt⟩⟩), fun g hg p hp => ?_⟩
  rcases List.mem_cons.mp (show p ∈ (e, m) :: x.parts from hp) with h | h
  · rw [h]; exact hg (e, m) (by show _ ∈ (e, m) :: r.parts; simp)
  · exact b.hd g (fun q hq => hg q (by show q ∈ (e, m) :: r.parts; simp [hq])) p h
theorem pred_below : ∀ a : O, NF a → a ≠ .z → Below (predO a) a
  | .z, _, h => absurd rfl h
  | .c e m r, h, _ => by
    unfold predO
    by_cases c : r = .z
    · rw [if_pos c]; subst c
      exact tail_below h trivial (fun p hp => by cases hp)
    · rw [if_neg c]
      exact cons_below h (pred_below r (nf_tail h).1 c)
theorem rung_below : ∀ (a : O) (n : Int), NF a → a ≠ .z → 0 ≤ n → Below (rung a n) a
  | .z, _, _, h, _ => absurd rfl h
  | .c e m r, n, h, _, hn => by
    have t := nf_tail h
    unfold rung
    by_cases c : r = .z
    · rw [if_pos c]; subst c
      by_cases ez : e = .z
      · rw [if_pos ez]
        exact tail_below h trivial (fun p hp => by cases hp)
      · rw [if_neg ez]
        by_cases l : isLim e = true
        · rw [if_pos l]
          have b := rung_below e n t.2.1 ez hn
          refine tail_below h (nf_mk b.nf (by decide) trivial (fun q hq => by cases hq)) fun p hp => ?_
          rcases List.mem_cons.mp (show p ∈ (rung e n, 1) :: [] from hp) with h | h
          · rw [h]; exact cmp_gt.mpr b.lt
          · cases h
        · rw [if_neg l]
          have b := pred_below e t.2.1 ez
          by_cases n0 : n = 0
          · rw [if_pos n0]
            exact tail_below h trivial (fun p hp => by cases hp)
          · rw [if_neg n0]
            refine tail_below h (nf_mk b.nf (by omega) trivial (fun q hq => by cases hq)) fun p hp => ?_
            rcases List.mem_cons.mp (show p ∈ (predO e, n) :: [] from hp) with h | h
            · rw [h]; exact cmp_gt.mpr b.lt
            · cases h
    · rw [if_neg c]
      exact cons_below h (rung_below r n t.1 c hn)
end Nm
set_option Elab.async false
set_option linter.all false
set_option maxRecDepth 100000
namespace Pu
open PySem
def G_whole_part (S : Nat → List PyData → R PyData) : Vars → Out :=
  (sSeq (sIf (tOrR (tOf (eOp gEq (eVar 0) (eTup aNil))) (tOf (eOp gNe (eOp gIx (eOp gIx (eVar 0) (eNeg (eC (.int 1)))) (eC (.int 0))) (eTup aNil)))) (sRet (eC (.int 0))) sNil)
    (sRet (eOp gIx (eOp gIx (eVar 0) (eNeg (eC (.int 1)))) (eC (.int 1)))))
def G_is_limit (c0 : Nat) (S : Nat → List PyData → R PyData) : Vars → Out :=
  (sRet (eAnd (eOp gNe (eVar 0) (eTup aNil)) (eOp gEq (eFn (S c0) (aCons (eVar 0) aNil)) (eC (.int 0)))))
def G_once_less (S : Nat → List PyData → R PyData) : Vars → Out :=
  (sSeq (sAsg [] (gtTup 2 (gtCons (gtName 1) (gtCons (gtName 2) gtNil))) (eOp gIx (eVar 0) (eNeg (eC (.int 1)))))
    (sSeq (sIf (tOf (eOp gEq (eVar 2) (eC (.int 1)))) (sRet (eSl (eVar 0) oNone (oSome (eNeg (eC (.int 1)))))) sNil)
    (sRet (eOp gAdd (eSl (eVar 0) oNone (oSome (eNeg (eC (.int 1))))) (eTup (aCons (eTup (aCons (eVar 1) (aCons (eOp gSub (eVar 2) (eC (.int 1))) aNil))) aNil))))))
def G_climbed (c0 c1 c2 c3 : Nat) (S : Nat → List PyData → R PyData) : Vars → Out :=
  (sSeq (sSet [] 2 (eFn (S c0) (aCons (eVar 0) aNil)))
    (sSeq (sSet [] 3 (eOp gIx (eOp gIx (eVar 0) (eNeg (eC (.int 1)))) (eC (.int 0))))
    (sSeq (sIf (tOf (eOp gEq (eVar 3) (eTup aNil))) (sRet (eVar 2)) sNil)
    (sSeq (sIf (tTru (eFn (S c1) (aCons (eVar 3) aNil))) (sRet (eOp gAdd (eVar 2) (eFn (fun ds => S c3 (ds ++ [.int 1])) (aCons (eFn (S c2) (aCons (eVar 3) (aCons (eVar 1) aNil))) aNil)))) sNil)
    (sRet (eOp gAdd (eVar 2) (eFn (S c3) (aCons (eFn (S c0) (aCons (eVar 3) aNil)) (aCons (eVar 1) aNil)))))))))
def G_ladder (c0 c1 : Nat) (S : Nat → List PyData → R PyData) : Vars → Out :=
  (sSeq (sIf (tOf (eOp gEq (eVar 0) (eTup aNil))) (sRaise "Nought") sNil)
    (sSeq (sIf (tNotR (tTru (eFn (S c0) (aCons (eVar 1) aNil)))) (sRaise "NoNumber") sNil)
    (sRet (eFn (S c1) (aCons (eVar 0) (aCons (eVar 1) aNil))))))
end Pu
set_option Elab.async false
set_option linter.all false
set_option maxRecDepth 100000
set_option maxHeartbeats 4000000
namespace Nm
open PySem Pu O L2
def lastP : O → O × Int
  | .z => (.z, 0)
  | .c e m r => if r = .z then (e, m) else lastP r
theorem last_get : ∀ {a : O}, a ≠ .z → a.parts.getLast? = some (lastP a)
  | .z, h => absurd rfl h
  | .c e m r, _ => by
    show ((e, m) :: r.parts).getLast? = some (if r = .z then (e, m) else lastP r)
    by_cases c : r = .z
    · rw [if_pos c]; subst c; rfl
    · rw [if_neg c]
      have hne : r.parts ≠ [] := fun z => c (parts_inj (b := .z) z)
      rw [List.getLast?_cons_of_ne_nil hne]
      exact last_get c
theorem isLim_last : ∀ {a : O}, a ≠ .z → isLim a = !decide ((lastP a).1 = .z)
  | .z, h => absurd rfl h
  | .c e m r, _ => by
    unfold isLim lastP
    by_cases c : r = .z
    · rw [if_pos c, if_pos c]
    · rw [if_neg c, if_neg c]; exact isLim_last c
theorem predO_parts : ∀ {a : O}, a ≠ .z → (predO a).parts = a.parts.take (a.len - 1) ++ (tailP (lastP a).1 (lastP a).2 .z).parts
  | .z, h => absurd rfl h
  | .c e m r, _ => by
    unfold predO lastP
    by_cases c : r = .z
    · rw [if_pos c, if_pos c]
      subst c
      rfl
    · rw [if_neg c, if_neg c]
      have ih := predO_parts c
      have hl : (O.c e m r).len - 1 = (r.len - 1) + 1 := by
        have : 0 < r.len := by
          cases r with
          | z => exact absurd rfl c
          | c f k s => show 0 < s.len + 1; omega
        show r.len + 1 - 1 = _; omega
      rw [hl]
      show (e, m) :: (predO r).parts = (e, m) :: r.parts.take (r.len - 1) ++ _
      rw [ih]; rfl
def PredOk (F : Fn) : Prop := ∀ a : O, a ≠ .z → a.h ≤ 30 → a.len ≤ 1000 → F [enc a] = .ok (enc (predO a))
theorem once_less_step (S : Nat → Fn) : PredOk (fun ds => fnD 3 (G_once_less S) ds) := by
  intro a az ah al
  refine fnD_of ?_
  obtain ⟨p, p1, p2, p3⟩ := part_last az
  rw [last_get az] at p3
  cases p3
  have ci : Pu.cutD (encL a) none (some (-1)) = (a.parts.take (a.len - 1)).map encP := by rw [cut_init, encL_take, encL_len, encL_of]
  have s1 : (a.parts.take (a.len - 1)).length + 1 ≤ sizeLine := sz1000 (by have := List.length_take_le (a.len - 1) a.parts; omega)
  have ep : enc (predO a) = .tuple ((a.parts.take (a.len - 1)).map encP ++ (tailP (lastP a).1 (lastP a).2 .z).parts.map encP) := by
    show PyData.tuple (encL _) = _
    rw [encL_parts, predO_parts az, List.map_append]
  rw [ep]
  unfold G_once_less
  by_cases c : (lastP a).2 = 1
  · have : tailP (lastP a).1 (lastP a).2 .z = .z := if_pos c
    rw [this]
    simp [p2, c, ci, O.parts]
  · have : tailP (lastP a).1 (lastP a).2 .z = .c (lastP a).1 ((lastP a).2 - 1) .z := if_neg c
    rw [this]
    rw [List.length_take] at s1
    simp [p2, c, ci, s1, O.parts]
end Nm
namespace Nm
open PySem Pu O L2
def LimOk (F : Fn) : Prop := ∀ a : O, NF a → a.h ≤ 30 → F [enc a] = .ok (.bool (isLim a))
theorem lastP_pos : ∀ {a : O}, NF a → a ≠ .z → 1 ≤ (lastP a).2 := fun {a} na az => by
  have h := last_get az
  have hm := List.mem_of_getLast? h
  exact (((nf_parts a).mp na).2 _ hm).2
theorem is_limit_step {S : Nat → Fn} {S2 : Nat → Fn} {c0 : Nat} (hw : ∀ a, S c0 [enc a] = fnD 1 (G_whole_part S2) [enc a]) : LimOk (fun ds => fnD 1 (G_is_limit c0 S) ds) := by
  intro a na ah
  refine fnD_of ?_
  have g1 := gNe_nil (a := a) (by omega)
  have g2 := gEq_nil (a := a) (by omega)
  by_cases az : a = .z
  · rw [decide_eq_true az] at g1
    have : isLim a = false := by rw [az]; rfl
    rw [this]
    unfold G_is_limit
    simp [g1]
  · rw [decide_eq_false az] at g1 g2
    obtain ⟨p, p1, p2, p3⟩ := part_last az
    rw [last_get az] at p3
    cases p3
    have ph := part_mem_h p1
    have g3 := gNe_nil (a := (lastP a).1) (by omega)
    have pos := lastP_pos na az
    have e1 : fnD 1 (G_whole_part S2) [enc a] = .ok (.int (if (lastP a).1 = .z then (lastP a).2 else 0)) := by
      refine fnD_of ?_
      unfold G_whole_part
      by_cases c : (lastP a).1 = .z
      · rw [decide_eq_true c] at g3
        rw [if_pos c]
        simp [g2, p2, g3]
      · rw [decide_eq_false c] at g3
        rw [if_neg c]
        simp [g2, p2, g3]
    have e2 := hw a
    rw [e1] at e2
    have e3 := isLim_last az
    rw [e3]
    unfold G_is_limit
    by_cases c : (lastP a).1 = .z
    · have n0 : ¬ (lastP a).2 = 0 := by omega
      rw [if_pos c] at e2
      simp [g1, e2, c, n0]
    · rw [if_neg c] at e2
      simp [g1, e2, c]
def rungX (e : O) (n : Int) : O := if e = .z then .z else if isLim e = true then .c (rung e n) 1 .z else if n = 0 then .z else .c (predO e) n .z
theorem rung_parts : ∀ {a : O} (n : Int), a ≠ .z → (rung a n).parts = (predO a).parts ++ (rungX (lastP a).1 n).parts
  | .z, _, h => absurd rfl h
  | .c e m r, n, _ => by
    rw [rung, predO, lastP]
    by_cases c : r = .z
    · rw [if_pos c, if_pos c, if_pos c]
      unfold rungX tailP
      by_cases ez : e = .z
      · rw [if_pos ez, if_pos ez]; simp [O.parts]
      · rw [if_neg ez, if_neg ez]
        by_cases l : isLim e = true
        · rw [if_pos l, if_pos l]
          by_cases m1 : m = 1
          · rw [if_pos m1, if_pos m1]; rfl
          · rw [if_neg m1, if_neg m1]; rfl
        · rw [if_neg l, if_neg l]
          by_cases m1 : m = 1
          · rw [if_pos m1, if_pos m1]; rfl
          · rw [if_neg m1, if_neg m1]; rfl
    · rw [if_neg c, if_neg c, if_neg c]
      have ih := rung_parts n c
      show (e, m) :: (rung r n).parts = (e, m) :: (predO r).parts ++ _
      rw [ih]; rfl
end Nm
set_option Elab.async false
set_option linter.all false
set_option maxRecDepth 100000
set_option maxHeartbeats 4000000
namespace Nm
open PySem Pu O L2
end Nm
set_option Elab.async false
set_option linter.all false
set_option maxRecDepth 100000
set_option maxHeartbeats 4000000
namespace Nm
open PySem Pu O L2
structure WhoOk (F : Fn) : Prop where
  int : ∀ i : Int, F [.int i] = .ok (.bool (decide (0 ≤ i)))
  no : ∀ (d : PyData) (_ : isiB "int" d = false ∨ isiB "bool" d = true) (hf : fnB d = false := by first | rfl | assumption), F [d] = .ok (.bool false)
theorem is_whole_step (S : Nat → Fn) : WhoOk (fun ds => fnD 1 (G_is_whole S) ds) where
  int := fun i => by
    refine fnD_of ?_
    unfold G_is_whole
    simp [isiB]
  no := fun d h hf => by
    refine fnD_of ?_
    unfold G_is_whole
    have g := gIsi_no (T := "int") hf
    rcases h with h | h
    · rw [h] at g; simp [g]
    · cases d <;> simp [isiB] at h
      simp [isiB]
theorem WhoOk.yes {F : Fn} (h : WhoOk F) {i : Int} (hi : 0 ≤ i) : F [.int i] = .ok (.bool true) := by rw [h.int, decide_eq_true hi]
def rzO (e : O) (n : Int) : O := if n = 0 then .z else .c e n .z
structure RaiOk (F : Fn) : Prop where
  yes : ∀ (e : O) (n : Int), 0 ≤ n → F [enc e, .int n] = .ok (enc (rzO e n))
  no : ∀ (e : O) (d : PyData) (_ : isiB "int" d = false ∨ isiB "bool" d = true) (hf : fnB d = false := by first | rfl | assumption), F [enc e, d] = .err "NoNumber"
  neg : ∀ (e : O) (i : Int), i < 0 → F [enc e, .int i] = .err "NoNumber"
theorem raised_step {S : Nat → Fn} {c0 : Nat} (h : WhoOk (S c0)) : RaiOk (fun ds => fnD 2 (G_raised c0 S) ds) where
  yes := fun e n hn => by
    refine fnD_of ?_
    have e1 := h.yes hn
    unfold G_raised rzO
    by_cases c : n = 0
    · rw [if_pos c]; subst c
      simp [e1]
    · rw [if_neg c]; simp [e1, c]
  no := fun e d hd hf => by
    refine fnD_err (ρ := [some (enc e), some d]) ?_
    have e1 := h.no d hd
    unfold G_raised
    simp [e1]
  neg := fun e i hi => by
    refine fnD_err (ρ := [some (enc e), some (.int i)]) ?_
    have e1 := h.int i
    rw [decide_eq_false (by omega)] at e1
    unfold G_raised
    simp [e1]
theorem RaiOk.one {F : Fn} (h : RaiOk F) (e : O) : F [enc e, .int 1] = .ok (enc (.c e 1 .z)) := by
  have := h.yes e 1 (by decide)
  unfold rzO at this
  rw [if_neg (by decide)] at this
  exact this
theorem lastP_mem {a : O} (h : a ≠ .z) : lastP a ∈ a.parts := List.mem_of_getLast? (last_get h)
theorem last_at {a : O} (h : a ≠ .z) : atI (encL a) (-1) = some (encP (lastP a)) := by
  obtain ⟨p, p1, p2, p3⟩ := part_last h
  rw [last_get h] at p3
  cases p3
  exact p2
def ClimbOk (k : Nat) (F : Fn) : Prop := ∀ (a : O) (n : Int), NF a → a ≠ .z → a.h ≤ k → a.h ≤ 29 → a.size ≤ 1000 → 0 ≤ n → F [enc a, .int n] = .ok (enc (rung a n))
theorem pred_len (a : O) : (predO a).len ≤ a.len := by
  cases a with
  | z => exact Nat.le_refl _
  | c e m r =>
    have az : O.c e m r ≠ .z := fun z => O.noConfusion z
    rw [← len_parts, predO_parts az, List.length_append]
    have h1 : ((O.c e m r).parts.take ((O.c e m r).len - 1)).length ≤ (O.c e m r).len - 1 := List.length_take_le _ _
    have h2 : (tailP (lastP (O.c e m r)).1 (lastP (O.c e m r)).2 .z).parts.length ≤ 1 := by
      unfold tailP
      split
      · exact Nat.zero_le _
      · show 0 + 1 ≤ 1; decide
    have h3 : 0 < (O.c e m r).len := by show 0 < r.len + 1; omega
    omega
theorem climbed_step {S : Nat → Fn} {c0 c1 c2 c3 k : Nat} (h0 : PredOk (S c0)) (h1 : LimOk (S c1)) (h2 : ClimbOk k (S c2)) (h3 : RaiOk (S c3)) : ClimbOk (k + 1) (fun ds => fnD 4 (G_climbed c0 c1 c2 c3 S) ds) := by
  intro a n na az ah ah2 as n0
  refine fnD_of ?_
  have la := len_le_size a
  have e1 := h0 a az (by omega) (by omega)
  have p1 := lastP_mem az
  have p2 := last_at az
  have ph := part_mem_h p1
  have ps := size_part p1
  have le := len_le_size (lastP a).1
  have np := (((nf_parts a).mp na).2 _ p1).1
  have g1 := gEq_nil (a := (lastP a).1) (by omega)
  have pl := pred_len a
  have s1 : (predO a).len + 1 ≤ sizeLine := sz1000 (by omega)
  have s0 : (predO a).len ≤ sizeLine := sz1000 (by omega)
  have ep : enc (rung a n) = .tuple (encL (predO a) ++ encL (rungX (lastP a).1 n)) := by
    show PyData.tuple (encL _) = _
    rw [encL_parts, rung_parts n az, List.map_append, ← encL_parts, ← encL_parts]
  rw [ep]
  by_cases ez : (lastP a).1 = .z
  · rw [decide_eq_true ez] at g1
    have ex : rungX (lastP a).1 n = .z := if_pos ez
    rw [ex]
    unfold G_climbed
    simp [e1, p2, g1]
  · rw [decide_eq_false ez] at g1
    have l1 := h1 (lastP a).1 np (by omega)
    by_cases l : isLim (lastP a).1 = true
    · have ex : rungX (lastP a).1 n = .c (rung (lastP a).1 n) 1 .z := by unfold rungX; rw [if_neg ez, if_pos l]
      rw [ex]
      have c1 := h2 (lastP a).1 n np ez (by omega) (by omega) (by omega) n0
      have r1 := h3.one (rung (lastP a).1 n)
      rw [show enc (O.c (rung (lastP a).1 n) 1 .z) = .tuple [.tuple [enc (rung (lastP a).1 n), .int 1]] from rfl] at r1
      rw [l] at l1
      unfold G_climbed
      simp [e1, p2, g1, l1, c1, r1, s1]
    · have ex : rungX (lastP a).1 n = rzO (predO (lastP a).1) n := by unfold rungX rzO; rw [if_neg ez, if_neg l]
      rw [ex]
      have c1 := h0 (lastP a).1 ez (by omega) (by omega)
      have r1 := h3.yes (predO (lastP a).1) n n0
      rw [Bool.not_eq_true] at l
      rw [l] at l1
      have s2 : (predO a).len + (rzO (predO (lastP a).1) n).len ≤ sizeLine := by
        refine sz1000 ?_
        unfold rzO
        split
        · show _ + 0 ≤ _; omega
        · show _ + (0 + 1) ≤ _; omega
      unfold G_climbed
      simp [e1, p2, g1, l1, c1, r1, s2]
structure LadOk (F : Fn) : Prop where
  yes : ∀ (a : O) (n : Int), NF a → a ≠ .z → a.h ≤ 28 → a.size ≤ 1000 → 0 ≤ n → F [enc a, .int n] = .ok (enc (rung a n))
  nought : ∀ d : PyData, F [.tuple [], d] = .err "Nought"
  no : ∀ (a : O) (d : PyData) (_ : a ≠ .z) (_ : a.h ≤ 28) (_ : isiB "int" d = false ∨ isiB "bool" d = true) (hf : fnB d = false := by first | rfl | assumption), F [enc a, d] = .err "NoNumber"
  neg : ∀ (a : O) (i : Int), a ≠ .z → a.h ≤ 28 → i < 0 → F [enc a, .int i] = .err "NoNumber"
theorem ladder_step {S : Nat → Fn} {c0 c1 k : Nat} (hk : 28 ≤ k) (h0 : WhoOk (S c0)) (h1 : ClimbOk k (S c1)) : LadOk (fun ds => fnD 2 (G_ladder c0 c1 S) ds) where
  yes := fun a n na az ah as n0 => by
    refine fnD_of ?_
    have g1 := gEq_nil (a := a) (by omega)
    rw [decide_eq_false az] at g1
    have e1 := h0.yes n0
    have e2 := h1 a n na az (by omega) (by omega) as n0
    unfold G_ladder
    simp [g1, e1, e2]
  nought := fun d => by
    refine fnD_err (ρ := [some (.tuple []), some d]) ?_
    have g1 : gEq (.tuple []) (.tuple []) = some (.bool true) := gEq_nil (a := .z) (by decide)
    unfold G_ladder
    simp [g1]
  no := fun a d az ah hd hf => by
    refine fnD_err (ρ := [some (enc a), some d]) ?_
    have g1 := gEq_nil (a := a) (by omega)
    rw [decide_eq_false az] at g1
    have e1 := h0.no d hd
    unfold G_ladder
    simp [g1, e1]
  neg := fun a i az ah hi => by
    refine fnD_err (ρ := [some (enc a), some (.int i)]) ?_
    have g1 := gEq_nil (a := a) (by omega)
    rw [decide_eq_false az] at g1
    have e1 := h0.int i
    rw [decide_eq_false (by omega)] at e1
    unfold G_ladder
    simp [g1, e1]
end Nm
set_option Elab.async false
set_option linter.all false
set_option maxRecDepth 100000
namespace Pu
open PySem
end Pu
set_option Elab.async false
set_option linter.all false
set_option maxRecDepth 100000
set_option maxHeartbeats 4000000
namespace Nm
open PySem Pu O L2
def hdE : O → O
  | .z => .z
  | .c e _ _ => e
structure Sz (H L K Z C M : Nat) (a : O) : Prop where
  nf : NF a
  h : a.h ≤ H
  ll : a.len ≤ L
  k : (hdE a).size ≤ K
  s : a.size ≤ Z
  cs : ∀ p ∈ a.parts, p.2.natAbs < 2 ^ C
  m : mx a < 2 ^ M
theorem Sz.up {H L K Z C M H' L' K' Z' C' M' : Nat} {a : O} (x : Sz H L K Z C M a) (h0 : H ≤ H') (h1 : L ≤ L') (h2 : K ≤ K') (h3 : Z ≤ Z') (h4 : C ≤ C') (h5 : M ≤ M') : Sz H' L' K' Z' C' M' a where
  nf := x.nf
  h := Nat.le_trans x.h h0
  ll := Nat.le_trans x.ll h1
  k := Nat.le_trans x.k h2
  s := Nat.le_trans x.s h3
  cs := fun p hp => Nat.lt_of_lt_of_le (x.cs p hp) (Nat.pow_le_pow_right (by decide) h4)
  m := Int.lt_of_lt_of_le x.m (by exact_mod_cast Nat.pow_le_pow_right (by decide) h5)
theorem Sz.bg {H L K Z C M : Nat} {a : O} (x : Sz H L K Z C M a) (hH : H ≤ 8) : Bg L Z C Z a where
  nf := x.nf
  h := Nat.le_trans x.h hH
  ll := x.ll
  el := fun p hp => by
    have h1 := size_part hp
    have h2 := len_le_size p.1
    have := x.s; omega
  cs := x.cs
  s := x.s
theorem hd_size (a : O) : (hdE a).size ≤ a.size := by
  cases a with
  | z => exact Nat.le_refl _
  | c e n r => show e.size ≤ 1 + e.size + r.size; omega
theorem hd_h (a : O) {k : Nat} (h : a.h ≤ k) : (hdE a).h ≤ k - 1 := by
  cases a with
  | z => exact Nat.zero_le _
  | c e n r =>
    have : (O.c e n r).h = max (e.h + 1) r.h := rfl
    show e.h ≤ k - 1; omega
theorem Sz.one : Sz 1 1 0 1 1 1 (.c .z 1 .z) where
  nf := nf_mk trivial (by decide) trivial (fun q hq => by cases hq)
  h := by show max (0 + 1) 0 ≤ 1; decide
  ll := by show 0 + 1 ≤ 1; decide
  k := by show 0 ≤ 0; decide
  s := by show 1 + 0 + 0 ≤ 1; decide
  cs := fun p hp => by
    rcases List.mem_cons.mp (show p ∈ (O.z, (1 : Int)) :: [] from hp) with h | h
    · rw [h]; decide
    · cases h
  m := by show max (1 : Int) (max 0 0) < 2 ^ 1; decide
end Nm
set_option Elab.async false
set_option linter.all false
set_option maxRecDepth 100000
set_option maxHeartbeats 4000000
namespace Nm
open PySem Pu O L2
end Nm
set_option Elab.async false
set_option linter.all false
set_option maxRecDepth 100000
set_option maxHeartbeats 4000000
namespace Nm
open PySem Pu O L2
def wpO : O → Int
  | .z => 0
  | .c e n r => if e = .z then n else wpO r
def noW : O → O
  | .z => .z
  | .c e n r => if e = .z then .z else .c e n (noW r)
theorem wp_z {n : Int} {r : O} : wpO (.c .z n r) = n := if_pos rfl
theorem wp_c {e r : O} {n : Int} (h : e ≠ .z) : wpO (.c e n r) = wpO r := if_neg h
theorem noW_z {n : Int} {r : O} : noW (.c .z n r) = .z := if_pos rfl
theorem noW_c {e r : O} {n : Int} (h : e ≠ .z) : noW (.c e n r) = .c e n (noW r) := if_neg h
theorem noW_sub : ∀ a : O, (noW a).parts.Sublist a.parts
  | .z => List.Sublist.refl _
  | .c e n r => by
    by_cases ez : e = .z
    · subst ez; rw [noW_z]; exact List.nil_sublist _
    · rw [noW_c ez]; exact (noW_sub r).cons₂ (e, n)
theorem noW_nf {a : O} (h : NF a) : NF (noW a) := by
  have := nf_sub (ps := a.parts) (by rw [of_parts]; exact h) (noW_sub a)
  rw [of_parts] at this; exact this
theorem Sz.noW {H L K Z C M : Nat} {a : O} (x : Sz H L K Z C M a) : Sz H L K Z C M (noW a) where
  nf := noW_nf x.nf
  h := by
    rw [h_parts]
    exact fun p hp => (h_parts a).mp x.h p ((noW_sub a).subset hp)
  ll := by
    have := (noW_sub a).length_le
    rw [len_parts, len_parts] at this
    have := x.ll; omega
  k := by
    have := x.k
    cases a with
    | z => exact this
    | c e n r =>
      by_cases ez : e = .z
      · subst ez; rw [noW_z]; exact Nat.zero_le _
      · rw [noW_c ez]; exact this
  s := by
    have := size_sub (noW_sub a)
    rw [of_parts, of_parts] at this
    have := x.s; omega
  cs := fun p hp => x.cs p ((noW_sub a).subset hp)
  m := by
    have := mx_sub (ps := a.parts) (mx_nonneg a) (by rw [of_parts]; exact Int.le_refl _) (noW_sub a)
    rw [of_parts] at this
    have := x.m; omega
end Nm
set_option Elab.async false
set_option linter.all false
set_option maxRecDepth 100000
set_option maxHeartbeats 4000000
namespace Nm
open PySem Pu O L2
theorem hd_nf {a : O} (h : NF a) : NF (hdE a) := by
  cases a with
  | z => trivial
  | c e n r => exact (nf_tail h).2.1
theorem hd_mx (a : O) : mx (hdE a) ≤ mx a := by
  cases a with
  | z => exact Int.le_refl _
  | c e n r => show mx e ≤ max n (max (mx e) (mx r)); omega
theorem cs_of_mx {a : O} (h : NF a) {M : Nat} (m : mx a < 2 ^ M) : ∀ p ∈ a.parts, p.2.natAbs < 2 ^ M := fun p hp => by
  have h1 := ((mx_parts (mx_nonneg a) a).mp (Int.le_refl _) p hp).1
  have h2 := (((nf_parts a).mp h).2 p hp).2
  have : (p.2.natAbs : Int) < ((2 ^ M : Nat) : Int) := by rw [Int.natCast_pow]; show _ < (2 : Int) ^ M; omega
  exact_mod_cast this
theorem Sz.hd {H L K Z C M : Nat} {a : O} (x : Sz H L K Z C M a) : Sz H K K K M M (hdE a) where
  nf := hd_nf x.nf
  h := by have := hd_h a x.h; omega
  ll := Nat.le_trans (len_le_size _) x.k
  k := Nat.le_trans (hd_size _) x.k
  s := x.k
  cs := cs_of_mx (hd_nf x.nf) (Int.lt_of_le_of_lt (hd_mx a) x.m)
  m := Int.lt_of_le_of_lt (hd_mx a) x.m
theorem Sz.w {H L K Z C M : Nat} {e : O} (x : Sz H L K Z C M e) {n : Int} (n1 : 1 ≤ n) {c : Nat} (hc : n.natAbs < 2 ^ c) (hM : c ≤ M) : Sz (H + 1) 1 Z (1 + Z) c M (.c e n .z) where
  nf := nf_mk x.nf n1 trivial (fun q hq => by cases hq)
  h := by have := x.h; show max (e.h + 1) 0 ≤ H + 1; omega
  ll := by show 0 + 1 ≤ 1; decide
  k := x.s
  s := by have := x.s; show 1 + e.size + 0 ≤ 1 + Z; omega
  cs := fun p hp => by
    rcases List.mem_cons.mp (show p ∈ (e, n) :: [] from hp) with h | h
    · rw [h]; exact hc
    · cases h
  m := by
    have h1 := x.m
    have h2 : (n.natAbs : Int) < 2 ^ M := by
      have := Nat.lt_of_lt_of_le hc (Nat.pow_le_pow_right (by decide : 0 < 2) hM)
      have : ((n.natAbs : Nat) : Int) < ((2 ^ M : Nat) : Int) := by exact_mod_cast this
      rw [Int.natCast_pow] at this; exact this
    show max n (max (mx e) 0) < 2 ^ M
    omega
end Nm
set_option Elab.async false
set_option linter.all false
set_option maxRecDepth 100000
set_option maxHeartbeats 4000000
namespace Nm
open PySem Pu O L2
end Nm
set_option Elab.async false
set_option linter.all false
set_option maxRecDepth 100000
set_option maxHeartbeats 4000000
namespace Nm
open PySem Pu O L2
end Nm
set_option Elab.async false
set_option linter.all false
set_option maxRecDepth 100000
set_option maxHeartbeats 4000000
namespace Nm
open PySem Pu O L2
theorem Sz.zero : Sz 0 0 0 0 0 0 .z := ⟨trivial, Nat.le_refl _, Nat.le_refl _, Nat.le_refl _, Nat.le_refl _, (fun p hp => by cases hp), by show (0 : Int) < 2 ^ 0; decide⟩
theorem Sz.whole {n : Int} {C M : Nat} (h : 1 ≤ n) (hc : n.natAbs < 2 ^ C) (hM : C ≤ M) : Sz 1 1 0 1 C M (.c .z n .z) :=
  (Sz.zero.up (Nat.le_refl _) (Nat.le_refl _) (Nat.le_refl _) (Nat.le_refl _) (Nat.le_refl _) (Nat.zero_le M)).w h hc hM
theorem TimesG.sz {F : Fn} (h : TimesG F) {H1 L1 K1 Z1 C1 M1 H2 L2 K2 Z2 C2 M2 : Nat} {a b : O} (x : Sz H1 L1 K1 Z1 C1 M1 a) (y : Sz H2 L2 K2 Z2 C2 M2 b)
    (q : (decide (H1 ≤ 8) && decide (H2 ≤ 8) && decide (Z1 ≤ 1000000) && decide (Z2 ≤ 1000000) && decide (L2 * (1 + L1) ≤ 5000000) && decide (0 < C1) && decide (0 < C2) && decide (C1 + C2 ≤ 100000)) = true) : F [enc a, enc b] = .ok (enc (prodO a b)) := by
  simp only [Bool.and_eq_true, decide_eq_true_eq] at q
  obtain ⟨⟨⟨⟨⟨⟨⟨q1, q2⟩, q3⟩, q4⟩, q5⟩, q6⟩, q7⟩, q8⟩ := q
  exact h (x.bg q1) (y.bg q2) q3 q4 q5 q6 q7 q8
theorem PlusOk.sz {F : Fn} {k : Nat} (h : PlusOk k F) {H1 L1 K1 Z1 C1 M1 H2 L2 K2 Z2 C2 M2 : Nat} {a b : O} (x : Sz H1 L1 K1 Z1 C1 M1 a) (y : Sz H2 L2 K2 Z2 C2 M2 b) (hk : 31 ≤ k)
    (q : (decide (H1 ≤ 30) && decide (H2 ≤ 30) && decide (L1 ≤ 1000000) && decide (L2 ≤ 1000000)) = true) : F [enc a, enc b] = .ok (enc (plusO a b)) := by
  simp only [Bool.and_eq_true, decide_eq_true_eq] at q
  have := x.h; have := y.h; have := x.ll; have := y.ll
  exact h a b x.nf (by omega) (by omega) (by omega) (by omega) (by omega)
def Lim (x : O) : Prop := ∀ p ∈ x.parts, p.1 ≠ .z
theorem lim_wp {x : O} (h : Lim x) : wpO x = 0 ∧ noW x = x := by
  induction x with
  | z => exact ⟨rfl, rfl⟩
  | c f m s _ ih =>
    have fz : f ≠ .z := h (f, m) (by show _ ∈ (f, m) :: s.parts; simp)
    have hs := ih fun p hp => h p (by show p ∈ (f, m) :: s.parts; simp [hp])
    rw [wp_c fz, noW_c fz, hs.1, hs.2]; exact ⟨rfl, rfl⟩
end Nm
set_option Elab.async false
set_option linter.all false
set_option maxRecDepth 100000
set_option maxHeartbeats 4000000
namespace Nm
open PySem Pu O L2
def val (b : Nat) : O → Nat
  | .z => 0
  | .c e n r => n.toNat * b ^ val b e + val b r
def Fit (b : Nat) : O → Prop
  | .z => True
  | .c e n r => Fit b e ∧ n < b ∧ Fit b r
end Nm
set_option Elab.async false
set_option linter.all false
set_option maxRecDepth 100000
set_option maxHeartbeats 4000000
namespace Nm
open PySem Pu O L2
def TT : Nat → Nat
  | 0 => 0
  | k + 1 => 2 ^ TT k
def SS : Nat → Nat
  | 0 => 0
  | k + 1 => TT k * (1 + SS k)
structure Wi (b m0 mc place k : Nat) (a : O) : Prop where
  nf : NF a
  f : Fit b a
  v : val b a + mc * b ^ place = m0
  e : ∀ p ∈ a.parts, val b p.1 < place
  h : a.h ≤ k
  l : a.len ≤ place
  s : a.size ≤ place * (1 + SS k)
theorem Wi.zero {b m0 k : Nat} : Wi b m0 m0 0 k .z := ⟨trivial, trivial, (by show 0 + m0 * b ^ 0 = m0; rw [Nat.pow_zero, Nat.mul_one, Nat.zero_add]), (fun p hp => by cases hp), Nat.zero_le _, Nat.le_refl _, Nat.zero_le _⟩
end Nm
set_option Elab.async false
set_option linter.all false
set_option maxRecDepth 100000
set_option maxHeartbeats 4000000
set_option exponentiation.threshold 20
namespace Nm
open PySem Pu O L2
end Nm
set_option Elab.async false
set_option linter.all false
set_option maxRecDepth 100000
set_option maxHeartbeats 4000000
set_option exponentiation.threshold 20
namespace Nm
open PySem Pu O L2
def dn (b : Nat) : O → Nat
  | .z => 0
  | .c e _ _ => val b e + 1
end Nm
set_option Elab.async false
set_option linter.all false
set_option maxRecDepth 100000
set_option maxHeartbeats 4000000
set_option exponentiation.threshold 20
namespace Nm
open PySem Pu O L2
abbrev Bit (v : Int) : Prop := v.natAbs.log2 ≤ 1048576
def MxOk (F : Fn) : Prop := ∀ c k : Int, Bit c → 0 ≤ k → k ≤ 1000 → ∃ r : Int, F [.int c, .int k] = .ok (.int r) ∧ 0 ≤ r ∧ r < 2147483647
end Nm
namespace Nm
open PySem Pu O L2
end Nm
set_option Elab.async false
set_option linter.all false
set_option maxRecDepth 100000
set_option maxHeartbeats 4000000
namespace Pu
open PySem PySem.Spec PyProof.Rows L2
theorem tuple_mul1 (l : Addr) (items : Array Value) (n : Nat) (dd : Option Addr) (sl : Array (Option Value)) (x : Int) (u : Tok) (c0 : (decide (x < -(2 ^ 63)) || decide (x ≥ 2 ^ 63)) = false) (c1 : (items.isEmpty || x == 1) = true) :
    Meets (Builtin.«tuple.__mul__» ⟨[.ref l, .int x u], []⟩) (fun _ R s => s.heap.get? l = some { cls := .type "tuple", dict := dd, data := .seq items n, slots := sl } ∧ R (.ok (.ret (Value.ref l))) s) :=
  .of_wp fun prog w A R s h => by
    obtain ⟨hp, g, d, tk, os⟩ := s
    obtain ⟨hl, h⟩ := h
    have f1 := AutoSeq1.idx_int
    wp_walk using wpAny_loadPart' hl
    repeat (first
      | (refine wpAny_ite_false (decide_eq_false (by rw [c0]; exact Bool.false_ne_true)) ?_; wp_walk using wpAny_loadPart' hl)
      | (refine wpAny_ite_true (decide_eq_true (by rw [c1])) ?_; wp_walk using wpAny_loadPart' hl))
    exact ⟨_, rfl, h⟩
theorem tuple_mul0 (l : Addr) (items : Array Value) (n : Nat) (dd : Option Addr) (sl : Array (Option Value)) (x : Int) (u : Tok) (c0 : (decide (x < -(2 ^ 63)) || decide (x ≥ 2 ^ 63)) = false) (c1 : (items.isEmpty || x == 1) = false) (c2 : (decide (x ≤ 0) || items.isEmpty) = true) :
    Meets (Builtin.«tuple.__mul__» ⟨[.ref l, .int x u], []⟩) (fun _ R s => s.heap.get? l = some { cls := .type "tuple", dict := dd, data := .seq items n, slots := sl } ∧
      R (.ok (.ret (Value.ref s.heap.objs.size))) { s with heap := s.heap.push { cls := Value.type "tuple", data := Data.seq #[] }, toks := s.toks }) :=
  .of_wp fun prog w A R s h => by
    obtain ⟨hp, g, d, tk, os⟩ := s
    obtain ⟨hl, h⟩ := h
    have f1 := AutoSeq1.idx_int
    wp_walk using wpAny_loadPart' hl
    repeat (first
      | (refine wpAny_ite_false (decide_eq_false (by rw [c0]; exact Bool.false_ne_true)) ?_; wp_walk using wpAny_loadPart' hl)
      | (refine wpAny_ite_false (decide_eq_false (by rw [c1]; exact Bool.false_ne_true)) ?_; wp_walk using wpAny_loadPart' hl)
      | (refine wpAny_ite_true (decide_eq_true (by rw [c2])) ?_; wp_walk using wpAny_loadPart' hl))
    exact ⟨_, rfl, h⟩
def rRepA (K : PySem.W.Frag) : R2 := fun x y H Q => ∃ l k xs, x = .ref l ∧ y = .int k ∧ SqT K H l xs ∧ -(2 ^ 62) ≤ k ∧ k ≤ 1000 ∧ xs.length ≤ 1000 ∧ ((xs = [] ∨ k = 1) → Q (.ref l) H) ∧ (xs ≠ [] → k ≠ 1 → ∀ p, H p = none → Q (.ref p) (upd H p (.tup (List.replicate k.toNat xs).flatten)))
theorem op_repA {X : Cx} : OpR X (binaryOp .Mult) (rRepA X.K) := by
  intro pins s σ H x y v u Q I rx ry h
  obtain ⟨l, k, xs, rfl, rfl, hT, h0, h1, hz, q1, q2⟩ := h
  by_cases c : xs = [] ∨ k = 1
  case neg =>
    have c' : xs ≠ [] ∧ k ≠ 1 := ⟨fun z => c (.inl z), fun z => c (.inr z)⟩
    by_cases k2 : 2 ≤ k
    · exact op_repT pins s σ H _ _ v u Q I rx ry ⟨l, k, xs, rfl, rfl, hT, c'.1, k2, h1, hz, q2 c'.1 c'.2⟩
    · cases rx
      obtain ⟨t, rfl⟩ := ry
      obtain ⟨its, r, ⟨⟨cls, dd, data, sl⟩, ho, hc, n, hd⟩, hs⟩ := I.tuple hT
      simp only at hc hd
      subst hc hd
      have k0 : k ≤ 0 := by have := c'.2; omega
      have hle : its.length = xs.length := r.length.symm
      have hn : its ≠ [] := fun e => c'.1 (by
        rw [e] at hle
        exact List.eq_nil_of_length_eq_zero hle.symm)
      have hi : its.toArray.isEmpty = false := by
        cases its with
        | nil => exact absurd rfl hn
        | cons a b => rfl
      have c0 : (decide (k < -(2 ^ 63)) || decide (k ≥ 2 ^ 63)) = false := by
        rw [decide_eq_false (by omega), decide_eq_false (by omega)] <;> rfl
      have c1 : (its.toArray.isEmpty || k == 1) = false := by
        rw [hi, Bool.false_or]
        exact beq_eq_false_iff_ne.mpr (by omega)
      have c2 : (decide (k ≤ 0) || its.toArray.isEmpty) = true := by
        rw [hi, Bool.or_false]
        exact decide_eq_true k0
      refine wpAny_binaryOp_repeat_ref (T := "tuple") (U := "int") (by decide) ⟨_, ho, rfl⟩ (fun s' => typeIs_int s' k t) noFill_tuple_mul F.fills_int_mul F.slot_int_rmul repeat_tuple F.slot_int_index.lookup
        (call_meets F.slot_int_rmul (typeIs_int s k t) F.entry_int_rmul (F.args_int_rmul_2 _ _) (int_rmul_tuple k t l its.toArray n dd sl)
          ⟨ho, rfl, ⟨_, ho, rfl⟩, call_meets F.slot_tuple_mul ⟨_, ho, rfl⟩ F.entry_tuple_mul (F.args_tuple_mul_2 _ _) (tuple_mul0 l its.toArray n dd sl k t c0 c1 c2) ⟨ho, ?_⟩⟩)
      have e0 : (List.replicate k.toNat xs).flatten = [] := by rw [show k.toNat = 0 by omega]; rfl
      have q3 := q2 c'.1 c'.2
      rw [e0] at q3
      refine ⟨.ref s.heap.objs.size, _, I.laid (t' := s.toks) (o := .tup []) (fun b ob q => Heap.get?_push_of_some _ q) (Nat.le_refl _) ?_, rfl, q3 _ (I.hok.fresh (Nat.le_refl _))⟩
      exact ⟨by rw [sizeLine_eq]; decide, [], .nil, IsTup.new _ _⟩
  case pos =>
    have q3 := q1 c
    cases rx
    obtain ⟨t, rfl⟩ := ry
    obtain ⟨its, r, ⟨⟨cls, dd, data, sl⟩, ho, hc, n, hd⟩, hs⟩ := I.tuple hT
    simp only at hc hd
    subst hc hd
    have hle : its.length = xs.length := r.length.symm
    have c0 : (decide (k < -(2 ^ 63)) || decide (k ≥ 2 ^ 63)) = false := by
      rw [decide_eq_false (by omega), decide_eq_false (by omega)] <;> rfl
    have c1 : (its.toArray.isEmpty || k == 1) = true := by
      rcases c with c | c
      · subst c
        have : its = [] := List.eq_nil_of_length_eq_zero (by simpa using hle)
        subst this
        rfl
      · subst c; simp
    refine wpAny_binaryOp_repeat_ref (T := "tuple") (U := "int") (by decide) ⟨_, ho, rfl⟩ (fun s' => typeIs_int s' k t) noFill_tuple_mul F.fills_int_mul F.slot_int_rmul repeat_tuple F.slot_int_index.lookup
      (call_meets F.slot_int_rmul (typeIs_int s k t) F.entry_int_rmul (F.args_int_rmul_2 _ _) (int_rmul_tuple k t l its.toArray n dd sl)
        ⟨ho, rfl, ⟨_, ho, rfl⟩, call_meets F.slot_tuple_mul ⟨_, ho, rfl⟩ F.entry_tuple_mul (F.args_tuple_mul_2 _ _) (tuple_mul1 l its.toArray n dd sl k t c0 c1) ⟨ho, ?_⟩⟩)
    exact ⟨.ref l, H, I, rfl, q3⟩
def okRep (k : Int) (n : Nat) : Bool := decide (k.natAbs < 2 ^ 62) && decide (k.toNat ≤ 1000) && decide (n ≤ 1000)
def gRep : PyData → PyData → Option PyData
  | .tuple xs, .int k => if okRep k xs.length = true then some (.tuple (List.replicate k.toNat xs).flatten) else none
  | _, _ => none
theorem okRep_of {k : Int} {n : Nat} (h : okRep k n = true) : -(2 ^ 62) ≤ k ∧ k ≤ 1000 ∧ n ≤ 1000 := by
  unfold okRep at h
  rw [Bool.and_eq_true, Bool.and_eq_true] at h
  have a1 := of_decide_eq_true h.1.1
  have a2 := of_decide_eq_true h.1.2
  exact ⟨by omega, by omega, of_decide_eq_true h.2⟩
theorem opr_rep {X : Cx} : OpR X (binaryOp .Mult) (rRepA X.K) := op_repA
theorem op2_rep {K : PySem.W.Frag} : Op2 K (rRepA K) gRep := by
  intro H O x y d e z Q hO rx ry h q
  cases rx with
  | @tup a xs ds hx rs =>
    cases ry with
    | int k =>
      unfold gRep at h
      dsimp only at h
      by_cases c : okRep k ds.length = true
      · rw [if_pos c] at h; cases h
        obtain ⟨c1, c2, c3⟩ := okRep_of c
        refine ⟨a, k, xs, rfl, rfl, seqT hide_sub hx, c1, c2, by rw [rs.length]; exact c3, fun w => ?_, fun _ _ p hp => q _ _ (same_new hp) (new_rep hO hp (rs.rep k.toNat))⟩
        have e : (List.replicate k.toNat ds).flatten = ds := by
          rcases w with w | w
          · have : ds = [] := (rps_nil rs).mp w
            subst this; simp
          · subst w; simp
        rw [e] at q
        exact q _ H (Same.refl H) (.tup hx rs)
      · rw [if_neg c] at h; cases h
    | _ => cases h
  | _ => cases h
@[simp] theorem u_gRep (xs : List PyData) (k : Int) : gRep (.tuple xs) (.int k) = if okRep k xs.length = true then some (.tuple (List.replicate k.toNat xs).flatten) else none := rfl
section
variable {X : Cx} {W : WX}
end
end Pu
set_option Elab.async false
set_option linter.all false
set_option maxRecDepth 100000
set_option maxHeartbeats 4000000
namespace Pu
open PySem PySem.Spec PyProof.Rows L2
section
variable {X : Cx} {W : WX} {own : List Nat}
end
structure Inner (K : PySem.W.Frag) (H0 : Hp) (O : List Addr) (H : Hp) (as : List Addr) (dss : List (List PyData)) : Prop where
  len : as.length = dss.length
  nd : as.Nodup
  mem : ∀ (j : Nat) (a : Addr) (ds : List PyData), as[j]? = some a → dss[j]? = some ds → a ∈ O ∧ H0 a = none ∧ ∃ vs, H a = some (.lst vs) ∧ Rps K (hide O H) vs ds
structure RelD (K : PySem.W.Frag) (own : List Nat) (iu : Nat) (H0 : Hp) (O0 O : List Addr) (σ : L2.St) (H : Hp) (ρ : Vars) : Prop where
  base : Rel K own (HB.nl H0) O0 O σ H (ρ.set iu none)
  nown : iu ∉ own
  deep : ∃ U as dss, ρ[iu]? = some (some (.list (dss.map .list))) ∧ σ[iu]? = some (some (.ref U)) ∧ U ∈ O ∧ H0 U = none ∧ H U = some (.lst (as.map V.ref)) ∧ U ∉ as ∧ Inner K H0 O H as dss ∧
    Apt K own (HB.nl H0) O σ H (ρ.set iu Option.none) (U :: as)
theorem Inner.mono {K : PySem.W.Frag} {H0 : Hp} {O O' : List Addr} {H H' : Hp} {as : List Addr} {dss : List (List PyData)} (h : Inner K H0 O H as dss) (sO : ∀ a ∈ O, a ∈ O') (s : ∀ a ∈ as, H' a = H a) (sF : Same (hide O H) (hide O' H')) : Inner K H0 O' H' as dss := ⟨h.len, h.nd, fun j a ds e1 e2 => by
  obtain ⟨h1, h2, vs, h3, h4⟩ := h.mem j a ds e1 e2
  exact ⟨sO a h1, h2, vs, by rw [s a (List.mem_of_getElem? e1)]; exact h3, h4.mono sF⟩⟩
theorem set_getElem? {ρ : Vars} {iu : Nat} {i : Nat} (h : i ≠ iu) : (ρ.set iu none)[i]? = ρ[i]? := by rw [List.getElem?_set_ne (fun z => h z.symm)]
section
variable {K : PySem.W.Frag} {own : List Nat} {iu : Nat} {H0 : Hp} {O0 O : List Addr} {σ : L2.St} {H H' : Hp} {ρ : Vars}
theorem RelD.stands (r : RelD K own iu H0 O0 O σ H ρ) : Stands O H := r.base.stands
theorem RelD.stands0 (r : RelD K own iu H0 O0 O σ H ρ) : Stands O0 H := r.base.stands0
theorem RelD.same (r : RelD K own iu H0 O0 O σ H ρ) : Same H0 H := r.base.same
theorem inner_rps {h : Same (hide O H) (hide O0 H)} : ∀ {as : List Addr} {dss : List (List PyData)}, (∀ (j : Nat) (a : Addr) (ds : List PyData), as[j]? = some a → dss[j]? = some ds → a ∉ O0 ∧ ∃ vs, H a = some (.lst vs) ∧ Rps K (hide O H) vs ds) → as.length = dss.length → Rps K (hide O0 H) (as.map V.ref) (dss.map PyData.list)
  | [], [], _, _ => .nil
  | [], _ :: _, _, l => by cases l
  | _ :: _, [], _, l => by cases l
  | a :: as, ds :: dss, m, l => by
    obtain ⟨n, vs, h1, h2⟩ := m 0 a ds rfl rfl
    exact .cons (.lst (.inl (.inl (hide_of n h1))) (h2.mono h)) (inner_rps (h := h) (fun j b es e1 e2 => m (j + 1) b es e1 e2) (by simpa using l))
theorem RelD.vrel0 (r : RelD K own iu H0 O0 O σ H ρ) : VRel K (hide O0 H) σ ρ := ⟨by simpa using r.base.len, fun i d e => by
  by_cases c : i = iu
  · subst c
    obtain ⟨U, as, dss, h1, h2, h3, h4, h5, h6, h7, h8⟩ := r.deep
    rw [h1] at e
    cases e
    refine ⟨_, h2, .lst (.inl (.inl (hide_of (r.base.notO0 h4) h5))) (inner_rps (h := hide_less r.base.sub) (fun j a ds e1 e2 => ?_) h7.len)⟩
    obtain ⟨g1, g2, vs, g3, g4⟩ := h7.mem j a ds e1 e2
    exact ⟨r.base.notO0 g2, vs, g3, g4⟩
  · exact r.base.vrel0.get i d (by rw [set_getElem? c]; exact e)⟩
theorem mask_setN {own : List Nat} {iu : Nat} {ρ : Vars} : mask (iu :: own) ρ = mask own (ρ.set iu none) := by
  apply List.ext_getElem?
  intro i
  unfold mask
  rw [maskF_get, maskF_get, Nat.zero_add]
  by_cases c : i = iu
  · subst c
    rw [if_pos (by simp)]
    by_cases hl : i < ρ.length
    · rw [List.getElem?_eq_getElem hl, List.getElem?_set_self hl]
      split <;> rfl
    · rw [List.getElem?_eq_none (by omega), List.getElem?_eq_none (by simpa using hl)]
      split <;> rfl
  · rw [set_getElem? c]
    by_cases c2 : i ∈ own
    · rw [if_pos c2, if_pos (by simp [c2])]
    · rw [if_neg c2, if_neg (by simp [c, c2])]
theorem RelD.vrelM (r : RelD K own iu H0 O0 O σ H ρ) : VRel K (hide O H) σ (mask (iu :: own) ρ) := by
  rw [mask_setN]; exact r.base.vrelM
theorem RelD.imm (r : RelD K own iu H0 O0 O σ H ρ) {v : V} {d : PyData} (h : Rp K (hide O0 H) v d) (e : imm d = true) : Rp K (hide O H) v d := r.base.imm h e
theorem RelD.step (r : RelD K own iu H0 O0 O σ H ρ) (s : Same H H') : RelD K own iu H0 O0 O σ H' ρ := ⟨r.base.step s, r.nown, by
  obtain ⟨U, as, dss, h1, h2, h3, h4, h5, h6, h7, h8⟩ := r.deep
  refine ⟨U, as, dss, h1, h2, h3, h4, s _ _ h5, h6, ⟨h7.len, h7.nd, fun j a ds e1 e2 => ?_⟩, h8.mono (hide_same s) (fun _ h => h) s⟩
  obtain ⟨g1, g2, vs, g3, g4⟩ := h7.mem j a ds e1 e2
  exact ⟨g1, g2, vs, s _ _ g3, g4.mono (hide_same s)⟩⟩
theorem RelD.set (r : RelD K own iu H0 O0 O σ H ρ) {i : Nat} {v : V} {d : PyData} (c : i ∉ own) (c2 : i ≠ iu) (h : Rp K (hide O H) v d) : RelD K own iu H0 O0 O (σ.set i (some v)) H (ρ.set i (some d)) := ⟨by
    rw [List.set_comm _ _ c2]; exact r.base.set c h, r.nown, by
  obtain ⟨U, as, dss, h1, h2, h3, h4, h5, h6, h7, h8⟩ := r.deep
  refine ⟨U, as, dss, by rw [List.getElem?_set_ne c2]; exact h1, by rw [List.getElem?_set_ne c2]; exact h2, h3, h4, h5, h6, h7, h8.frame fun j hj => ?_⟩
  have n : i ≠ j := fun z => c (z ▸ hj)
  rw [List.set_comm _ _ c2, List.getElem?_set_ne n, List.getElem?_set_ne n]
  exact ⟨rfl, fun _ q => q⟩⟩
theorem RelD.other (r : RelD K own iu H0 O0 O σ H ρ) {σ' : L2.St} {ρ' : Vars} {js : List Nat} (hj : ∀ j ∈ js, j ∉ iu :: own) (hl : σ'.length = σ.length) (v : VRel K (hide O H) σ' (mask (iu :: own) ρ')) (f : ∀ j : Nat, j ∉ js → σ'[j]? = σ[j]? ∧ (mask (iu :: own) ρ')[j]? = (mask (iu :: own) ρ)[j]?) (f2 : ∀ j : Nat, j ∉ js → ρ'[j]? = ρ[j]?) : RelD K own iu H0 O0 O σ' H ρ' := ⟨by
    refine r.base.other (js := js) (fun j h z => hj j h (List.mem_cons_of_mem _ z)) hl (by rw [← mask_setN]; exact v) (fun j h => by rw [← mask_setN, ← mask_setN]; exact f j h) fun j ho => ?_
    have n : j ≠ iu := fun z => r.nown (z ▸ ho)
    rw [set_getElem? n, set_getElem? n]
    exact f2 j fun z => hj j z (List.mem_cons_of_mem _ ho), r.nown, by
  obtain ⟨U, as, dss, h1, h2, h3, h4, h5, h6, h7, h8⟩ := r.deep
  have nu : iu ∉ js := fun z => hj iu z (by simp)
  refine ⟨U, as, dss, by rw [f2 iu nu]; exact h1, by rw [(f iu nu).1]; exact h2, h3, h4, h5, h6, h7, h8.frame fun j ho => ?_⟩
  have n : j ∉ js := fun z => hj j z (List.mem_cons_of_mem _ ho)
  have nu' : j ≠ iu := fun z => r.nown (z ▸ ho)
  rw [set_getElem? nu', set_getElem? nu', f2 j n]
  exact ⟨(f j n).1, fun _ q => q⟩⟩
theorem Rel.grow (r : Rel K own (HB.nl H0) O0 O σ H ρ) {p : Addr} {vs : List V} (s : Same H H') (hp : H p = Option.none) (hp' : H' p = some (.lst vs)) : Rel K own (HB.nl H0) O0 (p :: O) σ H' ρ ∧ Same (hide O H) (hide (p :: O) H') := by
  have sF : Same (hide O H) (hide (p :: O) H') := fun a o h => by
    obtain ⟨c, e⟩ := hide_some h
    exact hide_of (fun z => (List.mem_cons.mp z).elim (ne_of_none e hp) c) (s a o e)
  have r1 : Rel K own (HB.nl H0) O0 O σ H' ρ := r.step s
  refine ⟨⟨r1.same, r1.st0, r1.len, fun a ha => List.mem_cons_of_mem _ (r1.sub a ha), fun a ha => ?_, fun j d cj q => ?_, ⟨_, r.deep.choose_spec.mono sF (fun a h => List.mem_cons_of_mem _ h) fun _ a o _ _ h => s a o h⟩, r.mark⟩, sF⟩
  · rcases List.mem_cons.mp ha with e | ha
    · rw [e]; exact .inr ⟨r.same.free hp, _, hp', .inl (.inl ⟨vs, rfl⟩)⟩
    · exact r1.lists a ha
  · obtain ⟨v, h1, h2⟩ := r.free j d cj q
    exact ⟨v, h1, h2.mono sF⟩
theorem RelD.freeze (r : RelD K own iu H0 O0 O σ H ρ) : ∃ O', Rel K own (HB.nl H0) O0 O' σ H ρ ∧ Same (hide O H) (hide O' H) := by
  classical
  obtain ⟨U, as, dss, h1, h2, h3, h4, h5, h6, h7, fp, D, h8⟩ := r.deep
  have hm : ∀ a, a ∈ O.filter (fun a => decide (a ≠ U ∧ a ∉ as)) ↔ a ∈ O ∧ a ≠ U ∧ a ∉ as := fun a => by simp [List.mem_filter]
  have sF : Same (hide O H) (hide (O.filter fun a => decide (a ≠ U ∧ a ∉ as)) H) := hide_less fun a ha => ((hm a).mp ha).1
  have b := r.base
  refine ⟨O.filter fun a => decide (a ≠ U ∧ a ∉ as), ⟨b.same, b.st0, by simpa using b.len, fun a ha => (hm a).mpr ⟨b.sub a ha, fun z => b.st0.nn ha (z ▸ h4), fun z => ?_⟩, fun a ha => b.lists a ((hm a).mp ha).1, fun i d c e => ?_, ⟨fp, fun i d c e => ?_, fun i a c e => ?_, D.dis, D.bor⟩, b.mark⟩, sF⟩
  · obtain ⟨j, hj⟩ := List.getElem?_of_mem z
    have hl : j < dss.length := by rw [← h7.len]; exact (List.getElem?_eq_some_iff.mp hj).1
    exact b.st0.nn ha (h7.mem j a _ hj (List.getElem?_eq_getElem hl)).2.1
  · by_cases ci : i = iu
    · subst ci
      rw [h1] at e
      cases e
      refine ⟨_, h2, .lst (.inl (.inl (hide_of (fun z => ((hm U).mp z).2.1 rfl) h5))) (inner_rps (h := sF) (fun j a ds e1 e2 => ?_) h7.len)⟩
      obtain ⟨g1, g2, vs, g3, g4⟩ := h7.mem j a ds e1 e2
      exact ⟨fun z => ((hm a).mp z).2.2 (List.mem_of_getElem? e1), vs, g3, g4⟩
    · obtain ⟨v, g1, g2⟩ := b.free i d c (by rw [set_getElem? ci]; exact e)
      exact ⟨v, g1, g2.mono sF⟩
  · have ci : i ≠ iu := fun z => r.nown (z ▸ c)
    obtain ⟨v, a, g1, g2, g3⟩ := D.at_ i d c (by rw [set_getElem? ci]; exact e)
    exact ⟨v, a, g1, g2, g3.mono sF fun o ho => ho⟩
  · have g8 := h8 i a c e
    exact ⟨(hm a).mpr ⟨(D.ino i a c e).1, fun z => g8 (by rw [z]; exact List.mem_cons_self), fun z => g8 (List.mem_cons_of_mem _ z)⟩, fun ⟨d, q⟩ => (D.ino i a c e).2 ⟨d, by rw [set_getElem? (show i ≠ iu from fun z => r.nown (z ▸ c))]; exact q⟩⟩
end
section
variable (X : Cx) (W : WX) (own : List Nat) (iu : Nat)
def DOut (H0 : Hp) (O0 O : List Addr) (H : Hp) (D : Ends) : Out → Prop
  | .nx ρ => ∀ σ' H' O', RelD X.K own iu H0 O0 O' σ' H' ρ → Same (hide O H) (hide O' H') → D.nx σ' H'
  | .err c ρ => ∀ σ' H' O', RelD X.K own iu H0 O0 O' σ' H' ρ → Same (hide O H) (hide O' H') → W (exV X.mg c) none σ' H'
  | .rt d => ∀ v H', Same H0 H' → Rp X.K (hide O0 H') v d → D.rt v H'
  | .bk ρ => ∀ σ' H' O', RelD X.K own iu H0 O0 O' σ' H' ρ → Same (hide O H) (hide O' H') → D.bk σ' H'
  | .ct ρ => ∀ σ' H' O', RelD X.K own iu H0 O0 O' σ' H' ρ → Same (hide O H) (hide O' H') → D.ct σ' H'
  | .bad => False
def DX (st : Stmt) (g : Vars → Out) : Prop :=
  ∃ t, PS X st t ∧ ∀ σ H ρ D H0 O0 O, RelD X.K own iu H0 O0 O σ H ρ → DOut X W own iu H0 O0 O H D (g ρ) → t D σ H
end
section
variable {X : Cx} {W : WX} {own : List Nat} {iu : Nat}
theorem DOut.from {H0 : Hp} {O0 O O' : List Addr} {H H' : Hp} {D : Ends} {o : Out} (h : DOut X W own iu H0 O0 O H D o) (s : Same (hide O H) (hide O' H')) : DOut X W own iu H0 O0 O' H' D o := by
  cases o with
  | nx ρ => exact fun σ' H'' O'' r s' => h σ' H'' O'' r (s.trans s')
  | err c ρ => exact fun σ' H'' O'' r s' => h σ' H'' O'' r (s.trans s')
  | bk ρ => exact fun σ' H'' O'' r s' => h σ' H'' O'' r (s.trans s')
  | ct ρ => exact fun σ' H'' O'' r s' => h σ' H'' O'' r (s.trans s')
  | _ => exact h
def sSetD (i : Nat) (f : Vars → R PyData) (ρ : Vars) : Out := (f ρ).run ρ fun d => if imm d = true then .nx (ρ.set i (some d)) else .bad
theorem RelD.write {H0 : Hp} {O0 O : List Addr} {σ : L2.St} {H : Hp} {ρ : Vars} {i : Nat} (hi : i ∈ own) {a : Addr} {vs vs' : List V} {d : PyData} {es : List PyData} (r : RelD X.K own iu H0 O0 O σ H ρ) (q : ρ[i]? = some (some d)) (e : σ[i]? = some (some (.ref a))) (ha : a ∈ O) (h0 : H0 a = none) (h : H a = some (.lst vs)) (rs : Rps X.K (hide O H) vs' es) :
    RelD X.K own iu H0 O0 O σ (upd H a (.lst vs')) (ρ.set i (some (.list es))) ∧ Same (hide O H) (hide O (upd H a (.lst vs'))) := by
  have ni : i ≠ iu := fun e => r.nown (e ▸ hi)
  obtain ⟨b, sF⟩ := r.base.write hi (by rw [set_getElem? ni]; exact q) e ha h0 h rs
  refine ⟨⟨by rw [List.set_comm _ _ ni]; exact b, r.nown, ?_⟩, sF⟩
  obtain ⟨U, as, dss, k1, k2, k3, k4, k5, k6, k7, k8⟩ := r.deep
  obtain ⟨A2, nx⟩ := k8.write (de := .list es) (ob := .lst vs') hi (by rw [set_getElem? ni]; exact q) e ha (m := (.inl ⟨rfl, vs', upd_same, rs⟩ : Mi X.K (hide O H) (upd H a (.lst vs')) (.ref a) a (.list es))) (.inl ⟨rfl, vs', upd_same, rs⟩)
  have n1 : a ≠ U := fun z => nx (by rw [z]; exact List.mem_cons_self)
  have n2 : a ∉ as := fun z => nx (List.mem_cons_of_mem _ z)
  refine ⟨U, as, dss, by rw [List.getElem?_set_ne ni]; exact k1, k2, k3, k4, by rw [upd_ne (Ne.symm n1)]; exact k5, k6, k7.mono (fun _ h => h) (fun b hb => upd_ne fun z => n2 (z ▸ hb)) sF, by rw [List.set_comm _ _ ni]; exact A2⟩
section
variable {i : Nat} {x : Str} {e : Expr} {f : Vars → R PyData} {p apos cpos pos : Pos}
end
def sAppN (iu : Nat) (ρ : Vars) : Out := match ρ.getD iu none with
  | some (.list ls) => if ls.length < sizeLine then .nx (ρ.set iu (some (.list (ls ++ [.list []])))) else .bad
  | _ => .bad
section
variable {x : Str} {p apos cpos lpos pos : Pos}
end
def sIns (iu : Nat) (fk : Vars → R PyData) (fa : Vars → R (List PyData)) (ρ : Vars) : Out := match ρ.getD iu none with
  | some (.list ls) => (fk ρ).run ρ fun k => match k with
    | .int k => match ixN ls.length k with
      | some j => match ls[j]? with
        | some (.list ds) => (fa ρ).run ρ fun as => match as with
          | [.int i, d] => if (decide (0 ≤ i) && decide (i.natAbs < 2 ^ 62) && decide (ds.length < sizeLine) && imm d) = true then .nx (ρ.set iu (some (.list (ls.set j (.list (ds.take i.toNat ++ [d] ++ ds.drop i.toNat)))))) else .bad
          | _ => .bad
        | _ => .bad
      | none => .bad
    | _ => .bad
  | _ => .bad
section
variable {x : Str} {k e1 e2 : Expr} {fk : Vars → R PyData} {fa : Vars → R (List PyData)} {p p2 apos cpos pos : Pos}
end
end
section
variable (X : Cx) (E : XK)
def BDX (own : List Nat) (iu : Nat) (sts : List Stmt) (g : Vars → Out) : Prop :=
  ∃ t, PSs X sts t ∧ ∀ σ H ρ Q H0 O0 O, RelD X.K own iu H0 O0 O σ H ρ → BOut X E H0 O0 Q (g ρ) → t { nx := fun _ H' => Q .non H', rt := Q } σ H
end
section
variable {X : Cx} {E : XK} {own : List Nat} {iu : Nat}
theorem BDX.cons {st : Stmt} {rest : List Stmt} {g h : Vars → Out} (a : DX X (WD E) own iu st g) (b : BDX X E own iu rest h) : BDX X E own iu (st :: rest) (sSeq g h) := by
  obtain ⟨t, p, ht⟩ := a
  obtain ⟨u, q, hu⟩ := b
  refine ⟨_, pss_cons p q, fun σ H ρ Q H0 O0 O r z => ht σ H ρ _ H0 O0 O r ?_⟩
  unfold sSeq at z
  cases e : g ρ with
  | nx ρ1 => rw [e] at z; exact fun σ1 H1 O1 r1 s1 => hu σ1 H1 ρ1 Q H0 O0 O1 r1 z
  | err c ρ' => rw [e] at z; exact fun σ' H' O' r' s' => z H' r'.same
  | rt d => rw [e] at z; exact z
  | bk _ => rw [e] at z; exact z.elim
  | ct _ => rw [e] at z; exact z.elim
  | bad => rw [e] at z; exact z.elim
theorem BDX.freeze {sts : List Stmt} {g : Vars → Out} {own' : List Nat} (b : BX X E own' sts g) (ho : (own'.all fun i => own.contains i) = true) : BDX X E own iu sts g := by
  obtain ⟨t, p, ht⟩ := b
  refine ⟨t, p, fun σ H ρ Q H0 O0 O r z => ?_⟩
  obtain ⟨O1, r1, _⟩ := r.freeze
  obtain ⟨O2, r2, _⟩ := r1.freeze (own' := own') (fun i hi => List.contains_iff_mem.mp (List.all_eq_true.mp ho i hi)) fun p hp => nomatch hp
  exact ht σ H ρ Q H0 O0 O2 r2 z
end
end Pu
set_option Elab.async false
set_option linter.all false
set_option maxRecDepth 100000
namespace Pu
open PySem
def G_number_of (c0 c1 c2 : Nat) (S : Nat → List PyData → R PyData) : Vars → Out :=
  (sSeq (sSet [] 1 (eTup aNil))
    (sSeq (sFor [] (iSeq (eVar 0)) (gtName 2) (sSet [] 1 (eFn (S c0) (aCons (eVar 1) (aCons (eFn (fun ds => S c2 (ds ++ [.int 1])) (aCons (eFn (S c1) (aCons (eVar 2) aNil)) aNil)) aNil)))))
    (sRet (eVar 1))))
def G_l_number_2 (c0 c1 : Nat) (S : Nat → List PyData → R PyData) : Vars → Out :=
  (sSeq (sSet [] 1 (eTup aNil))
    (sSeq (sFor [] (iSeq (eVar 0)) (gtName 2) (sSet [] 1 (eFn (S c0) (aCons (eVar 1) (aCons (eFn (S c1) (aCons (eVar 2) aNil)) aNil)))))
    (sRet (eVar 1))))
def G_points (c0 : Nat) (S : Nat → List PyData → R PyData) : Vars → Out :=
  (sSeq (sSet [] 1 (eC (.int 1)))
    (sSeq (sFor [] (iSeq (eVar 0)) (gtName 2) (sAug [] 1 gAddI (eFn (S c0) (aCons (eVar 2) aNil))))
    (sRet (eVar 1))))
def G_is_head (c0 : Nat) (S : Nat → List PyData → R PyData) : Vars → Out :=
  (sSeq (sIf (tOrR (tNotR (tTru (eIsi "tuple" (eVar 1)))) (tOf (eOp gEq (eCall gLen (aCons (eVar 1) aNil)) (eC (.int 0))))) (sRet (eC (.bool false))) sNil)
    (sSeq (sFor [] (iSeq (eVar 1)) (gtName 2) (sSeq (sIf (tOrR (tNotR (tTru (eFn (S c0) (aCons (eVar 2) aNil)))) (tOf (eOp gGe (eVar 2) (eCall gLen (aCons (eVar 0) aNil))))) (sRet (eC (.bool false))) sNil) (sSet [] 0 (eOp gIx (eVar 0) (eVar 2)))))
    (sRet (eOp gEq (eCall gLen (aCons (eVar 0) aNil)) (eC (.int 0))))))
def G_instead (S : Nat → List PyData → R PyData) : Vars → Out :=
  (sRet (eOp gAdd (eOp gAdd (eSl (eVar 0) oNone (oSome (eVar 1))) (eVar 2)) (eSl (eVar 0) (oSome (eOp gAdd (eVar 1) (eC (.int 1)))) oNone)))
def G_regrown (c0 c1 : Nat) (S : Nat → List PyData → R PyData) : Vars → Out :=
  (sSeq (sSet [] 3 (eOp gIx (eVar 1) (eC (.int 0))))
    (sSeq (sSet [] 4 (eOp gIx (eVar 0) (eVar 3)))
    (sSeq (sIf (tOf (eOp gEq (eCall gLen (aCons (eVar 1) aNil)) (eC (.int 2)))) (sSeq (sSet [] 5 (eFn (S c0) (aCons (eVar 4) (aCons (eOp gIx (eVar 1) (eC (.int 1))) (aCons (eTup aNil) aNil))))) (sRet (eFn (S c0) (aCons (eVar 0) (aCons (eVar 3) (aCons (eOp gRep (eTup (aCons (eVar 5) aNil)) (eOp gAdd (eVar 2) (eC (.int 1)))) aNil)))))) sNil)
    (sRet (eFn (S c0) (aCons (eVar 0) (aCons (eVar 3) (aCons (eTup (aCons (eFn (S c1) (aCons (eVar 4) (aCons (eSl (eVar 1) (oSome (eC (.int 1))) oNone) (aCons (eVar 2) aNil)))) aNil)) aNil))))))))
def G_cut (c0 c1 c2 c3 c4 : Nat) (S : Nat → List PyData → R PyData) : Vars → Out :=
  (sSeq (sIf (tNotR (tTru (eFn (S c0) (aCons (eVar 0) (aCons (eVar 1) aNil))))) (sRaise "NoHead") sNil)
    (sSeq (sIf (tNotR (tTru (eFn (S c1) (aCons (eVar 2) aNil)))) (sRaise "NoNumber") sNil)
    (sSeq (sIf (tOf (eOp gEq (eCall gLen (aCons (eVar 1) aNil)) (eC (.int 1)))) (sRet (eFn (S c2) (aCons (eVar 0) (aCons (eOp gIx (eVar 1) (eC (.int 0))) (aCons (eTup aNil) aNil))))) sNil)
    (sSeq (sSet [] 3 (eVar 0))
    (sSeq (sFor [] (iSeq (eSl (eVar 1) oNone (oSome (eNeg (eC (.int 1)))))) (gtName 4) (sSet [] 3 (eOp gIx (eVar 3) (eVar 4))))
    (sSeq (sIf (tOf (eOp gGt (eOp gAdd (eOp gSub (eFn (S c3) (aCons (eVar 0) aNil)) (eC (.int 1))) (eOp gMul (eVar 2) (eOp gSub (eFn (S c3) (aCons (eVar 3) aNil)) (eC (.int 1))))) (eC (.int 600)))) (sRaise "TooGreat") sNil)
    (sRet (eFn (S c4) (aCons (eVar 0) (aCons (eVar 1) (aCons (eVar 2) aNil)))))))))))
def G_l_points (c0 : Nat) (S : Nat → List PyData → R PyData) : Vars → Out :=
  (sRet (eOp gAdd (eC (.int 1)) (eCall gSum (aCons (eLc (iSeq (eVar 0)) (gtName 1) tYesD (eFn (S c0) (aCons (eVar 1) aNil)) [1]) aNil))))
def G_least_place (c0 c1 : Nat) (S : Nat → List PyData → R PyData) : Vars → Out :=
  (sSeq (sSet [] 1 (eC (.int 0)))
    (sSeq (sSet [] 2 (eFn (S c0) (aCons (eOp gIx (eVar 0) (eC (.int 0))) aNil)))
    (sSeq (sFor [] (iRange (aCons (eC (.int 1)) (aCons (eCall gLen (aCons (eVar 0) aNil)) aNil))) (gtName 3) (sSeq (sSet [] 4 (eFn (S c0) (aCons (eOp gIx (eVar 0) (eVar 3)) aNil))) (sIf (tOf (eOp gLe (eFn (S c1) (aCons (eVar 4) (aCons (eVar 2) aNil))) (eC (.int 0)))) (sSeq (sSet [] 1 (eVar 3)) (sSet [] 2 (eVar 4))) sNil)))
    (sRet (eVar 1)))))
def G_least_head (c0 : Nat) (S : Nat → List PyData → R PyData) : Vars → Out :=
  (sSeq (sIf (tOf (eOp gEq (eCall gLen (aCons (eVar 0) aNil)) (eC (.int 0)))) (sRaise "Nought") sNil)
    (sSeq (sSet [] 1 (eTup aNil))
    (sSeq (whileL (tOf (eOp gGt (eCall gLen (aCons (eVar 0) aNil)) (eC (.int 0)))) (sSeq (sSet [] 2 (eFn (S c0) (aCons (eVar 0) aNil))) (sSeq (sSet [] 1 (eOp gAdd (eVar 1) (eTup (aCons (eVar 2) aNil)))) (sSet [] 0 (eOp gIx (eVar 0) (eVar 2))))) wfuel)
    (sRet (eVar 1)))))
end Pu
set_option Elab.async false
set_option linter.all false
set_option maxRecDepth 100000
set_option maxHeartbeats 4000000
namespace Pu
open PySem PySem.Spec PyProof.Rows L2
section
variable (ρ : Vars)
@[simp] theorem u_sSetD (i : Nat) (f : Vars → R PyData) : sSetD i f ρ = (f ρ).run ρ fun d => if imm d = true then .nx (ρ.set i (some d)) else .bad := rfl
@[simp] theorem u_sAppN (iu : Nat) : sAppN iu ρ = match ρ.getD iu none with
  | some (.list ls) => if ls.length < sizeLine then .nx (ρ.set iu (some (.list (ls ++ [.list []])))) else .bad
  | _ => .bad := rfl
@[simp] theorem u_sIns (iu : Nat) (fk : Vars → R PyData) (fa : Vars → R (List PyData)) : sIns iu fk fa ρ = match ρ.getD iu none with
  | some (.list ls) => (fk ρ).run ρ fun k => match k with
    | .int k => match ixN ls.length k with
      | some j => match ls[j]? with
        | some (.list ds) => (fa ρ).run ρ fun as => match as with
          | [.int i, d] => if (decide (0 ≤ i) && decide (i.natAbs < 2 ^ 62) && decide (ds.length < sizeLine) && imm d) = true then .nx (ρ.set iu (some (.list (ls.set j (.list (ds.take i.toNat ++ [d] ++ ds.drop i.toNat)))))) else .bad
          | _ => .bad
        | _ => .bad
      | none => .bad
    | _ => .bad
  | _ => .bad := rfl
end
section
variable {X : Cx} {W : WX} {tg : Expr}
end
end Pu
set_option Elab.async false
set_option linter.all false
set_option maxRecDepth 100000
set_option maxHeartbeats 4000000
namespace Nm
open PySem Pu O L2
inductive T where
  | z | c (b r : T)
  deriving DecidableEq
namespace T
def L : T → List T
  | z => []
  | c b r => b :: L r
def of : List T → T
  | [] => z
  | b :: r => c b (of r)
@[simp] theorem of_L : ∀ t : T, of t.L = t
  | z => rfl
  | c b r => by show c b (of r.L) = _; rw [of_L r]
@[simp] theorem L_of : ∀ l : List T, (of l).L = l
  | [] => rfl
  | b :: r => by show b :: (of r).L = _; rw [L_of r]
def pts : T → Nat
  | z => 1
  | c b r => b.pts + r.pts
theorem pts_pos : ∀ t : T, 1 ≤ t.pts
  | z => Nat.le_refl _
  | c b r => by have := pts_pos r; show 1 ≤ b.pts + r.pts; omega
def dp : T → Nat
  | z => 0
  | c b r => max (b.dp + 1) r.dp
theorem dp_lt : ∀ t : T, t.dp < t.pts
  | z => by decide
  | c b r => by
    have h1 := dp_lt b
    have h2 := dp_lt r
    have h3 := pts_pos r
    show max (b.dp + 1) r.dp < b.pts + r.pts
    omega
theorem ln_lt : ∀ t : T, t.L.length < t.pts
  | z => by decide
  | c b r => by
    have h1 := pts_pos b
    have h2 := ln_lt r
    show r.L.length + 1 < b.pts + r.pts
    omega
theorem pts_of (l : List T) : (of l).pts = 1 + (l.map pts).sum := by
  induction l with
  | nil => rfl
  | cons b r ih => show b.pts + (of r).pts = _; rw [ih, List.map_cons, List.sum_cons]; omega
theorem dp_of {l : List T} {n : Nat} (h : ∀ b ∈ l, b.dp + 1 ≤ n) : (of l).dp ≤ n := by
  induction l with
  | nil => exact Nat.zero_le _
  | cons b r ih =>
    show max (b.dp + 1) (of r).dp ≤ n
    have h1 := h b (by simp)
    have h2 := ih fun b hb => h b (by simp [hb])
    omega
theorem pts_mem : ∀ (t b : T), b ∈ t.L → b.pts < t.pts
  | z, b, h => by cases h
  | c b' r, b, h => by
    rcases List.mem_cons.mp h with h | h
    · subst h; have := pts_pos r; show b.pts < b.pts + r.pts; omega
    · have h1 := pts_mem r b h
      show b.pts < b'.pts + r.pts
      omega
theorem dp_mem : ∀ (t b : T), b ∈ t.L → b.dp + 1 ≤ t.dp
  | z, b, h => by cases h
  | c b' r, b, h => by
    rcases List.mem_cons.mp h with h | h
    · subst h; exact Nat.le_max_left _ _
    · have h1 := dp_mem r b h
      show b.dp + 1 ≤ max (b'.dp + 1) r.dp
      omega
end T
open T
def tenL : T → List PyData
  | .z => []
  | .c b r => .tuple (tenL b) :: tenL r
abbrev ten (t : T) : PyData := .tuple (tenL t)
@[simp] theorem tenL_z : tenL .z = [] := rfl
@[simp] theorem tenL_c (b r : T) : tenL (.c b r) = .tuple (tenL b) :: tenL r := rfl
theorem tenL_L : ∀ t : T, tenL t = t.L.map ten
  | .z => rfl
  | .c b r => by show _ :: tenL r = _ :: (r.L.map ten); rw [tenL_L r]
theorem tenL_of (l : List T) : tenL (T.of l) = l.map ten := by rw [tenL_L, T.L_of]
@[simp] theorem tenL_len (t : T) : (tenL t).length = t.L.length := by rw [tenL_L, List.length_map]
theorem ten_depth : ∀ t : T, (ten t).depth = t.dp + 1
  | .z => by simp [PyData.depth, PyData.depthAll, T.dp]
  | .c b r => by
    have h1 := ten_depth b
    have h2 := ten_depth r
    simp only [PyData.depth] at h1 h2
    simp only [tenL_c, PyData.depth, PyData.depthAll, T.dp]
    omega
theorem ten_lay : ∀ t : T, (ten t).canLay0 = true
  | .z => by simp [PyData.canLay0, PyData.canLayAll0]
  | .c b r => by
    have h1 := ten_lay b
    have h2 := ten_lay r
    simp only [PyData.canLay0] at h1 h2
    simp only [tenL_c, PyData.canLay0, PyData.canLayAll0, h1, h2, Bool.and_self]
theorem ten_shaped {t : T} (h : t.dp ≤ 63) : shp (ten t) = true := by
  unfold shp
  rw [ten_lay, ten_depth, Bool.true_and]
  exact decide_eq_true (by omega)
theorem ten_imm : ∀ t : T, imm (ten t) = true
  | .z => by simp [imm, imms]
  | .c b r => by
    have h1 := ten_imm b
    have h2 := ten_imm r
    simp only [imm] at h1 h2
    simp only [tenL_c, imm, imms, h1, h2, Bool.and_self]
theorem ten_eqv : ∀ s t : T, PyData.eqv (ten s) (ten t) = decide (s = t)
  | .z, .z => by simp [PyData.eqv, PyData.eqvAll]
  | .z, .c b r => by simp [PyData.eqv, PyData.eqvAll]
  | .c b r, .z => by simp [PyData.eqv, PyData.eqvAll]
  | .c b r, .c b' r' => by
    have h1 := ten_eqv b b'
    have h2 := ten_eqv r r'
    simp only [PyData.eqv] at h1 h2
    simp only [tenL_c, PyData.eqv, PyData.eqvAll, h1, h2, T.c.injEq]
    by_cases c1 : b = b' <;> by_cases c3 : r = r' <;> simp [c1, c3]
theorem gEq_ten {s t : T} (hs : s.dp ≤ 63) (ht : t.dp ≤ 63) : gEq (ten s) (ten t) = some (.bool (decide (s = t))) := by
  unfold gEq
  rw [ten_shaped hs, ten_shaped ht, ten_eqv]; rfl
theorem gEq_tnil {t : T} (h : t.dp ≤ 63) : gEq (ten t) (.tuple []) = some (.bool (decide (t = .z))) := gEq_ten (t := .z) h (by decide)
theorem atI_ten {t : T} {j : Nat} (h : j < t.L.length) : atI (tenL t) (j : Int) = some (ten t.L[j]) := L2.atI_nat (by rw [tenL_L, List.getElem?_map, List.getElem?_eq_getElem h]; rfl)
theorem nil_iff {t : T} : t = .z ↔ t.L = [] := by
  cases t with
  | z => simp [T.L]
  | c b r => simp [T.L]
structure Hang (n M : Nat) (us : List (List Nat)) (ds : List Nat) : Prop where
  lu : us.length = n + 1
  ld : ds.length = n + 1
  perm : us.flatten.Perm (List.range' 1 n)
  up : ∀ (k : Nat) (l : List Nat), us[k]? = some l → ∀ j ∈ l, k < j ∧ ∃ a b, ds[k]? = some a ∧ ds[j]? = some b ∧ b = a + 1
  le : ∀ d ∈ ds, d ≤ M
  root : ds[0]? = some 0
theorem Hang.zero {M : Nat} : Hang 0 M [[]] [0] := ⟨rfl, rfl, by simp, fun k l h j hj => by
  cases k with
  | zero => simp at h; subst h; cases hj
  | succ k => simp at h, fun d hd => by simp at hd; omega, rfl⟩
theorem flatten_set_ins {us : List (List Nat)} {k : Nat} {l : List Nat} (h : us[k]? = some l) (p x : Nat) : (us.set k (l.take p ++ [x] ++ l.drop p)).flatten.Perm (x :: us.flatten) := by
  induction us generalizing k with
  | nil => simp at h
  | cons u us ih =>
    cases k with
    | zero =>
      simp at h; subst h
      simp only [List.set_cons_zero, List.flatten_cons]
      have h1 : (u.take p ++ [x] ++ u.drop p).Perm (x :: u) := by
        have h2 : (u.take p ++ [x] ++ u.drop p).Perm ([x] ++ u.take p ++ u.drop p) := (List.perm_append_comm (l₁ := u.take p) (l₂ := [x])).append_right _
        have h3 : [x] ++ u.take p ++ u.drop p = x :: u := by rw [List.append_assoc, List.take_append_drop]; rfl
        rw [h3] at h2; exact h2
      exact h1.append_right _
    | succ k =>
      simp at h
      simp only [List.set_cons_succ, List.flatten_cons]
      have h1 := (ih h).append_left u
      exact h1.trans List.perm_middle
theorem Hang.step {n M k p : Nat} {us : List (List Nat)} {ds : List Nat} (h : Hang n M us ds) {l : List Nat} {d : Nat} (hk : us[k]? = some l) (hd : ds[k]? = some d) (hM : d + 1 ≤ M) :
    Hang (n + 1) M (us.set k (l.take p ++ [n + 1] ++ l.drop p) ++ [[]]) (ds ++ [d + 1]) := by
  have hkn : k < n + 1 := by rw [← h.lu]; exact (List.getElem?_eq_some_iff.mp hk).1
  have dget : ∀ (i a : Nat), ds[i]? = some a → (ds ++ [d + 1])[i]? = some a := fun i a e => by
    rw [List.getElem?_append_left (List.getElem?_eq_some_iff.mp e).1]; exact e
  refine ⟨by simp [h.lu], by simp [h.ld], ?_, fun i m hi j hj => ?_, fun x hx => ?_, dget _ _ h.root⟩
  · rw [List.flatten_append]
    have e : List.range' 1 (n + 1) = List.range' 1 n ++ [n + 1] := by rw [List.range'_concat]; simp; omega
    rw [e]
    have h1 := flatten_set_ins hk p (n + 1)
    have h2 : ((n + 1) :: us.flatten).Perm (List.range' 1 n ++ [n + 1]) := (List.Perm.cons (n + 1) h.perm).trans (List.perm_append_comm (l₁ := [n + 1]))
    simpa using h1.trans h2
  · by_cases hl : i < us.length
    · rw [List.getElem?_append_left (by simpa using hl)] at hi
      by_cases c : k = i
      · subst c
        rw [List.getElem?_set_self hl] at hi
        cases hi
        rcases List.mem_append.mp hj with hj | hj
        · rcases List.mem_append.mp hj with hj | hj
          · obtain ⟨g1, a, b, g2, g3, g4⟩ := h.up k l hk j (List.mem_of_mem_take hj)
            exact ⟨g1, a, b, dget _ _ g2, dget _ _ g3, g4⟩
          · simp at hj; subst hj
            exact ⟨hkn, d, d + 1, dget _ _ hd, by rw [List.getElem?_append_right (by rw [h.ld]; exact Nat.le_refl _), h.ld]; simp, rfl⟩
        · obtain ⟨g1, a, b, g2, g3, g4⟩ := h.up k l hk j (List.mem_of_mem_drop hj)
          exact ⟨g1, a, b, dget _ _ g2, dget _ _ g3, g4⟩
      · rw [List.getElem?_set_ne c] at hi
        obtain ⟨g1, a, b, g2, g3, g4⟩ := h.up i m hi j hj
        exact ⟨g1, a, b, dget _ _ g2, dget _ _ g3, g4⟩
    · rw [List.getElem?_append_right (by simpa using hl)] at hi
      have : m = [] := by
        obtain ⟨x, hx⟩ : ∃ x, i - (us.set k (l.take p ++ [n + 1] ++ l.drop p)).length = x := ⟨_, rfl⟩
        rw [hx] at hi
        cases x with
        | zero => simpa using hi.symm
        | succ x => simp at hi
      subst this
      cases hj
  · rcases List.mem_append.mp hx with hx | hx
    · exact h.le x hx
    · simp at hx; omega
end Nm
set_option Elab.async false
set_option linter.all false
set_option maxRecDepth 100000
set_option maxHeartbeats 4000000
set_option exponentiation.threshold 20
namespace Nm
open PySem Pu O L2
abbrev Dn (j : Nat) : PyData := .int (j : Nat)
abbrev Ul (us : List (List Nat)) : PyData := .list (us.map fun l => .list (l.map Dn))
abbrev tr_5 (S : Nat → Fn) (c0 : Nat) : Vars → Out := sSetD 5 (eFn (S c0) (aCons (eOp gIx (eVar 0) (eVar 4)) (aCons (eVar 4) aNil)))
abbrev tr_6 : Vars → Out := sSetD 6 (eOp gMod (eOp gDiv (eVar 5) (eC (.int 3))) (eCall gLen (aCons (eVar 3) aNil)))
abbrev tr_7 : Vars → Out := sIf (tOf (eOp gEq (eOp gMod (eVar 5) (eC (.int 3))) (eC (.int 0)))) (sSetD 6 (eOp gSub (eCall gLen (aCons (eVar 3) aNil)) (eC (.int 1)))) sNil
abbrev tr_8 : Vars → Out := sIf (tOf (eOp gGe (eOp gIx (eVar 3) (eVar 6)) (eVar 1))) (sSetD 6 (eC (.int 0))) sNil
abbrev tr_9 : Vars → Out := sIns 2 (eVar 6) (aCons (eOp gMod (eOp gDiv (eVar 5) (eC (.int 1000))) (eOp gAdd (eCall gLen (aCons (eOp gIx (eVar 2) (eVar 6)) aNil)) (eC (.int 1)))) (aCons (eCall gLen (aCons (eVar 3) aNil)) aNil))
abbrev tr_a : Vars → Out := sApp 3 (eOp gAdd (eOp gIx (eVar 3) (eVar 6)) (eC (.int 1)))
abbrev tr_b : Vars → Out := sAppN 2
theorem ixNn {n j : Nat} (hj : j < n) : ixN n (j : Int) = some j := by
  unfold L2.ixN
  rw [if_pos (by omega), if_pos (by omega)]; simp
theorem mod_nat {n : Nat} (h : 0 < n) (v : Int) : ∃ k : Nat, v % (n : Int) = (k : Nat) ∧ k < n := by
  have h0 := Int.emod_nonneg v (show (n : Int) ≠ 0 by omega)
  have h1 := Int.emod_lt_of_pos v (show (0 : Int) < n by omega)
  exact ⟨(v % (n : Int)).toNat, by omega, by omega⟩
theorem atI_Dn {ds : List Nat} {k d : Nat} (h : ds[k]? = some d) : atI (ds.map Dn) (k : Int) = some (Dn d) := L2.atI_nat (by rw [List.getElem?_map, h]; rfl)
theorem tree_turn {S : Nat → Fn} {c0 : Nat} (hm : MxOk (S c0)) {cs : List Int} {M n : Nat} (hb : ∀ z ∈ cs, Bit z) (h1 : 1 ≤ M) (hn : n < cs.length) (h80 : cs.length ≤ 100) {us : List (List Nat)} {ds : List Nat} (H : Hang n M us ds) (x5 x6 x7 x8 : Option PyData) :
    ∃ us' ds' y5 y6, Hang (n + 1) M us' ds' ∧ (sSeq (tr_5 S c0) (sSeq tr_6 (sSeq tr_7 (sSeq tr_8 (sSeq tr_9 (sSeq tr_a tr_b)))))) [some (.list (cs.map .int)), some (Dn M), some (Ul us), some (.list (ds.map Dn)), some (Dn n), x5, x6, x7, x8]
      = .nx [some (.list (cs.map .int)), some (Dn M), some (Ul us'), some (.list (ds'.map Dn)), some (Dn n), y5, y6, x7, x8] := by
  have hc : cs[n] ∈ cs := List.getElem_mem hn
  obtain ⟨r, er, r0, r1⟩ := hm cs[n] (n : Nat) (hb _ hc) (by omega) (by omega)
  have a0 : atI (cs.map PyData.int) (n : Int) = some (.int cs[n]) := L2.atI_nat (by rw [List.getElem?_map, List.getElem?_eq_getElem hn]; rfl)
  have ld := H.ld
  have lu := H.lu
  have d3 : ∀ i : Int, cDiv i 3 = true := fun i => cDiv_of 10 (by decide) (by decide) (by decide) (by decide)
  have d4 : ∀ i : Int, cDiv i 1000 = true := fun i => cDiv_of 10 (by decide) (by decide) (by decide) (by decide)
  have m3 : ∀ i : Int, cMod i 3 = true := fun i => cMod_of (by decide)
  have ml : ∀ i : Int, cMod i ((n : Int) + 1) = true := fun i => cMod_of (by omega)
  obtain ⟨k6, e6, l6⟩ := mod_nat (n := n + 1) (by omega) (r / 3)
  rw [show ((n + 1 : Nat) : Int) = (n : Int) + 1 by omega] at e6
  have t5 : ∀ y6, tr_5 S c0 [some (.list (cs.map .int)), some (Dn M), some (Ul us), some (.list (ds.map Dn)), some (Dn n), x5, y6, x7, x8] = .nx [some (.list (cs.map .int)), some (Dn M), some (Ul us), some (.list (ds.map Dn)), some (Dn n), some (.int r), y6, x7, x8] := fun y6 => by
    simp [tr_5, a0, er, imm]
  have t6 : tr_6 [some (.list (cs.map .int)), some (Dn M), some (Ul us), some (.list (ds.map Dn)), some (Dn n), some (.int r), x6, x7, x8] = .nx [some (.list (cs.map .int)), some (Dn M), some (Ul us), some (.list (ds.map Dn)), some (Dn n), some (.int r), some (Dn k6), x7, x8] := by
    simp [tr_6, d3, ld, ml, e6, imm]
  have t7 : ∃ k, k < n + 1 ∧ tr_7 [some (.list (cs.map .int)), some (Dn M), some (Ul us), some (.list (ds.map Dn)), some (Dn n), some (.int r), some (Dn k6), x7, x8] = .nx [some (.list (cs.map .int)), some (Dn M), some (Ul us), some (.list (ds.map Dn)), some (Dn n), some (.int r), some (Dn k), x7, x8] := by
    by_cases c : r % 3 = 0
    · refine ⟨n, by omega, ?_⟩
      have : ((n : Int) + 1 - 1) = n := by omega
      simp [tr_7, m3, c, ld, this, imm]
    · exact ⟨k6, l6, by simp [tr_7, m3, c]⟩
  obtain ⟨k7, l7, t7⟩ := t7
  have t8 : ∃ k d, ds[k]? = some d ∧ d + 1 ≤ M ∧ tr_8 [some (.list (cs.map .int)), some (Dn M), some (Ul us), some (.list (ds.map Dn)), some (Dn n), some (.int r), some (Dn k7), x7, x8] = .nx [some (.list (cs.map .int)), some (Dn M), some (Ul us), some (.list (ds.map Dn)), some (Dn n), some (.int r), some (Dn k), x7, x8] := by
    have hk : k7 < ds.length := by omega
    have ek := List.getElem?_eq_getElem hk
    have ea := atI_Dn ek
    by_cases c : M ≤ ds[k7]
    · refine ⟨0, 0, H.root, by omega, ?_⟩
      have c' : (M : Int) ≤ (ds[k7] : Nat) := by omega
      simp [tr_8, ea, c', imm]
    · refine ⟨k7, ds[k7], ek, by omega, ?_⟩
      have c' : ¬ (M : Int) ≤ (ds[k7] : Nat) := by omega
      simp [tr_8, ea, c']
  obtain ⟨k, d, ed, dM, t8⟩ := t8
  have hk : k < n + 1 := by rw [← ld]; exact (List.getElem?_eq_some_iff.mp ed).1
  have hku : k < us.length := by omega
  have eu := List.getElem?_eq_getElem hku
  obtain ⟨l, hl⟩ : ∃ l, us[k] = l := ⟨_, rfl⟩
  rw [hl] at eu
  have eau : atI (us.map fun l => PyData.list (l.map Dn)) (k : Int) = some (.list (l.map Dn)) := L2.atI_nat (by rw [List.getElem?_map, eu]; rfl)
  obtain ⟨p, ep, lp⟩ := mod_nat (n := l.length + 1) (by omega) (r / 1000)
  rw [show ((l.length + 1 : Nat) : Int) = (l.length : Int) + 1 by omega] at ep
  have mp : ∀ i : Int, cMod i ((l.length : Int) + 1) = true := fun i => cMod_of (by omega)
  have ix : ixN us.length (k : Int) = some k := ixNn hku
  have hll : l.length ≤ n := by
    have h2 : l.length ≤ us.flatten.length := by
      have hmem : l ∈ us := List.mem_of_getElem? eu
      have : l.Sublist us.flatten := List.sublist_flatten_of_mem hmem
      exact this.length_le
    rw [H.perm.length_eq] at h2
    simpa using h2
  have slL : l.length < sizeLine := sz1000' (by omega)
  have slD : ds.length < sizeLine := sz1000' (by omega)
  have slU : us.length < sizeLine := sz1000' (by omega)
  have H' := H.step (p := p) eu ed dM
  have t9 : tr_9 [some (.list (cs.map .int)), some (Dn M), some (Ul us), some (.list (ds.map Dn)), some (Dn n), some (.int r), some (Dn k), x7, x8] = .nx [some (.list (cs.map .int)), some (Dn M), some (Ul (us.set k (l.take p ++ [n + 1] ++ l.drop p))), some (.list (ds.map Dn)), some (Dn n), some (.int r), some (Dn k), x7, x8] := by
    have p62 : p < 2 ^ 62 := by have : (2 : Nat) ^ 62 = 4611686018427387904 := by decide
                                omega
    have eset : (us.map fun l => PyData.list (l.map Dn)).set k (.list (List.map Dn (List.take p l) ++ PyData.int ((n : Int) + 1) :: List.map Dn (List.drop p l))) = (us.set k (l.take p ++ (n + 1) :: l.drop p)).map fun l => PyData.list (l.map Dn) := by
      rw [List.map_set]; simp; rfl
    have d4' : cDiv r 1000 = true := d4 r
    simp only [tr_9, u_sIns, u_eVar, u_aCons, u_eOp, u_eC, u_eCall, u_aNil, List.getD_cons_zero, List.getD_cons_succ, R.of_some, R.run_ok, R.bind_ok, List.length_map, ix, List.getElem?_map, eu, Option.map_some, u_gInt, d4', if_true, u_gIx_l, eau, u_gLen_l, u_gAdd_i, mp, ep, ld]
    simp only [imm, Int.natAbs_natCast, Int.natCast_nonneg, decide_true, decide_eq_true p62, decide_eq_true slL, Bool.and_self, if_true, List.set_cons_succ, List.set_cons_zero, Int.toNat_natCast]
    simp [List.map_set, List.map_take, List.map_drop]; rfl
  have ea := atI_Dn ed
  have ta : ∀ V, tr_a [some (.list (cs.map .int)), some (Dn M), V, some (.list (ds.map Dn)), some (Dn n), some (.int r), some (Dn k), x7, x8] = .nx [some (.list (cs.map .int)), some (Dn M), V, some (.list ((ds ++ [d + 1]).map Dn)), some (Dn n), some (.int r), some (Dn k), x7, x8] := fun V => by
    simp [tr_a, ea, imm, slD]
  have tb : tr_b [some (.list (cs.map .int)), some (Dn M), some (Ul (us.set k (l.take p ++ [n + 1] ++ l.drop p))), some (.list ((ds ++ [d + 1]).map Dn)), some (Dn n), some (.int r), some (Dn k), x7, x8] = .nx [some (.list (cs.map .int)), some (Dn M), some (Ul (us.set k (l.take p ++ [n + 1] ++ l.drop p) ++ [[]])), some (.list ((ds ++ [d + 1]).map Dn)), some (Dn n), some (.int r), some (Dn k), x7, x8] := by
    simp [tr_b, slU]
  refine ⟨_, _, some (.int r), some (Dn k), H', ?_⟩
  rw [u_sSeq, t5, Out.then_nx, u_sSeq, t6, Out.then_nx, u_sSeq, t7, Out.then_nx, u_sSeq, t8, Out.then_nx, u_sSeq, t9, Out.then_nx, u_sSeq, ta, Out.then_nx, tb]
end Nm
set_option Elab.async false
set_option linter.all false
set_option maxRecDepth 100000
namespace Pu
open PySem
end Pu
set_option Elab.async false
set_option linter.all false
set_option maxRecDepth 100000
set_option maxHeartbeats 4000000
set_option exponentiation.threshold 20
namespace Nm
open PySem Pu O L2
end Nm
set_option Elab.async false
set_option linter.all false
set_option maxRecDepth 100000
namespace Pu
open PySem
end Pu
set_option Elab.async false
set_option linter.all false
set_option maxRecDepth 100000
set_option maxHeartbeats 4000000
set_option exponentiation.threshold 20
namespace Nm
open PySem Pu O L2
end Nm
set_option Elab.async false
set_option linter.all false
set_option maxRecDepth 100000
set_option maxHeartbeats 4000000
set_option exponentiation.threshold 20
namespace Nm
open PySem Pu O L2
end Nm
set_option Elab.async false
set_option linter.all false
set_option maxRecDepth 100000
set_option maxHeartbeats 4000000
set_option exponentiation.threshold 20
namespace Nm
open PySem Pu O L2
end Nm
set_option Elab.async false
set_option linter.all false
set_option maxRecDepth 100000
set_option maxHeartbeats 4000000
set_option exponentiation.threshold 20
namespace Nm
open PySem Pu O L2
theorem forL_fold {α β : Type} {gt : PyData → Vars → Option Vars} {g : Vars → Out} (E : α → PyData) (f : β → α → β) (st : β → Option PyData → Vars) : ∀ (xs : List α) (b : β) (v : Option PyData),
    (∀ x ∈ xs, ∀ b v, ∃ ρ1 v', gt (E x) (st b v) = some ρ1 ∧ g ρ1 = .nx (st (f b x) v')) → ∃ v', forL gt g (xs.map E) (st b v) = .nx (st (xs.foldl f b) v')
  | [], b, v, _ => ⟨v, rfl⟩
  | x :: xs, b, v, h => by
    obtain ⟨ρ1, v1, h1, h2⟩ := h x (by simp) b v
    obtain ⟨v2, h3⟩ := forL_fold E f st xs (f b x) v1 fun y hy => h y (by simp [hy])
    refine ⟨v2, ?_⟩
    rw [List.map_cons, u_forL_c, h1]
    simp only [h2, h3, List.foldl_cons]
def PtsOk (k : Nat) (F : Fn) : Prop := ∀ t : T, t.dp < k → F [ten t] = .ok (.int (t.pts : Nat))
theorem points_step {S : Nat → Fn} {c0 k : Nat} (h : PtsOk k (S c0)) : PtsOk (k + 1) (fun ds => fnD 3 (G_points c0 S) ds) := by
  intro t ht
  refine fnD_of ?_
  obtain ⟨v', e⟩ := forL_fold (gt := gtName 2) (g := sAug [] 1 gAddI (eFn (S c0) (aCons (eVar 2) aNil))) ten (fun (n : Nat) (b : T) => n + b.pts) (fun n v => [some (ten t), some (.int (n : Nat)), v]) t.L 1 none fun b hb n v => by
    have := T.dp_mem t b hb
    have hp := h b (by omega)
    exact ⟨_, some (ten b), rfl, by simp [gAddI, hp]⟩
  have es : ∀ (l : List T) (n : Nat), l.foldl (fun (n : Nat) (b : T) => n + b.pts) n = n + (l.map T.pts).sum := by
    intro l
    induction l with
    | nil => intro n; simp
    | cons b l ih => intro n; rw [List.foldl_cons, ih, List.map_cons, List.sum_cons]; omega
  have ep : t.pts = 1 + (t.L.map T.pts).sum := by
    have := T.pts_of t.L
    rwa [T.of_L] at this
  rw [es, ← ep, ← tenL_L] at e
  unfold G_points
  have e' : forL (gtName 2) (sAug [] 1 gAddI (eFn (S c0) (aCons (eVar 2) aNil))) (tenL t) [some (ten t), some (.int 1), none] = .nx [some (ten t), some (.int (t.pts : Nat)), v'] := e
  rw [u_sSeq]
  have e1 : (sSet [] 1 (eC (.int 1))) (List.map some [ten t] ++ List.replicate (3 - [ten t].length) none) = .nx [some (ten t), some (.int 1), none] := by simp
  rw [e1, Out.then_nx, u_sSeq, u_sFor]
  have e2 : (iSeq (eVar 0)) (mask [] [some (ten t), some (.int 1), none]) = .ok (tenL t) := by simp
  rw [e2, R.run_ok, e', Out.then_nx]
  simp
def PtlOk (k : Nat) (F : Fn) : Prop := ∀ t : T, t.dp < k → t.pts ≤ 2000 → F [ten t] = .ok (.int (t.pts : Nat))
theorem l_points_step {S : Nat → Fn} {c0 k : Nat} (h : PtlOk k (S c0)) : PtlOk (k + 1) (fun ds => fnD 2 (G_l_points c0 S) ds) := by
  intro t ht hp
  refine fnD_of ?_
  have e1 : lcL (gtName 1) tYesD (eFn (S c0) (aCons (eVar 1) aNil)) [some (ten t), none] (tenL t) = .ok (t.L.map fun b => PyData.int (b.pts : Nat)) := by
    rw [tenL_L]
    have := lc_gen (ps := t.L) (E := ten) (ρ := [some (ten t), none]) (i := 1) (tt := tYesD) (f := eFn (S c0) (aCons (eVar 1) aNil)) (P := fun _ => true) (F := fun b => PyData.int (b.pts : Nat)) (fun _ _ => rfl) fun b hb _ => by
      have := T.dp_mem t b hb
      have := T.pts_mem t b hb
      simp [h b (by omega) (by omega)]
    rw [List.filter_eq_self.mpr fun _ _ => rfl] at this
    exact this
  have es := intsOf_mapF (fun b : T => ((b.pts : Nat) : Int)) t.L
  have ep : ((t.pts : Nat) : Int) = 1 + (t.L.map fun b => ((b.pts : Nat) : Int)).sum := by
    have h1 := T.pts_of t.L
    rw [T.of_L] at h1
    have h2 : ∀ l : List T, ((l.map T.pts).sum : Int) = (l.map fun b => ((b.pts : Nat) : Int)).sum := by
      intro l
      induction l with
      | nil => rfl
      | cons b l ih => rw [List.map_cons, List.map_cons, List.sum_cons, List.sum_cons, ← ih]; omega
    rw [h1, ← h2]; omega
  have s1 : t.L.length < sizeLine := sz1000' (by have := T.ln_lt t; omega)
  unfold G_l_points
  simp [e1, s1, gSum, es, ep]
def sub : T → List Nat → Option T
  | t, [] => some t
  | t, i :: w => match t.L[i]? with
    | some b => sub b w
    | none => none
theorem sub_cons {t b : T} {i : Nat} {w : List Nat} (h : t.L[i]? = some b) : sub t (i :: w) = sub b w := by
  rw [sub, h]
theorem sub_cons_some {t s : T} {i : Nat} {w : List Nat} (h : sub t (i :: w) = some s) : ∃ b, t.L[i]? = some b ∧ sub b w = some s := by
  rw [sub] at h
  cases e : t.L[i]? with
  | none => rw [e] at h; cases h
  | some b => rw [e] at h; exact ⟨b, rfl, h⟩
theorem sub_len : ∀ {w : List Nat} {t s : T}, sub t w = some s → w.length + s.dp ≤ t.dp
  | [], t, s, h => by cases h; simp
  | i :: w, t, s, h => by
    obtain ⟨b, h1, h2⟩ := sub_cons_some h
    have := sub_len h2
    have := T.dp_mem t b (List.mem_of_getElem? h1)
    simp only [List.length_cons]; omega
theorem sub_take : ∀ {w : List Nat} {t s : T} (n : Nat), sub t w = some s → ∃ u, sub t (w.take n) = some u ∧ sub u (w.drop n) = some s
  | w, t, s, 0, h => ⟨t, by simp [sub], by simpa using h⟩
  | [], t, s, n + 1, h => ⟨t, by simp [sub], by simpa using h⟩
  | i :: w, t, s, n + 1, h => by
    obtain ⟨b, h1, h2⟩ := sub_cons_some h
    obtain ⟨u, h3, h4⟩ := sub_take n h2
    exact ⟨u, by rw [List.take_succ_cons, sub_cons h1]; exact h3, by simpa using h4⟩
theorem sub_pts : ∀ {w : List Nat} {t s : T}, sub t w = some s → s.pts + w.length ≤ t.pts
  | [], t, s, h => by cases h; simp
  | i :: w, t, s, h => by
    obtain ⟨b, h1, h2⟩ := sub_cons_some h
    have := sub_pts h2
    have := T.pts_mem t b (List.mem_of_getElem? h1)
    simp only [List.length_cons]; omega
def putL {α : Type} (xs : List α) (j : Nat) (ys : List α) : List α := xs.take j ++ ys ++ xs.drop (j + 1)
theorem putL_map {α β : Type} (f : α → β) (xs : List α) (j : Nat) (ys : List α) : (putL xs j ys).map f = putL (xs.map f) j (ys.map f) := by
  unfold putL
  rw [List.map_append, List.map_append, List.map_take, List.map_drop]
def InsOk (F : Fn) : Prop := ∀ (xs ys : List PyData) (j : Nat), j < xs.length → xs.length ≤ 2000 → ys.length ≤ 2000 → F [.tuple xs, .int (j : Nat), .tuple ys] = .ok (.tuple (putL xs j ys))
theorem instead_step (S : Nat → Fn) : InsOk (fun ds => fnD 3 (G_instead S) ds) := by
  intro xs ys j hj hx hy
  refine fnD_of ?_
  have c1 : Pu.cutD xs none (some (j : Int)) = xs.take j := cut_front xs j
  have c2 : Pu.cutD xs (some ((j : Int) + 1)) none = xs.drop (j + 1) := by
    have := cut_back xs (j + 1)
    rwa [Nat.min_eq_left (by omega)] at this
  have s1 : min j xs.length + ys.length ≤ sizeLine := sz1000 (by omega)
  have s2 : min j xs.length + (ys.length + (xs.length - (j + 1))) ≤ sizeLine := sz1000 (by omega)
  unfold G_instead putL
  simp [c1, c2, s1, s2, Nat.add_assoc]
theorem InsOk.tree {F : Fn} (h : InsOk F) {t : T} {j : Nat} (hj : j < t.L.length) (ht : t.pts ≤ 2000) {bs : List T} (hb : bs.length ≤ 2000) : F [ten t, .int (j : Nat), .tuple (bs.map ten)] = .ok (ten (T.of (putL t.L j bs))) := by
  have hl := T.ln_lt t
  have := h (tenL t) (bs.map ten) j (by rw [tenL_len]; exact hj) (by rw [tenL_len]; omega) (by rw [List.length_map]; exact hb)
  rw [this]
  show R.ok (PyData.tuple _) = R.ok (PyData.tuple (tenL (T.of _)))
  rw [tenL_of, putL_map, ← tenL_L]
def whN : PyData → Option Nat
  | .int i => if 0 ≤ i then some i.toNat else none
  | _ => none
def subD : T → List PyData → Option T
  | t, [] => some t
  | t, d :: w => match whN d with
    | some i => match t.L[i]? with
      | some b => subD b w
      | none => none
    | none => none
theorem subD_Dn : ∀ (t : T) (w : List Nat), subD t (w.map Dn) = sub t w
  | t, [] => rfl
  | t, i :: w => by
    have e : whN (Dn i) = some i := by simp [whN]
    rw [List.map_cons, subD, e, sub]
    simp only []
    cases t.L[i]? with
    | none => rfl
    | some b => exact subD_Dn b w
structure HeadOk (F : Fn) : Prop where
  tup : ∀ (t : T) (w : List PyData) (_ : t.pts ≤ 2000) (hf : ∀ d ∈ w, fnB d = false := by first | assumption | (intro d hd; simp only [List.mem_map] at hd; obtain ⟨_, _, rfl⟩ := hd; rfl)), F [ten t, .tuple w] = .ok (.bool (decide (w ≠ [] ∧ subD t w = some .z)))
  no : ∀ (t : T) (d : PyData) (_ : isiB "tuple" d = false) (hf : fnB d = false := by first | rfl | assumption), F [ten t, d] = .ok (.bool false)
abbrev hdB (F : Fn) : Vars → Out := (sSeq (sIf (tOrR (tNotR (tTru (eFn F (aCons (eVar 2) aNil)))) (tOf (eOp gGe (eVar 2) (eCall gLen (aCons (eVar 0) aNil))))) (sRet (eC (.bool false))) sNil) (sSet [] 0 (eOp gIx (eVar 0) (eVar 2))))
theorem head_loop {F : Fn} (h : WhoOk F) (W : Option PyData) : ∀ (w : List PyData) (t : T) (x : Option PyData), (∀ d ∈ w, fnB d = false) → match subD t w with
    | some s => ∃ x', forL (gtName 2) (hdB F) w [some (ten t), W, x] = .nx [some (ten s), W, x']
    | none => forL (gtName 2) (hdB F) w [some (ten t), W, x] = .rt (.bool false)
  | [], t, x => fun _ => ⟨x, rfl⟩
  | d :: w, t, x => fun hf => by
    rw [u_forL_c]
    simp only [u_gtName, List.set_cons_succ, List.set_cons_zero]
    have no : F [d] = .ok (.bool false) → hdB F [some (ten t), W, some d] = .rt (.bool false) := fun e => by simp [e]
    cases ed : whN d with
    | none =>
      have e1 : F [d] = .ok (.bool false) := by
        cases d with
        | int i =>
          have : ¬ 0 ≤ i := fun z => by simp [whN, z] at ed
          rw [h.int, decide_eq_false this]
        | bool b => exact h.no _ (.inr rfl)
        | none => exact h.no _ (.inl rfl)
        | str x => exact h.no _ (.inl rfl)
        | list x => exact h.no _ (.inl rfl)
        | tuple x => exact h.no _ (.inl rfl)
        | dict x => exact h.no _ (.inl rfl) (hf _ List.mem_cons_self)
      have e2 : subD t (d :: w) = none := by rw [subD, ed]
      rw [e2, no e1]
    | some i =>
      have ei : d = Dn i := by
        cases d with
        | int j =>
          by_cases z : 0 ≤ j
          · simp [whN, z] at ed
            subst ed
            show PyData.int j = .int ((j.toNat : Nat) : Int)
            rw [Int.toNat_of_nonneg z]
          · simp [whN, z] at ed
        | _ => cases ed
      subst ei
      have e1 : F [Dn i] = .ok (.bool true) := h.yes (Int.natCast_nonneg i)
      cases et : t.L[i]? with
      | none =>
        have hl : t.L.length ≤ i := List.getElem?_eq_none_iff.mp et
        have e2 : subD t (Dn i :: w) = none := by rw [subD, ed]; simp only [et]
        have hl' : (t.L.length : Int) ≤ (i : Int) := by omega
        rw [e2]
        have : hdB F [some (ten t), W, some (Dn i)] = .rt (.bool false) := by simp [e1, hl']
        rw [this]
      | some b =>
        have hl : i < t.L.length := (List.getElem?_eq_some_iff.mp et).1
        have eb : t.L[i] = b := (List.getElem?_eq_some_iff.mp et).2
        have e2 : subD t (Dn i :: w) = subD b w := by
          rw [subD, ed]; simp only [et]
        have hl' : ¬ (t.L.length : Int) ≤ (i : Int) := by omega
        have ea : atI (tenL t) (i : Int) = some (ten b) := by rw [atI_ten hl, eb]
        have : hdB F [some (ten t), W, some (Dn i)] = .nx [some (ten b), W, some (Dn i)] := by simp [e1, hl', ea]
        rw [e2, this]
        exact head_loop h W w b _ fun d hd => hf d (List.mem_cons_of_mem _ hd)
theorem is_head_step {S : Nat → Fn} {c0 : Nat} (h : WhoOk (S c0)) : HeadOk (fun ds => fnD 3 (G_is_head c0 S) ds) where
  tup := fun t w hp hf => by
    refine fnD_of ?_
    have hl := head_loop h (some (.tuple w)) w t none hf
    unfold G_is_head
    cases w with
    | nil => simp [isiB]
    | cons d w =>
      have e0 : ¬ ((w.length : Int) + 1 = 0) := by omega
      cases es : subD t (d :: w) with
      | none =>
        rw [es] at hl
        simp [isiB, e0, hl]
      | some s =>
        rw [es] at hl
        obtain ⟨x', hl⟩ := hl
        simp [isiB, e0, hl, nil_iff]
  no := fun t d hd hf => by
    refine fnD_of ?_
    have g := gIsi_no (T := "tuple") hf
    rw [hd] at g
    unfold G_is_head
    simp [g]
theorem at_loop (W : Option PyData) : ∀ (w : List Nat) (t s : T) (x : Option PyData), sub t w = some s → ∃ x', forL (gtName 2) (sSet [] 0 (eOp gIx (eVar 0) (eVar 2))) (w.map Dn) [some (ten t), W, x] = .nx [some (ten s), W, x']
  | [], t, s, x, h => by cases h; exact ⟨x, rfl⟩
  | i :: w, t, s, x, h => by
    obtain ⟨b, h1, h2⟩ := sub_cons_some h
    have hl : i < t.L.length := (List.getElem?_eq_some_iff.mp h1).1
    have eb : t.L[i] = b := (List.getElem?_eq_some_iff.mp h1).2
    have ea : atI (tenL t) (i : Int) = some (ten b) := by rw [atI_ten hl, eb]
    obtain ⟨x', e⟩ := at_loop W w b s (some (Dn i)) h2
    refine ⟨x', ?_⟩
    rw [List.map_cons, u_forL_c]
    have : (sSet [] 0 (eOp gIx (eVar 0) (eVar 2))) [some (ten t), W, some (Dn i)] = .nx [some (ten b), W, some (Dn i)] := by simp [ea]
    simp only [u_gtName, List.set_cons_succ, List.set_cons_zero, this, e]
def rg : T → List Nat → Nat → T
  | t, [i, j], m => T.of (putL t.L i (List.replicate (m + 1) (T.of (putL (t.L.getD i .z).L j []))))
  | t, i :: j :: k :: w, m => T.of (putL t.L i [rg (t.L.getD i .z) (j :: k :: w) m])
  | _, _, _ => .z
theorem rg_two {t b : T} {i j m : Nat} (h : t.L[i]? = some b) : rg t [i, j] m = T.of (putL t.L i (List.replicate (m + 1) (T.of (putL b.L j [])))) := by
  rw [rg, List.getD_eq_getElem?_getD, h]; rfl
theorem rg_more {t b : T} {i m : Nat} {w : List Nat} (h : t.L[i]? = some b) (hw : 2 ≤ w.length) : rg t (i :: w) m = T.of (putL t.L i [rg b w m]) := by
  match w, hw with
  | j :: k :: w, _ => rw [rg, List.getD_eq_getElem?_getD, h]; rfl
def RegOk (k : Nat) (F : Fn) : Prop := ∀ (t : T) (w : List Nat) (m : Nat), 2 ≤ w.length → w.length < k + 2 → sub t w = some .z → t.pts ≤ 1000 → m ≤ 900 → F [ten t, .tuple (w.map Dn), Dn m] = .ok (ten (rg t w m))
theorem regrown_step {S : Nat → Fn} {c0 c1 k : Nat} (h0 : InsOk (S c0)) (h1 : RegOk k (S c1)) : RegOk (k + 1) (fun ds => fnD 6 (G_regrown c0 c1 S) ds) := by
  intro t w m hw hk hs hp hm
  refine fnD_of ?_
  match w, hw, hk, hs with
  | i :: j :: w, hw, hk, hs =>
    obtain ⟨b, b1, b2⟩ := sub_cons_some hs
    have hl : i < t.L.length := (List.getElem?_eq_some_iff.mp b1).1
    have eb : t.L[i] = b := (List.getElem?_eq_some_iff.mp b1).2
    have ea : atI (tenL t) (i : Int) = some (ten b) := by rw [atI_ten hl, eb]
    have bp := T.pts_mem t b (List.mem_of_getElem? b1)
    unfold G_regrown
    match w with
    | [] =>
      obtain ⟨c, c1', c2'⟩ := sub_cons_some b2
      have hl2 : j < b.L.length := (List.getElem?_eq_some_iff.mp c1').1
      have e1 := h0.tree (t := b) (bs := []) hl2 (by omega) (by simp)
      have e2 := h0.tree (t := t) (bs := List.replicate (m + 1) (T.of (putL b.L j []))) hl (by omega) (by simp; omega)
      have er : (List.replicate ((m : Int) + 1).toNat [ten (T.of (putL b.L j []))]).flatten = (List.replicate (m + 1) (T.of (putL b.L j []))).map ten := by
        rw [show ((m : Int) + 1).toNat = m + 1 by omega, List.map_replicate]
        have : ∀ n, (List.replicate n [ten (T.of (putL b.L j []))]).flatten = List.replicate n (ten (T.of (putL b.L j []))) := fun n => by
          induction n with
          | zero => rfl
          | succ n ih => rw [List.replicate_succ, List.flatten_cons, ih]; rfl
        exact this _
      have ok : okRep ((m : Int) + 1) 1 = true := by
        unfold okRep
        have : (2 : Nat) ^ 62 = 4611686018427387904 := by decide
        rw [decide_eq_true (by omega), decide_eq_true (by omega)]; rfl
      have e3 : ((1 : Int) + 1) = 2 := rfl
      rw [rg_two b1]
      rw [List.map_replicate] at e2 er
      simp only [List.map_nil] at e1
      simp [ea, e1, ok, er, e2]
    | k' :: w' =>
      have e3 := h1 b (j :: k' :: w') m (by simp) (by simp at hk ⊢; omega) b2 (by omega) hm
      have e2 := h0.tree (t := t) (bs := [rg b (j :: k' :: w') m]) hl (by omega) (by simp)
      have ne : ¬ ((w'.length : Int) + 1 + 1 + 1 = 2) := by omega
      have ct : Pu.cutD (Dn i :: Dn j :: Dn k' :: w'.map Dn) (some 1) none = Dn j :: Dn k' :: w'.map Dn := cut_tl _ _
      rw [rg_more b1 (by simp)]
      simp only [List.map_cons, List.map_nil] at e2 e3
      simp [ea, ne, ct, e3, e2]
end Nm
set_option Elab.async false
set_option linter.all false
set_option maxRecDepth 100000
set_option maxHeartbeats 4000000
set_option exponentiation.threshold 20
namespace Nm
open PySem Pu O L2
theorem fnD_errE {N : Nat} {g : Vars → Out} {ds : List PyData} {c : Str} (h : ∃ ρ, g (ds.map some ++ List.replicate (N - ds.length) none) = .err c ρ) : fnD N g ds = .err c := by
  obtain ⟨ρ, h⟩ := h
  unfold fnD; rw [h]
theorem big_log {m : Nat} (h : m < 2 ^ 300) : (m : Int).natAbs.log2 < 300 := log2_lt (by simpa using h) (by decide)
theorem map_init {α β : Type} (f : α → β) (w : List α) : Pu.cutD (w.map f) none (some (-1)) = (w.take (w.length - 1)).map f := by
  rw [cut_init, List.length_map, List.map_take]
structure CutOk (k : Nat) (F : Fn) : Prop where
  noHead : ∀ (t : T) (d e : PyData) (_ : t.pts ≤ 1000) (_ : ∀ w, d = .tuple w → ¬ (w ≠ [] ∧ subD t w = some .z)) (hf : fnB d = false ∧ ∀ w, d = .tuple w → ∀ e ∈ w, fnB e = false), F [ten t, d, e] = .err "NoHead"
  noNum : ∀ (t : T) (w : List Nat) (e : PyData) (_ : t.pts ≤ 1000) (_ : w ≠ []) (_ : sub t w = some .z) (_ : isiB "int" e = false ∨ isiB "bool" e = true ∨ ∃ i : Int, e = .int i ∧ i < 0) (hf : fnB e = false := by first | rfl | assumption), F [ten t, .tuple (w.map Dn), e] = .err "NoNumber"
  one : ∀ (t : T) (j m : Nat), t.pts ≤ 1000 → sub t [j] = some .z → F [ten t, .tuple [Dn j], Dn m] = .ok (ten (T.of (putL t.L j [])))
  great : ∀ (t b : T) (w : List Nat) (m : Nat), t.pts ≤ 1000 → t.dp < k → 2 ≤ w.length → sub t w = some .z → sub t (w.take (w.length - 1)) = some b → m < 2 ^ 300 → 600 < t.pts - 1 + m * (b.pts - 1) → F [ten t, .tuple (w.map Dn), Dn m] = .err "TooGreat"
  grow : ∀ (t b : T) (w : List Nat) (m : Nat), t.pts ≤ 1000 → t.dp < k → 2 ≤ w.length → sub t w = some .z → sub t (w.take (w.length - 1)) = some b → t.pts - 1 + m * (b.pts - 1) ≤ 600 → F [ten t, .tuple (w.map Dn), Dn m] = .ok (ten (rg t w m))
theorem below_pts {t b : T} {w : List Nat} (hw : 1 ≤ w.length) (h : sub t w = some .z) (hb : sub t (w.take (w.length - 1)) = some b) : 2 ≤ b.pts := by
  obtain ⟨u, h1, h2⟩ := sub_take (w.length - 1) h
  rw [hb] at h1
  cases h1
  have := sub_pts h2
  rw [List.length_drop] at this
  have e : T.z.pts = 1 := rfl
  omega
theorem head_yes {F : Fn} (h : HeadOk F) {t : T} {w : List Nat} (hp : t.pts ≤ 1000) (hw : w ≠ []) (hs : sub t w = some .z) : F [ten t, .tuple (w.map Dn)] = .ok (.bool true) := by
  rw [h.tup t _ (by omega), subD_Dn, hs]
  have : w.map Dn ≠ [] := fun z => hw (List.map_eq_nil_iff.mp z)
  first | (simp [this]; done) | (simp [this]; exact hw)
theorem cut_tail_eq {S : Nat → Fn} {c0 c1 c2 c3 c4 k : Nat} (h0 : HeadOk (S c0)) (h1 : WhoOk (S c1)) (h3 : PtsOk k (S c3)) {t b : T} {w : List Nat} {m : Nat} (hp : t.pts ≤ 1000) (hk : t.dp < k) (hw : 2 ≤ w.length) (hs : sub t w = some .z) (hb : sub t (w.take (w.length - 1)) = some b) (hm : m < 2 ^ 300) :
    ∃ x, G_cut c0 c1 c2 c3 c4 S [some (ten t), some (.tuple (w.map Dn)), some (Dn m), none, none] = (if 600 < t.pts - 1 + m * (b.pts - 1) then Out.err "TooGreat" [some (ten t), some (.tuple (w.map Dn)), some (Dn m), some (ten b), x] else
      (sRet (eFn (S c4) (aCons (eVar 0) (aCons (eVar 1) (aCons (eVar 2) aNil))))) [some (ten t), some (.tuple (w.map Dn)), some (Dn m), some (ten b), x]) := by
  have e0 := head_yes h0 hp (by intro z; rw [z] at hw; simp at hw) hs
  have e1 : S c1 [Dn m] = .ok (.bool true) := h1.yes (Int.natCast_nonneg m)
  have ne : ¬ ((w.length : Int) = 1) := by omega
  have ci : Pu.cutD (w.map Dn) none (some (-1)) = (w.take (w.length - 1)).map Dn := map_init Dn w
  obtain ⟨x, el⟩ := at_loop (some (.tuple (w.map Dn))) (w.take (w.length - 1)) t b none hb
  have bd : b.dp < k := by have := sub_len hb; omega
  have e3 := h3 t hk
  have e4 := h3 b bd
  have bp := below_pts (by omega) hs hb
  have tp := T.pts_pos t
  have bp2 := sub_pts hb
  have el' : ∃ x, forL (gtName 4) (sSet [] 3 (eOp gIx (eVar 3) (eVar 4))) ((w.take (w.length - 1)).map Dn) [some (ten t), some (.tuple (w.map Dn)), some (Dn m), some (ten t), none] = .nx [some (ten t), some (.tuple (w.map Dn)), some (Dn m), some (ten b), x] := by
    have go : ∀ (v : List Nat) (u s : T) (x : Option PyData), sub u v = some s → ∃ x', forL (gtName 4) (sSet [] 3 (eOp gIx (eVar 3) (eVar 4))) (v.map Dn) [some (ten t), some (.tuple (w.map Dn)), some (Dn m), some (ten u), x] = .nx [some (ten t), some (.tuple (w.map Dn)), some (Dn m), some (ten s), x'] := by
      intro v
      induction v with
      | nil => intro u s x h; cases h; exact ⟨x, rfl⟩
      | cons i v ih =>
        intro u s x h
        obtain ⟨b, b1, b2⟩ := sub_cons_some h
        have hl : i < u.L.length := (List.getElem?_eq_some_iff.mp b1).1
        have eb : u.L[i] = b := (List.getElem?_eq_some_iff.mp b1).2
        have ea : atI (tenL u) (i : Int) = some (ten b) := by rw [atI_ten hl, eb]
        obtain ⟨x', e⟩ := ih b s (some (Dn i)) b2
        refine ⟨x', ?_⟩
        rw [List.map_cons, u_forL_c]
        have : (sSet [] 3 (eOp gIx (eVar 3) (eVar 4))) [some (ten t), some (.tuple (w.map Dn)), some (Dn m), some (ten u), some (Dn i)] = .nx [some (ten t), some (.tuple (w.map Dn)), some (Dn m), some (ten b), some (Dn i)] := by simp [ea]
        simp only [u_gtName, List.set_cons_succ, List.set_cons_zero, this, e]
    exact go _ _ _ _ hb
  obtain ⟨x, el'⟩ := el'
  rw [List.map_take] at el'
  have cm : cMul (m : Int) (((b.pts : Nat) : Int) - 1) = true := by
    refine decide_eq_true ?_
    have a1 := big_log hm
    have a2 : (((b.pts : Nat) : Int) - 1).natAbs.log2 < 20 := log2_lt (by have : (2 : Nat) ^ 20 = 1048576 := by decide
                                                                          omega) (by decide)
    omega
  refine ⟨x, ?_⟩
  have ec : ((600 : Int) < ((t.pts : Nat) : Int) - 1 + (m : Int) * (((b.pts : Nat) : Int) - 1)) ↔ 600 < t.pts - 1 + m * (b.pts - 1) := by
    have q1 : ((t.pts : Nat) : Int) - 1 = ((t.pts - 1 : Nat) : Int) := by omega
    have q2 : ((b.pts : Nat) : Int) - 1 = ((b.pts - 1 : Nat) : Int) := by omega
    rw [q1, q2, ← Int.natCast_mul, ← Int.natCast_add]
    omega
  unfold G_cut
  by_cases c : 600 < t.pts - 1 + m * (b.pts - 1)
  · rw [if_pos c]
    have c' := ec.mpr c
    simp [e0, e1, ne, ci, el', e3, e4, cm, c']
  · rw [if_neg c]
    have c' : ¬ _ := fun z => c (ec.mp z)
    simp [e0, e1, ne, ci, el', e3, e4, cm, c']
theorem cut_step {S : Nat → Fn} {c0 c1 c2 c3 c4 k : Nat} (h0 : HeadOk (S c0)) (h1 : WhoOk (S c1)) (h2 : InsOk (S c2)) (h3 : PtsOk k (S c3)) (h4 : RegOk k (S c4)) : CutOk k (fun ds => fnD 5 (G_cut c0 c1 c2 c3 c4 S) ds) where
  noHead := fun t d e hp hd hf => by
    refine fnD_errE ⟨[some (ten t), some d, some e, none, none], ?_⟩
    have e0 : S c0 [ten t, d] = .ok (.bool false) := by
      by_cases c : isiB "tuple" d = false
      · exact h0.no t d c hf.1
      · cases d with
        | tuple w =>
          rw [h0.tup t w (by omega) (hf.2 w rfl)]
          rw [decide_eq_false (hd w rfl)]
        | _ => exact absurd rfl c
    unfold G_cut
    simp [e0]
  noNum := fun t w e hp hw hs he hf => by
    refine fnD_errE ⟨[some (ten t), some (.tuple (w.map Dn)), some e, none, none], ?_⟩
    have e0 := head_yes h0 hp hw hs
    have e1 : S c1 [e] = .ok (.bool false) := by
      rcases he with he | he | ⟨i, rfl, hi⟩
      · exact h1.no e (.inl he)
      · exact h1.no e (.inr he)
      · rw [h1.int, decide_eq_false (by omega)]
    unfold G_cut
    simp [e0, e1]
  one := fun t j m hp hs => by
    refine fnD_of ?_
    have e0 := head_yes h0 hp (w := [j]) (by simp) hs
    have e1 : S c1 [Dn m] = .ok (.bool true) := h1.yes (Int.natCast_nonneg m)
    obtain ⟨b, b1, b2⟩ := sub_cons_some hs
    have e2 := h2.tree (t := t) (bs := []) (List.getElem?_eq_some_iff.mp b1).1 (by omega) (by simp)
    simp only [List.map_cons, List.map_nil] at e0 e2
    unfold G_cut
    simp [e0, e1, e2]
  great := fun t b w m hp hk hw hs hb hm hg => by
    refine fnD_errE ?_
    obtain ⟨x, e⟩ := cut_tail_eq (c2 := c2) (c4 := c4) h0 h1 h3 hp hk hw hs hb hm
    rw [if_pos hg] at e
    exact ⟨_, e⟩
  grow := fun t b w m hp hk hw hs hb hg => by
    refine fnD_of ?_
    have bp := below_pts (by omega) hs hb
    have tp := T.pts_pos t
    have m6 : m ≤ 600 := by
      have : m * 1 ≤ m * (b.pts - 1) := Nat.mul_le_mul (Nat.le_refl m) (by omega)
      omega
    obtain ⟨x, e⟩ := cut_tail_eq (c2 := c2) (c4 := c4) h0 h1 h3 hp hk hw hs hb (m := m) (Nat.lt_of_le_of_lt m6 (by decide))
    rw [if_neg (by omega)] at e
    have hl := sub_len hs
    have e4 := h4 t w m hw (by omega) hs hp (by omega)
    refine e.trans ?_
    simp [e4]
end Nm
set_option Elab.async false
set_option linter.all false
set_option maxRecDepth 100000
set_option maxHeartbeats 4000000
set_option exponentiation.threshold 20
namespace Nm
open PySem Pu O L2
theorem putL_mem {α : Type} {xs : List α} {j : Nat} {ys : List α} {x : α} (h : x ∈ putL xs j ys) : x ∈ xs ∨ x ∈ ys := by
  unfold putL at h
  rcases List.mem_append.mp h with h | h
  · rcases List.mem_append.mp h with h | h
    · exact .inl (List.mem_of_mem_take h)
    · exact .inr h
  · exact .inl (List.mem_of_mem_drop h)
theorem putL_dp {t : T} {j n : Nat} {bs : List T} (ht : t.dp ≤ n) (hb : ∀ b ∈ bs, b.dp + 1 ≤ n) : (T.of (putL t.L j bs)).dp ≤ n := T.dp_of fun b h => by
  rcases putL_mem h with h | h
  · have := T.dp_mem t b h; omega
  · exact hb b h
theorem rg_dp : ∀ (w : List Nat) (t : T) (m : Nat), 2 ≤ w.length → sub t w = some .z → (rg t w m).dp ≤ t.dp
  | [], t, m, h, _ => by simp at h
  | [_], t, m, h, _ => by simp at h
  | [i, j], t, m, _, hs => by
    obtain ⟨b, b1, b2⟩ := sub_cons_some hs
    have hb := T.dp_mem t b (List.mem_of_getElem? b1)
    rw [rg_two b1]
    refine putL_dp (Nat.le_refl _) fun c hc => ?_
    have : c = T.of (putL b.L j []) := (List.mem_replicate.mp hc).2
    subst this
    have := putL_dp (t := b) (j := j) (n := b.dp) (bs := []) (Nat.le_refl _) (fun _ h => by cases h)
    omega
  | i :: j :: k :: w, t, m, _, hs => by
    obtain ⟨b, b1, b2⟩ := sub_cons_some hs
    have hb := T.dp_mem t b (List.mem_of_getElem? b1)
    rw [rg_more b1 (by simp)]
    have ih := rg_dp (j :: k :: w) b m (by simp) b2
    refine putL_dp (Nat.le_refl _) fun c hc => ?_
    simp at hc
    subst hc
    omega
end Nm
set_option Elab.async false
set_option linter.all false
set_option maxRecDepth 100000
set_option maxHeartbeats 4000000
set_option exponentiation.threshold 20
namespace Nm
open PySem Pu O L2
end Nm
set_option Elab.async false
set_option linter.all false
set_option maxRecDepth 100000
set_option maxHeartbeats 4000000
set_option exponentiation.threshold 20
namespace Nm
open PySem Pu O L2
abbrev lwB (F : Fn) : Vars → Out := (sSeq (sIf (tOf (eOp gGt (eOp gMod (eVar 0) (eVar 1)) (eC (.int 0)))) (sSet [] 2 (eOp gAdd (eTup (aCons (eTup (aCons (eFn F (aCons (eVar 3) (aCons (eVar 1) aNil))) (aCons (eOp gMod (eVar 0) (eVar 1)) aNil))) aNil)) (eVar 2))) sNil) (sSeq (sSet [] 0 (eOp gDiv (eVar 0) (eVar 1))) (sSet [] 3 (eOp gAdd (eVar 3) (eC (.int 1))))))
end Nm
set_option Elab.async false
set_option linter.all false
set_option maxRecDepth 100000
set_option maxHeartbeats 4000000
namespace Nm
open PySem Pu O L2
end Nm
set_option Elab.async false
set_option linter.all false
set_option maxRecDepth 100000
set_option maxHeartbeats 4000000
namespace Nm
open PySem Pu O L2
theorem rz_cases {e : O} {n : Int} {P : O → Prop} (h0 : n = 0 → P .z) (h1 : n ≠ 0 → P (.c e n .z)) : P (rzO e n) := by
  unfold rzO
  by_cases c : n = 0
  · rw [if_pos c]; exact h0 c
  · rw [if_neg c]; exact h1 c
end Nm
set_option Elab.async false
set_option linter.all false
set_option maxRecDepth 100000
set_option maxHeartbeats 4000000
namespace Nm
open PySem Pu O L2
theorem lim_sub {L : O} {f s : O} {d : Int} (h : Lim (.c f d s)) : f ≠ .z ∧ Lim s := ⟨h (f, d) (by show _ ∈ (f, d) :: s.parts; simp), fun p hp => h p (by show p ∈ (f, d) :: s.parts; simp [hp])⟩
theorem lw {k : Int} (hk : 0 ≤ k) : ∀ {L : O}, Lim L → noW (plusO L (rzO .z k)) = L ∧ wpO (plusO L (rzO .z k)) = k
  | .z, _ => by
    rw [plus_z]
    exact rz_cases (P := fun y => noW y = .z ∧ wpO y = k) (fun h => ⟨rfl, h.symm⟩) (fun _ => ⟨noW_z, wp_z⟩)
  | .c f d s, h => by
    obtain ⟨fz, ls⟩ := lim_sub (L := .z) h
    have ih := lw hk ls
    by_cases k0 : k = 0
    · have h0 : rzO .z k = .z := if_pos k0
      rw [h0]
      show noW (.c f d s) = _ ∧ wpO (.c f d s) = k
      have := lim_wp h
      exact ⟨this.2, by rw [this.1, k0]⟩
    · have h0 : rzO .z k = .c .z k .z := if_neg k0
      rw [h0] at ih ⊢
      rw [plus_gt (cmp_gt.mpr (z_lt fz)), noW_c fz, wp_c fz, ih.1, ih.2]
      exact ⟨rfl, rfl⟩
end Nm
set_option Elab.async false
set_option linter.all false
set_option maxRecDepth 100000
set_option maxHeartbeats 4000000
namespace Nm
open PySem Pu O L2
def Le (x y : O) : Prop := x = y ∨ cmp x y = -1
theorem Le.trans {x y w : O} (h : Le x y) (k : Le y w) : Le x w := by
  rcases h with h | h
  · rw [h]; exact k
  · rcases k with k | k
    · rw [← k]; exact Or.inr h
    · exact Or.inr (lt_trans h k)
end Nm
set_option Elab.async false
set_option linter.all false
set_option maxRecDepth 100000
set_option maxHeartbeats 4000000
namespace Nm
open PySem Pu O L2
theorem Sz.sub {H L K Z C M : Nat} {a : O} (x : Sz H L K Z C M a) {qs : List (O × Int)} (s : qs.Sublist a.parts) : Sz H L Z Z C M (of qs) where
  nf := nf_sub (ps := a.parts) (by rw [of_parts]; exact x.nf) s
  h := h_of.mpr fun p hp => (h_parts a).mp x.h p (s.subset hp)
  ll := by rw [len_of]; have := s.length_le; rw [len_parts] at this; have := x.ll; omega
  k := by have := size_sub s; rw [of_parts] at this; have := hd_size (of qs); have := x.s; omega
  s := by have := size_sub s; rw [of_parts] at this; have := x.s; omega
  cs := fun p hp => by rw [parts_of] at hp; exact x.cs p (s.subset hp)
  m := by have := mx_sub (ps := a.parts) (mx_nonneg a) (by rw [of_parts]; exact Int.le_refl _) s; have := x.m; omega
end Nm
set_option Elab.async false
set_option linter.all false
set_option maxRecDepth 100000
set_option maxHeartbeats 4000000
namespace Nm
open PySem Pu O L2
end Nm
set_option Elab.async false
set_option linter.all false
set_option maxRecDepth 100000
namespace Pu
open PySem
end Pu
set_option Elab.async false
set_option linter.all false
set_option maxRecDepth 100000
set_option maxHeartbeats 4000000
namespace Nm
open PySem Pu O L2
end Nm
set_option Elab.async false
set_option linter.all false
set_option maxRecDepth 100000
set_option maxHeartbeats 4000000
namespace Nm
open PySem Pu O L2
abbrev dT (F : Fn) : Vars → R Bool := tAndR (tOf (eOp gLt (eVar 4) (eCall gLen (aCons (eVar 0) aNil)))) (tOf (eOp gGt (eFn F (aCons (eOp gIx (eOp gIx (eVar 0) (eVar 4)) (eC (.int 0))) (aCons (eVar 2) aNil))) (eC (.int 0))))
end Nm
set_option Elab.async false
set_option linter.all false
set_option maxRecDepth 100000
namespace Pu
open PySem
end Pu
set_option Elab.async false
set_option linter.all false
set_option maxRecDepth 100000
set_option maxHeartbeats 4000000
namespace Nm
open PySem Pu O L2
structure Low (a r : O) : Prop where
  nf : NF r
  lt : cmp r a = -1
  h : r.h ≤ a.h + 2
  ll : r.len ≤ a.len + 4
  s : r.size ≤ (a.h + 1) * (a.size + 65)
  m : mx r ≤ max (mx a) 1000000000000000
end Nm
set_option Elab.async false
set_option linter.all false
set_option maxRecDepth 100000
set_option maxHeartbeats 4000000
namespace Nm
open PySem Pu O L2
theorem lt_h : ∀ {x a : O}, NF x → cmp x a = -1 → x.h ≤ a.h
  | .z, _, _, _ => Nat.zero_le _
  | .c e n r, .z, _, h => by simp [cmp] at h
  | .c e n r, .c f m s, nx, h => by
    have t := nf_tail nx
    have h1 : (O.c f m s).h = max (f.h + 1) s.h := rfl
    have he : e.h ≤ f.h := by
      rcases cmp_c.mp h with q | ⟨q, _⟩
      · exact lt_h t.2.1 q
      · rw [q]; exact Nat.le_refl _
    have hr : r.h ≤ (O.c f m s).h := by
      cases hr : r with
      | z => exact Nat.zero_le _
      | c g k u =>
        rw [← hr]
        refine lt_h t.1 ?_
        have g1 := t.2.2.2 (g, k) (by rw [hr]; show _ ∈ (g, k) :: u.parts; simp)
        rw [hr]
        refine cmp_lt_head ?_
        rcases cmp_c.mp h with q | ⟨q, _⟩
        · exact lt_trans (cmp_gt.mp g1) q
        · rw [← q]; exact cmp_gt.mp g1
    show max (e.h + 1) r.h ≤ _
    omega
theorem Sz.low {H L K Z C M : Nat} {a r : O} (x : Sz H L K Z C M a) (l : Low a r) (hM : 50 ≤ M) : Sz H (L + 4) ((H + 1) * (Z + 65)) ((H + 1) * (Z + 65)) M M r := by
  have hm : mx r < 2 ^ M := by
    have h1 := x.m
    have h2 := l.m
    have : (2 : Int) ^ 50 ≤ 2 ^ M := by exact_mod_cast Nat.pow_le_pow_right (show 0 < 2 by decide) hM
    have h3 : (1000000000000000 : Int) < 2 ^ 50 := by decide
    omega
  have hs : r.size ≤ (H + 1) * (Z + 65) := Nat.le_trans l.s (Nat.mul_le_mul (by have := x.h; omega) (by have := x.s; omega))
  exact ⟨l.nf, Nat.le_trans (lt_h l.nf l.lt) x.h, by have := l.ll; have := x.ll; omega, Nat.le_trans (hd_size r) hs, hs, cs_of_mx l.nf hm, hm⟩
theorem Sz.ins {H L K Z C M E : Nat} {a e : O} {n : Int} (x : Sz H L K Z C M a) (ne : NF e) (eh : e.h + 1 ≤ H) (es : e.size ≤ E) (em : mx e < 2 ^ M) (n1 : 1 ≤ n) (nm : n < 2 ^ M) : Sz H (L + 1) (Z + 1 + E) (Z + 1 + E) M M (insO a e n) := by
  have nf := ins_nf a e n x.nf ne n1
  have hs : (insO a e n).size ≤ Z + 1 + E := by have := ins_size a e n; have := x.s; omega
  have hm : mx (insO a e n) < 2 ^ M := by
    have := x.m
    have := ins_mx (a := a) (e := e) (n := n) (B := 2 ^ M - 1) (by omega) (by omega) (by omega)
    omega
  exact ⟨nf, ins_h x.h eh, by have := ins_len a e n; have := x.ll; omega, Nat.le_trans (hd_size _) hs, hs, cs_of_mx nf hm, hm⟩
end Nm
set_option Elab.async false
set_option linter.all false
set_option maxRecDepth 100000
namespace Pu
open PySem
end Pu
set_option Elab.async false
set_option linter.all false
set_option maxRecDepth 100000
set_option maxHeartbeats 4000000
namespace Nm
open PySem Pu O L2
end Nm
set_option Elab.async false
set_option linter.all false
set_option maxRecDepth 100000
set_option maxHeartbeats 4000000
namespace Nm
open PySem Pu O L2
end Nm
set_option Elab.async false
set_option linter.all false
set_option maxRecDepth 100000
set_option maxHeartbeats 4000000
set_option exponentiation.threshold 20
namespace Nm
open PySem Pu O L2
end Nm
set_option Elab.async false
set_option linter.all false
set_option maxRecDepth 100000
set_option maxHeartbeats 4000000
set_option exponentiation.threshold 20
namespace Nm
open PySem Pu O L2
def wd : O → Nat
  | .z => 0
  | .c e _ r => max (wd e) (max (r.len + 1) (wd r))
theorem len_wd : ∀ a : O, a.len ≤ wd a
  | .z => Nat.le_refl _
  | .c e n r => by show r.len + 1 ≤ max (wd e) (max (r.len + 1) (wd r)); omega
end Nm
set_option Elab.async false
set_option linter.all false
set_option maxRecDepth 100000
set_option maxHeartbeats 4000000
set_option exponentiation.threshold 20
namespace Nm
open PySem Pu O L2
mutual
def tid : PyData → Bool
  | .int _ => true
  | .tuple xs => tids xs
  | _ => false
def tids : List PyData → Bool
  | [] => true
  | x :: xs => tid x && tids xs
end
def AlkD (k : Nat) (F : Fn) : Prop := ∀ d : PyData, tid d = true → d.depth < k → F [d, d] = .ok (.bool true)
theorem ten_tid : ∀ t : T, tid (ten t) = true
  | .z => by simp [tid, tids]
  | .c b r => by
    have h1 := ten_tid b
    have h2 := ten_tid r
    simp only [tid] at h1 h2
    simp only [tenL_c, tid, tids, h1, h2, Bool.and_self]
theorem AlkD.tre {k : Nat} {F : Fn} (h : AlkD k F) {t : T} (ht : t.dp + 1 < k) : F [ten t, ten t] = .ok (.bool true) := h _ (ten_tid t) (by rw [ten_depth]; exact ht)
def numO : T → O
  | .z => .z
  | .c b r => mrgO (.c (numO b) 1 .z) (numO r)
theorem one_nf {e : O} (h : NF e) : NF (.c e 1 .z) := nf_mk h (by decide) trivial (by intro q hq; cases hq)
theorem num_nf : ∀ t : T, NF (numO t)
  | .z => trivial
  | .c b r => mrg_nf _ _ (one_nf (num_nf b)) (num_nf r)
theorem num_h : ∀ t : T, (numO t).h ≤ t.dp
  | .z => Nat.le_refl _
  | .c b r => by
    have h1 := num_h b
    have h2 := num_h r
    refine mrg_h (k := (T.c b r).dp) ?_ ?_
    · show max ((numO b).h + 1) 0 ≤ max (b.dp + 1) r.dp; omega
    · show (numO r).h ≤ max (b.dp + 1) r.dp; omega
theorem num_len : ∀ t : T, (numO t).len ≤ t.L.length
  | .z => Nat.le_refl _
  | .c b r => by
    have h2 := num_len r
    have := mrg_len (.c (numO b) 1 .z) (numO r)
    show (mrgO (.c (numO b) 1 .z) (numO r)).len ≤ r.L.length + 1
    have e : (O.c (numO b) 1 .z).len = 1 := rfl
    omega
theorem one_co (e x : O) : sameN (.c e 1 .z) x = if e = x then 1 else 0 := by rw [co_c, co_z]; split <;> rfl
def cntO (l : List T) (x : O) : Int := (l.map fun b => if numO b = x then (1 : Int) else 0).sum
theorem cnt_nil (x : O) : cntO [] x = 0 := rfl
theorem cnt_cons (b : T) (l : List T) (x : O) : cntO (b :: l) x = (if numO b = x then 1 else 0) + cntO l x := by unfold cntO; rw [List.map_cons, List.sum_cons]
theorem cnt_append (l m : List T) (x : O) : cntO (l ++ m) x = cntO l x + cntO m x := by
  induction l with
  | nil => rw [List.nil_append, cnt_nil]; omega
  | cons b l ih => rw [List.cons_append, cnt_cons, cnt_cons, ih]; omega
theorem num_co : ∀ (t : T) (x : O), sameN (numO t) x = cntO t.L x
  | .z, x => rfl
  | .c b r, x => by
    show sameN (mrgO (.c (numO b) 1 .z) (numO r)) x = cntO (b :: r.L) x
    rw [mrg_co, one_co, cnt_cons, num_co r x]
theorem cnt_nonneg (l : List T) (x : O) : 0 ≤ cntO l x := by
  induction l with
  | nil => exact Int.le_refl _
  | cons b l ih => rw [cnt_cons]; split <;> omega
theorem cnt_zero {l : List T} {x : O} (h : ∀ b ∈ l, numO b ≠ x) : cntO l x = 0 := by
  induction l with
  | nil => rfl
  | cons b l ih => rw [cnt_cons, if_neg (h b (by simp)), ih fun c hc => h c (by simp [hc])]; rfl
theorem num_fold (f : O → T → O) (hf : ∀ a b, NF a → f a b = mrgO a (.c (numO b) 1 .z)) : ∀ (l : List T) (a : O), NF a → l.foldl f a = mrgO a (numO (T.of l))
  | [], a, ha => by show a = mrgO a .z; rw [mrg_z]
  | b :: l, a, ha => by
    have h1 := one_nf (num_nf b)
    rw [List.foldl_cons, hf a b ha, num_fold f hf l _ (mrg_nf _ _ ha h1), mrg_assoc ha h1 (num_nf _)]; rfl
theorem foldl_take {f : O → T → O} (hf : ∀ a b, NF a → f a b = mrgO a (.c (numO b) 1 .z)) (l : List T) : l.foldl f .z = numO (T.of l) := by
  rw [num_fold f hf l .z trivial]
  show mrgO .z _ = _
  cases numO (T.of l) <;> simp [mrgO]
theorem num_loop' {G : Vars → Out} {A : Option PyData} {n : Nat} {ok : T → Prop} (hG : ∀ (a : O) (b : T), ok b → NF a → a.h ≤ n → a.len ≤ 800 → G [A, some (enc a), some (ten b)] = .nx [A, some (enc (mrgO a (.c (numO b) 1 .z))), some (ten b)]) :
    ∀ (l : List T) (a : O) (v : Option PyData), (∀ b ∈ l, ok b ∧ b.dp + 1 ≤ n) → NF a → a.h ≤ n → a.len + l.length ≤ 800 →
      ∃ v', forL (gtName 2) G (l.map ten) [A, some (enc a), v] = .nx [A, some (enc (mrgO a (numO (T.of l)))), v']
  | [], a, v, _, _, _, _ => ⟨v, by show Out.nx _ = Out.nx [A, some (enc (mrgO a .z)), v]; rw [mrg_z]⟩
  | b :: l, a, v, h, ha, hh, hl => by
    have hb := h b (by simp)
    have h1 := one_nf (num_nf b)
    have nb := num_h b
    have nl := mrg_len a (.c (numO b) 1 .z)
    have el : (O.c (numO b) 1 .z).len = 1 := rfl
    simp only [List.length_cons] at hl
    have h2 : (mrgO a (.c (numO b) 1 .z)).h ≤ n := mrg_h hh (by show max ((numO b).h + 1) 0 ≤ n; omega)
    obtain ⟨v', e⟩ := num_loop' hG l (mrgO a (.c (numO b) 1 .z)) (some (ten b)) (fun c hc => h c (by simp [hc])) (mrg_nf _ _ ha h1) h2 (by omega)
    refine ⟨v', ?_⟩
    rw [List.map_cons, u_forL_c]
    have e1 := hG a b hb.1 ha hh (by omega)
    simp only [u_gtName, List.set_cons_succ, List.set_cons_zero, e1, e]
    rw [mrg_assoc ha h1 (num_nf _)]; rfl
def insN : O → O → O
  | .z, e => .c e 1 .z
  | .c f n r, e => if cmp e f = 0 then .c f (n + 1) r else if cmp e f = 1 then .c e 1 (.c f n r) else .c f n (insN r e)
theorem ins_mrg : ∀ (a e : O), insN a e = mrgO a (.c e 1 .z)
  | .z, e => by simp [insN, mrgO]
  | .c f n r, e => by
    rw [insN]
    rcases cmp_tri e f with c | c | c
    · rw [if_neg (by omega), if_neg (by omega), mrg_gt (cmp_gt.mpr c), ins_mrg r e]
    · subst c; rw [if_pos (cmp_self e), mrg_eq, mrg_z]
    · rw [if_neg (by omega), if_pos c, mrg_lt (by have := cmp_neg e f; omega), mrg_z]
def thin (n : Nat) : T → Prop
  | .z => True
  | .c b .z => thin n b
  | .c b (.c b' r) => (T.c b (.c b' r)).dp ≤ n
theorem thin_of (n : Nat) : ∀ t : T, t.dp ≤ n → thin n t
  | .z, _ => trivial
  | .c b .z, h => thin_of n b (by have : (T.c b .z).dp = max (b.dp + 1) 0 := rfl
                                  omega)
  | .c b (.c b' r), h => h
def LnumOk (k : Nat) (F : Fn) : Prop := ∀ t : T, t.dp < k → thin 29 t → t.pts ≤ 800 → F [ten t] = .ok (enc (numO t))
theorem cnt_get {l : List T} {j : Nat} {b : T} (h : l[j]? = some b) (x : O) : cntO l x = cntO (l.take j) x + (if numO b = x then 1 else 0) + cntO (l.drop (j + 1)) x := by
  have e : l = l.take j ++ (b :: l.drop (j + 1)) := by
    have h1 : j < l.length := (List.getElem?_eq_some_iff.mp h).1
    have h2 : l[j] = b := (List.getElem?_eq_some_iff.mp h).2
    conv => lhs; rw [← List.take_append_drop j l, List.drop_eq_getElem_cons h1, h2]
  conv => lhs; rw [e]
  rw [cnt_append, cnt_cons]; omega
theorem cnt_put {l : List T} {j : Nat} {b : T} (h : l[j]? = some b) (ys : List T) (x : O) : cntO (putL l j ys) x = cntO l x - (if numO b = x then 1 else 0) + cntO ys x := by
  rw [cnt_get h x]
  unfold putL
  rw [cnt_append, cnt_append]; omega
theorem put_less {t b : T} {j : Nat} {ys : List T} (h : t.L[j]? = some b) (hy : ∀ y ∈ ys, cmp (numO y) (numO b) = -1) : cmp (numO (T.of (putL t.L j ys))) (numO t) = -1 := by
  have z1 : ∀ x, (x = numO b ∨ cmp x (numO b) = 1) → cntO ys x = 0 := fun x hx => cnt_zero fun c hc e => by
    have h1 := hy c hc
    rw [e] at h1
    rcases hx with hx | hx
    · rw [hx, cmp_self] at h1; cases h1
    · omega
  have c1 : ∀ x, sameN (numO (T.of (putL t.L j ys))) x = cntO t.L x - (if numO b = x then 1 else 0) + cntO ys x := fun x => by rw [num_co, T.L_of, cnt_put h]
  refine co_lt (num_nf _) (num_nf _) ⟨numO b, ?_, fun y hc => ?_⟩
  · rw [c1, num_co, z1 _ (.inl rfl), if_pos rfl]; omega
  · rw [c1, num_co, z1 _ (.inr hc), if_neg (fun z => by rw [z, cmp_self] at hc; cases hc)]; omega
theorem one_less {t : T} {j : Nat} (h : sub t [j] = some .z) : cmp (numO (T.of (putL t.L j []))) (numO t) = -1 := by
  obtain ⟨b, b1, _⟩ := sub_cons_some h
  exact put_less b1 fun y hy => by cases hy
theorem rg_less : ∀ (w : List Nat) (t : T) (m : Nat), 2 ≤ w.length → sub t w = some .z → cmp (numO (rg t w m)) (numO t) = -1
  | [], t, m, h, _ => by simp at h
  | [_], t, m, h, _ => by simp at h
  | [i, j], t, m, _, hs => by
    obtain ⟨b, b1, b2⟩ := sub_cons_some hs
    rw [rg_two b1]
    refine put_less b1 fun c hc => ?_
    have : c = T.of (putL b.L j []) := (List.mem_replicate.mp hc).2
    subst this
    exact one_less b2
  | i :: j :: k :: w, t, m, _, hs => by
    obtain ⟨b, b1, b2⟩ := sub_cons_some hs
    rw [rg_more b1 (by simp)]
    refine put_less b1 fun c hc => ?_
    simp at hc
    subst hc
    exact rg_less (j :: k :: w) b m (by simp) b2
end Nm
set_option Elab.async false
set_option linter.all false
set_option maxRecDepth 100000
set_option maxHeartbeats 4000000
set_option exponentiation.threshold 20
namespace Nm
open PySem Pu O L2
theorem sum_get {l : List T} {j : Nat} {b : T} (h : l[j]? = some b) : (l.map T.pts).sum = ((l.take j).map T.pts).sum + b.pts + ((l.drop (j + 1)).map T.pts).sum := by
  have e : l = l.take j ++ (b :: l.drop (j + 1)) := by
    have h1 : j < l.length := (List.getElem?_eq_some_iff.mp h).1
    have h2 : l[j] = b := (List.getElem?_eq_some_iff.mp h).2
    conv => lhs; rw [← List.take_append_drop j l, List.drop_eq_getElem_cons h1, h2]
  conv => lhs; rw [e]
  rw [List.map_append, List.sum_append_nat, List.map_cons, List.sum_cons]; omega
theorem put_pts {t b : T} {j : Nat} (ys : List T) (h : t.L[j]? = some b) : (T.of (putL t.L j ys)).pts + b.pts = t.pts + (ys.map T.pts).sum := by
  have e1 := T.pts_of (putL t.L j ys)
  have e2 := T.pts_of t.L
  rw [T.of_L] at e2
  have e3 := sum_get h
  unfold putL at e1
  rw [List.map_append, List.map_append, List.sum_append_nat, List.sum_append_nat] at e1
  unfold putL
  omega
theorem one_pts {t : T} {j : Nat} (h : sub t [j] = some .z) : (T.of (putL t.L j [])).pts + 1 = t.pts := by
  obtain ⟨b, b1, b2⟩ := sub_cons_some h
  have hb : b = .z := by rw [sub] at b2; exact Option.some.inj b2
  subst hb
  have := put_pts [] b1
  have e : T.z.pts = 1 := rfl
  simp only [List.map_nil, List.sum_nil] at this
  omega
theorem rg_pts : ∀ (w : List Nat) (t b : T) (m : Nat), 2 ≤ w.length → sub t w = some .z → sub t (w.take (w.length - 1)) = some b → (rg t w m).pts + 1 = t.pts + m * (b.pts - 1)
  | [], t, b, m, h, _, _ => by simp at h
  | [_], t, b, m, h, _, _ => by simp at h
  | [i, j], t, b, m, _, hs, hb => by
    obtain ⟨c, c1, c2⟩ := sub_cons_some hs
    have hc : c = b := by
      have : sub t [i] = some b := hb
      rw [sub_cons c1, sub] at this
      exact Option.some.inj this
    subst hc
    rw [rg_two c1]
    have h1 := put_pts (List.replicate (m + 1) (T.of (putL c.L j []))) c1
    have h2 := one_pts c2
    rw [List.map_replicate, List.sum_replicate_nat] at h1
    obtain ⟨p, hp⟩ : ∃ p, (T.of (putL c.L j [])).pts = p := ⟨_, rfl⟩
    rw [hp] at h1 h2
    have h3 : c.pts - 1 = p := by omega
    rw [h3]
    have : (m + 1) * p = m * p + p := Nat.succ_mul m p
    omega
  | i :: j :: k :: w, t, b, m, _, hs, hb => by
    obtain ⟨c, c1, c2⟩ := sub_cons_some hs
    have hb' : sub c ((j :: k :: w).take ((j :: k :: w).length - 1)) = some b := by
      have e : (i :: j :: k :: w).take ((i :: j :: k :: w).length - 1) = i :: ((j :: k :: w).take ((j :: k :: w).length - 1)) := by simp
      rw [e, sub_cons c1] at hb
      exact hb
    rw [rg_more c1 (by simp)]
    have ih := rg_pts (j :: k :: w) c b m (by simp) c2 hb'
    have h1 := put_pts [rg c (j :: k :: w) m] c1
    simp only [List.map_cons, List.map_nil, List.sum_cons, List.sum_nil] at h1
    omega
theorem cut_any {k : Nat} {F : Fn} (h : CutOk k F) {t : T} {w : List Nat} {m : Nat} (hw : w ≠ []) (hs : sub t w = some .z) (hd : t.dp < k) (hp : t.pts + m * t.pts ≤ 600) :
    ∃ c : T, F [ten t, .tuple (w.map Dn), Dn m] = .ok (ten c) ∧ cmp (numO c) (numO t) = -1 ∧ c.dp ≤ t.dp ∧ c.pts ≤ t.pts + m * t.pts := by
  by_cases l1 : w.length = 1
  · obtain ⟨j, rfl⟩ : ∃ j, w = [j] := by
      match w, l1 with
      | [j], _ => exact ⟨j, rfl⟩
    exact ⟨_, h.one t j m (by omega) hs, one_less hs, putL_dp (Nat.le_refl _) (fun _ h => by cases h), by have := one_pts hs; omega⟩
  · have lw : 1 ≤ w.length := Nat.pos_of_ne_zero fun z => hw (List.eq_nil_of_length_eq_zero z)
    have hw2 : 2 ≤ w.length := by omega
    obtain ⟨b, hb, _⟩ := sub_take (w.length - 1) hs
    have bp2 := sub_pts hb
    have hm : m * (b.pts - 1) ≤ m * t.pts := Nat.mul_le_mul (Nat.le_refl m) (by omega)
    exact ⟨_, h.grow t b w m (by omega) hd hw2 hs hb (by omega), rg_less w t m hw2 hs, rg_dp w t m hw2 hs, by have := rg_pts w t b m hw2 hs hb; omega⟩
end Nm
set_option Elab.async false
set_option linter.all false
set_option maxRecDepth 100000
namespace Pu
open PySem
end Pu
set_option Elab.async false
set_option linter.all false
set_option maxRecDepth 100000
set_option maxHeartbeats 4000000
set_option exponentiation.threshold 20
namespace Nm
open PySem Pu O L2
theorem tnt_step {S : Nat → Fn} {c0 c1 c2 k : Nat} (h0 : MrgOk 30 (S c0)) (h1 : LnumOk k (S c1)) (h2 : RaiOk (S c2)) : LnumOk (k + 1) (fun ds => fnD 3 (G_number_of c0 c1 c2 S) ds) := by
  intro t hk ht hp
  refine fnD_of ?_
  unfold G_number_of
  match t, hk, ht, hp with
  | .z, _, _, _ => simp [numO]
  | .c b .z, hk, ht, hp =>
    have hb : b.dp < k := by have : (T.c b .z).dp = max (b.dp + 1) 0 := rfl
                             omega
    have hbp : b.pts ≤ 800 := by have : (T.c b .z).pts = b.pts + 1 := rfl
                                 omega
    have e1 := h1 b hb ht hbp
    have e2 := h2.one (numO b)
    have e3 := h0 .z (.c (numO b) 1 .z) (by decide) (by decide) (by show 1 ≤ 900; decide)
    have en : numO (.c b .z) = .c (numO b) 1 .z := by show mrgO (.c (numO b) 1 .z) .z = _; rw [mrg_z]
    have em : mrgO .z (.c (numO b) 1 .z) = .c (numO b) 1 .z := by simp [mrgO]
    rw [em] at e3
    have e2' : S c2 [PyData.tuple (encL (numO b)), .int 1] = .ok (.tuple [.tuple [enc (numO b), .int 1]]) := e2
    have e3' : S c0 [.tuple [], .tuple [.tuple [enc (numO b), .int 1]]] = .ok (.tuple [.tuple [enc (numO b), .int 1]]) := e3
    rw [en]
    simp [u_forL_c, e1, e2', e3']
  | .c b (.c b' r), hk, ht, hp =>
    obtain ⟨t, htt⟩ : ∃ t, T.c b (.c b' r) = t := ⟨_, rfl⟩
    have hd : t.dp ≤ 29 := by rw [← htt]; exact ht
    rw [htt] at hk hp ⊢
    have hl := T.ln_lt t
    obtain ⟨v', e⟩ := num_loop' (A := some (ten t)) (n := t.dp) (ok := fun b => S c1 [ten b] = .ok (enc (numO b))) (G := sSet [] 1 (eFn (S c0) (aCons (eVar 1) (aCons (eFn (fun ds => S c2 (ds ++ [.int 1])) (aCons (eFn (S c1) (aCons (eVar 2) aNil)) aNil)) aNil)))) (fun a b hb na ha la => by
      have e1 := h2.one (numO b)
      have e2 := h0 a (.c (numO b) 1 .z) (by omega) (by omega) (by show 1 ≤ 900; decide)
      have e1' : S c2 [PyData.tuple (encL (numO b)), .int 1] = .ok (.tuple [.tuple [enc (numO b), .int 1]]) := e1
      have e2' : S c0 [enc a, .tuple [.tuple [enc (numO b), .int 1]]] = .ok (enc (mrgO a (.c (numO b) 1 .z))) := e2
      simp [hb, e1', e2']) t.L .z none (fun b hb => ⟨h1 b (by have := T.dp_mem t b hb; omega) (thin_of _ _ (by have := T.dp_mem t b hb; omega)) (by have := T.pts_mem t b hb; omega), T.dp_mem t b hb⟩) trivial (Nat.zero_le _) (by show 0 + t.L.length ≤ 800; omega)
    have em : mrgO .z (numO (T.of t.L)) = numO t := by
      rw [T.of_L]
      cases numO t <;> simp [mrgO]
    rw [em, ← tenL_L] at e
    have e' : forL (gtName 2) (sSet [] 1 (eFn (S c0) (aCons (eVar 1) (aCons (eFn (fun ds => S c2 (ds ++ [.int 1])) (aCons (eFn (S c1) (aCons (eVar 2) aNil)) aNil)) aNil)))) (tenL t) [some (ten t), some (.tuple []), none] = .nx [some (ten t), some (enc (numO t)), v'] := e
    simp [e']
end Nm
set_option Elab.async false
set_option linter.all false
set_option maxRecDepth 100000
set_option maxHeartbeats 4000000
set_option exponentiation.threshold 20
namespace Nm
open PySem Pu O L2
theorem num_exp : ∀ (t : T) (p : O × Int), p ∈ (numO t).parts → ∃ b ∈ t.L, numO b = p.1
  | .z, p, h => by cases h
  | .c b r, p, h => by
    obtain ⟨q, hq, e⟩ := mrg_exp (.c (numO b) 1 .z) (numO r) p h
    rcases hq with hq | hq
    · simp [O.parts] at hq
      subst hq
      exact ⟨b, by simp [T.L], e⟩
    · obtain ⟨c, hc, e2⟩ := num_exp r q hq
      exact ⟨c, by simp [T.L, hc], e2.trans e⟩
theorem wd_by {n : Nat} : ∀ {a : O}, a.len ≤ n → (∀ p ∈ a.parts, wd p.1 ≤ n) → wd a ≤ n
  | .z, _, _ => Nat.zero_le _
  | .c e m r, hl, h => by
    have h1 := h (e, m) (by simp [O.parts])
    have h2 := wd_by (a := r) (n := n) (by simp only [O.len] at hl; omega) fun p hp => h p (by simp [O.parts, hp])
    simp only [O.len] at hl
    show max (wd e) (max (r.len + 1) (wd r)) ≤ n
    simp only at h1
    omega
theorem num_wd : ∀ (n : Nat) (t : T), t.pts ≤ n → wd (numO t) ≤ n
  | 0, t, h => absurd h (by have := T.pts_pos t; omega)
  | n + 1, t, h => by
    refine wd_by (by have := num_len t; have := T.ln_lt t; omega) fun p hp => ?_
    obtain ⟨b, hb, e⟩ := num_exp t p hp
    rw [← e]
    have := num_wd n b (by have := T.pts_mem t b hb; omega)
    omega
theorem co_exp {a x : O} (h : sameN a x ≠ 0) : ∃ p ∈ a.parts, p.1 = x := by
  have : (a.parts.filter fun p => decide (p.1 = x)) ≠ [] := fun z => h (by unfold sameN; rw [z]; rfl)
  obtain ⟨p, hp⟩ := List.exists_mem_of_ne_nil _ this
  obtain ⟨h1, h2⟩ := List.mem_filter.mp hp
  exact ⟨p, h1, of_decide_eq_true h2⟩
theorem cnt_mem {l : List T} {b : T} (h : b ∈ l) : 1 ≤ cntO l (numO b) := by
  obtain ⟨j, hj⟩ := List.getElem?_of_mem h
  rw [cnt_get hj, if_pos rfl]
  have h1 := cnt_nonneg (l.take j) (numO b)
  have h2 := cnt_nonneg (l.drop (j + 1)) (numO b)
  omega
theorem num_mem {t b : T} (h : b ∈ t.L) : ∃ p ∈ (numO t).parts, p.1 = numO b := co_exp (by rw [num_co]; have := cnt_mem h; omega)
theorem num_z {t : T} : numO t = .z ↔ t = .z := by
  constructor
  · intro h
    cases t with
    | z => rfl
    | c b r =>
      obtain ⟨p, hp, _⟩ := num_mem (t := .c b r) (b := b) (by simp [T.L])
      rw [h] at hp; cases hp
  · intro h; rw [h]; rfl
theorem last_low : ∀ {a : O}, NF a → a ≠ .z → ∀ p ∈ a.parts, p.1 = (lastP a).1 ∨ cmp p.1 (lastP a).1 = 1
  | .z, _, h => absurd rfl h
  | .c e m r, na, _ => fun p hp => by
    have t := nf_tail na
    unfold lastP
    by_cases c : r = .z
    · rw [if_pos c]; subst c
      simp [O.parts] at hp
      subst hp; exact .inl rfl
    · rw [if_neg c]
      rcases List.mem_cons.mp (show p ∈ (e, m) :: r.parts from hp) with h | h
      · subst h
        have := t.2.2.2 _ (List.mem_of_getLast? (last_get c))
        exact .inr this
      · exact last_low t.1 c p h
theorem last_mem {a : O} (h : a ≠ .z) : lastP a ∈ a.parts := List.mem_of_getLast? (last_get h)
structure Least (l : List T) (j : Nat) (b : T) : Prop where
  at' : l[j]? = some b
  low : ∀ (i : Nat) (c : T), l[i]? = some c → ¬ cmp (numO c) (numO b) = -1
  late : ∀ (i : Nat) (c : T), j < i → l[i]? = some c → cmp (numO c) (numO b) = 1
theorem Least.exp {t b : T} {j : Nat} (h : Least t.L j b) : (lastP (numO t)).1 = numO b := by
  have hb := List.mem_of_getElem? h.at'
  have hz : numO t ≠ .z := fun z => by
    have := num_z.mp z
    subst this
    cases hb
  obtain ⟨p, hp, e⟩ := num_mem hb
  obtain ⟨c, hc, e2⟩ := num_exp t _ (last_mem hz)
  obtain ⟨i, hi⟩ := List.getElem?_of_mem hc
  have h1 := h.low i c hi
  rw [e2] at h1
  rcases last_low (num_nf t) hz p hp with h2 | h2
  · rw [← h2, e]
  · rw [e] at h2
    exact absurd (cmp_gt.mp h2) h1
theorem co_parts {a x : O} {ps qs : List (O × Int)} (h : a.parts = ps ++ qs) : sameN a x = sameN (of ps) x + sameN (of qs) x := by
  unfold sameN
  rw [h, O.parts_of, O.parts_of, List.filter_append, List.map_append, List.sum_append]
theorem rung_co {a : O} (n : Int) (az : a ≠ .z) (x : O) : sameN (rung a n) x = sameN a x - (if (lastP a).1 = x then 1 else 0) + sameN (rungX (lastP a).1 n) x := by
  have h1 := co_parts (x := x) (rung_parts n az)
  rw [O.of_parts, O.of_parts] at h1
  have h2 := co_parts (x := x) (predO_parts az)
  rw [O.of_parts] at h2
  have h3 : a.parts = a.parts.take (a.len - 1) ++ [lastP a] := by
    have hl := last_get az
    obtain ⟨ys, e⟩ := List.getLast?_eq_some_iff.mp hl
    have el : a.len = ys.length + 1 := by rw [← O.len_parts, e]; simp
    rw [el, e]; simp
  have h4 := co_parts (x := x) h3
  have h5 : sameN (of [lastP a]) x = if (lastP a).1 = x then (lastP a).2 else 0 := by
    show sameN (.c (lastP a).1 (lastP a).2 .z) x = _
    rw [co_c, co_z]; split <;> omega
  have h6 : sameN (tailP (lastP a).1 (lastP a).2 .z) x = if (lastP a).1 = x then (lastP a).2 - 1 else 0 := by
    unfold tailP
    by_cases c : (lastP a).2 = 1
    · rw [if_pos c, co_z, c]; split <;> rfl
    · rw [if_neg c, co_c, co_z]; split <;> omega
  rw [h1, h2, h6, h4, h5]
  split <;> omega
theorem put_rung {t b : T} {j : Nat} {ys : List T} {n : Int} (hn : 0 ≤ n) (h : Least t.L j b) (hy : ∀ x, cntO ys x = sameN (rungX (numO b) n) x) : numO (T.of (putL t.L j ys)) = rung (numO t) n := by
  have hb := List.mem_of_getElem? h.at'
  have hz : numO t ≠ .z := fun z => by
    have := num_z.mp z
    subst this
    cases hb
  refine co_ext (num_nf _) (rung_below _ n (num_nf t) hz hn).nf fun x => ?_
  rw [num_co, T.L_of, cnt_put h.at', rung_co n hz, num_co, h.exp, hy x]
def LeastW : T → List Nat → Prop
  | t, [] => t = .z
  | t, j :: w => ∃ b, Least t.L j b ∧ LeastW b w
theorem LeastW.sub : ∀ {w : List Nat} {t : T}, LeastW t w → sub t w = some .z
  | [], t, h => by
    have h' : t = .z := h
    rw [h']; rfl
  | j :: w, t, h => by
    obtain ⟨b, h1, h2⟩ := h
    rw [sub_cons h1.at']; exact h2.sub
theorem rungX_z (n : Int) : rungX .z n = .z := if_pos rfl
theorem least_one {t : T} {j : Nat} {n : Int} (hn : 0 ≤ n) (h : LeastW t [j]) : numO (T.of (putL t.L j [])) = rung (numO t) n := by
  obtain ⟨b, h1, h2⟩ := h
  have h2' : b = .z := h2
  subst h2'
  exact put_rung hn h1 fun x => by rw [cnt_nil]; show (0 : Int) = sameN (rungX .z n) x; rw [rungX_z, co_z]
theorem cnt_rep (m : Nat) (b : T) (x : O) : cntO (List.replicate m b) x = if numO b = x then (m : Int) else 0 := by
  induction m with
  | zero => rw [List.replicate_zero, cnt_nil]; split <;> rfl
  | succ m ih => rw [List.replicate_succ, cnt_cons, ih]; split <;> omega
theorem rung_last_z {a : O} (n : Int) (az : a ≠ .z) (h : (lastP a).1 = .z) : rung a n = predO a := by
  refine parts_inj ?_
  rw [rung_parts n az, h, rungX_z]; simp [O.parts]
theorem least_rg : ∀ (w : List Nat) (t : T) (m : Nat), 2 ≤ w.length → LeastW t w → numO (rg t w m) = rung (numO t) ((m : Int) + 1)
  | [], t, m, h, _ => by simp at h
  | [_], t, m, h, _ => by simp at h
  | [i, j], t, m, _, hs => by
    obtain ⟨b, b1, b2⟩ := hs
    rw [rg_two b1.at']
    refine put_rung (by omega) b1 fun x => ?_
    have e1 := least_one (n := 0) (by decide) b2
    obtain ⟨c, c1, c2⟩ := b2
    have c2' : c = .z := c2
    subst c2'
    have hbz : numO b ≠ .z := fun z => by
      have := num_z.mp z
      subst this
      have := c1.at'
      simp [T.L] at this
    have el : (lastP (numO b)).1 = .z := c1.exp
    rw [rung_last_z 0 hbz el] at e1
    have li : isLim (numO b) = false := by rw [isLim_last hbz, el]; rfl
    have ex : rungX (numO b) ((m : Int) + 1) = .c (predO (numO b)) ((m : Int) + 1) .z := by
      unfold rungX
      rw [if_neg hbz, if_neg (by rw [li]; decide), if_neg (by omega)]
    rw [cnt_rep, e1, ex, co_c, co_z]
    split <;> omega
  | i :: j :: k :: w, t, m, _, hs => by
    obtain ⟨b, b1, b2⟩ := hs
    rw [rg_more b1.at' (by simp)]
    have ih := least_rg (j :: k :: w) b m (by simp) b2
    refine put_rung (by omega) b1 fun x => ?_
    obtain ⟨c, c1, c2⟩ := b2
    have hcz : c ≠ .z := fun z => by
      subst z
      obtain ⟨d, d1, _⟩ := c2
      have := d1.at'
      simp [T.L] at this
    have hbz : numO b ≠ .z := fun z => by
      have := num_z.mp z
      subst this
      have := c1.at'
      simp [T.L] at this
    have el : (lastP (numO b)).1 = numO c := c1.exp
    have li : isLim (numO b) = true := by
      rw [isLim_last hbz, el]
      have : numO c ≠ .z := fun z => hcz (num_z.mp z)
      rw [decide_eq_false this]; rfl
    have ex : rungX (numO b) ((m : Int) + 1) = .c (rung (numO b) ((m : Int) + 1)) 1 .z := by
      unfold rungX
      rw [if_neg hbz, if_pos li]
    rw [cnt_cons, cnt_nil, ih, ex, co_c, co_z]
def LplOk (k : Nat) (F : Fn) : Prop := ∀ t : T, t ≠ .z → t.dp < k → t.dp ≤ 29 → t.pts ≤ 800 → ∃ (j : Nat) (b : T), F [ten t] = .ok (Dn j) ∧ Least t.L j b
structure LeastTo (l : List T) (n j : Nat) (b : T) : Prop where
  lt : j < n
  at' : l[j]? = some b
  low : ∀ (i : Nat) (c : T), i < n → l[i]? = some c → ¬ cmp (numO c) (numO b) = -1
  late : ∀ (i : Nat) (c : T), i < n → j < i → l[i]? = some c → cmp (numO c) (numO b) = 1
theorem least_place_step {S : Nat → Fn} {c0 c1 k : Nat} (h0 : LnumOk k (S c0)) (h1 : CmpOk 31 (S c1)) : LplOk k (fun ds => fnD 5 (G_least_place c0 c1 S) ds) := by
  intro t hz hk h29 hp
  have hl := T.ln_lt t
  have l0 : 0 < t.L.length := by
    cases t with
    | z => exact absurd rfl hz
    | c b r => simp [T.L]
  have hbr : ∀ b ∈ t.L, S c0 [ten b] = .ok (enc (numO b)) := fun b hb => by
    have := T.dp_mem t b hb
    exact h0 b (by omega) (thin_of _ _ (by omega)) (by have := T.pts_mem t b hb; omega)
  obtain ⟨N, hN⟩ : ∃ N, t.L.length = N + 1 := ⟨t.L.length - 1, by omega⟩
  have er : rngD 1 N = (List.range N).map fun j => PyData.int (1 + (j : Nat)) := rfl
  obtain ⟨ρ', r1, j, b, y3, y4, L, rfl⟩ := forL_inv (gt := gtName 3) (g := sSeq (sSet [] 4 (eFn (S c0) (aCons (eOp gIx (eVar 0) (eVar 3)) aNil))) (sIf (tOf (eOp gLe (eFn (S c1) (aCons (eVar 4) (aCons (eVar 2) aNil))) (eC (.int 0)))) (sSeq (sSet [] 1 (eVar 3)) (sSet [] 2 (eVar 4))) sNil))
    (fun n ρ => ∃ j b y3 y4, LeastTo t.L (n + 1) j b ∧ ρ = [some (ten t), some (Dn j), some (enc (numO b)), y3, y4])
    (rngD 1 N) 0 [some (ten t), some (Dn 0), some (enc (numO t.L[0])), none, none] ⟨0, t.L[0], none, none, ⟨by omega, List.getElem?_eq_getElem l0, fun i c hi e => by
      have : i = 0 := by omega
      subst this
      rw [List.getElem?_eq_getElem l0] at e
      cases e
      rw [cmp_self]; decide, fun i c hi h0 => by omega⟩, rfl⟩ fun n d ρ hd hi => by
      rw [rngD_get] at hd
      by_cases q : n < N
      · rw [if_pos q] at hd
        cases hd
        obtain ⟨j, b, y3, y4, L, rfl⟩ := hi
        rw [Nat.zero_add] at L
        have hn : n + 1 < t.L.length := by omega
        obtain ⟨c, hc⟩ : ∃ c, t.L[n + 1] = c := ⟨_, rfl⟩
        have ec : t.L[n + 1]? = some c := by rw [List.getElem?_eq_getElem hn, hc]
        have ea : atI (tenL t) (1 + (n : Int)) = some (ten c) := by
          have := atI_ten hn
          rw [hc] at this
          rw [show (1 : Int) + n = ((n + 1 : Nat) : Int) by omega]; exact this
        have e1 := hbr c (List.mem_of_getElem? ec)
        have hcd := T.dp_mem t c (List.mem_of_getElem? ec)
        have hch := num_h c
        have e2 := h1 (numO c) (numO b) (by omega)
        refine ⟨_, (if cmp (numO c) (numO b) ≤ 0 then [some (ten t), some (Dn (n + 1)), some (enc (numO c)), some (.int (1 + (n : Int))), some (enc (numO c))] else [some (ten t), some (Dn j), some (enc (numO b)), some (.int (1 + (n : Int))), some (enc (numO c))]), rfl, Or.inl ?_, ?_⟩
        · by_cases q2 : cmp (numO c) (numO b) ≤ 0
          · rw [if_pos q2]
            have : Dn (n + 1) = .int (1 + (n : Int)) := by
              show PyData.int _ = PyData.int _
              congr 1; omega
            rw [this]
            simp [ea, e1, e2, q2]
          · rw [if_neg q2]
            simp [ea, e1, e2, q2]
        · rw [Nat.zero_add]
          by_cases q2 : cmp (numO c) (numO b) ≤ 0
          · rw [if_pos q2]
            refine ⟨n + 1, c, _, _, ⟨by omega, ec, fun i d hi e => ?_, fun i d hi hj e => by omega⟩, rfl⟩
            by_cases q3 : i = n + 1
            · subst q3
              rw [ec] at e; cases e
              rw [cmp_self]; decide
            · have h5 := L.low i d (by omega) e
              intro h6
              rcases cmp_tri (numO c) (numO b) with c1 | c1 | c1
              · exact h5 (lt_trans h6 c1)
              · rw [c1] at h6; exact h5 h6
              · omega
          · rw [if_neg q2]
            have c1 : cmp (numO c) (numO b) = 1 := by rcases cmp_range (numO c) (numO b) with z | z | z <;> omega
            refine ⟨j, b, _, _, ⟨by have := L.lt; omega, L.at', fun i d hi e => ?_, fun i d hi hj e => ?_⟩, rfl⟩
            · by_cases q3 : i = n + 1
              · subst q3
                rw [ec] at e; cases e
                omega
              · exact L.low i d (by omega) e
            · by_cases q3 : i = n + 1
              · subst q3
                rw [ec] at e; cases e
                exact c1
              · exact L.late i d (by omega) hj e
      · rw [if_neg q] at hd; cases hd
  rw [rngD_len, Nat.zero_add] at L
  refine ⟨j, b, fnD_of ?_, ⟨L.at', fun i c e => L.low i c (by have := (List.getElem?_eq_some_iff.mp e).1; omega) e, fun i c hi e => L.late i c (by have := (List.getElem?_eq_some_iff.mp e).1; omega) hi e⟩⟩
  have e0 : atI (tenL t) 0 = some (ten t.L[0]) := atI_ten (j := 0) l0
  have e1 := hbr t.L[0] (List.getElem_mem l0)
  have ok1 : okI 1 = true := by decide
  have ok2 : okI ((t.L.length : Nat) : Int) = true := okI_small (by omega) (by omega)
  have en : (((t.L.length : Nat) : Int) - 1).toNat = N := by omega
  have ok2' : okI ((N : Int) + 1) = true := okI_small (by omega) (by omega)
  unfold G_least_place
  rw [u_sSeq]
  have s0 : (sSet [] 1 (eC (.int 0))) (List.map some [ten t] ++ List.replicate (5 - [ten t].length) none) = .nx [some (ten t), some (.int 0), none, none, none] := by simp
  rw [s0, Out.then_nx, u_sSeq]
  have s1 : (sSet [] 2 (eFn (S c0) (aCons (eOp gIx (eVar 0) (eC (.int 0))) aNil))) [some (ten t), some (.int 0), none, none, none] = .nx [some (ten t), some (.int 0), some (enc (numO t.L[0])), none, none] := by simp [e0, e1]
  rw [s1, Out.then_nx, u_sSeq, u_sFor]
  have s2 : (iRange (aCons (eC (.int 1)) (aCons (eCall gLen (aCons (eVar 0) aNil)) aNil))) (mask [] [some (ten t), some (.int 0), some (enc (numO t.L[0])), none, none]) = .ok (rngD 1 N) := by
    simp only [mask_nil, u_iRange, u_aCons, u_aNil, u_eC, u_eCall, u_eVar, List.getD_cons_zero, R.of_some, R.bind_ok, u_gLen_t, tenL_len, ok1, ok2, Bool.and_self, if_true, en]
  rw [s2, R.run_ok]
  refine Eq.trans (congrArg (fun o => Out.then o _) r1) ?_
  rw [Out.then_nx]
  simp
structure LhOk (k : Nat) (F : Fn) : Prop where
  yes : ∀ t : T, t ≠ .z → t.dp < k → t.dp ≤ 29 → t.pts ≤ 800 → ∃ w : List Nat, F [ten t] = .ok (.tuple (w.map Dn)) ∧ w ≠ [] ∧ LeastW t w
  no : F [.tuple []] = .err "Nought"
abbrev lsB (S : Nat → Fn) (c0 : Nat) : Vars → Out := (sSeq (sSet [] 2 (eFn (S c0) (aCons (eVar 0) aNil))) (sSeq (sSet [] 1 (eOp gAdd (eVar 1) (eTup (aCons (eVar 2) aNil)))) (sSet [] 0 (eOp gIx (eVar 0) (eVar 2)))))
abbrev lsT : Vars → R Bool := (tOf (eOp gGt (eCall gLen (aCons (eVar 0) aNil)) (eC (.int 0))))
theorem ls_loop {S : Nat → Fn} {c0 k : Nat} (h : LplOk k (S c0)) : ∀ (n f : Nat) (t : T) (v : List Nat) (x : Option PyData), t.dp ≤ n → n ≤ f → t.dp < k → t.dp ≤ 29 → t.pts ≤ 800 → v.length + n ≤ 100 →
    ∃ (w : List Nat) (x' : Option PyData), whileL lsT (lsB S c0) (f + 1) [some (ten t), some (.tuple (v.map Dn)), x] = .nx [some (.tuple []), some (.tuple ((v ++ w).map Dn)), x'] ∧ LeastW t w
  | n, f, .z, v, x, _, _, _, _, _, _ => by
    refine ⟨[], x, ?_, rfl⟩
    have e : lsT [some (ten .z), some (.tuple (v.map Dn)), x] = .ok false := by simp [lsT]
    rw [whileL_f e, List.append_nil]; rfl
  | 0, f, .c b r, v, x, hn, _, _, _, _, _ => by
    have := T.dp_mem (T.c b r) b (by simp [T.L])
    omega
  | n + 1, f + 1, .c b r, v, x, hn, hf, hk, h29, hp, hv => by
    obtain ⟨t, ht⟩ : ∃ t, T.c b r = t := ⟨_, rfl⟩
    have hz : t ≠ .z := by rw [← ht]; exact fun z => nomatch z
    have tl : 0 < t.L.length := by rw [← ht]; simp [T.L]
    rw [ht] at hn hk h29 hp ⊢
    obtain ⟨j, d, ej, L⟩ := h t hz hk h29 hp
    have lj : j < t.L.length := (List.getElem?_eq_some_iff.mp L.at').1
    have ed : t.L[j] = d := (List.getElem?_eq_some_iff.mp L.at').2
    have ea := atI_ten lj
    rw [ed] at ea
    have md := T.dp_mem t d (List.mem_of_getElem? L.at')
    have mp := T.pts_mem t d (List.mem_of_getElem? L.at')
    have s1 : v.length + 1 ≤ sizeLine := sz1000 (by omega)
    have tl' : (0 : Int) < (t.L.length : Int) := by omega
    have e : lsT [some (ten t), some (.tuple (v.map Dn)), x] = .ok true := by
      simp only [lsT, u_tOf, u_eOp, u_eCall, u_aCons, u_aNil, u_eVar, u_eC, List.getD_cons_zero, R.of_some, R.bind_ok, u_gLen_t, tenL_len, u_gCmp, decide_eq_true tl']
    have eb : lsB S c0 [some (ten t), some (.tuple (v.map Dn)), x] = .nx [some (ten d), some (.tuple ((v ++ [j]).map Dn)), some (Dn j)] := by
      simp [ej, s1, ea]
    obtain ⟨w, x', e1, e2⟩ := ls_loop h n f d (v ++ [j]) (some (Dn j)) (by omega) (by omega) (by omega) (by omega) (by omega) (by simp; omega)
    refine ⟨j :: w, x', ?_, d, L, e2⟩
    rw [whileL_t e eb, e1, List.append_assoc]; rfl
theorem least_head_step {S : Nat → Fn} {c0 k : Nat} (h : LplOk k (S c0)) : LhOk k (fun ds => fnD 3 (G_least_head c0 S) ds) where
  yes := fun t hz hk h29 hp => by
    obtain ⟨w, x', e, L⟩ := ls_loop h 29 999999 t [] none h29 (by decide) hk h29 hp (by simp)
    have hw : w ≠ [] := fun z => by rw [z] at L; exact hz L
    refine ⟨w, fnD_of ?_, hw, L⟩
    have e' : whileL lsT (lsB S c0) wfuel [some (ten t), some (.tuple []), none] = .nx [some (.tuple []), some (.tuple (w.map Dn)), x'] := e
    have ne : ¬ t.L = [] := fun z => hz (nil_iff.mpr z)
    unfold G_least_head
    simp [ne, e']
  no := by
    refine fnD_errE ⟨[some (.tuple []), none, none], ?_⟩
    unfold G_least_head
    simp
end Nm
set_option Elab.async false
set_option linter.all false
set_option maxRecDepth 100000
set_option maxHeartbeats 4000000
namespace Pu
open PySem PySem.Spec PyProof.Rows L2
open PySem.AutoSeq1 (wpAny_loadPart')
theorem meets_enumerate_newT (l : Addr) (items : Array Value) (n : Nat) (dct : Option Addr) (sl : Array (Option Value)) :
    Meets (Builtin.«enumerate.__new__» ⟨[.type "enumerate", .ref l], []⟩) (fun _ R s => s.heap.get? l = some { cls := .type "tuple", dict := dct, data := .seq items n, slots := sl } ∧
      R (.ok (.ret (.ref (s.heap.push { cls := .type "tuple_iterator", data := .fields #[.ref l, .int 0 0] }).objs.size)))
        { s with heap := (s.heap.push { cls := .type "tuple_iterator", data := .fields #[.ref l, .int 0 0] }).push { cls := .type "enumerate", data := .fields #[.none, .bool false, .ref s.heap.objs.size, rawInt 0, .none, .none] } }) :=
  .of_wp fun prog w A R s h => by
    obtain ⟨hp, g, d, tk, os⟩ := s; obtain ⟨hl, h⟩ := h
    have hsub := sub_enumerate
    have hL : Heap.IsTuple (Shared.heap ⟨hp, g, d, tk, os⟩) l items := ⟨_, hl, rfl, n, rfl⟩
    wp_walk using wpAny_loadPart' hl
    refine wpAny_stack_any fun st => wpAny_pure ?_
    split
    · rename_i c _ _ _ _ _
      cases (c == Value.type "enumerate")
      · wp_walk using wpAny_loadPart' hl, wpAny_pyIter_tuple hL
        exact ⟨_, rfl, h⟩
      · wp_walk using wpAny_loadPart' hl, wpAny_pyIter_tuple hL
        exact ⟨_, rfl, h⟩
    · wp_walk using wpAny_loadPart' hl, wpAny_pyIter_tuple hL
      exact ⟨_, rfl, h⟩
theorem call_enumerate_tup {prog : Program} {w : World} {A : Around} {E : Value → Shared → Prop} {s : Shared} {l : Addr} {items : Array Value} {Q : Value → Shared → Prop} (hL : s.heap.IsTuple l items)
    (h : ∀ h', IsEnum h' (s.heap.objs.size + 1) s.heap.objs.size 0 .none → h'.IsTupleIter s.heap.objs.size l 0 → h'.objs.size = s.heap.objs.size + 2 →
      (∀ b o, s.heap.get? b = some o → h'.get? b = some o) → Q (.ref (s.heap.objs.size + 1)) { s with heap := h' }) :
    wpAny (model prog w) A (call (.type "enumerate") [.ref l]) Q E s := by
  obtain ⟨⟨c, dct, dt, sl⟩, hl, hc, n, hd⟩ := hL
  replace hc : c = .type "tuple" := hc
  replace hd : dt = .seq items n := hd
  subst hc hd
  refine callType_new F.called_enumerate (by decide) (F.typeCall_enumerate_1 _) (F.newCall_enumerate_1 _) (fun obj => F.args_object_init_2 obj _) F.entry_enumerate_new
    (meets_enumerate_newT l items n dct sl) ⟨hl, ?_⟩
  have hz : (s.heap.push { cls := .type "tuple_iterator", data := .fields #[.ref l, .int 0 0] }).objs.size = s.heap.objs.size + 1 := Heap.size_push ..
  show _ ∧ _
  rw [hz]
  have he : IsEnum ((s.heap.push { cls := .type "tuple_iterator", data := .fields #[.ref l, .int 0 0] }).push
      { cls := .type "enumerate", data := .fields #[.none, .bool false, .ref s.heap.objs.size, rawInt 0, .none, .none] }) (s.heap.objs.size + 1) s.heap.objs.size 0 .none := by
    have := Heap.get?_push_size (s.heap.push { cls := .type "tuple_iterator", data := .fields #[.ref l, .int 0 0] })
      (o := { cls := .type "enumerate", data := .fields #[.none, .bool false, .ref s.heap.objs.size, rawInt 0, .none, .none] }) rfl
    rw [hz] at this; exact this
  refine ⟨⟨_, he, rfl⟩, h _ he ⟨_, Heap.get?_push_of_some _ (Heap.get?_push_size _ rfl), rfl, rfl⟩ (by rw [Heap.size_push, hz]) fun b o x => Heap.get?_push_of_some _ (Heap.get?_push_of_some _ x)⟩
def IteT (K : PySem.W.Frag) (a : Addr) : It :=
  ⟨fun i H => ∃ (xs : List V) (x : V), SqT K H a xs ∧ xs[i]? = some x, fun i H v H' => ∃ T x, v = .ref T ∧ H T = none ∧ H' = upd H T (.tup [.int (i : Nat), x]) ∧ ∀ xs, SqT K H a xs → xs[i]? = some x, fun i H => ∃ xs : List V, SqT K H a xs ∧ xs.length ≤ i⟩
theorem turn_enumT {P : Program} {w : World} {K : PySem.W.Frag} {elts : List Expr} {kk : Nat} {tpos : Pos} (a e it : Addr) :
    Turn P w K (.Tuple elts kk tpos) (IteT K a) [e, it] e (fun i h => (∃ old, IsEnum h e it ((i : Nat) : Int) old) ∧ h.IsTupleIter it a i ∧ e ≠ it ∧ a ≠ e ∧ a ≠ it) where
  mem := by simp
  obj := fun i h st b hb => by
    obtain ⟨⟨old, he⟩, ⟨o, ho, hc, hd⟩, _⟩ := st
    have e' : b = e ∨ b = it := by simpa using hb
    rcases e' with z | z
    · rw [z]; exact ⟨_, he, fun v q => nomatch q⟩
    · rw [z]; exact ⟨o, ho, fun v q => by rw [hd] at q; cases q⟩
  keep := fun i h h' st k => let ⟨⟨old, he⟩, hi, hne⟩ := st; ⟨⟨old, k e (by simp) _ he⟩, hi.at fun o q => k it (by simp) o q, hne⟩
  item := by
    intro X hP hw hK hc i pins s σ H E I hf st hg
    subst hP hw hK
    obtain ⟨⟨old, he⟩, hit, hne, hae, hai⟩ := st
    obtain ⟨xs, x, hq, hx⟩ := hg
    obtain ⟨its, rv, p, hz⟩ := I.tuple hq
    obtain ⟨u, hu, ru⟩ := rv.get hx
    have hel : e < s.heap.objs.size := Heap.lt_size he
    have hil : it < s.heap.objs.size := by obtain ⟨_, q, _⟩ := hit; exact Heap.lt_size q
    have hlt : i < its.toArray.size := by
      have := (List.getElem?_eq_some_iff.mp hu).1
      simpa using this
    have D := Draws.tuple (prog := X.prog) (w := X.w) (A := X.A.in1) (I.ok.hd hc) it a hai its.toArray
    refine wpAny_pyNext_enum_itemD D he ⟨hit, p⟩ hlt hne (by simp [hne, Ne.symm hae]) fun y h' tk hy ho hst' hT hsz hk => ?_
    have ey : y = u := by
      have : its.toArray[i]? = some u := by simpa using hu
      rw [this] at hy; exact (Option.some.inj hy).symm
    subst ey
    obtain ⟨hit', _⟩ := hst'
    refine ⟨_, rfl, wpAny_letOwnedTupleGo_enum (s := { s with heap := h', toks := tk + 1 }) ho fun h'' he' sb => ?_⟩
    have hT2 : h''.get? s.heap.objs.size = some { cls := .type "tuple", data := .seq #[.int i tk, y] } := (sb.2 _ (Nat.ne_of_gt hel)).trans hT
    have new : ObjOk X.prog X.w (upd H s.heap.objs.size (.tup [.int (i : Nat), x])) h'' s.heap.objs.size (.tup [.int (i : Nat), x]) :=
      ⟨by show 2 ≤ sizeLine; decide, [.int i tk, y], .cons ⟨_, rfl⟩ (.cons ru .nil), ⟨_, hT2, rfl, _, rfl⟩⟩
    have I1 : Inv X pins σ (upd H s.heap.objs.size (.tup [.int (i : Nat), x])) { s with heap := h'', toks := tk + 1 } :=
      I.turnedNew (ch := [e, it]) (fun b ob hb q => (sb.2 b (fun z => hb (by simp [z]))).trans (hk b ob (fun z => hb (by simp [z])) (fun z => hb (by simp [z])) q)) hf (Nat.le_refl _) new
    refine ⟨.ref s.heap.objs.size, _, I1, rfl, ⟨_, x, rfl, I.hok.fresh (Nat.le_refl _), rfl, fun ys hy => by rw [I.tuple_inj hy hq]; exact hx⟩, ⟨⟨y, ?_⟩, hit'.at fun o q => (sb.2 it (Ne.symm hne)).trans q, hne, hae, hai⟩, fun b hb => ?_⟩
    · have e1 : ((i + 1 : Nat) : Int) = (i : Int) + 1 := by omega
      rw [e1]; exact he'
    · have hb' : b < s.heap.objs.size := by
        have e' : b = e ∨ b = it := by simpa using hb
        rcases e' with z | z
        · rw [z]; exact hel
        · rw [z]; exact hil
      rw [upd_ne (Nat.ne_of_lt hb')]
      exact (hf b hb).1
  done := by
    intro X hP hw hK hc i pins s σ H E I hf st hg
    subst hP hw hK
    obtain ⟨⟨old, he⟩, hit, hne, hae, hai⟩ := st
    obtain ⟨xs, hq, hx⟩ := hg
    obtain ⟨its, rv, p, hz⟩ := I.tuple hq
    obtain ⟨f0, f1, f2, f3, f4, f5⟩ := hf it (by simp)
    have hl := rv.length
    have hT : s.TypeIs (.ref e) "enumerate" := ⟨_, he, rfl⟩
    unfold pyNext
    refine wpAny_bind (wpAny_attempt (wpAny_callSpecial?_slot (name := Str.ofString "__next__") hT F.slot_enumerate_next
      (wpAny_call_entry F.slot_enumerate_next hT F.entry_enumerate_next ?_ (F.args_enumerate_next_1 _))))
    show wpAny _ _ (field (.ref e) 2 >>= _) _ _ _
    refine wpAny_bind (wpAny_field he rfl (x := .ref it) rfl ?_)
    refine wpAny_bind (wpAny_nextOf_tuple_end (I.ok.hd hc) hit p (by simp; omega) fun h' x he' hx' => ?_)
    obtain ⟨o, ho, hc⟩ := hx'
    refine wpAny_bind (wpAny_isInstance (T := "StopIteration") (b := true) ⟨o, ho, hc⟩ isSubtype_stop ?_)
    exact wpAny_pure ⟨rfl, I.turned (t' := s.toks) (fun b o hb e => he' b o hb e) f0 f1 f3 f4 f5⟩
  self := fun A i s Q E st h => let ⟨⟨_, he⟩, _⟩ := st; wpAny_pyIter_enum he h
def iEnumA (K : PySem.W.Frag) (te : TE) : TI := fun σ H R => te σ H fun v H1 => ∃ a xs, v = .ref a ∧ ((SqL K H1 a xs ∧ R (Ite K a) H1) ∨ (SqT K H1 a xs ∧ R (IteT K a) H1))
theorem pi_enumA {X : Cx} {e : Expr} {te : TE} {p pos tpos : Pos} {elts : List Expr} {kk : Nat} (hg : Gl X "enumerate") (hm : X.mg "enumerate" = none) (he : PE X e te) (hs : starEach [e] X.env = (false, eval e X.env) :: starEach [] X.env := by rfl) :
    PI X (.Tuple elts kk tpos) (.Call (.Name "enumerate" p) [e] [] pos) (iEnumA X.K te) := by
  refine ⟨fun pins s σ H R I h => ?_⟩
  refine Call_ (ld_blt I hg hm boot_enumerate (PyProof.Rows.callWith_type1 (args_cons (thn (he.run pins s σ H _ I h) fun u s1 ⟨v, H1, I1, r1, q1⟩ => args_nil ?_) hs) hs rfl))
  obtain ⟨a, xs, ev, q⟩ := q1
  subst ev
  obtain rfl : u = Value.ref a := r1
  rcases q with ⟨hq, q⟩ | ⟨hq, q⟩
  · obtain ⟨its, rv, p', hz⟩ := I1.list hq
    refine call_enumerate_list p'.isList fun h' he hit hsz hk => wpAny_pyIter_enum he ?_
    have I2 : Inv X pins σ H1 { s1 with heap := h' } := I1.kept (t' := s1.toks) hk
    refine ⟨s1.heap.objs.size + 1, [s1.heap.objs.size + 1, s1.heap.objs.size], _, _, H1, rfl, I2, turn_enum a (s1.heap.objs.size + 1) s1.heap.objs.size, ⟨⟨.none, he⟩, hit, Nat.succ_ne_self _⟩, fun b hb => ?_, q⟩
    have e' : b = s1.heap.objs.size + 1 ∨ b = s1.heap.objs.size := by simpa using hb
    have hle : s1.heap.objs.size ≤ b := by
      rcases e' with z | z
      · rw [z]; exact Nat.le_add_right _ _
      · rw [z]; exact Nat.le_refl _
    exact I1.fpOk hle (I1.hok.fresh hle)
  · obtain ⟨its, rv, p', hz⟩ := I1.tuple hq
    refine call_enumerate_tup p' fun h' he hit hsz hk => wpAny_pyIter_enum he ?_
    have I2 : Inv X pins σ H1 { s1 with heap := h' } := I1.kept (t' := s1.toks) hk
    have hal : a < s1.heap.objs.size := by obtain ⟨o, ho, _⟩ := p'; exact Heap.lt_size ho
    refine ⟨s1.heap.objs.size + 1, [s1.heap.objs.size + 1, s1.heap.objs.size], _, _, H1, rfl, I2, turn_enumT a (s1.heap.objs.size + 1) s1.heap.objs.size, ⟨⟨.none, he⟩, hit, Nat.succ_ne_self _, Nat.ne_of_lt (Nat.lt_succ_of_lt hal), Nat.ne_of_lt hal⟩, fun b hb => ?_, q⟩
    have e' : b = s1.heap.objs.size + 1 ∨ b = s1.heap.objs.size := by simpa using hb
    have hle : s1.heap.objs.size ≤ b := by
      rcases e' with z | z
      · rw [z]; exact Nat.le_add_right _ _
      · rw [z]; exact Nat.le_refl _
    exact I1.fpOk hle (I1.hok.fresh hle)
def enumD : Nat → List PyData → List PyData
  | _, [] => []
  | k, d :: ds => .tuple [.int (k : Nat), d] :: enumD (k + 1) ds
theorem enumD_len : ∀ (k : Nat) (ds : List PyData), (enumD k ds).length = ds.length
  | _, [] => rfl
  | k, _ :: ds => by rw [enumD, List.length_cons, enumD_len (k + 1) ds, List.length_cons]
theorem enumD_get : ∀ (k : Nat) (ds : List PyData) (i : Nat), (enumD k ds)[i]? = (ds[i]?).map fun d => .tuple [.int ((k + i : Nat) : Int), d]
  | _, [], _ => by simp [enumD]
  | k, d :: ds, 0 => by simp [enumD]
  | k, d :: ds, i + 1 => by
    rw [enumD, List.getElem?_cons_succ, List.getElem?_cons_succ, enumD_get (k + 1) ds i, show k + 1 + i = k + (i + 1) by omega]
theorem iterEL {K : PySem.W.Frag} {F : Hp} {a : Addr} {xs : List V} {ds : List PyData} (h : SqL K F a xs) (r : Rps K F xs ds) : IterOk K (Ite K a) F (enumD 0 ds) := fun i H O hO s => by
  have s' : Same F H := s.trans hide_sub
  have hH := seqL s' h
  refine ⟨fun d e => ?_, fun l => ⟨xs, hH, by rw [r.length]; rwa [enumD_len] at l⟩⟩
  rw [enumD_get] at e
  cases h1 : ds[i]? with
  | none => rw [h1] at e; cases e
  | some d1 =>
    rw [h1] at e
    cases e
    obtain ⟨v, h1, h2⟩ := r.get h1
    refine ⟨⟨xs, v, hH, h1⟩, fun x H' y => ?_⟩
    obtain ⟨T, x1, rfl, hT, rfl, y1⟩ := y
    have h3 := y1 xs hH
    rw [h1] at h3
    cases h3
    rw [Nat.zero_add]
    exact ⟨same_new hT, new_rep hO hT (.cons (.int _) (.cons (h2.mono s) .nil))⟩
theorem iterET {K : PySem.W.Frag} {F : Hp} {a : Addr} {xs : List V} {ds : List PyData} (h : SqT K F a xs) (r : Rps K F xs ds) : IterOk K (IteT K a) F (enumD 0 ds) := fun i H O hO s => by
  have s' : Same F H := s.trans hide_sub
  have hH := seqT s' h
  refine ⟨fun d e => ?_, fun l => ⟨xs, hH, by rw [r.length]; rwa [enumD_len] at l⟩⟩
  rw [enumD_get] at e
  cases h1 : ds[i]? with
  | none => rw [h1] at e; cases e
  | some d1 =>
    rw [h1] at e
    cases e
    obtain ⟨v, h1, h2⟩ := r.get h1
    refine ⟨⟨xs, v, hH, h1⟩, fun x H' y => ?_⟩
    obtain ⟨T, x1, rfl, hT, rfl, y1⟩ := y
    have h3 := y1 xs hH
    rw [h1] at h3
    cases h3
    rw [Nat.zero_add]
    exact ⟨same_new hT, new_rep hO hT (.cons (.int _) (.cons (h2.mono s) .nil))⟩
def iEnumD (f : Vars → R PyData) (ρ : Vars) : R (List PyData) := (f ρ).bind fun d => match d with
  | .list ds => .ok (enumD 0 ds)
  | .tuple ds => .ok (enumD 0 ds)
  | _ => .bad
@[simp] theorem u_iEnumD (f : Vars → R PyData) (ρ : Vars) : iEnumD f ρ = (f ρ).bind fun d => match d with
  | .list ds => .ok (enumD 0 ds)
  | .tuple ds => .ok (enumD 0 ds)
  | _ => .bad := rfl
theorem ix_enum {X : Cx} {W : WX} {e : Expr} {f : Vars → R PyData} {p pos tpos : Pos} {elts : List Expr} {kk : Nat} (hg : Gl X "enumerate") (hm : X.mg "enumerate" = none) (h : EX X W e f) (hs : starEach [e] X.env = (false, eval e X.env) :: starEach [] X.env := by rfl) : IX X W (.Tuple elts kk tpos) (.Call (.Name "enumerate" p) [e] [] pos) (iEnumD f) := by
  obtain ⟨t, q, ht⟩ := h
  refine ⟨_, pi_enumA hg hm q hs, fun σ H O ρ Q hO hv z => ht σ H O ρ _ hO hv ?_⟩
  unfold iEnumD at z
  cases e : f ρ with
  | bad => rw [e] at z; exact z
  | err c => rw [e] at z; exact z
  | ok d =>
    rw [e, R.bind_ok] at z
    intro v H1 s1 r1
    cases r1 with
    | @lst a xs ds hx rs => exact ⟨a, xs, rfl, .inl ⟨seqL hide_sub hx, z _ H1 s1 (iterEL hx rs)⟩⟩
    | @tup a xs ds hx rs => exact ⟨a, xs, rfl, .inr ⟨seqT hide_sub hx, z _ H1 s1 (iterET hx rs)⟩⟩
    | _ => exact z.elim
end Pu
set_option Elab.async false
set_option linter.all false
set_option maxRecDepth 100000
set_option maxHeartbeats 4000000
namespace Pu
open PySem PySem.Spec PyProof.Rows L2 RT
section
variable {prog : Program} {w : World} {A : Around} {E : Value → Shared → Prop} {s : Shared}
end
end Pu
set_option Elab.async false
set_option linter.all false
set_option maxRecDepth 100000
set_option maxHeartbeats 4000000
namespace Pu
open PySem PySem.Spec PyProof.Rows L2
def newL : R PyData → R PyData
  | .ok (.list ds) => .ok (.list ds)
  | .ok _ => .bad
  | .err c => .err c
  | .bad => .bad
@[simp] theorem u_newL (ds : List PyData) : newL (.ok (.list ds)) = .ok (.list ds) := rfl
@[simp] theorem u_newL_e (c : Str) : newL (.err c) = .err c := rfl
def NpOut (K : PySem.W.Frag) (mg : Str → Option Value) (O : List Addr) (H : Hp) (Q : VK) (E : XK) : R PyData → Prop
  | .ok (.list ds) => ∀ p vs H', Same H H' → H p = Option.none → H' p = some (.lst vs) → Rps K (hide (p :: O) H') vs ds → Q (.ref p) H'
  | .ok _ => False
  | .err c => ∀ H', Same H H' → E (exV mg c) Option.none H'
  | .bad => False
def spN (K : PySem.W.Frag) (mg : Str → Option Value) (n : Nat) (f : List PyData → R PyData) : Sp := fun vs H Q E =>
  vs.length = n ∧ ∃ O ds, Stands O H ∧ Rps K (hide O H) vs ds ∧ NpOut K mg O H Q E (newL (f ds))
theorem spN_of {K : PySem.W.Frag} {mg : Str → Option Value} {n : Nat} {f : List PyData → R PyData} : ∀ vs H Q E, spD K mg n (fun ds => newL (f ds)) vs H Q E → spN K mg n f vs H Q E := fun vs H Q E ⟨hl, O, ds, hO, r, z⟩ => by
  refine ⟨hl, O, ds, hO, r, ?_⟩
  replace z : SpOut K mg O H Q E (newL (f ds)) := z
  cases e : newL (f ds) with
  | bad => rw [e] at z; exact z.elim
  | err c => rw [e] at z; exact z
  | ok d =>
    rw [e] at z
    cases d with
    | list xs =>
      intro p ys H' s hp hp' rs
      have np : p ∉ O := hO.new hp
      exact z (.ref p) H' s (.lst (.inl (.inl (hide_of np hp'))) (rs.mono (hide_less fun a ha => List.mem_cons_of_mem _ ha)))
    | _ => exfalso; revert e; cases f ds with
      | bad => intro e; cases e
      | err c => intro e; cases e
      | ok d => cases d <;> intro e <;> cases e
section
variable (X : Cx) (E : XK)
def NBOut (H0 : Hp) (O0 : List Addr) (Q : VK) : Out → Prop
  | .rt (.list ds) => ∀ p vs H', Same H0 H' → H0 p = Option.none → H' p = some (.lst vs) → Rps X.K (hide (p :: O0) H') vs ds → Q (.ref p) H'
  | .err c _ => ∀ H', Same H0 H' → E (exV X.mg c) Option.none H'
  | _ => False
def NBX (own : List Nat) (sts : List Stmt) (g : Vars → Out) : Prop :=
  ∃ t, PSs X sts t ∧ ∀ σ H ρ Q (H0 : Hp) O0 O, Rel X.K own (HB.nl H0) O0 O σ H ρ → NBOut X E H0 O0 Q (g ρ) → t { nx := fun _ H' => Q .non H', rt := Q } σ H
end
def sSeqN (g h : Vars → Out) (ρ : Vars) : Out := match g ρ with
  | .nx ρ' => h ρ'
  | .err c ρ' => .err c ρ'
  | _ => .bad
@[simp] theorem u_sSeqN (g h : Vars → Out) (ρ : Vars) : sSeqN g h ρ = match g ρ with
  | .nx ρ' => h ρ'
  | .err c ρ' => .err c ρ'
  | _ => .bad := rfl
section
variable {X : Cx} {E : XK} {own : List Nat}
theorem NBX.cons {st : Stmt} {rest : List Stmt} {g h : Vars → Out} {own' : List Nat} (a : SX X (WD E) own st g) (b : NBX X E own' rest h) (ho : (own'.all fun i => own.contains i) = true) : NBX X E own (st :: rest) (sSeqN g h) := by
  obtain ⟨t, p, ht⟩ := a
  obtain ⟨u, q, hu⟩ := b
  refine ⟨_, pss_cons p q, fun σ H ρ Q H0 O0 O r z => ht σ H ρ _ (HB.nl H0) O0 O r ?_⟩
  unfold sSeqN at z
  cases e : g ρ with
  | nx ρ1 =>
    rw [e] at z
    intro σ1 H1 O1 r1 s1
    obtain ⟨O2, r2, _⟩ := r1.freeze (own' := own') (fun i hi => List.contains_iff_mem.mp (List.all_eq_true.mp ho i hi)) fun p hp => nomatch hp
    exact hu σ1 H1 ρ1 Q H0 O0 O2 r2 z
  | rt d => rw [e] at z; exact z.elim
  | err c ρ' => rw [e] at z; exact fun σ' H' O' r' s' => z H' r'.same
  | bk _ => rw [e] at z; exact z.elim
  | ct _ => rw [e] at z; exact z.elim
  | bad => rw [e] at z; exact z.elim
theorem NBX.ret {i : Nat} {x : Str} {p0 pos : Pos} (hi : X.N[i]? = some x) (ho : own.contains i = true)
    (hv : Vis X.env.scope x := by first | exact Or.inl rfl | exact Or.inr (Or.inl rfl) | exact Or.inr (Or.inr rfl)) (hdn : (x == ("__debug__" : Str)) = false := by decide) (hcd : (x == ("__classdict__" : Str)) = false := by decide) :
    NBX X E own [.Return (some (.Name x p0)) pos] (sRet (eVar i)) := by
  refine ⟨_, pss_one (ps_ret (pe_var hi hv hdn hcd)), fun σ H ρ Q H0 O0 O r z => ?_⟩
  have hi' : i ∈ own := List.contains_iff_mem.mp ho
  unfold sRet eVar at z
  have e2 : ρ.getD i Option.none = (ρ[i]?).getD Option.none := by rw [List.getD_eq_getElem?_getD]
  rw [e2] at z
  cases e : ρ[i]? with
  | none => rw [e] at z; exact z.elim
  | some o =>
    cases o with
    | none => rw [e] at z; exact z.elim
    | some d =>
      rw [e] at z
      cases d <;> try exact z.elim
      rename_i ds
      obtain ⟨a, vs, h1, h2, h3, h4, h5⟩ := r.mineL hi' e
      refine ⟨.ref a, h1, ?_⟩
      exact z a vs H r.same h3 h4 (h5.mono (hide_less fun b hb => (List.mem_cons.mp hb).elim (fun e => e ▸ h2) (r.sub b)))
end
section
variable {P : Program} {w : World} {K : PySem.W.Frag} {mg : Str → Option Value} {base : Heap}
end
section
variable {X : Cx} {W : WX}
end
section
variable (X : Cx) (W : WX) (own : List Nat) (io : Nat)
def FOut (a : Addr) (vs : List V) (H0 : HB) (O0 O : List Addr) (H : Hp) (D : Ends) : Out → Prop
  | .nx ρ => ∀ σ' H' O', Rel X.K own H0 O0 O' σ' H' ρ → σ'[io]? = some (some (.ref a)) → H' a = some (.lst vs) → Same (hide O H) (hide O' H') → D.nx σ' H'
  | .rt d => RtW X.K H0 O0 (hide O H) D d
  | .bk ρ => ∀ σ' H' O', Rel X.K own H0 O0 O' σ' H' ρ → σ'[io]? = some (some (.ref a)) → H' a = some (.lst vs) → Same (hide O H) (hide O' H') → D.bk σ' H'
  | .ct ρ => ∀ σ' H' O', Rel X.K own H0 O0 O' σ' H' ρ → σ'[io]? = some (some (.ref a)) → H' a = some (.lst vs) → Same (hide O H) (hide O' H') → D.ct σ' H'
  | .err c ρ => ∀ σ' H' O', Rel X.K own H0 O0 O' σ' H' ρ → Same (hide O H) (hide O' H') → W (exV X.mg c) Option.none σ' H'
  | .bad => False
end
section
variable {X : Cx} {W : WX} {own : List Nat} {io : Nat}
theorem FOut.from {a : Addr} {vs : List V} {H0 : HB} {O0 O O' : List Addr} {H H' : Hp} {D : Ends} {o : Out} (h : FOut X W own io a vs H0 O0 O H D o) (s : Same (hide O H) (hide O' H')) : FOut X W own io a vs H0 O0 O' H' D o := by
  cases o with
  | nx ρ => exact fun σ' H'' O'' r h1 h2 s' => h σ' H'' O'' r h1 h2 (s.trans s')
  | rt d => exact RtW.from h s
  | bk ρ => exact fun σ' H'' O'' r h1 h2 s' => h σ' H'' O'' r h1 h2 (s.trans s')
  | ct ρ => exact fun σ' H'' O'' r h1 h2 s' => h σ' H'' O'' r h1 h2 (s.trans s')
  | err c ρ => exact fun σ' H'' O'' r s' => h σ' H'' O'' r (s.trans s')
  | bad => exact h
end
end Pu
set_option Elab.async false
set_option linter.all false
set_option maxRecDepth 100000
set_option maxHeartbeats 4000000
namespace Pu
open PySem PySem.Spec PyProof.Rows L2
def keyD : PyData → Option Key
  | .int i => some (.inl i)
  | .str x => some (.inr x)
  | _ => none
theorem keyD_kD (k : Key) : keyD (kD k) = some k := by cases k <;> rfl
def valD (ds : List (PyData × PyData)) (k : Key) : Option PyData := (ds.find? fun p => decide (keyD p.1 = some k)).map (·.2)
section
variable {K : PySem.W.Frag} {H : Hp}
theorem rpd_ins : ∀ {kvs : List (Key × V)} {ds : List (PyData × PyData)}, Rpd K H kvs ds → insB ds = false
  | _, _, .nil => rfl
  | _, _, @Rpd.cons _ _ k _ _ _ _ _ _ => by cases k <;> rfl
theorem Rpd.length : ∀ {kvs : List (Key × V)} {ds : List (PyData × PyData)}, Rpd K H kvs ds → kvs.length = ds.length
  | _, _, .nil => rfl
  | _, _, .cons _ r => congrArg Nat.succ r.length
theorem rpd_val (k : Key) : ∀ {kvs : List (Key × V)} {ds : List (PyData × PyData)}, Rpd K H kvs ds → (∃ v d, valV kvs k = some v ∧ valD ds k = some d ∧ Rp K H v d) ∨ (valV kvs k = none ∧ valD ds k = none)
  | _, _, .nil => .inr ⟨rfl, rfl⟩
  | _, _, @Rpd.cons _ _ j v vs d ds h r => by
    by_cases e : j = k
    · subst e
      exact .inl ⟨v, d, valV_pos rfl, by simp [valD, List.find?_cons, keyD_kD], h⟩
    · have e1 : valV ((j, v) :: vs) k = valV vs k := valV_neg (by exact e)
      have e2 : valD ((kD j, d) :: ds) k = valD ds k := by
        simp only [valD, List.find?_cons, keyD_kD]
        rw [decide_eq_false (by intro z; cases z; exact e rfl)]
      rw [e1, e2]
      exact rpd_val k r
theorem Rpd.get : ∀ {vs : List (Key × V)} {ds : List (PyData × PyData)} {i : Nat} {p : PyData × PyData}, Rpd K H vs ds → ds[i]? = some p → ∃ k v, vs[i]? = some (k, v) ∧ p.1 = kD k ∧ Rp K H v p.2
  | _, _, _, _, .nil, e => by simp at e
  | _, _, 0, _, .cons h _, e => by simp at e; subst e; exact ⟨_, _, rfl, rfl, h⟩
  | _, _, i + 1, _, .cons _ r, e => by
    obtain ⟨k, v, h1, h2⟩ := Rpd.get (i := i) r (by simpa using e)
    exact ⟨k, v, by simpa using h1, h2⟩
end
section
variable {X : Cx} {W : WX}
end
end Pu
set_option Elab.async false
set_option linter.all false
set_option maxRecDepth 100000
set_option maxHeartbeats 4000000
namespace Pu
open PySem PySem.Spec PyProof.Rows L2
section
variable {X : Cx} {W : WX} {own : List Nat}
def NVOut (X : Cx) (W : WX) (O : List Addr) (σ : L2.St) (H : Hp) (Q : VK) : R PyData → Prop
  | .ok d => ∀ v p H', Same H H' → H p = none → Mi X.K (hide (p :: O) H') H' v p d → Q v H'
  | .err c => ∀ H', Same H H' → W (exV X.mg c) none σ H'
  | .bad => False
def NVX (X : Cx) (W : WX) (e : Expr) (f : Vars → R PyData) : Prop :=
  ∃ t, PE X e t ∧ ∀ σ H O ρ (Q : VK), Stands O H → VRel X.K (hide O H) σ ρ → NVOut X W O σ H Q (f ρ) → t σ H Q
theorem NVX.ex {e : Expr} {f : Vars → R PyData} (h : NVX X W e f) : EX X W e f := by
  obtain ⟨t, p, ht⟩ := h
  refine ⟨t, p, fun σ H O ρ Q hO hv z => ht σ H O ρ Q hO hv ?_⟩
  cases e : f ρ with
  | ok d => rw [e] at z; exact fun v p H' s hp ov => z _ H' s (ov.rp (hide_less fun a ha => List.mem_cons_of_mem _ ha) fun o ho => hide_of (hO.new hp) ho)
  | err c => rw [e] at z; exact z
  | bad => rw [e] at z; exact z
@[simp] def sNewV (own : List Nat) (i : Nat) (f : Vars → R PyData) (ρ : Vars) : Out := (f (mask own ρ)).run ρ fun d => .nx (ρ.set i (some d))
theorem sx_newV {i : Nat} {x : Str} {e : Expr} {f : Vars → R PyData} {pos' pos : Pos} (hN : X.N.Nodup) (hi : X.N[i]? = some x) (hx : Loc X.env.scope x) (h : NVX X W e f) (ho : own.contains i = true) (hs : swapsWith e (some (.Name x pos')) pos.line X.env = pure false := by rfl) (hf : X.fn x = true ∨ X.env.scope.names.lookup x = some .local := by first | exact .inl rfl | exact .inr rfl | assumption) (hni : own.contains (1000 + i) = false := by rfl) :
    SX X W own (.Assign [.Name x pos'] e pos) (sNewV own i f) := by
  obtain ⟨t, p, ht⟩ := h
  have hni' : 1000 + i ∉ own := fun z => by rw [List.contains_iff_mem.mpr z] at hni; cases hni
  have hi' : i ∈ own := List.contains_iff_mem.mp ho
  refine ⟨_, ps_set hN hi hx p hs hf, fun σ H ρ D H0 O0 O r z => ht σ H O _ _ r.stands r.vrelM ?_⟩
  unfold sNewV at z
  cases e : f (mask own ρ) with
  | bad => rw [e] at z; exact z
  | err c => rw [e] at z; exact fun H' s => z σ H' O (r.step s) (hide_same s)
  | ok d =>
    rw [e, R.run_ok] at z
    intro v p H' s hp ov
    obtain ⟨r', sF⟩ := r.laidM hi' (r.notLent hni') s hp ov
    exact z _ H' _ r' sF
end
end Pu
set_option Elab.async false
set_option linter.all false
set_option maxRecDepth 100000
set_option maxHeartbeats 4000000
namespace Pu
open PySem PySem.Spec PyProof.Rows L2
def Sl (o o' : HO) : Prop := o' = o ∨ ∃ kvs od, (o = .dK kvs ∧ o' = .frz od (.dK kvs)) ∨ (o = .frz od (.dK kvs) ∧ o' = .dK kvs)
def SameL (H H' : Hp) : Prop := ∀ a o, H a = some o → ∃ o', H' a = some o' ∧ Sl o o'
theorem Same.l {H H' : Hp} (s : Same H H') : SameL H H' := fun a o h => ⟨o, s a o h, .inl rfl⟩
section
variable {K : PySem.W.Frag} {H H' : Hp} {a : Addr}
theorem SameL.at_ (s : SameL H H') {o : HO} (h : H a = some o) (h1 : ∀ kvs, o ≠ .dK kvs) (h2 : ∀ od kvs, o ≠ .frz od (.dK kvs)) : H' a = some o := by
  obtain ⟨o', e, z⟩ := s a o h
  rcases z with z | ⟨kvs, od, ⟨z, _⟩ | ⟨z, _⟩⟩
  · rw [e, z]
  · exact absurd z (h1 _)
  · exact absurd z (h2 _ _)
theorem SameL.rdN (s : SameL H H') {u : HO} (h : Rd H a u) (h1 : ∀ kvs, u ≠ .dK kvs) (h2 : ∀ od kvs, u ≠ .frz od (.dK kvs)) : Rd H' a u := by
  rcases h with h | ⟨o, h⟩
  · exact .inl (s.at_ h h1 h2)
  · exact .inr ⟨o, s.at_ h (fun _ z => by cases z) fun od kvs z => by cases z; exact h1 _ rfl⟩
theorem SameL.rdD (s : SameL H H') {kvs : List (Key × V)} (h : Rd H a (.dK kvs)) : Rd H' a (.dK kvs) := by
  rcases h with h | ⟨o, h⟩
  · obtain ⟨o', e, z⟩ := s a _ h
    rcases z with z | ⟨kvs', od, ⟨z, z2⟩ | ⟨z, _⟩⟩
    · subst z; exact .inl e
    · cases z; subst z2; exact .inr ⟨od, e⟩
    · cases z
  · obtain ⟨o', e, z⟩ := s a _ h
    rcases z with z | ⟨kvs', od, ⟨z, _⟩ | ⟨z, z2⟩⟩
    · subst z; exact .inr ⟨o, e⟩
    · cases z
    · cases z; subst z2; exact .inl e
theorem SameL.seqL (s : SameL H H') {xs : List V} (h : SqL K H a xs) : SqL K H' a xs := by
  rcases h with h | h
  · exact .inl (s.rdN h (fun _ z => by cases z) (fun _ _ z => by cases z))
  · exact .inr h
theorem SameL.seqT (s : SameL H H') {xs : List V} (h : SqT K H a xs) : SqT K H' a xs := by
  rcases h with h | h
  · exact .inl (s.rdN h (fun _ z => by cases z) (fun _ _ z => by cases z))
  · exact .inr h
mutual
theorem Rp.lk (s : SameL H H') : ∀ {v : V} {d : PyData}, Rp K H v d → Rp K H' v d
  | _, _, .non => .non
  | _, _, .bl b => .bl b
  | _, _, .int i => .int i
  | _, _, .str x => .str x
  | _, _, .lst h r => .lst (s.seqL h) (Rps.lk s r)
  | _, _, .tup h r => .tup (s.seqT h) (Rps.lk s r)
  | _, _, .dic h r => .dic (s.rdD h) (Rpd.lk s r)
  | _, _, .ins h o c r => .ins (s.at_ h (fun _ z => by cases z) (fun _ _ z => by cases z)) (s.at_ o (fun _ z => by cases z) (fun _ _ z => by cases z)) c (Rpd.lk s r)
  | _, _, .fn h r => .fn (s.at_ h (fun _ z => by cases z) (fun _ _ z => by cases z)) (Rp.lk s r)
  | _, _, .fn0 h => .fn0 (s.at_ h (fun _ z => by cases z) (fun _ _ z => by cases z))
  | _, _, .tpx h r => .tpx (s.at_ h (fun _ z => by cases z) (fun _ _ z => by cases z)) (Rps.lk s r)
  | _, _, .dct h r => .dct (s.rdN h (fun _ z => by cases z) (fun _ _ z => by cases z)) (RpT.lk s r)
theorem Rps.lk (s : SameL H H') : ∀ {vs : List V} {ds : List PyData}, Rps K H vs ds → Rps K H' vs ds
  | _, _, .nil => .nil
  | _, _, .cons h r => .cons (Rp.lk s h) (Rps.lk s r)
theorem Rpd.lk (s : SameL H H') : ∀ {vs : List (Key × V)} {ds : List (PyData × PyData)}, Rpd K H vs ds → Rpd K H' vs ds
  | _, _, .nil => .nil
  | _, _, .cons h r => .cons (Rp.lk s h) (Rpd.lk s r)
theorem RpT.lk (s : SameL H H') : ∀ {vs : List (List Key × V)} {ds : List (PyData × PyData)}, RpT K H vs ds → RpT K H' vs ds
  | _, _, .nil => .nil
  | _, _, .cons h r => .cons (Rp.lk s h) (RpT.lk s r)
end
theorem OwnV.lk {F F' : Hp} {d : PyData} (h : OwnV K F H a d) (s : SameL F F') (e : ∀ o, H a = some o → H' a = some o) : OwnV K F' H' a d := by
  cases d with
  | list ds => obtain ⟨vs, h1, h2⟩ := h; exact ⟨vs, e _ h1, h2.lk s⟩
  | dict ds => exact h.imp (fun ⟨vs, h1, h2⟩ => ⟨vs, e _ h1, h2.lk s⟩) (fun ⟨ts, es, z, h1, h2⟩ => ⟨ts, es, z, e _ h1, h2.lk s⟩)
  | _ => exact h.elim
theorem Mi.lk {F F' : Hp} {v : V} {d : PyData} (h : Mi K F H v a d) (s : SameL F F') (e : ∀ o, H a = some o → H' a = some o) : Mi K F' H' v a d := by
  rcases h with ⟨h1, h2⟩ | ⟨b, C, dx, c, f, d', h1, h2, h3, h4, h5, h6⟩
  · exact .inl ⟨h1, h2.lk s e⟩
  · have k1 := s.at_ h3 (fun _ z => by cases z) (fun _ _ z => by cases z)
    have k2 := s.at_ h4 (fun _ z => by cases z) (fun _ _ z => by cases z)
    exact .inr ⟨b, C, dx, c, f, d', h1, h2, k1, k2, h5, h6.lk s e⟩
end
theorem for_core {X : Cx} {W : WX} {own : List Nat} {js : List Nat} {gt : PyData → Vars → Option Vars} {g : Vars → Out} {tgt : TG} {tb : TS} {J : It} {ds : List PyData} (ok : GtOk js gt) (hj : ∀ j ∈ js, j ∉ own) (hin : GtIn js gt)
    (hgt : ∀ v d σ H O ρ ρ' Q, Stands O H → VRel X.K (hide O H) σ ρ → Rp X.K (hide O H) v d → gt d ρ = some ρ' → (∀ σ', VRel X.K (hide O H) σ' ρ' → σ'.length = σ.length → (∀ j : Nat, j ∉ js → σ'[j]? = σ[j]? ∧ ρ'[j]? = ρ[j]?) → Q σ' H) → tgt v σ H Q)
    (htb : ∀ σ H ρ D H0 O0 O, Rel X.K own H0 O0 O σ H ρ → SOut X W own H0 O0 O H D (g ρ) → tb D σ H) {H0 : HB} {O0 O : List Addr} {σ : L2.St} {H1 : Hp} {ρ : Vars} {D : Ends} (r : Rel X.K own H0 O0 O σ H1 ρ)
    (hJ : ∀ i H2 O2 σ2 ρ2, Rel X.K own H0 O0 O2 σ2 H2 ρ2 → Same (hide O H1) (hide O2 H2) → (∀ d, ds[i]? = some d → J.go i H2 ∧ ∀ x H', J.yld i H2 x H' → Same H2 H' ∧ Rp X.K (hide O2 H') x d) ∧ (ds.length ≤ i → J.stop i H2))
    (z : SOut X W own H0 O0 O H1 D (forL gt g ds ρ)) :
    ∃ W : Nat → Nat → L2.St → Hp → Prop, (∃ m, W 0 m σ H1) ∧ ∀ i m σ H, W i m σ H →
  (J.stop i H ∧ D.nx σ H) ∨ (J.go i H ∧ ∃ N : L2.St → Hp → Prop, (∀ σ' H', N σ' H' → ∃ m', m' < m ∧ W (i + 1) m' σ' H') ∧ ∀ x H', J.yld i H x H' → tgt x σ H' fun σ2 H2 => tb { D with nx := N, ct := N, bk := D.nx } σ2 H2) := by
    refine ⟨fun i m σ2 H2 => m = ds.length - i ∧ i ≤ ds.length ∧ ∃ O2 ρ2, Rel X.K own H0 O0 O2 σ2 H2 ρ2 ∧ Same (hide O H1) (hide O2 H2) ∧ SOut X W own H0 O0 O2 H2 D (forL gt g (ds.drop i) ρ2), ⟨ds.length, rfl, Nat.zero_le _, O, ρ, r, Same.refl _, z⟩, ?_⟩
    rintro i m σ2 H2 ⟨rfl, hle, O2, ρ2, r2, sF, z2⟩
    obtain ⟨j1, j2⟩ := hJ i H2 O2 σ2 ρ2 r2 sF
    by_cases hlt : i < ds.length
    · have hd : ds[i]? = some ds[i] := List.getElem?_eq_getElem hlt
      obtain ⟨g1, g2⟩ := j1 _ hd
      have hdrop : ds.drop i = ds[i] :: ds.drop (i + 1) := List.drop_eq_getElem_cons hlt
      rw [hdrop] at z2
      unfold forL at z2
      cases eg : gt ds[i] ρ2 with
      | none => rw [eg] at z2; exact z2.elim
      | some ρ3 =>
        rw [eg] at z2
        dsimp only at z2
        refine .inr ⟨g1, fun σ' H' => (i + 1 ≤ ds.length ∧ ∃ O2 ρ2, Rel X.K own H0 O0 O2 σ' H' ρ2 ∧ Same (hide O H1) (hide O2 H') ∧ SOut X W own H0 O0 O2 H' D (forL gt g (ds.drop (i + 1)) ρ2)),
          fun σ' H' hn => ⟨ds.length - (i + 1), by omega, rfl, hn.1, hn.2⟩, fun x H3 y => ?_⟩
        obtain ⟨s23, rx⟩ := g2 x H3 y
        have r3 := r2.step s23
        refine hgt x ds[i] σ2 H3 O2 (mask own ρ2) (mask own ρ3) _ r3.stands r3.vrelM rx (ok.msk own _ ρ2 ρ3 hj eg) fun σ3 v3 l3 f3 => ?_
        have r4 : Rel X.K own H0 O0 O2 σ3 H3 ρ3 := other_of ok hj r3 eg v3 l3 f3 (hin.out _ ρ2 ρ3 eg)
        have sF3 : Same (hide O H1) (hide O2 H3) := sF.trans (hide_same s23)
        refine htb σ3 H3 ρ3 _ H0 O0 O2 r4 ?_
        cases eb : g ρ3 with
        | nx ρ4 =>
          rw [eb] at z2
          exact fun σ5 H5 O5 r5 s5 => ⟨hlt, O5, ρ4, r5, sF3.trans s5, SOut.from z2 ((hide_same s23).trans s5)⟩
        | ct ρ4 =>
          rw [eb] at z2
          exact fun σ5 H5 O5 r5 s5 => ⟨hlt, O5, ρ4, r5, sF3.trans s5, SOut.from z2 ((hide_same s23).trans s5)⟩
        | bk ρ4 =>
          rw [eb] at z2
          exact fun σ5 H5 O5 r5 s5 => z2 σ5 H5 O5 r5 ((hide_same s23).trans s5)
        | rt d => rw [eb] at z2; exact RtW.from z2 (hide_same s23)
        | err c ρ4 =>
          rw [eb] at z2
          exact fun σ5 H5 O5 r5 s5 => z2 σ5 H5 O5 r5 ((hide_same s23).trans s5)
        | bad => rw [eb] at z2; exact z2
    · have e3 : i = ds.length := by omega
      subst e3
      refine .inl ⟨j2 (Nat.le_refl _), ?_⟩
      rw [List.drop_length] at z2
      exact z2 σ2 H2 O2 r2 (Same.refl _)
theorem unset {ρ : Vars} {io m : Nat} {d : PyData} (h : (ρ.set io none)[m]? = some (some d)) : io ≠ m ∧ ρ[m]? = some (some d) := by
  by_cases c : io = m
  · subst c
    by_cases hl : io < ρ.length
    · rw [List.getElem?_set_self hl] at h; cases h
    · rw [List.getElem?_eq_none (by simpa using hl)] at h; cases h
  · rw [List.getElem?_set_ne c] at h; exact ⟨c, h⟩
section
variable {K : PySem.W.Frag} {own : List Nat} {H0 : HB} {O0 O : List Addr} {σ : L2.St} {H : Hp} {ρ : Vars}
theorem Rel.back {io : Nat} {a : Addr} {d : PyData} {o ob : HO} (r : Rel K own ⟨upd H0 a o, (io, a) :: H0.b, fun j => if j = io then .ref a else H0.r j⟩ (a :: O0) O σ H ρ) (s0 : Stands O0 H0) (hr : ∀ p ∈ H0.b, p.1 = io → H0.r p.1 = .ref a) (hmk : ∀ i : Nat, 1000 + i ∈ own → ∃ a, (i, a) ∈ H0.b) (hl : io < ρ.length) (g3 : H0 a = Option.none) (ov : OwnV K (hide O H) (upd H a ob) a d) :
    Rel K own H0 O0 O σ (upd H a ob) (ρ.set io (some d)) ∧ Same (hide O H) (hide O (upd H a ob)) := by
  have up : ∀ {b : Addr}, b ≠ a → (⟨upd H0 a o, (io, a) :: H0.b, fun j => if j = io then .ref a else H0.r j⟩ : HB) b = H0 b := fun {b} n => upd_ne n
  have us : (⟨upd H0 a o, (io, a) :: H0.b, fun j => if j = io then .ref a else H0.r j⟩ : HB) a = some o := upd_same
  obtain ⟨fp, D⟩ := r.deep
  obtain ⟨b1, b2, b3, fa⟩ := D.bor (io, a) List.mem_cons_self
  replace fa : fp io = some a := fa
  replace b3 : σ[io]? = some (some (.ref a)) := by
    rw [show σ[io]? = some (some (if io = io then V.ref a else H0.r io)) from b3, if_pos rfl]
  have b4 : a ∈ O := (D.ino io a b1 fa).1
  have hid : hide O (upd H a ob) = hide O H := hide_upd b4
  have nn : ∀ {b : Addr}, (⟨upd H0 a o, (io, a) :: H0.b, fun j => if j = io then .ref a else H0.r j⟩ : HB) b = Option.none → b ≠ a ∧ H0 b = Option.none := fun {b} h => by
    have n : b ≠ a := fun z => by subst z; rw [us] at h; cases h
    exact ⟨n, by rw [← up n]; exact h⟩
  refine ⟨⟨fun b u h => ?_, s0, by simpa using r.len, fun b hb => r.sub b (List.mem_cons_of_mem _ hb), fun b hb => ?_, fun i e ni h => ?_, ⟨fp, fun i e hi h => ?_, fun i b hi h => ?_, D.dis, fun p hp => ?_⟩, hmk⟩, by rw [hid]; exact Same.refl _⟩
  · have n : b ≠ a := ne_of_none h g3
    rw [upd_ne n]
    exact r.same b u (by show (⟨upd H0 a o, (io, a) :: H0.b, fun j => if j = io then .ref a else H0.r j⟩ : HB) b = some u; rw [up n]; exact h)
  · by_cases c : b = a
    · subst c; exact .inr ⟨g3, ov.own⟩
    · rcases r.lists b hb with h | ⟨h1, u, h2, h3⟩
      · rcases List.mem_cons.mp h with h | h
        · exact absurd h c
        · exact .inl h
      · exact .inr ⟨(nn h1).2, u, by rw [upd_ne c]; exact h2, h3⟩
  · have n : io ≠ i := fun z => ni (z ▸ b1)
    rw [List.getElem?_set_ne n] at h
    rw [hid]; exact r.free i e ni h
  · by_cases c : io = i
    · subst c
      rw [List.getElem?_set_self hl] at h
      cases h
      exact ⟨.ref a, a, b3, fa, by rw [hid]; exact .inl ⟨rfl, ov⟩⟩
    · rw [List.getElem?_set_ne c] at h
      obtain ⟨v, b, k1, k2, k4⟩ := D.at_ i e hi h
      have nb : b ≠ a := fun z => c (D.dis io i a b1 hi fa (by rw [← z]; exact k2))
      exact ⟨v, b, k1, k2, k4.mono (by rw [hid]; exact Same.refl _) fun u hu => by rw [upd_ne nb]; exact hu⟩
  · obtain ⟨k1, k2⟩ := D.ino i b hi h
    refine ⟨k1, fun ⟨d', h'⟩ => ?_⟩
    by_cases c : io = i
    · subst c
      rw [fa] at h; cases h
      exact g3
    · rw [List.getElem?_set_ne c] at h'
      exact (nn (k2 ⟨d', h'⟩)).2
  · obtain ⟨k1, k2, k3, k4⟩ := D.bor p (List.mem_cons_of_mem _ hp)
    refine ⟨k1, k2, ?_, k4⟩
    replace k3 : σ[p.1]? = some (some (if p.1 = io then V.ref a else H0.r p.1)) := k3
    by_cases z : p.1 = io
    · rw [z] at k4; rw [fa] at k4; cases k4
      rw [hr p hp z, z]; exact b3
    · rw [if_neg z] at k3; exact k3
end
end Pu
set_option Elab.async false
set_option linter.all false
set_option maxRecDepth 100000
set_option maxHeartbeats 4000000
namespace Pu
open PySem PySem.Spec PyProof.Rows L2
theorem SameL.hide {O : List Addr} {H H' : Hp} (s : SameL H H') : SameL (hide O H) (hide O H') := fun a o h => by
  obtain ⟨c, e⟩ := hide_some h
  obtain ⟨o', e', z⟩ := s a o e
  exact ⟨o', hide_of c e', z⟩
section
variable {K : PySem.W.Frag} {own : List Nat} {H0 : HB} {O0 O : List Addr} {σ : L2.St} {H : Hp} {ρ : Vars} {a : Addr} {kvs : List (Key × V)} {od : Obj}
end
section
variable {X : Cx} {tg e : Expr} {td : TE} {apos cpos : Pos}
end
end Pu
set_option Elab.async false
set_option linter.all false
set_option maxRecDepth 100000
set_option maxHeartbeats 4000000
namespace Pu
open PySem PySem.Spec PyProof.Rows L2
def delL (H : Hp) (as : List Addr) : Hp := fun b => if b ∈ as then none else H b
theorem delL_in {H : Hp} {as : List Addr} {b : Addr} (h : b ∈ as) : delL H as b = none := if_pos h
theorem delL_out {H : Hp} {as : List Addr} {b : Addr} (h : b ∉ as) : delL H as b = H b := if_neg h
theorem delL_some {H : Hp} {as : List Addr} {b : Addr} {o : HO} (h : delL H as b = some o) : b ∉ as ∧ H b = some o := by
  by_cases c : b ∈ as
  · rw [delL_in c] at h; cases h
  · rw [delL_out c] at h; exact ⟨c, h⟩
theorem delL_same {H : Hp} {as : List Addr} : Same (delL H as) H := fun b o h => (delL_some h).2
def OwnsV (K : PySem.W.Frag) (F H : Hp) : List V → List Addr → List PyData → Prop
  | [], [], [] => True
  | v :: vs, a :: as, d :: ds => Mi K F H v a d ∧ OwnsV K F H vs as ds
  | _, _, _ => False
def ltVs : List Bool → List V → List V
  | true :: ks, v :: vs => v :: ltVs ks vs
  | false :: ks, _ :: vs => ltVs ks vs
  | _, _ => []
def LtV (K : PySem.W.Frag) (F H : Hp) : List Bool → List V → List PyData → List Addr → Prop
  | [], [], [], [] => True
  | false :: ks, v :: vs, d :: ds, as => Rp K F v d ∧ LtV K F H ks vs ds as
  | true :: ks, v :: vs, d :: ds, a :: as => Mi K F H v a d ∧ LtV K F H ks vs ds as
  | _, _, _, _ => False
@[simp] def ltS : Nat → List Bool → List Nat
  | _, [] => []
  | i, true :: ks => i :: ltS (i + 1) ks
  | i, false :: ks => ltS (i + 1) ks
theorem ltS_ge : ∀ {ks : List Bool} {o i : Nat}, i ∈ ltS o ks → o ≤ i
  | [], _, _, h => by cases h
  | true :: ks, o, i, h => by
    rcases List.mem_cons.mp h with h | h
    · omega
    · have := ltS_ge h; omega
  | false :: ks, o, i, h => by have := ltS_ge (ks := ks) h; omega
theorem ltS_nodup : ∀ (ks : List Bool) (o : Nat), (ltS o ks).Nodup
  | [], _ => List.nodup_nil
  | true :: ks, o => List.nodup_cons.mpr ⟨fun h => by have := ltS_ge h; omega, ltS_nodup ks (o + 1)⟩
  | false :: ks, o => ltS_nodup ks (o + 1)
section
variable {K : PySem.W.Frag} {F H : Hp}
theorem LtV.len : ∀ {ks : List Bool} {vs : List V} {ds : List PyData} {as : List Addr}, LtV K F H ks vs ds as → vs.length = ks.length ∧ ds.length = ks.length ∧ as.length = (ltS 0 ks).length := by
  have key : ∀ {ks : List Bool} {vs : List V} {ds : List PyData} {as : List Addr} (o : Nat), LtV K F H ks vs ds as → vs.length = ks.length ∧ ds.length = ks.length ∧ as.length = (ltS o ks).length := by
    intro ks
    induction ks with
    | nil =>
      intro vs ds as o h
      match vs, ds, as, h with
      | [], [], [], _ => exact ⟨rfl, rfl, rfl⟩
    | cons k ks ih =>
      intro vs ds as o h
      match k, vs, ds, as, h with
      | false, v :: vs, d :: ds, as, h =>
        obtain ⟨h1, h2, h3⟩ := ih (o + 1) h.2
        exact ⟨by simp [h1], by simp [h2], h3⟩
      | true, v :: vs, d :: ds, a :: as, h =>
        obtain ⟨h1, h2, h3⟩ := ih (o + 1) h.2
        exact ⟨by simp [h1], by simp [h2], by show as.length + 1 = (ltS (o + 1) ks).length + 1; rw [h3]⟩
  intro ks vs ds as h
  exact key 0 h
theorem LtV.get (o : Nat) : ∀ {ks : List Bool} {vs : List V} {ds : List PyData} {as : List Addr}, LtV K F H ks vs ds as → ∀ (i : Nat) (d : PyData), ds[i]? = some d →
    (ks[i]? = some false → ∃ v, vs[i]? = some v ∧ Rp K F v d) ∧ (ks[i]? = some true → ∃ v a, vs[i]? = some v ∧ Mi K F H v a d ∧ (o + i, a) ∈ (ltS o ks).zip as) := by
  intro ks
  induction ks generalizing o with
  | nil =>
    intro vs ds as h i d hd
    match vs, ds, as, h with
    | [], [], [], _ => simp at hd
  | cons k ks ih =>
    intro vs ds as h i d hd
    match k, vs, ds, as, h with
    | false, v :: vs, e :: ds, as, h =>
      cases i with
      | zero => simp at hd; subst hd; exact ⟨fun _ => ⟨v, rfl, h.1⟩, fun z => by simp at z⟩
      | succ i =>
        obtain ⟨h1, h2⟩ := ih (o + 1) h.2 i d (by simpa using hd)
        refine ⟨fun z => ?_, fun z => ?_⟩
        · obtain ⟨w, e1, e2⟩ := h1 (by simpa using z); exact ⟨w, by simpa using e1, e2⟩
        · obtain ⟨w, a, e1, e2, e3⟩ := h2 (by simpa using z)
          exact ⟨w, a, by simpa using e1, e2, by rw [show o + (i + 1) = o + 1 + i by omega]; exact e3⟩
    | true, v :: vs, e :: ds, a :: as, h =>
      cases i with
      | zero => simp at hd; subst hd; exact ⟨fun z => by simp at z, fun _ => ⟨v, a, rfl, h.1, by rw [Nat.add_zero]; exact List.mem_cons_self⟩⟩
      | succ i =>
        obtain ⟨h1, h2⟩ := ih (o + 1) h.2 i d (by simpa using hd)
        refine ⟨fun z => ?_, fun z => ?_⟩
        · obtain ⟨w, e1, e2⟩ := h1 (by simpa using z); exact ⟨w, by simpa using e1, e2⟩
        · obtain ⟨w, b, e1, e2, e3⟩ := h2 (by simpa using z)
          exact ⟨w, b, by simpa using e1, e2, by rw [show o + (i + 1) = o + 1 + i by omega]; exact List.mem_cons_of_mem _ e3⟩
theorem LtV.lent (o : Nat) : ∀ {ks : List Bool} {vs : List V} {ds : List PyData} {as : List Addr}, LtV K F H ks vs ds as → ∀ p ∈ (ltS o ks).zip as, ∃ i d v, p.1 = o + i ∧ ks[i]? = some true ∧ vs[i]? = some v ∧ ds[i]? = some d ∧ Mi K F H v p.2 d := by
  intro ks
  induction ks generalizing o with
  | nil => intro vs ds as h p hp; cases as <;> cases hp
  | cons k ks ih =>
    intro vs ds as h p hp
    match k, vs, ds, as, h with
    | false, v :: vs, e :: ds, as, h =>
      obtain ⟨i, d, w, h1, h2, h3, h4, h5⟩ := ih (o + 1) h.2 p hp
      exact ⟨i + 1, d, w, by omega, by simpa using h2, by simpa using h3, by simpa using h4, h5⟩
    | true, v :: vs, e :: ds, a :: as, h =>
      rcases List.mem_cons.mp hp with z | z
      · subst z; exact ⟨0, e, v, rfl, rfl, rfl, rfl, h.1⟩
      · obtain ⟨i, d, w, h1, h2, h3, h4, h5⟩ := ih (o + 1) h.2 p z
        exact ⟨i + 1, d, w, by omega, by simpa using h2, by simpa using h3, by simpa using h4, h5⟩
end
theorem zip_fst {α β : Type} {xs : List α} {ys : List β} (h : ys.Nodup) {p q : α × β} (hp : p ∈ xs.zip ys) (hq : q ∈ xs.zip ys) (e : p.2 = q.2) : p = q := by
  obtain ⟨i, hi⟩ := List.getElem?_of_mem hp
  obtain ⟨j, hj⟩ := List.getElem?_of_mem hq
  rw [List.getElem?_zip_eq_some] at hi hj
  have : i = j := (List.getElem?_inj (List.getElem?_eq_some_iff.mp hi.2).1 h).mp (by rw [hi.2, hj.2, e])
  subst this
  have h1 := hi.1.symm.trans hj.1
  injection h1 with h1
  exact Prod.ext h1 e
def PpOut (K : PySem.W.Frag) (mg : Str → Option Value) (O : List Addr) (lv : List V) (as : List Addr) (H : Hp) (Q : VK) (E : XK) : R PyData → Prop
  | .ok (.tuple (d :: dds)) => ∀ v H', Same (delL H as) H' → Rp K (hide O H') v d → OwnsV K (hide O H') H' lv as dds → Q v H'
  | .err c => ∀ H', Same (delL H as) H' → (∀ a ∈ as, ∃ o, H' a = some o ∧ OwnO o) → E (exV mg c) none H'
  | _ => False
def spP (K : PySem.W.Frag) (mg : Str → Option Value) (ks : List Bool) (f : List PyData → R PyData) : Sp := fun vs H Q E =>
  ∃ O ds as, Stands O H ∧ (∀ a ∈ as, a ∈ O) ∧ as.Nodup ∧ LtV K (hide O H) H ks vs ds as ∧ PpOut K mg O (ltVs ks vs) as H Q E (f ds)
@[simp] def lentD (bs : List Nat) (ρ : Vars) : Option (List PyData) := bs.mapM fun i => ρ.getD i none
@[simp] def lentKV (bs : List Nat) (ds : List PyData) : List (PyData × PyData) := (bs.zip ds).map fun p => (.int (p.1 : Nat), p.2)
@[simp] def sRetP (bs own : List Nat) (f : Vars → R PyData) (ρ : Vars) : Out := (f (mask own ρ)).run ρ fun d => match lentD bs ρ with
  | some dds => .rt (.tuple [d, .dict (lentKV bs dds)])
  | none => .bad
@[simp] def sRetPi (bs : List Nat) (f : Vars → R PyData) (ρ : Vars) : Out := (f ρ).run ρ fun d => match lentD bs ρ with
  | some dds => if imm d = true then .rt (.tuple [d, .dict (lentKV bs dds)]) else .bad
  | none => .bad
theorem lkp_lent {bs : List Nat} {ρ : Vars} {io : Nat} {dd : PyData} : ∀ {dds : List PyData}, lentD bs ρ = some dds → lkp (lentKV bs dds) io = some dd → ρ.getD io none = some dd := by
  induction bs with
  | nil => intro dds h1 h2; cases dds <;> cases h2
  | cons b bs ih =>
    intro dds h1 h2
    unfold lentD at h1
    rw [List.mapM_cons] at h1
    cases e : ρ.getD b none with
    | none => rw [e] at h1; cases h1
    | some d =>
      rw [e] at h1
      cases e2 : bs.mapM fun i => ρ.getD i none with
      | none => rw [e2] at h1; cases h1
      | some ds =>
        rw [e2] at h1
        have h1 : some (d :: ds) = some dds := h1
        cases h1
        have h2 : (if ((b : Nat) : Int) = (io : Nat) then some d else lkp (lentKV bs ds) io) = some dd := h2
        by_cases c : ((b : Nat) : Int) = (io : Nat)
        · rw [if_pos c] at h2
          have : b = io := by omega
          rw [← this, e, ← h2]
        · rw [if_neg c] at h2
          exact ih e2 h2
section
variable {X : Cx} {W : WX} {own : List Nat}
theorem Rel.lentM {K : PySem.W.Frag} {H0 : HB} {O0 O : List Addr} {σ : L2.St} {H : Hp} {ρ : Vars} (r : Rel K own H0 O0 O σ H ρ) {p : Nat × Addr} (hp : p ∈ H0.b) {dd : PyData} (hd : ρ[p.1]? = some (some dd)) : Mi K (hide O H) H (H0.r p.1) p.2 dd := by
  obtain ⟨fp, D⟩ := r.deep
  obtain ⟨b1, b2, b3, b4⟩ := D.bor p hp
  obtain ⟨v, a, h1, h2, h3⟩ := D.at_ p.1 dd b1 hd
  rw [b3] at h1
  rw [b4] at h2
  cases h1; cases h2
  exact h3
theorem ret_lent {H0 : HB} {O0 O : List Addr} {σ : L2.St} {H : Hp} {ρ : Vars} {D : Ends} {v : V} {d : PyData} {bs : List Nat} {dds : List PyData} {F : Hp} (r : Rel X.K own H0 O0 O σ H ρ) (hm : ∀ p ∈ H0.b, True) (ne : H0.b ≠ []) (rv : Rp X.K (hide O H) v d) (hl : lentD bs ρ = some dds) (sF : Same F (hide O H))
    (z : RtW X.K H0 O0 F D (.tuple [d, .dict (lentKV bs dds)])) : D.rt v H := by
  unfold RtW at z
  cases e : H0.b with
  | nil => exact absurd e ne
  | cons b bs' =>
    rw [e] at z
    dsimp only at z
    have sub : ∀ a ∈ (b :: bs').map (·.2) ++ O0, a ∈ O := fun a ha => by
      rcases List.mem_append.mp ha with h | h
      · obtain ⟨p, hp, rfl⟩ := List.mem_map.mp h
        exact (r.bor p (by rw [e]; exact hp)).2.2.2
      · exact r.sub a h
    refine z v H O r.same sF (rv.mono (hide_less sub)) fun p hp dd hdd => ?_
    have g := lkp_lent hl hdd
    exact (r.lentM (by rw [e]; exact hp) (getD_some g)).mono (hide_less sub) fun o ho => ho
theorem marked {H0 : HB} {O0 O : List Addr} {σ : L2.St} {H : Hp} {ρ : Vars} {io : Nat} (r : Rel X.K own H0 O0 O σ H ρ) (om : own.contains (1000 + io) = true) : H0.b ≠ [] := fun z => by
  obtain ⟨a, h⟩ := r.mark io (List.contains_iff_mem.mp om)
  rw [z] at h; cases h
theorem sx_retP {io : Nat} {bs : List Nat} {e : Expr} {f : Vars → R PyData} {pos : Pos} (h : EX X W e f) (om : own.contains (1000 + io) = true) : SX X W own (.Return (some e) pos) (sRetP (io :: bs) own f) := by
  obtain ⟨t, p, ht⟩ := h
  refine ⟨_, ps_ret p, fun σ H ρ D H0 O0 O r z => ht σ H O _ _ r.stands r.vrelM (EOut.run r z fun d v H' s rv z' r' => ?_)⟩
  cases e : lentD (io :: bs) ρ with
  | none => rw [e] at z'; exact z'.elim
  | some dds => rw [e] at z'; exact ret_lent r' (fun _ _ => trivial) (marked r om) rv e (Same.refl _) z'
theorem sx_retPi {io : Nat} {bs : List Nat} {e : Expr} {f : Vars → R PyData} {pos : Pos} (h : EX X W e f) (om : own.contains (1000 + io) = true) : SX X W own (.Return (some e) pos) (sRetPi (io :: bs) f) := by
  obtain ⟨t, p, ht⟩ := h
  refine ⟨_, ps_ret p, fun σ H ρ D H0 O0 O r z => ht σ H O0 _ _ r.stands0 r.vrel0 (EOut.run r z fun d v H' s rv z' r' => ?_)⟩
  cases e : lentD (io :: bs) ρ with
  | none => rw [e] at z'; exact z'.elim
  | some dds =>
    rw [e] at z'
    dsimp only at z'
    by_cases c : imm d = true
    · rw [if_pos c] at z'; exact ret_lent r' (fun _ _ => trivial) (marked r om) (r'.imm rv c) e (Same.refl _) z'
    · rw [if_neg c] at z'; exact z'.elim
end
section
variable (X : Cx) (E : XK)
def BOutP (H0 : HB) (O0 : List Addr) (Q : VK) : Out → Prop
  | .nx ρ => ∀ H', Same H0 H' → (∀ p ∈ H0.b, ∀ dd, ρ[p.1]? = some (some dd) → Mi X.K (hide (H0.b.map (·.2) ++ O0) H') H' (H0.r p.1) p.2 dd) → Q .non H'
  | .rt (.tuple [d1, .dict kvs]) => ∀ v H', Same H0 H' → Rp X.K (hide (H0.b.map (·.2) ++ O0) H') v d1 → (∀ p ∈ H0.b, ∀ dd, lkp kvs p.1 = some dd → Mi X.K (hide (H0.b.map (·.2) ++ O0) H') H' (H0.r p.1) p.2 dd) → Q v H'
  | .err c _ => ∀ H', Same H0 H' → (∀ p ∈ H0.b, ∃ o, H' p.2 = some o ∧ OwnO o) → E (exV X.mg c) none H'
  | _ => False
def BXP (own : List Nat) (sts : List Stmt) (g : Vars → Out) : Prop :=
  ∃ t, PSs X sts t ∧ ∀ σ H ρ Q H0 O0 O, Rel X.K own H0 O0 O σ H ρ → H0.b ≠ [] → (∀ p ∈ H0.b, H0 p.2 = none) → BOutP X E H0 O0 Q (g ρ) → t { nx := fun _ H' => Q .non H', rt := Q } σ H
end
section
variable {X : Cx} {E : XK} {own : List Nat}
theorem lent_own {H0 : HB} {O0 O : List Addr} {σ : L2.St} {H : Hp} {ρ : Vars} (r : Rel X.K own H0 O0 O σ H ρ) (hn : ∀ p ∈ H0.b, H0 p.2 = none) : ∀ p ∈ H0.b, ∃ o, H p.2 = some o ∧ OwnO o := fun p hp => by
  rcases r.lists p.2 (r.bor p hp).2.2.2 with h | ⟨_, h⟩
  · exact absurd h (r.notO0 (hn p hp))
  · exact h
theorem lent_sub {H0 : HB} {O0 O : List Addr} {σ : L2.St} {H : Hp} {ρ : Vars} (r : Rel X.K own H0 O0 O σ H ρ) : ∀ a ∈ H0.b.map (·.2) ++ O0, a ∈ O := fun a ha => by
  rcases List.mem_append.mp ha with h | h
  · obtain ⟨p, hp, rfl⟩ := List.mem_map.mp h
    exact (r.bor p hp).2.2.2
  · exact r.sub a h
theorem lent_at {H0 : HB} {O0 O : List Addr} {σ : L2.St} {H : Hp} {ρ : Vars} (r : Rel X.K own H0 O0 O σ H ρ) : ∀ p ∈ H0.b, ∀ dd, ρ[p.1]? = some (some dd) → Mi X.K (hide (H0.b.map (·.2) ++ O0) H) H (H0.r p.1) p.2 dd := fun p hp dd hd => (r.lentM hp hd).mono (hide_less (lent_sub r)) fun o ho => ho
theorem rt_of {H0 : HB} {O0 : List Addr} {F : Hp} {D : Ends} {d : PyData} (ne : H0.b ≠ []) (h : ∃ d1 kvs, d = .tuple [d1, .dict kvs] ∧ ∀ v H', Same H0 H' → Rp X.K (hide (H0.b.map (·.2) ++ O0) H') v d1 → (∀ p ∈ H0.b, ∀ dd, lkp kvs p.1 = some dd → Mi X.K (hide (H0.b.map (·.2) ++ O0) H') H' (H0.r p.1) p.2 dd) → D.rt v H') : RtW X.K H0 O0 F D d := by
  obtain ⟨d1, kvs, rfl, h⟩ := h
  unfold RtW
  cases e : H0.b with
  | nil => exact absurd e ne
  | cons b bs =>
    rw [e] at h
    exact fun v H' O' s0 _ rv ov => h v H' s0 rv ov
theorem BOutP.rt {H0 : HB} {O0 : List Addr} {Q : VK} {d : PyData} (z : BOutP X E H0 O0 Q (.rt d)) : ∃ d1 kvs, d = .tuple [d1, .dict kvs] ∧ ∀ v H', Same H0 H' → Rp X.K (hide (H0.b.map (·.2) ++ O0) H') v d1 → (∀ p ∈ H0.b, ∀ dd, lkp kvs p.1 = some dd → Mi X.K (hide (H0.b.map (·.2) ++ O0) H') H' (H0.r p.1) p.2 dd) → Q v H' := by
  unfold BOutP at z
  split at z
  · rename_i e; cases e
  · rename_i e; cases e; exact ⟨_, _, rfl, z⟩
  · rename_i e; cases e
  · exact z.elim
theorem BXP.of {sts : List Stmt} {g : Vars → Out} (h : SsX X (WD E) own sts g) : BXP X E own sts g := by
  obtain ⟨t, p, ht⟩ := h
  refine ⟨t, p, fun σ H ρ Q H0 O0 O r ne hn z => ht σ H ρ _ H0 O0 O r ?_⟩
  cases e : g ρ with
  | nx ρ' => rw [e] at z; exact fun σ' H' O' r' s' => z H' r'.same (lent_at r')
  | rt d => rw [e] at z; exact rt_of ne z.rt
  | err c ρ' => rw [e] at z; exact fun σ' H' O' r' s' => z H' r'.same (lent_own r' hn)
  | bk _ => rw [e] at z; exact z.elim
  | ct _ => rw [e] at z; exact z.elim
  | bad => rw [e] at z; exact z.elim
theorem BXP.cons {st : Stmt} {rest : List Stmt} {g h : Vars → Out} {own' : List Nat} (a : SX X (WD E) own st g) (b : BXP X E own' rest h) (ho : (own'.all fun i => own.contains i) = true) (hk : keepB own own' = true := by rfl) : BXP X E own (st :: rest) (sSeq g h) := by
  obtain ⟨t, p, ht⟩ := a
  obtain ⟨u, q, hu⟩ := b
  refine ⟨_, pss_cons p q, fun σ H ρ Q H0 O0 O r ne hn z => ht σ H ρ _ H0 O0 O r ?_⟩
  unfold sSeq at z
  cases e : g ρ with
  | nx ρ1 =>
    rw [e] at z
    intro σ1 H1 O1 r1 s1
    obtain ⟨O2, r2, _⟩ := r1.freeze (own' := own') (fun i hi => List.contains_iff_mem.mp (List.all_eq_true.mp ho i hi)) (r1.keep hk)
    exact hu σ1 H1 ρ1 Q H0 O0 O2 r2 ne hn z
  | rt d => rw [e] at z; exact rt_of ne (BOutP.rt z)
  | err c ρ' => rw [e] at z; exact fun σ' H' O' r' s' => z H' r'.same (lent_own r' hn)
  | bk _ => rw [e] at z; exact z.elim
  | ct _ => rw [e] at z; exact z.elim
  | bad => rw [e] at z; exact z.elim
end
@[simp] def fnDP (N : Nat) (bs : List Nat) (g : Vars → Out) (ds : List PyData) : R PyData := match g (ds.map some ++ List.replicate (N - ds.length) none) with
  | .nx ρ => match lentD bs ρ with
    | some dds => .ok (.tuple (.none :: dds))
    | none => .bad
  | .rt (.tuple [d, .dict kvs]) => match bs.mapM fun i => lkp kvs i with
    | some dds => .ok (.tuple (d :: dds))
    | none => .bad
  | .err c _ => .err c
  | _ => .bad
section
variable {P : Program} {w : World} {K : PySem.W.Frag} {mg : Str → Option Value} {base : Heap}
theorem start_lent {own : List Nat} {N : List Str} {H : Hp} {O as : List Addr} {vs : List V} {ds : List PyData} {ks : List Bool} (hO : Stands O H) (ha : ∀ a ∈ as, a ∈ O) (nd : as.Nodup) (r : LtV K (hide O H) H ks vs ds as) (hl : ds.length ≤ N.length)
    (ho : ∀ i ∈ own, ds.length ≤ i ∨ ks[i]? = some true) (hi : ∀ i ∈ ltS 0 ks, i ∈ own ∧ 1000 + i ∈ own) (hm : ∀ i : Nat, 1000 + i ∈ own → i ∈ ltS 0 ks) :
    Rel K own ⟨delL H as, (ltS 0 ks).zip as, fun i => vs.getD i .non⟩ (O.filter fun a => decide (a ∉ as)) O (L2.start N vs) H (ds.map some ++ List.replicate (N.length - ds.length) none) := by
  obtain ⟨l1, l2, l3⟩ := r.len
  have at_ : ∀ (i : Nat) (d : PyData), (ds.map some ++ List.replicate (N.length - ds.length) none)[i]? = some (some d) → ds[i]? = some d := fun i d e => by
    by_cases h : i < ds.length
    · rw [List.getElem?_append_left (by simpa using h), List.getElem?_map] at e
      cases q : ds[i]? with
      | none => rw [q] at e; cases e
      | some x => rw [q] at e; cases e; rfl
    · rw [List.getElem?_append_right (by simpa using h), List.getElem?_replicate] at e
      split at e <;> cases e
  have st : ∀ (i : Nat) (v : V), vs[i]? = some v → (L2.start N vs)[i]? = some (some v) := fun i v e => by
    unfold L2.start
    have hl := (List.getElem?_eq_some_iff.mp e).1
    rw [List.getElem?_append_left (by rw [List.length_map]; exact hl), List.getElem?_map, e]; rfl
  have own_at : ∀ (i : Nat) (d : PyData), i ∈ own → ds[i]? = some d → ∃ v a, vs[i]? = some v ∧ Mi K (hide O H) H v a d ∧ (i, a) ∈ (ltS 0 ks).zip as := fun i d hi hd => by
    have : ks[i]? = some true := (ho i hi).elim (fun h => absurd (List.getElem?_eq_some_iff.mp hd).1 (by omega)) id
    obtain ⟨v, a, h1, h2, h3⟩ := (r.get 0 i d hd).2 this
    exact ⟨v, a, h1, h2, by rw [Nat.zero_add] at h3; exact h3⟩
  have mem_as : ∀ p ∈ (ltS 0 ks).zip as, p.2 ∈ as := fun p hp => (List.of_mem_zip hp).2
  have zl : ∀ {i : Nat} {a b : Addr}, (i, a) ∈ (ltS 0 ks).zip as → (i, b) ∈ (ltS 0 ks).zip as → a = b := fun {i a b} h1 h2 => by
    obtain ⟨m, hm1⟩ := List.getElem?_of_mem h1
    obtain ⟨n, hn1⟩ := List.getElem?_of_mem h2
    rw [List.getElem?_zip_eq_some] at hm1 hn1
    have : m = n := (List.getElem?_inj (List.getElem?_eq_some_iff.mp hm1.1).1 (ltS_nodup ks 0)).mp (by rw [hm1.1, hn1.1])
    subst this
    have := hm1.2.symm.trans hn1.2
    injection this
  classical
  let fp : Nat → Option Addr := fun i => if h : ∃ a, (i, a) ∈ (ltS 0 ks).zip as then some h.choose else none
  have fpat : ∀ {i : Nat} {a : Addr}, (i, a) ∈ (ltS 0 ks).zip as → fp i = some a := fun {i a} h => by
    have hx : ∃ a, (i, a) ∈ (ltS 0 ks).zip as := ⟨a, h⟩
    show (if h : ∃ a, (i, a) ∈ (ltS 0 ks).zip as then some h.choose else none) = some a
    rw [dif_pos hx, zl hx.choose_spec h]
  have fpof : ∀ {i : Nat} {a : Addr}, fp i = some a → (i, a) ∈ (ltS 0 ks).zip as := fun {i a} h => by
    have h : (if h : ∃ a, (i, a) ∈ (ltS 0 ks).zip as then some h.choose else none) = some a := h
    by_cases hx : ∃ a, (i, a) ∈ (ltS 0 ks).zip as
    · rw [dif_pos hx] at h
      cases h
      exact hx.choose_spec
    · rw [dif_neg hx] at h; cases h
  refine ⟨delL_same, fun b hb => ?_, ?_, fun b hb => (List.mem_filter.mp hb).1, fun b hb => ?_, fun i d ni e => ?_, ⟨fp, fun i d hi' e => ?_, fun i a hi' e => ⟨ha a (mem_as _ (fpof e)), fun _ => delL_in (mem_as _ (fpof e))⟩, fun i j a hi' hj e1 e2 => congrArg Prod.fst (zip_fst nd (fpof e1) (fpof e2) rfl), fun p hp => ?_⟩, fun i h => ?_⟩
  · obtain ⟨o, q1, q2⟩ := hO b (List.mem_filter.mp hb).1
    exact ⟨o, by show delL H as b = _; rw [delL_out (of_decide_eq_true (List.mem_filter.mp hb).2)]; exact q1, q2⟩
  · unfold L2.start
    rw [List.length_append, List.length_append, List.length_map, List.length_map, List.length_replicate, List.length_replicate, l1, l2]
  · by_cases c : b ∈ as
    · refine .inr ⟨delL_in c, ?_⟩
      obtain ⟨j, hj⟩ := List.getElem?_of_mem c
      have hjl : j < (ltS 0 ks).length := by rw [← l3]; exact (List.getElem?_eq_some_iff.mp hj).1
      have hp : ((ltS 0 ks)[j], b) ∈ (ltS 0 ks).zip as := List.mem_of_getElem? (i := j) (by rw [List.getElem?_zip_eq_some]; exact ⟨List.getElem?_eq_getElem hjl, hj⟩)
      obtain ⟨i, d, v, _, _, _, _, ov⟩ := r.lent 0 _ hp
      exact ov.own
    · exact .inl (List.mem_filter.mpr ⟨hb, decide_eq_true c⟩)
  · have hd := at_ i d e
    cases q : ks[i]? with
    | none => have := (List.getElem?_eq_some_iff.mp hd).1; rw [l2] at this; rw [List.getElem?_eq_none_iff] at q; omega
    | some b =>
      cases b with
      | false =>
        obtain ⟨v, h1, h2⟩ := (r.get 0 i d hd).1 q
        exact ⟨v, st i v h1, h2⟩
      | true =>
        obtain ⟨v, a, _, _, h3⟩ := (r.get 0 i d hd).2 q
        rw [Nat.zero_add] at h3
        exact absurd (hi i (List.of_mem_zip h3).1).1 ni
  · obtain ⟨v, a, h1, h2, h3⟩ := own_at i d hi' (at_ i d e)
    exact ⟨v, a, st i _ h1, fpat h3, h2⟩
  · obtain ⟨i, d, v, h1, h2, h3, h4, h5⟩ := r.lent 0 p hp
    rw [Nat.zero_add] at h1
    obtain ⟨m1, m2⟩ := hi p.1 (List.of_mem_zip hp).1
    refine ⟨m1, m2, ?_, fpat hp⟩
    show _ = some (some (vs.getD p.1 .non))
    rw [h1, List.getD_eq_getElem?_getD, h3]
    exact st i _ h3
  · obtain ⟨j, hj⟩ := List.getElem?_of_mem (hm i h)
    have hjl : j < as.length := by rw [l3]; exact (List.getElem?_eq_some_iff.mp hj).1
    exact ⟨as[j], List.mem_of_getElem? (i := j) (by rw [List.getElem?_zip_eq_some]; exact ⟨hj, List.getElem?_eq_getElem hjl⟩)⟩
theorem ltVs_map (ks : List Bool) : ∀ (vs : List V) (o : Nat) (f : Nat → V), vs.length = ks.length → (∀ i, i < vs.length → f (o + i) = vs.getD i .non) → ltVs ks vs = (ltS o ks).map f := by
  induction ks with
  | nil => intro vs o f l _; cases vs with
    | nil => rfl
    | cons => cases l
  | cons k ks ih =>
    intro vs o f l h
    cases vs with
    | nil => cases l
    | cons v vs =>
      have e0 : f o = v := h 0 (by simp)
      have r := ih vs (o + 1) f (by simpa using l) fun i hi => by
        have := h (i + 1) (by simpa using hi)
        rw [show o + 1 + i = o + (i + 1) by omega]; simpa using this
      cases k with
      | true => show v :: ltVs ks vs = f o :: (ltS (o + 1) ks).map f; rw [e0, r]
      | false => exact r
theorem owns_of {K : PySem.W.Frag} {F H : Hp} {f : Nat → Option PyData} {r : Nat → V} : ∀ {bs : List Nat} {as : List Addr} {dds : List PyData}, bs.mapM f = some dds → as.length = bs.length → (∀ p ∈ bs.zip as, ∀ dd, f p.1 = some dd → Mi K F H (r p.1) p.2 dd) → OwnsV K F H (bs.map r) as dds
  | [], [], dds, h, _, _ => by
    have : some [] = some dds := h
    cases this; trivial
  | [], _ :: _, _, _, l, _ => by cases l
  | _ :: _, [], _, _, l, _ => by cases l
  | b :: bs, a :: as, dds, h, l, o => by
    rw [List.mapM_cons] at h
    cases e : f b with
    | none => rw [e] at h; cases h
    | some d =>
      rw [e] at h
      cases e2 : bs.mapM f with
      | none => rw [e2] at h; cases h
      | some ds =>
        rw [e2] at h
        have h : some (d :: ds) = some dds := h
        cases h
        exact ⟨o (b, a) List.mem_cons_self d e, owns_of e2 (by simpa using l) fun p hp dd hd => o p (List.mem_cons_of_mem _ hp) dd hd⟩
theorem fn_dataP {x qual : Str} {st : Stmt} {f : Addr} {fd : FuncData} {N ps : List Str} {k : Nat} {ks : List Bool} {own : List Nat} {g : Vars → Out} (F : Fun K x qual st f fd) (S : FnScope N ps (defScope st)) (hn : ps.length = ks.length)
    (ho : (own.all fun i => decide (ks.length ≤ i) || decide (ks[i]? = some true)) = true) (hi : ((ltS 0 ks).all fun i => own.contains i && own.contains (1000 + i)) = true) (hm : (own.all fun i => decide (i < 1000) || (ltS 0 ks).contains (i - 1000)) = true) (hne : (ltS 0 ks).isEmpty = false)
    (hb : ∀ (cdv : Value) (A : Around) (outer : List Env) (s : Shared) (H : Hp) (E : XK), Room k (A.deeper (envOfC qual (defScope st) s.heap.objs.size f cdv)) → BXP (cxOf (L2.CX P w) P w K mg base N qual (defScope st) f cdv A outer s H E) E own (defBody st) g) :
    FnOk P w K mg base (L2.CX P w) (k + 1) f fd ps (spP K mg ks (fnDP N.length (ltS 0 ks) g)) := by
  refine F.okX S (fun vs H Q E h => ?_) fun cdv A outer s H vs Q E hr h => ?_
  · obtain ⟨O, ds, as, _, _, _, r, _⟩ := h
    rw [r.len.1, hn]
  obtain ⟨O, ds, as, hO, ha, nd, r, z⟩ := h
  obtain ⟨l1, l2, l3⟩ := r.len
  obtain ⟨t, p, ht⟩ := hb cdv A outer s H E hr
  have hpl : ps.length ≤ N.length := by have := congrArg List.length S.pre; rw [List.length_take] at this; omega
  have R0 := start_lent (K := K) (own := own) (N := N) hO ha nd r (by omega) (fun i h => by
      have := List.all_eq_true.mp ho i h
      rw [Bool.or_eq_true] at this
      rcases this with z | z
      · exact .inl (by rw [l2]; exact of_decide_eq_true z)
      · exact .inr (of_decide_eq_true z)) (fun i h => by
      have := List.all_eq_true.mp hi i h
      rw [Bool.and_eq_true] at this
      exact ⟨List.contains_iff_mem.mp this.1, List.contains_iff_mem.mp this.2⟩) (fun i h => by
      have := List.all_eq_true.mp hm _ h
      rw [Bool.or_eq_true] at this
      rcases this with z | z
      · exact absurd (of_decide_eq_true z) (by omega)
      · rw [show 1000 + i - 1000 = i by omega] at z; exact List.contains_iff_mem.mp z)
  have zne : (ltS 0 ks).zip as ≠ [] := fun z => by
    cases e : ltS 0 ks with
    | nil => rw [e] at hne; cases hne
    | cons b bs =>
      rw [e] at z l3
      cases as with
      | nil => cases l3
      | cons a as => cases z
  have hmap : ((ltS 0 ks).zip as).map (·.2) = as := by
    rw [← List.unzip_snd, List.unzip_zip (by rw [l3])]
  have hF : ∀ H' : Hp, hide (((ltS 0 ks).zip as).map (·.2) ++ O.filter fun a => decide (a ∉ as)) H' = hide O H' := fun H' => by
    rw [hmap]
    funext b
    unfold hide
    by_cases c : b ∈ O
    · rw [if_pos c, if_pos (by
        by_cases c2 : b ∈ as
        · exact List.mem_append_left _ c2
        · exact List.mem_append_right _ (List.mem_filter.mpr ⟨c, decide_eq_true c2⟩))]
    · rw [if_neg c, if_neg (fun z => by
        rcases List.mem_append.mp z with z | z
        · exact c (ha b z)
        · exact c (List.mem_filter.mp z).1)]
  refine ⟨t, p, ht _ H _ Q _ _ O R0 zne (fun p hp => delL_in (List.of_mem_zip hp).2) ?_⟩
  have hlv : ltVs ks vs = (ltS 0 ks).map fun i => vs.getD i .non := ltVs_map ks vs 0 _ l1 fun i _ => by rw [Nat.zero_add]
  rw [hlv] at z
  unfold fnDP at z
  cases e : g (ds.map some ++ List.replicate (N.length - ds.length) none) with
  | nx ρ' =>
    rw [e] at z
    dsimp only at z
    cases e2 : lentD (ltS 0 ks) ρ' with
    | none => rw [e2] at z; exact z.elim
    | some dds =>
      rw [e2] at z
      intro H' s0 ov
      refine z .non H' s0 .non (owns_of e2 l3 fun p hp dd hd => ?_)
      have := ov p hp dd (getD_some hd)
      rw [hF] at this; exact this
  | rt d =>
    rw [e] at z
    have key : ∃ d1 kvs, d = .tuple [d1, .dict kvs] ∧ PpOut K mg O ((ltS 0 ks).map fun i => vs.getD i .non) as H Q E (match (ltS 0 ks).mapM fun i => lkp kvs i with
      | some dds => .ok (.tuple (d1 :: dds))
      | none => .bad) := by
      split at z
      · rename_i h; cases h
      · rename_i h; cases h; exact ⟨_, _, rfl, z⟩
      · rename_i h; cases h
      · exact z.elim
    clear z
    obtain ⟨d1, kvs, rfl, z⟩ := key
    cases e2 : (ltS 0 ks).mapM fun i => lkp kvs i with
    | none => rw [e2] at z; exact z.elim
    | some dds =>
      rw [e2] at z
      intro v H' s0 rv ov
      refine z v H' s0 (by rw [hF] at rv; exact rv) (owns_of e2 l3 fun p hp dd hd => ?_)
      have := ov p hp dd hd
      rw [hF] at this; exact this
  | err c ρ' =>
    rw [e] at z
    intro H' s0 ov
    refine z H' s0 fun a h => ?_
    obtain ⟨j, hj⟩ := List.getElem?_of_mem h
    have hjl : j < (ltS 0 ks).length := by rw [← l3]; exact (List.getElem?_eq_some_iff.mp hj).1
    exact ov ((ltS 0 ks)[j], a) (List.mem_of_getElem? (i := j) (by rw [List.getElem?_zip_eq_some]; exact ⟨List.getElem?_eq_getElem hjl, hj⟩))
  | bk _ => rw [e] at z; exact z.elim
  | ct _ => rw [e] at z; exact z.elim
  | bad => rw [e] at z; exact z.elim
end
end Pu
set_option Elab.async false
set_option linter.all false
set_option maxRecDepth 100000
set_option maxHeartbeats 4000000
namespace Pu
open PySem PySem.Spec PyProof.Rows L2
inductive RE where
  | ok (d : PyData) (ρ : Vars) | err (c : Str) (ρ : Vars) | bad
inductive RA where
  | ok (ds : List PyData) (ρ : Vars) | err (c : Str) (ρ : Vars) | bad
@[simp] def RE.then (r : RE) (k : PyData → Vars → RE) : RE := match r with
  | .ok d ρ => k d ρ
  | .err c ρ => .err c ρ
  | .bad => .bad
@[simp] def RA.then (r : RA) (k : List PyData → Vars → RE) : RE := match r with
  | .ok d ρ => k d ρ
  | .err c ρ => .err c ρ
  | .bad => .bad
@[simp] def RE.run (r : RE) (k : PyData → Vars → Out) : Out := match r with
  | .ok d ρ => k d ρ
  | .err c ρ => .err c ρ
  | .bad => .bad
@[simp] def RA.run (r : RA) (k : List PyData → Vars → Out) : Out := match r with
  | .ok d ρ => k d ρ
  | .err c ρ => .err c ρ
  | .bad => .bad
section
variable (X : Cx) (W : WX) (own : List Nat)
def EE (H0 : HB) (O0 O : List Addr) (σ : L2.St) (H : Hp) (Q : VK) : RE → Prop
  | .ok d ρ => ∀ v H' O', Rel X.K own H0 O0 O' σ H' ρ → Same (hide O H) (hide O' H') → Rp X.K (hide O' H') v d → Q v H'
  | .err c ρ => ∀ H' O', Rel X.K own H0 O0 O' σ H' ρ → Same (hide O H) (hide O' H') → W (exV X.mg c) none σ H'
  | .bad => False
def AA (H0 : HB) (O0 O : List Addr) (σ : L2.St) (H : Hp) (Q : List V → Hp → Prop) : RA → Prop
  | .ok ds ρ => ∀ vs H' O', Rel X.K own H0 O0 O' σ H' ρ → Same (hide O H) (hide O' H') → Rps X.K (hide O' H') vs ds → Q vs H'
  | .err c ρ => ∀ H' O', Rel X.K own H0 O0 O' σ H' ρ → Same (hide O H) (hide O' H') → W (exV X.mg c) none σ H'
  | .bad => False
def EO (e : Expr) (f : Vars → RE) : Prop :=
  ∃ t, PE X e t ∧ ∀ σ H ρ Q H0 O0 O, Rel X.K own H0 O0 O σ H ρ → EE X W own H0 O0 O σ H Q (f ρ) → t σ H Q
end
section
variable {X : Cx} {W : WX} {own : List Nat}
theorem EE.from {H0 : HB} {O0 O O' : List Addr} {σ : L2.St} {H H' : Hp} {Q : VK} {r : RE} (z : EE X W own H0 O0 O σ H Q r) (s : Same (hide O H) (hide O' H')) : EE X W own H0 O0 O' σ H' Q r := by
  cases r with
  | ok d ρ => exact fun v H2 O2 r s2 rv => z v H2 O2 r (s.trans s2) rv
  | err c ρ => exact fun H2 O2 r s2 => z H2 O2 r (s.trans s2)
  | bad => exact z
theorem AA.from {H0 : HB} {O0 O O' : List Addr} {σ : L2.St} {H H' : Hp} {Q : List V → Hp → Prop} {r : RA} (z : AA X W own H0 O0 O σ H Q r) (s : Same (hide O H) (hide O' H')) : AA X W own H0 O0 O' σ H' Q r := by
  cases r with
  | ok d ρ => exact fun v H2 O2 r s2 rv => z v H2 O2 r (s.trans s2) rv
  | err c ρ => exact fun H2 O2 r s2 => z H2 O2 r (s.trans s2)
  | bad => exact z
@[simp] def oI (f : Vars → R PyData) (ρ : Vars) : RE := match f ρ with
  | .ok d => if imm d = true then .ok d ρ else .bad
  | .err c => .err c ρ
  | .bad => .bad
theorem eo_i {e : Expr} {f : Vars → R PyData} (h : EX X W e f) : EO X W own e (oI f) := by
  obtain ⟨t, p, ht⟩ := h
  refine ⟨t, p, fun σ H ρ Q H0 O0 O r z => ht σ H O0 _ Q r.stands0 r.vrel0 ?_⟩
  unfold oI at z
  cases e1 : f ρ with
  | ok d =>
    rw [e1] at z
    dsimp only at z
    by_cases c : imm d = true
    · rw [if_pos c] at z
      exact fun v H' s rv => z v H' O (r.step s) (hide_same s) ((r.step s).imm rv c)
    · rw [if_neg c] at z; exact z.elim
  | err c => rw [e1] at z; exact fun H' s => z H' O (r.step s) (hide_same s)
  | bad => rw [e1] at z; exact z
@[simp] def oOp (g : PyData → PyData → Option PyData) (f h : Vars → RE) (ρ : Vars) : RE := (f ρ).then fun d ρ1 => (h ρ1).then fun e ρ2 => match g d e with
  | some z => .ok z ρ2
  | none => .bad
@[simp] def soSet (i : Nat) (f : Vars → RE) (ρ : Vars) : Out := (f ρ).run fun d ρ' => .nx (ρ'.set i (some d))
theorem so_set {i : Nat} {x : Str} {e : Expr} {f : Vars → RE} {pos' pos : Pos} (hN : X.N.Nodup) (hi : X.N[i]? = some x) (hx : Loc X.env.scope x) (h : EO X W own e f) (ho : own.contains i = false) (hs : swapsWith e (some (.Name x pos')) pos.line X.env = pure false := by rfl) (hf : X.fn x = true ∨ X.env.scope.names.lookup x = some .local := by first | exact .inl rfl | exact .inr rfl | assumption) :
    SX X W own (.Assign [.Name x pos'] e pos) (soSet i f) := by
  obtain ⟨t, p, ht⟩ := h
  have hi' : i ∉ own := fun z => by rw [List.contains_iff_mem.mpr z] at ho; cases ho
  refine ⟨_, ps_set hN hi hx p hs hf, fun σ H ρ D H0 O0 O r z => ht σ H ρ _ H0 O0 O r ?_⟩
  unfold soSet at z
  cases e1 : f ρ with
  | bad => rw [e1] at z; exact z
  | err c ρ1 => rw [e1] at z; exact fun H' O' r' s' => z σ H' O' r' s'
  | ok d ρ1 => rw [e1] at z; exact fun v H' O' r' s' rv => z _ H' O' (r'.set hi' rv) s'
@[simp] def soRetP (bs : List Nat) (f : Vars → RE) (ρ : Vars) : Out := (f ρ).run fun d ρ' => match lentD bs ρ' with
  | some dds => .rt (.tuple [d, .dict (lentKV bs dds)])
  | none => .bad
theorem so_retP {io : Nat} {bs : List Nat} {e : Expr} {f : Vars → RE} {pos : Pos} (h : EO X W own e f) (om : own.contains (1000 + io) = true) : SX X W own (.Return (some e) pos) (soRetP (io :: bs) f) := by
  obtain ⟨t, p, ht⟩ := h
  refine ⟨_, ps_ret p, fun σ H ρ D H0 O0 O r z => ht σ H ρ _ H0 O0 O r ?_⟩
  unfold soRetP at z
  cases e1 : f ρ with
  | bad => rw [e1] at z; exact z
  | err c ρ1 => rw [e1] at z; exact fun H' O' r' s' => z σ H' O' r' s'
  | ok d ρ1 =>
    rw [e1] at z
    replace z : SOut X W own H0 O0 O H D (match lentD (io :: bs) ρ1 with
      | some dds => .rt (.tuple [d, .dict (lentKV (io :: bs) dds)])
      | none => .bad) := z
    cases e2 : lentD (io :: bs) ρ1 with
    | none => rw [e2] at z; exact z.elim
    | some dds =>
      rw [e2] at z
      exact fun v H' O' r' s' rv => ret_lent r' (fun _ _ => trivial) (marked r om) rv e2 s' z
end
end Pu
set_option Elab.async false
set_option linter.all false
set_option maxRecDepth 100000
set_option maxHeartbeats 4000000
namespace Pu
open PySem PySem.Spec PyProof.Rows L2
def SlE (K : PySem.W.Frag) (F : Hp) (O : List Addr) (σ : L2.St) (ρ : Vars) (io : Nat) (a : Addr) (v : V) : Prop := σ[io]? = some (some v) ∧ (∃ d, ρ[io]? = some (some d)) ∧ a ∈ O ∧ ∃ H1 d', Mi K F H1 v a d'
def SlA (K : PySem.W.Frag) (F : Hp) (O : List Addr) (σ : L2.St) (ρ : Vars) : List Nat → List Addr → List V → Prop
  | [], [], [] => True
  | io :: ls, a :: as, v :: vs => SlE K F O σ ρ io a v ∧ SlA K F O σ ρ ls as vs
  | _, _, _ => False
def LO (X : Cx) (W : WX) (own : List Nat) (es : List Expr) (ks : List Bool) (ls : List Nat) (f : Vars → R (List PyData)) : Prop :=
  ∃ t, PA X es t ∧ ∀ σ H ρ (Q : List V → Hp → Prop) H0 O0 O, Rel X.K own H0 O0 O σ H ρ → (match f ρ with
    | .ok ds => ∀ vs as H', Same H H' → LtV X.K (hide O H') H' ks vs ds as → SlA X.K (hide O H') O σ ρ ls as (ltVs ks vs) → Q vs H'
    | .err c => ∀ H', Same H H' → W (exV X.mg c) none σ H'
    | .bad => False) → t σ H Q
@[simp] def aM (own : List Nat) (f : Vars → R PyData) (g : Vars → R (List PyData)) (ρ : Vars) : R (List PyData) := (f (mask own ρ)).bind fun d => (g ρ).bind fun ds => .ok (d :: ds)
@[simp] def aI (f : Vars → R PyData) (g : Vars → R (List PyData)) (ρ : Vars) : R (List PyData) := (f ρ).bind fun d => if imm d = true then (g ρ).bind fun ds => .ok (d :: ds) else .bad
@[simp] def aL (io : Nat) (g : Vars → R (List PyData)) (ρ : Vars) : R (List PyData) := match ρ.getD io none with
  | some d => (g ρ).bind fun ds => .ok (d :: ds)
  | none => .bad
theorem LtV.mono {K : PySem.W.Frag} {F F' H H' : Hp} (s : Same F F') (e : Same H H') : ∀ {ks : List Bool} {vs : List V} {ds : List PyData} {as : List Addr}, LtV K F H ks vs ds as → LtV K F' H' ks vs ds as := by
  intro ks
  induction ks with
  | nil => intro vs ds as h; match vs, ds, as, h with | [], [], [], _ => trivial
  | cons k ks ih =>
    intro vs ds as h
    match k, vs, ds, as, h with
    | false, v :: vs, d :: ds, as, h => exact ⟨h.1.mono s, ih h.2⟩
    | true, v :: vs, d :: ds, a :: as, h => exact ⟨h.1.mono s (e a), ih h.2⟩
section
variable {X : Cx} {W : WX} {own : List Nat}
theorem la_nil : LO X W own [] [] [] aNil := ⟨_, pa_nil, fun σ H ρ Q H0 O0 O r z => z [] [] H (Same.refl H) trivial trivial⟩
theorem la_tail {own : List Nat} {ks : List Bool} {ls : List Nat} {g : Vars → R (List PyData)} {u : TA} {σ : L2.St} {H H1 : Hp} {ρ : Vars} {O0 O : List Addr} {H0 : HB} {Q : List V → Hp → Prop} {v : V} {d : PyData} (hu : ∀ σ H ρ (Q : List V → Hp → Prop) H0 O0 O, Rel X.K own H0 O0 O σ H ρ → (match g ρ with
    | .ok ds => ∀ vs as H', Same H H' → LtV X.K (hide O H') H' ks vs ds as → SlA X.K (hide O H') O σ ρ ls as (ltVs ks vs) → Q vs H'
    | .err c => ∀ H', Same H H' → W (exV X.mg c) none σ H'
    | .bad => False) → u σ H Q) (r : Rel X.K own H0 O0 O σ H ρ) (s1 : Same H H1) (rv : Rp X.K (hide O H1) v d)
    (z : match (g ρ).bind fun ds => R.ok (d :: ds) with
      | .ok ds => ∀ vs as H', Same H H' → LtV X.K (hide O H') H' (false :: ks) vs ds as → SlA X.K (hide O H') O σ ρ ls as (ltVs (false :: ks) vs) → Q vs H'
      | .err c => ∀ H', Same H H' → W (exV X.mg c) none σ H'
      | .bad => False) : u σ H1 fun vs H2 => Q (v :: vs) H2 := by
  refine hu σ H1 ρ _ H0 O0 O (r.step s1) ?_
  cases e2 : g ρ with
  | bad => rw [e2] at z; exact z
  | err c => rw [e2] at z; exact fun H' s => z H' (s1.trans s)
  | ok ds =>
    rw [e2] at z
    exact fun vs as H2 s2 lt sl => z (v :: vs) as H2 (s1.trans s2) ⟨rv.mono (hide_same s2), lt⟩ sl
theorem la_m {e : Expr} {es : List Expr} {f : Vars → R PyData} {g : Vars → R (List PyData)} {ks : List Bool} {ls : List Nat} (h : EX X W e f) (k : LO X W own es ks ls g) (hs : starEach (e :: es) X.env = (false, eval e X.env) :: starEach es X.env := by rfl) : LO X W own (e :: es) (false :: ks) ls (aM own f g) := by
  obtain ⟨t, p, ht⟩ := h
  obtain ⟨u, q, hu⟩ := k
  refine ⟨_, pa_cons p q hs, fun σ H ρ Q H0 O0 O r z => ht σ H O _ _ r.stands r.vrelM ?_⟩
  unfold aM at z
  cases e1 : f (mask own ρ) with
  | bad => rw [e1] at z; exact z
  | err c => rw [e1] at z; exact z
  | ok d =>
    rw [e1, R.bind_ok] at z
    exact fun v H1 s1 rv => la_tail hu r s1 rv z
theorem la_i {e : Expr} {es : List Expr} {f : Vars → R PyData} {g : Vars → R (List PyData)} {ks : List Bool} {ls : List Nat} (h : EX X W e f) (k : LO X W own es ks ls g) (hs : starEach (e :: es) X.env = (false, eval e X.env) :: starEach es X.env := by rfl) : LO X W own (e :: es) (false :: ks) ls (aI f g) := by
  obtain ⟨t, p, ht⟩ := h
  obtain ⟨u, q, hu⟩ := k
  refine ⟨_, pa_cons p q hs, fun σ H ρ Q H0 O0 O r z => ht σ H O0 _ _ r.stands0 r.vrel0 ?_⟩
  unfold aI at z
  cases e1 : f ρ with
  | bad => rw [e1] at z; exact z
  | err c => rw [e1] at z; exact z
  | ok d =>
    rw [e1, R.bind_ok] at z
    by_cases c : imm d = true
    · rw [if_pos c] at z
      exact fun v H1 s1 rv => la_tail hu r s1 ((r.step s1).imm rv c) z
    · rw [if_neg c] at z; exact z.elim
theorem la_l {io : Nat} {x : Str} {pos : Pos} {es : List Expr} {g : Vars → R (List PyData)} {ks : List Bool} {ls : List Nat} (k : LO X W own es ks ls g) (ho : own.contains io = true) (hs : starEach (.Name x pos :: es) X.env = (false, eval (.Name x pos) X.env) :: starEach es X.env := by rfl) (hN : X.N[io]? = some x := by rfl) (hv : Vis X.env.scope x := by first | exact Or.inl rfl | exact Or.inr (Or.inl rfl) | exact Or.inr (Or.inr rfl)) (hd : (x == ("__debug__" : Str)) = false := by decide)
    (hcd : (x == ("__classdict__" : Str)) = false := by decide) : LO X W own (.Name x pos :: es) (true :: ks) (io :: ls) (aL io g) := by
  obtain ⟨u, q, hu⟩ := k
  have hi : io ∈ own := List.contains_iff_mem.mp ho
  refine ⟨_, pa_cons (pe_var hN hv hd hcd) q hs, fun σ H ρ Q H0 O0 O r z => ?_⟩
  unfold aL at z
  cases e1 : ρ.getD io none with
  | none => rw [e1] at z; exact z.elim
  | some d =>
    rw [e1] at z
    obtain ⟨v, a, h1, h2, h3, h4⟩ := r.mine hi (getD_some e1)
    refine ⟨v, h1, hu σ H ρ _ H0 O0 O r ?_⟩
    dsimp only at z
    cases e2 : g ρ with
    | bad => rw [e2] at z; exact z
    | err c => rw [e2] at z; exact z
    | ok ds =>
      rw [e2] at z
      have mm : ∀ {H2 : Hp}, Same H H2 → Mi X.K (hide O H2) H2 v a d := fun {H2} s2 => h4.mono (hide_same s2) (s2 a)
      exact fun vs as H2 s2 lt sl => z (v :: vs) (a :: as) H2 s2 ⟨mm s2, lt⟩ ⟨⟨h1, ⟨d, getD_some e1⟩, h2, _, _, mm s2⟩, sl⟩
end
@[simp] def setL : List Nat → List PyData → Vars → Vars
  | io :: ls, d :: dds, ρ => setL ls dds (ρ.set io (some d))
  | _, _, ρ => ρ
def wipeL : List Nat → Vars → Vars
  | io :: ls, ρ => wipeL ls (ρ.set io none)
  | [], ρ => ρ
theorem setL_len : ∀ {ls : List Nat} {dds : List PyData} {ρ : Vars}, (setL ls dds ρ).length = ρ.length
  | [], _, _ => by unfold setL; rfl
  | _ :: _, [], _ => by unfold setL; rfl
  | io :: ls, d :: dds, ρ => by unfold setL; rw [setL_len, List.length_set]
theorem wipeL_len : ∀ {ls : List Nat} {ρ : Vars}, (wipeL ls ρ).length = ρ.length
  | [], _ => rfl
  | io :: ls, ρ => by unfold wipeL; rw [wipeL_len, List.length_set]
theorem wipeL_get : ∀ {ls : List Nat} {ρ : Vars} {i : Nat} {d : PyData}, (wipeL ls ρ)[i]? = some (some d) → i ∉ ls ∧ ρ[i]? = some (some d)
  | [], _, _, _, h => ⟨by simp, h⟩
  | io :: ls, ρ, i, d, h => by
    unfold wipeL at h
    obtain ⟨h1, h2⟩ := wipeL_get h
    obtain ⟨n, h3⟩ := unset h2
    exact ⟨fun z => (List.mem_cons.mp z).elim (fun z => n z.symm) h1, h3⟩
theorem setL_get {K : PySem.W.Frag} {F F0 H : Hp} {O : List Addr} {σ : L2.St} {ρ0 : Vars} : ∀ {ls : List Nat} {as : List Addr} {vs : List V} {dds : List PyData} {ρ : Vars} {i : Nat} {d : PyData}, SlA K F0 O σ ρ0 ls as vs → OwnsV K F H vs as dds → (setL ls dds ρ)[i]? = some (some d) →
    (i ∉ ls ∧ ρ[i]? = some (some d)) ∨ (i ∈ ls ∧ ∃ a ∈ as, ∃ v, SlE K F0 O σ ρ0 i a v ∧ Mi K F H v a d)
  | [], [], [], [], ρ, i, d, _, _, h => .inl ⟨by simp, h⟩
  | [], [], [], _ :: _, _, _, _, _, o, _ => o.elim
  | [], _ :: _, _, _, _, _, _, s, _, _ => s.elim
  | [], [], _ :: _, _, _, _, _, s, _, _ => s.elim
  | _ :: _, [], _, _, _, _, _, s, _, _ => s.elim
  | _ :: _, _ :: _, [], _, _, _, _, s, _, _ => s.elim
  | _ :: _, _ :: _, _ :: _, [], _, _, _, _, o, _ => o.elim
  | io :: ls, a :: as, v :: vs, d0 :: dds, ρ, i, d, s, o, h => by
    unfold setL at h
    rcases setL_get s.2 o.2 h with ⟨h1, h2⟩ | ⟨h1, b, h2, w, h3, h4⟩
    · by_cases c : io = i
      · subst c
        by_cases hl : io < ρ.length
        · rw [List.getElem?_set_self hl] at h2
          cases h2
          exact .inr ⟨List.mem_cons_self, a, List.mem_cons_self, v, s.1, o.1⟩
        · rw [List.getElem?_eq_none (by simpa using hl)] at h2; cases h2
      · rw [List.getElem?_set_ne c] at h2
        exact .inl ⟨fun z => (List.mem_cons.mp z).elim (fun z => c z.symm) h1, h2⟩
    · exact .inr ⟨List.mem_cons_of_mem _ h1, b, List.mem_cons_of_mem _ h2, w, h3, h4⟩
theorem SlA.at_ {K : PySem.W.Frag} {F : Hp} {O : List Addr} {σ : L2.St} {ρ : Vars} : ∀ {ls : List Nat} {as : List Addr} {vs : List V}, SlA K F O σ ρ ls as vs → (∀ a ∈ as, ∃ io ∈ ls, ∃ v, SlE K F O σ ρ io a v) ∧ ∀ io ∈ ls, ∃ a ∈ as, ∃ v, SlE K F O σ ρ io a v
  | [], [], [], _ => ⟨fun _ h => (by cases h), fun _ h => (by cases h)⟩
  | [], _ :: _, _, h => h.elim
  | [], [], _ :: _, h => h.elim
  | _ :: _, [], _, h => h.elim
  | _ :: _, _ :: _, [], h => h.elim
  | io :: ls, a :: as, v :: vs, h => by
    obtain ⟨h1, h2⟩ := h.2.at_
    refine ⟨fun b hb => ?_, fun i hi => ?_⟩
    · rcases List.mem_cons.mp hb with z | z
      · subst z; exact ⟨io, List.mem_cons_self, v, h.1⟩
      · obtain ⟨j, k1, k2⟩ := h1 b z; exact ⟨j, List.mem_cons_of_mem _ k1, k2⟩
    · rcases List.mem_cons.mp hi with z | z
      · subst z; exact ⟨a, List.mem_cons_self, v, h.1⟩
      · obtain ⟨j, k1, k2⟩ := h2 i z; exact ⟨j, List.mem_cons_of_mem _ k1, k2⟩
section
variable {K : PySem.W.Frag} {own : List Nat} {H0 : HB} {O0 O : List Addr} {σ : L2.St} {H H' : Hp} {ρ ρ' : Vars} {ls : List Nat} {as : List Addr} {fp : Nat → Option Addr}
theorem SlE.foot (D : Deep K own H0 O σ H ρ fp) {io : Nat} {a : Addr} {v : V} (s : SlE K (hide O H) O σ ρ io a v) (hi : io ∈ own) : fp io = some a := by
  obtain ⟨h1, ⟨d, h2⟩, h3, H1, d', h4⟩ := s
  exact D.fpAt hi h2 h1 h3 h4
theorem Rel.handed {lv : List V} (r : Rel K own H0 O0 O σ H ρ) (hl : ∀ io ∈ ls, io ∈ own) (sl : SlA K (hide O H) O σ ρ ls as lv) (s : Same (delL H as) H') (ho : ∀ a ∈ as, ∃ o, H' a = some o ∧ OwnO o) (len : ρ'.length = ρ.length)
    (hg : ∀ (i : Nat) (d : PyData), ρ'[i]? = some (some d) → (i ∉ ls ∧ ρ[i]? = some (some d)) ∨ (i ∈ ls ∧ ∃ a ∈ as, ∃ v, SlE K (hide O H) O σ ρ i a v ∧ Mi K (hide O H') H' v a d)) :
    Rel K own H0 O0 O σ H' ρ' ∧ Same (hide O H) (hide O H') := by
  obtain ⟨fp, D⟩ := r.deep
  obtain ⟨sa, si⟩ := sl.at_
  have ain : ∀ a ∈ as, a ∈ O ∧ H0 a = Option.none := fun a ha => by
    obtain ⟨io, h1, v, h2⟩ := sa a ha
    have h3 := D.ino io a (hl io h1) (h2.foot D (hl io h1))
    exact ⟨h3.1, h3.2 h2.2.1⟩
  have sF : Same (hide O H) (hide O H') := fun b o h => by
    obtain ⟨c, e⟩ := hide_some h
    exact hide_of c (s b o (by rw [delL_out (fun z => c (ain b z).1)]; exact e))
  -- a slot that holds data held data
  have was : ∀ (i : Nat) (d : PyData), ρ'[i]? = some (some d) → ∃ e, ρ[i]? = some (some e) := fun i d h => by
    rcases hg i d h with ⟨_, h⟩ | ⟨h1, _⟩
    · exact ⟨d, h⟩
    · obtain ⟨a, _, v, h⟩ := si i h1; exact h.2.1
  refine ⟨⟨fun b o h => ?_, r.st0, by rw [len]; exact r.len, r.sub, fun b hb => ?_, fun i d ni h => ?_, ⟨fp, fun i d hi h => ?_, fun i a hi h => ⟨(D.ino i a hi h).1, fun ⟨d, h'⟩ => (D.ino i a hi h).2 (was i d h')⟩, D.dis, D.bor⟩, r.mark⟩, sF⟩
  · have n : b ∉ as := fun z => by rw [(ain b z).2] at h; cases h
    exact s b o (by rw [delL_out n]; exact r.same b o h)
  · by_cases c : b ∈ as
    · exact .inr ⟨(ain b c).2, ho b c⟩
    · exact (r.lists b hb).imp id fun ⟨h1, o, h2, h3⟩ => ⟨h1, o, s b o (by rw [delL_out c]; exact h2), h3⟩
  · rcases hg i d h with ⟨_, h⟩ | ⟨h1, _⟩
    · obtain ⟨v, k1, k2⟩ := r.free i d ni h
      exact ⟨v, k1, k2.mono sF⟩
    · exact absurd (hl i h1) ni
  · rcases hg i d h with ⟨n, h⟩ | ⟨h1, a, h2, v, h3, h4⟩
    · obtain ⟨v, b, k1, k2, k4⟩ := D.at_ i d hi h
      have nb : b ∉ as := fun z => by
        obtain ⟨io, q1, w, q2⟩ := sa b z
        exact n (D.dis i io b hi (hl io q1) k2 (q2.foot D (hl io q1)) ▸ q1)
      exact ⟨v, b, k1, k2, k4.mono sF fun o hb => s b o (by rw [delL_out nb]; exact hb)⟩
    · exact ⟨v, a, h3.1, h3.foot D hi, h4⟩
end
def CalP (P : Program) (w : World) (K : PySem.W.Frag) (mg : Str → Option Value) (base : Heap) (k : Nat) (x : Str) (ks : List Bool) (f : List PyData → R PyData) : Prop :=
  ∃ (fa : Addr) (fd : FuncData) (ps : List Str), ps.length = ks.length ∧ FnOk P w K mg base (L2.CX P w) k fa fd ps (spP K mg ks f) ∧ mg x = some (.ref fa) ∧ PySem.W.keepIn K (.ref fa) = true ∧ Binds K fd ps []
@[simp] def handO (ls : List Nat) (ρ : Vars) : R PyData → RE
  | .ok (.tuple (d :: dds)) => .ok d (setL ls dds ρ)
  | .err c => .err c (wipeL ls ρ)
  | _ => .bad
@[simp] def oCallP (g : List PyData → R PyData) (ls : List Nat) (f : Vars → R (List PyData)) (ρ : Vars) : RE := match f ρ with
  | .ok ds => handO ls ρ (g ds)
  | .err c => .err c ρ
  | .bad => .bad
section
variable {X : Cx} {W : WX} {own : List Nat}
theorem call_lent {ls : List Nat} {ks : List Bool} {H0 : HB} {O0 O as : List Addr} {σ : L2.St} {H H1 : Hp} {ρ : Vars} {Q : VK} {vs : List V} {ds : List PyData} {g : List PyData → R PyData} (hl : ∀ io ∈ ls, io ∈ own) (hn : ls.Nodup) (r : Rel X.K own H0 O0 O σ H ρ) (s1 : Same H H1) (lt : LtV X.K (hide O H1) H1 ks vs ds as) (sl : SlA X.K (hide O H1) O σ ρ ls as (ltVs ks vs))
    (z : EE X W own H0 O0 O σ H Q (handO ls ρ (g ds))) : spP X.K X.mg ks g vs H1 Q (fun c d H' => W c d σ H') := by
  have r1 := r.step s1
  obtain ⟨fp, D⟩ := r1.deep
  have ain : ∀ a ∈ as, a ∈ O := fun a ha => by
    obtain ⟨io, h1, v, h2⟩ := sl.at_.1 a ha
    exact h2.2.2.1
  have nd : as.Nodup := by
    have key : ∀ {ls : List Nat} {as : List Addr} {vs : List V}, SlA X.K (hide O H1) O σ ρ ls as vs → (∀ io ∈ ls, io ∈ own) → ls.Nodup → as.Nodup := by
      intro ls
      induction ls with
      | nil => intro as vs s _ _; cases as with
        | nil => exact List.nodup_nil
        | cons => exact s.elim
      | cons io ls ih =>
        intro as vs s hl hn
        cases as with
        | nil => exact s.elim
        | cons a as =>
          cases vs with
          | nil => exact s.elim
          | cons v vs =>
            have hn' := List.nodup_cons.mp hn
            refine List.nodup_cons.mpr ⟨fun z => ?_, ih s.2 (fun j hj => hl j (List.mem_cons_of_mem _ hj)) hn'.2⟩
            obtain ⟨j, h1, w, h2⟩ := s.2.at_.1 a z
            have hj := hl j (List.mem_cons_of_mem _ h1)
            have hio := hl io List.mem_cons_self
            exact hn'.1 (D.dis io j a hio hj (s.1.foot D hio) (h2.foot D hj) ▸ h1)
    exact key sl hl hn
  refine ⟨O, ds, as, r1.stands, ain, nd, lt, ?_⟩
  cases e : g ds with
  | bad => rw [e] at z; exact z.elim
  | err c =>
    rw [e] at z
    intro H' s' ho
    obtain ⟨r', sF⟩ := r1.handed (ρ' := wipeL ls ρ) hl sl s' ho wipeL_len fun i d h => .inl (wipeL_get h)
    exact z H' O r' ((hide_same s1).trans sF)
  | ok d =>
    rw [e] at z
    cases d with
    | tuple xs =>
      cases xs with
      | nil => exact z.elim
      | cons d dds =>
        intro v H' s' rv ov
        have ho : ∀ {as : List Addr} {lv : List V} {dds : List PyData}, OwnsV X.K (hide O H') H' lv as dds → ∀ a ∈ as, ∃ o, H' a = some o ∧ OwnO o := by
          intro as
          induction as with
          | nil => intro lv dds _ a ha; cases ha
          | cons b as ih =>
            intro lv dds o a ha
            cases lv with
            | nil => cases dds <;> exact o.elim
            | cons w lv =>
              cases dds with
              | nil => exact o.elim
              | cons d dds =>
                rcases List.mem_cons.mp ha with z | z
                · subst z; exact o.1.own
                · exact ih o.2 a z
        obtain ⟨r', sF⟩ := r1.handed (ρ' := setL ls dds ρ) hl sl s' (ho ov) setL_len fun i d h => setL_get sl ov h
        exact z v H' O r' ((hide_same s1).trans sF) rv
    | _ => exact z.elim
theorem eo_callP {k : Nat} {x : Str} {g : List PyData → R PyData} {e : Expr} {es : List Expr} {ks : List Bool} {ls : List Nat} {f : Vars → R (List PyData)} {p pos : Pos} (tk : Takes X W) (F : CalP X.prog X.w X.K X.mg X.base k x ks g) (hr : Room k X.A) (hg : Gl X x) (ha : LO X W own (e :: es) ks ls f)
    (hl : (ls.all fun io => own.contains io) = true) (hn : ls.Nodup) (hdb : (x == ("__debug__" : Str)) = false := by decide) (he : starEach (e :: es) X.env = (false, eval e X.env) :: starEach es X.env := by rfl) (hpl : (backTo pos (starEach es X.env)).any (·.1) = false := by rfl) :
    EO X W own (.Call (.Name x p) (e :: es) [] pos) (oCallP g ls f) := by
  obtain ⟨fa, fd, ps, h1, h2, h3, h4, h5⟩ := F
  obtain ⟨t, q, ht⟩ := ha
  have hl' : ∀ io ∈ ls, io ∈ own := fun io h => List.contains_iff_mem.mp (List.all_eq_true.mp hl io h)
  refine ⟨_, pe_callS h2 hr hg h3 h4 h5 (fun σ => passAt tk σ) q hdb he hpl, fun σ H ρ Q H0 O0 O r z => ht σ H ρ _ H0 O0 O r ?_⟩
  unfold oCallP at z
  cases e1 : f ρ with
  | bad => rw [e1] at z; exact z
  | err c => rw [e1] at z; exact fun H' s => z H' O (r.step s) (hide_same s)
  | ok ds =>
    rw [e1] at z
    exact fun vs as H1 s1 lt sl => call_lent hl' hn r s1 lt sl z
end
section
variable {P : Program} {w : World} {K : PySem.W.Frag} {mg : Str → Option Value} {base : Heap}
theorem cal_dataP {x qual : Str} {st : Stmt} {f : Addr} {fd : FuncData} {N ps : List Str} {k : Nat} {ks : List Bool} {own : List Nat} {g : Vars → Out} (F : Fun K x qual st f fd) (hm : mg x = some (.ref f)) (hbn : Binds K fd ps []) (S : FnScope N ps (defScope st)) (hn : ps.length = ks.length)
    (ho : (own.all fun i => decide (ks.length ≤ i) || decide (ks[i]? = some true)) = true) (hi : ((ltS 0 ks).all fun i => own.contains i && own.contains (1000 + i)) = true) (hmk : (own.all fun i => decide (i < 1000) || (ltS 0 ks).contains (i - 1000)) = true) (hne : (ltS 0 ks).isEmpty = false)
    (hb : ∀ (cdv : Value) (A : Around) (outer : List Env) (s : Shared) (H : Hp) (E : XK), Room k (A.deeper (envOfC qual (defScope st) s.heap.objs.size f cdv)) → BXP (cxOf (L2.CX P w) P w K mg base N qual (defScope st) f cdv A outer s H E) E own (defBody st) g) :
    CalP P w K mg base (k + 1) x ks (fnDP N.length (ltS 0 ks) g) := ⟨f, fd, ps, hn, fn_dataP F S hn ho hi hmk hne hb, hm, F.kp, hbn⟩
theorem cal_zeroP {x qual : Str} {st : Stmt} {f : Addr} {fd : FuncData} {ps : List Str} {ks : List Bool} (F : Fun K x qual st f fd) (hm : mg x = some (.ref f)) (hbn : Binds K fd ps []) (hn : ps.length = ks.length) : CalP P w K mg base 0 x ks fun _ => .bad := by
  have no : ∀ vs H Q E, ¬ spP K mg ks (fun _ => .bad) vs H Q E := fun vs H Q E h => by
    obtain ⟨_, _, _, _, _, _, _, z⟩ := h
    exact z
  exact ⟨f, fd, ps, hn, ⟨fun vs H Q E h => absurd h (no vs H Q E), fun A outer s H args us vs Q E _ _ _ _ h => absurd h (no vs H Q E)⟩, hm, F.kp, hbn⟩
end
end Pu
set_option Elab.async false
set_option linter.all false
set_option maxRecDepth 100000
set_option maxHeartbeats 4000000
namespace Pu
open PySem PySem.Spec PyProof.Rows L2
theorem fK_lookup (f : Str) : ∀ fs : List (Str × V), valV (fK fs) (.inr f) = fs.lookup f
  | [] => rfl
  | (g, v) :: r => by
    show valV ((Sum.inr g, v) :: fK r) (.inr f) = _
    by_cases c : g = f
    · subst c
      rw [valV_pos rfl, List.lookup_cons_self]
    · rw [valV_neg (fun z => c (by cases z; rfl)), fK_lookup f r, List.lookup_cons]
      rw [show (f == g) = false from by simpa using fun z : f = g => c z.symm]
def insC (d : PyData) : Option (Str × List (PyData × PyData)) := match d with
  | .dict [(.none, .tuple [.str c, .dict fs])] => some (c, fs)
  | _ => none
theorem insC_some {d : PyData} {c : Str} {fs : List (PyData × PyData)} (h : insC d = some (c, fs)) : d = .dict [(.none, .tuple [.str c, .dict fs])] := by
  unfold insC at h
  split at h
  · cases h; rfl
  · cases h
theorem rp_ins {K : PySem.W.Frag} {H : Hp} {v : V} {c : Str} {ds : List (PyData × PyData)} (r : Rp K H v (.dict [(.none, .tuple [.str c, .dict ds])])) : ∃ a C dx fs, v = .ref a ∧ H a = some (.ins C dx fs) ∧ H dx = some (.own a) ∧ ClN K c C ∧ Rpd K H (fK fs) ds := by
  cases hd : (PyData.dict [(.none, .tuple [.str c, .dict ds])]) with
  | dict l =>
    have e : l = [(.none, .tuple [.str c, .dict ds])] := by cases hd; rfl
    rw [hd] at r
    cases r with
    | @dic a kvs _ hx rd =>
      subst e
      have := rpd_ins rd
      cases this
    | ins h1 h2 h3 h4 => cases e; exact ⟨_, _, _, _, rfl, h1, h2, h3, h4⟩
    | fn _ => cases e
    | fn0 => cases e
    | dct => cases e
    | tpx => cases e
  | _ => cases hd
theorem rp_insM {K : PySem.W.Frag} {H : Hp} {v : V} {c m : Str} {C : Addr} {ds : List (PyData × PyData)} (r : Rp K H v (.dict [(.none, .tuple [.str c, .dict ds])])) (k : ClN K c C) (hs : valD ds (.inr m) = none) : ∃ a dx fs, v = .ref a ∧ H a = some (.ins C dx fs) ∧ fs.lookup m = none := by
  obtain ⟨a, C', dx, fv, rfl, h1, h2, h3, h4⟩ := rp_ins r
  have := k.one h3
  subst this
  refine ⟨a, dx, fv, rfl, h1, ?_⟩
  rcases rpd_val (.inr m) h4 with ⟨v, d, e4, e5, _⟩ | ⟨e4, _⟩
  · rw [e5] at hs; cases hs
  · rw [fK_lookup] at e4; exact e4
structure FldF (K : PySem.W.Frag) (f : Str) (cs : List Str) : Prop where
  all : ∀ c ∈ cs, ∃ C, ClN K c C ∧ NoAttr K C f
def gFld (f : Str) (cs : List Str) (d : PyData) : Option PyData := (insC d).bind fun p => if cs.contains p.1 = true then valD p.2 (.inr f) else none
@[simp] def eFld (f : Str) (cs : List Str) (g : Vars → R PyData) (ρ : Vars) : R PyData := (g ρ).bind fun d => R.of (gFld f cs d)
section
variable {X : Cx} {W : WX} {own : List Nat}
theorem ex_fld {e : Expr} {f : Str} {cs : List Str} {g : Vars → R PyData} {pos : Pos} (F : FldF X.K f cs) (h : EX X W e g) (hb : attributeBase e f X.env (eval e X.env) = eval e X.env := by rfl) : EX X W (.Attribute e f pos) (eFld f cs g) := by
  obtain ⟨t, p, ht⟩ := h
  refine ⟨_, pe_fld p hb, fun σ H O ρ Q hO hv z => ht σ H O ρ _ hO hv (EOut.then (g := fun d => R.of (gFld f cs d)) EOut.b EOut.e z fun d v H1 s1 r1 z1 => ?_)⟩
  unfold gFld at z1
  cases e1 : insC d with
  | none => rw [e1] at z1; exact z1.elim
  | some p =>
    obtain ⟨c, fs⟩ := p
    rw [e1] at z1
    have := insC_some e1
    subst this
    obtain ⟨a, C, dx, fv, rfl, h1, h2, h3, h4⟩ := rp_ins r1
    replace z1 : EOut X W O σ H Q (R.of (if cs.contains c = true then valD fs (.inr f) else none)) := z1
    by_cases cc : cs.contains c = true
    · rw [if_pos cc] at z1
      obtain ⟨C', k1, k2⟩ := F.all c (List.contains_iff_mem.mp cc)
      have := k1.one h3
      subst this
      rcases rpd_val (.inr f) h4 with ⟨v, d, e2, e3, e4⟩ | ⟨e2, e3⟩
      · rw [e3] at z1
        rw [fK_lookup] at e2
        exact ⟨a, C', dx, fv, v, rfl, hide_sub _ _ h1, h3.cl, k2, e2, z1 v H1 s1 e4⟩
      · rw [e3] at z1; exact z1.elim
    · rw [if_neg cc] at z1; exact z1.elim
def tMethS (C : Addr) (m : Str) (sp : Sp) (E : L2.St → XK) (ta : TE) (t : TA) : TE := fun σ H Q => ta σ H fun x H1 => ∃ a dx fs, x = .ref a ∧ H1 a = some (.ins C dx fs) ∧ fs.lookup m = none ∧ t σ H1 fun vs H2 => sp (x :: vs) H2 Q (E σ)
theorem pe_methS' {CX : CXT} {k : Nat} {f C : Addr} {fd : FuncData} {ps : List Str} {sp : Sp} {E : L2.St → XK} {m : Str} {pos apos : Pos} {e o : Expr} {es : List Expr} {ta : TE} {t : TA} {pl : Sem Bool} (he : PE X o ta) (c : Cls X.K C) (hm : Meth X.K C m f) (F : FnOk X.prog X.w X.K X.mg X.base CX k f fd ps sp) (hr : Room k X.A) (hb : Binds X.K fd ps []) (hx : ∀ σ, PassesAt CX X σ (E σ)) (ha : PA X (e :: es) t)
    (hst : starEach (e :: es) X.env = (false, eval e X.env) :: starEach es X.env) (hpl : (backTo pos (starEach es X.env)).any (·.1) = false)
    (ht : eval (.Call (.Attribute o m apos) (e :: es) [] pos) X.env = (do
      let ov ← eval o X.env
      standAt apos.atName
      let (f, first) ← holding [ov] (getMethod ov m pl)
      callWith pos f first (backTo pos (starEach (e :: es) X.env)) (backToKw pos (keywordEach [] X.env)))) :
    PE X (.Call (.Attribute o m apos) (e :: es) [] pos) (tMethS C m sp E ta t) := by
  refine ⟨fun pins s σ H Q I h => ?_⟩
  refine PySem.W.methodCall_KW (pl := pl) (thn (he.run pins s σ H _ I h) fun u s1 ⟨x, H1, I1, rx, a, dx, fs, ex, ea, l, q⟩ => ?_) ht
  subst ex
  obtain rfl : u = Value.ref a := rx
  refine getmeth_ok I1 ea c hm l ?_
  refine PySem.W.callWith_K (first := [.ref a]) (h₀ := X.base) I1.ok.mod.kin hm.kp (thn (ha.run pos pins s1 σ H1 _ I1 q) fun us s2 ⟨vs, H2, I2, r, q2⟩ => ⟨I2.kIn, ?_⟩) hst hpl
  exact run_fnS (us := .ref a :: us) (vs := .ref a :: vs) F hr hb (hx σ) I2 (.cons rfl r) q2
theorem pe_methS0' {CX : CXT} {k : Nat} {f C : Addr} {fd : FuncData} {ps : List Str} {sp : Sp} {E : L2.St → XK} {m : Str} {pos apos : Pos} {o : Expr} {ta : TE} {pl : Sem Bool} (he : PE X o ta) (c : Cls X.K C) (hm : Meth X.K C m f) (F : FnOk X.prog X.w X.K X.mg X.base CX k f fd ps sp) (hr : Room k X.A) (hb : Binds X.K fd ps []) (hx : ∀ σ, PassesAt CX X σ (E σ))
    (ht : eval (.Call (.Attribute o m apos) [] [] pos) X.env = (do
      let ov ← eval o X.env
      standAt apos.atName
      let (f, first) ← holding [ov] (getMethod ov m pl)
      callWith pos f first (backTo pos (starEach [] X.env)) (backToKw pos (keywordEach [] X.env)))) :
    PE X (.Call (.Attribute o m apos) [] [] pos) (tMethS C m sp E ta tNil) := by
  refine ⟨fun pins s σ H Q I h => ?_⟩
  refine PySem.W.methodCall_KW (pl := pl) (thn (he.run pins s σ H _ I h) fun u s1 ⟨x, H1, I1, rx, a, dx, fs, ex, ea, l, q⟩ => ?_) ht
  subst ex
  obtain rfl : u = Value.ref a := rx
  refine getmeth_ok I1 ea c hm l ?_
  exact PySem.W.callWith_K0 (first := [.ref a]) I1.kIn hm.kp (run_fnS (us := [.ref a]) (vs := [.ref a]) F hr hb (hx σ) I1 (.cons rfl .nil) q)
end
abbrev MTb := List (Str × (List PyData → R PyData))
def MetT (P : Program) (w : World) (K : PySem.W.Frag) (mg : Str → Option Value) (base : Heap) (k : Nat) (m : Str) (sp : (List PyData → R PyData) → Sp) (T : MTb) : Prop :=
  ∀ c F, T.lookup c = some F → ∃ C f fd ps, ClN K c C ∧ Meth K C m f ∧ FnOk P w K mg base (L2.CX P w) k f fd ps (sp F) ∧ Binds K fd ps []
theorem metT_nil {P : Program} {w : World} {K : PySem.W.Frag} {mg : Str → Option Value} {base : Heap} {k : Nat} {m : Str} {sp : (List PyData → R PyData) → Sp} : MetT P w K mg base k m sp [] := fun c F h => by cases h
theorem metT_cons {P : Program} {w : World} {K : PySem.W.Frag} {mg : Str → Option Value} {base : Heap} {k : Nat} {m : Str} {sp : (List PyData → R PyData) → Sp} {T : MTb} {c : Str} {F : List PyData → R PyData} {C f : Addr} {fd : FuncData} {ps : List Str} (h1 : ClN K c C) (h2 : Meth K C m f) (h3 : FnOk P w K mg base (L2.CX P w) k f fd ps (sp F)) (h4 : Binds K fd ps []) (r : MetT P w K mg base k m sp T) : MetT P w K mg base k m sp ((c, F) :: T) := fun c' F' h => by
  rw [List.lookup_cons] at h
  by_cases e : c' = c
  · subst e
    simp at h
    subst h
    exact ⟨C, f, fd, ps, h1, h2, h3, h4⟩
  · rw [show (c' == c) = false from by simpa using e] at h
    exact r c' F' h
def mDef (m : Str) (T : MTb) (d : PyData) : Option (List PyData → R PyData) := (insC d).bind fun p => if (valD p.2 (.inr m)).isSome = true then none else T.lookup p.1
@[simp] def eMeth (m : Str) (T : MTb) (g : Vars → R PyData) (f : Vars → R (List PyData)) (ρ : Vars) : R PyData := match g ρ with
  | .ok d => match mDef m T d with
    | some F => (f ρ).bind fun ds => F (d :: ds)
    | none => .bad
  | _ => .bad
theorem mDef_some {m : Str} {T : MTb} {d : PyData} {F : List PyData → R PyData} (h : mDef m T d = some F) : ∃ c fs, d = .dict [(.none, .tuple [.str c, .dict fs])] ∧ valD fs (.inr m) = none ∧ T.lookup c = some F := by
  unfold mDef at h
  cases e : insC d with
  | none => rw [e] at h; cases h
  | some p =>
    obtain ⟨c, fs⟩ := p
    rw [e] at h
    replace h : (if (valD fs (.inr m)).isSome = true then none else T.lookup c) = some F := h
    by_cases hs : (valD fs (.inr m)).isSome = true
    · rw [if_pos hs] at h; cases h
    · rw [if_neg hs] at h
      refine ⟨c, fs, insC_some e, ?_, h⟩
      cases e2 : valD fs (.inr m) with
      | none => rfl
      | some x => rw [e2] at hs; exact absurd rfl hs
section
variable {X : Cx} {W : WX} {own : List Nat}
def tMethT (X : Cx) (m : Str) (k : Nat) (spf : (List PyData → R PyData) → Sp) (E : L2.St → XK) (ta : TE) (t : TA) : TE := fun σ H Q => ∃ C f fd ps F, Cls X.K C ∧ Meth X.K C m f ∧ FnOk X.prog X.w X.K X.mg X.base (L2.CX X.prog X.w) k f fd ps (spf F) ∧ Binds X.K fd ps [] ∧ tMethS C m (spf F) E ta t σ H Q
theorem ex_meth0 {k : Nat} {m : Str} {T : MTb} {o : Expr} {g : Vars → R PyData} {apos pos : Pos} {pl : Sem Bool} (tk : Takes X W) (F : MetT X.prog X.w X.K X.mg X.base k m (spD X.K X.mg 1) T) (hr : Room k X.A) (ho : EX X W o g)
    (ht : eval (.Call (.Attribute o m apos) [] [] pos) X.env = (do
      let ov ← eval o X.env
      standAt apos.atName
      let (f, first) ← holding [ov] (getMethod ov m pl)
      callWith pos f first (backTo pos (starEach [] X.env)) (backToKw pos (keywordEach [] X.env))) := by rfl) : EX X W (.Call (.Attribute o m apos) [] [] pos) (eMeth m T g aNil) := by
  obtain ⟨t, p, hto⟩ := ho
  refine ⟨tMethT X m k (spD X.K X.mg 1) (WE W) t tNil, ⟨fun pins s σ H Q I ⟨C, fa, fd, ps, Fn, h1, h2, h3, h4, h5⟩ => (pe_methS0' p h1 h2 h3 hr h4 (fun σ => passAt tk σ) ht).run pins s σ H Q I h5⟩, fun σ H O ρ Q hO hv z => ?_⟩
  unfold eMeth at z
  cases e1 : g ρ with
  | bad => rw [e1] at z; exact z.elim
  | err c => rw [e1] at z; exact z.elim
  | ok d =>
    rw [e1] at z
    dsimp only at z
    cases e2 : mDef m T d with
    | none => rw [e2] at z; exact z.elim
    | some Fn =>
      rw [e2] at z
      replace z : EOut X W O σ H Q (Fn [d]) := z
      obtain ⟨c, fs, rfl, hs, e3⟩ := mDef_some e2
      obtain ⟨C, fa, fd, ps, k1, k2, k3, k4⟩ := F c Fn e3
      refine ⟨C, fa, fd, ps, Fn, k1.cl, k2, k3, k4, ?_⟩
      refine hto σ H O ρ _ hO hv ?_
      rw [e1]
      intro v H1 s1 rv
      obtain ⟨a, dx, fv, rfl, h1, h2⟩ := rp_insM rv k1 hs
      refine ⟨a, dx, fv, rfl, hide_sub _ _ h1, h2, ?_⟩
      refine ⟨rfl, O, _, hO.same s1, .cons rv .nil, ?_⟩
      cases e7 : Fn [.dict [(.none, .tuple [.str c, .dict fs])]] with
      | bad => rw [e7] at z; exact z.elim
      | err c => rw [e7] at z; exact fun H' s' => z H' (s1.trans s')
      | ok d => rw [e7] at z; exact fun v H' s' r' => z v H' (s1.trans s') r'
end
end Pu
set_option Elab.async false
set_option linter.all false
set_option maxRecDepth 100000
set_option maxHeartbeats 4000000
namespace Pu
open PySem PySem.Spec PyProof.Rows L2
def CpV (K : PySem.W.Frag) (F H : Hp) (v : V) (d : PyData) : Prop := ∃ a xs ds, v = .ref a ∧ d = .list ds ∧ SqL K H a xs ∧ Rps K F xs ds
def CpA (K : PySem.W.Frag) (F H : Hp) : List Bool → List V → List PyData → Prop
  | [], [], [] => True
  | false :: ks, v :: vs, d :: ds => Rp K F v d ∧ CpA K F H ks vs ds
  | true :: ks, v :: vs, d :: ds => CpV K F H v d ∧ CpA K F H ks vs ds
  | _, _, _ => False
theorem CpA.len {K : PySem.W.Frag} {F H : Hp} : ∀ {ks : List Bool} {vs : List V} {ds : List PyData}, CpA K F H ks vs ds → vs.length = ks.length ∧ ds.length = ks.length := by
  intro ks
  induction ks with
  | nil => intro vs ds h; match vs, ds, h with | [], [], _ => exact ⟨rfl, rfl⟩
  | cons k ks ih =>
    intro vs ds h
    match k, vs, ds, h with
    | false, v :: vs, d :: ds, h => have := ih h.2; exact ⟨by simp [this.1], by simp [this.2]⟩
    | true, v :: vs, d :: ds, h => have := ih h.2; exact ⟨by simp [this.1], by simp [this.2]⟩
theorem CpA.get {K : PySem.W.Frag} {F H : Hp} : ∀ {ks : List Bool} {vs : List V} {ds : List PyData}, CpA K F H ks vs ds → ∀ (i : Nat) (d : PyData), ds[i]? = some d → (ks[i]? = some false → ∃ v, vs[i]? = some v ∧ Rp K F v d) ∧ (ks[i]? = some true → ∃ v, vs[i]? = some v ∧ CpV K F H v d) := by
  intro ks
  induction ks with
  | nil => intro vs ds h i d hd; match vs, ds, h with | [], [], _ => simp at hd
  | cons k ks ih =>
    intro vs ds h i d hd
    match k, vs, ds, h with
    | false, v :: vs, e :: ds, h =>
      cases i with
      | zero => simp at hd; subst hd; exact ⟨fun _ => ⟨v, rfl, h.1⟩, fun z => by simp at z⟩
      | succ i =>
        obtain ⟨h1, h2⟩ := ih h.2 i d (by simpa using hd)
        exact ⟨fun z => by simpa using h1 (by simpa using z), fun z => by simpa using h2 (by simpa using z)⟩
    | true, v :: vs, e :: ds, h =>
      cases i with
      | zero => simp at hd; subst hd; exact ⟨fun z => by simp at z, fun _ => ⟨v, rfl, h.1⟩⟩
      | succ i =>
        obtain ⟨h1, h2⟩ := ih h.2 i d (by simpa using hd)
        exact ⟨fun z => by simpa using h1 (by simpa using z), fun z => by simpa using h2 (by simpa using z)⟩
theorem CpA.mono {K : PySem.W.Frag} {F F' H H' : Hp} (s : Same F F') (e : Same H H') : ∀ {ks : List Bool} {vs : List V} {ds : List PyData}, CpA K F H ks vs ds → CpA K F' H' ks vs ds := by
  intro ks
  induction ks with
  | nil => intro vs ds h; match vs, ds, h with | [], [], _ => trivial
  | cons k ks ih =>
    intro vs ds h
    match k, vs, ds, h with
    | false, v :: vs, d :: ds, h => exact ⟨h.1.mono s, ih h.2⟩
    | true, v :: vs, d :: ds, h =>
      obtain ⟨⟨a, xs, es, h1, h2, h3, h4⟩, h5⟩ := h
      exact ⟨⟨a, xs, es, h1, h2, seqL e h3, h4.mono s⟩, ih h5⟩
section
variable {X : Cx} {cs : List Str} {E : XK} {m : Nat}
end
section
variable {P : Program} {w : World} {K : PySem.W.Frag} {mg : Str → Option Value} {base : Heap}
end
section
variable {X : Cx} {W : WX} {own : List Nat}
end
end Pu
set_option Elab.async false
set_option linter.all false
set_option maxRecDepth 100000
set_option maxHeartbeats 4000000
namespace Pu
open PySem PySem.Spec PyProof.Rows L2
def MethW (K : PySem.W.Frag) (c m qual : Str) (st : Stmt) (ps : List Str) : Prop := ∃ C f fd, ClN K c C ∧ Meth K C m f ∧ Fun K m qual st f fd ∧ Binds K fd ps []
def MakW (K : PySem.W.Frag) (mg : Str → Option Value) (c qual : Str) (st : Stmt) (ps : List Str) : Prop := ∃ C f fd, ClN K c C ∧ mg c = some (.ref C) ∧ Mk K C f ∧ Fun K "__init__" qual st f fd ∧ Binds K fd ps []
section
variable {P : Program} {w : World} {K : PySem.W.Frag} {mg : Str → Option Value} {base : Heap}
theorem fn_zero {x qual : Str} {st : Stmt} {f : Addr} {fd : FuncData} {ps : List Str} {sp : Sp} (no : ∀ vs H Q E, ¬ sp vs H Q E) : FnOk P w K mg base (L2.CX P w) 0 f fd ps sp :=
  ⟨fun vs H Q E h => absurd h (no vs H Q E), fun A outer s H args us vs Q E _ _ _ _ h => absurd h (no vs H Q E)⟩
theorem noD {n : Nat} : ∀ vs H Q E, ¬ spD K mg n (fun _ => .bad) vs H Q E := fun vs H Q E h => by
  obtain ⟨_, _, _, _, _, z⟩ := h
  exact z
theorem noP {ks : List Bool} : ∀ vs H Q E, ¬ spP K mg ks (fun _ => .bad) vs H Q E := fun vs H Q E h => by
  obtain ⟨_, _, _, _, _, _, _, z⟩ := h
  exact z
theorem met_zeroD {c m qual : Str} {st : Stmt} {ps : List Str} {n : Nat} {T : MTb} (M : MethW K c m qual st ps) (r : MetT P w K mg base 0 m (spD K mg n) T) : MetT P w K mg base 0 m (spD K mg n) ((c, fun _ => .bad) :: T) := by
  obtain ⟨C, f, fd, h1, h2, h3, h4⟩ := M
  exact metT_cons h1 h2 (fn_zero (x := m) (qual := qual) (st := st) noD) h4 r
theorem met_zeroP {c m qual : Str} {st : Stmt} {ps : List Str} {ks : List Bool} {T : MTb} (M : MethW K c m qual st ps) (r : MetT P w K mg base 0 m (spP K mg ks) T) : MetT P w K mg base 0 m (spP K mg ks) ((c, fun _ => .bad) :: T) := by
  obtain ⟨C, f, fd, h1, h2, h3, h4⟩ := M
  exact metT_cons h1 h2 (fn_zero (x := m) (qual := qual) (st := st) noP) h4 r
theorem met_dataD {c m qual : Str} {st : Stmt} {N ps : List Str} {n k : Nat} {own : List Nat} {g : Vars → Out} {T : MTb} (M : MethW K c m qual st ps) (S : FnScope N ps (defScope st)) (hn : ps.length = n) (ho : (own.all fun i => decide (n ≤ i)) = true)
    (hb : ∀ (cdv : Value) (f : Addr) (A : Around) (outer : List Env) (s : Shared) (H : Hp) (E : XK), Room k (A.deeper (envOfC qual (defScope st) s.heap.objs.size f cdv)) → BX (cxOf (L2.CX P w) P w K mg base N qual (defScope st) f cdv A outer s H E) E own (defBody st) g)
    (r : MetT P w K mg base (k + 1) m (spD K mg n) T) (hmk : (own.all fun i => decide (i < 1000)) = true := by decide) : MetT P w K mg base (k + 1) m (spD K mg n) ((c, fnD N.length g) :: T) := by
  obtain ⟨C, f, fd, h1, h2, h3, h4⟩ := M
  exact metT_cons h1 h2 (fn_data h3 S hn ho (fun cdv A outer s H E hr => hb cdv f A outer s H E hr) hmk) h4 r
theorem met_dataP {c m qual : Str} {st : Stmt} {N ps : List Str} {k : Nat} {ks : List Bool} {own : List Nat} {g : Vars → Out} {T : MTb} (M : MethW K c m qual st ps) (S : FnScope N ps (defScope st)) (hn : ps.length = ks.length)
    (ho : (own.all fun i => decide (ks.length ≤ i) || decide (ks[i]? = some true)) = true) (hi : ((ltS 0 ks).all fun i => own.contains i && own.contains (1000 + i)) = true) (hmk : (own.all fun i => decide (i < 1000) || (ltS 0 ks).contains (i - 1000)) = true) (hne : (ltS 0 ks).isEmpty = false)
    (hb : ∀ (cdv : Value) (f : Addr) (A : Around) (outer : List Env) (s : Shared) (H : Hp) (E : XK), Room k (A.deeper (envOfC qual (defScope st) s.heap.objs.size f cdv)) → BXP (cxOf (L2.CX P w) P w K mg base N qual (defScope st) f cdv A outer s H E) E own (defBody st) g)
    (r : MetT P w K mg base (k + 1) m (spP K mg ks) T) : MetT P w K mg base (k + 1) m (spP K mg ks) ((c, fnDP N.length (ltS 0 ks) g) :: T) := by
  obtain ⟨C, f, fd, h1, h2, h3, h4⟩ := M
  exact metT_cons h1 h2 (fn_dataP h3 S hn ho hi hmk hne (fun cdv A outer s H E hr => hb cdv f A outer s H E hr)) h4 r
theorem fldF_nil {f : Str} : FldF K f [] := ⟨fun c h => by cases h⟩
theorem fldF_cons {f c : Str} {C : Addr} {cs : List Str} (h : ClN K c C) (n : PySem.W.findIn K (.ref C) f = some none) (r : FldF K f cs) : FldF K f (c :: cs) := ⟨fun d hd => by
  rcases List.mem_cons.mp hd with z | z
  · subst z; exact ⟨C, h, n⟩
  · exact r.all d z⟩
end
end Pu
set_option Elab.async false
set_option linter.all false
set_option maxRecDepth 100000
set_option maxHeartbeats 4000000
namespace Pu
open PySem PySem.Spec PyProof.Rows L2
section
variable {X : Cx} {W : WX} {own : List Nat}
end
theorem kitOne_tyF {K : PySem.W.Frag} {C : Addr} {T : String} (hk : PySem.W.kitMeta T = true) (ne : (Value.type T == Value.type "type") = false) (sb : PySem.W.subIn K (.ref C) (.type T) = some false) : PySem.W.kitOne K (.ref C) (.type T) = some false := by
  unfold PySem.W.kitOne
  split
  · rename_i h; cases h
  · show (if PySem.W.kitMeta T = true then PySem.W.subIn K (.ref C) (.type T) else none) = some false
    rw [if_pos hk]; exact sb
theorem clN_mk {K : PySem.W.Frag} {c : Str} {C : Addr} (at_ : PySem.W.nsIn K mainGlobals c = some (some (.ref C))) (cl : L2.Cls K C) (ha : PySem.W.findIn K (.ref C) "__class__" = some (some (.builtin "object.__class__")))
    (hn : PySem.W.specialIn K (.builtin "object.__class__") "__get__" = some (some (.builtin "getset_descriptor.__get__"))) (htk : PySem.W.takesIn K (.builtin "object.__class__") = some true) (hm : PySem.W.mroIn K C (.type "object") = some true)
    (n1 : PySem.W.subIn K (.ref C) (.type "int") = some false) (n2 : PySem.W.subIn K (.ref C) (.type "bool") = some false) (n3 : PySem.W.subIn K (.ref C) (.type "str") = some false) (n4 : PySem.W.subIn K (.ref C) (.type "list") = some false) (n5 : PySem.W.subIn K (.ref C) (.type "tuple") = some false) (n6 : PySem.W.subIn K (.ref C) (.type "dict") = some false) : ClN K c C where
  at_ := at_
  cl := cl
  ha := ha
  hn := hn
  htk := htk
  hm := hm
  no := fun T h => by
    simp only [List.mem_cons, List.not_mem_nil, or_false] at h
    rcases h with rfl | rfl | rfl | rfl | rfl | rfl
    · exact kitOne_tyF (by decide +kernel) (by decide +kernel) n1
    · exact kitOne_tyF (by decide +kernel) (by decide +kernel) n2
    · exact kitOne_tyF (by decide +kernel) (by decide +kernel) n3
    · exact kitOne_tyF (by decide +kernel) (by decide +kernel) n4
    · exact kitOne_tyF (by decide +kernel) (by decide +kernel) n5
    · exact kitOne_tyF (by decide +kernel) (by decide +kernel) n6
end Pu
set_option Elab.async false
set_option linter.all false
set_option maxRecDepth 100000
set_option maxHeartbeats 4000000
namespace Pu
open PySem PySem.Spec PyProof.Rows L2
section
variable {X : Cx} {cs : List Str} {E : XK} {m : Nat}
end
section
variable {P : Program} {w : World} {K : PySem.W.Frag} {mg : Str → Option Value} {base : Heap}
end
end Pu
set_option Elab.async false
set_option linter.all false
set_option maxRecDepth 100000
set_option maxHeartbeats 4000000
namespace Pu
open PySem PySem.Spec PyProof.Rows L2 SeqAt MeetsSeq
section
variable {P : Program} {w : World}
end
inductive Prd (F : V → V → Prop) : List V → List V → Prop where
  | nil : Prd F [] []
  | cons {x y xs ys} : F x y → Prd F xs ys → Prd F (x :: xs) (y :: ys)
theorem Prd.len {F : V → V → Prop} {xs ys : List V} (h : Prd F xs ys) : xs.length = ys.length := by
  induction h with
  | nil => rfl
  | cons _ _ ih => simp [ih]
section
variable {X : Cx} {pins : List (Addr × Obj)} {σ : L2.St} {H : Hp} {s : Shared}
end
end Pu
set_option Elab.async false
set_option linter.all false
set_option maxRecDepth 100000
set_option maxHeartbeats 4000000
namespace Pu
open PySem PySem.Spec PyProof.Rows L2
end Pu
set_option Elab.async false
set_option linter.all false
set_option maxRecDepth 100000
set_option maxHeartbeats 4000000
namespace Pu
open PySem PySem.Spec PyProof.Rows L2
section
variable {X : Cx} {W : WX}
end
end Pu
set_option Elab.async false
set_option linter.all false
set_option maxRecDepth 100000
set_option maxHeartbeats 4000000
namespace Pu
open PySem PySem.Spec PyProof.Rows L2
inductive KTs (X : Cx) : List Expr → List (List (Str × Bool)) → Prop
  | nil : KTs X [] []
  | cons {y : Str} {l : List (Str × Bool)} {p : Pos} {es : List Expr} {ls : List (List (Str × Bool))} (F : KitY X.K X.mg y l) (gY : Gl X y) (dY : (y == ("__debug__" : Str)) = false) (hs : starEach (.Name y p :: es) X.env = (false, eval (.Name y p) X.env) :: starEach es X.env) (r : KTs X es ls) : KTs X (.Name y p :: es) (l :: ls)
def anyT : List (List (Str × Bool)) → Str → Option Bool
  | [], _ => some false
  | l :: ls, c => match tabL l c with
    | some true => some true
    | some false => anyT ls c
    | none => none
theorem KTs.pa {X : Cx} {a : Addr} {pn : List (Addr × Obj)} : ∀ {es : List Expr} {ls : List (List (Str × Bool))}, KTs X es ls → ∃ (cs : List Addr) (t : TA), cs.length = es.length ∧ PA (X.suite a pn) es t ∧ (∀ σ H (Q : List V → Hp → Prop), Q (cs.map V.ref) H → t σ H Q) ∧ ∀ (c : Str) (C : Addr) (b : Bool), X.mg c = some (.ref C) → anyT ls c = some b → PySem.W.kitAny X.K (.ref C) (cs.map Value.ref) = some b := by
  intro es ls h
  induction h with
  | nil => exact ⟨[], _, rfl, pa_nil, fun σ H Q q => q, fun c C b _ e => by cases e; rfl⟩
  | @cons y l p es ls F gY dY hs r ih =>
    obtain ⟨cs, t, h0, h1, h2, h3⟩ := ih
    obtain ⟨CY, hy, hF⟩ := F
    refine ⟨CY :: cs, _, by simp [h0], pa_cons (pe_glob (X := X.suite a pn) (v := .ref CY) gY hy rfl dY) h1 hs, fun σ H Q q => h2 _ _ _ q, fun c C b hc e => ?_⟩
    unfold anyT at e
    cases ht : tabL l c with
    | none => rw [ht] at e; cases e
    | some d =>
      obtain ⟨C', hC', _, hk⟩ := hF c d ht
      rw [hc] at hC'
      cases hC'
      show (match PySem.W.kitOne X.K (.ref C) (.ref CY) with | some true => some true | some false => PySem.W.kitAny X.K (.ref C) (cs.map Value.ref) | none => none) = some b
      rw [hk]
      rw [ht] at e
      cases d with
      | true => exact e
      | false => exact h3 c C b hc e
section
variable {X : Cx} {ie : Nat} {c : Str}
end
def HOut (X : Cx) (own : List Nat) (ie : Nat) (a : Addr) (H0 : HB) (O0 O : List Addr) (H : Hp) (D : Ends) : R Vars → Prop
  | .ok ρ' => ∀ σ' H', Rel X.K own H0 O0 O σ' H' ρ' → Same H H' → σ'[ie]? = some (some (.ref a)) → D.nx σ' H'
  | _ => False
theorem HOut.from {X : Cx} {own : List Nat} {ie : Nat} {a : Addr} {H0 : HB} {O0 O : List Addr} {H H1 : Hp} {D : Ends} {r : R Vars} (z : HOut X own ie a H0 O0 O H D r) (s : Same H H1) : HOut X own ie a H0 O0 O H1 D r := by
  cases r with
  | ok ρ' => exact fun σ' H' r' s' => z σ' H' r' (s.trans s')
  | err _ => exact z
  | bad => exact z
section
variable {X : Cx} {own : List Nat} {ie : Nat} {c : Str}
end
section
variable {X : Cx} {W : WX} {own : List Nat}
end
end Pu
set_option Elab.async false
set_option linter.all false
set_option maxRecDepth 100000
set_option maxHeartbeats 4000000
namespace Pu
open PySem PySem.Spec PyProof.Rows L2
section
variable {X : Cx} {W : WX} {pos : Pos}
end
end Pu
set_option Elab.async false
set_option linter.all false
set_option maxRecDepth 100000
set_option maxHeartbeats 4000000
namespace Pu
open PySem PySem.Spec PyProof.Rows L2
section
variable {P : Program} {w : World} {K : PySem.W.Frag} {mg : Str → Option Value} {base : Heap}
end
section
variable {X : Cx} {ie : Nat} {c : Str}
end
end Pu
set_option Elab.async false
set_option linter.all false
set_option maxRecDepth 100000
set_option maxHeartbeats 4000000
namespace Pu
open PySem PySem.Spec PyProof.Rows L2
def ExcT (C a : Addr) : HO := .ext fun h => ∃ oe : Obj, h.get? a = some oe ∧ Zc (.ref C) none oe ∧ ∃ vs, oe.data = .fields vs
section
variable {X : Cx} {pins : List (Addr × Obj)} {σ : L2.St} {H : Hp} {s : Shared}
end
section
variable {X : Cx} {x n : Str} {c : Value} {i : Nat} {body suite : List Stmt} {b₀ : Stmt} {np pos pos' : Pos} {tb : WX → TS} {ts : Addr → Addr → TS}
end
end Pu
set_option Elab.async false
set_option linter.all false
set_option maxRecDepth 100000
set_option maxHeartbeats 4000000
namespace Pu
open PySem PySem.Spec PyProof.Rows L2
def TXK (X : Cx) (W : WX) (ie : Nat) (c : Str) (e : Expr) (f : Vars → R Bool) : Prop := ∀ (a C : Addr), X.mg c = some (.ref C) →
  ∃ t, PT X e t ∧ ∀ σ H O ρ (Q : Bool → Hp → Prop), σ[ie]? = some (some (.ref a)) → H a = some (ExcT C a) → Stands O H → VRel X.K (hide O H) σ ρ → TOut X W σ H Q (f ρ) → t σ H Q
section
variable {X : Cx} {W : WX} {ie : Nat} {c : Str}
end
end Pu
set_option Elab.async false
set_option linter.all false
set_option maxRecDepth 100000
set_option maxHeartbeats 4000000
namespace Pu
open PySem PySem.Spec PyProof.Rows L2
def WXK (X : Cx) (W : WX) (ie : Nat) (c : Str) (e : Expr) (f : Vars → R Bool) : Prop := ∀ (a C : Addr), X.mg c = some (.ref C) →
  ∃ t, PW X e t ∧ ∀ σ H O ρ (Q : Bool → Hp → Prop), σ[ie]? = some (some (.ref a)) → H a = some (ExcT C a) → Stands O H → VRel X.K (hide O H) σ ρ → TOut X W σ H Q (f ρ) → t σ H Q
section
variable {X : Cx} {W : WX} {ie : Nat} {c : Str}
theorem WXK.tx {e : Expr} {f : Vars → R Bool} (h : WXK X W ie c e f) : TXK X W ie c e f := fun ad C hC => by
  obtain ⟨t, p, ht⟩ := h ad C hC
  exact ⟨_, p.pt, ht⟩
end
def KOut (K : PySem.W.Frag) (O0 : List Addr) (H : Hp) (D : Ends) : R PyData → Prop
  | .ok d => ∀ v H', Same H H' → Rp K (hide O0 H') v d → D.rt v H'
  | _ => False
theorem KOut.from {K : PySem.W.Frag} {O0 : List Addr} {H H1 : Hp} {D : Ends} {r : R PyData} (z : KOut K O0 H D r) (s : Same H H1) : KOut K O0 H1 D r := by
  cases r with
  | ok d => exact fun v H' s' rv => z v H' (s.trans s') rv
  | err _ => exact z
  | bad => exact z
section
variable {X : Cx} {ie : Nat} {c : Str}
end
end Pu
set_option Elab.async false
set_option linter.all false
set_option maxRecDepth 100000
set_option maxHeartbeats 4000000
namespace Pu
open PySem PySem.Spec PyProof.Rows L2
section
variable {X : Cx}
end
end Pu
set_option Elab.async false
set_option linter.all false
set_option maxRecDepth 100000
set_option maxHeartbeats 4000000
namespace Pu
open PySem PySem.Spec PyProof.Rows L2
end Pu
set_option Elab.async false
set_option linter.all false
set_option maxRecDepth 100000
set_option maxHeartbeats 4000000
namespace Pu
open PySem PySem.Spec PyProof.Rows L2
inductive RB where
  | ok (b : Bool) (ρ : Vars) | err (c : Str) (ρ : Vars) | bad
@[simp] def RB.then (r : RB) (k : Bool → Vars → RB) : RB := match r with
  | .ok b ρ => k b ρ
  | .err c ρ => .err c ρ
  | .bad => .bad
@[simp] def RB.run (r : RB) (k : Bool → Vars → Out) : Out := match r with
  | .ok b ρ => k b ρ
  | .err c ρ => .err c ρ
  | .bad => .bad
section
variable (X : Cx) (W : WX) (own : List Nat)
def BB (H0 : HB) (O0 O : List Addr) (σ : L2.St) (H : Hp) (Q : Bool → Hp → Prop) : RB → Prop
  | .ok b ρ => ∀ H' O', Rel X.K own H0 O0 O' σ H' ρ → Same (hide O H) (hide O' H') → Q b H'
  | .err c ρ => ∀ H' O', Rel X.K own H0 O0 O' σ H' ρ → Same (hide O H) (hide O' H') → W (exV X.mg c) none σ H'
  | .bad => False
def TO (e : Expr) (f : Vars → RB) : Prop :=
  ∃ t, PT X e t ∧ ∀ σ H ρ Q H0 O0 O, Rel X.K own H0 O0 O σ H ρ → BB X W own H0 O0 O σ H Q (f ρ) → t σ H Q
def WO (e : Expr) (f : Vars → RB) : Prop :=
  ∃ t, PW X e t ∧ ∀ σ H ρ Q H0 O0 O, Rel X.K own H0 O0 O σ H ρ → BB X W own H0 O0 O σ H Q (f ρ) → t σ H Q
end
section
variable {X : Cx} {W : WX} {own : List Nat}
theorem BB.from {H0 : HB} {O0 O O' : List Addr} {σ : L2.St} {H H' : Hp} {Q : Bool → Hp → Prop} {r : RB} (z : BB X W own H0 O0 O σ H Q r) (s : Same (hide O H) (hide O' H')) : BB X W own H0 O0 O' σ H' Q r := by
  cases r with
  | ok d ρ => exact fun H2 O2 r s2 => z H2 O2 r (s.trans s2)
  | err c ρ => exact fun H2 O2 r s2 => z H2 O2 r (s.trans s2)
  | bad => exact z
@[simp] def qE (f : Vars → RE) (ρ : Vars) : RB := match f ρ with
  | .ok (.bool b) ρ' => .ok b ρ'
  | .err c ρ' => .err c ρ'
  | _ => .bad
theorem to_e {e : Expr} {f : Vars → RE} (h : EO X W own e f) (he : ∀ whole, isTrue e X.env whole = (do let v ← whole; standAt e.pos; holding [v] (truthy v)) := by intro _; rfl) : TO X W own e (qE f) := by
  obtain ⟨t, p, ht⟩ := h
  refine ⟨_, pt_truth p he, fun σ H ρ Q H0 O0 O r z => ht σ H ρ _ H0 O0 O r ?_⟩
  unfold qE at z
  cases e1 : f ρ with
  | bad => rw [e1] at z; exact z
  | err c ρ1 => rw [e1] at z; exact z
  | ok d ρ1 =>
    rw [e1] at z
    cases d with
    | bool b => exact fun v H' O' r' s' rv => by cases rv; exact ⟨b, rfl, z H' O' r' s'⟩
    | _ => exact z.elim
@[simp] def qT (f : Vars → R Bool) (ρ : Vars) : RB := match f ρ with
  | .ok b => .ok b ρ
  | .err c => .err c ρ
  | .bad => .bad
theorem to_t {e : Expr} {f : Vars → R Bool} (h : TX X W e f) : TO X W own e (qT f) := by
  obtain ⟨t, p, ht⟩ := h
  refine ⟨_, p, fun σ H ρ Q H0 O0 O r z => ht σ H O0 ρ _ r.stands0 r.vrel0 ?_⟩
  unfold qT at z
  cases e1 : f ρ with
  | bad => rw [e1] at z; exact z
  | err c => rw [e1] at z; exact fun H' s => z H' O (r.step s) (hide_same s)
  | ok b => rw [e1] at z; exact fun H' s => z H' O (r.step s) (hide_same s)
@[simp] def qNot (f : Vars → RB) (ρ : Vars) : RB := (f ρ).then fun b ρ' => .ok (!b) ρ'
theorem to_not {e : Expr} {f : Vars → RB} {pos : Pos} (h : TO X W own e f) : TO X W own (.UnaryOp .Not e pos) (qNot f) := by
  obtain ⟨t, p, ht⟩ := h
  refine ⟨_, pt_not p, fun σ H ρ Q H0 O0 O r z => ht σ H ρ _ H0 O0 O r ?_⟩
  unfold qNot at z
  cases e1 : f ρ with
  | bad => rw [e1] at z; exact z
  | err c ρ1 => rw [e1] at z; exact z
  | ok b ρ1 => rw [e1] at z; exact z
@[simp] def qOr (f g : Vars → RB) (ρ : Vars) : RB := (f ρ).then fun b ρ' => if b = true then .ok true ρ' else g ρ'
theorem wo_or1 {a : Expr} {f : Vars → RB} {pos : Pos} (h : TO X W own a f) : WO X W own (.BoolOp .Or [a] pos) f := by
  obtain ⟨t, p, ht⟩ := h
  exact ⟨_, pw_or1 p, ht⟩
theorem wo_or {a b : Expr} {rest : List Expr} {f g : Vars → RB} {pos : Pos} (h : TO X W own a f) (k : WO X W own (.BoolOp .Or (b :: rest) pos) g) : WO X W own (.BoolOp .Or (a :: b :: rest) pos) (qOr f g) := by
  obtain ⟨t, p, ht⟩ := h
  obtain ⟨u, q, hu⟩ := k
  refine ⟨_, pw_or p q, fun σ H ρ Q H0 O0 O r z => ht σ H ρ _ H0 O0 O r ?_⟩
  unfold qOr at z
  cases e1 : f ρ with
  | bad => rw [e1] at z; exact z
  | err c ρ1 => rw [e1] at z; exact z
  | ok b ρ1 =>
    rw [e1] at z
    intro H1 O1 r1 s1
    cases b with
    | true => exact z H1 O1 r1 s1
    | false => exact hu σ H1 ρ1 Q H0 O0 O1 r1 (BB.from z s1)
theorem WO.to {e : Expr} {f : Vars → RB} (h : WO X W own e f) : TO X W own e f := by
  obtain ⟨t, p, ht⟩ := h
  exact ⟨_, p.pt, ht⟩
@[simp] def soIf (c : Vars → RB) (g h : Vars → Out) (ρ : Vars) : Out := (c ρ).run fun b ρ' => if b = true then g ρ' else h ρ'
theorem so_if {c : Expr} {a b : List Stmt} {f : Vars → RB} {g h : Vars → Out} {pos : Pos} (hc : TO X W own c f) (ha : SsX X W own a g) (hb : SsX X W own b h) : SX X W own (.If c a b pos) (soIf f g h) := by
  obtain ⟨t, p, ht⟩ := hc
  obtain ⟨ta, pa, hta⟩ := ha
  obtain ⟨tb, pb, htb⟩ := hb
  refine ⟨_, ps_if p pa pb, fun σ H ρ D H0 O0 O r z => ht σ H ρ _ H0 O0 O r ?_⟩
  unfold soIf at z
  cases e1 : f ρ with
  | bad => rw [e1] at z; exact z
  | err c ρ1 => rw [e1] at z; exact fun H' O' r' s' => z σ H' O' r' s'
  | ok d ρ1 =>
    rw [e1] at z
    intro H1 O1 r1 s1
    cases d with
    | true => exact hta σ H1 ρ1 D H0 O0 O1 r1 (SOut.from z s1)
    | false => exact htb σ H1 ρ1 D H0 O0 O1 r1 (SOut.from z s1)
end
end Pu
set_option Elab.async false
set_option linter.all false
set_option maxRecDepth 100000
set_option maxHeartbeats 4000000
namespace Pu
open PySem PySem.Spec PyProof.Rows L2
structure Hf where
  f : Addr
  fd : FuncData
  cl : List (Str × Addr)
  fr : List Str
  ws : List (Option V)
structure Held (p : Hf) (h : Heap) (H : Hp) : Prop where
  no : H p.f = Option.none
  at_ : ∃ od sl, h.get? p.f = some (⟨.type "function", od, .func p.fd, sl⟩ : Obj)
  cells : NdefX.CellsAt p.cl p.fr p.ws h H
def CallT (P : Program) (w : World) (K : PySem.W.Frag) (mg : Str → Option Value) (base : Heap) (k : Nat) (p : Hf) (r : PyData → PyData → Option PyData) : Prop :=
  ∀ (A : Around) (outer : List Env) (s : Shared) (H : Hp) (u : Value) (v : V) (O : List Addr) (D d z : PyData) (Q : VK), Room k A → Env0 P w K mg base A outer s H → Held p s.heap H → Stands O H → Rp K (hide O H) (.ref p.f) D → Rp K (hide O H) v d → RelV v u → r D d = some z → (∀ v' H', Same H H' → Rp K (hide O H') v' z → Q v' H') →
    codeAny (model P w) A (.call (.ref p.f) ⟨[u], []⟩) (CR (L2.CX P w) outer P w H s Q (fun _ _ _ => False)) s
theorem CallT.mono {P : Program} {w : World} {K : PySem.W.Frag} {mg : Str → Option Value} {base : Heap} {j k : Nat} {p : Hf} {r : PyData → PyData → Option PyData} (h : CallT P w K mg base j p r) (l : j ≤ k) : CallT P w K mg base k p r := fun A outer s H u v O D d z Q hr => h A outer s H u v O D d z Q (hr.mono l)
structure FnR (P : Program) (w : World) (K : PySem.W.Frag) (mg : Str → Option Value) (base : Heap) (k : Nat) (p : Hf) (f : Addr) (fd : FuncData) (ps : List Str) (sp : Sp) : Prop where
  len : ∀ vs H Q E, sp vs H Q E → vs.length = ps.length
  run : ∀ (A : Around) (outer : List Env) (s : Shared) (H : Hp) (args : Args) (us : List Value) (vs : List V) (Q : VK) (E : XK), Room k A → Env0 P w K mg base A outer s H → BindsTo s fd args (ps.zip us) → Vals vs us → Held p s.heap H → sp vs H Q E →
    codeAny (model P w) A (.call (.ref f) args) (CR (L2.CX P w) outer P w H s Q E) s
theorem FnR.mono {P : Program} {w : World} {K : PySem.W.Frag} {mg : Str → Option Value} {base : Heap} {j k : Nat} {p : Hf} {f : Addr} {fd : FuncData} {ps : List Str} {sp : Sp} (F : FnR P w K mg base j p f fd ps sp) (h : j ≤ k) : FnR P w K mg base k p f fd ps sp := ⟨F.len, fun A outer s H args us vs Q E hr => F.run A outer s H args us vs Q E (hr.mono h)⟩
section
variable {K : PySem.W.Frag} {H : Hp}
end
theorem OwnO.notbl {o : HO} (h : OwnO o) : ∀ ps, o ≠ .tbl ps := fun ps z => by
  rcases h with (⟨_, h⟩ | ⟨_, h⟩) | ⟨_, h | ⟨_, h⟩⟩ <;> rw [h] at z <;> cases z
def Ol (O : List Addr) (H : Hp) : Prop := ∀ a ∈ O, ∃ o, H a = some o ∧ OwnO o
theorem Ol.stands {O : List Addr} {H : Hp} (h : Ol O H) : Stands O H := fun a ha => by
  obtain ⟨o, e, ho⟩ := h a ha
  exact ⟨o, e, ho.notup⟩
theorem Ol.ext {O : List Addr} {H H' : Hp} (h : Ol O H) (e : LamX.ExtN H H') : Ol O H' := fun a ha => by
  obtain ⟨o, e1, e2⟩ := h a ha
  exact ⟨o, e a o e1 e2.notbl, e2⟩
theorem Ol.same {O : List Addr} {H H' : Hp} (h : Ol O H) (s : Same H H') : Ol O H' := h.ext (LamX.ExtN.of s)
theorem Ol.no {O : List Addr} {H : Hp} (h : Ol O H) {a : Addr} {o : HO} (e : H a = some o) (n : ¬ OwnO o) : a ∉ O := fun z => by
  obtain ⟨u, e1, e2⟩ := h a z
  rw [e] at e1; cases e1
  exact n e2
end Pu
set_option Elab.async false
set_option linter.all false
set_option maxRecDepth 100000
set_option maxHeartbeats 4000000
namespace Pu
open PySem PySem.Spec PyProof.Rows L2
section
variable (X : Cx)
end
section
variable {X : Cx} {P : Addr} {q : Str} {own : List Nat}
end
def CalR (P : Program) (w : World) (K : PySem.W.Frag) (mg : Str → Option Value) (base : Heap) (k : Nat) (x : Str) (n : Nat) (i0 : Int) (G : Addr → (PyData → PyData → Option PyData) → List PyData → R PyData) : Prop :=
  ∃ (fa : Addr) (fd : FuncData) (ps : List Str) (ds : List Value), ps.length = n ∧ (∀ hp rr, CallT P w K mg base 1 hp rr → FnR P w K mg base k hp fa fd ps (spN K mg n (G hp.f rr))) ∧ mg x = some (.ref fa) ∧ PySem.W.keepIn K (.ref fa) = true ∧ Binds K fd ps [] ∧ Binds K fd ps ds ∧ Vals [V.int i0] ds
end Pu
set_option Elab.async false
set_option linter.all false
set_option maxRecDepth 100000
set_option maxHeartbeats 4000000
namespace Pu
open PySem PySem.Spec PyProof.Rows L2
end Pu
set_option Elab.async false
set_option linter.all false
set_option maxRecDepth 100000
set_option maxHeartbeats 4000000
namespace Pu
open PySem PySem.Spec PyProof.Rows L2
section
variable {X : Cx} {p : Addr × Obj} {pins : List (Addr × Obj)} {σ : L2.St} {H : Hp} {s : Shared}
end
section
variable {X : Cx} {pins : List (Addr × Obj)} {σ : L2.St} {H : Hp} {s : Shared}
end
end Pu
set_option Elab.async false
set_option linter.all false
set_option maxRecDepth 100000
set_option maxHeartbeats 4000000
namespace Pu
open PySem PySem.Spec PyProof.Rows L2
theorem FnR.imp {P : Program} {w : World} {K : PySem.W.Frag} {mg : Str → Option Value} {base : Heap} {k : Nat} {p : Hf} {f : Addr} {fd : FuncData} {ps : List Str} {sp sp' : Sp} (F : FnR P w K mg base k p f fd ps sp) (h : ∀ vs H Q E, sp' vs H Q E → sp vs H Q E) : FnR P w K mg base k p f fd ps sp' :=
  ⟨fun vs H Q E q => F.len vs H Q E (h _ _ _ _ q), fun A outer s H args us vs Q E hr e0 hb r hh q => F.run A outer s H args us vs Q E hr e0 hb r hh (h _ _ _ _ q)⟩
def CalD (P : Program) (w : World) (K : PySem.W.Frag) (mg : Str → Option Value) (base : Heap) (k : Nat) (x : Str) (n : Nat) (dv : List PyData) (G : Addr → (PyData → PyData → Option PyData) → List PyData → R PyData) : Prop :=
  ∃ (fa : Addr) (fd : FuncData) (ps : List Str) (ds : List Value) (dvV : List V), ps.length = n ∧ (∀ hp rr, CallT P w K mg base 1 hp rr → FnR P w K mg base k hp fa fd ps (spD K mg n (G hp.f rr))) ∧ mg x = some (.ref fa) ∧ PySem.W.keepIn K (.ref fa) = true ∧ Binds K fd ps ds ∧ Vals dvV ds ∧ ∀ F, Rps K F dvV dv
theorem CalR.all {P : Program} {w : World} {K : PySem.W.Frag} {mg : Str → Option Value} {base : Heap} {k n : Nat} {x : Str} {i0 : Int} {G : Addr → (PyData → PyData → Option PyData) → List PyData → R PyData} (h : CalR P w K mg base k x n i0 G) : CalD P w K mg base k x n [] (fun f rr ds => newL (G f rr ds)) := by
  obtain ⟨fa, fd, ps, ds, h1, h2, h3, h4, h5, h6, h7⟩ := h
  exact ⟨fa, fd, ps, [], [], h1, fun hp rr ct => (h2 hp rr ct).imp spN_of, h3, h4, h5, .nil, fun F => .nil⟩
theorem CalR.one {P : Program} {w : World} {K : PySem.W.Frag} {mg : Str → Option Value} {base : Heap} {k n : Nat} {x : Str} {i0 : Int} {G : Addr → (PyData → PyData → Option PyData) → List PyData → R PyData} (h : CalR P w K mg base k x n i0 G) : CalD P w K mg base k x n [.int i0] (fun f rr ds => newL (G f rr ds)) := by
  obtain ⟨fa, fd, ps, ds, h1, h2, h3, h4, h5, h6, h7⟩ := h
  exact ⟨fa, fd, ps, ds, [.int i0], h1, fun hp rr ct => (h2 hp rr ct).imp spN_of, h3, h4, h6, h7, fun F => .cons (.int _) .nil⟩
end Pu
set_option Elab.async false
set_option linter.all false
set_option maxRecDepth 100000
set_option maxHeartbeats 4000000
namespace Pu
open PySem PySem.Spec PyProof.Rows L2
section
variable {X : Cx} {P : Addr} {nm : Nat → Nat → Str} {own : List Nat}
end
end Pu
set_option Elab.async false
set_option linter.all false
set_option maxRecDepth 100000
set_option maxHeartbeats 4000000
namespace Pu
open PySem PySem.Spec PyProof.Rows L2
end Pu
set_option Elab.async false
set_option linter.all false
set_option maxRecDepth 100000
set_option maxHeartbeats 4000000
namespace Pu
open PySem PySem.Spec PyProof.Rows L2
section
variable {K : PySem.W.Frag} {H : Hp}
theorem RpT.length : ∀ {kvs : List (List Key × V)} {ds : List (PyData × PyData)}, RpT K H kvs ds → kvs.length = ds.length
  | _, _, .nil => rfl
  | _, _, .cons _ r => congrArg Nat.succ r.length
end
section
variable {X : Cx} {W : WX} {own : List Nat}
end
end Pu
set_option Elab.async false
set_option linter.all false
set_option maxRecDepth 100000
set_option maxHeartbeats 4000000
namespace Pu
open PySem PySem.Spec PyProof.Rows L2
section
variable {X : Cx} {W : WX}
end
end Pu
set_option Elab.async false
set_option linter.all false
set_option maxRecDepth 100000
set_option maxHeartbeats 4000000
namespace Pu
open PySem PySem.Spec PyProof.Rows L2
section
variable {X : Cx} {W : WX} {own : List Nat}
end
end Pu
set_option Elab.async false
set_option linter.all false
set_option maxRecDepth 100000
set_option maxHeartbeats 4000000
namespace Pu
open PySem PySem.Spec PyProof.Rows L2
section
variable {X : Cx} {W : WX} {tg : Expr}
end
end Pu
set_option Elab.async false
set_option linter.all false
set_option maxRecDepth 100000
set_option maxHeartbeats 4000000
namespace Pu
open PySem PySem.Spec PyProof.Rows L2
section
variable {X : Cx} {W : WX} {own : List Nat} {iu : Nat}
end
end Pu
set_option Elab.async false
set_option linter.all false
set_option maxRecDepth 100000
set_option maxHeartbeats 4000000
namespace Pu
open PySem PySem.Spec PyProof.Rows L2
section
variable {X : Cx} {W : WX}
end
end Pu
set_option Elab.async false
set_option linter.all false
set_option maxRecDepth 100000
set_option maxHeartbeats 4000000
namespace Pu
open PySem PySem.Spec PyProof.Rows L2
section
variable {P : Program} {w : World} {K : PySem.W.Frag} {mg : Str → Option Value} {base : Heap}
end
section
variable {X : Cx} {W : WX}
end
end Pu
set_option Elab.async false
set_option linter.all false
set_option maxRecDepth 100000
set_option maxHeartbeats 4000000
namespace Pu
open PySem PySem.Spec PyProof.Rows L2
end Pu
set_option Elab.async false
set_option linter.all false
set_option maxRecDepth 100000
set_option maxHeartbeats 4000000
namespace Pu
open PySem PySem.Spec PyProof.Rows L2
structure InM (K : PySem.W.Frag) (H0 : Hp) (O : List Addr) (H : Hp) (U : Addr) (kvs : List (Key × V)) (ds : List (PyData × PyData)) : Prop where
  len : kvs.length = ds.length
  keys : (kvs.map (·.1)).Nodup
  mem : ∀ (j : Nat) (k : Key) (v : V), kvs[j]? = some (k, v) → ∃ a vs es, v = .ref a ∧ ds[j]? = some (kD k, .list es) ∧ a ∈ O ∧ a ≠ U ∧ H0 a = none ∧ H a = some (.lst vs) ∧ Rps K (hide O H) vs es
  inj : ∀ (i j : Nat) (k l : Key) (a : Addr), kvs[i]? = some (k, .ref a) → kvs[j]? = some (l, .ref a) → i = j
structure RelM (K : PySem.W.Frag) (iu : Nat) (H0 : Hp) (O0 O : List Addr) (σ : L2.St) (H : Hp) (ρ : Vars) : Prop where
  base : Rel K [] (HB.nl H0) O0 O σ H (ρ.set iu none)
  deep : ∃ U kvs ds, ρ[iu]? = some (some (.dict ds)) ∧ σ[iu]? = some (some (.ref U)) ∧ U ∈ O ∧ H0 U = none ∧ H U = some (.dK kvs) ∧ InM K H0 O H U kvs ds
theorem InM.mono {K : PySem.W.Frag} {H0 : Hp} {O O' : List Addr} {H H' : Hp} {U : Addr} {kvs : List (Key × V)} {ds : List (PyData × PyData)} (h : InM K H0 O H U kvs ds) (sO : ∀ a ∈ O, a ∈ O') (s : ∀ a o, a ≠ U → H0 a = none → H a = some o → H' a = some o) (sF : Same (hide O H) (hide O' H')) : InM K H0 O' H' U kvs ds := ⟨h.len, h.keys, fun j k v e => by
  obtain ⟨a, vs, es, e1, e2, e3, e4, e5, e6, e7⟩ := h.mem j k v e
  exact ⟨a, vs, es, e1, e2, sO a e3, e4, e5, s a _ e4 e5 e6, e7.mono sF⟩, h.inj⟩
theorem rpd_ofIx {K : PySem.W.Frag} {F : Hp} : ∀ {kvs : List (Key × V)} {ds : List (PyData × PyData)}, kvs.length = ds.length → (∀ (j : Nat) (k : Key) (v : V), kvs[j]? = some (k, v) → ∃ d, ds[j]? = some (kD k, d) ∧ Rp K F v d) → Rpd K F kvs ds
  | [], [], _, _ => .nil
  | [], _ :: _, l, _ => by cases l
  | _ :: _, [], l, _ => by cases l
  | (k, v) :: kvs, p :: ds, l, h => by
    obtain ⟨d, e1, e2⟩ := h 0 k v rfl
    have e1 : p = (kD k, d) := by simpa using e1
    subst e1
    exact .cons e2 (rpd_ofIx (by simpa using l) fun j k v e => h (j + 1) k v e)
theorem InM.rpd {K : PySem.W.Frag} {H0 : Hp} {O : List Addr} {H F : Hp} {U : Addr} {kvs : List (Key × V)} {ds : List (PyData × PyData)} (h : InM K H0 O H U kvs ds) (sF : Same (hide O H) F) (s : ∀ a o, a ≠ U → H0 a = none → a ∈ O → (∃ (j : Nat) (k : Key), kvs[j]? = some (k, .ref a)) → H a = some o → F a = some o) : Rpd K F kvs ds := rpd_ofIx h.len fun j k v e => by
  obtain ⟨a, vs, es, rfl, e2, e3, e4, e5, e6, e7⟩ := h.mem j k v e
  exact ⟨_, e2, .lst (.inl (.inl (s a _ e4 e5 e3 ⟨j, k, e⟩ e6))) (e7.mono sF)⟩
section
variable {K : PySem.W.Frag} {iu : Nat} {H0 : Hp} {O0 O : List Addr} {σ : L2.St} {H H' : Hp} {ρ : Vars}
theorem RelM.stands (r : RelM K iu H0 O0 O σ H ρ) : Stands O H := r.base.stands
theorem RelM.stands0 (r : RelM K iu H0 O0 O σ H ρ) : Stands O0 H := r.base.stands0
theorem RelM.same (r : RelM K iu H0 O0 O σ H ρ) : Same H0 H := r.base.same
theorem RelM.vrel0 (r : RelM K iu H0 O0 O σ H ρ) : VRel K (hide O0 H) σ ρ := ⟨by simpa using r.base.len, fun i d e => by
  by_cases c : i = iu
  · subst c
    obtain ⟨U, kvs, ds, h1, h2, h3, h4, h5, h6⟩ := r.deep
    rw [h1] at e
    cases e
    exact ⟨_, h2, .dic (.inl (hide_of (r.base.notO0 h4) h5)) (h6.rpd (hide_less r.base.sub) fun a o _ g1 _ _ g => hide_of (r.base.notO0 g1) g)⟩
  · exact r.base.vrel0.get i d (by rw [set_getElem? c]; exact e)⟩
theorem RelM.vrelM (r : RelM K iu H0 O0 O σ H ρ) : VRel K (hide O H) σ (mask [iu] ρ) := by
  rw [mask_setN]; exact r.base.vrelM
theorem RelM.imm (r : RelM K iu H0 O0 O σ H ρ) {v : V} {d : PyData} (h : Rp K (hide O0 H) v d) (e : imm d = true) : Rp K (hide O H) v d := r.base.imm h e
theorem RelM.step (r : RelM K iu H0 O0 O σ H ρ) (s : Same H H') : RelM K iu H0 O0 O σ H' ρ := ⟨r.base.step s, by
  obtain ⟨U, kvs, ds, h1, h2, h3, h4, h5, h6⟩ := r.deep
  exact ⟨U, kvs, ds, h1, h2, h3, h4, s _ _ h5, h6.mono (fun _ h => h) (fun a o _ _ h => s _ _ h) (hide_same s)⟩⟩
theorem RelM.set (r : RelM K iu H0 O0 O σ H ρ) {i : Nat} {v : V} {d : PyData} (c2 : i ≠ iu) (h : Rp K (hide O H) v d) : RelM K iu H0 O0 O (σ.set i (some v)) H (ρ.set i (some d)) := ⟨by
    rw [List.set_comm _ _ c2]; exact r.base.set (by simp) h, by
  obtain ⟨U, kvs, ds, h1, h2, h⟩ := r.deep
  exact ⟨U, kvs, ds, by rw [List.getElem?_set_ne c2]; exact h1, by rw [List.getElem?_set_ne c2]; exact h2, h⟩⟩
theorem RelM.other (r : RelM K iu H0 O0 O σ H ρ) {σ' : L2.St} {ρ' : Vars} {js : List Nat} (hj : ∀ j ∈ js, j ∉ [iu]) (hl : σ'.length = σ.length) (v : VRel K (hide O H) σ' (mask [iu] ρ')) (f : ∀ j : Nat, j ∉ js → σ'[j]? = σ[j]? ∧ (mask [iu] ρ')[j]? = (mask [iu] ρ)[j]?) (f2 : ∀ j : Nat, j ∉ js → ρ'[j]? = ρ[j]?) : RelM K iu H0 O0 O σ' H ρ' := ⟨by
    exact r.base.other (js := js) (fun j h z => by cases z) hl (by rw [← mask_setN]; exact v) (fun j h => by rw [← mask_setN, ← mask_setN]; exact f j h) fun j ho => (by cases ho), by
  obtain ⟨U, kvs, ds, h1, h2, h⟩ := r.deep
  have nu : iu ∉ js := fun z => hj iu z (by simp)
  exact ⟨U, kvs, ds, by rw [f2 iu nu]; exact h1, by rw [(f iu nu).1]; exact h2, h⟩⟩
theorem RelM.freeze (r : RelM K iu H0 O0 O σ H ρ) : Rel K [] (HB.nl H0) O0 O0 σ H ρ := by
  have v := r.vrel0
  exact ⟨r.base.same, r.base.st0, v.len, fun a ha => ha, fun a ha => .inl ha, fun i d c e => v.get i d e, ⟨_, Deep.zero (fun i d h => (by cases h)) rfl⟩, r.base.mark⟩
end
section
variable (X : Cx) (W : WX) (iu : Nat)
def MOut (H0 : Hp) (O0 O : List Addr) (H : Hp) (D : Ends) : Out → Prop
  | .nx ρ => ∀ σ' H' O', RelM X.K iu H0 O0 O' σ' H' ρ → Same (hide O H) (hide O' H') → D.nx σ' H'
  | .err c ρ => ∀ σ' H' O', RelM X.K iu H0 O0 O' σ' H' ρ → Same (hide O H) (hide O' H') → W (exV X.mg c) none σ' H'
  | .rt d => ∀ v H', Same H0 H' → Rp X.K (hide O0 H') v d → D.rt v H'
  | .bk ρ => ∀ σ' H' O', RelM X.K iu H0 O0 O' σ' H' ρ → Same (hide O H) (hide O' H') → D.bk σ' H'
  | .ct ρ => ∀ σ' H' O', RelM X.K iu H0 O0 O' σ' H' ρ → Same (hide O H) (hide O' H') → D.ct σ' H'
  | .bad => False
def MX (st : Stmt) (g : Vars → Out) : Prop :=
  ∃ t, PS X st t ∧ ∀ σ H ρ D H0 O0 O, RelM X.K iu H0 O0 O σ H ρ → MOut X W iu H0 O0 O H D (g ρ) → t D σ H
end
section
variable {X : Cx} {W : WX} {iu : Nat}
theorem MOut.from {H0 : Hp} {O0 O O' : List Addr} {H H' : Hp} {D : Ends} {o : Out} (h : MOut X W iu H0 O0 O H D o) (s : Same (hide O H) (hide O' H')) : MOut X W iu H0 O0 O' H' D o := by
  cases o with
  | nx ρ => exact fun σ' H'' O'' r s' => h σ' H'' O'' r (s.trans s')
  | err c ρ => exact fun σ' H'' O'' r s' => h σ' H'' O'' r (s.trans s')
  | bk ρ => exact fun σ' H'' O'' r s' => h σ' H'' O'' r (s.trans s')
  | ct ρ => exact fun σ' H'' O'' r s' => h σ' H'' O'' r (s.trans s')
  | _ => exact h
end
section
variable (X : Cx) (E : XK)
def BMX (iu : Nat) (sts : List Stmt) (g : Vars → Out) : Prop :=
  ∃ t, PSs X sts t ∧ ∀ σ H ρ Q H0 O0 O, RelM X.K iu H0 O0 O σ H ρ → BOut X E H0 O0 Q (g ρ) → t { nx := fun _ H' => Q .non H', rt := Q } σ H
end
section
variable {X : Cx} {E : XK} {iu : Nat}
theorem BMX.cons {st : Stmt} {rest : List Stmt} {g h : Vars → Out} (a : MX X (WD E) iu st g) (b : BMX X E iu rest h) : BMX X E iu (st :: rest) (sSeq g h) := by
  obtain ⟨t, p, ht⟩ := a
  obtain ⟨u, q, hu⟩ := b
  refine ⟨_, pss_cons p q, fun σ H ρ Q H0 O0 O r z => ht σ H ρ _ H0 O0 O r ?_⟩
  unfold sSeq at z
  cases e : g ρ with
  | nx ρ1 => rw [e] at z; exact fun σ1 H1 O1 r1 s1 => hu σ1 H1 ρ1 Q H0 O0 O1 r1 z
  | err c ρ' => rw [e] at z; exact fun σ' H' O' r' s' => z H' r'.same
  | rt d => rw [e] at z; exact z
  | bk _ => rw [e] at z; exact z.elim
  | ct _ => rw [e] at z; exact z.elim
  | bad => rw [e] at z; exact z.elim
theorem BMX.freeze {sts : List Stmt} {g : Vars → Out} (b : BX X E [] sts g) : BMX X E iu sts g := by
  obtain ⟨t, p, ht⟩ := b
  exact ⟨t, p, fun σ H ρ Q H0 O0 O r z => ht σ H ρ Q H0 O0 O0 r.freeze z⟩
end
end Pu
set_option Elab.async false
set_option linter.all false
set_option maxRecDepth 100000
set_option maxHeartbeats 4000000
namespace Pu
open PySem PySem.Spec PyProof.Rows L2
section
variable {X : Cx} {W : WX} {own : List Nat}
end
end Pu
set_option Elab.async false
set_option linter.all false
set_option maxRecDepth 100000
set_option maxHeartbeats 4000000
namespace Pu
open PySem PySem.Spec PyProof.Rows L2
section
variable {X : Cx} {W : WX}
end
end Pu
set_option Elab.async false
set_option linter.all false
set_option maxRecDepth 100000
set_option maxHeartbeats 4000000
namespace SS
open PySem PySem.Spec PyProof.Rows
section
variable {prog : Program} {w : World} {A : Around} {R : Result → Shared → Prop} {I : Addr} {fp wr : List Addr} {G : Array GenState → Array GenState → Prop} {n : Nat} {P : Nat → Value → Prop} {St : Nat → Shared → Prop}
end
section
variable {prog : Program} {w : World} {A : Around} {E : Value → Shared → Prop} {s : Shared}
set_option maxHeartbeats 3200000 in
end
end SS
namespace L2
open PySem PySem.Spec PyProof.Rows
variable {X : Cx}
end L2
set_option Elab.async false
set_option linter.all false
set_option maxRecDepth 100000
set_option maxHeartbeats 4000000
namespace Pu
open PySem PySem.Spec PyProof.Rows L2
section
variable {X : Cx} {W : WX}
end
section
variable (X : Cx) (E : XK)
def VBOut (H0 : Hp) (O0 : List Addr) (Q : VK) : Out → Prop
  | .rt d => ∀ v p H', Same H0 H' → H0 p = Option.none → Mi X.K (hide (p :: O0) H') H' v p d → Q v H'
  | .err c _ => ∀ H', Same H0 H' → E (exV X.mg c) Option.none H'
  | _ => False
def VBX (own : List Nat) (sts : List Stmt) (g : Vars → Out) : Prop :=
  ∃ t, PSs X sts t ∧ ∀ σ H ρ Q (H0 : Hp) O0 O, Rel X.K own (HB.nl H0) O0 O σ H ρ → VBOut X E H0 O0 Q (g ρ) → t { nx := fun _ H' => Q .non H', rt := Q } σ H
end
section
variable {X : Cx} {E : XK} {own : List Nat}
theorem VBX.cons {st : Stmt} {rest : List Stmt} {g h : Vars → Out} {own' : List Nat} (a : SX X (WD E) own st g) (b : VBX X E own' rest h) (ho : (own'.all fun i => own.contains i) = true) : VBX X E own (st :: rest) (sSeqN g h) := by
  obtain ⟨t, p, ht⟩ := a
  obtain ⟨u, q, hu⟩ := b
  refine ⟨_, pss_cons p q, fun σ H ρ Q H0 O0 O r z => ht σ H ρ _ (HB.nl H0) O0 O r ?_⟩
  unfold sSeqN at z
  cases e : g ρ with
  | nx ρ1 =>
    rw [e] at z
    intro σ1 H1 O1 r1 s1
    obtain ⟨O2, r2, _⟩ := r1.freeze (own' := own') (fun i hi => List.contains_iff_mem.mp (List.all_eq_true.mp ho i hi)) fun p hp => nomatch hp
    exact hu σ1 H1 ρ1 Q H0 O0 O2 r2 z
  | rt d => rw [e] at z; exact z.elim
  | err c ρ' => rw [e] at z; exact fun σ' H' O' r' s' => z H' r'.same
  | bk _ => rw [e] at z; exact z.elim
  | ct _ => rw [e] at z; exact z.elim
  | bad => rw [e] at z; exact z.elim
theorem VBX.ret {i : Nat} {x : Str} {p0 pos : Pos} (hi : X.N[i]? = some x) (ho : own.contains i = true)
    (hv : Vis X.env.scope x := by first | exact Or.inl rfl | exact Or.inr (Or.inl rfl) | exact Or.inr (Or.inr rfl)) (hdn : (x == ("__debug__" : Str)) = false := by decide) (hcd : (x == ("__classdict__" : Str)) = false := by decide) :
    VBX X E own [.Return (some (.Name x p0)) pos] (sRet (eVar i)) := by
  refine ⟨_, pss_one (ps_ret (pe_var hi hv hdn hcd)), fun σ H ρ Q H0 O0 O r z => ?_⟩
  have hi' : i ∈ own := List.contains_iff_mem.mp ho
  unfold sRet eVar at z
  have e2 : ρ.getD i Option.none = (ρ[i]?).getD Option.none := by rw [List.getD_eq_getElem?_getD]
  rw [e2] at z
  cases e : ρ[i]? with
  | none => rw [e] at z; exact z.elim
  | some o =>
    cases o with
    | none => rw [e] at z; exact z.elim
    | some d =>
      rw [e] at z
      obtain ⟨w, a, h1, h2, h3, h4⟩ := r.mine hi' e
      refine ⟨w, h1, ?_⟩
      exact z w a H r.same h3 (h4.mono (hide_less fun b hb => (List.mem_cons.mp hb).elim (fun e => e ▸ h2) (r.sub b)) fun o ho => ho)
end
section
variable {P : Program} {w : World} {K : PySem.W.Frag} {mg : Str → Option Value} {base : Heap}
end
section
variable {X : Cx} {W : WX}
end
section
variable {K : PySem.W.Frag} {F F' : Hp} {a : Addr} {kvs : List (Key × V)} {k0 : PyData} {l0 : List PyData} {E0 : List (PyData × PyData)}
end
end Pu
set_option Elab.async false
set_option linter.all false
set_option maxRecDepth 100000
set_option maxHeartbeats 4000000
namespace Pu
open PySem PySem.Spec PyProof.Rows L2
section
variable {X : Cx} {E : XK}
end
end Pu
set_option Elab.async false
set_option linter.all false
set_option maxRecDepth 100000
set_option maxHeartbeats 4000000
namespace Pu
open PySem PySem.Spec PyProof.Rows L2
end Pu
set_option Elab.async false
set_option linter.all false
set_option maxRecDepth 100000
set_option maxHeartbeats 4000000
namespace Pu
open PySem PySem.Spec PyProof.Rows L2
section
variable {X : Cx} {W : WX}
end
end Pu
set_option Elab.async false
set_option linter.all false
set_option maxRecDepth 100000
set_option maxHeartbeats 4000000
namespace Pu
open PySem PySem.Spec PyProof.Rows L2
section
variable {X : Cx} {W : WX} {x : Str} {elt tg iter : Expr} {ifs : List Expr} {scope : Scope} {own : List (Str × Nat)} {pos p0 : Pos} {js : List Nat} {gt : PyData → Vars → Option Vars} {ft : Vars → R Bool} {f : Vars → R PyData} {i : Nat} {J : Addr → Obj → List (Key × V) → It} {it : PyData × PyData → PyData}
end
end Pu
set_option Elab.async false
set_option linter.all false
set_option maxRecDepth 100000
set_option maxHeartbeats 4000000
namespace PySem.SeqAt
open AutoSeq1 (wpAny_loadPart')
open MeetsSeq MeetsSeq2 MeetsSeq3 SeqRoads2
section
variable {prog : Program} {w : World}
end
end PySem.SeqAt
namespace Pu
open PySem PySem.Spec PyProof.Rows L2
end Pu
set_option Elab.async false
set_option linter.all false
set_option maxRecDepth 100000
set_option maxHeartbeats 4000000
namespace Pu
open PySem PySem.Spec PyProof.Rows L2
end Pu
set_option Elab.async false
set_option linter.all false
set_option maxRecDepth 100000
set_option maxHeartbeats 4000000
namespace Pu
open PySem PySem.Spec PyProof.Rows L2
def insF (d : PyData) : Option (Str × Str × PyData) := match d with
  | .dict [(.none, .tuple [.str c, .dict [(.str g, x)]])] => some (c, g, x)
  | _ => Option.none
@[simp] theorem u_insF (c g : Str) (x : PyData) : insF (.dict [(.none, .tuple [.str c, .dict [(.str g, x)]])]) = some (c, g, x) := rfl
theorem insF_some {d x : PyData} {c g : Str} (h : insF d = some (c, g, x)) : d = .dict [(.none, .tuple [.str c, .dict [(.str g, x)]])] := by
  unfold insF at h
  split at h
  · cases h; rfl
  · cases h
theorem Mi.ins {K : PySem.W.Frag} {F H : Hp} {v : V} {a : Addr} {c g : Str} {x : PyData} (h : Mi K F H v a (.dict [(.none, .tuple [.str c, .dict [(.str g, x)]])])) : ∃ b C dx, v = .ref b ∧ F b = some (.ins C dx [(g, .ref a)]) ∧ F dx = some (.own b) ∧ ClN K c C ∧ OwnV K F H a x := by
  rcases h with ⟨h1, h2⟩ | ⟨b, C, dx, c', f, d', h1, h2, h3, h4, h5, h6⟩
  · rcases h2 with ⟨kvs, _, h5⟩ | ⟨ts, es, z, _⟩
    · have := rpd_ins h5; cases this
    · cases z
  · cases h2; exact ⟨b, C, dx, h1, h3, h4, h5, h6⟩
section
variable {X : Cx} {W : WX} {own : List Nat}
theorem own_fld {i : Nat} (hi : i ∈ own) {H0 : HB} {O0 O : List Addr} {σ : L2.St} {H : Hp} {ρ : Vars} {c g : Str} {x : PyData} (r : Rel X.K own H0 O0 O σ H ρ) (e : (ρ.getD i Option.none).bind insF = some (c, g, x)) :
    ∃ b C dx a, ρ.getD i Option.none = some (.dict [(.none, .tuple [.str c, .dict [(.str g, x)]])]) ∧ σ[i]? = some (some (.ref b)) ∧ H b = some (.ins C dx [(g, .ref a)]) ∧ ClN X.K c C ∧ a ∈ O ∧ OwnV X.K (hide O H) H a x ∧
      ∀ (H' : Hp) (x' : PyData), Same H H' → OwnV X.K (hide O H') H' a x' → Mi X.K (hide O H') H' (.ref b) a (.dict [(.none, .tuple [.str c, .dict [(.str g, x')]])]) := by
  cases e1 : ρ.getD i Option.none with
  | none => rw [e1] at e; cases e
  | some d =>
    rw [e1] at e
    have := insF_some (show insF d = _ from e)
    subst this
    obtain ⟨v, a, h1, h2, h3, h4⟩ := r.mine hi (getD_some e1)
    obtain ⟨b, C, dx, rfl, q1, q2, q3, q4⟩ := h4.ins
    exact ⟨b, C, dx, a, rfl, h1, hide_sub _ _ q1, q3, h2, q4, fun H' x' s o => .inr ⟨b, C, dx, c, g, x', rfl, rfl, hide_same s _ _ q1, hide_same s _ _ q2, q3, o⟩⟩
theorem Rel.writeF {i : Nat} (hi : i ∈ own) {H0 : HB} {O0 O : List Addr} {σ : L2.St} {H : Hp} {ρ : Vars} {c g : Str} {x x' : PyData} {b a : Addr} {ob : HO} (r : Rel X.K own H0 O0 O σ H ρ) (e : ρ.getD i Option.none = some (.dict [(.none, .tuple [.str c, .dict [(.str g, x)]])])) (q : σ[i]? = some (some (.ref b))) (ha : a ∈ O) (m : Mi X.K (hide O H) H (.ref b) a (.dict [(.none, .tuple [.str c, .dict [(.str g, x)]])])) (o : OwnV X.K (hide O H) (upd H a ob) a x') :
    Rel X.K own H0 O0 O σ (upd H a ob) (ρ.set i (some (.dict [(.none, .tuple [.str c, .dict [(.str g, x')]])]))) ∧ Same (hide O H) (hide O (upd H a ob)) := by
  obtain ⟨b', C, dx, z, q1, q2, q3, q4⟩ := m.ins
  cases z
  exact r.writeM hi (getD_some e) q ha m (.inr ⟨b, C, dx, c, g, x', rfl, rfl, q1, q2, q3, o⟩)
@[simp] def sFApp (i : Nat) (f : Str) (cs : List Str) (fe : Vars → R PyData) (ρ : Vars) : Out := match (ρ.getD i none).bind insF with
  | some (c, g, .list ds) => if (cs.contains c && decide (g = f)) = true then (fe ρ).run ρ fun d => if (decide (ds.length < sizeLine) && imm d) = true then .nx (ρ.set i (some (.dict [(.none, .tuple [.str c, .dict [(.str g, .list (ds ++ [d]))]])]))) else .bad else .bad
  | _ => .bad
theorem sx_fapp {i : Nat} {x f : Str} {cs : List Str} {e : Expr} {fe : Vars → R PyData} {p p2 apos cpos pos : Pos} (F : FldF X.K f cs) (h : EX X W e fe) (ho : own.contains i = true) (hN : X.N[i]? = some x := by rfl) (hv : Vis X.env.scope x := by first | exact Or.inl rfl | exact Or.inr (Or.inl rfl) | exact Or.inr (Or.inr rfl)) (hd : (x == ("__debug__" : Str)) = false := by decide)
    (hcd : (x == ("__classdict__" : Str)) = false := by decide) (hb : attributeBase (.Name x p) f X.env (eval (.Name x p) X.env) = eval (.Name x p) X.env := by rfl)
    (hbase : attributeBase (.Attribute (.Name x p) f p2) "append" X.env (eval (.Attribute (.Name x p) f p2) X.env) = eval (.Attribute (.Name x p) f p2) X.env := by rfl)
    (hfew : ((backTo cpos (starEach [e] X.env)).all (fun x => !x.1) && (backToKw cpos (keywordEach [] X.env)).all (fun x => x.1.isSome)
      && decide (([e] : List Expr).length + ([] : List Keyword).length + (if ([] : List Keyword).isEmpty then 0 else 1) < 30)) = true := by rfl)
    (hline : (apos.endLine == cpos.line) = true := by rfl) (hs : starEach [e] X.env = (false, eval e X.env) :: starEach [] X.env := by rfl) (hplain : (backTo cpos (starEach [] X.env)).any (·.1) = false := by rfl)
    (hsw : swapsWith (.Call (.Attribute (.Attribute (.Name x p) f p2) "append" apos) [e] [] cpos) none pos.line X.env = pure false := by rfl) :
    SX X W own (.Expr (.Call (.Attribute (.Attribute (.Name x p) f p2) "append" apos) [e] [] cpos) pos) (sFApp i f cs fe) := by
  obtain ⟨t, q, ht⟩ := h
  have hi : i ∈ own := List.contains_iff_mem.mp ho
  refine ⟨_, ps_expr (pe_bm PySem.F.plainAttrs_list PySem.F.slot_list_append PySem.F.type_list_append mt_append (pe_fld (pe_var hN hv hd hcd) hb) (pa_cons q pa_nil hs) hbase hfew hline hs hplain) hsw, fun σ H ρ D H0 O0 O r z => ?_⟩
  unfold sFApp at z
  cases e1 : (ρ.getD i Option.none).bind insF with
  | none => rw [e1] at z; exact z.elim
  | some y =>
    obtain ⟨c, g, dl⟩ := y
    rw [e1] at z
    cases dl <;> try exact z.elim
    rename_i ds
    dsimp only at z
    by_cases cc : (cs.contains c && decide (g = f)) = true
    case neg => rw [if_neg cc] at z; exact z.elim
    rw [if_pos cc] at z
    rw [Bool.and_eq_true, decide_eq_true_eq] at cc
    obtain ⟨cc, rfl⟩ := cc
    obtain ⟨b, C, dx, a, e2, g1, g2, g3, g4, ⟨vs, g5, g6⟩, g7⟩ := own_fld hi r e1
    obtain ⟨C', k1, k2⟩ := F.all c (List.contains_iff_mem.mp cc)
    have := k1.one g3
    subst this
    refine ⟨.ref b, g1, b, C', dx, _, .ref a, rfl, g2, g3.cl, k2, by rw [List.lookup_cons_self], .inl ⟨rfl, vs, .inl (.inl g5)⟩, ht σ H O0 ρ _ r.stands0 r.vrel0 (EOut.run r z fun d v H' s rv z' r' => ?_)⟩
    by_cases c2 : (decide (ds.length < sizeLine) && imm d) = true
    · rw [if_pos c2] at z'
      rw [Bool.and_eq_true] at c2
      have rO := r'.imm rv c2.2
      obtain ⟨r2, sF⟩ := r'.writeF hi (x' := .list (ds ++ [d])) (ob := .lst (vs ++ [v])) e2 g1 g4 (g7 H' _ s ⟨vs, s _ _ g5, g6.mono (hide_same s)⟩) ⟨vs ++ [v], upd_same, (g6.mono (hide_same s)).append (.cons rO .nil)⟩
      exact ⟨a, vs, v, rfl, rfl, s _ _ g5, by rw [g6.length]; exact of_decide_eq_true c2.1, z' σ _ O r2 sF⟩
    · rw [if_neg c2] at z'; exact z'.elim
@[simp] def sFPop (i : Nat) (f : Str) (cs : List Str) (ρ : Vars) : Out := match (ρ.getD i none).bind insF with
  | some (c, g, .list ds) => if (cs.contains c && decide (g = f) && decide (0 < ds.length)) = true then .nx (ρ.set i (some (.dict [(.none, .tuple [.str c, .dict [(.str g, .list ds.dropLast)]])]))) else .bad
  | _ => .bad
theorem Rps.dropLast {K : PySem.W.Frag} {H : Hp} {vs : List V} {ds : List PyData} (h : Rps K H vs ds) : Rps K H vs.dropLast ds.dropLast := by
  rw [List.dropLast_eq_take, List.dropLast_eq_take, h.length]; exact h.take _
theorem Rps.last {K : PySem.W.Frag} {H : Hp} {vs : List V} {ds : List PyData} (h : Rps K H vs ds) (n : 0 < ds.length) : ∃ y, vs[vs.length - 1]? = some y := by
  have l := h.length
  exact ⟨vs[vs.length - 1]'(by omega), List.getElem?_eq_getElem _⟩
theorem sx_fpop {i : Nat} {x f : Str} {cs : List Str} {p p2 apos cpos pos : Pos} (F : FldF X.K f cs) (ho : own.contains i = true) (hN : X.N[i]? = some x := by rfl) (hv : Vis X.env.scope x := by first | exact Or.inl rfl | exact Or.inr (Or.inl rfl) | exact Or.inr (Or.inr rfl)) (hd : (x == ("__debug__" : Str)) = false := by decide)
    (hcd : (x == ("__classdict__" : Str)) = false := by decide) (hb : attributeBase (.Name x p) f X.env (eval (.Name x p) X.env) = eval (.Name x p) X.env := by rfl)
    (hbase : attributeBase (.Attribute (.Name x p) f p2) "pop" X.env (eval (.Attribute (.Name x p) f p2) X.env) = eval (.Attribute (.Name x p) f p2) X.env := by rfl) (hline : (apos.endLine == cpos.line) = true := by rfl)
    (hsw : swapsWith (.Call (.Attribute (.Attribute (.Name x p) f p2) "pop" apos) [] [] cpos) none pos.line X.env = pure false := by rfl) :
    SX X W own (.Expr (.Call (.Attribute (.Attribute (.Name x p) f p2) "pop" apos) [] [] cpos) pos) (sFPop i f cs) := by
  have hi : i ∈ own := List.contains_iff_mem.mp ho
  refine ⟨_, ps_expr (pe_bm0 PySem.F.plainAttrs_list PySem.F.slot_list_pop PySem.F.type_list_pop mt_pop (pe_fld (pe_var hN hv hd hcd) hb) hbase hline) hsw, fun σ H ρ D H0 O0 O r z => ?_⟩
  unfold sFPop at z
  cases e1 : (ρ.getD i Option.none).bind insF with
  | none => rw [e1] at z; exact z.elim
  | some y =>
    obtain ⟨c, g, dl⟩ := y
    rw [e1] at z
    cases dl <;> try exact z.elim
    rename_i ds
    dsimp only at z
    by_cases cc : (cs.contains c && decide (g = f) && decide (0 < ds.length)) = true
    case neg => rw [if_neg cc] at z; exact z.elim
    rw [if_pos cc] at z
    rw [Bool.and_eq_true, Bool.and_eq_true, decide_eq_true_eq, decide_eq_true_eq] at cc
    obtain ⟨⟨cc, rfl⟩, cn⟩ := cc
    obtain ⟨b, C, dx, a, e2, g1, g2, g3, g4, ⟨vs, g5, g6⟩, g7⟩ := own_fld hi r e1
    obtain ⟨C', k1, k2⟩ := F.all c (List.contains_iff_mem.mp cc)
    have := k1.one g3
    subst this
    obtain ⟨y, hy⟩ := g6.last cn
    obtain ⟨r2, sF⟩ := r.writeF hi (x' := .list ds.dropLast) (ob := .lst vs.dropLast) e2 g1 g4 (g7 H _ (Same.refl H) ⟨vs, g5, g6⟩) ⟨vs.dropLast, upd_same, g6.dropLast⟩
    exact ⟨.ref b, g1, b, C', dx, _, .ref a, rfl, g2, g3.cl, k2, by rw [List.lookup_cons_self], .inl ⟨rfl, vs, .inl (.inl g5)⟩, a, vs, y, rfl, rfl, g5, hy, z σ _ O r2 sF⟩
@[simp] def sPopL (i : Nat) (ρ : Vars) : Out := match ρ.getD i none with
  | some (.list ds) => if 0 < ds.length then .nx (ρ.set i (some (.list ds.dropLast))) else .bad
  | _ => .bad
theorem sx_popL {i : Nat} {x : Str} {p apos cpos pos : Pos} (ho : own.contains i = true) (hN : X.N[i]? = some x := by rfl) (hv : Vis X.env.scope x := by first | exact Or.inl rfl | exact Or.inr (Or.inl rfl) | exact Or.inr (Or.inr rfl)) (hd : (x == ("__debug__" : Str)) = false := by decide)
    (hcd : (x == ("__classdict__" : Str)) = false := by decide)
    (hbase : attributeBase (.Name x p) "pop" X.env (eval (.Name x p) X.env) = eval (.Name x p) X.env := by rfl) (hline : (apos.endLine == cpos.line) = true := by rfl)
    (hsw : swapsWith (.Call (.Attribute (.Name x p) "pop" apos) [] [] cpos) none pos.line X.env = pure false := by rfl) :
    SX X W own (.Expr (.Call (.Attribute (.Name x p) "pop" apos) [] [] cpos) pos) (sPopL i) := by
  have hi : i ∈ own := List.contains_iff_mem.mp ho
  refine ⟨_, ps_expr (pe_bm0 PySem.F.plainAttrs_list PySem.F.slot_list_pop PySem.F.type_list_pop mt_pop (pe_var hN hv hd hcd) hbase hline) hsw, fun σ H ρ D H0 O0 O r z => ?_⟩
  unfold sPopL at z
  cases e1 : ρ.getD i none with
  | none => rw [e1] at z; exact z.elim
  | some d =>
    rw [e1] at z
    cases d with
    | list ds =>
      dsimp only at z
      by_cases c : 0 < ds.length
      case neg => rw [if_neg c] at z; exact z.elim
      rw [if_pos c] at z
      obtain ⟨a, vs, g1, g2, g3, g4, g5⟩ := own_list hi r e1
      obtain ⟨y, hy⟩ := g5.last c
      obtain ⟨r2, sF⟩ := r.write hi (getD_some e1) g1 g2 g3 g4 g5.dropLast
      exact ⟨.ref a, g1, .inl ⟨rfl, vs, .inl (.inl g4)⟩, a, vs, y, rfl, rfl, g4, hy, z σ _ O r2 sF⟩
    | _ => exact z.elim
@[simp] def oMethS (m : Str) (T : MTb) (io : Nat) (ls : List Nat) (f : Vars → R (List PyData)) (ρ : Vars) : RE := match ρ.getD io none with
  | some d => match (insF d).bind fun _ => mDef m T d with
    | some F => match f ρ with
      | .ok ds => handO (io :: ls) ρ (F (d :: ds))
      | .err c => .err c ρ
      | .bad => .bad
    | none => .bad
  | none => .bad
theorem meth_own {X : Cx} {own : List Nat} {k : Nat} {m : Str} {T : MTb} {ks : List Bool} (F : MetT X.prog X.w X.K X.mg X.base k m (spP X.K X.mg (true :: ks)) T) {io : Nat} (hi : io ∈ own) {H0 : HB} {O0 O : List Addr} {σ : L2.St} {H : Hp} {ρ : Vars} {d : PyData} {Fn : List PyData → R PyData} (r : Rel X.K own H0 O0 O σ H ρ) (e : ρ.getD io Option.none = some d) (e2 : ((insF d).bind fun _ => mDef m T d) = some Fn) :
    ∃ C f fd ps b a dx fs, Cls X.K C ∧ Meth X.K C m f ∧ FnOk X.prog X.w X.K X.mg X.base (L2.CX X.prog X.w) k f fd ps (spP X.K X.mg (true :: ks) Fn) ∧ Binds X.K fd ps [] ∧ σ[io]? = some (some (.ref b)) ∧ H b = some (.ins C dx fs) ∧ fs.lookup m = Option.none ∧ SlE X.K (hide O H) O σ ρ io a (.ref b) ∧ ∀ H', Same H H' → Mi X.K (hide O H') H' (.ref b) a d := by
  cases e3 : insF d with
  | none => rw [e3] at e2; cases e2
  | some y =>
    obtain ⟨c, g, x⟩ := y
    have := insF_some e3
    subst this
    rw [e3] at e2
    replace e2 : mDef m T (.dict [(.none, .tuple [.str c, .dict [(.str g, x)]])]) = some Fn := e2
    obtain ⟨c', fs', z, hs, e4⟩ := mDef_some e2
    cases z
    obtain ⟨C, fa, fd, ps, k1, k2, k3, k4⟩ := F c Fn e4
    obtain ⟨v, a, h1, h2, h3, h4⟩ := r.mine hi (getD_some e)
    obtain ⟨b, C', dx, rfl, q1, q2, q3, q4⟩ := h4.ins
    have := k1.one q3
    subst this
    refine ⟨C, fa, fd, ps, b, a, dx, _, k1.cl, k2, k3, k4, h1, hide_sub _ _ q1, ?_, ⟨h1, ⟨_, getD_some e⟩, h2, H, _, h4⟩, fun H' s => h4.mono (hide_same s) (s a)⟩
    have hne : g ≠ m := fun z => by
      subst z
      rw [show valD [(.str g, x)] (.inr g) = some x from by unfold valD; simp [keyD]] at hs
      cases hs
    rw [List.lookup_cons, show (m == g) = false from by simpa using fun z : m = g => hne z.symm]
    rfl
theorem eo_methS {k : Nat} {m x : Str} {T : MTb} {e : Expr} {es : List Expr} {ks : List Bool} {ls : List Nat} {io : Nat} {f : Vars → R (List PyData)} {xp apos pos : Pos} {pl : Sem Bool} (tk : Takes X W) (F : MetT X.prog X.w X.K X.mg X.base k m (spP X.K X.mg (true :: ks)) T) (hr : Room k X.A) (ha : LO X W own (e :: es) ks ls f)
    (ho : own.contains io = true) (hl : (ls.all fun io => own.contains io) = true) (hn : (io :: ls).Nodup) (hN : X.N[io]? = some x := by rfl) (hv : Vis X.env.scope x := by first | exact Or.inl rfl | exact Or.inr (Or.inl rfl) | exact Or.inr (Or.inr rfl)) (hd : (x == ("__debug__" : Str)) = false := by decide)
    (hcd : (x == ("__classdict__" : Str)) = false := by decide)
    (ht : eval (.Call (.Attribute (.Name x xp) m apos) (e :: es) [] pos) X.env = (do
      let ov ← eval (.Name x xp) X.env
      standAt apos.atName
      let (f, first) ← holding [ov] (getMethod ov m pl)
      callWith pos f first (backTo pos (starEach (e :: es) X.env)) (backToKw pos (keywordEach [] X.env))) := by rfl)
    (hst : starEach (e :: es) X.env = (false, eval e X.env) :: starEach es X.env := by rfl) (hpl : (backTo pos (starEach es X.env)).any (·.1) = false := by rfl) : EO X W own (.Call (.Attribute (.Name x xp) m apos) (e :: es) [] pos) (oMethS m T io ls f) := by
  obtain ⟨u, q, htu⟩ := ha
  have hio : io ∈ own := List.contains_iff_mem.mp ho
  have hl' : ∀ j ∈ io :: ls, j ∈ own := fun j h => by
    rcases List.mem_cons.mp h with h | h
    · rw [h]; exact hio
    · exact List.contains_iff_mem.mp (List.all_eq_true.mp hl j h)
  refine ⟨tMethT X m k (spP X.K X.mg (true :: ks)) (WE W) _ u, ⟨fun pins s σ H Q I ⟨C, fa, fd, ps, Fn, h1, h2, h3, h4, h5⟩ => (pe_methS' (pe_var hN hv hd hcd) h1 h2 h3 hr h4 (fun σ => passAt tk σ) q hst hpl ht).run pins s σ H Q I h5⟩, fun σ H ρ Q H0 O0 O r z => ?_⟩
  unfold oMethS at z
  cases e1 : ρ.getD io none with
  | none => rw [e1] at z; exact z.elim
  | some d =>
    rw [e1] at z
    dsimp only at z
    cases e2 : (insF d).bind fun _ => mDef m T d with
    | none => rw [e2] at z; exact z.elim
    | some Fn =>
      rw [e2] at z
      dsimp only at z
      obtain ⟨C, fa, fd, ps, b, a, dx, fs, k1, k2, k3, k4, k5, k6, k7, k8, k9⟩ := meth_own F hio r e1 e2
      refine ⟨C, fa, fd, ps, Fn, k1, k2, k3, k4, ?_⟩
      refine ⟨.ref b, k5, b, dx, fs, rfl, k6, k7, ?_⟩
      refine htu σ H ρ _ H0 O0 O r ?_
      cases e6 : f ρ with
      | bad => rw [e6] at z; exact z
      | err c => rw [e6] at z; exact fun H' s => z H' O (r.step s) (hide_same s)
      | ok ds =>
        rw [e6] at z
        intro vs as H2 s2 lt sl
        obtain ⟨j1, j2, j3, j4, j5, j6⟩ := k8
        exact call_lent (ks := true :: ks) (ds := d :: ds) (as := a :: as) hl' hn r s2 ⟨k9 H2 s2, lt⟩ ⟨⟨j1, j2, j3, H2, d, k9 H2 s2⟩, sl⟩ z
theorem eo_methS0 {k : Nat} {m x : Str} {T : MTb} {io : Nat} {xp apos pos : Pos} {pl : Sem Bool} (tk : Takes X W) (F : MetT X.prog X.w X.K X.mg X.base k m (spP X.K X.mg [true]) T) (hr : Room k X.A)
    (ho : own.contains io = true) (hN : X.N[io]? = some x := by rfl) (hv : Vis X.env.scope x := by first | exact Or.inl rfl | exact Or.inr (Or.inl rfl) | exact Or.inr (Or.inr rfl)) (hd : (x == ("__debug__" : Str)) = false := by decide)
    (hcd : (x == ("__classdict__" : Str)) = false := by decide)
    (ht : eval (.Call (.Attribute (.Name x xp) m apos) [] [] pos) X.env = (do
      let ov ← eval (.Name x xp) X.env
      standAt apos.atName
      let (f, first) ← holding [ov] (getMethod ov m pl)
      callWith pos f first (backTo pos (starEach [] X.env)) (backToKw pos (keywordEach [] X.env))) := by rfl) : EO X W own (.Call (.Attribute (.Name x xp) m apos) [] [] pos) (oMethS m T io [] aNil) := by
  have hio : io ∈ own := List.contains_iff_mem.mp ho
  have hl' : ∀ j ∈ [io], j ∈ own := fun j h => by
    rcases List.mem_cons.mp h with h | h
    · rw [h]; exact hio
    · cases h
  refine ⟨tMethT X m k (spP X.K X.mg [true]) (WE W) _ tNil, ⟨fun pins s σ H Q I ⟨C, fa, fd, ps, Fn, h1, h2, h3, h4, h5⟩ => (pe_methS0' (pe_var hN hv hd hcd) h1 h2 h3 hr h4 (fun σ => passAt tk σ) ht).run pins s σ H Q I h5⟩, fun σ H ρ Q H0 O0 O r z => ?_⟩
  unfold oMethS at z
  cases e1 : ρ.getD io none with
  | none => rw [e1] at z; exact z.elim
  | some d =>
    rw [e1] at z
    dsimp only at z
    cases e2 : (insF d).bind fun _ => mDef m T d with
    | none => rw [e2] at z; exact z.elim
    | some Fn =>
      rw [e2] at z
      replace z : EE X W own H0 O0 O σ H Q (handO [io] ρ (Fn [d])) := z
      obtain ⟨C, fa, fd, ps, b, a, dx, fs, k1, k2, k3, k4, k5, k6, k7, k8, k9⟩ := meth_own F hio r e1 e2
      refine ⟨C, fa, fd, ps, Fn, k1, k2, k3, k4, ?_⟩
      refine ⟨.ref b, k5, b, dx, fs, rfl, k6, k7, ?_⟩
      exact call_lent (ks := [true]) (ds := [d]) (as := [a]) (vs := [.ref b]) hl' (by simp) r (Same.refl H) ⟨k9 H (Same.refl H), trivial⟩ ⟨k8, trivial⟩ z
theorem eo_one {op} {a : Expr} {f : Vars → RE} {pos : Pos} (h : EO X W own a f) : EO X W own (.BoolOp op [a] pos) f := by
  obtain ⟨t, p, ht⟩ := h
  exact ⟨_, pe_one p, ht⟩
@[simp] def oAnd (f g : Vars → RE) (ρ : Vars) : RE := (f ρ).then fun d ρ1 => match d with
  | .bool true => g ρ1
  | .bool false => .ok (.bool false) ρ1
  | _ => .bad
theorem eo_and {a b : Expr} {rest : List Expr} {f g : Vars → RE} {pos : Pos} (h : EO X W own a f) (k : EO X W own (.BoolOp .And (b :: rest) pos) g) : EO X W own (.BoolOp .And (a :: b :: rest) pos) (oAnd f g) := by
  obtain ⟨t, p, ht⟩ := h
  obtain ⟨u, q, hu⟩ := k
  refine ⟨_, pe_and p q, fun σ H ρ Q H0 O0 O r z => ht σ H ρ _ H0 O0 O r ?_⟩
  unfold oAnd at z
  cases e1 : f ρ with
  | bad => rw [e1] at z; exact z
  | err c ρ1 => rw [e1] at z; exact z
  | ok d ρ1 =>
    rw [e1] at z
    intro v H1 O1 r1 s1 rv
    cases rv with
    | bl b =>
      refine ⟨b, rfl, ?_⟩
      cases b with
      | true => exact hu σ H1 ρ1 Q H0 O0 O1 r1 (EE.from z s1)
      | false => exact z _ H1 O1 r1 s1 (.bl false)
    | _ => exact z.elim
theorem eo_cmp {op : CmpOp} {r : R2} {g : PyData → PyData → Option PyData} {a b : Expr} {f h : Vars → RE} {pos : Pos} (hr : OpR X (compareOp op) r) (ho : Op2 X.K r g) (ha : EO X W own a f) (hb : EO X W own b h) (hm : behindInMarks op b = false) : EO X W own (.Compare a [op] [b] pos) (oOp g f h) := by
  obtain ⟨ta, p, hta⟩ := ha
  obtain ⟨tb, q, htb⟩ := hb
  refine ⟨_, pe_cmpR hr p q hm, fun σ H ρ Q H0 O0 O rl z => hta σ H ρ _ H0 O0 O rl ?_⟩
  unfold oOp at z
  cases e1 : f ρ with
  | bad => rw [e1] at z; exact z
  | err c ρ1 => rw [e1] at z; exact z
  | ok d ρ1 =>
    rw [e1] at z
    intro v H1 O1 r1 s1 rv
    refine htb σ H1 ρ1 _ H0 O0 O1 r1 ?_
    replace z : EE X W own H0 O0 O σ H Q ((h ρ1).then fun e ρ2 => match g d e with
      | some z => .ok z ρ2
      | none => .bad) := z
    cases e2 : h ρ1 with
    | bad => rw [e2] at z; exact z
    | err c ρ2 => rw [e2] at z; exact EE.from z s1
    | ok e ρ2 =>
      rw [e2] at z
      intro w H2 O2 r2 s2 rw'
      replace z : EE X W own H0 O0 O σ H Q (match g d e with
        | some z => .ok z ρ2
        | none => .bad) := z
      cases e3 : g d e with
      | none => rw [e3] at z; exact z.elim
      | some y =>
        rw [e3] at z
        exact ho H2 O2 v w d e y Q r2.stands (rv.mono s2) rw' e3 fun u H3 s3 ru => z u H3 O2 (r2.step s3) ((s1.trans s2).trans (hide_same s3)) ru
def IXr (X : Cx) (W : WX) (tg e : Expr) (f : Vars → R (List PyData)) : Prop :=
  ∃ wi, PI X tg e wi ∧ ∀ σ H O ρ (Q : It → Hp → Prop), Stands O H → VRel X.K (hide O H) σ ρ →
    (match f ρ with
      | .ok ds => ∀ J H', Same H H' → (∀ F, IterOk X.K J F ds) → Q J H'
      | .err c => ∀ H', Same H H' → W (exV X.mg c) none σ H'
      | .bad => False) → wi σ H Q
theorem ixr_range1 {tg a : Expr} {f : Vars → R (List PyData)} {p pos : Pos} (hg : Gl X "range") (hm : X.mg "range" = none) (ha : AX X W [a] f) (hs : starEach [a] X.env = [(false, eval a X.env)] := by rfl) (hl : ∀ ρ ds, f ρ = .ok ds → ds.length = 1) : IXr X W tg (.Call (.Name "range" p) [a] [] pos) (iRange f) := by
  obtain ⟨t, q, ht⟩ := ha
  refine ⟨_, pi_range1 hg hm q hs, fun σ H O ρ Q hO hv z => ht σ H O ρ _ hO hv ?_⟩
  unfold iRange at z
  cases e : f ρ with
  | bad => rw [e] at z; exact z
  | err c => rw [e] at z; exact z
  | ok ds =>
    rw [e, R.bind_ok] at z
    have l := hl ρ ds e
    intro vs H1 s1 r1
    match ds, l, r1, z with
    | [.int j], _, r1, z =>
      obtain ⟨v, rfl, rv⟩ := rps_one r1
      cases rv
      by_cases c : okI j = true
      · simp only [if_pos c] at z
        obtain ⟨h1, h2⟩ := okI_of c
        exact ⟨j, rfl, h1, h2, z _ H1 s1 fun F => iterR⟩
      · simp only [if_neg c] at z
    | [.none], _, _, z => exact z.elim
    | [.bool _], _, _, z => exact z.elim
    | [.str _], _, _, z => exact z.elim
    | [.list _], _, _, z => exact z.elim
    | [.tuple _], _, _, z => exact z.elim
    | [.dict _], _, _, z => exact z.elim
@[simp] def sForR (fi : Vars → R (List PyData)) (gt : PyData → Vars → Option Vars) (g : Vars → Out) (ρ : Vars) : Out := (fi ρ).run ρ fun ds => forL gt g ds ρ
theorem sx_forR {tg iter : Expr} {body : List Stmt} {js : List Nat} {fi : Vars → R (List PyData)} {gt : PyData → Vars → Option Vars} {g : Vars → Out} {pos : Pos} (hp : PassesOwn (model X.prog X.w) X.A X.env X.xe) (hc : X.calm = true) (hi : IXr X W tg iter fi) (hg : GX X tg js gt) (hin : GtIn js gt) (ho : (js.all fun j => !own.contains j) = true)
    (hb : SsX X W own body g) (hs : ∀ x, foldedSetIterable iter X.env x = pure x := by intro _; rfl) : SX X W own (.For tg iter body [] pos) (sForR fi gt g) := by
  obtain ⟨wi, p, hwi⟩ := hi
  obtain ⟨ok, tgt, q, hgt⟩ := hg
  obtain ⟨tb, pb, htb⟩ := hb
  have hj : ∀ j ∈ js, j ∉ own := fun j h z => by
    have := List.all_eq_true.mp ho j h
    rw [List.contains_iff_mem.mpr z] at this; cases this
  refine ⟨_, ps_for hp hc p q pb hs, fun σ H ρ D H0 O0 O r z => ?_⟩
  refine hwi σ H O0 ρ _ r.stands0 r.vrel0 ?_
  unfold sForR at z
  cases e : fi ρ with
  | bad => rw [e] at z; exact z
  | err c => rw [e] at z; exact fun H' s => z σ H' O (r.step s) (hide_same s)
  | ok ds =>
    rw [e, R.run_ok] at z
    intro J H1 s1 hJ
    exact for_core (W := W) (gt := gt) (g := g) (ds := ds) ok hj hin hgt htb (r.step s1) (fun i H2 O2 σ2 ρ2 r2 sF => hJ (hide O H1) i H2 O2 r2.stands sF) (SOut.from z (hide_same s1))
end
section
variable {X : Cx} {W : WX} {own : List Nat}
theorem Rel.imms {H0 : HB} {O0 O : List Addr} {σ : L2.St} {H : Hp} {ρ : Vars} (r : Rel X.K own H0 O0 O σ H ρ) : ∀ {vs : List V} {ds : List PyData}, Rps X.K (hide O0 H) vs ds → Pu.imms ds = true → Rps X.K (hide O H) vs ds
  | _, _, .nil, _ => .nil
  | _, _, .cons (d := d) (ds := ds) h t, e => by
    have e' : Pu.imm d = true ∧ Pu.imms ds = true := by simpa [Pu.imms] using e
    exact .cons (r.imm h e'.1) (Rel.imms r t e'.2)
@[simp] def sSetLcI (i : Nat) (f : Vars → R (List PyData)) (ρ : Vars) : Out := (f ρ).run ρ fun ds => if Pu.imms ds = true then .nx (ρ.set i (some (.list ds))) else .bad
theorem sx_setLcI {i : Nat} {y : Str} {py : Pos} {elt tg iter : Expr} {ifs : List Expr} {scope : Scope} {ownc : List (Str × Nat)} {pos spos : Pos} {js : List Nat} {fi : Vars → R (List PyData)} {gt : PyData → Vars → Option Vars} {ft : Vars → R Bool} {f : Vars → R PyData} (hc : X.calm = true) (hN : X.N.Nodup) (hy : X.N[i]? = some y) (hyl : X.env.scope.names.lookup y = some .local)
    (hsw : swapsWith (.ListComp elt [⟨tg, iter, ifs, 0⟩] scope pos) (some (.Name y py)) spos.line X.env = pure true) (hi : IX X W tg iter fi) (ok : BlkOk X.N X.env.scope scope ownc)
    (hg : ∀ (s : Shared) (H : Hp) (C : Addr) (cl : List (Str × Addr)) (fp : List Addr), GX (X.blk s H scope (compEnvC scope cl C X.env) fp) tg js gt) (ht : ∀ (s : Shared) (H : Hp) (C : Addr) (cl : List (Str × Addr)) (fp : List Addr), TsX (X.blk s H scope (compEnvC scope cl C X.env) fp) W0 ifs ft)
    (he : ∀ (s : Shared) (H : Hp) (C : Addr) (cl : List (Str × Addr)) (fp : List Addr), EX (X.blk s H scope (compEnvC scope cl C X.env) fp) W0 elt f) (hjs : (js.all fun j => (ownc.map (·.2)).contains j) = true) (ho : own.contains i = false) (hs : ∀ x, foldedSetIterable iter X.env x = pure x := by intro _; rfl) :
    SX X W own (.Assign [.Name y py] (.ListComp elt [⟨tg, iter, ifs, 0⟩] scope pos) spos) (sSetLcI i (nLc fi gt ft f (ownc.map (·.2)))) := by
  obtain ⟨wi, p, hwi⟩ := hi
  have hi' : i ∉ own := fun z => by rw [List.contains_iff_mem.mpr z] at ho; cases ho
  have hj : ∀ j ∈ js, j ∈ ownc.map (·.2) := fun j h => by simpa using List.all_eq_true.mp hjs j h
  refine ⟨_, ps_setLc (g := tG X js gt) (tt := tT X W0 ft) (te := tE X W0 f) hc hN hy hyl hsw p ok (fun s H C cl fp => (hg s H C cl fp).pg) (fun s H C cl fp => (ht s H C cl fp).pts) (fun s H C cl fp => (he s H C cl fp).pe) hs, fun σ H ρ D H0 O0 O r z => ?_⟩
  refine lc_run (O := O0) (ρ := ρ) hwi hj r.stands0 r.vrel0 (NOut.run r z fun ds p vs H' s h1 h2 h3 z' => ?_)
  by_cases c : Pu.imms ds = true
  · rw [if_pos c] at z'
    have r' := r.step s
    have h4 := r'.imms (h3.mono (hide_less fun a ha => List.mem_cons_of_mem _ ha)) c
    exact z' _ H' O (r'.set hi' (.lst (.inl (.inl (hide_of (r.stands.new h1) h2))) h4)) (hide_same s)
  · rw [if_neg c] at z'; exact z'.elim
end
def spIO (K : PySem.W.Frag) (n : Nat) (cn : Str → Prop) (fl : Str) (f : List PyData → R PyData) : Sp := fun vs H Q _ =>
  ∃ O a C dx c us ds, vs = .ref a :: us ∧ us.length = n ∧ a ∈ O ∧ Stands O H ∧ H a = some (.ins C dx []) ∧ ClN K c C ∧ cn c ∧ Rps K (hide O H) us ds ∧ (match f ds with
    | .ok d => ∀ H' l, Same (delL H [a]) H' → H' a = some (.ins C dx [(fl, .ref l)]) → H l = none → OwnV K (hide (l :: O) H') H' l d → Q .non H'
    | _ => False)
def IOX (X : Cx) (cs : List Str) (fl : Str) (sts : List Stmt) (g : Vars → R PyData) (Q0 : Prop) : Prop :=
  ∃ t, PSs X sts t ∧ ∀ σ H ρ (Q : VK) O a C dx c, σ[0]? = some (some (.ref a)) → a ∈ O → Stands O H → H a = some (.ins C dx []) → VRel X.K (hide O H) σ ρ → ClN X.K c C → c ∈ cs → (match g ρ with
    | .ok d => ∀ H' l, Same (delL H [a]) H' → H' a = some (.ins C dx [(fl, .ref l)]) → H l = none → OwnV X.K (hide (l :: O) H') H' l d → Q .non H'
    | _ => False) → t { nx := fun _ H' => Q .non H', rt := Q } σ H
@[simp] def eNl (f : Vars → R (List PyData)) (ρ : Vars) : R PyData := match f ρ with
  | .ok ds => .ok (.list ds)
  | .err c => .err c
  | .bad => .bad
theorem NX.nv {X : Cx} {W : WX} {e : Expr} {f : Vars → R (List PyData)} (h : NX X W e f) : NVX X W e (eNl f) := by
  obtain ⟨t, p, ht⟩ := h
  refine ⟨t, p, fun σ H O ρ Q hO hv z => ht σ H O ρ Q hO hv ?_⟩
  unfold eNl at z
  cases e : f ρ with
  | bad => rw [e] at z; exact z
  | err c => rw [e] at z; exact z
  | ok ds => rw [e] at z; exact fun p vs H' s h1 h2 h3 => z _ p H' s h1 (.inl ⟨rfl, vs, h2, h3⟩)
def plO (r : R PyData) : R PyData := match r with
  | .ok (.list ds) => .ok (.list ds)
  | .ok (.dict ds) => if insB ds = true then .bad else .ok (.dict ds)
  | _ => .bad
@[simp] theorem u_plO_l (ds : List PyData) : plO (.ok (.list ds)) = .ok (.list ds) := rfl
@[simp] theorem u_plO_d : plO (.ok (.dict [])) = .ok (.dict []) := rfl
@[simp] def ioFld (fe : Vars → R PyData) (ρ : Vars) : R PyData := plO (fe ρ)
theorem io_fld {X : Cx} {cs : List Str} {fl : Str} {e : Expr} {x : Str} {fe : Vars → R PyData} {p pos' pos : Pos} (F : FldF X.K fl cs) (he : NVX X W0 e fe) (hN : X.N[0]? = some x := by rfl) (hs : swapsWith e (some (.Attribute (.Name x p) fl pos')) pos.line X.env = pure false := by rfl)
    (hv : Vis X.env.scope x := by first | exact Or.inl rfl | exact Or.inr (Or.inl rfl) | exact Or.inr (Or.inr rfl)) (hdn : (x == ("__debug__" : Str)) = false := by decide) (hcd : (x == ("__classdict__" : Str)) = false := by decide) :
    IOX X cs fl [.Assign [.Attribute (.Name x p) fl pos'] e pos] (ioFld fe) True := by
  obtain ⟨t, q, ht⟩ := he
  refine ⟨_, pss_one (ps_fld (pe_var hN hv hdn hcd) q hs), fun σ H ρ Q O a C dx c hσ ha hO hat hvr hc hm z => ?_⟩
  unfold ioFld at z
  refine ht σ H O ρ _ hO hvr ?_
  cases e1 : fe ρ with
  | bad => rw [e1] at z; exact z.elim
  | err _ => rw [e1] at z; exact z.elim
  | ok d =>
    rw [e1] at z
    intro v l H1 s1 hl mi
    obtain ⟨C', k1, k2⟩ := F.all c hm
    have := k1.one hc
    subst this
    have key : plO (.ok d) = .ok d ∧ v = .ref l ∧ OwnV X.K (hide (l :: O) H1) H1 l d := by
      cases d with
      | list ds => exact ⟨rfl, mi.list.1, mi.list.2⟩
      | dict ds =>
        by_cases ib : insB ds = true
        · unfold plO at z; dsimp only at z; rw [if_pos ib] at z; exact z.elim
        · refine ⟨if_neg ib, ?_⟩
          rcases mi with ⟨h1, h2⟩ | ⟨b, C, dx, c, f, d', h1, h2, h3, h4, h5, h6⟩
          · exact ⟨h1, h2⟩
          · cases h2; exact absurd rfl ib
      | _ => exact z.elim
    obtain ⟨kp, rfl, ov⟩ := key
    rw [kp] at z
    have nla : l ≠ a := fun z => by rw [z] at hl; rw [hl] at hat; cases hat
    refine ⟨.ref a, hσ, a, C', dx, [], rfl, s1 _ _ hat, hc.cl, k2, by simp, ?_⟩
    have hh : hide (l :: O) (upd H1 a (.ins C' dx (putF fl (.ref l) []))) = hide (l :: O) H1 := hide_upd (List.mem_cons_of_mem _ ha)
    refine z _ l (fun b o h => ?_) upd_same hl ?_
    · obtain ⟨n, e⟩ := delL_some h
      rw [upd_ne (show b ≠ a from fun z => n (by rw [z]; exact List.mem_singleton_self a))]; exact s1 _ _ e
    · rw [hh]
      exact ov.mono (Same.refl _) fun o ho => by rw [upd_ne nla]; exact ho
def MakO (P : Program) (w : World) (K : PySem.W.Frag) (mg : Str → Option Value) (base : Heap) (k : Nat) (c : Str) (n : Nat) (fl : Str) (f : List PyData → R PyData) : Prop :=
  ∃ C fi fd ps cn, ClN K c C ∧ mg c = some (.ref C) ∧ Mk K C fi ∧ cn c ∧ FnOk P w K mg base (L2.CX P w) k fi fd ps (spIO K n cn fl f) ∧ Binds K fd ps []
section
variable {P : Program} {w : World} {K : PySem.W.Frag} {mg : Str → Option Value} {base : Heap}
@[simp] def fnIO (N : Nat) (g : Vars → R PyData) (ds : List PyData) : R PyData := g (none :: (ds.map some ++ List.replicate (N - 1 - ds.length) none))
theorem fn_dataIO {x qual : Str} {st : Stmt} {f : Addr} {fd : FuncData} {N ps : List Str} {k n : Nat} {cs : List Str} {fl : Str} {g : Vars → R PyData} (F : Fun K x qual st f fd) (S : FnScope N ps (defScope st)) (hn : ps.length = n + 1)
    (hb : ∀ (cdv : Value) (A : Around) (outer : List Env) (s : Shared) (H : Hp) (E : XK), Room k (A.deeper (envOfC qual (defScope st) s.heap.objs.size f cdv)) → IOX (cxOf (L2.CX P w) P w K mg base N qual (defScope st) f cdv A outer s H E) cs fl (defBody st) g True) :
    FnOk P w K mg base (L2.CX P w) (k + 1) f fd ps (spIO K n (fun c => c ∈ cs) fl (fnIO N.length g)) := by
  refine F.okX S (fun vs H Q E h => ?_) fun cdv A outer s H vs Q E hr h => ?_
  · obtain ⟨O, a, C, dx, c, us, ds, rfl, l, _⟩ := h
    rw [hn]; show us.length + 1 = _; rw [l]
  obtain ⟨O, a, C, dx, c, us, ds, rfl, l, ha, hO, hat, hc, hcn, r, z⟩ := h
  obtain ⟨t, p, ht⟩ := hb cdv A outer s H E hr
  have hpl : ps.length ≤ N.length := by have := congrArg List.length S.pre; rw [List.length_take] at this; omega
  have hdl : ds.length = n := by rw [← r.length]; exact l
  have stt : ∀ (i : Nat) (v : V), (V.ref a :: us)[i]? = some v → (L2.start N (V.ref a :: us))[i]? = some (some v) := fun i v e => by
    unfold L2.start
    have hl := (List.getElem?_eq_some_iff.mp e).1
    rw [List.getElem?_append_left (by rw [List.length_map]; exact hl), List.getElem?_map, e]; rfl
  refine ⟨t, p, ht _ H (none :: (ds.map some ++ List.replicate (N.length - 1 - ds.length) none)) Q O a C dx c (stt 0 _ rfl) ha hO hat ⟨?_, fun i d e => ?_⟩ hc hcn z⟩
  · unfold L2.start
    simp only [List.length_append, List.length_map, List.length_replicate, List.length_cons, List.map_cons]
    omega
  · cases i with
    | zero => cases e
    | succ j =>
      rw [List.getElem?_cons_succ] at e
      by_cases c2 : j < (ds.map some).length
      · rw [List.getElem?_append_left c2, List.getElem?_map] at e
        cases q : ds[j]? with
        | none => rw [q] at e; cases e
        | some y =>
          rw [q] at e; cases e
          obtain ⟨v, h1, h2⟩ := r.get q
          exact ⟨v, stt (j + 1) v (by simpa using h1), h2⟩
      · rw [List.getElem?_append_right (by omega), List.getElem?_replicate] at e
        split at e <;> cases e
end
section
variable {X : Cx} {W : WX}
@[simp] def vMake (c fl : Str) (g : List PyData → R PyData) (f : Vars → R (List PyData)) (ρ : Vars) : R PyData := match f ρ with
  | .ok ds => match g ds with
    | .ok d => .ok (.dict [(.none, .tuple [.str c, .dict [(.str fl, d)]])])
    | _ => .bad
  | .err e => .err e
  | .bad => .bad
theorem made_own {O : List Addr} {H1 : Hp} {c fl : Str} {C x dx : Addr} {K : PySem.W.Frag} {H' : Hp} {l : Addr} {d : PyData} (hO : Stands O H1) (h1 : ClN K c C) (hx : H1 x = none) (hdx : H1 dx = none) (ne : dx ≠ x)
    (s' : Same (delL (upd (upd H1 dx (.own x)) x (.ins C dx [])) [x]) H') (hl : upd (upd H1 dx (.own x)) x (.ins C dx []) l = none) (hi : H' x = some (.ins C dx [(fl, .ref l)])) (ov : OwnV K (hide (l :: x :: O) H') H' l d) :
    Same H1 H' ∧ H1 l = none ∧ Mi K (hide (l :: O) H') H' (.ref x) l (.dict [(.none, .tuple [.str c, .dict [(.str fl, d)]])]) := by
  have sN : Same H1 (upd (upd H1 dx (.own x)) x (.ins C dx [])) := fun b o hb => by
    rw [upd_ne (ne_of_none hb hx), upd_ne (ne_of_none hb hdx)]; exact hb
  have s2 : Same H1 H' := fun b o hb => s' b o (by rw [delL_out (by rw [List.mem_singleton]; exact ne_of_none hb hx)]; exact sN b o hb)
  have hdo : H' dx = some (.own x) := s' dx _ (by rw [delL_out (by rw [List.mem_singleton]; exact ne), upd_ne ne]; exact upd_same)
  have hl1 : H1 l = none := sN.free hl
  have nlx : x ≠ l := fun z => by rw [← z, upd_same] at hl; cases hl
  have nld : dx ≠ l := fun z => by rw [← z, upd_ne ne, upd_same] at hl; cases hl
  have xn : x ∉ l :: O := fun z => by
    rcases List.mem_cons.mp z with z | z
    · exact nlx z
    · exact hO.new hx z
  have dn : dx ∉ l :: O := fun z => by
    rcases List.mem_cons.mp z with z | z
    · exact nld z
    · exact hO.new hdx z
  refine ⟨s2, hl1, .inr ⟨x, C, dx, c, fl, d, rfl, rfl, hide_of xn hi, hide_of dn hdo, h1, ov.mono (hide_less fun b hb => ?_) fun o ho => ho⟩⟩
  rcases List.mem_cons.mp hb with z | z
  · rw [z]; exact List.mem_cons_self
  · exact List.mem_cons_of_mem _ (List.mem_cons_of_mem _ z)
theorem nv_make {k n : Nat} {c fl : Str} {g : List PyData → R PyData} {e : Expr} {es : List Expr} {f : Vars → R (List PyData)} {p pos : Pos} (tk : Takes X W) (F : MakO X.prog X.w X.K X.mg X.base k c n fl g) (hr : Room (k + 1) X.A) (hg : Gl X c) (ha : AX X W (e :: es) f) (hlen : ∀ ρ ds, f ρ = .ok ds → ds.length = n)
    (hdb : (c == ("__debug__" : Str)) = false := by decide) (he : starEach (e :: es) X.env = (false, eval e X.env) :: starEach es X.env := by rfl) (hpl : (backTo pos (starEach es X.env)).any (·.1) = false := by rfl) :
    NVX X W (.Call (.Name c p) (e :: es) [] pos) (vMake c fl g f) := by
  obtain ⟨C, fi, fd, ps, cn, h1, h2, h3, h4, h5, h6⟩ := F
  obtain ⟨t, q, ht⟩ := ha
  refine ⟨_, pe_make (E := fun _ _ _ => False) h3 h5 hr hg h2 h6 .nil (passes_call tk fun _ _ _ _ z => z.elim) q hdb he hpl, fun σ H O ρ Q hO hv z => ht σ H O ρ _ hO hv ?_⟩
  unfold vMake at z
  cases e1 : f ρ with
  | bad => rw [e1] at z; exact z
  | err c => rw [e1] at z; exact z
  | ok ds =>
    rw [e1] at z
    dsimp only at z ⊢
    intro vs H1 s1 cp x dx hx hdx ne
    have hO1 := hO.same s1
    have sN : Same H1 (upd (upd H1 dx (.own x)) x (.ins C dx [])) := fun b o hb => by
      rw [upd_ne (ne_of_none hb hx), upd_ne (ne_of_none hb hdx)]; exact hb
    have sF : Same (hide O H1) (hide (x :: O) (upd (upd H1 dx (.own x)) x (.ins C dx []))) := fun b o hb => by
      obtain ⟨c1, e⟩ := hide_some hb
      exact hide_of (fun z => (List.mem_cons.mp z).elim (ne_of_none e hx) c1) (sN b o e)
    refine ⟨x :: O, x, C, dx, c, vs ++ [], ds, rfl, by rw [List.append_nil, cp.length]; exact hlen ρ ds e1, List.mem_cons_self, ?_, upd_same, h1, h4, by rw [List.append_nil]; exact cp.mono sF, ?_⟩
    · intro b hb
      rcases List.mem_cons.mp hb with z | z
      · subst z; exact ⟨_, upd_same, fun xs z => nomatch z⟩
      · exact (hO1.same sN) b z
    · cases e2 : g ds with
      | bad => rw [e2] at z; exact z.elim
      | err _ => rw [e2] at z; exact z.elim
      | ok y =>
        rw [e2] at z
        intro H' l s' hi hl ov
        obtain ⟨q1, q2, q3⟩ := made_own hO1 h1 hx hdx ne s' hl hi ov
        exact ⟨rfl, z _ l H' (s1.trans q1) (s1.free q2) q3⟩
end
section
variable {P : Program} {w : World} {K : PySem.W.Frag} {mg : Str → Option Value} {base : Heap}
theorem mako_zero {c qual fl : Str} {st : Stmt} {ps : List Str} {n : Nat} (M : MakW K mg c qual st ps) : MakO P w K mg base 0 c n fl fun _ => .bad := by
  obtain ⟨C, f, fd, h1, h2, h3, h4, h5⟩ := M
  have no : ∀ vs H Q E, ¬ spIO K n (fun _ => True) fl (fun _ => .bad) vs H Q E := fun vs H Q E h => by
    obtain ⟨_, _, _, _, _, _, _, _, _, _, _, _, _, _, _, z⟩ := h
    exact z
  exact ⟨C, f, fd, ps, fun _ => True, h1, h2, h3, trivial, ⟨fun vs H Q E h => absurd h (no vs H Q E), fun A outer s H args us vs Q E _ _ _ _ h => absurd h (no vs H Q E)⟩, h5⟩
theorem mako_data {c qual fl : Str} {st : Stmt} {N ps : List Str} {k n : Nat} {cs : List Str} {g : Vars → R PyData} (M : MakW K mg c qual st ps) (S : FnScope N ps (defScope st)) (hn : ps.length = n + 1) (hc : cs.contains c = true)
    (hb : ∀ (cdv : Value) (f : Addr) (A : Around) (outer : List Env) (s : Shared) (H : Hp) (E : XK), Room k (A.deeper (envOfC qual (defScope st) s.heap.objs.size f cdv)) → IOX (cxOf (L2.CX P w) P w K mg base N qual (defScope st) f cdv A outer s H E) cs fl (defBody st) g True) :
    MakO P w K mg base (k + 1) c n fl (fnIO N.length g) := by
  obtain ⟨C, f, fd, h1, h2, h3, h4, h5⟩ := M
  exact ⟨C, f, fd, ps, fun c => c ∈ cs, h1, h2, h3, List.contains_iff_mem.mp hc, fn_dataIO h4 S hn fun cdv A outer s H E => hb cdv f A outer s H E, h5⟩
theorem Cal.alias {k n : Nat} {x y : Str} {f : List PyData → R PyData} (h : Cal P w K mg base k x n f) (e : mg y = mg x) : Cal P w K mg base k y n f := by
  obtain ⟨fa, fd, ps, h1, h2, h3, h4⟩ := h
  exact ⟨fa, fd, ps, h1, h2, e.trans h3, h4⟩
end
section
variable {P : Program} {w : World} {K : PySem.W.Frag} {mg : Str → Option Value} {base : Heap}
theorem fn_dataP1 {x qual : Str} {st : Stmt} {f : Addr} {fd : FuncData} {N ps : List Str} {k : Nat} {ks : List Bool} {own : List Nat} {g : Vars → Out} {i0 : Int} (F : FunD K x qual (defArgs st) (defBody st) (defScope st) [V.int i0] [] f fd) (S : FnScope N ps (defScope st)) (hn : ps.length = ks.length)
    (ho : (own.all fun i => decide (ks.length ≤ i) || decide (ks[i]? = some true)) = true) (hi : ((ltS 0 ks).all fun i => own.contains i && own.contains (1000 + i)) = true) (hm : (own.all fun i => decide (i < 1000) || (ltS 0 ks).contains (i - 1000)) = true) (hne : (ltS 0 ks).isEmpty = false)
    (hb : ∀ (cdv : Value) (A : Around) (outer : List Env) (s : Shared) (H : Hp) (E : XK), Room k (A.deeper (envOfC qual (defScope st) s.heap.objs.size f cdv)) → BXP (cxOf (L2.CX P w) P w K mg base N qual (defScope st) f cdv A outer s H E) E own (defBody st) g) :
    FnOk P w K mg base (L2.CX P w) (k + 1) f fd ps (spP K mg ks (fnDP N.length (ltS 0 ks) g)) := by
  refine F.ok S (fun vs H Q E h => ?_) fun cdv A outer s H vs Q E hr h => ?_
  · obtain ⟨O, ds, as, _, _, _, r, _⟩ := h
    rw [r.len.1, hn]
  obtain ⟨O, ds, as, hO, ha, nd, r, z⟩ := h
  obtain ⟨l1, l2, l3⟩ := r.len
  obtain ⟨t, p, ht⟩ := hb cdv A outer s H E hr
  have hpl : ps.length ≤ N.length := by have := congrArg List.length S.pre; rw [List.length_take] at this; omega
  have R0 := start_lent (K := K) (own := own) (N := N) hO ha nd r (by omega) (fun i h => by
      have := List.all_eq_true.mp ho i h
      rw [Bool.or_eq_true] at this
      rcases this with z | z
      · exact .inl (by rw [l2]; exact of_decide_eq_true z)
      · exact .inr (of_decide_eq_true z)) (fun i h => by
      have := List.all_eq_true.mp hi i h
      rw [Bool.and_eq_true] at this
      exact ⟨List.contains_iff_mem.mp this.1, List.contains_iff_mem.mp this.2⟩) (fun i h => by
      have := List.all_eq_true.mp hm _ h
      rw [Bool.or_eq_true] at this
      rcases this with z | z
      · exact absurd (of_decide_eq_true z) (by omega)
      · rw [show 1000 + i - 1000 = i by omega] at z; exact List.contains_iff_mem.mp z)
  have zne : (ltS 0 ks).zip as ≠ [] := fun z => by
    cases e : ltS 0 ks with
    | nil => rw [e] at hne; cases hne
    | cons b bs =>
      rw [e] at z l3
      cases as with
      | nil => cases l3
      | cons a as => cases z
  have hmap : ((ltS 0 ks).zip as).map (·.2) = as := by
    rw [← List.unzip_snd, List.unzip_zip (by rw [l3])]
  have hF : ∀ H' : Hp, hide (((ltS 0 ks).zip as).map (·.2) ++ O.filter fun a => decide (a ∉ as)) H' = hide O H' := fun H' => by
    rw [hmap]
    funext b
    unfold hide
    by_cases c : b ∈ O
    · rw [if_pos c, if_pos (by
        by_cases c2 : b ∈ as
        · exact List.mem_append_left _ c2
        · exact List.mem_append_right _ (List.mem_filter.mpr ⟨c, decide_eq_true c2⟩))]
    · rw [if_neg c, if_neg (fun z => by
        rcases List.mem_append.mp z with z | z
        · exact c (ha b z)
        · exact c (List.mem_filter.mp z).1)]
  refine ⟨t, p, ht _ H _ Q _ _ O R0 zne (fun p hp => delL_in (List.of_mem_zip hp).2) ?_⟩
  have hlv : ltVs ks vs = (ltS 0 ks).map fun i => vs.getD i .non := ltVs_map ks vs 0 _ l1 fun i _ => by rw [Nat.zero_add]
  rw [hlv] at z
  unfold fnDP at z
  cases e : g (ds.map some ++ List.replicate (N.length - ds.length) none) with
  | nx ρ' =>
    rw [e] at z
    dsimp only at z
    cases e2 : lentD (ltS 0 ks) ρ' with
    | none => rw [e2] at z; exact z.elim
    | some dds =>
      rw [e2] at z
      intro H' s0 ov
      refine z .non H' s0 .non (owns_of e2 l3 fun p hp dd hd => ?_)
      have := ov p hp dd (getD_some hd)
      rw [hF] at this; exact this
  | rt d =>
    rw [e] at z
    have key : ∃ d1 kvs, d = .tuple [d1, .dict kvs] ∧ PpOut K mg O ((ltS 0 ks).map fun i => vs.getD i .non) as H Q E (match (ltS 0 ks).mapM fun i => lkp kvs i with
      | some dds => .ok (.tuple (d1 :: dds))
      | none => .bad) := by
      split at z
      · rename_i h; cases h
      · rename_i h; cases h; exact ⟨_, _, rfl, z⟩
      · rename_i h; cases h
      · exact z.elim
    clear z
    obtain ⟨d1, kvs, rfl, z⟩ := key
    cases e2 : (ltS 0 ks).mapM fun i => lkp kvs i with
    | none => rw [e2] at z; exact z.elim
    | some dds =>
      rw [e2] at z
      intro v H' s0 rv ov
      refine z v H' s0 (by rw [hF] at rv; exact rv) (owns_of e2 l3 fun p hp dd hd => ?_)
      have := ov p hp dd hd
      rw [hF] at this; exact this
  | err c ρ' =>
    rw [e] at z
    intro H' s0 ov
    refine z H' s0 fun a h => ?_
    obtain ⟨j, hj⟩ := List.getElem?_of_mem h
    have hjl : j < (ltS 0 ks).length := by rw [← l3]; exact (List.getElem?_eq_some_iff.mp hj).1
    exact ov ((ltS 0 ks)[j], a) (List.mem_of_getElem? (i := j) (by rw [List.getElem?_zip_eq_some]; exact ⟨List.getElem?_eq_getElem hjl, hj⟩))
  | bk _ => rw [e] at z; exact z.elim
  | ct _ => rw [e] at z; exact z.elim
  | bad => rw [e] at z; exact z.elim
def MethW1 (K : PySem.W.Frag) (c m qual : Str) (st : Stmt) (i0 : Int) (ps : List Str) : Prop := ∃ C f fd, ClN K c C ∧ Meth K C m f ∧ FunD K m qual (defArgs st) (defBody st) (defScope st) [V.int i0] [] f fd ∧ Binds K fd ps [] ∧ ∃ ds, Vals [V.int i0] ds ∧ Binds K fd ps ds
theorem met_zeroP1 {c m qual : Str} {st : Stmt} {ps : List Str} {ks : List Bool} {T : MTb} {i0 : Int} (M : MethW1 K c m qual st i0 ps) (r : MetT P w K mg base 0 m (spP K mg ks) T) : MetT P w K mg base 0 m (spP K mg ks) ((c, fun _ => .bad) :: T) := by
  obtain ⟨C, f, fd, h1, h2, h3, h4, _⟩ := M
  exact metT_cons h1 h2 (fn_zero (x := m) (qual := qual) (st := st) noP) h4 r
theorem met_dataP1 {c m qual : Str} {st : Stmt} {N ps : List Str} {k : Nat} {ks : List Bool} {own : List Nat} {g : Vars → Out} {T : MTb} {i0 : Int} (M : MethW1 K c m qual st i0 ps) (S : FnScope N ps (defScope st)) (hn : ps.length = ks.length)
    (ho : (own.all fun i => decide (ks.length ≤ i) || decide (ks[i]? = some true)) = true) (hi : ((ltS 0 ks).all fun i => own.contains i && own.contains (1000 + i)) = true) (hmk : (own.all fun i => decide (i < 1000) || (ltS 0 ks).contains (i - 1000)) = true) (hne : (ltS 0 ks).isEmpty = false)
    (hb : ∀ (cdv : Value) (f : Addr) (A : Around) (outer : List Env) (s : Shared) (H : Hp) (E : XK), Room k (A.deeper (envOfC qual (defScope st) s.heap.objs.size f cdv)) → BXP (cxOf (L2.CX P w) P w K mg base N qual (defScope st) f cdv A outer s H E) E own (defBody st) g)
    (r : MetT P w K mg base (k + 1) m (spP K mg ks) T) : MetT P w K mg base (k + 1) m (spP K mg ks) ((c, fnDP N.length (ltS 0 ks) g) :: T) := by
  obtain ⟨C, f, fd, h1, h2, h3, h4, _⟩ := M
  exact metT_cons h1 h2 (fn_dataP1 h3 S hn ho hi hmk hne (fun cdv A outer s H E hr => hb cdv f A outer s H E hr)) h4 r
end
theorem fun1Q_mk {K : PySem.W.Frag} {x qual : Str} {st : Stmt} {i : Int} {f T : Addr} {oc : Value} {od an : Option Addr} {kV dc pm cd ct ocT : Value} {sl slT : Array (Option Value)} {odT : Option Addr} {nT : Nat} {tk : Tok}
    (lk : K.lookup f = some ⟨oc, od, .func (PySem.W.fnOf x qual (defArgs st) (defBody st) (defScope st) (.ref T) kV dc pm an cd ct), sl⟩) (c : PySem.W.codeIn K cd qual = true) (kp : PySem.W.keepIn K (.ref f) = true) (lT : K.lookup T = some ⟨ocT, odT, .seq #[.int i tk] nT, slT⟩) :
    FunD K x qual (defArgs st) (defBody st) (defScope st) [V.int i] [] f (PySem.W.fnOf x qual (defArgs st) (defBody st) (defScope st) (.ref T) kV dc pm an cd ct) :=
  ⟨⟨oc, od, .ref T, kV, dc, pm, an, cd, ct, sl, rfl, lk, c, Or.inr ⟨by simp, T, _, [.int i tk], nT, rfl, lT, rfl, .cons ⟨tk, rfl⟩ .nil⟩, Or.inl rfl⟩, kp⟩
theorem fun1Q_all {K : PySem.W.Frag} {x qual : Str} {st : Stmt} {i : Int} {f : Addr} {fd : FuncData} {ps : List Str} {n : Nat} (F : FunD K x qual (defArgs st) (defBody st) (defScope st) [V.int i] [] f fd) (hn : ps.length = n)
    (h : ∀ (T : Addr) (kV doc pm : Value) (an : Option Addr) (cdv ct : Value) (us its : List Value), us.length = n → its.length = 1 →
      ∃ k, bindArgs (PySem.W.fnOf x qual (defArgs st) (defBody st) (defScope st) (.ref T) kV doc pm an cdv ct) ⟨us, []⟩ = seqItems? (.ref T) >>= k ∧ k (some its.toArray) = pure (ps.zip (us ++ its.drop 1))) : Binds K fd ps [] := by
  obtain ⟨ds, h1, h2⟩ := FunD.binds1 F n 1 (by simp) (by simp [hn]) h
  cases h1
  exact h2
theorem fun1Q_one {K : PySem.W.Frag} {x qual : Str} {st : Stmt} {i : Int} {f : Addr} {fd : FuncData} {ps : List Str} {n : Nat} (F : FunD K x qual (defArgs st) (defBody st) (defScope st) [V.int i] [] f fd) (hn : ps.length = n + 1)
    (h : ∀ (T : Addr) (kV doc pm : Value) (an : Option Addr) (cdv ct : Value) (us its : List Value), us.length = n → its.length = 1 →
      ∃ k, bindArgs (PySem.W.fnOf x qual (defArgs st) (defBody st) (defScope st) (.ref T) kV doc pm an cdv ct) ⟨us, []⟩ = seqItems? (.ref T) >>= k ∧ k (some its.toArray) = pure (ps.zip (us ++ its.drop 0))) : ∃ ds, Vals [V.int i] ds ∧ Binds K fd ps ds :=
  FunD.binds1 F n 0 (by simp) (by simp [hn]) h
end Pu
set_option Elab.async false
set_option linter.all false
set_option maxRecDepth 100000
set_option maxHeartbeats 4000000
set_option exponentiation.threshold 20
namespace Py
open PySem PySem.Spec L2 Pu Nm O
def hds : Nat → T → List (List Nat)
  | _, .z => []
  | i, .c b r => (if b = .z then [[i]] else (hds 0 b).map (i :: ·)) ++ hds (i + 1) r
def bare : T → Nat
  | .z => 0
  | .c b r => (if b = .z then 1 else bare b) + bare r
theorem hds_len : ∀ (i : Nat) (t : T), (hds i t).length = bare t
  | _, .z => rfl
  | i, .c b r => by
    have h1 := hds_len 0 b
    have h2 := hds_len (i + 1) r
    rw [hds, bare, List.length_append, h2]
    by_cases q : b = .z
    · rw [if_pos q, if_pos q]; rfl
    · rw [if_neg q, if_neg q, List.length_map, h1]
theorem bare_lt : ∀ t : T, bare t < t.pts
  | .z => by decide
  | .c b r => by
    have h1 := bare_lt b
    have h2 := bare_lt r
    have h3 := T.pts_pos b
    show (if b = T.z then 1 else bare b) + bare r < b.pts + r.pts
    split <;> omega
theorem hds_short : ∀ (i : Nat) (t : T) (w : List Nat), w ∈ hds i t → w.length ≤ t.dp
  | _, .z, _, h => by cases h
  | i, .c b r, w, h => by
    rw [hds, List.mem_append] at h
    show w.length ≤ max (b.dp + 1) r.dp
    rcases h with h | h
    · by_cases q : b = .z
      · rw [if_pos q] at h
        rw [List.mem_singleton.mp h]
        show 1 ≤ _
        omega
      · rw [if_neg q] at h
        obtain ⟨v, hv, rfl⟩ := List.mem_map.mp h
        have := hds_short 0 b v hv
        show v.length + 1 ≤ _
        omega
    · have := hds_short (i + 1) r w h
      omega
theorem hds_sub : ∀ (i : Nat) (t : T) (w : List Nat), w ∈ hds i t → ∃ j v, w = (i + j) :: v ∧ sub t (j :: v) = some .z
  | _, .z, _, h => by cases h
  | i, .c b r, w, h => by
    rw [hds, List.mem_append] at h
    rcases h with h | h
    · by_cases q : b = .z
      · rw [if_pos q] at h
        subst q
        refine ⟨0, [], List.mem_singleton.mp h, ?_⟩
        rfl
      · rw [if_neg q] at h
        obtain ⟨v, hv, rfl⟩ := List.mem_map.mp h
        obtain ⟨j, u, e, hs⟩ := hds_sub 0 b v hv
        rw [Nat.zero_add] at e
        subst e
        refine ⟨0, j :: u, rfl, ?_⟩
        rw [sub_cons (b := b) (by rfl)]
        exact hs
    · obtain ⟨j, v, e, hs⟩ := hds_sub (i + 1) r w h
      refine ⟨j + 1, v, by rw [e, show i + 1 + j = i + (j + 1) by omega], ?_⟩
      obtain ⟨d, h1, h2⟩ := sub_cons_some hs
      rw [sub_cons (b := d) (by show (b :: r.L)[j + 1]? = some d; rw [List.getElem?_cons_succ]; exact h1)]
      exact h2
theorem hds_lead {t : T} {w : List Nat} (h : w ∈ hds 0 t) : w ≠ [] ∧ sub t w = some .z := by
  obtain ⟨j, v, e, hs⟩ := hds_sub 0 t w h
  rw [Nat.zero_add] at e
  subst e
  exact ⟨by simp, hs⟩
abbrev wD (w : List Nat) : PyData := .tuple (w.map Dn)
def HdsOk (k : Nat) (F : Fn) : Prop := ∀ t : T, t.dp < k → t.dp ≤ 63 → t.pts ≤ 2000 → F [ten t] = .ok (.list ((hds 0 t).map wD))
abbrev hdB1 : Vars → Out := (sAppM [1] 1 (eOp gAdd (eTup (aCons (eVar 2) aNil)) (eVar 4)))
abbrev hdB2 (S : Nat → Fn) (c0 : Nat) : Vars → Out := (sSeq (sIf (tOf (eOp gEq (eCall gLen (aCons (eVar 3) aNil)) (eC (.int 0)))) (sAppM [1] 1 (eTup (aCons (eVar 2) aNil))) sNil) (sFor [1] (iSeq (eFn (S c0) (aCons (eVar 3) aNil))) (gtName 4) hdB1))
def G_heads (c0 : Nat) (S : Nat → Fn) : Vars → Out := (sSeq (sNew [1] 1 (nLst aNil)) (sSeq (sFor [1] (iEnumD (eVar 0)) (gtTup 2 (gtCons (gtName 2) (gtCons (gtName 3) gtNil))) (hdB2 S c0)) (sRet (eVar 1))))
theorem in_loop {D B : PyData} {i : Nat} : ∀ (ws : List (List Nat)) (acc : List PyData) (x : Option PyData), acc.length + ws.length ≤ 5000 → (∀ w ∈ ws, w.length ≤ 100) →
    ∃ x', forL (gtName 4) (hdB1) (ws.map wD) [some D, some (.list acc), some (Dn i), some B, x] = .nx [some D, some (.list (acc ++ (ws.map (i :: ·)).map wD)), some (Dn i), some B, x']
  | [], acc, x, _, _ => ⟨x, by simp⟩
  | w :: ws, acc, x, h, hw => by
    have l1 : acc.length < sizeLine := sz1000' (by rw [List.length_cons] at h; omega)
    have hl := hw w (by simp)
    have l2 : 1 + w.length ≤ sizeLine := sz1000 (by omega)
    obtain ⟨x', e⟩ := in_loop (D := D) (B := B) (i := i) ws (acc ++ [wD (i :: w)]) (some (wD w)) (by simp at h ⊢; omega) fun w h => hw w (by simp [h])
    refine ⟨x', ?_⟩
    rw [List.map_cons, u_forL_c]
    have : (hdB1) [some D, some (.list acc), some (Dn i), some B, some (wD w)] = .nx [some D, some (.list (acc ++ [wD (i :: w)])), some (Dn i), some B, some (wD w)] := by
      simp [mask, l1, l2]
    simp only [u_gtName, List.set_cons_succ, List.set_cons_zero, this, e]
    simp
theorem out_loop {S : Nat → Fn} {c0 k : Nat} (hk : HdsOk k (S c0)) {D : PyData} : ∀ (r : T) (i : Nat) (acc : List PyData) (x y z : Option PyData), r.dp ≤ k → r.dp ≤ 63 → r.pts ≤ 2000 → acc.length + (hds i r).length ≤ 2000 →
    ∃ x' y' z', forL (gtTup 2 (gtCons (gtName 2) (gtCons (gtName 3) gtNil))) (hdB2 S c0) (enumD i (tenL r)) [some D, some (.list acc), x, y, z] = .nx [some D, some (.list (acc ++ (hds i r).map wD)), x', y', z']
  | .z, i, acc, x, y, v, _, _, _, _ => ⟨x, y, v, by simp [enumD, hds]⟩
  | .c b r, i, acc, x, y, v, h1, h2, h3, h4 => by
    have d1 : b.dp + 1 ≤ k ∧ r.dp ≤ k ∧ b.dp + 1 ≤ 63 ∧ r.dp ≤ 63 := by
      have a : max (b.dp + 1) r.dp ≤ k := h1
      have b : max (b.dp + 1) r.dp ≤ 63 := h2
      omega
    have d2 : b.pts + r.pts ≤ 2000 := h3
    have pb := T.pts_pos b
    have pr := T.pts_pos r
    have eb := hk b (by omega) (by omega) (by omega)
    have l1 : acc.length < sizeLine := sz1000' (by omega)
    have len : (hds i (.c b r)).length = (if b = .z then 1 else (hds 0 b).length) + (hds (i + 1) r).length := by
      rw [hds_len, hds_len, hds_len, bare]
    rw [len] at h4
    have ll := T.ln_lt b
    have lb : ((tenL b).length : Int) = 0 ↔ b = .z := by
      rw [tenL_len]
      cases b with
      | z => simp [T.L]
      | c b' r' => simp [T.L]; omega
    by_cases q : b = .z
    · subst q
      rw [if_pos rfl] at h4
      obtain ⟨x', y', z', e⟩ := out_loop hk (D := D) r (i + 1) (acc ++ [wD [i]]) (some (Dn i)) (some (ten .z)) v d1.2.1 d1.2.2.2 (by omega) (by simp; omega)
      refine ⟨x', y', z', ?_⟩
      rw [tenL_c, enumD, u_forL_c]
      have eb' : S c0 [ten .z] = .ok (.list []) := eb
      have : (hdB2 S c0) [some D, some (.list acc), some (Dn i), some (ten .z), v] = .nx [some D, some (.list (acc ++ [wD [i]])), some (Dn i), some (ten .z), v] := by
        simp [mask, l1, eb']
      simp only [u_gtTup, List.length_cons, List.length_nil, if_true, u_gtCons, u_gtName, u_gtNil, Option.bind_some, List.set_cons_succ, List.set_cons_zero, this, e]
      simp [hds]
    · rw [if_neg q] at h4
      obtain ⟨w', e1⟩ := in_loop (D := D) (B := ten b) (i := i) (hds 0 b) acc v (by omega) fun w hw => by
        have := hds_short 0 b w hw
        omega
      obtain ⟨x', y', z', e⟩ := out_loop hk (D := D) r (i + 1) (acc ++ ((hds 0 b).map (i :: ·)).map wD) (some (Dn i)) (some (ten b)) w' d1.2.1 d1.2.2.2 (by omega) (by simp; omega)
      refine ⟨x', y', z', ?_⟩
      rw [tenL_c, enumD, u_forL_c]
      have nb : ¬ (((tenL b).length : Int) = 0) := fun z => q (lb.mp z)
      have nb' : ¬ b.L = [] := fun z => q (nil_iff.mpr z)
      have : (hdB2 S c0) [some D, some (.list acc), some (Dn i), some (ten b), v] = .nx [some D, some (.list (acc ++ ((hds 0 b).map (i :: ·)).map wD)), some (Dn i), some (ten b), w'] := by
        unfold hdB2
        rw [u_sSeq]
        have c1 : (sIf (tOf (eOp gEq (eCall gLen (aCons (eVar 3) aNil)) (eC (.int 0)))) (sAppM [1] 1 (eTup (aCons (eVar 2) aNil))) sNil) [some D, some (.list acc), some (Dn i), some (ten b), v] = .nx [some D, some (.list acc), some (Dn i), some (ten b), v] := by
          simp [nb']
        rw [c1, Out.then_nx, u_sFor]
        have c2 : (iSeq (eFn (S c0) (aCons (eVar 3) aNil))) (mask [1] [some D, some (.list acc), some (Dn i), some (ten b), v]) = .ok ((hds 0 b).map wD) := by
          simp [mask, eb]
        rw [c2, R.run_ok, e1]
      simp only [u_gtTup, List.length_cons, List.length_nil, if_true, u_gtCons, u_gtName, u_gtNil, Option.bind_some, List.set_cons_succ, List.set_cons_zero, this, e]
      simp [hds, q]
theorem heads_step {S : Nat → Fn} {c0 k : Nat} (hk : HdsOk k (S c0)) : HdsOk (k + 1) (fun ds => fnD 5 (G_heads c0 S) ds) := by
  intro t h1 h2 h3
  refine fnD_of ?_
  have hl := bare_lt t
  obtain ⟨x, y, z, e⟩ := out_loop hk (D := ten t) t 0 [] none none none (by omega) h2 h3 (by rw [hds_len]; simp; omega)
  unfold G_heads
  have s1 : (sSet [] 1 (eC (.int 1))) = (sSet [] 1 (eC (.int 1))) := rfl
  rw [u_sSeq]
  have e1 : (sNew [1] 1 (nLst aNil)) (List.map some [ten t] ++ List.replicate (5 - [ten t].length) none) = .nx [some (ten t), some (.list []), none, none, none] := by simp [mask]
  rw [e1, Out.then_nx, u_sSeq, u_sFor]
  have e2 : (iEnumD (eVar 0)) (mask [1] [some (ten t), some (.list []), none, none, none]) = .ok (enumD 0 (tenL t)) := by simp [mask]
  rw [e2, R.run_ok, e, Out.then_nx]
  simp
def G_l_order_2 (c0 : Nat) (S : Nat → List PyData → R PyData) : Vars → Out :=
  (sSeq (sFor [] (iRange (aCons (eCall gMin2 (aCons (eCall gLen (aCons (eVar 0) aNil)) (aCons (eCall gLen (aCons (eVar 1) aNil)) aNil))) aNil)) (gtName 2) (sSeq (sSet [] 3 (eFn (S c0) (aCons (eOp gIx (eOp gIx (eVar 0) (eVar 2)) (eC (.int 0))) (aCons (eOp gIx (eOp gIx (eVar 1) (eVar 2)) (eC (.int 0))) aNil)))) (sSeq (sIf (tOf (eOp gNe (eVar 3) (eC (.int 0)))) (sRet (eVar 3)) sNil) (sIf (tOf (eOp gNe (eOp gIx (eOp gIx (eVar 0) (eVar 2)) (eC (.int 1))) (eOp gIx (eOp gIx (eVar 1) (eVar 2)) (eC (.int 1))))) (sRet (eOp gSub (eCall gIntC (aCons (eOp gGt (eOp gIx (eOp gIx (eVar 0) (eVar 2)) (eC (.int 1))) (eOp gIx (eOp gIx (eVar 1) (eVar 2)) (eC (.int 1)))) aNil)) (eCall gIntC (aCons (eOp gLt (eOp gIx (eOp gIx (eVar 0) (eVar 2)) (eC (.int 1))) (eOp gIx (eOp gIx (eVar 1) (eVar 2)) (eC (.int 1)))) aNil)))) sNil))))
    (sRet (eOp gSub (eCall gIntC (aCons (eOp gGt (eCall gLen (aCons (eVar 0) aNil)) (eCall gLen (aCons (eVar 1) aNil))) aNil)) (eCall gIntC (aCons (eOp gLt (eCall gLen (aCons (eVar 0) aNil)) (eCall gLen (aCons (eVar 1) aNil))) aNil)))))
def Or3 (k : Nat) (F : Fn) : Prop := ∀ a b : O, a.h < k → wd a ≤ 1000000 → F [enc a, enc b] = .ok (.int (cmp a b))
theorem rngD_cons (lo : Int) (n : Nat) : rngD lo (n + 1) = .int lo :: rngD (lo + 1) n := by
  apply List.ext_getElem?
  intro i
  cases i with
  | zero => rw [rngD_get, if_pos (Nat.succ_pos _)]; simp
  | succ i =>
    rw [rngD_get, List.getElem?_cons_succ, rngD_get]
    by_cases c : i < n
    · rw [if_pos c, if_pos (by omega), show lo + ((i + 1 : Nat) : Int) = lo + 1 + (i : Nat) by omega]
    · rw [if_neg c, if_neg (by omega)]
theorem rngD_nil (lo : Int) : rngD lo 0 = [] := rfl
theorem ord_loop {k : Nat} {g : Vars → Out} {a b : O} (hg : ∀ (j : Nat) (e : O) (n : Int) (e' : O) (n' : Int) (s : Option PyData), e.h < k → wd e ≤ 1000000 → atI (encL a) (j : Int) = some (encP (e, n)) → atI (encL b) (j : Int) = some (encP (e', n')) → ∃ s', g [some (enc a), some (enc b), some (.int (j : Nat)), s] =
      if lead e n e' n' ≠ 0 then .rt (.int (lead e n e' n')) else .nx [some (enc a), some (enc b), some (.int (j : Nat)), s']) :
    ∀ (x y : O) (j : Nat) (u s : Option PyData), a.parts.drop j = x.parts → b.parts.drop j = y.parts → x.h < k + 1 → wd x ≤ 1000000 → ∃ u' s', forL (gtName 2) g (rngD (j : Int) (min x.len y.len)) [some (enc a), some (enc b), u, s] = if first x y ≠ 0 then .rt (.int (first x y)) else .nx [some (enc a), some (enc b), u', s']
  | .z, y, j, u, s, _, _, _, _ => ⟨u, s, by simp [first, O.len, rngD_nil]⟩
  | .c e n r, .z, j, u, s, _, _, _, _ => ⟨u, s, by simp [first, O.len, rngD_nil]⟩
  | .c e n r, .c e' n' r', j, u, s, ha, hb, hh, hw => by
    have he : e.h < k := by have : max (e.h + 1) r.h < k + 1 := hh; omega
    have hr : r.h < k + 1 := by have : max (e.h + 1) r.h < k + 1 := hh; omega
    have wx : max (wd e) (max (r.len + 1) (wd r)) ≤ 1000000 := hw
    have d1 : ∀ {z : O} {p : O × Int} {ps : List (O × Int)}, z.parts.drop j = p :: ps → z.parts[j]? = some p ∧ z.parts.drop (j + 1) = ps := fun {z p ps} h => by
      constructor
      · have := congrArg (·[0]?) h
        simpa using this
      · have := congrArg (List.drop 1) h
        rw [List.drop_drop] at this
        simpa [Nat.add_comm] using this
    obtain ⟨a1, a2⟩ := d1 (z := a) (p := (e, n)) (ps := r.parts) ha
    obtain ⟨b1, b2⟩ := d1 (z := b) (p := (e', n')) (ps := r'.parts) hb
    obtain ⟨s1, e1⟩ := hg j e n e' n' s he (by omega) (atI_at a1) (atI_at b1)
    obtain ⟨u2, s2, e2⟩ := ord_loop hg r r' (j + 1) (some (.int (j : Nat))) s1 a2 b2 hr (by omega)
    have ml : min (O.c e n r).len (O.c e' n' r').len = min r.len r'.len + 1 := by show min (r.len + 1) (r'.len + 1) = _; omega
    rw [ml, rngD_cons, u_forL_c]
    simp only [u_gtName, List.set_cons_succ, List.set_cons_zero, Option.bind_some, e1]
    by_cases c : lead e n e' n' = 0
    · have ef : first (.c e n r) (.c e' n' r') = first r r' := by
        show (if lead e n e' n' ≠ 0 then lead e n e' n' else first r r') = _
        rw [if_neg (show ¬ lead e n e' n' ≠ 0 from fun z => z c)]
      refine ⟨u2, s2, ?_⟩
      rw [ef, ← e2, if_neg (show ¬ lead e n e' n' ≠ 0 from fun z => z c)]
      rfl
    · have ef : first (.c e n r) (.c e' n' r') = lead e n e' n' := by
        show (if lead e n e' n' ≠ 0 then lead e n e' n' else first r r') = _
        rw [if_pos c]
      refine ⟨u, s, ?_⟩
      rw [ef, if_pos c, if_pos c]
theorem ord3_step {S : Nat → Fn} {c0 k : Nat} (h : Or3 k (S c0)) : Or3 (k + 1) (fun ds => fnD 4 (G_l_order_2 c0 S) ds) := by
  intro a b ha hw
  have hl := len_wd a
  refine fnD_of ?_
  unfold G_l_order_2
  have o1 : okI ((min a.len b.len : Nat) : Int) = true := okI_small (by omega) (by omega)
  obtain ⟨u', s', e1⟩ := ord_loop (k := k) (a := a) (b := b) (g := (sSeq (sSet [] 3 (eFn (S c0) (aCons (eOp gIx (eOp gIx (eVar 0) (eVar 2)) (eC (.int 0))) (aCons (eOp gIx (eOp gIx (eVar 1) (eVar 2)) (eC (.int 0))) aNil)))) (sSeq (sIf (tOf (eOp gNe (eVar 3) (eC (.int 0)))) (sRet (eVar 3)) sNil) (sIf (tOf (eOp gNe (eOp gIx (eOp gIx (eVar 0) (eVar 2)) (eC (.int 1))) (eOp gIx (eOp gIx (eVar 1) (eVar 2)) (eC (.int 1))))) (sRet (eOp gSub (eCall gIntC (aCons (eOp gGt (eOp gIx (eOp gIx (eVar 0) (eVar 2)) (eC (.int 1))) (eOp gIx (eOp gIx (eVar 1) (eVar 2)) (eC (.int 1)))) aNil)) (eCall gIntC (aCons (eOp gLt (eOp gIx (eOp gIx (eVar 0) (eVar 2)) (eC (.int 1))) (eOp gIx (eOp gIx (eVar 1) (eVar 2)) (eC (.int 1)))) aNil)))) sNil))))
    (fun j e n e' n' s he hwe a1 b1 => ⟨some (.int (cmp e e')), by
      have hc := h e e' he hwe
      by_cases c1 : cmp e e' = 0
      · rcases Int.lt_trichotomy n n' with c2 | c2 | c2
        · have c3 : ¬ n' < n := by omega
          have c4 : n ≠ n' := by omega
          simp [a1, b1, hc, c1, c2, c3, c4, lead]
        · simp [a1, b1, hc, c1, c2, lead]
        · have c3 : ¬ n < n' := by omega
          have c4 : n ≠ n' := by omega
          simp [a1, b1, hc, c1, c2, c3, c4, lead]
      · simp [a1, b1, hc, c1, lead]⟩) a b 0 none none rfl rfl ha hw
  have mm : gMin2 [.int (a.len : Int), .int (b.len : Int)] = some (.int ((min a.len b.len : Nat) : Int)) := by unfold gMin2; dsimp only; congr 2; split <;> omega
  have e1' : forL (gtName 2) _ (rngD 0 (min a.len b.len)) [some (enc a), some (enc b), none, none] = _ := e1
  by_cases c : first a b = 0
  · rw [if_neg (fun z => z c)] at e1'
    have cc : cmp a b = lenc a b := by rw [cmp_first, if_neg (fun z => z c)]
    rw [cc]
    rcases Nat.lt_trichotomy a.len b.len with c2 | c2 | c2
    · have c3 : ¬ b.len < a.len := by omega
      simp [mm, o1, e1', lenc, c2, c3]
    · have c3 : ¬ b.len < a.len := by omega
      have c4 : ¬ a.len < b.len := by omega
      simp [mm, o1, e1', lenc, c3, c4]
    · have c3 : ¬ a.len < b.len := by omega
      simp [mm, o1, e1', lenc, c2, c3]
  · rw [if_pos c] at e1'
    have cc : cmp a b = first a b := by rw [cmp_first, if_pos c]
    rw [cc]
    simp [mm, o1, e1']
end Py
set_option Elab.async false
set_option linter.all false
set_option maxRecDepth 100000
set_option maxHeartbeats 4000000
set_option exponentiation.threshold 20
namespace Py
open PySem PySem.Spec L2 Pu Nm O
def G_l_put_3 (c0 : Nat) (S : Nat → Fn) : Vars → Out := (sSeq (sFor [] (iRange (aCons (eCall gLen (aCons (eVar 0) aNil)) aNil)) (gtName 2) (sSeq (sSet [] 3 (eFn (S c0) (aCons (eOp gIx (eOp gIx (eVar 0) (eVar 2)) (eC (.int 0))) (aCons (eVar 1) aNil)))) (sSeq (sIf (tOf (eOp gEq (eVar 3) (eC (.int 0)))) (sRet (eOp gAdd (eOp gAdd (eSl (eVar 0) oNone (oSome (eVar 2))) (eTup (aCons (eTup (aCons (eVar 1) (aCons (eOp gAdd (eOp gIx (eOp gIx (eVar 0) (eVar 2)) (eC (.int 1))) (eC (.int 1))) aNil))) aNil))) (eSl (eVar 0) (oSome (eOp gAdd (eVar 2) (eC (.int 1)))) oNone))) sNil) (sIf (tOf (eOp gEq (eVar 3) (eNeg (eC (.int 1))))) (sRet (eOp gAdd (eOp gAdd (eSl (eVar 0) oNone (oSome (eVar 2))) (eTup (aCons (eTup (aCons (eVar 1) (aCons (eC (.int 1)) aNil))) aNil))) (eSl (eVar 0) (oSome (eVar 2)) oNone))) sNil))))
    (sRet (eOp gAdd (eVar 0) (eTup (aCons (eTup (aCons (eVar 1) (aCons (eC (.int 1)) aNil))) aNil)))))
def PutTOk (k : Nat) (F : Fn) : Prop := ∀ a e : O, (a = .z ∨ a.h ≤ 30 ∧ e.h < k ∧ e.h ≤ 30) → a.len ≤ 900 → (∀ p ∈ a.parts, wd p.1 ≤ 900) → F [enc a, enc e] = .ok (enc (mrgO a (.c e 1 .z)))
abbrev pn3B (S : Nat → Fn) (c0 : Nat) : Vars → Out := (sSeq (sSet [] 3 (eFn (S c0) (aCons (eOp gIx (eOp gIx (eVar 0) (eVar 2)) (eC (.int 0))) (aCons (eVar 1) aNil)))) (sSeq (sIf (tOf (eOp gEq (eVar 3) (eC (.int 0)))) (sRet (eOp gAdd (eOp gAdd (eSl (eVar 0) oNone (oSome (eVar 2))) (eTup (aCons (eTup (aCons (eVar 1) (aCons (eOp gAdd (eOp gIx (eOp gIx (eVar 0) (eVar 2)) (eC (.int 1))) (eC (.int 1))) aNil))) aNil))) (eSl (eVar 0) (oSome (eOp gAdd (eVar 2) (eC (.int 1)))) oNone))) sNil) (sIf (tOf (eOp gEq (eVar 3) (eNeg (eC (.int 1))))) (sRet (eOp gAdd (eOp gAdd (eSl (eVar 0) oNone (oSome (eVar 2))) (eTup (aCons (eTup (aCons (eVar 1) (aCons (eC (.int 1)) aNil))) aNil))) (eSl (eVar 0) (oSome (eVar 2)) oNone))) sNil)))
theorem pn3_loop {S : Nat → Fn} {c0 : Nat} {a e : O} (hc : ∀ p ∈ a.parts, S c0 [enc p.1, enc e] = .ok (.int (cmp p.1 e))) (hl : a.len ≤ 900) : ∀ (d : O) (i : Nat) (x s : Option PyData), a.parts.drop i = d.parts → i + d.len = a.len →
    (∃ x' s', forL (gtName 2) (pn3B S c0) ((List.range d.len).map fun j => .int ((i + j : Nat) : Int)) [some (enc a), some (enc e), x, s] = .nx [some (enc a), some (enc e), x', s'] ∧ insN d e = of (d.parts ++ [(e, 1)])) ∨
      forL (gtName 2) (pn3B S c0) ((List.range d.len).map fun j => .int ((i + j : Nat) : Int)) [some (enc a), some (enc e), x, s] = .rt (enc (of (a.parts.take i ++ (insN d e).parts)))
  | .z, i, x, s, _, _ => .inl ⟨x, s, rfl, rfl⟩
  | .c f n r, i, x, s, hd, hi => by
    obtain ⟨g1, g2, g3⟩ := drop_at (show a.parts.drop i = (f, n) :: r.parts from hd)
    have g1' : a.parts[i]? = some (f, n) := g1
    have ax : atI (encL a) (i : Int) = some (encP (f, n)) := atI_at g1'
    have hcc := hc (f, n) (List.mem_of_getElem? g1')
    simp only [O.len] at hi
    have er : (List.range (r.len + 1)).map (fun j => PyData.int ((i + j : Nat) : Int)) = PyData.int (i : Int) :: (List.range r.len).map (fun j => PyData.int ((i + 1 + j : Nat) : Int)) := by
      rw [List.range_succ_eq_map, List.map_cons, List.map_map]
      congr 1
      refine List.map_congr_left fun j _ => ?_
      show PyData.int _ = PyData.int _
      congr 2
      simp only [Nat.succ_eq_add_one]; omega
    have l0 : (O.c f n r).len = r.len + 1 := rfl
    rw [l0, er, u_forL_c]
    simp only [u_gtName, List.set_cons_succ, List.set_cons_zero]
    have c1 : Pu.cutD (encL a) none (some (i : Int)) = (encL a).take i := cut_front _ _
    have c2 : Pu.cutD (encL a) (some ((i : Int) + 1)) none = (encL a).drop (i + 1) := by
      have := cut_back (encL a) (i + 1)
      rwa [encL_len, Nat.min_eq_left (by omega)] at this
    have c3 : Pu.cutD (encL a) (some (i : Int)) none = (encL a).drop i := by
      have := cut_back (encL a) i
      rwa [encL_len, Nat.min_eq_left (by omega)] at this
    have tl : min i a.len = i := by omega
    have s1 : i + 1 ≤ sizeLine := sz1000 (by omega)
    have s2 : i + (1 + (a.len - (i + 1))) ≤ sizeLine := sz1000 (by omega)
    have s3 : i + (1 + (a.len - i)) ≤ sizeLine := sz1000 (by omega)
    have s2' : i + 1 + (a.len - (i + 1)) ≤ sizeLine := sz1000 (by omega)
    have s3' : i + 1 + (a.len - i) ≤ sizeLine := sz1000 (by omega)
    rcases cmp_tri e f with c | c | c
    · have hcc' : S c0 [enc f, enc e] = .ok (.int 1) := by rw [← show cmp f e = 1 by rw [cmp_neg e f, c]; rfl]; exact hcc
      have eb : pn3B S c0 [some (enc a), some (enc e), some (.int (i : Int)), s] = .nx [some (enc a), some (enc e), some (.int (i : Int)), some (.int 1)] := by
        simp [pn3B, ax, hcc']
      have ei : insN (.c f n r) e = .c f n (insN r e) := by rw [insN, if_neg (by omega), if_neg (by omega)]
      rw [eb]
      dsimp only
      rcases pn3_loop hc hl r (i + 1) (some (.int (i : Int))) (some (.int 1)) g2 (by omega) with ⟨x', s', e1, e2⟩ | e1
      · refine .inl ⟨x', s', e1, ?_⟩
        rw [ei, e2]; rfl
      · refine .inr ?_
        rw [e1, ei]
        have et : a.parts.take (i + 1) = a.parts.take i ++ [(f, n)] := by
          rw [List.take_succ, g1']; rfl
        rw [et, List.append_assoc]; rfl
    · subst c
      have hcc' : S c0 [enc e, enc e] = .ok (.int 0) := by rw [← cmp_self e]; exact hcc
      have ei : insN (.c e n r) e = .c e (n + 1) r := by rw [insN, if_pos (cmp_self e)]
      refine .inr ?_
      have eq1 : enc (of (a.parts.take i ++ (insN (.c e n r) e).parts)) = .tuple ((encL a).take i ++ (.tuple [enc e, .int (n + 1)] :: (encL a).drop (i + 1))) := by
        show PyData.tuple (encL _) = _
        rw [encL_of, ei, List.map_append, encL_parts a, List.map_take, ← List.map_drop, g2]; rfl
      have eb : pn3B S c0 [some (enc a), some (enc e), some (.int (i : Int)), s] = .rt (enc (of (a.parts.take i ++ (insN (.c e n r) e).parts))) := by
        rw [eq1]
        simp [pn3B, ax, hcc', c1, c2, tl, s1, s2, s2']
      rw [eb]
    · have hcc' : S c0 [enc f, enc e] = .ok (.int (-1)) := by rw [← show cmp f e = -1 by rw [cmp_neg e f, c]]; exact hcc
      have ei : insN (.c f n r) e = .c e 1 (.c f n r) := by rw [insN, if_neg (by omega), if_pos c]
      refine .inr ?_
      have eq1 : enc (of (a.parts.take i ++ (insN (.c f n r) e).parts)) = .tuple ((encL a).take i ++ (.tuple [enc e, .int 1] :: (encL a).drop i)) := by
        show PyData.tuple (encL _) = _
        rw [encL_of, ei, List.map_append, encL_parts a, List.map_take, ← List.map_drop, hd]; rfl
      have eb : pn3B S c0 [some (enc a), some (enc e), some (.int (i : Int)), s] = .rt (enc (of (a.parts.take i ++ (insN (.c f n r) e).parts))) := by
        rw [eq1]
        simp [pn3B, ax, hcc', c1, c3, tl, s1, s3, s3']
      rw [eb]
theorem l_put3_step {S : Nat → Fn} {c0 k : Nat} (hc : Or3 31 (S c0)) : PutTOk k (fun ds => fnD 4 (G_l_put_3 c0 S) ds) := by
  intro a e ha hl hw
  refine fnD_of ?_
  have hcc : ∀ p ∈ a.parts, S c0 [enc p.1, enc e] = .ok (.int (cmp p.1 e)) := fun p hp => by
    rcases ha with ha | ⟨h1, h2, h3⟩
    · subst ha; cases hp
    · have := part_mem_h hp
      exact hc p.1 e (by omega) (by have := hw p hp; omega)
  have ok : okI (a.len : Int) = true := okI_small (by omega) (by omega)
  have er : rngD 0 a.len = (List.range a.len).map fun j => PyData.int ((0 + j : Nat) : Int) := by
    unfold rngD
    refine List.map_congr_left fun j _ => ?_
    show PyData.int _ = PyData.int _
    congr 1
  have L := pn3_loop (S := S) (c0 := c0) (e := e) hcc hl a 0 none none rfl (by omega)
  rw [← er] at L
  have s1 : a.len + 1 ≤ sizeLine := sz1000 (by omega)
  unfold G_l_put_3
  rw [u_sSeq, u_sFor]
  have e1 : (iRange (aCons (eCall gLen (aCons (eVar 0) aNil)) aNil)) (mask [] (List.map some [enc a, enc e] ++ List.replicate (4 - [enc a, enc e].length) none)) = .ok (rngD 0 a.len) := by simp [ok]
  rw [e1, R.run_ok]
  rcases L with ⟨x', s', L, E⟩ | L
  · refine Eq.trans (congrArg (fun o => Out.then o _) L) ?_
    rw [← ins_mrg, E, Out.then_nx]
    have e2 : enc (of (a.parts ++ [(e, 1)])) = .tuple (encL a ++ [.tuple [enc e, .int 1]]) := by
      show PyData.tuple (encL _) = _
      rw [encL_of, List.map_append, encL_parts a]; rfl
    rw [e2]
    simp [s1]
  · refine Eq.trans (congrArg (fun o => Out.then o _) L) ?_
    rw [Out.then_rt, ← ins_mrg]
    simp
theorem num_snoc (l : List T) (b : T) : numO (T.of (l ++ [b])) = mrgO (numO (T.of l)) (.c (numO b) 1 .z) := by
  have h1 := foldl_take (f := fun a b => mrgO a (.c (numO b) 1 .z)) (fun _ _ _ => rfl) (l ++ [b])
  have h2 := foldl_take (f := fun a b => mrgO a (.c (numO b) 1 .z)) (fun _ _ _ => rfl) l
  rw [List.foldl_append] at h1
  rw [← h1, ← h2]; rfl
def Lnum3 (k : Nat) (F : Fn) : Prop := ∀ t : T, t.dp < k → t.dp ≤ 29 → t.pts ≤ 800 → F [ten t] = .ok (enc (numO t))
theorem ln3_loop {F G : Fn} {A : Option PyData} (hp : PutTOk 31 F) {n : Nat} (hn : n ≤ 29) : ∀ (l2 l1 : List T) (v : Option PyData), (∀ b ∈ l1 ++ l2, b.dp < n ∧ b.pts ≤ 800 ∧ G [ten b] = .ok (enc (numO b))) → (l1 ++ l2).length ≤ 800 →
    ∃ v', forL (gtName 2) (sSet [] 1 (eFn F (aCons (eVar 1) (aCons (eFn G (aCons (eVar 2) aNil)) aNil)))) (l2.map ten) [A, some (enc (numO (T.of l1))), v] = .nx [A, some (enc (numO (T.of (l1 ++ l2)))), v']
  | [], l1, v, _, _ => ⟨v, by simp⟩
  | b :: l2, l1, v, h, hl => by
    have hb := h b (by simp)
    have hz : ∀ c ∈ l1, c.dp < n ∧ c.pts ≤ 800 := fun c hc => ⟨(h c (by simp [hc])).1, (h c (by simp [hc])).2.1⟩
    have e : l1 ++ b :: l2 = (l1 ++ [b]) ++ l2 := by simp
    obtain ⟨v', e2⟩ := ln3_loop hp hn (A := A) (G := G) l2 (l1 ++ [b]) (some (ten b)) (by rw [← e]; exact h) (by rw [← e]; exact hl)
    refine ⟨v', ?_⟩
    have hh := num_h (T.of l1)
    have hd : (T.of l1).dp ≤ n := T.dp_of fun c hc => (hz c hc).1
    have hb' := num_h b
    have len := num_len (T.of l1)
    rw [T.L_of] at len
    rw [List.length_append, List.length_cons] at hl
    have e1 := hp (numO (T.of l1)) (numO b) (.inr ⟨by omega, by omega, by omega⟩) (by omega) (fun p hp => by
      obtain ⟨c, hc, ec⟩ := num_exp (T.of l1) p hp
      rw [T.L_of] at hc
      rw [← ec]
      have := num_wd 800 c (hz c hc).2
      omega)
    rw [← num_snoc] at e1
    rw [List.map_cons, u_forL_c]
    have g : (sSet [] 1 (eFn F (aCons (eVar 1) (aCons (eFn G (aCons (eVar 2) aNil)) aNil)))) [A, some (enc (numO (T.of l1))), some (ten b)] = .nx [A, some (enc (numO (T.of (l1 ++ [b])))), some (ten b)] := by
      simp [hb.2.2, e1]
    simp only [u_gtName, List.set_cons_succ, List.set_cons_zero, g, e2, e]
theorem ltn3_step {S : Nat → Fn} {c0 c1 k : Nat} (h0 : PutTOk 31 (S c0)) (h1 : Lnum3 k (S c1)) : Lnum3 (k + 1) (fun ds => fnD 3 (G_l_number_2 c0 c1 S) ds) := by
  intro t hk ht hp
  refine fnD_of ?_
  have hl := T.ln_lt t
  obtain ⟨v', e⟩ := ln3_loop (A := some (ten t)) (F := S c0) (G := S c1) h0 ht t.L [] none (fun b hb => by
    rw [List.nil_append] at hb
    have d1 := T.dp_mem t b hb
    have d2 := T.pts_mem t b hb
    exact ⟨by omega, by omega, h1 b (by omega) (by omega) (by omega)⟩) (by rw [List.nil_append]; omega)
  rw [List.nil_append, T.of_L, ← tenL_L] at e
  have e' : forL (gtName 2) (sSet [] 1 (eFn (S c0) (aCons (eVar 1) (aCons (eFn (S c1) (aCons (eVar 2) aNil)) aNil)))) (tenL t) [some (ten t), some (.tuple []), none] = .nx [some (ten t), some (enc (numO t)), v'] := e
  unfold G_l_number_2
  simp [e']
def PtlL (k : Nat) (F : Fn) : Prop := ∀ l : List T, (∀ b ∈ l, b.dp < k) → (l.map T.pts).sum ≤ 2000 → l.length ≤ 2000 → F [.list (l.map ten)] = .ok (.int ((T.of l).pts : Nat))
theorem l_points_list {S : Nat → Fn} {c0 k : Nat} (h : PtlOk k (S c0)) : PtlL k (fun ds => fnD 2 (G_l_points c0 S) ds) := by
  intro l ht hp hl
  refine fnD_of ?_
  have ple : ∀ (l : List T) (b : T), b ∈ l → b.pts ≤ (l.map T.pts).sum := by
    intro l
    induction l with
    | nil => intro b hb; cases hb
    | cons a l ih =>
      intro b hb
      rw [List.map_cons, List.sum_cons]
      rcases List.mem_cons.mp hb with e | e
      · subst e; omega
      · have := ih b e; omega
  have e1 : lcL (gtName 1) tYesD (eFn (S c0) (aCons (eVar 1) aNil)) [some (.list (l.map ten)), none] (l.map ten) = .ok (l.map fun b => PyData.int (b.pts : Nat)) := by
    have := lc_gen (ps := l) (E := ten) (ρ := [some (.list (l.map ten)), none]) (i := 1) (tt := tYesD) (f := eFn (S c0) (aCons (eVar 1) aNil)) (P := fun _ => true) (F := fun b => PyData.int (b.pts : Nat)) (fun _ _ => rfl) fun b hb _ => by
      have := ple l b hb
      simp [h b (ht b hb) (by omega)]
    rw [List.filter_eq_self.mpr fun _ _ => rfl] at this
    exact this
  have es := intsOf_mapF (fun b : T => ((b.pts : Nat) : Int)) l
  have ep : (((T.of l).pts : Nat) : Int) = 1 + (l.map fun b => ((b.pts : Nat) : Int)).sum := by
    have h1 := T.pts_of l
    have h2 : ∀ l : List T, ((l.map T.pts).sum : Int) = (l.map fun b => ((b.pts : Nat) : Int)).sum := by
      intro l
      induction l with
      | nil => rfl
      | cons b l ih => rw [List.map_cons, List.map_cons, List.sum_cons, List.sum_cons, ← ih]; omega
    rw [h1, ← h2]; omega
  have s1 : l.length < sizeLine := sz1000' (by omega)
  unfold G_l_points
  simp [e1, s1, gSum, es, ep]
end Py
set_option Elab.async false
set_option linter.all false
set_option maxRecDepth 100000
set_option maxHeartbeats 4000000
namespace Lk82
open PySem PySem.Spec PyProof.Rows L2 Pu
def top (i : Nat) : Stmt := PySem.Challenge.pw_hydrahouse_k82_whole_play.main.body.getD i (.Pass ⟨0, 0, 0, 0⟩)
abbrev cls_all : List Str := ["Play"]
abbrev s_is_whole : Stmt := top 8
abbrev N_is_whole : List Str := ["thing"]
theorem sc_is_whole : FnScope N_is_whole ["thing"] (defScope s_is_whole) := ⟨rfl, rfl, rfl, by decide +kernel, rfl, by decide +kernel, by decide +kernel⟩
def g_is_whole (S : Nat → List PyData → R PyData) : Vars → Out :=
  (sRet (eAnd (eIsi "int" (eVar 0)) (eAnd (eNot (eIsi "bool" (eVar 0))) (eOp gGe (eVar 0) (eC (.int 0))))))
abbrev s_compare : Stmt := top 9
abbrev N_compare : List Str := ["a", "b", "one", "other", "side"]
theorem sc_compare : FnScope N_compare ["a", "b"] (defScope s_compare) := ⟨rfl, rfl, rfl, by decide +kernel, rfl, by decide +kernel, by decide +kernel⟩
abbrev gb_compare_1 (S : Nat → List PyData → R PyData) : Vars → Out :=
  (sSeq (sSet [] 4 (eFn (S 1) (aCons (eOp gIx (eVar 2) (eC (.int 0))) (aCons (eOp gIx (eVar 3) (eC (.int 0))) aNil)))) (sSeq (sIf (tOf (eOp gNe (eVar 4) (eC (.int 0)))) (sRet (eVar 4)) sNil) (sIf (tOf (eOp gNe (eOp gIx (eVar 2) (eC (.int 1))) (eOp gIx (eVar 3) (eC (.int 1))))) (sRet (eIf (tOf (eOp gGt (eOp gIx (eVar 2) (eC (.int 1))) (eOp gIx (eVar 3) (eC (.int 1))))) (eC (.int 1)) (eNeg (eC (.int 1))))) sNil)))
def g_compare (S : Nat → List PyData → R PyData) : Vars → Out :=
  (sSeq (sFor [] (iZipD (aCons (eVar 0) (aCons (eVar 1) aNil))) (gtTup 2 (gtCons (gtName 2) (gtCons (gtName 3) gtNil))) (gb_compare_1 S))
    (sSeq (sIf (tOf (eOp gEq (eCall gLen (aCons (eVar 0) aNil)) (eCall gLen (aCons (eVar 1) aNil)))) (sRet (eC (.int 0))) sNil)
    (sRet (eIf (tOf (eOp gGt (eCall gLen (aCons (eVar 0) aNil)) (eCall gLen (aCons (eVar 1) aNil)))) (eC (.int 1)) (eNeg (eC (.int 1)))))))
abbrev s_raised : Stmt := top 10
abbrev N_raised : List Str := ["exponent", "times"]
theorem sc_raised : FnScope N_raised ["exponent", "times"] (defScope s_raised) := ⟨rfl, rfl, rfl, by decide +kernel, rfl, by decide +kernel, by decide +kernel⟩
def g_raised (S : Nat → List PyData → R PyData) : Vars → Out :=
  (sSeq (sIf (tNotR (tTru (eFn (S 0) (aCons (eVar 1) aNil)))) (sRaise "NoNumber") sNil)
    (sSeq (sIf (tOf (eOp gEq (eVar 1) (eC (.int 0)))) (sRet (eTup aNil)) sNil)
    (sRet (eTup (aCons (eTup (aCons (eVar 0) (aCons (eVar 1) aNil))) aNil)))))
abbrev s_whole_part : Stmt := top 11
abbrev N_whole_part : List Str := ["a"]
theorem sc_whole_part : FnScope N_whole_part ["a"] (defScope s_whole_part) := ⟨rfl, rfl, rfl, by decide +kernel, rfl, by decide +kernel, by decide +kernel⟩
def g_whole_part (S : Nat → List PyData → R PyData) : Vars → Out :=
  (sSeq (sIf (tOrR (tOf (eOp gEq (eVar 0) (eTup aNil))) (tOf (eOp gNe (eOp gIx (eOp gIx (eVar 0) (eNeg (eC (.int 1)))) (eC (.int 0))) (eTup aNil)))) (sRet (eC (.int 0))) sNil)
    (sRet (eOp gIx (eOp gIx (eVar 0) (eNeg (eC (.int 1)))) (eC (.int 1)))))
abbrev s_is_limit : Stmt := top 12
abbrev N_is_limit : List Str := ["a"]
theorem sc_is_limit : FnScope N_is_limit ["a"] (defScope s_is_limit) := ⟨rfl, rfl, rfl, by decide +kernel, rfl, by decide +kernel, by decide +kernel⟩
def g_is_limit (S : Nat → List PyData → R PyData) : Vars → Out :=
  (sRet (eAnd (eOp gNe (eVar 0) (eTup aNil)) (eOp gEq (eFn (S 3) (aCons (eVar 0) aNil)) (eC (.int 0)))))
abbrev s_merged : Stmt := top 14
abbrev N_merged : List Str := ["a", "b", "found", "i", "j", "side"]
theorem sc_merged : FnScope N_merged ["a", "b"] (defScope s_merged) := ⟨rfl, rfl, rfl, by decide +kernel, rfl, by decide +kernel, by decide +kernel⟩
abbrev gb_merged_1 (S : Nat → List PyData → R PyData) : Vars → Out :=
  (sSeq (sSetM [2] 5 (eFn (S 1) (aCons (eOp gIx (eOp gIx (eVar 0) (eVar 3)) (eC (.int 0))) (aCons (eOp gIx (eOp gIx (eVar 1) (eVar 4)) (eC (.int 0))) aNil)))) (sIf (tOf (eOp gEq (eVar 5) (eC (.int 1)))) (sSeq (sAppM [2] 2 (eOp gIx (eVar 0) (eVar 3))) (sAug [2] 3 gAddI (eC (.int 1)))) (sIf (tOf (eOp gEq (eVar 5) (eNeg (eC (.int 1))))) (sSeq (sAppM [2] 2 (eOp gIx (eVar 1) (eVar 4))) (sAug [2] 4 gAddI (eC (.int 1)))) (sSeq (sAppM [2] 2 (eTup (aCons (eOp gIx (eOp gIx (eVar 0) (eVar 3)) (eC (.int 0))) (aCons (eOp gAdd (eOp gIx (eOp gIx (eVar 0) (eVar 3)) (eC (.int 1))) (eOp gIx (eOp gIx (eVar 1) (eVar 4)) (eC (.int 1)))) aNil)))) (sSeq (sAug [2] 3 gAddI (eC (.int 1))) (sAug [2] 4 gAddI (eC (.int 1))))))))
def g_merged (S : Nat → List PyData → R PyData) : Vars → Out :=
  (sSeq (sNew [2] 2 (nLst aNil))
    (sSeq (sSetM [2] 3 (eC (.int 0)))
    (sSeq (sSetM [2] 4 (eC (.int 0)))
    (sSeq (whileL (tAndR (tOf (eOp gLt (eVar 3) (eCall gLen (aCons (eVar 0) aNil)))) (tOf (eOp gLt (eVar 4) (eCall gLen (aCons (eVar 1) aNil))))) (gb_merged_1 S) wfuel)
    (sRet (eOp gAdd (eOp gAdd (eCall gTuple (aCons (eVar 2) aNil)) (eSl (eVar 0) (oSome (eVar 3)) oNone)) (eSl (eVar 1) (oSome (eVar 4)) oNone)))))))
abbrev s_points : Stmt := top 17
abbrev N_points : List Str := ["tree", "many", "branch"]
theorem sc_points : FnScope N_points ["tree"] (defScope s_points) := ⟨rfl, rfl, rfl, by decide +kernel, rfl, by decide +kernel, by decide +kernel⟩
abbrev gb_points_1 (S : Nat → List PyData → R PyData) : Vars → Out :=
  (sAug [] 1 gAddI (eFn (S 6) (aCons (eVar 2) aNil)))
def g_points (S : Nat → List PyData → R PyData) : Vars → Out :=
  (sSeq (sSet [] 1 (eC (.int 1)))
    (sSeq (sFor [] (iSeq (eVar 0)) (gtName 2) (gb_points_1 S))
    (sRet (eVar 1))))
abbrev s_heads : Stmt := top 18
abbrev N_heads : List Str := ["tree", "found", "at", "branch", "way"]
theorem sc_heads : FnScope N_heads ["tree"] (defScope s_heads) := ⟨rfl, rfl, rfl, by decide +kernel, rfl, by decide +kernel, by decide +kernel⟩
abbrev gb_heads_1 (S : Nat → List PyData → R PyData) : Vars → Out :=
  (sAppM [1] 1 (eOp gAdd (eTup (aCons (eVar 2) aNil)) (eVar 4)))
abbrev gb_heads_2 (S : Nat → List PyData → R PyData) : Vars → Out :=
  (sSeq (sIf (tOf (eOp gEq (eCall gLen (aCons (eVar 3) aNil)) (eC (.int 0)))) (sAppM [1] 1 (eTup (aCons (eVar 2) aNil))) sNil) (sFor [1] (iSeq (eFn (S 7) (aCons (eVar 3) aNil))) (gtName 4) (gb_heads_1 S)))
def g_heads (S : Nat → List PyData → R PyData) : Vars → Out :=
  (sSeq (sNew [1] 1 (nLst aNil))
    (sSeq (sFor [1] (iEnumD (eVar 0)) (gtTup 2 (gtCons (gtName 2) (gtCons (gtName 3) gtNil))) (gb_heads_2 S))
    (sRet (eVar 1))))
abbrev s_number_of : Stmt := top 19
abbrev N_number_of : List Str := ["tree", "found", "branch"]
theorem sc_number_of : FnScope N_number_of ["tree"] (defScope s_number_of) := ⟨rfl, rfl, rfl, by decide +kernel, rfl, by decide +kernel, by decide +kernel⟩
abbrev gb_number_of_1 (S : Nat → List PyData → R PyData) : Vars → Out :=
  (sSet [] 1 (eFn (S 5) (aCons (eVar 1) (aCons (eFn (fun ds => S 2 (ds ++ [.int 1])) (aCons (eFn (S 8) (aCons (eVar 2) aNil)) aNil)) aNil))))
def g_number_of (S : Nat → List PyData → R PyData) : Vars → Out :=
  (sSeq (sSet [] 1 (eTup aNil))
    (sSeq (sFor [] (iSeq (eVar 0)) (gtName 2) (gb_number_of_1 S))
    (sRet (eVar 1))))
abbrev s_is_head : Stmt := top 20
abbrev N_is_head : List Str := ["tree", "way", "place"]
theorem sc_is_head : FnScope N_is_head ["tree", "way"] (defScope s_is_head) := ⟨rfl, rfl, rfl, by decide +kernel, rfl, by decide +kernel, by decide +kernel⟩
abbrev gb_is_head_1 (S : Nat → List PyData → R PyData) : Vars → Out :=
  (sSeq (sIf (tOrR (tNotR (tTru (eFn (S 0) (aCons (eVar 2) aNil)))) (tOf (eOp gGe (eVar 2) (eCall gLen (aCons (eVar 0) aNil))))) (sRet (eC (.bool false))) sNil) (sSet [] 0 (eOp gIx (eVar 0) (eVar 2))))
def g_is_head (S : Nat → List PyData → R PyData) : Vars → Out :=
  (sSeq (sIf (tOrR (tNotR (tTru (eIsi "tuple" (eVar 1)))) (tOf (eOp gEq (eCall gLen (aCons (eVar 1) aNil)) (eC (.int 0))))) (sRet (eC (.bool false))) sNil)
    (sSeq (sFor [] (iSeq (eVar 1)) (gtName 2) (gb_is_head_1 S))
    (sRet (eOp gEq (eCall gLen (aCons (eVar 0) aNil)) (eC (.int 0))))))
abbrev s_instead : Stmt := top 21
abbrev N_instead : List Str := ["tree", "at", "others"]
theorem sc_instead : FnScope N_instead ["tree", "at", "others"] (defScope s_instead) := ⟨rfl, rfl, rfl, by decide +kernel, rfl, by decide +kernel, by decide +kernel⟩
def g_instead (S : Nat → List PyData → R PyData) : Vars → Out :=
  (sRet (eOp gAdd (eOp gAdd (eSl (eVar 0) oNone (oSome (eVar 1))) (eVar 2)) (eSl (eVar 0) (oSome (eOp gAdd (eVar 1) (eC (.int 1)))) oNone)))
abbrev s_regrown : Stmt := top 22
abbrev N_regrown : List Str := ["tree", "way", "many", "at", "branch", "left"]
theorem sc_regrown : FnScope N_regrown ["tree", "way", "many"] (defScope s_regrown) := ⟨rfl, rfl, rfl, by decide +kernel, rfl, by decide +kernel, by decide +kernel⟩
def g_regrown (S : Nat → List PyData → R PyData) : Vars → Out :=
  (sSeq (sSet [] 3 (eOp gIx (eVar 1) (eC (.int 0))))
    (sSeq (sSet [] 4 (eOp gIx (eVar 0) (eVar 3)))
    (sSeq (sIf (tOf (eOp gEq (eCall gLen (aCons (eVar 1) aNil)) (eC (.int 2)))) (sSeq (sSet [] 5 (eFn (S 10) (aCons (eVar 4) (aCons (eOp gIx (eVar 1) (eC (.int 1))) (aCons (eTup aNil) aNil))))) (sRet (eFn (S 10) (aCons (eVar 0) (aCons (eVar 3) (aCons (eOp gRep (eTup (aCons (eVar 5) aNil)) (eOp gAdd (eVar 2) (eC (.int 1)))) aNil)))))) sNil)
    (sRet (eFn (S 10) (aCons (eVar 0) (aCons (eVar 3) (aCons (eTup (aCons (eFn (S 11) (aCons (eVar 4) (aCons (eSl (eVar 1) (oSome (eC (.int 1))) oNone) (aCons (eVar 2) aNil)))) aNil)) aNil))))))))
abbrev s_cut : Stmt := top 23
abbrev N_cut : List Str := ["tree", "way", "many", "below", "place"]
theorem sc_cut : FnScope N_cut ["tree", "way", "many"] (defScope s_cut) := ⟨rfl, rfl, rfl, by decide +kernel, rfl, by decide +kernel, by decide +kernel⟩
abbrev gb_cut_1 (S : Nat → List PyData → R PyData) : Vars → Out :=
  (sSet [] 3 (eOp gIx (eVar 3) (eVar 4)))
def g_cut (S : Nat → List PyData → R PyData) : Vars → Out :=
  (sSeq (sIf (tNotR (tTru (eFn (S 9) (aCons (eVar 0) (aCons (eVar 1) aNil))))) (sRaise "NoHead") sNil)
    (sSeq (sIf (tNotR (tTru (eFn (S 0) (aCons (eVar 2) aNil)))) (sRaise "NoNumber") sNil)
    (sSeq (sIf (tOf (eOp gEq (eCall gLen (aCons (eVar 1) aNil)) (eC (.int 1)))) (sRet (eFn (S 10) (aCons (eVar 0) (aCons (eOp gIx (eVar 1) (eC (.int 0))) (aCons (eTup aNil) aNil))))) sNil)
    (sSeq (sSet [] 3 (eVar 0))
    (sSeq (sFor [] (iSeq (eSl (eVar 1) oNone (oSome (eNeg (eC (.int 1)))))) (gtName 4) (gb_cut_1 S))
    (sSeq (sIf (tOf (eOp gGt (eOp gAdd (eOp gSub (eFn (S 6) (aCons (eVar 0) aNil)) (eC (.int 1))) (eOp gMul (eVar 2) (eOp gSub (eFn (S 6) (aCons (eVar 3) aNil)) (eC (.int 1))))) (eC (.int 600)))) (sRaise "TooGreat") sNil)
    (sRet (eFn (S 11) (aCons (eVar 0) (aCons (eVar 1) (aCons (eVar 2) aNil)))))))))))
abbrev s_least_place : Stmt := top 25
abbrev N_least_place : List Str := ["tree", "best", "least", "at", "here"]
theorem sc_least_place : FnScope N_least_place ["tree"] (defScope s_least_place) := ⟨rfl, rfl, rfl, by decide +kernel, rfl, by decide +kernel, by decide +kernel⟩
abbrev gb_least_place_1 (S : Nat → List PyData → R PyData) : Vars → Out :=
  (sSeq (sSet [] 4 (eFn (S 8) (aCons (eOp gIx (eVar 0) (eVar 3)) aNil))) (sIf (tOf (eOp gLe (eFn (S 1) (aCons (eVar 4) (aCons (eVar 2) aNil))) (eC (.int 0)))) (sSeq (sSet [] 1 (eVar 3)) (sSet [] 2 (eVar 4))) sNil))
def g_least_place (S : Nat → List PyData → R PyData) : Vars → Out :=
  (sSeq (sSet [] 1 (eC (.int 0)))
    (sSeq (sSet [] 2 (eFn (S 8) (aCons (eOp gIx (eVar 0) (eC (.int 0))) aNil)))
    (sSeq (sFor [] (iRange (aCons (eC (.int 1)) (aCons (eCall gLen (aCons (eVar 0) aNil)) aNil))) (gtName 3) (gb_least_place_1 S))
    (sRet (eVar 1)))))
abbrev s_least_head : Stmt := top 26
abbrev N_least_head : List Str := ["tree", "way", "at"]
theorem sc_least_head : FnScope N_least_head ["tree"] (defScope s_least_head) := ⟨rfl, rfl, rfl, by decide +kernel, rfl, by decide +kernel, by decide +kernel⟩
abbrev gb_least_head_1 (S : Nat → List PyData → R PyData) : Vars → Out :=
  (sSeq (sSet [] 2 (eFn (S 13) (aCons (eVar 0) aNil))) (sSeq (sSet [] 1 (eOp gAdd (eVar 1) (eTup (aCons (eVar 2) aNil)))) (sSet [] 0 (eOp gIx (eVar 0) (eVar 2)))))
def g_least_head (S : Nat → List PyData → R PyData) : Vars → Out :=
  (sSeq (sIf (tOf (eOp gEq (eCall gLen (aCons (eVar 0) aNil)) (eC (.int 0)))) (sRaise "Nought") sNil)
    (sSeq (sSet [] 1 (eTup aNil))
    (sSeq (whileL (tOf (eOp gGt (eCall gLen (aCons (eVar 0) aNil)) (eC (.int 0)))) (gb_least_head_1 S) wfuel)
    (sRet (eVar 1)))))
abbrev s_once_less : Stmt := top 30
abbrev N_once_less : List Str := ["a", "exponent", "many"]
theorem sc_once_less : FnScope N_once_less ["a"] (defScope s_once_less) := ⟨rfl, rfl, rfl, by decide +kernel, rfl, by decide +kernel, by decide +kernel⟩
def g_once_less (S : Nat → List PyData → R PyData) : Vars → Out :=
  (sSeq (sAsg [] (gtTup 2 (gtCons (gtName 1) (gtCons (gtName 2) gtNil))) (eOp gIx (eVar 0) (eNeg (eC (.int 1)))))
    (sSeq (sIf (tOf (eOp gEq (eVar 2) (eC (.int 1)))) (sRet (eSl (eVar 0) oNone (oSome (eNeg (eC (.int 1)))))) sNil)
    (sRet (eOp gAdd (eSl (eVar 0) oNone (oSome (eNeg (eC (.int 1))))) (eTup (aCons (eTup (aCons (eVar 1) (aCons (eOp gSub (eVar 2) (eC (.int 1))) aNil))) aNil))))))
abbrev s_climbed : Stmt := top 31
abbrev N_climbed : List Str := ["a", "n", "low", "exponent"]
theorem sc_climbed : FnScope N_climbed ["a", "n"] (defScope s_climbed) := ⟨rfl, rfl, rfl, by decide +kernel, rfl, by decide +kernel, by decide +kernel⟩
def g_climbed (S : Nat → List PyData → R PyData) : Vars → Out :=
  (sSeq (sSet [] 2 (eFn (S 15) (aCons (eVar 0) aNil)))
    (sSeq (sSet [] 3 (eOp gIx (eOp gIx (eVar 0) (eNeg (eC (.int 1)))) (eC (.int 0))))
    (sSeq (sIf (tOf (eOp gEq (eVar 3) (eTup aNil))) (sRet (eVar 2)) sNil)
    (sSeq (sIf (tTru (eFn (S 4) (aCons (eVar 3) aNil))) (sRet (eOp gAdd (eVar 2) (eFn (fun ds => S 2 (ds ++ [.int 1])) (aCons (eFn (S 16) (aCons (eVar 3) (aCons (eVar 1) aNil))) aNil)))) sNil)
    (sRet (eOp gAdd (eVar 2) (eFn (S 2) (aCons (eFn (S 15) (aCons (eVar 3) aNil)) (aCons (eVar 1) aNil)))))))))
abbrev s_ladder : Stmt := top 32
abbrev N_ladder : List Str := ["a", "n"]
theorem sc_ladder : FnScope N_ladder ["a", "n"] (defScope s_ladder) := ⟨rfl, rfl, rfl, by decide +kernel, rfl, by decide +kernel, by decide +kernel⟩
def g_ladder (S : Nat → List PyData → R PyData) : Vars → Out :=
  (sSeq (sIf (tOf (eOp gEq (eVar 0) (eTup aNil))) (sRaise "Nought") sNil)
    (sSeq (sIf (tNotR (tTru (eFn (S 0) (aCons (eVar 1) aNil)))) (sRaise "NoNumber") sNil)
    (sRet (eFn (S 16) (aCons (eVar 0) (aCons (eVar 1) aNil))))))
abbrev s_l_points : Stmt := top 34
abbrev N_l_points : List Str := ["_law_tree_here", "_law_branch"]
theorem sc_l_points : FnScope N_l_points ["_law_tree_here"] (defScope s_l_points) := ⟨rfl, rfl, rfl, by decide +kernel, rfl, by decide +kernel, by decide +kernel⟩
def g_l_points (S : Nat → List PyData → R PyData) : Vars → Out :=
  (sRet (eOp gAdd (eC (.int 1)) (eCall gSum (aCons (eLc (iSeq (eVar 0)) (gtName 1) tYesD (eFn (S 18) (aCons (eVar 1) aNil)) [1]) aNil))))
abbrev s_l_tree : Stmt := top 35
abbrev N_l_tree : List Str := ["_law_cells", "_law_pool", "_law_cell", "_law_branches", "_law_k"]
theorem sc_l_tree : FnScope N_l_tree ["_law_cells"] (defScope s_l_tree) := ⟨rfl, rfl, rfl, by decide +kernel, rfl, by decide +kernel, by decide +kernel⟩
abbrev gb_l_tree_1 (S : Nat → List PyData → R PyData) : Vars → Out :=
  (sSeq (sSetLcI 3 (nLc (iRange (aCons (eOp gMod (eVar 2) (eC (.int 4))) aNil)) (gtName 4) tYesD (eOp gIx (eVar 1) (eOp gMod (eOp gDiv (eVar 2) (eOp gAdd (eC (.int 4)) (eOp gMul (eC (.int 5)) (eVar 4)))) (eCall gLen (aCons (eVar 1) aNil)))) [4])) (sIf (tOf (eOp gLe (eFn (S 18) (aCons (eVar 3) aNil)) (eC (.int 10)))) (sAppM [1] 1 (eCall gTuple (aCons (eVar 3) aNil))) sNil))
def g_l_tree (S : Nat → List PyData → R PyData) : Vars → Out :=
  (sSeq (sNew [1] 1 (nLst (aCons (eTup aNil) aNil)))
    (sSeq (sFor [1] (iSeq (eVar 0)) (gtName 2) (gb_l_tree_1 S))
    (sRet (eOp gIx (eVar 1) (eNeg (eC (.int 1)))))))
abbrev s_l_order : Stmt := top 36
abbrev N_l_order : List Str := ["_law_one", "_law_other", "_law_k", "_law_side"]
theorem sc_l_order : FnScope N_l_order ["_law_one", "_law_other"] (defScope s_l_order) := ⟨rfl, rfl, rfl, by decide +kernel, rfl, by decide +kernel, by decide +kernel⟩
abbrev gb_l_order_1 (S : Nat → List PyData → R PyData) : Vars → Out :=
  (sSeq (sSet [] 3 (eFn (S 20) (aCons (eOp gIx (eOp gIx (eVar 0) (eVar 2)) (eC (.int 0))) (aCons (eOp gIx (eOp gIx (eVar 1) (eVar 2)) (eC (.int 0))) aNil)))) (sSeq (sIf (tOf (eOp gNe (eVar 3) (eC (.int 0)))) (sRet (eVar 3)) sNil) (sIf (tOf (eOp gNe (eOp gIx (eOp gIx (eVar 0) (eVar 2)) (eC (.int 1))) (eOp gIx (eOp gIx (eVar 1) (eVar 2)) (eC (.int 1))))) (sRet (eOp gSub (eCall gIntC (aCons (eOp gGt (eOp gIx (eOp gIx (eVar 0) (eVar 2)) (eC (.int 1))) (eOp gIx (eOp gIx (eVar 1) (eVar 2)) (eC (.int 1)))) aNil)) (eCall gIntC (aCons (eOp gLt (eOp gIx (eOp gIx (eVar 0) (eVar 2)) (eC (.int 1))) (eOp gIx (eOp gIx (eVar 1) (eVar 2)) (eC (.int 1)))) aNil)))) sNil)))
def g_l_order (S : Nat → List PyData → R PyData) : Vars → Out :=
  (sSeq (sFor [] (iRange (aCons (eCall gMin2 (aCons (eCall gLen (aCons (eVar 0) aNil)) (aCons (eCall gLen (aCons (eVar 1) aNil)) aNil))) aNil)) (gtName 2) (gb_l_order_1 S))
    (sRet (eOp gSub (eCall gIntC (aCons (eOp gGt (eCall gLen (aCons (eVar 0) aNil)) (eCall gLen (aCons (eVar 1) aNil))) aNil)) (eCall gIntC (aCons (eOp gLt (eCall gLen (aCons (eVar 0) aNil)) (eCall gLen (aCons (eVar 1) aNil))) aNil)))))
abbrev s_l_put : Stmt := top 37
abbrev N_l_put : List Str := ["_law_parts", "_law_exponent", "_law_k", "_law_side"]
theorem sc_l_put : FnScope N_l_put ["_law_parts", "_law_exponent"] (defScope s_l_put) := ⟨rfl, rfl, rfl, by decide +kernel, rfl, by decide +kernel, by decide +kernel⟩
abbrev gb_l_put_1 (S : Nat → List PyData → R PyData) : Vars → Out :=
  (sSeq (sSet [] 3 (eFn (S 20) (aCons (eOp gIx (eOp gIx (eVar 0) (eVar 2)) (eC (.int 0))) (aCons (eVar 1) aNil)))) (sSeq (sIf (tOf (eOp gEq (eVar 3) (eC (.int 0)))) (sRet (eOp gAdd (eOp gAdd (eSl (eVar 0) oNone (oSome (eVar 2))) (eTup (aCons (eTup (aCons (eVar 1) (aCons (eOp gAdd (eOp gIx (eOp gIx (eVar 0) (eVar 2)) (eC (.int 1))) (eC (.int 1))) aNil))) aNil))) (eSl (eVar 0) (oSome (eOp gAdd (eVar 2) (eC (.int 1)))) oNone))) sNil) (sIf (tOf (eOp gEq (eVar 3) (eNeg (eC (.int 1))))) (sRet (eOp gAdd (eOp gAdd (eSl (eVar 0) oNone (oSome (eVar 2))) (eTup (aCons (eTup (aCons (eVar 1) (aCons (eC (.int 1)) aNil))) aNil))) (eSl (eVar 0) (oSome (eVar 2)) oNone))) sNil)))
def g_l_put (S : Nat → List PyData → R PyData) : Vars → Out :=
  (sSeq (sFor [] (iRange (aCons (eCall gLen (aCons (eVar 0) aNil)) aNil)) (gtName 2) (gb_l_put_1 S))
    (sRet (eOp gAdd (eVar 0) (eTup (aCons (eTup (aCons (eVar 1) (aCons (eC (.int 1)) aNil))) aNil)))))
abbrev s_l_number : Stmt := top 38
abbrev N_l_number : List Str := ["_law_tree_here", "_law_parts", "_law_branch"]
theorem sc_l_number : FnScope N_l_number ["_law_tree_here"] (defScope s_l_number) := ⟨rfl, rfl, rfl, by decide +kernel, rfl, by decide +kernel, by decide +kernel⟩
abbrev gb_l_number_1 (S : Nat → List PyData → R PyData) : Vars → Out :=
  (sSet [] 1 (eFn (S 21) (aCons (eVar 1) (aCons (eFn (S 22) (aCons (eVar 2) aNil)) aNil))))
def g_l_number (S : Nat → List PyData → R PyData) : Vars → Out :=
  (sSeq (sSet [] 1 (eTup aNil))
    (sSeq (sFor [] (iSeq (eVar 0)) (gtName 2) (gb_l_number_1 S))
    (sRet (eVar 1))))
abbrev s_l_many : Stmt := top 39
abbrev N_l_many : List Str := ["_law_cell", "_law_size"]
theorem sc_l_many : FnScope N_l_many ["_law_cell", "_law_size"] (defScope s_l_many) := ⟨rfl, rfl, rfl, by decide +kernel, rfl, by decide +kernel, by decide +kernel⟩
def g_l_many (S : Nat → List PyData → R PyData) : Vars → Out :=
  (sSeq (sIf (tOf (eOp gGt (eVar 1) (eC (.int 12)))) (sRet (eC (.int 0))) sNil)
    (sSeq (sIf (tAndR (tOf (eOp gLe (eVar 1) (eC (.int 4)))) (tOf (eOp gEq (eOp gMod (eVar 0) (eC (.int 4))) (eC (.int 0))))) (sRet (eOp gMod (eOp gDiv (eVar 0) (eC (.int 4))) (eC (.int 21)))) sNil)
    (sRet (eOp gMod (eOp gDiv (eVar 0) (eC (.int 4))) (eC (.int 3))))))
abbrev s_l_cut : Stmt := top 40
abbrev N_l_cut : List Str := ["_law_play", "_law_numbers", "_law_way", "_law_many_here", "_law_told"]
theorem sc_l_cut : FnScope N_l_cut ["_law_play", "_law_numbers", "_law_way", "_law_many_here"] (defScope s_l_cut) := ⟨rfl, rfl, rfl, by decide +kernel, rfl, by decide +kernel, by decide +kernel⟩
def g_l_cut (S : Nat → List PyData → R PyData) : Vars → Out :=
  (sSeq (soSet 4 (oMethS "cut" [("Play", S 29)] 0 [] (aM [0, 1, 1000, 1001] (eVar 2) (aM [0, 1, 1000, 1001] (eVar 3) aNil))))
    (sSeq (sIf (tOrR (tOf (eOp gNe (eVar 4) (eFn (S 22) (aCons (eMeth "tree" [("Play", S 28)] (eVar 0) aNil) aNil)))) (tOf (eOp gNe (eFn (S 20) (aCons (eVar 4) (aCons (eOp gIx (eVar 1) (eNeg (eC (.int 1)))) aNil))) (eNeg (eC (.int 1)))))) (sRetP [0, 1] [0, 1, 1000, 1001] (eC (.bool false))) sNil)
    (sSeq (sAppM [0, 1, 1000, 1001] 1 (eVar 4))
    (sRetP [0, 1] [0, 1, 1000, 1001] (eC (.bool true))))))
abbrev s_l_least : Stmt := top 41
abbrev N_l_least : List Str := ["_law_play", "_law_numbers", "_law_many_here", "_law_due"]
theorem sc_l_least : FnScope N_l_least ["_law_play", "_law_numbers", "_law_many_here"] (defScope s_l_least) := ⟨rfl, rfl, rfl, by decide +kernel, rfl, by decide +kernel, by decide +kernel⟩
def g_l_least (S : Nat → List PyData → R PyData) : Vars → Out :=
  (sSeq (sSet [0, 1, 1000, 1001] 3 (eFn (S 17) (aCons (eOp gIx (eVar 1) (eNeg (eC (.int 1)))) (aCons (eOp gAdd (eVar 2) (eC (.int 1))) aNil))))
    (soRetP [0, 1] (oAnd (oCallP (S 24) [0, 1] (aL 0 (aL 1 (aI (eFn (S 14) (aCons (eMeth "tree" [("Play", S 28)] (eVar 0) aNil) aNil)) (aM [0, 1, 1000, 1001] (eVar 2) aNil))))) (oI (eOp gEq (eOp gIx (eVar 1) (eNeg (eC (.int 1)))) (eVar 3))))))
abbrev s_l_turn : Stmt := top 42
abbrev N_l_turn : List Str := ["_law_play", "_law_numbers", "_law_cell", "_law_tree_here", "_law_many_here", "_law_ways", "_law_good"]
theorem sc_l_turn : FnScope N_l_turn ["_law_play", "_law_numbers", "_law_cell"] (defScope s_l_turn) := ⟨rfl, rfl, rfl, by decide +kernel, rfl, by decide +kernel, by decide +kernel⟩
def g_l_turn (S : Nat → List PyData → R PyData) : Vars → Out :=
  (sSeq (sSet [0, 1, 1000, 1001] 3 (eMeth "tree" [("Play", S 28)] (eVar 0) aNil))
    (sSeq (sSetM [0, 1, 1000, 1001] 4 (eFn (S 23) (aCons (eOp gDiv (eVar 2) (eC (.int 21))) (aCons (eFn (S 18) (aCons (eVar 3) aNil)) aNil))))
    (sSeq (sSetM [0, 1, 1000, 1001] 5 (eFn (S 7) (aCons (eVar 3) aNil)))
    (sSeq (sIf (tOf (eOp gEq (eOp gMod (eVar 2) (eC (.int 3))) (eC (.int 0)))) (soSet 6 (oCallP (S 25) [0, 1] (aL 0 (aL 1 (aM [0, 1, 1000, 1001] (eVar 4) aNil))))) (soSet 6 (oCallP (S 24) [0, 1] (aL 0 (aL 1 (aM [0, 1, 1000, 1001] (eOp gIx (eVar 5) (eOp gMod (eOp gDiv (eVar 2) (eC (.int 21))) (eCall gLen (aCons (eVar 5) aNil)))) (aM [0, 1, 1000, 1001] (eVar 4) aNil)))))))
    (sSeq (sIf (tAndR (tTru (eVar 6)) (tOf (eOp gEq (eOp gMod (eVar 2) (eC (.int 7))) (eC (.int 5))))) (sSeq (sPopL 1) (soSet 6 (oAnd (oOp gEq (oMethS "back" [("Play", S 30)] 0 [] aNil) (oI (eOp gIx (eVar 1) (eNeg (eC (.int 1)))))) (oI (eOp gEq (eMeth "tree" [("Play", S 28)] (eVar 0) aNil) (eVar 3)))))) sNil)
    (sRetP [0, 1] [0, 1, 1000, 1001] (eVar 6)))))))
abbrev s_Play_init : Stmt := inClass (top 28) 0
abbrev N_Play_init : List Str := ["self", "tree"]
theorem sc_Play_init : FnScope N_Play_init ["self", "tree"] (defScope s_Play_init) := ⟨rfl, rfl, rfl, by decide +kernel, rfl, by decide +kernel, by decide +kernel⟩
def g_Play_init (S : Nat → List PyData → R PyData) : Vars → R PyData :=
  (ioFld (eNl (nLst (aCons (eVar 1) aNil))))
abbrev s_Play_tree : Stmt := inClass (top 28) 1
abbrev N_Play_tree : List Str := ["self"]
theorem sc_Play_tree : FnScope N_Play_tree ["self"] (defScope s_Play_tree) := ⟨rfl, rfl, rfl, by decide +kernel, rfl, by decide +kernel, by decide +kernel⟩
def g_Play_tree (S : Nat → List PyData → R PyData) : Vars → Out :=
  (sRet (eOp gIx (eFld "trees" cls_all (eVar 0)) (eNeg (eC (.int 1)))))
abbrev s_Play_cut : Stmt := inClass (top 28) 2
abbrev N_Play_cut : List Str := ["self", "way", "many", "behind"]
theorem sc_Play_cut : FnScope N_Play_cut ["self", "way", "many"] (defScope s_Play_cut) := ⟨rfl, rfl, rfl, by decide +kernel, rfl, by decide +kernel, by decide +kernel⟩
def g_Play_cut (S : Nat → List PyData → R PyData) : Vars → Out :=
  (sSeq (sSet [0, 1000] 3 (eFn (S 12) (aCons (eOp gIx (eFld "trees" cls_all (eVar 0)) (eNeg (eC (.int 1)))) (aCons (eVar 1) (aCons (eVar 2) aNil)))))
    (sSeq (sFApp 0 "trees" cls_all (eVar 3))
    (sRetP [0] [0, 1000] (eFn (S 8) (aCons (eVar 3) aNil)))))
abbrev s_Play_back : Stmt := inClass (top 28) 3
abbrev N_Play_back : List Str := ["self"]
theorem sc_Play_back : FnScope N_Play_back ["self"] (defScope s_Play_back) := ⟨rfl, rfl, rfl, by decide +kernel, rfl, by decide +kernel, by decide +kernel⟩
def g_Play_back (S : Nat → List PyData → R PyData) : Vars → Out :=
  (sSeq (sIf (tOf (eOp gEq (eCall gLen (aCons (eFld "trees" cls_all (eVar 0)) aNil)) (eC (.int 1)))) (sRaise "NoStep") sNil)
    (sSeq (sFPop 0 "trees" cls_all)
    (sRetPi [0] (eFn (S 8) (aCons (eOp gIx (eFld "trees" cls_all (eVar 0)) (eNeg (eC (.int 1)))) aNil)))))
abbrev s_Play_numbers : Stmt := inClass (top 28) 4
abbrev N_Play_numbers : List Str := ["self", "tree"]
theorem sc_Play_numbers : FnScope N_Play_numbers ["self"] (defScope s_Play_numbers) := ⟨rfl, rfl, rfl, by decide +kernel, rfl, by decide +kernel, by decide +kernel⟩
def g_Play_numbers (S : Nat → List PyData → R PyData) : Vars → Out :=
  (sRet (eLc (iSeq (eFld "trees" cls_all (eVar 0))) (gtName 1) tYesD (eFn (S 8) (aCons (eVar 1) aNil)) [1]))
abbrev s_law : Stmt := top 43
abbrev N_law : List Str := ["_law_script", "_law_tree_here", "_law_play", "_law_numbers", "_law_cell", "_law_k", "_law_size"]
theorem sc_law : FnScope N_law ["_law_script"] (defScope s_law) := ⟨rfl, rfl, rfl, by decide +kernel, rfl, by decide +kernel, by decide +kernel⟩
abbrev gb_law_1 (S : Nat → List PyData → R PyData) : Vars → Out :=
  (sSeq (sIf (tOf (eOp gEq (eMeth "tree" [("Play", S 28)] (eVar 2) aNil) (eTup aNil))) sBrk sNil) (soIf (qNot (qE (oCallP (S 26) [2, 3] (aL 2 (aL 3 (aM [2, 3] (eVar 4) aNil)))))) (sRet (eC (.bool false))) sNil))
def g_law (S : Nat → List PyData → R PyData) : Vars → Out :=
  (sSeq (sSetM [2, 3] 1 (eFn (S 19) (aCons (eSl (eVar 0) oNone (oSome (eC (.int 8)))) aNil)))
    (sSeq (sNewV [2, 3] 2 (vMake "Play" "trees" (S 27) (aCons (eVar 1) aNil)))
    (sSeq (sNew [2, 3] 3 (nLst (aCons (eFn (S 22) (aCons (eVar 1) aNil)) aNil)))
    (sSeq (sFor [2, 3] (iSeq (eSl (eVar 0) (oSome (eC (.int 8))) (oSome (eC (.int 32))))) (gtName 4) (gb_law_1 S))
    (sSeq (sForR (iRange (aCons (eOp gSub (eFn (S 18) (aCons (eMeth "tree" [("Play", S 28)] (eVar 2) aNil) aNil)) (eC (.int 1))) aNil)) (gtName 5) (sSeq (sSet [2, 3] 6 (eFn (S 18) (aCons (eMeth "tree" [("Play", S 28)] (eVar 2) aNil) aNil))) (soIf (qOr (qNot (qE (oCallP (S 25) [2, 3] (aL 2 (aL 3 (aM [2, 3] (eC (.int 0)) aNil)))))) (qT (tOf (eOp gNe (eFn (S 18) (aCons (eMeth "tree" [("Play", S 28)] (eVar 2) aNil) aNil)) (eOp gSub (eVar 6) (eC (.int 1))))))) (sRet (eC (.bool false))) sNil)))
    (sRet (eAnd (eOp gEq (eMeth "tree" [("Play", S 28)] (eVar 2) aNil) (eTup aNil)) (eAnd (eOp gEq (eOp gIx (eVar 3) (eNeg (eC (.int 1)))) (eTup aNil)) (eOp gEq (eMeth "numbers" [("Play", S 31)] (eVar 2) aNil) (eVar 3))))))))))
section
variable {P : Program} {w : World} {K : PySem.W.Frag} {mg : Str → Option Value} {base : Heap}
theorem b_is_whole {k : Nat} {S : Nat → List PyData → R PyData} {f : Addr} {cdv : Value} {A : Around} {outer : List Env} {s : Shared} {H : Hp} {E : XK} (hr1 : Room (k + 1) (A.deeper (envOfC "is_whole" (defScope s_is_whole) s.heap.objs.size f cdv))) (m_bool : mg "bool" = none) (m_int : mg "int" = none) (m_isinstance : mg "isinstance" = none) :
    BX (cxOf (L2.CX P w) P w K mg base N_is_whole "is_whole" (defScope s_is_whole) f cdv A outer s H E) E [] (defBody s_is_whole) (g_is_whole S) :=
  have hr := hr1.mono (Nat.le_succ k)
  (BX.of (own := []) (ssx_one (sx_ret (ex_and (ex_isi kit_int rfl m_isinstance rfl m_int (by decide +kernel) (ex_var 0)) (ex_and (ex_not (ex_isi kit_bool rfl m_isinstance rfl m_bool (by decide +kernel) (ex_var 0))) (ex_one (ex_cmp op_ge op2_cmp (ex_var 0) ex_int (nomark _))))))))
theorem b_compare {k : Nat} {S : Nat → List PyData → R PyData} {f : Addr} {cdv : Value} {A : Around} {outer : List Env} {s : Shared} {H : Hp} {E : XK} (hr1 : Room (k + 1) (A.deeper (envOfC "compare" (defScope s_compare) s.heap.objs.size f cdv))) (c_compare : Cal P w K mg base k "compare" 2 (S 1)) (m_len : mg "len" = none) (m_zip : mg "zip" = none) :
    BX (cxOf (L2.CX P w) P w K mg base N_compare "compare" (defScope s_compare) f cdv A outer s H E) E [] (defBody s_compare) (g_compare S) :=
  have hr := hr1.mono (Nat.le_succ k)
  (BX.cons (own := []) (own' := []) (sx_for passD rfl (ix_zip rfl m_zip (ax_cons (ex_var 0) (ax_cons (ex_var 1) ax_nil))) (gx_tup rfl (gsx_cons (gx_name (i := 2) sc_compare.nd rfl (by first | exact Or.inl rfl | exact Or.inr rfl)) (gsx_cons (gx_name (i := 3) sc_compare.nd rfl (by first | exact Or.inl rfl | exact Or.inr rfl)) gsx_nil))) (gtTup_in (gtCons_in (gtName_in 2) (gtCons_in (gtName_in 3) gtNil_in))) rfl (ssx_cons (sx_set (i := 4) sc_compare.nd rfl (by first | exact Or.inl rfl | exact Or.inr rfl) (ex_fn takesD c_compare hr rfl (ax_cons (ex_ix ix_seq op2_ix (ex_var 2) ex_int (fun _ _ => rfl)) (ax_cons (ex_ix ix_seq op2_ix (ex_var 3) ex_int (fun _ _ => rfl)) ax_nil)) rfl (hlen := aCons_len (aCons_len (fun _ _ h => aNil_len h)))) rfl) (ssx_cons (sx_if (tx_cmp (op_neX hr.un190) op2_ne (ex_var 4) ex_int (nomark _)) (ssx_one (sx_ret (ex_var 4))) ssx_nil) (ssx_one (sx_if (tx_cmp (op_neX hr.un190) op2_ne (ex_ix ix_seq op2_ix (ex_var 2) ex_int (fun _ _ => rfl)) (ex_ix ix_seq op2_ix (ex_var 3) ex_int (fun _ _ => rfl)) (nomark _)) (ssx_one (sx_ret (ex_if (tx_cmp op_gt op2_cmp (ex_ix ix_seq op2_ix (ex_var 2) ex_int (fun _ _ => rfl)) (ex_ix ix_seq op2_ix (ex_var 3) ex_int (fun _ _ => rfl)) (nomark _)) ex_int (ex_neg ex_int)))) ssx_nil)))))
    (BX.cons (own := []) (own' := []) (sx_if (tx_cmp (op_eqX hr.un190) op2_eq (ex_callB call_len calld_len rfl m_len (by decide +kernel) (ax_cons (ex_var 0) ax_nil)) (ex_callB call_len calld_len rfl m_len (by decide +kernel) (ax_cons (ex_var 1) ax_nil)) (nomark _)) (ssx_one (sx_ret ex_int)) ssx_nil)
    (BX.of (own := []) (ssx_one (sx_ret (ex_if (tx_cmp op_gt op2_cmp (ex_callB call_len calld_len rfl m_len (by decide +kernel) (ax_cons (ex_var 0) ax_nil)) (ex_callB call_len calld_len rfl m_len (by decide +kernel) (ax_cons (ex_var 1) ax_nil)) (nomark _)) ex_int (ex_neg ex_int))))) rfl) rfl)
theorem b_raised {k : Nat} {S : Nat → List PyData → R PyData} {f : Addr} {cdv : Value} {A : Around} {outer : List Env} {s : Shared} {H : Hp} {E : XK} (hr1 : Room (k + 1) (A.deeper (envOfC "raised" (defScope s_raised) s.heap.objs.size f cdv))) (c_is_whole : Cal P w K mg base k "is_whole" 1 (S 0)) (e_NoNumber : ErrF K mg "NoNumber") :
    BX (cxOf (L2.CX P w) P w K mg base N_raised "raised" (defScope s_raised) f cdv A outer s H E) E [] (defBody s_raised) (g_raised S) :=
  have hr := hr1.mono (Nat.le_succ k)
  (BX.cons (own := []) (own' := []) (sx_if (tx_not (tx_tru (ex_fn takesD c_is_whole hr rfl (ax_cons (ex_var 1) ax_nil) rfl (hlen := aCons_len (fun _ _ h => aNil_len h))))) (ssx_one (sx_raise rfl takesD e_NoNumber rfl)) ssx_nil)
    (BX.cons (own := []) (own' := []) (sx_if (tx_cmp (op_eqX hr.un190) op2_eq (ex_var 1) ex_int (nomark _)) (ssx_one (sx_ret (ex_tup ax_nil))) ssx_nil)
    (BX.of (own := []) (ssx_one (sx_ret (ex_tup (ax_cons (ex_tup (ax_cons (ex_var 0) (ax_cons (ex_var 1) ax_nil))) ax_nil))))) rfl) rfl)
theorem b_whole_part {k : Nat} {S : Nat → List PyData → R PyData} {f : Addr} {cdv : Value} {A : Around} {outer : List Env} {s : Shared} {H : Hp} {E : XK} (hr1 : Room (k + 1) (A.deeper (envOfC "whole_part" (defScope s_whole_part) s.heap.objs.size f cdv)))  :
    BX (cxOf (L2.CX P w) P w K mg base N_whole_part "whole_part" (defScope s_whole_part) f cdv A outer s H E) E [] (defBody s_whole_part) (g_whole_part S) :=
  have hr := hr1.mono (Nat.le_succ k)
  (BX.cons (own := []) (own' := []) (sx_if (WX'.tx (wx_or (tx_cmp (op_eqX hr.un190) op2_eq (ex_var 0) (ex_tup ax_nil) (nomark _)) (wx_or1 (tx_cmp (op_neX hr.un190) op2_ne (ex_ix ix_seq op2_ix (ex_ix ix_seq op2_ix (ex_var 0) (ex_neg ex_int) (fun _ _ => rfl)) ex_int (fun _ _ => rfl)) (ex_tup ax_nil) (nomark _))))) (ssx_one (sx_ret ex_int)) ssx_nil)
    (BX.of (own := []) (ssx_one (sx_ret (ex_ix ix_seq op2_ix (ex_ix ix_seq op2_ix (ex_var 0) (ex_neg ex_int) (fun _ _ => rfl)) ex_int (fun _ _ => rfl))))) rfl)
theorem b_is_limit {k : Nat} {S : Nat → List PyData → R PyData} {f : Addr} {cdv : Value} {A : Around} {outer : List Env} {s : Shared} {H : Hp} {E : XK} (hr1 : Room (k + 1) (A.deeper (envOfC "is_limit" (defScope s_is_limit) s.heap.objs.size f cdv))) (c_whole_part : Cal P w K mg base k "whole_part" 1 (S 3)) :
    BX (cxOf (L2.CX P w) P w K mg base N_is_limit "is_limit" (defScope s_is_limit) f cdv A outer s H E) E [] (defBody s_is_limit) (g_is_limit S) :=
  have hr := hr1.mono (Nat.le_succ k)
  (BX.of (own := []) (ssx_one (sx_ret (ex_and (ex_cmp (op_neX hr.un190) op2_ne (ex_var 0) (ex_tup ax_nil) (nomark _)) (ex_one (ex_cmp (op_eqX hr.un190) op2_eq (ex_fn takesD c_whole_part hr rfl (ax_cons (ex_var 0) ax_nil) rfl (hlen := aCons_len (fun _ _ h => aNil_len h))) ex_int (nomark _)))))))
theorem b_merged {k : Nat} {S : Nat → List PyData → R PyData} {f : Addr} {cdv : Value} {A : Around} {outer : List Env} {s : Shared} {H : Hp} {E : XK} (hr1 : Room (k + 1) (A.deeper (envOfC "merged" (defScope s_merged) s.heap.objs.size f cdv))) (c_compare : Cal P w K mg base k "compare" 2 (S 1)) (m_len : mg "len" = none) (m_tuple : mg "tuple" = none) :
    BX (cxOf (L2.CX P w) P w K mg base N_merged "merged" (defScope s_merged) f cdv A outer s H E) E [2] (defBody s_merged) (g_merged S) :=
  have hr := hr1.mono (Nat.le_succ k)
  (BX.cons (own := [2]) (own' := [2]) (sx_new (i := 2) sc_merged.nd rfl (by first | exact Or.inl rfl | exact Or.inr rfl) (nx_lst ax_nil) rfl)
    (BX.cons (own := [2]) (own' := [2]) (sx_setM (i := 3) sc_merged.nd rfl (by first | exact Or.inl rfl | exact Or.inr rfl) ex_int rfl)
    (BX.cons (own := [2]) (own' := [2]) (sx_setM (i := 4) sc_merged.nd rfl (by first | exact Or.inl rfl | exact Or.inr rfl) ex_int rfl)
    (BX.cons (own := [2]) (own' := []) (sx_while wfuel passD (WX'.tx (wx_and (tx_cmp op_lt op2_cmp (ex_var 3) (ex_callB call_len calld_len rfl m_len (by decide +kernel) (ax_cons (ex_var 0) ax_nil)) (nomark _)) (wx_and1 (tx_cmp op_lt op2_cmp (ex_var 4) (ex_callB call_len calld_len rfl m_len (by decide +kernel) (ax_cons (ex_var 1) ax_nil)) (nomark _))))) (ssx_cons (sx_setM (i := 5) sc_merged.nd rfl (by first | exact Or.inl rfl | exact Or.inr rfl) (ex_fn takesD c_compare hr rfl (ax_cons (ex_ix ix_seq op2_ix (ex_ix ix_seq op2_ix (ex_var 0) (ex_var 3) (fun _ _ => rfl)) ex_int (fun _ _ => rfl)) (ax_cons (ex_ix ix_seq op2_ix (ex_ix ix_seq op2_ix (ex_var 1) (ex_var 4) (fun _ _ => rfl)) ex_int (fun _ _ => rfl)) ax_nil)) rfl (hlen := aCons_len (aCons_len (fun _ _ h => aNil_len h)))) rfl) (ssx_one (sx_if (tx_cmp (op_eqX hr.un190) op2_eq (ex_var 5) ex_int (nomark _)) (ssx_cons (sx_appM (i := 2) (ex_ix ix_seq op2_ix (ex_var 0) (ex_var 3) (fun _ _ => rfl)) rfl) (ssx_one (sx_aug (i := 3) sc_merged.nd rfl (by first | exact Or.inl rfl | exact Or.inr rfl) ipx_addI ex_int rfl))) (ssx_one (sx_if (tx_cmp (op_eqX hr.un190) op2_eq (ex_var 5) (ex_neg ex_int) (nomark _)) (ssx_cons (sx_appM (i := 2) (ex_ix ix_seq op2_ix (ex_var 1) (ex_var 4) (fun _ _ => rfl)) rfl) (ssx_one (sx_aug (i := 4) sc_merged.nd rfl (by first | exact Or.inl rfl | exact Or.inr rfl) ipx_addI ex_int rfl))) (ssx_cons (sx_appM (i := 2) (ex_tup (ax_cons (ex_ix ix_seq op2_ix (ex_ix ix_seq op2_ix (ex_var 0) (ex_var 3) (fun _ _ => rfl)) ex_int (fun _ _ => rfl)) (ax_cons (ex_op opr_add op2_add (ex_ix ix_seq op2_ix (ex_ix ix_seq op2_ix (ex_var 0) (ex_var 3) (fun _ _ => rfl)) ex_int (fun _ _ => rfl)) (ex_ix ix_seq op2_ix (ex_ix ix_seq op2_ix (ex_var 1) (ex_var 4) (fun _ _ => rfl)) ex_int (fun _ _ => rfl))) ax_nil))) rfl) (ssx_cons (sx_aug (i := 3) sc_merged.nd rfl (by first | exact Or.inl rfl | exact Or.inr rfl) ipx_addI ex_int rfl) (ssx_one (sx_aug (i := 4) sc_merged.nd rfl (by first | exact Or.inl rfl | exact Or.inr rfl) ipx_addI ex_int rfl))))))))))
    (BX.of (own := []) (ssx_one (sx_ret (ex_op opr_add op2_add (ex_op opr_add op2_add (ex_callT call_tuple_of calld_tuple rfl m_tuple (by decide +kernel) (ax_cons (ex_var 2) ax_nil)) (ex_slice (ex_var 0) (ox_some (ex_var 3)) ox_none)) (ex_slice (ex_var 1) (ox_some (ex_var 4)) ox_none))))) rfl) rfl) rfl) rfl)
theorem b_points {k : Nat} {S : Nat → List PyData → R PyData} {f : Addr} {cdv : Value} {A : Around} {outer : List Env} {s : Shared} {H : Hp} {E : XK} (hr1 : Room (k + 1) (A.deeper (envOfC "points" (defScope s_points) s.heap.objs.size f cdv))) (c_points : Cal P w K mg base k "points" 1 (S 6)) :
    BX (cxOf (L2.CX P w) P w K mg base N_points "points" (defScope s_points) f cdv A outer s H E) E [] (defBody s_points) (g_points S) :=
  have hr := hr1.mono (Nat.le_succ k)
  (BX.cons (own := []) (own' := []) (sx_set (i := 1) sc_points.nd rfl (by first | exact Or.inl rfl | exact Or.inr rfl) ex_int rfl)
    (BX.cons (own := []) (own' := []) (sx_for passD rfl (ix_seq (ex_var 0)) (gx_name (i := 2) sc_points.nd rfl (by first | exact Or.inl rfl | exact Or.inr rfl)) (gtName_in 2) rfl (ssx_one (sx_aug (i := 1) sc_points.nd rfl (by first | exact Or.inl rfl | exact Or.inr rfl) ipx_addI (ex_fn takesD c_points hr rfl (ax_cons (ex_var 2) ax_nil) rfl (hlen := aCons_len (fun _ _ h => aNil_len h))) rfl)))
    (BX.of (own := []) (ssx_one (sx_ret (ex_var 1)))) rfl) rfl)
theorem b_heads {k : Nat} {S : Nat → List PyData → R PyData} {f : Addr} {cdv : Value} {A : Around} {outer : List Env} {s : Shared} {H : Hp} {E : XK} (hr1 : Room (k + 1) (A.deeper (envOfC "heads" (defScope s_heads) s.heap.objs.size f cdv))) (c_heads : Cal P w K mg base k "heads" 1 (S 7)) (m_enumerate : mg "enumerate" = none) (m_len : mg "len" = none) :
    BX (cxOf (L2.CX P w) P w K mg base N_heads "heads" (defScope s_heads) f cdv A outer s H E) E [1] (defBody s_heads) (g_heads S) :=
  have hr := hr1.mono (Nat.le_succ k)
  (BX.cons (own := [1]) (own' := [1]) (sx_new (i := 1) sc_heads.nd rfl (by first | exact Or.inl rfl | exact Or.inr rfl) (nx_lst ax_nil) rfl)
    (BX.cons (own := [1]) (own' := []) (sx_for passD rfl (ix_enum rfl m_enumerate (ex_var 0)) (gx_tup rfl (gsx_cons (gx_name (i := 2) sc_heads.nd rfl (by first | exact Or.inl rfl | exact Or.inr rfl)) (gsx_cons (gx_name (i := 3) sc_heads.nd rfl (by first | exact Or.inl rfl | exact Or.inr rfl)) gsx_nil))) (gtTup_in (gtCons_in (gtName_in 2) (gtCons_in (gtName_in 3) gtNil_in))) rfl (ssx_cons (sx_if (tx_cmp (op_eqX hr.un190) op2_eq (ex_callB call_len calld_len rfl m_len (by decide +kernel) (ax_cons (ex_var 3) ax_nil)) ex_int (nomark _)) (ssx_one (sx_appM (i := 1) (ex_tup (ax_cons (ex_var 2) ax_nil)) rfl)) ssx_nil) (ssx_one (sx_for passD rfl (ix_seq (ex_fn takesD c_heads hr rfl (ax_cons (ex_var 3) ax_nil) rfl (hlen := aCons_len (fun _ _ h => aNil_len h)))) (gx_name (i := 4) sc_heads.nd rfl (by first | exact Or.inl rfl | exact Or.inr rfl)) (gtName_in 4) rfl (ssx_one (sx_appM (i := 1) (ex_op opr_add op2_add (ex_tup (ax_cons (ex_var 2) ax_nil)) (ex_var 4)) rfl))))))
    (BX.of (own := []) (ssx_one (sx_ret (ex_var 1)))) rfl) rfl)
theorem b_number_of {k : Nat} {S : Nat → List PyData → R PyData} {f : Addr} {cdv : Value} {A : Around} {outer : List Env} {s : Shared} {H : Hp} {E : XK} (hr1 : Room (k + 1) (A.deeper (envOfC "number_of" (defScope s_number_of) s.heap.objs.size f cdv))) (c_merged : Cal P w K mg base k "merged" 2 (S 5)) (c_number_of : Cal P w K mg base k "number_of" 1 (S 8)) (c1_raised : CalX P w K mg base k "raised" 1 1 (S 2)) :
    BX (cxOf (L2.CX P w) P w K mg base N_number_of "number_of" (defScope s_number_of) f cdv A outer s H E) E [] (defBody s_number_of) (g_number_of S) :=
  have hr := hr1.mono (Nat.le_succ k)
  (BX.cons (own := []) (own' := []) (sx_set (i := 1) sc_number_of.nd rfl (by first | exact Or.inl rfl | exact Or.inr rfl) (ex_tup ax_nil) rfl)
    (BX.cons (own := []) (own' := []) (sx_for passD rfl (ix_seq (ex_var 0)) (gx_name (i := 2) sc_number_of.nd rfl (by first | exact Or.inl rfl | exact Or.inr rfl)) (gtName_in 2) rfl (ssx_one (sx_set (i := 1) sc_number_of.nd rfl (by first | exact Or.inl rfl | exact Or.inr rfl) (ex_fn takesD c_merged hr rfl (ax_cons (ex_var 1) (ax_cons (ex_fnX takesD c1_raised hr rfl (ax_cons (ex_fn takesD c_number_of hr rfl (ax_cons (ex_var 2) ax_nil) rfl (hlen := aCons_len (fun _ _ h => aNil_len h))) ax_nil) rfl (hlen := aCons_len (fun _ _ h => aNil_len h))) ax_nil)) rfl (hlen := aCons_len (aCons_len (fun _ _ h => aNil_len h)))) rfl)))
    (BX.of (own := []) (ssx_one (sx_ret (ex_var 1)))) rfl) rfl)
theorem b_is_head {k : Nat} {S : Nat → List PyData → R PyData} {f : Addr} {cdv : Value} {A : Around} {outer : List Env} {s : Shared} {H : Hp} {E : XK} (hr1 : Room (k + 1) (A.deeper (envOfC "is_head" (defScope s_is_head) s.heap.objs.size f cdv))) (c_is_whole : Cal P w K mg base k "is_whole" 1 (S 0)) (m_isinstance : mg "isinstance" = none) (m_len : mg "len" = none) (m_tuple : mg "tuple" = none) :
    BX (cxOf (L2.CX P w) P w K mg base N_is_head "is_head" (defScope s_is_head) f cdv A outer s H E) E [] (defBody s_is_head) (g_is_head S) :=
  have hr := hr1.mono (Nat.le_succ k)
  (BX.cons (own := []) (own' := []) (sx_if (WX'.tx (wx_or (tx_not (tx_tru (ex_isi kit_tuple rfl m_isinstance rfl m_tuple (by decide +kernel) (ex_var 1)))) (wx_or1 (tx_cmp (op_eqX hr.un190) op2_eq (ex_callB call_len calld_len rfl m_len (by decide +kernel) (ax_cons (ex_var 1) ax_nil)) ex_int (nomark _))))) (ssx_one (sx_ret ex_bl)) ssx_nil)
    (BX.cons (own := []) (own' := []) (sx_for passD rfl (ix_seq (ex_var 1)) (gx_name (i := 2) sc_is_head.nd rfl (by first | exact Or.inl rfl | exact Or.inr rfl)) (gtName_in 2) rfl (ssx_cons (sx_if (WX'.tx (wx_or (tx_not (tx_tru (ex_fn takesD c_is_whole hr rfl (ax_cons (ex_var 2) ax_nil) rfl (hlen := aCons_len (fun _ _ h => aNil_len h))))) (wx_or1 (tx_cmp op_ge op2_cmp (ex_var 2) (ex_callB call_len calld_len rfl m_len (by decide +kernel) (ax_cons (ex_var 0) ax_nil)) (nomark _))))) (ssx_one (sx_ret ex_bl)) ssx_nil) (ssx_one (sx_set (i := 0) sc_is_head.nd rfl (by first | exact Or.inl rfl | exact Or.inr rfl) (ex_ix ix_seq op2_ix (ex_var 0) (ex_var 2) (fun _ _ => rfl)) rfl))))
    (BX.of (own := []) (ssx_one (sx_ret (ex_cmp (op_eqX hr.un190) op2_eq (ex_callB call_len calld_len rfl m_len (by decide +kernel) (ax_cons (ex_var 0) ax_nil)) ex_int (nomark _))))) rfl) rfl)
theorem b_instead {k : Nat} {S : Nat → List PyData → R PyData} {f : Addr} {cdv : Value} {A : Around} {outer : List Env} {s : Shared} {H : Hp} {E : XK} (hr1 : Room (k + 1) (A.deeper (envOfC "instead" (defScope s_instead) s.heap.objs.size f cdv)))  :
    BX (cxOf (L2.CX P w) P w K mg base N_instead "instead" (defScope s_instead) f cdv A outer s H E) E [] (defBody s_instead) (g_instead S) :=
  have hr := hr1.mono (Nat.le_succ k)
  (BX.of (own := []) (ssx_one (sx_ret (ex_op opr_add op2_add (ex_op opr_add op2_add (ex_slice (ex_var 0) ox_none (ox_some (ex_var 1))) (ex_var 2)) (ex_slice (ex_var 0) (ox_some (ex_op opr_add op2_add (ex_var 1) ex_int)) ox_none)))))
theorem b_regrown {k : Nat} {S : Nat → List PyData → R PyData} {f : Addr} {cdv : Value} {A : Around} {outer : List Env} {s : Shared} {H : Hp} {E : XK} (hr1 : Room (k + 1) (A.deeper (envOfC "regrown" (defScope s_regrown) s.heap.objs.size f cdv))) (c_instead : Cal P w K mg base k "instead" 3 (S 10)) (c_regrown : Cal P w K mg base k "regrown" 3 (S 11)) (m_len : mg "len" = none) :
    BX (cxOf (L2.CX P w) P w K mg base N_regrown "regrown" (defScope s_regrown) f cdv A outer s H E) E [] (defBody s_regrown) (g_regrown S) :=
  have hr := hr1.mono (Nat.le_succ k)
  (BX.cons (own := []) (own' := []) (sx_set (i := 3) sc_regrown.nd rfl (by first | exact Or.inl rfl | exact Or.inr rfl) (ex_ix ix_seq op2_ix (ex_var 1) ex_int (fun _ _ => rfl)) rfl)
    (BX.cons (own := []) (own' := []) (sx_set (i := 4) sc_regrown.nd rfl (by first | exact Or.inl rfl | exact Or.inr rfl) (ex_ix ix_seq op2_ix (ex_var 0) (ex_var 3) (fun _ _ => rfl)) rfl)
    (BX.cons (own := []) (own' := []) (sx_if (tx_cmp (op_eqX hr.un190) op2_eq (ex_callB call_len calld_len rfl m_len (by decide +kernel) (ax_cons (ex_var 1) ax_nil)) ex_int (nomark _)) (ssx_cons (sx_set (i := 5) sc_regrown.nd rfl (by first | exact Or.inl rfl | exact Or.inr rfl) (ex_fn takesD c_instead hr rfl (ax_cons (ex_var 4) (ax_cons (ex_ix ix_seq op2_ix (ex_var 1) ex_int (fun _ _ => rfl)) (ax_cons (ex_tup ax_nil) ax_nil))) rfl (hlen := aCons_len (aCons_len (aCons_len (fun _ _ h => aNil_len h))))) rfl) (ssx_one (sx_ret (ex_fn takesD c_instead hr rfl (ax_cons (ex_var 0) (ax_cons (ex_var 3) (ax_cons (ex_op opr_rep op2_rep (ex_tup (ax_cons (ex_var 5) ax_nil)) (ex_op opr_add op2_add (ex_var 2) ex_int)) ax_nil))) rfl (hlen := aCons_len (aCons_len (aCons_len (fun _ _ h => aNil_len h)))))))) ssx_nil)
    (BX.of (own := []) (ssx_one (sx_ret (ex_fn takesD c_instead hr rfl (ax_cons (ex_var 0) (ax_cons (ex_var 3) (ax_cons (ex_tup (ax_cons (ex_fn takesD c_regrown hr rfl (ax_cons (ex_var 4) (ax_cons (ex_slice (ex_var 1) (ox_some ex_int) ox_none) (ax_cons (ex_var 2) ax_nil))) rfl (hlen := aCons_len (aCons_len (aCons_len (fun _ _ h => aNil_len h))))) ax_nil)) ax_nil))) rfl (hlen := aCons_len (aCons_len (aCons_len (fun _ _ h => aNil_len h)))))))) rfl) rfl) rfl)
theorem b_cut {k : Nat} {S : Nat → List PyData → R PyData} {f : Addr} {cdv : Value} {A : Around} {outer : List Env} {s : Shared} {H : Hp} {E : XK} (hr1 : Room (k + 1) (A.deeper (envOfC "cut" (defScope s_cut) s.heap.objs.size f cdv))) (c_instead : Cal P w K mg base k "instead" 3 (S 10)) (c_is_head : Cal P w K mg base k "is_head" 2 (S 9)) (c_is_whole : Cal P w K mg base k "is_whole" 1 (S 0)) (c_points : Cal P w K mg base k "points" 1 (S 6)) (c_regrown : Cal P w K mg base k "regrown" 3 (S 11)) (m_len : mg "len" = none) {t_MOST_POINTS : Tok} (k_MOST_POINTS : mg "MOST_POINTS" = some (.int 600 t_MOST_POINTS)) (e_NoHead : ErrF K mg "NoHead") (e_NoNumber : ErrF K mg "NoNumber") (e_TooGreat : ErrF K mg "TooGreat") :
    BX (cxOf (L2.CX P w) P w K mg base N_cut "cut" (defScope s_cut) f cdv A outer s H E) E [] (defBody s_cut) (g_cut S) :=
  have hr := hr1.mono (Nat.le_succ k)
  (BX.cons (own := []) (own' := []) (sx_if (tx_not (tx_tru (ex_fn takesD c_is_head hr rfl (ax_cons (ex_var 0) (ax_cons (ex_var 1) ax_nil)) rfl (hlen := aCons_len (aCons_len (fun _ _ h => aNil_len h)))))) (ssx_one (sx_raise rfl takesD e_NoHead rfl)) ssx_nil)
    (BX.cons (own := []) (own' := []) (sx_if (tx_not (tx_tru (ex_fn takesD c_is_whole hr rfl (ax_cons (ex_var 2) ax_nil) rfl (hlen := aCons_len (fun _ _ h => aNil_len h))))) (ssx_one (sx_raise rfl takesD e_NoNumber rfl)) ssx_nil)
    (BX.cons (own := []) (own' := []) (sx_if (tx_cmp (op_eqX hr.un190) op2_eq (ex_callB call_len calld_len rfl m_len (by decide +kernel) (ax_cons (ex_var 1) ax_nil)) ex_int (nomark _)) (ssx_one (sx_ret (ex_fn takesD c_instead hr rfl (ax_cons (ex_var 0) (ax_cons (ex_ix ix_seq op2_ix (ex_var 1) ex_int (fun _ _ => rfl)) (ax_cons (ex_tup ax_nil) ax_nil))) rfl (hlen := aCons_len (aCons_len (aCons_len (fun _ _ h => aNil_len h))))))) ssx_nil)
    (BX.cons (own := []) (own' := []) (sx_set (i := 3) sc_cut.nd rfl (by first | exact Or.inl rfl | exact Or.inr rfl) (ex_var 0) rfl)
    (BX.cons (own := []) (own' := []) (sx_for passD rfl (ix_seq (ex_slice (ex_var 1) ox_none (ox_some (ex_neg ex_int)))) (gx_name (i := 4) sc_cut.nd rfl (by first | exact Or.inl rfl | exact Or.inr rfl)) (gtName_in 4) rfl (ssx_one (sx_set (i := 3) sc_cut.nd rfl (by first | exact Or.inl rfl | exact Or.inr rfl) (ex_ix ix_seq op2_ix (ex_var 3) (ex_var 4) (fun _ _ => rfl)) rfl)))
    (BX.cons (own := []) (own' := []) (sx_if (tx_cmp op_gt op2_cmp (ex_op opr_add op2_add (ex_op opr_sub op2_sub (ex_fn takesD c_points hr rfl (ax_cons (ex_var 0) ax_nil) rfl (hlen := aCons_len (fun _ _ h => aNil_len h))) ex_int) (ex_op op_mulW op2_mul (ex_var 2) (ex_op opr_sub op2_sub (ex_fn takesD c_points hr rfl (ax_cons (ex_var 3) ax_nil) rfl (hlen := aCons_len (fun _ _ h => aNil_len h))) ex_int))) (ex_globI rfl k_MOST_POINTS) (nomark _)) (ssx_one (sx_raise rfl takesD e_TooGreat rfl)) ssx_nil)
    (BX.of (own := []) (ssx_one (sx_ret (ex_fn takesD c_regrown hr rfl (ax_cons (ex_var 0) (ax_cons (ex_var 1) (ax_cons (ex_var 2) ax_nil))) rfl (hlen := aCons_len (aCons_len (aCons_len (fun _ _ h => aNil_len h)))))))) rfl) rfl) rfl) rfl) rfl) rfl)
theorem b_least_place {k : Nat} {S : Nat → List PyData → R PyData} {f : Addr} {cdv : Value} {A : Around} {outer : List Env} {s : Shared} {H : Hp} {E : XK} (hr1 : Room (k + 1) (A.deeper (envOfC "least_place" (defScope s_least_place) s.heap.objs.size f cdv))) (c_compare : Cal P w K mg base k "compare" 2 (S 1)) (c_number_of : Cal P w K mg base k "number_of" 1 (S 8)) (m_len : mg "len" = none) (m_range : mg "range" = none) :
    BX (cxOf (L2.CX P w) P w K mg base N_least_place "least_place" (defScope s_least_place) f cdv A outer s H E) E [] (defBody s_least_place) (g_least_place S) :=
  have hr := hr1.mono (Nat.le_succ k)
  (BX.cons (own := []) (own' := []) (sx_set (i := 1) sc_least_place.nd rfl (by first | exact Or.inl rfl | exact Or.inr rfl) ex_int rfl)
    (BX.cons (own := []) (own' := []) (sx_set (i := 2) sc_least_place.nd rfl (by first | exact Or.inl rfl | exact Or.inr rfl) (ex_fn takesD c_number_of hr rfl (ax_cons (ex_ix ix_seq op2_ix (ex_var 0) ex_int (fun _ _ => rfl)) ax_nil) rfl (hlen := aCons_len (fun _ _ h => aNil_len h))) rfl)
    (BX.cons (own := []) (own' := []) (sx_for passD rfl (ix_range2 rfl m_range (ax_cons ex_int (ax_cons (ex_callB call_len calld_len rfl m_len (by decide +kernel) (ax_cons (ex_var 0) ax_nil)) ax_nil)) (hl := aCons_len (aCons_len (fun _ _ h => aNil_len h)))) (gx_name (i := 3) sc_least_place.nd rfl (by first | exact Or.inl rfl | exact Or.inr rfl)) (gtName_in 3) rfl (ssx_cons (sx_set (i := 4) sc_least_place.nd rfl (by first | exact Or.inl rfl | exact Or.inr rfl) (ex_fn takesD c_number_of hr rfl (ax_cons (ex_ix ix_seq op2_ix (ex_var 0) (ex_var 3) (fun _ _ => rfl)) ax_nil) rfl (hlen := aCons_len (fun _ _ h => aNil_len h))) rfl) (ssx_one (sx_if (tx_cmp op_le op2_cmp (ex_fn takesD c_compare hr rfl (ax_cons (ex_var 4) (ax_cons (ex_var 2) ax_nil)) rfl (hlen := aCons_len (aCons_len (fun _ _ h => aNil_len h)))) ex_int (nomark _)) (ssx_cons (sx_set (i := 1) sc_least_place.nd rfl (by first | exact Or.inl rfl | exact Or.inr rfl) (ex_var 3) rfl) (ssx_one (sx_set (i := 2) sc_least_place.nd rfl (by first | exact Or.inl rfl | exact Or.inr rfl) (ex_var 4) rfl))) ssx_nil))))
    (BX.of (own := []) (ssx_one (sx_ret (ex_var 1)))) rfl) rfl) rfl)
theorem b_least_head {k : Nat} {S : Nat → List PyData → R PyData} {f : Addr} {cdv : Value} {A : Around} {outer : List Env} {s : Shared} {H : Hp} {E : XK} (hr1 : Room (k + 1) (A.deeper (envOfC "least_head" (defScope s_least_head) s.heap.objs.size f cdv))) (c_least_place : Cal P w K mg base k "least_place" 1 (S 13)) (m_len : mg "len" = none) (e_Nought : ErrF K mg "Nought") :
    BX (cxOf (L2.CX P w) P w K mg base N_least_head "least_head" (defScope s_least_head) f cdv A outer s H E) E [] (defBody s_least_head) (g_least_head S) :=
  have hr := hr1.mono (Nat.le_succ k)
  (BX.cons (own := []) (own' := []) (sx_if (tx_cmp (op_eqX hr.un190) op2_eq (ex_callB call_len calld_len rfl m_len (by decide +kernel) (ax_cons (ex_var 0) ax_nil)) ex_int (nomark _)) (ssx_one (sx_raise rfl takesD e_Nought rfl)) ssx_nil)
    (BX.cons (own := []) (own' := []) (sx_set (i := 1) sc_least_head.nd rfl (by first | exact Or.inl rfl | exact Or.inr rfl) (ex_tup ax_nil) rfl)
    (BX.cons (own := []) (own' := []) (sx_while wfuel passD (tx_cmp op_gt op2_cmp (ex_callB call_len calld_len rfl m_len (by decide +kernel) (ax_cons (ex_var 0) ax_nil)) ex_int (nomark _)) (ssx_cons (sx_set (i := 2) sc_least_head.nd rfl (by first | exact Or.inl rfl | exact Or.inr rfl) (ex_fn takesD c_least_place hr rfl (ax_cons (ex_var 0) ax_nil) rfl (hlen := aCons_len (fun _ _ h => aNil_len h))) rfl) (ssx_cons (sx_set (i := 1) sc_least_head.nd rfl (by first | exact Or.inl rfl | exact Or.inr rfl) (ex_op opr_add op2_add (ex_var 1) (ex_tup (ax_cons (ex_var 2) ax_nil))) rfl) (ssx_one (sx_set (i := 0) sc_least_head.nd rfl (by first | exact Or.inl rfl | exact Or.inr rfl) (ex_ix ix_seq op2_ix (ex_var 0) (ex_var 2) (fun _ _ => rfl)) rfl)))))
    (BX.of (own := []) (ssx_one (sx_ret (ex_var 1)))) rfl) rfl) rfl)
theorem b_once_less {k : Nat} {S : Nat → List PyData → R PyData} {f : Addr} {cdv : Value} {A : Around} {outer : List Env} {s : Shared} {H : Hp} {E : XK} (hr1 : Room (k + 1) (A.deeper (envOfC "once_less" (defScope s_once_less) s.heap.objs.size f cdv)))  :
    BX (cxOf (L2.CX P w) P w K mg base N_once_less "once_less" (defScope s_once_less) f cdv A outer s H E) E [] (defBody s_once_less) (g_once_less S) :=
  have hr := hr1.mono (Nat.le_succ k)
  (BX.cons (own := []) (own' := []) (sx_asg (ex_ix ix_seq op2_ix (ex_var 0) (ex_neg ex_int) (fun _ _ => rfl)) (gx_tup rfl (gsx_cons (gx_name (i := 1) sc_once_less.nd rfl (by first | exact Or.inl rfl | exact Or.inr rfl)) (gsx_cons (gx_name (i := 2) sc_once_less.nd rfl (by first | exact Or.inl rfl | exact Or.inr rfl)) gsx_nil))) (gtTup_in (gtCons_in (gtName_in 1) (gtCons_in (gtName_in 2) gtNil_in))) rfl)
    (BX.cons (own := []) (own' := []) (sx_if (tx_cmp (op_eqX hr.un190) op2_eq (ex_var 2) ex_int (nomark _)) (ssx_one (sx_ret (ex_slice (ex_var 0) ox_none (ox_some (ex_neg ex_int))))) ssx_nil)
    (BX.of (own := []) (ssx_one (sx_ret (ex_op opr_add op2_add (ex_slice (ex_var 0) ox_none (ox_some (ex_neg ex_int))) (ex_tup (ax_cons (ex_tup (ax_cons (ex_var 1) (ax_cons (ex_op opr_sub op2_sub (ex_var 2) ex_int) ax_nil))) ax_nil)))))) rfl) rfl)
theorem b_climbed {k : Nat} {S : Nat → List PyData → R PyData} {f : Addr} {cdv : Value} {A : Around} {outer : List Env} {s : Shared} {H : Hp} {E : XK} (hr1 : Room (k + 1) (A.deeper (envOfC "climbed" (defScope s_climbed) s.heap.objs.size f cdv))) (c_climbed : Cal P w K mg base k "climbed" 2 (S 16)) (c_is_limit : Cal P w K mg base k "is_limit" 1 (S 4)) (c_once_less : Cal P w K mg base k "once_less" 1 (S 15)) (c1_raised : CalX P w K mg base k "raised" 1 1 (S 2)) (c_raised : Cal P w K mg base k "raised" 2 (S 2)) :
    BX (cxOf (L2.CX P w) P w K mg base N_climbed "climbed" (defScope s_climbed) f cdv A outer s H E) E [] (defBody s_climbed) (g_climbed S) :=
  have hr := hr1.mono (Nat.le_succ k)
  (BX.cons (own := []) (own' := []) (sx_set (i := 2) sc_climbed.nd rfl (by first | exact Or.inl rfl | exact Or.inr rfl) (ex_fn takesD c_once_less hr rfl (ax_cons (ex_var 0) ax_nil) rfl (hlen := aCons_len (fun _ _ h => aNil_len h))) rfl)
    (BX.cons (own := []) (own' := []) (sx_set (i := 3) sc_climbed.nd rfl (by first | exact Or.inl rfl | exact Or.inr rfl) (ex_ix ix_seq op2_ix (ex_ix ix_seq op2_ix (ex_var 0) (ex_neg ex_int) (fun _ _ => rfl)) ex_int (fun _ _ => rfl)) rfl)
    (BX.cons (own := []) (own' := []) (sx_if (tx_cmp (op_eqX hr.un190) op2_eq (ex_var 3) (ex_tup ax_nil) (nomark _)) (ssx_one (sx_ret (ex_var 2))) ssx_nil)
    (BX.cons (own := []) (own' := []) (sx_if (tx_tru (ex_fn takesD c_is_limit hr rfl (ax_cons (ex_var 3) ax_nil) rfl (hlen := aCons_len (fun _ _ h => aNil_len h)))) (ssx_one (sx_ret (ex_op opr_add op2_add (ex_var 2) (ex_fnX takesD c1_raised hr rfl (ax_cons (ex_fn takesD c_climbed hr rfl (ax_cons (ex_var 3) (ax_cons (ex_var 1) ax_nil)) rfl (hlen := aCons_len (aCons_len (fun _ _ h => aNil_len h)))) ax_nil) rfl (hlen := aCons_len (fun _ _ h => aNil_len h)))))) ssx_nil)
    (BX.of (own := []) (ssx_one (sx_ret (ex_op opr_add op2_add (ex_var 2) (ex_fn takesD c_raised hr rfl (ax_cons (ex_fn takesD c_once_less hr rfl (ax_cons (ex_var 3) ax_nil) rfl (hlen := aCons_len (fun _ _ h => aNil_len h))) (ax_cons (ex_var 1) ax_nil)) rfl (hlen := aCons_len (aCons_len (fun _ _ h => aNil_len h)))))))) rfl) rfl) rfl) rfl)
theorem b_ladder {k : Nat} {S : Nat → List PyData → R PyData} {f : Addr} {cdv : Value} {A : Around} {outer : List Env} {s : Shared} {H : Hp} {E : XK} (hr1 : Room (k + 1) (A.deeper (envOfC "ladder" (defScope s_ladder) s.heap.objs.size f cdv))) (c_climbed : Cal P w K mg base k "climbed" 2 (S 16)) (c_is_whole : Cal P w K mg base k "is_whole" 1 (S 0)) (e_NoNumber : ErrF K mg "NoNumber") (e_Nought : ErrF K mg "Nought") :
    BX (cxOf (L2.CX P w) P w K mg base N_ladder "ladder" (defScope s_ladder) f cdv A outer s H E) E [] (defBody s_ladder) (g_ladder S) :=
  have hr := hr1.mono (Nat.le_succ k)
  (BX.cons (own := []) (own' := []) (sx_if (tx_cmp (op_eqX hr.un190) op2_eq (ex_var 0) (ex_tup ax_nil) (nomark _)) (ssx_one (sx_raise rfl takesD e_Nought rfl)) ssx_nil)
    (BX.cons (own := []) (own' := []) (sx_if (tx_not (tx_tru (ex_fn takesD c_is_whole hr rfl (ax_cons (ex_var 1) ax_nil) rfl (hlen := aCons_len (fun _ _ h => aNil_len h))))) (ssx_one (sx_raise rfl takesD e_NoNumber rfl)) ssx_nil)
    (BX.of (own := []) (ssx_one (sx_ret (ex_fn takesD c_climbed hr rfl (ax_cons (ex_var 0) (ax_cons (ex_var 1) ax_nil)) rfl (hlen := aCons_len (aCons_len (fun _ _ h => aNil_len h))))))) rfl) rfl)
theorem b_l_points {k : Nat} {S : Nat → List PyData → R PyData} {f : Addr} {cdv : Value} {A : Around} {outer : List Env} {s : Shared} {H : Hp} {E : XK} (hr1 : Room (k + 1) (A.deeper (envOfC "_law_points" (defScope s_l_points) s.heap.objs.size f cdv))) (c_l_points : Cal P w K mg base k "_law_points" 1 (S 18)) (m_sum : mg "sum" = none) :
    BX (cxOf (L2.CX P w) P w K mg base N_l_points "_law_points" (defScope s_l_points) f cdv A outer s H E) E [] (defBody s_l_points) (g_l_points S) :=
  have hr := hr1.mono (Nat.le_succ k)
  (BX.of (own := []) (ssx_one (sx_ret (ex_op opr_add op2_add ex_int (ex_callB (cr_sum rfl) calld_sum rfl m_sum (by decide +kernel) (ax_cons (by exact ex_lc (own := [("_law_branch", 1)]) rfl sc_l_points.nd (ix_seq (ex_var 0)) (blkOk_by (N := N_l_points) (sc := defScope s_l_points) (own := [("_law_branch", 1)]) (by decide +kernel)) (by exact fun _ _ _ _ _ => (gx_name (i := 1) sc_l_points.nd rfl (by first | exact Or.inl rfl | exact Or.inr rfl))) (by exact fun _ _ _ _ _ => tsx_nil) (by exact fun _ _ _ _ _ => (ex_fn takes0 c_l_points hr rfl (ax_cons (ex_var 1) ax_nil) rfl (hlen := aCons_len (fun _ _ h => aNil_len h)))) (by decide)) ax_nil))))))
theorem b_l_tree {k : Nat} {S : Nat → List PyData → R PyData} {f : Addr} {cdv : Value} {A : Around} {outer : List Env} {s : Shared} {H : Hp} {E : XK} (hr1 : Room (k + 1) (A.deeper (envOfC "_law_tree" (defScope s_l_tree) s.heap.objs.size f cdv))) (c_l_points : Cal P w K mg base k "_law_points" 1 (S 18)) (m_len : mg "len" = none) (m_range : mg "range" = none) (m_tuple : mg "tuple" = none) :
    BX (cxOf (L2.CX P w) P w K mg base N_l_tree "_law_tree" (defScope s_l_tree) f cdv A outer s H E) E [1] (defBody s_l_tree) (g_l_tree S) :=
  have hr := hr1.mono (Nat.le_succ k)
  (BX.cons (own := [1]) (own' := [1]) (sx_new (i := 1) sc_l_tree.nd rfl (by first | exact Or.inl rfl | exact Or.inr rfl) (nx_lst (ax_cons (ex_tup ax_nil) ax_nil)) rfl)
    (BX.cons (own := [1]) (own' := []) (sx_for passD rfl (ix_seq (ex_var 0)) (gx_name (i := 2) sc_l_tree.nd rfl (by first | exact Or.inl rfl | exact Or.inr rfl)) (gtName_in 2) rfl (ssx_cons (by exact sx_setLcI (i := 3) (ownc := [("_law_k", 4)]) rfl sc_l_tree.nd rfl rfl (by exact sw_true rfl rfl rfl (by decide +kernel)) (ix_range1 rfl m_range (ax_cons (ex_op op_mod op2_mod (ex_var 2) ex_int) ax_nil) (hl := aCons_len (fun _ _ h => aNil_len h))) (blkOk_by (N := N_l_tree) (sc := defScope s_l_tree) (own := [("_law_k", 4)]) (by decide +kernel)) (by exact fun _ _ _ _ _ => (gx_name (i := 4) sc_l_tree.nd rfl (by first | exact Or.inl rfl | exact Or.inr rfl))) (by exact fun _ _ _ _ _ => tsx_nil) (by exact fun _ _ _ _ _ => (ex_ix ix_seq op2_ix (ex_var 1) (ex_op op_mod op2_mod (ex_op op_fdivW op2_div (ex_var 2) (ex_op opr_add op2_add ex_int (ex_op op_mulW op2_mul ex_int (ex_var 4)))) (ex_callB call_len calld_len rfl m_len (by decide +kernel) (ax_cons (ex_var 1) ax_nil))) (fun _ _ => rfl))) (by decide) rfl) (ssx_one (sx_if (tx_cmp op_le op2_cmp (ex_fn takesD c_l_points hr rfl (ax_cons (ex_var 3) ax_nil) rfl (hlen := aCons_len (fun _ _ h => aNil_len h))) ex_int (nomark _)) (ssx_one (sx_appM (i := 1) (ex_callT call_tuple_of calld_tuple rfl m_tuple (by decide +kernel) (ax_cons (ex_var 3) ax_nil)) rfl)) ssx_nil))))
    (BX.of (own := []) (ssx_one (sx_ret (ex_ix ix_seq op2_ix (ex_var 1) (ex_neg ex_int) (fun _ _ => rfl))))) rfl) rfl)
theorem b_l_order {k : Nat} {S : Nat → List PyData → R PyData} {f : Addr} {cdv : Value} {A : Around} {outer : List Env} {s : Shared} {H : Hp} {E : XK} (hr1 : Room (k + 1) (A.deeper (envOfC "_law_order" (defScope s_l_order) s.heap.objs.size f cdv))) (c_l_order : Cal P w K mg base k "_law_order" 2 (S 20)) (m_int : mg "int" = none) (m_len : mg "len" = none) (m_min : mg "min" = none) (m_range : mg "range" = none) :
    BX (cxOf (L2.CX P w) P w K mg base N_l_order "_law_order" (defScope s_l_order) f cdv A outer s H E) E [] (defBody s_l_order) (g_l_order S) :=
  have hr := hr1.mono (Nat.le_succ k)
  (BX.cons (own := []) (own' := []) (sx_for passD rfl (ix_range1 rfl m_range (ax_cons (ex_callB (call_min2 rfl) calld_min2 rfl m_min (by decide +kernel) (ax_cons (ex_callB call_len calld_len rfl m_len (by decide +kernel) (ax_cons (ex_var 0) ax_nil)) (ax_cons (ex_callB call_len calld_len rfl m_len (by decide +kernel) (ax_cons (ex_var 1) ax_nil)) ax_nil))) ax_nil) (hl := aCons_len (fun _ _ h => aNil_len h))) (gx_name (i := 2) sc_l_order.nd rfl (by first | exact Or.inl rfl | exact Or.inr rfl)) (gtName_in 2) rfl (ssx_cons (sx_set (i := 3) sc_l_order.nd rfl (by first | exact Or.inl rfl | exact Or.inr rfl) (ex_fn takesD c_l_order hr rfl (ax_cons (ex_ix ix_seq op2_ix (ex_ix ix_seq op2_ix (ex_var 0) (ex_var 2) (fun _ _ => rfl)) ex_int (fun _ _ => rfl)) (ax_cons (ex_ix ix_seq op2_ix (ex_ix ix_seq op2_ix (ex_var 1) (ex_var 2) (fun _ _ => rfl)) ex_int (fun _ _ => rfl)) ax_nil)) rfl (hlen := aCons_len (aCons_len (fun _ _ h => aNil_len h)))) rfl) (ssx_cons (sx_if (tx_cmp (op_neX hr.un190) op2_ne (ex_var 3) ex_int (nomark _)) (ssx_one (sx_ret (ex_var 3))) ssx_nil) (ssx_one (sx_if (tx_cmp (op_neX hr.un190) op2_ne (ex_ix ix_seq op2_ix (ex_ix ix_seq op2_ix (ex_var 0) (ex_var 2) (fun _ _ => rfl)) ex_int (fun _ _ => rfl)) (ex_ix ix_seq op2_ix (ex_ix ix_seq op2_ix (ex_var 1) (ex_var 2) (fun _ _ => rfl)) ex_int (fun _ _ => rfl)) (nomark _)) (ssx_one (sx_ret (ex_op opr_sub op2_sub (ex_callT call_int1 calld_int rfl m_int (by decide +kernel) (ax_cons (ex_cmp op_gt op2_cmp (ex_ix ix_seq op2_ix (ex_ix ix_seq op2_ix (ex_var 0) (ex_var 2) (fun _ _ => rfl)) ex_int (fun _ _ => rfl)) (ex_ix ix_seq op2_ix (ex_ix ix_seq op2_ix (ex_var 1) (ex_var 2) (fun _ _ => rfl)) ex_int (fun _ _ => rfl)) (nomark _)) ax_nil)) (ex_callT call_int1 calld_int rfl m_int (by decide +kernel) (ax_cons (ex_cmp op_lt op2_cmp (ex_ix ix_seq op2_ix (ex_ix ix_seq op2_ix (ex_var 0) (ex_var 2) (fun _ _ => rfl)) ex_int (fun _ _ => rfl)) (ex_ix ix_seq op2_ix (ex_ix ix_seq op2_ix (ex_var 1) (ex_var 2) (fun _ _ => rfl)) ex_int (fun _ _ => rfl)) (nomark _)) ax_nil))))) ssx_nil)))))
    (BX.of (own := []) (ssx_one (sx_ret (ex_op opr_sub op2_sub (ex_callT call_int1 calld_int rfl m_int (by decide +kernel) (ax_cons (ex_cmp op_gt op2_cmp (ex_callB call_len calld_len rfl m_len (by decide +kernel) (ax_cons (ex_var 0) ax_nil)) (ex_callB call_len calld_len rfl m_len (by decide +kernel) (ax_cons (ex_var 1) ax_nil)) (nomark _)) ax_nil)) (ex_callT call_int1 calld_int rfl m_int (by decide +kernel) (ax_cons (ex_cmp op_lt op2_cmp (ex_callB call_len calld_len rfl m_len (by decide +kernel) (ax_cons (ex_var 0) ax_nil)) (ex_callB call_len calld_len rfl m_len (by decide +kernel) (ax_cons (ex_var 1) ax_nil)) (nomark _)) ax_nil)))))) rfl)
theorem b_l_put {k : Nat} {S : Nat → List PyData → R PyData} {f : Addr} {cdv : Value} {A : Around} {outer : List Env} {s : Shared} {H : Hp} {E : XK} (hr1 : Room (k + 1) (A.deeper (envOfC "_law_put" (defScope s_l_put) s.heap.objs.size f cdv))) (c_l_order : Cal P w K mg base k "_law_order" 2 (S 20)) (m_len : mg "len" = none) (m_range : mg "range" = none) :
    BX (cxOf (L2.CX P w) P w K mg base N_l_put "_law_put" (defScope s_l_put) f cdv A outer s H E) E [] (defBody s_l_put) (g_l_put S) :=
  have hr := hr1.mono (Nat.le_succ k)
  (BX.cons (own := []) (own' := []) (sx_for passD rfl (ix_range1 rfl m_range (ax_cons (ex_callB call_len calld_len rfl m_len (by decide +kernel) (ax_cons (ex_var 0) ax_nil)) ax_nil) (hl := aCons_len (fun _ _ h => aNil_len h))) (gx_name (i := 2) sc_l_put.nd rfl (by first | exact Or.inl rfl | exact Or.inr rfl)) (gtName_in 2) rfl (ssx_cons (sx_set (i := 3) sc_l_put.nd rfl (by first | exact Or.inl rfl | exact Or.inr rfl) (ex_fn takesD c_l_order hr rfl (ax_cons (ex_ix ix_seq op2_ix (ex_ix ix_seq op2_ix (ex_var 0) (ex_var 2) (fun _ _ => rfl)) ex_int (fun _ _ => rfl)) (ax_cons (ex_var 1) ax_nil)) rfl (hlen := aCons_len (aCons_len (fun _ _ h => aNil_len h)))) rfl) (ssx_cons (sx_if (tx_cmp (op_eqX hr.un190) op2_eq (ex_var 3) ex_int (nomark _)) (ssx_one (sx_ret (ex_op opr_add op2_add (ex_op opr_add op2_add (ex_slice (ex_var 0) ox_none (ox_some (ex_var 2))) (ex_tup (ax_cons (ex_tup (ax_cons (ex_var 1) (ax_cons (ex_op opr_add op2_add (ex_ix ix_seq op2_ix (ex_ix ix_seq op2_ix (ex_var 0) (ex_var 2) (fun _ _ => rfl)) ex_int (fun _ _ => rfl)) ex_int) ax_nil))) ax_nil))) (ex_slice (ex_var 0) (ox_some (ex_op opr_add op2_add (ex_var 2) ex_int)) ox_none)))) ssx_nil) (ssx_one (sx_if (tx_cmp (op_eqX hr.un190) op2_eq (ex_var 3) (ex_neg ex_int) (nomark _)) (ssx_one (sx_ret (ex_op opr_add op2_add (ex_op opr_add op2_add (ex_slice (ex_var 0) ox_none (ox_some (ex_var 2))) (ex_tup (ax_cons (ex_tup (ax_cons (ex_var 1) (ax_cons ex_int ax_nil))) ax_nil))) (ex_slice (ex_var 0) (ox_some (ex_var 2)) ox_none)))) ssx_nil)))))
    (BX.of (own := []) (ssx_one (sx_ret (ex_op opr_add op2_add (ex_var 0) (ex_tup (ax_cons (ex_tup (ax_cons (ex_var 1) (ax_cons ex_int ax_nil))) ax_nil)))))) rfl)
theorem b_l_number {k : Nat} {S : Nat → List PyData → R PyData} {f : Addr} {cdv : Value} {A : Around} {outer : List Env} {s : Shared} {H : Hp} {E : XK} (hr1 : Room (k + 1) (A.deeper (envOfC "_law_number" (defScope s_l_number) s.heap.objs.size f cdv))) (c_l_number : Cal P w K mg base k "_law_number" 1 (S 22)) (c_l_put : Cal P w K mg base k "_law_put" 2 (S 21)) :
    BX (cxOf (L2.CX P w) P w K mg base N_l_number "_law_number" (defScope s_l_number) f cdv A outer s H E) E [] (defBody s_l_number) (g_l_number S) :=
  have hr := hr1.mono (Nat.le_succ k)
  (BX.cons (own := []) (own' := []) (sx_set (i := 1) sc_l_number.nd rfl (by first | exact Or.inl rfl | exact Or.inr rfl) (ex_tup ax_nil) rfl)
    (BX.cons (own := []) (own' := []) (sx_for passD rfl (ix_seq (ex_var 0)) (gx_name (i := 2) sc_l_number.nd rfl (by first | exact Or.inl rfl | exact Or.inr rfl)) (gtName_in 2) rfl (ssx_one (sx_set (i := 1) sc_l_number.nd rfl (by first | exact Or.inl rfl | exact Or.inr rfl) (ex_fn takesD c_l_put hr rfl (ax_cons (ex_var 1) (ax_cons (ex_fn takesD c_l_number hr rfl (ax_cons (ex_var 2) ax_nil) rfl (hlen := aCons_len (fun _ _ h => aNil_len h))) ax_nil)) rfl (hlen := aCons_len (aCons_len (fun _ _ h => aNil_len h)))) rfl)))
    (BX.of (own := []) (ssx_one (sx_ret (ex_var 1)))) rfl) rfl)
theorem b_l_many {k : Nat} {S : Nat → List PyData → R PyData} {f : Addr} {cdv : Value} {A : Around} {outer : List Env} {s : Shared} {H : Hp} {E : XK} (hr1 : Room (k + 1) (A.deeper (envOfC "_law_many" (defScope s_l_many) s.heap.objs.size f cdv)))  :
    BX (cxOf (L2.CX P w) P w K mg base N_l_many "_law_many" (defScope s_l_many) f cdv A outer s H E) E [] (defBody s_l_many) (g_l_many S) :=
  have hr := hr1.mono (Nat.le_succ k)
  (BX.cons (own := []) (own' := []) (sx_if (tx_cmp op_gt op2_cmp (ex_var 1) ex_int (nomark _)) (ssx_one (sx_ret ex_int)) ssx_nil)
    (BX.cons (own := []) (own' := []) (sx_if (WX'.tx (wx_and (tx_cmp op_le op2_cmp (ex_var 1) ex_int (nomark _)) (wx_and1 (tx_cmp (op_eqX hr.un190) op2_eq (ex_op op_mod op2_mod (ex_var 0) ex_int) ex_int (nomark _))))) (ssx_one (sx_ret (ex_op op_mod op2_mod (ex_op op_fdivW op2_div (ex_var 0) ex_int) ex_int))) ssx_nil)
    (BX.of (own := []) (ssx_one (sx_ret (ex_op op_mod op2_mod (ex_op op_fdivW op2_div (ex_var 0) ex_int) ex_int)))) rfl) rfl)
theorem b_l_cut {k : Nat} {S : Nat → List PyData → R PyData} {f : Addr} {cdv : Value} {A : Around} {outer : List Env} {s : Shared} {H : Hp} {E : XK} (hr1 : Room (k + 1) (A.deeper (envOfC "_law_cut" (defScope s_l_cut) s.heap.objs.size f cdv))) (c_l_number : Cal P w K mg base k "_law_number" 1 (S 22)) (c_l_order : Cal P w K mg base k "_law_order" 2 (S 20)) (mt_cut : MetT P w K mg base k "cut" (spP K mg [true, false, false]) [("Play", S 29)]) (mt_tree : MetT P w K mg base k "tree" (spD K mg 1) [("Play", S 28)]) :
    BXP (cxOf (L2.CX P w) P w K mg base N_l_cut "_law_cut" (defScope s_l_cut) f cdv A outer s H E) E [0, 1, 1000, 1001] (defBody s_l_cut) (g_l_cut S) :=
  have hr := hr1.mono (Nat.le_succ k)
  (BXP.cons (own := [0, 1, 1000, 1001]) (own' := [0, 1, 1000, 1001]) (so_set (i := 4) sc_l_cut.nd rfl (by first | exact Or.inl rfl | exact Or.inr rfl) (eo_methS (io := 0) (ls := []) takesD mt_cut hr (la_m (ex_var 2) (la_m (ex_var 3) la_nil)) rfl rfl (by decide)) rfl)
    (BXP.cons (own := [0, 1, 1000, 1001]) (own' := [0, 1, 1000, 1001]) (sx_if (WX'.tx (wx_or (tx_cmp (op_neX hr.un190) op2_ne (ex_var 4) (ex_fn takesD c_l_number hr rfl (ax_cons (ex_meth0 takesD mt_tree hr (ex_var 0)) ax_nil) rfl (hlen := aCons_len (fun _ _ h => aNil_len h))) (nomark _)) (wx_or1 (tx_cmp (op_neX hr.un190) op2_ne (ex_fn takesD c_l_order hr rfl (ax_cons (ex_var 4) (ax_cons (ex_ix ix_seq op2_ix (ex_var 1) (ex_neg ex_int) (fun _ _ => rfl)) ax_nil)) rfl (hlen := aCons_len (aCons_len (fun _ _ h => aNil_len h)))) (ex_neg ex_int) (nomark _))))) (ssx_one (sx_retP ex_bl rfl)) ssx_nil)
    (BXP.cons (own := [0, 1, 1000, 1001]) (own' := [0, 1, 1000, 1001]) (sx_appM (i := 1) (ex_var 4) rfl)
    (BXP.of (own := [0, 1, 1000, 1001]) (ssx_one (sx_retP ex_bl rfl))) rfl) rfl) rfl)
theorem b_l_least {k : Nat} {S : Nat → List PyData → R PyData} {f : Addr} {cdv : Value} {A : Around} {outer : List Env} {s : Shared} {H : Hp} {E : XK} (hr1 : Room (k + 1) (A.deeper (envOfC "_law_least" (defScope s_l_least) s.heap.objs.size f cdv))) (c_ladder : Cal P w K mg base k "ladder" 2 (S 17)) (c_least_head : Cal P w K mg base k "least_head" 1 (S 14)) (mt_tree : MetT P w K mg base k "tree" (spD K mg 1) [("Play", S 28)]) (p_l_cut : CalP P w K mg base k "_law_cut" [true, true, false, false] (S 24)) :
    BXP (cxOf (L2.CX P w) P w K mg base N_l_least "_law_least" (defScope s_l_least) f cdv A outer s H E) E [0, 1, 1000, 1001] (defBody s_l_least) (g_l_least S) :=
  have hr := hr1.mono (Nat.le_succ k)
  (BXP.cons (own := [0, 1, 1000, 1001]) (own' := [0, 1, 1000, 1001]) (sx_set (i := 3) sc_l_least.nd rfl (by first | exact Or.inl rfl | exact Or.inr rfl) (ex_fn takesD c_ladder hr rfl (ax_cons (ex_ix ix_seq op2_ix (ex_var 1) (ex_neg ex_int) (fun _ _ => rfl)) (ax_cons (ex_op opr_add op2_add (ex_var 2) ex_int) ax_nil)) rfl (hlen := aCons_len (aCons_len (fun _ _ h => aNil_len h)))) rfl)
    (BXP.of (own := [0, 1, 1000, 1001]) (ssx_one (so_retP (eo_and (eo_callP (ls := [0, 1]) takesD p_l_cut hr rfl (la_l (io := 0) (la_l (io := 1) (la_i (ex_fn takesD c_least_head hr rfl (ax_cons (ex_meth0 takesD mt_tree hr (ex_var 0)) ax_nil) rfl (hlen := aCons_len (fun _ _ h => aNil_len h))) (la_m (ex_var 2) la_nil)) rfl) rfl) rfl (by decide)) (eo_one (eo_i (ex_cmp (op_eqX hr.un190) op2_eq (ex_ix ix_seq op2_ix (ex_var 1) (ex_neg ex_int) (fun _ _ => rfl)) (ex_var 3) (nomark _))))) rfl))) rfl)
theorem b_l_turn {k : Nat} {S : Nat → List PyData → R PyData} {f : Addr} {cdv : Value} {A : Around} {outer : List Env} {s : Shared} {H : Hp} {E : XK} (hr1 : Room (k + 1) (A.deeper (envOfC "_law_turn" (defScope s_l_turn) s.heap.objs.size f cdv))) (c_l_many : Cal P w K mg base k "_law_many" 2 (S 23)) (c_l_points : Cal P w K mg base k "_law_points" 1 (S 18)) (c_heads : Cal P w K mg base k "heads" 1 (S 7)) (m_len : mg "len" = none) (mt_back : MetT P w K mg base k "back" (spP K mg [true]) [("Play", S 30)]) (mt_tree : MetT P w K mg base k "tree" (spD K mg 1) [("Play", S 28)]) (p_l_cut : CalP P w K mg base k "_law_cut" [true, true, false, false] (S 24)) (p_l_least : CalP P w K mg base k "_law_least" [true, true, false] (S 25)) :
    BXP (cxOf (L2.CX P w) P w K mg base N_l_turn "_law_turn" (defScope s_l_turn) f cdv A outer s H E) E [0, 1, 1000, 1001] (defBody s_l_turn) (g_l_turn S) :=
  have hr := hr1.mono (Nat.le_succ k)
  (BXP.cons (own := [0, 1, 1000, 1001]) (own' := [0, 1, 1000, 1001]) (sx_set (i := 3) sc_l_turn.nd rfl (by first | exact Or.inl rfl | exact Or.inr rfl) (ex_meth0 takesD mt_tree hr (ex_var 0)) rfl)
    (BXP.cons (own := [0, 1, 1000, 1001]) (own' := [0, 1, 1000, 1001]) (sx_setM (i := 4) sc_l_turn.nd rfl (by first | exact Or.inl rfl | exact Or.inr rfl) (ex_fn takesD c_l_many hr rfl (ax_cons (ex_op op_fdivW op2_div (ex_var 2) ex_int) (ax_cons (ex_fn takesD c_l_points hr rfl (ax_cons (ex_var 3) ax_nil) rfl (hlen := aCons_len (fun _ _ h => aNil_len h))) ax_nil)) rfl (hlen := aCons_len (aCons_len (fun _ _ h => aNil_len h)))) rfl)
    (BXP.cons (own := [0, 1, 1000, 1001]) (own' := [0, 1, 1000, 1001]) (sx_setM (i := 5) sc_l_turn.nd rfl (by first | exact Or.inl rfl | exact Or.inr rfl) (ex_fn takesD c_heads hr rfl (ax_cons (ex_var 3) ax_nil) rfl (hlen := aCons_len (fun _ _ h => aNil_len h))) rfl)
    (BXP.cons (own := [0, 1, 1000, 1001]) (own' := [0, 1, 1000, 1001]) (sx_if (tx_cmp (op_eqX hr.un190) op2_eq (ex_op op_mod op2_mod (ex_var 2) ex_int) ex_int (nomark _)) (ssx_one (so_set (i := 6) sc_l_turn.nd rfl (by first | exact Or.inl rfl | exact Or.inr rfl) (eo_callP (ls := [0, 1]) takesD p_l_least hr rfl (la_l (io := 0) (la_l (io := 1) (la_m (ex_var 4) la_nil) rfl) rfl) rfl (by decide)) rfl)) (ssx_one (so_set (i := 6) sc_l_turn.nd rfl (by first | exact Or.inl rfl | exact Or.inr rfl) (eo_callP (ls := [0, 1]) takesD p_l_cut hr rfl (la_l (io := 0) (la_l (io := 1) (la_m (ex_ix ix_seq op2_ix (ex_var 5) (ex_op op_mod op2_mod (ex_op op_fdivW op2_div (ex_var 2) ex_int) (ex_callB call_len calld_len rfl m_len (by decide +kernel) (ax_cons (ex_var 5) ax_nil))) (fun _ _ => rfl)) (la_m (ex_var 4) la_nil)) rfl) rfl) rfl (by decide)) rfl)))
    (BXP.cons (own := [0, 1, 1000, 1001]) (own' := [0, 1, 1000, 1001]) (sx_if (WX'.tx (wx_and (tx_tru (ex_var 6)) (wx_and1 (tx_cmp (op_eqX hr.un190) op2_eq (ex_op op_mod op2_mod (ex_var 2) ex_int) ex_int (nomark _))))) (ssx_cons (sx_popL (i := 1) rfl) (ssx_one (so_set (i := 6) sc_l_turn.nd rfl (by first | exact Or.inl rfl | exact Or.inr rfl) (eo_and (eo_cmp (op_eqX hr.un190) op2_eq (eo_methS0 (io := 0) takesD mt_back hr rfl) (eo_i (ex_ix ix_seq op2_ix (ex_var 1) (ex_neg ex_int) (fun _ _ => rfl))) (nomark _)) (eo_one (eo_i (ex_cmp (op_eqX hr.un190) op2_eq (ex_meth0 takesD mt_tree hr (ex_var 0)) (ex_var 3) (nomark _))))) rfl))) ssx_nil)
    (BXP.of (own := [0, 1, 1000, 1001]) (ssx_one (sx_retP (ex_var 6) rfl))) rfl) rfl) rfl) rfl) rfl)
theorem b_Play_init {k : Nat} {S : Nat → List PyData → R PyData} {f : Addr} {cdv : Value} {A : Around} {outer : List Env} {s : Shared} {H : Hp} {E : XK} (hr1 : Room (k + 1) (A.deeper (envOfC "Play.__init__" (defScope s_Play_init) s.heap.objs.size f cdv))) (d_trees : FldF K "trees" cls_all) :
    IOX (cxOf (L2.CX P w) P w K mg base N_Play_init "Play.__init__" (defScope s_Play_init) f cdv A outer s H E) cls_all "trees" (defBody s_Play_init) (g_Play_init S) True :=
  have hr := hr1.mono (Nat.le_succ k)
  (io_fld d_trees (NX.nv (nx_lst (ax_cons (ex_var 1) ax_nil))))
theorem b_Play_tree {k : Nat} {S : Nat → List PyData → R PyData} {f : Addr} {cdv : Value} {A : Around} {outer : List Env} {s : Shared} {H : Hp} {E : XK} (hr1 : Room (k + 1) (A.deeper (envOfC "Play.tree" (defScope s_Play_tree) s.heap.objs.size f cdv))) (d_trees : FldF K "trees" cls_all) :
    BX (cxOf (L2.CX P w) P w K mg base N_Play_tree "Play.tree" (defScope s_Play_tree) f cdv A outer s H E) E [] (defBody s_Play_tree) (g_Play_tree S) :=
  have hr := hr1.mono (Nat.le_succ k)
  (BX.of (own := []) (ssx_one (sx_ret (ex_ix ix_seq op2_ix (ex_fld d_trees (ex_var 0)) (ex_neg ex_int) (fun _ _ => rfl)))))
theorem b_Play_cut {k : Nat} {S : Nat → List PyData → R PyData} {f : Addr} {cdv : Value} {A : Around} {outer : List Env} {s : Shared} {H : Hp} {E : XK} (hr1 : Room (k + 1) (A.deeper (envOfC "Play.cut" (defScope s_Play_cut) s.heap.objs.size f cdv))) (c_number_of : Cal P w K mg base k "number_of" 1 (S 8)) (ca_cut_trees : Cal P w K mg base k "cut_trees" 3 (S 12)) (d_trees : FldF K "trees" cls_all) :
    BXP (cxOf (L2.CX P w) P w K mg base N_Play_cut "Play.cut" (defScope s_Play_cut) f cdv A outer s H E) E [0, 1000] (defBody s_Play_cut) (g_Play_cut S) :=
  have hr := hr1.mono (Nat.le_succ k)
  (BXP.cons (own := [0, 1000]) (own' := [0, 1000]) (sx_set (i := 3) sc_Play_cut.nd rfl (by first | exact Or.inl rfl | exact Or.inr rfl) (ex_fn takesD ca_cut_trees hr rfl (ax_cons (ex_ix ix_seq op2_ix (ex_fld d_trees (ex_var 0)) (ex_neg ex_int) (fun _ _ => rfl)) (ax_cons (ex_var 1) (ax_cons (ex_var 2) ax_nil))) rfl (hlen := aCons_len (aCons_len (aCons_len (fun _ _ h => aNil_len h))))) rfl)
    (BXP.cons (own := [0, 1000]) (own' := [0, 1000]) (sx_fapp (i := 0) d_trees (ex_var 3) rfl)
    (BXP.of (own := [0, 1000]) (ssx_one (sx_retP (ex_fn takesD c_number_of hr rfl (ax_cons (ex_var 3) ax_nil) rfl (hlen := aCons_len (fun _ _ h => aNil_len h))) rfl))) rfl) rfl)
theorem b_Play_back {k : Nat} {S : Nat → List PyData → R PyData} {f : Addr} {cdv : Value} {A : Around} {outer : List Env} {s : Shared} {H : Hp} {E : XK} (hr1 : Room (k + 1) (A.deeper (envOfC "Play.back" (defScope s_Play_back) s.heap.objs.size f cdv))) (c_number_of : Cal P w K mg base k "number_of" 1 (S 8)) (m_len : mg "len" = none) (e_NoStep : ErrF K mg "NoStep") (d_trees : FldF K "trees" cls_all) :
    BXP (cxOf (L2.CX P w) P w K mg base N_Play_back "Play.back" (defScope s_Play_back) f cdv A outer s H E) E [0, 1000] (defBody s_Play_back) (g_Play_back S) :=
  have hr := hr1.mono (Nat.le_succ k)
  (BXP.cons (own := [0, 1000]) (own' := [0, 1000]) (sx_if (tx_cmp (op_eqX hr.un190) op2_eq (ex_callB call_len calld_len rfl m_len (by decide +kernel) (ax_cons (ex_fld d_trees (ex_var 0)) ax_nil)) ex_int (nomark _)) (ssx_one (sx_raise rfl takesD e_NoStep rfl)) ssx_nil)
    (BXP.cons (own := [0, 1000]) (own' := [0, 1000]) (sx_fpop (i := 0) d_trees rfl)
    (BXP.of (own := [0, 1000]) (ssx_one (sx_retPi (ex_fn takesD c_number_of hr rfl (ax_cons (ex_ix ix_seq op2_ix (ex_fld d_trees (ex_var 0)) (ex_neg ex_int) (fun _ _ => rfl)) ax_nil) rfl (hlen := aCons_len (fun _ _ h => aNil_len h))) rfl))) rfl) rfl)
theorem b_Play_numbers {k : Nat} {S : Nat → List PyData → R PyData} {f : Addr} {cdv : Value} {A : Around} {outer : List Env} {s : Shared} {H : Hp} {E : XK} (hr1 : Room (k + 1) (A.deeper (envOfC "Play.numbers" (defScope s_Play_numbers) s.heap.objs.size f cdv))) (c_number_of : Cal P w K mg base k "number_of" 1 (S 8)) (d_trees : FldF K "trees" cls_all) :
    BX (cxOf (L2.CX P w) P w K mg base N_Play_numbers "Play.numbers" (defScope s_Play_numbers) f cdv A outer s H E) E [] (defBody s_Play_numbers) (g_Play_numbers S) :=
  have hr := hr1.mono (Nat.le_succ k)
  (BX.of (own := []) (ssx_one (sx_ret (by exact ex_lc (own := [("tree", 1)]) rfl sc_Play_numbers.nd (ix_seq (ex_fld d_trees (ex_var 0))) (blkOk_by (N := N_Play_numbers) (sc := defScope s_Play_numbers) (own := [("tree", 1)]) (by decide +kernel)) (by exact fun _ _ _ _ _ => (gx_name (i := 1) sc_Play_numbers.nd rfl (by first | exact Or.inl rfl | exact Or.inr rfl))) (by exact fun _ _ _ _ _ => tsx_nil) (by exact fun _ _ _ _ _ => (ex_fn takes0 c_number_of hr rfl (ax_cons (ex_var 1) ax_nil) rfl (hlen := aCons_len (fun _ _ h => aNil_len h)))) (by decide)))))
theorem b_law {k : Nat} {S : Nat → List PyData → R PyData} {f : Addr} {cdv : Value} {A : Around} {outer : List Env} {s : Shared} {H : Hp} {E : XK} (hr1 : Room (k + 1) (A.deeper (envOfC "law" (defScope s_law) s.heap.objs.size f cdv))) (c_l_number : Cal P w K mg base k "_law_number" 1 (S 22)) (c_l_points : Cal P w K mg base k "_law_points" 1 (S 18)) (c_l_tree : Cal P w K mg base k "_law_tree" 1 (S 19)) (m_range : mg "range" = none) (mt_numbers : MetT P w K mg base k "numbers" (spD K mg 1) [("Play", S 31)]) (mt_tree : MetT P w K mg base k "tree" (spD K mg 1) [("Play", S 28)]) (k_mo_Play : MakO P w K mg base k "Play" 1 "trees" (S 27)) (p_l_least : CalP P w K mg base k "_law_least" [true, true, false] (S 25)) (p_l_turn : CalP P w K mg base k "_law_turn" [true, true, false] (S 26)) :
    BX (cxOf (L2.CX P w) P w K mg base N_law "law" (defScope s_law) f cdv A outer s H E) E [2, 3] (defBody s_law) (g_law S) :=
  have hr := hr1.mono (Nat.le_succ k)
  (BX.cons (own := [2, 3]) (own' := [2, 3]) (sx_setM (i := 1) sc_law.nd rfl (by first | exact Or.inl rfl | exact Or.inr rfl) (ex_fn takesD c_l_tree hr rfl (ax_cons (ex_slice (ex_var 0) ox_none (ox_some ex_int)) ax_nil) rfl (hlen := aCons_len (fun _ _ h => aNil_len h))) rfl)
    (BX.cons (own := [2, 3]) (own' := [2, 3]) (sx_newV (i := 2) sc_law.nd rfl (by first | exact Or.inl rfl | exact Or.inr rfl) (nv_make takesD k_mo_Play hr1 rfl (ax_cons (ex_var 1) ax_nil) (aCons_len (fun _ _ h => aNil_len h))) rfl)
    (BX.cons (own := [2, 3]) (own' := [2, 3]) (sx_new (i := 3) sc_law.nd rfl (by first | exact Or.inl rfl | exact Or.inr rfl) (nx_lst (ax_cons (ex_fn takesD c_l_number hr rfl (ax_cons (ex_var 1) ax_nil) rfl (hlen := aCons_len (fun _ _ h => aNil_len h))) ax_nil)) rfl)
    (BX.cons (own := [2, 3]) (own' := [2, 3]) (sx_for passD rfl (ix_seq (ex_slice (ex_var 0) (ox_some ex_int) (ox_some ex_int))) (gx_name (i := 4) sc_law.nd rfl (by first | exact Or.inl rfl | exact Or.inr rfl)) (gtName_in 4) rfl (ssx_cons (sx_if (tx_cmp (op_eqX hr.un190) op2_eq (ex_meth0 takesD mt_tree hr (ex_var 2)) (ex_tup ax_nil) (nomark _)) (ssx_one sx_break) ssx_nil) (ssx_one (so_if (to_not (to_e (eo_callP (ls := [2, 3]) takesD p_l_turn hr rfl (la_l (io := 2) (la_l (io := 3) (la_m (ex_var 4) la_nil) rfl) rfl) rfl (by decide)))) (ssx_one (sx_ret ex_bl)) ssx_nil))))
    (BX.cons (own := [2, 3]) (own' := []) (sx_forR passD rfl (ixr_range1 rfl m_range (ax_cons (ex_op opr_sub op2_sub (ex_fn takesD c_l_points hr rfl (ax_cons (ex_meth0 takesD mt_tree hr (ex_var 2)) ax_nil) rfl (hlen := aCons_len (fun _ _ h => aNil_len h))) ex_int) ax_nil) (hl := aCons_len (fun _ _ h => aNil_len h))) (gx_name (i := 5) sc_law.nd rfl (by first | exact Or.inl rfl | exact Or.inr rfl)) (gtName_in 5) rfl (ssx_cons (sx_set (i := 6) sc_law.nd rfl (by first | exact Or.inl rfl | exact Or.inr rfl) (ex_fn takesD c_l_points hr rfl (ax_cons (ex_meth0 takesD mt_tree hr (ex_var 2)) ax_nil) rfl (hlen := aCons_len (fun _ _ h => aNil_len h))) rfl) (ssx_one (so_if (WO.to (wo_or (to_not (to_e (eo_callP (ls := [2, 3]) takesD p_l_least hr rfl (la_l (io := 2) (la_l (io := 3) (la_m ex_int la_nil) rfl) rfl) rfl (by decide)))) (wo_or1 (to_t (tx_cmp (op_neX hr.un190) op2_ne (ex_fn takesD c_l_points hr rfl (ax_cons (ex_meth0 takesD mt_tree hr (ex_var 2)) ax_nil) rfl (hlen := aCons_len (fun _ _ h => aNil_len h))) (ex_op opr_sub op2_sub (ex_var 6) ex_int) (nomark _)))))) (ssx_one (sx_ret ex_bl)) ssx_nil))))
    (BX.of (own := []) (ssx_one (sx_ret (ex_and (ex_cmp (op_eqX hr.un190) op2_eq (ex_meth0 takesD mt_tree hr (ex_var 2)) (ex_tup ax_nil) (nomark _)) (ex_and (ex_cmp (op_eqX hr.un190) op2_eq (ex_ix ix_seq op2_ix (ex_var 3) (ex_neg ex_int) (fun _ _ => rfl)) (ex_tup ax_nil) (nomark _)) (ex_one (ex_cmp (op_eqX hr.un190) op2_eq (ex_meth0 takesD mt_numbers hr (ex_var 2)) (ex_var 3) (nomark _)))))))) rfl) rfl) rfl) rfl) rfl)
end
def sem : Nat → Nat → List PyData → R PyData
  | 0 => fun _ _ => .bad
  | k + 1 => fun i ds => match i with
    | 0 => fnD 1 (g_is_whole (sem k)) ds
    | 1 => fnD 5 (g_compare (sem k)) ds
    | 2 => fnD 2 (g_raised (sem k)) ds
    | 3 => fnD 1 (g_whole_part (sem k)) ds
    | 4 => fnD 1 (g_is_limit (sem k)) ds
    | 5 => fnD 6 (g_merged (sem k)) ds
    | 6 => fnD 3 (g_points (sem k)) ds
    | 7 => fnD 5 (g_heads (sem k)) ds
    | 8 => fnD 3 (g_number_of (sem k)) ds
    | 9 => fnD 3 (g_is_head (sem k)) ds
    | 10 => fnD 3 (g_instead (sem k)) ds
    | 11 => fnD 6 (g_regrown (sem k)) ds
    | 12 => fnD 5 (g_cut (sem k)) ds
    | 13 => fnD 5 (g_least_place (sem k)) ds
    | 14 => fnD 3 (g_least_head (sem k)) ds
    | 15 => fnD 3 (g_once_less (sem k)) ds
    | 16 => fnD 4 (g_climbed (sem k)) ds
    | 17 => fnD 2 (g_ladder (sem k)) ds
    | 18 => fnD 2 (g_l_points (sem k)) ds
    | 19 => fnD 5 (g_l_tree (sem k)) ds
    | 20 => fnD 4 (g_l_order (sem k)) ds
    | 21 => fnD 4 (g_l_put (sem k)) ds
    | 22 => fnD 3 (g_l_number (sem k)) ds
    | 23 => fnD 2 (g_l_many (sem k)) ds
    | 24 => fnDP 5 (ltS 0 [true, true, false, false]) (g_l_cut (sem k)) ds
    | 25 => fnDP 4 (ltS 0 [true, true, false]) (g_l_least (sem k)) ds
    | 26 => fnDP 7 (ltS 0 [true, true, false]) (g_l_turn (sem k)) ds
    | 27 => fnIO 2 (g_Play_init (sem k)) ds
    | 28 => fnD 1 (g_Play_tree (sem k)) ds
    | 29 => fnDP 4 (ltS 0 [true, false, false]) (g_Play_cut (sem k)) ds
    | 30 => fnDP 1 (ltS 0 [true]) (g_Play_back (sem k)) ds
    | 31 => fnD 2 (g_Play_numbers (sem k)) ds
    | 32 => fnD 7 (g_law (sem k)) ds
    | _ => .bad
theorem sem_l_tree (k : Nat) (ds : List PyData) : sem (k + 1) 19 ds = fnD 5 (g_l_tree (sem k)) ds := rfl
theorem sem_l_many (k : Nat) (ds : List PyData) : sem (k + 1) 23 ds = fnD 2 (g_l_many (sem k)) ds := rfl
theorem sem_l_cut (k : Nat) (ds : List PyData) : sem (k + 1) 24 ds = fnDP 5 (ltS 0 [true, true, false, false]) (g_l_cut (sem k)) ds := rfl
theorem sem_l_least (k : Nat) (ds : List PyData) : sem (k + 1) 25 ds = fnDP 4 (ltS 0 [true, true, false]) (g_l_least (sem k)) ds := rfl
theorem sem_l_turn (k : Nat) (ds : List PyData) : sem (k + 1) 26 ds = fnDP 7 (ltS 0 [true, true, false]) (g_l_turn (sem k)) ds := rfl
theorem sem_Play_init (k : Nat) (ds : List PyData) : sem (k + 1) 27 ds = fnIO 2 (g_Play_init (sem k)) ds := rfl
theorem sem_Play_tree (k : Nat) (ds : List PyData) : sem (k + 1) 28 ds = fnD 1 (g_Play_tree (sem k)) ds := rfl
theorem sem_Play_cut (k : Nat) (ds : List PyData) : sem (k + 1) 29 ds = fnDP 4 (ltS 0 [true, false, false]) (g_Play_cut (sem k)) ds := rfl
theorem sem_Play_back (k : Nat) (ds : List PyData) : sem (k + 1) 30 ds = fnDP 1 (ltS 0 [true]) (g_Play_back (sem k)) ds := rfl
theorem sem_Play_numbers (k : Nat) (ds : List PyData) : sem (k + 1) 31 ds = fnD 2 (g_Play_numbers (sem k)) ds := rfl
theorem sem_law (k : Nat) (ds : List PyData) : sem (k + 1) 32 ds = fnD 7 (g_law (sem k)) ds := rfl
structure Whole (K : PySem.W.Frag) (mg : Str → Option Value) : Prop where
  F_is_whole : ∃ f fd, Fun K "is_whole" "is_whole" s_is_whole f fd ∧ mg "is_whole" = some (.ref f) ∧ Binds K fd ["thing"] []
  F_compare : ∃ f fd, Fun K "compare" "compare" s_compare f fd ∧ mg "compare" = some (.ref f) ∧ Binds K fd ["a", "b"] []
  F_raised : ∃ f fd, Fun1 K "raised" s_raised 1 f fd ∧ mg "raised" = some (.ref f) ∧ Binds K fd ["exponent", "times"] [] ∧ ∃ ds, Vals [V.int 1] ds ∧ Binds K fd ["exponent", "times"] ds
  F_whole_part : ∃ f fd, Fun K "whole_part" "whole_part" s_whole_part f fd ∧ mg "whole_part" = some (.ref f) ∧ Binds K fd ["a"] []
  F_is_limit : ∃ f fd, Fun K "is_limit" "is_limit" s_is_limit f fd ∧ mg "is_limit" = some (.ref f) ∧ Binds K fd ["a"] []
  F_merged : ∃ f fd, Fun K "merged" "merged" s_merged f fd ∧ mg "merged" = some (.ref f) ∧ Binds K fd ["a", "b"] []
  F_points : ∃ f fd, Fun K "points" "points" s_points f fd ∧ mg "points" = some (.ref f) ∧ Binds K fd ["tree"] []
  F_heads : ∃ f fd, Fun K "heads" "heads" s_heads f fd ∧ mg "heads" = some (.ref f) ∧ Binds K fd ["tree"] []
  F_number_of : ∃ f fd, Fun K "number_of" "number_of" s_number_of f fd ∧ mg "number_of" = some (.ref f) ∧ Binds K fd ["tree"] []
  F_is_head : ∃ f fd, Fun K "is_head" "is_head" s_is_head f fd ∧ mg "is_head" = some (.ref f) ∧ Binds K fd ["tree", "way"] []
  F_instead : ∃ f fd, Fun K "instead" "instead" s_instead f fd ∧ mg "instead" = some (.ref f) ∧ Binds K fd ["tree", "at", "others"] []
  F_regrown : ∃ f fd, Fun K "regrown" "regrown" s_regrown f fd ∧ mg "regrown" = some (.ref f) ∧ Binds K fd ["tree", "way", "many"] []
  F_cut : ∃ f fd, Fun1 K "cut" s_cut 1 f fd ∧ mg "cut" = some (.ref f) ∧ Binds K fd ["tree", "way", "many"] [] ∧ ∃ ds, Vals [V.int 1] ds ∧ Binds K fd ["tree", "way", "many"] ds
  F_least_place : ∃ f fd, Fun K "least_place" "least_place" s_least_place f fd ∧ mg "least_place" = some (.ref f) ∧ Binds K fd ["tree"] []
  F_least_head : ∃ f fd, Fun K "least_head" "least_head" s_least_head f fd ∧ mg "least_head" = some (.ref f) ∧ Binds K fd ["tree"] []
  F_once_less : ∃ f fd, Fun K "once_less" "once_less" s_once_less f fd ∧ mg "once_less" = some (.ref f) ∧ Binds K fd ["a"] []
  F_climbed : ∃ f fd, Fun K "climbed" "climbed" s_climbed f fd ∧ mg "climbed" = some (.ref f) ∧ Binds K fd ["a", "n"] []
  F_ladder : ∃ f fd, Fun K "ladder" "ladder" s_ladder f fd ∧ mg "ladder" = some (.ref f) ∧ Binds K fd ["a", "n"] []
  F_l_points : ∃ f fd, Fun K "_law_points" "_law_points" s_l_points f fd ∧ mg "_law_points" = some (.ref f) ∧ Binds K fd ["_law_tree_here"] []
  F_l_tree : ∃ f fd, Fun K "_law_tree" "_law_tree" s_l_tree f fd ∧ mg "_law_tree" = some (.ref f) ∧ Binds K fd ["_law_cells"] []
  F_l_order : ∃ f fd, Fun K "_law_order" "_law_order" s_l_order f fd ∧ mg "_law_order" = some (.ref f) ∧ Binds K fd ["_law_one", "_law_other"] []
  F_l_put : ∃ f fd, Fun K "_law_put" "_law_put" s_l_put f fd ∧ mg "_law_put" = some (.ref f) ∧ Binds K fd ["_law_parts", "_law_exponent"] []
  F_l_number : ∃ f fd, Fun K "_law_number" "_law_number" s_l_number f fd ∧ mg "_law_number" = some (.ref f) ∧ Binds K fd ["_law_tree_here"] []
  F_l_many : ∃ f fd, Fun K "_law_many" "_law_many" s_l_many f fd ∧ mg "_law_many" = some (.ref f) ∧ Binds K fd ["_law_cell", "_law_size"] []
  F_l_cut : ∃ f fd, Fun K "_law_cut" "_law_cut" s_l_cut f fd ∧ mg "_law_cut" = some (.ref f) ∧ Binds K fd ["_law_play", "_law_numbers", "_law_way", "_law_many_here"] []
  F_l_least : ∃ f fd, Fun K "_law_least" "_law_least" s_l_least f fd ∧ mg "_law_least" = some (.ref f) ∧ Binds K fd ["_law_play", "_law_numbers", "_law_many_here"] []
  F_l_turn : ∃ f fd, Fun K "_law_turn" "_law_turn" s_l_turn f fd ∧ mg "_law_turn" = some (.ref f) ∧ Binds K fd ["_law_play", "_law_numbers", "_law_cell"] []
  d_trees : FldF K "trees" cls_all
  M_Play_back : MethW K "Play" "back" "Play.back" s_Play_back  ["self"]
  M_Play_cut : MethW1 K "Play" "cut" "Play.cut" s_Play_cut 1 ["self", "way", "many"]
  M_Play_numbers : MethW K "Play" "numbers" "Play.numbers" s_Play_numbers  ["self"]
  M_Play_tree : MethW K "Play" "tree" "Play.tree" s_Play_tree  ["self"]
  I_Play : MakW K mg "Play" "Play.__init__" s_Play_init ["self", "tree"]
  al_cut_trees : mg "cut_trees" = mg "cut"
  m_bool : mg "bool" = none
  m_enumerate : mg "enumerate" = none
  m_int : mg "int" = none
  m_isinstance : mg "isinstance" = none
  m_len : mg "len" = none
  m_min : mg "min" = none
  m_range : mg "range" = none
  m_sum : mg "sum" = none
  m_tuple : mg "tuple" = none
  m_zip : mg "zip" = none
  k_MOST_POINTS : ∃ t, mg "MOST_POINTS" = some (.int 600 t)
  e_NoHead : ErrF K mg "NoHead"
  e_NoNumber : ErrF K mg "NoNumber"
  e_NoStep : ErrF K mg "NoStep"
  e_Nought : ErrF K mg "Nought"
  e_TooGreat : ErrF K mg "TooGreat"
structure Calls (P : Program) (w : World) (K : PySem.W.Frag) (mg : Str → Option Value) (base : Heap) (k : Nat) (S : Nat → List PyData → R PyData) : Prop where
  c_is_whole : Cal P w K mg base k "is_whole" 1 (S 0)
  c_compare : Cal P w K mg base k "compare" 2 (S 1)
  c_raised : Cal P w K mg base k "raised" 2 (S 2)
  c_whole_part : Cal P w K mg base k "whole_part" 1 (S 3)
  c_is_limit : Cal P w K mg base k "is_limit" 1 (S 4)
  c_merged : Cal P w K mg base k "merged" 2 (S 5)
  c_points : Cal P w K mg base k "points" 1 (S 6)
  c_heads : Cal P w K mg base k "heads" 1 (S 7)
  c_number_of : Cal P w K mg base k "number_of" 1 (S 8)
  c_is_head : Cal P w K mg base k "is_head" 2 (S 9)
  c_instead : Cal P w K mg base k "instead" 3 (S 10)
  c_regrown : Cal P w K mg base k "regrown" 3 (S 11)
  c_cut : Cal P w K mg base k "cut" 3 (S 12)
  c_least_place : Cal P w K mg base k "least_place" 1 (S 13)
  c_least_head : Cal P w K mg base k "least_head" 1 (S 14)
  c_once_less : Cal P w K mg base k "once_less" 1 (S 15)
  c_climbed : Cal P w K mg base k "climbed" 2 (S 16)
  c_ladder : Cal P w K mg base k "ladder" 2 (S 17)
  c_l_points : Cal P w K mg base k "_law_points" 1 (S 18)
  c_l_tree : Cal P w K mg base k "_law_tree" 1 (S 19)
  c_l_order : Cal P w K mg base k "_law_order" 2 (S 20)
  c_l_put : Cal P w K mg base k "_law_put" 2 (S 21)
  c_l_number : Cal P w K mg base k "_law_number" 1 (S 22)
  c_l_many : Cal P w K mg base k "_law_many" 2 (S 23)
  p_l_cut : CalP P w K mg base k "_law_cut" [true, true, false, false] (S 24)
  p_l_least : CalP P w K mg base k "_law_least" [true, true, false] (S 25)
  p_l_turn : CalP P w K mg base k "_law_turn" [true, true, false] (S 26)
  c1_raised : CalX P w K mg base k "raised" 1 1 (S 2)
  mt_back : MetT P w K mg base k "back" (spP K mg [true]) [("Play", S 30)]
  mt_cut : MetT P w K mg base k "cut" (spP K mg [true, false, false]) [("Play", S 29)]
  mt_numbers : MetT P w K mg base k "numbers" (spD K mg 1) [("Play", S 31)]
  mt_tree : MetT P w K mg base k "tree" (spD K mg 1) [("Play", S 28)]
  k_mo_Play : MakO P w K mg base k "Play" 1 "trees" (S 27)
section
variable {P : Program} {w : World} {K : PySem.W.Frag} {mg : Str → Option Value} {base : Heap}
theorem calls (T : Whole K mg) : ∀ k, Calls P w K mg base (2 * k) (sem k)
  | 0 => {
      c_is_whole := by obtain ⟨f, fd, F, m, b⟩ := T.F_is_whole; exact cal_zero F m b rfl
      c_compare := by obtain ⟨f, fd, F, m, b⟩ := T.F_compare; exact cal_zero F m b rfl
      c_raised := by obtain ⟨f, fd, F, m, b, b2⟩ := T.F_raised; exact cal_zero1 F m b rfl
      c_whole_part := by obtain ⟨f, fd, F, m, b⟩ := T.F_whole_part; exact cal_zero F m b rfl
      c_is_limit := by obtain ⟨f, fd, F, m, b⟩ := T.F_is_limit; exact cal_zero F m b rfl
      c_merged := by obtain ⟨f, fd, F, m, b⟩ := T.F_merged; exact cal_zero F m b rfl
      c_points := by obtain ⟨f, fd, F, m, b⟩ := T.F_points; exact cal_zero F m b rfl
      c_heads := by obtain ⟨f, fd, F, m, b⟩ := T.F_heads; exact cal_zero F m b rfl
      c_number_of := by obtain ⟨f, fd, F, m, b⟩ := T.F_number_of; exact cal_zero F m b rfl
      c_is_head := by obtain ⟨f, fd, F, m, b⟩ := T.F_is_head; exact cal_zero F m b rfl
      c_instead := by obtain ⟨f, fd, F, m, b⟩ := T.F_instead; exact cal_zero F m b rfl
      c_regrown := by obtain ⟨f, fd, F, m, b⟩ := T.F_regrown; exact cal_zero F m b rfl
      c_cut := by obtain ⟨f, fd, F, m, b, b2⟩ := T.F_cut; exact cal_zero1 F m b rfl
      c_least_place := by obtain ⟨f, fd, F, m, b⟩ := T.F_least_place; exact cal_zero F m b rfl
      c_least_head := by obtain ⟨f, fd, F, m, b⟩ := T.F_least_head; exact cal_zero F m b rfl
      c_once_less := by obtain ⟨f, fd, F, m, b⟩ := T.F_once_less; exact cal_zero F m b rfl
      c_climbed := by obtain ⟨f, fd, F, m, b⟩ := T.F_climbed; exact cal_zero F m b rfl
      c_ladder := by obtain ⟨f, fd, F, m, b⟩ := T.F_ladder; exact cal_zero F m b rfl
      c_l_points := by obtain ⟨f, fd, F, m, b⟩ := T.F_l_points; exact cal_zero F m b rfl
      c_l_tree := by obtain ⟨f, fd, F, m, b⟩ := T.F_l_tree; exact cal_zero F m b rfl
      c_l_order := by obtain ⟨f, fd, F, m, b⟩ := T.F_l_order; exact cal_zero F m b rfl
      c_l_put := by obtain ⟨f, fd, F, m, b⟩ := T.F_l_put; exact cal_zero F m b rfl
      c_l_number := by obtain ⟨f, fd, F, m, b⟩ := T.F_l_number; exact cal_zero F m b rfl
      c_l_many := by obtain ⟨f, fd, F, m, b⟩ := T.F_l_many; exact cal_zero F m b rfl
      p_l_cut := by obtain ⟨f, fd, F, m, b⟩ := T.F_l_cut; exact cal_zeroP F m b rfl
      p_l_least := by obtain ⟨f, fd, F, m, b⟩ := T.F_l_least; exact cal_zeroP F m b rfl
      p_l_turn := by obtain ⟨f, fd, F, m, b⟩ := T.F_l_turn; exact cal_zeroP F m b rfl
      c1_raised := by obtain ⟨f, fd, F, m, b, b2⟩ := T.F_raised; exact calX_zero F m b2 rfl
      mt_back := (met_zeroP T.M_Play_back metT_nil)
      mt_cut := (met_zeroP1 T.M_Play_cut metT_nil)
      mt_numbers := (met_zeroD T.M_Play_numbers metT_nil)
      mt_tree := (met_zeroD T.M_Play_tree metT_nil)
      k_mo_Play := mako_zero T.I_Play
    }
  | k + 1 => by
    have ih := calls T k
    show Calls P w K mg base (2 * k + 1 + 1) (sem (k + 1))
    exact {
      c_is_whole := by obtain ⟨f, fd, F, m, b⟩ := T.F_is_whole; exact cal_data F m b sc_is_whole rfl (by decide) fun cdv A outer s H E hr => b_is_whole (k := 2 * k) (S := sem k) hr (m_bool := T.m_bool) (m_int := T.m_int) (m_isinstance := T.m_isinstance)
      c_compare := by obtain ⟨f, fd, F, m, b⟩ := T.F_compare; exact cal_data F m b sc_compare rfl (by decide) fun cdv A outer s H E hr => b_compare (k := 2 * k) (S := sem k) hr (c_compare := ih.c_compare) (m_len := T.m_len) (m_zip := T.m_zip)
      c_raised := by obtain ⟨f, fd, F, m, b, b2⟩ := T.F_raised; exact cal_data1 F m b sc_raised rfl (by decide) fun cdv A outer s H E hr => b_raised (k := 2 * k) (S := sem k) hr (c_is_whole := ih.c_is_whole) (e_NoNumber := T.e_NoNumber)
      c_whole_part := by obtain ⟨f, fd, F, m, b⟩ := T.F_whole_part; exact cal_data F m b sc_whole_part rfl (by decide) fun cdv A outer s H E hr => b_whole_part (k := 2 * k) (S := sem k) hr 
      c_is_limit := by obtain ⟨f, fd, F, m, b⟩ := T.F_is_limit; exact cal_data F m b sc_is_limit rfl (by decide) fun cdv A outer s H E hr => b_is_limit (k := 2 * k) (S := sem k) hr (c_whole_part := ih.c_whole_part)
      c_merged := by obtain ⟨f, fd, F, m, b⟩ := T.F_merged; exact cal_data F m b sc_merged rfl (by decide) fun cdv A outer s H E hr => b_merged (k := 2 * k) (S := sem k) hr (c_compare := ih.c_compare) (m_len := T.m_len) (m_tuple := T.m_tuple)
      c_points := by obtain ⟨f, fd, F, m, b⟩ := T.F_points; exact cal_data F m b sc_points rfl (by decide) fun cdv A outer s H E hr => b_points (k := 2 * k) (S := sem k) hr (c_points := ih.c_points)
      c_heads := by obtain ⟨f, fd, F, m, b⟩ := T.F_heads; exact cal_data F m b sc_heads rfl (by decide) fun cdv A outer s H E hr => b_heads (k := 2 * k) (S := sem k) hr (c_heads := ih.c_heads) (m_enumerate := T.m_enumerate) (m_len := T.m_len)
      c_number_of := by obtain ⟨f, fd, F, m, b⟩ := T.F_number_of; exact cal_data F m b sc_number_of rfl (by decide) fun cdv A outer s H E hr => b_number_of (k := 2 * k) (S := sem k) hr (c_merged := ih.c_merged) (c_number_of := ih.c_number_of) (c1_raised := ih.c1_raised)
      c_is_head := by obtain ⟨f, fd, F, m, b⟩ := T.F_is_head; exact cal_data F m b sc_is_head rfl (by decide) fun cdv A outer s H E hr => b_is_head (k := 2 * k) (S := sem k) hr (c_is_whole := ih.c_is_whole) (m_isinstance := T.m_isinstance) (m_len := T.m_len) (m_tuple := T.m_tuple)
      c_instead := by obtain ⟨f, fd, F, m, b⟩ := T.F_instead; exact cal_data F m b sc_instead rfl (by decide) fun cdv A outer s H E hr => b_instead (k := 2 * k) (S := sem k) hr 
      c_regrown := by obtain ⟨f, fd, F, m, b⟩ := T.F_regrown; exact cal_data F m b sc_regrown rfl (by decide) fun cdv A outer s H E hr => b_regrown (k := 2 * k) (S := sem k) hr (c_instead := ih.c_instead) (c_regrown := ih.c_regrown) (m_len := T.m_len)
      c_cut := by obtain ⟨f, fd, F, m, b, b2⟩ := T.F_cut; exact cal_data1 F m b sc_cut rfl (by decide) fun cdv A outer s H E hr => b_cut (k := 2 * k) (S := sem k) hr (c_instead := ih.c_instead) (c_is_head := ih.c_is_head) (c_is_whole := ih.c_is_whole) (c_points := ih.c_points) (c_regrown := ih.c_regrown) (m_len := T.m_len) (k_MOST_POINTS := T.k_MOST_POINTS.choose_spec) (e_NoHead := T.e_NoHead) (e_NoNumber := T.e_NoNumber) (e_TooGreat := T.e_TooGreat)
      c_least_place := by obtain ⟨f, fd, F, m, b⟩ := T.F_least_place; exact cal_data F m b sc_least_place rfl (by decide) fun cdv A outer s H E hr => b_least_place (k := 2 * k) (S := sem k) hr (c_compare := ih.c_compare) (c_number_of := ih.c_number_of) (m_len := T.m_len) (m_range := T.m_range)
      c_least_head := by obtain ⟨f, fd, F, m, b⟩ := T.F_least_head; exact cal_data F m b sc_least_head rfl (by decide) fun cdv A outer s H E hr => b_least_head (k := 2 * k) (S := sem k) hr (c_least_place := ih.c_least_place) (m_len := T.m_len) (e_Nought := T.e_Nought)
      c_once_less := by obtain ⟨f, fd, F, m, b⟩ := T.F_once_less; exact cal_data F m b sc_once_less rfl (by decide) fun cdv A outer s H E hr => b_once_less (k := 2 * k) (S := sem k) hr 
      c_climbed := by obtain ⟨f, fd, F, m, b⟩ := T.F_climbed; exact cal_data F m b sc_climbed rfl (by decide) fun cdv A outer s H E hr => b_climbed (k := 2 * k) (S := sem k) hr (c_climbed := ih.c_climbed) (c_is_limit := ih.c_is_limit) (c_once_less := ih.c_once_less) (c1_raised := ih.c1_raised) (c_raised := ih.c_raised)
      c_ladder := by obtain ⟨f, fd, F, m, b⟩ := T.F_ladder; exact cal_data F m b sc_ladder rfl (by decide) fun cdv A outer s H E hr => b_ladder (k := 2 * k) (S := sem k) hr (c_climbed := ih.c_climbed) (c_is_whole := ih.c_is_whole) (e_NoNumber := T.e_NoNumber) (e_Nought := T.e_Nought)
      c_l_points := by obtain ⟨f, fd, F, m, b⟩ := T.F_l_points; exact cal_data F m b sc_l_points rfl (by decide) fun cdv A outer s H E hr => b_l_points (k := 2 * k) (S := sem k) hr (c_l_points := ih.c_l_points) (m_sum := T.m_sum)
      c_l_tree := by obtain ⟨f, fd, F, m, b⟩ := T.F_l_tree; exact cal_data F m b sc_l_tree rfl (by decide) fun cdv A outer s H E hr => b_l_tree (k := 2 * k) (S := sem k) hr (c_l_points := ih.c_l_points) (m_len := T.m_len) (m_range := T.m_range) (m_tuple := T.m_tuple)
      c_l_order := by obtain ⟨f, fd, F, m, b⟩ := T.F_l_order; exact cal_data F m b sc_l_order rfl (by decide) fun cdv A outer s H E hr => b_l_order (k := 2 * k) (S := sem k) hr (c_l_order := ih.c_l_order) (m_int := T.m_int) (m_len := T.m_len) (m_min := T.m_min) (m_range := T.m_range)
      c_l_put := by obtain ⟨f, fd, F, m, b⟩ := T.F_l_put; exact cal_data F m b sc_l_put rfl (by decide) fun cdv A outer s H E hr => b_l_put (k := 2 * k) (S := sem k) hr (c_l_order := ih.c_l_order) (m_len := T.m_len) (m_range := T.m_range)
      c_l_number := by obtain ⟨f, fd, F, m, b⟩ := T.F_l_number; exact cal_data F m b sc_l_number rfl (by decide) fun cdv A outer s H E hr => b_l_number (k := 2 * k) (S := sem k) hr (c_l_number := ih.c_l_number) (c_l_put := ih.c_l_put)
      c_l_many := by obtain ⟨f, fd, F, m, b⟩ := T.F_l_many; exact cal_data F m b sc_l_many rfl (by decide) fun cdv A outer s H E hr => b_l_many (k := 2 * k) (S := sem k) hr 
      p_l_cut := by obtain ⟨f, fd, F, m, b⟩ := T.F_l_cut; exact cal_dataP F m b sc_l_cut rfl (by decide) (by decide) (by decide) rfl fun cdv A outer s H E hr => b_l_cut (k := 2 * k) (S := sem k) hr (c_l_number := ih.c_l_number) (c_l_order := ih.c_l_order) (mt_cut := ih.mt_cut) (mt_tree := ih.mt_tree)
      p_l_least := by obtain ⟨f, fd, F, m, b⟩ := T.F_l_least; exact cal_dataP F m b sc_l_least rfl (by decide) (by decide) (by decide) rfl fun cdv A outer s H E hr => b_l_least (k := 2 * k) (S := sem k) hr (c_ladder := ih.c_ladder) (c_least_head := ih.c_least_head) (mt_tree := ih.mt_tree) (p_l_cut := ih.p_l_cut)
      p_l_turn := by obtain ⟨f, fd, F, m, b⟩ := T.F_l_turn; exact cal_dataP F m b sc_l_turn rfl (by decide) (by decide) (by decide) rfl fun cdv A outer s H E hr => b_l_turn (k := 2 * k) (S := sem k) hr (c_l_many := ih.c_l_many) (c_l_points := ih.c_l_points) (c_heads := ih.c_heads) (m_len := T.m_len) (mt_back := ih.mt_back) (mt_tree := ih.mt_tree) (p_l_cut := ih.p_l_cut) (p_l_least := ih.p_l_least)
      c1_raised := by obtain ⟨f, fd, F, m, b, b2⟩ := T.F_raised; exact calX_data F m b2 sc_raised rfl (by decide) fun cdv A outer s H E hr => b_raised (k := 2 * k) (S := sem k) hr (c_is_whole := ih.c_is_whole) (e_NoNumber := T.e_NoNumber)
      mt_back := (met_dataP T.M_Play_back sc_Play_back rfl (by decide) (by decide) (by decide) rfl (fun cdv f A outer s H E hr => b_Play_back (k := 2 * k) (S := sem k) hr (c_number_of := ih.c_number_of) (m_len := T.m_len) (e_NoStep := T.e_NoStep) (d_trees := T.d_trees))
        metT_nil)
      mt_cut := (met_dataP1 T.M_Play_cut sc_Play_cut rfl (by decide) (by decide) (by decide) rfl (fun cdv f A outer s H E hr => b_Play_cut (k := 2 * k) (S := sem k) hr (c_number_of := ih.c_number_of) (ca_cut_trees := ih.c_cut.alias T.al_cut_trees) (d_trees := T.d_trees))
        metT_nil)
      mt_numbers := (met_dataD T.M_Play_numbers sc_Play_numbers rfl (by decide) (fun cdv f A outer s H E hr => b_Play_numbers (k := 2 * k) (S := sem k) hr (c_number_of := ih.c_number_of) (d_trees := T.d_trees))
        metT_nil)
      mt_tree := (met_dataD T.M_Play_tree sc_Play_tree rfl (by decide) (fun cdv f A outer s H E hr => b_Play_tree (k := 2 * k) (S := sem k) hr (d_trees := T.d_trees))
        metT_nil)
      k_mo_Play := mako_data (cs := cls_all) T.I_Play sc_Play_init rfl rfl (fun cdv f A outer s H E hr => b_Play_init (k := 2 * k) (S := sem k) hr (d_trees := T.d_trees))
    }
theorem law_ok {f : Addr} {fd : FuncData} (T : Whole K mg) (F : Fun K "law" "law" s_law f fd) (hl : ∀ ns : List Int, ns.length ≤ 63 → sem 101 32 [.list (ns.map .int)] = .ok (.bool true)) :
    FnOk P w K mg base (L2.CX P w) 202 f fd ["_law_script"] (spLaw K) := by
  have ih : Calls P w K mg base 200 (sem 100) := calls T 100
  exact (fn_data F sc_law rfl (by decide) fun cdv A outer s H E hr => b_law (k := 200) (S := sem 100) hr (c_l_number := ih.c_l_number) (c_l_points := ih.c_l_points) (c_l_tree := ih.c_l_tree) (m_range := T.m_range) (mt_numbers := ih.mt_numbers) (mt_tree := ih.mt_tree) (k_mo_Play := ih.k_mo_Play) (p_l_least := ih.p_l_least) (p_l_turn := ih.p_l_turn)).imp (law_imp hl)
end
section
variable {l : PySem.W.OpenLaw} {w : World} {K : PySem.W.Frag} {h : Heap} {mg : Str → Option Value}
theorem all_mk (X : K.In h) (G : h.Ns mainGlobals mg) {fa : Addr} (hfa : mg "law" = some (.ref fa))
    {C_Play : Addr}
    (ac_Play : PySem.W.nsIn K mainGlobals "Play" = some (some (.ref C_Play)))
    (pg_Play : PySem.W.plainGet K C_Play Str.empty = true)
    (hd_Play : PySem.W.hasDictIn K C_Play = true)
    (po_Play : PySem.W.plainOver K C_Play = true)
    (sa_Play : PySem.W.findIn K (.ref C_Play) "__setattr__" = some (some (.builtin "object.__setattr__")))
    (gc_Play : PySem.W.findIn K (.ref C_Play) "__class__" = some (some (.builtin "object.__class__")))
    (mo_Play : PySem.W.mroIn K C_Play (.type "object") = some true)
    (n_int_Play : PySem.W.subIn K (.ref C_Play) (.type "int") = some false)
    (n_bool_Play : PySem.W.subIn K (.ref C_Play) (.type "bool") = some false)
    (n_str_Play : PySem.W.subIn K (.ref C_Play) (.type "str") = some false)
    (n_list_Play : PySem.W.subIn K (.ref C_Play) (.type "list") = some false)
    (n_tuple_Play : PySem.W.subIn K (.ref C_Play) (.type "tuple") = some false)
    (n_dict_Play : PySem.W.subIn K (.ref C_Play) (.type "dict") = some false)
    (nf_Play_trees : PySem.W.findIn K (.ref C_Play) "trees" = some none)
    (mk_Play : PySem.W.makesIn K C_Play = true)
    (kc_Play : PySem.W.keepIn K (.ref C_Play) = true)
    {f0 : Addr} {od0 an0 : Option Addr} {sl0 : Array (Option Value)} {oc0 kV0 dc0 pm0 cd0 ct0 : Value}
    (a0 : PySem.W.nsIn K mainGlobals "is_whole" = some (some (.ref f0))) (l0 : K.lookup f0 = some ⟨oc0, od0, .func (PySem.W.fnOf "is_whole" "is_whole" (defArgs s_is_whole) (defBody s_is_whole) (defScope s_is_whole) .none kV0 dc0 pm0 an0 cd0 ct0), sl0⟩) (c0 : PySem.W.codeIn K cd0 "is_whole" = true) (k0 : PySem.W.keepIn K (.ref f0) = true)
    {f1 : Addr} {od1 an1 : Option Addr} {sl1 : Array (Option Value)} {oc1 kV1 dc1 pm1 cd1 ct1 : Value}
    (a1 : PySem.W.nsIn K mainGlobals "compare" = some (some (.ref f1))) (l1 : K.lookup f1 = some ⟨oc1, od1, .func (PySem.W.fnOf "compare" "compare" (defArgs s_compare) (defBody s_compare) (defScope s_compare) .none kV1 dc1 pm1 an1 cd1 ct1), sl1⟩) (c1 : PySem.W.codeIn K cd1 "compare" = true) (k1 : PySem.W.keepIn K (.ref f1) = true)
    {f2 : Addr} {od2 an2 : Option Addr} {sl2 : Array (Option Value)} {oc2 kV2 dc2 pm2 cd2 ct2 : Value}
    {T2 : Addr} {ocT2 : Value} {odT2 : Option Addr} {nT2 : Nat} {tkT2 : Tok} {slT2 : Array (Option Value)}
    (a2 : PySem.W.nsIn K mainGlobals "raised" = some (some (.ref f2))) (l2 : K.lookup f2 = some ⟨oc2, od2, .func (PySem.W.fnOf "raised" "raised" (defArgs s_raised) (defBody s_raised) (defScope s_raised) (.ref T2) kV2 dc2 pm2 an2 cd2 ct2), sl2⟩) (c2 : PySem.W.codeIn K cd2 "raised" = true) (k2 : PySem.W.keepIn K (.ref f2) = true)
    {f3 : Addr} {od3 an3 : Option Addr} {sl3 : Array (Option Value)} {oc3 kV3 dc3 pm3 cd3 ct3 : Value}
    (a3 : PySem.W.nsIn K mainGlobals "whole_part" = some (some (.ref f3))) (l3 : K.lookup f3 = some ⟨oc3, od3, .func (PySem.W.fnOf "whole_part" "whole_part" (defArgs s_whole_part) (defBody s_whole_part) (defScope s_whole_part) .none kV3 dc3 pm3 an3 cd3 ct3), sl3⟩) (c3 : PySem.W.codeIn K cd3 "whole_part" = true) (k3 : PySem.W.keepIn K (.ref f3) = true)
    {f4 : Addr} {od4 an4 : Option Addr} {sl4 : Array (Option Value)} {oc4 kV4 dc4 pm4 cd4 ct4 : Value}
    (a4 : PySem.W.nsIn K mainGlobals "is_limit" = some (some (.ref f4))) (l4 : K.lookup f4 = some ⟨oc4, od4, .func (PySem.W.fnOf "is_limit" "is_limit" (defArgs s_is_limit) (defBody s_is_limit) (defScope s_is_limit) .none kV4 dc4 pm4 an4 cd4 ct4), sl4⟩) (c4 : PySem.W.codeIn K cd4 "is_limit" = true) (k4 : PySem.W.keepIn K (.ref f4) = true)
    {f5 : Addr} {od5 an5 : Option Addr} {sl5 : Array (Option Value)} {oc5 kV5 dc5 pm5 cd5 ct5 : Value}
    (a5 : PySem.W.nsIn K mainGlobals "merged" = some (some (.ref f5))) (l5 : K.lookup f5 = some ⟨oc5, od5, .func (PySem.W.fnOf "merged" "merged" (defArgs s_merged) (defBody s_merged) (defScope s_merged) .none kV5 dc5 pm5 an5 cd5 ct5), sl5⟩) (c5 : PySem.W.codeIn K cd5 "merged" = true) (k5 : PySem.W.keepIn K (.ref f5) = true)
    {f6 : Addr} {od6 an6 : Option Addr} {sl6 : Array (Option Value)} {oc6 kV6 dc6 pm6 cd6 ct6 : Value}
    (a6 : PySem.W.nsIn K mainGlobals "points" = some (some (.ref f6))) (l6 : K.lookup f6 = some ⟨oc6, od6, .func (PySem.W.fnOf "points" "points" (defArgs s_points) (defBody s_points) (defScope s_points) .none kV6 dc6 pm6 an6 cd6 ct6), sl6⟩) (c6 : PySem.W.codeIn K cd6 "points" = true) (k6 : PySem.W.keepIn K (.ref f6) = true)
    {f7 : Addr} {od7 an7 : Option Addr} {sl7 : Array (Option Value)} {oc7 kV7 dc7 pm7 cd7 ct7 : Value}
    (a7 : PySem.W.nsIn K mainGlobals "heads" = some (some (.ref f7))) (l7 : K.lookup f7 = some ⟨oc7, od7, .func (PySem.W.fnOf "heads" "heads" (defArgs s_heads) (defBody s_heads) (defScope s_heads) .none kV7 dc7 pm7 an7 cd7 ct7), sl7⟩) (c7 : PySem.W.codeIn K cd7 "heads" = true) (k7 : PySem.W.keepIn K (.ref f7) = true)
    {f8 : Addr} {od8 an8 : Option Addr} {sl8 : Array (Option Value)} {oc8 kV8 dc8 pm8 cd8 ct8 : Value}
    (a8 : PySem.W.nsIn K mainGlobals "number_of" = some (some (.ref f8))) (l8 : K.lookup f8 = some ⟨oc8, od8, .func (PySem.W.fnOf "number_of" "number_of" (defArgs s_number_of) (defBody s_number_of) (defScope s_number_of) .none kV8 dc8 pm8 an8 cd8 ct8), sl8⟩) (c8 : PySem.W.codeIn K cd8 "number_of" = true) (k8 : PySem.W.keepIn K (.ref f8) = true)
    {f9 : Addr} {od9 an9 : Option Addr} {sl9 : Array (Option Value)} {oc9 kV9 dc9 pm9 cd9 ct9 : Value}
    (a9 : PySem.W.nsIn K mainGlobals "is_head" = some (some (.ref f9))) (l9 : K.lookup f9 = some ⟨oc9, od9, .func (PySem.W.fnOf "is_head" "is_head" (defArgs s_is_head) (defBody s_is_head) (defScope s_is_head) .none kV9 dc9 pm9 an9 cd9 ct9), sl9⟩) (c9 : PySem.W.codeIn K cd9 "is_head" = true) (k9 : PySem.W.keepIn K (.ref f9) = true)
    {f10 : Addr} {od10 an10 : Option Addr} {sl10 : Array (Option Value)} {oc10 kV10 dc10 pm10 cd10 ct10 : Value}
    (a10 : PySem.W.nsIn K mainGlobals "instead" = some (some (.ref f10))) (l10 : K.lookup f10 = some ⟨oc10, od10, .func (PySem.W.fnOf "instead" "instead" (defArgs s_instead) (defBody s_instead) (defScope s_instead) .none kV10 dc10 pm10 an10 cd10 ct10), sl10⟩) (c10 : PySem.W.codeIn K cd10 "instead" = true) (k10 : PySem.W.keepIn K (.ref f10) = true)
    {f11 : Addr} {od11 an11 : Option Addr} {sl11 : Array (Option Value)} {oc11 kV11 dc11 pm11 cd11 ct11 : Value}
    (a11 : PySem.W.nsIn K mainGlobals "regrown" = some (some (.ref f11))) (l11 : K.lookup f11 = some ⟨oc11, od11, .func (PySem.W.fnOf "regrown" "regrown" (defArgs s_regrown) (defBody s_regrown) (defScope s_regrown) .none kV11 dc11 pm11 an11 cd11 ct11), sl11⟩) (c11 : PySem.W.codeIn K cd11 "regrown" = true) (k11 : PySem.W.keepIn K (.ref f11) = true)
    {f12 : Addr} {od12 an12 : Option Addr} {sl12 : Array (Option Value)} {oc12 kV12 dc12 pm12 cd12 ct12 : Value}
    {T12 : Addr} {ocT12 : Value} {odT12 : Option Addr} {nT12 : Nat} {tkT12 : Tok} {slT12 : Array (Option Value)}
    (a12 : PySem.W.nsIn K mainGlobals "cut" = some (some (.ref f12))) (l12 : K.lookup f12 = some ⟨oc12, od12, .func (PySem.W.fnOf "cut" "cut" (defArgs s_cut) (defBody s_cut) (defScope s_cut) (.ref T12) kV12 dc12 pm12 an12 cd12 ct12), sl12⟩) (c12 : PySem.W.codeIn K cd12 "cut" = true) (k12 : PySem.W.keepIn K (.ref f12) = true)
    {f13 : Addr} {od13 an13 : Option Addr} {sl13 : Array (Option Value)} {oc13 kV13 dc13 pm13 cd13 ct13 : Value}
    (a13 : PySem.W.nsIn K mainGlobals "least_place" = some (some (.ref f13))) (l13 : K.lookup f13 = some ⟨oc13, od13, .func (PySem.W.fnOf "least_place" "least_place" (defArgs s_least_place) (defBody s_least_place) (defScope s_least_place) .none kV13 dc13 pm13 an13 cd13 ct13), sl13⟩) (c13 : PySem.W.codeIn K cd13 "least_place" = true) (k13 : PySem.W.keepIn K (.ref f13) = true)
    {f14 : Addr} {od14 an14 : Option Addr} {sl14 : Array (Option Value)} {oc14 kV14 dc14 pm14 cd14 ct14 : Value}
    (a14 : PySem.W.nsIn K mainGlobals "least_head" = some (some (.ref f14))) (l14 : K.lookup f14 = some ⟨oc14, od14, .func (PySem.W.fnOf "least_head" "least_head" (defArgs s_least_head) (defBody s_least_head) (defScope s_least_head) .none kV14 dc14 pm14 an14 cd14 ct14), sl14⟩) (c14 : PySem.W.codeIn K cd14 "least_head" = true) (k14 : PySem.W.keepIn K (.ref f14) = true)
    {f15 : Addr} {od15 an15 : Option Addr} {sl15 : Array (Option Value)} {oc15 kV15 dc15 pm15 cd15 ct15 : Value}
    (a15 : PySem.W.nsIn K mainGlobals "once_less" = some (some (.ref f15))) (l15 : K.lookup f15 = some ⟨oc15, od15, .func (PySem.W.fnOf "once_less" "once_less" (defArgs s_once_less) (defBody s_once_less) (defScope s_once_less) .none kV15 dc15 pm15 an15 cd15 ct15), sl15⟩) (c15 : PySem.W.codeIn K cd15 "once_less" = true) (k15 : PySem.W.keepIn K (.ref f15) = true)
    {f16 : Addr} {od16 an16 : Option Addr} {sl16 : Array (Option Value)} {oc16 kV16 dc16 pm16 cd16 ct16 : Value}
    (a16 : PySem.W.nsIn K mainGlobals "climbed" = some (some (.ref f16))) (l16 : K.lookup f16 = some ⟨oc16, od16, .func (PySem.W.fnOf "climbed" "climbed" (defArgs s_climbed) (defBody s_climbed) (defScope s_climbed) .none kV16 dc16 pm16 an16 cd16 ct16), sl16⟩) (c16 : PySem.W.codeIn K cd16 "climbed" = true) (k16 : PySem.W.keepIn K (.ref f16) = true)
    {f17 : Addr} {od17 an17 : Option Addr} {sl17 : Array (Option Value)} {oc17 kV17 dc17 pm17 cd17 ct17 : Value}
    (a17 : PySem.W.nsIn K mainGlobals "ladder" = some (some (.ref f17))) (l17 : K.lookup f17 = some ⟨oc17, od17, .func (PySem.W.fnOf "ladder" "ladder" (defArgs s_ladder) (defBody s_ladder) (defScope s_ladder) .none kV17 dc17 pm17 an17 cd17 ct17), sl17⟩) (c17 : PySem.W.codeIn K cd17 "ladder" = true) (k17 : PySem.W.keepIn K (.ref f17) = true)
    {f18 : Addr} {od18 an18 : Option Addr} {sl18 : Array (Option Value)} {oc18 kV18 dc18 pm18 cd18 ct18 : Value}
    (a18 : PySem.W.nsIn K mainGlobals "_law_points" = some (some (.ref f18))) (l18 : K.lookup f18 = some ⟨oc18, od18, .func (PySem.W.fnOf "_law_points" "_law_points" (defArgs s_l_points) (defBody s_l_points) (defScope s_l_points) .none kV18 dc18 pm18 an18 cd18 ct18), sl18⟩) (c18 : PySem.W.codeIn K cd18 "_law_points" = true) (k18 : PySem.W.keepIn K (.ref f18) = true)
    {f19 : Addr} {od19 an19 : Option Addr} {sl19 : Array (Option Value)} {oc19 kV19 dc19 pm19 cd19 ct19 : Value}
    (a19 : PySem.W.nsIn K mainGlobals "_law_tree" = some (some (.ref f19))) (l19 : K.lookup f19 = some ⟨oc19, od19, .func (PySem.W.fnOf "_law_tree" "_law_tree" (defArgs s_l_tree) (defBody s_l_tree) (defScope s_l_tree) .none kV19 dc19 pm19 an19 cd19 ct19), sl19⟩) (c19 : PySem.W.codeIn K cd19 "_law_tree" = true) (k19 : PySem.W.keepIn K (.ref f19) = true)
    {f20 : Addr} {od20 an20 : Option Addr} {sl20 : Array (Option Value)} {oc20 kV20 dc20 pm20 cd20 ct20 : Value}
    (a20 : PySem.W.nsIn K mainGlobals "_law_order" = some (some (.ref f20))) (l20 : K.lookup f20 = some ⟨oc20, od20, .func (PySem.W.fnOf "_law_order" "_law_order" (defArgs s_l_order) (defBody s_l_order) (defScope s_l_order) .none kV20 dc20 pm20 an20 cd20 ct20), sl20⟩) (c20 : PySem.W.codeIn K cd20 "_law_order" = true) (k20 : PySem.W.keepIn K (.ref f20) = true)
    {f21 : Addr} {od21 an21 : Option Addr} {sl21 : Array (Option Value)} {oc21 kV21 dc21 pm21 cd21 ct21 : Value}
    (a21 : PySem.W.nsIn K mainGlobals "_law_put" = some (some (.ref f21))) (l21 : K.lookup f21 = some ⟨oc21, od21, .func (PySem.W.fnOf "_law_put" "_law_put" (defArgs s_l_put) (defBody s_l_put) (defScope s_l_put) .none kV21 dc21 pm21 an21 cd21 ct21), sl21⟩) (c21 : PySem.W.codeIn K cd21 "_law_put" = true) (k21 : PySem.W.keepIn K (.ref f21) = true)
    {f22 : Addr} {od22 an22 : Option Addr} {sl22 : Array (Option Value)} {oc22 kV22 dc22 pm22 cd22 ct22 : Value}
    (a22 : PySem.W.nsIn K mainGlobals "_law_number" = some (some (.ref f22))) (l22 : K.lookup f22 = some ⟨oc22, od22, .func (PySem.W.fnOf "_law_number" "_law_number" (defArgs s_l_number) (defBody s_l_number) (defScope s_l_number) .none kV22 dc22 pm22 an22 cd22 ct22), sl22⟩) (c22 : PySem.W.codeIn K cd22 "_law_number" = true) (k22 : PySem.W.keepIn K (.ref f22) = true)
    {f23 : Addr} {od23 an23 : Option Addr} {sl23 : Array (Option Value)} {oc23 kV23 dc23 pm23 cd23 ct23 : Value}
    (a23 : PySem.W.nsIn K mainGlobals "_law_many" = some (some (.ref f23))) (l23 : K.lookup f23 = some ⟨oc23, od23, .func (PySem.W.fnOf "_law_many" "_law_many" (defArgs s_l_many) (defBody s_l_many) (defScope s_l_many) .none kV23 dc23 pm23 an23 cd23 ct23), sl23⟩) (c23 : PySem.W.codeIn K cd23 "_law_many" = true) (k23 : PySem.W.keepIn K (.ref f23) = true)
    {f24 : Addr} {od24 an24 : Option Addr} {sl24 : Array (Option Value)} {oc24 kV24 dc24 pm24 cd24 ct24 : Value}
    (a24 : PySem.W.nsIn K mainGlobals "_law_cut" = some (some (.ref f24))) (l24 : K.lookup f24 = some ⟨oc24, od24, .func (PySem.W.fnOf "_law_cut" "_law_cut" (defArgs s_l_cut) (defBody s_l_cut) (defScope s_l_cut) .none kV24 dc24 pm24 an24 cd24 ct24), sl24⟩) (c24 : PySem.W.codeIn K cd24 "_law_cut" = true) (k24 : PySem.W.keepIn K (.ref f24) = true)
    {f25 : Addr} {od25 an25 : Option Addr} {sl25 : Array (Option Value)} {oc25 kV25 dc25 pm25 cd25 ct25 : Value}
    (a25 : PySem.W.nsIn K mainGlobals "_law_least" = some (some (.ref f25))) (l25 : K.lookup f25 = some ⟨oc25, od25, .func (PySem.W.fnOf "_law_least" "_law_least" (defArgs s_l_least) (defBody s_l_least) (defScope s_l_least) .none kV25 dc25 pm25 an25 cd25 ct25), sl25⟩) (c25 : PySem.W.codeIn K cd25 "_law_least" = true) (k25 : PySem.W.keepIn K (.ref f25) = true)
    {f26 : Addr} {od26 an26 : Option Addr} {sl26 : Array (Option Value)} {oc26 kV26 dc26 pm26 cd26 ct26 : Value}
    (a26 : PySem.W.nsIn K mainGlobals "_law_turn" = some (some (.ref f26))) (l26 : K.lookup f26 = some ⟨oc26, od26, .func (PySem.W.fnOf "_law_turn" "_law_turn" (defArgs s_l_turn) (defBody s_l_turn) (defScope s_l_turn) .none kV26 dc26 pm26 an26 cd26 ct26), sl26⟩) (c26 : PySem.W.codeIn K cd26 "_law_turn" = true) (k26 : PySem.W.keepIn K (.ref f26) = true)
    {f27 : Addr} {od27 an27 : Option Addr} {sl27 : Array (Option Value)} {oc27 kV27 dc27 pm27 cd27 ct27 : Value}
    (a27 : PySem.W.findIn K (.ref C_Play) "__init__" = some (some (.ref f27)))
    (i27 : PySem.W.isFn K (.ref f27) = true)
    (l27 : K.lookup f27 = some ⟨oc27, od27, .func (PySem.W.fnOf "__init__" "Play.__init__" (defArgs s_Play_init) (defBody s_Play_init) (defScope s_Play_init) .none kV27 dc27 pm27 an27 cd27 ct27), sl27⟩)
    (c27 : PySem.W.codeIn K cd27 "Play.__init__" = true)
    (k27 : PySem.W.keepIn K (.ref f27) = true)
    {f28 : Addr} {od28 an28 : Option Addr} {sl28 : Array (Option Value)} {oc28 kV28 dc28 pm28 cd28 ct28 : Value}
    (a28 : PySem.W.findIn K (.ref C_Play) "tree" = some (some (.ref f28)))
    (i28 : PySem.W.isFn K (.ref f28) = true)
    (l28 : K.lookup f28 = some ⟨oc28, od28, .func (PySem.W.fnOf "tree" "Play.tree" (defArgs s_Play_tree) (defBody s_Play_tree) (defScope s_Play_tree) .none kV28 dc28 pm28 an28 cd28 ct28), sl28⟩)
    (c28 : PySem.W.codeIn K cd28 "Play.tree" = true)
    (k28 : PySem.W.keepIn K (.ref f28) = true)
    {f29 : Addr} {od29 an29 : Option Addr} {sl29 : Array (Option Value)} {oc29 kV29 dc29 pm29 cd29 ct29 : Value}
    {T29 : Addr} {ocT29 : Value} {odT29 : Option Addr} {nT29 : Nat} {tkT29 : Tok} {slT29 : Array (Option Value)}
    (a29 : PySem.W.findIn K (.ref C_Play) "cut" = some (some (.ref f29)))
    (i29 : PySem.W.isFn K (.ref f29) = true)
    (l29 : K.lookup f29 = some ⟨oc29, od29, .func (PySem.W.fnOf "cut" "Play.cut" (defArgs s_Play_cut) (defBody s_Play_cut) (defScope s_Play_cut) (.ref T29) kV29 dc29 pm29 an29 cd29 ct29), sl29⟩)
    (c29 : PySem.W.codeIn K cd29 "Play.cut" = true)
    (k29 : PySem.W.keepIn K (.ref f29) = true)
    {f30 : Addr} {od30 an30 : Option Addr} {sl30 : Array (Option Value)} {oc30 kV30 dc30 pm30 cd30 ct30 : Value}
    (a30 : PySem.W.findIn K (.ref C_Play) "back" = some (some (.ref f30)))
    (i30 : PySem.W.isFn K (.ref f30) = true)
    (l30 : K.lookup f30 = some ⟨oc30, od30, .func (PySem.W.fnOf "back" "Play.back" (defArgs s_Play_back) (defBody s_Play_back) (defScope s_Play_back) .none kV30 dc30 pm30 an30 cd30 ct30), sl30⟩)
    (c30 : PySem.W.codeIn K cd30 "Play.back" = true)
    (k30 : PySem.W.keepIn K (.ref f30) = true)
    {f31 : Addr} {od31 an31 : Option Addr} {sl31 : Array (Option Value)} {oc31 kV31 dc31 pm31 cd31 ct31 : Value}
    (a31 : PySem.W.findIn K (.ref C_Play) "numbers" = some (some (.ref f31)))
    (i31 : PySem.W.isFn K (.ref f31) = true)
    (l31 : K.lookup f31 = some ⟨oc31, od31, .func (PySem.W.fnOf "numbers" "Play.numbers" (defArgs s_Play_numbers) (defBody s_Play_numbers) (defScope s_Play_numbers) .none kV31 dc31 pm31 an31 cd31 ct31), sl31⟩)
    (c31 : PySem.W.codeIn K cd31 "Play.numbers" = true)
    (k31 : PySem.W.keepIn K (.ref f31) = true)
    {f32 : Addr} {od32 an32 : Option Addr} {sl32 : Array (Option Value)} {oc32 kV32 dc32 pm32 cd32 ct32 : Value}
    (a32 : PySem.W.nsIn K mainGlobals "law" = some (some (.ref f32))) (l32 : K.lookup f32 = some ⟨oc32, od32, .func (PySem.W.fnOf "law" "law" (defArgs s_law) (defBody s_law) (defScope s_law) .none kV32 dc32 pm32 an32 cd32 ct32), sl32⟩) (c32 : PySem.W.codeIn K cd32 "law" = true) (k32 : PySem.W.keepIn K (.ref f32) = true)
    (al_cut_trees : PySem.W.nsIn K mainGlobals "cut_trees" = some (some (.ref f12)))
    (z_bool : PySem.W.nsIn K mainGlobals "bool" = some none)
    (z_enumerate : PySem.W.nsIn K mainGlobals "enumerate" = some none)
    (z_int : PySem.W.nsIn K mainGlobals "int" = some none)
    (z_isinstance : PySem.W.nsIn K mainGlobals "isinstance" = some none)
    (z_len : PySem.W.nsIn K mainGlobals "len" = some none)
    (z_min : PySem.W.nsIn K mainGlobals "min" = some none)
    (z_range : PySem.W.nsIn K mainGlobals "range" = some none)
    (z_sum : PySem.W.nsIn K mainGlobals "sum" = some none)
    (z_tuple : PySem.W.nsIn K mainGlobals "tuple" = some none)
    (z_zip : PySem.W.nsIn K mainGlobals "zip" = some none)
    (lT2 : K.lookup T2 = some ⟨ocT2, odT2, .seq #[.int 1 tkT2] nT2, slT2⟩)
    (lT12 : K.lookup T12 = some ⟨ocT12, odT12, .seq #[.int 1 tkT12] nT12, slT12⟩)
    (lT29 : K.lookup T29 = some ⟨ocT29, odT29, .seq #[.int 1 tkT29] nT29, slT29⟩)
    {tk_MOST_POINTS : Tok}
    (ak_MOST_POINTS : PySem.W.nsIn K mainGlobals "MOST_POINTS" = some (some (.int 600 tk_MOST_POINTS)))
    {C_NoHead : Addr}
    (ac_NoHead : PySem.W.nsIn K mainGlobals "NoHead" = some (some (.ref C_NoHead)))
    (xc_NoHead : PySem.W.excIn K C_NoHead [.type "ValueError", .type "Exception", .type "BaseException", .type "object"] "ValueError.__new__" = true)
    (kc_NoHead : PySem.W.keepIn K (.ref C_NoHead) = true)
    (sc_NoHead : PySem.W.subIn K (.ref C_NoHead) (.type "BaseException") = some true)
    (tc_NoHead : PySem.W.typeIn K (.ref C_NoHead) = some (.type "type"))
    {C_NoNumber : Addr}
    (ac_NoNumber : PySem.W.nsIn K mainGlobals "NoNumber" = some (some (.ref C_NoNumber)))
    (xc_NoNumber : PySem.W.excIn K C_NoNumber [.type "ValueError", .type "Exception", .type "BaseException", .type "object"] "ValueError.__new__" = true)
    (kc_NoNumber : PySem.W.keepIn K (.ref C_NoNumber) = true)
    (sc_NoNumber : PySem.W.subIn K (.ref C_NoNumber) (.type "BaseException") = some true)
    (tc_NoNumber : PySem.W.typeIn K (.ref C_NoNumber) = some (.type "type"))
    {C_NoStep : Addr}
    (ac_NoStep : PySem.W.nsIn K mainGlobals "NoStep" = some (some (.ref C_NoStep)))
    (xc_NoStep : PySem.W.excIn K C_NoStep [.type "ValueError", .type "Exception", .type "BaseException", .type "object"] "ValueError.__new__" = true)
    (kc_NoStep : PySem.W.keepIn K (.ref C_NoStep) = true)
    (sc_NoStep : PySem.W.subIn K (.ref C_NoStep) (.type "BaseException") = some true)
    (tc_NoStep : PySem.W.typeIn K (.ref C_NoStep) = some (.type "type"))
    {C_Nought : Addr}
    (ac_Nought : PySem.W.nsIn K mainGlobals "Nought" = some (some (.ref C_Nought)))
    (xc_Nought : PySem.W.excIn K C_Nought [.type "ValueError", .type "Exception", .type "BaseException", .type "object"] "ValueError.__new__" = true)
    (kc_Nought : PySem.W.keepIn K (.ref C_Nought) = true)
    (sc_Nought : PySem.W.subIn K (.ref C_Nought) (.type "BaseException") = some true)
    (tc_Nought : PySem.W.typeIn K (.ref C_Nought) = some (.type "type"))
    {C_TooGreat : Addr}
    (ac_TooGreat : PySem.W.nsIn K mainGlobals "TooGreat" = some (some (.ref C_TooGreat)))
    (xc_TooGreat : PySem.W.excIn K C_TooGreat [.type "ValueError", .type "Exception", .type "BaseException", .type "object"] "ValueError.__new__" = true)
    (kc_TooGreat : PySem.W.keepIn K (.ref C_TooGreat) = true)
    (sc_TooGreat : PySem.W.subIn K (.ref C_TooGreat) (.type "BaseException") = some true)
    (tc_TooGreat : PySem.W.typeIn K (.ref C_TooGreat) = some (.type "type"))
    (zget : PySem.W.specialIn K (.builtin "object.__class__") "__get__" = some (some (.builtin "getset_descriptor.__get__")))
    (ztak : PySem.W.takesIn K (.builtin "object.__class__") = some true)
    (hl : ∀ ns : List Int, ns.length ≤ 63 → sem 101 32 [.list (ns.map .int)] = .ok (.bool true)) :
    ∃ fd : FuncData, (∀ (s : Shared) (v : Value), BindsTo s fd ⟨[v], []⟩ [("_law_script", v)]) ∧ ∀ base : Heap, K.In base → base.Ns mainGlobals mg → FnOk l.prog w K mg base (L2.CX l.prog w) 202 fa fd ["_law_script"] (spLaw K) := by
  have e := hfa.symm.trans (PySem.W.mg_of X G a32)
  cases e
  have T : Whole K mg := {
    d_trees := (fldF_cons (clN_mk ac_Play ⟨pg_Play, hd_Play, po_Play, sa_Play⟩ gc_Play zget ztak mo_Play n_int_Play n_bool_Play n_str_Play n_list_Play n_tuple_Play n_dict_Play) nf_Play_trees fldF_nil)
    M_Play_back := ⟨C_Play, f30, _, (clN_mk ac_Play ⟨pg_Play, hd_Play, po_Play, sa_Play⟩ gc_Play zget ztak mo_Play n_int_Play n_bool_Play n_str_Play n_list_Play n_tuple_Play n_dict_Play), ⟨a30, i30, k30⟩, fun_mk (st := s_Play_back) l30 c30 k30, ((fun_mk (st := s_Play_back) l30 c30 k30).binds fun _ _ _ _ _ _ us hl => match us, hl with | [_], _ => rfl)⟩
    M_Play_cut := ⟨C_Play, f29, _, (clN_mk ac_Play ⟨pg_Play, hd_Play, po_Play, sa_Play⟩ gc_Play zget ztak mo_Play n_int_Play n_bool_Play n_str_Play n_list_Play n_tuple_Play n_dict_Play), ⟨a29, i29, k29⟩, (fun1Q_mk (st := s_Play_cut) (i := 1) l29 c29 k29 lT29), fun1Q_all (fun1Q_mk (st := s_Play_cut) (i := 1) l29 c29 k29 lT29) rfl fun _ _ _ _ _ _ _ us its h1 h2 => match us, its, h1, h2 with | [_, _, _], [_], _, _ => ⟨_, rfl, rfl⟩, fun1Q_one (fun1Q_mk (st := s_Play_cut) (i := 1) l29 c29 k29 lT29) rfl fun _ _ _ _ _ _ _ us its h1 h2 => match us, its, h1, h2 with | [_, _], [_], _, _ => ⟨_, rfl, rfl⟩⟩
    M_Play_numbers := ⟨C_Play, f31, _, (clN_mk ac_Play ⟨pg_Play, hd_Play, po_Play, sa_Play⟩ gc_Play zget ztak mo_Play n_int_Play n_bool_Play n_str_Play n_list_Play n_tuple_Play n_dict_Play), ⟨a31, i31, k31⟩, fun_mk (st := s_Play_numbers) l31 c31 k31, ((fun_mk (st := s_Play_numbers) l31 c31 k31).binds fun _ _ _ _ _ _ us hl => match us, hl with | [_], _ => rfl)⟩
    M_Play_tree := ⟨C_Play, f28, _, (clN_mk ac_Play ⟨pg_Play, hd_Play, po_Play, sa_Play⟩ gc_Play zget ztak mo_Play n_int_Play n_bool_Play n_str_Play n_list_Play n_tuple_Play n_dict_Play), ⟨a28, i28, k28⟩, fun_mk (st := s_Play_tree) l28 c28 k28, ((fun_mk (st := s_Play_tree) l28 c28 k28).binds fun _ _ _ _ _ _ us hl => match us, hl with | [_], _ => rfl)⟩
    al_cut_trees := (PySem.W.mg_of X G al_cut_trees).trans (PySem.W.mg_of X G a12).symm
    I_Play := ⟨C_Play, f27, _, (clN_mk ac_Play ⟨pg_Play, hd_Play, po_Play, sa_Play⟩ gc_Play zget ztak mo_Play n_int_Play n_bool_Play n_str_Play n_list_Play n_tuple_Play n_dict_Play), PySem.W.mg_of X G ac_Play, ⟨mk_Play, a27, i27, kc_Play⟩, fun_mk (st := s_Play_init) l27 c27 k27, ((fun_mk (st := s_Play_init) l27 c27 k27).binds fun _ _ _ _ _ _ us hl => match us, hl with | [_, _], _ => rfl)⟩
    F_is_whole := ⟨f0, _, fun_mk (st := s_is_whole) l0 c0 k0, PySem.W.mg_of X G a0, (fun_mk (st := s_is_whole) l0 c0 k0).binds fun _ _ _ _ _ _ us hl => match us, hl with | [_], _ => rfl⟩
    F_compare := ⟨f1, _, fun_mk (st := s_compare) l1 c1 k1, PySem.W.mg_of X G a1, (fun_mk (st := s_compare) l1 c1 k1).binds fun _ _ _ _ _ _ us hl => match us, hl with | [_, _], _ => rfl⟩
    F_raised := ⟨f2, _, (fun1_mk (st := s_raised) (i := 1) l2 c2 k2 lT2), PySem.W.mg_of X G a2, fun1_all (fun1_mk (st := s_raised) (i := 1) l2 c2 k2 lT2) rfl fun _ _ _ _ _ _ _ us its h1 h2 => match us, its, h1, h2 with | [_, _], [_], _, _ => ⟨_, rfl, rfl⟩, fun1_one (fun1_mk (st := s_raised) (i := 1) l2 c2 k2 lT2) rfl fun _ _ _ _ _ _ _ us its h1 h2 => match us, its, h1, h2 with | [_], [_], _, _ => ⟨_, rfl, rfl⟩⟩
    F_whole_part := ⟨f3, _, fun_mk (st := s_whole_part) l3 c3 k3, PySem.W.mg_of X G a3, (fun_mk (st := s_whole_part) l3 c3 k3).binds fun _ _ _ _ _ _ us hl => match us, hl with | [_], _ => rfl⟩
    F_is_limit := ⟨f4, _, fun_mk (st := s_is_limit) l4 c4 k4, PySem.W.mg_of X G a4, (fun_mk (st := s_is_limit) l4 c4 k4).binds fun _ _ _ _ _ _ us hl => match us, hl with | [_], _ => rfl⟩
    F_merged := ⟨f5, _, fun_mk (st := s_merged) l5 c5 k5, PySem.W.mg_of X G a5, (fun_mk (st := s_merged) l5 c5 k5).binds fun _ _ _ _ _ _ us hl => match us, hl with | [_, _], _ => rfl⟩
    F_points := ⟨f6, _, fun_mk (st := s_points) l6 c6 k6, PySem.W.mg_of X G a6, (fun_mk (st := s_points) l6 c6 k6).binds fun _ _ _ _ _ _ us hl => match us, hl with | [_], _ => rfl⟩
    F_heads := ⟨f7, _, fun_mk (st := s_heads) l7 c7 k7, PySem.W.mg_of X G a7, (fun_mk (st := s_heads) l7 c7 k7).binds fun _ _ _ _ _ _ us hl => match us, hl with | [_], _ => rfl⟩
    F_number_of := ⟨f8, _, fun_mk (st := s_number_of) l8 c8 k8, PySem.W.mg_of X G a8, (fun_mk (st := s_number_of) l8 c8 k8).binds fun _ _ _ _ _ _ us hl => match us, hl with | [_], _ => rfl⟩
    F_is_head := ⟨f9, _, fun_mk (st := s_is_head) l9 c9 k9, PySem.W.mg_of X G a9, (fun_mk (st := s_is_head) l9 c9 k9).binds fun _ _ _ _ _ _ us hl => match us, hl with | [_, _], _ => rfl⟩
    F_instead := ⟨f10, _, fun_mk (st := s_instead) l10 c10 k10, PySem.W.mg_of X G a10, (fun_mk (st := s_instead) l10 c10 k10).binds fun _ _ _ _ _ _ us hl => match us, hl with | [_, _, _], _ => rfl⟩
    F_regrown := ⟨f11, _, fun_mk (st := s_regrown) l11 c11 k11, PySem.W.mg_of X G a11, (fun_mk (st := s_regrown) l11 c11 k11).binds fun _ _ _ _ _ _ us hl => match us, hl with | [_, _, _], _ => rfl⟩
    F_cut := ⟨f12, _, (fun1_mk (st := s_cut) (i := 1) l12 c12 k12 lT12), PySem.W.mg_of X G a12, fun1_all (fun1_mk (st := s_cut) (i := 1) l12 c12 k12 lT12) rfl fun _ _ _ _ _ _ _ us its h1 h2 => match us, its, h1, h2 with | [_, _, _], [_], _, _ => ⟨_, rfl, rfl⟩, fun1_one (fun1_mk (st := s_cut) (i := 1) l12 c12 k12 lT12) rfl fun _ _ _ _ _ _ _ us its h1 h2 => match us, its, h1, h2 with | [_, _], [_], _, _ => ⟨_, rfl, rfl⟩⟩
    F_least_place := ⟨f13, _, fun_mk (st := s_least_place) l13 c13 k13, PySem.W.mg_of X G a13, (fun_mk (st := s_least_place) l13 c13 k13).binds fun _ _ _ _ _ _ us hl => match us, hl with | [_], _ => rfl⟩
    F_least_head := ⟨f14, _, fun_mk (st := s_least_head) l14 c14 k14, PySem.W.mg_of X G a14, (fun_mk (st := s_least_head) l14 c14 k14).binds fun _ _ _ _ _ _ us hl => match us, hl with | [_], _ => rfl⟩
    F_once_less := ⟨f15, _, fun_mk (st := s_once_less) l15 c15 k15, PySem.W.mg_of X G a15, (fun_mk (st := s_once_less) l15 c15 k15).binds fun _ _ _ _ _ _ us hl => match us, hl with | [_], _ => rfl⟩
    F_climbed := ⟨f16, _, fun_mk (st := s_climbed) l16 c16 k16, PySem.W.mg_of X G a16, (fun_mk (st := s_climbed) l16 c16 k16).binds fun _ _ _ _ _ _ us hl => match us, hl with | [_, _], _ => rfl⟩
    F_ladder := ⟨f17, _, fun_mk (st := s_ladder) l17 c17 k17, PySem.W.mg_of X G a17, (fun_mk (st := s_ladder) l17 c17 k17).binds fun _ _ _ _ _ _ us hl => match us, hl with | [_, _], _ => rfl⟩
    F_l_points := ⟨f18, _, fun_mk (st := s_l_points) l18 c18 k18, PySem.W.mg_of X G a18, (fun_mk (st := s_l_points) l18 c18 k18).binds fun _ _ _ _ _ _ us hl => match us, hl with | [_], _ => rfl⟩
    F_l_tree := ⟨f19, _, fun_mk (st := s_l_tree) l19 c19 k19, PySem.W.mg_of X G a19, (fun_mk (st := s_l_tree) l19 c19 k19).binds fun _ _ _ _ _ _ us hl => match us, hl with | [_], _ => rfl⟩
    F_l_order := ⟨f20, _, fun_mk (st := s_l_order) l20 c20 k20, PySem.W.mg_of X G a20, (fun_mk (st := s_l_order) l20 c20 k20).binds fun _ _ _ _ _ _ us hl => match us, hl with | [_, _], _ => rfl⟩
    F_l_put := ⟨f21, _, fun_mk (st := s_l_put) l21 c21 k21, PySem.W.mg_of X G a21, (fun_mk (st := s_l_put) l21 c21 k21).binds fun _ _ _ _ _ _ us hl => match us, hl with | [_, _], _ => rfl⟩
    F_l_number := ⟨f22, _, fun_mk (st := s_l_number) l22 c22 k22, PySem.W.mg_of X G a22, (fun_mk (st := s_l_number) l22 c22 k22).binds fun _ _ _ _ _ _ us hl => match us, hl with | [_], _ => rfl⟩
    F_l_many := ⟨f23, _, fun_mk (st := s_l_many) l23 c23 k23, PySem.W.mg_of X G a23, (fun_mk (st := s_l_many) l23 c23 k23).binds fun _ _ _ _ _ _ us hl => match us, hl with | [_, _], _ => rfl⟩
    F_l_cut := ⟨f24, _, fun_mk (st := s_l_cut) l24 c24 k24, PySem.W.mg_of X G a24, (fun_mk (st := s_l_cut) l24 c24 k24).binds fun _ _ _ _ _ _ us hl => match us, hl with | [_, _, _, _], _ => rfl⟩
    F_l_least := ⟨f25, _, fun_mk (st := s_l_least) l25 c25 k25, PySem.W.mg_of X G a25, (fun_mk (st := s_l_least) l25 c25 k25).binds fun _ _ _ _ _ _ us hl => match us, hl with | [_, _, _], _ => rfl⟩
    F_l_turn := ⟨f26, _, fun_mk (st := s_l_turn) l26 c26 k26, PySem.W.mg_of X G a26, (fun_mk (st := s_l_turn) l26 c26 k26).binds fun _ _ _ _ _ _ us hl => match us, hl with | [_, _, _], _ => rfl⟩
    m_bool := PySem.W.mg_none_of X G z_bool
    m_enumerate := PySem.W.mg_none_of X G z_enumerate
    m_int := PySem.W.mg_none_of X G z_int
    m_isinstance := PySem.W.mg_none_of X G z_isinstance
    m_len := PySem.W.mg_none_of X G z_len
    m_min := PySem.W.mg_none_of X G z_min
    m_range := PySem.W.mg_none_of X G z_range
    m_sum := PySem.W.mg_none_of X G z_sum
    m_tuple := PySem.W.mg_none_of X G z_tuple
    m_zip := PySem.W.mg_none_of X G z_zip
    k_MOST_POINTS := ⟨tk_MOST_POINTS, PySem.W.mg_of X G ak_MOST_POINTS⟩
    e_NoHead := ⟨C_NoHead, PySem.W.mg_of X G ac_NoHead, xc_NoHead, kc_NoHead, sc_NoHead, tc_NoHead⟩
    e_NoNumber := ⟨C_NoNumber, PySem.W.mg_of X G ac_NoNumber, xc_NoNumber, kc_NoNumber, sc_NoNumber, tc_NoNumber⟩
    e_NoStep := ⟨C_NoStep, PySem.W.mg_of X G ac_NoStep, xc_NoStep, kc_NoStep, sc_NoStep, tc_NoStep⟩
    e_Nought := ⟨C_Nought, PySem.W.mg_of X G ac_Nought, xc_Nought, kc_Nought, sc_Nought, tc_Nought⟩
    e_TooGreat := ⟨C_TooGreat, PySem.W.mg_of X G ac_TooGreat, xc_TooGreat, kc_TooGreat, sc_TooGreat, tc_TooGreat⟩
  }
  exact ⟨_, fun s v => .of_eq rfl, fun base _ _ => law_ok T (fun_mk (st := s_law) l32 c32 k32) hl⟩
end
end Lk82
set_option Elab.async false
set_option linter.all false
set_option maxRecDepth 100000
set_option maxHeartbeats 4000000
set_option exponentiation.threshold 20
namespace Lk82
open PySem PySem.Spec L2 Pu Nm O Py
theorem who (k : Nat) : WhoOk (sem (k + 1) 0) := is_whole_step (sem k)
theorem cmp1 : ∀ k, CmpOk k (sem k 1)
  | 0 => fun _ _ h => absurd h (Nat.not_lt_zero _)
  | k + 1 => compare_step (c0 := 1) (cmp1 k)
theorem CmpOk.down {k j : Nat} {F : Fn} (h : CmpOk k F) (l : j ≤ k) : CmpOk j F := fun a b h1 => h a b (by omega)
theorem rai (k : Nat) : RaiOk (sem (k + 2) 2) := raised_step (S := sem (k + 1)) (c0 := 0) (who k)
theorem lim (k : Nat) : LimOk (sem (k + 2) 4) := is_limit_step (S := sem (k + 1)) (S2 := sem k) (c0 := 3) fun a => rfl
theorem mrg (k : Nat) : MrgOk k (sem (k + 1) 5) := merged_step (S := sem k) (c0 := 1) (cmp1 k)
theorem MrgOk.down {k j : Nat} {F : Fn} (h : MrgOk k F) (l : j ≤ k) : MrgOk j F := fun a b h1 => h a b (by omega)
theorem pts : ∀ k, PtsOk k (sem k 6)
  | 0 => fun _ h => absurd h (Nat.not_lt_zero _)
  | k + 1 => points_step (S := sem k) (c0 := 6) (pts k)
theorem hds1 : ∀ k, HdsOk k (sem k 7)
  | 0 => fun _ h => absurd h (Nat.not_lt_zero _)
  | k + 1 => heads_step (S := sem k) (c0 := 7) (hds1 k)
theorem tnu : ∀ k, LnumOk k (sem (k + 32) 8)
  | 0 => fun _ h => absurd h (Nat.not_lt_zero _)
  | k + 1 => tnt_step (S := sem (k + 32)) (c0 := 5) (c1 := 8) (c2 := 2) (MrgOk.down (mrg (k + 31)) (by omega)) (tnu k) (rai (k + 30))
theorem LnumOk.down {k j : Nat} {F : Fn} (h : LnumOk k F) (l : j ≤ k) : LnumOk j F := fun t h1 => h t (by omega)
theorem hea (k : Nat) : HeadOk (sem (k + 2) 9) := is_head_step (S := sem (k + 1)) (c0 := 0) (who k)
theorem ins (k : Nat) : InsOk (sem (k + 1) 10) := instead_step (sem k)
theorem reg : ∀ k, RegOk k (sem (k + 1) 11)
  | 0 => fun t w m h1 h2 _ _ _ => absurd h2 (by omega)
  | k + 1 => regrown_step (S := sem (k + 1)) (c0 := 10) (c1 := 11) (ins k) (reg k)
theorem RegOk.down {k j : Nat} {F : Fn} (h : RegOk k F) (l : j ≤ k) : RegOk j F := fun t w m h1 h2 => h t w m h1 (by omega)
theorem PtsOk.down {k j : Nat} {F : Fn} (h : PtsOk k F) (l : j ≤ k) : PtsOk j F := fun t ht => h t (by omega)
theorem cutk (k : Nat) : CutOk 50 (sem (k + 90) 12) := cut_step (S := sem (k + 89)) (c0 := 9) (c1 := 0) (c2 := 10) (c3 := 6) (c4 := 11) (hea (k + 87)) (who (k + 88)) (ins (k + 88)) (PtsOk.down (pts (k + 89)) (by omega)) (RegOk.down (reg (k + 88)) (by omega))
theorem lpl (k : Nat) : LplOk k (sem (k + 33) 13) := least_place_step (S := sem (k + 32)) (c0 := 8) (c1 := 1) (tnu k) (CmpOk.down (cmp1 (k + 32)) (by omega))
theorem lhd (k : Nat) : LhOk k (sem (k + 34) 14) := least_head_step (S := sem (k + 33)) (c0 := 13) (lpl k)
theorem prd (k : Nat) : PredOk (sem (k + 1) 15) := once_less_step (sem k)
theorem clm : ∀ k, ClimbOk k (sem (k + 5) 16)
  | 0 => fun a n na az ah => by
    cases a with
    | z => exact absurd rfl az
    | c e m r => have : (O.c e m r).h = max (e.h + 1) r.h := rfl; omega
  | k + 1 => climbed_step (S := sem (k + 5)) (c0 := 15) (c1 := 4) (c2 := 16) (c3 := 2) (prd (k + 4)) (lim (k + 3)) (clm k) (rai (k + 3))
theorem lad (k : Nat) : LadOk (sem (k + 90) 17) := ladder_step (S := sem (k + 89)) (c0 := 0) (c1 := 16) (k := k + 84) (by omega) (who (k + 88)) (clm (k + 84))
theorem ptl : ∀ k, PtlOk k (sem k 18)
  | 0 => fun _ h => absurd h (Nat.not_lt_zero _)
  | k + 1 => l_points_step (S := sem k) (c0 := 18) (ptl k)
theorem pll (k : Nat) : PtlL k (sem (k + 1) 18) := l_points_list (S := sem k) (c0 := 18) (ptl k)
theorem or3 : ∀ k, Or3 k (sem k 20)
  | 0 => fun _ _ h => absurd h (Nat.not_lt_zero _)
  | k + 1 => ord3_step (S := sem k) (c0 := 20) (or3 k)
theorem Or3.down {k j : Nat} {F : Fn} (h : Or3 k F) (l : j ≤ k) : Or3 j F := fun a b h1 => h a b (by omega)
theorem ptt (k : Nat) : PutTOk 31 (sem (k + 32) 21) := l_put3_step (S := sem (k + 31)) (c0 := 20) (Or3.down (or3 (k + 31)) (by omega))
theorem lnu : ∀ k, Lnum3 k (sem (k + 32) 22)
  | 0 => fun _ h => absurd h (Nat.not_lt_zero _)
  | k + 1 => ltn3_step (S := sem (k + 32)) (c0 := 21) (c1 := 22) (ptt k) (lnu k)
theorem mrg_size : ∀ a b : O, (mrgO a b).size ≤ a.size + b.size
  | .z, b => by rw [mrgO]; exact Nat.le_add_left _ _
  | .c e n r, .z => by rw [mrg_z]; exact Nat.le_add_right _ _
  | .c e n r, .c e' n' r' => by
    have s1 : (O.c e n r).size = 1 + e.size + r.size := rfl
    have s2 : (O.c e' n' r').size = 1 + e'.size + r'.size := rfl
    rcases cmp_tri e e' with c | c | c
    · have h := mrg_size (.c e n r) r'
      rw [mrg_lt c]
      show 1 + e'.size + (mrgO (.c e n r) r').size ≤ _
      omega
    · subst c
      have h := mrg_size r r'
      rw [mrg_eq]
      show 1 + e.size + (mrgO r r').size ≤ _
      omega
    · have h := mrg_size r (.c e' n' r')
      rw [mrg_gt c]
      show 1 + e.size + (mrgO r (.c e' n' r')).size ≤ _
      omega
termination_by a b => a.len + b.len
decreasing_by all_goals (simp only [O.len]; omega)
theorem num_size : ∀ t : T, (numO t).size + 1 ≤ t.pts
  | .z => Nat.le_refl _
  | .c b r => by
    have h1 := num_size b
    have h2 := num_size r
    have h3 := mrg_size (.c (numO b) 1 .z) (numO r)
    have s1 : (O.c (numO b) 1 .z).size = 1 + (numO b).size + 0 := rfl
    show (mrgO (.c (numO b) 1 .z) (numO r)).size + 1 ≤ b.pts + r.pts
    omega
def plP (l : List PyData) : PyData := .dict [(.none, .tuple [.str "Play", .dict [(.str "trees", .list l)]])]
theorem at_last {α : Type} (xs : List α) (x : α) : atI (xs ++ [x]) (-1) = some x := by
  unfold atI ixN
  rw [if_neg (by decide), List.length_append, List.length_singleton, if_pos (by omega), Option.bind_some, show ((-1 : Int) + ((xs.length + 1 : Nat) : Int)).toNat = xs.length by omega, List.getElem?_append_right (Nat.le_refl _), Nat.sub_self]
  rfl
theorem md {m : Str} {F : List PyData → R PyData} (h : ("trees" : Str) ≠ m) (l : List PyData) : mDef m [("Play", F)] (plP l) = some F := by
  have e : valD [(PyData.str "trees", PyData.list l)] (.inr m) = none := by
    unfold valD
    simp [keyD, h]
  unfold plP mDef
  show (if (valD [(PyData.str "trees", PyData.list l)] (.inr m)).isSome = true then none else _) = _
  rw [e]
  rfl
theorem cpl : cls_all.contains ("Play" : Str) = true := by decide +kernel
theorem gf (l : List PyData) : gFld "trees" cls_all (plP l) = some (.list l) := by
  unfold plP gFld
  show (if cls_all.contains ("Play" : Str) = true then valD [(PyData.str "trees", PyData.list l)] (.inr "trees") else none) = _
  rw [if_pos cpl]
  unfold valD
  simp [keyD]
theorem inf (l : List PyData) : insF (plP l) = some (("Play" : Str), ("trees" : Str), PyData.list l) := rfl
theorem fnDP1 {N : Nat} {g : Vars → Out} {ds : List PyData} {ks : List Bool} {d P : PyData} (hk : ltS 0 ks = [0]) (h : g (ds.map some ++ List.replicate (N - ds.length) none) = .rt (.tuple [d, .dict [(.int 0, P)]])) : fnDP N (ltS 0 ks) g ds = .ok (.tuple [d, P]) := by
  unfold fnDP
  rw [h, hk]; rfl
theorem fnDP2 {N : Nat} {g : Vars → Out} {ds : List PyData} {ks : List Bool} {d P Q : PyData} (hk : ltS 0 ks = [0, 1]) (h : g (ds.map some ++ List.replicate (N - ds.length) none) = .rt (.tuple [d, .dict [(.int 0, P), (.int 1, Q)]])) : fnDP N (ltS 0 ks) g ds = .ok (.tuple [d, P, Q]) := by
  unfold fnDP
  rw [h, hk]; rfl
theorem fapp {l : List PyData} {d : PyData} {ρ : Vars} {fe : Vars → R PyData} (h0 : ρ.getD 0 none = some (plP l)) (hf : fe ρ = .ok d) (hl : l.length < 1000) (im : imm d = true) : sFApp 0 "trees" cls_all fe ρ = .nx (ρ.set 0 (some (plP (l ++ [d])))) := by
  have l1 : l.length < sizeLine := sz1000' (by omega)
  unfold sFApp
  rw [h0, Option.bind_some, inf]
  dsimp only
  rw [cpl, decide_eq_true rfl, decide_eq_true l1, hf, R.run_ok, im]
  rfl
theorem fpop {l : List PyData} {ρ : Vars} (h0 : ρ.getD 0 none = some (plP l)) (hl : 0 < l.length) : sFPop 0 "trees" cls_all ρ = .nx (ρ.set 0 (some (plP l.dropLast))) := by
  unfold sFPop
  rw [h0, Option.bind_some, inf]
  dsimp only
  rw [cpl, decide_eq_true rfl, decide_eq_true hl]
  rfl
theorem t_tree (k : Nat) (l : List PyData) (d : PyData) : sem (k + 1) 28 [plP (l ++ [d])] = .ok d := by
  rw [sem_Play_tree]
  refine fnD_of ?_
  have h := gf (l ++ [d])
  generalize plP (l ++ [d]) = P at *
  unfold g_Play_tree
  simp [h, at_last]
theorem t_cut {k : Nat} {l : List PyData} {d c n W M : PyData} (hl : l.length < 999) (h1 : sem k 12 [d, W, M] = .ok c) (im : imm c = true) (h2 : sem k 8 [c] = .ok n) : sem (k + 1) 29 [plP (l ++ [d]), W, M] = .ok (.tuple [n, plP (l ++ [d] ++ [c])]) := by
  rw [sem_Play_cut]
  refine fnDP1 rfl ?_
  have h := gf (l ++ [d])
  have e0 : (sSet [0, 1000] 3 (eFn (sem k 12) (aCons (eOp gIx (eFld "trees" cls_all (eVar 0)) (eNeg (eC (.int 1)))) (aCons (eVar 1) (aCons (eVar 2) aNil))))) (List.map some [plP (l ++ [d]), W, M] ++ List.replicate (4 - [plP (l ++ [d]), W, M].length) none) = .nx [some (plP (l ++ [d])), some W, some M, some c] := by
    generalize plP (l ++ [d]) = P at *
    simp [h, at_last, h1, im]
  have e1 := fapp (ρ := [some (plP (l ++ [d])), some W, some M, some c]) (fe := eVar 3) (d := c) rfl rfl (by simp; omega) im
  unfold g_Play_cut
  rw [u_sSeq, e0, Out.then_nx, u_sSeq, e1, Out.then_nx]
  generalize plP (l ++ [d] ++ [c]) = P
  simp [mask, h2]
theorem t_back {k : Nat} {l : List PyData} {d e n : PyData} (h2 : sem k 8 [d] = .ok n) (im : imm n = true) : sem (k + 1) 30 [plP (l ++ [d] ++ [e])] = .ok (.tuple [n, plP (l ++ [d])]) := by
  rw [sem_Play_back]
  refine fnDP1 rfl ?_
  have h := gf (l ++ [d] ++ [e])
  have h' := gf (l ++ [d])
  have e0 : (sIf (tOf (eOp gEq (eCall gLen (aCons (eFld "trees" cls_all (eVar 0)) aNil)) (eC (.int 1)))) (sRaise "NoStep") sNil) (List.map some [plP (l ++ [d] ++ [e])] ++ List.replicate (1 - [plP (l ++ [d] ++ [e])].length) none) = .nx [some (plP (l ++ [d] ++ [e]))] := by
    generalize plP (l ++ [d] ++ [e]) = P at *
    simp [h]
    omega
  have e1 := fpop (ρ := [some (plP (l ++ [d] ++ [e]))]) rfl (by simp)
  rw [List.dropLast_concat] at e1
  unfold g_Play_back
  rw [u_sSeq, e0, Out.then_nx, u_sSeq, e1, Out.then_nx]
  show (sRetPi [0] _) [some (plP (l ++ [d]))] = _
  generalize plP (l ++ [d]) = P at *
  simp [h', at_last, h2, im]
theorem t_numbers {k : Nat} {ts : List T} (h : ∀ t ∈ ts, sem k 8 [ten t] = .ok (enc (numO t))) (hl : ts.length < 1000) : sem (k + 1) 31 [plP (ts.map ten)] = .ok (.list (ts.map fun t => enc (numO t))) := by
  rw [sem_Play_numbers]
  refine fnD_of ?_
  have g := gf (ts.map ten)
  generalize plP (ts.map ten) = P at *
  have e1 : lcL (gtName 1) tYesD (eFn (sem k 8) (aCons (eVar 1) aNil)) [some P, none] (ts.map ten) = .ok (ts.map fun t => enc (numO t)) := by
    have := lc_gen (ps := ts) (E := ten) (ρ := [some P, none]) (i := 1) (tt := tYesD) (f := eFn (sem k 8) (aCons (eVar 1) aNil)) (P := fun _ => true) (F := fun t => enc (numO t)) (fun _ _ => rfl) fun b hb _ => by
      simp [h b hb]
    rw [List.filter_eq_self.mpr fun _ _ => rfl] at this
    exact this
  have s1 : ts.length < sizeLine := sz1000' (by omega)
  unfold g_Play_numbers
  simp [g, e1, s1]
theorem methS {m : Str} {F : List PyData → R PyData} {l : List PyData} {f : Vars → R (List PyData)} {ρ : Vars} {ds : List PyData} {v P' : PyData} (hm : ("trees" : Str) ≠ m) (h0 : ρ.getD 0 none = some (plP l)) (hf : f ρ = .ok ds) (hF : F (plP l :: ds) = .ok (.tuple [v, P'])) : oMethS m [("Play", F)] 0 [] f ρ = .ok v (ρ.set 0 (some P')) := by
  unfold oMethS
  rw [h0]
  dsimp only
  rw [inf, Option.bind_some, md hm]
  dsimp only
  rw [hf]
  dsimp only
  rw [hF]
  rfl
theorem t_lcut {k : Nat} {l nl : List PyData} {t c : T} {W M : PyData} (hl : nl.length < 900) (h1 : sem (k + 1) 29 [plP (l ++ [ten t]), W, M] = .ok (.tuple [enc (numO c), plP (l ++ [ten t] ++ [ten c])])) (h2 : sem (k + 1) 22 [ten c] = .ok (enc (numO c))) (h3 : sem (k + 1) 20 [enc (numO c), enc (numO t)] = .ok (.int (-1))) (hh : (numO c).h ≤ 30) :
    sem (k + 2) 24 [plP (l ++ [ten t]), .list (nl ++ [enc (numO t)]), W, M] = .ok (.tuple [.bool true, plP (l ++ [ten t] ++ [ten c]), .list (nl ++ [enc (numO t)] ++ [enc (numO c)])]) := by
  rw [sem_l_cut]
  refine fnDP2 rfl ?_
  have e0 := methS (m := "cut") (F := sem (k + 1) 29) (f := (aM [0, 1, 1000, 1001] (eVar 2) (aM [0, 1, 1000, 1001] (eVar 3) aNil))) (ρ := List.map some [plP (l ++ [ten t]), .list (nl ++ [enc (numO t)]), W, M] ++ List.replicate (5 - [plP (l ++ [ten t]), .list (nl ++ [enc (numO t)]), W, M].length) none) (by decide) rfl rfl h1
  have e1 := t_tree k (l ++ [ten t]) (ten c)
  have e2 := md (m := "tree") (F := sem (k + 1) 28) (by decide) (l ++ [ten t] ++ [ten c])
  have g1 := gNe_enc (a := numO c) (b := numO c) (by omega) (by omega)
  rw [decide_eq_true rfl] at g1
  have l1 : nl.length + 1 < sizeLine := sz1000' (by omega)
  have t0 : (soSet 4 (oMethS "cut" [("Play", sem (k + 1) 29)] 0 [] (aM [0, 1, 1000, 1001] (eVar 2) (aM [0, 1, 1000, 1001] (eVar 3) aNil)))) (List.map some [plP (l ++ [ten t]), .list (nl ++ [enc (numO t)]), W, M] ++ List.replicate (5 - [plP (l ++ [ten t]), .list (nl ++ [enc (numO t)]), W, M].length) none) = .nx [some (plP (l ++ [ten t] ++ [ten c])), some (.list (nl ++ [enc (numO t)])), some W, some M, some (enc (numO c))] := by
    unfold soSet
    rw [e0]; rfl
  unfold g_l_cut
  rw [u_sSeq, t0, Out.then_nx, u_sSeq]
  generalize plP (l ++ [ten t] ++ [ten c]) = P at *
  clear t0 e0 h1
  generalize sem (k + 1) = S at *
  generalize hc : enc (numO c) = C at *
  generalize enc (numO t) = D at *
  have t1 : (sIf (tOrR (tOf (eOp gNe (eVar 4) (eFn (S 22) (aCons (eMeth "tree" [("Play", S 28)] (eVar 0) aNil) aNil)))) (tOf (eOp gNe (eFn (S 20) (aCons (eVar 4) (aCons (eOp gIx (eVar 1) (eNeg (eC (.int 1)))) aNil))) (eNeg (eC (.int 1)))))) (sRetP [0, 1] [0, 1, 1000, 1001] (eC (.bool false))) sNil) [some P, some (.list (nl ++ [D])), some W, some M, some C] = .nx [some P, some (.list (nl ++ [D])), some W, some M, some C] := by
    simp [e2, e1, h2, g1, at_last, h3]
  rw [t1, Out.then_nx, u_sSeq]
  have t2 : (sAppM [0, 1, 1000, 1001] 1 (eVar 4)) [some P, some (.list (nl ++ [D])), some W, some M, some C] = .nx [some P, some (.list (nl ++ [D] ++ [C])), some W, some M, some C] := by
    simp [mask, l1]
  rw [t2, Out.then_nx]
  simp
theorem h_le {t : T} (h : t.dp ≤ 9) : (numO t).h ≤ 9 := Nat.le_trans (num_h t) h
theorem n8 (k : Nat) {t : T} (hd : t.dp ≤ 9) (hp : t.pts ≤ 800) : sem (k + 90) 8 [ten t] = .ok (enc (numO t)) := tnu (k + 58) t (by omega) (thin_of _ _ (by omega)) hp
theorem n22 (k : Nat) {t : T} (hd : t.dp ≤ 9) (hp : t.pts ≤ 800) : sem (k + 90) 22 [ten t] = .ok (enc (numO t)) := lnu (k + 58) t (by omega) (by omega) hp
theorem lcut_of (k : Nat) {l nl : List PyData} {t c : T} {W M : PyData} (hl : l.length < 900) (hn : nl.length < 900) (h1 : sem (k + 90) 12 [ten t, W, M] = .ok (ten c)) (hc : cmp (numO c) (numO t) = -1) (hd : c.dp ≤ 9) (hp : c.pts ≤ 700) :
    sem (k + 92) 24 [plP (l ++ [ten t]), .list (nl ++ [enc (numO t)]), W, M] = .ok (.tuple [.bool true, plP (l ++ [ten t] ++ [ten c]), .list (nl ++ [enc (numO t)] ++ [enc (numO c)])]) := by
  have hh := h_le hd
  have hw := num_wd 700 c hp
  refine t_lcut (k := k + 90) hn (t_cut (by omega) h1 (ten_imm c) (n8 k hd (by omega))) (n22 (k + 1) hd (by omega)) ?_ (by omega)
  rw [← hc]
  exact or3 (k + 91) _ _ (by omega) (by omega)
theorem cut_w (k : Nat) {t : T} {w : List Nat} {m : Nat} (hd : t.dp ≤ 9) (hw : w ≠ []) (hs : sub t w = some .z) (hp : t.pts + m * t.pts ≤ 600) :
    ∃ c : T, c.dp ≤ 9 ∧ c.pts ≤ t.pts + m * t.pts ∧ ∀ l nl : List PyData, l.length < 900 → nl.length < 900 → sem (k + 92) 24 [plP (l ++ [ten t]), .list (nl ++ [enc (numO t)]), .tuple (w.map Dn), Dn m] = .ok (.tuple [.bool true, plP (l ++ [ten t] ++ [ten c]), .list (nl ++ [enc (numO t)] ++ [enc (numO c)])]) := by
  obtain ⟨c, e, lt, cd, cp⟩ := cut_any (cutk k) hw hs (by omega) hp
  exact ⟨c, by omega, by omega, fun l nl hl hn => lcut_of k hl hn e lt (by omega) (by omega)⟩
theorem t_lleast (k : Nat) {l nl : List PyData} {t : T} {m : Nat} (hz : t ≠ .z) (hd : t.dp ≤ 9) (hp : t.pts + m * t.pts ≤ 600) (hl : l.length < 900) (hn : nl.length < 900) :
    ∃ c : T, c.dp ≤ 9 ∧ c.pts ≤ t.pts + m * t.pts ∧ (m = 0 → c.pts + 1 = t.pts) ∧ sem (k + 93) 25 [plP (l ++ [ten t]), .list (nl ++ [enc (numO t)]), Dn m] = .ok (.tuple [.bool true, plP (l ++ [ten t] ++ [ten c]), .list (nl ++ [enc (numO t)] ++ [enc (numO c)])]) := by
  obtain ⟨w, ew, hw, L⟩ := (lhd (k + 58)).yes t hz (by omega) (by omega) (by omega)
  have hs := L.sub
  have lw : 1 ≤ w.length := Nat.pos_of_ne_zero fun z => hw (List.eq_nil_of_length_eq_zero z)
  obtain ⟨c, ec, en, lt, cd, cp, c0⟩ : ∃ c : T, sem (k + 90) 12 [ten t, .tuple (w.map Dn), Dn m] = .ok (ten c) ∧ numO c = rung (numO t) ((m : Int) + 1) ∧ cmp (numO c) (numO t) = -1 ∧ c.dp ≤ 9 ∧ c.pts ≤ t.pts + m * t.pts ∧ (m = 0 → c.pts + 1 = t.pts) := by
    by_cases l1 : w.length = 1
    · obtain ⟨j, rfl⟩ : ∃ j, w = [j] := by
        match w, l1 with
        | [j], _ => exact ⟨j, rfl⟩
      have p1 := one_pts hs
      exact ⟨_, (cutk k).one t j m (by omega) hs, least_one (by omega) L, one_less hs, putL_dp (by omega) (fun _ h => by cases h), by omega, fun _ => by omega⟩
    · have hw2 : 2 ≤ w.length := by omega
      obtain ⟨b, hb, _⟩ := sub_take (w.length - 1) hs
      have bp := sub_pts hb
      have p1 := rg_pts w t b m hw2 hs hb
      have mb : m * (b.pts - 1) ≤ m * t.pts := Nat.mul_le_mul_left _ (by omega)
      have := rg_dp w t m hw2 hs
      refine ⟨_, (cutk k).grow t b w m (by omega) (by omega) hw2 hs hb (by omega), least_rg w t m hw2 L, rg_less w t m hw2 hs, by omega, by omega, fun m0 => ?_⟩
      subst m0
      omega
  refine ⟨c, cd, cp, c0, ?_⟩
  have e1 := lcut_of k (l := l) (nl := nl) hl hn ec lt cd (by omega)
  have e2 := t_tree (k + 91) l (ten t)
  have hnz : numO t ≠ .z := fun z => hz (num_z.mp z)
  have hh := h_le hd
  have hsz := num_size t
  have e3 := (lad (k + 2)).yes (numO t) ((m : Int) + 1) (num_nf t) hnz (by omega) (by omega) (by omega)
  rw [← en] at e3
  have g1 := gEq_enc (a := numO c) (b := numO c) (by have := h_le cd; omega) (by have := h_le cd; omega)
  rw [decide_eq_true rfl] at g1
  have im := enc_imm (numO c)
  have imw : imm (.tuple (w.map Dn)) = true := by
    show imms (w.map Dn) = true
    clear ew hw L hs lw e1 ec
    induction w with
    | nil => rfl
    | cons a w ih => exact ih
  rw [sem_l_least]
  refine fnDP2 rfl ?_
  have mt := md (m := "tree") (F := sem (k + 92) 28) (by decide) (l ++ [ten t])
  have ew' : sem (k + 92) 14 [ten t] = .ok (.tuple (w.map Dn)) := ew
  have e3' : sem (k + 92) 17 [enc (numO t), .int ((m : Int) + 1)] = .ok (enc (numO c)) := e3
  have e2' : sem (k + 92) 28 [plP (l ++ [ten t])] = .ok (ten t) := e2
  clear ew e3 e2
  generalize sem (k + 92) = S at *
  generalize plP (l ++ [ten t]) = P at *
  generalize plP (l ++ [ten t] ++ [ten c]) = P' at *
  generalize PyData.tuple (w.map Dn) = WD at *
  generalize hce : enc (numO c) = C at *
  generalize enc (numO t) = D at *
  unfold g_l_least
  rw [u_sSeq]
  have t0 : (sSet [0, 1, 1000, 1001] 3 (eFn (S 17) (aCons (eOp gIx (eVar 1) (eNeg (eC (.int 1)))) (aCons (eOp gAdd (eVar 2) (eC (.int 1))) aNil)))) (List.map some [P, .list (nl ++ [D]), Dn m] ++ List.replicate (4 - [P, .list (nl ++ [D]), Dn m].length) none) = .nx [some P, some (.list (nl ++ [D])), some (Dn m), some C] := by
    simp [at_last, e3', im]
  rw [t0, Out.then_nx]
  have al : atI (nl ++ [D, C]) (-1) = some C := by
    have := at_last (nl ++ [D]) C
    rwa [List.append_assoc] at this
  simp [mt, e2', ew', e1, imw, mask, al, g1, imm]
theorem many (k : Nat) (c : Int) (p : Nat) (hp : p ≤ 90) : ∃ m : Nat, sem (k + 1) 23 [.int c, .int (p : Nat)] = .ok (Dn m) ∧ p + m * p ≤ 90 := by
  rw [sem_l_many]
  have d4 : ∀ i : Int, cDiv i 4 = true := fun i => cDiv_of 10 (by decide) (by decide) (by decide) (by decide)
  have m4 : ∀ i : Int, cMod i 4 = true := fun i => cMod_of (by decide)
  have m21 : ∀ i : Int, cMod i 21 = true := fun i => cMod_of (by decide)
  have m3 : ∀ i : Int, cMod i 3 = true := fun i => cMod_of (by decide)
  by_cases h1 : 12 < p
  · refine ⟨0, fnD_of ?_, by omega⟩
    have : (12 : Int) < (p : Nat) := by omega
    unfold g_l_many
    simp [this]
  · have n1 : ¬ (12 : Int) < (p : Nat) := by omega
    by_cases h2 : p ≤ 4 ∧ c % 4 = 0
    · obtain ⟨m, e, l⟩ := mod_nat (n := 21) (by decide) (c / 4)
      have mp : m * p ≤ 20 * 4 := Nat.mul_le_mul (by omega) h2.1
      refine ⟨m, fnD_of ?_, by omega⟩
      have a1 : ((p : Nat) : Int) ≤ 4 := by omega
      unfold g_l_many
      have e' : c / 4 % 21 = (m : Nat) := e
      simp [n1, a1, h2.2, m4, d4, m21, e']
    · obtain ⟨m, e, l⟩ := mod_nat (n := 3) (by decide) (c / 4)
      have mp : m * p ≤ 2 * 12 := Nat.mul_le_mul (by omega) (by omega)
      refine ⟨m, fnD_of ?_, by omega⟩
      unfold g_l_many
      by_cases a1 : p ≤ 4
      · have a1' : ((p : Nat) : Int) ≤ 4 := by omega
        have a2 : ¬ c % 4 = 0 := fun z => h2 ⟨a1, z⟩
        have e' : c / 4 % 3 = (m : Nat) := e
        simp [n1, a1', a2, m4, d4, m3, e']
      · have a1' : ¬ ((p : Nat) : Int) ≤ 4 := by omega
        have e' : c / 4 % 3 = (m : Nat) := e
        simp [n1, a1', d4, m3, e']
theorem hds_ne {t : T} (h : t ≠ .z) : ∀ i, hds i t ≠ [] := by
  induction t with
  | z => exact absurd rfl h
  | c b r ihb _ =>
    intro i z
    rw [hds] at z
    have := (List.append_eq_nil_iff.mp z).1
    by_cases q : b = .z
    · rw [if_pos q] at this; cases this
    · rw [if_neg q] at this
      exact ihb q 0 (List.map_eq_nil_iff.mp this)
theorem t_turn (k : Nat) {l nl : List PyData} {t : T} {x : Int} (hz : t ≠ .z) (hd : t.dp ≤ 9) (hp : t.pts ≤ 90) (hl : l.length < 900) (hn : nl.length < 900) :
    ∃ c : T, c.dp ≤ 9 ∧ c.pts ≤ 90 ∧ (sem (k + 94) 26 [plP (l ++ [ten t]), .list (nl ++ [enc (numO t)]), .int x] = .ok (.tuple [.bool true, plP (l ++ [ten t] ++ [ten c]), .list (nl ++ [enc (numO t)] ++ [enc (numO c)])]) ∨
      sem (k + 94) 26 [plP (l ++ [ten t]), .list (nl ++ [enc (numO t)]), .int x] = .ok (.tuple [.bool true, plP (l ++ [ten t]), .list (nl ++ [enc (numO t)])])) := by
  have d21 : cDiv x 21 = true := cDiv_of 10 (by decide) (by decide) (by decide) (by decide)
  have m3 : cMod x 3 = true := cMod_of (by decide)
  have m7 : cMod x 7 = true := cMod_of (by decide)
  obtain ⟨m, em, mb⟩ := many (k + 92) (x / 21) t.pts hp
  have et := t_tree (k + 92) l (ten t)
  have ep := ptl (k + 93) t (by omega) (by omega)
  have eh := hds1 (k + 93) t (by omega) (by omega) (by omega)
  have mt := md (m := "tree") (F := sem (k + 93) 28) (by decide) (l ++ [ten t])
  have imt := ten_imm t
  have hlen : (hds 0 t).length ≠ 0 := fun z => hds_ne hz 0 (List.eq_nil_of_length_eq_zero z)
  obtain ⟨j, ej, jl⟩ := mod_nat (n := (hds 0 t).length) (by omega) (x / 21)
  have cm : cMod (x / 21) ((hds 0 t).length : Int) = true := cMod_of (by omega)
  obtain ⟨w, hw⟩ : ∃ w, (hds 0 t)[j]? = some w := ⟨_, List.getElem?_eq_getElem jl⟩
  obtain ⟨wn, ws⟩ := hds_lead (List.mem_of_getElem? hw)
  have aw : atI ((hds 0 t).map wD) (j : Int) = some (.tuple (w.map Dn)) := L2.atI_nat (by rw [List.getElem?_map, hw]; rfl)
  -- the cut
  obtain ⟨c, cd, cp, ec⟩ : ∃ c : T, c.dp ≤ 9 ∧ c.pts ≤ t.pts + m * t.pts ∧ ∀ y6 : Option PyData, (sIf (tOf (eOp gEq (eOp gMod (eVar 2) (eC (.int 3))) (eC (.int 0)))) (soSet 6 (oCallP (sem (k + 93) 25) [0, 1] (aL 0 (aL 1 (aM [0, 1, 1000, 1001] (eVar 4) aNil))))) (soSet 6 (oCallP (sem (k + 93) 24) [0, 1] (aL 0 (aL 1 (aM [0, 1, 1000, 1001] (eOp gIx (eVar 5) (eOp gMod (eOp gDiv (eVar 2) (eC (.int 21))) (eCall gLen (aCons (eVar 5) aNil)))) (aM [0, 1, 1000, 1001] (eVar 4) aNil))))))) [some (plP (l ++ [ten t])), some (.list (nl ++ [enc (numO t)])), some (.int x), some (ten t), some (Dn m), some (.list ((hds 0 t).map wD)), y6] =
      .nx [some (plP (l ++ [ten t] ++ [ten c])), some (.list (nl ++ [enc (numO t)] ++ [enc (numO c)])), some (.int x), some (ten t), some (Dn m), some (.list ((hds 0 t).map wD)), some (.bool true)] := by
    by_cases q : x % 3 = 0
    · obtain ⟨c, cd, cp, _, ec⟩ := t_lleast k (m := m) hz hd (by omega) hl hn
      refine ⟨c, cd, cp, fun y6 => ?_⟩
      generalize sem (k + 93) = S at *
      generalize plP (l ++ [ten t]) = P at *
      generalize plP (l ++ [ten t] ++ [ten c]) = P' at *
      generalize PyData.list (nl ++ [enc (numO t)] ++ [enc (numO c)]) = N' at *
      simp [m3, q, mask, ec]
    · obtain ⟨c, cd, cp, ec⟩ := cut_w (k + 1) (m := m) hd wn ws (by omega)
      have ec := ec l nl hl hn
      refine ⟨c, cd, cp, fun y6 => ?_⟩
      have ec' : sem (k + 93) 24 [plP (l ++ [ten t]), .list (nl ++ [enc (numO t)]), .tuple (w.map Dn), Dn m] = .ok (.tuple [.bool true, plP (l ++ [ten t] ++ [ten c]), .list (nl ++ [enc (numO t)] ++ [enc (numO c)])]) := ec
      clear ec
      generalize sem (k + 93) = S at *
      generalize plP (l ++ [ten t]) = P at *
      generalize plP (l ++ [ten t] ++ [ten c]) = P' at *
      generalize PyData.list (nl ++ [enc (numO t)] ++ [enc (numO c)]) = N' at *
      generalize PyData.tuple (w.map Dn) = WD at *
      simp [m3, q, mask, d21, cm, ej, aw, ec']
  have h9 := h_le hd
  have g1 := gEq_enc (a := numO t) (b := numO t) (by omega) (by omega)
  rw [decide_eq_true rfl] at g1
  have g2 := gEq_ten (s := t) (t := t) (by omega) (by omega)
  rw [decide_eq_true rfl] at g2
  have imn := enc_imm (numO t)
  have eb := t_back (k := k + 92) (l := l) (e := ten c) (n8 (k + 2) hd (by omega)) imn
  refine ⟨c, cd, by omega, ?_⟩
  have t0 : (sSet [0, 1, 1000, 1001] 3 (eMeth "tree" [("Play", sem (k + 93) 28)] (eVar 0) aNil)) (List.map some [plP (l ++ [ten t]), .list (nl ++ [enc (numO t)]), .int x] ++ List.replicate (7 - [plP (l ++ [ten t]), .list (nl ++ [enc (numO t)]), .int x].length) none) = .nx [some (plP (l ++ [ten t])), some (.list (nl ++ [enc (numO t)])), some (.int x), some (ten t), none, none, none] := by
    generalize sem (k + 93) = S at *
    generalize plP (l ++ [ten t]) = P at *
    simp [mt, et, imt]
  have t1 : (sSetM [0, 1, 1000, 1001] 4 (eFn (sem (k + 93) 23) (aCons (eOp gDiv (eVar 2) (eC (.int 21))) (aCons (eFn (sem (k + 93) 18) (aCons (eVar 3) aNil)) aNil)))) [some (plP (l ++ [ten t])), some (.list (nl ++ [enc (numO t)])), some (.int x), some (ten t), none, none, none] = .nx [some (plP (l ++ [ten t])), some (.list (nl ++ [enc (numO t)])), some (.int x), some (ten t), some (Dn m), none, none] := by
    simp [mask, d21, ep, em]
  have t2 : (sSetM [0, 1, 1000, 1001] 5 (eFn (sem (k + 93) 7) (aCons (eVar 3) aNil))) [some (plP (l ++ [ten t])), some (.list (nl ++ [enc (numO t)])), some (.int x), some (ten t), some (Dn m), none, none] = .nx [some (plP (l ++ [ten t])), some (.list (nl ++ [enc (numO t)])), some (.int x), some (ten t), some (Dn m), some (.list ((hds 0 t).map wD)), none] := by
    simp [mask, eh]
  rw [sem_l_turn]
  by_cases q : x % 7 = 5
  · refine .inr (fnDP2 rfl ?_)
    unfold g_l_turn
    rw [u_sSeq, t0, Out.then_nx, u_sSeq, t1, Out.then_nx, u_sSeq, t2, Out.then_nx, u_sSeq, ec, Out.then_nx, u_sSeq]
    have e3 : oMethS "back" [("Play", sem (k + 93) 30)] 0 [] aNil [some (plP (l ++ [ten t] ++ [ten c])), some (.list (nl ++ [enc (numO t)])), some (.int x), some (ten t), some (Dn m), some (.list ((hds 0 t).map wD)), some (.bool true)] = .ok (enc (numO t)) [some (plP (l ++ [ten t])), some (.list (nl ++ [enc (numO t)])), some (.int x), some (ten t), some (Dn m), some (.list ((hds 0 t).map wD)), some (.bool true)] := methS (m := "back") (F := sem (k + 93) 30) (f := aNil) (ρ := [some (plP (l ++ [ten t] ++ [ten c])), some (.list (nl ++ [enc (numO t)])), some (.int x), some (ten t), some (Dn m), some (.list ((hds 0 t).map wD)), some (.bool true)]) (by decide) rfl rfl eb
    have et' : sem (k + 93) 28 [plP (l ++ [ten t])] = .ok (ten t) := et
    have al := at_last nl (enc (numO t))
    have dl : (nl ++ [enc (numO t)] ++ [enc (numO c)]).dropLast = nl ++ [enc (numO t)] := List.dropLast_concat
    have pl : 0 < (nl ++ [enc (numO t)] ++ [enc (numO c)]).length := by simp
    generalize nl ++ [enc (numO t)] ++ [enc (numO c)] = N' at *
    generalize nl ++ [enc (numO t)] = N at *
    have t4 : (sIf (tAndR (tTru (eVar 6)) (tOf (eOp gEq (eOp gMod (eVar 2) (eC (.int 7))) (eC (.int 5))))) (sSeq (sPopL 1) (soSet 6 (oAnd (oOp gEq (oMethS "back" [("Play", sem (k + 93) 30)] 0 [] aNil) (oI (eOp gIx (eVar 1) (eNeg (eC (.int 1)))))) (oI (eOp gEq (eMeth "tree" [("Play", sem (k + 93) 28)] (eVar 0) aNil) (eVar 3)))))) sNil) [some (plP (l ++ [ten t] ++ [ten c])), some (.list N'), some (.int x), some (ten t), some (Dn m), some (.list ((hds 0 t).map wD)), some (.bool true)] = .nx [some (plP (l ++ [ten t])), some (.list N), some (.int x), some (ten t), some (Dn m), some (.list ((hds 0 t).map wD)), some (.bool true)] := by
      generalize oMethS "back" [("Play", sem (k + 93) 30)] 0 [] aNil = B at *
      generalize plP (l ++ [ten t]) = P at *
      generalize plP (l ++ [ten t] ++ [ten c]) = P' at *
      clear ec t0 t1 t2 eb
      generalize enc (numO t) = C at *
      generalize ten t = D at *
      simp [m7, q, pl, dl, e3, al, imn, g1, mt, et', g2, imm]
    rw [t4, Out.then_nx]
    simp [mask]
  · refine .inl (fnDP2 rfl ?_)
    unfold g_l_turn
    rw [u_sSeq, t0, Out.then_nx, u_sSeq, t1, Out.then_nx, u_sSeq, t2, Out.then_nx, u_sSeq, ec, Out.then_nx, u_sSeq]
    generalize plP (l ++ [ten t] ++ [ten c]) = P' at *
    have t4 : ∀ B, (sIf (tAndR (tTru (eVar 6)) (tOf (eOp gEq (eOp gMod (eVar 2) (eC (.int 7))) (eC (.int 5))))) B sNil) [some P', some (.list (nl ++ [enc (numO t)] ++ [enc (numO c)])), some (.int x), some (ten t), some (Dn m), some (.list ((hds 0 t).map wD)), some (.bool true)] = .nx [some P', some (.list (nl ++ [enc (numO t)] ++ [enc (numO c)])), some (.int x), some (ten t), some (Dn m), some (.list ((hds 0 t).map wD)), some (.bool true)] := fun B => by
      simp [m7, q]
    rw [t4, Out.then_nx]
    simp [mask]
theorem tree_turn (k : Nat) {C : PyData} {pool : List T} {c : Int} (hp : pool ≠ []) (hP : ∀ t ∈ pool, t.pts ≤ 10) (hl : pool.length ≤ 200) (x3 x4 : Option PyData) :
    ∃ (pool' : List T) (y3 : Option PyData), gb_l_tree_1 (sem (k + 12)) [some C, some (.list (pool.map ten)), some (.int c), x3, x4] = .nx [some C, some (.list (pool'.map ten)), some (.int c), y3, x4] ∧ pool' ≠ [] ∧ (∀ t ∈ pool', t.pts ≤ 10) ∧ pool'.length ≤ pool.length + 1 := by
  have m4 : cMod c 4 = true := cMod_of (by decide)
  obtain ⟨n, en, nl⟩ := mod_nat (n := 4) (by decide) c
  have en' : c % 4 = (n : Nat) := en
  have lp : 0 < pool.length := Nat.pos_of_ne_zero fun z => hp (List.eq_nil_of_length_eq_zero z)
  -- the branches
  have pick : ∀ j : Nat, ∃ b : T, b ∈ pool ∧ atI (pool.map ten) (c / (4 + 5 * ((j : Nat) : Int)) % (pool.length : Int)) = some (ten b) := fun j => by
    obtain ⟨i, ei, il⟩ := mod_nat (n := pool.length) (by omega) (c / (4 + 5 * ((j : Nat) : Int)))
    refine ⟨pool[i], List.getElem_mem _, ?_⟩
    rw [ei]
    exact L2.atI_nat (by rw [List.getElem?_map, List.getElem?_eq_getElem il]; rfl)
  obtain ⟨f, hf⟩ : ∃ f : Nat → T, ∀ j, f j ∈ pool ∧ atI (pool.map ten) (c / (4 + 5 * ((j : Nat) : Int)) % (pool.length : Int)) = some (ten (f j)) := ⟨fun j => (pick j).choose, fun j => (pick j).choose_spec⟩
  have dv : ∀ j : Nat, j < 4 → cDiv c (4 + 5 * ((j : Nat) : Int)) = true ∧ cMul 5 ((j : Nat) : Int) = true := fun j hj => by
    refine ⟨cDiv_of 10 (by omega) (Nat.lt_of_lt_of_le (show (4 + 5 * ((j : Nat) : Int)).natAbs < 1024 by omega) (by decide)) (by decide) (by decide), ?_⟩
    have : j = 0 ∨ j = 1 ∨ j = 2 ∨ j = 3 := by omega
    rcases this with rfl | rfl | rfl | rfl <;> decide
  have cm : ∀ i : Int, cMod i (pool.length : Int) = true := fun i => cMod_of (by omega)
  have br : lcL (gtName 4) tYesD (eOp gIx (eVar 1) (eOp gMod (eOp gDiv (eVar 2) (eOp gAdd (eC (.int 4)) (eOp gMul (eC (.int 5)) (eVar 4)))) (eCall gLen (aCons (eVar 1) aNil)))) [some C, some (.list (pool.map ten)), some (.int c), x3, none] (rngD 0 n) = .ok (((List.range n).map f).map ten) := by
    have er : rngD 0 n = (List.range n).map fun j => PyData.int ((j : Nat) : Int) := by
      unfold rngD
      exact List.map_congr_left fun j _ => by show PyData.int _ = PyData.int _; congr 1; omega
    have := lc_gen (ps := List.range n) (E := fun j => PyData.int ((j : Nat) : Int)) (ρ := [some C, some (.list (pool.map ten)), some (.int c), x3, none]) (i := 4) (tt := tYesD) (f := eOp gIx (eVar 1) (eOp gMod (eOp gDiv (eVar 2) (eOp gAdd (eC (.int 4)) (eOp gMul (eC (.int 5)) (eVar 4)))) (eCall gLen (aCons (eVar 1) aNil)))) (P := fun _ => true) (F := fun j => ten (f j)) (fun _ _ => rfl) fun j hj _ => by
      have jl : j < 4 := by have := List.mem_range.mp hj; omega
      simp [dv j jl, cm, (hf j).2]
    rw [List.filter_eq_self.mpr fun _ _ => rfl] at this
    rw [er, this, List.map_map]
    rfl
  have lr : ((List.range n).map f).length ≤ 3 := by simp; omega
  have sm : (((List.range n).map f).map T.pts).sum ≤ 30 := by
    have key : ∀ l : List T, (∀ b ∈ l, b.pts ≤ 10) → (l.map T.pts).sum ≤ 10 * l.length := by
      intro l
      induction l with
      | nil => intro _; simp
      | cons a l ih =>
        intro h
        have h1 := h a (by simp)
        have h2 := ih fun b hb => h b (by simp [hb])
        rw [List.map_cons, List.sum_cons, List.length_cons]; omega
    have := key ((List.range n).map f) (fun b hb => by
      obtain ⟨j, _, e⟩ := List.mem_map.mp hb
      rw [← e]; exact hP (f j) (hf j).1)
    omega
  have dpb : ∀ b ∈ (List.range n).map f, b.dp < k + 11 := fun b hb => by
    obtain ⟨j, _, e⟩ := List.mem_map.mp hb
    have h1 := hP (f j) (hf j).1
    have h2 := T.dp_lt (f j)
    rw [← e]; omega
  have ep := pll (k + 11) ((List.range n).map f) dpb (by omega) (by omega)
  generalize hB : (List.range n).map f = B at *
  have im : imms (B.map ten) = true := by
    clear ep br hB sm lr dpb
    induction B with
    | nil => rfl
    | cons b B ih => show (imm (ten b) && imms (B.map ten)) = true; rw [ten_imm, ih]; rfl
  have okn : okI ((n : Nat) : Int) = true := okI_small (by omega) (by omega)
  have t0 : (sSetLcI 3 (nLc (iRange (aCons (eOp gMod (eVar 2) (eC (.int 4))) aNil)) (gtName 4) tYesD (eOp gIx (eVar 1) (eOp gMod (eOp gDiv (eVar 2) (eOp gAdd (eC (.int 4)) (eOp gMul (eC (.int 5)) (eVar 4)))) (eCall gLen (aCons (eVar 1) aNil)))) [4])) [some C, some (.list (pool.map ten)), some (.int c), x3, x4] = .nx [some C, some (.list (pool.map ten)), some (.int c), some (.list (B.map ten)), x4] := by
    have br' : lcL (gtName 4) tYesD (eOp gIx (eVar 1) (eOp gMod (eOp gDiv (eVar 2) (eOp gAdd (eC (.int 4)) (eOp gMul (eC (.int 5)) (eVar 4)))) (eCall gLen (aCons (eVar 1) aNil)))) (wipeD [some C, some (.list (pool.map ten)), some (.int c), x3, x4] [4]) (rngD 0 n) = .ok (B.map ten) := br
    have i1 : (iRange (aCons (eOp gMod (eVar 2) (eC (.int 4))) aNil)) [some C, some (.list (pool.map ten)), some (.int c), x3, x4] = .ok (rngD 0 n) := by
      simp [m4, en', okn]
    unfold sSetLcI
    rw [u_nLc, i1, R.bind_ok, br']
    have lB : (B.map ten).length < sizeLine := sz1000' (by rw [List.length_map]; omega)
    dsimp only
    rw [if_pos lB, R.run_ok, if_pos im]
    rfl
  have le : T.pts (T.of B) ≤ 10 ↔ ((T.of B).pts : Int) ≤ 10 := by omega
  have l1 : (pool.map ten).length < sizeLine := sz1000' (by rw [List.length_map]; omega)
  have ep' : sem (k + 12) 18 [.list (B.map ten)] = .ok (.int ((T.of B).pts : Nat)) := ep
  have tt : PyData.tuple (B.map ten) = ten (T.of B) := by show _ = PyData.tuple (tenL _); rw [tenL_of]
  by_cases q : (T.of B).pts ≤ 10
  · refine ⟨pool ++ [T.of B], some (.list (B.map ten)), ?_, by simp, fun t ht => ?_, by simp⟩
    · unfold gb_l_tree_1
      rw [u_sSeq, t0, Out.then_nx]
      have q' := le.mp q
      rw [List.map_append]
      generalize B.map ten = BL at *
      generalize pool.map ten = PL at *
      simp [ep', q', l1, mask, tt]
    · rcases List.mem_append.mp ht with h | h
      · exact hP t h
      · simp at h; subst h; exact q
  · refine ⟨pool, some (.list (B.map ten)), ?_, hp, hP, by omega⟩
    unfold gb_l_tree_1
    rw [u_sSeq, t0, Out.then_nx]
    have q' : ¬ ((T.of B).pts : Int) ≤ 10 := fun z => q (le.mpr z)
    simp [ep', q']
theorem tre (k : Nat) {cs : List Int} (hl : cs.length ≤ 100) : ∃ t : T, sem (k + 13) 19 [.list (cs.map .int)] = .ok (ten t) ∧ t.pts ≤ 10 := by
  obtain ⟨ρ', e, pool, y2, y3, y4, rfl, p1, p2, p3⟩ := forL_inv (gt := gtName 2) (g := gb_l_tree_1 (sem (k + 12))) (fun i ρ => ∃ (pool : List T) (y2 y3 y4 : Option PyData), ρ = [some (.list (cs.map .int)), some (.list (pool.map ten)), y2, y3, y4] ∧ pool ≠ [] ∧ (∀ t ∈ pool, t.pts ≤ 10) ∧ pool.length ≤ 1 + i) (cs.map .int) 0 [some (.list (cs.map .int)), some (.list [ten .z]), none, none, none] ⟨[.z], none, none, none, rfl, by simp, by simp [T.pts], by simp⟩ fun j d ρ hd hi => by
    obtain ⟨pool, y2, y3, y4, rfl, p1, p2, p3⟩ := hi
    rw [List.getElem?_map] at hd
    obtain ⟨c, hc, rfl⟩ := Option.map_eq_some_iff.mp hd
    have hj := (List.getElem?_eq_some_iff.mp hc).1
    obtain ⟨pool', z3, e, q1, q2, q3⟩ := tree_turn k (C := .list (cs.map .int)) (c := c) p1 p2 (by omega) y3 y4
    exact ⟨_, _, rfl, .inl e, pool', some (.int c), z3, y4, rfl, q1, q2, by omega⟩
  obtain ⟨pool', t, rfl⟩ : ∃ pool' t, pool = pool' ++ [t] := ⟨pool.dropLast, pool.getLast p1, (List.dropLast_concat_getLast p1).symm⟩
  refine ⟨t, ?_, p2 t (by simp)⟩
  rw [sem_l_tree]
  refine fnD_of ?_
  have al := at_last (pool'.map ten) (ten t)
  rw [List.map_append] at e
  have e' : forL (gtName 2) (gb_l_tree_1 (sem (k + 12))) (cs.map .int) [some (.list (cs.map .int)), some (.list [ten .z]), none, none, none] = .nx [some (.list (cs.map .int)), some (.list (pool'.map ten ++ [ten t])), y2, y3, y4] := e
  generalize sem (k + 12) = S at *
  unfold g_l_tree
  generalize gb_l_tree_1 S = G at *
  rw [u_sSeq]
  have t0 : (sNew [1] 1 (nLst (aCons (eTup aNil) aNil))) (List.map some [PyData.list (cs.map .int)] ++ List.replicate (5 - [PyData.list (cs.map .int)].length) none) = .nx [some (.list (cs.map .int)), some (.list [ten .z]), none, none, none] := by
    simp [mask]
  rw [t0, Out.then_nx, u_sSeq, u_sFor]
  have t1 : (iSeq (eVar 0)) (mask [1] [some (.list (cs.map .int)), some (.list [ten .z]), none, none, none]) = .ok (cs.map .int) := by simp [mask]
  rw [t1, R.run_ok, e', Out.then_nx]
  simp [al]
abbrev stL (ns : List Int) (A : Option PyData) (ts : List T) (y4 y5 y6 : Option PyData) : Vars := [some (.list (ns.map .int)), A, some (plP (ts.map ten)), some (.list (ts.map fun t => enc (numO t))), y4, y5, y6]
theorem snoc_map {α β : Type} (f : α → β) (ts : List α) (t : α) : (ts ++ [t]).map f = ts.map f ++ [f t] := by rw [List.map_append]; rfl
theorem turn_law {ns : List Int} {A : Option PyData} {ts : List T} {t : T} {x : Int} (hd : t.dp ≤ 9) (hp : t.pts ≤ 90) (hl : ts.length < 800) (y5 y6 : Option PyData) :
    (t = .z ∧ gb_law_1 (sem 100) (stL ns A (ts ++ [t]) (some (.int x)) y5 y6) = .bk (stL ns A (ts ++ [t]) (some (.int x)) y5 y6)) ∨
    (∃ c : T, c.dp ≤ 9 ∧ c.pts ≤ 90 ∧ gb_law_1 (sem 100) (stL ns A (ts ++ [t]) (some (.int x)) y5 y6) = .nx (stL ns A (ts ++ [t] ++ [c]) (some (.int x)) y5 y6)) ∨
    gb_law_1 (sem 100) (stL ns A (ts ++ [t]) (some (.int x)) y5 y6) = .nx (stL ns A (ts ++ [t]) (some (.int x)) y5 y6) := by
  have et := t_tree 99 (ts.map ten) (ten t)
  have mt := md (m := "tree") (F := sem 100 28) (by decide) (ts.map ten ++ [ten t])
  have ge := gEq_tnil (t := t) (by omega)
  have e1 := snoc_map ten ts t
  have e2 := snoc_map (fun t => enc (numO t)) ts t
  have e28 : (sem (99 + 1) 28 [plP (ts.map ten ++ [ten t])]) = sem 100 28 [plP (ts.map ten ++ [ten t])] := rfl
  rw [e28] at et
  by_cases hz : t = .z
  · refine .inl ⟨hz, ?_⟩
    rw [decide_eq_true hz] at ge
    unfold stL
    rw [e1, e2]
    generalize sem 100 = S at *
    generalize plP (ts.map ten ++ [ten t]) = P at *
    unfold gb_law_1
    simp [mt, et, ge]
  · rw [decide_eq_false hz] at ge
    obtain ⟨c, cd, cp, h⟩ := t_turn 6 (l := ts.map ten) (nl := ts.map fun t => enc (numO t)) (x := x) hz hd hp (by rw [List.length_map]; omega) (by rw [List.length_map]; omega)
    have e94 : ∀ a, sem (6 + 94) 26 a = sem 100 26 a := fun _ => rfl
    rw [e94, e94] at h
    rcases h with h | h
    · refine .inr (.inl ⟨c, cd, cp, ?_⟩)
      unfold stL
      rw [snoc_map ten (ts ++ [t]), snoc_map (fun t => enc (numO t)) (ts ++ [t]), e1, e2]
      clear e1 e2
      generalize sem 100 = S at *
      generalize plP (ts.map ten ++ [ten t]) = P at *
      generalize plP (ts.map ten ++ [ten t] ++ [ten c]) = P' at *
      generalize PyData.list ((ts.map fun t => enc (numO t)) ++ [enc (numO t)] ++ [enc (numO c)]) = N' at *
      unfold gb_law_1
      simp [mt, et, ge, mask, h]
    · refine .inr (.inr ?_)
      unfold stL
      rw [e1, e2]
      clear e1 e2
      generalize sem 100 = S at *
      generalize plP (ts.map ten ++ [ten t]) = P at *
      unfold gb_law_1
      simp [mt, et, ge, mask, h]
theorem gEq_nums {ts : List T} (h : ∀ t ∈ ts, t.dp ≤ 9) : gEq (.list (ts.map fun t => enc (numO t))) (.list (ts.map fun t => enc (numO t))) = some (.bool true) := by
  have h0 := gNe_list (ps := ts.map numO) (fun a ha => by
    obtain ⟨t, ht, rfl⟩ := List.mem_map.mp ha
    have := h_le (h t ht); omega)
  rw [List.map_map] at h0
  have h0 : gNe (.list (ts.map fun t => enc (numO t))) (.list (ts.map fun t => enc (numO t))) = _ := h0
  unfold gNe at h0
  unfold gEq
  split at h0
  · rename_i c
    rw [if_pos c]
    simp only [Option.some.injEq, PyData.bool.injEq, Bool.not_eq_false'] at h0
    rw [h0]
  · cases h0
abbrev Bd (ts : List T) : Prop := ∀ t ∈ ts, t.dp ≤ 9 ∧ t.pts ≤ 90
theorem bd_snoc {ts : List T} {t : T} (h : Bd ts) (h1 : t.dp ≤ 9) (h2 : t.pts ≤ 90) : Bd (ts ++ [t]) := fun x hx => by
  rcases List.mem_append.mp hx with z | z
  · exact h x z
  · rw [List.mem_singleton.mp z]; exact ⟨h1, h2⟩
theorem loop1 {ns : List Int} {A : Option PyData} : ∀ (cs : List Int) (ts : List T) (t : T) (y4 y5 y6 : Option PyData), Bd (ts ++ [t]) → ts.length + cs.length ≤ 700 →
    ∃ (ts' : List T) (t' : T) (z4 : Option PyData), forL (gtName 4) (gb_law_1 (sem 100)) (cs.map .int) (stL ns A (ts ++ [t]) y4 y5 y6) = .nx (stL ns A (ts' ++ [t']) z4 y5 y6) ∧ Bd (ts' ++ [t']) ∧ ts'.length ≤ ts.length + cs.length
  | [], ts, t, y4, y5, y6, h, hl => ⟨ts, t, y4, rfl, h, by simp⟩
  | v :: cs, ts, t, y4, y5, y6, h, hl => by
    rw [List.length_cons] at hl ⊢
    have hb := h t (by simp)
    rw [List.map_cons, u_forL_c]
    simp only [u_gtName, List.set_cons_succ, List.set_cons_zero]
    rcases turn_law (ns := ns) (A := A) (ts := ts) (t := t) (x := v) hb.1 hb.2 (by omega) y5 y6 with ⟨_, e⟩ | ⟨d, d1, d2, e⟩ | e
    · exact ⟨ts, t, some (.int v), by rw [e], h, by omega⟩
    · obtain ⟨ts', t', z4, e2, h2, l2⟩ := loop1 (ns := ns) (A := A) cs (ts ++ [t]) d (some (.int v)) y5 y6 (bd_snoc h d1 d2) (by rw [List.length_append, List.length_singleton]; omega)
      rw [List.length_append, List.length_singleton] at l2
      exact ⟨ts', t', z4, by rw [e]; exact e2, h2, by omega⟩
    · obtain ⟨ts', t', z4, e2, h2, l2⟩ := loop1 (ns := ns) (A := A) cs ts t (some (.int v)) y5 y6 h (by omega)
      exact ⟨ts', t', z4, by rw [e]; exact e2, h2, by omega⟩
abbrev lwB (S : Nat → Fn) : Vars → Out := (sSeq (sSet [2, 3] 6 (eFn (S 18) (aCons (eMeth "tree" [("Play", S 28)] (eVar 2) aNil) aNil))) (soIf (qOr (qNot (qE (oCallP (S 25) [2, 3] (aL 2 (aL 3 (aM [2, 3] (eC (.int 0)) aNil)))))) (qT (tOf (eOp gNe (eFn (S 18) (aCons (eMeth "tree" [("Play", S 28)] (eVar 2) aNil) aNil)) (eOp gSub (eVar 6) (eC (.int 1))))))) (sRet (eC (.bool false))) sNil))
theorem fell {ns : List Int} {A : Option PyData} {ts : List T} {t : T} (hz : t ≠ .z) (hd : t.dp ≤ 9) (hp : t.pts ≤ 90) (hl : ts.length < 850) (y4 y5 y6 : Option PyData) :
    ∃ c : T, c.dp ≤ 9 ∧ c.pts + 1 = t.pts ∧ ∃ z6, lwB (sem 100) (stL ns A (ts ++ [t]) y4 y5 y6) = .nx (stL ns A (ts ++ [t] ++ [c]) y4 y5 z6) := by
  obtain ⟨c, cd, _, c0, e⟩ := t_lleast 7 (l := ts.map ten) (nl := ts.map fun t => enc (numO t)) (m := 0) hz hd (by omega) (by rw [List.length_map]; omega) (by rw [List.length_map]; omega)
  have e93 : ∀ a, sem (7 + 93) 25 a = sem 100 25 a := fun _ => rfl
  rw [e93] at e
  have cp := c0 rfl
  refine ⟨c, cd, cp, some (.int (t.pts : Nat)), ?_⟩
  have et := t_tree 99 (ts.map ten) (ten t)
  have ec := t_tree 99 (ts.map ten ++ [ten t]) (ten c)
  have mt := md (m := "tree") (F := sem 100 28) (by decide) (ts.map ten ++ [ten t])
  have mc := md (m := "tree") (F := sem 100 28) (by decide) (ts.map ten ++ [ten t] ++ [ten c])
  have e28 : ∀ a, sem (99 + 1) 28 a = sem 100 28 a := fun _ => rfl
  rw [e28] at et ec
  have p1 := ptl 100 t (by omega) (by omega)
  have p2 := ptl 100 c (by omega) (by omega)
  have g1 : gNe (.int (c.pts : Nat)) (.int ((t.pts : Nat) - 1)) = some (.bool false) := by
    rw [show ((t.pts : Nat) : Int) - 1 = (c.pts : Nat) by omega]
    simp [gNe, shp, PyData.canLay0, PyData.depth, PyData.eqv]
  have e1 := snoc_map ten ts t
  have e2 := snoc_map (fun t => enc (numO t)) ts t
  unfold stL
  rw [snoc_map ten (ts ++ [t]), snoc_map (fun t => enc (numO t)) (ts ++ [t]), e1, e2]
  clear e1 e2 e28 e93
  have e' : sem 100 25 [plP (ts.map ten ++ [ten t]), .list ((ts.map fun t => enc (numO t)) ++ [enc (numO t)]), .int 0] = _ := e
  clear e
  generalize sem 100 = S at *
  generalize plP (ts.map ten ++ [ten t]) = P at *
  generalize plP (ts.map ten ++ [ten t] ++ [ten c]) = P' at *
  generalize PyData.list ((ts.map fun t => enc (numO t)) ++ [enc (numO t)] ++ [enc (numO c)]) = N' at *
  simp [mt, et, p1, mask, e', mc, ec, p2, g1, imm]
theorem loop2 {ns : List Int} {A : Option PyData} : ∀ (n : Nat) (lo : Int) (ts : List T) (t : T) (y4 y5 y6 : Option PyData), t.pts = n + 1 → Bd (ts ++ [t]) → ts.length + n ≤ 800 →
    ∃ (ts' : List T) (z5 z6 : Option PyData), forL (gtName 5) (lwB (sem 100)) (rngD lo n) (stL ns A (ts ++ [t]) y4 y5 y6) = .nx (stL ns A (ts' ++ [.z]) y4 z5 z6) ∧ Bd (ts' ++ [.z]) ∧ ts'.length ≤ ts.length + n
  | 0, lo, ts, t, y4, y5, y6, hp, h, hl => by
    have : t = .z := by
      cases t with
      | z => rfl
      | c b r => have := T.pts_pos b; have := T.pts_pos r; have : b.pts + r.pts = 0 + 1 := hp; omega
    subst this
    exact ⟨ts, y5, y6, rfl, h, by omega⟩
  | n + 1, lo, ts, t, y4, y5, y6, hp, h, hl => by
    have hb := h t (by simp)
    have hz : t ≠ .z := fun z => by rw [z] at hp; have : (T.z).pts = 1 := rfl; omega
    obtain ⟨c, cd, cp, z6, e⟩ := fell (ns := ns) (A := A) (ts := ts) hz hb.1 hb.2 (by omega) y4 (some (.int lo)) y6
    obtain ⟨ts', w5, w6, e2, h2, l2⟩ := loop2 (ns := ns) (A := A) n (lo + 1) (ts ++ [t]) c y4 (some (.int lo)) z6 (by omega) (bd_snoc h cd (by omega)) (by rw [List.length_append, List.length_singleton]; omega)
    rw [List.length_append, List.length_singleton] at l2
    refine ⟨ts', w5, w6, ?_, h2, by omega⟩
    rw [rngD_cons, u_forL_c]
    simp only [u_gtName, List.set_cons_succ, List.set_cons_zero]
    rw [e]; exact e2
theorem law_true : ∀ ns : List Int, ns.length ≤ 63 → sem 101 32 [.list (ns.map .int)] = .ok (.bool true) := by
  intro ns hn
  rw [sem_law]
  refine fnD_of ?_
  obtain ⟨c1, ec1, lc1⟩ : ∃ cs : List Int, Pu.cutD (ns.map PyData.int) none (some 8) = cs.map .int ∧ cs.length ≤ 8 := by
    refine ⟨ns.take 8, ?_, by rw [List.length_take]; omega⟩
    have := cut_front (ns.map PyData.int) 8
    rw [← List.map_take] at this
    exact this
  obtain ⟨c2, ec2, lc2⟩ : ∃ cs : List Int, Pu.cutD (ns.map PyData.int) (some 8) (some 32) = cs.map .int ∧ cs.length ≤ 32 := by
    refine ⟨(ns.drop (min 8 ns.length)).take (min 32 ns.length - min 8 ns.length), ?_, ?_⟩
    · show Pu.cutD (ns.map PyData.int) (some ((8 : Nat) : Int)) (some ((32 : Nat) : Int)) = _
      unfold Pu.cutD
      rw [HT.sIx_nat, HT.sIx_nat, List.length_map, ← List.map_drop, ← List.map_take]
    · rw [List.length_take]; omega
  obtain ⟨t, et, tp⟩ := tre 87 (cs := c1) (by omega)
  have e100 : ∀ a, sem (87 + 13) 19 a = sem 100 19 a := fun _ => rfl
  rw [e100] at et
  have td : t.dp ≤ 9 := by have := T.dp_lt t; omega
  have en := n22 10 td (by omega)
  have en' : sem 100 22 [ten t] = .ok (enc (numO t)) := en
  obtain ⟨ts', t', z4, e1, h1, l1⟩ := loop1 (ns := ns) (A := some (ten t)) c2 [] t none none none (fun x hx => by simp at hx; subst hx; exact ⟨td, by omega⟩) (by simp; omega)
  have hb := h1 t' (by simp)
  have pp := T.pts_pos t'
  obtain ⟨ts'', z5, z6, e2, h2, l2⟩ := loop2 (ns := ns) (A := some (ten t)) (t'.pts - 1) 0 ts' t' z4 none none (by omega) h1 (by simp at l1; omega)
  have ep := ptl 100 t' (by omega) (by omega)
  have etr := t_tree 99 (ts'.map ten) (ten t')
  have etz := t_tree 99 (ts''.map ten) (ten .z)
  have e28 : ∀ a, sem (99 + 1) 28 a = sem 100 28 a := fun _ => rfl
  rw [e28] at etr etz
  rw [← snoc_map] at etr etz
  have mt := md (m := "tree") (F := sem 100 28) (by decide) ((ts' ++ [t']).map ten)
  have mz := md (m := "tree") (F := sem 100 28) (by decide) ((ts'' ++ [T.z]).map ten)
  have mn := md (m := "numbers") (F := sem 100 31) (by decide) ((ts'' ++ [T.z]).map ten)
  have enu := t_numbers (k := 99) (ts := ts'' ++ [T.z]) (fun x hx => n8 9 (h2 x hx).1 (by have := (h2 x hx).2; omega)) (by simp at l1 ⊢; omega)
  have e31 : ∀ a, sem (99 + 1) 31 a = sem 100 31 a := fun _ => rfl
  rw [e31] at enu
  have gn := gEq_nums (ts := ts'' ++ [T.z]) (fun x hx => (h2 x hx).1)
  have al : atI ((ts'' ++ [T.z]).map fun t => enc (numO t)) (-1) = some (enc .z) := by
    rw [snoc_map]; exact at_last _ _
  have gz : gEq (ten .z) (.tuple []) = some (.bool true) := gEq_tnil (t := .z) (by decide)
  have gz' : gEq (enc .z) (.tuple []) = some (.bool true) := by
    have := gEq_enc (a := .z) (b := .z) (by decide) (by decide)
    exact this
  have okp : okI ((t'.pts : Nat) - 1) = true := okI_small (by omega) (by omega)
  have tn : (((t'.pts : Nat) : Int) - 1).toNat = t'.pts - 1 := by omega
  unfold g_law
  generalize hG : gb_law_1 (sem 100) = G at *
  have s0 : (sSetM [2, 3] 1 (eFn (sem 100 19) (aCons (eSl (eVar 0) oNone (oSome (eC (.int 8)))) aNil))) (List.map some [PyData.list (ns.map .int)] ++ List.replicate (7 - [PyData.list (ns.map .int)].length) none) = .nx [some (.list (ns.map .int)), some (ten t), none, none, none, none, none] := by
    have ec1' : Pu.cutD (ns.map PyData.int) none (some 8) = c1.map .int := ec1
    simp [mask, ec1', et]
  rw [u_sSeq, s0, Out.then_nx, u_sSeq]
  have s1 : (sNewV [2, 3] 2 (vMake "Play" "trees" (sem 100 27) (aCons (eVar 1) aNil))) [some (.list (ns.map .int)), some (ten t), none, none, none, none, none] = .nx [some (.list (ns.map .int)), some (ten t), some (plP [ten t]), none, none, none, none] := by
    have ei : sem 100 27 [ten t] = .ok (.list [ten t]) := by
      show sem (99 + 1) 27 [ten t] = _
      rw [sem_Play_init]
      unfold g_Play_init
      simp
    simp [mask, ei, plP]
  rw [s1, Out.then_nx, u_sSeq]
  have s2 : (sNew [2, 3] 3 (nLst (aCons (eFn (sem 100 22) (aCons (eVar 1) aNil)) aNil))) [some (.list (ns.map .int)), some (ten t), some (plP [ten t]), none, none, none, none] = .nx (stL ns (some (ten t)) ([] ++ [t]) none none none) := by
    simp [mask, en']
  rw [s2, Out.then_nx, u_sSeq, u_sFor]
  have s3 : (iSeq (eSl (eVar 0) (oSome (eC (.int 8))) (oSome (eC (.int 32))))) (mask [2, 3] (stL ns (some (ten t)) ([] ++ [t]) none none none)) = .ok (c2.map .int) := by
    simp [mask, ec2]
  rw [s3, R.run_ok, e1, Out.then_nx, u_sSeq]
  have s4 : (sForR (iRange (aCons (eOp gSub (eFn (sem 100 18) (aCons (eMeth "tree" [("Play", sem 100 28)] (eVar 2) aNil) aNil)) (eC (.int 1))) aNil)) (gtName 5) (lwB (sem 100))) (stL ns (some (ten t)) (ts' ++ [t']) z4 none none) = .nx (stL ns (some (ten t)) (ts'' ++ [.z]) z4 z5 z6) := by
    have : (iRange (aCons (eOp gSub (eFn (sem 100 18) (aCons (eMeth "tree" [("Play", sem 100 28)] (eVar 2) aNil) aNil)) (eC (.int 1))) aNil)) (stL ns (some (ten t)) (ts' ++ [t']) z4 none none) = .ok (rngD 0 (t'.pts - 1)) := by
      unfold stL
      generalize plP ((ts' ++ [t']).map ten) = P at *
      generalize sem 100 = S at *
      simp [mt, etr, ep, okp, tn]
    unfold sForR
    rw [this, R.run_ok, e2]
  rw [s4, Out.then_nx]
  unfold stL
  generalize plP ((ts'' ++ [T.z]).map ten) = P at *
  generalize ((ts'' ++ [T.z]).map fun t => enc (numO t)) = NL at *
  clear e1 e2 s0 s1 s2 s3 s4 hG
  generalize ten T.z = Z at *
  generalize enc O.z = Z' at *
  generalize sem 100 = S at *
  simp [mz, etz, gz, al, gz', mn, enu, gn]
end Lk82
open PySem PySem.W PyProof.Rows
set_option maxRecDepth 100000 in
set_option maxHeartbeats 0 in
theorem PySem.Challenge.cw_hydrahouse_k82_whole_play_holds : PySem.Challenge.rw_hydrahouse_k82_whole_play.Holds := by
  w_on; o_law; k_head; (case hw => w_witness2)
  k_fill
  refine Pu.walkL (l := PySem.Challenge.rw_hydrahouse_k82_whole_play) (k := 202) (x := "_law_script") rfl rfl ⟨rfl, by decide, by decide⟩ (fun w h Y => PySem.W.kIn_of Y) ?F
  case F =>
    intro w mg fa h KX G hmg
    refine' Lk82.all_mk KX G hmg ?ac_Play ?pg_Play ?hd_Play ?po_Play ?sa_Play ?gc_Play ?mo_Play ?n_int_Play ?n_bool_Play ?n_str_Play ?n_list_Play ?n_tuple_Play ?n_dict_Play ?nf_Play_trees ?mk_Play ?kc_Play ?a0 ?l0 ?c0 ?k0 ?a1 ?l1 ?c1 ?k1 ?a2 ?l2 ?c2 ?k2 ?a3 ?l3 ?c3 ?k3 ?a4 ?l4 ?c4 ?k4 ?a5 ?l5 ?c5 ?k5 ?a6 ?l6 ?c6 ?k6 ?a7 ?l7 ?c7 ?k7 ?a8 ?l8 ?c8 ?k8 ?a9 ?l9 ?c9 ?k9 ?a10 ?l10 ?c10 ?k10 ?a11 ?l11 ?c11 ?k11 ?a12 ?l12 ?c12 ?k12 ?a13 ?l13 ?c13 ?k13 ?a14 ?l14 ?c14 ?k14 ?a15 ?l15 ?c15 ?k15 ?a16 ?l16 ?c16 ?k16 ?a17 ?l17 ?c17 ?k17 ?a18 ?l18 ?c18 ?k18 ?a19 ?l19 ?c19 ?k19 ?a20 ?l20 ?c20 ?k20 ?a21 ?l21 ?c21 ?k21 ?a22 ?l22 ?c22 ?k22 ?a23 ?l23 ?c23 ?k23 ?a24 ?l24 ?c24 ?k24 ?a25 ?l25 ?c25 ?k25 ?a26 ?l26 ?c26 ?k26 ?a27 ?i27 ?l27 ?c27 ?k27 ?a28 ?i28 ?l28 ?c28 ?k28 ?a29 ?i29 ?l29 ?c29 ?k29 ?a30 ?i30 ?l30 ?c30 ?k30 ?a31 ?i31 ?l31 ?c31 ?k31 ?a32 ?l32 ?c32 ?k32 ?al_cut_trees ?z_bool ?z_enumerate ?z_int ?z_isinstance ?z_len ?z_min ?z_range ?z_sum ?z_tuple ?z_zip ?lT2 ?lT12 ?lT29 ?ak_MOST_POINTS ?ac_NoHead ?xc_NoHead ?kc_NoHead ?sc_NoHead ?tc_NoHead ?ac_NoNumber ?xc_NoNumber ?kc_NoNumber ?sc_NoNumber ?tc_NoNumber ?ac_NoStep ?xc_NoStep ?kc_NoStep ?sc_NoStep ?tc_NoStep ?ac_Nought ?xc_Nought ?kc_Nought ?sc_Nought ?tc_Nought ?ac_TooGreat ?xc_TooGreat ?kc_TooGreat ?sc_TooGreat ?tc_TooGreat ?zget ?ztak Lk82.law_true
    (case ac_Play => k_is)
    (case pg_Play => k_is)
    (case hd_Play => k_is)
    (case po_Play => k_is)
    (case sa_Play => k_is)
    (case gc_Play => k_is)
    (case mo_Play => k_is)
    (case n_int_Play => k_is)
    (case n_bool_Play => k_is)
    (case n_str_Play => k_is)
    (case n_list_Play => k_is)
    (case n_tuple_Play => k_is)
    (case n_dict_Play => k_is)
    (case nf_Play_trees => k_is)
    (case mk_Play => k_is)
    (case kc_Play => k_is)
    (case a0 => k_is)
    (case l0 => k_is)
    (case c0 => k_is)
    (case k0 => k_is)
    (case a1 => k_is)
    (case l1 => k_is)
    (case c1 => k_is)
    (case k1 => k_is)
    (case a2 => k_is)
    (case l2 => k_is)
    (case c2 => k_is)
    (case k2 => k_is)
    (case a3 => k_is)
    (case l3 => k_is)
    (case c3 => k_is)
    (case k3 => k_is)
    (case a4 => k_is)
    (case l4 => k_is)
    (case c4 => k_is)
    (case k4 => k_is)
    (case a5 => k_is)
    (case l5 => k_is)
    (case c5 => k_is)
    (case k5 => k_is)
    (case a6 => k_is)
    (case l6 => k_is)
    (case c6 => k_is)
    (case k6 => k_is)
    (case a7 => k_is)
    (case l7 => k_is)
    (case c7 => k_is)
    (case k7 => k_is)
    (case a8 => k_is)
    (case l8 => k_is)
    (case c8 => k_is)
    (case k8 => k_is)
    (case a9 => k_is)
    (case l9 => k_is)
    (case c9 => k_is)
    (case k9 => k_is)
    (case a10 => k_is)
    (case l10 => k_is)
    (case c10 => k_is)
    (case k10 => k_is)
    (case a11 => k_is)
    (case l11 => k_is)
    (case c11 => k_is)
    (case k11 => k_is)
    (case a12 => k_is)
    (case l12 => k_is)
    (case c12 => k_is)
    (case k12 => k_is)
    (case a13 => k_is)
    (case l13 => k_is)
    (case c13 => k_is)
    (case k13 => k_is)
    (case a14 => k_is)
    (case l14 => k_is)
    (case c14 => k_is)
    (case k14 => k_is)
    (case a15 => k_is)
    (case l15 => k_is)
    (case c15 => k_is)
    (case k15 => k_is)
    (case a16 => k_is)
    (case l16 => k_is)
    (case c16 => k_is)
    (case k16 => k_is)
    (case a17 => k_is)
    (case l17 => k_is)
    (case c17 => k_is)
    (case k17 => k_is)
    (case a18 => k_is)
    (case l18 => k_is)
    (case c18 => k_is)
    (case k18 => k_is)
    (case a19 => k_is)
    (case l19 => k_is)
    (case c19 => k_is)
    (case k19 => k_is)
    (case a20 => k_is)
    (case l20 => k_is)
    (case c20 => k_is)
    (case k20 => k_is)
    (case a21 => k_is)
    (case l21 => k_is)
    (case c21 => k_is)
    (case k21 => k_is)
    (case a22 => k_is)
    (case l22 => k_is)
    (case c22 => k_is)
    (case k22 => k_is)
    (case a23 => k_is)
    (case l23 => k_is)
    (case c23 => k_is)
    (case k23 => k_is)
    (case a24 => k_is)
    (case l24 => k_is)
    (case c24 => k_is)
    (case k24 => k_is)
    (case a25 => k_is)
    (case l25 => k_is)
    (case c25 => k_is)
    (case k25 => k_is)
    (case a26 => k_is)
    (case l26 => k_is)
    (case c26 => k_is)
    (case k26 => k_is)
    (case a27 => k_is)
    (case i27 => k_is)
    (case l27 => k_is)
    (case c27 => k_is)
    (case k27 => k_is)
    (case a28 => k_is)
    (case i28 => k_is)
    (case l28 => k_is)
    (case c28 => k_is)
    (case k28 => k_is)
    (case a29 => k_is)
    (case i29 => k_is)
    (case l29 => k_is)
    (case c29 => k_is)
    (case k29 => k_is)
    (case a30 => k_is)
    (case i30 => k_is)
    (case l30 => k_is)
    (case c30 => k_is)
    (case k30 => k_is)
    (case a31 => k_is)
    (case i31 => k_is)
    (case l31 => k_is)
    (case c31 => k_is)
    (case k31 => k_is)
    (case a32 => k_is)
    (case l32 => k_is)
    (case c32 => k_is)
    (case k32 => k_is)
    (case al_cut_trees => k_is)
    (case z_bool => k_is)
    (case z_enumerate => k_is)
    (case z_int => k_is)
    (case z_isinstance => k_is)
    (case z_len => k_is)
    (case z_min => k_is)
    (case z_range => k_is)
    (case z_sum => k_is)
    (case z_tuple => k_is)
    (case z_zip => k_is)
    (case lT2 => k_is)
    (case lT12 => k_is)
    (case lT29 => k_is)
    (case ak_MOST_POINTS => k_is)
    (case ac_NoHead => k_is)
    (case xc_NoHead => k_exc)
    (case kc_NoHead => k_is)
    (case sc_NoHead => k_is)
    (case tc_NoHead => k_is)
    (case ac_NoNumber => k_is)
    (case xc_NoNumber => k_exc)
    (case kc_NoNumber => k_is)
    (case sc_NoNumber => k_is)
    (case tc_NoNumber => k_is)
    (case ac_NoStep => k_is)
    (case xc_NoStep => k_exc)
    (case kc_NoStep => k_is)
    (case sc_NoStep => k_is)
    (case tc_NoStep => k_is)
    (case ac_Nought => k_is)
    (case xc_Nought => k_exc)
    (case kc_Nought => k_is)
    (case sc_Nought => k_is)
    (case tc_Nought => k_is)
    (case ac_TooGreat => k_is)
    (case xc_TooGreat => k_exc)
    (case kc_TooGreat => k_is)
    (case sc_TooGreat => k_is)
    (case tc_TooGreat => k_is)
    (case zget => k_is)
    (case ztak => k_is)
