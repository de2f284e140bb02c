import PyProof.Rows.All
import Wide.All
import OpenK.AllK
import Wide.FinOn
import HandS.ForMost
import HandS.ForExc
import HandS.Star
import HandS.TupAny
import KE.KUnpackStar
import HandS.CallSlots
import HandS.Small
import HandS.IsInst
import KE.GoesMore
import KE.GoesEnum
import HandS.Walk
import HandS.Deep
import HandS.Codes
import HandS.More
import HandS.Style
import HandS.SetFor
import HandS.Strs
import HandS.DictComp
import HandS.Zip
import HandS.TupMul
import HandS.Flow
import HandS.Conv
import PySem.Challenge.RW_suredue_k29_main_payments_whole_or_nothi
set_option Elab.async false
set_option linter.all false
set_option maxRecDepth 100000
set_option maxHeartbeats 4000000
namespace Sd
open PySem L2

/-- plain data: what an immutable Python value is, without addresses -/
inductive D where
  | non
  | bl (b : Bool)
  | int (i : Int)
  | str (x : Str)
  | ref (a : Addr)
  | tup (ds : List D)
  | lst (ds : List D)

mutual
/-- the value v stands for d in the heap H -/
def Rep (H : Hp) : D → V → Prop
  | .non, v => v = .non
  | .bl b, v => v = .bl b
  | .int i, v => v = .int i
  | .str x, v => v = .str x
  | .ref a, v => v = .ref a
  | .tup ds, v => ∃ a xs, v = .ref a ∧ H a = some (.tup xs) ∧ RepL H ds xs
  | .lst ds, v => ∃ a xs, v = .ref a ∧ H a = some (.lst xs) ∧ RepL H ds xs
def RepL (H : Hp) : List D → List V → Prop
  | [], xs => xs = []
  | d :: ds, xs => ∃ x r, xs = x :: r ∧ Rep H d x ∧ RepL H ds r
end
mutual
/-- no list in it -/
def D.fix : D → Bool
  | .tup ds => fixL ds
  | .lst _ => false
  | _ => true
def fixL : List D → Bool
  | [] => true
  | d :: ds => d.fix && fixL ds
end
/-- tuples stay -/
def Tr (H H' : Hp) : Prop := ∀ a xs, H a = some (.tup xs) → H' a = some (.tup xs)
theorem Tr.refl (H : Hp) : Tr H H := fun _ _ h => h
theorem Tr.trans {H H1 H2 : Hp} (a : Tr H H1) (b : Tr H1 H2) : Tr H H2 := fun c o h => b c o (a c o h)
theorem Tr.of {H H' : Hp} (s : Same H H') : Tr H H' := fun a xs h => s a _ h
mutual
theorem Rep.mono {H H' : Hp} (s : Same H H') : ∀ {d : D} {v : V}, Rep H d v → Rep H' d v
  | .non, _, h => h
  | .bl _, _, h => h
  | .int _, _, h => h
  | .str _, _, h => h
  | .ref _, _, h => h
  | .tup ds, _, h => by
    unfold Rep at h ⊢
    obtain ⟨a, xs, e, ha, hl⟩ := h
    exact ⟨a, xs, e, s _ _ ha, RepL.mono s hl⟩
  | .lst ds, _, h => by
    unfold Rep at h ⊢
    obtain ⟨a, xs, e, ha, hl⟩ := h
    exact ⟨a, xs, e, s _ _ ha, RepL.mono s hl⟩
theorem RepL.mono {H H' : Hp} (s : Same H H') : ∀ {ds : List D} {xs : List V}, RepL H ds xs → RepL H' ds xs
  | [], _, h => h
  | d :: ds, _, h => by
    unfold RepL at h ⊢
    obtain ⟨x, r, e, h1, h2⟩ := h
    exact ⟨x, r, e, Rep.mono s h1, RepL.mono s h2⟩
end
mutual
theorem Rep.tr {H H' : Hp} (s : Tr H H') : ∀ {d : D} {v : V}, d.fix = true → Rep H d v → Rep H' d v
  | .non, _, _, h => h
  | .bl _, _, _, h => h
  | .int _, _, _, h => h
  | .str _, _, _, h => h
  | .ref _, _, _, h => h
  | .tup ds, _, f, h => by
    unfold Rep at h ⊢
    obtain ⟨a, xs, e, ha, hl⟩ := h
    exact ⟨a, xs, e, s _ _ ha, RepL.tr s (by unfold D.fix at f; exact f) hl⟩
  | .lst ds, _, f, h => by unfold D.fix at f; cases f
theorem RepL.tr {H H' : Hp} (s : Tr H H') : ∀ {ds : List D} {xs : List V}, fixL ds = true → RepL H ds xs → RepL H' ds xs
  | [], _, _, h => h
  | d :: ds, _, f, h => by
    unfold fixL at f
    rw [Bool.and_eq_true] at f
    unfold RepL at h ⊢
    obtain ⟨x, r, e, h1, h2⟩ := h
    exact ⟨x, r, e, Rep.tr s f.1 h1, RepL.tr s f.2 h2⟩
end
end Sd
namespace Sd
open PySem L2

/-! ### data as the library's PyData: for == and in -/
mutual
def D.py : D → PyData
  | .non => .none
  | .bl b => .bool b
  | .int i => .int i
  | .str x => .str x
  | .ref _ => .none
  | .tup ds => .tuple (pyL ds)
  | .lst ds => .list (pyL ds)
def pyL : List D → List PyData
  | [] => []
  | d :: ds => d.py :: pyL ds
end
mutual
/-- no address in it, its texts are plain -/
def D.lay : D → Bool
  | .ref _ => false
  | .str x => PyData.strOk x
  | .tup ds => layL ds
  | .lst ds => layL ds
  | _ => true
def layL : List D → Bool
  | [] => true
  | d :: ds => d.lay && layL ds
end
mutual
def D.dep : D → Nat
  | .tup ds => depL ds + 1
  | .lst ds => depL ds + 1
  | _ => 0
def depL : List D → Nat
  | [] => 0
  | d :: ds => max d.dep (depL ds)
end
def D.shp (d : D) : Bool := d.lay && decide (d.dep ≤ 64)
mutual
def D.eqb : D → D → Bool
  | .non, .non => true
  | .bl a, .bl b => a == b
  | .bl a, .int j => (if a then 1 else 0) == j
  | .int i, .bl b => i == (if b then 1 else 0)
  | .int i, .int j => decide (i = j)
  | .str x, .str y => x == y
  | .lst xs, .lst ys => eqbL xs ys
  | .tup xs, .tup ys => eqbL xs ys
  | .ref _, .ref _ => true
  | .non, .ref _ => true
  | .ref _, .non => true
  | _, _ => false
def eqbL : List D → List D → Bool
  | [], [] => true
  | x :: xs, y :: ys => D.eqb x y && eqbL xs ys
  | _, _ => false
end
mutual
theorem D.eqv_eqb : ∀ (d e : D), PyData.eqv d.py e.py = D.eqb d e
  | .non, e => by cases e <;> simp [D.py, D.eqb, PyData.eqv]
  | .ref _, e => by cases e <;> simp [D.py, D.eqb, PyData.eqv]
  | .bl _, e => by cases e <;> simp [D.py, D.eqb, PyData.eqv]
  | .int _, e => by cases e <;> simp [D.py, D.eqb, PyData.eqv, BEq.beq]
  | .str _, e => by cases e <;> simp [D.py, D.eqb, PyData.eqv]
  | .tup ds, e => by
    cases e with
    | tup es => simp only [D.py, D.eqb, PyData.eqv]; exact eqv_eqbL ds es
    | _ => simp [D.py, D.eqb, PyData.eqv]
  | .lst ds, e => by
    cases e with
    | lst es => simp only [D.py, D.eqb, PyData.eqv]; exact eqv_eqbL ds es
    | _ => simp [D.py, D.eqb, PyData.eqv]
theorem eqv_eqbL : ∀ (ds es : List D), PyData.eqvAll (pyL ds) (pyL es) = eqbL ds es
  | [], [] => by simp [pyL, eqbL, PyData.eqvAll]
  | [], _ :: _ => by simp [pyL, eqbL, PyData.eqvAll]
  | _ :: _, [] => by simp [pyL, eqbL, PyData.eqvAll]
  | d :: ds, e :: es => by simp only [pyL, eqbL, PyData.eqvAll]; rw [D.eqv_eqb d e, eqv_eqbL ds es]
end
mutual
theorem D.canLay : ∀ (d : D), d.lay = true → d.py.canLay0 = true
  | .non, _ => by simp [D.py, PyData.canLay0]
  | .bl _, _ => by simp [D.py, PyData.canLay0]
  | .int _, _ => by simp [D.py, PyData.canLay0]
  | .str x, h => by simp only [D.py, PyData.canLay0]; exact h
  | .ref _, h => by cases h
  | .tup ds, h => by simp only [D.py, PyData.canLay0]; exact canLayL ds h
  | .lst ds, h => by simp only [D.py, PyData.canLay0]; exact canLayL ds h
theorem canLayL : ∀ (ds : List D), layL ds = true → PyData.canLayAll0 (pyL ds) = true
  | [], _ => by simp [pyL, PyData.canLayAll0]
  | d :: ds, h => by
    have h' : (d.lay && layL ds) = true := h
    rw [Bool.and_eq_true] at h'
    simp only [pyL, PyData.canLayAll0, Bool.and_eq_true]
    exact ⟨D.canLay d h'.1, canLayL ds h'.2⟩
end
mutual
theorem D.depth_py : ∀ (d : D), d.py.depth = d.dep
  | .non => by simp [D.py, PyData.depth, D.dep]
  | .bl _ => by simp [D.py, PyData.depth, D.dep]
  | .int _ => by simp [D.py, PyData.depth, D.dep]
  | .str x => by simp [D.py, PyData.depth, D.dep]
  | .ref _ => by simp [D.py, PyData.depth, D.dep]
  | .tup ds => by simp only [D.py, PyData.depth, D.dep]; rw [depth_pyL ds]
  | .lst ds => by simp only [D.py, PyData.depth, D.dep]; rw [depth_pyL ds]
theorem depth_pyL : ∀ (ds : List D), PyData.depthAll (pyL ds) = depL ds
  | [] => by simp [pyL, PyData.depthAll, depL]
  | d :: ds => by simp only [pyL, PyData.depthAll, depL]; rw [D.depth_py d, depth_pyL ds]
end
theorem D.shaped {d : D} (h : d.shp = true) : SeqAt.shaped d.py = true := by
  unfold D.shp at h
  rw [Bool.and_eq_true, decide_eq_true_eq] at h
  show (d.py.canLay0 && decide (d.py.depth ≤ 64)) = true
  rw [Bool.and_eq_true, decide_eq_true_eq, D.depth_py]
  exact ⟨D.canLay d h.1, h.2⟩
mutual
theorem Rep.dp {K : PySem.W.Frag} {H : Hp} : ∀ {d : D} {v : V}, d.lay = true → Rep H d v → Dp K H v d.py
  | .non, v, _, h => by have e : v = .non := h; subst e; simp only [D.py]; exact .non
  | .bl b, v, _, h => by have e : v = .bl b := h; subst e; simp only [D.py]; exact .bl b
  | .int i, v, _, h => by have e : v = .int i := h; subst e; simp only [D.py]; exact .int i
  | .str x, v, _, h => by have e : v = .str x := h; subst e; simp only [D.py]; exact .str x
  | .ref _, v, l, h => by cases l
  | .tup ds, v, l, h => by
    unfold Rep at h
    obtain ⟨a, xs, e, ha, hl⟩ := h
    subst e
    simp only [D.py]
    exact .tup (SqT.of ha) (RepL.dp l hl)
  | .lst ds, v, l, h => by
    unfold Rep at h
    obtain ⟨a, xs, e, ha, hl⟩ := h
    subst e
    simp only [D.py]
    exact .lst (SqL.of ha) (RepL.dp l hl)
theorem RepL.dp {K : PySem.W.Frag} {H : Hp} : ∀ {ds : List D} {xs : List V}, layL ds = true → RepL H ds xs → DpAll K H xs (pyL ds)
  | [], xs, _, h => by have e : xs = [] := h; subst e; simp only [pyL]; exact .nil
  | d :: ds, xs, l, h => by
    have h' : (d.lay && layL ds) = true := l
    rw [Bool.and_eq_true] at h'
    unfold RepL at h
    obtain ⟨x, r, e, h1, h2⟩ := h
    subst e
    simp only [pyL]
    exact .cons (Rep.dp h'.1 h1) (RepL.dp h'.2 h2)
end
/-! ### lists of data -/
theorem RepL.length {H : Hp} : ∀ {ds : List D} {xs : List V}, RepL H ds xs → xs.length = ds.length
  | [], xs, h => by have e : xs = [] := h; subst e; rfl
  | d :: ds, xs, h => by
    unfold RepL at h
    obtain ⟨x, r, e, _, h2⟩ := h
    subst e
    rw [List.length_cons, List.length_cons, RepL.length h2]
theorem RepL.get {H : Hp} : ∀ {ds : List D} {xs : List V} {i : Nat} {d : D}, RepL H ds xs → ds[i]? = some d → ∃ x, xs[i]? = some x ∧ Rep H d x
  | [], _, _, _, _, e => by simp at e
  | d :: ds, xs, i, d', h, e => by
    unfold RepL at h
    obtain ⟨x, r, e1, h1, h2⟩ := h
    subst e1
    cases i with
    | zero => simp at e; subst e; exact ⟨x, rfl, h1⟩
    | succ i =>
      obtain ⟨y, hy, ry⟩ := RepL.get (i := i) (d := d') h2 (by simpa using e)
      exact ⟨y, by simpa using hy, ry⟩
theorem RepL.rget {H : Hp} : ∀ {ds : List D} {xs : List V} {i : Nat} {x : V}, RepL H ds xs → xs[i]? = some x → ∃ d, ds[i]? = some d ∧ Rep H d x := by
  intro ds xs i x h e
  have hl := h.length
  have hi : i < ds.length := by
    have := (List.getElem?_eq_some_iff.mp e).1
    omega
  obtain ⟨y, hy, ry⟩ := h.get (d := ds[i]) (List.getElem?_eq_getElem hi)
  rw [e] at hy
  cases hy
  exact ⟨_, List.getElem?_eq_getElem hi, ry⟩
theorem RepL.append {H : Hp} : ∀ {ds es : List D} {xs ys : List V}, RepL H ds xs → RepL H es ys → RepL H (ds ++ es) (xs ++ ys)
  | [], es, xs, ys, h, h' => by have e : xs = [] := h; subst e; exact h'
  | d :: ds, es, xs, ys, h, h' => by
    unfold RepL at h
    obtain ⟨x, r, e1, h1, h2⟩ := h
    subst e1
    show RepL H (d :: (ds ++ es)) (x :: (r ++ ys))
    unfold RepL
    exact ⟨x, _, rfl, h1, RepL.append h2 h'⟩
theorem RepL.snoc {H : Hp} {ds : List D} {d : D} {xs : List V} {x : V} (h : RepL H ds xs) (r : Rep H d x) : RepL H (ds ++ [d]) (xs ++ [x]) :=
  h.append (by unfold RepL; exact ⟨x, [], rfl, r, rfl⟩)
theorem RepL.drop {H : Hp} : ∀ {ds : List D} {xs : List V} (n : Nat), RepL H ds xs → RepL H (ds.drop n) (xs.drop n)
  | _, _, 0, h => h
  | [], xs, n + 1, h => by have e : xs = [] := h; subst e; exact h
  | d :: ds, xs, n + 1, h => by
    unfold RepL at h
    obtain ⟨x, r, e1, h1, h2⟩ := h
    subst e1
    exact RepL.drop (ds := ds) n h2
theorem RepL.take {H : Hp} : ∀ {ds : List D} {xs : List V} (n : Nat), RepL H ds xs → RepL H (ds.take n) (xs.take n)
  | ds, xs, 0, h => rfl
  | [], xs, n + 1, h => by have e : xs = [] := h; subst e; exact h
  | d :: ds, xs, n + 1, h => by
    unfold RepL at h
    obtain ⟨x, r, e1, h1, h2⟩ := h
    subst e1
    show RepL H (d :: ds.take n) (x :: r.take n)
    unfold RepL
    exact ⟨x, _, rfl, h1, RepL.take (ds := ds) n h2⟩
def cutD (ds : List D) (lo hi : Option Int) : List D := (ds.drop (HT.sIx ds.length 0 lo)).take (HT.sIx ds.length ds.length hi - HT.sIx ds.length 0 lo)
theorem RepL.cut {H : Hp} {ds : List D} {xs : List V} {lo hi : Option Int} (h : RepL H ds xs) : RepL H (cutD ds lo hi) (cutV xs lo hi) := by
  unfold cutD cutV
  rw [h.length]
  exact (h.drop _).take _
theorem RepL.at_ {H : Hp} {ds : List D} {xs : List V} {i : Int} {d : D} (h : RepL H ds xs) (e : atI ds i = some d) : ∃ x, atI xs i = some x ∧ Rep H d x := by
  unfold atI at e ⊢
  rw [h.length]
  cases q : ixN ds.length i with
  | none => rw [q] at e; cases e
  | some j =>
    rw [q] at e
    exact h.get e
theorem RepL.ints {H : Hp} : ∀ {ns : List Int} {xs : List V}, RepL H (ns.map D.int) xs → xs = ns.map V.int
  | [], xs, h => h
  | n :: ns, xs, h => by
    have h : RepL H (D.int n :: ns.map D.int) xs := h
    unfold RepL at h
    obtain ⟨x, r, e1, h1, h2⟩ := h
    subst e1
    have e : x = V.int n := h1
    subst e
    rw [RepL.ints h2]
    rfl
theorem RepL.bls {H : Hp} : ∀ {bs : List Bool} {xs : List V}, RepL H (bs.map D.bl) xs → xs = bs.map V.bl
  | [], xs, h => h
  | n :: ns, xs, h => by
    have h : RepL H (D.bl n :: ns.map D.bl) xs := h
    unfold RepL at h
    obtain ⟨x, r, e1, h1, h2⟩ := h
    subst e1
    have e : x = V.bl n := h1
    subst e
    rw [RepL.bls h2]
    rfl

/-! ### assertions, environments, the canonical readings -/
/-- an assertion on the heap that new objects leave alone -/
structure Asr where
  p : Hp → Prop
  mono : ∀ {H H' : Hp}, Same H H' → p H → p H'
abbrev Ev := List (Option D)
def EnvR (H : Hp) (σ : St) (env : Ev) : Prop := σ.length = env.length ∧ ∀ (i : Nat) (d : D), env[i]? = some (some d) → ∃ v, σ[i]? = some (some v) ∧ Rep H d v
theorem EnvR.mono {H H' : Hp} {σ : St} {env : Ev} (s : Same H H') (h : EnvR H σ env) : EnvR H' σ env :=
  ⟨h.1, fun i d e => let ⟨v, a, b⟩ := h.2 i d e; ⟨v, a, b.mono s⟩⟩
theorem EnvR.set {H : Hp} {σ : St} {env : Ev} {i : Nat} {d : D} {v : V} (h : EnvR H σ env) (r : Rep H d v) : EnvR H (σ.set i (some v)) (env.set i (some d)) := by
  refine ⟨by rw [List.length_set, List.length_set]; exact h.1, fun j e q => ?_⟩
  by_cases hj : i = j
  · subst hj
    have hl : i < env.length := by
      have := (List.getElem?_eq_some_iff.mp q).1
      rwa [List.length_set] at this
    rw [List.getElem?_set_self hl] at q
    cases q
    exact ⟨v, List.getElem?_set_self (by rw [h.1]; exact hl), r⟩
  · rw [List.getElem?_set_ne hj] at q
    obtain ⟨w, a, b⟩ := h.2 j e q
    exact ⟨w, by rw [List.getElem?_set_ne hj]; exact a, b⟩
theorem EnvR.weak {H : Hp} {σ : St} {env env' : Ev} (h : EnvR H σ env) (hl : env'.length = env.length) (w : ∀ (i : Nat) (d : D), env'[i]? = some (some d) → env[i]? = some (some d)) : EnvR H σ env' :=
  ⟨h.1.trans hl.symm, fun i d e => h.2 i d (w i d e)⟩
/-- an expression's reading: from I and env it gives (a value for) d, and nothing that stood is touched -/
def tD (I : Asr) (env : Ev) (d : D) : TE := fun σ H Q => I.p H ∧ EnvR H σ env ∧ ∀ v H', Same H H' → Rep H' d v → Q v H'
def tT (I : Asr) (env : Ev) (b : Bool) : TT := fun σ H Q => I.p H ∧ EnvR H σ env ∧ ∀ H', Same H H' → Q b H'
def tA (I : Asr) (env : Ev) (ds : List D) : TA := fun σ H Q => I.p H ∧ EnvR H σ env ∧ ∀ vs H', Same H H' → RepL H' ds vs → Q vs H'
def tS (I : Asr) (env : Ev) (O : Ends → Prop) : TS := fun D σ H => I.p H ∧ EnvR H σ env ∧ O D
abbrev PD (X : Cx) (I : Asr) (env : Ev) (e : Expr) (d : D) : Prop := PE X e (tD I env d)
abbrev PB (X : Cx) (I : Asr) (env : Ev) (e : Expr) (b : Bool) : Prop := PT X e (tT I env b)
abbrev PBW (X : Cx) (I : Asr) (env : Ev) (e : Expr) (b : Bool) : Prop := PW X e (tT I env b)
abbrev PDs (X : Cx) (I : Asr) (env : Ev) (es : List Expr) (ds : List D) : Prop := PA X es (tA I env ds)
section
variable {X : Cx} {I : Asr} {env : Ev} {e a b c : Expr} {es rest : List Expr} {d d1 d2 d3 : D} {ds : List D} {pos : Pos} {x : Str} {k : Nat}
theorem _root_.L2.PE.wk {t t' : TE} (h : PE X e t) (k : ∀ σ H Q, t' σ H Q → t σ H Q) : PE X e t' := ⟨fun pins s σ H Q I q => h.run pins s σ H Q I (k σ H Q q)⟩
theorem _root_.L2.PT.wk {t t' : TT} (h : PT X e t) (k : ∀ σ H Q, t' σ H Q → t σ H Q) : PT X e t' := ⟨fun pins s σ H Q I q => h.run pins s σ H Q I (k σ H Q q)⟩
theorem _root_.L2.PW.wk {t t' : TT} (h : PW X e t) (k : ∀ σ H Q, t' σ H Q → t σ H Q) : PW X e t' := ⟨fun wh pins s σ H Q I q => h.run wh pins s σ H Q I (k σ H Q q)⟩
theorem _root_.L2.PA.wk {t t' : TA} (h : PA X es t) (k : ∀ σ H Q, t' σ H Q → t σ H Q) : PA X es t' := ⟨fun p pins s σ H Q I q => h.run p pins s σ H Q I (k σ H Q q)⟩
theorem _root_.L2.PS.wk {st : Stmt} {t t' : TS} (h : PS X st t) (k : ∀ D σ H, t' D σ H → t D σ H) : PS X st t' := ⟨fun pins s σ H D I q => h.run pins s σ H D I (k D σ H q)⟩
theorem _root_.L2.PSs.wk {st : List Stmt} {t t' : TS} (h : PSs X st t) (k : ∀ D σ H, t' D σ H → t D σ H) : PSs X st t' := ⟨fun pins s σ H D I q => h.run pins s σ H D I (k D σ H q)⟩
/-- a way that is not taken -/
theorem pe_nev : PE X e (fun _ _ _ => False) := ⟨fun _ _ _ _ _ _ h => h.elim⟩
theorem pt_nev : PT X e (fun _ _ _ => False) := ⟨fun _ _ _ _ _ _ h => h.elim⟩
theorem pw_nev : PW X e (fun _ _ _ => False) := ⟨fun _ _ _ _ _ _ _ h => h.elim⟩

/-! ### names, constants -/
theorem pd_var (i : Nat) (hd : env[i]? = some (some d) := by rfl) (hN : X.N[i]? = some x := by rfl) (hv : Vis X.env.scope x := by first | exact Or.inl rfl | exact Or.inr (Or.inl rfl) | exact Or.inr (Or.inr rfl)) (hdb : (x == ("__debug__" : Str)) = false := by decide)
    (hcd : (x == ("__classdict__" : Str)) = false := by decide) : PD X I env (.Name x pos) d :=
  (pv i hN hv hdb hcd).wk fun σ H Q ⟨_, hE, k⟩ => let ⟨v, h1, h2⟩ := hE.2 i d hd; ⟨v, h1, k v H (Same.refl H) h2⟩
theorem pd_int {i : Int} {j : Nat} : PD X I env (.Constant (.int i) j pos) (.int i) := pe_int.wk fun σ H Q ⟨_, _, k⟩ => k _ H (Same.refl H) rfl
theorem pd_bl {i : Bool} {j : Nat} : PD X I env (.Constant (.bool i) j pos) (.bl i) := pe_bl.wk fun σ H Q ⟨_, _, k⟩ => k _ H (Same.refl H) rfl
theorem pd_non {j : Nat} : PD X I env (.Constant .none j pos) .non := pe_non.wk fun σ H Q ⟨_, _, k⟩ => k _ H (Same.refl H) rfl
theorem pd_str {s : Str} {j : Nat} : PD X I env (.Constant (.str s) j pos) (.str s) := pe_str.wk fun σ H Q ⟨_, _, k⟩ => k _ H (Same.refl H) rfl
theorem pd_gint {i : Int} {t : Tok} (hm : X.mg x = some (.int i t)) (hg : Gl X x := by rfl) (hd : (x == ("__debug__" : Str)) = false := by decide) : PD X I env (.Name x pos) (.int i) :=
  (pe_glob hg hm (v := .int i) ⟨t, rfl⟩ hd).wk fun σ H Q ⟨_, _, k⟩ => k _ H (Same.refl H) rfl

/-! ### two operands -/
theorem pd_op2 {op : Operator} {r : R2} (ho : OpR X (binaryOp op) r) (ha : PD X I env a d1) (hb : PD X I env b d2)
    (hr : ∀ H x y (Q : VK), I.p H → Rep H d1 x → Rep H d2 y → (∀ v H', Same H H' → Rep H' d v → Q v H') → r x y H Q) : PD X I env (.BinOp a op b pos) d :=
  (pe_op ho ha hb).wk fun σ H Q ⟨hI, hE, k⟩ => ⟨hI, hE, fun x H1 s1 r1 => ⟨I.mono s1 hI, hE.mono s1, fun y H2 s2 r2 =>
    hr H2 x y Q (I.mono s2 (I.mono s1 hI)) (r1.mono s2) r2 fun v H' s3 r3 => k v H' ((s1.trans s2).trans s3) r3⟩⟩
theorem pd_cmp2 {op : CmpOp} {r : R2} (ho : OpR X (compareOp op) r) (hm : behindInMarks op b = false) (ha : PD X I env a d1) (hb : PD X I env b d2)
    (hr : ∀ H x y (Q : VK), I.p H → Rep H d1 x → Rep H d2 y → (∀ v H', Same H H' → Rep H' d v → Q v H') → r x y H Q) : PD X I env (.Compare a [op] [b] pos) d :=
  (pe_cmpR ho ha hb hm).wk fun σ H Q ⟨hI, hE, k⟩ => ⟨hI, hE, fun x H1 s1 r1 => ⟨I.mono s1 hI, hE.mono s1, fun y H2 s2 r2 =>
    hr H2 x y Q (I.mono s2 (I.mono s1 hI)) (r1.mono s2) r2 fun v H' s3 r3 => k v H' ((s1.trans s2).trans s3) r3⟩⟩
theorem pb_cmp2 {op : CmpOp} {r : R2} {q : Bool} (ho : OpR X (compareOp op) r) (hm : behindInMarks op b = false) (ha : PD X I env a d1) (hb : PD X I env b d2)
    (hr : ∀ H x y (Q : VK), I.p H → Rep H d1 x → Rep H d2 y → (∀ v H', Same H H' → Rep H' (.bl q) v → Q v H') → r x y H Q) : PB X I env (.Compare a [op] [b] pos) q :=
  (pt_cmpR ho ha hb hm).wk fun σ H Q ⟨hI, hE, k⟩ => ⟨hI, hE, fun x H1 s1 r1 => ⟨I.mono s1 hI, hE.mono s1, fun y H2 s2 r2 =>
    hr H2 x y _ (I.mono s2 (I.mono s1 hI)) (r1.mono s2) r2 fun v H' s3 r3 => ⟨q, r3, k H' ((s1.trans s2).trans s3)⟩⟩⟩
theorem pd_add {i j : Int} (ha : PD X I env a (.int i)) (hb : PD X I env b (.int j)) : PD X I env (.BinOp a .Add b pos) (.int (i + j)) :=
  pd_op2 op_add ha hb fun H x y Q _ r1 r2 k => ⟨i, j, r1, r2, k _ H (Same.refl H) rfl⟩
theorem pd_sub {i j : Int} (ha : PD X I env a (.int i)) (hb : PD X I env b (.int j)) : PD X I env (.BinOp a .Sub b pos) (.int (i - j)) :=
  pd_op2 op_sub ha hb fun H x y Q _ r1 r2 k => ⟨i, j, r1, r2, k _ H (Same.refl H) rfl⟩
theorem pd_mul {i j : Int} (ha : PD X I env a (.int i)) (hb : PD X I env b (.int j)) (hc : CMul i j) : PD X I env (.BinOp a .Mult b pos) (.int (i * j)) :=
  pd_op2 op_mul ha hb fun H x y Q _ r1 r2 k => ⟨i, j, r1, r2, hc, k _ H (Same.refl H) rfl⟩
theorem pd_fdiv {i j : Int} (ha : PD X I env a (.int i)) (hb : PD X I env b (.int j)) (hc : CDiv i j) : PD X I env (.BinOp a .FloorDiv b pos) (.int (i / j)) :=
  pd_op2 op_fdiv ha hb fun H x y Q _ r1 r2 k => ⟨i, j, r1, r2, hc, k _ H (Same.refl H) rfl⟩
theorem pd_mod {i j : Int} (ha : PD X I env a (.int i)) (hb : PD X I env b (.int j)) (hc : 0 < j) : PD X I env (.BinOp a .Mod b pos) (.int (i % j)) :=
  pd_op2 op_mod ha hb fun H x y Q _ r1 r2 k => ⟨i, j, r1, r2, hc, k _ H (Same.refl H) rfl⟩
theorem pd_neg {i : Int} (ha : PD X I env a (.int i)) : PD X I env (.UnaryOp .USub a pos) (.int (-i)) :=
  (pe_un un_neg ha).wk fun σ H Q ⟨hI, hE, k⟩ => ⟨hI, hE, fun x H1 s1 r1 => ⟨i, r1, k _ H1 s1 rfl⟩⟩
theorem pd_lt {i j : Int} {q : Bool} (ha : PD X I env a (.int i)) (hb : PD X I env b (.int j)) (hq : decide (i < j) = q := by rfl) : PD X I env (.Compare a [.Lt] [b] pos) (.bl q) :=
  pd_cmp2 op_lt (nomark _) ha hb fun H x y Q _ r1 r2 k => ⟨i, j, r1, r2, k _ H (Same.refl H) (congrArg V.bl hq)⟩
theorem pd_le {i j : Int} {q : Bool} (ha : PD X I env a (.int i)) (hb : PD X I env b (.int j)) (hq : decide (i ≤ j) = q := by rfl) : PD X I env (.Compare a [.LtE] [b] pos) (.bl q) :=
  pd_cmp2 op_le (nomark _) ha hb fun H x y Q _ r1 r2 k => ⟨i, j, r1, r2, k _ H (Same.refl H) (congrArg V.bl hq)⟩
theorem pd_gt {i j : Int} {q : Bool} (ha : PD X I env a (.int i)) (hb : PD X I env b (.int j)) (hq : decide (j < i) = q := by rfl) : PD X I env (.Compare a [.Gt] [b] pos) (.bl q) :=
  pd_cmp2 op_gt (nomark _) ha hb fun H x y Q _ r1 r2 k => ⟨i, j, r1, r2, k _ H (Same.refl H) (congrArg V.bl hq)⟩
theorem pd_ge {i j : Int} {q : Bool} (ha : PD X I env a (.int i)) (hb : PD X I env b (.int j)) (hq : decide (j ≤ i) = q := by rfl) : PD X I env (.Compare a [.GtE] [b] pos) (.bl q) :=
  pd_cmp2 op_ge (nomark _) ha hb fun H x y Q _ r1 r2 k => ⟨i, j, r1, r2, k _ H (Same.refl H) (congrArg V.bl hq)⟩
theorem pb_lt {i j : Int} {q : Bool} (ha : PD X I env a (.int i)) (hb : PD X I env b (.int j)) (hq : decide (i < j) = q := by rfl) : PB X I env (.Compare a [.Lt] [b] pos) q :=
  pb_cmp2 op_lt (nomark _) ha hb fun H x y Q _ r1 r2 k => ⟨i, j, r1, r2, k _ H (Same.refl H) (congrArg V.bl hq)⟩
theorem pb_le {i j : Int} {q : Bool} (ha : PD X I env a (.int i)) (hb : PD X I env b (.int j)) (hq : decide (i ≤ j) = q := by rfl) : PB X I env (.Compare a [.LtE] [b] pos) q :=
  pb_cmp2 op_le (nomark _) ha hb fun H x y Q _ r1 r2 k => ⟨i, j, r1, r2, k _ H (Same.refl H) (congrArg V.bl hq)⟩
theorem pb_gt {i j : Int} {q : Bool} (ha : PD X I env a (.int i)) (hb : PD X I env b (.int j)) (hq : decide (j < i) = q := by rfl) : PB X I env (.Compare a [.Gt] [b] pos) q :=
  pb_cmp2 op_gt (nomark _) ha hb fun H x y Q _ r1 r2 k => ⟨i, j, r1, r2, k _ H (Same.refl H) (congrArg V.bl hq)⟩
theorem pb_ge {i j : Int} {q : Bool} (ha : PD X I env a (.int i)) (hb : PD X I env b (.int j)) (hq : decide (j ≤ i) = q := by rfl) : PB X I env (.Compare a [.GtE] [b] pos) q :=
  pb_cmp2 op_ge (nomark _) ha hb fun H x y Q _ r1 r2 k => ⟨i, j, r1, r2, k _ H (Same.refl H) (congrArg V.bl hq)⟩
theorem eqD_ok {K : PySem.W.Frag} {d e : D} {q : Bool} {H : Hp} {x y : V} {Q : VK} (h1 : d.shp = true) (h2 : e.shp = true) (hq : D.eqb d e = q) (r1 : Rep H d x) (r2 : Rep H e y)
    (k : ∀ v H', Same H H' → Rep H' (.bl q) v → Q v H') : rEqD K x y H Q := by
  refine ⟨d.py, e.py, r1.dp (Bool.and_eq_true_iff.mp h1).1, r2.dp (Bool.and_eq_true_iff.mp h2).1, D.shaped h1, D.shaped h2, ?_⟩
  rw [D.eqv_eqb, hq]
  exact k _ H (Same.refl H) rfl
theorem neD_ok {K : PySem.W.Frag} {d e : D} {q : Bool} {H : Hp} {x y : V} {Q : VK} (h1 : d.shp = true) (h2 : e.shp = true) (hq : D.eqb d e = q) (r1 : Rep H d x) (r2 : Rep H e y)
    (k : ∀ v H', Same H H' → Rep H' (.bl (!q)) v → Q v H') : rNeD K x y H Q := by
  refine ⟨d.py, e.py, r1.dp (Bool.and_eq_true_iff.mp h1).1, r2.dp (Bool.and_eq_true_iff.mp h2).1, D.shaped h1, D.shaped h2, ?_⟩
  rw [D.eqv_eqb, hq]
  exact k _ H (Same.refl H) rfl
/-- a == b, a != b, of data at any depth -/
theorem pd_eq {q : Bool} (hr : Room k X.A) (ha : PD X I env a d1) (hb : PD X I env b d2) (hq : D.eqb d1 d2 = q := by rfl) (h1 : d1.shp = true := by rfl) (h2 : d2.shp = true := by rfl) : PD X I env (.Compare a [.Eq] [b] pos) (.bl q) :=
  pd_cmp2 (op_eqD hr.units) (nomark _) ha hb fun H x y Q _ r1 r2 k => eqD_ok h1 h2 hq r1 r2 k
theorem pd_ne {q : Bool} (hr : Room k X.A) (ha : PD X I env a d1) (hb : PD X I env b d2) (hq : (!D.eqb d1 d2) = q := by rfl) (h1 : d1.shp = true := by rfl) (h2 : d2.shp = true := by rfl) : PD X I env (.Compare a [.NotEq] [b] pos) (.bl q) :=
  pd_cmp2 (op_neD hr.units) (nomark _) ha hb fun H x y Q _ r1 r2 k => neD_ok h1 h2 rfl r1 r2 (by rw [hq]; exact k)
theorem pb_eq {q : Bool} (hr : Room k X.A) (ha : PD X I env a d1) (hb : PD X I env b d2) (hq : D.eqb d1 d2 = q := by rfl) (h1 : d1.shp = true := by rfl) (h2 : d2.shp = true := by rfl) : PB X I env (.Compare a [.Eq] [b] pos) q :=
  pb_cmp2 (op_eqD hr.units) (nomark _) ha hb fun H x y Q _ r1 r2 k => eqD_ok h1 h2 hq r1 r2 k
theorem pb_ne {q : Bool} (hr : Room k X.A) (ha : PD X I env a d1) (hb : PD X I env b d2) (hq : (!D.eqb d1 d2) = q := by rfl) (h1 : d1.shp = true := by rfl) (h2 : d2.shp = true := by rfl) : PB X I env (.Compare a [.NotEq] [b] pos) q :=
  pb_cmp2 (op_neD hr.units) (nomark _) ha hb fun H x y Q _ r1 r2 k => neD_ok h1 h2 rfl r1 r2 (by rw [hq]; exact k)
/-- of texts -/
theorem dec_strV {s t : Str} {q : Bool} (h : decide (s = t) = q) : decide (V.str s = V.str t) = q := by
  rw [← h]
  by_cases e : s = t
  · subst e; simp
  · rw [decide_eq_false e, decide_eq_false (fun z => e (V.str.inj z))]
theorem pd_eqS {s t : Str} {q : Bool} (ha : PD X I env a (.str s)) (hb : PD X I env b (.str t)) (hq : decide (s = t) = q := by decide +kernel) : PD X I env (.Compare a [.Eq] [b] pos) (.bl q) :=
  pd_cmp2 op_eq (nomark _) ha hb fun H x y Q _ r1 r2 k => by
    have e1 : x = .str s := r1
    have e2 : y = .str t := r2
    subst e1 e2
    exact ⟨rfl, by rw [dec_strV hq]; exact k _ H (Same.refl H) rfl⟩
theorem pb_eqS {s t : Str} {q : Bool} (ha : PD X I env a (.str s)) (hb : PD X I env b (.str t)) (hq : decide (s = t) = q := by decide +kernel) : PB X I env (.Compare a [.Eq] [b] pos) q :=
  pb_cmp2 op_eq (nomark _) ha hb fun H x y Q _ r1 r2 k => by
    have e1 : x = .str s := r1
    have e2 : y = .str t := r2
    subst e1 e2
    exact ⟨rfl, by rw [dec_strV hq]; exact k _ H (Same.refl H) rfl⟩
theorem pb_neS {s t : Str} {q : Bool} (ha : PD X I env a (.str s)) (hb : PD X I env b (.str t)) (hq : (!decide (s = t)) = q := by decide +kernel) : PB X I env (.Compare a [.NotEq] [b] pos) q :=
  pb_cmp2 op_ne (nomark _) ha hb fun H x y Q _ r1 r2 k => by
    have e1 : x = .str s := r1
    have e2 : y = .str t := r2
    subst e1 e2
    exact ⟨rfl, by rw [dec_strV (q := decide (s = t)) rfl, hq]; exact k _ H (Same.refl H) rfl⟩
/-- is None -/
def D.isNon : D → Bool
  | .non => true
  | _ => false
theorem Rep.isNon {H : Hp} {d : D} {v : V} (h : Rep H d v) : decide (v = V.non) = d.isNon := by
  cases d with
  | non => have e : v = .non := h; subst e; rfl
  | bl _ => have e : v = .bl _ := h; subst e; rfl
  | int _ => have e : v = .int _ := h; subst e; rfl
  | str _ => have e : v = .str _ := h; subst e; exact decide_eq_false (fun q => nomatch q)
  | ref _ => have e : v = .ref _ := h; subst e; rfl
  | tup _ => unfold Rep at h; obtain ⟨_, _, e, _⟩ := h; subst e; rfl
  | lst _ => unfold Rep at h; obtain ⟨_, _, e, _⟩ := h; subst e; rfl
theorem pd_isN {j : Nat} {pos' : Pos} {q : Bool} (ha : PD X I env a d) (hq : d.isNon = q := by rfl) : PD X I env (.Compare a [.Is] [.Constant .none j pos'] pos) (.bl q) :=
  pd_cmp2 op_isN (nomark _) ha pd_non fun H x y Q _ r1 r2 k => ⟨r2, by rw [r1.isNon, hq]; exact k _ H (Same.refl H) rfl⟩
theorem pb_isN {j : Nat} {pos' : Pos} {q : Bool} (ha : PD X I env a d) (hq : d.isNon = q := by rfl) : PB X I env (.Compare a [.Is] [.Constant .none j pos'] pos) q :=
  pb_cmp2 op_isN (nomark _) ha pd_non fun H x y Q _ r1 r2 k => ⟨r2, by rw [r1.isNon, hq]; exact k _ H (Same.refl H) rfl⟩
theorem pd_notN {j : Nat} {pos' : Pos} {q : Bool} (ha : PD X I env a d) (hq : (!d.isNon) = q := by rfl) : PD X I env (.Compare a [.IsNot] [.Constant .none j pos'] pos) (.bl q) :=
  pd_cmp2 op_notN (nomark _) ha pd_non fun H x y Q _ r1 r2 k => ⟨r2, by rw [r1.isNon, hq]; exact k _ H (Same.refl H) rfl⟩
theorem pb_notN {j : Nat} {pos' : Pos} {q : Bool} (ha : PD X I env a d) (hq : (!d.isNon) = q := by rfl) : PB X I env (.Compare a [.IsNot] [.Constant .none j pos'] pos) q :=
  pb_cmp2 op_notN (nomark _) ha pd_non fun H x y Q _ r1 r2 k => ⟨r2, by rw [r1.isNon, hq]; exact k _ H (Same.refl H) rfl⟩

/-! ### and, or, not, if -/
theorem PB.to {q q' : Bool} (h : PB X I env e q) (x : q = q') : PB X I env e q' := x ▸ h
theorem PD.to (h : PD X I env e d1) (x : d1 = d2) : PD X I env e d2 := x ▸ h
/-- a value that is a bool, as a test -/
theorem pb_val {q : Bool} (h : PD X I env e (.bl q)) (he : ∀ whole, isTrue e X.env whole = (do let v ← whole; standAt e.pos; holding [v] (truthy v)) := by intro _; rfl) : PB X I env e q :=
  (pt_val h he).wk fun σ H Q ⟨hI, hE, k⟩ => ⟨hI, hE, fun x H1 s1 r1 => ⟨q, r1, k H1 s1⟩⟩
theorem pb_not {q q' : Bool} (h : PB X I env a q) (hq : (!q) = q' := by rfl) : PB X I env (.UnaryOp .Not a pos) q' :=
  (pt_not h).wk fun σ H Q ⟨hI, hE, k⟩ => ⟨hI, hE, fun H1 s1 => by subst hq; exact k H1 s1⟩
theorem pd_not {q q' : Bool} (h : PD X I env a (.bl q)) (hq : (!q) = q' := by rfl) : PD X I env (.UnaryOp .Not a pos) (.bl q') :=
  (pe_not h).wk fun σ H Q ⟨hI, hE, k⟩ => ⟨hI, hE, fun x H1 s1 r1 => ⟨q, r1, by subst hq; exact k _ H1 s1 rfl⟩⟩
-- tests
theorem pbw_and1 {q : Bool} (h : PB X I env a q) : PBW X I env (.BoolOp .And [a] pos) q := pw_and1 h
theorem pbw_or1 {q : Bool} (h : PB X I env a q) : PBW X I env (.BoolOp .Or [a] pos) q := pw_or1 h
theorem pbw_and0 (h : PB X I env a false) : PBW X I env (.BoolOp .And (a :: b :: rest) pos) false :=
  (pw_and h pw_nev).wk fun σ H Q ⟨hI, hE, k⟩ => ⟨hI, hE, fun H1 s1 => by
    show if false = true then _ else _
    rw [if_neg Bool.false_ne_true]; exact k H1 s1⟩
theorem pbw_and {q : Bool} (h : PB X I env a true) (h2 : PBW X I env (.BoolOp .And (b :: rest) pos) q) : PBW X I env (.BoolOp .And (a :: b :: rest) pos) q :=
  (pw_and h h2).wk fun σ H Q ⟨hI, hE, k⟩ => ⟨hI, hE, fun H1 s1 => by
    show if true = true then _ else _
    rw [if_pos rfl]; exact ⟨I.mono s1 hI, hE.mono s1, fun H2 s2 => k H2 (s1.trans s2)⟩⟩
theorem pbw_or0 (h : PB X I env a true) : PBW X I env (.BoolOp .Or (a :: b :: rest) pos) true :=
  (pw_or h pw_nev).wk fun σ H Q ⟨hI, hE, k⟩ => ⟨hI, hE, fun H1 s1 => by
    show if true = true then _ else _
    rw [if_pos rfl]; exact k H1 s1⟩
theorem pbw_or {q : Bool} (h : PB X I env a false) (h2 : PBW X I env (.BoolOp .Or (b :: rest) pos) q) : PBW X I env (.BoolOp .Or (a :: b :: rest) pos) q :=
  (pw_or h h2).wk fun σ H Q ⟨hI, hE, k⟩ => ⟨hI, hE, fun H1 s1 => by
    show if false = true then _ else _
    rw [if_neg Bool.false_ne_true]; exact ⟨I.mono s1 hI, hE.mono s1, fun H2 s2 => k H2 (s1.trans s2)⟩⟩
theorem pb_w {q : Bool} (h : PBW X I env e q) : PB X I env e q := PW.pt h
-- values
theorem pd_one {op : BoolOp} (h : PD X I env a d) : PD X I env (.BoolOp op [a] pos) d := pe_one h
theorem pd_and0 (h : PD X I env a (.bl false)) : PD X I env (.BoolOp .And (a :: b :: rest) pos) (.bl false) :=
  (pe_and h pe_nev).wk fun σ H Q ⟨hI, hE, k⟩ => ⟨hI, hE, fun x H1 s1 r1 => ⟨false, r1, by rw [if_neg Bool.false_ne_true]; exact k _ H1 s1 rfl⟩⟩
theorem pd_and (h : PD X I env a (.bl true)) (h2 : PD X I env (.BoolOp .And (b :: rest) pos) d) : PD X I env (.BoolOp .And (a :: b :: rest) pos) d :=
  (pe_and h h2).wk fun σ H Q ⟨hI, hE, k⟩ => ⟨hI, hE, fun x H1 s1 r1 => ⟨true, r1, by rw [if_pos rfl]; exact ⟨I.mono s1 hI, hE.mono s1, fun v H2 s2 r2 => k v H2 (s1.trans s2) r2⟩⟩⟩
theorem pd_or0 (h : PD X I env a (.bl true)) : PD X I env (.BoolOp .Or (a :: b :: rest) pos) (.bl true) :=
  (pe_or h pe_nev).wk fun σ H Q ⟨hI, hE, k⟩ => ⟨hI, hE, fun x H1 s1 r1 => ⟨true, r1, by rw [if_pos rfl]; exact k _ H1 s1 rfl⟩⟩
theorem pd_or (h : PD X I env a (.bl false)) (h2 : PD X I env (.BoolOp .Or (b :: rest) pos) d) : PD X I env (.BoolOp .Or (a :: b :: rest) pos) d :=
  (pe_or h h2).wk fun σ H Q ⟨hI, hE, k⟩ => ⟨hI, hE, fun x H1 s1 r1 => ⟨false, r1, by rw [if_neg Bool.false_ne_true]; exact ⟨I.mono s1 hI, hE.mono s1, fun v H2 s2 r2 => k v H2 (s1.trans s2) r2⟩⟩⟩
theorem pd_ifT (h : PB X I env c true) (ha : PD X I env a d) : PD X I env (.IfExp c a b pos) d :=
  (pe_ifExp h ha pe_nev).wk fun σ H Q ⟨hI, hE, k⟩ => ⟨hI, hE, fun H1 s1 => by
    show if true = true then _ else _
    rw [if_pos rfl]; exact ⟨I.mono s1 hI, hE.mono s1, fun v H2 s2 r2 => k v H2 (s1.trans s2) r2⟩⟩
theorem pd_ifF (h : PB X I env c false) (hb : PD X I env b d) : PD X I env (.IfExp c a b pos) d :=
  (pe_ifExp h pe_nev hb).wk fun σ H Q ⟨hI, hE, k⟩ => ⟨hI, hE, fun H1 s1 => by
    show if false = true then _ else _
    rw [if_neg Bool.false_ne_true]; exact ⟨I.mono s1 hI, hE.mono s1, fun v H2 s2 r2 => k v H2 (s1.trans s2) r2⟩⟩
/-- a test whose outcome is left open -/
theorem pd_ifB {q : Bool} (h : PB X I env c q) (ha : q = true → PD X I env a d) (hb : q = false → PD X I env b d) : PD X I env (.IfExp c a b pos) d := by
  cases q with
  | true => exact pd_ifT h (ha rfl)
  | false => exact pd_ifF h (hb rfl)

/-- a <= b < c -/
theorem pb_chain {i j l : Int} {pos : Pos} (ha : PD X I env a (.int i)) (hb : PD X I env b (.int j)) (hc : PD X I env c (.int l)) (h1 : i ≤ j) (h2 : j < l) (hm : lastMarks [CmpOp.LtE, CmpOp.Lt] [b, c] = false := by with_unfolding_all rfl) : PB X I env (.Compare a [.LtE, .Lt] [b, c] pos) true :=
  (pt_chain op_le op_lt ha hb hc hm).wk fun σ H Q ⟨hI, hE, k⟩ => ⟨hI, hE, fun x H1 s1 r1 => ⟨I.mono s1 hI, hE.mono s1, fun y H2 s2 r2 => by
    refine ⟨i, j, r1, r2, true, congrArg V.bl (decide_eq_true h1), ?_⟩
    rw [if_pos rfl]
    exact ⟨I.mono s2 (I.mono s1 hI), (hE.mono s1).mono s2, fun z H3 s3 r3 => ⟨j, l, r2, r3, true, congrArg V.bl (decide_eq_true h2), k H3 ((s1.trans s2).trans s3)⟩⟩⟩⟩

theorem zz {n : Nat} (h : Nat.ble n 1000 = true) : n ≤ sizeLine := by
  have := Nat.le_of_ble_eq_true h
  rw [sizeLine_eq]
  omega
/-! ### argument lists, displays -/
theorem pds_nil : PDs X I env [] [] := pa_nil.wk fun σ H Q ⟨_, _, k⟩ => k [] H (Same.refl H) rfl
theorem pds_cons (ha : PD X I env e d) (hr : PDs X I env es ds) (hs : starEach (e :: es) X.env = (false, eval e X.env) :: starEach es X.env := by rfl) : PDs X I env (e :: es) (d :: ds) :=
  (pa_cons ha hr hs).wk fun σ H Q ⟨hI, hE, k⟩ => ⟨hI, hE, fun x H1 s1 r1 => ⟨I.mono s1 hI, hE.mono s1, fun xs H2 s2 r2 => k _ H2 (s1.trans s2) (by unfold RepL; exact ⟨x, xs, rfl, r1.mono s2, r2⟩)⟩⟩
theorem pds_star {p : Pos} {d1 : List D} (ha : PD X I env e (.tup d1)) (hr : PDs X I env es ds) (hs : starEach (.Starred e p :: es) X.env = (true, eval e X.env) :: starEach es X.env := by rfl) : PDs X I env (.Starred e p :: es) (d1 ++ ds) :=
  (StX.pa_star ha hr hs).wk fun σ H Q ⟨hI, hE, k⟩ => ⟨hI, hE, fun x H1 s1 r1 => by
    unfold Rep at r1
    obtain ⟨q, ys, e1, hq, hl⟩ := r1
    exact ⟨q, ys, e1, .inl (SqT.of hq), I.mono s1 hI, hE.mono s1, fun xs H2 s2 r2 => k _ H2 (s1.trans s2) ((hl.mono s2).append r2)⟩⟩
theorem Same.new {H : Hp} {p : Addr} {o : HO} (h : H p = none) : Same H (upd H p o) := fun b u e => by rw [upd_ne (ne_of_none e h)]; exact e
theorem Rep.tup_new {H : Hp} {p : Addr} {xs : List V} {ds : List D} (h : H p = none) (r : RepL H ds xs) : Rep (upd H p (.tup xs)) (.tup ds) (.ref p) := by
  unfold Rep
  exact ⟨p, xs, rfl, upd_same, r.mono (Same.new h)⟩
theorem Rep.lst_new {H : Hp} {p : Addr} {xs : List V} {ds : List D} (h : H p = none) (r : RepL H ds xs) : Rep (upd H p (.lst xs)) (.lst ds) (.ref p) := by
  unfold Rep
  exact ⟨p, xs, rfl, upd_same, r.mono (Same.new h)⟩
theorem pd_tup {x1} (h : PDs X I env es ds) (hz : ds.length ≤ sizeLine := by exact zz rfl) : PD X I env (.Tuple es x1 pos) (.tup ds) :=
  (pe_tup h).wk fun σ H Q ⟨hI, hE, k⟩ => ⟨hI, hE, fun xs H1 s1 r1 => ⟨by rw [r1.length]; exact hz, fun p hp => k _ _ (s1.trans (Same.new hp)) (Rep.tup_new hp r1)⟩⟩
theorem pd_lst (h : PDs X I env es ds) (hz : ds.length ≤ sizeLine := by exact zz rfl) : PD X I env (.List es pos) (.lst ds) :=
  (pe_lst h).wk fun σ H Q ⟨hI, hE, k⟩ => ⟨hI, hE, fun xs H1 s1 r1 => ⟨by rw [r1.length]; exact hz, fun p hp => k _ _ (s1.trans (Same.new hp)) (Rep.lst_new hp r1)⟩⟩

/-! ### subscripts -/
theorem pd_ixT {i : Int} (ha : PD X I env a (.tup ds)) (hb : PD X I env b (.int i)) (hd : atI ds i = some d := by rfl) (hs : PlainIx b := by exact fun _ _ => rfl) : PD X I env (.Subscript a b pos) d :=
  (pe_ix ix_tup ha hb hs).wk fun σ H Q ⟨hI, hE, k⟩ => ⟨hI, hE, fun x H1 s1 r1 => ⟨I.mono s1 hI, hE.mono s1, fun y H2 s2 r2 => by
    have r1 := r1.mono s2
    unfold Rep at r1
    obtain ⟨q, ys, e1, hq, hl⟩ := r1
    obtain ⟨v, hv, rv⟩ := hl.at_ hd
    exact ⟨q, ys, i, v, e1, r2, SqT.of hq, hv, k v H2 (s1.trans s2) rv⟩⟩⟩
theorem pd_ixL {i : Int} (ha : PD X I env a (.lst ds)) (hb : PD X I env b (.int i)) (hd : atI ds i = some d := by rfl) (hs : PlainIx b := by exact fun _ _ => rfl) : PD X I env (.Subscript a b pos) d :=
  (pe_ix ix_list ha hb hs).wk fun σ H Q ⟨hI, hE, k⟩ => ⟨hI, hE, fun x H1 s1 r1 => ⟨I.mono s1 hI, hE.mono s1, fun y H2 s2 r2 => by
    have r1 := r1.mono s2
    unfold Rep at r1
    obtain ⟨q, ys, e1, hq, hl⟩ := r1
    obtain ⟨v, hv, rv⟩ := hl.at_ hd
    exact ⟨q, ys, i, v, e1, r2, SqL.of hq, hv, k v H2 (s1.trans s2) rv⟩⟩⟩
end
end Sd
namespace Sd
open PySem L2

section
variable {X : Cx} {I : Asr} {env : Ev} {e a b c : Expr} {es rest : List Expr} {d d1 d2 d3 : D} {ds : List D} {pos p2 : Pos} {x : Str} {k j : Nat}
/-! ### slices -/
theorem _root_.L2.PO.wk {o : Option Expr} {t t' : TO} (h : PO X o t) (k : ∀ σ H Q, t' σ H Q → t σ H Q) : PO X o t' := ⟨fun pins s σ H Q I q => h.run pins s σ H Q I (k σ H Q q)⟩
def tO (I : Asr) (env : Ev) (o : Option Int) : TO := fun σ H Q => I.p H ∧ EnvR H σ env ∧ ∀ H', Same H H' → Q o H'
abbrev PDO (X : Cx) (I : Asr) (env : Ev) (e : Option Expr) (o : Option Int) : Prop := PO X e (tO I env o)
theorem pdo_none : PDO X I env none none := po_none.wk fun σ H Q ⟨_, _, k⟩ => k H (Same.refl H)
theorem pdo_some {i : Int} (h : PD X I env e (.int i)) : PDO X I env (some e) (some i) := (po_some h).wk fun σ H Q ⟨hI, hE, k⟩ => ⟨hI, hE, fun v H1 s1 r1 => ⟨i, r1, k H1 s1⟩⟩
theorem cut_whole {α : Type} {xs : List α} {lo hi : Option Int} (h : HT.sIx xs.length 0 lo = 0 ∧ HT.sIx xs.length xs.length hi = xs.length) : (xs.drop (HT.sIx xs.length 0 lo)).take (HT.sIx xs.length xs.length hi - HT.sIx xs.length 0 lo) = xs := by
  rw [h.1, h.2, List.drop_zero, Nat.sub_zero, List.take_length]
theorem pd_slT {lo hi : Option Expr} {l u : Option Int} (ha : PD X I env a (.tup ds)) (hl : PDO X I env lo l) (hu : PDO X I env hi u) : PD X I env (.Subscript a (.Slice lo hi none p2) pos) (.tup (cutD ds l u)) :=
  (pe_slice sl_tupA ha hl hu).wk fun σ H Q ⟨hI, hE, k⟩ => ⟨hI, hE, fun x H1 s1 r1 => ⟨I.mono s1 hI, hE.mono s1, fun H2 s2 => ⟨I.mono s2 (I.mono s1 hI), (hE.mono s1).mono s2, fun H3 s3 => by
    have s := (s1.trans s2).trans s3
    have r1 := (r1.mono s2).mono s3
    unfold Rep at r1
    obtain ⟨q, ys, e1, hq, hl⟩ := r1
    refine ⟨q, ys, e1, SqT.of hq, fun hw => ?_, fun hw p hp => ?_⟩
    · refine k _ H3 s ?_
      have e2 : cutD ds l u = ds := by unfold cutD; exact cut_whole (by rw [← hl.length]; exact hw)
      rw [e2]
      unfold Rep
      exact ⟨q, ys, rfl, hq, hl⟩
    · exact k _ _ (s.trans (Same.new hp)) (Rep.tup_new hp hl.cut)⟩⟩⟩

/-! ### defs -/
/-- a def's promise over data -/
def spD (S : List D → D → Prop) : Sp := fun vs H Q _ => ∃ ds d, RepL H ds vs ∧ S ds d ∧ ∀ v H', Same H H' → Rep H' d v → Q v H'
/-- .. of a def that may raise the class at C -/
def spX (C : Addr) (S : List D → Option D → Prop) : Sp := fun vs H Q E => ∃ ds r, RepL H ds vs ∧ S ds r ∧
  match r with
  | some d => ∀ v H', Same H H' → Rep H' d v → Q v H'
  | none => ∀ H', Same H H' → E (.ref C) none H'
/-- a def that may be called by its name -/
structure Cal (P : Program) (w : World) (K : PySem.W.Frag) (mg : Str → Option Value) (base : Heap) (CX : CXT) (k : Nat) (x : Str) (sp : Sp) : Prop where
  ex : ∃ (f : Addr) (fd : FuncData) (ps : List Str), FnOk P w K mg base CX k f fd ps sp ∧ mg x = some (.ref f) ∧ PySem.W.keepIn K (.ref f) = true ∧ Binds K fd ps []
theorem pd_call {CX : CXT} {S : List D → D → Prop} {p : Pos} (c : Cal X.prog X.w X.K X.mg X.base CX k x (spD S)) (hx : Passes CX X E0) (hr : Room j X.A) (hk : k ≤ j) (ha : PDs X I env (e :: es) ds) (hS : S ds d) (hg : Gl X x := by rfl)
    (hdb : (x == ("__debug__" : Str)) = false := by decide) (he : starEach (e :: es) X.env = (false, eval e X.env) :: starEach es X.env := by rfl) (hpl : (backTo pos (starEach es X.env)).any (·.1) = false := by rfl) :
    PD X I env (.Call (.Name x p) (e :: es) [] pos) d := by
  obtain ⟨f, fd, ps, F, hm, kp, b⟩ := c.ex
  exact (pe_call (E := E0) (dvs := []) F (hr.mono hk) hg hm kp b .nil hx ha hdb he hpl).wk fun σ H Q ⟨hI, hE, k⟩ => ⟨hI, hE, fun vs H1 s1 r1 =>
    ⟨ds, d, by rw [List.append_nil]; exact r1, hS, fun v H' s2 r2 => k v H' (s1.trans s2) r2⟩⟩
/-- .. of a def that could raise, and does not -/
theorem pd_callX {C : Addr} {CX : CXT} {S : List D → Option D → Prop} {p : Pos} (c : Cal X.prog X.w X.K X.mg X.base CX k x (spX C S)) (hx : Passes CX X E0) (hr : Room j X.A) (hk : k ≤ j) (ha : PDs X I env (e :: es) ds) (hS : S ds (some d)) (hg : Gl X x := by rfl)
    (hdb : (x == ("__debug__" : Str)) = false := by decide) (he : starEach (e :: es) X.env = (false, eval e X.env) :: starEach es X.env := by rfl) (hpl : (backTo pos (starEach es X.env)).any (·.1) = false := by rfl) :
    PD X I env (.Call (.Name x p) (e :: es) [] pos) d := by
  obtain ⟨f, fd, ps, F, hm, kp, b⟩ := c.ex
  exact (pe_call (E := E0) (dvs := []) F (hr.mono hk) hg hm kp b .nil hx ha hdb he hpl).wk fun σ H Q ⟨hI, hE, k⟩ => ⟨hI, hE, fun vs H1 s1 r1 =>
    ⟨ds, some d, by rw [List.append_nil]; exact r1, hS, fun v H' s2 r2 => k v H' (s1.trans s2) r2⟩⟩

/-! ### built-ins -/
theorem bt_any : bootBuiltins "any" = some (.builtin "any") := by decide +kernel
theorem bt_all : bootBuiltins "all" = some (.builtin "all") := by decide +kernel
theorem bt_min : bootBuiltins "min" = some (.builtin "min") := by decide +kernel
theorem bt_max : bootBuiltins "max" = some (.builtin "max") := by decide +kernel
theorem bt_sum : bootBuiltins "sum" = some (.builtin "sum") := by decide +kernel
theorem bt_len : bootBuiltins "len" = some (.builtin "len") := by decide +kernel
theorem bt_abs : bootBuiltins "abs" = some (.builtin "abs") := by decide +kernel
theorem bt_sorted : bootBuiltins "sorted" = some (.builtin "sorted") := by decide +kernel
theorem bt_isinstance : bootBuiltins "isinstance" = some (.builtin "isinstance") := by decide +kernel
theorem bt_tuple : bootBuiltins "tuple" = some (.type "tuple") := by decide +kernel
theorem bt_list : bootBuiltins "list" = some (.type "list") := by decide +kernel
theorem bt_int : bootBuiltins "int" = some (.type "int") := by decide +kernel
theorem bt_set : bootBuiltins "set" = some (.type "set") := by decide +kernel
theorem bt_bool : bootBuiltins "bool" = some (.type "bool") := by decide +kernel
theorem bt_str : bootBuiltins "str" = some (.type "str") := by decide +kernel
/-- a call of a built-in by its rule -/
theorem pd_bltn {id : String} {r : List V → Hp → VK → Prop} {p : Pos} (hc : CallR X (.builtin id) r) (hm : X.mg x = none) (hv : bootBuiltins x = some (.builtin id)) (ha : PDs X I env (e :: es) ds)
    (hr : ∀ H xs (Q : VK), I.p H → RepL H ds xs → (∀ v H', Same H H' → Rep H' d v → Q v H') → r xs H Q) (hg : Gl X x := by rfl) (hn : x ≠ "__name__" := by decide) (hdb : (x == ("__debug__" : Str)) = false := by decide)
    (he : starEach (e :: es) X.env = (false, eval e X.env) :: starEach es X.env := by rfl) (hpl : (backTo pos (starEach es X.env)).any (·.1) = false := by rfl) : PD X I env (.Call (.Name x p) (e :: es) [] pos) d :=
  (pe_callB hc hg hm hv ha hn hdb he hpl).wk fun σ H Q ⟨hI, hE, k⟩ => ⟨hI, hE, fun xs H1 s1 r1 => hr H1 xs Q (I.mono s1 hI) r1 fun v H' s2 r2 => k v H' (s1.trans s2) r2⟩
theorem pd_ty {T : String} {r : List V → Hp → VK → Prop} {p : Pos} (hc : CallR X (.type T) r) (hm : X.mg x = none) (hv : bootBuiltins x = some (.type T)) (ha : PDs X I env (e :: es) ds)
    (hr : ∀ H xs (Q : VK), I.p H → RepL H ds xs → (∀ v H', Same H H' → Rep H' d v → Q v H') → r xs H Q) (hg : Gl X x := by rfl) (hn : x ≠ "__name__" := by decide) (hdb : (x == ("__debug__" : Str)) = false := by decide)
    (he : starEach (e :: es) X.env = (false, eval e X.env) :: starEach es X.env := by rfl) (hpl : (backTo pos (starEach es X.env)).any (·.1) = false := by rfl) : PD X I env (.Call (.Name x p) (e :: es) [] pos) d :=
  (pe_callTy hc hg hm hv ha hn hdb he hpl).wk fun σ H Q ⟨hI, hE, k⟩ => ⟨hI, hE, fun xs H1 s1 r1 => hr H1 xs Q (I.mono s1 hI) r1 fun v H' s2 r2 => k v H' (s1.trans s2) r2⟩
theorem RepL.one {H : Hp} {d : D} {xs : List V} (h : RepL H [d] xs) : ∃ v, xs = [v] ∧ Rep H d v := by
  unfold RepL at h
  obtain ⟨x, r, e, h1, h2⟩ := h
  have e2 : r = [] := h2
  subst e e2
  exact ⟨x, rfl, h1⟩
theorem RepL.two {H : Hp} {d e : D} {xs : List V} (h : RepL H [d, e] xs) : ∃ v u, xs = [v, u] ∧ Rep H d v ∧ Rep H e u := by
  unfold RepL at h
  obtain ⟨x, r, e, h1, h2⟩ := h
  obtain ⟨u, e3, h3⟩ := h2.one
  subst e e3
  exact ⟨x, u, rfl, h1, h3⟩
theorem Rep.lst_inv {H : Hp} {ds : List D} {v : V} (h : Rep H (.lst ds) v) : ∃ a xs, v = .ref a ∧ H a = some (.lst xs) ∧ RepL H ds xs := by unfold Rep at h; exact h
theorem Rep.tup_inv {H : Hp} {ds : List D} {v : V} (h : Rep H (.tup ds) v) : ∃ a xs, v = .ref a ∧ H a = some (.tup xs) ∧ RepL H ds xs := by unfold Rep at h; exact h
theorem Rep.tup_of {H : Hp} {ds : List D} {a : Addr} {xs : List V} (h : H a = some (.tup xs)) (r : RepL H ds xs) : Rep H (.tup ds) (.ref a) := by unfold Rep; exact ⟨a, xs, rfl, h, r⟩
theorem Rep.lst_of {H : Hp} {ds : List D} {a : Addr} {xs : List V} (h : H a = some (.lst xs)) (r : RepL H ds xs) : Rep H (.lst ds) (.ref a) := by unfold Rep; exact ⟨a, xs, rfl, h, r⟩
section
variable {p : Pos}
theorem pd_any {bs : List Bool} (hc : X.calm = true) (hm : X.mg "any" = none) (ha : PD X I env e (.lst (bs.map .bl))) (hg : Gl X "any" := by rfl)
    (he : starEach (e :: []) X.env = (false, eval e X.env) :: starEach [] X.env := by rfl) (hpl : (backTo pos (starEach [] X.env)).any (·.1) = false := by rfl) : PD X I env (.Call (.Name "any" p) [e] [] pos) (.bl (bs.any id)) :=
  pd_bltn (cr_any hc) hm bt_any (pds_cons ha pds_nil he) (fun H xs Q _ r k => by
    obtain ⟨v, e1, r1⟩ := r.one
    obtain ⟨q, ys, e2, hq, hl⟩ := r1.lst_inv
    subst e1 e2
    exact ⟨q, bs, rfl, by rw [hl.bls] at hq; exact SqL.of hq, k _ H (Same.refl H) rfl⟩) hg (by decide) (by decide) he hpl
theorem pd_all {bs : List Bool} (hc : X.calm = true) (hm : X.mg "all" = none) (ha : PD X I env e (.lst (bs.map .bl))) (hg : Gl X "all" := by rfl)
    (he : starEach (e :: []) X.env = (false, eval e X.env) :: starEach [] X.env := by rfl) (hpl : (backTo pos (starEach [] X.env)).any (·.1) = false := by rfl) : PD X I env (.Call (.Name "all" p) [e] [] pos) (.bl (bs.all id)) :=
  pd_bltn (cr_all hc) hm bt_all (pds_cons ha pds_nil he) (fun H xs Q _ r k => by
    obtain ⟨v, e1, r1⟩ := r.one
    obtain ⟨q, ys, e2, hq, hl⟩ := r1.lst_inv
    subst e1 e2
    exact ⟨q, bs, rfl, by rw [hl.bls] at hq; exact SqL.of hq, k _ H (Same.refl H) rfl⟩) hg (by decide) (by decide) he hpl
theorem pd_sum {ns : List Int} (hc : X.calm = true) (hm : X.mg "sum" = none) (ha : PD X I env e (.lst (ns.map .int))) (hg : Gl X "sum" := by rfl)
    (he : starEach (e :: []) X.env = (false, eval e X.env) :: starEach [] X.env := by rfl) (hpl : (backTo pos (starEach [] X.env)).any (·.1) = false := by rfl) : PD X I env (.Call (.Name "sum" p) [e] [] pos) (.int ns.sum) :=
  pd_bltn (cr_sum hc) hm bt_sum (pds_cons ha pds_nil he) (fun H xs Q _ r k => by
    obtain ⟨v, e1, r1⟩ := r.one
    obtain ⟨q, ys, e2, hq, hl⟩ := r1.lst_inv
    subst e1 e2
    exact ⟨q, ns, rfl, by rw [hl.ints] at hq; exact SqL.of hq, k _ H (Same.refl H) rfl⟩) hg (by decide) (by decide) he hpl
theorem pd_min {ns : List Int} {m : Int} (hc : X.calm = true) (hm : X.mg "min" = none) (ha : PD X I env e (.lst (ns.map .int))) (h0 : 0 < ns.length) (hmin : ∀ z, z ∈ ns → (∀ y, y ∈ ns → z ≤ y) → z = m) (hg : Gl X "min" := by rfl)
    (he : starEach (e :: []) X.env = (false, eval e X.env) :: starEach [] X.env := by rfl) (hpl : (backTo pos (starEach [] X.env)).any (·.1) = false := by rfl) : PD X I env (.Call (.Name "min" p) [e] [] pos) (.int m) :=
  pd_bltn (cr_min hc) hm bt_min (pds_cons ha pds_nil he) (fun H xs Q _ r k => by
    obtain ⟨v, e1, r1⟩ := r.one
    obtain ⟨q, ys, e2, hq, hl⟩ := r1.lst_inv
    subst e1 e2
    exact ⟨q, ns, rfl, by rw [hl.ints] at hq; exact SqL.of hq, h0, fun z h1 h2 => by rw [hmin z h1 h2]; exact k _ H (Same.refl H) rfl⟩) hg (by decide) (by decide) he hpl
theorem pd_max {ns : List Int} {m : Int} (hc : X.calm = true) (hm : X.mg "max" = none) (ha : PD X I env e (.lst (ns.map .int))) (h0 : 0 < ns.length) (hmax : ∀ z, z ∈ ns → (∀ y, y ∈ ns → y ≤ z) → z = m) (hg : Gl X "max" := by rfl)
    (he : starEach (e :: []) X.env = (false, eval e X.env) :: starEach [] X.env := by rfl) (hpl : (backTo pos (starEach [] X.env)).any (·.1) = false := by rfl) : PD X I env (.Call (.Name "max" p) [e] [] pos) (.int m) :=
  pd_bltn (cr_max hc) hm bt_max (pds_cons ha pds_nil he) (fun H xs Q _ r k => by
    obtain ⟨v, e1, r1⟩ := r.one
    obtain ⟨q, ys, e2, hq, hl⟩ := r1.lst_inv
    subst e1 e2
    exact ⟨q, ns, rfl, by rw [hl.ints] at hq; exact SqL.of hq, h0, fun z h1 h2 => by rw [hmax z h1 h2]; exact k _ H (Same.refl H) rfl⟩) hg (by decide) (by decide) he hpl
theorem pd_lenT (hm : X.mg "len" = none) (ha : PD X I env e (.tup ds)) (hg : Gl X "len" := by rfl)
    (he : starEach (e :: []) X.env = (false, eval e X.env) :: starEach [] X.env := by rfl) (hpl : (backTo pos (starEach [] X.env)).any (·.1) = false := by rfl) : PD X I env (.Call (.Name "len" p) [e] [] pos) (.int ds.length) :=
  pd_bltn call_len_seq hm bt_len (pds_cons ha pds_nil he) (fun H xs Q _ r k => by
    obtain ⟨v, e1, r1⟩ := r.one
    obtain ⟨q, ys, e2, hq, hl⟩ := r1.tup_inv
    subst e1 e2
    exact ⟨q, ys, rfl, .inr (SqT.of hq), by rw [hl.length]; exact k _ H (Same.refl H) rfl⟩) hg (by decide) (by decide) he hpl
theorem pd_lenL (hm : X.mg "len" = none) (ha : PD X I env e (.lst ds)) (hg : Gl X "len" := by rfl)
    (he : starEach (e :: []) X.env = (false, eval e X.env) :: starEach [] X.env := by rfl) (hpl : (backTo pos (starEach [] X.env)).any (·.1) = false := by rfl) : PD X I env (.Call (.Name "len" p) [e] [] pos) (.int ds.length) :=
  pd_bltn call_len_seq hm bt_len (pds_cons ha pds_nil he) (fun H xs Q _ r k => by
    obtain ⟨v, e1, r1⟩ := r.one
    obtain ⟨q, ys, e2, hq, hl⟩ := r1.lst_inv
    subst e1 e2
    exact ⟨q, ys, rfl, .inl (SqL.of hq), by rw [hl.length]; exact k _ H (Same.refl H) rfl⟩) hg (by decide) (by decide) he hpl
theorem pd_tupleL (hm : X.mg "tuple" = none) (ha : PD X I env e (.lst ds)) (hg : Gl X "tuple" := by rfl)
    (he : starEach (e :: []) X.env = (false, eval e X.env) :: starEach [] X.env := by rfl) (hpl : (backTo pos (starEach [] X.env)).any (·.1) = false := by rfl) : PD X I env (.Call (.Name "tuple" p) [e] [] pos) (.tup ds) :=
  pd_ty call_tuple_of hm bt_tuple (pds_cons ha pds_nil he) (fun H xs Q _ r k => by
    obtain ⟨v, e1, r1⟩ := r.one
    obtain ⟨q, ys, e2, hq, hl⟩ := r1.lst_inv
    subst e1 e2
    exact ⟨q, ys, rfl, .inl ⟨SqL.of hq, fun l hl' => k _ _ (Same.new hl') (Rep.tup_new hl' hl)⟩⟩) hg (by decide) (by decide) he hpl
theorem pd_tupleT (hm : X.mg "tuple" = none) (ha : PD X I env e (.tup ds)) (hg : Gl X "tuple" := by rfl)
    (he : starEach (e :: []) X.env = (false, eval e X.env) :: starEach [] X.env := by rfl) (hpl : (backTo pos (starEach [] X.env)).any (·.1) = false := by rfl) : PD X I env (.Call (.Name "tuple" p) [e] [] pos) (.tup ds) :=
  pd_ty call_tuple_of hm bt_tuple (pds_cons ha pds_nil he) (fun H xs Q _ r k => by
    obtain ⟨v, e1, r1⟩ := r.one
    obtain ⟨q, ys, e2, hq, hl⟩ := r1.tup_inv
    subst e1 e2
    exact ⟨q, ys, rfl, .inr ⟨SqT.of hq, k _ H (Same.refl H) (Rep.tup_of hq hl)⟩⟩) hg (by decide) (by decide) he hpl
theorem pd_listT (hm : X.mg "list" = none) (ha : PD X I env e (.tup ds)) (hg : Gl X "list" := by rfl)
    (he : starEach (e :: []) X.env = (false, eval e X.env) :: starEach [] X.env := by rfl) (hpl : (backTo pos (starEach [] X.env)).any (·.1) = false := by rfl) : PD X I env (.Call (.Name "list" p) [e] [] pos) (.lst ds) :=
  pd_ty call_list_of hm bt_list (pds_cons ha pds_nil he) (fun H xs Q _ r k => by
    obtain ⟨v, e1, r1⟩ := r.one
    obtain ⟨q, ys, e2, hq, hl⟩ := r1.tup_inv
    subst e1 e2
    exact ⟨q, ys, rfl, .inr (SqT.of hq), fun l hl' => k _ _ (Same.new hl') (Rep.lst_new hl' hl)⟩) hg (by decide) (by decide) he hpl
theorem pd_listL (hm : X.mg "list" = none) (ha : PD X I env e (.lst ds)) (hg : Gl X "list" := by rfl)
    (he : starEach (e :: []) X.env = (false, eval e X.env) :: starEach [] X.env := by rfl) (hpl : (backTo pos (starEach [] X.env)).any (·.1) = false := by rfl) : PD X I env (.Call (.Name "list" p) [e] [] pos) (.lst ds) :=
  pd_ty call_list_of hm bt_list (pds_cons ha pds_nil he) (fun H xs Q _ r k => by
    obtain ⟨v, e1, r1⟩ := r.one
    obtain ⟨q, ys, e2, hq, hl⟩ := r1.lst_inv
    subst e1 e2
    exact ⟨q, ys, rfl, .inl (SqL.of hq), fun l hl' => k _ _ (Same.new hl') (Rep.lst_new hl' hl)⟩) hg (by decide) (by decide) he hpl
end
/-- list + list -/
theorem pd_cat {ds2 : List D} (ha : PD X I env a (.lst ds)) (hb : PD X I env b (.lst ds2)) (hz : ds.length + ds2.length ≤ sizeLine) : PD X I env (.BinOp a .Add b pos) (.lst (ds ++ ds2)) :=
  pd_op2 op_cat ha hb fun H x y Q _ r1 r2 k => by
    obtain ⟨q, ys, e2, hq, hl⟩ := r1.lst_inv
    obtain ⟨q', ys', e2', hq', hl'⟩ := r2.lst_inv
    exact ⟨q, q', ys, ys', e2, e2', hq, hq', by rw [hl.length, hl'.length]; exact hz, fun p hp => k _ _ (Same.new hp) (Rep.lst_new hp (hl.append hl'))⟩
/-- tuple + tuple -/
theorem pd_catT {ds2 : List D} (ha : PD X I env a (.tup ds)) (hb : PD X I env b (.tup ds2)) (hz : ds.length + ds2.length ≤ sizeLine) : PD X I env (.BinOp a .Add b pos) (.tup (ds ++ ds2)) :=
  pd_op2 op_catA ha hb fun H x y Q _ r1 r2 k => by
    obtain ⟨q, ys, e2, hq, hl⟩ := r1.tup_inv
    obtain ⟨q', ys', e2', hq', hl'⟩ := r2.tup_inv
    refine ⟨q, q', ys, ys', e2, e2', SqT.of hq, SqT.of hq', by rw [hl.length, hl'.length]; exact hz, fun h0 => ?_, fun h0 h1 => ?_, fun _ _ p hp => k _ _ (Same.new hp) (Rep.tup_new hp (hl.append hl'))⟩
    · subst h0
      have e : ds = [] := List.length_eq_zero_iff.mp hl.length.symm
      subst e
      exact k _ H (Same.refl H) (Rep.tup_of hq' hl')
    · subst h1
      have e : ds2 = [] := List.length_eq_zero_iff.mp hl'.length.symm
      subst e
      exact k _ H (Same.refl H) (Rep.tup_of hq (by rw [List.append_nil]; exact hl))
end
end Sd
namespace Sd
open PySem L2
def wipeE (env : Ev) : List Nat → Ev
  | [] => env
  | v :: vs => (wipeE env vs).set v none
theorem EnvR.setN {H : Hp} {σ : St} {env : Ev} {i : Nat} (h : EnvR H σ env) : EnvR H (σ.set i none) (env.set i none) := by
  refine ⟨by rw [List.length_set, List.length_set]; exact h.1, fun j e q => ?_⟩
  by_cases hj : i = j
  · subst hj
    have hl : i < env.length := by
      have := (List.getElem?_eq_some_iff.mp q).1
      rwa [List.length_set] at this
    rw [List.getElem?_set_self hl] at q
    cases q
  · rw [List.getElem?_set_ne hj] at q
    obtain ⟨w, a, b⟩ := h.2 j e q
    exact ⟨w, by rw [List.getElem?_set_ne hj]; exact a, b⟩
theorem EnvR.wipe {H : Hp} {σ : St} {env : Ev} (h : EnvR H σ env) : ∀ vs : List Nat, EnvR H (L2.wipe σ vs) (wipeE env vs)
  | [] => h
  | v :: vs => (EnvR.wipe h vs).setN
/-- a target of a comprehension, over data: it stores into the block's own slots alone -/
structure Tg (K : PySem.W.Frag) (g : TG) (vs : List Nat) (I : Asr) (env : Ev) (d : D) (env' : Ev) : Prop where
  run : ∀ v σ H Q, I.p H → Rep H d v → EnvR H (L2.wipe σ vs) (wipeE env vs) → (∀ σ' H', Same H H' → EnvR H' σ' env' → L2.wipe σ' vs = L2.wipe σ vs → Q σ' H') → g v (L2.wipe σ vs) H Q
theorem tg_name {K : PySem.W.Frag} {I : Asr} {env : Ev} {d : D} (i : Nat) : Tg K (gName i) [i] I env d ((wipeE env [i]).set i (some d)) :=
  ⟨fun v σ H Q hI r hE k => k _ H (Same.refl H) (hE.set r) (by
    show ((σ.set i none).set i (some v)).set i none = σ.set i none
    rw [List.set_set, List.set_set])⟩
theorem tg_pair {K : PySem.W.Frag} {I : Asr} {env : Ev} {d1 d2 : D} (i j : Nat) (hij : i ≠ j) : Tg K (gTup K 2 (gCons (gName i) (gCons (gName j) gNil))) [i, j] I env (.tup [d1, d2]) (((wipeE env [i, j]).set i (some d1)).set j (some d2)) :=
  ⟨fun v σ H Q hI r hE k => by
    obtain ⟨a, xs, e, ha, hl⟩ := r.tup_inv
    obtain ⟨x, y, e1, r1, r2⟩ := hl.two
    subst e e1
    refine ⟨a, _, rfl, SqT.of ha, rfl, x, _, rfl, y, _, rfl, rfl, ?_⟩
    refine k _ H (Same.refl H) ((hE.set r1).set r2) ?_
    show (((((σ.set j none).set i none).set i (some x)).set j (some y)).set j none).set i none = (σ.set j none).set i none
    rw [List.set_set, List.set_set, List.set_comm _ _ (Ne.symm hij), List.set_set, List.set_comm _ _ hij]
    rw [List.set_set]⟩
theorem fix_map {keep : D → Bool} {out : D → D} : ∀ {ds : List D}, (∀ d ∈ ds, keep d = true → (out d).fix = true) → fixL ((ds.filter keep).map out) = true
  | [], _ => rfl
  | d :: ds, h => by
    have ih := fix_map (keep := keep) (out := out) (ds := ds) fun e he => h e (List.mem_cons_of_mem _ he)
    by_cases hk : keep d = true
    · rw [List.filter_cons_of_pos hk, List.map_cons]
      show ((out d).fix && fixL _) = true
      rw [h d List.mem_cons_self hk, ih]
      rfl
    · rw [List.filter_cons_of_neg hk]
      exact ih
theorem take_succ_of {α : Type} {l : List α} {i : Nat} {x : α} (h : l[i]? = some x) : l.take (i + 1) = l.take i ++ [x] := by
  rw [List.take_add_one, h]
  rfl
section
variable {X : Cx} {I : Asr} {env : Ev}
theorem pe_ex {ι : Sort _} {e : Expr} {t : ι → TE} (h : ∀ i, PE X e (t i)) : PE X e (fun σ H Q => ∃ i, t i σ H Q) := ⟨fun pins s σ H Q I ⟨i, q⟩ => (h i).run pins s σ H Q I q⟩
theorem pe_exI {ι : Type _} {e : Expr} {p : ι → Prop} {t : ι → TE} (h : ∀ i, p i → PE X e (t i)) : PE X e (fun σ H Q => ∃ i, p i ∧ t i σ H Q) := ⟨fun pins s σ H Q I ⟨i, hp, q⟩ => (h i hp).run pins s σ H Q I q⟩
theorem pts_exI {ι : Type _} {e : List Expr} {p : ι → Prop} {t : ι → TT} (h : ∀ i, p i → PTs X e (t i)) : PTs X e (fun σ H Q => ∃ i, p i ∧ t i σ H Q) := ⟨fun pins s σ H Q I ⟨i, hp, q⟩ => (h i hp).run pins s σ H Q I q⟩
theorem pss_exI {ι : Type _} {e : List Stmt} {p : ι → Prop} {t : ι → TS} (h : ∀ i, p i → PSs X e (t i)) : PSs X e (fun D σ H => ∃ i, p i ∧ t i D σ H) := ⟨fun pins s σ H D I ⟨i, hp, q⟩ => (h i hp).run pins s σ H D I q⟩
theorem _root_.L2.PTs.wk {es : List Expr} {t t' : TT} (h : PTs X es t) (k : ∀ σ H Q, t' σ H Q → t σ H Q) : PTs X es t' := ⟨fun pins s σ H Q I q => h.run pins s σ H Q I (k σ H Q q)⟩
theorem ptd_nil {e : Ev} : PTs X [] (tT I e true) := pts_nil.wk fun σ H Q ⟨_, _, k⟩ => k H (Same.refl H)
theorem ptd_one {c : Expr} {e : Ev} {q : Bool} (h : PB X I e c q) : PTs X [c] (tT I e q) := pts_one h
section
variable {elt tg iter : Expr} {ifs : List Expr} {scope : Scope} {own : List (Str × Nat)} {pos : Pos} {g : TG} {ds : List D} {envs : D → Ev} {keep : D → Bool} {out : D → D}
def LcT (I : Asr) (ds : List D) (envs : D → Ev) (keep : D → Bool) : TT := fun σ H Q => ∃ d, d ∈ ds ∧ tT I (envs d) (keep d) σ H Q
def LcE (I : Asr) (ds : List D) (envs : D → Ev) (keep : D → Bool) (out : D → D) : TE := fun σ H Q => ∃ d, (d ∈ ds ∧ keep d = true) ∧ tD I (envs d) (out d) σ H Q
def LcPv (H1 : Hp) (L : Addr) (ds : List D) (keep : D → Bool) (out : D → D) (i : Nat) (H : Hp) : Prop := Same H1 H ∧ ∃ acc, H L = some (.lst acc) ∧ RepL H (((ds.take i).filter keep).map out) acc
theorem lc_turn {K : PySem.W.Frag} {vs : List Nat} {σ : St} {H1 H2 : Hp} {L : Addr} {i : Nat} {x : V} {d : D} (hI : I.p H1) (hE : EnvR H1 σ env) (hL : H1 L = none) (hd : ds[i]? = some d) (r : Rep H2 d x)
    (htg : Tg K g vs I env d (envs d)) (hf : ∀ d ∈ ds, keep d = true → (out d).fix = true) (hz : ds.length ≤ sizeLine) (p : LcPv H1 L ds keep out i H2) :
    g x (L2.wipe σ vs) H2 fun σ2 H3 => L2.wipe σ2 vs = L2.wipe σ vs ∧ LcT I ds envs keep σ2 H3 fun b H4 =>
      if b = true then LcE I ds envs keep out σ2 H4 fun y H5 => ∃ acc, H5 L = some (.lst acc) ∧ acc.length < sizeLine ∧ LcPv H1 L ds keep out (i + 1) (upd H5 L (.lst (acc ++ [y])))
      else LcPv H1 L ds keep out (i + 1) H4 := by
  obtain ⟨s, acc, hA, rA⟩ := p
  have mem : d ∈ ds := List.mem_of_getElem? hd
  have hi : i < ds.length := (List.getElem?_eq_some_iff.mp hd).1
  refine htg.run x σ H2 _ (I.mono s hI) r ((hE.mono s).wipe vs) fun σ2 H3 s3 e3 hw => ⟨hw, d, mem, I.mono s3 (I.mono s hI), e3, fun H4 s4 => ?_⟩
  have eT : ds.take (i + 1) = ds.take i ++ [d] := take_succ_of hd
  by_cases hk : keep d = true
  · refine Eq.mpr (if_pos hk) ?_
    refine ⟨d, ⟨mem, hk⟩, I.mono s4 (I.mono s3 (I.mono s hI)), e3.mono s4, fun y H5 s5 r5 => ?_⟩
    have hA5 : H5 L = some (.lst acc) := s5 _ _ (s4 _ _ (s3 _ _ hA))
    have rA5 : RepL H5 (((ds.take i).filter keep).map out) acc := ((rA.mono s3).mono s4).mono s5
    refine ⟨acc, hA5, ?_, ?_, acc ++ [y], upd_same, ?_⟩
    · rw [rA.length, List.length_map]
      have := List.length_filter_le keep (ds.take i)
      rw [List.length_take] at this
      omega
    · intro b o e
      rw [upd_ne (ne_of_none e hL)]
      exact s5 _ _ (s4 _ _ (s3 _ _ (s _ _ e)))
    · have tr : Tr H5 (upd H5 L (.lst (acc ++ [y]))) := fun a xs e => by rw [upd_ne (ne_of e hA5 (by intro q; cases q))]; exact e
      rw [eT, List.filter_append, List.map_append]
      have e1 : ([d].filter keep).map out = [out d] := by rw [List.filter_cons_of_pos hk]; rfl
      rw [e1]
      exact (rA5.tr tr (fix_map fun e he => hf e (List.mem_of_mem_take he))).snoc (r5.tr tr (hf d mem hk))
  · refine Eq.mpr (if_neg hk) ?_
    refine ⟨fun b o e => s4 _ _ (s3 _ _ (s _ _ e)), acc, s4 _ _ (s3 _ _ hA), ?_⟩
    rw [eT, List.filter_append, List.map_append]
    have e1 : ([d].filter keep).map out = [] := by rw [List.filter_cons_of_neg hk]; rfl
    rw [e1, List.append_nil]
    exact (rA.mono s3).mono s4
/-- [elt for tg in a tuple if ..] -/
theorem pd_lcT (hc : X.calm = true) (hN : X.N.Nodup) (hi : PD X I env iter (.tup ds)) (ok : BlkOk X.N X.env.scope scope own)
    (hg : ∀ (s : Shared) (H : Hp) (C : Addr) (cl : List (Str × Addr)) (fp : List Addr), PG (X.blk s H scope (compEnvC scope cl C X.env) fp) tg g) (htg : ∀ d ∈ ds, Tg X.K g (own.map (·.2)) I env d (envs d))
    (ht : ∀ (s : Shared) (H : Hp) (C : Addr) (cl : List (Str × Addr)) (fp : List Addr), ∀ d ∈ ds, PTs (X.blk s H scope (compEnvC scope cl C X.env) fp) ifs (tT I (envs d) (keep d)))
    (he : ∀ (s : Shared) (H : Hp) (C : Addr) (cl : List (Str × Addr)) (fp : List Addr), ∀ d ∈ ds, keep d = true → PD (X.blk s H scope (compEnvC scope cl C X.env) fp) I (envs d) elt (out d))
    (hf : ∀ d ∈ ds, keep d = true → (out d).fix = true) (hz : ds.length ≤ sizeLine) (hs : ∀ x, foldedSetIterable iter X.env x = pure x := by intro _; rfl) :
    PD X I env (.ListComp elt [⟨tg, iter, ifs, 0⟩] scope pos) (.lst ((ds.filter keep).map out)) := by
  refine (pe_lc hc hN (pi_tup hi) ok hg (tt := LcT I ds envs keep) (fun s H C cl fp => pts_exI (ht s H C cl fp)) (te := LcE I ds envs keep out) (fun s H C cl fp => pe_exI fun d (h : d ∈ ds ∧ keep d = true) => he s H C cl fp d h.1 h.2) hs).wk fun σ H Q ⟨hI, hE, k⟩ => ⟨hI, hE, fun x H1 s1 r1 => ?_⟩
  obtain ⟨a, xs, e, ha, hl⟩ := r1.tup_inv
  subst e
  refine ⟨a, rfl, ⟨xs, SqT.of ha⟩, fun L hL => lc_tup (K := X.K) (a := a) (xs := xs) (g := g) (tt := LcT I ds envs keep) (te := LcE I ds envs keep out) (vs := own.map (·.2)) (σ := σ) (H1 := H1) (D := L) (Qd := fun H => Q (.ref L) H) (LcPv H1 L ds keep out) ⟨Same.new hL, [], upd_same, rfl⟩ (fun i H2 _ p => SqT.of (p.1 _ _ ha)) (fun i x H2 hx p => ?_) (fun H2 p => ?_)⟩
  · obtain ⟨d, hd, rd⟩ := hl.rget hx
    exact lc_turn (I.mono s1 hI) (hE.mono s1) hL hd (rd.mono p.1) (htg d (List.mem_of_getElem? hd)) hf hz p
  · obtain ⟨s2, acc, hA, rA⟩ := p
    rw [hl.length, List.take_length] at rA
    exact k _ H2 (s1.trans s2) (Rep.lst_of hA rA)
theorem pd_lcL (hc : X.calm = true) (hN : X.N.Nodup) (hi : PD X I env iter (.lst ds)) (ok : BlkOk X.N X.env.scope scope own)
    (hg : ∀ (s : Shared) (H : Hp) (C : Addr) (cl : List (Str × Addr)) (fp : List Addr), PG (X.blk s H scope (compEnvC scope cl C X.env) fp) tg g) (htg : ∀ d ∈ ds, Tg X.K g (own.map (·.2)) I env d (envs d))
    (ht : ∀ (s : Shared) (H : Hp) (C : Addr) (cl : List (Str × Addr)) (fp : List Addr), ∀ d ∈ ds, PTs (X.blk s H scope (compEnvC scope cl C X.env) fp) ifs (tT I (envs d) (keep d)))
    (he : ∀ (s : Shared) (H : Hp) (C : Addr) (cl : List (Str × Addr)) (fp : List Addr), ∀ d ∈ ds, keep d = true → PD (X.blk s H scope (compEnvC scope cl C X.env) fp) I (envs d) elt (out d))
    (hf : ∀ d ∈ ds, keep d = true → (out d).fix = true) (hz : ds.length ≤ sizeLine) (hs : ∀ x, foldedSetIterable iter X.env x = pure x := by intro _; rfl) :
    PD X I env (.ListComp elt [⟨tg, iter, ifs, 0⟩] scope pos) (.lst ((ds.filter keep).map out)) := by
  refine (pe_lc hc hN (pi_list hi) ok hg (tt := LcT I ds envs keep) (fun s H C cl fp => pts_exI (ht s H C cl fp)) (te := LcE I ds envs keep out) (fun s H C cl fp => pe_exI fun d (h : d ∈ ds ∧ keep d = true) => he s H C cl fp d h.1 h.2) hs).wk fun σ H Q ⟨hI, hE, k⟩ => ⟨hI, hE, fun x H1 s1 r1 => ?_⟩
  obtain ⟨a, xs, e, ha, hl⟩ := r1.lst_inv
  subst e
  refine ⟨a, rfl, ⟨xs, SqL.of ha⟩, fun L hL => lc_list (K := X.K) (a := a) (xs := xs) (g := g) (tt := LcT I ds envs keep) (te := LcE I ds envs keep out) (vs := own.map (·.2)) (σ := σ) (H1 := H1) (D := L) (Qd := fun H => Q (.ref L) H) (LcPv H1 L ds keep out) ⟨Same.new hL, [], upd_same, rfl⟩ (fun i H2 _ p => SqL.of (p.1 _ _ ha)) (fun i x H2 hx p => ?_) (fun H2 p => ?_)⟩
  · obtain ⟨d, hd, rd⟩ := hl.rget hx
    exact lc_turn (I.mono s1 hI) (hE.mono s1) hL hd (rd.mono p.1) (htg d (List.mem_of_getElem? hd)) hf hz p
  · obtain ⟨s2, acc, hA, rA⟩ := p
    rw [hl.length, List.take_length] at rA
    exact k _ H2 (s1.trans s2) (Rep.lst_of hA rA)
/-- .. over range(n) -/
theorem pd_lcR {n : Nat} {ea : Expr} {p : Pos} {pos' : Pos} (hc : X.calm = true) (hN : X.N.Nodup) (hm : X.mg "range" = none) (hi : PD X I env ea (.int n)) (hn : n ≤ 1000) (ok : BlkOk X.N X.env.scope scope own)
    (hg : ∀ (s : Shared) (H : Hp) (C : Addr) (cl : List (Str × Addr)) (fp : List Addr), PG (X.blk s H scope (compEnvC scope cl C X.env) fp) tg g) (htg : ∀ d ∈ (List.range n).map (fun i => D.int (i : Nat)), Tg X.K g (own.map (·.2)) I env d (envs d))
    (ht : ∀ (s : Shared) (H : Hp) (C : Addr) (cl : List (Str × Addr)) (fp : List Addr), ∀ d ∈ (List.range n).map (fun i => D.int (i : Nat)), PTs (X.blk s H scope (compEnvC scope cl C X.env) fp) ifs (tT I (envs d) (keep d)))
    (he : ∀ (s : Shared) (H : Hp) (C : Addr) (cl : List (Str × Addr)) (fp : List Addr), ∀ d ∈ (List.range n).map (fun i => D.int (i : Nat)), keep d = true → PD (X.blk s H scope (compEnvC scope cl C X.env) fp) I (envs d) elt (out d))
    (hf : ∀ d ∈ (List.range n).map (fun i => D.int (i : Nat)), keep d = true → (out d).fix = true) (hgl : Gl X "range" := by rfl) (hst : starEach [ea] X.env = [(false, eval ea X.env)] := by rfl) (hst2 : starEach (ea :: []) X.env = (false, eval ea X.env) :: starEach [] X.env := by rfl)
    (hs : ∀ x, foldedSetIterable (.Call (.Name "range" p) [ea] [] pos') X.env x = pure x := by intro _; rfl) :
    PD X I env (.ListComp elt [⟨tg, .Call (.Name "range" p) [ea] [] pos', ifs, 0⟩] scope pos) (.lst ((((List.range n).map (fun i => D.int (i : Nat))).filter keep).map out)) := by
  refine (pe_lc hc hN (pi_range1 hgl hm (pds_cons hi pds_nil hst2) hst) ok hg (tt := LcT I ((List.range n).map (fun i => D.int (i : Nat))) envs keep) (fun s H C cl fp => pts_exI (ht s H C cl fp)) (te := LcE I ((List.range n).map (fun i => D.int (i : Nat))) envs keep out) (fun s H C cl fp => pe_exI fun d (h : d ∈ _ ∧ keep d = true) => he s H C cl fp d h.1 h.2) hs).wk fun σ H Q ⟨hI, hE, k⟩ => ⟨hI, hE, fun xs H1 s1 r1 => ?_⟩
  obtain ⟨v, e, r⟩ := r1.one
  have ev : v = V.int n := r
  subst e ev
  refine ⟨n, rfl, by omega, by omega, fun L hL => ?_⟩
  have hnn : (n : Int).toNat = n := by omega
  try rw [hnn]
  refine lc_range (lo := 0) (n := n) (g := g) (tt := LcT I ((List.range n).map (fun i => D.int (i : Nat))) envs keep) (te := LcE I ((List.range n).map (fun i => D.int (i : Nat))) envs keep out) (vs := own.map (·.2)) (σ := σ) (H1 := H1) (D := L) (Qd := fun H => Q (.ref L) H) (LcPv H1 L ((List.range n).map (fun i => D.int (i : Nat))) keep out) ⟨Same.new hL, [], upd_same, rfl⟩ (fun i H2 hi p => ?_) (fun H2 p => ?_)
  · have hd : ((List.range n).map (fun i => D.int (i : Nat)))[i]? = some (.int (i : Nat)) := by
      rw [List.getElem?_map, List.getElem?_range hi]
      rfl
    have e0 : (0 : Int) + (i : Nat) = (i : Nat) := by omega
    rw [e0]
    exact lc_turn (I.mono s1 hI) (hE.mono s1) hL hd rfl (htg _ (List.mem_of_getElem? hd)) hf (by rw [List.length_map, List.length_range, sizeLine_eq]; omega) p
  · obtain ⟨s2, acc, hA, rA⟩ := p
    rw [List.take_of_length_le (by rw [List.length_map, List.length_range]; exact Nat.le_refl _)] at rA
    exact k _ H2 (s1.trans s2) (Rep.lst_of hA rA)
end
end
end Sd
namespace Sd
open PySem L2
/-! ### assertions -/
def Asr.and (I J : Asr) : Asr := ⟨fun H => I.p H ∧ J.p H, fun s h => ⟨I.mono s h.1, J.mono s h.2⟩⟩
/-- all that stood in H stands -/
def since (H : Hp) : Asr := ⟨fun H' => Same H H', fun s h => h.trans s⟩
/-- a tuple, a list of the data ds stands at a -/
def atT (a : Addr) (xs : List V) (ds : List D) : Asr := ⟨fun H => H a = some (.tup xs) ∧ RepL H ds xs, fun s h => ⟨s _ _ h.1, h.2.mono s⟩⟩
def atL (a : Addr) (xs : List V) (ds : List D) : Asr := ⟨fun H => H a = some (.lst xs) ∧ RepL H ds xs, fun s h => ⟨s _ _ h.1, h.2.mono s⟩⟩
/-! ### what follows a statement -/
def oRet (I : Asr) (d : D) : Ends → Prop := fun D => ∀ v H, I.p H → Rep H d v → D.rt v H
def oNx (I : Asr) (env : Ev) : Ends → Prop := fun D => ∀ σ H, I.p H → EnvR H σ env → D.nx σ H
def oCt (I : Asr) (env : Ev) : Ends → Prop := fun D => ∀ σ H, I.p H → EnvR H σ env → D.ct σ H
/-- a loop's turn: it goes on, or continues -/
def oNC (I : Asr) (env : Ev) : Ends → Prop := fun D => oNx I env D ∧ oCt I env D
/-- an exception of the class at C -/
def oExc (E : XK) (C : Addr) (I : Asr) : Ends → Prop := fun _ => ∀ H, I.p H → E (.ref C) none H
/-- what follows says nothing of the next statement -/
def NoNx (O : Ends → Prop) : Prop := ∀ D u, O D → O { D with nx := u }
theorem noNx_ret {I : Asr} {d : D} : NoNx (oRet I d) := fun _ _ h => h
theorem noNx_ct {I : Asr} {env : Ev} : NoNx (oCt I env) := fun _ _ h => h
theorem noNx_exc {I : Asr} {E : XK} {C : Addr} : NoNx (oExc E C I) := fun _ _ h => h
abbrev HS (X : Cx) (I : Asr) (env : Ev) (sts : List Stmt) (O : Ends → Prop) : Prop := PSs X sts (tS I env O)
abbrev H1 (X : Cx) (I : Asr) (env : Ev) (st : Stmt) (O : Ends → Prop) : Prop := PS X st (tS I env O)
/-- a target -/
def tG (I : Asr) (d : D) (env env' : Ev) : TG := fun v σ H Q => I.p H ∧ Rep H d v ∧ EnvR H σ env ∧ ∀ σ' H', Same H H' → EnvR H' σ' env' → Q σ' H'
def tGs (I : Asr) (ds : List D) (env env' : Ev) : TGs := fun vs σ H Q => I.p H ∧ RepL H ds vs ∧ EnvR H σ env ∧ ∀ σ' H', Same H H' → EnvR H' σ' env' → Q σ' H'
theorem _root_.L2.PG.wk {X : Cx} {tg : Expr} {t t' : TG} (h : PG X tg t) (k : ∀ v σ H Q, t' v σ H Q → t v σ H Q) : PG X tg t' := ⟨fun pins s σ H v u Q I r q => h.run pins s σ H v u Q I r (k v σ H Q q)⟩
theorem _root_.L2.PGs.wk {X : Cx} {tg : List Expr} {t t' : TGs} (h : PGs X tg t) (k : ∀ v σ H Q, t' v σ H Q → t v σ H Q) : PGs X tg t' := ⟨fun pins s σ H v u Q I r q => h.run pins s σ H v u Q I r (k v σ H Q q)⟩
theorem pg_exI {X : Cx} {ι : Type _} {e : Expr} {p : ι → Prop} {t : ι → TG} (h : ∀ i, p i → PG X e (t i)) : PG X e (fun v σ H Q => ∃ i, p i ∧ t i v σ H Q) := ⟨fun pins s σ H v u Q I r ⟨i, hp, q⟩ => (h i hp).run pins s σ H v u Q I r q⟩
section
variable {X : Cx} {I I' J : Asr} {env env' env2 : Ev} {e a b c tg : Expr} {es : List Expr} {st : Stmt} {rest body orelse : List Stmt} {d d1 : D} {ds : List D} {pos pos' : Pos} {x : Str} {O O' : Ends → Prop} {k j : Nat}
theorem HS.wk {sts : List Stmt} (h : HS X I env sts O) (hI : ∀ H, J.p H → I.p H) (hO : ∀ D, O' D → O D) : HS X J env sts O' := L2.PSs.wk h fun D σ H ⟨a, b, c⟩ => ⟨hI H a, b, hO D c⟩
theorem H1.wk (h : H1 X I env st O) (hI : ∀ H, J.p H → I.p H) (hO : ∀ D, O' D → O D) : H1 X J env st O' := L2.PS.wk h fun D σ H ⟨a, b, c⟩ => ⟨hI H a, b, hO D c⟩
/-! ### targets -/
theorem pgd_name (i : Nat) (hN : X.N.Nodup) (hi : X.N[i]? = some x := by rfl) (hx : Loc X.env.scope x := by first | exact Or.inl rfl | exact Or.inr rfl) (hf : X.fn x = true ∨ X.env.scope.names.lookup x = some .local := by first | exact .inl rfl | exact .inr rfl) :
    PG X (.Name x pos) (tG I d env (env.set i (some d))) := (pg_name hN hi hx hf).wk fun v σ H Q ⟨_, r, hE, k⟩ => k _ H (Same.refl H) (hE.set r)
theorem pgsd_nil : PGs X [] (tGs I [] env env) := pgs_nil.wk fun v σ H Q ⟨_, r, hE, k⟩ => ⟨r, k σ H (Same.refl H) hE⟩
theorem pgsd_cons (h1 : PG X e (tG I d env env')) (h2 : PGs X es (tGs I ds env' env2)) (hs : (assignEach (e :: es) X.env).map (·.2) = assign e X.env :: (assignEach es X.env).map (·.2) := by rfl) : PGs X (e :: es) (tGs I (d :: ds) env env2) :=
  (pgs_cons h1 h2 hs).wk fun vs σ H Q ⟨hI, r, hE, k⟩ => by
    unfold RepL at r
    obtain ⟨v, r', e1, r1, r2⟩ := r
    exact ⟨v, r', e1, hI, r1, hE, fun σ1 H1 s1 hE1 => ⟨I.mono s1 hI, r2.mono s1, hE1, fun σ2 H2 s2 hE2 => k σ2 H2 (s1.trans s2) hE2⟩⟩
theorem pgd_tup {kk n : Nat} (hc : X.calm = true) (h : PGs X es (tGs I ds env env')) (hl : ds.length = n := by rfl) (hn : (assignEach es X.env).length = n := by rfl) (hst : (assignEach es X.env).findIdx? (·.1) = none := by rfl) :
    PG X (.Tuple es kk pos) (tG I (.tup ds) env env') :=
  (pg_tup hc h hn hst).wk fun v σ H Q ⟨hI, r, hE, k⟩ => by
    obtain ⟨q, ys, e1, hq, hl'⟩ := r.tup_inv
    exact ⟨q, ys, e1, SqT.of hq, by rw [hl'.length]; exact hl, hI, hl', hE, k⟩
/-- (a, *b) = a tuple -/
def gStar (K : PySem.W.Frag) (t : TGs) : TG := fun v σ H Q => ∃ a x xs, v = .ref a ∧ SqT K H a (x :: xs) ∧ xs.length ≤ 1000 ∧ ∀ p, H p = none → t [x, .ref p] σ (upd H p (.lst xs)) Q
theorem pg_star {kk : Nat} {t : TGs} (hc : X.calm = true) (h : PGs X es t) (hn : (assignEach es X.env).length = 2 := by rfl) (hst : (assignEach es X.env).findIdx? (·.1) = some 1 := by rfl) : PG X (.Tuple es kk pos) (gStar X.K t) := by
  refine ⟨fun pins s σ H v u Q I r hw => ?_⟩
  obtain ⟨a, x, xs, e1, hq, hz, hw⟩ := hw
  subst e1
  cases r
  obtain ⟨its, rv, ht, hz2⟩ := I.tuple hq
  cases rv with
  | cons r1 rr =>
    rename_i u us
    obtain ⟨m, F⟩ := I.fr
    have hlen := rr.length
    refine PySem.W.kun_assignT (n := 2) (i := 1) (first := [u]) (mids := us) (lasts := []) F (news := allNews X.base s.heap X.env.locals) news_all ht (I.ok.hd hc) hn hst (by omega) (by simp) (by simp; omega) rfl (by simp) (by simp) (fun p h' tk F' N' hlt => ?_)
    have kept : ∀ b o, b ≠ X.env.locals → s.heap.get? b = some o → h'.get? b = some o := fun b o hb e => by
      cases q : X.base.get? b with
      | some o' =>
        have e2 := I.bk b o' q
        rw [e] at e2
        cases e2
        exact F'.keep b o q
      | none => exact (N' (b, o) (List.mem_cons_of_mem _ (mem_allNews hb q e))).1
    obtain ⟨np1, np2, np3⟩ := N' (p, PySem.W.listOf us.toArray 0) List.mem_cons_self
    have hp : H p = none := by
      cases q : H p with
      | none => rfl
      | some o =>
        obtain ⟨ob, e⟩ := objOk_get (I.hok p o q)
        exact absurd (hlt (p, ob) (mem_allNews np2 np3 e)) (Nat.lt_irrefl _)
    have neL : ∀ b o, H b = some o → b ≠ X.env.locals := fun b o e z => by rw [z, I.free] at e; cases e
    have sm : Same H (upd H p (.lst xs)) := fun b o e => by rw [upd_ne (ne_of_none e hp)]; exact e
    have hok : HOk X.prog X.w (upd H p (.lst xs)) h' := fun b o e => by
      by_cases hb : b = p
      · subst hb
        rw [upd_same] at e
        cases e
        exact ⟨by rw [sizeLine_eq]; omega, us, 0, rr, np1⟩
      · rw [upd_ne hb] at e
        refine (I.hok b o e).stay (fun c w hcw q => kept c w ?_ q) (fun c q => sm _ _ q) fun c ys q => sm _ _ q
        rcases hcw with z | z
        · rw [z]; exact neL b o e
        · exact neL c _ z
    have nfree : ∀ b o, s.heap.get? b = some o → H b = none → upd H p (.lst xs) b = none := fun b o e n => by
      by_cases hb : b = p
      · subst hb
        by_cases hL : b = X.env.locals
        · exact absurd hL np2
        · exact absurd (hlt (b, o) (mem_allNews hL np3 e)) (Nat.lt_irrefl _)
      · rw [upd_ne hb]; exact n
    have J : Inv X pins σ (upd H p (.lst xs)) { s with heap := h', gens := s.gens, drawn := s.drawn, toks := tk } := by
      refine I.step (ch := []) (fun _ z => nomatch z) (fun b o hb _ _ e _ => kept b o hb e) (fun b o hb _ _ e _ => ⟨o.slots, kept b o hb e⟩) (fun b o _ e n => nfree b o e n) (fun b o _ e => ?_)
        (fun b ys e => sm _ _ e) (fun b o ys e => sm _ _ e) (fun b ps e => ⟨#[], by rw [sm _ _ e]; simp⟩) (fun m' hm => ?_) hok I.bare
      · by_cases hb : b = X.env.locals
        · obtain ⟨ob, _, _, e2, _⟩ := F'.ns
          exact ⟨ob, by rw [hb]; exact e2⟩
        · exact ⟨o, kept b o hb e⟩
      · have em : m' = m := funext fun y => hm.agree F.ns y
        rw [em]
        exact F'.ns
    exact h.run pins _ σ _ [x, .ref p] [u, Value.ref p] Q J (.cons r1 (.cons rfl .nil)) (hw p hp)
/-- (a, *b) = a tuple, over data -/
theorem pgd_star {kk : Nat} (hc : X.calm = true) (h : PGs X es (tGs I [d, .lst ds] env env')) (hz : ds.length ≤ 1000) (hn : (assignEach es X.env).length = 2 := by rfl) (hst : (assignEach es X.env).findIdx? (·.1) = some 1 := by rfl) :
    PG X (.Tuple es kk pos) (tG I (.tup (d :: ds)) env env') :=
  (pg_star hc h hn hst).wk fun v σ H Q ⟨hI, r, hE, k⟩ => by
    obtain ⟨q, ys, e1, hq, hl⟩ := r.tup_inv
    unfold RepL at hl
    obtain ⟨y, r', e2, r1, r2⟩ := hl
    subst e1 e2
    refine ⟨q, y, r', rfl, SqT.of hq, by rw [r2.length]; exact hz, fun p hp => ⟨I.mono (Same.new hp) hI, ?_, hE.mono (Same.new hp), fun σ' H' s1 hE1 => k σ' H' ((Same.new hp).trans s1) hE1⟩⟩
    unfold RepL
    refine ⟨y, _, rfl, r1.mono (Same.new hp), ?_⟩
    unfold RepL
    exact ⟨_, [], rfl, Rep.lst_new hp r2, rfl⟩

/-! ### statements -/
theorem hs_end : HS X I env [] (oNx I env) := pss_nil.wk fun D σ H ⟨hI, hE, k⟩ => k σ H hI hE
theorem hs_ret (h : PD X I env e d) : HS X I env (.Return (some e) pos :: rest) (oRet I d) :=
  (pss_cons (ps_ret h) pss_never).wk fun D σ H ⟨hI, hE, k⟩ => ⟨hI, hE, fun v H1 s1 r1 => k v H1 (I.mono s1 hI) r1⟩
theorem hs_set (i : Nat) (hN : X.N.Nodup) (h : PD X I env e d) (hr : HS X I (env.set i (some d)) rest O) (hi : X.N[i]? = some x := by rfl) (hx : Loc X.env.scope x := by first | exact Or.inl rfl | exact Or.inr rfl)
    (hs : swapsWith e (some (.Name x pos')) pos.line X.env = pure false := by rfl) (hf : X.fn x = true ∨ X.env.scope.names.lookup x = some .local := by first | exact .inl rfl | exact .inr rfl) : HS X I env (.Assign [.Name x pos'] e pos :: rest) O :=
  (pss_cons (ps_set hN hi hx h hs hf) hr).wk fun D σ H ⟨hI, hE, k⟩ => ⟨hI, hE, fun v H1 s1 r1 => ⟨I.mono s1 hI, (hE.mono s1).set r1, k⟩⟩
theorem hs_asg (h : PD X I env e d) (hg : PG X tg (tG I d env env')) (hr : HS X I env' rest O) (hs : swapsWithSole [tg] e pos.line X.env = pure false := by rfl) (hw : swappedStores [tg] e X.env = pure none := by rfl)
    (h1 : (assignEach [tg] X.env).map (·.2) = [assign tg X.env] := by rfl) : HS X I env (.Assign [tg] e pos :: rest) O :=
  (pss_cons (ps_asg h hg hs hw h1) hr).wk fun D σ H ⟨hI, hE, k⟩ => ⟨hI, hE, fun v H1 s1 r1 => ⟨I.mono s1 hI, r1, hE.mono s1, fun σ2 H2 s2 hE2 => ⟨I.mono s2 (I.mono s1 hI), hE2, k⟩⟩⟩
/-- a, b = x, y: two plain local names -/
theorem hs_par (i j : Nat) {y : Str} {px py pt pt2 : Pos} {kt k2 : Nat} {d2 : D} (hc : X.calm = true) (hN : X.N.Nodup) (hij : i ≠ j) (h : PDs X I env [a, b] [d, d2]) (hr : HS X I ((env.set i (some d)).set j (some d2)) rest O)
    (hi : X.N[i]? = some x := by rfl) (hj : X.N[j]? = some y := by rfl) (hx : X.env.scope.names.lookup x = some .local := by rfl) (hy : X.env.scope.names.lookup y = some .local := by rfl)
    (hw : swappedStores [.Tuple [.Name x px, .Name y py] kt pt] (.Tuple [a, b] k2 pt2) X.env = pure (some [x, y]) := by rfl)
    (hs : swapsWithSole [.Tuple [.Name x px, .Name y py] kt pt] (.Tuple [a, b] k2 pt2) pos.line X.env = pure false := by rfl) : HS X I env (.Assign [.Tuple [.Name x px, .Name y py] kt pt] (.Tuple [a, b] k2 pt2) pos :: rest) O :=
  (pss_cons (ps_par hc hN hi hj hij hx hy h hw hs) hr).wk fun D σ H ⟨hI, hE, k⟩ => ⟨hI, hE, fun vs H1 s1 r1 => by
    obtain ⟨v, u, e1, r1, r2⟩ := r1.two
    exact ⟨v, u, e1, I.mono s1 hI, ((hE.mono s1).set r1).set r2, k⟩⟩
theorem hs_drop (h : PD X I env e d) (hr : HS X I env rest O) (hs : swapsWith e none pos.line X.env = pure false := by rfl) : HS X I env (.Expr e pos :: rest) O :=
  (pss_cons (ps_expr h hs) hr).wk fun D σ H ⟨hI, hE, k⟩ => ⟨hI, hE, fun v H1 s1 r1 => ⟨I.mono s1 hI, hE.mono s1, k⟩⟩
theorem hs_one (h : H1 X I env st O) : HS X I env [st] O := pss_one h
theorem hs_nx (h : H1 X I env st (oNx I' env')) (hr : HS X I' env' rest O) : HS X I env (st :: rest) O :=
  (pss_cons h hr).wk fun D σ H ⟨hI, hE, k⟩ => ⟨hI, hE, fun σ' H' hI' hE' => ⟨hI', hE', k⟩⟩
theorem hs_stop (h : H1 X I env st O) (hO : NoNx O) : HS X I env (st :: rest) O :=
  (pss_cons h pss_never).wk fun D σ H ⟨hI, hE, k⟩ => ⟨hI, hE, hO D _ k⟩
theorem h_ifT (h : PB X I env c true) (hb : HS X I env body O) : H1 X I env (.If c body orelse pos) O :=
  (ps_if h hb (b := orelse) pss_never).wk fun D σ H ⟨hI, hE, k⟩ => ⟨hI, hE, fun H1 s1 => by
    show if true = true then _ else _
    rw [if_pos rfl]; exact ⟨I.mono s1 hI, hE.mono s1, k⟩⟩
theorem h_ifF (h : PB X I env c false) (hb : HS X I env orelse O) : H1 X I env (.If c body orelse pos) O :=
  (ps_if h (a := body) pss_never hb).wk fun D σ H ⟨hI, hE, k⟩ => ⟨hI, hE, fun H1 s1 => by
    show if false = true then _ else _
    rw [if_neg Bool.false_ne_true]; exact ⟨I.mono s1 hI, hE.mono s1, k⟩⟩
/-- if c: .. (no else), c false: on with the rest -/
theorem hs_ifF (h : PB X I env c false) (hr : HS X I env rest O) : HS X I env (.If c body [] pos :: rest) O := hs_nx (h_ifF h hs_end) hr
/-- if c: .. a way out .., c true -/
theorem hs_ifT (h : PB X I env c true) (hb : HS X I env body O) (hO : NoNx O) : HS X I env (.If c body orelse pos :: rest) O := hs_stop (h_ifT h hb) hO
theorem hs_ct : HS X I env (.Continue pos :: rest) (oCt I env) := (pss_cons ps_continue pss_never).wk fun D σ H ⟨hI, hE, k⟩ => k σ H hI hE
/-! ### loops -/
def NoLp (O : Ends → Prop) : Prop := ∀ D n c b, O D → O { D with nx := n, ct := c, bk := b }
theorem noLp_ret {I : Asr} {d : D} : NoLp (oRet I d) := fun _ _ _ _ h => h
abbrev LIx := Addr × List V × Nat × D
def lpG (at_ : Addr → List V → List D → Asr) (ds : List D) (m : Nat) (G : Nat → Asr) (Ev Eb : Nat → List (Option D)) : TG := fun v σ H Q => ∃ t : LIx, (ds[t.2.2.1]? = some t.2.2.2 ∧ t.2.2.1 ≤ m) ∧ tG ((G t.2.2.1).and (at_ t.1 t.2.1 ds)) t.2.2.2 (Ev t.2.2.1) (Eb t.2.2.1) v σ H Q
def lpB (at_ : Addr → List V → List D → Asr) (ds : List D) (m : Nat) (G : Nat → Asr) (Eb : Nat → List (Option D)) (O : Addr → List V → Nat → Ends → Prop) : TS := fun D σ H => ∃ t : LIx, (ds[t.2.2.1]? = some t.2.2.2 ∧ t.2.2.1 ≤ m) ∧ tS ((G t.2.2.1).and (at_ t.1 t.2.1 ds)) (Eb t.2.2.1) (O t.1 t.2.1 t.2.2.1) D σ H
/-- the turns of a loop: up to m they go on; at m (if there is one) the way out is O -/
def lpO (at_ : Addr → List V → List D → Asr) (ds : List D) (G : Nat → Asr) (Ev : Nat → List (Option D)) (m : Nat) (O : Ends → Prop) (a : Addr) (xs : List V) (j : Nat) : Ends → Prop := if j < m then oNC ((G (j + 1)).and (at_ a xs ds)) (Ev (j + 1)) else O
theorem h_forT_core {iter : Expr} {G : Nat → Asr} {Ev Eb : Nat → List (Option D)} {m : Nat} (hp : PassesOwn (model X.prog X.w) X.A X.env X.xe) (hc : X.calm = true) (hi : PD X I env iter (.tup ds)) (h0 : ∀ H, I.p H → (G 0).p H) (e0 : Ev 0 = env)
    (hg : ∀ a xs j d, ds[j]? = some d → j ≤ m → PG X tg (tG ((G j).and (atT a xs ds)) d (Ev j) (Eb j)))
    (hb : ∀ a xs j d, ds[j]? = some d → j ≤ m → HS X ((G j).and (atT a xs ds)) (Eb j) body (lpO atT ds G Ev m O a xs j)) (hO : m < ds.length → NoLp O) (hE0 : ds.length ≤ m → ∀ D, O D → oNx (G ds.length) (Ev ds.length) D)
    (hs : ∀ x, foldedSetIterable iter X.env x = pure x := by intro _; rfl) : H1 X I env (.For tg iter body [] pos) O := by
  refine (ps_for hp hc (pi_tup hi) (g := lpG atT ds m G Ev Eb) (pg_exI fun (t : LIx) h => hg t.1 t.2.1 t.2.2.1 t.2.2.2 h.1 h.2) (tb := lpB atT ds m G Eb (lpO atT ds G Ev m O)) (pss_exI fun (t : LIx) h => hb t.1 t.2.1 t.2.2.1 t.2.2.2 h.1 h.2) hs).wk
    fun D σ H ⟨hI, hE, k⟩ => ⟨hI, hE, fun x H1 s1 r1 => ?_⟩
  obtain ⟨a, xs, e, ha, hl⟩ := r1.tup_inv
  subst e
  refine ⟨a, rfl, ⟨xs, SqT.of ha⟩, for_tup (K := X.K) (a := a) (xs := xs) (g := lpG atT ds m G Ev Eb) (tb := lpB atT ds m G Eb (lpO atT ds G Ev m O)) (D := D) (σ := σ) (H := H1)
    (fun i σ H => i ≤ m ∧ ((G i).and (atT a xs ds)).p H ∧ EnvR H σ (Ev i)) ⟨Nat.zero_le _, ⟨I.mono s1 hI |> h0 _, ha, hl⟩, by rw [e0]; exact hE.mono s1⟩ (fun i σ H _ p => SqT.of p.2.1.2.1) (fun i x σ H hx p => ?_) (fun σ H p => ?_)⟩
  · obtain ⟨hm, hG, hE⟩ := p
    obtain ⟨d, hd, rd⟩ := hG.2.2.rget hx
    refine ⟨(a, xs, i, d), ⟨hd, hm⟩, hG, rd, hE, fun σ' H' s' hE' => ⟨(a, xs, i, d), ⟨hd, hm⟩, ((G i).and (atT a xs ds)).mono s' hG, hE', ?_⟩⟩
    show lpO atT ds G Ev m O a xs i _
    unfold lpO
    by_cases hi : i < m
    · rw [if_pos hi]
      exact ⟨fun σ H h1 h2 => ⟨hi, h1, h2⟩, fun σ H h1 h2 => ⟨hi, h1, h2⟩⟩
    · rw [if_neg hi]
      have hil : i < ds.length := (List.getElem?_eq_some_iff.mp hd).1
      exact hO (by omega) _ _ _ _ k
  · obtain ⟨hm, hG, hE⟩ := p
    have hlen := hl.length
    rw [hlen] at hm hG hE
    exact hE0 (by omega) D k σ H hG.1 hE
theorem h_forL_core {iter : Expr} {G : Nat → Asr} {Ev Eb : Nat → List (Option D)} {m : Nat} (hp : PassesOwn (model X.prog X.w) X.A X.env X.xe) (hc : X.calm = true) (hi : PD X I env iter (.lst ds)) (h0 : ∀ H, I.p H → (G 0).p H) (e0 : Ev 0 = env)
    (hg : ∀ a xs j d, ds[j]? = some d → j ≤ m → PG X tg (tG ((G j).and (atL a xs ds)) d (Ev j) (Eb j)))
    (hb : ∀ a xs j d, ds[j]? = some d → j ≤ m → HS X ((G j).and (atL a xs ds)) (Eb j) body (lpO atL ds G Ev m O a xs j)) (hO : m < ds.length → NoLp O) (hE0 : ds.length ≤ m → ∀ D, O D → oNx (G ds.length) (Ev ds.length) D)
    (hs : ∀ x, foldedSetIterable iter X.env x = pure x := by intro _; rfl) : H1 X I env (.For tg iter body [] pos) O := by
  refine (ps_for hp hc (pi_list hi) (g := lpG atL ds m G Ev Eb) (pg_exI fun (t : LIx) h => hg t.1 t.2.1 t.2.2.1 t.2.2.2 h.1 h.2) (tb := lpB atL ds m G Eb (lpO atL ds G Ev m O)) (pss_exI fun (t : LIx) h => hb t.1 t.2.1 t.2.2.1 t.2.2.2 h.1 h.2) hs).wk
    fun D σ H ⟨hI, hE, k⟩ => ⟨hI, hE, fun x H1 s1 r1 => ?_⟩
  obtain ⟨a, xs, e, ha, hl⟩ := r1.lst_inv
  subst e
  refine ⟨a, rfl, ⟨xs, SqL.of ha⟩, for_list (K := X.K) (a := a) (xs := xs) (g := lpG atL ds m G Ev Eb) (tb := lpB atL ds m G Eb (lpO atL ds G Ev m O)) (D := D) (σ := σ) (H := H1)
    (fun i σ H => i ≤ m ∧ ((G i).and (atL a xs ds)).p H ∧ EnvR H σ (Ev i)) ⟨Nat.zero_le _, ⟨I.mono s1 hI |> h0 _, ha, hl⟩, by rw [e0]; exact hE.mono s1⟩ (fun i σ H _ p => SqL.of p.2.1.2.1) (fun i x σ H hx p => ?_) (fun σ H p => ?_)⟩
  · obtain ⟨hm, hG, hE⟩ := p
    obtain ⟨d, hd, rd⟩ := hG.2.2.rget hx
    refine ⟨(a, xs, i, d), ⟨hd, hm⟩, hG, rd, hE, fun σ' H' s' hE' => ⟨(a, xs, i, d), ⟨hd, hm⟩, ((G i).and (atL a xs ds)).mono s' hG, hE', ?_⟩⟩
    show lpO atL ds G Ev m O a xs i _
    unfold lpO
    by_cases hi : i < m
    · rw [if_pos hi]
      exact ⟨fun σ H h1 h2 => ⟨hi, h1, h2⟩, fun σ H h1 h2 => ⟨hi, h1, h2⟩⟩
    · rw [if_neg hi]
      have hil : i < ds.length := (List.getElem?_eq_some_iff.mp hd).1
      exact hO (by omega) _ _ _ _ k
  · obtain ⟨hm, hG, hE⟩ := p
    have hlen := hl.length
    rw [hlen] at hm hG hE
    exact hE0 (by omega) D k σ H hG.1 hE
/-- for tg in a tuple: every turn goes on -/
theorem h_forT {iter : Expr} {G : Nat → Asr} {Ev Eb : Nat → List (Option D)} (hp : PassesOwn (model X.prog X.w) X.A X.env X.xe) (hc : X.calm = true) (hi : PD X I env iter (.tup ds)) (h0 : ∀ H, I.p H → (G 0).p H) (e0 : Ev 0 = env)
    (hg : ∀ a xs j d, ds[j]? = some d → PG X tg (tG ((G j).and (atT a xs ds)) d (Ev j) (Eb j)))
    (hb : ∀ a xs j d, ds[j]? = some d → HS X ((G j).and (atT a xs ds)) (Eb j) body (oNC ((G (j + 1)).and (atT a xs ds)) (Ev (j + 1))))
    (hs : ∀ x, foldedSetIterable iter X.env x = pure x := by intro _; rfl) : H1 X I env (.For tg iter body [] pos) (oNx (G ds.length) (Ev ds.length)) :=
  h_forT_core (m := ds.length) hp hc hi h0 e0 (fun a xs j d hd _ => hg a xs j d hd) (fun a xs j d hd _ => by
    have hil : j < ds.length := (List.getElem?_eq_some_iff.mp hd).1
    unfold lpO
    rw [if_pos hil]
    exact hb a xs j d hd) (fun h => absurd h (Nat.lt_irrefl _)) (fun _ D h => h) hs
theorem h_forL {iter : Expr} {G : Nat → Asr} {Ev Eb : Nat → List (Option D)} (hp : PassesOwn (model X.prog X.w) X.A X.env X.xe) (hc : X.calm = true) (hi : PD X I env iter (.lst ds)) (h0 : ∀ H, I.p H → (G 0).p H) (e0 : Ev 0 = env)
    (hg : ∀ a xs j d, ds[j]? = some d → PG X tg (tG ((G j).and (atL a xs ds)) d (Ev j) (Eb j)))
    (hb : ∀ a xs j d, ds[j]? = some d → HS X ((G j).and (atL a xs ds)) (Eb j) body (oNC ((G (j + 1)).and (atL a xs ds)) (Ev (j + 1))))
    (hs : ∀ x, foldedSetIterable iter X.env x = pure x := by intro _; rfl) : H1 X I env (.For tg iter body [] pos) (oNx (G ds.length) (Ev ds.length)) :=
  h_forL_core (m := ds.length) hp hc hi h0 e0 (fun a xs j d hd _ => hg a xs j d hd) (fun a xs j d hd _ => by
    have hil : j < ds.length := (List.getElem?_eq_some_iff.mp hd).1
    unfold lpO
    rw [if_pos hil]
    exact hb a xs j d hd) (fun h => absurd h (Nat.lt_irrefl _)) (fun _ D h => h) hs
/-- a return from within a loop: the turn's own words fall away -/
theorem hs_retA (h : PD X (I.and J) env e d) : HS X (I.and J) env (.Return (some e) pos :: rest) (oRet I d) := (hs_ret h).wk (fun _ h => h) fun _ q v H hI r => q v H hI.1 r
/-- for tg in (): nothing -/
theorem h_forT0 {iter : Expr} (hp : PassesOwn (model X.prog X.w) X.A X.env X.xe) (hc : X.calm = true) (hi : PD X I env iter (.tup [])) (hs : ∀ x, foldedSetIterable iter X.env x = pure x := by intro _; rfl)
    (hg : PG X tg (fun _ _ _ _ => False) := by exact ⟨fun _ _ _ _ _ _ _ _ _ h => h.elim⟩) : H1 X I env (.For tg iter body [] pos) (oNx I env) :=
  h_forT (G := fun _ => I) (Ev := fun _ => env) (Eb := fun _ => env) hp hc hi (fun _ h => h) rfl (fun a xs j d h => by cases h) (fun a xs j d h => by cases h) hs
/-- for tg in (d,): the one turn leaves -/
theorem h_forT1r {iter : Expr} (hp : PassesOwn (model X.prog X.w) X.A X.env X.xe) (hc : X.calm = true) (hi : PD X I env iter (.tup [d])) (hg : ∀ J : Asr, PG X tg (tG J d env env')) (hb : ∀ a xs, HS X (I.and (atT a xs [d])) env' body O) (hO : NoLp O)
    (hs : ∀ x, foldedSetIterable iter X.env x = pure x := by intro _; rfl) : H1 X I env (.For tg iter body [] pos) O :=
  h_forT_core (m := 0) (G := fun _ => I) (Ev := fun _ => env) (Eb := fun _ => env') hp hc hi (fun _ h => h) rfl
    (fun a xs j e h _ => by
      cases j with
      | zero => cases h; exact hg _
      | succ j => cases h)
    (fun a xs j e h _ => by
      cases j with
      | zero => cases h; exact hb a xs
      | succ j => cases h) (fun _ => hO) (fun h => absurd h (by simp)) hs
/-- .. the one turn goes on -/
theorem h_forT1 {iter : Expr} (hp : PassesOwn (model X.prog X.w) X.A X.env X.xe) (hc : X.calm = true) (hi : PD X I env iter (.tup [d])) (hg : ∀ J : Asr, PG X tg (tG J d env env')) (hb : ∀ a xs, HS X (I.and (atT a xs [d])) env' body (oNC (I'.and (atT a xs [d])) env2))
    (hs : ∀ x, foldedSetIterable iter X.env x = pure x := by intro _; rfl) : H1 X I env (.For tg iter body [] pos) (oNx I' env2) :=
  h_forT (G := fun j => if j = 0 then I else I') (Ev := fun j => if j = 0 then env else env2) (Eb := fun _ => env') hp hc hi (fun _ h => h) rfl
    (fun a xs j e h => by
      cases j with
      | zero => cases h; exact hg _
      | succ j => cases h)
    (fun a xs j e h => by
      cases j with
      | zero => cases h; exact hb a xs
      | succ j => cases h) hs
/-- a turn that ends goes on -/
theorem oNC_nx {I : Asr} {env : Ev} {D : Ends} (h : oNC I env D) : oNx I env D := h.1
theorem hs_endC : HS X I env [] (oNC I env) := hs_end.wk (fun _ h => h) fun _ h => h.1
theorem hs_ctC : HS X I env (.Continue pos :: rest) (oNC I env) := hs_ct.wk (fun _ h => h) fun _ h => h.2
end
end Sd
namespace Sd
open PySem L2
/-! ### defs by their bodies -/
def top (i : Nat) : Stmt := PySem.Challenge.pw_suredue_k29_main_payments_whole_or_nothi.main.body.getD i (.Pass ⟨0, 0, 0, 0⟩)
def startE (N : List Str) (ds : List D) : Ev := ds.map some ++ List.replicate (N.length - ds.length) none
theorem start_env {H : Hp} {N : List Str} {ds : List D} {vs : List V} (r : RepL H ds vs) : EnvR H (L2.start N vs) (startE N ds) := by
  have hl := r.length
  unfold L2.start startE
  refine ⟨by simp [hl], fun i d e => ?_⟩
  have hi : i < ds.length := by
    by_cases hi : i < ds.length
    · exact hi
    · rw [List.getElem?_append_right (by simpa using hi), List.getElem?_replicate] at e
      split at e <;> cases e
  rw [List.getElem?_append_left (by simpa using hi), List.getElem?_map] at e
  cases q : ds[i]? with
  | none => rw [q] at e; cases e
  | some d' =>
    rw [q] at e
    cases e
    obtain ⟨x, hx, rx⟩ := r.get q
    exact ⟨x, by rw [List.getElem?_append_left (by simp; omega), List.getElem?_map, hx]; rfl, rx⟩
/-- the context of a def's body from which nothing that is raised gets out; of one that may raise -/
abbrev bx (P : Program) (w : World) (K : PySem.W.Frag) (mg : Str → Option Value) (base : Heap) (N : List Str) (qual : Str) (st : Stmt) (f : Addr) (cdv : Value) (A : Around) (outer : List Env) (s : Shared) (H : Hp) (E : XK) : Cx :=
  (cxOf CX0 P w K mg base N qual (defScope st) f cdv A outer s H E).nox
abbrev bxX (P : Program) (w : World) (K : PySem.W.Frag) (mg : Str → Option Value) (base : Heap) (N : List Str) (qual : Str) (st : Stmt) (f : Addr) (cdv : Value) (A : Around) (outer : List Env) (s : Shared) (H : Hp) (E : XK) : Cx :=
  cxOf (L2.CX P w) P w K mg base N qual (defScope st) f cdv A outer s H E
/-- a def of the module, where it stands -/
structure FD (K : PySem.W.Frag) (mg : Str → Option Value) (x : Str) (st : Stmt) (ps : List Str) : Prop where
  ex : ∃ (f : Addr) (fd : FuncData), Fun K x x st f fd ∧ mg x = some (.ref f) ∧ Binds K fd ps []
section
variable {P : Program} {w : World} {K : PySem.W.Frag} {mg : Str → Option Value} {base : Heap} {x : Str} {st : Stmt} {N ps : List Str} {k : Nat}
theorem cal_pure {S : List D → D → Prop} (F : FD K mg x st ps) (sc : FnScope N ps (defScope st)) (len : ∀ ds d, S ds d → ds.length = ps.length)
    (body : ∀ (f : Addr) (cdv : Value) (A : Around) (outer : List Env) (s : Shared) (H : Hp) (E : XK), Room k (bx P w K mg base N x st f cdv A outer s H E).A → ∀ ds d, S ds d → ∀ I, HS (bx P w K mg base N x st f cdv A outer s H E) I (startE N ds) (defBody st) (oRet I d)) :
    Cal P w K mg base CX0 (k + 1) x (spD S) := by
  obtain ⟨f, fd, F, hm, b⟩ := F.ex
  refine ⟨f, fd, ps, F.ok sc (fun vs H Q E h => ?_) (fun cdv A outer s H vs Q E hr h => ?_), hm, F.kp, b⟩
  · obtain ⟨ds, d, r, hS, _⟩ := h
    rw [r.length]; exact len ds d hS
  · obtain ⟨ds, d, r, hS, q⟩ := h
    exact ⟨_, body f cdv A outer s H E hr ds d hS (since H), Same.refl H, start_env r, fun v H' hs rv => q v H' hs rv⟩
/-- a def that ends without a return -/
theorem cal_proc {S : List D → D → Prop} (F : FD K mg x st ps) (sc : FnScope N ps (defScope st)) (len : ∀ ds d, S ds d → ds.length = ps.length) (non : ∀ ds d, S ds d → d = .non)
    (body : ∀ (f : Addr) (cdv : Value) (A : Around) (outer : List Env) (s : Shared) (H : Hp) (E : XK), Room k (bx P w K mg base N x st f cdv A outer s H E).A → ∀ ds d, S ds d → ∀ I, ∃ env', HS (bx P w K mg base N x st f cdv A outer s H E) I (startE N ds) (defBody st) (oNx I env')) :
    Cal P w K mg base CX0 (k + 1) x (spD S) := by
  obtain ⟨f, fd, F, hm, b⟩ := F.ex
  refine ⟨f, fd, ps, F.ok sc (fun vs H Q E h => ?_) (fun cdv A outer s H vs Q E hr h => ?_), hm, F.kp, b⟩
  · obtain ⟨ds, d, r, hS, _⟩ := h
    rw [r.length]; exact len ds d hS
  · obtain ⟨ds, d, r, hS, q⟩ := h
    obtain ⟨env', hb⟩ := body f cdv A outer s H E hr ds d hS (since H)
    refine ⟨_, hb, Same.refl H, start_env r, fun σ H' hs _ => q _ H' hs ?_⟩
    have e := non ds d hS
    subst e
    rfl
theorem cal_X {C : Addr} {S : List D → Option D → Prop} (F : FD K mg x st ps) (sc : FnScope N ps (defScope st)) (len : ∀ ds d, S ds d → ds.length = ps.length)
    (body : ∀ (f : Addr) (cdv : Value) (A : Around) (outer : List Env) (s : Shared) (H : Hp) (E : XK), Room k (bxX P w K mg base N x st f cdv A outer s H E).A → ∀ ds r, S ds r → ∀ I, HS (bxX P w K mg base N x st f cdv A outer s H E) I (startE N ds) (defBody st) (match r with | some d => oRet I d | none => oExc E C I)) :
    Cal P w K mg base (L2.CX P w) (k + 1) x (spX C S) := by
  obtain ⟨f, fd, F, hm, b⟩ := F.ex
  refine ⟨f, fd, ps, F.okX sc (fun vs H Q E h => ?_) (fun cdv A outer s H vs Q E hr h => ?_), hm, F.kp, b⟩
  · obtain ⟨ds, d, r, hS, _⟩ := h
    rw [r.length]; exact len ds d hS
  · obtain ⟨ds, r, rr, hS, q⟩ := h
    refine ⟨_, body f cdv A outer s H E hr ds r hS (since H), Same.refl H, start_env rr, ?_⟩
    cases r with
    | some d => exact fun v H' hs rv => q v H' hs rv
    | none => exact fun H' hs => q H' hs
end
/-! ### raise, try -/
/-- what is known of the class Unfit -/
structure UnfitAt (K : PySem.W.Frag) (mg : Str → Option Value) (C : Addr) : Prop where
  gC : mg "Unfit" = some (.ref C)
  ex : PySem.W.excIn K C [.type "ValueError", .type "Exception", .type "BaseException", .type "object"] "ValueError.__new__" = true
  kC : PySem.W.keepIn K (.ref C) = true
  su : PySem.W.subIn K (.ref C) (.type "BaseException") = some true
  ty : PySem.W.typeIn K (.ref C) = some (.type "type")
  exm : PySem.W.exmOne K (.ref C) (.ref C) = some true
section
variable {X : Cx} {I I' J : Asr} {env env' env2 : Ev} {e a b c tg : Expr} {es : List Expr} {st : Stmt} {rest body orelse : List Stmt} {d d1 : D} {ds : List D} {pos pos' p np : Pos} {x : Str} {O O' : Ends → Prop} {k j : Nat} {C : Addr} {E : XK}
theorem pg_nev : PG X tg (fun _ _ _ _ => False) := ⟨fun _ _ _ _ _ _ _ _ _ h => h.elim⟩
/-- Unfit() -/
theorem pmk_unfit (U : UnfitAt X.K X.mg C) (hg : Gl X "Unfit" := by rfl) : PMk X (.Call (.Name "Unfit" p) [] [] pos) (fun _ H Q => Q (.ref C) none H) := by
  intro pins s σ H Q I h
  refine wpAny_Call_Name_kw (ld_glob I hg U.gC ?_ (by decide))
  refine PySem.W.callWith_K0 (first := []) I.kIn U.kC ?_
  show wpAny _ _ (call (.ref C) []) _ _ _
  obtain ⟨bm, N, nm, qn, bs, hdct, sn, sub, ab, col, dd, k0, k1, k2, k3, k5, mN, hC, hN, hni, T⟩ := exc_obj I.kIn U.ex
  refine wpAny_call_exc_subT PySem.F.excBase_ValueError T hC hN hni (fun h' e hm => ?_) (Nat.zero_le _)
  exact mk_of I hm (raises_own U.su U.ty) h (I.hok.gone hm.new)
theorem h_raise (hc : X.calm = true) (U : UnfitAt X.K X.mg C) (tk : Takes X (fun cls d _ H => E cls d H)) (hg : Gl X "Unfit" := by rfl) : H1 X I env (.Raise (some (.Call (.Name "Unfit" p) [] [] pos)) none pos') (oExc E C I) :=
  (ps_raise hc tk (pmk_unfit U hg)).wk fun D σ H ⟨hI, hE, k⟩ => k H hI
/-- an expression that raises C -/
def tX (I : Asr) (env : Ev) (C : Addr) (W : St → XK) : TE := fun σ H _ => I.p H ∧ EnvR H σ env ∧ ∀ H', Same H H' → W σ (.ref C) none H'
theorem px_call {S : List D → Option D → Prop} {W : St → XK} (c : Cal X.prog X.w X.K X.mg X.base (L2.CX X.prog X.w) k x (spX C S)) (hx : ∀ σ, PassesAt (L2.CX X.prog X.w) X σ (W σ)) (hr : Room j X.A) (hk : k ≤ j) (ha : PDs X I env (e :: es) ds) (hS : S ds none) (hg : Gl X x := by rfl)
    (hdb : (x == ("__debug__" : Str)) = false := by decide) (he : starEach (e :: es) X.env = (false, eval e X.env) :: starEach es X.env := by rfl) (hpl : (backTo pos (starEach es X.env)).any (·.1) = false := by rfl) :
    PE X (.Call (.Name x p) (e :: es) [] pos) (tX I env C W) := by
  obtain ⟨f, fd, ps, F, hm, kp, b⟩ := c.ex
  exact (pe_callS F (hr.mono hk) hg hm kp b hx ha hdb he hpl).wk fun σ H Q ⟨hI, hE, k⟩ => ⟨hI, hE, fun vs H1 s1 r1 =>
    ⟨ds, none, r1, hS, fun H' s2 => k H' (s1.trans s2)⟩⟩
/-- a statement whose value raises C -/
theorem h_asgX (h : PE X e (tX I env C (fun _ => E))) (hs : swapsWithSole [tg] e pos.line X.env = pure false := by rfl) (hw : swappedStores [tg] e X.env = pure none := by rfl)
    (h1 : (assignEach [tg] X.env).map (·.2) = [assign tg X.env] := by rfl) : H1 X I env (.Assign [tg] e pos) (oExc E C I) :=
  (ps_asg h pg_nev hs hw h1).wk fun D σ H ⟨hI, hE, k⟩ => ⟨hI, hE, fun H' s => k H' (I.mono s hI)⟩
theorem passAtE (tk : Takes X (fun cls d _ H => E cls d H)) (σ : St) : PassesAt (L2.CX X.prog X.w) X σ E := passAt (W := fun cls d _ H => E cls d H) tk σ
/-- try: body .. except Unfit: suite; the body raises nothing -/
theorem h_tryN {b0 : Stmt} {suite : List Stmt} (hs : X.stack = X.env :: X.outer := by rfl) (hf : X.env.frame = some X.env.locals := by rfl) (U : UnfitAt X.K X.mg C)
    (hb : ∀ (W : WX) (pn : List (Addr × Obj)) (xe : Value → Shared → Prop), Takes (X.tr pn xe) W → HS (X.tr pn xe) I env body O) (hg : Gl X "Unfit" := by rfl) :
    H1 X I env (.Try body [.ExceptHandler (some (.Name "Unfit" np)) none (b0 :: suite) pos'] [] [] pos) O :=
  ps_try_only (tb := fun _ => tS I env O) (ts := fun _ _ _ => tNever) (Wout := fun _ _ _ _ => False) hs hf ⟨hg, by decide, .inl U.gC⟩ takes0 (fun W pn xe tk _ => hb W pn xe tk) (fun _ _ _ _ _ _ _ => pss_never)
/-- .. the body raises Unfit -/
def tR (I : Asr) (env : Ev) (C : Addr) (W : WX) : TS := fun _ σ H => I.p H ∧ EnvR H σ env ∧ ∀ H', Same H H' → W (.ref C) none σ H'
theorem h_tryX {b0 : Stmt} {suite : List Stmt} (hs : X.stack = X.env :: X.outer := by rfl) (hf : X.env.frame = some X.env.locals := by rfl) (U : UnfitAt X.K X.mg C)
    (hb : ∀ (W : WX) (pn : List (Addr × Obj)) (xe : Value → Shared → Prop), Takes (X.tr pn xe) W → PSs (X.tr pn xe) body (tR I env C W)) (hsu : ∀ (a : Addr) (oe : Obj) (pn : List (Addr × Obj)), HS (X.suite a ((a, oe) :: pn)) I env (b0 :: suite) O) (hg : Gl X "Unfit" := by rfl) :
    H1 X I env (.Try body [.ExceptHandler (some (.Name "Unfit" np)) none (b0 :: suite) pos'] [] [] pos) O :=
  (ps_try_only (tb := tR I env C) (ts := fun _ _ _ => tS I env O) (Wout := fun _ _ _ _ => False) hs hf ⟨hg, by decide, .inl U.gC⟩ takes0 (fun W pn xe tk _ => hb W pn xe tk) (fun a oe _ _ pn _ _ => hsu a oe pn)).wk
    fun D σ H ⟨hI, hE, k⟩ => ⟨hI, hE, fun H' s => ⟨true, U.exm, fun _ a ha => ⟨I.mono s hI, hE.mono s, k⟩, fun q => Bool.noConfusion q⟩⟩
/-- bodies of a try that raise: x = f(..), return (f(..), ..) -/
theorem r_set {W : WX} (i : Nat) (hN : X.N.Nodup) (h : PE X e (tX I env C (WE W))) (hi : X.N[i]? = some x := by rfl) (hx : Loc X.env.scope x := by first | exact Or.inl rfl | exact Or.inr rfl)
    (hs : swapsWith e (some (.Name x pos')) pos.line X.env = pure false := by rfl) (hf : X.fn x = true ∨ X.env.scope.names.lookup x = some .local := by first | exact .inl rfl | exact .inr rfl) : PSs X [.Assign [.Name x pos'] e pos] (tR I env C W) :=
  (pss_one (ps_set hN hi hx h hs hf)).wk fun D σ H ⟨hI, hE, k⟩ => ⟨hI, hE, k⟩
theorem r_ret {W : WX} (h : PE X e (tX I env C (WE W))) : PSs X [.Return (some e) pos] (tR I env C W) :=
  (pss_one (ps_ret h)).wk fun D σ H ⟨hI, hE, k⟩ => ⟨hI, hE, k⟩
theorem px_tup {W : St → XK} {x1} (h : PE X e (tX I env C W)) (hr : PA X es (fun _ _ _ => False)) (hs : starEach (e :: es) X.env = (false, eval e X.env) :: starEach es X.env := by rfl) : PE X (.Tuple (e :: es) x1 pos) (tX I env C W) :=
  (pe_tup (pa_cons h hr hs)).wk fun σ H Q ⟨hI, hE, k⟩ => ⟨hI, hE, k⟩
theorem pa_nev : PA X es (fun _ _ _ => False) := ⟨fun _ _ _ _ _ _ _ h => h.elim⟩
end
end Sd
namespace Sd
open PySem L2
/-! ### moments -/
def lookAt (t1 m : Int) : Int := t1 * -(-m / t1)
def lookBy (t1 m : Int) : Option Int := if m < 0 then none else some (t1 * (m / t1))
def oInt : Option Int → D
  | none => .non
  | some i => .int i
def showBy (t0 t1 e : Int) : Option Int := lookBy t1 (e - t0)
def closeBy (t0 t1 e : Int) : Option Int := (showBy t0 t1 e).bind fun l => lookBy t1 (l - t0)
def inTime (t0 t1 m e : Int) : Bool := match closeBy t0 t1 e with
  | none => false
  | some l => decide (m ≤ l)
def eTimes (t0 t1 t2 : Int) : D := .tup [.int t0, .int t1, .int t2]
def OkT (t1 : Int) : Prop := 1 ≤ t1 ∧ t1 < 1000
theorem OkT.div {t1 : Int} (h : OkT t1) : CDiv 0 t1 := ⟨by have := h.1; omega, by have := h.2; omega⟩
theorem OkT.cdiv {t1 i : Int} (h : OkT t1) : CDiv i t1 := h.div
theorem OkT.mul {t1 i : Int} (h : OkT t1) : CMul t1 i := .inl ⟨by have := h.1; omega, by have := h.2; omega⟩
section
variable {P : Program} {w : World} {K : PySem.W.Frag} {mg : Str → Option Value} {base : Heap}
def S_look_at (ds : List D) (d : D) : Prop := ∃ t0 t1 t2 m, ds = [eTimes t0 t1 t2, .int m] ∧ OkT t1 ∧ d = .int (lookAt t1 m)
theorem sc_look_at : FnScope ["times", "moment"] ["times", "moment"] (defScope (top 6)) := ⟨rfl, rfl, rfl, by decide +kernel, rfl, by decide +kernel, by decide +kernel⟩
theorem ok_look_at (F : FD K mg "look_at" (top 6) ["times", "moment"]) : Cal P w K mg base CX0 1 "look_at" (spD S_look_at) := by
  refine cal_pure F sc_look_at (fun ds d h => by obtain ⟨_, _, _, _, rfl, _⟩ := h; rfl) ?_
  rintro f cdv A outer s H E hr _ _ ⟨t0, t1, t2, m, rfl, h1, rfl⟩ I
  exact hs_ret (pd_mul (pd_ixT (pd_var 0) pd_int) (pd_neg (pd_fdiv (pd_neg (pd_var 1)) (pd_ixT (pd_var 0) pd_int) h1.cdiv)) h1.mul)
def S_look_by (ds : List D) (d : D) : Prop := ∃ t0 t1 t2 m, ds = [eTimes t0 t1 t2, .int m] ∧ OkT t1 ∧ d = oInt (lookBy t1 m)
theorem sc_look_by : FnScope ["times", "moment"] ["times", "moment"] (defScope (top 7)) := ⟨rfl, rfl, rfl, by decide +kernel, rfl, by decide +kernel, by decide +kernel⟩
theorem ok_look_by (F : FD K mg "look_by" (top 7) ["times", "moment"]) : Cal P w K mg base CX0 1 "look_by" (spD S_look_by) := by
  refine cal_pure F sc_look_by (fun ds d h => by obtain ⟨_, _, _, _, rfl, _⟩ := h; rfl) ?_
  rintro f cdv A outer s H E hr _ _ ⟨t0, t1, t2, m, rfl, h1, rfl⟩ I
  refine hs_ret (pd_ifB (pb_lt (pd_var 1) pd_int) (fun q => ?_) (fun q => ?_))
  · rw [lookBy, if_pos (of_decide_eq_true q)]
    exact pd_non
  · rw [lookBy, if_neg (of_decide_eq_false q)]
    exact pd_mul (pd_ixT (pd_var 0) pd_int) (pd_fdiv (pd_var 1) (pd_ixT (pd_var 0) pd_int) h1.cdiv) h1.mul
def S_show_by (ds : List D) (d : D) : Prop := ∃ t0 t1 t2 m, ds = [eTimes t0 t1 t2, .int m] ∧ OkT t1 ∧ d = oInt (showBy t0 t1 m)
theorem sc_show_by : FnScope ["times", "end"] ["times", "end"] (defScope (top 16)) := ⟨rfl, rfl, rfl, by decide +kernel, rfl, by decide +kernel, by decide +kernel⟩
theorem ok_show_by (F : FD K mg "show_by" (top 16) ["times", "end"]) (C : Cal P w K mg base CX0 1 "look_by" (spD S_look_by)) : Cal P w K mg base CX0 2 "show_by" (spD S_show_by) := by
  refine cal_pure F sc_show_by (fun ds d h => by obtain ⟨_, _, _, _, rfl, _⟩ := h; rfl) ?_
  rintro f cdv A outer s H E hr _ _ ⟨t0, t1, t2, m, rfl, h1, rfl⟩ I
  exact hs_ret (pd_call C pass0 hr (Nat.le_refl _) (pds_cons (pd_var 0) (pds_cons (pd_sub (pd_var 1) (pd_ixT (pd_var 0) pd_int)) pds_nil)) ⟨t0, t1, t2, _, rfl, h1, rfl⟩)
def S_close_by (ds : List D) (d : D) : Prop := ∃ t0 t1 t2 m, ds = [eTimes t0 t1 t2, .int m] ∧ OkT t1 ∧ d = oInt (closeBy t0 t1 m)
theorem sc_close_by : FnScope ["times", "end", "last"] ["times", "end"] (defScope (top 17)) := ⟨rfl, rfl, rfl, by decide +kernel, rfl, by decide +kernel, by decide +kernel⟩
theorem ok_close_by (F : FD K mg "close_by" (top 17) ["times", "end"]) (C1 : Cal P w K mg base CX0 1 "look_by" (spD S_look_by)) (C2 : Cal P w K mg base CX0 2 "show_by" (spD S_show_by)) : Cal P w K mg base CX0 3 "close_by" (spD S_close_by) := by
  refine cal_pure F sc_close_by (fun ds d h => by obtain ⟨_, _, _, _, rfl, _⟩ := h; rfl) ?_
  rintro f cdv A outer s H E hr _ _ ⟨t0, t1, t2, m, rfl, h1, rfl⟩ I
  refine hs_set 2 sc_close_by.nd (pd_call C2 pass0 hr (Nat.le_refl _) (pds_cons (pd_var 0) (pds_cons (pd_var 1) pds_nil)) ⟨t0, t1, t2, _, rfl, h1, rfl⟩) ?_
  unfold closeBy
  cases showBy t0 t1 m with
  | none => exact hs_ret (pd_ifT (pb_isN (pd_var 2)) pd_non)
  | some l => exact hs_ret (pd_ifF (pb_isN (pd_var 2)) (pd_call C1 pass0 hr (by decide) (pds_cons (pd_var 0) (pds_cons (pd_sub (pd_var 2) (pd_ixT (pd_var 0) pd_int)) pds_nil)) ⟨t0, t1, t2, _, rfl, h1, rfl⟩))
end
end Sd
namespace Sd
open PySem L2
/-! ### isinstance -/
def D.tyN : D → Option String
  | .non => some "NoneType"
  | .bl _ => some "bool"
  | .int _ => some "int"
  | .str _ => some "str"
  | .tup _ => some "tuple"
  | .lst _ => some "list"
  | .ref _ => none
theorem Rep.tyX {K : PySem.W.Frag} {H : Hp} {d : D} {v : V} {n : String} (r : Rep H d v) (h : d.tyN = some n) : TyX K H v (.type n) := by
  cases d with
  | non => cases h; have e : v = .non := r; subst e; exact .base .non
  | bl b => cases h; have e : v = .bl b := r; subst e; exact .base (.bl b)
  | int i => cases h; have e : v = .int i := r; subst e; exact .base (.int i)
  | str x => cases h; have e : v = .str x := r; subst e; exact .base (.str x)
  | ref a => cases h
  | tup ds => cases h; obtain ⟨a, xs, e, ha, _⟩ := r.tup_inv; subst e; exact .base (.tup ha)
  | lst ds => cases h; obtain ⟨a, xs, e, ha, _⟩ := r.lst_inv; subst e; exact .base (.lst ha)
def isT (n T : String) : Bool := n == T || (n == "bool" && T == "int")
theorem kit_tab : ∀ n ∈ ["NoneType", "bool", "int", "str", "tuple", "list"], ∀ T ∈ ["list", "tuple", "bool", "str", "int"], kitB n T = some (isT n T) := by decide +kernel
theorem tyN_mem {d : D} {n : String} (h : d.tyN = some n) : n ∈ ["NoneType", "bool", "int", "str", "tuple", "list"] := by
  cases d <;> first | (cases h; done) | (cases h; decide)
section
variable {X : Cx} {I : Asr} {env : Ev} {a : Expr} {d : D} {pos p p1 p2 p3 : Pos} {n T1 T2 : String} {kk : Nat}
theorem kit1 {K : PySem.W.Frag} {T : String} (h : d.tyN = some n) (hT : T ∈ ["list", "tuple", "bool", "str", "int"]) : PySem.W.kitOne K (.type n) (.type T) = some (isT n T) := kit_ty (kit_tab n (tyN_mem h) T hT)
theorem pd_isi1 {x : Str} {q : Bool} (hm : X.mg "isinstance" = none) (ha : PD X I env a d) (hn : d.tyN = some n) (hmT : X.mg x = none) (hvT : bootBuiltins x = some (.type T1)) (hT : T1 ∈ ["list", "tuple", "bool", "str", "int"]) (hq : isT n T1 = q := by rfl)
    (hg : Gl X "isinstance" := by rfl) (hgT : Gl X x := by rfl) (hnT : x ≠ "__name__" := by decide) (hdT : (x == ("__debug__" : Str)) = false := by decide)
    (he : starEach (a :: [.Name x p1]) X.env = (false, eval a X.env) :: starEach [.Name x p1] X.env := by rfl) (he2 : starEach (.Name x p1 :: []) X.env = (false, eval (.Name x p1) X.env) :: starEach [] X.env := by rfl) (hpl : (backTo pos (starEach [.Name x p1] X.env)).any (·.1) = false := by rfl) :
    PD X I env (.Call (.Name "isinstance" p) [a, .Name x p1] [] pos) (.bl q) :=
  (pe_callB call_isi hg hm bt_isinstance (pa_cons ha (pa_cons (pe_bltn (v := .ty T1) hgT hmT hvT rfl hnT hdT) pa_nil he2) he) (by decide) (by decide) he hpl).wk fun σ H Q ⟨hI, hE, k⟩ => ⟨hI, hE, fun v H1 s1 r1 =>
    ⟨v, .ty T1, .type n, .type T1, q, rfl, .ty T1, r1.tyX hn, by rw [kit1 hn hT, hq], k _ H1 s1 rfl⟩⟩
theorem pd_isi2 {x y : Str} {q : Bool} (hm : X.mg "isinstance" = none) (ha : PD X I env a d) (hn : d.tyN = some n) (hmT : X.mg x = none) (hvT : bootBuiltins x = some (.type T1)) (hT : T1 ∈ ["list", "tuple", "bool", "str", "int"])
    (hmU : X.mg y = none) (hvU : bootBuiltins y = some (.type T2)) (hU : T2 ∈ ["list", "tuple", "bool", "str", "int"]) (hq : (isT n T1 || isT n T2) = q := by rfl)
    (hg : Gl X "isinstance" := by rfl) (hgT : Gl X x := by rfl) (hgU : Gl X y := by rfl) (hnT : x ≠ "__name__" := by decide) (hdT : (x == ("__debug__" : Str)) = false := by decide) (hnU : y ≠ "__name__" := by decide) (hdU : (y == ("__debug__" : Str)) = false := by decide)
    (he : starEach (a :: [.Tuple [.Name x p1, .Name y p2] kk p3]) X.env = (false, eval a X.env) :: starEach [.Tuple [.Name x p1, .Name y p2] kk p3] X.env := by rfl)
    (he2 : starEach (.Tuple [.Name x p1, .Name y p2] kk p3 :: []) X.env = (false, eval (.Tuple [.Name x p1, .Name y p2] kk p3) X.env) :: starEach [] X.env := by rfl)
    (he3 : starEach (.Name x p1 :: [.Name y p2]) X.env = (false, eval (.Name x p1) X.env) :: starEach [.Name y p2] X.env := by rfl) (he4 : starEach (.Name y p2 :: []) X.env = (false, eval (.Name y p2) X.env) :: starEach [] X.env := by rfl)
    (hpl : (backTo pos (starEach [.Tuple [.Name x p1, .Name y p2] kk p3] X.env)).any (·.1) = false := by rfl) :
    PD X I env (.Call (.Name "isinstance" p) [a, .Tuple [.Name x p1, .Name y p2] kk p3] [] pos) (.bl q) :=
  (pe_callB call_isiT hg hm bt_isinstance (pa_cons ha (pa_cons (pe_tup (pa_cons (pe_bltn (v := .ty T1) hgT hmT hvT rfl hnT hdT) (pa_cons (pe_bltn (v := .ty T2) hgU hmU hvU rfl hnU hdU) pa_nil he4) he3)) pa_nil he2) he) (by decide) (by decide) he hpl).wk fun σ H Q ⟨hI, hE, k⟩ => ⟨hI, hE, fun v H1 s1 r1 =>
    ⟨by show 2 ≤ sizeLine; decide, fun t ht => ⟨v, t, [.ty T1, .ty T2], .type n, [.type T1, .type T2], q, rfl, upd_same, .cons (.ty T1) (.cons (.ty T2) .nil), (r1.mono (Same.new ht)).tyX hn, by
      rw [← hq]
      refine kitAny_cons (kit1 hn hT) (fun h => ?_) (fun h => by rw [h]; rfl)
      rw [h, Bool.false_or]
      refine kitAny_cons (kit1 hn hU) (fun h => ?_) (fun h => h)
      rw [h]
      exact kitAny_nil, k _ _ (s1.trans (Same.new ht)) rfl⟩⟩⟩
end
/-! ### tuple_of: a copy -/
mutual
/-- tuples alone, none too long -/
def D.tk : D → Bool
  | .tup ds => decide (ds.length ≤ 1000) && tkL ds
  | .lst _ => false
  | .ref _ => false
  | _ => true
def tkL : List D → Bool
  | [] => true
  | d :: ds => d.tk && tkL ds
end
mutual
theorem D.tk_fix : ∀ {d : D}, d.tk = true → d.fix = true
  | .non, _ => rfl
  | .bl _, _ => rfl
  | .int _, _ => rfl
  | .str _, _ => rfl
  | .ref _, _ => rfl
  | .lst _, h => by cases h
  | .tup ds, h => by
    have h' : (decide (ds.length ≤ 1000) && tkL ds) = true := h
    rw [Bool.and_eq_true] at h'
    exact tkL_fix h'.2
theorem tkL_fix : ∀ {ds : List D}, tkL ds = true → fixL ds = true
  | [], _ => rfl
  | d :: ds, h => by
    have h' : (d.tk && tkL ds) = true := h
    rw [Bool.and_eq_true] at h'
    show (d.fix && fixL ds) = true
    rw [D.tk_fix h'.1, tkL_fix h'.2]
    rfl
end
theorem tkL_mem : ∀ {ds : List D}, tkL ds = true → ∀ d ∈ ds, d.tk = true
  | [], _, d, hd => by cases hd
  | e :: ds, h, d, hd => by
    have h' : (e.tk && tkL ds) = true := h
    rw [Bool.and_eq_true] at h'
    rcases List.mem_cons.mp hd with q | q
    · rw [q]; exact h'.1
    · exact tkL_mem h'.2 d q
theorem depL_mem : ∀ {ds : List D} {k : Nat}, depL ds ≤ k → ∀ d ∈ ds, d.dep ≤ k
  | [], _, _, d, hd => by cases hd
  | e :: ds, k, h, d, hd => by
    have h' : max e.dep (depL ds) ≤ k := h
    rcases List.mem_cons.mp hd with q | q
    · rw [q]; omega
    · exact depL_mem (by omega) d q
def S_tuple_of (k : Nat) (ds : List D) (d : D) : Prop := ds = [d] ∧ d.tk = true ∧ d.dep ≤ k
section
variable {P : Program} {w : World} {K : PySem.W.Frag} {mg : Str → Option Value} {base : Heap}
theorem sc_tuple_of : FnScope ["thing", "part"] ["thing"] (defScope (top 4)) := ⟨rfl, rfl, rfl, by decide +kernel, rfl, by decide +kernel, by decide +kernel⟩
/-- the built-ins that no name of the module hides -/
structure Free (mg : Str → Option Value) : Prop where
  isi : mg "isinstance" = none
  tup : mg "tuple" = none
  lst : mg "list" = none
  len : mg "len" = none
  any : mg "any" = none
  all : mg "all" = none
  min : mg "min" = none
  max : mg "max" = none
  sum : mg "sum" = none
  rng : mg "range" = none
  srt : mg "sorted" = none
  set : mg "set" = none
  int : mg "int" = none
  bool : mg "bool" = none
  str : mg "str" = none
  abs : mg "abs" = none
  enu : mg "enumerate" = none
  zip : mg "zip" = none
theorem ok_tuple_of (B : Free mg) (F : FD K mg "tuple_of" (top 4) ["thing"]) : ∀ k, Cal P w K mg base CX0 (k + 1) "tuple_of" (spD (S_tuple_of k)) := by
  intro k
  induction k with
  | zero =>
    refine cal_pure F sc_tuple_of (fun ds d h => by obtain ⟨rfl, _⟩ := h; rfl) ?_
    rintro f cdv A outer s H E hr _ d ⟨rfl, ht, hd⟩ I
    have hc : ∀ n, d.tyN = some n → (isT n "list" || isT n "tuple") = false → HS (bx P w K mg base ["thing", "part"] "tuple_of" (top 4) f cdv A outer s H E) I (startE ["thing", "part"] [d]) (defBody (top 4)) (oRet I d) := fun n hn hq =>
      hs_ifF (pb_val (pd_isi2 (n := n) B.isi (pd_var 0) hn B.lst bt_list (by decide) B.tup bt_tuple (by decide) hq)) (hs_ret (pd_var 0))
    cases d with
    | non => exact hc _ rfl rfl
    | bl _ => exact hc _ rfl rfl
    | int _ => exact hc _ rfl rfl
    | str _ => exact hc _ rfl rfl
    | ref _ => cases ht
    | lst _ => cases ht
    | tup ds => exact absurd hd (by show ¬ (depL ds + 1 ≤ 0); omega)
  | succ k ih =>
    refine cal_pure F sc_tuple_of (fun ds d h => by obtain ⟨rfl, _⟩ := h; rfl) ?_
    rintro f cdv A outer s H E hr _ d ⟨rfl, ht, hd⟩ I
    have hc : ∀ n, d.tyN = some n → (isT n "list" || isT n "tuple") = false → HS (bx P w K mg base ["thing", "part"] "tuple_of" (top 4) f cdv A outer s H E) I (startE ["thing", "part"] [d]) (defBody (top 4)) (oRet I d) := fun n hn hq =>
      hs_ifF (pb_val (pd_isi2 (n := n) B.isi (pd_var 0) hn B.lst bt_list (by decide) B.tup bt_tuple (by decide) hq)) (hs_ret (pd_var 0))
    cases d with
    | non => exact hc _ rfl rfl
    | bl _ => exact hc _ rfl rfl
    | int _ => exact hc _ rfl rfl
    | str _ => exact hc _ rfl rfl
    | ref _ => cases ht
    | lst _ => cases ht
    | tup ds =>
      have h' : (decide (ds.length ≤ 1000) && tkL ds) = true := ht
      rw [Bool.and_eq_true, decide_eq_true_eq] at h'
      have hdl : depL ds ≤ k := by
        have : depL ds + 1 ≤ k + 1 := hd
        omega
      refine hs_ifT (pb_val (pd_isi2 (n := "tuple") B.isi (pd_var 0) rfl B.lst bt_list (by decide) B.tup bt_tuple (by decide) (by decide))) ?_ noNx_ret
      refine hs_ret (pd_tupleL B.tup (PD.to (pd_lcT (own := [("part", 1)]) (ds := ds) (envs := fun d => (wipeE (startE ["thing", "part"] [.tup ds]) [1]).set 1 (some d)) (keep := fun _ => true) (out := fun d => d) rfl sc_tuple_of.nd (pd_var 0) (blkOk_by (N := ["thing", "part"]) (sc := defScope (top 4)) (by decide +kernel))
        (fun _ _ _ _ _ => pg_name (i := 1) sc_tuple_of.nd rfl (Or.inl rfl)) (fun d _ => tg_name 1) (fun _ _ _ _ _ d _ => ptd_nil) (fun s H C cl fp d hd _ => ?_) (fun d hd _ => D.tk_fix (tkL_mem h'.2 d hd)) (by rw [sizeLine_eq]; omega)) ?_))
      · exact pd_call ih pass0 hr (Nat.le_refl _) (pds_cons (pd_var 1) pds_nil) ⟨rfl, tkL_mem h'.2 d hd, depL_mem hdl d hd⟩
      · simp
end
end Sd
namespace Sd
open PySem L2
/-! ### a def's own lists, grown in place -/
/-- the heap without a -/
def Hwo (H : Hp) (a : Addr) : Hp := fun b => if b = a then none else H b
theorem Hwo_ne {H : Hp} {a b : Addr} (h : b ≠ a) : Hwo H a b = H b := if_neg h
theorem Hwo_self {H : Hp} {a : Addr} : Hwo H a a = none := if_pos rfl
theorem Hwo_upd {H : Hp} {a : Addr} {o : HO} : Hwo (upd H a o) a = Hwo H a := by
  funext b
  unfold Hwo
  by_cases h : b = a
  · rw [if_pos h, if_pos h]
  · rw [if_neg h, if_neg h, upd_ne h]
theorem _root_.L2.Same.wo {H H' : Hp} (s : Same H H') (a : Addr) : Same (Hwo H a) (Hwo H' a) := fun b o e => by
  by_cases h : b = a
  · subst h; rw [Hwo_self] at e; cases e
  · rw [Hwo_ne h] at e ⊢; exact s b o e
theorem _root_.L2.Same.of_wo {H H' : Hp} {a : Addr} (s : Same H H') (h : H a = none) : Same H (Hwo H' a) := fun b o e => by
  rw [Hwo_ne (ne_of_none e h)]; exact s b o e
theorem _root_.L2.Same.wo_le {H : Hp} {a : Addr} : Same (Hwo H a) H := fun b o e => by
  by_cases h : b = a
  · subst h; rw [Hwo_self] at e; cases e
  · rw [Hwo_ne h] at e; exact e
/-- a list of the def's own at p, apart from what I says -/
def Asr.cell (I : Asr) (p : Addr) (ds : List D) : Asr :=
  ⟨fun H => I.p (Hwo H p) ∧ ∃ xs, H p = some (.lst xs) ∧ RepL (Hwo H p) ds xs, fun s h => ⟨I.mono (s.wo p) h.1, let ⟨xs, a, b⟩ := h.2; ⟨xs, s _ _ a, b.mono (s.wo p)⟩⟩⟩
theorem Asr.cell_le {I : Asr} {p : Addr} {ds : List D} {H : Hp} (h : (I.cell p ds).p H) : I.p H := I.mono Same.wo_le h.1
theorem Asr.cell_rep {I : Asr} {p : Addr} {ds : List D} {H : Hp} (h : (I.cell p ds).p H) : Rep H (.lst ds) (.ref p) := let ⟨xs, a, b⟩ := h.2; Rep.lst_of a (b.mono Same.wo_le)
/-- tuples, numbers: no list, no address -/
theorem Rep.wo {H : Hp} {p : Addr} {xs : List V} (hp : H p = some (.lst xs)) : Tr H (Hwo H p) := fun a ys e => by rw [Hwo_ne (ne_of e hp (by intro q; cases q))]; exact e
theorem EnvR.tr {H H' : Hp} {σ : St} {env : Ev} (t : Tr H H') (h : EnvR H σ env) (hf : ∀ (i : Nat) d, env[i]? = some (some d) → d.fix = true) : EnvR H' σ env :=
  ⟨h.1, fun i d e => let ⟨v, a, b⟩ := h.2 i d e; ⟨v, a, b.tr t (hf i d e)⟩⟩
/-- no slot holds a list -/
def fixE : Ev → Bool
  | [] => true
  | none :: r => fixE r
  | some d :: r => d.fix && fixE r
theorem fixE_get : ∀ {env : Ev}, fixE env = true → ∀ (i : Nat) d, env[i]? = some (some d) → d.fix = true
  | [], _, i, d, e => by simp at e
  | none :: r, h, i, d, e => by
    cases i with
    | zero => simp at e
    | succ i => exact fixE_get (env := r) h i d (by simpa using e)
  | some x :: r, h, i, d, e => by
    have h' : (x.fix && fixE r) = true := h
    rw [Bool.and_eq_true] at h'
    cases i with
    | zero => simp at e; subst e; exact h'.1
    | succ i => exact fixE_get (env := r) h'.2 i d (by simpa using e)
/-- .. slot by slot -/
inductive FixL : Ev → Prop
  | nil : FixL []
  | non {r : Ev} (t : FixL r) : FixL (none :: r)
  | cons {d : D} {r : Ev} (h : d.fix = true) (t : FixL r) : FixL (some d :: r)
theorem fixE_of {env : Ev} (h : FixL env) : fixE env = true := by
  induction h with
  | nil => rfl
  | non _ ih => exact ih
  | @cons d r h _ ih =>
    show (d.fix && fixE r) = true
    rw [h, ih]; rfl
/-- an expression that gives a NEW list -/
def tL (I : Asr) (env : Ev) (ds : List D) : TE := fun σ H Q => I.p H ∧ EnvR H σ env ∧ ∀ p xs H', Same H H' → H p = none → H' p = some (.lst xs) → RepL H' ds xs → Q (.ref p) H'
abbrev PL (X : Cx) (I : Asr) (env : Ev) (e : Expr) (ds : List D) : Prop := PE X e (tL I env ds)
/-- less is known of the slots -/
inductive Sub : Ev → Ev → Prop
  | nil : Sub [] []
  | same {x : Option D} {a b : Ev} (h : Sub a b) : Sub (x :: a) (x :: b)
  | skip {x : Option D} {a b : Ev} (h : Sub a b) : Sub (none :: a) (x :: b)
theorem Sub.length {a b : Ev} (h : Sub a b) : a.length = b.length := by induction h <;> simp_all
theorem Sub.get {a b : Ev} (h : Sub a b) : ∀ (i : Nat) (d : D), a[i]? = some (some d) → b[i]? = some (some d) := by
  induction h with
  | nil => intro i d e; exact e
  | same _ ih =>
    intro i d e
    cases i with
    | zero => exact e
    | succ i => exact ih i d e
  | skip _ ih =>
    intro i d e
    cases i with
    | zero => simp at e
    | succ i => exact ih i d e
theorem EnvR.sub {H : Hp} {σ : St} {a b : Ev} (h : EnvR H σ b) (s : Sub a b) : EnvR H σ a := h.weak s.length s.get
section
variable {X : Cx} {I I' J : Asr} {env env' env2 : Ev} {e a b c tg : Expr} {es : List Expr} {st : Stmt} {rest body orelse : List Stmt} {d d1 : D} {ds ds2 : List D} {pos pos' p2 : Pos} {x : Str} {O O' : Ends → Prop} {k j : Nat} {p : Addr}
theorem pl_lst (h : PDs X I env es ds) (hz : ds.length ≤ sizeLine := by exact zz rfl) : PL X I env (.List es pos) ds :=
  (pe_lst h).wk fun σ H Q ⟨hI, hE, k⟩ => ⟨hI, hE, fun xs H1 s1 r1 => ⟨by rw [r1.length]; exact hz, fun p hp => k p xs _ (s1.trans (Same.new hp)) (s1.free hp) upd_same (r1.mono (Same.new hp))⟩⟩
theorem pl_cat (ha : PD X I env a (.lst ds)) (hb : PD X I env b (.lst ds2)) (hz : ds.length + ds2.length ≤ sizeLine) : PL X I env (.BinOp a .Add b pos) (ds ++ ds2) :=
  (pe_op op_cat ha hb).wk fun σ H Q ⟨hI, hE, k⟩ => ⟨hI, hE, fun x H1 s1 r1 => ⟨I.mono s1 hI, hE.mono s1, fun y H2 s2 r2 => by
    obtain ⟨q, ys, e2, hq, hl⟩ := (r1.mono s2).lst_inv
    obtain ⟨q', ys', e2', hq', hl'⟩ := r2.lst_inv
    exact ⟨q, q', ys, ys', e2, e2', hq, hq', by rw [hl.length, hl'.length]; exact hz, fun p hp => k p _ _ ((s1.trans s2).trans (Same.new hp)) ((s1.trans s2).free hp) upd_same ((hl.append hl').mono (Same.new hp))⟩⟩⟩
theorem pd_new (h : PL X I env e ds) : PD X I env e (.lst ds) := h.wk fun σ H Q ⟨hI, hE, k⟩ => ⟨hI, hE, fun p xs H' s _ hp r => k _ H' s (Rep.lst_of hp r)⟩
/-- x = a new list: from here on it stands at p, apart -/
theorem hs_new (i : Nat) (hN : X.N.Nodup) (h : PL X I env e ds) (hf : fixL ds = true) (hr : ∀ p, HS X (I.cell p ds) (env.set i (some (.ref p))) rest O) (hi : X.N[i]? = some x := by rfl) (hx : Loc X.env.scope x := by first | exact Or.inl rfl | exact Or.inr rfl)
    (hs : swapsWith e (some (.Name x pos')) pos.line X.env = pure false := by rfl) (hf' : X.fn x = true ∨ X.env.scope.names.lookup x = some .local := by first | exact .inl rfl | exact .inr rfl) : HS X I env (.Assign [.Name x pos'] e pos :: rest) O :=
  (pss_cons (ps_set hN hi hx h hs hf') (L2.PSs.wk (t := fun D σ H => ∃ p, True ∧ tS (I.cell p ds) (env.set i (some (.ref p))) O D σ H) (pss_exI fun p _ => hr p) (fun _ _ _ h => h))).wk fun D σ H ⟨hI, hE, k⟩ => ⟨hI, hE, fun p xs H' s hp hx r =>
    ⟨p, trivial, ⟨I.mono (s.of_wo hp) hI, xs, hx, r.tr (Rep.wo hx) hf⟩, (hE.mono s).set rfl, k⟩⟩
/-- the list in slot i, read -/
theorem pd_cell (i : Nat) (hd : env[i]? = some (some (.ref p)) := by rfl) (hN : X.N[i]? = some x := by rfl) (hv : Vis X.env.scope x := by first | exact Or.inl rfl | exact Or.inr (Or.inl rfl) | exact Or.inr (Or.inr rfl)) (hdb : (x == ("__debug__" : Str)) = false := by decide)
    (hcd : (x == ("__classdict__" : Str)) = false := by decide) : PD X (I.cell p ds) env (.Name x pos) (.lst ds) :=
  (pv i hN hv hdb hcd).wk fun σ H Q ⟨hI, hE, k⟩ => let ⟨v, h1, h2⟩ := hE.2 i _ hd; ⟨v, h1, k v H (Same.refl H) (by
    have e : v = .ref p := h2
    subst e
    exact Asr.cell_rep hI)⟩
theorem Tr.updL {H : Hp} {p : Addr} {xs ys : List V} (h : H p = some (.lst xs)) : Tr H (upd H p (.lst ys)) := fun a zs e => by rw [upd_ne (ne_of e h (by intro q; cases q))]; exact e
/-- an assertion that only leans on tuples -/
def TrM (R : Asr) : Prop := ∀ H H', Tr H H' → R.p H → R.p H'
def top_ : Asr := ⟨fun _ => True, fun _ h => h⟩
theorem trM_top : TrM top_ := fun _ _ _ h => h
theorem trM_atT {a : Addr} {xs : List V} (hf : fixL ds = true) : TrM (atT a xs ds) := fun H H' t h => ⟨t _ _ h.1, h.2.tr t hf⟩
theorem trM_and {R S : Asr} (h1 : TrM R) (h2 : TrM S) : TrM (R.and S) := fun H H' t h => ⟨h1 H H' t h.1, h2 H H' t h.2⟩
/-- e.append(d), e the list at p (and no slot holds another list) -/
theorem hs_app {R : Asr} {o : Expr} {apos : Pos} (ho : PD X ((I.cell p ds).and R) env o (.ref p)) (ha : PD X ((I.cell p ds).and R) env a d) (hf : d.fix = true) (hE0 : fixE env = true) (hz : ds.length < 1000) (hR : TrM R) (hr : HS X ((I.cell p (ds ++ [d])).and R) env rest O)
    (hs : swapsWith (.Call (.Attribute o "append" apos) [a] [] p2) none pos.line X.env = pure false := by rfl) (hbase : attributeBase o "append" X.env (eval o X.env) = eval o X.env := by rfl)
    (hfew : ((backTo p2 (starEach (a :: []) X.env)).all (fun x => !x.1) && (backToKw p2 (keywordEach [] X.env)).all (fun x => x.1.isSome)
      && decide ((a :: ([] : List Expr)).length + ([] : List Keyword).length + (if ([] : List Keyword).isEmpty then 0 else 1) < 30)) = true := by rfl)
    (hline : (apos.endLine == p2.line) = true := by rfl) (hst : starEach (a :: []) X.env = (false, eval a X.env) :: starEach [] X.env := by rfl) (hplain : (backTo p2 (starEach [] X.env)).any (·.1) = false := by rfl) :
    HS X ((I.cell p ds).and R) env (.Expr (.Call (.Attribute o "append" apos) [a] [] p2) pos :: rest) O :=
  (pss_cons (ps_expr (pe_bm PySem.F.plainAttrs_list PySem.F.slot_list_append PySem.F.type_list_append mt_append ho (pds_cons ha pds_nil hst) hbase hfew hline hst hplain) hs) hr).wk fun D σ H ⟨hI, hE, k⟩ => ⟨hI, hE, fun x H1 s1 r1 => by
    have e : x = .ref p := r1
    subst e
    have hI1 := ((I.cell p ds).and R).mono s1 hI
    obtain ⟨⟨_, xs0, hx0, _⟩, _⟩ := id hI1
    refine ⟨.inl ⟨rfl, xs0, SqL.of hx0⟩, hI1, hE.mono s1, fun vs H2 s2 r2 => ?_⟩
    obtain ⟨v, e2, rv⟩ := r2.one
    subst e2
    obtain ⟨⟨hw, xs, hx, rx⟩, hr2⟩ := ((I.cell p ds).and R).mono s2 hI1
    refine ⟨p, xs, v, rfl, rfl, hx, by rw [rx.length, sizeLine_eq]; omega, ⟨⟨?_, xs ++ [v], upd_same, ?_⟩, hR _ _ (Tr.updL hx) hr2⟩, ?_, k⟩
    · rw [Hwo_upd]; exact hw
    · rw [Hwo_upd]; exact rx.snoc (rv.tr (Rep.wo hx) hf)
    · exact ((hE.mono s1).mono s2).tr (Tr.updL hx) (fixE_get hE0)⟩
/-- behind a loop, a branch: less of the slots is known -/
theorem oNx_sub {D : Ends} (s : Sub env env2) (h : oNx I env D) : oNx I env2 D := fun σ H hI hE => h σ H hI (hE.sub s)
theorem oNC_sub {D : Ends} (s : Sub env env2) (h : oNC I env D) : oNC I env2 D := ⟨fun σ H hI hE => h.1 σ H hI (hE.sub s), fun σ H hI hE => h.2 σ H hI (hE.sub s)⟩
theorem oNC_le {D : Ends} (hI : ∀ H, I'.p H → I.p H) (h : oNC I env D) : oNC I' env D := ⟨fun σ H h1 hE => h.1 σ H (hI H h1) hE, fun σ H h1 hE => h.2 σ H (hI H h1) hE⟩
theorem oRet_le {D : Ends} (hI : ∀ H, I'.p H → I.p H) (h : oRet I d D) : oRet I' d D := fun v H h1 r => h v H (hI H h1) r
theorem oNx_le {D : Ends} (hI : ∀ H, I'.p H → I.p H) (h : oNx I env D) : oNx I' env D := fun σ H h1 hE => h σ H (hI H h1) hE
/-- [elt for x in a tuple if ..], x in slot i -/
theorem pd_lcN {x : Str} {i : Nat} {elt iter : Expr} {ifs : List Expr} {scope : Scope} {xp pos : Pos} {keep : D → Bool} {out : D → D} (hc : X.calm = true) (hN : X.N.Nodup) (hi : PD X I env iter (.tup ds)) (ok : BlkOk X.N X.env.scope scope [(x, i)])
    (ht : ∀ (s : Shared) (H : Hp) (C : Addr) (cl : List (Str × Addr)) (fp : List Addr), ∀ d ∈ ds, PTs (X.blk s H scope (compEnvC scope cl C X.env) fp) ifs (tT I ((wipeE env [i]).set i (some d)) (keep d)))
    (he : ∀ (s : Shared) (H : Hp) (C : Addr) (cl : List (Str × Addr)) (fp : List Addr), ∀ d ∈ ds, keep d = true → PD (X.blk s H scope (compEnvC scope cl C X.env) fp) I ((wipeE env [i]).set i (some d)) elt (out d))
    (hf : ∀ d ∈ ds, keep d = true → (out d).fix = true) (hz : ds.length ≤ sizeLine) (hl : ∀ (s : Shared) (H : Hp) (C : Addr) (cl : List (Str × Addr)) (fp : List Addr), (X.blk s H scope (compEnvC scope cl C X.env) fp).env.scope.names.lookup x = some .local := by intro _ _ _ _ _; rfl)
    (hs : ∀ x, foldedSetIterable iter X.env x = pure x := by intro _; rfl) : PD X I env (.ListComp elt [⟨.Name x xp, iter, ifs, 0⟩] scope pos) (.lst ((ds.filter keep).map out)) :=
  pd_lcT (own := [(x, i)]) (envs := fun d => (wipeE env [i]).set i (some d)) hc hN hi ok (fun s H C cl fp => pg_name (i := i) hN (ok.ix (x, i) List.mem_cons_self) (Or.inl (hl s H C cl fp)) (.inr (hl s H C cl fp))) (fun d _ => tg_name i) ht he hf hz hs
theorem pd_lcNL {x : Str} {i : Nat} {elt iter : Expr} {ifs : List Expr} {scope : Scope} {xp pos : Pos} {keep : D → Bool} {out : D → D} (hc : X.calm = true) (hN : X.N.Nodup) (hi : PD X I env iter (.lst ds)) (ok : BlkOk X.N X.env.scope scope [(x, i)])
    (ht : ∀ (s : Shared) (H : Hp) (C : Addr) (cl : List (Str × Addr)) (fp : List Addr), ∀ d ∈ ds, PTs (X.blk s H scope (compEnvC scope cl C X.env) fp) ifs (tT I ((wipeE env [i]).set i (some d)) (keep d)))
    (he : ∀ (s : Shared) (H : Hp) (C : Addr) (cl : List (Str × Addr)) (fp : List Addr), ∀ d ∈ ds, keep d = true → PD (X.blk s H scope (compEnvC scope cl C X.env) fp) I ((wipeE env [i]).set i (some d)) elt (out d))
    (hf : ∀ d ∈ ds, keep d = true → (out d).fix = true) (hz : ds.length ≤ sizeLine) (hl : ∀ (s : Shared) (H : Hp) (C : Addr) (cl : List (Str × Addr)) (fp : List Addr), (X.blk s H scope (compEnvC scope cl C X.env) fp).env.scope.names.lookup x = some .local := by intro _ _ _ _ _; rfl)
    (hs : ∀ x, foldedSetIterable iter X.env x = pure x := by intro _; rfl) : PD X I env (.ListComp elt [⟨.Name x xp, iter, ifs, 0⟩] scope pos) (.lst ((ds.filter keep).map out)) :=
  pd_lcL (own := [(x, i)]) (envs := fun d => (wipeE env [i]).set i (some d)) hc hN hi ok (fun s H C cl fp => pg_name (i := i) hN (ok.ix (x, i) List.mem_cons_self) (Or.inl (hl s H C cl fp)) (.inr (hl s H C cl fp))) (fun d _ => tg_name i) ht he hf hz hs
theorem hs_retC (h : PD X (I.cell p ds) env e d) : HS X (I.cell p ds) env (.Return (some e) pos :: rest) (oRet I d) := (hs_ret h).wk (fun _ h => h) fun _ q => oRet_le (fun _ => Asr.cell_le) q
/-- a starred target -/
theorem pgsd_star (h1 : PG X e (tG I d env env')) (h2 : PGs X es (tGs I ds env' env2)) (hs : (assignEach (.Starred e pos :: es) X.env).map (·.2) = assign e X.env :: (assignEach es X.env).map (·.2) := by rfl) : PGs X (.Starred e pos :: es) (tGs I (d :: ds) env env2) := by
  refine ⟨fun pins s σ H vs us Q J r h => ?_⟩
  obtain ⟨hI, rr, hE, k⟩ := h
  unfold RepL at rr
  obtain ⟨v, r', e1, r1, r2⟩ := rr
  subst e1
  cases r with
  | cons rv rest =>
    rw [hs]
    refine PyProof.Rows.assignInOrder_cons (thn (h1.run pins s σ H v _ (fun σ1 H1 => tGs I ds env' env2 r' σ1 H1 Q) J rv ⟨hI, r1, hE, fun σ1 H1 s1 hE1 => ⟨I.mono s1 hI, r2.mono s1, hE1, fun σ2 H2 s2 hE2 => k σ2 H2 (s1.trans s2) hE2⟩⟩) fun _ s1 ⟨σ1, H1, I1, q1⟩ => ?_)
    exact h2.run pins s1 σ1 H1 r' _ Q I1 rest q1
end
end Sd
/-! The abstract run: a channel's sheet is told by its number and its phase; each lock of a run is the one lock of its channel. Plain Lean. -/
namespace Sd
inductive Ph where | st | lk | pd
  deriving DecidableEq, Repr
inductive Cg where | pass | add | pay | drop
  deriving DecidableEq, Repr
structure Bk where
  num : Nat
  ph : Ph
  off : Option Ph
  asked : Bool
  wan : List Cg
  deriving DecidableEq, Repr
inductive Lt where
  | offer (n : Nat) (p : Ph) | agree (n : Nat) (p : Ph) | turn (n : Nat) | secret | pass
  deriving DecidableEq, Repr
/-- the side of the payer (pay) or the payee of a channel, fl: sides exchanged -/
def sideN (fl pay : Bool) : Nat := if fl == pay then 1 else 0
def inTurn (side num : Nat) : Bool := (num + 1) % 2 == side
/-- a change that the payer (pay) or the payee offers: the phase behind it -/
def chg (fit pay : Bool) (ph : Ph) : Cg → Option Ph
  | .pass => some ph
  | .add => if pay && (ph != .lk) && fit then some .lk else none
  | .pay => if pay && (ph == .lk) then some .pd else none
  | .drop => if !pay && (ph == .lk) then some .st else none
def cands (pay : Bool) (ph ph' : Ph) : List Cg := [.pass] ++ (if ph' == .lk then [.add] else []) ++ (if ph == .lk then [if pay then .pay else .drop] else [])
def conOr (fit pay : Bool) (n : Nat) (ph : Ph) (n' : Nat) (ph' : Ph) : Option Cg := (cands pay ph ph').find? fun c => (n' == n + 1) && (chg fit pay ph c == some ph')
/-- a letter of the other person: the book behind it, what is agreed to -/
def takenA (fl fit pay : Bool) (b : Bk) : Lt → Bk × Option (Nat × Ph)
  | .offer n p =>
    if n = b.num ∧ p = b.ph then (b, some (n, p))
    else if !inTurn (sideN fl pay) b.num && (conOr fit (!pay) b.num b.ph n p).isSome then (⟨n, p, none, false, b.wan⟩, some (n, p)) else (b, none)
  | .agree n p => if b.off = some p ∧ n = b.num + 1 then (⟨n, p, none, false, b.wan⟩, none) else (b, none)
  | .turn n => if n = b.num && inTurn (sideN fl pay) b.num && b.off.isNone then ({ b with asked := true }, none) else (b, none)
  | _ => (b, none)
def firstFit (fit pay : Bool) (ph : Ph) : List Cg → Option (Ph × List Cg)
  | [] => none
  | c :: r => match chg fit pay ph c with
    | some p => some (p, r)
    | none => firstFit fit pay ph r
def atLook (fl fit pay : Bool) (b : Bk) (w : List Cg) : Bk × Option Lt :=
  match b.off with
  | some p => ({ b with wan := w }, some (.offer (b.num + 1) p))
  | none =>
    if !inTurn (sideN fl pay) b.num then ({ b with wan := w }, if w.isEmpty then none else some (.turn b.num))
    else match firstFit fit pay b.ph w with
      | some (p, left) => (⟨b.num, b.ph, some p, false, left⟩, some (.offer (b.num + 1) p))
      | none => if b.asked then (⟨b.num, b.ph, some b.ph, false, []⟩, some (.offer (b.num + 1) b.ph)) else ({ b with wan := [] }, none)
/-- a mind: secret known, the way on told, a pair made, the wish open; the books of the channel in, out -/
structure Mi where
  sec : Bool
  onw : Bool
  pair : Bool
  wish : Bool
  bi : Bk
  bo : Bk
  deriving DecidableEq, Repr
/-- what a person is: how many channels there are, which person, sides, whether the amount fits, the gap is enough, its ask is met -/
structure Cf where
  n : Nat
  p : Nat
  fi : Bool
  fo : Bool
  ti : Bool
  to : Bool
  gap : Bool
  ask : Bool
  deriving DecidableEq, Repr
/-- a lock's end, seen from a moment -/
structure Tc where
  early : Bool
  late : Bool
  openb : Bool
  before : Bool
  close : Bool
  deriving DecidableEq, Repr
/-- the moment: the wish is due; the ends of the channels in, out -/
structure Tm where
  due : Bool
  i : Tc
  o : Tc
  deriving DecidableEq, Repr
/-- a look as it goes -/
structure Lo where
  nsec : Nat
  onw : Bool
  pair : Bool
  wish : Bool
  bi : Bk
  bo : Bk
  wi : List Cg
  wo : List Cg
  pi : List Cg
  po : List Cg
  passing : Bool
  out : List (Bool × Lt)
  deriving DecidableEq, Repr
def lo0 (m : Mi) : Lo := ⟨if m.sec then 1 else 0, m.onw, m.pair, m.wish, m.bi, m.bo, [], [], [], [], false, []⟩
def answers (o : Bool) : Option (Nat × Ph) → List (Bool × Lt)
  | none => []
  | some (n, p) => [(o, .agree n p)]
/-- (true, l): the letter l came from the person ahead, on the channel in -/
def hearA (c : Cf) (s : Lo) : Bool × Lt → Lo
  | (_, .secret) => { s with nsec := s.nsec + 1 }
  | (_, .pass) => { s with onw := true }
  | (true, l) => let r := takenA c.fi c.ti false s.bi l; { s with bi := r.1, out := s.out ++ answers false r.2 }
  | (false, l) => let r := takenA c.fo c.to true s.bo l; { s with bo := r.1, out := s.out ++ answers true r.2 }
def hasIn (c : Cf) : Bool := decide (0 < c.p)
def hasOut (c : Cf) : Bool := decide (c.p < c.n)
def addsOf (b : Bk) (before : Bool) : List Cg := if before then b.wan.filter (· == .add) else []
def letsA (fit : Bool) (b : Bk) (w : List Cg) : Bool := fit && (b.ph != .lk) && (b.off != some .lk) && !w.contains .add
def wish1 (c : Cf) (t : Tm) (s : Lo) : Lo := { s with wi := addsOf s.bi t.i.before, pi := addsOf s.bi t.i.before, wo := addsOf s.bo t.o.before, po := addsOf s.bo t.o.before }
def wish2 (c : Cf) (t : Tm) (s : Lo) : Lo :=
  if s.wish && t.due then
    if t.o.before && letsA c.to s.bo s.wo then { s with wish := false, wo := s.wo ++ [.add], po := s.po ++ [.add], pair := true } else { s with wish := false }
  else s
def openOut (c : Cf) (t : Tm) (s : Lo) : Bool := hasOut c && (s.bo.ph == .lk || s.bo.off == some .lk) && t.o.openb
def knowsA (c : Cf) (s : Lo) : Bool := decide (0 < s.nsec) || c.ask
inductive An where | drop | secret | show | hold | pass | wait
  deriving DecidableEq, Repr
def answerA (early late knows bound onw : Bool) : An :=
  if late then .drop else if knows then (if early then .secret else .show) else if bound then .hold else if onw && early then .pass else if early then .wait else .drop
def lastLk (b : Bk) : Bool := (match b.off with | none => b.ph | some p => p) == .lk
def treatA (c : Cf) (t : Tm) (s : Lo) : Lo :=
  if s.bi.ph == .lk then
    let onw := !s.pair && s.onw && letsA c.to s.bo s.wo && c.gap
    match answerA t.i.early t.i.late (knowsA c s) (openOut c t s) onw with
    | .secret => { s with nsec := s.nsec + 1, out := s.out ++ [(false, .secret)] }
    | .pass => { s with wo := s.wo ++ [.add], passing := true }
    | .drop => if lastLk s.bi then { s with wi := s.wi ++ [.drop] } else s
    | .wait => if s.pair && lastLk s.bi then { s with wi := s.wi ++ [.drop] } else s
    | _ => s
  else s
def settleA (c : Cf) (t : Tm) (s : Lo) : Lo :=
  if s.bo.ph == .lk && decide (0 < s.nsec) && t.o.before && (!s.pair || c.p == 0 || (s.bi.ph == .lk && t.i.early)) && lastLk s.bo then { s with wo := s.wo ++ [.pay] } else s
def olet (o : Bool) : Option Lt → List (Bool × Lt)
  | none => []
  | some l => [(o, l)]
def offerI (c : Cf) (s : Lo) : Lo :=
  let r := atLook c.fi c.ti false s.bi s.wi
  { s with bi := { r.1 with wan := r.1.wan.filter fun x => s.pi.contains x }, out := s.out ++ olet false r.2 }
def offerO (c : Cf) (s : Lo) : Lo :=
  let r := atLook c.fo c.to true s.bo s.wo
  { s with bo := { r.1 with wan := r.1.wan.filter fun x => s.po.contains x }, out := s.out ++ olet true r.2, pair := s.pair || (s.passing && r.1.off == some .lk) }
def sendA (c : Cf) (t : Tm) (s : Lo) : Lo := if s.pair && decide (c.p + 1 < c.n) && openOut c t s then { s with out := s.out ++ [(true, .pass)] } else s
def closes (c : Cf) (t : Tm) (s : Lo) : Bool := s.bi.ph == .lk && t.i.close && (knowsA c s || openOut c t s)
def when (b : Bool) (f : Lo → Lo) (s : Lo) : Lo := if b then f s else s
def heard (c : Cf) (m : Mi) (box : List (Bool × Lt)) : Lo := box.foldl (hearA c) (lo0 m)
def work (c : Cf) (t : Tm) (s : Lo) : Lo :=
  let s := wish2 c t (wish1 c t s)
  let s := when (hasIn c) (treatA c t) s
  let s := when (hasOut c) (settleA c t) s
  let s := when (hasIn c) (offerI c) s
  let s := when (hasOut c) (offerO c) s
  when (hasOut c) (sendA c t) s
def mind (s : Lo) : Mi := ⟨decide (0 < s.nsec), s.onw, s.pair, s.wish, s.bi, s.bo⟩
/-- nothing is asked of a sum that is not told; letters are of their place; nothing is closed -/
def sane (c : Cf) (t : Tm) (m : Mi) (box : List (Bool × Lt)) : Bool :=
  let s := heard c m box
  box.all (fun x => match x with | (true, l) => hasIn c && (l != .pass || hasOut c) | (false, l) => hasOut c && l != .pass) && s.bo.ph != .pd || true
def lookA (c : Cf) (t : Tm) (m : Mi) (box : List (Bool × Lt)) : Mi × List (Bool × Lt) :=
  let s := work c t (heard c m box)
  (mind s, s.out)
/-! ### the run -/
structure Run where
  n : Nat
  fl : List Bool
  fit : Bool
  gap : Bool
  ask : Bool
def Run.cf (r : Run) (p : Nat) : Cf := ⟨r.n, p, r.fl.getD (p - 1) false, r.fl.getD p false, r.fit, r.fit, r.gap, r.ask && p == r.n⟩
/-- ends in looks: (last look early, last look not late, first look not ahead of the end) -/
abbrev Eds := List (Nat × Nat × Nat)
def tc (e : Nat × Nat × Nat) (k : Nat) : Tc := ⟨decide (k ≤ e.1), decide (e.2.1 < k), decide (k < e.2.2), decide (k < e.2.2), k == e.1⟩
def tm (es : Eds) (p k : Nat) : Tm := ⟨decide (0 < k), tc (es.getD (p - 1) (0, 0, 0)) k, tc (es.getD p (0, 0, 0)) k⟩
abbrev Wd := List (Mi × List (Bool × Lt))
def b0 : Bk := ⟨0, .st, none, false, []⟩
def m0 (p : Nat) : Mi := ⟨false, false, false, p == 0, b0, b0⟩
def w0 (n : Nat) : Wd := (List.range (n + 1)).map fun p => (m0 p, [])
def step (r : Run) (es : Eds) (k : Nat) (w : Wd) : Wd :=
  let q := w.zipIdx.map fun (x, p) => lookA (r.cf p) (tm es p k) x.1 x.2
  q.zipIdx.map fun (x, p) => (x.1, (if p = 0 then [] else ((q.getD (p - 1) (m0 0, [])).2.filter (·.1)).map fun y => (true, y.2)) ++ (((q.getD (p + 1) (m0 0, [])).2.filter (!·.1)).map fun y => (false, y.2)))
def run (r : Run) (es : Eds) : Nat → Wd
  | 0 => w0 r.n
  | k + 1 => step r es k (run r es k)
def okEnd (r : Run) (full : Bool) (w : Wd) : Bool :=
  w.zipIdx.all fun (x, p) => ((p == 0) || x.1.bi.ph == (if full then .pd else .st)) && ((p == r.n) || x.1.bo.ph == (if full then .pd else .st)) && ((p != 0) || (x.1.sec == full))
end Sd
namespace Sd
open PySem L2
/-! ### the abstract data as Python's -/
/-- a channel: its place, the amount, what the payer's, the payee's side has at first, the end of its lock, whether the sides are exchanged -/
structure Ck where
  k : Nat
  a : Int
  sp : Int
  so : Int
  en : Int
  fl : Bool
def Ck.fit (c : Ck) : Bool := decide (c.a ≤ c.sp)
def sideI (fl pay : Bool) : Int := if fl == pay then 1 else 0
def eImg : D := .tup [.str "image", .int 7]
def eLock (c : Ck) : D := .tup [.int (sideI c.fl true), .int c.a, eImg, .int c.en]
def two (fl : Bool) (x y : Int) : D := if fl then .tup [.int y, .int x] else .tup [.int x, .int y]
def eSums (c : Ck) : Ph → D
  | .st => two c.fl c.sp c.so
  | .lk => two c.fl (c.sp - c.a) c.so
  | .pd => two c.fl (c.sp - c.a) (c.so + c.a)
def eLocks (c : Ck) : Ph → D
  | .lk => .tup [eLock c]
  | _ => .tup []
def eSheet (c : Ck) (n : Nat) (p : Ph) : D := .tup [.int c.k, .int n, eSums c p, eLocks c p]
def eCg (c : Ck) : Cg → D
  | .pass => .tup [.str "pass"]
  | .add => .tup [.str "add", eLock c]
  | .pay => .tup [.str "pay", eImg]
  | .drop => .tup [.str "drop", eImg]
def eOff (c : Ck) (n : Nat) : Option Ph → D
  | none => .non
  | some p => eSheet c (n + 1) p
def eBk (c : Ck) (pay : Bool) (b : Bk) : D := .tup [.int c.k, .int (sideI c.fl pay), eSheet c b.num b.ph, eOff c b.num b.off, .bl b.asked, .tup (b.wan.map (eCg c))]
theorem two_eq (fl : Bool) (x y x' y' : Int) : D.eqb (two fl x y) (two fl x' y') = decide (x = x' ∧ y = y') := by
  cases fl <;> simp [two, D.eqb, eqbL, Bool.and_comm]
theorem eqb_img : D.eqb eImg eImg = true := by simp [eImg, D.eqb, eqbL]
theorem eqb_lock (c : Ck) : D.eqb (eLock c) (eLock c) = true := by simp [eLock, D.eqb, eqbL, eqb_img]
theorem eqb_sheet (c : Ck) (ha : 1 ≤ c.a) (n n' : Nat) (p p' : Ph) : D.eqb (eSheet c n p) (eSheet c n' p') = decide (n = n' ∧ p = p') := by
  have h0 : ¬ (c.so = c.so + c.a) := by omega
  have h1 : ¬ (c.so + c.a = c.so) := by omega
  have h2 : ¬ (c.sp = c.sp - c.a) := by omega
  have h3 : ¬ (c.sp - c.a = c.sp) := by omega
  have hn : decide ((n : Int) = (n' : Int)) = decide (n = n') := by
    by_cases h : n = n'
    · subst h; simp
    · rw [decide_eq_false h, decide_eq_false (by omega)]
  by_cases h : n = n'
  · subst h
    cases p <;> cases p' <;> simp [eSheet, eSums, eLocks, D.eqb, eqbL, two_eq, eqb_lock, h0, h1, h2, h3]
  · have h' : ¬ ((n : Int) = (n' : Int)) := by omega
    simp [eSheet, D.eqb, eqbL, h, h']
theorem shp_img : eImg.shp = true := by decide +kernel
end Sd
namespace Sd
open PySem L2
/-! ### channels, sheets -/
def eChan (c : Ck) : D := if c.fl then .tup [.int (c.k + 1), .int c.k, .int c.so, .int c.sp] else .tup [.int c.k, .int (c.k + 1), .int c.sp, .int c.so]
def eNet (cs : List Ck) : D := .tup (cs.map eChan)
/-- the channels of a row, by place -/
def OkNet (cs : List Ck) : Prop := cs.length ≤ 10 ∧ ∀ (i : Nat) c, cs[i]? = some c → c.k = i
theorem at_chan {cs : List Ck} {k : Nat} {c : Ck} (h : cs[k]? = some c) : atI (cs.map eChan) (k : Int) = some (eChan c) := atI_nat (by rw [List.getElem?_map, h]; rfl)
theorem lt_net {cs : List Ck} {k : Nat} {c : Ck} (h : cs[k]? = some c) : (k : Int) < ((cs.map eChan).length : Int) := by
  have := (List.getElem?_eq_some_iff.mp h).1
  rw [List.length_map]
  omega
section
variable {P : Program} {w : World} {K : PySem.W.Frag} {mg : Str → Option Value} {base : Heap}
def S_sure (ds : List D) (d : D) : Prop := ∃ cs k c, ds = [eNet cs, .int (k : Nat)] ∧ cs[k]? = some c ∧ d = .non
theorem sc_sure : FnScope ["net", "channel"] ["net", "channel"] (defScope (top 8)) := ⟨rfl, rfl, rfl, by decide +kernel, rfl, by decide +kernel, by decide +kernel⟩
theorem ok_sure (B : Free mg) (F : FD K mg "sure_channel" (top 8) ["net", "channel"]) : Cal P w K mg base CX0 1 "sure_channel" (spD S_sure) := by
  refine cal_proc F sc_sure (fun ds d h => by obtain ⟨_, _, _, rfl, _⟩ := h; rfl) (fun ds d h => by obtain ⟨_, _, _, _, _, e⟩ := h; exact e) ?_
  rintro f cdv A outer s H E hr _ _ ⟨cs, k, c, rfl, hk, rfl⟩ I
  exact ⟨_, hs_ifF (pb_not (pb_chain pd_int (pd_var 1) (pd_lenT B.len (pd_var 0)) (by omega) (lt_net hk))) hs_end⟩
def sideP (k : Nat) (pay : Bool) : Int := if pay then k else k + 1
def S_person (ds : List D) (d : D) : Prop := ∃ cs k c pay, ds = [eNet cs, .int (k : Nat), .int (sideI c.fl pay)] ∧ cs[k]? = some c ∧ d = .int (sideP c.k pay)
theorem sc_person : FnScope ["net", "channel", "side"] ["net", "channel", "side"] (defScope (top 9)) := ⟨rfl, rfl, rfl, by decide +kernel, rfl, by decide +kernel, by decide +kernel⟩
theorem at_pers (c : Ck) (pay : Bool) : ∃ xs, eChan c = .tup xs ∧ atI xs (sideI c.fl pay) = some (.int (sideP c.k pay)) := by
  obtain ⟨k, a, sp, so, en, fl⟩ := c
  cases fl <;> cases pay <;> exact ⟨_, rfl, rfl⟩
theorem ok_person (F : FD K mg "person_of" (top 9) ["net", "channel", "side"]) (c1 : Cal P w K mg base CX0 1 "sure_channel" (spD S_sure)) : Cal P w K mg base CX0 2 "person_of" (spD S_person) := by
  refine cal_pure F sc_person (fun ds d h => by obtain ⟨_, _, _, _, rfl, _⟩ := h; rfl) ?_
  rintro f cdv A outer s H E hr _ _ ⟨cs, k, c, pay, rfl, hk, rfl⟩ I
  obtain ⟨xs, e1, e2⟩ := at_pers c pay
  exact hs_drop (pd_call c1 pass0 hr (by decide) (pds_cons (pd_var 0) (pds_cons (pd_var 1) pds_nil)) ⟨_, _, _, rfl, hk, rfl⟩) (hs_ret (pd_ixT (pd_ixT (pd_var 0) (pd_var 1) ((at_chan hk).trans (congrArg some e1))) (pd_var 2) e2))
/-- the side of a person in a channel -/
def eSide (c : Ck) (p : Nat) : D := if p = c.k then .int (sideI c.fl true) else if p = c.k + 1 then .int (sideI c.fl false) else .non
def S_side (ds : List D) (d : D) : Prop := ∃ cs k c p, ds = [eNet cs, .int (k : Nat), .int (p : Nat)] ∧ cs[k]? = some c ∧ d = eSide c p
theorem sc_side : FnScope ["net", "channel", "person"] ["net", "channel", "person"] (defScope (top 10)) := ⟨rfl, rfl, rfl, by decide +kernel, rfl, by decide +kernel, by decide +kernel⟩
theorem ok_side (F : FD K mg "side_of" (top 10) ["net", "channel", "person"]) (c1 : Cal P w K mg base CX0 1 "sure_channel" (spD S_sure)) : Cal P w K mg base CX0 2 "side_of" (spD S_side) := by
  refine cal_pure F sc_side (fun ds d h => by obtain ⟨_, _, _, _, rfl, _⟩ := h; rfl) ?_
  rintro f cdv A outer s H E hr _ _ ⟨cs, k, c, p, rfl, hk, rfl⟩ I
  refine hs_drop (pd_call c1 pass0 hr (by decide) (pds_cons (pd_var 0) (pds_cons (pd_var 1) pds_nil)) ⟨_, _, _, rfl, hk, rfl⟩) ?_
  have hA := at_chan hk
  have e0 : ∀ i j : Int, i = j → D.eqb (.int i) (.int j) = true := fun i j h => decide_eq_true h
  have e1 : ∀ i j : Int, ¬ i = j → D.eqb (.int i) (.int j) = false := fun i j h => decide_eq_false h
  unfold eSide
  obtain ⟨ck, a, sp, so, en, fl⟩ := c
  by_cases h1 : p = ck
  · rw [if_pos h1]
    cases fl with
    | false => exact hs_ifT (pb_eq hr (pd_ixT (pd_ixT (pd_var 0) (pd_var 1) hA) pd_int) (pd_var 2) (e0 _ _ (by show (ck : Int) = p; omega))) (hs_ret pd_int) noNx_ret
    | true =>
      exact hs_ifF (pb_eq hr (pd_ixT (pd_ixT (pd_var 0) (pd_var 1) hA) pd_int) (pd_var 2) (e1 _ _ (by show ¬ (ck : Int) + 1 = p; omega))) (hs_ret (pd_ifT (pb_eq hr (pd_ixT (pd_ixT (pd_var 0) (pd_var 1) hA) pd_int) (pd_var 2) (e0 _ _ (by show (ck : Int) = p; omega))) pd_int))
  · rw [if_neg h1]
    by_cases h2 : p = ck + 1
    · rw [if_pos h2]
      cases fl with
      | true => exact hs_ifT (pb_eq hr (pd_ixT (pd_ixT (pd_var 0) (pd_var 1) hA) pd_int) (pd_var 2) (e0 _ _ (by show (ck : Int) + 1 = p; omega))) (hs_ret pd_int) noNx_ret
      | false =>
        exact hs_ifF (pb_eq hr (pd_ixT (pd_ixT (pd_var 0) (pd_var 1) hA) pd_int) (pd_var 2) (e1 _ _ (by show ¬ (ck : Int) = p; omega))) (hs_ret (pd_ifT (pb_eq hr (pd_ixT (pd_ixT (pd_var 0) (pd_var 1) hA) pd_int) (pd_var 2) (e0 _ _ (by show (ck : Int) + 1 = p; omega))) pd_int))
    · rw [if_neg h2]
      cases fl with
      | true =>
        exact hs_ifF (pb_eq hr (pd_ixT (pd_ixT (pd_var 0) (pd_var 1) hA) pd_int) (pd_var 2) (e1 _ _ (by show ¬ (ck : Int) + 1 = p; omega))) (hs_ret (pd_ifF (pb_eq hr (pd_ixT (pd_ixT (pd_var 0) (pd_var 1) hA) pd_int) (pd_var 2) (e1 _ _ (by show ¬ (ck : Int) = p; omega))) pd_non))
      | false =>
        exact hs_ifF (pb_eq hr (pd_ixT (pd_ixT (pd_var 0) (pd_var 1) hA) pd_int) (pd_var 2) (e1 _ _ (by show ¬ (ck : Int) = p; omega))) (hs_ret (pd_ifF (pb_eq hr (pd_ixT (pd_ixT (pd_var 0) (pd_var 1) hA) pd_int) (pd_var 2) (e1 _ _ (by show ¬ (ck : Int) + 1 = p; omega))) pd_non))
def S_first (ds : List D) (d : D) : Prop := ∃ cs k c, ds = [eNet cs, .int (k : Nat)] ∧ cs[k]? = some c ∧ c.k = k ∧ d = eSheet c 0 .st
theorem sc_first : FnScope ["net", "channel"] ["net", "channel"] (defScope (top 12)) := ⟨rfl, rfl, rfl, by decide +kernel, rfl, by decide +kernel, by decide +kernel⟩
theorem ok_first (F : FD K mg "first_sheet" (top 12) ["net", "channel"]) (c1 : Cal P w K mg base CX0 1 "sure_channel" (spD S_sure)) : Cal P w K mg base CX0 2 "first_sheet" (spD S_first) := by
  refine cal_pure F sc_first (fun ds d h => by obtain ⟨_, _, _, rfl, _⟩ := h; rfl) ?_
  rintro f cdv A outer s H E hr _ _ ⟨cs, k, c, rfl, hk, ek, rfl⟩ I
  refine hs_drop (pd_call c1 pass0 hr (by decide) (pds_cons (pd_var 0) (pds_cons (pd_var 1) pds_nil)) ⟨_, _, _, rfl, hk, rfl⟩) ?_
  have hA := at_chan hk
  obtain ⟨ck, a, sp, so, en, fl⟩ := c
  have ek : ck = k := ek
  subst ek
  cases fl with
  | false => exact hs_ret (pd_tup (pds_cons (pd_var 1) (pds_cons pd_int (pds_cons (pd_tup (pds_cons (pd_ixT (pd_ixT (pd_var 0) (pd_var 1) hA) pd_int) (pds_cons (pd_ixT (pd_ixT (pd_var 0) (pd_var 1) hA) pd_int) pds_nil))) (pds_cons (pd_tup pds_nil) pds_nil)))))
  | true => exact hs_ret (pd_tup (pds_cons (pd_var 1) (pds_cons pd_int (pds_cons (pd_tup (pds_cons (pd_ixT (pd_ixT (pd_var 0) (pd_var 1) hA) pd_int) (pds_cons (pd_ixT (pd_ixT (pd_var 0) (pd_var 1) hA) pd_int) pds_nil))) (pds_cons (pd_tup pds_nil) pds_nil)))))
/-! ### clocks, further -/
def S_in_time (ds : List D) (d : D) : Prop := ∃ t0 t1 t2 m e, ds = [eTimes t0 t1 t2, .int m, .int e] ∧ OkT t1 ∧ d = .bl (inTime t0 t1 m e)
theorem sc_in_time : FnScope ["times", "moment", "end", "last"] ["times", "moment", "end"] (defScope (top 18)) := ⟨rfl, rfl, rfl, by decide +kernel, rfl, by decide +kernel, by decide +kernel⟩
theorem ok_in_time (F : FD K mg "in_time" (top 18) ["times", "moment", "end"]) (c1 : Cal P w K mg base CX0 3 "close_by" (spD S_close_by)) : Cal P w K mg base CX0 4 "in_time" (spD S_in_time) := by
  refine cal_pure F sc_in_time (fun ds d h => by obtain ⟨_, _, _, _, _, rfl, _⟩ := h; rfl) ?_
  rintro f cdv A outer s H E hr _ _ ⟨t0, t1, t2, m, e, rfl, hT, rfl⟩ I
  refine hs_set 3 sc_in_time.nd (pd_call c1 pass0 hr (by decide) (pds_cons (pd_var 0) (pds_cons (pd_var 2) pds_nil)) ⟨_, _, _, _, rfl, hT, rfl⟩) ?_
  unfold inTime
  cases closeBy t0 t1 e with
  | none => exact hs_ret (pd_and0 (pd_notN (pd_var 3)))
  | some l => exact hs_ret (pd_and (pd_notN (pd_var 3)) (pd_one (pd_le (pd_var 1) (pd_var 3))))
def S_least (ds : List D) (d : D) : Prop := ∃ t0 t1 t2 e, ds = [eTimes t0 t1 t2, .int e] ∧ OkT t1 ∧ d = .int (lookAt t1 e + t0)
theorem sc_least : FnScope ["times", "out_end"] ["times", "out_end"] (defScope (top 19)) := ⟨rfl, rfl, rfl, by decide +kernel, rfl, by decide +kernel, by decide +kernel⟩
theorem ok_least (F : FD K mg "least_in_end" (top 19) ["times", "out_end"]) (c1 : Cal P w K mg base CX0 1 "look_at" (spD S_look_at)) : Cal P w K mg base CX0 2 "least_in_end" (spD S_least) := by
  refine cal_pure F sc_least (fun ds d h => by obtain ⟨_, _, _, _, rfl, _⟩ := h; rfl) ?_
  rintro f cdv A outer s H E hr _ _ ⟨t0, t1, t2, e, rfl, hT, rfl⟩ I
  exact hs_ret (pd_add (pd_call c1 pass0 hr (by decide) (pds_cons (pd_var 0) (pds_cons (pd_var 1) pds_nil)) ⟨_, _, _, _, rfl, hT, rfl⟩) (pd_ixT (pd_var 0) pd_int))
def S_gap (ds : List D) (d : D) : Prop := ∃ t0 t1 t2 i o, ds = [eTimes t0 t1 t2, .int i, .int o] ∧ OkT t1 ∧ d = .bl (decide (lookAt t1 o + t0 ≤ i))
theorem sc_gap : FnScope ["times", "in_end", "out_end"] ["times", "in_end", "out_end"] (defScope (top 20)) := ⟨rfl, rfl, rfl, by decide +kernel, rfl, by decide +kernel, by decide +kernel⟩
theorem ok_gap (F : FD K mg "enough_gap" (top 20) ["times", "in_end", "out_end"]) (c1 : Cal P w K mg base CX0 2 "least_in_end" (spD S_least)) : Cal P w K mg base CX0 3 "enough_gap" (spD S_gap) := by
  refine cal_pure F sc_gap (fun ds d h => by obtain ⟨_, _, _, _, _, rfl, _⟩ := h; rfl) ?_
  rintro f cdv A outer s H E hr _ _ ⟨t0, t1, t2, i, o, rfl, hT, rfl⟩ I
  exact hs_ret (pd_ge (pd_var 1) (pd_call c1 pass0 hr (by decide) (pds_cons (pd_var 0) (pds_cons (pd_var 2) pds_nil)) ⟨_, _, _, _, rfl, hT, rfl⟩))
end
end Sd
namespace Sd
open PySem L2
/-! ### data that tuple_of copies -/
def Tk (k : Nat) (d : D) : Prop := d.tk = true ∧ d.dep ≤ k
theorem Tk.le {j k : Nat} {d : D} (h : Tk j d) (hk : j ≤ k) : Tk k d := ⟨h.1, Nat.le_trans h.2 hk⟩
theorem tk_int {k : Nat} {i : Int} : Tk k (.int i) := ⟨rfl, Nat.zero_le _⟩
theorem tk_bl {k : Nat} {i : Bool} : Tk k (.bl i) := ⟨rfl, Nat.zero_le _⟩
theorem tk_str {k : Nat} {i : Str} : Tk k (.str i) := ⟨rfl, Nat.zero_le _⟩
theorem tk_non {k : Nat} : Tk k .non := ⟨rfl, Nat.zero_le _⟩
theorem tk_all {k : Nat} : ∀ {ds : List D}, (∀ d ∈ ds, Tk k d) → tkL ds = true ∧ depL ds ≤ k
  | [], _ => ⟨rfl, Nat.zero_le _⟩
  | d :: ds, h => by
    obtain ⟨h1, h2⟩ := h d List.mem_cons_self
    obtain ⟨h3, h4⟩ := tk_all (ds := ds) fun e he => h e (List.mem_cons_of_mem _ he)
    exact ⟨by show (d.tk && tkL ds) = true; rw [h1, h3]; rfl, by show max d.dep (depL ds) ≤ k; omega⟩
theorem tk_tup {k : Nat} {ds : List D} (h : ∀ d ∈ ds, Tk k d) (hl : ds.length ≤ 1000) : Tk (k + 1) (.tup ds) := by
  obtain ⟨h1, h2⟩ := tk_all h
  exact ⟨by show (decide (ds.length ≤ 1000) && tkL ds) = true; rw [decide_eq_true hl, h1]; rfl, by show depL ds + 1 ≤ k + 1; omega⟩
/-- written tuples, item by item -/
inductive TkL (k : Nat) : List D → Prop
  | nil : TkL k []
  | cons {d : D} {ds : List D} (h : Tk k d) (t : TkL k ds) : TkL k (d :: ds)
theorem TkL.all {k : Nat} {ds : List D} (h : TkL k ds) : ∀ d ∈ ds, Tk k d := by
  induction h with
  | nil => intro d hd; cases hd
  | cons h _ ih =>
    intro d hd
    rcases List.mem_cons.mp hd with q | q
    · rw [q]; exact h
    · exact ih d q
theorem tk_w {k : Nat} {ds : List D} (h : TkL k ds) (hl : Nat.ble ds.length 1000 = true := by rfl) : Tk (k + 1) (.tup ds) := tk_tup h.all (Nat.le_of_ble_eq_true hl)
theorem tuS {k : Nat} {d : D} (h : Tk k d) (hk : k ≤ 10 := by decide) : S_tuple_of 10 [d] d := ⟨rfl, h.1, Nat.le_trans h.2 hk⟩
theorem tk_img : Tk 1 eImg := tk_w (.cons tk_str (.cons tk_int .nil))
theorem tk_lock (c : Ck) : Tk 2 (eLock c) := tk_w (.cons tk_int (.cons tk_int (.cons tk_img (.cons tk_int .nil))))
theorem tk_two (fl : Bool) (x y : Int) : Tk 1 (two fl x y) := by cases fl <;> exact tk_w (.cons tk_int (.cons tk_int .nil))
theorem tk_sums (c : Ck) (p : Ph) : Tk 1 (eSums c p) := by cases p <;> exact tk_two _ _ _
theorem tk_locks (c : Ck) (p : Ph) : Tk 3 (eLocks c p) := by
  cases p
  · exact tk_w (k := 2) .nil
  · exact tk_w (.cons (tk_lock c) .nil)
  · exact tk_w (k := 2) .nil
theorem tk_sheet (c : Ck) (n : Nat) (p : Ph) : Tk 4 (eSheet c n p) := tk_w (.cons tk_int (.cons tk_int (.cons ((tk_sums c p).le (by decide)) (.cons (tk_locks c p) .nil))))
theorem tk_cg (c : Ck) (g : Cg) : Tk 3 (eCg c g) := by
  cases g
  · exact tk_w (k := 2) (.cons tk_str .nil)
  · exact tk_w (k := 2) (.cons tk_str (.cons (tk_lock c) .nil))
  · exact tk_w (k := 2) (.cons tk_str (.cons (tk_img.le (by decide)) .nil))
  · exact tk_w (k := 2) (.cons tk_str (.cons (tk_img.le (by decide)) .nil))
theorem lay_img : eImg.lay = true := (Bool.and_eq_true_iff.mp shp_img).1
theorem lay_lock (c : Ck) : (eLock c).lay = true := by
  show (true && (true && (eImg.lay && (true && true)))) = true
  rw [lay_img]; rfl
theorem shp_lock (c : Ck) : (eLock c).shp = true := by
  show ((eLock c).lay && decide ((eLock c).dep ≤ 64)) = true
  rw [lay_lock, decide_eq_true (Nat.le_trans (tk_lock c).2 (by decide))]; rfl
theorem shp_two (fl : Bool) (x y : Int) : (two fl x y).lay = true ∧ (two fl x y).dep = 1 := by cases fl <;> exact ⟨rfl, rfl⟩
theorem shp_sheet (c : Ck) (n : Nat) (p : Ph) : (eSheet c n p).shp = true := by
  have hl : (eSheet c n p).lay = true := by
    show ((D.int c.k).lay && ((D.int n).lay && ((eSums c p).lay && ((eLocks c p).lay && true)))) = true
    have h1 : (eSums c p).lay = true := by cases p <;> exact (shp_two _ _ _).1
    have h2 : (eLocks c p).lay = true := by
      cases p
      · rfl
      · show ((eLock c).lay && true) = true; rw [lay_lock]; rfl
      · rfl
    rw [h1, h2]; rfl
  have hd := (tk_sheet c n p).2
  show ((eSheet c n p).lay && decide ((eSheet c n p).dep ≤ 64)) = true
  rw [hl, decide_eq_true (Nat.le_trans hd (by decide))]; rfl
theorem sideI_eq (fl a b : Bool) : D.eqb (.int (sideI fl a)) (.int (sideI fl b)) = (a == b) := by cases fl <;> cases a <;> cases b <;> rfl
section
variable {P : Program} {w : World} {K : PySem.W.Frag} {mg : Str → Option Value} {base : Heap} {CU : Addr}
def S_lock_of (ds : List D) (d : D) : Prop := ∃ c n p, ds = [eSheet c n p, eImg] ∧ d = if p = .lk then eLock c else .non
theorem sc_lock_of : FnScope ["sheet", "image", "lock"] ["sheet", "image"] (defScope (top 13)) := ⟨rfl, rfl, rfl, by decide +kernel, rfl, by decide +kernel, by decide +kernel⟩
theorem ok_lock_of (F : FD K mg "lock_of" (top 13) ["sheet", "image"]) (ct : Cal P w K mg base CX0 11 "tuple_of" (spD (S_tuple_of 10))) : Cal P w K mg base CX0 12 "lock_of" (spD S_lock_of) := by
  refine cal_pure F sc_lock_of (fun ds d h => by obtain ⟨_, _, _, rfl, _⟩ := h; rfl) ?_
  rintro f cdv A outer s H E hr _ _ ⟨c, n, p, rfl, rfl⟩ I
  refine hs_par 0 1 rfl sc_lock_of.nd (by decide) (pds_cons (pd_call ct pass0 hr (by decide) (pds_cons (pd_var 0) pds_nil) (tuS (tk_sheet c n p))) (pds_cons (pd_call ct pass0 hr (by decide) (pds_cons (pd_var 1) pds_nil) (tuS (tk_img))) pds_nil)) ?_
  cases p with
  | st => exact hs_nx (h_forT0 PassesOwn.never rfl (pd_ixT (pd_var 0) pd_int)) (hs_ret pd_non)
  | pd => exact hs_nx (h_forT0 PassesOwn.never rfl (pd_ixT (pd_var 0) pd_int)) (hs_ret pd_non)
  | lk => exact hs_stop (h_forT1r PassesOwn.never rfl (pd_ixT (pd_var 0) pd_int) (fun J => pgd_name 2 sc_lock_of.nd) (fun a xs => hs_ifT (pb_eq hr (pd_ixT (pd_var 2) pd_int) (pd_var 1) eqb_img shp_img shp_img) (hs_retA (pd_var 2)) noNx_ret) noLp_ret) noNx_ret
def S_with_sum (ds : List D) (d : D) : Prop := ∃ x y i z, ds = [.tup [.int x, .int y], .int i, .int z] ∧ ((i = 0 ∧ d = .tup [.int (x + z), .int y]) ∨ (i = 1 ∧ d = .tup [.int x, .int (y + z)]))
theorem sc_with_sum : FnScope ["sums", "side", "amount"] ["sums", "side", "amount"] (defScope (top 23)) := ⟨rfl, rfl, rfl, by decide +kernel, rfl, by decide +kernel, by decide +kernel⟩
theorem ok_with_sum (F : FD K mg "with_sum" (top 23) ["sums", "side", "amount"]) : Cal P w K mg base CX0 1 "with_sum" (spD S_with_sum) := by
  refine cal_pure F sc_with_sum (fun ds d h => by obtain ⟨_, _, _, _, rfl, _⟩ := h; rfl) ?_
  rintro f cdv A outer s H E hr _ _ ⟨x, y, i, z, rfl, ⟨rfl, rfl⟩ | ⟨rfl, rfl⟩⟩ I
  · exact hs_ret (pd_ifT (pb_eq hr (pd_var 1) pd_int) (pd_tup (pds_cons (pd_add (pd_ixT (pd_var 0) pd_int) (pd_var 2)) (pds_cons (pd_ixT (pd_var 0) pd_int) pds_nil))))
  · exact hs_ret (pd_ifF (pb_eq hr (pd_var 1) pd_int) (pd_tup (pds_cons (pd_ixT (pd_var 0) pd_int) (pds_cons (pd_add (pd_ixT (pd_var 0) pd_int) (pd_var 2)) pds_nil))))
/-- sums and locks -/
def eSL (c : Ck) (p : Ph) : D := .tup [eSums c p, eLocks c p]
theorem sws_pay (c : Ck) (ph : Ph) (pay : Bool) (z : Int) : ∃ x y, eSums c ph = .tup [.int x, .int y] ∧ S_with_sum [eSums c ph, .int (sideI c.fl pay), .int z] (if sideI c.fl pay = 0 then .tup [.int (x + z), .int y] else .tup [.int x, .int (y + z)]) := by
  obtain ⟨k, a, sp, so, en, fl⟩ := c
  cases ph <;> cases fl <;> cases pay <;> first | exact ⟨_, _, rfl, _, _, _, _, rfl, .inl ⟨rfl, rfl⟩⟩ | exact ⟨_, _, rfl, _, _, _, _, rfl, .inr ⟨rfl, rfl⟩⟩
/-- the payer's sum less the amount; the payee's, the payer's more by it -/
theorem sw_add (c : Ck) : S_with_sum [eSums c .st, .int (sideI c.fl true), .int (-c.a)] (eSums c .lk) := by
  obtain ⟨k, a, sp, so, en, fl⟩ := c
  cases fl
  · exact ⟨_, _, _, _, rfl, .inl ⟨rfl, rfl⟩⟩
  · exact ⟨_, _, _, _, rfl, .inr ⟨rfl, rfl⟩⟩
theorem sw_pay (c : Ck) : S_with_sum [eSums c .lk, .int (sideI c.fl false), .int c.a] (eSums c .pd) := by
  obtain ⟨k, a, sp, so, en, fl⟩ := c
  cases fl
  · exact ⟨_, _, _, _, rfl, .inr ⟨rfl, rfl⟩⟩
  · exact ⟨_, _, _, _, rfl, .inl ⟨rfl, rfl⟩⟩
theorem sw_drop (c : Ck) : S_with_sum [eSums c .lk, .int (sideI c.fl true), .int c.a] (eSums c .st) := by
  obtain ⟨k, a, sp, so, en, fl⟩ := c
  have e : sp - a + a = sp := by omega
  cases fl
  · exact ⟨_, _, _, _, rfl, .inl ⟨rfl, by show D.tup [.int sp, .int so] = .tup [.int (sp - a + a), .int so]; rw [e]⟩⟩
  · exact ⟨_, _, _, _, rfl, .inr ⟨rfl, by show D.tup [.int so, .int sp] = .tup [.int so, .int (sp - a + a)]; rw [e]⟩⟩
theorem at_sum (c : Ck) (ph : Ph) : ∃ xs, eSums c ph = .tup xs ∧ atI xs (sideI c.fl true) = some (.int (match ph with | .st => c.sp | _ => c.sp - c.a)) := by
  obtain ⟨k, a, sp, so, en, fl⟩ := c
  cases ph <;> cases fl <;> exact ⟨_, rfl, rfl⟩
def S_with_lock (ds : List D) (r : Option D) : Prop := ∃ c n p pay, ds = [eSheet c n p, .int (sideI c.fl pay), eLock c] ∧ (p = .pd → pay = false) ∧ r = (chg c.fit pay p .add).map (eSL c)
theorem sc_with_lock : FnScope ["sheet", "side", "lock", "_", "sums", "locks"] ["sheet", "side", "lock"] (defScope (top 24)) := ⟨rfl, rfl, rfl, by decide +kernel, rfl, by decide +kernel, by decide +kernel⟩
theorem ok_with_lock (B : Free mg) (U : UnfitAt K mg CU) {tML : Tok} (hML : mg "MOST_LOCKS_offers" = some (.int 8 tML)) (F : FD K mg "with_lock" (top 24) ["sheet", "side", "lock"]) (cl : Cal P w K mg base CX0 12 "lock_of" (spD S_lock_of)) (cw : Cal P w K mg base CX0 1 "with_sum" (spD S_with_sum)) :
    Cal P w K mg base (L2.CX P w) 13 "with_lock" (spX CU S_with_lock) := by
  refine cal_X F sc_with_lock (fun ds d h => by obtain ⟨_, _, _, _, rfl, _⟩ := h; rfl) ?_
  rintro f cdv A outer s H E hr _ _ ⟨c, n, p, pay, rfl, hp, rfl⟩ I
  refine hs_asg (pd_var 0) (pgd_tup rfl (pgsd_cons (pgd_name 3 sc_with_lock.nd) (pgsd_cons (pgd_name 3 sc_with_lock.nd) (pgsd_cons (pgd_name 4 sc_with_lock.nd) (pgsd_cons (pgd_name 5 sc_with_lock.nd) pgsd_nil))))) ?_
  obtain ⟨xs, e1, e2⟩ := at_sum c p
  cases pay with
  | false =>
    -- another side than the lock's
    have eN : chg c.fit false p .add = none := by cases p <;> rfl
    rw [eN]
    exact hs_ifT (pb_w (pbw_or0 (pb_ne hr (pd_ixT (pd_var 2) pd_int) (pd_var 1) (by rw [sideI_eq]; rfl)))) (hs_one (h_raise rfl U (takes_of rfl rfl rfl rfl))) noNx_exc
  | true =>
    have hs0 : (!D.eqb (.int (sideI c.fl true)) (.int (sideI c.fl true))) = false := by rw [sideI_eq]; rfl
    cases p with
    | pd => exact absurd (hp rfl) (by decide)
    | lk =>
      have eN : chg c.fit true .lk .add = none := by cases c.fit <;> rfl
      rw [eN]
      refine hs_ifT ?_ (hs_one (h_raise rfl U (takes_of rfl rfl rfl rfl))) noNx_exc
      by_cases h : c.sp - c.a < c.a
      · exact pb_w (pbw_or (pb_ne hr (pd_ixT (pd_var 2) pd_int) (pd_var 1) (hs0)) (pbw_or0 (pb_gt (pd_ixT (pd_var 2) pd_int) (pd_ixT ((pd_var 4).to e1) (pd_var 1) e2) (decide_eq_true h))))
      · exact pb_w (pbw_or (pb_ne hr (pd_ixT (pd_var 2) pd_int) (pd_var 1) (hs0)) (pbw_or (pb_gt (pd_ixT (pd_var 2) pd_int) (pd_ixT ((pd_var 4).to e1) (pd_var 1) e2) (decide_eq_false h)) (pbw_or0 (pb_notN (pd_call cl pass0 hr (by decide) (pds_cons (pd_var 0) (pds_cons (pd_ixT (pd_var 2) pd_int) pds_nil)) ⟨_, _, _, rfl, rfl⟩)))))
    | st =>
      by_cases h : c.sp < c.a
      · have eN : chg c.fit true .st .add = none := by
          have : c.fit = false := decide_eq_false (by omega)
          rw [this]; rfl
        rw [eN]
        exact hs_ifT (pb_w (pbw_or (pb_ne hr (pd_ixT (pd_var 2) pd_int) (pd_var 1) (hs0)) (pbw_or0 (pb_gt (pd_ixT (pd_var 2) pd_int) (pd_ixT ((pd_var 4).to e1) (pd_var 1) e2) (decide_eq_true h))))) (hs_one (h_raise rfl U (takes_of rfl rfl rfl rfl))) noNx_exc
      · have eN : chg c.fit true .st .add = some .lk := by
          have : c.fit = true := decide_eq_true (by omega)
          rw [this]; rfl
        rw [eN]
        refine hs_ifF (pb_w (pbw_or (pb_ne hr (pd_ixT (pd_var 2) pd_int) (pd_var 1) (hs0)) (pbw_or (pb_gt (pd_ixT (pd_var 2) pd_int) (pd_ixT ((pd_var 4).to e1) (pd_var 1) e2) (decide_eq_false h)) (pbw_or (pb_notN (pd_call cl pass0 hr (by decide) (pds_cons (pd_var 0) (pds_cons (pd_ixT (pd_var 2) pd_int) pds_nil)) ⟨_, _, _, rfl, rfl⟩)) (pbw_or1 (pb_ge (pd_lenT B.len (pd_var 5)) (pd_gint hML))))))) ?_
        exact hs_ret (pd_tup (pds_cons (pd_call cw pass0 hr (by decide) (pds_cons (pd_var 4) (pds_cons (pd_var 1) (pds_cons (pd_neg (pd_ixT (pd_var 2) pd_int)) pds_nil))) (sw_add c)) (pds_cons (PD.to (pd_tup (pds_star (pd_var 5) (pds_cons (pd_var 2) pds_nil))) rfl) pds_nil)))
def S_without (ds : List D) (r : Option D) : Prop := ∃ c n p rp rt, ds = [eSheet c n p, .int (sideI c.fl rp), eImg, .int (sideI c.fl rt)] ∧ r = if p = .lk ∧ rp = true then some (eSL c (if rt then .st else .pd)) else none
theorem sc_without : FnScope ["sheet", "payer", "image", "to", "lock", "own"] ["sheet", "payer", "image", "to"] (defScope (top 25)) := ⟨rfl, rfl, rfl, by decide +kernel, rfl, by decide +kernel, by decide +kernel⟩
theorem ok_without (B : Free mg) (U : UnfitAt K mg CU) (F : FD K mg "without_lock" (top 25) ["sheet", "payer", "image", "to"]) (cl : Cal P w K mg base CX0 12 "lock_of" (spD S_lock_of)) (cw : Cal P w K mg base CX0 1 "with_sum" (spD S_with_sum)) :
    Cal P w K mg base (L2.CX P w) 13 "without_lock" (spX CU S_without) := by
  refine cal_X F sc_without (fun ds d h => by obtain ⟨_, _, _, _, _, rfl, _⟩ := h; rfl) ?_
  rintro f cdv A outer s H E hr _ _ ⟨c, n, p, rp, rt, rfl, rfl⟩ I
  refine hs_set 4 sc_without.nd (pd_call cl pass0 hr (by decide) (pds_cons (pd_var 0) (pds_cons (pd_var 2) pds_nil)) ⟨_, _, _, rfl, rfl⟩) ?_
  by_cases hp : p = .lk
  · subst hp
    rw [if_pos rfl]
    cases rp with
    | false =>
      rw [if_neg (fun q => Bool.noConfusion q.2)]
      exact hs_ifT (pb_w (pbw_or (pb_isN (pd_var 4)) (pbw_or1 (pb_ne hr (pd_ixT (pd_var 4) pd_int) (pd_var 1) (by rw [sideI_eq]; rfl))))) (hs_one (h_raise rfl U (takes_of rfl rfl rfl rfl))) noNx_exc
    | true =>
      rw [if_pos ⟨rfl, rfl⟩]
      refine hs_ifF (pb_w (pbw_or (pb_isN (pd_var 4)) (pbw_or1 (pb_ne hr (pd_ixT (pd_var 4) pd_int) (pd_var 1) (by rw [sideI_eq]; rfl))))) ?_
      have key : S_with_sum [eSums c .lk, .int (sideI c.fl rt), .int c.a] (eSums c (if rt then .st else .pd)) := by
        cases rt
        · exact sw_pay c
        · exact sw_drop c
      have el : eLocks c (if rt then .st else .pd) = .tup [] := by cases rt <;> rfl
      refine hs_ret (pd_tup (pds_cons (pd_call cw pass0 hr (by decide) (pds_cons (pd_ixT (pd_var 0) pd_int) (pds_cons (pd_var 3) (pds_cons (pd_ixT (pd_var 4) pd_int) pds_nil))) key) (pds_cons (PD.to ?_ el.symm) pds_nil)))
      refine pd_tupleL B.tup (PD.to (pd_lcT (own := [("own", 5)]) (ds := [eLock c]) (envs := fun d => (wipeE ((startE ["sheet", "payer", "image", "to", "lock", "own"] [eSheet c n .lk, .int (sideI c.fl true), eImg, .int (sideI c.fl rt)]).set 4 (some (eLock c))) [5]).set 5 (some d)) (keep := fun _ => false) (out := fun d => d) rfl sc_without.nd (pd_ixT (pd_var 0) pd_int)
        (blkOk_by (N := ["sheet", "payer", "image", "to", "lock", "own"]) (sc := defScope (top 25)) (by decide +kernel)) (fun _ _ _ _ _ => pg_name (i := 5) sc_without.nd rfl (Or.inl rfl)) (fun d _ => tg_name 5)
        (fun _ _ _ _ _ d hd => ptd_one ?_) (fun s H C cl fp d hd h => by cases h) (fun d hd h => by cases h) (zz rfl)) rfl)
      have e : d = eLock c := by simpa using hd
      subst e
      exact pb_ne hr (pd_var 5) (pd_var 4) (by rw [eqb_lock]; rfl) (shp_lock c) (shp_lock c)
  · rw [if_neg hp, if_neg (fun q => hp q.1)]
    exact hs_ifT (pb_w (pbw_or0 (pb_isN (pd_var 4)))) (hs_one (h_raise rfl U (takes_of rfl rfl rfl rfl))) noNx_exc
end
end Sd
namespace Sd
open PySem L2
theorem sideI_not (fl pay : Bool) : 1 - sideI fl pay = sideI fl (!pay) := by cases fl <;> cases pay <;> rfl
section
variable {P : Program} {w : World} {K : PySem.W.Frag} {mg : Str → Option Value} {base : Heap} {CU : Addr}
def S_changed (ds : List D) (r : Option D) : Prop := ∃ c n p pay g, ds = [eSheet c n p, .int (sideI c.fl pay), eCg c g] ∧ (g = .add → p = .pd → pay = false) ∧ r = (chg c.fit pay p g).map (eSheet c (n + 1))
theorem sc_changed : FnScope ["sheet", "side", "change", "own", "word", "more", "sums", "locks"] ["sheet", "side", "change"] (defScope (top 26)) := ⟨rfl, rfl, rfl, by decide +kernel, rfl, by decide +kernel, by decide +kernel⟩
theorem ok_changed (F : FD K mg "changed" (top 26) ["sheet", "side", "change"]) (ct : Cal P w K mg base CX0 11 "tuple_of" (spD (S_tuple_of 10))) (cwl : Cal P w K mg base (L2.CX P w) 13 "with_lock" (spX CU S_with_lock)) (cwo : Cal P w K mg base (L2.CX P w) 13 "without_lock" (spX CU S_without)) :
    Cal P w K mg base (L2.CX P w) 14 "changed" (spX CU S_changed) := by
  refine cal_X F sc_changed (fun ds d h => by obtain ⟨_, _, _, _, _, rfl, _⟩ := h; rfl) ?_
  rintro f cdv A outer s H E hr _ _ ⟨c, n, p, pay, g, rfl, hp, rfl⟩ I
  cases g with
  | pass =>
    refine hs_asg (pd_tup (pds_cons (pd_call ct pass0 hr (by decide) (pds_cons (pd_var 0) pds_nil) (tuS (tk_sheet c n p))) (pds_cons (pd_call ct pass0 hr (by decide) (pds_cons (pd_var 2) pds_nil) (tuS (tk_cg c .pass))) pds_nil))) (pgd_tup rfl (pgsd_cons (pgd_name 3 sc_changed.nd) (pgsd_cons (pgd_star rfl (pgsd_cons (pgd_name 4 sc_changed.nd) (pgsd_star (pgd_name 5 sc_changed.nd) pgsd_nil)) (Nat.zero_le _)) pgsd_nil))) ?_
    refine hs_asg (PD.to (pd_slT (pd_var 3) (pdo_some pd_int) pdo_none) (d2 := .tup [eSums c p, eLocks c p]) rfl) (pgd_tup rfl (pgsd_cons (pgd_name 6 sc_changed.nd) (pgsd_cons (pgd_name 7 sc_changed.nd) pgsd_nil))) ?_
    refine hs_nx (h_ifF (pb_eqS (pd_var 4) pd_str) (hs_ifF (pb_neS (pd_var 4) pd_str) hs_end)) ?_
    exact hs_ret (PD.to (pd_tup (pds_cons (pd_ixT (pd_var 3) pd_int) (pds_cons (pd_add (pd_ixT (pd_var 3) pd_int) pd_int) (pds_cons (pd_var 6) (pds_cons (pd_var 7) pds_nil))))) rfl)
  | add =>
    refine hs_asg (pd_tup (pds_cons (pd_call ct pass0 hr (by decide) (pds_cons (pd_var 0) pds_nil) (tuS (tk_sheet c n p))) (pds_cons (pd_call ct pass0 hr (by decide) (pds_cons (pd_var 2) pds_nil) (tuS (tk_cg c .add))) pds_nil))) (pgd_tup rfl (pgsd_cons (pgd_name 3 sc_changed.nd) (pgsd_cons (pgd_star rfl (pgsd_cons (pgd_name 4 sc_changed.nd) (pgsd_star (pgd_name 5 sc_changed.nd) pgsd_nil)) (Nat.le_of_ble_eq_true rfl)) pgsd_nil))) ?_
    refine hs_asg (PD.to (pd_slT (pd_var 3) (pdo_some pd_int) pdo_none) (d2 := .tup [eSums c p, eLocks c p]) rfl) (pgd_tup rfl (pgsd_cons (pgd_name 6 sc_changed.nd) (pgsd_cons (pgd_name 7 sc_changed.nd) pgsd_nil))) ?_
    cases hh : chg c.fit pay p .add with
    | none => exact hs_stop (h_ifT (pb_eqS (pd_var 4) pd_str) (hs_one (h_asgX (px_call cwl (fun σ => passAtE (takes_of rfl rfl rfl rfl) σ) hr (by decide) (pds_cons (pd_var 3) (pds_cons (pd_var 1) (pds_cons (pd_ixL (pd_var 5) pd_int) pds_nil))) ⟨c, n, p, pay, rfl, hp rfl, by rw [hh]; rfl⟩)))) noNx_exc
    | some q =>
      refine hs_nx (h_ifT (pb_eqS (pd_var 4) pd_str) (hs_asg (pd_callX cwl passL hr (by decide) (pds_cons (pd_var 3) (pds_cons (pd_var 1) (pds_cons (pd_ixL (pd_var 5) pd_int) pds_nil))) (d := eSL c q) ⟨c, n, p, pay, rfl, hp rfl, by rw [hh]; rfl⟩) (pgd_tup rfl (pgsd_cons (pgd_name 6 sc_changed.nd) (pgsd_cons (pgd_name 7 sc_changed.nd) pgsd_nil))) hs_end)) ?_
      exact hs_ret (PD.to (pd_tup (pds_cons (pd_ixT (pd_var 3) pd_int) (pds_cons (pd_add (pd_ixT (pd_var 3) pd_int) pd_int) (pds_cons (pd_var 6) (pds_cons (pd_var 7) pds_nil))))) rfl)
  | pay =>
    refine hs_asg (pd_tup (pds_cons (pd_call ct pass0 hr (by decide) (pds_cons (pd_var 0) pds_nil) (tuS (tk_sheet c n p))) (pds_cons (pd_call ct pass0 hr (by decide) (pds_cons (pd_var 2) pds_nil) (tuS (tk_cg c .pay))) pds_nil))) (pgd_tup rfl (pgsd_cons (pgd_name 3 sc_changed.nd) (pgsd_cons (pgd_star rfl (pgsd_cons (pgd_name 4 sc_changed.nd) (pgsd_star (pgd_name 5 sc_changed.nd) pgsd_nil)) (Nat.le_of_ble_eq_true rfl)) pgsd_nil))) ?_
    refine hs_asg (PD.to (pd_slT (pd_var 3) (pdo_some pd_int) pdo_none) (d2 := .tup [eSums c p, eLocks c p]) rfl) (pgd_tup rfl (pgsd_cons (pgd_name 6 sc_changed.nd) (pgsd_cons (pgd_name 7 sc_changed.nd) pgsd_nil))) ?_
    have e1 : 1 - sideI c.fl pay = sideI c.fl (!pay) := sideI_not c.fl pay
    by_cases hh : p = .lk ∧ pay = true
    · obtain ⟨rfl, rfl⟩ := hh
      refine hs_nx (h_ifF (pb_eqS (pd_var 4) pd_str) (hs_one (h_ifT (pb_neS (pd_var 4) pd_str) (hs_asg (pd_callX cwo passL hr (by decide) (pds_cons (pd_var 3) (pds_cons (pd_ifT (pb_eqS (pd_var 4) pd_str) (pd_var 1)) (pds_cons (pd_ixL (pd_var 5) pd_int) (pds_cons (PD.to (pd_sub pd_int (pd_var 1)) (congrArg D.int e1)) pds_nil)))) (d := eSL c .pd) ⟨c, n, _, true, false, rfl, rfl⟩) (pgd_tup rfl (pgsd_cons (pgd_name 6 sc_changed.nd) (pgsd_cons (pgd_name 7 sc_changed.nd) pgsd_nil))) hs_end)))) ?_
      exact hs_ret (PD.to (pd_tup (pds_cons (pd_ixT (pd_var 3) pd_int) (pds_cons (pd_add (pd_ixT (pd_var 3) pd_int) pd_int) (pds_cons (pd_var 6) (pds_cons (pd_var 7) pds_nil))))) rfl)
    · have eN : chg c.fit pay p .pay = none := by
        cases p <;> cases pay <;> first | rfl | exact absurd ⟨rfl, rfl⟩ hh
      rw [eN]
      exact hs_stop (h_ifF (pb_eqS (pd_var 4) pd_str) (hs_one (h_ifT (pb_neS (pd_var 4) pd_str) (hs_one (h_asgX (px_call cwo (fun σ => passAtE (takes_of rfl rfl rfl rfl) σ) hr (by decide) (pds_cons (pd_var 3) (pds_cons (pd_ifT (pb_eqS (pd_var 4) pd_str) (pd_var 1)) (pds_cons (pd_ixL (pd_var 5) pd_int) (pds_cons (PD.to (pd_sub pd_int (pd_var 1)) (congrArg D.int e1)) pds_nil)))) ⟨c, n, p, pay, !pay, rfl, by rw [if_neg hh]⟩)))))) noNx_exc
  | drop =>
    refine hs_asg (pd_tup (pds_cons (pd_call ct pass0 hr (by decide) (pds_cons (pd_var 0) pds_nil) (tuS (tk_sheet c n p))) (pds_cons (pd_call ct pass0 hr (by decide) (pds_cons (pd_var 2) pds_nil) (tuS (tk_cg c .drop))) pds_nil))) (pgd_tup rfl (pgsd_cons (pgd_name 3 sc_changed.nd) (pgsd_cons (pgd_star rfl (pgsd_cons (pgd_name 4 sc_changed.nd) (pgsd_star (pgd_name 5 sc_changed.nd) pgsd_nil)) (Nat.le_of_ble_eq_true rfl)) pgsd_nil))) ?_
    refine hs_asg (PD.to (pd_slT (pd_var 3) (pdo_some pd_int) pdo_none) (d2 := .tup [eSums c p, eLocks c p]) rfl) (pgd_tup rfl (pgsd_cons (pgd_name 6 sc_changed.nd) (pgsd_cons (pgd_name 7 sc_changed.nd) pgsd_nil))) ?_
    have e1 : 1 - sideI c.fl pay = sideI c.fl (!pay) := sideI_not c.fl pay
    by_cases hh : p = .lk ∧ (!pay) = true
    · obtain ⟨rfl, hq⟩ := hh
      have hq' : pay = false := by cases pay <;> first | rfl | cases hq
      subst hq'
      refine hs_nx (h_ifF (pb_eqS (pd_var 4) pd_str) (hs_one (h_ifT (pb_neS (pd_var 4) pd_str) (hs_asg (pd_callX cwo passL hr (by decide) (pds_cons (pd_var 3) (pds_cons (pd_ifF (pb_eqS (pd_var 4) pd_str) (PD.to (pd_sub pd_int (pd_var 1)) (congrArg D.int e1))) (pds_cons (pd_ixL (pd_var 5) pd_int) (pds_cons (PD.to (pd_sub pd_int (pd_var 1)) (congrArg D.int e1)) pds_nil)))) (d := eSL c .st) ⟨c, n, _, true, true, rfl, rfl⟩) (pgd_tup rfl (pgsd_cons (pgd_name 6 sc_changed.nd) (pgsd_cons (pgd_name 7 sc_changed.nd) pgsd_nil))) hs_end)))) ?_
      exact hs_ret (PD.to (pd_tup (pds_cons (pd_ixT (pd_var 3) pd_int) (pds_cons (pd_add (pd_ixT (pd_var 3) pd_int) pd_int) (pds_cons (pd_var 6) (pds_cons (pd_var 7) pds_nil))))) rfl)
    · have eN : chg c.fit pay p .drop = none := by
        cases p <;> cases pay <;> first | rfl | exact absurd ⟨rfl, rfl⟩ hh
      rw [eN]
      exact hs_stop (h_ifF (pb_eqS (pd_var 4) pd_str) (hs_one (h_ifT (pb_neS (pd_var 4) pd_str) (hs_one (h_asgX (px_call cwo (fun σ => passAtE (takes_of rfl rfl rfl rfl) σ) hr (by decide) (pds_cons (pd_var 3) (pds_cons (pd_ifF (pb_eqS (pd_var 4) pd_str) (PD.to (pd_sub pd_int (pd_var 1)) (congrArg D.int e1))) (pds_cons (pd_ixL (pd_var 5) pd_int) (pds_cons (PD.to (pd_sub pd_int (pd_var 1)) (congrArg D.int e1)) pds_nil)))) ⟨c, n, p, !pay, !pay, rfl, by rw [if_neg hh]⟩)))))) noNx_exc
end
end Sd
namespace Sd
open PySem L2
theorem fix_lock (c : Ck) : (eLock c).fix = true := D.tk_fix (tk_lock c).1
theorem fix_sheet (c : Ck) (n : Nat) (p : Ph) : (eSheet c n p).fix = true := D.tk_fix (tk_sheet c n p).1
theorem fix_cg (c : Ck) (g : Cg) : (eCg c g).fix = true := D.tk_fix (tk_cg c g).1
theorem fix_cgs (c : Ck) : ∀ gs : List Cg, fixL (gs.map (eCg c)) = true
  | [] => rfl
  | g :: gs => by
    show ((eCg c g).fix && fixL (gs.map (eCg c))) = true
    rw [fix_cg, fix_cgs c gs]; rfl
section
variable {P : Program} {w : World} {K : PySem.W.Frag} {mg : Str → Option Value} {base : Heap} {CU : Addr}
def S_changes_of (ds : List D) (d : D) : Prop := ∃ c n p pay n' p', ds = [eSheet c n p, .int (sideI c.fl pay), eSheet c n' p'] ∧ d = .lst ((cands pay p p').map (eCg c))
theorem sc_changes_of : FnScope ["sheet", "side", "other", "found", "lock"] ["sheet", "side", "other"] (defScope (top 27)) := ⟨rfl, rfl, rfl, by decide +kernel, rfl, by decide +kernel, by decide +kernel⟩
theorem ok_changes_of (F : FD K mg "changes_of" (top 27) ["sheet", "side", "other"]) : Cal P w K mg base CX0 1 "changes_of" (spD S_changes_of) := by
  refine cal_pure F sc_changes_of (fun ds d h => by obtain ⟨_, _, _, _, _, _, rfl, _⟩ := h; rfl) ?_
  rintro f cdv A outer s H E hr _ _ ⟨c, n, p, pay, n', p', rfl, rfl⟩ I
  have hl : eLocks c p' = .tup (if p' = .lk then [eLock c] else []) := by cases p' <;> rfl
  have hcut : cutD (if p' = .lk then [eLock c] else []) (some (-1)) none = (if p' = .lk then [eLock c] else []) := by cases p' <;> rfl
  have hmap : (((if p' = .lk then [eLock c] else []).filter fun _ => true).map fun d => D.tup [.str "add", d]) = (if p' = .lk then [.add] else []).map (eCg c) := by cases p' <;> rfl
  refine hs_new 3 sc_changes_of.nd (pl_cat (ds := [eCg c .pass]) (ds2 := (if p' = .lk then [.add] else []).map (eCg c)) (pd_lst (pds_cons (pd_tup (pds_cons pd_str pds_nil)) pds_nil)) (PD.to (pd_lcN (i := 4) (ds := if p' = .lk then [eLock c] else []) (keep := fun _ => true) (out := fun d => .tup [.str "add", d]) rfl sc_changes_of.nd
    (PD.to (pd_slT (ds := if p' = .lk then [eLock c] else []) (PD.to (pd_ixT (pd_var 2) pd_int) hl) (pdo_some (PD.to (pd_neg pd_int) rfl)) pdo_none) (congrArg D.tup hcut))
    (blkOk_by (N := ["sheet", "side", "other", "found", "lock"]) (sc := defScope (top 27)) (by decide +kernel)) (fun _ _ _ _ _ d hd => ptd_nil) (fun _ _ _ _ _ d hd _ => (pd_tup (pds_cons pd_str (pds_cons (pd_var 4) pds_nil)))) (fun d hd _ => ?_) (by cases p' <;> exact zz rfl)) (congrArg D.lst hmap)) (by cases p' <;> exact zz rfl)) ?_ (fun q => ?_)
  · have e : d = eLock c := by
      cases p' <;> simp at hd
      exact hd
    subst e
    show (true && ((eLock c).fix && true)) = true
    rw [fix_lock]; rfl
  · show fixL ([eCg c .pass] ++ _) = true
    have e : [eCg c .pass] ++ (if p' = .lk then [Cg.add] else []).map (eCg c) = ((([Cg.pass] ++ if p' = .lk then [Cg.add] else []) : List Cg)).map (eCg c) := by rw [List.map_append]; rfl
    rw [e]
    exact fix_cgs c _
  have hc0 : [eCg c .pass] ++ (if p' = .lk then [Cg.add] else []).map (eCg c) = ((([Cg.pass] ++ if p' = .lk then [Cg.add] else []) : List Cg)).map (eCg c) := by rw [List.map_append]; rfl
  rw [hc0]
  have eb : ∀ x : Ph, (x == Ph.lk) = decide (x = .lk) := fun x => by cases x <;> rfl
  by_cases hp : p = .lk
  · subst hp
    cases pay with
    | true =>
      have hcand : (cands true .lk p').map (eCg c) = (([Cg.pass] ++ if p' = .lk then [Cg.add] else []).map (eCg c)) ++ [eCg c .pay] := by cases p' <;> rfl
      rw [hcand]
      refine hs_nx (h_forT1 (I' := I.cell q _) (env2 := (startE ["sheet", "side", "other", "found", "lock"] [eSheet c n .lk, .int (sideI c.fl true), eSheet c n' p']).set 3 (some (.ref q))) PassesOwn.never rfl (pd_ixT (pd_var 0) pd_int) (fun J => pgd_name 4 sc_changes_of.nd) (fun a xs => ?_)) (hs_retC (pd_cell 3))
      exact (hs_app (pd_var 3) (PD.to (pd_tup (pds_cons (pd_ifT (pb_eq hr (pd_ixT (pd_var 4) pd_int) (pd_var 1) (sideI_eq c.fl true true)) pd_str) (pds_cons (pd_ixT (pd_var 4) pd_int) pds_nil))) rfl) (fix_cg c .pay) (fixE_of (.cons (fix_sheet c _ _) (.cons rfl (.cons (fix_sheet c _ _) (.cons rfl (.cons (fix_lock c) .nil)))))) (by rw [List.length_map]; cases p' <;> decide) (trM_atT (by show ((eLock c).fix && true) = true; rw [fix_lock]; rfl)) hs_endC).wk (fun _ h => h) (fun _ h => oNC_sub (.same (.same (.same (.same (.skip .nil))))) h)
    | false =>
      have hcand : (cands false .lk p').map (eCg c) = (([Cg.pass] ++ if p' = .lk then [Cg.add] else []).map (eCg c)) ++ [eCg c .drop] := by cases p' <;> rfl
      rw [hcand]
      refine hs_nx (h_forT1 (I' := I.cell q _) (env2 := (startE ["sheet", "side", "other", "found", "lock"] [eSheet c n .lk, .int (sideI c.fl false), eSheet c n' p']).set 3 (some (.ref q))) PassesOwn.never rfl (pd_ixT (pd_var 0) pd_int) (fun J => pgd_name 4 sc_changes_of.nd) (fun a xs => ?_)) (hs_retC (pd_cell 3))
      exact (hs_app (pd_var 3) (PD.to (pd_tup (pds_cons (pd_ifF (pb_eq hr (pd_ixT (pd_var 4) pd_int) (pd_var 1) (sideI_eq c.fl true false)) pd_str) (pds_cons (pd_ixT (pd_var 4) pd_int) pds_nil))) rfl) (fix_cg c .drop) (fixE_of (.cons (fix_sheet c _ _) (.cons rfl (.cons (fix_sheet c _ _) (.cons rfl (.cons (fix_lock c) .nil)))))) (by rw [List.length_map]; cases p' <;> decide) (trM_atT (by show ((eLock c).fix && true) = true; rw [fix_lock]; rfl)) hs_endC).wk (fun _ h => h) (fun _ h => oNC_sub (.same (.same (.same (.same (.skip .nil))))) h)
  · have hcand : (cands pay p p').map (eCg c) = ([Cg.pass] ++ if p' = .lk then [Cg.add] else []).map (eCg c) := by
      unfold cands
      cases p <;> cases p' <;> cases pay <;> first | rfl | exact absurd rfl hp
    rw [hcand]
    have e0 : eLocks c p = .tup [] := by cases p <;> first | rfl | exact absurd rfl hp
    exact hs_nx (h_forT0 PassesOwn.never rfl (PD.to (pd_ixT (pd_var 0) pd_int) e0)) (hs_retC (pd_cell 3))
/-! ### change_or_none -/
theorem find_first {α : Type} (P : α → Bool) : ∀ (l : List α), (∃ m x, m < l.length ∧ l[m]? = some x ∧ P x = true ∧ (∀ (j : Nat) y, j < m → l[j]? = some y → P y = false) ∧ l.find? P = some x) ∨ ((∀ (j : Nat) y, l[j]? = some y → P y = false) ∧ l.find? P = none)
  | [] => .inr ⟨fun j y h => by simp at h, rfl⟩
  | a :: l => by
    by_cases h : P a = true
    · exact .inl ⟨0, a, by simp, rfl, h, fun j y hj => by omega, by rw [List.find?_cons_of_pos h]⟩
    · rcases find_first P l with ⟨m, x, h1, h2, h3, h4, h5⟩ | ⟨h1, h2⟩
      · refine .inl ⟨m + 1, x, by simp; omega, by simpa using h2, h3, fun j y hj hy => ?_, by rw [List.find?_cons_of_neg h]; exact h5⟩
        cases j with
        | zero => simp at hy; subst hy; exact Bool.eq_false_iff.mpr h
        | succ j => exact h4 j y (by omega) (by simpa using hy)
      · refine .inr ⟨fun j y hy => ?_, by rw [List.find?_cons_of_neg h]; exact h2⟩
        cases j with
        | zero => simp at hy; subst hy; exact Bool.eq_false_iff.mpr h
        | succ j => exact h1 j y (by simpa using hy)
/-- the body of a for -/
def forBody : Stmt → List Stmt
  | .For _ _ b _ _ => b
  | _ => []
def oCg (c : Ck) : Option Cg → D
  | none => .non
  | some g => eCg c g
def S_con (ds : List D) (d : D) : Prop := ∃ c n p pay n' p', ds = [eSheet c n p, .int (sideI c.fl pay), eSheet c n' p'] ∧ 1 ≤ c.a ∧ (p = .pd → p' = .lk → pay = false) ∧ d = oCg c (conOr c.fit pay n p n' p')
theorem sc_con : FnScope ["sheet", "side", "other", "change", "found"] ["sheet", "side", "other"] (defScope (top 28)) := ⟨rfl, rfl, rfl, by decide +kernel, rfl, by decide +kernel, by decide +kernel⟩
theorem cand_add {pay : Bool} {p p' : Ph} {j : Nat} (h : (cands pay p p')[j]? = some .add) : p' = .lk := by
  have hm := List.mem_of_getElem? h
  cases p' with
  | lk => rfl
  | st => cases p <;> cases pay <;> simp [cands] at hm
  | pd => cases p <;> cases pay <;> simp [cands] at hm
theorem fitP {c : Ck} {pay : Bool} {n n' : Nat} {p p' q : Ph} {g : Cg} (h : chg c.fit pay p g = some q) : ((n' == n + 1) && (chg c.fit pay p g == some p')) = decide (n + 1 = n' ∧ q = p') := by
  rw [h]
  by_cases h1 : n + 1 = n'
  · subst h1
    cases q <;> cases p' <;> simp
  · have : (n' == n + 1) = false := by simp; omega
    rw [this, decide_eq_false (fun z => h1 z.1)]; rfl
theorem fitN {c : Ck} {pay : Bool} {n n' : Nat} {p p' : Ph} {g : Cg} (h : chg c.fit pay p g = none) : ((n' == n + 1) && (chg c.fit pay p g == some p')) = false := by
  rw [h]
  cases p' <;> simp
theorem ok_con (U : UnfitAt K mg CU) (F : FD K mg "change_or_none" (top 28) ["sheet", "side", "other"]) (cs : Cal P w K mg base CX0 1 "changes_of" (spD S_changes_of)) (cc : Cal P w K mg base (L2.CX P w) 14 "changed" (spX CU S_changed)) :
    Cal P w K mg base CX0 15 "change_or_none" (spD S_con) := by
  refine cal_pure F sc_con (fun ds d h => by obtain ⟨_, _, _, _, _, _, rfl, _⟩ := h; rfl) ?_
  rintro f cdv A outer s H E hr _ _ ⟨c, n, p, pay, n', p', rfl, ha, hp, rfl⟩ I
  have len : ((cands pay p p').map (eCg c)).length = (cands pay p p').length := List.length_map ..
  have body0 : defBody (top 28) = [_, _] := rfl
  -- a turn that goes on
  have go : ∀ (J : Asr) (g : Cg), (g = .add → p = .pd → pay = false) → ((n' == n + 1) && (chg c.fit pay p g == some p')) = false → HS (bx P w K mg base ["sheet", "side", "other", "change", "found"] "change_or_none" (top 28) f cdv A outer s H E) J
      ((startE ["sheet", "side", "other", "change", "found"] [eSheet c n p, .int (sideI c.fl pay), eSheet c n' p']).set 3 (some (eCg c g))) (forBody ((defBody (top 28)).headD (.Pass ⟨0, 0, 0, 0⟩)))
      (oNC J (startE ["sheet", "side", "other", "change", "found"] [eSheet c n p, .int (sideI c.fl pay), eSheet c n' p'])) := fun J g hg hP => by
    cases hq : chg c.fit pay p g with
    | none =>
      exact HS.wk (hs_stop (h_tryX (O := oCt J _) rfl rfl U (fun W pn xe tk => r_set 4 sc_con.nd (px_call cc (fun σ => passAt tk σ) hr (by decide) (pds_cons (pd_var 0) (pds_cons (pd_var 1) (pds_cons (pd_var 3) pds_nil))) ⟨c, n, p, pay, g, rfl, hg, by rw [hq]; rfl⟩)) (fun a oe pn => hs_ct)) noNx_ct) (fun _ h => h) (fun D h => (oNC_sub (.same (.same (.same (.skip (.same .nil))))) h).2)
    | some r =>
      rw [fitP hq, decide_eq_false_iff_not] at hP
      refine hs_nx (h_tryN (O := oNx J _) rfl rfl U (fun W pn xe tk => hs_set 4 sc_con.nd (pd_callX cc passL hr (by decide) (pds_cons (pd_var 0) (pds_cons (pd_var 1) (pds_cons (pd_var 3) pds_nil))) (d := eSheet c (n + 1) r) ⟨c, n, p, pay, g, rfl, hg, by rw [hq]; rfl⟩) hs_end)) ?_
      exact hs_ifF (pb_eq hr (pd_var 4) (pd_var 2) ((eqb_sheet c ha _ _ _ _).trans (decide_eq_false hP)) (shp_sheet c _ _) (shp_sheet c _ _)) (hs_end.wk (fun _ h => h) (fun D hD => (oNC_sub (.same (.same (.same (.skip (.skip .nil))))) hD).1))
  -- the turn that finds it
  have stop : ∀ (J : Asr) (g : Cg), (g = .add → p = .pd → pay = false) → ((n' == n + 1) && (chg c.fit pay p g == some p')) = true → HS (bx P w K mg base ["sheet", "side", "other", "change", "found"] "change_or_none" (top 28) f cdv A outer s H E) J
      ((startE ["sheet", "side", "other", "change", "found"] [eSheet c n p, .int (sideI c.fl pay), eSheet c n' p']).set 3 (some (eCg c g))) (forBody ((defBody (top 28)).headD (.Pass ⟨0, 0, 0, 0⟩))) (oRet J (eCg c g)) := fun J g hg hP => by
    cases hq : chg c.fit pay p g with
    | none => rw [fitN hq] at hP; cases hP
    | some r =>
      rw [fitP hq, decide_eq_true_eq] at hP
      refine hs_nx (h_tryN (O := oNx J _) rfl rfl U (fun W pn xe tk => hs_set 4 sc_con.nd (pd_callX cc passL hr (by decide) (pds_cons (pd_var 0) (pds_cons (pd_var 1) (pds_cons (pd_var 3) pds_nil))) (d := eSheet c (n + 1) r) ⟨c, n, p, pay, g, rfl, hg, by rw [hq]; rfl⟩) hs_end)) ?_
      exact hs_ifT (pb_eq hr (pd_var 4) (pd_var 2) ((eqb_sheet c ha _ _ _ _).trans (decide_eq_true hP)) (shp_sheet c _ _) (shp_sheet c _ _)) (hs_ret (pd_var 3)) noNx_ret
  have okg : ∀ (j : Nat) g, (cands pay p p')[j]? = some g → g = .add → p = .pd → pay = false := fun j g hj e1 e2 => hp e2 (cand_add (by rw [hj, e1]))
  have itm : ∀ (j : Nat) d, ((cands pay p p').map (eCg c))[j]? = some d → ∃ g, (cands pay p p')[j]? = some g ∧ d = eCg c g := fun j d h => by
    rw [List.getElem?_map] at h
    cases q : (cands pay p p')[j]? with
    | none => rw [q] at h; cases h
    | some g => rw [q] at h; cases h; exact ⟨g, rfl, rfl⟩
  rcases find_first (fun g => (n' == n + 1) && (chg c.fit pay p g == some p')) (cands pay p p') with ⟨m, g, hm, hg, hP, hno, hf⟩ | ⟨hno, hf⟩
  · have e : conOr c.fit pay n p n' p' = some g := hf
    rw [e]
    refine hs_stop (h_forL_core (m := m) (G := fun _ => I) (Ev := fun _ => startE ["sheet", "side", "other", "change", "found"] [eSheet c n p, .int (sideI c.fl pay), eSheet c n' p'])
      (Eb := fun j => (startE ["sheet", "side", "other", "change", "found"] [eSheet c n p, .int (sideI c.fl pay), eSheet c n' p']).set 3 (some (eCg c ((cands pay p p').getD j .pass)))) PassesOwn.never rfl (pd_call cs pass0 hr (by decide) (pds_cons (pd_var 0) (pds_cons (pd_var 1) (pds_cons (pd_var 2) pds_nil))) ⟨c, n, p, pay, n', p', rfl, rfl⟩) (fun _ h => h) rfl
      (fun a xs j d h _ => ?_) (fun a xs j d h hjm => ?_) (fun _ => noLp_ret) (fun h => by omega)) noNx_ret
    · obtain ⟨g', hg', e'⟩ := itm j d h
      subst e'
      rw [List.getD_eq_getElem?_getD, hg']
      exact pgd_name 3 sc_con.nd
    · obtain ⟨g', hg', e'⟩ := itm j d h
      subst e'
      rw [List.getD_eq_getElem?_getD, hg']
      unfold lpO
      by_cases hj : j < m
      · rw [if_pos hj]
        exact go _ g' (okg j g' hg') (hno j g' hj hg')
      · rw [if_neg hj]
        have ej : j = m := by omega
        subst ej
        rw [hg] at hg'
        cases hg'
        exact (stop _ g (okg j g hg) hP).wk (fun _ h => h) (fun D hD => oRet_le (fun _ h => h.1) hD)
  · have e : conOr c.fit pay n p n' p' = none := hf
    rw [e]
    refine hs_nx (h_forL (G := fun _ => I) (Ev := fun _ => startE ["sheet", "side", "other", "change", "found"] [eSheet c n p, .int (sideI c.fl pay), eSheet c n' p'])
      (Eb := fun j => (startE ["sheet", "side", "other", "change", "found"] [eSheet c n p, .int (sideI c.fl pay), eSheet c n' p']).set 3 (some (eCg c ((cands pay p p').getD j .pass)))) PassesOwn.never rfl (pd_call cs pass0 hr (by decide) (pds_cons (pd_var 0) (pds_cons (pd_var 1) (pds_cons (pd_var 2) pds_nil))) ⟨c, n, p, pay, n', p', rfl, rfl⟩) (fun _ h => h) rfl
      (fun a xs j d h => ?_) (fun a xs j d h => ?_)) (hs_ret pd_non)
    · obtain ⟨g', hg', e'⟩ := itm j d h
      subst e'
      rw [List.getD_eq_getElem?_getD, hg']
      exact pgd_name 3 sc_con.nd
    · obtain ⟨g', hg', e'⟩ := itm j d h
      subst e'
      rw [List.getD_eq_getElem?_getD, hg']
      exact go _ g' (okg j g' hg') (hno j g' hg')
end
end Sd
namespace Sd
open PySem L2
def OkW (w : List Cg) : Prop := w.length ≤ 100
theorem tk_wan (c : Ck) {w : List Cg} (h : OkW w) : Tk 4 (.tup (w.map (eCg c))) := tk_tup (fun d hd => by
  obtain ⟨g, _, rfl⟩ := List.mem_map.mp hd
  exact tk_cg c g) (by rw [List.length_map]; exact Nat.le_trans h (by decide))
theorem tk_off (c : Ck) (n : Nat) (o : Option Ph) : Tk 4 (eOff c n o) := by
  cases o
  · exact tk_non
  · exact tk_sheet _ _ _
theorem tk_bk (c : Ck) (pay : Bool) {b : Bk} (h : OkW b.wan) : Tk 5 (eBk c pay b) := tk_w (.cons tk_int (.cons tk_int (.cons (tk_sheet _ _ _) (.cons (tk_off _ _ _) (.cons tk_bl (.cons (tk_wan c h) .nil))))))
theorem tk_chan (c : Ck) : Tk 1 (eChan c) := by
  unfold eChan
  cases c.fl
  · exact tk_w (.cons tk_int (.cons tk_int (.cons tk_int (.cons tk_int .nil))))
  · exact tk_w (.cons tk_int (.cons tk_int (.cons tk_int (.cons tk_int .nil))))
theorem tk_net {cs : List Ck} (h : cs.length ≤ 10) : Tk 2 (eNet cs) := tk_tup (fun d hd => by
  obtain ⟨g, _, rfl⟩ := List.mem_map.mp hd
  exact tk_chan g) (by rw [List.length_map]; exact Nat.le_trans h (by decide))
/-- the letters that a book takes -/
def eLb (c : Ck) : Lt → D
  | .offer n p => .tup [.str "offer", eSheet c n p]
  | .agree n p => .tup [.str "agree", eSheet c n p]
  | .turn n => .tup [.str "turn", .int c.k, .int n]
  | _ => .non
theorem tk_lb (c : Ck) (l : Lt) : Tk 5 (eLb c l) := by
  cases l
  · exact tk_w (.cons tk_str (.cons (tk_sheet _ _ _) .nil))
  · exact tk_w (.cons tk_str (.cons (tk_sheet _ _ _) .nil))
  · exact tk_w (k := 4) (.cons tk_str (.cons tk_int (.cons tk_int .nil)))
  · exact tk_non
  · exact tk_non
def eAns (c : Ck) : Option (Nat × Ph) → D
  | none => .tup []
  | some (n, p) => .tup [.tup [.str "agree", eSheet c n p]]
theorem sideIN (fl pay : Bool) : sideI fl pay = (sideN fl pay : Int) := by cases fl <;> cases pay <;> rfl
theorem inTurn_eq (fl pay : Bool) (n : Nat) : D.eqb (.int (((n : Int) + 1) % 2)) (.int (sideI fl pay)) = inTurn (sideN fl pay) n := by
  rw [sideIN]
  generalize sideN fl pay = m
  show decide (((n : Int) + 1) % 2 = (m : Int)) = ((n + 1) % 2 == m)
  by_cases h : (n + 1) % 2 = m
  · rw [decide_eq_true (by omega), h]; simp
  · rw [decide_eq_false (by omega)]
    exact (beq_eq_false_iff_ne.mpr h).symm
theorem takenA_offer (fl fit pay : Bool) (b : Bk) (n : Nat) (p : Ph) : takenA fl fit pay b (.offer n p) = if n = b.num ∧ p = b.ph then (b, some (n, p))
    else if (!inTurn (sideN fl pay) b.num && (conOr fit (!pay) b.num b.ph n p).isSome) = true then (⟨n, p, none, false, b.wan⟩, some (n, p)) else (b, none) := rfl
theorem takenA_agree (fl fit pay : Bool) (b : Bk) (n : Nat) (p : Ph) : takenA fl fit pay b (.agree n p) = if b.off = some p ∧ n = b.num + 1 then (⟨n, p, none, false, b.wan⟩, none) else (b, none) := rfl
section
variable {P : Program} {w : World} {K : PySem.W.Frag} {mg : Str → Option Value} {base : Heap} {CU : Addr}
def S_begun_book (ds : List D) (d : D) : Prop := ∃ cs k c pay, ds = [eNet cs, .int (k : Nat), .int (sideI c.fl pay)] ∧ cs.length ≤ 10 ∧ cs[k]? = some c ∧ c.k = k ∧ d = eBk c pay b0
theorem sc_begun_book : FnScope ["net", "channel", "side"] ["net", "channel", "side"] (defScope (top 29)) := ⟨rfl, rfl, rfl, by decide +kernel, rfl, by decide +kernel, by decide +kernel⟩
theorem ok_begun_book (F : FD K mg "begun_book" (top 29) ["net", "channel", "side"]) (ct : Cal P w K mg base CX0 11 "tuple_of" (spD (S_tuple_of 10))) (cf : Cal P w K mg base CX0 2 "first_sheet" (spD S_first)) : Cal P w K mg base CX0 12 "begun_book" (spD S_begun_book) := by
  refine cal_pure F sc_begun_book (fun ds d h => by obtain ⟨_, _, _, _, rfl, _⟩ := h; rfl) ?_
  rintro f cdv A outer s H E hr _ _ ⟨cs, k, c, pay, rfl, hl, hk, ek, rfl⟩ I
  have e : (k : Int) = (c.k : Int) := by rw [ek]
  exact hs_ret (PD.to (pd_tup (pds_cons (pd_var 1) (pds_cons (pd_var 2) (pds_cons (pd_call cf pass0 hr (by decide) (pds_cons (pd_call ct pass0 hr (by decide) (pds_cons (pd_var 0) pds_nil) (tuS (tk_net hl))) (pds_cons (pd_var 1) pds_nil)) ⟨_, _, _, rfl, hk, ek, rfl⟩) (pds_cons pd_non (pds_cons pd_bl (pds_cons (pd_tup pds_nil) pds_nil))))))) (by rw [e]; rfl))
def S_in_turn (ds : List D) (d : D) : Prop := ∃ c pay b, ds = [eBk c pay b] ∧ d = .bl (inTurn (sideN c.fl pay) b.num)
theorem sc_in_turn : FnScope ["book"] ["book"] (defScope (top 30)) := ⟨rfl, rfl, rfl, by decide +kernel, rfl, by decide +kernel, by decide +kernel⟩
theorem ok_in_turn (F : FD K mg "in_turn" (top 30) ["book"]) : Cal P w K mg base CX0 1 "in_turn" (spD S_in_turn) := by
  refine cal_pure F sc_in_turn (fun ds d h => by obtain ⟨_, _, _, rfl, _⟩ := h; rfl) ?_
  rintro f cdv A outer s H E hr _ _ ⟨c, pay, b, rfl, rfl⟩ I
  exact hs_ret (pd_eq hr (pd_mod (pd_add (pd_ixT (pd_ixT (pd_var 0) pd_int) pd_int) pd_int) pd_int (by decide)) (pd_ixT (pd_var 0) pd_int) (inTurn_eq c.fl pay b.num))
def S_wanting_just (ds : List D) (d : D) : Prop := ∃ c pay b w, ds = [eBk c pay b, .tup (w.map (eCg c))] ∧ OkW b.wan ∧ OkW w ∧ d = eBk c pay { b with wan := w }
theorem sc_wanting_just : FnScope ["book", "changes"] ["book", "changes"] (defScope (top 31)) := ⟨rfl, rfl, rfl, by decide +kernel, rfl, by decide +kernel, by decide +kernel⟩
theorem ok_wanting_just (F : FD K mg "wanting_just" (top 31) ["book", "changes"]) (ct : Cal P w K mg base CX0 11 "tuple_of" (spD (S_tuple_of 10))) : Cal P w K mg base CX0 12 "wanting_just" (spD S_wanting_just) := by
  refine cal_pure F sc_wanting_just (fun ds d h => by obtain ⟨_, _, _, _, rfl, _⟩ := h; rfl) ?_
  rintro f cdv A outer s H E hr _ _ ⟨c, pay, b, w, rfl, hb, hw, rfl⟩ I
  exact hs_ret (PD.to (pd_tup (pds_star (pd_slT (pd_call ct pass0 hr (by decide) (pds_cons (pd_var 0) pds_nil) (tuS (tk_bk c pay hb))) pdo_none (pdo_some pd_int)) (pds_cons (pd_call ct pass0 hr (by decide) (pds_cons (pd_var 1) pds_nil) (tuS (tk_wan c hw))) pds_nil))) rfl)
def S_with_newest (ds : List D) (d : D) : Prop := ∃ c pay b n p, ds = [eBk c pay b, eSheet c n p] ∧ d = eBk c pay ⟨n, p, none, false, b.wan⟩
theorem sc_with_newest : FnScope ["book", "sheet"] ["book", "sheet"] (defScope (top 32)) := ⟨rfl, rfl, rfl, by decide +kernel, rfl, by decide +kernel, by decide +kernel⟩
theorem ok_with_newest (F : FD K mg "with_newest" (top 32) ["book", "sheet"]) : Cal P w K mg base CX0 1 "with_newest" (spD S_with_newest) := by
  refine cal_pure F sc_with_newest (fun ds d h => by obtain ⟨_, _, _, _, _, rfl, _⟩ := h; rfl) ?_
  rintro f cdv A outer s H E hr _ _ ⟨c, pay, b, n, p, rfl, rfl⟩ I
  exact hs_ret (PD.to (pd_tup (pds_star (pd_slT (pd_var 0) pdo_none (pdo_some pd_int)) (pds_cons (pd_var 1) (pds_cons pd_non (pds_cons pd_bl (pds_cons (pd_ixT (pd_var 0) pd_int) pds_nil)))))) rfl)
def exSh (c : Ck) (b : Bk) : List D := eSheet c b.num b.ph :: (match b.off with | none => [] | some p => [eSheet c (b.num + 1) p])
def S_exposed (ds : List D) (d : D) : Prop := ∃ c pay b, ds = [eBk c pay b] ∧ OkW b.wan ∧ d = .tup (exSh c b)
theorem sc_exposed : FnScope ["book", "own"] ["book"] (defScope (top 36)) := ⟨rfl, rfl, rfl, by decide +kernel, rfl, by decide +kernel, by decide +kernel⟩
theorem ok_exposed (F : FD K mg "exposed" (top 36) ["book"]) (ct : Cal P w K mg base CX0 11 "tuple_of" (spD (S_tuple_of 10))) : Cal P w K mg base CX0 12 "exposed" (spD S_exposed) := by
  refine cal_pure F sc_exposed (fun ds d h => by obtain ⟨_, _, _, rfl, _⟩ := h; rfl) ?_
  rintro f cdv A outer s H E hr _ _ ⟨c, pay, ⟨n, p, o, a, w⟩, rfl, hb, rfl⟩ I
  refine hs_set 1 sc_exposed.nd (pd_call ct pass0 hr (by decide) (pds_cons (pd_var 0) pds_nil) (tuS (tk_bk c pay hb))) ?_
  cases o with
  | none => exact hs_ret (pd_ifT (pb_isN (pd_ixT (pd_var 1) pd_int)) (pd_tup (pds_cons (pd_ixT (pd_var 1) pd_int) pds_nil)))
  | some q => exact hs_ret (pd_ifF (pb_isN (pd_ixT (pd_var 1) pd_int)) (pd_tup (pds_cons (pd_ixT (pd_var 1) pd_int) (pds_cons (pd_ixT (pd_var 1) pd_int) pds_nil))))
def S_taken (ds : List D) (d : D) : Prop := ∃ c pay b l, ds = [eBk c pay b, eLb c l] ∧ OkW b.wan ∧ 1 ≤ c.a ∧ (match l with | .offer _ p => (b.ph = .pd → p = .lk → pay = true) | .agree _ _ => True | .turn _ => True | _ => False) ∧
  d = .tup [eBk c pay (takenA c.fl c.fit pay b l).1, eAns c (takenA c.fl c.fit pay b l).2]
theorem sc_taken : FnScope ["book", "letter", "own", "word", "more", "channel", "side", "newest", "offered"] ["book", "letter"] (defScope (top 33)) := ⟨rfl, rfl, rfl, by decide +kernel, rfl, by decide +kernel, by decide +kernel⟩
theorem ok_taken (F : FD K mg "taken" (top 33) ["book", "letter"]) (ct : Cal P w K mg base CX0 11 "tuple_of" (spD (S_tuple_of 10))) (ci : Cal P w K mg base CX0 1 "in_turn" (spD S_in_turn)) (cn : Cal P w K mg base CX0 1 "with_newest" (spD S_with_newest))
    (cc : Cal P w K mg base CX0 15 "change_or_none" (spD S_con)) : Cal P w K mg base CX0 16 "taken" (spD S_taken) := by
  refine cal_pure F sc_taken (fun ds d h => by obtain ⟨_, _, _, _, rfl, _⟩ := h; rfl) ?_
  rintro f cdv A outer s H E hr _ _ ⟨c, pay, b, l, rfl, hb, ha, hl, rfl⟩ I
  cases l with
  | secret => exact hl.elim
  | pass => exact hl.elim
  | offer n p =>
    refine hs_asg (pd_tup (pds_cons (pd_call ct pass0 hr (by decide) (pds_cons (pd_var 0) pds_nil) (tuS (tk_bk c pay hb))) (pds_cons (pd_call ct pass0 hr (by decide) (pds_cons (pd_var 1) pds_nil) (tuS (tk_lb c (.offer n p)))) pds_nil))) (pgd_tup rfl (pgsd_cons (pgd_name 2 sc_taken.nd) (pgsd_cons (pgd_star rfl (pgsd_cons (pgd_name 3 sc_taken.nd) (pgsd_star (pgd_name 4 sc_taken.nd) pgsd_nil)) (Nat.le_of_ble_eq_true rfl)) pgsd_nil))) ?_
    refine hs_asg (PD.to (pd_slT (pd_var 2) pdo_none (pdo_some pd_int)) (d2 := .tup [.int c.k, .int (sideI c.fl pay), eSheet c b.num b.ph, eOff c b.num b.off]) rfl) (pgd_tup rfl (pgsd_cons (pgd_name 5 sc_taken.nd) (pgsd_cons (pgd_name 6 sc_taken.nd) (pgsd_cons (pgd_name 7 sc_taken.nd) (pgsd_cons (pgd_name 8 sc_taken.nd) pgsd_nil))))) ?_
    by_cases h1 : n = b.num ∧ p = b.ph
    · have e : takenA c.fl c.fit pay b (.offer n p) = (b, some (n, p)) := by rw [takenA_offer, if_pos h1]
      rw [e]
      obtain ⟨rfl, rfl⟩ := h1
      exact hs_stop (h_ifT (pb_eqS (pd_var 3) pd_str) (hs_ifT (pb_eq hr (pd_ixL (pd_var 4) pd_int) (pd_var 7) ((eqb_sheet c ha _ _ _ _).trans (decide_eq_true ⟨rfl, rfl⟩)) (shp_sheet c _ _) (shp_sheet c _ _)) (hs_ret (pd_tup (pds_cons (pd_var 2) (pds_cons (pd_tup (pds_cons (pd_tup (pds_cons pd_str (pds_cons (pd_var 7) pds_nil))) pds_nil)) pds_nil)))) noNx_ret)) noNx_ret
    · have hne := (eqb_sheet c ha n b.num p b.ph).trans (decide_eq_false h1)
      cases ht : inTurn (sideN c.fl pay) b.num with
      | true =>
        have e : takenA c.fl c.fit pay b (.offer n p) = (b, none) := by rw [takenA_offer, if_neg h1, ht]; rfl
        rw [e]
        refine hs_nx (h_ifT (pb_eqS (pd_var 3) pd_str) (hs_ifF (pb_eq hr (pd_ixL (pd_var 4) pd_int) (pd_var 7) hne (shp_sheet c _ _) (shp_sheet c _ _)) (hs_ifF (pb_w (pbw_and0 (pb_not (pb_val (pd_call ci pass0 hr (by decide) (pds_cons (pd_var 2) pds_nil) ⟨c, pay, _, rfl, rfl⟩)) (by rw [ht]; rfl)))) hs_end))) ?_
        exact hs_ret (pd_tup (pds_cons (pd_var 2) (pds_cons (pd_tup pds_nil) pds_nil)))
      | false =>
        cases hq : conOr c.fit (!pay) b.num b.ph n p with
        | none =>
          have e : takenA c.fl c.fit pay b (.offer n p) = (b, none) := by rw [takenA_offer, if_neg h1, ht, hq]; rfl
          rw [e]
          refine hs_nx (h_ifT (pb_eqS (pd_var 3) pd_str) (hs_ifF (pb_eq hr (pd_ixL (pd_var 4) pd_int) (pd_var 7) hne (shp_sheet c _ _) (shp_sheet c _ _)) (hs_ifF (pb_w (pbw_and (pb_not (pb_val (pd_call ci pass0 hr (by decide) (pds_cons (pd_var 2) pds_nil) ⟨c, pay, _, rfl, rfl⟩)) (by rw [ht]; rfl)) (pbw_and1 (pb_notN (pd_call cc pass0 hr (by decide) (pds_cons (pd_var 7) (pds_cons (PD.to (pd_sub pd_int (pd_var 6)) (congrArg D.int (sideI_not c.fl pay))) (pds_cons (pd_ixL (pd_var 4) pd_int) pds_nil))) ⟨c, _, _, !pay, _, _, rfl, ha, fun h2 h3 => by rw [hl h2 h3]; rfl, rfl⟩) (by rw [hq]; rfl))))) hs_end))) ?_
          exact hs_ret (pd_tup (pds_cons (pd_var 2) (pds_cons (pd_tup pds_nil) pds_nil)))
        | some g =>
          have e : takenA c.fl c.fit pay b (.offer n p) = (⟨n, p, none, false, b.wan⟩, some (n, p)) := by rw [takenA_offer, if_neg h1, ht, hq]; rfl
          rw [e]
          refine hs_stop (h_ifT (pb_eqS (pd_var 3) pd_str) (hs_ifF (pb_eq hr (pd_ixL (pd_var 4) pd_int) (pd_var 7) hne (shp_sheet c _ _) (shp_sheet c _ _)) (hs_ifT (pb_w (pbw_and (pb_not (pb_val (pd_call ci pass0 hr (by decide) (pds_cons (pd_var 2) pds_nil) ⟨c, pay, _, rfl, rfl⟩)) (by rw [ht]; rfl)) (pbw_and1 (pb_notN (pd_call cc pass0 hr (by decide) (pds_cons (pd_var 7) (pds_cons (PD.to (pd_sub pd_int (pd_var 6)) (congrArg D.int (sideI_not c.fl pay))) (pds_cons (pd_ixL (pd_var 4) pd_int) pds_nil))) ⟨c, _, _, !pay, _, _, rfl, ha, fun h2 h3 => by rw [hl h2 h3]; rfl, rfl⟩) (by rw [hq]; cases g <;> rfl))))) ?_ noNx_ret))) noNx_ret
          exact hs_ret (pd_tup (pds_cons (pd_call cn pass0 hr (by decide) (pds_cons (pd_var 2) (pds_cons (pd_ixL (pd_var 4) pd_int) pds_nil)) ⟨c, pay, b, n, p, rfl, rfl⟩) (pds_cons (pd_tup (pds_cons (pd_tup (pds_cons pd_str (pds_cons (pd_ixL (pd_var 4) pd_int) pds_nil))) pds_nil)) pds_nil)))
  | agree n p =>
    refine hs_asg (pd_tup (pds_cons (pd_call ct pass0 hr (by decide) (pds_cons (pd_var 0) pds_nil) (tuS (tk_bk c pay hb))) (pds_cons (pd_call ct pass0 hr (by decide) (pds_cons (pd_var 1) pds_nil) (tuS (tk_lb c (.agree n p)))) pds_nil))) (pgd_tup rfl (pgsd_cons (pgd_name 2 sc_taken.nd) (pgsd_cons (pgd_star rfl (pgsd_cons (pgd_name 3 sc_taken.nd) (pgsd_star (pgd_name 4 sc_taken.nd) pgsd_nil)) (Nat.le_of_ble_eq_true rfl)) pgsd_nil))) ?_
    refine hs_asg (PD.to (pd_slT (pd_var 2) pdo_none (pdo_some pd_int)) (d2 := .tup [.int c.k, .int (sideI c.fl pay), eSheet c b.num b.ph, eOff c b.num b.off]) rfl) (pgd_tup rfl (pgsd_cons (pgd_name 5 sc_taken.nd) (pgsd_cons (pgd_name 6 sc_taken.nd) (pgsd_cons (pgd_name 7 sc_taken.nd) (pgsd_cons (pgd_name 8 sc_taken.nd) pgsd_nil))))) ?_
    obtain ⟨bn, bp, bo, ba, bw⟩ := b
    cases bo with
    | none =>
      have e : takenA c.fl c.fit pay ⟨bn, bp, none, ba, bw⟩ (.agree n p) = (⟨bn, bp, none, ba, bw⟩, none) := by rw [takenA_agree, if_neg (fun q => by cases q.1)]
      rw [e]
      refine hs_nx (h_ifF (pb_eqS (pd_var 3) pd_str) (hs_one (h_ifT (pb_eqS (pd_var 3) pd_str) (hs_ifF (pb_w (pbw_and0 (pb_notN (pd_var 8)))) hs_end)))) (hs_ret (pd_tup (pds_cons (pd_var 2) (pds_cons (pd_tup pds_nil) pds_nil))))
    | some q =>
      have hE := eqb_sheet c ha n (bn + 1) p q
      by_cases h1 : n = bn + 1 ∧ p = q
      · have e : takenA c.fl c.fit pay ⟨bn, bp, some q, ba, bw⟩ (.agree n p) = (⟨n, p, none, false, bw⟩, none) := by rw [takenA_agree, if_pos ⟨by rw [h1.2], h1.1⟩]
        rw [e]
        refine hs_stop (h_ifF (pb_eqS (pd_var 3) pd_str) (hs_one (h_ifT (pb_eqS (pd_var 3) pd_str) (hs_ifT (pb_w (pbw_and (pb_notN (pd_var 8)) (pbw_and1 (pb_eq hr (pd_ixL (pd_var 4) pd_int) (pd_var 8) (hE.trans (decide_eq_true h1)) (shp_sheet c _ _) (shp_sheet c _ _))))) ?_ noNx_ret)))) noNx_ret
        obtain ⟨rfl, rfl⟩ := h1
        exact hs_ret (pd_tup (pds_cons (pd_call cn pass0 hr (by decide) (pds_cons (pd_var 2) (pds_cons (pd_var 8) pds_nil)) ⟨c, pay, _, _, _, rfl, rfl⟩) (pds_cons (pd_tup pds_nil) pds_nil)))
      · have e : takenA c.fl c.fit pay ⟨bn, bp, some q, ba, bw⟩ (.agree n p) = (⟨bn, bp, some q, ba, bw⟩, none) := by rw [takenA_agree, if_neg (fun z => h1 ⟨z.2, (Option.some.inj z.1).symm⟩)]
        rw [e]
        refine hs_nx (h_ifF (pb_eqS (pd_var 3) pd_str) (hs_one (h_ifT (pb_eqS (pd_var 3) pd_str) (hs_ifF (pb_w (pbw_and (pb_notN (pd_var 8)) (pbw_and1 (pb_eq hr (pd_ixL (pd_var 4) pd_int) (pd_var 8) (hE.trans (decide_eq_false h1)) (shp_sheet c _ _) (shp_sheet c _ _))))) hs_end)))) (hs_ret (pd_tup (pds_cons (pd_var 2) (pds_cons (pd_tup pds_nil) pds_nil))))
  | turn n =>
    refine hs_asg (pd_tup (pds_cons (pd_call ct pass0 hr (by decide) (pds_cons (pd_var 0) pds_nil) (tuS (tk_bk c pay hb))) (pds_cons (pd_call ct pass0 hr (by decide) (pds_cons (pd_var 1) pds_nil) (tuS (tk_lb c (.turn n)))) pds_nil))) (pgd_tup rfl (pgsd_cons (pgd_name 2 sc_taken.nd) (pgsd_cons (pgd_star rfl (pgsd_cons (pgd_name 3 sc_taken.nd) (pgsd_star (pgd_name 4 sc_taken.nd) pgsd_nil)) (Nat.le_of_ble_eq_true rfl)) pgsd_nil))) ?_
    refine hs_asg (PD.to (pd_slT (pd_var 2) pdo_none (pdo_some pd_int)) (d2 := .tup [.int c.k, .int (sideI c.fl pay), eSheet c b.num b.ph, eOff c b.num b.off]) rfl) (pgd_tup rfl (pgsd_cons (pgd_name 5 sc_taken.nd) (pgsd_cons (pgd_name 6 sc_taken.nd) (pgsd_cons (pgd_name 7 sc_taken.nd) (pgsd_cons (pgd_name 8 sc_taken.nd) pgsd_nil))))) ?_
    have hE : D.eqb (.lst [.int c.k, .int n]) (.lst [.int c.k, .int b.num]) = decide (n = b.num) := by
      show (decide ((c.k : Int) = c.k) && (decide ((n : Int) = b.num) && true)) = decide (n = b.num)
      rw [decide_eq_true rfl]
      by_cases h : n = b.num
      · subst h; simp
      · rw [decide_eq_false h, decide_eq_false (by omega)]; rfl
    have hT : takenA c.fl c.fit pay b (.turn n) = if (n = b.num && inTurn (sideN c.fl pay) b.num && b.off.isNone) = true then ({ b with asked := true }, none) else (b, none) := rfl
    by_cases h1 : n = b.num
    · have hE1 := hE.trans (decide_eq_true h1)
      cases ht : inTurn (sideN c.fl pay) b.num with
      | false =>
        have e : takenA c.fl c.fit pay b (.turn n) = (b, none) := by rw [hT, ht]; simp
        rw [e]
        refine hs_nx (h_ifF (pb_eqS (pd_var 3) pd_str) (hs_one (h_ifF (pb_eqS (pd_var 3) pd_str) (hs_ifF (pb_w (pbw_and (pb_eqS (pd_var 3) pd_str) (pbw_and (pb_eq hr (pd_var 4) (pd_lst (pds_cons (pd_var 5) (pds_cons (pd_ixT (pd_var 7) pd_int) pds_nil))) hE1) (pbw_and0 (pb_val (PD.to (pd_call ci pass0 hr (by decide) (pds_cons (pd_var 2) pds_nil) ⟨c, pay, _, rfl, rfl⟩) (by rw [ht]))))))) hs_end)))) (hs_ret (pd_tup (pds_cons (pd_var 2) (pds_cons (pd_tup pds_nil) pds_nil))))
      | true =>
        obtain ⟨bn, bp, bo, ba, bw⟩ := b
        cases bo with
        | some q =>
          have e : takenA c.fl c.fit pay ⟨bn, bp, some q, ba, bw⟩ (.turn n) = (⟨bn, bp, some q, ba, bw⟩, none) := by rw [hT]; simp
          rw [e]
          refine hs_nx (h_ifF (pb_eqS (pd_var 3) pd_str) (hs_one (h_ifF (pb_eqS (pd_var 3) pd_str) (hs_ifF (pb_w (pbw_and (pb_eqS (pd_var 3) pd_str) (pbw_and (pb_eq hr (pd_var 4) (pd_lst (pds_cons (pd_var 5) (pds_cons (pd_ixT (pd_var 7) pd_int) pds_nil))) hE1) (pbw_and (pb_val (PD.to (pd_call ci pass0 hr (by decide) (pds_cons (pd_var 2) pds_nil) ⟨c, pay, _, rfl, rfl⟩) (by rw [ht]))) (pbw_and1 (pb_isN (pd_var 8))))))) hs_end)))) (hs_ret (pd_tup (pds_cons (pd_var 2) (pds_cons (pd_tup pds_nil) pds_nil))))
        | none =>
          have e : takenA c.fl c.fit pay ⟨bn, bp, none, ba, bw⟩ (.turn n) = (⟨bn, bp, none, true, bw⟩, none) := by rw [hT, ht, decide_eq_true h1]; rfl
          rw [e]
          exact hs_stop (h_ifF (pb_eqS (pd_var 3) pd_str) (hs_one (h_ifF (pb_eqS (pd_var 3) pd_str) (hs_ifT (pb_w (pbw_and (pb_eqS (pd_var 3) pd_str) (pbw_and (pb_eq hr (pd_var 4) (pd_lst (pds_cons (pd_var 5) (pds_cons (pd_ixT (pd_var 7) pd_int) pds_nil))) hE1) (pbw_and (pb_val (PD.to (pd_call ci pass0 hr (by decide) (pds_cons (pd_var 2) pds_nil) ⟨c, pay, _, rfl, rfl⟩) (by rw [ht]))) (pbw_and1 (pb_isN (pd_var 8))))))) (hs_ret (PD.to (pd_tup (pds_cons (pd_tup (pds_star (pd_slT (pd_var 2) pdo_none (pdo_some pd_int)) (pds_cons pd_bl (pds_cons (pd_ixT (pd_var 2) pd_int) pds_nil)))) (pds_cons (pd_tup pds_nil) pds_nil))) rfl)) noNx_ret)))) noNx_ret
    · have e : takenA c.fl c.fit pay b (.turn n) = (b, none) := by rw [hT, decide_eq_false h1]; rfl
      rw [e]
      refine hs_nx (h_ifF (pb_eqS (pd_var 3) pd_str) (hs_one (h_ifF (pb_eqS (pd_var 3) pd_str) (hs_ifF (pb_w (pbw_and (pb_eqS (pd_var 3) pd_str) (pbw_and0 (pb_eq hr (pd_var 4) (pd_lst (pds_cons (pd_var 5) (pds_cons (pd_ixT (pd_var 7) pd_int) pds_nil))) (hE.trans (decide_eq_false h1)))))) hs_end)))) (hs_ret (pd_tup (pds_cons (pd_var 2) (pds_cons (pd_tup pds_nil) pds_nil))))
end
end Sd
namespace Sd
open PySem L2
/-! ### enumerate(a tuple) -/
def enObj (it : Addr) : Obj := { cls := .type "enumerate", data := .fields #[.none, .bool false, .ref it, rawInt 0, .none, .none] }
def tiObj (t : Addr) : Obj := { cls := .type "tuple_iterator", data := .fields #[.ref t, .int 0 0] }
theorem meets_enT (t : Addr) (items : Array Value) : Meets (Builtin.«enumerate.__new__» ⟨[.type "enumerate", .ref t], []⟩) (fun _ R s => s.heap.IsTuple t items ∧
    R (.ok (.ret (.ref (s.heap.push (tiObj t)).objs.size))) { s with heap := (s.heap.push (tiObj t)).push (enObj s.heap.objs.size) }) :=
  .of_wp fun prog w A R s h => by
    obtain ⟨hp, g, d, tk, os⟩ := s
    obtain ⟨h1, h⟩ := h
    have hsub := sub_enumerate
    have B := begins_tuple t items
    have q1 : ∀ {A' : Around} {E : Value → Shared → Prop} {Q : Value → Shared → Prop}, Q (.ref hp.objs.size) ⟨hp.push (tiObj t), g, d, tk, os⟩ → wpAny (model prog w) A' (pyIter (.ref t)) Q E ⟨hp, g, d, tk, os⟩ :=
      fun q => B.iter prog w _ _ ⟨hp, g, d, tk, os⟩ _ h1 q
    wp_walk using q1
    refine wpAny_stack_any fun st => wpAny_pure ?_
    split
    · rename_i c _ _ _ _ _
      cases (c == Value.type "enumerate")
      · wp_walk using q1
        exact ⟨_, rfl, h⟩
      · wp_walk using q1
        exact ⟨_, rfl, h⟩
    · wp_walk using q1
      exact ⟨_, rfl, h⟩
theorem call_enT {prog : Program} {w : World} {A : Around} {E : Value → Shared → Prop} {s : Shared} {t : Addr} {items : Array Value} {Q : Value → Shared → Prop} (ht : s.heap.IsTuple t items)
    (h : ∀ h', IsEnum h' (s.heap.objs.size + 1) s.heap.objs.size 0 .none → h'.IsTupleIter s.heap.objs.size t 0 → (∀ b o, s.heap.get? b = some o → h'.get? b = some o) → Q (.ref (s.heap.objs.size + 1)) { s with heap := h' }) :
    wpAny (model prog w) A (call (.type "enumerate") [.ref t]) Q E s := by
  refine callType_new F.called_enumerate (by decide) (F.typeCall_enumerate_1 _) (F.newCall_enumerate_1 _) (fun obj => F.args_object_init_2 obj _) F.entry_enumerate_new (meets_enT t items) ⟨ht, ?_⟩
  have hz : (s.heap.push (tiObj t)).objs.size = s.heap.objs.size + 1 := Heap.size_push ..
  show _ ∧ _
  rw [hz]
  have he : IsEnum ((s.heap.push (tiObj t)).push (enObj s.heap.objs.size)) (s.heap.objs.size + 1) s.heap.objs.size 0 .none := by
    have := Heap.get?_push_size (s.heap.push (tiObj t)) (o := enObj s.heap.objs.size) rfl
    rw [hz] at this
    exact this
  exact ⟨⟨_, he, rfl⟩, h _ he ⟨_, Heap.get?_push_of_some _ (Heap.get?_push_size _ rfl), rfl, rfl⟩ fun b o x => Heap.get?_push_of_some _ (Heap.get?_push_of_some _ x)⟩
/-- the tuple at a, the items in new pairs -/
def IteT (K : PySem.W.Frag) (a : Addr) : It :=
  ⟨fun i H => ∃ (xs : List V) (x : V), SqT K H a xs ∧ xs[i]? = some x, fun i H v H' => ∃ T x, v = .ref T ∧ H T = none ∧ H' = upd H T (.tup [.int (i : Nat), x]) ∧ ∀ xs, SqT K H a xs → xs[i]? = some x, fun i H => ∃ xs : List V, SqT K H a xs ∧ xs.length ≤ i⟩
theorem turn_enT {P : Program} {w : World} {K : PySem.W.Frag} {elts : List Expr} {kk : Nat} {tpos : Pos} (a e it : Addr) (hab : a ≠ it) (hea : e ≠ a) :
    Turn P w K (.Tuple elts kk tpos) (IteT K a) [e, it] e (fun i h => (∃ old, IsEnum h e it ((i : Nat) : Int) old) ∧ h.IsTupleIter it a i ∧ e ≠ it) where
  mem := by simp
  obj := fun i h st b hb => by
    obtain ⟨⟨old, he⟩, ⟨o, ho, hc, hd⟩, _⟩ := st
    have e' : b = e ∨ b = it := by simpa using hb
    rcases e' with z | z
    · rw [z]; exact ⟨_, he, fun v q => nomatch q⟩
    · rw [z]; exact ⟨o, ho, fun v q => by rw [hd] at q; cases q⟩
  keep := fun i h h' ⟨⟨old, he⟩, hi, hne⟩ k => ⟨⟨old, k e (by simp) _ he⟩, hi.at fun o q => k it (by simp) o q, hne⟩
  item := by
    intro X hP hw hK hc i pins s σ H E I hf st hg
    subst hP hw hK
    obtain ⟨⟨old, he⟩, hit, hne⟩ := st
    obtain ⟨xs, x, hq, hx⟩ := hg
    obtain ⟨its, rv, p, hz⟩ := I.tuple hq
    obtain ⟨u, hu, ru⟩ := rv.get hx
    have hel : e < s.heap.objs.size := Heap.lt_size he
    have hil : it < s.heap.objs.size := let ⟨_, q, _⟩ := hit; Heap.lt_size q
    have ht : s.heap.IsTuple a its.toArray := p
    have hi : i < its.toArray.size := by
      have := (List.getElem?_eq_some_iff.mp hu).1
      simpa using this
    refine wpAny_pyNext_enum_itemC (Draws.tuple (show X.A.in1.handled = none from I.ok.hd hc) it a hab its.toArray) he ⟨hit, ht⟩ hi hne (by simp [hne, hea]) fun x' h' tk hP ho hs hT hsz hk => ?_
    have ex : x' = u := by
      have e1 : its.toArray[i]? = some u := by simpa using hu
      rw [e1] at hP
      exact (Option.some.inj hP).symm
    subst ex
    refine ⟨_, rfl, wpAny_letOwnedTupleGo_enum (s := { s with heap := h', toks := tk + 1 }) ho fun h'' he' sb => ?_⟩
    have hT2 : h''.get? s.heap.objs.size = some { cls := .type "tuple", data := .seq #[.int i tk, x'] } := (sb.2 _ (Nat.ne_of_gt hel)).trans hT
    have new : ObjOk X.prog X.w (upd H s.heap.objs.size (.tup [.int (i : Nat), x])) h'' s.heap.objs.size (.tup [.int (i : Nat), x]) :=
      ⟨by show 2 ≤ sizeLine; exact zz rfl, [.int i tk, x'], .cons ⟨_, rfl⟩ (.cons ru .nil), ⟨_, hT2, rfl, _, rfl⟩⟩
    have I1 : Inv X pins σ (upd H s.heap.objs.size (.tup [.int (i : Nat), x])) { s with heap := h'', toks := tk + 1 } :=
      I.turnedNew (ch := [e, it]) (fun b ob hb q => (sb.2 b (fun z => hb (by simp [z]))).trans (hk b ob (fun z => hb (by simp [z])) (fun z => hb (by simp [z])) q)) hf (Nat.le_refl _) new
    refine ⟨.ref s.heap.objs.size, _, I1, rfl, ⟨_, x, rfl, I.hok.fresh (Nat.le_refl _), rfl, fun ys hy => by rw [I.tuple_inj hy hq]; exact hx⟩, ⟨⟨x', ?_⟩, hs.1.at fun o q => (sb.2 it (Ne.symm hne)).trans q, hne⟩, fun b hb => ?_⟩
    · have e1 : ((i + 1 : Nat) : Int) = (i : Int) + 1 := by omega
      rw [e1]; exact he'
    · have hb' : b < s.heap.objs.size := by
        have e' : b = e ∨ b = it := by simpa using hb
        rcases e' with z | z
        · rw [z]; exact hel
        · rw [z]; exact hil
      rw [upd_ne (Nat.ne_of_lt hb')]
      exact (hf b hb).1
  done := by
    intro X hP hw hK hc i pins s σ H E I hf st hg
    subst hP hw hK
    obtain ⟨⟨old, he⟩, hit, hne⟩ := st
    obtain ⟨xs, hq, hx⟩ := hg
    obtain ⟨its, rv, p, hz⟩ := I.tuple hq
    obtain ⟨f0, f1, f2, f3, f4, f5⟩ := hf it (by simp)
    have hl := rv.length
    have ht : s.heap.IsTuple a its.toArray := p
    have D : Draws X.prog X.w X.A.in1 it [it, a] i (fun _ _ => True) (fun j h => j = i ∧ h.IsTupleIter it a j ∧ h.IsTuple a its.toArray) :=
      ⟨fun _ _ st => let ⟨o, ho, _⟩ := st.2.1; ⟨o, ho⟩, fun _ _ _ st hk => ⟨st.1, st.2.1.at fun o e => hk it (by simp) o e, st.2.2.at fun o e => hk a (by simp) o e⟩, fun j s Q E hj st hQ => absurd st.1 (Nat.ne_of_lt hj),
        fun s Q E st hE => wpAny_nextOf_tuple_end (show X.A.in1.handled = none from I.ok.hd hc) st.2.1 st.2.2 (by simp; omega) hE⟩
    exact wpAny_pyNext_enum_endD D he ⟨rfl, hit, ht⟩ fun h' eb => ⟨rfl, I.turned (t' := s.toks) (fun b o hb q => eb b o hb q) f0 f1 f3 f4 f5⟩
  self := fun A i s Q E ⟨⟨_, he⟩, _⟩ h => wpAny_pyIter_enum he h
def iEnT (K : PySem.W.Frag) (ta : TA) : TI := fun σ H R => ta σ H fun vs H1 => ∃ a xs, vs = [.ref a] ∧ SqT K H1 a xs ∧ R (IteT K a) H1
theorem pi_enT {X : Cx} {e : Expr} {ta : TA} {p pos tpos : Pos} {elts : List Expr} {kk : Nat} (hg : Gl X "enumerate") (hm : X.mg "enumerate" = none) (ha : PA X [e] ta) (hs : starEach [e] X.env = [(false, eval e X.env)] := by rfl) :
    PI X (.Tuple elts kk tpos) (.Call (.Name "enumerate" p) [e] [] pos) (iEnT X.K ta) := by
  refine ⟨fun pins s σ H R I h => PyProof.Rows.Call_ (ld_blt I hg hm PyProof.Rows.boot_enumerate (PyProof.Rows.callWith_type1 (thn (ha.run pos pins s σ H _ I h) fun us s1 ⟨vs, H1, I1, r1, a, xs, ex, hq, q⟩ => ?_) hs rfl))⟩
  subst ex
  cases r1 with
  | cons r rr =>
    cases rr
    cases r
    obtain ⟨its, rv, p', hz⟩ := I1.tuple hq
    have ht : s1.heap.IsTuple a its.toArray := p'
    have hal : a < s1.heap.objs.size := let ⟨_, z, _⟩ := ht; Heap.lt_size z
    refine call_enT ht fun h' he hit hk => wpAny_pyIter_enum he ?_
    have I2 : Inv X pins σ H1 { s1 with heap := h' } := I1.kept (t' := s1.toks) hk
    refine ⟨s1.heap.objs.size + 1, [s1.heap.objs.size + 1, s1.heap.objs.size], _, _, H1, rfl, I2, turn_enT a (s1.heap.objs.size + 1) s1.heap.objs.size (Nat.ne_of_lt hal) (Nat.ne_of_gt (Nat.lt_succ_of_lt hal)), ⟨⟨.none, he⟩, hit, Nat.succ_ne_self _⟩, fun b hb => ?_, q⟩
    have e' : b = s1.heap.objs.size + 1 ∨ b = s1.heap.objs.size := by simpa using hb
    have hle : s1.heap.objs.size ≤ b := by
      rcases e' with z | z
      · rw [z]; exact Nat.le_add_right _ _
      · rw [z]; exact Nat.le_refl _
    exact I1.fpOk hle (I1.hok.fresh hle)
theorem walk_enT {K : PySem.W.Frag} {a : Addr} {xs : List V} : Walk (IteT K a) xs.length (fun H => SqT K H a xs) (YPair (fun i => some (.int (i : Nat))) (fun i => xs[i]?)) :=
  ⟨fun i _ hi q => ⟨xs, xs[i], q, by simp [hi]⟩, fun _ q => ⟨xs, q, Nat.le_refl _⟩, fun i H v H' _ q ⟨T, x, h1, h2, h3, h4⟩ => ⟨T, .int (i : Nat), x, h1, h2, h3, rfl, h4 xs q⟩⟩
section
variable {X : Cx} {I : Asr} {env : Ev} {e : Expr} {body : List Stmt} {ds : List D} {pos p cpos tpos : Pos} {O : Ends → Prop} {elts : List Expr} {kk : Nat}
/-- for (i, x) in enumerate(a tuple): .. up to the turn m -/
theorem h_forE_core {G : Nat → Asr} {Ev Eb : Nat → List (Option D)} {m : Nat} (hp : PassesOwn (model X.prog X.w) X.A X.env X.xe) (hc : X.calm = true) (hm : X.mg "enumerate" = none) (hi : PD X I env e (.tup ds)) (h0 : ∀ H, I.p H → (G 0).p H) (e0 : Ev 0 = env)
    (hg : ∀ a xs j d, ds[j]? = some d → j ≤ m → PG X (.Tuple elts kk tpos) (tG ((G j).and (atT a xs ds)) (.tup [.int (j : Nat), d]) (Ev j) (Eb j)))
    (hb : ∀ a xs j d, ds[j]? = some d → j ≤ m → HS X ((G j).and (atT a xs ds)) (Eb j) body (lpO atT ds G Ev m O a xs j)) (hO : m < ds.length → NoLp O) (hE0 : ds.length ≤ m → ∀ D, O D → oNx (G ds.length) (Ev ds.length) D)
    (hgl : Gl X "enumerate" := by rfl) (hst : starEach [e] X.env = [(false, eval e X.env)] := by rfl) (hst2 : starEach (e :: []) X.env = (false, eval e X.env) :: starEach [] X.env := by rfl)
    (hs : ∀ x, foldedSetIterable (.Call (.Name "enumerate" p) [e] [] cpos) X.env x = pure x := by intro _; rfl) : H1 X I env (.For (.Tuple elts kk tpos) (.Call (.Name "enumerate" p) [e] [] cpos) body [] pos) O := by
  refine (ps_for hp hc (pi_enT hgl hm (pds_cons hi pds_nil hst2) hst) (g := fun v σ H Q => ∃ t : LIx, (ds[t.2.2.1]? = some t.2.2.2 ∧ t.2.2.1 ≤ m) ∧ tG ((G t.2.2.1).and (atT t.1 t.2.1 ds)) (.tup [.int (t.2.2.1 : Nat), t.2.2.2]) (Ev t.2.2.1) (Eb t.2.2.1) v σ H Q)
    (pg_exI fun (t : LIx) h => hg t.1 t.2.1 t.2.2.1 t.2.2.2 h.1 h.2) (tb := lpB atT ds m G Eb (lpO atT ds G Ev m O)) (pss_exI fun (t : LIx) h => hb t.1 t.2.1 t.2.2.1 t.2.2.2 h.1 h.2) hs).wk
    fun D σ H ⟨hI, hE, k⟩ => ⟨hI, hE, fun vs H1 s1 r1 => ?_⟩
  obtain ⟨v, e1, r1⟩ := r1.one
  obtain ⟨a, xs, e2, ha, hl⟩ := r1.tup_inv
  subst e1 e2
  refine ⟨a, xs, rfl, SqT.of ha, for_it (D := D) (σ := σ) (H := H1) (g := fun v σ H Q => ∃ t : LIx, (ds[t.2.2.1]? = some t.2.2.2 ∧ t.2.2.1 ≤ m) ∧ tG ((G t.2.2.1).and (atT t.1 t.2.1 ds)) (.tup [.int (t.2.2.1 : Nat), t.2.2.2]) (Ev t.2.2.1) (Eb t.2.2.1) v σ H Q) (tb := lpB atT ds m G Eb (lpO atT ds G Ev m O)) (walk_enT (K := X.K)) (fun i σ H => i ≤ m ∧ ((G i).and (atT a xs ds)).p H ∧ EnvR H σ (Ev i)) ⟨Nat.zero_le _, ⟨I.mono s1 hI |> h0 _, ha, hl⟩, by rw [e0]; exact hE.mono s1⟩ (fun i σ H _ p => SqT.of p.2.1.2.1) (fun i x σ H H' hx p y => ?_) (fun σ H p => ?_)⟩
  · obtain ⟨T, y1, y2, ev, hT, eH, e3, e4⟩ := y
    cases e3
    subst ev eH
    obtain ⟨hm', hG, hE⟩ := p
    obtain ⟨d, hd, rd⟩ := hG.2.2.rget e4
    have sN := Same.new (o := .tup [.int (i : Nat), y2]) hT
    refine ⟨(a, xs, i, d), ⟨hd, hm'⟩, ((G i).and (atT a xs ds)).mono sN hG, Rep.tup_new hT ?_, hE.mono sN, fun σ' H' s' hE' => ⟨(a, xs, i, d), ⟨hd, hm'⟩, ((G i).and (atT a xs ds)).mono s' (((G i).and (atT a xs ds)).mono sN hG), hE', ?_⟩⟩
    · unfold RepL
      refine ⟨_, _, rfl, rfl, ?_⟩
      unfold RepL
      exact ⟨_, _, rfl, rd, rfl⟩
    show lpO atT ds G Ev m O a xs i _
    unfold lpO
    by_cases hi : i < m
    · rw [if_pos hi]
      exact ⟨fun σ H h1 h2 => ⟨hi, h1, h2⟩, fun σ H h1 h2 => ⟨hi, h1, h2⟩⟩
    · rw [if_neg hi]
      have hil : i < ds.length := (List.getElem?_eq_some_iff.mp hd).1
      exact hO (by omega) _ _ _ _ k
  · obtain ⟨hm', hG, hE⟩ := p
    have hlen := hl.length
    rw [hlen] at hm' hG hE
    exact hE0 (by omega) D k σ H hG.1 hE
end
end Sd
namespace Sd
open PySem L2
theorem ff_first (fit pay : Bool) (ph : Ph) : ∀ w : List Cg, (∃ m g p, m < w.length ∧ w[m]? = some g ∧ chg fit pay ph g = some p ∧ (∀ (j : Nat) y, j < m → w[j]? = some y → chg fit pay ph y = none) ∧ firstFit fit pay ph w = some (p, w.drop (m + 1))) ∨
    ((∀ (j : Nat) y, w[j]? = some y → chg fit pay ph y = none) ∧ firstFit fit pay ph w = none)
  | [] => .inr ⟨fun j y h => by simp at h, rfl⟩
  | a :: w => by
    cases h : chg fit pay ph a with
    | some p => exact .inl ⟨0, a, p, by simp, rfl, h, fun j y hj => by omega, by unfold firstFit; rw [h]; rfl⟩
    | none =>
      have e : firstFit fit pay ph (a :: w) = firstFit fit pay ph w := by
        conv => lhs; unfold firstFit
        rw [h]
      rw [e]
      rcases ff_first fit pay ph w with ⟨m, g, p, h1, h2, h3, h4, h5⟩ | ⟨h1, h2⟩
      · refine .inl ⟨m + 1, g, p, by simp; omega, by simpa using h2, h3, fun j y hj hy => ?_, h5⟩
        cases j with
        | zero => simp at hy; subst hy; exact h
        | succ j => exact h4 j y (by omega) (by simpa using hy)
      · refine .inr ⟨fun j y hy => ?_, h2⟩
        cases j with
        | zero => simp at hy; subst hy; exact h
        | succ j => exact h1 j y (by simpa using hy)
theorem cut_from {ds : List D} {m : Nat} (h : m + 1 ≤ ds.length) : cutD ds (some ((m : Int) + 1)) none = ds.drop (m + 1) := by
  have e1 : HT.sIx ds.length 0 (some ((m : Int) + 1)) = m + 1 := by
    have q : ((m : Int) + 1) = ((m + 1 : Nat) : Int) := by omega
    rw [q, HT.sIx_nat, Nat.min_eq_left h]
  unfold cutD
  rw [e1]
  have e2 : HT.sIx ds.length ds.length none = ds.length := rfl
  rw [e2]
  exact List.take_of_length_le (by rw [List.length_drop]; exact Nat.le_refl _)
def eFF (c : Ck) (n : Nat) : Option (Ph × List Cg) → D
  | none => .tup [.non, .tup []]
  | some (p, l) => .tup [eSheet c (n + 1) p, .tup (l.map (eCg c))]
theorem pds_one {X : Cx} {I : Asr} {env : Ev} {e : Expr} {d : D} (h : PD X I env e d) (hs : starEach (e :: []) X.env = (false, eval e X.env) :: starEach [] X.env := by rfl) : PDs X I env [e] [d] := pds_cons h pds_nil hs
section
variable {P : Program} {w : World} {K : PySem.W.Frag} {mg : Str → Option Value} {base : Heap} {CU : Addr}
def S_ff (ds : List D) (d : D) : Prop := ∃ c pay b, ds = [eBk c pay b] ∧ OkW b.wan ∧ (Cg.add ∈ b.wan → b.ph = .pd → pay = false) ∧ d = eFF c b.num (firstFit c.fit pay b.ph b.wan)
theorem sc_ff : FnScope ["book", "place", "change"] ["book"] (defScope (top 34)) := ⟨rfl, rfl, rfl, by decide +kernel, rfl, by decide +kernel, by decide +kernel⟩
theorem ok_ff (B : Free mg) (hen : mg "enumerate" = none) (U : UnfitAt K mg CU) (F : FD K mg "first_fitting" (top 34) ["book"]) (cc : Cal P w K mg base (L2.CX P w) 14 "changed" (spX CU S_changed)) : Cal P w K mg base CX0 15 "first_fitting" (spD S_ff) := by
  refine cal_pure F sc_ff (fun ds d h => by obtain ⟨_, _, _, rfl, _⟩ := h; rfl) ?_
  rintro f cdv A outer s H E hr _ _ ⟨c, pay, b, rfl, hb, hp, rfl⟩ I
  have len : (b.wan.map (eCg c)).length = b.wan.length := List.length_map ..
  have itm : ∀ (j : Nat) d, (b.wan.map (eCg c))[j]? = some d → ∃ g, b.wan[j]? = some g ∧ d = eCg c g := fun j d h => by
    rw [List.getElem?_map] at h
    cases q : b.wan[j]? with
    | none => rw [q] at h; cases h
    | some g => rw [q] at h; cases h; exact ⟨g, rfl, rfl⟩
  have go : ∀ (J : Asr) (j : Nat) (g : Cg), g ∈ b.wan → chg c.fit pay b.ph g = none → HS (bx P w K mg base ["book", "place", "change"] "first_fitting" (top 34) f cdv A outer s H E) J
      (((startE ["book", "place", "change"] [eBk c pay b]).set 1 (some (.int (j : Nat)))).set 2 (some (eCg c g))) (forBody ((defBody (top 34)).headD (.Pass ⟨0, 0, 0, 0⟩)))
      (oNC J (startE ["book", "place", "change"] [eBk c pay b])) := fun J j g hgm hq => by
    exact HS.wk (hs_stop (h_tryX (O := oCt J _) rfl rfl U (fun W pn xe tk => r_ret (px_tup (px_call cc (fun σ => passAt tk σ) hr (by decide) (pds_cons (pd_ixT (pd_var 0) pd_int) (pds_cons (pd_ixT (pd_var 0) pd_int) (pds_cons (pd_var 2) pds_nil))) ⟨c, _, _, pay, g, rfl, fun hga => hp (hga ▸ hgm), by rw [hq]; rfl⟩) pa_nev)) (fun a oe pn => hs_ct)) noNx_ct) (fun _ h => h) (fun D h => (oNC_sub (.same (.skip (.skip .nil))) h).2)
  have stop : ∀ (J : Asr) (j : Nat) (g : Cg) (p : Ph), g ∈ b.wan → j < b.wan.length → chg c.fit pay b.ph g = some p → HS (bx P w K mg base ["book", "place", "change"] "first_fitting" (top 34) f cdv A outer s H E) J
      (((startE ["book", "place", "change"] [eBk c pay b]).set 1 (some (.int (j : Nat)))).set 2 (some (eCg c g))) (forBody ((defBody (top 34)).headD (.Pass ⟨0, 0, 0, 0⟩)))
      (oRet J (eFF c b.num (some (p, b.wan.drop (j + 1))))) := fun J j g p hgm hj hq => by
    refine hs_stop (h_tryN (O := oRet J _) rfl rfl U (fun W pn xe tk => hs_ret (PD.to (pd_tup (pds_cons (pd_callX cc passL hr (by decide) (pds_cons (pd_ixT (pd_var 0) pd_int) (pds_cons (pd_ixT (pd_var 0) pd_int) (pds_cons (pd_var 2) pds_nil))) (d := eSheet c (b.num + 1) p) ⟨c, _, _, pay, g, rfl, fun hga => hp (hga ▸ hgm), by rw [hq]; rfl⟩) (pds_one (pd_slT (pd_ixT (pd_var 0) pd_int) (pdo_some (pd_add (pd_var 1) pd_int)) pdo_none)))) ?_))) noNx_ret
    rw [cut_from (by rw [len]; exact hj), ← List.map_drop]
    rfl
  rcases ff_first c.fit pay b.ph b.wan with ⟨m, g, p, hm, hg, hP, hno, hf⟩ | ⟨hno, hf⟩
  · rw [hf]
    refine hs_stop (h_forE_core (m := m) (G := fun _ => I) (Ev := fun _ => startE ["book", "place", "change"] [eBk c pay b])
      (Eb := fun j => ((startE ["book", "place", "change"] [eBk c pay b]).set 1 (some (.int (j : Nat)))).set 2 (some (eCg c (b.wan.getD j .pass)))) PassesOwn.never rfl hen (pd_ixT (pd_var 0) pd_int) (fun _ h => h) rfl
      (fun a xs j d h _ => ?_) (fun a xs j d h hjm => ?_) (fun _ => noLp_ret) (fun h => by rw [len] at h; omega)) noNx_ret
    · obtain ⟨g', hg', e'⟩ := itm j d h
      subst e'
      rw [List.getD_eq_getElem?_getD, hg']
      exact pgd_tup rfl (pgsd_cons (pgd_name 1 sc_ff.nd) (pgsd_cons (pgd_name 2 sc_ff.nd) pgsd_nil))
    · obtain ⟨g', hg', e'⟩ := itm j d h
      subst e'
      rw [List.getD_eq_getElem?_getD, hg']
      unfold lpO
      by_cases hj : j < m
      · rw [if_pos hj]
        exact go _ j g' (List.mem_of_getElem? hg') (hno j g' hj hg')
      · rw [if_neg hj]
        have ej : j = m := by omega
        subst ej
        rw [hg] at hg'
        cases hg'
        exact (stop _ j g p (List.mem_of_getElem? hg) hm hP).wk (fun _ h => h) (fun D hD => oRet_le (fun _ h => h.1) hD)
  · rw [hf]
    refine hs_nx (h_forE_core (m := (b.wan.map (eCg c)).length) (O := oNx I (startE ["book", "place", "change"] [eBk c pay b])) (G := fun _ => I) (Ev := fun _ => startE ["book", "place", "change"] [eBk c pay b])
      (Eb := fun j => ((startE ["book", "place", "change"] [eBk c pay b]).set 1 (some (.int (j : Nat)))).set 2 (some (eCg c (b.wan.getD j .pass)))) PassesOwn.never rfl hen (pd_ixT (pd_var 0) pd_int) (fun _ h => h) rfl
      (fun a xs j d h _ => ?_) (fun a xs j d h hjm => ?_) (fun h => absurd h (Nat.lt_irrefl _)) (fun _ D h => h)) (hs_ret (pd_tup (pds_cons pd_non (pds_cons (pd_tup pds_nil) pds_nil))))
    · obtain ⟨g', hg', e'⟩ := itm j d h
      subst e'
      rw [List.getD_eq_getElem?_getD, hg']
      exact pgd_tup rfl (pgsd_cons (pgd_name 1 sc_ff.nd) (pgsd_cons (pgd_name 2 sc_ff.nd) pgsd_nil))
    · obtain ⟨g', hg', e'⟩ := itm j d h
      subst e'
      rw [List.getD_eq_getElem?_getD, hg']
      unfold lpO
      rw [if_pos (List.getElem?_eq_some_iff.mp h).1]
      exact go _ j g' (List.mem_of_getElem? hg') (hno j g' hg')
end
end Sd
namespace Sd
open PySem L2
theorem lay_sheet (c : Ck) (n : Nat) (p : Ph) : (eSheet c n p).lay = true := by
  have h := shp_sheet c n p
  unfold D.shp at h
  exact (Bool.and_eq_true_iff.mp h).1
theorem lay_cg (c : Ck) (g : Cg) : (eCg c g).lay = true := by
  cases g
  · show (D.tup [.str "pass"]).lay = true
    decide +kernel
  · show (PyData.strOk _ && ((eLock c).lay && true)) = true
    rw [lay_lock]
    decide +kernel
  · show (D.tup [.str "pay", eImg]).lay = true
    decide +kernel
  · show (D.tup [.str "drop", eImg]).lay = true
    decide +kernel
theorem lay_map {α : Type} {f : α → D} (h : ∀ x, (f x).lay = true) : ∀ xs : List α, layL (xs.map f) = true
  | [] => rfl
  | x :: xs => by
    show ((f x).lay && layL (xs.map f)) = true
    rw [h x, lay_map h xs]; rfl
theorem shp_tk {d : D} {k : Nat} (h : Tk k d) (hl : d.lay = true) (hk : k ≤ 64 := by decide) : d.shp = true := by
  unfold D.shp
  rw [hl, decide_eq_true (Nat.le_trans h.2 hk)]; rfl
theorem shp_wan (c : Ck) {w : List Cg} (h : OkW w) : D.shp (.tup (w.map (eCg c))) = true := shp_tk (tk_wan c h) (lay_map (lay_cg c) w)
def eLs (c : Ck) : Option Lt → D
  | none => .tup []
  | some l => .tup [eLb c l]
section
variable {P : Program} {w : World} {K : PySem.W.Frag} {mg : Str → Option Value} {base : Heap} {CU : Addr}
def balA (fl fit pay : Bool) (b : Bk) : Bk × Option Lt := atLook fl fit pay b b.wan
def S_bal (ds : List D) (d : D) : Prop := ∃ c pay b, ds = [eBk c pay b] ∧ OkW b.wan ∧ (Cg.add ∈ b.wan → b.ph = .pd → pay = false) ∧ d = .tup [eBk c pay (balA c.fl c.fit pay b).1, eLs c (balA c.fl c.fit pay b).2]
theorem sc_bal : FnScope ["book", "own", "channel", "side", "newest", "offered", "asked", "wanted", "sheet", "left"] ["book"] (defScope (top 35)) := ⟨rfl, rfl, rfl, by decide +kernel, rfl, by decide +kernel, by decide +kernel⟩
theorem balA_off (fl fit pay : Bool) (n : Nat) (p q : Ph) (a : Bool) (w : List Cg) : balA fl fit pay ⟨n, p, some q, a, w⟩ = (⟨n, p, some q, a, w⟩, some (.offer (n + 1) q)) := rfl
theorem balA_none (fl fit pay : Bool) (n : Nat) (p : Ph) (a : Bool) (w : List Cg) : balA fl fit pay ⟨n, p, none, a, w⟩ = if (!inTurn (sideN fl pay) n) = true then (⟨n, p, none, a, w⟩, if w.isEmpty = true then none else some (.turn n))
    else match firstFit fit pay p w with
      | some (q, left) => (⟨n, p, some q, false, left⟩, some (.offer (n + 1) q))
      | none => if a = true then (⟨n, p, some p, false, []⟩, some (.offer (n + 1) p)) else (⟨n, p, none, a, []⟩, none) := rfl
theorem ok_bal (F : FD K mg "book_at_look" (top 35) ["book"]) (ct : Cal P w K mg base CX0 11 "tuple_of" (spD (S_tuple_of 10))) (ci : Cal P w K mg base CX0 1 "in_turn" (spD S_in_turn)) (cf : Cal P w K mg base CX0 15 "first_fitting" (spD S_ff))
    (cc : Cal P w K mg base (L2.CX P w) 14 "changed" (spX CU S_changed)) : Cal P w K mg base CX0 16 "book_at_look" (spD S_bal) := by
  refine cal_pure F sc_bal (fun ds d h => by obtain ⟨_, _, _, rfl, _⟩ := h; rfl) ?_
  rintro f cdv A outer s H E hr _ _ ⟨c, pay, ⟨bn, bp, bo, ba, bw⟩, rfl, hb, hp, rfl⟩ I
  refine hs_set 1 sc_bal.nd (pd_call ct pass0 hr (by decide) (pds_cons (pd_var 0) pds_nil) (tuS (tk_bk c pay hb))) ?_
  refine hs_asg (pd_var 1) (pgd_tup rfl (pgsd_cons (pgd_name 2 sc_bal.nd) (pgsd_cons (pgd_name 3 sc_bal.nd) (pgsd_cons (pgd_name 4 sc_bal.nd) (pgsd_cons (pgd_name 5 sc_bal.nd) (pgsd_cons (pgd_name 6 sc_bal.nd) (pgsd_cons (pgd_name 7 sc_bal.nd) pgsd_nil))))))) ?_
  cases bo with
  | some q =>
    rw [balA_off]
    exact hs_ifT (pb_notN (pd_var 5)) (hs_ret (pd_tup (pds_cons (pd_var 1) (pds_cons (pd_tup (pds_cons (pd_tup (pds_cons pd_str (pds_cons (pd_var 5) pds_nil))) pds_nil)) pds_nil)))) noNx_ret
  | none =>
    rw [balA_none]
    refine hs_ifF (pb_notN (pd_var 5)) ?_
    cases ht : inTurn (sideN c.fl pay) bn with
    | false =>
      rw [if_pos (show (!false) = true from rfl)]
      refine hs_ifT (pb_not (pb_val (pd_call ci pass0 hr (by decide) (pds_cons (pd_var 1) pds_nil) ⟨c, pay, _, rfl, rfl⟩)) (by rw [ht]; rfl)) (hs_ret ?_) noNx_ret
      cases bw with
      | nil => exact (pd_tup (pds_cons (pd_var 1) (pds_cons (pd_ifF (pb_ne hr (pd_var 7) (pd_tup pds_nil)) (pd_tup pds_nil)) pds_nil)))
      | cons g r => exact (pd_tup (pds_cons (pd_var 1) (pds_one (pd_ifT (pb_ne hr (pd_var 7) (pd_tup pds_nil) rfl (shp_wan c hb) rfl) (pd_tup (pds_cons (pd_tup (pds_cons pd_str (pds_cons (pd_var 2) (pds_cons (pd_ixT (pd_var 4) pd_int) pds_nil)))) pds_nil))))))
    | true =>
      rw [if_neg (show ¬ ((!true) = true) from Bool.false_ne_true)]
      refine hs_ifF (pb_not (pb_val (pd_call ci pass0 hr (by decide) (pds_cons (pd_var 1) pds_nil) ⟨c, pay, _, rfl, rfl⟩)) (by rw [ht]; rfl)) ?_
      cases hf : firstFit c.fit pay bp bw with
      | some r =>
        obtain ⟨q, l⟩ := r
        refine hs_asg (pd_call cf pass0 hr (by decide) (pds_cons (pd_var 1) pds_nil) (d := eFF c bn (some (q, l))) ⟨c, pay, _, rfl, hb, hp, by rw [hf]⟩) (pgd_tup rfl (pgsd_cons (pgd_name 8 sc_bal.nd) (pgsd_cons (pgd_name 9 sc_bal.nd) pgsd_nil))) ?_
        exact hs_nx (h_ifF (pb_w (pbw_and0 (pb_isN (pd_var 8)))) hs_end) (hs_ifF (pb_isN (pd_var 8)) (hs_ret (pd_tup (pds_cons (pd_tup (pds_cons (pd_var 2) (pds_cons (pd_var 3) (pds_cons (pd_var 4) (pds_cons (pd_var 8) (pds_cons pd_bl (pds_cons (pd_var 9) pds_nil))))))) (pds_cons (pd_tup (pds_cons (pd_tup (pds_cons pd_str (pds_cons (pd_var 8) pds_nil))) pds_nil)) pds_nil)))))
      | none =>
        refine hs_asg (pd_call cf pass0 hr (by decide) (pds_cons (pd_var 1) pds_nil) (d := eFF c bn none) ⟨c, pay, _, rfl, hb, hp, by rw [hf]⟩) (pgd_tup rfl (pgsd_cons (pgd_name 8 sc_bal.nd) (pgsd_cons (pgd_name 9 sc_bal.nd) pgsd_nil))) ?_
        cases ba with
        | false => exact hs_nx (h_ifF (pb_w (pbw_and (pb_isN (pd_var 8)) (pbw_and1 (pb_val (pd_var 6))))) hs_end) (hs_ifT (pb_isN (pd_var 8)) (hs_ret (PD.to (pd_tup (pds_cons (pd_tup (pds_star (pd_slT (pd_var 1) pdo_none (pdo_some pd_int)) (pds_cons (pd_var 9) pds_nil))) (pds_cons (pd_tup pds_nil) pds_nil))) rfl)) noNx_ret)
        | true =>
          refine hs_nx (h_ifT (pb_w (pbw_and (pb_isN (pd_var 8)) (pbw_and1 (pb_val (pd_var 6))))) (hs_set 8 sc_bal.nd (pd_callX cc passL hr (by decide) (pds_cons (pd_var 4) (pds_cons (pd_var 3) (pds_cons (pd_tup (pds_cons pd_str pds_nil)) pds_nil))) (d := eSheet c (bn + 1) bp) ⟨c, bn, bp, pay, .pass, rfl, (fun h => by cases h), rfl⟩) hs_end)) ?_
          exact hs_ifF (pb_isN (pd_var 8)) (hs_ret (pd_tup (pds_cons (pd_tup (pds_cons (pd_var 2) (pds_cons (pd_var 3) (pds_cons (pd_var 4) (pds_cons (pd_var 8) (pds_cons pd_bl (pds_cons (pd_var 9) pds_nil))))))) (pds_cons (pd_tup (pds_cons (pd_tup (pds_cons pd_str (pds_cons (pd_var 8) pds_nil))) pds_nil)) pds_nil))))
end
end Sd
namespace Sd
open PySem L2
/-! ### two fors in one comprehension -/
def LcQ (H1 : Hp) (L : Addr) (res : List D) (H : Hp) : Prop := Same H1 H ∧ ∃ acc, H L = some (.lst acc) ∧ RepL H res acc
theorem LcQ.app {H1 H : Hp} {L : Addr} {res : List D} {d : D} {y : V} (hL : H1 L = none) (h : LcQ H1 L res H) (hf : fixL res = true) (hd : d.fix = true) (hz : res.length < sizeLine) (r : Rep H d y) : ∃ acc, H L = some (.lst acc) ∧ acc.length < sizeLine ∧ LcQ H1 L (res ++ [d]) (upd H L (.lst (acc ++ [y]))) := by
  obtain ⟨s, acc, hA, rA⟩ := h
  have tr : Tr H (upd H L (.lst (acc ++ [y]))) := fun a xs e => by rw [upd_ne (ne_of e hA (by intro q; cases q))]; exact e
  exact ⟨acc, hA, by rw [rA.length]; exact hz, fun b o e => by rw [upd_ne (ne_of_none e hL)]; exact s b o e, acc ++ [y], upd_same, (rA.tr tr hf).snoc (r.tr tr hd)⟩
theorem LcQ.mono {H1 H H' : Hp} {L : Addr} {res : List D} (s : Same H H') (h : LcQ H1 L res H) : LcQ H1 L res H' := ⟨h.1.trans s, let ⟨acc, a, b⟩ := h.2; ⟨acc, s _ _ a, b.mono s⟩⟩
theorem fixL_append : ∀ {a b : List D}, fixL a = true → fixL b = true → fixL (a ++ b) = true
  | [], _, _, h => h
  | x :: a, b, h, h' => by
    have q : (x.fix && fixL a) = true := h
    rw [Bool.and_eq_true] at q
    show (x.fix && fixL (a ++ b)) = true
    rw [q.1, fixL_append q.2 h']; rfl
def lcR (inn : D → List D) (keep : D → D → Bool) (out : D → D → D) (ds : List D) : List D := ds.flatMap fun d => ((inn d).filter (keep d)).map (out d)
theorem lcR_fix {inn : D → List D} {keep : D → D → Bool} {out : D → D → D} : ∀ {ds : List D}, (∀ d ∈ ds, ∀ e ∈ inn d, keep d e = true → (out d e).fix = true) → fixL (lcR inn keep out ds) = true
  | [], _ => rfl
  | d :: ds, h => fixL_append (fix_map fun e he hk => h d List.mem_cons_self e he hk) (lcR_fix fun d' hd => h d' (List.mem_cons_of_mem _ hd))
theorem lcR_snoc {inn : D → List D} {keep : D → D → Bool} {out : D → D → D} {ds : List D} {d : D} : lcR inn keep out (ds ++ [d]) = lcR inn keep out ds ++ ((inn d).filter (keep d)).map (out d) := by
  unfold lcR
  rw [List.flatMap_append]
  simp
section
variable {X : Cx} {I : Asr} {env : Ev}
theorem lcT_imp {g : TG} {own : List (Str × Nat)} {ds : List D} {envs : D → Ev} {keep : D → Bool} {out : D → D} (htg : ∀ d ∈ ds, Tg X.K g (own.map (·.2)) I env d (envs d)) (hf : ∀ d ∈ ds, keep d = true → (out d).fix = true) (hz : ds.length ≤ sizeLine) (σ : St) (H : Hp) (Q : VK)
    (h : tL I env ((ds.filter keep).map out) σ H Q) : tLc (iTup X.K (tD I env (.tup ds))) g (LcT I ds envs keep) (LcE I ds envs keep out) (own.map (·.2)) σ H Q := by
  obtain ⟨hI, hE, k⟩ := h
  refine ⟨hI, hE, fun x H1 s1 r1 => ?_⟩
  obtain ⟨a, xs, e, ha, hl⟩ := r1.tup_inv
  subst e
  refine ⟨a, rfl, ⟨xs, SqT.of ha⟩, fun L hL => lc_tup (K := X.K) (a := a) (xs := xs) (g := g) (tt := LcT I ds envs keep) (te := LcE I ds envs keep out) (vs := own.map (·.2)) (σ := σ) (H1 := H1) (D := L) (Qd := fun H => Q (.ref L) H) (LcPv H1 L ds keep out) ⟨Same.new hL, [], upd_same, rfl⟩ (fun i H2 _ p => SqT.of (p.1 _ _ ha)) (fun i x H2 hx p => ?_) (fun H2 p => ?_)⟩
  · obtain ⟨d, hd, rd⟩ := hl.rget hx
    exact lc_turn (I.mono s1 hI) (hE.mono s1) hL hd (rd.mono p.1) (htg d (List.mem_of_getElem? hd)) hf hz p
  · obtain ⟨s2, acc, hA, rA⟩ := p
    rw [hl.length, List.take_length] at rA
    exact k L acc H2 (s1.trans s2) (s1.free hL) hA rA
theorem lcL_imp {g : TG} {own : List (Str × Nat)} {ds : List D} {envs : D → Ev} {keep : D → Bool} {out : D → D} (htg : ∀ d ∈ ds, Tg X.K g (own.map (·.2)) I env d (envs d)) (hf : ∀ d ∈ ds, keep d = true → (out d).fix = true) (hz : ds.length ≤ sizeLine) (σ : St) (H : Hp) (Q : VK)
    (h : tL I env ((ds.filter keep).map out) σ H Q) : tLc (iList X.K (tD I env (.lst ds))) g (LcT I ds envs keep) (LcE I ds envs keep out) (own.map (·.2)) σ H Q := by
  obtain ⟨hI, hE, k⟩ := h
  refine ⟨hI, hE, fun x H1 s1 r1 => ?_⟩
  obtain ⟨a, xs, e, ha, hl⟩ := r1.lst_inv
  subst e
  refine ⟨a, rfl, ⟨xs, SqL.of ha⟩, fun L hL => lc_list (K := X.K) (a := a) (xs := xs) (g := g) (tt := LcT I ds envs keep) (te := LcE I ds envs keep out) (vs := own.map (·.2)) (σ := σ) (H1 := H1) (D := L) (Qd := fun H => Q (.ref L) H) (LcPv H1 L ds keep out) ⟨Same.new hL, [], upd_same, rfl⟩ (fun i H2 _ p => SqL.of (p.1 _ _ ha)) (fun i x H2 hx p => ?_) (fun H2 p => ?_)⟩
  · obtain ⟨d, hd, rd⟩ := hl.rget hx
    exact lc_turn (I.mono s1 hI) (hE.mono s1) hL hd (rd.mono p.1) (htg d (List.mem_of_getElem? hd)) hf hz p
  · obtain ⟨s2, acc, hA, rA⟩ := p
    rw [hl.length, List.take_length] at rA
    exact k L acc H2 (s1.trans s2) (s1.free hL) hA rA
/-- .. as a new list -/
theorem pl_lcT {g : TG} {tg : Expr} {own : List (Str × Nat)} {elt iter : Expr} {ifs : List Expr} {scope : Scope} {pos : Pos} {envs : D → Ev} {keep : D → Bool} {out : D → D} {ds : List D} (hc : X.calm = true) (hN : X.N.Nodup) (hi : PD X I env iter (.tup ds)) (ok : BlkOk X.N X.env.scope scope own)
    (hg : ∀ (s : Shared) (H : Hp) (C : Addr) (cl : List (Str × Addr)) (fp : List Addr), PG (X.blk s H scope (compEnvC scope cl C X.env) fp) tg g) (htg : ∀ d ∈ ds, Tg X.K g (own.map (·.2)) I env d (envs d))
    (ht : ∀ (s : Shared) (H : Hp) (C : Addr) (cl : List (Str × Addr)) (fp : List Addr), ∀ d ∈ ds, PTs (X.blk s H scope (compEnvC scope cl C X.env) fp) ifs (tT I (envs d) (keep d)))
    (he : ∀ (s : Shared) (H : Hp) (C : Addr) (cl : List (Str × Addr)) (fp : List Addr), ∀ d ∈ ds, keep d = true → PD (X.blk s H scope (compEnvC scope cl C X.env) fp) I (envs d) elt (out d))
    (hf : ∀ d ∈ ds, keep d = true → (out d).fix = true) (hz : ds.length ≤ sizeLine) (hs : ∀ x, foldedSetIterable iter X.env x = pure x := by intro _; rfl) : PL X I env (.ListComp elt [⟨tg, iter, ifs, 0⟩] scope pos) ((ds.filter keep).map out) :=
  (pe_lc (wi := iTup X.K (tD I env (.tup ds))) (tt := LcT I ds envs keep) (te := LcE I ds envs keep out) hc hN (pi_tup hi) ok hg (fun s H C cl fp => pts_exI (ht s H C cl fp)) (fun s H C cl fp => pe_exI fun d (h : d ∈ ds ∧ keep d = true) => he s H C cl fp d h.1 h.2) hs).wk
    fun σ H Q h => lcT_imp htg hf hz σ H Q h
theorem pl_lcNT {x : Str} {i : Nat} {elt iter : Expr} {ifs : List Expr} {scope : Scope} {xp pos : Pos} {keep : D → Bool} {out : D → D} {ds : List D} (hc : X.calm = true) (hN : X.N.Nodup) (hi : PD X I env iter (.tup ds)) (ok : BlkOk X.N X.env.scope scope [(x, i)])
    (ht : ∀ (s : Shared) (H : Hp) (C : Addr) (cl : List (Str × Addr)) (fp : List Addr), ∀ d ∈ ds, PTs (X.blk s H scope (compEnvC scope cl C X.env) fp) ifs (tT I ((wipeE env [i]).set i (some d)) (keep d)))
    (he : ∀ (s : Shared) (H : Hp) (C : Addr) (cl : List (Str × Addr)) (fp : List Addr), ∀ d ∈ ds, keep d = true → PD (X.blk s H scope (compEnvC scope cl C X.env) fp) I ((wipeE env [i]).set i (some d)) elt (out d))
    (hf : ∀ d ∈ ds, keep d = true → (out d).fix = true) (hz : ds.length ≤ sizeLine) (hl : ∀ (s : Shared) (H : Hp) (C : Addr) (cl : List (Str × Addr)) (fp : List Addr), (X.blk s H scope (compEnvC scope cl C X.env) fp).env.scope.names.lookup x = some .local := by intro _ _ _ _ _; rfl)
    (hs : ∀ x, foldedSetIterable iter X.env x = pure x := by intro _; rfl) : PL X I env (.ListComp elt [⟨.Name x xp, iter, ifs, 0⟩] scope pos) ((ds.filter keep).map out) :=
  pl_lcT (own := [(x, i)]) (envs := fun d => (wipeE env [i]).set i (some d)) hc hN hi ok (fun s H C cl fp => pg_name (i := i) hN (ok.ix (x, i) List.mem_cons_self) (Or.inl (hl s H C cl fp)) (.inr (hl s H C cl fp))) (fun d _ => tg_name i) ht he hf hz hs
/-- .. as a new list -/
theorem pl_lcL {g : TG} {tg : Expr} {own : List (Str × Nat)} {elt iter : Expr} {ifs : List Expr} {scope : Scope} {pos : Pos} {envs : D → Ev} {keep : D → Bool} {out : D → D} {ds : List D} (hc : X.calm = true) (hN : X.N.Nodup) (hi : PD X I env iter (.lst ds)) (ok : BlkOk X.N X.env.scope scope own)
    (hg : ∀ (s : Shared) (H : Hp) (C : Addr) (cl : List (Str × Addr)) (fp : List Addr), PG (X.blk s H scope (compEnvC scope cl C X.env) fp) tg g) (htg : ∀ d ∈ ds, Tg X.K g (own.map (·.2)) I env d (envs d))
    (ht : ∀ (s : Shared) (H : Hp) (C : Addr) (cl : List (Str × Addr)) (fp : List Addr), ∀ d ∈ ds, PTs (X.blk s H scope (compEnvC scope cl C X.env) fp) ifs (tT I (envs d) (keep d)))
    (he : ∀ (s : Shared) (H : Hp) (C : Addr) (cl : List (Str × Addr)) (fp : List Addr), ∀ d ∈ ds, keep d = true → PD (X.blk s H scope (compEnvC scope cl C X.env) fp) I (envs d) elt (out d))
    (hf : ∀ d ∈ ds, keep d = true → (out d).fix = true) (hz : ds.length ≤ sizeLine) (hs : ∀ x, foldedSetIterable iter X.env x = pure x := by intro _; rfl) : PL X I env (.ListComp elt [⟨tg, iter, ifs, 0⟩] scope pos) ((ds.filter keep).map out) :=
  (pe_lc (wi := iList X.K (tD I env (.lst ds))) (tt := LcT I ds envs keep) (te := LcE I ds envs keep out) hc hN (pi_list hi) ok hg (fun s H C cl fp => pts_exI (ht s H C cl fp)) (fun s H C cl fp => pe_exI fun d (h : d ∈ ds ∧ keep d = true) => he s H C cl fp d h.1 h.2) hs).wk
    fun σ H Q h => lcL_imp htg hf hz σ H Q h
theorem pl_lcNL {x : Str} {i : Nat} {elt iter : Expr} {ifs : List Expr} {scope : Scope} {xp pos : Pos} {keep : D → Bool} {out : D → D} {ds : List D} (hc : X.calm = true) (hN : X.N.Nodup) (hi : PD X I env iter (.lst ds)) (ok : BlkOk X.N X.env.scope scope [(x, i)])
    (ht : ∀ (s : Shared) (H : Hp) (C : Addr) (cl : List (Str × Addr)) (fp : List Addr), ∀ d ∈ ds, PTs (X.blk s H scope (compEnvC scope cl C X.env) fp) ifs (tT I ((wipeE env [i]).set i (some d)) (keep d)))
    (he : ∀ (s : Shared) (H : Hp) (C : Addr) (cl : List (Str × Addr)) (fp : List Addr), ∀ d ∈ ds, keep d = true → PD (X.blk s H scope (compEnvC scope cl C X.env) fp) I ((wipeE env [i]).set i (some d)) elt (out d))
    (hf : ∀ d ∈ ds, keep d = true → (out d).fix = true) (hz : ds.length ≤ sizeLine) (hl : ∀ (s : Shared) (H : Hp) (C : Addr) (cl : List (Str × Addr)) (fp : List Addr), (X.blk s H scope (compEnvC scope cl C X.env) fp).env.scope.names.lookup x = some .local := by intro _ _ _ _ _; rfl)
    (hs : ∀ x, foldedSetIterable iter X.env x = pure x := by intro _; rfl) : PL X I env (.ListComp elt [⟨.Name x xp, iter, ifs, 0⟩] scope pos) ((ds.filter keep).map out) :=
  pl_lcL (own := [(x, i)]) (envs := fun d => (wipeE env [i]).set i (some d)) hc hN hi ok (fun s H C cl fp => pg_name (i := i) hN (ok.ix (x, i) List.mem_cons_self) (Or.inl (hl s H C cl fp)) (.inr (hl s H C cl fp))) (fun d _ => tg_name i) ht he hf hz hs
/-- z = [elt for x in .. if ..] -/
theorem hs_setLcT {x z : Str} {i iz : Nat} {elt iter : Expr} {ifs : List Expr} {scope : Scope} {xp pos zp spos : Pos} {keep : D → Bool} {out : D → D} {ds : List D} {rest : List Stmt} {O : Ends → Prop} (hc : X.calm = true) (hN : X.N.Nodup) (hi : PD X I env iter (.tup ds)) (ok : BlkOk X.N X.env.scope scope [(x, i)])
    (ht : ∀ (s : Shared) (H : Hp) (C : Addr) (cl : List (Str × Addr)) (fp : List Addr), ∀ d ∈ ds, PTs (X.blk s H scope (compEnvC scope cl C X.env) fp) ifs (tT I ((wipeE env [i]).set i (some d)) (keep d)))
    (he : ∀ (s : Shared) (H : Hp) (C : Addr) (cl : List (Str × Addr)) (fp : List Addr), ∀ d ∈ ds, keep d = true → PD (X.blk s H scope (compEnvC scope cl C X.env) fp) I ((wipeE env [i]).set i (some d)) elt (out d))
    (hf : ∀ d ∈ ds, keep d = true → (out d).fix = true) (hz : ds.length ≤ sizeLine) (hr : HS X I (env.set iz (some (.lst ((ds.filter keep).map out)))) rest O) (hl : ∀ (s : Shared) (H : Hp) (C : Addr) (cl : List (Str × Addr)) (fp : List Addr), (X.blk s H scope (compEnvC scope cl C X.env) fp).env.scope.names.lookup x = some .local := by intro _ _ _ _ _; rfl)
    (hy : X.N[iz]? = some z := by rfl) (hyl : X.env.scope.names.lookup z = some .local := by rfl) (hk : X.env.scope.kind = .function := by rfl) (hln : (zp.line == pos.line) = true := by rfl) (ha : (scope.names.any fun (n, k) => n == z && (k == .local || k == .cell)) = false := by rfl)
    (hs : ∀ x, foldedSetIterable iter X.env x = pure x := by intro _; rfl) : HS X I env (.Assign [.Name z zp] (.ListComp elt [⟨.Name x xp, iter, ifs, 0⟩] scope pos) spos :: rest) O :=
  (pss_cons (ps_setLc (own := [(x, i)]) (wi := iTup X.K (tD I env (.tup ds))) (g := gName i) (tt := LcT I ds (fun d => (wipeE env [i]).set i (some d)) keep) (te := LcE I ds (fun d => (wipeE env [i]).set i (some d)) keep out) hc hN hy hyl (sw_true hk hyl hln ha) (pi_tup hi) ok
    (fun s H C cl fp => pg_name (i := i) hN (ok.ix (x, i) List.mem_cons_self) (Or.inl (hl s H C cl fp)) (.inr (hl s H C cl fp))) (fun s H C cl fp => pts_exI (ht s H C cl fp)) (fun s H C cl fp => pe_exI fun d (h : d ∈ ds ∧ keep d = true) => he s H C cl fp d h.1 h.2) hs) hr).wk
    fun D σ H ⟨hI, hE, k⟩ => lcT_imp (X := X) (own := [(x, i)]) (envs := fun d => (wipeE env [i]).set i (some d)) (fun d _ => tg_name i) hf hz σ H (fun x H1 => gName iz x σ H1 fun σ' H' => tS I (env.set iz (some (.lst ((ds.filter keep).map out)))) O D σ' H') ⟨hI, hE, fun p xs H1 s1 hp hx r => ⟨I.mono s1 hI, (hE.mono s1).set (Rep.lst_of hx r), k⟩⟩
/-- z = [elt for x in .. if ..] -/
theorem hs_setLcL {x z : Str} {i iz : Nat} {elt iter : Expr} {ifs : List Expr} {scope : Scope} {xp pos zp spos : Pos} {keep : D → Bool} {out : D → D} {ds : List D} {rest : List Stmt} {O : Ends → Prop} (hc : X.calm = true) (hN : X.N.Nodup) (hi : PD X I env iter (.lst ds)) (ok : BlkOk X.N X.env.scope scope [(x, i)])
    (ht : ∀ (s : Shared) (H : Hp) (C : Addr) (cl : List (Str × Addr)) (fp : List Addr), ∀ d ∈ ds, PTs (X.blk s H scope (compEnvC scope cl C X.env) fp) ifs (tT I ((wipeE env [i]).set i (some d)) (keep d)))
    (he : ∀ (s : Shared) (H : Hp) (C : Addr) (cl : List (Str × Addr)) (fp : List Addr), ∀ d ∈ ds, keep d = true → PD (X.blk s H scope (compEnvC scope cl C X.env) fp) I ((wipeE env [i]).set i (some d)) elt (out d))
    (hf : ∀ d ∈ ds, keep d = true → (out d).fix = true) (hz : ds.length ≤ sizeLine) (hr : HS X I (env.set iz (some (.lst ((ds.filter keep).map out)))) rest O) (hl : ∀ (s : Shared) (H : Hp) (C : Addr) (cl : List (Str × Addr)) (fp : List Addr), (X.blk s H scope (compEnvC scope cl C X.env) fp).env.scope.names.lookup x = some .local := by intro _ _ _ _ _; rfl)
    (hy : X.N[iz]? = some z := by rfl) (hyl : X.env.scope.names.lookup z = some .local := by rfl) (hk : X.env.scope.kind = .function := by rfl) (hln : (zp.line == pos.line) = true := by rfl) (ha : (scope.names.any fun (n, k) => n == z && (k == .local || k == .cell)) = false := by rfl)
    (hs : ∀ x, foldedSetIterable iter X.env x = pure x := by intro _; rfl) : HS X I env (.Assign [.Name z zp] (.ListComp elt [⟨.Name x xp, iter, ifs, 0⟩] scope pos) spos :: rest) O :=
  (pss_cons (ps_setLc (own := [(x, i)]) (wi := iList X.K (tD I env (.lst ds))) (g := gName i) (tt := LcT I ds (fun d => (wipeE env [i]).set i (some d)) keep) (te := LcE I ds (fun d => (wipeE env [i]).set i (some d)) keep out) hc hN hy hyl (sw_true hk hyl hln ha) (pi_list hi) ok
    (fun s H C cl fp => pg_name (i := i) hN (ok.ix (x, i) List.mem_cons_self) (Or.inl (hl s H C cl fp)) (.inr (hl s H C cl fp))) (fun s H C cl fp => pts_exI (ht s H C cl fp)) (fun s H C cl fp => pe_exI fun d (h : d ∈ ds ∧ keep d = true) => he s H C cl fp d h.1 h.2) hs) hr).wk
    fun D σ H ⟨hI, hE, k⟩ => lcL_imp (X := X) (own := [(x, i)]) (envs := fun d => (wipeE env [i]).set i (some d)) (fun d _ => tg_name i) hf hz σ H (fun x H1 => gName iz x σ H1 fun σ' H' => tS I (env.set iz (some (.lst ((ds.filter keep).map out)))) O D σ' H') ⟨hI, hE, fun p xs H1 s1 hp hx r => ⟨I.mono s1 hI, (hE.mono s1).set (Rep.lst_of hx r), k⟩⟩
theorem lc2_imp {i j : Nat} {ds : List D} {inn : D → List D} {keep : D → D → Bool} {out : D → D → D} (hij : i ≠ j) (hf : ∀ d ∈ ds, ∀ e ∈ inn d, keep d e = true → (out d e).fix = true) (hfi : ∀ d ∈ ds, fixL (inn d) = true)
    (hz1 : ∀ k : Nat, ∀ d ∈ ds, (lcR inn keep out (ds.take k)).length + (inn d).length < sizeLine) (σ : St) (H : Hp) (Q : VK) (h : tL I env (lcR inn keep out ds) σ H Q) :
    tLc2 (iTup X.K (tD I env (.tup ds))) (gName i) tYes (iTup X.K (fun σ H Q => ∃ d, d ∈ ds ∧ tD I ((wipeE env [i, j]).set i (some d)) (.tup (inn d)) σ H Q)) (gName j) (fun σ H Q => ∃ t : D × D, (t.1 ∈ ds ∧ t.2 ∈ inn t.1) ∧ tT I (((wipeE env [i, j]).set i (some t.1)).set j (some t.2)) (keep t.1 t.2) σ H Q) (fun σ H Q => ∃ t : D × D, (t.1 ∈ ds ∧ t.2 ∈ inn t.1 ∧ keep t.1 t.2 = true) ∧ tD I (((wipeE env [i, j]).set i (some t.1)).set j (some t.2)) (out t.1 t.2) σ H Q) [i, j] [j] σ H Q := by
  obtain ⟨hI, hE, k⟩ := h
  refine ⟨hI, hE, fun v H1 s1 r1 => ?_⟩
  obtain ⟨a, xs, e, ha, hlr⟩ := r1.tup_inv
  subst e
  refine ⟨a, rfl, ⟨xs, SqT.of ha⟩, fun L hL => ?_⟩
  have hlen := hlr.length
  refine ⟨fun n m H => m = xs.length - n ∧ n ≤ xs.length ∧ LcQ H1 L (lcR inn keep out (ds.take n)) H, ⟨xs.length, by simp, Nat.zero_le _, Same.new hL, [], upd_same, rfl⟩, ?_⟩
  rintro n m H2 ⟨rfl, hn, p⟩
  have hq : SqT X.K H2 a xs := SqT.of (p.1 _ _ ha)
  by_cases hlt : n < xs.length
  · refine .inr ⟨⟨xs, xs[n], hq, by simp [hlt]⟩, fun H' => LcQ H1 L (lcR inn keep out (ds.take (n + 1))) H', fun H' p' => ⟨xs.length - (n + 1), by omega, rfl, hlt, p'⟩, fun u H' yy => ?_⟩
    obtain ⟨eH, yy⟩ := yy
    subst eH
    obtain ⟨d, hd, rd⟩ := hlr.rget (yy xs hq)
    have mem : d ∈ ds := List.mem_of_getElem? hd
    have hE2 : EnvR H' (L2.wipe σ [i, j]) (wipeE env [i, j]) := ((hE.mono s1).mono p.1).wipe _
    refine ⟨?_, ?_⟩
    · show (((L2.wipe σ [i, j]).set i (some u)).set j none).set i none = (σ.set j none).set i none
      show ((((σ.set j none).set i none).set i (some u)).set j none).set i none = (σ.set j none).set i none
      rw [List.set_set, List.set_comm _ _ hij, List.set_set, List.set_set]
    · delta tYes
      refine Eq.mpr (if_pos rfl) ?_
      refine ⟨d, mem, I.mono p.1 (I.mono s1 hI), hE2.set (rd.mono p.1), fun v1 H4 s4 r4 => ?_⟩
      obtain ⟨a1, xs1, e1, ha1, hl1'⟩ := r4.tup_inv
      subst e1
      refine ⟨a1, rfl, ⟨xs1, SqT.of ha1⟩, ?_⟩
      have hlen1 := hl1'.length
      have p4 := p.mono s4
      refine ⟨fun n1 m1 H => m1 = xs1.length - n1 ∧ n1 ≤ xs1.length ∧ (H a1 = some (.tup xs1) ∧ RepL H (inn d) xs1) ∧ LcQ H1 L (lcR inn keep out (ds.take n) ++ (((inn d).take n1).filter (keep d)).map (out d)) H, ⟨xs1.length, by simp, Nat.zero_le _, ⟨ha1, hl1'⟩, by simpa using p4⟩, ?_⟩
      rintro n1 m1 H5 ⟨rfl, hn1, q5, p5⟩
      by_cases hlt1 : n1 < xs1.length
      · refine .inr ⟨⟨xs1, xs1[n1], SqT.of q5.1, by simp [hlt1]⟩, fun H' => (H' a1 = some (.tup xs1) ∧ RepL H' (inn d) xs1) ∧ LcQ H1 L (lcR inn keep out (ds.take n) ++ (((inn d).take (n1 + 1)).filter (keep d)).map (out d)) H', fun H' p' => ⟨xs1.length - (n1 + 1), by omega, rfl, hlt1, p'⟩, fun u1 H6 yy1 => ?_⟩
        obtain ⟨eH, yy1⟩ := yy1
        subst eH
        obtain ⟨e, he1, re⟩ := q5.2.rget (yy1 xs1 (SqT.of q5.1))
        have mem1 : e ∈ inn d := List.mem_of_getElem? he1
        have eT : (inn d).take (n1 + 1) = (inn d).take n1 ++ [e] := take_succ_of he1
        have hE5 : EnvR H6 (((L2.wipe σ [i, j]).set i (some u)).set j none) (((wipeE env [i, j]).set i (some d)).set j none) := (((((hE.mono s1).mono p5.1).wipe _).set (rd.mono p5.1)).setN)
        have hE6 : EnvR H6 ((L2.wipe ((L2.wipe σ [i, j]).set i (some u)) [j]).set j (some u1)) (((wipeE env [i, j]).set i (some d)).set j (some e)) := by
          have h := hE5.set (i := j) re
          rw [List.set_set, List.set_set] at h
          show EnvR H6 ((((L2.wipe σ [i, j]).set i (some u)).set j none).set j (some u1)) _
          rw [List.set_set]
          exact h
        refine ⟨?_, (d, e), ⟨mem, mem1⟩, I.mono p5.1 (I.mono s1 hI), hE6, fun H7 s7 => ?_⟩
        · show ((((L2.wipe σ [i, j]).set i (some u)).set j none).set j (some u1)).set j none = ((L2.wipe σ [i, j]).set i (some u)).set j none
          rw [List.set_set, List.set_set]
        by_cases hk : keep d e = true
        · refine Eq.mpr (if_pos hk) ?_
          refine ⟨(d, e), ⟨mem, mem1, hk⟩, I.mono s7 (I.mono p5.1 (I.mono s1 hI)), hE6.mono s7, fun y H8 s8 r8 => ?_⟩
          have p8 := (p5.mono s7).mono s8
          have hres : fixL (lcR inn keep out (ds.take n) ++ (((inn d).take n1).filter (keep d)).map (out d)) = true := fixL_append (lcR_fix fun d' hd' e' he' hk' => hf d' (List.mem_of_mem_take hd') e' he' hk') (fix_map fun e' he' hk' => hf d mem e' (List.mem_of_mem_take he') hk')
          have hzz : (lcR inn keep out (ds.take n) ++ (((inn d).take n1).filter (keep d)).map (out d)).length < sizeLine := by
            rw [List.length_append, List.length_map]
            have h1 := List.length_filter_le (keep d) ((inn d).take n1)
            have h2 := List.length_take_le n1 (inn d)
            have h3 := hz1 n d mem
            have h4 : ((inn d).take n1).length ≤ (inn d).length := by rw [List.length_take]; exact Nat.min_le_right _ _
            omega
          obtain ⟨acc, hA, hlA, pA⟩ := LcQ.app hL p8 hres (hf d mem e mem1 hk) hzz r8
          refine ⟨acc, hA, hlA, ⟨?_, ?_⟩, ?_⟩
          · rw [upd_ne (ne_of (s8 _ _ (s7 _ _ q5.1)) hA (by intro q; cases q))]
            exact s8 _ _ (s7 _ _ q5.1)
          · have tr : Tr H8 (upd H8 L (.lst (acc ++ [y]))) := fun a xs e => by rw [upd_ne (ne_of e hA (by intro q; cases q))]; exact e
            exact ((q5.2.mono s7).mono s8).tr tr (hfi d mem)
          · rw [eT, List.filter_append, List.map_append, ← List.append_assoc]
            have e1 : ([e].filter (keep d)).map (out d) = [out d e] := by rw [List.filter_cons_of_pos hk]; rfl
            rw [e1]
            exact pA
        · refine Eq.mpr (if_neg hk) ?_
          refine ⟨⟨s7 _ _ q5.1, q5.2.mono s7⟩, ?_⟩
          rw [eT, List.filter_append, List.map_append]
          have e1 : ([e].filter (keep d)).map (out d) = [] := by rw [List.filter_cons_of_neg hk]; rfl
          rw [e1, List.append_nil]
          exact p5.mono s7
      · have en : n1 = xs1.length := by omega
        subst en
        refine .inl ⟨⟨xs1, SqT.of q5.1, Nat.le_refl _⟩, ?_⟩
        show LcQ H1 L (lcR inn keep out (ds.take (n + 1))) H5
        rw [take_succ_of hd, lcR_snoc]
        rw [hlen1, List.take_length] at p5
        exact p5
  · have en : n = xs.length := by omega
    subst en
    refine .inl ⟨⟨xs, hq, Nat.le_refl _⟩, ?_⟩
    rw [hlen, List.take_length] at p
    obtain ⟨s2, acc, hA, rA⟩ := p
    exact k L acc H2 (s1.trans s2) (s1.free hL) hA rA
/-- [elt for x in a tuple for y in a tuple if ..] -/
theorem pl_lc2 {x y : Str} {i j : Nat} {elt iter iter1 : Expr} {ifs : List Expr} {scope : Scope} {xp yp pos : Pos} {ds : List D} {inn : D → List D} {keep : D → D → Bool} {out : D → D → D} (hc : X.calm = true) (hN : X.N.Nodup) (hij : i ≠ j) (hi : PD X I env iter (.tup ds)) (ok : BlkOk X.N X.env.scope scope [(x, i), (y, j)])
    (hi1 : ∀ (s : Shared) (H : Hp) (C : Addr) (cl : List (Str × Addr)) (fp : List Addr), ∀ d ∈ ds, PD (X.blk s H scope (compEnvC scope cl C X.env) fp) I ((wipeE env [i, j]).set i (some d)) iter1 (.tup (inn d)))
    (ht : ∀ (s : Shared) (H : Hp) (C : Addr) (cl : List (Str × Addr)) (fp : List Addr), ∀ d ∈ ds, ∀ e ∈ inn d, PTs (X.blk s H scope (compEnvC scope cl C X.env) fp) ifs (tT I (((wipeE env [i, j]).set i (some d)).set j (some e)) (keep d e)))
    (he : ∀ (s : Shared) (H : Hp) (C : Addr) (cl : List (Str × Addr)) (fp : List Addr), ∀ d ∈ ds, ∀ e ∈ inn d, keep d e = true → PD (X.blk s H scope (compEnvC scope cl C X.env) fp) I (((wipeE env [i, j]).set i (some d)).set j (some e)) elt (out d e))
    (hf : ∀ d ∈ ds, ∀ e ∈ inn d, keep d e = true → (out d e).fix = true) (hfi : ∀ d ∈ ds, fixL (inn d) = true) (hz1 : ∀ k : Nat, ∀ d ∈ ds, (lcR inn keep out (ds.take k)).length + (inn d).length < sizeLine)
    (hl : ∀ (s : Shared) (H : Hp) (C : Addr) (cl : List (Str × Addr)) (fp : List Addr), (X.blk s H scope (compEnvC scope cl C X.env) fp).env.scope.names.lookup x = some .local := by intro _ _ _ _ _; rfl)
    (hl1 : ∀ (s : Shared) (H : Hp) (C : Addr) (cl : List (Str × Addr)) (fp : List Addr), (X.blk s H scope (compEnvC scope cl C X.env) fp).env.scope.names.lookup y = some .local := by intro _ _ _ _ _; rfl)
    (hs : ∀ x, foldedSetIterable iter X.env x = pure x := by intro _; rfl) (hs1 : ∀ env x, foldedSetIterable iter1 env x = pure x := by intro _ _; rfl) :
    PL X I env (.ListComp elt [⟨.Name x xp, iter, [], 0⟩, ⟨.Name y yp, iter1, ifs, 0⟩] scope pos) (lcR inn keep out ds) :=
  (pe_lc2 (vs1 := [j]) (wi := iTup X.K (tD I env (.tup ds))) (g := gName i) (g1 := gName j) (tt := tYes) (wi1 := iTup X.K (fun σ H Q => ∃ d, d ∈ ds ∧ tD I ((wipeE env [i, j]).set i (some d)) (.tup (inn d)) σ H Q)) (tt1 := fun σ H Q => ∃ t : D × D, (t.1 ∈ ds ∧ t.2 ∈ inn t.1) ∧ tT I (((wipeE env [i, j]).set i (some t.1)).set j (some t.2)) (keep t.1 t.2) σ H Q) (te := fun σ H Q => ∃ t : D × D, (t.1 ∈ ds ∧ t.2 ∈ inn t.1 ∧ keep t.1 t.2 = true) ∧ tD I (((wipeE env [i, j]).set i (some t.1)).set j (some t.2)) (out t.1 t.2) σ H Q) hc hN (pi_tup hi) ok (by simp)
    (fun s H C cl fp => pg_name (i := i) hN (ok.ix (x, i) List.mem_cons_self) (Or.inl (hl s H C cl fp)) (.inr (hl s H C cl fp))) (fun s H C cl fp => pts_nil)
    (fun s H C cl fp => pi_tup (pe_exI fun d (h : d ∈ ds) => hi1 s H C cl fp d h))
    (fun s H C cl fp => pg_name (i := j) hN (ok.ix (y, j) (List.mem_cons_of_mem _ List.mem_cons_self)) (Or.inl (hl1 s H C cl fp)) (.inr (hl1 s H C cl fp)))
    (fun s H C cl fp => pts_exI fun (t : D × D) h => ht s H C cl fp t.1 h.1 t.2 h.2) (fun s H C cl fp => pe_exI fun (t : D × D) h => he s H C cl fp t.1 h.1 t.2 h.2.1 h.2.2) hs hs1).wk fun σ H Q h => lc2_imp hij hf hfi hz1 σ H Q h
/-- z = [elt for x in a tuple for y in a tuple if ..] -/
theorem hs_setLc2 {z : Str} {iz : Nat} {zp spos : Pos} {rest : List Stmt} {O : Ends → Prop} {x y : Str} {i j : Nat} {elt iter iter1 : Expr} {ifs : List Expr} {scope : Scope} {xp yp pos : Pos} {ds : List D} {inn : D → List D} {keep : D → D → Bool} {out : D → D → D} (hc : X.calm = true) (hN : X.N.Nodup) (hij : i ≠ j) (hi : PD X I env iter (.tup ds)) (ok : BlkOk X.N X.env.scope scope [(x, i), (y, j)])
    (hi1 : ∀ (s : Shared) (H : Hp) (C : Addr) (cl : List (Str × Addr)) (fp : List Addr), ∀ d ∈ ds, PD (X.blk s H scope (compEnvC scope cl C X.env) fp) I ((wipeE env [i, j]).set i (some d)) iter1 (.tup (inn d)))
    (ht : ∀ (s : Shared) (H : Hp) (C : Addr) (cl : List (Str × Addr)) (fp : List Addr), ∀ d ∈ ds, ∀ e ∈ inn d, PTs (X.blk s H scope (compEnvC scope cl C X.env) fp) ifs (tT I (((wipeE env [i, j]).set i (some d)).set j (some e)) (keep d e)))
    (he : ∀ (s : Shared) (H : Hp) (C : Addr) (cl : List (Str × Addr)) (fp : List Addr), ∀ d ∈ ds, ∀ e ∈ inn d, keep d e = true → PD (X.blk s H scope (compEnvC scope cl C X.env) fp) I (((wipeE env [i, j]).set i (some d)).set j (some e)) elt (out d e))
    (hf : ∀ d ∈ ds, ∀ e ∈ inn d, keep d e = true → (out d e).fix = true) (hfi : ∀ d ∈ ds, fixL (inn d) = true) (hz1 : ∀ k : Nat, ∀ d ∈ ds, (lcR inn keep out (ds.take k)).length + (inn d).length < sizeLine) (hr : HS X I (env.set iz (some (.lst (lcR inn keep out ds)))) rest O)
    (hl : ∀ (s : Shared) (H : Hp) (C : Addr) (cl : List (Str × Addr)) (fp : List Addr), (X.blk s H scope (compEnvC scope cl C X.env) fp).env.scope.names.lookup x = some .local := by intro _ _ _ _ _; rfl)
    (hl1 : ∀ (s : Shared) (H : Hp) (C : Addr) (cl : List (Str × Addr)) (fp : List Addr), (X.blk s H scope (compEnvC scope cl C X.env) fp).env.scope.names.lookup y = some .local := by intro _ _ _ _ _; rfl)
    (hs : ∀ x, foldedSetIterable iter X.env x = pure x := by intro _; rfl) (hs1 : ∀ env x, foldedSetIterable iter1 env x = pure x := by intro _ _; rfl)
    (hy : X.N[iz]? = some z := by rfl) (hyl : X.env.scope.names.lookup z = some .local := by rfl) (hk : X.env.scope.kind = .function := by rfl) (hln : (zp.line == pos.line) = true := by rfl) (ha : (scope.names.any fun (n, k) => n == z && (k == .local || k == .cell)) = false := by rfl) :
    HS X I env (.Assign [.Name z zp] (.ListComp elt [⟨.Name x xp, iter, [], 0⟩, ⟨.Name y yp, iter1, ifs, 0⟩] scope pos) spos :: rest) O :=
  (pss_cons (ps_setLc2 (vs1 := [j]) (wi := iTup X.K (tD I env (.tup ds))) (g := gName i) (g1 := gName j) (tt := tYes) (wi1 := iTup X.K (fun σ H Q => ∃ d, d ∈ ds ∧ tD I ((wipeE env [i, j]).set i (some d)) (.tup (inn d)) σ H Q)) (tt1 := fun σ H Q => ∃ t : D × D, (t.1 ∈ ds ∧ t.2 ∈ inn t.1) ∧ tT I (((wipeE env [i, j]).set i (some t.1)).set j (some t.2)) (keep t.1 t.2) σ H Q) (te := fun σ H Q => ∃ t : D × D, (t.1 ∈ ds ∧ t.2 ∈ inn t.1 ∧ keep t.1 t.2 = true) ∧ tD I (((wipeE env [i, j]).set i (some t.1)).set j (some t.2)) (out t.1 t.2) σ H Q) hc hN hy hyl (sw_true hk hyl hln ha) (pi_tup hi) ok (by simp)
    (fun s H C cl fp => pg_name (i := i) hN (ok.ix (x, i) List.mem_cons_self) (Or.inl (hl s H C cl fp)) (.inr (hl s H C cl fp))) (fun s H C cl fp => pts_nil)
    (fun s H C cl fp => pi_tup (pe_exI fun d (h : d ∈ ds) => hi1 s H C cl fp d h))
    (fun s H C cl fp => pg_name (i := j) hN (ok.ix (y, j) (List.mem_cons_of_mem _ List.mem_cons_self)) (Or.inl (hl1 s H C cl fp)) (.inr (hl1 s H C cl fp)))
    (fun s H C cl fp => pts_exI fun (t : D × D) h => ht s H C cl fp t.1 h.1 t.2 h.2) (fun s H C cl fp => pe_exI fun (t : D × D) h => he s H C cl fp t.1 h.1 t.2 h.2.1 h.2.2) hs hs1) hr).wk fun D σ H ⟨hI, hE, k⟩ => lc2_imp (X := X) hij hf hfi hz1 σ H (fun x H1 => gName iz x σ H1 fun σ' H' => tS I (env.set iz (some (.lst (lcR inn keep out ds)))) O D σ' H') ⟨hI, hE, fun p xs H1 s1 hp hx r => ⟨I.mono s1 hI, (hE.mono s1).set (Rep.lst_of hx r), k⟩⟩
/-! ### in -/
theorem _root_.L2.Room.units65 {k : Nat} {A : Around} (r : Room k A) : A.units + 65 < cLine := by have := r.un; omega
def inD (d : D) (ds : List D) : Bool := ds.any fun z => D.eqb z d
theorem any_eqb (d : D) : ∀ ds : List D, ((pyL ds).any fun z => PyData.eqv z d.py) = inD d ds
  | [] => rfl
  | e :: ds => by
    show (PyData.eqv e.py d.py || (pyL ds).any _) = (D.eqb e d || inD d ds)
    rw [D.eqv_eqb, any_eqb d ds]
def rInTu (K : PySem.W.Frag) : R2 := fun x y H Q => ∃ d ds, Dp K H x d ∧ Dp K H y (.tuple ds) ∧ SeqAt.shaped d = true ∧ SeqAt.shaped (.tuple ds) = true ∧ Q (.bl (ds.any fun z => PyData.eqv z d)) H
theorem op_inTu (hu : X.A.units + 65 < cLine) : OpR X (compareOp .In) (rInTu X.K) := by
  intro pins s σ H x y v u Q I rx ry ⟨d, ds, hd, he, sd, se, q⟩
  obtain ⟨as, r1⟩ := Dp.reads I d x v hd rx
  obtain ⟨bs, r2⟩ := Dp.reads I (.tuple ds) y u he ry
  exact SeqAt.in_tuple_reads r2 r1 (SeqAt.canLay_of_shaped se) (SeqAt.canLay_of_shaped sd) (PyProof.Rows.room_in_shaped sd hu) ⟨.bl _, H, I, rfl, q⟩
section
variable {a b : Expr} {d : D} {ds : List D} {pos : Pos} {k : Nat}
theorem pd_inT {q : Bool} (hr : Room k X.A) (ha : PD X I env a d) (hb : PD X I env b (.tup ds)) (hq : inD d ds = q := by rfl) (h1 : d.shp = true := by rfl) (h2 : D.shp (.tup ds) = true := by rfl) (hm : behindInMarks .In b = false := by with_unfolding_all rfl) : PD X I env (.Compare a [.In] [b] pos) (.bl q) :=
  pd_cmp2 (op_inTu hr.units65) hm ha hb fun H x y Q _ r1 r2 k => by
    have e2 : D.py (.tup ds) = .tuple (pyL ds) := by simp only [D.py]
    refine ⟨d.py, pyL ds, r1.dp (Bool.and_eq_true_iff.mp h1).1, e2 ▸ r2.dp (Bool.and_eq_true_iff.mp h2).1, D.shaped h1, e2 ▸ D.shaped h2, ?_⟩
    rw [any_eqb, hq]
    exact k _ H (Same.refl H) rfl
theorem pb_inT {q : Bool} (hr : Room k X.A) (ha : PD X I env a d) (hb : PD X I env b (.tup ds)) (hq : inD d ds = q := by rfl) (h1 : d.shp = true := by rfl) (h2 : D.shp (.tup ds) = true := by rfl) (hm : behindInMarks .In b = false := by with_unfolding_all rfl) : PB X I env (.Compare a [.In] [b] pos) q :=
  pb_cmp2 (op_inTu hr.units65) hm ha hb fun H x y Q _ r1 r2 k => by
    have e2 : D.py (.tup ds) = .tuple (pyL ds) := by simp only [D.py]
    refine ⟨d.py, pyL ds, r1.dp (Bool.and_eq_true_iff.mp h1).1, e2 ▸ r2.dp (Bool.and_eq_true_iff.mp h2).1, D.shaped h1, e2 ▸ D.shaped h2, ?_⟩
    rw [any_eqb, hq]
    exact k _ H (Same.refl H) rfl
theorem inL_ok {K : PySem.W.Frag} {q : Bool} {H : Hp} {x y : V} {Q : VK} (hq : inD d ds = q) (h1 : d.shp = true) (h2 : D.shp (.lst ds) = true) (r1 : Rep H d x) (r2 : Rep H (.lst ds) y) (k : ∀ v H', Same H H' → Rep H' (.bl q) v → Q v H') : rInD K x y H Q := by
  have e2 : D.py (.lst ds) = .list (pyL ds) := by simp only [D.py]
  refine ⟨d.py, pyL ds, r1.dp (Bool.and_eq_true_iff.mp h1).1, e2 ▸ r2.dp (Bool.and_eq_true_iff.mp h2).1, D.shaped h1, e2 ▸ D.shaped h2, ?_⟩
  rw [any_eqb, hq]
  exact k _ H (Same.refl H) rfl
theorem ninL_ok {K : PySem.W.Frag} {q : Bool} {H : Hp} {x y : V} {Q : VK} (hq : inD d ds = q) (h1 : d.shp = true) (h2 : D.shp (.lst ds) = true) (r1 : Rep H d x) (r2 : Rep H (.lst ds) y) (k : ∀ v H', Same H H' → Rep H' (.bl (!q)) v → Q v H') : rNotInD K x y H Q := by
  have e2 : D.py (.lst ds) = .list (pyL ds) := by simp only [D.py]
  refine ⟨d.py, pyL ds, r1.dp (Bool.and_eq_true_iff.mp h1).1, e2 ▸ r2.dp (Bool.and_eq_true_iff.mp h2).1, D.shaped h1, e2 ▸ D.shaped h2, ?_⟩
  rw [any_eqb, hq]
  exact k _ H (Same.refl H) rfl
theorem pd_inL {q : Bool} (hr : Room k X.A) (ha : PD X I env a d) (hb : PD X I env b (.lst ds)) (hq : inD d ds = q := by rfl) (h1 : d.shp = true := by rfl) (h2 : D.shp (.lst ds) = true := by rfl) (hm : behindInMarks .In b = false := by with_unfolding_all rfl) : PD X I env (.Compare a [.In] [b] pos) (.bl q) :=
  pd_cmp2 (op_inD hr.units65) hm ha hb fun H x y Q _ r1 r2 k => inL_ok hq h1 h2 r1 r2 k
theorem pb_inL {q : Bool} (hr : Room k X.A) (ha : PD X I env a d) (hb : PD X I env b (.lst ds)) (hq : inD d ds = q := by rfl) (h1 : d.shp = true := by rfl) (h2 : D.shp (.lst ds) = true := by rfl) (hm : behindInMarks .In b = false := by with_unfolding_all rfl) : PB X I env (.Compare a [.In] [b] pos) q :=
  pb_cmp2 (op_inD hr.units65) hm ha hb fun H x y Q _ r1 r2 k => inL_ok hq h1 h2 r1 r2 k
theorem pd_ninL {q : Bool} (hr : Room k X.A) (ha : PD X I env a d) (hb : PD X I env b (.lst ds)) (hq : (!inD d ds) = q := by rfl) (h1 : d.shp = true := by rfl) (h2 : D.shp (.lst ds) = true := by rfl) (hm : behindInMarks .NotIn b = false := by with_unfolding_all rfl) : PD X I env (.Compare a [.NotIn] [b] pos) (.bl q) :=
  pd_cmp2 (op_notInD hr.units65) hm ha hb fun H x y Q _ r1 r2 k => ninL_ok rfl h1 h2 r1 r2 (by rw [hq]; exact k)
theorem pb_ninL {q : Bool} (hr : Room k X.A) (ha : PD X I env a d) (hb : PD X I env b (.lst ds)) (hq : (!inD d ds) = q := by rfl) (h1 : d.shp = true := by rfl) (h2 : D.shp (.lst ds) = true := by rfl) (hm : behindInMarks .NotIn b = false := by with_unfolding_all rfl) : PB X I env (.Compare a [.NotIn] [b] pos) q :=
  pb_cmp2 (op_notInD hr.units65) hm ha hb fun H x y Q _ r1 r2 k => ninL_ok rfl h1 h2 r1 r2 (by rw [hq]; exact k)
end
end
end Sd
namespace Sd
open PySem L2
/-- sheets of one channel -/
def eShs (c : Ck) (ps : List (Nat × Ph)) : List D := ps.map fun x => eSheet c x.1 x.2
def anyLk (ps : List (Nat × Ph)) : Bool := ps.any fun x => decide (x.2 = .lk)
def innL : D → List D
  | .tup [_, _, _, .tup l] => l
  | _ => []
theorem innL_sheet (c : Ck) (n : Nat) (p : Ph) : innL (eSheet c n p) = if p = .lk then [eLock c] else [] := by cases p <;> rfl
theorem eLocks_if (c : Ck) (p : Ph) : eLocks c p = .tup (if p = .lk then [eLock c] else []) := by cases p <;> rfl
theorem mem_shs {c : Ck} {ps : List (Nat × Ph)} {d : D} (h : d ∈ eShs c ps) : ∃ x : Nat × Ph, d = eSheet c x.1 x.2 := by
  obtain ⟨x, _, rfl⟩ := List.mem_map.mp h
  exact ⟨x, rfl⟩
theorem mem_innL {c : Ck} {ps : List (Nat × Ph)} {d e : D} (h : d ∈ eShs c ps) (he : e ∈ innL d) : e = eLock c := by
  obtain ⟨x, rfl⟩ := mem_shs h
  rw [innL_sheet] at he
  split at he
  · simpa using he
  · cases he
theorem lcR_shs (c : Ck) (q : Bool) (f : D → D) : ∀ ps : List (Nat × Ph), lcR innL (fun _ _ => q) (fun _ e => f e) (eShs c ps) = (ps.filter fun x => q && decide (x.2 = .lk)).map fun _ => f (eLock c)
  | [] => rfl
  | (n, p) :: ps => by
    have ih := lcR_shs c q f ps
    have e : lcR innL (fun _ _ => q) (fun _ e => f e) (eShs c ((n, p) :: ps)) = ((innL (eSheet c n p)).filter fun _ => q).map f ++ lcR innL (fun _ _ => q) (fun _ e => f e) (eShs c ps) := by
      unfold lcR eShs
      rw [List.map_cons, List.flatMap_cons]
    rw [e, ih, innL_sheet]
    by_cases hp : p = .lk
    · subst hp
      cases q <;> simp
    · cases q <;> simp [hp]
theorem lcR_shs_len (c : Ck) (q : Bool) (f : D → D) (ps : List (Nat × Ph)) (k : Nat) : (lcR innL (fun _ _ => q) (fun _ e => f e) ((eShs c ps).take k)).length ≤ ps.length := by
  have e : (eShs c ps).take k = eShs c (ps.take k) := by unfold eShs; rw [List.map_take]
  rw [e, lcR_shs, List.length_map]
  exact Nat.le_trans (List.length_filter_le _ _) (by rw [List.length_take]; exact Nat.min_le_right _ _)
theorem innL_len {c : Ck} {ps : List (Nat × Ph)} {d : D} (h : d ∈ eShs c ps) : (innL d).length ≤ 1 := by
  obtain ⟨x, rfl⟩ := mem_shs h
  rw [innL_sheet]
  split <;> simp
theorem innL_fix {c : Ck} {ps : List (Nat × Ph)} {d : D} (h : d ∈ eShs c ps) : fixL (innL d) = true := by
  obtain ⟨x, rfl⟩ := mem_shs h
  rw [innL_sheet]
  split
  · show ((eLock c).fix && true) = true
    rw [fix_lock]; rfl
  · rfl
theorem tk_shs (c : Ck) {ps : List (Nat × Ph)} (h : ps.length ≤ 10) : Tk 5 (.tup (eShs c ps)) := tk_tup (fun d hd => by
  obtain ⟨x, rfl⟩ := mem_shs hd
  exact tk_sheet _ _ _) (by unfold eShs; rw [List.length_map]; exact Nat.le_trans h (by decide))
def mayOpenA (t1 m : Int) (c : Ck) (pay : Bool) (ps : List (Nat × Ph)) : Bool := pay && anyLk ps && decide (m < lookAt t1 c.en)
section
variable {P : Program} {w : World} {K : PySem.W.Frag} {mg : Str → Option Value} {base : Heap} {CU : Addr}
def S_may_open (ds : List D) (d : D) : Prop := ∃ t0 t1 t2 m c pay ps, ds = [eTimes t0 t1 t2, .int m, .int (sideI c.fl pay), eImg, .tup (eShs c ps), .bl false] ∧ OkT t1 ∧ ps.length ≤ 4 ∧ d = .bl (mayOpenA t1 m c pay ps)
theorem sc_may_open : FnScope ["times", "moment", "side", "image", "sheets", "opened", "told", "locks", "sheet", "lock"] ["times", "moment", "side", "image", "sheets", "opened"] (defScope (top 38)) := ⟨rfl, rfl, rfl, by decide +kernel, rfl, by decide +kernel, by decide +kernel⟩
theorem ok_may_open (B : Free mg) (F : FD K mg "may_open" (top 38) ["times", "moment", "side", "image", "sheets", "opened"]) (ct : Cal P w K mg base CX0 11 "tuple_of" (spD (S_tuple_of 10))) (cl : Cal P w K mg base CX0 1 "look_at" (spD S_look_at)) :
    Cal P w K mg base CX0 12 "may_open" (spD S_may_open) := by
  refine cal_pure F sc_may_open (fun ds d h => by obtain ⟨_, _, _, _, _, _, _, rfl, _⟩ := h; rfl) ?_
  rintro f cdv A outer s H E hr _ _ ⟨t0, t1, t2, m, c, pay, ps, rfl, hT, hl, rfl⟩ I
  refine hs_set 6 sc_may_open.nd (pd_call ct pass0 hr (by decide) (pds_cons (pd_var 3) pds_nil) (tuS (tk_img))) ?_
  refine hs_ifF (pb_val (pd_var 5)) ?_
  refine hs_setLc2 (iz := 7) (i := 8) (j := 9) (ds := eShs c ps) (inn := innL) (keep := fun _ _ => pay) (out := fun _ e => e) rfl sc_may_open.nd (by decide) (pd_call ct pass0 hr (by decide) (pds_cons (pd_var 4) pds_nil) (tuS (tk_shs c (Nat.le_trans hl (by decide)))))
    (blkOk_by (N := ["times", "moment", "side", "image", "sheets", "opened", "told", "locks", "sheet", "lock"]) (sc := defScope (top 38)) (by decide +kernel)) (fun _ _ _ _ _ d hd => ?_) (fun _ _ _ _ _ d hd e he => ?_) (fun _ _ _ _ _ d hd e he _ => (pd_var 9))
    (fun d hd e he _ => by rw [mem_innL hd he]; exact fix_lock c) (fun d hd => innL_fix hd) (fun k d hd => ?_) ?_
  · obtain ⟨x, rfl⟩ := mem_shs hd
    rw [innL_sheet, ← eLocks_if]
    exact (pd_ixT (pd_var 8) pd_int)
  · rw [mem_innL hd he]
    cases pay with
    | true => exact ptd_one (pb_w (pbw_and (pb_eq hr (pd_ixT (pd_var 9) pd_int) (pd_var 2) (sideI_eq c.fl true true)) (pbw_and1 (pb_eq hr (pd_ixT (pd_var 9) pd_int) (pd_var 6) eqb_img shp_img shp_img))))
    | false => exact ptd_one (pb_w (pbw_and0 (pb_eq hr (pd_ixT (pd_var 9) pd_int) (pd_var 2) (sideI_eq c.fl true false))))
  · have h1 := lcR_shs_len c pay (fun e => e) ps k
    have h2 := innL_len hd
    rw [sizeLine_eq]; omega
  rw [lcR_shs c pay (fun e => e) ps]
  have hb : mayOpenA t1 m c pay ps = ((ps.filter fun x => pay && decide (x.2 = .lk)).map fun _ => decide (m < lookAt t1 c.en)).any id := by
    unfold mayOpenA anyLk
    induction ps with
    | nil => cases pay <;> rfl
    | cons x ps ih =>
      have ih := ih (Nat.le_trans (Nat.le_succ _) hl)
      by_cases hx : x.2 = .lk <;> cases pay <;> cases hq : decide (m < lookAt t1 c.en) <;> simp_all
  rw [hb]
  refine hs_ret (pd_any rfl B.any (PD.to (pd_lcNL (i := 9) (ds := (ps.filter fun x => pay && decide (x.2 = .lk)).map fun _ => eLock c) (keep := fun _ => true) (out := fun _ => .bl (decide (m < lookAt t1 c.en))) rfl sc_may_open.nd (pd_var 7)
    (blkOk_by (N := ["times", "moment", "side", "image", "sheets", "opened", "told", "locks", "sheet", "lock"]) (sc := defScope (top 38)) (by decide +kernel)) (fun _ _ _ _ _ d hd => ptd_nil) (fun _ _ _ _ _ d hd _ => ?_) (fun d hd _ => rfl) ?_) ?_))
  · obtain ⟨x, _, rfl⟩ := List.mem_map.mp hd
    exact pd_lt (pd_var 1) (pd_call cl pass0 hr (by decide) (pds_cons (pd_var 0) (pds_cons (pd_ixT (pd_var 9) pd_int) pds_nil)) ⟨_, _, _, _, rfl, hT, rfl⟩)
  · rw [List.length_map]
    have := List.length_filter_le (fun x : Nat × Ph => pay && decide (x.2 = .lk)) ps
    rw [sizeLine_eq]; omega
  · rw [List.filter_eq_self.mpr (fun _ _ => rfl), List.map_map, List.map_map]
    rfl
def S_passes (ds : List D) (d : D) : Prop := ∃ t0 t1 t2 m g ci co, ds = [eTimes t0 t1 t2, .int m, .int g, eLock ci, eLock co] ∧ OkT t1 ∧ ci.a = co.a ∧ d = .bl (decide (lookAt t1 co.en + t0 ≤ ci.en + g) && inTime t0 t1 m ci.en)
theorem sc_passes : FnScope ["times", "moment", "gap", "lock", "out", "near", "far"] ["times", "moment", "gap", "lock", "out"] (defScope (top 39)) := ⟨rfl, rfl, rfl, by decide +kernel, rfl, by decide +kernel, by decide +kernel⟩
theorem ok_passes (F : FD K mg "passes" (top 39) ["times", "moment", "gap", "lock", "out"]) (ct : Cal P w K mg base CX0 11 "tuple_of" (spD (S_tuple_of 10))) (cg : Cal P w K mg base CX0 3 "enough_gap" (spD S_gap)) (ci' : Cal P w K mg base CX0 4 "in_time" (spD S_in_time)) :
    Cal P w K mg base CX0 12 "passes" (spD S_passes) := by
  refine cal_pure F sc_passes (fun ds d h => by obtain ⟨_, _, _, _, _, _, _, rfl, _⟩ := h; rfl) ?_
  rintro f cdv A outer s H E hr _ _ ⟨t0, t1, t2, m, g, ci, co, rfl, hT, ha, rfl⟩ I
  refine hs_par 5 6 rfl sc_passes.nd (by decide) (pds_cons (pd_call ct pass0 hr (by decide) (pds_cons (pd_var 3) pds_nil) (tuS (tk_lock ci))) (pds_cons (pd_call ct pass0 hr (by decide) (pds_cons (pd_var 4) pds_nil) (tuS (tk_lock co))) pds_nil)) ?_
  have hgt : decide (ci.a < co.a) = false := decide_eq_false (by omega)
  cases hg : decide (lookAt t1 co.en + t0 ≤ ci.en + g) with
  | false =>
    exact hs_ifT (pb_w (pbw_or (pb_ne hr (pd_ixT (pd_var 5) pd_int) (pd_ixT (pd_var 6) pd_int) (by rw [eqb_img]; rfl) shp_img shp_img) (pbw_or (pb_gt (pd_ixT (pd_var 6) pd_int) (pd_ixT (pd_var 5) pd_int) hgt) (pbw_or1 (pb_not (pb_val (PD.to (pd_call cg pass0 hr (by decide) (pds_cons (pd_var 0) (pds_cons (pd_add (pd_ixT (pd_var 5) pd_int) (pd_var 2)) (pds_cons (pd_ixT (pd_var 6) pd_int) pds_nil))) ⟨_, _, _, _, _, rfl, hT, rfl⟩) (congrArg D.bl hg)))))))) (hs_ret pd_bl) noNx_ret
  | true =>
    exact hs_ifF (pb_w (pbw_or (pb_ne hr (pd_ixT (pd_var 5) pd_int) (pd_ixT (pd_var 6) pd_int) (by rw [eqb_img]; rfl) shp_img shp_img) (pbw_or (pb_gt (pd_ixT (pd_var 6) pd_int) (pd_ixT (pd_var 5) pd_int) hgt) (pbw_or1 (pb_not (pb_val (PD.to (pd_call cg pass0 hr (by decide) (pds_cons (pd_var 0) (pds_cons (pd_add (pd_ixT (pd_var 5) pd_int) (pd_var 2)) (pds_cons (pd_ixT (pd_var 6) pd_int) pds_nil))) ⟨_, _, _, _, _, rfl, hT, rfl⟩) (congrArg D.bl hg)))))))) (hs_ret (pd_call ci' pass0 hr (by decide) (pds_cons (pd_var 0) (pds_cons (pd_var 1) (pds_cons (pd_ixT (pd_var 5) pd_int) pds_nil))) ⟨_, _, _, _, _, rfl, hT, rfl⟩))
def eAn : An → D
  | .drop => .str "drop"
  | .secret => .str "secret"
  | .show => .str "show"
  | .hold => .str "hold"
  | .pass => .str "pass"
  | .wait => .str "wait"
def eKeep (knows bound : Bool) : D := .tup [.tup (if knows then [.int 7] else []), .tup (if bound then [eImg] else [])]
theorem tk_keep (a b : Bool) : Tk 3 (eKeep a b) := by cases a <;> cases b <;> exact ⟨by decide +kernel, by decide +kernel⟩
def S_answer (ds : List D) (d : D) : Prop := ∃ t0 t1 t2 m g ci co knows bound onw, ds = [eTimes t0 t1 t2, .int m, .int g, eKeep knows bound, eLock ci, (if onw then eLock co else .non)] ∧ OkT t1 ∧ (onw = true → ci.a = co.a) ∧
  d = eAn (answerA (inTime t0 t1 m ci.en) (decide (ci.en < m)) knows bound (onw && decide (lookAt t1 co.en + t0 ≤ ci.en + g)))
theorem sc_answer : FnScope ["times", "moment", "gap", "keep", "lock", "onward", "own", "secrets", "images", "early"] ["times", "moment", "gap", "keep", "lock", "onward"] (defScope (top 40)) := ⟨rfl, rfl, rfl, by decide +kernel, rfl, by decide +kernel, by decide +kernel⟩
theorem ok_answer (F : FD K mg "answer" (top 40) ["times", "moment", "gap", "keep", "lock", "onward"]) (ct : Cal P w K mg base CX0 11 "tuple_of" (spD (S_tuple_of 10))) (ci' : Cal P w K mg base CX0 4 "in_time" (spD S_in_time)) (cp' : Cal P w K mg base CX0 12 "passes" (spD S_passes)) :
    Cal P w K mg base CX0 13 "answer" (spD S_answer) := by
  refine cal_pure F sc_answer (fun ds d h => by obtain ⟨_, _, _, _, _, _, _, _, _, _, rfl, _⟩ := h; rfl) ?_
  rintro f cdv A outer s H E hr _ _ ⟨t0, t1, t2, m, g, ci, co, knows, bound, onw, rfl, hT, ha, rfl⟩ I
  refine hs_asg (pd_tup (pds_cons (pd_call ct pass0 hr (by decide) (pds_cons (pd_var 4) pds_nil) (tuS (tk_lock ci))) (pds_cons (pd_call ct pass0 hr (by decide) (pds_cons (pd_var 3) pds_nil) (tuS (tk_keep knows bound))) pds_nil))) (pgd_tup rfl (pgsd_cons (pgd_name 6 sc_answer.nd) (pgsd_cons (pgd_tup rfl (pgsd_cons (pgd_name 7 sc_answer.nd) (pgsd_cons (pgd_name 8 sc_answer.nd) pgsd_nil))) pgsd_nil))) ?_
  refine hs_set 9 sc_answer.nd (pd_call ci' pass0 hr (by decide) (pds_cons (pd_var 0) (pds_cons (pd_var 1) (pds_cons (pd_ixT (pd_var 6) pd_int) pds_nil))) ⟨_, _, _, _, _, rfl, hT, rfl⟩) ?_
  cases hl : decide (ci.en < m) with
  | true => exact hs_ifT (pb_gt (pd_var 1) (pd_ixT (pd_var 6) pd_int) hl) (hs_ret pd_str) noNx_ret
  | false =>
    refine hs_ifF (pb_gt (pd_var 1) (pd_ixT (pd_var 6) pd_int) hl) ?_
    cases knows with
    | true =>
      refine hs_ifT (pb_inT hr (pd_ixT (pd_ixT (pd_var 6) pd_int) pd_int) (pd_var 7)) ?_ noNx_ret
      cases he : inTime t0 t1 m ci.en with
      | true => exact hs_ret (pd_ifT (pb_val (pd_var 9)) pd_str)
      | false => exact hs_ret (pd_ifF (pb_val (pd_var 9)) pd_str)
    | false =>
      refine hs_ifF (pb_inT hr (pd_ixT (pd_ixT (pd_var 6) pd_int) pd_int) (pd_var 7)) ?_
      cases bound with
      | true => exact hs_ifT (pb_inT hr (pd_ixT (pd_var 6) pd_int) (pd_var 8) (by decide +kernel) shp_img (by decide +kernel)) (hs_ret pd_str) noNx_ret
      | false =>
        refine hs_ifF (pb_inT hr (pd_ixT (pd_var 6) pd_int) (pd_var 8) (by decide +kernel) shp_img (by decide +kernel)) ?_
        cases onw with
        | false =>
          refine hs_ifF (pb_w (pbw_and0 (pb_notN (pd_var 5)))) ?_
          cases he : inTime t0 t1 m ci.en with
          | true => exact hs_ret (pd_ifT (pb_val (pd_var 9)) pd_str)
          | false => exact hs_ret (pd_ifF (pb_val (pd_var 9)) pd_str)
        | true =>
          cases hg : decide (lookAt t1 co.en + t0 ≤ ci.en + g) with
          | false =>
            refine hs_ifF (pb_w (pbw_and (pb_notN (pd_var 5)) (pbw_and1 (pb_val (PD.to (pd_call cp' pass0 hr (by decide) (pds_cons (pd_var 0) (pds_cons (pd_var 1) (pds_cons (pd_var 2) (pds_cons (pd_var 6) (pds_cons (pd_var 5) pds_nil))))) ⟨_, _, _, _, _, _, co, rfl, hT, ha rfl, rfl⟩) (by rw [hg]; rfl)))))) ?_
            cases he : inTime t0 t1 m ci.en with
            | true => exact hs_ret (pd_ifT (pb_val (pd_var 9)) pd_str)
            | false => exact hs_ret (pd_ifF (pb_val (pd_var 9)) pd_str)
          | true =>
            cases he : inTime t0 t1 m ci.en with
            | true => exact hs_ifT (pb_w (pbw_and (pb_notN (pd_var 5)) (pbw_and1 (pb_val (PD.to (pd_call cp' pass0 hr (by decide) (pds_cons (pd_var 0) (pds_cons (pd_var 1) (pds_cons (pd_var 2) (pds_cons (pd_var 6) (pds_cons (pd_var 5) pds_nil))))) ⟨_, _, _, _, _, _, co, rfl, hT, ha rfl, rfl⟩) (by rw [hg, he]; rfl)))))) (hs_ret pd_str) noNx_ret
            | false => exact hs_ifF (pb_w (pbw_and (pb_notN (pd_var 5)) (pbw_and1 (pb_val (PD.to (pd_call cp' pass0 hr (by decide) (pds_cons (pd_var 0) (pds_cons (pd_var 1) (pds_cons (pd_var 2) (pds_cons (pd_var 6) (pds_cons (pd_var 5) pds_nil))))) ⟨_, _, _, _, _, _, co, rfl, hT, ha rfl, rfl⟩) (by rw [hg, he]; rfl)))))) (hs_ret (pd_ifF (pb_val (pd_var 9)) pd_str))
end
end Sd
namespace Sd
open PySem L2
/-! ### cells: what is changed in place, apart from the rest -/
inductive Co where
  | lst (ds : List D)
  | dct (z : Option Obj) (kvs : List (Int × D))
  | ins (C : Addr) (fs : List (Str × D))
def KRep (H : Hp) : List (Int × D) → List (Key × V) → Prop
  | [], xs => xs = []
  | (k, d) :: ds, xs => ∃ v r, xs = (.inl k, v) :: r ∧ Rep H d v ∧ KRep H ds r
def FRep (H : Hp) : List (Str × D) → List (Str × V) → Prop
  | [], xs => xs = []
  | (k, d) :: ds, xs => ∃ v r, xs = (k, v) :: r ∧ Rep H d v ∧ FRep H ds r
def fixK {κ : Type} : List (κ × D) → Bool
  | [] => true
  | (_, d) :: ds => d.fix && fixK ds
theorem KRep.mono {H H' : Hp} (s : Same H H') : ∀ {ds : List (Int × D)} {xs : List (Key × V)}, KRep H ds xs → KRep H' ds xs
  | [], _, h => h
  | (k, d) :: ds, _, ⟨v, r, e, h1, h2⟩ => ⟨v, r, e, h1.mono s, KRep.mono s h2⟩
theorem FRep.mono {H H' : Hp} (s : Same H H') : ∀ {ds : List (Str × D)} {xs : List (Str × V)}, FRep H ds xs → FRep H' ds xs
  | [], _, h => h
  | (k, d) :: ds, _, ⟨v, r, e, h1, h2⟩ => ⟨v, r, e, h1.mono s, FRep.mono s h2⟩
theorem fixK_cons {κ : Type} {k : κ} {d : D} {ds : List (κ × D)} (h : fixK ((k, d) :: ds) = true) : d.fix = true ∧ fixK ds = true := Bool.and_eq_true_iff.mp h
theorem KRep.tr {H H' : Hp} (s : Tr H H') : ∀ {ds : List (Int × D)} {xs : List (Key × V)}, fixK ds = true → KRep H ds xs → KRep H' ds xs
  | [], _, _, h => h
  | (k, d) :: ds, _, f, ⟨v, r, e, h1, h2⟩ => ⟨v, r, e, h1.tr s (fixK_cons f).1, KRep.tr s (fixK_cons f).2 h2⟩
theorem FRep.tr {H H' : Hp} (s : Tr H H') : ∀ {ds : List (Str × D)} {xs : List (Str × V)}, fixK ds = true → FRep H ds xs → FRep H' ds xs
  | [], _, _, h => h
  | (k, d) :: ds, _, f, ⟨v, r, e, h1, h2⟩ => ⟨v, r, e, h1.tr s (fixK_cons f).1, FRep.tr s (fixK_cons f).2 h2⟩
/-- an entry, by its key -/
def getA {κ : Type} [DecidableEq κ] : List (κ × D) → κ → Option D
  | [], _ => none
  | (k, d) :: ds, j => if k = j then some d else getA ds j
def putA {κ : Type} [DecidableEq κ] : List (κ × D) → κ → D → List (κ × D)
  | [], j, e => [(j, e)]
  | (k, d) :: ds, j, e => if k = j then (k, e) :: ds else (k, d) :: putA ds j e
theorem fixK_get {κ : Type} [DecidableEq κ] : ∀ {ds : List (κ × D)} {j : κ} {d : D}, fixK ds = true → getA ds j = some d → d.fix = true
  | (k, d) :: ds, j, e, f, h => by
    unfold getA at h
    split at h
    · cases h; exact (fixK_cons f).1
    · exact fixK_get (fixK_cons f).2 h
theorem fixK_put {κ : Type} [DecidableEq κ] : ∀ {ds : List (κ × D)} {j : κ} {e : D}, fixK ds = true → e.fix = true → fixK (putA ds j e) = true
  | [], j, e, _, he => by show (e.fix && true) = true; rw [he]; rfl
  | (k, d) :: ds, j, e, f, he => by
    unfold putA
    split
    · show (e.fix && fixK ds) = true
      rw [he, (fixK_cons f).2]; rfl
    · show (d.fix && fixK (putA ds j e)) = true
      rw [(fixK_cons f).1, fixK_put (fixK_cons f).2 he]; rfl
theorem KRep.get {H : Hp} : ∀ {ds : List (Int × D)} {xs : List (Key × V)} {j : Int} {d : D}, KRep H ds xs → getA ds j = some d → ∃ v, valV xs (.inl j) = some v ∧ Rep H d v
  | (k, d) :: ds, _, j, e, ⟨v, r, e1, h1, h2⟩, h => by
    subst e1
    unfold getA at h
    split at h
    · rename_i q
      cases h; subst q
      exact ⟨v, valV_pos rfl, h1⟩
    · rename_i q
      obtain ⟨u, hu, ru⟩ := KRep.get h2 h
      exact ⟨u, (valV_neg (fun z => q (Sum.inl.inj z))).trans hu, ru⟩
theorem KRep.getN {H : Hp} : ∀ {ds : List (Int × D)} {xs : List (Key × V)} {j : Int}, KRep H ds xs → getA ds j = none → valV xs (.inl j) = none
  | [], _, j, h, _ => by have e : _ = [] := h; subst e; exact valV_nil
  | (k, d) :: ds, _, j, ⟨v, r, e1, h1, h2⟩, h => by
    subst e1
    unfold getA at h
    split at h
    · cases h
    · rename_i q
      exact (valV_neg (fun z => q (Sum.inl.inj z))).trans (KRep.getN h2 h)
theorem KRep.length {H : Hp} : ∀ {ds : List (Int × D)} {xs : List (Key × V)}, KRep H ds xs → xs.length = ds.length
  | [], _, h => by have e : _ = [] := h; subst e; rfl
  | (k, d) :: ds, _, ⟨v, r, e1, h1, h2⟩ => by subst e1; rw [List.length_cons, List.length_cons, KRep.length h2]
theorem putK_cons {k j : Key} {v x : V} {r : List (Key × V)} (hr : valV r j = none ∨ k ≠ j) (nd : k = j → valV r j = none) : putK ((k, x) :: r) j v = if k = j then (k, v) :: r else (k, x) :: putK r j v := by
  unfold putK
  by_cases h : k = j
  · rw [if_pos h]
    have hn := nd h
    rw [if_pos (by simp [h])]
    rw [List.map_cons]
    have : r.map (fun kv => if kv.1 = j then (kv.1, v) else kv) = r := by
      have hall : ∀ kv ∈ r, ¬ kv.1 = j := by
        intro kv hkv hq
        have := valV_any j r
        rw [hn] at this
        have h2 : (r.any fun kv => decide (kv.1 = j)) = true := List.any_eq_true.mpr ⟨kv, hkv, by simp [hq]⟩
        rw [h2] at this
        cases this
      calc r.map (fun kv => if kv.1 = j then (kv.1, v) else kv) = r.map id := List.map_congr_left (fun kv hkv => if_neg (hall kv hkv))
        _ = r := List.map_id _
    rw [this]
    simp [h]
  · rw [if_neg h]
    have e : (((k, x) :: r).any fun kv => decide (kv.1 = j)) = r.any fun kv => decide (kv.1 = j) := by simp [h]
    rw [e]
    split
    · simp [h]
    · simp
def keysNd : List (Int × D) → Prop
  | [] => True
  | (k, _) :: ds => getA ds k = none ∧ keysNd ds
theorem KRep.put {H : Hp} : ∀ {ds : List (Int × D)} {xs : List (Key × V)} {j : Int} {d : D} {v : V}, keysNd ds → KRep H ds xs → Rep H d v → KRep H (putA ds j d) (putK xs (.inl j) v)
  | [], _, j, d, v, _, h, r => by
    have e : _ = [] := h
    subst e
    exact ⟨v, [], rfl, r, rfl⟩
  | (k, d0) :: ds, _, j, d, v, nd, ⟨v0, r0, e1, h1, h2⟩, r => by
    subst e1
    rw [putK_cons (by by_cases q : k = j
                      · exact .inl (KRep.getN h2 (by rw [← q]; exact nd.1))
                      · exact .inr (fun z => q (Sum.inl.inj z))) (fun z => KRep.getN h2 (by rw [← Sum.inl.inj z]; exact nd.1))]
    unfold putA
    by_cases q : k = j
    · rw [if_pos q, if_pos (by rw [q])]
      exact ⟨v, r0, rfl, r, h2⟩
    · rw [if_neg q, if_neg (fun z => q (Sum.inl.inj z))]
      exact ⟨v0, _, rfl, h1, KRep.put nd.2 h2 r⟩
theorem FRep.get {H : Hp} : ∀ {ds : List (Str × D)} {xs : List (Str × V)} {j : Str} {d : D}, FRep H ds xs → getA ds j = some d → ∃ v, xs.lookup j = some v ∧ Rep H d v
  | (k, d) :: ds, _, j, e, ⟨v, r, e1, h1, h2⟩, h => by
    subst e1
    unfold getA at h
    rw [List.lookup_cons]
    split at h
    · rename_i q
      cases h; subst q
      exact ⟨v, by simp, h1⟩
    · rename_i q
      obtain ⟨u, hu, ru⟩ := FRep.get h2 h
      have hb : (j == k) = false := beq_eq_false_iff_ne.mpr (Ne.symm q)
      exact ⟨u, by rw [hb]; exact hu, ru⟩
theorem FRep.getN {H : Hp} : ∀ {ds : List (Str × D)} {xs : List (Str × V)} {j : Str}, FRep H ds xs → getA ds j = none → xs.lookup j = none
  | [], _, j, h, _ => by have e : _ = [] := h; subst e; rfl
  | (k, d) :: ds, _, j, ⟨v, r, e1, h1, h2⟩, h => by
    subst e1
    unfold getA at h
    rw [List.lookup_cons]
    split at h
    · cases h
    · rename_i q
      have hb : (j == k) = false := beq_eq_false_iff_ne.mpr (Ne.symm q)
      rw [hb]
      exact FRep.getN h2 h
theorem FRep.length {H : Hp} : ∀ {ds : List (Str × D)} {xs : List (Str × V)}, FRep H ds xs → xs.length = ds.length
  | [], _, h => by have e : _ = [] := h; subst e; rfl
  | (k, d) :: ds, _, ⟨v, r, e1, h1, h2⟩ => by subst e1; rw [List.length_cons, List.length_cons, FRep.length h2]
end Sd
namespace Sd
open PySem L2
def frzO (z : Option Obj) (u : HO) : HO := match z with
  | none => u
  | some o => .frz o u
def CoAt (H : Hp) (a : Addr) : Co → Prop
  | .lst ds => fixL ds = true ∧ ∃ xs, H a = some (.lst xs) ∧ RepL H ds xs
  | .dct z kvs => fixK kvs = true ∧ keysNd kvs ∧ ∃ vs, H a = some (frzO z (.dK vs)) ∧ KRep H kvs vs
  | .ins C fs => fixK fs = true ∧ ∃ dx vs, H a = some (.ins C dx vs) ∧ FRep H fs vs
theorem CoAt.ex {H : Hp} {a : Addr} : ∀ {c : Co}, CoAt H a c → ∃ o, H a = some o ∧ ∀ xs, o ≠ .tup xs
  | .lst _, ⟨_, xs, h, _⟩ => ⟨_, h, fun _ q => by cases q⟩
  | .dct none _, ⟨_, _, vs, h, _⟩ => ⟨_, h, fun _ q => by cases q⟩
  | .dct (.some _) _, ⟨_, _, vs, h, _⟩ => ⟨_, h, fun _ q => by cases q⟩
  | .ins _ _, ⟨_, _, vs, h, _⟩ => ⟨_, h, fun _ q => by cases q⟩
theorem CoAt.mono {H H' : Hp} (s : Same H H') {a : Addr} : ∀ {c : Co}, CoAt H a c → CoAt H' a c
  | .lst _, ⟨f, xs, h, r⟩ => ⟨f, xs, s _ _ h, r.mono s⟩
  | .dct _ _, ⟨f, n, vs, h, r⟩ => ⟨f, n, vs, s _ _ h, r.mono s⟩
  | .ins _ _, ⟨f, dx, vs, h, r⟩ => ⟨f, dx, vs, s _ _ h, r.mono s⟩
/-- a change elsewhere -/
theorem CoAt.tr {H H' : Hp} (t : Tr H H') {a : Addr} (ha : H' a = H a) : ∀ {c : Co}, CoAt H a c → CoAt H' a c
  | .lst _, ⟨f, xs, h, r⟩ => ⟨f, xs, ha.trans h, r.tr t f⟩
  | .dct _ _, ⟨f, n, vs, h, r⟩ => ⟨f, n, vs, ha.trans h, r.tr t f⟩
  | .ins _ _, ⟨f, dx, vs, h, r⟩ => ⟨f, dx, vs, ha.trans h, r.tr t f⟩
abbrev Cs := List (Addr × Co)
/-- the heap without these -/
def Hws (H : Hp) (cs : Cs) : Hp := fun b => if b ∈ cs.map Prod.fst then none else H b
theorem Hws_in {H : Hp} {cs : Cs} {b : Addr} (h : b ∈ cs.map Prod.fst) : Hws H cs b = none := if_pos h
theorem Hws_out {H : Hp} {cs : Cs} {b : Addr} (h : b ∉ cs.map Prod.fst) : Hws H cs b = H b := if_neg h
theorem Hws_le {H : Hp} {cs : Cs} : Same (Hws H cs) H := fun b o e => by
  by_cases h : b ∈ cs.map Prod.fst
  · rw [Hws_in h] at e; cases e
  · rw [Hws_out h] at e; exact e
theorem Hws_mono {H H' : Hp} {cs : Cs} (s : Same H H') : Same (Hws H cs) (Hws H' cs) := fun b o e => by
  by_cases h : b ∈ cs.map Prod.fst
  · rw [Hws_in h] at e; cases e
  · rw [Hws_out h] at e ⊢; exact s b o e
structure LkP (F : Asr) (cs : Cs) (H : Hp) : Prop where
  fr : F.p (Hws H cs)
  nd : ∀ (i j : Nat) (q r : Addr × Co), cs[i]? = some q → cs[j]? = some r → q.1 = r.1 → i = j
  at_ : ∀ (i : Nat) (q : Addr × Co), cs[i]? = some q → CoAt H q.1 q.2
/-- F of the rest, and these cells -/
def Lk (F : Asr) (cs : Cs) : Asr := ⟨fun H => LkP F cs H, fun s h => ⟨F.mono (Hws_mono s) h.fr, h.nd, fun i q e => (h.at_ i q e).mono s⟩⟩
theorem mem_fst {cs : Cs} {b : Addr} (h : b ∈ cs.map Prod.fst) : ∃ (i : Nat) (c : Co), cs[i]? = some (b, c) := by
  obtain ⟨q, hq, e⟩ := List.mem_map.mp h
  obtain ⟨i, hi⟩ := List.mem_iff_getElem?.mp hq
  exact ⟨i, q.2, by rw [hi, ← e]⟩
theorem fst_mem {cs : Cs} {i : Nat} {q : Addr × Co} (h : cs[i]? = some q) : q.1 ∈ cs.map Prod.fst := List.mem_map.mpr ⟨q, List.mem_of_getElem? h, rfl⟩
theorem LkP.le {F : Asr} {cs : Cs} {H : Hp} (h : LkP F cs H) : F.p H := F.mono Hws_le h.fr
theorem LkP.frm {F G : Asr} {cs : Cs} {H : Hp} (h : LkP F cs H) (k : ∀ H, F.p H → G.p H) : LkP G cs H := ⟨k _ h.fr, h.nd, h.at_⟩
theorem Tr.upd {H : Hp} {p : Addr} {o : HO} (h : ∀ xs, H p ≠ some (.tup xs)) : Tr H (upd H p o) := fun a xs e => by
  by_cases q : a = p
  · subst q; exact absurd e (h xs)
  · rw [upd_ne q]; exact e
/-- the cell i is changed in place -/
theorem LkP.put {F : Asr} {cs : Cs} {H : Hp} {i : Nat} {p : Addr} {c c' : Co} {o : HO} (h : LkP F cs H) (hi : cs[i]? = some (p, c)) (hc : CoAt (upd H p o) p c') : LkP F (cs.set i (p, c')) (upd H p o) ∧ Tr H (upd H p o) := by
  obtain ⟨o1, ho1, hn1⟩ := (h.at_ i _ hi).ex
  have hn : ∀ xs, H p ≠ some (.tup xs) := fun xs e => by rw [ho1] at e; exact hn1 xs (Option.some.inj e)
  have t : Tr H (upd H p o) := Tr.upd hn
  have hil : i < cs.length := (List.getElem?_eq_some_iff.mp hi).1
  have hfst : (cs.set i (p, c')).map Prod.fst = cs.map Prod.fst := by
    apply List.ext_getElem?
    intro j
    rw [List.getElem?_map, List.getElem?_map, List.getElem?_set]
    by_cases hj : i = j
    · subst hj; rw [if_pos rfl, if_pos hil, hi]; rfl
    · rw [if_neg hj]
  have hpm : p ∈ cs.map Prod.fst := fst_mem hi
  have hw : Hws (upd H p o) (cs.set i (p, c')) = Hws H cs := by
    funext b
    unfold Hws
    rw [hfst]
    by_cases hb : b ∈ cs.map Prod.fst
    · rw [if_pos hb, if_pos hb]
    · rw [if_neg hb, if_neg hb, upd_ne (fun (z : b = p) => hb (by rw [z]; exact hpm))]
  have get : ∀ (j : Nat) (q : Addr × Co), (cs.set i (p, c'))[j]? = some q → (j = i ∧ q = (p, c')) ∨ (j ≠ i ∧ cs[j]? = some q) := fun j q e => by
    rw [List.getElem?_set] at e
    by_cases hj : i = j
    · rw [if_pos hj, if_pos (by omega)] at e; cases e; exact .inl ⟨hj.symm, rfl⟩
    · rw [if_neg hj] at e; exact .inr ⟨Ne.symm hj, e⟩
  refine ⟨⟨by rw [hw]; exact h.fr, fun j k q r e1 e2 e3 => ?_, fun j q e => ?_⟩, t⟩
  · have f1 : (cs[j]?).map Prod.fst = some q.1 := by rw [← List.getElem?_map, ← hfst, List.getElem?_map, e1]; rfl
    have f2 : (cs[k]?).map Prod.fst = some r.1 := by rw [← List.getElem?_map, ← hfst, List.getElem?_map, e2]; rfl
    cases g1 : cs[j]? with
    | none => rw [g1] at f1; cases f1
    | some q1 =>
      cases g2 : cs[k]? with
      | none => rw [g2] at f2; cases f2
      | some r1 =>
        rw [g1] at f1; rw [g2] at f2
        have f1 := Option.some.inj f1
        have f2 := Option.some.inj f2
        exact h.nd j k q1 r1 g1 g2 (by rw [f1, f2, e3])
  · rcases get j q e with ⟨_, e2⟩ | ⟨hj, e2⟩
    · subst e2; exact hc
    · have hne : q.1 ≠ p := fun z => hj (h.nd j i q (p, c) e2 hi z)
      exact (h.at_ j q e2).tr t (upd_ne hne)
theorem set_get {cs : Cs} {i j : Nat} {q r : Addr × Co} (e : (cs.set i r)[j]? = some q) : (j = i ∧ q = r) ∨ (j ≠ i ∧ cs[j]? = some q) := by
  rw [List.getElem?_set] at e
  by_cases hj : i = j
  · rw [if_pos hj] at e
    split at e
    · cases e; exact .inl ⟨hj.symm, rfl⟩
    · cases e
  · rw [if_neg hj] at e; exact .inr ⟨Ne.symm hj, e⟩
/-- the cell i is another, a new one -/
theorem LkP.renew {F : Asr} {cs : Cs} {H H' : Hp} {i : Nat} {p : Addr} {c' : Co} (h : LkP F cs H) (s : Same H H') (hp : H p = none) (hc : CoAt H' p c') : LkP F (cs.set i (p, c')) H' := by
  have ne : ∀ (j : Nat) (q : Addr × Co), cs[j]? = some q → q.1 ≠ p := fun j q e z => by
    obtain ⟨o, ho, _⟩ := (h.at_ j q e).ex
    rw [z, hp] at ho; cases ho
  refine ⟨F.mono (fun b o e => ?_) h.fr, fun j k q r e1 e2 e3 => ?_, fun j q e => ?_⟩
  · by_cases hb : b ∈ cs.map Prod.fst
    · rw [Hws_in hb] at e; cases e
    · rw [Hws_out hb] at e
      have hbp : b ≠ p := fun z => by rw [z, hp] at e; cases e
      rw [Hws_out]
      · exact s b o e
      · intro hb2
        obtain ⟨j, c, hj⟩ := mem_fst hb2
        rcases set_get hj with ⟨_, e2⟩ | ⟨_, e2⟩
        · exact hbp (congrArg Prod.fst e2)
        · exact hb (fst_mem e2)
  · rcases set_get e1 with ⟨j1, q1⟩ | ⟨j1, q1⟩ <;> rcases set_get e2 with ⟨k1, r1⟩ | ⟨k1, r1⟩
    · rw [j1, k1]
    · subst q1; exact absurd e3.symm (ne k r r1)
    · subst r1; exact absurd e3 (ne j q q1)
    · exact h.nd j k q r q1 r1 e3
  · rcases set_get e with ⟨_, e2⟩ | ⟨_, e2⟩
    · subst e2; exact hc
    · exact (h.at_ j q e2).mono s
/-- one more -/
theorem LkP.new {F : Asr} {cs : Cs} {H H' : Hp} {p : Addr} {c' : Co} (h : LkP F cs H) (s : Same H H') (hp : H p = none) (hc : CoAt H' p c') : LkP F (cs ++ [(p, c')]) H' := by
  have ne : ∀ (j : Nat) (q : Addr × Co), cs[j]? = some q → q.1 ≠ p := fun j q e z => by
    obtain ⟨o, ho, _⟩ := (h.at_ j q e).ex
    rw [z, hp] at ho; cases ho
  have get : ∀ (j : Nat) (q : Addr × Co), (cs ++ [(p, c')])[j]? = some q → cs[j]? = some q ∨ (j = cs.length ∧ q = (p, c')) := fun j q e => by
    by_cases hj : j < cs.length
    · rw [List.getElem?_append_left hj] at e; exact .inl e
    · rw [List.getElem?_append_right (by omega)] at e
      have : j - cs.length = 0 := by
        by_cases z : j - cs.length = 0
        · exact z
        · rw [List.getElem?_eq_none (by simp; omega)] at e; cases e
      rw [this] at e
      cases e
      exact .inr ⟨by omega, rfl⟩
  refine ⟨F.mono (fun b o e => ?_) h.fr, fun j k q r e1 e2 e3 => ?_, fun j q e => ?_⟩
  · by_cases hb : b ∈ cs.map Prod.fst
    · rw [Hws_in hb] at e; cases e
    · rw [Hws_out hb] at e
      have hbp : b ≠ p := fun z => by rw [z, hp] at e; cases e
      rw [Hws_out]
      · exact s b o e
      · intro hb2
        rw [List.map_append] at hb2
        rcases List.mem_append.mp hb2 with z | z
        · exact hb z
        · exact hbp (by simpa using z)
  · rcases get j q e1 with q1 | ⟨j1, q1⟩ <;> rcases get k r e2 with r1 | ⟨k1, r1⟩
    · exact h.nd j k q r q1 r1 e3
    · subst r1; exact absurd e3 (ne j q q1)
    · subst q1; exact absurd e3.symm (ne k r r1)
    · rw [j1, k1]
  · rcases get j q e with e2 | ⟨_, e2⟩
    · exact (h.at_ j q e2).mono s
    · subst e2; exact hc
/-! ### reading -/
section
variable {X : Cx} {I : Asr} {F : Asr} {cs : Cs} {env : Ev} {e o a b : Expr} {es : List Expr} {d : D} {ds : List D} {pos p2 : Pos} {f : Str} {i k : Nat} {p : Addr}
def Le (I F : Asr) (cs : Cs) : Prop := ∀ H, I.p H → LkP F cs H
theorem le_lk : Le (Lk F cs) F cs := fun _ h => h
/-- what is known of the class -/
def ClsAt (K : PySem.W.Frag) (C : Addr) (fs : List Str) : Prop := Cls K C ∧ ∀ f ∈ fs, NoAttr K C f
theorem pd_fld {C : Addr} {fs : List (Str × D)} (le : Le I F cs) (i : Nat) (ho : PD X I env o (.ref p)) (hi : cs[i]? = some (p, .ins C fs)) (c : Cls X.K C) (n : NoAttr X.K C f) (hf : getA fs f = some d) (hb : attributeBase o f X.env (eval o X.env) = eval o X.env := by rfl) : PD X I env (.Attribute o f pos) d :=
  (pe_fld ho hb).wk fun σ H Q ⟨hI, hE, k⟩ => ⟨hI, hE, fun x H1 s1 r1 => by
    have ex : x = .ref p := r1
    subst ex
    obtain ⟨_, dx, vs, hv, rv⟩ := (le _ (I.mono s1 hI)).at_ i _ hi
    obtain ⟨v, h1, r⟩ := rv.get hf
    exact ⟨p, C, dx, vs, v, rfl, hv, c, n, h1, k v H1 s1 r⟩⟩
theorem pd_clst (le : Le I F cs) (i : Nat) (ho : PD X I env o (.ref p)) (hi : cs[i]? = some (p, .lst ds)) : PD X I env o (.lst ds) :=
  ho.wk fun σ H Q ⟨hI, hE, k⟩ => ⟨hI, hE, fun x H1 s1 r1 => by
    have ex : x = .ref p := r1
    subst ex
    obtain ⟨_, xs, hv, rv⟩ := (le _ (I.mono s1 hI)).at_ i _ hi
    exact k _ H1 s1 (Rep.lst_of hv rv)⟩
theorem rd_of {H : Hp} {z : Option Obj} {u : HO} (h : H p = some (frzO z u)) : Rd H p u := by
  cases z with
  | none => exact .inl h
  | some o => exact .inr ⟨o, h⟩
theorem pd_dget {z : Option Obj} {kvs : List (Int × D)} {j : Int} (le : Le I F cs) (i : Nat) (hr : Room k X.A) (ho : PD X I env o (.ref p)) (hi : cs[i]? = some (p, .dct z kvs)) (hk : PD X I env a (.int j)) (hg : getA kvs j = some d) (hs : NoSl a := by exact fun _ _ => rfl) : PD X I env (.Subscript o a pos) d :=
  (pe_dget (by have := hr.units; omega) ho hk hs).wk fun σ H Q ⟨hI, hE, k⟩ => ⟨hI, hE, fun x H1 s1 r1 => ⟨I.mono s1 hI, hE.mono s1, fun y H2 s2 r2 => by
    have ex : x = .ref p := r1
    have ey : y = .int j := r2
    subst ex ey
    obtain ⟨_, _, vs, hv, rv⟩ := (le _ (I.mono s2 (I.mono s1 hI))).at_ i _ hi
    obtain ⟨v, h1, r⟩ := rv.get hg
    exact ⟨p, v, rfl, .inl ⟨vs, .inl j, rd_of hv, rfl, h1.symm⟩, k v H2 (s1.trans s2) r⟩⟩⟩
end
end Sd
namespace Sd
open PySem L2
theorem Sub.refl : ∀ (e : Ev), Sub e e
  | [] => .nil
  | _ :: r => .same (Sub.refl r)
/-- a list of the def's own, apart -/
theorem LkP.cellF {F : Asr} {cs : Cs} {H H' : Hp} {q : Addr} {xs : List V} {ds : List D} (h : LkP F cs H) (s : Same H H') (hq : H q = none) (hx : H' q = some (.lst xs)) (r : RepL H' ds xs) (hf : fixL ds = true) : LkP (F.cell q ds) cs H' := by
  have hn : q ∉ cs.map Prod.fst := fun z => by
    obtain ⟨i, c, hi⟩ := mem_fst z
    obtain ⟨o, ho, _⟩ := (h.at_ i _ hi).ex
    rw [hq] at ho; cases ho
  have tw : Tr H' (Hws H' cs) := fun a ys e => by
    rw [Hws_out]
    · exact e
    · intro z
      obtain ⟨i, c, hi⟩ := mem_fst z
      obtain ⟨o, ho, hno⟩ := ((Lk F cs).mono s h).at_ i _ hi |>.ex
      rw [e] at ho; exact hno ys (Option.some.inj ho).symm
  have hx' : Hws H' cs q = some (.lst xs) := by rw [Hws_out hn]; exact hx
  exact ⟨⟨F.mono ((Hws_mono s).of_wo (by rw [Hws_out hn]; exact hq)) h.fr, xs, hx', (r.tr tw hf).tr (Rep.wo hx') hf⟩, h.nd, fun i q e => (h.at_ i q e).mono s⟩
def Has (F : Asr) (q : Addr) (ds : List D) : Prop := ∀ H, F.p H → ∃ xs, H q = some (.lst xs) ∧ RepL H ds xs
theorem has_cell {F : Asr} {q : Addr} {ds : List D} : Has (F.cell q ds) q ds := fun H h => let ⟨xs, a, b⟩ := h.2; ⟨xs, a, b.mono Same.wo_le⟩
theorem has_le {F G : Asr} {q : Addr} {ds : List D} (h : Has F q ds) (k : ∀ H, G.p H → F.p H) : Has G q ds := fun H hG => h H (k H hG)
theorem has_lk {F : Asr} {cs : Cs} {q : Addr} {ds : List D} (h : Has F q ds) : Has (Lk F cs) q ds := fun H hG => by
  obtain ⟨xs, a, b⟩ := h _ hG.fr
  exact ⟨xs, Hws_le _ _ a, b.mono Hws_le⟩
theorem has_at {F : Asr} {cs : Cs} {i : Nat} {q : Addr} {ds : List D} (hi : cs[i]? = some (q, .lst ds)) : Has (Lk F cs) q ds := fun H hG => (hG.at_ i _ hi).2
section
variable {X : Cx} {I J : Asr} {F : Asr} {cs : Cs} {env env2 env3 : Ev} {e o a b tg iter : Expr} {es : List Expr} {d : D} {ds ds2 : List D} {pos pos' p2 apos : Pos} {f m : Str} {i j k l : Nat} {p q : Addr} {rest body : List Stmt} {O : Ends → Prop}
theorem pd_has (h : Has I q ds) (ho : PD X I env o (.ref q)) : PD X I env o (.lst ds) := ho.wk fun σ H Q ⟨hI, hE, k⟩ => ⟨hI, hE, fun x H1 s1 r1 => by
  have ex : x = .ref q := r1
  subst ex
  obtain ⟨xs, h1, r⟩ := h H1 (I.mono s1 hI)
  exact k _ H1 s1 (Rep.lst_of h1 r)⟩
theorem HS.sub {sts : List Stmt} (h : HS X I env2 sts O) (s : Sub env2 env) : HS X I env sts O := L2.PSs.wk h fun D σ H ⟨a, b, c⟩ => ⟨a, b.sub s, c⟩
/-- place in a dict -/
theorem din_ok {z : Option Obj} {kvs : List (Int × D)} {n : Int} {q : Bool} (le : Le I F cs) (i : Nat) (hr : Room k X.A) (ha : PD X I env a (.int n)) (ho : PD X I env o (.ref p)) (hi : cs[i]? = some (p, .dct z kvs)) (hq : (getA kvs n).isSome = q) :
    PC X .In a o (tD I env (.bl q)) := by
  have h := pc_din (X := X) (by have := hr.units; omega) ha ho
  refine ⟨fun pins s σ H Q J ⟨hI, hE, k⟩ => h.run pins s σ H Q J ⟨hI, hE, fun y H1 s1 r1 => ⟨I.mono s1 hI, hE.mono s1, fun x H2 s2 r2 => ?_⟩⟩⟩
  have ex : x = .ref p := r2
  have ey : y = .int n := r1
  subst ex ey
  obtain ⟨_, _, vs, hv, rv⟩ := (le _ (I.mono s2 (I.mono s1 hI))).at_ i _ hi
  cases g : getA kvs n with
  | none =>
    rw [g] at hq
    exact ⟨p, none, rfl, .inl ⟨vs, .inl n, rd_of hv, rfl, (rv.getN g).symm⟩, k _ H2 (s1.trans s2) (by rw [← hq]; rfl)⟩
  | some d =>
    rw [g] at hq
    obtain ⟨v, h1, r⟩ := rv.get g
    exact ⟨p, some v, rfl, .inl ⟨vs, .inl n, rd_of hv, rfl, h1.symm⟩, k _ H2 (s1.trans s2) (by rw [← hq]; rfl)⟩
theorem pd_din {z : Option Obj} {kvs : List (Int × D)} {n : Int} {q : Bool} (le : Le I F cs) (i : Nat) (hr : Room k X.A) (ha : PD X I env a (.int n)) (ho : PD X I env o (.ref p)) (hi : cs[i]? = some (p, .dct z kvs)) (hq : (getA kvs n).isSome = q) (hm : behindInMarks .In o = false := by with_unfolding_all rfl) :
    PD X I env (.Compare a [.In] [o] pos) (.bl q) := pe_cmp (din_ok le i hr ha ho hi hq) hm
theorem pb_din {z : Option Obj} {kvs : List (Int × D)} {n : Int} {q : Bool} (le : Le I F cs) (i : Nat) (hr : Room k X.A) (ha : PD X I env a (.int n)) (ho : PD X I env o (.ref p)) (hi : cs[i]? = some (p, .dct z kvs)) (hq : (getA kvs n).isSome = q) (hm : behindInMarks .In o = false := by with_unfolding_all rfl) :
    PB X I env (.Compare a [.In] [o] pos) q := (pt_cmp (din_ok le i hr ha ho hi hq) hm).wk fun σ H Q ⟨hI, hE, k⟩ => ⟨hI, hE, fun v H' s r => ⟨q, r, k H' s⟩⟩
theorem dnin_ok {z : Option Obj} {kvs : List (Int × D)} {n : Int} {q : Bool} (le : Le I F cs) (i : Nat) (hr : Room k X.A) (ha : PD X I env a (.int n)) (ho : PD X I env o (.ref p)) (hi : cs[i]? = some (p, .dct z kvs)) (hq : (!(getA kvs n).isSome) = q) :
    PC X .NotIn a o (tD I env (.bl q)) := by
  have h := pc_dnotin (X := X) (by have := hr.units; omega) ha ho
  refine ⟨fun pins s σ H Q J ⟨hI, hE, k⟩ => h.run pins s σ H Q J ⟨hI, hE, fun y H1 s1 r1 => ⟨I.mono s1 hI, hE.mono s1, fun x H2 s2 r2 => ?_⟩⟩⟩
  have ex : x = .ref p := r2
  have ey : y = .int n := r1
  subst ex ey
  obtain ⟨_, _, vs, hv, rv⟩ := (le _ (I.mono s2 (I.mono s1 hI))).at_ i _ hi
  cases g : getA kvs n with
  | none =>
    rw [g] at hq
    exact ⟨p, none, rfl, .inl ⟨vs, .inl n, rd_of hv, rfl, (rv.getN g).symm⟩, k _ H2 (s1.trans s2) (by rw [← hq]; rfl)⟩
  | some d =>
    rw [g] at hq
    obtain ⟨v, h1, r⟩ := rv.get g
    exact ⟨p, some v, rfl, .inl ⟨vs, .inl n, rd_of hv, rfl, h1.symm⟩, k _ H2 (s1.trans s2) (by rw [← hq]; rfl)⟩
theorem pb_dnin {z : Option Obj} {kvs : List (Int × D)} {n : Int} {q : Bool} (le : Le I F cs) (i : Nat) (hr : Room k X.A) (ha : PD X I env a (.int n)) (ho : PD X I env o (.ref p)) (hi : cs[i]? = some (p, .dct z kvs)) (hq : (!(getA kvs n).isSome) = q) (hm : behindInMarks .NotIn o = false := by with_unfolding_all rfl) :
    PB X I env (.Compare a [.NotIn] [o] pos) q := (pt_cmp (dnin_ok le i hr ha ho hi hq) hm).wk fun σ H Q ⟨hI, hE, k⟩ => ⟨hI, hE, fun v H' s r => ⟨q, r, k H' s⟩⟩
/-! ### changing -/
theorem hs_capp (i : Nat) (ho : PD X (Lk F cs) env o (.ref p)) (hi : cs[i]? = some (p, .lst ds)) (ha : PD X (Lk F cs) env a d) (hf : d.fix = true) (hz : ds.length < 1000) (hsb : Sub env2 env) (hE0 : fixE env2 = true) (hr : HS X (Lk F (cs.set i (p, .lst (ds ++ [d])))) env2 rest O)
    (hs : swapsWith (.Call (.Attribute o "append" apos) [a] [] p2) none pos.line X.env = pure false := by rfl) (hbase : attributeBase o "append" X.env (eval o X.env) = eval o X.env := by rfl)
    (hfew : ((backTo p2 (starEach (a :: []) X.env)).all (fun x => !x.1) && (backToKw p2 (keywordEach [] X.env)).all (fun x => x.1.isSome)
      && decide ((a :: ([] : List Expr)).length + ([] : List Keyword).length + (if ([] : List Keyword).isEmpty then 0 else 1) < 30)) = true := by rfl)
    (hline : (apos.endLine == p2.line) = true := by rfl) (hst : starEach (a :: []) X.env = (false, eval a X.env) :: starEach [] X.env := by rfl) (hplain : (backTo p2 (starEach [] X.env)).any (·.1) = false := by rfl) :
    HS X (Lk F cs) env (.Expr (.Call (.Attribute o "append" apos) [a] [] p2) pos :: rest) O :=
  (pss_cons (ps_expr (pe_bm PySem.F.plainAttrs_list PySem.F.slot_list_append PySem.F.type_list_append mt_append ho (pds_cons ha pds_nil hst) hbase hfew hline hst hplain) hs) hr).wk fun D σ H ⟨hI, hE, k⟩ => ⟨hI, hE, fun x H1 s1 r1 => by
    have e : x = .ref p := r1
    subst e
    have hI1 := (Lk F cs).mono s1 hI
    obtain ⟨_, xs0, hx0, _⟩ := hI1.at_ i _ hi
    refine ⟨.inl ⟨rfl, xs0, SqL.of hx0⟩, hI1, hE.mono s1, fun vs H2 s2 r2 => ?_⟩
    obtain ⟨v, e2, rv⟩ := r2.one
    subst e2
    have hI2 := (Lk F cs).mono s2 hI1
    obtain ⟨fx, xs, hx, rx⟩ := hI2.at_ i _ hi
    have hc : CoAt (upd H2 p (.lst (xs ++ [v]))) p (.lst (ds ++ [d])) := by
      have t := Tr.updL (ys := xs ++ [v]) hx
      exact ⟨fixL_append fx (by show (d.fix && true) = true; rw [hf]; rfl), _, upd_same, (rx.tr t fx).snoc (rv.tr t hf)⟩
    obtain ⟨hP, hT⟩ := hI2.put hi hc
    exact ⟨p, xs, v, rfl, rfl, hx, by rw [rx.length, sizeLine_eq]; omega, hP, (((hE.mono s1).mono s2).sub hsb).tr hT (fixE_get hE0), k⟩⟩
theorem hs_cext (i : Nat) (ho : PD X (Lk F cs) env o (.ref p)) (hi : cs[i]? = some (p, .lst ds)) (ha : PD X (Lk F cs) env a (.lst ds2)) (hf : fixL ds2 = true) (hz : ds.length + ds2.length ≤ 1000) (hsb : Sub env2 env) (hE0 : fixE env2 = true) (hr : HS X (Lk F (cs.set i (p, .lst (ds ++ ds2)))) env2 rest O)
    (hs : swapsWith (.Call (.Attribute o "extend" apos) [a] [] p2) none pos.line X.env = pure false := by rfl) (hbase : attributeBase o "extend" X.env (eval o X.env) = eval o X.env := by rfl)
    (hfew : ((backTo p2 (starEach (a :: []) X.env)).all (fun x => !x.1) && (backToKw p2 (keywordEach [] X.env)).all (fun x => x.1.isSome)
      && decide ((a :: ([] : List Expr)).length + ([] : List Keyword).length + (if ([] : List Keyword).isEmpty then 0 else 1) < 30)) = true := by rfl)
    (hline : (apos.endLine == p2.line) = true := by rfl) (hst : starEach (a :: []) X.env = (false, eval a X.env) :: starEach [] X.env := by rfl) (hplain : (backTo p2 (starEach [] X.env)).any (·.1) = false := by rfl) :
    HS X (Lk F cs) env (.Expr (.Call (.Attribute o "extend" apos) [a] [] p2) pos :: rest) O :=
  (pss_cons (ps_expr (pe_bm PySem.F.plainAttrs_list PySem.F.slot_list_extend PySem.F.type_list_extend mt_extend ho (pds_cons ha pds_nil hst) hbase hfew hline hst hplain) hs) hr).wk fun D σ H ⟨hI, hE, k⟩ => ⟨hI, hE, fun x H1 s1 r1 => by
    have e : x = .ref p := r1
    subst e
    have hI1 := (Lk F cs).mono s1 hI
    obtain ⟨_, xs0, hx0, _⟩ := hI1.at_ i _ hi
    refine ⟨.inl ⟨rfl, xs0, SqL.of hx0⟩, hI1, hE.mono s1, fun vs H2 s2 r2 => ?_⟩
    obtain ⟨v, e2, rv⟩ := r2.one
    obtain ⟨b, zs, ev, hb, rz⟩ := rv.lst_inv
    subst e2 ev
    have hI2 := (Lk F cs).mono s2 hI1
    obtain ⟨fx, xs, hx, rx⟩ := hI2.at_ i _ hi
    have hc : CoAt (upd H2 p (.lst (xs ++ zs))) p (.lst (ds ++ ds2)) := by
      have t := Tr.updL (ys := xs ++ zs) hx
      exact ⟨fixL_append fx hf, _, upd_same, (rx.tr t fx).append (rz.tr t hf)⟩
    obtain ⟨hP, hT⟩ := hI2.put hi hc
    exact ⟨p, b, xs, zs, rfl, rfl, hx, hb, by rw [rx.length, rz.length, sizeLine_eq]; omega, hP, (((hE.mono s1).mono s2).sub hsb).tr hT (fixE_get hE0), k⟩⟩
theorem keysNd_put : ∀ {kvs : List (Int × D)} {n : Int} {d : D}, keysNd kvs → keysNd (putA kvs n d)
  | [], n, d, _ => ⟨rfl, trivial⟩
  | (k, e) :: ds, n, d, ⟨h1, h2⟩ => by
    unfold putA
    split
    · exact ⟨h1, h2⟩
    · rename_i hk
      refine ⟨?_, keysNd_put h2⟩
      have : ∀ (ds : List (Int × D)), getA ds k = none → getA (putA ds n d) k = none := by
        intro ds
        induction ds with
        | nil => intro _; exact if_neg (fun z => hk z.symm)
        | cons x ds ih =>
          obtain ⟨k', e'⟩ := x
          intro h
          unfold getA at h
          split at h
          · cases h
          · rename_i hk'
            unfold putA
            split
            · unfold getA; rw [if_neg hk']; exact h
            · unfold getA; rw [if_neg hk']; exact ih h
      exact this ds h1
theorem hs_cput {kvs : List (Int × D)} {n : Int} (i : Nat) (hrm : Room k X.A) (ho : PD X (Lk F cs) env o (.ref p)) (hi : cs[i]? = some (p, .dct none kvs)) (hk : PD X (Lk F cs) env b (.int n)) (ha : PD X (Lk F cs) env a d) (hf : d.fix = true) (hz : kvs.length < 1000) (hsb : Sub env2 env) (hE0 : fixE env2 = true)
    (hr : HS X (Lk F (cs.set i (p, .dct none (putA kvs n d)))) env2 rest O) (hs : swapsWith a (some (.Subscript o b pos')) pos.line X.env = pure false := by rfl) : HS X (Lk F cs) env (.Assign [.Subscript o b pos'] a pos :: rest) O :=
  (pss_cons (ps_dput (by have := hrm.units; omega) ho hk ha hs) hr).wk fun D σ H ⟨hI, hE, k⟩ => ⟨hI, hE, fun v H1 s1 r1 => ⟨(Lk F cs).mono s1 hI, hE.mono s1, fun x H2 s2 r2 => ⟨(Lk F cs).mono s2 ((Lk F cs).mono s1 hI), (hE.mono s1).mono s2, fun y H3 s3 r3 => by
    have ex : x = .ref p := r2
    have ey : y = .int n := r3
    subst ex ey
    have hI3 := (Lk F cs).mono s3 ((Lk F cs).mono s2 ((Lk F cs).mono s1 hI))
    obtain ⟨fx, nd, vs, hv, rv⟩ := hI3.at_ i _ hi
    have hv : H3 p = some (.dK vs) := hv
    have rd := (r1.mono s2).mono s3
    have hc : CoAt (upd H3 p (.dK (putK vs (.inl n) v))) p (.dct none (putA kvs n d)) := by
      have t : Tr H3 (upd H3 p (.dK (putK vs (.inl n) v))) := Tr.upd fun xs e => by rw [hv] at e; cases e
      exact ⟨fixK_put fx hf, keysNd_put nd, _, upd_same, KRep.put nd (rv.tr t fx) (rd.tr t hf)⟩
    obtain ⟨hP, hT⟩ := hI3.put hi hc
    exact ⟨p, _, rfl, DPut.k (k := .inl n) hv (by rw [rv.length, sizeLine_eq]; omega), hP, ((((hE.mono s1).mono s2).mono s3).sub hsb).tr hT (fixE_get hE0), k⟩⟩⟩⟩
/-- o[b] = a new list; the cell j that stood for the old one is the new one's -/
theorem hs_cputL {kvs : List (Int × D)} {n : Int} (i j : Nat) (hij : i ≠ j) (hrm : Room k X.A) (ho : PD X (Lk F cs) env o (.ref p)) (hi : cs[i]? = some (p, .dct none kvs)) (hk : PD X (Lk F cs) env b (.int n)) (ha : PL X (Lk F cs) env a ds) (hf : fixL ds = true) (hz : kvs.length < 1000) (hsb : Sub env2 env) (hE0 : fixE env2 = true)
    (hr : ∀ q, HS X (Lk F ((cs.set j (q, .lst ds)).set i (p, .dct none (putA kvs n (.ref q))))) env2 rest O) (hs : swapsWith a (some (.Subscript o b pos')) pos.line X.env = pure false := by rfl) : HS X (Lk F cs) env (.Assign [.Subscript o b pos'] a pos :: rest) O :=
  (pss_cons (ps_dput (by have := hrm.units; omega) ho hk ha hs) (L2.PSs.wk (t := fun D σ H => ∃ q, True ∧ tS (Lk F ((cs.set j (q, .lst ds)).set i (p, .dct none (putA kvs n (.ref q))))) env2 O D σ H) (pss_exI fun q _ => hr q) (fun _ _ _ h => h))).wk fun D σ H ⟨hI, hE, k⟩ => ⟨hI, hE, fun q xs H1 s1 hq hx r1 => ⟨(Lk F cs).mono s1 hI, hE.mono s1, fun x H2 s2 r2 => ⟨(Lk F cs).mono s2 ((Lk F cs).mono s1 hI), (hE.mono s1).mono s2, fun y H3 s3 r3 => by
    have ex : x = .ref p := r2
    have ey : y = .int n := r3
    subst ex ey
    have sA := (s1.trans s2).trans s3
    have hI3 : LkP F (cs.set j (q, .lst ds)) H3 := hI.renew sA hq ⟨hf, xs, s3 _ _ (s2 _ _ hx), (r1.mono s2).mono s3⟩
    have hi3 : (cs.set j (q, .lst ds))[i]? = some (p, .dct none kvs) := by rw [List.getElem?_set_ne (Ne.symm hij)]; exact hi
    obtain ⟨fx, nd, vs, hv, rv⟩ := hI3.at_ i _ hi3
    have hv : H3 p = some (.dK vs) := hv
    have hc : CoAt (upd H3 p (.dK (putK vs (.inl n) (.ref q)))) p (.dct none (putA kvs n (.ref q))) := by
      have t : Tr H3 (upd H3 p (.dK (putK vs (.inl n) (.ref q)))) := Tr.upd fun xs e => by rw [hv] at e; cases e
      exact ⟨fixK_put fx rfl, keysNd_put nd, _, upd_same, KRep.put nd (rv.tr t fx) rfl⟩
    obtain ⟨hP, hT⟩ := hI3.put hi3 hc
    exact ⟨p, _, rfl, DPut.k (k := .inl n) hv (by rw [rv.length, sizeLine_eq]; omega), q, trivial, hP, ((((hE.mono s1).mono s2).mono s3).sub hsb).tr hT (fixE_get hE0), k⟩⟩⟩⟩
theorem FRep.put {H : Hp} : ∀ {ds : List (Str × D)} {xs : List (Str × V)} {j : Str} {d : D} {v : V}, FRep H ds xs → Rep H d v → FRep H (putA ds j d) (putF j v xs)
  | [], _, j, d, v, h, r => by
    have e : _ = [] := h
    subst e
    exact ⟨v, [], rfl, r, rfl⟩
  | (k, d0) :: ds, _, j, d, v, ⟨v0, r0, e1, h1, h2⟩, r => by
    subst e1
    unfold putA putF
    by_cases q : k = j
    · rw [if_pos q, if_pos q]
      exact ⟨v, r0, rfl, r, h2⟩
    · rw [if_neg q, if_neg q]
      exact ⟨v0, _, rfl, h1, FRep.put h2 r⟩
/-- o.f = a new list; the cell j .. -/
theorem hs_cfsetL {C : Addr} {fs : List (Str × D)} (i j : Nat) (hij : i ≠ j) (ho : PD X (Lk F cs) env o (.ref p)) (hi : cs[i]? = some (p, .ins C fs)) (c : Cls X.K C) (n : NoAttr X.K C f) (ha : PL X (Lk F cs) env a ds) (hf : fixL ds = true) (hz : fs.length < 900) (hsb : Sub env2 env) (hE0 : fixE env2 = true)
    (hr : ∀ q, HS X (Lk F ((cs.set j (q, .lst ds)).set i (p, .ins C (putA fs f (.ref q))))) env2 rest O) (hs : swapsWith a (some (.Attribute o f pos')) pos.line X.env = pure false := by rfl) : HS X (Lk F cs) env (.Assign [.Attribute o f pos'] a pos :: rest) O :=
  (pss_cons (ps_fld ho ha hs) (L2.PSs.wk (t := fun D σ H => ∃ q, True ∧ tS (Lk F ((cs.set j (q, .lst ds)).set i (p, .ins C (putA fs f (.ref q))))) env2 O D σ H) (pss_exI fun q _ => hr q) (fun _ _ _ h => h))).wk fun D σ H ⟨hI, hE, k⟩ => ⟨hI, hE, fun q xs H1 s1 hq hx r1 => ⟨(Lk F cs).mono s1 hI, hE.mono s1, fun x H2 s2 r2 => by
    have ex : x = .ref p := r2
    subst ex
    have hI3 : LkP F (cs.set j (q, .lst ds)) H2 := hI.renew (s1.trans s2) hq ⟨hf, xs, s2 _ _ hx, r1.mono s2⟩
    have hi3 : (cs.set j (q, .lst ds))[i]? = some (p, .ins C fs) := by rw [List.getElem?_set_ne (Ne.symm hij)]; exact hi
    obtain ⟨fx, dx, vs, hv, rv⟩ := hI3.at_ i _ hi3
    have hc : CoAt (upd H2 p (.ins C dx (putF f (.ref q) vs))) p (.ins C (putA fs f (.ref q))) := by
      have t : Tr H2 (upd H2 p (.ins C dx (putF f (.ref q) vs))) := Tr.upd fun xs e => by rw [hv] at e; cases e
      exact ⟨fixK_put fx rfl, dx, _, upd_same, FRep.put (rv.tr t fx) rfl⟩
    obtain ⟨hP, hT⟩ := hI3.put hi3 hc
    exact ⟨p, C, dx, vs, rfl, hv, c, n, by rw [rv.length]; omega, q, trivial, hP, (((hE.mono s1).mono s2).sub hsb).tr hT (fixE_get hE0), k⟩⟩⟩
end
end Sd
namespace Sd
open PySem L2
/-! ### methods -/
/-- a method that changes nothing; one that changes the cells -/
def spR (S : Cs → List D → D → Prop) : Sp := fun vs H Q _ => ∃ F cs ds d, LkP F cs H ∧ RepL H ds vs ∧ S cs ds d ∧ ∀ v H', Same H H' → Rep H' d v → Q v H'
def spM (S : Cs → List D → Cs → Prop) : Sp := fun vs H Q _ => ∃ F cs ds cs', LkP F cs H ∧ RepL H ds vs ∧ S cs ds cs' ∧ ∀ H', LkP F cs' H' → Tr H H' → Q .non H'
structure Met (P : Program) (w : World) (K : PySem.W.Frag) (mg : Str → Option Value) (base : Heap) (k : Nat) (C : Addr) (m : Str) (sp : Sp) : Prop where
  ex : ∃ (f : Addr) (fd : FuncData) (ps : List Str), Cls K C ∧ Meth K C m f ∧ FnOk P w K mg base CX0 k f fd ps sp ∧ Binds K fd ps []
structure MD (K : PySem.W.Frag) (C : Addr) (m qual : Str) (st : Stmt) (ps : List Str) : Prop where
  ex : ∃ (f : Addr) (fd : FuncData), Cls K C ∧ Meth K C m f ∧ Fun K m qual st f fd ∧ Binds K fd ps []
def trs (H : Hp) : Asr := ⟨fun H' => Tr H H', fun s h => h.trans (Tr.of s)⟩
/-- a method's end: it falls out, or returns None -/
def oEnd (I : Asr) : Ends → Prop := fun D => (∀ σ H, I.p H → D.nx σ H) ∧ ∀ H, I.p H → D.rt .non H
section
variable {P : Program} {w : World} {K : PySem.W.Frag} {mg : Str → Option Value} {base : Heap} {C : Addr} {m qual : Str} {st : Stmt} {N ps : List Str} {k : Nat}
theorem met_R {S : Cs → List D → D → Prop} (M : MD K C m qual st ps) (sc : FnScope N ps (defScope st)) (len : ∀ cs ds d, S cs ds d → ds.length = ps.length)
    (body : ∀ (f : Addr) (cdv : Value) (A : Around) (outer : List Env) (s : Shared) (H : Hp) (E : XK), Room k (bx P w K mg base N qual st f cdv A outer s H E).A → ∀ cs ds d, S cs ds d → ∀ I F, Le I F cs → HS (bx P w K mg base N qual st f cdv A outer s H E) I (startE N ds) (defBody st) (oRet I d)) :
    Met P w K mg base (k + 1) C m (spR S) := by
  obtain ⟨f, fd, c, me, F, b⟩ := M.ex
  refine ⟨f, fd, ps, c, me, F.ok sc (fun vs H Q E h => ?_) (fun cdv A outer s H vs Q E hr h => ?_), b⟩
  · obtain ⟨F, cs, ds, d, _, r, hS, _⟩ := h
    rw [r.length]; exact len cs ds d hS
  · obtain ⟨F, cs, ds, d, hL, r, hS, q⟩ := h
    exact ⟨_, body f cdv A outer s H E hr cs ds d hS ((Lk F cs).and (since H)) F (fun _ h => h.1), ⟨hL, Same.refl H⟩, start_env r, fun v H' hs rv => q v H' hs.2 rv⟩
theorem met_M {S : Cs → List D → Cs → Prop} (M : MD K C m qual st ps) (sc : FnScope N ps (defScope st)) (len : ∀ cs ds d, S cs ds d → ds.length = ps.length)
    (body : ∀ (f : Addr) (cdv : Value) (A : Around) (outer : List Env) (s : Shared) (H : Hp) (E : XK), Room k (bx P w K mg base N qual st f cdv A outer s H E).A → ∀ cs ds cs', S cs ds cs' → ∀ F, HS (bx P w K mg base N qual st f cdv A outer s H E) (Lk F cs) (startE N ds) (defBody st) (oEnd (Lk F cs'))) :
    Met P w K mg base (k + 1) C m (spM S) := by
  obtain ⟨f, fd, c, me, F, b⟩ := M.ex
  refine ⟨f, fd, ps, c, me, F.ok sc (fun vs H Q E h => ?_) (fun cdv A outer s H vs Q E hr h => ?_), b⟩
  · obtain ⟨F, cs, ds, d, _, r, hS, _⟩ := h
    rw [r.length]; exact len cs ds d hS
  · obtain ⟨F, cs, ds, cs', hL, r, hS, q⟩ := h
    have hT : Tr H (Hws H cs) := fun a ys e => by
      rw [Hws_out]
      · exact e
      · intro z
        obtain ⟨i, c, hi⟩ := mem_fst z
        obtain ⟨o, ho, hno⟩ := (hL.at_ i _ hi).ex
        rw [e] at ho; exact hno ys (Option.some.inj ho).symm
    have fin : ∀ H', LkP (F.and (trs H)) cs' H' → Q .non H' := fun H' h => q H' (h.frm fun _ z => z.1) (h.fr.2.trans (Tr.of Hws_le))
    exact ⟨_, body f cdv A outer s H E hr cs ds cs' hS (F.and (trs H)), ⟨⟨hL.fr, hT⟩, hL.nd, hL.at_⟩, start_env r, fun σ H' h => fin H' h, fun H' h => fin H' h⟩
end
section
variable {X : Cx} {I J : Asr} {F : Asr} {cs : Cs} {env env2 env3 : Ev} {e o a b tg iter : Expr} {es : List Expr} {d : D} {ds ds2 : List D} {pos pos' p2 apos : Pos} {f m : Str} {i j k l : Nat} {p q C : Addr} {rest body : List Stmt} {O : Ends → Prop} {fs : List (Str × D)}
theorem hs_out : HS X I env [] (oEnd I) := hs_end.wk (fun _ h => h) fun _ h σ H hI _ => h.1 σ H hI
theorem hs_retN : HS X I env (.Return none pos :: rest) (oEnd I) := (pss_cons ps_retN pss_never).wk fun D σ H ⟨hI, hE, k⟩ => k.2 H hI
theorem noNx_end : True := trivial
theorem pd_mR {S : Cs → List D → D → Prop} {pl : Sem Bool} (le : Le I F cs) (c : Met X.prog X.w X.K X.mg X.base k C m (spR S)) (hr : Room j X.A) (hk : k ≤ j) (ho : PD X I env o (.ref p)) (ha : PDs X I env (e :: es) ds) (hi : cs[0]? = some (p, .ins C fs)) (hm : getA fs m = none) (hS : S cs (.ref p :: ds) d)
    (hst : starEach (e :: es) X.env = (false, eval e X.env) :: starEach es X.env := by rfl) (hpl : (backTo pos (starEach es X.env)).any (·.1) = false := by rfl)
    (ht : eval (.Call (.Attribute o m apos) (e :: es) [] pos) X.env = (do
      let ov ← eval o X.env
      standAt apos.atName
      let (f, first) ← holding [ov] (getMethod ov m pl)
      callWith pos f first (backTo pos (starEach (e :: es) X.env)) (backToKw pos (keywordEach [] X.env))) := by rfl) : PD X I env (.Call (.Attribute o m apos) (e :: es) [] pos) d := by
  obtain ⟨f, fd, ps, hc, me, FO, b⟩ := c.ex
  exact (pe_meth (pl := pl) (E := E0) (dvs := []) ho hc me FO (hr.mono hk) b .nil pass0 ha hst hpl ht).wk fun σ H Q ⟨hI, hE, k⟩ => ⟨hI, hE, fun x H1 s1 r1 => by
    have ex : x = .ref p := r1
    subst ex
    obtain ⟨_, dx, vs0, hv, rv⟩ := (le _ (I.mono s1 hI)).at_ 0 _ hi
    refine ⟨p, dx, vs0, rfl, hv, rv.getN hm, I.mono s1 hI, hE.mono s1, fun vs H2 s2 r2 => ⟨F, cs, .ref p :: ds, d, le _ (I.mono s2 (I.mono s1 hI)), ?_, hS, fun v H' s3 r3 => k v H' ((s1.trans s2).trans s3) r3⟩⟩
    rw [List.append_nil]
    unfold RepL
    exact ⟨_, vs, rfl, rfl, r2⟩⟩
theorem pd_mR0 {S : Cs → List D → D → Prop} {pl : Sem Bool} (le : Le I F cs) (c : Met X.prog X.w X.K X.mg X.base k C m (spR S)) (hr : Room j X.A) (hk : k ≤ j) (ho : PD X I env o (.ref p)) (hi : cs[0]? = some (p, .ins C fs)) (hm : getA fs m = none) (hS : S cs [.ref p] d)
    (ht : eval (.Call (.Attribute o m apos) [] [] pos) X.env = (do
      let ov ← eval o X.env
      standAt apos.atName
      let (f, first) ← holding [ov] (getMethod ov m pl)
      callWith pos f first (backTo pos (starEach [] X.env)) (backToKw pos (keywordEach [] X.env))) := by rfl) : PD X I env (.Call (.Attribute o m apos) [] [] pos) d := by
  obtain ⟨f, fd, ps, hc, me, FO, b⟩ := c.ex
  exact (pe_meth0 (pl := pl) (E := E0) (dvs := []) ho hc me FO (hr.mono hk) b .nil pass0 ht).wk fun σ H Q ⟨hI, hE, k⟩ => ⟨hI, hE, fun x H1 s1 r1 => by
    have ex : x = .ref p := r1
    subst ex
    obtain ⟨_, dx, vs0, hv, rv⟩ := (le _ (I.mono s1 hI)).at_ 0 _ hi
    refine ⟨p, dx, vs0, rfl, hv, rv.getN hm, F, cs, [.ref p], d, le _ (I.mono s1 hI), ?_, hS, fun v H' s3 r3 => k v H' (s1.trans s3) r3⟩
    unfold RepL
    exact ⟨_, [], rfl, rfl, rfl⟩⟩
/-- o.m(..) alone, which changes the cells -/
theorem hs_mM {S : Cs → List D → Cs → Prop} {cs' : Cs} {pl : Sem Bool} (c : Met X.prog X.w X.K X.mg X.base k C m (spM S)) (hr : Room j X.A) (hk : k ≤ j) (ho : PD X (Lk F cs) env o (.ref p)) (ha : PDs X (Lk F cs) env (e :: es) ds) (hi : cs[0]? = some (p, .ins C fs)) (hm : getA fs m = none) (hS : S cs (.ref p :: ds) cs')
    (hsb : Sub env2 env) (hE0 : fixE env2 = true) (hrst : HS X (Lk F cs') env2 rest O) (hs : swapsWith (.Call (.Attribute o m apos) (e :: es) [] p2) none pos.line X.env = pure false := by rfl)
    (hst : starEach (e :: es) X.env = (false, eval e X.env) :: starEach es X.env := by rfl) (hpl : (backTo p2 (starEach es X.env)).any (·.1) = false := by rfl)
    (ht : eval (.Call (.Attribute o m apos) (e :: es) [] p2) X.env = (do
      let ov ← eval o X.env
      standAt apos.atName
      let (f, first) ← holding [ov] (getMethod ov m pl)
      callWith p2 f first (backTo p2 (starEach (e :: es) X.env)) (backToKw p2 (keywordEach [] X.env))) := by rfl) : HS X (Lk F cs) env (.Expr (.Call (.Attribute o m apos) (e :: es) [] p2) pos :: rest) O := by
  obtain ⟨f, fd, ps, hc, me, FO, b⟩ := c.ex
  exact (pss_cons (ps_expr (pe_meth (pl := pl) (E := E0) (dvs := []) ho hc me FO (hr.mono hk) b .nil pass0 ha hst hpl ht) hs) hrst).wk fun D σ H ⟨hI, hE, k⟩ => ⟨hI, hE, fun x H1 s1 r1 => by
    have ex : x = .ref p := r1
    subst ex
    have hI1 := (Lk F cs).mono s1 hI
    obtain ⟨_, dx, vs0, hv, rv⟩ := hI1.at_ 0 _ hi
    refine ⟨p, dx, vs0, rfl, hv, rv.getN hm, hI1, hE.mono s1, fun vs H2 s2 r2 => ⟨F, cs, .ref p :: ds, cs', (Lk F cs).mono s2 hI1, ?_, hS, fun H' hP hT => ⟨hP, (((hE.mono s1).mono s2).sub hsb).tr hT (fixE_get hE0), k⟩⟩⟩
    rw [List.append_nil]
    unfold RepL
    exact ⟨_, vs, rfl, rfl, r2⟩⟩
theorem hs_mM0 {S : Cs → List D → Cs → Prop} {cs' : Cs} {pl : Sem Bool} (c : Met X.prog X.w X.K X.mg X.base k C m (spM S)) (hr : Room j X.A) (hk : k ≤ j) (ho : PD X (Lk F cs) env o (.ref p)) (hi : cs[0]? = some (p, .ins C fs)) (hm : getA fs m = none) (hS : S cs [.ref p] cs')
    (hsb : Sub env2 env) (hE0 : fixE env2 = true) (hrst : HS X (Lk F cs') env2 rest O) (hs : swapsWith (.Call (.Attribute o m apos) [] [] p2) none pos.line X.env = pure false := by rfl)
    (ht : eval (.Call (.Attribute o m apos) [] [] p2) X.env = (do
      let ov ← eval o X.env
      standAt apos.atName
      let (f, first) ← holding [ov] (getMethod ov m pl)
      callWith p2 f first (backTo p2 (starEach [] X.env)) (backToKw p2 (keywordEach [] X.env))) := by rfl) : HS X (Lk F cs) env (.Expr (.Call (.Attribute o m apos) [] [] p2) pos :: rest) O := by
  obtain ⟨f, fd, ps, hc, me, FO, b⟩ := c.ex
  exact (pss_cons (ps_expr (pe_meth0 (pl := pl) (E := E0) (dvs := []) ho hc me FO (hr.mono hk) b .nil pass0 ht) hs) hrst).wk fun D σ H ⟨hI, hE, k⟩ => ⟨hI, hE, fun x H1 s1 r1 => by
    have ex : x = .ref p := r1
    subst ex
    have hI1 := (Lk F cs).mono s1 hI
    obtain ⟨_, dx, vs0, hv, rv⟩ := hI1.at_ 0 _ hi
    refine ⟨p, dx, vs0, rfl, hv, rv.getN hm, F, cs, [.ref p], cs', hI1, ?_, hS, fun H' hP hT => ⟨hP, ((hE.mono s1).sub hsb).tr hT (fixE_get hE0), k⟩⟩
    unfold RepL
    exact ⟨_, [], rfl, rfl, rfl⟩⟩
/-! ### loops over a list that stands while cells change -/
theorem h_forC {G : Nat → Asr} {Ev Eb : Nat → List (Option D)} (hp : PassesOwn (model X.prog X.w) X.A X.env X.xe) (hc : X.calm = true) (hi : PD X I env iter (.ref q)) (h0 : ∀ H, I.p H → (G 0).p H) (e0 : Ev 0 = env) (hG : ∀ j, j ≤ ds.length → Has (G j) q ds)
    (hg : ∀ j d, ds[j]? = some d → PG X tg (tG (G j) d (Ev j) (Eb j))) (hb : ∀ j d, ds[j]? = some d → HS X (G j) (Eb j) body (oNC (G (j + 1)) (Ev (j + 1))))
    (hs : ∀ x, foldedSetIterable iter X.env x = pure x := by intro _; rfl) : H1 X I env (.For tg iter body [] pos) (oNx (G ds.length) (Ev ds.length)) := by
  refine (ps_for hp hc (pi_list hi) (g := fun v σ H Q => ∃ t : Nat × D, (ds[t.1]? = some t.2) ∧ tG (G t.1) t.2 (Ev t.1) (Eb t.1) v σ H Q) (pg_exI fun (t : Nat × D) h => hg t.1 t.2 h)
    (tb := fun E' σ H => ∃ t : Nat × D, (ds[t.1]? = some t.2) ∧ tS (G t.1) (Eb t.1) (oNC (G (t.1 + 1)) (Ev (t.1 + 1))) E' σ H) (pss_exI fun (t : Nat × D) h => hb t.1 t.2 h) hs).wk
    fun D σ H ⟨hI, hE, k⟩ => ⟨hI, hE, fun x H1 s1 r1 => ?_⟩
  have ex : x = .ref q := r1
  subst ex
  obtain ⟨xs0, hx0, rx0⟩ := hG 0 (Nat.zero_le _) H1 (h0 _ (I.mono s1 hI))
  have hlen := rx0.length
  refine ⟨q, rfl, ⟨xs0, SqL.of hx0⟩, fun i m σ H => m = ds.length - i ∧ i ≤ ds.length ∧ (G i).p H ∧ EnvR H σ (Ev i), ⟨ds.length, by simp, Nat.zero_le _, h0 _ (I.mono s1 hI), by rw [e0]; exact hE.mono s1⟩, ?_⟩
  rintro i m σ H2 ⟨rfl, hil, hGi, hEi⟩
  obtain ⟨xs, hx, rx⟩ := hG i hil H2 hGi
  have hl := rx.length
  by_cases hlt : i < ds.length
  · refine .inr ⟨⟨xs, xs[i], SqL.of hx, by simp [hl, hlt]⟩, fun σ' H' => (G (i + 1)).p H' ∧ EnvR H' σ' (Ev (i + 1)), fun σ' H' p' => ⟨ds.length - (i + 1), by omega, rfl, hlt, p'.1, p'.2⟩, fun u H' y => ?_⟩
    obtain ⟨eH, y⟩ := y
    subst eH
    obtain ⟨d, hd, rd⟩ := rx.rget (y xs (SqL.of hx))
    exact ⟨(i, d), hd, hGi, rd, hEi, fun σ' H' s' hE' => ⟨(i, d), hd, (G i).mono s' hGi, hE', fun σ H h1 h2 => ⟨h1, h2⟩, fun σ H h1 h2 => ⟨h1, h2⟩⟩⟩
  · have en : i = ds.length := by omega
    subst en
    exact .inl ⟨⟨xs, SqL.of hx, by omega⟩, k σ H2 hGi hEi⟩
/-- .. a new list, for this loop alone: it stands apart -/
theorem h_forN {cc : Nat → Cs} {Ev Eb : Nat → List (Option D)} (hp : PassesOwn (model X.prog X.w) X.A X.env X.xe) (hc : X.calm = true) (hi : PL X (Lk F cs) env iter ds) (hf : fixL ds = true) (c0 : cc 0 = cs) (e0 : Ev 0 = env)
    (hg : ∀ G j d, ds[j]? = some d → PG X tg (tG (Lk G (cc j)) d (Ev j) (Eb j))) (hb : ∀ G j d, ds[j]? = some d → HS X (Lk G (cc j)) (Eb j) body (oNC (Lk G (cc (j + 1))) (Ev (j + 1))))
    (hs : ∀ x, foldedSetIterable iter X.env x = pure x := by intro _; rfl) : H1 X (Lk F cs) env (.For tg iter body [] pos) (oNx (Lk F (cc ds.length)) (Ev ds.length)) := by
  refine (ps_for hp hc (pi_list hi) (g := fun v σ H Q => ∃ t : Asr × Nat × D, (ds[t.2.1]? = some t.2.2) ∧ tG (Lk t.1 (cc t.2.1)) t.2.2 (Ev t.2.1) (Eb t.2.1) v σ H Q) (pg_exI fun (t : Asr × Nat × D) h => hg t.1 t.2.1 t.2.2 h)
    (tb := fun E' σ H => ∃ t : Asr × Nat × D, (ds[t.2.1]? = some t.2.2) ∧ tS (Lk t.1 (cc t.2.1)) (Eb t.2.1) (oNC (Lk t.1 (cc (t.2.1 + 1))) (Ev (t.2.1 + 1))) E' σ H) (pss_exI fun (t : Asr × Nat × D) h => hb t.1 t.2.1 t.2.2 h) hs).wk
    fun D σ H ⟨hI, hE, k⟩ => ⟨hI, hE, fun q xs0 H1 s1 hq hx0 r0 => ?_⟩
  have h00 : LkP (F.cell q ds) cs H1 := LkP.cellF hI s1 hq hx0 r0 hf
  refine ⟨q, rfl, ⟨xs0, SqL.of hx0⟩, fun i m σ H => m = ds.length - i ∧ i ≤ ds.length ∧ (Lk (F.cell q ds) (cc i)).p H ∧ EnvR H σ (Ev i), ⟨ds.length, by simp, Nat.zero_le _, by rw [c0]; exact h00, by rw [e0]; exact hE.mono s1⟩, ?_⟩
  rintro i m σ H2 ⟨rfl, hil, hGi, hEi⟩
  obtain ⟨xs, hx, rx⟩ := has_lk (cs := cc i) has_cell H2 hGi
  have hl := rx.length
  by_cases hlt : i < ds.length
  · refine .inr ⟨⟨xs, xs[i], SqL.of hx, by simp [hl, hlt]⟩, fun σ' H' => (Lk (F.cell q ds) (cc (i + 1))).p H' ∧ EnvR H' σ' (Ev (i + 1)), fun σ' H' p' => ⟨ds.length - (i + 1), by omega, rfl, hlt, p'.1, p'.2⟩, fun u H' y => ?_⟩
    obtain ⟨eH, y⟩ := y
    subst eH
    obtain ⟨d, hd, rd⟩ := rx.rget (y xs (SqL.of hx))
    exact ⟨(F.cell q ds, i, d), hd, hGi, rd, hEi, fun σ' H' s' hE' => ⟨(F.cell q ds, i, d), hd, (Lk (F.cell q ds) (cc i)).mono s' hGi, hE', fun σ H h1 h2 => ⟨h1, h2⟩, fun σ H h1 h2 => ⟨h1, h2⟩⟩⟩
  · have en : i = ds.length := by omega
    subst en
    exact .inl ⟨⟨xs, SqL.of hx, by omega⟩, k σ H2 (hGi.frm fun _ => Asr.cell_le) hEi⟩
/-- x = a new list: it stands apart from the cells -/
theorem hs_newC {x : Str} (i : Nat) (hN : X.N.Nodup) (h : PL X (Lk F cs) env e ds) (hf : fixL ds = true) (hr : ∀ q, HS X (Lk (F.cell q ds) cs) (env.set i (some (.ref q))) rest O) (hi : X.N[i]? = some x := by rfl) (hx : Loc X.env.scope x := by first | exact Or.inl rfl | exact Or.inr rfl)
    (hs : swapsWith e (some (.Name x pos')) pos.line X.env = pure false := by rfl) (hf' : X.fn x = true ∨ X.env.scope.names.lookup x = some .local := by first | exact .inl rfl | exact .inr rfl) : HS X (Lk F cs) env (.Assign [.Name x pos'] e pos :: rest) O :=
  (pss_cons (ps_set hN hi hx h hs hf') (L2.PSs.wk (t := fun D σ H => ∃ q, True ∧ tS (Lk (F.cell q ds) cs) (env.set i (some (.ref q))) O D σ H) (pss_exI fun q _ => hr q) (fun _ _ _ h => h))).wk fun D σ H ⟨hI, hE, k⟩ => ⟨hI, hE, fun p xs H' s hp hx r =>
    ⟨p, trivial, LkP.cellF hI s hp hx r hf, (hE.mono s).set rfl, k⟩⟩
theorem hs_frm {G : Asr} {sts : List Stmt} (h : HS X (Lk G cs) env sts O) (k : ∀ H, F.p H → G.p H) : HS X (Lk F cs) env sts O := h.wk (fun H hL => hL.frm k) fun _ h => h
end
end Sd
namespace Sd
open PySem L2
/-! ### the object of a look -/
/-- a person: the channels, its number, the times, what it asks, what it may wish; the class -/
structure Pn where
  cs : List Ck
  p : Nat
  t0 : Int
  t1 : Int
  t2 : Int
  ask : Option Int
  wsh : D
  am : Int
  C : Addr
def asksD (n : Pn) : List D := match n.ask with
  | none => []
  | some a => [.tup [.int 7, .int a]]
structure Lc where
  a : Addr
  db : Addr
  ls : Addr
  lo : Addr
  lp : Addr
  lw : Addr
  ll : Addr
  ld : Addr
  lt : Addr
  dw : Addr
  lpa : Addr
  dp : Addr
  wi : Addr
  qi : Addr
  wo : Addr
  qo : Addr
def ck0 : Ck := ⟨0, 1, 0, 0, 0, false⟩
def Pn.ck (n : Pn) (o : Bool) : Ck := if o then n.cs.getD n.p ck0 else n.cs.getD (n.p - 1) ck0
def Pn.hI (n : Pn) : Bool := decide (0 < n.p)
def Pn.hO (n : Pn) : Bool := decide (n.p < n.cs.length)
def Pn.pls (n : Pn) : List Bool := (if n.hI then [false] else []) ++ (if n.hO then [true] else [])
def Pn.key (n : Pn) (o : Bool) : Nat := (n.ck o).k
def Lc.w (L : Lc) (o : Bool) : Addr := if o then L.wo else L.wi
def Lc.q (L : Lc) (o : Bool) : Addr := if o then L.qo else L.qi
def Lo.bk (s : Lo) (o : Bool) : Bk := if o then s.bo else s.bi
def Lo.w (s : Lo) (o : Bool) : List Cg := if o then s.wo else s.wi
def Lo.q (s : Lo) (o : Bool) : List Cg := if o then s.po else s.pi
def rtD (cs : List Ck) (k : Nat) : List D := (cs.drop k).map fun c => .int c.k
def enD (cs : List Ck) (k : Nat) : List D := (cs.drop k).map fun c => .int c.en
def Pn.eOnw (n : Pn) : D := .tup [.int (n.key false), eImg, .tup (rtD n.cs n.p), .tup (enD n.cs n.p)]
def Pn.near (n : Pn) : D := if n.hI then .int (n.key false) else .non
def Pn.ePair (n : Pn) : D := .tup [n.near, eImg, .int (n.key true), .tup (rtD n.cs (n.p + 1)), .tup (enD n.cs (n.p + 1))]
def eLt (n : Pn) (o : Bool) : Lt → D
  | .secret => .tup [.str "secret", .int (n.key o), .int 7]
  | .pass => .tup [.str "pass", .int (n.key o), eImg, .tup (rtD n.cs (n.key o + 1)), .tup (enD n.cs (n.key o + 1))]
  | l => eLb (n.ck o) l
def Pn.oth (n : Pn) (o : Bool) : Nat := if o then n.p + 1 else n.p - 1
def eSent (n : Pn) (x : Bool × Lt) : D := .tup [.int (n.oth x.1), eLt n x.1 x.2]
def one (b : Bool) (d : D) : List D := if b then [d] else []
def booksD (n : Pn) (s : Lo) : List (Int × D) := n.pls.map fun o => ((n.key o : Int), eBk (n.ck o) o (s.bk o))
def refsD (n : Pn) (f : Bool → Addr) : List (Int × D) := n.pls.map fun o => ((n.key o : Int), .ref (f o))
def flds (n : Pn) (L : Lc) (m : Int) : List (Str × D) := [("net", eNet n.cs), ("times", eTimes n.t0 n.t1 n.t2), ("person", .int n.p), ("cares", .tup [.int 0, .int 0, .int 0]), ("asks", .tup (asksD n)), ("books", .ref L.db), ("secrets", .ref L.ls), ("onward", .ref L.lo), ("pairs", .ref L.lp), ("wishes", .ref L.lw), ("left", .ref L.ll), ("moment", .int m), ("ledger", .tup (List.replicate n.cs.length .non)), ("deeds", .ref L.ld), ("letters", .ref L.lt), ("wants", .ref L.dw), ("passing", .ref L.lpa), ("payments", .ref L.dp)]
def cells (z : Option Obj) (n : Pn) (L : Lc) (m : Int) (s : Lo) : Cs :=
  (L.a, .ins n.C (flds n L m)) :: (L.db, .dct z (booksD n s)) :: (L.ls, .lst (List.replicate s.nsec (.int 7))) :: (L.lo, .lst (one s.onw n.eOnw)) :: (L.lp, .lst (one s.pair n.ePair)) :: (L.lw, .lst (one s.wish n.wsh)) ::
  (L.ll, .lst []) :: (L.ld, .lst []) :: (L.lt, .lst (s.out.map (eSent n))) :: (L.dw, .dct none (refsD n L.w)) :: (L.lpa, .lst (one s.passing n.ePair)) :: (L.dp, .dct none (refsD n L.q)) ::
  n.pls.flatMap fun o => [(L.w o, .lst ((s.w o).map (eCg (n.ck o)))), (L.q o, .lst ((s.q o).map (eCg (n.ck o))))]
structure LookK (K : PySem.W.Frag) (C : Addr) : Prop where
  cl : Cls K C
  net : NoAttr K C "net"
  times : NoAttr K C "times"
  person : NoAttr K C "person"
  cares : NoAttr K C "cares"
  asks : NoAttr K C "asks"
  books : NoAttr K C "books"
  secrets : NoAttr K C "secrets"
  onward : NoAttr K C "onward"
  pairs : NoAttr K C "pairs"
  wishes : NoAttr K C "wishes"
  left : NoAttr K C "left"
  moment : NoAttr K C "moment"
  ledger : NoAttr K C "ledger"
  deeds : NoAttr K C "deeds"
  letters : NoAttr K C "letters"
  wants : NoAttr K C "wants"
  passing : NoAttr K C "passing"
  payments : NoAttr K C "payments"
section
variable {X : Cx} {I F : Asr} {env : Ev} {o : Expr} {pos : Pos} {n : Pn} {L : Lc} {m : Int} {s : Lo} {z : Option Obj}
theorem get_net : getA (flds n L m) "net" = some (eNet n.cs) := by with_unfolding_all rfl
theorem pd_net (LK : LookK X.K n.C) (le : Le I F (cells z n L m s)) (ho : PD X I env o (.ref L.a)) (hb : attributeBase o "net" X.env (eval o X.env) = eval o X.env := by rfl) : PD X I env (.Attribute o "net" pos) (eNet n.cs) := pd_fld le 0 ho rfl LK.cl LK.net get_net hb
theorem get_times : getA (flds n L m) "times" = some (eTimes n.t0 n.t1 n.t2) := by with_unfolding_all rfl
theorem pd_times (LK : LookK X.K n.C) (le : Le I F (cells z n L m s)) (ho : PD X I env o (.ref L.a)) (hb : attributeBase o "times" X.env (eval o X.env) = eval o X.env := by rfl) : PD X I env (.Attribute o "times" pos) (eTimes n.t0 n.t1 n.t2) := pd_fld le 0 ho rfl LK.cl LK.times get_times hb
theorem get_person : getA (flds n L m) "person" = some (.int n.p) := by with_unfolding_all rfl
theorem pd_person (LK : LookK X.K n.C) (le : Le I F (cells z n L m s)) (ho : PD X I env o (.ref L.a)) (hb : attributeBase o "person" X.env (eval o X.env) = eval o X.env := by rfl) : PD X I env (.Attribute o "person" pos) (.int n.p) := pd_fld le 0 ho rfl LK.cl LK.person get_person hb
theorem get_cares : getA (flds n L m) "cares" = some (.tup [.int 0, .int 0, .int 0]) := by with_unfolding_all rfl
theorem pd_cares (LK : LookK X.K n.C) (le : Le I F (cells z n L m s)) (ho : PD X I env o (.ref L.a)) (hb : attributeBase o "cares" X.env (eval o X.env) = eval o X.env := by rfl) : PD X I env (.Attribute o "cares" pos) (.tup [.int 0, .int 0, .int 0]) := pd_fld le 0 ho rfl LK.cl LK.cares get_cares hb
theorem get_asks : getA (flds n L m) "asks" = some (.tup (asksD n)) := by with_unfolding_all rfl
theorem pd_asks (LK : LookK X.K n.C) (le : Le I F (cells z n L m s)) (ho : PD X I env o (.ref L.a)) (hb : attributeBase o "asks" X.env (eval o X.env) = eval o X.env := by rfl) : PD X I env (.Attribute o "asks" pos) (.tup (asksD n)) := pd_fld le 0 ho rfl LK.cl LK.asks get_asks hb
theorem get_books : getA (flds n L m) "books" = some (.ref L.db) := by with_unfolding_all rfl
theorem pd_books (LK : LookK X.K n.C) (le : Le I F (cells z n L m s)) (ho : PD X I env o (.ref L.a)) (hb : attributeBase o "books" X.env (eval o X.env) = eval o X.env := by rfl) : PD X I env (.Attribute o "books" pos) (.ref L.db) := pd_fld le 0 ho rfl LK.cl LK.books get_books hb
theorem get_secrets : getA (flds n L m) "secrets" = some (.ref L.ls) := by with_unfolding_all rfl
theorem pd_secrets (LK : LookK X.K n.C) (le : Le I F (cells z n L m s)) (ho : PD X I env o (.ref L.a)) (hb : attributeBase o "secrets" X.env (eval o X.env) = eval o X.env := by rfl) : PD X I env (.Attribute o "secrets" pos) (.ref L.ls) := pd_fld le 0 ho rfl LK.cl LK.secrets get_secrets hb
theorem get_onward : getA (flds n L m) "onward" = some (.ref L.lo) := by with_unfolding_all rfl
theorem pd_onward (LK : LookK X.K n.C) (le : Le I F (cells z n L m s)) (ho : PD X I env o (.ref L.a)) (hb : attributeBase o "onward" X.env (eval o X.env) = eval o X.env := by rfl) : PD X I env (.Attribute o "onward" pos) (.ref L.lo) := pd_fld le 0 ho rfl LK.cl LK.onward get_onward hb
theorem get_pairs : getA (flds n L m) "pairs" = some (.ref L.lp) := by with_unfolding_all rfl
theorem pd_pairs (LK : LookK X.K n.C) (le : Le I F (cells z n L m s)) (ho : PD X I env o (.ref L.a)) (hb : attributeBase o "pairs" X.env (eval o X.env) = eval o X.env := by rfl) : PD X I env (.Attribute o "pairs" pos) (.ref L.lp) := pd_fld le 0 ho rfl LK.cl LK.pairs get_pairs hb
theorem get_wishes : getA (flds n L m) "wishes" = some (.ref L.lw) := by with_unfolding_all rfl
theorem pd_wishes (LK : LookK X.K n.C) (le : Le I F (cells z n L m s)) (ho : PD X I env o (.ref L.a)) (hb : attributeBase o "wishes" X.env (eval o X.env) = eval o X.env := by rfl) : PD X I env (.Attribute o "wishes" pos) (.ref L.lw) := pd_fld le 0 ho rfl LK.cl LK.wishes get_wishes hb
theorem get_left : getA (flds n L m) "left" = some (.ref L.ll) := by with_unfolding_all rfl
theorem pd_left (LK : LookK X.K n.C) (le : Le I F (cells z n L m s)) (ho : PD X I env o (.ref L.a)) (hb : attributeBase o "left" X.env (eval o X.env) = eval o X.env := by rfl) : PD X I env (.Attribute o "left" pos) (.ref L.ll) := pd_fld le 0 ho rfl LK.cl LK.left get_left hb
theorem get_moment : getA (flds n L m) "moment" = some (.int m) := by with_unfolding_all rfl
theorem pd_moment (LK : LookK X.K n.C) (le : Le I F (cells z n L m s)) (ho : PD X I env o (.ref L.a)) (hb : attributeBase o "moment" X.env (eval o X.env) = eval o X.env := by rfl) : PD X I env (.Attribute o "moment" pos) (.int m) := pd_fld le 0 ho rfl LK.cl LK.moment get_moment hb
theorem get_ledger : getA (flds n L m) "ledger" = some (.tup (List.replicate n.cs.length .non)) := by with_unfolding_all rfl
theorem pd_ledger (LK : LookK X.K n.C) (le : Le I F (cells z n L m s)) (ho : PD X I env o (.ref L.a)) (hb : attributeBase o "ledger" X.env (eval o X.env) = eval o X.env := by rfl) : PD X I env (.Attribute o "ledger" pos) (.tup (List.replicate n.cs.length .non)) := pd_fld le 0 ho rfl LK.cl LK.ledger get_ledger hb
theorem get_deeds : getA (flds n L m) "deeds" = some (.ref L.ld) := by with_unfolding_all rfl
theorem pd_deeds (LK : LookK X.K n.C) (le : Le I F (cells z n L m s)) (ho : PD X I env o (.ref L.a)) (hb : attributeBase o "deeds" X.env (eval o X.env) = eval o X.env := by rfl) : PD X I env (.Attribute o "deeds" pos) (.ref L.ld) := pd_fld le 0 ho rfl LK.cl LK.deeds get_deeds hb
theorem get_letters : getA (flds n L m) "letters" = some (.ref L.lt) := by with_unfolding_all rfl
theorem pd_letters (LK : LookK X.K n.C) (le : Le I F (cells z n L m s)) (ho : PD X I env o (.ref L.a)) (hb : attributeBase o "letters" X.env (eval o X.env) = eval o X.env := by rfl) : PD X I env (.Attribute o "letters" pos) (.ref L.lt) := pd_fld le 0 ho rfl LK.cl LK.letters get_letters hb
theorem get_wants : getA (flds n L m) "wants" = some (.ref L.dw) := by with_unfolding_all rfl
theorem pd_wants (LK : LookK X.K n.C) (le : Le I F (cells z n L m s)) (ho : PD X I env o (.ref L.a)) (hb : attributeBase o "wants" X.env (eval o X.env) = eval o X.env := by rfl) : PD X I env (.Attribute o "wants" pos) (.ref L.dw) := pd_fld le 0 ho rfl LK.cl LK.wants get_wants hb
theorem get_passing : getA (flds n L m) "passing" = some (.ref L.lpa) := by with_unfolding_all rfl
theorem pd_passing (LK : LookK X.K n.C) (le : Le I F (cells z n L m s)) (ho : PD X I env o (.ref L.a)) (hb : attributeBase o "passing" X.env (eval o X.env) = eval o X.env := by rfl) : PD X I env (.Attribute o "passing" pos) (.ref L.lpa) := pd_fld le 0 ho rfl LK.cl LK.passing get_passing hb
theorem get_payments : getA (flds n L m) "payments" = some (.ref L.dp) := by with_unfolding_all rfl
theorem pd_payments (LK : LookK X.K n.C) (le : Le I F (cells z n L m s)) (ho : PD X I env o (.ref L.a)) (hb : attributeBase o "payments" X.env (eval o X.env) = eval o X.env := by rfl) : PD X I env (.Attribute o "payments" pos) (.ref L.dp) := pd_fld le 0 ho rfl LK.cl LK.payments get_payments hb
end

structure OkPn (n : Pn) : Prop where
  net : OkNet n.cs
  pos : 1 ≤ n.cs.length
  le : n.p ≤ n.cs.length
  t1 : OkT n.t1
  a1 : 1 ≤ n.am
  am : ∀ c ∈ n.cs, c.a = n.am
theorem mem_pls {n : Pn} {o : Bool} (h : o ∈ n.pls) : (o = false ∧ n.hI = true) ∨ (o = true ∧ n.hO = true) := by
  unfold Pn.pls at h
  cases hI : n.hI <;> cases hO : n.hO <;> rw [hI, hO] at h <;> cases o <;> simp at h <;> simp
theorem pls_of {n : Pn} {o : Bool} (h : (o = false ∧ n.hI = true) ∨ (o = true ∧ n.hO = true)) : o ∈ n.pls := by
  unfold Pn.pls
  rcases h with ⟨rfl, h⟩ | ⟨rfl, h⟩ <;> rw [h] <;> cases n.hI <;> cases n.hO <;> simp_all
theorem ck_in {n : Pn} (ok : OkPn n) {o : Bool} (h : o ∈ n.pls) : n.cs[n.key o]? = some (n.ck o) ∧ n.key o = if o then n.p else n.p - 1 := by
  have hg : ∀ i : Nat, i < n.cs.length → n.cs[i]? = some (n.cs.getD i ck0) := fun i hi => by
    rw [List.getD_eq_getElem?_getD, List.getElem?_eq_getElem hi]; rfl
  rcases mem_pls h with ⟨rfl, hI⟩ | ⟨rfl, hO⟩
  · have hp : 0 < n.p := of_decide_eq_true hI
    have hi : n.p - 1 < n.cs.length := by have := ok.le; omega
    have h1 := hg _ hi
    have h2 : (n.ck false).k = n.p - 1 := ok.net.2 _ _ h1
    refine ⟨?_, h2⟩
    show n.cs[(n.ck false).k]? = _
    rw [h2]; exact h1
  · have hp : n.p < n.cs.length := of_decide_eq_true hO
    have h1 := hg _ hp
    have h2 : (n.ck true).k = n.p := ok.net.2 _ _ h1
    refine ⟨?_, h2⟩
    show n.cs[(n.ck true).k]? = _
    rw [h2]; exact h1
theorem key_lt {n : Pn} (ok : OkPn n) {o : Bool} (h : o ∈ n.pls) : n.key o < n.cs.length := (List.getElem?_eq_some_iff.mp (ck_in ok h).1).1
theorem ck_a {n : Pn} (ok : OkPn n) {o : Bool} (h : o ∈ n.pls) : (n.ck o).a = n.am := ok.am _ (List.mem_of_getElem? (ck_in ok h).1)
theorem ck_a1 {n : Pn} (ok : OkPn n) {o : Bool} (h : o ∈ n.pls) : 1 ≤ (n.ck o).a := by rw [ck_a ok h]; exact ok.a1
theorem key_ne {n : Pn} (ok : OkPn n) (hI : n.hI = true) (hO : n.hO = true) : n.key false + 1 = n.key true := by
  have h1 := (ck_in ok (pls_of (.inl ⟨rfl, hI⟩))).2
  have h2 := (ck_in ok (pls_of (.inr ⟨rfl, hO⟩))).2
  have hp : 0 < n.p := of_decide_eq_true hI
  simp at h1 h2
  omega
def dmap (n : Pn) (g : Bool → D) : List (Int × D) := n.pls.map fun o => ((n.key o : Int), g o)
theorem get_dmap {n : Pn} (ok : OkPn n) {g : Bool → D} {o : Bool} (h : o ∈ n.pls) : getA (dmap n g) (n.key o : Int) = some (g o) := by
  have hm := mem_pls h
  unfold dmap Pn.pls
  cases hI : n.hI <;> cases hO : n.hO <;> cases o <;> simp_all [getA]
  have := key_ne ok hI hO
  omega
theorem nd_dmap {n : Pn} (ok : OkPn n) {g : Bool → D} : keysNd (dmap n g) := by
  unfold dmap Pn.pls
  cases hI : n.hI <;> cases hO : n.hO <;> simp [keysNd, getA]
  have := key_ne ok hI hO
  omega
theorem dmap_len {n : Pn} {g : Bool → D} : (dmap n g).length ≤ 2 := by
  unfold dmap Pn.pls
  cases n.hI <;> cases n.hO <;> simp
theorem put_dmap {n : Pn} (ok : OkPn n) {g g' : Bool → D} {o : Bool} (h : o ∈ n.pls) (hg : ∀ x, x ≠ o → g' x = g x) : putA (dmap n g) (n.key o : Int) (g' o) = dmap n g' := by
  have hm := mem_pls h
  unfold dmap Pn.pls
  cases hI : n.hI <;> cases hO : n.hO <;> cases o <;> simp_all [putA]
  have := key_ne ok hI hO
  omega
def ixw (n : Pn) (o : Bool) : Nat := 12 + if o && n.hI then 2 else 0
theorem at_w {n : Pn} {L : Lc} {m : Int} {s : Lo} {z : Option Obj} {o : Bool} (h : o ∈ n.pls) : (cells z n L m s)[ixw n o]? = some (L.w o, .lst ((s.w o).map (eCg (n.ck o)))) := by
  have hm := mem_pls h
  unfold cells ixw Pn.pls
  cases hI : n.hI <;> cases hO : n.hO <;> cases o <;> simp_all
theorem at_q {n : Pn} {L : Lc} {m : Int} {s : Lo} {z : Option Obj} {o : Bool} (h : o ∈ n.pls) : (cells z n L m s)[ixw n o + 1]? = some (L.q o, .lst ((s.q o).map (eCg (n.ck o)))) := by
  have hm := mem_pls h
  unfold cells ixw Pn.pls
  cases hI : n.hI <;> cases hO : n.hO <;> cases o <;> simp_all
end Sd
namespace Sd
open PySem L2
def clsBody : Stmt → List Stmt
  | .ClassDef _ _ _ b _ _ _ _ _ _ _ => b
  | _ => []
def mth (i : Nat) : Stmt := (clsBody (top 44)).getD i (.Pass ⟨0, 0, 0, 0⟩)
section
variable {P : Program} {w : World} {K : PySem.W.Frag} {mg : Str → Option Value} {base : Heap} {C : Addr}
theorem at_key {n : Pn} {o : Bool} {α : Type} {f : Ck → α} (ok : OkPn n) (h : o ∈ n.pls) : (n.cs.map f)[n.key o]? = some (f (n.ck o)) := by rw [List.getElem?_map, (ck_in ok h).1]; rfl
theorem at_led {n : Pn} {o : Bool} (ok : OkPn n) (h : o ∈ n.pls) : atI (List.replicate n.cs.length D.non) (n.key o : Int) = some .non := atI_nat (by rw [List.getElem?_replicate, if_pos (key_lt ok h)])
/-- a place of ours -/
def SP (C : Addr) (f : Pn → Lc → Int → Lo → Bool → D → Prop) (cs : Cs) (ds : List D) (d : D) : Prop := ∃ z n L m s o, n.C = C ∧ OkPn n ∧ o ∈ n.pls ∧ cs = cells z n L m s ∧ ds = [.ref L.a, .int (n.key o)] ∧ f n L m s o d
def S_is_free (C : Addr) := SP C fun _ _ _ _ _ d => d = .bl true
theorem sc_is_free : FnScope ["self", "place"] ["self", "place"] (defScope (mth 2)) := ⟨rfl, rfl, rfl, by decide +kernel, rfl, by decide +kernel, by decide +kernel⟩
theorem ok_is_free (LK : LookK K C) (M : MD K C "is_free" "Look.is_free" (mth 2) ["self", "place"]) : Met P w K mg base 1 C "is_free" (spR (S_is_free C)) := by
  refine met_R M sc_is_free (fun cs ds d h => by obtain ⟨_, _, _, _, _, _, _, _, _, _, rfl, _⟩ := h; rfl) ?_
  rintro f cdv A outer s H E hr _ _ _ ⟨z, n, L, m, st, o, rfl, ok, ho, rfl, rfl, rfl⟩ I F le
  exact hs_ret (pd_and (pd_din le 1 hr (pd_var 1) (pd_books LK le (pd_var 0)) rfl (by rw [show getA (booksD n st) _ = _ from get_dmap ok ho]; rfl)) (pd_and (pd_isN (pd_ixT (pd_ledger LK le (pd_var 0)) (pd_var 1) (at_led ok ho))) (pd_one (pd_ninL hr (pd_var 1) (pd_clst le 6 (pd_left LK le (pd_var 0)) rfl)))))
def S_sideM (C : Addr) := SP C fun n _ _ _ o d => d = .int (sideI (n.ck o).fl o)
theorem sc_side_ : FnScope ["self", "place"] ["self", "place"] (defScope (mth 3)) := ⟨rfl, rfl, rfl, by decide +kernel, rfl, by decide +kernel, by decide +kernel⟩
theorem ok_side_ (LK : LookK K C) (M : MD K C "side" "Look.side" (mth 3) ["self", "place"]) : Met P w K mg base 1 C "side" (spR (S_sideM C)) := by
  refine met_R M sc_side_ (fun cs ds d h => by obtain ⟨_, _, _, _, _, _, _, _, _, _, rfl, _⟩ := h; rfl) ?_
  rintro f cdv A outer s H E hr _ _ _ ⟨z, n, L, m, st, o, rfl, ok, ho, rfl, rfl, rfl⟩ I F le
  exact hs_ret (pd_ixT (pd_dget le 1 hr (pd_books LK le (pd_var 0)) rfl (pd_var 1) (get_dmap ok ho)) pd_int)

def S_other (C : Addr) := SP C fun n _ _ _ o d => d = .int (n.oth o)
theorem sc_other : FnScope ["self", "place"] ["self", "place"] (defScope (mth 4)) := ⟨rfl, rfl, rfl, by decide +kernel, rfl, by decide +kernel, by decide +kernel⟩
theorem ok_other (LK : LookK K C) (M : MD K C "other" "Look.other" (mth 4) ["self", "place"]) (cp : Cal P w K mg base CX0 2 "person_of" (spD S_person)) (cs : Met P w K mg base 1 C "side" (spR (S_sideM C))) : Met P w K mg base 3 C "other" (spR (S_other C)) := by
  refine met_R M sc_other (fun cs ds d h => by obtain ⟨_, _, _, _, _, _, _, _, _, _, rfl, _⟩ := h; rfl) ?_
  rintro f cdv A outer s H E hr _ _ _ ⟨z, n, L, m, st, o, rfl, ok, ho, rfl, rfl, rfl⟩ I F le
  refine hs_ret (pd_call cp pass0 hr (by decide) (pds_cons (pd_net LK le (pd_var 0)) (pds_cons (pd_var 1) (pds_cons (PD.to (pd_sub pd_int (pd_mR le cs hr (by decide) (pd_var 0) (pds_cons (pd_var 1) pds_nil) rfl rfl ⟨z, n, L, m, st, o, rfl, ok, ho, rfl, rfl, rfl⟩)) (congrArg D.int (sideI_not _ o))) pds_nil))) ⟨n.cs, n.key o, n.ck o, !o, rfl, (ck_in ok ho).1, ?_⟩)
  have h2 := (ck_in ok ho).2
  have hk : (n.ck o).k = n.key o := rfl
  rw [hk, h2]
  rcases mem_pls ho with ⟨rfl, hI⟩ | ⟨rfl, hO⟩
  · rfl
  · show D.int ((n.p + 1 : Nat) : Int) = D.int ((n.p : Int) + 1)
    congr 1
def lksIn (n : Pn) (s : Lo) (o : Bool) : List D := one (decide ((s.bk o).ph = .lk) && !o) (eLock (n.ck o))
def S_locks_in (C : Addr) := SP C fun n _ _ s o d => d = .lst (lksIn n s o)
theorem sc_locks_in : FnScope ["self", "place", "lock"] ["self", "place"] (defScope (mth 5)) := ⟨rfl, rfl, rfl, by decide +kernel, rfl, by decide +kernel, by decide +kernel⟩
theorem ok_locks_in (LK : LookK K C) (M : MD K C "locks_in" "Look.locks_in" (mth 5) ["self", "place"]) (cs : Met P w K mg base 1 C "side" (spR (S_sideM C))) : Met P w K mg base 2 C "locks_in" (spR (S_locks_in C)) := by
  refine met_R M sc_locks_in (fun cs ds d h => by obtain ⟨_, _, _, _, _, _, _, _, _, _, rfl, _⟩ := h; rfl) ?_
  rintro f cdv A outer s H E hr _ _ _ ⟨z, n, L, m, st, o, rfl, ok, ho, rfl, rfl, rfl⟩ I F le
  have hm : ∀ d ∈ (if (st.bk o).ph = .lk then [eLock (n.ck o)] else []), d = eLock (n.ck o) := fun d hd => by
    split at hd
    · simpa using hd
    · cases hd
  have e : lksIn n st o = ((if (st.bk o).ph = .lk then [eLock (n.ck o)] else []).filter fun _ => !o).map fun d => d := by
    unfold lksIn one
    by_cases h : (st.bk o).ph = .lk
    · rw [if_pos h, decide_eq_true h]; cases o <;> rfl
    · rw [if_neg h, decide_eq_false h]; rfl
  rw [e]
  refine hs_ret (pd_lcN (i := 2) (keep := fun _ => !o) (out := fun d => d) rfl sc_locks_in.nd (PD.to (pd_ixT (pd_ixT (pd_dget le 1 hr (pd_books LK le (pd_var 0)) rfl (pd_var 1) (get_dmap ok ho)) pd_int) pd_int) (eLocks_if _ _))
    (blkOk_by (N := ["self", "place", "lock"]) (sc := defScope (mth 5)) (by decide +kernel)) (fun _ _ _ _ _ d hd => ?_) (fun _ _ _ _ _ d hd _ => (pd_var 2)) (fun d hd _ => by rw [hm d hd]; exact fix_lock _) (by split <;> exact zz rfl))
  rw [hm d hd]
  exact ptd_one (pb_ne hr (pd_ixT (pd_var 2) pd_int) (pd_mR le cs hr (by decide) (pd_var 0) (pds_cons (pd_var 1) pds_nil) rfl rfl ⟨z, n, L, m, st, o, rfl, ok, ho, rfl, rfl, rfl⟩) (by rw [sideI_eq]; cases o <;> rfl))
/-- the lock of a place of ours -/
def SLk (C : Addr) (f : Pn → Lo → Bool → D → Prop) (cs : Cs) (ds : List D) (d : D) : Prop := ∃ z n L m s o, n.C = C ∧ OkPn n ∧ o ∈ n.pls ∧ cs = cells z n L m s ∧ ds = [.ref L.a, eLock (n.ck o)] ∧ f n s o d
def askd (n : Pn) (o : Bool) : Bool := match n.ask with
  | none => false
  | some x => decide (x ≤ (n.ck o).a)
def S_is_asked (C : Addr) := SLk C fun n _ o d => d = .bl (askd n o)
theorem sc_is_asked : FnScope ["self", "lock", "own", "amount"] ["self", "lock"] (defScope (mth 6)) := ⟨rfl, rfl, rfl, by decide +kernel, rfl, by decide +kernel, by decide +kernel⟩
theorem ok_is_asked (B : Free mg) (LK : LookK K C) (M : MD K C "is_asked" "Look.is_asked" (mth 6) ["self", "lock"]) : Met P w K mg base 1 C "is_asked" (spR (S_is_asked C)) := by
  refine met_R M sc_is_asked (fun cs ds d h => by obtain ⟨_, _, _, _, _, _, _, _, _, _, rfl, _⟩ := h; rfl) ?_
  rintro f cdv A outer s H E hr _ _ _ ⟨z, n, L, m, st, o, rfl, ok, ho, rfl, rfl, rfl⟩ I F le
  have hv : askd n o = ((asksD n).map fun _ => askd n o).any id := by
    unfold askd asksD
    cases n.ask with
    | none => rfl
    | some x => simp
  have hm : ∀ d ∈ asksD n, ∃ x, n.ask = some x ∧ d = .tup [.int 7, .int x] := fun d hd => by
    unfold asksD at hd
    cases h : n.ask with
    | none => rw [h] at hd; cases hd
    | some x => rw [h] at hd; exact ⟨x, rfl, by simpa using hd⟩
  rw [hv]
  refine hs_ret (pd_any rfl B.any (PD.to (pd_lcT (g := gTup K 2 (gCons (gName 2) (gCons (gName 3) gNil))) (own := [("own", 2), ("amount", 3)]) (ds := asksD n) (envs := fun d => (((wipeE (startE ["self", "lock", "own", "amount"] [.ref L.a, eLock (n.ck o)]) [2, 3]).set 2 (some (.int 7))).set 3 (some (match n.ask with | none => .non | some x => .int x)))) (keep := fun _ => true) (out := fun _ => .bl (askd n o)) rfl sc_is_asked.nd (pd_asks LK le (pd_var 0))
    (blkOk_by (N := ["self", "lock", "own", "amount"]) (sc := defScope (mth 6)) (by decide +kernel)) (fun s H C cl fp => pg_tup rfl (pgs_cons (pg_name (i := 2) sc_is_asked.nd rfl (.inl rfl) (.inr rfl)) (pgs_cons (pg_name (i := 3) sc_is_asked.nd rfl (.inl rfl) (.inr rfl)) pgs_nil))) (fun d hd => ?_) (fun _ _ _ _ _ d hd => ptd_nil) (fun _ _ _ _ _ d hd _ => ?_) (fun d hd _ => rfl) ?_) ?_))
  · obtain ⟨x, hx, rfl⟩ := hm d hd
    rw [hx]
    exact tg_pair 2 3 (by decide)
  · obtain ⟨x, hx, rfl⟩ := hm d hd
    have e : askd n o = decide (x ≤ (n.ck o).a) := by unfold askd; rw [hx]
    rw [hx, e]
    exact pd_and (pd_eq hr (pd_var 2) (pd_ixT (pd_ixT (pd_var 1) pd_int) pd_int)) (pd_one (pd_ge (pd_ixT (pd_var 1) pd_int) (pd_var 3)))
  · unfold asksD
    cases n.ask <;> exact zz rfl
  · rw [List.filter_eq_self.mpr (fun _ _ => rfl), List.map_map]
    rfl
theorem lay_rep (k : Nat) : layL (List.replicate k (D.int 7)) = true := by
  induction k with
  | zero => rfl
  | succ k ih => show (true && layL (List.replicate k (D.int 7))) = true; rw [ih]; rfl
theorem dep_rep (k : Nat) : depL (List.replicate k (D.int 7)) = 0 := by
  induction k with
  | zero => rfl
  | succ k ih => show max 0 (depL (List.replicate k (D.int 7))) = 0; rw [ih]; rfl
theorem shp_sec (k : Nat) : D.shp (.lst (List.replicate k (.int 7))) = true := by
  show (layL (List.replicate k (D.int 7)) && decide (depL (List.replicate k (D.int 7)) + 1 ≤ 64)) = true
  rw [lay_rep, dep_rep]; rfl
theorem in_sec (k : Nat) : inD (.int 7) (List.replicate k (.int 7)) = decide (0 < k) := by
  cases k with
  | zero => rfl
  | succ k => unfold inD; rw [List.replicate_succ, List.any_cons]; rfl
def knowsD (n : Pn) (s : Lo) (o : Bool) : Bool := decide (0 < s.nsec) || askd n o
def S_knows (C : Addr) := SLk C fun n s o d => d = .bl (knowsD n s o)
theorem sc_knows : FnScope ["self", "lock"] ["self", "lock"] (defScope (mth 7)) := ⟨rfl, rfl, rfl, by decide +kernel, rfl, by decide +kernel, by decide +kernel⟩
theorem ok_knows (LK : LookK K C) (M : MD K C "knows" "Look.knows" (mth 7) ["self", "lock"]) (ca : Met P w K mg base 1 C "is_asked" (spR (S_is_asked C))) : Met P w K mg base 2 C "knows" (spR (S_knows C)) := by
  refine met_R M sc_knows (fun cs ds d h => by obtain ⟨_, _, _, _, _, _, _, _, _, _, rfl, _⟩ := h; rfl) ?_
  rintro f cdv A outer s H E hr _ _ _ ⟨z, n, L, m, st, o, rfl, ok, ho, rfl, rfl, rfl⟩ I F le
  unfold knowsD
  cases hs : decide (0 < st.nsec) with
  | true => exact hs_ret (pd_or0 (pd_inL hr (pd_ixT (pd_ixT (pd_var 1) pd_int) pd_int) (pd_clst le 2 (pd_secrets LK le (pd_var 0)) rfl) (by rw [in_sec, hs]) rfl (shp_sec _)))
  | false => exact hs_ret (pd_or (pd_inL hr (pd_ixT (pd_ixT (pd_var 1) pd_int) pd_int) (pd_clst le 2 (pd_secrets LK le (pd_var 0)) rfl) (by rw [in_sec, hs]) rfl (shp_sec _)) (pd_one (pd_mR le ca hr (by decide) (pd_var 0) (pds_cons (pd_var 1) pds_nil) rfl rfl ⟨z, n, L, m, st, o, rfl, ok, ho, rfl, rfl, rfl⟩)))
end
end Sd
namespace Sd
open PySem L2
section
variable {X : Cx} {I F : Asr} {cs : Cs} {env : Ev} {p : Addr} {rest : List Stmt} {O : Ends → Prop}
theorem KRep.keyAt {H : Hp} : ∀ {ds : List (Int × D)} {xs : List (Key × V)} {i : Nat} {k : Key} {v : V}, KRep H ds xs → xs[i]? = some (k, v) → ∃ q, ds[i]? = some q ∧ k = .inl q.1
  | [], _, i, k, v, h, e => by have z : _ = [] := h; subst z; simp at e
  | (k0, d) :: ds, _, i, k, v, ⟨u, r, e1, h1, h2⟩, e => by
    subst e1
    cases i with
    | zero => simp at e; exact ⟨_, rfl, e.1.symm⟩
    | succ i => exact KRep.keyAt (i := i) h2 (by simpa using e)
/-- [elt for x in a dict of ours]: texts of truth; nothing is changed within -/
theorem pd_lcK {x : Str} {i j : Nat} {elt iter : Expr} {scope : Scope} {xp pos : Pos} {kvs : List (Int × D)} {out : Int → Bool} (le : Le I F cs) (hi : cs[i]? = some (p, .dct none kvs)) (hfe : fixE env = true) (hz : kvs.length < 100) (hc : X.calm = true) (hN : X.N.Nodup) (ok : BlkOk X.N X.env.scope scope [(x, j)])
    (ho : ∀ J od, Le J F (cs.set i (p, .dct (some od) kvs)) → PD X J env iter (.ref p))
    (he : ∀ (s : Shared) (H : Hp) (C : Addr) (cl : List (Str × Addr)) (fp : List Addr) J od, Le J F (cs.set i (p, .dct (some od) kvs)) → ∀ q ∈ kvs, PD (X.blk s H scope (compEnvC scope cl C X.env) fp) J ((wipeE env [j]).set j (some (.int q.1))) elt (.bl (out q.1)))
    (hl : ∀ (s : Shared) (H : Hp) (C : Addr) (cl : List (Str × Addr)) (fp : List Addr), (X.blk s H scope (compEnvC scope cl C X.env) fp).env.scope.names.lookup x = some .local := by intro _ _ _ _ _; rfl)
    (hs : ∀ x, foldedSetIterable iter X.env x = pure x := by intro _; rfl) :
    PD X I env (.ListComp elt [⟨.Name x xp, iter, [], 0⟩] scope pos) (.lst ((kvs.map fun q => out q.1).map .bl)) := by
  refine (pe_lock (pe_lc (g := gName j) (tt := tYes) (te := fun σ H Q => ∃ t : (Asr × Obj × Int × D), (Le t.1 F (cs.set i (p, .dct (some t.2.1) kvs)) ∧ t.2.2 ∈ kvs) ∧ tD t.1 ((wipeE env [j]).set j (some (.int t.2.2.1))) (.bl (out t.2.2.1)) σ H Q)
    (wi := iKeys (fun σ H Q => ∃ t : Asr × Obj, (Le t.1 F (cs.set i (p, .dct (some t.2) kvs))) ∧ tD t.1 env (.ref p) σ H Q)) hc hN (pi_keys (pe_exI fun (t : Asr × Obj) h => ho t.1 t.2 h)) ok
    (fun s H C cl fp => pg_name (i := j) hN (ok.ix (x, j) List.mem_cons_self) (Or.inl (hl s H C cl fp)) (.inr (hl s H C cl fp))) (fun s H C cl fp => pts_nil)
    (fun s H C cl fp => pe_exI fun (t : Asr × Obj × Int × D) h => he s H C cl fp t.1 t.2.1 h.1 t.2.2 h.2) hs)).wk fun σ H Q ⟨hI, hE, k⟩ => ?_
  obtain ⟨fx, nd, vs, hv, rv⟩ := (le _ hI).at_ i _ hi
  have hv : H p = some (.dK vs) := hv
  refine ⟨p, .dK vs, hv, trivial, fun od => ?_⟩
  have tz : Tr H (upd H p (.frz od (.dK vs))) := Tr.upd fun xs e => by rw [hv] at e; cases e
  obtain ⟨hP, _⟩ := (le _ hI).put (c' := .dct (some od) kvs) (o := .frz od (.dK vs)) hi ⟨fx, nd, vs, upd_same, rv.tr tz fx⟩
  have leZ : Le (since (upd H p (.frz od (.dK vs)))) F (cs.set i (p, .dct (some od) kvs)) := fun H' s => (Lk F _).mono s hP
  have hEz : EnvR (upd H p (.frz od (.dK vs))) σ env := hE.tr tz (fixE_get hfe)
  have hlen := rv.length
  refine ⟨(since _, od), leZ, Same.refl _, hEz, fun v H1 s1 r1 => ?_⟩
  have ev : v = .ref p := r1
  subst ev
  have hz1 : H1 p = some (.frz od (.dK vs)) := s1 _ _ upd_same
  refine ⟨p, od, rfl, .inl ⟨vs, hz1, fun L hL => ?_⟩⟩
  have hzl : ∀ n, ((kvs.take n).map fun q => V.bl (out q.1)).length < sizeLine := fun n => by
    rw [List.length_map, List.length_take, sizeLine_eq]; omega
  refine lc_it walk_keys (g := gName j) (tt := tYes) (te := fun σ H Q => ∃ t : (Asr × Obj × Int × D), (Le t.1 F (cs.set i (p, .dct (some t.2.1) kvs)) ∧ t.2.2 ∈ kvs) ∧ tD t.1 ((wipeE env [j]).set j (some (.int t.2.2.1))) (.bl (out t.2.2.1)) σ H Q)
    (σ := σ) (H1 := H1) (D := L) (vs := [j]) (Qd := fun H' => H' p = some (.frz od (.dK vs)) ∧ Q (.ref L) (upd H' p (.dK vs)))
    (fun n H' => Same H1 H' ∧ H' L = some (.lst ((kvs.take n).map fun q => V.bl (out q.1)))) ⟨Same.new hL, upd_same⟩ (fun n H' _ q => q.1 _ _ hz1) (fun n y H2 H3 hn q yy => ?_) (fun H2 q => ?_)
  · obtain ⟨eH, k0, v0, hk0, ey⟩ := yy
    subst eH
    obtain ⟨q0, hq0, ek⟩ := rv.keyAt hk0
    subst ek
    subst ey
    have mem : q0 ∈ kvs := List.mem_of_getElem? hq0
    have sZ : Same (upd H p (.frz od (.dK vs))) H3 := s1.trans q.1
    refine ⟨?_, ?_⟩
    · show ((σ.set j none).set j (some (V.int q0.1))).set j none = σ.set j none
      rw [List.set_set, List.set_set]
    · delta tYes
      refine Eq.mpr (if_pos rfl) ?_
      refine ⟨(since (upd H p (.frz od (.dK vs))), od, q0), ⟨leZ, mem⟩, sZ, ((hEz.mono sZ).wipe [j]).set rfl, fun y H4 s4 r4 => ?_⟩
      have ey : y = .bl (out q0.1) := r4
      subst ey
      refine ⟨_, s4 _ _ q.2, hzl n, ⟨fun b o e => by rw [upd_ne (ne_of_none e hL)]; exact s4 _ _ (q.1 _ _ e), ?_⟩⟩
      rw [upd_same, take_succ_of hq0, List.map_append]
      rfl
  · have hq := q.2
    rw [hlen, List.take_length] at hq
    have hpz : H2 p = some (.frz od (.dK vs)) := q.1 _ _ hz1
    refine ⟨hpz, k _ _ (fun b o e => ?_) ?_⟩
    · by_cases hb : b = p
      · subst hb; rw [upd_same, ← hv]; exact e
      · rw [upd_ne hb]
        exact q.1 _ _ (s1 _ _ (by rw [upd_ne hb]; exact e))
    · have hLp : L ≠ p := fun z => by rw [z, hz1] at hL; cases hL
      have e1 : (upd H2 p (.dK vs)) L = some (.lst (kvs.map fun q => V.bl (out q.1))) := by rw [upd_ne hLp]; exact hq
      refine Rep.lst_of e1 ?_
      have : ∀ l : List (Int × D), RepL (upd H2 p (.dK vs)) ((l.map fun q => out q.1).map D.bl) (l.map fun q => V.bl (out q.1)) := by
        intro l
        induction l with
        | nil => rfl
        | cons a l ih =>
          show RepL _ (D.bl (out a.1) :: _) (V.bl (out a.1) :: _)
          unfold RepL
          exact ⟨_, _, rfl, rfl, ih⟩
      exact this kvs
/-- a, b, c = x, y, z: plain local names -/
theorem hs_par3 (i j l : Nat) {x y z : Str} {a b c : Expr} {px py pz pt pt2 pos : Pos} {kt k2 : Nat} {d d2 d3 : D} (hc : X.calm = true) (hN : X.N.Nodup) (hij : i ≠ j) (hil : i ≠ l) (hjl : j ≠ l) (h : PDs X I env [a, b, c] [d, d2, d3]) (hr : HS X I (((env.set i (some d)).set j (some d2)).set l (some d3)) rest O)
    (hi : X.N[i]? = some x := by rfl) (hj : X.N[j]? = some y := by rfl) (hl : X.N[l]? = some z := by rfl) (hx : X.env.scope.names.lookup x = some .local := by rfl) (hy : X.env.scope.names.lookup y = some .local := by rfl) (hz : X.env.scope.names.lookup z = some .local := by rfl)
    (hw : swappedStores [.Tuple [.Name x px, .Name y py, .Name z pz] kt pt] (.Tuple [a, b, c] k2 pt2) X.env = pure (some [x, y, z]) := by rfl)
    (hs : swapsWithSole [.Tuple [.Name x px, .Name y py, .Name z pz] kt pt] (.Tuple [a, b, c] k2 pt2) pos.line X.env = pure false := by rfl) : HS X I env (.Assign [.Tuple [.Name x px, .Name y py, .Name z pz] kt pt] (.Tuple [a, b, c] k2 pt2) pos :: rest) O :=
  (pss_cons (ps_par3 hc hN hi hj hl hij hil hjl hx hy hz h hw hs) hr).wk fun D σ H ⟨hI, hE, k⟩ => ⟨hI, hE, fun vs H1 s1 r1 => by
    unfold RepL at r1
    obtain ⟨v, r, e1, rv, r2⟩ := r1
    obtain ⟨u, w, e2, ru, rw_⟩ := r2.two
    subst e1 e2
    exact ⟨v, u, w, rfl, I.mono s1 hI, (((hE.mono s1).set rv).set ru).set rw_, k⟩⟩
end
end Sd
namespace Sd
open PySem L2
def bkPs (b : Bk) : List (Nat × Ph) := (b.num, b.ph) :: (match b.off with | none => [] | some p => [(b.num + 1, p)])
theorem exSh_eq (c : Ck) (b : Bk) : exSh c b = eShs c (bkPs b) := by
  obtain ⟨n, p, o, a, w⟩ := b
  cases o <;> rfl
theorem bkPs_len (b : Bk) : (bkPs b).length ≤ 2 := by
  obtain ⟨n, p, o, a, w⟩ := b
  cases o <;> exact Nat.le_of_ble_eq_true rfl
def mayGoA (n : Pn) (m : Int) (s : Lo) (o : Bool) : Bool := mayOpenA n.t1 m (n.ck o) o (bkPs (s.bk o))
theorem lay_ints {α : Type} (f : α → Int) (xs : List α) : layL (xs.map fun x => D.int (f x)) = true := lay_map (fun _ => rfl) xs
theorem tk_ints {α : Type} (f : α → Int) {xs : List α} (h : xs.length ≤ 1000) : Tk 1 (.tup (xs.map fun x => D.int (f x))) := tk_tup (fun d hd => by
  obtain ⟨x, _, rfl⟩ := List.mem_map.mp hd
  exact tk_int) (by rw [List.length_map]; exact h)
theorem tk_rt {cs : List Ck} {k : Nat} (h : cs.length ≤ 10) : Tk 1 (.tup (rtD cs k)) := tk_ints _ (by rw [List.length_drop]; omega)
theorem tk_en {cs : List Ck} {k : Nat} (h : cs.length ≤ 10) : Tk 1 (.tup (enD cs k)) := tk_ints _ (by rw [List.length_drop]; omega)
theorem tk_near (n : Pn) : Tk 1 n.near := by
  unfold Pn.near
  cases n.hI
  · exact tk_non
  · exact tk_int
theorem tk_pair {n : Pn} (ok : OkPn n) : Tk 2 n.ePair := tk_w (.cons (tk_near n) (.cons tk_img (.cons tk_int (.cons (tk_rt ok.net.1) (.cons (tk_en ok.net.1) .nil)))))
theorem tk_onw {n : Pn} (ok : OkPn n) : Tk 2 n.eOnw := tk_w (.cons tk_int (.cons tk_img (.cons (tk_rt ok.net.1) (.cons (tk_en ok.net.1) .nil))))
theorem lay_pair (n : Pn) : n.ePair.lay = true := by
  have h : n.near.lay = true := by unfold Pn.near; cases n.hI <;> rfl
  show (n.near.lay && (eImg.lay && (true && (layL (rtD _ _) && (layL (enD _ _) && true))))) = true
  rw [h, lay_img, show layL (rtD n.cs (n.p + 1)) = true from lay_ints _ _, show layL (enD n.cs (n.p + 1)) = true from lay_ints _ _]; rfl
theorem lay_onw (n : Pn) : n.eOnw.lay = true := by
  show (true && (eImg.lay && (layL (rtD _ _) && (layL (enD _ _) && true)))) = true
  rw [lay_img, show layL (rtD n.cs n.p) = true from lay_ints _ _, show layL (enD n.cs n.p) = true from lay_ints _ _]; rfl
theorem shp_lst1 {d : D} {k : Nat} (h : Tk k d) (hl : d.lay = true) (hk : k ≤ 60 := by decide) : D.shp (.lst [d]) = true := by
  show ((d.lay && true) && decide (max d.dep 0 + 1 ≤ 64)) = true
  rw [hl, decide_eq_true (by have := h.2; omega)]; rfl
section
variable {P : Program} {w : World} {K : PySem.W.Frag} {mg : Str → Option Value} {base : Heap} {C : Addr}
def S_may_go (C : Addr) (cs : Cs) (ds : List D) (d : D) : Prop := ∃ z n L m s o, n.C = C ∧ OkPn n ∧ o ∈ n.pls ∧ OkW (s.bk o).wan ∧ cs = cells z n L m s ∧ ds = [.ref L.a, .int (n.key o), eImg] ∧ d = .bl (mayGoA n m s o)
theorem sc_may_go : FnScope ["self", "place", "image", "side", "lies", "opened", "sheets", "locks", "sheet", "lock"] ["self", "place", "image"] (defScope (mth 14)) := ⟨rfl, rfl, rfl, by decide +kernel, rfl, by decide +kernel, by decide +kernel⟩
theorem ok_may_go (B : Free mg) (LK : LookK K C) (M : MD K C "may_go" "Look.may_go" (mth 14) ["self", "place", "image"]) (cs : Met P w K mg base 1 C "side" (spR (S_sideM C))) (ce : Cal P w K mg base CX0 12 "exposed" (spD S_exposed)) (cm : Cal P w K mg base CX0 12 "may_open" (spD S_may_open)) :
    Met P w K mg base 13 C "may_go" (spR (S_may_go C)) := by
  refine met_R M sc_may_go (fun cs ds d h => by obtain ⟨_, _, _, _, _, _, _, _, _, _, _, rfl, _⟩ := h; rfl) ?_
  rintro f cdv A outer s H E hr _ _ _ ⟨z, n, L, m, st, o, rfl, ok, ho, hw, rfl, rfl, rfl⟩ I F le
  refine hs_asg (pd_tup (pds_cons (pd_mR le cs hr (by decide) (pd_var 0) (pds_cons (pd_var 1) pds_nil) rfl rfl ⟨z, n, L, m, st, o, rfl, ok, ho, rfl, rfl, rfl⟩) (pds_cons (pd_ixT (pd_ledger LK le (pd_var 0)) (pd_var 1) (at_led ok ho)) (pds_one pd_bl)))) (pgd_tup rfl (pgsd_cons (pgd_name 3 sc_may_go.nd) (pgsd_cons (pgd_name 4 sc_may_go.nd) (pgsd_cons (pgd_name 5 sc_may_go.nd) pgsd_nil)))) ?_
  refine hs_set 6 sc_may_go.nd (pd_tupleT B.tup (pd_call ce pass0 hr (by decide) (pds_one (pd_dget le 1 hr (pd_books LK le (pd_var 0)) rfl (pd_var 1) (get_dmap ok ho))) ⟨_, _, _, rfl, hw, by rw [exSh_eq]⟩)) ?_
  refine hs_ifF (pb_notN (pd_var 4)) ?_
  exact hs_ret (pd_call cm pass0 hr (by decide) (pds_cons (pd_times LK le (pd_var 0)) (pds_cons (pd_moment LK le (pd_var 0)) (pds_cons (pd_var 3) (pds_cons (pd_var 2) (pds_cons (pd_var 6) (pds_cons (pd_var 5) pds_nil)))))) ⟨_, _, _, _, n.ck o, o, bkPs (st.bk o), rfl, ok.t1, Nat.le_trans (bkPs_len _) (by decide), rfl⟩)
def boundD (n : Pn) (m : Int) (s : Lo) : Bool := n.hO && mayGoA n m s true
theorem bound_any (n : Pn) (m : Int) (s : Lo) : (n.pls.map (mayGoA n m s)).any id = boundD n m s := by
  have h : mayGoA n m s false = false := rfl
  unfold boundD Pn.pls
  cases n.hI <;> cases n.hO <;> simp [h]
def outAt (n : Pn) (m : Int) (s : Lo) (k : Int) : Bool := (n.pls.find? fun o => decide ((n.key o : Int) = k)).elim false (mayGoA n m s)
theorem outAt_key {n : Pn} (ok : OkPn n) {m : Int} {s : Lo} {o : Bool} (h : o ∈ n.pls) : outAt n m s (n.key o) = mayGoA n m s o := by
  have hm := mem_pls h
  unfold outAt Pn.pls
  cases hI : n.hI <;> cases hO : n.hO <;> cases o <;> simp_all
  have := key_ne ok hI hO
  have hne : ¬ ((n.key false : Int) = (n.key true : Int)) := by omega
  simp [hne]
def OkWs (s : Lo) : Prop := OkW s.bi.wan ∧ OkW s.bo.wan
theorem OkWs.bk {s : Lo} (h : OkWs s) (o : Bool) : OkW (s.bk o).wan := by
  cases o
  · exact h.1
  · exact h.2
def S_is_bound (C : Addr) (cs : Cs) (ds : List D) (d : D) : Prop := ∃ n L m s, n.C = C ∧ OkPn n ∧ OkWs s ∧ cs = cells none n L m s ∧ ds = [.ref L.a, eImg] ∧ d = .bl (boundD n m s)
theorem sc_is_bound : FnScope ["self", "image", "place"] ["self", "image"] (defScope (mth 15)) := ⟨rfl, rfl, rfl, by decide +kernel, rfl, by decide +kernel, by decide +kernel⟩
theorem ok_is_bound (B : Free mg) (LK : LookK K C) (M : MD K C "is_bound" "Look.is_bound" (mth 15) ["self", "image"]) (cg : Met P w K mg base 13 C "may_go" (spR (S_may_go C))) : Met P w K mg base 14 C "is_bound" (spR (S_is_bound C)) := by
  refine met_R M sc_is_bound (fun cs ds d h => by obtain ⟨_, _, _, _, _, _, _, _, rfl, _⟩ := h; rfl) ?_
  rintro f cdv A outer s H E hr _ _ _ ⟨n, L, m, st, rfl, ok, hw, rfl, rfl, rfl⟩ I F le
  rw [← bound_any]
  have e : ((booksD n st).map fun q => outAt n m st q.1) = n.pls.map (mayGoA n m st) := by
    unfold booksD
    rw [List.map_map]
    exact List.map_congr_left fun o ho => outAt_key ok ho
  rw [← e]
  refine hs_ret (pd_any rfl B.any (pd_lcK (j := 2) (out := outAt n m st) (kvs := booksD n st) le (i := 1) rfl (fixE_of (.cons rfl (.cons rfl (.non .nil)))) (by have := dmap_len (n := n) (g := fun o => eBk (n.ck o) o (st.bk o)); exact Nat.lt_of_le_of_lt this (by decide)) rfl sc_is_bound.nd
    (blkOk_by (N := ["self", "image", "place"]) (sc := defScope (mth 15)) (by decide +kernel)) (fun J od leZ => pd_books (z := some od) LK leZ (pd_var 0)) (fun _ _ _ _ _ J od leZ q hq => ?_)))
  obtain ⟨o, ho, rfl⟩ := List.mem_map.mp hq
  rw [outAt_key ok ho]
  exact pd_mR (cs := cells (some od) n L m st) leZ cg hr (by decide) (pd_var 0) (pds_cons (pd_var 2) (pds_cons (pd_var 1) pds_nil)) rfl rfl ⟨some od, n, L, m, st, o, rfl, ok, ho, hw.bk o, rfl, rfl, rfl⟩
def S_pair_of (C : Addr) (cs : Cs) (ds : List D) (d : D) : Prop := ∃ z n L m s, n.C = C ∧ OkPn n ∧ n.hI = true ∧ cs = cells z n L m s ∧ ds = [.ref L.a, .int (n.key false), eImg] ∧ d = if s.pair then n.ePair else .non
theorem sc_pair_of : FnScope ["self", "place", "image", "found", "own"] ["self", "place", "image"] (defScope (mth 16)) := ⟨rfl, rfl, rfl, by decide +kernel, rfl, by decide +kernel, by decide +kernel⟩
theorem mem_one {b : Bool} {d e : D} (h : e ∈ one b d) : b = true ∧ e = d := by
  unfold one at h
  cases b
  · cases h
  · exact ⟨rfl, by simpa using h⟩
theorem one_fix {b : Bool} {d : D} (h : d.fix = true) : fixL (one b d) = true := by
  cases b
  · rfl
  · show (d.fix && true) = true; rw [h]; rfl
theorem one_len {b : Bool} {d : D} : (one b d).length ≤ 1 := by cases b <;> simp [one]
theorem eqb_int (i : Int) : D.eqb (.int i) (.int i) = true := decide_eq_true rfl
theorem ok_pair_of (LK : LookK K C) (M : MD K C "pair_of" "Look.pair_of" (mth 16) ["self", "place", "image"]) : Met P w K mg base 1 C "pair_of" (spR (S_pair_of C)) := by
  refine met_R M sc_pair_of (fun cs ds d h => by obtain ⟨_, _, _, _, _, _, _, _, _, rfl, _⟩ := h; rfl) ?_
  rintro f cdv A outer s H E hr _ _ _ ⟨z, n, L, m, st, rfl, ok, hI, rfl, rfl, rfl⟩ I F le
  have hn : n.ePair = .tup [.int (n.key false), eImg, .int (n.key true), .tup (rtD n.cs (n.p + 1)), .tup (enD n.cs (n.p + 1))] := by unfold Pn.ePair Pn.near; rw [hI]; rfl
  refine hs_setLcL (iz := 3) (i := 4) (keep := fun _ => true) (out := fun d => d) rfl sc_pair_of.nd (pd_clst le 4 (pd_pairs LK le (pd_var 0)) rfl) (blkOk_by (N := ["self", "place", "image", "found", "own"]) (sc := defScope (mth 16)) (by decide +kernel)) (fun _ _ _ _ _ d hd => ?_) (fun _ _ _ _ _ d hd _ => (pd_var 4)) (fun d hd _ => by rw [(mem_one hd).2]; exact D.tk_fix (tk_pair ok).1) (Nat.le_trans one_len (zz rfl)) ?_
  · rw [(mem_one hd).2, hn]
    exact ptd_one (pb_w (pbw_and (pb_eq hr (pd_ixT (pd_var 4) pd_int) (pd_var 1) (eqb_int _)) (pbw_and1 (pb_eq hr (pd_ixT (pd_var 4) pd_int) (pd_var 2) eqb_img shp_img shp_img))))
  · rw [List.filter_eq_self.mpr (fun _ _ => rfl), List.map_id']
    cases hp : st.pair with
    | true => exact hs_ret (pd_ifT (pb_ne hr (pd_var 3) (pd_lst pds_nil) rfl (shp_lst1 (tk_pair ok) (lay_pair n)) rfl) (pd_ixL (pd_var 3) (pd_neg pd_int)))
    | false => exact hs_ret (pd_ifF (pb_ne hr (pd_var 3) (pd_lst pds_nil)) pd_non)
end
end Sd
namespace Sd
open PySem L2
section
variable {X : Cx} {I : Asr} {env : Ev} {e : Expr} {es : List Expr} {d : D} {ds : List D} {pos p : Pos} {x : Str} {k j : Nat} {f : Addr}
/-- a def named, not called -/
theorem pd_gref (hm : X.mg x = some (.ref f)) (hg : Gl X x := by rfl) (hd : (x == ("__debug__" : Str)) = false := by decide) : PD X I env (.Name x pos) (.ref f) :=
  (pe_glob hg hm (v := .ref f) rfl hd).wk fun σ H Q ⟨_, _, k⟩ => k _ H (Same.refl H) rfl
/-- a def that a slot holds, called -/
theorem pd_callV {S : List D → D → Prop} (i : Nat) (c : C8.CalAt X.prog X.w X.K X.mg X.base k f (spD S)) (hr : Room j X.A) (hk : k ≤ j) (ha : PDs X I env (e :: es) ds) (hS : S ds d) (hd : env[i]? = some (some (.ref f)) := by rfl) (hN : X.N[i]? = some x := by rfl) (hv : Vis X.env.scope x := by first | exact Or.inl rfl | exact Or.inr (Or.inl rfl) | exact Or.inr (Or.inr rfl))
    (hdb : (x == ("__debug__" : Str)) = false := by decide) (hcd : (x == ("__classdict__" : Str)) = false := by decide)
    (he : starEach (e :: es) X.env = (false, eval e X.env) :: starEach es X.env := by rfl) (hpl : (backTo pos (starEach es X.env)).any (·.1) = false := by rfl) : PD X I env (.Call (.Name x p) (e :: es) [] pos) d :=
  (C8.pe_cv c c hr hk hk hN hv ha hdb hcd he hpl).wk fun σ H Q ⟨hI, hE, k⟩ => by
    obtain ⟨v, h1, h2⟩ := hE.2 i _ hd
    have ev : v = .ref f := h2
    subst ev
    exact .inl ⟨h1, hI, hE, fun vs H1 s1 r1 => ⟨ds, d, r1, hS, fun v H' s2 r2 => k v H' (s1.trans s2) r2⟩⟩
end
section
variable {P : Program} {w : World} {K : PySem.W.Frag} {mg : Str → Option Value} {base : Heap} {C : Addr}
def sureD (n : Pn) (m : Int) (s : Lo) : Bool := !n.hI || (decide (s.bi.ph = .lk) && inTime n.t0 n.t1 m (n.ck false).en)
def S_is_sure (C : Addr) (cs : Cs) (ds : List D) (d : D) : Prop := ∃ z n L m s, n.C = C ∧ OkPn n ∧ cs = cells z n L m s ∧ ds = [.ref L.a, n.ePair] ∧ d = .bl (sureD n m s)
theorem sc_is_sure : FnScope ["self", "pair", "place", "image", "last", "ends", "lock", "end"] ["self", "pair"] (defScope (mth 19)) := ⟨rfl, rfl, rfl, by decide +kernel, rfl, by decide +kernel, by decide +kernel⟩
theorem mem_lksIn {n : Pn} {s : Lo} {o : Bool} {d : D} (h : d ∈ lksIn n s o) : d = eLock (n.ck o) := (mem_one h).2
theorem ok_is_sure (B : Free mg) (LK : LookK K C) (M : MD K C "is_sure" "Look.is_sure" (mth 19) ["self", "pair"]) (cl : Met P w K mg base 2 C "locks_in" (spR (S_locks_in C))) (cc : Cal P w K mg base CX0 3 "close_by" (spD S_close_by)) :
    Met P w K mg base 4 C "is_sure" (spR (S_is_sure C)) := by
  obtain ⟨fc, fdc, psc, Fc, hmc, kpc, bc⟩ := cc.ex
  have cA : C8.CalAt P w K mg base 3 fc (spD S_close_by) := ⟨fdc, psc, Fc, kpc, bc⟩
  refine met_R M sc_is_sure (fun cs ds d h => by obtain ⟨_, _, _, _, _, _, _, _, rfl, _⟩ := h; rfl) ?_
  rintro f cdv A outer s H E hr _ _ _ ⟨z, n, L, m, st, rfl, ok, rfl, rfl, rfl⟩ I F le
  have hpr : n.ePair = .tup [n.near, eImg, .int (n.key true), .tup (rtD n.cs (n.p + 1)), .tup (enD n.cs (n.p + 1))] := rfl
  refine hs_asg (pd_tup (pds_cons (pd_ixT (pd_var 1) pd_int) (pds_cons (pd_ixT (pd_var 1) pd_int) pds_nil))) (pgd_tup rfl (pgsd_cons (pgd_name 2 sc_is_sure.nd) (pgsd_cons (pgd_name 3 sc_is_sure.nd) pgsd_nil))) ?_
  unfold sureD
  cases hI : n.hI with
  | false =>
    have hn : n.near = .non := by unfold Pn.near; rw [hI]; rfl
    exact hs_ifT (pb_isN (pd_var 2) (by rw [hn]; rfl)) (hs_ret pd_bl) noNx_ret
  | true =>
    have hn : n.near = .int (n.key false) := by unfold Pn.near; rw [hI]; rfl
    have ho : false ∈ n.pls := pls_of (.inl ⟨rfl, hI⟩)
    rw [hn]
    refine hs_ifF (pb_isN (pd_var 2)) ?_
    refine hs_set 4 sc_is_sure.nd (pd_ifT (pb_isN (pd_ixT (pd_ledger LK le (pd_var 0)) (pd_var 2) (at_led ok ho))) (pd_gref hmc)) ?_
    refine hs_setLcL (iz := 5) (i := 6) (ds := lksIn n st false) (keep := fun _ => true) (out := fun _ => oInt (closeBy n.t0 n.t1 (n.ck false).en)) rfl sc_is_sure.nd (pd_mR le cl hr (by decide) (pd_var 0) (pds_cons (pd_var 2) pds_nil) rfl rfl ⟨z, n, L, m, st, false, rfl, ok, ho, rfl, rfl, rfl⟩)
      (blkOk_by (N := ["self", "pair", "place", "image", "last", "ends", "lock", "end"]) (sc := defScope (mth 19)) (by decide +kernel)) (fun _ _ _ _ _ d hd => ?_) (fun _ _ _ _ _ d hd _ => ?_) (fun d hd _ => by cases closeBy n.t0 n.t1 (n.ck false).en <;> rfl) (Nat.le_trans one_len (zz rfl)) ?_
    · rw [mem_lksIn hd]
      exact ptd_one (pb_eq hr (pd_ixT (pd_var 6) pd_int) (pd_var 3) eqb_img shp_img shp_img)
    · rw [mem_lksIn hd]
      exact pd_callV 4 cA hr (by decide) (pds_cons (pd_times LK le (pd_var 0)) (pds_one (pd_ixT (pd_var 6) pd_int))) ⟨_, _, _, _, rfl, ok.t1, rfl⟩
    · rw [List.filter_eq_self.mpr (fun _ _ => rfl)]
      have hv : (decide (st.bi.ph = .lk) && inTime n.t0 n.t1 m (n.ck false).en) = ((lksIn n st false).map fun _ => inTime n.t0 n.t1 m (n.ck false).en).any id := by
        have e : lksIn n st false = one (decide (st.bi.ph = .lk)) (eLock (n.ck false)) := by unfold lksIn; rw [Bool.not_false, Bool.and_true]; rfl
        rw [e]
        cases decide (st.bi.ph = .lk) <;> simp [one]
      show HS _ _ _ _ (oRet I (.bl (false || (decide (st.bi.ph = .lk) && inTime n.t0 n.t1 m (n.ck false).en))))
      rw [Bool.false_or, hv]
      refine hs_ret (pd_any rfl B.any (PD.to (pd_lcNL (i := 7) (keep := fun _ => true) (out := fun _ => .bl (inTime n.t0 n.t1 m (n.ck false).en)) rfl sc_is_sure.nd (pd_var 5) (blkOk_by (N := ["self", "pair", "place", "image", "last", "ends", "lock", "end"]) (sc := defScope (mth 19)) (by decide +kernel)) (fun _ _ _ _ _ d hd => ptd_nil) (fun _ _ _ _ _ d hd _ => ?_) (fun d hd _ => rfl) (by rw [List.length_map]; exact Nat.le_trans one_len (zz rfl))) ?_))
      · obtain ⟨x, _, rfl⟩ := List.mem_map.mp hd
        unfold inTime
        cases closeBy n.t0 n.t1 (n.ck false).en with
        | none => exact pd_and0 (pd_notN (pd_var 7))
        | some l => exact pd_and (pd_notN (pd_var 7)) (pd_one (pd_le (pd_moment LK le (pd_var 0)) (pd_var 7)))
      · rw [List.filter_eq_self.mpr (fun _ _ => rfl), List.map_map, List.map_map]
        rfl
def closeD (n : Pn) (m : Int) (o : Bool) : Bool := match closeBy n.t0 n.t1 (n.ck o).en with
  | none => false
  | some l => decide (m = l)
def S_must_close (C : Addr) (cs : Cs) (ds : List D) (d : D) : Prop := ∃ n L m s o, n.C = C ∧ OkPn n ∧ o ∈ n.pls ∧ OkWs s ∧ cs = cells none n L m s ∧ ds = [.ref L.a, .int (n.key o), eLock (n.ck o)] ∧ d = .bl (closeD n m o && (knowsD n s o || boundD n m s))
theorem sc_must_close : FnScope ["self", "place", "lock", "last"] ["self", "place", "lock"] (defScope (mth 23)) := ⟨rfl, rfl, rfl, by decide +kernel, rfl, by decide +kernel, by decide +kernel⟩
theorem ok_must_close (LK : LookK K C) (M : MD K C "must_close" "Look.must_close" (mth 23) ["self", "place", "lock"]) (cc : Cal P w K mg base CX0 3 "close_by" (spD S_close_by)) (ck : Met P w K mg base 2 C "knows" (spR (S_knows C))) (cb : Met P w K mg base 14 C "is_bound" (spR (S_is_bound C))) :
    Met P w K mg base 15 C "must_close" (spR (S_must_close C)) := by
  refine met_R M sc_must_close (fun cs ds d h => by obtain ⟨_, _, _, _, _, _, _, _, _, _, rfl, _⟩ := h; rfl) ?_
  rintro f cdv A outer s H E hr _ _ _ ⟨n, L, m, st, o, rfl, ok, ho, hw, rfl, rfl, rfl⟩ I F le
  refine hs_set 3 sc_must_close.nd (pd_call cc pass0 hr (by decide) (pds_cons (pd_times LK le (pd_var 0)) (pds_one (pd_ixT (pd_var 2) pd_int))) ⟨_, _, _, _, rfl, ok.t1, rfl⟩) ?_
  cases hcb : closeBy n.t0 n.t1 (n.ck o).en with
  | none =>
    have hc : closeD n m o = false := by unfold closeD; rw [hcb]
    rw [hc]
    exact hs_ifT (pb_w (pbw_or0 (pb_isN (pd_var 3)))) (hs_ret pd_bl) noNx_ret
  | some l =>
    have hc : closeD n m o = decide (m = l) := by unfold closeD; rw [hcb]
    rw [hc]
    have hm : ∀ q, D.eqb (.int m) (.int (l + 0 * n.t1)) = q ↔ decide (m = l) = q := fun q => by
      show decide (m = l + 0 * n.t1) = q ↔ _
      rw [Int.zero_mul, Int.add_zero]
    cases hq : decide (m = l) with
    | false => exact hs_ifT (pb_w (pbw_or (pb_isN (pd_var 3)) (pbw_or1 (pb_ne hr (pd_moment LK le (pd_var 0)) (pd_add (pd_var 3) (pd_mul (pd_ixT (pd_cares LK le (pd_var 0)) pd_int) (pd_ixT (pd_times LK le (pd_var 0)) pd_int) (.inl ⟨by decide, by decide⟩))) (by rw [(hm false).mpr hq]; rfl))))) (hs_ret pd_bl) noNx_ret
    | true =>
      refine hs_ifF (pb_w (pbw_or (pb_isN (pd_var 3)) (pbw_or1 (pb_ne hr (pd_moment LK le (pd_var 0)) (pd_add (pd_var 3) (pd_mul (pd_ixT (pd_cares LK le (pd_var 0)) pd_int) (pd_ixT (pd_times LK le (pd_var 0)) pd_int) (.inl ⟨by decide, by decide⟩))) (by rw [(hm true).mpr hq]; rfl))))) ?_
      cases hk : knowsD n st o with
      | true => exact hs_ret (pd_or0 (pd_mR le ck hr (by decide) (pd_var 0) (pds_cons (pd_var 2) pds_nil) rfl rfl ⟨none, n, L, m, st, o, rfl, ok, ho, rfl, rfl, congrArg D.bl hk.symm⟩))
      | false => exact hs_ret (pd_or (pd_mR le ck hr (by decide) (pd_var 0) (pds_cons (pd_var 2) pds_nil) rfl rfl ⟨none, n, L, m, st, o, rfl, ok, ho, rfl, rfl, congrArg D.bl hk.symm⟩) (pd_one (pd_mR le cb hr (by decide) (pd_var 0) (pds_cons (pd_ixT (pd_var 2) pd_int) pds_nil) rfl rfl ⟨n, L, m, st, rfl, ok, hw, rfl, rfl, rfl⟩)))
end
end Sd
namespace Sd
open PySem L2
def isAdd : D → Bool
  | .tup (.str x :: _) => decide (x = "add")
  | _ => false
def sndD : D → D
  | .tup [_, y] => y
  | _ => .non
theorem isAdd_cg (c : Ck) (g : Cg) : isAdd (eCg c g) = (g == .add) := by
  cases g
  · show decide (("pass" : Str) = "add") = false; decide +kernel
  · show decide (("add" : Str) = "add") = true; decide +kernel
  · show decide (("pay" : Str) = "add") = false; decide +kernel
  · show decide (("drop" : Str) = "add") = false; decide +kernel
theorem adds_map (c : Ck) (f : D → D) : ∀ w : List Cg, ((w.map (eCg c)).filter isAdd).map (fun d => f d) = List.replicate (w.filter (· == .add)).length (f (eCg c .add))
  | [] => rfl
  | g :: w => by
    rw [List.map_cons]
    by_cases h : (g == .add) = true
    · rw [List.filter_cons_of_pos (by rw [isAdd_cg]; exact h), List.filter_cons_of_pos (p := fun x => x == Cg.add) h, List.map_cons, adds_map c f w, List.length_cons, List.replicate_succ]
      have e : g = .add := by cases g <;> first | rfl | cases h
      rw [e]
    · rw [List.filter_cons_of_neg (by rw [isAdd_cg]; exact h), List.filter_cons_of_neg (p := fun x => x == Cg.add) h, adds_map c f w]
def psD (fl : Bool) : D → D
  | .tup [_, _, .tup [x, y], _] => if fl then y else x
  | _ => .non
def psum (c : Ck) : Ph → Int
  | .st => c.sp
  | _ => c.sp - c.a
theorem psD_sheet (c : Ck) (n : Nat) (p : Ph) : psD c.fl (eSheet c n p) = .int (psum c p) := by
  obtain ⟨k, a, sp, so, en, fl⟩ := c
  cases fl <;> cases p <;> rfl
theorem at_psum (c : Ck) (p : Ph) : ∃ xs, eSums c p = .tup xs ∧ atI xs (sideI c.fl true) = some (.int (psum c p)) := by
  obtain ⟨k, a, sp, so, en, fl⟩ := c
  cases fl <;> cases p <;> exact ⟨_, rfl, rfl⟩
def nlD : D → D
  | .tup [_, _, _, .tup l] => .int (l.length : Nat)
  | _ => .non
theorem nlD_sheet (c : Ck) (n : Nat) (p : Ph) : nlD (eSheet c n p) = .int ((if p = .lk then [eLock c] else []).length : Nat) := by cases p <;> rfl
theorem lay_imgs (k : Nat) : layL (List.replicate k eImg) = true := by
  induction k with
  | zero => rfl
  | succ k ih => show (eImg.lay && layL (List.replicate k eImg)) = true; rw [ih, lay_img]; rfl
theorem dep_imgs (k : Nat) : depL (List.replicate k eImg) ≤ 2 := by
  induction k with
  | zero => exact Nat.zero_le _
  | succ k ih =>
    show max eImg.dep (depL (List.replicate k eImg)) ≤ 2
    have := tk_img.2
    omega
theorem shp_imgs (k : Nat) : D.shp (.lst (List.replicate k eImg)) = true := by
  show (layL (List.replicate k eImg) && decide (depL (List.replicate k eImg) + 1 ≤ 64)) = true
  rw [lay_imgs, decide_eq_true (by have := dep_imgs k; omega)]; rfl
theorem in_imgs (k : Nat) : inD eImg (List.replicate k eImg) = decide (0 < k) := by
  cases k with
  | zero => rfl
  | succ k => unfold inD; rw [List.replicate_succ, List.any_cons, eqb_img]; rfl
theorem filter_rep {α : Type} (k : Nat) (x : α) : (List.replicate k x).filter (fun _ => true) = List.replicate k x := List.filter_eq_self.mpr fun _ _ => rfl
/-- lets is told by the model -/
def okLets (b : Bk) (w : List Cg) : Bool := b.ph == .lk || b.off == some .lk || w.contains .add || (b.ph == .st && b.off != some .pd)
def nlk (b : Bk) : Nat := ((bkPs b).filter fun x => true && decide (x.2 = .lk)).length
theorem nlk_pos (b : Bk) : decide (0 < nlk b) = (b.ph == .lk || b.off == some .lk) := by
  obtain ⟨bn, bp, bo, ba, bw⟩ := b
  cases bo with
  | none => cases bp <;> rfl
  | some q => cases bp <;> cases q <;> rfl
theorem lets_false {fit : Bool} {b : Bk} {w : List Cg} (h : decide (0 < nlk b) = true ∨ w.contains .add = true) : letsA fit b w = false := by
  unfold letsA
  rcases h with h | h
  · rw [nlk_pos, Bool.or_eq_true] at h
    rcases h with h | h
    · rw [bne, h]; simp
    · have e : (b.off != some .lk) = false := by rw [bne, h]; rfl
      rw [e]; simp
  · rw [h]; simp
theorem lets_all {b : Bk} {w : List Cg} (hok : okLets b w = true) (h1 : nlk b = 0) (h2 : w.contains .add = false) : ((bkPs b).all fun x => decide (x.2 = .st)) = true ∧ ∀ fit, letsA fit b w = fit := by
  unfold okLets at hok
  rw [h2] at hok
  have h3 : ∀ fit, letsA fit b w = (fit && (b.ph != .lk) && (b.off != some .lk)) := fun fit => by unfold letsA; rw [h2]; simp
  obtain ⟨bn, bp, bo, ba, bw⟩ := b
  cases bo with
  | none =>
    cases bp
    · exact ⟨rfl, fun fit => by rw [h3]; cases fit <;> rfl⟩
    · cases h1
    · cases hok
  | some q =>
    cases bp <;> cases q
    · exact ⟨rfl, fun fit => by rw [h3]; cases fit <;> rfl⟩
    · cases h1
    · cases hok
    · cases h1
    · cases h1
    · cases h1
    · cases hok
    · cases h1
    · cases hok
section
variable {P : Program} {w : World} {K : PySem.W.Frag} {mg : Str → Option Value} {base : Heap} {C : Addr}
def S_lets (C : Addr) (cs : Cs) (ds : List D) (d : D) : Prop := ∃ n L m s, n.C = C ∧ OkPn n ∧ n.hO = true ∧ OkWs s ∧ OkW s.wo ∧ okLets s.bo s.wo = true ∧ cs = cells none n L m s ∧ ds = [.ref L.a, .int (n.key true), eLock (n.ck true)] ∧ d = .bl (letsA (n.ck true).fit s.bo s.wo)
theorem sc_lets : FnScope ["self", "place", "lock", "sheets", "side", "added", "images", "free", "many", "change", "sheet", "own"] ["self", "place", "lock"] (defScope (mth 10)) := ⟨rfl, rfl, rfl, by decide +kernel, rfl, by decide +kernel, by decide +kernel⟩
theorem ok_lets (B : Free mg) (hM : ∃ t, mg "MOST_LOCKS_minds" = some (.int 8 t)) (LK : LookK K C) (M : MD K C "lets" "Look.lets" (mth 10) ["self", "place", "lock"]) (cf : Met P w K mg base 1 C "is_free" (spR (S_is_free C))) (cs : Met P w K mg base 1 C "side" (spR (S_sideM C))) (ce : Cal P w K mg base CX0 12 "exposed" (spD S_exposed)) :
    Met P w K mg base 13 C "lets" (spR (S_lets C)) := by
  obtain ⟨t8, hM⟩ := hM
  refine met_R M sc_lets (fun cs ds d h => by obtain ⟨_, _, _, _, _, _, _, _, _, _, _, rfl, _⟩ := h; rfl) ?_
  rintro f cdv A outer s H E hr _ _ _ ⟨n, L, m, st, rfl, ok, hO, hws, hw, hok, rfl, rfl, rfl⟩ I F le
  have ho : true ∈ n.pls := pls_of (.inr ⟨rfl, hO⟩)
  have blk : blkC ["self", "place", "lock", "sheets", "side", "added", "images", "free", "many", "change", "sheet", "own"] (defScope (mth 10)) = blkC ["self", "place", "lock", "sheets", "side", "added", "images", "free", "many", "change", "sheet", "own"] (defScope (mth 10)) := rfl
  have ha1 := ck_a1 ok ho
  have hps := bkPs_len st.bo
  refine hs_ifF (pb_not (pb_val (pd_mR le cf hr (by decide) (pd_var 0) (pds_cons (pd_var 1) pds_nil) rfl rfl ⟨none, n, L, m, st, true, rfl, ok, ho, rfl, rfl, rfl⟩))) ?_
  refine hs_asg (pd_tup (pds_cons (PD.to (pd_call ce pass0 hr (by decide) (pds_one (pd_dget le 1 hr (pd_books LK le (pd_var 0)) rfl (pd_var 1) (get_dmap ok ho))) ⟨_, _, _, rfl, hws.2, rfl⟩) (congrArg D.tup (exSh_eq _ _))) (pds_one (pd_mR le cs hr (by decide) (pd_var 0) (pds_cons (pd_var 1) pds_nil) rfl rfl ⟨none, n, L, m, st, true, rfl, ok, ho, rfl, rfl, rfl⟩)))) (pgd_tup rfl (pgsd_cons (pgd_name 3 sc_lets.nd) (pgsd_cons (pgd_name 4 sc_lets.nd) pgsd_nil))) ?_
  refine hs_setLcL (iz := 5) (i := 9) (ds := st.wo.map (eCg (n.ck true))) (keep := isAdd) (out := fun d => sndD d) rfl sc_lets.nd (pd_clst le (ixw n true) (pd_dget le 9 hr (pd_wants LK le (pd_var 0)) rfl (pd_var 1) (get_dmap (g := fun o => .ref (L.w o)) ok ho)) (at_w ho))
    (blkOk_by (N := ["self", "place", "lock", "sheets", "side", "added", "images", "free", "many", "change", "sheet", "own"]) (sc := defScope (mth 10)) (by decide +kernel)) (fun _ _ _ _ _ d hd => ?_) (fun _ _ _ _ _ d hd hk => ?_) (fun d hd hk => ?_) (by rw [List.length_map]; exact Nat.le_trans hw (by rw [sizeLine_eq]; omega)) ?_
  · obtain ⟨g, _, rfl⟩ := List.mem_map.mp hd
    rw [isAdd_cg]
    cases g
    · exact ptd_one (PB.to (q := false) (pb_eqS (pd_ixT (pd_var 9) pd_int) pd_str) rfl)
    · exact ptd_one (PB.to (q := true) (pb_eqS (pd_ixT (pd_var 9) pd_int) pd_str) rfl)
    · exact ptd_one (PB.to (q := false) (pb_eqS (pd_ixT (pd_var 9) pd_int) pd_str) rfl)
    · exact ptd_one (PB.to (q := false) (pb_eqS (pd_ixT (pd_var 9) pd_int) pd_str) rfl)
  · obtain ⟨g, _, rfl⟩ := List.mem_map.mp hd
    cases g
    · rw [isAdd_cg] at hk; cases hk
    · exact (pd_ixT (pd_var 9) pd_int)
    · exact (pd_ixT (pd_var 9) pd_int)
    · exact (pd_ixT (pd_var 9) pd_int)
  · obtain ⟨g, _, rfl⟩ := List.mem_map.mp hd
    cases g
    · rfl
    · exact fix_lock _
    · exact D.tk_fix tk_img.1
    · exact D.tk_fix tk_img.1
  rw [adds_map (n.ck true) (fun d => sndD d) st.wo]
  have hcl : (st.wo.filter (· == .add)).length ≤ 100 := Nat.le_trans (List.length_filter_le _ _) hw
  have hcw : decide (0 < (st.wo.filter (· == .add)).length) = st.wo.contains .add := by
    generalize st.wo = l
    induction l with
    | nil => rfl
    | cons g l ih => cases g <;> simp_all
  generalize hcg : (st.wo.filter (· == .add)).length = cnt at hcl hcw
  show HS _ I _ _ _
  have esn : sndD (eCg (n.ck true) .add) = eLock (n.ck true) := rfl
  rw [esn]
  refine hs_set 6 sc_lets.nd (pd_cat (PD.to (pd_new (pl_lc2 (i := 10) (j := 11) (ds := eShs (n.ck true) (bkPs st.bo)) (inn := innL) (keep := fun _ _ => true) (out := fun _ _ => eImg) rfl sc_lets.nd (by decide) (pd_var 3)
      (blkOk_by (N := ["self", "place", "lock", "sheets", "side", "added", "images", "free", "many", "change", "sheet", "own"]) (sc := defScope (mth 10)) (by decide +kernel)) (fun _ _ _ _ _ d hd => ?_) (fun _ _ _ _ _ d hd e he => ptd_nil) (fun _ _ _ _ _ d hd e he _ => ?_) (fun d hd e he _ => D.tk_fix tk_img.1) (fun d hd => innL_fix hd) (fun k d hd => ?_))) (congrArg D.lst (lcR_shs (n.ck true) true (fun _ => eImg) (bkPs st.bo))))
    (PD.to (pd_lcNL (i := 11) (keep := fun _ => true) (out := fun _ => eImg) rfl sc_lets.nd (pd_var 5) (blkOk_by (N := ["self", "place", "lock", "sheets", "side", "added", "images", "free", "many", "change", "sheet", "own"]) (sc := defScope (mth 10)) (by decide +kernel)) (fun _ _ _ _ _ d hd => ptd_nil) (fun _ _ _ _ _ d hd _ => ?_) (fun d hd _ => D.tk_fix tk_img.1) (by rw [List.length_replicate, sizeLine_eq]; omega)) (by rw [filter_rep, List.map_replicate])) ?_) ?_
  · obtain ⟨x, rfl⟩ := mem_shs hd
    rw [innL_sheet, ← eLocks_if]
    exact (pd_ixT (pd_var 10) pd_int)
  · rw [mem_innL hd he]
    exact (pd_ixT (pd_var 11) pd_int)
  · have h1 := lcR_shs_len (n.ck true) true (fun _ => eImg) (bkPs st.bo) k
    have h2 := innL_len hd
    rw [sizeLine_eq]; omega
  · rw [List.eq_of_mem_replicate hd]
    exact (pd_ixT (pd_var 11) pd_int)
  · rw [List.length_map, List.length_replicate, sizeLine_eq]
    have := List.length_filter_le (fun x : Nat × Ph => true && decide (x.2 = .lk)) (bkPs st.bo)
    omega
  have eim : ((bkPs st.bo).filter fun x => true && decide (x.2 = .lk)).map (fun _ => eImg) ++ List.replicate cnt eImg = List.replicate (nlk st.bo + cnt) eImg := by
    rw [List.map_const', List.replicate_append_replicate]; rfl
  rw [eim]
  have hmem : ∀ x ∈ bkPs st.bo, psum (n.ck true) x.2 = (n.ck true).sp ∨ psum (n.ck true) x.2 = (n.ck true).sp - (n.ck true).a := fun x _ => by cases x.2 <;> simp [psum]
  have hne : 0 < (bkPs st.bo).length := by unfold bkPs; simp
  let m0 : Int := if ((bkPs st.bo).all fun x => decide (x.2 = .st)) then (n.ck true).sp else (n.ck true).sp - (n.ck true).a
  refine hs_set 7 sc_lets.nd (pd_sub (pd_min (m := m0) (ns := (bkPs st.bo).map fun x => psum (n.ck true) x.2) rfl B.min (PD.to (pd_lcN (i := 10) (ds := eShs (n.ck true) (bkPs st.bo)) (keep := fun _ => true) (out := fun d => psD (n.ck true).fl d) rfl sc_lets.nd (pd_var 3)
      (blkOk_by (N := ["self", "place", "lock", "sheets", "side", "added", "images", "free", "many", "change", "sheet", "own"]) (sc := defScope (mth 10)) (by decide +kernel)) (fun _ _ _ _ _ d hd => ptd_nil) (fun _ _ _ _ _ d hd _ => ?_) (fun d hd _ => ?_) (by unfold eShs; rw [List.length_map, sizeLine_eq]; omega)) ?_) (by rw [List.length_map]; exact hne) ?_)
    (pd_sum (ns := List.replicate cnt (n.ck true).a) rfl B.sum (PD.to (pd_lcNL (i := 11) (keep := fun _ => true) (out := fun _ => .int (n.ck true).a) rfl sc_lets.nd (pd_var 5) (blkOk_by (N := ["self", "place", "lock", "sheets", "side", "added", "images", "free", "many", "change", "sheet", "own"]) (sc := defScope (mth 10)) (by decide +kernel)) (fun _ _ _ _ _ d hd => ptd_nil) (fun _ _ _ _ _ d hd _ => ?_) (fun d hd _ => rfl) (by rw [List.length_replicate, sizeLine_eq]; omega)) (by rw [filter_rep, List.map_replicate, List.map_replicate])))) ?_
  · obtain ⟨x, rfl⟩ := mem_shs hd
    obtain ⟨xs, e1, e2⟩ := at_psum (n.ck true) x.2
    rw [psD_sheet]
    exact pd_ixT (PD.to (pd_ixT (pd_var 10) pd_int) e1) (pd_var 4) e2
  · obtain ⟨x, rfl⟩ := mem_shs hd
    rw [psD_sheet]; rfl
  · rw [List.filter_eq_self.mpr (fun _ _ => rfl)]
    unfold eShs
    rw [List.map_map, List.map_map]
    exact congrArg D.lst (List.map_congr_left fun x _ => psD_sheet _ _ _)
  · intro z hz hall
    obtain ⟨x, hx, rfl⟩ := List.mem_map.mp hz
    by_cases hq : ((bkPs st.bo).all fun x => decide (x.2 = .st)) = true
    · have e0 : m0 = (n.ck true).sp := if_pos hq
      rw [e0]
      have := of_decide_eq_true (List.all_eq_true.mp hq x hx)
      rw [this]; rfl
    · have e0 : m0 = (n.ck true).sp - (n.ck true).a := if_neg hq
      rw [e0]
      have hex : ∃ y ∈ bkPs st.bo, psum (n.ck true) y.2 = (n.ck true).sp - (n.ck true).a := by
        rw [List.all_eq_true] at hq
        have hq' : ∃ y, y ∈ bkPs st.bo ∧ ¬ y.2 = .st := by
          apply Classical.byContradiction
          intro hcon
          apply hq
          intro y hy
          apply decide_eq_true
          apply Classical.byContradiction
          intro hy2
          exact hcon ⟨y, hy, hy2⟩
        obtain ⟨y, hy, hy2⟩ := hq'
        refine ⟨y, hy, ?_⟩
        cases hz : y.2 with
        | st => exact absurd hz hy2
        | lk => rfl
        | pd => rfl
      obtain ⟨y, hy, ey⟩ := hex
      have h1 := hall _ (List.mem_map_of_mem hy)
      have h2 := hmem x hx
      omega
  · rw [List.eq_of_mem_replicate hd]
    exact (pd_ixT (pd_var 11) pd_int)
  refine hs_set 8 sc_lets.nd (pd_add (pd_max (m := if 0 < nlk st.bo then 1 else 0) (ns := (bkPs st.bo).map fun x => (((if x.2 = .lk then [eLock (n.ck true)] else []).length : Nat) : Int)) rfl B.max (PD.to (pd_lcN (i := 10) (ds := eShs (n.ck true) (bkPs st.bo)) (keep := fun _ => true) (out := fun d => nlD d) rfl sc_lets.nd (pd_var 3)
      (blkOk_by (N := ["self", "place", "lock", "sheets", "side", "added", "images", "free", "many", "change", "sheet", "own"]) (sc := defScope (mth 10)) (by decide +kernel)) (fun _ _ _ _ _ d hd => ptd_nil) (fun _ _ _ _ _ d hd _ => ?_) (fun d hd _ => ?_) (by unfold eShs; rw [List.length_map, sizeLine_eq]; omega)) ?_) (by rw [List.length_map]; exact hne) ?_) (pd_lenL B.len (pd_var 5))) ?_
  · obtain ⟨x, rfl⟩ := mem_shs hd
    rw [nlD_sheet]
    exact pd_lenT B.len (PD.to (pd_ixT (pd_var 10) pd_int) (eLocks_if _ _))
  · obtain ⟨x, rfl⟩ := mem_shs hd
    rw [nlD_sheet]; rfl
  · rw [List.filter_eq_self.mpr (fun _ _ => rfl)]
    unfold eShs
    rw [List.map_map, List.map_map]
    exact congrArg D.lst (List.map_congr_left fun x _ => nlD_sheet _ _ _)
  · intro z hz hall
    obtain ⟨x, hx, rfl⟩ := List.mem_map.mp hz
    by_cases hq : 0 < nlk st.bo
    · rw [if_pos hq]
      unfold nlk at hq
      obtain ⟨y, hy⟩ := List.exists_mem_of_length_pos hq
      obtain ⟨hy1, hy2⟩ := List.mem_filter.mp hy
      have hy3 : y.2 = .lk := by simpa using hy2
      have h1 := hall _ (List.mem_map_of_mem hy1)
      rw [if_pos hy3] at h1
      by_cases hx2 : x.2 = .lk
      · rw [if_pos hx2]; rfl
      · rw [if_neg hx2] at h1; simp at h1
    · rw [if_neg hq]
      have hx2 : ¬ x.2 = .lk := fun z => hq (List.length_pos_of_mem (List.mem_filter.mpr ⟨hx, by simp [z]⟩))
      rw [if_neg hx2]; rfl
  have hni : (!inD eImg (List.replicate (nlk st.bo + cnt) eImg)) = (!decide (0 < nlk st.bo + cnt)) := by rw [in_imgs]
  by_cases hpos : 0 < nlk st.bo + cnt
  · have hl : letsA (n.ck true).fit st.bo st.wo = false := by
      refine lets_false ?_
      by_cases h1 : 0 < nlk st.bo
      · exact .inl (decide_eq_true h1)
      · exact .inr (by rw [← hcw]; exact decide_eq_true (by omega))
    rw [hl]
    rw [decide_eq_true hpos] at hni
    cases hq : decide ((n.ck true).a ≤ m0 - (List.replicate cnt (n.ck true).a).sum) with
    | false => exact hs_ret (pd_and0 (pd_le (pd_ixT (pd_var 2) pd_int) (pd_var 7) hq))
    | true => exact hs_ret (pd_and (pd_le (pd_ixT (pd_var 2) pd_int) (pd_var 7) hq) (pd_and0 (pd_ninL hr (pd_ixT (pd_var 2) pd_int) (pd_var 6) hni shp_img (shp_imgs _))))
  · have h1 : nlk st.bo = 0 := by omega
    have h2 : cnt = 0 := by omega
    rw [decide_eq_false hpos] at hni
    subst h2
    obtain ⟨hall, hl⟩ := lets_all hok h1 hcw.symm
    have e0 : m0 = (n.ck true).sp := if_pos hall
    rw [hl]
    have hfit : ∀ q, (n.ck true).fit = q → decide ((n.ck true).a ≤ m0 - (List.replicate 0 (n.ck true).a).sum) = q := fun q hq => by
      rw [e0, ← hq]
      show decide ((n.ck true).a ≤ (n.ck true).sp - 0) = decide ((n.ck true).a ≤ (n.ck true).sp)
      rw [Int.sub_zero]
    have hlt : decide ((if 0 < nlk st.bo then (1 : Int) else 0) + ((List.replicate 0 (eLock (n.ck true))).length : Nat) < 8) = true := by rw [h1]; rfl
    cases hq : (n.ck true).fit with
    | false => exact hs_ret (pd_and0 (pd_le (pd_ixT (pd_var 2) pd_int) (pd_var 7) (hfit _ hq)))
    | true => exact hs_ret (pd_and (pd_le (pd_ixT (pd_var 2) pd_int) (pd_var 7) (hfit _ hq)) (pd_and (pd_ninL hr (pd_ixT (pd_var 2) pd_int) (pd_var 6) hni shp_img (shp_imgs _)) (pd_one (pd_lt (pd_var 8) (pd_gint hM) hlt))))
end
end Sd
namespace Sd
open PySem L2
theorem cut1 {x : D} {r : List D} : cutD (x :: r) (some 1) none = r := cut_from (ds := x :: r) (m := 0) (by simp)
theorem at0 {x : D} {r : List D} : atI (x :: r) 0 = some x := atI_nat (xs := x :: r) (j := 0) rfl
theorem shp_ki (k : Int) : D.shp (.tup [.int k, eImg]) = true := shp_tk (k := 2) (tk_w (.cons tk_int (.cons tk_img .nil))) (by show (true && (eImg.lay && true)) = true; rw [lay_img]; rfl)
theorem eqb_ki (k : Int) : D.eqb (.tup [.int k, eImg]) (.tup [.int k, eImg]) = true := by
  show (decide (k = k) && (D.eqb eImg eImg && true)) = true
  rw [decide_eq_true rfl, eqb_img]; rfl
theorem rt_cons {n : Pn} (ok : OkPn n) (hO : n.hO = true) : rtD n.cs n.p = .int (n.key true) :: rtD n.cs (n.p + 1) ∧ enD n.cs n.p = .int (n.ck true).en :: enD n.cs (n.p + 1) := by
  have ho : true ∈ n.pls := pls_of (.inr ⟨rfl, hO⟩)
  have h := ck_in ok ho
  have h1 : n.cs[n.p]? = some (n.ck true) := by have := h.1; rw [h.2] at this; exact this
  have hl := (List.getElem?_eq_some_iff.mp h1)
  obtain ⟨hlt, heq⟩ := hl
  unfold rtD enD
  rw [List.drop_eq_getElem_cons hlt, heq]
  exact ⟨rfl, rfl⟩
section
variable {P : Program} {w : World} {K : PySem.W.Frag} {mg : Str → Option Value} {base : Heap} {C : Addr}
def outD (n : Pn) (s : Lo) : D := if s.onw && letsA (n.ck true).fit s.bo s.wo then .tup [.int (n.key true), eLock (n.ck true), .tup (rtD n.cs (n.p + 1)), .tup (enD n.cs (n.p + 1))] else .non
def S_out_of (C : Addr) (cs : Cs) (ds : List D) (d : D) : Prop := ∃ n L m s, n.C = C ∧ OkPn n ∧ n.hI = true ∧ (s.onw = true → n.hO = true ∧ OkWs s ∧ OkW s.wo ∧ okLets s.bo s.wo = true) ∧ cs = cells none n L m s ∧ ds = [.ref L.a, .int (n.key false), eLock (n.ck false)] ∧ d = outD n s
theorem sc_out_of : FnScope ["self", "place", "lock", "told", "far", "end", "out", "own"] ["self", "place", "lock"] (defScope (mth 17)) := ⟨rfl, rfl, rfl, by decide +kernel, rfl, by decide +kernel, by decide +kernel⟩
theorem ok_out_of (LK : LookK K C) (M : MD K C "out_of" "Look.out_of" (mth 17) ["self", "place", "lock"]) (cs : Met P w K mg base 1 C "side" (spR (S_sideM C))) (cl : Met P w K mg base 13 C "lets" (spR (S_lets C))) : Met P w K mg base 14 C "out_of" (spR (S_out_of C)) := by
  refine met_R M sc_out_of (fun cs ds d h => by obtain ⟨_, _, _, _, _, _, _, _, _, rfl, _⟩ := h; rfl) ?_
  rintro f cdv A outer s H E hr _ _ _ ⟨n, L, m, st, rfl, ok, hI, hc, rfl, rfl, rfl⟩ I F le
  have hi : false ∈ n.pls := pls_of (.inl ⟨rfl, hI⟩)
  have hlk : eLock (n.ck false) = .tup [.int (sideI (n.ck false).fl true), .int (n.ck false).a, eImg, .int (n.ck false).en] := rfl
  refine hs_setLcL (iz := 3) (i := 7) (keep := fun _ => true) (out := fun d => d) rfl sc_out_of.nd (pd_clst le 3 (pd_onward LK le (pd_var 0)) rfl) (blkOk_by (N := ["self", "place", "lock", "told", "far", "end", "out", "own"]) (sc := defScope (mth 17)) (by decide +kernel)) (fun _ _ _ _ _ d hd => ?_) (fun _ _ _ _ _ d hd _ => (pd_var 7)) (fun d hd _ => by rw [(mem_one hd).2]; exact D.tk_fix (tk_onw ok).1) (Nat.le_trans one_len (zz rfl)) ?_
  · rw [(mem_one hd).2]
    exact ptd_one (pb_eq hr (PD.to (pd_slT (pd_var 7) pdo_none (pdo_some pd_int)) (d2 := .tup [.int (n.key false), eImg]) rfl) (pd_tup (pds_cons (pd_var 1) (pds_cons (pd_ixT (pd_var 2) pd_int) pds_nil))) (eqb_ki _) (shp_ki _) (shp_ki _))
  rw [List.filter_eq_self.mpr (fun _ _ => rfl), List.map_id']
  unfold outD
  cases hon : st.onw with
  | false => exact hs_ifT (pb_w (pbw_or0 (pb_eq hr (pd_var 3) (pd_lst pds_nil)))) (hs_ret pd_non) noNx_ret
  | true =>
    obtain ⟨hO, hws, hw, hok⟩ := hc hon
    have ho : true ∈ n.pls := pls_of (.inr ⟨rfl, hO⟩)
    obtain ⟨hrt, hen⟩ := rt_cons ok hO
    have srt : D.shp (.tup (rtD n.cs n.p)) = true := shp_tk (tk_rt ok.net.1) (lay_ints _ _)
    have sen : D.shp (.tup (enD n.cs n.p)) = true := shp_tk (tk_en ok.net.1) (lay_ints _ _)
    refine hs_ifF (pb_w (pbw_or (pb_eq hr (pd_var 3) (pd_lst pds_nil) rfl (shp_lst1 (tk_onw ok) (lay_onw n)) rfl) (pbw_or (pb_eq hr (pd_ixT (pd_ixL (pd_var 3) pd_int) pd_int) (pd_tup pds_nil) (by rw [hrt]; rfl) srt rfl) (pbw_or1 (pb_eq hr (pd_ixT (pd_ixL (pd_var 3) pd_int) pd_int) (pd_tup pds_nil) (by rw [hen]; rfl) sen rfl))))) ?_
    refine hs_par 4 5 rfl sc_out_of.nd (by decide) (pds_cons (pd_ixT (PD.to (pd_ixT (pd_ixL (pd_var 3) pd_int) pd_int) (congrArg D.tup hrt)) pd_int at0) (pds_one (pd_ixT (PD.to (pd_ixT (pd_ixL (pd_var 3) pd_int) pd_int) (congrArg D.tup hen)) pd_int at0))) ?_
    have hne : D.eqb (.int (n.key true)) (.int (n.key false)) = false := decide_eq_false (by have := key_ne ok hI hO; omega)
    refine hs_ifF (pb_w (pbw_or (pb_eq hr (pd_var 4) (pd_var 1) hne) (pbw_or1 (pb_dnin le 1 hr (pd_var 4) (pd_books LK le (pd_var 0)) rfl (by rw [show getA (booksD n st) _ = _ from get_dmap ok ho]; rfl))))) ?_
    refine hs_set 6 sc_out_of.nd (PD.to (pd_tup (pds_cons (pd_mR le cs hr (by decide) (pd_var 0) (pds_cons (pd_var 4) pds_nil) rfl rfl ⟨none, n, L, m, st, true, rfl, ok, ho, rfl, rfl, rfl⟩) (pds_cons (pd_ixT (pd_var 2) pd_int) (pds_cons (pd_ixT (pd_var 2) pd_int) (pds_cons (pd_var 5) pds_nil))))) (d2 := eLock (n.ck true)) (by unfold eLock; rw [ck_a ok hi, ck_a ok ho])) ?_
    cases hq : letsA (n.ck true).fit st.bo st.wo with
    | false => exact hs_ret (pd_ifF (pb_val (pd_mR le cl hr (by decide) (pd_var 0) (pds_cons (pd_var 4) (pds_cons (pd_var 6) pds_nil)) rfl rfl ⟨n, L, m, st, rfl, ok, hO, hws, hw, hok, rfl, rfl, congrArg D.bl hq.symm⟩)) pd_non)
    | true =>
      refine hs_ret (pd_ifT (pb_val (pd_mR le cl hr (by decide) (pd_var 0) (pds_cons (pd_var 4) (pds_cons (pd_var 6) pds_nil)) rfl rfl ⟨n, L, m, st, rfl, ok, hO, hws, hw, hok, rfl, rfl, congrArg D.bl hq.symm⟩)) (PD.to (pd_tup (pds_cons (pd_var 4) (pds_cons (pd_var 6) (pds_cons (pd_slT (PD.to (pd_ixT (pd_ixL (pd_var 3) pd_int) pd_int) (congrArg D.tup hrt)) (pdo_some pd_int) pdo_none) (pds_one (pd_slT (PD.to (pd_ixT (pd_ixL (pd_var 3) pd_int) pd_int) (congrArg D.tup hen)) (pdo_some pd_int) pdo_none)))))) ?_))
      rw [cut1, cut1]
      rfl
end
end Sd
namespace Sd
open PySem L2
section
variable {X : Cx} {F : Asr} {cs : Cs} {env env2 : Ev} {e o b : Expr} {d1 d2 : D} {pos sp np tp : Pos} {kt : Nat} {x : Str} {k : Nat} {p : Addr} {rest : List Stmt} {O : Ends → Prop}
/-- o[b], x = a pair -/
theorem hs_asgSub {kvs : List (Int × D)} {n : Int} (i iz : Nat) (hc : X.calm = true) (hN : X.N.Nodup) (hrm : Room k X.A) (he : PD X (Lk F cs) env e (.tup [d1, d2])) (ho : PD X (Lk F cs) env o (.ref p)) (hi : cs[i]? = some (p, .dct none kvs)) (hk : PD X (Lk F cs) env b (.int n)) (h1 : d1.fix = true) (h2 : d2.fix = true) (hz : kvs.length < 1000) (hE0 : fixE env = true)
    (hr : HS X (Lk F (cs.set i (p, .dct none (putA kvs n d1)))) (env.set iz (some d2)) rest O)
    (hx : X.N[iz]? = some x := by rfl) (hl : Loc X.env.scope x := by first | exact Or.inl rfl | exact Or.inr rfl) (hf : X.fn x = true ∨ X.env.scope.names.lookup x = some .local := by first | exact .inl rfl | exact .inr rfl)
    (hs : swapsWithSole [.Tuple [.Subscript o b sp, .Name x np] kt tp] e pos.line X.env = pure false := by rfl) (hw : swappedStores [.Tuple [.Subscript o b sp, .Name x np] kt tp] e X.env = pure none := by rfl)
    (ha : (assignEach [.Tuple [.Subscript o b sp, .Name x np] kt tp] X.env).map (·.2) = [assign (.Tuple [.Subscript o b sp, .Name x np] kt tp) X.env] := by rfl)
    (hb1 : (assignEach [.Subscript o b sp, .Name x np] X.env).map (·.2) = assign (.Subscript o b sp) X.env :: (assignEach [.Name x np] X.env).map (·.2) := by rfl) (hb2 : (assignEach [.Name x np] X.env).map (·.2) = assign (.Name x np) X.env :: (assignEach [] X.env).map (·.2) := by rfl)
    (hsub : ∀ v, assign (.Subscript o b sp) X.env v = (do
      let ov ← holding [v] (eval o X.env)
      let iv ← holding [v, ov] (eval b X.env)
      standAt sp
      holding [v, ov, iv] (setItem ov iv v)
      release [v, ov, iv] []) := by intro _; rfl)
    (hn : (assignEach [.Subscript o b sp, .Name x np] X.env).length = 2 := by rfl) (hst : (assignEach [.Subscript o b sp, .Name x np] X.env).findIdx? (·.1) = none := by rfl) :
    HS X (Lk F cs) env (.Assign [.Tuple [.Subscript o b sp, .Name x np] kt tp] e pos :: rest) O :=
  (pss_cons (ps_asg he (pg_tup hc (pgs_cons (pg_sub ho hk (set_dict (by have := hrm.units; omega)) hsub) (pgs_cons (pg_name hN hx hl hf) pgs_nil hb2) hb1) hn hst) hs hw ha) hr).wk fun D σ H ⟨hI, hE, k⟩ => ⟨hI, hE, fun v H1 s1 r1 => by
    obtain ⟨a, xs, ev, hq, hl'⟩ := r1.tup_inv
    obtain ⟨y1, y2, ex, ry1, ry2⟩ := hl'.two
    subst ev ex
    have hI1 := (Lk F cs).mono s1 hI
    refine ⟨a, _, rfl, SqT.of hq, rfl, y1, _, rfl, hI1, hE.mono s1, fun u H2 s2 r2 => ⟨(Lk F cs).mono s2 hI1, (hE.mono s1).mono s2, fun w H3 s3 r3 => ?_⟩⟩
    have eu : u = .ref p := r2
    have ew : w = .int n := r3
    subst eu ew
    have hI3 := (Lk F cs).mono s3 ((Lk F cs).mono s2 hI1)
    obtain ⟨fx, nd, vs, hv, rv⟩ := hI3.at_ i _ hi
    have hv : H3 p = some (.dK vs) := hv
    have hc : CoAt (upd H3 p (.dK (putK vs (.inl n) y1))) p (.dct none (putA kvs n d1)) := by
      have t : Tr H3 (upd H3 p (.dK (putK vs (.inl n) y1))) := Tr.upd fun xs e => by rw [hv] at e; cases e
      exact ⟨fixK_put fx h1, keysNd_put nd, _, upd_same, KRep.put nd (rv.tr t fx) (((ry1.mono s2).mono s3).tr t h1)⟩
    obtain ⟨hP, hT⟩ := hI3.put hi hc
    exact ⟨p, _, rfl, DPut.k (k := .inl n) hv (by rw [rv.length, sizeLine_eq]; omega), y2, _, rfl, rfl, hP, (((((hE.mono s1).mono s2).mono s3).tr hT (fixE_get hE0)).set (((ry2.mono s2).mono s3).tr hT h2)), k⟩⟩
end
theorem eBk_fix (c : Ck) (o : Bool) {b : Bk} (h : OkW b.wan) : (eBk c o b).fix = true := D.tk_fix (tk_bk c o h).1
def Lo.setBk (s : Lo) (o : Bool) (b : Bk) : Lo := if o then { s with bo := b } else { s with bi := b }
def Lo.setW (s : Lo) (o : Bool) (w : List Cg) : Lo := if o then { s with wo := w } else { s with wi := w }
def Lo.setQ (s : Lo) (o : Bool) (q : List Cg) : Lo := if o then { s with po := q } else { s with pi := q }
def Pn.cf (n : Pn) : Cf := ⟨n.cs.length, n.p, (n.ck false).fl, (n.ck true).fl, (n.ck false).fit, (n.ck true).fit, decide (lookAt n.t1 (n.ck true).en + n.t0 ≤ (n.ck false).en + 0), askd n false⟩
section
variable {n : Pn} {L : Lc} {m : Int} {s : Lo} {o : Bool}
theorem booksD_put (ok : OkPn n) (h : o ∈ n.pls) (b : Bk) : putA (booksD n s) (n.key o : Int) (eBk (n.ck o) o b) = booksD n (s.setBk o b) := by
  have e : eBk (n.ck o) o b = (fun x => eBk (n.ck x) x ((s.setBk o b).bk x)) o := by cases o <;> rfl
  rw [e]
  exact put_dmap (g := fun x => eBk (n.ck x) x (s.bk x)) (g' := fun x => eBk (n.ck x) x ((s.setBk o b).bk x)) ok h (fun x hx => by cases o <;> cases x <;> first | rfl | exact absurd rfl hx)
theorem set_db (ok : OkPn n) (h : o ∈ n.pls) (b : Bk) : (cells none n L m s).set 1 (L.db, .dct none (putA (booksD n s) (n.key o : Int) (eBk (n.ck o) o b))) = cells none n L m (s.setBk o b) := by
  rw [booksD_put ok h b]
  cases o <;> rfl
theorem set_w (h : o ∈ n.pls) (w : List Cg) : (cells none n L m s).set (ixw n o) (L.w o, .lst (w.map (eCg (n.ck o)))) = cells none n L m (s.setW o w) := by
  have hm := mem_pls h
  unfold cells ixw Pn.pls
  cases hI : n.hI <;> cases hO : n.hO <;> cases o <;> first
    | rfl
    | (exfalso; rcases hm with ⟨h1, h2⟩ | ⟨h1, h2⟩ <;> simp_all)
end
section
variable {P : Program} {w : World} {K : PySem.W.Frag} {mg : Str → Option Value} {base : Heap} {C : Addr}
/-! ### see -/
def S_see (C : Addr) (cs : Cs) (ds : List D) (cs' : Cs) : Prop := ∃ n L m s, n.C = C ∧ OkPn n ∧ cs = cells none n L m s ∧ ds = [.ref L.a] ∧ cs' = cells none n L m s
theorem sc_see : FnScope ["self", "lies", "secret", "_"] ["self"] (defScope (mth 8)) := ⟨rfl, rfl, rfl, by decide +kernel, rfl, by decide +kernel, by decide +kernel⟩
theorem ok_see (LK : LookK K C) (M : MD K C "see" "Look.see" (mth 8) ["self"]) : Met P w K mg base 1 C "see" (spM (S_see C)) := by
  refine met_M M sc_see (fun cs ds d h => by obtain ⟨_, _, _, _, _, _, _, rfl, _⟩ := h; rfl) ?_
  rintro f cdv A outer s H E hr _ _ _ ⟨n, L, m, st, rfl, ok, rfl, rfl, rfl⟩ F
  refine hs_nx (h_forT (G := fun _ => Lk F (cells none n L m st)) (Ev := fun _ => startE ["self", "lies", "secret", "_"] [.ref L.a]) (Eb := fun _ => (startE ["self", "lies", "secret", "_"] [.ref L.a]).set 1 (some .non)) PassesOwn.never rfl (pd_ledger LK le_lk (pd_var 0)) (fun _ h => h) rfl
    (fun a xs j d h => ?_) (fun a xs j d h => ?_)) hs_out
  · have e : d = .non := by
      rw [List.getElem?_replicate] at h
      split at h
      · cases h; rfl
      · cases h
    subst e
    exact pgd_name 1 sc_see.nd
  · exact hs_ifF (pb_notN (pd_var 1)) (hs_end.wk (fun _ h => h) (fun _ h => (oNC_sub (.same (.skip (.same (.same .nil)))) h).1))
/-! ### hear -/
def okHear (s : Lo) (x : Bool × Lt) : Prop := s.nsec < 500 ∧ s.out.length < 500 ∧ (x.2 = .pass → x.1 = true) ∧ (match x.2 with | .offer _ p => ((s.bk (!x.1)).ph = .pd → p = .lk → x.1 = false) | _ => True)
def S_hear (C : Addr) (cs : Cs) (ds : List D) (cs' : Cs) : Prop := ∃ n L m s x, n.C = C ∧ OkPn n ∧ (!x.1) ∈ n.pls ∧ OkWs s ∧ okHear s x ∧ cs = cells none n L m s ∧ ds = [.ref L.a, .int (n.oth (!x.1)), eLt n (!x.1) x.2] ∧ cs' = cells none n L m (hearA n.cf s x)
theorem sc_hear : FnScope ["self", "source", "letter", "word", "place", "answers", "own"] ["self", "source", "letter"] (defScope (mth 9)) := ⟨rfl, rfl, rfl, by decide +kernel, rfl, by decide +kernel, by decide +kernel⟩

theorem wordIn (w : Str) (q : Bool) (h : inD (.str w) [.str "offer", .str "agree"] = q) : inD (.str w) [.str "offer", .str "agree"] = q := h
theorem shp_words : D.shp (.tup [.str "offer", .str "agree"]) = true := by decide +kernel
theorem out_len {n : Pn} {s : Lo} : (s.out.map (eSent n)).length = s.out.length := List.length_map ..
theorem eLt_fix {n : Pn} (ok : OkPn n) (o : Bool) (l : Lt) : (eLt n o l).fix = true := by
  cases l with
  | offer k p => exact D.tk_fix (tk_lb (n.ck o) (.offer k p)).1
  | agree k p => exact D.tk_fix (tk_lb (n.ck o) (.agree k p)).1
  | turn k => exact D.tk_fix (tk_lb (n.ck o) (.turn k)).1
  | secret => rfl
  | pass =>
    show (true && (true && (eImg.fix && (fixL (rtD _ _) && (fixL (enD _ _) && true))))) = true
    have h : ∀ {α : Type} (f : α → Int) (xs : List α), fixL (xs.map fun x => D.int (f x)) = true := fun f xs => by
      induction xs with
      | nil => rfl
      | cons x xs ih => show (true && fixL (xs.map fun x => D.int (f x))) = true; rw [ih]; rfl
    rw [show fixL (rtD n.cs (n.key o + 1)) = true from h _ _, show fixL (enD n.cs (n.key o + 1)) = true from h _ _, show eImg.fix = true from rfl]; rfl
theorem fixL_mem : ∀ {ds : List D}, fixL ds = true → ∀ d ∈ ds, d.fix = true
  | [], _, d, h => by cases h
  | e :: ds, hf, d, h => by
    have hf' : (e.fix && fixL ds) = true := hf
    rw [Bool.and_eq_true] at hf'
    rcases List.mem_cons.mp h with rfl | h
    · exact hf'.1
    · exact fixL_mem hf'.2 d h
theorem fixL_sent {n : Pn} (ok : OkPn n) : ∀ xs : List (Bool × Lt), fixL (xs.map (eSent n)) = true
  | [] => rfl
  | x :: xs => by
    show ((true && ((eLt n x.1 x.2).fix && true)) && fixL (xs.map (eSent n))) = true
    rw [eLt_fix ok, fixL_sent ok xs]; rfl
def oRt0 (I : Asr) : Ends → Prop := fun D => ∀ H, I.p H → D.rt .non H
theorem noNx_rt0 {I : Asr} : NoNx (oRt0 I) := fun _ _ h => h
theorem hs_retN0 {X : Cx} {I : Asr} {env : Ev} {pos : Pos} {rest : List Stmt} : HS X I env (.Return none pos :: rest) (oRt0 I) := (pss_cons ps_retN pss_never).wk fun D σ H ⟨hI, hE, k⟩ => k H hI
theorem eAns_len (c : Ck) (r : Option (Nat × Ph)) : ∃ ds, eAns c r = .tup ds ∧ ds.length ≤ 1 := by
  cases r with
  | none => exact ⟨[], rfl, Nat.zero_le _⟩
  | some x => exact ⟨_, rfl, Nat.le_refl _⟩
/-- a letter that a book takes -/
def bookLt : Lt → Bool
  | .secret => false
  | .pass => false
  | _ => true
theorem hearA_book {c : Cf} {s : Lo} {o : Bool} {l : Lt} (h : bookLt l = true) : hearA c s (!o, l) = (let r := takenA (if o then c.fo else c.fi) (if o then c.to else c.ti) o (s.bk o) l; { s.setBk o r.1 with out := s.out ++ answers o r.2 }) := by
  cases l with
  | secret => cases h
  | pass => cases h
  | offer k p => cases o <;> rfl
  | agree k p => cases o <;> rfl
  | turn k => cases o <;> rfl
theorem takenA_wan (fl fit pay : Bool) (b : Bk) (l : Lt) : (takenA fl fit pay b l).1.wan = b.wan := by
  cases l with
  | offer n p => rw [takenA_offer]; split; rfl; split <;> rfl
  | agree n p => rw [takenA_agree]; split <;> rfl
  | turn n =>
    show (if (n = b.num && inTurn (sideN fl pay) b.num && b.off.isNone) = true then ({ b with asked := true }, none) else (b, none) : Bk × Option (Nat × Ph)).1.wan = b.wan
    split <;> rfl
  | secret => rfl
  | pass => rfl
theorem sent_ans (n : Pn) (o : Bool) (r : Option (Nat × Ph)) : ∃ ds, eAns (n.ck o) r = .tup ds ∧ ds.length ≤ 1 ∧ fixL ds = true ∧ ds.map (fun d => D.tup [.int (n.oth o), d]) = (answers o r).map (eSent n) := by
  cases r with
  | none => exact ⟨[], rfl, Nat.zero_le _, rfl, rfl⟩
  | some x =>
    obtain ⟨k, p⟩ := x
    refine ⟨_, rfl, Nat.le_refl _, ?_, rfl⟩
    show ((true && ((eSheet (n.ck o) k p).fix && true)) && true) = true
    rw [fix_sheet]; rfl
theorem ok_hear (B : Free mg) (LK : LookK K C) (M : MD K C "hear" "Look.hear" (mth 9) ["self", "source", "letter"]) (cf : Met P w K mg base 1 C "is_free" (spR (S_is_free C))) (co : Met P w K mg base 3 C "other" (spR (S_other C))) (ct : Cal P w K mg base CX0 16 "taken" (spD S_taken)) :
    Met P w K mg base 17 C "hear" (spM (S_hear C)) := by
  refine met_M M sc_hear (fun cs ds d h => by obtain ⟨_, _, _, _, _, _, _, _, _, _, _, rfl, _⟩ := h; rfl) ?_
  rintro f cdv A outer s H E hr _ _ _ ⟨n, L, m, st, x, rfl, ok, hx, hw, hok, rfl, rfl, rfl⟩ F
  obtain ⟨xo, l⟩ := x
  have hox : ∃ o, xo = !o := ⟨!xo, (Bool.not_not xo).symm⟩
  obtain ⟨o, rfl⟩ := hox
  have hx : o ∈ n.pls := by simpa using hx
  have hs1 : st.nsec < 500 := hok.1
  have hs2 : st.out.length < 500 := hok.2.1
  have hok3 := hok.2.2
  simp only [Bool.not_not] at *
  have kin : getA (booksD n st) (n.key o : Int) = some (eBk (n.ck o) o (st.bk o)) := get_dmap ok hx
  cases l with
  | secret =>
    refine hs_set 3 sc_hear.nd (pd_ixT (pd_var 2) pd_int) (HS.wk (hs_ifT (O := oRt0 (Lk F (cells none n L m (hearA n.cf st (!o, .secret))))) (pb_eqS (pd_var 3) pd_str) (hs_capp 2 (pd_secrets LK le_lk (pd_var 0)) rfl (pd_ixT (pd_var 2) pd_int) rfl (by rw [List.length_replicate]; omega) (Sub.refl _) (fixE_of (.cons rfl (.cons rfl (.cons rfl (.cons rfl (.non (.non (.non .nil)))))))) (hs_retN0.wk (fun H h => ?_) (fun _ h => h))) noNx_rt0) (fun _ h => h) (fun _ h => h.2))
    have e : List.replicate st.nsec (D.int 7) ++ [.int 7] = List.replicate (st.nsec + 1) (.int 7) := by rw [List.replicate_succ']
    rw [e] at h
    exact h
  | pass =>
    have ho : o = false := by have := hok.2.2.1 rfl; cases o <;> simp_all
    subst ho
    have hkey : n.key false + 1 = n.p := by
      have h2 := (ck_in ok hx).2
      have hp : 0 < n.p := by
        rcases mem_pls hx with ⟨_, h⟩ | ⟨h, _⟩
        · exact of_decide_eq_true h
        · cases h
      simp at h2
      omega
    have hlt : eLt n false .pass = .tup [.str "pass", .int (n.key false), eImg, .tup (rtD n.cs n.p), .tup (enD n.cs n.p)] := by
      show D.tup [_, _, _, .tup (rtD n.cs (n.key false + 1)), .tup (enD n.cs (n.key false + 1))] = _
      rw [hkey]
    have hfx := eLt_fix ok false .pass
    rw [hlt] at hfx ⊢
    refine hs_set 3 sc_hear.nd (pd_ixT (pd_var 2) pd_int) (hs_ifF (pb_eqS (pd_var 3) pd_str) ?_)
    refine hs_set 4 sc_hear.nd (pd_ifF (pb_inT hr (pd_var 3) (pd_tup (pds_cons pd_str (pds_cons pd_str pds_nil))) (by decide +kernel) (by decide +kernel) shp_words) (pd_ixT (pd_var 2) pd_int)) ?_
    refine hs_ifF (pb_w (pbw_or (pb_dnin le_lk 1 hr (pd_var 4) (pd_books LK le_lk (pd_var 0)) rfl (by rw [kin]; rfl)) (pbw_or1 (pb_ne hr (pd_mR le_lk co hr (by decide) (pd_var 0) (pds_cons (pd_var 4) pds_nil) rfl rfl ⟨none, n, L, m, st, false, rfl, ok, hx, rfl, rfl, rfl⟩) (pd_var 1) (by rw [eqb_int]; rfl))))) ?_
    have hany : st.onw = ((one st.onw n.eOnw).map fun _ => true).any id := by cases st.onw <;> rfl
    refine hs_one (h_ifT (pb_eqS (pd_var 3) pd_str) ?_)
    cases hon : st.onw with
    | true =>
      refine hs_ifF (pb_not (pb_val (pd_any (bs := (one st.onw n.eOnw).map fun _ => true) rfl B.any (PD.to (pd_lcNL (i := 6) (ds := one st.onw n.eOnw) (keep := fun _ => true) (out := fun _ => .bl true) rfl sc_hear.nd (pd_clst le_lk 3 (pd_onward LK le_lk (pd_var 0)) rfl) (blkOk_by (N := ["self", "source", "letter", "word", "place", "answers", "own"]) (sc := defScope (mth 9)) (by decide +kernel)) (fun _ _ _ _ _ d hd => ptd_nil) (fun _ _ _ _ _ d hd _ => ?_) (fun d hd _ => rfl) (Nat.le_trans one_len (zz rfl))) ?_))) (by rw [← hany, hon]; rfl)) ?_
      · rw [(mem_one hd).2]
        exact pd_eq hr (PD.to (pd_slT (pd_var 6) pdo_none (pdo_some pd_int)) (d2 := .tup [.int (n.key false), eImg]) rfl) (pd_tup (pds_cons (pd_var 4) (pds_cons (pd_ixT (pd_var 2) pd_int) pds_nil))) (eqb_ki _) (shp_ki _) (shp_ki _)
      · rw [List.filter_eq_self.mpr (fun _ _ => rfl), List.map_map]; rfl
      · have e : hearA n.cf st (!false, .pass) = st := by
          show { st with onw := true } = st
          obtain ⟨_, _, _, _, _, _, _, _, _, _, _, _⟩ := st
          simp only at hon
          subst hon; rfl
        rw [e]
        exact hs_out
    | false =>
      refine hs_one (h_ifT (pb_not (pb_val (pd_any (bs := (one st.onw n.eOnw).map fun _ => true) rfl B.any (PD.to (pd_lcNL (i := 6) (ds := one st.onw n.eOnw) (keep := fun _ => true) (out := fun _ => .bl true) rfl sc_hear.nd (pd_clst le_lk 3 (pd_onward LK le_lk (pd_var 0)) rfl) (blkOk_by (N := ["self", "source", "letter", "word", "place", "answers", "own"]) (sc := defScope (mth 9)) (by decide +kernel)) (fun _ _ _ _ _ d hd => ptd_nil) (fun _ _ _ _ _ d hd _ => ?_) (fun d hd _ => rfl) (Nat.le_trans one_len (zz rfl))) ?_))) (by rw [← hany, hon]; rfl)) ?_)
      · rw [(mem_one hd).2]
        exact pd_eq hr (PD.to (pd_slT (pd_var 6) pdo_none (pdo_some pd_int)) (d2 := .tup [.int (n.key false), eImg]) rfl) (pd_tup (pds_cons (pd_var 4) (pds_cons (pd_ixT (pd_var 2) pd_int) pds_nil))) (eqb_ki _) (shp_ki _) (shp_ki _)
      · rw [List.filter_eq_self.mpr (fun _ _ => rfl), List.map_map]; rfl
      · refine hs_capp 3 (pd_onward LK le_lk (pd_var 0)) rfl (pd_tup (pds_cons (pd_var 4) (pds_cons (pd_ixT (pd_var 2) pd_int) (pds_cons (pd_ixT (pd_var 2) pd_int) (pds_cons (pd_ixT (pd_var 2) pd_int) pds_nil))))) (D.tk_fix (tk_onw ok).1) (Nat.lt_of_le_of_lt one_len (by decide)) (Sub.refl _) (fixE_of (.cons rfl (.cons rfl (.cons hfx (.cons rfl (.cons rfl (.non (.non .nil)))))))) (hs_out.wk (fun H h => ?_) (fun _ h => h))
        rw [hon] at h
        exact h
  | offer k p =>
    refine hs_set 3 sc_hear.nd (pd_ixT (pd_var 2) pd_int) (hs_ifF (pb_eqS (pd_var 3) pd_str) ?_)
    refine hs_set 4 sc_hear.nd (pd_ifT (pb_inT hr (pd_var 3) (pd_tup (pds_cons pd_str (pds_cons pd_str pds_nil))) (by decide +kernel) (by decide +kernel) shp_words) (pd_ixT (pd_ixT (pd_var 2) pd_int) pd_int)) ?_
    refine hs_ifF (pb_w (pbw_or (pb_dnin le_lk 1 hr (PD.to (pd_var 4) (d2 := .int (n.key o)) rfl) (pd_books LK le_lk (pd_var 0)) rfl (by rw [kin]; rfl)) (pbw_or1 (pb_ne hr (pd_mR le_lk co hr (by decide) (pd_var 0) (pds_one (PD.to (pd_var 4) (d2 := .int (n.key o)) rfl)) rfl rfl ⟨none, n, L, m, st, o, rfl, ok, hx, rfl, rfl, rfl⟩) (pd_var 1) (by rw [eqb_int]; rfl))))) ?_
    obtain ⟨ds, hds, hdl, hdf, hmap⟩ := sent_ans n o (takenA (n.ck o).fl (n.ck o).fit o (st.bk o) (.offer k p)).2
    refine hs_one (h_ifF (pb_eqS (pd_var 3) pd_str) (hs_one (h_ifT (pb_val (pd_mR le_lk cf hr (by decide) (pd_var 0) (pds_one (PD.to (pd_var 4) (d2 := .int (n.key o)) rfl)) rfl rfl ⟨none, n, L, m, st, o, rfl, ok, hx, rfl, rfl, rfl⟩)) ?_)))
    refine hs_asgSub 1 5 rfl sc_hear.nd hr (pd_call ct pass0 hr (by decide) (pds_cons (pd_dget le_lk 1 hr (pd_books LK le_lk (pd_var 0)) rfl (PD.to (pd_var 4) (d2 := .int (n.key o)) rfl) kin) (pds_cons (pd_var 2) pds_nil)) (d := .tup [eBk (n.ck o) o (takenA (n.ck o).fl (n.ck o).fit o (st.bk o) (.offer k p)).1, .tup ds]) ⟨n.ck o, o, st.bk o, .offer k p, rfl, hw.bk o, ck_a1 ok hx, (fun h1 h2 => by have := hok3.2 h1 h2; revert this; cases o <;> simp), by rw [← hds]⟩) (pd_books LK le_lk (pd_var 0)) rfl (PD.to (pd_var 4) (d2 := .int (n.key o)) rfl) (eBk_fix _ _ (by rw [takenA_wan]; exact hw.bk o)) hdf (Nat.lt_of_le_of_lt dmap_len (by decide)) (fixE_of (.cons rfl (.cons rfl (.cons (eLt_fix ok o _) (.cons rfl (.cons rfl (.non (.non .nil)))))))) ?_
    rw [set_db ok hx]
    refine hs_cext 8 (pd_letters LK le_lk (pd_var 0)) rfl (pd_lcN (i := 6) (ds := ds) (keep := fun _ => true) (out := fun d => .tup [.int (n.oth o), d]) rfl sc_hear.nd (pd_var 5) (blkOk_by (N := ["self", "source", "letter", "word", "place", "answers", "own"]) (sc := defScope (mth 9)) (by decide +kernel)) (fun _ _ _ _ _ d hd => ptd_nil) (fun _ _ _ _ _ d hd _ => (pd_tup (pds_cons (pd_var 1) (pds_cons (pd_var 6) pds_nil)))) (fun d hd _ => ?_) (by rw [sizeLine_eq]; omega)) ?_ ?_ (Sub.refl _) (fixE_of (.cons rfl (.cons rfl (.cons (eLt_fix ok o _) (.cons rfl (.cons rfl (.cons hdf (.non .nil)))))))) ?_
    · show (true && (d.fix && true)) = true
      rw [fixL_mem hdf d hd]; rfl
    · rw [List.filter_eq_self.mpr (fun _ _ => rfl), hmap, fixL_sent ok]
    · rw [List.filter_eq_self.mpr (fun _ _ => rfl), List.length_map, List.length_map]
      have e : (st.setBk o (takenA (n.ck o).fl (n.ck o).fit o (st.bk o) (.offer k p)).1).out = st.out := by cases o <;> rfl
      rw [e]; omega
    · rw [List.filter_eq_self.mpr (fun _ _ => rfl), hmap]
      refine hs_out.wk (fun H h => ?_) (fun _ h => h)
      have e : (st.setBk o (takenA (n.ck o).fl (n.ck o).fit o (st.bk o) (.offer k p)).1).out.map (eSent n) ++ (answers o (takenA (n.ck o).fl (n.ck o).fit o (st.bk o) (.offer k p)).2).map (eSent n) = (st.out ++ answers o (takenA (n.ck o).fl (n.ck o).fit o (st.bk o) (.offer k p)).2).map (eSent n) := by rw [List.map_append]; cases o <;> rfl
      rw [e] at h
      rw [hearA_book rfl]
      cases o <;> exact h
  | agree k p =>
    refine hs_set 3 sc_hear.nd (pd_ixT (pd_var 2) pd_int) (hs_ifF (pb_eqS (pd_var 3) pd_str) ?_)
    refine hs_set 4 sc_hear.nd (pd_ifT (pb_inT hr (pd_var 3) (pd_tup (pds_cons pd_str (pds_cons pd_str pds_nil))) (by decide +kernel) (by decide +kernel) shp_words) (pd_ixT (pd_ixT (pd_var 2) pd_int) pd_int)) ?_
    refine hs_ifF (pb_w (pbw_or (pb_dnin le_lk 1 hr (PD.to (pd_var 4) (d2 := .int (n.key o)) rfl) (pd_books LK le_lk (pd_var 0)) rfl (by rw [kin]; rfl)) (pbw_or1 (pb_ne hr (pd_mR le_lk co hr (by decide) (pd_var 0) (pds_one (PD.to (pd_var 4) (d2 := .int (n.key o)) rfl)) rfl rfl ⟨none, n, L, m, st, o, rfl, ok, hx, rfl, rfl, rfl⟩) (pd_var 1) (by rw [eqb_int]; rfl))))) ?_
    obtain ⟨ds, hds, hdl, hdf, hmap⟩ := sent_ans n o (takenA (n.ck o).fl (n.ck o).fit o (st.bk o) (.agree k p)).2
    refine hs_one (h_ifF (pb_eqS (pd_var 3) pd_str) (hs_one (h_ifT (pb_val (pd_mR le_lk cf hr (by decide) (pd_var 0) (pds_one (PD.to (pd_var 4) (d2 := .int (n.key o)) rfl)) rfl rfl ⟨none, n, L, m, st, o, rfl, ok, hx, rfl, rfl, rfl⟩)) ?_)))
    refine hs_asgSub 1 5 rfl sc_hear.nd hr (pd_call ct pass0 hr (by decide) (pds_cons (pd_dget le_lk 1 hr (pd_books LK le_lk (pd_var 0)) rfl (PD.to (pd_var 4) (d2 := .int (n.key o)) rfl) kin) (pds_cons (pd_var 2) pds_nil)) (d := .tup [eBk (n.ck o) o (takenA (n.ck o).fl (n.ck o).fit o (st.bk o) (.agree k p)).1, .tup ds]) ⟨n.ck o, o, st.bk o, .agree k p, rfl, hw.bk o, ck_a1 ok hx, trivial, by rw [← hds]⟩) (pd_books LK le_lk (pd_var 0)) rfl (PD.to (pd_var 4) (d2 := .int (n.key o)) rfl) (eBk_fix _ _ (by rw [takenA_wan]; exact hw.bk o)) hdf (Nat.lt_of_le_of_lt dmap_len (by decide)) (fixE_of (.cons rfl (.cons rfl (.cons (eLt_fix ok o _) (.cons rfl (.cons rfl (.non (.non .nil)))))))) ?_
    rw [set_db ok hx]
    refine hs_cext 8 (pd_letters LK le_lk (pd_var 0)) rfl (pd_lcN (i := 6) (ds := ds) (keep := fun _ => true) (out := fun d => .tup [.int (n.oth o), d]) rfl sc_hear.nd (pd_var 5) (blkOk_by (N := ["self", "source", "letter", "word", "place", "answers", "own"]) (sc := defScope (mth 9)) (by decide +kernel)) (fun _ _ _ _ _ d hd => ptd_nil) (fun _ _ _ _ _ d hd _ => (pd_tup (pds_cons (pd_var 1) (pds_cons (pd_var 6) pds_nil)))) (fun d hd _ => ?_) (by rw [sizeLine_eq]; omega)) ?_ ?_ (Sub.refl _) (fixE_of (.cons rfl (.cons rfl (.cons (eLt_fix ok o _) (.cons rfl (.cons rfl (.cons hdf (.non .nil)))))))) ?_
    · show (true && (d.fix && true)) = true
      rw [fixL_mem hdf d hd]; rfl
    · rw [List.filter_eq_self.mpr (fun _ _ => rfl), hmap, fixL_sent ok]
    · rw [List.filter_eq_self.mpr (fun _ _ => rfl), List.length_map, List.length_map]
      have e : (st.setBk o (takenA (n.ck o).fl (n.ck o).fit o (st.bk o) (.agree k p)).1).out = st.out := by cases o <;> rfl
      rw [e]; omega
    · rw [List.filter_eq_self.mpr (fun _ _ => rfl), hmap]
      refine hs_out.wk (fun H h => ?_) (fun _ h => h)
      have e : (st.setBk o (takenA (n.ck o).fl (n.ck o).fit o (st.bk o) (.agree k p)).1).out.map (eSent n) ++ (answers o (takenA (n.ck o).fl (n.ck o).fit o (st.bk o) (.agree k p)).2).map (eSent n) = (st.out ++ answers o (takenA (n.ck o).fl (n.ck o).fit o (st.bk o) (.agree k p)).2).map (eSent n) := by rw [List.map_append]; cases o <;> rfl
      rw [e] at h
      rw [hearA_book rfl]
      cases o <;> exact h
  | turn k =>
    refine hs_set 3 sc_hear.nd (pd_ixT (pd_var 2) pd_int) (hs_ifF (pb_eqS (pd_var 3) pd_str) ?_)
    refine hs_set 4 sc_hear.nd (pd_ifF (pb_inT hr (pd_var 3) (pd_tup (pds_cons pd_str (pds_cons pd_str pds_nil))) (by decide +kernel) (by decide +kernel) shp_words) (pd_ixT (pd_var 2) pd_int)) ?_
    refine hs_ifF (pb_w (pbw_or (pb_dnin le_lk 1 hr (PD.to (pd_var 4) (d2 := .int (n.key o)) rfl) (pd_books LK le_lk (pd_var 0)) rfl (by rw [kin]; rfl)) (pbw_or1 (pb_ne hr (pd_mR le_lk co hr (by decide) (pd_var 0) (pds_one (PD.to (pd_var 4) (d2 := .int (n.key o)) rfl)) rfl rfl ⟨none, n, L, m, st, o, rfl, ok, hx, rfl, rfl, rfl⟩) (pd_var 1) (by rw [eqb_int]; rfl))))) ?_
    obtain ⟨ds, hds, hdl, hdf, hmap⟩ := sent_ans n o (takenA (n.ck o).fl (n.ck o).fit o (st.bk o) (.turn k)).2
    refine hs_one (h_ifF (pb_eqS (pd_var 3) pd_str) (hs_one (h_ifT (pb_val (pd_mR le_lk cf hr (by decide) (pd_var 0) (pds_one (PD.to (pd_var 4) (d2 := .int (n.key o)) rfl)) rfl rfl ⟨none, n, L, m, st, o, rfl, ok, hx, rfl, rfl, rfl⟩)) ?_)))
    refine hs_asgSub 1 5 rfl sc_hear.nd hr (pd_call ct pass0 hr (by decide) (pds_cons (pd_dget le_lk 1 hr (pd_books LK le_lk (pd_var 0)) rfl (PD.to (pd_var 4) (d2 := .int (n.key o)) rfl) kin) (pds_cons (pd_var 2) pds_nil)) (d := .tup [eBk (n.ck o) o (takenA (n.ck o).fl (n.ck o).fit o (st.bk o) (.turn k)).1, .tup ds]) ⟨n.ck o, o, st.bk o, .turn k, rfl, hw.bk o, ck_a1 ok hx, trivial, by rw [← hds]⟩) (pd_books LK le_lk (pd_var 0)) rfl (PD.to (pd_var 4) (d2 := .int (n.key o)) rfl) (eBk_fix _ _ (by rw [takenA_wan]; exact hw.bk o)) hdf (Nat.lt_of_le_of_lt dmap_len (by decide)) (fixE_of (.cons rfl (.cons rfl (.cons (eLt_fix ok o _) (.cons rfl (.cons rfl (.non (.non .nil)))))))) ?_
    rw [set_db ok hx]
    refine hs_cext 8 (pd_letters LK le_lk (pd_var 0)) rfl (pd_lcN (i := 6) (ds := ds) (keep := fun _ => true) (out := fun d => .tup [.int (n.oth o), d]) rfl sc_hear.nd (pd_var 5) (blkOk_by (N := ["self", "source", "letter", "word", "place", "answers", "own"]) (sc := defScope (mth 9)) (by decide +kernel)) (fun _ _ _ _ _ d hd => ptd_nil) (fun _ _ _ _ _ d hd _ => (pd_tup (pds_cons (pd_var 1) (pds_cons (pd_var 6) pds_nil)))) (fun d hd _ => ?_) (by rw [sizeLine_eq]; omega)) ?_ ?_ (Sub.refl _) (fixE_of (.cons rfl (.cons rfl (.cons (eLt_fix ok o _) (.cons rfl (.cons rfl (.cons hdf (.non .nil)))))))) ?_
    · show (true && (d.fix && true)) = true
      rw [fixL_mem hdf d hd]; rfl
    · rw [List.filter_eq_self.mpr (fun _ _ => rfl), hmap, fixL_sent ok]
    · rw [List.filter_eq_self.mpr (fun _ _ => rfl), List.length_map, List.length_map]
      have e : (st.setBk o (takenA (n.ck o).fl (n.ck o).fit o (st.bk o) (.turn k)).1).out = st.out := by cases o <;> rfl
      rw [e]; omega
    · rw [List.filter_eq_self.mpr (fun _ _ => rfl), hmap]
      refine hs_out.wk (fun H h => ?_) (fun _ h => h)
      have e : (st.setBk o (takenA (n.ck o).fl (n.ck o).fit o (st.bk o) (.turn k)).1).out.map (eSent n) ++ (answers o (takenA (n.ck o).fl (n.ck o).fit o (st.bk o) (.turn k)).2).map (eSent n) = (st.out ++ answers o (takenA (n.ck o).fl (n.ck o).fit o (st.bk o) (.turn k)).2).map (eSent n) := by rw [List.map_append]; cases o <;> rfl
      rw [e] at h
      rw [hearA_book rfl]
      cases o <;> exact h
end
end Sd
namespace Sd
open PySem L2
def Pn.tc (n : Pn) (m : Int) (o : Bool) : Tc := ⟨inTime n.t0 n.t1 m (n.ck o).en, decide ((n.ck o).en < m), decide (m < lookAt n.t1 (n.ck o).en), decide (m < (n.ck o).en), closeD n m o⟩
def Pn.tm (n : Pn) (m : Int) : Tm := ⟨decide (1 ≤ m), n.tc m false, n.tc m true⟩
theorem anyLk_bk (b : Bk) : anyLk (bkPs b) = (b.ph == .lk || b.off == some .lk) := by
  obtain ⟨bn, bp, bo, ba, bw⟩ := b
  cases bo with
  | none => cases bp <;> rfl
  | some q => cases bp <;> cases q <;> rfl
theorem bound_eq (n : Pn) (m : Int) (s : Lo) : boundD n m s = openOut n.cf (n.tm m) s := by
  show (n.hO && (true && anyLk (bkPs s.bo) && decide (m < lookAt n.t1 (n.ck true).en))) = (decide (n.p < n.cs.length) && (s.bo.ph == .lk || s.bo.off == some .lk) && decide (m < lookAt n.t1 (n.ck true).en))
  rw [anyLk_bk, Bool.true_and]
  show (n.hO && _) = (n.hO && _ && _)
  rw [Bool.and_assoc]
theorem knows_eq (n : Pn) (s : Lo) : knowsD n s false = knowsA n.cf s := rfl
def lastP (b : Bk) : Nat × Ph := match b.off with
  | none => (b.num, b.ph)
  | some p => (b.num + 1, p)
theorem lastLk_eq (b : Bk) : lastLk b = ((lastP b).2 == .lk) := by
  obtain ⟨bn, bp, bo, ba, bw⟩ := b
  cases bo <;> rfl
def wantA (s : Lo) (o : Bool) (g : Cg) : Lo := if g == .add || lastLk (s.bk o) then s.setW o (s.w o ++ [g]) else s
section
variable {P : Program} {w : World} {K : PySem.W.Frag} {mg : Str → Option Value} {base : Heap} {C : Addr}
def S_want (C : Addr) (cs : Cs) (ds : List D) (cs' : Cs) : Prop := ∃ n L m s o g, n.C = C ∧ OkPn n ∧ o ∈ n.pls ∧ OkWs s ∧ (s.w o).length < 500 ∧ g ≠ .pass ∧ cs = cells none n L m s ∧ ds = [.ref L.a, .int (n.key o), eCg (n.ck o) g] ∧ cs' = cells none n L m (wantA s o g)
theorem sc_want : FnScope ["self", "place", "change", "book", "last", "lock"] ["self", "place", "change"] (defScope (mth 11)) := ⟨rfl, rfl, rfl, by decide +kernel, rfl, by decide +kernel, by decide +kernel⟩
theorem ok_want (B : Free mg) (LK : LookK K C) (M : MD K C "want" "Look.want" (mth 11) ["self", "place", "change"]) : Met P w K mg base 1 C "want" (spM (S_want C)) := by
  refine met_M M sc_want (fun cs ds d h => by obtain ⟨_, _, _, _, _, _, _, _, _, _, _, _, _, rfl, _⟩ := h; rfl) ?_
  rintro f cdv A outer s H E hr _ _ _ ⟨n, L, m, st, o, g, rfl, ok, ho, hw, hwl, hg, rfl, rfl, rfl⟩ F
  have hfb := eBk_fix (n.ck o) o (hw.bk o)
  refine hs_set 3 sc_want.nd (pd_dget le_lk 1 hr (pd_books LK le_lk (pd_var 0)) rfl (pd_var 1) (get_dmap ok ho)) ?_
  refine hs_set (d := eSheet (n.ck o) (lastP (st.bk o)).1 (lastP (st.bk o)).2) 4 sc_want.nd ?_ ?_
  · generalize st.bk o = b
    obtain ⟨bn, bp, bo, ba, bw⟩ := b
    cases bo with
    | none => exact (pd_ifT (pb_isN (pd_ixT (pd_var 3) pd_int)) (pd_ixT (pd_var 3) pd_int))
    | some q => exact (pd_ifF (pb_isN (pd_ixT (pd_var 3) pd_int)) (pd_ixT (pd_var 3) pd_int))
  have wt : ∀ env2, fixE env2 = true → (HS (bx P w K mg base ["self", "place", "change", "book", "last", "lock"] "Look.want" (mth 11) f cdv A outer s H E) (Lk F ((cells none n L m st).set (ixw n o) (L.w o, .lst ((st.w o).map (eCg (n.ck o)) ++ [eCg (n.ck o) g])))) env2 [] (oEnd (Lk F (cells none n L m (st.setW o (st.w o ++ [g])))))) := fun env2 _ => by
    have e : (st.w o).map (eCg (n.ck o)) ++ [eCg (n.ck o) g] = (st.w o ++ [g]).map (eCg (n.ck o)) := by rw [List.map_append]; rfl
    rw [e, set_w ho]
    exact hs_out
  have hfe : fixE (((startE ["self", "place", "change", "book", "last", "lock"] [.ref L.a, .int (n.key o), eCg (n.ck o) g]).set 3 (some (eBk (n.ck o) o (st.bk o)))).set 4 (some (eSheet (n.ck o) (lastP (st.bk o)).1 (lastP (st.bk o)).2))) = true := fixE_of (.cons rfl (.cons rfl (.cons (fix_cg _ _) (.cons hfb (.cons (fix_sheet _ _ _) (.non .nil))))))
  have hlen : ((st.w o).map (eCg (n.ck o))).length < 1000 := by rw [List.length_map]; omega
  unfold wantA
  by_cases ha : g = .add
  · subst ha
    rw [if_pos (by rfl)]
    exact hs_one (h_ifT (pb_w (pbw_or0 (pb_eqS (pd_ixT (pd_var 2) pd_int) pd_str))) (hs_capp (ixw n o) (pd_dget le_lk 9 hr (pd_wants LK le_lk (pd_var 0)) rfl (pd_var 1) (get_dmap (g := fun o => .ref (L.w o)) ok ho)) (at_w ho) (pd_var 2) (fix_cg _ _) hlen (Sub.refl _) hfe (wt _ hfe)))
  · have hn : (g == .add) = false := by cases g <;> first | rfl | exact absurd rfl ha
    rw [hn, Bool.false_or, lastLk_eq]
    have hsec : ∀ g : Cg, g ≠ .add → g ≠ .pass → ∃ w, eCg (n.ck o) g = .tup [.str w, eImg] ∧ decide (w = "add") = false := fun g h1 h2 => by
      cases g
      · exact absurd rfl h2
      · exact absurd rfl h1
      · exact ⟨"pay", rfl, by decide +kernel⟩
      · exact ⟨"drop", rfl, by decide +kernel⟩
    obtain ⟨wd, hwd, hwn⟩ := hsec g ha hg
    have hfg := fix_cg (n.ck o) g
    rw [hwd] at wt hfe hfg ⊢
    generalize (lastP (st.bk o)).1 = k1 at hfe ⊢
    generalize hq : (lastP (st.bk o)).2 = q1 at hfe ⊢
    have hany : (q1 == .lk) = ((if q1 = .lk then [eLock (n.ck o)] else []).map fun _ => true).any id := by cases q1 <;> rfl
    cases hlk : (q1 == .lk) with
    | false =>
      rw [if_neg Bool.false_ne_true]
      refine hs_ifF (pb_w (pbw_or (pb_eqS (pd_ixT (pd_var 2) pd_int) pd_str hwn) (pbw_or1 (pb_val (pd_any (bs := (if q1 = .lk then [eLock (n.ck o)] else []).map fun _ => true) rfl B.any (PD.to (pd_lcN (i := 5) (ds := if q1 = .lk then [eLock (n.ck o)] else []) (keep := fun _ => true) (out := fun _ => .bl true) rfl sc_want.nd (PD.to (pd_ixT (pd_var 4) pd_int) (eLocks_if _ _)) (blkOk_by (N := ["self", "place", "change", "book", "last", "lock"]) (sc := defScope (mth 11)) (by decide +kernel)) (fun _ _ _ _ _ d hd => ptd_nil) (fun _ _ _ _ _ d hd _ => ?_) (fun d hd _ => rfl) (by split <;> exact zz rfl)) ?_)) |> fun h => PB.to h (by rw [← hany, hlk]))))) hs_out
      · have ed : d = eLock (n.ck o) := by
          split at hd
          · simpa using hd
          · cases hd
        subst ed
        exact pd_eq hr (pd_ixT (pd_var 5) pd_int) (pd_ixT (pd_var 2) pd_int) eqb_img shp_img shp_img
      · rw [List.filter_eq_self.mpr (fun _ _ => rfl), List.map_map]; rfl
    | true =>
      rw [if_pos rfl]
      refine hs_one (h_ifT (pb_w (pbw_or (pb_eqS (pd_ixT (pd_var 2) pd_int) pd_str hwn) (pbw_or1 (pb_val (pd_any (bs := (if q1 = .lk then [eLock (n.ck o)] else []).map fun _ => true) rfl B.any (PD.to (pd_lcN (i := 5) (ds := if q1 = .lk then [eLock (n.ck o)] else []) (keep := fun _ => true) (out := fun _ => .bl true) rfl sc_want.nd (PD.to (pd_ixT (pd_var 4) pd_int) (eLocks_if _ _)) (blkOk_by (N := ["self", "place", "change", "book", "last", "lock"]) (sc := defScope (mth 11)) (by decide +kernel)) (fun _ _ _ _ _ d hd => ptd_nil) (fun _ _ _ _ _ d hd _ => ?_) (fun d hd _ => rfl) (by split <;> exact zz rfl)) ?_)) |> fun h => PB.to h (by rw [← hany, hlk])))))
        (hs_capp (ixw n o) (pd_dget le_lk 9 hr (pd_wants LK le_lk (pd_var 0)) rfl (pd_var 1) (get_dmap (g := fun o => .ref (L.w o)) ok ho)) (at_w ho) (pd_var 2) hfg hlen (Sub.refl _) hfe (wt _ hfe)))
      · have ed : d = eLock (n.ck o) := by
          split at hd
          · simpa using hd
          · cases hd
        subst ed
        exact pd_eq hr (pd_ixT (pd_var 5) pd_int) (pd_ixT (pd_var 2) pd_int) eqb_img shp_img shp_img
      · rw [List.filter_eq_self.mpr (fun _ _ => rfl), List.map_map]; rfl
end
end Sd
namespace Sd
open PySem L2
section
variable {X : Cx} {F : Asr} {cs : Cs} {env : Ev} {tg iter : Expr} {ds : List D} {pos : Pos} {body : List Stmt}
theorem lk_trws {H : Hp} (h : LkP F cs H) : Tr H (Hws H cs) := fun a ys e => by
  rw [Hws_out]
  · exact e
  · intro z
    obtain ⟨i, c, hi⟩ := mem_fst z
    obtain ⟨o, ho, hno⟩ := (h.at_ i _ hi).ex
    rw [e] at ho; exact hno ys (Option.some.inj ho).symm
/-- for tg in a tuple, the cells changed meanwhile -/
theorem h_forTT {cc : Nat → Cs} {Ev Eb : Nat → List (Option D)} (hp : PassesOwn (model X.prog X.w) X.A X.env X.xe) (hc : X.calm = true) (hi : PD X (Lk F cs) env iter (.tup ds)) (hf : fixL ds = true) (c0 : cc 0 = cs) (e0 : Ev 0 = env)
    (hg : ∀ G j d, ds[j]? = some d → PG X tg (tG (Lk G (cc j)) d (Ev j) (Eb j))) (hb : ∀ G j d, ds[j]? = some d → HS X (Lk G (cc j)) (Eb j) body (oNC (Lk G (cc (j + 1))) (Ev (j + 1))))
    (hs : ∀ x, foldedSetIterable iter X.env x = pure x := by intro _; rfl) : H1 X (Lk F cs) env (.For tg iter body [] pos) (oNx (Lk F (cc ds.length)) (Ev ds.length)) := by
  refine (ps_for hp hc (pi_tup hi) (g := fun v σ H Q => ∃ t : Asr × Nat × D, (ds[t.2.1]? = some t.2.2) ∧ tG (Lk t.1 (cc t.2.1)) t.2.2 (Ev t.2.1) (Eb t.2.1) v σ H Q) (pg_exI fun (t : Asr × Nat × D) h => hg t.1 t.2.1 t.2.2 h)
    (tb := fun E' σ H => ∃ t : Asr × Nat × D, (ds[t.2.1]? = some t.2.2) ∧ tS (Lk t.1 (cc t.2.1)) (Eb t.2.1) (oNC (Lk t.1 (cc (t.2.1 + 1))) (Ev (t.2.1 + 1))) E' σ H) (pss_exI fun (t : Asr × Nat × D) h => hb t.1 t.2.1 t.2.2 h) hs).wk
    fun D σ H ⟨hI, hE, k⟩ => ⟨hI, hE, fun v H1 s1 r1 => ?_⟩
  obtain ⟨a, xs, ev, ha, hl⟩ := r1.tup_inv
  subst ev
  have hI1 := (Lk F cs).mono s1 hI
  have tw := lk_trws hI1
  have h00 : LkP (F.and (atT a xs ds)) cs H1 := ⟨⟨hI1.fr, tw _ _ ha, hl.tr tw hf⟩, hI1.nd, hI1.at_⟩
  have hlen := hl.length
  refine ⟨a, rfl, ⟨xs, SqT.of ha⟩, fun i m σ H => m = ds.length - i ∧ i ≤ ds.length ∧ LkP (F.and (atT a xs ds)) (cc i) H ∧ EnvR H σ (Ev i), ⟨ds.length, by simp, Nat.zero_le _, by rw [c0]; exact h00, by rw [e0]; exact hE.mono s1⟩, ?_⟩
  rintro i m σ H2 ⟨rfl, hil, hGi, hEi⟩
  have hx : H2 a = some (.tup xs) := Hws_le _ _ hGi.fr.2.1
  have rx : RepL H2 ds xs := hGi.fr.2.2.mono Hws_le
  by_cases hlt : i < ds.length
  · refine .inr ⟨⟨xs, xs[i], SqT.of hx, by simp [hlen, hlt]⟩, fun σ' H' => LkP (F.and (atT a xs ds)) (cc (i + 1)) H' ∧ EnvR H' σ' (Ev (i + 1)), fun σ' H' p' => ⟨ds.length - (i + 1), by omega, rfl, hlt, p'.1, p'.2⟩, fun u H' y => ?_⟩
    obtain ⟨eH, y⟩ := y
    subst eH
    obtain ⟨d, hd, rd⟩ := rx.rget (y xs (SqT.of hx))
    exact ⟨(F.and (atT a xs ds), i, d), hd, hGi, rd, hEi, fun σ' H' s' hE' => ⟨(F.and (atT a xs ds), i, d), hd, (Lk _ (cc i)).mono s' hGi, hE', fun σ H h1 h2 => ⟨h1, h2⟩, fun σ H h1 h2 => ⟨h1, h2⟩⟩⟩
  · have en : i = ds.length := by omega
    subst en
    exact .inl ⟨⟨xs, SqT.of hx, by omega⟩, k σ H2 (hGi.frm fun _ h => h.1) hEi⟩
end
theorem pair_fix {n : Pn} (ok : OkPn n) : n.ePair.fix = true := D.tk_fix (tk_pair ok).1
theorem wantA_pay (s : Lo) : wantA s true .pay = if lastLk s.bo then { s with wo := s.wo ++ [.pay] } else s := by
  unfold wantA
  rw [show ((Cg.pay == Cg.add) || lastLk (s.bk true)) = lastLk s.bo from rfl]
  rfl
section
variable {P : Program} {w : World} {K : PySem.W.Frag} {mg : Str → Option Value} {base : Heap} {C : Addr}
def settleC (n : Pn) (m : Int) (s : Lo) : Bool := s.bo.ph == .lk && decide (0 < s.nsec) && decide (m < (n.ck true).en) && (!s.pair || sureD n m s)
theorem sure_eq (n : Pn) (m : Int) (s : Lo) : (!s.pair || sureD n m s) = (!s.pair || n.cf.p == 0 || (s.bi.ph == .lk && (n.tm m).i.early)) := by
  have h1 : (!n.hI) = (n.cf.p == 0) := by
    show (!decide (0 < n.p)) = (n.p == 0)
    cases n.p <;> rfl
  have h2 : decide (s.bi.ph = .lk) = (s.bi.ph == .lk) := by cases s.bi.ph <;> rfl
  show (!s.pair || (!n.hI || (decide (s.bi.ph = .lk) && inTime n.t0 n.t1 m (n.ck false).en))) = (!s.pair || n.cf.p == 0 || (s.bi.ph == .lk && inTime n.t0 n.t1 m (n.ck false).en))
  rw [h1, h2, Bool.or_assoc]
theorem settle_eq (n : Pn) (m : Int) (s : Lo) : settleA n.cf (n.tm m) s = if settleC n m s then wantA s true .pay else s := by
  have e : settleA n.cf (n.tm m) s = if (s.bo.ph == .lk && decide (0 < s.nsec) && decide (m < (n.ck true).en) && (!s.pair || n.cf.p == 0 || (s.bi.ph == .lk && (n.tm m).i.early)) && lastLk s.bo) = true then { s with wo := s.wo ++ [.pay] } else s := rfl
  rw [e, ← sure_eq, wantA_pay]
  unfold settleC
  cases (s.bo.ph == .lk && decide (0 < s.nsec) && decide (m < (n.ck true).en) && (!s.pair || sureD n m s)) <;> cases lastLk s.bo <;> rfl
def settleO (n : Pn) (m : Int) (s : Lo) (o : Bool) : Lo := if o then settleA n.cf (n.tm m) s else s
def S_settle (C : Addr) (cs : Cs) (ds : List D) (cs' : Cs) : Prop := ∃ n L m s o, n.C = C ∧ OkPn n ∧ o ∈ n.pls ∧ OkWs s ∧ s.wo.length < 500 ∧ cs = cells none n L m s ∧ ds = [.ref L.a, .int (n.key o)] ∧ cs' = cells none n L m (settleO n m s o)
theorem sc_settle : FnScope ["self", "place", "lock", "pairs", "own"] ["self", "place"] (defScope (mth 20)) := ⟨rfl, rfl, rfl, by decide +kernel, rfl, by decide +kernel, by decide +kernel⟩
theorem ok_settle (B : Free mg) (LK : LookK K C) (M : MD K C "settle" "Look.settle" (mth 20) ["self", "place"]) (cs : Met P w K mg base 1 C "side" (spR (S_sideM C))) (ci : Met P w K mg base 4 C "is_sure" (spR (S_is_sure C))) (cw : Met P w K mg base 1 C "want" (spM (S_want C))) :
    Met P w K mg base 5 C "settle" (spM (S_settle C)) := by
  refine met_M M sc_settle (fun cs ds d h => by obtain ⟨_, _, _, _, _, _, _, _, _, _, _, rfl, _⟩ := h; rfl) ?_
  rintro f cdv A outer s H E hr _ _ _ ⟨n, L, m, st, o, rfl, ok, ho, hw, hwl, rfl, rfl, rfl⟩ F
  have el : eLocks (n.ck o) (st.bk o).ph = .tup (if (st.bk o).ph = .lk then [eLock (n.ck o)] else []) := eLocks_if _ _
  by_cases hlk : (st.bk o).ph = .lk
  · rw [if_pos hlk] at el
    refine hs_nx (h_forTT (ds := [eLock (n.ck o)]) (cc := fun j => cells none n L m (if j = 0 then st else settleO n m st o)) (Ev := fun _ => startE ["self", "place", "lock", "pairs", "own"] [.ref L.a, .int (n.key o)]) (Eb := fun _ => (startE ["self", "place", "lock", "pairs", "own"] [.ref L.a, .int (n.key o)]).set 2 (some (eLock (n.ck o)))) PassesOwn.never rfl
      (PD.to (pd_ixT (pd_ixT (pd_dget le_lk 1 hr (pd_books LK le_lk (pd_var 0)) rfl (pd_var 1) (get_dmap ok ho)) pd_int) pd_int) el) (by show ((eLock (n.ck o)).fix && true) = true; rw [fix_lock]; rfl) rfl rfl (fun G j d hd => ?_) (fun G j d hd => ?_)) hs_out
    · cases j with
      | zero => cases hd; exact pgd_name 2 sc_settle.nd
      | succ j => cases hd
    · cases j with
      | succ j => cases hd
      | zero =>
        cases hd
        show HS _ (Lk G (cells none n L m st)) _ _ (oNC (Lk G (cells none n L m (settleO n m st o))) _)
        let kp : Bool := decide ((n.key true : Int) = n.key o)
        refine hs_setLcL (iz := 3) (i := 4) (ds := one st.pair n.ePair) (keep := fun _ => kp) (out := fun d => d) rfl sc_settle.nd (pd_clst le_lk 4 (pd_pairs LK le_lk (pd_var 0)) rfl) (blkOk_by (N := ["self", "place", "lock", "pairs", "own"]) (sc := defScope (mth 20)) (by decide +kernel)) (fun _ _ _ _ _ d hd => ?_) (fun _ _ _ _ _ d hd _ => (pd_var 4)) (fun d hd _ => by rw [(mem_one hd).2]; exact pair_fix ok) (Nat.le_trans one_len (zz rfl)) ?_
        · rw [(mem_one hd).2]
          cases hk : kp with
          | true => exact ptd_one (pb_w (pbw_and (pb_eq hr (pd_ixT (pd_var 4) pd_int) (pd_var 1) (show D.eqb (.int (n.key true)) (.int (n.key o)) = true from hk)) (pbw_and1 (pb_eq hr (pd_ixT (pd_var 4) pd_int) (pd_ixT (pd_var 2) pd_int) eqb_img shp_img shp_img))))
          | false => exact ptd_one (pb_w (pbw_and0 (pb_eq hr (pd_ixT (pd_var 4) pd_int) (pd_var 1) (show D.eqb (.int (n.key true)) (.int (n.key o)) = false from hk))))
        · cases o with
          | false =>
            refine hs_ifF (pb_w (pbw_and0 (pb_eq hr (pd_ixT (pd_var 2) pd_int) (pd_mR le_lk cs hr (by decide) (pd_var 0) (pds_cons (pd_var 1) pds_nil) rfl rfl ⟨none, n, L, m, st, false, rfl, ok, ho, rfl, rfl, rfl⟩) (sideI_eq _ true false)))) (hs_end.wk (fun _ h => h) (fun _ h => (oNC_sub (.same (.same (.skip (.skip (.same .nil))))) h).1))
          | true =>
            have ekp : kp = true := decide_eq_true rfl
            rw [ekp, List.filter_eq_self.mpr (fun _ _ => rfl), List.map_id']
            have hlk' : st.bo.ph = .lk := hlk
            have hfin : settleO n m st true = if decide (0 < st.nsec) && decide (m < (n.ck true).en) && (!st.pair || sureD n m st) then wantA st true .pay else st := by
              show settleA n.cf (n.tm m) st = _
              rw [settle_eq]
              unfold settleC
              rw [hlk']
              rfl
            have hall : (!st.pair || sureD n m st) = ((one st.pair n.ePair).map fun _ => sureD n m st).all id := by cases st.pair <;> simp [one]
            cases hs1 : decide (0 < st.nsec) with
            | false =>
              rw [hfin, hs1]
              exact hs_ifF (pb_w (pbw_and (pb_eq hr (pd_ixT (pd_var 2) pd_int) (pd_mR le_lk cs hr (by decide) (pd_var 0) (pds_cons (pd_var 1) pds_nil) rfl rfl ⟨none, n, L, m, st, true, rfl, ok, ho, rfl, rfl, rfl⟩) (sideI_eq _ true true)) (pbw_and0 (pb_inL hr (pd_ixT (pd_ixT (pd_var 2) pd_int) pd_int) (pd_clst le_lk 2 (pd_secrets LK le_lk (pd_var 0)) rfl) (by rw [in_sec, hs1]) rfl (shp_sec _))))) (hs_end.wk (fun _ h => h) (fun _ h => (oNC_sub (.same (.same (.skip (.skip (.same .nil))))) h).1))
            | true =>
              cases hs2 : decide (m < (n.ck true).en) with
              | false =>
                rw [hfin, hs1, hs2]
                exact hs_ifF (pb_w (pbw_and (pb_eq hr (pd_ixT (pd_var 2) pd_int) (pd_mR le_lk cs hr (by decide) (pd_var 0) (pds_cons (pd_var 1) pds_nil) rfl rfl ⟨none, n, L, m, st, true, rfl, ok, ho, rfl, rfl, rfl⟩) (sideI_eq _ true true)) (pbw_and (pb_inL hr (pd_ixT (pd_ixT (pd_var 2) pd_int) pd_int) (pd_clst le_lk 2 (pd_secrets LK le_lk (pd_var 0)) rfl) (by rw [in_sec, hs1]) rfl (shp_sec _)) (pbw_and1 (pb_lt (pd_moment LK le_lk (pd_var 0)) (pd_ixT (pd_var 2) pd_int) hs2))))) (hs_end.wk (fun _ h => h) (fun _ h => (oNC_sub (.same (.same (.skip (.skip (.same .nil))))) h).1))
              | true =>
                rw [hfin, hs1, hs2]
                refine hs_one (h_ifT (pb_w (pbw_and (pb_eq hr (pd_ixT (pd_var 2) pd_int) (pd_mR le_lk cs hr (by decide) (pd_var 0) (pds_cons (pd_var 1) pds_nil) rfl rfl ⟨none, n, L, m, st, true, rfl, ok, ho, rfl, rfl, rfl⟩) (sideI_eq _ true true)) (pbw_and (pb_inL hr (pd_ixT (pd_ixT (pd_var 2) pd_int) pd_int) (pd_clst le_lk 2 (pd_secrets LK le_lk (pd_var 0)) rfl) (by rw [in_sec, hs1]) rfl (shp_sec _)) (pbw_and1 (pb_lt (pd_moment LK le_lk (pd_var 0)) (pd_ixT (pd_var 2) pd_int) hs2))))) ?_)
                cases hs3 : (!st.pair || sureD n m st) with
                | false =>
                  refine hs_ifF (pb_val (PD.to (pd_all (bs := (one st.pair n.ePair).map fun _ => sureD n m st) rfl B.all (PD.to (pd_lcNL (i := 4) (ds := one st.pair n.ePair) (keep := fun _ => true) (out := fun _ => .bl (sureD n m st)) rfl sc_settle.nd (pd_var 3) (blkOk_by (N := ["self", "place", "lock", "pairs", "own"]) (sc := defScope (mth 20)) (by decide +kernel)) (fun _ _ _ _ _ d hd => ptd_nil) (fun _ _ _ _ _ d hd _ => ?_) (fun d hd _ => rfl) (Nat.le_trans one_len (zz rfl))) ?_)) (congrArg D.bl (hall.symm.trans hs3)))) (hs_end.wk (fun _ h => h) (fun _ h => (oNC_sub (.same (.same (.skip (.skip (.same .nil))))) h).1))
                  · rw [(mem_one hd).2]
                    exact pd_mR le_lk ci hr (by decide) (pd_var 0) (pds_cons (pd_var 4) pds_nil) rfl rfl ⟨none, n, L, m, st, rfl, ok, rfl, rfl, rfl⟩
                  · rw [List.filter_eq_self.mpr (fun _ _ => rfl), List.map_map]; rfl
                | true =>
                  refine hs_one (h_ifT (pb_val (PD.to (pd_all (bs := (one st.pair n.ePair).map fun _ => sureD n m st) rfl B.all (PD.to (pd_lcNL (i := 4) (ds := one st.pair n.ePair) (keep := fun _ => true) (out := fun _ => .bl (sureD n m st)) rfl sc_settle.nd (pd_var 3) (blkOk_by (N := ["self", "place", "lock", "pairs", "own"]) (sc := defScope (mth 20)) (by decide +kernel)) (fun _ _ _ _ _ d hd => ptd_nil) (fun _ _ _ _ _ d hd _ => ?_) (fun d hd _ => rfl) (Nat.le_trans one_len (zz rfl))) ?_)) (congrArg D.bl (hall.symm.trans hs3)))) (hs_mM cw hr (by decide) (pd_var 0) (pds_cons (pd_var 1) (pds_cons (pd_tup (pds_cons pd_str (pds_cons (pd_ixT (pd_var 2) pd_int) pds_nil))) pds_nil)) rfl rfl ⟨n, L, m, st, true, .pay, rfl, ok, ho, hw, hwl, (fun h => by cases h), rfl, rfl, rfl⟩ (.same (.same (.skip (.skip (.same .nil))))) (fixE_of (.cons rfl (.cons rfl (.non (.non (.non .nil)))))) (hs_end.wk (fun _ h => h) (fun _ h => h.1))))
                  · rw [(mem_one hd).2]
                    exact pd_mR le_lk ci hr (by decide) (pd_var 0) (pds_cons (pd_var 4) pds_nil) rfl rfl ⟨none, n, L, m, st, rfl, ok, rfl, rfl, rfl⟩
                  · rw [List.filter_eq_self.mpr (fun _ _ => rfl), List.map_map]; rfl
  · rw [if_neg hlk] at el
    have e : settleO n m st o = st := by
      cases o with
      | false => rfl
      | true =>
        show settleA n.cf (n.tm m) st = st
        rw [settle_eq]
        have : settleC n m st = false := by
          unfold settleC
          have h : (st.bo.ph == .lk) = false := by
            have hlk' : ¬ st.bo.ph = .lk := hlk
            cases hq : st.bo.ph <;> first | rfl | exact absurd hq hlk'
          rw [h]; rfl
        rw [this]; rfl
    rw [e]
    exact hs_nx (h_forT0 PassesOwn.never rfl (PD.to (pd_ixT (pd_ixT (pd_dget le_lk 1 hr (pd_books LK le_lk (pd_var 0)) rfl (pd_var 1) (get_dmap ok ho)) pd_int) pd_int) el)) hs_out
end
end Sd
namespace Sd
open PySem L2
section
variable {P : Program} {w : World} {K : PySem.W.Frag} {mg : Str → Option Value} {base : Heap} {C : Addr}
/-! ### send_on -/
def sendO (n : Pn) (m : Int) (s : Lo) (o : Bool) : Lo := if o then sendA n.cf (n.tm m) s else s
def S_send (C : Addr) (cs : Cs) (ds : List D) (cs' : Cs) : Prop := ∃ n L m s o, n.C = C ∧ OkPn n ∧ o ∈ n.pls ∧ OkWs s ∧ s.out.length < 500 ∧ (s.pair = true → n.hO = true) ∧ cs = cells none n L m s ∧ ds = [.ref L.a, .int (n.key o)] ∧ cs' = cells none n L m (sendO n m s o)
theorem sc_send : FnScope ["self", "place", "_", "image", "far", "route", "ends"] ["self", "place"] (defScope (mth 22)) := ⟨rfl, rfl, rfl, by decide +kernel, rfl, by decide +kernel, by decide +kernel⟩
theorem ok_send (LK : LookK K C) (M : MD K C "send_on" "Look.send_on" (mth 22) ["self", "place"]) (cg : Met P w K mg base 13 C "may_go" (spR (S_may_go C))) (co : Met P w K mg base 3 C "other" (spR (S_other C))) :
    Met P w K mg base 14 C "send_on" (spM (S_send C)) := by
  refine met_M M sc_send (fun cs ds d h => by obtain ⟨_, _, _, _, _, _, _, _, _, _, _, _, rfl, _⟩ := h; rfl) ?_
  rintro f cdv A outer s H E hr _ _ _ ⟨n, L, m, st, o, rfl, ok, ho, hw, hol, hpO, rfl, rfl, rfl⟩ F
  cases hp : st.pair with
  | false =>
    have e : sendO n m st o = st := by
      cases o with
      | false => rfl
      | true =>
        show sendA n.cf (n.tm m) st = st
        unfold sendA
        rw [hp]
        rfl
    rw [e]
    have h0 : ∀ H, (Lk F (cells none n L m st)).p H → ∃ xs, H L.lp = some (.lst xs) ∧ RepL H [] xs := fun H h => by
      have h1 := has_at (F := F) (cs := cells none n L m st) (i := 4) (q := L.lp) (ds := one st.pair n.ePair) rfl H h
      rw [hp] at h1
      exact h1
    exact hs_nx (h_forC (q := L.lp) (ds := []) (G := fun _ => Lk F (cells none n L m st)) (Ev := fun _ => startE ["self", "place", "_", "image", "far", "route", "ends"] [.ref L.a, .int (n.key o)]) (Eb := fun _ => startE ["self", "place", "_", "image", "far", "route", "ends"] [.ref L.a, .int (n.key o)]) PassesOwn.never rfl (pd_pairs LK le_lk (pd_var 0)) (fun _ h => h) rfl (fun j _ => h0) (fun j d h => by cases h) (fun j d h => by cases h)) hs_out
  | true =>
    have hO := hpO hp
    have hot : true ∈ n.pls := pls_of (.inr ⟨rfl, hO⟩)
    have hfr : fixL (rtD n.cs (n.p + 1)) = true := by
      have h := tk_rt (k := n.p + 1) ok.net.1
      have := D.tk_fix h.1
      exact this
    have hfe : fixL (enD n.cs (n.p + 1)) = true := by
      have h := tk_en (k := n.p + 1) ok.net.1
      have := D.tk_fix h.1
      exact this
    have hpr : n.ePair = .tup [n.near, eImg, .int (n.key true), .tup (rtD n.cs (n.p + 1)), .tup (enD n.cs (n.p + 1))] := rfl
    have hfn : n.near.fix = true := D.tk_fix (tk_near n).1
    let E0 : Ev := startE ["self", "place", "_", "image", "far", "route", "ends"] [.ref L.a, .int (n.key o)]
    let E1 : Ev := ((((E0.set 2 (some n.near)).set 3 (some eImg)).set 4 (some (.int (n.key true)))).set 5 (some (.tup (rtD n.cs (n.p + 1))))).set 6 (some (.tup (enD n.cs (n.p + 1))))
    have hsub : Sub E0 E1 := .same (.same (.skip (.skip (.skip (.skip (.skip .nil))))))
    have hE1 : fixE E1 = true := fixE_of (.cons rfl (.cons rfl (.cons hfn (.cons (D.tk_fix tk_img.1) (.cons rfl (.cons hfr (.cons hfe .nil)))))))
    have spair : ∀ s', (s' = st ∨ s' = sendO n m st o) → s'.pair = true := fun s' h => by
      rcases h with rfl | rfl
      · exact hp
      · cases o with
        | false => exact hp
        | true =>
          show (sendA n.cf (n.tm m) st).pair = true
          unfold sendA
          split <;> exact hp
    have hhas : ∀ (s' : Lo), (s' = st ∨ s' = sendO n m st o) → ∀ H, (Lk F (cells none n L m s')).p H → ∃ xs, H L.lp = some (.lst xs) ∧ RepL H [n.ePair] xs := fun s' h' H h => by
      have h1 := has_at (F := F) (cs := cells none n L m s') (i := 4) (q := L.lp) (ds := one s'.pair n.ePair) rfl H h
      rw [spair s' h'] at h1
      exact h1
    refine hs_nx (h_forC (q := L.lp) (ds := [n.ePair]) (G := fun j => Lk F (cells none n L m (if j = 0 then st else sendO n m st o))) (Ev := fun _ => E0) (Eb := fun _ => E1) PassesOwn.never rfl (pd_pairs LK le_lk (pd_var 0)) (fun _ h => h) rfl (fun j _ => ?_) (fun j d h => ?_) (fun j d h => ?_)) hs_out
    · intro H h
      by_cases hj : j = 0
      · rw [if_pos hj] at h; exact hhas _ (.inl rfl) H h
      · rw [if_neg hj] at h; exact hhas _ (.inr rfl) H h
    · cases j with
      | succ j => cases h
      | zero =>
        cases h
        rw [hpr]
        exact pgd_tup rfl (pgsd_cons (pgd_name 2 sc_send.nd) (pgsd_cons (pgd_name 3 sc_send.nd) (pgsd_cons (pgd_name 4 sc_send.nd) (pgsd_cons (pgd_name 5 sc_send.nd) (pgsd_cons (pgd_name 6 sc_send.nd) pgsd_nil)))))
    · cases j with
      | succ j => cases h
      | zero =>
        cases h
        show HS _ (Lk F (cells none n L m st)) E1 _ (oNC (Lk F (cells none n L m (sendO n m st o))) E0)
        cases o with
        | false =>
          have hI : n.hI = true := by
            rcases mem_pls ho with ⟨_, h⟩ | ⟨h, _⟩
            · exact h
            · cases h
          have hne : D.eqb (.int (n.key true)) (.int (n.key false)) = false := decide_eq_false (by have := key_ne ok hI hO; omega)
          exact hs_ifF (pb_w (pbw_and0 (pb_eq hr (pd_var 4) (pd_var 1) hne))) (hs_end.wk (fun _ h => h) (fun _ h => (oNC_sub hsub h).1))
        | true =>
          have hsd : sendO n m st true = if decide (n.p + 1 < n.cs.length) && boundD n m st then { st with out := st.out ++ [(true, .pass)] } else st := by
            show sendA n.cf (n.tm m) st = _
            unfold sendA
            rw [hp, bound_eq]
            rfl
          have hmg : boundD n m st = mayGoA n m st true := by unfold boundD; rw [hO]; rfl
          have srt : D.shp (.tup (rtD n.cs (n.p + 1))) = true := shp_tk (tk_rt ok.net.1) (lay_ints _ _)
          have hrt : (!D.eqb (.tup (rtD n.cs (n.p + 1))) (.tup [])) = decide (n.p + 1 < n.cs.length) := by
            by_cases hl : n.p + 1 < n.cs.length
            · rw [decide_eq_true hl]
              unfold rtD
              rw [List.drop_eq_getElem_cons hl]
              rfl
            · rw [decide_eq_false hl]
              unfold rtD
              rw [List.drop_eq_nil_of_le (by omega)]
              rfl
          have hcond : ∀ q, (decide (n.p + 1 < n.cs.length) && boundD n m st) = q → True := fun _ _ => trivial
          cases h1 : decide (n.p + 1 < n.cs.length) with
          | false =>
            rw [hsd, h1]
            exact hs_ifF (pb_w (pbw_and (pb_eq hr (pd_var 4) (pd_var 1) (eqb_int _)) (pbw_and0 (pb_ne hr (pd_var 5) (pd_tup pds_nil) (hrt.trans h1) srt rfl)))) (hs_end.wk (fun _ h => h) (fun _ h => (oNC_sub hsub h).1))
          | true =>
            cases h2 : mayGoA n m st true with
            | false =>
              rw [hsd, h1, hmg, h2]
              exact hs_ifF (pb_w (pbw_and (pb_eq hr (pd_var 4) (pd_var 1) (eqb_int _)) (pbw_and (pb_ne hr (pd_var 5) (pd_tup pds_nil) (hrt.trans h1) srt rfl) (pbw_and1 (pb_val (pd_mR le_lk cg hr (by decide) (pd_var 0) (pds_cons (pd_var 1) (pds_cons (pd_var 3) pds_nil)) rfl rfl ⟨none, n, L, m, st, true, rfl, ok, ho, hw.2, rfl, rfl, congrArg D.bl h2.symm⟩)))))) (hs_end.wk (fun _ h => h) (fun _ h => (oNC_sub hsub h).1))
            | true =>
              rw [hsd, h1, hmg, h2]
              have hkt : n.key true = n.p := (ck_in ok hot).2
              have hsent : D.tup [.int (n.oth true), .tup [.str "pass", .int (n.key true), eImg, .tup (rtD n.cs (n.p + 1)), .tup (enD n.cs (n.p + 1))]] = eSent n (true, .pass) := by
                unfold eSent eLt
                simp only [hkt]
              refine hs_one (h_ifT (pb_w (pbw_and (pb_eq hr (pd_var 4) (pd_var 1) (eqb_int _)) (pbw_and (pb_ne hr (pd_var 5) (pd_tup pds_nil) (hrt.trans h1) srt rfl) (pbw_and1 (pb_val (pd_mR le_lk cg hr (by decide) (pd_var 0) (pds_cons (pd_var 1) (pds_cons (pd_var 3) pds_nil)) rfl rfl ⟨none, n, L, m, st, true, rfl, ok, ho, hw.2, rfl, rfl, congrArg D.bl h2.symm⟩)))))) ?_)
              refine hs_capp 8 (d := eSent n (true, .pass)) (pd_letters LK le_lk (pd_var 0)) rfl (PD.to (pd_tup (pds_cons (pd_mR le_lk co hr (by decide) (pd_var 0) (pds_cons (pd_var 1) pds_nil) rfl rfl ⟨none, n, L, m, st, true, rfl, ok, ho, rfl, rfl, rfl⟩) (pds_one (pd_tup (pds_cons pd_str (pds_cons (pd_var 1) (pds_cons (pd_var 3) (pds_cons (pd_var 5) (pds_cons (pd_var 6) pds_nil))))))))) hsent) (by have := fixL_sent ok [((true, .pass) : Bool × Lt)]; exact (Bool.and_eq_true_iff.mp this).1) (by rw [List.length_map]; omega) (Sub.refl _) hE1 (hs_end.wk (fun H h => ?_) (fun _ h => (oNC_sub hsub h).1))
              have e : st.out.map (eSent n) ++ [eSent n (true, .pass)] = (st.out ++ [((true, .pass) : Bool × Lt)]).map (eSent n) := by rw [List.map_append]; rfl
              rw [e] at h
              exact h
end
end Sd
namespace Sd
open PySem L2
theorem eAn_fix (a : An) : (eAn a).fix = true := by cases a <;> rfl
theorem keep_fix (a b : Bool) : (eKeep a b).fix = true := D.tk_fix (tk_keep a b).1
theorem out_fix {n : Pn} (ok : OkPn n) (b : Bool) : (if b then D.tup [.int (n.key true), eLock (n.ck true), .tup (rtD n.cs (n.p + 1)), .tup (enD n.cs (n.p + 1))] else .non).fix = true := by
  cases b
  · rfl
  · have h1 := D.tk_fix (tk_rt (k := n.p + 1) ok.net.1).1
    have h2 := D.tk_fix (tk_en (k := n.p + 1) ok.net.1).1
    show (true && ((eLock (n.ck true)).fix && ((D.tup (rtD n.cs (n.p + 1))).fix && ((D.tup (enD n.cs (n.p + 1))).fix && true)))) = true
    rw [fix_lock, h1, h2]; rfl
def okTreat (n : Pn) (s : Lo) : Prop := OkWs s ∧ OkW s.wi ∧ OkW s.wo ∧ s.nsec < 500 ∧ s.out.length < 500 ∧ s.passing = false ∧ (s.onw = true → s.pair = false → n.hO = true ∧ okLets s.bo s.wo = true)
def onwA (n : Pn) (s : Lo) : Bool := !s.pair && (s.onw && letsA (n.ck true).fit s.bo s.wo)
def ansA (n : Pn) (m : Int) (s : Lo) : An := answerA (inTime n.t0 n.t1 m (n.ck false).en) (decide ((n.ck false).en < m)) (knowsD n s false) (boundD n m s) (onwA n s && decide (lookAt n.t1 (n.ck true).en + n.t0 ≤ (n.ck false).en + 0))
theorem treat_eq (n : Pn) (m : Int) (s : Lo) (h : s.bi.ph = .lk) : treatA n.cf (n.tm m) s = match ansA n m s with
    | .secret => { s with nsec := s.nsec + 1, out := s.out ++ [(false, .secret)] }
    | .pass => { s with wo := s.wo ++ [.add], passing := true }
    | .drop => wantA s false .drop
    | .wait => if s.pair then wantA s false .drop else s
    | _ => s := by
  have e1 : wantA s false .drop = if lastLk s.bi then { s with wi := s.wi ++ [.drop] } else s := by
    unfold wantA
    rw [show ((Cg.drop == Cg.add) || lastLk (s.bk false)) = lastLk s.bi from rfl]
    rfl
  have e2 : ansA n m s = answerA (n.tm m).i.early (n.tm m).i.late (knowsA n.cf s) (openOut n.cf (n.tm m) s) (!s.pair && s.onw && letsA n.cf.to s.bo s.wo && n.cf.gap) := by
    have hb : (onwA n s && decide (lookAt n.t1 (n.ck true).en + n.t0 ≤ (n.ck false).en + 0)) = (!s.pair && s.onw && letsA n.cf.to s.bo s.wo && n.cf.gap) := by
      unfold onwA
      rw [← Bool.and_assoc]
      rfl
    unfold ansA
    rw [hb, bound_eq, knows_eq]
    rfl
  unfold treatA
  rw [if_pos (by rw [h]; rfl), e1]
  show (match answerA (n.tm m).i.early (n.tm m).i.late (knowsA n.cf s) (openOut n.cf (n.tm m) s) (!s.pair && s.onw && letsA n.cf.to s.bo s.wo && n.cf.gap) with | .secret => _ | .pass => _ | .drop => _ | .wait => _ | _ => _) = _
  rw [← e2]
  cases ansA n m s <;> first
    | rfl
    | (cases s.pair <;> cases lastLk s.bi <;> rfl)
section
variable {P : Program} {w : World} {K : PySem.W.Frag} {mg : Str → Option Value} {base : Heap} {C : Addr}
def S_treat (C : Addr) (cs : Cs) (ds : List D) (cs' : Cs) : Prop := ∃ n L m s, n.C = C ∧ OkPn n ∧ n.hI = true ∧ s.bi.ph = .lk ∧ okTreat n s ∧ cs = cells none n L m s ∧ ds = [.ref L.a, .int (n.key false), eLock (n.ck false)] ∧ cs' = cells none n L m (treatA n.cf (n.tm m) s)
theorem sc_treat : FnScope ["self", "place", "lock", "pair", "bound", "out", "keep", "told"] ["self", "place", "lock"] (defScope (mth 18)) := ⟨rfl, rfl, rfl, by decide +kernel, rfl, by decide +kernel, by decide +kernel⟩
theorem pd_keep {X : Cx} {I : Asr} {env : Ev} {e1 e2 : Expr} {x1 : Nat} {pos : Pos} {a b : Bool} (h1 : PD X I env e1 (.tup (if a then [.int 7] else []))) (h2 : PD X I env e2 (.tup (if b then [eImg] else []))) (hs : starEach (e1 :: [e2]) X.env = (false, eval e1 X.env) :: starEach [e2] X.env := by rfl) (hs2 : starEach (e2 :: []) X.env = (false, eval e2 X.env) :: starEach [] X.env := by rfl) : PD X I env (.Tuple [e1, e2] x1 pos) (eKeep a b) := pd_tup (pds_cons h1 (pds_cons h2 pds_nil hs2) hs)
theorem ok_treat (LK : LookK K C) (M : MD K C "treat" "Look.treat" (mth 18) ["self", "place", "lock"]) (cp : Met P w K mg base 1 C "pair_of" (spR (S_pair_of C))) (cb : Met P w K mg base 14 C "is_bound" (spR (S_is_bound C))) (cu : Met P w K mg base 14 C "out_of" (spR (S_out_of C))) (ck : Met P w K mg base 2 C "knows" (spR (S_knows C)))
    (ca : Cal P w K mg base CX0 13 "answer" (spD S_answer)) (co : Met P w K mg base 3 C "other" (spR (S_other C))) (cw : Met P w K mg base 1 C "want" (spM (S_want C))) : Met P w K mg base 15 C "treat" (spM (S_treat C)) := by
  refine met_M M sc_treat (fun cs ds d h => by obtain ⟨_, _, _, _, _, _, _, _, _, _, rfl, _⟩ := h; rfl) ?_
  rintro f cdv A outer s H E hr _ _ _ ⟨n, L, m, st, rfl, ok, hI, hlk, ⟨hw, hwi, hwo, hns, hol, hpas, hon⟩, rfl, rfl, rfl⟩ F
  have hi : false ∈ n.pls := pls_of (.inl ⟨rfl, hI⟩)
  have hout : onwA n st = true → n.hO = true := fun h => by
    unfold onwA at h
    rw [Bool.and_eq_true, Bool.and_eq_true] at h
    exact (hon h.2.1 (by have := h.1; revert this; cases st.pair <;> simp)).1
  have haa : onwA n st = true → (n.ck false).a = (n.ck true).a := fun h => by rw [ck_a ok hi, ck_a ok (pls_of (.inr ⟨rfl, hout h⟩))]
  have hpf : (if st.pair then n.ePair else .non).fix = true := by
    cases st.pair
    · rfl
    · exact pair_fix ok
  refine hs_par 3 4 rfl sc_treat.nd (by decide) (pds_cons (pd_mR le_lk cp hr (by decide) (pd_var 0) (pds_cons (pd_var 1) (pds_cons (pd_ixT (pd_var 2) pd_int) pds_nil)) rfl rfl ⟨none, n, L, m, st, rfl, ok, hI, rfl, rfl, rfl⟩) (pds_one (pd_mR le_lk cb hr (by decide) (pd_var 0) (pds_cons (pd_ixT (pd_var 2) pd_int) pds_nil) rfl rfl ⟨n, L, m, st, rfl, ok, hw, rfl, rfl, rfl⟩))) ?_
  refine hs_set (d := if onwA n st then .tup [.int (n.key true), eLock (n.ck true), .tup (rtD n.cs (n.p + 1)), .tup (enD n.cs (n.p + 1))] else .non) 5 sc_treat.nd ?_ ?_
  · unfold onwA
    cases hp : st.pair with
    | true => exact pd_ifF (pb_isN (pd_var 3) rfl) pd_non
    | false => exact pd_ifT (pb_isN (pd_var 3) rfl) (pd_mR le_lk cu hr (by decide) (pd_var 0) (pds_cons (pd_var 1) (pds_cons (pd_var 2) pds_nil)) rfl rfl ⟨n, L, m, st, rfl, ok, hI, fun h => ⟨(hon h hp).1, hw, hwo, (hon h hp).2⟩, rfl, rfl, rfl⟩)
  refine hs_set (d := eKeep (knowsD n st false) (boundD n m st)) 6 sc_treat.nd (pd_keep ?_ ?_) ?_
  · have hk : ∀ q, knowsD n st false = q → D.bl (knowsD n st false) = .bl q := fun q h => by rw [h]
    cases hkn : knowsD n st false with
    | true => exact pd_ifT (pb_val (PD.to (pd_mR le_lk ck hr (by decide) (pd_var 0) (pds_cons (pd_var 2) pds_nil) rfl rfl ⟨none, n, L, m, st, false, rfl, ok, hi, rfl, rfl, rfl⟩) (hk _ hkn))) (pd_tup (pds_cons (pd_ixT (pd_ixT (pd_var 2) pd_int) pd_int) pds_nil))
    | false => exact pd_ifF (pb_val (PD.to (pd_mR le_lk ck hr (by decide) (pd_var 0) (pds_cons (pd_var 2) pds_nil) rfl rfl ⟨none, n, L, m, st, false, rfl, ok, hi, rfl, rfl, rfl⟩) (hk _ hkn))) (pd_tup pds_nil)
  · cases hb : boundD n m st with
    | true => exact pd_ifT (pb_val (pd_var 4)) (pd_tup (pds_cons (pd_ixT (pd_var 2) pd_int) pds_nil))
    | false => exact pd_ifF (pb_val (pd_var 4)) (pd_tup pds_nil)
  refine hs_set (d := eAn (ansA n m st)) 7 sc_treat.nd (pd_call ca pass0 hr (by decide) (pds_cons (pd_times LK le_lk (pd_var 0)) (pds_cons (pd_moment LK le_lk (pd_var 0)) (pds_cons (pd_ixT (pd_cares LK le_lk (pd_var 0)) pd_int) (pds_cons (pd_var 6) (pds_cons (pd_var 2) (pds_one ?_)))))) ⟨_, _, _, _, _, n.ck false, n.ck true, knowsD n st false, boundD n m st, onwA n st, rfl, ok.t1, haa, rfl⟩) ?_
  · cases honw : onwA n st with
    | true => exact pd_ifF (pb_isN (pd_var 5) rfl) (pd_ixT (pd_var 5) pd_int)
    | false => exact pd_ifT (pb_isN (pd_var 5) rfl) pd_non
  rw [treat_eq n m st hlk]
  have hfe : FixL [some (.ref L.a), some (.int (n.key false)), some (eLock (n.ck false)), some (if st.pair then n.ePair else .non), some (.bl (boundD n m st)), some (if onwA n st then .tup [.int (n.key true), eLock (n.ck true), .tup (rtD n.cs (n.p + 1)), .tup (enD n.cs (n.p + 1))] else .non), some (eKeep (knowsD n st false) (boundD n m st)), some (eAn (ansA n m st))] :=
    .cons rfl (.cons rfl (.cons (fix_lock _) (.cons hpf (.cons rfl (.cons (out_fix ok _) (.cons (keep_fix _ _) (.cons (eAn_fix _) .nil)))))))
  cases hans : ansA n m st with
  | secret =>
    rw [hans] at hfe
    refine hs_one (h_ifT (pb_eqS (pd_var 7) pd_str) (hs_capp 2 (pd_secrets LK le_lk (pd_var 0)) rfl (pd_ixT (pd_ixT (pd_var 2) pd_int) pd_int) rfl (by rw [List.length_replicate]; omega) (Sub.refl _) (fixE_of hfe) ?_))
    have e : List.replicate st.nsec (D.int 7) ++ [.int 7] = List.replicate (st.nsec + 1) (.int 7) := by rw [List.replicate_succ']
    show HS _ (Lk F ((cells none n L m st).set 2 (L.ls, .lst (List.replicate st.nsec (D.int 7) ++ [.int 7])))) _ _ _
    rw [e]
    show HS _ (Lk F (cells none n L m { st with nsec := st.nsec + 1 })) _ _ _
    refine hs_capp 8 (d := eSent n (false, .secret)) (pd_letters LK le_lk (pd_var 0)) rfl (pd_tup (pds_cons (pd_mR le_lk co hr (by decide) (pd_var 0) (pds_cons (pd_var 1) pds_nil) rfl rfl ⟨none, n, L, m, { st with nsec := st.nsec + 1 }, false, rfl, ok, hi, rfl, rfl, rfl⟩) (pds_one (pd_tup (pds_cons pd_str (pds_cons (pd_var 1) (pds_cons (pd_ixT (pd_ixT (pd_var 2) pd_int) pd_int) pds_nil))))))) rfl (by rw [List.length_map]; show st.out.length < 1000; omega) (Sub.refl _) (fixE_of hfe) (hs_out.wk (fun H h => ?_) (fun _ h => h))
    have e2 : st.out.map (eSent n) ++ [eSent n (false, .secret)] = (st.out ++ [((false, .secret) : Bool × Lt)]).map (eSent n) := by rw [List.map_append]; rfl
    rw [e2] at h
    exact h
  | pass =>
    rw [hans] at hfe
    have hon2 : onwA n st = true := by
      unfold ansA answerA at hans
      cases hq : onwA n st with
      | true => rfl
      | false =>
        rw [hq, Bool.false_and] at hans
        revert hans
        cases decide ((n.ck false).en < m) <;> cases knowsD n st false <;> cases boundD n m st <;> cases inTime n.t0 n.t1 m (n.ck false).en <;> intro h <;> cases h
    have hO := hout hon2
    have ho : true ∈ n.pls := pls_of (.inr ⟨rfl, hO⟩)
    rw [hon2] at hfe ⊢
    refine hs_one (h_ifF (pb_eqS (pd_var 7) pd_str) (hs_one (h_ifT (pb_eqS (pd_var 7) pd_str) (hs_mM cw hr (by decide) (pd_var 0) (pds_cons (pd_ixT (pd_var 5) pd_int) (pds_cons (pd_tup (pds_cons pd_str (pds_cons (pd_ixT (pd_var 5) pd_int) pds_nil))) pds_nil)) rfl rfl ⟨n, L, m, st, true, .add, rfl, ok, ho, hw, Nat.lt_of_le_of_lt hwo (by decide), (fun h => by cases h), rfl, rfl, rfl⟩ (Sub.refl _) (fixE_of hfe) ?_))))
    show HS _ (Lk F (cells none n L m { st with wo := st.wo ++ [.add] })) _ _ _
    have hnear : n.near = .int (n.key false) := by unfold Pn.near; rw [hI]; rfl
    refine hs_capp 10 (d := n.ePair) (pd_passing LK le_lk (pd_var 0)) rfl (PD.to (pd_tup (pds_cons (pd_var 1) (pds_cons (pd_ixT (pd_var 2) pd_int) (pds_cons (pd_ixT (pd_var 5) pd_int) (pds_cons (pd_ixT (pd_var 5) pd_int) (pds_cons (pd_ixT (pd_var 5) pd_int) pds_nil)))))) (by unfold Pn.ePair; rw [hnear])) (pair_fix ok) (by rw [show ({ st with wo := st.wo ++ [.add] } : Lo).passing = false from hpas]; exact Nat.lt_of_le_of_lt one_len (by decide)) (Sub.refl _) (fixE_of hfe) (hs_out.wk (fun H h => ?_) (fun _ h => h))
    rw [show ({ st with wo := st.wo ++ [.add] } : Lo).passing = false from hpas] at h
    exact h
  | drop =>
    rw [hans] at hfe
    exact hs_one (h_ifF (pb_eqS (pd_var 7) pd_str) (hs_one (h_ifF (pb_eqS (pd_var 7) pd_str) (hs_one (h_ifT (pb_w (pbw_or0 (pb_eqS (pd_var 7) pd_str))) (hs_mM cw hr (by decide) (pd_var 0) (pds_cons (pd_var 1) (pds_cons (pd_tup (pds_cons pd_str (pds_cons (pd_ixT (pd_var 2) pd_int) pds_nil))) pds_nil)) rfl rfl ⟨n, L, m, st, false, .drop, rfl, ok, hi, hw, Nat.lt_of_le_of_lt hwi (by decide), (fun h => by cases h), rfl, rfl, rfl⟩ (Sub.refl _) (fixE_of hfe) hs_out))))))
  | wait =>
    rw [hans] at hfe
    cases hp : st.pair with
    | true =>
      rw [hp] at hfe
      exact hs_one (h_ifF (pb_eqS (pd_var 7) pd_str) (hs_one (h_ifF (pb_eqS (pd_var 7) pd_str) (hs_one (h_ifT (pb_w (pbw_or (pb_eqS (pd_var 7) pd_str) (pbw_or1 (pb_w (pbw_and (pb_eqS (pd_var 7) pd_str) (pbw_and1 (pb_notN (pd_var 3) rfl))))))) (hs_mM cw hr (by decide) (pd_var 0) (pds_cons (pd_var 1) (pds_cons (pd_tup (pds_cons pd_str (pds_cons (pd_ixT (pd_var 2) pd_int) pds_nil))) pds_nil)) rfl rfl ⟨n, L, m, st, false, .drop, rfl, ok, hi, hw, Nat.lt_of_le_of_lt hwi (by decide), (fun h => by cases h), rfl, rfl, rfl⟩ (Sub.refl _) (fixE_of hfe) hs_out))))))
    | false => exact hs_one (h_ifF (pb_eqS (pd_var 7) pd_str) (hs_one (h_ifF (pb_eqS (pd_var 7) pd_str) (hs_ifF (pb_w (pbw_or (pb_eqS (pd_var 7) pd_str) (pbw_or1 (pb_w (pbw_and (pb_eqS (pd_var 7) pd_str) (pbw_and1 (pb_notN (pd_var 3) rfl))))))) hs_out))))
  | _ => exact hs_one (h_ifF (pb_eqS (pd_var 7) pd_str) (hs_one (h_ifF (pb_eqS (pd_var 7) pd_str) (hs_ifF (pb_w (pbw_or (pb_eqS (pd_var 7) pd_str) (pbw_or1 (pb_w (pbw_and0 (pb_eqS (pd_var 7) pd_str)))))) hs_out))))
end
end Sd
namespace Sd
open PySem L2
/-! ### cells whose lists may be replaced by new ones -/
def LkE (F : Asr) (n : Pn) (m : Int) (s : Lo) (a : Addr) : Asr := ⟨fun H => ∃ L : Lc, L.a = a ∧ LkP F (cells none n L m s) H, fun t ⟨L, e, h⟩ => ⟨L, e, (Lk F _).mono t h⟩⟩
theorem LkE.of {F : Asr} {n : Pn} {m : Int} {s : Lo} {L : Lc} {a : Addr} (e : L.a = a) {H : Hp} (h : LkP F (cells none n L m s) H) : (LkE F n m s a).p H := ⟨L, e, h⟩
def spE (S : Pn → Int → Lo → List D → Lo → Prop) : Sp := fun vs H Q _ => ∃ F n m s L ds s', LkP F (cells none n L m s) H ∧ RepL H ds vs ∧ S n m s ds s' ∧ ds.head? = some (.ref L.a) ∧ ∀ H', (LkE F n m s' L.a).p H' → Tr H H' → Q .non H'
section
variable {P : Program} {w : World} {K : PySem.W.Frag} {mg : Str → Option Value} {base : Heap} {C : Addr} {m : Str} {qual : Str} {st : Stmt} {N ps : List Str} {k : Nat}
theorem met_E {S : Pn → Int → Lo → List D → Lo → Prop} (M : MD K C m qual st ps) (sc : FnScope N ps (defScope st)) (len : ∀ n m s ds s', S n m s ds s' → ds.length = ps.length)
    (body : ∀ (f : Addr) (cdv : Value) (A : Around) (outer : List Env) (s : Shared) (H : Hp) (E : XK), Room k (bx P w K mg base N qual st f cdv A outer s H E).A → ∀ n m s0 L ds s', S n m s0 ds s' → ds.head? = some (.ref L.a) → ∀ F, HS (bx P w K mg base N qual st f cdv A outer s H E) (Lk F (cells none n L m s0)) (startE N ds) (defBody st) (oEnd (LkE F n m s' L.a))) :
    Met P w K mg base (k + 1) C m (spE S) := by
  obtain ⟨f, fd, c, me, F, b⟩ := M.ex
  refine ⟨f, fd, ps, c, me, F.ok sc (fun vs H Q E h => ?_) (fun cdv A outer s H vs Q E hr h => ?_), b⟩
  · obtain ⟨F, n, m, s, L, ds, s', _, r, hS, _⟩ := h
    rw [r.length]; exact len n m s ds s' hS
  · obtain ⟨F, n, m, s0, L, ds, s', hL, r, hS, hh, q⟩ := h
    have fin : ∀ H', (LkE (F.and (trs H)) n m s' L.a).p H' → Q .non H' := fun H' ⟨L', e, h⟩ => q H' ⟨L', e, h.frm fun _ z => z.1⟩ (h.fr.2.trans (Tr.of Hws_le))
    exact ⟨_, body f cdv A outer s H E hr n m s0 L ds s' hS hh (F.and (trs H)), ⟨⟨hL.fr, lk_trws hL⟩, hL.nd, hL.at_⟩, start_env r, fun σ H' h => fin H' h, fun H' h => fin H' h⟩
end
section
variable {X : Cx} {I J : Asr} {F : Asr} {n : Pn} {L : Lc} {m : Int} {s : Lo} {env env2 : Ev} {e o a b tg iter : Expr} {es : List Expr} {d : D} {ds : List D} {pos pos' p2 apos p : Pos} {x mn : Str} {i j k l : Nat} {rest body : List Stmt} {O : Ends → Prop}
/-- whatever the addresses are -/
theorem hs_any {sts : List Stmt} {s' : Lo} {aa : Addr} (h : ∀ L, L.a = aa → HS X (Lk F (cells none n L m s')) env sts O) : HS X (LkE F n m s' aa) env sts O :=
  L2.PSs.wk (t := fun D σ H => ∃ L, L.a = aa ∧ tS (Lk F (cells none n L m s')) env O D σ H) (pss_exI fun L hL => h L hL) fun D σ H ⟨⟨L, e, hI⟩, hE, k⟩ => ⟨L, e, hI, hE, k⟩
theorem oEnd_E {s' : Lo} {aa : Addr} {D : Ends} (e : L.a = aa) (h : oEnd (LkE F n m s' aa) D) : oEnd (Lk F (cells none n L m s')) D := ⟨fun σ H hI => h.1 σ H ⟨L, e, hI⟩, fun H hI => h.2 H ⟨L, e, hI⟩⟩
theorem oNC_E {s' : Lo} {aa : Addr} {D : Ends} (e : L.a = aa) (h : oNC (LkE F n m s' aa) env D) : oNC (Lk F (cells none n L m s')) env D := ⟨fun σ H hI hE => h.1 σ H ⟨L, e, hI⟩ hE, fun σ H hI hE => h.2 σ H ⟨L, e, hI⟩ hE⟩
theorem hs_mE0 {S : Pn → Int → Lo → List D → Lo → Prop} {s' : Lo} {pl : Sem Bool} (c : Met X.prog X.w X.K X.mg X.base k n.C mn (spE S)) (hr : Room j X.A) (hk : k ≤ j) (ho : PD X (Lk F (cells none n L m s)) env o (.ref L.a)) (hm : getA (flds n L m) mn = none) (hS : S n m s [.ref L.a] s')
    (hsb : Sub env2 env) (hE0 : fixE env2 = true) (hrst : ∀ L', L'.a = L.a → HS X (Lk F (cells none n L' m s')) env2 rest O) (hs : swapsWith (.Call (.Attribute o mn apos) [] [] p2) none pos.line X.env = pure false := by rfl)
    (ht : eval (.Call (.Attribute o mn apos) [] [] p2) X.env = (do
      let ov ← eval o X.env
      standAt apos.atName
      let (f, first) ← holding [ov] (getMethod ov mn pl)
      callWith p2 f first (backTo p2 (starEach [] X.env)) (backToKw p2 (keywordEach [] X.env))) := by rfl) : HS X (Lk F (cells none n L m s)) env (.Expr (.Call (.Attribute o mn apos) [] [] p2) pos :: rest) O := by
  obtain ⟨f, fd, ps, hc, me, FO, b⟩ := c.ex
  exact (pss_cons (ps_expr (pe_meth0 (pl := pl) (E := E0) (dvs := []) ho hc me FO (hr.mono hk) b .nil pass0 ht) hs) (hs_any (aa := L.a) hrst)).wk fun D σ H ⟨hI, hE, k⟩ => ⟨hI, hE, fun x H1 s1 r1 => by
    have ex : x = .ref L.a := r1
    subst ex
    have hI1 := (Lk F _).mono s1 hI
    obtain ⟨_, dx, vs0, hv, rv⟩ := hI1.at_ 0 _ rfl
    refine ⟨L.a, dx, vs0, rfl, hv, rv.getN hm, F, n, m, s, L, [.ref L.a], s', hI1, ?_, hS, rfl, fun H' hP hT => ⟨hP, ((hE.mono s1).sub hsb).tr hT (fixE_get hE0), k⟩⟩
    unfold RepL
    exact ⟨_, [], rfl, rfl, rfl⟩⟩
/-- for tg in a new list: each turn may replace lists -/
theorem h_forNE {sj : Nat → Lo} {Ev Eb : Nat → List (Option D)} (hp : PassesOwn (model X.prog X.w) X.A X.env X.xe) (hc : X.calm = true) (hi : PL X (Lk F (cells none n L m s)) env iter ds) (hf : fixL ds = true) (c0 : sj 0 = s) (e0 : Ev 0 = env)
    (hg : ∀ J j d, ds[j]? = some d → PG X tg (tG J d (Ev j) (Eb j))) (hb : ∀ G L' j d, ds[j]? = some d → L'.a = L.a → HS X (Lk G (cells none n L' m (sj j))) (Eb j) body (oNC (LkE G n m (sj (j + 1)) L.a) (Ev (j + 1))))
    (hs : ∀ x, foldedSetIterable iter X.env x = pure x := by intro _; rfl) : H1 X (Lk F (cells none n L m s)) env (.For tg iter body [] pos) (oNx (LkE F n m (sj ds.length) L.a) (Ev ds.length)) := by
  refine (ps_for hp hc (pi_list hi) (g := fun v σ H Q => ∃ t : Asr × Nat × D, (ds[t.2.1]? = some t.2.2) ∧ tG (LkE t.1 n m (sj t.2.1) L.a) t.2.2 (Ev t.2.1) (Eb t.2.1) v σ H Q) (pg_exI fun (t : Asr × Nat × D) h => hg _ t.2.1 t.2.2 h)
    (tb := fun E' σ H => ∃ t : Asr × Nat × D, (ds[t.2.1]? = some t.2.2) ∧ tS (LkE t.1 n m (sj t.2.1) L.a) (Eb t.2.1) (oNC (LkE t.1 n m (sj (t.2.1 + 1)) L.a) (Ev (t.2.1 + 1))) E' σ H) (pss_exI fun (t : Asr × Nat × D) h => hs_any fun L' e => hb t.1 L' t.2.1 t.2.2 h e) hs).wk
    fun D σ H ⟨hI, hE, k⟩ => ⟨hI, hE, fun q xs0 H1 s1 hq hx0 r0 => ?_⟩
  have h00 : LkP (F.cell q ds) (cells none n L m s) H1 := LkP.cellF hI s1 hq hx0 r0 hf
  refine ⟨q, rfl, ⟨xs0, SqL.of hx0⟩, fun i mm σ H => mm = ds.length - i ∧ i ≤ ds.length ∧ (LkE (F.cell q ds) n m (sj i) L.a).p H ∧ EnvR H σ (Ev i), ⟨ds.length, by simp, Nat.zero_le _, ⟨L, rfl, by rw [c0]; exact h00⟩, by rw [e0]; exact hE.mono s1⟩, ?_⟩
  rintro i mm σ H2 ⟨rfl, hil, hGi, hEi⟩
  obtain ⟨L', eL, hL'⟩ := hGi
  obtain ⟨xs, hx, rx⟩ := has_lk (cs := cells none n L' m (sj i)) has_cell H2 hL'
  have hl := rx.length
  by_cases hlt : i < ds.length
  · refine .inr ⟨⟨xs, xs[i], SqL.of hx, by simp [hl, hlt]⟩, fun σ' H' => (LkE (F.cell q ds) n m (sj (i + 1)) L.a).p H' ∧ EnvR H' σ' (Ev (i + 1)), fun σ' H' p' => ⟨ds.length - (i + 1), by omega, rfl, hlt, p'.1, p'.2⟩, fun u H' y => ?_⟩
    obtain ⟨eH, y⟩ := y
    subst eH
    obtain ⟨d, hd, rd⟩ := rx.rget (y xs (SqL.of hx))
    exact ⟨(F.cell q ds, i, d), hd, ⟨L', eL, hL'⟩, rd, hEi, fun σ' H' s' hE' => ⟨(F.cell q ds, i, d), hd, ⟨L', eL, (Lk _ _).mono s' hL'⟩, hE', fun σ H h1 h2 => ⟨h1, h2⟩, fun σ H h1 h2 => ⟨h1, h2⟩⟩⟩
  · have en : i = ds.length := by omega
    subst en
    exact .inl ⟨⟨xs, SqL.of hx, by omega⟩, k σ H2 ⟨L', eL, hL'.frm fun _ => Asr.cell_le⟩ hEi⟩
/-! ### new lists by built-ins -/
theorem pl_listL (hm : X.mg "list" = none) (ha : PD X I env e (.lst ds)) (hg : Gl X "list" := by rfl)
    (he : starEach (e :: []) X.env = (false, eval e X.env) :: starEach [] X.env := by rfl) (hpl : (backTo pos (starEach [] X.env)).any (·.1) = false := by rfl) : PL X I env (.Call (.Name "list" p) [e] [] pos) ds :=
  (pe_callTy call_list_of hg hm bt_list (pds_cons ha pds_nil he) (by decide) (by decide) he hpl).wk fun σ H Q ⟨hI, hE, k⟩ => ⟨hI, hE, fun xs H1 s1 r => by
    obtain ⟨v, e1, r1⟩ := r.one
    obtain ⟨q, ys, e2, hq, hl⟩ := r1.lst_inv
    subst e1 e2
    exact ⟨q, ys, rfl, .inl (SqL.of hq), fun l hl' => k l ys _ (s1.trans (Same.new hl')) (s1.free hl') upd_same (hl.mono (Same.new hl'))⟩⟩
theorem perm_sorted : ∀ {ys ks : List Int}, ys.Perm ks → ys.Pairwise (· ≤ ·) → ks.Pairwise (· < ·) → ys = ks
  | [], ks, h, _, _ => (List.nil_perm.mp h).symm
  | y :: ys, ks, h, hy, hk => by
    cases ks with
    | nil => exact absurd h (by simp)
    | cons c cs =>
      have h1 : y = c := by
        have m1 : y ∈ c :: cs := h.mem_iff.mp List.mem_cons_self
        have m2 : c ∈ y :: ys := h.mem_iff.mpr List.mem_cons_self
        rcases List.mem_cons.mp m1 with e | m1
        · exact e
        · have l1 : c < y := (List.pairwise_cons.mp hk).1 y m1
          rcases List.mem_cons.mp m2 with e | m2
          · exact e.symm
          · have := (List.pairwise_cons.mp hy).1 c m2
            omega
      subst h1
      rw [perm_sorted (List.Perm.cons_inv h) (List.pairwise_cons.mp hy).2 (List.pairwise_cons.mp hk).2]
theorem KRep.keys {H : Hp} : ∀ {ds : List (Int × D)} {xs : List (Key × V)}, KRep H ds xs → xs.map (·.1) = (ds.map Prod.fst).map Sum.inl
  | [], _, h => by have e : _ = [] := h; subst e; rfl
  | (k, d) :: ds, _, ⟨v, r, e1, h1, h2⟩ => by subst e1; rw [List.map_cons, KRep.keys h2]; rfl
/-- sorted(a dict of ours) -/
theorem pl_sortedD {F : Asr} {cs : Cs} {q : Addr} {kvs : List (Int × D)} (le : Le I F cs) (i : Nat) (hc : X.calm = true) (hm : X.mg "sorted" = none) (ha : PD X I env e (.ref q)) (hi : cs[i]? = some (q, .dct none kvs)) (hk : (kvs.map Prod.fst).Pairwise (· < ·)) (hz : kvs.length < 64) (hg : Gl X "sorted" := by rfl)
    (he : starEach (e :: []) X.env = (false, eval e X.env) :: starEach [] X.env := by rfl) (hpl : (backTo pos (starEach [] X.env)).any (·.1) = false := by rfl) : PL X I env (.Call (.Name "sorted" p) [e] [] pos) ((kvs.map Prod.fst).map .int) :=
  (pe_callB (call_sortedDI hc) hg hm bt_sorted (pds_cons ha pds_nil he) (by decide) (by decide) he hpl).wk fun σ H Q ⟨hI, hE, k⟩ => ⟨hI, hE, fun xs H1 s1 r => by
    obtain ⟨v, e1, r1⟩ := r.one
    have ev : v = .ref q := r1
    subst e1 ev
    obtain ⟨_, _, vs, hv, rv⟩ := (le _ (I.mono s1 hI)).at_ i _ hi
    refine ⟨q, vs, kvs.map Prod.fst, rfl, .inl hv, rv.keys, by rw [List.length_map]; exact hz, fun ys l hp hs hl => ?_⟩
    have ey := perm_sorted hp hs hk
    subst ey
    refine k l _ _ (s1.trans (Same.new hl)) (s1.free hl) upd_same ?_
    have : ∀ l' : List Int, RepL (upd H1 l (.lst (((kvs.map Prod.fst)).map V.int))) (l'.map .int) (l'.map V.int) := by
      intro l'
      induction l' with
      | nil => rfl
      | cons a l' ih =>
        show RepL _ (D.int a :: _) (V.int a :: _)
        unfold RepL
        exact ⟨_, _, rfl, rfl, ih⟩
    exact this _⟩
end
end Sd
namespace Sd
open PySem L2
section
variable {X : Cx} {F : Asr} {cs : Cs} {env : Ev}
/-- z = [elt for x in a list if ..]: a new list that stands apart -/
theorem hs_setLcC {x z : Str} {i iz : Nat} {elt iter : Expr} {ifs : List Expr} {scope : Scope} {xp pos zp spos : Pos} {keep : D → Bool} {out : D → D} {ds : List D} {rest : List Stmt} {O : Ends → Prop} (hc : X.calm = true) (hN : X.N.Nodup) (hi : PD X (Lk F cs) env iter (.lst ds)) (ok : BlkOk X.N X.env.scope scope [(x, i)])
    (ht : ∀ (s : Shared) (H : Hp) (C : Addr) (cl : List (Str × Addr)) (fp : List Addr), ∀ d ∈ ds, PTs (X.blk s H scope (compEnvC scope cl C X.env) fp) ifs (tT (Lk F cs) ((wipeE env [i]).set i (some d)) (keep d)))
    (he : ∀ (s : Shared) (H : Hp) (C : Addr) (cl : List (Str × Addr)) (fp : List Addr), ∀ d ∈ ds, keep d = true → PD (X.blk s H scope (compEnvC scope cl C X.env) fp) (Lk F cs) ((wipeE env [i]).set i (some d)) elt (out d))
    (hf : ∀ d ∈ ds, keep d = true → (out d).fix = true) (hz : ds.length ≤ sizeLine) (hr : ∀ q, HS X (Lk (F.cell q ((ds.filter keep).map out)) cs) (env.set iz (some (.ref q))) rest O) (hl : ∀ (s : Shared) (H : Hp) (C : Addr) (cl : List (Str × Addr)) (fp : List Addr), (X.blk s H scope (compEnvC scope cl C X.env) fp).env.scope.names.lookup x = some .local := by intro _ _ _ _ _; rfl)
    (hy : X.N[iz]? = some z := by rfl) (hyl : X.env.scope.names.lookup z = some .local := by rfl) (hk : X.env.scope.kind = .function := by rfl) (hln : (zp.line == pos.line) = true := by rfl) (ha : (scope.names.any fun (n, k) => n == z && (k == .local || k == .cell)) = false := by rfl)
    (hs : ∀ x, foldedSetIterable iter X.env x = pure x := by intro _; rfl) : HS X (Lk F cs) env (.Assign [.Name z zp] (.ListComp elt [⟨.Name x xp, iter, ifs, 0⟩] scope pos) spos :: rest) O :=
  (pss_cons (ps_setLc (own := [(x, i)]) (wi := iList X.K (tD (Lk F cs) env (.lst ds))) (g := gName i) (tt := LcT (Lk F cs) ds (fun d => (wipeE env [i]).set i (some d)) keep) (te := LcE (Lk F cs) ds (fun d => (wipeE env [i]).set i (some d)) keep out) hc hN hy hyl (sw_true hk hyl hln ha) (pi_list hi) ok
    (fun s H C cl fp => pg_name (i := i) hN (ok.ix (x, i) List.mem_cons_self) (Or.inl (hl s H C cl fp)) (.inr (hl s H C cl fp))) (fun s H C cl fp => pts_exI (ht s H C cl fp)) (fun s H C cl fp => pe_exI fun d (h : d ∈ ds ∧ keep d = true) => he s H C cl fp d h.1 h.2) hs)
    (L2.PSs.wk (t := fun D σ H => ∃ q, True ∧ tS (Lk (F.cell q ((ds.filter keep).map out)) cs) (env.set iz (some (.ref q))) O D σ H) (pss_exI fun q _ => hr q) (fun _ _ _ h => h))).wk
    fun D σ H ⟨hI, hE, k⟩ => lcL_imp (X := X) (own := [(x, i)]) (envs := fun d => (wipeE env [i]).set i (some d)) (fun d _ => tg_name i) hf hz σ H (fun x H1 => gName iz x σ H1 fun σ' H' => ∃ q, True ∧ tS (Lk (F.cell q ((ds.filter keep).map out)) cs) (env.set iz (some (.ref q))) O D σ' H') ⟨hI, hE, fun p xs H1 s1 hp hx r => ⟨p, trivial, LkP.cellF hI s1 hp hx r (fix_map fun d hd hk => hf d hd hk), (hE.mono s1).set rfl, k⟩⟩
end
def Lc.setq (L : Lc) (o : Bool) (a : Addr) : Lc := if o then { L with qo := a } else { L with qi := a }
def Lc.setw (L : Lc) (o : Bool) (a : Addr) : Lc := if o then { L with wo := a } else { L with wi := a }
theorem setq_a (L : Lc) (o : Bool) (x : Addr) : (L.setq o x).a = L.a := by cases o <;> rfl
theorem setw_a (L : Lc) (o : Bool) (x : Addr) : (L.setw o x).a = L.a := by cases o <;> rfl
section
variable {n : Pn} {L : Lc} {m : Int} {s : Lo} {o : Bool}
theorem refs_put (ok : OkPn n) (h : o ∈ n.pls) {f f' : Bool → Addr} (hf : ∀ x, x ≠ o → f' x = f x) : putA (refsD n f) (n.key o : Int) (.ref (f' o)) = refsD n f' :=
  put_dmap (g := fun x => .ref (f x)) (g' := fun x => .ref (f' x)) ok h (fun x hx => by rw [hf x hx])
theorem set_qn (ok : OkPn n) (h : o ∈ n.pls) (a : Addr) (qs : List Cg) : ((cells none n L m s).set (ixw n o + 1) (a, .lst (qs.map (eCg (n.ck o))))).set 11 (L.dp, .dct none (putA (refsD n L.q) (n.key o : Int) (.ref a))) = cells none n (L.setq o a) m (s.setQ o qs) := by
  have e : D.ref a = .ref ((L.setq o a).q o) := by cases o <;> rfl
  rw [e, refs_put ok h (f' := (L.setq o a).q) (fun x hx => by cases o <;> cases x <;> first | rfl | exact absurd rfl hx)]
  have hm := mem_pls h
  unfold cells ixw Pn.pls
  cases hI : n.hI <;> cases hO : n.hO <;> cases o <;> first
    | rfl
    | (exfalso; rcases hm with ⟨h1, h2⟩ | ⟨h1, h2⟩ <;> simp_all)
theorem set_wn (ok : OkPn n) (h : o ∈ n.pls) (a : Addr) (qs : List Cg) : ((cells none n L m s).set (ixw n o) (a, .lst (qs.map (eCg (n.ck o))))).set 9 (L.dw, .dct none (putA (refsD n L.w) (n.key o : Int) (.ref a))) = cells none n (L.setw o a) m (s.setW o qs) := by
  have e : D.ref a = .ref ((L.setw o a).w o) := by cases o <;> rfl
  rw [e, refs_put ok h (f' := (L.setw o a).w) (fun x hx => by cases o <;> cases x <;> first | rfl | exact absurd rfl hx)]
  have hm := mem_pls h
  unfold cells ixw Pn.pls
  cases hI : n.hI <;> cases hO : n.hO <;> cases o <;> first
    | rfl
    | (exfalso; rcases hm with ⟨h1, h2⟩ | ⟨h1, h2⟩ <;> simp_all)
theorem set_q (h : o ∈ n.pls) (w : List Cg) : (cells none n L m s).set (ixw n o + 1) (L.q o, .lst (w.map (eCg (n.ck o)))) = cells none n L m (s.setQ o w) := by
  have hm := mem_pls h
  unfold cells ixw Pn.pls
  cases hI : n.hI <;> cases hO : n.hO <;> cases o <;> first
    | rfl
    | (exfalso; rcases hm with ⟨h1, h2⟩ | ⟨h1, h2⟩ <;> simp_all)
theorem put_wishes (a : Addr) : putA (flds n L m) "wishes" (.ref a) = flds n { L with lw := a } m := by with_unfolding_all rfl
theorem keys_pls (ok : OkPn n) (s : Lo) : ((booksD n s).map Prod.fst).map D.int = n.pls.map fun o => .int (n.key o) := by
  unfold booksD
  rw [List.map_map, List.map_map]; rfl
theorem keys_lt (ok : OkPn n) (s : Lo) : ((booksD n s).map Prod.fst).Pairwise (· < ·) := by
  unfold booksD Pn.pls
  cases hI : n.hI <;> cases hO : n.hO <;> simp
  have := key_ne ok hI hO
  omega
end
theorem filter_add : ∀ w : List Cg, w.filter (· == .add) = List.replicate (w.filter (· == .add)).length .add
  | [] => rfl
  | g :: w => by
    by_cases h : (g == .add) = true
    · rw [List.filter_cons_of_pos (p := fun x => x == Cg.add) h, List.length_cons, List.replicate_succ, ← filter_add w]
      have e : g = .add := by cases g <;> first | rfl | cases h
      rw [e]
    · rw [List.filter_cons_of_neg (p := fun x => x == Cg.add) h]
      exact filter_add w
theorem filter_const {α : Type} (q : Bool) (l : List α) : l.filter (fun _ => q) = if q then l else [] := by
  cases q
  · simp
  · simp
def upd1 (n : Pn) (m : Int) (s : Lo) (o : Bool) : Lo := (s.setQ o (addsOf (s.bk o) (decide (m < (n.ck o).en)))).setW o (addsOf (s.bk o) (decide (m < (n.ck o).en)))
theorem upd1_bk (n : Pn) (m : Int) (s : Lo) (o x : Bool) : (upd1 n m s o).bk x = s.bk x := by cases o <;> cases x <;> rfl
theorem fold_bk (n : Pn) (m : Int) : ∀ (l : List Bool) (s : Lo) (x : Bool), (l.foldl (upd1 n m) s).bk x = s.bk x
  | [], _, _ => rfl
  | o :: l, s, x => by rw [List.foldl_cons, fold_bk n m l, upd1_bk]
theorem cells_wish1 (n : Pn) (L : Lc) (m : Int) (s : Lo) : cells none n L m (n.pls.foldl (upd1 n m) s) = cells none n L m (wish1 n.cf (n.tm m) s) := by
  unfold cells Pn.pls booksD Pn.pls
  cases hI : n.hI <;> cases hO : n.hO <;> rfl
end Sd
namespace Sd
open PySem L2
def Pn.eWish (n : Pn) : D := .tup [.int 1, .tup [.str "pay", .tup (rtD n.cs n.p), .int n.am, eImg, .tup (enD n.cs n.p)]]
def okWish (n : Pn) (m : Int) (s : Lo) : Prop := OkWs s ∧ (s.wish = true → n.hI = false ∧ n.hO = true ∧ n.wsh = n.eWish ∧ s.pair = false ∧ (1 ≤ m → m < (n.ck true).en → okLets s.bo (wish1 n.cf (n.tm m) s).wo = true))
theorem wish2_eq (n : Pn) (m : Int) (s : Lo) : wish2 n.cf (n.tm m) s = if s.wish && decide (1 ≤ m) then (if decide (m < (n.ck true).en) && letsA (n.ck true).fit s.bo s.wo then { s with wish := false, wo := s.wo ++ [.add], po := s.po ++ [.add], pair := true } else { s with wish := false }) else s := rfl
theorem addsOf_len {b : Bk} {q : Bool} (h : OkW b.wan) : OkW (addsOf b q) := by
  unfold addsOf
  cases q
  · exact Nat.zero_le _
  · exact Nat.le_trans (List.length_filter_le _ _) h
theorem fixL_of_ints {α : Type} (f : α → Int) : ∀ xs : List α, fixL (xs.map fun x => D.int (f x)) = true
  | [] => rfl
  | x :: xs => by show (true && fixL (xs.map fun x => D.int (f x))) = true; rw [fixL_of_ints f xs]; rfl
theorem getD_of {n : Pn} {j : Nat} {d : D} (h : (n.pls.map fun o => D.int (n.key o))[j]? = some d) : ∃ o, n.pls.getD j false = o ∧ d = .int (n.key o) := by
  rw [List.getElem?_map] at h
  cases hq : n.pls[j]? with
  | none => rw [hq] at h; cases h
  | some x =>
    rw [hq] at h
    cases h
    exact ⟨x, by rw [List.getD_eq_getElem?_getD, hq]; rfl, rfl⟩
section
variable {P : Program} {w : World} {K : PySem.W.Frag} {mg : Str → Option Value} {base : Heap} {C : Addr}
def S_wish (C : Addr) (n : Pn) (m : Int) (s : Lo) (ds : List D) (s' : Lo) : Prop := n.C = C ∧ OkPn n ∧ okWish n m s ∧ (∃ a, ds = [.ref a]) ∧ s' = wish2 n.cf (n.tm m) (wish1 n.cf (n.tm m) s)
theorem sc_wish : FnScope ["self", "place", "adds", "due", "_", "what", "route", "amount", "image", "ends", "lock", "own"] ["self"] (defScope (mth 12)) := ⟨rfl, rfl, rfl, by decide +kernel, rfl, by decide +kernel, by decide +kernel⟩
theorem ok_wish (B : Free mg) (LK : LookK K C) (M : MD K C "wish" "Look.wish" (mth 12) ["self"]) (cf : Met P w K mg base 1 C "is_free" (spR (S_is_free C))) (cs : Met P w K mg base 1 C "side" (spR (S_sideM C))) (cl : Met P w K mg base 13 C "lets" (spR (S_lets C))) (cw : Met P w K mg base 1 C "want" (spM (S_want C))) :
    Met P w K mg base 14 C "wish" (spE (S_wish C)) := by
  refine met_E M sc_wish (fun n m s ds s' h => by obtain ⟨_, _, _, ⟨_, rfl⟩, _⟩ := h; rfl) ?_
  rintro f cdv A outer sh H E hr n m st L _ _ ⟨rfl, ok, ⟨hw, hwi⟩, ⟨a0, rfl⟩, rfl⟩ hhd F
  have ea : a0 = L.a := by
    have h := Option.some.inj hhd
    exact D.ref.inj h
  subst ea
  have hds : ((booksD n st).map Prod.fst).map D.int = n.pls.map fun o => .int (n.key o) := keys_pls ok st
  have hlen : (n.pls.map fun o => D.int (n.key o)).length = n.pls.length := List.length_map ..
  refine hs_nx (h_forNE (n := n) (L := L) (m := m) (s := st) (ds := n.pls.map fun o => .int (n.key o)) (sj := fun j => (n.pls.take j).foldl (upd1 n m) st) (Ev := fun _ => startE ["self", "place", "adds", "due", "_", "what", "route", "amount", "image", "ends", "lock", "own"] [.ref L.a])
    (Eb := fun j => (startE ["self", "place", "adds", "due", "_", "what", "route", "amount", "image", "ends", "lock", "own"] [.ref L.a]).set 1 (some (.int (n.key (n.pls.getD j false))))) PassesOwn.never rfl (hds ▸ pl_sortedD le_lk 1 rfl B.srt (pd_books LK le_lk (pd_var 0)) rfl (keys_lt ok st) (Nat.lt_of_le_of_lt dmap_len (by decide))) ?_ rfl rfl (fun J j d hd => ?_) (fun G L' j d hd hL => ?_)) ?_
  · exact fixL_of_ints (fun o => (n.key o : Int)) n.pls
  · obtain ⟨o, ho, rfl⟩ := getD_of hd
    rw [ho]
    exact pgd_name 1 sc_wish.nd
  · obtain ⟨o, ho, rfl⟩ := getD_of hd
    rw [ho]
    have hoj : n.pls[j]? = some o := by
      rw [List.getElem?_map] at hd
      cases hq : n.pls[j]? with
      | none => rw [hq] at hd; cases hd
      | some x =>
        rw [List.getD_eq_getElem?_getD, hq] at ho
        rw [← ho]; rfl
    have hop : o ∈ n.pls := List.mem_of_getElem? hoj
    have hnext : (n.pls.take (j + 1)).foldl (upd1 n m) st = upd1 n m ((n.pls.take j).foldl (upd1 n m) st) o := by rw [take_succ_of hoj, List.foldl_append]; rfl
    rw [hnext]
    have hbk : ((n.pls.take j).foldl (upd1 n m) st).bk o = st.bk o := fold_bk n m _ st o
    have hwo : OkW (((n.pls.take j).foldl (upd1 n m) st).bk o).wan := by rw [hbk]; exact hw.bk o
    generalize (n.pls.take j).foldl (upd1 n m) st = sj at hwo hbk ⊢
    rw [← hL]
    have hE0 : FixL [some (D.ref L'.a), some (.int (n.key o)), none, none, none, none, none, none, none, none, none, none] := .cons rfl (.cons rfl (.non (.non (.non (.non (.non (.non (.non (.non (.non (.non .nil)))))))))))
    let qs := addsOf (sj.bk o) (decide (m < (n.ck o).en))
    have hqs : (List.replicate ((sj.bk o).wan.filter (· == .add)).length (eCg (n.ck o) .add)).filter (fun _ => decide (m < (n.ck o).en)) = qs.map (eCg (n.ck o)) := by
      show _ = (addsOf (sj.bk o) (decide (m < (n.ck o).en))).map (eCg (n.ck o))
      rw [filter_const]
      unfold addsOf
      cases decide (m < (n.ck o).en) with
      | true => rw [if_pos rfl, if_pos rfl, filter_add, List.map_replicate, List.length_replicate]
      | false => rfl
    have hqf : fixL (qs.map (eCg (n.ck o))) = true := fix_cgs _ _
    refine hs_one (h_ifT (pb_val (pd_mR le_lk cf hr (by decide) (pd_var 0) (pds_cons (pd_var 1) pds_nil) rfl rfl ⟨none, n, L', m, sj, o, rfl, ok, hop, rfl, rfl, rfl⟩)) ?_)
    refine hs_setLcT (iz := 2) (i := 11) (ds := (sj.bk o).wan.map (eCg (n.ck o))) (keep := isAdd) (out := fun d => d) rfl sc_wish.nd (pd_ixT (pd_dget le_lk 1 hr (pd_books LK le_lk (pd_var 0)) rfl (pd_var 1) (get_dmap ok hop)) pd_int)
      (blkOk_by (N := ["self", "place", "adds", "due", "_", "what", "route", "amount", "image", "ends", "lock", "own"]) (sc := defScope (mth 12)) (by decide +kernel)) (fun _ _ _ _ _ d hd => ?_) (fun _ _ _ _ _ d hd _ => (pd_var 11)) (fun d hd _ => ?_) (by rw [List.length_map]; exact Nat.le_trans hwo (by rw [sizeLine_eq]; omega)) ?_
    · obtain ⟨g, _, rfl⟩ := List.mem_map.mp hd
      rw [isAdd_cg]
      cases g
      · exact ptd_one (PB.to (q := false) (pb_eqS (pd_ixT (pd_var 11) pd_int) pd_str) rfl)
      · exact ptd_one (PB.to (q := true) (pb_eqS (pd_ixT (pd_var 11) pd_int) pd_str) rfl)
      · exact ptd_one (PB.to (q := false) (pb_eqS (pd_ixT (pd_var 11) pd_int) pd_str) rfl)
      · exact ptd_one (PB.to (q := false) (pb_eqS (pd_ixT (pd_var 11) pd_int) pd_str) rfl)
    · obtain ⟨g, _, rfl⟩ := List.mem_map.mp hd
      exact fix_cg _ _
    rw [adds_map (n.ck o) (fun d => d) (sj.bk o).wan]
    have hcl : ((sj.bk o).wan.filter (· == .add)).length ≤ 100 := Nat.le_trans (List.length_filter_le _ _) hwo
    refine hs_cputL (env2 := (startE ["self", "place", "adds", "due", "_", "what", "route", "amount", "image", "ends", "lock", "own"] [.ref L'.a]).set 1 (some (.int (n.key o)))) (ds := qs.map (eCg (n.ck o))) 11 (ixw n o + 1) (by unfold ixw; split <;> decide) hr (pd_payments LK le_lk (pd_var 0)) rfl (pd_var 1)
      (hqs ▸ (List.map_id' (List.filter (fun _ => decide (m < (n.ck o).en)) (List.replicate ((sj.bk o).wan.filter (· == .add)).length (eCg (n.ck o) .add)))) ▸ pl_lcNL (i := 11) (ds := List.replicate ((sj.bk o).wan.filter (· == .add)).length (eCg (n.ck o) .add)) (keep := fun _ => decide (m < (n.ck o).en)) (out := fun d => d) rfl sc_wish.nd (pd_var 2)
        (blkOk_by (N := ["self", "place", "adds", "due", "_", "what", "route", "amount", "image", "ends", "lock", "own"]) (sc := defScope (mth 12)) (by decide +kernel)) (fun _ _ _ _ _ d hd => ?_) (fun _ _ _ _ _ d hd _ => (pd_var 11)) (fun d hd _ => ?_) (by rw [List.length_replicate, sizeLine_eq]; omega)) hqf (Nat.lt_of_le_of_lt dmap_len (by decide)) (.same (.same (.skip (.same (.same (.same (.same (.same (.same (.same (.same (.same .nil)))))))))))) (fixE_of hE0) (fun q1 => ?_)
    · rw [List.eq_of_mem_replicate hd]
      exact ptd_one (pb_lt (pd_moment LK le_lk (pd_var 0)) (pd_ixT (pd_ixT (pd_var 11) pd_int) pd_int))
    · rw [List.eq_of_mem_replicate hd]
      exact fix_cg _ _
    rw [set_qn ok hop]
    refine hs_cputL (env2 := (startE ["self", "place", "adds", "due", "_", "what", "route", "amount", "image", "ends", "lock", "own"] [.ref L'.a]).set 1 (some (.int (n.key o)))) (ds := qs.map (eCg (n.ck o))) 9 (ixw n o) (by unfold ixw; split <;> decide) hr (pd_wants (L := L'.setq o q1) LK le_lk (PD.to (pd_var 0) (by rw [setq_a]))) rfl (pd_var 1)
      (pl_listL B.lst (pd_clst le_lk (ixw n o + 1) (pd_dget le_lk 11 hr (pd_payments (L := L'.setq o q1) LK le_lk (PD.to (pd_var 0) (by rw [setq_a]))) rfl (pd_var 1) (get_dmap (g := fun x => .ref ((L'.setq o q1).q x)) ok hop)) (by rw [at_q hop]; cases o <;> rfl))) hqf (Nat.lt_of_le_of_lt dmap_len (by decide)) (Sub.refl _) (fixE_of hE0) (fun q2 => ?_)
    rw [set_wn ok hop]
    refine hs_end.wk (fun _ h => h) (fun D h => ?_)
    have h2 := (oNC_E (L := (L'.setq o q1).setw o q2) (by rw [setw_a, setq_a]) h)
    exact (oNC_sub (.same (.skip (.same (.same (.same (.same (.same (.same (.same (.same (.same (.same .nil)))))))))))) h2).1
  · rw [hlen, List.take_length]
    refine hs_any fun L' hL => ?_
    rw [← hL, cells_wish1]
    have hw1 : OkWs (wish1 n.cf (n.tm m) st) := hw
    have hwo1 : OkW (wish1 n.cf (n.tm m) st).wo := addsOf_len hw.2
    have hwi1 : (wish1 n.cf (n.tm m) st).wish = true → n.hI = false ∧ n.hO = true ∧ n.wsh = n.eWish ∧ (wish1 n.cf (n.tm m) st).pair = false ∧ (1 ≤ m → m < (n.ck true).en → okLets (wish1 n.cf (n.tm m) st).bo (wish1 n.cf (n.tm m) st).wo = true) := hwi
    have hpl1 : (wish1 n.cf (n.tm m) st).po.length ≤ 100 := addsOf_len hw.2
    generalize wish1 n.cf (n.tm m) st = s1 at hw1 hwo1 hwi1 hpl1 ⊢
    have hfw : n.eWish.fix = true := by
      have h1 := D.tk_fix (tk_rt (k := n.p) ok.net.1).1
      have h2 := D.tk_fix (tk_en (k := n.p) ok.net.1).1
      show (true && ((true && ((D.tup (rtD n.cs n.p)).fix && (true && (eImg.fix && ((D.tup (enD n.cs n.p)).fix && true))))) && true)) = true
      rw [h1, h2]; rfl
    have hmw : ∀ d ∈ one s1.wish n.wsh, d = n.eWish := fun d hd => by
      obtain ⟨h1, h2⟩ := mem_one hd
      rw [h2]; exact (hwi1 h1).2.2.1
    refine hs_setLcC (iz := 3) (i := 11) (ds := one s1.wish n.wsh) (keep := fun _ => decide (1 ≤ m)) (out := fun d => d) rfl sc_wish.nd (pd_clst le_lk 5 (pd_wishes LK le_lk (pd_var 0)) rfl) (blkOk_by (N := ["self", "place", "adds", "due", "_", "what", "route", "amount", "image", "ends", "lock", "own"]) (sc := defScope (mth 12)) (by decide +kernel)) (fun _ _ _ _ _ d hd => ?_) (fun _ _ _ _ _ d hd _ => (pd_var 11)) (fun d hd _ => by rw [hmw d hd]; exact hfw) (Nat.le_trans one_len (zz rfl)) (fun q => ?_)
    · rw [hmw d hd]
      exact ptd_one (pb_le (pd_ixT (pd_var 11) pd_int) (pd_moment LK le_lk (pd_var 0)))
    have hE0 : FixL [some (D.ref L'.a), none, none, some (.ref q), none, none, none, none, none, none, none, none] := .cons rfl (.non (.non (.cons rfl (.non (.non (.non (.non (.non (.non (.non (.non .nil)))))))))))
    have e5 : ((one s1.wish n.wsh).filter fun _ => decide (m < 1)).map (fun d => d) = one (s1.wish && decide (m < 1)) n.wsh := by cases s1.wish <;> cases decide (m < 1) <;> rfl
    refine hs_cfsetL (ds := one (s1.wish && decide (m < 1)) n.wsh) 0 5 (by decide) (pd_var 0) rfl LK.cl LK.wishes (e5 ▸ pl_lcNL (i := 11) (ds := one s1.wish n.wsh) (keep := fun _ => decide (m < 1)) (out := fun d => d) rfl sc_wish.nd (pd_clst le_lk 5 (pd_wishes LK le_lk (pd_var 0)) rfl) (blkOk_by (N := ["self", "place", "adds", "due", "_", "what", "route", "amount", "image", "ends", "lock", "own"]) (sc := defScope (mth 12)) (by decide +kernel)) (fun _ _ _ _ _ d hd => ?_) (fun _ _ _ _ _ d hd _ => (pd_var 11)) (fun d hd _ => by rw [hmw d hd]; exact hfw) (Nat.le_trans one_len (zz rfl))) ?_ (by show 18 < 900; decide) (Sub.refl _) (fixE_of hE0) (fun q2 => ?_)
    · rw [hmw d hd]
      exact ptd_one (pb_gt (pd_ixT (pd_var 11) pd_int) (pd_moment LK le_lk (pd_var 0)))
    · cases hq : (s1.wish && decide (m < 1)) with
      | false => rfl
      | true =>
        rw [Bool.and_eq_true] at hq
        rw [(hwi1 hq.1).2.2.1]
        exact one_fix hfw
    rw [put_wishes]
    show HS _ (Lk _ (cells none n { L' with lw := q2 } m { s1 with wish := s1.wish && decide (m < 1) })) _ _ _
    have eDU : ((one s1.wish n.wsh).filter fun _ => decide (1 ≤ m)).map (fun d => d) = one (s1.wish && decide (1 ≤ m)) n.wsh := by cases s1.wish <;> cases decide (1 ≤ m) <;> rfl
    rw [eDU, wish2_eq]
    have fin : ∀ (s3 : Lo) (ev : Ev) (DU : List D), HS (bx P w K mg base ["self", "place", "adds", "due", "_", "what", "route", "amount", "image", "ends", "lock", "own"] "Look.wish" (mth 12) f cdv A outer sh H E) (Lk (F.cell q DU) (cells none n { L' with lw := q2 } m s3)) ev [] (oEnd (LkE F n m s3 L'.a)) := fun s3 ev DU => (hs_out (I := LkE F n m s3 L'.a)).wk (fun H h => ⟨{ L' with lw := q2 }, rfl, LkP.frm (h : LkP _ _ _) fun _ => Asr.cell_le⟩) (fun _ h => h)
    cases hdue : (s1.wish && decide (1 ≤ m)) with
    | false =>
      rw [if_neg Bool.false_ne_true]
      have e1 : ({ s1 with wish := s1.wish && decide (m < 1) } : Lo) = s1 := by
        have : (s1.wish && decide (m < 1)) = s1.wish := by
          cases h : s1.wish with
          | false => rfl
          | true =>
            rw [h, Bool.true_and, decide_eq_false_iff_not] at hdue
            rw [Bool.true_and, decide_eq_true (by omega)]
        rw [this]
      rw [e1]
      exact hs_nx (h_forC (q := q) (ds := []) (G := fun _ => Lk (F.cell q []) (cells none n { L' with lw := q2 } m s1)) (Ev := fun _ => (startE ["self", "place", "adds", "due", "_", "what", "route", "amount", "image", "ends", "lock", "own"] [.ref L'.a]).set 3 (some (.ref q))) (Eb := fun _ => (startE ["self", "place", "adds", "due", "_", "what", "route", "amount", "image", "ends", "lock", "own"] [.ref L'.a]).set 3 (some (.ref q))) PassesOwn.never rfl (pd_var 3) (fun _ h => h) rfl (fun j _ => has_lk has_cell) (fun j d h => by cases h) (fun j d h => by cases h)) (fin s1 _ _)
    | true =>
      rw [if_pos rfl]
      rw [Bool.and_eq_true] at hdue
      obtain ⟨hwt, hdu⟩ := hdue
      obtain ⟨hI, hO, hws, hpf, hokl⟩ := hwi1 hwt
      have hm1 : 1 ≤ m := of_decide_eq_true hdu
      have e1 : ({ s1 with wish := s1.wish && decide (m < 1) } : Lo) = { s1 with wish := false } := by rw [decide_eq_false (by omega), Bool.and_false]
      rw [e1, hws]
      have ho : true ∈ n.pls := pls_of (.inr ⟨rfl, hO⟩)
      obtain ⟨hrt, hen⟩ := rt_cons ok hO
      have eW : n.eWish = .tup [.int 1, .tup [.str "pay", .tup (.int (n.key true) :: rtD n.cs (n.p + 1)), .int n.am, eImg, .tup (.int (n.ck true).en :: enD n.cs (n.p + 1))]] := by unfold Pn.eWish; rw [hrt, hen]
      rw [eW] at hfw ⊢
      have hR : fixL (rtD n.cs (n.p + 1)) = true := by have h := D.tk_fix (tk_rt (k := n.p + 1) ok.net.1).1; exact h
      have hEn : fixL (enD n.cs (n.p + 1)) = true := by have h := D.tk_fix (tk_en (k := n.p + 1) ok.net.1).1; exact h
      have fR : (D.tup (.int (n.key true) :: rtD n.cs (n.p + 1))).fix = true := by show (true && fixL (rtD n.cs (n.p + 1))) = true; rw [hR]; rfl
      have fE : (D.tup (.int (n.ck true).en :: enD n.cs (n.p + 1))).fix = true := by show (true && fixL (enD n.cs (n.p + 1))) = true; rw [hEn]; rfl
      have fWh : (D.tup [.str "pay", .tup (.int (n.key true) :: rtD n.cs (n.p + 1)), .int n.am, eImg, .tup (.int (n.ck true).en :: enD n.cs (n.p + 1))]).fix = true := by
        show (true && ((D.tup (.int (n.key true) :: rtD n.cs (n.p + 1))).fix && (true && (eImg.fix && ((D.tup (.int (n.ck true).en :: enD n.cs (n.p + 1))).fix && true))))) = true
        rw [fR, fE]; rfl
      have hgen : ∀ s3, s3 = (if (decide (m < (n.ck true).en) && letsA (n.ck true).fit s1.bo s1.wo) = true then { s1 with wish := false, wo := s1.wo ++ [.add], po := s1.po ++ [.add], pair := true } else { s1 with wish := false } : Lo) → HS (bx P w K mg base ["self", "place", "adds", "due", "_", "what", "route", "amount", "image", "ends", "lock", "own"] "Look.wish" (mth 12) f cdv A outer sh H E) (Lk (F.cell q [.tup [.int 1, .tup [.str "pay", .tup (.int (n.key true) :: rtD n.cs (n.p + 1)), .int n.am, eImg, .tup (.int (n.ck true).en :: enD n.cs (n.p + 1))]]]) (cells none n { L' with lw := q2 } m { s1 with wish := false })) ((startE ["self", "place", "adds", "due", "_", "what", "route", "amount", "image", "ends", "lock", "own"] [.ref L'.a]).set 3 (some (.ref q))) ((defBody (mth 12)).drop 3) (oEnd (LkE F n m s3 L'.a)) := fun s3 h3 => ?_
      · exact hgen _ rfl
      let E0 : Ev := (startE ["self", "place", "adds", "due", "_", "what", "route", "amount", "image", "ends", "lock", "own"] [.ref L'.a]).set 3 (some (.ref q))
      let WH : D := .tup [.str "pay", .tup (.int (n.key true) :: rtD n.cs (n.p + 1)), .int n.am, eImg, .tup (.int (n.ck true).en :: enD n.cs (n.p + 1))]
      let E1 : Ev := (E0.set 4 (some (.int 1))).set 5 (some WH)
      have hsub1 : Sub E0 E1 := .same (.same (.same (.same (.skip (.skip (.same (.same (.same (.same (.same (.same .nil)))))))))))
      refine hs_nx (h_forC (q := q) (ds := [.tup [.int 1, WH]]) (G := fun j => Lk (F.cell q [.tup [.int 1, WH]]) (cells none n { L' with lw := q2 } m (if j = 0 then { s1 with wish := false } else s3))) (Ev := fun _ => E0) (Eb := fun _ => E1) PassesOwn.never rfl (pd_var 3) (fun _ h => h) rfl (fun j _ => has_lk has_cell) (fun j d h => ?_) (fun j d h => ?_)) (fin s3 _ _)
      · cases j with
        | succ j => cases h
        | zero => cases h; exact pgd_tup rfl (pgsd_cons (pgd_name 4 sc_wish.nd) (pgsd_cons (pgd_name 5 sc_wish.nd) pgsd_nil))
      · cases j with
        | succ j => cases h
        | zero =>
          cases h
          generalize F.cell q [.tup [.int 1, WH]] = G
          show HS _ (Lk G (cells none n { L' with lw := q2 } m { s1 with wish := false })) E1 _ (oNC (Lk G (cells none n { L' with lw := q2 } m s3)) E0)
          generalize hL2 : ({ L' with lw := q2 } : Lc) = L2
          have ea2 : L'.a = L2.a := by rw [← hL2]
          cases hbf : decide (m < (n.ck true).en) with
          | false =>
            rw [h3, hbf]
            exact hs_one (h_ifF (pb_eqS (pd_ixT (pd_var 5) pd_int) pd_str) (hs_ifF (pb_w (pbw_and (pb_val (pd_mR le_lk cf hr (by decide) (PD.to (pd_var 0) (congrArg D.ref ea2)) (pds_one (pd_ixT (pd_ixT (pd_var 5) pd_int) pd_int at0)) rfl rfl ⟨none, n, L2, m, { s1 with wish := false }, true, rfl, ok, ho, rfl, rfl, rfl⟩)) (pbw_and1 (pb_lt (pd_moment LK le_lk (PD.to (pd_var 0) (congrArg D.ref ea2))) (pd_ixT (pd_ixT (pd_var 5) pd_int) pd_int at0) hbf)))) (hs_end.wk (fun _ h => h) (fun _ h => (oNC_sub hsub1 h).1))))
          | true =>
            refine hs_one (h_ifF (pb_eqS (pd_ixT (pd_var 5) pd_int) pd_str) (hs_one (h_ifT (pb_w (pbw_and (pb_val (pd_mR le_lk cf hr (by decide) (PD.to (pd_var 0) (congrArg D.ref ea2)) (pds_one (pd_ixT (pd_ixT (pd_var 5) pd_int) pd_int at0)) rfl rfl ⟨none, n, L2, m, { s1 with wish := false }, true, rfl, ok, ho, rfl, rfl, rfl⟩)) (pbw_and1 (pb_lt (pd_moment LK le_lk (PD.to (pd_var 0) (congrArg D.ref ea2))) (pd_ixT (pd_ixT (pd_var 5) pd_int) pd_int at0) hbf)))) ?_)))
            refine hs_asg (pd_var 5) (pgd_tup rfl (pgsd_cons (pgd_name 4 sc_wish.nd) (pgsd_cons (pgd_name 6 sc_wish.nd) (pgsd_cons (pgd_name 7 sc_wish.nd) (pgsd_cons (pgd_name 8 sc_wish.nd) (pgsd_cons (pgd_name 9 sc_wish.nd) pgsd_nil)))))) ?_
            refine hs_set 10 sc_wish.nd (PD.to (pd_tup (pds_cons (pd_mR le_lk cs hr (by decide) (PD.to (pd_var 0) (congrArg D.ref ea2)) (pds_one (pd_ixT (pd_var 6) pd_int at0)) rfl rfl ⟨none, n, L2, m, { s1 with wish := false }, true, rfl, ok, ho, rfl, rfl, rfl⟩) (pds_cons (pd_var 7) (pds_cons (pd_var 8) (pds_one (pd_ixT (pd_var 9) pd_int at0)))))) (d2 := eLock (n.ck true)) (by unfold eLock; rw [ck_a ok ho])) ?_
            have hsub2 : Sub E0 ((((((((E1.set 4 (some (.str "pay"))).set 6 (some (.tup (.int (n.key true) :: rtD n.cs (n.p + 1))))).set 7 (some (.int n.am))).set 8 (some eImg)).set 9 (some (.tup (.int (n.ck true).en :: enD n.cs (n.p + 1))))).set 10 (some (eLock (n.ck true)))))) := .same (.same (.same (.same (.skip (.skip (.skip (.skip (.skip (.skip (.skip (.same .nil)))))))))))
            have hE2 : fixE ((((((((E1.set 4 (some (.str "pay"))).set 6 (some (.tup (.int (n.key true) :: rtD n.cs (n.p + 1))))).set 7 (some (.int n.am))).set 8 (some eImg)).set 9 (some (.tup (.int (n.ck true).en :: enD n.cs (n.p + 1))))).set 10 (some (eLock (n.ck true)))))) = true := fixE_of (.cons rfl (.non (.non (.cons rfl (.cons rfl (.cons fWh (.cons fR (.cons rfl (.cons (D.tk_fix tk_img.1) (.cons fE (.cons (fix_lock _) (.non .nil))))))))))))
            cases hlt : letsA (n.ck true).fit s1.bo s1.wo with
            | false =>
              rw [h3, hbf, hlt]
              exact hs_ifF (pb_val (PD.to (pd_mR le_lk cl hr (by decide) (PD.to (pd_var 0) (congrArg D.ref ea2)) (pds_cons (pd_ixT (pd_var 6) pd_int at0) (pds_one (pd_var 10))) rfl rfl ⟨n, L2, m, { s1 with wish := false }, rfl, ok, hO, hw1, hwo1, hokl hm1 (of_decide_eq_true hbf), rfl, rfl, rfl⟩) (congrArg D.bl hlt))) (hs_end.wk (fun _ h => h) (fun _ h => (oNC_sub hsub2 h).1))
            | true =>
              rw [h3, hbf, hlt]
              refine hs_one (h_ifT (pb_val (PD.to (pd_mR le_lk cl hr (by decide) (PD.to (pd_var 0) (congrArg D.ref ea2)) (pds_cons (pd_ixT (pd_var 6) pd_int at0) (pds_one (pd_var 10))) rfl rfl ⟨n, L2, m, { s1 with wish := false }, rfl, ok, hO, hw1, hwo1, hokl hm1 (of_decide_eq_true hbf), rfl, rfl, rfl⟩) (congrArg D.bl hlt))) (hs_mM cw hr (by decide) (PD.to (pd_var 0) (congrArg D.ref ea2)) (pds_cons (pd_ixT (pd_var 6) pd_int at0) (pds_one (pd_tup (pds_cons pd_str (pds_cons (pd_var 10) pds_nil))))) rfl rfl ⟨n, L2, m, { s1 with wish := false }, true, .add, rfl, ok, ho, hw1, Nat.lt_of_le_of_lt hwo1 (by decide), (fun h => by cases h), rfl, rfl, rfl⟩ (Sub.refl _) hE2 ?_))
              show HS _ (Lk G (cells none n L2 m { s1 with wish := false, wo := s1.wo ++ [.add] })) _ _ _
              refine hs_capp (ixw n true + 1) (pd_dget le_lk 11 hr (pd_payments LK le_lk (PD.to (pd_var 0) (congrArg D.ref ea2))) rfl (pd_ixT (pd_var 6) pd_int at0) (get_dmap (g := fun x => .ref (L2.q x)) ok ho)) (at_q ho) (pd_tup (pds_cons pd_str (pds_cons (pd_var 10) pds_nil))) (fix_cg (n.ck true) .add) (by rw [List.length_map]; show s1.po.length < 1000; omega) (Sub.refl _) hE2 ?_
              have eq : (({ s1 with wish := false, wo := s1.wo ++ [.add] } : Lo).q true).map (eCg (n.ck true)) ++ [.tup [.str "add", eLock (n.ck true)]] = (s1.po ++ [Cg.add]).map (eCg (n.ck true)) := by rw [List.map_append]; rfl
              rw [eq, set_q ho]
              show HS _ (Lk G (cells none n L2 m { s1 with wish := false, wo := s1.wo ++ [.add], po := s1.po ++ [.add] })) _ _ _
              have hnear : n.near = .non := by unfold Pn.near; rw [hI]; rfl
              refine hs_capp 4 (d := n.ePair) (pd_pairs LK le_lk (PD.to (pd_var 0) (congrArg D.ref ea2))) rfl (PD.to (pd_tup (pds_cons pd_non (pds_cons (pd_var 8) (pds_cons (pd_ixT (pd_var 6) pd_int at0) (pds_cons (pd_slT (pd_var 6) (pdo_some pd_int) pdo_none) (pds_one (pd_slT (pd_var 9) (pdo_some pd_int) pdo_none))))))) (by rw [cut1, cut1]; unfold Pn.ePair; rw [hnear])) (pair_fix ok) (by rw [show ({ s1 with wish := false, wo := s1.wo ++ [.add], po := s1.po ++ [.add] } : Lo).pair = false from hpf]; exact Nat.lt_of_le_of_lt one_len (by decide)) (Sub.refl _) hE2 (hs_end.wk (fun H h => ?_) (fun _ h => (oNC_sub hsub2 h).1))
              rw [show ({ s1 with wish := false, wo := s1.wo ++ [.add], po := s1.po ++ [.add] } : Lo).pair = false from hpf] at h
              exact h
end
end Sd
namespace Sd
open PySem L2
theorem bal_eq (fl fit pay : Bool) (b : Bk) (w : List Cg) : balA fl fit pay { b with wan := w } = atLook fl fit pay b w := by
  obtain ⟨bn, bp, bo, ba, bw⟩ := b
  cases bo <;> rfl
theorem eqb_cg (c : Ck) (a b : Cg) : D.eqb (eCg c a) (eCg c b) = (a == b) := by
  have h1 : D.eqb (.tup [.str "add", eLock c]) (.tup [.str "add", eLock c]) = true := by
    show ((("add" : Str) == "add") && (D.eqb (eLock c) (eLock c) && true)) = true
    rw [eqb_lock]; decide +kernel
  have h2 : ∀ (x y : Str) (d e : D), (x == y) = false → D.eqb (.tup [.str x, d]) (.tup [.str y, e]) = false := fun x y d e h => by
    show ((x == y) && (D.eqb d e && true)) = false
    rw [h]; rfl
  have h3 : ∀ (x y : Str) (e : D), D.eqb (.tup [.str x]) (.tup [.str y, e]) = false := fun x y e => by
    show ((x == y) && false) = false
    rw [Bool.and_false]
  have h4 : ∀ (x y : Str) (e : D), D.eqb (.tup [.str x, e]) (.tup [.str y]) = false := fun x y e => by
    show ((x == y) && false) = false
    rw [Bool.and_false]
  cases a <;> cases b <;> first
    | exact h1
    | exact h2 _ _ _ _ (by decide +kernel)
    | (show D.eqb (.tup [.str "pass"]) (.tup [.str "pass"]) = true; decide +kernel)
    | (show D.eqb (.tup [.str "pay", eImg]) (.tup [.str "pay", eImg]) = true; decide +kernel)
    | (show D.eqb (.tup [.str "drop", eImg]) (.tup [.str "drop", eImg]) = true; decide +kernel)
    | exact h3 _ _ _
    | exact h4 _ _ _
theorem in_cgs (c : Ck) (g : Cg) : ∀ q : List Cg, inD (eCg c g) (q.map (eCg c)) = q.contains g
  | [] => rfl
  | x :: q => by
    have ih := in_cgs c g q
    have e : inD (eCg c g) ((x :: q).map (eCg c)) = (D.eqb (eCg c x) (eCg c g) || inD (eCg c g) (q.map (eCg c))) := rfl
    rw [e, ih, eqb_cg, List.contains_cons]
    cases x <;> cases g <;> rfl
theorem shp_cgL (c : Ck) {w : List Cg} (h : w.length ≤ 1000) : D.shp (.lst (w.map (eCg c))) = true := by
  have ht : Tk 4 (.tup (w.map (eCg c))) := tk_tup (fun d hd => by
    obtain ⟨g, _, rfl⟩ := List.mem_map.mp hd
    exact tk_cg c g) (by rw [List.length_map]; exact h)
  have h1 := shp_tk ht (lay_map (lay_cg c) w)
  exact h1
theorem shp_cg (c : Ck) (g : Cg) : (eCg c g).shp = true := shp_tk (tk_cg c g) (lay_cg c g)
theorem sent_lets (n : Pn) (o : Bool) (r : Option Lt) (hr : ∀ l, r = some l → bookLt l = true) : ∃ ds, eLs (n.ck o) r = .tup ds ∧ ds.length ≤ 1 ∧ fixL ds = true ∧ ds.map (fun d => D.tup [.int (n.oth o), d]) = (olet o r).map (eSent n) := by
  cases r with
  | none => exact ⟨[], rfl, Nat.zero_le _, rfl, rfl⟩
  | some l =>
    have h := hr l rfl
    refine ⟨[eLb (n.ck o) l], rfl, Nat.le_refl _, ?_, ?_⟩
    · show ((eLb (n.ck o) l).fix && true) = true
      rw [D.tk_fix (tk_lb (n.ck o) l).1]; rfl
    · cases l <;> first | rfl | cases h
theorem bal_let (fl fit pay : Bool) (b : Bk) : ∀ l, (balA fl fit pay b).2 = some l → bookLt l = true := by
  obtain ⟨bn, bp, bo, ba, bw⟩ := b
  cases bo with
  | some q => intro l h; cases h; rfl
  | none =>
    intro l h
    rw [balA_none] at h
    split at h
    · split at h
      · cases h
      · cases h; rfl
    · split at h
      · cases h; rfl
      · split at h
        · cases h; rfl
        · cases h
theorem ff_len (fit pay : Bool) (ph : Ph) : ∀ {w : List Cg} {p : Ph} {l : List Cg}, firstFit fit pay ph w = some (p, l) → l.length ≤ w.length
  | g :: w, p, l, h => by
    unfold firstFit at h
    split at h
    · cases h; exact Nat.le_succ _
    · exact Nat.le_trans (ff_len fit pay ph h) (Nat.le_succ _)
theorem bal_wan {fl fit pay : Bool} {b : Bk} (h : OkW b.wan) : OkW (balA fl fit pay b).1.wan := by
  obtain ⟨bn, bp, bo, ba, bw⟩ := b
  cases bo with
  | some q => exact h
  | none =>
    rw [balA_none]
    split
    · exact h
    · split
      · rename_i q l hq
        exact Nat.le_trans (ff_len _ _ _ hq) h
      · split
        · exact Nat.zero_le _
        · exact Nat.zero_le _
def offerD (n : Pn) (s : Lo) (o : Bool) : Lo :=
  let r := balA (n.ck o).fl (n.ck o).fit o { s.bk o with wan := s.w o }
  { s.setBk o { r.1 with wan := r.1.wan.filter fun x => (s.q o).contains x } with out := s.out ++ olet o r.2, pair := s.pair || (o && (s.passing && r.1.off == some .lk)) }
theorem offer_I (n : Pn) (s : Lo) : offerD n s false = offerI n.cf s := by
  unfold offerD offerI
  rw [bal_eq]
  obtain ⟨_, _, p, _, _, _, _, _, _, _, _, _⟩ := s
  cases p <;> rfl
theorem offer_O (n : Pn) (s : Lo) : offerD n s true = offerO n.cf s := by
  unfold offerD offerO
  rw [bal_eq]
  rfl
section
variable {P : Program} {w : World} {K : PySem.W.Frag} {mg : Str → Option Value} {base : Heap} {C : Addr}
def okOffer (n : Pn) (s : Lo) (o : Bool) : Prop := OkWs s ∧ OkW (s.w o) ∧ OkW (s.q o) ∧ s.out.length < 500 ∧ (Cg.add ∈ s.w o → (s.bk o).ph = .pd → o = false) ∧ (s.passing = true → s.pair = false ∧ n.hO = true)
def S_offer (C : Addr) (cs : Cs) (ds : List D) (cs' : Cs) : Prop := ∃ n L m s o, n.C = C ∧ OkPn n ∧ o ∈ n.pls ∧ okOffer n s o ∧ cs = cells none n L m s ∧ ds = [.ref L.a, .int (n.key o)] ∧ cs' = cells none n L m (offerD n s o)
theorem sc_offer : FnScope ["self", "place", "book", "letters", "images", "own", "lock"] ["self", "place"] (defScope (mth 21)) := ⟨rfl, rfl, rfl, by decide +kernel, rfl, by decide +kernel, by decide +kernel⟩
theorem ok_offer (B : Free mg) (LK : LookK K C) (M : MD K C "offer" "Look.offer" (mth 21) ["self", "place"]) (cb : Cal P w K mg base CX0 16 "book_at_look" (spD S_bal)) (cj : Cal P w K mg base CX0 12 "wanting_just" (spD S_wanting_just)) (co : Met P w K mg base 3 C "other" (spR (S_other C))) :
    Met P w K mg base 17 C "offer" (spM (S_offer C)) := by
  refine met_M M sc_offer (fun cs ds d h => by obtain ⟨_, _, _, _, _, _, _, _, _, _, rfl, _⟩ := h; rfl) ?_
  rintro f cdv A outer s H E hr _ _ _ ⟨n, L, m, st, o, rfl, ok, ho, ⟨hw, hwo, hq, hol, hpd, hps⟩, rfl, rfl, rfl⟩ F
  have hbl := bal_let (n.ck o).fl (n.ck o).fit o { st.bk o with wan := st.w o }
  have hbw : OkW (balA (n.ck o).fl (n.ck o).fit o { st.bk o with wan := st.w o }).1.wan := bal_wan hwo
  obtain ⟨ds, hds, hdl, hdf, hmap⟩ := sent_lets n o (balA (n.ck o).fl (n.ck o).fit o { st.bk o with wan := st.w o }).2 hbl
  refine hs_asg (pd_call cb pass0 hr (by decide) (pds_one (pd_call cj pass0 hr (by decide) (pds_cons (pd_dget le_lk 1 hr (pd_books LK le_lk (pd_var 0)) rfl (pd_var 1) (get_dmap ok ho)) (pds_one (pd_tupleL B.tup (pd_clst le_lk (ixw n o) (pd_dget le_lk 9 hr (pd_wants LK le_lk (pd_var 0)) rfl (pd_var 1) (get_dmap (g := fun x => .ref (L.w x)) ok ho)) (at_w ho))))) ⟨n.ck o, o, st.bk o, st.w o, rfl, hw.bk o, hwo, rfl⟩))
    (d := .tup [eBk (n.ck o) o (balA (n.ck o).fl (n.ck o).fit o { st.bk o with wan := st.w o }).1, .tup ds]) ⟨n.ck o, o, { st.bk o with wan := st.w o }, rfl, hwo, hpd, by rw [← hds]⟩) (pgd_tup rfl (pgsd_cons (pgd_name 2 sc_offer.nd) (pgsd_cons (pgd_name 3 sc_offer.nd) pgsd_nil))) ?_
  have hofd : offerD n st o = { st.setBk o { (balA (n.ck o).fl (n.ck o).fit o { st.bk o with wan := st.w o }).1 with wan := (balA (n.ck o).fl (n.ck o).fit o { st.bk o with wan := st.w o }).1.wan.filter fun x => (st.q o).contains x } with out := st.out ++ olet o (balA (n.ck o).fl (n.ck o).fit o { st.bk o with wan := st.w o }).2, pair := st.pair || (o && (st.passing && (balA (n.ck o).fl (n.ck o).fit o { st.bk o with wan := st.w o }).1.off == some .lk)) } := rfl
  rw [hofd]
  generalize balA (n.ck o).fl (n.ck o).fit o { st.bk o with wan := st.w o } = r at hbl hbw hds hmap ⊢
  obtain ⟨rb, rl⟩ := r
  have hfb := eBk_fix (n.ck o) o (b := rb) hbw
  have hE0 : fixE [some (D.ref L.a), some (.int (n.key o)), some (eBk (n.ck o) o rb), some (.tup ds), none, none, none] = true := fixE_of (.cons rfl (.cons rfl (.cons hfb (.cons hdf (.non (.non (.non .nil)))))))
  refine hs_cext 8 (pd_letters LK le_lk (pd_var 0)) rfl (pd_lcN (i := 5) (ds := ds) (keep := fun _ => true) (out := fun d => .tup [.int (n.oth o), d]) rfl sc_offer.nd (pd_var 3) (blkOk_by (N := ["self", "place", "book", "letters", "images", "own", "lock"]) (sc := defScope (mth 21)) (by decide +kernel)) (fun _ _ _ _ _ d hd => ptd_nil) (fun _ _ _ _ _ d hd _ => pd_tup (pds_cons (pd_mR le_lk co hr (by decide) (pd_var 0) (pds_cons (pd_var 1) pds_nil) rfl rfl ⟨none, n, L, m, st, o, rfl, ok, ho, rfl, rfl, rfl⟩) (pds_one (pd_var 5)))) (fun d hd _ => ?_) (by rw [sizeLine_eq]; omega)) ?_ ?_ (Sub.refl _) hE0 ?_
  · show (true && (d.fix && true)) = true
    rw [fixL_mem hdf d hd]; rfl
  · rw [List.filter_eq_self.mpr (fun _ _ => rfl), hmap, fixL_sent ok]
  · rw [List.filter_eq_self.mpr (fun _ _ => rfl), List.length_map, List.length_map]
    omega
  rw [List.filter_eq_self.mpr (fun _ _ => rfl), hmap, ← List.map_append]
  show HS _ (Lk F (cells none n L m { st with out := st.out ++ olet o rl })) _ _ _
  let s1 : Lo := { st with out := st.out ++ olet o rl }
  let wn : List Cg := rb.wan.filter fun x => (st.q o).contains x
  have hbk1 : s1.bk o = st.bk o := by cases o <;> rfl
  have hq1 : s1.q o = st.q o := by cases o <;> rfl
  let kD : D → Bool := fun d => inD d ((st.q o).map (eCg (n.ck o)))
  have hkf : ∀ w : List Cg, ((w.map (eCg (n.ck o))).filter kD).map (fun d => d) = (w.filter fun x => (st.q o).contains x).map (eCg (n.ck o)) := fun w => by
    rw [List.map_id', List.filter_map]
    congr 1
    refine List.filter_congr fun x _ => ?_
    exact in_cgs _ _ _
  refine hs_cput 1 hr (pd_books (s := s1) LK le_lk (pd_var 0)) rfl (pd_var 1) (pd_call cj pass0 hr (by decide) (pds_cons (pd_var 2) (pds_one (pd_tupleL B.tup (PD.to (pd_lcN (i := 5) (ds := rb.wan.map (eCg (n.ck o))) (keep := kD) (out := fun d => d) rfl sc_offer.nd (pd_ixT (pd_var 2) pd_int) (blkOk_by (N := ["self", "place", "book", "letters", "images", "own", "lock"]) (sc := defScope (mth 21)) (by decide +kernel)) (fun _ _ _ _ _ d hd => ?_) (fun _ _ _ _ _ d hd _ => (pd_var 5)) (fun d hd _ => ?_) ?_) (congrArg D.lst (hkf rb.wan)))))) (d := eBk (n.ck o) o { rb with wan := wn }) ⟨n.ck o, o, rb, wn, rfl, hbw, Nat.le_trans (List.length_filter_le _ _) hbw, rfl⟩) (eBk_fix _ _ (Nat.le_trans (List.length_filter_le _ _) hbw)) (Nat.lt_of_le_of_lt dmap_len (by decide)) (Sub.refl _) hE0 ?_
  · obtain ⟨g, _, rfl⟩ := List.mem_map.mp hd
    exact ptd_one (pb_inL hr (pd_var 5) (pd_clst (cs := cells none n L m s1) le_lk (ixw n o + 1) (pd_dget (cs := cells none n L m s1) le_lk 11 hr (pd_payments (s := s1) LK le_lk (pd_var 0)) rfl (pd_var 1) (get_dmap (g := fun x => .ref (L.q x)) ok ho)) ((at_q ho).trans (by rw [hq1]))) rfl (shp_cg _ _) (shp_cgL _ (Nat.le_trans hq (by decide))))
  · obtain ⟨g, _, rfl⟩ := List.mem_map.mp hd
    exact fix_cg _ _
  · rw [List.length_map, sizeLine_eq]
    have : rb.wan.length ≤ 100 := hbw
    omega
  have hset : (cells none n L m s1).set 1 (L.db, .dct none (putA (booksD n s1) (n.key o : Int) (eBk (n.ck o) o { rb with wan := wn }))) = cells none n L m (s1.setBk o { rb with wan := wn }) := set_db ok ho _
  show HS _ (Lk F ((cells none n L m s1).set 1 (L.db, .dct none (putA (booksD n s1) (n.key o : Int) (eBk (n.ck o) o { rb with wan := wn }))))) _ _ _
  rw [hset]
  let im : List D := match rb.off with
    | none => []
    | some p => if p = Ph.lk then [eImg] else []
  refine hs_set (d := .lst im) 4 sc_offer.nd ?_ ?_
  · cases hoff : rb.off with
    | none =>
      have e : im = [] := by show (match rb.off with | none => [] | some p => if p = Ph.lk then [eImg] else []) = _; rw [hoff]
      rw [e]
      exact pd_ifT (pb_isN (PD.to (pd_ixT (pd_var 2) pd_int) (by unfold eOff; rw [hoff])) rfl) (pd_lst pds_nil)
    | some p =>
      have e : im = ((if p = .lk then [eLock (n.ck o)] else []).filter fun _ => true).map fun _ => eImg := by
        show (match rb.off with | none => [] | some p => if p = Ph.lk then [eImg] else []) = _
        rw [hoff]
        cases p <;> rfl
      rw [e]
      refine pd_ifF (pb_isN (PD.to (pd_ixT (pd_var 2) pd_int) (d2 := eSheet (n.ck o) (rb.num + 1) p) (by unfold eOff; rw [hoff])) rfl) (pd_lcN (i := 6) (ds := if p = .lk then [eLock (n.ck o)] else []) (keep := fun _ => true) (out := fun _ => eImg) rfl sc_offer.nd (PD.to (pd_ixT (PD.to (pd_ixT (pd_var 2) pd_int) (d2 := eSheet (n.ck o) (rb.num + 1) p) (by unfold eOff; rw [hoff])) pd_int) (eLocks_if _ _)) (blkOk_by (N := ["self", "place", "book", "letters", "images", "own", "lock"]) (sc := defScope (mth 21)) (by decide +kernel)) (fun _ _ _ _ _ d hd => ptd_nil) (fun _ _ _ _ _ d hd _ => ?_) (fun d hd _ => D.tk_fix tk_img.1) (by split <;> exact zz rfl))
      have ed : d = eLock (n.ck o) := by
        split at hd
        · simpa using hd
        · cases hd
      subst ed
      exact (pd_ixT (pd_var 6) pd_int)
  have him : im = one (rb.off == some .lk) eImg := by
    show (match rb.off with | none => [] | some p => if p = Ph.lk then [eImg] else []) = _
    cases rb.off with
    | none => rfl
    | some p => cases p <;> rfl
  rw [him]
  let kp : Bool := decide ((n.key true : Int) = n.key o) && (rb.off == some .lk)
  have hpas : ∀ b, ((s1.setBk o b)).passing = st.passing := fun b => by cases o <;> rfl
  have hpar : ∀ b, ((s1.setBk o b)).pair = st.pair := fun b => by cases o <;> rfl
  have hkp : st.passing = true → kp = (o && (rb.off == some .lk)) := fun h => by
    have hO := (hps h).2
    cases o with
    | true =>
      show (decide ((n.key true : Int) = n.key true) && _) = _
      rw [decide_eq_true rfl]
    | false =>
      have hI : n.hI = true := by
        rcases mem_pls ho with ⟨_, h⟩ | ⟨h, _⟩
        · exact h
        · cases h
      show (decide ((n.key true : Int) = n.key false) && _) = _
      rw [decide_eq_false (by have := key_ne ok hI hO; omega), Bool.false_and]
  have hshi : D.shp (.lst (one (rb.off == some .lk) eImg)) = true := by
    cases (rb.off == some .lk)
    · rfl
    · exact shp_imgs 1
  have hini : inD eImg (one (rb.off == some .lk) eImg) = (rb.off == some .lk) := by
    cases (rb.off == some .lk)
    · rfl
    · exact in_imgs 1
  refine hs_cext (ds := one (st.pair) n.ePair) (ds2 := one (st.passing && kp) n.ePair) (env2 := [some (.ref L.a), some (.int (n.key o)), some (eBk (n.ck o) o rb), some (.tup ds), none, none, none]) 4 (pd_pairs LK le_lk (pd_var 0)) (by show some (L.lp, Co.lst (one (s1.setBk o { rb with wan := wn }).pair n.ePair)) = _; rw [hpar]) (PD.to (pd_lcNL (i := 5) (ds := one st.passing n.ePair) (keep := fun _ => kp) (out := fun d => d) rfl sc_offer.nd (pd_clst le_lk 10 (pd_passing LK le_lk (pd_var 0)) (by show some (L.lpa, Co.lst (one (s1.setBk o { rb with wan := wn }).passing n.ePair)) = _; rw [hpas])) (blkOk_by (N := ["self", "place", "book", "letters", "images", "own", "lock"]) (sc := defScope (mth 21)) (by decide +kernel)) (fun _ _ _ _ _ d hd => ?_) (fun _ _ _ _ _ d hd _ => (pd_var 5)) (fun d hd _ => by rw [(mem_one hd).2]; exact pair_fix ok) (Nat.le_trans one_len (zz rfl))) ?_) (one_fix (pair_fix ok)) (by have h1 := one_len (b := st.pair) (d := n.ePair); have h2 := one_len (b := st.passing && kp) (d := n.ePair); omega) (.same (.same (.same (.same (.skip (.same (.same .nil))))))) hE0 ?_
  · rw [(mem_one hd).2]
    show PTs _ _ (tT _ _ (decide ((n.key true : Int) = n.key o) && (rb.off == some .lk)))
    cases hk : decide ((n.key true : Int) = n.key o) with
    | false => exact ptd_one (pb_w (pbw_and0 (pb_eq hr (pd_ixT (pd_var 5) pd_int) (pd_var 1) (show D.eqb (.int (n.key true)) (.int (n.key o)) = false from hk))))
    | true => exact ptd_one (pb_w (pbw_and (pb_eq hr (pd_ixT (pd_var 5) pd_int) (pd_var 1) (show D.eqb (.int (n.key true)) (.int (n.key o)) = true from hk)) (pbw_and1 (pb_inL hr (pd_ixT (pd_var 5) pd_int) (pd_var 4) hini shp_img hshi))))
  · rw [List.map_id', filter_const]
    cases st.passing <;> cases kp <;> rfl
  · refine hs_out.wk (fun H h => ?_) (fun _ h => h)
    have e : one st.pair n.ePair ++ one (st.passing && kp) n.ePair = one (st.pair || (o && (st.passing && rb.off == some .lk))) n.ePair := by
      cases hp : st.passing with
      | false => cases st.pair <;> cases o <;> rfl
      | true =>
        rw [(hps hp).1, hkp hp]
        cases o <;> cases (rb.off == some .lk) <;> rfl
    rw [e] at h
    cases o <;> exact h
end
end Sd
namespace Sd
open PySem PySem.Spec PyProof.Rows L2
/-! ### set(a list of ints): a set that can be walked, asked and sorted -/
/-- an empty set, as it is made -/
abbrev sob (w : World) : Obj := { cls := .type "set", dict := none, data := .set #[] 0 (.fresh 0 0 (!w.params.followText "set-order")) }
/-- what is promised of the set at z behind h -/
def SetLike (w : World) (h : Heap) (z : Addr) (xs : List Int) (h' : Heap) (c : Nat) : Prop := SetR w h' z (fun j => decide (j ∈ xs)) c ∧ c ≤ xs.length ∧ ∀ b u, h.get? b = some u → h'.get? b = some u
section
variable {P : Program} {w : World} {A : Around} {E : Value → Shared → Prop} {s : Shared}
theorem call_setL {p : Addr} {vs : Array Value} (xs : List Int) {Q : Value → Shared → Prop} (a0 : A.handled = none) (pl : s.heap.IsList p vs) (pi : IntsAre vs.toList xs) (small : xs.length + 1 < scanBound)
    (goal : ∀ (h' : Heap) (tk c : Nat), SetLike w s.heap s.heap.objs.size xs h' c → Q (.ref s.heap.objs.size) { s with heap := h', toks := tk }) : wpAny (model P w) A (call (.type "set") [.ref p]) Q E s := by
  have sz : vs.size = xs.length := (Array.length_toList (xs := vs)).symm.trans (IntsAre.length pi)
  obtain ⟨c0, rest, h0mro⟩ := F.called_set.mro
  have h0a := F.called_set.made; have h0b := F.called_set.sub; have h0c := F.called_set.notType; have h0d := F.called_set.canCreate; have h0e := F.typeCall_set_1 (.ref p)
  refine wpAny_call (codeAny_of_tree ?_); show wpAny _ _ (callAny (.type "set") _) _ _ _
  refine wpAny_pure ⟨Code.quiet_builtin _ (by decide +kernel), codeAny_builtin F.entry_type_call ?_⟩; rw [Around.under_plain (weight_type_call_type "set" [.ref p] []) rfl]
  repeat any_goals first | assumption | wp_step
  refine codeAny_mono (code_set_led1 (.ref p) (E := E) (Q₁ := fun z s1 => z = .ref s.heap.objs.size ∧ s1 = { s with heap := s.heap.push (sob w) }) ⟨rfl, rfl⟩) fun r s1 hr => ?_
  cases r with
  | error e => exact hr
  | ok fl =>
    cases fl with
    | next => exact hr.elim
    | brk => exact hr.elim
    | cont => exact hr.elim
    | ret z =>
      obtain ⟨rfl, rfl⟩ := hr
      have new : (s.heap.push (sob w)).get? s.heap.objs.size = some (sob w) := Heap.get?_push_size _ rfl
      have tyS : Shared.TypeIs { s with heap := s.heap.push (sob w) } (.ref s.heap.objs.size) "set" := ⟨_, new, rfl⟩
      have i0 := F.called_set.init.lookup; have i1 := F.called_set.init.bind (.ref s.heap.objs.size)
      repeat any_goals first | assumption | wp_step
      refine codeAny_mono (codeAny_call_builtin (R := wants (fun r s2 => r = .none ∧ ∃ h' tk c, s2 = { s with heap := h', toks := tk } ∧ SetLike w s.heap s.heap.objs.size xs h' c) E) F.called_set.init.plain F.entry_set_init (check_set_init_1 tyS ?_)) fun r2 s2 hr2 => ?_
      · obtain ⟨⟨oc, od, odt, osl⟩, hob, hcl, nl, hdt⟩ := pl
        simp only at hcl hdt; subst hcl hdt
        have hob2 : (s.heap.push (sob w)).get? p = some { cls := .type "list", dict := od, data := .seq vs nl, slots := osl } := Heap.get?_push_of_some _ hob
        have f1 := F.sub_list_set; have f2 := F.sub_list_frozenset; have f3 : (Value.type "list" == Value.type "dict") = false := by decide
        have pl1 : (s.heap.push (sob w)).IsList p vs := ⟨_, hob2, rfl, nl, rfl⟩
        unfold Builtin.«set.__init__» noKeywords; unfold Builtin.Frozenset.updateFrom
        generalize hIt : pyIter = itr
        wp_walk
        subst hIt
        refine wpAny_pyIter_list pl1 (wpAny_bind (wpAny_runValue ?_))
        have pS : p < s.heap.objs.size := Heap.lt_size hob
        have z1 : (s.heap.push (sob w)).objs.size = s.heap.objs.size + 1 := Heap.size_push ..
        have pI : p ≠ (s.heap.push (sob w)).objs.size := by rw [z1]; exact Nat.ne_of_lt (Nat.lt_succ_of_lt pS)
        have sF : s.heap.objs.size ∉ [(s.heap.push (sob w)).objs.size, p] := by
          rw [z1]; intro q; rcases List.mem_cons.mp q with q | q
          · exact absurd q (Nat.ne_of_lt (Nat.lt_succ_self _))
          · exact absurd (List.mem_singleton.mp q) (Nat.ne_of_gt pS)
        have val : ∀ (i : Nat) (v : Value), vs[i]? = some v → ∃ k t, xs[i]? = some k ∧ v = .int k t := fun i v hv => by
          have hi : i < xs.length := sz ▸ (Array.getElem?_eq_some_iff.mp hv).1
          obtain ⟨t, e⟩ := IntsAre.int_at pi i v (by rw [Array.getElem?_toList]; exact hv)
          exact ⟨xs[i], t, List.getElem?_eq_getElem hi, by rw [e, List.getD_eq_getElem?_getD, List.getElem?_eq_getElem hi]; rfl⟩
        have a3 : A.in1.in1.in1.handled = none := by simp [a0]
        refine set_update_ints ((Walks.list a3 _ p pI vs).toS) s.heap.objs.size sF xs sz small val (vs.size - 0) 0 _ (by omega) (Nat.zero_le _) ⟨⟨_, Heap.get?_push_size _ rfl, rfl, rfl⟩, pl1.push _⟩ ⟨0, Nat.le_refl 0, setR_new_at (Heap.get?_push_of_some _ new)⟩ ?_
        rintro ⟨h', g2, d', tk', os'⟩ c mv hc hS
        have e1 : g2 = s.gens := mv.gens; have e2 : d' = s.drawn := mv.drawn; have e3 : os' = s.os := mv.os
        subst e1 e2 e3
        show wpAny _ _ _ _ _ _; refine wpAny_pure ?_; show wpAny _ _ (ret Value.none) _ _ _
        refine wpAny_pure ⟨rfl, h', tk', c, rfl, hS, sz ▸ hc, fun b u e => mv.heap b u (fun q => ?_) (Heap.get?_push_of_some _ (Heap.get?_push_of_some _ e))⟩
        have b0 : b < s.heap.objs.size := Heap.lt_size e
        rcases List.mem_cons.mp q with q | q
        · exact absurd q (Nat.ne_of_lt b0)
        · have q2 := List.mem_singleton.mp q
          rw [z1] at q2
          exact absurd q2 (Nat.ne_of_lt (Nat.lt_succ_of_lt b0))
      · cases r2 with
        | error e => exact hr2
        | ok fl2 =>
          cases fl2 with
          | next => exact hr2.elim
          | brk => exact hr2.elim
          | cont => exact hr2.elim
          | ret r =>
            obtain ⟨rfl, h', tk, c, rfl, hS⟩ := hr2
            repeat any_goals first | assumption | wp_step
            exact goal _ _ _ hS
end
section
variable {X : Cx}
def rSetL (K : PySem.W.Frag) (w : World) : List V → Hp → VK → Prop := fun vs H Q => ∃ (a : Addr) (ns : List Int), vs = [.ref a] ∧ SqL K H a (ns.map V.int) ∧ ns.length ≤ 1000 ∧ ∀ p c, H p = none → c ≤ ns.length → Q (.ref p) (upd H p (SetO w p (fun j => decide (j ∈ ns)) c))
theorem cr_setL (hc : X.calm = true) : CallR X (.type "set") (rSetL X.K X.w) := by
  intro pins s σ H vs us Q I r ⟨a, ns, ev, hq, hl, q⟩
  subst ev
  rw [Vals.ref1 r]
  obtain ⟨its, rv, pt, hz⟩ := I.list hq
  exact call_setL ns (I.ok.hd hc) pt.isList (ints_of_vals rv) (by unfold scanBound; omega) fun h' tk c ⟨R1, hcn, kk⟩ => ⟨.ref _, upd H s.heap.objs.size (SetO X.w s.heap.objs.size (fun j => decide (j ∈ ns)) c), I.laid kk (Nat.le_refl _) (setO_new R1), rfl, q _ c (I.hok.fresh (Nat.le_refl _)) hcn⟩
end
end Sd
namespace Sd
open PySem L2
theorem only7 {ns : List Int} {k : Nat} (hp : ns.Pairwise (· < ·)) (hm : ∀ j : Int, j ∈ ns ↔ decide (j ∈ List.replicate k (7 : Int)) = true) : ns = (if 0 < k then [7] else []) := by
  have h7 : ∀ j ∈ ns, j = 7 := fun j hj => by
    have := of_decide_eq_true ((hm j).mp hj)
    exact List.eq_of_mem_replicate this
  by_cases hk : 0 < k
  · rw [if_pos hk]
    have h : (7 : Int) ∈ ns := (hm 7).mpr (decide_eq_true (List.mem_replicate.mpr ⟨by omega, rfl⟩))
    cases ns with
    | nil => cases h
    | cons a ns =>
      have ha := h7 a List.mem_cons_self
      cases ns with
      | nil => rw [ha]
      | cons b ns =>
        have hb := h7 b (List.mem_cons_of_mem _ List.mem_cons_self)
        have := (List.pairwise_cons.mp hp).1 b List.mem_cons_self
        omega
  · rw [if_neg hk]
    cases ns with
    | nil => rfl
    | cons a ns =>
      have := of_decide_eq_true ((hm a).mp List.mem_cons_self)
      rw [List.mem_replicate] at this
      omega
section
variable {X : Cx} {I : Asr} {env : Ev} {e : Expr} {ds : List D} {pos p p2 pos2 : Pos}
/-- sorted(set(a list of 7s)) -/
theorem pd_sset {k : Nat} (hc : X.calm = true) (hm : X.mg "sorted" = none) (hm2 : X.mg "set" = none) (ha : PD X I env e (.lst (List.replicate k (.int 7)))) (hk : k < 60) (hg : Gl X "sorted" := by rfl) (hg2 : Gl X "set" := by rfl)
    (he : starEach (e :: []) X.env = (false, eval e X.env) :: starEach [] X.env := by rfl) (hpl : (backTo pos2 (starEach [] X.env)).any (·.1) = false := by rfl)
    (he2 : starEach (Expr.Call (.Name "set" p2) [e] [] pos2 :: []) X.env = (false, eval (.Call (.Name "set" p2) [e] [] pos2) X.env) :: starEach [] X.env := by rfl) (hpl2 : (backTo pos (starEach [] X.env)).any (·.1) = false := by rfl) :
    PD X I env (.Call (.Name "sorted" p) [.Call (.Name "set" p2) [e] [] pos2] [] pos) (.lst (one (decide (0 < k)) (.int 7))) :=
  (pe_callB (cr_sortedSet hc) hg hm bt_sorted (pa_cons (pe_callTy (cr_setL hc) hg2 hm2 bt_set (pds_cons ha pds_nil he) (by decide) (by decide) he hpl) pa_nil he2) (by decide) (by decide) he2 hpl2).wk fun σ H Q ⟨hI, hE, q⟩ => ⟨hI, hE, fun xs H1 s1 r => by
    obtain ⟨v, e1, r1⟩ := r.one
    obtain ⟨a, ys, e2, hq, hl⟩ := r1.lst_inv
    subst e1 e2
    have hl' : RepL H1 ((List.replicate k (7 : Int)).map D.int) ys := by rw [List.map_replicate]; exact hl
    have hys := hl'.ints
    subst hys
    refine ⟨a, List.replicate k 7, rfl, SqL.of hq, by rw [List.length_replicate]; omega, fun z c hz hcn => ⟨z, _, c, rfl, upd_same, by rw [List.length_replicate] at hcn; omega, fun ns l hp hmm hll hl0 => ?_⟩⟩
    have en := only7 hp hmm
    have sm : Same H1 (upd (upd H1 z (SetO X.w z (fun j => decide (j ∈ List.replicate k (7 : Int))) c)) l (.lst (ns.map V.int))) := (Same.new hz).trans (Same.new hl0)
    refine q _ _ (s1.trans sm) (Rep.lst_of (upd_same) ?_)
    rw [en]
    by_cases h : 0 < k
    · rw [if_pos h, decide_eq_true h]
      show RepL _ [D.int 7] [V.int 7]
      unfold RepL
      exact ⟨_, _, rfl, rfl, rfl⟩
    · rw [if_neg h, decide_eq_false h]
      exact rfl⟩
/-- sorted([]) -/
theorem pd_sort0 (hc : X.calm = true) (hm : X.mg "sorted" = none) (ha : PD X I env e (.lst [])) (hg : Gl X "sorted" := by rfl)
    (he : starEach (e :: []) X.env = (false, eval e X.env) :: starEach [] X.env := by rfl) (hpl : (backTo pos (starEach [] X.env)).any (·.1) = false := by rfl) : PD X I env (.Call (.Name "sorted" p) [e] [] pos) (.lst []) :=
  (pe_callB cr_sorted hg hm bt_sorted (pds_cons ha pds_nil he) (by decide) (by decide) he hpl).wk fun σ H Q ⟨hI, hE, q⟩ => ⟨hI, hE, fun xs H1 s1 r => by
    obtain ⟨v, e1, r1⟩ := r.one
    obtain ⟨a, ys, e2, hq, hl⟩ := r1.lst_inv
    have hy : ys = [] := hl
    subst e1 e2 hy
    exact ⟨a, [], rfl, SqL.of hq, by decide, fun ns l hp _ hl0 => by
      have en : ns = [] := List.perm_nil.mp hp
      subst en
      exact q _ _ (s1.trans (Same.new hl0)) (Rep.lst_of upd_same rfl)⟩⟩
end
def Mi.bk (x : Mi) (o : Bool) : Bk := if o then x.bo else x.bi
def eMind (n : Pn) (x : Mi) : D := .tup [eNet n.cs, eTimes n.t0 n.t1 n.t2, .int n.p, .tup [.int 0, .int 0, .int 0], .tup (n.pls.map fun o => eBk (n.ck o) o (x.bk o)), .tup (one x.sec (.int 7)), .tup (asksD n), .tup (one x.onw n.eOnw), .tup (one x.pair n.ePair), .tup (one x.wish n.wsh), .tup []]
section
variable {P : Program} {w : World} {K : PySem.W.Frag} {mg : Str → Option Value} {base : Heap} {C : Addr}
def S_mind (C : Addr) (cs : Cs) (ds : List D) (d : D) : Prop := ∃ n L m s, n.C = C ∧ OkPn n ∧ OkWs s ∧ s.nsec < 60 ∧ cs = cells none n L m s ∧ ds = [.ref L.a] ∧ d = eMind n (mind s)
theorem sc_mind : FnScope ["self", "books", "first", "place"] ["self"] (defScope (mth 1)) := ⟨rfl, rfl, rfl, by decide +kernel, rfl, by decide +kernel, by decide +kernel⟩
theorem ok_mind (B : Free mg) (LK : LookK K C) (M : MD K C "mind" "Look.mind" (mth 1) ["self"]) : Met P w K mg base 1 C "mind" (spR (S_mind C)) := by
  refine met_R M sc_mind (fun cs ds d h => by obtain ⟨_, _, _, _, _, _, _, _, _, rfl, _⟩ := h; rfl) ?_
  rintro f cdv A outer s H E hr _ _ _ ⟨n, L, m, st, rfl, ok, hw, hns, rfl, rfl, rfl⟩ I F le
  let bookAt : D → D := fun d => match d with
    | .int k => ((n.pls.find? fun o => decide ((n.key o : Int) = k)).elim D.non fun o => eBk (n.ck o) o (st.bk o))
    | _ => D.non
  have hbk : ∀ o ∈ n.pls, bookAt (.int (n.key o)) = eBk (n.ck o) o (st.bk o) := fun o h => by
    show (n.pls.find? fun x => decide ((n.key x : Int) = (n.key o : Int))).elim D.non _ = _
    have hm := mem_pls h
    unfold Pn.pls
    cases hI : n.hI <;> cases hO : n.hO <;> cases o <;> simp_all
    have := key_ne ok hI hO
    have hne : ¬ ((n.key false : Int) = (n.key true : Int)) := by omega
    simp [hne]
  refine hs_set 1 sc_mind.nd (pd_tupleL B.tup (PD.to (pd_lcNL (i := 3) (ds := n.pls.map fun o => .int (n.key o)) (keep := fun _ => true) (out := bookAt) rfl sc_mind.nd (PD.to (pd_new (pl_sortedD le 1 rfl B.srt (pd_books LK le (pd_var 0)) rfl (keys_lt ok st) (Nat.lt_of_le_of_lt dmap_len (by decide)))) (congrArg D.lst (keys_pls ok st))) (blkOk_by (N := ["self", "books", "first", "place"]) (sc := defScope (mth 1)) (by decide +kernel)) (fun _ _ _ _ _ d hd => ptd_nil) (fun _ _ _ _ _ d hd _ => ?_) (fun d hd _ => ?_) ?_) (d2 := .lst (n.pls.map fun o => eBk (n.ck o) o (st.bk o))) ?_)) ?_
  · obtain ⟨o, ho, rfl⟩ := List.mem_map.mp hd
    rw [hbk o ho]
    exact pd_dget le 1 hr (pd_books LK le (pd_var 0)) rfl (pd_var 3) (get_dmap ok ho)
  · obtain ⟨o, ho, rfl⟩ := List.mem_map.mp hd
    rw [hbk o ho]
    exact eBk_fix _ _ (hw.bk o)
  · rw [List.length_map, sizeLine_eq]
    have : n.pls.length ≤ 2 := by unfold Pn.pls; cases n.hI <;> cases n.hO <;> simp
    omega
  · rw [List.filter_eq_self.mpr (fun _ _ => rfl), List.map_map]
    exact congrArg D.lst (List.map_congr_left fun o ho => hbk o ho)
  refine hs_set 2 sc_mind.nd (pd_tup (pds_cons (pd_net LK le (pd_var 0)) (pds_cons (pd_times LK le (pd_var 0)) (pds_cons (pd_person LK le (pd_var 0)) (pds_cons (pd_cares LK le (pd_var 0)) (pds_cons (pd_var 1) (pds_cons (pd_tupleL B.tup (pd_sset rfl B.srt B.set (pd_clst le 2 (pd_secrets LK le (pd_var 0)) rfl) hns)) (pds_one (pd_asks LK le (pd_var 0)))))))))) ?_
  exact hs_ret (PD.to (pd_catT (pd_var 2) (pd_tup (pds_cons (pd_tupleL B.tup (pd_clst le 3 (pd_onward LK le (pd_var 0)) rfl)) (pds_cons (pd_tupleL B.tup (pd_clst le 4 (pd_pairs LK le (pd_var 0)) rfl)) (pds_cons (pd_tupleL B.tup (pd_clst le 5 (pd_wishes LK le (pd_var 0)) rfl)) (pds_one (pd_tupleL B.tup (pd_sort0 rfl B.srt (pd_clst le 6 (pd_left LK le (pd_var 0)) rfl)))))))) (zz rfl)) (by
    show D.tup _ = D.tup _
    have hb : ∀ o, (mind st).bk o = st.bk o := fun o => by cases o <;> rfl
    have : (n.pls.map fun o => eBk (n.ck o) o ((mind st).bk o)) = n.pls.map fun o => eBk (n.ck o) o (st.bk o) := List.map_congr_left fun o _ => by rw [hb]
    rw [this]
    rfl))
end
end Sd
namespace Sd
open PySem L2
/-! ### expressions that make new cells -/
abbrev RN := D → Cs → Prop
def tNw (F : Asr) (cs : Cs) (env : Ev) (R : RN) : TE := fun σ H Q => LkP F cs H ∧ EnvR H σ env ∧ ∀ v H' d nc, R d nc → LkP F (cs ++ nc) H' → Rep H' d v → d.fix = true → Tr H H' → Q v H'
def RsR : List RN → List D → Cs → Prop
  | [], ds, nc => ds = [] ∧ nc = []
  | R :: Rs, ds, nc => ∃ d n1 ds' n2, ds = d :: ds' ∧ nc = n1 ++ n2 ∧ R d n1 ∧ RsR Rs ds' n2
def tNws (F : Asr) (cs : Cs) (env : Ev) (Rs : List RN) : TA := fun σ H Q => LkP F cs H ∧ EnvR H σ env ∧ ∀ vs H' ds nc, RsR Rs ds nc → LkP F (cs ++ nc) H' → RepL H' ds vs → fixL ds = true → Tr H H' → Q vs H'
def rDat (d0 : D) : RN := fun d nc => d = d0 ∧ nc = []
def rLst (ds : List D) : RN := fun d nc => ∃ p, d = .ref p ∧ nc = [(p, .lst ds)]
section
variable {X : Cx} {F : Asr} {cs : Cs} {env : Ev} {e : Expr} {es : List Expr} {d : D} {ds : List D} {pos : Pos}
theorem nw_pd (h : PD X (Lk F cs) env e d) (hf : d.fix = true) : PE X e (tNw F cs env (rDat d)) := h.wk fun σ H Q ⟨hI, hE, k⟩ => ⟨hI, hE, fun v H' s r => k v H' d [] ⟨rfl, rfl⟩ (by rw [List.append_nil]; exact (Lk F cs).mono s hI) r hf (Tr.of s)⟩
theorem nw_pl (h : PL X (Lk F cs) env e ds) (hf : fixL ds = true) : PE X e (tNw F cs env (rLst ds)) := h.wk fun σ H Q ⟨hI, hE, k⟩ => ⟨hI, hE, fun p xs H' s hp hx r => k (.ref p) H' (.ref p) [(p, .lst ds)] ⟨p, rfl, rfl⟩ (hI.new s hp ⟨hf, xs, hx, r⟩) rfl rfl (Tr.of s)⟩
theorem nws_nil : PA X [] (tNws F cs env []) := pa_nil.wk fun σ H Q ⟨hI, hE, k⟩ => k [] H [] [] ⟨rfl, rfl⟩ (by rw [List.append_nil]; exact hI) rfl rfl (Tr.refl H)
theorem nws_cons {R : RN} {Rs : List RN} (hE0 : fixE env = true) (h : PE X e (tNw F cs env R)) (hr : ∀ nc, PA X es (tNws F (cs ++ nc) env Rs)) (hs : starEach (e :: es) X.env = (false, eval e X.env) :: starEach es X.env := by rfl) : PA X (e :: es) (tNws F cs env (R :: Rs)) := by
  have hr' : PA X es (fun σ H Q => ∃ nc : Cs, True ∧ tNws F (cs ++ nc) env Rs σ H Q) := ⟨fun pos pins s σ H Q I ⟨nc, _, q⟩ => (hr nc).run pos pins s σ H Q I q⟩
  exact (pa_cons h hr' hs).wk fun σ H Q ⟨hI, hE, k⟩ => ⟨hI, hE, fun v H1 d n1 hR hP r hf t1 => ⟨n1, trivial, hP, hE.tr t1 (fixE_get hE0), fun vs H2 ds n2 hRs hP2 r2 hf2 t2 => k (v :: vs) H2 (d :: ds) (n1 ++ n2) ⟨d, n1, ds, n2, rfl, rfl, hR, hRs⟩ (by rw [← List.append_assoc]; exact hP2) (by unfold RepL; exact ⟨v, vs, rfl, r.tr t2 hf, r2⟩) (by show (d.fix && fixL ds) = true; rw [hf, hf2]; rfl) (t1.trans t2)⟩⟩
theorem lkp_new {cs2 : Cs} {H : Hp} {p : Addr} {xs : List V} (h : LkP F cs2 H) (hp : H p = none) : LkP F cs2 (upd H p (.tup xs)) := (Lk F cs2).mono (Same.new hp) h
/-- a tuple of such -/
def rTup (Rs : List RN) : RN := fun d nc => ∃ ds, d = .tup ds ∧ RsR Rs ds nc
theorem RsR.length : ∀ {Rs : List RN} {ds : List D} {nc : Cs}, RsR Rs ds nc → ds.length = Rs.length
  | [], ds, nc, ⟨h, _⟩ => by subst h; rfl
  | R :: Rs, ds, nc, ⟨d, n1, ds', n2, h, _, _, h2⟩ => by subst h; rw [List.length_cons, List.length_cons, RsR.length h2]
theorem nw_tup {x1} {Rs : List RN} (h : PA X es (tNws F cs env Rs)) (hz : Rs.length ≤ 100) : PE X (.Tuple es x1 pos) (tNw F cs env (rTup Rs)) :=
  (pe_tup h).wk fun σ H Q ⟨hI, hE, k⟩ => ⟨hI, hE, fun vs H' ds nc hR hP r hf t => ⟨by rw [r.length, hR.length, sizeLine_eq]; omega, fun p hp => k _ _ (.tup ds) nc ⟨ds, rfl, hR⟩ (lkp_new hP hp) (Rep.tup_new hp r) hf (t.trans (Tr.of (Same.new hp)))⟩⟩
/-! ### fields as targets -/
def putAll : List (Str × D) → List Str → List D → List (Str × D)
  | fs, f :: ns, d :: ds => putAll (putA fs f d) ns ds
  | fs, _, _ => fs
def tGA (F : Asr) (a C : Addr) (fs : List (Str × D)) (cs : Cs) (env : Ev) (f : Str) (d : D) : TG := fun v σ H Q => LkP F ((a, .ins C fs) :: cs) H ∧ Rep H d v ∧ d.fix = true ∧ EnvR H σ env ∧ ∀ H', LkP F ((a, .ins C (putA fs f d)) :: cs) H' → Tr H H' → Q σ H'
def tGAs (F : Asr) (a C : Addr) (fs : List (Str × D)) (cs : Cs) (env : Ev) (ns : List Str) (ds : List D) : TGs := fun vs σ H Q => LkP F ((a, .ins C fs) :: cs) H ∧ RepL H ds vs ∧ fixL ds = true ∧ EnvR H σ env ∧ ∀ H', LkP F ((a, .ins C (putAll fs ns ds)) :: cs) H' → Tr H H' → Q σ H'
theorem LkP.field {a C : Addr} {fs : List (Str × D)} {H : Hp} {f : Str} {v : V} (h : LkP F ((a, .ins C fs) :: cs) H) (r : Rep H d v) (hf : d.fix = true) : ∃ dx vs, H a = some (.ins C dx vs) ∧ vs.length = fs.length ∧ LkP F ((a, .ins C (putA fs f d)) :: cs) (upd H a (.ins C dx (putF f v vs))) ∧ Tr H (upd H a (.ins C dx (putF f v vs))) := by
  obtain ⟨fx, dx, vs, hv, rv⟩ := h.at_ 0 _ rfl
  have t : Tr H (upd H a (.ins C dx (putF f v vs))) := Tr.upd fun xs e => by rw [hv] at e; cases e
  have hc : CoAt (upd H a (.ins C dx (putF f v vs))) a (.ins C (putA fs f d)) := ⟨fixK_put fx hf, dx, _, upd_same, FRep.put (rv.tr t fx) (r.tr t hf)⟩
  obtain ⟨hP, hT⟩ := h.put (i := 0) rfl hc
  exact ⟨dx, vs, hv, rv.length, hP, hT⟩
theorem pg_attr {a C : Addr} {fs : List (Str × D)} {f : Str} {o : Expr} (ho : ∀ cs', PD X (Lk F cs') env o (.ref a)) (c : Cls X.K C) (n : NoAttr X.K C f) (hz : fs.length < 900)
    (ha : ∀ v, assign (.Attribute o f pos) X.env v = (do
      let ov ← holding [v] (eval o X.env)
      standAt pos.atName
      holding [v, ov] (setAttr ov f v)
      release [v, ov] []) := by intro _; rfl) : PG X (.Attribute o f pos) (tGA F a C fs cs env f d) := by
  refine ⟨fun pins s σ H v u Q I r ⟨hL, rd, hf, hE, k⟩ => ?_⟩
  rw [ha]
  refine wpAny_bind (wpAny_holding (thn ((ho _).run pins s σ H (fun x H1 => x = .ref a ∧ Same H H1) I ⟨hL, hE, fun x H1 s1 r1 => ⟨r1, s1⟩⟩) fun ov s1 ⟨x, H1, I1, r1, ex, s1'⟩ => ?_))
  subst ex
  obtain rfl : ov = Value.ref a := r1
  obtain ⟨dx, vs, hv, hl, hP, hT⟩ := LkP.field (f := f) ((Lk F _).mono s1' hL) (rd.mono s1') hf
  refine wpAny_bind (wpAny_standAt (wpAny_bind (wpAny_holding (setattr_ok I1 hv c n (by omega) r fun s3 I3 => ?_))))
  exact wpAny_release ⟨σ, _, I3, k _ hP ((Tr.of s1').trans hT)⟩
theorem pgsA_nil {a C : Addr} {fs : List (Str × D)} : PGs X [] (tGAs F a C fs cs env [] []) := pgs_nil.wk fun v σ H Q ⟨hL, r, _, hE, k⟩ => ⟨r, k H hL (Tr.refl H)⟩
theorem pgsA_cons {a C : Addr} {fs : List (Str × D)} {f : Str} {ns : List Str} (hE0 : fixE env = true) (h1 : PG X e (tGA F a C fs cs env f d)) (h2 : PGs X es (tGAs F a C (putA fs f d) cs env ns ds)) (hs : (assignEach (e :: es) X.env).map (·.2) = assign e X.env :: (assignEach es X.env).map (·.2) := by rfl) : PGs X (e :: es) (tGAs F a C fs cs env (f :: ns) (d :: ds)) :=
  (pgs_cons h1 h2 hs).wk fun vs σ H Q ⟨hL, r, hf, hE, k⟩ => by
    unfold RepL at r
    obtain ⟨v, r', e1, r1, r2⟩ := r
    have hf' : (d.fix && fixL ds) = true := hf
    rw [Bool.and_eq_true] at hf'
    exact ⟨v, r', e1, hL, r1, hf'.1, hE, fun H1 hP t1 => ⟨hP, r2.tr t1 hf'.2, hf'.2, hE.tr t1 (fixE_get hE0), fun H2 hP2 t2 => k H2 hP2 (t1.trans t2)⟩⟩
/-- self.f, self.g, .. = x, y, ..: new cells may be made -/
theorem hs_asgA {a C : Addr} {fs : List (Str × D)} {ns : List Str} {Rs : List RN} {tgs : List Expr} {tp pos2 : Pos} {kt nn : Nat} {rest : List Stmt} {O : Ends → Prop} (hc : X.calm = true) (hE0 : fixE env = true) (he : PE X e (tNw F ((a, .ins C fs) :: cs) env (rTup Rs))) (hg : ∀ nc ds, RsR Rs ds nc → PGs X tgs (tGAs F a C fs (cs ++ nc) env ns ds)) (hl : Rs.length = nn)
    (hr : ∀ nc ds, RsR Rs ds nc → HS X (Lk F ((a, .ins C (putAll fs ns ds)) :: (cs ++ nc))) env rest O) (hs : swapsWithSole [.Tuple tgs kt tp] e pos2.line X.env = pure false := by rfl) (hw : swappedStores [.Tuple tgs kt tp] e X.env = pure none := by rfl)
    (h1 : (assignEach [.Tuple tgs kt tp] X.env).map (·.2) = [assign (.Tuple tgs kt tp) X.env] := by rfl) (hn : (assignEach tgs X.env).length = nn := by rfl) (hst : (assignEach tgs X.env).findIdx? (·.1) = none := by rfl) : HS X (Lk F ((a, .ins C fs) :: cs)) env (.Assign [.Tuple tgs kt tp] e pos2 :: rest) O := by
  have hg' : PGs X tgs (fun vs σ H Q => ∃ t : Cs × List D, RsR Rs t.2 t.1 ∧ tGAs F a C fs (cs ++ t.1) env ns t.2 vs σ H Q) := ⟨fun pins s σ H v u Q I r ⟨t, hp, q⟩ => (hg t.1 t.2 hp).run pins s σ H v u Q I r q⟩
  exact (pss_cons (ps_asg he (pg_tup hc hg' hn hst) hs hw h1) (L2.PSs.wk (t := fun E' σ H => ∃ t : Cs × List D, RsR Rs t.2 t.1 ∧ tS (Lk F ((a, .ins C (putAll fs ns t.2)) :: (cs ++ t.1))) env O E' σ H) (pss_exI fun t ht => hr t.1 t.2 ht) (fun _ _ _ h => h))).wk
    fun D σ H ⟨hI, hE, k⟩ => ⟨hI, hE, fun v H1 d nc ⟨ds, ed, hR⟩ hP r hf t1 => by
      subst ed
      obtain ⟨q, ys, ev, hq, hrl⟩ := r.tup_inv
      subst ev
      exact ⟨q, ys, rfl, SqT.of hq, by rw [hrl.length, hR.length]; exact hl, (nc, ds), hR, hP, hrl, hf, hE.tr t1 (fixE_get hE0), fun H2 hP2 t2 => ⟨(nc, ds), hR, hP2, (hE.tr t1 (fixE_get hE0)).tr t2 (fixE_get hE0), k⟩⟩⟩
end
end Sd
namespace Sd
open PySem L2
theorem RsR.snoc {R : RN} {d : D} {n : Cs} (hd : R d n) : ∀ {Rs : List RN} {ds : List D} {nc : Cs}, RsR Rs ds nc → RsR (Rs ++ [R]) (ds ++ [d]) (nc ++ n)
  | [], ds, nc, ⟨h1, h2⟩ => by subst h1 h2; exact ⟨d, n, [], [], rfl, by simp, hd, rfl, rfl⟩
  | R0 :: Rs, ds, nc, ⟨d0, n1, ds', n2, h1, h2, h3, h4⟩ => by
    subst h1 h2
    exact ⟨d0, n1, ds' ++ [d], n2 ++ n, rfl, by rw [List.append_assoc], h3, RsR.snoc hd h4⟩
theorem putA_new : ∀ {kvs : List (Int × D)} {k : Int} {d : D}, getA kvs k = none → putA kvs k d = kvs ++ [(k, d)]
  | [], _, _, _ => rfl
  | (k0, d0) :: r, k, d, h => by
    unfold getA at h
    split at h
    · cases h
    · rename_i hk
      unfold putA
      rw [if_neg hk, putA_new h]; rfl
theorem getA_zip {kf : D → Int} : ∀ {ds vals : List D} {k : Int}, (∀ d ∈ ds, kf d ≠ k) → getA ((ds.map kf).zip vals) k = none
  | [], _, _, _ => rfl
  | d :: ds, [], _, _ => rfl
  | d :: ds, v :: vals, k, h => by
    show getA ((kf d, v) :: (ds.map kf).zip vals) k = none
    unfold getA
    rw [if_neg (h d List.mem_cons_self)]
    exact getA_zip fun e he => h e (List.mem_cons_of_mem _ he)
/-- a new dict, by the keys of ds, and what its values make -/
def rDc (ds : List D) (kf : D → Int) (Rv : D → RN) : RN := fun d nc => ∃ p vals n', d = .ref p ∧ RsR (ds.map Rv) vals n' ∧ nc = (p, .dct none ((ds.map kf).zip vals)) :: n'
section
variable {X : Cx} {F : Asr} {cs : Cs} {env : Ev}
theorem nw_dc {x : Str} {j : Nat} {kx vx iter : Expr} {scope : Scope} {xp pos : Pos} {ds : List D} {kf : D → Int} {Rv : D → RN} (hc : X.calm = true) (hN : X.N.Nodup) (hfe : fixE env = true) (hi : PD X (Lk F cs) env iter (.tup ds)) (ok : BlkOk X.N X.env.scope scope [(x, j)]) (hf : fixL ds = true) (hz : ds.length ≤ 50)
    (hnd : ∀ (i i' : Nat) d d', ds[i]? = some d → ds[i']? = some d' → kf d = kf d' → i = i')
    (hk : ∀ (s : Shared) (H : Hp) (C : Addr) (cl : List (Str × Addr)) (fp : List Addr) cs', ∀ d ∈ ds, PD (X.blk s H scope (compEnvC scope cl C X.env) fp) (Lk F cs') ((wipeE env [j]).set j (some d)) kx (.int (kf d)))
    (hv : ∀ (s : Shared) (H : Hp) (C : Addr) (cl : List (Str × Addr)) (fp : List Addr) cs', ∀ d ∈ ds, PE (X.blk s H scope (compEnvC scope cl C X.env) fp) vx (tNw F cs' ((wipeE env [j]).set j (some d)) (Rv d)))
    (hl : ∀ (s : Shared) (H : Hp) (C : Addr) (cl : List (Str × Addr)) (fp : List Addr), (X.blk s H scope (compEnvC scope cl C X.env) fp).env.scope.names.lookup x = some .local := by intro _ _ _ _ _; rfl)
    (hs : ∀ x, foldedSetIterable iter X.env x = pure x := by intro _; rfl) : PE X (.DictComp kx vx [⟨.Name x xp, iter, [], 0⟩] scope pos) (tNw F cs env (rDc ds kf Rv)) := by
  refine (pe_dc (g := gName j) (tt := tYes) (tk := fun σ H Q => ∃ t : Cs × D, t.2 ∈ ds ∧ tD (Lk F t.1) ((wipeE env [j]).set j (some t.2)) (.int (kf t.2)) σ H Q) (tv := fun σ H Q => ∃ t : Cs × D, t.2 ∈ ds ∧ tNw F t.1 ((wipeE env [j]).set j (some t.2)) (Rv t.2) σ H Q) hc hN (pi_tup hi) ok
    (fun s H C cl fp => pg_name (i := j) hN (ok.ix (x, j) List.mem_cons_self) (Or.inl (hl s H C cl fp)) (.inr (hl s H C cl fp))) (fun s H C cl fp => pts_nil) (fun s H C cl fp => pe_exI fun (t : Cs × D) h => hk s H C cl fp t.1 t.2 h) (fun s H C cl fp => pe_exI fun (t : Cs × D) h => hv s H C cl fp t.1 t.2 h) hs).wk fun σ H Q ⟨hI, hE, k⟩ => ⟨hI, hE, fun v H1 s1 r1 => ?_⟩
  obtain ⟨a, xs, ev, ha, hlr⟩ := r1.tup_inv
  subst ev
  have hI1 := (Lk F cs).mono s1 hI
  have hE1 := hE.mono s1
  have hlen := hlr.length
  refine ⟨a, rfl, ⟨xs, SqT.of ha⟩, fun L hL => ?_⟩
  refine dc_tup (K := X.K) (a := a) (xs := xs) (g := gName j) (tt := tYes) (tk := fun σ H Q => ∃ t : Cs × D, t.2 ∈ ds ∧ tD (Lk F t.1) ((wipeE env [j]).set j (some t.2)) (.int (kf t.2)) σ H Q) (tv := fun σ H Q => ∃ t : Cs × D, t.2 ∈ ds ∧ tNw F t.1 ((wipeE env [j]).set j (some t.2)) (Rv t.2) σ H Q) (vs := [j]) (σ := σ) (H1 := H1) (D := L) (Qd := fun H' => Q (.ref L) H')
    (fun i H' => Tr H1 H' ∧ ∃ vals n', RsR ((ds.take i).map Rv) vals n' ∧ LkP F (cs ++ (L, .dct none (((ds.take i).map kf).zip vals)) :: n') H') ⟨Tr.of (Same.new hL), [], [], ⟨rfl, rfl⟩, hI1.new (Same.new hL) hL ⟨rfl, trivial, [], upd_same, rfl⟩⟩ (fun i H' _ p => SqT.of (p.1 _ _ ha)) (fun i u H2 hu p => ?_) (fun H2 p => ?_)
  · obtain ⟨t2, vals, n', hR, hP⟩ := p
    obtain ⟨d, hd, rd⟩ := hlr.rget hu
    have mem : d ∈ ds := List.mem_of_getElem? hd
    have rd2 := rd.tr t2 (fixL_mem hf d mem)
    have hE2 : EnvR H2 σ env := hE1.tr t2 (fixE_get hfe)
    refine ⟨?_, ?_⟩
    · show ((σ.set j none).set j (some u)).set j none = σ.set j none
      rw [List.set_set, List.set_set]
    · delta tYes
      refine Eq.mpr (if_pos rfl) ?_
      refine ⟨(_, d), mem, hP, (hE2.wipe [j]).set rd2, fun y H3 s3 r3 => ⟨(_, d), mem, (Lk F _).mono s3 hP, ((hE2.wipe [j]).set rd2).mono s3, fun w H4 dv n hRv hP4 r4 hfv t4 => ?_⟩⟩
      have ey : y = .int (kf d) := r3
      subst ey
      have hget : (cs ++ (L, Co.dct none (((ds.take i).map kf).zip vals)) :: n' ++ n)[cs.length]? = some (L, .dct none (((ds.take i).map kf).zip vals)) := by
        rw [List.append_assoc, List.getElem?_append_right (Nat.le_refl _), Nat.sub_self]; rfl
      obtain ⟨fx, nd, kvs, hkv, rkv⟩ := hP4.at_ _ _ hget
      have hkv : H4 L = some (.dK kvs) := hkv
      have tput : Tr H4 (upd H4 L (.dK (putK kvs (.inl (kf d)) w))) := Tr.upd fun xs e => by rw [hkv] at e; cases e
      have hgn : getA (((ds.take i).map kf).zip vals) (kf d) = none := getA_zip fun e he hq => by
        obtain ⟨i', hi'⟩ := List.mem_iff_getElem?.mp he
        have hlt : i' < i := by
          have := (List.getElem?_eq_some_iff.mp hi').1
          rw [List.length_take] at this
          omega
        rw [List.getElem?_take_of_lt hlt] at hi'
        have := hnd i' i e d hi' hd hq
        omega
      have hcc : CoAt (upd H4 L (.dK (putK kvs (.inl (kf d)) w))) L (.dct none (putA (((ds.take i).map kf).zip vals) (kf d) dv)) := ⟨fixK_put fx hfv, keysNd_put nd, _, upd_same, KRep.put nd (rkv.tr tput fx) (r4.tr tput hfv)⟩
      obtain ⟨hP5, t5⟩ := hP4.put hget hcc
      have hlv : vals.length = (ds.take i).length := by rw [hR.length, List.length_map]
      refine ⟨kvs, .inl (kf d), rfl, hkv, ?_, ((t2.trans (Tr.of s3)).trans t4).trans t5, vals ++ [dv], n' ++ n, ?_, ?_⟩
      · rw [rkv.length, List.length_zip, List.length_map, List.length_take, sizeLine_eq]; omega
      · rw [take_succ_of hd, List.map_append]
        exact RsR.snoc hRv hR
      · rw [putA_new hgn] at hP5
        have e1 : (cs ++ (L, Co.dct none (((ds.take i).map kf).zip vals)) :: n' ++ n).set cs.length (L, .dct none (((ds.take i).map kf).zip vals ++ [(kf d, dv)])) = cs ++ (L, .dct none (((ds.take i).map kf).zip vals ++ [(kf d, dv)])) :: (n' ++ n) := by
          rw [List.append_assoc, List.set_append_right _ _ (Nat.le_refl _), Nat.sub_self]; rfl
        rw [e1] at hP5
        have e2 : ((ds.take (i + 1)).map kf).zip (vals ++ [dv]) = ((ds.take i).map kf).zip vals ++ [(kf d, dv)] := by
          rw [take_succ_of hd, List.map_append, List.zip_append (by rw [List.length_map, hlv])]; rfl
        rw [e2]
        exact hP5
  · obtain ⟨t2, vals, n', hR, hP⟩ := p
    rw [hlen, List.take_length] at hR hP
    exact k (.ref L) H2 (.ref L) _ ⟨L, vals, n', rfl, hR, rfl⟩ hP rfl rfl ((Tr.of s1).trans t2)
/-- self.f = what makes new cells -/
theorem hs_fldA {a C : Addr} {fs : List (Str × D)} {f : Str} {R : RN} {o e : Expr} {pos pos' : Pos} {rest : List Stmt} {O : Ends → Prop} (hE0 : fixE env = true) (ho : ∀ cs', PD X (Lk F cs') env o (.ref a)) (c : Cls X.K C) (n : NoAttr X.K C f) (hz : fs.length < 900) (he : PE X e (tNw F ((a, .ins C fs) :: cs) env R))
    (hr : ∀ nc d, R d nc → HS X (Lk F ((a, .ins C (putA fs f d)) :: (cs ++ nc))) env rest O) (hs : swapsWith e (some (.Attribute o f pos')) pos.line X.env = pure false := by rfl) : HS X (Lk F ((a, .ins C fs) :: cs)) env (.Assign [.Attribute o f pos'] e pos :: rest) O := by
  have ho' : PE X o (fun σ H Q => ∃ cs' : Cs, True ∧ tD (Lk F cs') env (.ref a) σ H Q) := pe_exI fun cs' _ => ho cs'
  exact (pss_cons (ps_fld ho' he hs) (L2.PSs.wk (t := fun E' σ H => ∃ t : Cs × D, R t.2 t.1 ∧ tS (Lk F ((a, .ins C (putA fs f t.2)) :: (cs ++ t.1))) env O E' σ H) (pss_exI fun t ht => hr t.1 t.2 ht) (fun _ _ _ h => h))).wk
    fun D σ H ⟨hI, hE, k⟩ => ⟨hI, hE, fun v H1 d nc hR hP r hf t1 => ⟨(a, .ins C fs) :: (cs ++ nc), trivial, hP, hE.tr t1 (fixE_get hE0), fun x H2 s2 r2 => by
      have ex : x = .ref a := r2
      subst ex
      obtain ⟨dx, vs, hv, hl, hP2, t2⟩ := LkP.field (f := f) ((Lk F _).mono s2 hP) (r.mono s2) hf
      exact ⟨a, C, dx, vs, rfl, hv, c, n, by omega, (nc, d), hR, hP2, ((hE.tr t1 (fixE_get hE0)).mono s2).tr t2 (fixE_get hE0), k⟩⟩⟩
end
/-- the cells in another order -/
theorem LkP.perm {F : Asr} {cs cs' : Cs} {H : Hp} (h : LkP F cs H) (p : cs'.Perm cs) : LkP F cs' H := by
  have hnd : (cs.map Prod.fst).Nodup := by
    refine List.pairwise_iff_getElem.mpr fun i j hi hj hij he => ?_
    rw [List.length_map] at hi hj
    rw [List.getElem_map, List.getElem_map] at he
    have := h.nd i j _ _ (List.getElem?_eq_getElem hi) (List.getElem?_eq_getElem hj) he
    omega
  have hnd' : (cs'.map Prod.fst).Nodup := ((p.map Prod.fst).nodup_iff).mpr hnd
  have hw : Hws H cs' = Hws H cs := by
    funext b
    unfold Hws
    by_cases hb : b ∈ cs.map Prod.fst
    · rw [if_pos hb, if_pos ((p.map Prod.fst).mem_iff.mpr hb)]
    · rw [if_neg hb, if_neg (fun z => hb ((p.map Prod.fst).mem_iff.mp z))]
  refine ⟨by rw [hw]; exact h.fr, fun i j q r e1 e2 e3 => ?_, fun i q e => ?_⟩
  · have hi := (List.getElem?_eq_some_iff.mp e1).1
    have hj := (List.getElem?_eq_some_iff.mp e2).1
    have pw := List.pairwise_iff_getElem.mp hnd'
    have q1 : cs'[i] = q := (List.getElem?_eq_some_iff.mp e1).2
    have r1 : cs'[j] = r := (List.getElem?_eq_some_iff.mp e2).2
    rcases Nat.lt_trichotomy i j with hlt | heq | hgt
    · have z := pw i j (by rw [List.length_map]; exact hi) (by rw [List.length_map]; exact hj) hlt
      rw [List.getElem_map, List.getElem_map, q1, r1] at z
      exact absurd e3 z
    · exact heq
    · have z := pw j i (by rw [List.length_map]; exact hj) (by rw [List.length_map]; exact hi) hgt
      rw [List.getElem_map, List.getElem_map, q1, r1] at z
      exact absurd e3.symm z
  · obtain ⟨i', hi'⟩ := List.mem_iff_getElem?.mp (p.mem_iff.mp (List.mem_of_getElem? e))
    exact h.at_ i' q hi'
end Sd
namespace Sd
open PySem L2
def OkMi (x : Mi) : Prop := OkW x.bi.wan ∧ OkW x.bo.wan
theorem OkMi.bk {x : Mi} (h : OkMi x) (o : Bool) : OkW (x.bk o).wan := by
  cases o
  · exact h.1
  · exact h.2
def kf0 : D → Int
  | .tup (.int k :: _) => k
  | _ => 0
def bksL (n : Pn) (x : Mi) : List D := n.pls.map fun o => eBk (n.ck o) o (x.bk o)
theorem kf_bk (c : Ck) (o : Bool) (b : Bk) : kf0 (eBk c o b) = (c.k : Int) := rfl
theorem bks_fix {n : Pn} {x : Mi} (h : OkMi x) : fixL (bksL n x) = true := by
  unfold bksL
  generalize n.pls = l
  induction l with
  | nil => rfl
  | cons o l ih =>
    show ((eBk (n.ck o) o (x.bk o)).fix && fixL (l.map fun o => eBk (n.ck o) o (x.bk o))) = true
    rw [eBk_fix _ _ (h.bk o), ih]; rfl
theorem bks_nd {n : Pn} (ok : OkPn n) (x : Mi) : ∀ (i i' : Nat) d d', (bksL n x)[i]? = some d → (bksL n x)[i']? = some d' → kf0 d = kf0 d' → i = i' := by
  intro i i' d d' h1 h2 h3
  unfold bksL Pn.pls at h1 h2
  cases hI : n.hI <;> cases hO : n.hO <;> rw [hI, hO] at h1 h2
  · simp at h1
  · cases i <;> cases i' <;> simp at h1 h2; rfl
  · cases i <;> cases i' <;> simp at h1 h2; rfl
  · have hk := key_ne ok hI hO
    have k0 : kf0 (eBk (n.ck false) false (x.bk false)) = (n.key false : Int) := rfl
    have k1 : kf0 (eBk (n.ck true) true (x.bk true)) = (n.key true : Int) := rfl
    match i, i', h1, h2 with
    | 0, 0, _, _ => rfl
    | 0, 1, h1, h2 => simp at h1 h2; subst h1 h2; rw [k0, k1] at h3; omega
    | 1, 0, h1, h2 => simp at h1 h2; subst h1 h2; rw [k0, k1] at h3; omega
    | 1, 1, _, _ => rfl
    | 0, i' + 2, _, h2 => simp at h2
    | 1, i' + 2, _, h2 => simp at h2
    | i + 2, _, h1, _ => simp at h1
theorem asks_fix (n : Pn) : fixL (asksD n) = true := by unfold asksD; cases n.ask <;> rfl
theorem net_fix {n : Pn} (ok : OkPn n) : (eNet n.cs).fix = true := D.tk_fix (tk_net ok.net.1).1
theorem perm4 {α : Type} (l d w q : α) : [l, d, w, q].Perm [w, l, d, q] := (List.perm_append_comm (l₁ := [l, d]) (l₂ := [w])).append_right [q]
theorem perm6 {α : Type} (l d wi qi wo qo : α) : [l, d, wi, qi, wo, qo].Perm [wi, wo, l, d, qi, qo] :=
  (((List.Perm.swap wo qi [qo]).cons wi).cons d |>.cons l).trans ((List.perm_append_comm (l₁ := [l, d]) (l₂ := [wi, wo])).append_right [qi, qo])
theorem sm0 : ([] : List (Str × D)).length ≤ 0 := Nat.le_refl _
theorem smS {fs : List (Str × D)} {f : Str} {d : D} {k : Nat} (h : fs.length ≤ k) : (putA fs f d).length ≤ k + 1 := by
  induction fs generalizing k with
  | nil => exact Nat.succ_le_succ (Nat.zero_le _)
  | cons x fs ih =>
    obtain ⟨g, e⟩ := x
    unfold putA
    split
    · exact Nat.le_trans h (Nat.le_succ _)
    · cases k with
      | zero => simp at h
      | succ k => exact Nat.succ_le_succ (ih (Nat.le_of_succ_le_succ h))
theorem smL {fs : List (Str × D)} {k : Nat} (h : fs.length ≤ k) (hk : k < 900 := by decide) : fs.length < 900 := Nat.lt_of_le_of_lt h hk
def ledD (n : Pn) : D := .tup (List.replicate n.cs.length .non)
def spI (C : Addr) : Sp := fun vs H Q _ => ∃ F n m x a, n.C = C ∧ OkPn n ∧ OkMi x ∧ n.wsh.fix = true ∧ LkP F [(a, .ins C [])] H ∧ RepL H [.ref a, eMind n x, .int m, ledD n] vs ∧ ∀ H', (LkE F n m (lo0 x) a).p H' → Tr H H' → Q .non H'
theorem rep_non (k : Nat) : fixL (List.replicate k D.non) = true := by
  induction k with
  | zero => rfl
  | succ k ih => show (true && fixL (List.replicate k D.non)) = true; rw [ih]; rfl
theorem RsR_dat : ∀ {l vals : List D} {nc : Cs}, RsR (l.map rDat) vals nc → vals = l ∧ nc = []
  | [], vals, nc, ⟨h1, h2⟩ => ⟨h1, h2⟩
  | d :: l, vals, nc, ⟨d', n1, ds', n2, h1, h2, ⟨h3, h4⟩, h5⟩ => by
    obtain ⟨e1, e2⟩ := RsR_dat h5
    subst h1 h2 h3 h4 e1 e2
    exact ⟨rfl, rfl⟩
theorem pl_listT {X : Cx} {I : Asr} {env : Ev} {e : Expr} {ds : List D} {pos p : Pos} (hm : X.mg "list" = none) (ha : PD X I env e (.tup ds)) (hg : Gl X "list" := by rfl)
    (he : starEach (e :: []) X.env = (false, eval e X.env) :: starEach [] X.env := by rfl) (hpl : (backTo pos (starEach [] X.env)).any (·.1) = false := by rfl) : PL X I env (.Call (.Name "list" p) [e] [] pos) ds :=
  (pe_callTy call_list_of hg hm bt_list (pds_cons ha pds_nil he) (by decide) (by decide) he hpl).wk fun σ H Q ⟨hI, hE, k⟩ => ⟨hI, hE, fun xs H1 s1 r => by
    obtain ⟨v, e1, r1⟩ := r.one
    obtain ⟨q, ys, e2, hq, hl⟩ := r1.tup_inv
    subst e1 e2
    exact ⟨q, ys, rfl, .inr (SqT.of hq), fun l hl' => k l ys _ (s1.trans (Same.new hl')) (s1.free hl') upd_same (hl.mono (Same.new hl'))⟩⟩
theorem zip_bks (n : Pn) (x : Mi) : ((bksL n x).map kf0).zip (bksL n x) = booksD n (lo0 x) := by
  have e : booksD n (lo0 x) = n.pls.map fun o => ((n.key o : Int), eBk (n.ck o) o (x.bk o)) := List.map_congr_left fun o _ => by cases o <;> rfl
  rw [e]
  unfold bksL
  generalize n.pls = l
  induction l with
  | nil => rfl
  | cons o l ih => exact congrArg (List.cons ((n.key o : Int), eBk (n.ck o) o (x.bk o))) ih
theorem bks_len (n : Pn) (x : Mi) : (bksL n x).length ≤ 2 := by
  unfold bksL Pn.pls
  cases n.hI <;> cases n.hO <;> simp
/-- what the dicts of new empty lists are -/
def NewLs (n : Pn) (kvs : List (Int × D)) (nc : Cs) : Prop := ∃ wi wo, kvs = refsD n (fun o => if o then wo else wi) ∧ nc = n.pls.map fun o => ((if o then wo else wi), Co.lst [])
theorem newLs_of {n : Pn} {x : Mi} {vals : List D} {nc : Cs} (h : RsR ((bksL n x).map fun _ => rLst []) vals nc) : NewLs n (((bksL n x).map kf0).zip vals) nc := by
  unfold NewLs bksL refsD Pn.pls at *
  cases hI : n.hI <;> cases hO : n.hO <;> rw [hI, hO] at h
  · obtain ⟨h1, h2⟩ := h
    subst h1 h2
    exact ⟨0, 0, rfl, rfl⟩
  · obtain ⟨_, _, _, _, rfl, rfl, ⟨p, rfl, rfl⟩, rfl, rfl⟩ := h
    exact ⟨0, p, rfl, rfl⟩
  · obtain ⟨_, _, _, _, rfl, rfl, ⟨p, rfl, rfl⟩, rfl, rfl⟩ := h
    exact ⟨p, 0, rfl, rfl⟩
  · obtain ⟨_, _, _, _, rfl, rfl, ⟨p, rfl, rfl⟩, _, _, _, _, rfl, rfl, ⟨p2, rfl, rfl⟩, rfl, rfl⟩ := h
    exact ⟨p, p2, rfl, rfl⟩
section
variable {P : Program} {w : World} {K : PySem.W.Frag} {mg : Str → Option Value} {base : Heap} {C : Addr}
theorem sc_init : FnScope ["self", "mind", "moment", "ledger", "net", "times", "person", "cares", "books", "secrets", "asks", "onward", "pairs", "wishes", "left", "book"] ["self", "mind", "moment", "ledger"] (defScope (mth 0)) := ⟨rfl, rfl, rfl, by decide +kernel, rfl, by decide +kernel, by decide +kernel⟩
theorem ok_init (B : Free mg) (LK : LookK K C) (f : Addr) (fd : FuncData) (FF : Fun K "__init__" "Look.__init__" (mth 0) f fd) : FnOk P w K mg base CX0 1 f fd ["self", "mind", "moment", "ledger"] (spI C) := by
  refine FF.ok sc_init (fun vs H Q E h => ?_) (fun cdv A outer s H vs Q E hr h => ?_)
  · obtain ⟨F, n, m, x, a, _, _, _, _, _, r, _⟩ := h
    rw [r.length]; rfl
  · obtain ⟨F, n, m, x, a, rfl, ok, hx, hwf, hL, r, q⟩ := h
    have fin : ∀ H', (LkE (F.and (trs H)) n m (lo0 x) a).p H' → Q .non H' := fun H' ⟨L', e, h⟩ => q H' ⟨L', e, h.frm fun _ z => z.1⟩ (h.fr.2.trans (Tr.of Hws_le))
    suffices hb : HS (bx P w K mg base ["self", "mind", "moment", "ledger", "net", "times", "person", "cares", "books", "secrets", "asks", "onward", "pairs", "wishes", "left", "book"] "Look.__init__" (mth 0) f cdv A outer s H E) (Lk (F.and (trs H)) [(a, .ins n.C [])]) (startE ["self", "mind", "moment", "ledger", "net", "times", "person", "cares", "books", "secrets", "asks", "onward", "pairs", "wishes", "left", "book"] [.ref a, eMind n x, .int m, ledD n]) (defBody (mth 0)) (oEnd (LkE (F.and (trs H)) n m (lo0 x) a)) from
      ⟨_, hb, ⟨⟨hL.fr, lk_trws hL⟩, hL.nd, hL.at_⟩, start_env r, fun σ H' h => fin H' h, fun H' h => fin H' h⟩
    generalize F.and (trs H) = F
    refine hs_asg (pd_var 1) (pgd_tup rfl (pgsd_cons (pgd_name 4 sc_init.nd) (pgsd_cons (pgd_name 5 sc_init.nd) (pgsd_cons (pgd_name 6 sc_init.nd) (pgsd_cons (pgd_name 7 sc_init.nd) (pgsd_cons (pgd_name 8 sc_init.nd) (pgsd_cons (pgd_name 9 sc_init.nd) (pgsd_cons (pgd_name 10 sc_init.nd) (pgsd_cons (pgd_name 11 sc_init.nd) (pgsd_cons (pgd_name 12 sc_init.nd) (pgsd_cons (pgd_name 13 sc_init.nd) (pgsd_cons (pgd_name 14 sc_init.nd) pgsd_nil)))))))))))) ?_
    have hbf := bks_fix (n := n) hx
    have fT : (eTimes n.t0 n.t1 n.t2).fix = true := rfl
    have fC : (D.tup [.int 0, .int 0, .int 0]).fix = true := rfl
    have fS : fixL (one x.sec (.int 7)) = true := one_fix rfl
    have fO : fixL (one x.onw n.eOnw) = true := one_fix (D.tk_fix (tk_onw ok).1)
    have fP : fixL (one x.pair n.ePair) = true := one_fix (pair_fix ok)
    have fW : fixL (one x.wish n.wsh) = true := one_fix hwf
    have fM : (eMind n x).fix = true := by
      show ((eNet n.cs).fix && (true && (true && (true && (fixL (bksL n x) && (fixL (one x.sec (.int 7)) && (fixL (asksD n) && (fixL (one x.onw n.eOnw) && (fixL (one x.pair n.ePair) && (fixL (one x.wish n.wsh) && (true && true))))))))))) = true
      rw [net_fix ok, hbf, fS, asks_fix, fO, fP, fW]; rfl
    have fLd : (ledD n).fix = true := rep_non _
    have hE : FixL [some (D.ref a), some (eMind n x), some (.int m), some (ledD n), some (eNet n.cs), some (eTimes n.t0 n.t1 n.t2), some (.int n.p), some (.tup [.int 0, .int 0, .int 0]), some (.tup (bksL n x)), some (.tup (one x.sec (.int 7))), some (.tup (asksD n)), some (.tup (one x.onw n.eOnw)), some (.tup (one x.pair n.ePair)), some (.tup (one x.wish n.wsh)), some (.tup []), none] :=
      .cons rfl (.cons fM (.cons rfl (.cons fLd (.cons (net_fix ok) (.cons fT (.cons rfl (.cons fC (.cons hbf (.cons fS (.cons (asks_fix n) (.cons fO (.cons fP (.cons fW (.cons rfl (.non .nil)))))))))))))))
    have hEf := fixE_of hE
    show HS _ (Lk F [(a, .ins n.C [])]) [some (D.ref a), some (eMind n x), some (.int m), some (ledD n), some (eNet n.cs), some (eTimes n.t0 n.t1 n.t2), some (.int n.p), some (.tup [.int 0, .int 0, .int 0]), some (.tup (bksL n x)), some (.tup (one x.sec (.int 7))), some (.tup (asksD n)), some (.tup (one x.onw n.eOnw)), some (.tup (one x.pair n.ePair)), some (.tup (one x.wish n.wsh)), some (.tup []), none] _ _
    refine hs_asgA (ns := ["net", "times", "person", "cares", "asks"]) (Rs := [rDat _, rDat _, rDat _, rDat _, rDat _]) rfl hEf (nw_tup (nws_cons hEf (nw_pd (pd_var 4) (net_fix ok)) fun _ => nws_cons hEf (nw_pd (pd_var 5) fT) fun _ => nws_cons hEf (nw_pd (pd_var 6) rfl) fun _ => nws_cons hEf (nw_pd (pd_var 7) fC) fun _ => nws_cons hEf (nw_pd (pd_var 10) (show (D.tup (asksD n)).fix = true from asks_fix n)) fun _ => nws_nil) (Nat.le_of_ble_eq_true rfl)) (fun nc ds hR => ?_) rfl (fun nc ds hR => ?_)
    · obtain ⟨_, _, _, _, rfl, _, ⟨rfl, _⟩, _, _, _, _, rfl, _, ⟨rfl, _⟩, _, _, _, _, rfl, _, ⟨rfl, _⟩, _, _, _, _, rfl, _, ⟨rfl, _⟩, _, _, _, _, rfl, _, ⟨rfl, _⟩, rfl, _⟩ := hR
      exact pgsA_cons hEf (pg_attr (fun _ => (pd_var 0)) LK.cl LK.net (smL (sm0))) (pgsA_cons hEf (pg_attr (fun _ => (pd_var 0)) LK.cl LK.times (smL (smS sm0))) (pgsA_cons hEf (pg_attr (fun _ => (pd_var 0)) LK.cl LK.person (smL (smS (smS sm0)))) (pgsA_cons hEf (pg_attr (fun _ => (pd_var 0)) LK.cl LK.cares (smL (smS (smS (smS sm0))))) (pgsA_cons hEf (pg_attr (fun _ => (pd_var 0)) LK.cl LK.asks (smL (smS (smS (smS (smS sm0)))))) pgsA_nil))))
    · obtain ⟨_, _, _, _, rfl, rfl, ⟨rfl, rfl⟩, _, _, _, _, rfl, rfl, ⟨rfl, rfl⟩, _, _, _, _, rfl, rfl, ⟨rfl, rfl⟩, _, _, _, _, rfl, rfl, ⟨rfl, rfl⟩, _, _, _, _, rfl, rfl, ⟨rfl, rfl⟩, rfl, rfl⟩ := hR
      have hl5 : (putAll [] ["net", "times", "person", "cares", "asks"] [eNet n.cs, eTimes n.t0 n.t1 n.t2, .int n.p, .tup [.int 0, .int 0, .int 0], .tup (asksD n)]).length ≤ 5 := smS (smS (smS (smS (smS sm0))))
      generalize hf5 : putAll [] ["net", "times", "person", "cares", "asks"] [eNet n.cs, eTimes n.t0 n.t1 n.t2, .int n.p, .tup [.int 0, .int 0, .int 0], .tup (asksD n)] = f5 at hl5 ⊢
      have hmem : ∀ d ∈ bksL n x, ∃ o, d = eBk (n.ck o) o (x.bk o) := fun d hd => by
        obtain ⟨o, _, rfl⟩ := List.mem_map.mp hd
        exact ⟨o, rfl⟩
      refine hs_fldA (R := rDc (bksL n x) kf0 rDat) hEf (fun _ => (pd_var 0)) LK.cl LK.books (smL hl5) (nw_dc (j := 15) (ds := bksL n x) (kf := kf0) (Rv := rDat) rfl sc_init.nd hEf (pd_var 8) (blkOk_by (N := ["self", "mind", "moment", "ledger", "net", "times", "person", "cares", "books", "secrets", "asks", "onward", "pairs", "wishes", "left", "book"]) (sc := defScope (mth 0)) (by decide +kernel)) hbf (Nat.le_trans (bks_len n x) (by decide)) (bks_nd ok x) (fun _ _ _ _ _ cs' d hd => ?_) (fun _ _ _ _ _ cs' d hd => nw_pd (pd_var 15) (fixL_mem hbf d hd))) (fun nc d hR => ?_)
      · obtain ⟨o, rfl⟩ := hmem d hd
        exact (pd_ixT (pd_var 15) pd_int)
      obtain ⟨db, vals, n', rfl, hV, rfl⟩ := hR
      obtain ⟨rfl, rfl⟩ := RsR_dat hV
      rw [zip_bks]
      have hl6 := smS (f := "books") (d := .ref db) hl5
      generalize hf6 : putA f5 "books" (.ref db) = f6 at hl6 ⊢
      refine hs_asgA (ns := ["secrets", "onward", "pairs"]) (Rs := [rLst _, rLst _, rLst _]) rfl hEf (nw_tup (nws_cons hEf (nw_pl (pl_listT B.lst (pd_var 9)) fS) fun _ => nws_cons hEf (nw_pl (pl_listT B.lst (pd_var 11)) fO) fun _ => nws_cons hEf (nw_pl (pl_listT B.lst (pd_var 12)) fP) fun _ => nws_nil) (Nat.le_of_ble_eq_true rfl)) (fun nc ds hR => ?_) rfl (fun nc ds hR => ?_)
      · obtain ⟨_, _, _, _, rfl, rfl, ⟨_, rfl, rfl⟩, _, _, _, _, rfl, rfl, ⟨_, rfl, rfl⟩, _, _, _, _, rfl, rfl, ⟨_, rfl, rfl⟩, rfl, rfl⟩ := hR
        exact pgsA_cons hEf (pg_attr (fun _ => (pd_var 0)) LK.cl LK.secrets (smL hl6)) (pgsA_cons hEf (pg_attr (fun _ => (pd_var 0)) LK.cl LK.onward (smL (smS hl6))) (pgsA_cons hEf (pg_attr (fun _ => (pd_var 0)) LK.cl LK.pairs (smL (smS (smS hl6)))) pgsA_nil))
      obtain ⟨_, _, _, _, rfl, rfl, ⟨ls, rfl, rfl⟩, _, _, _, _, rfl, rfl, ⟨lo, rfl, rfl⟩, _, _, _, _, rfl, rfl, ⟨lp, rfl, rfl⟩, rfl, rfl⟩ := hR
      have hl9 : (putAll f6 ["secrets", "onward", "pairs"] [.ref ls, .ref lo, .ref lp]).length ≤ 9 := smS (smS (smS hl6))
      generalize hf9 : putAll f6 ["secrets", "onward", "pairs"] [.ref ls, .ref lo, .ref lp] = f9 at hl9 ⊢
      refine hs_asgA (ns := ["wishes", "left"]) (Rs := [rLst _, rLst _]) rfl hEf (nw_tup (nws_cons hEf (nw_pl (pl_listT B.lst (pd_var 13)) fW) fun _ => nws_cons hEf (nw_pl (pl_listT B.lst (pd_var 14)) rfl) fun _ => nws_nil) (Nat.le_of_ble_eq_true rfl)) (fun nc ds hR => ?_) rfl (fun nc ds hR => ?_)
      · obtain ⟨_, _, _, _, rfl, rfl, ⟨_, rfl, rfl⟩, _, _, _, _, rfl, rfl, ⟨_, rfl, rfl⟩, rfl, rfl⟩ := hR
        exact pgsA_cons hEf (pg_attr (fun _ => (pd_var 0)) LK.cl LK.wishes (smL hl9)) (pgsA_cons hEf (pg_attr (fun _ => (pd_var 0)) LK.cl LK.left (smL (smS hl9))) pgsA_nil)
      obtain ⟨_, _, _, _, rfl, rfl, ⟨lw, rfl, rfl⟩, _, _, _, _, rfl, rfl, ⟨ll, rfl, rfl⟩, rfl, rfl⟩ := hR
      have hl11 : (putAll f9 ["wishes", "left"] [.ref lw, .ref ll]).length ≤ 11 := smS (smS hl9)
      generalize hf11 : putAll f9 ["wishes", "left"] [.ref lw, .ref ll] = f11 at hl11 ⊢
      refine hs_asgA (ns := ["moment", "ledger", "deeds", "letters"]) (Rs := [rDat _, rDat _, rLst _, rLst _]) rfl hEf (nw_tup (nws_cons hEf (nw_pd (pd_var 2) rfl) fun _ => nws_cons hEf (nw_pd (pd_var 3) fLd) fun _ => nws_cons hEf (nw_pl (pl_lst pds_nil) rfl) fun _ => nws_cons hEf (nw_pl (pl_lst pds_nil) rfl) fun _ => nws_nil) (Nat.le_of_ble_eq_true rfl)) (fun nc ds hR => ?_) rfl (fun nc ds hR => ?_)
      · obtain ⟨_, _, _, _, rfl, rfl, ⟨rfl, rfl⟩, _, _, _, _, rfl, rfl, ⟨rfl, rfl⟩, _, _, _, _, rfl, rfl, ⟨_, rfl, rfl⟩, _, _, _, _, rfl, rfl, ⟨_, rfl, rfl⟩, rfl, rfl⟩ := hR
        exact pgsA_cons hEf (pg_attr (fun _ => (pd_var 0)) LK.cl LK.moment (smL hl11)) (pgsA_cons hEf (pg_attr (fun _ => (pd_var 0)) LK.cl LK.ledger (smL (smS hl11))) (pgsA_cons hEf (pg_attr (fun _ => (pd_var 0)) LK.cl LK.deeds (smL (smS (smS hl11)))) (pgsA_cons hEf (pg_attr (fun _ => (pd_var 0)) LK.cl LK.letters (smL (smS (smS (smS hl11))))) pgsA_nil)))
      obtain ⟨_, _, _, _, rfl, rfl, ⟨rfl, rfl⟩, _, _, _, _, rfl, rfl, ⟨rfl, rfl⟩, _, _, _, _, rfl, rfl, ⟨ld, rfl, rfl⟩, _, _, _, _, rfl, rfl, ⟨lt, rfl, rfl⟩, rfl, rfl⟩ := hR
      have hl15 : (putAll f11 ["moment", "ledger", "deeds", "letters"] [.int m, ledD n, .ref ld, .ref lt]).length ≤ 15 := smS (smS (smS (smS hl11)))
      generalize hf15 : putAll f11 ["moment", "ledger", "deeds", "letters"] [.int m, ledD n, .ref ld, .ref lt] = f15 at hl15 ⊢
      refine hs_asgA (ns := ["wants", "passing"]) (Rs := [rDc (bksL n x) kf0 (fun _ => rLst []), rLst []]) rfl hEf (nw_tup (nws_cons hEf (nw_dc (j := 15) (ds := bksL n x) (kf := kf0) (Rv := fun _ => rLst []) rfl sc_init.nd hEf (pd_var 8) (blkOk_by (N := ["self", "mind", "moment", "ledger", "net", "times", "person", "cares", "books", "secrets", "asks", "onward", "pairs", "wishes", "left", "book"]) (sc := defScope (mth 0)) (by decide +kernel)) hbf (Nat.le_trans (bks_len n x) (by decide)) (bks_nd ok x) (fun _ _ _ _ _ cs' d hd => ?_) (fun _ _ _ _ _ cs' d hd => nw_pl (pl_lst pds_nil) rfl)) fun _ => nws_cons hEf (nw_pl (pl_lst pds_nil) rfl) fun _ => nws_nil) (Nat.le_of_ble_eq_true rfl)) (fun nc ds hR => ?_) rfl (fun nc ds hR => ?_)
      · obtain ⟨o, rfl⟩ := hmem d hd
        exact (pd_ixT (pd_var 15) pd_int)
      · obtain ⟨_, _, _, _, rfl, rfl, ⟨_, _, _, rfl, _, rfl⟩, _, _, _, _, rfl, rfl, ⟨_, rfl, rfl⟩, rfl, rfl⟩ := hR
        exact pgsA_cons hEf (pg_attr (fun _ => (pd_var 0)) LK.cl LK.wants (smL hl15)) (pgsA_cons hEf (pg_attr (fun _ => (pd_var 0)) LK.cl LK.passing (smL (smS hl15))) pgsA_nil)
      obtain ⟨_, _, _, _, rfl, rfl, ⟨dw, vw, nW, rfl, hVw, rfl⟩, _, _, _, _, rfl, rfl, ⟨lpa, rfl, rfl⟩, rfl, rfl⟩ := hR
      obtain ⟨wi, wo, ekw, enw⟩ := newLs_of hVw
      rw [ekw, enw]
      have hl17 : (putAll f15 ["wants", "passing"] [.ref dw, .ref lpa]).length ≤ 17 := smS (smS hl15)
      generalize hf17 : putAll f15 ["wants", "passing"] [.ref dw, .ref lpa] = f17 at hl17 ⊢
      refine hs_fldA (R := rDc (bksL n x) kf0 (fun _ => rLst [])) hEf (fun _ => (pd_var 0)) LK.cl LK.payments (smL hl17) (nw_dc (j := 15) (ds := bksL n x) (kf := kf0) (Rv := fun _ => rLst []) rfl sc_init.nd hEf (pd_var 8) (blkOk_by (N := ["self", "mind", "moment", "ledger", "net", "times", "person", "cares", "books", "secrets", "asks", "onward", "pairs", "wishes", "left", "book"]) (sc := defScope (mth 0)) (by decide +kernel)) hbf (Nat.le_trans (bks_len n x) (by decide)) (bks_nd ok x) (fun _ _ _ _ _ cs' d hd => ?_) (fun _ _ _ _ _ cs' d hd => nw_pl (pl_lst pds_nil) rfl)) (fun nc d hR => ?_)
      · obtain ⟨o, rfl⟩ := hmem d hd
        exact (pd_ixT (pd_var 15) pd_int)
      obtain ⟨dp, vq, nQ, rfl, hVq, rfl⟩ := hR
      obtain ⟨qi, qo, ekq, enq⟩ := newLs_of hVq
      rw [ekq, enq]
      have hfl : putA f17 "payments" (.ref dp) = flds n ⟨a, db, ls, lo, lp, lw, ll, ld, lt, dw, lpa, dp, wi, qi, wo, qo⟩ m := by
        subst hf17 hf15 hf11 hf9 hf6 hf5
        with_unfolding_all rfl
      rw [hfl]
      refine (hs_out (I := LkE F n m (lo0 x) a)).wk (fun H h => ⟨⟨a, db, ls, lo, lp, lw, ll, ld, lt, dw, lpa, dp, wi, qi, wo, qo⟩, rfl, LkP.perm (h : LkP _ _ _) ?_⟩) (fun _ h => h)
      simp only [List.nil_append, List.append_nil, List.cons_append, List.append_assoc]
      have hsec : List.replicate (lo0 x).nsec (D.int 7) = one x.sec (.int 7) := by
        unfold lo0 one
        cases x.sec <;> rfl
      unfold cells
      rw [hsec]
      refine .cons _ (.cons _ (.cons _ (.cons _ (.cons _ (.cons _ (.cons _ (.cons _ (.cons _ (.cons _ ?_)))))))))
      unfold Pn.pls
      cases hI : n.hI <;> cases hO : n.hO
      · exact List.Perm.refl _
      · exact perm4 _ _ _ _
      · exact perm4 _ _ _ _
      · exact perm6 _ _ _ _ _ _
end
end Sd
namespace Sd
open PySem L2
/-- the class, where it stands -/
structure MkD (K : PySem.W.Frag) (mg : Str → Option Value) (C : Addr) : Prop where
  ex : ∃ (f : Addr) (fd : FuncData), Mk K C f ∧ Fun K "__init__" "Look.__init__" (mth 0) f fd ∧ mg "Look" = some (.ref C) ∧ Binds K fd ["self", "mind", "moment", "ledger"] []
section
variable {X : Cx} {I : Asr} {env env2 : Ev} {e : Expr} {es : List Expr} {pos p pos' : Pos} {k : Nat} {C : Addr} {rest : List Stmt} {O : Ends → Prop} {x : Str}
/-- x = Look(mind, moment, ledger) -/
theorem hs_make {n : Pn} {m : Int} {z : Mi} (i : Nat) (hN : X.N.Nodup) (B : Free X.mg) (LK : LookK X.K n.C) (M : MkD X.K X.mg n.C) (hr0 : Room k X.A) (hk : 3 ≤ k) (ok : OkPn n) (hz : OkMi z) (hwf : n.wsh.fix = true) (ha : PDs X I env (e :: es) [eMind n z, .int m, ledD n]) (hsb : Sub env2 env) (hE0 : fixE env2 = true)
    (hr : ∀ L, HS X (Lk I (cells none n L m (lo0 z))) (env2.set i (some (.ref L.a))) rest O) (hg : Gl X "Look" := by rfl) (hi : X.N[i]? = some x := by rfl) (hx : Loc X.env.scope x := by first | exact Or.inl rfl | exact Or.inr rfl)
    (hs : swapsWith (.Call (.Name "Look" p) (e :: es) [] pos) (some (.Name x pos')) pos.line X.env = pure false := by rfl) (hf : X.fn x = true ∨ X.env.scope.names.lookup x = some .local := by first | exact .inl rfl | exact .inr rfl)
    (he : starEach (e :: es) X.env = (false, eval e X.env) :: starEach es X.env := by rfl) (hpl : (backTo pos (starEach es X.env)).any (·.1) = false := by rfl) {spos : Pos} (hs2 : swapsWith (.Call (.Name "Look" p) (e :: es) [] pos) (some (.Name x pos')) spos.line X.env = pure false := by rfl) :
    HS X I env (.Assign [.Name x pos'] (.Call (.Name "Look" p) (e :: es) [] pos) spos :: rest) O := by
  obtain ⟨f, fd, mk, FF, hm, b⟩ := M.ex
  have FO : FnOk X.prog X.w X.K X.mg X.base CX0 1 f fd ["self", "mind", "moment", "ledger"] (spI n.C) := ok_init B LK f fd FF
  have hR2 : Room (1 + 1) X.A := hr0.mono (by omega)
  exact (pss_cons (ps_set hN hi hx (pe_make (E := E0) (dvs := []) mk FO hR2 hg hm b .nil pass0 ha (by decide) he hpl) hs2 hf) (L2.PSs.wk (t := fun D σ H => ∃ L : Lc, True ∧ tS (Lk I (cells none n L m (lo0 z))) (env2.set i (some (.ref L.a))) O D σ H) (pss_exI fun L _ => hr L) (fun _ _ _ h => h))).wk
    fun D σ H ⟨hI, hE, k⟩ => ⟨hI, hE, fun vs H1 s1 r1 a dx ha0 hdx hne => by
      have sm : Same H1 (upd (upd H1 dx (.own a)) a (.ins n.C dx [])) := (Same.new hdx).trans (Same.new (by rw [upd_ne (Ne.symm hne)]; exact ha0))
      have hLk : LkP I [(a, .ins n.C [])] (upd (upd H1 dx (.own a)) a (.ins n.C dx [])) := by
        refine ⟨I.mono (fun b o e => ?_) (I.mono s1 hI), fun i j q r e1 e2 _ => ?_, fun i q e => ?_⟩
        · have hb : b ≠ a := fun z => by rw [z, ha0] at e; cases e
          rw [Hws_out (by simp [hb])]
          exact sm b o e
        · cases i with
          | zero =>
            cases j with
            | zero => rfl
            | succ j => simp at e2
          | succ i => simp at e1
        · cases i with
          | zero => cases e; exact ⟨rfl, dx, [], upd_same, rfl⟩
          | succ i => simp at e
      refine ⟨I, n, m, z, a, rfl, ok, hz, hwf, hLk, ?_, fun H' hP hT => ⟨rfl, ?_⟩⟩
      · rw [List.append_nil]
        unfold RepL
        exact ⟨_, vs, rfl, rfl, r1.mono sm⟩
      · obtain ⟨L, eL, hL⟩ := hP
        subst eL
        have hE2 : EnvR H' σ env2 := (((hE.mono s1).mono sm).sub hsb).tr hT (fixE_get hE0)
        exact ⟨L, trivial, hL, hE2.set rfl, k⟩⟩
end
end Sd
namespace Sd
open PySem L2
/-- a method that changes nothing and returns a NEW list -/
def spN (S : Cs → List D → List D → Prop) : Sp := fun vs H Q _ => ∃ F cs ds l, LkP F cs H ∧ RepL H ds vs ∧ S cs ds l ∧ ∀ p xs H', Same H H' → H p = none → H' p = some (.lst xs) → RepL H' l xs → Q (.ref p) H'
section
variable {P : Program} {w : World} {K : PySem.W.Frag} {mg : Str → Option Value} {base : Heap} {C : Addr} {m qual : Str} {st : Stmt} {N ps : List Str} {k : Nat}
/-- a return of a new list -/
def oRetL (H0 : Hp) (l : List D) : Ends → Prop := fun D => ∀ p xs H', Same H0 H' → H0 p = none → H' p = some (.lst xs) → RepL H' l xs → D.rt (.ref p) H'
theorem hs_retL {X : Cx} {I : Asr} {env : Ev} {e : Expr} {l : List D} {pos : Pos} {rest : List Stmt} {H0 : Hp} (h : PL X I env e l) (hI : ∀ H, I.p H → Same H0 H) : HS X I env (.Return (some e) pos :: rest) (oRetL H0 l) :=
  (pss_cons (ps_ret h) pss_never).wk fun D σ H ⟨hi, hE, k⟩ => ⟨hi, hE, fun p xs H1 s1 hp hx r => k p xs H1 ((hI H hi).trans s1) ((hI H hi).free hp) hx r⟩
theorem met_N {S : Cs → List D → List D → Prop} (M : MD K C m qual st ps) (sc : FnScope N ps (defScope st)) (len : ∀ cs ds d, S cs ds d → ds.length = ps.length)
    (body : ∀ (f : Addr) (cdv : Value) (A : Around) (outer : List Env) (s : Shared) (H : Hp) (E : XK), Room k (bx P w K mg base N qual st f cdv A outer s H E).A → ∀ cs ds l, S cs ds l → ∀ I F, Le I F cs → (∀ H', I.p H' → Same H H') → HS (bx P w K mg base N qual st f cdv A outer s H E) I (startE N ds) (defBody st) (oRetL H l)) :
    Met P w K mg base (k + 1) C m (spN S) := by
  obtain ⟨f, fd, c, me, F, b⟩ := M.ex
  refine ⟨f, fd, ps, c, me, F.ok sc (fun vs H Q E h => ?_) (fun cdv A outer s H vs Q E hr h => ?_), b⟩
  · obtain ⟨F, cs, ds, d, _, r, hS, _⟩ := h
    rw [r.length]; exact len cs ds d hS
  · obtain ⟨F, cs, ds, l, hL, r, hS, q⟩ := h
    exact ⟨_, body f cdv A outer s H E hr cs ds l hS ((Lk F cs).and (since H)) F (fun _ h => h.1) (fun _ h => h.2), ⟨hL, Same.refl H⟩, start_env r, fun p xs H' hs hp hx rx => q p xs H' hs hp hx rx⟩
end
section
variable {X : Cx} {I : Asr} {F : Asr} {cs : Cs} {env : Ev} {e o : Expr} {es : List Expr} {l ds : List D} {pos apos : Pos} {m : Str} {j k : Nat} {p C : Addr} {fs : List (Str × D)}
theorem pl_mN {S : Cs → List D → List D → Prop} {pl : Sem Bool} (le : Le I F cs) (c : Met X.prog X.w X.K X.mg X.base k C m (spN S)) (hr : Room j X.A) (hk : k ≤ j) (ho : PD X I env o (.ref p)) (ha : PDs X I env (e :: es) ds) (hi : cs[0]? = some (p, .ins C fs)) (hm : getA fs m = none) (hS : S cs (.ref p :: ds) l)
    (hst : starEach (e :: es) X.env = (false, eval e X.env) :: starEach es X.env := by rfl) (hpl : (backTo pos (starEach es X.env)).any (·.1) = false := by rfl)
    (ht : eval (.Call (.Attribute o m apos) (e :: es) [] pos) X.env = (do
      let ov ← eval o X.env
      standAt apos.atName
      let (f, first) ← holding [ov] (getMethod ov m pl)
      callWith pos f first (backTo pos (starEach (e :: es) X.env)) (backToKw pos (keywordEach [] X.env))) := by rfl) : PL X I env (.Call (.Attribute o m apos) (e :: es) [] pos) l := by
  obtain ⟨f, fd, ps, hc, me, FO, b⟩ := c.ex
  exact (pe_meth (pl := pl) (E := E0) (dvs := []) ho hc me FO (hr.mono hk) b .nil pass0 ha hst hpl ht).wk fun σ H Q ⟨hI, hE, k⟩ => ⟨hI, hE, fun x H1 s1 r1 => by
    have ex : x = .ref p := r1
    subst ex
    obtain ⟨_, dx, vs0, hv, rv⟩ := (le _ (I.mono s1 hI)).at_ 0 _ hi
    refine ⟨p, dx, vs0, rfl, hv, rv.getN hm, I.mono s1 hI, hE.mono s1, fun vs H2 s2 r2 => ⟨F, cs, .ref p :: ds, l, le _ (I.mono s2 (I.mono s1 hI)), ?_, hS, fun q xs H' s3 hq hx r3 => k q xs H' ((s1.trans s2).trans s3) ((s1.trans s2).free hq) hx r3⟩⟩
    rw [List.append_nil]
    unfold RepL
    exact ⟨_, vs, rfl, rfl, r2⟩⟩
end
section
variable {P : Program} {w : World} {K : PySem.W.Frag} {mg : Str → Option Value} {base : Heap} {C : Addr}
def S_locks_inN (C : Addr) (cs : Cs) (ds : List D) (l : List D) : Prop := ∃ z n L m s o, n.C = C ∧ OkPn n ∧ o ∈ n.pls ∧ cs = cells z n L m s ∧ ds = [.ref L.a, .int (n.key o)] ∧ l = lksIn n s o
theorem ok_locks_inN (LK : LookK K C) (M : MD K C "locks_in" "Look.locks_in" (mth 5) ["self", "place"]) (cs : Met P w K mg base 1 C "side" (spR (S_sideM C))) : Met P w K mg base 2 C "locks_in" (spN (S_locks_inN C)) := by
  refine met_N M sc_locks_in (fun cs ds d h => by obtain ⟨_, _, _, _, _, _, _, _, _, _, rfl, _⟩ := h; rfl) ?_
  rintro f cdv A outer s H E hr _ _ _ ⟨z, n, L, m, st, o, rfl, ok, ho, rfl, rfl, rfl⟩ I F le hI
  have hm : ∀ d ∈ (if (st.bk o).ph = .lk then [eLock (n.ck o)] else []), d = eLock (n.ck o) := fun d hd => by
    split at hd
    · simpa using hd
    · cases hd
  have e : lksIn n st o = ((if (st.bk o).ph = .lk then [eLock (n.ck o)] else []).filter fun _ => !o).map fun d => d := by
    unfold lksIn one
    by_cases h : (st.bk o).ph = .lk
    · rw [if_pos h, decide_eq_true h]; cases o <;> rfl
    · rw [if_neg h, decide_eq_false h]; rfl
  rw [e]
  refine hs_retL (pl_lcNT (i := 2) (keep := fun _ => !o) (out := fun d => d) rfl sc_locks_in.nd (PD.to (pd_ixT (pd_ixT (pd_dget le 1 hr (pd_books LK le (pd_var 0)) rfl (pd_var 1) (get_dmap ok ho)) pd_int) pd_int) (eLocks_if _ _))
    (blkOk_by (N := ["self", "place", "lock"]) (sc := defScope (mth 5)) (by decide +kernel)) (fun _ _ _ _ _ d hd => ?_) (fun _ _ _ _ _ d hd _ => (pd_var 2)) (fun d hd _ => by rw [hm d hd]; exact fix_lock _) (by split <;> exact zz rfl)) hI
  rw [hm d hd]
  exact ptd_one (pb_ne hr (pd_ixT (pd_var 2) pd_int) (pd_mR le cs hr (by decide) (pd_var 0) (pds_cons (pd_var 1) pds_nil) rfl rfl ⟨z, n, L, m, st, o, rfl, ok, ho, rfl, rfl, rfl⟩) (by rw [sideI_eq]; cases o <;> rfl))
end
end Sd
/-! what each look of a run must keep to, so that the promises hold; the runs, by the kernel. Plain Lean. -/
namespace Sd
def okW5 (w : List Cg) : Bool := decide (w.length ≤ 20)
def okLetsB (b : Bk) (w : List Cg) : Bool := b.ph == .lk || b.off == some .lk || w.contains .add || (b.ph == .st && b.off != some .pd)
def okBks (s : Lo) : Bool := okW5 s.bi.wan && okW5 s.bo.wan && okW5 s.wi && okW5 s.wo && okW5 s.pi && okW5 s.po && decide (s.nsec < 40) && decide (s.out.length < 40)
def okHearB (c : Cf) (s : Lo) (x : Bool × Lt) : Bool := okBks s && (if x.1 then hasIn c else hasOut c) && (match x.2 with | .pass => x.1 | .offer _ p => (if x.1 then !(s.bi.ph == .pd && p == .lk) else true) | _ => true)
def okHears (c : Cf) (s : Lo) : List (Bool × Lt) → Bool
  | [] => true
  | x :: r => okHearB c s x && okHears c (hearA c s x) r
def okWishB (c : Cf) (t : Tm) (s : Lo) : Bool := okBks s && (!s.wish || (!hasIn c && hasOut c && !s.pair && (!t.due || !t.o.before || okLetsB s.bo (wish1 c t s).wo)))
def okTreatB (c : Cf) (s : Lo) : Bool := okBks s && !s.passing && (!s.onw || s.pair || (hasOut c && okLetsB s.bo s.wo))
def okOfferB (c : Cf) (s : Lo) (o : Bool) : Bool := okBks s && (!o || !(s.wo.contains .add) || s.bo.ph != .pd) && (!s.passing || (!s.pair && hasOut c))
def saneB (c : Cf) (t : Tm) (m : Mi) (box : List (Bool × Lt)) : Bool :=
  let s1 := heard c m box
  let s2 := wish2 c t (wish1 c t s1)
  let s3 := when (hasIn c) (treatA c t) s2
  let s4 := when (hasOut c) (settleA c t) s3
  let s5 := when (hasIn c) (offerI c) s4
  let s6 := when (hasOut c) (offerO c) s5
  let s7 := when (hasOut c) (sendA c t) s6
  okHears c (lo0 m) box && okWishB c t s1 && okTreatB c s2 && okBks s3 && okOfferB c s4 false && okOfferB c s5 true && okBks s6 && (!s6.pair || hasOut c) && okBks s7 && !(hasIn c && closes c t s7)
/-- a step, and whether every look of it is sane -/
def stepOk (r : Run) (es : Eds) (k : Nat) (w : Wd) : Bool := w.zipIdx.all fun (x, p) => saneB (r.cf p) (tm es p k) x.1 x.2
def runFrom (r : Run) (es : Eds) : Nat → Nat → Wd → Bool × Wd
  | 0, _, w => (true, w)
  | n + 1, k, w => if stepOk r es k w then runFrom r es n (k + 1) (step r es k w) else (false, w)
def goodRun (r : Run) (es : Eds) (full : Bool) (many : Nat) : Bool :=
  let q := runFrom r es many 0 (w0 r.n)
  q.1 && okEnd r full q.2
/-- the ends of a void run, by c = ceil(delay / look) -/
def voidEnds (n c : Nat) : Eds := (List.range n).map fun k => let e := 2 * (18 * (n - k) + 8); (e - 2 * c, e, e)
def paidEnds (n : Nat) : Eds := (List.range n).map fun _ => (1000, 1000, 1000)
end Sd
namespace Sd
open PySem L2
theorem okW_of {w : List Cg} (h : okW5 w = true) : OkW w := Nat.le_trans (of_decide_eq_true h) (by decide)
structure OkB (s : Lo) : Prop where
  ws : OkWs s
  wi : OkW s.wi
  wo : OkW s.wo
  pi : OkW s.pi
  po : OkW s.po
  ns : s.nsec < 40
  ol : s.out.length < 40
theorem okB_of {s : Lo} (h : okBks s = true) : OkB s := by
  unfold okBks at h
  simp only [Bool.and_eq_true, decide_eq_true_eq] at h
  obtain ⟨⟨⟨⟨⟨⟨⟨h1, h2⟩, h3⟩, h4⟩, h5⟩, h6⟩, h7⟩, h8⟩ := h
  exact ⟨⟨okW_of h1, okW_of h2⟩, okW_of h3, okW_of h4, okW_of h5, okW_of h6, h7, h8⟩
theorem eqb_ph {a b : Ph} : (a == b) = true ↔ a = b := by cases a <;> cases b <;> simp <;> decide
theorem sane_hear {n : Pn} {s : Lo} {x : Bool × Lt} (h : okHearB n.cf s x = true) : (!x.1) ∈ n.pls ∧ OkWs s ∧ okHear s x := by
  unfold okHearB at h
  simp only [Bool.and_eq_true] at h
  obtain ⟨⟨h1, h2⟩, h3⟩ := h
  have B := okB_of h1
  obtain ⟨xo, l⟩ := x
  refine ⟨?_, B.ws, Nat.lt_trans B.ns (by decide), Nat.lt_trans B.ol (by decide), fun hl => ?_, ?_⟩
  · cases xo with
    | true => exact pls_of (.inl ⟨rfl, h2⟩)
    | false => exact pls_of (.inr ⟨rfl, h2⟩)
  · have hl : l = .pass := hl
    subst hl
    exact h3
  · cases l with
    | offer k p =>
      intro hp1 hp2
      cases xo with
      | false => rfl
      | true =>
        have hp3 : s.bi.ph = .pd := hp1
        subst hp2
        have h4 : (!(s.bi.ph == .pd && (Ph.lk == .lk))) = true := h3
        rw [hp3] at h4
        cases h4
    | agree k p => trivial
    | turn k => trivial
    | secret => trivial
    | pass => trivial
theorem sane_wish {n : Pn} {m : Int} {s : Lo} (hw : n.wsh = n.eWish) (h : okWishB n.cf (n.tm m) s = true) : okWish n m s := by
  unfold okWishB at h
  simp only [Bool.and_eq_true] at h
  refine ⟨(okB_of h.1).ws, fun hwt => ?_⟩
  have h2 := h.2
  rw [hwt] at h2
  simp only [Bool.not_true, Bool.false_or, Bool.and_eq_true] at h2
  obtain ⟨⟨⟨a, b⟩, c⟩, d⟩ := h2
  have a' : n.hI = false := by
    have : (!n.hI) = true := a
    cases hq : n.hI <;> simp_all
  refine ⟨a', b, hw, by cases hq : s.pair <;> simp_all, fun h1 h2 => ?_⟩
  have e1 : (n.tm m).due = true := decide_eq_true h1
  have e2 : (n.tm m).o.before = true := decide_eq_true h2
  rw [e1, e2] at d
  exact d
theorem sane_treat {n : Pn} {s : Lo} (h : okTreatB n.cf s = true) : okTreat n s := by
  unfold okTreatB at h
  simp only [Bool.and_eq_true] at h
  obtain ⟨⟨h1, h2⟩, h3⟩ := h
  have B := okB_of h1
  refine ⟨B.ws, B.wi, B.wo, Nat.lt_trans B.ns (by decide), Nat.lt_trans B.ol (by decide), by cases hq : s.passing <;> simp_all, fun h4 h5 => ?_⟩
  rw [h4, h5] at h3
  simp only [Bool.not_true, Bool.false_or, Bool.and_eq_true] at h3
  exact h3
theorem sane_offer {n : Pn} {s : Lo} {o : Bool} (h : okOfferB n.cf s o = true) : okOffer n s o := by
  unfold okOfferB at h
  simp only [Bool.and_eq_true] at h
  obtain ⟨⟨h1, h2⟩, h3⟩ := h
  have B := okB_of h1
  have w1 : OkW (s.w o) := by
    cases o
    · exact B.wi
    · exact B.wo
  have q1 : OkW (s.q o) := by
    cases o
    · exact B.pi
    · exact B.po
  refine ⟨B.ws, w1, q1, Nat.lt_trans B.ol (by decide), fun ha hp => ?_, fun hps => ?_⟩
  · cases o with
    | false => rfl
    | true =>
      have ha : Cg.add ∈ s.wo := ha
      have hp : s.bo.ph = .pd := hp
      have hc : s.wo.contains .add = true := by simpa using ha
      rw [hc, hp] at h2
      cases h2
  · rw [hps] at h3
    simp only [Bool.not_true, Bool.false_or, Bool.and_eq_true] at h3
    exact ⟨by cases hq : s.pair <;> simp_all, h3.2⟩
end Sd
namespace Sd
open PySem L2
def eBox (n : Pn) (x : Bool × Lt) : D := .tup [.int (n.oth (!x.1)), eLt n (!x.1) x.2]
theorem tk_lt {n : Pn} (ok : OkPn n) (o : Bool) (l : Lt) : Tk 5 (eLt n o l) := by
  cases l with
  | offer k p => exact tk_lb (n.ck o) (.offer k p)
  | agree k p => exact tk_lb (n.ck o) (.agree k p)
  | turn k => exact tk_lb (n.ck o) (.turn k)
  | secret => exact tk_w (k := 4) (.cons tk_str (.cons tk_int (.cons tk_int .nil)))
  | pass => exact tk_w (k := 4) (.cons tk_str (.cons tk_int (.cons (tk_img.le (by decide)) (.cons ((tk_rt ok.net.1).le (by decide)) (.cons ((tk_en ok.net.1).le (by decide)) .nil)))))
theorem tk_box {n : Pn} (ok : OkPn n) {box : List (Bool × Lt)} (h : box.length ≤ 40) : Tk 7 (.tup (box.map (eBox n))) := tk_tup (fun d hd => by
  obtain ⟨x, _, rfl⟩ := List.mem_map.mp hd
  exact tk_w (k := 5) (.cons tk_int (.cons (tk_lt ok _ _) .nil))) (by rw [List.length_map]; exact Nat.le_trans h (by decide))
theorem tk_one {k : Nat} {b : Bool} {d : D} (h : Tk k d) : Tk (k + 1) (.tup (one b d)) := by
  cases b
  · exact tk_w .nil
  · exact tk_w (.cons h .nil)
theorem tk_wish {n : Pn} (ok : OkPn n) : Tk 3 n.eWish := tk_w (.cons tk_int (.cons (tk_w (.cons tk_str (.cons (tk_rt ok.net.1) (.cons tk_int (.cons tk_img (.cons (tk_en ok.net.1) .nil)))))) .nil))
theorem tk_asks (n : Pn) : Tk 2 (.tup (asksD n)) := by
  unfold asksD
  cases n.ask
  · exact tk_w .nil
  · exact tk_w (.cons (tk_w (.cons tk_int (.cons tk_int .nil))) .nil)
theorem tk_mind {n : Pn} (ok : OkPn n) (hw : n.wsh = n.eWish) {x : Mi} (hx : OkMi x) : Tk 7 (eMind n x) := by
  have hb : Tk 6 (.tup (bksL n x)) := tk_tup (fun d hd => by
    obtain ⟨o, _, rfl⟩ := List.mem_map.mp hd
    exact tk_bk _ _ (hx.bk o)) (Nat.le_trans (bks_len n x) (by decide))
  exact tk_w (.cons ((tk_net ok.net.1).le (by decide)) (.cons ((tk_w (k := 0) (.cons tk_int (.cons tk_int (.cons tk_int .nil)))).le (by decide)) (.cons tk_int (.cons ((tk_w (k := 0) (.cons tk_int (.cons tk_int (.cons tk_int .nil)))).le (by decide)) (.cons hb (.cons ((tk_one (k := 0) tk_int).le (by decide)) (.cons ((tk_asks n).le (by decide)) (.cons ((tk_one (tk_onw ok)).le (by decide)) (.cons ((tk_one (tk_pair ok)).le (by decide)) (.cons ((tk_one (hw ▸ tk_wish ok)).le (by decide)) (.cons ((tk_w (k := 0) .nil).le (by decide)) .nil)))))))))))
theorem tk_led {n : Pn} (ok : OkPn n) : Tk 1 (ledD n) := tk_tup (fun d hd => by rw [List.eq_of_mem_replicate hd]; exact tk_non) (by rw [List.length_replicate]; exact Nat.le_trans ok.net.1 (by decide))
theorem okHears_at (c : Cf) : ∀ (box : List (Bool × Lt)) (s : Lo), okHears c s box = true → ∀ (j : Nat) x, box[j]? = some x → okHearB c ((box.take j).foldl (hearA c) s) x = true
  | [], _, _, j, x, h => by simp at h
  | y :: box, s, hk, j, x, h => by
    unfold okHears at hk
    rw [Bool.and_eq_true] at hk
    cases j with
    | zero => simp at h; subst h; exact hk.1
    | succ j => exact okHears_at c box _ hk.2 j x (by simpa using h)
theorem box_at {n : Pn} {box : List (Bool × Lt)} {j : Nat} {d : D} (h : (box.map (eBox n))[j]? = some d) : ∃ x, box[j]? = some x ∧ box.getD j (true, .pass) = x ∧ d = eBox n x := by
  rw [List.getElem?_map] at h
  cases hq : box[j]? with
  | none => rw [hq] at h; cases h
  | some x =>
    rw [hq] at h
    cases h
    exact ⟨x, rfl, by rw [List.getD_eq_getElem?_getD, hq]; rfl, rfl⟩
theorem pls_false {n : Pn} {j : Nat} (h : n.pls[j]? = some false) : j = 0 := by
  unfold Pn.pls at h
  cases hI : n.hI <;> cases hO : n.hO <;> rw [hI, hO] at h
  · simp at h
  · cases j <;> simp at h
  · cases j
    · rfl
    · simp at h
  · match j, h with
    | 0, _ => rfl
    | 1, h => simp at h
    | j + 2, h => simp at h
theorem pls_true {n : Pn} {j : Nat} (h : n.pls[j]? = some true) : n.pls.take j = if n.hI then [false] else [] := by
  unfold Pn.pls at h ⊢
  cases hI : n.hI <;> cases hO : n.hO <;> rw [hI, hO] at h
  · simp at h
  · match j, h with
    | 0, _ => rfl
    | j + 1, h => simp at h
  · match j, h with
    | 0, h => simp at h
    | j + 1, h => simp at h
  · match j, h with
    | 0, h => simp at h
    | 1, _ => rfl
    | j + 2, h => simp at h
/-- what is done place by place -/
def inOut (n : Pn) (f g : Lo → Lo) (s : Lo) : Lo := when n.hO g (when n.hI f s)
def byO (f g : Lo → Lo) (s : Lo) (o : Bool) : Lo := if o then g s else f s
theorem fold_pls (n : Pn) (f g : Lo → Lo) (s : Lo) : n.pls.foldl (byO f g) s = inOut n f g s := by
  unfold Pn.pls inOut
  cases n.hI <;> cases n.hO <;> rfl
theorem fold_at {n : Pn} {f g : Lo → Lo} {s : Lo} {j : Nat} {o : Bool} (h : n.pls[j]? = some o) : (n.pls.take j).foldl (byO f g) s = if o then when n.hI f s else s := by
  cases o with
  | false => rw [pls_false h]; rfl
  | true =>
    rw [pls_true h]
    cases n.hI <;> rfl
theorem place_at {n : Pn} {j : Nat} {d : D} (h : (n.pls.map fun o => D.int (n.key o))[j]? = some d) : ∃ o, n.pls[j]? = some o ∧ n.pls.getD j false = o ∧ d = .int (n.key o) := by
  rw [List.getElem?_map] at h
  cases hq : n.pls[j]? with
  | none => rw [hq] at h; cases h
  | some o =>
    rw [hq] at h
    cases h
    exact ⟨o, rfl, by rw [List.getD_eq_getElem?_getD, hq]; rfl, rfl⟩
theorem _root_.Sd.PL.to {X : Cx} {I : Asr} {env : Ev} {e : Expr} {a b : List D} (h : PL X I env e a) (x : a = b) : PL X I env e b := x ▸ h
section
variable {P : Program} {w : World} {K : PySem.W.Frag} {mg : Str → Option Value} {base : Heap} {C : Addr}
def S_at (C : Addr) (ds : List D) (d : D) : Prop := ∃ n m x box, n.C = C ∧ OkPn n ∧ n.wsh = n.eWish ∧ OkMi x ∧ saneB n.cf (n.tm m) x box = true ∧ box.length ≤ 40 ∧ ds = [eMind n x, .int m, ledD n, .tup (box.map (eBox n))] ∧
  d = .tup [eMind n (lookA n.cf (n.tm m) x box).1, .tup [], .tup ((lookA n.cf (n.tm m) x box).2.map (eSent n))]
theorem sc_at : FnScope ["mind", "moment", "ledger", "box", "look", "source", "letter", "places", "place", "own", "lock"] ["mind", "moment", "ledger", "box"] (defScope (top 45)) := ⟨rfl, rfl, rfl, by decide +kernel, rfl, by decide +kernel, by decide +kernel⟩
theorem ok_at (B : Free mg) (LK : LookK K C) (MK : MkD K mg C) (F : FD K mg "at_look" (top 45) ["mind", "moment", "ledger", "box"]) (ct : Cal P w K mg base CX0 11 "tuple_of" (spD (S_tuple_of 10)))
    (csee : Met P w K mg base 1 C "see" (spM (S_see C))) (chear : Met P w K mg base 17 C "hear" (spM (S_hear C))) (cwish : Met P w K mg base 14 C "wish" (spE (S_wish C))) (cfree : Met P w K mg base 1 C "is_free" (spR (S_is_free C))) (clin : Met P w K mg base 2 C "locks_in" (spN (S_locks_inN C)))
    (ctr : Met P w K mg base 15 C "treat" (spM (S_treat C))) (cset : Met P w K mg base 5 C "settle" (spM (S_settle C))) (coff : Met P w K mg base 17 C "offer" (spM (S_offer C))) (csend : Met P w K mg base 14 C "send_on" (spM (S_send C))) (cmc : Met P w K mg base 15 C "must_close" (spR (S_must_close C))) (cmind : Met P w K mg base 1 C "mind" (spR (S_mind C))) :
    Cal P w K mg base CX0 19 "at_look" (spD (S_at C)) := by
  refine cal_pure F sc_at (fun ds d h => by obtain ⟨_, _, _, _, _, _, _, _, _, _, rfl, _⟩ := h; rfl) ?_
  rintro f cdv A outer s H E hr _ _ ⟨n, m, x, box, rfl, ok, hwsh, hx, hs, hbl, rfl, rfl⟩ I
  have fM : (eMind n x).fix = true := D.tk_fix (tk_mind ok hwsh hx).1
  have fB : (D.tup (box.map (eBox n))).fix = true := D.tk_fix (tk_box ok hbl).1
  have fL : (ledD n).fix = true := D.tk_fix (tk_led ok).1
  have hwf : n.wsh.fix = true := by rw [hwsh]; exact D.tk_fix (tk_wish ok).1
  unfold saneB at hs
  simp only [Bool.and_eq_true] at hs
  obtain ⟨⟨⟨⟨⟨⟨⟨⟨⟨h1, h2⟩, h3⟩, h4⟩, h5⟩, h6⟩, h7⟩, h8⟩, h9⟩, h10⟩ := hs
  simp only [show heard n.cf x box = box.foldl (hearA n.cf) (lo0 x) from rfl] at h2 h3 h4 h5 h6 h7 h8 h9 h10
  refine hs_make (k := 18) (n := n) (m := m) (z := x) 4 sc_at.nd B LK MK hr (by decide) ok hx hwf (pds_cons (pd_call ct pass0 hr (by decide) (pds_cons (pd_var 0) pds_nil) (tuS (tk_mind ok hwsh hx))) (pds_cons (pd_var 1) (pds_cons (pd_call ct pass0 hr (by decide) (pds_cons (pd_var 2) pds_nil) (tuS (tk_led ok))) pds_nil))) (Sub.refl _) (fixE_of (.cons fM (.cons rfl (.cons fL (.cons fB (.non (.non (.non (.non (.non (.non (.non .nil)))))))))))) (fun L => ?_)
  have hE4 : FixL [some (eMind n x), some (.int m), some (ledD n), some (.tup (box.map (eBox n))), some (.ref L.a), none, none, none, none, none, none] := .cons fM (.cons rfl (.cons fL (.cons fB (.cons rfl (.non (.non (.non (.non (.non (.non .nil))))))))))
  have hE := fixE_of hE4
  show HS _ _ [some (eMind n x), some (.int m), some (ledD n), some (.tup (box.map (eBox n))), some (.ref L.a), none, none, none, none, none, none] _ _
  refine hs_mM0 csee hr (by decide) (pd_var 4) rfl rfl ⟨n, L, m, lo0 x, rfl, ok, rfl, rfl, rfl⟩ (Sub.refl _) hE ?_
  let E0 : Ev := [some (eMind n x), some (.int m), some (ledD n), some (.tup (box.map (eBox n))), some (.ref L.a), none, none, none, none, none, none]
  refine hs_nx (h_forTT (ds := box.map (eBox n)) (cc := fun j => cells none n L m ((box.take j).foldl (hearA n.cf) (lo0 x))) (Ev := fun _ => E0) (Eb := fun j => (E0.set 5 (some (.int (n.oth (!(box.getD j (true, .pass)).1))))).set 6 (some (eLt n (!(box.getD j (true, .pass)).1) (box.getD j (true, .pass)).2))) PassesOwn.never rfl (pd_call ct pass0 hr (by decide) (pds_cons (pd_var 3) pds_nil) (tuS (tk_box ok hbl))) fB rfl rfl (fun G j d hd => ?_) (fun G j d hd => ?_)) ?_
  · obtain ⟨y, hy, hy2, rfl⟩ := box_at hd
    rw [hy2]
    exact pgd_tup rfl (pgsd_cons (pgd_name 5 sc_at.nd) (pgsd_cons (pgd_name 6 sc_at.nd) pgsd_nil))
  · obtain ⟨y, hy, hy2, rfl⟩ := box_at hd
    rw [hy2]
    have hk := okHears_at n.cf box (lo0 x) h1 j y hy
    obtain ⟨k1, k2, k3⟩ := sane_hear hk
    have hnx : (box.take (j + 1)).foldl (hearA n.cf) (lo0 x) = hearA n.cf ((box.take j).foldl (hearA n.cf) (lo0 x)) y := by rw [take_succ_of hy, List.foldl_append]; rfl
    rw [hnx]
    exact hs_mM chear hr (by decide) (pd_var 4) (pds_cons (pd_var 5) (pds_cons (pd_var 6) pds_nil)) rfl rfl ⟨n, L, m, _, y, rfl, ok, k1, k2, k3, rfl, rfl, rfl⟩ (.same (.same (.same (.same (.same (.skip (.skip (.same (.same (.same (.same .nil))))))))))) hE (hs_end.wk (fun _ h => h) (fun _ h => h.1))
  rw [List.length_map, List.take_length]
  have hwi : okWish n m (box.foldl (hearA n.cf) (lo0 x)) := sane_wish hwsh h2
  refine hs_mE0 (L := L) cwish hr (by decide) (pd_var 4) rfl ⟨rfl, ok, hwi, ⟨_, rfl⟩, rfl⟩ (Sub.refl _) hE (fun L2 hL2 => ?_)
  show HS _ _ [some (eMind n x), some (.int m), some (ledD n), some (.tup (box.map (eBox n))), some (.ref L.a), none, none, none, none, none, none] _ _
  rw [← hL2]
  generalize hS2 : wish2 n.cf (n.tm m) (wish1 n.cf (n.tm m) (box.foldl (hearA n.cf) (lo0 x))) = s2 at h3 h4 h5 h6 h7 h8 h9 h10 ⊢
  have hfi : fixL (n.pls.map fun o => D.int (n.key o)) = true := fixL_of_ints (fun o => (n.key o : Int)) n.pls
  have hpl2 : n.pls.length ≤ 2 := by unfold Pn.pls; cases n.hI <;> cases n.hO <;> simp
  refine hs_newC (ds := n.pls.map fun o => .int (n.key o)) 7 sc_at.nd (keys_pls ok s2 ▸ pl_sortedD le_lk 1 rfl B.srt (pd_books LK le_lk (pd_var 4)) rfl (keys_lt ok s2) (Nat.lt_of_le_of_lt dmap_len (by decide))) hfi (fun q => ?_)
  generalize hF : I.cell q (n.pls.map fun o => D.int (n.key o)) = F0
  have hhas : Has F0 q (n.pls.map fun o => D.int (n.key o)) := by rw [← hF]; exact has_cell
  let E1 : Ev := [some (eMind n x), some (.int m), some (ledD n), some (.tup (box.map (eBox n))), some (.ref L2.a), none, none, some (.ref q), none, none, none]
  have hE1 : fixE E1 = true := fixE_of (.cons fM (.cons rfl (.cons fL (.cons fB (.cons rfl (.non (.non (.cons rfl (.non (.non (.non .nil)))))))))))
  show HS _ (Lk F0 (cells none n L2 m s2)) E1 _ _
  have hsub : Sub E1 [some (eMind n x), some (.int m), some (ledD n), some (.tup (box.map (eBox n))), some (.ref L2.a), none, none, some (.ref q), some (.int 0), none, none] := .same (.same (.same (.same (.same (.same (.same (.same (.skip (.same (.same .nil))))))))))
  have e3 : inOut n (treatA n.cf (n.tm m)) id s2 = when (hasIn n.cf) (treatA n.cf (n.tm m)) s2 := by unfold inOut; cases n.hO <;> rfl
  -- treat
  refine hs_nx (h_forN (cc := fun j => cells none n L2 m ((n.pls.take j).foldl (byO (treatA n.cf (n.tm m)) id) s2)) (Ev := fun _ => E1) (Eb := fun j => E1.set 8 (some (.int (n.key (n.pls.getD j false))))) PassesOwn.never rfl (PL.to (pl_lcNL (i := 9) (ds := n.pls.map fun o => .int (n.key o)) (keep := fun _ => true) (out := fun d => d) rfl sc_at.nd (pd_has (has_lk hhas) (pd_var 7)) (blkOk_by (N := ["mind", "moment", "ledger", "box", "look", "source", "letter", "places", "place", "own", "lock"]) (sc := defScope (top 45)) (by decide +kernel)) (fun _ _ _ _ _ d hd => ?_) (fun _ _ _ _ _ d hd _ => (pd_var 9)) (fun d hd _ => fixL_mem hfi d hd) (by rw [List.length_map, sizeLine_eq]; omega)) (by rw [List.filter_eq_self.mpr (fun _ _ => rfl), List.map_id'])) hfi rfl rfl (fun G j d hd => ?_) (fun G j d hd => ?_)) ?_
  · obtain ⟨o, ho, rfl⟩ := List.mem_map.mp hd
    exact ptd_one (pb_val (pd_mR le_lk cfree hr (by decide) (pd_var 4) (pds_cons (pd_var 9) pds_nil) rfl rfl ⟨none, n, L2, m, s2, o, rfl, ok, ho, rfl, rfl, rfl⟩))
  · obtain ⟨o, hj, hj2, rfl⟩ := place_at hd
    rw [hj2]
    exact pgd_name 8 sc_at.nd
  · obtain ⟨o, hj, hj2, rfl⟩ := place_at hd
    have ho : o ∈ n.pls := List.mem_of_getElem? hj
    rw [hj2, take_succ_of hj, List.foldl_append, fold_at hj]
    have hsj : okTreatB n.cf s2 = true := h3
    generalize hT : treatA n.cf (n.tm m) = T
    have hTn : s2.bi.ph ≠ .lk → T s2 = s2 := fun h => by
      rw [← hT]
      have hb : (s2.bi.ph == .lk) = false := by cases hq : s2.bi.ph <;> first | rfl | exact absurd hq h
      unfold treatA
      rw [hb]
      rfl
    generalize hsj0 : (if o then when n.hI T s2 else s2) = sj
    refine hs_nx (h_forN (ds := lksIn n sj o) (cc := fun i => cells none n L2 m (if i = 0 then sj else byO T id sj o)) (Ev := fun _ => E1.set 8 (some (.int (n.key o)))) (Eb := fun _ => (E1.set 8 (some (.int (n.key o)))).set 10 (some (eLock (n.ck o)))) PassesOwn.never rfl (pl_mN le_lk clin hr (by decide) (pd_var 4) (pds_cons (pd_var 8) pds_nil) rfl rfl ⟨none, n, L2, m, sj, o, rfl, ok, ho, rfl, rfl, rfl⟩) (one_fix (fix_lock _)) rfl rfl (fun G' i d hd' => ?_) (fun G' i d hd' => ?_)) (hs_end.wk (fun H h => ?_) (fun _ h => (oNC_sub (.same (.same (.same (.same (.same (.same (.same (.same (.skip (.same (.same .nil))))))))))) h).1))
    · have e := mem_lksIn (List.mem_of_getElem? hd')
      subst e
      exact pgd_name 10 sc_at.nd
    · have e := mem_lksIn (List.mem_of_getElem? hd')
      subst e
      have hi0 : i = 0 := by
        have h1 := (List.getElem?_eq_some_iff.mp hd').1
        have h2 : (lksIn n sj o).length ≤ 1 := one_len
        omega
      subst hi0
      have hc := (mem_one (List.mem_of_getElem? hd')).1
      rw [Bool.and_eq_true, decide_eq_true_eq] at hc
      have ho2 : o = false := by cases o <;> simp_all
      subst ho2
      have hI : n.hI = true := by
        rcases mem_pls ho with ⟨_, h⟩ | ⟨h, _⟩
        · exact h
        · cases h
      have es : sj = s2 := hsj0.symm
      subst es
      show HS _ (Lk G' (cells none n L2 m sj)) _ _ (oNC (Lk G' (cells none n L2 m (T sj))) _)
      rw [← hT]
      exact hs_mM ctr hr (by decide) (pd_var 4) (pds_cons (pd_var 8) (pds_cons (pd_var 10) pds_nil)) rfl rfl ⟨n, L2, m, sj, rfl, ok, hI, hc.1, sane_treat hsj, rfl, rfl, rfl⟩ (.same (.same (.same (.same (.same (.same (.same (.same (.same (.same (.skip .nil))))))))))) (fixE_of (.cons fM (.cons rfl (.cons fL (.cons fB (.cons rfl (.non (.non (.cons rfl (.cons rfl (.non (.non .nil)))))))))))) (hs_end.wk (fun _ h => h) (fun _ h => h.1))
    · cases o with
      | true =>
        have e0 : lksIn n sj true = [] := by unfold lksIn one; simp
        rw [e0] at h
        exact h
      | false =>
        have es : sj = s2 := hsj0.symm
        subst es
        by_cases hlk : sj.bi.ph = .lk
        · have e1 : (lksIn n sj false).length = 1 := by
            unfold lksIn one
            rw [show (sj.bk false).ph = .lk from hlk]
            rfl
          rw [e1] at h
          exact h
        · have e1 : (lksIn n sj false).length = 0 := by
            unfold lksIn one
            rw [decide_eq_false (show ¬ (sj.bk false).ph = .lk from hlk)]
            rfl
          rw [e1] at h
          show LkP _ (cells none n L2 m (T sj)) _
          rw [hTn hlk]
          exact h
  rw [List.length_map, List.take_length, fold_pls]
  rw [e3]
  generalize hS3 : when (hasIn n.cf) (treatA n.cf (n.tm m)) s2 = s3 at h4 h5 h6 h7 h8 h9 h10 ⊢
  have B3 := okB_of h4
  have e4 : inOut n id (settleA n.cf (n.tm m)) s3 = when (hasOut n.cf) (settleA n.cf (n.tm m)) s3 := by unfold inOut; cases n.hI <;> rfl
  show HS _ (Lk F0 (cells none n L2 m s3)) E1 _ _
  -- settle
  refine hs_nx (h_forN (cc := fun j => cells none n L2 m ((n.pls.take j).foldl (byO id (settleA n.cf (n.tm m))) s3)) (Ev := fun _ => E1) (Eb := fun j => E1.set 8 (some (.int (n.key (n.pls.getD j false))))) PassesOwn.never rfl (PL.to (pl_lcNL (i := 9) (ds := n.pls.map fun o => .int (n.key o)) (keep := fun _ => true) (out := fun d => d) rfl sc_at.nd (pd_has (has_lk hhas) (pd_var 7)) (blkOk_by (N := ["mind", "moment", "ledger", "box", "look", "source", "letter", "places", "place", "own", "lock"]) (sc := defScope (top 45)) (by decide +kernel)) (fun _ _ _ _ _ d hd => ?_) (fun _ _ _ _ _ d hd _ => (pd_var 9)) (fun d hd _ => fixL_mem hfi d hd) (by rw [List.length_map, sizeLine_eq]; omega)) (by rw [List.filter_eq_self.mpr (fun _ _ => rfl), List.map_id'])) hfi rfl rfl (fun G j d hd => ?_) (fun G j d hd => ?_)) ?_
  · obtain ⟨o, ho, rfl⟩ := List.mem_map.mp hd
    exact ptd_one (pb_val (pd_mR le_lk cfree hr (by decide) (pd_var 4) (pds_cons (pd_var 9) pds_nil) rfl rfl ⟨none, n, L2, m, s3, o, rfl, ok, ho, rfl, rfl, rfl⟩))
  · obtain ⟨o, hj, hj2, rfl⟩ := place_at hd
    rw [hj2]
    exact pgd_name 8 sc_at.nd
  · obtain ⟨o, hj, hj2, rfl⟩ := place_at hd
    have ho : o ∈ n.pls := List.mem_of_getElem? hj
    rw [hj2, take_succ_of hj, List.foldl_append, fold_at hj]
    have hw3 : (if o then when n.hI id s3 else s3) = s3 := by cases o <;> cases n.hI <;> rfl
    rw [hw3]
    refine hs_mM cset hr (by decide) (pd_var 4) (pds_cons (pd_var 8) pds_nil) rfl rfl ⟨n, L2, m, s3, o, rfl, ok, ho, B3.ws, Nat.lt_of_le_of_lt B3.wo (by decide), rfl, rfl, rfl⟩ (.same (.same (.same (.same (.same (.same (.same (.same (.skip (.same (.same .nil))))))))))) hE1 (hs_end.wk (fun H h => ?_) (fun _ h => h.1))
    cases o <;> exact h
  rw [List.length_map, List.take_length, fold_pls]
  rw [e4]
  generalize hS4 : when (hasOut n.cf) (settleA n.cf (n.tm m)) s3 = s4 at h5 h6 h7 h8 h9 h10 ⊢
  -- offer
  refine hs_nx (h_forN (cc := fun j => cells none n L2 m ((n.pls.take j).foldl (byO (offerI n.cf) (offerO n.cf)) s4)) (Ev := fun _ => E1) (Eb := fun j => E1.set 8 (some (.int (n.key (n.pls.getD j false))))) PassesOwn.never rfl (PL.to (pl_lcNL (i := 9) (ds := n.pls.map fun o => .int (n.key o)) (keep := fun _ => true) (out := fun d => d) rfl sc_at.nd (pd_has (has_lk hhas) (pd_var 7)) (blkOk_by (N := ["mind", "moment", "ledger", "box", "look", "source", "letter", "places", "place", "own", "lock"]) (sc := defScope (top 45)) (by decide +kernel)) (fun _ _ _ _ _ d hd => ?_) (fun _ _ _ _ _ d hd _ => (pd_var 9)) (fun d hd _ => fixL_mem hfi d hd) (by rw [List.length_map, sizeLine_eq]; omega)) (by rw [List.filter_eq_self.mpr (fun _ _ => rfl), List.map_id'])) hfi rfl rfl (fun G j d hd => ?_) (fun G j d hd => ?_)) ?_
  · obtain ⟨o, ho, rfl⟩ := List.mem_map.mp hd
    exact ptd_one (pb_val (pd_mR le_lk cfree hr (by decide) (pd_var 4) (pds_cons (pd_var 9) pds_nil) rfl rfl ⟨none, n, L2, m, s4, o, rfl, ok, ho, rfl, rfl, rfl⟩))
  · obtain ⟨o, hj, hj2, rfl⟩ := place_at hd
    rw [hj2]
    exact pgd_name 8 sc_at.nd
  · obtain ⟨o, hj, hj2, rfl⟩ := place_at hd
    have ho : o ∈ n.pls := List.mem_of_getElem? hj
    rw [hj2, take_succ_of hj, List.foldl_append, fold_at hj]
    have hof : okOffer n (if o then when n.hI (offerI n.cf) s4 else s4) o := by
      cases o with
      | false => exact sane_offer h5
      | true => exact sane_offer h6
    refine hs_mM coff hr (by decide) (pd_var 4) (pds_cons (pd_var 8) pds_nil) rfl rfl ⟨n, L2, m, _, o, rfl, ok, ho, hof, rfl, rfl, rfl⟩ (.same (.same (.same (.same (.same (.same (.same (.same (.skip (.same (.same .nil))))))))))) hE1 (hs_end.wk (fun H h => ?_) (fun _ h => h.1))
    cases o with
    | false => rw [offer_I] at h; exact h
    | true => rw [offer_O] at h; exact h
  rw [List.length_map, List.take_length, fold_pls]
  have e6 : inOut n (offerI n.cf) (offerO n.cf) s4 = when (hasOut n.cf) (offerO n.cf) (when (hasIn n.cf) (offerI n.cf) s4) := rfl
  rw [e6]
  generalize hS6 : when (hasOut n.cf) (offerO n.cf) (when (hasIn n.cf) (offerI n.cf) s4) = s6 at h7 h8 h9 h10 ⊢
  have B6 := okB_of h7
  have hp6 : s6.pair = true → n.hO = true := fun h => by rw [h] at h8; exact h8
  -- send_on
  refine hs_nx (h_forN (cc := fun j => cells none n L2 m ((n.pls.take j).foldl (byO id (sendA n.cf (n.tm m))) s6)) (Ev := fun _ => E1) (Eb := fun j => E1.set 8 (some (.int (n.key (n.pls.getD j false))))) PassesOwn.never rfl (PL.to (pl_lcNL (i := 9) (ds := n.pls.map fun o => .int (n.key o)) (keep := fun _ => true) (out := fun d => d) rfl sc_at.nd (pd_has (has_lk hhas) (pd_var 7)) (blkOk_by (N := ["mind", "moment", "ledger", "box", "look", "source", "letter", "places", "place", "own", "lock"]) (sc := defScope (top 45)) (by decide +kernel)) (fun _ _ _ _ _ d hd => ?_) (fun _ _ _ _ _ d hd _ => (pd_var 9)) (fun d hd _ => fixL_mem hfi d hd) (by rw [List.length_map, sizeLine_eq]; omega)) (by rw [List.filter_eq_self.mpr (fun _ _ => rfl), List.map_id'])) hfi rfl rfl (fun G j d hd => ?_) (fun G j d hd => ?_)) ?_
  · obtain ⟨o, ho, rfl⟩ := List.mem_map.mp hd
    exact ptd_one (pb_val (pd_mR le_lk cfree hr (by decide) (pd_var 4) (pds_cons (pd_var 9) pds_nil) rfl rfl ⟨none, n, L2, m, s6, o, rfl, ok, ho, rfl, rfl, rfl⟩))
  · obtain ⟨o, hj, hj2, rfl⟩ := place_at hd
    rw [hj2]
    exact pgd_name 8 sc_at.nd
  · obtain ⟨o, hj, hj2, rfl⟩ := place_at hd
    have ho : o ∈ n.pls := List.mem_of_getElem? hj
    rw [hj2, take_succ_of hj, List.foldl_append, fold_at hj]
    have hw6 : (if o then when n.hI id s6 else s6) = s6 := by cases o <;> cases n.hI <;> rfl
    rw [hw6]
    refine hs_mM csend hr (by decide) (pd_var 4) (pds_cons (pd_var 8) pds_nil) rfl rfl ⟨n, L2, m, s6, o, rfl, ok, ho, B6.ws, Nat.lt_trans B6.ol (by decide), hp6, rfl, rfl, rfl⟩ (.same (.same (.same (.same (.same (.same (.same (.same (.skip (.same (.same .nil))))))))))) hE1 (hs_end.wk (fun H h => ?_) (fun _ h => h.1))
    cases o <;> exact h
  rw [List.length_map, List.take_length, fold_pls]
  have e7 : inOut n id (sendA n.cf (n.tm m)) s6 = when (hasOut n.cf) (sendA n.cf (n.tm m)) s6 := by unfold inOut; cases n.hI <;> rfl
  rw [e7]
  generalize hS7 : when (hasOut n.cf) (sendA n.cf (n.tm m)) s6 = s7 at h9 h10 ⊢
  have B7 := okB_of h9
  refine hs_nx (h_forC (q := q) (ds := n.pls.map fun o => .int (n.key o)) (G := fun _ => Lk F0 (cells none n L2 m s7)) (Ev := fun _ => E1) (Eb := fun j => E1.set 8 (some (.int (n.key (n.pls.getD j false))))) PassesOwn.never rfl (pd_var 7) (fun _ h => h) rfl (fun _ _ => has_lk hhas) (fun j d hd => ?_) (fun j d hd => ?_)) ?_
  · obtain ⟨o, hj, hj2, rfl⟩ := place_at hd
    rw [hj2]
    exact pgd_name 8 sc_at.nd
  · obtain ⟨o, hj, hj2, rfl⟩ := place_at hd
    have ho : o ∈ n.pls := List.mem_of_getElem? hj
    rw [hj2]
    let val : Bool := closeD n m o && (knowsD n s7 o || boundD n m s7)
    have hval : ((lksIn n s7 o).map fun _ => val).any id = false := by
      unfold lksIn
      cases o with
      | true =>
        have e0 : (decide ((s7.bk true).ph = .lk) && !true) = false := by simp
        rw [e0]; rfl
      | false =>
        by_cases hlk : s7.bi.ph = .lk
        · have hI : hasIn n.cf = true := by
            rcases mem_pls ho with ⟨_, h⟩ | ⟨h, _⟩
            · exact h
            · cases h
          have hcl : closes n.cf (n.tm m) s7 = val := by
            show (s7.bi.ph == .lk && closeD n m false && (knowsA n.cf s7 || openOut n.cf (n.tm m) s7)) = _
            rw [hlk, ← bound_eq]
            rfl
          rw [hI, hcl] at h10
          have hv : val = false := by cases hq : val <;> simp_all
          rw [hv]
          rw [show decide ((s7.bk false).ph = .lk) = true from decide_eq_true hlk]
          rfl
        · rw [show decide ((s7.bk false).ph = .lk) = false from decide_eq_false hlk]
          rfl
    refine hs_one (h_ifF (pb_notN (pd_ixT (pd_ledger LK le_lk (pd_var 4)) (pd_var 8) (at_led ok ho))) (hs_ifF (pb_val (PD.to (pd_any (bs := (lksIn n s7 o).map fun _ => val) rfl B.any (PD.to (pd_lcNL (i := 10) (ds := lksIn n s7 o) (keep := fun _ => true) (out := fun _ => .bl val) rfl sc_at.nd (pd_new (pl_mN le_lk clin hr (by decide) (pd_var 4) (pds_cons (pd_var 8) pds_nil) rfl rfl ⟨none, n, L2, m, s7, o, rfl, ok, ho, rfl, rfl, rfl⟩)) (blkOk_by (N := ["mind", "moment", "ledger", "box", "look", "source", "letter", "places", "place", "own", "lock"]) (sc := defScope (top 45)) (by decide +kernel)) (fun _ _ _ _ _ d hd => ptd_nil) (fun _ _ _ _ _ d hd _ => ?_) (fun d hd _ => rfl) (Nat.le_trans one_len (zz rfl))) ?_)) (congrArg D.bl hval))) (hs_end.wk (fun _ h => h) (fun _ h => (oNC_sub (.same (.same (.same (.same (.same (.same (.same (.same (.skip (.same (.same .nil))))))))))) h).1))))
    · rw [mem_lksIn hd]
      exact pd_mR le_lk cmc hr (by decide) (pd_var 4) (pds_cons (pd_var 8) (pds_cons (pd_var 10) pds_nil)) rfl rfl ⟨n, L2, m, s7, o, rfl, ok, ho, B7.ws, rfl, rfl, rfl⟩
    · rw [List.filter_eq_self.mpr (fun _ _ => rfl), List.map_map]; rfl
  have hfin : lookA n.cf (n.tm m) x box = (mind s7, s7.out) := by
    rw [← hS7, ← hS6, ← hS4, ← hS3, ← hS2]
    rfl
  rw [hfin]
  refine (hs_ret (pd_tup (pds_cons (pd_mR0 le_lk cmind hr (by decide) (pd_var 4) rfl rfl ⟨n, L2, m, s7, rfl, ok, B7.ws, Nat.lt_trans B7.ns (by decide), rfl, rfl, rfl⟩) (pds_cons (pd_tupleL B.tup (pd_clst le_lk 7 (pd_deeds LK le_lk (pd_var 4)) rfl)) (pds_one (pd_tupleL B.tup (pd_clst le_lk 8 (pd_letters LK le_lk (pd_var 4)) rfl))))))).wk (fun _ h => h) (fun D h => oRet_le (fun H hL => ?_) h)
  have h1 : F0.p H := hL.le
  rw [← hF] at h1
  exact Asr.cell_le h1
end
end Sd
namespace Sd
open PySem L2
theorem range_near (p : Nat) : ∀ L : Nat, (List.range L).filter (fun i => decide (i = p ∨ i + 1 = p)) = (if 0 < p ∧ p - 1 < L then [p - 1] else []) ++ (if p < L then [p] else [])
  | 0 => by simp
  | L + 1 => by
    rw [List.range_succ, List.filter_append, range_near p L]
    by_cases h1 : L = p
    · subst h1
      have e1 : [L].filter (fun i => decide (i = L ∨ i + 1 = L)) = [L] := by simp
      rw [e1, if_neg (Nat.lt_irrefl L), if_pos (Nat.lt_succ_self L), List.append_nil]
      by_cases h0 : 0 < L
      · rw [if_pos ⟨h0, by omega⟩, if_pos ⟨h0, by omega⟩]
      · rw [if_neg (fun z => h0 z.1), if_neg (fun z => h0 z.1)]
    · by_cases h2 : L + 1 = p
      · have e1 : [L].filter (fun i => decide (i = p ∨ i + 1 = p)) = [L] := by simp [h2]
        have e2 : p - 1 = L := by omega
        rw [e1, if_neg (fun z => by omega), if_neg (fun z => by omega), if_pos ⟨by omega, by omega⟩, if_neg (fun z => by omega), e2]
        rfl
      · have e1 : [L].filter (fun i => decide (i = p ∨ i + 1 = p)) = [] := by simp [h1, h2]
        rw [e1, List.append_nil]
        have c1 : (0 < p ∧ p - 1 < L) ↔ (0 < p ∧ p - 1 < L + 1) := ⟨fun h => ⟨h.1, by omega⟩, fun h => ⟨h.1, by omega⟩⟩
        have c2 : (p < L) ↔ (p < L + 1) := ⟨fun h => by omega, fun h => by omega⟩
        simp only [c1, c2]
def nearD (p : Nat) : D → Bool
  | .int i => decide (i = (p : Int) ∨ i + 1 = (p : Int))
  | _ => false
theorem pls_keys {n : Pn} (ok : OkPn n) : ((List.range n.cs.length).map fun i => D.int (i : Nat)).filter (nearD n.p) = n.pls.map fun o => D.int (n.key o) := by
  rw [List.filter_map]
  have e : (nearD n.p ∘ fun i : Nat => D.int (i : Nat)) = fun i => decide (i = n.p ∨ i + 1 = n.p) := by
    funext i
    show decide ((i : Int) = (n.p : Int) ∨ (i : Int) + 1 = (n.p : Int)) = decide (i = n.p ∨ i + 1 = n.p)
    exact decide_eq_decide.mpr ⟨fun h => by omega, fun h => by omega⟩
  rw [e, range_near]
  have h1 : (0 < n.p ∧ n.p - 1 < n.cs.length) ↔ n.hI = true := ⟨fun h => decide_eq_true h.1, fun h => ⟨of_decide_eq_true h, by have := ok.le; have := of_decide_eq_true h; omega⟩⟩
  have h2 : n.p < n.cs.length ↔ n.hO = true := ⟨fun h => decide_eq_true h, fun h => of_decide_eq_true h⟩
  have k1 : n.hI = true → n.key false = n.p - 1 := fun h => (ck_in ok (pls_of (.inl ⟨rfl, h⟩))).2
  have k2 : n.hO = true → n.key true = n.p := fun h => (ck_in ok (pls_of (.inr ⟨rfl, h⟩))).2
  simp only [h1, h2]
  unfold Pn.pls
  cases hI : n.hI <;> cases hO : n.hO <;> simp_all
end Sd
namespace Sd
open PySem L2
section
variable {P : Program} {w : World} {K : PySem.W.Frag} {mg : Str → Option Value} {base : Heap}
def S_chs (ds : List D) (d : D) : Prop := ∃ n : Pn, OkPn n ∧ ds = [eNet n.cs, .int n.p] ∧ d = .tup (n.pls.map fun o => .int (n.key o))
theorem sc_chs : FnScope ["net", "person", "channel"] ["net", "person"] (defScope (top 11)) := ⟨rfl, rfl, rfl, by decide +kernel, rfl, by decide +kernel, by decide +kernel⟩
theorem side_near (c : Ck) (p i : Nat) (h : c.k = i) : (!(eSide c p).isNon) = nearD p (.int (i : Nat)) := by
  subst h
  unfold eSide nearD
  by_cases h1 : p = c.k
  · rw [if_pos h1]
    exact (decide_eq_true (.inl (by omega))).symm
  · rw [if_neg h1]
    by_cases h2 : p = c.k + 1
    · rw [if_pos h2]
      exact (decide_eq_true (.inr (by omega))).symm
    · rw [if_neg h2]
      exact (decide_eq_false (by omega)).symm
theorem ok_chs (B : Free mg) (F : FD K mg "channels_of" (top 11) ["net", "person"]) (cs : Cal P w K mg base CX0 2 "side_of" (spD S_side)) : Cal P w K mg base CX0 3 "channels_of" (spD S_chs) := by
  refine cal_pure F sc_chs (fun ds d h => by obtain ⟨_, _, rfl, _⟩ := h; rfl) ?_
  rintro f cdv A outer s H E hr _ _ ⟨n, ok, rfl, rfl⟩ I
  have hl : (n.cs.map eChan).length = n.cs.length := List.length_map ..
  rw [← pls_keys ok]
  refine hs_ret (pd_tupleL B.tup (PD.to (pd_lcR (n := n.cs.length) (g := gName 2) (own := [("channel", 2)]) (envs := fun d => (wipeE (startE ["net", "person", "channel"] [eNet n.cs, .int n.p]) [2]).set 2 (some d)) (keep := nearD n.p) (out := fun d => d) rfl sc_chs.nd B.rng (PD.to (pd_lenT B.len (pd_var 0)) (by rw [hl])) (Nat.le_trans ok.net.1 (by decide)) (blkOk_by (N := ["net", "person", "channel"]) (sc := defScope (top 11)) (by decide +kernel)) (fun s H C cl fp => pg_name (i := 2) sc_chs.nd rfl (.inl rfl) (.inr rfl)) (fun d hd => tg_name 2) (fun _ _ _ _ _ d hd => ?_) (fun _ _ _ _ _ d hd _ => (pd_var 2)) (fun d hd _ => ?_)) (congrArg D.lst (List.map_id' _))))
  · obtain ⟨i, hi, rfl⟩ := List.mem_map.mp hd
    have hil : i < n.cs.length := List.mem_range.mp hi
    have hci : n.cs[i]? = some n.cs[i] := List.getElem?_eq_getElem hil
    exact ptd_one (pb_notN (pd_call cs pass0 hr (by decide) (pds_cons (pd_var 0) (pds_cons (pd_var 2) (pds_cons (pd_var 1) pds_nil))) ⟨n.cs, i, n.cs[i], n.p, rfl, hci, rfl⟩) (side_near _ _ _ (ok.net.2 _ _ hci)))
  · obtain ⟨i, _, rfl⟩ := List.mem_map.mp hd
    rfl
def S_bm (ds : List D) (d : D) : Prop := ∃ n : Pn, OkPn n ∧ n.wsh = n.eWish ∧ ds = [eNet n.cs, eTimes n.t0 n.t1 n.t2, .int n.p, .tup (one (n.p == 0) n.wsh), .tup (asksD n), .tup [.int 0, .int 0, .int 0]] ∧ d = eMind n (m0 n.p)
theorem sc_bm : FnScope ["net", "times", "person", "wishes", "asks", "cares", "town", "books", "place"] ["net", "times", "person", "wishes", "asks", "cares"] (defScope (top 43)) := ⟨rfl, rfl, rfl, by decide +kernel, rfl, by decide +kernel, by decide +kernel⟩
theorem side_own {n : Pn} (ok : OkPn n) {o : Bool} (h : o ∈ n.pls) : eSide (n.ck o) n.p = .int (sideI (n.ck o).fl o) := by
  have hk : (n.ck o).k = if o then n.p else n.p - 1 := (ck_in ok h).2
  unfold eSide
  cases o with
  | true => rw [if_pos (by rw [hk]; rfl)]
  | false =>
    have hp : 0 < n.p := by
      rcases mem_pls h with ⟨_, h⟩ | ⟨h, _⟩
      · exact of_decide_eq_true h
      · cases h
    have hk : (n.ck false).k = n.p - 1 := hk
    rw [if_neg (by rw [hk]; omega), if_pos (by rw [hk]; omega)]
theorem ok_bm (B : Free mg) (F : FD K mg "begun_mind" (top 43) ["net", "times", "person", "wishes", "asks", "cares"]) (ct : Cal P w K mg base CX0 11 "tuple_of" (spD (S_tuple_of 10))) (cs : Cal P w K mg base CX0 2 "side_of" (spD S_side)) (cc : Cal P w K mg base CX0 3 "channels_of" (spD S_chs)) (cb : Cal P w K mg base CX0 12 "begun_book" (spD S_begun_book)) :
    Cal P w K mg base CX0 13 "begun_mind" (spD S_bm) := by
  refine cal_pure F sc_bm (fun ds d h => by obtain ⟨_, _, _, rfl, _⟩ := h; rfl) ?_
  rintro f cdv A outer s H E hr _ _ ⟨n, ok, hw, rfl, rfl⟩ I
  have t3 : Tk 1 (D.tup [.int 0, .int 0, .int 0]) := tk_w (.cons tk_int (.cons tk_int (.cons tk_int .nil)))
  have tt : Tk 1 (eTimes n.t0 n.t1 n.t2) := tk_w (.cons tk_int (.cons tk_int (.cons tk_int .nil)))
  have tw : Tk 4 (D.tup (one (n.p == 0) n.wsh)) := tk_one (hw ▸ tk_wish ok)
  refine hs_set 6 sc_bm.nd (pd_call ct pass0 hr (by decide) (pds_cons (pd_var 0) pds_nil) (tuS (tk_net ok.net.1))) ?_
  let bkAt : D → D := fun d => match d with
    | .int k => ((n.pls.find? fun o => decide ((n.key o : Int) = k)).elim D.non fun o => eBk (n.ck o) o b0)
    | _ => D.non
  have hbk : ∀ o ∈ n.pls, bkAt (.int (n.key o)) = eBk (n.ck o) o b0 := fun o h => by
    show (n.pls.find? fun x => decide ((n.key x : Int) = (n.key o : Int))).elim D.non _ = _
    have hm := mem_pls h
    unfold Pn.pls
    cases hI : n.hI <;> cases hO : n.hO <;> cases o <;> simp_all
    have := key_ne ok hI hO
    have hne : ¬ ((n.key false : Int) = (n.key true : Int)) := by omega
    simp [hne]
  refine hs_set 7 sc_bm.nd (pd_tupleL B.tup (PD.to (pd_lcN (i := 8) (ds := n.pls.map fun o => .int (n.key o)) (keep := fun _ => true) (out := bkAt) rfl sc_bm.nd (pd_call cc pass0 hr (by decide) (pds_cons (pd_var 6) (pds_cons (pd_var 2) pds_nil)) ⟨n, ok, rfl, rfl⟩) (blkOk_by (N := ["net", "times", "person", "wishes", "asks", "cares", "town", "books", "place"]) (sc := defScope (top 43)) (by decide +kernel)) (fun _ _ _ _ _ d hd => ptd_nil) (fun _ _ _ _ _ d hd _ => ?_) (fun d hd _ => ?_) ?_) (d2 := .lst (n.pls.map fun o => eBk (n.ck o) o b0)) ?_)) ?_
  · obtain ⟨o, ho, rfl⟩ := List.mem_map.mp hd
    rw [hbk o ho]
    exact pd_call cb pass0 hr (by decide) (pds_cons (pd_var 6) (pds_cons (pd_var 8) (pds_one (PD.to (pd_call cs pass0 hr (by decide) (pds_cons (pd_var 6) (pds_cons (pd_var 8) (pds_cons (pd_var 2) pds_nil))) ⟨n.cs, n.key o, n.ck o, n.p, rfl, (ck_in ok ho).1, rfl⟩) (side_own ok ho))))) ⟨n.cs, n.key o, n.ck o, o, rfl, ok.net.1, (ck_in ok ho).1, rfl, rfl⟩
  · obtain ⟨o, ho, rfl⟩ := List.mem_map.mp hd
    rw [hbk o ho]
    exact eBk_fix _ _ (Nat.zero_le _)
  · rw [List.length_map, sizeLine_eq]
    have : n.pls.length ≤ 2 := by unfold Pn.pls; cases n.hI <;> cases n.hO <;> simp
    omega
  · rw [List.filter_eq_self.mpr (fun _ _ => rfl), List.map_map]
    exact congrArg D.lst (List.map_congr_left fun o ho => hbk o ho)
  refine hs_ret (PD.to (pd_tup (pds_cons (pd_var 6) (pds_cons (pd_call ct pass0 hr (by decide) (pds_cons (pd_var 1) pds_nil) (tuS (tt))) (pds_cons (pd_var 2) (pds_cons (pd_call ct pass0 hr (by decide) (pds_cons (pd_var 5) pds_nil) (tuS (t3))) (pds_cons (pd_var 7) (pds_cons (pd_tup pds_nil) (pds_cons (pd_call ct pass0 hr (by decide) (pds_cons (pd_var 4) pds_nil) (tuS (tk_asks n))) (pds_cons (pd_tup pds_nil) (pds_cons (pd_tup pds_nil) (pds_cons (pd_call ct pass0 hr (by decide) (pds_cons (pd_var 3) pds_nil) (tuS (tw))) (pds_cons (pd_tup pds_nil) pds_nil)))))))))))) ?_)
  have hb : ∀ o, (m0 n.p).bk o = b0 := fun o => by cases o <;> rfl
  unfold eMind
  have : (n.pls.map fun o => eBk (n.ck o) o ((m0 n.p).bk o)) = n.pls.map fun o => eBk (n.ck o) o b0 := List.map_congr_left fun o _ => by rw [hb]
  rw [this]
  rfl
end
end Sd
namespace Sd
open PySem L2
section
variable {P : Program} {w : World} {K : PySem.W.Frag} {mg : Str → Option Value} {base : Heap}
def S_known (ds : List D) (d : D) : Prop := ∃ (n : Pn) (x : Mi), OkPn n ∧ n.wsh = n.eWish ∧ OkMi x ∧ ds = [eMind n x] ∧ d = .tup (one x.sec (.int 7))
theorem sc_known : FnScope ["mind"] ["mind"] (defScope (top 47)) := ⟨rfl, rfl, rfl, by decide +kernel, rfl, by decide +kernel, by decide +kernel⟩
theorem ok_known (F : FD K mg "known_by" (top 47) ["mind"]) (ct : Cal P w K mg base CX0 11 "tuple_of" (spD (S_tuple_of 10))) : Cal P w K mg base CX0 12 "known_by" (spD S_known) := by
  refine cal_pure F sc_known (fun ds d h => by obtain ⟨_, _, _, _, _, rfl, _⟩ := h; rfl) ?_
  rintro f cdv A outer s H E hr _ _ ⟨n, x, ok, hw, hx, rfl, rfl⟩ I
  exact hs_ret (pd_ixT (pd_call ct pass0 hr (by decide) (pds_cons (pd_var 0) pds_nil) (tuS (tk_mind ok hw hx))) pd_int)
end
end Sd
/-! the row of persons, look by look; the runs by the kernel, idle looks skipped. Plain Lean. -/
namespace Sd
abbrev Box := List (Bool × Lt)
abbrev Wo := List (Mi × Box)
/-- what of the letters l of person s comes to person t -/
def con (s t : Nat) (l : Box) : Box := if s + 1 == t then (l.filter (·.1)).map fun y => (true, y.2) else if t + 1 == s then (l.filter (!·.1)).map fun y => (false, y.2) else []
structure Rn where
  n : Nat
  cf : Nat → Cf
  tm : Nat → Nat → Tm
def dM : Mi := ⟨false, false, false, false, ⟨0, .st, none, false, []⟩, ⟨0, .st, none, false, []⟩⟩
def dT : Tm := ⟨false, ⟨false, false, false, false, false⟩, ⟨false, false, false, false, false⟩⟩
def outs (r : Rn) (t : List Tm) (w : Wo) : List (Mi × Box) := (List.range (r.n + 1)).map fun p => lookA (r.cf p) (t.getD p dT) (w.getD p (dM, [])).1 (w.getD p (dM, [])).2
def boxOf (n : Nat) (q : List (Mi × Box)) (t : Nat) : Box := (List.range (n + 1)).flatMap fun s => con s t (q.getD s (dM, [])).2
def stepT (r : Rn) (t : List Tm) (w : Wo) : Wo := let q := outs r t w; (List.range (r.n + 1)).map fun p => ((q.getD p (dM, [])).1, boxOf r.n q p)
def okOut (c : Cf) (l : Box) : Bool := decide (l.length ≤ 40) && l.all fun y => if y.1 then hasOut c else hasIn c
def okP (r : Rn) (t : List Tm) (w : Wo) (p : Nat) : Bool := saneB (r.cf p) (t.getD p dT) (w.getD p (dM, [])).1 (w.getD p (dM, [])).2 && decide ((w.getD p (dM, [])).2.length ≤ 40) && okOut (r.cf p) (lookA (r.cf p) (t.getD p dT) (w.getD p (dM, [])).1 (w.getD p (dM, [])).2).2
def okT (r : Rn) (t : List Tm) (w : Wo) : Bool := (List.range (r.n + 1)).all (okP r t w)
def tms (r : Rn) (k : Nat) : List Tm := (List.range (r.n + 1)).map fun p => r.tm p k
def wo0 (n : Nat) : Wo := (List.range (n + 1)).map fun p => (m0 p, [])
def runW (r : Rn) : Nat → Wo
  | 0 => wo0 r.n
  | k + 1 => stepT r (tms r k) (runW r k)
def fast (r : Rn) : Nat → Nat → Wo → Option (List Tm) → Option Wo
  | 0, _, w, _ => some w
  | f + 1, k, w, prev =>
    let t := tms r k
    if prev = some t then fast r f (k + 1) w prev
    else if okT r t w then let w' := stepT r t w; fast r f (k + 1) w' (if w' = w then some t else none) else none
theorem fast_ok (r : Rn) : ∀ (f k : Nat) (w : Wo) (prev : Option (List Tm)) (w' : Wo), w = runW r k → (∀ t, prev = some t → stepT r t w = w ∧ okT r t w = true) → fast r f k w prev = some w' → w' = runW r (k + f) ∧ ∀ j, k ≤ j → j < k + f → okT r (tms r j) (runW r j) = true
  | 0, k, w, prev, w', hw, hp, h => by
    cases h
    exact ⟨hw, fun j h1 h2 => by omega⟩
  | f + 1, k, w, prev, w', hw, hp, h => by
    unfold fast at h
    have key : ∀ (v : Wo) (p2 : Option (List Tm)), v = stepT r (tms r k) w → okT r (tms r k) w = true → (∀ t, p2 = some t → stepT r t v = v ∧ okT r t v = true) → fast r f (k + 1) v p2 = some w' → w' = runW r (k + (f + 1)) ∧ ∀ j, k ≤ j → j < k + (f + 1) → okT r (tms r j) (runW r j) = true := by
      intro v p2 hv ho hp2 h2
      have hrun : v = runW r (k + 1) := by rw [hv, hw]; rfl
      obtain ⟨a, b⟩ := fast_ok r f (k + 1) v p2 w' hrun hp2 h2
      refine ⟨by rw [a, show k + 1 + f = k + (f + 1) by omega], fun j h1 h2 => ?_⟩
      by_cases hj : j = k
      · subst hj; rw [← hw]; exact ho
      · exact b j (by omega) (by omega)
    by_cases h1 : prev = some (tms r k)
    · simp only [h1, if_true] at h
      obtain ⟨e1, e2⟩ := hp _ h1
      exact key w (some (tms r k)) e1.symm e2 (fun t ht => hp t (h1.trans ht)) h
    · simp only [h1, if_false] at h
      by_cases h2 : okT r (tms r k) w = true
      · simp only [h2, if_true] at h
        refine key _ _ rfl h2 (fun t ht => ?_) h
        by_cases h3 : stepT r (tms r k) w = w
        · simp only [h3, if_true] at ht
          cases ht
          rw [h3]
          exact ⟨h3, h2⟩
        · simp only [h3, if_false] at ht
          cases ht
      · simp only [h2] at h
        cases h
/-- the end: every channel as told -/
def okEnd2 (n : Nat) (full : Bool) (w : Wo) : Bool :=
  (List.range n).all (fun k => (w.getD k (dM, [])).1.bo.ph == (if full then .pd else .st) && (w.getD (k + 1) (dM, [])).1.bi.ph == (if full then .pd else .st)) && (w.getD 0 (dM, [])).1.sec == full
def goodW (r : Rn) (full : Bool) (many : Nat) : Bool := match fast r many 0 (wo0 r.n) none with
  | some w => okEnd2 r.n full w
  | none => false
theorem goodW_ok {r : Rn} {full : Bool} {many : Nat} (h : goodW r full many = true) : (∀ j, j < many → okT r (tms r j) (runW r j) = true) ∧ okEnd2 r.n full (runW r many) = true := by
  unfold goodW at h
  cases hq : fast r many 0 (wo0 r.n) none with
  | none => rw [hq] at h; cases h
  | some w =>
    rw [hq] at h
    obtain ⟨a, b⟩ := fast_ok r many 0 (wo0 r.n) none w rfl (fun t ht => nomatch ht) hq
    rw [Nat.zero_add] at a
    exact ⟨fun j hj => b j (Nat.zero_le _) (by omega), by rw [← a]; exact h⟩
/-! ### the laws' runs -/
def cfA (n : Nat) (fl : List Bool) (fit ask : Bool) (p : Nat) : Cf := ⟨n, p, fl.getD (p - 1) false, fl.getD p false, fit, decide (p < n) && fit, decide (0 < p), decide (p = n) && ask⟩
def tcz (k : Nat) : Tc := ⟨false, decide (0 < k), false, false, false⟩
def tmA (n : Nat) (es : Eds) (p k : Nat) : Tm := ⟨decide (0 < k), tc (es.getD (p - 1) (0, 0, 0)) k, if p < n then tc (es.getD p (0, 0, 0)) k else tcz k⟩
def rnA (fl : List Bool) (fit ask : Bool) (es : Eds) : Rn := ⟨fl.length, cfA fl.length fl fit ask, tmA fl.length es⟩
end Sd
namespace Sd
open PySem L2
/-! ### cells of the caller, cells of the callee -/
theorem tr_hws {cs : Cs} {H : Hp} (h : ∀ (i : Nat) (q : Addr × Co), cs[i]? = some q → CoAt H q.1 q.2) : Tr H (Hws H cs) := fun a ys e => by
  rw [Hws_out]
  · exact e
  · intro z
    obtain ⟨i, c, hi⟩ := mem_fst z
    obtain ⟨o, ho, hno⟩ := (h i _ hi).ex
    rw [e] at ho; exact hno ys (Option.some.inj ho).symm
theorem Hws_append {c1 c2 : Cs} {H : Hp} : Hws (Hws H c1) c2 = Hws H (c1 ++ c2) := by
  funext b
  by_cases h2 : b ∈ c2.map Prod.fst
  · rw [Hws_in h2, Hws_in (by rw [List.map_append]; exact List.mem_append_right _ h2)]
  · rw [Hws_out h2]
    by_cases h1 : b ∈ c1.map Prod.fst
    · rw [Hws_in h1, Hws_in (by rw [List.map_append]; exact List.mem_append_left _ h1)]
    · rw [Hws_out h1, Hws_out (by rw [List.map_append]; exact fun z => (List.mem_append.mp z).elim h1 h2)]
theorem lkp_split {F : Asr} {c1 c2 : Cs} {H : Hp} (h : LkP F (c1 ++ c2) H) : LkP (Lk F c2) c1 H := by
  have g1 : ∀ (i : Nat) (q : Addr × Co), c1[i]? = some q → (c1 ++ c2)[i]? = some q := fun i q e => by
    rw [List.getElem?_append_left (List.getElem?_eq_some_iff.mp e).1]; exact e
  have g2 : ∀ (i : Nat) (q : Addr × Co), c2[i]? = some q → (c1 ++ c2)[c1.length + i]? = some q := fun i q e => by
    rw [List.getElem?_append_right (Nat.le_add_right _ _), Nat.add_sub_cancel_left]; exact e
  have a1 : ∀ (i : Nat) (q : Addr × Co), c1[i]? = some q → CoAt H q.1 q.2 := fun i q e => h.at_ i q (g1 i q e)
  have t := tr_hws a1
  refine ⟨⟨by rw [Hws_append]; exact h.fr, fun i j q r e1 e2 e3 => ?_, fun i q e => ?_⟩, fun i j q r e1 e2 e3 => h.nd i j q r (g1 i q e1) (g1 j r e2) e3, a1⟩
  · have := h.nd _ _ q r (g2 i q e1) (g2 j r e2) e3
    omega
  · refine (h.at_ _ q (g2 i q e)).tr t (Hws_out fun z => ?_)
    obtain ⟨j, c, hj⟩ := mem_fst z
    have := h.nd _ _ _ q (g1 j _ hj) (g2 i q e) rfl
    have hl := (List.getElem?_eq_some_iff.mp hj).1
    omega
theorem lkp_join {F : Asr} {c1 c2 : Cs} {H : Hp} (h : LkP (Lk F c2) c1 H) : LkP F (c1 ++ c2) H := by
  have t := tr_hws h.at_
  have hfr : LkP F c2 (Hws H c1) := h.fr
  have ne : ∀ (i j : Nat) (q r : Addr × Co), c1[i]? = some q → c2[j]? = some r → q.1 ≠ r.1 := fun i j q r e1 e2 z => by
    obtain ⟨o, ho, _⟩ := (hfr.at_ j r e2).ex
    rw [Hws_in (by rw [← z]; exact fst_mem e1)] at ho
    cases ho
  have get : ∀ (i : Nat) (q : Addr × Co), (c1 ++ c2)[i]? = some q → (i < c1.length ∧ c1[i]? = some q) ∨ (c1.length ≤ i ∧ c2[i - c1.length]? = some q) := fun i q e => by
    by_cases hi : i < c1.length
    · rw [List.getElem?_append_left hi] at e; exact .inl ⟨hi, e⟩
    · rw [List.getElem?_append_right (by omega)] at e; exact .inr ⟨by omega, e⟩
  refine ⟨by rw [← Hws_append]; exact hfr.fr, fun i j q r e1 e2 e3 => ?_, fun i q e => ?_⟩
  · rcases get i q e1 with ⟨l1, f1⟩ | ⟨l1, f1⟩ <;> rcases get j r e2 with ⟨l2, f2⟩ | ⟨l2, f2⟩
    · exact h.nd i j q r f1 f2 e3
    · exact absurd e3 (ne _ _ _ _ f1 f2)
    · exact absurd e3.symm (ne _ _ _ _ f2 f1)
    · have := hfr.nd _ _ q r f1 f2 e3
      omega
  · rcases get i q e with ⟨_, f⟩ | ⟨_, f⟩
    · exact h.at_ i q f
    · exact (hfr.at_ _ q f).mono Hws_le
/-- the cells behind are no more looked at -/
theorem LkP.drop {F : Asr} {c1 c2 : Cs} {H : Hp} (h : LkP F (c1 ++ c2) H) : LkP F c1 H := (lkp_split h).frm fun _ z => LkP.le z
/-! ### expressions that change cells -/
def tCh (F : Asr) (cs : Cs) (env : Ev) (R : RN) : TE := fun σ H Q => LkP F cs H ∧ EnvR H σ env ∧ ∀ v H' d c, R d c → LkP F c H' → Rep H' d v → d.fix = true → Tr H H' → Q v H'
def tChs (F : Asr) (cs : Cs) (env : Ev) (R : List D → Cs → Prop) : TA := fun σ H Q => LkP F cs H ∧ EnvR H σ env ∧ ∀ vs H' ds c, R ds c → LkP F c H' → RepL H' ds vs → fixL ds = true → Tr H H' → Q vs H'
abbrev PCh (X : Cx) (F : Asr) (cs : Cs) (env : Ev) (e : Expr) (R : RN) : Prop := PE X e (tCh F cs env R)
abbrev PChs (X : Cx) (F : Asr) (cs : Cs) (env : Ev) (es : List Expr) (R : List D → Cs → Prop) : Prop := PA X es (tChs F cs env R)
def rIs (d : D) (c : Cs) : RN := fun d' c' => d' = d ∧ c' = c
def rIsL (ds : List D) (c : Cs) : List D → Cs → Prop := fun d' c' => d' = ds ∧ c' = c
def rCons (R : RN) (Rs : D → Cs → List D → Cs → Prop) : List D → Cs → Prop := fun ds c => ∃ d c1 ds', R d c1 ∧ Rs d c1 ds' c ∧ ds = d :: ds'
/-- what a def promises that changes the caller's cells -/
def spW (S : Cs → List D → RN → Prop) : Sp := fun vs H Q _ => ∃ F cs ds R, LkP F cs H ∧ RepL H ds vs ∧ S cs ds R ∧ ∀ v H' d c, R d c → LkP F c H' → Rep H' d v → d.fix = true → Tr H H' → Q v H'
/-- a return of such -/
def oRW (F : Asr) (R : RN) : Ends → Prop := fun D => ∀ v H d c, R d c → LkP F c H → Rep H d v → d.fix = true → D.rt v H
theorem noNx_rw {F : Asr} {R : RN} : NoNx (oRW F R) := fun _ _ h => h
theorem noLp_rw {F : Asr} {R : RN} : NoLp (oRW F R) := fun _ _ _ _ h => h
section
variable {X : Cx} {F : Asr} {cs c1 c2 cA cB : Cs} {env env2 : Ev} {e a b o : Expr} {es : List Expr} {d : D} {ds : List D} {pos p p2 : Pos} {x : Str} {R R' Ra Rb : RN} {RL : List D → Cs → Prop} {k j : Nat} {O : Ends → Prop} {rest : List Stmt}
theorem ch_to (h : PCh X F cs env e R) (hk : ∀ d c, R d c → R' d c) : PCh X F cs env e R' := h.wk fun σ H Q ⟨hI, hE, k⟩ => ⟨hI, hE, fun v H' d c hR => k v H' d c (hk d c hR)⟩
theorem chs_to {RL' : List D → Cs → Prop} (h : PChs X F cs env es RL) (hk : ∀ d c, RL d c → RL' d c) : PChs X F cs env es RL' := h.wk fun σ H Q ⟨hI, hE, k⟩ => ⟨hI, hE, fun v H' d c hR => k v H' d c (hk d c hR)⟩
theorem ch_pd (h : PD X (Lk F cs) env e d) (hf : d.fix = true) : PCh X F cs env e (rIs d cs) := h.wk fun σ H Q ⟨hI, hE, k⟩ => ⟨hI, hE, fun v H' s r => k v H' d cs ⟨rfl, rfl⟩ ((Lk F cs).mono s hI) r hf (Tr.of s)⟩
theorem ch_perm (h : PCh X F c1 env e R) (hp : c1.Perm cs) : PCh X F cs env e R := h.wk fun σ H Q ⟨hI, hE, k⟩ => ⟨hI.perm hp, hE, k⟩
theorem hs_perm {sts : List Stmt} (h : HS X (Lk F c1) env sts O) (hp : c1.Perm cs) : HS X (Lk F cs) env sts O := h.wk (fun H hL => LkP.perm hL hp) fun _ q => q
theorem hs_split {sts : List Stmt} (h : HS X (Lk (Lk F c2) c1) env sts O) : HS X (Lk F (c1 ++ c2)) env sts O := h.wk (fun H hL => lkp_split hL) fun _ q => q
theorem hs_join {sts : List Stmt} (h : HS X (Lk F (c1 ++ c2)) env sts O) : HS X (Lk (Lk F c2) c1) env sts O := h.wk (fun H hL => lkp_join hL) fun _ q => q
theorem chs_nil : PChs X F cs env [] (rIsL [] cs) := pa_nil.wk fun σ H Q ⟨hI, hE, k⟩ => k [] H [] cs ⟨rfl, rfl⟩ hI rfl rfl (Tr.refl H)
theorem chs_cons {Rs : D → Cs → List D → Cs → Prop} (hE0 : fixE env = true) (h : PCh X F cs env e R) (hr : ∀ d c, R d c → PChs X F c env es (Rs d c)) (hs : starEach (e :: es) X.env = (false, eval e X.env) :: starEach es X.env := by rfl) : PChs X F cs env (e :: es) (rCons R Rs) := by
  have hr' : PA X es (fun σ H Q => ∃ t : D × Cs, R t.1 t.2 ∧ tChs F t.2 env (Rs t.1 t.2) σ H Q) := ⟨fun pos pins s σ H Q I ⟨t, ht, q⟩ => (hr t.1 t.2 ht).run pos pins s σ H Q I q⟩
  exact (pa_cons h hr' hs).wk fun σ H Q ⟨hI, hE, k⟩ => ⟨hI, hE, fun v H1 d c hR hP r hf t1 => ⟨(d, c), hR, hP, hE.tr t1 (fixE_get hE0), fun vs H2 ds c2 hRs hP2 r2 hf2 t2 => k (v :: vs) H2 (d :: ds) c2 ⟨d, c, ds, hR, hRs, rfl⟩ hP2 (by unfold RepL; exact ⟨v, vs, rfl, r.tr t2 hf, r2⟩) (by show (d.fix && fixL ds) = true; rw [hf, hf2]; rfl) (t1.trans t2)⟩⟩
/-- one that changes nothing, ahead of others -/
theorem chs_pd (hE0 : fixE env = true) (h : PD X (Lk F cs) env e d) (hf : d.fix = true) (hr : PChs X F cs env es RL) (hs : starEach (e :: es) X.env = (false, eval e X.env) :: starEach es X.env := by rfl) : PChs X F cs env (e :: es) (fun ds c => ∃ ds', RL ds' c ∧ ds = d :: ds') :=
  chs_to (chs_cons (Rs := fun _ _ => RL) hE0 (ch_pd h hf) (fun d' c ⟨e1, e2⟩ => by subst e1 e2; exact hr) hs) fun ds c ⟨d', c', ds', ⟨e1, e2⟩, h2, h3⟩ => by subst e1; exact ⟨ds', h2, h3⟩
theorem chs_one (h : PCh X F cs env e R) (hs : starEach (e :: []) X.env = (false, eval e X.env) :: starEach [] X.env := by rfl) : PChs X F cs env [e] (fun ds c => ∃ d, R d c ∧ ds = [d]) := by
  have hr' : PA X [] (fun σ H Q => Q [] H) := pa_nil.wk fun σ H Q h => h
  exact (pa_cons h hr' hs).wk fun σ H Q ⟨hI, hE, k⟩ => ⟨hI, hE, fun v H1 d c hR hP r hf t1 => k [v] H1 [d] c ⟨d, hR, rfl⟩ hP (by unfold RepL; exact ⟨v, [], rfl, r, rfl⟩) (by show (d.fix && true) = true; rw [hf]; rfl) t1⟩
theorem ch_tup {x1} (h : PChs X F cs env es RL) (hz : ∀ ds c, RL ds c → ds.length ≤ 100) : PCh X F cs env (.Tuple es x1 pos) (fun d c => ∃ ds, d = .tup ds ∧ RL ds c) :=
  (pe_tup h).wk fun σ H Q ⟨hI, hE, k⟩ => ⟨hI, hE, fun vs H' ds c hR hP r hf t => ⟨by have := hz ds c hR; rw [r.length, sizeLine_eq]; omega, fun p hp => k _ _ (.tup ds) c ⟨ds, rfl, hR⟩ (lkp_new hP hp) (Rep.tup_new hp r) hf (t.trans (Tr.of (Same.new hp)))⟩⟩
theorem ch_lst (h : PChs X F cs env es RL) (hz : ∀ ds c, RL ds c → ds.length ≤ 100) : PCh X F cs env (.List es pos) (fun d c => ∃ q ds c', d = .ref q ∧ RL ds c' ∧ c = c' ++ [(q, .lst ds)]) :=
  (pe_lst h).wk fun σ H Q ⟨hI, hE, k⟩ => ⟨hI, hE, fun vs H' ds c hR hP r hf t => ⟨by have := hz ds c hR; rw [r.length, sizeLine_eq]; omega, fun p hp => k _ _ (.ref p) _ ⟨p, ds, c, rfl, hR, rfl⟩ (hP.new (Same.new hp) hp ⟨hf, vs, upd_same, r.mono (Same.new hp)⟩) rfl rfl (t.trans (Tr.of (Same.new hp)))⟩⟩
/-- a new list, as a cell -/
theorem ch_pl (h : PL X (Lk F cs) env e ds) (hf : fixL ds = true) : PCh X F cs env e (fun d c => ∃ q, d = .ref q ∧ c = cs ++ [(q, .lst ds)]) := h.wk fun σ H Q ⟨hI, hE, k⟩ => ⟨hI, hE, fun p xs H' s hp hx r => k (.ref p) H' (.ref p) _ ⟨p, rfl, rfl⟩ (LkP.new hI s hp ⟨hf, xs, hx, r⟩) rfl rfl (Tr.of s)⟩
theorem ch_callR {S : Cs → List D → RN → Prop} (c : Cal X.prog X.w X.K X.mg X.base CX0 k x (spW S)) (hr : Room j X.A) (hk : k ≤ j) (ha : PChs X F cs env (e :: es) RL) (hS : ∀ ds c, RL ds c → ∃ cA cB R', (cA ++ cB).Perm c ∧ S cA ds R' ∧ ∀ d ca, R' d ca → R d (ca ++ cB)) (hg : Gl X x := by rfl)
    (hdb : (x == ("__debug__" : Str)) = false := by decide) (he : starEach (e :: es) X.env = (false, eval e X.env) :: starEach es X.env := by rfl) (hpl : (backTo pos (starEach es X.env)).any (·.1) = false := by rfl) :
    PCh X F cs env (.Call (.Name x p) (e :: es) [] pos) R := by
  obtain ⟨f, fd, ps, FO, hm, kp, bd⟩ := c.ex
  exact (pe_call (E := E0) (dvs := []) FO (hr.mono hk) hg hm kp bd .nil pass0 ha hdb he hpl).wk fun σ H Q ⟨hI, hE, k⟩ => ⟨hI, hE, fun vs H1 ds c hRL hP r hf t1 => by
    obtain ⟨cA, cB, R', hp, hS, hR⟩ := hS ds c hRL
    exact ⟨Lk F cB, cA, ds, R', lkp_split (hP.perm hp), by rw [List.append_nil]; exact r, hS, fun v H' d ca h1 h2 h3 h4 h5 => k v H' d (ca ++ cB) (hR d ca h1) (lkp_join h2) h3 h4 (t1.trans h5)⟩⟩
theorem ch_call0 {S : Cs → List D → RN → Prop} (c : Cal X.prog X.w X.K X.mg X.base CX0 k x (spW S)) (hr : Room j X.A) (hk : k ≤ j) (hS : S [] [] R') (hR : ∀ d ca, R' d ca → R d (ca ++ cs)) (hg : Gl X x := by rfl) (hdb : (x == ("__debug__" : Str)) = false := by decide) :
    PCh X F cs env (.Call (.Name x p) [] [] pos) R := by
  obtain ⟨f, fd, ps, FO, hm, kp, bd⟩ := c.ex
  exact (pe_call0 (E := E0) (dvs := []) FO (hr.mono hk) hg hm kp bd .nil pass0 hdb).wk fun σ H Q ⟨hI, hE, k⟩ =>
    ⟨Lk F cs, [], [], R', lkp_split (c1 := []) hI, rfl, hS, fun v H' d ca h1 h2 h3 h4 h5 => k v H' d (ca ++ cs) (hR d ca h1) (lkp_join h2) h3 h4 h5⟩
/-- i + what changes -/
theorem ch_add {i : Int} (hE0 : fixE env = true) (ha : PD X (Lk F cs) env a (.int i)) (hb : PCh X F cs env b R) (hR : ∀ d c, R d c → ∃ j, d = .int j ∧ R' (.int (i + j)) c) : PCh X F cs env (.BinOp a .Add b pos) R' :=
  (pe_op op_add ha hb).wk fun σ H Q ⟨hI, hE, k⟩ => ⟨hI, hE, fun v H1 s1 r1 => ⟨(Lk F cs).mono s1 hI, hE.mono s1, fun u H2 d c h1 h2 h3 h4 h5 => by
    obtain ⟨j, ed, h⟩ := hR d c h1
    subst ed
    exact ⟨i, j, r1, h3, k _ H2 _ c h h2 rfl rfl ((Tr.of s1).trans h5)⟩⟩⟩
/-- [..][i]: the list itself falls away -/
theorem ch_ixL {i : Int} (hE0 : fixE env = true) (ha : PCh X F cs env a R) (hb : ∀ c, PD X (Lk F c) env b (.int i)) (hR : ∀ d c, R d c → ∃ q ds c' e, d = .ref q ∧ c = c' ++ [(q, .lst ds)] ∧ atI ds i = some e ∧ R' e c') (hs : PlainIx b := by exact fun _ _ => rfl) : PCh X F cs env (.Subscript a b pos) R' := by
  have hb' : PE X b (fun σ H Q => ∃ c : Cs, True ∧ tD (Lk F c) env (.int i) σ H Q) := pe_exI fun c _ => hb c
  exact (pe_ix ix_list ha hb' hs).wk fun σ H Q ⟨hI, hE, k⟩ => ⟨hI, hE, fun v H1 d c h1 h2 h3 h4 h5 => ⟨c, trivial, h2, hE.tr h5 (fixE_get hE0), fun y H2 s2 r2 => by
    obtain ⟨q, ds, c', e, ed, ec, hat, hR⟩ := hR d c h1
    subst ed ec
    have h2' := (Lk F _).mono s2 h2
    have hq : (c' ++ [(q, Co.lst ds)])[c'.length]? = some (q, .lst ds) := by rw [List.getElem?_append_right (Nat.le_refl _), Nat.sub_self]; rfl
    obtain ⟨fx, xs, hx, rx⟩ := h2'.at_ _ _ hq
    obtain ⟨u, hu, ru⟩ := rx.at_ hat
    have ev : v = .ref q := h3
    refine ⟨q, xs, i, u, ev, r2, SqL.of hx, hu, k u H2 e c' hR h2'.drop ru ?_ (h5.trans (Tr.of s2))⟩
    unfold atI at hat
    cases hn : ixN ds.length i with
    | none => rw [hn] at hat; cases hat
    | some m => rw [hn] at hat; exact fixL_mem fx e (List.mem_of_getElem? hat)⟩⟩
/-- a and b, a true -/
theorem ch_and (hE0 : fixE env = true) (ha : PCh X F cs env a (rIs (.bl true) c1)) (hb : PCh X F c1 env (.BoolOp .And (b :: es) pos) R) : PCh X F cs env (.BoolOp .And (a :: b :: es) pos) R :=
  (pe_and ha hb).wk fun σ H Q ⟨hI, hE, k⟩ => ⟨hI, hE, fun v H1 d c ⟨e1, e2⟩ h2 h3 h4 h5 => by
    subst e1 e2
    exact ⟨true, h3, by rw [if_pos rfl]; exact ⟨h2, hE.tr h5 (fixE_get hE0), fun u H2 d c g1 g2 g3 g4 g5 => k u H2 d c g1 g2 g3 g4 (h5.trans g5)⟩⟩⟩
theorem ch_one {op : BoolOp} (h : PCh X F cs env a R) : PCh X F cs env (.BoolOp op [a] pos) R := pe_one h
/-! ### statements -/
theorem hs_setCh {pos' : Pos} (i : Nat) (hN : X.N.Nodup) (hE0 : fixE env2 = true) (hsb : Sub env2 env) (h : PCh X F cs env e R) (hr : ∀ d c, R d c → HS X (Lk F c) (env2.set i (some d)) rest O) (hi : X.N[i]? = some x := by rfl) (hx : Loc X.env.scope x := by first | exact Or.inl rfl | exact Or.inr rfl)
    (hs : swapsWith e (some (.Name x pos')) pos.line X.env = pure false := by rfl) (hf : X.fn x = true ∨ X.env.scope.names.lookup x = some .local := by first | exact .inl rfl | exact .inr rfl) : HS X (Lk F cs) env (.Assign [.Name x pos'] e pos :: rest) O :=
  (pss_cons (ps_set hN hi hx h hs hf) (L2.PSs.wk (t := fun E' σ H => ∃ t : D × Cs, R t.1 t.2 ∧ tS (Lk F t.2) (env2.set i (some t.1)) O E' σ H) (pss_exI fun t ht => hr t.1 t.2 ht) (fun _ _ _ h => h))).wk fun E' σ H ⟨hI, hE, k⟩ => ⟨hI, hE, fun v H1 d c hR hP r hf t => ⟨(d, c), hR, hP, ((hE.sub hsb).tr t (fixE_get hE0)).set r, k⟩⟩
theorem hs_retW (h : PCh X F cs env e R) : HS X (Lk F cs) env (.Return (some e) pos :: rest) (oRW F R) :=
  (pss_cons (ps_ret h) pss_never).wk fun D σ H ⟨hI, hE, k⟩ => ⟨hI, hE, fun v H1 d c hR hP r hf t => k v H1 d c hR hP r hf⟩
/-- the target is known only by what its value is -/
theorem hs_asgCh {tg : Expr} (hE0 : fixE env = true) (h : PCh X F cs env e R) {envs : D → Cs → Ev} (hg : ∀ d c, R d c → PG X tg (tG (Lk F c) d env (envs d c))) (hr : ∀ d c, R d c → HS X (Lk F c) (envs d c) rest O) (hs : swapsWithSole [tg] e pos.line X.env = pure false := by rfl) (hw : swappedStores [tg] e X.env = pure none := by rfl)
    (h1 : (assignEach [tg] X.env).map (·.2) = [assign tg X.env] := by rfl) : HS X (Lk F cs) env (.Assign [tg] e pos :: rest) O := by
  have hg' : PG X tg (fun v σ H Q => ∃ t : D × Cs, R t.1 t.2 ∧ tG (Lk F t.2) t.1 env (envs t.1 t.2) v σ H Q) := pg_exI fun t ht => hg t.1 t.2 ht
  exact (pss_cons (ps_asg h hg' hs hw h1) (L2.PSs.wk (t := fun E' σ H => ∃ t : D × Cs, R t.1 t.2 ∧ tS (Lk F t.2) (envs t.1 t.2) O E' σ H) (pss_exI fun t ht => hr t.1 t.2 ht) (fun _ _ _ h => h))).wk
    fun D σ H ⟨hI, hE, k⟩ => ⟨hI, hE, fun v H1 d c hR hP r hf t => ⟨(d, c), hR, hP, r, hE.tr t (fixE_get hE0), fun σ2 H2 s2 hE2 => ⟨(d, c), hR, (Lk F c).mono s2 hP, hE2, k⟩⟩⟩
end
section
variable {P : Program} {w : World} {K : PySem.W.Frag} {mg : Str → Option Value} {base : Heap} {x : Str} {st : Stmt} {N ps : List Str} {k : Nat}
theorem cal_W {S : Cs → List D → RN → Prop} (Fd : FD K mg x st ps) (sc : FnScope N ps (defScope st)) (len : ∀ cs ds R, S cs ds R → ds.length = ps.length)
    (body : ∀ (f : Addr) (cdv : Value) (A : Around) (outer : List Env) (s : Shared) (H : Hp) (E : XK), Room k (bx P w K mg base N x st f cdv A outer s H E).A → ∀ cs ds R, S cs ds R → ∀ F, HS (bx P w K mg base N x st f cdv A outer s H E) (Lk F cs) (startE N ds) (defBody st) (oRW F R)) :
    Cal P w K mg base CX0 (k + 1) x (spW S) := by
  obtain ⟨f, fd, Fn, hm, b⟩ := Fd.ex
  refine ⟨f, fd, ps, Fn.ok sc (fun vs H Q E h => ?_) (fun cdv A outer s H vs Q E hr h => ?_), hm, Fn.kp, b⟩
  · obtain ⟨F, cs, ds, R, _, r, hS, _⟩ := h
    rw [r.length]; exact len cs ds R hS
  · obtain ⟨F, cs, ds, R, hL, r, hS, q⟩ := h
    refine ⟨_, body f cdv A outer s H E hr cs ds R hS (F.and (trs H)), ⟨⟨hL.fr, tr_hws hL.at_⟩, hL.nd, hL.at_⟩, start_env r, fun v H' d c hR hP rv hf => ?_⟩
    exact q v H' d c hR (hP.frm fun _ z => z.1) rv hf (hP.fr.2.trans (Tr.of Hws_le))
end
end Sd
namespace Sd
open PySem L2
/-! ### iterators over data -/
structure Wk (ds : List D) (J : It) (G : Hp → Prop) : Prop where
  mono : ∀ H H', Same H H' → G H → G H'
  walk : Walk J ds.length G (fun i H x H' => Same H H' ∧ ∀ d, ds[i]? = some d → Rep H' d x)
def tWk (I : Asr) (env : Ev) (ds : List D) : TI := fun σ H R => I.p H ∧ EnvR H σ env ∧ ∀ J G H1, Same H H1 → G H1 → Wk ds J G → R J H1
abbrev PIt (X : Cx) (I : Asr) (env : Ev) (tg iter : Expr) (ds : List D) : Prop := PI X tg iter (tWk I env ds)
theorem _root_.L2.PI.wk {X : Cx} {tg iter : Expr} {t t' : TI} (h : PI X tg iter t) (k : ∀ σ H R, t' σ H R → t σ H R) : PI X tg iter t' := ⟨fun pins s σ H R I q => h.run pins s σ H R I (k σ H R q)⟩
/-- enumerated -/
def enP (ds : List D) : List D := ds.mapIdx fun i d => .tup [.int (i : Nat), d]
theorem enP_len (ds : List D) : (enP ds).length = ds.length := List.length_mapIdx
theorem enP_get {ds : List D} {i : Nat} {e : D} (h : (enP ds)[i]? = some e) : ∃ d, ds[i]? = some d ∧ e = .tup [.int (i : Nat), d] := by
  unfold enP at h
  rw [List.getElem?_mapIdx] at h
  cases hq : ds[i]? with
  | none => rw [hq] at h; cases h
  | some d => rw [hq] at h; cases h; exact ⟨d, rfl, rfl⟩
theorem enP_mem {ds : List D} {e : D} (h : e ∈ enP ds) : ∃ i d, ds[i]? = some d ∧ e = .tup [.int (i : Nat), d] := by
  obtain ⟨i, hi⟩ := List.mem_iff_getElem?.mp h
  obtain ⟨d, h1, h2⟩ := enP_get hi
  exact ⟨i, d, h1, h2⟩
theorem rep_pair {H : Hp} {T : Addr} {x y : V} {d e : D} (hT : H T = none) (r1 : Rep H d x) (r2 : Rep H e y) : Rep (upd H T (.tup [x, y])) (.tup [d, e]) (.ref T) :=
  Rep.tup_new hT (by
    unfold RepL
    refine ⟨_, _, rfl, r1, ?_⟩
    unfold RepL
    exact ⟨_, _, rfl, r2, rfl⟩)
section
variable {X : Cx} {I : Asr} {env : Ev} {e a b : Expr} {ds ds2 : List D} {p pos tpos : Pos} {elts : List Expr} {kk : Nat}
theorem wk_enum {K : PySem.W.Frag} {q : Addr} {xs : List V} (hl : xs.length = ds.length) : Wk (enP ds) (Ite K q) (fun H => H q = some (.lst xs) ∧ RepL H ds xs) :=
  ⟨fun H H' s h => ⟨s _ _ h.1, h.2.mono s⟩, by
    rw [enP_len, ← hl]
    refine (walk_enum (K := K) (a := q) (xs := xs)).mono (fun H h => SqL.of h.1) (fun i H x H' _ hG y => ?_)
    obtain ⟨T, u, v, e1, hT, eH, e2, e3⟩ := y
    cases e2
    subst e1 eH
    refine ⟨Same.new hT, fun d hd => ?_⟩
    obtain ⟨d0, h0, ed⟩ := enP_get hd
    subst ed
    obtain ⟨y, hy, ry⟩ := hG.2.get h0
    have e3' : xs[i]? = some v := e3
    rw [e3'] at hy
    cases hy
    exact rep_pair hT rfl ry⟩
theorem pit_enum (hm : X.mg "enumerate" = none) (hi : PD X I env e (.lst ds)) (hg : Gl X "enumerate" := by rfl) (hst : starEach [e] X.env = [(false, eval e X.env)] := by rfl) (hst2 : starEach (e :: []) X.env = (false, eval e X.env) :: starEach [] X.env := by rfl) :
    PIt X I env (.Tuple elts kk tpos) (.Call (.Name "enumerate" p) [e] [] pos) (enP ds) :=
  (pi_enum hg hm (pds_cons hi pds_nil hst2) hst).wk fun σ H R ⟨hI, hE, k⟩ => ⟨hI, hE, fun vs H1 s1 r1 => by
    obtain ⟨v, e1, r1⟩ := r1.one
    obtain ⟨q, xs, e2, hq, hl⟩ := r1.lst_inv
    subst e1 e2
    exact ⟨q, xs, rfl, SqL.of hq, k _ _ H1 s1 ⟨hq, hl⟩ (wk_enum hl.length)⟩⟩
theorem wk_zip {K : PySem.W.Frag} {q r : Addr} {xs ys : List V} (hl : xs.length = ds.length) (hl2 : ys.length = ds.length) (h12 : ds2.length = ds.length) : Wk ((ds.zip ds2).map fun t => D.tup [t.1, t.2]) (RZ.ItzT K q r) (fun H => (H q = some (.tup xs) ∧ RepL H ds xs) ∧ (H r = some (.tup ys) ∧ RepL H ds2 ys)) :=
  ⟨fun H H' s h => ⟨⟨s _ _ h.1.1, h.1.2.mono s⟩, s _ _ h.2.1, h.2.2.mono s⟩, by
    have hn : ((ds.zip ds2).map fun t => D.tup [t.1, t.2]).length = ds.length := by rw [List.length_map, List.length_zip]; omega
    rw [hn]
    refine ⟨fun i H hi hG => ⟨xs, ys, xs[i]'(by omega), ys[i]'(by omega), SqT.of hG.1.1, SqT.of hG.2.1, by simp, by simp⟩, fun H hG => ⟨xs, ys, SqT.of hG.1.1, SqT.of hG.2.1, .inl (by omega)⟩, fun i H x H' hi hG y => ?_⟩
    obtain ⟨T, u, v, e1, hT, eH, e2, e3⟩ := y
    subst e1 eH
    refine ⟨Same.new hT, fun d hd => ?_⟩
    rw [List.getElem?_map] at hd
    cases hz : (ds.zip ds2)[i]? with
    | none => rw [hz] at hd; cases hd
    | some t =>
      rw [hz] at hd
      cases hd
      obtain ⟨h1, h2⟩ := List.getElem?_zip_eq_some.mp hz
      obtain ⟨u', hu, ru⟩ := hG.1.2.get h1
      obtain ⟨v', hv, rv⟩ := hG.2.2.get h2
      rw [e2 xs (SqT.of hG.1.1)] at hu
      rw [e3 ys (SqT.of hG.2.1)] at hv
      cases hu
      cases hv
      exact rep_pair hT ru rv⟩
theorem pit_zip (hm : X.mg "zip" = none) (ha : PD X I env a (.tup ds)) (hb : PD X I env b (.tup ds2)) (h12 : ds2.length = ds.length) (hg : Gl X "zip" := by rfl) (hs1 : starEach (a :: [b]) X.env = (false, eval a X.env) :: starEach [b] X.env := by rfl) (hs2 : starEach (b :: []) X.env = (false, eval b X.env) :: starEach [] X.env := by rfl)
    (hpl : (backTo pos (starEach [b] X.env)).any (·.1) = false := by rfl) : PIt X I env (.Tuple elts kk tpos) (.Call (.Name "zip" p) [a, b] [] pos) ((ds.zip ds2).map fun t => D.tup [t.1, t.2]) :=
  (RZ.pi_zipA hg hm (pds_cons ha (pds_cons hb pds_nil hs2) hs1) hs1 hpl).wk fun σ H R ⟨hI, hE, k⟩ => ⟨hI, hE, fun vs H1 s1 r1 => by
    obtain ⟨v, u, e1, r1, r2⟩ := r1.two
    obtain ⟨q, xs, e2, hq, hl⟩ := r1.tup_inv
    obtain ⟨r, ys, e3, hr, hl2⟩ := r2.tup_inv
    subst e1 e2 e3
    exact ⟨q, r, xs, ys, rfl, .inr ⟨SqT.of hq, SqT.of hr, k _ _ H1 s1 ⟨⟨hq, hl⟩, hr, hl2⟩ (wk_zip hl.length (by rw [hl2.length, h12]) h12)⟩⟩⟩
end
section
variable {X : Cx} {I : Asr} {env : Ev}
theorem pd_lcG {elt tg iter : Expr} {ifs : List Expr} {scope : Scope} {own : List (Str × Nat)} {pos : Pos} {g : TG} {ds : List D} {envs : D → Ev} {keep : D → Bool} {out : D → D} (hc : X.calm = true) (hN : X.N.Nodup) (hi : PIt X I env tg iter ds) (ok : BlkOk X.N X.env.scope scope own)
    (hg : ∀ (s : Shared) (H : Hp) (C : Addr) (cl : List (Str × Addr)) (fp : List Addr), PG (X.blk s H scope (compEnvC scope cl C X.env) fp) tg g) (htg : ∀ d ∈ ds, Tg X.K g (own.map (·.2)) I env d (envs d))
    (ht : ∀ (s : Shared) (H : Hp) (C : Addr) (cl : List (Str × Addr)) (fp : List Addr), ∀ d ∈ ds, PTs (X.blk s H scope (compEnvC scope cl C X.env) fp) ifs (tT I (envs d) (keep d)))
    (he : ∀ (s : Shared) (H : Hp) (C : Addr) (cl : List (Str × Addr)) (fp : List Addr), ∀ d ∈ ds, keep d = true → PD (X.blk s H scope (compEnvC scope cl C X.env) fp) I (envs d) elt (out d))
    (hf : ∀ d ∈ ds, keep d = true → (out d).fix = true) (hz : ds.length ≤ sizeLine) (hs : ∀ x, foldedSetIterable iter X.env x = pure x := by intro _; rfl) :
    PD X I env (.ListComp elt [⟨tg, iter, ifs, 0⟩] scope pos) (.lst ((ds.filter keep).map out)) := by
  refine (pe_lc hc hN hi ok hg (tt := LcT I ds envs keep) (fun s H C cl fp => pts_exI (ht s H C cl fp)) (te := LcE I ds envs keep out) (fun s H C cl fp => pe_exI fun d (h : d ∈ ds ∧ keep d = true) => he s H C cl fp d h.1 h.2) hs).wk fun σ H Q ⟨hI, hE, k⟩ => ⟨hI, hE, fun J G H1 s1 hG W L hL => ?_⟩
  refine lc_it W.walk (g := g) (tt := LcT I ds envs keep) (te := LcE I ds envs keep out) (vs := own.map (·.2)) (σ := σ) (H1 := H1) (D := L) (Qd := fun H => Q (.ref L) H) (LcPv H1 L ds keep out) ⟨Same.new hL, [], upd_same, rfl⟩ (fun i H2 _ p => W.mono _ _ p.1 hG) (fun i x H2 H3 hlt p y => ?_) (fun H2 p => ?_)
  · obtain ⟨s, acc, hA, rA⟩ := p
    have hd : ds[i]? = some ds[i] := List.getElem?_eq_getElem hlt
    exact lc_turn (I.mono s1 hI) (hE.mono s1) hL hd (y.2 _ hd) (htg _ (List.mem_of_getElem? hd)) hf hz ⟨s.trans y.1, acc, y.1 _ _ hA, rA.mono y.1⟩
  · obtain ⟨s2, acc, hA, rA⟩ := p
    rw [List.take_length] at rA
    exact k _ H2 (s1.trans s2) (Rep.lst_of hA rA)
/-- a loop whose turns change no cell -/
theorem h_forG {tg iter : Expr} {body : List Stmt} {ds : List D} {Ev Eb : Nat → List (Option D)} {pos : Pos} (hp : PassesOwn (model X.prog X.w) X.A X.env X.xe) (hc : X.calm = true) (hi : PIt X I env tg iter ds) (e0 : Ev 0 = env)
    (hg : ∀ J : Asr, (∀ H, J.p H → I.p H) → ∀ j d, ds[j]? = some d → PG X tg (tG J d (Ev j) (Eb j)))
    (hb : ∀ J : Asr, (∀ H, J.p H → I.p H) → ∀ j d, ds[j]? = some d → HS X J (Eb j) body (oNC J (Ev (j + 1)))) (hs : ∀ x, foldedSetIterable iter X.env x = pure x := by intro _; rfl) : H1 X I env (.For tg iter body [] pos) (oNx I (Ev ds.length)) := by
  refine (ps_for hp hc hi (g := fun v σ H Q => ∃ t : Asr × Nat × D, ((∀ H, t.1.p H → I.p H) ∧ ds[t.2.1]? = some t.2.2) ∧ tG t.1 t.2.2 (Ev t.2.1) (Eb t.2.1) v σ H Q) (pg_exI fun (t : Asr × Nat × D) h => hg t.1 h.1 t.2.1 t.2.2 h.2)
    (tb := fun E' σ H => ∃ t : Asr × Nat × D, ((∀ H, t.1.p H → I.p H) ∧ ds[t.2.1]? = some t.2.2) ∧ tS t.1 (Eb t.2.1) (oNC t.1 (Ev (t.2.1 + 1))) E' σ H) (pss_exI fun (t : Asr × Nat × D) h => hb t.1 h.1 t.2.1 t.2.2 h.2) hs).wk
    fun E σ H ⟨hI, hE, k⟩ => ⟨hI, hE, fun J G H1 s1 hG W => ?_⟩
  let Ja : Asr := ⟨fun H => I.p H ∧ G H, fun s h => ⟨I.mono s h.1, W.mono _ _ s h.2⟩⟩
  refine for_it W.walk (g := fun v σ H Q => ∃ t : Asr × Nat × D, ((∀ H, t.1.p H → I.p H) ∧ ds[t.2.1]? = some t.2.2) ∧ tG t.1 t.2.2 (Ev t.2.1) (Eb t.2.1) v σ H Q) (tb := fun E' σ H => ∃ t : Asr × Nat × D, ((∀ H, t.1.p H → I.p H) ∧ ds[t.2.1]? = some t.2.2) ∧ tS t.1 (Eb t.2.1) (oNC t.1 (Ev (t.2.1 + 1))) E' σ H) (D := E) (σ := σ) (H := H1) (fun i σ H => Ja.p H ∧ EnvR H σ (Ev i)) ⟨⟨I.mono s1 hI, hG⟩, by rw [e0]; exact hE.mono s1⟩ (fun i σ H _ p => p.1.2) (fun i x σ H H' hlt p y => ?_) (fun σ H p => k σ H p.1.1 p.2)
  have hd : ds[i]? = some ds[i] := List.getElem?_eq_getElem hlt
  exact ⟨(Ja, i, ds[i]), ⟨fun _ h => h.1, hd⟩, Ja.mono y.1 p.1, y.2 _ hd, p.2.mono y.1, fun σ' H2 s' hE' => ⟨(Ja, i, ds[i]), ⟨fun _ h => h.1, hd⟩, Ja.mono s' (Ja.mono y.1 p.1), hE', fun σ H h1 h2 => ⟨h1, h2⟩, fun σ H h1 h2 => ⟨h1, h2⟩⟩⟩
end
/-! ### loops that leave something open -/
def oNxX {ι : Type} (G : ι → Asr) (E : ι → Ev) : Ends → Prop := fun D => ∀ t, oNx (G t) (E t) D
def oNCX {ι : Type} (G : ι → Asr) (E : ι → Ev) : Ends → Prop := fun D => ∀ t, oNC (G t) (E t) D
section
variable {X : Cx} {I : Asr} {F : Asr} {cs : Cs} {env : Ev} {O : Ends → Prop} {st : Stmt} {rest body : List Stmt} {tg e ea : Expr} {p pos cpos tpos : Pos} {ι : Type}
theorem hs_nxX {G : ι → Asr} {E : ι → Ev} (h : H1 X I env st (oNxX G E)) (hr : ∀ t, HS X (G t) (E t) rest O) : HS X I env (st :: rest) O :=
  (pss_cons h (L2.PSs.wk (t := fun D σ H => ∃ t, True ∧ tS (G t) (E t) O D σ H) (pss_exI fun t _ => hr t) (fun _ _ _ h => h))).wk fun D σ H ⟨hI, hE, k⟩ => ⟨hI, hE, fun t σ' H' hI' hE' => ⟨t, trivial, hI', hE', k⟩⟩
theorem hs_endX {G : ι → Asr} {E : ι → Ev} (t : ι) (hG : ∀ H, I.p H → (G t).p H) (hs : Sub (E t) env) : HS X I env [] (oNCX G E) := hs_end.wk (fun _ h => h) fun D h σ H hI hE => (h t).1 σ H (hG H hI) (hE.sub hs)
theorem h_forRX {n : Nat} {G : Nat → ι → Asr} {Ev Eb : Nat → ι → List (Option D)} (hp : PassesOwn (model X.prog X.w) X.A X.env X.xe) (hc : X.calm = true) (hm : X.mg "range" = none) (hi : PD X I env ea (.int n)) (hn : n ≤ 100000) (t0 : ι) (h0 : ∀ H, I.p H → (G 0 t0).p H) (e0 : Ev 0 t0 = env)
    (hg : ∀ j t, j < n → PG X tg (tG (G j t) (.int (j : Nat)) (Ev j t) (Eb j t))) (hb : ∀ j t, j < n → HS X (G j t) (Eb j t) body (oNCX (G (j + 1)) (Ev (j + 1))))
    (hgl : Gl X "range" := by rfl) (hst : starEach [ea] X.env = [(false, eval ea X.env)] := by rfl) (hst2 : starEach (ea :: []) X.env = (false, eval ea X.env) :: starEach [] X.env := by rfl)
    (hs : ∀ x, foldedSetIterable (.Call (.Name "range" p) [ea] [] cpos) X.env x = pure x := by intro _; rfl) : H1 X I env (.For tg (.Call (.Name "range" p) [ea] [] cpos) body [] pos) (oNxX (G n) (Ev n)) := by
  refine (ps_for hp hc (pi_range1 hgl hm (pds_cons hi pds_nil hst2) hst) (g := fun v σ H Q => ∃ t : Nat × ι, t.1 < n ∧ tG (G t.1 t.2) (.int (t.1 : Nat)) (Ev t.1 t.2) (Eb t.1 t.2) v σ H Q) (pg_exI fun (t : Nat × ι) h => hg t.1 t.2 h)
    (tb := fun E' σ H => ∃ t : Nat × ι, t.1 < n ∧ tS (G t.1 t.2) (Eb t.1 t.2) (oNCX (G (t.1 + 1)) (Ev (t.1 + 1))) E' σ H) (pss_exI fun (t : Nat × ι) h => hb t.1 t.2 h) hs).wk
    fun D σ H ⟨hI, hE, k⟩ => ⟨hI, hE, fun vs H1 s1 r1 => ?_⟩
  obtain ⟨v, e1, r⟩ := r1.one
  have ev : v = V.int n := r
  subst e1 ev
  refine ⟨n, rfl, by omega, by omega, ?_⟩
  have hnn : (n : Int).toNat = n := by omega
  rw [hnn]
  refine for_it (walk_range (lo := 0) (n := n)) (g := fun v σ H Q => ∃ t : Nat × ι, t.1 < n ∧ tG (G t.1 t.2) (.int (t.1 : Nat)) (Ev t.1 t.2) (Eb t.1 t.2) v σ H Q) (tb := fun E' σ H => ∃ t : Nat × ι, t.1 < n ∧ tS (G t.1 t.2) (Eb t.1 t.2) (oNCX (G (t.1 + 1)) (Ev (t.1 + 1))) E' σ H) (D := D) (σ := σ) (H := H1) (fun i σ H => ∃ t, (G i t).p H ∧ EnvR H σ (Ev i t)) ⟨t0, h0 _ (I.mono s1 hI), by rw [e0]; exact hE.mono s1⟩ (fun _ _ _ _ _ => trivial) (fun i x σ H H' hlt p y => ?_) (fun σ H ⟨t, h1, h2⟩ => k t σ H h1 h2)
  obtain ⟨t, h1, h2⟩ := p
  obtain ⟨eH, ex⟩ := y
  have ex : x = .int (i : Nat) := by rw [ex]; exact congrArg V.int (by omega)
  subst eH ex
  exact ⟨(i, t), hlt, h1, rfl, h2, fun σ' H' s' hE' => ⟨(i, t), hlt, (G i t).mono s' h1, hE', fun t' => ⟨fun σ H a b => ⟨t', a, b⟩, fun σ H a b => ⟨t', a, b⟩⟩⟩⟩
/-- for k, x in enumerate(a new list), while cells change -/
theorem h_forEN {elts : List Expr} {kk : Nat} {ds : List D} {cc : Nat → ι → Cs} {Ev Eb : Nat → ι → List (Option D)} (hp : PassesOwn (model X.prog X.w) X.A X.env X.xe) (hc : X.calm = true) (hm : X.mg "enumerate" = none) (hi : PL X (Lk F cs) env e ds) (hf : fixL ds = true) (t0 : ι) (c0 : cc 0 t0 = cs) (e0 : Ev 0 t0 = env)
    (hg : ∀ G, (∀ H, G.p H → F.p H) → ∀ j t d, ds[j]? = some d → PG X (.Tuple elts kk tpos) (tG (Lk G (cc j t)) (.tup [.int (j : Nat), d]) (Ev j t) (Eb j t)))
    (hb : ∀ G, (∀ H, G.p H → F.p H) → ∀ j t d, ds[j]? = some d → HS X (Lk G (cc j t)) (Eb j t) body (oNCX (fun t => Lk G (cc (j + 1) t)) (Ev (j + 1))))
    (hgl : Gl X "enumerate" := by rfl) (hst : starEach [e] X.env = [(false, eval e X.env)] := by rfl) (hst2 : starEach (e :: []) X.env = (false, eval e X.env) :: starEach [] X.env := by rfl)
    (hs : ∀ x, foldedSetIterable (.Call (.Name "enumerate" p) [e] [] cpos) X.env x = pure x := by intro _; rfl) : H1 X (Lk F cs) env (.For (.Tuple elts kk tpos) (.Call (.Name "enumerate" p) [e] [] cpos) body [] pos) (oNxX (fun t => Lk F (cc ds.length t)) (Ev ds.length)) := by
  have hr' : PA X [] (fun σ H Q => Q [] H) := pa_nil.wk fun σ H Q h => h
  refine (ps_for hp hc (pi_enum hgl hm (pa_cons hi hr' hst2) hst) (g := fun v σ H Q => ∃ t : Asr × Nat × ι × D, ((∀ H, t.1.p H → F.p H) ∧ ds[t.2.1]? = some t.2.2.2) ∧ tG (Lk t.1 (cc t.2.1 t.2.2.1)) (.tup [.int (t.2.1 : Nat), t.2.2.2]) (Ev t.2.1 t.2.2.1) (Eb t.2.1 t.2.2.1) v σ H Q) (pg_exI fun (t : Asr × Nat × ι × D) h => hg t.1 h.1 t.2.1 t.2.2.1 t.2.2.2 h.2)
    (tb := fun E' σ H => ∃ t : Asr × Nat × ι × D, ((∀ H, t.1.p H → F.p H) ∧ ds[t.2.1]? = some t.2.2.2) ∧ tS (Lk t.1 (cc t.2.1 t.2.2.1)) (Eb t.2.1 t.2.2.1) (oNCX (fun u => Lk t.1 (cc (t.2.1 + 1) u)) (Ev (t.2.1 + 1))) E' σ H) (pss_exI fun (t : Asr × Nat × ι × D) h => hb t.1 h.1 t.2.1 t.2.2.1 t.2.2.2 h.2) hs).wk
    fun D σ H ⟨hI, hE, k⟩ => ⟨hI, hE, fun q xs0 H1 s1 hq hx0 r0 => ?_⟩
  have h00 : LkP (F.cell q ds) cs H1 := LkP.cellF hI s1 hq hx0 r0 hf
  have hle : ∀ H, (F.cell q ds).p H → F.p H := fun _ => Asr.cell_le
  refine ⟨q, xs0, rfl, SqL.of hx0, fun i m σ H => m = ds.length - i ∧ i ≤ ds.length ∧ ∃ t, (Lk (F.cell q ds) (cc i t)).p H ∧ EnvR H σ (Ev i t), ⟨ds.length, by simp, Nat.zero_le _, t0, by rw [c0]; exact h00, by rw [e0]; exact hE.mono s1⟩, ?_⟩
  rintro i m σ H2 ⟨rfl, hil, t, hGi, hEi⟩
  obtain ⟨xs, hx, rx⟩ := has_lk (cs := cc i t) has_cell H2 hGi
  have hl := rx.length
  by_cases hlt : i < ds.length
  · refine .inr ⟨⟨xs, xs[i], SqL.of hx, by simp [hl, hlt]⟩, fun σ' H' => ∃ t, (Lk (F.cell q ds) (cc (i + 1) t)).p H' ∧ EnvR H' σ' (Ev (i + 1) t), fun σ' H' p' => ⟨ds.length - (i + 1), by omega, rfl, hlt, p'⟩, fun u H' y => ?_⟩
    obtain ⟨T, x, e1, hT, eH, y⟩ := y
    subst e1 eH
    obtain ⟨d, hd, rd⟩ := rx.rget (y xs (SqL.of hx))
    have sN := Same.new (o := .tup [.int (i : Nat), x]) hT
    have hGN := (Lk (F.cell q ds) (cc i t)).mono sN hGi
    exact ⟨(F.cell q ds, i, t, d), ⟨hle, hd⟩, hGN, rep_pair hT rfl rd, hEi.mono sN, fun σ' H' s' hE' => ⟨(F.cell q ds, i, t, d), ⟨hle, hd⟩, (Lk (F.cell q ds) (cc i t)).mono s' hGN, hE', fun t' => ⟨fun σ H h1 h2 => ⟨t', h1, h2⟩, fun σ H h1 h2 => ⟨t', h1, h2⟩⟩⟩⟩
  · have en : i = ds.length := by omega
    subst en
    exact .inl ⟨⟨xs, SqL.of hx, by omega⟩, k t σ H2 (hGi.frm hle) hEi⟩
end
/-! ### comprehensions whose elements change cells -/
section
variable {X : Cx} {F : Asr} {cs : Cs} {env : Ev}
theorem lc_step {F : Asr} {c : Cs} {L : Addr} {vals : List D} {o : D} {y : V} {H : Hp} (h : LkP (Lk F [(L, .lst vals)]) c H) (hz : vals.length < 1000) (ro : Rep H o y) (hf : o.fix = true) :
    ∃ acc, H L = some (.lst acc) ∧ acc.length < sizeLine ∧ LkP F (c ++ [(L, .lst (vals ++ [o]))]) (upd H L (.lst (acc ++ [y]))) ∧ Tr H (upd H L (.lst (acc ++ [y]))) := by
  have hj := lkp_join h
  have hq : (c ++ [(L, Co.lst vals)])[c.length]? = some (L, .lst vals) := by rw [List.getElem?_append_right (Nat.le_refl _), Nat.sub_self]; rfl
  obtain ⟨fx, acc, hx, rx⟩ := hj.at_ _ _ hq
  have t := Tr.updL (ys := acc ++ [y]) hx
  have hc : CoAt (upd H L (.lst (acc ++ [y]))) L (.lst (vals ++ [o])) := ⟨fixL_append fx (by show (o.fix && true) = true; rw [hf]; rfl), _, upd_same, (rx.tr t fx).snoc (ro.tr t hf)⟩
  obtain ⟨hP, hT⟩ := hj.put hq hc
  have e1 : (c ++ [(L, Co.lst vals)]).set c.length (L, .lst (vals ++ [o])) = c ++ [(L, .lst (vals ++ [o]))] := by
    rw [List.set_append_right _ _ (Nat.le_refl _), Nat.sub_self]; rfl
  rw [e1] at hP
  exact ⟨acc, hx, by rw [rx.length, sizeLine_eq]; omega, hP, hT⟩
theorem wipe_set {σ : L2.St} {j : Nat} {u : V} : L2.wipe ((L2.wipe σ [j]).set j (some u)) [j] = L2.wipe σ [j] := by
  show ((σ.set j none).set j (some u)).set j none = σ.set j none
  rw [List.set_set, List.set_set]
def teR (env : Ev) (i : Nat) (Rel : Nat → Nat → List D → Cs → Prop) : TE := fun σ H Q => ∃ t : Asr × Nat × Nat × List D × Cs, (t.2.1 ≤ 900 ∧ t.2.2.1 < t.2.1 ∧ Rel t.2.1 t.2.2.1 t.2.2.2.1 t.2.2.2.2) ∧ tCh t.1 t.2.2.2.2 ((wipeE env [i]).set i (some (.int (t.2.2.1 : Nat)))) (fun o c' => Rel t.2.1 (t.2.2.1 + 1) (t.2.2.2.1 ++ [o]) c') σ H Q
def teL (env : Ev) (i : Nat) (ds : List D) (Rel : Nat → List D → Cs → Prop) : TE := fun σ H Q => ∃ t : Asr × Nat × D × List D × Cs, (ds[t.2.1]? = some t.2.2.1 ∧ Rel t.2.1 t.2.2.2.1 t.2.2.2.2) ∧ tCh t.1 t.2.2.2.2 ((wipeE env [i]).set i (some t.2.2.1)) (fun o c' => Rel (t.2.1 + 1) (t.2.2.2.1 ++ [o]) c') σ H Q
theorem rd_lcR {i : Nat} {RA R : RN} {Rel : Nat → Nat → List D → Cs → Prop} (hfe : fixE env = true) (hA : ∀ d c, RA d c → ∃ n : Nat, d = .int n ∧ n ≤ 900 ∧ Rel n 0 [] c) (hl : ∀ n j vals c, Rel n j vals c → vals.length = j) (hR : ∀ n q vals c, n ≤ 900 → Rel n n vals c → R (.ref q) (c ++ [(q, .lst vals)]))
    {σ : L2.St} {H : Hp} {Q : VK} (h : tCh F cs env R σ H Q) : tLc (iRng1 (tChs F cs env (fun ds c => ∃ d, RA d c ∧ ds = [d]))) (gName i) tYes (teR env i Rel) [i] σ H Q := by
  obtain ⟨hI, hE, k⟩ := h
  refine ⟨hI, hE, fun vs H1 ds c hRA hP r hf t1 => ?_⟩
  obtain ⟨d, hRA, ed⟩ := hRA
  subst ed
  obtain ⟨n, ed, hn, h0⟩ := hA d c hRA
  subst ed
  obtain ⟨v, e1, r⟩ := r.one
  have ev : v = V.int n := r
  subst e1 ev
  refine ⟨n, rfl, by omega, by omega, fun L hL => ?_⟩
  have hnn : (n : Int).toNat = n := by omega
  rw [hnn]
  refine lc_range (lo := 0) (n := n) (g := gName i) (tt := tYes) (te := teR env i Rel) (vs := [i]) (σ := σ) (H1 := H1) (D := L) (Qd := fun H => Q (.ref L) H) (fun j H2 => Tr H1 H2 ∧ ∃ vals c, Rel n j vals c ∧ LkP F (c ++ [(L, .lst vals)]) H2) ⟨Tr.of (Same.new hL), [], c, h0, hP.new (c' := .lst []) (Same.new hL) hL ⟨rfl, [], upd_same, rfl⟩⟩ (fun j H2 hj p => ?_) (fun H2 p => ?_)
  · obtain ⟨t2, vals, c2, hRel, hP2⟩ := p
    have ej : (0 : Int) + (j : Nat) = (j : Nat) := by omega
    rw [ej]
    refine ⟨wipe_set, ?_⟩
    delta tYes
    refine Eq.mpr (if_pos rfl) ?_
    refine ⟨(Lk F [(L, .lst vals)], n, j, vals, c2), ⟨hn, hj, hRel⟩, lkp_split hP2, ((hE.tr (t1.trans t2) (fixE_get hfe)).wipe [i]).set rfl, fun y H3 o c3 hR3 hP3 r3 f3 t3 => ?_⟩
    have hlen := hl n j vals c2 hRel
    obtain ⟨acc, a1, a2, a3, a4⟩ := lc_step hP3 (by omega) r3 f3
    exact ⟨acc, a1, a2, (t2.trans t3).trans a4, vals ++ [o], c3, hR3, a3⟩
  · obtain ⟨t2, vals, c2, hRel, hP2⟩ := p
    exact k _ H2 _ _ (hR n L vals c2 hn hRel) hP2 rfl rfl (t1.trans t2)
theorem rd_lcL {K : PySem.W.Frag} {i : Nat} {R : RN} {a : Addr} {ds : List D} {Rel : Nat → List D → Cs → Prop} (hfe : fixE env = true) (h0 : Rel 0 [] cs) (hdl : ds.length ≤ 900) (hH : ∀ j vals c, Rel j vals c → vals.length = j ∧ ∃ m : Nat, c[m]? = some (a, .lst ds)) (hR : ∀ q vals c, Rel ds.length vals c → R (.ref q) (c ++ [(q, .lst vals)]))
    {σ : L2.St} {H : Hp} {Q : VK} (h : tCh F cs env R σ H Q) : tLc (iList K (tD (Lk F cs) env (.ref a))) (gName i) tYes (teL env i ds Rel) [i] σ H Q := by
  obtain ⟨hI, hE, k⟩ := h
  refine ⟨hI, hE, fun v H1 s1 r1 => ?_⟩
  have ev : v = .ref a := r1
  subst ev
  have hI1 := (Lk F cs).mono s1 hI
  obtain ⟨_, m0, hm0⟩ := hH 0 [] cs h0
  obtain ⟨_, xs0, hx0, _⟩ := hI1.at_ _ _ hm0
  refine ⟨a, rfl, ⟨xs0, SqL.of hx0⟩, fun L hL => ?_⟩
  refine ⟨fun j m H2 => m = ds.length - j ∧ j ≤ ds.length ∧ Tr H1 H2 ∧ ∃ vals c, Rel j vals c ∧ LkP F (c ++ [(L, .lst vals)]) H2, ⟨ds.length, by simp, Nat.zero_le _, Tr.of (Same.new hL), [], cs, h0, LkP.new (c' := .lst []) hI1 (Same.new hL) hL ⟨rfl, [], upd_same, rfl⟩⟩, ?_⟩
  rintro j m H2 ⟨rfl, hjl, t2, vals, c2, hRel, hP2⟩
  obtain ⟨hvl, mm, hmm⟩ := hH j vals c2 hRel
  obtain ⟨_, xs, hx, rx⟩ := hP2.at_ mm _ (by rw [List.getElem?_append_left (List.getElem?_eq_some_iff.mp hmm).1]; exact hmm)
  have hl := rx.length
  by_cases hlt : j < ds.length
  · refine .inr ⟨⟨xs, xs[j], SqL.of hx, by simp [hl, hlt]⟩, fun H3 => Tr H1 H3 ∧ ∃ vals c, Rel (j + 1) vals c ∧ LkP F (c ++ [(L, .lst vals)]) H3, fun H' p' => ⟨ds.length - (j + 1), by omega, rfl, hlt, p'⟩, fun u H' y => ?_⟩
    obtain ⟨eH, y⟩ := y
    subst eH
    obtain ⟨d, hd, rd⟩ := rx.rget (y xs (SqL.of hx))
    refine ⟨wipe_set, ?_⟩
    delta tYes
    refine Eq.mpr (if_pos rfl) ?_
    refine ⟨(Lk F [(L, .lst vals)], j, d, vals, c2), ⟨hd, hRel⟩, lkp_split hP2, (((hE.mono s1).tr t2 (fixE_get hfe)).wipe [i]).set rd, fun y H3 o c3 hR3 hP3 r3 f3 t3 => ?_⟩
    obtain ⟨acc, a1, a2, a3, a4⟩ := lc_step hP3 (by omega) r3 f3
    exact ⟨acc, a1, a2, (t2.trans t3).trans a4, vals ++ [o], c3, hR3, a3⟩
  · have en : j = ds.length := by omega
    subst en
    exact .inl ⟨⟨xs, SqL.of hx, by omega⟩, k _ H2 _ _ (hR L vals c2 hRel) hP2 rfl rfl ((Tr.of s1).trans t2)⟩
/-- a statement by what it is known to ask -/
theorem hs_setT {y : Str} {py spos : Pos} {iz : Nat} {e : Expr} {T : TE} {R : RN} {env2 : Ev} {rest : List Stmt} {O : Ends → Prop} (h : PS X (.Assign [.Name y py] e spos) (tAsg T (gName iz))) (hT : ∀ σ H Q, tCh F cs env R σ H Q → T σ H Q) (hE0 : fixE env2 = true) (hsb : Sub env2 env)
    (hr : ∀ d c, R d c → HS X (Lk F c) (env2.set iz (some d)) rest O) : HS X (Lk F cs) env (.Assign [.Name y py] e spos :: rest) O :=
  (pss_cons h (L2.PSs.wk (t := fun E' σ H => ∃ t : D × Cs, R t.1 t.2 ∧ tS (Lk F t.2) (env2.set iz (some t.1)) O E' σ H) (pss_exI fun t ht => hr t.1 t.2 ht) (fun _ _ _ h => h))).wk fun E' σ H ⟨hI, hE, k⟩ => hT σ H _ ⟨hI, hE, fun v H1 d c hR hP r hf t => ⟨(d, c), hR, hP, ((hE.sub hsb).tr t (fixE_get hE0)).set r, k⟩⟩
section
variable {x : Str} {i : Nat} {elt ea iter : Expr} {scope : Scope} {xp p pos pos' : Pos} {RA R : RN} {a : Addr} {ds : List D}
/-- what the elements of such a comprehension promise -/
def EltR (X : Cx) (scope : Scope) (env : Ev) (i : Nat) (elt : Expr) (Rel : Nat → Nat → List D → Cs → Prop) : Prop := ∀ (s : Shared) (H : Hp) (C : Addr) (cl : List (Str × Addr)) (fp : List Addr) (F : Asr) n j vals c, n ≤ 900 → j < n → Rel n j vals c → PCh (X.blk s H scope (compEnvC scope cl C X.env) fp) F c ((wipeE env [i]).set i (some (.int (j : Nat)))) elt (fun o c' => Rel n (j + 1) (vals ++ [o]) c')
def EltL (X : Cx) (scope : Scope) (env : Ev) (i : Nat) (elt : Expr) (ds : List D) (Rel : Nat → List D → Cs → Prop) : Prop := ∀ (s : Shared) (H : Hp) (C : Addr) (cl : List (Str × Addr)) (fp : List Addr) (F : Asr) j d vals c, ds[j]? = some d → Rel j vals c → PCh (X.blk s H scope (compEnvC scope cl C X.env) fp) F c ((wipeE env [i]).set i (some d)) elt (fun o c' => Rel (j + 1) (vals ++ [o]) c')
theorem ch_lcL (Rel : Nat → List D → Cs → Prop) (hc : X.calm = true) (hN : X.N.Nodup) (hfe : fixE env = true) (hi : PD X (Lk F cs) env iter (.ref a)) (h0 : Rel 0 [] cs) (hdl : ds.length ≤ 900)
    (hH : ∀ j vals c, Rel j vals c → vals.length = j ∧ ∃ m : Nat, c[m]? = some (a, .lst ds)) (ok : BlkOk X.N X.env.scope scope [(x, i)]) (he : EltL X scope env i elt ds Rel) (hR : ∀ q vals c, Rel ds.length vals c → R (.ref q) (c ++ [(q, .lst vals)]))
    (hlk : ∀ (s : Shared) (H : Hp) (C : Addr) (cl : List (Str × Addr)) (fp : List Addr), (X.blk s H scope (compEnvC scope cl C X.env) fp).env.scope.names.lookup x = some .local := by intro _ _ _ _ _; rfl)
    (hs : ∀ x, foldedSetIterable iter X.env x = pure x := by intro _; rfl) : PCh X F cs env (.ListComp elt [⟨.Name x xp, iter, [], 0⟩] scope pos) R :=
  (pe_lc (g := gName i) (tt := tYes) (te := teL env i ds Rel) hc hN (pi_list hi) ok
    (fun s H C cl fp => pg_name (i := i) hN (ok.ix (x, i) List.mem_cons_self) (Or.inl (hlk s H C cl fp)) (.inr (hlk s H C cl fp))) (fun s H C cl fp => pts_nil) (fun s H C cl fp => pe_exI fun (t : Asr × Nat × D × List D × Cs) h => he s H C cl fp t.1 t.2.1 t.2.2.1 t.2.2.2.1 t.2.2.2.2 h.1 h.2) hs).wk fun σ H Q h => rd_lcL hfe h0 hdl hH hR h
/-- y = [.. for x in a list that is a cell] -/
theorem hs_setLcX {y : Str} {py spos : Pos} {iz : Nat} {env2 : Ev} {rest : List Stmt} {O : Ends → Prop} (Rel : Nat → List D → Cs → Prop) (hc : X.calm = true) (hN : X.N.Nodup) (hfe : fixE env = true) (hi : PD X (Lk F cs) env iter (.ref a)) (h0 : Rel 0 [] cs) (hdl : ds.length ≤ 900)
    (hH : ∀ j vals c, Rel j vals c → vals.length = j ∧ ∃ m : Nat, c[m]? = some (a, .lst ds)) (ok : BlkOk X.N X.env.scope scope [(x, i)]) (he : EltL X scope env i elt ds Rel) (hR : ∀ q vals c, Rel ds.length vals c → R (.ref q) (c ++ [(q, .lst vals)])) (hE0 : fixE env2 = true) (hsb : Sub env2 env)
    (hr : ∀ d c, R d c → HS X (Lk F c) (env2.set iz (some d)) rest O) (hy : X.N[iz]? = some y := by rfl) (hyl : X.env.scope.names.lookup y = some .local := by rfl) (hk : X.env.scope.kind = .function := by rfl) (hln : (py.line == pos.line) = true := by rfl)
    (ha : (scope.names.any fun (n, k) => n == y && (k == .local || k == .cell)) = false := by rfl) (hlk : ∀ (s : Shared) (H : Hp) (C : Addr) (cl : List (Str × Addr)) (fp : List Addr), (X.blk s H scope (compEnvC scope cl C X.env) fp).env.scope.names.lookup x = some .local := by intro _ _ _ _ _; rfl)
    (hs : ∀ x, foldedSetIterable iter X.env x = pure x := by intro _; rfl) : HS X (Lk F cs) env (.Assign [.Name y py] (.ListComp elt [⟨.Name x xp, iter, [], 0⟩] scope pos) spos :: rest) O :=
  hs_setT (R := R) (ps_setLc (own := [(x, i)]) (g := gName i) (tt := tYes) (te := teL env i ds Rel) hc hN hy hyl (sw_true hk hyl hln ha) (pi_list hi) ok
    (fun s H C cl fp => pg_name (i := i) hN (ok.ix (x, i) List.mem_cons_self) (Or.inl (hlk s H C cl fp)) (.inr (hlk s H C cl fp))) (fun s H C cl fp => pts_nil) (fun s H C cl fp => pe_exI fun (t : Asr × Nat × D × List D × Cs) h => he s H C cl fp t.1 t.2.1 t.2.2.1 t.2.2.2.1 t.2.2.2.2 h.1 h.2) hs) (fun σ H Q h => rd_lcL hfe h0 hdl hH hR h) hE0 hsb hr
/-- y = [.. for x in range(..)] -/
theorem hs_setLcN {y : Str} {py spos : Pos} {iz : Nat} {env2 : Ev} {rest : List Stmt} {O : Ends → Prop} (Rel : Nat → Nat → List D → Cs → Prop) (hc : X.calm = true) (hN : X.N.Nodup) (hm : X.mg "range" = none) (hfe : fixE env = true) (hea : PCh X F cs env ea RA) (hA : ∀ d c, RA d c → ∃ n : Nat, d = .int n ∧ n ≤ 900 ∧ Rel n 0 [] c)
    (ok : BlkOk X.N X.env.scope scope [(x, i)]) (hl : ∀ n j vals c, Rel n j vals c → vals.length = j) (he : EltR X scope env i elt Rel) (hR : ∀ n q vals c, n ≤ 900 → Rel n n vals c → R (.ref q) (c ++ [(q, .lst vals)])) (hE0 : fixE env2 = true) (hsb : Sub env2 env)
    (hr : ∀ d c, R d c → HS X (Lk F c) (env2.set iz (some d)) rest O) (hy : X.N[iz]? = some y := by rfl) (hyl : X.env.scope.names.lookup y = some .local := by rfl) (hk : X.env.scope.kind = .function := by rfl) (hln : (py.line == pos.line) = true := by rfl)
    (ha : (scope.names.any fun (n, k) => n == y && (k == .local || k == .cell)) = false := by rfl) (hgl : Gl X "range" := by rfl) (hst : starEach [ea] X.env = [(false, eval ea X.env)] := by rfl) (hst2 : starEach (ea :: []) X.env = (false, eval ea X.env) :: starEach [] X.env := by rfl)
    (hlk : ∀ (s : Shared) (H : Hp) (C : Addr) (cl : List (Str × Addr)) (fp : List Addr), (X.blk s H scope (compEnvC scope cl C X.env) fp).env.scope.names.lookup x = some .local := by intro _ _ _ _ _; rfl)
    (hs : ∀ x, foldedSetIterable (.Call (.Name "range" p) [ea] [] pos') X.env x = pure x := by intro _; rfl) : HS X (Lk F cs) env (.Assign [.Name y py] (.ListComp elt [⟨.Name x xp, .Call (.Name "range" p) [ea] [] pos', [], 0⟩] scope pos) spos :: rest) O :=
  hs_setT (R := R) (ps_setLc (own := [(x, i)]) (g := gName i) (tt := tYes) (te := teR env i Rel) hc hN hy hyl (sw_true hk hyl hln ha) (pi_range1 hgl hm (chs_one hea hst2) hst) ok
    (fun s H C cl fp => pg_name (i := i) hN (ok.ix (x, i) List.mem_cons_self) (Or.inl (hlk s H C cl fp)) (.inr (hlk s H C cl fp))) (fun s H C cl fp => pts_nil) (fun s H C cl fp => pe_exI fun (t : Asr × Nat × Nat × List D × Cs) h => he s H C cl fp t.1 t.2.1 t.2.2.1 t.2.2.2.1 t.2.2.2.2 h.1 h.2.1 h.2.2) hs) (fun σ H Q h => rd_lcR hfe hA hl hR h) hE0 hsb hr
end
end
/-! ### places of lists as targets -/
def tGc (F : Asr) (cs cs' : Cs) (env : Ev) (d : D) : TG := fun v σ H Q => LkP F cs H ∧ Rep H d v ∧ d.fix = true ∧ EnvR H σ env ∧ ∀ H', LkP F cs' H' → Tr H H' → Q σ H'
section
variable {X : Cx} {F : Asr} {cs cs' : Cs} {env env2 : Ev} {e o b tg : Expr} {es : List Expr} {ds : List D} {d d2 d3 : D} {p : Addr} {pos pos' tpos : Pos} {O : Ends → Prop} {rest : List Stmt} {x y : Str}
theorem pg_subL (i k : Nat) (ho : PD X (Lk F cs) env o (.ref p)) (hi : cs[i]? = some (p, .lst ds)) (hk : PD X (Lk F cs) env b (.int (k : Nat))) (hkl : k < ds.length)
    (ha : ∀ v, assign (.Subscript o b pos) X.env v = (do
      let ov ← holding [v] (eval o X.env)
      let iv ← holding [v, ov] (eval b X.env)
      standAt pos
      holding [v, ov, iv] (setItem ov iv v)
      release [v, ov, iv] []) := by intro _; rfl) : PG X (.Subscript o b pos) (tGc F cs (cs.set i (p, .lst (ds.set k d))) env d) :=
  (pg_sub ho hk set_list ha).wk fun v σ H Q ⟨hL, rd, hf, hE, q⟩ => ⟨hL, hE, fun x H1 s1 r1 => ⟨(Lk F cs).mono s1 hL, hE.mono s1, fun y H2 s2 r2 => by
    have ex : x = .ref p := r1
    have ey : y = .int (k : Nat) := r2
    have hL2 := (Lk F cs).mono s2 ((Lk F cs).mono s1 hL)
    obtain ⟨fx, xs, hx, rx⟩ := hL2.at_ i _ hi
    have hl := rx.length
    have rd2 := (rd.mono s1).mono s2
    have t := Tr.updL (ys := xs.set k v) hx
    have hset : ∀ {ds : List D} {xs : List V} {k : Nat} {H : Hp}, RepL H ds xs → Rep H d v → RepL H (ds.set k d) (xs.set k v) := by
      intro ds
      induction ds with
      | nil => intro xs k H h r; have e : xs = [] := h; subst e; exact h
      | cons d0 ds ih =>
        intro xs k H h r
        unfold RepL at h
        obtain ⟨x0, r0, e0, h1, h2⟩ := h
        subst e0
        cases k with
        | zero => show RepL H (d :: ds) (v :: r0); unfold RepL; exact ⟨v, r0, rfl, r, h2⟩
        | succ k => show RepL H (d0 :: ds.set k d) (x0 :: r0.set k v); unfold RepL; exact ⟨x0, _, rfl, h1, ih h2 r⟩
    have hfs : ∀ {ds : List D} {k : Nat}, fixL ds = true → fixL (ds.set k d) = true := by
      intro ds
      induction ds with
      | nil => intro k h; exact h
      | cons d0 ds ih =>
        intro k h
        have h' : (d0.fix && fixL ds) = true := h
        rw [Bool.and_eq_true] at h'
        cases k with
        | zero => show (d.fix && fixL ds) = true; rw [hf, h'.2]; rfl
        | succ k => show (d0.fix && fixL (ds.set k d)) = true; rw [h'.1, ih h'.2]; rfl
    have hc : CoAt (upd H2 p (.lst (xs.set k v))) p (.lst (ds.set k d)) := ⟨hfs fx, _, upd_same, hset (rx.tr t fx) (rd2.tr t hf)⟩
    obtain ⟨hP, hT⟩ := hL2.put hi hc
    refine ⟨p, xs, (k : Nat), k, ex, ey, hx, ?_, q _ hP (((Tr.of s1).trans (Tr.of s2)).trans hT)⟩
    unfold ixN
    rw [if_pos (by omega), if_pos (by omega)]
    exact congrArg some (by omega)⟩⟩
/-- o[b] = e -/
theorem hs_asgC {env' : Ev} (h : PD X (Lk F cs) env e d) (hf : d.fix = true) (hE0 : fixE env' = true) (hsb : Sub env' env) (hg : PG X tg (tGc F cs cs' env d)) (hr : HS X (Lk F cs') env' rest O) (hs : swapsWithSole [tg] e pos.line X.env = pure false := by rfl) (hw : swappedStores [tg] e X.env = pure none := by rfl)
    (h1 : (assignEach [tg] X.env).map (·.2) = [assign tg X.env] := by rfl) : HS X (Lk F cs) env (.Assign [tg] e pos :: rest) O :=
  (pss_cons (ps_asg h hg hs hw h1) hr).wk fun D σ H ⟨hI, hE, k⟩ => ⟨hI, hE, fun v H1 s1 r1 => ⟨(Lk F cs).mono s1 hI, r1, hf, hE.mono s1, fun H2 hP t => ⟨hP, ((hE.mono s1).sub hsb).tr t (fixE_get hE0), k⟩⟩⟩
/-- o[b], x, y = e -/
theorem hs_asg3 {env' : Ev} (i j : Nat) {px py tp : Pos} {kt : Nat} (hc : X.calm = true) (hN : X.N.Nodup) (h : PD X (Lk F cs) env e (.tup [d, d2, d3])) (hf : fixL [d, d2, d3] = true) (hE0 : fixE env' = true) (hsb : Sub env' env) (hg : PG X tg (tGc F cs cs' env d)) (hr : HS X (Lk F cs') ((env'.set i (some d2)).set j (some d3)) rest O)
    (hi : X.N[i]? = some x := by rfl) (hj : X.N[j]? = some y := by rfl) (hx : Loc X.env.scope x := by first | exact Or.inl rfl | exact Or.inr rfl) (hy : Loc X.env.scope y := by first | exact Or.inl rfl | exact Or.inr rfl)
    (hfx : X.fn x = true ∨ X.env.scope.names.lookup x = some .local := by first | exact .inl rfl | exact .inr rfl) (hfy : X.fn y = true ∨ X.env.scope.names.lookup y = some .local := by first | exact .inl rfl | exact .inr rfl)
    (hs : swapsWithSole [.Tuple [tg, .Name x px, .Name y py] kt tp] e pos.line X.env = pure false := by rfl) (hw : swappedStores [.Tuple [tg, .Name x px, .Name y py] kt tp] e X.env = pure none := by rfl)
    (h1 : (assignEach [.Tuple [tg, .Name x px, .Name y py] kt tp] X.env).map (·.2) = [assign (.Tuple [tg, .Name x px, .Name y py] kt tp) X.env] := by rfl)
    (ha1 : (assignEach (tg :: [.Name x px, .Name y py]) X.env).map (·.2) = assign tg X.env :: (assignEach [.Name x px, .Name y py] X.env).map (·.2) := by rfl) (ha2 : (assignEach (.Name x px :: [.Name y py]) X.env).map (·.2) = assign (.Name x px) X.env :: (assignEach [.Name y py] X.env).map (·.2) := by rfl)
    (ha3 : (assignEach (.Name y py :: []) X.env).map (·.2) = assign (.Name y py) X.env :: (assignEach [] X.env).map (·.2) := by rfl) (hn : (assignEach [tg, .Name x px, .Name y py] X.env).length = 3 := by rfl) (hst : (assignEach [tg, .Name x px, .Name y py] X.env).findIdx? (·.1) = none := by rfl) :
    HS X (Lk F cs) env (.Assign [.Tuple [tg, .Name x px, .Name y py] kt tp] e pos :: rest) O := by
  refine (pss_cons (ps_asg h (pg_tup hc (pgs_cons hg (pgs_cons (pg_name hN hi hx hfx) (pgs_cons (pg_name hN hj hy hfy) pgs_nil ha3) ha2) ha1) hn hst) hs hw h1) hr).wk fun D σ H ⟨hI, hE, k⟩ => ⟨hI, hE, fun v H1 s1 r1 => ?_⟩
  obtain ⟨q, ys, ev, hq, hl⟩ := r1.tup_inv
  subst ev
  have hlen := hl.length
  unfold RepL at hl
  obtain ⟨y1, r', e1, ry1, hl⟩ := hl
  obtain ⟨y2, y3, e2, ry2, ry3⟩ := hl.two
  subst e1 e2
  have hf' : (d.fix && (d2.fix && (d3.fix && true))) = true := hf
  simp only [Bool.and_eq_true] at hf'
  refine ⟨q, _, rfl, SqT.of hq, rfl, y1, _, rfl, (Lk F cs).mono s1 hI, ry1, hf'.1, hE.mono s1, fun H2 hP t => ?_⟩
  exact ⟨y2, _, rfl, y3, _, rfl, rfl, hP, ((((hE.mono s1).sub hsb).tr t (fixE_get hE0)).set (ry2.tr t hf'.2.1)).set (ry3.tr t hf'.2.2.1), k⟩
/-- x = a new list, the cell j that stood for the old one is the new one's -/
theorem hs_setL {env' : Ev} (i j : Nat) (hN : X.N.Nodup) (h : PL X (Lk F cs) env e ds) (hf : fixL ds = true) (hr : ∀ q, HS X (Lk F (cs.set j (q, .lst ds))) (env.set i (some (.ref q))) rest O) (hi : X.N[i]? = some x := by rfl) (hx : Loc X.env.scope x := by first | exact Or.inl rfl | exact Or.inr rfl)
    (hs : swapsWith e (some (.Name x pos')) pos.line X.env = pure false := by rfl) (hf' : X.fn x = true ∨ X.env.scope.names.lookup x = some .local := by first | exact .inl rfl | exact .inr rfl) : HS X (Lk F cs) env (.Assign [.Name x pos'] e pos :: rest) O :=
  (pss_cons (ps_set hN hi hx h hs hf') (L2.PSs.wk (t := fun D σ H => ∃ q, True ∧ tS (Lk F (cs.set j (q, .lst ds))) (env.set i (some (.ref q))) O D σ H) (pss_exI fun q _ => hr q) (fun _ _ _ h => h))).wk fun D σ H ⟨hI, hE, k⟩ => ⟨hI, hE, fun q xs H' s hp hx r => ⟨q, trivial, LkP.renew hI s hp ⟨hf, xs, hx, r⟩, (hE.mono s).set rfl, k⟩⟩
end
end Sd
namespace Sd
open PySem L2
section
variable {X : Cx} {I F : Asr} {cs : Cs} {env : Ev} {e : Expr} {R : RN} {sts : List Stmt} {O : Ends → Prop}
theorem ch_nw (h : PE X e (tNw F cs env R)) : PCh X F cs env e (fun d c => ∃ nc, R d nc ∧ c = cs ++ nc) := h.wk fun σ H Q ⟨hI, hE, k⟩ => ⟨hI, hE, fun v H' d nc h1 h2 h3 h4 h5 => k v H' d _ ⟨nc, h1, rfl⟩ h2 h3 h4 h5⟩
theorem Hws_nil {H : Hp} : Hws H [] = H := by funext b; exact Hws_out (fun z => nomatch z)
theorem lk_nil {H : Hp} (h : I.p H) : LkP I [] H := ⟨by rw [Hws_nil]; exact h, fun i j q r e => by simp at e, fun i q e => by simp at e⟩
theorem hs_lk (h : HS X (Lk I []) env sts O) : HS X I env sts O := h.wk (fun _ => lk_nil) fun _ q => q
theorem oRet_lk {d : D} {D' : Ends} {J : Asr} (hI : ∀ H, J.p H → I.p H) (h : oRet I d D') : oRet J d D' := oRet_le hI h
end
def heldD (n : Pn) (x : Mi) (i : Nat) : D := (n.pls.find? fun o => decide (n.key o = i)).elim .non fun o => eSheet (n.ck o) (x.bk o).num (x.bk o).ph
theorem getA_dmap (n : Pn) (g : Bool → D) (i : Nat) : getA (dmap n g) (i : Int) = (n.pls.find? fun o => decide (n.key o = i)).map g := by
  unfold dmap
  induction n.pls with
  | nil => rfl
  | cons o l ih =>
    show getA (((n.key o : Int), g o) :: l.map fun o => ((n.key o : Int), g o)) (i : Int) = _
    unfold getA
    by_cases h : n.key o = i
    · rw [if_pos (by omega), List.find?_cons_of_pos (p := fun o => decide (n.key o = i)) (decide_eq_true h)]; rfl
    · rw [if_neg (by omega), List.find?_cons_of_neg (p := fun o => decide (n.key o = i)) (by simp [h])]; exact ih
theorem sheet_fix (c : Ck) (k : Nat) (p : Ph) : (eSheet c k p).fix = true := by cases p <;> cases hf : c.fl <;> simp [eSheet, eSums, eLocks, two, hf, eLock, eImg, D.fix, fixL]
theorem held_fix (n : Pn) (x : Mi) (i : Nat) : (heldD n x i).fix = true := by
  unfold heldD
  cases n.pls.find? _ with
  | none => rfl
  | some o => exact sheet_fix _ _ _
section
variable {P : Program} {w : World} {K : PySem.W.Frag} {mg : Str → Option Value} {base : Heap}
def S_held (ds : List D) (d : D) : Prop := ∃ (n : Pn) (x : Mi), OkPn n ∧ n.wsh = n.eWish ∧ OkMi x ∧ ds = [eMind n x] ∧ d = .tup ((List.range n.cs.length).map (heldD n x))
theorem sc_held : FnScope ["mind", "own", "books", "book", "place"] ["mind"] (defScope (top 46)) := ⟨rfl, rfl, rfl, by decide +kernel, rfl, by decide +kernel, by decide +kernel⟩
theorem ok_held (B : Free mg) (F : FD K mg "held_by" (top 46) ["mind"]) (ct : Cal P w K mg base CX0 11 "tuple_of" (spD (S_tuple_of 10))) : Cal P w K mg base CX0 12 "held_by" (spD S_held) := by
  refine cal_pure F sc_held (fun ds d h => by obtain ⟨_, _, _, _, _, rfl, _⟩ := h; rfl) ?_
  rintro f cdv A outer s H E hr _ _ ⟨n, x, ok, hw, hx, rfl, rfl⟩ I
  have fM : (eMind n x).fix = true := D.tk_fix (tk_mind ok hw hx).1
  have hbf := bks_fix (n := n) hx
  have hmem : ∀ d ∈ bksL n x, ∃ o, d = eBk (n.ck o) o (x.bk o) := fun d hd => by
    obtain ⟨o, _, rfl⟩ := List.mem_map.mp hd
    exact ⟨o, rfl⟩
  have hEf : fixE [some (eMind n x), some (eMind n x), none, none, none] = true := fixE_of (.cons fM (.cons fM (.non (.non (.non .nil)))))
  refine hs_lk (hs_set 1 sc_held.nd (pd_call ct pass0 hr (by decide) (pds_cons (pd_var 0) pds_nil) (tuS (tk_mind ok hw hx))) ?_)
  show HS _ _ [some (eMind n x), some (eMind n x), none, none, none] _ _
  refine hs_setCh 2 sc_held.nd hEf (Sub.refl _) (ch_nw (nw_dc (j := 3) (ds := bksL n x) (kf := kf0) (Rv := rDat) rfl sc_held.nd hEf (pd_ixT (pd_var 1) pd_int) (blkOk_by (N := ["mind", "own", "books", "book", "place"]) (sc := defScope (top 46)) (by decide +kernel)) hbf (Nat.le_trans (bks_len n x) (by decide)) (bks_nd ok x) (fun _ _ _ _ _ cs' d hd => ?_) (fun _ _ _ _ _ cs' d hd => nw_pd (pd_var 3) (fixL_mem hbf d hd)))) ?_
  · obtain ⟨o, rfl⟩ := hmem d hd
    exact (pd_ixT (pd_var 3) pd_int)
  rintro d c ⟨nc, ⟨p, vals, n', rfl, hV, rfl⟩, rfl⟩
  obtain ⟨rfl, rfl⟩ := RsR_dat hV
  have hz : ((bksL n x).map kf0).zip (bksL n x) = dmap n fun o => eBk (n.ck o) o (x.bk o) := by
    unfold bksL dmap
    induction n.pls with
    | nil => rfl
    | cons o l ih => exact congrArg (List.cons _) ih
  rw [hz]
  have hl : ((n.cs.map eChan).length : Int) = (n.cs.length : Nat) := by rw [List.length_map]
  show HS _ (Lk I [(p, Co.dct none (dmap n fun o => eBk (n.ck o) o (x.bk o)))]) [some (eMind n x), some (eMind n x), some (.ref p), none, none] _ _
  refine (hs_ret (pd_tupleL B.tup (PD.to (pd_lcR (n := n.cs.length) (g := gName 4) (own := [("place", 4)]) (envs := fun d => [some (eMind n x), some (eMind n x), some (.ref p), none, some d]) (keep := fun _ => true) (out := fun d => match d with | .int i => heldD n x i.toNat | _ => .non) rfl sc_held.nd B.rng (PD.to (pd_lenT B.len (pd_ixT (pd_var 1) pd_int)) (congrArg D.int hl)) (Nat.le_trans ok.net.1 (by decide)) (blkOk_by (N := ["mind", "own", "books", "book", "place"]) (sc := defScope (top 46)) (by decide +kernel)) (fun s H C cl fp => pg_name (i := 4) sc_held.nd rfl (.inl rfl) (.inr rfl)) (fun d hd => tg_name 4) (fun _ _ _ _ _ d hd => ptd_nil) (fun _ _ _ _ _ d hd _ => ?_) (fun d hd _ => ?_)) ?_))).wk (fun _ h => h) (fun D h => oRet_le (fun H hL => LkP.le hL) h)
  · obtain ⟨i, hi, rfl⟩ := List.mem_map.mp hd
    have hg := getA_dmap n (fun o => eBk (n.ck o) o (x.bk o)) i
    show PD _ _ _ _ (heldD n x ((i : Int)).toNat)
    rw [Int.toNat_natCast]
    unfold heldD
    cases hq : n.pls.find? fun o => decide (n.key o = i) with
    | none =>
      rw [hq] at hg
      exact pd_ifF (pb_din le_lk 0 hr (pd_var 4) (pd_var 2) rfl (by rw [hg]; rfl)) pd_non
    | some o =>
      rw [hq] at hg
      exact pd_ifT (pb_din le_lk 0 hr (pd_var 4) (pd_var 2) rfl (by rw [hg]; rfl)) (pd_ixT (pd_dget le_lk 0 hr (pd_var 2) rfl (pd_var 4) hg) pd_int)
  · obtain ⟨i, hi, rfl⟩ := List.mem_map.mp hd
    exact held_fix _ _ _
  · rw [List.filter_eq_self.mpr (fun _ _ => rfl), List.map_map]
    exact congrArg D.lst (List.map_congr_left fun i _ => by show heldD n x ((i : Int)).toNat = _; rw [Int.toNat_natCast])
end
end Sd
namespace Sd
open PySem L2
/-! ### equal, and of the same kinds -/
mutual
def D.ti : D → Bool
  | .int _ => true
  | .tup ds => decide (ds.length ≤ 1000) && tiL ds
  | _ => false
def tiL : List D → Bool
  | [] => true
  | d :: ds => d.ti && tiL ds
end
theorem tiL_mem : ∀ {ds : List D}, tiL ds = true → ∀ d ∈ ds, d.ti = true
  | e :: ds, h, d, hd => by
    have h' : (e.ti && tiL ds) = true := h
    rw [Bool.and_eq_true] at h'
    rcases List.mem_cons.mp hd with q | q
    · rw [q]; exact h'.1
    · exact tiL_mem h'.2 d q
def S_same (k : Nat) (ds : List D) (d : D) : Prop := ∃ x : D, ds = [x, x] ∧ x.ti = true ∧ x.dep ≤ k ∧ d = .bl true
theorem eqb_i1 (i : Int) : D.eqb (.int i) (.int i) = true := decide_eq_true rfl
section
variable {P : Program} {w : World} {K : PySem.W.Frag} {mg : Str → Option Value} {base : Heap}
theorem sc_same : FnScope ["_law_mine", "_law_due", "_law_near", "_law_far"] ["_law_mine", "_law_due"] (defScope (top 52)) := ⟨rfl, rfl, rfl, by decide +kernel, rfl, by decide +kernel, by decide +kernel⟩
theorem same_int {k : Nat} (B : Free mg) (f : Addr) (cdv : Value) (A : Around) (outer : List Env) (s : Shared) (H : Hp) (E : XK) (i : Int) (I : Asr) (hr : Room k (bx P w K mg base ["_law_mine", "_law_due", "_law_near", "_law_far"] "_law_same" (top 52) f cdv A outer s H E).A) :
    HS (bx P w K mg base ["_law_mine", "_law_due", "_law_near", "_law_far"] "_law_same" (top 52) f cdv A outer s H E) I (startE ["_law_mine", "_law_due", "_law_near", "_law_far"] [.int i, .int i]) (defBody (top 52)) (oRet I (.bl true)) :=
  hs_ifF (pb_val (pd_isi2 (n := "int") B.isi (pd_var 1) rfl B.lst bt_list (by decide) B.tup bt_tuple (by decide) (by decide))) (hs_ifF (pb_w (pbw_or (pb_isN (pd_var 1)) (pbw_or1 (pb_val (pd_isi2 (n := "int") B.isi (pd_var 1) rfl B.bool bt_bool (by decide) B.str bt_str (by decide) (by decide))))))
    (hs_ret (pd_and (pd_isi1 (n := "int") B.isi (pd_var 0) rfl B.int bt_int (by decide) (by decide)) (pd_and (pd_not (pd_isi1 (n := "int") B.isi (pd_var 0) rfl B.bool bt_bool (by decide) (q := false) (by decide)) (by rfl)) (pd_one (pd_eq hr (pd_var 0) (pd_var 1) (eqb_i1 i)))))))
theorem ok_same (B : Free mg) (F : FD K mg "_law_same" (top 52) ["_law_mine", "_law_due"]) : ∀ k, Cal P w K mg base CX0 (k + 1) "_law_same" (spD (S_same k)) := by
  intro k
  induction k with
  | zero =>
    refine cal_pure F sc_same (fun ds d h => by obtain ⟨_, rfl, _⟩ := h; rfl) ?_
    rintro f cdv A outer s H E hr _ _ ⟨x, rfl, ht, hd, rfl⟩ I
    cases x with
    | int i => exact same_int B f cdv A outer s H E i I hr
    | tup ds => exact absurd hd (by show ¬ (depL ds + 1 ≤ 0); omega)
    | non => cases ht
    | bl _ => cases ht
    | str _ => cases ht
    | ref _ => cases ht
    | lst _ => cases ht
  | succ k ih =>
    refine cal_pure F sc_same (fun ds d h => by obtain ⟨_, rfl, _⟩ := h; rfl) ?_
    rintro f cdv A outer s H E hr _ _ ⟨x, rfl, ht, hd, rfl⟩ I
    cases x with
    | int i => exact same_int B f cdv A outer s H E i I hr
    | non => cases ht
    | bl _ => cases ht
    | str _ => cases ht
    | ref _ => cases ht
    | lst _ => cases ht
    | tup ds =>
      have h' : (decide (ds.length ≤ 1000) && tiL ds) = true := ht
      rw [Bool.and_eq_true, decide_eq_true_eq] at h'
      have hdl : depL ds ≤ k := by
        have : depL ds + 1 ≤ k + 1 := hd
        omega
      have i1 : ∀ {X : Cx} {I : Asr} {env : Ev} {q : Bool}, q = q → True := fun _ => trivial
      refine hs_ifT (pb_val (pd_isi2 (n := "tuple") B.isi (pd_var 1) rfl B.lst bt_list (by decide) B.tup bt_tuple (by decide) (by decide))) ?_ noNx_ret
      refine hs_ifF (pb_w (pbw_or (pb_ne hr (pd_isi1 (n := "tuple") B.isi (pd_var 0) rfl B.lst bt_list (by decide) (q := false) (by decide)) (pd_isi1 (n := "tuple") B.isi (pd_var 1) rfl B.lst bt_list (by decide) (q := false) (by decide))) (pbw_or1 (pb_ne hr (pd_isi1 (n := "tuple") B.isi (pd_var 0) rfl B.tup bt_tuple (by decide) (q := true) (by decide)) (pd_isi1 (n := "tuple") B.isi (pd_var 1) rfl B.tup bt_tuple (by decide) (q := true) (by decide)))))) ?_
      refine hs_ret (pd_and (pd_eq hr (pd_lenT B.len (pd_var 0)) (pd_lenT B.len (pd_var 1)) (eqb_i1 _)) (pd_one (PD.to (pd_all (bs := ((ds.zip ds).map fun t => D.tup [t.1, t.2]).map fun _ => true) rfl B.all (PD.to (pd_lcG (g := gTup K 2 (gCons (gName 2) (gCons (gName 3) gNil))) (own := [("_law_near", 2), ("_law_far", 3)]) (ds := (ds.zip ds).map fun t => D.tup [t.1, t.2])
        (envs := fun d => match d with | .tup [a, b] => (((wipeE (startE ["_law_mine", "_law_due", "_law_near", "_law_far"] [.tup ds, .tup ds]) [2, 3]).set 2 (some a)).set 3 (some b)) | _ => [])
        (keep := fun _ => true) (out := fun _ => .bl true) rfl sc_same.nd (pit_zip B.zip (pd_var 0) (pd_var 1) rfl) (blkOk_by (N := ["_law_mine", "_law_due", "_law_near", "_law_far"]) (sc := defScope (top 52)) (by decide +kernel))
        (fun s H C cl fp => pg_tup rfl (pgs_cons (pg_name (i := 2) sc_same.nd rfl (.inl rfl) (.inr rfl)) (pgs_cons (pg_name (i := 3) sc_same.nd rfl (.inl rfl) (.inr rfl)) pgs_nil))) (fun d hd => ?_) (fun _ _ _ _ _ d hd => ptd_nil) (fun _ _ _ _ _ d hd _ => ?_) (fun d hd _ => rfl) ?_) ?_)) ?_)))
      · obtain ⟨t, _, rfl⟩ := List.mem_map.mp hd
        exact tg_pair 2 3 (by decide)
      · obtain ⟨t, htm, rfl⟩ := List.mem_map.mp hd
        have e12 : t.1 = t.2 := by
          obtain ⟨i, hi⟩ := List.mem_iff_getElem?.mp htm
          obtain ⟨h1, h2⟩ := List.getElem?_zip_eq_some.mp hi
          rw [h1] at h2
          exact Option.some.inj h2
        have hm : t.1 ∈ ds := (List.of_mem_zip htm).1
        exact pd_call ih pass0 hr (Nat.le_refl _) (pds_cons (pd_var 2) (pds_cons (pd_var 3) pds_nil)) ⟨t.1, by rw [← e12], tiL_mem h'.2 _ hm, depL_mem hdl _ hm, rfl⟩
      · rw [List.length_map, List.length_zip, sizeLine_eq]; omega
      · rw [List.filter_eq_self.mpr (fun _ _ => rfl)]; simp only [List.map_map]; rfl
      · exact congrArg D.bl (by rw [List.all_map]; exact List.all_eq_true.mpr fun _ _ => rfl)
/-! ### the net of a row of sums -/
def eOwn (c : Ck) : D := .tup [.int c.sp, .int c.so, .int (if c.fl then 1 else 0)]
def S_town (ds : List D) (d : D) : Prop := ∃ cs : List Ck, OkNet cs ∧ ds = [.lst (cs.map eOwn)] ∧ d = eNet cs
theorem sc_town : FnScope ["_law_sums", "_law_k", "_law_own"] ["_law_sums"] (defScope (top 53)) := ⟨rfl, rfl, rfl, by decide +kernel, rfl, by decide +kernel, by decide +kernel⟩
theorem chan_fix (c : Ck) : (eChan c).fix = true := by unfold eChan; cases c.fl <;> rfl
theorem ok_town (B : Free mg) (F : FD K mg "_law_town_of" (top 53) ["_law_sums"]) : Cal P w K mg base CX0 1 "_law_town_of" (spD S_town) := by
  refine cal_pure F sc_town (fun ds d h => by obtain ⟨_, _, rfl, _⟩ := h; rfl) ?_
  rintro f cdv A outer s H E hr _ _ ⟨cs, ok, rfl, rfl⟩ I
  have hg : ∀ {i : Nat} {d : D}, (cs.map eOwn)[i]? = some d → ∃ c, cs[i]? = some c ∧ d = eOwn c ∧ c.k = i := fun {i d} h => by
    rw [List.getElem?_map] at h
    cases hq : cs[i]? with
    | none => rw [hq] at h; cases h
    | some c => rw [hq] at h; cases h; exact ⟨c, rfl, rfl, ok.2 _ _ hq⟩
  let out : D → D := fun d => match d with
    | .tup [.int i, _] => (cs[i.toNat]?).elim .non eChan
    | _ => .non
  have hout : ∀ {i : Nat} {c : Ck}, cs[i]? = some c → out (.tup [.int (i : Nat), eOwn c]) = eChan c := fun {i c} h => by
    show (cs[((i : Int)).toNat]?).elim D.non eChan = _
    rw [Int.toNat_natCast, h]; rfl
  refine hs_ret (pd_tupleL B.tup (PD.to (pd_lcG (g := gTup K 2 (gCons (gName 1) (gCons (gName 2) gNil))) (own := [("_law_k", 1), ("_law_own", 2)]) (ds := enP (cs.map eOwn))
    (envs := fun d => match d with | .tup [a, b] => (((wipeE (startE ["_law_sums", "_law_k", "_law_own"] [.lst (cs.map eOwn)]) [1, 2]).set 1 (some a)).set 2 (some b)) | _ => [])
    (keep := fun _ => true) (out := out) rfl sc_town.nd (pit_enum B.enu (pd_var 0)) (blkOk_by (N := ["_law_sums", "_law_k", "_law_own"]) (sc := defScope (top 53)) (by decide +kernel))
    (fun s H C cl fp => pg_tup rfl (pgs_cons (pg_name (i := 1) sc_town.nd rfl (.inl rfl) (.inr rfl)) (pgs_cons (pg_name (i := 2) sc_town.nd rfl (.inl rfl) (.inr rfl)) pgs_nil))) (fun d hd => ?_) (fun _ _ _ _ _ d hd => ptd_nil) (fun _ _ _ _ _ d hd _ => ?_) (fun d hd _ => ?_) ?_) ?_))
  · obtain ⟨i, e, _, rfl⟩ := enP_mem hd
    exact tg_pair 1 2 (by decide)
  · obtain ⟨i, e, he, rfl⟩ := enP_mem hd
    obtain ⟨c, hc, rfl, hk⟩ := hg he
    rw [hout hc]
    unfold eChan
    subst hk
    cases hf : c.fl with
    | false =>
      have e0 : D.eqb (.int (if c.fl then 1 else 0)) (.int 0) = true := by rw [hf]; rfl
      exact pd_ifT (pb_eq hr (pd_ixT (pd_var 2) pd_int) pd_int e0) (pd_tup (pds_cons (pd_var 1) (pds_cons (pd_add (pd_var 1) pd_int) (pds_cons (pd_ixT (pd_var 2) pd_int) (pds_cons (pd_ixT (pd_var 2) pd_int) pds_nil)))))
    | true =>
      have e0 : D.eqb (.int (if c.fl then 1 else 0)) (.int 0) = false := by rw [hf]; rfl
      exact pd_ifF (pb_eq hr (pd_ixT (pd_var 2) pd_int) pd_int e0) (pd_tup (pds_cons (pd_add (pd_var 1) pd_int) (pds_cons (pd_var 1) (pds_cons (pd_ixT (pd_var 2) pd_int) (pds_cons (pd_ixT (pd_var 2) pd_int) pds_nil)))))
  · obtain ⟨i, e, he, rfl⟩ := enP_mem hd
    obtain ⟨c, hc, rfl, hk⟩ := hg he
    rw [hout hc]
    exact chan_fix c
  · rw [enP_len, List.length_map, sizeLine_eq]
    have := ok.1
    omega
  · rw [List.filter_eq_self.mpr (fun _ _ => rfl)]
    refine congrArg D.lst (List.ext_getElem? fun i => ?_)
    rw [List.getElem?_map, List.getElem?_map]
    unfold enP
    rw [List.getElem?_mapIdx, List.getElem?_map]
    cases hq : cs[i]? with
    | none => rfl
    | some c => exact congrArg some (hout hq)
end
end Sd
namespace Sd
open PySem L2
section
variable {X : Cx} {I : Asr} {env : Ev} {e a b : Expr} {p pos p2 : Pos} {ds ds2 : List D}
theorem pd_intI {i : Int} (hm : X.mg "int" = none) (ha : PD X I env e (.int i)) (hg : Gl X "int" := by rfl)
    (he : starEach (e :: []) X.env = (false, eval e X.env) :: starEach [] X.env := by rfl) (hpl : (backTo pos (starEach [] X.env)).any (·.1) = false := by rfl) : PD X I env (.Call (.Name "int" p) [e] [] pos) (.int i) :=
  pd_ty call_int1 hm bt_int (pds_cons ha pds_nil he) (fun H xs Q _ r k => by
    obtain ⟨v, e1, r1⟩ := r.one
    have e2 : v = .int i := r1
    subst e1 e2
    exact .inl ⟨i, rfl, k _ H (Same.refl H) rfl⟩) hg (by decide) (by decide) he hpl
theorem pd_intB {i : Bool} (hm : X.mg "int" = none) (ha : PD X I env e (.bl i)) (hg : Gl X "int" := by rfl)
    (he : starEach (e :: []) X.env = (false, eval e X.env) :: starEach [] X.env := by rfl) (hpl : (backTo pos (starEach [] X.env)).any (·.1) = false := by rfl) : PD X I env (.Call (.Name "int" p) [e] [] pos) (.int (if i then 1 else 0)) :=
  pd_ty call_int1 hm bt_int (pds_cons ha pds_nil he) (fun H xs Q _ r k => by
    obtain ⟨v, e1, r1⟩ := r.one
    have e2 : v = .bl i := r1
    subst e1 e2
    exact .inr ⟨i, rfl, k _ H (Same.refl H) rfl⟩) hg (by decide) (by decide) he hpl
theorem pd_abs {i : Int} (hm : X.mg "abs" = none) (ha : PD X I env e (.int i)) (hg : Gl X "abs" := by rfl)
    (he : starEach (e :: []) X.env = (false, eval e X.env) :: starEach [] X.env := by rfl) (hpl : (backTo pos (starEach [] X.env)).any (·.1) = false := by rfl) : PD X I env (.Call (.Name "abs" p) [e] [] pos) (.int (if i < 0 then -i else i)) :=
  pd_bltn call_abs hm bt_abs (pds_cons ha pds_nil he) (fun H xs Q _ r k => by
    obtain ⟨v, e1, r1⟩ := r.one
    have e2 : v = .int i := r1
    subst e1 e2
    exact ⟨i, rfl, k _ H (Same.refl H) rfl⟩) hg (by decide) (by decide) he hpl
theorem pd_pow {i j : Int} (ha : PD X I env a (.int i)) (hb : PD X I env b (.int j)) (hc : CPow i j) : PD X I env (.BinOp a .Pow b pos) (.int (i ^ j.toNat)) :=
  pd_op2 op_pow ha hb fun H x y Q _ r1 r2 k => ⟨i, j, r1, r2, hc, k _ H (Same.refl H) rfl⟩
/-- a list that is but read: the script -/
def Scr (K : PySem.W.Frag) (l : Addr) (ns : List Int) : Asr := ⟨fun H => SqL K H l (ns.map V.int), fun s h => s.seq h⟩
theorem rep_ints {H : Hp} : ∀ ns : List Int, RepL H (ns.map D.int) (ns.map V.int)
  | [] => rfl
  | n :: ns => by
    show RepL H (D.int n :: ns.map D.int) (V.int n :: ns.map V.int)
    unfold RepL
    exact ⟨_, _, rfl, rfl, rep_ints ns⟩
theorem pl_scr {l : Addr} {ns : List Int} {lo hi : Option Expr} {u v : Option Int} (hI : ∀ H, I.p H → (Scr X.K l ns).p H) (ha : PD X I env e (.ref l)) (hl : PDO X I env lo u) (hu : PDO X I env hi v) : PL X I env (.Subscript e (.Slice lo hi none p2) pos) (cutD (ns.map D.int) u v) :=
  (pe_slice sl_list ha hl hu).wk fun σ H Q ⟨hI0, hE, k⟩ => ⟨hI0, hE, fun x H1 s1 r1 => ⟨I.mono s1 hI0, hE.mono s1, fun H2 s2 => ⟨I.mono s2 (I.mono s1 hI0), (hE.mono s1).mono s2, fun H3 s3 => by
    have s := (s1.trans s2).trans s3
    have ex : x = .ref l := r1
    exact ⟨l, _, ex, hI _ (I.mono s hI0), fun p hp => k p _ _ (s.trans (Same.new hp)) (s.free hp) upd_same ((rep_ints ns).cut)⟩⟩⟩⟩
theorem cut_ints {ns : List Int} {u v : Option Int} : ∃ ms : List Int, cutD (ns.map D.int) u v = ms.map D.int ∧ ms.length ≤ ns.length := by
  unfold cutD
  rw [← List.map_drop, ← List.map_take]
  exact ⟨_, rfl, by rw [List.length_take, List.length_drop]; omega⟩
theorem pl_or (ha : PL X I env a ds) (hb : PL X I env b ds2) : PL X I env (.BoolOp .Or [a, b] pos) (if ds.isEmpty then ds2 else ds) :=
  (pe_orT ha (pe_one hb)).wk fun σ H Q ⟨hI, hE, k⟩ => ⟨hI, hE, fun p xs H1 s hp hx r => ⟨!xs.isEmpty, .inl ⟨xs, SqL.of hx, rfl⟩, by
    have hl := r.length
    by_cases h0 : xs.isEmpty = true
    · have hd : ds.isEmpty = true := by cases xs <;> cases ds <;> simp_all
      rw [h0, if_neg (by decide)]
      refine ⟨I.mono s hI, hE.mono s, fun p2 ys H2 s2 hp2 hy r2 => k p2 ys H2 (s.trans s2) (s.free hp2) hy (by rw [hd]; exact r2)⟩
    · have hd : ds.isEmpty = false := by cases xs <;> cases ds <;> simp_all
      have h0' : xs.isEmpty = false := by cases xs <;> simp_all
      rw [h0', if_pos (by decide)]
      exact k p xs H1 s hp hx (by rw [hd]; exact r)⟩⟩
end
/-! ### draws -/
def urnC (p : Addr) (N : Int) (c : Cs) : Prop := ∃ a b k : Int, c = [(p, .lst [.int a, .int b, .int k])] ∧ 0 ≤ k ∧ k ≤ N
def rTake (p : Addr) (N low : Int) : RN := fun d c => urnC p (N + 1) c ∧ ∃ r : Int, d = .int r ∧ 0 ≤ r ∧ r < low
def S_take (cs : Cs) (ds : List D) (R : RN) : Prop := ∃ p N low, urnC p N cs ∧ N ≤ 900 ∧ ds = [.ref p, .int low] ∧ 0 < low ∧ low < 1000 ∧ R = rTake p N low
section
variable {P : Program} {w : World} {K : PySem.W.Frag} {mg : Str → Option Value} {base : Heap}
theorem sc_take : FnScope ["_law_urn", "_law_low_so", "_law_drawn", "_law_once", "_law_far", "_law_twice"] ["_law_urn", "_law_low_so"] (defScope (top 50)) := ⟨rfl, rfl, rfl, by decide +kernel, rfl, by decide +kernel, by decide +kernel⟩
theorem ok_take (B : Free mg) (Fd : FD K mg "_law_take" (top 50) ["_law_urn", "_law_low_so"]) : Cal P w K mg base CX0 1 "_law_take" (spW S_take) := by
  refine cal_W Fd sc_take (fun cs ds R h => by obtain ⟨_, _, _, _, _, rfl, _⟩ := h; rfl) ?_
  rintro f cdv A outer s H E hr _ _ _ ⟨p, N, low, ⟨a, b, k, rfl, k0, kN⟩, hN, rfl, hl0, hl1, rfl⟩ F
  by_cases ha : 0 < a
  · refine hs_ifT (pb_gt (pd_ixL (pd_clst le_lk 0 (pd_var 0) rfl) pd_int) pd_int (decide_eq_true ha)) ?_ noNx_rw
    refine hs_set 2 sc_take.nd (pd_mod (pd_intI B.int (pd_ixL (pd_clst le_lk 0 (pd_var 0) rfl) pd_int)) (pd_var 1) (hl0)) ?_
    have hE2 : fixE [some (.ref p), some (.int low), some (.int (a % low)), none, none, none] = true := rfl
    refine hs_asgC (env' := [some (.ref p), some (.int low), some (.int (a % low)), none, none, none]) (d := .int (a / low)) (pd_fdiv (pd_ixL (pd_clst le_lk 0 (pd_var 0) rfl) pd_int) (pd_var 1) (⟨hl0, by omega⟩)) rfl hE2 (Sub.refl _) (pg_subL 0 0 (pd_var 0) rfl pd_int (by show _ < 3; decide)) ?_
    refine hs_retW (ch_to (ch_pd (pd_var 2) rfl) ?_)
    rintro d c ⟨rfl, rfl⟩
    exact ⟨⟨_, _, _, rfl, k0, by omega⟩, _, rfl, Int.emod_nonneg _ (by omega), Int.emod_lt_of_pos _ hl0⟩
  · refine hs_ifF (pb_gt (pd_ixL (pd_clst le_lk 0 (pd_var 0) rfl) pd_int) pd_int (decide_eq_false ha)) ?_
    refine hs_asgC (env' := [some (.ref p), some (.int low), none, none, none, none]) (d := .int (k + 1)) (pd_add (pd_ixL (pd_clst le_lk 0 (pd_var 0) rfl) pd_int) pd_int) rfl rfl (Sub.refl _) (pg_subL 0 2 (pd_var 0) rfl pd_int (by show _ < 3; decide)) ?_
    show HS _ (Lk F [(p, .lst [.int a, .int b, .int (k + 1)])]) _ _ _
    have c1 : ∀ x : Int, CMul 48271 x := fun x => .inl ⟨by decide, by decide⟩
    have c2 : ∀ x : Int, CMul x (39373 + (k + 1)) := fun x => .inr ⟨by omega, by omega⟩
    refine hs_set 3 sc_take.nd (pd_mod (pd_intI B.int (pd_mul (pd_add (pd_ixL (pd_clst le_lk 0 (pd_var 0) rfl) pd_int) (pd_mul pd_int (pd_ixL (pd_clst le_lk 0 (pd_var 0) rfl) pd_int) (c1 _))) (pd_add pd_int (pd_ixL (pd_clst le_lk 0 (pd_var 0) rfl) pd_int)) (c2 _))) pd_int (by decide)) ?_
    generalize (b + 48271 * (k + 1)) * (39373 + (k + 1)) % 2147483647 = once
    refine hs_set 4 sc_take.nd (pd_add (pd_mod (pd_intI B.int (pd_var 3)) pd_int (by decide)) pd_int) ?_
    generalize hfar : once % 40009 + 7 = far
    have c3 : ∀ x : Int, CMul x far := fun x => .inr ⟨by omega, by omega⟩
    refine hs_set 5 sc_take.nd (pd_mod (pd_intI B.int (pd_mul (pd_add (pd_add (pd_var 3) (pd_ixL (pd_clst le_lk 0 (pd_var 0) rfl) pd_int)) (pd_fdiv (pd_ixL (pd_clst le_lk 0 (pd_var 0) rfl) pd_int) pd_int (⟨by decide, by decide⟩))) (pd_var 4) (c3 _))) pd_int (by decide)) ?_
    generalize (once + (k + 1) + b / 1000003) * far % 2147483629 = twice
    have c4 : ∀ x : Int, CMul x 48271 := fun x => .inr ⟨by decide, by decide⟩
    refine hs_retW (ch_to (ch_pd (pd_mod (pd_intI B.int (pd_fdiv (pd_mod (pd_intI B.int (pd_add (pd_mul (pd_var 5) pd_int (c4 _)) (pd_var 3))) pd_int (by decide)) pd_int (⟨by decide, by decide⟩))) (pd_var 1) (hl0)) rfl) ?_)
    rintro d c ⟨rfl, rfl⟩
    exact ⟨⟨_, _, _, rfl, by omega, by omega⟩, _, rfl, Int.emod_nonneg _ (by omega), Int.emod_lt_of_pos _ hl0⟩
/-! ### the urn -/
def S_box (cs : Cs) (ds : List D) (R : RN) : Prop := ∃ q z, cs = [(q, .lst [.int z])] ∧ ds = [.ref q, .int 0] ∧ R = fun d c => ∃ p c1, d = .ref p ∧ urnC p 0 c1 ∧ c = (q, .lst [.int z]) :: c1
theorem sc_box : FnScope ["_law_script", "_law_k", "_law_bit_so"] ["_law_script", "_law_k"] (defScope (top 49)) := ⟨rfl, rfl, rfl, by decide +kernel, rfl, by decide +kernel, by decide +kernel⟩
theorem ok_box (B : Free mg) (Fd : FD K mg "_law_box" (top 49) ["_law_script", "_law_k"]) : Cal P w K mg base CX0 1 "_law_box" (spW S_box) := by
  refine cal_W Fd sc_box (fun cs ds R h => by obtain ⟨_, _, _, rfl, _⟩ := h; rfl) ?_
  rintro f cdv A outer s H E hr _ _ _ ⟨q, z, rfl, rfl, rfl⟩ F
  refine hs_set 2 sc_box.nd (pd_ifT (pb_lt (pd_var 1) (pd_lenL B.len (pd_clst le_lk 0 (pd_var 0) rfl)) (by rfl)) (pd_ixL (pd_clst le_lk 0 (pd_var 0) rfl) (pd_var 1))) ?_
  have c1 : ∀ (x : Int) (y : Bool), CMul x (if y then 1 else 0) := fun x y => .inr (by cases y <;> exact ⟨by decide, by decide⟩)
  have c2 : CMul 39373 0 := .inl ⟨by decide, by decide⟩
  refine hs_retW (ch_to (ch_pl (pl_lst (pds_cons (pd_mul (pd_abs B.abs (pd_var 2)) (pd_intB B.int (pd_ge (pd_abs B.abs (pd_var 2)) (pd_pow pd_int pd_int (⟨by decide, by decide, by decide⟩)))) (c1 _ _)) (pds_cons (pd_add (pd_add (pd_mod (pd_intI B.int (pd_var 2)) pd_int (by decide)) (pd_mul pd_int (pd_var 1) (c2))) pd_int) (pds_cons pd_int pds_nil)))) rfl) ?_)
  rintro d c ⟨p, rfl, rfl⟩
  exact ⟨p, _, rfl, ⟨_, _, 0, rfl, Int.le_refl _, Int.le_refl _⟩, rfl⟩
/-! ### the first number -/
def spCl (K : PySem.W.Frag) : Sp := fun vs H Q _ => ∃ (l : Addr) (ns : List Int), vs = [.ref l, .int 1] ∧ SqL K H l (ns.map V.int) ∧ ns.length ≤ 63 ∧ ∀ (z : Int) p H', Same H H' → H p = none → H' p = some (.lst [.int z]) → Q (.ref p) H'
theorem sc_cells : FnScope ["_law_script", "_law_roof_so", "_law_bits_so", "_law_k", "_law_bit_so", "_law_at_so"] ["_law_script", "_law_roof_so"] (defScope (top 51)) := ⟨rfl, rfl, rfl, by decide +kernel, rfl, by decide +kernel, by decide +kernel⟩
theorem ints_fix : ∀ ms : List Int, fixL (ms.map D.int) = true
  | [] => rfl
  | m :: ms => by show (true && fixL (ms.map D.int)) = true; rw [ints_fix ms]; rfl
theorem ok_cells (B : Free mg) (Fd : FD K mg "_law_cells" (top 51) ["_law_script", "_law_roof_so"]) : Cal P w K mg base CX0 1 "_law_cells" (spCl K) := by
  obtain ⟨f, fd, Fn, hm, b⟩ := Fd.ex
  refine ⟨f, fd, ["_law_script", "_law_roof_so"], Fn.ok (k := 0) sc_cells (fun vs H Q E h => ?_) (fun cdv A outer s H vs Q E hr h => ?_), hm, Fn.kp, b⟩
  · obtain ⟨l, ns, rfl, _⟩ := h
    rfl
  · obtain ⟨l, ns, rfl, hs, hn, q⟩ := h
    have r : RepL H [.ref l, .int 1] [V.ref l, V.int 1] := by
      unfold RepL
      refine ⟨_, _, rfl, rfl, ?_⟩
      unfold RepL
      exact ⟨_, _, rfl, rfl, rfl⟩
    let F : Asr := (since H).and (Scr K l ns)
    have hF : ∀ cs : Cs, ∀ H', (Lk F cs).p H' → (Scr K l ns).p H' := fun cs H' hL => (LkP.le hL).2
    let R : RN := fun d c => ∃ p z, d = .ref p ∧ c = [(p, .lst [.int z])]
    have body : HS (bx P w K mg base ["_law_script", "_law_roof_so", "_law_bits_so", "_law_k", "_law_bit_so", "_law_at_so"] "_law_cells" (top 51) f cdv A outer s H E) F (startE ["_law_script", "_law_roof_so", "_law_bits_so", "_law_k", "_law_bit_so", "_law_at_so"] [.ref l, .int 1]) (defBody (top 51)) (oRW F R) := by
      obtain ⟨m1, e1, hm1⟩ := cut_ints (ns := ns) (u := none) (v := some 1)
      obtain ⟨m2, e2, hm2⟩ := cut_ints (ns := ns) (u := some 1) (v := some 63)
      have hl1 : m1.length ≤ 1 := by
        have : (cutD (ns.map D.int) none (some 1)).length ≤ 1 := by
          unfold cutD
          rw [List.length_take]
          have : HT.sIx (ns.map D.int).length (ns.map D.int).length (some 1) ≤ 1 := Nat.le_trans (Nat.le_of_eq (HT.sIx_nat _ _ 1)) (Nat.min_le_left _ _)
          omega
        rw [e1, List.length_map] at this
        exact this
      have hz : ∃ z : Int, (if (m1.map D.int).isEmpty then [D.int 0] else m1.map D.int) = [.int z] := by
        match m1, hl1 with
        | [], _ => exact ⟨0, rfl⟩
        | [x], _ => exact ⟨x, rfl⟩
      obtain ⟨z0, hz0⟩ := hz
      have hE2 : ∀ q : Addr, fixE [some (.ref l), some (.int 1), some (.ref q), none, none, none] = true := fun _ => rfl
      refine hs_lk (hs_setCh 2 sc_cells.nd rfl (Sub.refl _) (ch_pl (hz0 ▸ pl_or (pl_listL B.lst (pd_new (e1 ▸ pl_scr (ns := ns) (hF []) (pd_var 0) pdo_none (pdo_some (pd_var 1))))) (pl_lst (pds_cons pd_int pds_nil))) rfl) ?_)
      rintro d c ⟨p, rfl, rfl⟩
      show HS _ (Lk F [(p, .lst [.int z0])]) [some (.ref l), some (.int 1), some (.ref p), none, none, none] _ _
      refine hs_nxX (h_forEN (ι := Int) (ds := m2.map D.int) (cc := fun _ z => [(p, .lst [.int z])]) (Ev := fun _ _ => [some (.ref l), some (.int 1), some (.ref p), none, none, none]) (Eb := fun j _ => [some (.ref l), some (.int 1), some (.ref p), some (.int (j : Nat)), some (.int (m2.getD j 0)), none]) PassesOwn.never rfl B.enu (e2 ▸ pl_scr (ns := ns) (hF _) (pd_var 0) (pdo_some (pd_var 1)) (pdo_some pd_int)) (ints_fix m2) z0 rfl rfl (fun G hG j z d hd => ?_) (fun G hG j z d hd => ?_)) (fun z => ?_)
      · have ed : d = .int (m2.getD j 0) := by
          rw [List.getElem?_map] at hd
          rw [List.getD_eq_getElem?_getD]
          cases hq : m2[j]? with
          | none => rw [hq] at hd; cases hd
          | some x => rw [hq] at hd; cases hd; rfl
        subst ed
        exact pgd_tup rfl (pgsd_cons (pgd_name 3 sc_cells.nd) (pgsd_cons (pgd_name 4 sc_cells.nd) pgsd_nil))
      · have hj : j < 63 := by
          have := (List.getElem?_eq_some_iff.mp hd).1
          rw [List.length_map] at this
          omega
        have e0 : (j : Int) % 1 = ((0 : Nat) : Int) := by omega
        have c1 : ∀ x : Int, CMul x ((j : Int) + 2) := fun x => .inr ⟨by omega, by omega⟩
        refine hs_set 5 sc_cells.nd (PD.to (pd_mod (pd_intI B.int (pd_var 3)) (pd_var 1) (by decide)) (congrArg D.int e0)) ?_
        refine hs_asgC (env' := [some (.ref l), some (.int 1), some (.ref p), some (.int (j : Nat)), some (.int (m2.getD j 0)), some (.int ((0 : Nat) : Int))]) (pd_add (pd_ixL (pd_clst le_lk 0 (pd_var 2) rfl) (pd_var 5)) (pd_mul (pd_var 4) (pd_add (pd_var 3) pd_int) (c1 _))) rfl rfl (Sub.refl _) (pg_subL 0 0 (pd_var 2) rfl (pd_var 5) (by show _ < 1; decide)) ?_
        exact hs_endX (z + m2.getD j 0 * ((j : Int) + 2)) (fun _ h => h) (.same (.same (.same (.skip (.skip (.skip .nil))))))
      · refine hs_retW (ch_to (ch_pd (pd_var 2) rfl) ?_)
        rintro d c ⟨rfl, rfl⟩
        exact ⟨p, z, rfl, rfl⟩
    refine ⟨_, body, ⟨Same.refl H, hs⟩, start_env r, fun v H' d c hR hP rv hf => ?_⟩
    obtain ⟨p, z, rfl, rfl⟩ := hR
    have ev : v = .ref p := rv
    subst ev
    obtain ⟨_, xs, hx, rx⟩ := hP.at_ 0 _ rfl
    have hxs : xs = [.int z] := by
      obtain ⟨u, e1, r1⟩ := RepL.one rx
      have e2 : u = .int z := r1
      rw [e1, e2]
    subst hxs
    have hsame : Same H (Hws H' [(p, .lst [.int z])]) := hP.fr.1
    refine q z p H' (hsame.trans Hws_le) ?_ hx
    cases hq : H p with
    | none => rfl
    | some o =>
      have := hsame p o hq
      rw [Hws_in (by simp)] at this
      cases this
end
end Sd
namespace Sd
open PySem L2
/-! ### a row of persons, a payment -/
structure Cse where
  cks : List Ck
  t0 : Int
  t1 : Int
  t2 : Int
  am : Int
  ask : Option Int
def Cse.n (z : Cse) : Nat := z.cks.length
def Cse.m (z : Cse) : Nat := z.cks.length + 1
def pnC (C : Addr) (z : Cse) (p : Nat) : Pn := ⟨z.cks, p, z.t0, z.t1, z.t2, if p = z.cks.length then z.ask else none, .tup [.int 1, .tup [.str "pay", .tup (rtD z.cks p), .int z.am, eImg, .tup (enD z.cks p)]], z.am, C⟩
structure OkC (z : Cse) : Prop where
  net : OkNet z.cks
  l2 : 2 ≤ z.cks.length
  t1 : OkT z.t1
  a1 : 1 ≤ z.am
  am : ∀ c ∈ z.cks, c.a = z.am
theorem okPn_C {C : Addr} {z : Cse} {p : Nat} (ok : OkC z) (hp : p < z.m) : OkPn (pnC C z p) := ⟨ok.net, by have := ok.l2; show 1 ≤ z.cks.length; omega, Nat.le_of_lt_succ hp, ok.t1, ok.a1, ok.am⟩
def rnC (C : Addr) (z : Cse) : Rn := ⟨z.cks.length, fun p => (pnC C z p).cf, fun p k => (pnC C z p).tm ((k : Int) * z.t1)⟩
/-- the mind, the box of a person; what a look makes of them -/
def mdW (w : Wo) (p : Nat) : Mi := (w.getD p (dM, [])).1
def bxW (w : Wo) (p : Nat) : Box := (w.getD p (dM, [])).2
def qW (r : Rn) (j p : Nat) : Mi × Box := lookA (r.cf p) (r.tm p j) (mdW (runW r j) p) (bxW (runW r j) p)
theorem getD_mapR {α : Type} (f : Nat → α) (d : α) {m p : Nat} (h : p < m) : ((List.range m).map f).getD p d = f p := by
  rw [List.getD_eq_getElem?_getD, List.getElem?_map, List.getElem?_range h]; rfl
theorem outs_at {r : Rn} {j p : Nat} (h : p < r.n + 1) : (outs r (tms r j) (runW r j)).getD p (dM, []) = qW r j p := by
  unfold outs
  rw [getD_mapR _ _ h]
  have : (tms r j).getD p dT = r.tm p j := by unfold tms; rw [getD_mapR _ _ h]
  rw [this]; rfl
theorem run_at {r : Rn} {j p : Nat} (h : p < r.n + 1) : (runW r (j + 1)).getD p (dM, []) = ((qW r j p).1, (List.range (r.n + 1)).flatMap fun s => con s p (qW r j s).2) := by
  show (stepT r (tms r j) (runW r j)).getD p (dM, []) = _
  unfold stepT
  rw [getD_mapR _ _ h, outs_at h]
  unfold boxOf
  refine congrArg (Prod.mk _) ?_
  have : ∀ l : List Nat, (∀ s ∈ l, s < r.n + 1) → (l.flatMap fun s => con s p ((outs r (tms r j) (runW r j)).getD s (dM, [])).2) = l.flatMap fun s => con s p (qW r j s).2 := by
    intro l
    induction l with
    | nil => intro _; rfl
    | cons s l ih => intro hl; rw [List.flatMap_cons, List.flatMap_cons, outs_at (hl s List.mem_cons_self), ih fun x hx => hl x (List.mem_cons_of_mem _ hx)]
  exact this _ fun s hs => List.mem_range.mp hs
theorem run0_at {r : Rn} {p : Nat} (h : p < r.n + 1) : (runW r 0).getD p (dM, []) = (m0 p, []) := by
  show (wo0 r.n).getD p (dM, []) = _
  unfold wo0
  rw [getD_mapR _ _ h]
structure OkP (r : Rn) (j p : Nat) : Prop where
  sane : saneB (r.cf p) (r.tm p j) (mdW (runW r j) p) (bxW (runW r j) p) = true
  bl : (bxW (runW r j) p).length ≤ 40
  ol : (qW r j p).2.length ≤ 40
  out : ∀ y ∈ (qW r j p).2, (if y.1 then hasOut (r.cf p) else hasIn (r.cf p)) = true
theorem okP_of {r : Rn} {j p : Nat} (h : okT r (tms r j) (runW r j) = true) (hp : p < r.n + 1) : OkP r j p := by
  unfold okT at h
  have h1 := List.all_eq_true.mp h p (List.mem_range.mpr hp)
  unfold okP at h1
  have e : (tms r j).getD p dT = r.tm p j := by unfold tms; rw [getD_mapR _ _ hp]
  rw [e] at h1
  simp only [Bool.and_eq_true, decide_eq_true_eq] at h1
  obtain ⟨⟨a, b⟩, c⟩ := h1
  unfold okOut at c
  rw [Bool.and_eq_true, decide_eq_true_eq] at c
  exact ⟨a, b, c.1, fun y hy => List.all_eq_true.mp c.2 y hy⟩
theorem sane_mi {c : Cf} {t : Tm} {m : Mi} {box : Box} (h : saneB c t m box = true) : OkMi (lookA c t m box).1 := by
  unfold saneB at h
  simp only [Bool.and_eq_true] at h
  obtain ⟨⟨⟨⟨⟨⟨⟨⟨⟨h1, h2⟩, h3⟩, h4⟩, h5⟩, h6⟩, h7⟩, h8⟩, h9⟩, h10⟩ := h
  have hw := (okB_of h9).ws
  exact ⟨hw.1, hw.2⟩
theorem mi_run {r : Rn} {many : Nat} (h : ∀ j, j < many → okT r (tms r j) (runW r j) = true) : ∀ j, j ≤ many → ∀ p, p < r.n + 1 → OkMi (mdW (runW r j) p)
  | 0, _, p, hp => by
    unfold mdW
    rw [run0_at hp]
    exact ⟨Nat.zero_le _, Nat.zero_le _⟩
  | j + 1, hj, p, hp => by
    unfold mdW
    rw [run_at hp]
    exact sane_mi (okP_of (h j (by omega)) hp).sane
/-! ### letters on their way -/
theorem con_snoc (s t : Nat) (l : Box) (y : Bool × Lt) : con s t (l ++ [y]) = con s t l ++ con s t [y] := by
  unfold con
  by_cases h1 : (s + 1 == t) = true
  · rw [if_pos h1, if_pos h1, if_pos h1, List.filter_append, List.map_append]
  · rw [if_neg h1, if_neg h1, if_neg h1]
    by_cases h2 : (t + 1 == s) = true
    · rw [if_pos h2, if_pos h2, if_pos h2, List.filter_append, List.map_append]
    · rw [if_neg h2, if_neg h2, if_neg h2]; rfl
theorem con_nil (s t : Nat) : con s t [] = [] := by unfold con; split; rfl; split <;> rfl
/-- to whom a letter goes -/
def goesTo (k : Nat) (y : Bool × Lt) : Nat := if y.1 then k + 1 else k - 1
theorem con_one {k : Nat} {y : Bool × Lt} (h : y.1 = false → 0 < k) (t : Nat) : con k t [y] = if t = goesTo k y then [(y.1, y.2)] else [] := by
  obtain ⟨o, l⟩ := y
  unfold con
  cases o with
  | true =>
    show (if (k + 1 == t) = true then [(true, l)] else if (t + 1 == k) = true then [] else []) = if t = k + 1 then [(true, l)] else []
    by_cases h1 : k + 1 = t
    · rw [if_pos (by simp [h1]), if_pos h1.symm]
    · rw [if_neg (c := (k + 1 == t) = true) (by simp [h1]), if_neg (c := t = k + 1) (fun q => h1 q.symm)]
      by_cases h3 : (t + 1 == k) = true
      · rw [if_pos h3]
      · rw [if_neg h3]
  | false =>
    have hk : 0 < k := h rfl
    show (if (k + 1 == t) = true then [] else if (t + 1 == k) = true then [(false, l)] else []) = if t = k - 1 then [(false, l)] else []
    by_cases h1 : t + 1 = k
    · rw [if_neg (by simp; omega), if_pos (by simp [h1]), if_pos (by omega)]
    · rw [if_neg (c := (t + 1 == k) = true) (by simp [h1]), if_neg (c := t = k - 1) (by omega)]
      by_cases h3 : (k + 1 == t) = true
      · rw [if_pos h3]
      · rw [if_neg h3]
theorem letter_box {C : Addr} {z : Cse} {k : Nat} {y : Bool × Lt} (h : y.1 = false → 0 < k) : D.tup [.int (k : Nat), eLt (pnC C z k) y.1 y.2] = eBox (pnC C z (goesTo k y)) (y.1, y.2) := by
  obtain ⟨o, l⟩ := y
  cases o with
  | true =>
    show _ = eBox (pnC C z (k + 1)) (true, l)
    cases l <;> rfl
  | false =>
    have hk : 0 < k := h rfl
    obtain ⟨t, rfl⟩ : ∃ t, k = t + 1 := ⟨k - 1, by omega⟩
    show _ = eBox (pnC C z t) (false, l)
    cases l <;> rfl
theorem goes_lt {C : Addr} {z : Cse} {k : Nat} {y : Bool × Lt} (hk : k < z.m) (h : (if y.1 then hasOut ((rnC C z).cf k) else hasIn ((rnC C z).cf k)) = true) : goesTo k y < z.m ∧ (y.1 = false → 0 < k) := by
  obtain ⟨o, l⟩ := y
  cases o with
  | true =>
    have h : decide (k < z.cks.length) = true := h
    have := of_decide_eq_true h
    exact ⟨by show k + 1 < z.cks.length + 1; omega, fun q => nomatch q⟩
  | false =>
    have h : decide (0 < k) = true := h
    have := of_decide_eq_true h
    exact ⟨by show k - 1 < z.m; omega, fun _ => this⟩
theorem oth_goes {C : Addr} {z : Cse} {k : Nat} (y : Bool × Lt) : (pnC C z k).oth y.1 = goesTo k y := by
  obtain ⟨o, l⟩ := y
  cases o <;> rfl
end Sd
namespace Sd
open PySem L2
section
variable {X : Cx} {I F : Asr} {cs : Cs} {env env2 : Ev} {a b : Expr} {pos : Pos} {x : Str} {O : Ends → Prop} {rest : List Stmt}
/-- x, y = a, b: two plain names, with new cells -/
theorem hs_parCh (i j : Nat) {y : Str} {px py pt pt2 : Pos} {kt k2 : Nat} {RL : List D → Cs → Prop} (hc : X.calm = true) (hN : X.N.Nodup) (hij : i ≠ j) (hE0 : fixE env2 = true) (hsb : Sub env2 env) (h : PChs X F cs env [a, b] RL) (hr : ∀ ds c, RL ds c → ∃ d d2, ds = [d, d2] ∧ HS X (Lk F c) ((env2.set i (some d)).set j (some d2)) rest O)
    (hi : X.N[i]? = some x := by rfl) (hj : X.N[j]? = some y := by rfl) (hx : X.env.scope.names.lookup x = some .local := by rfl) (hy : X.env.scope.names.lookup y = some .local := by rfl)
    (hw : swappedStores [.Tuple [.Name x px, .Name y py] kt pt] (.Tuple [a, b] k2 pt2) X.env = pure (some [x, y]) := by rfl)
    (hs : swapsWithSole [.Tuple [.Name x px, .Name y py] kt pt] (.Tuple [a, b] k2 pt2) pos.line X.env = pure false := by rfl) : HS X (Lk F cs) env (.Assign [.Tuple [.Name x px, .Name y py] kt pt] (.Tuple [a, b] k2 pt2) pos :: rest) O := by
  have hr' : ∀ t : D × D × Cs, RL [t.1, t.2.1] t.2.2 → HS X (Lk F t.2.2) ((env2.set i (some t.1)).set j (some t.2.1)) rest O := fun t ht => by
    obtain ⟨d, d2, e, h⟩ := hr _ _ ht
    cases e
    exact h
  exact (pss_cons (ps_par hc hN hi hj hij hx hy h hw hs) (L2.PSs.wk (t := fun E' σ H => ∃ t : D × D × Cs, RL [t.1, t.2.1] t.2.2 ∧ tS (Lk F t.2.2) ((env2.set i (some t.1)).set j (some t.2.1)) O E' σ H) (pss_exI fun t ht => hr' t ht) (fun _ _ _ h => h))).wk
    fun D σ H ⟨hI, hE, k⟩ => ⟨hI, hE, fun vs H1 ds c hR hP r hf t1 => by
      obtain ⟨d, d2, e, _⟩ := hr _ _ hR
      subst e
      obtain ⟨v, u, e1, r1, r2⟩ := r.two
      exact ⟨v, u, e1, (d, d2, c), hR, hP, (((hE.sub hsb).tr t1 (fixE_get hE0)).set r1).set r2, k⟩⟩
/-- (None,) * n -/
theorem pd_nons {n : Nat} (ha : PD X I env a (.tup [.non])) (hb : PD X I env b (.int n)) (h2 : 2 ≤ n) (hn : n ≤ 1000) : PD X I env (.BinOp a .Mult b pos) (.tup (List.replicate n .non)) :=
  pd_op2 op_repT ha hb fun H u v Q _ r1 r2 k => by
    obtain ⟨q, ys, e2, hq, hl⟩ := r1.tup_inv
    obtain ⟨w0, e3, r3⟩ := hl.one
    have e4 : w0 = .non := r3
    subst e3 e4
    refine ⟨q, n, _, e2, r2, SqT.of hq, by simp, by omega, by omega, by simp, fun p hp => k _ _ (Same.new hp) (Rep.tup_new hp ?_)⟩
    have hnn : (n : Int).toNat = n := by omega
    rw [hnn]
    clear r2 h2 hn hnn hb k
    induction n with
    | zero => rfl
    | succ n ih =>
      show RepL H (.non :: List.replicate n .non) (.non :: (List.replicate n [V.non]).flatten)
      unfold RepL
      exact ⟨_, _, rfl, rfl, ih⟩
end
theorem cg2 {α β γ : Type} (f : α → β → γ) {a a' : α} {b b' : β} (h1 : a = a') (h2 : b = b') : f a b = f a' b' := by rw [h1, h2]
/-! ### lists by place -/
def refsF (m : Nat) (ns : Nat → Addr) : List D := (List.range m).map fun p => .ref (ns p)
def cellsF (m : Nat) (ns : Nat → Addr) (bx : Nat → List D) : Cs := (List.range m).map fun p => (ns p, .lst (bx p))
theorem refs_fix (m : Nat) (ns : Nat → Addr) : fixL (refsF m ns) = true := by
  unfold refsF
  generalize List.range m = l
  induction l with
  | nil => rfl
  | cons p l ih => exact ih
theorem refs_at {m : Nat} {ns : Nat → Addr} {p : Nat} (h : p < m) : atI (refsF m ns) ((p : Nat) : Int) = some (.ref (ns p)) := atI_nat (by unfold refsF; rw [List.getElem?_map, List.getElem?_range h]; rfl)
theorem cells_at {m : Nat} {ns : Nat → Addr} {bx : Nat → List D} {p : Nat} (h : p < m) : (cellsF m ns bx)[p]? = some (ns p, .lst (bx p)) := by unfold cellsF; rw [List.getElem?_map, List.getElem?_range h]; rfl
theorem mapR_set {α : Type} (f g : Nat → α) {m t : Nat} (ht : t < m) (h : ∀ p, p < m → p ≠ t → g p = f p) : ((List.range m).map f).set t (g t) = (List.range m).map g := by
  apply List.ext_getElem?
  intro i
  rw [List.getElem?_set]
  by_cases hi : t = i
  · subst hi
    rw [if_pos rfl, if_pos (by rw [List.length_map, List.length_range]; exact ht), List.getElem?_map, List.getElem?_range ht]; rfl
  · rw [if_neg hi, List.getElem?_map, List.getElem?_map]
    by_cases hm : i < m
    · rw [List.getElem?_range hm]; exact congrArg some (h i hm (Ne.symm hi)).symm
    · rw [List.getElem?_eq_none (by rw [List.length_range]; omega)]; rfl
theorem mapR_congr {α : Type} {f g : Nat → α} {m : Nat} (h : ∀ p, p < m → f p = g p) : (List.range m).map f = (List.range m).map g := List.map_congr_left fun p hp => h p (List.mem_range.mp hp)
/-! ### the loop over all looks -/
section
variable {C : Addr} {z : Cse}
def mdsF (C : Addr) (z : Cse) (f : Nat → Mi) : List D := (List.range z.m).map fun p => eMind (pnC C z p) (f p)
def bxF (C : Addr) (z : Cse) (f : Nat → Box) (p : Nat) : List D := (f p).map (eBox (pnC C z p))
/-- the boxes of the next look, behind k persons and i letters of the next -/
def nxF (r : Rn) (j k : Nat) (p : Nat) : Box := (List.range k).flatMap fun s => con s p (qW r j s).2
def nxI (r : Rn) (j k i : Nat) (p : Nat) : Box := nxF r j k p ++ con k p ((qW r j k).2.take i)
theorem nxI_zero (r : Rn) (j k p : Nat) : nxI r j k 0 p = nxF r j k p := by unfold nxI; rw [List.take_zero, con_nil, List.append_nil]
theorem nxI_last (r : Rn) (j k p : Nat) : nxI r j k (qW r j k).2.length p = nxF r j (k + 1) p := by
  unfold nxI nxF
  rw [List.take_length, List.range_succ, List.flatMap_append]
  simp
theorem mds_fix {f : Nat → Mi} (ok : OkC z) (h : ∀ p, p < z.m → OkMi (f p)) : fixL (mdsF C z f) = true := by
  unfold mdsF
  have : ∀ l : List Nat, (∀ p ∈ l, p < z.m) → fixL (l.map fun p => eMind (pnC C z p) (f p)) = true := by
    intro l
    induction l with
    | nil => intro _; rfl
    | cons p l ih =>
      intro hl
      have hp := hl p List.mem_cons_self
      show ((eMind (pnC C z p) (f p)).fix && fixL (l.map fun p => eMind (pnC C z p) (f p))) = true
      rw [D.tk_fix (tk_mind (okPn_C ok hp) rfl (h p hp)).1, ih fun q hq => hl q (List.mem_cons_of_mem _ hq)]; rfl
  exact this _ fun p hp => List.mem_range.mp hp
theorem mds_at {f : Nat → Mi} {p : Nat} (h : p < z.m) : (mdsF C z f)[p]? = some (eMind (pnC C z p) (f p)) := by unfold mdsF; rw [List.getElem?_map, List.getElem?_range h]; rfl
theorem mds_len (f : Nat → Mi) : (mdsF C z f).length = z.m := by unfold mdsF; rw [List.length_map, List.length_range]
def mdK (r : Rn) (j k : Nat) (p : Nat) : Mi := if p < k then (qW r j p).1 else mdW (runW r j) p
def S_all (C : Addr) (cs : Cs) (ds : List D) (R : RN) : Prop := ∃ (z : Cse) (many : Nat) (a : Addr), OkC z ∧ many ≤ 1000 ∧ (∀ j, j < many → okT (rnC C z) (tms (rnC C z) j) (runW (rnC C z) j) = true) ∧ cs = [(a, .lst (mdsF C z (mdW (runW (rnC C z) 0))))] ∧
  ds = [.ref a, eTimes z.t0 z.t1 z.t2, .int many] ∧ R = fun d c => ∃ q, d = .tup [.ref a, .ref q] ∧ c = [(a, .lst (mdsF C z (mdW (runW (rnC C z) many)))), (q, .lst [])]
end
section
variable {P : Program} {w : World} {K : PySem.W.Frag} {mg : Str → Option Value} {base : Heap} {C : Addr}
def nmAll : List Str := ["_law_minds", "_law_times", "_law_many", "_law_own", "_law_boxes", "_law_deeds", "_law_ledger", "_law_lap", "_law_nexts", "_law_k", "_law_some", "_law_letters", "_law_to", "_law_letter"]
theorem sc_all : FnScope nmAll ["_law_minds", "_law_times", "_law_many"] (defScope (top 54)) := ⟨rfl, rfl, rfl, by decide +kernel, rfl, by decide +kernel, by decide +kernel⟩
/-- what [[] for x in minds] gives -/
def rBx (m : Nat) (cs : Cs) : RN := fun d c => ∃ (q : Addr) (ns : Nat → Addr), d = .ref q ∧ c = cs ++ cellsF m ns (fun _ => []) ++ [(q, .lst (refsF m ns))]
def RelB (cs : Cs) (j : Nat) (vals : List D) (c : Cs) : Prop := ∃ ns : Nat → Addr, vals = refsF j ns ∧ c = cs ++ cellsF j ns fun _ => []
theorem boxes_at {cs : Cs} {a : Addr} {ds : List D} {m0 : Nat} (hm : cs[m0]? = some (a, .lst ds)) : ∀ j vals c, RelB cs j vals c → vals.length = j ∧ ∃ m : Nat, c[m]? = some (a, .lst ds) := by
  rintro j vals c ⟨ns, rfl, rfl⟩
  exact ⟨by unfold refsF; rw [List.length_map, List.length_range], m0, by rw [List.getElem?_append_left (List.getElem?_eq_some_iff.mp hm).1]; exact hm⟩
theorem boxes_0 {cs : Cs} {a : Addr} : RelB cs 0 [] cs := ⟨fun _ => a, rfl, (List.append_nil cs).symm⟩
theorem boxes_e {X : Cx} {scope : Scope} {env : Ev} {i : Nat} {pos2 : Pos} {ds : List D} {cs : Cs} : EltL X scope env i (.List [] pos2) ds (RelB cs) := by
  rintro _ _ _ _ _ G j d vals c hd ⟨ns, rfl, rfl⟩
  refine ch_to (ch_pl (pl_lst pds_nil) rfl) ?_
  rintro o c' ⟨q, rfl, rfl⟩
  refine ⟨fun p => if p = j then q else ns p, ?_, ?_⟩
  · unfold refsF
    rw [List.range_succ, List.map_append]
    refine cg2 (· ++ ·) (mapR_congr fun p hp => by show _ = D.ref (if p = j then q else ns p); rw [if_neg (Nat.ne_of_lt hp)]) ?_
    show [D.ref q] = [D.ref (if j = j then q else ns j)]
    rw [if_pos rfl]
  · unfold cellsF
    rw [List.range_succ, List.map_append, List.append_assoc]
    refine congrArg (cs ++ ·) (cg2 (· ++ ·) (mapR_congr fun p hp => by show _ = ((if p = j then q else ns p), Co.lst []); rw [if_neg (Nat.ne_of_lt hp)]) ?_)
    show [(q, Co.lst [])] = [((if j = j then q else ns j), Co.lst [])]
    rw [if_pos rfl]
theorem boxes_R {cs : Cs} {m : Nat} : ∀ q vals c, RelB cs m vals c → rBx m cs (.ref q) (c ++ [(q, .lst vals)]) := by
  rintro q vals c ⟨ns, rfl, rfl⟩
  exact ⟨q, ns, rfl, rfl⟩
end
end Sd
namespace Sd
open PySem L2
theorem perm_a {α : Type} (x d b : α) (L : List α) : (x :: d :: b :: L).Perm ([x] ++ L ++ [b] ++ [d]) := by
  have e : [x] ++ L ++ [b] ++ [d] = x :: (L ++ [b, d]) := by simp
  rw [e]
  exact ((List.Perm.swap b d L).trans (List.perm_append_comm (l₁ := [b, d]) (l₂ := L))).cons x
theorem perm_b {α : Type} (x d n b : α) (L M : List α) : ((x :: d :: n :: L) ++ (b :: M)).Perm ((x :: d :: b :: M) ++ L ++ [n]) := by
  have e : (x :: d :: b :: M) ++ L ++ [n] = x :: d :: ((b :: M) ++ (L ++ [n])) := by simp
  rw [e]
  exact (((List.perm_append_comm (l₁ := n :: L) (l₂ := b :: M)).trans ((List.perm_append_comm (l₁ := [n]) (l₂ := L)).append_left (b :: M))).cons d).cons x
theorem con_len (s t : Nat) (l : Box) : (con s t l).length ≤ l.length := by
  unfold con
  split
  · rw [List.length_map]; exact List.length_filter_le _ _
  · split
    · rw [List.length_map]; exact List.length_filter_le _ _
    · exact Nat.zero_le _
theorem nxF_succ (r : Rn) (j k p : Nat) : nxF r j (k + 1) p = nxF r j k p ++ con k p (qW r j k).2 := by
  unfold nxF
  rw [List.range_succ, List.flatMap_append]; simp
theorem nxF_len {r : Rn} {j p : Nat} : ∀ k, (∀ s, s < k → (qW r j s).2.length ≤ 40) → (nxF r j k p).length ≤ k * 40
  | 0, _ => Nat.le_refl _
  | k + 1, h => by
    rw [nxF_succ, List.length_append]
    have h1 := nxF_len (r := r) (j := j) (p := p) k fun s hs => h s (by omega)
    have h2 := con_len k p (qW r j k).2
    have h3 := h k (by omega)
    omega
theorem nxI_succ {r : Rn} {j k i : Nat} {y : Bool × Lt} (h : (qW r j k).2[i]? = some y) (p : Nat) : nxI r j k (i + 1) p = nxI r j k i p ++ con k p [y] := by
  unfold nxI
  rw [take_succ_of h, con_snoc, List.append_assoc]
theorem mdK_zero (r : Rn) (j : Nat) : mdK r j 0 = mdW (runW r j) := funext fun p => if_neg (Nat.not_lt_zero p)
section
variable {P : Program} {w : World} {K : PySem.W.Frag} {mg : Str → Option Value} {base : Heap} {C : Addr}
theorem ok_all (B : Free mg) (Fd : FD K mg "_law_all_looks" (top 54) ["_law_minds", "_law_times", "_law_many"]) (ca : Cal P w K mg base CX0 19 "at_look" (spD (S_at C))) : Cal P w K mg base CX0 20 "_law_all_looks" (spW (S_all C)) := by
  refine cal_W Fd sc_all (fun cs ds R h => by obtain ⟨_, _, _, _, _, _, _, rfl, _⟩ := h; rfl) ?_
  rintro f cdv A outer s H E hr _ _ _ ⟨z, many, a, ok, hmany, hT, rfl, rfl, rfl⟩ F
  have hM := mi_run hT
  have hn10 : z.cks.length ≤ 10 := ok.net.1
  have hmm : z.m = z.cks.length + 1 := rfl
  have hm900 : ∀ g : Nat → Mi, (mdsF C z g).length ≤ 900 := fun g => by rw [mds_len]; omega
  have hMr : ∀ j, j ≤ many → ∀ p, p < z.m → OkMi (mdW (runW (rnC C z) j) p) := fun j hj p hp => hM j hj p hp
  have e00 : bxF C z (bxW (runW (rnC C z) 0)) = bxF C z (bxW (runW (rnC C z) 0)) := rfl
  -- boxes, deeds
  have hE0 : fixE (startE nmAll [.ref a, eTimes z.t0 z.t1 z.t2, .int many]) = true := rfl
  refine hs_parCh 4 5 rfl sc_all.nd (by decide) hE0 (Sub.refl _) (chs_cons hE0 (ch_lcL (i := 3) (ds := mdsF C z (mdW (runW (rnC C z) 0))) (R := rBx z.m [(a, .lst (mdsF C z (mdW (runW (rnC C z) 0))))]) (RelB [(a, .lst (mdsF C z (mdW (runW (rnC C z) 0))))]) rfl sc_all.nd hE0 (pd_var 0) (boxes_0 (a := a)) (hm900 _) (boxes_at (m0 := 0) rfl) (blkOk_by (N := nmAll) (sc := defScope (top 54)) (by decide +kernel)) boxes_e (by rw [mds_len]; exact boxes_R)) (fun d c hR => chs_one (ch_pl (pl_lst pds_nil) rfl))) ?_
  rintro ds c ⟨_, _, _, ⟨B0, bs, rfl, rfl⟩, ⟨_, ⟨Dd, rfl, rfl⟩, rfl⟩, rfl⟩
  refine ⟨_, _, rfl, hs_perm ?_ (perm_a _ _ _ _)⟩
  have hb0 : cellsF z.m bs (fun _ => []) = cellsF z.m bs (bxF C z (bxW (runW (rnC C z) 0))) := mapR_congr fun p hp => by
    have : bxW (runW (rnC C z) 0) p = [] := by unfold bxW; rw [run0_at hp]
    unfold bxF
    rw [this]; rfl
  rw [hb0]
  -- the ledger
  have hl0 : ((z.cks.map eChan).length : Int) = (z.cks.length : Nat) := by rw [List.length_map]
  refine hs_set 6 sc_all.nd (pd_nons (pd_tup (pds_cons pd_non pds_nil)) (PD.to (pd_lenT B.len (pd_ixT (pd_ixL (pd_clst le_lk 0 (pd_var 0) rfl) pd_int (atI_nat (j := 0) (mds_at (by omega)))) pd_int)) (congrArg D.int hl0)) ok.l2 (by omega)) ?_
  let led : D := .tup (List.replicate z.cks.length .non)
  let lapC : Nat → Addr → (Nat → Addr) → Addr → Cs := fun j B0 bs Dd => (a, .lst (mdsF C z (mdW (runW (rnC C z) j)))) :: (Dd, .lst []) :: (B0, .lst (refsF z.m bs)) :: cellsF z.m bs (bxF C z (bxW (runW (rnC C z) j)))
  have hfl : led.fix = true := D.tk_fix (tk_led (okPn_C (C := C) (p := 0) ok (by omega))).1
  refine hs_nxX (h_forRX (ι := Addr × (Nat → Addr) × Addr) (n := many) (G := fun j t => Lk F (lapC j t.1 t.2.1 t.2.2)) (Ev := fun j t => [some (.ref a), some (eTimes z.t0 z.t1 z.t2), some (.int many), none, some (.ref t.1), some (.ref t.2.2), some led, none, none, none, none, none, none, none])
    (Eb := fun j t => [some (.ref a), some (eTimes z.t0 z.t1 z.t2), some (.int many), none, some (.ref t.1), some (.ref t.2.2), some led, some (.int (j : Nat)), none, none, none, none, none, none]) PassesOwn.never rfl B.rng (pd_var 2) (by omega) (B0, bs, Dd) (fun _ h => h) rfl (fun j t hj => pgd_name 7 sc_all.nd) (fun j t hj => ?_)) (fun t => ?_)
  · obtain ⟨B0, bs, Dd⟩ := t
    have hMj := hMr j (by omega)
    have hE1 : fixE [some (.ref a), some (eTimes z.t0 z.t1 z.t2), some (.int many), none, some (.ref B0), some (.ref Dd), some led, some (.int (j : Nat)), none, none, none, none, none, none] = true := fixE_of (.cons rfl (.cons rfl (.cons rfl (.non (.cons rfl (.cons rfl (.cons hfl (.cons rfl (.non (.non (.non (.non (.non (.non .nil))))))))))))))
    refine hs_setLcX (iz := 8) (i := 3) (ds := mdsF C z (mdW (runW (rnC C z) j))) (R := rBx z.m (lapC j B0 bs Dd)) (RelB (lapC j B0 bs Dd)) rfl sc_all.nd hE1 (pd_var 0) (boxes_0 (a := a)) (hm900 _) (boxes_at (m0 := 0) rfl) (blkOk_by (N := nmAll) (sc := defScope (top 54)) (by decide +kernel)) boxes_e (by rw [mds_len]; exact boxes_R) hE1 (Sub.refl _) ?_
    rintro d c ⟨N, ns, rfl, rfl⟩
    refine hs_perm (hs_split ?_) (perm_b _ _ _ _ _ _)
    let Fb : Asr := Lk F ((B0, .lst (refsF z.m bs)) :: cellsF z.m bs (bxF C z (bxW (runW (rnC C z) j))))
    let E2 : Addr → Ev := fun q => [some (.ref a), some (eTimes z.t0 z.t1 z.t2), some (.int many), none, some (.ref B0), some (.ref q), some led, some (.int (j : Nat)), some (.ref N), none, none, none, none, none]
    have hc0 : ((a, Co.lst (mdsF C z (mdK (rnC C z) j 0))) :: (Dd, Co.lst []) :: (N, Co.lst (refsF z.m ns)) :: cellsF z.m ns (bxF C z (nxF (rnC C z) j 0))) = (a, Co.lst (mdsF C z (mdW (runW (rnC C z) j)))) :: (Dd, Co.lst []) :: (N, Co.lst (refsF z.m ns)) :: cellsF z.m ns (fun _ => []) := by
      rw [mdK_zero]; rfl
    have hat : ∀ {k : Nat} {d : D}, (mdsF C z (mdW (runW (rnC C z) j)))[k]? = some d → k < z.m ∧ d = eMind (pnC C z k) (mdW (runW (rnC C z) j) k) := fun {k d} hd => by
      have hk : k < z.m := by
        have := (List.getElem?_eq_some_iff.mp hd).1
        rwa [mds_len] at this
      rw [mds_at hk] at hd
      exact ⟨hk, (Option.some.inj hd).symm⟩
    refine hs_nxX (h_forEN (ι := Addr) (F := Fb) (ds := mdsF C z (mdW (runW (rnC C z) j))) (cc := fun k q => (a, .lst (mdsF C z (mdK (rnC C z) j k))) :: (q, .lst []) :: (N, .lst (refsF z.m ns)) :: cellsF z.m ns (bxF C z (nxF (rnC C z) j k)))
      (Ev := fun k q => E2 q) (Eb := fun k q => [some (.ref a), some (eTimes z.t0 z.t1 z.t2), some (.int many), some (eMind (pnC C z k) (mdW (runW (rnC C z) j) k)), some (.ref B0), some (.ref q), some led, some (.int (j : Nat)), some (.ref N), some (.int (k : Nat)), none, none, none, none]) PassesOwn.never rfl B.enu (pl_listL B.lst (pd_clst le_lk 0 (pd_var 0) rfl)) (mds_fix ok hMj) Dd hc0 rfl (fun G hG k q d hd => ?_) (fun G hG k q d hd => ?_)) (fun q => ?_)
    · obtain ⟨hk, rfl⟩ := hat hd
      exact pgd_tup rfl (pgsd_cons (pgd_name 9 sc_all.nd) (pgsd_cons (pgd_name 3 sc_all.nd) pgsd_nil))
    · obtain ⟨hk, rfl⟩ := hat hd
      have OP := okP_of (hT j hj) hk
      have okn := okPn_C (C := C) ok hk
      have fMk : (eMind (pnC C z k) (mdW (runW (rnC C z) j) k)).fix = true := D.tk_fix (tk_mind okn rfl (hMj k hk)).1
      have fQ : (eMind (pnC C z k) (qW (rnC C z) j k).1).fix = true := D.tk_fix (tk_mind okn rfl (sane_mi OP.sane)).1
      have fL : fixL ((qW (rnC C z) j k).2.map (eSent (pnC C z k))) = true := fixL_sent okn _
      have hmul : CMul (j : Int) z.t1 := .inl ⟨by omega, by omega⟩
      have hB0 : ∀ cs : Cs, Has (Lk G cs) B0 (refsF z.m bs) := fun cs => has_lk (has_le (has_at (i := 0) rfl) hG)
      have hBk : ∀ cs : Cs, Has (Lk G cs) (bs k) (bxF C z (bxW (runW (rnC C z) j)) k) := fun cs => has_lk (has_le (has_at (i := k + 1) (cells_at hk)) hG)
      let E3 : Ev := [some (.ref a), some (eTimes z.t0 z.t1 z.t2), some (.int many), some (eMind (pnC C z k) (mdW (runW (rnC C z) j) k)), some (.ref B0), some (.ref q), some led, some (.int (j : Nat)), some (.ref N), some (.int (k : Nat)), none, none, none, none]
      have hE3 : fixE E3 = true := fixE_of (.cons rfl (.cons rfl (.cons rfl (.cons fMk (.cons rfl (.cons rfl (.cons hfl (.cons rfl (.cons rfl (.cons rfl (.non (.non (.non (.non .nil))))))))))))))
      refine hs_asg3 (env' := E3) (d := eMind (pnC C z k) (qW (rnC C z) j k).1) (d2 := .tup []) (d3 := .tup ((qW (rnC C z) j k).2.map (eSent (pnC C z k)))) 10 11 rfl sc_all.nd
        (pd_call ca pass0 hr (by decide) (pds_cons (pd_var 3) (pds_cons (pd_mul (pd_var 7) (pd_ixT (pd_var 1) pd_int) (hmul)) (pds_cons (pd_var 6) (pds_cons (pd_tupleL B.tup (pd_has (hBk _) (pd_ixL (pd_has (hB0 _) (pd_var 4)) (pd_var 9) (refs_at hk)))) pds_nil)))) ⟨pnC C z k, _, mdW (runW (rnC C z) j) k, bxW (runW (rnC C z) j) k, rfl, okn, rfl, hMj k hk, OP.sane, OP.bl, rfl, rfl⟩)
        (by show ((eMind (pnC C z k) (qW (rnC C z) j k).1).fix && (true && (fixL ((qW (rnC C z) j k).2.map (eSent (pnC C z k))) && true))) = true; rw [fQ, fL]; rfl) hE3 (Sub.refl _) (pg_subL 0 k (pd_var 0) rfl (pd_var 9) (by rw [mds_len]; exact hk)) ?_
      have eS : (mdsF C z (mdK (rnC C z) j k)).set k (eMind (pnC C z k) (qW (rnC C z) j k).1) = mdsF C z (mdK (rnC C z) j (k + 1)) := by
        have e1 : mdK (rnC C z) j (k + 1) k = (qW (rnC C z) j k).1 := if_pos (Nat.lt_succ_self k)
        rw [← e1]
        exact mapR_set (fun p => eMind (pnC C z p) (mdK (rnC C z) j k p)) (fun p => eMind (pnC C z p) (mdK (rnC C z) j (k + 1) p)) hk fun p hp hne => by
          have : mdK (rnC C z) j (k + 1) p = mdK (rnC C z) j k p := by
            unfold mdK
            by_cases h : p < k
            · rw [if_pos h, if_pos (by omega)]
            · rw [if_neg h, if_neg (by omega)]
          show eMind _ _ = eMind _ _
          rw [this]
      show HS _ (Lk G ((a, Co.lst ((mdsF C z (mdK (rnC C z) j k)).set k (eMind (pnC C z k) (qW (rnC C z) j k).1))) :: (q, Co.lst []) :: (N, Co.lst (refsF z.m ns)) :: cellsF z.m ns (bxF C z (nxF (rnC C z) j k)))) _ _ _
      rw [eS]
      refine hs_setL (env' := E3) 5 1 sc_all.nd (pl_cat (pd_clst le_lk 1 (pd_var 5) rfl) (pd_listT B.lst (pd_var 10)) (zz rfl)) rfl (fun q2 => ?_)
      show HS _ (Lk G ((a, Co.lst (mdsF C z (mdK (rnC C z) j (k + 1)))) :: (q2, Co.lst []) :: (N, Co.lst (refsF z.m ns)) :: cellsF z.m ns (bxF C z (nxF (rnC C z) j k)))) _ _ _
      let E5 : Ev := [some (.ref a), some (eTimes z.t0 z.t1 z.t2), some (.int many), some (eMind (pnC C z k) (mdW (runW (rnC C z) j) k)), some (.ref B0), some (.ref q2), some led, some (.int (j : Nat)), some (.ref N), some (.int (k : Nat)), some (.tup []), some (.tup ((qW (rnC C z) j k).2.map (eSent (pnC C z k)))), none, none]
      have hlet : ∀ {i : Nat} {d : D}, ((qW (rnC C z) j k).2.map (eSent (pnC C z k)))[i]? = some d → ∃ y, (qW (rnC C z) j k).2[i]? = some y ∧ (qW (rnC C z) j k).2.getD i (true, .pass) = y ∧ d = .tup [.int (goesTo k y : Nat), eLt (pnC C z k) y.1 y.2] := fun {i d} hd => by
        rw [List.getElem?_map] at hd
        cases hq : (qW (rnC C z) j k).2[i]? with
        | none => rw [hq] at hd; cases hd
        | some y =>
          rw [hq] at hd
          cases hd
          refine ⟨y, rfl, by rw [List.getD_eq_getElem?_getD, hq]; rfl, ?_⟩
          show D.tup [.int ((pnC C z k).oth y.1 : Nat), _] = _
          rw [oth_goes]
      have hI0 : nxI (rnC C z) j k 0 = nxF (rnC C z) j k := funext fun p => nxI_zero _ _ _ _
      have hIl : nxI (rnC C z) j k ((qW (rnC C z) j k).2.map (eSent (pnC C z k))).length = nxF (rnC C z) j (k + 1) := funext fun p => by rw [List.length_map]; exact nxI_last _ _ _ _
      refine hs_nx (h_forTT (ds := (qW (rnC C z) j k).2.map (eSent (pnC C z k))) (cc := fun i => (a, .lst (mdsF C z (mdK (rnC C z) j (k + 1)))) :: (q2, .lst []) :: (N, .lst (refsF z.m ns)) :: cellsF z.m ns (bxF C z (nxI (rnC C z) j k i))) (Ev := fun _ => E5)
        (Eb := fun i => (E5.set 12 (some (.int (goesTo k ((qW (rnC C z) j k).2.getD i (true, .pass)) : Nat)))).set 13 (some (eLt (pnC C z k) ((qW (rnC C z) j k).2.getD i (true, .pass)).1 ((qW (rnC C z) j k).2.getD i (true, .pass)).2))) PassesOwn.never rfl (pd_var 11) fL (by rw [hI0]) rfl (fun G' i d hd => ?_) (fun G' i d hd => ?_)) ?_
      · obtain ⟨y, hy, hy2, rfl⟩ := hlet hd
        rw [hy2]
        exact pgd_tup rfl (pgsd_cons (pgd_name 12 sc_all.nd) (pgsd_cons (pgd_name 13 sc_all.nd) pgsd_nil))
      · obtain ⟨y, hy, hy2, rfl⟩ := hlet hd
        rw [hy2]
        obtain ⟨ht, hpos⟩ := goes_lt hk (OP.out y (List.mem_of_getElem? hy))
        have hE5 : fixE E5 = true := fixE_of (.cons rfl (.cons rfl (.cons rfl (.cons fMk (.cons rfl (.cons rfl (.cons hfl (.cons rfl (.cons rfl (.cons rfl (.cons rfl (.cons fL (.non (.non .nil))))))))))))))
        have hlen : (bxF C z (nxI (rnC C z) j k i) (goesTo k y)).length < 1000 := by
          unfold bxF nxI
          rw [List.length_map, List.length_append]
          have h1 := nxF_len (r := rnC C z) (j := j) (p := goesTo k y) k fun s hs => (okP_of (hT j hj) (show s < (rnC C z).n + 1 by have : k < z.cks.length + 1 := hk; show s < z.cks.length + 1; omega)).ol
          have h2 := con_len k (goesTo k y) ((qW (rnC C z) j k).2.take i)
          have h3 := OP.ol
          rw [List.length_take] at h2
          omega
        refine hs_capp (env2 := E5) (goesTo k y + 3) (pd_ixL (pd_clst le_lk 2 (pd_var 8) rfl) (pd_var 12) (refs_at ht)) (cells_at ht) (d := .tup [.int (k : Nat), eLt (pnC C z k) y.1 y.2]) (pd_tup (pds_cons (pd_var 9) (pds_cons (pd_var 13) pds_nil))) (by show (true && ((eLt (pnC C z k) y.1 y.2).fix && true)) = true; rw [eLt_fix okn]; rfl) hlen (.same (.same (.same (.same (.same (.same (.same (.same (.same (.same (.same (.same (.skip (.skip .nil)))))))))))))) hE5 ?_
        have eL : (cellsF z.m ns (bxF C z (nxI (rnC C z) j k i))).set (goesTo k y) (ns (goesTo k y), .lst (bxF C z (nxI (rnC C z) j k i) (goesTo k y) ++ [.tup [.int (k : Nat), eLt (pnC C z k) y.1 y.2]])) = cellsF z.m ns (bxF C z (nxI (rnC C z) j k (i + 1))) := by
          have e1 : bxF C z (nxI (rnC C z) j k (i + 1)) (goesTo k y) = bxF C z (nxI (rnC C z) j k i) (goesTo k y) ++ [.tup [.int (k : Nat), eLt (pnC C z k) y.1 y.2]] := by
            unfold bxF
            rw [nxI_succ hy, con_one hpos, if_pos rfl, List.map_append, letter_box (C := C) (z := z) hpos]; rfl
          rw [← e1]
          exact mapR_set (fun p => (ns p, Co.lst (bxF C z (nxI (rnC C z) j k i) p))) (fun p => (ns p, Co.lst (bxF C z (nxI (rnC C z) j k (i + 1)) p))) ht fun p hp hne => by
            have : bxF C z (nxI (rnC C z) j k (i + 1)) p = bxF C z (nxI (rnC C z) j k i) p := by
              unfold bxF
              rw [nxI_succ hy, con_one hpos, if_neg hne, List.append_nil]
            show (ns p, Co.lst _) = (ns p, Co.lst _)
            rw [this]
        show HS _ (Lk G' ((a, Co.lst (mdsF C z (mdK (rnC C z) j (k + 1)))) :: (q2, Co.lst []) :: (N, Co.lst (refsF z.m ns)) :: (cellsF z.m ns (bxF C z (nxI (rnC C z) j k i))).set (goesTo k y) (ns (goesTo k y), Co.lst (bxF C z (nxI (rnC C z) j k i) (goesTo k y) ++ [.tup [.int (k : Nat), eLt (pnC C z k) y.1 y.2]])))) _ _ _
        rw [eL]
        exact hs_end.wk (fun _ h => h) (fun _ h => h.1)
      · rw [hIl]
        exact hs_endX q2 (fun _ h => h) (.same (.same (.same (.skip (.same (.same (.same (.same (.same (.skip (.skip (.skip (.same (.same .nil))))))))))))))
    · rw [mds_len]
      refine hs_set 4 sc_all.nd (pd_var 8) (hs_endX (N, ns, q) (fun H' hL => ?_) (.same (.same (.same (.same (.same (.same (.same (.skip (.skip (.same (.same (.same (.same (.same .nil)))))))))))))))
      have h1 : LkP F _ H' := LkP.frm hL fun _ h => LkP.le h
      have e1 : mdsF C z (mdK (rnC C z) j z.m) = mdsF C z (mdW (runW (rnC C z) (j + 1))) := mapR_congr fun p hp => by
        have e2 : mdK (rnC C z) j z.m p = mdW (runW (rnC C z) (j + 1)) p := by
          unfold mdK mdW
          rw [if_pos hp, run_at hp]
        rw [e2]
      have e3 : cellsF z.m ns (bxF C z (nxF (rnC C z) j z.m)) = cellsF z.m ns (bxF C z (bxW (runW (rnC C z) (j + 1)))) := mapR_congr fun p hp => by
        have e2 : nxF (rnC C z) j z.m p = bxW (runW (rnC C z) (j + 1)) p := by
          unfold bxW
          rw [run_at hp]; rfl
        unfold bxF
        rw [e2]
      rw [e1, e3] at h1
      exact h1
  · obtain ⟨B1, b1, q⟩ := t
    refine HS.wk (I := Lk F [(a, .lst (mdsF C z (mdW (runW (rnC C z) many)))), (q, .lst [])]) (hs_retW (ch_to (ch_pd (pd_tup (pds_cons (pd_var 0) (pds_cons (pd_var 5) pds_nil))) rfl) ?_)) (fun H' hL => LkP.drop (c1 := [(a, .lst (mdsF C z (mdW (runW (rnC C z) many)))), (q, .lst [])]) (c2 := (B1, .lst (refsF z.m b1)) :: cellsF z.m b1 (bxF C z (bxW (runW (rnC C z) many)))) hL) (fun _ h => h)
    rintro d c ⟨rfl, rfl⟩
    exact ⟨q, rfl, rfl⟩
end
end Sd
namespace Sd
open PySem PySem.Spec PyProof.Rows L2
/-! ### (x, y)[::-1] -/
section
variable {prog : Program} {w : World} {A : Around} {E : Value → Shared → Prop} {s : Shared}
theorem back_adjust : Builtin.Slice.sliceAdjust none none (-1) 2 = (1, -1) := by decide +kernel
theorem back_places : Builtin.Slice.slicePlaces 1 (-1) (-1) = 2 := by decide +kernel
theorem back_parts {sl : Addr} {tk : Tok} {Q : Int × Int × Nat → Shared → Prop} (hs : s.heap.IsSliceOf sl .none .none (.int (-1) tk)) (h : Q (1, -1, 2) s) : wpAny (model prog w) A (Builtin.Slice.sliceApplied (.ref sl) (pure (2 : Int))) Q E s := by
  obtain ⟨o3, ho3, hc3, hd3⟩ := id hs; unfold Builtin.Slice.sliceApplied Builtin.Slice.sliceFields
  refine wpAny_bind (wpAny_bind (wpAny_field ho3 hd3 (x := .none) rfl (wpAny_bind (wpAny_field ho3 hd3 (x := .none) rfl (wpAny_bind (wpAny_field ho3 hd3 (x := .int (-1) tk) rfl (wpAny_pure ?_)))))))
  refine wpAny_bind (HT.slicePart_ (IsPart.int (-1) tk) ?_); show wpAny _ _ (if ((-1 : Int) == 0) = true then _ else _) _ _ s; rw [if_neg (by decide)]
  refine wpAny_bind (HT.slicePart_ .none (wpAny_bind (HT.slicePart_ .none (wpAny_bind (wpAny_pure ?_)))))
  show wpAny _ _ (match Builtin.Slice.sliceAdjust none none (-1) 2 with | (lo, hi) => pure (lo, (-1 : Int), Builtin.Slice.slicePlaces lo hi (-1))) _ _ s
  rw [back_adjust]
  show wpAny _ _ (pure ((1 : Int), (-1 : Int), Builtin.Slice.slicePlaces 1 (-1) (-1))) _ _ s
  rw [back_places]; exact wpAny_pure h
theorem back_item {t sl : Addr} {u v : Value} {tk : Tok} {Q : Value → Shared → Prop} (ht : IsTup s.heap t #[u, v]) (hs : s.heap.IsSliceOf sl .none .none (.int (-1) tk))
    (h : Q (.ref s.heap.objs.size) { s with heap := s.heap.push { cls := .type "tuple", data := .seq #[v, u] } }) : wpAny (model prog w) A (getItem (.ref t) (.ref sl)) Q E s := by
  obtain ⟨o3, ho3, hc3, hd3⟩ := id hs
  have hT3 : s.TypeIs (.ref sl) "slice" := ⟨o3, ho3, hc3⟩
  unfold getItem; (try with_reducible refine wpAny_holding ?_); (first | refine wpAny_bind (wpAny_pure ?_) | skip)
  refine wpAny_bind (wpAny_sequenceKey ht.typeIs (by decide) ?_); refine wpAny_bind (wpAny_callSpecial?_slot (name := Str.ofString "__getitem__") ht.typeIs PyProof.Rows.slot_tuple_getitem (wpAny_call_entry PyProof.Rows.slot_tuple_getitem ht.typeIs entry_tuple_getitem ?_ (args_tuple_getitem _ _)))
  show wpAny _ _ (Builtin.Tuple.tupleItemsOf (.ref t) >>= _) _ _ s; refine wpAny_bind (tupleItemsOf_ ht ?_); refine wpAny_bind (wpAny_typeOf hT3 ?_); rw [if_pos (by decide)]
  refine wpAny_bind (back_parts hs ?_)
  have hno : ¬ (((1 : Int) == 0 && (-1 : Int) == 1 && (2 : Nat) == (#[u, v] : Array Value).size) = true) := fun q => Bool.false_ne_true q
  show wpAny _ _ (if ((1 : Int) == 0 && (-1 : Int) == 1 && (2 : Nat) == (#[u, v] : Array Value).size) = true then _ else _) _ _ s
  rw [if_neg hno]
  have he : ((List.range 2).filterMap fun (k : Nat) => (#[u, v] : Array Value)[((1 : Int) + (k : Int) * (-1)).toNat]?).toArray = #[v, u] := rfl
  show wpAny _ _ (Builtin.Tuple.tupleExact ((List.range 2).filterMap fun (k : Nat) => (#[u, v] : Array Value)[((1 : Int) + (k : Int) * (-1)).toNat]?).toArray >>= _) _ _ s
  rw [he]
  have hz : sizeOk (.seq #[v, u]) := by show 2 ≤ sizeLine; rw [sizeLine_eq]; decide
  first
    | exact wpAny_bind (m := Builtin.Tuple.tupleExact _) (wpAny_newObj_type (wpAny_pure ⟨_, rfl, wpAny_pure h⟩) hz)
    | exact wpAny_bind (m := Builtin.Tuple.tupleExact _) (wpAny_newObj_type (wpAny_bind (wpAny_pure (wpAny_pure ⟨_, rfl, wpAny_pure h⟩))) hz)
    | exact wpAny_bind (wpAny_bind (m := Builtin.Tuple.tupleExact _) (wpAny_newObj_type (wpAny_pure (wpAny_pure ⟨_, rfl, wpAny_pure h⟩)) hz))
    | exact wpAny_bind (wpAny_bind (m := Builtin.Tuple.tupleExact _) (wpAny_newObj_type (wpAny_pure ⟨_, rfl, wpAny_pure h⟩) hz))
end
section
variable {X : Cx} {I : Asr} {env : Ev} {e : Expr} {d1 d2 : D}
def tBack (K : PySem.W.Frag) (te : TE) : TE := fun σ H Q => te σ H fun x H1 => ∃ a y z, x = .ref a ∧ SqT K H1 a [y, z] ∧ ∀ p, H1 p = none → Q (.ref p) (upd H1 p (.tup [z, y]))
theorem pe_back {te : TE} {k : Nat} {p1 p2 p3 pos : Pos} (he : PE X e te) : PE X (.Subscript e (.Slice none none (some (.UnaryOp .USub (.Constant (.int 1) k p1) p2)) p3) pos) (tBack X.K te) := by
  refine ⟨fun pins s σ H Q I h => Subscript_ (thn (he.run pins s σ H _ I h) fun v s1 ⟨x, H1, I1, r1, q1⟩ => ?_)⟩
  obtain ⟨a, y, z, ex, hx, q⟩ := q1; subst ex; cases r1
  have hst : PO X (some (.UnaryOp .USub (.Constant (.int 1) k p1) p2)) (tPart (tUn (rU fun i => .int (-i)) (tC (.int 1)))) := po_some (pe_un un_neg pe_int)
  refine wpAny_Slice (thn (po_none.run pins s1 σ H1 (fun o H2 => o = none ∧ H2 = H1) I1 ⟨rfl, rfl⟩) fun vl s2 ⟨l, H2, I2, pl, el, e2⟩ => ?_); subst el e2
  refine thn (po_none.run pins s2 σ H2 (fun o H3 => o = none ∧ H3 = H2) I2 ⟨rfl, rfl⟩) fun vu s3 ⟨u, H3, I3, pu, eu, e3⟩ => ?_; subst eu e3
  refine thn (hst.run pins s3 σ H3 (fun o H4 => o = some (-1) ∧ H4 = H3) I3 ⟨1, rfl, -1, rfl, rfl, rfl⟩) fun vs s4 ⟨o, H4, I4, ps, eo, e4⟩ => ?_; subst eo e4
  cases pl; cases pu; cases ps with | int i tk => ?_
  have I5 : Inv X pins σ H4 { s4 with heap := s4.heap.push { cls := .type "slice", data := .fields #[.none, .none, .int (-1) tk] } } := I4.kept (t' := s4.toks) fun b ob q => Heap.get?_push_of_some _ q
  obtain ⟨its, r, ht, hz⟩ := I5.tuple hx
  obtain ⟨u, v, rfl, ru, rv⟩ : ∃ u v, its = [u, v] ∧ RelV y u ∧ RelV z v := by
    cases r with
    | cons h1 r => cases r with
      | cons h2 r => cases r; exact ⟨_, _, rfl, h1, h2⟩
  show wpAny (model X.prog X.w) X.A (subscriptTail e (.Slice none none (some (.UnaryOp .USub (.Constant (.int 1) k p1) p2)) p3) (.ref a) (.ref s4.heap.objs.size)) (EP X pins σ Q) X.xe _
  refine tail_any (ops := [.ref a, .ref s4.heap.objs.size]) ht.typeIs (PyProof.Rows.slot_tuple_getitem.lookup) ?_ (by with_unfolding_all rfl)
  refine back_item (tk := tk) ht (Heap.IsSliceOf.new _ _ _ _) ?_
  refine ⟨.ref _, _, I5.laid (t' := s4.toks) (o := .tup [z, y]) (fun b ob q => Heap.get?_push_of_some _ q) (Nat.le_refl _) ?_, rfl, q _ (I5.hok.fresh (Nat.le_refl _))⟩
  exact ⟨by show 2 ≤ sizeLine; rw [sizeLine_eq]; decide, [v, u], .cons rv (.cons ru .nil), IsTup.new _ _⟩
theorem pd_back {k : Nat} {p1 p2 p3 pos : Pos} (he : PD X I env e (.tup [d1, d2])) : PD X I env (.Subscript e (.Slice none none (some (.UnaryOp .USub (.Constant (.int 1) k p1) p2)) p3) pos) (.tup [d2, d1]) :=
  (pe_back he).wk fun σ H Q ⟨hI, hE, k⟩ => ⟨hI, hE, fun x H1 s1 r1 => by
    obtain ⟨q, ys, e2, hq, hl⟩ := r1.tup_inv
    obtain ⟨u, v, e3, ru, rv⟩ := hl.two
    subst e3
    refine ⟨q, u, v, e2, SqT.of hq, fun p hp => k _ _ (s1.trans (Same.new hp)) (Rep.tup_new hp ?_)⟩
    unfold RepL
    refine ⟨_, _, rfl, rv, ?_⟩
    unfold RepL
    exact ⟨_, _, rfl, ru, rfl⟩⟩
/-- tuple(range(n)) -/
theorem rg_rep {H : Hp} : ∀ n : Nat, RepL H ((List.range n).map fun i => D.int (i : Nat)) ((List.range n).map fun i => V.int ((0 : Int) + (i : Nat)))
  | 0 => rfl
  | n + 1 => by
    rw [List.range_succ, List.map_append, List.map_append]
    refine (rg_rep n).append ?_
    show RepL H [D.int (n : Nat)] [V.int ((0 : Int) + (n : Nat))]
    rw [Int.zero_add]
    unfold RepL
    exact ⟨_, [], rfl, rfl, rfl⟩
theorem pd_tupRg {n : Nat} {p pp rp pos : Pos} {ea : Expr} (hc : X.calm = true) (hm : X.mg "tuple" = none) (hr : X.mg "range" = none) (ha : PD X I env ea (.int n)) (hn : n ≤ 1000) (hg : Gl X "tuple" := by rfl) (hg2 : Gl X "range" := by rfl) (h1 : starEach [ea] X.env = (false, eval ea X.env) :: starEach [] X.env := by rfl)
    (h2 : starEach [.Call (.Name "range" pp) [ea] [] rp] X.env = (false, eval (.Call (.Name "range" pp) [ea] [] rp) X.env) :: starEach [] X.env := by rfl) : PD X I env (.Call (.Name "tuple" p) [.Call (.Name "range" pp) [ea] [] rp] [] pos) (.tup ((List.range n).map fun i => .int (i : Nat))) :=
  (pe_tupRg hc hg hm (prg_1 hg2 hr ha h1) h2).wk fun σ H Q ⟨hI, hE, k⟩ => ⟨hI, hE, fun x H1 s1 r1 => ⟨n, r1, RgOk.of_le (by omega) (by omega) (by omega) (by omega), fun q hq => k _ _ (s1.trans (Same.new hq)) (Rep.tup_new hq (by
    unfold rgV
    have e : ((n : Int) - 0).toNat = n := by omega
    rw [e]
    exact rg_rep n))⟩⟩
end
end Sd
namespace Sd
open PySem L2
section
variable {X : Cx} {I F : Asr} {cs : Cs} {env : Ev} {es : List Expr} {ds : List D} {e tg : Expr}
theorem chs_pds (h : PDs X (Lk F cs) env es ds) (hf : fixL ds = true) : PChs X F cs env es (rIsL ds cs) := h.wk fun σ H Q ⟨hI, hE, k⟩ => ⟨hI, hE, fun v H' s r => k v H' ds cs ⟨rfl, rfl⟩ ((Lk F cs).mono s hI) r hf (Tr.of s)⟩
theorem wk_tup {K : PySem.W.Frag} {q : Addr} {xs : List V} (hl : xs.length = ds.length) : Wk ds (Itt K q) (fun H => H q = some (.tup xs) ∧ RepL H ds xs) :=
  ⟨fun H H' s h => ⟨s _ _ h.1, h.2.mono s⟩, by
    rw [← hl]
    refine (walk_tup (K := K) (a := q) (xs := xs)).mono (fun H h => SqT.of h.1) (fun i H x H' _ hG y => ?_)
    obtain ⟨eH, hx⟩ := y
    subst eH
    refine ⟨Same.refl _, fun d hd => ?_⟩
    obtain ⟨y, hy, ry⟩ := hG.2.get hd
    rw [hx] at hy
    cases hy
    exact ry⟩
theorem pit_tup (hi : PD X I env e (.tup ds)) : PIt X I env tg e ds := (pi_tup hi).wk fun σ H R ⟨hI, hE, k⟩ => ⟨hI, hE, fun x H1 s1 r1 => by
  obtain ⟨q, xs, e2, hq, hl⟩ := r1.tup_inv
  exact ⟨q, e2, ⟨xs, SqT.of hq⟩, k _ _ H1 s1 ⟨hq, hl⟩ (wk_tup hl.length)⟩⟩
end
theorem least_of : ∀ ns : List Int, 0 < ns.length → ∃ m, m ∈ ns ∧ ∀ y ∈ ns, m ≤ y
  | [x], _ => ⟨x, List.mem_cons_self, fun y hy => by simp at hy; omega⟩
  | x :: y :: r, _ => by
    obtain ⟨m, hm, hl⟩ := least_of (y :: r) (Nat.zero_lt_succ _)
    by_cases h : x ≤ m
    · exact ⟨x, List.mem_cons_self, fun u hu => by
        rcases List.mem_cons.mp hu with rfl | hu
        · exact Int.le_refl _
        · exact Int.le_trans h (hl u hu)⟩
    · exact ⟨m, List.mem_cons_of_mem _ hm, fun u hu => by
        rcases List.mem_cons.mp hu with rfl | hu
        · omega
        · exact hl u hu⟩
theorem held_o {n : Pn} (ok : OkPn n) {x : Mi} {o : Bool} {i : Nat} (ho : o ∈ n.pls) (hk : n.key o = i) : heldD n x i = eSheet (n.ck o) (x.bk o).num (x.bk o).ph := by
  subst hk
  have h1 := getA_dmap n (fun o => eSheet (n.ck o) (x.bk o).num (x.bk o).ph) (n.key o)
  rw [get_dmap ok ho] at h1
  unfold heldD
  cases hq : n.pls.find? fun o' => decide (n.key o' = n.key o) with
  | none => rw [hq] at h1; cases h1
  | some o' => rw [hq] at h1; exact (Option.some.inj h1).symm
/-- paid in full -/
def Cse.full (z : Cse) : Bool := match z.ask with
  | none => false
  | some x => decide (x ≤ z.am) && z.cks.all fun c => decide (z.am ≤ c.sp)
def phF (full : Bool) : Ph := if full then .pd else .st
theorem end_of {n : Nat} {full : Bool} {w : Wo} (h : okEnd2 n full w = true) : (∀ k, k < n → (mdW w k).bo.ph = phF full ∧ (mdW w (k + 1)).bi.ph = phF full) ∧ (mdW w 0).sec = full := by
  unfold okEnd2 at h
  rw [Bool.and_eq_true] at h
  refine ⟨fun k hk => ?_, eq_of_beq h.2⟩
  have h1 := List.all_eq_true.mp h.1 k (List.mem_range.mpr hk)
  rw [Bool.and_eq_true] at h1
  exact ⟨eqb_ph.mp h1.1, eqb_ph.mp h1.2⟩
def dueP (c : Ck) (full : Bool) : Int := if full then c.sp - c.a else c.sp
def dueO (c : Ck) (full : Bool) : Int := if full then c.so + c.a else c.so
theorem sums_due (c : Ck) (full : Bool) : eSums c (phF full) = two c.fl (dueP c full) (dueO c full) ∧ eLocks c (phF full) = .tup [] := by cases full <;> exact ⟨rfl, rfl⟩
theorem two_ti (fl : Bool) (x y : Int) : D.ti (.tup [two fl x y, .tup []]) = true ∧ D.dep (.tup [two fl x y, .tup []]) ≤ 3 := by cases fl <;> exact ⟨rfl, Nat.le_of_ble_eq_true rfl⟩
section
variable {C : Addr} {z : Cse}
theorem held_pay {x : Mi} {k : Nat} {c : Ck} (ok : OkC z) (hc : z.cks[k]? = some c) : heldD (pnC C z k) x k = eSheet c x.bo.num x.bo.ph := by
  have hk := (List.getElem?_eq_some_iff.mp hc).1
  have okn := okPn_C (C := C) (z := z) (p := k) ok (show k < z.cks.length + 1 by omega)
  have ho : true ∈ (pnC C z k).pls := pls_of (.inr ⟨rfl, decide_eq_true hk⟩)
  have h1 := ck_in okn ho
  have h2 : (pnC C z k).ck true = c := by
    show z.cks.getD k ck0 = c
    rw [List.getD_eq_getElem?_getD, hc]; rfl
  rw [held_o okn ho (show (pnC C z k).key true = k from h1.2), h2]; rfl
theorem held_get {x : Mi} {k : Nat} {c : Ck} (ok : OkC z) (hc : z.cks[k]? = some c) : heldD (pnC C z (k + 1)) x k = eSheet c x.bi.num x.bi.ph := by
  have hk := (List.getElem?_eq_some_iff.mp hc).1
  have okn := okPn_C (C := C) (z := z) (p := k + 1) ok (show k + 1 < z.cks.length + 1 by omega)
  have ho : false ∈ (pnC C z (k + 1)).pls := pls_of (.inl ⟨rfl, decide_eq_true (Nat.succ_pos k)⟩)
  have h1 := ck_in okn ho
  have h2 : (pnC C z (k + 1)).ck false = c := by
    show z.cks.getD k ck0 = c
    rw [List.getD_eq_getElem?_getD, hc]; rfl
  rw [held_o okn ho (show (pnC C z (k + 1)).key false = k from h1.2), h2]; rfl
def S_paid (C : Addr) (cs : Cs) (ds : List D) (R : RN) : Prop := ∃ (z : Cse) (many : Nat) (q : Addr), OkC z ∧ many ≤ 1000 ∧ (∀ j, j < many → okT (rnC C z) (tms (rnC C z) j) (runW (rnC C z) j) = true) ∧ okEnd2 z.cks.length z.full (runW (rnC C z) many) = true ∧
  cs = [(q, .lst (z.cks.map eOwn))] ∧ ds = [.ref q, eTimes z.t0 z.t1 z.t2, .int z.am, oInt z.ask, .tup (enD z.cks 0), .int many] ∧ R = rIs (.bl true) cs
def nmPaid : List Str := ["_law_sums", "_law_times", "_law_amount", "_law_ask", "_law_ends", "_law_many", "_law_net", "_law_places", "_law_wish", "_law_minds", "_law_person", "_law_asks", "_law_deeds", "_law_own", "_law_full", "_law_place", "_law_due", "_law_sheet"]
theorem sc_paid : FnScope nmPaid ["_law_sums", "_law_times", "_law_amount", "_law_ask", "_law_ends", "_law_many"] (defScope (top 55)) := ⟨rfl, rfl, rfl, by decide +kernel, rfl, by decide +kernel, by decide +kernel⟩
theorem own_fix : ∀ l : List Ck, fixL (l.map eOwn) = true
  | [] => rfl
  | c :: l => by show (true && fixL (l.map eOwn)) = true; rw [own_fix l]; rfl
theorem en_fix (l : List Ck) (k : Nat) : fixL (enD l k) = true := by
  unfold enD
  generalize l.drop k = m
  induction m with
  | nil => rfl
  | cons c m ih => show (true && fixL (m.map fun c => D.int c.en)) = true; rw [ih]; rfl
theorem rt_range (ok : OkNet z.cks) : rtD z.cks 0 = (List.range z.cks.length).map fun i => D.int (i : Nat) := by
  unfold rtD
  rw [List.drop_zero]
  apply List.ext_getElem?
  intro i
  rw [List.getElem?_map, List.getElem?_map]
  by_cases h : i < z.cks.length
  · have hc := List.getElem?_eq_getElem h
    rw [hc, List.getElem?_range h]
    show some (D.int (z.cks[i].k : Nat)) = _
    rw [ok.2 i _ hc]; rfl
  · rw [List.getElem?_eq_none (by omega), List.getElem?_eq_none (by rw [List.length_range]; omega)]; rfl
end
end Sd
namespace Sd
open PySem L2
def fullO (am m : Int) : Option Int → Bool
  | none => false
  | some x => decide (x ≤ am) && decide (am ≤ m)
section
variable {X : Cx} {I : Asr} {env : Ev} {ea ea2 eb eb2 ec : Expr} {j : Nat} {p0 p1 p2 p3 pos : Pos} {am m : Int} {o : Option Int}
theorem pd_full (ha : PD X I env ea (oInt o)) (ha2 : PD X I env ea2 (oInt o)) (hb : PD X I env eb (.int am)) (hc : PD X I env ec (.int m)) (hb2 : PD X I env eb2 (.int am)) :
    PD X I env (.BoolOp .And [.Compare ea [.IsNot] [.Constant .none j p0] p1, .Compare ea2 [.LtE] [eb] p2, .Compare ec [.GtE] [eb2] p3] pos) (.bl (fullO am m o)) := by
  cases o with
  | none => exact pd_and0 (pd_notN ha)
  | some x =>
    by_cases h : x ≤ am
    · have e : (decide (x ≤ am) && decide (am ≤ m)) = decide (am ≤ m) := by rw [decide_eq_true h]; rfl
      show PD _ _ _ _ (.bl (decide (x ≤ am) && decide (am ≤ m)))
      rw [e]
      exact pd_and (pd_notN ha) (pd_and (pd_le ha2 hb (decide_eq_true h)) (pd_one (pd_ge hc hb2)))
    · have e : (decide (x ≤ am) && decide (am ≤ m)) = false := by rw [decide_eq_false h]; rfl
      show PD _ _ _ _ (.bl (decide (x ≤ am) && decide (am ≤ m)))
      rw [e]
      exact pd_and (pd_notN ha) (pd_and0 (pd_le ha2 hb (decide_eq_false h)))
end
section
variable {P : Program} {w : World} {K : PySem.W.Frag} {mg : Str → Option Value} {base : Heap} {C : Addr}
theorem ok_paid (B : Free mg) (Fd : FD K mg "_law_paid_right" (top 55) ["_law_sums", "_law_times", "_law_amount", "_law_ask", "_law_ends", "_law_many"]) (ct : Cal P w K mg base CX0 1 "_law_town_of" (spD S_town)) (cb : Cal P w K mg base CX0 13 "begun_mind" (spD S_bm)) (ca : Cal P w K mg base CX0 20 "_law_all_looks" (spW (S_all C)))
    (ck : Cal P w K mg base CX0 12 "known_by" (spD S_known)) (ch : Cal P w K mg base CX0 12 "held_by" (spD S_held)) (cs : Cal P w K mg base CX0 4 "_law_same" (spD (S_same 3))) : Cal P w K mg base CX0 21 "_law_paid_right" (spW (S_paid C)) := by
  refine cal_W Fd sc_paid (fun cs ds R h => by obtain ⟨_, _, _, _, _, _, _, _, rfl, _⟩ := h; rfl) ?_
  rintro f cdv A outer s H E hr _ _ _ ⟨z, many, q, ok, hmany, hT, hEnd, rfl, rfl, rfl⟩ F
  obtain ⟨hEk, hE0s⟩ := end_of hEnd
  have hn10 : z.cks.length ≤ 10 := ok.net.1
  have hl2 := ok.l2
  have hmm : z.m = z.cks.length + 1 := rfl
  have okp : ∀ p, p < z.m → OkPn (pnC C z p) := fun p hp => okPn_C ok hp
  have hMi : ∀ p, p < z.m → OkMi (mdW (runW (rnC C z) many) p) := fun p hp => mi_run hT many (Nat.le_refl _) p hp
  have fN : (eNet z.cks).fix = true := net_fix (okp 0 (by omega))
  have fW : (pnC C z 0).wsh.fix = true := D.tk_fix (tk_wish (okp 0 (by omega))).1
  have fA : (oInt z.ask).fix = true := by cases z.ask <;> rfl
  have fS := own_fix z.cks
  have fE : (D.tup (enD z.cks 0)).fix = true := en_fix z.cks 0
  have hle : ((z.cks.map eOwn).length : Int) = (z.cks.length : Nat) := by rw [List.length_map]
  have hE6 : ∀ a b : Option D, (∀ d, a = some d → d.fix = true) → (∀ d, b = some d → d.fix = true) → fixE [some (.ref q), some (eTimes z.t0 z.t1 z.t2), some (.int z.am), some (oInt z.ask), some (.tup (enD z.cks 0)), some (.int many), some (eNet z.cks), some (.int z.cks.length), some (pnC C z 0).wsh, a, none, none, b, none, none, none, none, none] = true := fun a b h1 h2 => by
    cases a with
    | none => cases b with
      | none => exact fixE_of (.cons rfl (.cons rfl (.cons rfl (.cons fA (.cons fE (.cons rfl (.cons fN (.cons rfl (.cons fW (.non (.non (.non (.non (.non (.non (.non (.non (.non .nil))))))))))))))))))
      | some y => exact fixE_of (.cons rfl (.cons rfl (.cons rfl (.cons fA (.cons fE (.cons rfl (.cons fN (.cons rfl (.cons fW (.non (.non (.non (.cons (h2 y rfl) (.non (.non (.non (.non (.non .nil))))))))))))))))))
    | some x => cases b with
      | none => exact fixE_of (.cons rfl (.cons rfl (.cons rfl (.cons fA (.cons fE (.cons rfl (.cons fN (.cons rfl (.cons fW (.cons (h1 x rfl) (.non (.non (.non (.non (.non (.non (.non (.non .nil))))))))))))))))))
      | some y => exact fixE_of (.cons rfl (.cons rfl (.cons rfl (.cons fA (.cons fE (.cons rfl (.cons fN (.cons rfl (.cons fW (.cons (h1 x rfl) (.non (.non (.cons (h2 y rfl) (.non (.non (.non (.non (.non .nil))))))))))))))))))
  -- the net, the wish, no minds
  refine hs_par 6 7 rfl sc_paid.nd (by decide) (pds_cons (pd_call ct pass0 hr (by decide) (pds_cons (pd_clst le_lk 0 (pd_var 0) rfl) pds_nil) ⟨z.cks, ok.net, rfl, rfl⟩) (pds_cons (PD.to (pd_lenL B.len (pd_clst le_lk 0 (pd_var 0) rfl)) (congrArg D.int hle)) pds_nil)) ?_
  refine hs_set 8 sc_paid.nd (pd_tup (pds_cons pd_int (pds_cons (pd_tup (pds_cons pd_str (pds_cons (PD.to (pd_tupRg rfl B.tup B.rng (pd_var 7) (by omega)) (congrArg D.tup (rt_range ok.net).symm)) (pds_cons (pd_var 2) (pds_cons (pd_tup (pds_cons pd_str (pds_cons pd_int pds_nil))) (pds_cons (pd_var 4) pds_nil)))))) pds_nil))) ?_
  let Ea : Option D → Option D → Option D → Ev := fun a b c => [some (.ref q), some (eTimes z.t0 z.t1 z.t2), some (.int z.am), some (oInt z.ask), some (.tup (enD z.cks 0)), some (.int many), some (eNet z.cks), some (.int z.cks.length), some (pnC C z 0).wsh, a, b, c, none, none, none, none, none, none]
  show HS _ _ (Ea none none none) _ _
  refine hs_setCh 9 sc_paid.nd (hE6 none none (fun _ h => nomatch h) (fun _ h => nomatch h)) (Sub.refl _) (ch_pl (pl_lst pds_nil) rfl) ?_
  rintro d c ⟨M, rfl, rfl⟩
  let m0L : Nat → List D := fun j => (List.range j).map fun p => eMind (pnC C z p) (m0 p)
  have hEM : fixE (Ea (some (.ref M)) none none) = true := hE6 _ none (fun _ h => by cases h; rfl) (fun _ h => nomatch h)
  show HS _ (Lk F [(q, Co.lst (z.cks.map eOwn)), (M, Co.lst (m0L 0))]) (Ea (some (.ref M)) none none) _ _
  have hnp : ((z.cks.length : Nat) : Int) + 1 = ((z.m : Nat) : Int) := by omega
  refine hs_nxX (h_forRX (ι := Unit) (n := z.m) (G := fun j _ => Lk F [(q, .lst (z.cks.map eOwn)), (M, .lst (m0L j))]) (Ev := fun _ _ => Ea (some (.ref M)) none none) (Eb := fun j _ => Ea (some (.ref M)) (some (.int (j : Nat))) none) PassesOwn.never rfl B.rng (PD.to (pd_add (pd_var 7) pd_int) (congrArg D.int hnp)) (by omega) () (fun _ h => h) rfl (fun j t hj => pgd_name 10 sc_paid.nd) (fun j t hj => ?_)) (fun t => ?_)
  · have okj := okp j hj
    have fAs : (D.tup (asksD (pnC C z j))).fix = true := asks_fix _
    refine hs_set (d := .tup (asksD (pnC C z j))) 11 sc_paid.nd ?_ ?_
    · by_cases hjn : j = z.cks.length
      · have e0 : (pnC C z j).ask = z.ask := if_pos hjn
        unfold asksD
        rw [e0]
        have e1 : D.eqb (.int (j : Nat)) (.int z.cks.length) = true := decide_eq_true (by omega)
        cases hask : z.ask with
        | none => exact pd_ifF (pb_w (pbw_and (pb_eq hr (pd_var 10) (pd_var 7) e1) (pbw_and1 (pb_notN (d := .non) (PD.to (pd_var 3) (congrArg oInt hask)))))) (pd_tup pds_nil)
        | some x => exact pd_ifT (pb_w (pbw_and (pb_eq hr (pd_var 10) (pd_var 7) e1) (pbw_and1 (pb_notN (d := .int x) (PD.to (pd_var 3) (congrArg oInt hask)))))) (pd_tup (pds_cons (pd_tup (pds_cons pd_int (pds_cons (PD.to (pd_var 3) (congrArg oInt hask)) pds_nil))) pds_nil))
      · have e0 : (pnC C z j).ask = none := if_neg hjn
        unfold asksD
        rw [e0]
        have e1 : D.eqb (.int (j : Nat)) (.int z.cks.length) = false := decide_eq_false (by omega)
        exact pd_ifF (pb_w (pbw_and0 (pb_eq hr (pd_var 10) (pd_var 7) e1))) (pd_tup pds_nil)
    · show HS _ _ (Ea (some (.ref M)) (some (.int (j : Nat))) (some (.tup (asksD (pnC C z j))))) _ _
      have hml : (m0L j).length < 1000 := by
        show ((List.range j).map _).length < 1000
        rw [List.length_map, List.length_range]; omega
      refine hs_capp (env2 := Ea (some (.ref M)) none none) 1 (pd_var 9) rfl (pd_call cb pass0 hr (by decide) (pds_cons (pd_var 6) (pds_cons (pd_var 1) (pds_cons (pd_var 10) (pds_cons (d := .tup (one (j == 0) (pnC C z j).wsh)) ?_ (pds_cons (pd_var 11) (pds_cons (pd_tup (pds_cons pd_int (pds_cons pd_int (pds_cons pd_int pds_nil)))) pds_nil)))))) ⟨pnC C z j, okj, rfl, rfl, rfl⟩) (D.tk_fix (tk_mind okj rfl ⟨Nat.zero_le _, Nat.zero_le _⟩).1) hml (.same (.same (.same (.same (.same (.same (.same (.same (.same (.same (.skip (.skip (.same (.same (.same (.same (.same (.same .nil)))))))))))))))))) hEM ?_
      · cases j with
        | zero => exact pd_ifT (pb_eq hr (pd_var 10) pd_int (by rfl)) (pd_tup (pds_cons (pd_var 8) pds_nil))
        | succ j =>
          have e2 : ¬ (((j + 1 : Nat) : Int) = 0) := by omega
          have e1 : D.eqb (.int ((j + 1 : Nat) : Int)) (.int 0) = false := by simp only [D.eqb, decide_eq_false e2]
          exact pd_ifF (pb_eq hr (pd_var 10) pd_int e1) (pd_tup pds_nil)
      · refine hs_endX () (fun H' hL => ?_) (Sub.refl _)
        have e : m0L (j + 1) = m0L j ++ [eMind (pnC C z j) (m0 (pnC C z j).p)] := by
          show (List.range (j + 1)).map _ = _
          rw [List.range_succ, List.map_append]; rfl
        show LkP F [(q, Co.lst (z.cks.map eOwn)), (M, Co.lst (m0L (j + 1)))] H'
        rw [e]
        exact hL
  -- all looks
  have hm0 : m0L z.m = mdsF C z (mdW (runW (rnC C z) 0)) := mapR_congr fun p hp => by
    have : mdW (runW (rnC C z) 0) p = m0 p := by unfold mdW; rw [run0_at hp]
    rw [this]
  let Eb : Addr → Option D → Ev := fun Dq fl => [some (.ref q), some (eTimes z.t0 z.t1 z.t2), some (.int z.am), some (oInt z.ask), some (.tup (enD z.cks 0)), some (.int many), some (eNet z.cks), some (.int z.cks.length), some (pnC C z 0).wsh, some (.ref M), none, none, some (.ref Dq), none, fl, none, none, none]
  let cF : Addr → Cs := fun Dq => [(M, .lst (mdsF C z (mdW (runW (rnC C z) many)))), (Dq, .lst []), (q, .lst (z.cks.map eOwn))]
  refine hs_asgCh (R := fun d c => ∃ Dq, d = .tup [.ref M, .ref Dq] ∧ c = cF Dq) (envs := fun d c => match d with | .tup [_, .ref Dq] => Eb Dq none | _ => []) hEM (ch_callR (RL := rIsL [.ref M, eTimes z.t0 z.t1 z.t2, .int many] _) ca hr (by decide) (chs_pds (pds_cons (pd_var 9) (pds_cons (pd_var 1) (pds_cons (pd_var 5) pds_nil))) rfl) ?_) ?_ ?_
  · rintro ds c ⟨rfl, rfl⟩
    refine ⟨[(M, .lst (m0L z.m))], [(q, .lst (z.cks.map eOwn))], _, List.Perm.swap _ _ _, ⟨z, many, M, ok, hmany, hT, by rw [hm0], rfl, rfl⟩, ?_⟩
    rintro d ca ⟨Dq, rfl, rfl⟩
    exact ⟨Dq, rfl, rfl⟩
  · rintro d c ⟨Dq, rfl, rfl⟩
    exact pgd_tup rfl (pgsd_cons (pgd_name 9 sc_paid.nd) (pgsd_cons (pgd_name 12 sc_paid.nd) pgsd_nil))
  rintro d c ⟨Dq, rfl, rfl⟩
  show HS _ (Lk F (cF Dq)) (Eb Dq none) _ _
  -- in full?
  obtain ⟨mn, hmem, hmin⟩ := least_of (z.cks.map fun c => c.sp) (by rw [List.length_map]; omega)
  have hfull : fullO z.am mn z.ask = z.full := by
    unfold Cse.full
    have e : (decide (z.am ≤ mn)) = z.cks.all fun c => decide (z.am ≤ c.sp) := by
      by_cases h : z.am ≤ mn
      · rw [decide_eq_true h]
        exact (List.all_eq_true.mpr fun c hc => decide_eq_true (Int.le_trans h (hmin c.sp (List.mem_map.mpr ⟨c, hc, rfl⟩)))).symm
      · rw [decide_eq_false h]
        obtain ⟨c, hc, e⟩ := List.mem_map.mp hmem
        refine (Bool.eq_false_iff.mpr fun hall => h ?_).symm
        have := of_decide_eq_true (List.all_eq_true.mp hall c hc)
        omega
    cases z.ask with
    | none => rfl
    | some x => show (decide (x ≤ z.am) && decide (z.am ≤ mn)) = _; rw [e]
  let spD1 : D → D := fun d => match d with | .tup (x :: _) => x | _ => .non
  have hcl : ∀ c : Ck, spD1 (eOwn c) = .int c.sp := fun _ => rfl
  refine hs_set 14 sc_paid.nd (PD.to (pd_full (pd_var 3) (pd_var 3) (pd_var 2) (pd_min (ns := z.cks.map fun c => c.sp) (m := mn) rfl B.min (PD.to (pd_lcNL (i := 13) (ds := z.cks.map eOwn) (keep := fun _ => true) (out := spD1) rfl sc_paid.nd (pd_clst le_lk 2 (pd_var 0) rfl) (blkOk_by (N := nmPaid) (sc := defScope (top 55)) (by decide +kernel)) (fun _ _ _ _ _ d hd => ptd_nil) (fun _ _ _ _ _ d hd _ => ?_) (fun d hd _ => ?_) (by rw [List.length_map, sizeLine_eq]; omega)) ?_) (by rw [List.length_map]; omega) (fun u hu hl => ?_)) (pd_var 2)) (congrArg D.bl hfull)) ?_
  · obtain ⟨c, _, rfl⟩ := List.mem_map.mp hd
    exact (pd_ixT (pd_var 13) pd_int)
  · obtain ⟨c, _, rfl⟩ := List.mem_map.mp hd
    rfl
  · rw [List.filter_eq_self.mpr (fun _ _ => rfl)]; simp only [List.map_map]; rfl
  · have h1 := hmin u hu
    have h2 := hl mn hmem
    omega
  show HS _ (Lk F (cF Dq)) (Eb Dq (some (.bl z.full))) _ _
  -- no deeds; the secret
  have hmd0 : atI (mdsF C z (mdW (runW (rnC C z) many))) ((0 : Nat) : Int) = some (eMind (pnC C z 0) (mdW (runW (rnC C z) many) 0)) := atI_nat (mds_at (by omega))
  have hin : ∀ b : Bool, inD (.int 7) (one b (.int 7)) = b := fun b => by cases b <;> rfl
  have hsh : ∀ b : Bool, D.shp (.tup (one b (.int 7))) = true := fun b => by cases b <;> rfl
  have hne : ∀ b : Bool, (!D.eqb (.bl b) (.bl b)) = false := fun b => by cases b <;> rfl
  refine hs_ifF (pb_w (pbw_or (pb_ne hr (pd_clst le_lk 1 (pd_var 12) rfl) (pd_lst pds_nil)) (pbw_or1 (pb_ne hr (pd_inT (q := z.full) hr pd_int (pd_call ck pass0 hr (by decide) (pds_cons (pd_ixL (pd_clst le_lk 0 (pd_var 9) rfl) pd_int hmd0) pds_nil) ⟨pnC C z 0, mdW (runW (rnC C z) many) 0, okp 0 (by omega), rfl, hMi 0 (by omega), rfl, rfl⟩) (by rw [hin]; exact hE0s) rfl (hsh _)) (pd_var 14) (hne _))))) ?_
  -- each channel
  refine hs_nx (h_forG (ds := enP (z.cks.map eOwn)) (Ev := fun _ => Eb Dq (some (.bl z.full))) (Eb := fun j => ((Eb Dq (some (.bl z.full))).set 15 (some (.int (j : Nat)))).set 13 (some (((z.cks.map eOwn)).getD j .non))) PassesOwn.never rfl (pit_enum B.enu (pd_clst le_lk 2 (pd_var 0) rfl)) rfl (fun J hJ j d hd => ?_) (fun J hJ j d hd => ?_)) ?_
  · obtain ⟨e, he, rfl⟩ := enP_get hd
    have : (z.cks.map eOwn).getD j .non = e := by rw [List.getD_eq_getElem?_getD, he]; rfl
    rw [this]
    exact pgd_tup rfl (pgsd_cons (pgd_name 15 sc_paid.nd) (pgsd_cons (pgd_name 13 sc_paid.nd) pgsd_nil))
  · obtain ⟨e, he, rfl⟩ := enP_get hd
    have e0 : (z.cks.map eOwn).getD j .non = e := by rw [List.getD_eq_getElem?_getD, he]; rfl
    rw [e0]
    obtain ⟨c, hc, rfl⟩ : ∃ c, z.cks[j]? = some c ∧ e = eOwn c := by
      rw [List.getElem?_map] at he
      cases hq : z.cks[j]? with
      | none => rw [hq] at he; cases he
      | some c => rw [hq] at he; cases he; exact ⟨c, rfl, rfl⟩
    have hj : j < z.cks.length := (List.getElem?_eq_some_iff.mp hc).1
    have hca : c.a = z.am := ok.am c (List.mem_of_getElem? hc)
    let Ec : Option D → Option D → Option D → Ev := fun pe du sh => [some (.ref q), some (eTimes z.t0 z.t1 z.t2), some (.int z.am), some (oInt z.ask), some (.tup (enD z.cks 0)), some (.int many), some (eNet z.cks), some (.int z.cks.length), some (pnC C z 0).wsh, some (.ref M), pe, none, some (.ref Dq), some (eOwn c), some (.bl z.full), some (.int (j : Nat)), du, sh]
    show HS _ J (Ec none none none) _ _
    refine hs_set (d := .tup [.int (dueP c z.full), .int (dueO c z.full)]) 16 sc_paid.nd ?_ ?_
    · cases hf : z.full with
      | true =>
        have e1 : dueP c true = c.sp - z.am := by rw [← hca]; rfl
        have e2 : dueO c true = c.so + z.am := by rw [← hca]; rfl
        rw [e1, e2]
        exact pd_ifT (PB.to (pb_val (pd_var 14)) hf) (pd_tup (pds_cons (pd_sub (pd_ixT (pd_var 13) pd_int) (pd_var 2)) (pds_cons (pd_add (pd_ixT (pd_var 13) pd_int) (pd_var 2)) pds_nil)))
      | false =>
        exact pd_ifF (PB.to (pb_val (pd_var 14)) hf) (PD.to (pd_slT (pd_var 13) pdo_none (pdo_some pd_int)) (show D.tup (cutD [.int c.sp, .int c.so, .int (if c.fl then 1 else 0)] none (some 2)) = .tup [.int (dueP c false), .int (dueO c false)] from rfl))
    show HS _ J (Ec none (some (.tup [.int (dueP c z.full), .int (dueO c z.full)])) none) _ _
    refine hs_set (d := two c.fl (dueP c z.full) (dueO c z.full)) 16 sc_paid.nd ?_ ?_
    · cases hf : c.fl with
      | false =>
        have e1 : D.eqb (.int (if c.fl then 1 else 0)) (.int 0) = true := by rw [hf]; rfl
        exact pd_ifT (pb_eq hr (pd_ixT (pd_var 13) pd_int) pd_int e1) (pd_var 16)
      | true =>
        have e1 : D.eqb (.int (if c.fl then 1 else 0)) (.int 0) = false := by rw [hf]; rfl
        exact pd_ifF (pb_eq hr (pd_ixT (pd_var 13) pd_int) pd_int e1) (pd_back (pd_var 16))
    show HS _ J (Ec none (some (two c.fl (dueP c z.full) (dueO c z.full))) none) _ _
    refine hs_nx (h_forG (ds := [.int (j : Nat), .int ((j : Nat) + 1)]) (Ev := fun _ => Ec none (some (two c.fl (dueP c z.full) (dueO c z.full))) none) (Eb := fun i => Ec (some (.int ((j + i : Nat) : Int))) (some (two c.fl (dueP c z.full) (dueO c z.full))) none) PassesOwn.never rfl (pit_tup (pd_tup (pds_cons (pd_var 15) (pds_cons (pd_add (pd_var 15) pd_int) pds_nil)))) rfl (fun J2 hJ2 i d hd => ?_) (fun J2 hJ2 i d hd => ?_)) ?_
    · have ed : d = .int ((j + i : Nat) : Int) := by
        match i, hd with
        | 0, h => cases h; rfl
        | 1, h => cases h; rfl
        | i + 2, h => simp at h
      rw [ed]
      exact pgd_name 10 sc_paid.nd
    · have hi : i = 0 ∨ i = 1 := by
        match i, hd with
        | 0, _ => exact .inl rfl
        | 1, _ => exact .inr rfl
        | i + 2, h => simp at h
      have hp : j + i < z.m := by omega
      have leJ : Le J2 F (cF Dq) := fun H' h => hJ H' (hJ2 H' h)
      have hmd : atI (mdsF C z (mdW (runW (rnC C z) many))) ((j + i : Nat) : Int) = some (eMind (pnC C z (j + i)) (mdW (runW (rnC C z) many) (j + i))) := atI_nat (mds_at hp)
      have hsheet : ∃ k : Nat, heldD (pnC C z (j + i)) (mdW (runW (rnC C z) many) (j + i)) j = eSheet c k (phF z.full) := by
        rcases hi with rfl | rfl
        · exact ⟨_, by rw [Nat.add_zero, held_pay ok hc, (hEk j hj).1]⟩
        · exact ⟨_, by rw [held_get ok hc, (hEk j hj).2]⟩
      obtain ⟨k, hsheet⟩ := hsheet
      have hat : atI ((List.range (pnC C z (j + i)).cs.length).map (heldD (pnC C z (j + i)) (mdW (runW (rnC C z) many) (j + i)))) ((j : Nat) : Int) = some (eSheet c k (phF z.full)) := atI_nat (by
        rw [List.getElem?_map]
        show Option.map _ ((List.range z.cks.length)[j]?) = _
        rw [List.getElem?_range hj]
        exact congrArg some hsheet)
      refine hs_set 17 sc_paid.nd (pd_ixT (pd_call ch pass0 hr (by decide) (pds_cons (pd_ixL (pd_clst leJ 0 (pd_var 9) rfl) (pd_var 10) hmd) pds_nil) ⟨pnC C z (j + i), mdW (runW (rnC C z) many) (j + i), okp _ hp, rfl, hMi _ hp, rfl, rfl⟩) (pd_var 15) hat) ?_
      have hs2 : D.tup (cutD [.int c.k, .int k, eSums c (phF z.full), eLocks c (phF z.full)] (some 2) none) = .tup [two c.fl (dueP c z.full) (dueO c z.full), .tup []] := by
        rw [(sums_due c z.full).1, (sums_due c z.full).2]; rfl
      exact hs_ifF (pb_not (pb_val (pd_call cs pass0 hr (by decide) (pds_cons (PD.to (pd_slT (pd_var 17) (pdo_some pd_int) pdo_none) hs2) (pds_cons (pd_tup (pds_cons (pd_var 16) (pds_cons (pd_tup pds_nil) pds_nil))) pds_nil)) ⟨_, rfl, (two_ti _ _ _).1, (two_ti _ _ _).2, rfl⟩))) (hs_end.wk (fun _ h => h) fun D h => (oNC_sub (.same (.same (.same (.same (.same (.same (.same (.same (.same (.same (.skip (.same (.same (.same (.same (.same (.same (.skip .nil)))))))))))))))))) h).1)
    · exact hs_end.wk (fun _ h => h) fun D h => (oNC_sub (.same (.same (.same (.same (.same (.same (.same (.same (.same (.same (.same (.same (.same (.skip (.same (.skip (.skip (.same .nil)))))))))))))))))) h).1
  refine HS.wk (I := Lk F [(q, .lst (z.cks.map eOwn))]) (hs_retW (ch_to (ch_pd pd_bl rfl) ?_)) (fun H' hL => LkP.drop (c1 := [(q, .lst (z.cks.map eOwn))]) (c2 := [(M, .lst (mdsF C z (mdW (runW (rnC C z) many)))), (Dq, .lst [])]) (LkP.perm hL (List.perm_append_comm (l₁ := [(q, Co.lst (z.cks.map eOwn))]) (l₂ := [(M, Co.lst (mdsF C z (mdW (runW (rnC C z) many)))), (Dq, Co.lst [])])))) (fun _ h => h)
  rintro d c ⟨rfl, rfl⟩
  exact ⟨rfl, rfl⟩
end
end Sd
namespace Sd
open PySem L2
/-! ### the run of a row is one of the few that the kernel goes through -/
section
variable {r r' : Rn} {many : Nat}
theorem outs_eq (hn : r.n = r'.n) (hc : ∀ p, p < r.n + 1 → r.cf p = r'.cf p) (t : List Tm) (w : Wo) : outs r t w = outs r' t w := by
  unfold outs
  rw [← hn]
  exact List.map_congr_left fun p hp => by rw [hc p (List.mem_range.mp hp)]
theorem step_eq (hn : r.n = r'.n) (hc : ∀ p, p < r.n + 1 → r.cf p = r'.cf p) (t : List Tm) (w : Wo) : stepT r t w = stepT r' t w := by
  unfold stepT
  rw [outs_eq hn hc, hn]
theorem all_eq {f g : Nat → Bool} : ∀ {l : List Nat}, (∀ p ∈ l, f p = g p) → l.all f = l.all g
  | [], _ => rfl
  | p :: l, h => by rw [List.all_cons, List.all_cons, h p List.mem_cons_self, all_eq fun q hq => h q (List.mem_cons_of_mem _ hq)]
theorem okT_eq (hn : r.n = r'.n) (hc : ∀ p, p < r.n + 1 → r.cf p = r'.cf p) (t : List Tm) (w : Wo) : okT r t w = okT r' t w := by
  unfold okT
  rw [← hn]
  exact all_eq fun p hp => by unfold okP; rw [hc p (List.mem_range.mp hp)]
theorem tms_eq (hn : r.n = r'.n) {k : Nat} (ht : ∀ p, p < r.n + 1 → r.tm p k = r'.tm p k) : tms r k = tms r' k := by
  unfold tms
  rw [← hn]
  exact List.map_congr_left fun p hp => ht p (List.mem_range.mp hp)
theorem run_eq (hn : r.n = r'.n) (hc : ∀ p, p < r.n + 1 → r.cf p = r'.cf p) (ht : ∀ p k, p < r.n + 1 → k < many → r.tm p k = r'.tm p k) : ∀ j, j ≤ many → runW r j = runW r' j
  | 0, _ => by show wo0 r.n = wo0 r'.n; rw [hn]
  | j + 1, hj => by
    show stepT r (tms r j) (runW r j) = stepT r' (tms r' j) (runW r' j)
    rw [run_eq hn hc ht j (by omega), tms_eq hn fun p hp => ht p j hp (by omega), step_eq hn hc]
theorem good_eq {full : Bool} (hn : r.n = r'.n) (hc : ∀ p, p < r.n + 1 → r.cf p = r'.cf p) (ht : ∀ p k, p < r.n + 1 → k < many → r.tm p k = r'.tm p k) (h : goodW r' full many = true) :
    (∀ j, j < many → okT r (tms r j) (runW r j) = true) ∧ okEnd2 r.n full (runW r many) = true := by
  obtain ⟨h1, h2⟩ := goodW_ok h
  refine ⟨fun j hj => ?_, by rw [run_eq hn hc ht many (Nat.le_refl _), hn]; exact h2⟩
  rw [okT_eq hn hc, run_eq hn hc ht j (by omega), tms_eq hn fun p hp => ht p j hp hj]
  exact h1 j hj
end
def closeAt (t0 t1 en m : Int) : Bool := match closeBy t0 t1 en with
  | none => false
  | some l => decide (m = l)
def tcOf (t0 t1 en m : Int) : Tc := ⟨inTime t0 t1 m en, decide (en < m), decide (m < lookAt t1 en), decide (m < en), closeAt t0 t1 en m⟩
theorem look_ge {t1 : Int} (h : 1 ≤ t1) (m : Int) : m ≤ lookAt t1 m := by
  unfold lookAt
  have h1 := Int.ediv_mul_le (-m) (show t1 ≠ 0 by omega)
  have h2 : t1 * -(-m / t1) = -((-m / t1) * t1) := by rw [Int.mul_neg, Int.mul_comm]
  rw [h2]
  omega
theorem tc_zero {t0 t1 : Int} (h0 : 1 ≤ t0) (h1 : 1 ≤ t1) (k : Nat) : tcOf t0 t1 0 ((k : Int) * t1) = tcz k := by
  have e1 : closeBy t0 t1 0 = none := by
    unfold closeBy showBy lookBy
    rw [if_pos (by omega)]; rfl
  have e2 : lookAt t1 0 = 0 := by unfold lookAt; simp
  have hk : 0 ≤ (k : Int) * t1 := Int.mul_nonneg (by omega) (by omega)
  have e3 : decide ((0 : Int) < (k : Int) * t1) = decide (0 < k) := decide_eq_decide.mpr ⟨fun h => by
    by_cases hz : k = 0
    · subst hz; simp at h
    · omega, fun h => Int.mul_pos (by omega) (by omega)⟩
  have e4 : ¬ ((k : Int) * t1 < 0) := by omega
  unfold tcOf inTime closeAt tcz
  rw [e1, e2, e3, decide_eq_false e4]
theorem tc_pn {C : Addr} {z : Cse} {p : Nat} {m : Int} {o : Bool} : (pnC C z p).tc m o = tcOf z.t0 z.t1 ((pnC C z p).ck o).en m := by
  unfold Pn.tc tcOf closeAt closeD
  rfl
theorem getD_map {α β : Type} (f : α → β) (l : List α) (i : Nat) (a : α) : (l.map f).getD i (f a) = f (l.getD i a) := by
  rw [List.getD_eq_getElem?_getD, List.getD_eq_getElem?_getD, List.getElem?_map]
  cases l[i]? <;> rfl
def askB (z : Cse) : Bool := match z.ask with
  | none => false
  | some x => decide (x ≤ z.am)
theorem good_of {C : Addr} {z : Cse} {fit : Bool} {es : Eds} {full : Bool} {many : Nat} (ok : OkC z) (h0 : 1 ≤ z.t0) (hfit : ∀ c ∈ z.cks, c.fit = fit) (htc : ∀ (i : Nat) c, z.cks[i]? = some c → ∀ k, k < many → tcOf z.t0 z.t1 c.en ((k : Int) * z.t1) = tc (es.getD i (0, 0, 0)) k)
    (hgap : ∀ (i : Nat) c d, z.cks[i]? = some c → z.cks[i + 1]? = some d → lookAt z.t1 d.en + z.t0 ≤ c.en) (hlast : ∀ c ∈ z.cks, z.t0 ≤ c.en) (hg : goodW (rnA (z.cks.map Ck.fl) fit (askB z) es) full many = true) :
    (∀ j, j < many → okT (rnC C z) (tms (rnC C z) j) (runW (rnC C z) j) = true) ∧ okEnd2 z.cks.length full (runW (rnC C z) many) = true := by
  have hl2 := ok.l2
  have t1p : 1 ≤ z.t1 := ok.t1.1
  have at_ : ∀ i, i < z.cks.length → z.cks[i]? = some (z.cks.getD i ck0) := fun i hi => by rw [List.getD_eq_getElem?_getD, List.getElem?_eq_getElem hi]; rfl
  have out_ : ∀ i, z.cks.length ≤ i → z.cks.getD i ck0 = ck0 := fun i hi => by rw [List.getD_eq_getElem?_getD, List.getElem?_eq_none hi]; rfl
  have hfl : ∀ i, (z.cks.map Ck.fl).getD i false = (z.cks.getD i ck0).fl := fun i => getD_map Ck.fl z.cks i ck0
  have hln : (z.cks.map Ck.fl).length = z.cks.length := List.length_map ..
  have ft : ∀ i, i < z.cks.length → (z.cks.getD i ck0).fit = fit := fun i hi => hfit _ (List.mem_of_getElem? (at_ i hi))
  refine good_eq (r := rnC C z) (r' := rnA (z.cks.map Ck.fl) fit (askB z) es) hln.symm (fun p hp => ?_) (fun p k hp hk => ?_) hg
  · have hp : p < z.cks.length + 1 := hp
    show (pnC C z p).cf = cfA (z.cks.map Ck.fl).length (z.cks.map Ck.fl) fit (askB z) p
    unfold Pn.cf cfA
    have e1 : (pnC C z p).cs.length = (z.cks.map Ck.fl).length := hln.symm
    have e2 : ((pnC C z p).ck false).fl = (z.cks.map Ck.fl).getD (p - 1) false := (hfl _).symm
    have e3 : ((pnC C z p).ck true).fl = (z.cks.map Ck.fl).getD p false := (hfl _).symm
    have e4 : ((pnC C z p).ck false).fit = fit := ft (p - 1) (by omega)
    have e5 : ((pnC C z p).ck true).fit = (decide (p < (z.cks.map Ck.fl).length) && fit) := by
      show (z.cks.getD p ck0).fit = _
      rw [hln]
      by_cases h : p < z.cks.length
      · rw [ft p h, decide_eq_true h]; rfl
      · rw [out_ p (by omega), decide_eq_false h]; rfl
    have e6 : decide (lookAt (pnC C z p).t1 ((pnC C z p).ck true).en + (pnC C z p).t0 ≤ ((pnC C z p).ck false).en + 0) = decide (0 < p) := by
      show decide (lookAt z.t1 (z.cks.getD p ck0).en + z.t0 ≤ (z.cks.getD (p - 1) ck0).en + 0) = _
      by_cases hp0 : p = 0
      · subst hp0
        have := look_ge t1p (z.cks.getD 0 ck0).en
        exact (decide_eq_false (by show ¬ (lookAt z.t1 (z.cks.getD 0 ck0).en + z.t0 ≤ (z.cks.getD 0 ck0).en + 0); omega)).trans (decide_eq_false (by omega)).symm
      · rw [decide_eq_true (show 0 < p by omega)]
        refine decide_eq_true ?_
        by_cases h : p < z.cks.length
        · obtain ⟨q, rfl⟩ : ∃ q, p = q + 1 := ⟨p - 1, by omega⟩
          have := hgap q _ _ (at_ q (by omega)) (at_ (q + 1) h)
          show lookAt z.t1 (z.cks.getD (q + 1) ck0).en + z.t0 ≤ (z.cks.getD q ck0).en + 0
          omega
        · rw [out_ p (by omega)]
          have := hlast _ (List.mem_of_getElem? (at_ (p - 1) (by omega)))
          have e : lookAt z.t1 ck0.en = 0 := by show lookAt z.t1 0 = 0; unfold lookAt; simp
          rw [e]
          omega
    have e7 : askd (pnC C z p) false = (decide (p = (z.cks.map Ck.fl).length) && askB z) := by
      rw [hln]
      unfold askd askB
      by_cases h : p = z.cks.length
      · have e : (pnC C z p).ask = z.ask := if_pos h
        have ea : ((pnC C z p).ck false).a = z.am := ok.am _ (List.mem_of_getElem? (at_ (p - 1) (by omega)))
        rw [e, decide_eq_true h]
        cases z.ask with
        | none => rfl
        | some x => show decide (x ≤ ((pnC C z p).ck false).a) = (true && decide (x ≤ z.am)); rw [ea]; rfl
      · have e : (pnC C z p).ask = none := if_neg h
        rw [e, decide_eq_false h]; rfl
    rw [e1, e2, e3, e4, e5, e6, e7]; rfl
  · have hp : p < z.cks.length + 1 := hp
    show (pnC C z p).tm ((k : Int) * z.t1) = tmA (z.cks.map Ck.fl).length es p k
    unfold Pn.tm tmA
    rw [tc_pn, tc_pn, hln]
    have e1 : decide (1 ≤ (k : Int) * z.t1) = decide (0 < k) := decide_eq_decide.mpr ⟨fun h => by
      by_cases hz : k = 0
      · subst hz; simp at h
      · omega, fun h => Int.mul_pos (by omega) (by omega)⟩
    have e2 : tcOf z.t0 z.t1 ((pnC C z p).ck false).en ((k : Int) * z.t1) = tc (es.getD (p - 1) (0, 0, 0)) k := htc (p - 1) _ (at_ (p - 1) (by omega)) k hk
    have e3 : tcOf z.t0 z.t1 ((pnC C z p).ck true).en ((k : Int) * z.t1) = if p < z.cks.length then tc (es.getD p (0, 0, 0)) k else tcz k := by
      by_cases h : p < z.cks.length
      · rw [if_pos h]
        exact htc p _ (at_ p h) k hk
      · rw [if_neg h]
        have e : ((pnC C z p).ck true).en = 0 := by show (z.cks.getD p ck0).en = 0; rw [out_ p (by omega)]; rfl
        rw [e]
        exact tc_zero h0 t1p k
    rw [e1, e2, e3]
/-! ### the ends, look by look -/
def R3 (x : Int) : Prop := x = 1 ∨ x = 2 ∨ x = 3
def ceilD (t0 t1 : Int) : Nat := ((t0 + t1 - 1) / t1).toNat
theorem tc_void {t0 t1 : Int} (h0 : R3 t0) (h1 : R3 t1) (e : Nat) (he : 20 ≤ e) (k : Nat) : tcOf t0 t1 ((e : Int) * t1) ((k : Int) * t1) = tc (e - 2 * ceilD t0 t1, e, e) k := by
  have hc : ∃ c : Nat, ceilD t0 t1 = c ∧ closeBy t0 t1 ((e : Int) * t1) = some (((e : Int) - 2 * c) * t1) ∧ c ≤ 3 := by
    rcases h0 with rfl | rfl | rfl <;> rcases h1 with rfl | rfl | rfl <;> refine ⟨_, rfl, ?_, by decide⟩ <;> (unfold closeBy showBy lookBy; rw [if_neg (by omega)]; show (if _ then none else some _) = _; rw [if_neg (by omega)]; refine congrArg some ?_; have h : ∀ a b : Int, a = b → a = b := fun _ _ h => h; (first | (show (1 : Int) * _ = (_ - 2 * ((1 : Nat) : Int)) * _; omega) | (show (1 : Int) * _ = (_ - 2 * ((2 : Nat) : Int)) * _; omega) | (show (1 : Int) * _ = (_ - 2 * ((3 : Nat) : Int)) * _; omega) | (show (2 : Int) * _ = (_ - 2 * ((1 : Nat) : Int)) * _; omega) | (show (2 : Int) * _ = (_ - 2 * ((2 : Nat) : Int)) * _; omega) | (show (3 : Int) * _ = (_ - 2 * ((1 : Nat) : Int)) * _; omega)))
  obtain ⟨c, ec, hcl, hc3⟩ := hc
  have tp : 1 ≤ t1 := by rcases h1 with rfl | rfl | rfl <;> decide
  have hla : lookAt t1 ((e : Int) * t1) = (e : Int) * t1 := by
    unfold lookAt
    rw [show -((e : Int) * t1) = (-(e : Int)) * t1 by rw [Int.neg_mul], Int.mul_ediv_cancel _ (by omega), Int.neg_neg, Int.mul_comm]
  have lt_iff : ∀ a b : Int, a * t1 < b * t1 ↔ a < b := fun a b => ⟨fun h => Int.lt_of_mul_lt_mul_right h (by omega), fun h => Int.mul_lt_mul_of_pos_right h (by omega)⟩
  have le_iff : ∀ a b : Int, a * t1 ≤ b * t1 ↔ a ≤ b := fun a b => ⟨fun h => Int.le_of_mul_le_mul_right h (by omega), fun h => Int.mul_le_mul_of_nonneg_right h (by omega)⟩
  unfold tcOf inTime closeAt tc
  rw [hcl, hla, ec]
  refine (Tc.mk.injEq ..).mpr ⟨?_, ?_, ?_, ?_, ?_⟩
  · exact decide_eq_decide.mpr ((le_iff _ _).trans ⟨fun h => by omega, fun h => by show (k : Int) ≤ (e : Int) - 2 * c; have h : k ≤ e - 2 * c := h; omega⟩)
  · exact decide_eq_decide.mpr ((lt_iff _ _).trans ⟨fun h => by show e < k; omega, fun h => by have h : e < k := h; omega⟩)
  · exact decide_eq_decide.mpr ((lt_iff _ _).trans ⟨fun h => by show k < e; omega, fun h => by have h : k < e := h; omega⟩)
  · exact decide_eq_decide.mpr ((lt_iff _ _).trans ⟨fun h => by show k < e; omega, fun h => by have h : k < e := h; omega⟩)
  · show decide ((k : Int) * t1 = ((e : Int) - 2 * c) * t1) = (k == e - 2 * c)
    by_cases h : k = e - 2 * c
    · have h' : (k : Int) = (e : Int) - 2 * c := by omega
      rw [decide_eq_true (by rw [h'])]
      exact (beq_iff_eq.mpr h).symm
    · rw [decide_eq_false (fun q => h (by have := Int.eq_of_mul_eq_mul_right (by omega) q; omega))]
      exact (beq_eq_false_iff_ne.mpr h).symm
theorem tc_far {t0 t1 en : Int} (h0 : R3 t0) (h1 : R3 t1) (k : Nat) (hk : k < 1000) (he : (k : Int) * t1 + 12 < en) : tcOf t0 t1 en ((k : Int) * t1) = tc (1000, 1000, 1000) k := by
  have tp : 1 ≤ t1 := by rcases h1 with rfl | rfl | rfl <;> decide
  have hk0 : 0 ≤ (k : Int) * t1 := Int.mul_nonneg (by omega) (by omega)
  have hc : ∃ l, closeBy t0 t1 en = some l ∧ (k : Int) * t1 < l := by
    generalize (k : Int) * t1 = m at he hk0 ⊢
    have n1 : ¬ (en - t0 < 0) := by rcases h0 with rfl | rfl | rfl <;> omega
    have n2 : ¬ (t1 * ((en - t0) / t1) - t0 < 0) := by rcases h0 with rfl | rfl | rfl <;> rcases h1 with rfl | rfl | rfl <;> omega
    refine ⟨t1 * ((t1 * ((en - t0) / t1) - t0) / t1), ?_, ?_⟩
    · unfold closeBy showBy lookBy
      rw [if_neg n1]
      show (if t1 * ((en - t0) / t1) - t0 < 0 then none else some _) = _
      rw [if_neg n2]
    · rcases h0 with rfl | rfl | rfl <;> rcases h1 with rfl | rfl | rfl <;> omega
  obtain ⟨l, hl, hml⟩ := hc
  have hla := look_ge tp en
  unfold tcOf inTime closeAt tc
  rw [hl]
  refine (Tc.mk.injEq ..).mpr ⟨?_, ?_, ?_, ?_, ?_⟩
  · show decide ((k : Int) * t1 ≤ l) = decide (k ≤ 1000)
    rw [decide_eq_true (by omega), decide_eq_true (by omega)]
  · show decide (en < (k : Int) * t1) = decide (1000 < k)
    rw [decide_eq_false (by omega), decide_eq_false (by omega)]
  · show decide ((k : Int) * t1 < lookAt t1 en) = decide (k < 1000)
    rw [decide_eq_true (by omega), decide_eq_true hk]
  · show decide ((k : Int) * t1 < en) = decide (k < 1000)
    rw [decide_eq_true (by omega), decide_eq_true hk]
  · show decide ((k : Int) * t1 = l) = (k == 1000)
    rw [decide_eq_false (by omega)]
    exact (beq_eq_false_iff_ne.mpr (by omega)).symm
end Sd
namespace Sd
open PySem L2
/-! ### the runs, by the kernel -/
def fls : Nat → List (List Bool)
  | 0 => [[]]
  | n + 1 => (fls n).flatMap fun l => [false :: l, true :: l]
theorem mem_fls : ∀ l : List Bool, l ∈ fls l.length
  | [] => List.mem_cons_self
  | b :: l => List.mem_flatMap.mpr ⟨l, mem_fls l, by cases b <;> simp⟩
theorem k_paid2 : (fls 2).all (fun fl => goodW (rnA fl true true (paidEnds 2)) true (18 * 2 + 8)) = true := by decide +kernel
theorem k_paid3 : (fls 3).all (fun fl => goodW (rnA fl true true (paidEnds 3)) true (18 * 3 + 8)) = true := by decide +kernel
theorem k_void2 : [1, 2, 3].all (fun c => (fls 2).all fun fl => goodW (rnA fl true false (voidEnds 2 c)) false (2 * (18 * 2 + 8) + 20)) = true := by decide +kernel
theorem k_void3a : (fls 3).all (fun fl => goodW (rnA fl true false (voidEnds 3 1)) false (2 * (18 * 3 + 8) + 20)) = true := by decide +kernel
theorem k_void3b : (fls 3).all (fun fl => goodW (rnA fl true false (voidEnds 3 2)) false (2 * (18 * 3 + 8) + 20)) = true := by decide +kernel
theorem k_void3c : (fls 3).all (fun fl => goodW (rnA fl true false (voidEnds 3 3)) false (2 * (18 * 3 + 8) + 20)) = true := by decide +kernel
def esH : Eds := [(48, 50, 50), (18, 20, 20)]
theorem k_hand1 : goodW (rnA [false, true] true true (paidEnds 2)) true 30 = true := by decide +kernel
theorem k_hand2 : goodW (rnA [false, true] true false esH) false 45 = true := by decide +kernel
theorem k_hand3 : goodW (rnA [false, true] false true esH) false 9 = true := by decide +kernel
theorem run_paid {fl : List Bool} {n : Nat} (hl : fl.length = n) (h : n = 2 ∨ n = 3) : goodW (rnA fl true true (paidEnds n)) true (18 * n + 8) = true := by
  have hm := mem_fls fl
  rw [hl] at hm
  rcases h with rfl | rfl
  · exact List.all_eq_true.mp k_paid2 fl hm
  · exact List.all_eq_true.mp k_paid3 fl hm
theorem run_void {fl : List Bool} {n c : Nat} (hl : fl.length = n) (h : n = 2 ∨ n = 3) (hc : c = 1 ∨ c = 2 ∨ c = 3) : goodW (rnA fl true false (voidEnds n c)) false (2 * (18 * n + 8) + 20) = true := by
  have hm := mem_fls fl
  rw [hl] at hm
  rcases h with rfl | rfl
  · have h2 : ∀ c ∈ [1, 2, 3], goodW (rnA fl true false (voidEnds 2 c)) false (2 * (18 * 2 + 8) + 20) = true := fun c hc => List.all_eq_true.mp (List.all_eq_true.mp k_void2 c hc) fl hm
    exact h2 c (by rcases hc with rfl | rfl | rfl <;> simp)
  · rcases hc with rfl | rfl | rfl
    · exact List.all_eq_true.mp k_void3a fl hm
    · exact List.all_eq_true.mp k_void3b fl hm
    · exact List.all_eq_true.mp k_void3c fl hm
end Sd
namespace Sd
open PySem L2
/-! ### the drawn rows -/
def cksOf (am : Int) (en : Nat → Int) (ts : List (Int × Int × Int)) : List Ck := ts.mapIdx fun k t => ⟨k, am, am + t.1, t.2.1, en k, decide (t.2.2 = 1)⟩
def sumD (am : Int) (t : Int × Int × Int) : D := .tup [.int (am + t.1), .int t.2.1, .int t.2.2]
theorem cks_get {am : Int} {en : Nat → Int} {ts : List (Int × Int × Int)} {i : Nat} {c : Ck} (h : (cksOf am en ts)[i]? = some c) : ∃ t, ts[i]? = some t ∧ c = ⟨i, am, am + t.1, t.2.1, en i, decide (t.2.2 = 1)⟩ := by
  unfold cksOf at h
  rw [List.getElem?_mapIdx] at h
  cases hq : ts[i]? with
  | none => rw [hq] at h; cases h
  | some t => rw [hq] at h; cases h; exact ⟨t, rfl, rfl⟩
theorem cks_len (am : Int) (en : Nat → Int) (ts : List (Int × Int × Int)) : (cksOf am en ts).length = ts.length := List.length_mapIdx
theorem cks_mem {am : Int} {en : Nat → Int} {ts : List (Int × Int × Int)} {c : Ck} (h : c ∈ cksOf am en ts) : ∃ i t, i < ts.length ∧ t ∈ ts ∧ c = ⟨i, am, am + t.1, t.2.1, en i, decide (t.2.2 = 1)⟩ := by
  obtain ⟨i, hi⟩ := List.mem_iff_getElem?.mp h
  obtain ⟨t, ht, e⟩ := cks_get hi
  exact ⟨i, t, (List.getElem?_eq_some_iff.mp ht).1, List.mem_of_getElem? ht, e⟩
theorem cks_own {am : Int} {en : Nat → Int} {ts : List (Int × Int × Int)} (h : ∀ t ∈ ts, t.2.2 = 0 ∨ t.2.2 = 1) : (cksOf am en ts).map eOwn = ts.map (sumD am) := by
  apply List.ext_getElem?
  intro i
  unfold cksOf
  rw [List.getElem?_map, List.getElem?_map, List.getElem?_mapIdx]
  cases hq : ts[i]? with
  | none => rfl
  | some t =>
    refine congrArg some ?_
    show D.tup [.int (am + t.1), .int t.2.1, .int (if decide (t.2.2 = 1) then 1 else 0)] = .tup [.int (am + t.1), .int t.2.1, .int t.2.2]
    rcases h t (List.mem_of_getElem? hq) with e | e
    · rw [e]; rfl
    · rw [e]; rfl
theorem cks_en {am : Int} {en : Nat → Int} {ts : List (Int × Int × Int)} : enD (cksOf am en ts) 0 = (List.range ts.length).map fun i => D.int (en i) := by
  unfold enD
  rw [List.drop_zero]
  apply List.ext_getElem?
  intro i
  unfold cksOf
  rw [List.getElem?_map, List.getElem?_map, List.getElem?_mapIdx]
  by_cases h : i < ts.length
  · rw [List.getElem?_eq_getElem h, List.getElem?_range h]; rfl
  · rw [List.getElem?_eq_none (by omega), List.getElem?_eq_none (by rw [List.length_range]; omega)]; rfl
section
variable {C : Addr} {am t0 t1 : Int} {ask : Option Int} {ts : List (Int × Int × Int)} {en : Nat → Int} {n : Nat}
theorem cse_ok (ham : 1 ≤ am) (hn : ts.length = n) (hl : n = 2 ∨ n = 3) (h1 : R3 t1) : OkC ⟨cksOf am en ts, t0, t1, t0 + t1 - 1, am, ask⟩ := by
  refine ⟨⟨by show (cksOf am en ts).length ≤ 10; rw [cks_len]; omega, fun i c h => ?_⟩, by show 2 ≤ (cksOf am en ts).length; rw [cks_len]; omega, ⟨?_, ?_⟩, ham, fun c h => ?_⟩
  · obtain ⟨t, _, rfl⟩ := cks_get h; rfl
  · rcases h1 with e | e | e <;> (show 1 ≤ t1; omega)
  · rcases h1 with e | e | e <;> (show t1 < 1000; omega)
  · obtain ⟨i, t, _, _, rfl⟩ := cks_mem h; rfl
theorem look_le {t1 : Int} (h : 1 ≤ t1) (m : Int) : lookAt t1 m ≤ m + t1 - 1 := by
  unfold lookAt
  have h1 := Int.lt_ediv_add_one_mul_self (-m) (show 0 < t1 by omega)
  have h2 : (-m / t1 + 1) * t1 = (-m / t1) * t1 + t1 := by rw [Int.add_mul, Int.one_mul]
  have h3 : t1 * -(-m / t1) = -((-m / t1) * t1) := by rw [Int.mul_neg, Int.mul_comm]
  rw [h3]
  omega
theorem cse_fit (hts : ∀ t ∈ ts, 0 ≤ t.1) : ∀ c ∈ cksOf am en ts, c.fit = true := fun c h => by
  obtain ⟨i, t, _, ht, rfl⟩ := cks_mem h
  have := hts t ht
  exact decide_eq_true (by show am ≤ am + t.1; omega)
theorem cse_paid {x : Int} (ham : 1 ≤ am) (hts : ∀ t ∈ ts, 0 ≤ t.1) (hn : ts.length = n) (hl : n = 2 ∨ n = 3) (h0 : R3 t0) (h1 : R3 t1) (hx : x ≤ am) (hen : ∀ k, k < n → en k = (18 * n + 8 : Nat) * t1 + 60 - (2 * t0 + 2 * t1) * k) :
    (∀ j, j < 18 * n + 8 → okT (rnC C ⟨cksOf am en ts, t0, t1, t0 + t1 - 1, am, some x⟩) (tms (rnC C ⟨cksOf am en ts, t0, t1, t0 + t1 - 1, am, some x⟩) j) (runW (rnC C ⟨cksOf am en ts, t0, t1, t0 + t1 - 1, am, some x⟩) j) = true) ∧ okEnd2 (cksOf am en ts).length (Cse.full ⟨cksOf am en ts, t0, t1, t0 + t1 - 1, am, some x⟩) (runW (rnC C ⟨cksOf am en ts, t0, t1, t0 + t1 - 1, am, some x⟩) (18 * n + 8)) = true := by
  have hfull : Cse.full ⟨cksOf am en ts, t0, t1, t0 + t1 - 1, am, some x⟩ = true := by
    show (decide (x ≤ am) && (cksOf am en ts).all fun c => decide (am ≤ c.sp)) = true
    rw [decide_eq_true hx]
    exact List.all_eq_true.mpr fun c h => cse_fit hts c h |> fun hf => by
      obtain ⟨i, t, _, ht, rfl⟩ := cks_mem h
      exact hf
  rw [hfull]
  have t1p : 1 ≤ t1 := by rcases h1 with e | e | e <;> omega
  have t03 : t0 ≤ 3 ∧ 1 ≤ t0 := by rcases h0 with e | e | e <;> omega
  have t13 : t1 ≤ 3 := by rcases h1 with e | e | e <;> omega
  refine good_of (es := paidEnds n) (fit := true) (cse_ok ham hn hl h1) t03.2 (cse_fit hts) (fun i c hc k hk => ?_) (fun i c d hc hd => ?_) (fun c hc => ?_) ?_
  · obtain ⟨t, ht, rfl⟩ := cks_get hc
    have hi : i < n := by have := (List.getElem?_eq_some_iff.mp ht).1; omega
    have e : (paidEnds n).getD i (0, 0, 0) = (1000, 1000, 1000) := by unfold paidEnds; rw [getD_mapR _ _ hi]
    rw [e]
    refine tc_far h0 h1 k (by omega) ?_
    show (k : Int) * t1 + 12 < en i
    rw [hen i hi]
    have a1 : (k : Int) * t1 ≤ (18 * n + 8 : Nat) * t1 := Int.mul_le_mul_of_nonneg_right (by omega) (by omega)
    have a2 : (2 * t0 + 2 * t1) * (i : Int) ≤ 12 * 2 := Int.le_trans (Int.mul_le_mul_of_nonneg_left (show (i : Int) ≤ 2 by omega) (by omega)) (Int.mul_le_mul_of_nonneg_right (by omega) (by omega))
    omega
  · obtain ⟨t, ht, rfl⟩ := cks_get hc
    obtain ⟨u, hu, rfl⟩ := cks_get hd
    have hi : i + 1 < n := by have := (List.getElem?_eq_some_iff.mp hu).1; omega
    show lookAt t1 (en (i + 1)) + t0 ≤ en i
    have a1 := look_le t1p (en (i + 1))
    rw [hen (i + 1) hi] at a1 ⊢
    rw [hen i (by omega)]
    have a2 : (2 * t0 + 2 * t1) * ((i + 1 : Nat) : Int) = (2 * t0 + 2 * t1) * (i : Int) + (2 * t0 + 2 * t1) := by rw [show ((i + 1 : Nat) : Int) = (i : Int) + 1 by omega, Int.mul_add, Int.mul_one]
    omega
  · obtain ⟨i, t, hi, _, rfl⟩ := cks_mem hc
    show t0 ≤ en i
    rw [hen i (by omega)]
    have a1 : 0 ≤ ((18 * n + 8 : Nat) : Int) * t1 := Int.mul_nonneg (by omega) (by omega)
    have a2 : (2 * t0 + 2 * t1) * (i : Int) ≤ 12 * 2 := Int.le_trans (Int.mul_le_mul_of_nonneg_left (show (i : Int) ≤ 2 by omega) (by omega)) (Int.mul_le_mul_of_nonneg_right (by omega) (by omega))
    omega
  · have e : askB ⟨cksOf am en ts, t0, t1, t0 + t1 - 1, am, some x⟩ = true := decide_eq_true hx
    rw [e]
    exact run_paid (by rw [List.length_map]; show (cksOf am en ts).length = n; rw [cks_len, hn]) hl
theorem cse_void (ham : 1 ≤ am) (hts : ∀ t ∈ ts, 0 ≤ t.1) (hn : ts.length = n) (hl : n = 2 ∨ n = 3) (h0 : R3 t0) (h1 : R3 t1) (hask : ∀ x, ask = some x → ¬ x ≤ am) (hen : ∀ k, k < n → en k = (18 * ((n : Int) - k) + 8) * t1 * 2) :
    (∀ j, j < 2 * (18 * n + 8) + 20 → okT (rnC C ⟨cksOf am en ts, t0, t1, t0 + t1 - 1, am, ask⟩) (tms (rnC C ⟨cksOf am en ts, t0, t1, t0 + t1 - 1, am, ask⟩) j) (runW (rnC C ⟨cksOf am en ts, t0, t1, t0 + t1 - 1, am, ask⟩) j) = true) ∧ okEnd2 (cksOf am en ts).length (Cse.full ⟨cksOf am en ts, t0, t1, t0 + t1 - 1, am, ask⟩) (runW (rnC C ⟨cksOf am en ts, t0, t1, t0 + t1 - 1, am, ask⟩) (2 * (18 * n + 8) + 20)) = true := by
  have hfull : Cse.full ⟨cksOf am en ts, t0, t1, t0 + t1 - 1, am, ask⟩ = false := by
    cases ask with
    | none => rfl
    | some x => show (decide (x ≤ am) && _) = false; rw [decide_eq_false (hask x rfl)]; rfl
  rw [hfull]
  have t1p : 1 ≤ t1 := by rcases h1 with e | e | e <;> omega
  have t03 : t0 ≤ 3 ∧ 1 ≤ t0 := by rcases h0 with e | e | e <;> omega
  have t13 : t1 ≤ 3 := by rcases h1 with e | e | e <;> omega
  have hE : ∀ k, k < n → en k = ((2 * (18 * (n - k) + 8) : Nat) : Int) * t1 := fun k hk => by
    rw [hen k hk]
    have e1 : ((2 * (18 * (n - k) + 8) : Nat) : Int) = 2 * (18 * ((n : Int) - k) + 8) := by omega
    rw [e1, Int.mul_comm _ 2, Int.mul_assoc]
  have hcd : ceilD t0 t1 = 1 ∨ ceilD t0 t1 = 2 ∨ ceilD t0 t1 = 3 := by rcases h0 with rfl | rfl | rfl <;> rcases h1 with rfl | rfl | rfl <;> decide
  refine good_of (es := voidEnds n (ceilD t0 t1)) (fit := true) (cse_ok ham hn hl h1) t03.2 (cse_fit hts) (fun i c hc k hk => ?_) (fun i c d hc hd => ?_) (fun c hc => ?_) ?_
  · obtain ⟨t, ht, rfl⟩ := cks_get hc
    have hi : i < n := by have := (List.getElem?_eq_some_iff.mp ht).1; omega
    show tcOf t0 t1 (en i) ((k : Int) * t1) = _
    rw [hE i hi, tc_void h0 h1 _ (by omega)]
    unfold voidEnds
    rw [getD_mapR _ _ hi]
  · obtain ⟨t, ht, rfl⟩ := cks_get hc
    obtain ⟨u, hu, rfl⟩ := cks_get hd
    have hi : i + 1 < n := by have := (List.getElem?_eq_some_iff.mp hu).1; omega
    show lookAt t1 (en (i + 1)) + t0 ≤ en i
    have a1 := look_le t1p (en (i + 1))
    rw [hE (i + 1) hi] at a1 ⊢
    rw [hE i (by omega)]
    have a2 : ((2 * (18 * (n - i) + 8) : Nat) : Int) * t1 = ((2 * (18 * (n - (i + 1)) + 8) : Nat) : Int) * t1 + 36 * t1 := by rw [← Int.add_mul]; exact congrArg (· * t1) (by omega)
    omega
  · obtain ⟨i, t, hi, _, rfl⟩ := cks_mem hc
    show t0 ≤ en i
    rw [hE i (by omega)]
    have a1 : (52 : Int) * t1 ≤ ((2 * (18 * (n - i) + 8) : Nat) : Int) * t1 := Int.mul_le_mul_of_nonneg_right (by omega) (by omega)
    omega
  · have e : askB ⟨cksOf am en ts, t0, t1, t0 + t1 - 1, am, ask⟩ = false := by
      cases ask with
      | none => rfl
      | some x => exact decide_eq_false (hask x rfl)
    rw [e]
    exact run_void (by rw [List.length_map]; show (cksOf am en ts).length = n; rw [cks_len, hn]) hl hcd
end
/-! ### the rows by hand -/
def ckH (am e1 e2 : Int) : List Ck := [⟨0, am, 10, 5, e1, false⟩, ⟨1, am, 8, 0, e2, true⟩]
theorem hand_ok {am e1 e2 : Int} {ask : Option Int} (ham : 1 ≤ am) : OkC ⟨ckH am e1 e2, 2, 3, 4, am, ask⟩ := by
  refine ⟨⟨by show 2 ≤ 10; decide, fun i c h => ?_⟩, by show 2 ≤ 2; decide, ⟨by show (1 : Int) ≤ 3; decide, by show (3 : Int) < 1000; decide⟩, ham, fun c h => ?_⟩
  · match i, h with
    | 0, h => cases h; rfl
    | 1, h => cases h; rfl
  · have h : c ∈ [(⟨0, am, 10, 5, e1, false⟩ : Ck), ⟨1, am, 8, 0, e2, true⟩] := h
    simp at h
    rcases h with rfl | rfl <;> rfl
theorem hand_good {C : Addr} {am e1 e2 : Int} {ask : Option Int} {fit full : Bool} {es : Eds} {many : Nat} (ham : 1 ≤ am) (hfit : decide (am ≤ 10) = fit ∧ decide (am ≤ 8) = fit) (htc : (∀ k : Nat, k < many → tcOf 2 3 e1 ((k : Int) * 3) = tc (es.getD 0 (0, 0, 0)) k) ∧ ∀ k : Nat, k < many → tcOf 2 3 e2 ((k : Int) * 3) = tc (es.getD 1 (0, 0, 0)) k)
    (hgap : lookAt 3 e2 + 2 ≤ e1) (hlast : 2 ≤ e1 ∧ 2 ≤ e2) (hf : Cse.full ⟨ckH am e1 e2, 2, 3, 4, am, ask⟩ = full) (hg : goodW (rnA [false, true] fit (askB ⟨ckH am e1 e2, 2, 3, 4, am, ask⟩) es) full many = true) :
    (∀ j, j < many → okT (rnC C ⟨ckH am e1 e2, 2, 3, 4, am, ask⟩) (tms (rnC C ⟨ckH am e1 e2, 2, 3, 4, am, ask⟩) j) (runW (rnC C ⟨ckH am e1 e2, 2, 3, 4, am, ask⟩) j) = true) ∧ okEnd2 2 (Cse.full ⟨ckH am e1 e2, 2, 3, 4, am, ask⟩) (runW (rnC C ⟨ckH am e1 e2, 2, 3, 4, am, ask⟩) many) = true := by
  rw [hf]
  refine good_of (z := ⟨ckH am e1 e2, 2, 3, 4, am, ask⟩) (hand_ok ham) (by show (1 : Int) ≤ 2; decide) (fun c h => ?_) (fun i c h k hk => ?_) (fun i c d h1 h2 => ?_) (fun c h => ?_) hg
  · have h : c ∈ [(⟨0, am, 10, 5, e1, false⟩ : Ck), ⟨1, am, 8, 0, e2, true⟩] := h
    simp at h
    rcases h with rfl | rfl
    · exact hfit.1
    · exact hfit.2
  · match i, h with
    | 0, h => cases h; exact htc.1 k hk
    | 1, h => cases h; exact htc.2 k hk
  · match i, h1, h2 with
    | 0, h1, h2 => cases h1; cases h2; exact hgap
    | 1, h1, h2 => cases h2
    | i + 2, h1, h2 => cases h1
  · have h : c ∈ [(⟨0, am, 10, 5, e1, false⟩ : Ck), ⟨1, am, 8, 0, e2, true⟩] := h
    simp at h
    rcases h with rfl | rfl
    · exact hlast.1
    · exact hlast.2
end Sd
namespace Sd
open PySem L2
section
variable {X : Cx} {F : Asr} {cs c1 cB : Cs} {env : Ev} {e e1 e2 : Expr} {es : List Expr} {R : RN} {p pos : Pos} {j : Nat}
theorem ch_drop (h : PCh X F cs env e (fun d c => ∃ c1 c2, c = c1 ++ c2 ∧ R d c1)) : PCh X F cs env e R := h.wk fun σ H Q ⟨hI, hE, k⟩ => ⟨hI, hE, fun v H' d c ⟨c1, c2, ec, hR⟩ hP => by subst ec; exact k v H' d c1 hR hP.drop⟩
/-- a draw -/
theorem ch_take {N low : Int} {q : Addr} (ct : Cal X.prog X.w X.K X.mg X.base CX0 1 "_law_take" (spW S_take)) (hr : Room j X.A) (hj : 1 ≤ j) (hU : urnC q N c1) (hN : N ≤ 900) (hcs : (c1 ++ cB).Perm cs) (h0 : 0 < low) (h1 : low < 1000) (ha : PDs X (Lk F cs) env [e1, e2] [.ref q, .int low]) (hg : Gl X "_law_take" := by rfl)
    (he : starEach (e1 :: [e2]) X.env = (false, eval e1 X.env) :: starEach [e2] X.env := by rfl) (hpl : (backTo pos (starEach [e2] X.env)).any (·.1) = false := by rfl) : PCh X F cs env (.Call (.Name "_law_take" p) [e1, e2] [] pos) (fun d c => ∃ c1', urnC q (N + 1) c1' ∧ (∃ r : Int, d = .int r ∧ 0 ≤ r ∧ r < low) ∧ c = c1' ++ cB) :=
  ch_callR (RL := rIsL [.ref q, .int low] cs) ct hr hj (chs_pds ha rfl) (by
    rintro ds c ⟨rfl, rfl⟩
    exact ⟨c1, cB, _, hcs, ⟨q, N, low, hU, hN, rfl, h0, h1, rfl⟩, fun d ca ⟨h2, h3⟩ => ⟨ca, h2, h3, rfl⟩⟩) hg (by decide) he hpl
/-- i + a draw -/
theorem ch_addT {N low i : Int} {q : Addr} {a : Expr} (hE0 : fixE env = true) (ha : PD X (Lk F cs) env a (.int i)) (h : PCh X F cs env e (fun d c => ∃ c1', urnC q (N + 1) c1' ∧ (∃ r : Int, d = .int r ∧ 0 ≤ r ∧ r < low) ∧ c = c1' ++ cB)) : PCh X F cs env (.BinOp a .Add e pos) (fun d c => ∃ c1', urnC q (N + 1) c1' ∧ (∃ r : Int, d = .int (i + r) ∧ 0 ≤ r ∧ r < low) ∧ c = c1' ++ cB) :=
  ch_add hE0 ha h fun d c ⟨c1', hU, ⟨r, e, h0, h1⟩, hc⟩ => ⟨r, e, c1', hU, ⟨r, rfl, h0, h1⟩, hc⟩
end
section
variable {P : Program} {w : World} {K : PySem.W.Frag} {mg : Str → Option Value} {base : Heap} {C : Addr}
/-! ### by hand -/
def S_hand (cs : Cs) (ds : List D) (R : RN) : Prop := cs = [] ∧ ds = [] ∧ R = rIs (.bl true) []
theorem sc_hand : FnScope ["_law_times", "_law_sums"] [] (defScope (top 56)) := ⟨rfl, rfl, rfl, by decide +kernel, rfl, by decide +kernel, by decide +kernel⟩
def rH (q : Addr) : RN := rIs (.bl true) [(q, .lst ((ckH 4 0 0).map eOwn))]
theorem own_H (am e1 e2 : Int) : (ckH am e1 e2).map eOwn = (ckH 4 0 0).map eOwn := rfl
theorem hand_S {q : Addr} {am e1 e2 : Int} {ask : Option Int} {many : Nat} (ham : 1 ≤ am) (hm : many ≤ 1000) (h : (∀ j, j < many → okT (rnC C ⟨ckH am e1 e2, 2, 3, 4, am, ask⟩) (tms (rnC C ⟨ckH am e1 e2, 2, 3, 4, am, ask⟩) j) (runW (rnC C ⟨ckH am e1 e2, 2, 3, 4, am, ask⟩) j) = true) ∧ okEnd2 2 (Cse.full ⟨ckH am e1 e2, 2, 3, 4, am, ask⟩) (runW (rnC C ⟨ckH am e1 e2, 2, 3, 4, am, ask⟩) many) = true) :
    S_paid C [(q, .lst ((ckH 4 0 0).map eOwn))] [.ref q, eTimes 2 3 4, .int am, oInt ask, .tup [.int e1, .int e2], .int many] (rH q) := ⟨⟨ckH am e1 e2, 2, 3, 4, am, ask⟩, many, q, hand_ok ham, hm, h.1, h.2, rfl, rfl, rfl⟩
theorem hand1 : (∀ j, j < 30 → okT (rnC C ⟨ckH 4 160 150, 2, 3, 4, 4, some 4⟩) (tms (rnC C ⟨ckH 4 160 150, 2, 3, 4, 4, some 4⟩) j) (runW (rnC C ⟨ckH 4 160 150, 2, 3, 4, 4, some 4⟩) j) = true) ∧ okEnd2 2 (Cse.full ⟨ckH 4 160 150, 2, 3, 4, 4, some 4⟩) (runW (rnC C ⟨ckH 4 160 150, 2, 3, 4, 4, some 4⟩) 30) = true :=
  hand_good (fit := true) (full := true) (es := paidEnds 2) (by decide) ⟨rfl, rfl⟩ ⟨fun k hk => tc_far (.inr (.inl rfl)) (.inr (.inr rfl)) k (by omega) (by omega), fun k hk => tc_far (.inr (.inl rfl)) (.inr (.inr rfl)) k (by omega) (by omega)⟩ (by decide) ⟨by decide, by decide⟩ rfl k_hand1
theorem tc_H50 (k : Nat) : tcOf 2 3 150 ((k : Int) * 3) = tc (48, 50, 50) k := tc_void (t0 := 2) (t1 := 3) (.inr (.inl rfl)) (.inr (.inr rfl)) 50 (by decide) k
theorem tc_H20 (k : Nat) : tcOf 2 3 60 ((k : Int) * 3) = tc (18, 20, 20) k := tc_void (t0 := 2) (t1 := 3) (.inr (.inl rfl)) (.inr (.inr rfl)) 20 (by decide) k
theorem hand2 : (∀ j, j < 45 → okT (rnC C ⟨ckH 4 150 60, 2, 3, 4, 4, none⟩) (tms (rnC C ⟨ckH 4 150 60, 2, 3, 4, 4, none⟩) j) (runW (rnC C ⟨ckH 4 150 60, 2, 3, 4, 4, none⟩) j) = true) ∧ okEnd2 2 (Cse.full ⟨ckH 4 150 60, 2, 3, 4, 4, none⟩) (runW (rnC C ⟨ckH 4 150 60, 2, 3, 4, 4, none⟩) 45) = true :=
  hand_good (fit := true) (full := false) (es := esH) (by decide) ⟨rfl, rfl⟩ ⟨fun k hk => tc_H50 k, fun k hk => tc_H20 k⟩ (by decide) ⟨by decide, by decide⟩ rfl k_hand2
theorem hand3 : (∀ j, j < 9 → okT (rnC C ⟨ckH 11 150 60, 2, 3, 4, 11, some 4⟩) (tms (rnC C ⟨ckH 11 150 60, 2, 3, 4, 11, some 4⟩) j) (runW (rnC C ⟨ckH 11 150 60, 2, 3, 4, 11, some 4⟩) j) = true) ∧ okEnd2 2 (Cse.full ⟨ckH 11 150 60, 2, 3, 4, 11, some 4⟩) (runW (rnC C ⟨ckH 11 150 60, 2, 3, 4, 11, some 4⟩) 9) = true :=
  hand_good (fit := false) (full := false) (es := esH) (by decide) ⟨rfl, rfl⟩ ⟨fun k hk => tc_H50 k, fun k hk => tc_H20 k⟩ (by decide) ⟨by decide, by decide⟩ rfl k_hand3
theorem ok_hand (Fd : FD K mg "_law_by_hand_right" (top 56) []) (cp : Cal P w K mg base CX0 21 "_law_paid_right" (spW (S_paid C))) : Cal P w K mg base CX0 22 "_law_by_hand_right" (spW S_hand) := by
  refine cal_W Fd sc_hand (fun cs ds R h => by obtain ⟨_, rfl, _⟩ := h; rfl) ?_
  rintro f cdv A outer s H E hr _ _ _ ⟨rfl, rfl, rfl⟩ F
  have hE0 : fixE (startE ["_law_times", "_law_sums"] []) = true := rfl
  refine hs_parCh 0 1 rfl sc_hand.nd (by decide) hE0 (Sub.refl _) (chs_pd hE0 (pd_tup (pds_cons pd_int (pds_cons pd_int (pds_cons pd_int pds_nil)))) rfl (chs_one (ch_pl (pl_lst (pds_cons (pd_tup (pds_cons pd_int (pds_cons pd_int (pds_cons pd_int pds_nil)))) (pds_cons (pd_tup (pds_cons pd_int (pds_cons pd_int (pds_cons pd_int pds_nil)))) pds_nil))) rfl))) ?_
  rintro ds c ⟨_, ⟨_, ⟨q, rfl, rfl⟩, rfl⟩, rfl⟩
  refine ⟨_, _, rfl, ?_⟩
  have hE1 : ∀ q : Addr, fixE [some (eTimes 2 3 4), some (.ref q)] = true := fun _ => rfl
  show HS _ (Lk F [(q, Co.lst ((ckH 4 0 0).map eOwn))]) [some (eTimes 2 3 4), some (.ref q)] _ _
  have pk : ∀ {RL : List D → Cs → Prop} {ds : List D}, S_paid C [(q, .lst ((ckH 4 0 0).map eOwn))] ds (rH q) → ∀ ds' c, rIsL ds [(q, Co.lst ((ckH 4 0 0).map eOwn))] ds' c → ∃ cA cB R', (cA ++ cB).Perm c ∧ S_paid C cA ds' R' ∧ ∀ d ca, R' d ca → rH q d (ca ++ cB) := by
    rintro _ ds hS ds' c ⟨rfl, rfl⟩
    exact ⟨_, [], _, List.Perm.refl _, hS, fun d ca ⟨h1, h2⟩ => ⟨h1, by rw [List.append_nil]; exact h2⟩⟩
  refine hs_retW (ch_drop (ch_to (ch_and (hE1 q) (ch_callR (R := rH q) cp hr (by decide) (chs_pds (pds_cons (pd_var 1) (pds_cons (pd_var 0) (pds_cons pd_int (pds_cons pd_int (pds_cons (pd_tup (pds_cons pd_int (pds_cons pd_int pds_nil))) (pds_cons pd_int pds_nil)))))) rfl) (pk (RL := fun _ _ => True) (hand_S (by decide) (by decide) hand1))) (ch_and (hE1 q) (ch_callR (R := rH q) cp hr (by decide) (chs_pds (pds_cons (pd_var 1) (pds_cons (pd_var 0) (pds_cons pd_int (pds_cons pd_non (pds_cons (pd_tup (pds_cons pd_int (pds_cons pd_int pds_nil))) (pds_cons pd_int pds_nil)))))) rfl) (pk (RL := fun _ _ => True) (hand_S (by decide) (by decide) hand2))) (ch_one (ch_callR (R := rH q) cp hr (by decide) (chs_pds (pds_cons (pd_var 1) (pds_cons (pd_var 0) (pds_cons pd_int (pds_cons pd_int (pds_cons (pd_tup (pds_cons pd_int (pds_cons pd_int pds_nil))) (pds_cons pd_int pds_nil)))))) rfl) (pk (RL := fun _ _ => True) (hand_S (by decide) (by decide) hand3)))))) ?_))
  rintro d c ⟨rfl, rfl⟩
  exact ⟨[], _, rfl, rfl, rfl⟩
end
end Sd
namespace Sd
open PySem L2
theorem sum_fix (am : Int) : ∀ ts : List (Int × Int × Int), fixL (ts.map (sumD am)) = true
  | [] => rfl
  | t :: ts => by show (true && fixL (ts.map (sumD am))) = true; rw [sum_fix am ts]; rfl
/-- the rows drawn so far -/
def RelS (p : Addr) (am : Int) (n j : Nat) (vals : List D) (c : Cs) : Prop := ∃ ts : List (Int × Int × Int), ts.length = j ∧ vals = ts.map (sumD am) ∧ (∀ t ∈ ts, 0 ≤ t.1 ∧ (t.2.2 = 0 ∨ t.2.2 = 1)) ∧ urnC p (2 + 3 * j) c ∧ (n = 2 ∨ n = 3)
section
variable {P : Program} {w : World} {K : PySem.W.Frag} {mg : Str → Option Value} {base : Heap} {C : Addr}
def S_right (cs : Cs) (ds : List D) (R : RN) : Prop := ∃ p, urnC p 0 cs ∧ ds = [.ref p] ∧ R = rIs (.bl true) []
def nmRight : List Str := ["_law_tin", "_law_amount", "_law_sums", "_law_times", "_law_places", "_law_way", "_law_ask", "_law_many", "_law_ends", "_law_lap", "_law_k"]
theorem sc_right : FnScope nmRight ["_law_tin"] (defScope (top 57)) := ⟨rfl, rfl, rfl, by decide +kernel, rfl, by decide +kernel, by decide +kernel⟩
theorem ok_right (B : Free mg) (Fd : FD K mg "_law_right" (top 57) ["_law_tin"]) (ct : Cal P w K mg base CX0 1 "_law_take" (spW S_take)) (cp : Cal P w K mg base CX0 21 "_law_paid_right" (spW (S_paid C))) : Cal P w K mg base CX0 22 "_law_right" (spW S_right) := by
  refine cal_W Fd sc_right (fun cs ds R h => by obtain ⟨_, _, rfl, _⟩ := h; rfl) ?_
  rintro f cdv A outer s H E hr cs _ _ ⟨p, hU, rfl, rfl⟩ F
  have nil : ∀ c : Cs, (c ++ []).Perm c := fun c => by rw [List.append_nil]
  -- the amount
  have hE0 : fixE (startE nmRight [.ref p]) = true := rfl
  refine hs_setCh 1 sc_right.nd hE0 (Sub.refl _) (ch_addT hE0 pd_int (ch_take (cB := []) ct hr (by decide) hU (by decide) (nil _) (by decide) (by decide) (pds_cons (pd_var 0) (pds_cons pd_int pds_nil)))) ?_
  rintro d c ⟨c1, hU, ⟨r, rfl, r0, r1⟩, rfl⟩
  rw [List.append_nil]
  have ham : 1 ≤ 1 + r ∧ 1 + r ≤ 6 := ⟨by omega, by omega⟩
  generalize 1 + r = am at ham ⊢
  -- the sums
  have hE1 : fixE [some (.ref p), some (.int am), none, none, none, none, none, none, none, none, none] = true := rfl
  show HS _ _ [some (.ref p), some (.int am), none, none, none, none, none, none, none, none, none] _ _
  refine hs_setLcN (iz := 2) (i := 9) (R := fun d c => ∃ n q vals c', (n = 2 ∨ n = 3) ∧ RelS p am n n vals c' ∧ d = .ref q ∧ c = c' ++ [(q, .lst vals)]) (RelS p am) rfl sc_right.nd B.rng hE1 (ch_addT hE1 pd_int (ch_take (cB := []) ct hr (by decide) hU (by decide) (nil _) (by decide) (by decide) (pds_cons (pd_var 0) (pds_cons pd_int pds_nil)))) ?_ (blkOk_by (N := nmRight) (sc := defScope (top 57)) (by decide +kernel)) (fun n j vals c h => ?_) ?_ (fun n q vals c hn h => ?_) hE1 (Sub.refl _) ?_
  · rintro d c ⟨c2, hU2, ⟨r, rfl, r0, r1⟩, rfl⟩
    refine ⟨(2 + r).toNat, congrArg D.int (by omega), by omega, [], rfl, rfl, (fun t ht => nomatch ht), ?_, by omega⟩
    rw [List.append_nil]
    exact hU2
  · obtain ⟨ts, h1, rfl, _⟩ := h
    rw [List.length_map, h1]
  · rintro s' H' C' cl fp G n j vals c hn hj ⟨ts, h1, rfl, h3, hU2, hn2⟩
    have hEc : fixE ((wipeE [some (.ref p), some (.int am), none, none, none, none, none, none, none, none, none] [9]).set 9 (some (.int (j : Nat)))) = true := rfl
    have hN1 : (2 : Int) + 3 * (j : Nat) ≤ 900 := by omega
    refine ch_to (ch_tup (chs_cons (Rs := fun _ _ ds c => ∃ b k : Int, ds = [.int b, .int k] ∧ urnC p (2 + 3 * (j : Nat) + 1 + 1 + 1) c ∧ (k = 0 ∨ k = 1)) hEc (ch_addT hEc (pd_var 1) (ch_take (cB := []) ct hr (by decide) hU2 hN1 (nil _) (by decide) (by decide) (pds_cons (pd_var 0) (pds_cons pd_int pds_nil)))) (fun d c hR => ?_)) ?_) ?_
    · obtain ⟨c2, hU3, _, rfl⟩ := hR
      rw [List.append_nil]
      refine chs_to (chs_cons (Rs := fun _ _ ds c => ∃ d, (∃ c1', urnC p (2 + 3 * (j : Nat) + 1 + 1 + 1) c1' ∧ (∃ r : Int, d = .int r ∧ 0 ≤ r ∧ r < 2) ∧ c = c1' ++ []) ∧ ds = [d]) hEc (ch_take (cB := []) ct hr (by decide) hU3 (by omega) (nil _) (by decide) (by decide) (pds_cons (pd_var 0) (pds_cons pd_int pds_nil))) (fun d c hR => ?_)) ?_
      · obtain ⟨c3, hU4, _, rfl⟩ := hR
        rw [List.append_nil]
        exact chs_one (ch_take (cB := []) ct hr (by decide) hU4 (by omega) (nil _) (by decide) (by decide) (pds_cons (pd_var 0) (pds_cons pd_int pds_nil)))
      · rintro ds c ⟨d, c4, ds', ⟨c5, _, ⟨b, rfl, _, _⟩, _⟩, ⟨d2, ⟨c6, hU6, ⟨k, rfl, k0, k1⟩, rfl⟩, rfl⟩, rfl⟩
        rw [List.append_nil]
        exact ⟨b, k, rfl, hU6, by omega⟩
    · rintro ds c ⟨d, c4, ds', _, ⟨b, k, rfl, _⟩, rfl⟩
      exact Nat.le_of_ble_eq_true rfl
    · rintro o c' ⟨ds, rfl, d, c4, ds', ⟨c5, _, ⟨a, rfl, a0, _⟩, _⟩, ⟨b, k, rfl, hU6, hk⟩, rfl⟩
      refine ⟨ts ++ [(a, b, k)], by rw [List.length_append, h1]; rfl, by rw [List.map_append]; rfl, fun t ht => ?_, ?_, hn2⟩
      · rcases List.mem_append.mp ht with h | h
        · exact h3 t h
        · simp at h
          subst h
          exact ⟨a0, hk⟩
      · have e : (2 : Int) + 3 * ((j + 1 : Nat) : Int) = 2 + 3 * (j : Nat) + 1 + 1 + 1 := by omega
        rw [e]
        exact hU6
  · obtain ⟨ts, h1, h2, h3, h4, h5⟩ := h
    exact ⟨n, q, vals, c, h5, ⟨ts, h1, h2, h3, h4, h5⟩, rfl, rfl⟩
  rintro d c ⟨n, q, vals, c2, hn, ⟨ts, htl, rfl, hts, hU2, _⟩, rfl, rfl⟩
  -- the times
  have hE2 : fixE [some (.ref p), some (.int am), some (.ref q), none, none, none, none, none, none, none, none] = true := rfl
  show HS _ _ [some (.ref p), some (.int am), some (.ref q), none, none, none, none, none, none, none, none] _ _
  have hN2 : (2 : Int) + 3 * (n : Nat) ≤ 11 := by omega
  generalize (2 : Int) + 3 * (n : Nat) = N at hN2 hU2
  refine hs_setCh (R := fun d c => ∃ T c3 x y, d = .ref T ∧ R3 x ∧ R3 y ∧ urnC p (N + 1 + 1) c3 ∧ c = c3 ++ [(q, .lst (ts.map (sumD am)))] ++ [(T, .lst [.int x, .int y])]) 3 sc_right.nd hE2 (Sub.refl _) (ch_to (ch_lst (chs_cons (Rs := fun _ _ ds c => ∃ d, (∃ c1', urnC p (N + 1 + 1) c1' ∧ (∃ r : Int, d = .int (1 + r) ∧ 0 ≤ r ∧ r < 3) ∧ c = c1' ++ [(q, .lst (ts.map (sumD am)))]) ∧ ds = [d]) hE2 (ch_addT hE2 pd_int (ch_take (cB := [(q, .lst (ts.map (sumD am)))]) ct hr (by decide) hU2 (by omega) (List.Perm.refl _) (by decide) (by decide) (pds_cons (pd_var 0) (pds_cons pd_int pds_nil)))) (fun d c hR => ?_)) ?_) ?_) ?_
  · obtain ⟨c3, hU3, _, rfl⟩ := hR
    exact chs_one (ch_addT hE2 pd_int (ch_take (cB := [(q, .lst (ts.map (sumD am)))]) ct hr (by decide) hU3 (by omega) (List.Perm.refl _) (by decide) (by decide) (pds_cons (pd_var 0) (pds_cons pd_int pds_nil))))
  · rintro ds c ⟨d, c4, ds', _, ⟨d2, _, rfl⟩, rfl⟩
    exact Nat.le_of_ble_eq_true rfl
  · rintro d c ⟨T, ds, c', rfl, ⟨d1, c4, ds', ⟨c5, _, ⟨x, rfl, x0, x1⟩, _⟩, ⟨d2, ⟨c6, hU6, ⟨y, rfl, y0, y1⟩, rfl⟩, rfl⟩, rfl⟩, rfl⟩
    exact ⟨T, c6, 1 + x, 1 + y, rfl, by unfold R3; omega, by unfold R3; omega, hU6, rfl⟩
  rintro d c ⟨T, c3, t0, t1, rfl, h0, h1, ⟨ua, ub, uk, rfl, uk0, ukN⟩, rfl⟩
  show HS _ (Lk F [(p, Co.lst [.int ua, .int ub, .int uk]), (q, Co.lst (ts.map (sumD am))), (T, Co.lst [.int t0, .int t1])]) [some (.ref p), some (.int am), some (.ref q), some (.ref T), none, none, none, none, none, none, none] _ _
  have hlen : ((ts.map (sumD am)).length : Int) = (n : Nat) := by rw [List.length_map, htl]
  refine hs_asg (pd_tup (pds_cons (pd_tup (pds_cons (pd_ixL (pd_clst le_lk 2 (pd_var 3) rfl) pd_int) (pds_cons (pd_ixL (pd_clst le_lk 2 (pd_var 3) rfl) pd_int) (pds_cons (pd_sub (pd_add (pd_ixL (pd_clst le_lk 2 (pd_var 3) rfl) pd_int) (pd_ixL (pd_clst le_lk 2 (pd_var 3) rfl) pd_int)) pd_int) pds_nil)))) (pds_cons (PD.to (pd_lenL B.len (pd_clst le_lk 1 (pd_var 2) rfl)) (congrArg D.int hlen)) pds_nil))) (pgd_tup rfl (pgsd_cons (pgd_name 3 sc_right.nd) (pgsd_cons (pgd_name 4 sc_right.nd) pgsd_nil))) ?_
  have hE4 : fixE [some (.ref p), some (.int am), some (.ref q), some (eTimes t0 t1 (t0 + t1 - 1)), some (.int (n : Nat)), none, none, none, none, none, none] = true := rfl
  show HS _ _ [some (.ref p), some (.int am), some (.ref q), some (eTimes t0 t1 (t0 + t1 - 1)), some (.int (n : Nat)), none, none, none, none, none, none] _ _
  -- the way
  let cB : Cs := [(q, .lst (ts.map (sumD am))), (T, .lst [.int t0, .int t1])]
  refine hs_setCh 5 sc_right.nd hE4 (Sub.refl _) (ch_take (c1 := [(p, .lst [.int ua, .int ub, .int uk])]) (cB := cB) ct hr (by decide) ⟨_, _, _, rfl, uk0, ukN⟩ (by omega) (List.Perm.refl _) (by decide) (by decide) (pds_cons (pd_var 0) (pds_cons pd_int pds_nil))) ?_
  rintro d c ⟨c4, hU4, ⟨way, rfl, w0, w3⟩, rfl⟩
  have hE5 : fixE [some (.ref p), some (.int am), some (.ref q), some (eTimes t0 t1 (t0 + t1 - 1)), some (.int (n : Nat)), some (.int way), none, none, none, none, none] = true := rfl
  show HS _ _ [some (.ref p), some (.int am), some (.ref q), some (eTimes t0 t1 (t0 + t1 - 1)), some (.int (n : Nat)), some (.int way), none, none, none, none, none] _ _
  refine hs_setCh (R := fun d c => ∃ c5 o, urnC p (N + 1 + 1 + 1 + 1) c5 ∧ d = oInt o ∧ (way = 2 → ∃ x, o = some x ∧ x ≤ am) ∧ (way ≠ 2 → ∀ x, o = some x → ¬ x ≤ am) ∧ c = c5 ++ cB) 6 sc_right.nd hE5 (Sub.refl _) (ch_ixL (i := way) hE5 (ch_lst (chs_pd hE5 pd_non rfl (chs_pd hE5 (pd_add (pd_var 1) pd_int) rfl (chs_one (ch_addT hE5 pd_int (ch_take (cB := cB) ct hr (by decide) hU4 (by omega) (List.Perm.refl _) (show 0 < am by omega) (show am < 1000 by omega) (pds_cons (pd_var 0) (pds_cons (pd_var 1) pds_nil))))))) ?_) (fun c => (pd_var 5)) ?_) ?_
  · rintro ds c ⟨ds1, ⟨ds2, ⟨d, _, rfl⟩, rfl⟩, rfl⟩
    exact Nat.le_of_ble_eq_true rfl
  · rintro d c ⟨Q, ds, c', rfl, ⟨ds1, ⟨ds2, ⟨d, ⟨c5, hU5, ⟨x, rfl, x0, x1⟩, rfl⟩, rfl⟩, rfl⟩, rfl⟩, rfl⟩
    have hw : way = 0 ∨ way = 1 ∨ way = 2 := by omega
    rcases hw with rfl | rfl | rfl
    · exact ⟨Q, _, _, .non, rfl, rfl, rfl, c5, none, hU5, rfl, fun h => absurd h (by decide), (fun _ x hx => nomatch hx), rfl⟩
    · exact ⟨Q, _, _, .int (am + 1), rfl, rfl, rfl, c5, some (am + 1), hU5, rfl, fun h => absurd h (by decide), fun _ x hx => by cases hx; omega, rfl⟩
    · exact ⟨Q, _, _, .int (1 + x), rfl, rfl, rfl, c5, some (1 + x), hU5, rfl, fun _ => ⟨1 + x, rfl, by omega⟩, fun h => absurd rfl h, rfl⟩
  rintro d c ⟨c5, o, ⟨va, vb, vk, rfl, _, _⟩, rfl, ho2, hoN, rfl⟩
  have fO : (oInt o).fix = true := by cases o <;> rfl
  show HS _ (Lk F [(p, Co.lst [.int va, .int vb, .int vk]), (q, Co.lst (ts.map (sumD am))), (T, Co.lst [.int t0, .int t1])]) [some (.ref p), some (.int am), some (.ref q), some (eTimes t0 t1 (t0 + t1 - 1)), some (.int (n : Nat)), some (.int way), some (oInt o), none, none, none, none] _ _
  -- how many looks, the ends
  have cmS : ∀ (a : Int) (b : Nat), a < 1000 → 0 ≤ a → CMul a b := fun a b h1 h2 => .inl ⟨by omega, by omega⟩
  refine hs_set 7 sc_right.nd (pd_add (pd_mul pd_int (pd_var 4) (cmS 18 n (by decide) (by decide))) pd_int) ?_
  have hn3 : n ≤ 3 ∧ 2 ≤ n := by rcases hn with e | e <;> (rw [e]; decide)
  clear hlen
  have t03 : 1 ≤ t0 ∧ t0 ≤ 3 := by rcases h0 with e | e | e <;> omega
  have t13 : 1 ≤ t1 ∧ t1 ≤ 3 := by rcases h1 with e | e | e <;> omega
  let Ew : D → Option D → Ev := fun m e => [some (.ref p), some (.int am), some (.ref q), some (eTimes t0 t1 (t0 + t1 - 1)), some (.int (n : Nat)), some (.int way), some (oInt o), some m, e, none, none]
  have hgo : ∀ t ∈ ts, t.2.2 = 0 ∨ t.2.2 = 1 := fun t ht => (hts t ht).2
  have hge : ∀ t ∈ ts, 0 ≤ t.1 := fun t ht => (hts t ht).1
  have fin : ∀ (en : Nat → Int) (many : Nat), many ≤ 1000 → ((∀ j, j < many → okT (rnC C ⟨cksOf am en ts, t0, t1, t0 + t1 - 1, am, o⟩) (tms (rnC C ⟨cksOf am en ts, t0, t1, t0 + t1 - 1, am, o⟩) j) (runW (rnC C ⟨cksOf am en ts, t0, t1, t0 + t1 - 1, am, o⟩) j) = true) ∧ okEnd2 (cksOf am en ts).length (Cse.full ⟨cksOf am en ts, t0, t1, t0 + t1 - 1, am, o⟩) (runW (rnC C ⟨cksOf am en ts, t0, t1, t0 + t1 - 1, am, o⟩) many) = true) →
      HS (bx P w K mg base nmRight "_law_right" (top 57) f cdv A outer s H E) (Lk F [(p, Co.lst [.int va, .int vb, .int vk]), (q, Co.lst (ts.map (sumD am))), (T, Co.lst [.int t0, .int t1])]) (Ew (.int many) (some (.tup ((List.range n).map fun i => .int (en i))))) [(defBody (top 57)).getLast!] (oRW F (rIs (.bl true) [])) := by
    intro en many hm hG
    have fEn : fixL ((List.range n).map fun i => D.int (en i)) = true := by
      generalize List.range n = l
      induction l with
      | nil => rfl
      | cons i l ih => show (true && fixL (l.map fun i => D.int (en i))) = true; rw [ih]; rfl
    have hfx : fixL [.ref q, eTimes t0 t1 (t0 + t1 - 1), .int am, oInt o, .tup ((List.range n).map fun i => .int (en i)), .int many] = true := by
      show (true && (true && (true && ((oInt o).fix && (fixL ((List.range n).map fun i => D.int (en i)) && (true && true)))))) = true
      rw [fO, fEn]; rfl
    refine hs_retW (ch_drop (ch_to (ch_callR (RL := rIsL [.ref q, eTimes t0 t1 (t0 + t1 - 1), .int am, oInt o, .tup ((List.range n).map fun i => .int (en i)), .int many] _) (R := fun d c => d = .bl true) cp hr (by decide) (chs_pds (pds_cons (pd_var 2) (pds_cons (pd_var 3) (pds_cons (pd_var 1) (pds_cons (pd_var 6) (pds_cons (pd_var 8) (pds_cons (pd_var 7) pds_nil)))))) hfx) ?_) ?_))
    · rintro ds c ⟨rfl, rfl⟩
      refine ⟨[(q, .lst (ts.map (sumD am)))], [(p, .lst [.int va, .int vb, .int vk]), (T, .lst [.int t0, .int t1])], _, List.Perm.swap _ _ _, ⟨⟨cksOf am en ts, t0, t1, t0 + t1 - 1, am, o⟩, many, q, cse_ok ham.1 htl hn h1, hm, hG.1, hG.2, by rw [cks_own hgo], by rw [cks_en, htl], rfl⟩, fun d ca ⟨h1, _⟩ => h1⟩
    · rintro d c rfl
      exact ⟨[], c, rfl, rfl, rfl⟩
  by_cases hw : way = 2
  · subst hw
    obtain ⟨x, rfl, hx⟩ := ho2 rfl
    let en : Nat → Int := fun k => (18 * n + 8 : Nat) * t1 + 60 - (2 * t0 + 2 * t1) * k
    have hm8 : (18 : Int) * (n : Nat) + 8 = ((18 * n + 8 : Nat) : Int) := by omega
    rw [hm8]
    refine hs_nx (h_ifT (pb_eq hr (pd_var 5) pd_int (by rfl)) (hs_set (d := .tup ((List.range n).map fun i => .int (en i))) 8 sc_right.nd ?_ hs_end)) (fin en (18 * n + 8) (by omega) (cse_paid ham.1 hge htl hn h0 h1 hx fun _ _ => rfl))
    refine pd_tupleL B.tup (PD.to (pd_lcR (n := n) (g := gName 10) (own := [("_law_k", 10)]) (envs := fun d => (wipeE (Ew (.int ((18 * n + 8 : Nat) : Int)) none) [10]).set 10 (some d)) (keep := fun _ => true) (out := fun d => match d with | .int i => .int (en i.toNat) | _ => .non) rfl sc_right.nd B.rng (pd_var 4) (by omega) (blkOk_by (N := nmRight) (sc := defScope (top 57)) (by decide +kernel)) (fun s H C cl fp => pg_name (i := 10) sc_right.nd rfl (.inl rfl) (.inr rfl)) (fun d hd => tg_name 10) (fun _ _ _ _ _ d hd => ptd_nil) (fun _ _ _ _ _ d hd _ => ?_) (fun d hd _ => ?_)) ?_)
    · obtain ⟨i, hi, rfl⟩ := List.mem_map.mp hd
      have hin : i < n := List.mem_range.mp hi
      show PD _ _ _ _ (.int (en ((i : Int)).toNat))
      rw [Int.toNat_natCast]
      exact (pd_sub (pd_add (pd_mul (pd_var 7) (pd_ixT (pd_var 3) pd_int) (.inl ⟨by omega, by omega⟩)) pd_int) (pd_mul (pd_add (pd_mul pd_int (pd_ixT (pd_var 3) pd_int) (.inl ⟨by decide, by decide⟩)) (pd_mul pd_int (pd_ixT (pd_var 3) pd_int) (.inl ⟨by decide, by decide⟩))) (pd_var 10) (.inl ⟨by omega, by omega⟩)))
    · obtain ⟨i, hi, rfl⟩ := List.mem_map.mp hd
      rfl
    · rw [List.filter_eq_self.mpr (fun _ _ => rfl), List.map_map]
      exact congrArg D.lst (List.map_congr_left fun i _ => by show D.int (en ((i : Int)).toNat) = _; rw [Int.toNat_natCast])
  · let en : Nat → Int := fun k => (18 * ((n : Int) - k) + 8) * t1 * 2
    have hm8 : (18 : Int) * (n : Nat) + 8 = ((18 * n + 8 : Nat) : Int) := by omega
    have hm2 : (2 : Int) * ((18 * n + 8 : Nat) : Int) + 20 = ((2 * (18 * n + 8) + 20 : Nat) : Int) := by omega
    have ew : D.eqb (.int way) (.int 2) = false := decide_eq_false hw
    rw [hm8]
    refine hs_nx (h_ifF (pb_eq hr (pd_var 5) pd_int ew) (hs_set (d := .tup ((List.range n).map fun i => .int (en i))) 8 sc_right.nd ?_ (hs_set 7 sc_right.nd (PD.to (pd_add (pd_mul pd_int (pd_var 7) (.inl ⟨by decide, by decide⟩)) pd_int) (congrArg D.int hm2)) hs_end))) (fin en (2 * (18 * n + 8) + 20) (by omega) (cse_void ham.1 hge htl hn h0 h1 (hoN hw) fun _ _ => rfl))
    refine pd_tupleL B.tup (PD.to (pd_lcR (n := n) (g := gName 10) (own := [("_law_k", 10)]) (envs := fun d => (wipeE (Ew (.int ((18 * n + 8 : Nat) : Int)) none) [10]).set 10 (some d)) (keep := fun _ => true) (out := fun d => match d with | .int i => .int (en i.toNat) | _ => .non) rfl sc_right.nd B.rng (pd_var 4) (by omega) (blkOk_by (N := nmRight) (sc := defScope (top 57)) (by decide +kernel)) (fun s H C cl fp => pg_name (i := 10) sc_right.nd rfl (.inl rfl) (.inr rfl)) (fun d hd => tg_name 10) (fun _ _ _ _ _ d hd => ptd_nil) (fun _ _ _ _ _ d hd _ => ?_) (fun d hd _ => ?_)) ?_)
    · obtain ⟨i, hi, rfl⟩ := List.mem_map.mp hd
      have hin : i < n := List.mem_range.mp hi
      show PD _ _ _ _ (.int (en ((i : Int)).toNat))
      rw [Int.toNat_natCast]
      exact (pd_mul (pd_mul (pd_add (pd_mul pd_int (pd_sub (pd_var 4) (pd_var 10)) (.inl ⟨by decide, by decide⟩)) pd_int) (pd_ixT (pd_var 3) pd_int) (.inl ⟨by omega, by omega⟩)) pd_int (.inr ⟨by decide, by decide⟩))
    · obtain ⟨i, hi, rfl⟩ := List.mem_map.mp hd
      rfl
    · rw [List.filter_eq_self.mpr (fun _ _ => rfl), List.map_map]
      exact congrArg D.lst (List.map_congr_left fun i _ => by show D.int (en ((i : Int)).toNat) = _; rw [Int.toNat_natCast])
end
end Sd
namespace Sd
open PySem L2
section
variable {P : Program} {w : World} {K : PySem.W.Frag} {mg : Str → Option Value} {base : Heap}
def spLaw (K : PySem.W.Frag) : Sp := fun vs H Q _ => ∃ (a : Addr) (ns : List Int), vs = [.ref a] ∧ SqL K H a (ns.map V.int) ∧ ns.length ≤ 63 ∧ ∀ H', Q (.bl true) H'
theorem sc_law : FnScope ["_law_script"] ["_law_script"] (defScope (top 58)) := ⟨rfl, rfl, rfl, by decide +kernel, rfl, by decide +kernel, by decide +kernel⟩
theorem ch_cells {X : Cx} {F : Asr} {env : Ev} {e1 e2 : Expr} {p pos : Pos} {j : Nat} {l : Addr} {ns : List Int} (cc : Cal X.prog X.w X.K X.mg X.base CX0 1 "_law_cells" (spCl X.K)) (hr : Room j X.A) (hj : 1 ≤ j) (hF : ∀ H, F.p H → (Scr X.K l ns).p H) (hn : ns.length ≤ 63) (ha : PDs X (Lk F []) env [e1, e2] [.ref l, .int 1]) (hg : Gl X "_law_cells" := by rfl)
    (he : starEach (e1 :: [e2]) X.env = (false, eval e1 X.env) :: starEach [e2] X.env := by rfl) (hpl : (backTo pos (starEach [e2] X.env)).any (·.1) = false := by rfl) : PCh X F [] env (.Call (.Name "_law_cells" p) [e1, e2] [] pos) (fun d c => ∃ (q : Addr) (z : Int), d = .ref q ∧ c = [(q, .lst [.int z])]) := by
  obtain ⟨f, fd, ps, FO, hm, kp, bd⟩ := cc.ex
  exact (pe_call (E := E0) (dvs := []) FO (hr.mono hj) hg hm kp bd .nil pass0 ha (by decide) he hpl).wk fun σ H Q ⟨hI, hE, k⟩ => ⟨hI, hE, fun vs H1 s1 r1 => by
    obtain ⟨v, u, e, rv, ru⟩ := r1.two
    have ev : v = .ref l := rv
    have eu : u = .int 1 := ru
    subst e ev eu
    have hI1 := (Lk F []).mono s1 hI
    refine ⟨l, ns, rfl, hF _ (LkP.le hI1), hn, fun z p H' s2 hp hx => ?_⟩
    exact k (.ref p) H' (.ref p) [(p, .lst [.int z])] ⟨p, z, rfl, rfl⟩ (LkP.new (cs := []) (c' := .lst [.int z]) hI1 s2 hp ⟨rfl, [.int z], hx, by unfold RepL; exact ⟨_, [], rfl, rfl, rfl⟩⟩) rfl rfl ((Tr.of s1).trans (Tr.of s2))⟩
theorem ok_law {f : Addr} {fd : FuncData} (Fn : Fun K "law" "law" (top 58) f fd) (ch : Cal P w K mg base CX0 22 "_law_by_hand_right" (spW S_hand)) (cr : Cal P w K mg base CX0 22 "_law_right" (spW S_right)) (cb : Cal P w K mg base CX0 1 "_law_box" (spW S_box)) (cc : Cal P w K mg base CX0 1 "_law_cells" (spCl K)) :
    FnOk P w K mg base CX0 23 f fd ["_law_script"] (spLaw K) := by
  refine Fn.ok (k := 22) sc_law (fun vs H Q E h => ?_) (fun cdv A outer s H vs Q E hr h => ?_)
  · obtain ⟨a, ns, rfl, _⟩ := h
    rfl
  · obtain ⟨a, ns, rfl, hs, hn, q⟩ := h
    have r : RepL H [.ref a] [V.ref a] := by
      unfold RepL
      exact ⟨_, [], rfl, rfl, rfl⟩
    have hE0 : fixE (startE ["_law_script"] [.ref a]) = true := rfl
    have body : HS (bx P w K mg base ["_law_script"] "law" (top 58) f cdv A outer s H E) (Scr K a ns) (startE ["_law_script"] [.ref a]) (defBody (top 58)) (oRW (Scr K a ns) (rIs (.bl true) [])) := by
      refine hs_lk (hs_retW (ch_and hE0 (ch_call0 (R' := rIs (.bl true) []) ch hr (by decide) ⟨rfl, rfl, rfl⟩ (fun d ca ⟨h1, h2⟩ => ⟨h1, by rw [h2]; rfl⟩)) (ch_one (ch_drop (ch_to (ch_callR (R := fun d c => d = .bl true) cr hr (by decide) (chs_one (ch_callR (R := fun d c => ∃ p c1 cB, d = .ref p ∧ urnC p 0 c1 ∧ (c1 ++ cB).Perm c) cb hr (by decide) (chs_cons (Rs := fun d c ds c' => ds = [.int 0] ∧ c' = c) hE0 (ch_cells (ns := ns) cc hr (by decide) (fun _ h => h) hn (pds_cons (pd_var 0) (pds_cons pd_int pds_nil))) (fun d c hR => chs_to (chs_pds (pds_cons pd_int pds_nil) rfl) fun ds c' ⟨h1, h2⟩ => ⟨h1, h2⟩)) ?_)) ?_) ?_)))))
      · rintro ds c ⟨d, c', ds', ⟨q, z, rfl, rfl⟩, ⟨rfl, rfl⟩, rfl⟩
        refine ⟨[(q, .lst [.int z])], [], _, List.Perm.refl _, ⟨q, z, rfl, rfl, rfl⟩, ?_⟩
        rintro d ca ⟨p, c1, rfl, hU, rfl⟩
        exact ⟨p, c1, [(q, .lst [.int z])], rfl, hU, by rw [List.append_nil]; exact List.perm_append_comm (l₁ := c1) (l₂ := [(q, Co.lst [.int z])])⟩
      · rintro ds c ⟨d, ⟨p, c1, cB, rfl, hU, hp⟩, rfl⟩
        exact ⟨c1, cB, _, hp, ⟨p, hU, rfl, rfl⟩, fun d ca ⟨h1, _⟩ => h1⟩
      · rintro d c rfl
        exact ⟨[], c, rfl, rfl, rfl⟩
    refine ⟨_, body, hs, start_env r, fun v H' d c hR hP rv hf => ?_⟩
    obtain ⟨rfl, rfl⟩ := hR
    have ev : v = .bl true := rv
    rw [ev]
    exact q H'
end
end Sd
namespace Sd
open PySem L2
/-! ### all promises, tied -/
structure Facts (K : PySem.W.Frag) (mg : Str → Option Value) (C CU : Addr) (t1 t2 : Tok) : Prop where
  B : Free mg
  U : UnfitAt K mg CU
  ml1 : mg "MOST_LOCKS_offers" = some (.int 8 t1)
  ml2 : mg "MOST_LOCKS_minds" = some (.int 8 t2)
  LK : LookK K C
  MK : MkD K mg C
  f_look_at : FD K mg "look_at" (top 6) ["times", "moment"]
  f_look_by : FD K mg "look_by" (top 7) ["times", "moment"]
  f_show_by : FD K mg "show_by" (top 16) ["times", "end"]
  f_close_by : FD K mg "close_by" (top 17) ["times", "end"]
  f_tuple_of : FD K mg "tuple_of" (top 4) ["thing"]
  f_sure_channel : FD K mg "sure_channel" (top 8) ["net", "channel"]
  f_person_of : FD K mg "person_of" (top 9) ["net", "channel", "side"]
  f_side_of : FD K mg "side_of" (top 10) ["net", "channel", "person"]
  f_first_sheet : FD K mg "first_sheet" (top 12) ["net", "channel"]
  f_in_time : FD K mg "in_time" (top 18) ["times", "moment", "end"]
  f_least_in_end : FD K mg "least_in_end" (top 19) ["times", "out_end"]
  f_enough_gap : FD K mg "enough_gap" (top 20) ["times", "in_end", "out_end"]
  f_lock_of : FD K mg "lock_of" (top 13) ["sheet", "image"]
  f_with_sum : FD K mg "with_sum" (top 23) ["sums", "side", "amount"]
  f_with_lock : FD K mg "with_lock" (top 24) ["sheet", "side", "lock"]
  f_without_lock : FD K mg "without_lock" (top 25) ["sheet", "payer", "image", "to"]
  f_changed : FD K mg "changed" (top 26) ["sheet", "side", "change"]
  f_changes_of : FD K mg "changes_of" (top 27) ["sheet", "side", "other"]
  f_change_or_none : FD K mg "change_or_none" (top 28) ["sheet", "side", "other"]
  f_begun_book : FD K mg "begun_book" (top 29) ["net", "channel", "side"]
  f_in_turn : FD K mg "in_turn" (top 30) ["book"]
  f_wanting_just : FD K mg "wanting_just" (top 31) ["book", "changes"]
  f_with_newest : FD K mg "with_newest" (top 32) ["book", "sheet"]
  f_exposed : FD K mg "exposed" (top 36) ["book"]
  f_taken : FD K mg "taken" (top 33) ["book", "letter"]
  f_first_fitting : FD K mg "first_fitting" (top 34) ["book"]
  f_book_at_look : FD K mg "book_at_look" (top 35) ["book"]
  f_may_open : FD K mg "may_open" (top 38) ["times", "moment", "side", "image", "sheets", "opened"]
  f_passes : FD K mg "passes" (top 39) ["times", "moment", "gap", "lock", "out"]
  f_answer : FD K mg "answer" (top 40) ["times", "moment", "gap", "keep", "lock", "onward"]
  f_at_look : FD K mg "at_look" (top 45) ["mind", "moment", "ledger", "box"]
  f_channels_of : FD K mg "channels_of" (top 11) ["net", "person"]
  f_begun_mind : FD K mg "begun_mind" (top 43) ["net", "times", "person", "wishes", "asks", "cares"]
  f_known_by : FD K mg "known_by" (top 47) ["mind"]
  f_held_by : FD K mg "held_by" (top 46) ["mind"]
  f_law_same : FD K mg "_law_same" (top 52) ["_law_mine", "_law_due"]
  f_law_town_of : FD K mg "_law_town_of" (top 53) ["_law_sums"]
  f_law_take : FD K mg "_law_take" (top 50) ["_law_urn", "_law_low_so"]
  f_law_box : FD K mg "_law_box" (top 49) ["_law_script", "_law_k"]
  f_law_cells : FD K mg "_law_cells" (top 51) ["_law_script", "_law_roof_so"]
  f_law_all_looks : FD K mg "_law_all_looks" (top 54) ["_law_minds", "_law_times", "_law_many"]
  f_law_paid_right : FD K mg "_law_paid_right" (top 55) ["_law_sums", "_law_times", "_law_amount", "_law_ask", "_law_ends", "_law_many"]
  f_law_by_hand_right : FD K mg "_law_by_hand_right" (top 56) []
  f_law_right : FD K mg "_law_right" (top 57) ["_law_tin"]
  m_is_free : MD K C "is_free" "Look.is_free" (mth 2) ["self", "place"]
  m_side : MD K C "side" "Look.side" (mth 3) ["self", "place"]
  m_other : MD K C "other" "Look.other" (mth 4) ["self", "place"]
  m_locks_in : MD K C "locks_in" "Look.locks_in" (mth 5) ["self", "place"]
  m_is_asked : MD K C "is_asked" "Look.is_asked" (mth 6) ["self", "lock"]
  m_knows : MD K C "knows" "Look.knows" (mth 7) ["self", "lock"]
  m_may_go : MD K C "may_go" "Look.may_go" (mth 14) ["self", "place", "image"]
  m_is_bound : MD K C "is_bound" "Look.is_bound" (mth 15) ["self", "image"]
  m_pair_of : MD K C "pair_of" "Look.pair_of" (mth 16) ["self", "place", "image"]
  m_is_sure : MD K C "is_sure" "Look.is_sure" (mth 19) ["self", "pair"]
  m_must_close : MD K C "must_close" "Look.must_close" (mth 23) ["self", "place", "lock"]
  m_lets : MD K C "lets" "Look.lets" (mth 10) ["self", "place", "lock"]
  m_out_of : MD K C "out_of" "Look.out_of" (mth 17) ["self", "place", "lock"]
  m_see : MD K C "see" "Look.see" (mth 8) ["self"]
  m_hear : MD K C "hear" "Look.hear" (mth 9) ["self", "source", "letter"]
  m_want : MD K C "want" "Look.want" (mth 11) ["self", "place", "change"]
  m_settle : MD K C "settle" "Look.settle" (mth 20) ["self", "place"]
  m_send_on : MD K C "send_on" "Look.send_on" (mth 22) ["self", "place"]
  m_treat : MD K C "treat" "Look.treat" (mth 18) ["self", "place", "lock"]
  m_wish : MD K C "wish" "Look.wish" (mth 12) ["self"]
  m_offer : MD K C "offer" "Look.offer" (mth 21) ["self", "place"]
  m_mind : MD K C "mind" "Look.mind" (mth 1) ["self"]
theorem tied {P : Program} {w : World} {K : PySem.W.Frag} {mg : Str → Option Value} {base : Heap} {C CU : Addr} {t1 t2 : Tok} {f : Addr} {fd : FuncData} (T : Facts K mg C CU t1 t2) (Fn : Fun K "law" "law" (top 58) f fd) : FnOk P w K mg base CX0 23 f fd ["_law_script"] (spLaw K) := by
  have h_ok_look_at : Cal P w K mg base CX0 1 "look_at" (spD S_look_at) := ok_look_at T.f_look_at
  have h_ok_look_by : Cal P w K mg base CX0 1 "look_by" (spD S_look_by) := ok_look_by T.f_look_by
  have h_ok_show_by : Cal P w K mg base CX0 2 "show_by" (spD S_show_by) := ok_show_by T.f_show_by h_ok_look_by
  have h_ok_close_by : Cal P w K mg base CX0 3 "close_by" (spD S_close_by) := ok_close_by T.f_close_by h_ok_look_by h_ok_show_by
  have h_ok_tuple_of : Cal P w K mg base CX0 11 "tuple_of" (spD (S_tuple_of 10)) := ok_tuple_of T.B T.f_tuple_of 10
  have h_ok_sure : Cal P w K mg base CX0 1 "sure_channel" (spD S_sure) := ok_sure T.B T.f_sure_channel
  have h_ok_person : Cal P w K mg base CX0 2 "person_of" (spD S_person) := ok_person T.f_person_of h_ok_sure
  have h_ok_side : Cal P w K mg base CX0 2 "side_of" (spD S_side) := ok_side T.f_side_of h_ok_sure
  have h_ok_first : Cal P w K mg base CX0 2 "first_sheet" (spD S_first) := ok_first T.f_first_sheet h_ok_sure
  have h_ok_in_time : Cal P w K mg base CX0 4 "in_time" (spD S_in_time) := ok_in_time T.f_in_time h_ok_close_by
  have h_ok_least : Cal P w K mg base CX0 2 "least_in_end" (spD S_least) := ok_least T.f_least_in_end h_ok_look_at
  have h_ok_gap : Cal P w K mg base CX0 3 "enough_gap" (spD S_gap) := ok_gap T.f_enough_gap h_ok_least
  have h_ok_lock_of : Cal P w K mg base CX0 12 "lock_of" (spD S_lock_of) := ok_lock_of T.f_lock_of h_ok_tuple_of
  have h_ok_with_sum : Cal P w K mg base CX0 1 "with_sum" (spD S_with_sum) := ok_with_sum T.f_with_sum
  have h_ok_with_lock : Cal P w K mg base (L2.CX P w) 13 "with_lock" (spX CU S_with_lock) := ok_with_lock T.B T.U T.ml1 T.f_with_lock h_ok_lock_of h_ok_with_sum
  have h_ok_without : Cal P w K mg base (L2.CX P w) 13 "without_lock" (spX CU S_without) := ok_without T.B T.U T.f_without_lock h_ok_lock_of h_ok_with_sum
  have h_ok_changed : Cal P w K mg base (L2.CX P w) 14 "changed" (spX CU S_changed) := ok_changed T.f_changed h_ok_tuple_of h_ok_with_lock h_ok_without
  have h_ok_changes_of : Cal P w K mg base CX0 1 "changes_of" (spD S_changes_of) := ok_changes_of T.f_changes_of
  have h_ok_con : Cal P w K mg base CX0 15 "change_or_none" (spD S_con) := ok_con T.U T.f_change_or_none h_ok_changes_of h_ok_changed
  have h_ok_begun_book : Cal P w K mg base CX0 12 "begun_book" (spD S_begun_book) := ok_begun_book T.f_begun_book h_ok_tuple_of h_ok_first
  have h_ok_in_turn : Cal P w K mg base CX0 1 "in_turn" (spD S_in_turn) := ok_in_turn T.f_in_turn
  have h_ok_wanting_just : Cal P w K mg base CX0 12 "wanting_just" (spD S_wanting_just) := ok_wanting_just T.f_wanting_just h_ok_tuple_of
  have h_ok_with_newest : Cal P w K mg base CX0 1 "with_newest" (spD S_with_newest) := ok_with_newest T.f_with_newest
  have h_ok_exposed : Cal P w K mg base CX0 12 "exposed" (spD S_exposed) := ok_exposed T.f_exposed h_ok_tuple_of
  have h_ok_taken : Cal P w K mg base CX0 16 "taken" (spD S_taken) := ok_taken T.f_taken h_ok_tuple_of h_ok_in_turn h_ok_with_newest h_ok_con
  have h_ok_ff : Cal P w K mg base CX0 15 "first_fitting" (spD S_ff) := ok_ff T.B T.B.enu T.U T.f_first_fitting h_ok_changed
  have h_ok_bal : Cal P w K mg base CX0 16 "book_at_look" (spD S_bal) := ok_bal T.f_book_at_look h_ok_tuple_of h_ok_in_turn h_ok_ff h_ok_changed
  have h_ok_may_open : Cal P w K mg base CX0 12 "may_open" (spD S_may_open) := ok_may_open T.B T.f_may_open h_ok_tuple_of h_ok_look_at
  have h_ok_passes : Cal P w K mg base CX0 12 "passes" (spD S_passes) := ok_passes T.f_passes h_ok_tuple_of h_ok_gap h_ok_in_time
  have h_ok_answer : Cal P w K mg base CX0 13 "answer" (spD S_answer) := ok_answer T.f_answer h_ok_tuple_of h_ok_in_time h_ok_passes
  have h_ok_is_free : Met P w K mg base 1 C "is_free" (spR (S_is_free C)) := ok_is_free T.LK T.m_is_free
  have h_ok_side_ : Met P w K mg base 1 C "side" (spR (S_sideM C)) := ok_side_ T.LK T.m_side
  have h_ok_other : Met P w K mg base 3 C "other" (spR (S_other C)) := ok_other T.LK T.m_other h_ok_person h_ok_side_
  have h_ok_locks_in : Met P w K mg base 2 C "locks_in" (spR (S_locks_in C)) := ok_locks_in T.LK T.m_locks_in h_ok_side_
  have h_ok_is_asked : Met P w K mg base 1 C "is_asked" (spR (S_is_asked C)) := ok_is_asked T.B T.LK T.m_is_asked
  have h_ok_knows : Met P w K mg base 2 C "knows" (spR (S_knows C)) := ok_knows T.LK T.m_knows h_ok_is_asked
  have h_ok_may_go : Met P w K mg base 13 C "may_go" (spR (S_may_go C)) := ok_may_go T.B T.LK T.m_may_go h_ok_side_ h_ok_exposed h_ok_may_open
  have h_ok_is_bound : Met P w K mg base 14 C "is_bound" (spR (S_is_bound C)) := ok_is_bound T.B T.LK T.m_is_bound h_ok_may_go
  have h_ok_pair_of : Met P w K mg base 1 C "pair_of" (spR (S_pair_of C)) := ok_pair_of T.LK T.m_pair_of
  have h_ok_is_sure : Met P w K mg base 4 C "is_sure" (spR (S_is_sure C)) := ok_is_sure T.B T.LK T.m_is_sure h_ok_locks_in h_ok_close_by
  have h_ok_must_close : Met P w K mg base 15 C "must_close" (spR (S_must_close C)) := ok_must_close T.LK T.m_must_close h_ok_close_by h_ok_knows h_ok_is_bound
  have h_ok_lets : Met P w K mg base 13 C "lets" (spR (S_lets C)) := ok_lets T.B ⟨_, T.ml2⟩ T.LK T.m_lets h_ok_is_free h_ok_side_ h_ok_exposed
  have h_ok_out_of : Met P w K mg base 14 C "out_of" (spR (S_out_of C)) := ok_out_of T.LK T.m_out_of h_ok_side_ h_ok_lets
  have h_ok_see : Met P w K mg base 1 C "see" (spM (S_see C)) := ok_see T.LK T.m_see
  have h_ok_hear : Met P w K mg base 17 C "hear" (spM (S_hear C)) := ok_hear T.B T.LK T.m_hear h_ok_is_free h_ok_other h_ok_taken
  have h_ok_want : Met P w K mg base 1 C "want" (spM (S_want C)) := ok_want T.B T.LK T.m_want
  have h_ok_settle : Met P w K mg base 5 C "settle" (spM (S_settle C)) := ok_settle T.B T.LK T.m_settle h_ok_side_ h_ok_is_sure h_ok_want
  have h_ok_send : Met P w K mg base 14 C "send_on" (spM (S_send C)) := ok_send T.LK T.m_send_on h_ok_may_go h_ok_other
  have h_ok_treat : Met P w K mg base 15 C "treat" (spM (S_treat C)) := ok_treat T.LK T.m_treat h_ok_pair_of h_ok_is_bound h_ok_out_of h_ok_knows h_ok_answer h_ok_other h_ok_want
  have h_ok_wish : Met P w K mg base 14 C "wish" (spE (S_wish C)) := ok_wish T.B T.LK T.m_wish h_ok_is_free h_ok_side_ h_ok_lets h_ok_want
  have h_ok_offer : Met P w K mg base 17 C "offer" (spM (S_offer C)) := ok_offer T.B T.LK T.m_offer h_ok_bal h_ok_wanting_just h_ok_other
  have h_ok_mind : Met P w K mg base 1 C "mind" (spR (S_mind C)) := ok_mind T.B T.LK T.m_mind
  have h_ok_locks_inN : Met P w K mg base 2 C "locks_in" (spN (S_locks_inN C)) := ok_locks_inN T.LK T.m_locks_in h_ok_side_
  have h_ok_at : Cal P w K mg base CX0 19 "at_look" (spD (S_at C)) := ok_at T.B T.LK T.MK T.f_at_look h_ok_tuple_of h_ok_see h_ok_hear h_ok_wish h_ok_is_free h_ok_locks_inN h_ok_treat h_ok_settle h_ok_offer h_ok_send h_ok_must_close h_ok_mind
  have h_ok_chs : Cal P w K mg base CX0 3 "channels_of" (spD S_chs) := ok_chs T.B T.f_channels_of h_ok_side
  have h_ok_bm : Cal P w K mg base CX0 13 "begun_mind" (spD S_bm) := ok_bm T.B T.f_begun_mind h_ok_tuple_of h_ok_side h_ok_chs h_ok_begun_book
  have h_ok_known : Cal P w K mg base CX0 12 "known_by" (spD S_known) := ok_known T.f_known_by h_ok_tuple_of
  have h_ok_held : Cal P w K mg base CX0 12 "held_by" (spD S_held) := ok_held T.B T.f_held_by h_ok_tuple_of
  have h_ok_same : Cal P w K mg base CX0 4 "_law_same" (spD (S_same 3)) := ok_same T.B T.f_law_same 3
  have h_ok_town : Cal P w K mg base CX0 1 "_law_town_of" (spD S_town) := ok_town T.B T.f_law_town_of
  have h_ok_take : Cal P w K mg base CX0 1 "_law_take" (spW S_take) := ok_take T.B T.f_law_take
  have h_ok_box : Cal P w K mg base CX0 1 "_law_box" (spW S_box) := ok_box T.B T.f_law_box
  have h_ok_cells : Cal P w K mg base CX0 1 "_law_cells" (spCl K) := ok_cells T.B T.f_law_cells
  have h_ok_all : Cal P w K mg base CX0 20 "_law_all_looks" (spW (S_all C)) := ok_all T.B T.f_law_all_looks h_ok_at
  have h_ok_paid : Cal P w K mg base CX0 21 "_law_paid_right" (spW (S_paid C)) := ok_paid T.B T.f_law_paid_right h_ok_town h_ok_bm h_ok_all h_ok_known h_ok_held h_ok_same
  have h_ok_hand : Cal P w K mg base CX0 22 "_law_by_hand_right" (spW S_hand) := ok_hand T.f_law_by_hand_right h_ok_paid
  have h_ok_right : Cal P w K mg base CX0 22 "_law_right" (spW S_right) := ok_right T.B T.f_law_right h_ok_take h_ok_paid
  exact ok_law Fn h_ok_hand h_ok_right h_ok_box h_ok_cells
section
variable {K : PySem.W.Frag} {mg : Str → Option Value} {h : Heap} {f C : Addr} {od an : Option Addr} {sl : Array (Option Value)} {oc kV dc pm cd ct : Value}
theorem mkF_look_at (X : K.In h) (G : h.Ns mainGlobals mg) (a : PySem.W.nsIn K mainGlobals "look_at" = some (some (.ref f))) (l : K.lookup f = some ⟨oc, od, .func (PySem.W.fnOf "look_at" "look_at" (defArgs (top 6)) (defBody (top 6)) (defScope (top 6)) .none kV dc pm an cd ct), sl⟩) (c : PySem.W.codeIn K cd "look_at" = true) (k : PySem.W.keepIn K (.ref f) = true) : FD K mg "look_at" (top 6) ["times", "moment"] :=
  ⟨f, _, fun_mk (st := top 6) l c k, PySem.W.mg_of X G a, (fun_mk (st := top 6) l c k).binds (ps := ["times", "moment"]) fun _ _ _ _ _ _ us hl => match us, hl with | [_, _], _ => rfl⟩
theorem mkF_look_by (X : K.In h) (G : h.Ns mainGlobals mg) (a : PySem.W.nsIn K mainGlobals "look_by" = some (some (.ref f))) (l : K.lookup f = some ⟨oc, od, .func (PySem.W.fnOf "look_by" "look_by" (defArgs (top 7)) (defBody (top 7)) (defScope (top 7)) .none kV dc pm an cd ct), sl⟩) (c : PySem.W.codeIn K cd "look_by" = true) (k : PySem.W.keepIn K (.ref f) = true) : FD K mg "look_by" (top 7) ["times", "moment"] :=
  ⟨f, _, fun_mk (st := top 7) l c k, PySem.W.mg_of X G a, (fun_mk (st := top 7) l c k).binds (ps := ["times", "moment"]) fun _ _ _ _ _ _ us hl => match us, hl with | [_, _], _ => rfl⟩
theorem mkF_show_by (X : K.In h) (G : h.Ns mainGlobals mg) (a : PySem.W.nsIn K mainGlobals "show_by" = some (some (.ref f))) (l : K.lookup f = some ⟨oc, od, .func (PySem.W.fnOf "show_by" "show_by" (defArgs (top 16)) (defBody (top 16)) (defScope (top 16)) .none kV dc pm an cd ct), sl⟩) (c : PySem.W.codeIn K cd "show_by" = true) (k : PySem.W.keepIn K (.ref f) = true) : FD K mg "show_by" (top 16) ["times", "end"] :=
  ⟨f, _, fun_mk (st := top 16) l c k, PySem.W.mg_of X G a, (fun_mk (st := top 16) l c k).binds (ps := ["times", "end"]) fun _ _ _ _ _ _ us hl => match us, hl with | [_, _], _ => rfl⟩
theorem mkF_close_by (X : K.In h) (G : h.Ns mainGlobals mg) (a : PySem.W.nsIn K mainGlobals "close_by" = some (some (.ref f))) (l : K.lookup f = some ⟨oc, od, .func (PySem.W.fnOf "close_by" "close_by" (defArgs (top 17)) (defBody (top 17)) (defScope (top 17)) .none kV dc pm an cd ct), sl⟩) (c : PySem.W.codeIn K cd "close_by" = true) (k : PySem.W.keepIn K (.ref f) = true) : FD K mg "close_by" (top 17) ["times", "end"] :=
  ⟨f, _, fun_mk (st := top 17) l c k, PySem.W.mg_of X G a, (fun_mk (st := top 17) l c k).binds (ps := ["times", "end"]) fun _ _ _ _ _ _ us hl => match us, hl with | [_, _], _ => rfl⟩
theorem mkF_tuple_of (X : K.In h) (G : h.Ns mainGlobals mg) (a : PySem.W.nsIn K mainGlobals "tuple_of" = some (some (.ref f))) (l : K.lookup f = some ⟨oc, od, .func (PySem.W.fnOf "tuple_of" "tuple_of" (defArgs (top 4)) (defBody (top 4)) (defScope (top 4)) .none kV dc pm an cd ct), sl⟩) (c : PySem.W.codeIn K cd "tuple_of" = true) (k : PySem.W.keepIn K (.ref f) = true) : FD K mg "tuple_of" (top 4) ["thing"] :=
  ⟨f, _, fun_mk (st := top 4) l c k, PySem.W.mg_of X G a, (fun_mk (st := top 4) l c k).binds (ps := ["thing"]) fun _ _ _ _ _ _ us hl => match us, hl with | [_], _ => rfl⟩
theorem mkF_sure_channel (X : K.In h) (G : h.Ns mainGlobals mg) (a : PySem.W.nsIn K mainGlobals "sure_channel" = some (some (.ref f))) (l : K.lookup f = some ⟨oc, od, .func (PySem.W.fnOf "sure_channel" "sure_channel" (defArgs (top 8)) (defBody (top 8)) (defScope (top 8)) .none kV dc pm an cd ct), sl⟩) (c : PySem.W.codeIn K cd "sure_channel" = true) (k : PySem.W.keepIn K (.ref f) = true) : FD K mg "sure_channel" (top 8) ["net", "channel"] :=
  ⟨f, _, fun_mk (st := top 8) l c k, PySem.W.mg_of X G a, (fun_mk (st := top 8) l c k).binds (ps := ["net", "channel"]) fun _ _ _ _ _ _ us hl => match us, hl with | [_, _], _ => rfl⟩
theorem mkF_person_of (X : K.In h) (G : h.Ns mainGlobals mg) (a : PySem.W.nsIn K mainGlobals "person_of" = some (some (.ref f))) (l : K.lookup f = some ⟨oc, od, .func (PySem.W.fnOf "person_of" "person_of" (defArgs (top 9)) (defBody (top 9)) (defScope (top 9)) .none kV dc pm an cd ct), sl⟩) (c : PySem.W.codeIn K cd "person_of" = true) (k : PySem.W.keepIn K (.ref f) = true) : FD K mg "person_of" (top 9) ["net", "channel", "side"] :=
  ⟨f, _, fun_mk (st := top 9) l c k, PySem.W.mg_of X G a, (fun_mk (st := top 9) l c k).binds (ps := ["net", "channel", "side"]) fun _ _ _ _ _ _ us hl => match us, hl with | [_, _, _], _ => rfl⟩
theorem mkF_side_of (X : K.In h) (G : h.Ns mainGlobals mg) (a : PySem.W.nsIn K mainGlobals "side_of" = some (some (.ref f))) (l : K.lookup f = some ⟨oc, od, .func (PySem.W.fnOf "side_of" "side_of" (defArgs (top 10)) (defBody (top 10)) (defScope (top 10)) .none kV dc pm an cd ct), sl⟩) (c : PySem.W.codeIn K cd "side_of" = true) (k : PySem.W.keepIn K (.ref f) = true) : FD K mg "side_of" (top 10) ["net", "channel", "person"] :=
  ⟨f, _, fun_mk (st := top 10) l c k, PySem.W.mg_of X G a, (fun_mk (st := top 10) l c k).binds (ps := ["net", "channel", "person"]) fun _ _ _ _ _ _ us hl => match us, hl with | [_, _, _], _ => rfl⟩
theorem mkF_first_sheet (X : K.In h) (G : h.Ns mainGlobals mg) (a : PySem.W.nsIn K mainGlobals "first_sheet" = some (some (.ref f))) (l : K.lookup f = some ⟨oc, od, .func (PySem.W.fnOf "first_sheet" "first_sheet" (defArgs (top 12)) (defBody (top 12)) (defScope (top 12)) .none kV dc pm an cd ct), sl⟩) (c : PySem.W.codeIn K cd "first_sheet" = true) (k : PySem.W.keepIn K (.ref f) = true) : FD K mg "first_sheet" (top 12) ["net", "channel"] :=
  ⟨f, _, fun_mk (st := top 12) l c k, PySem.W.mg_of X G a, (fun_mk (st := top 12) l c k).binds (ps := ["net", "channel"]) fun _ _ _ _ _ _ us hl => match us, hl with | [_, _], _ => rfl⟩
theorem mkF_in_time (X : K.In h) (G : h.Ns mainGlobals mg) (a : PySem.W.nsIn K mainGlobals "in_time" = some (some (.ref f))) (l : K.lookup f = some ⟨oc, od, .func (PySem.W.fnOf "in_time" "in_time" (defArgs (top 18)) (defBody (top 18)) (defScope (top 18)) .none kV dc pm an cd ct), sl⟩) (c : PySem.W.codeIn K cd "in_time" = true) (k : PySem.W.keepIn K (.ref f) = true) : FD K mg "in_time" (top 18) ["times", "moment", "end"] :=
  ⟨f, _, fun_mk (st := top 18) l c k, PySem.W.mg_of X G a, (fun_mk (st := top 18) l c k).binds (ps := ["times", "moment", "end"]) fun _ _ _ _ _ _ us hl => match us, hl with | [_, _, _], _ => rfl⟩
theorem mkF_least_in_end (X : K.In h) (G : h.Ns mainGlobals mg) (a : PySem.W.nsIn K mainGlobals "least_in_end" = some (some (.ref f))) (l : K.lookup f = some ⟨oc, od, .func (PySem.W.fnOf "least_in_end" "least_in_end" (defArgs (top 19)) (defBody (top 19)) (defScope (top 19)) .none kV dc pm an cd ct), sl⟩) (c : PySem.W.codeIn K cd "least_in_end" = true) (k : PySem.W.keepIn K (.ref f) = true) : FD K mg "least_in_end" (top 19) ["times", "out_end"] :=
  ⟨f, _, fun_mk (st := top 19) l c k, PySem.W.mg_of X G a, (fun_mk (st := top 19) l c k).binds (ps := ["times", "out_end"]) fun _ _ _ _ _ _ us hl => match us, hl with | [_, _], _ => rfl⟩
theorem mkF_enough_gap (X : K.In h) (G : h.Ns mainGlobals mg) (a : PySem.W.nsIn K mainGlobals "enough_gap" = some (some (.ref f))) (l : K.lookup f = some ⟨oc, od, .func (PySem.W.fnOf "enough_gap" "enough_gap" (defArgs (top 20)) (defBody (top 20)) (defScope (top 20)) .none kV dc pm an cd ct), sl⟩) (c : PySem.W.codeIn K cd "enough_gap" = true) (k : PySem.W.keepIn K (.ref f) = true) : FD K mg "enough_gap" (top 20) ["times", "in_end", "out_end"] :=
  ⟨f, _, fun_mk (st := top 20) l c k, PySem.W.mg_of X G a, (fun_mk (st := top 20) l c k).binds (ps := ["times", "in_end", "out_end"]) fun _ _ _ _ _ _ us hl => match us, hl with | [_, _, _], _ => rfl⟩
theorem mkF_lock_of (X : K.In h) (G : h.Ns mainGlobals mg) (a : PySem.W.nsIn K mainGlobals "lock_of" = some (some (.ref f))) (l : K.lookup f = some ⟨oc, od, .func (PySem.W.fnOf "lock_of" "lock_of" (defArgs (top 13)) (defBody (top 13)) (defScope (top 13)) .none kV dc pm an cd ct), sl⟩) (c : PySem.W.codeIn K cd "lock_of" = true) (k : PySem.W.keepIn K (.ref f) = true) : FD K mg "lock_of" (top 13) ["sheet", "image"] :=
  ⟨f, _, fun_mk (st := top 13) l c k, PySem.W.mg_of X G a, (fun_mk (st := top 13) l c k).binds (ps := ["sheet", "image"]) fun _ _ _ _ _ _ us hl => match us, hl with | [_, _], _ => rfl⟩
theorem mkF_with_sum (X : K.In h) (G : h.Ns mainGlobals mg) (a : PySem.W.nsIn K mainGlobals "with_sum" = some (some (.ref f))) (l : K.lookup f = some ⟨oc, od, .func (PySem.W.fnOf "with_sum" "with_sum" (defArgs (top 23)) (defBody (top 23)) (defScope (top 23)) .none kV dc pm an cd ct), sl⟩) (c : PySem.W.codeIn K cd "with_sum" = true) (k : PySem.W.keepIn K (.ref f) = true) : FD K mg "with_sum" (top 23) ["sums", "side", "amount"] :=
  ⟨f, _, fun_mk (st := top 23) l c k, PySem.W.mg_of X G a, (fun_mk (st := top 23) l c k).binds (ps := ["sums", "side", "amount"]) fun _ _ _ _ _ _ us hl => match us, hl with | [_, _, _], _ => rfl⟩
theorem mkF_with_lock (X : K.In h) (G : h.Ns mainGlobals mg) (a : PySem.W.nsIn K mainGlobals "with_lock" = some (some (.ref f))) (l : K.lookup f = some ⟨oc, od, .func (PySem.W.fnOf "with_lock" "with_lock" (defArgs (top 24)) (defBody (top 24)) (defScope (top 24)) .none kV dc pm an cd ct), sl⟩) (c : PySem.W.codeIn K cd "with_lock" = true) (k : PySem.W.keepIn K (.ref f) = true) : FD K mg "with_lock" (top 24) ["sheet", "side", "lock"] :=
  ⟨f, _, fun_mk (st := top 24) l c k, PySem.W.mg_of X G a, (fun_mk (st := top 24) l c k).binds (ps := ["sheet", "side", "lock"]) fun _ _ _ _ _ _ us hl => match us, hl with | [_, _, _], _ => rfl⟩
theorem mkF_without_lock (X : K.In h) (G : h.Ns mainGlobals mg) (a : PySem.W.nsIn K mainGlobals "without_lock" = some (some (.ref f))) (l : K.lookup f = some ⟨oc, od, .func (PySem.W.fnOf "without_lock" "without_lock" (defArgs (top 25)) (defBody (top 25)) (defScope (top 25)) .none kV dc pm an cd ct), sl⟩) (c : PySem.W.codeIn K cd "without_lock" = true) (k : PySem.W.keepIn K (.ref f) = true) : FD K mg "without_lock" (top 25) ["sheet", "payer", "image", "to"] :=
  ⟨f, _, fun_mk (st := top 25) l c k, PySem.W.mg_of X G a, (fun_mk (st := top 25) l c k).binds (ps := ["sheet", "payer", "image", "to"]) fun _ _ _ _ _ _ us hl => match us, hl with | [_, _, _, _], _ => rfl⟩
theorem mkF_changed (X : K.In h) (G : h.Ns mainGlobals mg) (a : PySem.W.nsIn K mainGlobals "changed" = some (some (.ref f))) (l : K.lookup f = some ⟨oc, od, .func (PySem.W.fnOf "changed" "changed" (defArgs (top 26)) (defBody (top 26)) (defScope (top 26)) .none kV dc pm an cd ct), sl⟩) (c : PySem.W.codeIn K cd "changed" = true) (k : PySem.W.keepIn K (.ref f) = true) : FD K mg "changed" (top 26) ["sheet", "side", "change"] :=
  ⟨f, _, fun_mk (st := top 26) l c k, PySem.W.mg_of X G a, (fun_mk (st := top 26) l c k).binds (ps := ["sheet", "side", "change"]) fun _ _ _ _ _ _ us hl => match us, hl with | [_, _, _], _ => rfl⟩
theorem mkF_changes_of (X : K.In h) (G : h.Ns mainGlobals mg) (a : PySem.W.nsIn K mainGlobals "changes_of" = some (some (.ref f))) (l : K.lookup f = some ⟨oc, od, .func (PySem.W.fnOf "changes_of" "changes_of" (defArgs (top 27)) (defBody (top 27)) (defScope (top 27)) .none kV dc pm an cd ct), sl⟩) (c : PySem.W.codeIn K cd "changes_of" = true) (k : PySem.W.keepIn K (.ref f) = true) : FD K mg "changes_of" (top 27) ["sheet", "side", "other"] :=
  ⟨f, _, fun_mk (st := top 27) l c k, PySem.W.mg_of X G a, (fun_mk (st := top 27) l c k).binds (ps := ["sheet", "side", "other"]) fun _ _ _ _ _ _ us hl => match us, hl with | [_, _, _], _ => rfl⟩
theorem mkF_change_or_none (X : K.In h) (G : h.Ns mainGlobals mg) (a : PySem.W.nsIn K mainGlobals "change_or_none" = some (some (.ref f))) (l : K.lookup f = some ⟨oc, od, .func (PySem.W.fnOf "change_or_none" "change_or_none" (defArgs (top 28)) (defBody (top 28)) (defScope (top 28)) .none kV dc pm an cd ct), sl⟩) (c : PySem.W.codeIn K cd "change_or_none" = true) (k : PySem.W.keepIn K (.ref f) = true) : FD K mg "change_or_none" (top 28) ["sheet", "side", "other"] :=
  ⟨f, _, fun_mk (st := top 28) l c k, PySem.W.mg_of X G a, (fun_mk (st := top 28) l c k).binds (ps := ["sheet", "side", "other"]) fun _ _ _ _ _ _ us hl => match us, hl with | [_, _, _], _ => rfl⟩
theorem mkF_begun_book (X : K.In h) (G : h.Ns mainGlobals mg) (a : PySem.W.nsIn K mainGlobals "begun_book" = some (some (.ref f))) (l : K.lookup f = some ⟨oc, od, .func (PySem.W.fnOf "begun_book" "begun_book" (defArgs (top 29)) (defBody (top 29)) (defScope (top 29)) .none kV dc pm an cd ct), sl⟩) (c : PySem.W.codeIn K cd "begun_book" = true) (k : PySem.W.keepIn K (.ref f) = true) : FD K mg "begun_book" (top 29) ["net", "channel", "side"] :=
  ⟨f, _, fun_mk (st := top 29) l c k, PySem.W.mg_of X G a, (fun_mk (st := top 29) l c k).binds (ps := ["net", "channel", "side"]) fun _ _ _ _ _ _ us hl => match us, hl with | [_, _, _], _ => rfl⟩
theorem mkF_in_turn (X : K.In h) (G : h.Ns mainGlobals mg) (a : PySem.W.nsIn K mainGlobals "in_turn" = some (some (.ref f))) (l : K.lookup f = some ⟨oc, od, .func (PySem.W.fnOf "in_turn" "in_turn" (defArgs (top 30)) (defBody (top 30)) (defScope (top 30)) .none kV dc pm an cd ct), sl⟩) (c : PySem.W.codeIn K cd "in_turn" = true) (k : PySem.W.keepIn K (.ref f) = true) : FD K mg "in_turn" (top 30) ["book"] :=
  ⟨f, _, fun_mk (st := top 30) l c k, PySem.W.mg_of X G a, (fun_mk (st := top 30) l c k).binds (ps := ["book"]) fun _ _ _ _ _ _ us hl => match us, hl with | [_], _ => rfl⟩
theorem mkF_wanting_just (X : K.In h) (G : h.Ns mainGlobals mg) (a : PySem.W.nsIn K mainGlobals "wanting_just" = some (some (.ref f))) (l : K.lookup f = some ⟨oc, od, .func (PySem.W.fnOf "wanting_just" "wanting_just" (defArgs (top 31)) (defBody (top 31)) (defScope (top 31)) .none kV dc pm an cd ct), sl⟩) (c : PySem.W.codeIn K cd "wanting_just" = true) (k : PySem.W.keepIn K (.ref f) = true) : FD K mg "wanting_just" (top 31) ["book", "changes"] :=
  ⟨f, _, fun_mk (st := top 31) l c k, PySem.W.mg_of X G a, (fun_mk (st := top 31) l c k).binds (ps := ["book", "changes"]) fun _ _ _ _ _ _ us hl => match us, hl with | [_, _], _ => rfl⟩
theorem mkF_with_newest (X : K.In h) (G : h.Ns mainGlobals mg) (a : PySem.W.nsIn K mainGlobals "with_newest" = some (some (.ref f))) (l : K.lookup f = some ⟨oc, od, .func (PySem.W.fnOf "with_newest" "with_newest" (defArgs (top 32)) (defBody (top 32)) (defScope (top 32)) .none kV dc pm an cd ct), sl⟩) (c : PySem.W.codeIn K cd "with_newest" = true) (k : PySem.W.keepIn K (.ref f) = true) : FD K mg "with_newest" (top 32) ["book", "sheet"] :=
  ⟨f, _, fun_mk (st := top 32) l c k, PySem.W.mg_of X G a, (fun_mk (st := top 32) l c k).binds (ps := ["book", "sheet"]) fun _ _ _ _ _ _ us hl => match us, hl with | [_, _], _ => rfl⟩
theorem mkF_exposed (X : K.In h) (G : h.Ns mainGlobals mg) (a : PySem.W.nsIn K mainGlobals "exposed" = some (some (.ref f))) (l : K.lookup f = some ⟨oc, od, .func (PySem.W.fnOf "exposed" "exposed" (defArgs (top 36)) (defBody (top 36)) (defScope (top 36)) .none kV dc pm an cd ct), sl⟩) (c : PySem.W.codeIn K cd "exposed" = true) (k : PySem.W.keepIn K (.ref f) = true) : FD K mg "exposed" (top 36) ["book"] :=
  ⟨f, _, fun_mk (st := top 36) l c k, PySem.W.mg_of X G a, (fun_mk (st := top 36) l c k).binds (ps := ["book"]) fun _ _ _ _ _ _ us hl => match us, hl with | [_], _ => rfl⟩
theorem mkF_taken (X : K.In h) (G : h.Ns mainGlobals mg) (a : PySem.W.nsIn K mainGlobals "taken" = some (some (.ref f))) (l : K.lookup f = some ⟨oc, od, .func (PySem.W.fnOf "taken" "taken" (defArgs (top 33)) (defBody (top 33)) (defScope (top 33)) .none kV dc pm an cd ct), sl⟩) (c : PySem.W.codeIn K cd "taken" = true) (k : PySem.W.keepIn K (.ref f) = true) : FD K mg "taken" (top 33) ["book", "letter"] :=
  ⟨f, _, fun_mk (st := top 33) l c k, PySem.W.mg_of X G a, (fun_mk (st := top 33) l c k).binds (ps := ["book", "letter"]) fun _ _ _ _ _ _ us hl => match us, hl with | [_, _], _ => rfl⟩
theorem mkF_first_fitting (X : K.In h) (G : h.Ns mainGlobals mg) (a : PySem.W.nsIn K mainGlobals "first_fitting" = some (some (.ref f))) (l : K.lookup f = some ⟨oc, od, .func (PySem.W.fnOf "first_fitting" "first_fitting" (defArgs (top 34)) (defBody (top 34)) (defScope (top 34)) .none kV dc pm an cd ct), sl⟩) (c : PySem.W.codeIn K cd "first_fitting" = true) (k : PySem.W.keepIn K (.ref f) = true) : FD K mg "first_fitting" (top 34) ["book"] :=
  ⟨f, _, fun_mk (st := top 34) l c k, PySem.W.mg_of X G a, (fun_mk (st := top 34) l c k).binds (ps := ["book"]) fun _ _ _ _ _ _ us hl => match us, hl with | [_], _ => rfl⟩
theorem mkF_book_at_look (X : K.In h) (G : h.Ns mainGlobals mg) (a : PySem.W.nsIn K mainGlobals "book_at_look" = some (some (.ref f))) (l : K.lookup f = some ⟨oc, od, .func (PySem.W.fnOf "book_at_look" "book_at_look" (defArgs (top 35)) (defBody (top 35)) (defScope (top 35)) .none kV dc pm an cd ct), sl⟩) (c : PySem.W.codeIn K cd "book_at_look" = true) (k : PySem.W.keepIn K (.ref f) = true) : FD K mg "book_at_look" (top 35) ["book"] :=
  ⟨f, _, fun_mk (st := top 35) l c k, PySem.W.mg_of X G a, (fun_mk (st := top 35) l c k).binds (ps := ["book"]) fun _ _ _ _ _ _ us hl => match us, hl with | [_], _ => rfl⟩
theorem mkF_may_open (X : K.In h) (G : h.Ns mainGlobals mg) (a : PySem.W.nsIn K mainGlobals "may_open" = some (some (.ref f))) (l : K.lookup f = some ⟨oc, od, .func (PySem.W.fnOf "may_open" "may_open" (defArgs (top 38)) (defBody (top 38)) (defScope (top 38)) .none kV dc pm an cd ct), sl⟩) (c : PySem.W.codeIn K cd "may_open" = true) (k : PySem.W.keepIn K (.ref f) = true) : FD K mg "may_open" (top 38) ["times", "moment", "side", "image", "sheets", "opened"] :=
  ⟨f, _, fun_mk (st := top 38) l c k, PySem.W.mg_of X G a, (fun_mk (st := top 38) l c k).binds (ps := ["times", "moment", "side", "image", "sheets", "opened"]) fun _ _ _ _ _ _ us hl => match us, hl with | [_, _, _, _, _, _], _ => rfl⟩
theorem mkF_passes (X : K.In h) (G : h.Ns mainGlobals mg) (a : PySem.W.nsIn K mainGlobals "passes" = some (some (.ref f))) (l : K.lookup f = some ⟨oc, od, .func (PySem.W.fnOf "passes" "passes" (defArgs (top 39)) (defBody (top 39)) (defScope (top 39)) .none kV dc pm an cd ct), sl⟩) (c : PySem.W.codeIn K cd "passes" = true) (k : PySem.W.keepIn K (.ref f) = true) : FD K mg "passes" (top 39) ["times", "moment", "gap", "lock", "out"] :=
  ⟨f, _, fun_mk (st := top 39) l c k, PySem.W.mg_of X G a, (fun_mk (st := top 39) l c k).binds (ps := ["times", "moment", "gap", "lock", "out"]) fun _ _ _ _ _ _ us hl => match us, hl with | [_, _, _, _, _], _ => rfl⟩
theorem mkF_answer (X : K.In h) (G : h.Ns mainGlobals mg) (a : PySem.W.nsIn K mainGlobals "answer" = some (some (.ref f))) (l : K.lookup f = some ⟨oc, od, .func (PySem.W.fnOf "answer" "answer" (defArgs (top 40)) (defBody (top 40)) (defScope (top 40)) .none kV dc pm an cd ct), sl⟩) (c : PySem.W.codeIn K cd "answer" = true) (k : PySem.W.keepIn K (.ref f) = true) : FD K mg "answer" (top 40) ["times", "moment", "gap", "keep", "lock", "onward"] :=
  ⟨f, _, fun_mk (st := top 40) l c k, PySem.W.mg_of X G a, (fun_mk (st := top 40) l c k).binds (ps := ["times", "moment", "gap", "keep", "lock", "onward"]) fun _ _ _ _ _ _ us hl => match us, hl with | [_, _, _, _, _, _], _ => rfl⟩
theorem mkF_at_look (X : K.In h) (G : h.Ns mainGlobals mg) (a : PySem.W.nsIn K mainGlobals "at_look" = some (some (.ref f))) (l : K.lookup f = some ⟨oc, od, .func (PySem.W.fnOf "at_look" "at_look" (defArgs (top 45)) (defBody (top 45)) (defScope (top 45)) .none kV dc pm an cd ct), sl⟩) (c : PySem.W.codeIn K cd "at_look" = true) (k : PySem.W.keepIn K (.ref f) = true) : FD K mg "at_look" (top 45) ["mind", "moment", "ledger", "box"] :=
  ⟨f, _, fun_mk (st := top 45) l c k, PySem.W.mg_of X G a, (fun_mk (st := top 45) l c k).binds (ps := ["mind", "moment", "ledger", "box"]) fun _ _ _ _ _ _ us hl => match us, hl with | [_, _, _, _], _ => rfl⟩
theorem mkF_channels_of (X : K.In h) (G : h.Ns mainGlobals mg) (a : PySem.W.nsIn K mainGlobals "channels_of" = some (some (.ref f))) (l : K.lookup f = some ⟨oc, od, .func (PySem.W.fnOf "channels_of" "channels_of" (defArgs (top 11)) (defBody (top 11)) (defScope (top 11)) .none kV dc pm an cd ct), sl⟩) (c : PySem.W.codeIn K cd "channels_of" = true) (k : PySem.W.keepIn K (.ref f) = true) : FD K mg "channels_of" (top 11) ["net", "person"] :=
  ⟨f, _, fun_mk (st := top 11) l c k, PySem.W.mg_of X G a, (fun_mk (st := top 11) l c k).binds (ps := ["net", "person"]) fun _ _ _ _ _ _ us hl => match us, hl with | [_, _], _ => rfl⟩
theorem mkF_begun_mind (X : K.In h) (G : h.Ns mainGlobals mg) (a : PySem.W.nsIn K mainGlobals "begun_mind" = some (some (.ref f))) (l : K.lookup f = some ⟨oc, od, .func (PySem.W.fnOf "begun_mind" "begun_mind" (defArgs (top 43)) (defBody (top 43)) (defScope (top 43)) .none kV dc pm an cd ct), sl⟩) (c : PySem.W.codeIn K cd "begun_mind" = true) (k : PySem.W.keepIn K (.ref f) = true) : FD K mg "begun_mind" (top 43) ["net", "times", "person", "wishes", "asks", "cares"] :=
  ⟨f, _, fun_mk (st := top 43) l c k, PySem.W.mg_of X G a, (fun_mk (st := top 43) l c k).binds (ps := ["net", "times", "person", "wishes", "asks", "cares"]) fun _ _ _ _ _ _ us hl => match us, hl with | [_, _, _, _, _, _], _ => rfl⟩
theorem mkF_known_by (X : K.In h) (G : h.Ns mainGlobals mg) (a : PySem.W.nsIn K mainGlobals "known_by" = some (some (.ref f))) (l : K.lookup f = some ⟨oc, od, .func (PySem.W.fnOf "known_by" "known_by" (defArgs (top 47)) (defBody (top 47)) (defScope (top 47)) .none kV dc pm an cd ct), sl⟩) (c : PySem.W.codeIn K cd "known_by" = true) (k : PySem.W.keepIn K (.ref f) = true) : FD K mg "known_by" (top 47) ["mind"] :=
  ⟨f, _, fun_mk (st := top 47) l c k, PySem.W.mg_of X G a, (fun_mk (st := top 47) l c k).binds (ps := ["mind"]) fun _ _ _ _ _ _ us hl => match us, hl with | [_], _ => rfl⟩
theorem mkF_held_by (X : K.In h) (G : h.Ns mainGlobals mg) (a : PySem.W.nsIn K mainGlobals "held_by" = some (some (.ref f))) (l : K.lookup f = some ⟨oc, od, .func (PySem.W.fnOf "held_by" "held_by" (defArgs (top 46)) (defBody (top 46)) (defScope (top 46)) .none kV dc pm an cd ct), sl⟩) (c : PySem.W.codeIn K cd "held_by" = true) (k : PySem.W.keepIn K (.ref f) = true) : FD K mg "held_by" (top 46) ["mind"] :=
  ⟨f, _, fun_mk (st := top 46) l c k, PySem.W.mg_of X G a, (fun_mk (st := top 46) l c k).binds (ps := ["mind"]) fun _ _ _ _ _ _ us hl => match us, hl with | [_], _ => rfl⟩
theorem mkF_law_same (X : K.In h) (G : h.Ns mainGlobals mg) (a : PySem.W.nsIn K mainGlobals "_law_same" = some (some (.ref f))) (l : K.lookup f = some ⟨oc, od, .func (PySem.W.fnOf "_law_same" "_law_same" (defArgs (top 52)) (defBody (top 52)) (defScope (top 52)) .none kV dc pm an cd ct), sl⟩) (c : PySem.W.codeIn K cd "_law_same" = true) (k : PySem.W.keepIn K (.ref f) = true) : FD K mg "_law_same" (top 52) ["_law_mine", "_law_due"] :=
  ⟨f, _, fun_mk (st := top 52) l c k, PySem.W.mg_of X G a, (fun_mk (st := top 52) l c k).binds (ps := ["_law_mine", "_law_due"]) fun _ _ _ _ _ _ us hl => match us, hl with | [_, _], _ => rfl⟩
theorem mkF_law_town_of (X : K.In h) (G : h.Ns mainGlobals mg) (a : PySem.W.nsIn K mainGlobals "_law_town_of" = some (some (.ref f))) (l : K.lookup f = some ⟨oc, od, .func (PySem.W.fnOf "_law_town_of" "_law_town_of" (defArgs (top 53)) (defBody (top 53)) (defScope (top 53)) .none kV dc pm an cd ct), sl⟩) (c : PySem.W.codeIn K cd "_law_town_of" = true) (k : PySem.W.keepIn K (.ref f) = true) : FD K mg "_law_town_of" (top 53) ["_law_sums"] :=
  ⟨f, _, fun_mk (st := top 53) l c k, PySem.W.mg_of X G a, (fun_mk (st := top 53) l c k).binds (ps := ["_law_sums"]) fun _ _ _ _ _ _ us hl => match us, hl with | [_], _ => rfl⟩
theorem mkF_law_take (X : K.In h) (G : h.Ns mainGlobals mg) (a : PySem.W.nsIn K mainGlobals "_law_take" = some (some (.ref f))) (l : K.lookup f = some ⟨oc, od, .func (PySem.W.fnOf "_law_take" "_law_take" (defArgs (top 50)) (defBody (top 50)) (defScope (top 50)) .none kV dc pm an cd ct), sl⟩) (c : PySem.W.codeIn K cd "_law_take" = true) (k : PySem.W.keepIn K (.ref f) = true) : FD K mg "_law_take" (top 50) ["_law_urn", "_law_low_so"] :=
  ⟨f, _, fun_mk (st := top 50) l c k, PySem.W.mg_of X G a, (fun_mk (st := top 50) l c k).binds (ps := ["_law_urn", "_law_low_so"]) fun _ _ _ _ _ _ us hl => match us, hl with | [_, _], _ => rfl⟩
theorem mkF_law_box (X : K.In h) (G : h.Ns mainGlobals mg) (a : PySem.W.nsIn K mainGlobals "_law_box" = some (some (.ref f))) (l : K.lookup f = some ⟨oc, od, .func (PySem.W.fnOf "_law_box" "_law_box" (defArgs (top 49)) (defBody (top 49)) (defScope (top 49)) .none kV dc pm an cd ct), sl⟩) (c : PySem.W.codeIn K cd "_law_box" = true) (k : PySem.W.keepIn K (.ref f) = true) : FD K mg "_law_box" (top 49) ["_law_script", "_law_k"] :=
  ⟨f, _, fun_mk (st := top 49) l c k, PySem.W.mg_of X G a, (fun_mk (st := top 49) l c k).binds (ps := ["_law_script", "_law_k"]) fun _ _ _ _ _ _ us hl => match us, hl with | [_, _], _ => rfl⟩
theorem mkF_law_cells (X : K.In h) (G : h.Ns mainGlobals mg) (a : PySem.W.nsIn K mainGlobals "_law_cells" = some (some (.ref f))) (l : K.lookup f = some ⟨oc, od, .func (PySem.W.fnOf "_law_cells" "_law_cells" (defArgs (top 51)) (defBody (top 51)) (defScope (top 51)) .none kV dc pm an cd ct), sl⟩) (c : PySem.W.codeIn K cd "_law_cells" = true) (k : PySem.W.keepIn K (.ref f) = true) : FD K mg "_law_cells" (top 51) ["_law_script", "_law_roof_so"] :=
  ⟨f, _, fun_mk (st := top 51) l c k, PySem.W.mg_of X G a, (fun_mk (st := top 51) l c k).binds (ps := ["_law_script", "_law_roof_so"]) fun _ _ _ _ _ _ us hl => match us, hl with | [_, _], _ => rfl⟩
theorem mkF_law_all_looks (X : K.In h) (G : h.Ns mainGlobals mg) (a : PySem.W.nsIn K mainGlobals "_law_all_looks" = some (some (.ref f))) (l : K.lookup f = some ⟨oc, od, .func (PySem.W.fnOf "_law_all_looks" "_law_all_looks" (defArgs (top 54)) (defBody (top 54)) (defScope (top 54)) .none kV dc pm an cd ct), sl⟩) (c : PySem.W.codeIn K cd "_law_all_looks" = true) (k : PySem.W.keepIn K (.ref f) = true) : FD K mg "_law_all_looks" (top 54) ["_law_minds", "_law_times", "_law_many"] :=
  ⟨f, _, fun_mk (st := top 54) l c k, PySem.W.mg_of X G a, (fun_mk (st := top 54) l c k).binds (ps := ["_law_minds", "_law_times", "_law_many"]) fun _ _ _ _ _ _ us hl => match us, hl with | [_, _, _], _ => rfl⟩
theorem mkF_law_paid_right (X : K.In h) (G : h.Ns mainGlobals mg) (a : PySem.W.nsIn K mainGlobals "_law_paid_right" = some (some (.ref f))) (l : K.lookup f = some ⟨oc, od, .func (PySem.W.fnOf "_law_paid_right" "_law_paid_right" (defArgs (top 55)) (defBody (top 55)) (defScope (top 55)) .none kV dc pm an cd ct), sl⟩) (c : PySem.W.codeIn K cd "_law_paid_right" = true) (k : PySem.W.keepIn K (.ref f) = true) : FD K mg "_law_paid_right" (top 55) ["_law_sums", "_law_times", "_law_amount", "_law_ask", "_law_ends", "_law_many"] :=
  ⟨f, _, fun_mk (st := top 55) l c k, PySem.W.mg_of X G a, (fun_mk (st := top 55) l c k).binds (ps := ["_law_sums", "_law_times", "_law_amount", "_law_ask", "_law_ends", "_law_many"]) fun _ _ _ _ _ _ us hl => match us, hl with | [_, _, _, _, _, _], _ => rfl⟩
theorem mkF_law_by_hand_right (X : K.In h) (G : h.Ns mainGlobals mg) (a : PySem.W.nsIn K mainGlobals "_law_by_hand_right" = some (some (.ref f))) (l : K.lookup f = some ⟨oc, od, .func (PySem.W.fnOf "_law_by_hand_right" "_law_by_hand_right" (defArgs (top 56)) (defBody (top 56)) (defScope (top 56)) .none kV dc pm an cd ct), sl⟩) (c : PySem.W.codeIn K cd "_law_by_hand_right" = true) (k : PySem.W.keepIn K (.ref f) = true) : FD K mg "_law_by_hand_right" (top 56) [] :=
  ⟨f, _, fun_mk (st := top 56) l c k, PySem.W.mg_of X G a, (fun_mk (st := top 56) l c k).binds (ps := []) fun _ _ _ _ _ _ us hl => match us, hl with | [], _ => rfl⟩
theorem mkF_law_right (X : K.In h) (G : h.Ns mainGlobals mg) (a : PySem.W.nsIn K mainGlobals "_law_right" = some (some (.ref f))) (l : K.lookup f = some ⟨oc, od, .func (PySem.W.fnOf "_law_right" "_law_right" (defArgs (top 57)) (defBody (top 57)) (defScope (top 57)) .none kV dc pm an cd ct), sl⟩) (c : PySem.W.codeIn K cd "_law_right" = true) (k : PySem.W.keepIn K (.ref f) = true) : FD K mg "_law_right" (top 57) ["_law_tin"] :=
  ⟨f, _, fun_mk (st := top 57) l c k, PySem.W.mg_of X G a, (fun_mk (st := top 57) l c k).binds (ps := ["_law_tin"]) fun _ _ _ _ _ _ us hl => match us, hl with | [_], _ => rfl⟩
theorem mkM_is_free (cl : Cls K C) (a : PySem.W.findIn K (.ref C) "is_free" = some (some (.ref f))) (j : PySem.W.isFn K (.ref f) = true) (l : K.lookup f = some ⟨oc, od, .func (PySem.W.fnOf "is_free" "Look.is_free" (defArgs (mth 2)) (defBody (mth 2)) (defScope (mth 2)) .none kV dc pm an cd ct), sl⟩) (c : PySem.W.codeIn K cd "Look.is_free" = true) (k : PySem.W.keepIn K (.ref f) = true) : MD K C "is_free" "Look.is_free" (mth 2) ["self", "place"] :=
  ⟨f, _, cl, ⟨a, j, k⟩, fun_mk (st := mth 2) l c k, (fun_mk (st := mth 2) l c k).binds (ps := ["self", "place"]) fun _ _ _ _ _ _ us hl => match us, hl with | [_, _], _ => rfl⟩
theorem mkM_side (cl : Cls K C) (a : PySem.W.findIn K (.ref C) "side" = some (some (.ref f))) (j : PySem.W.isFn K (.ref f) = true) (l : K.lookup f = some ⟨oc, od, .func (PySem.W.fnOf "side" "Look.side" (defArgs (mth 3)) (defBody (mth 3)) (defScope (mth 3)) .none kV dc pm an cd ct), sl⟩) (c : PySem.W.codeIn K cd "Look.side" = true) (k : PySem.W.keepIn K (.ref f) = true) : MD K C "side" "Look.side" (mth 3) ["self", "place"] :=
  ⟨f, _, cl, ⟨a, j, k⟩, fun_mk (st := mth 3) l c k, (fun_mk (st := mth 3) l c k).binds (ps := ["self", "place"]) fun _ _ _ _ _ _ us hl => match us, hl with | [_, _], _ => rfl⟩
theorem mkM_other (cl : Cls K C) (a : PySem.W.findIn K (.ref C) "other" = some (some (.ref f))) (j : PySem.W.isFn K (.ref f) = true) (l : K.lookup f = some ⟨oc, od, .func (PySem.W.fnOf "other" "Look.other" (defArgs (mth 4)) (defBody (mth 4)) (defScope (mth 4)) .none kV dc pm an cd ct), sl⟩) (c : PySem.W.codeIn K cd "Look.other" = true) (k : PySem.W.keepIn K (.ref f) = true) : MD K C "other" "Look.other" (mth 4) ["self", "place"] :=
  ⟨f, _, cl, ⟨a, j, k⟩, fun_mk (st := mth 4) l c k, (fun_mk (st := mth 4) l c k).binds (ps := ["self", "place"]) fun _ _ _ _ _ _ us hl => match us, hl with | [_, _], _ => rfl⟩
theorem mkM_locks_in (cl : Cls K C) (a : PySem.W.findIn K (.ref C) "locks_in" = some (some (.ref f))) (j : PySem.W.isFn K (.ref f) = true) (l : K.lookup f = some ⟨oc, od, .func (PySem.W.fnOf "locks_in" "Look.locks_in" (defArgs (mth 5)) (defBody (mth 5)) (defScope (mth 5)) .none kV dc pm an cd ct), sl⟩) (c : PySem.W.codeIn K cd "Look.locks_in" = true) (k : PySem.W.keepIn K (.ref f) = true) : MD K C "locks_in" "Look.locks_in" (mth 5) ["self", "place"] :=
  ⟨f, _, cl, ⟨a, j, k⟩, fun_mk (st := mth 5) l c k, (fun_mk (st := mth 5) l c k).binds (ps := ["self", "place"]) fun _ _ _ _ _ _ us hl => match us, hl with | [_, _], _ => rfl⟩
theorem mkM_is_asked (cl : Cls K C) (a : PySem.W.findIn K (.ref C) "is_asked" = some (some (.ref f))) (j : PySem.W.isFn K (.ref f) = true) (l : K.lookup f = some ⟨oc, od, .func (PySem.W.fnOf "is_asked" "Look.is_asked" (defArgs (mth 6)) (defBody (mth 6)) (defScope (mth 6)) .none kV dc pm an cd ct), sl⟩) (c : PySem.W.codeIn K cd "Look.is_asked" = true) (k : PySem.W.keepIn K (.ref f) = true) : MD K C "is_asked" "Look.is_asked" (mth 6) ["self", "lock"] :=
  ⟨f, _, cl, ⟨a, j, k⟩, fun_mk (st := mth 6) l c k, (fun_mk (st := mth 6) l c k).binds (ps := ["self", "lock"]) fun _ _ _ _ _ _ us hl => match us, hl with | [_, _], _ => rfl⟩
theorem mkM_knows (cl : Cls K C) (a : PySem.W.findIn K (.ref C) "knows" = some (some (.ref f))) (j : PySem.W.isFn K (.ref f) = true) (l : K.lookup f = some ⟨oc, od, .func (PySem.W.fnOf "knows" "Look.knows" (defArgs (mth 7)) (defBody (mth 7)) (defScope (mth 7)) .none kV dc pm an cd ct), sl⟩) (c : PySem.W.codeIn K cd "Look.knows" = true) (k : PySem.W.keepIn K (.ref f) = true) : MD K C "knows" "Look.knows" (mth 7) ["self", "lock"] :=
  ⟨f, _, cl, ⟨a, j, k⟩, fun_mk (st := mth 7) l c k, (fun_mk (st := mth 7) l c k).binds (ps := ["self", "lock"]) fun _ _ _ _ _ _ us hl => match us, hl with | [_, _], _ => rfl⟩
theorem mkM_may_go (cl : Cls K C) (a : PySem.W.findIn K (.ref C) "may_go" = some (some (.ref f))) (j : PySem.W.isFn K (.ref f) = true) (l : K.lookup f = some ⟨oc, od, .func (PySem.W.fnOf "may_go" "Look.may_go" (defArgs (mth 14)) (defBody (mth 14)) (defScope (mth 14)) .none kV dc pm an cd ct), sl⟩) (c : PySem.W.codeIn K cd "Look.may_go" = true) (k : PySem.W.keepIn K (.ref f) = true) : MD K C "may_go" "Look.may_go" (mth 14) ["self", "place", "image"] :=
  ⟨f, _, cl, ⟨a, j, k⟩, fun_mk (st := mth 14) l c k, (fun_mk (st := mth 14) l c k).binds (ps := ["self", "place", "image"]) fun _ _ _ _ _ _ us hl => match us, hl with | [_, _, _], _ => rfl⟩
theorem mkM_is_bound (cl : Cls K C) (a : PySem.W.findIn K (.ref C) "is_bound" = some (some (.ref f))) (j : PySem.W.isFn K (.ref f) = true) (l : K.lookup f = some ⟨oc, od, .func (PySem.W.fnOf "is_bound" "Look.is_bound" (defArgs (mth 15)) (defBody (mth 15)) (defScope (mth 15)) .none kV dc pm an cd ct), sl⟩) (c : PySem.W.codeIn K cd "Look.is_bound" = true) (k : PySem.W.keepIn K (.ref f) = true) : MD K C "is_bound" "Look.is_bound" (mth 15) ["self", "image"] :=
  ⟨f, _, cl, ⟨a, j, k⟩, fun_mk (st := mth 15) l c k, (fun_mk (st := mth 15) l c k).binds (ps := ["self", "image"]) fun _ _ _ _ _ _ us hl => match us, hl with | [_, _], _ => rfl⟩
theorem mkM_pair_of (cl : Cls K C) (a : PySem.W.findIn K (.ref C) "pair_of" = some (some (.ref f))) (j : PySem.W.isFn K (.ref f) = true) (l : K.lookup f = some ⟨oc, od, .func (PySem.W.fnOf "pair_of" "Look.pair_of" (defArgs (mth 16)) (defBody (mth 16)) (defScope (mth 16)) .none kV dc pm an cd ct), sl⟩) (c : PySem.W.codeIn K cd "Look.pair_of" = true) (k : PySem.W.keepIn K (.ref f) = true) : MD K C "pair_of" "Look.pair_of" (mth 16) ["self", "place", "image"] :=
  ⟨f, _, cl, ⟨a, j, k⟩, fun_mk (st := mth 16) l c k, (fun_mk (st := mth 16) l c k).binds (ps := ["self", "place", "image"]) fun _ _ _ _ _ _ us hl => match us, hl with | [_, _, _], _ => rfl⟩
theorem mkM_is_sure (cl : Cls K C) (a : PySem.W.findIn K (.ref C) "is_sure" = some (some (.ref f))) (j : PySem.W.isFn K (.ref f) = true) (l : K.lookup f = some ⟨oc, od, .func (PySem.W.fnOf "is_sure" "Look.is_sure" (defArgs (mth 19)) (defBody (mth 19)) (defScope (mth 19)) .none kV dc pm an cd ct), sl⟩) (c : PySem.W.codeIn K cd "Look.is_sure" = true) (k : PySem.W.keepIn K (.ref f) = true) : MD K C "is_sure" "Look.is_sure" (mth 19) ["self", "pair"] :=
  ⟨f, _, cl, ⟨a, j, k⟩, fun_mk (st := mth 19) l c k, (fun_mk (st := mth 19) l c k).binds (ps := ["self", "pair"]) fun _ _ _ _ _ _ us hl => match us, hl with | [_, _], _ => rfl⟩
theorem mkM_must_close (cl : Cls K C) (a : PySem.W.findIn K (.ref C) "must_close" = some (some (.ref f))) (j : PySem.W.isFn K (.ref f) = true) (l : K.lookup f = some ⟨oc, od, .func (PySem.W.fnOf "must_close" "Look.must_close" (defArgs (mth 23)) (defBody (mth 23)) (defScope (mth 23)) .none kV dc pm an cd ct), sl⟩) (c : PySem.W.codeIn K cd "Look.must_close" = true) (k : PySem.W.keepIn K (.ref f) = true) : MD K C "must_close" "Look.must_close" (mth 23) ["self", "place", "lock"] :=
  ⟨f, _, cl, ⟨a, j, k⟩, fun_mk (st := mth 23) l c k, (fun_mk (st := mth 23) l c k).binds (ps := ["self", "place", "lock"]) fun _ _ _ _ _ _ us hl => match us, hl with | [_, _, _], _ => rfl⟩
theorem mkM_lets (cl : Cls K C) (a : PySem.W.findIn K (.ref C) "lets" = some (some (.ref f))) (j : PySem.W.isFn K (.ref f) = true) (l : K.lookup f = some ⟨oc, od, .func (PySem.W.fnOf "lets" "Look.lets" (defArgs (mth 10)) (defBody (mth 10)) (defScope (mth 10)) .none kV dc pm an cd ct), sl⟩) (c : PySem.W.codeIn K cd "Look.lets" = true) (k : PySem.W.keepIn K (.ref f) = true) : MD K C "lets" "Look.lets" (mth 10) ["self", "place", "lock"] :=
  ⟨f, _, cl, ⟨a, j, k⟩, fun_mk (st := mth 10) l c k, (fun_mk (st := mth 10) l c k).binds (ps := ["self", "place", "lock"]) fun _ _ _ _ _ _ us hl => match us, hl with | [_, _, _], _ => rfl⟩
theorem mkM_out_of (cl : Cls K C) (a : PySem.W.findIn K (.ref C) "out_of" = some (some (.ref f))) (j : PySem.W.isFn K (.ref f) = true) (l : K.lookup f = some ⟨oc, od, .func (PySem.W.fnOf "out_of" "Look.out_of" (defArgs (mth 17)) (defBody (mth 17)) (defScope (mth 17)) .none kV dc pm an cd ct), sl⟩) (c : PySem.W.codeIn K cd "Look.out_of" = true) (k : PySem.W.keepIn K (.ref f) = true) : MD K C "out_of" "Look.out_of" (mth 17) ["self", "place", "lock"] :=
  ⟨f, _, cl, ⟨a, j, k⟩, fun_mk (st := mth 17) l c k, (fun_mk (st := mth 17) l c k).binds (ps := ["self", "place", "lock"]) fun _ _ _ _ _ _ us hl => match us, hl with | [_, _, _], _ => rfl⟩
theorem mkM_see (cl : Cls K C) (a : PySem.W.findIn K (.ref C) "see" = some (some (.ref f))) (j : PySem.W.isFn K (.ref f) = true) (l : K.lookup f = some ⟨oc, od, .func (PySem.W.fnOf "see" "Look.see" (defArgs (mth 8)) (defBody (mth 8)) (defScope (mth 8)) .none kV dc pm an cd ct), sl⟩) (c : PySem.W.codeIn K cd "Look.see" = true) (k : PySem.W.keepIn K (.ref f) = true) : MD K C "see" "Look.see" (mth 8) ["self"] :=
  ⟨f, _, cl, ⟨a, j, k⟩, fun_mk (st := mth 8) l c k, (fun_mk (st := mth 8) l c k).binds (ps := ["self"]) fun _ _ _ _ _ _ us hl => match us, hl with | [_], _ => rfl⟩
theorem mkM_hear (cl : Cls K C) (a : PySem.W.findIn K (.ref C) "hear" = some (some (.ref f))) (j : PySem.W.isFn K (.ref f) = true) (l : K.lookup f = some ⟨oc, od, .func (PySem.W.fnOf "hear" "Look.hear" (defArgs (mth 9)) (defBody (mth 9)) (defScope (mth 9)) .none kV dc pm an cd ct), sl⟩) (c : PySem.W.codeIn K cd "Look.hear" = true) (k : PySem.W.keepIn K (.ref f) = true) : MD K C "hear" "Look.hear" (mth 9) ["self", "source", "letter"] :=
  ⟨f, _, cl, ⟨a, j, k⟩, fun_mk (st := mth 9) l c k, (fun_mk (st := mth 9) l c k).binds (ps := ["self", "source", "letter"]) fun _ _ _ _ _ _ us hl => match us, hl with | [_, _, _], _ => rfl⟩
theorem mkM_want (cl : Cls K C) (a : PySem.W.findIn K (.ref C) "want" = some (some (.ref f))) (j : PySem.W.isFn K (.ref f) = true) (l : K.lookup f = some ⟨oc, od, .func (PySem.W.fnOf "want" "Look.want" (defArgs (mth 11)) (defBody (mth 11)) (defScope (mth 11)) .none kV dc pm an cd ct), sl⟩) (c : PySem.W.codeIn K cd "Look.want" = true) (k : PySem.W.keepIn K (.ref f) = true) : MD K C "want" "Look.want" (mth 11) ["self", "place", "change"] :=
  ⟨f, _, cl, ⟨a, j, k⟩, fun_mk (st := mth 11) l c k, (fun_mk (st := mth 11) l c k).binds (ps := ["self", "place", "change"]) fun _ _ _ _ _ _ us hl => match us, hl with | [_, _, _], _ => rfl⟩
theorem mkM_settle (cl : Cls K C) (a : PySem.W.findIn K (.ref C) "settle" = some (some (.ref f))) (j : PySem.W.isFn K (.ref f) = true) (l : K.lookup f = some ⟨oc, od, .func (PySem.W.fnOf "settle" "Look.settle" (defArgs (mth 20)) (defBody (mth 20)) (defScope (mth 20)) .none kV dc pm an cd ct), sl⟩) (c : PySem.W.codeIn K cd "Look.settle" = true) (k : PySem.W.keepIn K (.ref f) = true) : MD K C "settle" "Look.settle" (mth 20) ["self", "place"] :=
  ⟨f, _, cl, ⟨a, j, k⟩, fun_mk (st := mth 20) l c k, (fun_mk (st := mth 20) l c k).binds (ps := ["self", "place"]) fun _ _ _ _ _ _ us hl => match us, hl with | [_, _], _ => rfl⟩
theorem mkM_send_on (cl : Cls K C) (a : PySem.W.findIn K (.ref C) "send_on" = some (some (.ref f))) (j : PySem.W.isFn K (.ref f) = true) (l : K.lookup f = some ⟨oc, od, .func (PySem.W.fnOf "send_on" "Look.send_on" (defArgs (mth 22)) (defBody (mth 22)) (defScope (mth 22)) .none kV dc pm an cd ct), sl⟩) (c : PySem.W.codeIn K cd "Look.send_on" = true) (k : PySem.W.keepIn K (.ref f) = true) : MD K C "send_on" "Look.send_on" (mth 22) ["self", "place"] :=
  ⟨f, _, cl, ⟨a, j, k⟩, fun_mk (st := mth 22) l c k, (fun_mk (st := mth 22) l c k).binds (ps := ["self", "place"]) fun _ _ _ _ _ _ us hl => match us, hl with | [_, _], _ => rfl⟩
theorem mkM_treat (cl : Cls K C) (a : PySem.W.findIn K (.ref C) "treat" = some (some (.ref f))) (j : PySem.W.isFn K (.ref f) = true) (l : K.lookup f = some ⟨oc, od, .func (PySem.W.fnOf "treat" "Look.treat" (defArgs (mth 18)) (defBody (mth 18)) (defScope (mth 18)) .none kV dc pm an cd ct), sl⟩) (c : PySem.W.codeIn K cd "Look.treat" = true) (k : PySem.W.keepIn K (.ref f) = true) : MD K C "treat" "Look.treat" (mth 18) ["self", "place", "lock"] :=
  ⟨f, _, cl, ⟨a, j, k⟩, fun_mk (st := mth 18) l c k, (fun_mk (st := mth 18) l c k).binds (ps := ["self", "place", "lock"]) fun _ _ _ _ _ _ us hl => match us, hl with | [_, _, _], _ => rfl⟩
theorem mkM_wish (cl : Cls K C) (a : PySem.W.findIn K (.ref C) "wish" = some (some (.ref f))) (j : PySem.W.isFn K (.ref f) = true) (l : K.lookup f = some ⟨oc, od, .func (PySem.W.fnOf "wish" "Look.wish" (defArgs (mth 12)) (defBody (mth 12)) (defScope (mth 12)) .none kV dc pm an cd ct), sl⟩) (c : PySem.W.codeIn K cd "Look.wish" = true) (k : PySem.W.keepIn K (.ref f) = true) : MD K C "wish" "Look.wish" (mth 12) ["self"] :=
  ⟨f, _, cl, ⟨a, j, k⟩, fun_mk (st := mth 12) l c k, (fun_mk (st := mth 12) l c k).binds (ps := ["self"]) fun _ _ _ _ _ _ us hl => match us, hl with | [_], _ => rfl⟩
theorem mkM_offer (cl : Cls K C) (a : PySem.W.findIn K (.ref C) "offer" = some (some (.ref f))) (j : PySem.W.isFn K (.ref f) = true) (l : K.lookup f = some ⟨oc, od, .func (PySem.W.fnOf "offer" "Look.offer" (defArgs (mth 21)) (defBody (mth 21)) (defScope (mth 21)) .none kV dc pm an cd ct), sl⟩) (c : PySem.W.codeIn K cd "Look.offer" = true) (k : PySem.W.keepIn K (.ref f) = true) : MD K C "offer" "Look.offer" (mth 21) ["self", "place"] :=
  ⟨f, _, cl, ⟨a, j, k⟩, fun_mk (st := mth 21) l c k, (fun_mk (st := mth 21) l c k).binds (ps := ["self", "place"]) fun _ _ _ _ _ _ us hl => match us, hl with | [_, _], _ => rfl⟩
theorem mkM_mind (cl : Cls K C) (a : PySem.W.findIn K (.ref C) "mind" = some (some (.ref f))) (j : PySem.W.isFn K (.ref f) = true) (l : K.lookup f = some ⟨oc, od, .func (PySem.W.fnOf "mind" "Look.mind" (defArgs (mth 1)) (defBody (mth 1)) (defScope (mth 1)) .none kV dc pm an cd ct), sl⟩) (c : PySem.W.codeIn K cd "Look.mind" = true) (k : PySem.W.keepIn K (.ref f) = true) : MD K C "mind" "Look.mind" (mth 1) ["self"] :=
  ⟨f, _, cl, ⟨a, j, k⟩, fun_mk (st := mth 1) l c k, (fun_mk (st := mth 1) l c k).binds (ps := ["self"]) fun _ _ _ _ _ _ us hl => match us, hl with | [_], _ => rfl⟩
theorem mkI (X : K.In h) (G : h.Ns mainGlobals mg) (gC : PySem.W.nsIn K mainGlobals "Look" = some (some (.ref C))) (mk : PySem.W.makesIn K C = true) (kc : PySem.W.keepIn K (.ref C) = true) (a : PySem.W.findIn K (.ref C) "__init__" = some (some (.ref f))) (j : PySem.W.isFn K (.ref f) = true) (l : K.lookup f = some ⟨oc, od, .func (PySem.W.fnOf "__init__" "Look.__init__" (defArgs (mth 0)) (defBody (mth 0)) (defScope (mth 0)) .none kV dc pm an cd ct), sl⟩) (c : PySem.W.codeIn K cd "Look.__init__" = true) (k : PySem.W.keepIn K (.ref f) = true) : MkD K mg C :=
  ⟨f, _, ⟨mk, a, j, kc⟩, fun_mk (st := mth 0) l c k, PySem.W.mg_of X G gC, (fun_mk (st := mth 0) l c k).binds (ps := ["self", "mind", "moment", "ledger"]) fun _ _ _ _ _ _ us hl => match us, hl with | [_, _, _, _], _ => rfl⟩
theorem mkL (pg : PySem.W.plainGet K C Str.empty = true) (hd : PySem.W.hasDictIn K C = true) (po : PySem.W.plainOver K C = true) (sa : PySem.W.findIn K (.ref C) "__setattr__" = some (some (.builtin "object.__setattr__"))) (n_net : PySem.W.findIn K (.ref C) "net" = some none) (n_times : PySem.W.findIn K (.ref C) "times" = some none) (n_person : PySem.W.findIn K (.ref C) "person" = some none) (n_cares : PySem.W.findIn K (.ref C) "cares" = some none) (n_asks : PySem.W.findIn K (.ref C) "asks" = some none) (n_books : PySem.W.findIn K (.ref C) "books" = some none) (n_secrets : PySem.W.findIn K (.ref C) "secrets" = some none) (n_onward : PySem.W.findIn K (.ref C) "onward" = some none) (n_pairs : PySem.W.findIn K (.ref C) "pairs" = some none) (n_wishes : PySem.W.findIn K (.ref C) "wishes" = some none) (n_left : PySem.W.findIn K (.ref C) "left" = some none) (n_moment : PySem.W.findIn K (.ref C) "moment" = some none) (n_ledger : PySem.W.findIn K (.ref C) "ledger" = some none) (n_deeds : PySem.W.findIn K (.ref C) "deeds" = some none) (n_letters : PySem.W.findIn K (.ref C) "letters" = some none) (n_wants : PySem.W.findIn K (.ref C) "wants" = some none) (n_passing : PySem.W.findIn K (.ref C) "passing" = some none) (n_payments : PySem.W.findIn K (.ref C) "payments" = some none) : LookK K C := ⟨⟨pg, hd, po, sa⟩, n_net, n_times, n_person, n_cares, n_asks, n_books, n_secrets, n_onward, n_pairs, n_wishes, n_left, n_moment, n_ledger, n_deeds, n_letters, n_wants, n_passing, n_payments⟩
theorem mkFree (X : K.In h) (G : h.Ns mainGlobals mg) (z_isi : PySem.W.nsIn K mainGlobals "isinstance" = some none) (z_tup : PySem.W.nsIn K mainGlobals "tuple" = some none) (z_lst : PySem.W.nsIn K mainGlobals "list" = some none) (z_len : PySem.W.nsIn K mainGlobals "len" = some none) (z_any : PySem.W.nsIn K mainGlobals "any" = some none) (z_all : PySem.W.nsIn K mainGlobals "all" = some none) (z_min : PySem.W.nsIn K mainGlobals "min" = some none) (z_max : PySem.W.nsIn K mainGlobals "max" = some none) (z_sum : PySem.W.nsIn K mainGlobals "sum" = some none) (z_rng : PySem.W.nsIn K mainGlobals "range" = some none) (z_srt : PySem.W.nsIn K mainGlobals "sorted" = some none) (z_set : PySem.W.nsIn K mainGlobals "set" = some none) (z_int : PySem.W.nsIn K mainGlobals "int" = some none) (z_bool : PySem.W.nsIn K mainGlobals "bool" = some none) (z_str : PySem.W.nsIn K mainGlobals "str" = some none) (z_abs : PySem.W.nsIn K mainGlobals "abs" = some none) (z_enu : PySem.W.nsIn K mainGlobals "enumerate" = some none) (z_zip : PySem.W.nsIn K mainGlobals "zip" = some none) : Free mg := ⟨PySem.W.mg_none_of X G z_isi, PySem.W.mg_none_of X G z_tup, PySem.W.mg_none_of X G z_lst, PySem.W.mg_none_of X G z_len, PySem.W.mg_none_of X G z_any, PySem.W.mg_none_of X G z_all, PySem.W.mg_none_of X G z_min, PySem.W.mg_none_of X G z_max, PySem.W.mg_none_of X G z_sum, PySem.W.mg_none_of X G z_rng, PySem.W.mg_none_of X G z_srt, PySem.W.mg_none_of X G z_set, PySem.W.mg_none_of X G z_int, PySem.W.mg_none_of X G z_bool, PySem.W.mg_none_of X G z_str, PySem.W.mg_none_of X G z_abs, PySem.W.mg_none_of X G z_enu, PySem.W.mg_none_of X G z_zip⟩
theorem exm_own {S : Addr} (h1 : PySem.W.subIn K (.ref S) (.type "BaseException") = some true) (h2 : PySem.W.isClsIn K S = true) (h3 : PySem.W.typeIn K (.ref S) = some (.type "type")) (h4 : PySem.W.subIn K (.ref S) (.ref S) = some true) : PySem.W.exmOne K (.ref S) (.ref S) = some true := by
  unfold PySem.W.exmOne PySem.W.kitCls; rw [if_pos (by rw [h1]; rfl)]
  show (if ((PySem.W.clsIn K S).isSome && PySem.W.typeIn K (.ref S) == some (.type "type")) = true then PySem.W.subIn K (.ref S) (.ref S) else none) = some true; rw [if_pos (by rw [show (PySem.W.clsIn K S).isSome = true from h2, h3]; rfl)]; exact h4
theorem mkU (X : K.In h) (G : h.Ns mainGlobals mg) (gC : PySem.W.nsIn K mainGlobals "Unfit" = some (some (.ref C))) (ex : PySem.W.excIn K C [.type "ValueError", .type "Exception", .type "BaseException", .type "object"] "ValueError.__new__" = true) (kC : PySem.W.keepIn K (.ref C) = true) (su : PySem.W.subIn K (.ref C) (.type "BaseException") = some true) (ty : PySem.W.typeIn K (.ref C) = some (.type "type")) (iC : PySem.W.isClsIn K C = true) (sC : PySem.W.subIn K (.ref C) (.ref C) = some true) : UnfitAt K mg C := ⟨PySem.W.mg_of X G gC, ex, kC, su, ty, exm_own su iC ty sC⟩
end
theorem walk {l : PySem.W.OpenLaw} {q : Program} {loose : List Str} {XP : (Str → Option Value) → Heap → Prop} {YP : World → Heap → Prop} {d : DefRec} {K : Params → PySem.W.Frag} (hn : l.most = some 63) (hdf : d.params.defaults = [])
    (hY : ∀ (w : World) (h : Heap), YP w h → (K w.params).In h)
    (F : ∀ (w : World) (mg : Str → Option Value) (fa : Addr) (h : Heap), (K w.params).In h → h.Ns mainGlobals mg → mg d.name = some (.ref fa) →
      ∃ fd : FuncData, (∀ (s : Shared) (u : Value), BindsTo s fd ⟨[u], []⟩ [("_law_script", u)]) ∧ ∀ base : Heap, (K w.params).In base → base.Ns mainGlobals mg → FnOk l.prog w (K w.params) mg base CX0 23 fa fd ["_law_script"] (spLaw (K w.params))) :
    PySem.W.WalkO q loose XP YP l.row.toRowW d [] (fun f vs => PySem.call f vs) :=
  L2.walk_of (n := 63) (k := 23) (x := "_law_script") (CX := fun _ => CX0) (sp := fun w => spLaw (K w.params)) hn (by decide) hdf ⟨rfl, by decide, by decide⟩ hY F (fun _ _ a ns hl _ hS => ⟨a, ns, rfl, hS, hl, fun _ => rfl⟩) fun _ _ _ _ _ z => z
theorem fin_mk {l : PySem.W.OpenLaw} {w : World} {K : PySem.W.Frag} {mg : Str → Option Value} {h : Heap} {fa f C CU : Addr} {t1 t2 : Tok} {od an : Option Addr} {sl : Array (Option Value)} {oc kV dc pm cd ct : Value} (X : K.In h) (G : h.Ns mainGlobals mg) (hfa : mg "law" = some (.ref fa)) (T : Facts K mg C CU t1 t2)
    (a : PySem.W.nsIn K mainGlobals "law" = some (some (.ref f))) (lo : K.lookup f = some ⟨oc, od, .func (PySem.W.fnOf "law" "law" (defArgs (top 58)) (defBody (top 58)) (defScope (top 58)) .none kV dc pm an cd ct), sl⟩) (c : PySem.W.codeIn K cd "law" = true) (k : PySem.W.keepIn K (.ref f) = true) :
    ∃ fd : FuncData, (∀ (s : Shared) (v : Value), BindsTo s fd ⟨[v], []⟩ [("_law_script", v)]) ∧ ∀ base : Heap, K.In base → base.Ns mainGlobals mg → FnOk l.prog w K mg base CX0 23 fa fd ["_law_script"] (spLaw K) := by
  have e := hfa.symm.trans (PySem.W.mg_of X G a)
  cases e
  exact ⟨_, fun s v => .of_eq rfl, fun base _ _ => tied T (fun_mk (st := top 58) lo c k)⟩
end Sd
open PySem PySem.W PyProof.Rows
set_option maxRecDepth 100000 in
set_option maxHeartbeats 0 in
theorem PySem.Challenge.cw_suredue_k29_main_payments_whole_or_nothi_holds : PySem.Challenge.rw_suredue_k29_main_payments_whole_or_nothi.Holds := by
  w_on; o_law; k_head; (case hw => w_witness2)
  k_fill
  refine Sd.walk (l := PySem.Challenge.rw_suredue_k29_main_payments_whole_or_nothi) rfl rfl (fun w h Y => PySem.W.kIn_of Y) ?F
  case F =>
    intro w mg fa h KX G hmg
    refine' Sd.fin_mk KX G hmg (Sd.Facts.mk
      (Sd.mkFree KX G ?z_isi ?z_tup ?z_lst ?z_len ?z_any ?z_all ?z_min ?z_max ?z_sum ?z_rng ?z_srt ?z_set ?z_int ?z_bool ?z_str ?z_abs ?z_enu ?z_zip)
      (Sd.mkU KX G ?gU ?uex ?ukC ?usu ?uty ?uiC ?usC)
      (PySem.W.mg_of KX G ?ml1)
      (PySem.W.mg_of KX G ?ml2)
      (Sd.mkL ?pg ?hd ?po ?sa ?n_net ?n_times ?n_person ?n_cares ?n_asks ?n_books ?n_secrets ?n_onward ?n_pairs ?n_wishes ?n_left ?n_moment ?n_ledger ?n_deeds ?n_letters ?n_wants ?n_passing ?n_payments)
      (Sd.mkI KX G ?gC ?imk ?ikc ?ia ?ij ?il ?ic ?ik)
      (Sd.mkF_look_at KX G ?a_look_at ?l_look_at ?c_look_at ?k_look_at)
      (Sd.mkF_look_by KX G ?a_look_by ?l_look_by ?c_look_by ?k_look_by)
      (Sd.mkF_show_by KX G ?a_show_by ?l_show_by ?c_show_by ?k_show_by)
      (Sd.mkF_close_by KX G ?a_close_by ?l_close_by ?c_close_by ?k_close_by)
      (Sd.mkF_tuple_of KX G ?a_tuple_of ?l_tuple_of ?c_tuple_of ?k_tuple_of)
      (Sd.mkF_sure_channel KX G ?a_sure_channel ?l_sure_channel ?c_sure_channel ?k_sure_channel)
      (Sd.mkF_person_of KX G ?a_person_of ?l_person_of ?c_person_of ?k_person_of)
      (Sd.mkF_side_of KX G ?a_side_of ?l_side_of ?c_side_of ?k_side_of)
      (Sd.mkF_first_sheet KX G ?a_first_sheet ?l_first_sheet ?c_first_sheet ?k_first_sheet)
      (Sd.mkF_in_time KX G ?a_in_time ?l_in_time ?c_in_time ?k_in_time)
      (Sd.mkF_least_in_end KX G ?a_least_in_end ?l_least_in_end ?c_least_in_end ?k_least_in_end)
      (Sd.mkF_enough_gap KX G ?a_enough_gap ?l_enough_gap ?c_enough_gap ?k_enough_gap)
      (Sd.mkF_lock_of KX G ?a_lock_of ?l_lock_of ?c_lock_of ?k_lock_of)
      (Sd.mkF_with_sum KX G ?a_with_sum ?l_with_sum ?c_with_sum ?k_with_sum)
      (Sd.mkF_with_lock KX G ?a_with_lock ?l_with_lock ?c_with_lock ?k_with_lock)
      (Sd.mkF_without_lock KX G ?a_without_lock ?l_without_lock ?c_without_lock ?k_without_lock)
      (Sd.mkF_changed KX G ?a_changed ?l_changed ?c_changed ?k_changed)
      (Sd.mkF_changes_of KX G ?a_changes_of ?l_changes_of ?c_changes_of ?k_changes_of)
      (Sd.mkF_change_or_none KX G ?a_change_or_none ?l_change_or_none ?c_change_or_none ?k_change_or_none)
      (Sd.mkF_begun_book KX G ?a_begun_book ?l_begun_book ?c_begun_book ?k_begun_book)
      (Sd.mkF_in_turn KX G ?a_in_turn ?l_in_turn ?c_in_turn ?k_in_turn)
      (Sd.mkF_wanting_just KX G ?a_wanting_just ?l_wanting_just ?c_wanting_just ?k_wanting_just)
      (Sd.mkF_with_newest KX G ?a_with_newest ?l_with_newest ?c_with_newest ?k_with_newest)
      (Sd.mkF_exposed KX G ?a_exposed ?l_exposed ?c_exposed ?k_exposed)
      (Sd.mkF_taken KX G ?a_taken ?l_taken ?c_taken ?k_taken)
      (Sd.mkF_first_fitting KX G ?a_first_fitting ?l_first_fitting ?c_first_fitting ?k_first_fitting)
      (Sd.mkF_book_at_look KX G ?a_book_at_look ?l_book_at_look ?c_book_at_look ?k_book_at_look)
      (Sd.mkF_may_open KX G ?a_may_open ?l_may_open ?c_may_open ?k_may_open)
      (Sd.mkF_passes KX G ?a_passes ?l_passes ?c_passes ?k_passes)
      (Sd.mkF_answer KX G ?a_answer ?l_answer ?c_answer ?k_answer)
      (Sd.mkF_at_look KX G ?a_at_look ?l_at_look ?c_at_look ?k_at_look)
      (Sd.mkF_channels_of KX G ?a_channels_of ?l_channels_of ?c_channels_of ?k_channels_of)
      (Sd.mkF_begun_mind KX G ?a_begun_mind ?l_begun_mind ?c_begun_mind ?k_begun_mind)
      (Sd.mkF_known_by KX G ?a_known_by ?l_known_by ?c_known_by ?k_known_by)
      (Sd.mkF_held_by KX G ?a_held_by ?l_held_by ?c_held_by ?k_held_by)
      (Sd.mkF_law_same KX G ?a_law_same ?l_law_same ?c_law_same ?k_law_same)
      (Sd.mkF_law_town_of KX G ?a_law_town_of ?l_law_town_of ?c_law_town_of ?k_law_town_of)
      (Sd.mkF_law_take KX G ?a_law_take ?l_law_take ?c_law_take ?k_law_take)
      (Sd.mkF_law_box KX G ?a_law_box ?l_law_box ?c_law_box ?k_law_box)
      (Sd.mkF_law_cells KX G ?a_law_cells ?l_law_cells ?c_law_cells ?k_law_cells)
      (Sd.mkF_law_all_looks KX G ?a_law_all_looks ?l_law_all_looks ?c_law_all_looks ?k_law_all_looks)
      (Sd.mkF_law_paid_right KX G ?a_law_paid_right ?l_law_paid_right ?c_law_paid_right ?k_law_paid_right)
      (Sd.mkF_law_by_hand_right KX G ?a_law_by_hand_right ?l_law_by_hand_right ?c_law_by_hand_right ?k_law_by_hand_right)
      (Sd.mkF_law_right KX G ?a_law_right ?l_law_right ?c_law_right ?k_law_right)
      (Sd.mkM_is_free ⟨?pg, ?hd, ?po, ?sa⟩ ?ma_is_free ?mj_is_free ?ml_is_free ?mc_is_free ?mk_is_free)
      (Sd.mkM_side ⟨?pg, ?hd, ?po, ?sa⟩ ?ma_side ?mj_side ?ml_side ?mc_side ?mk_side)
      (Sd.mkM_other ⟨?pg, ?hd, ?po, ?sa⟩ ?ma_other ?mj_other ?ml_other ?mc_other ?mk_other)
      (Sd.mkM_locks_in ⟨?pg, ?hd, ?po, ?sa⟩ ?ma_locks_in ?mj_locks_in ?ml_locks_in ?mc_locks_in ?mk_locks_in)
      (Sd.mkM_is_asked ⟨?pg, ?hd, ?po, ?sa⟩ ?ma_is_asked ?mj_is_asked ?ml_is_asked ?mc_is_asked ?mk_is_asked)
      (Sd.mkM_knows ⟨?pg, ?hd, ?po, ?sa⟩ ?ma_knows ?mj_knows ?ml_knows ?mc_knows ?mk_knows)
      (Sd.mkM_may_go ⟨?pg, ?hd, ?po, ?sa⟩ ?ma_may_go ?mj_may_go ?ml_may_go ?mc_may_go ?mk_may_go)
      (Sd.mkM_is_bound ⟨?pg, ?hd, ?po, ?sa⟩ ?ma_is_bound ?mj_is_bound ?ml_is_bound ?mc_is_bound ?mk_is_bound)
      (Sd.mkM_pair_of ⟨?pg, ?hd, ?po, ?sa⟩ ?ma_pair_of ?mj_pair_of ?ml_pair_of ?mc_pair_of ?mk_pair_of)
      (Sd.mkM_is_sure ⟨?pg, ?hd, ?po, ?sa⟩ ?ma_is_sure ?mj_is_sure ?ml_is_sure ?mc_is_sure ?mk_is_sure)
      (Sd.mkM_must_close ⟨?pg, ?hd, ?po, ?sa⟩ ?ma_must_close ?mj_must_close ?ml_must_close ?mc_must_close ?mk_must_close)
      (Sd.mkM_lets ⟨?pg, ?hd, ?po, ?sa⟩ ?ma_lets ?mj_lets ?ml_lets ?mc_lets ?mk_lets)
      (Sd.mkM_out_of ⟨?pg, ?hd, ?po, ?sa⟩ ?ma_out_of ?mj_out_of ?ml_out_of ?mc_out_of ?mk_out_of)
      (Sd.mkM_see ⟨?pg, ?hd, ?po, ?sa⟩ ?ma_see ?mj_see ?ml_see ?mc_see ?mk_see)
      (Sd.mkM_hear ⟨?pg, ?hd, ?po, ?sa⟩ ?ma_hear ?mj_hear ?ml_hear ?mc_hear ?mk_hear)
      (Sd.mkM_want ⟨?pg, ?hd, ?po, ?sa⟩ ?ma_want ?mj_want ?ml_want ?mc_want ?mk_want)
      (Sd.mkM_settle ⟨?pg, ?hd, ?po, ?sa⟩ ?ma_settle ?mj_settle ?ml_settle ?mc_settle ?mk_settle)
      (Sd.mkM_send_on ⟨?pg, ?hd, ?po, ?sa⟩ ?ma_send_on ?mj_send_on ?ml_send_on ?mc_send_on ?mk_send_on)
      (Sd.mkM_treat ⟨?pg, ?hd, ?po, ?sa⟩ ?ma_treat ?mj_treat ?ml_treat ?mc_treat ?mk_treat)
      (Sd.mkM_wish ⟨?pg, ?hd, ?po, ?sa⟩ ?ma_wish ?mj_wish ?ml_wish ?mc_wish ?mk_wish)
      (Sd.mkM_offer ⟨?pg, ?hd, ?po, ?sa⟩ ?ma_offer ?mj_offer ?ml_offer ?mc_offer ?mk_offer)
      (Sd.mkM_mind ⟨?pg, ?hd, ?po, ?sa⟩ ?ma_mind ?mj_mind ?ml_mind ?mc_mind ?mk_mind)) ?a_law ?l_law ?c_law ?k_law
    case gC => k_is
    case gU => k_is
    case z_isi => k_is
    case z_tup => k_is
    case z_lst => k_is
    case z_len => k_is
    case z_any => k_is
    case z_all => k_is
    case z_min => k_is
    case z_max => k_is
    case z_sum => k_is
    case z_rng => k_is
    case z_srt => k_is
    case z_set => k_is
    case z_int => k_is
    case z_bool => k_is
    case z_str => k_is
    case z_abs => k_is
    case z_enu => k_is
    case z_zip => k_is
    case uex => k_exc
    case ukC => k_is
    case usu => k_is
    case uty => k_is
    case uiC => k_is
    case usC => k_is
    case ml1 => k_is
    case ml2 => k_is
    case pg => k_is
    case hd => k_is
    case po => k_is
    case sa => k_is
    case n_net => k_is
    case n_times => k_is
    case n_person => k_is
    case n_cares => k_is
    case n_asks => k_is
    case n_books => k_is
    case n_secrets => k_is
    case n_onward => k_is
    case n_pairs => k_is
    case n_wishes => k_is
    case n_left => k_is
    case n_moment => k_is
    case n_ledger => k_is
    case n_deeds => k_is
    case n_letters => k_is
    case n_wants => k_is
    case n_passing => k_is
    case n_payments => k_is
    case imk => k_is
    case ikc => k_is
    case ia => k_is
    case ij => k_is
    case il => k_is
    case ic => k_is
    case ik => k_is
    case a_look_at => k_is
    case l_look_at => k_is
    case c_look_at => k_is
    case k_look_at => k_is
    case a_look_by => k_is
    case l_look_by => k_is
    case c_look_by => k_is
    case k_look_by => k_is
    case a_show_by => k_is
    case l_show_by => k_is
    case c_show_by => k_is
    case k_show_by => k_is
    case a_close_by => k_is
    case l_close_by => k_is
    case c_close_by => k_is
    case k_close_by => k_is
    case a_tuple_of => k_is
    case l_tuple_of => k_is
    case c_tuple_of => k_is
    case k_tuple_of => k_is
    case a_sure_channel => k_is
    case l_sure_channel => k_is
    case c_sure_channel => k_is
    case k_sure_channel => k_is
    case a_person_of => k_is
    case l_person_of => k_is
    case c_person_of => k_is
    case k_person_of => k_is
    case a_side_of => k_is
    case l_side_of => k_is
    case c_side_of => k_is
    case k_side_of => k_is
    case a_first_sheet => k_is
    case l_first_sheet => k_is
    case c_first_sheet => k_is
    case k_first_sheet => k_is
    case a_in_time => k_is
    case l_in_time => k_is
    case c_in_time => k_is
    case k_in_time => k_is
    case a_least_in_end => k_is
    case l_least_in_end => k_is
    case c_least_in_end => k_is
    case k_least_in_end => k_is
    case a_enough_gap => k_is
    case l_enough_gap => k_is
    case c_enough_gap => k_is
    case k_enough_gap => k_is
    case a_lock_of => k_is
    case l_lock_of => k_is
    case c_lock_of => k_is
    case k_lock_of => k_is
    case a_with_sum => k_is
    case l_with_sum => k_is
    case c_with_sum => k_is
    case k_with_sum => k_is
    case a_with_lock => k_is
    case l_with_lock => k_is
    case c_with_lock => k_is
    case k_with_lock => k_is
    case a_without_lock => k_is
    case l_without_lock => k_is
    case c_without_lock => k_is
    case k_without_lock => k_is
    case a_changed => k_is
    case l_changed => k_is
    case c_changed => k_is
    case k_changed => k_is
    case a_changes_of => k_is
    case l_changes_of => k_is
    case c_changes_of => k_is
    case k_changes_of => k_is
    case a_change_or_none => k_is
    case l_change_or_none => k_is
    case c_change_or_none => k_is
    case k_change_or_none => k_is
    case a_begun_book => k_is
    case l_begun_book => k_is
    case c_begun_book => k_is
    case k_begun_book => k_is
    case a_in_turn => k_is
    case l_in_turn => k_is
    case c_in_turn => k_is
    case k_in_turn => k_is
    case a_wanting_just => k_is
    case l_wanting_just => k_is
    case c_wanting_just => k_is
    case k_wanting_just => k_is
    case a_with_newest => k_is
    case l_with_newest => k_is
    case c_with_newest => k_is
    case k_with_newest => k_is
    case a_exposed => k_is
    case l_exposed => k_is
    case c_exposed => k_is
    case k_exposed => k_is
    case a_taken => k_is
    case l_taken => k_is
    case c_taken => k_is
    case k_taken => k_is
    case a_first_fitting => k_is
    case l_first_fitting => k_is
    case c_first_fitting => k_is
    case k_first_fitting => k_is
    case a_book_at_look => k_is
    case l_book_at_look => k_is
    case c_book_at_look => k_is
    case k_book_at_look => k_is
    case a_may_open => k_is
    case l_may_open => k_is
    case c_may_open => k_is
    case k_may_open => k_is
    case a_passes => k_is
    case l_passes => k_is
    case c_passes => k_is
    case k_passes => k_is
    case a_answer => k_is
    case l_answer => k_is
    case c_answer => k_is
    case k_answer => k_is
    case a_at_look => k_is
    case l_at_look => k_is
    case c_at_look => k_is
    case k_at_look => k_is
    case a_channels_of => k_is
    case l_channels_of => k_is
    case c_channels_of => k_is
    case k_channels_of => k_is
    case a_begun_mind => k_is
    case l_begun_mind => k_is
    case c_begun_mind => k_is
    case k_begun_mind => k_is
    case a_known_by => k_is
    case l_known_by => k_is
    case c_known_by => k_is
    case k_known_by => k_is
    case a_held_by => k_is
    case l_held_by => k_is
    case c_held_by => k_is
    case k_held_by => k_is
    case a_law_same => k_is
    case l_law_same => k_is
    case c_law_same => k_is
    case k_law_same => k_is
    case a_law_town_of => k_is
    case l_law_town_of => k_is
    case c_law_town_of => k_is
    case k_law_town_of => k_is
    case a_law_take => k_is
    case l_law_take => k_is
    case c_law_take => k_is
    case k_law_take => k_is
    case a_law_box => k_is
    case l_law_box => k_is
    case c_law_box => k_is
    case k_law_box => k_is
    case a_law_cells => k_is
    case l_law_cells => k_is
    case c_law_cells => k_is
    case k_law_cells => k_is
    case a_law_all_looks => k_is
    case l_law_all_looks => k_is
    case c_law_all_looks => k_is
    case k_law_all_looks => k_is
    case a_law_paid_right => k_is
    case l_law_paid_right => k_is
    case c_law_paid_right => k_is
    case k_law_paid_right => k_is
    case a_law_by_hand_right => k_is
    case l_law_by_hand_right => k_is
    case c_law_by_hand_right => k_is
    case k_law_by_hand_right => k_is
    case a_law_right => k_is
    case l_law_right => k_is
    case c_law_right => k_is
    case k_law_right => k_is
    case ma_is_free => k_is
    case mj_is_free => k_is
    case ml_is_free => k_is
    case mc_is_free => k_is
    case mk_is_free => k_is
    case ma_side => k_is
    case mj_side => k_is
    case ml_side => k_is
    case mc_side => k_is
    case mk_side => k_is
    case ma_other => k_is
    case mj_other => k_is
    case ml_other => k_is
    case mc_other => k_is
    case mk_other => k_is
    case ma_locks_in => k_is
    case mj_locks_in => k_is
    case ml_locks_in => k_is
    case mc_locks_in => k_is
    case mk_locks_in => k_is
    case ma_is_asked => k_is
    case mj_is_asked => k_is
    case ml_is_asked => k_is
    case mc_is_asked => k_is
    case mk_is_asked => k_is
    case ma_knows => k_is
    case mj_knows => k_is
    case ml_knows => k_is
    case mc_knows => k_is
    case mk_knows => k_is
    case ma_may_go => k_is
    case mj_may_go => k_is
    case ml_may_go => k_is
    case mc_may_go => k_is
    case mk_may_go => k_is
    case ma_is_bound => k_is
    case mj_is_bound => k_is
    case ml_is_bound => k_is
    case mc_is_bound => k_is
    case mk_is_bound => k_is
    case ma_pair_of => k_is
    case mj_pair_of => k_is
    case ml_pair_of => k_is
    case mc_pair_of => k_is
    case mk_pair_of => k_is
    case ma_is_sure => k_is
    case mj_is_sure => k_is
    case ml_is_sure => k_is
    case mc_is_sure => k_is
    case mk_is_sure => k_is
    case ma_must_close => k_is
    case mj_must_close => k_is
    case ml_must_close => k_is
    case mc_must_close => k_is
    case mk_must_close => k_is
    case ma_lets => k_is
    case mj_lets => k_is
    case ml_lets => k_is
    case mc_lets => k_is
    case mk_lets => k_is
    case ma_out_of => k_is
    case mj_out_of => k_is
    case ml_out_of => k_is
    case mc_out_of => k_is
    case mk_out_of => k_is
    case ma_see => k_is
    case mj_see => k_is
    case ml_see => k_is
    case mc_see => k_is
    case mk_see => k_is
    case ma_hear => k_is
    case mj_hear => k_is
    case ml_hear => k_is
    case mc_hear => k_is
    case mk_hear => k_is
    case ma_want => k_is
    case mj_want => k_is
    case ml_want => k_is
    case mc_want => k_is
    case mk_want => k_is
    case ma_settle => k_is
    case mj_settle => k_is
    case ml_settle => k_is
    case mc_settle => k_is
    case mk_settle => k_is
    case ma_send_on => k_is
    case mj_send_on => k_is
    case ml_send_on => k_is
    case mc_send_on => k_is
    case mk_send_on => k_is
    case ma_treat => k_is
    case mj_treat => k_is
    case ml_treat => k_is
    case mc_treat => k_is
    case mk_treat => k_is
    case ma_wish => k_is
    case mj_wish => k_is
    case ml_wish => k_is
    case mc_wish => k_is
    case mk_wish => k_is
    case ma_offer => k_is
    case mj_offer => k_is
    case ml_offer => k_is
    case mc_offer => k_is
    case mk_offer => k_is
    case ma_mind => k_is
    case mj_mind => k_is
    case ml_mind => k_is
    case mc_mind => k_is
    case mk_mind => k_is
    case a_law => k_is
    case l_law => k_is
    case c_law => k_is
    case k_law => k_is
