import PyProof.Rows.All
import Wide.All
import OpenK.AllK
import Wide.FinOn
import KE.KStateDown
import HandS.ForMost
import HandS.Flow
import HandS.Zip
import HandS.Wide
import HandS.IsInst
import HandS.TupAny
import HandS.TupLe
import HandS.Codes
import HandS.Style
import HandS.Defaults
import HandS.Ends
import HandS.Head0
import HandS.Head1
import HandS.Head2
import HandS.HeadEnd
import HandS.HeadHook1
import HandS.HeadHook2
import HandS.Conv
import HandS.TupSets
import HandS.NoneIn
import HandS.TupMul
import HandS.Star
import PyProof.WalkInts
import HandS.SortKw
import PyProof.Rows.SortKeyStr
import HandS.FStr
import HandS.Strs
import HandS.Deep
import KE.GoesEnum
import HandS.More
import HandS.HotCalls
import HandS.ExcIs
import HandS.Property
import HandS.MakeKwOnly
import HandS.ClsMeth
import HandS.SlotsOwn
import HandS.Records
import HandS.HeadNt
import HandS.GenBody
import HandS.GenYield
import HandS.GenCall
import HandS.GenList
import HandS.SetFor
import PySem.Challenge.RW_spandates_k31_whole_diaries_call_by_call
set_option Elab.async false
set_option linter.all false
set_option maxRecDepth 100000
set_option maxHeartbeats 8000000
/-! Data over the hand layer: values as plain data, readings over data alone. -/
namespace DL
open PySem PySem.Spec PyProof.Rows L2

abbrev D := PyData
abbrev Fg := PySem.W.Frag
def kD : L2.Key → D
  | .inl i => .int i
  | .inr x => .str x

/-- what is asked of a class whose instances are data -/
structure ObjC (K : Fg) (C : Addr) : Prop where
  ic : C8.InsC K C
  no : ∀ T ∈ ["int", "bool", "str", "list", "tuple"], PySem.W.kitOne K (.ref C) (.type T) = some false
/-- an instance that is not changed any more, as data: its class, its attributes -/
def objD (C : Addr) (fs : List (Str × D)) : D := .dict ((.int C, .none) :: fs.map fun p => (.str p.1, p.2))
mutual
inductive Dn (K : Fg) (F : Hp) : V → D → Prop
  | non : Dn K F .non .none
  | bl (b : Bool) : Dn K F (.bl b) (.bool b)
  | int (i : Int) : Dn K F (.int i) (.int i)
  | str (x : Str) : Dn K F (.str x) (.str x)
  | lst {a : Addr} {xs : List V} {ds : List D} : F a = some (.lst xs) → DnA K F xs ds → Dn K F (.ref a) (.list ds)
  | tup {a : Addr} {xs : List V} {ds : List D} : SqT K F a xs → DnA K F xs ds → Dn K F (.ref a) (.tuple ds)
  | obj {a dx C : Addr} {ns : List Str} {vs : List V} {ds : List D} : F a = some (.ins C dx (ns.zip vs)) → ns.length = vs.length → ObjC K C → DnA K F vs ds → Dn K F (.ref a) (objD C (ns.zip ds))
inductive DnA (K : Fg) (F : Hp) : List V → List D → Prop
  | nil : DnA K F [] []
  | cons {v : V} {vs : List V} {d : D} {ds : List D} : Dn K F v d → DnA K F vs ds → DnA K F (v :: vs) (d :: ds)
end

def Ex (H H' : Hp) : Prop := ∀ a o, H a = some o → H' a = some o
theorem Ex.refl (H : Hp) : Ex H H := fun _ _ h => h
theorem Ex.trans {H H1 H2 : Hp} (a : Ex H H1) (b : Ex H1 H2) : Ex H H2 := fun x o h => b x o (a x o h)
theorem Ex.new {H : Hp} {p : Addr} {o : HO} (h : H p = none) : Ex H (upd H p o) := fun a u e => by
  rw [upd_ne (ne_of_none e h)]; exact e
theorem Ex.none {H H' : Hp} {p : Addr} (e : Ex H H') (h : H' p = none) : H p = none := by
  cases q : H p with
  | none => rfl
  | some o => rw [e p o q] at h; cases h
theorem ex_t {K : Fg} {H H' : Hp} {a : Addr} {xs : List V} (e : Ex H H') (h : SqT K H a xs) : SqT K H' a xs := by
  rcases h with (h | ⟨o, h⟩) | h
  · exact .inl (.inl (e _ _ h))
  · exact .inl (.inr ⟨o, e _ _ h⟩)
  · exact .inr h
theorem ex_upd2 {F H : Hp} {p : Addr} {o : HO} (e : Ex F H) : Ex (upd F p o) (upd H p o) := fun a u h => by
  by_cases q : a = p
  · subst q; rw [upd_same] at h ⊢; exact h
  · rw [upd_ne q] at h ⊢; exact e a u h
theorem ex_updH {F H : Hp} {p : Addr} {o : HO} (e : Ex F H) (h : F p = none) : Ex F (upd H p o) := fun a u q => by
  rw [upd_ne (ne_of_none q h)]; exact e a u q

section
variable {K : Fg} {F F' : Hp}
mutual
theorem Dn.mono (e : Ex F F') : ∀ {v : V} {d : D}, Dn K F v d → Dn K F' v d
  | _, _, .non => .non
  | _, _, .bl b => .bl b
  | _, _, .int i => .int i
  | _, _, .str x => .str x
  | _, _, .lst h a => .lst (e _ _ h) (DnA.mono e a)
  | _, _, .tup h a => .tup (ex_t e h) (DnA.mono e a)
  | _, _, .obj h l c a => .obj (e _ _ h) l c (DnA.mono e a)
theorem DnA.mono (e : Ex F F') : ∀ {vs : List V} {ds : List D}, DnA K F vs ds → DnA K F' vs ds
  | _, _, .nil => .nil
  | _, _, .cons h t => .cons (Dn.mono e h) (DnA.mono e t)
end
theorem DnA.length : ∀ {vs : List V} {ds : List D}, DnA K F vs ds → vs.length = ds.length
  | _, _, .nil => rfl
  | _, _, .cons _ t => by simp [DnA.length t]
theorem DnA.get : ∀ {vs : List V} {ds : List D} {i : Nat} {d : D}, DnA K F vs ds → ds[i]? = some d → ∃ v, vs[i]? = some v ∧ Dn K F v d
  | _, _, _, _, .nil, h => by simp at h
  | _, _, 0, _, .cons h _, e => by simp at e; subst e; exact ⟨_, rfl, h⟩
  | _, _, i + 1, _, .cons _ t, e => by
    obtain ⟨v, q1, q2⟩ := DnA.get (i := i) t (by simpa using e)
    exact ⟨v, by simpa using q1, q2⟩
theorem DnA.getV : ∀ {vs : List V} {ds : List D} {i : Nat} {v : V}, DnA K F vs ds → vs[i]? = some v → ∃ d, ds[i]? = some d ∧ Dn K F v d
  | _, _, _, _, .nil, h => by simp at h
  | _, _, 0, _, .cons h _, e => by simp at e; subst e; exact ⟨_, rfl, h⟩
  | _, _, i + 1, _, .cons _ t, e => by
    obtain ⟨v, q1, q2⟩ := DnA.getV (i := i) t (by simpa using e)
    exact ⟨v, by simpa using q1, q2⟩
theorem DnA.append : ∀ {vs us : List V} {ds es : List D}, DnA K F vs ds → DnA K F us es → DnA K F (vs ++ us) (ds ++ es)
  | _, _, _, _, .nil, h => h
  | _, _, _, _, .cons h t, k => .cons h (DnA.append t k)
theorem DnA.take : ∀ {vs : List V} {ds : List D} (n : Nat), DnA K F vs ds → DnA K F (vs.take n) (ds.take n)
  | _, _, 0, _ => by simp; exact .nil
  | _, _, n + 1, .nil => by simp; exact .nil
  | _, _, n + 1, .cons h t => by simp; exact .cons h (DnA.take n t)
theorem DnA.drop : ∀ {vs : List V} {ds : List D} (n : Nat), DnA K F vs ds → DnA K F (vs.drop n) (ds.drop n)
  | _, _, 0, h => by simpa using h
  | _, _, n + 1, .nil => by simp; exact .nil
  | _, _, n + 1, .cons h t => by simp; exact DnA.drop n t
theorem DnA.reverse {vs : List V} {ds : List D} (h : DnA K F vs ds) : DnA K F vs.reverse ds.reverse := by
  induction vs generalizing ds with
  | nil => cases h; exact .nil
  | cons v vs ih => cases h with | cons h t => simp only [List.reverse_cons]; exact DnA.append (ih t) (.cons h .nil)
theorem DnA.set : ∀ {vs : List V} {ds : List D} {v : V} {d : D} (i : Nat), DnA K F vs ds → Dn K F v d → DnA K F (vs.set i v) (ds.set i d)
  | _, _, _, _, _, .nil, _ => .nil
  | _, _, _, _, 0, .cons _ t, h => .cons h t
  | _, _, _, _, i + 1, .cons q t, h => .cons q (DnA.set i t h)
theorem DnA.ints : ∀ {vs : List V} {ns : List Int}, DnA K F vs (ns.map PyData.int) → vs = ns.map V.int
  | [], [], _ => rfl
  | _ :: _, [], h => by cases h
  | [], _ :: _, h => by cases h
  | _ :: _, n :: ns, .cons h t => by cases h; rw [DnA.ints t]; rfl
theorem DnA.of_ints : ∀ (ns : List Int), DnA K F (ns.map V.int) (ns.map PyData.int)
  | [] => .nil
  | n :: ns => .cons (.int n) (DnA.of_ints ns)
theorem DnA.bools : ∀ {vs : List V} {ns : List Bool}, DnA K F vs (ns.map PyData.bool) → vs = ns.map V.bl
  | [], [], _ => rfl
  | _ :: _, [], h => by cases h
  | [], _ :: _, h => by cases h
  | _ :: _, n :: ns, .cons h t => by cases h; rw [DnA.bools t]; rfl
theorem DnA.strs : ∀ {vs : List V} {ns : List Str}, DnA K F vs (ns.map PyData.str) → vs = ns.map V.str
  | [], [], _ => rfl
  | _ :: _, [], h => by cases h
  | [], _ :: _, h => by cases h
  | _ :: _, n :: ns, .cons h t => by cases h; rw [DnA.strs t]; rfl
theorem DnA.of_strs : ∀ (ns : List Str), DnA K F (ns.map V.str) (ns.map PyData.str)
  | [] => .nil
  | n :: ns => .cons (.str n) (DnA.of_strs ns)
end

mutual
def nodic : D → Bool
  | .dict _ => false
  | .list ds => nodicA ds
  | .tuple ds => nodicA ds
  | .none => true
  | .bool _ => true
  | .int _ => true
  | .str _ => true
def nodicA : List D → Bool
  | [] => true
  | d :: ds => nodic d && nodicA ds
end
section
variable {K : Fg} {F : Hp}
mutual
theorem Dn.dp : ∀ {v : V} {d : D}, Dn K F v d → nodic d = true → Dp K F v d
  | _, _, .non, _ => .non
  | _, _, .bl b, _ => .bl b
  | _, _, .int i, _ => .int i
  | _, _, .str x, _ => .str x
  | _, _, .lst h a, e => .lst (SqL.of h) (DnA.dp a (by simpa [nodic] using e))
  | _, _, .tup h a, e => .tup h (DnA.dp a (by simpa [nodic] using e))
  | _, _, .obj _ _ _ _, e => by simp [objD, nodic] at e
theorem DnA.dp : ∀ {vs : List V} {ds : List D}, DnA K F vs ds → nodicA ds = true → DpAll K F vs ds
  | _, _, .nil, _ => .nil
  | _, _, .cons h t, e => by
    simp only [nodicA, Bool.and_eq_true] at e
    exact .cons (Dn.dp h e.1) (DnA.dp t e.2)
end
end

/-- an instance's attributes -/
def DnS (K : Fg) (F : Hp) : List (Str × V) → List (Str × D) → Prop := Paired fun (p : Str × V) (q : Str × D) => p.1 = q.1 ∧ Dn K F p.2 q.2
theorem DnS.mono {K : Fg} {F F' : Hp} (e : Ex F F') {a : List (Str × V)} {b : List (Str × D)} (h : DnS K F a b) : DnS K F' a b := Paired.mapP h fun _ _ q => ⟨q.1, q.2.mono e⟩
/-- what an own object at a known place holds: an instance, a list -/
inductive OS where
  | ins (C : Addr) (fs : List (Str × D))
  | lst (xs : List D)
def OsAt (K : Fg) (F H : Hp) (p : Addr) : OS → Prop
  | .ins C fs => ∃ dx ws, H p = some (.ins C dx ws) ∧ DnS K F ws fs
  | .lst xs => ∃ vs, H p = some (.lst vs) ∧ DnA K F vs xs
theorem OsAt.mono {K : Fg} {F F' H H' : Hp} {p : Addr} {s : OS} (h : OsAt K F H p s) (e : Ex F F') (k : ∀ o, H p = some o → H' p = some o) : OsAt K F' H' p s := by
  cases s with
  | ins C fs => obtain ⟨dx, ws, a, b⟩ := h; exact ⟨dx, ws, k _ a, b.mono e⟩
  | lst xs => obtain ⟨vs, a, b⟩ := h; exact ⟨vs, k _ a, b.mono e⟩
theorem OsAt.at_ {K : Fg} {F H : Hp} {p : Addr} {s : OS} (h : OsAt K F H p s) : ∃ o, H p = some o := by
  cases s with
  | ins C fs => obtain ⟨dx, ws, a, b⟩ := h; exact ⟨_, a⟩
  | lst xs => obtain ⟨vs, a, b⟩ := h; exact ⟨_, a⟩
theorem OsAt.ne {K : Fg} {F H : Hp} {p : Addr} {s : OS} (h : OsAt K F H p s) : H p ≠ none := by
  obtain ⟨o, e⟩ := h.at_
  rw [e]; simp

/-! ### what a frame's slots hold -/
inductive Sl where
  | un
  | dt (x : D)
  | own (xs : List D)
  | owo (r : Addr) (s : OS)
  | ref (a : Addr)
  | tape
abbrev Sl.owi (r C : Addr) (fs : List (Str × D)) : Sl := .owo r (.ins C fs)
/-- the law's tape: its list, the script's list, the script's ints -/
structure TP where
  p : Addr
  l : Addr
  ns : List Int
def TapeAt (F H : Hp) (t : TP) : Prop :=
  F t.p = none ∧ F t.l = some (.lst (t.ns.map V.int)) ∧ ∃ c j : Int, 0 ≤ c ∧ 0 ≤ j ∧ H t.p = some (.lst [.ref t.l, .int c, .int j])
def SlotR (K : Fg) (B : Hp) (T : Option TP) (F H : Hp) : Sl → Option V → Prop
  | .un, _ => True
  | .dt x, o => ∃ v, o = some v ∧ Dn K F v x
  | .own xs, o => ∃ p vs, o = some (.ref p) ∧ B p = none ∧ F p = none ∧ (∀ t, T = some t → p ≠ t.p) ∧ H p = some (.lst vs) ∧ DnA K F vs xs
  | .owo r s, o => o = some (.ref r) ∧ B r = none ∧ F r = none ∧ (∀ t, T = some t → r ≠ t.p) ∧ OsAt K F H r s
  | .ref a, o => o = some (.ref a)
  | .tape, o => ∃ t, T = some t ∧ o = some (.ref t.p)
def Sl.owned : Sl → Bool
  | .own _ => true
  | .owo _ _ => true
  | _ => false

/-- B, G: the heap and its frozen part at the def's entry; F: what is frozen now -/
structure StR (K : Fg) (B G : Hp) (T : Option TP) (F : Hp) (env : List Sl) (σ : L2.St) (H : Hp) : Prop where
  gf : Ex G F
  fh : Ex F H
  bh : ∀ a o, B a = some o → (∀ t, T = some t → a ≠ t.p) → H a = some o
  nf : ∀ a, B a ≠ none → G a = none → F a = none
  len : env.length = σ.length
  sl : ∀ (i : Nat) s o, env[i]? = some s → σ[i]? = some o → SlotR K B T F H s o
  ds : ∀ (i j : Nat) s s', i ≠ j → env[i]? = some s → env[j]? = some s' → s.owned = true → s'.owned = true → σ[i]? ≠ σ[j]?
  tp : ∀ t, T = some t → TapeAt F H t

/-- evaluation keeps what stands (but the tape) -/
def Kp (T : Option TP) (H H' : Hp) : Prop := ∀ a o, H a = some o → (∀ t, T = some t → a ≠ t.p) → H' a = some o
theorem Kp.refl (T : Option TP) (H : Hp) : Kp T H H := fun _ _ h _ => h
theorem Kp.trans {T : Option TP} {H H1 H2 : Hp} (a : Kp T H H1) (b : Kp T H1 H2) : Kp T H H2 := fun x o h n => b x o (a x o h n) n
theorem Kp.of_ex {T : Option TP} {H H1 : Hp} (a : Ex H H1) : Kp T H H1 := fun x o h _ => a x o h

/-- the step of an evaluation: F grows, by new places alone, what stands stands -/
structure Gr (T : Option TP) (F H F' H' : Hp) : Prop where
  ff : Ex F F'
  fh : Ex F' H'
  hh : Kp T H H'
  nw : ∀ a, H a ≠ none → F a = none → F' a = none
theorem Gr.refl {T : Option TP} {F H : Hp} (h : Ex F H) : Gr T F H F H := ⟨Ex.refl F, h, Kp.refl T H, fun _ _ h => h⟩
theorem Kp.some {T : Option TP} {H H1 : Hp} (k : Kp T H H1) {a : Addr} (n : ∀ t, T = Option.some t → a ≠ t.p) (h : H a ≠ Option.none) : H1 a ≠ Option.none := by
  cases q : H a with
  | none => exact absurd q h
  | some o => rw [k a o q n]; simp
theorem Gr.trans {T : Option TP} {F H F1 H1 F2 H2 : Hp} (a : Gr T F H F1 H1) (b : Gr T F1 H1 F2 H2) (tp : ∀ t, T = some t → H1 t.p ≠ none) : Gr T F H F2 H2 :=
  ⟨a.ff.trans b.ff, b.fh, a.hh.trans b.hh, fun x h n => b.nw x (by
    by_cases q : ∀ t, T = some t → x ≠ t.p
    · exact a.hh.some q h
    · simp only [Classical.not_forall] at q
      obtain ⟨t, e, q⟩ := q
      have : x = t.p := Classical.not_not.mp q
      rw [this]; exact tp t e) (a.nw x h n)⟩

section
variable {K : Fg} {B G F H F' H' : Hp} {T : Option TP} {env : List Sl} {σ : L2.St}
theorem StR.grow (S : StR K B G T F env σ H) (g : Gr T F H F' H') (tp : ∀ t, T = some t → TapeAt F' H' t) : StR K B G T F' env σ H' where
  gf := S.gf.trans g.ff
  fh := g.fh
  bh := fun a o h n => g.hh a o (S.bh a o h n) n
  nf := fun a h n => by
    by_cases q : ∀ t, T = some t → a ≠ t.p
    · refine g.nw a ?_ (S.nf a h n)
      cases e : B a with
      | none => exact absurd e h
      | some o => rw [S.bh a o e q]; simp
    · simp only [Classical.not_forall] at q
      obtain ⟨t, e, q⟩ := q
      have : a = t.p := Classical.not_not.mp q
      rw [this]; exact (tp t e).1
  len := S.len
  sl := fun i s o e1 e2 => by
    have h := S.sl i s o e1 e2
    cases s with
    | un => trivial
    | dt x => obtain ⟨v, e, d⟩ := h; exact ⟨v, e, d.mono g.ff⟩
    | own xs =>
      obtain ⟨p, vs, e, b, f, n, h, d⟩ := h
      exact ⟨p, vs, e, b, g.nw p (by rw [h]; simp) f, n, g.hh p _ h n, d.mono g.ff⟩
    | owo r z => obtain ⟨e, b, f, n, h⟩ := h; exact ⟨e, b, g.nw r h.ne f, n, h.mono g.ff (fun o q => g.hh r _ q n)⟩
    | ref a => exact h
    | tape => exact h
  ds := S.ds
  tp := tp
/-- new data is laid -/
theorem StR.lay (S : StR K B G T F env σ H) {p : Addr} {o : HO} (hp : H p = none) : StR K B G T (upd F p o) env σ (upd H p o) ∧ Gr T F H (upd F p o) (upd H p o) := by
  have fp : F p = none := S.fh.none hp
  have g : Gr T F H (upd F p o) (upd H p o) := ⟨Ex.new fp, ex_upd2 S.fh, Kp.of_ex (Ex.new hp), fun a h n => by
    rw [upd_ne (fun e => h (by rw [e]; exact hp))]; exact n⟩
  refine ⟨S.grow g fun t e => ?_, g⟩
  obtain ⟨h1, h2, c, j, h3, h4, h5⟩ := S.tp t e
  have n1 : t.p ≠ p := ne_of_none h5 hp
  exact ⟨by rw [upd_ne n1]; exact h1, Ex.new fp _ _ h2, c, j, h3, h4, by rw [upd_ne n1]; exact h5⟩
end

/-! ### readings over data -/
def rdE (K : Fg) (env : List Sl) (Φ : D → Prop) : TE := fun σ H Q => ∃ B G T F, StR K B G T F env σ H ∧ ∀ v d F' H', StR K B G T F' env σ H' → Gr T F H F' H' → Dn K F' v d → Φ d → Q v H'
def rdA (K : Fg) (env : List Sl) (Φ : List D → Prop) : TA := fun σ H Q => ∃ B G T F, StR K B G T F env σ H ∧ ∀ vs ds F' H', StR K B G T F' env σ H' → Gr T F H F' H' → DnA K F' vs ds → Φ ds → Q vs H'
def rdT (K : Fg) (env : List Sl) (Φ : Bool → Prop) : TT := fun σ H Q => ∃ B G T F, StR K B G T F env σ H ∧ ∀ b F' H', StR K B G T F' env σ H' → Gr T F H F' H' → Φ b → Q b H'
def rdO (K : Fg) (env : List Sl) (Φ : Option Int → Prop) : TO := fun σ H Q => ∃ B G T F, StR K B G T F env σ H ∧ ∀ b F' H', StR K B G T F' env σ H' → Gr T F H F' H' → Φ b → Q b H'
def ER (X : Cx) (e : Expr) (env : List Sl) (Φ : D → Prop) : Prop := PE X e (rdE X.K env Φ)
def AR (X : Cx) (es : List Expr) (env : List Sl) (Φ : List D → Prop) : Prop := PA X es (rdA X.K env Φ)
def TR (X : Cx) (e : Expr) (env : List Sl) (Φ : Bool → Prop) : Prop := PT X e (rdT X.K env Φ)
def OR (X : Cx) (e : Option Expr) (env : List Sl) (Φ : Option Int → Prop) : Prop := PO X e (rdO X.K env Φ)
theorem PE.imp {X : Cx} {e : Expr} {t t' : TE} (h : PE X e t) (k : ∀ σ H Q, t' σ H Q → t σ H Q) : PE X e t' := ⟨fun pins s σ H Q I q => h.run pins s σ H Q I (k σ H Q q)⟩
theorem PT.imp {X : Cx} {e : Expr} {t t' : TT} (h : PT X e t) (k : ∀ σ H Q, t' σ H Q → t σ H Q) : PT X e t' := ⟨fun pins s σ H Q I q => h.run pins s σ H Q I (k σ H Q q)⟩
theorem PW.imp {X : Cx} {e : Expr} {t t' : TT} (h : PW X e t) (k : ∀ σ H Q, t' σ H Q → t σ H Q) : PW X e t' := ⟨fun w pins s σ H Q I q => h.run w pins s σ H Q I (k σ H Q q)⟩
theorem PA.imp {X : Cx} {e : List Expr} {t t' : TA} (h : PA X e t) (k : ∀ σ H Q, t' σ H Q → t σ H Q) : PA X e t' := ⟨fun pos pins s σ H Q I q => h.run pos pins s σ H Q I (k σ H Q q)⟩
theorem PSs.imp {X : Cx} {e : List Stmt} {t t' : TS} (h : PSs X e t) (k : ∀ D σ H, t' D σ H → t D σ H) : PSs X e t' := ⟨fun pins s σ H D I q => h.run pins s σ H D I (k D σ H q)⟩
theorem PS.imp {X : Cx} {e : Stmt} {t t' : TS} (h : PS X e t) (k : ∀ D σ H, t' D σ H → t D σ H) : PS X e t' := ⟨fun pins s σ H D I q => h.run pins s σ H D I (k D σ H q)⟩
theorem PE.ex {X : Cx} {e : Expr} {ι : Type} {t : ι → TE} (h : ∀ i, PE X e (t i)) : PE X e (fun σ H Q => ∃ i, t i σ H Q) := ⟨fun pins s σ H Q I ⟨i, q⟩ => (h i).run pins s σ H Q I q⟩
theorem PT.ex {X : Cx} {e : Expr} {ι : Type} {t : ι → TT} (h : ∀ i, PT X e (t i)) : PT X e (fun σ H Q => ∃ i, t i σ H Q) := ⟨fun pins s σ H Q I ⟨i, q⟩ => (h i).run pins s σ H Q I q⟩
theorem PA.ex {X : Cx} {e : List Expr} {ι : Type} {t : ι → TA} (h : ∀ i, PA X e (t i)) : PA X e (fun σ H Q => ∃ i, t i σ H Q) := ⟨fun pos pins s σ H Q I ⟨i, q⟩ => (h i).run pos pins s σ H Q I q⟩
theorem PSs.ex {X : Cx} {e : List Stmt} {ι : Type} {t : ι → TS} (h : ∀ i, PSs X e (t i)) : PSs X e (fun D σ H => ∃ i, t i D σ H) := ⟨fun pins s σ H D I ⟨i, q⟩ => (h i).run pins s σ H D I q⟩
theorem StR.tpn {K : Fg} {B G F H : Hp} {T : Option TP} {env : List Sl} {σ : L2.St} (S : StR K B G T F env σ H) : ∀ t, T = some t → H t.p ≠ none := fun t e => by
  obtain ⟨_, _, c, j, _, _, h⟩ := S.tp t e
  rw [h]; simp
end DL

namespace DL
open PySem PySem.Spec PyProof.Rows L2

abbrev ED (X : Cx) (e : Expr) (env : List Sl) (d : D) : Prop := ER X e env (fun x => x = d)
abbrev AD (X : Cx) (es : List Expr) (env : List Sl) (ds : List D) : Prop := AR X es env (fun x => x = ds)
abbrev TD (X : Cx) (e : Expr) (env : List Sl) (b : Bool) : Prop := TR X e env (fun x => x = b)
abbrev OD (X : Cx) (e : Option Expr) (env : List Sl) (b : Option Int) : Prop := OR X e env (fun x => x = b)
def WR (X : Cx) (e : Expr) (env : List Sl) (Φ : Bool → Prop) : Prop := PW X e (rdT X.K env Φ)
abbrev WD (X : Cx) (e : Expr) (env : List Sl) (b : Bool) : Prop := WR X e env (fun x => x = b)

section
variable {X : Cx} {e a b : Expr} {es : List Expr} {env : List Sl} {Φ Ψ Χ : D → Prop} {x : Str} {pos p : Pos} {j : Nat}
theorem ER.imp (h : ER X e env Φ) (k : ∀ d, Φ d → Ψ d) : ER X e env Ψ := PE.imp h fun σ H Q ⟨B, G, T, F, S, q⟩ => ⟨B, G, T, F, S, fun v d F' H' S' g dn φ => q v d F' H' S' g dn (k d φ)⟩
theorem AR.imp {Φ Ψ : List D → Prop} (h : AR X es env Φ) (k : ∀ d, Φ d → Ψ d) : AR X es env Ψ := PA.imp h fun σ H Q ⟨B, G, T, F, S, q⟩ => ⟨B, G, T, F, S, fun v d F' H' S' g dn φ => q v d F' H' S' g dn (k d φ)⟩
theorem TR.imp {Φ Ψ : Bool → Prop} (h : TR X e env Φ) (k : ∀ d, Φ d → Ψ d) : TR X e env Ψ := PT.imp h fun σ H Q ⟨B, G, T, F, S, q⟩ => ⟨B, G, T, F, S, fun v F' H' S' g φ => q v F' H' S' g (k v φ)⟩
theorem ED.is {d d' : D} (h : ED X e env d) (k : d = d') : ED X e env d' := k ▸ h
theorem TD.is {d d' : Bool} (h : TD X e env d) (k : d = d') : TD X e env d' := k ▸ h
theorem ED.er {d : D} (h : ED X e env d) (k : Φ d) : ER X e env Φ := h.imp fun _ e => e ▸ k

/-! ### names, constants -/
theorem ed_var (i : Nat) {d : D} (h : env[i]? = some (.dt d) := by rfl) (hN : X.N[i]? = some x := by rfl) (hv : Vis X.env.scope x := by first | exact Or.inl rfl | exact Or.inr (Or.inl rfl) | exact Or.inr (Or.inr rfl)) (hd : (x == ("__debug__" : Str)) = false := by decide)
    (hcd : (x == ("__classdict__" : Str)) = false := by decide) : ED X (.Name x pos) env d := PE.imp (pv i hN hv hd hcd) fun σ H Q ⟨B, G, T, F, S, q⟩ => by
  have hi : i < σ.length := by rw [← S.len]; exact (List.getElem?_eq_some_iff.mp h).1
  obtain ⟨v, e, dn⟩ := S.sl i _ _ h (List.getElem?_eq_getElem hi)
  exact ⟨v, by rw [List.getElem?_eq_getElem hi, e], q v d F H S (Gr.refl S.fh) dn rfl⟩
theorem ed_int {i : Int} : ED X (.Constant (.int i) j pos) env (.int i) := PE.imp pe_int fun σ H Q ⟨B, G, T, F, S, q⟩ => q _ _ F H S (Gr.refl S.fh) (.int i) rfl
theorem ed_bl {c : Bool} : ED X (.Constant (.bool c) j pos) env (.bool c) := PE.imp pe_bl fun σ H Q ⟨B, G, T, F, S, q⟩ => q _ _ F H S (Gr.refl S.fh) (.bl c) rfl
theorem ed_non : ED X (.Constant .none j pos) env .none := PE.imp pe_non fun σ H Q ⟨B, G, T, F, S, q⟩ => q _ _ F H S (Gr.refl S.fh) .non rfl
theorem ed_str {z : Str} : ED X (.Constant (.str z) j pos) env (.str z) := PE.imp pe_str fun σ H Q ⟨B, G, T, F, S, q⟩ => q _ _ F H S (Gr.refl S.fh) (.str z) rfl
/-- a constant of the module -/
theorem ed_glob {u : Value} {v : V} {d : D} (hm : X.mg x = some u) (r : RelV v u) (hd : ∀ F, Dn X.K F v d) (hg : Gl X x := by rfl) (hdb : (x == ("__debug__" : Str)) = false := by decide) : ED X (.Name x pos) env d :=
  PE.imp (pe_glob hg hm r hdb) fun σ H Q ⟨B, G, T, F, S, q⟩ => q _ _ F H S (Gr.refl S.fh) (hd F) rfl

/-! ### two operands -/
def RMax (X : Cx) (f : Value → Value → Sem Value) : R2 := fun x y H Q => ∃ r, OpR X f r ∧ r x y H Q
theorem RMax.ok {f : Value → Value → Sem Value} : OpR X f (RMax X f) := fun pins s σ H x y v u Q I rx ry ⟨r, h, q⟩ => h pins s σ H x y v u Q I rx ry q
/-- f of the data x and y gives what Χ says -/
def OpD (X : Cx) (f : Value → Value → Sem Value) (x y : D) (Χ : D → Prop) : Prop := ∃ r, OpR X f r ∧ ∀ B G T F env σ H v u (Q : VK), StR X.K B G T F env σ H → Dn X.K F v x → Dn X.K F u y →
  (∀ w d F' H', StR X.K B G T F' env σ H' → Gr T F H F' H' → Dn X.K F' w d → Χ d → Q w H') → r v u H Q
theorem rd_two {f : Value → Value → Sem Value} (h : ∀ x y, Φ x → Ψ y → OpD X f x y Χ) {σ : L2.St} {H : Hp} {Q : VK} : rdE X.K env Χ σ H Q → tOp (RMax X f) (rdE X.K env Φ) (rdE X.K env Ψ) σ H Q := fun ⟨B, G, T, F, S, q⟩ => by
  refine ⟨B, G, T, F, S, fun v d F1 H1 S1 g1 d1 φ => ⟨B, G, T, F1, S1, fun u e F2 H2 S2 g2 d2 ψ => ?_⟩⟩
  obtain ⟨r, hr, k⟩ := h d e φ ψ
  exact ⟨r, hr, k B G T F2 env σ H2 v u Q S2 (d1.mono g2.ff) d2 fun w z F' H' S' g' dn χ => q w z F' H' S' ((g1.trans g2 S1.tpn).trans g' S2.tpn) dn χ⟩
theorem er_bin {op : Operator} (ha : ER X a env Φ) (hb : ER X b env Ψ) (h : ∀ x y, Φ x → Ψ y → OpD X (binaryOp op) x y Χ) : ER X (.BinOp a op b pos) env Χ := PE.imp (pe_op RMax.ok ha hb) fun _ _ _ => rd_two h
theorem er_cmp {op : CmpOp} (ha : ER X a env Φ) (hb : ER X b env Ψ) (h : ∀ x y, Φ x → Ψ y → OpD X (compareOp op) x y Χ) (hm : behindInMarks op b = false) : ER X (.Compare a [op] [b] pos) env Χ := PE.imp (pe_cmpR RMax.ok ha hb hm) fun _ _ _ => rd_two h
theorem tr_cmp {op : CmpOp} {Ξ : Bool → Prop} (ha : ER X a env Φ) (hb : ER X b env Ψ) (h : ∀ x y, Φ x → Ψ y → OpD X (compareOp op) x y (fun d => ∃ k, d = .bool k ∧ Ξ k)) (hm : behindInMarks op b = false) : TR X (.Compare a [op] [b] pos) env Ξ :=
  PT.imp (pt_cmpR RMax.ok ha hb hm) fun σ H Q ⟨B, G, T, F, S, q⟩ => rd_two h ⟨B, G, T, F, S, fun v d F' H' S' g dn ⟨k, e, ξ⟩ => by
    subst e; cases dn; exact ⟨k, rfl, q k F' H' S' g ξ⟩⟩
theorem OpD.imp {f : Value → Value → Sem Value} {x y : D} (h : OpD X f x y Φ) (k : ∀ d, Φ d → Ψ d) : OpD X f x y Ψ := by
  obtain ⟨r, hr, q⟩ := h
  exact ⟨r, hr, fun B G T F env σ H v u Q S hv hu z => q B G T F env σ H v u Q S hv hu fun w d F' H' S' g dn φ => z w d F' H' S' g dn (k d φ)⟩
theorem ed_bin {op : Operator} {x y z : D} (ha : ED X a env x) (hb : ED X b env y) (h : OpD X (binaryOp op) x y (fun d => d = z)) : ED X (.BinOp a op b pos) env z := er_bin ha hb fun _ _ e1 e2 => by subst e1; subst e2; exact h
theorem ed_cmp {op : CmpOp} {x y z : D} (ha : ED X a env x) (hb : ED X b env y) (h : OpD X (compareOp op) x y (fun d => d = z)) (hm : behindInMarks op b = false := by first | exact nomark _ | with_unfolding_all rfl) : ED X (.Compare a [op] [b] pos) env z := er_cmp ha hb (fun _ _ e1 e2 => by subst e1; subst e2; exact h) hm
theorem td_cmp {op : CmpOp} {x y : D} {k : Bool} (ha : ED X a env x) (hb : ED X b env y) (h : OpD X (compareOp op) x y (fun d => d = .bool k)) (hm : behindInMarks op b = false := by first | exact nomark _ | with_unfolding_all rfl) : TD X (.Compare a [op] [b] pos) env k :=
  tr_cmp ha hb (fun _ _ e1 e2 => by subst e1; subst e2; exact h.imp fun d e => ⟨k, e, rfl⟩) hm

section
variable {f : Value → Value → Sem Value}
theorem opd_I {C : Int → Int → Prop} {g : Int → Int → Int} (ho : OpR X f (rI C fun i j => .int (g i j))) {i k : Int} (h : C i k) : OpD X f (.int i) (.int k) (fun d => d = .int (g i k)) :=
  ⟨_, ho, fun B G T F env σ H v u Q S hv hu q => by cases hv; cases hu; exact ⟨i, k, rfl, rfl, h, q _ _ F H S (Gr.refl S.fh) (.int _) rfl⟩⟩
theorem opd_I0 {g : Int → Int → Int} (ho : OpR X f (rI0 fun i j => .int (g i j))) {i k : Int} : OpD X f (.int i) (.int k) (fun d => d = .int (g i k)) :=
  ⟨_, ho, fun B G T F env σ H v u Q S hv hu q => by cases hv; cases hu; exact ⟨i, k, rfl, rfl, q _ _ F H S (Gr.refl S.fh) (.int _) rfl⟩⟩
theorem opd_B0 {g : Int → Int → Bool} (ho : OpR X f (rI0 fun i j => .bl (g i j))) {i k : Int} : OpD X f (.int i) (.int k) (fun d => d = .bool (g i k)) :=
  ⟨_, ho, fun B G T F env σ H v u Q S hv hu q => by cases hv; cases hu; exact ⟨i, k, rfl, rfl, q _ _ F H S (Gr.refl S.fh) (.bl _) rfl⟩⟩
end
theorem o_add {i k : Int} : OpD X (binaryOp .Add) (.int i) (.int k) (fun d => d = .int (i + k)) := opd_I0 op_add
theorem o_sub {i k : Int} : OpD X (binaryOp .Sub) (.int i) (.int k) (fun d => d = .int (i - k)) := opd_I0 op_sub
theorem o_mul {i k : Int} (h : CMul i k) : OpD X (binaryOp .Mult) (.int i) (.int k) (fun d => d = .int (i * k)) := opd_I op_mul h
theorem o_div {i k : Int} (h : CDivW i k) : OpD X (binaryOp .FloorDiv) (.int i) (.int k) (fun d => d = .int (i / k)) := opd_I op_fdivW h
theorem o_mod {i k : Int} (h : 0 < k) : OpD X (binaryOp .Mod) (.int i) (.int k) (fun d => d = .int (i % k)) := opd_I op_mod h
theorem o_pow {i k : Int} (h : CPow i k) : OpD X (binaryOp .Pow) (.int i) (.int k) (fun d => d = .int (i ^ k.toNat)) := opd_I op_pow h
theorem o_lt {i k : Int} : OpD X (compareOp .Lt) (.int i) (.int k) (fun d => d = .bool (decide (i < k))) := opd_B0 op_lt
theorem o_le {i k : Int} : OpD X (compareOp .LtE) (.int i) (.int k) (fun d => d = .bool (decide (i ≤ k))) := opd_B0 op_le
theorem o_gt {i k : Int} : OpD X (compareOp .Gt) (.int i) (.int k) (fun d => d = .bool (decide (k < i))) := opd_B0 op_gt
theorem o_ge {i k : Int} : OpD X (compareOp .GtE) (.int i) (.int k) (fun d => d = .bool (decide (k ≤ i))) := opd_B0 op_ge
/-- ==, != of ints -/
theorem o_eq {i k : Int} : OpD X (compareOp .Eq) (.int i) (.int k) (fun d => d = .bool (decide (i = k))) :=
  ⟨_, op_eq, fun B G T F env σ H v u Q S hv hu q => by
    cases hv; cases hu
    refine ⟨rfl, q _ _ F H S (Gr.refl S.fh) (.bl _) ?_⟩
    simp⟩
theorem o_ne {i k : Int} : OpD X (compareOp .NotEq) (.int i) (.int k) (fun d => d = .bool (!decide (i = k))) :=
  ⟨_, op_ne, fun B G T F env σ H v u Q S hv hu q => by
    cases hv; cases hu
    refine ⟨rfl, q _ _ F H S (Gr.refl S.fh) (.bl _) ?_⟩
    simp⟩
/-- ==, != of any data -/
theorem o_eqD {x y : D} (hu : X.A.units + 64 < cLine) (n1 : nodic x = true) (n2 : nodic y = true) (s1 : SeqAt.shaped x = true) (s2 : SeqAt.shaped y = true) : OpD X (compareOp .Eq) x y (fun d => d = .bool (PyData.eqv x y)) :=
  ⟨_, op_eqD hu, fun B G T F env σ H v u Q S hv hu q => ⟨x, y, (hv.mono S.fh).dp n1, (hu.mono S.fh).dp n2, s1, s2, q _ _ F H S (Gr.refl S.fh) (.bl _) rfl⟩⟩
theorem o_neD {x y : D} (hu : X.A.units + 64 < cLine) (n1 : nodic x = true) (n2 : nodic y = true) (s1 : SeqAt.shaped x = true) (s2 : SeqAt.shaped y = true) : OpD X (compareOp .NotEq) x y (fun d => d = .bool (!PyData.eqv x y)) :=
  ⟨_, op_neD hu, fun B G T F env σ H v u Q S hv hu q => ⟨x, y, (hv.mono S.fh).dp n1, (hu.mono S.fh).dp n2, s1, s2, q _ _ F H S (Gr.refl S.fh) (.bl _) rfl⟩⟩
/-- is None -/
def isNone : D → Bool
  | .none => true
  | _ => false
theorem Dn.isN {K : Fg} {F : Hp} {v : V} {x : D} (h : Dn K F v x) : decide (v = .non) = isNone x := by cases h <;> rfl
theorem o_isN {x : D} : OpD X (compareOp .Is) x .none (fun d => d = .bool (isNone x)) :=
  ⟨_, op_isN, fun B G T F env σ H v u Q S hv hu q => by cases hu; exact ⟨rfl, q _ _ F H S (Gr.refl S.fh) (.bl _) (by rw [hv.isN])⟩⟩
theorem o_notN {x : D} : OpD X (compareOp .IsNot) x .none (fun d => d = .bool (!isNone x)) :=
  ⟨_, op_notN, fun B G T F env σ H v u Q S hv hu q => by cases hu; exact ⟨rfl, q _ _ F H S (Gr.refl S.fh) (.bl _) (by rw [hv.isN])⟩⟩
/-- x is True, x is False -/
theorem o_isB {c k : Bool} : OpD X (compareOp .Is) (.bool c) (.bool k) (fun d => d = .bool (decide (c = k))) :=
  ⟨_, op_is_bl, fun B G T F env σ H v u Q S hv hu q => by cases hv; cases hu; exact ⟨c, k, rfl, rfl, q _ _ F H S (Gr.refl S.fh) (.bl _) rfl⟩⟩
theorem o_isnotB {c k : Bool} : OpD X (compareOp .IsNot) (.bool c) (.bool k) (fun d => d = .bool (!decide (c = k))) :=
  ⟨_, op_isnot_bl, fun B G T F env σ H v u Q S hv hu q => by cases hv; cases hu; exact ⟨c, k, rfl, rfl, q _ _ F H S (Gr.refl S.fh) (.bl _) rfl⟩⟩
theorem o_addS {y z : Str} (h : y.length + z.length ≤ sizeLine) : OpD X (binaryOp .Add) (.str y) (.str z) (fun d => d = .str (y ++ z)) :=
  ⟨_, op_add_str, fun B G T F env σ H v u Q S hv hu q => by cases hv; cases hu; exact ⟨y, z, rfl, rfl, h, q _ _ F H S (Gr.refl S.fh) (.str _) rfl⟩⟩
theorem o_catL {xs ys : List D} (h : xs.length + ys.length ≤ sizeLine) : OpD X (binaryOp .Add) (.list xs) (.list ys) (fun d => d = .list (xs ++ ys)) :=
  ⟨_, op_cat, fun B G T F env σ H v u Q S hv hu q => by
    cases hv with | lst h1 d1 =>
    cases hu with | lst h2 d2 =>
    refine ⟨_, _, _, _, rfl, rfl, S.fh _ _ h1, S.fh _ _ h2, by rw [d1.length, d2.length]; exact h, fun p hp => ?_⟩
    obtain ⟨S', g⟩ := S.lay (o := .lst _) hp
    exact q _ _ _ _ S' g (.lst upd_same ((d1.append d2).mono g.ff)) rfl⟩
theorem o_catT {xs ys : List D} (h : xs.length + ys.length ≤ sizeLine) : OpD X (binaryOp .Add) (.tuple xs) (.tuple ys) (fun d => d = .tuple (xs ++ ys)) :=
  ⟨_, op_catA, fun B G T F env σ H v u Q S hv hu q => by
    cases hv with | tup h1 d1 =>
    cases hu with | tup h2 d2 =>
    refine ⟨_, _, _, _, rfl, rfl, ex_t S.fh h1, ex_t S.fh h2, by rw [d1.length, d2.length]; exact h, fun e => ?_, fun _ e => ?_, fun _ _ p hp => ?_⟩
    · subst e; cases d1; exact q _ _ F H S (Gr.refl S.fh) (.tup h2 d2) rfl
    · subst e; cases d2; exact q _ _ F H S (Gr.refl S.fh) (.tup h1 d1) (by simp)
    · obtain ⟨S', g⟩ := S.lay (o := .tup _) hp
      exact q _ _ _ _ S' g (.tup (.inl (.inl upd_same)) ((d1.append d2).mono g.ff)) rfl⟩

/-! ### chains a op b op' c -/
theorem tr_chain {op op' : CmpOp} {c : Expr} {x y z : D} {k l : Bool} (ha : ED X a env x) (hb : ED X b env y) (hc : ED X c env z) (h1 : OpD X (compareOp op) x y (fun d => d = .bool k)) (h2 : OpD X (compareOp op') y z (fun d => d = .bool l))
    (hm : lastMarks [op, op'] [b, c] = false := by with_unfolding_all rfl) : ED X (.Compare a [op, op'] [b, c] pos) env (.bool (k && l)) ∧ TD X (.Compare a [op, op'] [b, c] pos) env (k && l) := by
  have key : ∀ {σ : L2.St} {H : Hp} {Q : VK}, (rdE X.K env (fun d => d = .bool (k && l))) σ H Q → tChain (RMax X (compareOp op)) (RMax X (compareOp op')) (rdE X.K env fun d => d = x) (rdE X.K env fun d => d = y) (rdE X.K env fun d => d = z) σ H Q := by
    rintro σ H Q ⟨B, G, T, F, S, q⟩
    refine ⟨B, G, T, F, S, fun v d F1 H1 S1 g1 d1 e1 => ⟨B, G, T, F1, S1, fun u e F2 H2 S2 g2 d2 e2 => ?_⟩⟩
    subst e1; subst e2
    obtain ⟨r, hr, q1⟩ := h1
    refine ⟨r, hr, q1 B G T F2 env σ H2 v u _ S2 (d1.mono g2.ff) d2 fun w d' F3 H3 S3 g3 d3 e3 => ?_⟩
    subst e3; cases d3
    refine ⟨k, rfl, ?_⟩
    have g13 := (g1.trans g2 S1.tpn).trans g3 S2.tpn
    cases k with
    | false => exact q _ _ F3 H3 S3 g13 (.bl _) rfl
    | true =>
      refine iteT ⟨B, G, T, F3, S3, fun w' d' F4 H4 S4 g4 d4 e4 => ?_⟩
      subst e4
      obtain ⟨r', hr', q2⟩ := h2
      refine ⟨r', hr', q2 B G T F4 env σ H4 u w' _ S4 (d2.mono (g3.ff.trans g4.ff)) d4 fun w5 d5 F5 H5 S5 g5 d5 e5 => ?_⟩
      exact q _ _ F5 H5 S5 ((g13.trans g4 S3.tpn).trans g5 S4.tpn) d5 (by rw [e5]; rfl)
  refine ⟨PE.imp (pe_chain RMax.ok RMax.ok ha hb hc hm) fun _ _ _ => key, PT.imp (pt_chain RMax.ok RMax.ok ha hb hc hm) ?_⟩
  rintro σ H Q ⟨B, G, T, F, S, q⟩
  exact key ⟨B, G, T, F, S, fun v d F' H' S' g dn e => by subst e; cases dn; exact ⟨_, rfl, q _ F' H' S' g rfl⟩⟩

/-! ### tests -/
theorem tr_val {Ξ : Bool → Prop} (h : ER X e env (fun d => ∃ k, d = .bool k ∧ Ξ k)) (he : ∀ whole, isTrue e X.env whole = (do let v ← whole; standAt e.pos; holding [v] (truthy v)) := by intro _; rfl) : TR X e env Ξ :=
  PT.imp (pt_val h he) fun σ H Q ⟨B, G, T, F, S, q⟩ => ⟨B, G, T, F, S, fun v d F' H' S' g dn ⟨k, e, ξ⟩ => by subst e; cases dn; exact ⟨k, rfl, q k F' H' S' g ξ⟩⟩
theorem td_val {k : Bool} (h : ED X e env (.bool k)) (he : ∀ whole, isTrue e X.env whole = (do let v ← whole; standAt e.pos; holding [v] (truthy v)) := by intro _; rfl) : TD X e env k := tr_val (h.imp fun d e => ⟨k, e, rfl⟩) he
theorem td_not {k : Bool} (h : TD X a env k) : TD X (.UnaryOp .Not a pos) env (!k) := PT.imp (pt_not h) fun σ H Q ⟨B, G, T, F, S, q⟩ => ⟨B, G, T, F, S, fun v F' H' S' g e => q _ F' H' S' g (by rw [e])⟩
theorem WD.td {k : Bool} (h : WD X e env k) : TD X e env k := PW.pt h
theorem pw_never : PW X e (fun _ _ _ => False) := ⟨fun _ _ _ _ _ _ _ h => h.elim⟩
theorem pe_never : PE X e (fun _ _ _ => False) := ⟨fun _ _ _ _ _ _ h => h.elim⟩
theorem wd_and1 {k : Bool} (h : TD X a env k) : WD X (.BoolOp .And [a] pos) env k := PW.imp (pw_and1 h) fun _ _ _ q => q
theorem wd_or1 {k : Bool} (h : TD X a env k) : WD X (.BoolOp .Or [a] pos) env k := PW.imp (pw_or1 h) fun _ _ _ q => q
theorem wd_and {rest : List Expr} {k l : Bool} (ha : TD X a env k) (hb : k = true → WD X (.BoolOp .And (b :: rest) pos) env l) : WD X (.BoolOp .And (a :: b :: rest) pos) env (k && l) := by
  cases k with
  | true =>
    refine PW.imp (pw_and ha (hb rfl)) fun σ H Q ⟨B, G, T, F, S, q⟩ => ⟨B, G, T, F, S, fun v F1 H1 S1 g1 e1 => ?_⟩
    subst e1
    exact iteT ⟨B, G, T, F1, S1, fun v F2 H2 S2 g2 e2 => q _ F2 H2 S2 (g1.trans g2 S1.tpn) (by rw [e2]; rfl)⟩
  | false =>
    refine PW.imp (pw_and ha pw_never) fun σ H Q ⟨B, G, T, F, S, q⟩ => ⟨B, G, T, F, S, fun v F1 H1 S1 g1 e1 => ?_⟩
    subst e1
    exact iteF (q _ F1 H1 S1 g1 rfl)
theorem wd_or {rest : List Expr} {k l : Bool} (ha : TD X a env k) (hb : k = false → WD X (.BoolOp .Or (b :: rest) pos) env l) : WD X (.BoolOp .Or (a :: b :: rest) pos) env (k || l) := by
  cases k with
  | false =>
    refine PW.imp (pw_or ha (hb rfl)) fun σ H Q ⟨B, G, T, F, S, q⟩ => ⟨B, G, T, F, S, fun v F1 H1 S1 g1 e1 => ?_⟩
    subst e1
    exact iteF ⟨B, G, T, F1, S1, fun v F2 H2 S2 g2 e2 => q _ F2 H2 S2 (g1.trans g2 S1.tpn) (by rw [e2]; rfl)⟩
  | true =>
    refine PW.imp (pw_or ha pw_never) fun σ H Q ⟨B, G, T, F, S, q⟩ => ⟨B, G, T, F, S, fun v F1 H1 S1 g1 e1 => ?_⟩
    subst e1
    exact iteT (q _ F1 H1 S1 g1 rfl)
/-- and, or, not as values -/
theorem ed_one {op : BoolOp} {d : D} (h : ED X a env d) : ED X (.BoolOp op [a] pos) env d := PE.imp (pe_one h) fun _ _ _ q => q
theorem ed_and {rest : List Expr} {k l : Bool} (ha : ED X a env (.bool k)) (hb : k = true → ED X (.BoolOp .And (b :: rest) pos) env (.bool l)) : ED X (.BoolOp .And (a :: b :: rest) pos) env (.bool (k && l)) := by
  cases k with
  | true =>
    refine PE.imp (pe_and ha (hb rfl)) fun σ H Q ⟨B, G, T, F, S, q⟩ => ⟨B, G, T, F, S, fun v d F1 H1 S1 g1 d1 e1 => ?_⟩
    subst e1; cases d1
    exact ⟨true, rfl, iteT ⟨B, G, T, F1, S1, fun v d F2 H2 S2 g2 d2 e2 => q _ _ F2 H2 S2 (g1.trans g2 S1.tpn) d2 (by rw [e2]; rfl)⟩⟩
  | false =>
    refine PE.imp (pe_and ha pe_never) fun σ H Q ⟨B, G, T, F, S, q⟩ => ⟨B, G, T, F, S, fun v d F1 H1 S1 g1 d1 e1 => ?_⟩
    subst e1; cases d1
    exact ⟨false, rfl, iteF (q _ _ F1 H1 S1 g1 (.bl _) rfl)⟩
theorem ed_or {rest : List Expr} {k l : Bool} (ha : ED X a env (.bool k)) (hb : k = false → ED X (.BoolOp .Or (b :: rest) pos) env (.bool l)) : ED X (.BoolOp .Or (a :: b :: rest) pos) env (.bool (k || l)) := by
  cases k with
  | false =>
    refine PE.imp (pe_or ha (hb rfl)) fun σ H Q ⟨B, G, T, F, S, q⟩ => ⟨B, G, T, F, S, fun v d F1 H1 S1 g1 d1 e1 => ?_⟩
    subst e1; cases d1
    exact ⟨false, rfl, iteF ⟨B, G, T, F1, S1, fun v d F2 H2 S2 g2 d2 e2 => q _ _ F2 H2 S2 (g1.trans g2 S1.tpn) d2 (by rw [e2]; rfl)⟩⟩
  | true =>
    refine PE.imp (pe_or ha pe_never) fun σ H Q ⟨B, G, T, F, S, q⟩ => ⟨B, G, T, F, S, fun v d F1 H1 S1 g1 d1 e1 => ?_⟩
    subst e1; cases d1
    exact ⟨true, rfl, iteT (q _ _ F1 H1 S1 g1 (.bl _) rfl)⟩
theorem ed_not {k : Bool} (h : ED X a env (.bool k)) : ED X (.UnaryOp .Not a pos) env (.bool (!k)) := PE.imp (pe_not h) fun σ H Q ⟨B, G, T, F, S, q⟩ => ⟨B, G, T, F, S, fun v d F' H' S' g dn e => by subst e; cases dn; exact ⟨k, rfl, q _ _ F' H' S' g (.bl _) rfl⟩⟩
theorem ed_neg {i : Int} (h : ED X a env (.int i)) : ED X (.UnaryOp .USub a pos) env (.int (-i)) := PE.imp (pe_un un_neg h) fun σ H Q ⟨B, G, T, F, S, q⟩ => ⟨B, G, T, F, S, fun v d F' H' S' g dn e => by subst e; cases dn; exact ⟨i, rfl, q _ _ F' H' S' g (.int _) rfl⟩⟩
/-- a if t else b -/
theorem er_if {c : Expr} {k : Bool} (hc : TD X c env k) (ha : k = true → ER X a env Φ) (hb : k = false → ER X b env Φ) : ER X (.IfExp c a b pos) env Φ := by
  cases k with
  | true =>
    refine PE.imp (pe_ifExp hc (ha rfl) pe_never) fun σ H Q ⟨B, G, T, F, S, q⟩ => ⟨B, G, T, F, S, fun v F1 H1 S1 g1 e1 => ?_⟩
    subst e1
    exact iteT ⟨B, G, T, F1, S1, fun v d F2 H2 S2 g2 d2 e2 => q _ _ F2 H2 S2 (g1.trans g2 S1.tpn) d2 e2⟩
  | false =>
    refine PE.imp (pe_ifExp hc pe_never (hb rfl)) fun σ H Q ⟨B, G, T, F, S, q⟩ => ⟨B, G, T, F, S, fun v F1 H1 S1 g1 e1 => ?_⟩
    subst e1
    exact iteF ⟨B, G, T, F1, S1, fun v d F2 H2 S2 g2 d2 e2 => q _ _ F2 H2 S2 (g1.trans g2 S1.tpn) d2 e2⟩
theorem ed_if {c : Expr} {k : Bool} {x y : D} (hc : TD X c env k) (ha : k = true → ED X a env x) (hb : k = false → ED X b env y) : ED X (.IfExp c a b pos) env (bif k then x else y) :=
  er_if hc (fun e => (ha e).imp fun d q => by rw [q, e]; rfl) (fun e => (hb e).imp fun d q => by rw [q, e]; rfl)
theorem ed_ifI {c : Expr} {k : Bool} {x y : Int} (hc : TD X c env k) (ha : k = true → ED X a env (.int x)) (hb : k = false → ED X b env (.int y)) : ED X (.IfExp c a b pos) env (.int (bif k then x else y)) :=
  er_if hc (fun e => (ha e).imp fun d q => by rw [q, e]; rfl) (fun e => (hb e).imp fun d q => by rw [q, e]; rfl)
/-- on a test that is still open -/
theorem er_ifR {c : Expr} {Ξ : Bool → Prop} (hc : TR X c env Ξ) (ha : ER X a env (fun d => Ξ true → Φ d)) (hb : ER X b env (fun d => Ξ false → Φ d)) : ER X (.IfExp c a b pos) env Φ := by
  refine PE.imp (pe_ifExp hc ha hb) fun σ H Q ⟨B, G, T, F, S, q⟩ => ⟨B, G, T, F, S, fun v F1 H1 S1 g1 e1 => ?_⟩
  cases v with
  | true => exact iteT ⟨B, G, T, F1, S1, fun v d F2 H2 S2 g2 d2 e2 => q _ _ F2 H2 S2 (g1.trans g2 S1.tpn) d2 (e2 e1)⟩
  | false => exact iteF ⟨B, G, T, F1, S1, fun v d F2 H2 S2 g2 d2 e2 => q _ _ F2 H2 S2 (g1.trans g2 S1.tpn) d2 (e2 e1)⟩

/-! ### arguments, displays -/
theorem ar_nil : AD X [] env [] := PA.imp pa_nil fun σ H Q ⟨B, G, T, F, S, q⟩ => q _ _ F H S (Gr.refl S.fh) .nil rfl
theorem ar_cons {Ψ : List D → Prop} (h : ER X e env Φ) (hr : AR X es env Ψ) (hs : starEach (e :: es) X.env = (false, eval e X.env) :: starEach es X.env := by rfl) : AR X (e :: es) env (fun ds => ∃ d r, ds = d :: r ∧ Φ d ∧ Ψ r) :=
  PA.imp (pa_cons h hr hs) fun σ H Q ⟨B, G, T, F, S, q⟩ => ⟨B, G, T, F, S, fun v d F1 H1 S1 g1 d1 φ => ⟨B, G, T, F1, S1, fun vs ds F2 H2 S2 g2 d2 ψ =>
    q _ _ F2 H2 S2 (g1.trans g2 S1.tpn) (.cons (d1.mono g2.ff) d2) ⟨d, ds, rfl, φ, ψ⟩⟩⟩
theorem ad_cons {d : D} {ds : List D} (h : ED X e env d) (hr : AD X es env ds) (hs : starEach (e :: es) X.env = (false, eval e X.env) :: starEach es X.env := by rfl) : AD X (e :: es) env (d :: ds) :=
  (ar_cons h hr hs).imp fun _ ⟨_, _, e1, e2, e3⟩ => by rw [e1, e2, e3]
theorem er_tup {Ψ : List D → Prop} {k : Nat} (h : AR X es env Ψ) (hl : es.length ≤ 1000 := by decide) (hk : ∀ ds, Ψ ds → ds.length ≤ 100000 ∧ Φ (.tuple ds)) : ER X (.Tuple es k pos) env Φ :=
  PE.imp (pe_tup h) fun σ H Q ⟨B, G, T, F, S, q⟩ => ⟨B, G, T, F, S, fun vs ds F1 H1 S1 g1 d1 ψ => by
    obtain ⟨z, φ⟩ := hk ds ψ
    refine ⟨by rw [d1.length]; exact Nat.le_trans z (by decide), fun p hp => ?_⟩
    obtain ⟨S', g⟩ := S1.lay (o := .tup vs) hp
    exact q _ _ _ _ S' (g1.trans g S1.tpn) (.tup (.inl (.inl upd_same)) (d1.mono g.ff)) φ⟩
theorem er_lst {Ψ : List D → Prop} (h : AR X es env Ψ) (hk : ∀ ds, Ψ ds → ds.length ≤ 100000 ∧ Φ (.list ds)) : ER X (.List es pos) env Φ :=
  PE.imp (pe_lst h) fun σ H Q ⟨B, G, T, F, S, q⟩ => ⟨B, G, T, F, S, fun vs ds F1 H1 S1 g1 d1 ψ => by
    obtain ⟨z, φ⟩ := hk ds ψ
    refine ⟨by rw [d1.length]; exact Nat.le_trans z (by decide), fun p hp => ?_⟩
    obtain ⟨S', g⟩ := S1.lay (o := .lst vs) hp
    exact q _ _ _ _ S' (g1.trans g S1.tpn) (.lst upd_same (d1.mono g.ff)) φ⟩
theorem ed_tup {ds : List D} {k : Nat} (h : AD X es env ds) (hl : ds.length ≤ 100000 := by exact Nat.le_of_ble_eq_true rfl) : ED X (.Tuple es k pos) env (.tuple ds) :=
  PE.imp (pe_tup h) fun σ H Q ⟨B, G, T, F, S, q⟩ => ⟨B, G, T, F, S, fun vs ds F1 H1 S1 g1 d1 ψ => by
    subst ψ
    refine ⟨by rw [d1.length]; exact Nat.le_trans hl (by decide), fun p hp => ?_⟩
    obtain ⟨S', g⟩ := S1.lay (o := .tup vs) hp
    exact q _ _ _ _ S' (g1.trans g S1.tpn) (.tup (.inl (.inl upd_same)) (d1.mono g.ff)) rfl⟩
theorem ed_lst {ds : List D} (h : AD X es env ds) (hl : ds.length ≤ 100000 := by exact Nat.le_of_ble_eq_true rfl) : ED X (.List es pos) env (.list ds) := er_lst h fun _ e => by subst e; exact ⟨hl, rfl⟩

/-! ### subscripts -/
def IMax (X : Cx) : R2 := fun x y H Q => ∃ r, IxR X r ∧ r x y H Q
theorem IMax.ok : IxR X (IMax X) := fun a b pins s σ H x y v u Q I rx ry ⟨r, h, q⟩ hs => h a b pins s σ H x y v u Q I rx ry q hs
def IxD (X : Cx) (x y : D) (Χ : D → Prop) : Prop := ∃ r, IxR X r ∧ ∀ B G T F env σ H v u (Q : VK), StR X.K B G T F env σ H → Dn X.K F v x → Dn X.K F u y →
  (∀ w d F' H', StR X.K B G T F' env σ H' → Gr T F H F' H' → Dn X.K F' w d → Χ d → Q w H') → r v u H Q
theorem er_ix (ha : ER X a env Φ) (hb : ER X b env Ψ) (h : ∀ x y, Φ x → Ψ y → IxD X x y Χ) (hs : PlainIx b := by exact fun _ _ => rfl) : ER X (.Subscript a b pos) env Χ :=
  PE.imp (pe_ix IMax.ok ha hb hs) fun σ H Q ⟨B, G, T, F, S, q⟩ => by
    refine ⟨B, G, T, F, S, fun v d F1 H1 S1 g1 d1 φ => ⟨B, G, T, F1, S1, fun u e F2 H2 S2 g2 d2 ψ => ?_⟩⟩
    obtain ⟨r, hr, k⟩ := h d e φ ψ
    exact ⟨r, hr, k B G T F2 env σ H2 v u Q S2 (d1.mono g2.ff) d2 fun w z F' H' S' g' dn χ => q w z F' H' S' ((g1.trans g2 S1.tpn).trans g' S2.tpn) dn χ⟩
theorem ed_ix {x y z : D} (ha : ED X a env x) (hb : ED X b env y) (h : IxD X x y (fun d => d = z)) (hs : PlainIx b := by exact fun _ _ => rfl) : ED X (.Subscript a b pos) env z := er_ix ha hb (fun _ _ e1 e2 => by subst e1; subst e2; exact h) hs
theorem DnA.atI {K : Fg} {F : Hp} {vs : List V} {ds : List D} {i : Int} {d : D} (h : DnA K F vs ds) (e : L2.atI ds i = some d) : ∃ v, L2.atI vs i = some v ∧ Dn K F v d := by
  unfold L2.atI at e ⊢
  rw [h.length]
  cases q : L2.ixN ds.length i with
  | none => rw [q] at e; cases e
  | some j => rw [q] at e; exact h.get e
theorem i_lst {xs : List D} {i : Int} {d : D} (h : L2.atI xs i = some d) : IxD X (.list xs) (.int i) (fun x => x = d) :=
  ⟨_, ix_list, fun B G T F env σ H v u Q S hv hu q => by
    cases hv with | lst h1 d1 =>
    cases hu
    obtain ⟨w, e, dn⟩ := d1.atI h
    exact ⟨_, _, _, w, rfl, rfl, SqL.of (S.fh _ _ h1), e, q _ _ F H S (Gr.refl S.fh) dn rfl⟩⟩
theorem i_tup {xs : List D} {i : Int} {d : D} (h : L2.atI xs i = some d) : IxD X (.tuple xs) (.int i) (fun x => x = d) :=
  ⟨_, ix_tup, fun B G T F env σ H v u Q S hv hu q => by
    cases hv with | tup h1 d1 =>
    cases hu
    obtain ⟨w, e, dn⟩ := d1.atI h
    exact ⟨_, _, _, w, rfl, rfl, ex_t S.fh h1, e, q _ _ F H S (Gr.refl S.fh) dn rfl⟩⟩
theorem IxD.imp {x y : D} (h : IxD X x y Φ) (k : ∀ d, Φ d → Ψ d) : IxD X x y Ψ := by
  obtain ⟨r, hr, q⟩ := h
  exact ⟨r, hr, fun B G T F env σ H v u Q S hv hu z => q B G T F env σ H v u Q S hv hu fun w d F' H' S' g dn φ => z w d F' H' S' g dn (k d φ)⟩

/-! ### slices -/
theorem od_none : OD X none env none := PO.mk fun pins s σ H Q I ⟨B, G, T, F, S, q⟩ => po_none.run pins s σ H Q I (q _ F H S (Gr.refl S.fh) rfl)
theorem od_some {i : Int} (h : ED X e env (.int i)) : OD X (some e) env (some i) := PO.mk fun pins s σ H Q I ⟨B, G, T, F, S, q⟩ => (po_some h).run pins s σ H Q I
  ⟨B, G, T, F, S, fun v d F' H' S' g dn e => by subst e; cases dn; exact ⟨i, rfl, q _ F' H' S' g rfl⟩⟩
def SMax (X : Cx) : V → Option Int → Option Int → Hp → VK → Prop := fun x lo hi H Q => ∃ r, SlR X r ∧ r x lo hi H Q
theorem SMax.ok : SlR X (SMax X) := by
  intro pins s σ H x v vl vu lo hi sl Q I rx hs pl pu h
  obtain ⟨r, hr, q⟩ := h
  exact hr pins s σ H x v vl vu lo hi sl Q I rx hs pl pu q
def SlD (X : Cx) (x : D) (lo hi : Option Int) (Χ : D → Prop) : Prop := ∃ r, SlR X r ∧ ∀ B G T F env σ H v (Q : VK), StR X.K B G T F env σ H → Dn X.K F v x →
  (∀ w d F' H', StR X.K B G T F' env σ H' → Gr T F H F' H' → Dn X.K F' w d → Χ d → Q w H') → r v lo hi H Q
theorem ed_slice {lo hi : Option Expr} {l u : Option Int} {x z : D} {p2 : Pos} (he : ED X e env x) (hl : OD X lo env l) (hu : OD X hi env u) (h : SlD X x l u (fun d => d = z)) : ED X (.Subscript e (.Slice lo hi none p2) pos) env z :=
  PE.imp (pe_slice SMax.ok he hl hu) fun σ H Q ⟨B, G, T, F, S, q⟩ => by
    refine ⟨B, G, T, F, S, fun v d F1 H1 S1 g1 d1 φ => ⟨B, G, T, F1, S1, fun o1 F2 H2 S2 g2 e2 => ⟨B, G, T, F2, S2, fun o2 F3 H3 S3 g3 e3 => ?_⟩⟩⟩
    subst φ; subst e2; subst e3
    obtain ⟨r, hr, k⟩ := h
    have g := (g1.trans g2 S1.tpn).trans g3 S2.tpn
    exact ⟨r, hr, k B G T F3 env σ H3 v Q S3 (d1.mono (g2.ff.trans g3.ff)) fun w z F' H' S' g' dn χ => q w z F' H' S' (g.trans g' S3.tpn) dn χ⟩
def cutD (xs : List D) (lo hi : Option Int) : List D := (xs.drop (HT.sIx xs.length 0 lo)).take (HT.sIx xs.length xs.length hi - HT.sIx xs.length 0 lo)
theorem DnA.cut {K : Fg} {F : Hp} {vs : List V} {ds : List D} {lo hi : Option Int} (h : DnA K F vs ds) : DnA K F (cutV vs lo hi) (cutD ds lo hi) := by
  unfold cutV cutD
  rw [h.length]
  exact (h.drop _).take _
theorem s_lst {xs : List D} {lo hi : Option Int} : SlD X (.list xs) lo hi (fun d => d = .list (cutD xs lo hi)) :=
  ⟨_, sl_list, fun B G T F env σ H v Q S hv q => by
    cases hv with | lst h1 d1 =>
    refine ⟨_, _, rfl, SqL.of (S.fh _ _ h1), fun p hp => ?_⟩
    obtain ⟨S', g⟩ := S.lay (o := .lst _) hp
    exact q _ _ _ _ S' g (.lst upd_same (d1.cut.mono g.ff)) rfl⟩
end
end DL

namespace DL
open PySem PySem.Spec PyProof.Rows L2

/-! ### slots put -/
section
variable {K : Fg} {B G F H F' H' : Hp} {T : Option TP} {env : List Sl} {σ : L2.St}
theorem StR.some_at (S : StR K B G T F env σ H) {i : Nat} {s : Sl} (h : env[i]? = some s) : ∃ o, σ[i]? = some o ∧ SlotR K B T F H s o := by
  have hi : i < σ.length := by rw [← S.len]; exact (List.getElem?_eq_some_iff.mp h).1
  exact ⟨_, List.getElem?_eq_getElem hi, S.sl i _ _ h (List.getElem?_eq_getElem hi)⟩
theorem StR.ext_dt (S : StR K B G T F env σ H) {v : V} {d : D} (h : Dn K F v d) : StR K B G T F (env ++ [.dt d]) (σ ++ [some v]) H where
  gf := S.gf
  fh := S.fh
  bh := S.bh
  nf := S.nf
  len := by simp [S.len]
  sl := fun i s o e1 e2 => by
    by_cases hi : i < env.length
    · rw [List.getElem?_append_left hi] at e1
      rw [List.getElem?_append_left (by rw [← S.len]; exact hi)] at e2
      exact S.sl i s o e1 e2
    · rw [List.getElem?_append_right (by omega)] at e1
      rw [List.getElem?_append_right (by rw [← S.len]; omega), ← S.len] at e2
      cases q : i - env.length with
      | zero => rw [q] at e1 e2; simp at e1 e2; subst e1; subst e2; exact ⟨v, rfl, h⟩
      | succ n => rw [q] at e1; simp at e1
  ds := fun i j s s' hij e1 e2 o1 o2 => by
    have lt : ∀ {k : Nat} {s : Sl}, (env ++ [Sl.dt d])[k]? = some s → s.owned = true → k < env.length := fun {k s} e o => by
      by_cases hk : k < env.length
      · exact hk
      · rw [List.getElem?_append_right (by omega)] at e
        cases q : k - env.length with
        | zero => rw [q] at e; simp at e; subst e; cases o
        | succ n => rw [q] at e; simp at e
    have h1 := lt e1 o1
    have h2 := lt e2 o2
    rw [List.getElem?_append_left h1] at e1
    rw [List.getElem?_append_left h2] at e2
    rw [List.getElem?_append_left (by rw [← S.len]; exact h1), List.getElem?_append_left (by rw [← S.len]; exact h2)]
    exact S.ds i j s s' hij e1 e2 o1 o2
  tp := S.tp
/-- forget the last -/
theorem StR.drop {env2 : List Sl} {σ2 : L2.St} (S : StR K B G T F (env ++ env2) (σ ++ σ2) H) (hl : env.length = σ.length) : StR K B G T F env σ H where
  gf := S.gf
  fh := S.fh
  bh := S.bh
  nf := S.nf
  len := hl
  sl := fun i s o e1 e2 => S.sl i s o (by rw [List.getElem?_append_left (List.getElem?_eq_some_iff.mp e1).1]; exact e1) (by rw [List.getElem?_append_left (List.getElem?_eq_some_iff.mp e2).1]; exact e2)
  ds := fun i j s s' hij e1 e2 o1 o2 => by
    have h1 := (List.getElem?_eq_some_iff.mp e1).1
    have h2 := (List.getElem?_eq_some_iff.mp e2).1
    have q := S.ds i j s s' hij (by rw [List.getElem?_append_left h1]; exact e1) (by rw [List.getElem?_append_left h2]; exact e2) o1 o2
    rw [List.getElem?_append_left (by rw [← hl]; exact h1), List.getElem?_append_left (by rw [← hl]; exact h2)] at q
    exact q
  tp := S.tp
/-- the k-th of the values behind goes to the i-th slot -/
theorem StR.move {env2 : List Sl} {σ2 : L2.St} (S : StR K B G T F (env ++ env2) (σ ++ σ2) H) (hl : env.length = σ.length) {i k : Nat} {s : Sl} {o : Option V} (h1 : env2[k]? = some s) (h2 : σ2[k]? = some o) :
    StR K B G T F (env.set i s ++ env2.set k .un) (σ.set i o ++ σ2) H where
  gf := S.gf
  fh := S.fh
  bh := S.bh
  nf := S.nf
  len := by have := S.len; simp at this ⊢; exact this
  sl := fun j s' o' e1 e2 => by
    by_cases hj : j < env.length
    · rw [List.getElem?_append_left (by simpa using hj)] at e1
      rw [List.getElem?_append_left (by simpa [← hl] using hj)] at e2
      by_cases hij : i = j
      · subst hij
        rw [List.getElem?_set_self hj] at e1
        rw [List.getElem?_set_self (by rw [← hl]; exact hj)] at e2
        cases e1; cases e2
        exact S.sl (env.length + k) _ _ (by rw [List.getElem?_append_right (by omega)]; simpa using h1) (by rw [List.getElem?_append_right (by omega), ← hl]; simpa using h2)
      · rw [List.getElem?_set_ne hij] at e1 e2
        exact S.sl j _ _ (by rw [List.getElem?_append_left hj]; exact e1) (by rw [List.getElem?_append_left (by rw [← hl]; exact hj)]; exact e2)
    · rw [List.getElem?_append_right (by simpa using hj)] at e1
      rw [List.getElem?_append_right (by simpa [← hl] using hj)] at e2
      simp only [List.length_set] at e1 e2
      by_cases hk : k = j - env.length
      · subst hk
        rw [List.getElem?_set_self (List.getElem?_eq_some_iff.mp h1).1] at e1
        cases e1; trivial
      · rw [List.getElem?_set_ne hk] at e1
        exact S.sl j _ _ (by rw [List.getElem?_append_right (by omega)]; exact e1) (by rw [List.getElem?_append_right (by omega)]; exact e2)
  ds := fun a b s1 s2 hab e1 e2 o1 o2 => by
    -- each owned place of the new state is an owned place of the old one
    have key : ∀ {j : Nat} {t : Sl}, (env.set i s ++ env2.set k .un)[j]? = some t → t.owned = true → ∃ j', (env ++ env2)[j']? = some t ∧ (σ.set i o ++ σ2)[j]? = (σ ++ σ2)[j']? ∧ ((j' = j ∧ ¬ (j = i ∧ j < env.length) ∧ j ≠ env.length + k) ∨ (j = i ∧ j < env.length ∧ j' = env.length + k)) := fun {j t} e ow => by
      by_cases hj : j < env.length
      · rw [List.getElem?_append_left (by simpa using hj)] at e
        by_cases hij : i = j
        · subst hij
          rw [List.getElem?_set_self hj] at e
          cases e
          refine ⟨env.length + k, by rw [List.getElem?_append_right (by omega)]; simpa using h1, ?_, .inr ⟨rfl, hj, rfl⟩⟩
          rw [List.getElem?_append_left (by simpa [← hl] using hj), List.getElem?_set_self (by rw [← hl]; exact hj), List.getElem?_append_right (by omega), ← hl]
          simp [h2]
        · rw [List.getElem?_set_ne hij] at e
          refine ⟨j, by rw [List.getElem?_append_left hj]; exact e, ?_, .inl ⟨rfl, fun q => hij q.1.symm, by omega⟩⟩
          rw [List.getElem?_append_left (by simpa [← hl] using hj), List.getElem?_set_ne hij, List.getElem?_append_left (by rw [← hl]; exact hj)]
      · rw [List.getElem?_append_right (by simpa using hj)] at e
        simp only [List.length_set] at e
        by_cases hk : k = j - env.length
        · subst hk
          rw [List.getElem?_set_self (List.getElem?_eq_some_iff.mp h1).1] at e
          cases e; cases ow
        · rw [List.getElem?_set_ne hk] at e
          refine ⟨j, by rw [List.getElem?_append_right (by omega)]; exact e, ?_, .inl ⟨rfl, fun q => hj q.2, fun q => hk (by omega)⟩⟩
          rw [List.getElem?_append_right (by simp [← hl]; omega), List.getElem?_append_right (by omega)]
          simp
    obtain ⟨a', ea, qa, ca⟩ := key e1 o1
    obtain ⟨b', eb, qb, cb⟩ := key e2 o2
    rw [qa, qb]
    refine S.ds a' b' s1 s2 ?_ ea eb o1 o2
    rcases ca with ⟨r1, r2, r3⟩ | ⟨r1, r2, r3⟩ <;> rcases cb with ⟨t1, t2, t3⟩ | ⟨t1, t2, t3⟩ <;> omega
  tp := S.tp
theorem StR.put {s : Sl} {o : Option V} (S : StR K B G T F (env ++ [s]) (σ ++ [o]) H) (hl : env.length = σ.length) (i : Nat) : StR K B G T F (env.set i s) (σ.set i o) H :=
  (S.move (k := 0) (i := i) hl rfl rfl).drop (by simpa using hl)
theorem StR.set_dt (S : StR K B G T F env σ H) {v : V} {d : D} (h : Dn K F v d) (i : Nat) : StR K B G T F (env.set i (.dt d)) (σ.set i (some v)) H := (S.ext_dt h).put S.len i
/-- a slot forgotten -/
theorem StR.forget (S : StR K B G T F env σ H) (i : Nat) (o : Option V) : StR K B G T F (env.set i .un) (σ.set i o) H where
  gf := S.gf
  fh := S.fh
  bh := S.bh
  nf := S.nf
  len := by simpa using S.len
  sl := fun j s' o' e1 e2 => by
    by_cases hij : i = j
    · subst hij
      have hj := (List.getElem?_eq_some_iff.mp e1).1
      rw [List.getElem?_set_self (by simpa using hj)] at e1
      cases e1; trivial
    · rw [List.getElem?_set_ne hij] at e1 e2
      exact S.sl j _ _ e1 e2
  ds := fun a b s1 s2 hab e1 e2 o1 o2 => by
    have key : ∀ {j : Nat} {t : Sl}, (env.set i Sl.un)[j]? = some t → t.owned = true → i ≠ j ∧ env[j]? = some t := fun {j t} e ow => by
      by_cases hij : i = j
      · subst hij
        have hj := (List.getElem?_eq_some_iff.mp e).1
        rw [List.getElem?_set_self (by simpa using hj)] at e
        cases e; cases ow
      · rw [List.getElem?_set_ne hij] at e; exact ⟨hij, e⟩
    obtain ⟨n1, f1⟩ := key e1 o1
    obtain ⟨n2, f2⟩ := key e2 o2
    rw [List.getElem?_set_ne n1, List.getElem?_set_ne n2]
    exact S.ds a b s1 s2 hab f1 f2 o1 o2
  tp := S.tp
/-- a list of one's own becomes data -/
theorem StR.freeze (S : StR K B G T F env σ H) {i : Nat} {xs : List D} (h : env[i]? = some (.own xs)) : ∃ F', StR K B G T F' (env.set i (.dt (.list xs))) σ H ∧ Ex F F' := by
  obtain ⟨o, e, p, vs, eo, b, f, n, hp, dn⟩ := S.some_at h
  subst eo
  have exF : Ex F (upd F p (.lst vs)) := Ex.new f
  refine ⟨upd F p (.lst vs), ⟨S.gf.trans exF, fun a u q => ?_, S.bh, fun a hb hg => ?_, by simpa using S.len, fun j s' o' e1 e2 => ?_, fun a c s1 s2 hab e1 e2 o1 o2 => ?_, fun t et => ?_⟩, exF⟩
  · by_cases ha : a = p
    · subst ha; rw [upd_same] at q; cases q; exact hp
    · rw [upd_ne ha] at q; exact S.fh a u q
  · rw [upd_ne (fun z => hb (by rw [z]; exact b))]; exact S.nf a hb hg
  · by_cases hij : i = j
    · subst hij
      rw [List.getElem?_set_self (List.getElem?_eq_some_iff.mp h).1] at e1
      cases e1
      rw [e] at e2; cases e2
      exact ⟨.ref p, rfl, .lst upd_same (dn.mono exF)⟩
    · rw [List.getElem?_set_ne hij] at e1
      have q := S.sl j s' o' e1 e2
      cases s' with
      | un => trivial
      | dt x => obtain ⟨v, e, d⟩ := q; exact ⟨v, e, d.mono exF⟩
      | own ys =>
        obtain ⟨r, us, er, br, fr, nr, hr, d⟩ := q
        have ne : r ≠ p := fun z => by
          refine S.ds j i _ _ (Ne.symm hij) e1 h rfl rfl ?_
          rw [e2, e, er, z]
        exact ⟨r, us, er, br, by rw [upd_ne ne]; exact fr, nr, hr, d.mono exF⟩
      | owo r0 ys =>
        obtain ⟨er, br, fr, nr, hr⟩ := q
        have ne : r0 ≠ p := fun z => by
          refine S.ds j i _ _ (Ne.symm hij) e1 h rfl rfl ?_
          rw [e2, e, er, z]
        exact ⟨er, br, by rw [upd_ne ne]; exact fr, nr, hr.mono exF (fun _ z => z)⟩
      | ref a => exact q
      | tape => exact q
  · have key : ∀ {j : Nat} {t : Sl}, (env.set i (Sl.dt (.list xs)))[j]? = some t → t.owned = true → env[j]? = some t := fun {j t} e ow => by
      by_cases hij : i = j
      · subst hij
        rw [List.getElem?_set_self (List.getElem?_eq_some_iff.mp h).1] at e
        cases e; cases ow
      · rw [List.getElem?_set_ne hij] at e; exact e
    exact S.ds a c s1 s2 hab (key e1 o1) (key e2 o2) o1 o2
  · obtain ⟨h1, h2, h3⟩ := S.tp t et
    exact ⟨by rw [upd_ne (Ne.symm (n t et))]; exact h1, exF _ _ h2, h3⟩
end

/-! ### expressions whose value goes to a slot -/
def rdX (K : Fg) (env : List Sl) (Ψ : Sl → Prop) : TE := fun σ H Q => ∃ B G T F, StR K B G T F env σ H ∧ ∀ v s F' H', StR K B G T F' (env ++ [s]) (σ ++ [some v]) H' → Gr T F H F' H' → (s.owned = true → ∀ p, v = .ref p → H p = none) → Ψ s → Q v H'
def EXR (X : Cx) (e : Expr) (env : List Sl) (Ψ : Sl → Prop) : Prop := PE X e (rdX X.K env Ψ)
abbrev EX (X : Cx) (e : Expr) (env : List Sl) (s : Sl) : Prop := EXR X e env (fun x => x = s)
section
variable {X : Cx} {e a b : Expr} {es : List Expr} {env : List Sl} {Φ Ψ Χ : D → Prop} {x : Str} {pos p : Pos} {j : Nat}
theorem ED.ex {d : D} (h : ED X e env d) : EX X e env (.dt d) := PE.imp h fun σ H Q ⟨B, G, T, F, S, q⟩ => ⟨B, G, T, F, S, fun v d F' H' S' g dn e => by subst e; exact q v _ F' H' (S'.ext_dt dn) g (fun z => by cases z) rfl⟩
/-- a new list of one's own, laid -/
theorem StR.layOwn {K : Fg} {B G F H : Hp} {T : Option TP} {σ : L2.St} (S : StR K B G T F env σ H) {p : Addr} {vs : List V} {xs : List D} (hp : H p = none) (d : DnA K F vs xs) :
    StR K B G T F (env ++ [.own xs]) (σ ++ [some (.ref p)]) (upd H p (.lst vs)) ∧ Gr T F H F (upd H p (.lst vs)) := by
  have fp : F p = none := S.fh.none hp
  have np : ∀ t, T = some t → p ≠ t.p := fun t e z => S.tpn t e (by rw [← z]; exact hp)
  have bp : B p = none := by
    cases q : B p with
    | none => rfl
    | some o => rw [S.bh p o q np] at hp; cases hp
  have exH : Ex H (upd H p (.lst vs)) := Ex.new hp
  have g : Gr T F H F (upd H p (.lst vs)) := ⟨Ex.refl F, S.fh.trans exH, Kp.of_ex exH, fun _ _ h => h⟩
  have S1 := S.grow g fun t e => by
    obtain ⟨h1, h2, c, j, h3, h4, h5⟩ := S.tp t e
    exact ⟨h1, h2, c, j, h3, h4, exH _ _ h5⟩
  refine ⟨⟨S1.gf, S1.fh, S1.bh, S1.nf, by simp [S.len], fun i s o e1 e2 => ?_, fun i j s s' hij e1 e2 o1 o2 => ?_, S1.tp⟩, g⟩
  · by_cases hi : i < env.length
    · rw [List.getElem?_append_left hi] at e1
      rw [List.getElem?_append_left (by rw [← S.len]; exact hi)] at e2
      exact S1.sl i s o e1 e2
    · rw [List.getElem?_append_right (by omega)] at e1
      rw [List.getElem?_append_right (by rw [← S.len]; omega), ← S.len] at e2
      cases q : i - env.length with
      | zero => rw [q] at e1 e2; simp at e1 e2; subst e1; subst e2; exact ⟨p, vs, rfl, bp, fp, np, upd_same, d⟩
      | succ n => rw [q] at e1; simp at e1
  · -- an owned place of env holds an address that stood
    have key : ∀ {k : Nat} {s : Sl}, (env ++ [Sl.own xs])[k]? = some s → s.owned = true → (k < env.length ∧ ∃ r, (σ ++ [some (V.ref p)])[k]? = some (some (.ref r)) ∧ r ≠ p ∧ σ[k]? = some (some (.ref r)) ∧ env[k]? = some s) ∨ (k = env.length ∧ (σ ++ [some (V.ref p)])[k]? = some (some (.ref p))) := fun {k s} e ow => by
      by_cases hk : k < env.length
      · rw [List.getElem?_append_left hk] at e
        obtain ⟨o, eo, so⟩ := S.some_at e
        cases s with
        | own ys => obtain ⟨r, us, er, _, _, _, hr, _⟩ := so; subst er; exact .inl ⟨hk, r, by rw [List.getElem?_append_left (by rw [← S.len]; exact hk)]; exact eo, ne_of_none hr hp, eo, e⟩
        | owo r0 ys => obtain ⟨er, _, _, _, hr⟩ := so; obtain ⟨_, hr⟩ := hr.at_; subst er; exact .inl ⟨hk, r0, by rw [List.getElem?_append_left (by rw [← S.len]; exact hk)]; exact eo, ne_of_none hr hp, eo, e⟩
        | un => cases ow
        | dt _ => cases ow
        | ref _ => cases ow
        | tape => cases ow
      · have hk2 : k = env.length := by
          have := (List.getElem?_eq_some_iff.mp e).1
          simp at this; omega
        exact .inr ⟨hk2, by rw [hk2, S.len, List.getElem?_append_right (Nat.le_refl _)]; simp⟩
    rcases key e1 o1 with ⟨l1, r1, w1, n1, z1, y1⟩ | ⟨l1, w1⟩ <;> rcases key e2 o2 with ⟨l2, r2, w2, n2, z2, y2⟩ | ⟨l2, w2⟩
    · rw [w1, w2, ← z1, ← z2]; exact S.ds i j s s' hij y1 y2 o1 o2
    · rw [w1, w2]; intro z; injection z with z; injection z with z; injection z with z; exact n1 z
    · rw [w1, w2]; intro z; injection z with z; injection z with z; injection z with z; exact n2 z.symm
    · omega
theorem ex_lst {ds : List D} (h : AD X es env ds) (hl : ds.length ≤ 100000 := by exact Nat.le_of_ble_eq_true rfl) : EX X (.List es pos) env (.own ds) :=
  PE.imp (pe_lst h) fun σ H Q ⟨B, G, T, F, S, q⟩ => ⟨B, G, T, F, S, fun vs ds F1 H1 S1 g1 d1 ψ => by
    subst ψ
    refine ⟨by rw [d1.length]; exact Nat.le_trans hl (by decide), fun p hp => ?_⟩
    obtain ⟨S', g⟩ := S1.layOwn hp d1
    refine q _ _ _ _ S' (g1.trans g S1.tpn) (fun _ r e => ?_) rfl
    injection e with e
    subst e
    cases z : H p with
    | none => rfl
    | some o =>
      by_cases np : ∀ t, T = some t → p ≠ t.p
      · rw [g1.hh p o z np] at hp; cases hp
      · simp only [Classical.not_forall] at np
        obtain ⟨t, e, np⟩ := np
        have e2 : p = t.p := Classical.not_not.mp np
        exact absurd (by rw [← e2]; exact hp) (S1.tpn t e)⟩

/-! ### a read of a list of one's own that gives a plain value -/
def scalD : D → Bool
  | .none => true
  | .bool _ => true
  | .int _ => true
  | .str _ => true
  | _ => false
theorem Dn.scal {K : Fg} {F F' : Hp} {v : V} {d : D} (h : Dn K F v d) (s : scalD d = true) : Dn K F' v d := by
  cases h with
  | non => exact .non
  | bl b => exact .bl b
  | int i => exact .int i
  | str x => exact .str x
  | lst _ _ => cases s
  | tup _ _ => cases s
  | obj _ _ _ _ => cases s
theorem StR.back {K : Fg} {B G F F1 F2 H H2 : Hp} {T : Option TP} {σ : L2.St} {env env' : List Sl} (S : StR K B G T F env σ H) (S2 : StR K B G T F2 env' σ H2) (e1 : Ex F F1) (g : Gr T F1 H F2 H2) : StR K B G T F env σ H2 ∧ Gr T F H F H2 := by
  have fh : Ex F H2 := (e1.trans g.ff).trans g.fh
  refine ⟨⟨S.gf, fh, S2.bh, S.nf, S.len, fun i s o a1 a2 => ?_, S.ds, fun t e => ?_⟩, ⟨Ex.refl F, fh, g.hh, fun _ _ h => h⟩⟩
  · have q := S.sl i s o a1 a2
    cases s with
    | un => trivial
    | dt x => exact q
    | own ys => obtain ⟨r, us, er, br, fr, nr, hr, d⟩ := q; exact ⟨r, us, er, br, fr, nr, g.hh _ _ hr nr, d⟩
    | owo r0 ys => obtain ⟨er, br, fr, nr, hr⟩ := q; exact ⟨er, br, fr, nr, hr.mono (Ex.refl F) (fun o z => g.hh _ _ z nr)⟩
    | ref a => exact q
    | tape => exact q
  · obtain ⟨h1, h2, _⟩ := S.tp t e
    obtain ⟨_, h4, c, j, h5, h6, h7⟩ := S2.tp t e
    exact ⟨h1, h2, c, j, h5, h6, h7⟩
theorem er_own (i : Nat) {xs : List D} (hi : env[i]? = some (.own xs)) (h : ER X e (env.set i (.dt (.list xs))) Φ) (hs : ∀ d, Φ d → scalD d = true) : ER X e env Φ := PE.imp h fun σ H Q ⟨B, G, T, F, S, q⟩ => by
  obtain ⟨F1, S1, e1⟩ := S.freeze hi
  refine ⟨B, G, T, F1, S1, fun v d F2 H2 S2 g dn φ => ?_⟩
  obtain ⟨S3, g3⟩ := S.back S2 e1 g
  exact q v d F H2 S3 g3 (dn.scal (hs d φ)) φ
theorem ed_own (i : Nat) {xs : List D} {d : D} (hi : env[i]? = some (.own xs)) (h : ED X e (env.set i (.dt (.list xs))) d) (hs : scalD d = true := by rfl) : ED X e env d := er_own i hi h fun _ e => by subst e; exact hs
theorem td_own (i : Nat) {xs : List D} {k : Bool} (hi : env[i]? = some (.own xs)) (h : TD X e (env.set i (.dt (.list xs))) k) : TD X e env k := PT.imp h fun σ H Q ⟨B, G, T, F, S, q⟩ => by
  obtain ⟨F1, S1, e1⟩ := S.freeze hi
  refine ⟨B, G, T, F1, S1, fun v F2 H2 S2 g φ => ?_⟩
  obtain ⟨S3, g3⟩ := S.back S2 e1 g
  exact q v F H2 S3 g3 φ
end

/-! ### statements -/
structure Out where
  nx : List Sl → Prop
  rt : D → Prop
  bk : List Sl → Prop := fun _ => False
  ct : List Sl → Prop := fun _ => False
def rdS (K : Fg) (env : List Sl) (Φ : Out) : TS := fun E σ H => ∃ B G T F, StR K B G T F env σ H ∧ (∀ env' σ' F' H', StR K B G T F' env' σ' H' → Φ.nx env' → E.nx σ' H') ∧ (∀ v d env' σ' F' H', StR K B G T F' env' σ' H' → Dn K F' v d → Φ.rt d → E.rt v H') ∧
  (∀ env' σ' F' H', StR K B G T F' env' σ' H' → Φ.bk env' → E.bk σ' H') ∧ (∀ env' σ' F' H', StR K B G T F' env' σ' H' → Φ.ct env' → E.ct σ' H')
def SDs (X : Cx) (st : List Stmt) (env : List Sl) (Φ : Out) : Prop := PSs X st (rdS X.K env Φ)
section
variable {X : Cx} {e a b c : Expr} {es : List Expr} {env : List Sl} {Φ : Out} {x : Str} {pos p pos' : Pos} {j : Nat} {rest thn els body : List Stmt}
theorem sds_nil (h : Φ.nx env) : SDs X [] env Φ := PSs.imp pss_nil fun E σ H ⟨B, G, T, F, S, n, _⟩ => n _ _ _ _ S h
theorem sds_set (i : Nat) {s : Sl} (h : EX X e env s) (hr : SDs X rest (env.set i s) Φ) (hN : X.N.Nodup := by assumption) (hi : X.N[i]? = some x := by rfl) (hx : Loc X.env.scope x := by first | exact .inl rfl | exact .inr rfl)
    (hs : swapsWith e (some (.Name x pos')) pos.line X.env = pure false := by rfl) (hf : X.fn x = true ∨ X.env.scope.names.lookup x = some .local := by first | exact .inl rfl | exact .inr rfl | assumption) : SDs X (.Assign [.Name x pos'] e pos :: rest) env Φ :=
  PSs.imp (pss_cons (ps_set hN hi hx h hs hf) hr) fun E σ H ⟨B, G, T, F, S, n⟩ => ⟨B, G, T, F, S, fun v s' F' H' S' g fr e => by subst e; exact ⟨B, G, T, F', S'.put S.len i, n⟩⟩
theorem sds_setX (i : Nat) {Ψ : Sl → Prop} (h : EXR X e env Ψ) (hr : ∀ s, Ψ s → SDs X rest (env.set i s) Φ) (hN : X.N.Nodup := by assumption) (hi : X.N[i]? = some x := by rfl) (hx : Loc X.env.scope x := by first | exact .inl rfl | exact .inr rfl)
    (hs : swapsWith e (some (.Name x pos')) pos.line X.env = pure false := by rfl) (hf : X.fn x = true ∨ X.env.scope.names.lookup x = some .local := by first | exact .inl rfl | exact .inr rfl | assumption) : SDs X (.Assign [.Name x pos'] e pos :: rest) env Φ :=
  PSs.imp (pss_cons (ps_set hN hi hx h hs hf) (PSs.ex fun d : {d : Sl // Ψ d} => hr d.1 d.2)) fun E σ H ⟨B, G, T, F, S, n⟩ => ⟨B, G, T, F, S, fun v s' F' H' S' g fr e => ⟨⟨s', e⟩, B, G, T, F', S'.put S.len i, n⟩⟩
/-- .. a value of which something is known -/
theorem sds_setR (i : Nat) {R : D → Prop} (h : ER X e env R) (hr : ∀ d, R d → SDs X rest (env.set i (.dt d)) Φ) (hN : X.N.Nodup := by assumption) (hi : X.N[i]? = some x := by rfl) (hx : Loc X.env.scope x := by first | exact .inl rfl | exact .inr rfl)
    (hs : swapsWith e (some (.Name x pos')) pos.line X.env = pure false := by rfl) (hf : X.fn x = true ∨ X.env.scope.names.lookup x = some .local := by first | exact .inl rfl | exact .inr rfl | assumption) : SDs X (.Assign [.Name x pos'] e pos :: rest) env Φ :=
  PSs.imp (pss_cons (ps_set hN hi hx h hs hf) (PSs.ex fun d : {d : D // R d} => hr d.1 d.2)) fun E σ H ⟨B, G, T, F, S, n⟩ => ⟨B, G, T, F, S, fun v d F' H' S' g dn r => ⟨⟨d, r⟩, B, G, T, F', S'.set_dt dn i, n⟩⟩
theorem sds_ret (h : ER X e env Φ.rt) : SDs X (.Return (some e) pos :: rest) env Φ :=
  PSs.imp (pss_cons (ps_ret h) pss_never) fun E σ H ⟨B, G, T, F, S, n, r, _⟩ => ⟨B, G, T, F, S, fun v d F' H' S' g dn φ => r v d env σ F' H' S' dn φ⟩
theorem sds_retD {d : D} (h : ED X e env d) (hd : Φ.rt d) : SDs X (.Return (some e) pos :: rest) env Φ := sds_ret (h.er hd)
theorem sds_freeze (i : Nat) {xs : List D} (hi : env[i]? = some (.own xs)) (hr : SDs X rest (env.set i (.dt (.list xs))) Φ) : SDs X rest env Φ := PSs.imp hr fun E σ H ⟨B, G, T, F, S, n⟩ => by
  obtain ⟨F1, S1, _⟩ := S.freeze hi
  exact ⟨B, G, T, F1, S1, n⟩
/-- if: J stands where the branches meet -/
theorem sds_if {k : Bool} (J : List Sl → Prop) (hc : TD X c env k) (h1 : k = true → SDs X thn env { Φ with nx := J }) (h2 : k = false → SDs X els env { Φ with nx := J }) (hr : ∀ env', J env' → SDs X rest env' Φ) : SDs X (.If c thn els pos :: rest) env Φ := by
  have hrest := PSs.ex fun d : {d : List Sl // J d} => hr d.1 d.2
  cases k with
  | true =>
    refine PSs.imp (pss_cons (ps_if hc (h1 rfl) pss_never) hrest) fun E σ H ⟨B, G, T, F, S, n, r, bk, ct⟩ => ⟨B, G, T, F, S, fun v F' H' S' g e => ?_⟩
    subst e
    exact iteT ⟨B, G, T, F', S', fun env' σ' F2 H2 S2 j2 => ⟨⟨env', j2⟩, B, G, T, F2, S2, n, r, bk, ct⟩, r, bk, ct⟩
  | false =>
    refine PSs.imp (pss_cons (ps_if hc pss_never (h2 rfl)) hrest) fun E σ H ⟨B, G, T, F, S, n, r, bk, ct⟩ => ⟨B, G, T, F, S, fun v F' H' S' g e => ?_⟩
    subst e
    exact iteF ⟨B, G, T, F', S', fun env' σ' F2 H2 S2 j2 => ⟨⟨env', j2⟩, B, G, T, F2, S2, n, r, bk, ct⟩, r, bk, ct⟩
/-- if without an else, left within -/
theorem sds_if1 {k : Bool} (hc : TD X c env k) (h1 : k = true → SDs X thn env { Φ with nx := fun _ => False }) (h2 : k = false → SDs X rest env Φ) : SDs X (.If c thn [] pos :: rest) env Φ := by
  cases k with
  | true => exact sds_if (fun _ => False) hc h1 (fun z => by cases z) fun _ z => z.elim
  | false => exact sds_if (fun e => e = env) hc (fun z => by cases z) (fun _ => sds_nil rfl) fun _ z => by subst z; exact h2 rfl
/-- on an open test -/
theorem sds_ifR {Ξ : Bool → Prop} (J : List Sl → Prop) (hc : TR X c env Ξ) (h1 : SDs X thn env { Φ with nx := fun e => Ξ true → J e, rt := fun d => Ξ true → Φ.rt d, bk := fun d => Ξ true → Φ.bk d, ct := fun d => Ξ true → Φ.ct d })
    (h2 : SDs X els env { Φ with nx := fun e => Ξ false → J e, rt := fun d => Ξ false → Φ.rt d, bk := fun d => Ξ false → Φ.bk d, ct := fun d => Ξ false → Φ.ct d }) (hr : ∀ env', J env' → SDs X rest env' Φ) : SDs X (.If c thn els pos :: rest) env Φ := by
  have hrest := PSs.ex fun d : {d : List Sl // J d} => hr d.1 d.2
  refine PSs.imp (pss_cons (ps_if hc h1 h2) hrest) fun E σ H ⟨B, G, T, F, S, n, r, bk, ct⟩ => ⟨B, G, T, F, S, fun v F' H' S' g e => ?_⟩
  cases v with
  | true => exact iteT ⟨B, G, T, F', S', fun env' σ' F2 H2 S2 j2 => ⟨⟨env', j2 e⟩, B, G, T, F2, S2, n, r, bk, ct⟩, fun v d env' σ' F2 H2 S2 dn q => r v d env' σ' F2 H2 S2 dn (q e), fun env' σ' F2 H2 S2 q => bk env' σ' F2 H2 S2 (q e), fun env' σ' F2 H2 S2 q => ct env' σ' F2 H2 S2 (q e)⟩
  | false => exact iteF ⟨B, G, T, F', S', fun env' σ' F2 H2 S2 j2 => ⟨⟨env', j2 e⟩, B, G, T, F2, S2, n, r, bk, ct⟩, fun v d env' σ' F2 H2 S2 dn q => r v d env' σ' F2 H2 S2 dn (q e), fun env' σ' F2 H2 S2 q => bk env' σ' F2 H2 S2 (q e), fun env' σ' F2 H2 S2 q => ct env' σ' F2 H2 S2 (q e)⟩
/-- a weaker wish; a disjunction of states -/
theorem SDs.imp {Φ' : Out} (h : SDs X rest env Φ) (h1 : ∀ e, Φ.nx e → Φ'.nx e) (h2 : ∀ e, Φ.rt e → Φ'.rt e) (h3 : ∀ e, Φ.bk e → Φ'.bk e) (h4 : ∀ e, Φ.ct e → Φ'.ct e) : SDs X rest env Φ' := PSs.imp h fun E σ H ⟨B, G, T, F, S, n, r, bk, ct⟩ =>
  ⟨B, G, T, F, S, fun env' σ' F' H' S' q => n env' σ' F' H' S' (h1 _ q), fun v d env' σ' F' H' S' dn q => r v d env' σ' F' H' S' dn (h2 _ q), fun env' σ' F' H' S' q => bk env' σ' F' H' S' (h3 _ q), fun env' σ' F' H' S' q => ct env' σ' F' H' S' (h4 _ q)⟩
/-- while: I by a measure -/
theorem sds_while (I : Nat → List Sl → Prop) (J : List Sl → Prop) (h0 : ∃ m, I m env)
    (hs : ∀ m env', I m env' → ∃ k, TD X c env' k ∧ (k = true → SDs X body env' { nx := fun e => ∃ m', m' < m ∧ I m' e, ct := fun e => ∃ m', m' < m ∧ I m' e, bk := J, rt := Φ.rt }) ∧ (k = false → J env'))
    (hd : ∀ env', J env' → SDs X rest env' Φ) (hp : PassesOwn (model X.prog X.w) X.A X.env X.xe := by exact PassesOwn.never) : SDs X (.While c body [] pos :: rest) env Φ := by
  have hrest := PSs.ex fun d : {d : List Sl // J d} => hd d.1 d.2
  let ι := (m : Nat) × {e : List Sl // I m e}
  have hcond : PT X c (fun σ H Q => ∃ i : {q : ι × Bool // TD X c q.1.2.1 q.2 ∧ (q.2 = true → SDs X body q.1.2.1 { nx := fun e => ∃ m', m' < q.1.1 ∧ I m' e, ct := fun e => ∃ m', m' < q.1.1 ∧ I m' e, bk := J, rt := Φ.rt }) ∧ (q.2 = false → J q.1.2.1)}, rdT X.K i.1.1.2.1 (fun z => z = i.1.2) σ H Q) := PT.ex fun i => i.2.1
  have hbody : PSs X body (fun D σ H => ∃ i : {q : ι // SDs X body q.2.1 { nx := fun e => ∃ m', m' < q.1 ∧ I m' e, ct := fun e => ∃ m', m' < q.1 ∧ I m' e, bk := J, rt := Φ.rt }}, rdS X.K i.1.2.1 { nx := fun e => ∃ m', m' < i.1.1 ∧ I m' e, ct := fun e => ∃ m', m' < i.1.1 ∧ I m' e, bk := J, rt := Φ.rt } D σ H) := PSs.ex fun i => i.2
  refine PSs.imp (pss_cons (ps_while hp hcond hbody) hrest) fun E σ H ⟨B, G, T, F, S, n, r, bk, ct⟩ => ?_
  obtain ⟨m0, i0⟩ := h0
  refine ⟨fun m σ H => ∃ env' F', StR X.K B G T F' env' σ H ∧ I m env', ⟨m0, env, F, S, i0⟩, fun m σ1 H1 ⟨env1, F1, S1, i1⟩ => ?_⟩
  obtain ⟨k, tk, hb, hj⟩ := hs m env1 i1
  refine ⟨⟨(⟨m, env1, i1⟩, k), tk, hb, hj⟩, B, G, T, F1, S1, fun v F' H' S' g e => ?_⟩
  subst e
  cases v with
  | true =>
    refine iteT ⟨fun σ2 H2 => ∃ m', m' < m ∧ ∃ env' F', StR X.K B G T F' env' σ2 H2 ∧ I m' env', fun σ2 H2 ⟨m', l, env2, F2, S2, i2⟩ => ⟨m', l, env2, F2, S2, i2⟩, ⟨⟨m, env1, i1⟩, hb rfl⟩, B, G, T, F', S', ?_, r, ?_, ?_⟩
    · rintro env2 σ2 F2 H2 S2 ⟨m', l, i2⟩; exact ⟨m', l, env2, F2, S2, i2⟩
    · intro env2 σ2 F2 H2 S2 j2; exact ⟨⟨env2, j2⟩, B, G, T, F2, S2, n, r, bk, ct⟩
    · rintro env2 σ2 F2 H2 S2 ⟨m', l, i2⟩; exact ⟨m', l, env2, F2, S2, i2⟩
  | false => exact iteF ⟨⟨env1, hj rfl⟩, B, G, T, F', S', n, r, bk, ct⟩
theorem sds_break (h : Φ.bk env) : SDs X (.Break pos :: rest) env Φ := PSs.imp (pss_cons ps_break pss_never) fun E σ H ⟨B, G, T, F, S, n, r, bk, ct⟩ => bk _ _ _ _ S h
theorem sds_aug (i : Nat) {op : Operator} {z y : Int} {f : Int → Int → Int} (hz : env[i]? = some (.dt (.int z))) (he : ED X e env (.int y)) (ho : PIp X op (ipI f)) (hr : SDs X rest (env.set i (.dt (.int (f z y)))) Φ) (hN : X.N.Nodup := by assumption) (hi : X.N[i]? = some x := by rfl)
    (hx : Loc X.env.scope x := by first | exact .inl rfl | exact .inr rfl) (hf : X.fn x = true ∨ X.env.scope.names.lookup x = some .local := by first | exact .inl rfl | exact .inr rfl | assumption) : SDs X (.AugAssign (.Name x pos') op e pos :: rest) env Φ :=
  PSs.imp (pss_cons (ps_aug hN hi hx he ho hf) hr) fun E σ H ⟨B, G, T, F, S, n⟩ => by
    obtain ⟨o, eo, v, ev, dv⟩ := S.some_at hz
    subst ev; cases dv
    refine ⟨_, eo, B, G, T, F, S, fun v d F' H' S' g dn e => ?_⟩
    subst e; cases dn
    exact ⟨z, y, rfl, rfl, B, G, T, F', S'.set_dt (.int _) i, n⟩
end
end DL

namespace DL
open PySem PySem.Spec PyProof.Rows L2

/-! ### what a def promises, over data -/
/-- R ds Φ: the arguments are ds, and Φ of the result is what R gives -/
def spF (K : Fg) (R : List D → (D → Prop) → Prop) : Sp := fun vs H Q _ => ∃ F ds Φ, Ex F H ∧ DnA K F vs ds ∧ R ds Φ ∧ ∀ v d F' H', Ex F F' → Ex F' H' → Ex H H' → (∀ a, H a ≠ none → F a = none → F' a = none) → Dn K F' v d → Φ d → Q v H'
/-- the same with the law's tape ahead of the arguments -/
def spT (K : Fg) (R : List D → (D → Prop) → Prop) : Sp := fun vs H Q _ => ∃ (t : TP) (F : Hp) (ws : List V) (ds : List D) (Φ : D → Prop), vs = .ref t.p :: ws ∧ Ex F H ∧ TapeAt F H t ∧ DnA K F ws ds ∧ R ds Φ ∧
  ∀ v d F' H', Ex F F' → Ex F' H' → (∀ a o, H a = some o → a ≠ t.p → H' a = some o) → (∀ a, H a ≠ none → F a = none → F' a = none) → TapeAt F' H' t → Dn K F' v d → Φ d → Q v H'
def startD (N : List Str) (ds : List Sl) : List Sl := ds ++ List.replicate (N.length - ds.length) .un
theorem start_get {N : List Str} {vs : List V} {i : Nat} {o : Option V} (h : (L2.start N vs)[i]? = some o) : (∃ v, vs[i]? = some v ∧ o = some v) ∨ (vs.length ≤ i ∧ o = none) := by
  unfold L2.start at h
  by_cases hi : i < vs.length
  · rw [List.getElem?_append_left (by simpa using hi), List.getElem?_map] at h
    rw [List.getElem?_eq_getElem hi] at h ⊢
    simp at h
    exact .inl ⟨_, rfl, h.symm⟩
  · rw [List.getElem?_append_right (by simpa using hi), List.getElem?_replicate] at h
    split at h
    · exact .inr ⟨by omega, (Option.some.inj h).symm⟩
    · cases h
theorem startD_get {N : List Str} {ss : List Sl} {i : Nat} {s : Sl} (h : (startD N ss)[i]? = some s) : ss[i]? = some s ∨ s = .un := by
  unfold startD at h
  by_cases hi : i < ss.length
  · rw [List.getElem?_append_left hi] at h; exact .inl h
  · rw [List.getElem?_append_right (by omega), List.getElem?_replicate] at h
    split at h
    · exact .inr (Option.some.inj h).symm
    · cases h
theorem start_len {N : List Str} {vs : List V} (h : vs.length ≤ N.length) : (L2.start N vs).length = N.length := by simp [L2.start]; omega
theorem startD_len {N : List Str} {vs : List Sl} (h : vs.length ≤ N.length) : (startD N vs).length = N.length := by simp [startD]; omega
section
variable {P : Program} {w : World} {K : Fg} {mg : Str → Option Value} {base : Heap}
theorem startF {F H : Hp} {N : List Str} {vs : List V} {ds : List D} (e : Ex F H) (d : DnA K F vs ds) (hl : vs.length ≤ N.length) : StR K H F none F (startD N (ds.map Sl.dt)) (L2.start N vs) H where
  gf := Ex.refl F
  fh := e
  bh := fun _ _ h _ => h
  nf := fun _ _ h => h
  len := by rw [start_len hl, startD_len (by simpa [← d.length] using hl)]
  sl := fun i s o e1 e2 => by
    rcases startD_get e1 with q | q
    · rw [List.getElem?_map] at q
      cases z : ds[i]? with
      | none => rw [z] at q; cases q
      | some x =>
        rw [z] at q
        simp at q; subst q
        obtain ⟨v, ev, dv⟩ := d.get z
        rcases start_get e2 with ⟨v', e', eo⟩ | ⟨l, _⟩
        · rw [ev] at e'; cases e'; exact ⟨v, eo, dv⟩
        · have := (List.getElem?_eq_some_iff.mp ev).1; omega
    · subst q; trivial
  ds := fun i j s s' hij e1 e2 o1 o2 => by
    rcases startD_get e1 with q | q
    · rw [List.getElem?_map] at q
      cases z : ds[i]? with
      | none => rw [z] at q; cases q
      | some x => rw [z] at q; simp at q; subst q; cases o1
    · subst q; cases o1
  tp := fun t e => by cases e
theorem startT {F H : Hp} {N : List Str} {t : TP} {vs : List V} {ds : List D} (e : Ex F H) (ta : TapeAt F H t) (d : DnA K F vs ds) (hl : vs.length + 1 ≤ N.length) : StR K H F (some t) F (startD N (.tape :: ds.map Sl.dt)) (L2.start N (.ref t.p :: vs)) H where
  gf := Ex.refl F
  fh := e
  bh := fun _ _ h _ => h
  nf := fun _ _ h => h
  len := by rw [start_len (by simpa using hl), startD_len (by simpa [← d.length] using hl)]
  sl := fun i s o e1 e2 => by
    rcases startD_get e1 with q | q
    · cases i with
      | zero =>
        simp at q; subst q
        rcases start_get e2 with ⟨v', e', eo⟩ | ⟨l, _⟩
        · simp at e'; subst e'; exact ⟨t, rfl, eo⟩
        · simp at l
      | succ i =>
        simp only [List.getElem?_cons_succ, List.getElem?_map] at q
        cases z : ds[i]? with
        | none => rw [z] at q; cases q
        | some x =>
          rw [z] at q
          simp at q; subst q
          obtain ⟨v, ev, dv⟩ := d.get z
          rcases start_get e2 with ⟨v', e', eo⟩ | ⟨l, _⟩
          · simp only [List.getElem?_cons_succ] at e'; rw [ev] at e'; cases e'; exact ⟨v, eo, dv⟩
          · have := (List.getElem?_eq_some_iff.mp ev).1; simp at l; omega
    · subst q; trivial
  ds := fun i j s s' hij e1 e2 o1 o2 => by
    rcases startD_get e1 with q | q
    · cases i with
      | zero => simp at q; subst q; cases o1
      | succ i =>
        simp only [List.getElem?_cons_succ, List.getElem?_map] at q
        cases z : ds[i]? with
        | none => rw [z] at q; cases q
        | some x => rw [z] at q; simp at q; subst q; cases o1
    · subst q; cases o1
  tp := fun t' e => by cases e; exact ta

/-- the context of a def's body from which nothing is raised -/
abbrev cxF (P : Program) (w : World) (K : Fg) (mg : Str → Option Value) (base : Heap) (N : List Str) (qual : Str) (scope : Scope) (f : Addr) (cd : Value) (A : Around) (outer : List Env) (s : Shared) (H : Hp) (E : XK) : Cx := (cxOf CX0 P w K mg base N qual scope f cd A outer s H E).nox
/-- THE RULE for a def of data -/
theorem fnF {x qual : Str} {params : Arguments} {body : List Stmt} {scope : Scope} {f : Addr} {fd : FuncData} {N ps : List Str} {k : Nat} {R : List D → (D → Prop) → Prop} {dvs : List V} {kws : List (Str × V)} (F : FunD K x qual params body scope dvs kws f fd) (S : FnScope N ps scope) (len : ∀ ds Φ, R ds Φ → ds.length = ps.length)
    (hbody : ∀ (cdv : Value) (A : Around) (outer : List Env) (s : Shared) (H : Hp) (E : XK), Room k (A.deeper (envOfC qual scope s.heap.objs.size f cdv)) → ∀ ds Φ, R ds Φ → SDs (cxF P w K mg base N qual scope f cdv A outer s H E) body (startD N (ds.map Sl.dt)) { nx := fun _ => Φ .none, rt := Φ }) : FnOk P w K mg base CX0 (k + 1) f fd ps (spF K R) := by
  have pl : ps.length ≤ N.length := by have := congrArg List.length S.pre; rw [List.length_take] at this; omega
  refine F.ok S (fun vs H Q E h => ?_) (fun cdv A outer s H vs Q E hr h => ?_)
  · obtain ⟨F, ds, Φ, _, d, r, _⟩ := h
    rw [d.length, len _ _ r]
  · obtain ⟨F, ds, Φ, e, d, r, q⟩ := h
    refine ⟨_, PSs.nox (hbody cdv A outer s H E hr ds Φ r), H, F, none, F, startF e d (by rw [d.length, len _ _ r]; exact pl), ?_, ?_, ?_, ?_⟩
    · exact fun env' σ' F' H' S' φ => q .non .none F' H' S'.gf S'.fh (fun a o h => S'.bh a o h (fun _ z => by cases z)) (fun a h n => S'.nf a h n) .non φ
    · exact fun v d env' σ' F' H' S' dn φ => q v d F' H' S'.gf S'.fh (fun a o h => S'.bh a o h (fun _ z => by cases z)) (fun a h n => S'.nf a h n) dn φ
    · exact fun _ _ _ _ _ z => z.elim
    · exact fun _ _ _ _ _ z => z.elim
theorem fnT {x qual : Str} {params : Arguments} {body : List Stmt} {scope : Scope} {f : Addr} {fd : FuncData} {N ps : List Str} {k : Nat} {R : List D → (D → Prop) → Prop} {dvs : List V} {kws : List (Str × V)} (F : FunD K x qual params body scope dvs kws f fd) (S : FnScope N ps scope) (len : ∀ ds Φ, R ds Φ → ds.length + 1 = ps.length)
    (hbody : ∀ (cdv : Value) (A : Around) (outer : List Env) (s : Shared) (H : Hp) (E : XK), Room k (A.deeper (envOfC qual scope s.heap.objs.size f cdv)) → ∀ ds Φ, R ds Φ → SDs (cxF P w K mg base N qual scope f cdv A outer s H E) body (startD N (.tape :: ds.map Sl.dt)) { nx := fun _ => Φ .none, rt := Φ }) : FnOk P w K mg base CX0 (k + 1) f fd ps (spT K R) := by
  have pl : ps.length ≤ N.length := by have := congrArg List.length S.pre; rw [List.length_take] at this; omega
  refine F.ok S (fun vs H Q E h => ?_) (fun cdv A outer s H vs Q E hr h => ?_)
  · obtain ⟨t, F, ws, ds, Φ, rfl, _, _, d, r, _⟩ := h
    rw [List.length_cons, d.length, len _ _ r]
  · obtain ⟨t, F, ws, ds, Φ, rfl, e, ta, d, r, q⟩ := h
    refine ⟨_, PSs.nox (hbody cdv A outer s H E hr ds Φ r), H, F, some t, F, startT e ta d (by rw [d.length, len _ _ r]; exact pl), ?_, ?_, ?_, ?_⟩
    · exact fun env' σ' F' H' S' φ => q .non .none F' H' S'.gf S'.fh (fun a o h n => S'.bh a o h (fun _ z => by cases z; exact n)) (fun a h n => S'.nf a h n) (S'.tp t rfl) .non φ
    · exact fun v d env' σ' F' H' S' dn φ => q v d F' H' S'.gf S'.fh (fun a o h n => S'.bh a o h (fun _ z => by cases z; exact n)) (fun a h n => S'.nf a h n) (S'.tp t rfl) dn φ
    · exact fun _ _ _ _ _ z => z.elim
    · exact fun _ _ _ _ _ z => z.elim

/-- a def that is known: its name, its promise, its level -/
structure Kn (P : Program) (w : World) (K : Fg) (mg : Str → Option Value) (base : Heap) (k : Nat) (x : Str) (sp : Sp) : Prop where
  ex : ∃ (f : Addr) (fd : FuncData) (ps : List Str), FnOk P w K mg base CX0 k f fd ps sp ∧ PySem.W.keepIn K (.ref f) = true ∧ Binds K fd ps [] ∧ mg x = some (.ref f)
end

section
variable {X : Cx} {e a b c : Expr} {es : List Expr} {env : List Sl} {Φ : D → Prop} {x : Str} {pos p : Pos} {j k : Nat} {R : List D → (D → Prop) → Prop}
theorem Gr.of_call {K : Fg} {B G F H F' H' : Hp} {T : Option TP} {σ : L2.St} (S : StR K B G T F env σ H) (h1 : Ex F F') (h2 : Ex F' H') (h3 : Ex H H') (h4 : ∀ a, H a ≠ none → F a = none → F' a = none) : Gr T F H F' H' ∧ StR K B G T F' env σ H' := by
  have g : Gr T F H F' H' := ⟨h1, h2, Kp.of_ex h3, h4⟩
  refine ⟨g, S.grow g fun t e => ?_⟩
  obtain ⟨q1, q2, c, j, q3, q4, q5⟩ := S.tp t e
  exact ⟨h4 _ (S.tpn t e) q1, h1 _ _ q2, c, j, q3, q4, h3 _ _ q5⟩
/-- f(e, ..) of a known def -/
theorem er_call {Ψ : List D → Prop} (c : Kn X.prog X.w X.K X.mg X.base k x (spF X.K R)) (hr : Room j X.A) (ha : AR X (e :: es) env Ψ) (h : ∀ ds, Ψ ds → R ds Φ) (hk : k ≤ j := by decide) (hg : Gl X x := by rfl) (hdb : (x == ("__debug__" : Str)) = false := by decide)
    (he : starEach (e :: es) X.env = (false, eval e X.env) :: starEach es X.env := by rfl) (hpl : (backTo pos (starEach es X.env)).any (·.1) = false := by rfl) : ER X (.Call (.Name x p) (e :: es) [] pos) env Φ := by
  obtain ⟨f, fd, ps, ok, kp, bi, hm⟩ := c.ex
  refine PE.imp (pe_call ok (hr.mono hk) hg hm kp bi .nil pass0 ha hdb he hpl) fun σ H Q ⟨B, G, T, F, S, q⟩ => ⟨B, G, T, F, S, fun vs ds F1 H1 S1 g1 d1 ψ => ?_⟩
  show spF X.K R (vs ++ []) H1 Q E0
  rw [List.append_nil]
  refine ⟨F1, ds, Φ, S1.fh, d1, h ds ψ, fun v d F' H' h1 h2 h3 h4 dn φ => ?_⟩
  obtain ⟨g, S'⟩ := Gr.of_call S1 h1 h2 h3 h4
  exact q v d F' H' S' (g1.trans g S1.tpn) dn φ
theorem ed_call {ds : List D} {d : D} (c : Kn X.prog X.w X.K X.mg X.base k x (spF X.K R)) (hr : Room j X.A) (ha : AD X (e :: es) env ds) (h : R ds (fun z => z = d)) (hk : k ≤ j := by decide) (hg : Gl X x := by rfl) (hdb : (x == ("__debug__" : Str)) = false := by decide)
    (he : starEach (e :: es) X.env = (false, eval e X.env) :: starEach es X.env := by rfl) (hpl : (backTo pos (starEach es X.env)).any (·.1) = false := by rfl) : ED X (.Call (.Name x p) (e :: es) [] pos) env d := er_call c hr ha (fun ds e => by subst e; exact h) hk hg hdb he hpl
/-- the tape as the first argument -/
theorem ar_tape {Ψ : List D → Prop} {ti : Str} {tpos : Pos} (i : Nat) (hi : env[i]? = some .tape) (hN : X.N[i]? = some ti) (hv : Vis X.env.scope ti) (ha : AR X es env Ψ) (hd : (ti == ("__debug__" : Str)) = false) (hcd : (ti == ("__classdict__" : Str)) = false)
    (hs : starEach (.Name ti tpos :: es) X.env = (false, eval (.Name ti tpos) X.env) :: starEach es X.env) :
    PA X (.Name ti tpos :: es) (fun σ H Q => ∃ B G T F, StR X.K B G T F env σ H ∧ ∀ t vs ds F' H', T = some t → StR X.K B G T F' env σ H' → Gr T F H F' H' → DnA X.K F' vs ds → Ψ ds → Q (.ref t.p :: vs) H') :=
  PA.imp (pa_cons (pv i hN hv hd hcd) ha hs) fun σ H Q ⟨B, G, T, F, S, q⟩ => by
    obtain ⟨o, eo, t, et, e2⟩ := S.some_at hi
    subst e2
    exact ⟨_, eo, B, G, T, F, S, fun vs ds F' H' S' g dn ψ => q t vs ds F' H' et S' g dn ψ⟩
theorem er_callT {Ψ : List D → Prop} {ti : Str} {tpos : Pos} (i : Nat) (c : Kn X.prog X.w X.K X.mg X.base k x (spT X.K R)) (hr : Room j X.A) (ha : AR X es env Ψ) (h : ∀ ds, Ψ ds → R ds Φ) (hi : env[i]? = some .tape := by rfl) (hN : X.N[i]? = some ti := by rfl)
    (hv : Vis X.env.scope ti := by first | exact Or.inl rfl | exact Or.inr (Or.inl rfl) | exact Or.inr (Or.inr rfl)) (hk : k ≤ j := by decide) (hg : Gl X x := by rfl) (hdb : (x == ("__debug__" : Str)) = false := by decide) (hd : (ti == ("__debug__" : Str)) = false := by decide) (hcd : (ti == ("__classdict__" : Str)) = false := by decide)
    (he : starEach (.Name ti tpos :: es) X.env = (false, eval (.Name ti tpos) X.env) :: starEach es X.env := by rfl) (hpl : (backTo pos (starEach es X.env)).any (·.1) = false := by rfl) : ER X (.Call (.Name x p) (.Name ti tpos :: es) [] pos) env Φ := by
  obtain ⟨f, fd, ps, ok, kp, bi, hm⟩ := c.ex
  refine PE.imp (pe_call ok (hr.mono hk) hg hm kp bi .nil pass0 (ar_tape i hi hN hv ha hd hcd he) hdb he hpl) fun σ H Q ⟨B, G, T, F, S, q⟩ => ⟨B, G, T, F, S, fun t vs ds F1 H1 et S1 g1 d1 ψ => ?_⟩
  show spT X.K R ((.ref t.p :: vs) ++ []) H1 Q E0
  rw [List.append_nil]
  refine ⟨t, F1, vs, ds, Φ, rfl, S1.fh, S1.tp t et, d1, h ds ψ, fun v d F' H' h1 h2 h3 h4 ta dn φ => ?_⟩
  have g : Gr T F1 H1 F' H' := ⟨h1, h2, fun a o h n => h3 a o h (n t et), h4⟩
  have S' := S1.grow g fun t' et' => by rw [et] at et'; cases et'; exact ta
  exact q v d F' H' S' (g1.trans g S1.tpn) dn φ

/-! ### built-in functions -/
def CMax (X : Cx) (f : Value) : List V → Hp → VK → Prop := fun xs H Q => ∃ r, CallR X f r ∧ r xs H Q
theorem CMax.ok {f : Value} : CallR X f (CMax X f) := fun pins s σ H xs us Q I rx ⟨r, h, q⟩ => h pins s σ H xs us Q I rx q
def CaD (X : Cx) (f : Value) (ds : List D) (Χ : D → Prop) : Prop := ∃ r, CallR X f r ∧ ∀ B G T F env σ H vs (Q : VK), StR X.K B G T F env σ H → DnA X.K F vs ds →
  (∀ w d F' H', StR X.K B G T F' env σ H' → Gr T F H F' H' → Dn X.K F' w d → Χ d → Q w H') → r vs H Q
theorem CaD.imp {f : Value} {ds : List D} {Φ Ψ : D → Prop} (h : CaD X f ds Φ) (k : ∀ d, Φ d → Ψ d) : CaD X f ds Ψ := by
  obtain ⟨r, hr, q⟩ := h
  exact ⟨r, hr, fun B G T F env σ H v Q S hv z => q B G T F env σ H v Q S hv fun w d F' H' S' g dn φ => z w d F' H' S' g dn (k d φ)⟩
theorem er_callB {Ψ : List D → Prop} {id : String} (ha : AR X (e :: es) env Ψ) (hm : X.mg x = none) (hv : bootBuiltins x = some (.builtin id)) (h : ∀ ds, Ψ ds → CaD X (.builtin id) ds Φ) (hg : Gl X x := by rfl) (hn : x ≠ "__name__" := by decide) (hdb : (x == ("__debug__" : Str)) = false := by decide)
    (he : starEach (e :: es) X.env = (false, eval e X.env) :: starEach es X.env := by rfl) (hpl : (backTo pos (starEach es X.env)).any (·.1) = false := by rfl) : ER X (.Call (.Name x p) (e :: es) [] pos) env Φ :=
  PE.imp (pe_callB CMax.ok hg hm hv ha hn hdb he hpl) fun σ H Q ⟨B, G, T, F, S, q⟩ => ⟨B, G, T, F, S, fun vs ds F1 H1 S1 g1 d1 ψ => by
    obtain ⟨r, hr, k⟩ := h ds ψ
    exact ⟨r, hr, k B G T F1 env σ H1 vs Q S1 d1 fun w z F' H' S' g' dn χ => q w z F' H' S' (g1.trans g' S1.tpn) dn χ⟩⟩
theorem er_callTy {Ψ : List D → Prop} {id : String} (ha : AR X (e :: es) env Ψ) (hm : X.mg x = none) (hv : bootBuiltins x = some (.type id)) (h : ∀ ds, Ψ ds → CaD X (.type id) ds Φ) (hg : Gl X x := by rfl) (hn : x ≠ "__name__" := by decide) (hdb : (x == ("__debug__" : Str)) = false := by decide)
    (he : starEach (e :: es) X.env = (false, eval e X.env) :: starEach es X.env := by rfl) (hpl : (backTo pos (starEach es X.env)).any (·.1) = false := by rfl) : ER X (.Call (.Name x p) (e :: es) [] pos) env Φ :=
  PE.imp (pe_callTy CMax.ok hg hm hv ha hn hdb he hpl) fun σ H Q ⟨B, G, T, F, S, q⟩ => ⟨B, G, T, F, S, fun vs ds F1 H1 S1 g1 d1 ψ => by
    obtain ⟨r, hr, k⟩ := h ds ψ
    exact ⟨r, hr, k B G T F1 env σ H1 vs Q S1 d1 fun w z F' H' S' g' dn χ => q w z F' H' S' (g1.trans g' S1.tpn) dn χ⟩⟩
theorem ed_callB {id : String} {ds : List D} {d : D} (ha : AD X (e :: es) env ds) (hm : X.mg x = none) (hv : bootBuiltins x = some (.builtin id)) (h : CaD X (.builtin id) ds (fun z => z = d)) (hg : Gl X x := by rfl) (hn : x ≠ "__name__" := by decide) (hdb : (x == ("__debug__" : Str)) = false := by decide)
    (he : starEach (e :: es) X.env = (false, eval e X.env) :: starEach es X.env := by rfl) (hpl : (backTo pos (starEach es X.env)).any (·.1) = false := by rfl) : ED X (.Call (.Name x p) (e :: es) [] pos) env d := er_callB ha hm hv (fun _ e => by subst e; exact h) hg hn hdb he hpl
theorem ed_callTy {id : String} {ds : List D} {d : D} (ha : AD X (e :: es) env ds) (hm : X.mg x = none) (hv : bootBuiltins x = some (.type id)) (h : CaD X (.type id) ds (fun z => z = d)) (hg : Gl X x := by rfl) (hn : x ≠ "__name__" := by decide) (hdb : (x == ("__debug__" : Str)) = false := by decide)
    (he : starEach (e :: es) X.env = (false, eval e X.env) :: starEach es X.env := by rfl) (hpl : (backTo pos (starEach es X.env)).any (·.1) = false := by rfl) : ED X (.Call (.Name x p) (e :: es) [] pos) env d := er_callTy ha hm hv (fun _ e => by subst e; exact h) hg hn hdb he hpl
theorem cad_pure {f : Value} {r : List V → Hp → VK → Prop} {ds : List D} {d : D} (hr : CallR X f r) (h : ∀ F H vs (Q : VK), Ex F H → DnA X.K F vs ds → (∀ w, Dn X.K F w d → Q w H) → r vs H Q) : CaD X f ds (fun z => z = d) :=
  ⟨r, hr, fun B G T F env σ H vs Q S hv q => h F H vs Q S.fh hv fun w dn => q w d F H S (Gr.refl S.fh) dn rfl⟩
theorem c_int {i : Int} : CaD X (.type "int") [.int i] (fun z => z = .int i) := cad_pure call_int1 fun F H vs Q e h q => by
  cases h with | cons h t => cases h; cases t; exact .inl ⟨i, rfl, q _ (.int i)⟩
theorem c_intB {c : Bool} : CaD X (.type "int") [.bool c] (fun z => z = .int (if c then 1 else 0)) := cad_pure call_int1 fun F H vs Q e h q => by
  cases h with | cons h t => cases h; cases t; exact .inr ⟨c, rfl, q _ (.int _)⟩
theorem c_boolB {c : Bool} : CaD X (.type "bool") [.bool c] (fun z => z = .bool c) := cad_pure call_bool1 fun F H vs Q e h q => by
  cases h with | cons h t => cases h; cases t; exact .inr ⟨c, rfl, q _ (.bl _)⟩
theorem c_abs {i : Int} : CaD X (.builtin "abs") [.int i] (fun z => z = .int (if i < 0 then -i else i)) := cad_pure call_abs fun F H vs Q e h q => by
  cases h with | cons h t => cases h; cases t; exact ⟨i, rfl, q _ (.int _)⟩
theorem c_max2 (hc : X.calm = true) {i j : Int} : CaD X (.builtin "max") [.int i, .int j] (fun z => z = .int (if j > i then j else i)) := cad_pure (call_max2 hc) fun F H vs Q e h q => by
  cases h with | cons h t => cases t with | cons h2 t => cases h; cases h2; cases t; exact ⟨i, j, rfl, q _ (.int _)⟩
theorem c_min2 (hc : X.calm = true) {i j : Int} : CaD X (.builtin "min") [.int i, .int j] (fun z => z = .int (if j < i then j else i)) := cad_pure (call_min2 hc) fun F H vs Q e h q => by
  cases h with | cons h t => cases t with | cons h2 t => cases h; cases h2; cases t; exact ⟨i, j, rfl, q _ (.int _)⟩
theorem c_lenL {xs : List D} : CaD X (.builtin "len") [.list xs] (fun z => z = .int xs.length) := cad_pure call_len_seq fun F H vs Q e h q => by
  cases h with | cons h t => cases t; cases h with | lst h d => exact ⟨_, _, rfl, .inl (SqL.of (e _ _ h)), by rw [d.length]; exact q _ (.int _)⟩
theorem c_lenT {xs : List D} : CaD X (.builtin "len") [.tuple xs] (fun z => z = .int xs.length) := cad_pure call_len_seq fun F H vs Q e h q => by
  cases h with | cons h t => cases t; cases h with | tup h d => exact ⟨_, _, rfl, .inr (ex_t e h), by rw [d.length]; exact q _ (.int _)⟩
theorem c_lenS {z : Str} (h : z.length ≤ sizeLine) : CaD X (.builtin "len") [.str z] (fun y => y = .int z.length) := cad_pure call_len_str fun F H vs Q e h' q => by
  cases h' with | cons h' t => cases t; cases h'; exact ⟨z, rfl, h, q _ (.int _)⟩
theorem c_list {xs : List D} {b : Bool} : CaD X (.type "list") [bif b then .list xs else .tuple xs] (fun z => z = .list xs) := ⟨_, call_list_of, fun B G T F env σ H vs Q S hv q => by
  cases hv with | cons h t =>
  cases t
  cases b with
  | true =>
    cases h with | lst h d =>
    refine ⟨_, _, rfl, .inl (SqL.of (S.fh _ _ h)), fun p hp => ?_⟩
    obtain ⟨S', g⟩ := S.lay (o := .lst _) hp
    exact q _ _ _ _ S' g (.lst upd_same (d.mono g.ff)) rfl
  | false =>
    cases h with | tup h d =>
    refine ⟨_, _, rfl, .inr (ex_t S.fh h), fun p hp => ?_⟩
    obtain ⟨S', g⟩ := S.lay (o := .lst _) hp
    exact q _ _ _ _ S' g (.lst upd_same (d.mono g.ff)) rfl⟩
theorem c_listL {xs : List D} : CaD X (.type "list") [.list xs] (fun z => z = .list xs) := c_list (b := true)
theorem c_listT {xs : List D} : CaD X (.type "list") [.tuple xs] (fun z => z = .list xs) := c_list (b := false)
theorem c_tupT {xs : List D} : CaD X (.type "tuple") [.tuple xs] (fun z => z = .tuple xs) := ⟨_, call_tuple_of, fun B G T F env σ H vs Q S hv q => by
  cases hv with | cons h t =>
  cases t
  cases h with | tup h d =>
  exact ⟨_, _, rfl, .inr ⟨ex_t S.fh h, q _ _ F H S (Gr.refl S.fh) (.tup h d) rfl⟩⟩⟩
theorem c_tupL {xs : List D} : CaD X (.type "tuple") [.list xs] (fun z => z = .tuple xs) := ⟨_, call_tuple_of, fun B G T F env σ H vs Q S hv q => by
  cases hv with | cons h t =>
  cases t
  cases h with | lst h d =>
  refine ⟨_, _, rfl, .inl ⟨SqL.of (S.fh _ _ h), fun p hp => ?_⟩⟩
  obtain ⟨S', g⟩ := S.lay (o := .tup _) hp
  exact q _ _ _ _ S' g (.tup (.inl (.inl upd_same)) (d.mono g.ff)) rfl⟩
theorem c_sumL (hc : X.calm = true) {ns : List Int} : CaD X (.builtin "sum") [.list (ns.map PyData.int)] (fun z => z = .int ns.sum) := cad_pure (cr_sum hc) fun F H vs Q e h q => by
  cases h with | cons h t => cases t; cases h with | lst h d => exact ⟨_, ns, rfl, by rw [← d.ints]; exact SqL.of (e _ _ h), q _ (.int _)⟩
theorem c_allL (hc : X.calm = true) {ns : List Bool} : CaD X (.builtin "all") [.list (ns.map PyData.bool)] (fun z => z = .bool (ns.all id)) := cad_pure (cr_all hc) fun F H vs Q e h q => by
  cases h with | cons h t => cases t; cases h with | lst h d => exact ⟨_, ns, rfl, by rw [← d.bools]; exact SqL.of (e _ _ h), q _ (.bl _)⟩
theorem c_anyL (hc : X.calm = true) {ns : List Bool} : CaD X (.builtin "any") [.list (ns.map PyData.bool)] (fun z => z = .bool (ns.any id)) := cad_pure (cr_any hc) fun F H vs Q e h q => by
  cases h with | cons h t => cases t; cases h with | lst h d => exact ⟨_, ns, rfl, by rw [← d.bools]; exact SqL.of (e _ _ h), q _ (.bl _)⟩
theorem c_maxL (hc : X.calm = true) {ns : List Int} {m : Int} (hm : m ∈ ns) (hle : ∀ y ∈ ns, y ≤ m) : CaD X (.builtin "max") [.list (ns.map PyData.int)] (fun z => z = .int m) := cad_pure (cr_max hc) fun F H vs Q e h q => by
  cases h with | cons h t =>
  cases t
  cases h with | lst h d =>
  refine ⟨_, ns, rfl, by rw [← d.ints]; exact SqL.of (e _ _ h), by cases ns with | nil => cases hm | cons _ _ => simp, fun m' h1 h2 => ?_⟩
  have : m' = m := Int.le_antisymm (hle _ h1) (h2 _ hm)
  rw [this]; exact q _ (.int _)
theorem c_minL (hc : X.calm = true) {ns : List Int} {m : Int} (hm : m ∈ ns) (hle : ∀ y ∈ ns, m ≤ y) : CaD X (.builtin "min") [.list (ns.map PyData.int)] (fun z => z = .int m) := cad_pure (cr_min hc) fun F H vs Q e h q => by
  cases h with | cons h t =>
  cases t
  cases h with | lst h d =>
  refine ⟨_, ns, rfl, by rw [← d.ints]; exact SqL.of (e _ _ h), by cases ns with | nil => cases hm | cons _ _ => simp, fun m' h1 h2 => ?_⟩
  have : m' = m := Int.le_antisymm (h2 _ hm) (hle _ h1)
  rw [this]; exact q _ (.int _)
end
end DL

namespace DL
open PySem PySem.Spec PyProof.Rows L2 RZ

/-! ### what is walked -/
/-- J walks the items, which F0 holds -/
structure Wk (K : Fg) (J : It) (F0 : Hp) (items : List D) : Prop where
  go : ∀ i H, i < items.length → Ex F0 H → J.go i H
  stop : ∀ H, Ex F0 H → J.stop items.length H
  yld : ∀ i F H x H', i < items.length → Ex F0 F → Ex F H → J.yld i H x H' → ∃ d F', items[i]? = some d ∧ Dn K F' x d ∧ Ex F F' ∧ Ex F' H' ∧ Ex H H' ∧ ∀ a, H a ≠ none → F a = none → F' a = none
def rdI (K : Fg) (env : List Sl) (items : List D) : TI := fun σ H R => ∃ B G T F, StR K B G T F env σ H ∧ ∀ J F' H', StR K B G T F' env σ H' → Gr T F H F' H' → Wk K J F' items → R J H'
def IR (X : Cx) (tg iter : Expr) (env : List Sl) (items : List D) : Prop := PI X tg iter (rdI X.K env items)
theorem PI.imp {X : Cx} {tg iter : Expr} {w w' : TI} (h : PI X tg iter w) (k : ∀ σ H R, w' σ H R → w σ H R) : PI X tg iter w' := ⟨fun pins s σ H R I q => h.run pins s σ H R I (k σ H R q)⟩
section
variable {X : Cx} {tg e a b c : Expr} {env : List Sl} {pos p : Pos} {j k : Nat}
theorem wk_lst {K : Fg} {F : Hp} {a : Addr} {vs : List V} {ds : List D} (h : F a = some (.lst vs)) (d : DnA K F vs ds) : Wk K (Itl K a) F ds where
  go := fun i H hi e => ⟨vs, vs[i]'(by rw [d.length]; exact hi), SqL.of (e _ _ h), List.getElem?_eq_getElem _⟩
  stop := fun H e => ⟨vs, SqL.of (e _ _ h), Nat.le_of_eq d.length⟩
  yld := fun i F1 H x H' hi e1 e2 ⟨eh, y⟩ => by
    subst eh
    have q := y vs (SqL.of ((e1.trans e2) _ _ h))
    obtain ⟨z, ez, dz⟩ := d.getV q
    exact ⟨z, F1, ez, dz.mono e1, Ex.refl F1, e2, Ex.refl _, fun _ _ n => n⟩
theorem wk_tup {K : Fg} {F : Hp} {a : Addr} {vs : List V} {ds : List D} (h : SqT K F a vs) (d : DnA K F vs ds) : Wk K (Itt K a) F ds where
  go := fun i H hi e => ⟨vs, vs[i]'(by rw [d.length]; exact hi), ex_t e h, List.getElem?_eq_getElem _⟩
  stop := fun H e => ⟨vs, ex_t e h, Nat.le_of_eq d.length⟩
  yld := fun i F1 H x H' hi e1 e2 ⟨eh, y⟩ => by
    subst eh
    have q := y vs (ex_t (e1.trans e2) h)
    obtain ⟨z, ez, dz⟩ := d.getV q
    exact ⟨z, F1, ez, dz.mono e1, Ex.refl F1, e2, Ex.refl _, fun _ _ n => n⟩
theorem ir_lst {ds : List D} (h : ED X e env (.list ds)) : IR X tg e env ds := PI.imp (pi_list h) fun σ H R ⟨B, G, T, F, S, q⟩ => ⟨B, G, T, F, S, fun v d F' H' S' g dn z => by
  subst z
  cases dn with | lst h d => exact ⟨_, rfl, ⟨_, SqL.of (S'.fh _ _ h)⟩, q _ F' H' S' g (wk_lst h d)⟩⟩
theorem ir_tup {ds : List D} (h : ED X e env (.tuple ds)) : IR X tg e env ds := PI.imp (pi_tup h) fun σ H R ⟨B, G, T, F, S, q⟩ => ⟨B, G, T, F, S, fun v d F' H' S' g dn z => by
  subst z
  cases dn with | tup h d => exact ⟨_, rfl, ⟨_, ex_t S'.fh h⟩, q _ F' H' S' g (wk_tup h d)⟩⟩
def rangeD (lo : Int) (n : Nat) : List D := (List.range n).map fun (i : Nat) => .int (lo + i)
theorem rangeD_len (lo : Int) (n : Nat) : (rangeD lo n).length = n := by simp [rangeD]
theorem rangeD_get {lo : Int} {n i : Nat} (h : i < n) : (rangeD lo n)[i]? = some (.int (lo + i)) := by simp [rangeD, h]
theorem wk_rng {K : Fg} {F : Hp} {lo : Int} {n : Nat} : Wk K (Itr lo n) F (rangeD lo n) where
  go := fun i H hi e => by rw [rangeD_len] at hi; exact hi
  stop := fun H e => by rw [rangeD_len]; exact Nat.le_refl _
  yld := fun i F1 H x H' hi e1 e2 ⟨eh, y⟩ => by
    subst eh; subst y
    rw [rangeD_len] at hi
    exact ⟨_, F1, rangeD_get hi, .int _, Ex.refl F1, e2, Ex.refl _, fun _ _ n => n⟩
theorem ir_rng1 {n : Int} (ha : AD X [a] env [.int n]) (hb : -(2 ^ 62) ≤ n ∧ n < 2 ^ 62) (hm : X.mg "range" = none) (hg : Gl X "range" := by rfl) (hs : starEach [a] X.env = [(false, eval a X.env)] := by rfl) : IR X tg (.Call (.Name "range" p) [a] [] pos) env (rangeD 0 n.toNat) :=
  PI.imp (pi_range1 hg hm ha hs) fun σ H R ⟨B, G, T, F, S, q⟩ => ⟨B, G, T, F, S, fun vs ds F' H' S' g dn z => by
    subst z
    cases dn with | cons h t => cases h; cases t; exact ⟨n, rfl, hb.1, hb.2, q _ F' H' S' g wk_rng⟩⟩
theorem ir_rng2 {lo hi : Int} (ha : AD X [a, b] env [.int lo, .int hi]) (h1 : -(2 ^ 62) ≤ lo ∧ lo < 2 ^ 62) (h2 : -(2 ^ 62) ≤ hi ∧ hi < 2 ^ 62) (hm : X.mg "range" = none) (hg : Gl X "range" := by rfl)
    (hs : starEach [a, b] X.env = [(false, eval a X.env), (false, eval b X.env)] := by rfl) (hs2 : starEach [b] X.env = [(false, eval b X.env)] := by rfl) : IR X tg (.Call (.Name "range" p) [a, b] [] pos) env (rangeD lo (hi - lo).toNat) :=
  PI.imp (pi_range2 hg hm ha hs hs2) fun σ H R ⟨B, G, T, F, S, q⟩ => ⟨B, G, T, F, S, fun vs ds F' H' S' g dn z => by
    subst z
    cases dn with | cons q1 t => cases t with | cons q2 t => cases q1; cases q2; cases t; exact ⟨lo, hi, rfl, ⟨h1.1, h1.2, h2.1, h2.2⟩, q _ F' H' S' g wk_rng⟩⟩
/-- zip of two lists or two tuples -/
def zipD (xs ys : List D) : List D := (xs.zip ys).map fun p => .tuple [p.1, p.2]
theorem zipD_get {xs ys : List D} {i : Nat} {x y : D} (h1 : xs[i]? = some x) (h2 : ys[i]? = some y) : (zipD xs ys)[i]? = some (.tuple [x, y]) := by
  have : (xs.zip ys)[i]? = some (x, y) := List.getElem?_zip_eq_some.mpr ⟨h1, h2⟩
  unfold zipD
  rw [List.getElem?_map, this]; rfl
theorem zipD_len {xs ys : List D} : (zipD xs ys).length = min xs.length ys.length := by simp [zipD]
theorem wk_zipL {K : Fg} {F : Hp} {a b : Addr} {vs us : List V} {xs ys : List D} (h1 : F a = some (.lst vs)) (d1 : DnA K F vs xs) (h2 : F b = some (.lst us)) (d2 : DnA K F us ys) : Wk K (Itz K a b) F (zipD xs ys) where
  go := fun i H hi e => by
    rw [zipD_len] at hi
    exact ⟨vs, us, vs[i]'(by rw [d1.length]; omega), us[i]'(by rw [d2.length]; omega), SqL.of (e _ _ h1), SqL.of (e _ _ h2), List.getElem?_eq_getElem _, List.getElem?_eq_getElem _⟩
  stop := fun H e => ⟨vs, us, SqL.of (e _ _ h1), SqL.of (e _ _ h2), by rw [zipD_len, d1.length, d2.length]; omega⟩
  yld := fun i F1 H x H' hi e1 e2 ⟨T, x1, y1, ex, hT, eh, q1, q2⟩ => by
    subst ex; subst eh
    obtain ⟨z1, ez1, dz1⟩ := d1.getV (q1 vs (SqL.of ((e1.trans e2) _ _ h1)))
    obtain ⟨z2, ez2, dz2⟩ := d2.getV (q2 us (SqL.of ((e1.trans e2) _ _ h2)))
    have fT := e2.none hT
    refine ⟨_, upd F1 T (.tup [x1, y1]), zipD_get ez1 ez2, .tup (.inl (.inl upd_same)) (.cons ((dz1.mono e1).mono (Ex.new fT)) (.cons ((dz2.mono e1).mono (Ex.new fT)) .nil)), Ex.new fT, ex_upd2 e2, Ex.new hT, fun a h n => ?_⟩
    rw [upd_ne (fun z => h (by rw [z]; exact hT))]; exact n
theorem wk_zipT {K : Fg} {F : Hp} {a b : Addr} {vs us : List V} {xs ys : List D} (h1 : SqT K F a vs) (d1 : DnA K F vs xs) (h2 : SqT K F b us) (d2 : DnA K F us ys) : Wk K (ItzT K a b) F (zipD xs ys) where
  go := fun i H hi e => by
    rw [zipD_len] at hi
    exact ⟨vs, us, vs[i]'(by rw [d1.length]; omega), us[i]'(by rw [d2.length]; omega), ex_t e h1, ex_t e h2, List.getElem?_eq_getElem _, List.getElem?_eq_getElem _⟩
  stop := fun H e => ⟨vs, us, ex_t e h1, ex_t e h2, by rw [zipD_len, d1.length, d2.length]; omega⟩
  yld := fun i F1 H x H' hi e1 e2 ⟨T, x1, y1, ex, hT, eh, q1, q2⟩ => by
    subst ex; subst eh
    obtain ⟨z1, ez1, dz1⟩ := d1.getV (q1 vs (ex_t (e1.trans e2) h1))
    obtain ⟨z2, ez2, dz2⟩ := d2.getV (q2 us (ex_t (e1.trans e2) h2))
    have fT := e2.none hT
    refine ⟨_, upd F1 T (.tup [x1, y1]), zipD_get ez1 ez2, .tup (.inl (.inl upd_same)) (.cons ((dz1.mono e1).mono (Ex.new fT)) (.cons ((dz2.mono e1).mono (Ex.new fT)) .nil)), Ex.new fT, ex_upd2 e2, Ex.new hT, fun a h n => ?_⟩
    rw [upd_ne (fun z => h (by rw [z]; exact hT))]; exact n
theorem ir_zipL {xs ys : List D} {elts : List Expr} {kk : Nat} {tpos : Pos} (ha : AD X [a, b] env [.list xs, .list ys]) (hm : X.mg "zip" = none) (hg : Gl X "zip" := by rfl) (hs : starEach [a, b] X.env = (false, eval a X.env) :: starEach [b] X.env := by rfl)
    (hpl : (backTo pos (starEach [b] X.env)).any (·.1) = false := by rfl) : IR X (.Tuple elts kk tpos) (.Call (.Name "zip" p) [a, b] [] pos) env (zipD xs ys) :=
  PI.imp (pi_zipA hg hm ha hs hpl) fun σ H R ⟨B, G, T, F, S, q⟩ => ⟨B, G, T, F, S, fun vs ds F' H' S' g dn z => by
    subst z
    cases dn with | cons h t =>
    cases t with | cons h2 t =>
    cases t
    cases h with | lst h d =>
    cases h2 with | lst h2 d2 =>
    exact ⟨_, _, _, _, rfl, .inl ⟨SqL.of (S'.fh _ _ h), SqL.of (S'.fh _ _ h2), q _ F' H' S' g (wk_zipL h d h2 d2)⟩⟩⟩
theorem ir_zipT {xs ys : List D} {elts : List Expr} {kk : Nat} {tpos : Pos} (ha : AD X [a, b] env [.tuple xs, .tuple ys]) (hm : X.mg "zip" = none) (hg : Gl X "zip" := by rfl) (hs : starEach [a, b] X.env = (false, eval a X.env) :: starEach [b] X.env := by rfl)
    (hpl : (backTo pos (starEach [b] X.env)).any (·.1) = false := by rfl) : IR X (.Tuple elts kk tpos) (.Call (.Name "zip" p) [a, b] [] pos) env (zipD xs ys) :=
  PI.imp (pi_zipA hg hm ha hs hpl) fun σ H R ⟨B, G, T, F, S, q⟩ => ⟨B, G, T, F, S, fun vs ds F' H' S' g dn z => by
    subst z
    cases dn with | cons h t =>
    cases t with | cons h2 t =>
    cases t
    cases h with | tup h d =>
    cases h2 with | tup h2 d2 =>
    exact ⟨_, _, _, _, rfl, .inr ⟨ex_t S'.fh h, ex_t S'.fh h2, q _ F' H' S' g (wk_zipT h d h2 d2)⟩⟩⟩
def enumD (xs : List D) : List D := xs.zipIdx.map fun p => .tuple [.int (p.2 : Nat), p.1]
theorem enumD_len {xs : List D} : (enumD xs).length = xs.length := by simp [enumD]
theorem enumD_get {xs : List D} {i : Nat} {x : D} (h : xs[i]? = some x) : (enumD xs)[i]? = some (.tuple [.int (i : Nat), x]) := by
  unfold enumD
  rw [List.getElem?_map, List.getElem?_zipIdx, h]; simp
theorem wk_enum {K : Fg} {F : Hp} {a : Addr} {vs : List V} {xs : List D} (h1 : F a = some (.lst vs)) (d1 : DnA K F vs xs) : Wk K (Ite K a) F (enumD xs) where
  go := fun i H hi e => by
    rw [enumD_len] at hi
    exact ⟨vs, vs[i]'(by rw [d1.length]; omega), SqL.of (e _ _ h1), List.getElem?_eq_getElem _⟩
  stop := fun H e => ⟨vs, SqL.of (e _ _ h1), by rw [enumD_len, d1.length]; omega⟩
  yld := fun i F1 H x H' hi e1 e2 ⟨T, x1, ex, hT, eh, q1⟩ => by
    subst ex; subst eh
    obtain ⟨z1, ez1, dz1⟩ := d1.getV (q1 vs (SqL.of ((e1.trans e2) _ _ h1)))
    have fT := e2.none hT
    refine ⟨_, upd F1 T (.tup [.int (i : Nat), x1]), enumD_get ez1, .tup (.inl (.inl upd_same)) (.cons (.int _) (.cons ((dz1.mono e1).mono (Ex.new fT)) .nil)), Ex.new fT, ex_upd2 e2, Ex.new hT, fun a h n => ?_⟩
    rw [upd_ne (fun z => h (by rw [z]; exact hT))]; exact n
theorem ir_enum {xs : List D} {elts : List Expr} {kk : Nat} {tpos : Pos} (ha : AD X [a] env [.list xs]) (hm : X.mg "enumerate" = none) (hg : Gl X "enumerate" := by rfl) (hs : starEach [a] X.env = [(false, eval a X.env)] := by rfl) : IR X (.Tuple elts kk tpos) (.Call (.Name "enumerate" p) [a] [] pos) env (enumD xs) :=
  PI.imp (pi_enum hg hm ha hs) fun σ H R ⟨B, G, T, F, S, q⟩ => ⟨B, G, T, F, S, fun vs ds F' H' S' g dn z => by
    subst z
    cases dn with | cons h t =>
    cases t
    cases h with | lst h d =>
    exact ⟨_, _, rfl, SqL.of (S'.fh _ _ h), q _ F' H' S' g (wk_enum h d)⟩⟩

/-! ### targets -/
/-- the data d goes to the target: env becomes env', the slots at is are written -/
def rdG (K : Fg) (env : List Sl) (d : D) (env' : List Sl) (is : List Nat) : TG := fun v σ H Q => ∃ B G T F, StR K B G T F env σ H ∧ Dn K F v d ∧ ∀ σ', StR K B G T F env' σ' H → σ'.length = σ.length → (∀ k, k ∉ is → σ'[k]? = σ[k]?) → Q σ' H
def rdGs (K : Fg) (env : List Sl) (ds : List D) (env' : List Sl) (is : List Nat) : TGs := fun vs σ H Q => ∃ B G T F, StR K B G T F env σ H ∧ DnA K F vs ds ∧ ∀ σ', StR K B G T F env' σ' H → σ'.length = σ.length → (∀ k, k ∉ is → σ'[k]? = σ[k]?) → Q σ' H
def GR (X : Cx) (tg : Expr) (env : List Sl) (d : D) (env' : List Sl) (is : List Nat) : Prop := PG X tg (rdG X.K env d env' is)
def GRs (X : Cx) (tg : List Expr) (env : List Sl) (d : List D) (env' : List Sl) (is : List Nat) : Prop := PGs X tg (rdGs X.K env d env' is)
theorem PG.imp {X : Cx} {tg : Expr} {w w' : TG} (h : PG X tg w) (k : ∀ v σ H R, w' v σ H R → w v σ H R) : PG X tg w' := ⟨fun pins s σ H v u R I r q => h.run pins s σ H v u R I r (k v σ H R q)⟩
theorem PGs.imp {X : Cx} {tg : List Expr} {w w' : TGs} (h : PGs X tg w) (k : ∀ v σ H R, w' v σ H R → w v σ H R) : PGs X tg w' := ⟨fun pins s σ H v u R I r q => h.run pins s σ H v u R I r (k v σ H R q)⟩
theorem PG.ex {X : Cx} {tg : Expr} {ι : Type} {t : ι → TG} (h : ∀ i, PG X tg (t i)) : PG X tg (fun v σ H Q => ∃ i, t i v σ H Q) := ⟨fun pins s σ H v u R I r ⟨i, q⟩ => (h i).run pins s σ H v u R I r q⟩
theorem gr_name {x : Str} {d : D} (i : Nat) (hN : X.N.Nodup := by assumption) (hi : X.N[i]? = some x := by rfl) (hx : Loc X.env.scope x := by first | exact .inl rfl | exact .inr rfl) (hf : X.fn x = true ∨ X.env.scope.names.lookup x = some .local := by first | exact .inl rfl | exact .inr rfl | assumption) : GR X (.Name x pos) env d (env.set i (.dt d)) [i] :=
  PG.imp (pg_name hN hi hx hf) fun v σ H Q ⟨B, G, T, F, S, dn, q⟩ => q _ (S.set_dt dn i) (by simp) (fun k hk => by rw [List.getElem?_set_ne (fun z => hk (by simp [z]))])
theorem grs_nil : GRs X [] env [] env [] := PGs.imp pgs_nil fun v σ H Q ⟨B, G, T, F, S, dn, q⟩ => by cases dn; exact ⟨rfl, q σ S rfl (fun _ _ => rfl)⟩
theorem grs_cons {es : List Expr} {d : D} {ds : List D} {env1 env2 : List Sl} {is js : List Nat} (h : GR X e env d env1 is) (hr : GRs X es env1 ds env2 js) (hs : (assignEach (e :: es) X.env).map (·.2) = assign e X.env :: (assignEach es X.env).map (·.2) := by rfl) : GRs X (e :: es) env (d :: ds) env2 (is ++ js) :=
  PGs.imp (pgs_cons h hr hs) fun v σ H Q ⟨B, G, T, F, S, dn, q⟩ => by
    cases dn with | cons dn dr =>
    exact ⟨_, _, rfl, B, G, T, F, S, dn, fun σ1 S1 l1 k1 => ⟨B, G, T, F, S1, dr, fun σ2 S2 l2 k2 => q σ2 S2 (l2.trans l1) fun k hk => by
      rw [List.mem_append, not_or] at hk
      rw [k2 k hk.2, k1 k hk.1]⟩⟩
theorem gr_tup {es : List Expr} {ds : List D} {env' : List Sl} {is : List Nat} {kk : Nat} {n : Nat} (hc : X.calm = true) (h : GRs X es env ds env' is) (hl : ds.length = n) (hn : (assignEach es X.env).length = n := by rfl) (hst : (assignEach es X.env).findIdx? (·.1) = none := by rfl) : GR X (.Tuple es kk pos) env (.tuple ds) env' is :=
  PG.imp (pg_tup hc h hn hst) fun v σ H Q ⟨B, G, T, F, S, dn, q⟩ => by
    cases dn with | tup h d =>
    exact ⟨_, _, rfl, ex_t S.fh h, d.length.trans hl, B, G, T, F, S, d, q⟩

/-! ### for -/
section
variable {Φ : Out} {rest body : List Stmt}
theorem sds_for {items : List D} (I : Nat → List Sl → Prop) (J : List Sl → Prop) (hc : X.calm = true) (hi : IR X tg e env items) (h0 : I 0 env)
    (hs : ∀ k d env', items[k]? = some d → I k env' → ∃ env'' is, GR X tg env' d env'' is ∧ SDs X body env'' { nx := I (k + 1), ct := I (k + 1), bk := J, rt := Φ.rt })
    (hd : ∀ env', I items.length env' ∨ J env' → SDs X rest env' Φ) (hf : ∀ x, foldedSetIterable e X.env x = pure x := by intro _; rfl) (hp : PassesOwn (model X.prog X.w) X.A X.env X.xe := by exact PassesOwn.never) : SDs X (.For tg e body [] pos :: rest) env Φ := by
  have hrest := PSs.ex fun d : {d : List Sl // I items.length d ∨ J d} => hd d.1 d.2
  let Ok : (Nat × D × List Sl × List Sl × List Nat) → Prop := fun q => items[q.1]? = some q.2.1 ∧ GR X tg q.2.2.1 q.2.1 q.2.2.2.1 q.2.2.2.2 ∧ SDs X body q.2.2.2.1 { nx := I (q.1 + 1), ct := I (q.1 + 1), bk := J, rt := Φ.rt }
  have hg : PG X tg (fun v σ H Q => ∃ q : {q // Ok q}, rdG X.K q.1.2.2.1 q.1.2.1 q.1.2.2.2.1 q.1.2.2.2.2 v σ H Q) := PG.ex fun q => q.2.2.1
  have hb : PSs X body (fun D σ H => ∃ q : {q // Ok q}, rdS X.K q.1.2.2.2.1 { nx := I (q.1.1 + 1), ct := I (q.1.1 + 1), bk := J, rt := Φ.rt } D σ H) := PSs.ex fun q => q.2.2.2
  refine PSs.imp (pss_cons (ps_for hp hc hi hg hb hf) hrest) fun E σ H ⟨B, G, T, F, S, n, r, bk, ct⟩ => ⟨B, G, T, F, S, fun Jt F1 H1 S1 g1 wk => ?_⟩
  refine ⟨fun i m σ H => m = items.length - i ∧ i ≤ items.length ∧ ∃ env' F', StR X.K B G T F' env' σ H ∧ Ex F1 F' ∧ I i env', ⟨items.length, by simp, Nat.zero_le _, env, F1, S1, Ex.refl _, h0⟩, ?_⟩
  rintro i m σ2 H2 ⟨rfl, hi2, env2, F2, S2, e2, i2⟩
  by_cases hlt : i < items.length
  · refine .inr ⟨wk.go i H2 hlt (e2.trans S2.fh), fun σ' H' => ∃ env' F', StR X.K B G T F' env' σ' H' ∧ Ex F1 F' ∧ I (i + 1) env', fun σ' H' ⟨env', F', S', e', i'⟩ => ⟨items.length - (i + 1), by omega, rfl, hlt, env', F', S', e', i'⟩, fun x H3 y => ?_⟩
    obtain ⟨d, F3, ed, dn, x1, x2, x3, x4⟩ := wk.yld i F2 H2 x H3 hlt e2 S2.fh y
    obtain ⟨env'', is, hgr, hbd⟩ := hs i d env2 ed i2
    obtain ⟨g3, S3⟩ := Gr.of_call S2 x1 x2 x3 x4
    refine ⟨⟨(i, d, env2, env'', is), ed, hgr, hbd⟩, B, G, T, F3, S3, dn, fun σ4 S4 l4 k4 => ?_⟩
    -- the body keeps what F3 holds: G is raised to F3 for the while
    have S5 : StR X.K B F3 T F3 env'' σ4 H3 := ⟨Ex.refl F3, S4.fh, S4.bh, fun a _ n => n, S4.len, S4.sl, S4.ds, S4.tp⟩
    have low : ∀ {F' : Hp} {env' : List Sl} {σ' : L2.St} {H' : Hp}, StR X.K B F3 T F' env' σ' H' → StR X.K B G T F' env' σ' H' := fun {F' env' σ' H'} Z =>
      ⟨S4.gf.trans Z.gf, Z.fh, Z.bh, fun a hb hg => Z.nf a hb (S4.nf a hb hg), Z.len, Z.sl, Z.ds, Z.tp⟩
    refine ⟨⟨(i, d, env2, env'', is), ed, hgr, hbd⟩, B, F3, T, F3, S5, ?_, ?_, ?_, ?_⟩
    · intro env' σ' F' H' S' i'; exact ⟨env', F', low S', (e2.trans x1).trans S'.gf, i'⟩
    · intro v d env' σ' F' H' S' dn' φ; exact r v d env' σ' F' H' (low S') dn' φ
    · intro env' σ' F' H' S' j'; exact ⟨⟨env', .inr j'⟩, B, G, T, F', low S', n, r, bk, ct⟩
    · intro env' σ' F' H' S' i'; exact ⟨env', F', low S', (e2.trans x1).trans S'.gf, i'⟩
  · have e : i = items.length := by omega
    subst e
    exact .inl ⟨wk.stop H2 (e2.trans S2.fh), ⟨env2, .inl i2⟩, B, G, T, F2, S2, n, r, bk, ct⟩
/-- a, b = e: a tuple unpacked -/
theorem sds_unpack {ds : List D} {env' : List Sl} {is : List Nat} {tg : Expr} (h : ED X e env (.tuple ds)) (hg : GR X tg env (.tuple ds) env' is) (hr : SDs X rest env' Φ) (hs : swapsWithSole [tg] e pos.line X.env = pure false := by rfl) (hw : swappedStores [tg] e X.env = pure none := by rfl)
    (h1 : (assignEach [tg] X.env).map (·.2) = [assign tg X.env] := by rfl) : SDs X (.Assign [tg] e pos :: rest) env Φ :=
  PSs.imp (pss_cons (ps_asg h hg hs hw h1) hr) fun E σ H ⟨B, G, T, F, S, n⟩ => ⟨B, G, T, F, S, fun v d F' H' S' g dn e => by
    subst e
    exact ⟨B, G, T, F', S', dn, fun σ' S2 _ _ => ⟨B, G, T, F', S2, n⟩⟩⟩
/-- a tuple of which something is known, unpacked -/
theorem sds_unpackR {R : D → Prop} {tg : Expr} (h : ER X e env R) (hr : ∀ d, R d → ∃ env' is, GR X tg env d env' is ∧ SDs X rest env' Φ) (hs : swapsWithSole [tg] e pos.line X.env = pure false := by rfl) (hw : swappedStores [tg] e X.env = pure none := by rfl)
    (h1 : (assignEach [tg] X.env).map (·.2) = [assign tg X.env] := by rfl) : SDs X (.Assign [tg] e pos :: rest) env Φ := by
  let Ok : (D × List Sl × List Nat) → Prop := fun q => GR X tg env q.1 q.2.1 q.2.2 ∧ SDs X rest q.2.1 Φ
  have hg : PG X tg (fun v σ H Q => ∃ q : {q // Ok q}, rdG X.K env q.1.1 q.1.2.1 q.1.2.2 v σ H Q) := PG.ex fun q => q.2.1
  refine PSs.imp (pss_cons (ps_asg h hg hs hw h1) (PSs.ex fun q : {q // Ok q} => q.2.2)) fun E σ H ⟨B, G, T, F, S, n⟩ => ⟨B, G, T, F, S, fun v d F' H' S' g dn rd => ?_⟩
  obtain ⟨env', is, g1, b1⟩ := hr d rd
  exact ⟨⟨(d, env', is), g1, b1⟩, B, G, T, F', S', dn, fun σ' S2 _ _ => ⟨⟨(d, env', is), g1, b1⟩, B, G, T, F', S2, n⟩⟩
end

/-! ### own lists changed -/
theorem StR.upd_own {K : Fg} {B G F H : Hp} {T : Option TP} {σ : L2.St} {i : Nat} {p : Addr} {xs ys : List D} {vs : List V} (S : StR K B G T F env σ H) (hi : env[i]? = some (.own xs)) (hp : σ[i]? = some (some (.ref p))) (d : DnA K F vs ys) :
    StR K B G T F (env.set i (.own ys)) σ (upd H p (.lst vs)) := by
  obtain ⟨o, e, p', vs', eo, b, f, n, hp', dn⟩ := S.some_at hi
  rw [hp] at e; cases e; injection eo with eo; injection eo with eo; subst eo
  refine ⟨S.gf, ex_updH S.fh f, fun a o h1 h2 => ?_, S.nf, by simpa using S.len, fun j s o e1 e2 => ?_, fun a c s1 s2 hab e1 e2 o1 o2 => ?_, fun t et => ?_⟩
  · rw [upd_ne (fun z => by rw [z, b] at h1; cases h1)]; exact S.bh a o h1 h2
  · by_cases hij : i = j
    · subst hij
      rw [List.getElem?_set_self (List.getElem?_eq_some_iff.mp hi).1] at e1
      cases e1
      rw [hp] at e2; cases e2
      exact ⟨p, vs, rfl, b, f, n, upd_same, d⟩
    · rw [List.getElem?_set_ne hij] at e1
      have q := S.sl j s o e1 e2
      cases s with
      | un => trivial
      | dt x => exact q
      | own zs =>
        obtain ⟨r, us, er, br, fr, nr, hr, dr⟩ := q
        have ne : r ≠ p := fun z => S.ds j i _ _ (Ne.symm hij) e1 hi rfl rfl (by rw [e2, hp, er, z])
        exact ⟨r, us, er, br, fr, nr, by rw [upd_ne ne]; exact hr, dr⟩
      | owo r0 zs =>
        obtain ⟨er, br, fr, nr, hr⟩ := q
        have ne : r0 ≠ p := fun z => S.ds j i _ _ (Ne.symm hij) e1 hi rfl rfl (by rw [e2, hp, er, z])
        exact ⟨er, br, fr, nr, hr.mono (Ex.refl F) (fun o z => by rw [upd_ne ne]; exact z)⟩
      | ref a => exact q
      | tape => exact q
  · have key : ∀ {j : Nat} {t : Sl}, (env.set i (Sl.own ys))[j]? = some t → t.owned = true → ∃ t', env[j]? = some t' ∧ t'.owned = true := fun {j t} e ow => by
      by_cases hij : i = j
      · subst hij; exact ⟨_, hi, rfl⟩
      · rw [List.getElem?_set_ne hij] at e; exact ⟨_, e, ow⟩
    obtain ⟨t1, f1, g1⟩ := key e1 o1
    obtain ⟨t2, f2, g2⟩ := key e2 o2
    exact S.ds a c t1 t2 hab f1 f2 g1 g2
  · obtain ⟨h1, h2, c, j, h3, h4, h5⟩ := S.tp t et
    exact ⟨h1, h2, c, j, h3, h4, by rw [upd_ne (Ne.symm (n t et))]; exact h5⟩
section
variable {Φ : Out} {rest : List Stmt} {x : Str}
/-- a method's call upon an own list: x.append(e), x.extend(e) .. -/
def MMax (X : Cx) (id : String) : V → List V → Hp → VK → Prop := fun x xs H Q => ∃ r, MtR X id r ∧ r x xs H Q
theorem MMax.ok {id : String} : MtR X id (MMax X id) := by
  intro pins s σ H x v xs us Q I rx rs h
  obtain ⟨r, hr, q⟩ := h
  exact hr pins s σ H x v xs us Q I rx rs q
theorem sds_append {d : D} {xs : List D} (i : Nat) (hi : env[i]? = some (.own xs)) (he : AD X [e] env [d]) (hz : xs.length < 10000000) (hr : SDs X rest (env.set i (.own (xs ++ [d]))) Φ) {npos apos cpos : Pos} (hN : X.N[i]? = some x := by rfl) (hv : Vis X.env.scope x := by first | exact Or.inl rfl | exact Or.inr (Or.inl rfl) | exact Or.inr (Or.inr rfl))
    (hd : (x == ("__debug__" : Str)) = false := by decide) (hcd : (x == ("__classdict__" : Str)) = false := by decide) (hsw : swapsWith (.Call (.Attribute (.Name x npos) "append" apos) [e] [] cpos) none pos.line X.env = pure false := by rfl)
    (hbase : attributeBase (.Name x npos) "append" X.env (eval (.Name x npos) X.env) = eval (.Name x npos) X.env := by rfl)
    (hfew : ((backTo cpos (starEach [e] X.env)).all (fun x => !x.1) && (backToKw cpos (keywordEach [] X.env)).all (fun x => x.1.isSome) && decide ([e].length + ([] : List Keyword).length + (if ([] : List Keyword).isEmpty then 0 else 1) < 30)) = true := by rfl)
    (hline : (apos.endLine == cpos.line) = true := by rfl) (hs : starEach [e] X.env = (false, eval e X.env) :: starEach [] X.env := by rfl) (hplain : (backTo cpos (starEach [] X.env)).any (·.1) = false := by rfl) : SDs X (.Expr (.Call (.Attribute (.Name x npos) "append" apos) [e] [] cpos) pos :: rest) env Φ :=
  PSs.imp (pss_cons (ps_expr (pe_bm PySem.F.plainAttrs_list PySem.F.slot_list_append PySem.F.type_list_append mt_append (pv i hN hv hd hcd) he hbase hfew hline hs hplain) hsw) hr) fun E σ H ⟨B, G, T, F, S, n⟩ => by
    obtain ⟨o, eo, p, vs, e2, b, f, np, hp, dn⟩ := S.some_at hi
    subst e2
    refine ⟨_, eo, .inl ⟨rfl, vs, SqL.of hp⟩, B, G, T, F, S, fun ws ds F' H' S' g da z => ?_⟩
    subst z
    cases da with | cons d1 t =>
    cases t
    have hp' := g.hh _ _ hp np
    exact ⟨p, vs, _, rfl, rfl, hp', Nat.lt_trans (by rw [dn.length]; exact hz) (by decide), B, G, T, F', S'.upd_own hi eo ((dn.mono g.ff).append (.cons d1 .nil)), n⟩
end
end
end DL

namespace DL
open PySem PySem.Spec PyProof.Rows L2 RZ

/-! ### list comprehensions -/
def wipeE (env : List Sl) : List Nat → List Sl
  | [] => env
  | v :: vs => (wipeE env vs).set v .un
theorem StR.wipe {K : Fg} {B G F H : Hp} {T : Option TP} {env : List Sl} {σ : L2.St} (S : StR K B G T F env σ H) : ∀ vs, StR K B G T F (wipeE env vs) (L2.wipe σ vs) H
  | [] => S
  | v :: vs => (StR.wipe S vs).forget v none
theorem wipe_in {σ : L2.St} {i : Nat} : ∀ {vs : List Nat}, i ∈ vs → i < σ.length → (L2.wipe σ vs)[i]? = some none
  | [], h, _ => by simp at h
  | v :: vs, h, hi => by
    unfold L2.wipe
    by_cases e : v = i
    · subst e; rw [List.getElem?_set_self (by rw [wipe_length]; exact hi)]
    · rw [List.getElem?_set_ne e]
      exact wipe_in (by simp only [List.mem_cons] at h; exact h.resolve_left (fun z => e z.symm)) hi
theorem wipe_same {σ σ' : L2.St} {vs : List Nat} (hl : σ'.length = (L2.wipe σ vs).length) (h : ∀ k, k ∉ vs → σ'[k]? = (L2.wipe σ vs)[k]?) : L2.wipe σ' vs = L2.wipe σ vs := by
  rw [wipe_length] at hl
  refine List.ext_getElem? fun k => ?_
  by_cases hk : k ∈ vs
  · by_cases hi : k < σ.length
    · rw [wipe_in hk hi, wipe_in hk (by rw [hl]; exact hi)]
    · rw [List.getElem?_eq_none (by rw [wipe_length]; omega), List.getElem?_eq_none (by rw [wipe_length]; omega)]
  · rw [L2.wipe_out hk, h k hk]
/-- the tests of a clause -/
def TsD (X : Cx) (ifs : List Expr) (env : List Sl) (b : Bool) : Prop := PTs X ifs (rdT X.K env (fun z => z = b))
theorem PTs.imp {X : Cx} {e : List Expr} {t t' : TT} (h : PTs X e t) (k : ∀ σ H Q, t' σ H Q → t σ H Q) : PTs X e t' := ⟨fun pins s σ H Q I q => h.run pins s σ H Q I (k σ H Q q)⟩
theorem PTs.ex {X : Cx} {e : List Expr} {ι : Type} {t : ι → TT} (h : ∀ i, PTs X e (t i)) : PTs X e (fun σ H Q => ∃ i, t i σ H Q) := ⟨fun pins s σ H Q I ⟨i, q⟩ => (h i).run pins s σ H Q I q⟩
theorem tsd_nil {X : Cx} {env : List Sl} : TsD X [] env true := PTs.imp pts_nil fun σ H Q ⟨B, G, T, F, S, q⟩ => q _ F H S (Gr.refl S.fh) rfl
theorem tsd_one {X : Cx} {c : Expr} {env : List Sl} {b : Bool} (h : TD X c env b) : TsD X [c] env b := pts_one h
section
variable {X : Cx} {elt tg iter : Expr} {ifs : List Expr} {scope : Scope} {own : List (Str × Nat)} {pos : Pos} {env : List Sl} {items : List D}
/-- one element: the target, the tests, the element, in the block's context -/
structure LcOk (X : Cx) (scope : Scope) (tg : Expr) (ifs : List Expr) (elt : Expr) (env : List Sl) (vs : List Nat) (d : D) (env'' : List Sl) (is : List Nat) (b : Bool) (Φ : D → Prop) : Prop where
  sub : ∀ i ∈ is, i ∈ vs
  tgt : ∀ (s : Shared) (H : Hp) (C : Addr) (cl : List (Str × Addr)) (fp : List Addr), GR (X.blk s H scope (compEnvC scope cl C X.env) fp) tg (wipeE env vs) d env'' is
  tst : ∀ (s : Shared) (H : Hp) (C : Addr) (cl : List (Str × Addr)) (fp : List Addr), TsD (X.blk s H scope (compEnvC scope cl C X.env) fp) ifs env'' b
  elm : b = true → ∀ (s : Shared) (H : Hp) (C : Addr) (cl : List (Str × Addr)) (fp : List Addr), ER (X.blk s H scope (compEnvC scope cl C X.env) fp) elt env'' Φ
/-- what the element's part of the reading is -/
structure LcIx (Ok : D → List Sl → List Nat → Bool → (D → Prop) → Prop) where
  d : D
  env'' : List Sl
  is : List Nat
  b : Bool
  Φ : D → Prop
  ok : Ok d env'' is b Φ
def lcG (K : Fg) {Ok : D → List Sl → List Nat → Bool → (D → Prop) → Prop} {env : List Sl} {vs : List Nat} : TG := fun v σ H Q => ∃ q : LcIx Ok, rdG K (wipeE env vs) q.d q.env'' q.is v σ H Q
def lcT (K : Fg) {Ok : D → List Sl → List Nat → Bool → (D → Prop) → Prop} : TT := fun σ H Q => ∃ q : LcIx Ok, rdT K q.env'' (fun z => z = q.b) σ H Q
def lcE (K : Fg) {Ok : D → List Sl → List Nat → Bool → (D → Prop) → Prop} : TE := fun σ H Q => ∃ q : {q : LcIx Ok // q.b = true}, rdE K q.1.env'' q.1.Φ σ H Q
theorem lc_read {Ok : D → List Sl → List Nat → Bool → (D → Prop) → Prop} (I : Nat → List D → Prop) (vs : List Nat) (hz : items.length ≤ 10000000) (h0 : I 0 []) (hsub : ∀ {d env'' is b Φ}, Ok d env'' is b Φ → ∀ i ∈ is, i ∈ vs)
    (hs : ∀ k d ys, items[k]? = some d → I k ys → ∃ env'' is b Φ, Ok d env'' is b Φ ∧ (b = false → I (k + 1) ys) ∧ (b = true → ∀ y, Φ y → I (k + 1) (ys ++ [y]))) {σ : L2.St} {H : Hp} {Q : VK}
    (h : rdX X.K env (fun s => ∃ ys, s = .own ys ∧ I items.length ys) σ H Q) :
    tLc (rdI X.K env items) (lcG X.K (Ok := Ok) (env := env) (vs := vs)) (lcT X.K (Ok := Ok)) (lcE X.K (Ok := Ok)) vs σ H Q := by
  obtain ⟨B, G, T, F, S, q⟩ := h
  refine ⟨B, G, T, F, S, fun J F1 H1 S1 g1 wk => ?_⟩
  intro Dd hD
  obtain ⟨S1', g1'⟩ := S1.layOwn hD .nil
  have l1 : env.length = σ.length := S.len
  refine ⟨fun i m Hc => m = items.length - i ∧ i ≤ items.length ∧ ∃ Fc ys, StR X.K B G T Fc (env ++ [.own ys]) (σ ++ [some (.ref Dd)]) Hc ∧ Gr T F1 H1 Fc Hc ∧ I i ys ∧ ys.length ≤ i,
    ⟨items.length, by simp, Nat.zero_le _, F1, [], S1', g1', h0, Nat.le_refl _⟩, ?_⟩
  rintro i m Hc ⟨rfl, hi, Fc, ys, Sc, gc, hI, hy⟩
  have exF : Ex F1 Hc := gc.ff.trans gc.fh
  by_cases hlt : i < items.length
  · refine .inr ⟨wk.go i Hc hlt exF, fun Hn => ∃ Fn ys', StR X.K B G T Fn (env ++ [.own ys']) (σ ++ [some (.ref Dd)]) Hn ∧ Gr T F1 H1 Fn Hn ∧ I (i + 1) ys' ∧ ys'.length ≤ i + 1, fun Hn ⟨Fn, ys', a1, a2, a3, a4⟩ => ⟨items.length - (i + 1), by omega, rfl, hlt, Fn, ys', a1, a2, a3, a4⟩, fun x H2 y => ?_⟩
    obtain ⟨d, F2, ed, dn, x1, x2, x3, x4⟩ := wk.yld i Fc Hc x H2 hlt gc.ff gc.fh y
    obtain ⟨g2, Sc2⟩ := Gr.of_call Sc x1 x2 x3 x4
    obtain ⟨env'', is, b, Φ, ok, kf, kt⟩ := hs i d ys ed hI
    have S2 := (Sc2.drop l1).wipe vs
    refine ⟨⟨d, env'', is, b, Φ, ok⟩, B, G, T, F2, S2, dn, fun σ3 S3 l3 k3 => ?_⟩
    refine ⟨wipe_same l3 fun k hk => k3 k fun hm => hk (hsub ok k hm), ⟨d, env'', is, b, Φ, ok⟩, B, G, T, F2, S3, fun v F3 H3 S4 g3 e => ?_⟩
    subst e
    have Sc3 := Sc2.grow g3 S4.tp
    have gc3 := (gc.trans g2 Sc.tpn).trans g3 Sc2.tpn
    show if v = true then _ else _
    cases v with
    | false => exact iteF ⟨F3, ys, Sc3, gc3, kf rfl, Nat.le_succ_of_le hy⟩
    | true =>
      refine iteT ⟨⟨⟨d, env'', is, true, Φ, ok⟩, rfl⟩, B, G, T, F3, S4, fun w z F4 H4 S5 g4 dz φ => ?_⟩
      have Sc4 := Sc3.grow g4 S5.tp
      have gc4 := gc3.trans g4 Sc3.tpn
      have hown : (env ++ [Sl.own ys])[env.length]? = some (.own ys) := by rw [List.getElem?_append_right (Nat.le_refl _)]; simp
      have hval : (σ ++ [some (V.ref Dd)])[env.length]? = some (some (.ref Dd)) := by rw [l1, List.getElem?_append_right (Nat.le_refl _)]; simp
      obtain ⟨o, eo, p, us, e2, b1, f1, np, hp, da⟩ := Sc4.some_at hown
      rw [hval] at eo
      cases eo
      injection e2 with e2
      injection e2 with e2
      subst e2
      refine ⟨us, hp, Nat.lt_of_le_of_lt (Nat.le_trans (Nat.le_of_eq da.length) (Nat.le_trans hy hi)) (Nat.lt_of_le_of_lt hz (by decide)), F4, ys ++ [z], ?_, ⟨gc4.ff, ex_updH gc4.fh f1, fun a o h n => ?_, gc4.nw⟩, kt rfl z φ, by simp; omega⟩
      · have q1 := Sc4.upd_own hown hval (da.append (.cons dz .nil))
        have e3 : (env ++ [Sl.own ys]).set env.length (Sl.own (ys ++ [z])) = env ++ [Sl.own (ys ++ [z])] := by
          rw [List.set_append_right _ _ (Nat.le_refl _)]; simp
        rw [e3] at q1
        exact q1
      · rw [upd_ne (ne_of_none h hD)]; exact gc4.hh a o h n
  · have e : i = items.length := by omega
    subst e
    refine .inl ⟨wk.stop Hc exF, q _ _ Fc Hc Sc (g1.trans gc S1.tpn) (fun _ p e => ?_) ⟨ys, rfl, hI⟩⟩
    injection e with e
    subst e
    cases z : H Dd with
    | none => rfl
    | some o =>
      by_cases np : ∀ t, T = some t → Dd ≠ t.p
      · rw [g1.hh Dd o z np] at hD; cases hD
      · simp only [Classical.not_forall] at np
        obtain ⟨t, e, np⟩ := np
        exact absurd (by rw [← Classical.not_not.mp np]; exact hD) (S1.tpn t e)
theorem lcG_ok {vs : List Nat} (s : Shared) (H : Hp) (C : Addr) (cl : List (Str × Addr)) (fp : List Addr) : PG (X.blk s H scope (compEnvC scope cl C X.env) fp) tg (lcG X.K (Ok := LcOk X scope tg ifs elt env vs) (env := env) (vs := vs)) := PG.ex fun q => q.ok.tgt s H C cl fp
theorem lcT_ok {vs : List Nat} (s : Shared) (H : Hp) (C : Addr) (cl : List (Str × Addr)) (fp : List Addr) : PTs (X.blk s H scope (compEnvC scope cl C X.env) fp) ifs (lcT X.K (Ok := LcOk X scope tg ifs elt env vs)) := PTs.ex fun q => q.ok.tst s H C cl fp
theorem lcE_ok {vs : List Nat} (s : Shared) (H : Hp) (C : Addr) (cl : List (Str × Addr)) (fp : List Addr) : PE (X.blk s H scope (compEnvC scope cl C X.env) fp) elt (lcE X.K (Ok := LcOk X scope tg ifs elt env vs)) := PE.ex fun q => q.1.ok.elm q.2 s H C cl fp
theorem exr_lc (own : List (Str × Nat)) (I : Nat → List D → Prop) (hc : X.calm = true) (hi : IR X tg iter env items) (hz : items.length ≤ 10000000) (h0 : I 0 [])
    (hs : ∀ k d ys, items[k]? = some d → I k ys → ∃ env'' is b Φ, LcOk X scope tg ifs elt env (own.map (·.2)) d env'' is b Φ ∧ (b = false → I (k + 1) ys) ∧ (b = true → ∀ y, Φ y → I (k + 1) (ys ++ [y])))
    (ok : BlkOk X.N X.env.scope scope own := by exact blkOk_by (by kernel_rfl)) (hN : X.N.Nodup := by assumption) (hf : ∀ x, foldedSetIterable iter X.env x = pure x := by intro _; rfl) : EXR X (.ListComp elt [⟨tg, iter, ifs, 0⟩] scope pos) env (fun s => ∃ ys, s = .own ys ∧ I items.length ys) :=
  PE.imp (pe_lc hc hN hi ok lcG_ok lcT_ok lcE_ok hf) fun σ H Q h => lc_read I _ hz h0 (fun ok => ok.sub) hs h
/-- an own list as data -/
theorem EXR.er {e : Expr} {I : List D → Prop} (h : EXR X e env (fun s => ∃ ys, s = .own ys ∧ I ys)) : ER X e env (fun d => ∃ ys, d = .list ys ∧ I ys) := PE.imp h fun σ H Q ⟨B, G, T, F, S, q⟩ => ⟨B, G, T, F, S, fun v s F1 H1 S1 g1 fr ⟨ys, es, hI⟩ => by
  subst es
  have hown : (env ++ [Sl.own ys])[env.length]? = some (.own ys) := by rw [List.getElem?_append_right (Nat.le_refl _)]; simp
  obtain ⟨o, eo, p, us, e2, b1, f1, np, hp, da⟩ := S1.some_at hown
  have hval : (σ ++ [some v])[env.length]? = some (some v) := by rw [S.len, List.getElem?_append_right (Nat.le_refl _)]; simp
  rw [hval] at eo
  cases eo
  injection e2 with e2
  subst e2
  have hH : H p = none := fr rfl p rfl
  have exF : Ex F1 (upd F1 p (.lst us)) := Ex.new f1
  have fh : Ex (upd F1 p (.lst us)) H1 := fun a u z => by
    by_cases ha : a = p
    · subst ha; rw [upd_same] at z; cases z; exact hp
    · rw [upd_ne ha] at z; exact S1.fh a u z
  have g : Gr T F H (upd F1 p (.lst us)) H1 := ⟨g1.ff.trans exF, fh, g1.hh, fun a h n => by rw [upd_ne (fun z => h (by rw [z]; exact hH))]; exact g1.nw a h n⟩
  have S2 : StR X.K B G T F1 env σ H1 := S1.drop S.len
  have S3 : StR X.K B G T (upd F1 p (.lst us)) env σ H1 := S.grow g fun t e => by
    obtain ⟨h1, h2, c, j, h3⟩ := S2.tp t e
    exact ⟨by rw [upd_ne (Ne.symm (np t e))]; exact h1, exF _ _ h2, c, j, h3⟩
  exact q _ _ _ H1 S3 g (.lst upd_same (da.mono exF)) ⟨ys, rfl, hI⟩⟩
theorem EX.ed {e : Expr} {xs : List D} (h : EX X e env (.own xs)) : ED X e env (.list xs) :=
  ((EXR.er (I := fun ys => ys = xs) (PE.imp h fun σ H Q ⟨B, G, T, F, S, q⟩ => ⟨B, G, T, F, S, fun v s F1 H1 S1 g1 fr e => q v s F1 H1 S1 g1 fr ⟨xs, e, rfl⟩⟩)).imp fun d ⟨ys, e1, e2⟩ => by rw [e1, e2])
theorem ex_lc (own : List (Str × Nat)) (g : D → Option D) (hc : X.calm = true) (hi : IR X tg iter env items) (hz : items.length ≤ 10000000)
    (hs : ∀ d, d ∈ items → ∃ env'' is, LcOk X scope tg ifs elt env (own.map (·.2)) d env'' is (g d).isSome (fun y => g d = some y))
    (ok : BlkOk X.N X.env.scope scope own := by exact blkOk_by (by kernel_rfl)) (hN : X.N.Nodup := by assumption) (hf : ∀ x, foldedSetIterable iter X.env x = pure x := by intro _; rfl) : EX X (.ListComp elt [⟨tg, iter, ifs, 0⟩] scope pos) env (.own (items.filterMap g)) := by
  refine PE.imp (exr_lc own (fun k ys => ys = (items.take k).filterMap g) hc hi hz rfl (fun k d ys hk hy => ?_) ok hN hf) fun σ H Q ⟨B, G, T, F, S, q⟩ => ⟨B, G, T, F, S, fun v s F1 H1 S1 g1 fr ⟨ys, e1, e2⟩ => q v s F1 H1 S1 g1 fr (by rw [e1, e2, List.take_length])⟩
  obtain ⟨env'', is, ok⟩ := hs d (List.mem_of_getElem? hk)
  have ht : items.take (k + 1) = items.take k ++ [d] := by
    rw [List.take_add_one, hk]; rfl
  refine ⟨env'', is, _, _, ok, fun e => ?_, fun e y hy' => ?_⟩
  · rw [hy, ht, List.filterMap_append]
    cases q : g d with
    | none => simp [q]
    | some z => rw [q] at e; cases e
  · rw [hy, ht, List.filterMap_append]
    simp [hy']
/-- y = [..] as a statement of its own -/
theorem sds_lc {Φ : Out} {rest : List Stmt} {y : Str} {py spos : Pos} (i : Nat) (own : List (Str × Nat)) (I : Nat → List D → Prop) (hc : X.calm = true) (hi : IR X tg iter env items) (hz : items.length ≤ 10000000) (h0 : I 0 [])
    (hs : ∀ k d ys, items[k]? = some d → I k ys → ∃ env'' is b Φ, LcOk X scope tg ifs elt env (own.map (·.2)) d env'' is b Φ ∧ (b = false → I (k + 1) ys) ∧ (b = true → ∀ y, Φ y → I (k + 1) (ys ++ [y])))
    (hr : ∀ ys, I items.length ys → SDs X rest (env.set i (.own ys)) Φ)
    (ok : BlkOk X.N X.env.scope scope own := by exact blkOk_by (by kernel_rfl)) (hN : X.N.Nodup := by assumption) (hy : X.N[i]? = some y := by rfl) (hyl : X.env.scope.names.lookup y = some .local := by rfl)
    (hsw : swapsWith (.ListComp elt [⟨tg, iter, ifs, 0⟩] scope pos) (some (.Name y py)) spos.line X.env = pure true := by exact sw_true rfl rfl rfl (by kernel_rfl)) (hf : ∀ x, foldedSetIterable iter X.env x = pure x := by intro _; rfl) : SDs X (.Assign [.Name y py] (.ListComp elt [⟨tg, iter, ifs, 0⟩] scope pos) spos :: rest) env Φ :=
  PSs.imp (pss_cons (ps_setLc hc hN hy hyl hsw hi ok lcG_ok lcT_ok lcE_ok hf) (PSs.ex fun d : {d : List D // I items.length d} => hr d.1 d.2)) fun E σ H ⟨B, G, T, F, S, n⟩ =>
    by
      unfold tSeq tAsg
      refine lc_read I _ hz h0 (fun ok => ok.sub) hs ⟨B, G, T, F, S, fun v s F1 H1 S1 g1 fr ⟨ys, e1, e2⟩ => ?_⟩
      subst e1
      exact ⟨⟨ys, e2⟩, B, G, T, F1, S1.put S.len i, n⟩
theorem sds_lcD {Φ : Out} {rest : List Stmt} {y : Str} {py spos : Pos} (i : Nat) (own : List (Str × Nat)) (g : D → Option D) (hc : X.calm = true) (hi : IR X tg iter env items) (hz : items.length ≤ 10000000)
    (hs : ∀ d, d ∈ items → ∃ env'' is, LcOk X scope tg ifs elt env (own.map (·.2)) d env'' is (g d).isSome (fun y => g d = some y))
    (hr : SDs X rest (env.set i (.own (items.filterMap g))) Φ)
    (ok : BlkOk X.N X.env.scope scope own := by exact blkOk_by (by kernel_rfl)) (hN : X.N.Nodup := by assumption) (hy : X.N[i]? = some y := by rfl) (hyl : X.env.scope.names.lookup y = some .local := by rfl)
    (hsw : swapsWith (.ListComp elt [⟨tg, iter, ifs, 0⟩] scope pos) (some (.Name y py)) spos.line X.env = pure true := by exact sw_true rfl rfl rfl (by kernel_rfl)) (hf : ∀ x, foldedSetIterable iter X.env x = pure x := by intro _; rfl) : SDs X (.Assign [.Name y py] (.ListComp elt [⟨tg, iter, ifs, 0⟩] scope pos) spos :: rest) env Φ := by
  refine sds_lc i own (fun k ys => ys = (items.take k).filterMap g) hc hi hz rfl (fun k d ys hk hy => ?_) (fun ys e => by rw [List.take_length] at e; subst e; exact hr) ok hN hy hyl hsw hf
  obtain ⟨env'', is, ok⟩ := hs d (List.mem_of_getElem? hk)
  have ht : items.take (k + 1) = items.take k ++ [d] := by
    rw [List.take_add_one, hk]; rfl
  refine ⟨env'', is, _, _, ok, fun e => ?_, fun e y hy' => ?_⟩
  · rw [hy, ht, List.filterMap_append]
    cases q : g d with
    | none => simp [q]
    | some z => rw [q] at e; cases e
  · rw [hy, ht, List.filterMap_append]
    simp [hy']
end

/-! ### several targets at once: a, b = x, y with plain names -/
def rdXs (K : Fg) (env : List Sl) (ss : List Sl) : TA := fun σ H Q => ∃ B G T F, StR K B G T F env σ H ∧ ∀ vs F' H', vs.length = ss.length → StR K B G T F' (env ++ ss) (σ ++ vs.map some) H' → Gr T F H F' H' → (∀ (i : Nat) (s : Sl) (v : V), ss[i]? = some s → vs[i]? = some v → s.owned = true → ∀ p, v = .ref p → H p = none) → Q vs H'
def EXs (X : Cx) (es : List Expr) (env : List Sl) (ss : List Sl) : Prop := PA X es (rdXs X.K env ss)
theorem exs_nil {X : Cx} {env : List Sl} : EXs X [] env [] := PA.imp pa_nil fun σ H Q ⟨B, G, T, F, S, q⟩ => q [] F H rfl (by simpa using S) (Gr.refl S.fh) fun i s v h => by simp at h
theorem StR.insert {K : Fg} {B G F1 H1 F2 H2 : Hp} {T : Option TP} {env ss : List Sl} {σ : L2.St} {vs : List V} {s : Sl} {v : V} (S1 : StR K B G T F1 (env ++ [s]) (σ ++ [some v]) H1) (S2 : StR K B G T F2 (env ++ ss) (σ ++ vs.map some) H2) (g : Gr T F1 H1 F2 H2) (hl : env.length = σ.length) (hv : vs.length = ss.length)
    (fr : ∀ (i : Nat) (s : Sl) (v : V), ss[i]? = some s → vs[i]? = some v → s.owned = true → ∀ p, v = .ref p → H1 p = none) : StR K B G T F2 (env ++ s :: ss) (σ ++ (v :: vs).map some) H2 where
  gf := S2.gf
  fh := S2.fh
  bh := S2.bh
  nf := S2.nf
  len := by simp [hl, hv]
  sl := fun i t o e1 e2 => by
    have Sg := S1.grow g S2.tp
    by_cases hi : i < env.length
    · rw [List.getElem?_append_left hi] at e1
      rw [List.getElem?_append_left (by rw [← hl]; exact hi)] at e2
      exact Sg.sl i t o (by rw [List.getElem?_append_left hi]; exact e1) (by rw [List.getElem?_append_left (by rw [← hl]; exact hi)]; exact e2)
    · rw [List.getElem?_append_right (by omega)] at e1
      rw [List.getElem?_append_right (by rw [← hl]; omega), ← hl] at e2
      cases q : i - env.length with
      | zero =>
        rw [q] at e1 e2
        simp at e1 e2
        subst e1; subst e2
        exact Sg.sl env.length _ _ (by rw [List.getElem?_append_right (Nat.le_refl _)]; simp) (by rw [hl, List.getElem?_append_right (Nat.le_refl _)]; simp)
      | succ n =>
        rw [q] at e1 e2
        simp only [List.map_cons, List.getElem?_cons_succ] at e1 e2
        exact S2.sl (env.length + n) _ _ (by rw [List.getElem?_append_right (by omega)]; simpa using e1) (by rw [List.getElem?_append_right (by omega), ← hl]; simpa using e2)
  ds := fun i j a b hij e1 e2 o1 o2 => by
    have Sg := S1.grow g S2.tp
    -- kinds of places: env's, the new one, the later ones
    have key : ∀ {k : Nat} {t : Sl}, (env ++ s :: ss)[k]? = some t → t.owned = true → (k < env.length + 1 ∧ (env ++ [s])[k]? = some t ∧ (σ ++ (v :: vs).map some)[k]? = (σ ++ [some v])[k]?) ∨ (∃ n, k = env.length + 1 + n ∧ ss[n]? = some t ∧ (σ ++ (v :: vs).map some)[k]? = (σ ++ vs.map some)[env.length + n]?) := fun {k t} e o => by
      by_cases hk : k < env.length
      · rw [List.getElem?_append_left hk] at e
        exact .inl ⟨by omega, by rw [List.getElem?_append_left hk]; exact e, by rw [List.getElem?_append_left (by rw [← hl]; exact hk), List.getElem?_append_left (by rw [← hl]; exact hk)]⟩
      · rw [List.getElem?_append_right (by omega)] at e
        cases q : k - env.length with
        | zero =>
          rw [q] at e
          refine .inl ⟨by omega, ?_, ?_⟩
          · rw [List.getElem?_append_right (by omega), q]; simpa using e
          · rw [List.getElem?_append_right (by omega), List.getElem?_append_right (by omega), ← hl, q]; simp
        | succ n =>
          rw [q] at e
          refine .inr ⟨n, by omega, by simpa using e, ?_⟩
          rw [List.getElem?_append_right (by omega), List.getElem?_append_right (by omega), ← hl, q]; simp
    have lateV : ∀ {n : Nat} {t : Sl}, ss[n]? = some t → t.owned = true → ∃ p, (σ ++ vs.map some)[env.length + n]? = some (some (.ref p)) ∧ H1 p = none := fun {n t} e o => by
      have hn : n < vs.length := by rw [hv]; exact (List.getElem?_eq_some_iff.mp e).1
      obtain ⟨o1, eo, so⟩ := S2.some_at (i := env.length + n) (s := t) (by rw [List.getElem?_append_right (by omega)]; simpa using e)
      have ev : (σ ++ vs.map some)[env.length + n]? = some (some (vs[n])) := by rw [List.getElem?_append_right (by omega), ← hl]; simp [hn]
      rw [ev] at eo
      cases eo
      have f := fr n t vs[n] e (List.getElem?_eq_getElem hn) o
      cases t with
      | own ys => obtain ⟨p, us, ep, _⟩ := so; injection ep with ep; exact ⟨p, by rw [ev, ep], f p ep⟩
      | owo r0 ys => obtain ⟨ep, _⟩ := so; injection ep with ep; exact ⟨r0, by rw [ev, ep], f r0 ep⟩
      | un => cases o
      | dt _ => cases o
      | ref _ => cases o
      | tape => cases o
    have earlyV : ∀ {k : Nat} {t : Sl}, (env ++ [s])[k]? = some t → t.owned = true → ∃ p, (σ ++ [some v])[k]? = some (some (.ref p)) ∧ H1 p ≠ none := fun {k t} e o => by
      obtain ⟨o1, eo, so⟩ := S1.some_at e
      cases t with
      | own ys => obtain ⟨p, us, ep, _, _, _, hp, _⟩ := so; exact ⟨p, by rw [eo, ep], by rw [hp]; simp⟩
      | owo r0 ys => obtain ⟨ep, _, _, _, hp⟩ := so; exact ⟨r0, by rw [eo, ep], hp.ne⟩
      | un => cases o
      | dt _ => cases o
      | ref _ => cases o
      | tape => cases o
    rcases key e1 o1 with ⟨l1, a1, v1⟩ | ⟨n1, q1, a1, v1⟩ <;> rcases key e2 o2 with ⟨l2, a2, v2⟩ | ⟨n2, q2, a2, v2⟩
    · rw [v1, v2]; exact Sg.ds i j a b hij a1 a2 o1 o2
    · obtain ⟨p1, w1, z1⟩ := earlyV a1 o1
      obtain ⟨p2, w2, z2⟩ := lateV a2 o2
      rw [v1, v2, w1, w2]; intro z; injection z with z; injection z with z; injection z with z; subst z; exact z1 z2
    · obtain ⟨p1, w1, z1⟩ := lateV a1 o1
      obtain ⟨p2, w2, z2⟩ := earlyV a2 o2
      rw [v1, v2, w1, w2]; intro z; injection z with z; injection z with z; injection z with z; subst z; exact z2 z1
    · rw [v1, v2]
      exact S2.ds (env.length + n1) (env.length + n2) a b (by omega) (by rw [List.getElem?_append_right (by omega)]; simpa using a1) (by rw [List.getElem?_append_right (by omega)]; simpa using a2) o1 o2
  tp := S2.tp
theorem fresh_of {T : Option TP} {F H F1 H1 : Hp} (g : Gr T F H F1 H1) (tpn : ∀ t, T = some t → H1 t.p ≠ none) {p : Addr} (h : H1 p = none) : H p = none := by
  cases z : H p with
  | none => rfl
  | some o =>
    by_cases np : ∀ t, T = some t → p ≠ t.p
    · rw [g.hh p o z np] at h; cases h
    · simp only [Classical.not_forall] at np
      obtain ⟨t, e, np⟩ := np
      exact absurd (by rw [← Classical.not_not.mp np]; exact h) (tpn t e)
theorem exs_cons {X : Cx} {e : Expr} {es : List Expr} {env : List Sl} {s : Sl} {ss : List Sl} (h : EX X e env s) (hr : EXs X es env ss) (hs : starEach (e :: es) X.env = (false, eval e X.env) :: starEach es X.env := by rfl) : EXs X (e :: es) env (s :: ss) :=
  PA.imp (pa_cons h hr hs) fun σ H Q ⟨B, G, T, F, S, q⟩ => ⟨B, G, T, F, S, fun v s' F1 H1 S1 g1 fr1 es => by
    subst es
    refine ⟨B, G, T, F1, S1.drop S.len, fun vs F2 H2 hl S2 g2 fr2 => ?_⟩
    refine q (v :: vs) F2 H2 (by simp [hl]) (S1.insert S2 g2 S.len hl fr2) (g1.trans g2 (S1.drop S.len).tpn) fun i t w e1 e2 o p ep => ?_
    cases i with
    | zero => simp at e1 e2; subst e1; subst e2; exact fr1 o p ep
    | succ i => exact fresh_of g1 (S1.drop S.len).tpn (fr2 i t w (by simpa using e1) (by simpa using e2) o p ep)⟩
/-- a, b = x, y -/
theorem sds_par {X : Cx} {x y : Str} {a b : Expr} {env : List Sl} {s t : Sl} {rest : List Stmt} {Φ : Out} {px py pt pos : Pos} {kt k2 : Nat} {pt2 : Pos} (i j : Nat) (hc : X.calm = true) (h : EXs X [a, b] env [s, t]) (hr : SDs X rest ((env.set i s).set j t) Φ) (hN : X.N.Nodup := by assumption) (hi : X.N[i]? = some x := by rfl) (hj : X.N[j]? = some y := by rfl) (hij : i ≠ j := by decide)
    (hx : X.env.scope.names.lookup x = some .local := by rfl) (hy : X.env.scope.names.lookup y = some .local := by rfl) (hw : swappedStores [.Tuple [.Name x px, .Name y py] kt pt] (.Tuple [a, b] k2 pt2) X.env = pure (some [x, y]) := by rfl)
    (hs : swapsWithSole [.Tuple [.Name x px, .Name y py] kt pt] (.Tuple [a, b] k2 pt2) pos.line X.env = pure false := by rfl) : SDs X (.Assign [.Tuple [.Name x px, .Name y py] kt pt] (.Tuple [a, b] k2 pt2) pos :: rest) env Φ :=
  PSs.imp (pss_cons (ps_par hc hN hi hj hij hx hy h hw hs) hr) fun E σ H ⟨B, G, T, F, S, n⟩ => ⟨B, G, T, F, S, fun vs F1 H1 hl S1 g1 fr => by
    cases vs with
    | nil => simp at hl
    | cons v vs =>
      cases vs with
      | nil => simp at hl
      | cons w vs =>
        cases vs with
        | cons _ _ => simp at hl
        | nil =>
          refine ⟨v, w, rfl, B, G, T, F1, ?_, n⟩
          have q1 := S1.move (i := i) (k := 0) S.len rfl rfl
          have q2 := q1.move (i := j) (k := 1) (by simpa using S.len) rfl rfl
          exact q2.drop (by simpa using S.len)⟩
end DL

namespace DL
open PySem PySem.Spec PyProof.Rows L2 RZ
section
variable {X : Cx} {e a b c : Expr} {es : List Expr} {env : List Sl} {Φ : Out} {x : Str} {pos p pos' : Pos} {j : Nat} {rest thn els : List Stmt}
theorem ifI {k : Bool} {x y : Int} : (bif k then PyData.int x else .int y) = .int (bif k then x else y) := by cases k <;> rfl
theorem ifB {k : Bool} {x y : Bool} : (bif k then PyData.bool x else .bool y) = .bool (bif k then x else y) := by cases k <;> rfl
theorem ifS {k : Bool} {x y : Str} : (bif k then PyData.str x else .str y) = .str (bif k then x else y) := by cases k <;> rfl
theorem ed_ifG {k : Bool} {x y z : D} (hc : TD X c env k) (ha : k = true → ED X a env x) (hb : k = false → ED X b env y) (h : (bif k then x else y) = z) : ED X (.IfExp c a b pos) env z := (ed_if hc ha hb).is h
/-- an int's name stands for what was reckoned -/
theorem sds_setI (i : Nat) {v : Int} (h : ED X e env (.int v)) (hr : ∀ z : Int, z = v → SDs X rest (env.set i (.dt (.int z))) Φ) (hN : X.N.Nodup := by assumption) (hi : X.N[i]? = some x := by rfl) (hx : Loc X.env.scope x := by first | exact .inl rfl | exact .inr rfl)
    (hs : swapsWith e (some (.Name x pos')) pos.line X.env = pure false := by rfl) (hf : X.fn x = true ∨ X.env.scope.names.lookup x = some .local := by first | exact .inl rfl | exact .inr rfl | assumption) : SDs X (.Assign [.Name x pos'] e pos :: rest) env Φ := sds_set i h.ex (hr v rfl) hN hi hx hs hf
theorem sds_setD (i : Nat) {d : D} (h : ED X e env d) (hr : SDs X rest (env.set i (.dt d)) Φ) (hN : X.N.Nodup := by assumption) (hi : X.N[i]? = some x := by rfl) (hx : Loc X.env.scope x := by first | exact .inl rfl | exact .inr rfl)
    (hs : swapsWith e (some (.Name x pos')) pos.line X.env = pure false := by rfl) (hf : X.fn x = true ∨ X.env.scope.names.lookup x = some .local := by first | exact .inl rfl | exact .inr rfl | assumption) : SDs X (.Assign [.Name x pos'] e pos :: rest) env Φ := sds_set i h.ex hr hN hi hx hs hf
theorem lenD_eq {xs : List D} {n : Nat} (h : xs.length = n) : PyData.int (xs.length : Nat) = .int (n : Nat) := by rw [h]
end
theorem kn_of {P : Program} {w : World} {K : Fg} {mg : Str → Option Value} {base : Heap} {k : Nat} {x qual : Str} {params : Arguments} {body : List Stmt} {scope : Scope} {f : Addr} {fd : FuncData} {ps : List Str} {sp : Sp} (F : FunD K x qual params body scope [] [] f fd)
    (h : FnOk P w K mg base CX0 k f fd ps sp) (hb : ∀ (kV doc pm : Value) (an : Option Addr) (cdv ct : Value) (us : List Value), us.length = ps.length → bindArgs (PySem.W.fnOf x qual params body scope .none kV doc pm an cdv ct) ⟨us, []⟩ = pure (ps.zip us)) (hm : mg x = some (.ref f)) : Kn P w K mg base k x sp :=
  ⟨f, fd, ps, h, F.kp, FunD.bindsN F hb, hm⟩
section
variable {X : Cx} {c : Expr} {env : List Sl} {Φ : Out} {pos : Pos} {rest thn els : List Stmt}
/-- a test known to fail: its block is passed over -/
theorem sds_ifF {k : Bool} (hc : TD X c env k) (hk : k = false) (h2 : SDs X rest env Φ) : SDs X (.If c thn [] pos :: rest) env Φ := by
  subst hk
  exact sds_if1 hc (fun z => by cases z) fun _ => h2
/-- a test known to fail, with an else -/
theorem sds_ifE {k : Bool} (J : List Sl → Prop) (hc : TD X c env k) (hk : k = false) (h2 : SDs X els env { Φ with nx := J }) (hr : ∀ env', J env' → SDs X rest env' Φ) : SDs X (.If c thn els pos :: rest) env Φ := by
  subst hk
  exact sds_if J hc (fun z => by cases z) (fun _ => h2) hr
/-- a test known to hold -/
theorem sds_ifT {k : Bool} (J : List Sl → Prop) (hc : TD X c env k) (hk : k = true) (h1 : SDs X thn env { Φ with nx := J }) (hr : ∀ env', J env' → SDs X rest env' Φ) : SDs X (.If c thn els pos :: rest) env Φ := by
  subst hk
  exact sds_if J hc (fun _ => h1) (fun z => by cases z) hr
end
end DL

namespace DL
open PySem PySem.Spec PyProof.Rows L2 RZ
/-! ### isinstance -/
def tyD : D → String
  | .none => "NoneType"
  | .bool _ => "bool"
  | .int _ => "int"
  | .str _ => "str"
  | .list _ => "list"
  | .tuple _ => "tuple"
  | .dict _ => "dict"
def isDs (ty T : String) : Bool := decide (ty = T) || (decide (ty = "bool") && decide (T = "int"))
abbrev isD (d : D) (T : String) : Bool := isDs (tyD d) T
def okT (T : String) : Bool := decide (T = "int") || decide (T = "bool") || decide (T = "str") || decide (T = "list") || decide (T = "tuple")
theorem kit_all : ∀ ty ∈ ["NoneType", "bool", "int", "str", "list", "tuple", "dict"], ∀ T ∈ ["int", "bool", "str", "list", "tuple"], kitB ty T = some (isDs ty T) := by decide +kernel
/-- what a value's type says to isinstance with a built-in class -/
theorem Dn.tyk {K : Fg} {F : Hp} {v : V} {d : D} (h : Dn K F v d) : ∃ t, TyX K F v t ∧ ∀ T, okT T = true → PySem.W.kitOne K t (.type T) = some (isD d T) := by
  have mem : ∀ {T : String}, okT T = true → T ∈ ["int", "bool", "str", "list", "tuple"] := fun {T} h => by
    simp only [okT, Bool.or_eq_true, decide_eq_true_eq] at h
    rcases h with (((h | h) | h) | h) | h <;> subst h <;> simp
  have plain : ∀ {ty : String}, ty ∈ ["NoneType", "bool", "int", "str", "list", "tuple", "dict"] → ∀ T, okT T = true → PySem.W.kitOne K (.type ty) (.type T) = some (isDs ty T) := fun hm T ok => kit_ty (kit_all _ hm _ (mem ok))
  cases h with
  | non => exact ⟨_, .base .non, plain (by simp)⟩
  | bl b => exact ⟨_, .base (.bl b), plain (by simp)⟩
  | int i => exact ⟨_, .base (.int i), plain (by simp)⟩
  | str x => exact ⟨_, .base (.str x), plain (by simp)⟩
  | lst h _ => exact ⟨_, .base (.lst h), plain (by simp)⟩
  | tup h _ =>
    rcases h with (h | ⟨o, h⟩) | ⟨o, its, n, hk, hc, _⟩
    · exact ⟨_, .base (.tup h), plain (by simp)⟩
    · exact ⟨_, .fTuple h, plain (by simp)⟩
    · exact ⟨_, .kTuple hk hc, plain (by simp)⟩
  | obj h _ c _ =>
    refine ⟨_, .base (.ins h c.ic.cl c.ic.ha c.ic.hn c.ic.htk c.ic.hm), fun T ok => ?_⟩
    rw [c.no T (mem ok)]
    have := mem ok
    simp only [List.mem_cons, List.not_mem_nil, or_false] at this
    rcases this with rfl | rfl | rfl | rfl | rfl <;> rfl
section
variable {X : Cx} {e : Expr} {env : List Sl} {pos p p2 p3 tpos : Pos}
theorem ed_isi {d : D} {T : String} {t : Str} (h : ED X e env d) (hm : X.mg "isinstance" = none) (hmT : X.mg t = none) (hT : bootBuiltins t = some (.type T)) (ok : okT T = true := by decide) (hg : Gl X "isinstance" := by rfl) (hgT : Gl X t := by rfl)
    (hnT : t ≠ "__name__" := by decide) (hdT : (t == ("__debug__" : Str)) = false := by decide) (hs1 : starEach [e, .Name t p2] X.env = (false, eval e X.env) :: starEach [.Name t p2] X.env := by rfl) (hs2 : starEach [.Name t p2] X.env = (false, eval (.Name t p2) X.env) :: starEach [] X.env := by rfl)
    (hpl : (backTo pos (starEach [.Name t p2] X.env)).any (·.1) = false := by rfl) : ED X (.Call (.Name "isinstance" p) [e, .Name t p2] [] pos) env (.bool (isD d T)) :=
  PE.imp (pe_callB call_isi hg hm (by decide +kernel) (pa_cons h (pa_cons (pe_bltn (v := .ty T) hgT hmT hT rfl hnT hdT) pa_nil hs2) hs1) (by decide) (by decide) hs1 hpl) fun σ H Q ⟨B, G, T0, F, S, q⟩ => ⟨B, G, T0, F, S, fun v d' F1 H1 S1 g1 dn e => by
    subst e
    obtain ⟨t, ty, kt⟩ := (dn.mono S1.fh).tyk
    exact ⟨v, .ty T, _, _, _, rfl, .ty T, ty, kt T ok, q _ _ F1 H1 S1 g1 (.bl _) rfl⟩⟩
theorem ed_isi2 {d : D} {T U : String} {t u : Str} {kk : Nat} (h : ED X e env d) (hm : X.mg "isinstance" = none) (hmT : X.mg t = none) (hmU : X.mg u = none) (hT : bootBuiltins t = some (.type T)) (hU : bootBuiltins u = some (.type U)) (ok : okT T = true := by decide) (ok2 : okT U = true := by decide)
    (hg : Gl X "isinstance" := by rfl) (hgT : Gl X t := by rfl) (hgU : Gl X u := by rfl)
    (hnT : t ≠ "__name__" := by decide) (hdT : (t == ("__debug__" : Str)) = false := by decide) (hnU : u ≠ "__name__" := by decide) (hdU : (u == ("__debug__" : Str)) = false := by decide)
    (hs1 : starEach [e, .Tuple [.Name t p2, .Name u p3] kk tpos] X.env = (false, eval e X.env) :: starEach [.Tuple [.Name t p2, .Name u p3] kk tpos] X.env := by rfl)
    (hs2 : starEach [.Tuple [.Name t p2, .Name u p3] kk tpos] X.env = (false, eval (.Tuple [.Name t p2, .Name u p3] kk tpos) X.env) :: starEach [] X.env := by rfl)
    (hs3 : starEach [.Name t p2, .Name u p3] X.env = (false, eval (.Name t p2) X.env) :: starEach [.Name u p3] X.env := by rfl) (hs4 : starEach [.Name u p3] X.env = (false, eval (.Name u p3) X.env) :: starEach [] X.env := by rfl)
    (hpl : (backTo pos (starEach [.Tuple [.Name t p2, .Name u p3] kk tpos] X.env)).any (·.1) = false := by rfl) : ED X (.Call (.Name "isinstance" p) [e, .Tuple [.Name t p2, .Name u p3] kk tpos] [] pos) env (.bool (isD d T || isD d U)) :=
  PE.imp (pe_callB call_isiT hg hm (by decide +kernel) (pa_cons h (pa_cons (pe_tup (pa_cons (pe_bltn (v := .ty T) hgT hmT hT rfl hnT hdT) (pa_cons (pe_bltn (v := .ty U) hgU hmU hU rfl hnU hdU) pa_nil hs4) hs3)) pa_nil hs2) hs1) (by decide) (by decide) hs1 hpl) fun σ H Q ⟨B, G, T0, F, S, q⟩ => ⟨B, G, T0, F, S, fun v d' F1 H1 S1 g1 dn e => by
    subst e
    refine ⟨by show 2 ≤ sizeLine; decide, fun tp hp => ?_⟩
    obtain ⟨S2, g2⟩ := S1.lay (o := .tup [.ty T, .ty U]) hp
    obtain ⟨t, ty, kt⟩ := ((dn.mono g2.ff).mono S2.fh).tyk
    refine ⟨v, tp, _, _, [.type T, .type U], _, rfl, upd_same, .cons (.ty T) (.cons (.ty U) .nil), ty, ?_, q _ _ _ _ S2 (g1.trans g2 S1.tpn) (.bl _) rfl⟩
    have a := kt T ok
    have b := kt U ok2
    refine kitAny_cons a (fun e => kitAny_cons b (fun e2 => ?_) fun e2 => ?_) fun e => ?_
    · rw [e, e2]; rfl
    · rw [e, e2]; rfl
    · rw [e]; rfl⟩
end
/-! ### in, not in of plain items -/
def flatD : D → Bool
  | .none => true
  | .bool _ => true
  | .int _ => true
  | .str _ => true
  | _ => false
theorem Dn.flat {K : Fg} {F : Hp} {v : V} {d : D} (h : Dn K F v d) (f : flatD d = true) : flatV v = true := by
  cases h with
  | lst _ _ => cases f
  | tup _ _ => cases f
  | obj _ _ _ _ => cases f
  | _ => rfl
theorem eqV_D {K : Fg} {F F' : Hp} {v u : V} {d e : D} (h : Dn K F v d) (k : Dn K F' u e) (f : flatD d = true) (g : flatD e = true) : eqV v u = PyData.eqv d e := by
  cases h <;> cases k <;> first | rfl | (cases f; done) | (cases g; done) | simp [eqV, PyData.eqv]
theorem DnA.flat {K : Fg} {F : Hp} : ∀ {vs : List V} {ds : List D}, DnA K F vs ds → ds.all flatD = true → vs.all flatV = true
  | _, _, .nil, _ => rfl
  | _, _, .cons h t, f => by
    simp only [List.all_cons, Bool.and_eq_true] at f ⊢
    exact ⟨h.flat f.1, t.flat f.2⟩
theorem DnA.inV {K : Fg} {F F' : Hp} {v : V} {d : D} (h : Dn K F' v d) (f : flatD d = true) : ∀ {vs : List V} {ds : List D}, DnA K F vs ds → ds.all flatD = true → L2.inV v vs = ds.any fun y => PyData.eqv y d
  | _, _, .nil, _ => rfl
  | _, _, .cons k t, g => by
    simp only [List.all_cons, Bool.and_eq_true] at g
    have := t.inV h f g.2
    unfold L2.inV at this ⊢
    rw [List.any_cons, List.any_cons, this, eqV_D k h g.1 f]
section
variable {X : Cx}
theorem o_inT {x : D} {ys : List D} (f : flatD x = true) (g : ys.all flatD = true) : OpD X (compareOp .In) x (.tuple ys) (fun d => d = .bool (ys.any fun y => PyData.eqv y x)) :=
  ⟨_, op_in_seq, fun B G T F env σ H v u Q S hv hu q => by
    cases hu with | tup h d =>
    exact ⟨_, _, rfl, .inr (ex_t S.fh h), hv.flat f, d.flat g, by rw [d.inV hv f g]; exact q _ _ F H S (Gr.refl S.fh) (.bl _) rfl⟩⟩
theorem o_notInT {x : D} {ys : List D} (f : flatD x = true) (g : ys.all flatD = true) : OpD X (compareOp .NotIn) x (.tuple ys) (fun d => d = .bool (!ys.any fun y => PyData.eqv y x)) :=
  ⟨_, op_notIn_seq, fun B G T F env σ H v u Q S hv hu q => by
    cases hu with | tup h d =>
    exact ⟨_, _, rfl, .inr (ex_t S.fh h), hv.flat f, d.flat g, by rw [d.inV hv f g]; exact q _ _ F H S (Gr.refl S.fh) (.bl _) rfl⟩⟩
theorem o_inL {x : D} {ys : List D} (f : flatD x = true) (g : ys.all flatD = true) : OpD X (compareOp .In) x (.list ys) (fun d => d = .bool (ys.any fun y => PyData.eqv y x)) :=
  ⟨_, op_in_seq, fun B G T F env σ H v u Q S hv hu q => by
    cases hu with | lst h d =>
    exact ⟨_, _, rfl, .inl (SqL.of (S.fh _ _ h)), hv.flat f, d.flat g, by rw [d.inV hv f g]; exact q _ _ F H S (Gr.refl S.fh) (.bl _) rfl⟩⟩
theorem o_notInL {x : D} {ys : List D} (f : flatD x = true) (g : ys.all flatD = true) : OpD X (compareOp .NotIn) x (.list ys) (fun d => d = .bool (!ys.any fun y => PyData.eqv y x)) :=
  ⟨_, op_notIn_seq, fun B G T F env σ H v u Q S hv hu q => by
    cases hu with | lst h d =>
    exact ⟨_, _, rfl, .inl (SqL.of (S.fh _ _ h)), hv.flat f, d.flat g, by rw [d.inV hv f g]; exact q _ _ F H S (Gr.refl S.fh) (.bl _) rfl⟩⟩
/-! ### slices of tuples -/
theorem s_tup {xs : List D} {lo hi : Option Int} : SlD X (.tuple xs) lo hi (fun d => d = .tuple (cutD xs lo hi)) :=
  ⟨_, sl_tupA, fun B G T F env σ H v Q S hv q => by
    cases hv with | tup h1 d1 =>
    refine ⟨_, _, rfl, ex_t S.fh h1, fun e => ?_, fun _ p hp => ?_⟩
    · refine q _ _ F H S (Gr.refl S.fh) (.tup h1 d1) ?_
      rw [d1.length] at e
      unfold cutD
      rw [e.1, e.2, List.drop_zero, Nat.sub_zero, List.take_length]
    · obtain ⟨S', g⟩ := S.lay (o := .tup _) hp
      exact q _ _ _ _ S' g (.tup (.inl (.inl upd_same)) (d1.cut.mono g.ff)) rfl⟩
/-! ### constants of the module -/
def Gc (K : Fg) (mg : Str → Option Value) (x : Str) (d : D) : Prop := ∃ u v, mg x = some u ∧ RelV v u ∧ ∀ F, Dn K F v d
theorem ed_gc {x : Str} {env : List Sl} {pos : Pos} {d : D} (h : Gc X.K X.mg x d) (hg : Gl X x := by rfl) (hdb : (x == ("__debug__" : Str)) = false := by decide) : ED X (.Name x pos) env d := by
  obtain ⟨u, v, h1, h2, h3⟩ := h
  exact ed_glob h1 h2 h3 hg hdb
end
end DL

namespace PySem
section
variable {prog : Program} {w : World} {A : Around} {E : Value → Shared → Prop} {s : Shared} {l : Addr} {xs : Array (Int × Tok)}
theorem sum_intTup {Q : Value → Shared → Prop} (hh : A.handled = none) (hl : s.heap.IsTuple l (intItems xs))
    (h : ∀ h' tk t', (∀ b o, s.heap.get? b = some o → h'.get? b = some o) → Q (.int (preSum (numAt xs) xs.size) t') { s with heap := h', toks := tk }) :
    wpAny (model prog w) A (call (.builtin "sum") [.ref l]) Q E s := by
  have hlt : l < s.heap.objs.size := by obtain ⟨_, e, _⟩ := hl; exact Heap.lt_size e
  refine call_sum_walkG (wpAny_pyIter_tuple hl ?_)
  refine ⟨_, _, _, _, _, _, numAt xs, rfl, Walks.tuple (A := A.in1) hh _ l (Nat.ne_of_lt hlt) (intItems xs), ⟨⟨_, Heap.get?_push_size _ rfl, rfl, rfl⟩, hl.push _⟩, fun c hc => ?_, (fun _ _ => intItems_at), fun h' tk t' hk => ?_⟩
  · show c < (s.heap.push _).objs.size
    rw [Heap.size_push]
    rcases List.mem_cons.mp hc with rfl | hc
    · exact Nat.lt_succ_self _
    · rcases List.mem_cons.mp hc with rfl | hc
      · exact Nat.lt_succ_of_lt hlt
      · cases hc
  · have := h h' tk t' fun b o e => hk b o (fun hm => by
      rcases List.mem_cons.mp hm with e1 | hm
      · rw [e1] at e; exact absurd (Heap.lt_size e) (Nat.lt_irrefl _)
      · cases hm) (Heap.get?_push_of_some _ e)
    simpa [intItems] using this
end
end PySem
namespace DL
open PySem PySem.Spec PyProof.Rows L2 RZ
section
variable {X : Cx}
def rSumT (K : Fg) : List V → Hp → VK → Prop := fun vs H Q => ∃ (a : Addr) (ns : List Int), vs = [V.ref a] ∧ SqT K H a (ns.map V.int) ∧ Q (.int ns.sum) H
theorem cr_sumT (hc : X.calm = true) : CallR X (.builtin "sum") (rSumT X.K) := by
  intro pins s σ H vs us Q I r h
  obtain ⟨a, ns, rfl, hs, q⟩ := h
  obtain ⟨its, rv, hl, _⟩ := I.tuple hs
  rw [Vals.ref1 r]
  obtain ⟨xs, e⟩ := rv.ints.allInts.items
  have hn : numsOf (intItems xs).toList = ns := by rw [← e]; exact rv.ints.numsOf
  rw [nums_intItems] at hn
  have hl' : s.heap.IsTuple a its.toArray := hl
  rw [e] at hl'
  refine PySem.sum_intTup (I.ok.hd hc) hl' fun h' tk t' hk => ?_
  rw [preSum_eq, List.take_of_length_le (by simp), hn]
  exact ⟨.int _, H, I.kept hk, ⟨_, rfl⟩, q⟩
theorem c_sumT (hc : X.calm = true) {ns : List Int} : CaD X (.builtin "sum") [.tuple (ns.map PyData.int)] (fun z => z = .int ns.sum) := cad_pure (cr_sumT hc) fun F H vs Q e h q => by
  cases h with | cons h t => cases t; cases h with | tup h d => exact ⟨_, ns, rfl, by rw [← d.ints]; exact ex_t e h, q _ (.int _)⟩
end
end DL

namespace DL
open PySem PySem.Spec PyProof.Rows L2 RZ

/-! ### constants of the module, read off the written part -/
mutual
def vB (K : Fg) : D → Value → Bool
  | .none, .none => true
  | .bool b, .bool c => b == c
  | .int i, .int j _ => decide (i = j)
  | .str x, .str y _ => decide (x = y)
  | .tuple ds, .ref a => (match K.lookup a with
    | some ⟨.type c, _, .seq its _, _⟩ => decide (c = "tuple") && (decide (its.size ≤ sizeLine) && vBs K ds its.toList)
    | _ => false)
  | _, _ => false
def vBs (K : Fg) : List D → List Value → Bool
  | [], [] => true
  | d :: ds, u :: us => vB K d u && vBs K ds us
  | _, _ => false
end
mutual
theorem vB_ok {K : Fg} : ∀ {d : D} {u : Value}, vB K d u = true → ∃ v, RelV v u ∧ ∀ F, Dn K F v d
  | .none, .none, _ => ⟨.non, rfl, fun _ => .non⟩
  | .bool b, .bool c, h => by
    have e : b = c := by simpa [vB] using h
    subst e; exact ⟨.bl b, rfl, fun _ => .bl b⟩
  | .int i, .int j t, h => by
    have e : i = j := by simpa [vB] using h
    subst e; exact ⟨.int i, ⟨t, rfl⟩, fun _ => .int i⟩
  | .str x, .str y t, h => by
    have e : x = y := by simpa [vB] using h
    subst e; exact ⟨.str x, ⟨t, rfl⟩, fun _ => .str x⟩
  | .tuple ds, .ref a, h => by
    unfold vB at h
    cases q : K.lookup a with
    | none => rw [q] at h; cases h
    | some o =>
      obtain ⟨oc, od, dt, osl⟩ := o
      rw [q] at h
      cases oc with
      | type c =>
        cases dt with
        | seq its n =>
          have h : (decide (c = "tuple") && (decide (its.size ≤ sizeLine) && vBs K ds its.toList)) = true := h
          simp only [Bool.and_eq_true, decide_eq_true_eq] at h
          obtain ⟨h1, h2, h3⟩ := h
          obtain ⟨vs, r, dn⟩ := vBs_ok h3
          exact ⟨.ref a, rfl, fun F => .tup (.inr ⟨_, its, n, q, by rw [h1], rfl, h2, r⟩) (dn F)⟩
        | _ => cases h
      | _ => cases dt <;> cases h
  | .none, .bool _, h | .none, .int _ _, h | .none, .str _ _, h | .none, .ref _, h => by simp [vB] at h
  | .none, .bytes _ _, h | .none, .float _ _, h | .none, .type _, h | .none, .builtin _, h => by simp [vB] at h
  | .bool _, .none, h | .bool _, .int _ _, h | .bool _, .str _ _, h | .bool _, .ref _, h => by simp [vB] at h
  | .bool _, .bytes _ _, h | .bool _, .float _ _, h | .bool _, .type _, h | .bool _, .builtin _, h => by simp [vB] at h
  | .int _, .none, h | .int _, .bool _, h | .int _, .str _ _, h | .int _, .ref _, h => by simp [vB] at h
  | .int _, .bytes _ _, h | .int _, .float _ _, h | .int _, .type _, h | .int _, .builtin _, h => by simp [vB] at h
  | .str _, .none, h | .str _, .bool _, h | .str _, .int _ _, h | .str _, .ref _, h => by simp [vB] at h
  | .str _, .bytes _ _, h | .str _, .float _ _, h | .str _, .type _, h | .str _, .builtin _, h => by simp [vB] at h
  | .tuple _, .none, h | .tuple _, .bool _, h | .tuple _, .str _ _, h | .tuple _, .int _ _, h => by simp [vB] at h
  | .tuple _, .bytes _ _, h | .tuple _, .float _ _, h | .tuple _, .type _, h | .tuple _, .builtin _, h => by simp [vB] at h
  | .list _, u, h => by cases u <;> simp [vB] at h
  | .dict _, u, h => by cases u <;> simp [vB] at h
theorem vBs_ok {K : Fg} : ∀ {ds : List D} {us : List Value}, vBs K ds us = true → ∃ vs, Vals vs us ∧ ∀ F, DnA K F vs ds
  | [], [], _ => ⟨[], .nil, fun _ => .nil⟩
  | d :: ds, u :: us, h => by
    simp only [vBs, Bool.and_eq_true] at h
    obtain ⟨v, r, dn⟩ := vB_ok h.1
    obtain ⟨vs, rs, dns⟩ := vBs_ok h.2
    exact ⟨v :: vs, .cons r rs, fun F => .cons (dn F) (dns F)⟩
  | [], _ :: _, h => by simp [vBs] at h
  | _ :: _, [], h => by simp [vBs] at h
end
/-- the module's name x holds the data d -/
def gB (K : Fg) (x : Str) (d : D) : Bool := match PySem.W.nsIn K mainGlobals x with
  | some (some u) => vB K d u
  | _ => false
theorem gB_ok {K : Fg} {h : Heap} {mg : Str → Option Value} {x : Str} {d : D} (X : K.In h) (G : h.Ns mainGlobals mg) (c : gB K x d = true) : Gc K mg x d := by
  unfold gB at c
  cases e : PySem.W.nsIn K mainGlobals x with
  | none => rw [e] at c; cases c
  | some o =>
    rw [e] at c
    cases o with
    | none => cases c
    | some u =>
      obtain ⟨v, r, dn⟩ := vB_ok c
      exact ⟨u, v, PySem.W.mg_of X G e, r, dn⟩

/-! ### the head's facts: HeadHook2's, and one more Bool -/
abbrev AlY : Type := He.AlD × Bool
def obsYG (n : Nat) (fa : List He.Fa) (fn : List He.DefD) (ex : Fg → Bool) (g : Addr → Option Obj) : AlY := (He.obsD fa fn (He.frG g (He.asD g n)), ex (He.frG g (He.asD g n)))
def SaysY (fa : List He.Fa) (fn : List He.DefD) (ex : Fg → Bool) (K : Fg) : Prop := He.SaysD fa fn K ∧ ex K = true
def hookY (n : Nat) (fa : List He.Fa) (fn : List He.DefD) (ex : Fg → Bool) : PySem.W.Hook where
  α := AlY
  obs := fun s => obsYG n fa fn ex s.heap.get?
  val := fun _ => (He.valD fn, true)
  says := fun _ h => ∃ K : Fg, K.In h ∧ SaysY fa fn ex K
  of := fun _ _ e => ⟨_, He.frG_in, (Prod.mk.inj e).1, (Prod.mk.inj e).2⟩
  keeps := fun _ _ _ ⟨K, hK, c⟩ k => ⟨K, PySem.W.Frag.In.keeps hK k, c⟩
theorem obsYG_eq {n : Nat} {fa : List He.Fa} {fn : List He.DefD} {ex : Fg → Bool} {g : Addr → Option Obj} {s : Shared} (h : ∀ a, g a = s.heap.get? a) : obsYG n fa fn ex g = (hookY n fa fn ex).obs s := by
  have e : g = s.heap.get? := funext h
  rw [e] <;> rfl

/-! ### the law's own start: tape = [list(script), 0, 0] -/
def spLaw (K : Fg) : Sp := fun vs H Q _ => ∃ (a : Addr) (ns : List Int), vs = [.ref a] ∧ SqL K H a (ns.map V.int) ∧ ns.length ≤ 63 ∧ ∀ H', Q (.bl true) H'
/-- the entry of the law -/
def rdLaw (K : Fg) (N : List Str) : TS := fun E σ H => ∃ (a : Addr) (ns : List Int), σ = L2.start N [.ref a] ∧ SqL K H a (ns.map V.int) ∧ ns.length ≤ 63 ∧ ∀ v H', v = .bl true → E.rt v H'
theorem sds_law0 {X : Cx} {sc tp li : Str} {py p1 p2 p3 p4 pos p5 p6 : Pos} {j5 j6 : Nat} {rest : List Stmt} {env : List Sl} {N : List Str} (hr : SDs X rest env { nx := fun _ => False, rt := fun d => d = .bool true }) (hm : X.mg li = none) (hli : li = "list") (he : env = .un :: .tape :: List.replicate (N.length - 2) .un) (hN2 : 2 ≤ N.length) (hN : X.N.Nodup := by assumption) (hNe : X.N = N := by rfl)
    (h0 : X.N[0]? = some sc := by rfl) (hv0 : Vis X.env.scope sc := by first | exact Or.inl rfl | exact Or.inr (Or.inl rfl) | exact Or.inr (Or.inr rfl)) (hi : X.N[1]? = some tp := by rfl) (hx : Loc X.env.scope tp := by first | exact .inl rfl | exact .inr rfl)
    (hs : swapsWith (.List [.Call (.Name li p1) [.Name sc p2] [] p3, .Constant (.int 0) j5 p5, .Constant (.int 0) j6 p6] p4) (some (.Name tp py)) pos.line X.env = pure false := by rfl) (hf : X.fn tp = true ∨ X.env.scope.names.lookup tp = some .local := by first | exact .inl rfl | exact .inr rfl | assumption)
    (hg : Gl X li := by rfl) (hd : (sc == ("__debug__" : Str)) = false := by decide) (hcd : (sc == ("__classdict__" : Str)) = false := by decide)
    (s1 : starEach [.Name sc p2] X.env = (false, eval (.Name sc p2) X.env) :: starEach [] X.env := by rfl) (hpl : (backTo p3 (starEach [] X.env)).any (·.1) = false := by rfl)
    (s2 : starEach [.Call (.Name li p1) [.Name sc p2] [] p3, .Constant (.int 0) j5 p5, .Constant (.int 0) j6 p6] X.env = (false, eval (.Call (.Name li p1) [.Name sc p2] [] p3) X.env) :: starEach [.Constant (.int 0) j5 p5, .Constant (.int 0) j6 p6] X.env := by rfl)
    (s3 : starEach [.Constant (.int 0) j5 p5, .Constant (.int 0) j6 p6] X.env = (false, eval (.Constant (.int 0) j5 p5) X.env) :: starEach [.Constant (.int 0) j6 p6] X.env := by rfl) (s4 : starEach [.Constant (.int 0) j6 p6] X.env = (false, eval (.Constant (.int 0) j6 p6) X.env) :: starEach [] X.env := by rfl) :
    PSs X (.Assign [.Name tp py] (.List [.Call (.Name li p1) [.Name sc p2] [] p3, .Constant (.int 0) j5 p5, .Constant (.int 0) j6 p6] p4) pos :: rest) (rdLaw X.K N) := by
  subst hli
  refine PSs.imp (pss_cons (ps_set hN hi hx (pe_lst (pa_cons (pe_callTy call_list_of hg hm boot_list (pa_cons (pv 0 h0 hv0 hd hcd) pa_nil s1) (by decide) (by decide) s1 hpl) (pa_cons pe_int (pa_cons pe_int pa_nil s4) s3) s2)) hs hf) hr) fun E σ H ⟨a, ns, eσ, hS, hlen, hE⟩ => ?_
  subst eσ
  refine ⟨.ref a, ?_, a, _, rfl, .inl hS, fun l hl => ⟨by show 3 ≤ sizeLine; decide, fun p hp => ?_⟩⟩
  · unfold L2.start; simp
  have nlp : l ≠ p := ne_of_none upd_same hp
  let F : Hp := fun b => if b = l then some (.lst (ns.map V.int)) else none
  have Fl : F l = some (.lst (ns.map V.int)) := if_pos rfl
  have Fo : ∀ b o, F b = some o → b = l ∧ o = .lst (ns.map V.int) := fun b o e => by
    by_cases hb : b = l
    · subst hb; rw [Fl] at e; cases e; exact ⟨rfl, rfl⟩
    · simp only [F, if_neg hb] at e; cases e
  have Fp : F p = none := if_neg (Ne.symm nlp)
  have Hp : upd (upd H l (.lst (ns.map V.int))) p (.lst [.ref l, .int 0, .int 0]) p = some (.lst [.ref l, .int 0, .int 0]) := upd_same
  refine ⟨upd (upd H l (.lst (ns.map V.int))) p (.lst [.ref l, .int 0, .int 0]), F, some ⟨p, l, ns⟩, F, ⟨Ex.refl F, fun b o e => ?_, fun _ _ h _ => h, fun _ _ h => h, ?_, fun i s o e1 e2 => ?_, fun i j s s' hij e1 e2 o1 o2 => ?_, fun t e => ?_⟩, ?_, ?_, ?_, ?_⟩
  · obtain ⟨rfl, rfl⟩ := Fo b o e
    rw [upd_ne nlp]; exact upd_same
  · subst he
    unfold L2.start
    simp; omega
  · subst he
    cases i with
    | zero => simp at e1; subst e1; trivial
    | succ i =>
      cases i with
      | zero =>
        simp at e1; subst e1
        refine ⟨_, rfl, ?_⟩
        unfold L2.start at e2
        rw [List.getElem?_set_self (by simp; omega)] at e2
        exact (Option.some.inj e2).symm
      | succ i =>
        simp only [List.getElem?_cons_succ, List.getElem?_replicate] at e1
        split at e1
        · cases e1; trivial
        · cases e1
  · subst he
    cases i with
    | zero => simp at e1; subst e1; cases o1
    | succ i =>
      cases i with
      | zero => simp at e1; subst e1; cases o1
      | succ i =>
        simp only [List.getElem?_cons_succ, List.getElem?_replicate] at e1
        split at e1
        · cases e1; cases o1
        · cases e1
  · cases e
    exact ⟨Fp, Fl, 0, 0, Int.le_refl _, Int.le_refl _, Hp⟩
  · exact fun _ _ _ _ _ z => z.elim
  · exact fun v d env' σ' F' H' S' dn φ => by subst φ; cases dn; exact hE _ _ rfl
  · exact fun _ _ _ _ _ z => z.elim
  · exact fun _ _ _ _ _ z => z.elim
/-- THE RULE for the law -/
theorem fnLaw {P : Program} {w : World} {K : Fg} {mg : Str → Option Value} {base : Heap} {x qual : Str} {params : Arguments} {body : List Stmt} {scope : Scope} {f : Addr} {fd : FuncData} {N : List Str} {sc : Str} {k : Nat} {dvs : List V} {kws : List (Str × V)} (F : FunD K x qual params body scope dvs kws f fd) (S : FnScope N [sc] scope)
    (hbody : ∀ (cdv : Value) (A : Around) (outer : List Env) (s : Shared) (H : Hp) (E : XK), Room k (A.deeper (envOfC qual scope s.heap.objs.size f cdv)) → PSs (cxF P w K mg base N qual scope f cdv A outer s H E) body (rdLaw K N)) : FnOk P w K mg base CX0 (k + 1) f fd [sc] (spLaw K) := by
  refine F.ok S (fun vs H Q E h => ?_) (fun cdv A outer s H vs Q E hr h => ?_)
  · obtain ⟨a, ns, rfl, _⟩ := h; rfl
  · obtain ⟨a, ns, rfl, hS, hlen, q⟩ := h
    exact ⟨_, PSs.nox (hbody cdv A outer s H E hr), a, ns, rfl, hS, hlen, fun v H' e => by subst e; exact q H'⟩
end DL

/-! The calendar, in plain Lean. -/
namespace Cal
def leap (y : Int) : Bool := decide (y % 4 = 0) && (!decide (y % 100 = 0) || decide (y % 400 = 0))
def befY (y : Int) : Int := 365 * (y - 1) + (y - 1) / 4 - (y - 1) / 100 + (y - 1) / 400
def LEN : List Int := [31, 28, 31, 30, 31, 30, 31, 31, 30, 31, 30, 31]
def mlen (y m : Int) : Int := if m = 2 then (if leap y = true then 29 else 28) else if m = 4 ∨ m = 6 ∨ m = 9 ∨ m = 11 then 30 else 31
def cum (m : Int) : Int := (LEN.take (m - 1).toNat).sum
def mst (y m : Int) : Int := befY y + cum m + (if m > 2 ∧ leap y = true then 1 else 0) + 1
def num (y m d : Int) : Int := mst y m + d - 1
theorem leap_iff (y : Int) : leap y = true ↔ (y % 4 = 0 ∧ (y % 100 ≠ 0 ∨ y % 400 = 0)) := by
  unfold leap
  simp
theorem m12 {m : Int} (h1 : 1 ≤ m) (h2 : m ≤ 12) : m = 1 ∨ m = 2 ∨ m = 3 ∨ m = 4 ∨ m = 5 ∨ m = 6 ∨ m = 7 ∨ m = 8 ∨ m = 9 ∨ m = 10 ∨ m = 11 ∨ m = 12 := by omega
theorem befY_succ (y : Int) : befY (y + 1) = befY y + 365 + (if leap y = true then 1 else 0) := by
  unfold befY
  by_cases h : leap y = true
  · rw [if_pos h]
    rw [leap_iff] at h
    omega
  · rw [if_neg h]
    rw [leap_iff] at h
    omega
theorem mst_succ {y m : Int} (h1 : 1 ≤ m) (h2 : m ≤ 11) : mst y (m + 1) = mst y m + mlen y m := by
  have h : m = 1 ∨ m = 2 ∨ m = 3 ∨ m = 4 ∨ m = 5 ∨ m = 6 ∨ m = 7 ∨ m = 8 ∨ m = 9 ∨ m = 10 ∨ m = 11 := by omega
  rcases h with h | h | h | h | h | h | h | h | h | h | h <;> subst h <;> simp [mst, mlen, cum, LEN, show Int.toNat 2 = 2 from rfl] <;> (try split) <;> omega
theorem mst_year (y : Int) : mst (y + 1) 1 = mst y 12 + mlen y 12 := by
  have := befY_succ y
  simp [mst, mlen, cum, LEN]
  split at this <;> simp_all <;> omega
theorem mlen_lo (y m : Int) : 28 ≤ mlen y m := by unfold mlen; split <;> (try split) <;> (try split) <;> omega
theorem mlen_hi (y m : Int) : mlen y m ≤ 31 := by unfold mlen; split <;> (try split) <;> (try split) <;> omega
/-! months by one number: 12 y + m - 1 -/
def mI (t : Int) : Int := mst (t / 12) (t % 12 + 1)
def lI (t : Int) : Int := mlen (t / 12) (t % 12 + 1)
theorem mI_succ (t : Int) : mI (t + 1) = mI t + lI t := by
  unfold mI lI
  by_cases h : t % 12 = 11
  · have h1 : (t + 1) / 12 = t / 12 + 1 := by omega
    have h2 : (t + 1) % 12 = 0 := by omega
    rw [h1, h2, h]
    exact mst_year _
  · have h1 : (t + 1) / 12 = t / 12 := by omega
    have h2 : (t + 1) % 12 = t % 12 + 1 := by omega
    rw [h1, h2]
    exact mst_succ (by omega) (by omega)
theorem mI_add (t : Int) (k : Nat) : mI t + 28 * k ≤ mI (t + k) := by
  induction k with
  | zero => simp
  | succ k ih =>
    have h := mI_succ (t + k)
    have l : 28 ≤ lI (t + k) := mlen_lo _ _
    have e : t + ((k + 1 : Nat) : Int) = t + k + 1 := by omega
    rw [e, h]
    omega
theorem mI_add' (t : Int) (k : Nat) : mI (t + k) ≤ mI t + 31 * k := by
  induction k with
  | zero => simp
  | succ k ih =>
    have h := mI_succ (t + k)
    have l : lI (t + k) ≤ 31 := mlen_hi _ _
    have e : t + ((k + 1 : Nat) : Int) = t + k + 1 := by omega
    rw [e, h]
    omega
theorem mI_le {s t : Int} (h : s ≤ t) : mI s ≤ mI t := by
  have := mI_add s (t - s).toNat
  rw [show s + (((t - s).toNat : Nat) : Int) = t by omega] at this
  omega
theorem mI_lt {s t : Int} (h : s < t) : mI s + 28 ≤ mI t := by
  have := mI_add s (t - s).toNat
  rw [show s + (((t - s).toNat : Nat) : Int) = t by omega] at this
  omega
theorem mI_of {y m : Int} (h1 : 1 ≤ m) (h2 : m ≤ 12) : mI (12 * y + m - 1) = mst y m := by
  unfold mI
  rw [show (12 * y + m - 1) / 12 = y by omega, show (12 * y + m - 1) % 12 + 1 = m by omega]
theorem lI_of {y m : Int} (h1 : 1 ≤ m) (h2 : m ≤ 12) : lI (12 * y + m - 1) = mlen y m := by
  unfold lI
  rw [show (12 * y + m - 1) / 12 = y by omega, show (12 * y + m - 1) % 12 + 1 = m by omega]
/-- the month of a day is one -/
theorem mI_uniq {s t n : Int} (h1 : mI s ≤ n) (h2 : n < mI (s + 1)) (h3 : mI t ≤ n) (h4 : n < mI (t + 1)) : s = t := by
  by_cases a : s < t
  · have := mI_le (show s + 1 ≤ t by omega); omega
  · by_cases b : t < s
    · have := mI_le (show t + 1 ≤ s by omega); omega
    · omega
theorem mI_mono {s t : Int} (h : mI s ≤ mI t) : s ≤ t := by
  by_cases a : t < s
  · have := mI_lt a; omega
  · omega
/-! 400 years are 146097 days -/
theorem befY_400 (y : Int) : befY (y + 400) = befY y + 146097 := by unfold befY; omega
theorem leap_400 (y : Int) : leap (y + 400) = leap y := by
  have : ∀ a b : Bool, (a = true ↔ b = true) → a = b := by decide
  apply this
  rw [leap_iff, leap_iff]; omega
theorem mst_400 (y m : Int) : mst (y + 400) m = mst y m + 146097 := by unfold mst; rw [befY_400, leap_400]; omega
theorem mlen_400 (y m : Int) : mlen (y + 400) m = mlen y m := by unfold mlen; rw [leap_400]
theorem mI_400 (t : Int) : mI (t + 4800) = mI t + 146097 := by
  unfold mI
  rw [show (t + 4800) / 12 = t / 12 + 400 by omega, show (t + 4800) % 12 = t % 12 by omega]
  exact mst_400 _ _
theorem lI_400 (t : Int) : lI (t + 4800) = lI t := by
  unfold lI
  rw [show (t + 4800) / 12 = t / 12 + 400 by omega, show (t + 4800) % 12 = t % 12 by omega]
  exact mlen_400 _ _
theorem mI_400k (t : Int) (k : Nat) : mI (t + 4800 * k) = mI t + 146097 * k := by
  induction k with
  | zero => simp
  | succ k ih =>
    rw [show t + 4800 * ((k + 1 : Nat) : Int) = t + 4800 * k + 4800 by omega, mI_400, ih]; omega

/-! the day with a number, by years that begin in March -/
def dayOf (n : Int) : Int × Int × Int :=
  let turn := (n + 305) / 146097
  let rest := n + 305 - 146097 * turn
  let year := (rest - rest / 1460 + rest / 36524 - rest / 146096) / 365
  let at_ := rest - (365 * year + year / 4 - year / 100)
  let month := (5 * at_ + 2) / 153
  let date := at_ - (153 * month + 2) / 5 + 1
  let year2 := year + 400 * turn
  if month < 10 then (year2, month + 3, date) else (year2 + 1, month - 9, date)
def gY (r : Int) : Int := r - r / 1460 + r / 36524 - r / 146096
def sY (y : Int) : Int := 365 * y + y / 4 - y / 100
theorem gY_step (r : Int) (h0 : 0 ≤ r) : gY r ≤ gY (r + 1) := by
  unfold gY
  have h : (r + 1) / 146096 = r / 146096 ∨ (r + 1) % 146096 = 0 := by omega
  rcases h with h | h
  · have h1 : (r + 1) / 1460 ≤ r / 1460 + 1 := by omega
    have h2 : r / 36524 ≤ (r + 1) / 36524 := by omega
    omega
  · have h3 : (r + 1) % 36524 = 0 := by omega
    have h1 : (r + 1) / 1460 ≤ r / 1460 + 1 := by omega
    have h2 : (r + 1) / 36524 = r / 36524 + 1 := by omega
    have h4 : (r + 1) / 146096 = r / 146096 + 1 := by omega
    omega
theorem gY_mono (r : Int) (h0 : 0 ≤ r) (k : Nat) : gY r ≤ gY (r + k) := by
  induction k with
  | zero => simp
  | succ k ih =>
    have := gY_step (r + k) (by omega)
    rw [show r + ((k + 1 : Nat) : Int) = r + k + 1 by omega]; omega
theorem gY_le {r s : Int} (h0 : 0 ≤ r) (h : r ≤ s) : gY r ≤ gY s := by
  have := gY_mono r h0 (s - r).toNat
  rw [show r + (((s - r).toNat : Nat) : Int) = s by omega] at this
  exact this
theorem gY_at : ∀ y : Nat, y < 401 → 365 * (y : Int) ≤ gY (sY y) ∧ (y = 0 ∨ gY (sY y - 1) < 365 * (y : Int)) ∨ y = 400 := by decide +kernel
theorem gY_400 : gY 146096 < 365 * 400 := by decide +kernel
theorem year_of (r : Int) (h0 : 0 ≤ r) (h1 : r < 146097) : 0 ≤ gY r / 365 ∧ gY r / 365 ≤ 399 ∧ sY (gY r / 365) ≤ r ∧ (r < sY (gY r / 365 + 1) ∨ (gY r / 365 = 399 ∧ r < 146097)) := by
  have g0 : 0 ≤ gY r := by have := gY_le (Int.le_refl 0) h0; simp [gY] at this ⊢; omega
  have g1 : gY r < 365 * 400 := by have := gY_le h0 (show r ≤ 146096 by omega); have := gY_400; omega
  generalize hy : gY r / 365 = y
  have y0 : 0 ≤ y := by omega
  have y1 : y ≤ 399 := by omega
  obtain ⟨k, rfl⟩ : ∃ k : Nat, y = k := ⟨y.toNat, by omega⟩
  refine ⟨y0, y1, ?_, ?_⟩
  · rcases gY_at k (by omega) with ⟨_, h | h⟩ | h
    · subst h; simp [sY]; omega
    · by_cases q : sY k ≤ r
      · exact q
      · have := gY_le h0 (show r ≤ sY k - 1 by omega); omega
    · omega
  · by_cases h399 : k = 399
    · exact .inr ⟨by omega, h1⟩
    · left
      rcases gY_at (k + 1) (by omega) with ⟨h, _⟩ | h
      · by_cases q : r < sY (k + 1)
        · exact q
        · have sy0 : 0 ≤ sY ((k + 1 : Nat) : Int) := by unfold sY; omega
          have := gY_le (r := sY ((k + 1 : Nat) : Int)) sy0 (show sY ((k + 1 : Nat) : Int) ≤ r by push_cast; omega)
          push_cast at this h
          omega
      · omega
theorem dayOf_aux (turn r y a m : Int) (hr0 : 0 ≤ r) (hr1 : r < 146097) (hy : gY r / 365 = y) (ha : r - (365 * y + y / 4 - y / 100) = a) (hm : (5 * a + 2) / 153 = m) :
    0 ≤ m ∧ m ≤ 11 ∧ 0 ≤ a - (153 * m + 2) / 5 ∧
      (m < 10 → a - (153 * m + 2) / 5 + 1 ≤ mlen (y + 400 * turn) (m + 3) ∧ num (y + 400 * turn) (m + 3) (a - (153 * m + 2) / 5 + 1) = r + 146097 * turn - 305) ∧
      (10 ≤ m → a - (153 * m + 2) / 5 + 1 ≤ mlen (y + 400 * turn + 1) (m - 9) ∧ num (y + 400 * turn + 1) (m - 9) (a - (153 * m + 2) / 5 + 1) = r + 146097 * turn - 305) := by
  obtain ⟨y0, y1, s0, s1⟩ := year_of r hr0 hr1
  rw [hy] at y0 y1 s0 s1
  unfold sY at s0 s1
  have a0 : 0 ≤ a := by omega
  have a1 : a ≤ 365 := by omega
  have a2 : a = 365 → leap (y + 400 * turn + 1) = true := by
    intro e
    have q4 : (y + 1) % 4 = 0 := by
      by_cases q : (y + 1) % 4 = 0
      · exact q
      · have e1 : (y + 1) / 4 = y / 4 := by omega
        have e2 : y / 100 ≤ (y + 1) / 100 := by omega
        omega
    have e4 : (y + 1) / 4 = y / 4 + 1 := by omega
    have q1 : (y + 1) % 100 ≠ 0 ∨ (y + 1) % 400 = 0 := by
      by_cases q : (y + 1) % 100 = 0
      · have e2 : (y + 1) / 100 = y / 100 + 1 := by omega
        right; omega
      · exact .inl q
    rw [leap_iff]
    refine ⟨by omega, ?_⟩
    rcases q1 with q | q
    · left; omega
    · right; omega
  have m0 : 0 ≤ m := by omega
  have m1 : m ≤ 11 := by omega
  refine ⟨m0, m1, by omega, fun h => ?_, fun h => ?_⟩
  · have hmm : m = 0 ∨ m = 1 ∨ m = 2 ∨ m = 3 ∨ m = 4 ∨ m = 5 ∨ m = 6 ∨ m = 7 ∨ m = 8 ∨ m = 9 := by omega
    have e4 : (y + 400 * turn) / 4 = y / 4 + 100 * turn := by omega
    have e1 : (y + 400 * turn) / 100 = y / 100 + 4 * turn := by omega
    have e0 : (y + 400 * turn) / 400 = turn := by omega
    have B := befY_succ (y + 400 * turn)
    have B1 : befY (y + 400 * turn + 1) = 365 * (y + 400 * turn) + (y + 400 * turn) / 4 - (y + 400 * turn) / 100 + (y + 400 * turn) / 400 := by unfold befY; rw [show y + 400 * turn + 1 - 1 = y + 400 * turn by omega]
    rw [e4, e1, e0] at B1
    by_cases L : leap (y + 400 * turn) = true
    · rw [if_pos L] at B
      rcases hmm with h | h | h | h | h | h | h | h | h | h <;> subst h <;> simp [num, mst, mlen, cum, LEN, L, show Int.toNat 2 = 2 from rfl] <;> omega
    · rw [if_neg L] at B
      rcases hmm with h | h | h | h | h | h | h | h | h | h <;> subst h <;> simp [num, mst, mlen, cum, LEN, L, show Int.toNat 2 = 2 from rfl] <;> omega
  · have hmm : m = 10 ∨ m = 11 := by omega
    have e4 : (y + 400 * turn) / 4 = y / 4 + 100 * turn := by omega
    have e1 : (y + 400 * turn) / 100 = y / 100 + 4 * turn := by omega
    have e0 : (y + 400 * turn) / 400 = turn := by omega
    have B1 : befY (y + 400 * turn + 1) = 365 * (y + 400 * turn) + (y + 400 * turn) / 4 - (y + 400 * turn) / 100 + (y + 400 * turn) / 400 := by unfold befY; rw [show y + 400 * turn + 1 - 1 = y + 400 * turn by omega]
    rw [e4, e1, e0] at B1
    rcases hmm with h | h <;> subst h <;> simp [num, mst, mlen, cum, LEN, show Int.toNat 2 = 2 from rfl]
    · omega
    · refine ⟨?_, by omega⟩
      by_cases q : a = 365
      · rw [if_pos (a2 q)]; omega
      · split <;> omega
theorem dayOf_spec (n : Int) : 1 ≤ (dayOf n).2.1 ∧ (dayOf n).2.1 ≤ 12 ∧ 1 ≤ (dayOf n).2.2 ∧ (dayOf n).2.2 ≤ mlen (dayOf n).1 (dayOf n).2.1 ∧ num (dayOf n).1 (dayOf n).2.1 (dayOf n).2.2 = n := by
  have r0 : 0 ≤ n + 305 - 146097 * ((n + 305) / 146097) := by omega
  have r1 : n + 305 - 146097 * ((n + 305) / 146097) < 146097 := by omega
  obtain ⟨q1, q2, q3, q4, q5⟩ := dayOf_aux ((n + 305) / 146097) _ _ _ _ r0 r1 rfl rfl rfl
  unfold gY at q1 q2 q3 q4 q5
  unfold dayOf
  dsimp only
  split
  · rename_i h
    obtain ⟨w1, w2⟩ := q4 h
    exact ⟨by dsimp only; omega, by dsimp only; omega, by dsimp only; omega, w1, by dsimp only; rw [w2]; omega⟩
  · rename_i h
    obtain ⟨w1, w2⟩ := q5 (by omega)
    exact ⟨by dsimp only; omega, by dsimp only; omega, by dsimp only; omega, w1, by dsimp only; rw [w2]; omega⟩
/-- the day is the one with this number -/
theorem day_uniq {y m d y' m' d' : Int} (h1 : 1 ≤ m) (h2 : m ≤ 12) (h3 : 1 ≤ d) (h4 : d ≤ mlen y m) (k1 : 1 ≤ m') (k2 : m' ≤ 12) (k3 : 1 ≤ d') (k4 : d' ≤ mlen y' m') (e : num y m d = num y' m' d') : y = y' ∧ m = m' ∧ d = d' := by
  unfold num at e
  have a1 := mI_of h1 h2 (y := y)
  have a2 := mI_of k1 k2 (y := y')
  have b1 := mI_succ (12 * y + m - 1)
  have b2 := mI_succ (12 * y' + m' - 1)
  rw [lI_of h1 h2] at b1
  rw [lI_of k1 k2] at b2
  have := mI_uniq (s := 12 * y + m - 1) (t := 12 * y' + m' - 1) (n := mst y m + d - 1) (by omega) (by omega) (by omega) (by omega)
  have ey : y = y' := by omega
  have em : m = m' := by omega
  subst ey; subst em
  omega
theorem dayOf_num {y m d : Int} (h1 : 1 ≤ m) (h2 : m ≤ 12) (h3 : 1 ≤ d) (h4 : d ≤ mlen y m) : dayOf (num y m d) = (y, m, d) := by
  obtain ⟨q1, q2, q3, q4, q5⟩ := dayOf_spec (num y m d)
  obtain ⟨e1, e2, e3⟩ := day_uniq q1 q2 q3 q4 h1 h2 h3 h4 q5
  exact Prod.ext e1 (Prod.ext e2 e3)
/-- the month's number of a day -/
def tOf (n : Int) : Int := 12 * (dayOf n).1 + (dayOf n).2.1 - 1
theorem tOf_spec (n : Int) : mI (tOf n) ≤ n ∧ n < mI (tOf n + 1) := by
  obtain ⟨q1, q2, q3, q4, q5⟩ := dayOf_spec n
  have a := mI_of q1 q2 (y := (dayOf n).1)
  have b := mI_succ (tOf n)
  unfold tOf at b ⊢
  rw [lI_of q1 q2] at b
  unfold num at q5
  omega
theorem tOf_eq {n t : Int} (h1 : mI t ≤ n) (h2 : n < mI (t + 1)) : tOf n = t := by
  have := tOf_spec n
  exact mI_uniq this.1 this.2 h1 h2
theorem dayOf_parts (n : Int) : dayOf n = (tOf n / 12, tOf n % 12 + 1, n - mI (tOf n) + 1) := by
  obtain ⟨q1, q2, q3, q4, q5⟩ := dayOf_spec n
  have a := mI_of q1 q2 (y := (dayOf n).1)
  have e : tOf n = 12 * (dayOf n).1 + (dayOf n).2.1 - 1 := rfl
  rw [← e] at a
  refine Prod.ext ?_ (Prod.ext ?_ ?_)
  · show (dayOf n).1 = tOf n / 12; omega
  · show (dayOf n).2.1 = tOf n % 12 + 1; omega
  · show (dayOf n).2.2 = n - mI (tOf n) + 1
    unfold num at q5; omega
theorem tOf_400 (n : Int) : tOf (n + 146097) = tOf n + 4800 := by
  have := tOf_spec n
  refine tOf_eq ?_ ?_
  · rw [mI_400]; omega
  · rw [show tOf n + 4800 + 1 = tOf n + 1 + 4800 by omega, mI_400]; omega
theorem dayOf_400 (n : Int) : dayOf (n + 146097) = ((dayOf n).1 + 400, (dayOf n).2.1, (dayOf n).2.2) := by
  rw [dayOf_parts, dayOf_parts n, tOf_400, mI_400]
  refine Prod.ext ?_ (Prod.ext ?_ ?_) <;> dsimp only <;> omega
/-- the law's number -/
def lawNum (y m d : Int) : Int :=
  let y' := if m < 3 then y - 1 else y
  let turn := y' / 400
  let rest := y' - 400 * (y' / 400)
  let at_ := (153 * (if m < 3 then m + 9 else m - 3) + 2) / 5 + d - 1
  turn * 146097 + 365 * rest + rest / 4 - rest / 100 + at_ - 305
theorem lawNum_eq {y m d : Int} (h1 : 1 ≤ m) (h2 : m ≤ 12) : lawNum y m d = num y m d := by
  unfold lawNum num mst
  have B := befY_succ y
  have B1 : befY (y + 1) = 365 * y + y / 4 - y / 100 + y / 400 := by unfold befY; rw [show y + 1 - 1 = y by omega]
  have B2 : befY y = 365 * (y - 1) + (y - 1) / 4 - (y - 1) / 100 + (y - 1) / 400 := rfl
  have c4 : ∀ z : Int, (z - 400 * (z / 400)) / 4 = z / 4 - 100 * (z / 400) := fun z => by omega
  have c1 : ∀ z : Int, (z - 400 * (z / 400)) / 100 = z / 100 - 4 * (z / 400) := fun z => by omega
  dsimp only
  rw [c4, c1]
  rcases m12 h1 h2 with h | h | h | h | h | h | h | h | h | h | h | h <;> subst h <;> simp [cum, LEN, show Int.toNat 2 = 2 from rfl] <;> (try split at B) <;> (try simp_all) <;> omega
end Cal
namespace Cal
theorem dayOf_succ (n : Int) : dayOf (n + 1) = if (dayOf n).2.2 = mlen (dayOf n).1 (dayOf n).2.1 then (if (dayOf n).2.1 < 12 then ((dayOf n).1, (dayOf n).2.1 + 1, 1) else ((dayOf n).1 + 1, 1, 1)) else ((dayOf n).1, (dayOf n).2.1, (dayOf n).2.2 + 1) := by
  obtain ⟨q1, q2, q3, q4, q5⟩ := dayOf_spec n
  generalize (dayOf n).1 = y at *
  generalize (dayOf n).2.1 = m at *
  generalize (dayOf n).2.2 = d at *
  unfold num at q5
  split
  · rename_i e
    split
    · rename_i h
      have a := mst_succ (y := y) q1 (by omega : m ≤ 11)
      have l := mlen_lo y (m + 1)
      have b := dayOf_num (y := y) (m := m + 1) (d := 1) (by omega) (by omega) (by omega) (by omega)
      unfold num at b
      rw [← b]; congr 1; omega
    · rename_i h
      have e12 : m = 12 := by omega
      subst e12
      have a := mst_year y
      have l := mlen_lo (y + 1) 1
      have b := dayOf_num (y := y + 1) (m := 1) (d := 1) (by omega) (by omega) (by omega) (by omega)
      unfold num at b
      rw [← b]; congr 1; omega
  · rename_i e
    have b := dayOf_num (y := y) (m := m) (d := d + 1) q1 q2 (by omega) (by omega)
    unfold num at b
    rw [← b]; congr 1; omega
end Cal

namespace DL
open PySem PySem.Spec PyProof.Rows L2 RZ
/-! ### helpers for the defs' own proofs -/
abbrev FnP (K : Fg) (x : Str) (st : Stmt) (f : Addr) (fd : FuncData) : Prop := FunD K x x (defArgs st) (defBody st) (defScope st) [] [] f fd
def dayD (t : Int × Int × Int) : D := .tuple [.int t.1, .int t.2.1, .int t.2.2]
def VDay (y m d : Int) : Prop := 1 ≤ m ∧ m ≤ 12 ∧ 1 ≤ d ∧ d ≤ Cal.mlen y m
theorem cut_take {α : Type} {f : α → D} {xs : List α} {i : Int} (h : 0 ≤ i) : cutD (xs.map f) none (some i) = (xs.take i.toNat).map f := by
  have e1 : ∀ n : Nat, HT.sIx n n (some i) = min i.toNat n := fun n => by
    show (if i < 0 then _ else _) = _
    rw [if_neg (by omega)]
  unfold cutD
  rw [e1, HT.sIx_none, List.drop_zero, Nat.sub_zero, List.length_map, ← List.map_take]
  congr 1
  by_cases hl : i.toNat ≤ xs.length
  · rw [Nat.min_eq_left hl]
  · rw [Nat.min_eq_right (by omega), List.take_length, List.take_of_length_le (by omega)]
theorem natAbs_log2 {n : Int} {b : Nat} (h0 : 0 < b) (h : n.natAbs < 2 ^ b) : n.natAbs.log2 < b := by
  exact PySem.Flt.log2_lt_of h0 h
section
variable {X : Cx} {e : Expr} {es : List Expr} {env : List Sl} {pos : Pos}
/-- a list of ints of which each holds p -/
def PI (p : Int → Prop) (n : Nat) (ds : List D) : Prop := ∃ ns : List Int, ds = ns.map PyData.int ∧ ns.length = n ∧ ∀ k ∈ ns, p k
theorem pi_nil' {p : Int → Prop} : AR X [] env (PI p 0) := ar_nil.imp fun ds e => by subst e; exact ⟨[], rfl, rfl, by simp⟩
theorem pi_cons' {p : Int → Prop} {n : Nat} (h : ER X e env (fun d => ∃ k, d = .int k ∧ p k)) (hr : AR X es env (PI p n)) (hs : starEach (e :: es) X.env = (false, eval e X.env) :: starEach es X.env := by rfl) : AR X (e :: es) env (PI p (n + 1)) :=
  (ar_cons h hr hs).imp fun ds ⟨d, r, e1, ⟨k, e2, hk⟩, ⟨ns, e3, hl, hn⟩⟩ => by
    subst e1; subst e2; subst e3
    exact ⟨k :: ns, rfl, by simp [hl], by simp; exact ⟨hk, hn⟩⟩
theorem atI_get {ds : List D} {i : Int} (h0 : 0 ≤ i) (h1 : i < ds.length) : L2.atI ds i = ds[i.toNat]? := by
  unfold L2.atI L2.ixN
  rw [if_pos h0, if_pos h1]; rfl
/-- [a, b, ..][draw] -/
theorem er_pick {b : Expr} {p : Int → Prop} {n : Nat} {pos2 : Pos} (ha : AR X es env (PI p n)) (hb : ER X b env (fun d => ∃ k : Int, d = .int k ∧ 0 ≤ k ∧ k < n)) (hn : n ≤ 1000 := by decide) (hs : PlainIx b := by exact fun _ _ => rfl) : ER X (.Subscript (.List es pos2) b pos) env (fun d => ∃ k, d = .int k ∧ p k) :=
  er_ix (Φ := fun d => ∃ ns : List Int, d = .list (ns.map PyData.int) ∧ ns.length = n ∧ ∀ k ∈ ns, p k) (er_lst ha fun ds ⟨ns, e, hl, hp⟩ => ⟨by rw [e, List.length_map, hl]; omega, ns, by rw [e], hl, hp⟩) hb (fun x y ⟨ns, e, hl, hp⟩ ⟨k, e2, k0, k1⟩ => by
    subst e; subst e2
    have hk : k.toNat < ns.length := by omega
    refine IxD.imp (i_lst (d := .int (ns[k.toNat])) ?_) fun d e => ⟨_, e, hp _ (List.getElem_mem hk)⟩
    rw [atI_get k0 (by simp; omega)]
    simp [hk]) hs
theorem er_bin1 {a b : Expr} {op : Operator} {Φ Ψ : D → Prop} {x : D} {pos : Pos} (ha : ED X a env x) (hb : ER X b env Φ) (h : ∀ y, Φ y → OpD X (binaryOp op) x y Ψ) : ER X (.BinOp a op b pos) env Ψ := er_bin ha hb fun _ y e φ => by subst e; exact h y φ
end
/-! ### _law_like of a thing and itself -/
mutual
def lk : Nat → D → Bool
  | 0, .list _ => false
  | 0, .tuple _ => false
  | n + 1, .list ds => decide (ds.length ≤ 1000000) && lks n ds
  | n + 1, .tuple ds => decide (ds.length ≤ 1000000) && lks n ds
  | _, .dict _ => false
  | _, .none => true
  | _, .bool _ => true
  | _, .int _ => true
  | _, .str x => PyData.strOk x
def lks : Nat → List D → Bool
  | _, [] => true
  | n, d :: ds => lk n d && lks n ds
end
theorem lks_mem {n : Nat} {d : D} : ∀ {ds : List D}, lks n ds = true → d ∈ ds → lk n d = true
  | [], _, h => by simp at h
  | e :: ds, h, hm => by
    simp only [lks, Bool.and_eq_true] at h
    rcases List.mem_cons.mp hm with q | q
    · rw [q]; exact h.1
    · exact lks_mem h.2 q
theorem lk_dict {n : Nat} {k : List (D × D)} : lk n (.dict k) = false := by cases n <;> rfl
theorem lk_shaped_flat {n : Nat} {x : D} (h : flatD x = true) (k : lk n x = true) : SeqAt.shaped x = true := by
  cases x <;> cases n <;> simp [SeqAt.shaped, PyData.canLay0, PyData.depth, flatD, lk] at h k ⊢ <;> exact k
theorem eqv_self_flat {x : D} (h : flatD x = true) : PyData.eqv x x = true := by cases x <;> simp [PyData.eqv, flatD] at h ⊢
end DL

namespace Cal
structure Hint where
  (w d m y : Option Int)
def ok (p : Option Int) (v : Int) : Bool := match p with
  | none => true
  | some q => decide (q = v)
def fitB (h : Hint) (n : Int) : Bool := ok h.w ((n - 1) % 7) && (ok h.d (dayOf n).2.2 && (ok h.m (dayOf n).2.1 && ok h.y (dayOf n).1))
/-- what the parts of a hint may be -/
structure HOk (h : Hint) : Prop where
  w : ∀ v, h.w = some v → 0 ≤ v ∧ v ≤ 6
  d : ∀ v, h.d = some v → 1 ≤ v ∧ v ≤ 31
  m : ∀ v, h.m = some v → 1 ≤ v ∧ v ≤ 12
end Cal
namespace Cal
/-- a drawn hint, near a year -/
structure HDr (y : Int) (h : Hint) : Prop where
  ok : HOk h
  yr : ∀ v, h.y = some v → y - 3 ≤ v ∧ v ≤ y + 3
  any : ¬ (h.w = none ∧ h.d = none ∧ h.m = none ∧ h.y = none)
def hintOf (a b c e : Bool) (n : Int) : Hint := ⟨if a then some ((n - 1) % 7) else none, if b then some (dayOf n).2.2 else none, if c then some (dayOf n).2.1 else none, if e then some (dayOf n).1 else none⟩
theorem hintOf_ok (a b c e : Bool) (n : Int) (h : a = true ∨ b = true ∨ c = true ∨ e = true) : HDr (dayOf n).1 (hintOf a b c e n) := by
  obtain ⟨q1, q2, q3, q4, q5⟩ := dayOf_spec n
  have := mlen_hi (dayOf n).1 (dayOf n).2.1
  refine ⟨⟨fun v hv => ?_, fun v hv => ?_, fun v hv => ?_⟩, fun v hv => ?_, fun hv => ?_⟩
  · simp only [hintOf] at hv; split at hv
    · cases hv; omega
    · cases hv
  · simp only [hintOf] at hv; split at hv
    · cases hv; omega
    · cases hv
  · simp only [hintOf] at hv; split at hv
    · cases hv; omega
    · cases hv
  · simp only [hintOf] at hv; split at hv
    · cases hv; omega
    · cases hv
  · simp only [hintOf] at hv
    rcases h with rfl | rfl | rfl | rfl <;> simp at hv
theorem year_bounds {n : Int} (h1 : num 1000 1 1 ≤ n) (h2 : n ≤ num 9000 12 31) : 1000 ≤ (dayOf n).1 ∧ (dayOf n).1 ≤ 9000 := by
  obtain ⟨q1, q2, q3, q4, q5⟩ := dayOf_spec n
  obtain ⟨t1, t2⟩ := tOf_spec n
  have e1 : num 1000 1 1 = mI 12000 := by decide +kernel
  have e2 : num 9000 12 31 + 1 = mI 108012 := by decide +kernel
  have a1 : (12000 : Int) ≤ tOf n := by
    rcases Int.lt_or_le (tOf n) 12000 with h | h
    · have := mI_le (show tOf n + 1 ≤ 12000 by omega); omega
    · exact h
  have a2 : tOf n < 108012 := by
    rcases Int.lt_or_le (tOf n) 108012 with h | h
    · exact h
    · have := mI_le h; omega
  unfold tOf at a1 a2
  omega
end Cal

namespace DL
open PySem PySem.Spec PyProof.Rows L2 RZ
mutual
theorem lk_facts : ∀ {n : Nat} {d : D}, lk n d = true → nodic d = true ∧ PyData.canLay0 d = true ∧ PyData.depth d ≤ n
  | _, .dict _, h => by rw [lk_dict] at h; cases h
  | _, .none, _ => ⟨rfl, rfl, Nat.zero_le _⟩
  | _, .bool _, _ => ⟨rfl, rfl, Nat.zero_le _⟩
  | _, .int _, _ => ⟨rfl, rfl, Nat.zero_le _⟩
  | 0, .str x, h => ⟨rfl, by simpa [lk, PyData.canLay0] using h, Nat.zero_le _⟩
  | n + 1, .str x, h => ⟨rfl, by simpa [lk, PyData.canLay0] using h, Nat.zero_le _⟩
  | 0, .list _, h => by simp [lk] at h
  | 0, .tuple _, h => by simp [lk] at h
  | n + 1, .list ds, h => by
    simp only [lk, Bool.and_eq_true] at h
    have := lks_facts h.2
    exact ⟨by simpa [nodic] using this.1, by simpa [PyData.canLay0] using this.2.1, by simpa [PyData.depth] using this.2.2⟩
  | n + 1, .tuple ds, h => by
    simp only [lk, Bool.and_eq_true] at h
    have := lks_facts h.2
    exact ⟨by simpa [nodic] using this.1, by simpa [PyData.canLay0] using this.2.1, by simpa [PyData.depth] using this.2.2⟩
theorem lks_facts : ∀ {n : Nat} {ds : List D}, lks n ds = true → nodicA ds = true ∧ PyData.canLayAll0 ds = true ∧ PyData.depthAll ds ≤ n
  | _, [], _ => ⟨rfl, rfl, Nat.zero_le _⟩
  | n, d :: ds, h => by
    simp only [lks, Bool.and_eq_true] at h
    have a := lk_facts h.1
    have b := lks_facts h.2
    exact ⟨by simp [nodicA, a.1, b.1], by simp [PyData.canLayAll0, a.2.1, b.2.1], by simp only [PyData.depthAll]; exact Nat.max_le.mpr ⟨a.2.2, b.2.2⟩⟩
end
theorem lk_nd {n : Nat} {d : D} (h : lk n d = true) : nodic d = true := (lk_facts h).1
theorem lk_sh {n : Nat} {d : D} (h : lk n d = true) (hn : n ≤ 64 := by decide) : SeqAt.shaped d = true := by
  have a := lk_facts h
  simp only [SeqAt.shaped, a.2.1, Bool.true_and, decide_eq_true_eq]
  exact Nat.le_trans a.2.2 hn
theorem lks_map {α : Type} {n : Nat} {L : List α} {f : α → D} (h : ∀ a ∈ L, lk n (f a) = true) : lks n (L.map f) = true := by
  induction L with
  | nil => rfl
  | cons a t ih => simp [lks, h a (by simp), ih fun b hb => h b (by simp [hb])]
theorem lk_list {α : Type} {n : Nat} {L : List α} {f : α → D} (hl : L.length ≤ 1000000) (h : ∀ a ∈ L, lk n (f a) = true) : lk (n + 1) (.list (L.map f)) = true := by simp [lk, lks_map h, hl]
theorem lk_tuple {α : Type} {n : Nat} {L : List α} {f : α → D} (hl : L.length ≤ 1000000) (h : ∀ a ∈ L, lk n (f a) = true) : lk (n + 1) (.tuple (L.map f)) = true := by simp [lk, lks_map h, hl]
/-- equal and not equal to data of plain shape -/
theorem o_eqK {X : Cx} {n m : Nat} {x y : D} (hu : X.A.units + 64 < cLine) (h1 : lk n x = true) (h2 : lk m y = true) (hn : n ≤ 64 := by decide) (hm : m ≤ 64 := by decide) : OpD X (compareOp .Eq) x y (fun d => d = .bool (PyData.eqv x y)) := o_eqD hu (lk_nd h1) (lk_nd h2) (lk_sh h1 hn) (lk_sh h2 hm)
theorem o_neK {X : Cx} {n m : Nat} {x y : D} (hu : X.A.units + 64 < cLine) (h1 : lk n x = true) (h2 : lk m y = true) (hn : n ≤ 64 := by decide) (hm : m ≤ 64 := by decide) : OpD X (compareOp .NotEq) x y (fun d => d = .bool (!PyData.eqv x y)) := o_neD hu (lk_nd h1) (lk_nd h2) (lk_sh h1 hn) (lk_sh h2 hm)
theorem eqv_nil {xs : List D} : PyData.eqv (.list xs) (.list []) = xs.isEmpty := by cases xs <;> simp [PyData.eqv, PyData.eqvAll]
section
variable {X : Cx} {e a b c : Expr} {es : List Expr} {env : List Sl} {Φ : Out} {pos p : Pos} {rest thn els : List Stmt} {x : Str}
/-- x[b] = e on an own list -/
theorem sds_setix {d : D} {xs : List D} {Ψ : Int → Prop} (i : Nat) (hi : env[i]? = some (.own xs)) (he : ED X e env d) (hb : ER X b env (fun z => ∃ k : Int, z = .int k ∧ (0 ≤ k ∧ k < xs.length) ∧ Ψ k))
    (hr : ∀ k : Int, 0 ≤ k → k < xs.length → Ψ k → SDs X rest (env.set i (.own (xs.set k.toNat d))) Φ) {npos ipos : Pos} (hN : X.N[i]? = some x := by rfl) (hv : Vis X.env.scope x := by first | exact Or.inl rfl | exact Or.inr (Or.inl rfl) | exact Or.inr (Or.inr rfl))
    (hd : (x == ("__debug__" : Str)) = false := by decide) (hcd : (x == ("__classdict__" : Str)) = false := by decide)
    (hs : swapsWithSole [.Subscript (.Name x npos) b ipos] e pos.line X.env = pure false := by rfl) (hw : swappedStores [.Subscript (.Name x npos) b ipos] e X.env = pure none := by rfl)
    (h1 : (assignEach [.Subscript (.Name x npos) b ipos] X.env).map (·.2) = [assign (.Subscript (.Name x npos) b ipos) X.env] := by rfl)
    (ha : ∀ v : Value, assign (.Subscript (.Name x npos) b ipos) X.env v = (do
      let ov ← holding [v] (eval (.Name x npos) X.env)
      let iv ← holding [v, ov] (eval b X.env)
      standAt ipos
      holding [v, ov, iv] (setItem ov iv v)
      release [v, ov, iv] []) := by intro _; rfl) : SDs X (.Assign [.Subscript (.Name x npos) b ipos] e pos :: rest) env Φ := by
  refine PSs.imp (pss_cons (ps_asg he (pg_sub (pv i hN hv hd hcd) hb set_list ha) hs hw h1) (PSs.ex fun k : {k : Int // 0 ≤ k ∧ k < xs.length ∧ Ψ k} => hr k.1 k.2.1 k.2.2.1 k.2.2.2)) fun E σ H ⟨B, G, T, F, S, n⟩ => ⟨B, G, T, F, S, fun v d1 F1 H1 S1 g1 dn1 e1 => ?_⟩
  subst e1
  obtain ⟨o, eo, q⟩ := S1.some_at hi
  obtain ⟨p, vs, e2, bb, f, np, hp, dn⟩ := q
  subst e2
  refine ⟨_, eo, B, G, T, F1, S1, fun u d2 F2 H2 S2 g2 dn2 ⟨k, e3, ⟨k0, k1⟩, hk⟩ => ?_⟩
  subst e3
  cases dn2
  have hp' := g2.hh _ _ hp np
  have hl : vs.length = xs.length := dn.length
  refine ⟨p, vs, k, k.toNat, rfl, rfl, hp', ?_, ⟨⟨k, k0, k1, hk⟩, B, G, T, F2, S2.upd_own hi eo ((dn.mono g2.ff).set k.toNat (dn1.mono g2.ff)), n⟩⟩
  simp [L2.ixN, k0, hl, k1]
/-- a, b = x, y where the right sides are open readings -/
theorem sds_parA {y : Str} {Ψ : List D → Prop} {px py pt : Pos} {kt k2 : Nat} {pt2 : Pos} (i j : Nat) (hc : X.calm = true) (h : AR X [a, b] env Ψ) (hr : ∀ u v, Ψ [u, v] → SDs X rest ((env.set i (.dt u)).set j (.dt v)) Φ) (hN : X.N.Nodup := by assumption) (hi : X.N[i]? = some x := by rfl) (hj : X.N[j]? = some y := by rfl) (hij : i ≠ j := by decide)
    (hx : X.env.scope.names.lookup x = some .local := by rfl) (hy : X.env.scope.names.lookup y = some .local := by rfl) (hw : swappedStores [.Tuple [.Name x px, .Name y py] kt pt] (.Tuple [a, b] k2 pt2) X.env = pure (some [x, y]) := by rfl)
    (hs : swapsWithSole [.Tuple [.Name x px, .Name y py] kt pt] (.Tuple [a, b] k2 pt2) pos.line X.env = pure false := by rfl) (hΨ : ∀ ds, Ψ ds → ds.length = 2 := by intro ds h; obtain ⟨_, _, rfl, _, _, _, rfl, _, rfl⟩ := h; rfl) : SDs X (.Assign [.Tuple [.Name x px, .Name y py] kt pt] (.Tuple [a, b] k2 pt2) pos :: rest) env Φ :=
  PSs.imp (pss_cons (ps_par hc hN hi hj hij hx hy h hw hs) (PSs.ex fun q : {q : D × D // Ψ [q.1, q.2]} => hr q.1.1 q.1.2 q.2)) fun E σ H ⟨B, G, T, F, S, n⟩ => ⟨B, G, T, F, S, fun vs ds F1 H1 S1 g1 da hd => by
    have hl := hΨ ds hd
    match ds, hl with
    | [u, v], _ =>
      cases da with | cons d1 t =>
      cases t with | cons d2 t =>
      cases t
      exact ⟨_, _, rfl, ⟨⟨(u, v), hd⟩, B, G, T, F1, (S1.set_dt d1 i).set_dt d2 j, n⟩⟩⟩
/-- a list display indexed by an open number -/
def PD (p : D → Prop) (n : Nat) (ds : List D) : Prop := ds.length = n ∧ ∀ k ∈ ds, p k
theorem pd_nil {p : D → Prop} : AR X [] env (PD p 0) := ar_nil.imp fun ds e => by subst e; exact ⟨rfl, by simp⟩
theorem pd_cons {p : D → Prop} {n : Nat} (h : ER X e env p) (hr : AR X es env (PD p n)) (hs : starEach (e :: es) X.env = (false, eval e X.env) :: starEach es X.env := by rfl) : AR X (e :: es) env (PD p (n + 1)) :=
  (ar_cons h hr hs).imp fun ds ⟨d, r, e, pd, l, q⟩ => by
    subst e
    refine ⟨by simp [l], fun k hk => ?_⟩
    rcases List.mem_cons.1 hk with rfl | hk
    · exact pd
    · exact q k hk
theorem er_pickD {b : Expr} {p : D → Prop} {n : Nat} {pos2 : Pos} (ha : AR X es env (PD p n)) (hb : ER X b env (fun d => ∃ k : Int, d = .int k ∧ 0 ≤ k ∧ k < n)) (hn : n ≤ 1000 := by decide) (hs : PlainIx b := by exact fun _ _ => rfl) : ER X (.Subscript (.List es pos2) b pos) env p :=
  er_ix (er_lst (Φ := fun d => ∃ ds, d = .list ds ∧ PD p n ds) ha fun ds h => ⟨by rw [h.1]; omega, ds, rfl, h⟩) hb (fun x y ⟨ds, ex, h⟩ ⟨k, ey, k0, k1⟩ => by
    subst ex; subst ey
    have hl : k.toNat < ds.length := by rw [h.1]; omega
    have e : ds[k.toNat]? = some ds[k.toNat] := List.getElem?_eq_getElem hl
    exact (i_lst ((atI_get k0 (by rw [h.1]; exact k1)).trans e)).imp fun d z => by subst z; exact h.2 _ (List.getElem_mem hl)) hs
theorem er_binL {a b : Expr} {op : Operator} {Ψ : D → Prop} {Φ : D → Prop} {y : D} {pos : Pos} (ha : ER X a env Φ) (hb : ED X b env y) (h : ∀ x, Φ x → OpD X (binaryOp op) x y Ψ) : ER X (.BinOp a op b pos) env Ψ := er_bin ha hb fun x _ φ e => by subst e; exact h x φ
theorem IR.is {tg iter : Expr} {xs ys : List D} (h : IR X tg iter env xs) (e : xs = ys) : IR X tg iter env ys := e ▸ h
/-! ### comprehensions over typed lists -/
theorem take_succ' {α : Type} {xs : List α} {k : Nat} {a : α} (h : xs[k]? = some a) : xs.take (k + 1) = xs.take k ++ [a] := by
  rw [List.take_add_one, h]; rfl
section
variable {elt tg iter : Expr} {ifs : List Expr} {scope : Scope}
theorem lcM_step {α : Type} {own : List (Str × Nat)} {xs : List α} {en : α → D} {t : α → Bool} {f : α → D}
    (hs : ∀ a, a ∈ xs → ∃ env'' is, LcOk X scope tg ifs elt env (own.map (·.2)) (en a) env'' is (t a) (fun y => y = f a)) (k : Nat) (d : D) (ys : List D) (hk : (xs.map en)[k]? = some d) (hy : ys = ((xs.take k).filter t).map f) :
    ∃ env'' is b Φ, LcOk X scope tg ifs elt env (own.map (·.2)) d env'' is b Φ ∧ (b = false → ys = ((xs.take (k + 1)).filter t).map f) ∧ (b = true → ∀ y, Φ y → ys ++ [y] = ((xs.take (k + 1)).filter t).map f) := by
  rw [List.getElem?_map] at hk
  cases e : xs[k]? with
  | none => rw [e] at hk; cases hk
  | some a =>
    rw [e] at hk
    cases hk
    obtain ⟨env'', is, o⟩ := hs a (List.mem_of_getElem? e)
    refine ⟨env'', is, _, _, o, fun h => ?_, fun h y z => ?_⟩
    · rw [hy, take_succ' e, List.filter_append]; simp [h]
    · rw [hy, take_succ' e, List.filter_append, z]; simp [h]
theorem ex_lcM {α : Type} (own : List (Str × Nat)) (xs : List α) (en : α → D) (t : α → Bool) (f : α → D) (hc : X.calm = true) (hi : IR X tg iter env (xs.map en)) (hz : xs.length ≤ 10000000)
    (hs : ∀ a, a ∈ xs → ∃ env'' is, LcOk X scope tg ifs elt env (own.map (·.2)) (en a) env'' is (t a) (fun y => y = f a))
    (ok : BlkOk X.N X.env.scope scope own := by exact blkOk_by (by kernel_rfl)) (hN : X.N.Nodup := by assumption) (hf : ∀ x, foldedSetIterable iter X.env x = pure x := by intro _; rfl) : EX X (.ListComp elt [⟨tg, iter, ifs, 0⟩] scope pos) env (.own ((xs.filter t).map f)) :=
  PE.imp (exr_lc own (fun k ys => ys = ((xs.take k).filter t).map f) hc hi (by simpa using hz) rfl (fun k d ys hk hy => lcM_step hs k d ys hk hy) ok hN hf) fun σ H Q ⟨B, G, T, F, S, q⟩ => ⟨B, G, T, F, S, fun v s F1 H1 S1 g1 fr ⟨ys, e1, e2⟩ => q v s F1 H1 S1 g1 fr (by rw [e1, e2]; simp)⟩
theorem filter_tt {α : Type} {xs : List α} : xs.filter (fun _ => true) = xs := by simp
theorem ex_lcA {α : Type} (own : List (Str × Nat)) (xs : List α) (en : α → D) (f : α → D) (hc : X.calm = true) (hi : IR X tg iter env (xs.map en)) (hz : xs.length ≤ 10000000)
    (hs : ∀ a, a ∈ xs → ∃ env'' is, LcOk X scope tg ifs elt env (own.map (·.2)) (en a) env'' is true (fun y => y = f a))
    (ok : BlkOk X.N X.env.scope scope own := by exact blkOk_by (by kernel_rfl)) (hN : X.N.Nodup := by assumption) (hf : ∀ x, foldedSetIterable iter X.env x = pure x := by intro _; rfl) : EX X (.ListComp elt [⟨tg, iter, ifs, 0⟩] scope pos) env (.own (xs.map f)) := by
  have := ex_lcM own xs en (fun _ => true) f hc hi hz hs ok hN hf (pos := pos)
  rw [filter_tt] at this
  exact this
/-- every element an open reading -/
theorem exr_lcP {α : Type} (own : List (Str × Nat)) (xs : List α) (en : α → D) (p : D → Prop) (hc : X.calm = true) (hi : IR X tg iter env (xs.map en)) (hz : xs.length ≤ 10000000)
    (hs : ∀ a, a ∈ xs → ∃ env'' is, LcOk X scope tg ifs elt env (own.map (·.2)) (en a) env'' is true p)
    (ok : BlkOk X.N X.env.scope scope own := by exact blkOk_by (by kernel_rfl)) (hN : X.N.Nodup := by assumption) (hf : ∀ x, foldedSetIterable iter X.env x = pure x := by intro _; rfl) : EXR X (.ListComp elt [⟨tg, iter, ifs, 0⟩] scope pos) env (fun s => ∃ ys, s = .own ys ∧ ys.length = xs.length ∧ ∀ y ∈ ys, p y) :=
  PE.imp (exr_lc own (fun k ys => ys.length = k ∧ ∀ y ∈ ys, p y) hc hi (by simpa using hz) ⟨rfl, by simp⟩ (fun k d ys hk hy => by
    rw [List.getElem?_map] at hk
    cases e : xs[k]? with
    | none => rw [e] at hk; cases hk
    | some a =>
      rw [e] at hk
      cases hk
      obtain ⟨env'', is, o⟩ := hs a (List.mem_of_getElem? e)
      refine ⟨env'', is, _, _, o, fun h => (by cases h), fun h y z => ⟨by simp [hy.1], fun u hu => ?_⟩⟩
      rcases List.mem_append.1 hu with q | q
      · exact hy.2 u q
      · rw [List.mem_singleton] at q; subst q; exact z) ok hN hf) fun σ H Q ⟨B, G, T, F, S, q⟩ => ⟨B, G, T, F, S, fun v s F1 H1 S1 g1 fr ⟨ys, e1, e2, e3⟩ => q v s F1 H1 S1 g1 fr ⟨ys, e1, by simpa using e2, e3⟩⟩
theorem sds_lcM {α : Type} {y : Str} {py spos : Pos} (i : Nat) (own : List (Str × Nat)) (xs : List α) (en : α → D) (t : α → Bool) (f : α → D) (hc : X.calm = true) (hi : IR X tg iter env (xs.map en)) (hz : xs.length ≤ 10000000)
    (hs : ∀ a, a ∈ xs → ∃ env'' is, LcOk X scope tg ifs elt env (own.map (·.2)) (en a) env'' is (t a) (fun y => y = f a))
    (hr : SDs X rest (env.set i (.own ((xs.filter t).map f))) Φ)
    (ok : BlkOk X.N X.env.scope scope own := by exact blkOk_by (by kernel_rfl)) (hN : X.N.Nodup := by assumption) (hy : X.N[i]? = some y := by rfl) (hyl : X.env.scope.names.lookup y = some .local := by rfl)
    (hsw : swapsWith (.ListComp elt [⟨tg, iter, ifs, 0⟩] scope pos) (some (.Name y py)) spos.line X.env = pure true := by exact sw_true rfl rfl rfl (by kernel_rfl)) (hf : ∀ x, foldedSetIterable iter X.env x = pure x := by intro _; rfl) : SDs X (.Assign [.Name y py] (.ListComp elt [⟨tg, iter, ifs, 0⟩] scope pos) spos :: rest) env Φ :=
  sds_lc i own (fun k ys => ys = ((xs.take k).filter t).map f) hc hi (by simpa using hz) rfl (fun k d ys hk hy => lcM_step hs k d ys hk hy) (fun ys e => by rw [List.length_map, List.take_length] at e; subst e; exact hr) ok hN hy hyl hsw hf
theorem sds_lcA {α : Type} {y : Str} {py spos : Pos} (i : Nat) (own : List (Str × Nat)) (xs : List α) (en : α → D) (f : α → D) (hc : X.calm = true) (hi : IR X tg iter env (xs.map en)) (hz : xs.length ≤ 10000000)
    (hs : ∀ a, a ∈ xs → ∃ env'' is, LcOk X scope tg ifs elt env (own.map (·.2)) (en a) env'' is true (fun y => y = f a))
    (hr : SDs X rest (env.set i (.own (xs.map f))) Φ)
    (ok : BlkOk X.N X.env.scope scope own := by exact blkOk_by (by kernel_rfl)) (hN : X.N.Nodup := by assumption) (hy : X.N[i]? = some y := by rfl) (hyl : X.env.scope.names.lookup y = some .local := by rfl)
    (hsw : swapsWith (.ListComp elt [⟨tg, iter, ifs, 0⟩] scope pos) (some (.Name y py)) spos.line X.env = pure true := by exact sw_true rfl rfl rfl (by kernel_rfl)) (hf : ∀ x, foldedSetIterable iter X.env x = pure x := by intro _; rfl) : SDs X (.Assign [.Name y py] (.ListComp elt [⟨tg, iter, ifs, 0⟩] scope pos) spos :: rest) env Φ :=
  sds_lcM i own xs en (fun _ => true) f hc hi hz hs (by rw [filter_tt]; exact hr) ok hN hy hyl hsw hf
theorem sds_lcP {α : Type} {y : Str} {py spos : Pos} (i : Nat) (own : List (Str × Nat)) (xs : List α) (en : α → D) (p : D → Prop) (hc : X.calm = true) (hi : IR X tg iter env (xs.map en)) (hz : xs.length ≤ 10000000)
    (hs : ∀ a, a ∈ xs → ∃ env'' is, LcOk X scope tg ifs elt env (own.map (·.2)) (en a) env'' is true p)
    (hr : ∀ ys : List D, ys.length = xs.length → (∀ y ∈ ys, p y) → SDs X rest (env.set i (.own ys)) Φ)
    (ok : BlkOk X.N X.env.scope scope own := by exact blkOk_by (by kernel_rfl)) (hN : X.N.Nodup := by assumption) (hy : X.N[i]? = some y := by rfl) (hyl : X.env.scope.names.lookup y = some .local := by rfl)
    (hsw : swapsWith (.ListComp elt [⟨tg, iter, ifs, 0⟩] scope pos) (some (.Name y py)) spos.line X.env = pure true := by exact sw_true rfl rfl rfl (by kernel_rfl)) (hf : ∀ x, foldedSetIterable iter X.env x = pure x := by intro _; rfl) : SDs X (.Assign [.Name y py] (.ListComp elt [⟨tg, iter, ifs, 0⟩] scope pos) spos :: rest) env Φ :=
  sds_lc i own (fun k ys => ys.length = k ∧ ∀ y ∈ ys, p y) hc hi (by simpa using hz) ⟨rfl, by simp⟩ (fun k d ys hk hy => by
    rw [List.getElem?_map] at hk
    cases e : xs[k]? with
    | none => rw [e] at hk; cases hk
    | some a =>
      rw [e] at hk
      cases hk
      obtain ⟨env'', is, o⟩ := hs a (List.mem_of_getElem? e)
      refine ⟨env'', is, _, _, o, fun h => (by cases h), fun h y z => ⟨by simp [hy.1], fun u hu => ?_⟩⟩
      rcases List.mem_append.1 hu with q | q
      · exact hy.2 u q
      · rw [List.mem_singleton] at q; subst q; exact z) (fun ys e => hr ys (by simpa using e.1) e.2) ok hN hy hyl hsw hf
end
/-! ### hints -/
def oD : Option Int → D
  | none => .none
  | some i => .int i
def hintD (h : Cal.Hint) : D := .tuple [oD h.w, oD h.d, oD h.m, oD h.y]
theorem isNone_oD {o : Option Int} : isNone (oD o) = o.isNone := by cases o <;> rfl
theorem flat_oD {o : Option Int} : flatD (oD o) = true := by cases o <;> rfl
theorem shaped_oD {o : Option Int} : SeqAt.shaped (oD o) = true := by cases o <;> rfl
theorem nodic_oD {o : Option Int} : nodic (oD o) = true := by cases o <;> rfl
theorem eqv_oD {o q : Option Int} : PyData.eqv (oD o) (oD q) = decide (o = q) := by
  cases o <;> cases q <;> simp [oD, PyData.eqv]
  rfl
theorem eqv_oDi {o : Option Int} {i : Int} : PyData.eqv (oD o) (.int i) = decide (o = some i) := eqv_oD (q := some i)
theorem ok_D {o : Option Int} {v : Int} : (isNone (oD o) || PyData.eqv (oD o) (.int v)) = Cal.ok o v := by
  rw [eqv_oDi]; cases o <;> simp [Cal.ok, oD, isNone]
theorem ne_D {o : Option Int} {v : Int} : (!isNone (oD o) && !PyData.eqv (oD o) (.int v)) = !Cal.ok o v := by
  rw [← ok_D]; simp
theorem isSome_of {o : Option Int} (h : (!isNone (oD o)) = true) : ∃ v, o = some v := by
  cases o with
  | none => cases h
  | some v => exact ⟨v, rfl⟩
theorem o_gtO {o : Option Int} {k : Int} (h : (!isNone (oD o)) = true) : OpD X (compareOp .Gt) (oD o) (.int k) (fun d => d = .bool (decide (k < o.getD 0))) := by
  obtain ⟨v, rfl⟩ := isSome_of h; exact o_gt
theorem o_ltO {o : Option Int} {k : Int} (h : (!isNone (oD o)) = true) : OpD X (compareOp .Lt) (oD o) (.int k) (fun d => d = .bool (decide (o.getD 0 < k))) := by
  obtain ⟨v, rfl⟩ := isSome_of h; exact o_lt
theorem o_gtO' {o : Option Int} {k : Int} (h : (!isNone (oD o)) = true) : OpD X (compareOp .Gt) (.int k) (oD o) (fun d => d = .bool (decide (o.getD 0 < k))) := by
  obtain ⟨v, rfl⟩ := isSome_of h; exact o_gt
theorem o_ltO' {o : Option Int} {k : Int} (h : (!isNone (oD o)) = true) : OpD X (compareOp .Lt) (.int k) (oD o) (fun d => d = .bool (decide (k < o.getD 0))) := by
  obtain ⟨v, rfl⟩ := isSome_of h; exact o_lt
theorem yr_true {o : Option Int} {P : Int → Prop} [∀ v, Decidable (P v)] (h : (!isNone (oD o) && decide (P (o.getD 0))) = true) : ∃ v, o = some v ∧ P v := by
  cases o with
  | none => cases h
  | some v => exact ⟨v, rfl, by simpa [oD, isNone] using h⟩
theorem yr_false {o : Option Int} {P : Int → Prop} [∀ v, Decidable (P v)] (h : (!isNone (oD o) && decide (P (o.getD 0))) = false) : ∀ v, o = some v → ¬ P v := by
  intro v e
  subst e
  simpa [oD, isNone] using h
theorem getD_range4 {i : Nat} {dd : D} (h : (rangeD 0 4)[i]? = some dd) : (i = 0 ∧ dd = .int 0) ∨ (i = 1 ∧ dd = .int 1) ∨ (i = 2 ∧ dd = .int 2) ∨ (i = 3 ∧ dd = .int 3) := by
  have hl : i < 4 := by
    rcases Nat.lt_or_ge i 4 with h1 | h1
    · exact h1
    · rw [List.getElem?_eq_none (by rw [rangeD_len]; exact h1)] at h; cases h
  rw [rangeD_get hl] at h
  cases h
  have : i = 0 ∨ i = 1 ∨ i = 2 ∨ i = 3 := by omega
  rcases this with rfl | rfl | rfl | rfl <;> simp
end
end DL

namespace DL
open PySem PySem.Spec PyProof.Rows L2 RZ
section
variable {X : Cx} {e a b c : Expr} {es : List Expr} {env : List Sl} {Φ : Out} {pos p p2 pos2 : Pos} {rest thn els : List Stmt} {x : Str}
theorem dnA_rng {K : Fg} {F : Hp} {lo hi : Int} : DnA K F (rgV lo hi) (rangeD lo (hi - lo).toNat) := by
  unfold rgV rangeD
  generalize (hi - lo).toNat = n
  induction (List.range n) with
  | nil => exact .nil
  | cons i t ih => exact .cons (.int _) ih
theorem ed_listRg2 {lo hi : Int} (ha : ED X a env (.int lo)) (hb : ED X b env (.int hi)) (h1 : -1000000 ≤ lo) (h2 : hi ≤ 1000000) (h3 : lo ≤ 1000000 ∧ -1000000 ≤ hi) (hc : X.calm = true) (hm : X.mg "list" = none) (hm2 : X.mg "range" = none) (hg : Gl X "list" := by rfl) (hg2 : Gl X "range" := by rfl)
    (na : starEach [a, b] X.env = (false, eval a X.env) :: starEach [b] X.env := by rfl) (nb : starEach [b] X.env = (false, eval b X.env) :: starEach [] X.env := by rfl) (hp : (backTo pos2 (starEach [b] X.env)).any (·.1) = false := by rfl)
    (nc : starEach [.Call (.Name "range" p2) [a, b] [] pos2] X.env = (false, eval (.Call (.Name "range" p2) [a, b] [] pos2) X.env) :: starEach [] X.env := by rfl) :
    ED X (.Call (.Name "list" p) [.Call (.Name "range" p2) [a, b] [] pos2] [] pos) env (.list (rangeD lo (hi - lo).toNat)) :=
  PE.imp (pe_listRg hc hg hm (prg_2 hg2 hm2 ha hb na nb hp) nc) fun σ H Q ⟨B, G, T, F, S, q⟩ => ⟨B, G, T, F, S, fun v d F1 H1 S1 g1 dn1 e1 => by
    subst e1
    cases dn1
    refine ⟨B, G, T, F1, S1, fun u d2 F2 H2 S2 g2 dn2 e2 => ?_⟩
    subst e2
    cases dn2
    refine ⟨_, _, rfl, rfl, ⟨by omega, by omega, by omega, by omega, by omega⟩, fun r hr => ?_⟩
    obtain ⟨S', g⟩ := S2.lay (o := .lst (rgV lo hi)) hr
    exact q _ _ _ _ S' ((g1.trans g2 S1.tpn).trans g S2.tpn) (.lst upd_same dnA_rng) rfl⟩
/-! ### rules -/
def ruleS (r : Nat) : Str := if r = 0 then "next" else if r = 1 then "last" else "closest"
def odD : Option Int → D
  | none => .none
  | some n => dayD (Cal.dayOf n)
theorem r3 {r : Nat} (h : r < 3) : r = 0 ∨ r = 1 ∨ r = 2 := by omega
theorem rule_next {r : Nat} (h : r < 3) : PyData.eqv (.str (ruleS r)) (.str "next") = decide (r = 0) := by rcases r3 h with rfl | rfl | rfl <;> rfl
theorem rule_last {r : Nat} (h : r < 3) : PyData.eqv (.str (ruleS r)) (.str "last") = decide (r = 1) := by rcases r3 h with rfl | rfl | rfl <;> rfl
theorem rule_closest {r : Nat} (h : r < 3) : PyData.eqv (.str (ruleS r)) (.str "closest") = decide (r = 2) := by rcases r3 h with rfl | rfl | rfl <;> rfl
theorem rule_shaped {r : Nat} (h : r < 3) : SeqAt.shaped (.str (ruleS r)) = true := by rcases r3 h with rfl | rfl | rfl <;> decide +kernel
theorem notin_D {o : Option Int} {v : Int} : (!([PyData.none, .int v].any fun y => PyData.eqv y (oD o))) = !Cal.ok o v := by
  cases o with
  | none => rfl
  | some q => simp [oD, PyData.eqv, Cal.ok]; apply Bool.eq_iff_iff.2; simp; exact eq_comm
theorem lk_odD {o : Option Int} : lk 4 (odD o) = true := by cases o <;> rfl
theorem lk_oD {o : Option Int} : lk 4 (oD o) = true := by cases o <;> rfl
theorem isNone_odD {o : Option Int} : isNone (odD o) = o.isNone := by cases o <;> rfl
theorem eqv_odD {o : Option Int} : PyData.eqv (odD o) (odD o) = true := by cases o <;> simp [odD, dayD, PyData.eqv, PyData.eqvAll]
theorem num_of (n : Int) : Cal.num (Cal.dayOf n).1 (Cal.dayOf n).2.1 (Cal.dayOf n).2.2 = n := (Cal.dayOf_spec n).2.2.2.2
def DD : D → Prop := fun x => ∃ y m d : Int, x = dayD (y, m, d) ∧ 1000 ≤ y ∧ y ≤ 9000 ∧ VDay y m d
theorem ed_opt {o : Option Int} {f : Int → Int} (hc : TD X c env (isNone (oD o))) (ha : ED X a env .none) (hb : ∀ z, o = some z → ED X b env (.int (f z))) : ED X (.IfExp c a b pos) env (oD (o.map f)) := by
  cases o with
  | none => exact ED.is (ed_if (k := true) hc (fun _ => ha) (y := .none) (fun z => nomatch z)) rfl
  | some v => exact ED.is (ed_if (k := false) hc (x := .none) (fun z => nomatch z) (fun _ => hb v rfl)) rfl
end
end DL

namespace DL
open PySem PySem.Spec PyProof.Rows L2 RZ
section
variable {X : Cx} {e a b c : Expr} {es : List Expr} {env : List Sl} {Φ : Out} {pos p p2 pos2 : Pos} {rest thn els : List Stmt} {x : Str}
/-! ### a list unpacked -/
theorem gr_lst {es : List Expr} {ds : List D} {env' : List Sl} {is : List Nat} {kk : Nat} {n : Nat} (hc : X.calm = true) (h : GRs X es env ds env' is) (hl : ds.length = n) (hn : (assignEach es X.env).length = n := by rfl) (hst : (assignEach es X.env).findIdx? (·.1) = none := by rfl) : GR X (.Tuple es kk pos) env (.list ds) env' is :=
  PG.imp (pg_unl hc h hn hst) fun v σ H Q ⟨B, G, T, F, S, dn, q⟩ => by
    cases dn with | lst h d =>
    exact ⟨_, _, rfl, SqL.of (S.fh _ _ h), d.length.trans hl, B, G, T, F, S, d, q⟩
/-! ### sorted -/
theorem perm_rel {α : Type} {K : Fg} {F : Hp} {f : α → D} {vs us : List V} (h : us.Perm vs) : ∀ {xs : List α}, DnA K F vs (xs.map f) → ∃ ys : List α, DnA K F us (ys.map f) ∧ ys.Perm xs := by
  induction h with
  | nil => intro xs d; exact ⟨xs, d, .refl _⟩
  | cons v _ ih =>
    intro xs d
    cases xs with
    | nil => cases d
    | cons x t =>
      cases d with | cons d1 d2 =>
      obtain ⟨ys, e1, e2⟩ := ih d2
      exact ⟨x :: ys, .cons d1 e1, e2.cons x⟩
  | swap v u l =>
    intro xs d
    cases xs with
    | nil => cases d
    | cons x t =>
      cases d with | cons d1 d2 =>
      cases t with
      | nil => cases d2
      | cons y t =>
        cases d2 with | cons d2 d3 =>
        exact ⟨y :: x :: t, .cons d2 (.cons d1 d3), .swap x y t⟩
  | trans _ _ ih1 ih2 =>
    intro xs d
    obtain ⟨ys, e1, e2⟩ := ih2 d
    obtain ⟨zs, e3, e4⟩ := ih1 e1
    exact ⟨zs, e3, e4.trans e2⟩
def tupI (ns : List Int) : D := .tuple (ns.map PyData.int)
theorem Dn.tupI {K : Fg} {F H : Hp} {v : V} {ns : List Int} (h : Dn K F v (tupI ns)) (e : Ex F H) : L2.TupI K H v ns := by
  unfold DL.tupI at h
  cases h with | tup h d => exact ⟨_, rfl, by rw [← d.ints]; exact ex_t e h⟩
theorem c_sortT {d : Nat} {B : Int} (hd : 1 ≤ d) {xs : List (List Int)} (hl : xs.length < 64) (hx : ∀ ns ∈ xs, ns.length = d ∧ TS.Bd B ns) :
    CaD X (.builtin "sorted") [.list (xs.map tupI)] (fun z => ∃ ys : List (List Int), z = .list (ys.map tupI) ∧ ys.Perm xs ∧ ys.Pairwise (fun n m => TS.code B n ≤ TS.code B m)) := ⟨_, cr_sortT (B := B) hd, fun B1 G T F env σ H vs Q S hv q => by
  cases hv with | cons h t =>
  cases t
  cases h with | lst h dd =>
  have hl' : _ := dd.length
  refine ⟨_, _, rfl, SqL.of (S.fh _ _ h), by rw [hl', List.length_map]; exact hl, fun v hv => ?_, fun ys p hp hpw hn => ?_⟩
  · obtain ⟨i, hi, e⟩ := List.getElem_of_mem hv
    obtain ⟨z, hz, dz⟩ := dd.getV (i := i) (v := v) (by rw [List.getElem?_eq_getElem hi, e])
    rw [List.getElem?_map] at hz
    cases hx' : xs[i]? with
    | none => rw [hx'] at hz; cases hz
    | some ns =>
      rw [hx'] at hz
      cases hz
      exact ⟨ns, dz.tupI S.fh, hx ns (List.mem_of_getElem? hx')⟩
  · obtain ⟨zs, d2, pz⟩ := perm_rel hp dd
    obtain ⟨S', g⟩ := S.lay (o := .lst ys) hn
    refine q _ _ _ _ S' g (.lst upd_same (d2.mono g.ff)) ⟨zs, rfl, pz, ?_⟩
    have : ∀ {us : List V} {zs : List (List Int)}, DnA X.K F us (zs.map tupI) → us.Pairwise (fun x y => ∀ n m, L2.TupI X.K H x n → L2.TupI X.K H y m → TS.code B n ≤ TS.code B m) → zs.Pairwise (fun n m => TS.code B n ≤ TS.code B m) := by
      intro us
      induction us with
      | nil => intro zs d _; cases zs with
        | nil => exact .nil
        | cons _ _ => cases d
      | cons u us ih =>
        intro zs d pw
        cases zs with
        | nil => exact .nil
        | cons z zs =>
          cases d with | cons d1 d2 =>
          have pw := List.pairwise_cons.1 pw
          refine List.pairwise_cons.2 ⟨fun m hm => ?_, ih d2 pw.2⟩
          obtain ⟨i, hi, e⟩ := List.getElem_of_mem hm
          obtain ⟨v, hv, dv⟩ := d2.get (i := i) (d := tupI m) (by rw [List.getElem?_map, List.getElem?_eq_getElem hi, e]; rfl)
          exact pw.1 v (List.mem_of_getElem? hv) _ _ (d1.tupI S.fh) (dv.tupI S.fh)
    exact this d2 hpw⟩
end
end DL

namespace Cal
/-! ### a hint in a month -/
theorem fit_in {h : Hint} {t n : Int} (h1 : mI t ≤ n) (h2 : n < mI (t + 1)) : fitB h n = (ok h.w ((n - 1) % 7) && (ok h.d (n - mI t + 1) && (ok h.m (t % 12 + 1) && ok h.y (t / 12)))) := by
  unfold fitB
  rw [dayOf_parts n, tOf_eq h1 h2]
theorem ok_iff {p : Option Int} {v : Int} : ok p v = true ↔ (p = none ∨ p = some v) := by
  cases p <;> simp [ok]
theorem fit_iff {h : Hint} {t n : Int} (h1 : mI t ≤ n) (h2 : n < mI (t + 1)) : fitB h n = true ↔ ((h.w = none ∨ h.w = some ((n - 1) % 7)) ∧ (h.d = none ∨ h.d = some (n - mI t + 1)) ∧ (h.m = none ∨ h.m = some (t % 12 + 1)) ∧ (h.y = none ∨ h.y = some (t / 12))) := by
  rw [fit_in h1 h2]; simp only [Bool.and_eq_true, ok_iff]
/-- the fits of a month: from low to high by step -/
structure MF (h : Hint) (t lo hi st : Int) : Prop where
  s17 : st = 1 ∨ st = 7
  ft : ∀ n, mI t ≤ n → n < mI (t + 1) → (fitB h n = true ↔ (lo ≤ n ∧ n ≤ hi ∧ (n - lo) % st = 0))
  bd : lo ≤ hi → mI t ≤ lo ∧ hi < mI (t + 1) ∧ (hi - lo) % st = 0
  sm : lo ≤ hi ∨ (lo = 1 ∧ hi = 0)
theorem mf_none {h : Hint} {t : Int} (k : ∀ n, mI t ≤ n → n < mI (t + 1) → fitB h n = false) : MF h t 1 0 1 :=
  ⟨.inl rfl, fun n h1 h2 => by rw [k n h1 h2]; exact ⟨fun q => (nomatch q), fun q => by omega⟩, fun q => by omega, .inr ⟨rfl, rfl⟩⟩
theorem mf_date {h : Hint} {t d : Int} (hm : h.m = none ∨ h.m = some (t % 12 + 1)) (hy : h.y = none ∨ h.y = some (t / 12)) (hd : h.d = some d) (hw : h.w = none ∨ h.w = some ((mI t + d - 1 - 1) % 7)) (d1 : 1 ≤ d) (d2 : d ≤ lI t) : MF h t (mI t + d - 1) (mI t + d - 1) 1 := by
  have hs := mI_succ t
  refine ⟨.inl rfl, fun n h1 h2 => ?_, fun _ => ⟨by omega, by omega, by omega⟩, .inl (Int.le_refl _)⟩
  rw [fit_iff h1 h2, hd]
  constructor
  · rintro ⟨_, q, _, _⟩
    rcases q with q | q
    · cases q
    · simp only [Option.some.injEq] at q; omega
  · rintro ⟨q1, q2, _⟩
    have e : n = mI t + d - 1 := by omega
    subst e
    exact ⟨hw, .inr (by congr 1; omega), hm, hy⟩
theorem mf_date0 {h : Hint} {t d : Int} (hd : h.d = some d) (k : lI t < d ∨ ∃ w, h.w = some w ∧ w ≠ (mI t + d - 1 - 1) % 7) : MF h t 1 0 1 := by
  refine mf_none fun n h1 h2 => ?_
  have hs := mI_succ t
  cases e : fitB h n with
  | false => rfl
  | true =>
    rw [fit_iff h1 h2, hd] at e
    obtain ⟨e1, e2, _⟩ := e
    rcases e2 with q | q
    · cases q
    · simp only [Option.some.injEq] at q
      rcases k with k | ⟨w, k1, k2⟩
      · omega
      · rw [k1] at e1
        rcases e1 with e1 | e1
        · cases e1
        · simp only [Option.some.injEq] at e1
          have : n = mI t + d - 1 := by omega
          subst this
          exact (k2 e1).elim
theorem mf_all {h : Hint} {t : Int} (hm : h.m = none ∨ h.m = some (t % 12 + 1)) (hy : h.y = none ∨ h.y = some (t / 12)) (hd : h.d = none) (hw : h.w = none) : MF h t (mI t) (mI t + lI t - 1) 1 := by
  have hs := mI_succ t
  refine ⟨.inl rfl, fun n h1 h2 => ?_, fun _ => ⟨by omega, by omega, by omega⟩, .inl (by have := mlen_lo (t / 12) (t % 12 + 1); unfold lI; omega)⟩
  rw [fit_iff h1 h2]
  constructor
  · intro _; exact ⟨by omega, by omega, by omega⟩
  · intro _; exact ⟨.inl hw, .inl hd, hm, hy⟩
theorem mf_week {h : Hint} {t w : Int} (hm : h.m = none ∨ h.m = some (t % 12 + 1)) (hy : h.y = none ∨ h.y = some (t / 12)) (hd : h.d = none) (hw : h.w = some w) (w0 : 0 ≤ w) (w6 : w ≤ 6) (hl : 28 ≤ lI t) {lo : Int} (hlo : lo = mI t + (w - (mI t - 1) % 7) % 7) :
    MF h t lo (lo + 7 * ((mI t + lI t - 1 - lo) / 7)) 7 := by
  have hs := mI_succ t
  refine ⟨.inr rfl, fun n h1 h2 => ?_, fun _ => ⟨by omega, by omega, by omega⟩, .inl (by omega)⟩
  rw [fit_iff h1 h2, hw]
  constructor
  · rintro ⟨q, _⟩
    rcases q with q | q
    · cases q
    · simp only [Option.some.injEq] at q
      exact ⟨by omega, by omega, by omega⟩
  · rintro ⟨q1, q2, q3⟩
    exact ⟨.inr (by congr 1; omega), .inl hd, hm, hy⟩
theorem mf_out {h : Hint} {t : Int} (k : (∃ m, h.m = some m ∧ m ≠ t % 12 + 1) ∨ (∃ y, h.y = some y ∧ y ≠ t / 12)) : ∀ n, mI t ≤ n → n < mI (t + 1) → fitB h n = false := by
  intro n h1 h2
  cases e : fitB h n with
  | false => rfl
  | true =>
    rw [fit_iff h1 h2] at e
    obtain ⟨_, _, e3, e4⟩ := e
    rcases k with ⟨m, k1, k2⟩ | ⟨y, k1, k2⟩
    · rw [k1] at e3; rcases e3 with q | q
      · cases q
      · exact (k2 (by simpa using q)).elim
    · rw [k1] at e4; rcases e4 with q | q
      · cases q
      · exact (k2 (by simpa using q)).elim
/-! ### the next fit and the last fit -/
def IsNext (h : Hint) (n : Int) : Option Int → Prop
  | none => ∀ j, n ≤ j → fitB h j = false
  | some m => n ≤ m ∧ fitB h m = true ∧ ∀ j, n ≤ j → j < m → fitB h j = false
def IsLast (h : Hint) (n : Int) : Option Int → Prop
  | none => ∀ j, 1 ≤ j → j ≤ n → fitB h j = false
  | some m => 1 ≤ m ∧ m ≤ n ∧ fitB h m = true ∧ ∀ j, m < j → j ≤ n → fitB h j = false
theorem next_uniq {h : Hint} {n : Int} : ∀ {r s : Option Int}, IsNext h n r → IsNext h n s → r = s
  | none, none, _, _ => rfl
  | none, some m, a, b => by have := a m b.1; rw [b.2.1] at this; cases this
  | some m, none, b, a => by have := a m b.1; rw [b.2.1] at this; cases this
  | some m, some k, a, b => by
    rcases Int.lt_trichotomy m k with q | q | q
    · have := b.2.2 m a.1 q; rw [a.2.1] at this; cases this
    · rw [q]
    · have := a.2.2 k b.1 q; rw [b.2.1] at this; cases this
theorem last_uniq {h : Hint} {n : Int} : ∀ {r s : Option Int}, IsLast h n r → IsLast h n s → r = s
  | none, none, _, _ => rfl
  | none, some m, a, b => by have := a m b.1 b.2.1; rw [b.2.2.1] at this; cases this
  | some m, none, b, a => by have := a m b.1 b.2.1; rw [b.2.2.1] at this; cases this
  | some m, some k, a, b => by
    rcases Int.lt_trichotomy m k with q | q | q
    · have := a.2.2.2 k q b.2.1; rw [b.2.2.1] at this; cases this
    · rw [q]
    · have := b.2.2.2 m q a.2.1; rw [a.2.2.1] at this; cases this
theorem least {P : Int → Bool} {n : Int} : ∀ k : Nat, (∃ m, n ≤ m ∧ m < n + k ∧ P m = true) → ∃ m, n ≤ m ∧ P m = true ∧ ∀ j, n ≤ j → j < m → P j = false
  | 0, ⟨m, a, b, _⟩ => by omega
  | k + 1, ⟨m, a, b, c⟩ => by
    by_cases q : ∃ m, n ≤ m ∧ m < n + k ∧ P m = true
    · exact least k q
    · refine ⟨n + k, by omega, ?_, fun j h1 h2 => ?_⟩
      · by_cases e : m = n + k
        · rw [← e]; exact c
        · exact (q ⟨m, a, by omega, c⟩).elim
      · cases e : P j with
        | false => rfl
        | true => exact (q ⟨j, h1, h2, e⟩).elim
theorem next_ex (h : Hint) (n : Int) : ∃ r, IsNext h n r := by
  by_cases q : ∃ m, n ≤ m ∧ fitB h m = true
  · obtain ⟨m, a, b⟩ := q
    obtain ⟨k, h1, h2, h3⟩ := least (P := fitB h) (n := n) (m - n + 1).toNat ⟨m, a, by omega, b⟩
    exact ⟨some k, h1, h2, h3⟩
  · refine ⟨none, fun j hj => ?_⟩
    cases e : fitB h j with
    | false => rfl
    | true => exact (q ⟨j, hj, e⟩).elim
theorem last_ex (h : Hint) (n : Int) : ∃ r, IsLast h n r := by
  by_cases q : ∃ m, 1 ≤ m ∧ m ≤ n ∧ fitB h m = true
  · obtain ⟨m, a0, a, b⟩ := q
    obtain ⟨k, h1, h2, h3⟩ := least (P := fun j => fitB h (-j)) (n := -n) (n - m + 1).toNat ⟨-m, by omega, by omega, by simpa using b⟩
    refine ⟨some (-k), ?_, by omega, h2, fun j q1 q2 => ?_⟩
    · rcases Int.lt_or_le (-m) k with z | z
      · have := h3 (-m) (by omega) z; simp [b] at this
      · omega
    · have := h3 (-j) (by omega) (by omega); simpa using this
  · refine ⟨none, fun j h0 hj => ?_⟩
    cases e : fitB h j with
    | false => rfl
    | true => exact (q ⟨j, h0, hj, e⟩).elim
noncomputable def nxt (h : Hint) (n : Int) : Option Int := Classical.choose (next_ex h n)
noncomputable def lst (h : Hint) (n : Int) : Option Int := Classical.choose (last_ex h n)
theorem nxt_spec (h : Hint) (n : Int) : IsNext h n (nxt h n) := Classical.choose_spec (next_ex h n)
theorem lst_spec (h : Hint) (n : Int) : IsLast h n (lst h n) := Classical.choose_spec (last_ex h n)
theorem nxt_eq {h : Hint} {n : Int} {r : Option Int} (k : IsNext h n r) : r = nxt h n := next_uniq k (nxt_spec h n)
theorem lst_eq {h : Hint} {n : Int} {r : Option Int} (k : IsLast h n r) : r = lst h n := last_uniq k (lst_spec h n)
/-! ### periods -/
theorem fit_400 {h : Hint} (hy : h.y = none) (n : Int) : fitB h (n + 146097) = fitB h n := by
  unfold fitB
  rw [dayOf_400, hy]
  have : (n + 146097 - 1) % 7 = (n - 1) % 7 := by omega
  rw [this]; rfl
theorem fit_400k {h : Hint} (hy : h.y = none) (n : Int) : ∀ k : Nat, fitB h (n + 146097 * k) = fitB h n
  | 0 => by simp
  | k + 1 => by rw [← fit_400k hy n k, ← fit_400 hy (n + 146097 * k)]; congr 1; omega
theorem fit_year {h : Hint} {n Y : Int} (hy : h.y = some Y) (hf : fitB h n = true) : tOf n / 12 = Y := by
  obtain ⟨t1, t2⟩ := tOf_spec n
  rw [fit_iff t1 t2, hy] at hf
  rcases hf.2.2.2 with q | q
  · cases q
  · simpa using q.symm
/-! ### the walk by months, onward -/
def NxInv (h : Hint) (n t : Int) : Prop := ∀ j, n ≤ j → j < mI t → fitB h j = false
structure NSt (h : Hint) (n t0 : Int) : Prop where
  le : tOf n ≤ t0
  yr : ∀ Y, h.y = some Y → Y ≤ t0 / 12
theorem false_of {b : Bool} (h : b = true → False) : b = false := by cases b <;> simp_all
theorem nx_start {h : Hint} {n : Int} (hy : ∀ Y, h.y = some Y → Y ≤ tOf n / 12) : NxInv h n (tOf n) ∧ NSt h n (tOf n) :=
  ⟨fun j h1 h2 => by have := (tOf_spec n).1; omega, Int.le_refl _, hy⟩
theorem nx_startY {h : Hint} {n Y : Int} (hy : h.y = some Y) (hY : tOf n / 12 < Y) : NxInv h n (12 * Y) ∧ NSt h n (12 * Y) := by
  refine ⟨fun j h1 h2 => false_of fun hf => ?_, by omega, fun Y' e => by rw [hy] at e; cases e; omega⟩
  have e := fit_year hy hf
  have := mI_le (show 12 * Y ≤ tOf j by omega)
  have := (tOf_spec j).1
  omega
theorem nx_gone {h : Hint} {n t Y : Int} (I : NxInv h n t) (hy : h.y = some Y) (hY : Y < t / 12) : IsNext h n none := fun j h1 => false_of fun hf => by
  have e := fit_year hy hf
  have := mI_le (show tOf j + 1 ≤ t by omega)
  have := (tOf_spec j).2
  rw [I j h1 (by omega)] at hf; cases hf
theorem nx_end {h : Hint} {n t0 : Int} (S : NSt h n t0) {k : Int} (hk : 4801 ≤ k) (I : NxInv h n (t0 + k)) : IsNext h n none := fun j h1 => false_of fun hf => by
  cases hy : h.y with
  | some Y =>
    have e := fit_year hy hf
    have y1 := S.yr Y hy
    have := mI_le (show tOf j + 1 ≤ t0 + k by omega)
    have := (tOf_spec j).2
    rw [I j h1 (by omega)] at hf; cases hf
  | none =>
    have a1 := (tOf_spec n).2
    have a2 := S.le
    have a3 := mI_400 (tOf n + 1)
    have a4 := mI_le (show tOf n + 1 + 4800 ≤ t0 + k by omega)
    have := fit_400k hy (j - 146097 * ((j - n) / 146097)) ((j - n) / 146097).toNat
    have e : j - 146097 * ((j - n) / 146097) + 146097 * (((j - n) / 146097).toNat : Int) = j := by omega
    rw [e] at this
    rw [this] at hf
    rw [I _ (by omega) (by omega)] at hf; cases hf
theorem nx_some {h : Hint} {n t m : Int} (I : NxInv h n t) (h1 : n ≤ m) (h2 : mI t ≤ m) (hf : fitB h m = true) (hn : ∀ j, n ≤ j → mI t ≤ j → j < m → fitB h j = false) : IsNext h n (some m) :=
  ⟨h1, hf, fun j a b => by
    rcases Int.lt_or_le j (mI t) with q | q
    · exact I j a q
    · exact hn j a q b⟩
theorem nx_step {h : Hint} {n t : Int} (I : NxInv h n t) (hn : ∀ j, n ≤ j → mI t ≤ j → j < mI (t + 1) → fitB h j = false) : NxInv h n (t + 1) := fun j a b => by
  rcases Int.lt_or_le j (mI t) with q | q
  · exact I j a q
  · exact hn j a q b
/-- the first number of a stretch that is not before n -/
theorem mf_next {h : Hint} {t lo hi st n lo' : Int} (M : MF h t lo hi st) (e : lo' = if lo < n then lo + st * ((n - lo + st - 1) / st) else lo) :
    (lo' ≤ hi → n ≤ lo' ∧ mI t ≤ lo' ∧ fitB h lo' = true ∧ ∀ j, n ≤ j → mI t ≤ j → j < lo' → fitB h j = false) ∧ (hi < lo' → ∀ j, n ≤ j → mI t ≤ j → j < mI (t + 1) → fitB h j = false) := by
  obtain ⟨hst, hft, hbd, _⟩ := M
  rcases hst with rfl | rfl <;>
  · refine ⟨fun k => ?_, fun k j h1 h2 h3 => false_of fun hf => ?_⟩
    · have hb : lo ≤ hi := by split at e <;> omega
      obtain ⟨b1, b2, b3⟩ := hbd hb
      have l1 : mI t ≤ lo' := by split at e <;> omega
      refine ⟨by split at e <;> omega, l1, (hft lo' l1 (by omega)).2 ⟨by split at e <;> omega, k, by split at e <;> omega⟩, fun j h1 h2 h3 => false_of fun hf => ?_⟩
      obtain ⟨f1, f2, f3⟩ := (hft j h2 (by omega)).1 hf
      split at e <;> omega
    · obtain ⟨f1, f2, f3⟩ := (hft j h2 h3).1 hf
      split at e <;> omega
/-! ### backward -/
def LsInv (h : Hint) (n t : Int) : Prop := ∀ j, mI (t + 1) ≤ j → j ≤ n → fitB h j = false
structure LSt (h : Hint) (n t0 : Int) : Prop where
  le : t0 ≤ tOf n
  yr : ∀ Y, h.y = some Y → t0 / 12 ≤ Y
theorem ls_start {h : Hint} {n : Int} (hy : ∀ Y, h.y = some Y → tOf n / 12 ≤ Y) : LsInv h n (tOf n) ∧ LSt h n (tOf n) :=
  ⟨fun j h1 h2 => by have := (tOf_spec n).2; omega, Int.le_refl _, hy⟩
theorem ls_startY {h : Hint} {n Y : Int} (hy : h.y = some Y) (hY : Y < tOf n / 12) : LsInv h n (12 * Y + 11) ∧ LSt h n (12 * Y + 11) := by
  refine ⟨fun j h1 h2 => false_of fun hf => ?_, by omega, fun Y' e => by rw [hy] at e; cases e; omega⟩
  have e := fit_year hy hf
  have := mI_le (show tOf j + 1 ≤ 12 * Y + 11 + 1 by omega)
  have := (tOf_spec j).2
  omega
theorem ls_gone {h : Hint} {n t Y : Int} (I : LsInv h n t) (hy : h.y = some Y) (hY : t / 12 < Y) : IsLast h n none := fun j h0 h1 => false_of fun hf => by
  have e := fit_year hy hf
  have := mI_le (show t + 1 ≤ tOf j by omega)
  have := (tOf_spec j).1
  rw [I j (by omega) h1] at hf; cases hf
theorem mI_12 : mI 12 = 1 := by decide +kernel
theorem ls_low {h : Hint} {n t : Int} (I : LsInv h n t) (ht : t / 12 < 1) : IsLast h n none := fun j h0 h1 => by
  have := mI_le (show t + 1 ≤ 12 by omega)
  have := mI_12
  exact I j (by omega) h1
theorem ls_end {h : Hint} {n t0 : Int} (S : LSt h n t0) {k : Int} (hk : 4801 ≤ k) (I : LsInv h n (t0 - k)) : IsLast h n none := fun j h0 h1 => false_of fun hf => by
  cases hy : h.y with
  | some Y =>
    have e := fit_year hy hf
    have y1 := S.yr Y hy
    have := mI_le (show t0 - k + 1 ≤ tOf j by omega)
    have := (tOf_spec j).1
    rw [I j (by omega) h1] at hf; cases hf
  | none =>
    have a1 := (tOf_spec n).1
    have a2 := S.le
    have a3 := mI_400 (tOf n - 4800)
    have a5 : tOf n - 4800 + 4800 = tOf n := by omega
    rw [a5] at a3
    have a4 := mI_le (show t0 - k + 1 ≤ tOf n - 4800 by omega)
    have := fit_400k hy j ((n - j) / 146097).toNat
    rw [← this] at hf
    rw [I _ (by omega) (by omega)] at hf; cases hf
theorem ls_some {h : Hint} {n t m : Int} (I : LsInv h n t) (h0 : 1 ≤ t / 12) (h1 : m ≤ n) (h2 : mI t ≤ m) (hf : fitB h m = true) (hn : ∀ j, j ≤ n → j < mI (t + 1) → m < j → fitB h j = false) : IsLast h n (some m) :=
  ⟨by have := mI_le (show 12 ≤ t by omega); have := mI_12; omega, h1, hf, fun j a b => by
    rcases Int.lt_or_le j (mI (t + 1)) with q | q
    · exact hn j b q a
    · exact I j q b⟩
theorem ls_step {h : Hint} {n t : Int} (I : LsInv h n t) (hn : ∀ j, j ≤ n → mI t ≤ j → j < mI (t + 1) → fitB h j = false) : LsInv h n (t - 1) := fun j a b => by
  have e : t - 1 + 1 = t := by omega
  rw [e] at a
  rcases Int.lt_or_le j (mI (t + 1)) with q | q
  · exact hn j b a q
  · exact I j q b
theorem mf_last {h : Hint} {t lo hi st n hi' : Int} (M : MF h t lo hi st) (e : hi' = if n < hi then hi - st * ((hi - n + st - 1) / st) else hi) :
    (lo ≤ hi' → hi' ≤ n ∧ mI t ≤ hi' ∧ fitB h hi' = true ∧ ∀ j, j ≤ n → j < mI (t + 1) → hi' < j → fitB h j = false) ∧ (hi' < lo → ∀ j, j ≤ n → mI t ≤ j → j < mI (t + 1) → fitB h j = false) := by
  obtain ⟨hst, hft, hbd, _⟩ := M
  rcases hst with rfl | rfl <;>
  · refine ⟨fun k => ?_, fun k j h1 h2 h3 => false_of fun hf => ?_⟩
    · have hb : lo ≤ hi := by split at e <;> omega
      obtain ⟨b1, b2, b3⟩ := hbd hb
      have l1 : mI t ≤ hi' := by omega
      have l2 : hi' < mI (t + 1) := by split at e <;> omega
      refine ⟨by split at e <;> omega, l1, (hft hi' l1 l2).2 ⟨k, by split at e <;> omega, by split at e <;> omega⟩, fun j h1 h2 h3 => false_of fun hf => ?_⟩
      obtain ⟨f1, f2, f3⟩ := (hft j (by omega) h2).1 hf
      split at e <;> omega
    · obtain ⟨f1, f2, f3⟩ := (hft j h2 h3).1 hf
      have hb : lo ≤ hi := by omega
      obtain ⟨b1, b2, b3⟩ := hbd hb
      split at e <;> omega
/-! ### lists of the days of a month -/
def Sorted (L : List Int) : Prop := L.Pairwise (· < ·)
theorem sorted_ext : ∀ {L M : List Int}, Sorted L → Sorted M → (∀ x, x ∈ L ↔ x ∈ M) → L = M
  | [], [], _, _, _ => rfl
  | [], b :: M, _, _, h => by have := (h b).2 (by simp); simp at this
  | a :: L, [], _, _, h => by have := (h a).1 (by simp); simp at this
  | a :: L, b :: M, h1, h2, h => by
    have p1 := List.pairwise_cons.1 h1
    have p2 := List.pairwise_cons.1 h2
    have e : a = b := by
      rcases List.mem_cons.1 ((h a).1 (by simp)) with q | q
      · exact q
      · rcases List.mem_cons.1 ((h b).2 (by simp)) with r | r
        · exact r.symm
        · have := p2.1 a q; have := p1.1 b r; omega
    subst e
    rw [sorted_ext p1.2 p2.2 fun x => ?_]
    constructor
    · intro hx
      rcases List.mem_cons.1 ((h x).1 (by simp [hx])) with q | q
      · have := p1.1 x hx; omega
      · exact q
    · intro hx
      rcases List.mem_cons.1 ((h x).2 (by simp [hx])) with q | q
      · have := p2.1 x hx; omega
      · exact q
def daysIn (h : Hint) (t : Int) : List Int := ((List.range (lI t).toNat).map fun (i : Nat) => mI t + i).filter (fitB h)
theorem sorted_range (lo : Int) (k : Nat) : Sorted ((List.range k).map fun (i : Nat) => lo + i) := by
  unfold Sorted
  rw [List.pairwise_map]
  exact List.Pairwise.imp (fun {a b} h => by omega) List.pairwise_lt_range
theorem sorted_days (h : Hint) (t : Int) : Sorted (daysIn h t) := List.Pairwise.filter _ (sorted_range _ _)
theorem mem_days {h : Hint} {t x : Int} : x ∈ daysIn h t ↔ (mI t ≤ x ∧ x < mI (t + 1) ∧ fitB h x = true) := by
  have hs := mI_succ t
  unfold daysIn
  rw [List.mem_filter, List.mem_map]
  constructor
  · rintro ⟨⟨i, hi, e⟩, hf⟩
    have := List.mem_range.1 hi
    exact ⟨by omega, by omega, hf⟩
  · rintro ⟨a, b, c⟩
    exact ⟨⟨(x - mI t).toNat, List.mem_range.2 (by omega), by omega⟩, c⟩
theorem days_eq {h : Hint} {t : Int} {L : List Int} (hs : Sorted L) (hm : ∀ x, x ∈ L ↔ (mI t ≤ x ∧ x < mI (t + 1) ∧ fitB h x = true)) : L = daysIn h t := sorted_ext hs (sorted_days h t) fun x => (hm x).trans mem_days.symm
theorem days_len (h : Hint) (t : Int) : (daysIn h t).length ≤ 31 := by
  unfold daysIn
  have := mlen_hi (t / 12) (t % 12 + 1)
  refine Nat.le_trans (List.length_filter_le _ _) ?_
  simp [lI]; omega
theorem first_of {L r : List Int} {p : Int → Bool} {a : Int} (hs : Sorted L) (e : L.filter p = a :: r) : a ∈ L ∧ p a = true ∧ ∀ b, b ∈ L → b < a → p b = false := by
  have ha : a ∈ L.filter p := by rw [e]; simp
  have hp := List.Pairwise.filter p hs
  rw [e] at hp
  have hp := List.pairwise_cons.1 hp
  refine ⟨(List.mem_filter.1 ha).1, (List.mem_filter.1 ha).2, fun b hb hlt => false_of fun hf => ?_⟩
  have : b ∈ L.filter p := List.mem_filter.2 ⟨hb, hf⟩
  rw [e] at this
  rcases List.mem_cons.1 this with q | q
  · omega
  · have := hp.1 b q; omega
theorem last_of {L r : List Int} {p : Int → Bool} {a : Int} (hs : Sorted L) (e : L.filter p = r ++ [a]) : a ∈ L ∧ p a = true ∧ ∀ b, b ∈ L → a < b → p b = false := by
  have ha : a ∈ L.filter p := by rw [e]; simp
  have hp := List.Pairwise.filter p hs
  rw [e] at hp
  have hp := List.pairwise_append.1 hp
  refine ⟨(List.mem_filter.1 ha).1, (List.mem_filter.1 ha).2, fun b hb hlt => false_of fun hf => ?_⟩
  have : b ∈ L.filter p := List.mem_filter.2 ⟨hb, hf⟩
  rw [e] at this
  rcases List.mem_append.1 this with q | q
  · have := hp.2.2 b q a (by simp); omega
  · simp at q; omega
theorem days_none {h : Hint} {t : Int} {p : Int → Bool} (e : (daysIn h t).filter p = []) {j : Int} (h1 : mI t ≤ j) (h2 : j < mI (t + 1)) (hp : p j = true) : fitB h j = false := false_of fun hf => by
  have : j ∈ (daysIn h t).filter p := List.mem_filter.2 ⟨mem_days.2 ⟨h1, h2, hf⟩, hp⟩
  rw [e] at this; simp at this
theorem lnx_some {h : Hint} {n t a : Int} {r : List Int} (e : ((daysIn h t).filter fun j => decide (n ≤ j)) = a :: r) (I : NxInv h n t) : IsNext h n (some a) := by
  obtain ⟨a1, a2, a3⟩ := first_of (sorted_days h t) e
  obtain ⟨b1, b2, b3⟩ := mem_days.1 a1
  refine nx_some I (of_decide_eq_true a2) b1 b3 fun j h1 h2 h3 => false_of fun hf => ?_
  have := a3 j (mem_days.2 ⟨h2, by omega, hf⟩) h3
  simp [h1] at this
theorem lnx_step {h : Hint} {n t : Int} (e : ((daysIn h t).filter fun j => decide (n ≤ j)) = []) (I : NxInv h n t) : NxInv h n (t + 1) :=
  nx_step I fun j h1 h2 h3 => days_none e h2 h3 (decide_eq_true h1)
theorem lls_some {h : Hint} {n t a : Int} {r : List Int} (e : ((daysIn h t).filter fun j => decide (j ≤ n)) = r ++ [a]) (I : LsInv h n t) (h0 : 1 ≤ t / 12) : IsLast h n (some a) := by
  obtain ⟨a1, a2, a3⟩ := last_of (sorted_days h t) e
  obtain ⟨b1, b2, b3⟩ := mem_days.1 a1
  refine ls_some I h0 (of_decide_eq_true a2) b1 b3 fun j h1 h2 h3 => false_of fun hf => ?_
  have := a3 j (mem_days.2 ⟨by omega, h2, hf⟩) h3
  simp [h1] at this
theorem lls_step {h : Hint} {n t : Int} (e : ((daysIn h t).filter fun j => decide (j ≤ n)) = []) (I : LsInv h n t) : LsInv h n (t - 1) :=
  ls_step I fun j h1 h2 h3 => days_none e h2 h3 (decide_eq_true h1)
theorem ok_false {p : Option Int} {v : Int} (h : ok p v = false) : ∃ q, p = some q ∧ q ≠ v := by
  cases p with
  | none => cases h
  | some q => exact ⟨q, rfl, by simpa [ok] using h⟩
/-! ### read -/
/-- by the rule's number: 0 next, 1 last, 2 closest -/
def pickR (later earlier : Option Int) (n : Int) (r : Nat) : Option Int :=
  if r = 0 then later else if r = 1 then earlier else
  match later, earlier with
  | none, e => e
  | l, none => l
  | some l, some e => if l - n ≤ n - e then some l else some e
noncomputable def rd (h : Hint) (n : Int) (r : Nat) : Option Int := pickR (nxt h n) (lst h n) n r
def outD (o : Option Int) : Option (Int × Int × Int) := o.map dayOf
/-! ### checks -/
def noneB (h : Hint) (n : Int) : Nat → Bool
  | 0 => true
  | k + 1 => !fitB h (n + k) && noneB h n k
theorem noneB_ok {h : Hint} {n : Int} : ∀ {k : Nat}, noneB h n k = true → ∀ j, n ≤ j → j < n + k → fitB h j = false
  | 0, _, j, h1, h2 => by omega
  | k + 1, e, j, h1, h2 => by
    simp only [noneB, Bool.and_eq_true, Bool.not_eq_true'] at e
    by_cases q : j = n + k
    · rw [q]; exact e.1
    · exact noneB_ok e.2 j h1 (by omega)
theorem nxt_of {h : Hint} {n m : Int} (h1 : n ≤ m) (h2 : fitB h m = true) (h3 : noneB h n (m - n).toNat = true) : nxt h n = some m :=
  (nxt_eq (r := some m) ⟨h1, h2, fun j a b => noneB_ok h3 j a (by omega)⟩).symm
theorem lst_of {h : Hint} {n m : Int} (h0 : 1 ≤ m) (h1 : m ≤ n) (h2 : fitB h m = true) (h3 : noneB h (m + 1) (n - m).toNat = true) : lst h n = some m :=
  (lst_eq (r := some m) ⟨h0, h1, h2, fun j a b => noneB_ok h3 j (by omega) (by omega)⟩).symm
theorem fit_parts {h : Hint} {n : Int} (hf : fitB h n = true) : (h.w = none ∨ h.w = some ((n - 1) % 7)) ∧ (h.d = none ∨ h.d = some (dayOf n).2.2) ∧ (h.m = none ∨ h.m = some (dayOf n).2.1) ∧ (h.y = none ∨ h.y = some (dayOf n).1) := by
  simpa only [fitB, Bool.and_eq_true, ok_iff] using hf
theorem never {h : Hint} {d m : Int} (hd : h.d = some d) (hm : h.m = some m) (k : ∀ y, mlen y m < d) (n : Int) : fitB h n = false := false_of fun hf => by
  obtain ⟨_, e2, e3, _⟩ := fit_parts hf
  obtain ⟨q1, q2, q3, q4, q5⟩ := dayOf_spec n
  rw [hd] at e2; rw [hm] at e3
  have e2 : d = (dayOf n).2.2 := by simpa using e2
  have e3 : m = (dayOf n).2.1 := by simpa using e3
  have := k (dayOf n).1
  rw [e3] at this
  omega
end Cal

namespace Cal
/-! ### the todays at which a day is right -/
theorem nxt_some {h : Hint} {n m : Int} (e : nxt h n = some m) : n ≤ m ∧ fitB h m = true ∧ ∀ j, n ≤ j → j < m → fitB h j = false := by
  have := nxt_spec h n; rw [e] at this; exact this
theorem nxt_no {h : Hint} {n : Int} (e : nxt h n = none) : ∀ j, n ≤ j → fitB h j = false := by
  have := nxt_spec h n; rw [e] at this; exact this
theorem lst_some {h : Hint} {n m : Int} (e : lst h n = some m) : 1 ≤ m ∧ m ≤ n ∧ fitB h m = true ∧ ∀ j, m < j → j ≤ n → fitB h j = false := by
  have := lst_spec h n; rw [e] at this; exact this
theorem lst_no {h : Hint} {n : Int} (e : lst h n = none) : ∀ j, 1 ≤ j → j ≤ n → fitB h j = false := by
  have := lst_spec h n; rw [e] at this; exact this
theorem nxt_is {h : Hint} {n m : Int} (a : n ≤ m) (b : fitB h m = true) (c : ∀ j, n ≤ j → j < m → fitB h j = false) : nxt h n = some m := (nxt_eq (r := some m) ⟨a, b, c⟩).symm
theorem lst_is {h : Hint} {n m : Int} (z : 1 ≤ m) (a : m ≤ n) (b : fitB h m = true) (c : ∀ j, m < j → j ≤ n → fitB h j = false) : lst h n = some m := (lst_eq (r := some m) ⟨z, a, b, c⟩).symm
theorem lst_none {h : Hint} {n : Int} (c : ∀ j, 1 ≤ j → j ≤ n → fitB h j = false) : lst h n = none := (lst_eq (r := none) c).symm
theorem nxt_none {h : Hint} {n : Int} (c : ∀ j, n ≤ j → fitB h j = false) : nxt h n = none := (nxt_eq (r := none) c).symm
noncomputable def lowR (h : Hint) (n : Int) (r : Nat) : Option Int := if r = 0 then (lst h (n - 1)).map (· + 1) else if r = 1 then some n else (lst h (n - 1)).map fun e => (e + n + 1) / 2
noncomputable def highR (h : Hint) (n : Int) (r : Nat) : Option Int := if r = 0 then some n else if r = 1 then (nxt h (n + 1)).map (· - 1) else (nxt h (n + 1)).map fun l => (n + l + 1) / 2 - 1
/-- x up to n -/
theorem nxt_to {h : Hint} {n x : Int} (hf : fitB h n = true) (hx : 1 ≤ x) (hn : x ≤ n) : nxt h x = some n ↔ ∀ e, lst h (n - 1) = some e → e < x := by
  constructor
  · intro q e he
    obtain ⟨a, b, c⟩ := nxt_some q
    obtain ⟨a', b', c', d'⟩ := lst_some he
    rcases Int.lt_or_le e x with z | z
    · exact z
    · have := c e z (by omega); rw [c'] at this; cases this
  · intro q
    refine nxt_is hn hf fun j h1 h2 => ?_
    cases he : lst h (n - 1) with
    | none => exact lst_no he j (by omega) (by omega)
    | some e => exact (lst_some he).2.2.2 j (by have := q e he; omega) (by omega)
theorem lst_to {h : Hint} {n x : Int} (hf : fitB h n = true) (h1 : 1 ≤ n) (hn : n ≤ x) : lst h x = some n ↔ ∀ l, nxt h (n + 1) = some l → x < l := by
  constructor
  · intro q e he
    obtain ⟨z0, a, b, c⟩ := lst_some q
    obtain ⟨a', b', c'⟩ := nxt_some he
    rcases Int.lt_or_le x e with z | z
    · exact z
    · have := c e (by omega) z; rw [b'] at this; cases this
  · intro q
    refine lst_is h1 hn hf fun j h1 h2 => ?_
    cases he : nxt h (n + 1) with
    | none => exact nxt_no he j (by omega)
    | some e => exact (nxt_some he).2.2 j (by omega) (by have := q e he; omega)
theorem lst_before {h : Hint} {n x : Int} (hx : 1 ≤ x) (hn : x < n) (q : ∀ e, lst h (n - 1) = some e → e < x) : lst h x = lst h (n - 1) := by
  cases he : lst h (n - 1) with
  | none => exact lst_none fun j h1 h2 => lst_no he j h1 (by omega)
  | some e =>
    obtain ⟨a, b, c, d⟩ := lst_some he
    exact lst_is a (by have := q e he; omega) c fun j h1 h2 => d j h1 (by omega)
theorem nxt_after {h : Hint} {n x : Int} (hn : n < x) (q : ∀ e, nxt h (n + 1) = some e → x < e) : nxt h x = nxt h (n + 1) := by
  cases he : nxt h (n + 1) with
  | none => exact nxt_none fun j h1 => nxt_no he j (by omega)
  | some e =>
    obtain ⟨a, b, c⟩ := nxt_some he
    exact nxt_is (by have := q e he; omega) b fun j h1 h2 => c j (by omega) h2
theorem pick2 {l e x : Int} : pickR (some l) (some e) x 2 = if l - x ≤ x - e then some l else some e := rfl
theorem pick_of {L M : Option Int} {x n : Int} (q : pickR L M x 2 = some n) : L = some n ∨ M = some n := by
  cases L with
  | none => exact .inr (by simpa [pickR] using q)
  | some l =>
    cases M with
    | none => exact .inl (by simpa [pickR] using q)
    | some e =>
      rw [pick2] at q
      split at q
      · exact .inl q
      · exact .inr q
theorem rd_iff {h : Hint} {n x : Int} {r : Nat} (hf : fitB h n = true) (h1 : 1 ≤ n) (hx : 1 ≤ x) (hr : r < 3) : rd h x r = some n ↔ (∀ b, lowR h n r = some b → b ≤ x) ∧ (∀ b, highR h n r = some b → x ≤ b) := by
  have hr' : r = 0 ∨ r = 1 ∨ r = 2 := by omega
  rcases hr' with rfl | rfl | rfl
  · show nxt h x = some n ↔ (∀ b, (lst h (n - 1)).map (· + 1) = some b → b ≤ x) ∧ (∀ b, some n = some b → x ≤ b)
    constructor
    · intro q
      have hn := (nxt_some q).1
      refine ⟨fun b hb => ?_, fun b hb => by cases hb; exact hn⟩
      cases he : lst h (n - 1) with
      | none => rw [he] at hb; cases hb
      | some e =>
        rw [he] at hb
        have := (nxt_to hf hx hn).1 q e he
        simp only [Option.map_some, Option.some.injEq] at hb; omega
    · rintro ⟨a, b⟩
      refine (nxt_to hf hx (b n rfl)).2 fun e he => ?_
      have := a (e + 1) (by rw [he]; rfl)
      omega
  · show lst h x = some n ↔ (∀ b, some n = some b → b ≤ x) ∧ (∀ b, (nxt h (n + 1)).map (· - 1) = some b → x ≤ b)
    constructor
    · intro q
      have hn := (lst_some q).2.1
      refine ⟨fun b hb => by cases hb; exact hn, fun b hb => ?_⟩
      cases he : nxt h (n + 1) with
      | none => rw [he] at hb; cases hb
      | some e =>
        rw [he] at hb
        have := (lst_to hf h1 hn).1 q e he
        simp only [Option.map_some, Option.some.injEq] at hb; omega
    · rintro ⟨a, b⟩
      refine (lst_to hf h1 (a n rfl)).2 fun e he => ?_
      have := b (e - 1) (by rw [he]; rfl)
      omega
  · show pickR (nxt h x) (lst h x) x 2 = some n ↔ (∀ b, ((lst h (n - 1)).map fun e => (e + n + 1) / 2) = some b → b ≤ x) ∧ (∀ b, ((nxt h (n + 1)).map fun l => (n + l + 1) / 2 - 1) = some b → x ≤ b)
    have mle : ∀ e, lst h (n - 1) = some e → e < n := fun e he => by have := (lst_some he).2.1; omega
    have lle : ∀ l, nxt h (n + 1) = some l → n < l := fun l he => by have := (nxt_some he).1; omega
    rcases Int.lt_trichotomy x n with hlt | rfl | hgt
    · have hup : ∀ b, ((nxt h (n + 1)).map fun l => (n + l + 1) / 2 - 1) = some b → x ≤ b := by
        intro b hb
        cases he : nxt h (n + 1) with
        | none => rw [he] at hb; cases hb
        | some l => rw [he] at hb; have := lle l he; simp only [Option.map_some, Option.some.injEq] at hb; omega
      rw [and_iff_left hup]
      by_cases q : nxt h x = some n
      · have q1 := (nxt_to hf hx (by omega)).1 q
        rw [lst_before hx hlt q1, q]
        cases he : lst h (n - 1) with
        | none => exact ⟨fun _ b hb => (nomatch hb), fun _ => rfl⟩
        | some e =>
          have := q1 e he
          rw [pick2]
          constructor
          · intro z b hb
            simp only [Option.map_some, Option.some.injEq] at hb
            split at z
            · omega
            · have := mle e he; simp at z; omega
          · intro z
            have := z ((e + n + 1) / 2) rfl
            rw [if_pos (by omega)]
      · constructor
        · intro z
          rcases pick_of z with z | z
          · exact (q z).elim
          · have := (lst_some z).2.1; omega
        · intro z
          refine (q ((nxt_to hf hx (by omega)).2 fun e he => ?_)).elim
          have := z ((e + n + 1) / 2) (by rw [he]; rfl)
          have := mle e he
          omega
    · have e1 : nxt h x = some x := nxt_is (Int.le_refl _) hf fun j a b => by omega
      have e2 : lst h x = some x := lst_is h1 (Int.le_refl _) hf fun j a b => by omega
      rw [e1, e2, pick2]
      refine ⟨fun _ => ⟨fun b hb => ?_, fun b hb => ?_⟩, fun _ => by split <;> rfl⟩
      · cases he : lst h (x - 1) with
        | none => rw [he] at hb; cases hb
        | some e => rw [he] at hb; have := mle e he; simp only [Option.map_some, Option.some.injEq] at hb; omega
      · cases he : nxt h (x + 1) with
        | none => rw [he] at hb; cases hb
        | some e => rw [he] at hb; have := lle e he; simp only [Option.map_some, Option.some.injEq] at hb; omega
    · have hlo : ∀ b, ((lst h (n - 1)).map fun e => (e + n + 1) / 2) = some b → b ≤ x := by
        intro b hb
        cases he : lst h (n - 1) with
        | none => rw [he] at hb; cases hb
        | some l => rw [he] at hb; have := mle l he; simp only [Option.map_some, Option.some.injEq] at hb; omega
      rw [and_iff_right hlo]
      by_cases q : lst h x = some n
      · have q1 := (lst_to hf h1 (by omega)).1 q
        rw [nxt_after hgt q1, q]
        cases he : nxt h (n + 1) with
        | none => exact ⟨fun _ b hb => (nomatch hb), fun _ => rfl⟩
        | some l =>
          have := q1 l he
          rw [pick2]
          constructor
          · intro z b hb
            simp only [Option.map_some, Option.some.injEq] at hb
            split at z
            · simp at z; omega
            · omega
          · intro z
            have := z ((n + l + 1) / 2 - 1) rfl
            rw [if_neg (by omega)]
      · constructor
        · intro z
          rcases pick_of z with z | z
          · have := (nxt_some z).1; omega
          · exact (q z).elim
        · intro z
          refine (q ((lst_to hf h1 (by omega)).2 fun e he => ?_)).elim
          have := z ((n + e + 1) / 2 - 1) (by rw [he]; rfl)
          have := lle e he
          omega
theorem rd_fit {h : Hint} {n x : Int} {r : Nat} (hr : r < 3) (e : rd h x r = some n) : fitB h n = true := by
  have hr' : r = 0 ∨ r = 1 ∨ r = 2 := by omega
  rcases hr' with rfl | rfl | rfl
  · exact (nxt_some e).2.1
  · exact (lst_some e).2.2.1
  · rcases pick_of e with z | z
    · exact (nxt_some z).2.1
    · exact (lst_some z).2.2.1
theorem low_le {h : Hint} {n b : Int} {r : Nat} (hr : r < 3) (h1 : 1 ≤ n) (e : lowR h n r = some b) : 1 ≤ b ∧ b ≤ n ∧ (1 ≤ b - 1 ∨ r = 1) := by
  have hr' : r = 0 ∨ r = 1 ∨ r = 2 := by omega
  rcases hr' with rfl | rfl | rfl
  · simp only [lowR] at e
    cases he : lst h (n - 1) with
    | none => rw [he] at e; cases e
    | some k => rw [he] at e; have := lst_some he; simp at e; omega
  · cases e; exact ⟨h1, Int.le_refl _, .inr rfl⟩
  · simp only [lowR] at e
    cases he : lst h (n - 1) with
    | none => rw [he] at e; cases e
    | some k => rw [he] at e; have := lst_some he; simp at e; omega
theorem high_ge {h : Hint} {n b : Int} {r : Nat} (hr : r < 3) (e : highR h n r = some b) : n ≤ b := by
  have hr' : r = 0 ∨ r = 1 ∨ r = 2 := by omega
  rcases hr' with rfl | rfl | rfl
  · cases e; exact Int.le_refl _
  · simp only [highR] at e
    cases he : nxt h (n + 1) with
    | none => rw [he] at e; cases e
    | some k => rw [he] at e; have := nxt_some he; simp at e; omega
  · simp only [highR] at e
    cases he : nxt h (n + 1) with
    | none => rw [he] at e; cases e
    | some k => rw [he] at e; have := nxt_some he; simp at e; omega
/-- at the low bound and before it -/
theorem rd_low {h : Hint} {n b : Int} {r : Nat} (hf : fitB h n = true) (h1 : 1 < n) (hr : r < 3) (e : lowR h n r = some b) : rd h b r = some n ∧ rd h (b - 1) r ≠ some n := by
  obtain ⟨b1, b2, b3⟩ := low_le hr (by omega) e
  refine ⟨(rd_iff hf (by omega) b1 hr).2 ⟨fun c hc => by rw [e] at hc; cases hc; omega, fun c hc => by have := high_ge hr hc; omega⟩, fun q => ?_⟩
  have b4 : 1 ≤ b - 1 := by
    rcases b3 with z | z
    · exact z
    · subst z; cases e; omega
  have := ((rd_iff hf (by omega) b4 hr).1 q).1 b e
  omega
theorem rd_high {h : Hint} {n b : Int} {r : Nat} (hf : fitB h n = true) (h1 : 1 < n) (hr : r < 3) (e : highR h n r = some b) : rd h b r = some n ∧ rd h (b + 1) r ≠ some n := by
  have b2 := high_ge hr e
  refine ⟨(rd_iff hf (by omega) (by omega) hr).2 ⟨fun c hc => by have := (low_le hr (by omega) hc).2.1; omega, fun c hc => by rw [e] at hc; cases hc; omega⟩, fun q => ?_⟩
  have := ((rd_iff hf (by omega) (by omega) hr).1 q).2 b e
  omega
theorem num_t {y m d : Int} (h1 : 1 ≤ m) (h2 : m ≤ 12) (h3 : 1 ≤ d) (h4 : d ≤ mlen y m) : mI (12 * y + m - 1) ≤ num y m d ∧ num y m d < mI (12 * y + m - 1 + 1) := by
  have a := mI_of (y := y) h1 h2
  have b := lI_of (y := y) h1 h2
  have c := mI_succ (12 * y + m - 1)
  unfold num; omega
theorem num_bd {y m d : Int} (h1 : 1 ≤ m) (h2 : m ≤ 12) (h3 : 1 ≤ d) (h4 : d ≤ mlen y m) (y0 : 1000 ≤ y) (y1 : y ≤ 9000) : 364878 ≤ num y m d ∧ num y m d ≤ 3287182 := by
  obtain ⟨a, b⟩ := num_t h1 h2 h3 h4
  have := mI_le (show 12000 ≤ 12 * y + m - 1 by omega)
  have := mI_le (show 12 * y + m - 1 + 1 ≤ 108012 by omega)
  have e1 : mI 12000 = 364878 := by decide +kernel
  have e2 : mI 108012 = 3287183 := by decide +kernel
  omega
theorem num_lex {y m d y' m' d' : Int} (h1 : 1 ≤ m) (h2 : m ≤ 12) (h3 : 1 ≤ d) (h4 : d ≤ mlen y m) (k1 : 1 ≤ m') (k2 : m' ≤ 12) (k3 : 1 ≤ d') (k4 : d' ≤ mlen y' m')
    (e : y * 100000000 + (m * 10000 + d) ≤ y' * 100000000 + (m' * 10000 + d')) : num y m d ≤ num y' m' d' := by
  obtain ⟨a, b⟩ := num_t h1 h2 h3 h4
  obtain ⟨a', b'⟩ := num_t k1 k2 k3 k4
  have := mlen_hi y m
  have := mlen_hi y' m'
  by_cases q : 12 * y + m - 1 = 12 * y' + m' - 1
  · have e1 : y = y' := by omega
    have e2 : m = m' := by omega
    subst e1; subst e2
    unfold num; omega
  · have := mI_le (show 12 * y + m - 1 + 1 ≤ 12 * y' + m' - 1 by omega)
    omega
def oall (o : Option Int) (p : Int → Bool) : Bool := match o with
  | none => true
  | some v => p v
theorem oall_iff {o : Option Int} {p : Int → Bool} : oall o p = true ↔ ∀ b, o = some b → p b = true := by
  cases o with
  | none => simp [oall]
  | some v => simp [oall]
noncomputable def rightB (h : Hint) (n : Int) (r : Nat) (x y : Int) : Bool := fitB h n && (oall (lowR h n r) (fun b => decide (b ≤ x)) && oall (highR h n r) (fun b => decide (y ≤ b)))
theorem right_eq {h : Hint} {n x y : Int} {r : Nat} (hr : r < 3) (h1 : 1 ≤ n) (hx : 1 ≤ x) (hxy : x ≤ y) : rightB h n r x y = (decide (rd h x r = some n) && decide (rd h y r = some n)) := by
  apply Bool.eq_iff_iff.2
  simp only [rightB, Bool.and_eq_true, oall_iff, decide_eq_true_eq]
  constructor
  · rintro ⟨a, b, c⟩
    exact ⟨(rd_iff a h1 hx hr).2 ⟨b, fun z hz => by have := c z hz; omega⟩, (rd_iff a h1 (by omega) hr).2 ⟨fun z hz => by have := b z hz; omega, c⟩⟩
  · rintro ⟨a, b⟩
    have f := rd_fit hr a
    exact ⟨f, ((rd_iff f h1 hx hr).1 a).1, ((rd_iff f h1 (by omega) hr).1 b).2⟩
theorem right_mid {h : Hint} {n x y z : Int} {r : Nat} (hr : r < 3) (h1 : 1 ≤ n) (hx : 1 ≤ x) (e1 : rd h x r = some n) (e2 : rd h y r = some n) (a : x ≤ z) (b : z ≤ y) : rd h z r = some n := by
  have f := rd_fit hr e1
  exact (rd_iff f h1 (by omega) hr).2 ⟨fun q hq => by have := ((rd_iff f h1 hx hr).1 e1).1 q hq; omega, fun q hq => by have := ((rd_iff f h1 (by omega) hr).1 e2).2 q hq; omega⟩
end Cal

namespace DL
open PySem PySem.Spec PyProof.Rows L2 RZ
/-! ### order of tuples of whole numbers -/
/-- what an order op tells of two lists: by the first pair that differs -/
def lexO (ro : Int → Int → Bool) (zo : Nat → Nat → Bool) (ns ms : List Int) : Bool := Ob.lexAt (fun j => decide (ns.getD j 0 = ms.getD j 0)) (fun j => ro (ns.getD j 0) (ms.getD j 0)) (zo ns.length ms.length) 0 (min ns.length ms.length)
/-- a tuple op of the kit in this form -/
def TupOp (op : CmpOp) (zo : Nat → Nat → Bool) : Prop := ∀ (A : Around) (s : Shared) (l b : Addr) (xs ys : Array Value) (e r : Nat → Bool), s.heap.IsTuple l xs → s.heap.IsTuple b ys → A.units < cLine →
  (∀ j (h1 : j < xs.size) (h2 : j < ys.size), SeqAt.EqAt A.in1 s xs[j] ys[j] (e j)) → (∀ j (h1 : j < xs.size) (h2 : j < ys.size), e j = false → Ob.RcOp op A.in1 s xs[j] ys[j] (r j)) → Ob.RcOp op A s (.ref l) (.ref b) (Ob.lexAt e r (zo xs.size ys.size) 0 (min xs.size ys.size))
def IntOp (op : CmpOp) (ro : Int → Int → Bool) : Prop := ∀ (A : Around) (s : Shared) (a b : Int) (t u : Tok), Ob.RcOp op A s (.int a t) (.int b u) (ro a b)
def rLex (K : Fg) (ro : Int → Int → Bool) (zo : Nat → Nat → Bool) : R2 := fun x y H Q => ∃ (a b : Addr) (ns ms : List Int), x = .ref a ∧ y = .ref b ∧ SqT K H a (ns.map V.int) ∧ SqT K H b (ms.map V.int) ∧ Q (.bl (lexO ro zo ns ms)) H
theorem ibeq {a b : Int} : (a == b) = decide (a = b) := by
  apply Bool.eq_iff_iff.2
  rw [decide_eq_true_iff]; exact beq_iff_eq
theorem lex_op {X : Cx} {op : CmpOp} {ro : Int → Int → Bool} {zo : Nat → Nat → Bool} (hT : TupOp op zo) (hI : IntOp op ro) (hu : X.A.units < cLine) (hop : ∀ (v u : Value), compareOp op v u = richCompare op v u) : OpR X (compareOp op) (rLex X.K ro zo) := by
  rintro pins s σ H x y v u Q I rx ry ⟨a, b, ns, ms, ex, ey, ta, tb, fin⟩
  subst ex; subst ey; cases rx; cases ry
  obtain ⟨us, ru, pu, _⟩ := I.tuple ta
  obtain ⟨ws, rw', pw, _⟩ := I.tuple tb
  have iu : IntsAre us ns := Vals.ints ru
  have iw : IntsAre ws ms := Vals.ints rw'
  have su : us.toArray.size = ns.length := List.size_toArray.trans iu.length
  have sw : ws.toArray.size = ms.length := List.size_toArray.trans iw.length
  have done := hT X.A s a b us.toArray ws.toArray (fun j => decide (ns.getD j 0 = ms.getD j 0)) (fun j => ro (ns.getD j 0) (ms.getD j 0)) pu pw hu
    (fun j h1 h2 => by
      obtain ⟨t, ht⟩ := PyProof.Rows.IntsAre.int_at iu j (us.toArray[j]) (by simp at h1; simp [h1])
      obtain ⟨t', ht'⟩ := PyProof.Rows.IntsAre.int_at iw j (ws.toArray[j]) (by simp at h2; simp [h2])
      have : SeqAt.EqAt X.A.in1 s (.int (ns.getD j 0) t) (.int (ms.getD j 0) t') (ns.getD j 0 == ms.getD j 0) := SeqAt.EqAt.int_int _ _ _ _
      rw [ht, ht']
      rwa [ibeq] at this)
    (fun j h1 h2 _ => by
      obtain ⟨t, ht⟩ := PyProof.Rows.IntsAre.int_at iu j (us.toArray[j]) (by simp at h1; simp [h1])
      obtain ⟨t', ht'⟩ := PyProof.Rows.IntsAre.int_at iw j (ws.toArray[j]) (by simp at h2; simp [h2])
      rw [ht, ht']
      exact hI _ _ _ _ _ _)
  rw [su, sw] at done
  rw [hop]
  exact done X.prog X.w X.xe (EP X pins σ Q) ⟨.bl _, H, I, rfl, fin⟩
theorem o_lex {X : Cx} {op : CmpOp} {ro : Int → Int → Bool} {zo : Nat → Nat → Bool} (hT : TupOp op zo) (hI : IntOp op ro) (hu : X.A.units < cLine) (hop : ∀ (v u : Value), compareOp op v u = richCompare op v u) {ns ms : List Int} : OpD X (compareOp op) (tupI ns) (tupI ms) (fun d => d = .bool (lexO ro zo ns ms)) :=
  ⟨_, lex_op hT hI hu hop, fun B G T F env σ H v u Q S h1 h2 q => by
    obtain ⟨a, ea, ha⟩ := h1.tupI S.fh
    obtain ⟨b, eb, hb⟩ := h2.tupI S.fh
    exact ⟨a, b, ns, ms, ea, eb, ha, hb, q _ _ F H S (Gr.refl S.fh) (.bl _) rfl⟩⟩
def leN (a b : Nat) : Bool := decide (a ≤ b)
theorem op_le3 : TupOp .LtE (fun a b => decide (a ≤ b)) := fun _ _ _ _ _ _ _ _ h1 h2 h3 h4 h5 => Ob.RcOp.tuples_le h1 h2 h3 h4 h5
theorem op_ge3 : TupOp .GtE (fun a b => decide (a ≥ b)) := fun _ _ _ _ _ _ _ _ h1 h2 h3 h4 h5 => Ob.RcOp.tuples_ge h1 h2 h3 h4 h5
theorem op_lt3 : TupOp .Lt (fun a b => decide (a < b)) := fun _ _ _ _ _ _ _ _ h1 h2 h3 h4 h5 => Ob.RcOp.tuples_lt h1 h2 h3 h4 h5
theorem op_gt3 : TupOp .Gt (fun a b => decide (a > b)) := fun _ _ _ _ _ _ _ _ h1 h2 h3 h4 h5 => Ob.RcOp.tuples_gt h1 h2 h3 h4 h5
theorem num_le {y m d y' m' d' : Int} (v : VDay y m d) (v' : VDay y' m' d') : Cal.num y m d ≤ Cal.num y' m' d' ↔ y * 100000000 + (m * 10000 + d) ≤ y' * 100000000 + (m' * 10000 + d') := by
  have a := Cal.mlen_hi y m
  have b := Cal.mlen_hi y' m'
  obtain ⟨v1, v2, v3, v4⟩ := v
  obtain ⟨w1, w2, w3, w4⟩ := v'
  constructor
  · intro h
    rcases Int.lt_or_le (y' * 100000000 + (m' * 10000 + d')) (y * 100000000 + (m * 10000 + d)) with q | q
    · have := Cal.num_lex w1 w2 w3 w4 v1 v2 v3 v4 (by omega)
      have e := Cal.day_uniq v1 v2 v3 v4 w1 w2 w3 w4 (by omega)
      obtain ⟨e1, e2, e3⟩ := e
      subst e1 e2 e3
      omega
    · exact q
  · exact Cal.num_lex v1 v2 v3 v4 w1 w2 w3 w4
theorem lex3 {ro : Int → Int → Bool} {zo : Nat → Nat → Bool} {y m d y' m' d' : Int} : lexO ro zo [y, m, d] [y', m', d'] = if y = y' then (if m = m' then (if d = d' then zo 3 3 else ro d d') else ro m m') else ro y y' := by
  simp [lexO, Ob.lexAt]
section
variable {X : Cx} {y m d y' m' d' : Int}
theorem o_leDay (hu : X.A.units < cLine) (v : VDay y m d) (v' : VDay y' m' d') : OpD X (compareOp .LtE) (dayD (y, m, d)) (dayD (y', m', d')) (fun z => z = .bool (decide (Cal.num y m d ≤ Cal.num y' m' d'))) :=
  (o_lex (ns := [y, m, d]) (ms := [y', m', d']) op_le3 (fun _ _ a b t u => Ob.RcOp.le_int a b t u) hu (fun _ _ => rfl)).imp fun z e => by
    rw [e, lex3]
    congr 1
    apply Bool.eq_iff_iff.2
    rw [decide_eq_true_iff, num_le v v']
    have a := Cal.mlen_hi y m
    have b := Cal.mlen_hi y' m'
    obtain ⟨v1, v2, v3, v4⟩ := v
    obtain ⟨w1, w2, w3, w4⟩ := v'
    repeat' split
    all_goals simp only [decide_eq_true_iff]
    all_goals omega
theorem o_geDay (hu : X.A.units < cLine) (v : VDay y m d) (v' : VDay y' m' d') : OpD X (compareOp .GtE) (dayD (y, m, d)) (dayD (y', m', d')) (fun z => z = .bool (decide (Cal.num y' m' d' ≤ Cal.num y m d))) :=
  (o_lex (ns := [y, m, d]) (ms := [y', m', d']) op_ge3 (fun _ _ a b t u => Ob.RcOp.ge_int a b t u) hu (fun _ _ => rfl)).imp fun z e => by
    rw [e, lex3]
    congr 1
    apply Bool.eq_iff_iff.2
    rw [decide_eq_true_iff, num_le v' v]
    have a := Cal.mlen_hi y m
    have b := Cal.mlen_hi y' m'
    obtain ⟨v1, v2, v3, v4⟩ := v
    obtain ⟨w1, w2, w3, w4⟩ := v'
    repeat' split
    all_goals simp only [decide_eq_true_iff]
    all_goals omega
theorem o_ltDay (hu : X.A.units < cLine) (v : VDay y m d) (v' : VDay y' m' d') : OpD X (compareOp .Lt) (dayD (y, m, d)) (dayD (y', m', d')) (fun z => z = .bool (decide (Cal.num y m d < Cal.num y' m' d'))) :=
  (o_lex (ns := [y, m, d]) (ms := [y', m', d']) op_lt3 (fun _ _ a b t u => Ob.RcOp.lt_int a b t u) hu (fun _ _ => rfl)).imp fun z e => by
    rw [e, lex3]
    congr 1
    apply Bool.eq_iff_iff.2
    have k := num_le v' v
    rw [decide_eq_true_iff]
    have a := Cal.mlen_hi y m
    have b := Cal.mlen_hi y' m'
    obtain ⟨v1, v2, v3, v4⟩ := v
    obtain ⟨w1, w2, w3, w4⟩ := v'
    repeat' split
    all_goals simp only [decide_eq_true_iff]
    all_goals omega
theorem o_gtDay (hu : X.A.units < cLine) (v : VDay y m d) (v' : VDay y' m' d') : OpD X (compareOp .Gt) (dayD (y, m, d)) (dayD (y', m', d')) (fun z => z = .bool (decide (Cal.num y' m' d' < Cal.num y m d))) :=
  (o_lex (ns := [y, m, d]) (ms := [y', m', d']) op_gt3 (fun _ _ a b t u => Ob.RcOp.gt_int a b t u) hu (fun _ _ => rfl)).imp fun z e => by
    rw [e, lex3]
    congr 1
    apply Bool.eq_iff_iff.2
    have k := num_le v v'
    rw [decide_eq_true_iff]
    have a := Cal.mlen_hi y m
    have b := Cal.mlen_hi y' m'
    obtain ⟨v1, v2, v3, v4⟩ := v
    obtain ⟨w1, w2, w3, w4⟩ := v'
    repeat' split
    all_goals simp only [decide_eq_true_iff]
    all_goals omega
end
theorem eqv_dayD {a b : Int × Int × Int} : PyData.eqv (dayD a) (dayD b) = decide (a = b) := by
  obtain ⟨y, m, d⟩ := a
  obtain ⟨y', m', d'⟩ := b
  simp only [dayD, PyData.eqv, PyData.eqvAll, Prod.mk.injEq, Bool.and_true, Bool.decide_and]
  congr 1
theorem vday_of (n : Int) : VDay (Cal.dayOf n).1 (Cal.dayOf n).2.1 (Cal.dayOf n).2.2 := ⟨(Cal.dayOf_spec n).1, (Cal.dayOf_spec n).2.1, (Cal.dayOf_spec n).2.2.1, (Cal.dayOf_spec n).2.2.2.1⟩
section
variable {X : Cx} {a b : Expr} {env : List Sl} {pos : Pos} {Φ : D → Prop}
theorem er_one {op : BoolOp} (h : ER X a env Φ) : ER X (.BoolOp op [a] pos) env Φ := PE.imp (pe_one h) fun _ _ _ q => q
theorem er_orB {rest : List Expr} {k : Bool} (ha : ED X a env (.bool k)) (ht : k = true → Φ (.bool true)) (hb : k = false → ER X (.BoolOp .Or (b :: rest) pos) env Φ) : ER X (.BoolOp .Or (a :: b :: rest) pos) env Φ := by
  cases k with
  | false =>
    refine PE.imp (pe_or ha (hb rfl)) fun σ H Q ⟨B, G, T, F, S, q⟩ => ⟨B, G, T, F, S, fun v d F1 H1 S1 g1 d1 e1 => ?_⟩
    subst e1; cases d1
    exact ⟨false, rfl, iteF ⟨B, G, T, F1, S1, fun v d F2 H2 S2 g2 d2 φ => q _ _ F2 H2 S2 (g1.trans g2 S1.tpn) d2 φ⟩⟩
  | true =>
    refine PE.imp (pe_or ha pe_never) fun σ H Q ⟨B, G, T, F, S, q⟩ => ⟨B, G, T, F, S, fun v d F1 H1 S1 g1 d1 e1 => ?_⟩
    subst e1; cases d1
    exact ⟨true, rfl, iteT (q _ _ F1 H1 S1 g1 (.bl _) (ht rfl))⟩
end
theorem eqv_odD_day {o : Option Int} {n : Int} : PyData.eqv (odD o) (dayD (Cal.dayOf n)) = decide (o = some n) := by
  cases o with
  | none => rfl
  | some x =>
    show PyData.eqv (dayD (Cal.dayOf x)) _ = _
    rw [eqv_dayD]
    apply Bool.eq_iff_iff.2
    simp only [decide_eq_true_iff, Option.some.injEq]
    exact ⟨fun e => by rw [← num_of x, e, num_of], fun e => by rw [e]⟩
section
variable {X : Cx} {elt tg iter : Expr} {ifs : List Expr} {scope : Scope} {env : List Sl} {pos : Pos}
/-- every element an open reading that depends on its item -/
theorem exr_lcE {α : Type} (own : List (Str × Nat)) (xs : List α) (en : α → D) (p : α → D → Prop) (hc : X.calm = true) (hi : IR X tg iter env (xs.map en)) (hz : xs.length ≤ 10000000)
    (hs : ∀ a, a ∈ xs → ∃ env'' is, LcOk X scope tg ifs elt env (own.map (·.2)) (en a) env'' is true (p a))
    (ok : BlkOk X.N X.env.scope scope own := by exact blkOk_by (by kernel_rfl)) (hN : X.N.Nodup := by assumption) (hf : ∀ x, foldedSetIterable iter X.env x = pure x := by intro _; rfl) : EXR X (.ListComp elt [⟨tg, iter, ifs, 0⟩] scope pos) env (fun s => ∃ ys, s = .own ys ∧ ys.length = xs.length ∧ ∀ (i : Nat) a, xs[i]? = some a → ∃ y, ys[i]? = some y ∧ p a y) :=
  PE.imp (exr_lc own (fun k ys => ys.length = k ∧ ∀ (i : Nat) a, i < k → xs[i]? = some a → ∃ y, ys[i]? = some y ∧ p a y) hc hi (by simpa using hz) ⟨rfl, fun i a h => absurd h (Nat.not_lt_zero _)⟩ (fun k d ys hk hy => by
    rw [List.getElem?_map] at hk
    cases e : xs[k]? with
    | none => rw [e] at hk; cases hk
    | some a =>
      rw [e] at hk
      cases hk
      obtain ⟨env'', is, o⟩ := hs a (List.mem_of_getElem? e)
      refine ⟨env'', is, _, _, o, fun h => (by cases h), fun h y z => ⟨by simp [hy.1], fun i b hi hb => ?_⟩⟩
      by_cases q : i < k
      · obtain ⟨w, hw, pw⟩ := hy.2 i b q hb
        exact ⟨w, by rw [List.getElem?_append_left (by rw [hy.1]; exact q)]; exact hw, pw⟩
      · have : i = k := by omega
        subst this
        rw [e] at hb
        cases hb
        exact ⟨y, by rw [List.getElem?_append_right (by omega), hy.1]; simp, z⟩) ok hN hf) fun σ H Q ⟨B, G, T, F, S, q⟩ => ⟨B, G, T, F, S, fun v s F1 H1 S1 g1 fr ⟨ys, e1, e2, e3⟩ => q v s F1 H1 S1 g1 fr ⟨ys, e1, by simpa using e2, fun i a ha => e3 i a (by
      have : i < xs.length := by
        rcases Nat.lt_or_ge i xs.length with h | h
        · exact h
        · rw [List.getElem?_eq_none h] at ha; cases ha
      simpa using this) ha⟩⟩
end
end DL

namespace DL
open PySem PySem.Spec PyProof.Rows L2 RZ
section
variable {X : Cx} {e a b c : Expr} {es : List Expr} {env : List Sl} {pos p p2 pos2 : Pos} {tg : Expr}
def rdIo (K : Fg) (env : List Sl) (Ψ : List D → Prop) : TI := fun σ H R => ∃ B G T F, StR K B G T F env σ H ∧ ∀ J F' H' items, StR K B G T F' env σ H' → Gr T F H F' H' → Wk K J F' items → Ψ items → R J H'
def IRo (X : Cx) (tg iter : Expr) (env : List Sl) (Ψ : List D → Prop) : Prop := L2.PI X tg iter (rdIo X.K env Ψ)
theorem iro_rng1 {Ψ : Int → Prop} {o : Pos} (ha : AR X [a] env (fun ds => ∃ n : Int, ds = [.int n] ∧ (0 ≤ n ∧ n < 2 ^ 62) ∧ Ψ n)) (hm : X.mg "range" = none) (hg : Gl X "range" := by rfl) (hs : starEach [a] X.env = [(false, eval a X.env)] := by rfl) : IRo X tg (.Call (.Name "range" p) [a] [] o) env (fun its => ∃ n : Int, its = rangeD 0 n.toNat ∧ 0 ≤ n ∧ Ψ n) :=
  PI.imp (pi_range1 hg hm ha hs) fun σ H R ⟨B, G, T, F, S, q⟩ => ⟨B, G, T, F, S, fun vs ds F' H' S' g dn ⟨n, z, hb, ψ⟩ => by
    subst z
    cases dn with | cons h t => cases h; cases t; exact ⟨n, rfl, by omega, hb.2, q _ F' H' _ S' g wk_rng ⟨n, rfl, hb.1, ψ⟩⟩⟩
variable {Φ : Out} {rest body : List Stmt}
theorem sds_forO {Ψ : List D → Prop} (I : List D → Nat → List Sl → Prop) (J : List Sl → Prop) (hc : X.calm = true) (hi : IRo X tg e env Ψ) (h0 : ∀ its, Ψ its → I its 0 env)
    (hs : ∀ its, Ψ its → ∀ k d env', its[k]? = some d → I its k env' → ∃ env'' is, GR X tg env' d env'' is ∧ SDs X body env'' { nx := I its (k + 1), ct := I its (k + 1), bk := J, rt := Φ.rt })
    (hd : ∀ env', (∃ its, Ψ its ∧ I its its.length env') ∨ J env' → SDs X rest env' Φ) (hf : ∀ x, foldedSetIterable e X.env x = pure x := by intro _; rfl) (hp : PassesOwn (model X.prog X.w) X.A X.env X.xe := by exact PassesOwn.never) : SDs X (.For tg e body [] pos :: rest) env Φ := by
  have hrest := PSs.ex fun d : {d : List Sl // (∃ its, Ψ its ∧ I its its.length d) ∨ J d} => hd d.1 d.2
  let Ok : (List D × Nat × D × List Sl × List Sl × List Nat) → Prop := fun q => q.1[q.2.1]? = some q.2.2.1 ∧ GR X tg q.2.2.2.1 q.2.2.1 q.2.2.2.2.1 q.2.2.2.2.2 ∧ SDs X body q.2.2.2.2.1 { nx := I q.1 (q.2.1 + 1), ct := I q.1 (q.2.1 + 1), bk := J, rt := Φ.rt }
  have hg : PG X tg (fun v σ H Q => ∃ q : {q // Ok q}, rdG X.K q.1.2.2.2.1 q.1.2.2.1 q.1.2.2.2.2.1 q.1.2.2.2.2.2 v σ H Q) := PG.ex fun q => q.2.2.1
  have hb : PSs X body (fun D σ H => ∃ q : {q // Ok q}, rdS X.K q.1.2.2.2.2.1 { nx := I q.1.1 (q.1.2.1 + 1), ct := I q.1.1 (q.1.2.1 + 1), bk := J, rt := Φ.rt } D σ H) := PSs.ex fun q => q.2.2.2
  refine PSs.imp (pss_cons (ps_for hp hc hi hg hb hf) hrest) fun E σ H ⟨B, G, T, F, S, n, r, bk, ct⟩ => ⟨B, G, T, F, S, fun Jt F1 H1 items S1 g1 wk ψ => ?_⟩
  have hs := hs items ψ
  refine ⟨fun i m σ H => m = items.length - i ∧ i ≤ items.length ∧ ∃ env' F', StR X.K B G T F' env' σ H ∧ Ex F1 F' ∧ I items i env', ⟨items.length, by simp, Nat.zero_le _, env, F1, S1, Ex.refl _, h0 items ψ⟩, ?_⟩
  rintro i m σ2 H2 ⟨rfl, hi2, env2, F2, S2, e2, i2⟩
  by_cases hlt : i < items.length
  · refine .inr ⟨wk.go i H2 hlt (e2.trans S2.fh), fun σ' H' => ∃ env' F', StR X.K B G T F' env' σ' H' ∧ Ex F1 F' ∧ I items (i + 1) env', fun σ' H' ⟨env', F', S', e', i'⟩ => ⟨items.length - (i + 1), by omega, rfl, hlt, env', F', S', e', i'⟩, fun x H3 y => ?_⟩
    obtain ⟨d, F3, ed, dn, x1, x2, x3, x4⟩ := wk.yld i F2 H2 x H3 hlt e2 S2.fh y
    obtain ⟨env'', is, hgr, hbd⟩ := hs i d env2 ed i2
    obtain ⟨g3, S3⟩ := Gr.of_call S2 x1 x2 x3 x4
    refine ⟨⟨(items, i, d, env2, env'', is), ed, hgr, hbd⟩, B, G, T, F3, S3, dn, fun σ4 S4 l4 k4 => ?_⟩
    have S5 : StR X.K B F3 T F3 env'' σ4 H3 := ⟨Ex.refl F3, S4.fh, S4.bh, fun a _ n => n, S4.len, S4.sl, S4.ds, S4.tp⟩
    have low : ∀ {F' : Hp} {env' : List Sl} {σ' : L2.St} {H' : Hp}, StR X.K B F3 T F' env' σ' H' → StR X.K B G T F' env' σ' H' := fun {F' env' σ' H'} Z =>
      ⟨S4.gf.trans Z.gf, Z.fh, Z.bh, fun a hb hg => Z.nf a hb (S4.nf a hb hg), Z.len, Z.sl, Z.ds, Z.tp⟩
    refine ⟨⟨(items, i, d, env2, env'', is), ed, hgr, hbd⟩, B, F3, T, F3, S5, ?_, ?_, ?_, ?_⟩
    · intro env' σ' F' H' S' i'; exact ⟨env', F', low S', (e2.trans x1).trans S'.gf, i'⟩
    · intro v d env' σ' F' H' S' dn' φ; exact r v d env' σ' F' H' (low S') dn' φ
    · intro env' σ' F' H' S' j'; exact ⟨⟨env', .inr j'⟩, B, G, T, F', low S', n, r, bk, ct⟩
    · intro env' σ' F' H' S' i'; exact ⟨env', F', low S', (e2.trans x1).trans S'.gf, i'⟩
  · have e : i = items.length := by omega
    subst e
    exact .inl ⟨wk.stop H2 (e2.trans S2.fh), ⟨env2, .inl ⟨items, ψ, i2⟩⟩, B, G, T, F2, S2, n, r, bk, ct⟩
end
/-! ### tests on open values -/
section
variable {X : Cx} {a b : Expr} {env : List Sl} {pos : Pos}
theorem wr_and1 {Ξ : Bool → Prop} (h : TR X a env Ξ) : WR X (.BoolOp .And [a] pos) env Ξ := PW.imp (pw_and1 h) fun _ _ _ q => q
theorem WR.tr {Ξ : Bool → Prop} {e : Expr} (h : WR X e env Ξ) : TR X e env Ξ := PW.pt h
theorem wr_and {rest : List Expr} {k : Bool} {Ξ : Bool → Prop} (ha : TD X a env k) (hf : k = false → Ξ false) (hb : k = true → WR X (.BoolOp .And (b :: rest) pos) env Ξ) : WR X (.BoolOp .And (a :: b :: rest) pos) env Ξ := by
  cases k with
  | true =>
    refine PW.imp (pw_and ha (hb rfl)) fun σ H Q ⟨B, G, T, F, S, q⟩ => ⟨B, G, T, F, S, fun v F1 H1 S1 g1 e1 => ?_⟩
    subst e1
    exact iteT ⟨B, G, T, F1, S1, fun v F2 H2 S2 g2 ξ => q _ F2 H2 S2 (g1.trans g2 S1.tpn) ξ⟩
  | false =>
    refine PW.imp (pw_and ha pw_never) fun σ H Q ⟨B, G, T, F, S, q⟩ => ⟨B, G, T, F, S, fun v F1 H1 S1 g1 e1 => ?_⟩
    subst e1
    exact iteF (q _ F1 H1 S1 g1 (hf rfl))
end
end DL

namespace Cal
/-- a drawn hint without a year -/
structure HPl (h : Hint) : Prop where
  ok : HOk h
  y : h.y = none
  any : ¬ (h.w = none ∧ h.d = none ∧ h.m = none)
def minO : List Int → Option Int
  | [] => none
  | a :: t => match minO t with
    | none => some a
    | some b => some (if a ≤ b then a else b)
theorem minO_spec : ∀ {L : List Int} {m : Int}, minO L = some m → m ∈ L ∧ ∀ y ∈ L, m ≤ y
  | [], m, e => by cases e
  | a :: t, m, e => by
    simp only [minO] at e
    cases q : minO t with
    | none =>
      rw [q] at e; cases e
      have : t = [] := by
        cases t with
        | nil => rfl
        | cons b r => simp only [minO] at q; split at q <;> cases q
      subst this; simp
    | some b =>
      rw [q] at e
      obtain ⟨h1, h2⟩ := minO_spec q
      simp only [Option.some.injEq] at e
      subst e
      by_cases c : a ≤ b
      · simp only [if_pos c]
        refine ⟨by simp, fun y hy => ?_⟩
        rcases List.mem_cons.1 hy with rfl | hy
        · omega
        · have := h2 y hy; omega
      · simp only [if_neg c]
        refine ⟨by simp [h1], fun y hy => ?_⟩
        rcases List.mem_cons.1 hy with rfl | hy
        · omega
        · exact h2 y hy
theorem minO_none {L : List Int} (e : minO L = none) : L = [] := by
  cases L with
  | nil => rfl
  | cons a t => simp only [minO] at e; split at e <;> cases e
theorem minO_cons {a : Int} {t : List Int} : ∃ m, minO (a :: t) = some m := by
  simp only [minO]; split <;> exact ⟨_, rfl⟩
noncomputable def nextG (L : List Hint) (n : Int) : Option Int := minO (L.filterMap fun h => nxt h n)
theorem nextG_some {L : List Hint} {n m : Int} (e : nextG L n = some m) : n ≤ m ∧ ∀ j, n ≤ j → j < m → (L.any fun h => fitB h j) = false := by
  obtain ⟨h1, h2⟩ := minO_spec e
  obtain ⟨h, hL, hm⟩ := List.mem_filterMap.1 h1
  refine ⟨(nxt_some hm).1, fun j a b => ?_⟩
  rw [List.any_eq_false]
  intro g hg hf
  cases q : nxt g n with
  | none => rw [nxt_no q j a] at hf; cases hf
  | some x =>
    have := h2 x (List.mem_filterMap.2 ⟨g, hg, q⟩)
    rw [(nxt_some q).2.2 j a (by omega)] at hf; cases hf
end Cal
namespace Cal
/-! ### two hints joined -/
def jo (p q : Option Int) : Option Int := if p.isNone = true then q else p
def clash (p q : Option Int) : Bool := !p.isNone && (!q.isNone && !decide (p = q))
def joinH (g h : Hint) : Hint := ⟨jo g.w h.w, jo g.d h.d, jo g.m h.m, jo g.y h.y⟩
def clashH (g h : Hint) : Bool := clash g.w h.w || (clash g.d h.d || (clash g.m h.m || clash g.y h.y))
noncomputable def commonN (g h : Hint) (n : Int) : Option Int := if clashH g h = true then none else nxt (joinH g h) n
theorem clash_comm (p q : Option Int) : clash p q = clash q p := by
  cases p <;> cases q <;> simp [clash, eq_comm]
theorem jo_comm {p q : Option Int} (h : clash p q = false) : jo p q = jo q p := by
  cases p <;> cases q <;> simp [clash, jo] at h ⊢ <;> simp [h]
theorem common_comm (g h : Hint) (n : Int) : commonN g h n = commonN h g n := by
  unfold commonN
  have e : clashH g h = clashH h g := by unfold clashH; rw [clash_comm g.w, clash_comm g.d, clash_comm g.m, clash_comm g.y]
  rw [← e]
  cases q : clashH g h with
  | true => rfl
  | false =>
    simp only [clashH, Bool.or_eq_false_iff] at q
    have : joinH g h = joinH h g := by unfold joinH; rw [jo_comm q.1, jo_comm q.2.1, jo_comm q.2.2.1, jo_comm q.2.2.2]
    simp [this]
theorem jo_some {p q : Option Int} {v : Int} (h : jo p q = some v) : p = some v ∨ q = some v := by
  cases p with
  | none => exact .inr h
  | some z => exact .inl h
theorem join_ok {g h : Hint} (a : HOk g) (b : HOk h) : HOk (joinH g h) :=
  ⟨fun v hv => (jo_some hv).elim (a.w v) (b.w v), fun v hv => (jo_some hv).elim (a.d v) (b.d v), fun v hv => (jo_some hv).elim (a.m v) (b.m v)⟩
end Cal

namespace DL
open PySem PySem.Spec PyProof.Rows L2 RZ
section
variable {X : Cx} {e a b c : Expr} {es : List Expr} {env : List Sl} {pos p p2 pos2 : Pos} {tg : Expr}
theorem dnA_rep {K : Fg} {F : Hp} {vs : List V} {ds : List D} (h : DnA K F vs ds) : ∀ k : Nat, DnA K F (List.replicate k vs).flatten (List.replicate k ds).flatten
  | 0 => .nil
  | k + 1 => by rw [List.replicate_succ, List.replicate_succ, List.flatten_cons, List.flatten_cons]; exact h.append (dnA_rep h k)
theorem o_mulT {xs : List D} {k : Int} (h0 : xs ≠ []) (h1 : 2 ≤ k) (h2 : k ≤ 1000) (h3 : xs.length ≤ 1000) : OpD X (binaryOp .Mult) (.tuple xs) (.int k) (fun d => d = .tuple (List.replicate k.toNat xs).flatten) :=
  ⟨_, op_repT, fun B G T F env σ H v u Q S d1 d2 q => by
    cases d2
    cases d1 with | tup h d =>
    refine ⟨_, _, _, rfl, rfl, ex_t S.fh h, fun e => ?_, h1, h2, by rw [d.length]; exact h3, fun p hp => ?_⟩
    · subst e
      have := d.length
      cases xs with
      | nil => exact h0 rfl
      | cons _ _ => simp at this
    · obtain ⟨S', g⟩ := S.lay (o := .tup _) hp
      exact q _ _ _ _ S' g (.tup (.inl (.inl upd_same)) ((dnA_rep d _).mono g.ff)) rfl⟩
theorem lk_hint {h : Cal.Hint} : lk 4 (hintD h) = true := by
  obtain ⟨w, d, m, y⟩ := h
  cases w <;> cases d <;> cases m <;> cases y <;> rfl
theorem lk_hint1 {h : Cal.Hint} : lk 1 (hintD h) = true := by
  obtain ⟨w, d, m, y⟩ := h
  cases w <;> cases d <;> cases m <;> cases y <;> rfl
theorem lk_day {t : Int × Int × Int} : lk 4 (dayD t) = true := rfl
/-- min over a list that is not empty -/
theorem c_minO (hc : X.calm = true) {L : List Int} {m : Int} (h : Cal.minO L = some m) : CaD X (.builtin "min") [.list (L.map PyData.int)] (fun z => z = .int m) := c_minL hc (Cal.minO_spec h).1 (Cal.minO_spec h).2
theorem filter_some {L : List (Option Int)} : (L.filter fun o => !isNone (oD o)).map oD = (L.filterMap id).map PyData.int := by
  induction L with
  | nil => rfl
  | cons o t ih =>
    cases o with
    | none => exact ih
    | some v =>
      show oD (some v) :: _ = .int v :: _
      rw [← ih]; rfl
end
end DL

namespace DL
open PySem PySem.Spec PyProof.Rows L2 RZ
section
variable {X : Cx} {e a b c : Expr} {es : List Expr} {env : List Sl} {Φ : Out} {pos p p2 pos2 : Pos} {rest thn els : List Stmt} {x : Str}
/-- lo, lo + c, .. -/
def stepV (lo c : Int) (n : Nat) : List V := (List.range n).map fun i => V.int (lo + (i : Nat) * c)
def stepI (lo c : Int) (n : Nat) : List Int := (List.range n).map fun i => lo + (i : Nat) * c
theorem vals_at : ∀ (us : List Value) (f : Nat → V), (∀ j u, us[j]? = some u → RelV (f j) u) → Vals ((List.range us.length).map f) us
  | [], _, _ => .nil
  | u :: r, f, h => by
    simp only [List.length_cons, List.range_succ_eq_map, List.map_cons, List.map_map]
    exact .cons (h 0 u rfl) (vals_at r (fun k => f (k + 1)) fun j v e => h (j + 1) v e)
theorem dnA_step {K : Fg} {F : Hp} {lo c : Int} {n : Nat} : DnA K F (stepV lo c n) ((stepI lo c n).map PyData.int) := by
  unfold stepV stepI
  rw [List.map_map]
  induction (List.range n) with
  | nil => exact .nil
  | cons i t ih => exact .cons (.int _) ih
def tStepL (ta : TA) : TE := fun σ H Q => ta σ H fun vs H1 => ∃ (i j k : Int) (n : Nat), vs = [.int i, .int j, .int k] ∧ RgC i j k n ∧ n ≤ 2 ^ 24 ∧ ∀ q, H1 q = none → Q (.ref q) (upd H1 q (.lst (stepV i k n)))
theorem pe_stepL {ta : TA} (hc : X.calm = true) (hg : Gl X "list") (hm : X.mg "list" = none) (hg2 : Gl X "range") (hm2 : X.mg "range" = none) (ha : PA X [a, b, c] ta)
    (hs : starEach [a, b, c] X.env = (false, eval a X.env) :: starEach [b, c] X.env := by rfl) (hpl : (backTo pos2 (starEach [b, c] X.env)).any (·.1) = false := by rfl)
    (na : starEach [.Call (.Name "range" p2) [a, b, c] [] pos2] X.env = (false, eval (.Call (.Name "range" p2) [a, b, c] [] pos2) X.env) :: starEach [] X.env := by rfl) :
    PE X (.Call (.Name "list" p) [.Call (.Name "range" p2) [a, b, c] [] pos2] [] pos) (tStepL ta) := by
  refine ⟨fun pins s σ H Q I h => ?_⟩
  have inner : wpAny (model X.prog X.w) X.A (eval (.Call (.Name "range" p2) [a, b, c] [] pos2) X.env) (fun x s' => ∃ r i j k n t u v H', x = .ref r ∧ IsRange s'.heap r i j k t u v ∧ RgC i j k n ∧ n ≤ 2 ^ 24 ∧ L2.Inv X pins σ H' s' ∧ ∀ q, H' q = none → Q (.ref q) (upd H' q (.lst (stepV i k n)))) X.xe s := by
    refine Call_ (ld_blt I hg2 hm2 boot_range (PyProof.Rows.callWith_type1 (thn (ha.run pos2 pins s σ H _ I h) fun us s1 ⟨vs, H1, I1, r1, q1⟩ => ?_) hs hpl))
    obtain ⟨i, j, k, n, e, hR, hn, q⟩ := q1
    subst e
    cases r1 with | cons r rr =>
    cases rr with | cons r' rr =>
    cases rr with | cons r'' rr =>
    cases rr
    obtain ⟨t, rfl⟩ := r
    obtain ⟨t', rfl⟩ := r'
    obtain ⟨t'', rfl⟩ := r''
    exact call_range_3 hR.1 ⟨_, i, j, k, n, _, _, _, H1, rfl, IsRange.new _ _ _ _ _ _ _, hR, hn, I1.kept fun b u e => Heap.get?_push_of_some _ e, q⟩ (.inl (PyProof.noPylong_small hR.2.1))
  refine Call_ (ld_blt I hg hm boot_list (PyProof.Rows.callWith_type1 (args_cons (thn inner fun x s1 ⟨r, i, j, k, n, t, u, v, H1, ex, hr, hR, hn, I1, q⟩ => args_nil ?_) na) na))
  subst ex
  refine call_list_range (n := n) (I1.ok.hd hc) hr hR.2.2.1 hR.2.2.2 hn fun h' tk acc c' hk e' hi => ?_
  have hv : Vals (stepV i k n) acc.toList := by
    have e : acc.toList.length = n := by rw [Array.length_toList]; exact hi.1
    unfold stepV
    rw [← e]
    refine vals_at acc.toList _ fun j u hj => ?_
    obtain ⟨t, rfl⟩ := hi.2 j u (by rw [← hj, Array.getElem?_toList])
    exact ⟨t, rfl⟩
  refine ⟨.ref s1.heap.objs.size, upd H1 s1.heap.objs.size (.lst (stepV i k n)), I1.laid hk (Nat.le_refl _) (show ObjOk X.prog X.w _ _ _ (.lst (stepV i k n)) from ⟨?_, acc.toList, c', hv, ?_⟩), rfl, q _ (I1.hok.fresh (Nat.le_refl _))⟩
  · simp only [stepV, List.length_map, List.length_range]; rw [sizeLine_eq]; omega
  · rw [Array.toArray_toList]; exact e'
theorem ed_stepL {i j k : Int} {n : Nat} (ha : AD X [a, b, c] env [.int i, .int j, .int k]) (hR : RgC i j k n) (hn : n ≤ 2 ^ 24) (hc : X.calm = true) (hm : X.mg "list" = none) (hm2 : X.mg "range" = none) (hg : Gl X "list" := by rfl) (hg2 : Gl X "range" := by rfl)
    (hs : starEach [a, b, c] X.env = (false, eval a X.env) :: starEach [b, c] X.env := by rfl) (hpl : (backTo pos2 (starEach [b, c] X.env)).any (·.1) = false := by rfl)
    (na : starEach [.Call (.Name "range" p2) [a, b, c] [] pos2] X.env = (false, eval (.Call (.Name "range" p2) [a, b, c] [] pos2) X.env) :: starEach [] X.env := by rfl) :
    ED X (.Call (.Name "list" p) [.Call (.Name "range" p2) [a, b, c] [] pos2] [] pos) env (.list ((stepI i k n).map PyData.int)) :=
  PE.imp (pe_stepL hc hg hm hg2 hm2 ha hs hpl na) fun σ H Q ⟨B, G, T, F, S, q⟩ => ⟨B, G, T, F, S, fun vs ds F1 H1 S1 g1 dn1 e1 => by
    subst e1
    cases dn1 with | cons d1 t =>
    cases t with | cons d2 t =>
    cases t with | cons d3 t =>
    cases t; cases d1; cases d2; cases d3
    refine ⟨i, j, k, n, rfl, hR, hn, fun r hr => ?_⟩
    obtain ⟨S', g⟩ := S1.lay (o := .lst (stepV i k n)) hr
    exact q _ _ _ _ S' (g1.trans g S1.tpn) (.lst upd_same dnA_step) rfl⟩
theorem rgc_one {i j : Int} (h1 : -1000000000 ≤ i) (h2 : j ≤ 1000000000) (h3 : i ≤ 1000000000 ∧ -1000000000 ≤ j) : RgC i j 1 (j - i).toNat :=
  ⟨by decide, by decide, small_one (by omega) (by omega) (by omega) (by omega), rangeSize_nat i j⟩
theorem rgc_7 {i j : Int} (h1 : -1000000000 ≤ i) (h2 : j ≤ 1000000000) (h3 : i ≤ 1000000000 ∧ -1000000000 ≤ j) : RgC i j 7 (if i < j then (j - i - 1) / 7 + 1 else 0).toNat := by
  have e : Builtin.Range.rangeSize i j 7 = if i < j then (j - i - 1) / 7 + 1 else 0 := by simp [Builtin.Range.rangeSize]
  refine ⟨by decide, by decide, ?_, ?_⟩
  · unfold Builtin.Range.small
    rw [e]
    simp only [Builtin.Range.rangeFitsLong, Bool.and_eq_true, Bool.or_eq_true, decide_eq_true_eq, beq_iff_eq, show (7 : Int) > 0 by decide, if_true]
    split <;> omega
  · rw [e]; split <;> omega
/-- x.extend(e) on an own list -/
theorem sds_extend {zs xs : List D} (i : Nat) (hi : env[i]? = some (.own xs)) (he : AD X [e] env [.list zs]) (hz : xs.length + zs.length ≤ 10000000) (hr : SDs X rest (env.set i (.own (xs ++ zs))) Φ) {npos apos cpos : Pos} (hN : X.N[i]? = some x := by rfl) (hv : Vis X.env.scope x := by first | exact Or.inl rfl | exact Or.inr (Or.inl rfl) | exact Or.inr (Or.inr rfl))
    (hd : (x == ("__debug__" : Str)) = false := by decide) (hcd : (x == ("__classdict__" : Str)) = false := by decide) (hsw : swapsWith (.Call (.Attribute (.Name x npos) "extend" apos) [e] [] cpos) none pos.line X.env = pure false := by rfl)
    (hbase : attributeBase (.Name x npos) "extend" X.env (eval (.Name x npos) X.env) = eval (.Name x npos) X.env := by rfl)
    (hfew : ((backTo cpos (starEach [e] X.env)).all (fun x => !x.1) && (backToKw cpos (keywordEach [] X.env)).all (fun x => x.1.isSome) && decide ([e].length + ([] : List Keyword).length + (if ([] : List Keyword).isEmpty then 0 else 1) < 30)) = true := by rfl)
    (hline : (apos.endLine == cpos.line) = true := by rfl) (hs : starEach [e] X.env = (false, eval e X.env) :: starEach [] X.env := by rfl) (hplain : (backTo cpos (starEach [] X.env)).any (·.1) = false := by rfl) : SDs X (.Expr (.Call (.Attribute (.Name x npos) "extend" apos) [e] [] cpos) pos :: rest) env Φ :=
  PSs.imp (pss_cons (ps_expr (pe_bm PySem.F.plainAttrs_list PySem.F.slot_list_extend PySem.F.type_list_extend mt_extend (pv i hN hv hd hcd) he hbase hfew hline hs hplain) hsw) hr) fun E σ H ⟨B, G, T, F, S, n⟩ => by
    obtain ⟨o, eo, p, vs, e2, b, f, np, hp, dn⟩ := S.some_at hi
    subst e2
    refine ⟨_, eo, .inl ⟨rfl, vs, SqL.of hp⟩, B, G, T, F, S, fun ws ds F' H' S' g da z => ?_⟩
    subst z
    cases da with | cons d1 t =>
    cases t
    cases d1 with | lst hl dl =>
    have hp' := g.hh _ _ hp np
    exact ⟨p, _, vs, _, rfl, rfl, hp', S'.fh _ _ hl, by rw [dn.length, dl.length, sizeLine_eq]; omega, B, G, T, F', S'.upd_own hi eo ((dn.mono g.ff).append dl), n⟩
/-- a, b, c = x, y, z -/
theorem sds_par3 {y z : Str} {s t u : Sl} {px py pz pt : Pos} {kt k2 : Nat} {pt2 : Pos} (i j l : Nat) (hc : X.calm = true) (h : EXs X [a, b, c] env [s, t, u]) (hr : SDs X rest (((env.set i s).set j t).set l u) Φ) (hN : X.N.Nodup := by assumption) (hi : X.N[i]? = some x := by rfl) (hj : X.N[j]? = some y := by rfl) (hl : X.N[l]? = some z := by rfl)
    (hij : i ≠ j := by decide) (hil : i ≠ l := by decide) (hjl : j ≠ l := by decide)
    (hx : X.env.scope.names.lookup x = some .local := by rfl) (hy : X.env.scope.names.lookup y = some .local := by rfl) (hz : X.env.scope.names.lookup z = some .local := by rfl) (hw : swappedStores [.Tuple [.Name x px, .Name y py, .Name z pz] kt pt] (.Tuple [a, b, c] k2 pt2) X.env = pure (some [x, y, z]) := by rfl)
    (hs : swapsWithSole [.Tuple [.Name x px, .Name y py, .Name z pz] kt pt] (.Tuple [a, b, c] k2 pt2) pos.line X.env = pure false := by rfl) : SDs X (.Assign [.Tuple [.Name x px, .Name y py, .Name z pz] kt pt] (.Tuple [a, b, c] k2 pt2) pos :: rest) env Φ :=
  PSs.imp (pss_cons (ps_par3 hc hN hi hj hl hij hil hjl hx hy hz h hw hs) hr) fun E σ H ⟨B, G, T, F, S, n⟩ => ⟨B, G, T, F, S, fun vs F1 H1 hl' S1 g1 fr => by
    match vs, hl' with
    | [v1, v2, v3], _ =>
      refine ⟨v1, v2, v3, rfl, B, G, T, F1, ?_, n⟩
      have q1 := S1.move (i := i) (k := 0) S.len rfl rfl
      have q2 := q1.move (i := j) (k := 1) (by simpa using S.len) rfl rfl
      have q3 := q2.move (i := l) (k := 2) (by simpa using S.len) rfl rfl
      exact q3.drop (by simpa using S.len)⟩
end
end DL

namespace Cal
/-! ### the days of 400 years -/
def daysTo (h : Hint) (k : Nat) : List Int := (List.range k).flatMap fun (i : Nat) => daysIn h (24012 + i)
def daysAll (h : Hint) : List Int := daysTo h 4800
theorem daysTo_succ (h : Hint) (k : Nat) : daysTo h (k + 1) = daysTo h k ++ daysIn h (24012 + (k : Int)) := by
  unfold daysTo
  rw [List.range_succ, List.flatMap_append]; simp
theorem daysTo_len (h : Hint) : ∀ k : Nat, (daysTo h k).length ≤ 31 * k
  | 0 => Nat.le_refl _
  | k + 1 => by
    rw [daysTo_succ, List.length_append]
    have := daysTo_len h k
    have := days_len h (24012 + (k : Int))
    omega
theorem mem_daysTo {h : Hint} {x : Int} : ∀ {k : Nat}, x ∈ daysTo h k ↔ (mI 24012 ≤ x ∧ x < mI (24012 + (k : Int)) ∧ fitB h x = true)
  | 0 => by
    constructor
    · intro q; simp [daysTo] at q
    · rintro ⟨a, b, _⟩; simp at b; omega
  | k + 1 => by
    rw [daysTo_succ, List.mem_append, mem_daysTo, mem_days]
    have e : (24012 : Int) + (k : Int) + 1 = 24012 + ((k + 1 : Nat) : Int) := by omega
    rw [e]
    have a := mI_le (show (24012 : Int) ≤ 24012 + (k : Int) by omega)
    have b := mI_le (show (24012 : Int) + (k : Int) ≤ 24012 + ((k + 1 : Nat) : Int) by omega)
    constructor
    · rintro (⟨q1, q2, q3⟩ | ⟨q1, q2, q3⟩)
      · exact ⟨q1, by omega, q3⟩
      · exact ⟨by omega, q2, q3⟩
    · rintro ⟨q1, q2, q3⟩
      rcases Int.lt_or_le x (mI (24012 + (k : Int))) with z | z
      · exact .inl ⟨q1, z, q3⟩
      · exact .inr ⟨z, q2, q3⟩
theorem sorted_daysTo (h : Hint) : ∀ k : Nat, Sorted (daysTo h k)
  | 0 => List.Pairwise.nil
  | k + 1 => by
    rw [daysTo_succ]
    unfold Sorted
    rw [List.pairwise_append]
    refine ⟨sorted_daysTo h k, sorted_days h _, fun a ha b hb => ?_⟩
    have := mem_daysTo.1 ha
    have := mem_days.1 hb
    omega
theorem mI_b : mI 24012 = 730486 := by decide +kernel
theorem mI_e : mI 28812 = 876583 := by decide +kernel
theorem mem_daysAll {h : Hint} {x : Int} : x ∈ daysAll h ↔ (730486 ≤ x ∧ x < 876583 ∧ fitB h x = true) := by
  unfold daysAll
  rw [mem_daysTo, mI_b, show (24012 : Int) + ((4800 : Nat) : Int) = 28812 by decide, mI_e]
theorem daysAll_len (h : Hint) : (daysAll h).length ≤ 148800 := daysTo_len h 4800
theorem sorted_daysAll (h : Hint) : Sorted (daysAll h) := sorted_daysTo h 4800
def stepL (lo c : Int) (n : Nat) : List Int := (List.range n).map fun (i : Nat) => lo + (i : Nat) * c
theorem step1 {h : Hint} {t lo hi : Int} (M : MF h t lo hi 1) : stepL lo 1 (hi + 1 - lo).toNat = daysIn h t := by
  refine days_eq ?_ fun x => ?_
  · unfold Sorted stepL
    rw [List.pairwise_map]
    exact List.Pairwise.imp (fun {a b} h => by omega) List.pairwise_lt_range
  · unfold stepL
    rw [List.mem_map]
    constructor
    · rintro ⟨i, hi', e⟩
      have := List.mem_range.1 hi'
      have hb : lo ≤ hi := by omega
      obtain ⟨b1, b2, b3⟩ := M.bd hb
      have l1 : mI t ≤ x := by omega
      have l2 : x < mI (t + 1) := by omega
      exact ⟨l1, l2, (M.ft x l1 l2).2 ⟨by omega, by omega, by omega⟩⟩
    · rintro ⟨l1, l2, hf⟩
      obtain ⟨q1, q2, q3⟩ := (M.ft x l1 l2).1 hf
      exact ⟨(x - lo).toNat, List.mem_range.2 (by omega), by omega⟩
theorem step7 {h : Hint} {t lo hi : Int} (M : MF h t lo hi 7) : stepL lo 7 (if lo < hi + 1 then (hi + 1 - lo - 1) / 7 + 1 else 0).toNat = daysIn h t := by
  refine days_eq ?_ fun x => ?_
  · unfold Sorted stepL
    rw [List.pairwise_map]
    exact List.Pairwise.imp (fun {a b} h => by omega) List.pairwise_lt_range
  · unfold stepL
    rw [List.mem_map]
    constructor
    · rintro ⟨i, hi', e⟩
      have hi' := List.mem_range.1 hi'
      have hb : lo ≤ hi := by split at hi' <;> omega
      obtain ⟨b1, b2, b3⟩ := M.bd hb
      have l1 : mI t ≤ x := by omega
      have l3 : x ≤ hi := by split at hi' <;> omega
      have l2 : x < mI (t + 1) := by omega
      exact ⟨l1, l2, (M.ft x l1 l2).2 ⟨by omega, l3, by omega⟩⟩
    · rintro ⟨l1, l2, hf⟩
      obtain ⟨q1, q2, q3⟩ := (M.ft x l1 l2).1 hf
      exact ⟨((x - lo) / 7).toNat, List.mem_range.2 (by split <;> omega), by omega⟩
theorem mI_small {t : Int} (h1 : 24012 ≤ t) (h2 : t ≤ 28812) : 730486 ≤ mI t ∧ mI t ≤ 876583 := by
  have a := mI_le h1
  have b := mI_le h2
  rw [mI_b] at a; rw [mI_e] at b
  exact ⟨a, b⟩
theorem MF.small {h : Hint} {t lo hi st : Int} (M : MF h t lo hi st) (h1 : 24012 ≤ t) (h2 : t < 28812) : 0 ≤ lo ∧ lo ≤ 876583 ∧ 0 ≤ hi ∧ hi ≤ 876583 := by
  have a := mI_small h1 (by omega)
  have b := mI_small (t := t + 1) (by omega) (by omega)
  rcases M.sm with q | q
  · have := M.bd q; omega
  · omega
end Cal
namespace Cal
/-! ### counts -/
def cntD (h : Hint) (d : Int) : Nat → Nat
  | 0 => 0
  | k + 1 => cntD h d k + (if (ok h.m ((24012 + (k : Int)) % 12 + 1) && (decide (d ≤ lI (24012 + (k : Int))) && ok h.w ((mI (24012 + (k : Int)) + d - 1 - 1) % 7))) = true then 1 else 0)
theorem len_in {h : Hint} {d t : Int} (hd : h.d = some d) (d1 : 1 ≤ d) (hy : h.y = none) : (daysIn h t).length = if (ok h.m (t % 12 + 1) && (decide (d ≤ lI t) && ok h.w ((mI t + d - 1 - 1) % 7))) = true then 1 else 0 := by
  split
  next q =>
    simp only [Bool.and_eq_true, decide_eq_true_eq] at q
    have M := mf_date (h := h) (t := t) (d := d) (ok_iff.1 q.1) (.inl hy) hd (ok_iff.1 q.2.2) d1 q.2.1
    rw [← step1 M]
    simp only [stepL, List.length_map, List.length_range]; omega
  next q =>
    have : daysIn h t = [] := by
      cases e : daysIn h t with
      | nil => rfl
      | cons a r =>
        exfalso
        have ha : a ∈ daysIn h t := by rw [e]; simp
        obtain ⟨h1, h2, hf⟩ := mem_days.1 ha
        obtain ⟨f1, f2, f3, f4⟩ := (fit_iff h1 h2).1 hf
        rw [hd] at f2
        have f2 : d = a - mI t + 1 := by simpa using f2
        have hs := mI_succ t
        apply q
        simp only [Bool.and_eq_true, decide_eq_true_eq]
        refine ⟨ok_iff.2 f3, by omega, ok_iff.2 ?_⟩
        have : mI t + d - 1 - 1 = a - 1 := by omega
        rw [this]; exact f1
    rw [this]; rfl
theorem len_to {h : Hint} {d : Int} (hd : h.d = some d) (d1 : 1 ≤ d) (hy : h.y = none) : ∀ k : Nat, (daysTo h k).length = cntD h d k
  | 0 => rfl
  | k + 1 => by rw [daysTo_succ, List.length_append, len_to hd d1 hy k, len_in hd d1 hy]; rfl
def fitAt (L : List Int) (i : Int) : Option Int := if L = [] then none else some (L.getD (i % L.length).toNat 0 + 146097 * (i / L.length))
end Cal
namespace Cal
/-! ### gaps -/
def gapsOf : List Int → List Int
  | [] => []
  | a :: t => ((a :: t).zip (t ++ [a + 146097])).map fun p => p.2 - p.1
def maxO (L : List Int) : Option Int := (minO (L.map fun x => -x)).map fun x => -x
theorem maxO_spec {L : List Int} {m : Int} (e : maxO L = some m) : m ∈ L ∧ ∀ y ∈ L, y ≤ m := by
  unfold maxO at e
  cases q : minO (L.map fun x => -x) with
  | none => rw [q] at e; cases e
  | some b =>
    rw [q] at e
    obtain ⟨h1, h2⟩ := minO_spec q
    have e : -b = m := by simpa using e
    obtain ⟨x, hx, ex⟩ := List.mem_map.1 h1
    have ex : -x = b := ex
    have : x = m := by omega
    subst this
    exact ⟨hx, fun y hy => by have := h2 (-y) (List.mem_map.2 ⟨y, hy, rfl⟩); omega⟩
theorem maxO_cons {a : Int} {t : List Int} : ∃ m, maxO (a :: t) = some m := by
  obtain ⟨m, hm⟩ := minO_cons (a := -a) (t := t.map fun x => -x)
  exact ⟨-m, by unfold maxO; rw [List.map_cons, hm]; rfl⟩
theorem gaps_nil {L : List Int} : gapsOf L = [] ↔ L = [] := by
  cases L with
  | nil => exact ⟨fun _ => rfl, fun _ => rfl⟩
  | cons a t => cases t <;> simp [gapsOf]
theorem gaps_len {L : List Int} : (gapsOf L).length ≤ L.length := by
  cases L with
  | nil => exact Nat.le_refl _
  | cons a t => simp [gapsOf]
theorem all_max {L : List Int} {c : Int} (h0 : L ≠ []) (h : ∀ x ∈ L, x = c) : maxO L = some c := by
  cases L with
  | nil => exact (h0 rfl).elim
  | cons a t =>
    obtain ⟨m, hm⟩ := maxO_cons (a := a) (t := t)
    rw [hm, h m (maxO_spec hm).1]
/-- the days of one weekday -/
theorem week_days {w : Int} (w0 : 0 ≤ w) (w6 : w ≤ 6) : daysAll ⟨some w, none, none, none⟩ = stepL (730486 + w) 7 20871 := by
  refine sorted_ext (sorted_daysAll _) ?_ fun x => ?_
  · unfold Sorted stepL
    rw [List.pairwise_map]
    exact List.Pairwise.imp (fun {a b} h => by omega) List.pairwise_lt_range
  · rw [mem_daysAll]
    unfold stepL
    rw [List.mem_map]
    have hf : fitB ⟨some w, none, none, none⟩ x = true ↔ w = (x - 1) % 7 := by simp [fitB, ok]
    rw [hf]
    constructor
    · rintro ⟨a, b, c⟩
      exact ⟨((x - 730486 - w) / 7).toNat, List.mem_range.2 (by omega), by omega⟩
    · rintro ⟨i, hi, e⟩
      have := List.mem_range.1 hi
      exact ⟨by omega, by omega, by omega⟩
theorem step_cons {lo : Int} {n : Nat} : stepL lo 7 (n + 1) = lo :: (List.range n).map fun (i : Nat) => lo + 7 + (i : Int) * 7 := by
  unfold stepL
  rw [List.range_succ_eq_map, List.map_cons, List.map_map]
  congr 1
  · simp
  · refine List.map_congr_left fun i _ => ?_
    simp only [Function.comp]; omega
theorem step_snoc {lo : Int} {n : Nat} : ((List.range n).map fun (i : Nat) => lo + 7 + (i : Int) * 7) ++ [lo + 7 + (n : Int) * 7] = (List.range (n + 1)).map fun (i : Nat) => lo + 7 + (i : Int) * 7 := by
  rw [List.range_succ, List.map_append]; rfl
theorem step_gapsN {lo : Int} {n : Nat} (hn : (n : Int) * 7 + 7 = 146097) : ∀ x ∈ gapsOf (stepL lo 7 (n + 1)), x = 7 := by
  intro x hx
  have hx : x ∈ (((stepL lo 7 (n + 1)).zip ((List.range (n + 1)).map fun (i : Nat) => lo + 7 + (i : Int) * 7)).map fun p => p.2 - p.1) := by
    rw [step_cons] at hx ⊢
    rw [← step_snoc]
    have e : lo + 7 + (n : Int) * 7 = lo + 146097 := by omega
    rw [e]; exact hx
  unfold stepL at hx
  rw [List.zip_map', List.map_map] at hx
  obtain ⟨i, _, e⟩ := List.mem_map.1 hx
  simp only [Function.comp] at e
  omega
theorem step_gaps {lo : Int} : ∀ x ∈ gapsOf (stepL lo 7 20871), x = 7 := step_gapsN (n := 20870) (by decide)
theorem week_max {w : Int} (w0 : 0 ≤ w) (w6 : w ≤ 6) : maxO (gapsOf (daysAll ⟨some w, none, none, none⟩)) = some 7 := by
  rw [week_days w0 w6]
  refine all_max (fun z => ?_) step_gaps
  have := gaps_nil.1 z
  have := congrArg List.length this
  simp [stepL] at this
def datedF (h : Hint) (d : Int) : Nat → List Int
  | 0 => []
  | k + 1 => if (ok h.m ((28811 - (k : Int)) % 12 + 1) && (decide (d ≤ lI (28811 - (k : Int))) && ok h.w ((mI (28811 - (k : Int)) + d - 1 - 1) % 7))) = true then (mI (28811 - (k : Int)) + d - 1) :: datedF h d k else datedF h d k
theorem in_dated {h : Hint} {d t : Int} (hd : h.d = some d) (d1 : 1 ≤ d) (hy : h.y = none) : daysIn h t = if (ok h.m (t % 12 + 1) && (decide (d ≤ lI t) && ok h.w ((mI t + d - 1 - 1) % 7))) = true then [mI t + d - 1] else [] := by
  have hl := len_in (t := t) hd d1 hy
  split
  next q =>
    have q' := q
    simp only [Bool.and_eq_true, decide_eq_true_eq] at q
    have M := mf_date (h := h) (t := t) (d := d) (ok_iff.1 q.1) (.inl hy) hd (ok_iff.1 q.2.2) d1 q.2.1
    rw [← step1 M]
    have : (mI t + d - 1 + 1 - (mI t + d - 1)).toNat = 1 := by omega
    rw [this]; simp [stepL]
  next q =>
    rw [if_neg q] at hl
    exact List.eq_nil_of_length_eq_zero hl
theorem dated_eq {h : Hint} {d : Int} (hd : h.d = some d) (d1 : 1 ≤ d) (hy : h.y = none) : ∀ k : Nat, ((List.range k).flatMap fun (i : Nat) => daysIn h (28812 - (k : Int) + i)) = datedF h d k
  | 0 => rfl
  | k + 1 => by
    rw [List.range_succ_eq_map, List.flatMap_cons, List.flatMap_map]
    have e : ((List.range k).flatMap fun (i : Nat) => daysIn h (28812 - ((k + 1 : Nat) : Int) + (Nat.succ i : Nat))) = (List.range k).flatMap fun (i : Nat) => daysIn h (28812 - (k : Int) + i) := by
      refine congrArg (fun f => (List.range k).flatMap f) (funext fun i => ?_)
      have e3 : 28812 - ((k + 1 : Nat) : Int) + ((Nat.succ i : Nat) : Int) = 28812 - (k : Int) + (i : Int) := by omega
      rw [e3]
    rw [e, dated_eq hd d1 hy k]
    have e2 : 28812 - ((k + 1 : Nat) : Int) + ((0 : Nat) : Int) = 28811 - (k : Int) := by omega
    rw [e2, in_dated hd d1 hy]
    simp only [datedF]
    split <;> rfl
theorem dated_all {h : Hint} {d : Int} (hd : h.d = some d) (d1 : 1 ≤ d) (hy : h.y = none) : daysAll h = datedF h d 4800 := by
  rw [← dated_eq hd d1 hy 4800]
  unfold daysAll daysTo
  refine congrArg (fun f => (List.range 4800).flatMap f) (funext fun i => ?_)
  have e3 : 28812 - ((4800 : Nat) : Int) + (i : Int) = 24012 + (i : Int) := by omega
  rw [e3]
end Cal

namespace DL
open PySem PySem.Spec PyProof.Rows L2 RZ
section
variable {X : Cx} {e a b c : Expr} {es : List Expr} {env : List Sl} {Φ : Out} {pos p p2 pos2 : Pos} {rest thn els : List Stmt} {x : Str}
/-- *e in a display -/
theorem ad_star {xs ds : List D} (h : ED X e env (.list xs)) (hr : AD X es env ds) (hs : starEach (.Starred e p :: es) X.env = (true, eval e X.env) :: starEach es X.env := by rfl) : AD X (.Starred e p :: es) env (xs ++ ds) :=
  PA.imp (StX.pa_star h hr hs) fun σ H Q ⟨B, G, T, F, S, q⟩ => ⟨B, G, T, F, S, fun v d F1 H1 S1 g1 dn1 e1 => by
    subst e1
    cases dn1 with | lst h1 d1 =>
    refine ⟨_, _, rfl, .inr (SqL.of (S1.fh _ _ h1)), B, G, T, F1, S1, fun us ds2 F2 H2 S2 g2 d2 e2 => ?_⟩
    subst e2
    exact q _ _ F2 H2 S2 (g1.trans g2 S1.tpn) ((d1.mono g2.ff).append d2) rfl⟩
theorem ed_lstB {ds : List D} (h : AD X es env ds) (hl : ds.length ≤ 10000000) : ED X (.List es pos) env (.list ds) :=
  PE.imp (pe_lst h) fun σ H Q ⟨B, G, T, F, S, q⟩ => ⟨B, G, T, F, S, fun vs ds F1 H1 S1 g1 d1 ψ => by
    subst ψ
    refine ⟨by rw [d1.length]; exact Nat.le_trans hl (by decide), fun p hp => ?_⟩
    obtain ⟨S', g⟩ := S1.lay (o := .lst vs) hp
    exact q _ _ _ _ S' (g1.trans g S1.tpn) (.lst upd_same (d1.mono g.ff)) rfl⟩
theorem cut_drop {α : Type} {f : α → D} {xs : List α} {i : Int} (h : 0 ≤ i) : cutD (xs.map f) (some i) none = (xs.drop i.toNat).map f := by
  have e : HT.sIx (xs.map f).length 0 (some i) = min i.toNat xs.length := by
    simp only [HT.sIx, List.length_map]
    rw [if_neg (by omega)]
  have e2 : HT.sIx (xs.map f).length (xs.map f).length none = xs.length := by simp [HT.sIx]
  unfold cutD
  rw [e, e2, ← List.map_drop, ← List.map_take]
  congr 1
  rcases Nat.lt_or_ge i.toNat xs.length with q | q
  · rw [Nat.min_eq_left (Nat.le_of_lt q)]
    rw [List.take_of_length_le (by simp)]
  · rw [Nat.min_eq_right q, List.drop_of_length_le (Nat.le_refl _), List.drop_of_length_le q]; simp
theorem o_mulL {xs : List D} {k : Int} (h1 : 0 ≤ k) (h2 : k ≤ 1000) (h3 : xs.length ≤ 1000) : OpD X (binaryOp .Mult) (.list xs) (.int k) (fun d => d = .list (List.replicate k.toNat xs).flatten) :=
  ⟨_, op_rep, fun B G T F env σ H v u Q S d1 d2 q => by
    cases d2
    cases d1 with | lst h d =>
    refine ⟨_, _, _, rfl, rfl, S.fh _ _ h, by omega, by omega, ?_, fun p hp => ?_⟩
    · rw [d.length, sizeLine_eq]
      have : xs.length * k.toNat ≤ 1000 * 1000 := Nat.mul_le_mul h3 (by omega)
      omega
    · obtain ⟨S', g⟩ := S.lay (o := .lst _) hp
      exact q _ _ _ _ S' g (.lst upd_same ((dnA_rep d _).mono g.ff)) rfl⟩
theorem c_maxO (hc : X.calm = true) {L : List Int} {m : Int} (h : Cal.maxO L = some m) : CaD X (.builtin "max") [.list (L.map PyData.int)] (fun z => z = .int m) := c_maxL hc (Cal.maxO_spec h).1 (Cal.maxO_spec h).2
theorem zipD_ints {xs ys : List Int} : zipD (xs.map PyData.int) (ys.map PyData.int) = (xs.zip ys).map fun p => .tuple [.int p.1, .int p.2] := by
  unfold zipD
  rw [List.zip_map, List.map_map]; rfl
/-- the end of longest and shortest: one of the list, or none -/
theorem ed_max {c' : Expr} {L : List Int} {env : List Sl} (hu : X.A.units + 64 < cLine) (hc0 : X.calm = true) (hl : L.length ≤ 1000000) (hv : ED X e env (.list (L.map PyData.int))) (hm : X.mg "max" = none) (hd : ED X a env .none) (hg : Gl X "max" := by rfl)
    (he : starEach [e] X.env = (false, eval e X.env) :: starEach [] X.env := by rfl) (hpl : (backTo pos (starEach [] X.env)).any (·.1) = false := by rfl) {pc p0 : Pos}
    (hmk : behindInMarks .NotEq (.List [] p0) = false := by first | exact nomark _ | with_unfolding_all rfl) (hT : TD X (.Compare e [.NotEq] [.List [] p0] pc) env (!L.isEmpty)) :
    ED X (.IfExp (.Compare e [.NotEq] [.List [] p0] pc) (.Call (.Name "max" p) [e] [] pos) a pos2) env (oD (Cal.maxO L)) := by
  cases L with
  | nil => exact ED.is (ed_if (k := false) hT (x := .none) (fun z => nomatch z) (fun _ => hd)) rfl
  | cons b t =>
    obtain ⟨m, hm'⟩ := Cal.maxO_cons (a := b) (t := t)
    rw [hm']
    exact ED.is (ed_if (k := true) hT (fun _ => ed_callB (ad_cons hv ar_nil he) hm boot_max (c_maxO hc0 hm') hg (by decide) (by decide) he hpl) (y := .none) (fun z => nomatch z)) rfl
end
end DL

namespace DL
open PySem PySem.Spec PyProof.Rows L2 RZ
section
variable {X : Cx} {e a b c : Expr} {es : List Expr} {env : List Sl} {Φ : Out} {pos p p2 pos2 : Pos} {rest thn els : List Stmt} {x : Str}
theorem ER.exr {P : D → Prop} (h : ER X e env P) : EXR X e env (fun s => ∃ d, s = .dt d ∧ P d) := PE.imp h fun σ H Q ⟨B, G, T, F, S, q⟩ => ⟨B, G, T, F, S, fun v d F' H' S' g dn φ => q v _ F' H' (S'.ext_dt dn) g (fun z => by cases z) ⟨d, rfl, φ⟩⟩
def rdXsR (K : Fg) (env : List Sl) (Ψ : List Sl → Prop) : TA := fun σ H Q => ∃ B G T F, StR K B G T F env σ H ∧ ∀ vs ss F' H', vs.length = ss.length → StR K B G T F' (env ++ ss) (σ ++ vs.map some) H' → Gr T F H F' H' → (∀ (i : Nat) (s : Sl) (v : V), ss[i]? = some s → vs[i]? = some v → s.owned = true → ∀ p, v = .ref p → H p = none) → Ψ ss → Q vs H'
def EXsR (X : Cx) (es : List Expr) (env : List Sl) (Ψ : List Sl → Prop) : Prop := PA X es (rdXsR X.K env Ψ)
theorem exsr_nil : EXsR X [] env (fun ss => ss = []) := PA.imp pa_nil fun σ H Q ⟨B, G, T, F, S, q⟩ => q [] [] F H rfl (by simpa using S) (Gr.refl S.fh) (fun i s v h => by simp at h) rfl
theorem exsr_cons {P : Sl → Prop} {Ψ : List Sl → Prop} (h : EXR X e env P) (hr : EXsR X es env Ψ) (hs : starEach (e :: es) X.env = (false, eval e X.env) :: starEach es X.env := by rfl) : EXsR X (e :: es) env (fun ss => ∃ s r, ss = s :: r ∧ P s ∧ Ψ r) :=
  PA.imp (pa_cons h hr hs) fun σ H Q ⟨B, G, T, F, S, q⟩ => ⟨B, G, T, F, S, fun v s' F1 H1 S1 g1 fr1 hp => by
    refine ⟨B, G, T, F1, S1.drop S.len, fun vs ss F2 H2 hl S2 g2 fr2 hψ => ?_⟩
    refine q (v :: vs) (s' :: ss) F2 H2 (by simp [hl]) (S1.insert S2 g2 S.len hl fr2) (g1.trans g2 (S1.drop S.len).tpn) (fun i t w e1 e2 o p ep => ?_) ⟨s', ss, rfl, hp, hψ⟩
    cases i with
    | zero => simp at e1 e2; subst e1; subst e2; exact fr1 o p ep
    | succ i => exact fresh_of g1 (S1.drop S.len).tpn (fr2 i t w (by simpa using e1) (by simpa using e2) o p ep)⟩
theorem sds_par3R {Ψ : List Sl → Prop} {y z : Str} {px py pz pt : Pos} {kt k2 : Nat} {pt2 : Pos} (i j l : Nat) (hc : X.calm = true) (h : EXsR X [a, b, c] env Ψ) (hr : ∀ s t u, Ψ [s, t, u] → SDs X rest (((env.set i s).set j t).set l u) Φ) (hΨ : ∀ ss, Ψ ss → ss.length = 3) (hN : X.N.Nodup := by assumption) (hi : X.N[i]? = some x := by rfl) (hj : X.N[j]? = some y := by rfl) (hl : X.N[l]? = some z := by rfl)
    (hij : i ≠ j := by decide) (hil : i ≠ l := by decide) (hjl : j ≠ l := by decide)
    (hx : X.env.scope.names.lookup x = some .local := by rfl) (hy : X.env.scope.names.lookup y = some .local := by rfl) (hz : X.env.scope.names.lookup z = some .local := by rfl) (hw : swappedStores [.Tuple [.Name x px, .Name y py, .Name z pz] kt pt] (.Tuple [a, b, c] k2 pt2) X.env = pure (some [x, y, z]) := by rfl)
    (hs : swapsWithSole [.Tuple [.Name x px, .Name y py, .Name z pz] kt pt] (.Tuple [a, b, c] k2 pt2) pos.line X.env = pure false := by rfl) : SDs X (.Assign [.Tuple [.Name x px, .Name y py, .Name z pz] kt pt] (.Tuple [a, b, c] k2 pt2) pos :: rest) env Φ :=
  PSs.imp (pss_cons (ps_par3 hc hN hi hj hl hij hil hjl hx hy hz h hw hs) (PSs.ex fun q : {q : Sl × Sl × Sl // Ψ [q.1, q.2.1, q.2.2]} => hr q.1.1 q.1.2.1 q.1.2.2 q.2)) fun E σ H ⟨B, G, T, F, S, n⟩ => ⟨B, G, T, F, S, fun vs ss F1 H1 hl' S1 g1 fr hψ => by
    have h3 := hΨ ss hψ
    match ss, h3, vs, hl' with
    | [s1, s2, s3], _, [v1, v2, v3], _ =>
      refine ⟨v1, v2, v3, rfl, ⟨⟨(s1, s2, s3), hψ⟩, B, G, T, F1, ?_, n⟩⟩
      have q1 := S1.move (i := i) (k := 0) S.len rfl rfl
      have q2 := q1.move (i := j) (k := 1) (by simpa using S.len) rfl rfl
      have q3 := q2.move (i := l) (k := 2) (by simpa using S.len) rfl rfl
      exact q3.drop (by simpa using S.len)⟩
/-- a, b = x, y with open sides, own lists too -/
theorem sds_par2R {Ψ : List Sl → Prop} {y : Str} {px py pt : Pos} {kt k2 : Nat} {pt2 : Pos} (i j : Nat) (hc : X.calm = true) (h : EXsR X [a, b] env Ψ) (hr : ∀ s t, Ψ [s, t] → SDs X rest ((env.set i s).set j t) Φ) (hΨ : ∀ ss, Ψ ss → ss.length = 2) (hN : X.N.Nodup := by assumption) (hi : X.N[i]? = some x := by rfl) (hj : X.N[j]? = some y := by rfl) (hij : i ≠ j := by decide)
    (hx : X.env.scope.names.lookup x = some .local := by rfl) (hy : X.env.scope.names.lookup y = some .local := by rfl) (hw : swappedStores [.Tuple [.Name x px, .Name y py] kt pt] (.Tuple [a, b] k2 pt2) X.env = pure (some [x, y]) := by rfl)
    (hs : swapsWithSole [.Tuple [.Name x px, .Name y py] kt pt] (.Tuple [a, b] k2 pt2) pos.line X.env = pure false := by rfl) : SDs X (.Assign [.Tuple [.Name x px, .Name y py] kt pt] (.Tuple [a, b] k2 pt2) pos :: rest) env Φ :=
  PSs.imp (pss_cons (ps_par hc hN hi hj hij hx hy h hw hs) (PSs.ex fun q : {q : Sl × Sl // Ψ [q.1, q.2]} => hr q.1.1 q.1.2 q.2)) fun E σ H ⟨B, G, T, F, S, n⟩ => ⟨B, G, T, F, S, fun vs ss F1 H1 hl' S1 g1 fr hψ => by
    have h3 := hΨ ss hψ
    match ss, h3, vs, hl' with
    | [s1, s2], _, [v1, v2], _ =>
      refine ⟨v1, v2, rfl, ⟨⟨(s1, s2), hψ⟩, B, G, T, F1, ?_, n⟩⟩
      have q1 := S1.move (i := i) (k := 0) S.len rfl rfl
      have q2 := q1.move (i := j) (k := 1) (by simpa using S.len) rfl rfl
      exact q2.drop (by simpa using S.len)⟩
end
end DL

namespace DL
open PySem PySem.Spec PyProof.Rows L2 RZ
/-! ### spans -/
def spanD (o : Option (Int × Int)) : D := match o with
  | none => .none
  | some p => .tuple [.int p.1, .int p.2]
def spanDD (o : Option (Int × Int)) : D := match o with
  | none => .none
  | some p => .tuple [dayD (Cal.dayOf p.1), dayD (Cal.dayOf p.2)]
theorem ed_optB {X : Cx} {a b c : Expr} {env : List Sl} {pos : Pos} {o : Option Int} {f : Int → Option Int} (hc : TD X c env (isNone (oD o))) (ha : ED X a env .none) (hb : ∀ z, o = some z → ED X b env (oD (f z))) : ED X (.IfExp c a b pos) env (oD (o.bind f)) := by
  cases o with
  | none => exact ED.is (ed_if (k := true) hc (fun _ => ha) (y := .none) (fun z => nomatch z)) rfl
  | some v => exact ED.is (ed_if (k := false) hc (x := .none) (fun z => nomatch z) (fun _ => hb v rfl)) rfl
end DL

namespace DL
open PySem PySem.Spec PyProof.Rows L2 RZ
/-! ### max and min of two things on the heap -/
section
variable {prog : Program} {w : World} {A : Around} {E : Value → Shared → Prop} {s : Shared}
/-- the objects of one heap are in another -/
def HIn (h h' : Heap) : Prop := ∀ c o, h.get? c = some o → h'.get? c = some o
section
variable {R : PySem.Result → Shared → Prop} {base : Heap} {I S : Addr} {fp wr : List Addr} {n : Nat} {P : Nat → Value → Prop} {St : Nat → Heap → Prop}
/-- the last turn: the best so far is the answer -/
theorem mx_end (W : Walks prog w A.in1 I fp wr n P St) {vb : Value} {c : Nat} (hSf : S ∉ fp) (hb : HIn base s.heap) (hbw : ∀ q o, base.get? q = some o → q ∉ wr ∧ q ≠ S) (hst : St n s.heap)
    (hS : s.heap.get? S = some { cls := .type "list", dict := none, data := .seq #[vb, vb] c, slots := #[] }) (hR : ∀ h' tk, HIn base h' → R (.ok (.ret vb)) { s with heap := h', toks := tk }) : codeAny (model prog w) A (.builtin "max.loop" ⟨[.ref I, .none, .ref S], []⟩) R s := by
  refine codeAny_builtin F.entry_max_loop ?_; rw [Around.under_plainId F.plain_max_loop _]
  show wpAny _ A.in1 (seqItems? (.ref S) >>= _) _ _ _; refine wpAny_bind (wpAny_seqItems hS rfl ?_)
  show wpAny _ A.in1 (tryCatch (pyNext (.ref I)) _ >>= _) _ _ _; refine wpAny_bind (wpAny_tryCatch (W.done s _ _ hst fun h' tk kk => ?_))
  have hS' := kk S _ (fun z => hSf (W.sub _ z)) hS
  show wpAny _ A.in1 (updateSeq S (fun _ => #[]) >>= _) _ _ _; refine wpAny_bind ?_
  refine wpAny_updateSeq hS' rfl (wpAny_bind (wpAny_letGo (wpAny_pure ?_)))
  exact hR _ tk fun q o e => (Heap.get?_update_other _ _ (Ne.symm (hbw q o e).2)).trans (kk q o (hbw q o e).1 (hb q o e))
/-- the turn at the second item -/
theorem mx_two (W : Walks prog w A.in1 I fp wr 2 P St) {va : Value} {t : Bool} {c : Nat} {vb : Value} (hP : ∀ v, P 1 v → v = vb) (hSf : S ∉ fp) (hb : HIn base s.heap) (hbw : ∀ q o, base.get? q = some o → q ∉ wr ∧ q ≠ S) (hst : St 1 s.heap)
    (hcmp : ∀ (s' : Shared) (Q' : Value → Shared → Prop) (E' : Value → Shared → Prop), HIn base s'.heap → Q' (.bool t) s' → wpAny (model prog w) A.in1 (richCompare .Gt vb va) Q' E' s')
    (hS : s.heap.get? S = some { cls := .type "list", dict := none, data := .seq #[va, va] c, slots := #[] }) (hR : ∀ h' tk, HIn base h' → R (.ok (.ret (if t then vb else va))) { s with heap := h', toks := tk }) : codeAny (model prog w) A (.builtin "max.loop" ⟨[.ref I, .none, .ref S], []⟩) R s := by
  have nm : (toString "max" ++ toString ".loop" : String) = "max.loop" := by decide
  refine codeAny_builtin F.entry_max_loop ?_; rw [Around.under_plainId F.plain_max_loop _]
  show wpAny _ A.in1 (seqItems? (.ref S) >>= _) _ _ _; refine wpAny_bind (wpAny_seqItems hS rfl ?_)
  show wpAny _ A.in1 (tryCatch (pyNext (.ref I)) _ >>= _) _ _ _; refine wpAny_bind (wpAny_tryCatch (W.item 1 s _ _ (by decide) hst fun v h' tk hv st2 kk => ?_))
  obtain rfl := hP v hv
  have hS' := kk S _ (fun z => hSf (W.sub _ z)) hS
  have hb' : HIn base h' := fun q o e => kk q o (hbw q o e).1 (hb q o e)
  show wpAny _ A.in1 (tryCatch (holding [v, v] (richCompare .Gt v va >>= _)) _ >>= _) _ _ _; refine wpAny_bind (wpAny_tryCatch (wpAny_holding (wpAny_bind (hcmp _ _ _ hb' ?_))))
  refine wpAny_bind (wpAny_holding (wpAny_truthy_bool ?_)); refine wpAny_bind (wpAny_letGo (wpAny_pure ?_))
  cases t with
  | true =>
    simp only [if_true]; refine wpAny_bind ?_
    refine wpAny_updateSeq hS' rfl (wpAny_bind (wpAny_letGo ?_)); rw [nm]
    refine wpAny_pure ⟨plainId_quiet F.plain_max_loop _, mx_end W (base := base) hSf (fun q o e => (Heap.get?_update_other _ _ (Ne.symm (hbw q o e).2)).trans (hb' q o e)) hbw (W.frame _ _ _ st2 fun q hq o e => (Heap.get?_update_other _ _ (fun z : S = q => hSf (by rw [z]; exact hq))).trans e) (Heap.get?_update_self _ hS' rfl) fun h2 tk2 k2 => ?_⟩
    exact hR h2 tk2 k2
  | false =>
    simp only [Bool.false_eq_true, if_false]; refine wpAny_bind (wpAny_letGo ?_); rw [nm]
    refine wpAny_pure ⟨plainId_quiet F.plain_max_loop _, mx_end W (base := base) hSf hb' hbw st2 hS' fun h2 tk2 k2 => ?_⟩
    exact hR h2 tk2 k2
/-- the first turn -/
theorem mx_one (W : Walks prog w A.in1 I fp wr 2 P St) {va : Value} {t : Bool} {c : Nat} {vb : Value} (hP0 : ∀ v, P 0 v → v = va) (hP : ∀ v, P 1 v → v = vb) (hSf : S ∉ fp) (hb : HIn base s.heap) (hbw : ∀ q o, base.get? q = some o → q ∉ wr ∧ q ≠ S) (hst : St 0 s.heap)
    (hcmp : ∀ (s' : Shared) (Q' : Value → Shared → Prop) (E' : Value → Shared → Prop), HIn base s'.heap → Q' (.bool t) s' → wpAny (model prog w) A.in1 (richCompare .Gt vb va) Q' E' s')
    (hS : s.heap.get? S = some { cls := .type "list", dict := none, data := .seq #[] c, slots := #[] }) (hR : ∀ h' tk, HIn base h' → R (.ok (.ret (if t then vb else va))) { s with heap := h', toks := tk }) : codeAny (model prog w) A (.builtin "max.loop" ⟨[.ref I, .none, .ref S], []⟩) R s := by
  have nm : (toString "max" ++ toString ".loop" : String) = "max.loop" := by decide
  refine codeAny_builtin F.entry_max_loop ?_; rw [Around.under_plainId F.plain_max_loop _]
  show wpAny _ A.in1 (seqItems? (.ref S) >>= _) _ _ _; refine wpAny_bind (wpAny_seqItems hS rfl ?_)
  show wpAny _ A.in1 (tryCatch (pyNext (.ref I)) _ >>= _) _ _ _; refine wpAny_bind (wpAny_tryCatch (W.item 0 s _ _ (by decide) hst fun v h' tk hv st2 kk => ?_))
  obtain rfl := hP0 v hv
  have hS' := kk S _ (fun z => hSf (W.sub _ z)) hS
  have hb' : HIn base h' := fun q o e => kk q o (hbw q o e).1 (hb q o e)
  show wpAny _ A.in1 (updateSeq S (fun _ => #[v, v]) >>= _) _ _ _; refine wpAny_bind ?_
  refine wpAny_updateSeq hS' rfl ?_; rw [nm]
  refine wpAny_pure ⟨plainId_quiet F.plain_max_loop _, mx_two W (base := base) hP hSf (fun q o e => (Heap.get?_update_other _ _ (Ne.symm (hbw q o e).2)).trans (hb' q o e)) hbw (W.frame _ _ _ st2 fun q hq o e => (Heap.get?_update_other _ _ (fun z : S = q => hSf (by rw [z]; exact hq))).trans e) hcmp (Heap.get?_update_self _ hS' rfl) fun h2 tk2 k2 => ?_⟩
  exact hR h2 tk2 k2
end
theorem max2_at {a b : Value} {t : Bool} {Q : Value → Shared → Prop} (hh : A.handled = none)
    (hcmp : ∀ (s' : Shared) (Q' : Value → Shared → Prop) (E' : Value → Shared → Prop), HIn s.heap s'.heap → Q' (.bool t) s' → wpAny (model prog w) A.in1 (richCompare .Gt b a) Q' E' s')
    (h : ∀ h' tk, HIn s.heap h' → Q (if t then b else a) { s with heap := h', toks := tk }) : wpAny (model prog w) A (call (.builtin "max") [a, b]) Q E s := by
  have nm : (toString "max" ++ toString ".loop" : String) = "max.loop" := by decide
  refine call_function_tree F.kind_max F.plain_max F.entry_max (F.args_max2 _ _) ?_
  refine wpAny_bind (wpAny_of_eq (show Builtin.Builtins.bindParams "max" ["key", "default"] 0 ⟨[], []⟩ = pure [none, none] from rfl) ?_)
  refine wpAny_bind (wpAny_newObj_type ?_)
  have hT : (s.heap.push { cls := .type "tuple", data := .seq #[a, b] }).IsTuple s.heap.objs.size #[a, b] := ⟨_, Heap.get?_push_size _ rfl, rfl, 0, rfl⟩
  refine wpAny_bind (wpAny_pyIter_tuple hT ?_)
  refine wpAny_bind (wpAny_newObj_type ?_)
  generalize hH1 : s.heap.push { cls := .type "tuple", data := .seq #[a, b] } = H1 at *
  have k1 : HIn s.heap H1 := fun c o e => by rw [← hH1]; exact Heap.get?_push_of_some _ e
  have z1 : H1.objs.size = s.heap.objs.size + 1 := by rw [← hH1]; exact Heap.size_push ..
  have W := Walks.tuple (prog := prog) (w := w) (A := A.in1) hh H1.objs.size s.heap.objs.size (by rw [z1]; exact Nat.ne_of_lt (Nat.lt_succ_self _)) #[a, b]
  generalize hH2 : H1.push { cls := .type "tuple_iterator", data := .fields #[.ref s.heap.objs.size, .int 0 0] } = H2
  have k2 : HIn H1 H2 := fun c o e => by rw [← hH2]; exact Heap.get?_push_of_some _ e
  have z2 : H2.objs.size = H1.objs.size + 1 := by rw [← hH2]; exact Heap.size_push ..
  have lt : ∀ {q o}, s.heap.get? q = some o → q < s.heap.objs.size := fun e => Heap.lt_size e
  rw [nm]
  refine wpAny_pure ⟨plainId_quiet F.plain_max_loop _, mx_one W (base := s.heap) (va := a) (vb := b) (t := t) (fun v hv => by simpa using hv.symm) (fun v hv => by simpa using hv.symm) ?_ ?_ ?_ ?_ hcmp (Heap.get?_push_size _ rfl) fun h' tk kk => ?_⟩
  · show H2.objs.size ∉ _
    simp [z2, z1]
    omega
  · exact fun q o e => Heap.get?_push_of_some _ (k2 q o (k1 q o e))
  · intro q o e
    have := lt e
    refine ⟨fun z => ?_, fun z => ?_⟩
    · have z : q = H1.objs.size := by simpa using z
      rw [z, z1] at this
      exact Nat.not_lt_of_le (Nat.le_succ _) this
    · have z : q = H2.objs.size := z
      rw [z, z2, z1] at this
      exact Nat.not_lt_of_le (Nat.le_trans (Nat.le_succ _) (Nat.le_succ _)) this
  · refine ⟨?_, ?_⟩
    · exact ⟨_, Heap.get?_push_of_some _ (by rw [← hH2]; exact Heap.get?_push_size _ rfl), rfl, rfl⟩
    · obtain ⟨ob, h1, h2⟩ := hT
      exact ⟨ob, Heap.get?_push_of_some _ (k2 _ _ h1), h2⟩
  · exact h h' tk kk
section
variable {R : PySem.Result → Shared → Prop} {base : Heap} {I S : Addr} {fp wr : List Addr} {n : Nat} {P : Nat → Value → Prop} {St : Nat → Heap → Prop}
/-- the last turn: the best so far is the answer -/
theorem mn_end (W : Walks prog w A.in1 I fp wr n P St) {vb : Value} {c : Nat} (hSf : S ∉ fp) (hb : HIn base s.heap) (hbw : ∀ q o, base.get? q = some o → q ∉ wr ∧ q ≠ S) (hst : St n s.heap)
    (hS : s.heap.get? S = some { cls := .type "list", dict := none, data := .seq #[vb, vb] c, slots := #[] }) (hR : ∀ h' tk, HIn base h' → R (.ok (.ret vb)) { s with heap := h', toks := tk }) : codeAny (model prog w) A (.builtin "min.loop" ⟨[.ref I, .none, .ref S], []⟩) R s := by
  refine codeAny_builtin F.entry_min_loop ?_; rw [Around.under_plainId F.plain_min_loop _]
  show wpAny _ A.in1 (seqItems? (.ref S) >>= _) _ _ _; refine wpAny_bind (wpAny_seqItems hS rfl ?_)
  show wpAny _ A.in1 (tryCatch (pyNext (.ref I)) _ >>= _) _ _ _; refine wpAny_bind (wpAny_tryCatch (W.done s _ _ hst fun h' tk kk => ?_))
  have hS' := kk S _ (fun z => hSf (W.sub _ z)) hS
  show wpAny _ A.in1 (updateSeq S (fun _ => #[]) >>= _) _ _ _; refine wpAny_bind ?_
  refine wpAny_updateSeq hS' rfl (wpAny_bind (wpAny_letGo (wpAny_pure ?_)))
  exact hR _ tk fun q o e => (Heap.get?_update_other _ _ (Ne.symm (hbw q o e).2)).trans (kk q o (hbw q o e).1 (hb q o e))
/-- the turn at the second item -/
theorem mn_two (W : Walks prog w A.in1 I fp wr 2 P St) {va : Value} {t : Bool} {c : Nat} {vb : Value} (hP : ∀ v, P 1 v → v = vb) (hSf : S ∉ fp) (hb : HIn base s.heap) (hbw : ∀ q o, base.get? q = some o → q ∉ wr ∧ q ≠ S) (hst : St 1 s.heap)
    (hcmp : ∀ (s' : Shared) (Q' : Value → Shared → Prop) (E' : Value → Shared → Prop), HIn base s'.heap → Q' (.bool t) s' → wpAny (model prog w) A.in1 (richCompare .Lt vb va) Q' E' s')
    (hS : s.heap.get? S = some { cls := .type "list", dict := none, data := .seq #[va, va] c, slots := #[] }) (hR : ∀ h' tk, HIn base h' → R (.ok (.ret (if t then vb else va))) { s with heap := h', toks := tk }) : codeAny (model prog w) A (.builtin "min.loop" ⟨[.ref I, .none, .ref S], []⟩) R s := by
  have nm : (toString "min" ++ toString ".loop" : String) = "min.loop" := by decide
  refine codeAny_builtin F.entry_min_loop ?_; rw [Around.under_plainId F.plain_min_loop _]
  show wpAny _ A.in1 (seqItems? (.ref S) >>= _) _ _ _; refine wpAny_bind (wpAny_seqItems hS rfl ?_)
  show wpAny _ A.in1 (tryCatch (pyNext (.ref I)) _ >>= _) _ _ _; refine wpAny_bind (wpAny_tryCatch (W.item 1 s _ _ (by decide) hst fun v h' tk hv st2 kk => ?_))
  obtain rfl := hP v hv
  have hS' := kk S _ (fun z => hSf (W.sub _ z)) hS
  have hb' : HIn base h' := fun q o e => kk q o (hbw q o e).1 (hb q o e)
  show wpAny _ A.in1 (tryCatch (holding [v, v] (richCompare .Lt v va >>= _)) _ >>= _) _ _ _; refine wpAny_bind (wpAny_tryCatch (wpAny_holding (wpAny_bind (hcmp _ _ _ hb' ?_))))
  refine wpAny_bind (wpAny_holding (wpAny_truthy_bool ?_)); refine wpAny_bind (wpAny_letGo (wpAny_pure ?_))
  cases t with
  | true =>
    simp only [if_true]; refine wpAny_bind ?_
    refine wpAny_updateSeq hS' rfl (wpAny_bind (wpAny_letGo ?_)); rw [nm]
    refine wpAny_pure ⟨plainId_quiet F.plain_min_loop _, mn_end W (base := base) hSf (fun q o e => (Heap.get?_update_other _ _ (Ne.symm (hbw q o e).2)).trans (hb' q o e)) hbw (W.frame _ _ _ st2 fun q hq o e => (Heap.get?_update_other _ _ (fun z : S = q => hSf (by rw [z]; exact hq))).trans e) (Heap.get?_update_self _ hS' rfl) fun h2 tk2 k2 => ?_⟩
    exact hR h2 tk2 k2
  | false =>
    simp only [Bool.false_eq_true, if_false]; refine wpAny_bind (wpAny_letGo ?_); rw [nm]
    refine wpAny_pure ⟨plainId_quiet F.plain_min_loop _, mn_end W (base := base) hSf hb' hbw st2 hS' fun h2 tk2 k2 => ?_⟩
    exact hR h2 tk2 k2
/-- the first turn -/
theorem mn_one (W : Walks prog w A.in1 I fp wr 2 P St) {va : Value} {t : Bool} {c : Nat} {vb : Value} (hP0 : ∀ v, P 0 v → v = va) (hP : ∀ v, P 1 v → v = vb) (hSf : S ∉ fp) (hb : HIn base s.heap) (hbw : ∀ q o, base.get? q = some o → q ∉ wr ∧ q ≠ S) (hst : St 0 s.heap)
    (hcmp : ∀ (s' : Shared) (Q' : Value → Shared → Prop) (E' : Value → Shared → Prop), HIn base s'.heap → Q' (.bool t) s' → wpAny (model prog w) A.in1 (richCompare .Lt vb va) Q' E' s')
    (hS : s.heap.get? S = some { cls := .type "list", dict := none, data := .seq #[] c, slots := #[] }) (hR : ∀ h' tk, HIn base h' → R (.ok (.ret (if t then vb else va))) { s with heap := h', toks := tk }) : codeAny (model prog w) A (.builtin "min.loop" ⟨[.ref I, .none, .ref S], []⟩) R s := by
  have nm : (toString "min" ++ toString ".loop" : String) = "min.loop" := by decide
  refine codeAny_builtin F.entry_min_loop ?_; rw [Around.under_plainId F.plain_min_loop _]
  show wpAny _ A.in1 (seqItems? (.ref S) >>= _) _ _ _; refine wpAny_bind (wpAny_seqItems hS rfl ?_)
  show wpAny _ A.in1 (tryCatch (pyNext (.ref I)) _ >>= _) _ _ _; refine wpAny_bind (wpAny_tryCatch (W.item 0 s _ _ (by decide) hst fun v h' tk hv st2 kk => ?_))
  obtain rfl := hP0 v hv
  have hS' := kk S _ (fun z => hSf (W.sub _ z)) hS
  have hb' : HIn base h' := fun q o e => kk q o (hbw q o e).1 (hb q o e)
  show wpAny _ A.in1 (updateSeq S (fun _ => #[v, v]) >>= _) _ _ _; refine wpAny_bind ?_
  refine wpAny_updateSeq hS' rfl ?_; rw [nm]
  refine wpAny_pure ⟨plainId_quiet F.plain_min_loop _, mn_two W (base := base) hP hSf (fun q o e => (Heap.get?_update_other _ _ (Ne.symm (hbw q o e).2)).trans (hb' q o e)) hbw (W.frame _ _ _ st2 fun q hq o e => (Heap.get?_update_other _ _ (fun z : S = q => hSf (by rw [z]; exact hq))).trans e) hcmp (Heap.get?_update_self _ hS' rfl) fun h2 tk2 k2 => ?_⟩
  exact hR h2 tk2 k2
end
theorem min2_at {a b : Value} {t : Bool} {Q : Value → Shared → Prop} (hh : A.handled = none)
    (hcmp : ∀ (s' : Shared) (Q' : Value → Shared → Prop) (E' : Value → Shared → Prop), HIn s.heap s'.heap → Q' (.bool t) s' → wpAny (model prog w) A.in1 (richCompare .Lt b a) Q' E' s')
    (h : ∀ h' tk, HIn s.heap h' → Q (if t then b else a) { s with heap := h', toks := tk }) : wpAny (model prog w) A (call (.builtin "min") [a, b]) Q E s := by
  have nm : (toString "min" ++ toString ".loop" : String) = "min.loop" := by decide
  refine call_function_tree F.kind_min F.plain_min F.entry_min (F.args_min2 _ _) ?_
  refine wpAny_bind (wpAny_of_eq (show Builtin.Builtins.bindParams "min" ["key", "default"] 0 ⟨[], []⟩ = pure [none, none] from rfl) ?_)
  refine wpAny_bind (wpAny_newObj_type ?_)
  have hT : (s.heap.push { cls := .type "tuple", data := .seq #[a, b] }).IsTuple s.heap.objs.size #[a, b] := ⟨_, Heap.get?_push_size _ rfl, rfl, 0, rfl⟩
  refine wpAny_bind (wpAny_pyIter_tuple hT ?_)
  refine wpAny_bind (wpAny_newObj_type ?_)
  generalize hH1 : s.heap.push { cls := .type "tuple", data := .seq #[a, b] } = H1 at *
  have k1 : HIn s.heap H1 := fun c o e => by rw [← hH1]; exact Heap.get?_push_of_some _ e
  have z1 : H1.objs.size = s.heap.objs.size + 1 := by rw [← hH1]; exact Heap.size_push ..
  have W := Walks.tuple (prog := prog) (w := w) (A := A.in1) hh H1.objs.size s.heap.objs.size (by rw [z1]; exact Nat.ne_of_lt (Nat.lt_succ_self _)) #[a, b]
  generalize hH2 : H1.push { cls := .type "tuple_iterator", data := .fields #[.ref s.heap.objs.size, .int 0 0] } = H2
  have k2 : HIn H1 H2 := fun c o e => by rw [← hH2]; exact Heap.get?_push_of_some _ e
  have z2 : H2.objs.size = H1.objs.size + 1 := by rw [← hH2]; exact Heap.size_push ..
  have lt : ∀ {q o}, s.heap.get? q = some o → q < s.heap.objs.size := fun e => Heap.lt_size e
  rw [nm]
  refine wpAny_pure ⟨plainId_quiet F.plain_min_loop _, mn_one W (base := s.heap) (va := a) (vb := b) (t := t) (fun v hv => by simpa using hv.symm) (fun v hv => by simpa using hv.symm) ?_ ?_ ?_ ?_ hcmp (Heap.get?_push_size _ rfl) fun h' tk kk => ?_⟩
  · show H2.objs.size ∉ _
    simp [z2, z1]
    omega
  · exact fun q o e => Heap.get?_push_of_some _ (k2 q o (k1 q o e))
  · intro q o e
    have := lt e
    refine ⟨fun z => ?_, fun z => ?_⟩
    · have z : q = H1.objs.size := by simpa using z
      rw [z, z1] at this
      exact Nat.not_lt_of_le (Nat.le_succ _) this
    · have z : q = H2.objs.size := z
      rw [z, z2, z1] at this
      exact Nat.not_lt_of_le (Nat.le_trans (Nat.le_succ _) (Nat.le_succ _)) this
  · refine ⟨?_, ?_⟩
    · exact ⟨_, Heap.get?_push_of_some _ (by rw [← hH2]; exact Heap.get?_push_size _ rfl), rfl, rfl⟩
    · obtain ⟨ob, h1, h2⟩ := hT
      exact ⟨ob, Heap.get?_push_of_some _ (k2 _ _ h1), h2⟩
  · exact h h' tk kk
end
/-! ### .. over data -/
section
variable {X : Cx}
theorem lex_rc {op : CmpOp} {ro : Int → Int → Bool} {zo : Nat → Nat → Bool} (hT : TupOp op zo) (hI : IntOp op ro) {A : Around} (hu : A.units < cLine) {s : Shared} {a b : Addr} {us ws : List Value} {ns ms : List Int} (iu : IntsAre us ns) (iw : IntsAre ws ms) (pu : s.heap.IsTuple a us.toArray) (pw : s.heap.IsTuple b ws.toArray) : Ob.RcOp op A s (.ref a) (.ref b) (lexO ro zo ns ms) := by
  have su : us.toArray.size = ns.length := List.size_toArray.trans iu.length
  have sw : ws.toArray.size = ms.length := List.size_toArray.trans iw.length
  have done := hT A s a b us.toArray ws.toArray (fun j => decide (ns.getD j 0 = ms.getD j 0)) (fun j => ro (ns.getD j 0) (ms.getD j 0)) pu pw hu
    (fun j h1 h2 => by
      obtain ⟨t, ht⟩ := PyProof.Rows.IntsAre.int_at iu j (us.toArray[j]) (by simp at h1; simp [h1])
      obtain ⟨t', ht'⟩ := PyProof.Rows.IntsAre.int_at iw j (ws.toArray[j]) (by simp at h2; simp [h2])
      have : SeqAt.EqAt A.in1 s (.int (ns.getD j 0) t) (.int (ms.getD j 0) t') (ns.getD j 0 == ms.getD j 0) := SeqAt.EqAt.int_int _ _ _ _
      rw [ht, ht']
      rwa [ibeq] at this)
    (fun j h1 h2 _ => by
      obtain ⟨t, ht⟩ := PyProof.Rows.IntsAre.int_at iu j (us.toArray[j]) (by simp at h1; simp [h1])
      obtain ⟨t', ht'⟩ := PyProof.Rows.IntsAre.int_at iw j (ws.toArray[j]) (by simp at h2; simp [h2])
      rw [ht, ht']
      exact hI _ _ _ _ _ _)
  rw [su, sw] at done
  exact done
def rPick2 (K : Fg) (lx : List Int → List Int → Bool) : List V → Hp → VK → Prop := fun vs H Q => ∃ (a b : Addr) (ns ms : List Int), vs = [.ref a, .ref b] ∧ SqT K H a (ns.map V.int) ∧ SqT K H b (ms.map V.int) ∧ Q (if lx ms ns then .ref b else .ref a) H
theorem cr_max2T (hc : X.calm = true) (hu : X.A.in1.units < cLine) : CallR X (.builtin "max") (rPick2 X.K (lexO (fun a b => decide (b < a)) (fun a b => decide (a > b)))) := by
  rintro pins s σ H xs us Q I r ⟨a, b, ns, ms, rfl, ta, tb, q⟩
  obtain ⟨v1, v2, rfl, r1, r2⟩ := vals2 r
  obtain rfl : v1 = .ref a := r1
  obtain rfl : v2 = .ref b := r2
  obtain ⟨us, ru, pu, _⟩ := I.tuple ta
  obtain ⟨ws, rw', pw, _⟩ := I.tuple tb
  refine max2_at (t := lexO (fun a b => decide (b < a)) (fun a b => decide (a > b)) ms ns) (I.ok.hd hc) (fun s' Q' E' hk hq => ?_) fun h' tk hk => ?_
  · have pu' : s'.heap.IsTuple a us.toArray := by obtain ⟨ob, h1, h2⟩ := pu; exact ⟨ob, hk _ _ h1, h2⟩
    have pw' : s'.heap.IsTuple b ws.toArray := by obtain ⟨ob, h1, h2⟩ := pw; exact ⟨ob, hk _ _ h1, h2⟩
    exact lex_rc op_gt3 (fun _ _ a b t u => Ob.RcOp.gt_int a b t u) hu (Vals.ints rw') (Vals.ints ru) pw' pu' X.prog X.w E' Q' hq
  · refine ⟨if lexO (fun a b => decide (b < a)) (fun a b => decide (a > b)) ms ns then .ref b else .ref a, H, I.kept hk, ?_, q⟩
    split <;> rfl
theorem cr_min2T (hc : X.calm = true) (hu : X.A.in1.units < cLine) : CallR X (.builtin "min") (rPick2 X.K (lexO (fun a b => decide (a < b)) (fun a b => decide (a < b)))) := by
  rintro pins s σ H xs us Q I r ⟨a, b, ns, ms, rfl, ta, tb, q⟩
  obtain ⟨v1, v2, rfl, r1, r2⟩ := vals2 r
  obtain rfl : v1 = .ref a := r1
  obtain rfl : v2 = .ref b := r2
  obtain ⟨us, ru, pu, _⟩ := I.tuple ta
  obtain ⟨ws, rw', pw, _⟩ := I.tuple tb
  refine min2_at (t := lexO (fun a b => decide (a < b)) (fun a b => decide (a < b)) ms ns) (I.ok.hd hc) (fun s' Q' E' hk hq => ?_) fun h' tk hk => ?_
  · have pu' : s'.heap.IsTuple a us.toArray := by obtain ⟨ob, h1, h2⟩ := pu; exact ⟨ob, hk _ _ h1, h2⟩
    have pw' : s'.heap.IsTuple b ws.toArray := by obtain ⟨ob, h1, h2⟩ := pw; exact ⟨ob, hk _ _ h1, h2⟩
    exact lex_rc op_lt3 (fun _ _ a b t u => Ob.RcOp.lt_int a b t u) hu (Vals.ints rw') (Vals.ints ru) pw' pu' X.prog X.w E' Q' hq
  · refine ⟨if lexO (fun a b => decide (a < b)) (fun a b => decide (a < b)) ms ns then .ref b else .ref a, H, I.kept hk, ?_, q⟩
    split <;> rfl
/-- the later and the earlier of two days -/
theorem c_maxDay (hc : X.calm = true) (hu : X.A.in1.units < cLine) {y m d y' m' d' : Int} (v : VDay y m d) (v' : VDay y' m' d') : CaD X (.builtin "max") [dayD (y, m, d), dayD (y', m', d')] (fun z => z = dayD (if Cal.num y m d < Cal.num y' m' d' then (y', m', d') else (y, m, d))) := ⟨_, cr_max2T hc hu, fun B G T F env σ H vs Q S hv q => by
  cases hv with | cons h1 t =>
  cases t with | cons h2 t =>
  cases t
  obtain ⟨a, ea, ha⟩ := DL.Dn.tupI (ns := [y, m, d]) h1 S.fh
  obtain ⟨b, eb, hb⟩ := DL.Dn.tupI (ns := [y', m', d']) h2 S.fh
  subst ea eb
  refine ⟨a, b, _, _, rfl, ha, hb, ?_⟩
  have k := num_le v' v
  have hm := Cal.mlen_hi y m
  have hm' := Cal.mlen_hi y' m'
  have e : lexO (fun a b => decide (b < a)) (fun a b => decide (a > b)) [y', m', d'] [y, m, d] = decide (Cal.num y m d < Cal.num y' m' d') := by
    rw [lex3]
    apply Bool.eq_iff_iff.2
    rw [decide_eq_true_iff]
    obtain ⟨v1, v2, v3, v4⟩ := v
    obtain ⟨w1, w2, w3, w4⟩ := v'
    repeat' split
    all_goals simp only [decide_eq_true_iff]
    all_goals omega
  rw [e]
  by_cases c : Cal.num y m d < Cal.num y' m' d'
  · simp only [c, decide_true, if_true]; exact q _ _ F H S (Gr.refl S.fh) h2 (by simp [c])
  · simp only [c, decide_false, Bool.false_eq_true, if_false]; exact q _ _ F H S (Gr.refl S.fh) h1 (by simp [c])⟩
theorem c_minDay (hc : X.calm = true) (hu : X.A.in1.units < cLine) {y m d y' m' d' : Int} (v : VDay y m d) (v' : VDay y' m' d') : CaD X (.builtin "min") [dayD (y, m, d), dayD (y', m', d')] (fun z => z = dayD (if Cal.num y' m' d' < Cal.num y m d then (y', m', d') else (y, m, d))) := ⟨_, cr_min2T hc hu, fun B G T F env σ H vs Q S hv q => by
  cases hv with | cons h1 t =>
  cases t with | cons h2 t =>
  cases t
  obtain ⟨a, ea, ha⟩ := DL.Dn.tupI (ns := [y, m, d]) h1 S.fh
  obtain ⟨b, eb, hb⟩ := DL.Dn.tupI (ns := [y', m', d']) h2 S.fh
  subst ea eb
  refine ⟨a, b, _, _, rfl, ha, hb, ?_⟩
  have k := num_le v v'
  have hm := Cal.mlen_hi y m
  have hm' := Cal.mlen_hi y' m'
  have e : lexO (fun a b => decide (a < b)) (fun a b => decide (a < b)) [y', m', d'] [y, m, d] = decide (Cal.num y' m' d' < Cal.num y m d) := by
    rw [lex3]
    apply Bool.eq_iff_iff.2
    rw [decide_eq_true_iff]
    obtain ⟨v1, v2, v3, v4⟩ := v
    obtain ⟨w1, w2, w3, w4⟩ := v'
    repeat' split
    all_goals simp only [decide_eq_true_iff]
    all_goals omega
  rw [e]
  by_cases c : Cal.num y' m' d' < Cal.num y m d
  · simp only [c, decide_true, if_true]; exact q _ _ F H S (Gr.refl S.fh) h2 (by simp [c])
  · simp only [c, decide_false, Bool.false_eq_true, if_false]; exact q _ _ F H S (Gr.refl S.fh) h1 (by simp [c])⟩
end
end DL

namespace DL
open PySem PySem.Spec PyProof.Rows L2 RZ
/-! ### sorted by a key that is a pair of an int and a text -/
abbrev IK := Int × Str
def ltK (p q : IK) : Bool := if p.1 = q.1 then decide (p.2.cps.toList < q.2.cps.toList) else decide (p.1 < q.1)
theorem ltK_iff {p q : IK} : ltK p q = true ↔ p.1 < q.1 ∨ (p.1 = q.1 ∧ p.2.cps.toList < q.2.cps.toList) := by
  unfold ltK
  by_cases h : p.1 = q.1
  · rw [if_pos h]; simp [h]
  · rw [if_neg h]; simp [h]
theorem ltK_no {p q : IK} : ltK p q = false ↔ ¬ (p.1 < q.1 ∨ (p.1 = q.1 ∧ p.2.cps.toList < q.2.cps.toList)) := by
  rw [← ltK_iff]; simp
theorem ltK_asym {p q : IK} (h : ltK p q = true) : ltK q p = false := by
  rw [ltK_iff] at h
  rw [ltK_no]
  rintro (a | ⟨a, b⟩)
  · rcases h with c | ⟨c, d⟩ <;> omega
  · rcases h with c | ⟨c, d⟩
    · omega
    · exact List.lt_asymm b d
theorem ltK_neg {p q r : IK} (h1 : ltK p q = false) (h2 : ltK q r = false) : ltK p r = false := by
  rw [ltK_no] at h1 h2 ⊢
  rintro (a | ⟨a, b⟩)
  · have c1 : ¬ p.1 < q.1 := fun z => h1 (.inl z)
    have c2 : ¬ q.1 < r.1 := fun z => h2 (.inl z)
    omega
  · have c1 : ¬ p.1 < q.1 := fun z => h1 (.inl z)
    have c2 : ¬ q.1 < r.1 := fun z => h2 (.inl z)
    have e1 : p.1 = q.1 := by omega
    have e2 : q.1 = r.1 := by omega
    have d1 : ¬ p.2.cps.toList < q.2.cps.toList := fun z => h1 (.inr ⟨e1, z⟩)
    have d2 : ¬ q.2.cps.toList < r.2.cps.toList := fun z => h2 (.inr ⟨e2, z⟩)
    have := List.lt_of_le_of_lt (List.not_lt.mp d1) b
    exact d2 this
theorem str_of_cps {x y : Str} (h : x.cps.toList = y.cps.toList) : x = y := by
  have : x.cps = y.cps := by
    have := congrArg List.toArray h
    simpa using this
  cases x; cases y; simp at this; subst this; rfl
theorem ltK_total {p q : IK} (h1 : ltK p q = false) (h2 : ltK q p = false) : p = q := by
  rw [ltK_no] at h1 h2
  have c1 : ¬ p.1 < q.1 := fun z => h1 (.inl z)
  have c2 : ¬ q.1 < p.1 := fun z => h2 (.inl z)
  have e : p.1 = q.1 := by omega
  have d1 : ¬ p.2.cps.toList < q.2.cps.toList := fun z => h1 (.inr ⟨e, z⟩)
  have d2 : ¬ q.2.cps.toList < p.2.cps.toList := fun z => h2 (.inr ⟨e.symm, z⟩)
  have := List.le_antisymm (List.not_lt.mp d2) (List.not_lt.mp d1)
  exact Prod.ext e (str_of_cps this)
theorem swo_K {α : Type} (k : α → IK) : SrtO.Swo fun v u : α => ltK (k v) (k u) := ⟨fun x y h => ltK_asym h, fun x y z h1 h2 => ltK_neg h2 h1⟩

/-- v is a tuple of an int and a text in the heap -/
def KPair (h : Heap) (v : Value) (p : IK) : Prop := ∃ a o t u n, v = .ref a ∧ h.get? a = some o ∧ o.cls = .type "tuple" ∧ o.data = .seq #[.int p.1 t, .str p.2 u] n
theorem KPair.det {h : Heap} {v : Value} {p q : IK} (a : KPair h v p) (b : KPair h v q) : p = q := by
  obtain ⟨a, o, t, u, n, e, ho, hc, hd⟩ := a
  obtain ⟨a', o', t', u', n', e', ho', hc', hd'⟩ := b
  rw [e] at e'; cases e'
  rw [ho] at ho'; cases ho'
  rw [hd] at hd'
  injection hd' with z1 z2
  simp at z1
  exact Prod.ext z1.1.1 z1.2.1
open Classical in
noncomputable def kOf (h : Heap) (v : Value) : IK := if e : ∃ p, KPair h v p then Classical.choose e else (0, Str.empty)
theorem kOf_eq {h : Heap} {v : Value} {p : IK} (a : KPair h v p) : kOf h v = p := by
  unfold kOf
  have e : ∃ p, KPair h v p := ⟨p, a⟩
  rw [dif_pos e]
  exact (Classical.choose_spec e).det a
section
variable {prog : Program} {w : World} {A : Around} {E : Value → Shared → Prop} {s : Shared}
theorem kpair_cmp {vs : List Value} {k : Value → IK} (hp : ∀ v ∈ vs, KPair s.heap v (k v)) : SrtO.Cmp prog w A s (tuples' true) (fun p => p.1 ∈ vs) (SrtO.lt2 fun v u => ltK (k v) (k u)) := by
  intro p q hm hm'
  have h1 := hp _ hm
  have h2 := hp _ hm'
  show wpAny (model prog w) A (keyLt' (tuples' true) p.1 q.1) (fun r s' => s' = s ∧ r = ltK (k p.1) (k q.1)) (fun _ _ => False) s
  generalize k p.1 = x at h1 ⊢
  generalize k q.1 = y at h2 ⊢
  obtain ⟨x1, x2⟩ := x
  obtain ⟨y1, y2⟩ := y
  obtain ⟨a, o, t, u, n, e, ho, hc, hd⟩ := h1
  obtain ⟨a', o', t', u', n', e', ho', hc', hd'⟩ := h2
  rw [e, e']
  refine PySem.W.kat_lt ho hd ho' hd' ?_
  show PySem.W.KatLex prog w A true (decide (2 < 2)) _ [(.int x1 t, .int y1 t'), (.str x2 u, .str y2 u')] 0 s
  refine PySem.W.kat_cons (SeqAt.EqAt.int_int x1 t y1 t' prog w _ _ ?_)
  refine PySem.W.kat_go (fun e1 => ?_) (fun e1 => ?_)
  · have ex : x1 = y1 := by simpa using e1
    refine PySem.W.kat_yes (PySem.W.kat_cons (SeqAt.EqAt.str_str x2 u y2 u' prog w _ _ ?_))
    refine PySem.W.kat_go (fun e2 => ?_) (fun e2 => ?_)
    · have ey : x2 = y2 := by simpa using e2
      refine PySem.W.kat_yes (PySem.W.kat_nil ⟨rfl, ?_⟩)
      subst ex; subst ey
      exact ((swo_K id).refl (x1, x2)).symm
    · have e3 : ltK (x1, x2) (y1, y2) = decide (x2.cps.toList < y2.cps.toList) := if_pos ex
      refine PySem.W.kat_no (PySem.W.kat_one _ _ (PyProof.Rows.lt_str ?_))
      exact (show s = s ∧ decide (x2.cps.toList < y2.cps.toList) = ltK (x1, x2) (y1, y2) from ⟨rfl, e3.symm⟩)
  · have ex : ¬ x1 = y1 := by simpa using e1
    have e3 : ltK (x1, x2) (y1, y2) = decide (x1 < y1) := if_neg ex
    exact PySem.W.kat_no (oneLt_int ⟨rfl, e3.symm⟩)
theorem kpair_firsts {h : Heap} : ∀ {vs : List Value}, (∀ v ∈ vs, ∃ p, KPair h v p) → ∃ fs : List Value, PySem.W.KatTups h vs fs ∧ fs.length = vs.length ∧ ∀ f ∈ fs, ∃ x t, f = Value.int x t
  | [], _ => ⟨[], PySem.W.KatTups.nil, rfl, fun _ hm => by simp at hm⟩
  | v :: vs, hp => by
    obtain ⟨fs, h1, h2, h3⟩ := kpair_firsts (vs := vs) fun v' hm => hp v' (List.mem_cons_of_mem _ hm)
    obtain ⟨p, a, o, t, u, n, e, ho, hc, hd⟩ := hp v (List.mem_cons_self ..)
    subst e
    refine ⟨.int p.1 t :: fs, PySem.W.KatTups.cons ho hc hd rfl h1, by rw [List.length_cons, List.length_cons, h2], fun f hm => ?_⟩
    rcases List.mem_cons.mp hm with rfl | hm
    · exact ⟨p.1, t, rfl⟩
    · exact h3 f hm
theorem kpair_kind {vs : List Value} {Q : SortKind → Shared → Prop} (h0 : 0 < vs.length) (hp : ∀ v ∈ vs, ∃ p, KPair s.heap v p) (h : Q (tuples' true) s) : wpAny (model prog w) A (keyKind' vs.toArray) Q E s := by
  obtain ⟨fs, h1, h2, h3⟩ := kpair_firsts hp
  refine PySem.W.kat_kind (T := .type "int") h1 (by omega) (fun f hm => ?_) (by rfl) ?_
  · obtain ⟨x, t, rfl⟩ := h3 f hm
    exact PySem.W.Looks.now
  · have e : (Value.type "int" != Value.type "tuple") = true := by first | decide +kernel | rfl | decide
    rw [e]
    exact h
end
theorem paired_perm {α β : Type} {R : α → β → Prop} {l m : List α} (h : m.Perm l) : ∀ {xs : List β}, Paired R l xs → ∃ ys, Paired R m ys ∧ ys.Perm xs := by
  induction h with
  | nil => intro xs d; exact ⟨xs, d, .refl _⟩
  | cons v _ ih =>
    intro xs d
    cases d with | cons d1 d2 =>
    obtain ⟨ys, e1, e2⟩ := ih d2
    exact ⟨_ :: ys, .cons d1 e1, e2.cons _⟩
  | swap v u l =>
    intro xs d
    cases d with | cons d1 d2 =>
    cases d2 with | cons d2 d3 =>
    exact ⟨_ :: _ :: _, .cons d2 (.cons d1 d3), .swap ..⟩
  | trans _ _ ih1 ih2 =>
    intro xs d
    obtain ⟨ys, e1, e2⟩ := ih2 d
    obtain ⟨zs, e3, e4⟩ := ih1 e1
    exact ⟨zs, e3, e4.trans e2⟩
theorem paired_pw {α β : Type} {R : α → β → Prop} {S : α → α → Prop} {T : β → β → Prop} (k : ∀ a b x y, R a x → R b y → S a b → T x y) : ∀ {l : List α} {xs : List β}, Paired R l xs → l.Pairwise S → xs.Pairwise T
  | _, _, .nil, _ => .nil
  | _, _, .cons r t, p => by
    have p := List.pairwise_cons.1 p
    refine List.pairwise_cons.2 ⟨fun y hy => ?_, paired_pw k t p.2⟩
    have : ∀ {l : List α} {xs : List β}, Paired R l xs → ∀ y ∈ xs, ∃ b ∈ l, R b y := by
      intro l xs h
      induction h with
      | nil => intro y hy; cases hy
      | cons r t ih =>
        intro y hy
        rcases List.mem_cons.1 hy with rfl | hy
        · exact ⟨_, by simp, r⟩
        · obtain ⟨b, hb, rb⟩ := ih y hy
          exact ⟨b, by simp [hb], rb⟩
    obtain ⟨b, hb, rb⟩ := this t y hy
    exact k _ _ _ _ r rb (p.1 b hb)
theorem paired_of {α β : Type} {R : α → β → Prop} : ∀ {l : List α} {xs : List β}, l.length = xs.length → (∀ (i : Nat) (a : α) (x : β), l[i]? = some a → xs[i]? = some x → R a x) → Paired R l xs
  | [], [], _, _ => .nil
  | [], _ :: _, h, _ => by simp at h
  | _ :: _, [], h, _ => by simp at h
  | a :: l, x :: xs, h, k => .cons (k 0 a x rfl rfl) (paired_of (by simpa using h) fun i b y e1 e2 => k (i + 1) b y (by simpa using e1) (by simpa using e2))

/-- the record of ours at a is taken up as o -/
theorem Inv.adopt {X : Cx} {pins pl : List (Addr × Obj)} {σ : L2.St} {H H0 : Hp} {s : Shared} {h' : Heap} {t' : Nat} {a : Addr} {o : HO} (I : Inv X (pins ++ pl) σ H s) (fp : FpOk X pins H0 a) (hn : H a = none) (k : ∀ b u, b ≠ a → s.heap.get? b = some u → h'.get? b = some u)
    (ex : ∃ u, h'.get? a = some u) (new : ObjOk X.prog X.w (upd H a o) h' a o) : Inv X pins σ (upd H a o) { s with heap := h', toks := t' } := by
  obtain ⟨_, f1, f2, f3, f4, f5⟩ := fp
  refine I.unpinned.step (g' := s.gens) (d' := s.drawn) (ch := [a]) (fun b hb => ?_) (fun b o _ _ hc e _ => k b o (fun z => hc (by simp [z])) e) (fun b o _ _ hc e _ => ⟨o.slots, k b o (fun z => hc (by simp [z])) e⟩)
    (fun b o hc _ n => by rw [upd_ne (fun z => hc (by simp [z]))]; exact n) (fun b o hc e => ⟨o, k b o (fun z => hc (by simp [z])) e⟩) (fun b xs e => by rw [upd_ne (ne_of_none e hn)]; exact e) (fun b o u e => by rw [upd_ne (ne_of_none e hn)]; exact e)
    (fun b ps e => ⟨#[], by rw [upd_ne (ne_of_none e hn), e]; simp⟩) (fun m hm => ?_) (fun b u e => ?_) I.bare
  · have e : b = a := by simpa using hb
    subst e
    exact ⟨f3, f1, f4, f5⟩
  · obtain ⟨o, es, ep, ho, r⟩ := hm
    exact ⟨o, es, ep, k _ o (Ne.symm f1) ho, r⟩
  · by_cases hb : b = a
    · subst hb; rw [upd_same] at e; cases e; exact new
    · rw [upd_ne hb] at e
      refine (I.hok b u e).stay (fun c v hc q => k c v ?_ q) (fun c q => by rw [upd_ne (ne_of_none q hn)]; exact q) fun c xs q => by rw [upd_ne (ne_of_none q hn)]; exact q
      rcases hc with z | z
      · rw [z]; exact hb
      · exact ne_of_none z hn
/-- a def called from within a built-in -/
theorem run_fnA {X : Cx} {k : Nat} {f : Addr} {fd : FuncData} {ps : List Str} {sp : Sp} {A' : Around} {pins : List (Addr × Obj)} {σ : L2.St} {H : Hp} {s : Shared} {Q : VK} {us : List Value} {vs : List V} (hA : A' = X.A.in1.in1) (F : FnOk X.prog X.w X.K X.mg X.base CX0 k f fd ps sp) (hr : Room k A') (hb : Binds X.K fd ps [])
    (I : Inv X pins σ H s) (r : Vals vs us) (h : sp vs H Q E0) : wpAny (model X.prog X.w) A' (call (.ref f) us) (EP X pins σ Q) (fun _ _ => False) s := by
  subst hA
  have hl : us.length = ps.length := by rw [← r.length]; exact F.len _ _ _ _ h
  have hb' := hb s us I.kIn (by rw [List.append_nil]; exact hl)
  rw [List.append_nil] at hb'
  refine wpAny_call (codeAny_mono (F.run X.A.in1.in1 X.stack s H ⟨us, []⟩ us vs Q E0 hr I.env0.in1.in1 hb' r h) fun r s' hq => ?_)
  cases r with
  | error e => exact hq.elim
  | ok fl =>
    cases fl with
    | ret u => exact I.after hq
    | next => exact False.elim hq
    | brk => exact False.elim hq
    | cont => exact False.elim hq
def keyD (p : IK) : D := .tuple [.int p.1, .str p.2]
theorem keyD_pair {X : Cx} {pins : List (Addr × Obj)} {σ : L2.St} {F H : Hp} {s : Shared} {v : V} {u : Value} {p : IK} (I : Inv X pins σ H s) (hF : Ex F H) (d : Dn X.K F v (keyD p)) (r : RelV v u) : KPair s.heap u p := by
  unfold keyD at d
  cases d with | tup h a =>
  cases a with | cons a1 a =>
  cases a with | cons a2 a =>
  cases a
  cases a1
  cases a2
  obtain ⟨its, rv, ⟨o, ho, hc, n, hd⟩, _⟩ := I.tuple (ex_t hF h)
  cases r
  cases rv with | cons r1 rv =>
  cases rv with | cons r2 rv =>
  cases rv
  obtain ⟨t, rfl⟩ := r1
  obtain ⟨t2, rfl⟩ := r2
  exact ⟨_, o, t, t2, n, rfl, ho, hc, hd⟩
end DL

namespace DL
open PySem PySem.Spec PyProof.Rows L2 RZ
theorem paired_split {K : Fg} {F : Hp} {h : Heap} {kf : D → IK} : ∀ {out : List (Value × Value)} {ys : List D}, Paired (fun (p : Value × Value) (x : D) => KPair h p.1 (kf x) ∧ ∃ w, RelV w p.2 ∧ Dn K F w x) out ys → ∃ us, Vals us (out.map (·.2)) ∧ DnA K F us ys
  | _, _, .nil => ⟨[], .nil, .nil⟩
  | _, _, .cons r t => by
    obtain ⟨us, a, b⟩ := paired_split t
    obtain ⟨_, w, r1, r2⟩ := r
    exact ⟨w :: us, .cons r1 a, .cons r2 b⟩
theorem vals_get {l₁ : List V} {l₂ : List Value} {i : Nat} {a : V} {b : Value} (h : Vals l₁ l₂) (ea : l₁[i]? = some a) (eb : l₂[i]? = some b) : RelV a b := by
  induction h generalizing i with
  | nil => simp at ea
  | cons r t ih =>
    cases i with
    | zero => simp at ea eb; subst ea; subst eb; exact r
    | succ i => exact ih (by simpa using ea) (by simpa using eb)
theorem frz_ex {F H F' H' : Hp} {p : Addr} {o : HO} (a1 : Ex F F') (a2 : Ex F' H') (a4 : ∀ b, H b ≠ none → F b = none → F' b = none) (o1 : F' p = none) (o2 : H p = none) (o3 : H' p = some o) : Ex F (upd F' p o) ∧ Ex (upd F' p o) H' ∧ (∀ b, H b ≠ none → F b = none → upd F' p o b = none) := by
  refine ⟨a1.trans (Ex.new o1), fun b u e => ?_, fun b h1 h2 => ?_⟩
  · by_cases z : b = p
    · subst z; rw [upd_same] at e; rw [← e]; exact o3
    · rw [upd_ne z] at e; exact a2 _ _ e
  · rw [upd_ne (fun z => h1 (by rw [z]; exact o2))]; exact a4 b h1 h2
/-- sorted(xs, key=f) -/
theorem sortKey_run {X : Cx} {k : Nat} {f a : Addr} {fd : FuncData} {ps : List Str} {R : List D → (D → Prop) → Prop} (ok : FnOk X.prog X.w X.K X.mg X.base CX0 k f fd ps (spF X.K R)) (hr : Room k X.A.in1.in1) (bi : Binds X.K fd ps [])
    {pins : List (Addr × Obj)} {σ : L2.St} {F H : Hp} {s : Shared} {Q : VK} {ws : List V} {xs : List D} (I : Inv X pins σ H s) (hF : Ex F H) (ha : F a = some (.lst ws)) (d : DnA X.K F ws xs) (hz : xs.length ≤ 1000000) (kf : D → IK) (hk : ∀ x ∈ xs, R [x] (fun z => z = keyD (kf x)))
    (q : ∀ p us ys F' H', Ex F F' → Ex F' H' → Ex H H' → (∀ b, H b ≠ none → F b = none → F' b = none) → F' p = none → H p = none → H' p = some (.lst us) → DnA X.K F' us ys → ys.Perm xs → ys.Pairwise (fun x y => ltK (kf y) (kf x) = false) → Q (.ref p) H') :
    wpAny (model X.prog X.w) X.A (call (.builtin "sorted") [.ref a] [(Str.ofString "key", .ref f)]) (EP X pins σ Q) X.xe s := by
  obtain ⟨its, rv, hl, hz0⟩ := I.list (SqL.of (hF _ _ ha))
  have hlen : its.length = xs.length := by rw [← rv.length, d.length]
  have hzl : its.length ≤ sizeLine := by rw [sizeLine_eq]; omega
  refine call_function_entry_kw kind_sorted plain_sorted entry_sorted (ksk_s1 _ _) ?_
  unfold Builtin.«sorted»
  refine wpAny_bind (m := checkCount "sorted" 1 1 _) (wpAny_pure ?_)
  refine wpAny_bind (collect_list hl.isList ?_ hzl)
  refine wpAny_bind (wpAny_newList ?_ hzl)
  have hsz : ((s.heap.push (seqObj "list" #[] 0)).update s.heap.objs.size (Obj.mapSeq (· ++ its.toArray))).objs.size = s.heap.objs.size + 1 := by
    rw [Heap.size_update, size_push']
  have hoL : (((s.heap.push (seqObj "list" #[] 0)).update s.heap.objs.size (Obj.mapSeq (· ++ its.toArray))).push (seqObj "list" its.toArray 0)).get? (s.heap.objs.size + 1) = some (seqObj "list" its.toArray 0) := by
    rw [← hsz]; exact Heap.get?_push_size _ rfl
  have keep : ∀ b o, s.heap.get? b = some o → b ≠ s.heap.objs.size + 1 ∧ (((s.heap.push (seqObj "list" #[] 0)).update s.heap.objs.size (Obj.mapSeq (· ++ its.toArray))).push (seqObj "list" its.toArray 0)).get? b = some o := fun b o q => by
    have hlt : b < s.heap.objs.size := Heap.lt_size q
    refine ⟨Nat.ne_of_lt (Nat.lt_succ_of_lt hlt), Heap.get?_push_of_some _ ?_⟩
    rw [Heap.get?_update_ne _ _ _ _ (Nat.ne_of_lt hlt)]
    exact Heap.get?_push_of_some _ q
  show wpAny _ _ _ _ _ { s with heap := ((s.heap.push (seqObj "list" #[] 0)).update s.heap.objs.size (Obj.mapSeq (· ++ its.toArray))).push (seqObj "list" its.toArray 0) }
  rw [hsz]
  generalize hc : s.heap.objs.size + 1 = c at *
  have hcs : s.heap.objs.size ≤ c := by omega
  generalize (((s.heap.push (seqObj "list" #[] 0)).update s.heap.objs.size (Obj.mapSeq (· ++ its.toArray))).push (seqObj "list" its.toArray 0)) = h0 at *
  refine wpAny_bind (wpAny_holding (wpAny_call_entry_kw slot_list_sort ⟨_, hoL, rfl⟩ entry_list_sort ?body (ksk_l1 _ _)))
  case body =>
    show wpAny (model X.prog X.w) X.A.in1.in1 (Builtin.«list.sort» ⟨[.ref c], [(Str.ofString "key", .ref f)]⟩) _ _ _
    rw [ksk_t1]
    obtain ⟨e1, ho1⟩ : ∃ e1, (h0.update c (Obj.mapSeq fun _ => (#[] : Array Value))).get? c = some (seqObj "list" #[] e1) := ⟨_, get?_update_seq hoL fun _ => #[]⟩
    unfold ksk_tree
    refine wpAny_bind (listItems_at hoL rfl ?_)
    refine wpAny_bind (listUpdate_at hoL rfl ?_ (by rw [List.size_toArray]; exact hzl) (Nat.zero_le _))
    refine wpAny_bind (seqEpoch_at ho1 rfl ?_)
    refine wpAny_bind (wpAny_newTuple ?_ (by show its.length ≤ _; exact hzl))
    refine wpAny_bind (wpAny_newList ?_ (Nat.zero_le _))
    refine wpAny_holding ?_
    have keep1 : ∀ b o, s.heap.get? b = some o → ((h0.update c (Obj.mapSeq fun _ => (#[] : Array Value))).push (seqObj "tuple" its.toArray 0)).get? b = some o := fun b o e => by
      obtain ⟨n1, e⟩ := keep b o e
      exact Heap.get?_push_of_some _ ((Heap.get?_update_ne _ _ _ _ n1).trans e)
    have hoc : ((h0.update c (Obj.mapSeq fun _ => (#[] : Array Value))).push (seqObj "tuple" its.toArray 0)).get? c = some (seqObj "list" #[] e1) := Heap.get?_push_of_some _ ho1
    generalize ((h0.update c (Obj.mapSeq fun _ => (#[] : Array Value))).push (seqObj "tuple" its.toArray 0)) = h1 at *
    have I1 : Inv X pins σ H { s with heap := h1 } := I.kept (t' := s.toks) keep1
    have hcn : H c = none := I.hok.fresh hcs
    have hc1 : c < h1.objs.size := Heap.lt_size hoc
    have I2 : Inv X pins σ (upd H h1.objs.size (.lst [])) { s with heap := h1.push (seqObj "list" #[] 0) } := I1.lnew (its := []) (t' := s.toks) .nil (Nat.zero_le _)
    have hkn : H h1.objs.size = none := I1.hok.fresh (Nat.le_refl _)
    have hkF : F h1.objs.size = none := hF.none hkn
    have hkc : h1.objs.size ≠ c := Nat.ne_of_gt hc1
    have fp : FpOk X pins (upd H h1.objs.size (.lst [])) c := I.fpOk hcs (by rw [upd_ne (Ne.symm hkc)]; exact hcn)
    have I3 : Inv X (pins ++ pinsAt [c] (h1.push (seqObj "list" #[] 0))) σ (upd H h1.objs.size (.lst [])) { s with heap := h1.push (seqObj "list" #[] 0) } := by
      refine I2.pinned (fp := [c]) (fun b hb => by rw [List.mem_singleton.mp hb]; exact fp) (fun b hb => ?_)
      rw [List.mem_singleton.mp hb]
      exact ⟨_, Heap.get?_push_of_some _ hoc, fun v z => by cases z⟩
    have hpl : pinsAt [c] (h1.push (seqObj "list" #[] 0)) = [(c, seqObj "list" #[] e1)] := by
      unfold pinsAt
      rw [List.filterMap_cons, Heap.get?_push_of_some _ hoc]; rfl
    rw [hpl] at I3
    generalize h1.objs.size = kS at *
    generalize h1.push (seqObj "list" #[] 0) = h2 at *
    show wpAny _ _ (ksk_rest c (.ref f) false its.toArray e1 (.ref kS)) _ _ { s with heap := h2 }
    unfold ksk_rest
    refine wpAny_bind (wpAny_rule ?_)
    first
      | rw [List.forIn_toArray]
      | (rw [← Array.forIn_toList]; simp only [List.toList_toArray])
      | rw [← Array.forIn_toList]
    have h2k : Ex H (upd H kS (.lst [])) := Ex.new hkn
    refine wpAny_bind (ksk_fold (fun i s' => ∃ F' H' ks, Inv X (pins ++ [(c, seqObj "list" #[] e1)]) σ H' s' ∧ Ex F F' ∧ Ex F' H' ∧ Ex H H' ∧ (∀ b, H b ≠ none → F b = none → F' b = none) ∧ H' kS = some (.lst ks) ∧ F' kS = none ∧ DnA X.K F' ks ((xs.take i).map fun x => keyD (kf x))) its 0 _
      ⟨F, _, [], I3, Ex.refl F, hF.trans h2k, h2k, fun _ _ h => h, upd_same, hkF, by simpa using .nil⟩ ?step ?done)
    case step =>
      rintro j x s' hx ⟨F', H', ks, I4, f1, f2, f3, f4, hk4, fk4, d4⟩
      simp only [Nat.zero_add] at d4 ⊢
      have hj : j < xs.length := by rw [← hlen]; exact (List.getElem?_eq_some_iff.mp hx).1
      have hxj : xs[j]? = some xs[j] := List.getElem?_eq_getElem hj
      obtain ⟨w, hw, dw⟩ := d.get hxj
      have rw' : RelV w x := vals_get rv hw hx
      refine wpAny_bind (wpAny_attempt (wpAny_mono (run_fnA (Q := fun v H2 => ∃ F2, Ex F' F2 ∧ Ex F2 H2 ∧ Ex H' H2 ∧ (∀ b, H' b ≠ none → F' b = none → F2 b = none) ∧ Dn X.K F2 v (keyD (kf xs[j]))) rfl ok hr bi I4 (.cons rw' .nil) ⟨F', [xs[j]], _, f2, .cons (dw.mono f1) .nil, hk _ (List.getElem_mem hj), fun v d F2 H2 a1 a2 a3 a4 a5 a6 => ⟨F2, a1, a2, a3, a4, by rw [← a6]; exact a5⟩⟩) (fun v s'' he => ?_) fun _ _ hF => hF.elim))
      obtain ⟨v', H2, I5, r5, F2, a1, a2, a3, a4, a5⟩ := he
      try dsimp only
      obtain ⟨z6, kits, n6, rv6, hl6, e6⟩ := I5.lstM (a3 _ _ hk4)
      have hkl : ks.length = j := by rw [d4.length, List.length_map, List.length_take]; omega
      refine wpAny_bind (listUpdate_at e6 rfl ?_ (by rw [List.size_toArray, sizeLine_eq]; omega) (Nat.le_trans (Nat.le_of_eq (Array.size_push ..)) (by rw [List.size_toArray, sizeLine_eq]; omega)))
      have I6 := I5.lset (its' := kits ++ [v]) (ys := ks ++ [v']) (f := (·.push v)) (t' := s''.toks) (a3 _ _ hk4) e6 (by simp) (rv6.append (.cons r5 .nil)) (by rw [List.length_append, List.length_singleton, sizeLine_eq]; omega)
      have fk2 : F2 kS = none := a4 _ (by rw [hk4]; simp) fk4
      refine wpAny_pure ⟨rfl, F2, _, ks ++ [v'], I6, f1.trans a1, ex_updH a2 fk2, fun b o e => ?_, fun b h1 h2 => ?_, upd_same, fk2, ?_⟩
      · rw [upd_ne (ne_of_none e hkn)]; exact a3 _ _ (f3 _ _ e)
      · refine a4 b ?_ (f4 b h1 h2)
        cases q : H b with
        | none => exact absurd q h1
        | some o => rw [f3 _ _ q]; simp
      · rw [take_succ' hxj, List.map_append]
        exact (d4.mono a1).append (.cons a5 .nil)
    case done =>
      rintro s' ⟨F', H', ks, I4, f1, f2, f3, f4, hk4, fk4, d4⟩
      have e3 : xs.take (0 + its.length) = xs := List.take_of_length_le (by omega)
      rw [e3] at d4
      obtain ⟨z6, kits, n6, rv6, hl6, e6⟩ := I4.lstM hk4
      try dsimp only
      refine wpAny_bind (listItems_at e6 rfl ?_)
      have hkl : kits.length = xs.length := by rw [← hl6, d4.length, List.length_map]
      have hP : Paired (fun (p : Value × Value) (x : D) => KPair s'.heap p.1 (kf x) ∧ ∃ w, RelV w p.2 ∧ Dn X.K F' w x) (kits.zip its) xs := by
        refine paired_of (by rw [List.length_zip, hkl, hlen, Nat.min_self]) fun i p x e1 e2 => ?_
        obtain ⟨a1, a2⟩ := List.getElem?_zip_eq_some.mp e1
        obtain ⟨w1, b1, b2⟩ := d4.get (i := i) (d := keyD (kf x)) (by rw [List.getElem?_map, e2]; rfl)
        obtain ⟨w2, c1, c2⟩ := d.get e2
        exact ⟨keyD_pair I4 f2 b2 (vals_get rv6 b1 a1), w2, vals_get rv c1 a2, c2.mono f1⟩
      have hkp : ∀ v ∈ kits, KPair s'.heap v (kOf s'.heap v) := fun v hv => by
        obtain ⟨i, hi, e⟩ := List.getElem_of_mem hv
        have hx : xs[i]? = some xs[i] := List.getElem?_eq_getElem (by omega)
        obtain ⟨w1, b1, b2⟩ := d4.get (i := i) (d := keyD (kf xs[i])) (by rw [List.getElem?_map, hx]; rfl)
        have := keyD_pair I4 f2 b2 (vals_get rv6 b1 (by rw [List.getElem?_eq_getElem hi, e]))
        rw [kOf_eq this]; exact this
      have pin := fun {H' : Hp} {s' : Shared} (J : Inv X (pins ++ [(c, seqObj "list" #[] e1)]) σ H' s') => J.pin (c, seqObj "list" #[] e1) (by simp)
      have tail : ∀ (P : PySem.Fin → Shared → Prop) (E : Value → Shared → Prop) (st : SortSt), (∀ s'', EP X pins σ Q (.ref c) s'' → P (.done (.ret .none)) s'') → (arrOf st).toList.Perm (kits.zip its) → (arrOf st).toList.Pairwise (fun p r => ltK (kOf s'.heap r.1) (kOf s'.heap p.1) = false) → failedOf st = none → wpAny (model X.prog X.w) X.A.in1.in1 (ksk_tail c false e1 (.ref kS) st) P E s' := by
        intro P E st hend hp hs hfl
        have hsz2 : (arrOf st).size = xs.length := by
          have := hp.length_eq
          rw [Array.length_toList, List.length_zip, hkl, hlen, Nat.min_self] at this
          exact this
        obtain ⟨ys, py, pp⟩ := paired_perm hp hP
        obtain ⟨us, vu, du⟩ := paired_split py
        have pw : ys.Pairwise (fun x y => ltK (kf y) (kf x) = false) := paired_pw (fun a b x y ra rb z => by rw [kOf_eq ra.1, kOf_eq rb.1] at z; exact z) py hs
        unfold ksk_tail
        try dsimp only
        refine wpAny_bind (listUpdate_at e6 rfl ?_ (by rw [List.size_toArray, sizeLine_eq]; omega) (Nat.zero_le _))
        refine wpAny_bind (wpAny_letGo ?_)
        have I7 := I4.lset (its' := []) (ys := []) (f := fun _ => #[]) (t' := s'.toks) hk4 e6 rfl .nil (Nat.zero_le _)
        have na := (pin I7).1
        have nh := (pin I7).2.1
        refine wpAny_bind (seqEpoch_at na rfl ?_)
        refine wpAny_bind (listUpdate_at na rfl ?_ (Nat.zero_le _) (by simp only [Bool.false_eq_true, if_false, Array.size_map]; rw [hsz2, sizeLine_eq]; omega))
        rw [hfl]
        simp only [bne_self_eq_false, Bool.false_eq_true, if_false]
        obtain ⟨c2, hc2⟩ : ∃ c2, ((s'.heap.update kS (Obj.mapSeq fun _ => (#[] : Array Value))).update c (Obj.mapSeq fun _ => (arrOf st).map (·.2))).get? c = some (seqObj "list" ((arrOf st).map (·.2)) c2) := ⟨_, get?_update_seq na fun _ => (arrOf st).map (·.2)⟩
        have hul : us.length = xs.length := by rw [du.length]; exact pp.length_eq
        have I8 := Inv.adopt (h' := (s'.heap.update kS (Obj.mapSeq fun _ => (#[] : Array Value))).update c (Obj.mapSeq fun _ => (arrOf st).map (·.2))) (t' := s'.toks) (o := .lst us) I7 fp nh (fun b u hb e => (Heap.get?_update_other _ _ (Ne.symm hb)).trans e) ⟨_, hc2⟩
          ⟨by rw [hul, sizeLine_eq]; omega, ((arrOf st).map (·.2)).toList, c2, by rw [Array.toList_map]; exact vu, by rw [Array.toArray_toList]; exact hc2⟩
        have hc4 : H' c = none := by rw [upd_ne (Ne.symm hkc)] at nh; exact nh
        have fc : F' c = none := f2.none hc4
        refine wpAny_pure (hend _ ⟨.ref c, _, I8, rfl, ?_⟩)
        refine q c us ys F' _ f1 (ex_updH (ex_updH f2 fk4) fc) (fun b o e => ?_) f4 fc hcn upd_same du pp pw
        rw [upd_ne (ne_of_none e hcn), upd_ne (ne_of_none e hkn)]; exact f3 _ _ e
      unfold ksk_end
      try dsimp only
      simp only [Bool.false_eq_true, if_false]
      by_cases h2 : its.toArray.size < 2
      · rw [if_pos h2, if_pos h2]
        refine wpAny_bind (wpAny_pure ?_)
        rw [StateT.run_pure]
        refine wpAny_bind (wpAny_pure ?_)
        try dsimp only
        refine tail _ _ (SortSt.mk' general' (kits.toArray.zip its.toArray) #[] 7 none) (fun s'' e => ⟨_, rfl, wpAny_pure ⟨_, rfl, e⟩⟩) ?_ ?_ rfl
        · show (kits.toArray.zip its.toArray).toList.Perm _
          simp
        · show (kits.toArray.zip its.toArray).toList.Pairwise _
          have : (kits.toArray.zip its.toArray).toList.length < 2 := by
            rw [List.size_toArray] at h2
            simp; omega
          generalize (kits.toArray.zip its.toArray).toList = L at this
          match L, this with
          | [], _ => exact .nil
          | [_], _ => exact List.pairwise_singleton _ _
          | _ :: _ :: _, h => exact absurd h (by simp only [List.length_cons]; omega)
      · rw [if_neg h2, if_neg h2]
        rw [List.size_toArray] at h2
        refine wpAny_bind (kpair_kind (by omega) (fun v hv => ⟨_, hkp v hv⟩) ?_)
        refine wpAny_bind (wpAny_mono (SrtO.wpS_sortO (lt := SrtO.lt2 fun v u => ltK (kOf s'.heap v) (kOf s'.heap u)) (P := fun p => p.1 ∈ kits) (st0 := SortSt.mk' (tuples' true) (kits.toArray.zip its.toArray) #[] 7 none)
          (Q := fun _ st' => (arrOf st').toList.Perm (kits.zip its) ∧ (arrOf st').toList.Pairwise (fun p r => ltK (kOf s'.heap r.1) (kOf s'.heap p.1) = false) ∧ failedOf st' = none) (SrtO.swo2 (swo_K (kOf s'.heap))) (kpair_cmp hkp) rfl (fun p hm => ?_) rfl rfl fun st' a1 a2 a3 => ⟨?_, a1, a3⟩) ?_ fun _ _ e => e)
        · have hm : p ∈ (kits.toArray.zip its.toArray).toList := hm
          simp at hm
          exact (List.of_mem_zip hm).1
        · have := a2.perm
          have e : (arrOf (SortSt.mk' (tuples' true) (kits.toArray.zip its.toArray) #[] 7 none)).toList = kits.zip its := by
            show (kits.toArray.zip its.toArray).toList = _
            simp
          rw [e] at this
          exact this
        · rintro ⟨⟨⟩, st'⟩ s2 ⟨rfl, hp, hs, hf⟩
          try dsimp only
          exact tail _ _ st' (fun s'' e => ⟨_, rfl, wpAny_pure ⟨_, rfl, e⟩⟩) hp hs hf
/-- the canonical order -/
def srtK {α : Type} (kf : α → IK) (xs : List α) : List α := xs.mergeSort fun x y => !ltK (kf y) (kf x)
theorem srtK_perm {α : Type} {kf : α → IK} {xs : List α} : (srtK kf xs).Perm xs := List.mergeSort_perm ..
theorem srtK_pw {α : Type} {kf : α → IK} {xs : List α} : (srtK kf xs).Pairwise fun x y => ltK (kf y) (kf x) = false := by
  have := List.pairwise_mergeSort (le := fun x y => !ltK (kf y) (kf x)) (fun a b c h1 h2 => by
    simp only [Bool.not_eq_true'] at h1 h2 ⊢
    exact ltK_neg h2 h1) (fun a b => by
    cases h : ltK (kf b) (kf a) with
    | false => rfl
    | true => rw [ltK_asym h]; rfl) xs
  exact this.imp fun h => by simpa using h
theorem srt_uniq {α : Type} {kf : α → IK} {xs ys : List α} (h : ys.Perm xs) (hy : ys.Pairwise fun x y => ltK (kf y) (kf x) = false) (hx : xs.Pairwise fun x y => ltK (kf y) (kf x) = false) (inj : ∀ x ∈ xs, ∀ y ∈ xs, kf x = kf y → x = y) : ys = xs :=
  List.Perm.eq_of_pairwise (fun a b ha hb z1 z2 => inj a (h.mem_iff.1 ha) b hb (ltK_total z2 z1)) hy hx h
theorem srtK_eq {α : Type} {kf : α → IK} {xs ys : List α} (h : ys.Perm xs) (hy : ys.Pairwise fun x y => ltK (kf y) (kf x) = false) (inj : ∀ x ∈ xs, ∀ y ∈ xs, kf x = kf y → x = y) : ys = srtK kf xs :=
  srt_uniq (h.trans srtK_perm.symm) hy srtK_pw fun x hx y hy => inj x (srtK_perm.mem_iff.1 hx) y (srtK_perm.mem_iff.1 hy)
theorem srtK_congr {α : Type} {kf : α → IK} {xs ys : List α} (h : ys.Perm xs) (inj : ∀ x ∈ xs, ∀ y ∈ xs, kf x = kf y → x = y) : srtK kf ys = srtK kf xs := srtK_eq (srtK_perm.trans h) srtK_pw inj
def rSortK (X : Cx) (R : List D → (D → Prop) → Prop) (f : Addr) : List V → List V → Hp → VK → Prop := fun vs zs H Q => ∃ (a : Addr) (F : Hp) (ws : List V) (xs : List D) (kf : D → IK), vs = [.ref a] ∧ zs = [.ref f] ∧ Ex F H ∧ F a = some (.lst ws) ∧ DnA X.K F ws xs ∧ xs.length ≤ 1000000 ∧ (∀ x ∈ xs, R [x] (fun z => z = keyD (kf x))) ∧
  ∀ p us ys F' H', Ex F F' → Ex F' H' → Ex H H' → (∀ b, H b ≠ none → F b = none → F' b = none) → F' p = none → H p = none → H' p = some (.lst us) → DnA X.K F' us ys → ys.Perm xs → ys.Pairwise (fun x y => ltK (kf y) (kf x) = false) → Q (.ref p) H'
theorem cr_sortK {X : Cx} {k : Nat} {f : Addr} {fd : FuncData} {ps : List Str} {R : List D → (D → Prop) → Prop} (ok : FnOk X.prog X.w X.K X.mg X.base CX0 k f fd ps (spF X.K R)) (hr : Room k X.A.in1.in1) (bi : Binds X.K fd ps []) : CallRK X (.builtin "sorted") [Str.ofString "key"] (rSortK X R f) := by
  intro pins s σ H vs zs us ws Q I r rz h
  obtain ⟨a, F, ws', xs, kf, rfl, rfl, hF, ha, d, hz, hk, q⟩ := h
  obtain rfl := Vals.ref1 r
  obtain ⟨w1, rfl, e1⟩ := vals1 rz
  obtain rfl : w1 = Value.ref f := e1
  exact sortKey_run ok hr bi I hF ha d hz kf hk q
section
variable {X : Cx} {e : Expr} {env : List Sl} {y : Str} {pos p py pk : Pos} {j k : Nat} {R : List D → (D → Prop) → Prop}
/-- sorted(e, key=f), f a known def -/
theorem er_sortK {Ψ : List D → Prop} (c : Kn X.prog X.w X.K X.mg X.base k y (spF X.K R)) (hr : Room j X.A) (ha : ER X e env (fun d => ∃ xs, d = .list xs ∧ Ψ xs)) (kf : D → IK) (h : ∀ xs, Ψ xs → xs.length ≤ 1000000 ∧ ∀ x ∈ xs, R [x] (fun z => z = keyD (kf x))) (hm : X.mg "sorted" = none)
    (hk : k + 2 ≤ j := by decide) (hg : Gl X "sorted" := by rfl) (hgy : Gl X y := by rfl) (hdb : (y == ("__debug__" : Str)) = false := by decide)
    (he : backTo pos (starEach [e] X.env) = (false, eval e X.env) :: backTo pos (starEach [] X.env) := by rfl) (hpl : (backTo pos (starEach [e] X.env)).any (·.1) = false := by rfl)
    (hall : (backToKw pos (keywordEach [⟨some "key", .Name y py, pk⟩] X.env)).all (·.1.isSome) = true := by rfl) (hnone : (backToKw pos (keywordEach [⟨some "key", .Name y py, pk⟩] X.env)).any (·.1.isNone) = false := by rfl) (hks : (backToKw pos (keywordEach [⟨some "key", .Name y py, pk⟩] X.env)).filterMap (·.1) = [Str.ofString "key"] := by rfl)
    (hs : starEach [e] X.env = (false, eval e X.env) :: starEach [] X.env := by rfl) :
    ER X (.Call (.Name "sorted" p) [e] [⟨some "key", .Name y py, pk⟩] pos) env (fun d => ∃ xs ys, Ψ xs ∧ d = .list ys ∧ ys.Perm xs ∧ ys.Pairwise (fun x y => ltK (kf y) (kf x) = false)) := by
  obtain ⟨f, fd, ps, ok, kp, bi, hmy⟩ := c.ex
  have hr2 : Room k X.A.in1.in1 := ((hr.mono hk).in1).in1
  refine PE.imp (pe_callBK (cr_sortK ok hr2 bi) hg hm rfl (pa_cons ha pa_nil hs) (pk_cons (pe_glob hgy hmy (show RelV (.ref f) (.ref f) from rfl) hdb) pk_nil) (by decide) (by decide) he hpl hall hnone hks) fun σ H Q ⟨B, G, T, F, S, q⟩ => ?_
  refine ⟨B, G, T, F, S, fun v d F1 H1 S1 g1 d1 ⟨xs, e1, hΨ⟩ => ?_⟩
  subst e1
  cases d1 with | lst h1 d1 =>
  obtain ⟨hz, hk⟩ := h xs hΨ
  refine ⟨_, F1, _, xs, kf, rfl, rfl, S1.fh, h1, d1, hz, hk, fun p us ys F' H' a1 a2 a3 a4 o1 o2 o3 a6 a7 a8 => ?_⟩
  obtain ⟨b1, b2, b3⟩ := frz_ex a1 a2 a4 o1 o2 o3
  obtain ⟨g, S'⟩ := Gr.of_call S1 b1 b2 a3 b3
  exact q _ _ _ H' S' (g1.trans g S1.tpn) (.lst upd_same (a6.mono (Ex.new o1))) ⟨xs, ys, hΨ, rfl, a7, a8⟩
end
end DL

namespace DL
open PySem PySem.Spec PyProof.Rows L2 RZ
/-! ### texts: rules -/
def numS (i : Int) : Str := Str.ofString (toString i)
section
variable {X : Cx} {e a b c o : Expr} {es : List Expr} {env : List Sl} {pos p p2 pos2 apos : Pos} {x : Str}
theorem c_strI {i : Int} (h : i.natAbs.log2 < 1920) : CaD X (.type "str") [.int i] (fun z => z = .str (numS i)) := ⟨_, call_str_int, fun B G T F env σ H vs Q S hv q => by
  cases hv with | cons h1 t =>
  cases t
  cases h1
  exact ⟨i, rfl, h, q _ _ F H S (Gr.refl S.fh) (.str _) rfl⟩⟩
theorem ed_fmtI {i : Int} (he : ED X e env (.int i)) (h : i.natAbs.log2 < 1920) : ED X (.FormattedValue e (-1) none pos) env (.str (numS i)) := PE.imp (pe_fmt he) fun σ H Q ⟨B, G, T, F, S, q⟩ => ⟨B, G, T, F, S, fun v d F1 H1 S1 g1 d1 e1 => by
  subst e1
  cases d1
  exact .inr ⟨i, rfl, h, q _ _ F1 H1 S1 g1 (.str _) rfl⟩⟩
theorem ed_fmtS {y : Str} (he : ED X e env (.str y)) (h : y.length ≤ sizeLine) : ED X (.FormattedValue e (-1) none pos) env (.str y) := PE.imp (pe_fmt he) fun σ H Q ⟨B, G, T, F, S, q⟩ => ⟨B, G, T, F, S, fun v d F1 H1 S1 g1 d1 e1 => by
  subst e1
  cases d1
  exact .inl ⟨y, rfl, h, q _ _ F1 H1 S1 g1 (.str _) rfl⟩⟩
theorem str_ea {y : Str} : Str.empty ++ y = y := by
  show Str.append Str.empty y = y
  unfold Str.append Str.empty
  simp
theorem str_len {y z : Str} : (y ++ z).length = y.length + z.length := by
  show (Str.append y z).length = _
  unfold Str.append Str.length
  simp
theorem ed_join2 {y z : Str} (h1 : ED X a env (.str y)) (h2 : ED X b env (.str z)) (hz : y.length + z.length ≤ sizeLine) : ED X (.JoinedStr [a, b] pos) env (.str (y ++ z)) := PE.imp (pe_joined (.cons h1 (.cons h2 .nil))) fun σ H Q ⟨B, G, T, F, S, q⟩ => by
  show tJs [_, _] _ σ H _
  refine ⟨B, G, T, F, S, fun v d F1 H1 S1 g1 d1 e1 => ?_⟩
  subst e1
  cases d1
  refine ⟨y, rfl, ?_⟩
  rw [str_ea]
  refine ⟨by omega, B, G, T, F1, S1, fun v d F2 H2 S2 g2 d2 e2 => ?_⟩
  subst e2
  cases d2
  exact ⟨z, rfl, by rw [str_len]; exact hz, q _ _ F2 H2 S2 (g1.trans g2 S1.tpn) (.str _) rfl⟩
theorem ed_join3 {y z u : Str} (h1 : ED X a env (.str y)) (h2 : ED X b env (.str z)) (h3 : ED X c env (.str u)) (hz : y.length + z.length + u.length ≤ sizeLine) : ED X (.JoinedStr [a, b, c] pos) env (.str (y ++ z ++ u)) := PE.imp (pe_joined (.cons h1 (.cons h2 (.cons h3 .nil)))) fun σ H Q ⟨B, G, T, F, S, q⟩ => by
  show tJs [_, _, _] _ σ H _
  refine ⟨B, G, T, F, S, fun v d F1 H1 S1 g1 d1 e1 => ?_⟩
  subst e1
  cases d1
  refine ⟨y, rfl, ?_⟩
  rw [str_ea]
  refine ⟨by omega, B, G, T, F1, S1, fun v d F2 H2 S2 g2 d2 e2 => ?_⟩
  subst e2
  cases d2
  refine ⟨z, rfl, by rw [str_len]; omega, B, G, T, F2, S2, fun v d F3 H3 S3 g3 d3 e3 => ?_⟩
  subst e3
  cases d3
  exact ⟨u, rfl, by rw [str_len, str_len]; exact hz, q _ _ F3 H3 S3 ((g1.trans g2 S1.tpn).trans g3 S2.tpn) (.str _) rfl⟩
/-- sep.join(e) -/
theorem ed_join {y : Str} {ys : List Str} (ho : ED X o env (.str y)) (he : ED X e env (.list (ys.map PyData.str))) (hz : (ys.map (·.length)).sum + ys.length * y.length ≤ 16777216) (hs : starEach [e] X.env = [(false, eval e X.env)] := by rfl) (hbase : attributeBase o "join" X.env (eval o X.env) = eval o X.env := by rfl) (hline : (apos.endLine == pos.line) = true := by rfl) :
    ED X (.Call (.Attribute o "join" apos) [e] [] pos) env (.str (Txt.join y ys)) := PE.imp (pe_join ho he hs hbase hline) fun σ H Q ⟨B, G, T, F, S, q⟩ => ⟨B, G, T, F, S, fun v d F1 H1 S1 g1 d1 e1 => by
  subst e1
  cases d1
  refine ⟨⟨_, rfl⟩, B, G, T, F1, S1, fun v d F2 H2 S2 g2 d2 e2 => ?_⟩
  subst e2
  cases d2 with | lst h d =>
  rw [d.strs] at h
  exact ⟨y, _, ys, rfl, rfl, .inl (SqL.of (S2.fh _ _ h)), hz, q _ _ F2 H2 S2 (g1.trans g2 S1.tpn) (.str _) rfl⟩⟩
end
/-! ### the texts of hints -/
def wdS : List Str := ["Mon", "Tue", "Wed", "Thu", "Fri", "Sat", "Sun"]
def moS : List Str := ["Jan", "Feb", "Mar", "Apr", "May", "Jun", "Jul", "Aug", "Sep", "Oct", "Nov", "Dec"]
def wdD : D := .tuple [.str "Mon", .str "Tue", .str "Wed", .str "Thu", .str "Fri", .str "Sat", .str "Sun"]
def moD : D := .tuple [.str "Jan", .str "Feb", .str "Mar", .str "Apr", .str "May", .str "Jun", .str "Jul", .str "Aug", .str "Sep", .str "Oct", .str "Nov", .str "Dec"]
def wW : Option Int → List Str
  | none => []
  | some v => [wdS.getD v.toNat ""]
def wDy : Option Int → List Str
  | none => []
  | some v => [numS v ++ "."]
def wM : Option Int → List Str
  | none => []
  | some v => [moS.getD (v - 1).toNat ""]
def wY : Option Int → List Str
  | none => []
  | some v => [numS v]
def wordsH (h : Cal.Hint) : List Str := wW h.w ++ wDy h.d ++ wM h.m ++ wY h.y
def textH (h : Cal.Hint) : Str := Txt.join " " (wordsH h)
def keyH (h : Cal.Hint) : IK := ((textH h).length, textH h)
/-- a hint that has a text -/
structure HTx (h : Cal.Hint) : Prop where
  ok : Cal.HOk h
  y : ∀ v, h.y = some v → 1 ≤ v ∧ v ≤ 9999
  any : ¬ (h.w = none ∧ h.d = none ∧ h.m = none ∧ h.y = none)
theorem wd_at {ds : List D} {v : Int} (h0 : 0 ≤ v) (h1 : v ≤ 6) : wdD = .tuple ds → L2.atI ds v = some (.str (wdS.getD v.toNat "")) := by
  intro e
  injection e with e
  subst e
  have : v = 0 ∨ v = 1 ∨ v = 2 ∨ v = 3 ∨ v = 4 ∨ v = 5 ∨ v = 6 := by omega
  rcases this with rfl | rfl | rfl | rfl | rfl | rfl | rfl <;> rfl
theorem mo_at {ds : List D} {v : Int} (h0 : 1 ≤ v) (h1 : v ≤ 12) : moD = .tuple ds → L2.atI ds (v - 1) = some (.str (moS.getD (v - 1).toNat "")) := by
  intro e
  injection e with e
  subst e
  rcases Cal.m12 h0 h1 with rfl | rfl | rfl | rfl | rfl | rfl | rfl | rfl | rfl | rfl | rfl | rfl <;> rfl
theorem num_len {v : Int} (h0 : 0 ≤ v) (h1 : v ≤ 9999) : (numS v).length ≤ 4 := toString_length_le h0 (by decide) (by omega)
theorem num_log {v : Int} (h0 : 0 ≤ v) (h1 : v ≤ 9999) : v.natAbs.log2 < 1920 := Nat.lt_trans (natAbs_log2 (b := 30) (by decide) (by omega)) (by decide)
theorem word_len {h : Cal.Hint} (H : HTx h) : ∀ w ∈ wordsH h, w.length ≤ 5 := by
  obtain ⟨hw, hd, hm, hy⟩ := h
  obtain ⟨⟨o1, o2, o3⟩, o4, _⟩ := H
  intro w hmem
  unfold wordsH at hmem
  simp only [List.mem_append] at hmem
  rcases hmem with ((z | z) | z) | z
  · cases hw with
    | none => cases z
    | some v =>
      obtain ⟨a, b⟩ := o1 v rfl
      have : v = 0 ∨ v = 1 ∨ v = 2 ∨ v = 3 ∨ v = 4 ∨ v = 5 ∨ v = 6 := by omega
      cases z with
      | head => rcases this with rfl | rfl | rfl | rfl | rfl | rfl | rfl <;> decide +kernel
      | tail _ z => cases z
  · cases hd with
    | none => cases z
    | some v =>
      obtain ⟨a, b⟩ := o2 v rfl
      cases z with
      | head =>
        have := num_len (v := v) (by omega) (by omega)
        have e : (("." : Str)).length = 1 := by decide +kernel
        rw [str_len, e]; omega
      | tail _ z => cases z
  · cases hm with
    | none => cases z
    | some v =>
      obtain ⟨a, b⟩ := o3 v rfl
      cases z with
      | head => rcases Cal.m12 a b with rfl | rfl | rfl | rfl | rfl | rfl | rfl | rfl | rfl | rfl | rfl | rfl <;> decide +kernel
      | tail _ z => cases z
  · cases hy with
    | none => cases z
    | some v =>
      obtain ⟨a, b⟩ := o4 v rfl
      cases z with
      | head => have := num_len (v := v) (by omega) (by omega); omega
      | tail _ z => cases z
theorem words_cnt {h : Cal.Hint} : (wordsH h).length ≤ 4 := by
  obtain ⟨hw, hd, hm, hy⟩ := h
  cases hw <;> cases hd <;> cases hm <;> cases hy <;> simp [wordsH, wW, wDy, wM, wY]
theorem sum_len {L : List Str} {k : Nat} (h : ∀ w ∈ L, w.length ≤ k) : (L.map (·.length)).sum ≤ k * L.length := by
  induction L with
  | nil => simp
  | cons a t ih =>
    have := ih fun w hw => h w (by simp [hw])
    have := h a (by simp)
    simp only [List.map_cons, List.sum_cons, List.length_cons, Nat.mul_add, Nat.mul_one]
    omega
theorem words_small {h : Cal.Hint} (H : HTx h) : ((wordsH h).map (·.length)).sum + (wordsH h).length * (" " : Str).length ≤ 16777216 := by
  have a := sum_len (word_len H)
  have b := words_cnt (h := h)
  have c : (" " : Str).length = 1 := by decide +kernel
  rw [c]
  have : 5 * (wordsH h).length ≤ 20 := by omega
  omega
theorem join_len {y : Str} : ∀ {ys : List Str}, (Txt.join y ys).length ≤ (ys.map (·.length)).sum + ys.length * y.length := by
  intro ys
  rw [TL.join_eq]
  match ys with
  | [] => exact Nat.zero_le _
  | [a] => simp [Str.join]
  | a :: b :: r =>
    have := join_len (y := y) (ys := b :: r)
    rw [TL.join_eq] at this
    show (a ++ y ++ Str.join y (b :: r)).length ≤ _
    rw [str_len, str_len]
    simp only [List.map_cons, List.sum_cons, List.length_cons, Nat.add_mul, Nat.one_mul] at this ⊢
    omega
theorem text_len {h : Cal.Hint} (H : HTx h) : (textH h).length ≤ 24 := by
  have a := join_len (y := " ") (ys := wordsH h)
  have b := sum_len (word_len H)
  have c := words_cnt (h := h)
  have e : (" " : Str).length = 1 := by decide +kernel
  rw [e] at a
  unfold textH
  omega
end DL

namespace DL
open PySem PySem.Spec PyProof.Rows L2 RZ
/-! ### texts tell hints -/
theorem tl_numS {v : Int} (h : 0 ≤ v) : TL.tl (numS v) = TL.numL v.toNat := by
  obtain ⟨n, rfl⟩ := Int.eq_ofNat_of_zero_le h
  exact TL.tl_num n
def clsT (x : Str) : Nat := if x ∈ wdS then 0 else if (TL.tl x).getLast? = some 46 then 1 else if x ∈ moS then 2 else 3
theorem w7 {v : Int} (h0 : 0 ≤ v) (h1 : v ≤ 6) : v = 0 ∨ v = 1 ∨ v = 2 ∨ v = 3 ∨ v = 4 ∨ v = 5 ∨ v = 6 := by omega
theorem cls_w {v : Int} (h0 : 0 ≤ v) (h1 : v ≤ 6) : clsT (wdS.getD v.toNat "") = 0 := by
  rcases w7 h0 h1 with rfl | rfl | rfl | rfl | rfl | rfl | rfl <;> decide +kernel
theorem cls_m {v : Int} (h0 : 1 ≤ v) (h1 : v ≤ 12) : clsT (moS.getD (v - 1).toNat "") = 2 := by
  rcases Cal.m12 h0 h1 with rfl | rfl | rfl | rfl | rfl | rfl | rfl | rfl | rfl | rfl | rfl | rfl <;> decide +kernel
theorem wd_last : ∀ x ∈ wdS, (TL.tl x).getLast? ≠ some 46 := by decide +kernel
theorem wd_head : ∀ x ∈ wdS ++ moS, ∃ c r, TL.tl x = c :: r ∧ 57 < c := by
  have : ∀ x ∈ wdS ++ moS, (match TL.tl x with | [] => false | c :: _ => decide (57 < c)) = true := by decide +kernel
  intro x hx
  have := this x hx
  cases e : TL.tl x with
  | nil => rw [e] at this; cases this
  | cons c r => rw [e] at this; exact ⟨c, r, rfl, by simpa using this⟩
theorem cls_d {v : Int} (h : 0 ≤ v) : clsT (numS v ++ ".") = 1 := by
  have e : (TL.tl (numS v ++ ".")).getLast? = some 46 := by
    rw [TL.tl_append]
    have : TL.tl ("." : Str) = [46] := by decide +kernel
    rw [this]; simp
  unfold clsT
  rw [if_neg (fun z => wd_last _ z e), if_pos e]
theorem num_no {v : Int} (h : 0 ≤ v) {L : List Str} (hL : ∀ x ∈ L, ∃ c r, TL.tl x = c :: r ∧ 57 < c) : numS v ∉ L := fun z => by
  obtain ⟨c, r, e, hc⟩ := hL _ z
  have d := TL.numL_digits v.toNat c (by rw [← tl_numS h, e]; simp)
  omega
theorem cls_y {v : Int} (h : 0 ≤ v) : clsT (numS v) = 3 := by
  have e : (TL.tl (numS v)).getLast? ≠ some 46 := by
    rw [tl_numS h]
    intro z
    have d := TL.numL_digits v.toNat 46 (List.mem_of_getLast? z)
    omega
  unfold clsT
  rw [if_neg (num_no h fun x hx => wd_head x (by simp [hx])), if_neg e, if_neg (num_no h fun x hx => wd_head x (by simp [hx]))]
theorem cls_parts {h : Cal.Hint} (H : HTx h) : (wordsH h).filter (fun x => clsT x == 0) = wW h.w ∧ (wordsH h).filter (fun x => clsT x == 1) = wDy h.d ∧ (wordsH h).filter (fun x => clsT x == 2) = wM h.m ∧ (wordsH h).filter (fun x => clsT x == 3) = wY h.y := by
  obtain ⟨hw, hd, hm, hy⟩ := h
  obtain ⟨⟨o1, o2, o3⟩, o4, _⟩ := H
  have a1 : ∀ x ∈ wW hw, clsT x = 0 := by
    intro x hx
    cases hw with
    | none => cases hx
    | some v => cases hx with
      | head => exact cls_w (o1 v rfl).1 (o1 v rfl).2
      | tail _ z => cases z
  have a2 : ∀ x ∈ wDy hd, clsT x = 1 := by
    intro x hx
    cases hd with
    | none => cases hx
    | some v => cases hx with
      | head => exact cls_d (by have := o2 v rfl; omega)
      | tail _ z => cases z
  have a3 : ∀ x ∈ wM hm, clsT x = 2 := by
    intro x hx
    cases hm with
    | none => cases hx
    | some v => cases hx with
      | head => exact cls_m (o3 v rfl).1 (o3 v rfl).2
      | tail _ z => cases z
  have a4 : ∀ x ∈ wY hy, clsT x = 3 := by
    intro x hx
    cases hy with
    | none => cases hx
    | some v => cases hx with
      | head => exact cls_y (by have := o4 v rfl; omega)
      | tail _ z => cases z
  have key : ∀ {L : List Str} {i : Nat} (j : Nat), (∀ x ∈ L, clsT x = i) → L.filter (fun x => clsT x == j) = if i = j then L else [] := by
    intro L i j hL
    by_cases q : i = j
    · rw [if_pos q]; exact List.filter_eq_self.2 fun x hx => by rw [hL x hx, q]; simp
    · rw [if_neg q]; exact List.filter_eq_nil_iff.2 fun x hx => by rw [hL x hx]; simp [q]
  unfold wordsH
  simp only [List.filter_append, key _ a1, key _ a2, key _ a3, key _ a4]
  simp
theorem wd_inj {v u : Int} (h0 : 0 ≤ v) (h1 : v ≤ 6) (k0 : 0 ≤ u) (k1 : u ≤ 6) (e : wdS.getD v.toNat "" = wdS.getD u.toNat "") : v = u := by
  have f : ∀ n : Nat, n < 7 → wdS.idxOf (wdS.getD n "") = n := by decide +kernel
  have a := f v.toNat (by omega)
  have b := f u.toNat (by omega)
  rw [e, b] at a
  omega
theorem mo_inj {v u : Int} (h0 : 1 ≤ v) (h1 : v ≤ 12) (k0 : 1 ≤ u) (k1 : u ≤ 12) (e : moS.getD (v - 1).toNat "" = moS.getD (u - 1).toNat "") : v = u := by
  have f : ∀ n : Nat, n < 12 → moS.idxOf (moS.getD n "") = n := by decide +kernel
  have a := f (v - 1).toNat (by omega)
  have b := f (u - 1).toNat (by omega)
  rw [e, b] at a
  omega
theorem num_inj {v u : Int} (h : 0 ≤ v) (k : 0 ≤ u) (e : numS v = numS u) : v = u := by
  have a := congrArg TL.tl e
  rw [tl_numS h, tl_numS k] at a
  have := TL.numL_inj a
  omega
theorem app_inj {x y z : Str} (e : x ++ z = y ++ z) : x = y := by
  have a := congrArg TL.tl e
  rw [TL.tl_append, TL.tl_append] at a
  exact TL.ext_tl (List.append_cancel_right a)
theorem words_inj {g h : Cal.Hint} (G : HTx g) (H : HTx h) (e : wordsH g = wordsH h) : g = h := by
  obtain ⟨g1, g2, g3, g4⟩ := cls_parts G
  obtain ⟨h1, h2, h3, h4⟩ := cls_parts H
  rw [e, h1] at g1
  rw [e, h2] at g2
  rw [e, h3] at g3
  rw [e, h4] at g4
  obtain ⟨gw, gd, gm, gy⟩ := g
  obtain ⟨hw, hd, hm, hy⟩ := h
  obtain ⟨⟨o1, o2, o3⟩, o4, _⟩ := G
  obtain ⟨⟨p1, p2, p3⟩, p4, _⟩ := H
  have e1 : gw = hw := by
    cases gw <;> cases hw <;> simp [wW] at g1 ⊢
    exact (wd_inj (p1 _ rfl).1 (p1 _ rfl).2 (o1 _ rfl).1 (o1 _ rfl).2 (by simpa using g1)).symm
  have e2 : gd = hd := by
    cases gd <;> cases hd <;> simp [wDy] at g2 ⊢
    exact (num_inj (by have := p2 _ rfl; omega) (by have := o2 _ rfl; omega) (app_inj g2)).symm
  have e3 : gm = hm := by
    cases gm <;> cases hm <;> simp [wM] at g3 ⊢
    exact (mo_inj (p3 _ rfl).1 (p3 _ rfl).2 (o3 _ rfl).1 (o3 _ rfl).2 (by simpa using g3)).symm
  have e4 : gy = hy := by
    cases gy <;> cases hy <;> simp [wY] at g4 ⊢
    exact (num_inj (by have := p4 _ rfl; omega) (by have := o4 _ rfl; omega) g4).symm
  subst e1; subst e2; subst e3; subst e4; rfl
theorem word_free {h : Cal.Hint} (H : HTx h) : ∀ w ∈ wordsH h, 32 ∉ TL.tl w ∧ TL.tl w ≠ [] := by
  obtain ⟨hw, hd, hm, hy⟩ := h
  obtain ⟨⟨o1, o2, o3⟩, o4, _⟩ := H
  have num : ∀ v : Int, 0 ≤ v → 32 ∉ TL.tl (numS v) ∧ TL.tl (numS v) ≠ [] := fun v hv => by
    rw [tl_numS hv]
    exact ⟨TL.numL_free (.inl (by decide)), TL.numL_ne _⟩
  intro w hmem
  unfold wordsH at hmem
  simp only [List.mem_append] at hmem
  rcases hmem with ((z | z) | z) | z
  · cases hw with
    | none => cases z
    | some v => cases z with
      | head => rcases w7 (o1 v rfl).1 (o1 v rfl).2 with rfl | rfl | rfl | rfl | rfl | rfl | rfl <;> decide +kernel
      | tail _ z => cases z
  · cases hd with
    | none => cases z
    | some v => cases z with
      | head =>
        obtain ⟨a, b⟩ := num v (by have := o2 v rfl; omega)
        have : TL.tl ("." : Str) = [46] := by decide +kernel
        rw [TL.tl_append, this]
        exact ⟨by simp [a], by simp⟩
      | tail _ z => cases z
  · cases hm with
    | none => cases z
    | some v => cases z with
      | head => rcases Cal.m12 (o3 v rfl).1 (o3 v rfl).2 with rfl | rfl | rfl | rfl | rfl | rfl | rfl | rfl | rfl | rfl | rfl | rfl <;> decide +kernel
      | tail _ z => cases z
  · cases hy with
    | none => cases z
    | some v => cases z with
      | head => exact num v (by have := o4 v rfl; omega)
      | tail _ z => cases z
theorem words_ne {h : Cal.Hint} (H : HTx h) : wordsH h ≠ [] := by
  obtain ⟨hw, hd, hm, hy⟩ := h
  have := H.any
  cases hw <;> cases hd <;> cases hm <;> cases hy <;> simp [wordsH, wW, wDy, wM, wY] at this ⊢
theorem text_split {h : Cal.Hint} (H : HTx h) : Txt.split (textH h) " " = wordsH h :=
  TL.split_join (s := 32) (S := []) (by decide +kernel) (by decide +kernel) (words_ne H) fun p hp => (word_free H p hp).1
theorem text_inj {g h : Cal.Hint} (G : HTx g) (H : HTx h) (e : textH g = textH h) : g = h := words_inj G H (by rw [← text_split G, ← text_split H, e])
theorem key_inj {g h : Cal.Hint} (G : HTx g) (H : HTx h) (e : keyH g = keyH h) : g = h := text_inj G H (congrArg Prod.snd e)
end DL

namespace DL
open PySem PySem.Spec PyProof.Rows L2 RZ
section
variable {X : Cx} {e a b c : Expr} {env : List Sl} {y : Str} {pos p py pk : Pos} {j k : Nat} {R : List D → (D → Prop) → Prop}
theorem ed_optG {o : Option Int} {Z : Option Int → D} (hc : TD X c env (isNone (oD o))) (ha : o = none → ED X a env (Z none)) (hb : ∀ v, o = some v → ED X b env (Z (some v))) : ED X (.IfExp c a b pos) env (Z o) := by
  cases o with
  | none => exact ED.is (ed_if (k := true) hc (fun _ => ha rfl) (y := .none) (fun z => nomatch z)) rfl
  | some v => exact ED.is (ed_if (k := false) hc (x := .none) (fun z => nomatch z) (fun _ => hb v rfl)) rfl
theorem perm_of_map {α β : Type} {f : α → β} {ys : List β} {xs : List α} (h : ys.Perm (xs.map f)) : ∃ zs : List α, zs.Perm xs ∧ ys = zs.map f := by
  have hp : Paired (fun (a : β) (b : α) => a = f b) (xs.map f) xs := paired_of (by simp) fun i a x e1 e2 => by
    rw [List.getElem?_map, e2] at e1
    exact (Option.some.inj e1).symm
  obtain ⟨zs, p1, p2⟩ := paired_perm h hp
  refine ⟨zs, p2, ?_⟩
  clear p2 hp h
  induction p1 with
  | nil => rfl
  | cons r t ih => rw [r, ih]; rfl
/-- sorted(e, key=f) of encoded things with keys that tell them apart -/
theorem ed_sortT {α : Type} {xs : List α} {enc : α → D} {kf : α → IK} (dec : D → IK) (hd : ∀ x, dec (enc x) = kf x) (c : Kn X.prog X.w X.K X.mg X.base k y (spF X.K R)) (hr : Room j X.A) (ha : ED X e env (.list (xs.map enc))) (hz : xs.length ≤ 1000000) (h : ∀ x ∈ xs, R [enc x] (fun z => z = keyD (kf x)))
    (inj : ∀ x ∈ xs, ∀ y ∈ xs, kf x = kf y → x = y) (hm : X.mg "sorted" = none)
    (hk : k + 2 ≤ j := by decide) (hg : Gl X "sorted" := by rfl) (hgy : Gl X y := by rfl) (hdb : (y == ("__debug__" : Str)) = false := by decide)
    (he : backTo pos (starEach [e] X.env) = (false, eval e X.env) :: backTo pos (starEach [] X.env) := by rfl) (hpl : (backTo pos (starEach [e] X.env)).any (·.1) = false := by rfl)
    (hall : (backToKw pos (keywordEach [⟨some "key", .Name y py, pk⟩] X.env)).all (·.1.isSome) = true := by rfl) (hnone : (backToKw pos (keywordEach [⟨some "key", .Name y py, pk⟩] X.env)).any (·.1.isNone) = false := by rfl) (hks : (backToKw pos (keywordEach [⟨some "key", .Name y py, pk⟩] X.env)).filterMap (·.1) = [Str.ofString "key"] := by rfl)
    (hs : starEach [e] X.env = (false, eval e X.env) :: starEach [] X.env := by rfl) :
    ED X (.Call (.Name "sorted" p) [e] [⟨some "key", .Name y py, pk⟩] pos) env (.list ((srtK kf xs).map enc)) := by
  refine (er_sortK (Ψ := fun l => l = xs.map enc) c hr (ha.imp fun d e => ⟨_, e, rfl⟩) dec (fun l el => ?_) hm hk hg hgy hdb he hpl hall hnone hks hs).imp fun d ⟨l, ys, el, ed, hp, hs⟩ => ?_
  · subst el
    refine ⟨by rw [List.length_map]; exact hz, fun x hx => ?_⟩
    obtain ⟨u, hu, rfl⟩ := List.mem_map.1 hx
    rw [hd]; exact h u hu
  · subst el
    obtain ⟨zs, p1, rfl⟩ := perm_of_map hp
    rw [ed, ← srtK_eq p1 ((List.pairwise_map.1 hs).imp fun {a b} z => by rw [hd, hd] at z; exact z) inj]
end
/-! ### kinds -/
abbrev Kd := Bool × Bool × Bool × Bool
def kindD (k : Kd) : D := .tuple [.bool k.1, .bool k.2.1, .bool k.2.2.1, .bool k.2.2.2]
def kinds15 : List Kd := [(false, false, false, true), (false, false, true, false), (false, false, true, true), (false, true, false, false), (false, true, false, true), (false, true, true, false), (false, true, true, true), (true, false, false, false),
  (true, false, false, true), (true, false, true, false), (true, false, true, true), (true, true, false, false), (true, true, false, true), (true, true, true, false), (true, true, true, true)]
def kindsD : D := .tuple (kinds15.map kindD)
def hk (n : Int) (k : Kd) : Cal.Hint := Cal.hintOf k.1 k.2.1 k.2.2.1 k.2.2.2 n
def allH (n : Int) : List Cal.Hint := srtK keyH (kinds15.map (hk n))
def klK (i : Nat) : Kd := (decide ((1 + (i : Int)) / 1 % 2 = 1), decide ((1 + (i : Int)) / 2 % 2 = 1), decide ((1 + (i : Int)) / 4 % 2 = 1), decide ((1 + (i : Int)) / 8 % 2 = 1))
theorem kinds_perm : ((List.range 15).map klK).Perm kinds15 := by decide
/-- a day's year that can be written -/
def YrOk (n : Int) : Prop := 1 ≤ (Cal.dayOf n).1 ∧ (Cal.dayOf n).1 ≤ 9999
theorem kinds_any : ∀ k ∈ kinds15, k.1 = true ∨ k.2.1 = true ∨ k.2.2.1 = true ∨ k.2.2.2 = true := by decide
theorem hk_y {n : Int} {k : Kd} {v : Int} (h : (hk n k).y = some v) : v = (Cal.dayOf n).1 := by
  simp only [hk, Cal.hintOf] at h
  split at h
  · cases h; rfl
  · cases h
theorem hk_tx {n : Int} (hn : YrOk n) {k : Kd} (hm : k ∈ kinds15) : HTx (hk n k) := by
  have a := Cal.hintOf_ok k.1 k.2.1 k.2.2.1 k.2.2.2 n (kinds_any k hm)
  exact ⟨a.ok, fun v hv => by rw [hk_y hv]; exact hn, a.any⟩
theorem hk_fit {n : Int} {k : Kd} : Cal.fitB (hk n k) n = true := by
  obtain ⟨a, b, c, e⟩ := k
  unfold Cal.fitB hk Cal.hintOf
  cases a <;> cases b <;> cases c <;> cases e <;> simp [Cal.ok]
theorem kinds_inj {n : Int} (hn : YrOk n) : ∀ g ∈ kinds15.map (hk n), ∀ h ∈ kinds15.map (hk n), keyH g = keyH h → g = h := by
  intro g hg h hh e
  obtain ⟨k, hk1, rfl⟩ := List.mem_map.1 hg
  obtain ⟨l, hl1, rfl⟩ := List.mem_map.1 hh
  exact key_inj (hk_tx hn hk1) (hk_tx hn hl1) e
theorem allH_law {n : Int} (hn : YrOk n) : srtK keyH (((List.range 15).map klK).map (hk n)) = allH n := srtK_congr (kinds_perm.map _) (kinds_inj hn)
theorem mem_allH {n : Int} {h : Cal.Hint} : h ∈ allH n ↔ ∃ k ∈ kinds15, hk n k = h := by
  unfold allH
  rw [srtK_perm.mem_iff, List.mem_map]
theorem allH_len {n : Int} : (allH n).length = 15 := by
  unfold allH
  rw [srtK_perm.length_eq]; rfl
theorem allH_tx {n : Int} (hn : YrOk n) {h : Cal.Hint} (hm : h ∈ allH n) : HTx h := by
  obtain ⟨k, a, rfl⟩ := mem_allH.1 hm
  exact hk_tx hn a
theorem allH_fit {n : Int} {h : Cal.Hint} (hm : h ∈ allH n) : Cal.fitB h n = true := by
  obtain ⟨k, a, rfl⟩ := mem_allH.1 hm
  exact hk_fit
theorem yr_ok {y m d : Int} (v : VDay y m d) (h1 : 1 ≤ y) (h2 : y ≤ 9999) : YrOk (Cal.num y m d) := by
  unfold YrOk
  rw [Cal.dayOf_num v.1 v.2.1 v.2.2.1 v.2.2.2]
  exact ⟨h1, h2⟩
def dI : D → Option Int
  | .int i => some i
  | _ => none
def decH : D → Cal.Hint
  | .tuple [a, b, c, e] => ⟨dI a, dI b, dI c, dI e⟩
  | _ => ⟨none, none, none, none⟩
theorem decH_enc {h : Cal.Hint} : decH (hintD h) = h := by
  obtain ⟨a, b, c, e⟩ := h
  cases a <;> cases b <;> cases c <;> cases e <;> rfl
def headD (L : List Cal.Hint) : D := match L with
  | [] => .none
  | h :: _ => hintD h
theorem allH_is {n : Int} (hn : YrOk n) {ks : List Kd} (hp : ks.Perm kinds15) (hs : (ks.map (hk n)).Pairwise fun x y => ltK (keyH y) (keyH x) = false) : allH n = ks.map (hk n) := (srtK_eq (hp.map _) hs (kinds_inj hn)).symm
/-! ### a day's own hint with all parts -/
def fullH (n : Int) : Cal.Hint := hk n (true, true, true, true)
theorem full_mem {n : Int} : fullH n ∈ allH n := mem_allH.2 ⟨_, by decide, rfl⟩
theorem full_fit {n j : Int} : Cal.fitB (fullH n) j = decide (j = n) := by
  by_cases q : j = n
  · subst q; rw [decide_eq_true rfl]; exact hk_fit
  · rw [decide_eq_false q]
    refine Cal.false_of fun hf => q ?_
    have a := Cal.fit_parts hf
    simp only [fullH, hk, Cal.hintOf] at a
    simp at a
    have s1 := Cal.dayOf_spec n
    have s2 := Cal.dayOf_spec j
    have e1 := s1.2.2.2.2
    have e2 := s2.2.2.2.2
    rw [← a.2.1, ← a.2.2.1, ← a.2.2.2] at e2
    rw [← e1, ← e2]
theorem full_rd {n x : Int} {r : Nat} (hr : r < 3) (h1 : 1 ≤ n) (hx : 1 ≤ x) : Cal.rd (fullH n) x r = some n ↔ (r = 0 → x ≤ n) ∧ (r = 1 → n ≤ x) := by
  have e1 : Cal.lst (fullH n) (n - 1) = none := Cal.lst_none fun j _ hj => by rw [full_fit]; exact decide_eq_false (by omega)
  have e2 : Cal.nxt (fullH n) (n + 1) = none := Cal.nxt_none fun j hj => by rw [full_fit]; exact decide_eq_false (by omega)
  rw [Cal.rd_iff (by rw [full_fit]; exact decide_eq_true rfl) h1 hx hr]
  unfold Cal.lowR Cal.highR
  rw [e1, e2]
  rcases r3 hr with rfl | rfl | rfl <;> simp
theorem rd_way {h : Cal.Hint} {n x : Int} {r : Nat} (hr : r < 3) (e : Cal.rd h x r = some n) : (r = 0 → x ≤ n) ∧ (r = 1 → n ≤ x) := by
  refine ⟨fun z => ?_, fun z => ?_⟩
  · subst z; exact (Cal.nxt_some e).1
  · subst z; exact (Cal.lst_some e).2.1
theorem isNone_head {L : List Cal.Hint} : isNone (headD L) = L.isEmpty := by cases L <;> rfl
theorem none_way {n x : Int} {r : Nat} (hr : r < 3) (h1 : 1 ≤ n) (hx : 1 ≤ x) : ((allH n).filter fun h => decide (Cal.rd h x r = some n)).isEmpty = (decide (r = 0) && decide (n < x) || decide (r = 1) && decide (x < n)) := by
  have full := full_rd hr h1 hx
  have way := fun h => rd_way (h := h) (n := n) (x := x) hr
  have mem : ((allH n).filter fun h => decide (Cal.rd h x r = some n)) = [] ↔ ¬ ((r = 0 → x ≤ n) ∧ (r = 1 → n ≤ x)) := by
    constructor
    · intro e z
      have := List.filter_eq_nil_iff.1 e (fullH n) full_mem
      rw [full.2 z] at this
      simp at this
    · intro z
      refine List.filter_eq_nil_iff.2 fun h _ e => z (way h (by simpa using e))
  cases q : ((allH n).filter fun h => decide (Cal.rd h x r = some n)) with
  | nil =>
    have := mem.1 q
    rcases r3 hr with rfl | rfl | rfl <;> simp at this ⊢ <;> omega
  | cons a t =>
    have : (r = 0 → x ≤ n) ∧ (r = 1 → n ≤ x) := Classical.byContradiction fun z => by rw [mem.2 z] at q; cases q
    rcases r3 hr with rfl | rfl | rfl <;> simp at this ⊢ <;> omega
end DL

namespace DL
open PySem PySem.Spec PyProof.Rows L2 RZ
/-! ### texts read: rules -/
/-- the module's name x is a written tuple -/
def Nd (K : Fg) (mg : Str → Option Value) (x : Str) : Prop := ∃ a o, mg x = some (.ref a) ∧ K.lookup a = some o ∧ o.cls = .type "tuple" ∧ o.dict = none
def nB (K : Fg) (x : Str) : Bool := match PySem.W.nsIn K mainGlobals x with
  | some (some (.ref a)) => (match K.lookup a with
    | some ⟨.type c, none, _, _⟩ => decide (c = "tuple")
    | _ => false)
  | _ => false
theorem nB_ok {K : Fg} {h : Heap} {mg : Str → Option Value} {x : Str} (X : K.In h) (G : h.Ns mainGlobals mg) (c : nB K x = true) : Nd K mg x := by
  unfold nB at c
  cases e : PySem.W.nsIn K mainGlobals x with
  | none => rw [e] at c; cases c
  | some o =>
    rw [e] at c
    cases o with
    | none => cases c
    | some u =>
      cases u with
      | ref a =>
        simp only at c
        cases q : K.lookup a with
        | none => rw [q] at c; cases c
        | some o =>
          rw [q] at c
          obtain ⟨oc, od, dt, sl⟩ := o
          cases oc with
          | type n =>
            cases od with
            | none => exact ⟨a, _, PySem.W.mg_of X G e, q, by rw [of_decide_eq_true c], rfl⟩
            | some _ => cases c
          | _ => cases od <;> cases c
      | _ => cases c
section
variable {X : Cx} {tg e a b c o : Expr} {es : List Expr} {env : List Sl} {pos p p2 pos2 apos npos cpos : Pos} {x : Str}
theorem ed_tix {ys : List Str} {z : Str} {j : Nat} (n : Nd X.K X.mg x) (g : Gc X.K X.mg x (.tuple (ys.map PyData.str))) (he : ED X e env (.str z)) (hy : ys[j]? = some z) (hno : ∀ m, m < j → ys[m]? ≠ some z) (hg : Gl X x := by rfl) (hdb : (x == ("__debug__" : Str)) = false := by decide)
    (hbase : attributeBase (.Name x npos) "index" X.env (eval (.Name x npos) X.env) = eval (.Name x npos) X.env := by rfl)
    (hfew : ((backTo cpos (starEach [e] X.env)).all (fun x => !x.1) && (backToKw cpos (keywordEach [] X.env)).all (fun x => x.1.isSome) && decide ([e].length + ([] : List Keyword).length + (if ([] : List Keyword).isEmpty then 0 else 1) < 30)) = true := by rfl)
    (hline : (apos.endLine == cpos.line) = true := by rfl) (hs : starEach [e] X.env = (false, eval e X.env) :: starEach [] X.env := by rfl) (hplain : (backTo cpos (starEach [] X.env)).any (·.1) = false := by rfl) :
    ED X (.Call (.Attribute (.Name x npos) "index" apos) [e] [] cpos) env (.int (j : Nat)) := by
  obtain ⟨q, ob, hm, hl, hc, hd⟩ := n
  obtain ⟨u, v, hm', rv, dn⟩ := g
  rw [hm] at hm'
  cases hm'
  have hv : v = .ref q := by
    cases v with
    | ref a => have : Value.ref q = Value.ref a := rv; cases this; rfl
    | non => cases rv
    | bl _ => cases rv
    | int _ => obtain ⟨_, z⟩ := rv; cases z
    | str _ => obtain ⟨_, z⟩ := rv; cases z
    | byt _ => obtain ⟨_, z⟩ := rv; cases z
    | flt _ => obtain ⟨_, z⟩ := rv; cases z
    | ty _ => cases rv
  subst hv
  refine PE.imp (pe_bm PySem.F.plainAttrs_tuple PySem.F.slot_tuple_index PySem.F.type_tuple_index mt_tup_index (pe_glob hg hm rv hdb) (pa_cons he pa_nil hs) hbase hfew hline hs hplain) fun σ H Q ⟨B, G, T, F, S, k⟩ => ?_
  refine ⟨.inr (.inl ⟨rfl, ob, hl, hc, hd⟩), B, G, T, F, S, fun w d F1 H1 S1 g1 d1 e1 => ?_⟩
  subst e1
  cases d1
  cases dn F1 with | tup h d =>
  rw [d.strs] at h
  exact ⟨q, ys, z, j, rfl, rfl, ex_t S1.fh h, hy, hno, k _ _ F1 H1 S1 g1 (.int _) rfl⟩
theorem ed_split {y z : Str} (ho : ED X o env (.str y)) (he : ED X e env (.str z)) (hz : (z.length == 0) = false) (hl : y.length + 2 ≤ sizeLine) (hs : starEach [e] X.env = [(false, eval e X.env)] := by rfl) (hbase : attributeBase o "split" X.env (eval o X.env) = eval o X.env := by rfl) (hline : (apos.endLine == pos.line) = true := by rfl) :
    ED X (.Call (.Attribute o "split" apos) [e] [] pos) env (.list ((Txt.split y z).map PyData.str)) := PE.imp (pe_split ho he hs hbase hline) fun σ H Q ⟨B, G, T, F, S, q⟩ => ⟨B, G, T, F, S, fun v d F1 H1 S1 g1 d1 e1 => by
  subst e1
  cases d1
  refine ⟨⟨_, rfl⟩, B, G, T, F1, S1, fun v d F2 H2 S2 g2 d2 e2 => ?_⟩
  subst e2
  cases d2
  refine ⟨y, z, rfl, rfl, hz, hl, fun p hp => ?_⟩
  obtain ⟨S', g⟩ := S2.lay (o := .lst _) hp
  exact q _ _ _ _ S' ((g1.trans g2 S1.tpn).trans g S2.tpn) (.lst upd_same (DnA.of_strs _)) rfl⟩
theorem ed_endswith {y z : Str} (ho : ED X o env (.str y)) (he : ED X e env (.str z)) (hs : starEach [e] X.env = [(false, eval e X.env)] := by rfl) (hbase : attributeBase o "endswith" X.env (eval o X.env) = eval o X.env := by rfl) (hline : (apos.endLine == pos.line) = true := by rfl) :
    ED X (.Call (.Attribute o "endswith" apos) [e] [] pos) env (.bool (Txt.endswith y z)) := PE.imp (pe_m1 PySem.F.slot_str_endswith PySem.F.type_str_endswith mt_endswith ho he hs hbase hline) fun σ H Q ⟨B, G, T, F, S, q⟩ => ⟨B, G, T, F, S, fun v d F1 H1 S1 g1 d1 e1 => by
  subst e1
  cases d1
  refine ⟨⟨_, rfl⟩, B, G, T, F1, S1, fun v d F2 H2 S2 g2 d2 e2 => ?_⟩
  subst e2
  cases d2
  exact ⟨y, z, rfl, rfl, q _ _ F2 H2 S2 (g1.trans g2 S1.tpn) (.bl _) rfl⟩⟩
theorem ed_count {y z : Str} (ho : ED X o env (.str y)) (he : ED X e env (.str z)) (hs : starEach [e] X.env = [(false, eval e X.env)] := by rfl) (hbase : attributeBase o "count" X.env (eval o X.env) = eval o X.env := by rfl) (hline : (apos.endLine == pos.line) = true := by rfl) :
    ED X (.Call (.Attribute o "count" apos) [e] [] pos) env (.int (Txt.count y z)) := PE.imp (pe_m1 PySem.F.slot_str_count PySem.F.type_str_count mt_count ho he hs hbase hline) fun σ H Q ⟨B, G, T, F, S, q⟩ => ⟨B, G, T, F, S, fun v d F1 H1 S1 g1 d1 e1 => by
  subst e1
  cases d1
  refine ⟨⟨_, rfl⟩, B, G, T, F1, S1, fun v d F2 H2 S2 g2 d2 e2 => ?_⟩
  subst e2
  cases d2
  exact ⟨y, z, rfl, rfl, q _ _ F2 H2 S2 (g1.trans g2 S1.tpn) (.int _) rfl⟩⟩
theorem ed_partition {y z : Str} (ho : ED X o env (.str y)) (he : ED X e env (.str z)) (hz : (z.length == 0) = false) (hl : y.length ≤ sizeLine) (hs : starEach [e] X.env = [(false, eval e X.env)] := by rfl) (hbase : attributeBase o "partition" X.env (eval o X.env) = eval o X.env := by rfl) (hline : (apos.endLine == pos.line) = true := by rfl) :
    ED X (.Call (.Attribute o "partition" apos) [e] [] pos) env (.tuple [.str (Txt.partition y z).1, .str (Txt.partition y z).2.1, .str (Txt.partition y z).2.2]) := PE.imp (pe_partition ho he hs hbase hline) fun σ H Q ⟨B, G, T, F, S, q⟩ => ⟨B, G, T, F, S, fun v d F1 H1 S1 g1 d1 e1 => by
  subst e1
  cases d1
  refine ⟨⟨_, rfl⟩, B, G, T, F1, S1, fun v d F2 H2 S2 g2 d2 e2 => ?_⟩
  subst e2
  cases d2
  refine ⟨y, z, rfl, rfl, hz, hl, fun p hp => ?_⟩
  obtain ⟨S', g⟩ := S2.lay (o := .tup _) hp
  exact q _ _ _ _ S' ((g1.trans g2 S1.tpn).trans g S2.tpn) (.tup (.inl (.inl upd_same)) (.cons (.str _) (.cons (.str _) (.cons (.str _) .nil)))) rfl⟩
theorem c_intS {y : Str} {n : Int} (h : PySem.intText? y = some n) (hl : y.length ≤ 640) : CaD X (.type "int") [.str y] (fun z => z = .int n) := ⟨_, call_int_str, fun B G T F env σ H vs Q S hv q => by
  cases hv with | cons h1 t =>
  cases t
  cases h1
  exact ⟨y, n, rfl, h, hl, q _ _ F H S (Gr.refl S.fh) (.int _) rfl⟩⟩
theorem s_str {z : Str} {lo hi : Option Int} (h : z.length ≤ sizeLine) : SlD X (.str z) lo hi (fun d => d = .str (cutS z lo hi)) :=
  ⟨_, sl_str, fun B G T F env σ H v Q S hv q => by
    cases hv
    exact ⟨z, rfl, h, q _ _ F H S (Gr.refl S.fh) (.str _) rfl⟩⟩
theorem o_eqS {y z : Str} : OpD X (compareOp .Eq) (.str y) (.str z) (fun d => d = .bool (decide (y = z))) :=
  ⟨_, op_eq, fun B G T F env σ H v u Q S hv hu q => by
    cases hv; cases hu
    refine ⟨rfl, q _ _ F H S (Gr.refl S.fh) (.bl _) ?_⟩
    simp⟩
theorem o_neS {y z : Str} : OpD X (compareOp .NotEq) (.str y) (.str z) (fun d => d = .bool (!decide (y = z))) :=
  ⟨_, op_ne, fun B G T F env σ H v u Q S hv hu q => by
    cases hv; cases hu
    refine ⟨rfl, q _ _ F H S (Gr.refl S.fh) (.bl _) ?_⟩
    simp⟩
theorem o_inSign {k : Nat} {z : Str} : OpD X (compareOp .In) (.str ⟨#[k]⟩) (.str z) (fun d => d = .bool (decide (k ∈ z.cps.toList))) :=
  ⟨_, op_in_sign, fun B G T F env σ H v u Q S hv hu q => by
    cases hv; cases hu
    exact ⟨k, z, rfl, rfl, q _ _ F H S (Gr.refl S.fh) (.bl _) rfl⟩⟩
/-- the signs of a text -/
def signsD (y : Str) : List D := y.cps.toList.map fun k => .str ⟨#[k]⟩
theorem wk_str {K : Fg} {F : Hp} {y : Str} : Wk K (Its y) F (signsD y) where
  go := fun i H hi e => by show i < y.cps.size; simpa [signsD] using hi
  stop := fun H e => by show y.cps.size ≤ _; simp [signsD]
  yld := fun i F1 H x H' hi e1 e2 ⟨eh, k, hk, y1⟩ => by
    subst eh; subst y1
    refine ⟨_, F1, ?_, .str _, Ex.refl F1, e2, Ex.refl _, fun _ _ n => n⟩
    unfold signsD
    rw [List.getElem?_map]
    have : y.cps.toList[i]? = some k := by rw [Array.getElem?_toList]; exact hk
    rw [this]; rfl
theorem ir_str {y : Str} (h : ED X e env (.str y)) : IR X tg e env (signsD y) := PI.imp (pi_str h) fun σ H R ⟨B, G, T, F, S, q⟩ => ⟨B, G, T, F, S, fun v d F' H' S' g dn z => by
  subst z
  cases dn
  exact ⟨y, rfl, q _ F' H' S' g wk_str⟩⟩
end
end DL

namespace DL
open PySem PySem.Spec PyProof.Rows L2 RZ
/-! ### what read_number, read_word, read_hint tell -/
def digS : Str := "0123456789"
theorem dig_mem {c : Nat} : c ∈ digS.cps.toList ↔ 48 ≤ c ∧ c ≤ 57 := by
  have e : digS.cps.toList = [48, 49, 50, 51, 52, 53, 54, 55, 56, 57] := by decide +kernel
  rw [e]
  simp only [List.mem_cons, List.not_mem_nil, or_false]
  omega
def allDig (w : Str) : Bool := w.cps.toList.all fun c => decide (c ∈ digS.cps.toList)
theorem allDig_iff {w : Str} : allDig w = true ↔ NumText.AllDigits (TL.tl w) := by
  unfold allDig NumText.AllDigits
  rw [List.all_eq_true]
  constructor
  · intro h c hc; exact dig_mem.1 (by simpa using h c hc)
  · intro h c hc; simpa using dig_mem.2 (h c hc)
def valS (w : Str) : Int := ((NumText.digitsVal (TL.tl w) : Nat) : Int)
def rnS (w : Str) : Option Int := if w = "" ∨ 4 < w.length ∨ allDig w = false then none else if numS (valS w) = w then some (valS w) else none
theorem numL_big {n : Nat} (h : 10000 ≤ n) : 5 ≤ (TL.numL n).length := by
  rw [TL.numL_step (by omega), TL.numL_step (n := n / 10) (by omega), TL.numL_step (n := n / 10 / 10) (by omega), TL.numL_step (n := n / 10 / 10 / 10) (by omega)]
  have := List.length_pos_iff.mpr (TL.numL_ne (n / 10 / 10 / 10 / 10))
  simp only [List.length_append, List.length_cons, List.length_nil]
  omega
theorem emp_iff {w : Str} : w = "" ↔ TL.tl w = [] := by
  constructor
  · intro h; subst h; decide +kernel
  · intro h; exact TL.ext_tl (h.trans (by decide +kernel))
theorem rn_iff {w : Str} {v : Int} : rnS w = some v ↔ 0 ≤ v ∧ v ≤ 9999 ∧ w = numS v := by
  unfold rnS
  constructor
  · intro h
    split at h
    · cases h
    · rename_i hn
      split at h
      · rename_i he
        cases h
        refine ⟨by unfold valS; omega, ?_, he.symm⟩
        rcases Int.lt_or_le 9999 (valS w) with z | z
        · exfalso
          apply hn
          right; left
          rw [← he, TL.len_tl, tl_numS (by unfold valS; omega)]
          have := numL_big (n := (valS w).toNat) (by omega)
          omega
        · exact z
      · cases h
  · rintro ⟨h0, h1, rfl⟩
    have e := tl_numS h0
    have ev : valS (numS v) = v := by
      unfold valS; rw [e, TL.numL_val]; omega
    have d : allDig (numS v) = true := allDig_iff.2 (by rw [e]; exact TL.numL_digits _)
    have l := num_len h0 h1
    have ne : numS v ≠ "" := fun z => TL.numL_ne v.toNat (by rw [← e]; exact emp_iff.1 z)
    rw [if_neg (by rw [d]; simp [ne]; omega), ev, if_pos rfl]
theorem int_val {w : Str} (h : ¬ (w = "" ∨ 4 < w.length ∨ allDig w = false)) : PySem.intText? w = some (valS w) ∧ w.length ≤ 4 ∧ 0 ≤ valS w ∧ valS w ≤ 9999 := by
  have d : allDig w = true := by cases q : allDig w with | true => rfl | false => exact absurd (.inr (.inr q)) h
  have l : w.length ≤ 4 := by
    rcases Nat.lt_or_ge 4 w.length with z | z
    · exact absurd (.inr (.inl z)) h
    · exact z
  have ne : TL.tl w ≠ [] := fun z => h (.inl (emp_iff.2 z))
  refine ⟨PySem.intText_digits (allDig_iff.1 d) ne (by omega), l, by unfold valS; omega, ?_⟩
  have hl : (TL.tl w).length ≤ 4 := by rw [← TL.len_tl]; exact l
  have hd := allDig_iff.1 d
  unfold valS NumText.digitsVal
  revert hl hd
  generalize TL.tl w = L
  intro hl hd
  match L, hl with
  | [], _ => simp
  | [a], _ => have := hd a (by simp); simp; omega
  | [a, b], _ => have := hd a (by simp); have := hd b (by simp); simp; omega
  | [a, b, c], _ => have := hd a (by simp); have := hd b (by simp); have := hd c (by simp); simp; omega
  | [a, b, c, e], _ => have := hd a (by simp); have := hd b (by simp); have := hd c (by simp); have := hd e (by simp); simp; omega
  | _ :: _ :: _ :: _ :: _ :: _, h => exact absurd h (by simp)
/-! a text with a point behind it -/
theorem ends_dot {x : Str} : Txt.endswith x "." = true ↔ ∃ u : Str, x = u ++ "." := by
  have ed : TL.tl ("." : Str) = [46] := by decide +kernel
  have el : (("." : Str)).length = 1 := by decide +kernel
  unfold Txt.endswith
  rw [el, PySem.StrLaws.subAt_eq, el, show (("." : Str)).cps.toList = [46] from ed, Bool.and_eq_true, decide_eq_true_eq, beq_iff_eq]
  constructor
  · rintro ⟨h1, h2⟩
    refine ⟨⟨((TL.tl x).take (x.length - 1)).toArray⟩, TL.ext_tl ?_⟩
    rw [TL.tl_append, ed]
    have : (TL.tl x) = (TL.tl x).take (x.length - 1) ++ (TL.tl x).drop (x.length - 1) := (List.take_append_drop _ _).symm
    have hl : x.length = x.cps.toList.length := TL.len_tl x
    have h3 : (TL.tl x).drop (x.length - 1) = [46] := by
      rw [← h2, List.take_of_length_le]
      rw [List.length_drop]; omega
    rw [h3] at this
    exact this
  · rintro ⟨u, rfl⟩
    have ea : (u ++ ("." : Str)).cps.toList = u.cps.toList ++ [46] := by
      have := TL.tl_append u "."
      rw [ed] at this
      exact this
    rw [str_len, el, ea]
    have : u.length = u.cps.toList.length := TL.len_tl u
    refine ⟨by omega, ?_⟩
    rw [Nat.add_sub_cancel, this, List.drop_left]; rfl
theorem cut_dot {u : Str} : cutS (u ++ ".") none (some (-1)) = u := by
  have ed : TL.tl ("." : Str) = [46] := by decide +kernel
  have el : (("." : Str)).length = 1 := by decide +kernel
  have h1 := TL.len_tl u
  refine TL.ext_tl ?_
  show (((TL.tl (u ++ ".")).drop _).take _) = _
  rw [TL.tl_append, ed, str_len, el, HT.sIx_none]
  have : HT.sIx (u.length + 1) (u.length + 1) (some (-1)) = u.length := by
    simp only [HT.sIx]
    split <;> omega
  rw [this, Nat.sub_zero, List.drop_zero, h1, List.take_left]
def rwS (w : Str) : Nat → Option Int
  | 0 => if w ∈ wdS then some (wdS.idxOf w : Nat) else none
  | 1 => if Txt.endswith w "." = true then rnS (cutS w none (some (-1))) else none
  | 2 => if w ∈ moS then some ((moS.idxOf w : Nat) + 1) else none
  | _ => rnS w
theorem rw0 {w : Str} {v : Int} : rwS w 0 = some v ↔ (0 ≤ v ∧ v ≤ 6) ∧ w = wdS.getD v.toNat "" := by
  have f1 : ∀ w ∈ wdS, wdS.idxOf w < 7 ∧ wdS.getD (wdS.idxOf w) "" = w := by decide +kernel
  have f2 : ∀ n : Nat, n < 7 → wdS.getD n "" ∈ wdS ∧ wdS.idxOf (wdS.getD n "") = n := by decide +kernel
  simp only [rwS]
  constructor
  · intro h
    split at h
    · rename_i hm
      obtain ⟨a, b⟩ := f1 w hm
      cases h
      exact ⟨by omega, by simpa using b.symm⟩
    · cases h
  · rintro ⟨h, rfl⟩
    obtain ⟨a, b⟩ := f2 v.toNat (by omega)
    rw [if_pos a, b]
    congr 1; omega
theorem rw2 {w : Str} {v : Int} : rwS w 2 = some v ↔ (1 ≤ v ∧ v ≤ 12) ∧ w = moS.getD (v - 1).toNat "" := by
  have f1 : ∀ w ∈ moS, moS.idxOf w < 12 ∧ moS.getD (moS.idxOf w) "" = w := by decide +kernel
  have f2 : ∀ n : Nat, n < 12 → moS.getD n "" ∈ moS ∧ moS.idxOf (moS.getD n "") = n := by decide +kernel
  simp only [rwS]
  constructor
  · intro h
    split at h
    · rename_i hm
      obtain ⟨a, b⟩ := f1 w hm
      cases h
      exact ⟨by omega, by rw [show ((((moS.idxOf w : Nat) : Int) + 1 - 1).toNat) = moS.idxOf w by omega]; exact b.symm⟩
    · cases h
  · rintro ⟨h, rfl⟩
    obtain ⟨a, b⟩ := f2 (v - 1).toNat (by omega)
    rw [if_pos a, b]
    congr 1; omega
theorem rw1 {w : Str} {v : Int} : rwS w 1 = some v ↔ (0 ≤ v ∧ v ≤ 9999) ∧ w = numS v ++ "." := by
  simp only [rwS]
  constructor
  · intro h
    split at h
    · rename_i hm
      obtain ⟨u, rfl⟩ := ends_dot.1 hm
      rw [cut_dot] at h
      obtain ⟨a, b, rfl⟩ := rn_iff.1 h
      exact ⟨⟨a, b⟩, rfl⟩
    · cases h
  · rintro ⟨h, rfl⟩
    rw [if_pos (ends_dot.2 ⟨_, rfl⟩), cut_dot, rn_iff]
    exact ⟨h.1, h.2, rfl⟩
theorem rw3 {w : Str} {v : Int} : rwS w 3 = some v ↔ (0 ≤ v ∧ v ≤ 9999) ∧ w = numS v := by
  show rnS w = some v ↔ _
  rw [rn_iff, and_assoc]
/-- the word of a part -/
def partW : Nat → Option Int → List Str
  | 0 => wW
  | 1 => wDy
  | 2 => wM
  | _ => wY
def PRg : Nat → Int → Prop
  | 0, v => 0 ≤ v ∧ v ≤ 6
  | 2, v => 1 ≤ v ∧ v ≤ 12
  | _, v => 0 ≤ v ∧ v ≤ 9999
theorem rw_iff {w : Str} {v : Int} {k : Nat} (hk : k < 4) : rwS w k = some v ↔ PRg k v ∧ partW k (some v) = [w] := by
  have : k = 0 ∨ k = 1 ∨ k = 2 ∨ k = 3 := by omega
  rcases this with rfl | rfl | rfl | rfl
  · rw [rw0]; simp [PRg, partW, wW, eq_comm]
  · rw [rw1]; simp [PRg, partW, wDy, eq_comm]
  · rw [rw2]; simp [PRg, partW, wM, eq_comm]
  · rw [rw3]; simp [PRg, partW, wY, eq_comm]
theorem rw_cls {w : Str} {v : Int} {k : Nat} (hk : k < 4) (h : rwS w k = some v) : clsT w = k := by
  have : k = 0 ∨ k = 1 ∨ k = 2 ∨ k = 3 := by omega
  rcases this with rfl | rfl | rfl | rfl
  · obtain ⟨a, rfl⟩ := rw0.1 h; exact cls_w a.1 a.2
  · obtain ⟨a, rfl⟩ := rw1.1 h; exact cls_d a.1
  · obtain ⟨a, rfl⟩ := rw2.1 h; exact cls_m a.1 a.2
  · obtain ⟨a, rfl⟩ := rw3.1 h; exact cls_y a.1
/-- one turn of the reading -/
def pst (ws : List Str) (k : Nat) : Option Int × List Str := match ws with
  | [] => (none, [])
  | w :: r => match rwS w k with
    | none => (none, w :: r)
    | some v => (some v, r)
theorem pst_eq {ws : List Str} {k : Nat} (hk : k < 4) : ws = partW k (pst ws k).1 ++ (pst ws k).2 ∧ ∀ v, (pst ws k).1 = some v → PRg k v := by
  have nn : partW k none = [] := by
    have : k = 0 ∨ k = 1 ∨ k = 2 ∨ k = 3 := by omega
    rcases this with rfl | rfl | rfl | rfl <;> rfl
  cases ws with
  | nil => simp [pst, nn]
  | cons w r =>
    cases q : rwS w k with
    | none => simp [pst, q, nn]
    | some v =>
      obtain ⟨a, b⟩ := (rw_iff hk).1 q
      simp [pst, q, b, a]
theorem pst_of {k : Nat} {o : Option Int} {rest : List Str} (hk : k < 4) (ho : ∀ v, o = some v → PRg k v) (hr : ∀ w ∈ rest, k < clsT w) : pst (partW k o ++ rest) k = (o, rest) := by
  have nn : partW k none = [] := by
    have : k = 0 ∨ k = 1 ∨ k = 2 ∨ k = 3 := by omega
    rcases this with rfl | rfl | rfl | rfl <;> rfl
  cases o with
  | none =>
    rw [nn, List.nil_append]
    cases rest with
    | nil => rfl
    | cons w r =>
      have : rwS w k = none := by
        cases q : rwS w k with
        | none => rfl
        | some v =>
          have := rw_cls hk q
          have := hr w (by simp)
          omega
      simp [pst, this]
  | some v =>
    obtain ⟨w, hw⟩ : ∃ w, partW k (some v) = [w] := by
      have : k = 0 ∨ k = 1 ∨ k = 2 ∨ k = 3 := by omega
      rcases this with rfl | rfl | rfl | rfl <;> exact ⟨_, rfl⟩
    have : rwS w k = some v := (rw_iff hk).2 ⟨ho v rfl, hw⟩
    rw [hw]
    simp [pst, this]
def pS (ws : List Str) : Nat → List (Option Int) × List Str
  | 0 => ([], ws)
  | k + 1 => ((pS ws k).1 ++ [(pst (pS ws k).2 k).1], (pst (pS ws k).2 k).2)
theorem pS_len {ws : List Str} : ∀ {k : Nat}, (pS ws k).1.length = k
  | 0 => rfl
  | k + 1 => by simp [pS, pS_len (k := k)]
def hintP (ws : List Str) : Cal.Hint := ⟨(pst ws 0).1, (pst (pst ws 0).2 1).1, (pst (pst (pst ws 0).2 1).2 2).1, (pst (pst (pst (pst ws 0).2 1).2 2).2 3).1⟩
def restP (ws : List Str) : List Str := (pst (pst (pst (pst ws 0).2 1).2 2).2 3).2
theorem pS4 {ws : List Str} : pS ws 4 = ([(hintP ws).w, (hintP ws).d, (hintP ws).m, (hintP ws).y], restP ws) := rfl
theorem parse_words {ws : List Str} : ws = wordsH (hintP ws) ++ restP ws := by
  have a := (pst_eq (ws := ws) (k := 0) (by decide)).1
  have b := (pst_eq (ws := (pst ws 0).2) (k := 1) (by decide)).1
  have c := (pst_eq (ws := (pst (pst ws 0).2 1).2) (k := 2) (by decide)).1
  have d := (pst_eq (ws := (pst (pst (pst ws 0).2 1).2 2).2) (k := 3) (by decide)).1
  unfold wordsH hintP restP
  simp only [List.append_assoc]
  have d' : wY (pst (pst (pst (pst ws 0).2 1).2 2).2 3).1 ++ (pst (pst (pst (pst ws 0).2 1).2 2).2 3).2 = (pst (pst (pst ws 0).2 1).2 2).2 := d.symm
  have c' : wM (pst (pst (pst ws 0).2 1).2 2).1 ++ (pst (pst (pst ws 0).2 1).2 2).2 = (pst (pst ws 0).2 1).2 := c.symm
  have b' : wDy (pst (pst ws 0).2 1).1 ++ (pst (pst ws 0).2 1).2 = (pst ws 0).2 := b.symm
  rw [d', c', b']
  exact a
/-- is_hint of a tuple of four parts -/
def partB (o : Option Int) (lo hi : Int) : Bool := match o with
  | none => true
  | some v => decide (lo ≤ v) && decide (v ≤ hi)
def htB (h : Cal.Hint) : Bool := !(h.w.isNone && (h.d.isNone && (h.m.isNone && h.y.isNone))) && (partB h.w 0 6 && (partB h.d 1 31 && (partB h.m 1 12 && partB h.y 1 9999)))
theorem htB_iff {h : Cal.Hint} : htB h = true ↔ HTx h := by
  obtain ⟨w, d, m, y⟩ := h
  unfold htB
  constructor
  · intro q
    simp only [Bool.and_eq_true] at q
    obtain ⟨q0, q1, q2, q3, q4⟩ := q
    refine ⟨⟨fun v e => ?_, fun v e => ?_, fun v e => ?_⟩, fun v e => ?_, fun z => ?_⟩
    · simp only at e; subst e; simpa [partB] using q1
    · simp only at e; subst e; simpa [partB] using q2
    · simp only at e; subst e; simpa [partB] using q3
    · simp only at e; subst e; simpa [partB] using q4
    · obtain ⟨z1, z2, z3, z4⟩ := z
      simp only at z1 z2 z3 z4
      subst z1; subst z2; subst z3; subst z4
      cases q0
  · rintro ⟨⟨o1, o2, o3⟩, o4, any⟩
    have a1 : partB w 0 6 = true := by cases w with | none => rfl | some v => have := o1 v rfl; simp [partB]; omega
    have a2 : partB d 1 31 = true := by cases d with | none => rfl | some v => have := o2 v rfl; simp [partB]; omega
    have a3 : partB m 1 12 = true := by cases m with | none => rfl | some v => have := o3 v rfl; simp [partB]; omega
    have a4 : partB y 1 9999 = true := by cases y with | none => rfl | some v => have := o4 v rfl; simp [partB]; omega
    rw [a1, a2, a3, a4]
    cases w <;> cases d <;> cases m <;> cases y <;> simp at any ⊢
def readS (x : Str) : Option Cal.Hint := if (restP (Txt.split x " ")).isEmpty && htB (hintP (Txt.split x " ")) then some (hintP (Txt.split x " ")) else none
theorem read_some {x : Str} {h : Cal.Hint} (e : readS x = some h) : HTx h ∧ textH h = x := by
  unfold readS at e
  split at e
  · rename_i q
    rw [Bool.and_eq_true, List.isEmpty_iff] at q
    cases e
    refine ⟨htB_iff.1 q.2, ?_⟩
    have := parse_words (ws := Txt.split x " ")
    rw [q.1, List.append_nil] at this
    unfold textH
    rw [← this, TL.join_eq, PySem.StrLaws.join_split]
  · cases e
theorem read_text {h : Cal.Hint} (H : HTx h) : readS (textH h) = some h := by
  have sp := text_split H
  have cls := cls_parts H
  obtain ⟨⟨o1, o2, o3⟩, oy, _⟩ := id H
  have c4 : ∀ w ∈ wY h.y, 2 < clsT w := fun w hw => by
    rw [← cls.2.2.2] at hw
    have := (List.mem_filter.1 hw).2; simp at this; omega
  have c3 : ∀ w ∈ wM h.m ++ wY h.y, 1 < clsT w := fun w hw => by
    rcases List.mem_append.1 hw with hw | hw
    · rw [← cls.2.2.1] at hw
      have := (List.mem_filter.1 hw).2; simp at this; omega
    · have := c4 w hw; omega
  have c2 : ∀ w ∈ wDy h.d ++ (wM h.m ++ wY h.y), 0 < clsT w := fun w hw => by
    rcases List.mem_append.1 hw with hw | hw
    · rw [← cls.2.1] at hw
      have := (List.mem_filter.1 hw).2; simp at this; omega
    · have := c3 w hw; omega
  have e : wordsH h = partW 0 h.w ++ (partW 1 h.d ++ (partW 2 h.m ++ (partW 3 h.y ++ []))) := by
    simp [wordsH, partW]
  have p0 : pst (wordsH h) 0 = (h.w, partW 1 h.d ++ (partW 2 h.m ++ (partW 3 h.y ++ []))) := by
    rw [e]; exact pst_of (by decide) (fun v q => o1 v q) (by simpa [partW] using c2)
  have p1 : pst (partW 1 h.d ++ (partW 2 h.m ++ (partW 3 h.y ++ []))) 1 = (h.d, partW 2 h.m ++ (partW 3 h.y ++ [])) := pst_of (by decide) (fun v q => by have := o2 v q; show 0 ≤ v ∧ v ≤ 9999; omega) (by simpa [partW] using c3)
  have p2 : pst (partW 2 h.m ++ (partW 3 h.y ++ [])) 2 = (h.m, partW 3 h.y ++ []) := pst_of (by decide) (fun v q => o3 v q) (by simpa [partW] using c4)
  have p3 : pst (partW 3 h.y ++ []) 3 = (h.y, []) := pst_of (by decide) (fun v q => by have := oy v q; show 0 ≤ v ∧ v ≤ 9999; omega) (by simp)
  have hp : hintP (wordsH h) = h := by
    unfold hintP
    rw [p0]; simp only [p1, p2, p3]
  have rp : restP (wordsH h) = [] := by
    unfold restP
    rw [p0]; simp only [p1, p2, p3]
  unfold readS
  rw [sp, rp, hp, htB_iff.2 H]; rfl
theorem joinL_mem {S : List Nat} : ∀ {parts : List (List Nat)} {q : List Nat}, q ∈ parts → q.length ≤ (TL.joinL S parts).length ∧ ∀ c ∈ q, c ∈ TL.joinL S parts
  | [], _, h => by cases h
  | [p], q, h => by
    rw [List.mem_singleton] at h
    subst h
    exact ⟨Nat.le_refl _, fun c hc => hc⟩
  | p :: r :: t, q, h => by
    show q.length ≤ (p ++ (S ++ TL.joinL S (r :: t))).length ∧ ∀ c ∈ q, c ∈ p ++ (S ++ TL.joinL S (r :: t))
    rcases List.mem_cons.1 h with rfl | h
    · exact ⟨by simp, fun c hc => by simp [hc]⟩
    · obtain ⟨a, b⟩ := joinL_mem (S := S) h
      exact ⟨by simp only [List.length_append]; omega, fun c hc => by simp only [List.mem_append]; exact .inr (.inr (b c hc))⟩
theorem split_mem {x y : Str} {q : Str} (h : q ∈ Txt.split x y) : q.length ≤ x.length ∧ (PyData.strOk x = true → PyData.strOk q = true) := by
  have e : TL.tl x = TL.joinL (TL.tl y) ((Txt.split x y).map TL.tl) := by
    have := TL.tl_join y (Txt.split x y)
    rw [PySem.StrLaws.join_split] at this
    exact this
  obtain ⟨a, b⟩ := joinL_mem (S := TL.tl y) (List.mem_map.2 ⟨q, h, rfl⟩)
  rw [← e] at a b
  refine ⟨by rw [TL.len_tl, TL.len_tl]; exact a, fun z => ?_⟩
  unfold PyData.strOk at z ⊢
  rw [← Array.all_toList] at z ⊢
  exact List.all_eq_true.2 fun c hc => List.all_eq_true.1 z c (b c hc)
def oHD : Option Cal.Hint → D
  | none => .none
  | some h => hintD h
/-! ### is_hint, of any value -/
def intIn (x : D) (lo hi : Int) : Bool := match x with
  | .int i => decide (lo ≤ i) && decide (i ≤ hi)
  | _ => false
def pB (x : D) (lo hi : Int) : Bool := isNone x || intIn x lo hi
def isHintD (x : D) : Bool := match x with
  | .tuple [a, b, c, e] => !(isNone a && (isNone b && (isNone c && isNone e))) && (pB a 0 6 && (pB b 1 31 && (pB c 1 12 && pB e 1 9999)))
  | _ => false
theorem pB_oD {o : Option Int} {lo hi : Int} : pB (oD o) lo hi = partB o lo hi := by cases o <;> rfl
theorem isHint_hintD {h : Cal.Hint} : isHintD (hintD h) = htB h := by
  obtain ⟨w, d, m, y⟩ := h
  show (!(isNone (oD w) && (isNone (oD d) && (isNone (oD m) && isNone (oD y)))) && (pB (oD w) 0 6 && (pB (oD d) 1 31 && (pB (oD m) 1 12 && pB (oD y) 1 9999)))) = _
  simp only [pB_oD, isNone_oD]
  rfl
theorem eqv_isN {x : D} : PyData.eqv x .none = isNone x := by cases x <;> simp [PyData.eqv, isNone]
theorem eqv_non4 {a b c e : D} : PyData.eqv (.tuple [a, b, c, e]) (.tuple [.none, .none, .none, .none]) = (isNone a && (isNone b && (isNone c && isNone e))) := by
  simp [PyData.eqv, PyData.eqvAll, eqv_isN]
/-- what read_hint tells of any value -/
def readD (x : D) : D := match x with
  | .str y => oHD (readS y)
  | _ => .none
theorem joinL_chars {S : List Nat} {c : Nat} : ∀ {parts : List (List Nat)}, c ∈ TL.joinL S parts → c ∈ S ∨ ∃ q ∈ parts, c ∈ q
  | [], h => by cases h
  | [p], h => .inr ⟨p, by simp, h⟩
  | p :: r :: t, h => by
    have h : c ∈ p ++ (S ++ TL.joinL S (r :: t)) := h
    simp only [List.mem_append] at h
    rcases h with h | h | h
    · exact .inr ⟨p, by simp, h⟩
    · exact .inl h
    · rcases joinL_chars h with h | ⟨q, hq, h⟩
      · exact .inl h
      · exact .inr ⟨q, List.mem_cons_of_mem _ hq, h⟩
theorem word_chars {h : Cal.Hint} (H : HTx h) : ∀ w ∈ wordsH h, ∀ c ∈ TL.tl w, c < 128 := by
  obtain ⟨hw, hd, hm, hy⟩ := h
  obtain ⟨⟨o1, o2, o3⟩, o4, _⟩ := H
  have num : ∀ v : Int, 0 ≤ v → ∀ c ∈ TL.tl (numS v), c < 128 := fun v hv c hc => by
    rw [tl_numS hv] at hc
    have := TL.numL_digits _ c hc
    omega
  have f : ∀ x ∈ wdS ++ moS, ∀ c ∈ TL.tl x, c < 128 := by decide +kernel
  intro w hmem
  unfold wordsH at hmem
  simp only [List.mem_append] at hmem
  rcases hmem with ((z | z) | z) | z
  · cases hw with
    | none => cases z
    | some v => cases z with
      | head => exact f _ (List.mem_append_left _ (by rcases w7 (o1 v rfl).1 (o1 v rfl).2 with rfl | rfl | rfl | rfl | rfl | rfl | rfl <;> decide +kernel))
      | tail _ z => cases z
  · cases hd with
    | none => cases z
    | some v => cases z with
      | head =>
        intro c hc
        have e : TL.tl ("." : Str) = [46] := by decide +kernel
        rw [TL.tl_append, e, List.mem_append] at hc
        rcases hc with hc | hc
        · exact num v (by have := o2 v rfl; omega) c hc
        · simp at hc; omega
      | tail _ z => cases z
  · cases hm with
    | none => cases z
    | some v => cases z with
      | head => exact f _ (List.mem_append_right _ (by rcases Cal.m12 (o3 v rfl).1 (o3 v rfl).2 with rfl | rfl | rfl | rfl | rfl | rfl | rfl | rfl | rfl | rfl | rfl | rfl <;> decide +kernel))
      | tail _ z => cases z
  · cases hy with
    | none => cases z
    | some v => cases z with
      | head => exact num v (by have := o4 v rfl; omega)
      | tail _ z => cases z
theorem text_chars {h : Cal.Hint} (H : HTx h) : ∀ c ∈ TL.tl (textH h), c < 128 := by
  intro c hc
  unfold textH at hc
  rw [TL.join_eq, TL.tl_join] at hc
  rcases joinL_chars hc with z | ⟨q, hq, z⟩
  · have e : TL.tl (" " : Str) = [32] := by decide +kernel
    rw [e] at z; simp at z; omega
  · obtain ⟨w, hw, rfl⟩ := List.mem_map.1 hq
    exact word_chars H w hw c z
theorem strOk_of {x : Str} (h : ∀ c ∈ TL.tl x, c < 128) : PyData.strOk x = true := by
  unfold PyData.strOk
  rw [← Array.all_toList]
  exact List.all_eq_true.2 fun c hc => by have := h c hc; simp; omega
theorem text_ok {h : Cal.Hint} (H : HTx h) : PyData.strOk (textH h) = true := strOk_of (text_chars H)
theorem HDr_tx {h : Cal.Hint} {y : Int} (H : Cal.HDr y h) (y0 : 1000 ≤ y) (y1 : y ≤ 9000) : HTx h := ⟨H.ok, fun v e => by have := H.yr v e; omega, H.any⟩
end DL

namespace DL
open PySem PySem.Spec PyProof.Rows L2 RZ
/-! ### list comprehensions over an open range -/
section
variable {X : Cx} {elt tg iter : Expr} {ifs : List Expr} {scope : Scope} {own : List (Str × Nat)} {pos : Pos} {env : List Sl}
theorem lc_readO {Ψ : List D → Prop} (I : List D → Nat → List D → Prop) (vs : List Nat) (hz : ∀ its, Ψ its → its.length ≤ 10000000) (h0 : ∀ its, Ψ its → I its 0 [])
    (hs : ∀ its, Ψ its → ∀ k d ys, its[k]? = some d → I its k ys → ∃ env'' is b Φ, LcOk X scope tg ifs elt env vs d env'' is b Φ ∧ (b = false → I its (k + 1) ys) ∧ (b = true → ∀ y, Φ y → I its (k + 1) (ys ++ [y]))) {σ : L2.St} {H : Hp} {Q : VK}
    (h : rdX X.K env (fun s => ∃ ys its, s = .own ys ∧ Ψ its ∧ I its its.length ys) σ H Q) :
    tLc (rdIo X.K env Ψ) (lcG X.K (Ok := LcOk X scope tg ifs elt env vs) (env := env) (vs := vs)) (lcT X.K (Ok := LcOk X scope tg ifs elt env vs)) (lcE X.K (Ok := LcOk X scope tg ifs elt env vs)) vs σ H Q := by
  obtain ⟨B, G, T, F, S, q⟩ := h
  refine ⟨B, G, T, F, S, fun J F1 H1 items S1 g1 wk ψ => ?_⟩
  have hz := hz items ψ
  have h0 := h0 items ψ
  have hs := hs items ψ
  intro Dd hD
  obtain ⟨S1', g1'⟩ := S1.layOwn hD .nil
  have l1 : env.length = σ.length := S.len
  refine ⟨fun i m Hc => m = items.length - i ∧ i ≤ items.length ∧ ∃ Fc ys, StR X.K B G T Fc (env ++ [.own ys]) (σ ++ [some (.ref Dd)]) Hc ∧ Gr T F1 H1 Fc Hc ∧ I items i ys ∧ ys.length ≤ i,
    ⟨items.length, by simp, Nat.zero_le _, F1, [], S1', g1', h0, Nat.le_refl _⟩, ?_⟩
  rintro i m Hc ⟨rfl, hi, Fc, ys, Sc, gc, hI, hy⟩
  have exF : Ex F1 Hc := gc.ff.trans gc.fh
  by_cases hlt : i < items.length
  · refine .inr ⟨wk.go i Hc hlt exF, fun Hn => ∃ Fn ys', StR X.K B G T Fn (env ++ [.own ys']) (σ ++ [some (.ref Dd)]) Hn ∧ Gr T F1 H1 Fn Hn ∧ I items (i + 1) ys' ∧ ys'.length ≤ i + 1, fun Hn ⟨Fn, ys', a1, a2, a3, a4⟩ => ⟨items.length - (i + 1), by omega, rfl, hlt, Fn, ys', a1, a2, a3, a4⟩, fun x H2 y => ?_⟩
    obtain ⟨d, F2, ed, dn, x1, x2, x3, x4⟩ := wk.yld i Fc Hc x H2 hlt gc.ff gc.fh y
    obtain ⟨g2, Sc2⟩ := Gr.of_call Sc x1 x2 x3 x4
    obtain ⟨env'', is, b, Φ, ok, kf, kt⟩ := hs i d ys ed hI
    have S2 := (Sc2.drop l1).wipe vs
    refine ⟨⟨d, env'', is, b, Φ, ok⟩, B, G, T, F2, S2, dn, fun σ3 S3 l3 k3 => ?_⟩
    refine ⟨wipe_same l3 fun k hk => k3 k fun hm => hk (ok.sub k hm), ⟨d, env'', is, b, Φ, ok⟩, B, G, T, F2, S3, fun v F3 H3 S4 g3 e => ?_⟩
    subst e
    have Sc3 := Sc2.grow g3 S4.tp
    have gc3 := (gc.trans g2 Sc.tpn).trans g3 Sc2.tpn
    show if v = true then _ else _
    cases v with
    | false => exact iteF ⟨F3, ys, Sc3, gc3, kf rfl, Nat.le_succ_of_le hy⟩
    | true =>
      refine iteT ⟨⟨⟨d, env'', is, true, Φ, ok⟩, rfl⟩, B, G, T, F3, S4, fun w z F4 H4 S5 g4 dz φ => ?_⟩
      have Sc4 := Sc3.grow g4 S5.tp
      have gc4 := gc3.trans g4 Sc3.tpn
      have hown : (env ++ [Sl.own ys])[env.length]? = some (.own ys) := by rw [List.getElem?_append_right (Nat.le_refl _)]; simp
      have hval : (σ ++ [some (V.ref Dd)])[env.length]? = some (some (.ref Dd)) := by rw [l1, List.getElem?_append_right (Nat.le_refl _)]; simp
      obtain ⟨o, eo, p, us, e2, b1, f1, np, hp, da⟩ := Sc4.some_at hown
      rw [hval] at eo
      cases eo
      injection e2 with e2
      injection e2 with e2
      subst e2
      refine ⟨us, hp, Nat.lt_of_le_of_lt (Nat.le_trans (Nat.le_of_eq da.length) (Nat.le_trans hy hi)) (Nat.lt_of_le_of_lt hz (by decide)), F4, ys ++ [z], ?_, ⟨gc4.ff, ex_updH gc4.fh f1, fun a o h n => ?_, gc4.nw⟩, kt rfl z φ, by simp; omega⟩
      · have q1 := Sc4.upd_own hown hval (da.append (.cons dz .nil))
        have e3 : (env ++ [Sl.own ys]).set env.length (Sl.own (ys ++ [z])) = env ++ [Sl.own (ys ++ [z])] := by
          rw [List.set_append_right _ _ (Nat.le_refl _)]; simp
        rw [e3] at q1
        exact q1
      · rw [upd_ne (ne_of_none h hD)]; exact gc4.hh a o h n
  · have e : i = items.length := by omega
    subst e
    refine .inl ⟨wk.stop Hc exF, q _ _ Fc Hc Sc (g1.trans gc S1.tpn) (fun _ p e => ?_) ⟨ys, items, rfl, ψ, hI⟩⟩
    injection e with e
    subst e
    cases z : H Dd with
    | none => rfl
    | some o =>
      by_cases np : ∀ t, T = some t → Dd ≠ t.p
      · rw [g1.hh Dd o z np] at hD; cases hD
      · simp only [Classical.not_forall] at np
        obtain ⟨t, e, np⟩ := np
        exact absurd (by rw [← Classical.not_not.mp np]; exact hD) (S1.tpn t e)
/-- y = [..] over an open range -/
theorem sds_lcO {Ψ : List D → Prop} {Φ : Out} {rest : List Stmt} {y : Str} {py spos : Pos} (i : Nat) (own : List (Str × Nat)) (I : List D → Nat → List D → Prop) (hc : X.calm = true) (hi : IRo X tg iter env Ψ) (hz : ∀ its, Ψ its → its.length ≤ 10000000) (h0 : ∀ its, Ψ its → I its 0 [])
    (hs : ∀ its, Ψ its → ∀ k d ys, its[k]? = some d → I its k ys → ∃ env'' is b Φ, LcOk X scope tg ifs elt env (own.map (·.2)) d env'' is b Φ ∧ (b = false → I its (k + 1) ys) ∧ (b = true → ∀ y, Φ y → I its (k + 1) (ys ++ [y])))
    (hr : ∀ ys, (∃ its, Ψ its ∧ I its its.length ys) → SDs X rest (env.set i (.own ys)) Φ)
    (ok : BlkOk X.N X.env.scope scope own := by exact blkOk_by (by kernel_rfl)) (hN : X.N.Nodup := by assumption) (hy : X.N[i]? = some y := by rfl) (hyl : X.env.scope.names.lookup y = some .local := by rfl)
    (hsw : swapsWith (.ListComp elt [⟨tg, iter, ifs, 0⟩] scope pos) (some (.Name y py)) spos.line X.env = pure true := by exact sw_true rfl rfl rfl (by kernel_rfl)) (hf : ∀ x, foldedSetIterable iter X.env x = pure x := by intro _; rfl) : SDs X (.Assign [.Name y py] (.ListComp elt [⟨tg, iter, ifs, 0⟩] scope pos) spos :: rest) env Φ :=
  PSs.imp (pss_cons (ps_setLc hc hN hy hyl hsw hi ok lcG_ok lcT_ok lcE_ok hf) (PSs.ex fun d : {d : List D // ∃ its, Ψ its ∧ I its its.length d} => hr d.1 d.2)) fun E σ H ⟨B, G, T, F, S, n⟩ =>
    by
      unfold tSeq tAsg
      refine lc_readO I _ hz h0 hs ⟨B, G, T, F, S, fun v s F1 H1 S1 g1 fr ⟨ys, its, e1, e2⟩ => ?_⟩
      subst e1
      exact ⟨⟨ys, its, e2⟩, B, G, T, F1, S1.put S.len i, n⟩
end
/-! ### the text of a span -/
def sepS : Str := " - "
def spanT (g h : Cal.Hint) : Str := textH g ++ sepS ++ textH h
theorem tl_sep : TL.tl sepS = [32, 45, 32] := by decide +kernel
theorem text_no45 {h : Cal.Hint} (H : HTx h) : 45 ∉ TL.tl (textH h) := by
  intro hc
  unfold textH at hc
  rw [TL.join_eq, TL.tl_join] at hc
  have num : ∀ v : Int, 0 ≤ v → 45 ∉ TL.tl (numS v) := fun v hv => by rw [tl_numS hv]; exact TL.numL_free (.inl (by decide))
  have f : ∀ x ∈ wdS ++ moS, 45 ∉ TL.tl x := by decide +kernel
  rcases joinL_chars hc with z | ⟨q, hq, z⟩
  · have e : TL.tl (" " : Str) = [32] := by decide +kernel
    rw [e] at z; simp at z
  · obtain ⟨w, hw, rfl⟩ := List.mem_map.1 hq
    obtain ⟨pw, pd, pm, py⟩ := h
    obtain ⟨⟨o1, o2, o3⟩, o4, _⟩ := H
    unfold wordsH at hw
    simp only [List.mem_append] at hw
    rcases hw with ((u | u) | u) | u
    · cases pw with
      | none => cases u
      | some v => cases u with
        | head => exact f _ (List.mem_append_left _ (by rcases w7 (o1 v rfl).1 (o1 v rfl).2 with rfl | rfl | rfl | rfl | rfl | rfl | rfl <;> decide +kernel)) z
        | tail _ u => cases u
    · cases pd with
      | none => cases u
      | some v => cases u with
        | head =>
          have e : TL.tl ("." : Str) = [46] := by decide +kernel
          rw [TL.tl_append, e, List.mem_append] at z
          rcases z with z | z
          · exact num v (by have := o2 v rfl; omega) z
          · simp at z
        | tail _ u => cases u
    · cases pm with
      | none => cases u
      | some v => cases u with
        | head => exact f _ (List.mem_append_right _ (by rcases Cal.m12 (o3 v rfl).1 (o3 v rfl).2 with rfl | rfl | rfl | rfl | rfl | rfl | rfl | rfl | rfl | rfl | rfl | rfl <;> decide +kernel)) z
        | tail _ u => cases u
    · cases py with
      | none => cases u
      | some v => cases u with
        | head => exact num v (by have := o4 v rfl; omega) z
        | tail _ u => cases u
theorem pre_sep {L : List Nat} (h : TL.pre [32, 45, 32] L = true) : L[0]? = some 32 ∧ L[1]? = some 45 := by
  unfold TL.pre at h
  have h := eq_of_beq h
  match L, h with
  | [], h => cases h
  | [_], h => cases h
  | [_, _], h => cases h
  | a :: b :: c :: r, h =>
    simp at h
    obtain ⟨rfl, rfl, _⟩ := h
    exact ⟨rfl, rfl⟩
theorem no_sep1 {A B : List Nat} (hA : 45 ∉ A) : ∀ i, i < A.length → TL.pre [32, 45, 32] ((A ++ ([32, 45, 32] ++ B)).drop i) = false := by
  intro i hi
  cases q : TL.pre [32, 45, 32] ((A ++ ([32, 45, 32] ++ B)).drop i) with
  | false => rfl
  | true =>
    have e := (pre_sep q).2
    rw [List.getElem?_drop] at e
    rcases Nat.lt_or_ge (i + 1) A.length with z | z
    · rw [List.getElem?_append_left z] at e
      exact absurd (List.mem_of_getElem? e) hA
    · have : i + 1 = A.length := by omega
      rw [this, List.getElem?_append_right (Nat.le_refl _), Nat.sub_self] at e
      simp at e
theorem no_sep2 {A : List Nat} (hA : 45 ∉ A) : ∀ i, i < A.length → TL.pre [32, 45, 32] (A.drop i) = false := by
  intro i hi
  cases q : TL.pre [32, 45, 32] (A.drop i) with
  | false => rfl
  | true =>
    have e := (pre_sep q).2
    rw [List.getElem?_drop] at e
    exact absurd (List.mem_of_getElem? e) hA
theorem span_split {a b : Str} (ha : 45 ∉ TL.tl a) (hb : 45 ∉ TL.tl b) : Txt.split (a ++ sepS ++ b) sepS = [a, b] := by
  refine TL.map_tl_inj ?_
  rw [TL.split_spl _ sepS (by rw [tl_sep]; simp) (TL.kind_ok (by decide +kernel)), TL.tl_append, TL.tl_append, tl_sep, List.append_assoc, TL.spl_part (by simp) (no_sep1 ha), TL.spl_last (no_sep2 hb)]
  rfl
theorem span_part {a b : Str} (ha : 45 ∉ TL.tl a) : Txt.partition (a ++ sepS ++ b) sepS = (a, sepS, b) := by
  rw [TL.partition_par _ sepS (by rw [tl_sep]; simp), TL.tl_append, TL.tl_append, tl_sep, List.append_assoc, TL.par_part (by simp) (no_sep1 ha)]
  show ((⟨([] ++ TL.tl a).toArray⟩ : Str), sepS, (⟨(TL.tl b).toArray⟩ : Str)) = _
  rw [List.nil_append, TL.mk_tl, TL.mk_tl]
theorem span_count {a b : Str} (ha : 45 ∉ TL.tl a) (hb : 45 ∉ TL.tl b) : Txt.count (a ++ sepS ++ b) sepS = 1 := by
  have sp := span_split ha hb
  have hl : sepS.length = 3 := by decide +kernel
  have hn : ¬ (a ++ sepS ++ b).length < sepS.length := by rw [str_len, str_len]; omega
  have hk : ¬ Builtin.Str.strKind (a ++ sepS ++ b) < Builtin.Str.strKind sepS := TL.kind_ok (by decide +kernel)
  unfold Txt.count
  unfold Txt.split at sp
  rw [if_neg (by simp [hn, hk])] at sp
  split at sp
  · exact absurd (congrArg List.length sp) (by simp)
  · have := congrArg List.length sp
    rw [length_partsBetween] at this
    simp at this
    omega
def bothO (o p : Option Cal.Hint) : Option (Cal.Hint × Cal.Hint) := match o, p with
  | some g, some h => some (g, h)
  | _, _ => none
def readSp (y : Str) : Option (Cal.Hint × Cal.Hint) := if Txt.count y sepS = 1 then bothO (readS (Txt.partition y sepS).1) (readS (Txt.partition y sepS).2.2) else none
theorem readSp_text {g h : Cal.Hint} (G : HTx g) (H : HTx h) : readSp (spanT g h) = some (g, h) := by
  unfold readSp spanT
  rw [span_count (text_no45 G) (text_no45 H), if_pos rfl, span_part (text_no45 G)]
  simp only [read_text G, read_text H]
  rfl
theorem readSp_some {y : Str} {g h : Cal.Hint} (e : readSp y = some (g, h)) : HTx g ∧ HTx h ∧ spanT g h = y := by
  unfold readSp at e
  split at e
  · cases e1 : readS (Txt.partition y sepS).1 with
    | none => rw [e1] at e; cases e
    | some g' =>
     cases e2 : readS (Txt.partition y sepS).2.2 with
     | none => rw [e1, e2] at e; cases e
     | some h' =>
      rw [e1, e2] at e
      cases e
      obtain ⟨a1, a2⟩ := read_some e1
      obtain ⟨b1, b2⟩ := read_some e2
      refine ⟨a1, b1, ?_⟩
      unfold spanT
      rcases PyProof.Rows.partition_whole y sepS with ⟨q, hn⟩ | ⟨i, q, hi, hn⟩
      · rw [q] at b2
        have : wordsH h = Txt.split "" " " := by rw [← text_split b1, b2]; rfl
        have w := (word_free b1)
        rw [this] at w
        have e0 : Txt.split ("" : Str) " " = [("" : Str)] := by decide +kernel
        rw [e0] at w
        exact absurd (by decide +kernel) (w "" (by simp)).2
      · rw [q] at a2 b2
        rw [a2, b2]
        have h2 := hi.2
        rw [PySem.StrLaws.subAt_eq] at h2
        have h2 := eq_of_beq h2
        refine TL.ext_tl ?_
        rw [TL.tl_append, TL.tl_append, TL.tl_strSub, TL.tl_strSub_end, List.drop_zero, Nat.sub_zero]
        have e3 : sepS.length = (TL.tl sepS).length := TL.len_tl _
        have : TL.tl sepS = ((TL.tl y).drop i).take sepS.length := h2.symm
        rw [this, List.append_assoc, ← List.drop_drop, List.take_append_drop, List.take_append_drop]
  · cases e
end DL

namespace DL
open PySem PySem.Spec PyProof.Rows L2 RZ
/-! ### in, of data of any depth -/
section
variable {X : Cx}
def rInDT (K : PySem.W.Frag) : R2 := fun x y H Q => ∃ d ds, Dp K H x d ∧ Dp K H y (.tuple ds) ∧ SeqAt.shaped d = true ∧ SeqAt.shaped (.tuple ds) = true ∧ Q (.bl (ds.any fun z => PyData.eqv z d)) H
theorem op_inDT (hu : X.A.units + 65 < cLine) : OpR X (compareOp .In) (rInDT X.K) := by
  intro pins s σ H x y v u Q I rx ry h
  obtain ⟨d, ds, hd, he, sd, se, q⟩ := h
  obtain ⟨as, r1⟩ := Dp.reads I d x v hd rx
  obtain ⟨bs, r2⟩ := Dp.reads I (.tuple ds) y u he ry
  exact SeqAt.in_tuple_reads r2 r1 (SeqAt.canLay_of_shaped se) (SeqAt.canLay_of_shaped sd) (room_in_shaped sd hu) ⟨.bl _, H, I, rfl, q⟩
theorem o_inDT {x : D} {ys : List D} {n m : Nat} (hu : X.A.units + 65 < cLine) (h1 : lk n x = true) (h2 : lk m (.tuple ys) = true) (hn : n ≤ 64 := by decide) (hm : m ≤ 64 := by decide) : OpD X (compareOp .In) x (.tuple ys) (fun d => d = .bool (ys.any fun y => PyData.eqv y x)) :=
  ⟨_, op_inDT hu, fun B G T F env σ H v u Q S hv hu' q => ⟨x, ys, (hv.mono S.fh).dp (lk_nd h1), (hu'.mono S.fh).dp (lk_nd h2), lk_sh h1 hn, lk_sh h2 hm, q _ _ F H S (Gr.refl S.fh) (.bl _) rfl⟩⟩
theorem o_inD {x : D} {ys : List D} {n m : Nat} (hu : X.A.units + 65 < cLine) (h1 : lk n x = true) (h2 : lk m (.list ys) = true) (hn : n ≤ 64 := by decide) (hm : m ≤ 64 := by decide) : OpD X (compareOp .In) x (.list ys) (fun d => d = .bool (ys.any fun y => PyData.eqv y x)) :=
  ⟨_, op_inD hu, fun B G T F env σ H v u Q S hv hu' q => ⟨x, ys, (hv.mono S.fh).dp (lk_nd h1), (hu'.mono S.fh).dp (lk_nd h2), lk_sh h1 hn, lk_sh h2 hm, q _ _ F H S (Gr.refl S.fh) (.bl _) rfl⟩⟩
theorem o_notInD {x : D} {ys : List D} {n m : Nat} (hu : X.A.units + 65 < cLine) (h1 : lk n x = true) (h2 : lk m (.list ys) = true) (hn : n ≤ 64 := by decide) (hm : m ≤ 64 := by decide) : OpD X (compareOp .NotIn) x (.list ys) (fun d => d = .bool (!ys.any fun y => PyData.eqv y x)) :=
  ⟨_, op_notInD hu, fun B G T F env σ H v u Q S hv hu' q => ⟨x, ys, (hv.mono S.fh).dp (lk_nd h1), (hu'.mono S.fh).dp (lk_nd h2), lk_sh h1 hn, lk_sh h2 hm, q _ _ F H S (Gr.refl S.fh) (.bl _) rfl⟩⟩
theorem room65 {k : Nat} {A : Around} (r : Room k A) : A.units + 65 < cLine := by have := r.un; omega
theorem lk_oHD {o : Option Cal.Hint} : lk 4 (oHD o) = true := by cases o with | none => rfl | some h => exact lk_hint
theorem isNone_oHD {o : Option Cal.Hint} : isNone (oHD o) = o.isNone := by cases o <;> rfl
end
end DL

namespace DL
open PySem PySem.Spec PyProof.Rows L2 RZ
/-! ### [e for a in xs for b in ys] -/
theorem PI.ex {X : Cx} {tg iter : Expr} {ι : Type} {t : ι → TI} (h : ∀ i, L2.PI X tg iter (t i)) : L2.PI X tg iter (fun σ H R => ∃ i, t i σ H R) := ⟨fun pins s σ H R I ⟨i, q⟩ => (h i).run pins s σ H R I q⟩
section
variable {X : Cx} {elt tg iter tg1 iter1 : Expr} {scope : Scope} {own : List (Str × Nat)} {pos : Pos} {env : List Sl} {items : List D} {vs vs1 : List Nat}
structure LcA (X : Cx) (scope : Scope) (tg tg1 iter1 : Expr) (env : List Sl) (vs : List Nat) where
  d : D
  env1 : List Sl
  is : List Nat
  items : List D
  sub : ∀ i ∈ is, i ∈ vs
  no : ∀ s ∈ env1, s.owned = false
  tgt : ∀ (s : Shared) (H : Hp) (C : Addr) (cl : List (Str × Addr)) (fp : List Addr), GR (X.blk s H scope (compEnvC scope cl C X.env) fp) tg (wipeE env vs) d env1 is
  it : ∀ (s : Shared) (H : Hp) (C : Addr) (cl : List (Str × Addr)) (fp : List Addr), IR (X.blk s H scope (compEnvC scope cl C X.env) fp) tg1 iter1 env1 items
structure LcB (X : Cx) (scope : Scope) (tg1 elt : Expr) (vs1 : List Nat) where
  env1 : List Sl
  e : D
  env2 : List Sl
  is : List Nat
  v : D
  sub : ∀ i ∈ is, i ∈ vs1
  tgt : ∀ (s : Shared) (H : Hp) (C : Addr) (cl : List (Str × Addr)) (fp : List Addr), GR (X.blk s H scope (compEnvC scope cl C X.env) fp) tg1 (wipeE env1 vs1) e env2 is
  elm : ∀ (s : Shared) (H : Hp) (C : Addr) (cl : List (Str × Addr)) (fp : List Addr), ED (X.blk s H scope (compEnvC scope cl C X.env) fp) elt env2 v
/-- data slots stand in any later heap -/
theorem StR.flat {K : Fg} {B G F H F' H' : Hp} {T : Option TP} {env env' : List Sl} {σ σ' : L2.St} (S : StR K B G T F env σ H) (no : ∀ s ∈ env, s.owned = false) (S' : StR K B G T F' env' σ' H') (e : Ex F F') : StR K B G T F' env σ H' where
  gf := S'.gf
  fh := S'.fh
  bh := S'.bh
  nf := S'.nf
  len := S.len
  sl := fun i s o e1 e2 => by
    have h := S.sl i s o e1 e2
    have hn := no s (List.mem_of_getElem? e1)
    cases s with
    | un => trivial
    | dt x => obtain ⟨v, e', d⟩ := h; exact ⟨v, e', d.mono e⟩
    | own xs => cases hn
    | owo _ _ => cases hn
    | ref a => exact h
    | tape => exact h
  ds := fun i j s s' _ e1 _ o1 _ => by rw [no s (List.mem_of_getElem? e1)] at o1; cases o1
  tp := S'.tp
theorem lc2_read (g : D → List D) (hz : (items.flatMap g).length ≤ 1000000)
    (hs : ∀ d, d ∈ items → ∃ q : LcA X scope tg tg1 iter1 env vs, q.d = d ∧ q.items.length = (g d).length ∧ ∀ (j : Nat) e, q.items[j]? = some e → ∃ r : LcB X scope tg1 elt vs1, r.env1 = q.env1 ∧ r.e = e ∧ (g d)[j]? = some r.v) {σ : L2.St} {H : Hp} {Q : VK}
    (h : rdX X.K env (fun s => s = .own (items.flatMap g)) σ H Q) :
    tLc2 (rdI X.K env items) (fun v σ H Q => ∃ q : LcA X scope tg tg1 iter1 env vs, rdG X.K (wipeE env vs) q.d q.env1 q.is v σ H Q) tYes
      (fun σ H R => ∃ q : LcA X scope tg tg1 iter1 env vs, rdI X.K q.env1 q.items σ H R) (fun v σ H Q => ∃ r : LcB X scope tg1 elt vs1, rdG X.K (wipeE r.env1 vs1) r.e r.env2 r.is v σ H Q) tYes
      (fun σ H Q => ∃ r : LcB X scope tg1 elt vs1, rdE X.K r.env2 (fun z => z = r.v) σ H Q) vs vs1 σ H Q := by
  obtain ⟨B, G, T, F, S, q⟩ := h
  refine ⟨B, G, T, F, S, fun J F1 H1 S1 g1 wk => ?_⟩
  intro Dd hD
  obtain ⟨S1', g1'⟩ := S1.layOwn hD .nil
  have l1 : env.length = σ.length := S.len
  have sub : ∀ i, i ≤ items.length → ((items.take i).flatMap g).length ≤ 1000000 := fun i hi => by
    have e : items.flatMap g = (items.take i).flatMap g ++ (items.drop i).flatMap g := by rw [← List.flatMap_append, List.take_append_drop]
    rw [e, List.length_append] at hz; omega
  refine ⟨fun i m Hc => m = items.length - i ∧ i ≤ items.length ∧ ∃ Fc, StR X.K B G T Fc (env ++ [.own ((items.take i).flatMap g)]) (σ ++ [some (.ref Dd)]) Hc ∧ Gr T F1 H1 Fc Hc,
    ⟨items.length, by simp, Nat.zero_le _, F1, S1', g1'⟩, ?_⟩
  rintro i m Hc ⟨rfl, hi, Fc, Sc, gc⟩
  have exF : Ex F1 Hc := gc.ff.trans gc.fh
  by_cases hlt : i < items.length
  · refine .inr ⟨wk.go i Hc hlt exF, fun Hn => ∃ Fn, StR X.K B G T Fn (env ++ [.own ((items.take (i + 1)).flatMap g)]) (σ ++ [some (.ref Dd)]) Hn ∧ Gr T F1 H1 Fn Hn, fun Hn ⟨Fn, a1, a2⟩ => ⟨items.length - (i + 1), by omega, rfl, hlt, Fn, a1, a2⟩, fun x H2 y => ?_⟩
    obtain ⟨d, F2, ed, dn, x1, x2, x3, x4⟩ := wk.yld i Fc Hc x H2 hlt gc.ff gc.fh y
    obtain ⟨g2, Sc2⟩ := Gr.of_call Sc x1 x2 x3 x4
    obtain ⟨qa, qd, ql, hb⟩ := hs d (List.mem_of_getElem? ed)
    have hout : (items.take (i + 1)).flatMap g = (items.take i).flatMap g ++ g d := by
      rw [take_succ' ed, List.flatMap_append]; simp
    have hsz : ((items.take i).flatMap g).length + (g d).length ≤ 1000000 := by
      have := sub (i + 1) hlt
      rw [hout, List.length_append] at this; exact this
    rw [hout]
    have S2 := (Sc2.drop l1).wipe vs
    refine ⟨qa, B, G, T, F2, S2, by rw [qd]; exact dn, fun σ3 S3 l3 k3 => ?_⟩
    refine ⟨wipe_same l3 fun k hk => k3 k fun hm => hk (qa.sub k hm), ?_⟩
    dsimp only [tYes]
    rw [if_pos rfl]
    refine ⟨qa, B, G, T, F2, S3, fun J1 F4 H4 S4 g4 wk1 => ?_⟩
    have Sc4 := Sc2.grow g4 S4.tp
    have gc4 := (gc.trans g2 Sc.tpn).trans g4 Sc2.tpn
    generalize hacc : (items.take i).flatMap g = acc0 at *
    refine ⟨fun j k Hj => k = (g d).length - j ∧ j ≤ (g d).length ∧ ∃ Fj, StR X.K B G T Fj (env ++ [.own (acc0 ++ (g d).take j)]) (σ ++ [some (.ref Dd)]) Hj ∧ Gr T F1 H1 Fj Hj ∧ Ex F4 Fj,
      ⟨(g d).length, by simp, Nat.zero_le _, F4, by simpa using Sc4, gc4, Ex.refl _⟩, ?_⟩
    rintro j k Hj ⟨rfl, hj, Fj, Sj, gj, ej⟩
    have exJ : Ex F4 Hj := ej.trans gj.fh
    by_cases hjl : j < (g d).length
    · refine .inr ⟨wk1.go j Hj (by rw [ql]; exact hjl) exJ, fun Hn => ∃ Fn, StR X.K B G T Fn (env ++ [.own (acc0 ++ (g d).take (j + 1))]) (σ ++ [some (.ref Dd)]) Hn ∧ Gr T F1 H1 Fn Hn ∧ Ex F4 Fn, fun Hn ⟨Fn, a1, a2, a3⟩ => ⟨(g d).length - (j + 1), by omega, rfl, hjl, Fn, a1, a2, a3⟩, fun x' H5 y' => ?_⟩
      obtain ⟨e, F5, ee, dn5, y1, y2, y3, y4⟩ := wk1.yld j Fj Hj x' H5 (by rw [ql]; exact hjl) ej gj.fh y'
      obtain ⟨g5, Sj5⟩ := Gr.of_call Sj y1 y2 y3 y4
      obtain ⟨rb, r1, r2, r3⟩ := hb j e ee
      have hj1 : acc0 ++ (g d).take (j + 1) = (acc0 ++ (g d).take j) ++ [rb.v] := by rw [take_succ' r3, List.append_assoc]
      rw [hj1]
      have S5 : StR X.K B G T F5 qa.env1 σ3 H5 := S4.flat qa.no Sj5 (ej.trans y1)
      have S5' := S5.wipe vs1
      refine ⟨rb, B, G, T, F5, by rw [r1]; exact S5', by rw [r2]; exact dn5, fun σ6 S6 l6 k6 => ?_⟩
      refine ⟨wipe_same l6 fun k hk => k6 k fun hm => hk (rb.sub k hm), ?_⟩
      dsimp only [tYes]
      rw [if_pos rfl]
      refine ⟨rb, B, G, T, F5, S6, fun w z F7 H7 S7 g7 dz φ => ?_⟩
      subst φ
      have Sj7 := Sj5.grow g7 S7.tp
      have gj7 := (gj.trans g5 Sj.tpn).trans g7 Sj5.tpn
      have hown : (env ++ [Sl.own (acc0 ++ (g d).take j)])[env.length]? = some (.own (acc0 ++ (g d).take j)) := by rw [List.getElem?_append_right (Nat.le_refl _)]; simp
      have hval : (σ ++ [some (V.ref Dd)])[env.length]? = some (some (.ref Dd)) := by rw [l1, List.getElem?_append_right (Nat.le_refl _)]; simp
      obtain ⟨o, eo, p, us, e2, b1, f1, np, hp, da⟩ := Sj7.some_at hown
      rw [hval] at eo
      cases eo
      injection e2 with e2
      injection e2 with e2
      subst e2
      have hul : us.length < 10000000 := by
        rw [da.length, List.length_append, List.length_take]; omega
      refine ⟨us, hp, Nat.lt_of_lt_of_le hul (by rw [sizeLine_eq]; omega), F7, ?_, ⟨gj7.ff, ex_updH gj7.fh f1, fun a o h n => ?_, gj7.nw⟩, (ej.trans y1).trans g7.ff⟩
      · have q1 := Sj7.upd_own hown hval (da.append (.cons dz .nil))
        have e3 : (env ++ [Sl.own (acc0 ++ (g d).take j)]).set env.length (Sl.own ((acc0 ++ (g d).take j) ++ [rb.v])) = env ++ [Sl.own ((acc0 ++ (g d).take j) ++ [rb.v])] := by
          rw [List.set_append_right _ _ (Nat.le_refl _)]; simp
        rw [e3] at q1
        exact q1
      · rw [upd_ne (ne_of_none h hD)]; exact gj7.hh a o h n
    · have e : j = (g d).length := by omega
      subst e
      rw [List.take_length] at Sj
      exact .inl ⟨by rw [← ql]; exact wk1.stop Hj exJ, Fj, Sj, gj⟩
  · have e : i = items.length := by omega
    subst e
    rw [List.take_length] at Sc
    refine .inl ⟨wk.stop Hc exF, q _ _ Fc Hc Sc (g1.trans gc S1.tpn) (fun _ p e => ?_) rfl⟩
    injection e with e
    subst e
    cases z : H Dd with
    | none => rfl
    | some o =>
      by_cases np : ∀ t, T = some t → Dd ≠ t.p
      · rw [g1.hh Dd o z np] at hD; cases hD
      · simp only [Classical.not_forall] at np
        obtain ⟨t, e, np⟩ := np
        exact absurd (by rw [← Classical.not_not.mp np]; exact hD) (S1.tpn t e)
theorem ex_lc2 (own : List (Str × Nat)) (vs1 : List Nat) (g : D → List D) (hc : X.calm = true) (hi : IR X tg iter env items) (hz : (items.flatMap g).length ≤ 1000000) (hv : ∀ i ∈ vs1, i ∈ own.map (·.2))
    (hs : ∀ d, d ∈ items → ∃ q : LcA X scope tg tg1 iter1 env (own.map (·.2)), q.d = d ∧ q.items.length = (g d).length ∧ ∀ (j : Nat) e, q.items[j]? = some e → ∃ r : LcB X scope tg1 elt vs1, r.env1 = q.env1 ∧ r.e = e ∧ (g d)[j]? = some r.v)
    (ok : BlkOk X.N X.env.scope scope own := by exact blkOk_by (by kernel_rfl)) (hN : X.N.Nodup := by assumption) (hf : ∀ x, foldedSetIterable iter X.env x = pure x := by intro _; rfl) (hf1 : ∀ env x, foldedSetIterable iter1 env x = pure x := by intro _ _; rfl) :
    EX X (.ListComp elt [⟨tg, iter, [], 0⟩, ⟨tg1, iter1, [], 0⟩] scope pos) env (.own (items.flatMap g)) :=
  PE.imp (pe_lc2 hc hN hi ok hv (fun s H C cl fp => PG.ex fun q => q.tgt s H C cl fp) (fun _ _ _ _ _ => pts_nil) (fun s H C cl fp => PI.ex fun q => q.it s H C cl fp) (fun s H C cl fp => PG.ex fun q => q.tgt s H C cl fp) (fun _ _ _ _ _ => pts_nil) (fun s H C cl fp => PE.ex fun q => q.elm s H C cl fp) hf hf1) fun σ H Q h => lc2_read g hz hs h
end
end DL

namespace DL
open PySem PySem.Spec PyProof.Rows L2 RZ
section
variable {X : Cx} {a b : Expr} {env : List Sl} {pos : Pos}
theorem wr_or1 {Ξ : Bool → Prop} (h : TR X a env Ξ) : WR X (.BoolOp .Or [a] pos) env Ξ := PW.imp (pw_or1 h) fun _ _ _ q => q
theorem wr_or {rest : List Expr} {k : Bool} {Ξ : Bool → Prop} (ha : TD X a env k) (hf : k = true → Ξ true) (hb : k = false → WR X (.BoolOp .Or (b :: rest) pos) env Ξ) : WR X (.BoolOp .Or (a :: b :: rest) pos) env Ξ := by
  cases k with
  | false =>
    refine PW.imp (pw_or ha (hb rfl)) fun σ H Q ⟨B, G, T, F, S, q⟩ => ⟨B, G, T, F, S, fun v F1 H1 S1 g1 e1 => ?_⟩
    subst e1
    exact iteF ⟨B, G, T, F1, S1, fun v F2 H2 S2 g2 ξ => q _ F2 H2 S2 (g1.trans g2 S1.tpn) ξ⟩
  | true =>
    refine PW.imp (pw_or ha pw_never) fun σ H Q ⟨B, G, T, F, S, q⟩ => ⟨B, G, T, F, S, fun v F1 H1 S1 g1 e1 => ?_⟩
    subst e1
    exact iteT (q _ F1 H1 S1 g1 (hf rfl))
end
/-! ### pairs of today and told -/
def seen1 (p : Int × Int) : D := .tuple [dayD (Cal.dayOf p.1), dayD (Cal.dayOf p.2)]
def seenD (S : List (Int × Int)) : D := .tuple (S.map seen1)
noncomputable def explB (h : Cal.Hint) (r : Nat) (S : List (Int × Int)) : Bool := S.all fun p => decide (Cal.rd h p.1 r = some p.2)
def waysN : List Nat := [2, 1, 0]
def wayD (r : Nat) : D := .str (ruleS r)
def wayP (p : Cal.Hint × Nat) : D := .tuple [hintD p.1, wayD p.2]
noncomputable def pairsK (n : Int) (S : List (Int × Int)) : List (Cal.Hint × Nat) := (allH n).flatMap fun h => (waysN.filter fun r => explB h r S).map fun r => (h, r)
theorem ways_lt {r : Nat} (h : r ∈ waysN) : r < 3 := by
  simp [waysN] at h
  omega
theorem ways_is : (PyData.tuple [.str "closest", .str "last", .str "next"]) = .tuple (waysN.map wayD) := rfl
theorem vday_dayOf (n : Int) : 1 ≤ (Cal.dayOf n).2.1 ∧ (Cal.dayOf n).2.1 ≤ 12 := ⟨(Cal.dayOf_spec n).1, (Cal.dayOf_spec n).2.1⟩
theorem expl_cons {h : Cal.Hint} {r : Nat} {p : Int × Int} {S : List (Int × Int)} : explB h r (p :: S) = (decide (Cal.rd h p.1 r = some p.2) && explB h r S) := rfl
theorem pairs_rule {n : Int} {S : List (Int × Int)} {r : Nat} (hr : r ∈ waysN) : ((pairsK n S).filter fun p => decide (p.2 = r)).map (·.1) = (allH n).filter fun h => explB h r S := by
  unfold pairsK
  induction allH n with
  | nil => rfl
  | cons h t ih =>
    rw [List.flatMap_cons, List.filter_append, List.map_append, ih, List.filter_cons]
    have : (((waysN.filter fun r => explB h r S).map fun r => (h, r)).filter fun p => decide (p.2 = r)).map (·.1) = if explB h r S then [h] else [] := by
      simp only [waysN, List.mem_cons, List.not_mem_nil, or_false] at hr
      rcases hr with rfl | rfl | rfl <;> cases a : explB h 2 S <;> cases b : explB h 1 S <;> cases c : explB h 0 S <;> simp [waysN, a, b, c]
    rw [this]
    split <;> rfl
theorem pairs_len {n : Int} {S : List (Int × Int)} : (pairsK n S).length ≤ 45 := by
  unfold pairsK
  have : ∀ L : List Cal.Hint, (L.flatMap fun h => (waysN.filter fun r => explB h r S).map fun r => (h, r)).length ≤ 3 * L.length := by
    intro L
    induction L with
    | nil => simp
    | cons h t ih =>
      rw [List.flatMap_cons, List.length_append, List.length_map, List.length_cons]
      have : (waysN.filter fun r => explB h r S).length ≤ 3 := List.length_filter_le ..
      omega
  have := this (allH n)
  rw [allH_len] at this
  exact this
theorem lk2_hint {h : Cal.Hint} : lk 2 (hintD h) = true := by
  obtain ⟨a, b, c, e⟩ := h
  cases a <;> cases b <;> cases c <;> cases e <;> rfl
theorem lk2_way {r : Nat} (h : r < 3) : lk 2 (wayD r) = true := by
  rcases r3 h with rfl | rfl | rfl <;> decide +kernel
theorem lk_wayP {p : Cal.Hint × Nat} (h : p.2 < 3) : lk 3 (wayP p) = true := by
  simp [wayP, lk, lks, lk2_hint, lk2_way h]
theorem lk3_hint {h : Cal.Hint} : lk 3 (hintD h) = true := by
  obtain ⟨a, b, c, e⟩ := h
  cases a <;> cases b <;> cases c <;> cases e <;> rfl
theorem lk3_way {r : Nat} (h : r < 3) : lk 3 (wayD r) = true := by
  rcases r3 h with rfl | rfl | rfl <;> decide +kernel
theorem pairs_mem {n : Int} {S : List (Int × Int)} {p : Cal.Hint × Nat} (h : p ∈ pairsK n S) : p.1 ∈ allH n ∧ p.2 < 3 := by
  unfold pairsK at h
  obtain ⟨q, hq, h⟩ := List.mem_flatMap.1 h
  obtain ⟨r, hr, rfl⟩ := List.mem_map.1 h
  exact ⟨hq, ways_lt (List.mem_filter.1 hr).1⟩
theorem seen_at {x n : Int} {S : List (Int × Int)} : L2.atI (((x, n) :: S).map seen1) 0 = some (seen1 (x, n)) := by
  rw [atI_get (by decide) (by rw [List.length_map, List.length_cons]; omega)]
  rfl
end DL

namespace DL
open PySem PySem.Spec PyProof.Rows L2 RZ
/-! ### defs that return a list of their own -/
section
variable {K : Fg} {B G F H F' H' : Hp} {T : Option TP} {env : List Sl} {σ : L2.St}
/-- a fresh list is one more own slot -/
theorem StR.extNew (S : StR K B G T F env σ H) (S1 : StR K B G T F' env σ H') (h3 : Ex H H') {p : Addr} {vs : List V} {xs : List D} (fp : F' p = none) (hp : H p = none) (hv : H' p = some (.lst vs)) (d : DnA K F' vs xs) : StR K B G T F' (env ++ [.own xs]) (σ ++ [some (.ref p)]) H' := by
  have np : ∀ t, T = some t → p ≠ t.p := fun t e z => S.tpn t e (by rw [← z]; exact hp)
  have bp : B p = none := by
    cases q : B p with
    | none => rfl
    | some o => rw [S.bh p o q np] at hp; cases hp
  refine ⟨S1.gf, S1.fh, S1.bh, S1.nf, by simp [S.len], fun i s o e1 e2 => ?_, fun i j s s' hij e1 e2 o1 o2 => ?_, S1.tp⟩
  · by_cases hi : i < env.length
    · rw [List.getElem?_append_left hi] at e1
      rw [List.getElem?_append_left (by rw [← S.len]; exact hi)] at e2
      exact S1.sl i s o e1 e2
    · rw [List.getElem?_append_right (by omega)] at e1
      rw [List.getElem?_append_right (by rw [← S.len]; omega), ← S.len] at e2
      cases q : i - env.length with
      | zero => rw [q] at e1 e2; simp at e1 e2; subst e1; subst e2; exact ⟨p, vs, rfl, bp, fp, np, hv, d⟩
      | succ n => rw [q] at e1; simp at e1
  · have key : ∀ {k : Nat} {s : Sl}, (env ++ [Sl.own xs])[k]? = some s → s.owned = true → (k < env.length ∧ ∃ r, (σ ++ [some (V.ref p)])[k]? = some (some (.ref r)) ∧ r ≠ p ∧ σ[k]? = some (some (.ref r)) ∧ env[k]? = some s) ∨ (k = env.length ∧ (σ ++ [some (V.ref p)])[k]? = some (some (.ref p))) := fun {k s} e ow => by
      by_cases hk : k < env.length
      · rw [List.getElem?_append_left hk] at e
        obtain ⟨o, eo, so⟩ := S.some_at e
        cases s with
        | own ys => obtain ⟨r, us, er, _, _, _, hr, _⟩ := so; subst er; exact .inl ⟨hk, r, by rw [List.getElem?_append_left (by rw [← S.len]; exact hk)]; exact eo, ne_of_none hr hp, eo, e⟩
        | owo r0 ys => obtain ⟨er, _, _, _, hr⟩ := so; obtain ⟨_, hr⟩ := hr.at_; subst er; exact .inl ⟨hk, r0, by rw [List.getElem?_append_left (by rw [← S.len]; exact hk)]; exact eo, ne_of_none hr hp, eo, e⟩
        | un => cases ow
        | dt _ => cases ow
        | ref _ => cases ow
        | tape => cases ow
      · have hk2 : k = env.length := by
          have := (List.getElem?_eq_some_iff.mp e).1
          simp at this; omega
        exact .inr ⟨hk2, by rw [hk2, S.len, List.getElem?_append_right (Nat.le_refl _)]; simp⟩
    rcases key e1 o1 with ⟨l1, r1, w1, n1, z1, y1⟩ | ⟨l1, w1⟩ <;> rcases key e2 o2 with ⟨l2, r2, w2, n2, z2, y2⟩ | ⟨l2, w2⟩
    · rw [w1, w2, ← z1, ← z2]; exact S.ds i j s s' hij y1 y2 o1 o2
    · rw [w1, w2]; intro z; injection z with z; injection z with z; injection z with z; exact n1 z
    · rw [w1, w2]; intro z; injection z with z; injection z with z; injection z with z; exact n2 z.symm
    · omega
theorem Gr.none_of {F1 H1 : Hp} (g : Gr T F H F1 H1) (S1 : StR K B G T F1 env σ H1) {p : Addr} (h : H1 p = none) : H p = none := by
  cases q : H p with
  | none => rfl
  | some o =>
    by_cases np : ∀ t, T = some t → p ≠ t.p
    · rw [g.hh p o q np] at h; cases h
    · simp only [Classical.not_forall] at np
      obtain ⟨t, e, np⟩ := np
      exact absurd (by rw [← Classical.not_not.mp np]; exact h) (S1.tpn t e)
end
section
variable {X : Cx} {e : Expr} {env : List Sl} {y : Str} {pos p py pk : Pos} {j k : Nat} {R : List D → (D → Prop) → Prop}
/-- sorted(e, key=f), the list an own one -/
theorem exr_sortK {Ψ : List D → Prop} (c : Kn X.prog X.w X.K X.mg X.base k y (spF X.K R)) (hr : Room j X.A) (ha : ER X e env (fun d => ∃ xs, d = .list xs ∧ Ψ xs)) (kf : D → IK) (h : ∀ xs, Ψ xs → xs.length ≤ 1000000 ∧ ∀ x ∈ xs, R [x] (fun z => z = keyD (kf x))) (hm : X.mg "sorted" = none)
    (hk : k + 2 ≤ j := by decide) (hg : Gl X "sorted" := by rfl) (hgy : Gl X y := by rfl) (hdb : (y == ("__debug__" : Str)) = false := by decide)
    (he : backTo pos (starEach [e] X.env) = (false, eval e X.env) :: backTo pos (starEach [] X.env) := by rfl) (hpl : (backTo pos (starEach [e] X.env)).any (·.1) = false := by rfl)
    (hall : (backToKw pos (keywordEach [⟨some "key", .Name y py, pk⟩] X.env)).all (·.1.isSome) = true := by rfl) (hnone : (backToKw pos (keywordEach [⟨some "key", .Name y py, pk⟩] X.env)).any (·.1.isNone) = false := by rfl) (hks : (backToKw pos (keywordEach [⟨some "key", .Name y py, pk⟩] X.env)).filterMap (·.1) = [Str.ofString "key"] := by rfl)
    (hs : starEach [e] X.env = (false, eval e X.env) :: starEach [] X.env := by rfl) :
    EXR X (.Call (.Name "sorted" p) [e] [⟨some "key", .Name y py, pk⟩] pos) env (fun s => ∃ xs ys, Ψ xs ∧ s = .own ys ∧ ys.Perm xs ∧ ys.Pairwise (fun x y => ltK (kf y) (kf x) = false)) := by
  obtain ⟨f, fd, ps, ok, kp, bi, hmy⟩ := c.ex
  have hr2 : Room k X.A.in1.in1 := ((hr.mono hk).in1).in1
  refine PE.imp (pe_callBK (cr_sortK ok hr2 bi) hg hm rfl (pa_cons ha pa_nil hs) (pk_cons (pe_glob hgy hmy (show RelV (.ref f) (.ref f) from rfl) hdb) pk_nil) (by decide) (by decide) he hpl hall hnone hks) fun σ H Q ⟨B, G, T, F, S, q⟩ => ?_
  refine ⟨B, G, T, F, S, fun v d F1 H1 S1 g1 d1 ⟨xs, e1, hΨ⟩ => ?_⟩
  subst e1
  cases d1 with | lst h1 d1 =>
  obtain ⟨hz, hk⟩ := h xs hΨ
  refine ⟨_, F1, _, xs, kf, rfl, rfl, S1.fh, h1, d1, hz, hk, fun p us ys F' H' a1 a2 a3 a4 o1 o2 o3 a6 a7 a8 => ?_⟩
  obtain ⟨g, S'⟩ := Gr.of_call S1 a1 a2 a3 a4
  exact q _ (.own ys) F' H' (S1.extNew S' a3 o1 o2 o3 a6) (g1.trans g S1.tpn) (fun _ p' e => by injection e with e; subst e; exact g1.none_of S1 o2) ⟨xs, ys, hΨ, rfl, a7, a8⟩
end
/-- a def that returns a list of its own -/
def spN (K : Fg) (R : List D → (List D → Prop) → Prop) : Sp := fun vs H Q _ => ∃ F ds Φ, Ex F H ∧ DnA K F vs ds ∧ R ds Φ ∧ ∀ p us xs F' H', Ex F F' → Ex F' H' → Ex H H' → (∀ a, H a ≠ none → F a = none → F' a = none) → F' p = none → H p = none → H' p = some (.lst us) → DnA K F' us xs → Φ xs → Q (.ref p) H'
def frzR (R : List D → (List D → Prop) → Prop) : List D → (D → Prop) → Prop := fun ds Φ => R ds fun xs => Φ (.list xs)
theorem spN_frz {K : Fg} {R : List D → (List D → Prop) → Prop} {vs : List V} {H : Hp} {Q : VK} {E : XK} (h : spF K (frzR R) vs H Q E) : spN K R vs H Q E := by
  obtain ⟨F, ds, Φ, e, d, r, q⟩ := h
  refine ⟨F, ds, _, e, d, r, fun p us xs F' H' a1 a2 a3 a4 o1 o2 o3 a6 φ => ?_⟩
  obtain ⟨b1, b2, b3⟩ := frz_ex a1 a2 a4 o1 o2 o3
  exact q _ _ _ H' b1 b2 a3 b3 (.lst upd_same (a6.mono (Ex.new o1))) φ
theorem Kn.frz {P : Program} {w : World} {K : Fg} {mg : Str → Option Value} {base : Heap} {k : Nat} {x : Str} {R : List D → (List D → Prop) → Prop} (c : Kn P w K mg base k x (spN K R)) : Kn P w K mg base k x (spF K (frzR R)) := by
  obtain ⟨f, fd, ps, ok, kp, bi, hm⟩ := c.ex
  exact ⟨f, fd, ps, ok.imp fun _ _ _ _ => spN_frz, kp, bi, hm⟩
section
variable {P : Program} {w : World} {K : Fg} {mg : Str → Option Value} {base : Heap}
theorem fnN {x qual : Str} {params : Arguments} {e : Expr} {pos : Pos} {scope : Scope} {f : Addr} {fd : FuncData} {N ps : List Str} {k : Nat} {R : List D → (List D → Prop) → Prop} {dvs : List V} {kws : List (Str × V)} (F : FunD K x qual params [.Return (some e) pos] scope dvs kws f fd) (S : FnScope N ps scope) (len : ∀ ds Φ, R ds Φ → ds.length = ps.length)
    (hbody : ∀ (cdv : Value) (A : Around) (outer : List Env) (s : Shared) (H : Hp) (E : XK), Room k (A.deeper (envOfC qual scope s.heap.objs.size f cdv)) → ∀ ds Φ, R ds Φ → EXR (cxF P w K mg base N qual scope f cdv A outer s H E) e (startD N (ds.map Sl.dt)) (fun s => ∃ xs, s = .own xs ∧ Φ xs)) : FnOk P w K mg base CX0 (k + 1) f fd ps (spN K R) := by
  have pl : ps.length ≤ N.length := by have := congrArg List.length S.pre; rw [List.length_take] at this; omega
  refine F.ok S (fun vs H Q E h => ?_) (fun cdv A outer s H vs Q E hr h => ?_)
  · obtain ⟨F, ds, Φ, _, d, r, _⟩ := h
    rw [d.length, len _ _ r]
  · obtain ⟨F, ds, Φ, e', d, r, q⟩ := h
    refine ⟨_, PSs.nox (PSs.imp (t' := fun E σ H => rdX _ _ _ σ H E.rt) (pss_cons (ps_ret (hbody cdv A outer s H E hr ds Φ r)) pss_never) fun E σ H h => h), H, F, none, F, startF e' d (by rw [d.length, len _ _ r]; exact pl), fun v s' F' H' S' g fr ⟨xs, es, φ⟩ => ?_⟩
    subst es
    have hl := S'.len
    simp only [List.length_append, List.length_singleton] at hl
    obtain ⟨o, eo, p, us, e2, b1, f1, np, hp, da⟩ := S'.some_at (i := (startD N (ds.map Sl.dt)).length) (s := .own xs) (by rw [List.getElem?_append_right (Nat.le_refl _)]; simp)
    have : v = .ref p := by
      rw [show (startD N (ds.map Sl.dt)).length = (start N vs).length by omega, List.getElem?_append_right (Nat.le_refl _)] at eo
      simp at eo
      rw [← eo] at e2; exact Option.some.inj e2
    subst this
    exact q p us xs F' H' S'.gf S'.fh (fun a o h => S'.bh a o h (fun _ z => by cases z)) (fun a h n => S'.nf a h n) f1 (fr rfl p rfl) hp da φ
end
section
variable {X : Cx} {e : Expr} {es : List Expr} {env : List Sl} {x : Str} {pos p : Pos} {j k : Nat} {R : List D → (List D → Prop) → Prop} {Φ : List D → Prop}
/-- f(e, ..) of a known def that returns a list of its own -/
theorem exr_callN {Ψ : List D → Prop} (c : Kn X.prog X.w X.K X.mg X.base k x (spN X.K R)) (hr : Room j X.A) (ha : AR X (e :: es) env Ψ) (h : ∀ ds, Ψ ds → R ds Φ) (hk : k ≤ j := by decide) (hg : Gl X x := by rfl) (hdb : (x == ("__debug__" : Str)) = false := by decide)
    (he : starEach (e :: es) X.env = (false, eval e X.env) :: starEach es X.env := by rfl) (hpl : (backTo pos (starEach es X.env)).any (·.1) = false := by rfl) : EXR X (.Call (.Name x p) (e :: es) [] pos) env (fun s => ∃ xs, s = .own xs ∧ Φ xs) := by
  obtain ⟨f, fd, ps, ok, kp, bi, hm⟩ := c.ex
  refine PE.imp (pe_call ok (hr.mono hk) hg hm kp bi .nil pass0 ha hdb he hpl) fun σ H Q ⟨B, G, T, F, S, q⟩ => ⟨B, G, T, F, S, fun vs ds F1 H1 S1 g1 d1 ψ => ?_⟩
  show spN X.K R (vs ++ []) H1 Q E0
  rw [List.append_nil]
  refine ⟨F1, ds, Φ, S1.fh, d1, h ds ψ, fun p us xs F' H' h1 h2 h3 h4 o1 o2 o3 da φ => ?_⟩
  obtain ⟨g, S'⟩ := Gr.of_call S1 h1 h2 h3 h4
  exact q _ (.own xs) F' H' (S1.extNew S' h3 o1 o2 o3 da) (g1.trans g S1.tpn) (fun _ p' e => by injection e with e; subst e; exact g1.none_of S1 o2) ⟨xs, rfl, φ⟩
end
section
variable {X : Cx} {e : Expr} {env : List Sl} {y : Str} {pos p py pk : Pos} {j k : Nat} {R : List D → (D → Prop) → Prop}
theorem exr_imp {Ψ Χ : Sl → Prop} (h : EXR X e env Ψ) (k : ∀ s, Ψ s → Χ s) : EXR X e env Χ := PE.imp h fun σ H Q ⟨B, G, T, F, S, q⟩ => ⟨B, G, T, F, S, fun v s F' H' S' g fr ψ => q v s F' H' S' g fr (k s ψ)⟩
/-- sorted(e, key=f) of encoded things with keys that tell them apart, the list an own one -/
theorem exr_sortT {α : Type} {xs : List α} {enc : α → D} {kf : α → IK} (dec : D → IK) (hd : ∀ x, dec (enc x) = kf x) (c : Kn X.prog X.w X.K X.mg X.base k y (spF X.K R)) (hr : Room j X.A) (ha : ED X e env (.list (xs.map enc))) (hz : xs.length ≤ 1000000) (h : ∀ x ∈ xs, R [enc x] (fun z => z = keyD (kf x)))
    (inj : ∀ x ∈ xs, ∀ y ∈ xs, kf x = kf y → x = y) (hm : X.mg "sorted" = none)
    (hk : k + 2 ≤ j := by decide) (hg : Gl X "sorted" := by rfl) (hgy : Gl X y := by rfl) (hdb : (y == ("__debug__" : Str)) = false := by decide)
    (he : backTo pos (starEach [e] X.env) = (false, eval e X.env) :: backTo pos (starEach [] X.env) := by rfl) (hpl : (backTo pos (starEach [e] X.env)).any (·.1) = false := by rfl)
    (hall : (backToKw pos (keywordEach [⟨some "key", .Name y py, pk⟩] X.env)).all (·.1.isSome) = true := by rfl) (hnone : (backToKw pos (keywordEach [⟨some "key", .Name y py, pk⟩] X.env)).any (·.1.isNone) = false := by rfl) (hks : (backToKw pos (keywordEach [⟨some "key", .Name y py, pk⟩] X.env)).filterMap (·.1) = [Str.ofString "key"] := by rfl)
    (hs : starEach [e] X.env = (false, eval e X.env) :: starEach [] X.env := by rfl) :
    EXR X (.Call (.Name "sorted" p) [e] [⟨some "key", .Name y py, pk⟩] pos) env (fun s => s = .own ((srtK kf xs).map enc)) := by
  refine exr_imp (exr_sortK (Ψ := fun l => l = xs.map enc) c hr (ha.imp fun d e => ⟨_, e, rfl⟩) dec (fun l el => ?_) hm hk hg hgy hdb he hpl hall hnone hks hs) fun d ⟨l, ys, el, ed, hp, hs⟩ => ?_
  · subst el
    refine ⟨by rw [List.length_map]; exact hz, fun x hx => ?_⟩
    obtain ⟨u, hu, rfl⟩ := List.mem_map.1 hx
    rw [hd]; exact h u hu
  · subst el
    obtain ⟨zs, p1, rfl⟩ := perm_of_map hp
    rw [ed, ← srtK_eq p1 ((List.pairwise_map.1 hs).imp fun {a b} z => by rw [hd, hd] at z; exact z) inj]
end
end DL

/-! enumerate(t), t a tuple: the iterator is made, stepped, ended; then the walk of the layer -/
namespace DL
open PySem PySem.Spec PyProof.Rows L2 RZ
abbrev itObj (l : Addr) : Obj := ⟨.type "tuple_iterator", none, .fields #[.ref l, .int 0 0], #[]⟩
abbrev enObj (it : Addr) : Obj := ⟨.type "enumerate", none, .fields #[.none, .bool false, .ref it, rawInt 0, .none, .none], #[]⟩
abbrev enHeap (h : Heap) (l : Addr) : Heap := (h.push (itObj l)).push (enObj h.objs.size)
theorem en_new (l : Addr) (items : Array Value) : Meets (Builtin.«enumerate.__new__» ⟨[.type "enumerate", .ref l], []⟩) (fun _ R s => s.heap.IsTuple l items ∧ R (.ok (.ret (.ref (s.heap.objs.size + 1)))) { s with heap := enHeap s.heap l }) :=
  .of_wp fun prog w A R s ⟨ht, h⟩ => by
    obtain ⟨hp, g, d, tk, os⟩ := s
    have hsub := sub_enumerate
    have made : (hp.push (itObj l)).objs.size = hp.objs.size + 1 := Heap.size_push ..
    obtain ⟨ol, eol, _, nl, edl⟩ := id ht
    have src : ∀ {A' : Around} {E Q : Value → Shared → Prop}, Q (.ref hp.objs.size) ⟨hp.push (itObj l), g, d, tk, os⟩ → wpAny (model prog w) A' (pyIter (.ref l)) Q E ⟨hp, g, d, tk, os⟩ := fun q => wpAny_pyIter_tuple ht q
    wp_walk using src
    refine wpAny_stack_any fun st => wpAny_pure ?_
    have done : ∀ {r : Addr}, r = (hp.push (itObj l)).objs.size → R (.ok (.ret (.ref r))) ⟨enHeap hp l, g, d, tk, os⟩ := fun e => by rw [e, made]; exact h
    split <;> (try (rename_i c _ _ _ _ _; cases (c == Value.type "enumerate"))) <;> (wp_walk using src; exact ⟨_, rfl, done rfl⟩)
/-- what stands while the tuple at l is walked in pairs: i are told -/
structure EnumAt (l e it : Addr) (i : Nat) (h : Heap) : Prop where
  en : ∃ old, IsEnum h e it (i : Int) old
  st : h.IsTupleIter it l i
section
variable {prog : Program} {w : World} {A : Around} {E : Value → Shared → Prop} {s : Shared} {l e it : Addr} {items : Array Value}
theorem EnumAt.to {i : Nat} {h h' : Heap} (q : EnumAt l e it i h) (ke : ∀ o, h.get? e = some o → h'.get? e = some o) (ki : ∀ o, h.get? it = some o → h'.get? it = some o) : EnumAt l e it i h' :=
  ⟨let ⟨old, z⟩ := q.en; ⟨old, ke _ z⟩, q.st.at ki⟩
/-- enumerate(t) -/
theorem en_made {Q : Value → Shared → Prop} (ht : s.heap.IsTuple l items)
    (h : ∀ h', EnumAt l (s.heap.objs.size + 1) s.heap.objs.size 0 h' → (∀ b o, s.heap.get? b = some o → h'.get? b = some o) → Q (.ref (s.heap.objs.size + 1)) { s with heap := h' }) : wpAny (model prog w) A (call (.type "enumerate") [.ref l]) Q E s := by
  have z1 : (s.heap.push (itObj l)).objs.size = s.heap.objs.size + 1 := Heap.size_push ..
  have up : ∀ b o, s.heap.get? b = some o → (enHeap s.heap l).get? b = some o := fun b o q => Heap.get?_push_of_some _ (Heap.get?_push_of_some _ q)
  have g1 : (enHeap s.heap l).get? (s.heap.objs.size + 1) = some (enObj s.heap.objs.size) := z1 ▸ Heap.get?_push_size _ rfl
  have g0 : (enHeap s.heap l).get? s.heap.objs.size = some (itObj l) := Heap.get?_push_of_some _ (Heap.get?_push_size _ rfl)
  obtain ⟨o, ho, hc, hd⟩ := id ht
  obtain ⟨c, d1, d2, sl⟩ := o
  refine callType_new F.called_enumerate (by decide) (F.typeCall_enumerate_1 _) (F.newCall_enumerate_1 _) (fun obj => F.args_object_init_2 obj _) F.entry_enumerate_new (en_new l items) ⟨ht, ⟨_, g1, rfl⟩, ?_⟩
  exact h _ ⟨⟨_, g1⟩, ⟨_, g0, rfl, rfl⟩⟩ up
/-- one more pair -/
theorem en_step {elts : List Expr} {kk : Nat} {tpos : Pos} {i : Nat} {x : Value} {Q : Value → Shared → Prop} (hh : A.handled = none) (ei : e ≠ it) (el : e ≠ l) (il : l ≠ it) (q : EnumAt l e it i s.heap) (ht : s.heap.IsTuple l items) (hx : items[i]? = some x)
    (h : ∀ h' tk t, EnumAt l e it (i + 1) h' → h'.get? s.heap.objs.size = some { cls := .type "tuple", data := .seq #[.int (i : Int) t, x] } → (∀ b o, b ≠ e → b ≠ it → s.heap.get? b = some o → h'.get? b = some o) → Q (.ref s.heap.objs.size) { s with heap := h', toks := tk }) :
    wpAny (model prog w) A (pyNext (.ref e)) (fun r s1 => ∃ u, r = some u ∧ wpAny (model prog w) A (letOwnedTupleGo (.Tuple elts kk tpos) (.ref e) u) (fun _ s2 => Q u s2) E s1) E s := by
  obtain ⟨old, he⟩ := q.en
  have lt : i < items.size := by rcases Nat.lt_or_ge i items.size with z | z; · exact z
                                 · rw [Array.getElem?_eq_none z] at hx; cases hx
  refine wpAny_pyNext_enum_itemD (Draws.tuple (A := A.in1) hh it l il items) he ⟨q.st, ht⟩ lt ei (by simp [ei, el]) fun y h1 t hy out st1 pair _ k1 => ⟨_, rfl, ?_⟩
  cases hx.symm.trans hy
  refine wpAny_letOwnedTupleGo_enum (s := { s with heap := h1, toks := t + 1 }) out fun h2 he2 sb => ?_
  have k2 : ∀ b o, b ≠ e → h1.get? b = some o → h2.get? b = some o := fun b o n z => (sb.2 b n).trans z
  refine h h2 (t + 1) t ⟨⟨x, ?_⟩, st1.1.at fun o z => k2 it o (Ne.symm ei) z⟩ (k2 _ _ (Nat.ne_of_gt (Heap.lt_size he)) pair) fun b o n1 n2 z => k2 b o n1 (k1 b o n1 n2 z)
  rw [Int.natCast_succ]; exact he2
/-- no more -/
theorem en_stop {Q : Option Value → Shared → Prop} (hh : A.handled = none) (il : l ≠ it) (q : EnumAt l e it items.size s.heap) (ht : s.heap.IsTuple l items) (h : ∀ h', Heap.ExtBut it s.heap h' → Q none { s with heap := h' }) : wpAny (model prog w) A (pyNext (.ref e)) Q E s :=
  let ⟨_, he⟩ := q.en
  wpAny_pyNext_enum_endD (Draws.tuple (A := A.in1) hh it l il items) he ⟨q.st, ht⟩ h
end
/-- the pairs of the tuple at l -/
def IteT (K : PySem.W.Frag) (l : Addr) : It where
  go i H := ∃ xs, SqT K H l xs ∧ i < xs.length
  yld i H v H' := ∃ T x, v = .ref T ∧ H T = none ∧ H' = upd H T (.tup [.int (i : Nat), x]) ∧ ∀ xs, SqT K H l xs → xs[i]? = some x
  stop i H := ∃ xs, SqT K H l xs ∧ xs.length = i
theorem turn_pairs {P : Program} {w : World} {K : PySem.W.Frag} {elts : List Expr} {kk : Nat} {tpos : Pos} {l e it : Addr} (ei : e ≠ it) (el : e ≠ l) (il : l ≠ it) : Turn P w K (.Tuple elts kk tpos) (IteT K l) [e, it] e (EnumAt l e it) := by
  have two : ∀ {b : Addr}, b ∈ [e, it] → b = e ∨ b = it := fun hb => by simpa using hb
  refine ⟨by simp, fun i h q b hb => ?_, fun i h h' q k => q.to (k e (by simp)) (k it (by simp)), fun X hP hw hK hc i pins s σ H E I hf q ⟨xs, sq, lt⟩ => ?_, fun X hP hw hK hc i pins s σ H E I hf q ⟨xs, sq, len⟩ => ?_, fun A i s Q E q h => let ⟨_, z⟩ := q.en; wpAny_pyIter_enum z h⟩
  · obtain ⟨⟨old, z⟩, ⟨o, eo, c, d⟩⟩ := q
    rcases two hb with rfl | rfl
    · exact ⟨_, z, nofun⟩
    · exact ⟨o, eo, fun v f => by rw [d] at f; exact nomatch f⟩
  · subst hP hw hK
    obtain ⟨its, vals, tu, _⟩ := I.tuple sq
    obtain ⟨u, eu, ru⟩ := vals.get (List.getElem?_eq_getElem lt)
    have small : ∀ b ∈ [e, it], b < s.heap.objs.size := fun b hb => by
      obtain ⟨⟨_, z⟩, ⟨_, eo, _⟩⟩ := q
      rcases two hb with rfl | rfl
      · exact Heap.lt_size z
      · exact Heap.lt_size eo
    refine wpAny_mono (en_step (items := its.toArray) (I.ok.hd hc) ei el il q tu (by simpa using eu) (Q := fun v s2 => ∃ x H', Inv X pins σ H' s2 ∧ RelV x v ∧ (IteT X.K l).yld i H x H' ∧ EnumAt l e it (i + 1) s2.heap ∧ ∀ b ∈ [e, it], H' b = none) fun h' tk t q' pair kp => ?_) (fun _ _ z => z) fun _ _ z => z
    refine ⟨.ref s.heap.objs.size, _, I.turnedNew (t' := tk) (ch := [e, it]) (fun b o nb z => kp b o (fun f => nb (by simp [f])) (fun f => nb (by simp [f])) z) hf (Nat.le_refl _) ?_, rfl, ⟨_, xs[i], rfl, I.hok.fresh (Nat.le_refl _), rfl, fun ys hy => by rw [I.tuple_inj hy sq]; exact List.getElem?_eq_getElem lt⟩, q', fun b hb => ?_⟩
    · exact ⟨by rw [sizeLine_eq]; exact Nat.le_of_ble_eq_true rfl, [.int (i : Int) t, u], .cons ⟨t, rfl⟩ (.cons ru .nil), _, pair, rfl, 0, rfl⟩
    · rw [upd_ne (Nat.ne_of_lt (small b hb))]; exact (hf b hb).1
  · subst hP hw hK
    obtain ⟨its, vals, tu, _⟩ := I.tuple sq
    obtain ⟨a0, a1, _, a3, a4, a5⟩ := hf it (by simp)
    have full : i = its.toArray.size := by rw [List.size_toArray, ← vals.length, len]
    exact en_stop (I.ok.hd hc) il (full ▸ q) tu fun h' keep => ⟨rfl, I.turned (t' := s.toks) (fun b o nb z => keep b o nb z) a0 a1 a3 a4 a5⟩
section
variable {X : Cx} {a : Expr} {env : List Sl} {pos p : Pos}
theorem wk_pairs {K : Fg} {F : Hp} {l : Addr} {vs : List V} {xs : List D} (h1 : SqT K F l vs) (d1 : DnA K F vs xs) : Wk K (IteT K l) F (enumD xs) where
  go i H lt up := ⟨vs, ex_t up h1, by rw [d1.length]; rwa [enumD_len] at lt⟩
  stop H up := ⟨vs, ex_t up h1, by rw [d1.length, enumD_len]⟩
  yld i F1 H x H' _ up1 up2 y := by
    obtain ⟨T, v, rfl, free, rfl, at_⟩ := y
    obtain ⟨z, ez, dz⟩ := d1.getV (at_ vs (ex_t (up1.trans up2) h1))
    have f1 := up2.none free
    have more : Ex F1 (upd F1 T (.tup [.int (i : Nat), v])) := Ex.new f1
    refine ⟨_, _, enumD_get ez, .tup (.inl (.inl upd_same)) (.cons (.int _) (.cons (dz.mono (up1.trans more)) .nil)), more, ex_upd2 up2, Ex.new free, fun b hb no => ?_⟩
    exact (upd_ne fun f => hb (by rw [f]; exact free)).trans no
theorem ir_enumT {xs : List D} {elts : List Expr} {kk : Nat} {tpos : Pos} (ha : AD X [a] env [.tuple xs]) (hm : X.mg "enumerate" = none) (hg : Gl X "enumerate" := by rfl) (hs : starEach [a] X.env = [(false, eval a X.env)] := by rfl) : IR X (.Tuple elts kk tpos) (.Call (.Name "enumerate" p) [a] [] pos) env (enumD xs) where
  run pins s σ H R I h := by
    obtain ⟨B, G, T, F, S, q⟩ := h
    refine Call_ (ld_blt I hg hm boot_enumerate (PyProof.Rows.callWith_type1 (thn (ha.run pos pins s σ H (fun vs H1 => ∃ F1, StR X.K B G T F1 env σ H1 ∧ Gr T F H F1 H1 ∧ DnA X.K F1 vs [.tuple xs]) I ⟨B, G, T, F, S, fun vs ds F1 H1 S1 g1 d1 e => ⟨F1, S1, g1, e ▸ d1⟩⟩) fun us s1 ⟨vs, H1, I1, r1, F1, S1, g1, d1⟩ => ?_) hs rfl))
    cases d1 with | cons d2 d3 =>
    cases d3
    cases d2 with | tup at_ dd =>
    rename_i l ws
    obtain rfl := Vals.ref1 r1
    obtain ⟨its, vals, tu, _⟩ := I1.tuple (ex_t S1.fh at_)
    have below : l < s1.heap.objs.size := by obtain ⟨_, z, _⟩ := id tu; exact Heap.lt_size z
    refine en_made (items := its.toArray) tu fun h' q' up => ?_
    obtain ⟨_, z⟩ := q'.en
    refine wpAny_pyIter_enum z ⟨_, [s1.heap.objs.size + 1, s1.heap.objs.size], _, IteT X.K l, H1, rfl, I1.kept (t' := s1.toks) up, turn_pairs (Nat.succ_ne_self _) (Nat.ne_of_gt (Nat.lt_succ_of_lt below)) (Nat.ne_of_lt below), q', fun b hb => ?_, q _ F1 H1 S1 g1 (wk_pairs at_ dd)⟩
    have above : s1.heap.objs.size ≤ b := by
      rcases (by simpa using hb : b = s1.heap.objs.size + 1 ∨ b = s1.heap.objs.size) with rfl | rfl
      · exact Nat.le_succ _
      · exact Nat.le_refl _
    exact I1.fpOk above (I1.hok.fresh above)
end
end DL

namespace DL
open PySem PySem.Spec PyProof.Rows L2 RZ
section
variable {X : Cx} {e : Expr} {env : List Sl} {Φ : Out} {rest : List Stmt} {x : Str} {pos : Pos}
/-- x.append(e), e an open reading -/
theorem sds_appendR {R : D → Prop} {xs : List D} (i : Nat) (hi : env[i]? = some (.own xs)) (he : AR X [e] env (fun ds => ∃ d, ds = [d] ∧ R d)) (hz : xs.length < 10000000) (hr : ∀ d, R d → SDs X rest (env.set i (.own (xs ++ [d]))) Φ) {npos apos cpos : Pos} (hN : X.N[i]? = some x := by rfl) (hv : Vis X.env.scope x := by first | exact Or.inl rfl | exact Or.inr (Or.inl rfl) | exact Or.inr (Or.inr rfl))
    (hd : (x == ("__debug__" : Str)) = false := by decide) (hcd : (x == ("__classdict__" : Str)) = false := by decide) (hsw : swapsWith (.Call (.Attribute (.Name x npos) "append" apos) [e] [] cpos) none pos.line X.env = pure false := by rfl)
    (hbase : attributeBase (.Name x npos) "append" X.env (eval (.Name x npos) X.env) = eval (.Name x npos) X.env := by rfl)
    (hfew : ((backTo cpos (starEach [e] X.env)).all (fun x => !x.1) && (backToKw cpos (keywordEach [] X.env)).all (fun x => x.1.isSome) && decide ([e].length + ([] : List Keyword).length + (if ([] : List Keyword).isEmpty then 0 else 1) < 30)) = true := by rfl)
    (hline : (apos.endLine == cpos.line) = true := by rfl) (hs : starEach [e] X.env = (false, eval e X.env) :: starEach [] X.env := by rfl) (hplain : (backTo cpos (starEach [] X.env)).any (·.1) = false := by rfl) : SDs X (.Expr (.Call (.Attribute (.Name x npos) "append" apos) [e] [] cpos) pos :: rest) env Φ :=
  PSs.imp (pss_cons (ps_expr (pe_bm PySem.F.plainAttrs_list PySem.F.slot_list_append PySem.F.type_list_append mt_append (pv i hN hv hd hcd) he hbase hfew hline hs hplain) hsw) (PSs.ex fun d : {d : D // R d} => hr d.1 d.2)) fun E σ H ⟨B, G, T, F, S, n⟩ => by
    obtain ⟨o, eo, p, vs, e2, b, f, np, hp, dn⟩ := S.some_at hi
    subst e2
    refine ⟨_, eo, .inl ⟨rfl, vs, SqL.of hp⟩, B, G, T, F, S, fun ws ds F' H' S' g da ⟨d, z, hR⟩ => ?_⟩
    subst z
    cases da with | cons d1 t =>
    cases t
    have hp' := g.hh _ _ hp np
    exact ⟨p, vs, _, rfl, rfl, hp', Nat.lt_trans (by rw [dn.length]; exact hz) (by decide), ⟨d, hR⟩, B, G, T, F', S'.upd_own hi eo ((dn.mono g.ff).append (.cons d1 .nil)), n⟩
end
/-! ### the shortest row -/
def dN (n : Int) : D := dayD (Cal.dayOf n)
noncomputable def tellO (x : Int) (r : Nat) (N : List Int) (i : Nat) (h : Cal.Hint) : Option Int := if i = 0 then Cal.rd h x r else Cal.nxt h (N.getD (i - 1) 0 + 1)
noncomputable def bestO (x : Int) (r : Nat) (N : List Int) (i : Nat) : Option Cal.Hint := (allH (N.getD i 0)).find? fun h => decide (tellO x r N i h = some (N.getD i 0))
noncomputable def bestL (x : Int) (r : Nat) (N : List Int) : List (Option Cal.Hint) := (List.range N.length).map (bestO x r N)
def rowT (L : List (Option Cal.Hint)) : D := if L.any (fun o => o.isNone) then .none else .tuple (L.map oHD)
theorem head_find {L : List Cal.Hint} {p : Cal.Hint → Bool} : headD (L.filter p) = oHD (L.find? p) := by
  induction L with
  | nil => rfl
  | cons h t ih =>
    rw [List.filter_cons, List.find?_cons]
    cases p h with
    | true => rfl
    | false => exact ih
theorem find_head {L : List Cal.Hint} {p : Cal.Hint → Bool} {h : Cal.Hint} (e : L.find? p = some h) : ∃ t, L.filter p = h :: t := by
  induction L with
  | nil => cases e
  | cons g t ih =>
    rw [List.find?_cons] at e
    rw [List.filter_cons]
    cases q : p g with
    | true => rw [q] at e; cases e; exact ⟨_, rfl⟩
    | false => rw [q] at e; exact ih e
theorem bestL_get {x : Int} {r : Nat} {N : List Int} {i : Nat} (h : i < N.length) : (bestL x r N)[i]? = some (bestO x r N i) := by
  unfold bestL
  rw [List.getElem?_map, List.getElem?_range h]; rfl
theorem bestL_len {x : Int} {r : Nat} {N : List Int} : (bestL x r N).length = N.length := by simp [bestL]
theorem best_take {x : Int} {r : Nat} {N : List Int} {i : Nat} (h : i < N.length) : ((bestL x r N).take (i + 1)).map oHD = ((bestL x r N).take i).map oHD ++ [oHD (bestO x r N i)] := by
  rw [take_succ' (bestL_get h), List.map_append]; rfl
theorem best_some {x : Int} {r : Nat} {N : List Int} {i : Nat} (h0 : i ≠ 0) (hlt : N.getD (i - 1) 0 < N.getD i 0) : ∃ h, bestO x r N i = some h := by
  unfold bestO
  cases q : (allH (N.getD i 0)).find? fun h => decide (tellO x r N i h = some (N.getD i 0)) with
  | some h => exact ⟨h, rfl⟩
  | none =>
    have := List.find?_eq_none.1 q _ full_mem
    refine absurd (decide_eq_true ?_) this
    unfold tellO
    rw [if_neg h0]
    exact (Cal.nxt_eq (r := some (N.getD i 0)) ⟨by omega, by rw [full_fit]; simp, fun j a b => by rw [full_fit]; exact decide_eq_false (by omega)⟩).symm
theorem any_oHD {L : List (Option Cal.Hint)} : ((L.map oHD).any fun y => PyData.eqv y .none) = L.any fun o => o.isNone := by
  rw [List.any_map]
  congr 1
  funext o
  cases o <;> rfl
theorem lk3_oHD {o : Option Cal.Hint} : lk 3 (oHD o) = true := by cases o with | none => rfl | some h => exact lk3_hint
end DL

namespace DL
open PySem PySem.Spec PyProof.Rows L2 RZ
/-! ### own lists: x[k] = e, x.pop(k), x.insert(k, e), x[::-1], list(t) -/
section
variable {X : Cx} {e a b : Expr} {es : List Expr} {env : List Sl} {Φ : Out} {pos p : Pos} {rest : List Stmt} {x : Str}
theorem sds_setixR {R : D → Prop} {xs : List D} {k : Int} (i : Nat) (hi : env[i]? = some (.own xs)) (he : ER X e env R) (hb : ED X b env (.int k)) (hk : 0 ≤ k ∧ k < xs.length)
    (hr : ∀ d, R d → SDs X rest (env.set i (.own (xs.set k.toNat d))) Φ) {npos ipos : Pos} (hN : X.N[i]? = some x := by rfl) (hv : Vis X.env.scope x := by first | exact Or.inl rfl | exact Or.inr (Or.inl rfl) | exact Or.inr (Or.inr rfl))
    (hd : (x == ("__debug__" : Str)) = false := by decide) (hcd : (x == ("__classdict__" : Str)) = false := by decide)
    (hs : swapsWithSole [.Subscript (.Name x npos) b ipos] e pos.line X.env = pure false := by rfl) (hw : swappedStores [.Subscript (.Name x npos) b ipos] e X.env = pure none := by rfl)
    (h1 : (assignEach [.Subscript (.Name x npos) b ipos] X.env).map (·.2) = [assign (.Subscript (.Name x npos) b ipos) X.env] := by rfl)
    (ha : ∀ v : Value, assign (.Subscript (.Name x npos) b ipos) X.env v = (do
      let ov ← holding [v] (eval (.Name x npos) X.env)
      let iv ← holding [v, ov] (eval b X.env)
      standAt ipos
      holding [v, ov, iv] (setItem ov iv v)
      release [v, ov, iv] []) := by intro _; rfl) : SDs X (.Assign [.Subscript (.Name x npos) b ipos] e pos :: rest) env Φ := by
  refine PSs.imp (pss_cons (ps_asg he (pg_sub (pv i hN hv hd hcd) hb set_list ha) hs hw h1) (PSs.ex fun d : {d : D // R d} => hr d.1 d.2)) fun E σ H ⟨B, G, T, F, S, n⟩ => ⟨B, G, T, F, S, fun v d1 F1 H1 S1 g1 dn1 hR => ?_⟩
  obtain ⟨o, eo, q⟩ := S1.some_at hi
  obtain ⟨p, vs, e2, bb, f, np, hp, dn⟩ := q
  subst e2
  refine ⟨_, eo, B, G, T, F1, S1, fun u d2 F2 H2 S2 g2 dn2 e3 => ?_⟩
  subst e3
  cases dn2
  have hp' := g2.hh _ _ hp np
  have hl : vs.length = xs.length := dn.length
  refine ⟨p, vs, k, k.toNat, rfl, rfl, hp', ?_, ⟨⟨d1, hR⟩, B, G, T, F2, S2.upd_own hi eo ((dn.mono g2.ff).set k.toNat (dn1.mono g2.ff)), n⟩⟩
  simp [L2.ixN, hk.1, hl, hk.2]
theorem dnA_erase {K : Fg} {F : Hp} : ∀ {vs : List V} {xs : List D} (_ : DnA K F vs xs) (k : Nat), DnA K F (vs.eraseIdx k) (xs.eraseIdx k)
  | _, _, .nil, _ => .nil
  | _, _, .cons h t, 0 => t
  | _, _, .cons h t, k + 1 => .cons h (dnA_erase t k)
theorem dnA_take {K : Fg} {F : Hp} : ∀ {vs : List V} {xs : List D} (_ : DnA K F vs xs) (k : Nat), DnA K F (vs.take k) (xs.take k)
  | _, _, .nil, k => by rw [List.take_nil, List.take_nil]; exact .nil
  | _, _, .cons h t, 0 => .nil
  | _, _, .cons h t, k + 1 => .cons h (dnA_take t k)
theorem dnA_drop {K : Fg} {F : Hp} : ∀ {vs : List V} {xs : List D} (_ : DnA K F vs xs) (k : Nat), DnA K F (vs.drop k) (xs.drop k)
  | _, _, .nil, k => by rw [List.drop_nil, List.drop_nil]; exact .nil
  | _, _, .cons h t, 0 => .cons h t
  | _, _, .cons h t, k + 1 => dnA_drop t k
theorem dnA_rev {K : Fg} {F : Hp} : ∀ {vs : List V} {xs : List D} (_ : DnA K F vs xs), DnA K F vs.reverse xs.reverse
  | _, _, .nil => .nil
  | _, _, .cons h t => by rw [List.reverse_cons, List.reverse_cons]; exact (dnA_rev t).append (.cons h .nil)
theorem sds_popAt {xs : List D} {k : Int} (i : Nat) (hi : env[i]? = some (.own xs)) (he : AD X [e] env [.int k]) (hk : 0 ≤ k ∧ k < xs.length) (hz : xs.length < 10000000) (hr : SDs X rest (env.set i (.own (xs.eraseIdx k.toNat))) Φ) {npos apos cpos : Pos} (hN : X.N[i]? = some x := by rfl) (hv : Vis X.env.scope x := by first | exact Or.inl rfl | exact Or.inr (Or.inl rfl) | exact Or.inr (Or.inr rfl))
    (hd : (x == ("__debug__" : Str)) = false := by decide) (hcd : (x == ("__classdict__" : Str)) = false := by decide) (hsw : swapsWith (.Call (.Attribute (.Name x npos) "pop" apos) [e] [] cpos) none pos.line X.env = pure false := by rfl)
    (hbase : attributeBase (.Name x npos) "pop" X.env (eval (.Name x npos) X.env) = eval (.Name x npos) X.env := by rfl)
    (hfew : ((backTo cpos (starEach [e] X.env)).all (fun x => !x.1) && (backToKw cpos (keywordEach [] X.env)).all (fun x => x.1.isSome) && decide ([e].length + ([] : List Keyword).length + (if ([] : List Keyword).isEmpty then 0 else 1) < 30)) = true := by rfl)
    (hline : (apos.endLine == cpos.line) = true := by rfl) (hs : starEach [e] X.env = (false, eval e X.env) :: starEach [] X.env := by rfl) (hplain : (backTo cpos (starEach [] X.env)).any (·.1) = false := by rfl) : SDs X (.Expr (.Call (.Attribute (.Name x npos) "pop" apos) [e] [] cpos) pos :: rest) env Φ :=
  PSs.imp (pss_cons (ps_expr (pe_bm PySem.F.plainAttrs_list PySem.F.slot_list_pop PySem.F.type_list_pop mt_popAt (pv i hN hv hd hcd) he hbase hfew hline hs hplain) hsw) hr) fun E σ H ⟨B, G, T, F, S, n⟩ => by
    obtain ⟨o, eo, p, vs, e2, b, f, np, hp, dn⟩ := S.some_at hi
    subst e2
    refine ⟨_, eo, .inl ⟨rfl, vs, SqL.of hp⟩, B, G, T, F, S, fun ws ds F' H' S' g da z => ?_⟩
    subst z
    cases da with | cons d1 t =>
    cases t
    cases d1
    have hp' := g.hh _ _ hp np
    have hl : vs.length = xs.length := dn.length
    have hlt : k.toNat < vs.length := by omega
    refine ⟨p, vs, k, k.toNat, vs[k.toNat], rfl, rfl, hp', by omega, by omega, ?_, List.getElem?_eq_getElem hlt, B, G, T, F', S'.upd_own hi eo ((dnA_erase dn k.toNat).mono g.ff), n⟩
    have h2 : ¬ k < 0 := by omega
    have h3 : k < (vs.length : Int) := by omega
    simp [seqIndex?, h2, hk.1, h3]
theorem sds_insertR {R : D → Prop} {xs : List D} {k : Int} (i : Nat) (hi : env[i]? = some (.own xs)) (he : AR X [a, b] env (fun ds => ∃ d, ds = [.int k, d] ∧ R d)) (hk : 0 ≤ k ∧ k ≤ xs.length) (hz : xs.length < 10000000) (hr : ∀ d, R d → SDs X rest (env.set i (.own (xs.take k.toNat ++ [d] ++ xs.drop k.toNat))) Φ) {npos apos cpos : Pos} (hN : X.N[i]? = some x := by rfl) (hv : Vis X.env.scope x := by first | exact Or.inl rfl | exact Or.inr (Or.inl rfl) | exact Or.inr (Or.inr rfl))
    (hd : (x == ("__debug__" : Str)) = false := by decide) (hcd : (x == ("__classdict__" : Str)) = false := by decide) (hsw : swapsWith (.Call (.Attribute (.Name x npos) "insert" apos) [a, b] [] cpos) none pos.line X.env = pure false := by rfl)
    (hbase : attributeBase (.Name x npos) "insert" X.env (eval (.Name x npos) X.env) = eval (.Name x npos) X.env := by rfl)
    (hfew : ((backTo cpos (starEach [a, b] X.env)).all (fun x => !x.1) && (backToKw cpos (keywordEach [] X.env)).all (fun x => x.1.isSome) && decide ([a, b].length + ([] : List Keyword).length + (if ([] : List Keyword).isEmpty then 0 else 1) < 30)) = true := by rfl)
    (hline : (apos.endLine == cpos.line) = true := by rfl) (hs : starEach [a, b] X.env = (false, eval a X.env) :: starEach [b] X.env := by rfl) (hplain : (backTo cpos (starEach [b] X.env)).any (·.1) = false := by rfl) : SDs X (.Expr (.Call (.Attribute (.Name x npos) "insert" apos) [a, b] [] cpos) pos :: rest) env Φ :=
  PSs.imp (pss_cons (ps_expr (pe_bm PySem.F.plainAttrs_list PySem.F.slot_list_insert PySem.F.type_list_insert mt_insert (pv i hN hv hd hcd) he hbase hfew hline hs hplain) hsw) (PSs.ex fun d : {d : D // R d} => hr d.1 d.2)) fun E σ H ⟨B, G, T, F, S, n⟩ => by
    obtain ⟨o, eo, p, vs, e2, b, f, np, hp, dn⟩ := S.some_at hi
    subst e2
    refine ⟨_, eo, .inl ⟨rfl, vs, SqL.of hp⟩, B, G, T, F, S, fun ws ds F' H' S' g da ⟨d, z, hR⟩ => ?_⟩
    subst z
    cases da with | cons d1 t =>
    cases t with | cons d2 t =>
    cases t
    cases d1
    have hp' := g.hh _ _ hp np
    have hl : vs.length = xs.length := dn.length
    have dn' := dn.mono g.ff
    refine ⟨p, vs, k, _, rfl, rfl, hp', by rw [sizeLine_eq]; omega, hk.1, by omega, ⟨d, hR⟩, B, G, T, F', S'.upd_own hi eo (((dnA_take dn' k.toNat).append (.cons d2 .nil)).append (dnA_drop dn' k.toNat)), n⟩
/-- x[::-1] -/
theorem ed_rev {xs : List D} {k : Nat} {p1 p2 p3 : Pos} (he : ED X e env (.list xs)) : ED X (.Subscript e (.Slice none none (some (.UnaryOp .USub (.Constant (.int 1) k p1) p2)) p3) pos) env (.list xs.reverse) :=
  PE.imp (pe_revL he) fun σ H Q ⟨B, G, T, F, S, q⟩ => ⟨B, G, T, F, S, fun v d F1 H1 S1 g1 d1 e1 => by
    subst e1
    cases d1 with | lst h d =>
    refine ⟨_, _, rfl, SqL.of (S1.fh _ _ h), fun p hp => ?_⟩
    obtain ⟨S', g⟩ := S1.lay (o := .lst _) hp
    exact q _ _ _ _ S' (g1.trans g S1.tpn) (.lst upd_same ((dnA_rev d).mono g.ff)) rfl⟩
/-- list(t), a list of its own -/
theorem ex_listT {xs : List D} (ha : AD X [e] env [.tuple xs]) (hm : X.mg "list" = none) (hg : Gl X "list" := by rfl)
    (he : starEach [e] X.env = (false, eval e X.env) :: starEach [] X.env := by rfl) (hpl : (backTo pos (starEach [] X.env)).any (·.1) = false := by rfl) : EX X (.Call (.Name "list" p) [e] [] pos) env (.own xs) :=
  PE.imp (pe_callTy call_list_of hg hm boot_list ha (by decide) (by decide) he hpl) fun σ H Q ⟨B, G, T, F, S, q⟩ => ⟨B, G, T, F, S, fun vs ds F1 H1 S1 g1 d1 e1 => by
    subst e1
    cases d1 with | cons h t =>
    cases t
    cases h with | tup h d =>
    refine ⟨_, _, rfl, .inr (ex_t S1.fh h), fun p hp => ?_⟩
    obtain ⟨S', g⟩ := S1.layOwn hp d
    exact q _ _ _ _ S' (g1.trans g S1.tpn) (fun _ p' e => by injection e with e; subst e; exact g1.none_of S1 hp) rfl⟩
/-- an open list is walked -/
theorem iro_lst {tg : Expr} {Ψ : List D → Prop} (h : ER X e env (fun d => ∃ ys, d = .list ys ∧ Ψ ys)) : IRo X tg e env Ψ := PI.imp (pi_list h) fun σ H R ⟨B, G, T, F, S, q⟩ => ⟨B, G, T, F, S, fun v d F' H' S' g dn ⟨ys, z, hψ⟩ => by
  subst z
  cases dn with | lst h d => exact ⟨_, rfl, ⟨_, SqL.of (S'.fh _ _ h)⟩, q _ F' H' ys S' g (wk_lst h d) hψ⟩⟩
end
theorem lks_all {n : Nat} : ∀ {ys : List D}, (∀ y ∈ ys, lk n y = true) → lks n ys = true
  | [], _ => rfl
  | y :: ys, h => by
    show (lk n y && lks n ys) = true
    rw [h y (by simp), lks_all fun z hz => h z (by simp [hz])]; rfl
theorem lk_mono : ∀ {n : Nat} {d : D}, lk n d = true → lk (n + 1) d = true
  | _, .dict _, h => by rw [lk_dict] at h; cases h
  | _, .none, _ => rfl
  | _, .bool _, _ => rfl
  | _, .int _, _ => rfl
  | 0, .str x, h => by simpa [lk] using h
  | n + 1, .str x, h => by simpa [lk] using h
  | 0, .list _, h => by simp [lk] at h
  | 0, .tuple _, h => by simp [lk] at h
  | n + 1, .list ys, h => by
    simp only [lk, Bool.and_eq_true, decide_eq_true_eq] at h ⊢
    exact ⟨h.1, lks_all fun y hy => lk_mono (lks_mem h.2 hy)⟩
  | n + 1, .tuple ys, h => by
    simp only [lk, Bool.and_eq_true, decide_eq_true_eq] at h ⊢
    exact ⟨h.1, lks_all fun y hy => lk_mono (lks_mem h.2 hy)⟩
/-- a value with no list in it: None or a whole number -/
def FlI (x : D) : Prop := x = .none ∨ ∃ i : Int, x = .int i
theorem FlI.scal {x : D} (h : FlI x) : scalD x = true := by rcases h with rfl | ⟨i, rfl⟩ <;> rfl
theorem FlI.lk {x : D} (h : FlI x) {n : Nat} : DL.lk n x = true := by rcases h with rfl | ⟨i, rfl⟩ <;> cases n <;> rfl
def wholeB (x : D) : Bool := match x with
  | .int _ => true
  | _ => false
end DL

namespace DL
open PySem PySem.Spec PyProof.Rows L2 RZ
open PySem.Sem (wp)
open L2H (HotC)
/-! ### a list walked in a comprehension while an exception is handled -/
section
variable {prog : Program} {w : World} {A : Around} {E : Value → Shared → Prop} {s : Shared}
theorem pyNext_list_end_hot {it l x1 : Addr} {i : Nat} {items : Array Value} {Q : Option Value → Shared → Prop} (hot : HotX.HotAt A x1 s.heap) (hne : x1 ≠ it) (hit : s.heap.IsListIter it l i) (hl : s.heap.IsList l items) (hx : items[i]? = none)
    (hQ : ∀ h', Heap.ExtBut it s.heap h' → Q none { s with heap := h' }) : wpAny (model prog w) A (pyNext (.ref it)) Q E s := by
  obtain ⟨o, ho, hc, hd⟩ := id hit
  obtain ⟨ol, hol, _, nl, hdl⟩ := hl
  obtain ⟨hh, o1, vs1, h1, d1, c1⟩ := hot
  unfold pyNext
  refine wpAny_bind (wpAny_attempt (wpAny_callSpecial?_slot (name := Str.ofString "__next__") hit.typeIs slot_listiter_next
    (wpAny_call_entry slot_listiter_next hit.typeIs entry_listiter_next ?_ (args_listiter_next _))))
  show wpAny _ _ (field (.ref it) 0 >>= _) _ _ s
  refine wpAny_bind (wpAny_field ho hd (x := .ref l) rfl ?_)
  show wpAny _ _ (if (Value.ref l == Value.none) = true then _ else _) _ _ s
  rw [if_neg (show ¬ ((Value.ref l == Value.none) = true) from Bool.false_ne_true)]
  show wpAny _ _ (field (.ref it) 1 >>= _) _ _ s
  refine wpAny_bind (wpAny_field ho hd (x := .int i 0) rfl ?_)
  show wpAny _ _ (seqItems? (.ref l) >>= _) _ _ s
  refine wpAny_bind (wpAny_seqItems hol hdl ?_)
  simp only [Int.toNat_natCast, hx]
  refine wpAny_bind (wpAny_rule (wpAny_bind (wpAny_setField ho hd (by simp) ?_)))
  show wpAny _ _ (newExc (.type "StopIteration") [] >>= _) _ _ _
  refine wpAny_bind ?_
  simp only [newExc, newTuple]
  refine wpAny_bind (wpAny_newObj_type ?_ (by size_fits))
  refine wpAny_bind (m := firstArgMember _ _) (wpAny_of_eq (a := Value.none) (by first | rfl | (simp only [firstArgMember]; rfl)) ?_)
  refine wpAny_newObj_type ?_ (by size_fits)
  have kept : ∀ b u, b ≠ it → s.heap.get? b = some u → ∀ g, (s.heap.update it g).get? b = some u := fun b u n z g => (Heap.get?_update_other _ _ (Ne.symm n)).trans z
  refine HotX.raiseNew_hot ⟨hh, o1, vs1, Heap.get?_push_of_some _ (Heap.get?_push_of_some _ (kept x1 o1 hne h1 _)), d1, c1⟩ (Nat.ne_of_lt (Heap.lt_size (Heap.get?_push_of_some _ (kept x1 o1 hne h1 _)))) (Heap.get?_push_size _ rfl) rfl (by first | (simp; done) | (simp; omega)) ?_
  refine wpAny_bind (wpAny_isInstance (T := "StopIteration") (b := true) ⟨_, Heap.get?_update_self _ (Heap.get?_push_size _ rfl) rfl, rfl⟩ isSubtype_stop ?_)
  refine wpAny_pure (hQ _ fun b u n z => ?_)
  refine (Heap.get?_update_other _ _ ?_).trans (Heap.get?_push_of_some _ (Heap.get?_push_of_some _ (kept b u n z _)))
  exact Nat.ne_of_gt (Heap.lt_size (Heap.get?_push_of_some _ (kept b u n z _)))
end
section
variable {X : Cx}
/-- wherever the context stands, the handled exception stands too -/
def HotI (X : Cx) : Prop := ∀ (pins : List (Addr × Obj)) (σ : L2.St) (H : Hp) (s : Shared), Inv X pins σ H s → ∃ x1, HotX.HotAt X.A x1 s.heap
theorem HotC.inv {X : Cx} (c : HotC X) : HotI X := fun _ _ _ _ I => L2H.HotC.at c I
/-- [elt for tg in l if ..], l a list, where an exception is handled -/
theorem pe_lcHot {elt tg l : Expr} {ifs : List Expr} {scope : Scope} {own : List (Str × Nat)} {pos : Pos} {tl : TE} {g : TG} {tt : TT} {te : TE} (hot : HotC X) (hN : X.N.Nodup) (hl : PE X l tl) (ok : BlkOk X.N X.env.scope scope own)
    (hg : ∀ (s : Shared) (H : Hp) (C : Addr) (cl : List (Str × Addr)) (fp : List Addr), HotI (X.blk s H scope (compEnvC scope cl C X.env) fp) → PG (X.blk s H scope (compEnvC scope cl C X.env) fp) tg g) (ht : ∀ (s : Shared) (H : Hp) (C : Addr) (cl : List (Str × Addr)) (fp : List Addr), HotI (X.blk s H scope (compEnvC scope cl C X.env) fp) → PTs (X.blk s H scope (compEnvC scope cl C X.env) fp) ifs tt)
    (he : ∀ (s : Shared) (H : Hp) (C : Addr) (cl : List (Str × Addr)) (fp : List Addr), HotI (X.blk s H scope (compEnvC scope cl C X.env) fp) → PE (X.blk s H scope (compEnvC scope cl C X.env) fp) elt te) (hf : ∀ x, foldedSetIterable l X.env x = pure x := by intro _; rfl) :
    PE X (.ListComp elt [⟨tg, l, ifs, 0⟩] scope pos) (tLc (iList X.K tl) g tt te (own.map (·.2))) where
  run pins s σ H Q I h := by
    rw [eval_ListComp]
    have seen : ∀ y ∈ scope.names, y.2 = .free → ∃ c, X.env.cells.lookup y.1 = some c := fun y hy e => by
      rcases ok.free y hy e with k | k
      · exact I.ok.has _ (.inl k)
      · exact I.ok.has _ (.inr k)
    refine wpAny_comprehension_free (use := none) rfl hf (closure_ok seen) ok.kind (fun y hy e => by rw [ok.uniq y hy, e]) (thn (hl.run pins s σ H _ I h) fun v s1 ⟨x, H1, I1, r1, q1⟩ => ?_)
    obtain ⟨a, rfl, ⟨xs, hq⟩, q⟩ := q1
    cases r1
    obtain ⟨_, _, p1, _⟩ := I1.list hq
    refine wpAny_pyIter_list p1.isList ?_
    -- the iterator, the new list
    have I2 : Inv X pins σ H1 { s1 with heap := s1.heap.push { cls := .type "list_iterator", data := .fields #[.ref a, .int 0 0] } } := I1.kept (t' := s1.toks) fun b o e => Heap.get?_push_of_some _ e
    have at2 : (s1.heap.push { cls := .type "list_iterator", data := .fields #[.ref a, .int 0 0] }).IsListIter s1.heap.objs.size a 0 := ⟨_, Heap.get?_push_size _ rfl, rfl, rfl⟩
    have fr2 : FpOk X pins H1 s1.heap.objs.size := I1.fpOk (Nat.le_refl _) (I1.hok.fresh (Nat.le_refl _))
    have lt2 : s1.heap.objs.size < (s1.heap.push { cls := .type "list_iterator", data := .fields #[.ref a, .int 0 0] }).objs.size := by rw [Heap.size_push]; exact Nat.lt_succ_self _
    generalize s1.heap.push { cls := .type "list_iterator", data := .fields #[.ref a, .int 0 0] } = h2 at *
    generalize s1.heap.objs.size = it at *
    refine wpAny_newObj_type (newEnv_comp ?_) (Nat.zero_le _)
    have free2 : H1 h2.objs.size = none := I2.hok.fresh (Nat.le_refl _)
    obtain ⟨W, ⟨m0, w0⟩, turn⟩ := q h2.objs.size free2
    have I3 : Inv X pins σ (upd H1 h2.objs.size (.lst [])) { s1 with heap := h2.push { cls := .type "list", data := .seq ([] : List Value).toArray } } :=
      I2.laid (t' := s1.toks) (fun b o e => Heap.get?_push_of_some _ e) (Nat.le_refl _) ⟨Nat.zero_le _, [], 0, .nil, Heap.get?_push_size _ rfl⟩
    have at3 : (h2.push { cls := .type "list", data := .seq ([] : List Value).toArray }).IsListIter it a 0 := at2.at fun o e => Heap.get?_push_of_some _ e
    have fr3 : FpOk X pins (upd H1 h2.objs.size (.lst [])) it := ⟨by rw [upd_ne (Nat.ne_of_lt lt2)]; exact fr2.1, fr2.2⟩
    have lt3 : it < (h2.push { cls := .type "list", data := .seq ([] : List Value).toArray }).objs.size := by rw [Heap.size_push]; exact Nat.lt_succ_of_lt lt2
    generalize h2.push { cls := .type "list", data := .seq ([] : List Value).toArray } = h3 at *
    generalize h2.objs.size = D at *
    generalize upd H1 D (.lst []) = H3 at *
    -- the block
    let B : Cx := X.blk { s1 with heap := h3 } H3 scope (compEnvC scope (cellsFrom (h3.objs.size + 1) scope.names (cloFrom X.env.cells scope.names [])) h3.objs.size X.env) [it]
    have I4 : Inv B [] (wipe σ (own.map (·.2))) H3 { s1 with heap := pushCells (h3.push { cls := .type "dict", data := .dict #[] }) scope.names } :=
      block_start I3 ok hN fun b hb => by rw [List.mem_singleton.mp hb]; exact ⟨fr3, lt3⟩
    have at4 : (pushCells (h3.push { cls := .type "dict", data := .dict #[] }) scope.names).IsListIter it a 0 := at3.at fun o e => pushCells_keeps _ _ _ _ (Heap.get?_push_of_some _ e)
    have home : ∀ {σ' : L2.St} {H' : Hp} {s' : Shared}, Inv B [] σ' H' s' → H' it = none → FpOk B [] H' it := fun {σ' H' s'} J n =>
      ⟨n, (J.ok.exf it (by simp [B])).1, J.ok.exfs it (by simp [B]), .inl (by simp [B]), fun x c e => (J.ok.exf it (by simp [B])).2 x c e, fun p hp => absurd (show p ∈ ([] : List (Addr × Obj)) ++ [] from hp) (by simp)⟩
    -- the exception that is handled stands there all along
    have held : ∀ {pins' : List (Addr × Obj)} {σ' : L2.St} {H' : Hp} {s' : Shared}, Inv B pins' σ' H' s' → ∃ x1, x1 ≠ it ∧ HotX.HotAt X.A x1 s'.heap := fun {pins' σ' H' s'} J => by
      obtain ⟨p, ⟨hh, v1, e1, c1⟩, hp⟩ := hot
      have hp' : p ∈ X.pn ++ pins := List.mem_append_left _ hp
      obtain ⟨g1, g2, g3, g4, _⟩ := I3.pin p hp'
      have far := fr3.2.2.2.2.2 p hp'
      have nfs : p.1 ∉ B.fs := fun z => by
        rcases List.mem_cons.mp (I3.stkSub _ z) with e | e
        · exact g3 e
        · exact g4 e
      exact ⟨p.1, far, hh, p.2, v1, J.base.keep p.1 p.2 g1 g2 nfs (by simpa [B] using far), e1, c1⟩
    have hotB : HotI B := fun _ _ _ _ J => let ⟨x1, _, h⟩ := held J; ⟨x1, h⟩
    have pg := hg { s1 with heap := h3 } H3 h3.objs.size (cellsFrom (h3.objs.size + 1) scope.names (cloFrom X.env.cells scope.names [])) [it] hotB
    have pt := ht { s1 with heap := h3 } H3 h3.objs.size (cellsFrom (h3.objs.size + 1) scope.names (cloFrom X.env.cells scope.names [])) [it] hotB
    have pe := he { s1 with heap := h3 } H3 h3.objs.size (cellsFrom (h3.objs.size + 1) scope.names (cloFrom X.env.cells scope.names [])) [it] hotB
    refine codeAny_compStart_list ?_ (wpAny_pyIter_listiter at4 ?_) <;>
    refine compLoop_any (fun n s' => ∃ i H', Inv B [] (wipe σ (own.map (·.2))) H' s' ∧ s'.heap.IsListIter it a i ∧ H' it = none ∧ W i n H') ?_ m0 ⟨0, H3, I4, at4, fr3.1, w0⟩ <;>
    · rintro n s5 ⟨i, H5, I5, at5, no5, w5⟩
      rcases turn i n H5 w5 with ⟨⟨ys, hy, hle⟩, last⟩ | ⟨⟨ys, y, hy, hyi⟩, Nx, low, step⟩
      · obtain ⟨x1, ne, ho⟩ := held I5
        obtain ⟨its, rv, p5, _⟩ := I5.list hy
        have z := rv.length
        refine pyNext_list_end_hot ho ne at5 p5.isList (by simp; omega) fun h6 kp => ?_
        obtain ⟨b0, b1, _, b3, b4, b5⟩ := home I5 no5
        have I6 : Inv B [] (wipe σ (own.map (·.2))) H5 { s5 with heap := h6 } := I5.turned (t' := s5.toks) (fun b o nb e => kp b o nb e) b0 b1 b3 b4 b5
        have I7 : Inv X pins σ H5 { s5 with heap := h6 } := I3.call' (ch := [it]) I6.os I6.base I6.hok I6.bare fun b hb => by rw [List.mem_singleton.mp hb]; exact ⟨fr3.2.2.2.1, fr3.2.1, fr3.2.2.2.2.1, fr3.2.2.2.2.2⟩
        have own0 : H5 h3.objs.size = none := I6.free
        obtain ⟨m, hm, _⟩ := I6.loc
        refine ⟨m, hm, fun h8 sb => ⟨.ref D, H5, ?_, rfl, last⟩⟩
        obtain ⟨c0, c1, _, c3, c4, c5⟩ := I3.fpOk (Nat.le_refl _) own0
        exact I7.turned (t' := s5.toks) (fun b o nb e => (sb.2 b nb).trans e) c0 c1 c3 c4 c5
      · obtain ⟨its, rv, p5, _⟩ := I5.list hy
        obtain ⟨u, eu, ru⟩ := rv.get hyi
        obtain ⟨b0, b1, _, b3, b4, b5⟩ := home I5 no5
        refine wpAny_pyNext_list_item at5 p5.isList (x := u) (by simpa using eu) fun h6 at6 sb => ?_
        have I6 : Inv B [] (wipe σ (own.map (·.2))) H5 { s5 with heap := h6 } := I5.turned (t' := s5.toks) (fun b o nb e => (sb.2 b nb).trans e) b0 b1 b3 b4 b5
        obtain ⟨oi, ei, ci, di⟩ := id at6
        refine go_of (s := { s5 with heap := h6 }) ei ci di (by decide) ?_
        have I6p := I6.pinned (fp := [it]) (fun b hb => by rw [List.mem_singleton.mp hb]; exact home I6 no5) (fun b hb => by rw [List.mem_singleton.mp hb]; exact ⟨oi, ei, fun v z => by rw [di] at z; cases z⟩)
        have iter : ∀ {s' : Shared} {H' : Hp} {σ' : L2.St}, Inv B ([] ++ pinsAt [it] h6) σ' H' s' → s'.heap.get? it = some oi ∧ H' it = none := fun {s' H' σ'} J =>
          let z := J.pin (it, oi) (List.mem_append_right _ (List.mem_append_right _ (mem_pinsAt (by simp) ei)))
          ⟨z.1, z.2.1⟩
        refine thnF (pg.run _ _ _ H5 y u _ I6p ru (step y H5 ⟨rfl, fun zs hz => by rw [I5.list_inj hz hy]; exact hyi⟩)) fun _ s8 ⟨σ8, H8, I8, same, q8⟩ => ?_
        refine thnF (pt.run _ s8 σ8 H8 _ I8 q8) fun b s9 ⟨H9, I9, q9⟩ => ?_
        have next : ∀ {s' : Shared} {H' : Hp}, Inv B ([] ++ pinsAt [it] h6) σ8 H' s' → Nx H' → ∃ m, m < n ∧ ∃ i H', Inv B [] (wipe σ (own.map (·.2))) H' s' ∧ s'.heap.IsListIter it a i ∧ H' it = none ∧ W i m H' := fun {s' H'} J nx => by
          obtain ⟨m', lt, w'⟩ := low H' nx
          obtain ⟨z1, z2⟩ := iter J
          exact ⟨m', lt, i + 1, H', (J.unpinned (pins := [])).weak (by rw [← same, wipe_length]) (fun j v e => by rw [← same] at e; exact (wipe_some e).1), ⟨oi, z1, ci, di⟩, z2, w'⟩
        cases b with
        | false => exact next I9 (by simpa using q9)
        | true =>
          simp only [if_true] at q9 ⊢
          refine thnF (pe.run _ s9 σ8 H9 _ I9 q9) fun z s10 ⟨yv, H10, I10, r10, acc, hD10, hz10, nx⟩ => ?_
          exact app_ok (X := B) I10 hD10 hz10 r10 fun s11 I11 => next I11 nx
end
end DL

namespace DL
open PySem PySem.Spec PyProof.Rows L2 RZ

/-! ### statements and expressions that may raise: W takes what is raised -/
def uns (n : Nat) : List Sl := List.replicate n .un
theorem StR.uns {K : Fg} {B G F H : Hp} {T : Option TP} {env : List Sl} {σ σ' : L2.St} (S : StR K B G T F env σ H) (hl : σ'.length = env.length) : StR K B G T F (uns env.length) σ' H where
  gf := S.gf
  fh := S.fh
  bh := S.bh
  nf := S.nf
  len := by simp [DL.uns, hl]
  sl := fun i s o e1 e2 => by
    have := List.mem_of_getElem? e1
    rw [List.eq_of_mem_replicate this]; trivial
  ds := fun i j s s' _ e1 _ o1 _ => by
    rw [List.eq_of_mem_replicate (List.mem_of_getElem? e1)] at o1; cases o1
  tp := S.tp
def rdSx (K : Fg) (W : WX) (env : List Sl) (N : List Sl → Prop) (R : D → Prop) (Ψ : Value → Prop) : TS := fun E σ H => ∃ B G T F, StR K B G T F env σ H ∧
  (∀ env' σ' F' H', StR K B G T F' env' σ' H' → N env' → E.nx σ' H') ∧ (∀ v d env' σ' F' H', StR K B G T F' env' σ' H' → Dn K F' v d → R d → E.rt v H') ∧ (∀ cls σ' F' H', StR K B G T F' (uns env.length) σ' H' → Ψ cls → W cls none σ' H')
def SX (X : Cx) (W : WX) (st : List Stmt) (env : List Sl) (N : List Sl → Prop) (R : D → Prop) (Ψ : Value → Prop) : Prop := PSs X st (rdSx X.K W env N R Ψ)
def rdEX (K : Fg) (W : WX) (env : List Sl) (R : D → Prop) (Ψ : Value → Prop) : TE := fun σ H Q => ∃ B G T F, StR K B G T F env σ H ∧ (∀ v d F' H', StR K B G T F' env σ H' → Gr T F H F' H' → Dn K F' v d → R d → Q v H') ∧
  (∀ cls σ' F' H', StR K B G T F' (uns env.length) σ' H' → Ψ cls → W cls none σ' H')
def EX1 (X : Cx) (W : WX) (e : Expr) (env : List Sl) (R : D → Prop) (Ψ : Value → Prop) : Prop := PE X e (rdEX X.K W env R Ψ)
section
variable {X : Cx} {W : WX} {e c : Expr} {env : List Sl} {N : List Sl → Prop} {R : D → Prop} {Ψ Ψ0 : Value → Prop} {x : Str} {pos p pos' : Pos} {rest thn : List Stmt}
theorem ex1_of (h : ER X e env R) : EX1 X W e env R Ψ0 := PE.imp h fun σ H Q ⟨B, G, T, F, S, q, _⟩ => ⟨B, G, T, F, S, q⟩
theorem ex1_imp {R' : D → Prop} {Ψ1 : Value → Prop} (h : EX1 X W e env R' Ψ1) (h1 : ∀ d, R' d → R d) (h2 : ∀ c, Ψ1 c → Ψ0 c) : EX1 X W e env R Ψ0 :=
  PE.imp h fun σ H Q ⟨B, G, T, F, S, q, x⟩ => ⟨B, G, T, F, S, fun v d F' H' S' g dn r => q v d F' H' S' g dn (h1 d r), fun cls σ' F' H' S' z => x cls σ' F' H' S' (h2 cls z)⟩
theorem ex1_if {a b : Expr} {k : Bool} (hc : TD X c env k) (ha : k = true → EX1 X W a env R Ψ0) (hb : k = false → EX1 X W b env R Ψ0) : EX1 X W (.IfExp c a b pos) env R Ψ0 := by
  cases k with
  | true =>
    refine PE.imp (pe_ifExp (tb := fun _ _ _ => False) hc (ha rfl) ⟨fun _ _ _ _ _ _ h => h.elim⟩) fun σ H Q ⟨B, G, T, F, S, q, x⟩ => ⟨B, G, T, F, S, fun v F1 H1 S1 g e => ?_⟩
    subst e
    exact iteT ⟨B, G, T, F1, S1, fun v d F' H' S' g' => q v d F' H' S' (g.trans g' S1.tpn), x⟩
  | false =>
    refine PE.imp (pe_ifExp (ta := fun _ _ _ => False) hc ⟨fun _ _ _ _ _ _ h => h.elim⟩ (hb rfl)) fun σ H Q ⟨B, G, T, F, S, q, x⟩ => ⟨B, G, T, F, S, fun v F1 H1 S1 g e => ?_⟩
    subst e
    exact iteF ⟨B, G, T, F1, S1, fun v d F' H' S' g' => q v d F' H' S' (g.trans g' S1.tpn), x⟩
theorem sx_nil (h : N env) : SX X W [] env N R Ψ := PSs.imp pss_nil fun E σ H ⟨B, G, T, F, S, n, _⟩ => n _ _ _ _ S h
theorem sx_set (i : Nat) {s : Sl} (h : EX X e env s) (hr : SX X W rest (env.set i s) N R Ψ) (hN : X.N.Nodup := by assumption) (hi : X.N[i]? = some x := by rfl) (hx : Loc X.env.scope x := by first | exact .inl rfl | exact .inr rfl)
    (hs : swapsWith e (some (.Name x pos')) pos.line X.env = pure false := by rfl) (hf : X.fn x = true ∨ X.env.scope.names.lookup x = some .local := by first | exact .inl rfl | exact .inr rfl | assumption) : SX X W (.Assign [.Name x pos'] e pos :: rest) env N R Ψ :=
  PSs.imp (pss_cons (ps_set hN hi hx h hs hf) hr) fun E σ H ⟨B, G, T, F, S, n⟩ => ⟨B, G, T, F, S, fun v s' F' H' S' g fr e => by subst e; exact ⟨B, G, T, F', S'.put S.len i, by simpa only [List.length_set] using n⟩⟩
theorem sx_setR (i : Nat) {Q : D → Prop} (h : ER X e env Q) (hr : ∀ d, Q d → SX X W rest (env.set i (.dt d)) N R Ψ) (hN : X.N.Nodup := by assumption) (hi : X.N[i]? = some x := by rfl) (hx : Loc X.env.scope x := by first | exact .inl rfl | exact .inr rfl)
    (hs : swapsWith e (some (.Name x pos')) pos.line X.env = pure false := by rfl) (hf : X.fn x = true ∨ X.env.scope.names.lookup x = some .local := by first | exact .inl rfl | exact .inr rfl | assumption) : SX X W (.Assign [.Name x pos'] e pos :: rest) env N R Ψ :=
  PSs.imp (pss_cons (ps_set hN hi hx h hs hf) (PSs.ex fun d : {d : D // Q d} => hr d.1 d.2)) fun E σ H ⟨B, G, T, F, S, n⟩ => ⟨B, G, T, F, S, fun v d F' H' S' g dn r => ⟨⟨d, r⟩, B, G, T, F', S'.set_dt dn i, by simpa only [List.length_set] using n⟩⟩
theorem sx_if1 {k : Bool} (hc : TD X c env k) (h1 : k = true → SX X W thn env (fun _ => False) R Ψ) (h2 : k = false → SX X W rest env N R Ψ) : SX X W (.If c thn [] pos :: rest) env N R Ψ := by
  cases k with
  | true =>
    refine PSs.imp (pss_cons (ps_if hc (h1 rfl) pss_never) pss_never) fun E σ H ⟨B, G, T, F, S, n, r, w⟩ => ⟨B, G, T, F, S, fun v F' H' S' g e => ?_⟩
    subst e
    exact iteT ⟨B, G, T, F', S', fun env' σ' F2 H2 S2 j2 => j2.elim, r, w⟩
  | false =>
    refine PSs.imp (pss_cons (ps_if hc pss_never pss_nil) (h2 rfl)) fun E σ H ⟨B, G, T, F, S, n, r, w⟩ => ⟨B, G, T, F, S, fun v F' H' S' g e => ?_⟩
    subst e
    exact iteF ⟨B, G, T, F', S', n, r, w⟩
theorem sx_ret (h : ER X e env R) : SX X W (.Return (some e) pos :: rest) env N R Ψ :=
  PSs.imp (pss_cons (ps_ret h) pss_never) fun E σ H ⟨B, G, T, F, S, n, r, _⟩ => ⟨B, G, T, F, S, fun v d F' H' S' g dn φ => r v d env σ F' H' S' dn φ⟩
theorem sx_retX (h : EX1 X W e env R Ψ) : SX X W (.Return (some e) pos :: rest) env N R Ψ :=
  PSs.imp (pss_cons (ps_ret h) pss_never) fun E σ H ⟨B, G, T, F, S, n, r, w⟩ => ⟨B, G, T, F, S, fun v d F' H' S' g dn φ => r v d env σ F' H' S' dn φ, w⟩
/-- what is known of an own class of errors: its name, made with a text -/
structure Xc (K : Fg) (mg : Str → Option Value) (x : Str) : Prop where
  gl : mg x = some (.ref (He.ga K x))
  ex : PySem.W.excIn K (He.ga K x) He.veBase "ValueError.__new__" = true
  kp : PySem.W.keepIn K (.ref (He.ga K x)) = true
  sb : PySem.W.subIn K (.ref (He.ga K x)) (.type "BaseException") = some true
  ty : PySem.W.typeIn K (.ref (He.ga K x)) = some (.type "type")
/-- raise x('m') -/
theorem sx_raise {m : Str} {j : Nat} {p p2 p3 : Pos} (tk : L2N.Takes X W) (c : Xc X.K X.mg x) (h : Ψ (.ref (He.ga X.K x))) (hc : X.calm = true := by rfl) (hg : Gl X x := by rfl) (hdb : (x == ("__debug__" : Str)) = false := by decide) :
    SX X W (.Raise (some (.Call (.Name x p) [.Constant (.str m) j p2] [] p3)) none pos :: rest) env N R Ψ :=
  PSs.imp (pss_cons (L2N.ps_raise hc tk (L2N.pmk_own PySem.F.excBase_ValueError c.ex c.gl c.kp (raises_own c.sb c.ty) hg hdb)) pss_never) fun E σ H ⟨B, G, T, F, S, n, r, w⟩ => w _ σ F H (S.uns S.len.symm) h
end
/-! ### promises of defs that may raise -/
/-- R ds Φ Ψ: the arguments are ds; Φ of the result, or Ψ of the class of what is raised -/
abbrev RE : Type := List D → (D → Prop) → (Value → Prop) → Prop
/-- what a def's end must bear out -/
structure EndE (K : Fg) (F H : Hp) (Φ : D → Prop) (Ψ : Value → Prop) (Q : VK) (E : XK) : Prop where
  rt : ∀ v d F' H', Ex F F' → Ex F' H' → Ex H H' → (∀ a, H a ≠ none → F a = none → F' a = none) → Dn K F' v d → Φ d → Q v H'
  xc : ∀ cls H', Ex H H' → Ψ cls → E cls none H'
def spE (K : Fg) (R : RE) : Sp := fun vs H Q E => ∃ F ds Φ Ψ, Ex F H ∧ DnA K F vs ds ∧ R ds Φ Ψ ∧ EndE K F H Φ Ψ Q E
/-- a value ahead of the arguments that is no data (a class) -/
def spV (K : Fg) (c : Addr) (R : RE) : Sp := fun vs H Q E => ∃ ws F ds Φ Ψ, vs = .ref c :: ws ∧ Ex F H ∧ DnA K F ws ds ∧ R ds Φ Ψ ∧ EndE K F H Φ Ψ Q E
/-- an instance that is made: it stands bare ahead of the arguments -/
def spI (K : Fg) (C : Addr) (R : List D → (List (Str × D) → Prop) → (Value → Prop) → Prop) : Sp := fun vs H Q E => ∃ x dx ws F ds Φ Ψ, vs = .ref x :: ws ∧ H x = some (.ins C dx []) ∧ F x = none ∧ Ex F H ∧ DnA K F ws ds ∧ R ds Φ Ψ ∧
  (∀ F' H' dx' us fs, Ex F F' → Ex F' H' → (∀ a o, a ≠ x → H a = some o → H' a = some o) → (∀ a, a ≠ x → H a ≠ none → F a = none → F' a = none) → F' x = none → H' x = some (.ins C dx' us) → DnS K F' us fs → Φ fs → Q .non H') ∧
  (∀ cls H', (∀ a o, a ≠ x → H a = some o → H' a = some o) → Ψ cls → E cls none H')
/-- the slots at a def's start, any -/
theorem startG {K : Fg} {B F H : Hp} {N : List Str} {vs : List V} {ss : List Sl} (e : Ex F H) (bh : Ex B H) (hs : ∀ (i : Nat) (s : Sl), ss[i]? = some s → ∃ v, vs[i]? = some v ∧ SlotR K B none F H s (some v)) (hd : ∀ (i : Nat) (s : Sl), ss[i]? = some s → s.owned = true → i = 0)
    (hl : vs.length = ss.length) (hn : vs.length ≤ N.length) : StR K B F none F (startD N ss) (L2.start N vs) H where
  gf := Ex.refl F
  fh := e
  bh := fun a o h _ => bh a o h
  nf := fun _ _ h => h
  len := by rw [start_len hn, startD_len (by rw [← hl]; exact hn)]
  sl := fun i s o e1 e2 => by
    rcases startD_get e1 with q | q
    · obtain ⟨v, ev, r⟩ := hs i s q
      rcases start_get e2 with ⟨v', e', eo⟩ | ⟨l, _⟩
      · rw [ev] at e'; cases e'; rw [eo]; exact r
      · have := (List.getElem?_eq_some_iff.mp ev).1; omega
    · subst q; trivial
  ds := fun i j s s' hij e1 e2 o1 o2 => by
    rcases startD_get e1 with q | q
    · rcases startD_get e2 with q2 | q2
      · exact absurd ((hd i s q o1).trans (hd j s' q2 o2).symm) hij
      · subst q2; cases o2
    · subst q; cases o1
  tp := fun t e => by cases e
theorem slots_dt {K : Fg} {B F H : Hp} {ws : List V} {ds : List D} (d : DnA K F ws ds) (i : Nat) (s : Sl) (h : (ds.map Sl.dt)[i]? = some s) : ∃ v, ws[i]? = some v ∧ SlotR K B none F H s (some v) ∧ s.owned = false := by
  rw [List.getElem?_map] at h
  cases z : ds[i]? with
  | none => rw [z] at h; cases h
  | some x =>
    rw [z] at h
    simp at h; subst h
    obtain ⟨v, ev, dv⟩ := d.get z
    exact ⟨v, ev, ⟨v, rfl, dv⟩, rfl⟩
section
variable {P : Program} {w : World} {K : Fg} {mg : Str → Option Value} {base : Heap}
abbrev cxE (P : Program) (w : World) (K : Fg) (mg : Str → Option Value) (base : Heap) (N : List Str) (qual : Str) (scope : Scope) (f : Addr) (cd : Value) (A : Around) (outer : List Env) (s : Shared) (H : Hp) (E : XK) : Cx := cxOf (L2N.CX P w) P w K mg base N qual scope f cd A outer s H E
abbrev wxE (E : XK) : WX := fun cls d _ H => E cls d H
theorem takesE {N : List Str} {qual : Str} {scope : Scope} {f : Addr} {cd : Value} {A : Around} {outer : List Env} {s : Shared} {H : Hp} {E : XK} : L2N.Takes (cxE P w K mg base N qual scope f cd A outer s H E) (wxE E) := L2N.takes_of rfl rfl rfl rfl
section
variable {x qual : Str} {params : Arguments} {body : List Stmt} {scope : Scope} {f : Addr} {fd : FuncData} {N ps : List Str} {k : Nat} {R : RE} {dvs : List V} {kws : List (Str × V)}
theorem endE {F H : Hp} {env : List Sl} {σ : L2.St} {Φ : D → Prop} {Ψ : Value → Prop} {Q : VK} {E : XK} (S : StR K H F none F env σ H) (q : EndE K F H Φ Ψ Q E) : rdSx K (wxE E) env (fun _ => Φ .none) Φ Ψ { nx := fun _ H' => Q .non H', rt := Q } σ H :=
  ⟨H, F, none, F, S, fun env' σ' F' H' S' φ => q.rt .non .none F' H' S'.gf S'.fh (fun a o h => S'.bh a o h (fun _ z => by cases z)) (fun a h n => S'.nf a h n) .non φ,
    fun v d env' σ' F' H' S' dn φ => q.rt v d F' H' S'.gf S'.fh (fun a o h => S'.bh a o h (fun _ z => by cases z)) (fun a h n => S'.nf a h n) dn φ, fun cls σ' F' H' S' ψ => q.xc cls H' (fun a o h => S'.bh a o h (fun _ z => by cases z)) ψ⟩
/-- THE RULE for a def of data that may raise -/
theorem fnE (F : FunD K x qual params body scope dvs kws f fd) (S : FnScope N ps scope) (len : ∀ ds Φ Ψ, R ds Φ Ψ → ds.length = ps.length)
    (hbody : ∀ (cdv : Value) (A : Around) (outer : List Env) (s : Shared) (H : Hp) (E : XK), Room k (A.deeper (envOfC qual scope s.heap.objs.size f cdv)) → L2N.Takes (cxE P w K mg base N qual scope f cdv A outer s H E) (wxE E) → ∀ ds Φ Ψ, R ds Φ Ψ →
      SX (cxE P w K mg base N qual scope f cdv A outer s H E) (wxE E) body (startD N (ds.map Sl.dt)) (fun _ => Φ .none) Φ Ψ) : FnOk P w K mg base (L2N.CX P w) (k + 1) f fd ps (spE K R) := by
  have pl : ps.length ≤ N.length := by have := congrArg List.length S.pre; rw [List.length_take] at this; omega
  refine F.ok S (fun vs H Q E h => ?_) (fun cdv A outer s H vs Q E hr h => ?_)
  · obtain ⟨F, ds, Φ, Ψ, _, d, r, _⟩ := h
    rw [d.length, len _ _ _ r]
  · obtain ⟨F, ds, Φ, Ψ, e, d, r, q⟩ := h
    exact ⟨_, hbody cdv A outer s H E hr takesE ds Φ Ψ r, endE (startF e d (by rw [d.length, len _ _ _ r]; exact pl)) q⟩
/-- .. a classmethod's def -/
theorem fnV {C : Addr} (F : FunD K x qual params body scope dvs kws f fd) (S : FnScope N ps scope) (len : ∀ ds Φ Ψ, R ds Φ Ψ → ds.length + 1 = ps.length)
    (hbody : ∀ (cdv : Value) (A : Around) (outer : List Env) (s : Shared) (H : Hp) (E : XK), Room k (A.deeper (envOfC qual scope s.heap.objs.size f cdv)) → L2N.Takes (cxE P w K mg base N qual scope f cdv A outer s H E) (wxE E) → ∀ ds Φ Ψ, R ds Φ Ψ →
      SX (cxE P w K mg base N qual scope f cdv A outer s H E) (wxE E) body (startD N (.ref C :: ds.map Sl.dt)) (fun _ => Φ .none) Φ Ψ) : FnOk P w K mg base (L2N.CX P w) (k + 1) f fd ps (spV K C R) := by
  have pl : ps.length ≤ N.length := by have := congrArg List.length S.pre; rw [List.length_take] at this; omega
  refine F.ok S (fun vs H Q E h => ?_) (fun cdv A outer s H vs Q E hr h => ?_)
  · obtain ⟨ws, F, ds, Φ, Ψ, rfl, _, d, r, _⟩ := h
    rw [List.length_cons, d.length, len _ _ _ r]
  · obtain ⟨ws, F, ds, Φ, Ψ, rfl, e, d, r, q⟩ := h
    refine ⟨_, hbody cdv A outer s H E hr takesE ds Φ Ψ r, endE (startG e (Ex.refl H) (fun i s h => ?_) (fun i s h o => ?_) (by simp [d.length]) (by rw [List.length_cons, d.length, len _ _ _ r]; exact pl)) q⟩
    · cases i with
      | zero => simp at h; subst h; exact ⟨_, rfl, rfl⟩
      | succ i =>
        obtain ⟨v, e1, e2, _⟩ := slots_dt (B := H) (H := H) d i s (by simpa using h)
        exact ⟨v, by simpa using e1, e2⟩
    · cases i with
      | zero => rfl
      | succ i =>
        obtain ⟨v, e1, e2, e3⟩ := slots_dt (B := H) (H := H) d i s (by simpa using h)
        rw [e3] at o; cases o
/-- .. __init__ -/
theorem fnI {C : Addr} {R : List D → (List (Str × D) → Prop) → (Value → Prop) → Prop} (F : FunD K x qual params body scope dvs kws f fd) (S : FnScope N ps scope) (len : ∀ ds Φ Ψ, R ds Φ Ψ → ds.length + 1 = ps.length)
    (hbody : ∀ (cdv : Value) (A : Around) (outer : List Env) (s : Shared) (H : Hp) (E : XK), Room k (A.deeper (envOfC qual scope s.heap.objs.size f cdv)) → L2N.Takes (cxE P w K mg base N qual scope f cdv A outer s H E) (wxE E) → ∀ (x0 : Addr) ds Φ Ψ, R ds Φ Ψ →
      SX (cxE P w K mg base N qual scope f cdv A outer s H E) (wxE E) body (startD N (.owi x0 C [] :: ds.map Sl.dt)) (fun env => ∃ fs, env[0]? = some (.owi x0 C fs) ∧ Φ fs) (fun _ => False) Ψ) : FnOk P w K mg base (L2N.CX P w) (k + 1) f fd ps (spI K C R) := by
  have pl : ps.length ≤ N.length := by have := congrArg List.length S.pre; rw [List.length_take] at this; omega
  refine F.ok S (fun vs H Q E h => ?_) (fun cdv A outer s H vs Q E hr h => ?_)
  · obtain ⟨x, dx, ws, F, ds, Φ, Ψ, rfl, _, _, _, d, r, _⟩ := h
    rw [List.length_cons, d.length, len _ _ _ r]
  · obtain ⟨x, dx, ws, F, ds, Φ, Ψ, rfl, hx, fx, e, d, r, q1, q2⟩ := h
    let B : Hp := fun a => if a = x then none else H a
    have Bx : B x = none := if_pos rfl
    have Bo : ∀ a, a ≠ x → B a = H a := fun a n => if_neg n
    have bh : Ex B H := fun a o h => by
      by_cases n : a = x
      · rw [n, Bx] at h; cases h
      · rw [Bo a n] at h; exact h
    have st : StR K B F none F (startD N (.owi x C [] :: ds.map Sl.dt)) (L2.start N (.ref x :: ws)) H := by
      refine startG e bh (fun i s h => ?_) (fun i s h o => ?_) (by simp [d.length]) (by rw [List.length_cons, d.length, len _ _ _ r]; exact pl)
      · cases i with
        | zero => simp at h; subst h; exact ⟨_, rfl, rfl, Bx, fx, (fun _ z => by cases z), dx, [], hx, .nil⟩
        | succ i =>
          obtain ⟨v, e1, e2, _⟩ := slots_dt (B := B) (H := H) d i s (by simpa using h)
          exact ⟨v, by simpa using e1, e2⟩
      · cases i with
        | zero => rfl
        | succ i =>
          obtain ⟨v, e1, e2, e3⟩ := slots_dt (B := B) (H := H) d i s (by simpa using h)
          rw [e3] at o; cases o
    refine ⟨_, hbody cdv A outer s H E hr takesE x ds Φ Ψ r, B, F, none, F, st, fun env' σ' F' H' S' ⟨fs, h1, φ⟩ => ?_, fun _ _ _ _ _ _ _ _ z => z.elim, fun cls σ' F' H' S' ψ => q2 cls H' (fun a o n h => S'.bh a o (by rw [Bo a n]; exact h) (fun _ z => by cases z)) ψ⟩
    obtain ⟨o, eo, e1, e2, e3, _, dx', us, e4, e5⟩ := S'.some_at h1
    exact q1 F' H' dx' us fs S'.gf S'.fh (fun a o n h => S'.bh a o (by rw [Bo a n]; exact h) (fun _ z => by cases z)) (fun a n h f => S'.nf a (by rw [Bo a n]; exact h) f) e3 e4 e5 φ
end
end
end DL

namespace DL
open PySem PySem.Spec PyProof.Rows L2 RZ

/-! ### instances as data -/
section
variable {K : Fg} {F F' : Hp} {a C C' : Addr} {v : V} {d : D} {fs fs' : List (Str × D)} {ws : List (Str × V)} {f : Str}
theorem objD_inj (h : objD C fs = objD C' fs') : C = C' ∧ fs = fs' := by
  unfold objD at h
  injection h with h
  injection h with h1 h2
  injection h1 with h1 _
  refine ⟨by injection h1 with h1; exact Int.ofNat.inj h1, ?_⟩
  have inj : ∀ {l l' : List (Str × D)}, (l.map fun p => (PyData.str p.1, p.2)) = (l'.map fun p => (PyData.str p.1, p.2)) → l = l' := by
    intro l
    induction l with
    | nil => intro l' e; cases l' with
      | nil => rfl
      | cons _ _ => cases e
    | cons p l ih => intro l' e; cases l' with
      | nil => cases e
      | cons q l' =>
        simp only [List.map_cons, List.cons.injEq, Prod.mk.injEq, PyData.str.injEq] at e
        rw [ih e.2, Prod.ext e.1.1 e.1.2]
  exact inj h2
theorem DnS.zip : ∀ {ns : List Str} {vs : List V} {ds : List D}, ns.length = vs.length → DnA K F vs ds → DnS K F (ns.zip vs) (ns.zip ds)
  | [], _, _, _, _ => by simp; exact .nil
  | n :: ns, [], _, l, _ => by cases l
  | n :: ns, v :: vs, _, l, .cons h t => .cons ⟨rfl, h⟩ (DnS.zip (by simpa using l) t)
theorem DnS.unzip : ∀ {ws : List (Str × V)} {fs : List (Str × D)}, DnS K F ws fs → ws = (ws.map (·.1)).zip (ws.map (·.2)) ∧ fs = (ws.map (·.1)).zip (fs.map (·.2)) ∧ DnA K F (ws.map (·.2)) (fs.map (·.2))
  | [], [], .nil => ⟨rfl, rfl, .nil⟩
  | w :: ws, f :: fs, .cons h t => by
    obtain ⟨e1, e2, e3⟩ := DnS.unzip t
    refine ⟨?_, ?_, .cons h.2 e3⟩
    · simp only [List.map_cons, List.zip_cons_cons, ← e1]
    · simp only [List.map_cons, List.zip_cons_cons, ← e2, h.1]
theorem DnS.get (h : DnS K F ws fs) : ∀ {f : Str} {d : D}, fs.lookup f = some d → ∃ v, ws.lookup f = some v ∧ Dn K F v d := by
  induction h with
  | nil => intro f d e; cases e
  | @cons w q ws fs hh t ih =>
    intro f d e
    obtain ⟨w1, w2⟩ := w
    obtain ⟨q1, q2⟩ := q
    obtain ⟨e1, e2⟩ := hh
    dsimp only at e1 e2
    subst e1
    rw [List.lookup_cons] at e ⊢
    cases k : (f == w1) with
    | true => rw [k] at e; cases e; exact ⟨w2, rfl, e2⟩
    | false => rw [k] at e; exact ih e
theorem DnS.none (h : DnS K F ws fs) : ∀ {f : Str}, fs.lookup f = none → ws.lookup f = none := by
  induction h with
  | nil => intro f e; rfl
  | @cons w q ws fs hh t ih =>
    intro f e
    obtain ⟨w1, w2⟩ := w
    obtain ⟨q1, q2⟩ := q
    obtain ⟨e1, e2⟩ := hh
    dsimp only at e1 e2
    subst e1
    rw [List.lookup_cons] at e ⊢
    cases k : (f == w1) with
    | true => rw [k] at e; cases e
    | false => rw [k] at e; exact ih e
/-- what stands where an instance is told -/
theorem Dn.objE (h : Dn K F v (objD C fs)) : ∃ a dx ws, v = .ref a ∧ F a = some (.ins C dx ws) ∧ ObjC K C ∧ DnS K F ws fs := by
  have key : ∀ {d : D}, Dn K F v d → d = objD C fs → ∃ a dx ws, v = .ref a ∧ F a = some (.ins C dx ws) ∧ ObjC K C ∧ DnS K F ws fs := fun {d} h0 e => by
    cases h0 with
    | obj hf l c t =>
      obtain ⟨e1, e2⟩ := objD_inj e
      subst e1 e2
      exact ⟨_, _, _, rfl, hf, c, DnS.zip l t⟩
    | non => cases e
    | bl b => cases e
    | int i => cases e
    | str x => cases e
    | lst _ _ => cases e
    | tup _ _ => cases e
  exact key h rfl
theorem Dn.objI {dx : Addr} (h : F a = some (.ins C dx ws)) (c : ObjC K C) (t : DnS K F ws fs) : Dn K F (.ref a) (objD C fs) := by
  obtain ⟨e1, e2, e3⟩ := t.unzip
  rw [e1] at h
  rw [e2]
  exact .obj h (by simp) c e3
end

section
variable {X : Cx} {C p g : Addr} {e o : Expr} {es : List Expr} {env : List Sl} {fs : List (Str × D)} {f m : Str} {d : D} {pos apos : Pos} {k j : Nat} {Φ : D → Prop}
/-- e.f -/
theorem ed_attr (h : ED X e env (objD C fs)) (c : Cls X.K C) (n : NoAttr X.K C f) (l : fs.lookup f = some d) (hb : attributeBase e f X.env (eval e X.env) = eval e X.env := by rfl) : ED X (.Attribute e f pos) env d :=
  PE.imp (pe_fld h hb) fun σ H Q ⟨B, G, T, F, S, q⟩ => ⟨B, G, T, F, S, fun v d' F' H' S' g dn z => by
    subst z
    obtain ⟨a, dx, ws, rfl, ea, _, t⟩ := dn.objE
    obtain ⟨u, eu, du⟩ := t.get l
    exact ⟨a, C, dx, ws, u, rfl, S'.fh _ _ ea, c, n, eu, q u d F' H' S' g du rfl⟩⟩
/-- a method's def, a getter's def: at an address, its promise -/
structure Km (P : Program) (w : World) (K : Fg) (mg : Str → Option Value) (base : Heap) (k : Nat) (f : Addr) (dvs : List V) (sp : Sp) : Prop where
  ex : ∃ (fd : FuncData) (ps : List Str) (ds : List Value), FnOk P w K mg base CX0 k f fd ps sp ∧ Binds K fd ps ds ∧ Vals dvs ds
/-- e.f, a property -/
theorem er_prop {R : List D → (D → Prop) → Prop} (h : ED X e env (objD C fs)) (c : Cls X.K C) (hp : PropOf X.K C f p g) (K1 : Km X.prog X.w X.K X.mg X.base k g [] (spF X.K R)) (hr : Room j X.A) (r : R [objD C fs] Φ) (hk : k + 1 ≤ j := by decide) (hb : attributeBase e f X.env (eval e X.env) = eval e X.env := by rfl) : ER X (.Attribute e f pos) env Φ := by
  obtain ⟨fd, ps, ds, ok, bi, va⟩ := K1.ex
  refine PE.imp (pe_prop h c hp ok (hr.mono hk) bi va pass0 hb) fun σ H Q ⟨B, G, T, F, S, q⟩ => ⟨B, G, T, F, S, fun v d' F1 H1 S1 g1 dn z => ?_⟩
  subst z
  obtain ⟨a, dx, ws, rfl, ea, _, t⟩ := id dn.objE
  refine ⟨a, dx, ws, rfl, S1.fh _ _ ea, F1, [objD C fs], Φ, S1.fh, .cons dn .nil, r, fun v d F' H' h1 h2 h3 h4 dn φ => ?_⟩
  obtain ⟨g, S'⟩ := Gr.of_call S1 h1 h2 h3 h4
  exact q v d F' H' S' (g1.trans g S1.tpn) dn φ
/-- o.m(e, ..) -/
theorem er_meth {R : List D → (D → Prop) → Prop} {Ψ : List D → Prop} {pl : Sem Bool} (h : ED X o env (objD C fs)) (c : Cls X.K C) (hm : Meth X.K C m g) (K1 : Km X.prog X.w X.K X.mg X.base k g [] (spF X.K R)) (hr : Room j X.A) (ha : AR X (e :: es) env Ψ) (l : fs.lookup m = none) (r : ∀ ds, Ψ ds → R (objD C fs :: ds) Φ) (hk : k ≤ j := by decide)
    (hst : starEach (e :: es) X.env = (false, eval e X.env) :: starEach es X.env := by rfl) (hpl : (backTo pos (starEach es X.env)).any (·.1) = false := by rfl)
    (ht : eval (.Call (.Attribute o m apos) (e :: es) [] pos) X.env = (do
      let ov ← eval o X.env
      standAt apos.atName
      let (f, first) ← holding [ov] (getMethod ov m pl)
      callWith pos f first (backTo pos (starEach (e :: es) X.env)) (backToKw pos (keywordEach [] X.env))) := by rfl) : ER X (.Call (.Attribute o m apos) (e :: es) [] pos) env Φ := by
  obtain ⟨fd, ps, ds, ok, bi, va⟩ := K1.ex
  refine PE.imp (pe_meth (pl := pl) h c hm ok (hr.mono hk) bi va pass0 ha hst hpl ht) fun σ H Q ⟨B, G, T, F, S, q⟩ => ⟨B, G, T, F, S, fun v d' F1 H1 S1 g1 dn z => ?_⟩
  subst z
  obtain ⟨a, dx, ws, rfl, ea, _, t⟩ := id dn.objE
  refine ⟨a, dx, ws, rfl, S1.fh _ _ ea, t.none l, B, G, T, F1, S1, fun vs es F2 H2 S2 g2 d2 ψ => ?_⟩
  show spF X.K R (V.ref a :: vs ++ []) H2 Q E0
  rw [List.append_nil]
  refine ⟨F2, objD C fs :: es, Φ, S2.fh, .cons (dn.mono g2.ff) d2, r es ψ, fun v d F' H' h1 h2 h3 h4 dn φ => ?_⟩
  obtain ⟨g, S'⟩ := Gr.of_call S2 h1 h2 h3 h4
  exact q v d F' H' S' ((g1.trans g2 S1.tpn).trans g S2.tpn) dn φ
end
end DL

namespace DL
open PySem PySem.Spec PyProof.Rows L2 RZ

/-! ### calls that may raise -/
/-- W at all slots -/
def EN (X : Cx) (W : WX) : XK := fun cls d H => ∀ σ : L2.St, σ.length = X.N.length → W cls d σ H
theorem passN {X : Cx} {W : WX} (tk : L2N.Takes X W) : Passes (L2N.CX X.prog X.w) X (EN X W) := fun pins σ H s e s' I c => tk e s' (L2N.XE.of_call I (fun cls d H' h => h σ I.len) c)
/-- a def that may raise: at an address, its promise -/
structure Ke (P : Program) (w : World) (K : Fg) (mg : Str → Option Value) (base : Heap) (k : Nat) (f : Addr) (dvs : List V) (sp : Sp) : Prop where
  ex : ∃ (fd : FuncData) (ps : List Str) (ds : List Value), FnOk P w K mg base (L2N.CX P w) k f fd ps sp ∧ Binds K fd ps ds ∧ Vals dvs ds
theorem Ke.raw {P : Program} {w : World} {K : Fg} {mg : Str → Option Value} {base : Heap} {k : Nat} {f : Addr} {dvs : List V} {sp : Sp} (h : Ke P w K mg base k f dvs sp) : FnR P w K mg base (L2N.CX P w) k f (fun vs H Q E => sp (vs ++ dvs) H Q E) := by
  obtain ⟨fd, ps, ds, ok, bi, va⟩ := h.ex
  exact ok.raw bi va
section
variable {X : Cx} {W : WX} {C p g : Addr} {e o : Expr} {es : List Expr} {env : List Sl} {fs : List (Str × D)} {f m : Str} {d : D} {pos apos : Pos} {k j : Nat} {Φ : D → Prop} {Ψ : Value → Prop} {R : RE} {Χ : List D → Prop} {dvs : List V} {dds : List D}
/-- what is asked of a callee's end, at a place whose slots are env -/
theorem endN {B G F H F0 H0 : Hp} {T : Option TP} {σ : L2.St} {Q : VK} (hn : env.length = X.N.length) (S : StR X.K B G T F env σ H) (g0 : Gr T F0 H0 F H) (tpn : ∀ t, T = some t → H t.p ≠ none)
    (q : ∀ v d F' H', StR X.K B G T F' env σ H' → Gr T F0 H0 F' H' → Dn X.K F' v d → Φ d → Q v H') (x : ∀ cls σ' F' H', StR X.K B G T F' (uns env.length) σ' H' → Ψ cls → W cls none σ' H') : EndE X.K F H Φ Ψ Q (EN X W) where
  rt v d F' H' h1 h2 h3 h4 dn φ := by
    obtain ⟨g, S'⟩ := Gr.of_call S h1 h2 h3 h4
    exact q v d F' H' S' (g0.trans g tpn) dn φ
  xc cls H' h3 ψ σ' hl := by
    obtain ⟨g, S'⟩ := Gr.of_call S (Ex.refl F) (S.fh.trans h3) h3 (fun _ _ h => h)
    exact x cls σ' F H' (S'.uns (by rw [hl, hn])) ψ
/-- o(e, ..), o an instance with its own __call__ -/
theorem ex1_callO (h : ED X o env (objD C fs)) (c : StX.CallO X.K C g) (K1 : Ke X.prog X.w X.K X.mg X.base k g dvs (spE X.K R)) (hr : Room j X.A) (tk : L2N.Takes X W) (ha : AR X (e :: es) env Χ) (hdd : ∀ F, DnA X.K F dvs dds) (r : ∀ ds, Χ ds → R (objD C fs :: (ds ++ dds)) Φ Ψ) (hk : k ≤ j := by decide) (hn : env.length = X.N.length := by rfl)
    (ht : eval (.Call o (e :: es) [] pos) X.env = (do callWith pos (← eval o X.env) [] (backTo pos (starEach (e :: es) X.env)) (backToKw pos (keywordEach [] X.env))) := by rfl)
    (he : starEach (e :: es) X.env = (false, eval e X.env) :: starEach es X.env := by rfl) (hpl : (backTo pos (starEach es X.env)).any (·.1) = false := by rfl) : EX1 X W (.Call o (e :: es) [] pos) env Φ Ψ := by
  refine PE.imp (StX.pe_callO h c K1.raw (hr.mono hk) (passN tk) ha ht he hpl) fun σ H Q ⟨B, G, T, F, S, q, x⟩ => ⟨B, G, T, F, S, fun v d' F1 H1 S1 g1 dn z => ?_⟩
  subst z
  obtain ⟨a, dx, ws, rfl, ea, _, t⟩ := id dn.objE
  refine ⟨a, rfl, B, G, T, F1, S1, fun vs ds F2 H2 S2 g2 d2 ψ => ⟨.inr ⟨dx, ws, S2.fh _ _ (g2.ff _ _ ea)⟩, ?_⟩⟩
  exact ⟨F2, objD C fs :: (ds ++ dds), Φ, Ψ, S2.fh, .cons (dn.mono g2.ff) (d2.append (hdd F2)), r ds ψ, endN hn S2 (g1.trans g2 S1.tpn) S2.tpn q x⟩
/-- o.m(e, ..), o the class at C, m a classmethod -/
theorem ex1_cmeth {mc : Value} {pl : Sem Bool} {x : Str} {p0 : Pos} (hm : X.mg x = some (.ref C)) (r0 : ClX.CRead X.K C mc) (c : ClX.CMet X.K C mc m p g) (K1 : Ke X.prog X.w X.K X.mg X.base k g dvs (spV X.K C R)) (hr : Room j X.A) (tk : L2N.Takes X W) (ha : AR X (e :: es) env Χ) (hdd : ∀ F, DnA X.K F dvs dds) (r : ∀ ds, Χ ds → R (ds ++ dds) Φ Ψ) (hk : k ≤ j := by decide) (hn : env.length = X.N.length := by rfl)
    (hg : Gl X x := by rfl) (hdb : (x == ("__debug__" : Str)) = false := by decide)
    (hst : starEach (e :: es) X.env = (false, eval e X.env) :: starEach es X.env := by rfl) (hpl : (backTo pos (starEach es X.env)).any (·.1) = false := by rfl)
    (ht : eval (.Call (.Attribute (.Name x p0) m apos) (e :: es) [] pos) X.env = (do
      let ov ← eval (.Name x p0) X.env
      standAt apos.atName
      let (f, first) ← holding [ov] (getMethod ov m pl)
      callWith pos f first (backTo pos (starEach (e :: es) X.env)) (backToKw pos (keywordEach [] X.env))) := by rfl) : EX1 X W (.Call (.Attribute (.Name x p0) m apos) (e :: es) [] pos) env Φ Ψ := by
  refine PE.imp (ClX.pe_cmeth (pl := pl) (pe_glob (v := .ref C) hg hm rfl hdb) r0 c K1.raw (hr.mono hk) (passN tk) ha hst hpl ht) fun σ H Q ⟨B, G, T, F, S, q, x⟩ => ?_
  refine ⟨rfl, B, G, T, F, S, fun vs ds F2 H2 S2 g2 d2 ψ => ?_⟩
  exact ⟨vs ++ dvs, F2, ds ++ dds, Φ, Ψ, rfl, S2.fh, d2.append (hdd F2), r ds ψ, endN hn S2 g2 S2.tpn q x⟩

/-! ### instances made: C(k = e, ..) -/
def KR (X : Cx) (kws : List Keyword) (env : List Sl) (Χ : List D → Prop) : Prop := PK X kws (rdA X.K env Χ)
theorem kd_nil : KR X [] env (fun ds => ds = []) := ⟨fun pos pins s σ H Q I ⟨B, G, T, F, S, q⟩ => pk_nil.run pos pins s σ H Q I (q [] [] F H S (Gr.refl S.fh) .nil rfl)⟩
theorem kd_cons {nm : Option Str} {kpos : Pos} {kws : List Keyword} {ds : List D} (h : ED X e env d) (hr : KR X kws env (fun z => z = ds)) : KR X (⟨nm, e, kpos⟩ :: kws) env (fun z => z = d :: ds) :=
  ⟨fun pos pins s σ H Q I ⟨B, G, T, F, S, q⟩ => (pk_cons (nm := nm) (kpos := kpos) h hr).run pos pins s σ H Q I ⟨B, G, T, F, S, fun v d1 F1 H1 S1 g1 dn e1 => ⟨B, G, T, F1, S1, fun vs es F2 H2 S2 g2 d2 e2 => by
    subst e1 e2
    exact q _ _ F2 H2 S2 (g1.trans g2 S1.tpn) (.cons (dn.mono g2.ff) d2) rfl⟩⟩⟩
/-- a class whose instances are made with keywords -/
structure Ki (P : Program) (w : World) (K : Fg) (mg : Str → Option Value) (base : Heap) (k : Nat) (C f : Addr) (ks : List Str) (sp : Sp) : Prop where
  ex : ∃ (fd : FuncData) (ps : List Str) (mv : List Value → List Value → List Value), FnOk P w K mg base (L2N.CX P w) k f fd ps sp ∧ KBn K fd ps 1 ks mv (fun vs zs => vs ++ zs)
  mkr : Mk K C f
  ob : ObjC K C
theorem made_end {Rl : List D → (List (Str × D) → Prop) → (Value → Prop) → Prop} {B G F H F0 H0 : Hp} {T : Option TP} {σ : L2.St} {Q : VK} {Φs : List (Str × D) → Prop} {vs : List V} {ds : List D} (ob : ObjC X.K C) (hn : env.length = X.N.length) (S : StR X.K B G T F env σ H) (g0 : Gr T F0 H0 F H)
    (dn : DnA X.K F vs ds) (r : Rl ds Φs Ψ) (q : ∀ v d F' H', StR X.K B G T F' env σ H' → Gr T F0 H0 F' H' → Dn X.K F' v d → (∃ fs, d = objD C fs ∧ Φs fs) → Q v H') (xx : ∀ cls σ' F' H', StR X.K B G T F' (uns env.length) σ' H' → Ψ cls → W cls none σ' H')
    (x dx : Addr) (hx : H x = none) (hdx : H dx = none) (ne : dx ≠ x) : spI X.K C Rl ([V.ref x] ++ vs) (upd (upd H dx (.own x)) x (.ins C dx [])) (fun v H3 => v = .non ∧ Q (.ref x) H3) (EN X W) := by
  have fx : F x = none := S.fh.none hx
  have fdx : F dx = none := S.fh.none hdx
  have old : ∀ a o, H a = some o → a ≠ x ∧ upd (upd H dx (.own x)) x (.ins C dx []) a = some o := fun a o h => by
    have n1 : a ≠ x := ne_of_none h hx
    have n2 : a ≠ dx := ne_of_none h hdx
    exact ⟨n1, by rw [upd_ne n1, upd_ne n2]; exact h⟩
  refine ⟨x, dx, vs, F, ds, Φs, Ψ, rfl, upd_same, fx, ex_updH (ex_updH S.fh fdx) fx, dn, r, fun F' H' dx' us fs e1 e2 e3 e4 e5 e6 e7 φ => ⟨rfl, ?_⟩, fun cls H' e3 ψ σ' hl => ?_⟩
  · have hh : Ex H H' := fun a o h => e3 a o (old a o h).1 (old a o h).2
    have ff : Ex F (upd F' x (.ins C dx' us)) := e1.trans (Ex.new e5)
    have fh : Ex (upd F' x (.ins C dx' us)) H' := fun a o h => by
      by_cases n : a = x
      · subst n; rw [upd_same] at h; rw [← h]; exact e6
      · rw [upd_ne n] at h; exact e2 a o h
    obtain ⟨g, S'⟩ := Gr.of_call S ff fh hh (fun a h n => by
      have nx : a ≠ x := fun z => h (by rw [z]; exact hx)
      rw [upd_ne nx]
      cases q : H a with
      | none => exact absurd q h
      | some o => exact e4 a nx (by rw [(old a o q).2]; simp) n)
    exact q _ _ _ _ S' (g0.trans g S.tpn) (Dn.objI upd_same ob (e7.mono (Ex.new e5))) ⟨fs, rfl, φ⟩
  · have hh : Ex H H' := fun a o h => e3 a o (old a o h).1 (old a o h).2
    obtain ⟨g, S'⟩ := Gr.of_call S (Ex.refl F) (S.fh.trans hh) hh (fun _ _ h => h)
    exact xx cls σ' F H' (S'.uns (by rw [hl, hn])) ψ
theorem ex1_make {Rl : List D → (List (Str × D) → Prop) → (Value → Prop) → Prop} {Φs : List (Str × D) → Prop} {x : Str} {p0 : Pos} {ks : List Str} {kws : List Keyword} {ds : List D} {f0 : Addr} (K1 : Ki X.prog X.w X.K X.mg X.base k C f0 ks (spI X.K C Rl)) (hm : X.mg x = some (.ref C)) (hr : Room j X.A) (tk : L2N.Takes X W)
    (hkw : KR X kws env (fun z => z = ds)) (r : Rl ds Φs Ψ) (hl : ds.length = ks.length := by rfl) (hk : k + 1 ≤ j := by decide) (hn : env.length = X.N.length := by rfl) (hg : Gl X x := by rfl)
    (hall : (backToKw pos (keywordEach kws X.env)).all (·.1.isSome) = true := by rfl) (hks : (backToKw pos (keywordEach kws X.env)).filterMap (·.1) = ks := by rfl) (hdb : (x == ("__debug__" : Str)) = false := by decide)
    (hpl : ((backTo pos (starEach [] X.env)).any (·.1) || (backToKw pos (keywordEach kws X.env)).any (·.1.isNone)) = false := by rfl) : EX1 X W (.Call (.Name x p0) [] kws pos) env (fun d => ∃ fs, d = objD C fs ∧ Φs fs) Ψ := by
  obtain ⟨fd, ps, mv, ok, kb⟩ := K1.ex
  refine PE.imp (pe_makeK0 K1.mkr ok (hr.mono hk) hg hm kb (passN tk) hkw hall hks hdb hpl) fun σ H Q ⟨B, G, T, F, S, q, xx⟩ => ?_
  refine ⟨B, G, T, F, S, fun vs es F1 H1 S1 g1 d1 e => ?_⟩
  subst e
  exact ⟨rfl, by rw [d1.length, hl], fun x dx hx hdx ne => made_end K1.ob hn S1 g1 d1 r q xx x dx hx hdx ne⟩
end
end DL

namespace DL
open PySem PySem.Spec PyProof.Rows L2 RZ

/-! ### attributes of one's own instance stored -/
def putD (f : Str) (d : D) : List (Str × D) → List (Str × D)
  | [] => [(f, d)]
  | q :: r => if q.1 = f then (f, d) :: r else q :: putD f d r
theorem DnS.put {K : Fg} {F : Hp} {ws : List (Str × V)} {fs : List (Str × D)} {v : V} {d : D} {f : Str} (h : DnS K F ws fs) (dn : Dn K F v d) : DnS K F (putF f v ws) (putD f d fs) := by
  induction h with
  | nil => exact .cons ⟨rfl, dn⟩ .nil
  | @cons w q ws fs hh t ih =>
    obtain ⟨w1, w2⟩ := w
    obtain ⟨q1, q2⟩ := q
    obtain ⟨e1, e2⟩ := hh
    dsimp only at e1 e2
    subst e1
    unfold putF putD
    by_cases k : w1 = f
    · rw [if_pos k, if_pos k]
      exact .cons ⟨k, dn⟩ t
    · rw [if_neg k, if_neg k]
      exact .cons ⟨rfl, e2⟩ ih
theorem StR.upd_owo {K : Fg} {B G F H : Hp} {T : Option TP} {env : List Sl} {σ : L2.St} {i : Nat} {p : Addr} {z z' : OS} {ob : HO} (S : StR K B G T F env σ H) (hi : env[i]? = some (.owo p z)) (d : OsAt K F (upd H p ob) p z') :
    StR K B G T F (env.set i (.owo p z')) σ (upd H p ob) := by
  obtain ⟨o, e, eo, b, f, n, hp0⟩ := S.some_at hi
  have hp : σ[i]? = some (some (.ref p)) := by rw [e, eo]
  have far : ∀ {j : Nat} {s : Sl} {r : Addr}, i ≠ j → env[j]? = some s → s.owned = true → σ[j]? = some (some (.ref r)) → r ≠ p := fun {j s r} hij e1 ow e2 z => S.ds j i _ _ (Ne.symm hij) e1 hi ow rfl (by rw [e2, hp, z])
  have key : ∀ {j : Nat} {t : Sl}, (env.set i (Sl.owo p z'))[j]? = some t → t.owned = true → ∃ t', env[j]? = some t' ∧ t'.owned = true := fun {j t} e ow => by
    by_cases hij : i = j
    · subst hij; exact ⟨_, hi, rfl⟩
    · rw [List.getElem?_set_ne hij] at e; exact ⟨_, e, ow⟩
  refine ⟨S.gf, ex_updH S.fh f, fun a o h1 h2 => ?_, S.nf, by simpa using S.len, fun j s o e1 e2 => ?_, fun a c s1 s2 hab e1 e2 o1 o2 => ?_, fun t et => ?_⟩
  · rw [upd_ne (fun z => by rw [z, b] at h1; cases h1)]; exact S.bh a o h1 h2
  · by_cases hij : i = j
    · subst hij
      rw [List.getElem?_set_self (List.getElem?_eq_some_iff.mp hi).1] at e1
      cases e1
      rw [hp] at e2; cases e2
      exact ⟨rfl, b, f, n, d⟩
    · rw [List.getElem?_set_ne hij] at e1
      have q := S.sl j s o e1 e2
      cases s with
      | un => trivial
      | dt x => exact q
      | own zs =>
        obtain ⟨r, us, er, br, fr, nr, hr, dr⟩ := q
        exact ⟨r, us, er, br, fr, nr, by rw [upd_ne (far hij e1 rfl (by rw [e2, er]))]; exact hr, dr⟩
      | owo r0 zs =>
        obtain ⟨er, br, fr, nr, hr⟩ := q
        exact ⟨er, br, fr, nr, hr.mono (Ex.refl F) (fun o z => by rw [upd_ne (far hij e1 rfl (by rw [e2, er]))]; exact z)⟩
      | ref a => exact q
      | tape => exact q
  · obtain ⟨t1, f1, g1⟩ := key e1 o1
    obtain ⟨t2, f2, g2⟩ := key e2 o2
    exact S.ds a c t1 t2 hab f1 f2 g1 g2
  · obtain ⟨h1, h2, c, j, h3, h4, h5⟩ := S.tp t et
    exact ⟨h1, h2, c, j, h3, h4, by rw [upd_ne (Ne.symm (n t et))]; exact h5⟩
theorem paired_len {α β : Type} {F : α → β → Prop} {a : List α} {b : List β} (h : Paired F a b) : a.length = b.length := by
  induction h with
  | nil => rfl
  | cons _ _ ih => simp [ih]
section
variable {X : Cx} {W : WX} {e : Expr} {env : List Sl} {N : List Sl → Prop} {R : D → Prop} {Ψ : Value → Prop} {x0 C : Addr} {fs : List (Str × D)} {d : D} {f y : Str} {rest : List Stmt} {p p1 pos : Pos}
/-- self.f = e -/
theorem sx_attr (i : Nat) (h : ED X e env d) (hr : SX X W rest (env.set i (.owi x0 C (putD f d fs))) N R Ψ) (c : Cls X.K C) (n : NoAttr X.K C f) (hi : env[i]? = some (.owi x0 C fs) := by rfl) (hl : fs.length < 1000 := by exact Nat.le_of_ble_eq_true rfl) (hN : X.N[i]? = some y := by rfl)
    (hv : Vis X.env.scope y := by first | exact Or.inl rfl | exact Or.inr (Or.inl rfl) | exact Or.inr (Or.inr rfl)) (hd : (y == ("__debug__" : Str)) = false := by decide) (hcd : (y == ("__classdict__" : Str)) = false := by decide)
    (hs : swapsWith e (some (.Attribute (.Name y p) f p1)) pos.line X.env = pure false := by rfl) : SX X W (.Assign [.Attribute (.Name y p) f p1] e pos :: rest) env N R Ψ :=
  PSs.imp (pss_cons (ps_fld (pv i hN hv hd hcd) h hs) hr) fun E σ H ⟨B, G, T, F, S, n1⟩ => ⟨B, G, T, F, S, fun v d' F' H' S' g dn z => by
    subst z
    obtain ⟨o, eo, e1, e2, e3, e4, dx, ws, e5, e6⟩ := S'.some_at hi
    exact ⟨.ref x0, by rw [eo, e1], x0, C, dx, ws, rfl, e5, c, n, by rw [paired_len e6]; exact hl, B, G, T, F', S'.upd_owo hi ⟨dx, _, upd_same, e6.put dn⟩, by simpa only [List.length_set] using n1⟩⟩
end

/-! ### a local that holds a class, called with keywords -/
section
variable {X : Cx} {W : WX} {C f0 : Addr} {env : List Sl} {Ψ : Value → Prop} {pos p0 : Pos} {k j : Nat} {x : Str} {ks : List Str} {kws : List Keyword} {ds : List D}
theorem ex1_makeL {Rl : List D → (List (Str × D) → Prop) → (Value → Prop) → Prop} {Φs : List (Str × D) → Prop} (i : Nat) (K1 : Ki X.prog X.w X.K X.mg X.base k C f0 ks (spI X.K C Rl)) (hi : env[i]? = some (.ref C)) (hr : Room j X.A) (tk : L2N.Takes X W)
    (hkw : KR X kws env (fun z => z = ds)) (r : Rl ds Φs Ψ) (hl : ds.length = ks.length := by rfl) (hk : k + 1 ≤ j := by decide) (hn : env.length = X.N.length := by rfl) (hN : X.N[i]? = some x := by rfl)
    (hv : Vis X.env.scope x := by first | exact Or.inl rfl | exact Or.inr (Or.inl rfl) | exact Or.inr (Or.inr rfl)) (hd : (x == ("__debug__" : Str)) = false := by decide) (hcd : (x == ("__classdict__" : Str)) = false := by decide)
    (hall : (backToKw pos (keywordEach kws X.env)).all (·.1.isSome) = true := by rfl) (hks : (backToKw pos (keywordEach kws X.env)).filterMap (·.1) = ks := by rfl)
    (hpl : ((backTo pos (starEach [] X.env)).any (·.1) || (backToKw pos (keywordEach kws X.env)).any (·.1.isNone)) = false := by rfl) : EX1 X W (.Call (.Name x p0) [] kws pos) env (fun d => ∃ fs, d = objD C fs ∧ Φs fs) Ψ := by
  obtain ⟨fd, ps, mv, ok, kb⟩ := K1.ex
  refine ⟨fun pins s σ H Q I ⟨B, G, T, F, S, q, xx⟩ => ?_⟩
  obtain ⟨o, eo, er⟩ := S.some_at hi
  refine wpAny_Call_Name_kw (thn ((pe_var (pos := p0) hN hv hd hcd).run pins s σ H (fun v H1 => v = .ref C ∧ H1 = H) I ⟨.ref C, by rw [eo, er], rfl, rfl⟩) fun u s1 ⟨v, H1, I1, r1, q1⟩ => ?_)
  obtain ⟨rfl, rfl⟩ := q1
  cases r1
  refine PySem.W.callWith_KW0 (h₀ := X.base) I1.ok.mod.kin K1.mkr.kp hall ?_ hpl
  refine thn (hkw.run pos pins s1 σ H1 (fun zs H2 => zs.length = ks.length ∧ ∀ x dx, H2 x = none → H2 dx = none → dx ≠ x → spI X.K C Rl ([V.ref x] ++ zs) (upd (upd H2 dx (.own x)) x (.ins C dx [])) (fun v H3 => v = .non ∧ Q (.ref x) H3) (EN X W)) I1 ⟨B, G, T, F, S, fun vs es F1 H2 S1 g1 d1 e => ?_⟩)
    fun ws s2 ⟨zs, H2, I2, rz, l2, q2⟩ => ⟨I2.kIn, ?_⟩
  · subst e
    exact ⟨by rw [d1.length, hl], fun x dx hx hdx ne => made_end K1.ob hn S1 g1 d1 r q xx x dx hx hdx ne⟩
  · rw [hks]
    exact run_makeK (us := []) (vs := []) K1.mkr ok (hr.mono hk) kb (passN tk) I2 .nil rz rfl l2 q2
end

/-! ### try: .. except X as e: .. , left within -/
theorem StR.set_ref {K : Fg} {B G F H : Hp} {T : Option TP} {env : List Sl} {σ : L2.St} (S : StR K B G T F env σ H) (i : Nat) (a : Addr) : StR K B G T F (env.set i (.ref a)) (σ.set i (some (.ref a))) H := by
  have S1 := S.forget i (some (V.ref a))
  refine ⟨S1.gf, S1.fh, S1.bh, S1.nf, by simpa using S.len, fun j s o e1 e2 => ?_, fun m n s s' hmn e1 e2 o1 o2 => ?_, S1.tp⟩
  · by_cases hij : i = j
    · subst hij
      have hj := (List.getElem?_eq_some_iff.mp e1).1
      simp only [List.length_set] at hj
      rw [List.getElem?_set_self hj] at e1
      rw [List.getElem?_set_self (by rw [← S.len]; exact hj)] at e2
      cases e1; cases e2; rfl
    · rw [List.getElem?_set_ne hij] at e1
      exact S1.sl j s o (by rw [List.getElem?_set_ne hij]; exact e1) e2
  · have key : ∀ {j : Nat} {t : Sl}, (env.set i (Sl.ref a))[j]? = some t → t.owned = true → (env.set i Sl.un)[j]? = some t := fun {j t} e ow => by
      by_cases hij : i = j
      · subst hij
        have hj := (List.getElem?_eq_some_iff.mp e).1
        simp only [List.length_set] at hj
        rw [List.getElem?_set_self hj] at e; cases e; cases ow
      · rw [List.getElem?_set_ne hij] at e ⊢; exact e
    exact S1.ds m n s s' hmn (key e1 o1) (key e2 o2) o1 o2
section
variable {X : Cx} {x n : Str} {c : Value} {body suite : List Stmt} {b₀ : Stmt} {np pos pos' : Pos} {env : List Sl} {Φ : Out} {Ψ : Value → Prop} {rest : List Stmt}
theorem sds_try (i : Nat) (hs : X.stack = X.env :: X.outer) (hf : X.env.frame = some X.env.locals) (hN : X.N.Nodup) (hc : L2.Names X x c) (hex : ∀ cls, Ψ cls → PySem.W.exmOne X.K cls c = some true)
    (hb : ∀ (W : WX) (pn : List (Addr × Obj)) (xe : Value → Shared → Prop), L2N.Takes (X.tr pn xe) W → SX (X.tr pn xe) W body env (fun _ => False) Φ.rt Ψ)
    (hsu : ∀ (a : Addr) (oe : Obj) (cls : Value) (pn : List (Addr × Obj)), L2N.Zn cls none oe → (∃ vs, oe.data = .fields vs) → Ψ cls → SDs (X.suite a ((a, oe) :: pn)) (b₀ :: suite) ((uns env.length).set i (.ref a)) { nx := fun _ => False, rt := Φ.rt })
    (hi : X.N[i]? = some n := by rfl) (hln : X.env.kindOf n = some .local := by rfl) : SDs X (.Try body [.ExceptHandler (some (.Name x np)) (some n) (b₀ :: suite) pos'] [] [] pos :: rest) env Φ := by
  have tk : L2N.Takes X (fun _ _ _ _ => False) := fun _ _ ⟨_, _, _, _, _, _, _, _, _, _, _, _, _, _, _, _, z⟩ => z.elim
  refine PSs.imp (pss_cons (L2N.ps_try_as (tb := fun W => rdSx X.K W env (fun _ => False) Φ.rt Ψ) (ts := fun a cls d => fun D σ H => Ψ cls ∧ d = none ∧ rdS X.K ((uns env.length).set i (.ref a)) { nx := fun _ => False, rt := Φ.rt } D σ H) (i := i) hs hf hN hi hln hc tk
    (fun W pn xe t _ => hb W pn xe t) (fun a oe cls d pn hz hv => ⟨fun pins s σ H D I ⟨hΨ, hd, h⟩ => by subst hd; exact (hsu a oe cls pn hz hv hΨ).run pins s σ H D I h⟩)) pss_never) fun E σ H ⟨B, G, T, F, S, n, r, _⟩ => ?_
  refine ⟨B, G, T, F, S, fun _ _ _ _ _ z => z.elim, r, fun cls σ' F' H' S' ψ => ⟨true, hex cls ψ, fun _ a ha => ⟨ψ, rfl, B, G, T, F', ?_, fun _ _ _ _ _ z => z.elim, r, fun _ _ _ _ _ z => z.elim, fun _ _ _ _ _ z => z.elim⟩, fun z => nomatch z⟩⟩
  exact S'.set_ref i a
end
end DL

namespace DL
open PySem PySem.Spec PyProof.Rows L2 RZ
open L2H (HotC Hot1 RoomH PinOk)

/-! ### comprehensions while an exception is handled -/
theorem ilst_of {K : Fg} {env : List Sl} {ds : List D} {σ : L2.St} {H : Hp} {R : It → Hp → Prop} (h : rdI K env ds σ H R) : iList K (rdE K env (fun z => z = .list ds)) σ H R := by
  obtain ⟨B, G, T, F, S, q⟩ := h
  refine ⟨B, G, T, F, S, fun v d F' H' S' g dn z => ?_⟩
  subst z
  cases dn with | lst h d => exact ⟨_, rfl, ⟨_, SqL.of (S'.fh _ _ h)⟩, q _ F' H' S' g (wk_lst h d)⟩
section
variable {X : Cx} {tg iter elt : Expr} {ifs : List Expr} {scope : Scope} {env : List Sl} {items : List D} {pos : Pos}
/-- one element: the target, the tests, the element, in a block in which an exception is handled -/
structure LcOkH (X : Cx) (scope : Scope) (tg : Expr) (ifs : List Expr) (elt : Expr) (env : List Sl) (vs : List Nat) (d : D) (env'' : List Sl) (is : List Nat) (b : Bool) (Φ : D → Prop) : Prop where
  sub : ∀ i ∈ is, i ∈ vs
  tgt : ∀ (s : Shared) (H : Hp) (C : Addr) (cl : List (Str × Addr)) (fp : List Addr), HotI (X.blk s H scope (compEnvC scope cl C X.env) fp) → GR (X.blk s H scope (compEnvC scope cl C X.env) fp) tg (wipeE env vs) d env'' is
  tst : ∀ (s : Shared) (H : Hp) (C : Addr) (cl : List (Str × Addr)) (fp : List Addr), HotI (X.blk s H scope (compEnvC scope cl C X.env) fp) → TsD (X.blk s H scope (compEnvC scope cl C X.env) fp) ifs env'' b
  elm : b = true → ∀ (s : Shared) (H : Hp) (C : Addr) (cl : List (Str × Addr)) (fp : List Addr), HotI (X.blk s H scope (compEnvC scope cl C X.env) fp) → ER (X.blk s H scope (compEnvC scope cl C X.env) fp) elt env'' Φ
theorem lcG_okH {vs : List Nat} (s : Shared) (H : Hp) (C : Addr) (cl : List (Str × Addr)) (fp : List Addr) (h : HotI (X.blk s H scope (compEnvC scope cl C X.env) fp)) : PG (X.blk s H scope (compEnvC scope cl C X.env) fp) tg (lcG X.K (Ok := LcOkH X scope tg ifs elt env vs) (env := env) (vs := vs)) := PG.ex fun q => q.ok.tgt s H C cl fp h
theorem lcT_okH {vs : List Nat} (s : Shared) (H : Hp) (C : Addr) (cl : List (Str × Addr)) (fp : List Addr) (h : HotI (X.blk s H scope (compEnvC scope cl C X.env) fp)) : PTs (X.blk s H scope (compEnvC scope cl C X.env) fp) ifs (lcT X.K (Ok := LcOkH X scope tg ifs elt env vs)) := PTs.ex fun q => q.ok.tst s H C cl fp h
theorem lcE_okH {vs : List Nat} (s : Shared) (H : Hp) (C : Addr) (cl : List (Str × Addr)) (fp : List Addr) (h : HotI (X.blk s H scope (compEnvC scope cl C X.env) fp)) : PE (X.blk s H scope (compEnvC scope cl C X.env) fp) elt (lcE X.K (Ok := LcOkH X scope tg ifs elt env vs)) := PE.ex fun q => q.1.ok.elm q.2 s H C cl fp h
theorem exr_lcHot (own : List (Str × Nat)) (I : Nat → List D → Prop) (hot : HotC X) (hi : ED X iter env (.list items)) (hz : items.length ≤ 10000000) (h0 : I 0 [])
    (hs : ∀ k d ys, items[k]? = some d → I k ys → ∃ env'' is b Φ, LcOkH X scope tg ifs elt env (own.map (·.2)) d env'' is b Φ ∧ (b = false → I (k + 1) ys) ∧ (b = true → ∀ y, Φ y → I (k + 1) (ys ++ [y])))
    (ok : BlkOk X.N X.env.scope scope own := by exact blkOk_by (by kernel_rfl)) (hN : X.N.Nodup := by assumption) (hf : ∀ x, foldedSetIterable iter X.env x = pure x := by intro _; rfl) : EXR X (.ListComp elt [⟨tg, iter, ifs, 0⟩] scope pos) env (fun s => ∃ ys, s = .own ys ∧ I items.length ys) :=
  PE.imp (pe_lcHot hot hN hi ok lcG_okH lcT_okH lcE_okH hf) fun σ H Q h => ilst_of (lc_read I _ hz h0 (fun ok => ok.sub) hs h)
end
/-! ### a tuple unpacked while an exception is handled -/
section
variable {prog : Program} {w : World} {A : Around} {E : Value → Shared → Prop} {s : Shared}
theorem tupEnd_hot {it t x1 : Addr} {i : Nat} {items : Array Value} {Q : Option Value → Shared → Prop} (hot : HotX.HotAt A x1 s.heap) (hne : x1 ≠ it) (hit : IsTupIter s.heap it t i) (ht : IsTup s.heap t items) (hx : items[i]? = none)
    (hQ : ∀ h', Heap.ExtBut it s.heap h' → Q none { s with heap := h' }) : wpAny (model prog w) A (pyNext (.ref it)) Q E s := by
  obtain ⟨o, ho, hc, hd⟩ := id hit
  obtain ⟨ol, hol, _, nl, hdl⟩ := ht
  obtain ⟨hh, o1, vs1, h1, d1, c1⟩ := hot
  unfold pyNext
  refine wpAny_bind (wpAny_attempt (wpAny_callSpecial?_slot (name := Str.ofString "__next__") hit.typeIs slot_tupleiter_next (wpAny_call_entry slot_tupleiter_next hit.typeIs entry_tupleiter_next ?_ (args_tupleiter_next _))))
  show wpAny _ _ (field (.ref it) 0 >>= _) _ _ s
  refine wpAny_bind (wpAny_field ho hd (x := .ref t) rfl ?_)
  show wpAny _ _ (if (Value.ref t == Value.none) = true then _ else _) _ _ s
  rw [if_neg (show ¬ ((Value.ref t == Value.none) = true) from Bool.false_ne_true)]
  show wpAny _ _ (field (.ref it) 1 >>= _) _ _ s
  refine wpAny_bind (wpAny_field ho hd (x := .int i 0) rfl ?_)
  show wpAny _ _ (seqItems? (.ref t) >>= _) _ _ s
  refine wpAny_bind (wpAny_seqItems hol hdl ?_)
  simp only [Int.toNat_natCast, hx]
  refine wpAny_bind (wpAny_rule (wpAny_bind (wpAny_setField ho hd (by simp) ?_)))
  show wpAny _ _ (newExc (.type "StopIteration") [] >>= _) _ _ _
  refine wpAny_bind ?_
  simp only [newExc, newTuple]
  refine wpAny_bind (wpAny_newObj_type ?_ (by size_fits))
  refine wpAny_bind (m := firstArgMember _ _) (wpAny_of_eq (a := Value.none) (by first | rfl | (simp only [firstArgMember]; rfl)) ?_)
  refine wpAny_newObj_type ?_ (by size_fits)
  have kept : ∀ b u, b ≠ it → s.heap.get? b = some u → ∀ g, (s.heap.update it g).get? b = some u := fun b u n z g => (Heap.get?_update_other _ _ (Ne.symm n)).trans z
  refine HotX.raiseNew_hot ⟨hh, o1, vs1, Heap.get?_push_of_some _ (Heap.get?_push_of_some _ (kept x1 o1 hne h1 _)), d1, c1⟩ (Nat.ne_of_lt (Heap.lt_size (Heap.get?_push_of_some _ (kept x1 o1 hne h1 _)))) (Heap.get?_push_size _ rfl) rfl (by first | (simp; done) | (simp; omega)) ?_
  refine wpAny_bind (wpAny_isInstance (T := "StopIteration") (b := true) ⟨_, Heap.get?_update_self _ (Heap.get?_push_size _ rfl) rfl, rfl⟩ isSubtype_stop ?_)
  refine wpAny_pure (hQ _ fun b u n z => ?_)
  refine (Heap.get?_update_other _ _ ?_).trans (Heap.get?_push_of_some _ (Heap.get?_push_of_some _ (kept b u n z _)))
  exact Nat.ne_of_gt (Heap.lt_size (Heap.get?_push_of_some _ (kept b u n z _)))
theorem unpack_hot {t x1 : Addr} {items : Array Value} {targets : List (Bool × (Value → Sem Unit))} {Q : Unit → Shared → Prop} (hot : HotX.HotAt A x1 s.heap) (ht : IsTup s.heap t items) (hn : targets.length = items.size) (hstar : targets.findIdx? (·.1) = none)
    (h : ∀ h', Heap.ExtBut s.heap.objs.size s.heap h' → wpAny (model prog w) A (assignInOrder (targets.map (·.2)) items.toList) Q E { s with heap := h' }) : wpAny (model prog w) A (unpack (.ref t) targets) Q E s := by
  have lt : t ≠ s.heap.objs.size := by obtain ⟨o, e, _⟩ := ht; exact Nat.ne_of_lt (Heap.lt_size e)
  obtain ⟨hh, o1, vs1, h1, d1, c1⟩ := hot
  have lx : x1 ≠ s.heap.objs.size := Nat.ne_of_lt (Heap.lt_size h1)
  unfold unpack unpackItems
  rw [hn, hstar]
  refine wpAny_bind (wpAny_holding (wpAny_bind ?_))
  unfold notIterableAtAll
  refine wpAny_bind (wpAny_specialOf ht.typeIs slot_tuple_iter.lookup (wpAny_pure ?_))
  simp only [Bool.false_eq_true, if_false]
  refine wpAny_bind (wpAny_holding (iter_tuple ht (wpAny_bind (wpAny_holding (draw_tuple lt items.size 0 _ _ ⟨_, Heap.get?_push_size _ rfl, rfl, rfl⟩ (ht.push _) (by omega) fun hA itA sA => ?_)))))
  have all : (items.toList.drop 0).take items.size = items.toList := by rw [List.drop_zero]; exact List.take_of_length_le (by simp)
  rw [all, if_neg (by simp)]
  have tA : IsTup hA t items := (ht.push _).extBut sA.extBut lt
  refine wpAny_bind (wpAny_holding (tupEnd_hot (x1 := x1) ⟨hh, o1, vs1, sA.extBut x1 o1 lx (Heap.get?_push_of_some _ h1), d1, c1⟩ lx itA tA (by simp) fun hB eB => ?_))
  simp only [Option.isSome_none, Bool.false_eq_true, if_false]
  exact wpAny_pure (h hB fun b o hb e => eB b o hb (sA.extBut b o hb (Heap.get?_push_of_some _ e)))
end
section
variable {X : Cx} {es : List Expr} {k n : Nat} {pos : Pos} {env env' : List Sl} {ds : List D} {is : List Nat}
theorem pg_tupH {t : TGs} (hot : HotI X) (h : PGs X es t) (hn : (assignEach es X.env).length = n := by rfl) (hst : (assignEach es X.env).findIdx? (·.1) = none := by rfl) : PG X (.Tuple es k pos) (gTup X.K n t) := by
  refine ⟨fun pins s σ H v u Q I r ⟨a, xs, e1, hq, hl, hw⟩ => ?_⟩
  subst e1
  cases r
  obtain ⟨its, rv, ht, hz⟩ := I.tuple hq
  obtain ⟨x1, ha⟩ := hot pins σ H s I
  rw [assign_Tuple]
  refine wpAny_bind (wpAny_standAt (unpack_hot ha ht (by simp [hn, ← hl, rv.length]) hst fun h' hx => ?_))
  exact h.run pins _ σ H xs _ Q (I.kept (t' := s.toks) fun b o e => hx b o (Nat.ne_of_lt (Heap.lt_size e)) e) (by simpa using rv) hw
theorem gr_tupH (hot : HotI X) (h : GRs X es env ds env' is) (hl : ds.length = n) (hn : (assignEach es X.env).length = n := by rfl) (hst : (assignEach es X.env).findIdx? (·.1) = none := by rfl) : GR X (.Tuple es k pos) env (.tuple ds) env' is :=
  PG.imp (pg_tupH hot h hn hst) fun v σ H Q ⟨B, G, T, F, S, dn, q⟩ => by
    cases dn with | tup h d =>
    exact ⟨_, _, rfl, ex_t S.fh h, d.length.trans hl, B, G, T, F, S, d, q⟩
end
/-! ### isinstance of the exception that is handled -/
section
variable {X : Cx} {a C : Addr} {oe : Obj}
theorem cr_isP (c : ExcC X.K C) (hz : Zc (.ref C) none oe) (hf : ∃ vs, oe.data = .fields vs) (hp : (a, oe) ∈ X.pn) : CallR X (.builtin "isinstance") (rIsE X.K C a) := by
  rintro pins s σ H xs us Q I r ⟨t, tv, b, rfl, ht, hk, q⟩
  match us, r with
  | _, .cons ra (.cons rt .nil) =>
    cases ra
    rw [ht _ rt]
    obtain ⟨vs, ev⟩ := hf
    have at_ : PySem.W.InstAt s.heap a oe C none := by
      refine ⟨(I.pin (a, oe) (List.mem_append_left _ hp)).1, hz.1, ?_, ?_⟩
      · unfold PySem.W.notCls
        rw [ev]
      · rw [hz.2]
        trivial
    exact PySem.W.kia_one (PySem.W.handS_kitx_exc c.hg c.hk c.hs c.hd c.ha c.hn c.ht c.hm) I.kIn at_ hk (fun z => nomatch z) fun n => ⟨.bl b, H, I.kept (t' := n) fun _ _ e => e, rfl, q⟩
end
section
variable {X : Cx} {a C E : Addr} {oe : Obj} {env : List Sl} {x y : Str} {p p1 p2 pos : Pos} {b : Bool}
theorem ed_isP (i : Nat) (c : ExcC X.K C) (hz : Zc (.ref C) none oe) (hf : ∃ vs, oe.data = .fields vs) (hp : (a, oe) ∈ X.pn) (hi : env[i]? = some (.ref a)) (hy : X.mg y = some (.ref E)) (hk : PySem.W.kitOne X.K (.ref C) (.ref E) = some b) (hm : X.mg "isinstance" = none)
    (hg : Gl X "isinstance" := by rfl) (hgy : Gl X y := by rfl) (hdy : (y == ("__debug__" : Str)) = false := by decide) (hN : X.N[i]? = some x := by rfl) (hv : Vis X.env.scope x := by first | exact Or.inl rfl | exact Or.inr (Or.inl rfl) | exact Or.inr (Or.inr rfl)) (hd : (x == ("__debug__" : Str)) = false := by decide) (hcd : (x == ("__classdict__" : Str)) = false := by decide)
    (s1 : starEach [.Name x p1, .Name y p2] X.env = (false, eval (.Name x p1) X.env) :: starEach [.Name y p2] X.env := by rfl) (s2 : starEach [.Name y p2] X.env = (false, eval (.Name y p2) X.env) :: starEach [] X.env := by rfl) (hpl : (backTo pos (starEach [.Name y p2] X.env)).any (·.1) = false := by rfl) :
    ED X (.Call (.Name "isinstance" p) [.Name x p1, .Name y p2] [] pos) env (.bool b) :=
  PE.imp (pe_callB (cr_isP c hz hf hp) hg hm (by decide +kernel) (pa_cons (pv i hN hv hd hcd) (pa_cons (pe_glob (v := .ref E) hgy hy rfl hdy) pa_nil s2) s1) (by decide) (by decide) s1 hpl) fun σ H Q ⟨B, G, T, F, S, q⟩ => by
    obtain ⟨o, eo, er⟩ := S.some_at hi
    exact ⟨.ref a, by rw [eo, er], .ref E, .ref E, b, rfl, fun u r => r, hk, q _ _ F H S (Gr.refl S.fh) (.bl b) rfl⟩
end
end DL

namespace DL
open PySem PySem.Spec PyProof.Rows L2 RZ
open L2H (HotC Hot1 RoomH PinOk)

/-! ### a def called while an exception is handled, the exception is its argument -/
/-- its promise: of the class of the exception that is handed to it -/
def spX (K : Fg) (R : Value → (D → Prop) → Prop) (q : Addr × Obj) : Sp := fun vs H Q _ => ∃ cls F Φ, vs = [.ref q.1] ∧ Zc cls none q.2 ∧ (∃ z, q.2.data = .fields z) ∧ R cls Φ ∧ Ex F H ∧ ∀ v d F' H', Ex F F' → Ex F' H' → Ex H H' → (∀ a, H a ≠ none → F a = none → F' a = none) → Dn K F' v d → Φ d → Q v H'
def RunX (P : Program) (w : World) (K : Fg) (mg : Str → Option Value) (base : Heap) (k : Nat) (f : Addr) (fd : FuncData) (R : Value → (D → Prop) → Prop) (par : Str) : Prop :=
  ∀ (A : Around) (outer : List Env) (s : Shared) (H : Hp) (args : Args) (us : List Value) (vs : List V) (Q : VK) (E : XK) (q : Addr × Obj), RoomH k A → Hot1 A q → PinOk outer H s q → Env0 P w K mg base A outer s H → BindsTo s fd args ([par].zip us) → Vals vs us → spX K R q vs H Q E →
    codeAny (model P w) A (.call (.ref f) args) (CR CX0 outer P w H s Q E) s
structure KnX (P : Program) (w : World) (K : Fg) (mg : Str → Option Value) (base : Heap) (k : Nat) (x : Str) (R : Value → (D → Prop) → Prop) : Prop where
  ex : ∃ (f : Addr) (fd : FuncData) (par : Str), RunX P w K mg base k f fd R par ∧ PySem.W.keepIn K (.ref f) = true ∧ Binds K fd [par] [] ∧ mg x = some (.ref f)
abbrev cxX (P : Program) (w : World) (K : Fg) (mg : Str → Option Value) (base : Heap) (N : List Str) (qual : Str) (scope : Scope) (f : Addr) (cd : Value) (A : Around) (outer : List Env) (s : Shared) (H : Hp) (E : XK) (q : Addr × Obj) : Cx := (L2H.cxH CX0 P w K mg base N qual scope f cd A outer s H E q).nox
section
variable {P : Program} {w : World} {K : Fg} {mg : Str → Option Value} {base : Heap}
theorem fnX {x qual par : Str} {params : Arguments} {body : List Stmt} {scope : Scope} {f : Addr} {fd : FuncData} {N : List Str} {k : Nat} {R : Value → (D → Prop) → Prop} {dvs : List V} {kws : List (Str × V)} (Fd : FunD K x qual params body scope dvs kws f fd) (S : FnScope N [par] scope)
    (hbody : ∀ (cdv : Value) (A : Around) (outer : List Env) (s : Shared) (H : Hp) (E : XK) (q : Addr × Obj), Hot1 A q → RoomH k (A.deeper (envOfC qual scope s.heap.objs.size f cdv)) → ∀ cls Φ, Zc cls none q.2 → (∃ z, q.2.data = .fields z) → R cls Φ →
      SDs (cxX P w K mg base N qual scope f cdv A outer s H E q) body (startD N [.ref q.1]) { nx := fun _ => Φ .none, rt := Φ }) : RunX P w K mg base (k + 1) f fd R par := by
  intro A outer s H args us vs Q E q room hot pin e0 bind r ⟨cls, F, Φ, ev, zc, zf, hR, eF, hQ⟩
  obtain ⟨oc, od, dV, kV, doc, pm, an, cdv, ct, osl, rfl, look, code, _, _⟩ := Fd.ex
  have nN : 1 ≤ N.length := by
    have e := congrArg List.length S.pre
    rw [List.length_take] at e
    simp only [List.length_singleton] at e
    omega
  have hv1 : vs.length = [par].length := by rw [ev]; rfl
  have stays : ∀ b o, base.get? b = some o → s.heap.get? b = some o := fun b o e => (e0.bs b o e).1
  have KX : K.In s.heap := e0.mod.kin.keeps stays
  refine codeAny_call_function room.depth (KX _ _ look) rfl S.co S.gen rfl (PySem.W.codeRec_of KX code) (bind _ _ _ _ ?_)
  refine wpAny_newFunctionEnv_cells S.kind (fun y hy => ?_) fun en he s1 made => ?_
  · obtain ⟨n, u⟩ := y
    rcases S.par n (List.of_mem_zip hy).1 with l | l
    · exact .inl l
    · exact .inr ⟨l, PySem.W.cellsFrom_some _ _ _ (.inl l)⟩
  subst he
  have I := L2H.inv_startH (CX := CX0) (E := E) S pin e0 hv1 r made
  have st : StR K H F none F (startD N [.ref q.1]) (L2.start N vs) H := by
    subst ev
    refine startG eF (Ex.refl H) (fun i s h => ?_) (fun i s h o => ?_) rfl nN
    · match i with
      | 0 => simp at h; subst h; exact ⟨_, rfl, rfl⟩
      | i + 1 => simp at h
    · match i with
      | 0 => rfl
      | i + 1 => simp at h
  have kept : ∀ {env : List Sl} {σ : L2.St} {F' H' : Hp}, StR K H F none F' env σ H' → Ex H H' := fun S' a o h => S'.bh a o h (fun _ z => by cases z)
  refine ⟨(e0.mod.nolimit.keeps stays).keeps made.toInCall.keep, codeAny_func ?_⟩
  refine wpAny_mono ((PSs.nox (hbody cdv A outer s H E q hot (room.deeper _) cls Φ zc zf hR)).run [] s1 (L2.start N vs) H { nx := fun _ H' => Q .non H', rt := Q } I
    ⟨H, F, none, F, st, fun env' σ' F' H' S' φ => hQ .non .none F' H' S'.gf S'.fh (kept S') (fun a h n => S'.nf a h n) .non φ, fun v d env' σ' F' H' S' dn φ => hQ v d F' H' S'.gf S'.fh (kept S') (fun a h n => S'.nf a h n) dn φ, fun _ _ _ _ _ z => z.elim, fun _ _ _ _ _ z => z.elim⟩)
    (fun fl s' out => ?_) fun _ _ z => z
  match fl, out with
  | .ret u, ⟨v, σ', H', J, rv, hq⟩ => exact ⟨v, H', J.os, J.bare, J.base, J.hok, rv, hq⟩
  | .next, ⟨σ', H', J, hq⟩ => exact ⟨V.non, H', J.os, J.bare, J.base, J.hok, rfl, hq⟩
  | .brk, ⟨_, _, _, z⟩ => exact False.elim z
  | .cont, ⟨_, _, _, z⟩ => exact False.elim z
end
section
variable {X : Cx} {env : List Sl} {Φ : D → Prop} {x y : Str} {p p1 pos : Pos} {j k : Nat} {a : Addr} {oe : Obj} {cls : Value} {R : Value → (D → Prop) → Prop}
/-- f(e), e the exception that is handled here -/
theorem er_callX (i : Nat) (c : KnX X.prog X.w X.K X.mg X.base k x R) (hr : RoomH j X.A) (hot : Hot1 X.A (a, oe)) (hp : (a, oe) ∈ X.pn) (hz : Zc cls none oe) (hf : ∃ z, oe.data = .fields z) (hR : R cls Φ) (hi : env[i]? = some (.ref a)) (hk : k ≤ j := by decide) (hg : Gl X x := by rfl) (hdb : (x == ("__debug__" : Str)) = false := by decide) (hN : X.N[i]? = some y := by rfl)
    (hv : Vis X.env.scope y := by first | exact Or.inl rfl | exact Or.inr (Or.inl rfl) | exact Or.inr (Or.inr rfl)) (hd : (y == ("__debug__" : Str)) = false := by decide) (hcd : (y == ("__classdict__" : Str)) = false := by decide)
    (he : starEach [.Name y p1] X.env = (false, eval (.Name y p1) X.env) :: starEach [] X.env := by rfl) (hpl : (backTo pos (starEach [] X.env)).any (·.1) = false := by rfl) : ER X (.Call (.Name x p) [.Name y p1] [] pos) env Φ := by
  obtain ⟨f, fd, par, run, kp, bi, hm⟩ := c.ex
  refine ⟨fun pins s σ H Q I ⟨B, G, T, F, S, q⟩ => ?_⟩
  obtain ⟨o, eo, er⟩ := S.some_at hi
  refine wpAny_Call_Name_kw (ld_glob I hg hm ?_ hdb)
  refine PySem.W.callWith_K (h₀ := X.base) I.ok.mod.kin kp (thn ((pa_cons (pv i hN hv hd hcd) pa_nil he).run pos pins s σ H (fun vs H1 => vs = [.ref a] ∧ H1 = H) I ⟨.ref a, by rw [eo, er], rfl, rfl⟩) fun us s1 ⟨vs, H1, I1, r, ev, eH⟩ => ⟨I1.kIn, ?_⟩) he hpl
  subst ev eH
  have l1 : us.length = [par].length := by rw [← r.length]; rfl
  have pin := I1.pin (a, oe) (List.mem_append_left _ hp)
  have b1 := bi s1 us I1.kIn (by rw [List.append_nil]; exact l1)
  rw [List.append_nil] at b1
  refine wpAny_call (codeAny_mono (run X.A X.stack s1 H1 ⟨us, []⟩ us [.ref a] Q E0 (a, oe) ⟨by have := hr.dp; omega, by have := hr.un; omega⟩ hot ⟨pin.1, pin.2.1, fun hm => (List.mem_cons.mp (I1.stkSub a hm)).elim pin.2.2.1 pin.2.2.2.1, pin.2.2.2.2⟩ I1.env0 b1 r
    ⟨cls, F, Φ, rfl, hz, hf, hR, S.fh, fun v d F' H' h1 h2 h3 h4 dn φ => ?_⟩) fun out s' hq => ?_)
  · obtain ⟨g, S'⟩ := Gr.of_call S h1 h2 h3 h4
    exact q v d F' H' S' g dn φ
  · match out, hq with
    | .ok (.ret u), hq => exact I1.after hq
    | .ok .next, z => exact False.elim z
    | .ok .brk, z => exact False.elim z
    | .ok .cont, z => exact False.elim z
    | .error e, z => exact False.elim z
/-- in an except suite -/
theorem hot_suite {X : Cx} {a : Addr} {oe : Obj} {cls : Value} {d : Option Addr} {pn : List (Addr × Obj)} (hz : L2N.Zn cls d oe) (hf : ∃ z, oe.data = .fields z) : Hot1 (X.suite a ((a, oe) :: pn)).A (a, oe) := by
  obtain ⟨z, e⟩ := hf
  exact ⟨rfl, z, e, hz.2.2 z e⟩
end
end DL

namespace DL
open PySem PySem.Spec PyProof.Rows L2 RZ

/-! ### isinstance, ==, len, truth of instances -/
/-- what isinstance with the class at C says of d; no class below C is d's -/
def TyI (K : Fg) (C : Addr) (d : D) (b : Bool) : Prop := ∀ F v, Dn K F v d → ∃ t, TyX K F v t ∧ PySem.W.kitOne K t (.ref C) = some b ∧ PySem.W.notFirst K C t = true
theorem tyI_obj {K : Fg} {C : Addr} {fs : List (Str × D)} (h : PySem.W.kitOne K (.ref C) (.ref C) = some true) : TyI K C (objD C fs) true := fun F v dn => by
  obtain ⟨a, dx, ws, rfl, ea, c, _⟩ := dn.objE
  exact ⟨_, .base (.ins ea c.ic.cl c.ic.ha c.ic.hn c.ic.htk c.ic.hm), h, by simp [PySem.W.notFirst]⟩
theorem tyI_tup {K : Fg} {C : Addr} {ds : List D} (h : PySem.W.kitOne K (.type "tuple") (.ref C) = some false) (h2 : PySem.W.subIn K (.type "tuple") (.ref C) = some false) : TyI K C (.tuple ds) false := fun F v dn => by
  have nf : PySem.W.notFirst K C (.type "tuple") = true := by unfold PySem.W.notFirst; rw [h2]; rfl
  cases dn with
  | tup q _ =>
    rcases q with (q | ⟨o, q⟩) | ⟨o, its, n, hk, hc, _⟩
    · exact ⟨_, .base (.tup q), h, nf⟩
    · exact ⟨_, .fTuple q, h, nf⟩
    · exact ⟨_, .kTuple hk hc, h, nf⟩
section
variable {X : Cx} {C g : Addr} {e : Expr} {env : List Sl} {fs : List (Str × D)} {y d : D} {b : Bool} {c : Str} {p p2 pos : Pos} {k j : Nat} {R : List D → (D → Prop) → Prop} {Φ : D → Prop}
/-- isinstance(e, C) -/
theorem ed_isO (h : ED X e env d) (ty : TyI X.K C d b) (hm : X.mg "isinstance" = none) (hc : X.mg c = some (.ref C)) (hg : Gl X "isinstance" := by rfl) (hgc : Gl X c := by rfl) (hd : (c == ("__debug__" : Str)) = false := by decide)
    (s1 : starEach [e, .Name c p2] X.env = (false, eval e X.env) :: starEach [.Name c p2] X.env := by rfl) (s2 : starEach [.Name c p2] X.env = (false, eval (.Name c p2) X.env) :: starEach [] X.env := by rfl) (hpl : (backTo pos (starEach [.Name c p2] X.env)).any (·.1) = false := by rfl) :
    ED X (.Call (.Name "isinstance" p) [e, .Name c p2] [] pos) env (.bool b) :=
  PE.imp (pe_callB call_isi hg hm (by decide +kernel) (pa_cons h (pa_cons (pe_glob (v := .ref C) hgc hc rfl hd) pa_nil s2) s1) (by decide) (by decide) s1 hpl) fun σ H Q ⟨B, G, T, F, S, q⟩ => ⟨B, G, T, F, S, fun v d' F1 H1 S1 g1 dn z => by
    subst z
    obtain ⟨t, h1, h2, _⟩ := ty H1 v (dn.mono S1.fh)
    exact ⟨v, .ref C, t, .ref C, b, rfl, .own C, h1, h2, q _ _ F1 H1 S1 g1 (.bl b) rfl⟩⟩
/-- x == y, x an instance with its own __eq__ -/
theorem op_eqI {sp : Sp} (hs : PySem.W.findIn X.K (.ref C) "__eq__" = some (some (.ref g))) (hf : PySem.W.isFn X.K (.ref g) = true) (F : FnR X.prog X.w X.K X.mg X.base CX0 k g sp) (hr : Room k X.A) :
    OpR X (compareOp .Eq) (fun x y H Q => ∃ a dx ws t, x = .ref a ∧ H a = some (.ins C dx ws) ∧ TyX X.K H y t ∧ PySem.W.notFirst X.K C t = true ∧ sp [x, y] H Q E0) := by
  rintro pins s σ H x y v u Q I rx ry ⟨a, dx, ws, t, rfl, ha, ht, hn, q⟩
  cases (show v = Value.ref a from rx)
  obtain ⟨mA, O, _⟩ := ins_get I.hok ha
  obtain ⟨od, J, _⟩ := O.look
  obtain ⟨m, fr⟩ := I.fr
  obtain ⟨P, kx, hP, _⟩ := kit_of I ry ht
  show wpAny _ _ (richCompare .Eq (.ref a) u) _ _ _
  exact PySem.W.cmp_K (op := .Eq) hr.units0 fr I.ok.mod.kin J (kx.ty _ _ I.kIn hP) hn hs hf (wpAny_mono (wpAny_call (run_fnR (us := [.ref a, u]) (vs := [.ref a, y]) F hr pass0 I (.cons rfl (.cons ry .nil)) q)) (fun w s' ⟨z', H', I', rz, qz⟩ => SlX.cmpback rz ⟨z', H', I', rz, qz⟩) fun _ _ z => z)
theorem o_eqI (hs : PySem.W.findIn X.K (.ref C) "__eq__" = some (some (.ref g))) (hf : PySem.W.isFn X.K (.ref g) = true) (K1 : Km X.prog X.w X.K X.mg X.base k g [] (spF X.K R)) (hr : Room j X.A) (ty : TyI X.K C y b) (r : R [objD C fs, y] Φ) (hk : k ≤ j := by decide) : OpD X (compareOp .Eq) (objD C fs) y Φ := by
  obtain ⟨fd, ps, ds, ok, bi, va⟩ := K1.ex
  refine ⟨_, op_eqI hs hf (ok.raw bi va) (hr.mono hk), fun B G T F env σ H v u Q S dv du q => ?_⟩
  obtain ⟨a, dx, ws, rfl, ea, _, _⟩ := id dv.objE
  obtain ⟨t, h1, _, h3⟩ := ty H u (du.mono S.fh)
  refine ⟨a, dx, ws, t, rfl, S.fh _ _ ea, h1, h3, F, [objD C fs, y], Φ, S.fh, .cons dv (.cons du .nil), r, fun v d F' H' e1 e2 e3 e4 dn φ => ?_⟩
  obtain ⟨g, S'⟩ := Gr.of_call S e1 e2 e3 e4
  exact q v d F' H' S' g dn φ
end
end DL

namespace DL
open PySem PySem.Spec PyProof.Rows L2 RZ
open PySem.W (InstAt)
/-! ### len(o), the truth of o: o's own __len__ -/
section
variable {prog : Program} {w : World} {A : Around} {E : Value → Shared → Prop} {s : Shared} {K : Fg} {x C f : Addr} {ox : Obj} {od : Option Obj}
theorem len_bodyO {Q : Value → Shared → Prop} (X : K.In s.heap) (I : InstAt s.heap x ox C od) (hs : PySem.W.findIn K (.ref C) "__len__" = some (some (.ref f))) (hf : PySem.W.isFn K (.ref f) = true) (h : wpAny (model prog w) A (call (.ref f) [.ref x]) (PySem.W.LenBack Q) E s) :
    wpAny (model prog w) A (Builtin.«len» ⟨[.ref x], []⟩) (fun fin s' => ∃ r, fin = .done (.ret r) ∧ Q r s') E s := by
  unfold Builtin.«len»
  refine wpAny_bind (m := oneArg "len" _) (wpAny_pure (wpAny_bind (m := callSpecial? (.ref x) (Str.ofString "__len__")) (PySem.W.special_fn X I hs (beq_iff_eq.mp hf) (wpAny_mono h (fun r s' hr => ?_) fun _ _ y => y))))
  match r, hr with
  | .int n u, ⟨⟨h0, h1⟩, hq⟩ =>
    refine wpAny_bind (wpAny_holding (wpAny_pure (wpAny_bind (wpAny_letGo ?_))))
    show wpAny _ _ (if n < 0 then _ else (if n ≥ 2 ^ 63 then _ else _)) _ _ _
    rw [if_neg (Int.not_lt.mpr h0), if_neg (Int.not_le.mpr h1)]
    exact wpAny_bind (wpAny_mkInt (wpAny_pure ⟨_, rfl, hq⟩))
theorem truthyO {Q : Bool → Shared → Prop} (X : K.In s.heap) (I : InstAt s.heap x ox C od) (hb : PySem.W.findIn K (.ref C) "__bool__" = some none) (hs : PySem.W.findIn K (.ref C) "__len__" = some (some (.ref f))) (hf : PySem.W.isFn K (.ref f) = true)
    (h : wpAny (model prog w) A.in1 (call (.ref f) [.ref x]) (PySem.W.LenBack fun v s' => ∃ (n : Int) (t : Tok), v = .int n t ∧ Q (n != 0) s') E s) : wpAny (model prog w) A (truthy (.ref x)) Q E s := by
  have key : wpAny (model prog w) A (runValue (.builtin "len" ⟨[.ref x], []⟩)) (fun v s' => ∃ (n : Int) (t : Tok), v = .int n t ∧ Q (n != 0) s') E s := by
    refine wpAny_runValue (codeAny_builtin entry_len ?_)
    rw [Around.under_plainId plain_len _]
    exact wpAny_mono (len_bodyO X I hs hf h) (fun fin s' ⟨r, e, hq⟩ => by subst e; exact hq) fun _ _ e => e
  unfold truthy
  refine wpAny_bind (m := callSpecial? (.ref x) (Str.ofString "__bool__")) (wpAny_bind (wpAny_bind (I.type.here ((PySem.W.looks_findIn X hb).here (wpAny_pure ?_)))))
  refine wpAny_bind (wpAny_bind (I.type.here ((PySem.W.looks_findIn X hs).here ?_)))
  exact wpAny_bind (wpAny_mono key (fun v s' ⟨n, t, e, q⟩ => by subst e; exact wpAny_pure q) fun _ _ e => e)
end
section
variable {X : Cx} {C g : Addr} {a e : Expr} {env : List Sl} {fs : List (Str × D)} {k j : Nat} {R : List D → (D → Prop) → Prop} {n : Nat} {sp : Sp}
theorem back_len {pins : List (Addr × Obj)} {σ : L2.St} {Q : VK} {v : Value} {s' : Shared} (n : Nat) (hn : n < 2 ^ 62) (h : EP X pins σ (fun z H' => z = .int n ∧ Q z H') v s') : PySem.W.LenBack (EP X pins σ Q) v s' := by
  obtain ⟨z, H', I', rz, rfl, q⟩ := h
  obtain ⟨t, rfl⟩ := (show ∃ t, v = Value.int n t from rz)
  exact ⟨⟨Int.ofNat_nonneg n, by omega⟩, .int n, H', I'.tok _, ⟨_, rfl⟩, q⟩
theorem call_lenO (hs : PySem.W.findIn X.K (.ref C) "__len__" = some (some (.ref g))) (hf : PySem.W.isFn X.K (.ref g) = true) (F : FnR X.prog X.w X.K X.mg X.base CX0 k g sp) (hr : Room (k + 1) X.A) :
    CallR X (.builtin "len") (fun xs H Q => ∃ a dx ws, xs = [.ref a] ∧ H a = some (.ins C dx ws) ∧ ∃ n : Nat, n < 2 ^ 62 ∧ sp [.ref a] H (fun z H' => z = .int n ∧ Q z H') E0) := by
  rintro pins s σ H xs us Q I r ⟨a, dx, ws, rfl, ha, n, hn, q⟩
  match us, r with
  | _, .cons ra .nil =>
    cases ra
    obtain ⟨mA, O, _⟩ := ins_get I.hok ha
    obtain ⟨od, J, _⟩ := O.look
    refine PySem.Calls.call_function_entry kind_len plain_len entry_len (args_len1 _) (len_bodyO I.kIn J hs hf (wpAny_mono (wpAny_call ?_) (fun v s' z => back_len n hn z) fun _ _ z => z))
    exact SlX.run_at (us := [.ref a]) (ws := [.ref a]) F hr.in1 I.env0.in1 pass0 I (.cons rfl .nil) q
/-- o as a test -/
theorem tru_O (hb : PySem.W.findIn X.K (.ref C) "__bool__" = some none) (hs : PySem.W.findIn X.K (.ref C) "__len__" = some (some (.ref g))) (hf : PySem.W.isFn X.K (.ref g) = true) (F : FnR X.prog X.w X.K X.mg X.base CX0 k g sp) (hr : Room (k + 1) X.A) :
    TruR X (fun x H Q => ∃ a dx ws, x = .ref a ∧ H a = some (.ins C dx ws) ∧ ∃ n : Nat, n < 2 ^ 62 ∧ sp [.ref a] H (fun z H' => z = .int n ∧ Q (decide (n ≠ 0)) H') E0) := by
  rintro pins s σ H x v Q I rx ⟨a, dx, ws, rfl, ha, n, hn, q⟩
  cases (show v = Value.ref a from rx)
  obtain ⟨mA, O, _⟩ := ins_get I.hok ha
  obtain ⟨od, J, _⟩ := O.look
  refine truthyO I.kIn J hb hs hf (wpAny_mono (wpAny_call (SlX.run_at (us := [.ref a]) (ws := [.ref a]) F hr.in1 I.env0.in1 pass0 I (.cons rfl .nil) q)) (fun v s' ⟨z, H', I', rz, ez, q'⟩ => ?_) fun _ _ z => z)
  subst ez
  obtain ⟨t, rfl⟩ := (show ∃ t, v = Value.int n t from rz)
  refine ⟨⟨Int.ofNat_nonneg n, by omega⟩, n, s'.toks, rfl, ?_⟩
  have e : ((n : Int) != 0) = decide (n ≠ 0) := by cases n <;> simp <;> omega
  rw [e]
  exact ⟨H', I'.tok _, q'⟩
/-- len(o), as data -/
theorem c_lenO (hs : PySem.W.findIn X.K (.ref C) "__len__" = some (some (.ref g))) (hf : PySem.W.isFn X.K (.ref g) = true) (K1 : Km X.prog X.w X.K X.mg X.base k g [] (spF X.K R)) (hr : Room j X.A) (hn : n < 2 ^ 62) (r : R [objD C fs] (fun z => z = .int n)) (hk : k + 1 ≤ j := by decide) : CaD X (.builtin "len") [objD C fs] (fun z => z = .int n) := by
  obtain ⟨fd, ps, ds, ok, bi, va⟩ := K1.ex
  refine ⟨_, call_lenO hs hf (ok.raw bi va) (hr.mono hk), fun B G T F env σ H vs Q S dv q => ?_⟩
  match vs, dv with
  | _, .cons dn .nil =>
    obtain ⟨a, dx, ws, rfl, ea, _, _⟩ := id dn.objE
    refine ⟨a, dx, ws, rfl, S.fh _ _ ea, n, hn, F, [objD C fs], _, S.fh, .cons dn .nil, r, fun v d F' H' e1 e2 e3 e4 dn' φ => ?_⟩
    subst φ
    cases dn'
    obtain ⟨g, S'⟩ := Gr.of_call S e1 e2 e3 e4
    exact ⟨rfl, q _ _ F' H' S' g (.int n) rfl⟩
/-- .. a test -/
theorem td_O (h : ED X e env (objD C fs)) (hb : PySem.W.findIn X.K (.ref C) "__bool__" = some none) (hs : PySem.W.findIn X.K (.ref C) "__len__" = some (some (.ref g))) (hf : PySem.W.isFn X.K (.ref g) = true) (K1 : Km X.prog X.w X.K X.mg X.base k g [] (spF X.K R)) (hr : Room j X.A) (hn : n < 2 ^ 62)
    (r : R [objD C fs] (fun z => z = .int n)) (hk : k + 1 ≤ j := by decide) (he : ∀ whole, isTrue e X.env whole = (do let v ← whole; standAt e.pos; holding [v] (truthy v)) := by intro _; rfl) : TD X e env (decide (n ≠ 0)) := by
  obtain ⟨fd, ps, ds, ok, bi, va⟩ := K1.ex
  refine PT.imp (pt_truthR h (tru_O hb hs hf (ok.raw bi va) (hr.mono hk)) he) fun σ H Q ⟨B, G, T, F, S, q⟩ => ⟨B, G, T, F, S, fun v d F1 H1 S1 g1 dn z => ?_⟩
  subst z
  obtain ⟨a, dx, ws, rfl, ea, _, _⟩ := id dn.objE
  refine ⟨a, dx, ws, rfl, S1.fh _ _ ea, n, hn, F1, [objD C fs], _, S1.fh, .cons dn .nil, r, fun v d F' H' e1 e2 e3 e4 dn' φ => ?_⟩
  subst φ
  cases dn'
  obtain ⟨g, S'⟩ := Gr.of_call S1 e1 e2 e3 e4
  exact ⟨rfl, q _ F' H' S' (g1.trans g S1.tpn) rfl⟩
end
end DL

namespace DL
open PySem PySem.Spec PyProof.Rows L2 RZ

/-! ### a class read off the written part -/
/-- the head's facts: defs at any address, and one more Bool -/
def obsZG (n : Nat) (fa : List He.Fa) (fn : List He5.DefA) (ex : Fg → Bool) (g : Addr → Option Obj) : AlY := (He5.obsA fa fn (He.frG g (He5.asA g n)), ex (He.frG g (He5.asA g n)))
def SaysZ (fa : List He.Fa) (fn : List He5.DefA) (ex : Fg → Bool) (K : Fg) : Prop := He5.SaysA fa fn K ∧ ex K = true
def hookZ (n : Nat) (fa : List He.Fa) (fn : List He5.DefA) (ex : Fg → Bool) : PySem.W.Hook where
  α := AlY
  obs := fun s => obsZG n fa fn ex s.heap.get?
  val := fun _ => (He5.valA fn, true)
  says := fun _ h => ∃ K : Fg, K.In h ∧ SaysZ fa fn ex K
  of := fun _ _ e => ⟨_, He.frG_in, (Prod.mk.inj e).1, (Prod.mk.inj e).2⟩
  keeps := fun _ _ _ ⟨K, hK, c⟩ k => ⟨K, PySem.W.Frag.In.keeps hK k, c⟩
theorem obsZG_eq {n : Nat} {fa : List He.Fa} {fn : List He5.DefA} {ex : Fg → Bool} {g : Addr → Option Obj} {s : Shared} (h : ∀ a, g a = s.heap.get? a) : obsZG n fa fn ex g = (hookZ n fa fn ex).obs s := by
  have e : g = s.heap.get? := funext h
  rw [e] <;> rfl
/-- an own class: its names -/
structure ClK (K : Fg) (mg : Str → Option Value) (x : Str) (ats props meths cms : List Str) (cvs : List (Str × D)) : Prop where
  gl : mg x = some (.ref (He.ga K x))
  cls : Cls K (He.ga K x)
  na : ∀ f ∈ ats, NoAttr K (He.ga K x) f
  pr : ∀ f ∈ props, PropOf K (He.ga K x) f (He.ma K (He.ga K x) f) (He5.wf K (He.ga K x) "property" f)
  me : ∀ f ∈ meths, PySem.W.findIn K (.ref (He.ga K x)) f = some (some (.ref (He.ma K (He.ga K x) f))) ∧ PySem.W.isFn K (.ref (He.ma K (He.ga K x) f)) = true ∧ PySem.W.keepIn K (.ref (He.ma K (He.ga K x) f)) = true ∧ PySem.W.fnIn K (He.ma K (He.ga K x) f) = true
  nb : PySem.W.findIn K (.ref (He.ga K x)) "__bool__" = some none
  rd : ClX.CRead K (He.ga K x) (.type "type")
  cm : ∀ f ∈ cms, ClX.CMet K (He.ga K x) (.type "type") f (He.ma K (He.ga K x) f) (He5.wf K (He.ga K x) "classmethod" f)
  cv : ∀ q ∈ cvs, ∃ u v, PySem.W.findCls K (.ref (He.ga K x)) (.type "type") q.1 = some (.val u) ∧ RelV v u ∧ ∀ F, Dn K F v q.2
  mkr : Mk K (He.ga K x) (He.ma K (He.ga K x) "__init__")
  ob : ObjC K (He.ga K x)
  self : PySem.W.kitOne K (.ref (He.ga K x)) (.ref (He.ga K x)) = some true
  tup : PySem.W.kitOne K (.type "tuple") (.ref (He.ga K x)) = some false ∧ PySem.W.subIn K (.type "tuple") (.ref (He.ga K x)) = some false
def prB (K : Fg) (C : Addr) (f : Str) : Bool := He.eqO (PySem.W.findIn K (.ref C) f) (some (some (.ref (He.ma K C f)))) && (He.eqO (PySem.W.specialIn K (.ref (He.ma K C f)) "__get__") (some (some (.builtin "property.__get__"))) && (decide (PySem.W.takesIn K (.ref (He.ma K C f)) = some true) &&
  (match PySem.W.recIn K (He.ma K C f) "property" with
  | some (.ref _ :: _) => true
  | _ => false)))
def meB (K : Fg) (C : Addr) (f : Str) : Bool := He.eqO (PySem.W.findIn K (.ref C) f) (some (some (.ref (He.ma K C f)))) && (PySem.W.isFn K (.ref (He.ma K C f)) && (PySem.W.keepIn K (.ref (He.ma K C f)) && PySem.W.fnIn K (He.ma K C f)))
def cvB (K : Fg) (C : Addr) (q : Str × D) : Bool := match PySem.W.findCls K (.ref C) (.type "type") q.1 with
  | some (.val u) => vB K q.2 u
  | _ => false
def kitB2 (K : Fg) (t u : Value) (b : Bool) : Bool := decide (PySem.W.kitOne K t u = some b)
def clB (K : Fg) (x : Str) (ats props meths cms : List Str) (cvs : List (Str × D)) : Bool :=
  let C := He.ga K x
  ((He.Fa.glo x).ok K && ((He.Fa.cls x).ok K && ((He.Fa.mkr x).ok K && (ats.all (fun f => (He.Fa.noat x f).ok K) && (props.all (prB K C) && (meths.all (meB K C) && He.eqO (PySem.W.findIn K (.ref C) "__bool__") (some none))))))) &&
  ((PySem.W.readsIn K C (.type "type") && (He.eqO (PySem.W.specialIn K (.ref C) "__getattribute__") (some (some (.builtin "type.__getattribute__"))) && (cms.all (fun f => He5.wrapB K C "classmethod" "classmethod.__get__" f && PySem.W.fnIn K (He5.wf K C "classmethod" f)) && cvs.all (cvB K C)))) &&
  ((He.eqO (PySem.W.findIn K (.ref C) "__class__") (some (some (.builtin "object.__class__"))) && (He.eqO (PySem.W.specialIn K (.builtin "object.__class__") "__get__") (some (some (.builtin "getset_descriptor.__get__"))) && (decide (PySem.W.takesIn K (.builtin "object.__class__") = some true) && decide (PySem.W.mroIn K C (.type "object") = some true)))) &&
  ((kitB2 K (.ref C) (.ref C) true && (kitB2 K (.type "tuple") (.ref C) false && decide (PySem.W.subIn K (.type "tuple") (.ref C) = some false))) &&
  (["int", "bool", "str", "list", "tuple"].all fun T => kitB2 K (.ref C) (.type T) false))))
theorem clB_ok {K : Fg} {h : Heap} {mg : Str → Option Value} {x : Str} {ats props meths cms : List Str} {cvs : List (Str × D)} (X : K.In h) (G : h.Ns mainGlobals mg) (c : clB K x ats props meths cms cvs = true) : ClK K mg x ats props meths cms cvs := by
  unfold clB at c
  obtain ⟨c1, c⟩ := He.ba c
  obtain ⟨c2, c⟩ := He.ba c
  obtain ⟨c3, c⟩ := He.ba c
  obtain ⟨c4, c5⟩ := He.ba c
  obtain ⟨a1, c1⟩ := He.ba c1
  obtain ⟨a2, c1⟩ := He.ba c1
  obtain ⟨a3, c1⟩ := He.ba c1
  obtain ⟨a4, c1⟩ := He.ba c1
  obtain ⟨a5, c1⟩ := He.ba c1
  obtain ⟨a6, a7⟩ := He.ba c1
  obtain ⟨b1, c2⟩ := He.ba c2
  obtain ⟨b2, c2⟩ := He.ba c2
  obtain ⟨b3, b4⟩ := He.ba c2
  obtain ⟨d1, c3⟩ := He.ba c3
  obtain ⟨d2, c3⟩ := He.ba c3
  obtain ⟨d3, d4⟩ := He.ba c3
  obtain ⟨e1, c4⟩ := He.ba c4
  obtain ⟨e2, e3⟩ := He.ba c4
  have cl := He.cls_ok a2
  have k1 := of_decide_eq_true e1
  refine ⟨He.glo_ok X G a1, cl, fun f hf => He.noat_ok (List.all_eq_true.mp a4 f hf), fun f hf => ?_, fun f hf => ?_, He.eqO_ok a7, ⟨b1, He.eqO_ok b2⟩, fun f hf => ?_, fun q hq => ?_, He.mkr_ok a3, ⟨⟨cl, He.eqO_ok d1, He.eqO_ok d2, of_decide_eq_true d3, of_decide_eq_true d4, k1⟩, fun T hT => of_decide_eq_true (List.all_eq_true.mp c5 T hT)⟩, k1, of_decide_eq_true e2, of_decide_eq_true e3⟩
  · obtain ⟨p1, p⟩ := He.ba (List.all_eq_true.mp a5 f hf)
    obtain ⟨p2, p⟩ := He.ba p
    obtain ⟨p3, p4⟩ := He.ba p
    refine ⟨He.eqO_ok p1, He.eqO_ok p2, of_decide_eq_true p3, ?_⟩
    unfold He5.wf
    split at p4
    · rename_i g r e
      exact ⟨r, by rw [e]⟩
    · cases p4
  · obtain ⟨p1, p⟩ := He.ba (List.all_eq_true.mp a6 f hf)
    obtain ⟨p2, p⟩ := He.ba p
    obtain ⟨p3, p4⟩ := He.ba p
    exact ⟨He.eqO_ok p1, p2, p3, p4⟩
  · obtain ⟨p1, p2⟩ := He.ba (List.all_eq_true.mp b3 f hf)
    exact He5.cmet_of p1 p2
  · have p := List.all_eq_true.mp b4 q hq
    unfold cvB at p
    split at p
    · rename_i u e
      obtain ⟨v, r, dn⟩ := vB_ok p
      exact ⟨u, v, e, r, dn⟩
    · cases p
/-- an own class of errors -/
def xcB (K : Fg) (x : Str) : Bool := (He.Fa.glo x).ok K && (He.Fa.exc x).ok K
theorem xcB_ok {K : Fg} {h : Heap} {mg : Str → Option Value} {x : Str} (X : K.In h) (G : h.Ns mainGlobals mg) (c : xcB K x = true) : Xc K mg x := by
  obtain ⟨c1, c2⟩ := He.ba c
  obtain ⟨a, b, c, d⟩ := He.exc_ok c2
  exact ⟨He.glo_ok X G c1, a, b, c, d⟩
/-- what isinstance asks of the class of a caught error, and what it says of other classes -/
structure XiK (K : Fg) (x : Str) (ys : List (Str × Bool)) : Prop where
  ec : ExcC K (He.ga K x)
  is : ∀ q ∈ ys, PySem.W.kitOne K (.ref (He.ga K x)) (.ref (He.ga K q.1)) = some q.2
def xiB (K : Fg) (x : Str) (ys : List (Str × Bool)) : Bool :=
  let C := He.ga K x
  (He.eqO (PySem.W.findIn K (.ref C) "__getattribute__") (some (some (.builtin "BaseException.__getattribute__"))) && (He.eqO (PySem.W.findIn K (.ref C) "__getattr__") (some none) && (decide (PySem.W.subIn K (.ref C) (.type "BaseException") = some true) && (PySem.W.hasDictIn K C &&
  (He.eqO (PySem.W.findIn K (.ref C) "__class__") (some (some (.builtin "object.__class__"))) && (He.eqO (PySem.W.specialIn K (.builtin "object.__class__") "__get__") (some (some (.builtin "getset_descriptor.__get__"))) && (decide (PySem.W.takesIn K (.builtin "object.__class__") = some true) && decide (PySem.W.mroIn K C (.type "object") = some true)))))))) &&
  ys.all fun q => kitB2 K (.ref C) (.ref (He.ga K q.1)) q.2
theorem xiB_ok {K : Fg} {x : Str} {ys : List (Str × Bool)} (c : xiB K x ys = true) : XiK K x ys := by
  unfold xiB at c
  obtain ⟨c, y⟩ := He.ba c
  obtain ⟨a1, c⟩ := He.ba c
  obtain ⟨a2, c⟩ := He.ba c
  obtain ⟨a3, c⟩ := He.ba c
  obtain ⟨a4, c⟩ := He.ba c
  obtain ⟨a5, c⟩ := He.ba c
  obtain ⟨a6, c⟩ := He.ba c
  obtain ⟨a7, a8⟩ := He.ba c
  exact ⟨⟨He.eqO_ok a1, He.eqO_ok a2, of_decide_eq_true a3, a4, He.eqO_ok a5, He.eqO_ok a6, of_decide_eq_true a7, of_decide_eq_true a8⟩, fun q hq => of_decide_eq_true (List.all_eq_true.mp y q hq)⟩
end DL

namespace DL
open PySem PySem.Spec PyProof.Rows L2 RZ

theorem sx_setD {X : Cx} {W : WX} {e : Expr} {env : List Sl} {N : List Sl → Prop} {R : D → Prop} {Ψ : Value → Prop} {d : D} {x : Str} {pos pos' : Pos} {rest : List Stmt} (i : Nat) (h : ED X e env d) (hr : SX X W rest (env.set i (.dt d)) N R Ψ) (hN : X.N.Nodup := by assumption) (hi : X.N[i]? = some x := by rfl) (hx : Loc X.env.scope x := by first | exact .inl rfl | exact .inr rfl)
    (hs : swapsWith e (some (.Name x pos')) pos.line X.env = pure false := by rfl) (hf : X.fn x = true ∨ X.env.scope.names.lookup x = some .local := by first | exact .inl rfl | exact .inr rfl | assumption) : SX X W (.Assign [.Name x pos'] e pos :: rest) env N R Ψ :=
  sx_setR i h (fun d' e => by subst e; exact hr) hN hi hx hs hf
/-- a + b of lists, a new list of one's own -/
theorem ex_catL {X : Cx} {a b : Expr} {env : List Sl} {xs ys : List D} {pos : Pos} (ha : ED X a env (.list xs)) (hb : ED X b env (.list ys)) (h : xs.length + ys.length ≤ 100000 := by exact Nat.le_of_ble_eq_true rfl) : EX X (.BinOp a .Add b pos) env (.own (xs ++ ys)) :=
  PE.imp (pe_op op_cat ha hb) fun σ H Q ⟨B, G, T, F, S, q⟩ => ⟨B, G, T, F, S, fun v d F1 H1 S1 g1 d1 e1 => ⟨B, G, T, F1, S1, fun u d' F2 H2 S2 g2 d2 e2 => by
    subst e1 e2
    cases d1 with | lst k1 t1 =>
    cases d2 with | lst k2 t2 =>
    refine ⟨_, _, _, _, rfl, rfl, S2.fh _ _ (g2.ff _ _ k1), S2.fh _ _ k2, by rw [t1.length, t2.length]; exact Nat.le_trans h (by decide), fun p hp => ?_⟩
    obtain ⟨S', g⟩ := S2.layOwn hp ((t1.mono g2.ff).append t2)
    refine q _ _ _ _ S' ((g1.trans g2 S1.tpn).trans g S2.tpn) (fun _ r e => ?_) rfl
    injection e with e
    rw [← e]
    exact fresh_of (g1.trans g2 S1.tpn) S2.tpn hp⟩⟩
theorem lcM_stepH {α : Type} {Ok : D → List Sl → List Nat → Bool → (D → Prop) → Prop} {xs : List α} {en : α → D} {t : α → Bool} {f : α → D} (hs : ∀ a, a ∈ xs → ∃ env'' is, Ok (en a) env'' is (t a) (fun y => y = f a)) (k : Nat) (d : D) (ys : List D) (hk : (xs.map en)[k]? = some d) (hy : ys = ((xs.take k).filter t).map f) :
    ∃ env'' is b Φ, Ok d env'' is b Φ ∧ (b = false → ys = ((xs.take (k + 1)).filter t).map f) ∧ (b = true → ∀ y, Φ y → ys ++ [y] = ((xs.take (k + 1)).filter t).map f) := by
  rw [List.getElem?_map] at hk
  obtain ⟨a, e, rfl⟩ := Option.map_eq_some_iff.mp hk
  obtain ⟨env'', is, o⟩ := hs a (List.mem_of_getElem? e)
  refine ⟨env'', is, _, _, o, fun h => ?_, fun h y z => ?_⟩
  · rw [hy, take_succ' e, List.filter_append]; simp [h]
  · rw [hy, take_succ' e, List.filter_append, z]; simp [h]
theorem ex_lcMHot {X : Cx} {tg iter elt : Expr} {ifs : List Expr} {scope : Scope} {env : List Sl} {pos : Pos} {α : Type} (own : List (Str × Nat)) (xs : List α) (en : α → D) (t : α → Bool) (f : α → D) (hot : L2H.HotC X) (hi : ED X iter env (.list (xs.map en))) (hz : xs.length ≤ 10000000)
    (hs : ∀ a, a ∈ xs → ∃ env'' is, LcOkH X scope tg ifs elt env (own.map (·.2)) (en a) env'' is (t a) (fun y => y = f a))
    (ok : BlkOk X.N X.env.scope scope own := by exact blkOk_by (by kernel_rfl)) (hN : X.N.Nodup := by assumption) (hf : ∀ x, foldedSetIterable iter X.env x = pure x := by intro _; rfl) : EX X (.ListComp elt [⟨tg, iter, ifs, 0⟩] scope pos) env (.own ((xs.filter t).map f)) :=
  PE.imp (exr_lcHot own (fun k ys => ys = ((xs.take k).filter t).map f) hot hi (by simpa using hz) rfl (fun k d ys hk hy => lcM_stepH hs k d ys hk hy) ok hN hf) fun σ H Q ⟨B, G, T, F, S, q⟩ => ⟨B, G, T, F, S, fun v s F1 H1 S1 g1 fr ⟨ys, e1, e2⟩ => q v s F1 H1 S1 g1 fr (by rw [e1, e2]; simp)⟩
/-- e.f, a property, where e may raise -/
theorem ex1_prop {X : Cx} {W : WX} {C p g : Addr} {e : Expr} {env : List Sl} {f : Str} {pos : Pos} {k j : Nat} {Φ : D → Prop} {Ψ : Value → Prop} {Φs : List (Str × D) → Prop} {R : List D → (D → Prop) → Prop} (h : EX1 X W e env (fun d => ∃ fs, d = objD C fs ∧ Φs fs) Ψ) (c : Cls X.K C) (hp : PropOf X.K C f p g) (K1 : Km X.prog X.w X.K X.mg X.base k g [] (spF X.K R)) (hr : Room j X.A) (r : ∀ fs, Φs fs → R [objD C fs] Φ) (hk : k + 1 ≤ j := by decide)
    (hb : attributeBase e f X.env (eval e X.env) = eval e X.env := by rfl) : EX1 X W (.Attribute e f pos) env Φ Ψ := by
  obtain ⟨fd, ps, ds, ok, bi, va⟩ := K1.ex
  refine PE.imp (pe_prop h c hp ok (hr.mono hk) bi va pass0 hb) fun σ H Q ⟨B, G, T, F, S, q, x⟩ => ⟨B, G, T, F, S, fun v d' F1 H1 S1 g1 dn ⟨fs, z, φs⟩ => ?_, x⟩
  subst z
  obtain ⟨a, dx, ws, rfl, ea, _, t⟩ := id dn.objE
  refine ⟨a, dx, ws, rfl, S1.fh _ _ ea, F1, [objD C fs], Φ, S1.fh, .cons dn .nil, r fs φs, fun v d F' H' h1 h2 h3 h4 dn φ => ?_⟩
  obtain ⟨g, S'⟩ := Gr.of_call S1 h1 h2 h3 h4
  exact q v d F' H' S' (g1.trans g S1.tpn) dn φ
/-! ### methods' defs in a head -/
def mth (s : Stmt) (j : Nat) : Stmt := match s with
  | .ClassDef _ _ _ b _ _ _ _ _ _ _ => b.getD j (.Pass ⟨0, 0, 0, 0⟩)
  | _ => .Pass ⟨0, 0, 0, 0⟩
abbrev FnM (K : Fg) (x qual : Str) (st : Stmt) (dvs : List V) (kws : List (Str × V)) (f : Addr) (fd : FuncData) : Prop := FunD K x qual (defArgs st) (defBody st) (defScope st) dvs kws f fd
section
variable {P : Program} {w : World} {K : Fg} {mg : Str → Option Value} {base : Heap} {k : Nat} {x qual : Str} {params : Arguments} {body : List Stmt} {scope : Scope} {f C : Addr} {fd : FuncData} {ps : List Str} {sp : Sp} {dvs : List V} {kws : List (Str × V)}
theorem km_of (F : FunD K x qual params body scope [] [] f fd) (h : FnOk P w K mg base CX0 k f fd ps sp) (hb : ∀ (kV doc pm : Value) (an : Option Addr) (cdv ct : Value) (us : List Value), us.length = ps.length → bindArgs (PySem.W.fnOf x qual params body scope .none kV doc pm an cdv ct) ⟨us, []⟩ = pure (ps.zip us)) : Km P w K mg base k f [] sp :=
  ⟨fd, ps, [], h, FunD.bindsN F hb, .nil⟩
theorem ke_of (F : FunD K x qual params body scope [] [] f fd) (h : FnOk P w K mg base (L2N.CX P w) k f fd ps sp) (hb : ∀ (kV doc pm : Value) (an : Option Addr) (cdv ct : Value) (us : List Value), us.length = ps.length → bindArgs (PySem.W.fnOf x qual params body scope .none kV doc pm an cdv ct) ⟨us, []⟩ = pure (ps.zip us)) : Ke P w K mg base k f [] sp :=
  ⟨fd, ps, [], h, FunD.bindsN F hb, .nil⟩
/-- n arguments given, the defaults behind the j-th for the rest -/
theorem ke_dfl (F : FunD K x qual params body scope dvs kws f fd) (h : FnOk P w K mg base (L2N.CX P w) k f fd ps sp) (n j : Nat) (hd : dvs ≠ []) (hn : n + (dvs.length - j) = ps.length)
    (hb : ∀ (T : Addr) (kV doc pm : Value) (an : Option Addr) (cdv ct : Value) (us its : List Value), us.length = n → its.length = dvs.length →
      ∃ k, bindArgs (PySem.W.fnOf x qual params body scope (.ref T) kV doc pm an cdv ct) ⟨us, []⟩ = seqItems? (.ref T) >>= k ∧ k (some its.toArray) = pure (ps.zip (us ++ its.drop j))) : Ke P w K mg base k f (dvs.drop j) sp := by
  obtain ⟨ds, r, b⟩ := FunD.binds1 F n j hd hn hb
  exact ⟨fd, ps, ds, h, b, r⟩
theorem ki_of {ks : List Str} {R : List D → (List (Str × D) → Prop) → (Value → Prop) → Prop} (F : FunD K x qual params body scope [] kws f fd) (h : FnOk P w K mg base (L2N.CX P w) k f fd ps (spI K C R)) (hk : kws ≠ []) (m : Mk K C f) (o : ObjC K C)
    (hb : ∀ (D : Addr) (doc pm : Value) (an : Option Addr) (cdv ct : Value) (us ws : List Value), us.length = 1 → ws.length = ks.length →
      KwChain D [] (bindArgs (PySem.W.fnOf x qual params body scope .none (.ref D) doc pm an cdv ct) ⟨us, ks.zip ws⟩) (ps.zip (us ++ ws))) : Ki P w K mg base k C f ks (spI K C R) := by
  obtain ⟨mv, b⟩ := FunD.kbinds0 F 1 ks [] (fun us _ ws => us ++ ws) hk (fun _ z => nomatch z) (fun a _ c => a.append c) fun D doc pm an cdv ct us mv ws l1 l2 l3 => by
    cases mv with
    | nil => exact hb D doc pm an cdv ct us ws l1 l3
    | cons _ _ => cases l2
  exact ⟨⟨fd, ps, _, h, b⟩, m, o⟩
theorem knx_of {par : Str} {R : Value → (D → Prop) → Prop} (F : FunD K x qual params body scope [] [] f fd) (h : RunX P w K mg base k f fd R par) (hb : ∀ (kV doc pm : Value) (an : Option Addr) (cdv ct : Value) (us : List Value), us.length = [par].length → bindArgs (PySem.W.fnOf x qual params body scope .none kV doc pm an cdv ct) ⟨us, []⟩ = pure ([par].zip us)) (hm : mg x = some (.ref f)) : KnX P w K mg base k x R :=
  ⟨f, fd, par, h, F.kp, FunD.bindsN F hb, hm⟩
end
end DL

namespace DL
open PySem PySem.Spec PyProof.Rows L2 RZ
/-! ### what raises nothing here -/
theorem takesN {X : Cx} : L2N.Takes X (fun _ _ _ _ => False) := fun _ _ ⟨_, _, _, _, _, _, _, _, _, _, _, _, _, _, _, _, z⟩ => z.elim
theorem er_of1 {X : Cx} {e : Expr} {env : List Sl} {R : D → Prop} (h : EX1 X (fun _ _ _ _ => False) e env R (fun _ => False)) : ER X e env R := PE.imp h fun σ H Q ⟨B, G, T, F, S, q⟩ => ⟨B, G, T, F, S, q, fun _ _ _ _ _ z => z⟩
/-! ### constants of a class -/
section
variable {X : Cx} {C : Addr} {x f : Str} {env : List Sl} {d : D} {p pos : Pos}
theorem ed_cval (hm : X.mg x = some (.ref C)) (r : ClX.CRead X.K C (.type "type")) (c : ∃ u v, PySem.W.findCls X.K (.ref C) (.type "type") f = some (.val u) ∧ RelV v u ∧ ∀ F, Dn X.K F v d) (hg : Gl X x := by rfl) (hdb : (x == ("__debug__" : Str)) = false := by decide)
    (hb : attributeBase (.Name x p) f X.env (eval (.Name x p) X.env) = eval (.Name x p) X.env := by rfl) : ED X (.Attribute (.Name x p) f pos) env d := by
  obtain ⟨u, v, h1, h2, h3⟩ := c
  exact PE.imp (ClX.pe_cval (pe_glob (v := .ref C) hg hm rfl hdb) hb) fun σ H Q ⟨B, G, T, F, S, q⟩ => ⟨C, .type "type", v, u, rfl, r, ⟨h1, h2⟩, q v d F H S (Gr.refl S.fh) (h3 F) rfl⟩
end
end DL

namespace DL
open PySem PySem.Spec PyProof.Rows L2 RZ
open PySem.Sem (wp)
/-! ### a for loop in a generator's body -/
def tGFor (wi : TI) (g : TG) (tb : TGn) : TGn := fun D ys σ H => wi σ H fun J H1 => ∃ W : Nat → Nat → List V → L2.St → Hp → Prop, (∃ m, W 0 m ys σ H1) ∧ ∀ i m ys σ H, W i m ys σ H →
  (J.stop i H ∧ D.nx ys σ H) ∨ (J.go i H ∧ ∃ N : List V → L2.St → Hp → Prop, (∀ ys' σ' H', N ys' σ' H' → ∃ m', m' < m ∧ W (i + 1) m' ys' σ' H') ∧
    ∀ x H', J.yld i H x H' → g x σ H' fun σ2 H2 => tb { nx := N, rt := D.rt, bk := D.nx, ct := N } ys σ2 H2)
theorem gs_for {X : Cx} {tg iter : Expr} {body : List Stmt} {pos : Pos} {wi : TI} {g : TG} {tb : TGn} (hp : PassesOwn (model X.prog X.w) X.A X.env X.xe) (hcalm : X.calm = true) (hi : L2.PI X tg iter wi) (hg : PG X tg g) (hb : GSs X body tb)
    (hf : ∀ x, foldedSetIterable iter X.env x = pure x := by intro _; rfl) : GS X (.For tg iter body [] pos) (tGFor wi g tb) where
  run A S ip R n ys s₀ c fs K J gd lv s σ H D gc hn gk gi h := by
    have ov := gc.over
    rw [exec_For]
    obtain ⟨acc, cc, vals, I⟩ := gi
    refine seg_bind_wrap ?_
    rw [ov]
    refine wpAny_standAt ?_
    refine seg_bind_wrap ?_
    rw [ov]
    refine wpAny_mono (hi.run _ s σ H _ I h) (fun v s1 h1 => ?_) (fun e s' he => gk.exc n s₀ e s' he)
    rw [hf v]
    refine seg_bind_wrap (wpAny_pure ?_)
    refine seg_bind_wrap (wpAny_standAt ?_)
    refine seg_bind_wrap ?_
    rw [ov]
    refine wpAny_holding (wpAny_mono h1 (fun itv s2 h2 => ?_) (fun e s' he => gk.exc n s₀ e s' he))
    obtain ⟨it, fp, tn, Jt, H1, rfl, I1, turn, t0, fpok, W, ⟨m, w0⟩, step⟩ := h2
    let L : Code := .forLoop tg (.ref it) body [] X.env
    let k : Result → Sem PySem.Fin := fun r => Sem.wrap K J gd lv ((match r with
      | .ok f => Sem.pure f
      | .error e => Sem.raise e).onRaise (cameBack X.env))
    show Seg _ A R _ n s₀ c (Sem.call L none (gd false) (lv []) k) fs s2
    refine seg_call fun p => ?_
    have gcL : GC X S ip A L (Frame.ret k none (gd false) (lv []) c p [] :: fs) id := gc_loop gc rfl rfl
    have ovL := gcL.over
    generalize hFS : (Frame.ret k none (gd false) (lv []) c p [] :: fs) = FS at gcL ovL
    have fpS : ∀ b ∈ fp, b ≠ S := fun b hb => fun z => (fpok b hb).2.2.2.2.2 (S, lstObj acc cc) (List.mem_append_right _ (List.mem_cons_self ..)) z.symm
    -- what leaves the loop
    have leave : ∀ (n : Nat) (s₀ s' : Shared) (c' : Code) (e : Value), cameBackBy (model X.prog X.w) X.A X.env X.xe e s' → Seg (model X.prog X.w) A R (GY X S) n s₀ c' (Sem.raise e) FS s' := fun n s₀ s' c' e he => by
      subst hFS
      exact seg_leaf (.error e) (seg_cameBack gc gk he)
    have raiseL : ∀ (n : Nat) (s₀ s' : Shared) (e : Value), X.xe e s' → Seg (model X.prog X.w) A R (GY X S) n s₀ L ((do noteFrame e X.env; theTreesLotGoes e) >>= fun _ => Sem.raise e) FS s' := fun n s₀ s' e he => by
      refine seg_bind ?_
      rw [ovL]
      exact wpAny_bind (wpAny_mono (hp e s' he) (fun _ s'' h => wpAny_theTreesLotGoes (leave n s₀ s'' L e h)) (fun x s'' h => leave n s₀ s'' L x h))
    have turnL : ∀ m i ys n s₀ s σ H, W i m ys σ H → n + ys.length = sizeLine → GI X S ip ys σ H s → tn i s.heap → (∀ b ∈ fp, H b = none) → Seg (model X.prog X.w) A R (GY X S) n s₀ L ((model X.prog X.w).den L) FS s := by
      intro m
      induction m using Nat.strongRecOn with
      | _ m ih =>
      intro i ys n s₀ s σ H w hn gi tni fpn
      obtain ⟨acc, cc, vals, I⟩ := gi
      have fpok : ∀ b ∈ fp, FpOk X ((S, lstObj acc cc) :: ip) H b := fun b hb => ⟨fpn b hb, (fpok b hb).2.1, (fpok b hb).2.2.1, (fpok b hb).2.2.2.1, (fpok b hb).2.2.2.2.1, fun p hp => by
        rcases List.mem_append.1 hp with hp | hp
        · exact (fpok b hb).2.2.2.2.2 p (List.mem_append_left _ hp)
        · rcases List.mem_cons.1 hp with rfl | hp
          · exact fun z => fpS b hb z.symm
          · exact (fpok b hb).2.2.2.2.2 p (List.mem_append_right _ (List.mem_cons_of_mem _ hp))⟩
      show Seg _ A R _ n s₀ L ((forTurn tg (.ref it) body [] X.env).onRaise fun x => do noteFrame x X.env; theTreesLotGoes x) FS s
      rw [Sem.onRaise_eq_wrap]
      have fail : ∀ (e : Value) (s' : Shared), X.xe e s' → Seg (model X.prog X.w) A R (GY X S) n s₀ L ((fun e => ((do noteFrame e X.env; theTreesLotGoes e) : Sem Unit).bind fun _ => Sem.raise e) e) FS s' := fun e s' he => raiseL n s₀ s' e he
      unfold forTurn
      refine seg_bind_wrap (wpAny_standAt ?_)
      refine seg_bind_wrap ?_
      rw [ovL]
      refine wpAny_onRaise ?_
      rcases step i m ys σ H w with ⟨st, dn⟩ | ⟨go, N, low, body_⟩
      · refine wpAny_mono (turn.done X rfl rfl rfl hcalm i _ s σ H (fun _ _ => False) I fpok tni st) (fun r s3 ⟨er, I3⟩ => ?_) (fun _ _ z => z.elim)
        subst er
        show Seg _ A R _ n s₀ L (Sem.pure (Fin.again (Code.block [] X.env))) FS s3
        refine seg_again rfl ?_
        show Seg _ A R _ n s₀ _ (leafOf (.ok .next)) FS s3
        subst hFS
        exact seg_leaf (.ok .next) (gk.ok n ys s₀ s3 .next hn ⟨σ, H, ⟨acc, cc, vals, I3⟩, dn⟩)
      · refine wpAny_mono (turn.item X rfl rfl rfl hcalm i _ s σ H (fun _ _ => False) I fpok tni go) (fun r s3 ⟨u, er, hgo⟩ => ?_) (fun _ _ z => z.elim)
        subst er
        refine seg_bind_wrap ?_
        rw [ovL]
        refine wpAny_mono hgo (fun _ s4 ⟨x, H4, I4, rx, y, tn4, n4⟩ => ?_) (fun _ _ z => z.elim)
        refine seg_bind_wrap ?_
        rw [ovL]
        have I4p := I4.pinned (fp := fp) (fun b hb => ⟨n4 b hb, (fpok b hb).2⟩) (turn.obj _ _ tn4)
        refine wpAny_mono (hg.run _ s4 σ H4 x u _ I4p rx (body_ x H4 y)) (fun _ s5 ⟨σ5, H5, I5, q5⟩ => ?_) fail
        rw [Sem.bind_eq_wrap', Sem.wrap_wrap]
        have back : ∀ {ys : List V} {σ' : L2.St} {H' : Hp} {s' : Shared}, GI X S (ip ++ pinsAt fp s4.heap) ys σ' H' s' → GI X S ip ys σ' H' s' ∧ tn (i + 1) s'.heap ∧ (∀ b ∈ fp, H' b = none) := fun {ys σ' H' s'} ⟨acc', cc', v', I'⟩ => by
          have I' : L2.Inv X (((S, lstObj acc' cc') :: ip) ++ pinsAt fp s4.heap) σ' H' s' := I'
          have pin : ∀ b ∈ fp, ∀ o, s4.heap.get? b = some o → s'.heap.get? b = some o ∧ H' b = none := fun b hb o e =>
            let z := I'.pin (b, o) (List.mem_append_right _ (List.mem_append_right _ (mem_pinsAt hb e)))
            ⟨z.1, z.2.1⟩
          refine ⟨⟨acc', cc', v', I'.unpinned⟩, turn.keep _ _ _ tn4 (fun b hb o e => (pin b hb o e).1), fun b hb => ?_⟩
          obtain ⟨o, e, _⟩ := turn.obj _ _ tn4 b hb
          exact (pin b hb o e).2
        refine hb.run A S (ip ++ pinsAt fp s4.heap) R n ys s₀ L FS _ _ _ _ s5 σ5 H5 { nx := N, rt := D.rt, bk := D.nx, ct := N } ⟨gc.pn, fun p hp => ?_, gc.apart, ovL, gcL.split, gcL.guard, rfl⟩ hn ⟨fun n ys s₀ s' f hn gsp => ?_, fun n s₀ e s' he => ?_⟩ ⟨acc, cc, vals, I5⟩ q5
        · rcases List.mem_append.1 hp with hp | hp
          · exact gc.ip p hp
          · obtain ⟨b, hb, e⟩ := List.mem_filterMap.1 hp
            cases z : s4.heap.get? b with
            | none => rw [z] at e; cases e
            | some o => rw [z] at e; cases e; exact fpS b hb
        · have next : ∀ {σ' : L2.St} {H' : Hp}, GI X S (ip ++ pinsAt fp s4.heap) ys σ' H' s' → N ys σ' H' → Seg (model X.prog X.w) A R (GY X S) n s₀ L (Sem.pure (Fin.again L)) FS s' := fun {σ' H'} g nx => by
            obtain ⟨g1, g2, g3⟩ := back g
            obtain ⟨m', lt, w'⟩ := low _ _ _ nx
            exact seg_again rfl (ih m' lt (i + 1) ys n s₀ s' σ' H' w' hn g1 g2 g3)
          cases f with
          | next => obtain ⟨σ', H', g, nx⟩ := gsp; exact next g nx
          | cont => obtain ⟨σ', H', g, nx⟩ := gsp; exact next g nx
          | brk =>
            obtain ⟨σ', H', g, nx⟩ := gsp
            show Seg _ A R _ n s₀ L (leafOf (.ok .next)) FS s'
            subst hFS
            exact seg_leaf (.ok .next) (gk.ok n ys s₀ s' .next hn ⟨σ', H', (back g).1, nx⟩)
          | ret v =>
            obtain ⟨v', σ', H', g, rv, nx⟩ := gsp
            show Seg _ A R _ n s₀ L (leafOf (.ok (.ret v))) FS s'
            subst hFS
            exact seg_leaf (.ok (.ret v)) (gk.ok n ys s₀ s' (.ret v) hn ⟨v', σ', H', (back g).1, rv, nx⟩)
        · exact raiseL n s₀ s' e he
    exact turnL m 0 ys n s₀ s2 σ H1 w0 hn ⟨acc, cc, vals, I1⟩ t0 (fun b hb => (fpok b hb).1)
end DL

namespace DL
open PySem PySem.Spec PyProof.Rows L2 RZ
/-! ### an own object looked at as data, for the while of one evaluation -/
def osD : OS → D
  | .ins C fs => objD C fs
  | .lst xs => .list xs
/-- what is asked of the class of an own instance -/
def OsOk (K : Fg) : OS → Prop
  | .ins C _ => ObjC K C
  | .lst _ => True
theorem OsAt.dn {K : Fg} {F H : Hp} {p : Addr} {s : OS} {o : HO} (h : OsAt K F H p s) (ok : OsOk K s) (e : H p = some o) (fp : F p = none) : Dn K (upd F p o) (.ref p) (osD s) := by
  cases s with
  | ins C fs =>
    obtain ⟨dx, ws, a, b⟩ := h
    rw [a] at e; cases e
    exact Dn.objI upd_same ok (b.mono (Ex.new fp))
  | lst xs =>
    obtain ⟨vs, a, b⟩ := h
    rw [a] at e; cases e
    exact .lst upd_same (b.mono (Ex.new fp))
theorem StR.view {K : Fg} {B G F H : Hp} {T : Option TP} {env : List Sl} {σ : L2.St} (S : StR K B G T F env σ H) {i : Nat} {p : Addr} {s : OS} (h : env[i]? = some (.owo p s)) (ok : OsOk K s) :
    ∃ o, H p = some o ∧ F p = none ∧ (∀ t, T = some t → p ≠ t.p) ∧ StR K B G T (upd F p o) (env.set i (.dt (osD s))) σ H := by
  obtain ⟨o1, e, eo, b, f, n, hp⟩ := S.some_at h
  subst eo
  obtain ⟨o, ho⟩ := hp.at_
  have exF : Ex F (upd F p o) := Ex.new f
  refine ⟨o, ho, f, n, S.gf.trans exF, fun a u q => ?_, S.bh, fun a hb hg => ?_, by simpa using S.len, fun j s' o' e1 e2 => ?_, fun a c s1 s2 hab e1 e2 o1 o2 => ?_, fun t et => ?_⟩
  · by_cases ha : a = p
    · subst ha; rw [upd_same] at q; cases q; exact ho
    · rw [upd_ne ha] at q; exact S.fh a u q
  · rw [upd_ne (fun z => hb (by rw [z]; exact b))]; exact S.nf a hb hg
  · by_cases hij : i = j
    · subst hij
      rw [List.getElem?_set_self (List.getElem?_eq_some_iff.mp h).1] at e1
      cases e1
      rw [e] at e2; cases e2
      exact ⟨.ref p, rfl, hp.dn ok ho f⟩
    · rw [List.getElem?_set_ne hij] at e1
      have q := S.sl j s' o' e1 e2
      have far : ∀ {r : Addr}, o' = some (.ref r) → s'.owned = true → r ≠ p := fun {r} er ow z => by
        refine S.ds j i _ _ (Ne.symm hij) e1 h ow rfl ?_
        rw [e2, e, er, z]
      cases s' with
      | un => trivial
      | dt x => obtain ⟨v, e, d⟩ := q; exact ⟨v, e, d.mono exF⟩
      | own ys => obtain ⟨r, us, er, br, fr, nr, hr, d⟩ := q; exact ⟨r, us, er, br, by rw [upd_ne (far er rfl)]; exact fr, nr, hr, d.mono exF⟩
      | owo r0 ys => obtain ⟨er, br, fr, nr, hr⟩ := q; exact ⟨er, br, by rw [upd_ne (far er rfl)]; exact fr, nr, hr.mono exF (fun _ z => z)⟩
      | ref a => exact q
      | tape => exact q
  · have key : ∀ {j : Nat} {t : Sl}, (env.set i (Sl.dt (osD s)))[j]? = some t → t.owned = true → env[j]? = some t := fun {j t} e ow => by
      by_cases hij : i = j
      · subst hij
        rw [List.getElem?_set_self (List.getElem?_eq_some_iff.mp h).1] at e
        cases e; cases ow
      · rw [List.getElem?_set_ne hij] at e; exact e
    exact S.ds a c s1 s2 hab (key e1 o1) (key e2 o2) o1 o2
  · obtain ⟨h1, h2, h3⟩ := S.tp t et
    exact ⟨by rw [upd_ne (Ne.symm (n t et))]; exact h1, exF _ _ h2, h3⟩
section
variable {X : Cx} {e : Expr} {env : List Sl} {Φ : D → Prop} {d : D} {p : Addr} {s : OS} {b : Bool}
theorem er_view (i : Nat) (hi : env[i]? = some (.owo p s)) (ok : OsOk X.K s) (h : ER X e (env.set i (.dt (osD s))) Φ) (hs : ∀ d, Φ d → scalD d = true) : ER X e env Φ := PE.imp h fun σ H Q ⟨B, G, T, F, S, q⟩ => by
  obtain ⟨o, ho, f, n, S1⟩ := S.view hi ok
  refine ⟨B, G, T, _, S1, fun v d F2 H2 S2 g dn φ => ?_⟩
  obtain ⟨S3, g3⟩ := S.back S2 (Ex.new f) g
  exact q v d F H2 S3 g3 (dn.scal (hs d φ)) φ
theorem ed_view (i : Nat) (hi : env[i]? = some (.owo p s)) (ok : OsOk X.K s) (h : ED X e (env.set i (.dt (osD s))) d) (hs : scalD d = true := by rfl) : ED X e env d := er_view i hi ok h fun _ e => by subst e; exact hs
theorem td_view (i : Nat) (hi : env[i]? = some (.owo p s)) (ok : OsOk X.K s) (h : TD X e (env.set i (.dt (osD s))) b) : TD X e env b := PT.imp h fun σ H Q ⟨B, G, T, F, S, q⟩ => by
  obtain ⟨o, ho, f, n, S1⟩ := S.view hi ok
  refine ⟨B, G, T, _, S1, fun v F2 H2 S2 g φ => ?_⟩
  obtain ⟨S3, g3⟩ := S.back S2 (Ex.new f) g
  exact q v F H2 S3 g3 φ
end
/-! ### .. where the result is data without instances -/
def less (F : Hp) (p : Addr) : Hp := fun a => if a = p then none else F a
theorem less_ne {F : Hp} {p a : Addr} (h : a ≠ p) : less F p a = F a := if_neg h
theorem less_at {F : Hp} {p : Addr} : less F p p = none := if_pos rfl
section
variable {K : Fg} {F : Hp} {p C dx : Addr} {us : List (Str × V)}
mutual
theorem Dn.less (hp : F p = some (.ins C dx us)) : ∀ {v : V} {d : D}, Dn K F v d → nodic d = true → Dn K (DL.less F p) v d
  | _, _, .non, _ => .non
  | _, _, .bl b, _ => .bl b
  | _, _, .int i, _ => .int i
  | _, _, .str x, _ => .str x
  | _, _, .lst h a, e => .lst (by rw [less_ne (fun z => by rw [z, hp] at h; cases h)]; exact h) (DnA.less hp a (by simpa [nodic] using e))
  | _, _, .tup h a, e => .tup (by
      rcases h with (h | ⟨o, h⟩) | h
      · exact .inl (.inl (by rw [less_ne (fun z => by rw [z, hp] at h; cases h)]; exact h))
      · exact .inl (.inr ⟨o, by rw [less_ne (fun z => by rw [z, hp] at h; cases h)]; exact h⟩)
      · exact .inr h) (DnA.less hp a (by simpa [nodic] using e))
  | _, _, .obj _ _ _ _, e => by simp [objD, nodic] at e
theorem DnA.less (hp : F p = some (.ins C dx us)) : ∀ {vs : List V} {ds : List D}, DnA K F vs ds → nodicA ds = true → DnA K (DL.less F p) vs ds
  | _, _, .nil, _ => .nil
  | _, _, .cons h t, e => by
    simp only [nodicA, Bool.and_eq_true] at e
    exact .cons (Dn.less hp h e.1) (DnA.less hp t e.2)
end
end
theorem StR.backN {K : Fg} {B G F F2 H H2 : Hp} {T : Option TP} {σ : L2.St} {env env' : List Sl} {p : Addr} {o : HO} (S : StR K B G T F env σ H) (S2 : StR K B G T F2 env' σ H2) (f : F p = none) (n : ∀ t, T = some t → p ≠ t.p) (g : Gr T (upd F p o) H F2 H2) :
    StR K B G T (less F2 p) env σ H2 ∧ Gr T F H (less F2 p) H2 := by
  have ff : Ex F (less F2 p) := fun a u h => by
    have na : a ≠ p := fun z => by rw [z, f] at h; cases h
    rw [less_ne na]; exact g.ff a u (by rw [upd_ne na]; exact h)
  have g' : Gr T F H (less F2 p) H2 := ⟨ff, fun a u h => by
    by_cases na : a = p
    · rw [na, less_at] at h; cases h
    · rw [less_ne na] at h; exact g.fh a u h, g.hh, fun a h k => by
    by_cases na : a = p
    · rw [na]; exact less_at
    · rw [less_ne na]; exact g.nw a h (by rw [upd_ne na]; exact k)⟩
  refine ⟨S.grow g' fun t et => ?_, g'⟩
  obtain ⟨h1, h2, _⟩ := S.tp t et
  obtain ⟨h3, h4, c, j, h5, h6, h7⟩ := S2.tp t et
  exact ⟨by rw [less_ne (Ne.symm (n t et))]; exact h3, ff _ _ h2, c, j, h5, h6, h7⟩
section
variable {X : Cx} {e : Expr} {env : List Sl} {Φ : D → Prop} {d : D} {p C : Addr} {fs : List (Str × D)} {b : Bool}
theorem er_viewN (i : Nat) (hi : env[i]? = some (.owo p (.ins C fs))) (ok : ObjC X.K C) (h : ER X e (env.set i (.dt (objD C fs))) Φ) (hs : ∀ d, Φ d → nodic d = true) : ER X e env Φ := PE.imp h fun σ H Q ⟨B, G, T, F, S, q⟩ => by
  obtain ⟨o, ho, f, n, S1⟩ := S.view hi ok
  obtain ⟨o1, e, eo, b, _, _, dx, us, hp, _⟩ := S.some_at hi
  rw [ho] at hp
  cases hp
  refine ⟨B, G, T, _, S1, fun v d F2 H2 S2 g dn φ => ?_⟩
  obtain ⟨S3, g3⟩ := S.backN S2 f n g
  exact q v d _ H2 S3 g3 (dn.less (g.ff _ _ upd_same) (hs d φ)) φ
theorem ed_viewN (i : Nat) (hi : env[i]? = some (.owo p (.ins C fs))) (ok : ObjC X.K C) (h : ED X e (env.set i (.dt (objD C fs))) d) (hs : nodic d = true := by rfl) : ED X e env d := er_viewN i hi ok h fun _ e => by subst e; exact hs
end
end DL

namespace DL
open PySem PySem.Spec PyProof.Rows L2 RZ
/-! ### defs that change one of their arguments -/
def OwAt (K : Fg) (T : Option TP) (F H : Hp) (p : Addr) (s : OS) : Prop := F p = none ∧ (∀ t, T = some t → p ≠ t.p) ∧ OsAt K F H p s
theorem StR.own_at {K : Fg} {B G F H : Hp} {T : Option TP} {env : List Sl} {σ : L2.St} (S : StR K B G T F env σ H) {i : Nat} {p : Addr} {s : OS} (h : env[i]? = some (.owo p s)) : B p = none ∧ OwAt K T F H p s ∧ σ[i]? = some (some (.ref p)) := by
  obtain ⟨o, e, eo, b, f, n, hp⟩ := S.some_at h
  exact ⟨b, ⟨f, n, hp⟩, by rw [e, eo]⟩
/-- what a def's end bears out: the object at p holds s then -/
structure EfM (K : Fg) (F H : Hp) (p : Addr) (s : OS) (F' H' : Hp) : Prop where
  ff : Ex F F'
  fh : Ex F' H'
  hh : ∀ a o, a ≠ p → H a = some o → H' a = some o
  nw : ∀ a, a ≠ p → H a ≠ none → F a = none → F' a = none
  np : F' p = none
  os : OsAt K F' H' p s
structure EndM (K : Fg) (F H : Hp) (p : Addr) (s0 : OS) (Φ : D → OS → Prop) (Ψ : Value → Prop) (Q : VK) (E : XK) : Prop where
  rt : ∀ v d s F' H', EfM K F H p s F' H' → Dn K F' v d → Φ d s → Q v H'
  xc : ∀ cls F' H', EfM K F H p s0 F' H' → Ψ cls → E cls none H'
abbrev RM : Type := Addr → OS → List Sl → (D → OS → Prop) → (Value → Prop) → Prop
def ArgM (K : Fg) (F : Hp) (p : Addr) (s0 : OS) (v : V) (g : Sl) : Prop := (∃ d, g = .dt d ∧ Dn K F v d) ∨ (g = .owo p s0 ∧ v = .ref p)
def spM (K : Fg) (R : RM) : Sp := fun vs H Q E => ∃ p s0 F gs Φ Ψ, F p = none ∧ OsAt K F H p s0 ∧ Ex F H ∧ Paired (ArgM K F p s0) vs gs ∧ R p s0 gs Φ Ψ ∧ EndM K F H p s0 Φ Ψ Q E
theorem Paired.get {α β : Type} {P : α → β → Prop} {as : List α} {bs : List β} (h : Paired P as bs) : ∀ {i : Nat} {b : β}, bs[i]? = some b → ∃ a, as[i]? = some a ∧ P a b := by
  induction h with
  | nil => intro i b e; simp at e
  | cons hh t ih =>
    intro i b e
    cases i with
    | zero => simp at e; subst e; exact ⟨_, rfl, hh⟩
    | succ i => obtain ⟨a, e1, e2⟩ := ih (i := i) (by simpa using e); exact ⟨a, by simpa using e1, e2⟩
/-- the slots at a def's start: one at most is owned -/
theorem startJ {K : Fg} {B F H : Hp} {N : List Str} {vs : List V} {ss : List Sl} (jo : Nat) (e : Ex F H) (bh : Ex B H) (hs : ∀ (i : Nat) (s : Sl), ss[i]? = some s → ∃ v, vs[i]? = some v ∧ SlotR K B none F H s (some v)) (hd : ∀ (i : Nat) (s : Sl), ss[i]? = some s → s.owned = true → i = jo)
    (hl : vs.length = ss.length) (hn : vs.length ≤ N.length) : StR K B F none F (startD N ss) (L2.start N vs) H where
  gf := Ex.refl F
  fh := e
  bh := fun a o h _ => bh a o h
  nf := fun _ _ h => h
  len := by rw [start_len hn, startD_len (by rw [← hl]; exact hn)]
  sl := fun i s o e1 e2 => by
    rcases startD_get e1 with q | q
    · obtain ⟨v, ev, r⟩ := hs i s q
      rcases start_get e2 with ⟨v', e', eo⟩ | ⟨l, _⟩
      · rw [ev] at e'; cases e'; rw [eo]; exact r
      · have := (List.getElem?_eq_some_iff.mp ev).1; omega
    · subst q; trivial
  ds := fun i j s s' hij e1 e2 o1 o2 => by
    rcases startD_get e1 with q | q
    · rcases startD_get e2 with q2 | q2
      · exact absurd ((hd i s q o1).trans (hd j s' q2 o2).symm) hij
      · subst q2; cases o2
    · subst q; cases o1
  tp := fun t e => by cases e

/-! ### statements: the object at p, s0 at the start -/
def rdSm (K : Fg) (W : WX) (p : Addr) (s0 : OS) (env : List Sl) (N : List Sl → Prop) (R : D → OS → Prop) (Ψ : Value → Prop) : TS := fun E σ H => ∃ B G T F, StR K B G T F env σ H ∧
  (∀ env' σ' F' H', StR K B G T F' env' σ' H' → N env' → E.nx σ' H') ∧ (∀ v d s env' σ' F' H', StR K B G T F' env' σ' H' → OwAt K T F' H' p s → Dn K F' v d → R d s → E.rt v H') ∧
  (∀ cls σ' F' H', StR K B G T F' (uns env.length) σ' H' → OwAt K T F' H' p s0 → Ψ cls → W cls none σ' H')
def SM (X : Cx) (W : WX) (p : Addr) (s0 : OS) (st : List Stmt) (env : List Sl) (N : List Sl → Prop) (R : D → OS → Prop) (Ψ : Value → Prop) : Prop := PSs X st (rdSm X.K W p s0 env N R Ψ)
/-- expressions that change the object, which stands in the slot i -/
def rdEM (K : Fg) (W : WX) (i : Nat) (p : Addr) (s0 : OS) (env : List Sl) (R : D → OS → Prop) (Ψ : Value → Prop) : TE := fun σ H Q => ∃ B G T F, StR K B G T F env σ H ∧
  (∀ v d s F' H', StR K B G T F' (env.set i (.owo p s)) σ H' → Ex F F' → Dn K F' v d → R d s → Q v H') ∧ (∀ cls σ' F' H', StR K B G T F' (uns env.length) σ' H' → OwAt K T F' H' p s0 → Ψ cls → W cls none σ' H')
def EM (X : Cx) (W : WX) (e : Expr) (i : Nat) (p : Addr) (s0 : OS) (env : List Sl) (R : D → OS → Prop) (Ψ : Value → Prop) : Prop := PE X e (rdEM X.K W i p s0 env R Ψ)
section
variable {X : Cx} {W : WX} {e c : Expr} {env : List Sl} {N : List Sl → Prop} {R : D → OS → Prop} {Ψ : Value → Prop} {q : Addr} {s0 s : OS} {d : D} {x : Str} {pos p pos' : Pos} {rest thn : List Stmt}
theorem set_same (i : Nat) (h : env[i]? = some (.owo q s)) : env.set i (.owo q s) = env := by
  apply List.ext_getElem?
  intro j
  by_cases hij : i = j
  · subst hij; rw [List.getElem?_set_self (List.getElem?_eq_some_iff.mp h).1, h]
  · rw [List.getElem?_set_ne hij]
theorem em_of {i : Nat} (hi : env[i]? = some (.owo q s)) (h : ER X e env (fun d => R d s)) : EM X W e i q s0 env R Ψ := PE.imp h fun σ H Q ⟨B, G, T, F, S, k, _⟩ => ⟨B, G, T, F, S, fun v d F' H' S' g dn r => k v d s F' H' (by rw [set_same i hi]; exact S') g.ff dn r⟩
theorem em_imp {i : Nat} {R' : D → OS → Prop} {Ψ' : Value → Prop} (h : EM X W e i q s0 env R' Ψ') (h1 : ∀ d s, R' d s → R d s) (h2 : ∀ c, Ψ' c → Ψ c) : EM X W e i q s0 env R Ψ :=
  PE.imp h fun σ H Q ⟨B, G, T, F, S, k, w⟩ => ⟨B, G, T, F, S, fun v d s F' H' S' g dn r => k v d s F' H' S' g dn (h1 d s r), fun cls σ' F' H' S' o z => w cls σ' F' H' S' o (h2 cls z)⟩
theorem em_if {i : Nat} {a b : Expr} {k : Bool} (hc : TD X c env k) (ha : k = true → EM X W a i q s0 env R Ψ) (hb : k = false → EM X W b i q s0 env R Ψ) : EM X W (.IfExp c a b pos) i q s0 env R Ψ := by
  cases k with
  | true =>
    refine PE.imp (pe_ifExp (tb := fun _ _ _ => False) hc (ha rfl) ⟨fun _ _ _ _ _ _ h => h.elim⟩) fun σ H Q ⟨B, G, T, F, S, k, w⟩ => ⟨B, G, T, F, S, fun v F1 H1 S1 g e => ?_⟩
    subst e
    exact iteT ⟨B, G, T, F1, S1, fun v d s F' H' S' g' => k v d s F' H' S' (g.ff.trans g'), w⟩
  | false =>
    refine PE.imp (pe_ifExp (ta := fun _ _ _ => False) hc ⟨fun _ _ _ _ _ _ h => h.elim⟩ (hb rfl)) fun σ H Q ⟨B, G, T, F, S, k, w⟩ => ⟨B, G, T, F, S, fun v F1 H1 S1 g e => ?_⟩
    subst e
    exact iteF ⟨B, G, T, F1, S1, fun v d s F' H' S' g' => k v d s F' H' S' (g.ff.trans g'), w⟩
theorem sm_nil (h : N env) : SM X W q s0 [] env N R Ψ := PSs.imp pss_nil fun E σ H ⟨B, G, T, F, S, n, _⟩ => n _ _ _ _ S h
theorem sm_setR (i : Nat) {Q : D → Prop} (h : ER X e env Q) (hr : ∀ d, Q d → SM X W q s0 rest (env.set i (.dt d)) N R Ψ) (hN : X.N.Nodup := by assumption) (hi : X.N[i]? = some x := by rfl) (hx : Loc X.env.scope x := by first | exact .inl rfl | exact .inr rfl)
    (hs : swapsWith e (some (.Name x pos')) pos.line X.env = pure false := by rfl) (hf : X.fn x = true ∨ X.env.scope.names.lookup x = some .local := by first | exact .inl rfl | exact .inr rfl | assumption) : SM X W q s0 (.Assign [.Name x pos'] e pos :: rest) env N R Ψ :=
  PSs.imp (pss_cons (ps_set hN hi hx h hs hf) (PSs.ex fun d : {d : D // Q d} => hr d.1 d.2)) fun E σ H ⟨B, G, T, F, S, n⟩ => ⟨B, G, T, F, S, fun v d F' H' S' g dn r => ⟨⟨d, r⟩, B, G, T, F', S'.set_dt dn i, by simpa only [List.length_set] using n⟩⟩
theorem sm_setD (i : Nat) (h : ED X e env d) (hr : SM X W q s0 rest (env.set i (.dt d)) N R Ψ) (hN : X.N.Nodup := by assumption) (hi : X.N[i]? = some x := by rfl) (hx : Loc X.env.scope x := by first | exact .inl rfl | exact .inr rfl)
    (hs : swapsWith e (some (.Name x pos')) pos.line X.env = pure false := by rfl) (hf : X.fn x = true ∨ X.env.scope.names.lookup x = some .local := by first | exact .inl rfl | exact .inr rfl | assumption) : SM X W q s0 (.Assign [.Name x pos'] e pos :: rest) env N R Ψ :=
  sm_setR i h (fun d' e => by subst e; exact hr) hN hi hx hs hf
theorem sm_if1 {k : Bool} (hc : TD X c env k) (h1 : k = true → SM X W q s0 thn env (fun _ => False) R Ψ) (h2 : k = false → SM X W q s0 rest env N R Ψ) : SM X W q s0 (.If c thn [] pos :: rest) env N R Ψ := by
  cases k with
  | true =>
    refine PSs.imp (pss_cons (ps_if hc (h1 rfl) pss_never) pss_never) fun E σ H ⟨B, G, T, F, S, n, r, w⟩ => ⟨B, G, T, F, S, fun v F' H' S' g e => ?_⟩
    subst e
    exact iteT ⟨B, G, T, F', S', fun env' σ' F2 H2 S2 j2 => j2.elim, r, w⟩
  | false =>
    refine PSs.imp (pss_cons (ps_if hc pss_never pss_nil) (h2 rfl)) fun E σ H ⟨B, G, T, F, S, n, r, w⟩ => ⟨B, G, T, F, S, fun v F' H' S' g e => ?_⟩
    subst e
    exact iteF ⟨B, G, T, F', S', n, r, w⟩
theorem sm_ret {i : Nat} (hi : env[i]? = some (.owo q s)) (h : ER X e env (fun d => R d s)) : SM X W q s0 (.Return (some e) pos :: rest) env N R Ψ :=
  PSs.imp (pss_cons (ps_ret h) pss_never) fun E σ H ⟨B, G, T, F, S, n, r, _⟩ => ⟨B, G, T, F, S, fun v d F' H' S' g dn φ => r v d s env σ F' H' S' (S'.own_at hi).2.1 dn φ⟩
theorem sm_retM {i : Nat} (hl : i < env.length) (h : EM X W e i q s0 env R Ψ) : SM X W q s0 (.Return (some e) pos :: rest) env N R Ψ :=
  PSs.imp (pss_cons (ps_ret h) pss_never) fun E σ H ⟨B, G, T, F, S, n, r, w⟩ => ⟨B, G, T, F, S, fun v d s F' H' S' g dn φ => r v d s _ σ F' H' S' (S'.own_at (i := i) (by rw [List.getElem?_set_self hl])).2.1 dn φ, w⟩
/-- a call for its change alone -/
theorem sm_expr {i : Nat} (h : EM X W e i q s0 env (fun _ z => z = s) Ψ) (hr : SM X W q s0 rest (env.set i (.owo q s)) N R Ψ) (hsw : swapsWith e none pos.line X.env = pure false := by rfl) : SM X W q s0 (.Expr e pos :: rest) env N R Ψ :=
  PSs.imp (pss_cons (ps_expr h hsw) hr) fun E σ H ⟨B, G, T, F, S, n, r, w⟩ => ⟨B, G, T, F, S, fun v d s' F' H' S' g dn φ => by
    subst φ
    exact ⟨B, G, T, F', S', n, r, by simpa only [List.length_set] using w⟩, w⟩
theorem sm_raise {i : Nat} {m : Str} {j : Nat} {p2 p3 : Pos} (hi : env[i]? = some (.owo q s0)) (tk : L2N.Takes X W) (c : Xc X.K X.mg x) (h : Ψ (.ref (He.ga X.K x))) (hc : X.calm = true := by rfl) (hg : Gl X x := by rfl) (hdb : (x == ("__debug__" : Str)) = false := by decide) :
    SM X W q s0 (.Raise (some (.Call (.Name x p) [.Constant (.str m) j p2] [] p3)) none pos :: rest) env N R Ψ :=
  PSs.imp (pss_cons (L2N.ps_raise hc tk (L2N.pmk_own PySem.F.excBase_ValueError c.ex c.gl c.kp (raises_own c.sb c.ty) hg hdb)) pss_never) fun E σ H ⟨B, G, T, F, S, n, r, w⟩ => w _ σ F H (S.uns S.len.symm) (S.own_at hi).2.1 h
/-- self.f = e -/
theorem sm_attr {C : Addr} {fs : List (Str × D)} {f y : Str} {p1 : Pos} (i : Nat) (h : ED X e env d) (hr : SM X W q s0 rest (env.set i (.owi q C (putD f d fs))) N R Ψ) (c : Cls X.K C) (n : NoAttr X.K C f) (hi : env[i]? = some (.owi q C fs) := by rfl) (hl : fs.length < 1000 := by exact Nat.le_of_ble_eq_true rfl) (hN : X.N[i]? = some y := by rfl)
    (hv : Vis X.env.scope y := by first | exact Or.inl rfl | exact Or.inr (Or.inl rfl) | exact Or.inr (Or.inr rfl)) (hd : (y == ("__debug__" : Str)) = false := by decide) (hcd : (y == ("__classdict__" : Str)) = false := by decide)
    (hs : swapsWith e (some (.Attribute (.Name y p) f p1)) pos.line X.env = pure false := by rfl) : SM X W q s0 (.Assign [.Attribute (.Name y p) f p1] e pos :: rest) env N R Ψ :=
  PSs.imp (pss_cons (ps_fld (pv i hN hv hd hcd) h hs) hr) fun E σ H ⟨B, G, T, F, S, n1⟩ => ⟨B, G, T, F, S, fun v d' F' H' S' g dn z => by
    subst z
    obtain ⟨o, eo, e1, e2, e3, e4, dx, ws, e5, e6⟩ := S'.some_at hi
    exact ⟨.ref q, by rw [eo, e1], q, C, dx, ws, rfl, e5, c, n, by rw [paired_len e6]; exact hl, B, G, T, F', S'.upd_owo hi ⟨dx, _, upd_same, e6.put dn⟩, by simpa only [List.length_set] using n1⟩⟩
end

/-! ### the def's rule -/
section
variable {P : Program} {w : World} {K : Fg} {mg : Str → Option Value} {base : Heap} {x qual : Str} {params : Arguments} {body : List Stmt} {scope : Scope} {f : Addr} {fd : FuncData} {N ps : List Str} {k : Nat} {R : RM} {dvs : List V} {kws : List (Str × V)}
theorem fnM (F : FunD K x qual params body scope dvs kws f fd) (S : FnScope N ps scope) (jo : Nat) (len : ∀ p s0 (gs : List Sl) Φ Ψ, R p s0 gs Φ Ψ → gs.length = ps.length ∧ gs[jo]? = some (.owo p s0) ∧ ∀ i s, gs[i]? = some s → s.owned = true → i = jo)
    (hbody : ∀ (cdv : Value) (A : Around) (outer : List Env) (s : Shared) (H : Hp) (E : XK), Room k (A.deeper (envOfC qual scope s.heap.objs.size f cdv)) → L2N.Takes (cxE P w K mg base N qual scope f cdv A outer s H E) (wxE E) → ∀ p s0 gs Φ Ψ, R p s0 gs Φ Ψ →
      SM (cxE P w K mg base N qual scope f cdv A outer s H E) (wxE E) p s0 body (startD N gs) (fun (env : List Sl) => ∃ (i : Nat) (s : OS), env[i]? = some (Sl.owo p s) ∧ Φ .none s) Φ Ψ) : FnOk P w K mg base (L2N.CX P w) (k + 1) f fd ps (spM K R) := by
  have pl : ps.length ≤ N.length := by have := congrArg List.length S.pre; rw [List.length_take] at this; omega
  refine F.ok S (fun vs H Q E h => ?_) (fun cdv A outer s H vs Q E hr h => ?_)
  · obtain ⟨p, s0, F, gs, Φ, Ψ, _, _, _, d, r, _⟩ := h
    rw [paired_len d, (len _ _ _ _ _ r).1]
  · obtain ⟨p, s0, F, gs, Φ, Ψ, fp, hp, e, d, r, q⟩ := h
    obtain ⟨l1, l2, l3⟩ := len _ _ _ _ _ r
    let B : Hp := fun a => if a = p then none else H a
    have Bp : B p = none := if_pos rfl
    have Bo : ∀ a, a ≠ p → B a = H a := fun a n => if_neg n
    have bh : Ex B H := fun a o h => by
      by_cases n : a = p
      · rw [n, Bp] at h; cases h
      · rw [Bo a n] at h; exact h
    have st : StR K B F none F (startD N gs) (L2.start N vs) H := by
      refine startJ jo e bh (fun i s h => ?_) l3 (paired_len d) (by rw [paired_len d, l1]; exact pl)
      obtain ⟨v, ev, a⟩ := Paired.get d h
      refine ⟨v, ev, ?_⟩
      rcases a with ⟨x, e1, e2⟩ | ⟨e1, e2⟩
      · subst e1; exact ⟨v, rfl, e2⟩
      · subst e1 e2; exact ⟨rfl, Bp, fp, (fun _ z => by cases z), hp⟩
    have ef : ∀ {env' σ' F' H' s}, StR K B F none F' env' σ' H' → OwAt K none F' H' p s → EfM K F H p s F' H' := fun S' ⟨o1, _, o2⟩ => ⟨S'.gf, S'.fh, fun a o n h => S'.bh a o (by rw [Bo a n]; exact h) (fun _ z => by cases z), fun a n h f => S'.nf a (by rw [Bo a n]; exact h) f, o1, o2⟩
    refine ⟨_, hbody cdv A outer s H E hr takesE p s0 gs Φ Ψ r, B, F, none, F, st, fun env' σ' F' H' S' ⟨i, s, h1, φ⟩ => ?_, fun v d s env' σ' F' H' S' o dn φ => q.rt v d s F' H' (ef S' o) dn φ, fun cls σ' F' H' S' o ψ => q.xc cls F' H' (ef S' o) ψ⟩
    exact q.rt .non .none s F' H' (ef S' (S'.own_at h1).2.1) .non φ
end
end DL

namespace DL
open PySem PySem.Spec PyProof.Rows L2 RZ
/-! ### calls of defs that change an argument -/
theorem StR.of_callM {K : Fg} {B G F H F' H' : Hp} {T : Option TP} {env : List Sl} {σ : L2.St} {i : Nat} {p : Addr} {s s' : OS} (S : StR K B G T F env σ H) (hi : env[i]? = some (.owo p s)) (ef : EfM K F H p s' F' H') : StR K B G T F' (env.set i (.owo p s')) σ H' := by
  obtain ⟨b, ⟨f, n, hp⟩, hσ⟩ := S.own_at hi
  have far : ∀ {j : Nat} {s : Sl} {r : Addr}, i ≠ j → env[j]? = some s → s.owned = true → σ[j]? = some (some (.ref r)) → r ≠ p := fun {j s r} hij e1 ow e2 z => S.ds j i _ _ (Ne.symm hij) e1 hi ow rfl (by rw [e2, hσ, z])
  have key : ∀ {j : Nat} {t : Sl}, (env.set i (Sl.owo p s'))[j]? = some t → t.owned = true → ∃ t', env[j]? = some t' ∧ t'.owned = true := fun {j t} e ow => by
    by_cases hij : i = j
    · subst hij; exact ⟨_, hi, rfl⟩
    · rw [List.getElem?_set_ne hij] at e; exact ⟨_, e, ow⟩
  have tpn : ∀ t, T = some t → F' t.p = none ∧ TapeAt F' H' t := fun t et => by
    obtain ⟨h1, h2, c, j, h3, h4, h5⟩ := S.tp t et
    have np : t.p ≠ p := Ne.symm (n t et)
    have := ef.nw t.p np (by rw [h5]; simp) h1
    exact ⟨this, this, ef.ff _ _ h2, c, j, h3, h4, ef.hh _ _ np h5⟩
  refine ⟨S.gf.trans ef.ff, ef.fh, fun a o h1 h2 => ?_, fun a h g => ?_, by simpa using S.len, fun j s o e1 e2 => ?_, fun a c s1 s2 hab e1 e2 o1 o2 => ?_, fun t et => (tpn t et).2⟩
  · exact ef.hh a o (fun z => by rw [z, b] at h1; cases h1) (S.bh a o h1 h2)
  · have ap : a ≠ p := fun z => h (by rw [z]; exact b)
    by_cases q : ∀ t, T = some t → a ≠ t.p
    · refine ef.nw a ap ?_ (S.nf a h g)
      cases e : B a with
      | none => exact absurd e h
      | some o => rw [S.bh a o e q]; simp
    · simp only [Classical.not_forall] at q
      obtain ⟨t, e, q⟩ := q
      have : a = t.p := Classical.not_not.mp q
      rw [this]; exact (tpn t e).1
  · by_cases hij : i = j
    · subst hij
      rw [List.getElem?_set_self (List.getElem?_eq_some_iff.mp hi).1] at e1
      cases e1
      rw [hσ] at e2; cases e2
      exact ⟨rfl, b, ef.np, n, ef.os⟩
    · rw [List.getElem?_set_ne hij] at e1
      have q := S.sl j s o e1 e2
      cases s with
      | un => trivial
      | dt x => obtain ⟨v, e, d⟩ := q; exact ⟨v, e, d.mono ef.ff⟩
      | own zs =>
        obtain ⟨r, us, er, br, fr, nr, hr, dr⟩ := q
        have ne := far hij e1 rfl (by rw [e2, er])
        exact ⟨r, us, er, br, ef.nw r ne (by rw [hr]; simp) fr, nr, ef.hh _ _ ne hr, dr.mono ef.ff⟩
      | owo r0 zs =>
        obtain ⟨er, br, fr, nr, hr⟩ := q
        have ne := far hij e1 rfl (by rw [e2, er])
        exact ⟨er, br, ef.nw r0 ne hr.ne fr, nr, hr.mono ef.ff (fun o z => ef.hh _ _ ne z)⟩
      | ref a => exact q
      | tape => exact q
  · obtain ⟨t1, f1, g1⟩ := key e1 o1
    obtain ⟨t2, f2, g2⟩ := key e2 o2
    exact S.ds a c t1 t2 hab f1 f2 g1 g2
theorem uns_set {n i : Nat} {env : List Sl} {s : Sl} (h : (env.set i s).length = n) : env.length = n := by simpa using h
/-- what is asked of the callee's end, at a place whose slots are env -/
theorem endM {X : Cx} {W : WX} {env : List Sl} {i : Nat} {q : Addr} {s0 : OS} {R : D → OS → Prop} {Ψ : Value → Prop} {B G F H F0 : Hp} {T : Option TP} {σ : L2.St} {Q : VK} (hn : env.length = X.N.length) (S : StR X.K B G T F env σ H) (hi : env[i]? = some (.owo q s0)) (g0 : Ex F0 F)
    (k : ∀ v d s F' H', StR X.K B G T F' (env.set i (.owo q s)) σ H' → Ex F0 F' → Dn X.K F' v d → R d s → Q v H') (w : ∀ cls σ' F' H', StR X.K B G T F' (uns env.length) σ' H' → OwAt X.K T F' H' q s0 → Ψ cls → W cls none σ' H') : EndM X.K F H q s0 R Ψ Q (EN X W) where
  rt v d s F' H' ef dn φ := k v d s F' H' (S.of_callM hi ef) (g0.trans ef.ff) dn φ
  xc cls F' H' ef ψ σ' hl := by
    have S' := S.of_callM hi ef
    have S2 := S'.uns (σ' := σ') (by rw [hl, ← hn]; simp)
    rw [List.length_set] at S2
    exact w cls σ' F' H' S2 ⟨ef.np, (S.own_at hi).2.1.2.1, ef.os⟩ ψ
/-! ### arguments, one of them the object -/
def rdAG (K : Fg) (q : Addr) (s0 : OS) (env : List Sl) (gs : List Sl) : TA := fun σ H Q => ∃ B G T F, StR K B G T F env σ H ∧ ∀ vs F' H', StR K B G T F' env σ H' → Gr T F H F' H' → Paired (ArgM K F' q s0) vs gs → Q vs H'
def AG (X : Cx) (q : Addr) (s0 : OS) (es : List Expr) (env : List Sl) (gs : List Sl) : Prop := PA X es (rdAG X.K q s0 env gs)
theorem ArgM.mono {K : Fg} {F F' : Hp} {q : Addr} {s0 : OS} {v : V} {g : Sl} (e : Ex F F') (h : ArgM K F q s0 v g) : ArgM K F' q s0 v g := by
  rcases h with ⟨d, e1, e2⟩ | h
  · exact .inl ⟨d, e1, e2.mono e⟩
  · exact .inr h
structure KnM (P : Program) (w : World) (K : Fg) (mg : Str → Option Value) (base : Heap) (k : Nat) (x : Str) (R : RM) : Prop where
  ex : ∃ (f : Addr) (fd : FuncData) (ps : List Str), FnOk P w K mg base (L2N.CX P w) k f fd ps (spM K R) ∧ PySem.W.keepIn K (.ref f) = true ∧ Binds K fd ps [] ∧ mg x = some (.ref f)
theorem knm_of {P : Program} {w : World} {K : Fg} {mg : Str → Option Value} {base : Heap} {k : Nat} {x qual : Str} {params : Arguments} {body : List Stmt} {scope : Scope} {f : Addr} {fd : FuncData} {ps : List Str} {R : RM} (F : FunD K x qual params body scope [] [] f fd)
    (h : FnOk P w K mg base (L2N.CX P w) k f fd ps (spM K R)) (hb : ∀ (kV doc pm : Value) (an : Option Addr) (cdv ct : Value) (us : List Value), us.length = ps.length → bindArgs (PySem.W.fnOf x qual params body scope .none kV doc pm an cdv ct) ⟨us, []⟩ = pure (ps.zip us)) (hm : mg x = some (.ref f)) : KnM P w K mg base k x R :=
  ⟨f, fd, ps, h, F.kp, FunD.bindsN F hb, hm⟩
section
variable {X : Cx} {W : WX} {e c : Expr} {es : List Expr} {env : List Sl} {gs : List Sl} {N : List Sl → Prop} {R : D → OS → Prop} {Ψ : Value → Prop} {q g C : Addr} {s0 s : OS} {d : D} {x m y : Str} {pos p apos : Pos} {rest thn : List Stmt} {k j : Nat} {RR : RM} {ds : List D} {fs : List (Str × D)}
theorem ag_nil : AG X q s0 [] env [] := PA.imp pa_nil fun σ H Q ⟨B, G, T, F, S, k⟩ => k _ F H S (Gr.refl S.fh) .nil
theorem ag_dt (h : ED X e env d) (hr : AG X q s0 es env gs) (hs : starEach (e :: es) X.env = (false, eval e X.env) :: starEach es X.env := by rfl) : AG X q s0 (e :: es) env (.dt d :: gs) :=
  PA.imp (pa_cons h hr hs) fun σ H Q ⟨B, G, T, F, S, k⟩ => ⟨B, G, T, F, S, fun v d' F1 H1 S1 g1 dn z => ⟨B, G, T, F1, S1, fun vs F2 H2 S2 g2 d2 => by
    subst z
    exact k _ F2 H2 S2 (g1.trans g2 S1.tpn) (.cons (.inl ⟨_, rfl, dn.mono g2.ff⟩) d2)⟩⟩
theorem ag_own (i : Nat) (hr : AG X q s0 es env gs) (hi : env[i]? = some (.owo q s0) := by rfl) (hN : X.N[i]? = some x := by rfl) (hv : Vis X.env.scope x := by first | exact Or.inl rfl | exact Or.inr (Or.inl rfl) | exact Or.inr (Or.inr rfl)) (hd : (x == ("__debug__" : Str)) = false := by decide)
    (hcd : (x == ("__classdict__" : Str)) = false := by decide) (hs : starEach (.Name x p :: es) X.env = (false, eval (.Name x p) X.env) :: starEach es X.env := by rfl) : AG X q s0 (.Name x p :: es) env (.owo q s0 :: gs) :=
  PA.imp (pa_cons (pv i hN hv hd hcd) hr hs) fun σ H Q ⟨B, G, T, F, S, k⟩ => ⟨.ref q, (S.own_at hi).2.2, B, G, T, F, S, fun vs F2 H2 S2 g2 d2 => k _ F2 H2 S2 g2 (.cons (.inr ⟨rfl, rfl⟩) d2)⟩
/-- f(e, ..) -/
theorem em_call {i : Nat} (K1 : KnM X.prog X.w X.K X.mg X.base k x RR) (hr : Room j X.A) (tk : L2N.Takes X W) (ha : AG X q s0 (e :: es) env gs) (hi : env[i]? = some (.owo q s0)) (r : RR q s0 gs R Ψ) (hk : k ≤ j := by decide) (hn : env.length = X.N.length := by rfl) (hg : Gl X x := by rfl) (hdb : (x == ("__debug__" : Str)) = false := by decide)
    (he : starEach (e :: es) X.env = (false, eval e X.env) :: starEach es X.env := by rfl) (hpl : (backTo pos (starEach es X.env)).any (·.1) = false := by rfl) : EM X W (.Call (.Name x p) (e :: es) [] pos) i q s0 env R Ψ := by
  obtain ⟨f, fd, ps, ok, kp, bi, hm⟩ := K1.ex
  refine PE.imp (pe_call ok (hr.mono hk) hg hm kp bi .nil (passN tk) ha hdb he hpl) fun σ H Q ⟨B, G, T, F, S, k, w⟩ => ⟨B, G, T, F, S, fun vs F1 H1 S1 g1 d1 => ?_⟩
  show spM X.K RR (vs ++ []) H1 Q (EN X W)
  rw [List.append_nil]
  obtain ⟨_, ⟨o1, _, o2⟩, _⟩ := S1.own_at hi
  exact ⟨q, s0, F1, gs, R, Ψ, o1, o2, S1.fh, d1, r, endM hn S1 hi g1.ff k w⟩
theorem paired_dt {K : Fg} {F : Hp} {vs : List V} {ds : List D} (h : DnA K F vs ds) : Paired (ArgM K F q s0) vs (ds.map Sl.dt) := by
  induction vs generalizing ds with
  | nil => cases h; exact .nil
  | cons v vs ih => cases h with | cons h t => exact .cons (.inl ⟨_, rfl, h⟩) (ih t)
/-- o.m(e, ..), o the object -/
theorem em_meth {i : Nat} {npos : Pos} {pl : Sem Bool} (K1 : Ke X.prog X.w X.K X.mg X.base k g [] (spM X.K RR)) (c : Cls X.K C) (hm : Meth X.K C m g) (hr : Room j X.A) (tk : L2N.Takes X W) (ha : AD X (e :: es) env ds) (r : RR q (.ins C fs) (.owo q (.ins C fs) :: ds.map Sl.dt) R Ψ) (l : fs.lookup m = none := by rfl)
    (hi : env[i]? = some (.owo q (.ins C fs)) := by rfl) (hk : k ≤ j := by decide) (hn : env.length = X.N.length := by rfl) (hN : X.N[i]? = some y := by rfl) (hv : Vis X.env.scope y := by first | exact Or.inl rfl | exact Or.inr (Or.inl rfl) | exact Or.inr (Or.inr rfl)) (hd : (y == ("__debug__" : Str)) = false := by decide)
    (hcd : (y == ("__classdict__" : Str)) = false := by decide)
    (hst : starEach (e :: es) X.env = (false, eval e X.env) :: starEach es X.env := by rfl) (hpl : (backTo pos (starEach es X.env)).any (·.1) = false := by rfl)
    (ht : eval (.Call (.Attribute (.Name y npos) m apos) (e :: es) [] pos) X.env = (do
      let ov ← eval (.Name y npos) X.env
      standAt apos.atName
      let (f, first) ← holding [ov] (getMethod ov m pl)
      callWith pos f first (backTo pos (starEach (e :: es) X.env)) (backToKw pos (keywordEach [] X.env))) := by rfl) : EM X W (.Call (.Attribute (.Name y npos) m apos) (e :: es) [] pos) i q (.ins C fs) env R Ψ := by
  obtain ⟨fd, ps, dd, ok, bi, va⟩ := K1.ex
  refine PE.imp (pe_meth (pl := pl) (pv i hN hv hd hcd) c hm ok (hr.mono hk) bi va (passN tk) ha hst hpl ht) fun σ H Q ⟨B, G, T, F, S, k, w⟩ => ?_
  obtain ⟨_, ⟨_, _, dx, ws, ea, t⟩, hσ⟩ := S.own_at hi
  refine ⟨.ref q, hσ, q, dx, ws, rfl, ea, t.none l, B, G, T, F, S, fun vs es F1 H1 S1 g1 d1 z => ?_⟩
  subst z
  show spM X.K RR (V.ref q :: vs ++ []) H1 Q (EN X W)
  rw [List.append_nil]
  obtain ⟨_, ⟨o1, _, o2⟩, _⟩ := S1.own_at hi
  exact ⟨q, _, F1, _, R, Ψ, o1, o2, S1.fh, .cons (.inr ⟨rfl, rfl⟩) (paired_dt d1), r, endM hn S1 hi g1.ff k w⟩
theorem em_meth0 {i : Nat} {npos : Pos} {pl : Sem Bool} (K1 : Ke X.prog X.w X.K X.mg X.base k g [] (spM X.K RR)) (c : Cls X.K C) (hm : Meth X.K C m g) (hr : Room j X.A) (tk : L2N.Takes X W) (r : RR q (.ins C fs) [.owo q (.ins C fs)] R Ψ) (l : fs.lookup m = none := by rfl)
    (hi : env[i]? = some (.owo q (.ins C fs)) := by rfl) (hk : k ≤ j := by decide) (hn : env.length = X.N.length := by rfl) (hN : X.N[i]? = some y := by rfl) (hv : Vis X.env.scope y := by first | exact Or.inl rfl | exact Or.inr (Or.inl rfl) | exact Or.inr (Or.inr rfl)) (hd : (y == ("__debug__" : Str)) = false := by decide)
    (hcd : (y == ("__classdict__" : Str)) = false := by decide)
    (ht : eval (.Call (.Attribute (.Name y npos) m apos) [] [] pos) X.env = (do
      let ov ← eval (.Name y npos) X.env
      standAt apos.atName
      let (f, first) ← holding [ov] (getMethod ov m pl)
      callWith pos f first (backTo pos (starEach [] X.env)) (backToKw pos (keywordEach [] X.env))) := by rfl) : EM X W (.Call (.Attribute (.Name y npos) m apos) [] [] pos) i q (.ins C fs) env R Ψ := by
  obtain ⟨fd, ps, dd, ok, bi, va⟩ := K1.ex
  refine PE.imp (pe_meth0 (pl := pl) (pv i hN hv hd hcd) c hm ok (hr.mono hk) bi va (passN tk) ht) fun σ H Q ⟨B, G, T, F, S, k, w⟩ => ?_
  obtain ⟨_, ⟨o1, _, dx, ws, ea, t⟩, hσ⟩ := S.own_at hi
  refine ⟨.ref q, hσ, q, dx, ws, rfl, ea, t.none l, ?_⟩
  show spM X.K RR [V.ref q] H Q (EN X W)
  exact ⟨q, .ins C fs, F, _, R, Ψ, o1, ⟨dx, ws, ea, t⟩, S.fh, .cons (.inr ⟨rfl, rfl⟩) .nil, r, endM hn S hi (Ex.refl F) k w⟩
end
end DL

namespace DL
open PySem PySem.Spec PyProof.Rows L2 RZ
/-! ### try in a def that changes an object -/
theorem StR.keepO {K : Fg} {B G F H : Hp} {T : Option TP} {env : List Sl} {σ : L2.St} {p : Addr} {o : HO} (S : StR K B G T F env σ H) (no : ∀ s ∈ env, s.owned = false) (hp : H p = some o) (fp : F p = none) : StR K (upd B p o) F T F env σ H where
  gf := Ex.refl F
  fh := S.fh
  bh := fun a u h n => by
    by_cases q : a = p
    · subst q; rw [upd_same] at h; cases h; exact hp
    · rw [upd_ne q] at h; exact S.bh a u h n
  nf := fun _ _ h => h
  len := S.len
  sl := fun i s o e1 e2 => by
    have h := S.sl i s o e1 e2
    have hn := no s (List.mem_of_getElem? e1)
    cases s with
    | un => trivial
    | dt x => exact h
    | own xs => cases hn
    | owo _ _ => cases hn
    | ref a => exact h
    | tape => exact h
  ds := S.ds
  tp := S.tp
/-- .. forgotten again -/
theorem StR.backO {K : Fg} {B G F F' H' : Hp} {T : Option TP} {env : List Sl} {σ : L2.St} {p : Addr} {o : HO} (S : StR K (upd B p o) F T F' env σ H') (bp : B p = none) (gf : Ex G F) (nf : ∀ a, B a ≠ none → G a = none → F a = none) : StR K B G T F' env σ H' where
  gf := gf.trans S.gf
  fh := S.fh
  bh := fun a u h n => S.bh a u (by rw [upd_ne (fun z => by rw [z, bp] at h; cases h)]; exact h) n
  nf := fun a h g => S.nf a (by rw [upd_ne (fun z => h (by rw [z]; exact bp))]; exact h) (nf a h g)
  len := S.len
  sl := fun i s o' e1 e2 => by
    have h := S.sl i s o' e1 e2
    have nb : ∀ {r : Addr}, upd B p o r = none → B r = none := fun {r} z => by
      by_cases q : r = p
      · rw [q]; exact bp
      · rw [upd_ne q] at z; exact z
    cases s with
    | un => trivial
    | dt x => exact h
    | own xs => obtain ⟨r, us, er, br, fr⟩ := h; exact ⟨r, us, er, nb br, fr⟩
    | owo r s => obtain ⟨er, br, fr⟩ := h; exact ⟨er, nb br, fr⟩
    | ref a => exact h
    | tape => exact h
  ds := S.ds
  tp := S.tp
section
variable {X : Cx} {W0 : WX} {x n : Str} {c : Value} {body suite : List Stmt} {b₀ : Stmt} {np pos pos' : Pos} {env : List Sl} {N : List Sl → Prop} {R : D → OS → Prop} {Ψ Ψ0 : Value → Prop} {q : Addr} {s0 s1 : OS} {rest : List Stmt}
theorem sm_try (i i0 : Nat) (hs : X.stack = X.env :: X.outer) (hf : X.env.frame = some X.env.locals) (hN : X.N.Nodup) (hc : L2.Names X x c) (hex : ∀ cls, Ψ cls → PySem.W.exmOne X.K cls c = some true) (tk : L2N.Takes X W0)
    (hb : ∀ (W : WX) (pn : List (Addr × Obj)) (xe : Value → Shared → Prop), L2N.Takes (X.tr pn xe) W → SM (X.tr pn xe) W q s0 body env (fun _ => False) R Ψ)
    (hsu : ∀ (a : Addr) (oe : Obj) (cls : Value) (pn : List (Addr × Obj)), L2N.Zn cls none oe → (∃ vs, oe.data = .fields vs) → Ψ cls → SDs (X.suite a ((a, oe) :: pn)) (b₀ :: suite) ((uns env.length).set i (.ref a)) { nx := fun _ => False, rt := fun d => R d s0 })
    (hi0 : env[i0]? = some (.owo q s1) := by rfl) (hi : X.N[i]? = some n := by rfl) (hln : X.env.kindOf n = some .local := by rfl) : SM X W0 q s0 (.Try body [.ExceptHandler (some (.Name x np)) (some n) (b₀ :: suite) pos'] [] [] pos :: rest) env N R Ψ0 := by
  refine PSs.imp (pss_cons (L2N.ps_try_as (tb := fun W => rdSm X.K W q s0 env (fun _ => False) R Ψ) (ts := fun a cls d => fun D σ H => Ψ cls ∧ d = none ∧ rdS X.K ((uns env.length).set i (.ref a)) { nx := fun _ => False, rt := fun d => R d s0 } D σ H) (i := i) hs hf hN hi hln hc tk
    (fun W pn xe t _ => hb W pn xe t) (fun a oe cls d pn hz hv => ⟨fun pins s σ H D I ⟨hΨ, hd, h⟩ => by subst hd; exact (hsu a oe cls pn hz hv hΨ).run pins s σ H D I h⟩)) pss_never) fun E σ H ⟨B, G, T, F, S, n, r, _⟩ => ?_
  refine ⟨B, G, T, F, S, fun _ _ _ _ _ z => z.elim, r, fun cls σ' F' H' S' ⟨o1, o2, o3⟩ ψ => ⟨true, hex cls ψ, fun _ a ha => ⟨ψ, rfl, ?_⟩, fun z => nomatch z⟩⟩
  obtain ⟨ob, hob⟩ := o3.at_
  have bp := (S.own_at hi0).1
  have no : ∀ s ∈ (uns env.length).set i (Sl.ref a), s.owned = false := fun s hs => by
    rcases List.mem_or_eq_of_mem_set hs with h | h
    · rw [List.eq_of_mem_replicate h]; rfl
    · rw [h]; rfl
  have S1 := (S'.set_ref i a).keepO no hob o1
  refine ⟨upd B q ob, F', T, F', S1, fun _ _ _ _ _ z => z.elim, fun v d env' σ2 F2 H2 S2 dn φ => ?_, fun _ _ _ _ _ z => z.elim, fun _ _ _ _ _ z => z.elim⟩
  refine r v d s0 env' σ2 F2 H2 (S2.backO bp S'.gf S'.nf) ⟨S2.nf q (by rw [upd_same]; simp) o1, o2, o3.mono S2.gf (fun o z => ?_)⟩ dn φ
  rw [hob] at z
  cases z
  exact S2.bh q ob upd_same o2
end
end DL

namespace DL
open PySem PySem.Spec PyProof.Rows L2 RZ
abbrev set0 (w : World) : Obj := { cls := .type "set", data := .set #[] 0 (SetTable.fresh 0 0 !w.params.followText "set-order") }
theorem set_initI {P : Program} {w : World} {A : Around} {E : Value → Shared → Prop} {s : Shared} {S l : Addr} {items : Array Value} (ns : List Int) (hh : A.handled = none) (look : s.heap.get? S = some (set0 w)) (ne : S ≠ l) (hl : s.heap.IsList l items) (hi : IntsAre items.toList ns) (hz : ns.length + 1 < scanBound) :
    wpAny (model P w) A (call (.builtin "set.__init__") [.ref S, .ref l]) (fun u s' => u = .none ∧ ∃ (h' : Heap) (tk c : Nat), s' = { s with heap := h', toks := tk } ∧ SetR w h' S (fun j => decide (j ∈ ns)) c ∧ c ≤ ns.length ∧ ∀ b o, b ≠ S → s.heap.get? b = some o → h'.get? b = some o) E s := by
  have hsz : items.size = ns.length := by simpa using hi.length
  have ty : s.TypeIs (.ref S) "set" := ⟨_, look, rfl⟩
  have tyl : s.TypeIs (.ref l) "list" := by obtain ⟨o, h1, h2, _⟩ := id hl; exact ⟨o, h1, h2⟩
  refine wpAny_call (codeAny_call_builtin PySem.F.slot_set_init.plain PySem.F.entry_set_init (PySem.check_set_init_1 ty ?_))
  unfold PySem.Builtin.«set.__init__»
  refine wpAny_bind (wpAny_ite_true (by rfl) (wpAny_pure ?_))
  refine wpAny_bind (m := typeNameOfCut 200 (.ref S)) (wpAny_bind (m := shownTypeOf (.ref S)) ?_)
  unfold shownTypeOf
  refine wpAny_bind (wpAny_typeOf ty (wpAny_ite_false (by rfl) (wpAny_pure ?_)))
  refine wpAny_pure ?_
  refine wpAny_bind (m := checkCount _ 0 1 _) ?_
  unfold checkCount
  refine wpAny_ite_false (by rfl) (wpAny_ite_false (by rfl) (wpAny_ite_false (by rfl) (wpAny_pure ?_)))
  refine wpAny_bind (wpAny_pure ?_)
  refine wpAny_bind (m := setUsed S) (wpAny_bind (m := setState S) (wpAny_bind (wpAny_load look (wpAny_ite_false ?_ (wpAny_pure (wpAny_pure (wpAny_ite_false ?_ ?_)))))))
  · cases w.params.followText "set-order" <;> rfl
  · cases w.params.followText "set-order" <;> rfl
  refine wpAny_bind (m := Builtin.Frozenset.updateFrom "set.__init__" S (.ref l)) ?_
  unfold Builtin.Frozenset.updateFrom
  refine wpAny_bind (m := Builtin.Frozenset.isAnySet (.ref l)) ?_
  unfold Builtin.Frozenset.isAnySet
  refine wpAny_bind (m := isInstance (.ref l) (.type "set")) (wpAny_isInstance tyl PySem.F.sub_list_set ?_)
  refine wpAny_isInstance tyl PySem.F.sub_list_frozenset (wpAny_ite_false (by rfl) ?_)
  refine wpAny_bind (wpAny_typeOf tyl (wpAny_ite_false (by rfl) ?_))
  refine wpAny_bind (wpAny_pyIter_list hl (wpAny_bind (wpAny_runValue ?_)))
  have nI : S ≠ s.heap.objs.size := Nat.ne_of_lt (Heap.lt_size look)
  have nl : l ≠ s.heap.objs.size := by
    obtain ⟨o, h1, _⟩ := id hl
    exact Nat.ne_of_lt (Heap.lt_size h1)
  refine set_update_ints (Walks.list (by exact hh) s.heap.objs.size l nl items).toS S (by simp [nI, ne]) ns hsz hz (fun i v hv => ?_) _ 0 _ rfl (Nat.zero_le _) ⟨⟨_, Heap.get?_push_size _ rfl, rfl, rfl⟩, hl.push _⟩ ⟨0, Nat.le_refl _, setR_new_at (Heap.get?_push_of_some _ look)⟩ (fun s' c mv hc hR => ?_)
  · obtain ⟨t, e⟩ := hi.int_at i v (by simpa using hv)
    have hlt : i < ns.length := by rw [← hsz]; exact (Array.getElem?_eq_some_iff.mp hv).1
    exact ⟨ns[i], t, List.getElem?_eq_getElem hlt, by rw [e]; simp [hlt]⟩
  · refine wpAny_pure (wpAny_pure ⟨rfl, s'.heap, s'.toks, c, ?_, hR, by omega, fun b o nb e => mv.heap b o ?_ (Heap.get?_push_of_some _ e)⟩)
    · have h1 := mv.gens
      have h2 := mv.drawn
      have h3 := mv.os
      cases s'
      simp only at h1 h2 h3 ⊢
      simp [h1, h2, h3]
    · have : b ≠ s.heap.objs.size := Nat.ne_of_lt (Heap.lt_size e)
      simp [nb, this]
/-- set(xs), xs a list of ints -/
theorem set_listI {P : Program} {w : World} {A : Around} {E : Value → Shared → Prop} {s : Shared} {l : Addr} {items : Array Value} (ns : List Int) {Q : Value → Shared → Prop} (hh : A.handled = none) (hl : s.heap.IsList l items) (hi : IntsAre items.toList ns) (hz : ns.length + 1 < scanBound)
    (hQ : ∀ (h' : Heap) (tk c : Nat), SetR w h' s.heap.objs.size (fun j => decide (j ∈ ns)) c → c ≤ ns.length → (∀ b o, s.heap.get? b = some o → h'.get? b = some o) → Q (.ref s.heap.objs.size) { s with heap := h', toks := tk }) : wpAny (model P w) A (call (.type "set") [.ref l]) Q E s := by
  have hsz : items.size = ns.length := by simpa using hi.length
  obtain ⟨c, tl, hmro⟩ := PySem.F.called_set.mro
  have hmade := PySem.F.called_set.made
  refine wpAny_call (codeAny_of_tree ?_)
  refine wpAny_pure ⟨Code.quiet_builtin _ (by decide +kernel), codeAny_builtin PySem.F.entry_type_call ?_⟩
  rw [Around.under_plain (weight_type_call_type "set" [Value.ref l] []) rfl]
  unfold PySem.Builtin.«type.__call__»
  refine wpAny_ite_false (by rfl) ?_
  refine wpAny_ite_false (by rfl) ?_
  refine wpAny_bind (wpAny_of_eq (PySem.F.typeCall_set_1 (.ref l)) ?_)
  refine wpAny_bind (wpAny_of_eq hmro ?_)
  refine wpAny_ite_false (by rfl) ?_
  refine wpAny_bind (wpAny_of_eq hmade ?_)
  refine wpAny_bind (wpAny_pure ?_)
  refine wpAny_bind (wpAny_holding (wpAny_call (codeAny_mono (code_set_led1 (E := fun _ _ => False) (Value.ref l) (Q₁ := fun u s1 => u = .ref s.heap.objs.size ∧ s1 = { s with heap := s.heap.push { cls := .type "set", data := .set #[] 0 (SetTable.fresh 0 0 !w.params.followText "set-order") } }) ⟨rfl, rfl⟩) fun r s1 hr => ?_)))
  match r, hr with
  | .ok (.ret u), hr =>
  obtain ⟨rfl, rfl⟩ := hr
  have look : (s.heap.push (set0 w)).get? s.heap.objs.size = some (set0 w) := Heap.get?_push_size _ rfl
  have ne : s.heap.objs.size ≠ l := by
    obtain ⟨o, h1, _⟩ := id hl
    exact Ne.symm (Nat.ne_of_lt (Heap.lt_size h1))
  refine wpAny_bind (wpAny_isInstance (T := "set") (b := true) ⟨_, look, rfl⟩ PySem.F.called_set.sub ?_)
  refine wpAny_ite_false (by rfl) ?_
  refine wpAny_bind (wpAny_holding ?_)
  refine wpAny_callSpecial?_slot ⟨_, look, rfl⟩ PySem.F.slot_set_init ?_
  refine wpAny_mono (set_initI ns (by exact hh) look ne (hl.push _) hi hz) (fun u s' ⟨e1, h', tk, c, e2, h1, h2, h3⟩ => ?_) (fun _ _ z => z)
  subst e1 e2
  refine wpAny_ite_false (by rfl) (wpAny_pure ?_)
  exact hQ h' tk c h1 h2 (fun b o e => h3 b o (Nat.ne_of_lt (Heap.lt_size e)) (Heap.get?_push_of_some _ e))
def rSetLI (K : Fg) (w : World) : List V → Hp → VK → Prop := fun xs H Q => ∃ (l : Addr) (ns : List Int), xs = [.ref l] ∧ SqL K H l (ns.map V.int) ∧ ns.length < 1000 ∧ ∀ p c, H p = none → c ≤ ns.length → Q (.ref p) (upd H p (SetO w p (fun j => decide (j ∈ ns)) c))
theorem intsAre_vals : ∀ {ns : List Int} {us : List Value}, Vals (ns.map V.int) us → IntsAre us ns
  | [], _, .nil => .nil
  | n :: ns, _, .cons h t => by
    obtain ⟨tk, rfl⟩ := (show ∃ t, _ = Value.int n t from h)
    exact .cons n tk (intsAre_vals t)
theorem cr_setLI {X : Cx} (hc : X.calm = true) : CallR X (.type "set") (rSetLI X.K X.w) := by
  rintro pins s σ H xs us Q I r ⟨l, ns, rfl, hl, hz, q⟩
  match us, r with
  | _, .cons ra .nil =>
    cases ra
    obtain ⟨its, rv, pl, _⟩ := I.list hl
    have hb : (1000 : Nat) < scanBound := by decide +kernel
    refine set_listI ns (I.ok.hd hc) pl.isList (by simpa using intsAre_vals rv) (by omega) (fun h' tk c hR hc hk => ?_)
    have hp : H s.heap.objs.size = none := I.hok.fresh (Nat.le_refl _)
    exact ⟨.ref s.heap.objs.size, _, I.laid (t' := tk) hk (Nat.le_refl _) (setO_new hR), rfl, q _ c hp hc⟩
/-- sorted(set(a)), a a list of ints -/
theorem er_sortedSet {X : Cx} {a : Expr} {env : List Sl} {ns : List Int} {Φ : D → Prop} {p p2 q2 pos : Pos} (h : ED X a env (.list (ns.map PyData.int))) (hz : ns.length < 64) (hΦ : ∀ ns' : List Int, ns'.Pairwise (· < ·) → (∀ k, k ∈ ns' ↔ k ∈ ns) → Φ (.list (ns'.map PyData.int)))
    (m1 : X.mg "sorted" = none) (m2 : X.mg "set" = none) (hc : X.calm = true := by rfl) (g1 : Gl X "sorted" := by rfl) (g2 : Gl X "set" := by rfl)
    (s1 : starEach [.Call (.Name "set" p2) [a] [] q2] X.env = (false, eval (.Call (.Name "set" p2) [a] [] q2) X.env) :: starEach [] X.env := by rfl) (s2 : starEach [a] X.env = (false, eval a X.env) :: starEach [] X.env := by rfl)
    (l1 : (backTo pos (starEach [] X.env)).any (·.1) = false := by rfl) (l2 : (backTo q2 (starEach [] X.env)).any (·.1) = false := by rfl) : ER X (.Call (.Name "sorted" p) [.Call (.Name "set" p2) [a] [] q2] [] pos) env Φ :=
  PE.imp (pe_callB (cr_sortedSet hc) g1 m1 (by decide +kernel) (pa_cons (pe_callTy (cr_setLI hc) g2 m2 (by decide +kernel) (pa_cons h pa_nil s2) (by decide) (by decide) s2 l2) pa_nil s1) (by decide) (by decide) s1 l1) fun σ H Q ⟨B, G, T, F, S, q⟩ => ⟨B, G, T, F, S, fun v d F1 H1 S1 gr dn z => by
    subst z
    cases dn with | lst hl hd =>
    have e := hd.ints
    subst e
    refine ⟨_, ns, rfl, SqL.of (S1.fh _ _ hl), by omega, fun pa c hp hcn => ?_⟩
    have fp : F1 pa = none := S1.fh.none hp
    have exH := Ex.new (H := H1) (o := SetO X.w pa (fun j => decide (j ∈ ns)) c) hp
    have g : Gr T F1 H1 F1 (upd H1 pa (SetO X.w pa (fun j => decide (j ∈ ns)) c)) := ⟨Ex.refl F1, S1.fh.trans exH, Kp.of_ex exH, fun _ _ h => h⟩
    have S2 := S1.grow g fun t et => by
      obtain ⟨h1, h2, c, j, h3, h4, h5⟩ := S1.tp t et
      exact ⟨h1, h2, c, j, h3, h4, exH _ _ h5⟩
    refine ⟨pa, _, c, rfl, upd_same, by omega, fun ns' pb hpw hmem hlen hpb => ?_⟩
    obtain ⟨S3, g3⟩ := S2.lay (o := .lst (ns'.map V.int)) hpb
    exact q _ _ _ _ S3 ((gr.trans g S1.tpn).trans g3 S2.tpn) (.lst upd_same (DnA.of_ints ns')) (hΦ ns' hpw (fun k => by rw [hmem k]; simp))⟩
/-- *e, .. in a display, e a tuple -/
theorem ad_starT {X : Cx} {e : Expr} {es : List Expr} {env : List Sl} {p : Pos} {xs ds : List D} (h : ED X e env (.tuple xs)) (hr : AD X es env ds) (hs : starEach (.Starred e p :: es) X.env = (true, eval e X.env) :: starEach es X.env := by rfl) : AD X (.Starred e p :: es) env (xs ++ ds) :=
  PA.imp (StX.pa_star h hr hs) fun σ H Q ⟨B, G, T, F, S, q⟩ => ⟨B, G, T, F, S, fun v d F1 H1 S1 g1 dn1 e1 => by
    subst e1
    cases dn1 with | tup h1 d1 =>
    refine ⟨_, _, rfl, .inl (ex_t S1.fh h1), B, G, T, F1, S1, fun us ds2 F2 H2 S2 g2 d2 e2 => ?_⟩
    subst e2
    exact q _ _ F2 H2 S2 (g1.trans g2 S1.tpn) ((d1.mono g2.ff).append d2) rfl⟩
/-- rising lists of the same numbers are the same -/
theorem rising_uniq : ∀ {xs ys : List Int}, xs.Pairwise (· < ·) → ys.Pairwise (· < ·) → (∀ k, k ∈ xs ↔ k ∈ ys) → xs = ys
  | [], [], _, _, _ => rfl
  | [], y :: ys, _, _, h => absurd ((h y).2 (by simp)) (by simp)
  | x :: xs, [], _, _, h => absurd ((h x).1 (by simp)) (by simp)
  | x :: xs, y :: ys, h1, h2, h => by
    rw [List.pairwise_cons] at h1 h2
    have e : x = y := by
      rcases List.mem_cons.1 ((h x).1 (by simp)) with e | m
      · exact e
      rcases List.mem_cons.1 ((h y).2 (by simp)) with e | m'
      · exact e.symm
      have := h2.1 x m
      have := h1.1 y m'
      omega
    subst e
    rw [rising_uniq h1.2 h2.2 fun k => ?_]
    have hk := h k
    simp only [List.mem_cons] at hk
    constructor
    · intro m
      rcases hk.1 (.inr m) with e | m'
      · subst e; exact absurd (h1.1 k m) (by omega)
      · exact m'
    · intro m
      rcases hk.2 (.inr m) with e | m'
      · subst e; exact absurd (h2.1 k m) (by omega)
      · exact m'
end DL

namespace DL
open PySem PySem.Spec PyProof.Rows L2 RZ
/-! ### a list at a known place: append, pop, its items -/
section
variable {X : Cx} {W : WX} {a b c e tg : Expr} {es : List Expr} {env env1 : List Sl} {N : List Sl → Prop} {R : D → OS → Prop} {Ψ : Value → Prop} {q : Addr} {s0 s : OS} {d : D} {x y : Str} {pos p npos apos cpos : Pos} {rest thn : List Stmt} {xs ds : List D} {Φ : Out}
theorem sm_append (i : Nat) (hi : env[i]? = some (.owo q (.lst xs))) (he : AD X [e] env [d]) (hz : xs.length < 10000000) (hr : SM X W q s0 rest (env.set i (.owo q (.lst (xs ++ [d])))) N R Ψ) (hN : X.N[i]? = some x := by rfl) (hv : Vis X.env.scope x := by first | exact Or.inl rfl | exact Or.inr (Or.inl rfl) | exact Or.inr (Or.inr rfl))
    (hd : (x == ("__debug__" : Str)) = false := by decide) (hcd : (x == ("__classdict__" : Str)) = false := by decide) (hsw : swapsWith (.Call (.Attribute (.Name x npos) "append" apos) [e] [] cpos) none pos.line X.env = pure false := by rfl)
    (hbase : attributeBase (.Name x npos) "append" X.env (eval (.Name x npos) X.env) = eval (.Name x npos) X.env := by rfl)
    (hfew : ((backTo cpos (starEach [e] X.env)).all (fun x => !x.1) && (backToKw cpos (keywordEach [] X.env)).all (fun x => x.1.isSome) && decide ([e].length + ([] : List Keyword).length + (if ([] : List Keyword).isEmpty then 0 else 1) < 30)) = true := by rfl)
    (hline : (apos.endLine == cpos.line) = true := by rfl) (hs : starEach [e] X.env = (false, eval e X.env) :: starEach [] X.env := by rfl) (hplain : (backTo cpos (starEach [] X.env)).any (·.1) = false := by rfl) : SM X W q s0 (.Expr (.Call (.Attribute (.Name x npos) "append" apos) [e] [] cpos) pos :: rest) env N R Ψ :=
  PSs.imp (pss_cons (ps_expr (pe_bm PySem.F.plainAttrs_list PySem.F.slot_list_append PySem.F.type_list_append mt_append (pv i hN hv hd hcd) he hbase hfew hline hs hplain) hsw) hr) fun E σ H ⟨B, G, T, F, S, n, r, w⟩ => by
    obtain ⟨_, ⟨_, np, vs, hp, dn⟩, hσ⟩ := S.own_at hi
    refine ⟨_, hσ, .inl ⟨rfl, vs, SqL.of hp⟩, B, G, T, F, S, fun ws ds F' H' S' g da z => ?_⟩
    subst z
    cases da with | cons d1 t =>
    cases t
    have hp' := g.hh _ _ hp np
    exact ⟨q, vs, _, rfl, rfl, hp', Nat.lt_trans (by rw [dn.length]; exact hz) (by decide), B, G, T, F', S'.upd_owo hi ⟨_, upd_same, (dn.mono g.ff).append (.cons d1 .nil)⟩, n, r, by simpa only [List.length_set] using w⟩
theorem DnA.dropLast {K : Fg} {F : Hp} {vs : List V} {ds : List D} (h : DnA K F vs ds) : DnA K F vs.dropLast ds.dropLast := by
  rw [List.dropLast_eq_take, List.dropLast_eq_take, h.length]
  exact h.take _
theorem sm_pop (i : Nat) (hi : env[i]? = some (.owo q (.lst xs))) (hne : xs ≠ []) (hr : SM X W q s0 rest (env.set i (.owo q (.lst xs.dropLast))) N R Ψ) (hN : X.N[i]? = some x := by rfl) (hv : Vis X.env.scope x := by first | exact Or.inl rfl | exact Or.inr (Or.inl rfl) | exact Or.inr (Or.inr rfl))
    (hd : (x == ("__debug__" : Str)) = false := by decide) (hcd : (x == ("__classdict__" : Str)) = false := by decide) (hsw : swapsWith (.Call (.Attribute (.Name x npos) "pop" apos) [] [] cpos) none pos.line X.env = pure false := by rfl)
    (hbase : attributeBase (.Name x npos) "pop" X.env (eval (.Name x npos) X.env) = eval (.Name x npos) X.env := by rfl) (hline : (apos.endLine == cpos.line) = true := by rfl) : SM X W q s0 (.Expr (.Call (.Attribute (.Name x npos) "pop" apos) [] [] cpos) pos :: rest) env N R Ψ :=
  PSs.imp (pss_cons (ps_expr (pe_bm0 PySem.F.plainAttrs_list PySem.F.slot_list_pop PySem.F.type_list_pop (show MtR X "list.pop" rPop from mt_pop) (pv i hN hv hd hcd) hbase hline) hsw) hr) fun E σ H ⟨B, G, T, F, S, n, r, w⟩ => by
    obtain ⟨_, ⟨_, np, vs, hp, dn⟩, hσ⟩ := S.own_at hi
    have hl : vs.length = xs.length := dn.length
    have h0 : 0 < xs.length := List.length_pos_iff.2 hne
    have hlt : vs.length - 1 < vs.length := by omega
    exact ⟨_, hσ, .inl ⟨rfl, vs, SqL.of hp⟩, q, vs, vs[vs.length - 1], rfl, rfl, hp, List.getElem?_eq_getElem hlt, B, G, T, F, S.upd_owo hi ⟨_, upd_same, dn.dropLast⟩, n, r, by simpa only [List.length_set] using w⟩
/-- x[k] -/
theorem ed_ownIx {k : Int} (i : Nat) (hi : env[i]? = some (.owo q (.lst xs))) (hb : ED X b env (.int k)) (h : L2.atI xs k = some d) (hN : X.N[i]? = some x := by rfl) (hv : Vis X.env.scope x := by first | exact Or.inl rfl | exact Or.inr (Or.inl rfl) | exact Or.inr (Or.inr rfl))
    (hd : (x == ("__debug__" : Str)) = false := by decide) (hcd : (x == ("__classdict__" : Str)) = false := by decide) (hs : PlainIx b := by exact fun _ _ => rfl) : ED X (.Subscript (.Name x npos) b pos) env d :=
  PE.imp (pe_ix IMax.ok (pv i hN hv hd hcd) hb hs) fun σ H Q ⟨B, G, T, F, S, r⟩ => by
    obtain ⟨_, ⟨_, np, vs, hp, dn⟩, hσ⟩ := S.own_at hi
    refine ⟨_, hσ, B, G, T, F, S, fun u e F2 H2 S2 g2 d2 z => ?_⟩
    subst z
    cases d2
    obtain ⟨w, e, d3⟩ := dn.atI h
    exact ⟨_, ix_list, _, _, _, w, rfl, rfl, SqL.of (g2.hh _ _ hp np), e, r _ _ F2 H2 S2 g2 (d3.mono g2.ff) rfl⟩
theorem sm_unpack {env' : List Sl} {is : List Nat} (h : ED X e env (.tuple ds)) (hg : GR X tg env (.tuple ds) env' is) (hr : SM X W q s0 rest env' N R Ψ) (hs : swapsWithSole [tg] e pos.line X.env = pure false := by rfl) (hw : swappedStores [tg] e X.env = pure none := by rfl)
    (h1 : (assignEach [tg] X.env).map (·.2) = [assign tg X.env] := by rfl) : SM X W q s0 (.Assign [tg] e pos :: rest) env N R Ψ :=
  PSs.imp (pss_cons (ps_asg h hg hs hw h1) hr) fun E σ H ⟨B, G, T, F, S, n, r, w⟩ => ⟨B, G, T, F, S, fun v d F' H' S' g dn e => by
    subst e
    refine ⟨B, G, T, F', S', dn, fun σ' S2 l2 _ => ⟨B, G, T, F', S2, n, r, ?_⟩⟩
    have : env'.length = env.length := by rw [S2.len, l2, S'.len]
    rw [this]; exact w⟩

/-! ### expressions that change an object: before env, behind env1 -/
def rdEe (K : Fg) (env env1 : List Sl) (d : D) : TE := fun σ H Q => ∃ B G T F, StR K B G T F env σ H ∧ ∀ v F' H', StR K B G T F' env1 σ H' → Ex F F' → Dn K F' v d → Q v H'
def EDe (X : Cx) (e : Expr) (env env1 : List Sl) (d : D) : Prop := PE X e (rdEe X.K env env1 d)
def rdAe (K : Fg) (env env1 : List Sl) (ds : List D) : TA := fun σ H Q => ∃ B G T F, StR K B G T F env σ H ∧ ∀ vs F' H', StR K B G T F' env1 σ H' → Ex F F' → DnA K F' vs ds → Q vs H'
def ADe (X : Cx) (es : List Expr) (env env1 : List Sl) (ds : List D) : Prop := PA X es (rdAe X.K env env1 ds)
def rdTe (K : Fg) (env env1 : List Sl) (k : Bool) : TT := fun σ H Q => ∃ B G T F, StR K B G T F env σ H ∧ ∀ F' H', StR K B G T F' env1 σ H' → Ex F F' → Q k H'
def TDe (X : Cx) (e : Expr) (env env1 : List Sl) (k : Bool) : Prop := PT X e (rdTe X.K env env1 k)
def WDe (X : Cx) (e : Expr) (env env1 : List Sl) (k : Bool) : Prop := PW X e (rdTe X.K env env1 k)
theorem ede_em {i : Nat} {s1 : OS} (h : EM X (fun _ _ _ _ => False) e i q s0 env (fun z t => z = d ∧ t = s1) (fun _ => False)) : EDe X e env (env.set i (.owo q s1)) d :=
  PE.imp h fun σ H Q ⟨B, G, T, F, S, k⟩ => ⟨B, G, T, F, S, fun v d' s F' H' S' g dn ⟨e1, e2⟩ => by subst e1 e2; exact k v F' H' S' g dn, fun _ _ _ _ _ _ z => z.elim⟩
theorem ade_cons (h : EDe X e env env1 d) (hr : AD X es env1 ds) (hs : starEach (e :: es) X.env = (false, eval e X.env) :: starEach es X.env := by rfl) : ADe X (e :: es) env env1 (d :: ds) :=
  PA.imp (pa_cons h hr hs) fun σ H Q ⟨B, G, T, F, S, k⟩ => ⟨B, G, T, F, S, fun v F1 H1 S1 g1 dn => ⟨B, G, T, F1, S1, fun vs es F2 H2 S2 g2 d2 z => by
    subst z
    exact k _ F2 H2 S2 (g1.trans g2.ff) (.cons (dn.mono g2.ff) d2)⟩⟩
theorem ede_call {k j : Nat} {RR : List D → (D → Prop) → Prop} (c : Kn X.prog X.w X.K X.mg X.base k x (spF X.K RR)) (hr : Room j X.A) (ha : ADe X (e :: es) env env1 ds) (h : RR ds (fun z => z = d)) (hk : k ≤ j := by decide) (hg : Gl X x := by rfl) (hdb : (x == ("__debug__" : Str)) = false := by decide)
    (he : starEach (e :: es) X.env = (false, eval e X.env) :: starEach es X.env := by rfl) (hpl : (backTo pos (starEach es X.env)).any (·.1) = false := by rfl) : EDe X (.Call (.Name x p) (e :: es) [] pos) env env1 d := by
  obtain ⟨f, fd, ps, ok, kp, bi, hm⟩ := c.ex
  refine PE.imp (pe_call ok (hr.mono hk) hg hm kp bi .nil pass0 ha hdb he hpl) fun σ H Q ⟨B, G, T, F, S, q⟩ => ⟨B, G, T, F, S, fun vs F1 H1 S1 g1 d1 => ?_⟩
  show spF X.K RR (vs ++ []) H1 Q E0
  rw [List.append_nil]
  refine ⟨F1, ds, _, S1.fh, d1, h, fun v d' F' H' h1 h2 h3 h4 dn φ => ?_⟩
  subst φ
  obtain ⟨g, S'⟩ := Gr.of_call S1 h1 h2 h3 h4
  exact q v F' H' S' (g1.trans g.ff) dn
theorem tde_val {k : Bool} (h : EDe X e env env1 (.bool k)) (he : ∀ whole, isTrue e X.env whole = (do let v ← whole; standAt e.pos; holding [v] (truthy v)) := by intro _; rfl) : TDe X e env env1 k :=
  PT.imp (pt_val h he) fun σ H Q ⟨B, G, T, F, S, q⟩ => ⟨B, G, T, F, S, fun v F' H' S' g dn => by cases dn; exact ⟨k, rfl, q F' H' S' g⟩⟩
theorem tde_not {k : Bool} (h : TDe X a env env1 k) : TDe X (.UnaryOp .Not a pos) env env1 (!k) := PT.imp (pt_not h) fun σ H Q ⟨B, G, T, F, S, q⟩ => ⟨B, G, T, F, S, q⟩
theorem WDe.td {k : Bool} (h : WDe X e env env1 k) : TDe X e env env1 k := PW.pt h
/-- a or b: a known to fail -/
theorem wde_or {es : List Expr} {l : Bool} (ha : TDe X a env env1 false) (hb : WD X (.BoolOp .Or (b :: es) pos) env1 l) : WDe X (.BoolOp .Or (a :: b :: es) pos) env env1 l :=
  PW.imp (pw_or ha hb) fun σ H Q ⟨B, G, T, F, S, q⟩ => ⟨B, G, T, F, S, fun F1 H1 S1 g1 => iteF ⟨B, G, T, F1, S1, fun v F2 H2 S2 g2 e2 => by subst e2; exact q F2 H2 S2 (g1.trans g2.ff)⟩⟩
theorem sds_ifFe {k : Bool} (hc : TDe X c env env1 k) (hk : k = false) (hr : SDs X rest env1 Φ) : SDs X (.If c thn [] pos :: rest) env Φ := by
  subst hk
  exact PSs.imp (pss_cons (ps_if hc pss_never pss_nil) hr) fun E σ H ⟨B, G, T, F, S, n⟩ => ⟨B, G, T, F, S, fun F' H' S' g => iteF ⟨B, G, T, F', S', n⟩⟩
theorem sds_setE (j : Nat) {pos' : Pos} (h : EDe X e env env1 d) (hr : SDs X rest (env1.set j (.dt d)) Φ) (hN : X.N.Nodup := by assumption) (hi : X.N[j]? = some x := by rfl) (hx : Loc X.env.scope x := by first | exact .inl rfl | exact .inr rfl)
    (hs : swapsWith e (some (.Name x pos')) pos.line X.env = pure false := by rfl) (hf : X.fn x = true ∨ X.env.scope.names.lookup x = some .local := by first | exact .inl rfl | exact .inr rfl | assumption) : SDs X (.Assign [.Name x pos'] e pos :: rest) env Φ :=
  PSs.imp (pss_cons (ps_set hN hi hx h hs hf) hr) fun E σ H ⟨B, G, T, F, S, n⟩ => ⟨B, G, T, F, S, fun v F' H' S' g dn => ⟨B, G, T, F', S'.set_dt dn j, n⟩⟩
/-- an own object that is not changed any more becomes data -/
theorem sds_still (i : Nat) {st : List Stmt} (hi : env[i]? = some (.owo q s)) (ok : OsOk X.K s) (hr : SDs X st (env.set i (.dt (osD s))) Φ) : SDs X st env Φ := PSs.imp hr fun E σ H ⟨B, G, T, F, S, n⟩ => by
  obtain ⟨o, ho, f, np, S1⟩ := S.view hi ok
  exact ⟨B, G, T, _, S1, n⟩
/-- a list of one's own gets a name -/
theorem sds_name (i : Nat) {st : List Stmt} (hi : env[i]? = some (.own xs)) (hr : ∀ r, SDs X st (env.set i (.owo r (.lst xs))) Φ) : SDs X st env Φ := PSs.imp (PSs.ex hr) fun E σ H ⟨B, G, T, F, S, n⟩ => by
  obtain ⟨o, e, r, vs, eo, b, f, np, hp, dn⟩ := S.some_at hi
  subst eo
  refine ⟨r, B, G, T, F, ⟨S.gf, S.fh, S.bh, S.nf, by simpa using S.len, fun j s' o' e1 e2 => ?_, fun a c s1 s2 hab e1 e2 o1 o2 => ?_, S.tp⟩, n⟩
  · by_cases hij : i = j
    · subst hij
      rw [List.getElem?_set_self (List.getElem?_eq_some_iff.mp hi).1] at e1
      cases e1
      rw [e] at e2; cases e2
      exact ⟨rfl, b, f, np, vs, hp, dn⟩
    · rw [List.getElem?_set_ne hij] at e1
      exact S.sl j s' o' e1 e2
  · have key : ∀ {j : Nat} {t : Sl}, (env.set i (Sl.owo r (.lst xs)))[j]? = some t → t.owned = true → ∃ t', env[j]? = some t' ∧ t'.owned = true := fun {j t} e ow => by
      by_cases hij : i = j
      · subst hij; exact ⟨_, hi, rfl⟩
      · rw [List.getElem?_set_ne hij] at e; exact ⟨_, e, ow⟩
    obtain ⟨t1, f1, g1⟩ := key e1 o1
    obtain ⟨t2, f2, g2⟩ := key e2 o2
    exact S.ds a c t1 t2 hab f1 f2 g1 g2
end
end DL

namespace DL
open PySem PySem.Spec PyProof.Rows L2 RZ
/-! ### instances made with arguments by their places -/
structure KiP (P : Program) (w : World) (K : Fg) (mg : Str → Option Value) (base : Heap) (k : Nat) (C f : Addr) (sp : Sp) : Prop where
  ex : ∃ (fd : FuncData) (ps : List Str), FnOk P w K mg base (L2N.CX P w) k f fd ps sp ∧ Binds K fd ps []
  mkr : Mk K C f
  ob : ObjC K C
theorem kip_of {P : Program} {w : World} {K : Fg} {mg : Str → Option Value} {base : Heap} {k : Nat} {x qual : Str} {params : Arguments} {body : List Stmt} {scope : Scope} {f C : Addr} {fd : FuncData} {ps : List Str} {sp : Sp} (F : FunD K x qual params body scope [] [] f fd)
    (h : FnOk P w K mg base (L2N.CX P w) k f fd ps sp) (m : Mk K C f) (o : ObjC K C) (hb : ∀ (kV doc pm : Value) (an : Option Addr) (cdv ct : Value) (us : List Value), us.length = ps.length → bindArgs (PySem.W.fnOf x qual params body scope .none kV doc pm an cdv ct) ⟨us, []⟩ = pure (ps.zip us)) : KiP P w K mg base k C f sp :=
  ⟨⟨fd, ps, h, FunD.bindsN F hb⟩, m, o⟩
theorem StR.extOwo {K : Fg} {B G F H F' H' : Hp} {T : Option TP} {env : List Sl} {σ : L2.St} (S : StR K B G T F env σ H) (S1 : StR K B G T F' env σ H') {p : Addr} {z : OS} (fp : F' p = none) (hp : H p = none) (hz : OsAt K F' H' p z) : StR K B G T F' (env ++ [.owo p z]) (σ ++ [some (.ref p)]) H' := by
  have np : ∀ t, T = some t → p ≠ t.p := fun t e z => S.tpn t e (by rw [← z]; exact hp)
  have bp : B p = none := by
    cases q : B p with
    | none => rfl
    | some o => rw [S.bh p o q np] at hp; cases hp
  refine ⟨S1.gf, S1.fh, S1.bh, S1.nf, by simp [S.len], fun i s o e1 e2 => ?_, fun i j s s' hij e1 e2 o1 o2 => ?_, S1.tp⟩
  · by_cases hi : i < env.length
    · rw [List.getElem?_append_left hi] at e1
      rw [List.getElem?_append_left (by rw [← S.len]; exact hi)] at e2
      exact S1.sl i s o e1 e2
    · rw [List.getElem?_append_right (by omega)] at e1
      rw [List.getElem?_append_right (by rw [← S.len]; omega), ← S.len] at e2
      cases q : i - env.length with
      | zero => rw [q] at e1 e2; simp at e1 e2; subst e1; subst e2; exact ⟨rfl, bp, fp, np, hz⟩
      | succ n => rw [q] at e1; simp at e1
  · have key : ∀ {k : Nat} {s : Sl}, (env ++ [Sl.owo p z])[k]? = some s → s.owned = true → (k < env.length ∧ ∃ r, (σ ++ [some (V.ref p)])[k]? = some (some (.ref r)) ∧ r ≠ p ∧ σ[k]? = some (some (.ref r)) ∧ env[k]? = some s) ∨ (k = env.length ∧ (σ ++ [some (V.ref p)])[k]? = some (some (.ref p))) := fun {k s} e ow => by
      by_cases hk : k < env.length
      · rw [List.getElem?_append_left hk] at e
        obtain ⟨o, eo, so⟩ := S.some_at e
        cases s with
        | own ys => obtain ⟨r, us, er, _, _, _, hr, _⟩ := so; subst er; exact .inl ⟨hk, r, by rw [List.getElem?_append_left (by rw [← S.len]; exact hk)]; exact eo, ne_of_none hr hp, eo, e⟩
        | owo r0 ys => obtain ⟨er, _, _, _, hr⟩ := so; obtain ⟨_, hr⟩ := hr.at_; subst er; exact .inl ⟨hk, r0, by rw [List.getElem?_append_left (by rw [← S.len]; exact hk)]; exact eo, ne_of_none hr hp, eo, e⟩
        | un => cases ow
        | dt _ => cases ow
        | ref _ => cases ow
        | tape => cases ow
      · have hk2 : k = env.length := by
          have := (List.getElem?_eq_some_iff.mp e).1
          simp at this; omega
        exact .inr ⟨hk2, by rw [hk2, S.len, List.getElem?_append_right (Nat.le_refl _)]; simp⟩
    rcases key e1 o1 with ⟨l1, r1, w1, n1, z1, y1⟩ | ⟨l1, w1⟩ <;> rcases key e2 o2 with ⟨l2, r2, w2, n2, z2, y2⟩ | ⟨l2, w2⟩
    · rw [w1, w2, ← z1, ← z2]; exact S.ds i j s s' hij y1 y2 o1 o2
    · rw [w1, w2]; intro z; injection z with z; injection z with z; injection z with z; exact n1 z
    · rw [w1, w2]; intro z; injection z with z; injection z with z; injection z with z; exact n2 z.symm
    · omega
section
variable {X : Cx} {W : WX} {C p g : Addr} {e o : Expr} {es : List Expr} {env : List Sl} {fs : List (Str × D)} {f m x : Str} {d : D} {pos apos p0 : Pos} {k j : Nat} {Φ : D → Prop} {Ψ : Value → Prop} {ds : List D}
theorem ex1_makeP {Rl : List D → (List (Str × D) → Prop) → (Value → Prop) → Prop} {Φs : List (Str × D) → Prop} {f0 : Addr} (K1 : KiP X.prog X.w X.K X.mg X.base k C f0 (spI X.K C Rl)) (hm : X.mg x = some (.ref C)) (hr : Room j X.A) (tk : L2N.Takes X W)
    (ha : AD X (e :: es) env ds) (r : Rl ds Φs Ψ) (hk : k + 1 ≤ j := by decide) (hn : env.length = X.N.length := by rfl) (hg : Gl X x := by rfl) (hdb : (x == ("__debug__" : Str)) = false := by decide)
    (he : starEach (e :: es) X.env = (false, eval e X.env) :: starEach es X.env := by rfl) (hpl : (backTo pos (starEach es X.env)).any (·.1) = false := by rfl) : EX1 X W (.Call (.Name x p0) (e :: es) [] pos) env (fun d => ∃ fs, d = objD C fs ∧ Φs fs) Ψ := by
  obtain ⟨fd, ps, ok, bi⟩ := K1.ex
  refine PE.imp (pe_make K1.mkr ok (hr.mono hk) hg hm bi .nil (passN tk) ha hdb he hpl) fun σ H Q ⟨B, G, T, F, S, q, xx⟩ => ?_
  refine ⟨B, G, T, F, S, fun vs es F1 H1 S1 g1 d1 e x dx hx hdx ne => ?_⟩
  subst e
  rw [List.append_nil]
  exact made_end K1.ob hn S1 g1 d1 r q xx x dx hx hdx ne
/-- .. an own object -/
theorem exr_makeO {Rl : List D → (List (Str × D) → Prop) → (Value → Prop) → Prop} {f0 : Addr} (K1 : KiP X.prog X.w X.K X.mg X.base k C f0 (spI X.K C Rl)) (hm : X.mg x = some (.ref C)) (hr : Room j X.A)
    (ha : AD X (e :: es) env ds) (r : Rl ds (fun z => z = fs) (fun _ => False)) (hk : k + 1 ≤ j := by decide) (hg : Gl X x := by rfl) (hdb : (x == ("__debug__" : Str)) = false := by decide)
    (he : starEach (e :: es) X.env = (false, eval e X.env) :: starEach es X.env := by rfl) (hpl : (backTo pos (starEach es X.env)).any (·.1) = false := by rfl) : EXR X (.Call (.Name x p0) (e :: es) [] pos) env (fun s => ∃ a, s = .owo a (.ins C fs)) := by
  obtain ⟨fd, ps, ok, bi⟩ := K1.ex
  refine PE.imp (pe_make (E := EN X (fun _ _ _ _ => False)) K1.mkr ok (hr.mono hk) hg hm bi .nil (passN takesN) ha hdb he hpl) fun σ H Q ⟨B, G, T, F, S, q⟩ => ?_
  refine ⟨B, G, T, F, S, fun vs es F1 H1 S1 g1 d1 e x dx hx hdx ne => ?_⟩
  subst e
  rw [List.append_nil]
  have fx : F1 x = none := S1.fh.none hx
  have fdx : F1 dx = none := S1.fh.none hdx
  have old : ∀ a o, H1 a = some o → a ≠ x ∧ upd (upd H1 dx (.own x)) x (.ins C dx []) a = some o := fun a o h => by
    have n1 : a ≠ x := ne_of_none h hx
    have n2 : a ≠ dx := ne_of_none h hdx
    exact ⟨n1, by rw [upd_ne n1, upd_ne n2]; exact h⟩
  refine ⟨x, dx, vs, F1, _, _, _, rfl, upd_same, fx, ex_updH (ex_updH S1.fh fdx) fx, d1, r, fun F' H' dx' us fs' e1 e2 e3 e4 e5 e6 e7 φ => ⟨rfl, ?_⟩, fun cls H' e3 ψ => ψ.elim⟩
  subst φ
  have hh : Ex H1 H' := fun a o h => e3 a o (old a o h).1 (old a o h).2
  obtain ⟨gg, S'⟩ := Gr.of_call S1 e1 e2 hh (fun a h n => by
    have nx : a ≠ x := fun z => h (by rw [z]; exact hx)
    cases q : H1 a with
    | none => exact absurd q h
    | some o => exact e4 a nx (by rw [(old a o q).2]; simp) n)
  exact q _ _ _ _ (S1.extOwo (z := .ins C _) S' e5 hx ⟨dx', us, e6, e7⟩) (g1.trans gg S1.tpn) (fun _ r e => by injection e with e; rw [← e]; exact fresh_of g1 S1.tpn hx) ⟨x, rfl⟩
/-! ### x in o, o's own __contains__ -/
theorem op_inI {sp : Sp} (hs : PySem.W.findIn X.K (.ref C) "__contains__" = some (some (.ref g))) (hf : PySem.W.isFn X.K (.ref g) = true) (F : FnR X.prog X.w X.K X.mg X.base CX0 k g sp) (hr : Room k X.A) :
    OpR X (compareOp .In) (fun x y H Q => ∃ a dx ws, y = .ref a ∧ H a = some (.ins C dx ws) ∧ sp [y, x] H (fun z H' => ∃ b, z = .bl b ∧ Q z H') E0) := by
  rintro pins s σ H x y v u Q I rx ry ⟨a, dx, ws, rfl, ha, q⟩
  cases (show u = Value.ref a from ry)
  obtain ⟨mA, O, _⟩ := ins_get I.hok ha
  obtain ⟨od, J, _⟩ := O.look
  obtain ⟨m, fr⟩ := I.fr
  refine PySem.W.in_K fr I.ok.mod.kin J hs hf (wpAny_mono (wpAny_call (run_fnR (us := [.ref a, v]) (vs := [.ref a, x]) F hr pass0 I (.cons rfl (.cons rx .nil)) q)) (fun w s' ⟨z', H', I', rz, b, ez, qz⟩ => ?_) fun _ _ z => z)
  subst ez
  cases (show w = Value.bool b from rz)
  exact wpAny_truthy_bool ⟨.bl b, H', I', rfl, qz⟩
theorem o_inI {R : List D → (D → Prop) → Prop} {y : D} {b : Bool} (hs : PySem.W.findIn X.K (.ref C) "__contains__" = some (some (.ref g))) (hf : PySem.W.isFn X.K (.ref g) = true) (K1 : Km X.prog X.w X.K X.mg X.base k g [] (spF X.K R)) (hr : Room j X.A) (r : R [objD C fs, y] (fun z => z = .bool b)) (hk : k ≤ j := by decide) : OpD X (compareOp .In) y (objD C fs) (fun z => z = .bool b) := by
  obtain ⟨fd, ps, ds, ok, bi, va⟩ := K1.ex
  refine ⟨_, op_inI hs hf (ok.raw bi va) (hr.mono hk), fun B G T F env σ H v u Q S du dv q => ?_⟩
  obtain ⟨a, dx, ws, rfl, ea, _, _⟩ := id dv.objE
  refine ⟨a, dx, ws, rfl, S.fh _ _ ea, F, [objD C fs, y], _, S.fh, .cons dv (.cons du .nil), r, fun v d F' H' e1 e2 e3 e4 dn φ => ?_⟩
  obtain ⟨g, S'⟩ := Gr.of_call S e1 e2 e3 e4
  subst φ
  cases dn
  exact ⟨b, rfl, q _ _ F' H' S' g (.bl b) rfl⟩
/-! ### a constant of the class, read through an instance -/
theorem ed_con (h : ED X e env (objD C fs)) (c : Cls X.K C) (cn : ∃ u v, Con X.K C f v u ∧ ∀ F, Dn X.K F v d) (l : fs.lookup f = none) (hb : attributeBase e f X.env (eval e X.env) = eval e X.env := by rfl) : ED X (.Attribute e f pos) env d :=
  PE.imp (pe_con h hb) fun σ H Q ⟨B, G, T, F, S, q⟩ => ⟨B, G, T, F, S, fun v d' F' H' S' g dn z => by
    subst z
    obtain ⟨a, dx, ws, rfl, ea, _, t⟩ := dn.objE
    obtain ⟨u, v, k1, k2⟩ := cn
    exact ⟨a, C, dx, ws, v, u, rfl, S'.fh _ _ ea, c, k1, t.none l, q v d F' H' S' g (k2 F') rfl⟩⟩
/-- o.m(), o data -/
theorem er_meth0 {R : List D → (D → Prop) → Prop} {pl : Sem Bool} (h : ED X o env (objD C fs)) (c : Cls X.K C) (hm : Meth X.K C m g) (K1 : Km X.prog X.w X.K X.mg X.base k g [] (spF X.K R)) (hr : Room j X.A) (r : R [objD C fs] Φ) (l : fs.lookup m = none := by rfl) (hk : k ≤ j := by decide)
    (ht : eval (.Call (.Attribute o m apos) [] [] pos) X.env = (do
      let ov ← eval o X.env
      standAt apos.atName
      let (f, first) ← holding [ov] (getMethod ov m pl)
      callWith pos f first (backTo pos (starEach [] X.env)) (backToKw pos (keywordEach [] X.env))) := by rfl) : ER X (.Call (.Attribute o m apos) [] [] pos) env Φ := by
  obtain ⟨fd, ps, ds, ok, bi, va⟩ := K1.ex
  refine PE.imp (pe_meth0 (pl := pl) h c hm ok (hr.mono hk) bi va pass0 ht) fun σ H Q ⟨B, G, T, F, S, q⟩ => ⟨B, G, T, F, S, fun v d' F1 H1 S1 g1 dn z => ?_⟩
  subst z
  obtain ⟨a, dx, ws, rfl, ea, _, t⟩ := id dn.objE
  refine ⟨a, dx, ws, rfl, S1.fh _ _ ea, t.none l, ?_⟩
  show spF X.K R [V.ref a] H1 Q E0
  refine ⟨F1, [objD C fs], Φ, S1.fh, .cons dn .nil, r, fun v d F' H' h1 h2 h3 h4 dn φ => ?_⟩
  obtain ⟨g, S'⟩ := Gr.of_call S1 h1 h2 h3 h4
  exact q v d F' H' S' (g1.trans g S1.tpn) dn φ
end
end DL

namespace DL
open PySem PySem.Spec PyProof.Rows L2 RZ
/-! ### generators over data -/
def spG (K : Fg) (R : List D → (List D → Prop) → Prop) : SpG := fun vs H cont _ => ∃ F ds Φ, Ex F H ∧ DnA K F vs ds ∧ R ds Φ ∧ ∀ us es F' H', Ex F F' → Ex F' H' → Ex H H' → (∀ a, H a ≠ none → F a = none → F' a = none) → DnA K F' us es → Φ es → cont us H'
structure Kg (P : Program) (w : World) (K : Fg) (mg : Str → Option Value) (base : Heap) (k : Nat) (f : Addr) (R : List D → (List D → Prop) → Prop) : Prop where
  ex : ∃ (fd : FuncData) (ps : List Str), GFn P w K mg base k f fd ps (spG K R) ∧ Binds K fd ps []
theorem kg_of {P : Program} {w : World} {K : Fg} {mg : Str → Option Value} {base : Heap} {k : Nat} {x qual : Str} {params : Arguments} {body : List Stmt} {scope : Scope} {f : Addr} {fd : FuncData} {ps : List Str} {R : List D → (List D → Prop) → Prop} (F : FunD K x qual params body scope [] [] f fd)
    (h : GFn P w K mg base k f fd ps (spG K R)) (hb : ∀ (kV doc pm : Value) (an : Option Addr) (cdv ct : Value) (us : List Value), us.length = ps.length → bindArgs (PySem.W.fnOf x qual params body scope .none kV doc pm an cdv ct) ⟨us, []⟩ = pure (ps.zip us)) : Kg P w K mg base k f R :=
  ⟨fd, ps, h, FunD.bindsN F hb⟩
def rdY (K : Fg) (env : List Sl) (xs : List D) (N : List Sl → List D → Prop) : TGn := fun E ys σ H => ∃ B G T F, StR K B G T F env σ H ∧ DnA K F ys xs ∧ ∀ env' ys' xs' σ' F' H', StR K B G T F' env' σ' H' → Ex F F' → DnA K F' ys' xs' → N env' xs' → E.nx ys' σ' H'
def GD (X : Cx) (st : List Stmt) (env : List Sl) (xs : List D) (N : List Sl → List D → Prop) : Prop := GSs X st (rdY X.K env xs N)
theorem GSs.imp {X : Cx} {st : List Stmt} {t t' : TGn} (h : GSs X st t) (k : ∀ E ys σ H, t' E ys σ H → t E ys σ H) : GSs X st t' := ⟨fun A S ip R n ys s0 c fs K J gd lv s σ H D g hn gk gi q => h.run A S ip R n ys s0 c fs K J gd lv s σ H D g hn gk gi (k D ys σ H q)⟩
theorem GSs.ex {X : Cx} {st : List Stmt} {ι : Type} {t : ι → TGn} (h : ∀ i, GSs X st (t i)) : GSs X st (fun E ys σ H => ∃ i, t i E ys σ H) := ⟨fun A S ip R n ys s0 c fs K J gd lv s σ H D g hn gk gi ⟨i, q⟩ => (h i).run A S ip R n ys s0 c fs K J gd lv s σ H D g hn gk gi q⟩
section
variable {X : Cx} {e tg : Expr} {env : List Sl} {xs : List D} {N : List Sl → List D → Prop} {d : D} {x : Str} {pos pos' yp : Pos} {rest body : List Stmt}
theorem gd_nil (h : N env xs) : GD X [] env xs N := GSs.imp gss_nil fun E ys σ H ⟨B, G, T, F, S, d, n⟩ => n _ _ _ _ _ _ S (Ex.refl F) d h
theorem gd_setD (i : Nat) (h : ED X e env d) (hr : GD X rest (env.set i (.dt d)) xs N) (hN : X.N.Nodup := by assumption) (hi : X.N[i]? = some x := by rfl) (hx : Loc X.env.scope x := by first | exact .inl rfl | exact .inr rfl)
    (hs : swapsWith e (some (.Name x pos')) pos.line X.env = pure false := by rfl) (hf : X.fn x = true ∨ X.env.scope.names.lookup x = some .local := by first | exact .inl rfl | exact .inr rfl | assumption) : GD X (.Assign [.Name x pos'] e pos :: rest) env xs N :=
  GSs.imp (gss_cons (gs_ps (ps_set hN hi hx h hs hf)) hr) fun E ys σ H ⟨B, G, T, F, S, dy, n⟩ => ⟨B, G, T, F, S, fun v d' F' H' S' g dn z => by
    subst z
    exact ⟨B, G, T, F', S'.set_dt dn i, dy.mono g.ff, fun env' ys' xs' σ' F2 H2 S2 e2 => n env' ys' xs' σ' F2 H2 S2 (g.ff.trans e2)⟩⟩
theorem gd_yield (h : ED X e env d) (hz : xs.length < 100000) (hr : GD X rest env (xs ++ [d]) N) (hc : X.env.scope.isCoroutine = false := by rfl) (hi : interactive X.env = false := by rfl) : GD X (.Expr (.Yield (some e) yp) pos :: rest) env xs N :=
  GSs.imp (gss_cons (gs_yield h hc hi) hr) fun E ys σ H ⟨B, G, T, F, S, dy, n⟩ => ⟨by rw [dy.length, sizeLine_eq]; omega, B, G, T, F, S, fun v d' F' H' S' g dn z => by
    subst z
    exact ⟨B, G, T, F', S', (dy.mono g.ff).append (.cons dn .nil), fun env' ys' xs' σ' F2 H2 S2 e2 => n env' ys' xs' σ' F2 H2 S2 (g.ff.trans e2)⟩⟩
theorem gd_for {items : List D} (I : Nat → List Sl → List D → Prop) (hc : X.calm = true) (hp : PassesOwn (model X.prog X.w) X.A X.env X.xe) (hi : IR X tg e env items) (h0 : I 0 env xs)
    (hs : ∀ k d env' ys, items[k]? = some d → I k env' ys → ∃ env'' is, GR X tg env' d env'' is ∧ GD X body env'' ys (I (k + 1))) (hd : ∀ env' ys, I items.length env' ys → GD X rest env' ys N) (hf : ∀ x, foldedSetIterable e X.env x = pure x := by intro _; rfl) : GD X (.For tg e body [] pos :: rest) env xs N := by
  have hrest := GSs.ex fun d : {d : List Sl × List D // I items.length d.1 d.2} => hd d.1.1 d.1.2 d.2
  let Ok : (Nat × D × List Sl × List D × List Sl × List Nat) → Prop := fun q => items[q.1]? = some q.2.1 ∧ GR X tg q.2.2.1 q.2.1 q.2.2.2.2.1 q.2.2.2.2.2 ∧ GD X body q.2.2.2.2.1 q.2.2.2.1 (I (q.1 + 1))
  have hg : PG X tg (fun v σ H Q => ∃ q : {q // Ok q}, rdG X.K q.1.2.2.1 q.1.2.1 q.1.2.2.2.2.1 q.1.2.2.2.2.2 v σ H Q) := PG.ex fun q => q.2.2.1
  have hb : GSs X body (fun E ys σ H => ∃ q : {q // Ok q}, rdY X.K q.1.2.2.2.2.1 q.1.2.2.2.1 (I (q.1.1 + 1)) E ys σ H) := GSs.ex fun q => q.2.2.2
  refine GSs.imp (gss_cons (gs_for hp hc hi hg hb hf) hrest) fun E ys σ H ⟨B, G, T, F, S, dy, n⟩ => ⟨B, G, T, F, S, fun Jt F1 H1 S1 g1 wk => ?_⟩
  refine ⟨fun i m ys σ H => m = items.length - i ∧ i ≤ items.length ∧ ∃ env' F' xs', StR X.K B G T F' env' σ H ∧ Ex F1 F' ∧ DnA X.K F' ys xs' ∧ I i env' xs', ⟨items.length, by simp, Nat.zero_le _, env, F1, xs, S1, Ex.refl _, dy.mono g1.ff, h0⟩, ?_⟩
  rintro i m ys2 σ2 H2 ⟨rfl, hi2, env2, F2, xs2, S2, e2, dy2, i2⟩
  by_cases hlt : i < items.length
  · refine .inr ⟨wk.go i H2 hlt (e2.trans S2.fh), fun ys' σ' H' => ∃ env' F' xs', StR X.K B G T F' env' σ' H' ∧ Ex F1 F' ∧ DnA X.K F' ys' xs' ∧ I (i + 1) env' xs', fun ys' σ' H' ⟨env', F', xs', S', e', dy', i'⟩ => ⟨items.length - (i + 1), by omega, rfl, hlt, env', F', xs', S', e', dy', i'⟩, fun x H3 y => ?_⟩
    obtain ⟨d, F3, ed, dn, x1, x2, x3, x4⟩ := wk.yld i F2 H2 x H3 hlt e2 S2.fh y
    obtain ⟨env'', is, hgr, hbd⟩ := hs i d env2 xs2 ed i2
    obtain ⟨g3, S3⟩ := Gr.of_call S2 x1 x2 x3 x4
    refine ⟨⟨(i, d, env2, xs2, env'', is), ed, hgr, hbd⟩, B, G, T, F3, S3, dn, fun σ4 S4 l4 k4 => ?_⟩
    exact ⟨⟨(i, d, env2, xs2, env'', is), ed, hgr, hbd⟩, B, G, T, F3, S4, dy2.mono x1, fun env' ys' xs' σ' F' H' S' e' dy' i' => ⟨env', F', xs', S', (e2.trans x1).trans e', dy', i'⟩⟩
  · have e : i = items.length := by omega
    subst e
    exact .inl ⟨wk.stop H2 (e2.trans S2.fh), ⟨(env2, xs2), i2⟩, B, G, T, F2, S2, dy2, fun env' ys' xs' σ' F' H' S' e' => n env' ys' xs' σ' F' H' S' ((g1.ff.trans e2).trans e')⟩
end
section
variable {P : Program} {w : World} {K : Fg} {mg : Str → Option Value} {base : Heap} {x qual : Str} {params : Arguments} {body : List Stmt} {scope : Scope} {f : Addr} {fd : FuncData} {N ps : List Str} {k : Nat} {R : List D → (List D → Prop) → Prop} {dvs : List V} {kws : List (Str × V)}
theorem fnG (Fd : FunD K x qual params body scope dvs kws f fd) (S : GScope N ps scope) (len : ∀ ds Φ, R ds Φ → ds.length = ps.length)
    (hbody : ∀ (cdv : Value) (A : Around) (outer : List Env) (s : Shared) (H : Hp) (E : XK) (pn : List (Addr × Obj)), Room k (A.deeper (envOfC qual scope s.heap.objs.size f cdv)) → ∀ ds Φ, R ds Φ →
      GD (gcxOf P w K mg base N qual scope f cdv A outer s H E pn) body (startD N (ds.map Sl.dt)) [] (fun _ xs => Φ xs)) : GFn P w K mg base (k + 1) f fd ps (spG K R) := by
  obtain ⟨oc, od, dV, kV, doc, pm, an, cdv, ct, osl, rfl, look, code, _, _⟩ := Fd.ex
  have pl : ps.length ≤ N.length := by have := congrArg List.length S.pre; rw [List.length_take] at this; omega
  refine gfn_of look code S (fun vs H Q E h => ?_) (fun A outer s H vs Q E pn hr h => ?_)
  · obtain ⟨F, ds, Φ, _, d, r, _⟩ := h
    rw [d.length, len _ _ r]
  · obtain ⟨F, ds, Φ, e, d, r, q⟩ := h
    refine ⟨_, hbody cdv A outer s H E pn hr ds Φ r, H, F, none, F, startF e d (by rw [d.length, len _ _ r]; exact pl), .nil, fun env' ys' xs' σ' F' H' S' e' dy φ => ?_⟩
    exact q ys' xs' F' H' S'.gf S'.fh (fun a o h => S'.bh a o h (fun _ z => by cases z)) (fun a h n => S'.nf a h n) dy φ
end
/-- list(o.m()), o data, m a generator -/
theorem er_listG {X : Cx} {o : Expr} {env : List Sl} {C g : Addr} {fs : List (Str × D)} {m : Str} {k j : Nat} {Φ : D → Prop} {R : List D → (List D → Prop) → Prop} {pl : Sem Bool} {p pos pos' apos : Pos} (h : ED X o env (objD C fs)) (c : Cls X.K C) (hm : Meth X.K C m g) (K1 : Kg X.prog X.w X.K X.mg X.base k g R) (hr : Room j X.A)
    (r : R [objD C fs] (fun xs => Φ (.list xs))) (hmg : X.mg "list" = none) (l : fs.lookup m = none := by rfl) (hk : k + 3 ≤ j := by decide) (hg : Gl X "list" := by rfl)
    (ht : eval (.Call (.Attribute o m apos) [] [] pos') X.env = (do
      let ov ← eval o X.env
      standAt apos.atName
      let (f, first) ← holding [ov] (getMethod ov m pl)
      callWith pos' f first (backTo pos' (starEach [] X.env)) (backToKw pos' (keywordEach [] X.env))) := by rfl)
    (hs : starEach [.Call (.Attribute o m apos) [] [] pos'] X.env = (false, eval (.Call (.Attribute o m apos) [] [] pos') X.env) :: starEach [] X.env := by rfl) : ER X (.Call (.Name "list" p) [.Call (.Attribute o m apos) [] [] pos'] [] pos) env Φ := by
  obtain ⟨fd, ps, ok, bi⟩ := K1.ex
  refine PE.imp (pe_listG (E := E0) (pgen_meth0 (pl := pl) (dvs := []) h c hm ok (hr.mono (by omega)) bi .nil ht) (fun _ _ _ _ _ _ _ ⟨_, _, _, _, _, _, _, _, _, _, _, _, z⟩ => z.elim) (fun _ _ _ z => z.elim) (hr.mono hk) hg hmg (by decide +kernel) (by decide) (by decide) hs) fun σ H Q ⟨B, G, T, F, S, q⟩ => ⟨B, G, T, F, S, fun v d' F1 H1 S1 g1 dn z => ?_⟩
  subst z
  obtain ⟨a, dx, ws, rfl, ea, _, t⟩ := id dn.objE
  refine ⟨a, dx, ws, rfl, S1.fh _ _ ea, t.none l, ?_⟩
  show spG X.K R [V.ref a] H1 _ E0
  refine ⟨F1, [objD C fs], _, S1.fh, .cons dn .nil, r, fun us es F' H' h1 h2 h3 h4 dus φ p hp => ?_⟩
  obtain ⟨g2, S2⟩ := Gr.of_call S1 h1 h2 h3 h4
  obtain ⟨S3, g3⟩ := S2.lay (o := .lst us) hp
  exact q _ _ _ _ S3 ((g1.trans g2 S1.tpn).trans g3 S2.tpn) (.lst upd_same (dus.mono g3.ff)) φ
end DL

namespace DL
open PySem PySem.Spec PyProof.Rows L2 RZ
/-! ### more facts of an own class: lists are none of its instances; its constants read through an instance -/
structure ClL (K : Fg) (x : Str) (cvs : List (Str × D)) : Prop where
  lst : PySem.W.kitOne K (.type "list") (.ref (He.ga K x)) = some false ∧ PySem.W.subIn K (.type "list") (.ref (He.ga K x)) = some false
  con : ∀ q ∈ cvs, ∃ u v, Con K (He.ga K x) q.1 v u ∧ ∀ F, Dn K F v q.2
def conB (K : Fg) (C : Addr) (q : Str × D) : Bool := match PySem.W.findIn K (.ref C) q.1 with
  | some (some u) => vB K q.2 u && (He.eqO (PySem.W.specialIn K u "__get__") (some none) && !PySem.W.copiedNames.contains q.1)
  | _ => false
def clL (K : Fg) (x : Str) (cvs : List (Str × D)) : Bool := (kitB2 K (.type "list") (.ref (He.ga K x)) false && decide (PySem.W.subIn K (.type "list") (.ref (He.ga K x)) = some false)) && cvs.all (conB K (He.ga K x))
theorem clL_ok {K : Fg} {x : Str} {cvs : List (Str × D)} (c : clL K x cvs = true) : ClL K x cvs := by
  unfold clL at c
  obtain ⟨c, c3⟩ := He.ba c
  obtain ⟨c1, c2⟩ := He.ba c
  refine ⟨⟨of_decide_eq_true c1, of_decide_eq_true c2⟩, fun q hq => ?_⟩
  have p := List.all_eq_true.mp c3 q hq
  unfold conB at p
  split at p
  · rename_i u e
    obtain ⟨p1, p⟩ := He.ba p
    obtain ⟨p2, p3⟩ := He.ba p
    obtain ⟨v, r, dn⟩ := vB_ok p1
    exact ⟨u, v, ⟨e, r, He.eqO_ok p2, by simpa using p3⟩, dn⟩
  · cases p
theorem tyI_lst {K : Fg} {C : Addr} {ds : List D} (h : PySem.W.kitOne K (.type "list") (.ref C) = some false) (h2 : PySem.W.subIn K (.type "list") (.ref C) = some false) : TyI K C (.list ds) false := fun F v dn => by
  have nf : PySem.W.notFirst K C (.type "list") = true := by unfold PySem.W.notFirst; rw [h2]; rfl
  cases dn with
  | lst q _ => exact ⟨_, .base (.lst q), h, nf⟩
end DL

namespace DL
open PySem PySem.Spec PyProof.Rows L2 RZ
/-! ### bool(o), by o's own __len__ -/
theorem call_boolV {P : Program} {w : World} {A : Around} {E : Value → Shared → Prop} {s : Shared} {x : Value} {Q : Value → Shared → Prop} (h : wpAny (model P w) A.in1.in1 (truthy x) (fun b s' => Q (.bool b) s') E s) : wpAny (model P w) A (call (.type "bool") [x]) Q E s := by
  refine callType_newIn (S := fun A R s => wpAny (model P w) A.in1 (truthy x) (fun b s' => R (.ok (.ret (.bool b))) s') (fun e s' => R (.error e) s') s) PySem.F.called_bool PySem.F.newNe_bool (PySem.F.typeCall_bool_1 x) (PySem.F.newCall_bool_1 x) (fun obj => PySem.F.args_object_init_2 obj x) PySem.F.entry_bool_new (fun A R s h => ?_) (wpAny_mono h (fun b s' q => ⟨rfl, q⟩) fun _ _ z => z)
  unfold PySem.Builtin.«bool.__new__»
  refine wpAny_bind (m := isType (.type "bool")) (wpAny_pure ?_)
  refine wpAny_ite_false (by rfl) ?_
  refine wpAny_bind (wpAny_of_eq PySem.F.called_bool.sub ?_)
  refine wpAny_ite_false (by rfl) ?_
  refine wpAny_bind (m := someArgs "bool" 0 1 _) ?_
  unfold someArgs
  refine wpAny_bind (wpAny_ite_true (by rfl) (wpAny_pure ?_))
  refine wpAny_bind (m := checkCount "bool" 0 1 _) ?_
  unfold checkCount
  refine wpAny_ite_false (by rfl) (wpAny_ite_false (by rfl) (wpAny_ite_false (by rfl) (wpAny_pure ?_)))
  refine wpAny_pure ?_
  exact wpAny_bind (wpAny_mono h (fun b s' q => wpAny_pure q) fun _ _ z => z)
section
variable {X : Cx} {C g : Addr} {fs : List (Str × D)} {k j : Nat} {R : List D → (D → Prop) → Prop} {n : Nat} {sp : Sp}
theorem call_boolO (hb : PySem.W.findIn X.K (.ref C) "__bool__" = some none) (hs : PySem.W.findIn X.K (.ref C) "__len__" = some (some (.ref g))) (hf : PySem.W.isFn X.K (.ref g) = true) (F : FnR X.prog X.w X.K X.mg X.base CX0 k g sp) (hr : Room (k + 3) X.A) :
    CallR X (.type "bool") (fun xs H Q => ∃ a dx ws, xs = [.ref a] ∧ H a = some (.ins C dx ws) ∧ ∃ n : Nat, n < 2 ^ 62 ∧ sp [.ref a] H (fun z H' => z = .int n ∧ Q (.bl (decide (n ≠ 0))) H') E0) := by
  rintro pins s σ H xs us Q I r ⟨a, dx, ws, rfl, ha, n, hn, q⟩
  match us, r with
  | _, .cons ra .nil =>
    cases ra
    obtain ⟨mA, O, _⟩ := ins_get I.hok ha
    obtain ⟨od, J, _⟩ := O.look
    refine call_boolV (truthyO I.kIn J hb hs hf (wpAny_mono (wpAny_call (SlX.run_at (us := [.ref a]) (ws := [.ref a]) F hr.in1.in1.in1 I.env0.in1.in1.in1 pass0 I (.cons rfl .nil) q)) (fun v s' ⟨z, H', I', rz, ez, q'⟩ => ?_) fun _ _ z => z))
    subst ez
    obtain ⟨t, rfl⟩ := (show ∃ t, v = Value.int n t from rz)
    refine ⟨⟨Int.ofNat_nonneg n, by omega⟩, n, s'.toks, rfl, ?_⟩
    have e : ((n : Int) != 0) = decide (n ≠ 0) := by cases n <;> simp <;> omega
    rw [e]
    exact ⟨.bl (decide (n ≠ 0)), H', I'.tok _, rfl, q'⟩
theorem c_boolO (hb : PySem.W.findIn X.K (.ref C) "__bool__" = some none) (hs : PySem.W.findIn X.K (.ref C) "__len__" = some (some (.ref g))) (hf : PySem.W.isFn X.K (.ref g) = true) (K1 : Km X.prog X.w X.K X.mg X.base k g [] (spF X.K R)) (hr : Room j X.A) (hn : n < 2 ^ 62) (r : R [objD C fs] (fun z => z = .int n)) (hk : k + 3 ≤ j := by decide) : CaD X (.type "bool") [objD C fs] (fun z => z = .bool (decide (n ≠ 0))) := by
  obtain ⟨fd, ps, ds, ok, bi, va⟩ := K1.ex
  refine ⟨_, call_boolO hb hs hf (ok.raw bi va) (hr.mono hk), fun B G T F env σ H vs Q S dv q => ?_⟩
  match vs, dv with
  | _, .cons dn .nil =>
    obtain ⟨a, dx, ws, rfl, ea, _, _⟩ := id dn.objE
    refine ⟨a, dx, ws, rfl, S.fh _ _ ea, n, hn, F, [objD C fs], _, S.fh, .cons dn .nil, r, fun v d F' H' e1 e2 e3 e4 dn' φ => ?_⟩
    subst φ
    cases dn'
    obtain ⟨g, S'⟩ := Gr.of_call S e1 e2 e3 e4
    exact ⟨rfl, q _ _ F' H' S' g (.bl _) rfl⟩
/-- len(e), where e always raises -/
theorem ex1_lenX {W : WX} {e : Expr} {env : List Sl} {Φ : D → Prop} {Ψ : Value → Prop} {p pos : Pos} (h : EX1 X W e env (fun _ => False) Ψ) (hm : X.mg "len" = none) (hg : Gl X "len" := by rfl) (hs : starEach [e] X.env = (false, eval e X.env) :: starEach [] X.env := by rfl) (hpl : (backTo pos (starEach [] X.env)).any (·.1) = false := by rfl) : EX1 X W (.Call (.Name "len" p) [e] [] pos) env Φ Ψ := by
  obtain ⟨r, hr, _⟩ := c_lenL (X := X) (xs := [])
  exact PE.imp (pe_callB hr hg hm boot_len (pa_cons h pa_nil hs) (by decide) (by decide) hs hpl) fun σ H Q ⟨B, G, T, F, S, _, x⟩ => ⟨B, G, T, F, S, fun v d F' H' S' g dn z => z.elim, x⟩
end
end DL

namespace Cal
/-- what a rule reads lies within a round of today, or in the hint's year -/
theorem year_dn {z : Int} (h0 : 1000 ≤ (dayOf z).1) (h1 : (dayOf z).1 ≤ 9000) : 364878 ≤ z ∧ z ≤ 3287182 := by
  obtain ⟨q1, q2, q3, q4, q5⟩ := dayOf_spec z
  have := num_bd q1 q2 q3 q4 h0 h1
  rw [q5] at this
  exact this
theorem nxt_dn {h : Hint} {n z : Int} (hy : ∀ v, h.y = some v → 1000 ≤ v ∧ v ≤ 9000) (n0 : 510975 ≤ n) (n1 : n ≤ 3141085) (e : nxt h n = some z) : 364878 ≤ z ∧ z ≤ 3287182 := by
  have s := nxt_spec h n
  rw [e] at s
  obtain ⟨s1, s2, s3⟩ := s
  cases c : h.y with
  | some Y =>
    obtain ⟨_, _, _, e4⟩ := fit_parts s2
    rw [c] at e4
    have e4 : Y = (dayOf z).1 := by simpa using e4
    have := hy Y c
    exact year_dn (by omega) (by omega)
  | none =>
    by_cases q : z ≤ n + 146097
    · omega
    · have f := fit_400 c (z - 146097)
      rw [show z - 146097 + 146097 = z by omega, s2] at f
      have g := s3 (z - 146097) (by omega) (by omega)
      rw [g] at f
      cases f
theorem lst_dn {h : Hint} {n z : Int} (hy : ∀ v, h.y = some v → 1000 ≤ v ∧ v ≤ 9000) (n0 : 510975 ≤ n) (n1 : n ≤ 3141085) (e : lst h n = some z) : 364878 ≤ z ∧ z ≤ 3287182 := by
  have s := lst_spec h n
  rw [e] at s
  obtain ⟨s0, s1, s2, s3⟩ := s
  cases c : h.y with
  | some Y =>
    obtain ⟨_, _, _, e4⟩ := fit_parts s2
    rw [c] at e4
    have e4 : Y = (dayOf z).1 := by simpa using e4
    have := hy Y c
    exact year_dn (by omega) (by omega)
  | none =>
    by_cases q : n - 146097 ≤ z
    · omega
    · have f := fit_400 c z
      have g := s3 (z + 146097) (by omega) (by omega)
      rw [g, s2] at f
      cases f
theorem rd_dn {h : Hint} {n z : Int} {r : Nat} (hy : ∀ v, h.y = some v → 1000 ≤ v ∧ v ≤ 9000) (n0 : 510975 ≤ n) (n1 : n ≤ 3141085) (e : rd h n r = some z) : 364878 ≤ z ∧ z ≤ 3287182 := by
  have key : nxt h n = some z ∨ lst h n = some z := by
    unfold rd pickR at e
    split at e
    · exact .inl e
    · split at e
      · exact .inr e
      · split at e
        · exact .inr e
        · exact .inl e
        · rename_i l m hl hm
          split at e
          · exact .inl (by rw [hl]; exact e)
          · exact .inr (by rw [hm]; exact e)
  rcases key with k | k
  · exact nxt_dn hy n0 n1 k
  · exact lst_dn hy n0 n1 k
theorem rd_never {h : Hint} {n : Int} {r : Nat} (k : ∀ n, fitB h n = false) : rd h n r = none := by
  have e1 : nxt h n = none := (nxt_eq (r := none) (fun j _ => k j)).symm
  have e2 : lst h n = none := (lst_eq (r := none) (fun j _ _ => k j)).symm
  unfold rd
  rw [e1, e2]
  unfold pickR
  split
  · rfl
  · split <;> rfl
end Cal

namespace LK
open PySem PySem.Spec PyProof.Rows L2 RZ DL
def top (i : Nat) : Stmt := PySem.Challenge.pw_spandates_k31_whole_diaries_call_by_call.main.body.getD i (.Pass ⟨0, 0, 0, 0⟩)
abbrev s_is_integer : Stmt := top 5
abbrev s_is_leap : Stmt := top 6
abbrev s_month_length : Stmt := top 7
abbrev s_is_day : Stmt := top 8
abbrev s_before_year : Stmt := top 9
abbrev s_month_start : Stmt := top 10
abbrev s_number_of : Stmt := top 11
abbrev s_day_at : Stmt := top 12
abbrev s_weekday_of : Stmt := top 13
abbrev s_is_hint : Stmt := top 25
abbrev s_is_rule : Stmt := top 26
abbrev s_in_month : Stmt := top 27
abbrev s_month_after : Stmt := top 28
abbrev s_next_fit : Stmt := top 29
abbrev s_last_fit : Stmt := top 30
abbrev s_read : Stmt := top 31
abbrev s_as_day : Stmt := top 33
abbrev s_meant : Stmt := top 34
abbrev s_hint_text : Stmt := top 38
abbrev s_read_number : Stmt := top 39
abbrev s_read_word : Stmt := top 40
abbrev s_read_hint : Stmt := top 41
abbrev s_hint_of : Stmt := top 44
abbrev s_text_key : Stmt := top 45
abbrev s_all_hints : Stmt := top 46
abbrev s_hints_for : Stmt := top 47
abbrev s_shortest_hint : Stmt := top 48
abbrev s_Diary___init__ : Stmt := mth (top 50) 1
abbrev s_Diary_set_now : Stmt := mth (top 50) 2
abbrev s_Diary_note : Stmt := mth (top 50) 3
abbrev s_Diary_wait : Stmt := mth (top 50) 4
abbrev s_Diary_undo : Stmt := mth (top 50) 5
abbrev s_Diary_today : Stmt := mth (top 50) 6
abbrev s_Diary_days : Stmt := mth (top 50) 7
abbrev s_Diary_lines : Stmt := mth (top 50) 8
abbrev s_Diary___len__ : Stmt := mth (top 50) 9
abbrev s_Diary___contains__ : Stmt := mth (top 50) 10
abbrev s_Diary___eq__ : Stmt := mth (top 50) 11
abbrev s__law_draw : Stmt := top 52
abbrev s__law_whole : Stmt := top 53
abbrev s__law_within : Stmt := top 54
abbrev s__law_like : Stmt := top 55
abbrev s__law_number : Stmt := top 56
abbrev s__law_day : Stmt := top 57
abbrev s__law_leap : Stmt := top 58
abbrev s__law_length : Stmt := top 59
abbrev s__law_parts : Stmt := top 60
abbrev s__law_in : Stmt := top 61
abbrev s__law_next : Stmt := top 62
abbrev s__law_last : Stmt := top 63
abbrev s__law_meant : Stmt := top 64
abbrev s__law_kind : Stmt := top 65
abbrev s__law_hint_of : Stmt := top 66
abbrev s__law_hint : Stmt := top 67
abbrev s__law_rule : Stmt := top 68
abbrev s__law_text : Stmt := top 69
abbrev s__law_size : Stmt := top 70
abbrev s__law_every : Stmt := top 71
abbrev s__law_error : Stmt := top 72
abbrev s__law_done : Stmt := top 73
abbrev s__law_due : Stmt := top 74
abbrev s__law_seen : Stmt := top 75
abbrev s__law_tried : Stmt := top 76
abbrev s_law : Stmt := top 77
/-! ### the head -/
def d_is_integer : He5.DefA := ⟨fun K => He.fAd K ("is_integer", none), "is_integer", "is_integer", defArgs s_is_integer, defBody s_is_integer, defScope s_is_integer, [], []⟩
def d_is_leap : He5.DefA := ⟨fun K => He.fAd K ("is_leap", none), "is_leap", "is_leap", defArgs s_is_leap, defBody s_is_leap, defScope s_is_leap, [], []⟩
def d_month_length : He5.DefA := ⟨fun K => He.fAd K ("month_length", none), "month_length", "month_length", defArgs s_month_length, defBody s_month_length, defScope s_month_length, [], []⟩
def d_is_day : He5.DefA := ⟨fun K => He.fAd K ("is_day", none), "is_day", "is_day", defArgs s_is_day, defBody s_is_day, defScope s_is_day, [], []⟩
def d_before_year : He5.DefA := ⟨fun K => He.fAd K ("before_year", none), "before_year", "before_year", defArgs s_before_year, defBody s_before_year, defScope s_before_year, [], []⟩
def d_month_start : He5.DefA := ⟨fun K => He.fAd K ("month_start", none), "month_start", "month_start", defArgs s_month_start, defBody s_month_start, defScope s_month_start, [], []⟩
def d_number_of : He5.DefA := ⟨fun K => He.fAd K ("number_of", none), "number_of", "number_of", defArgs s_number_of, defBody s_number_of, defScope s_number_of, [], []⟩
def d_day_at : He5.DefA := ⟨fun K => He.fAd K ("day_at", none), "day_at", "day_at", defArgs s_day_at, defBody s_day_at, defScope s_day_at, [], []⟩
def d_weekday_of : He5.DefA := ⟨fun K => He.fAd K ("weekday_of", none), "weekday_of", "weekday_of", defArgs s_weekday_of, defBody s_weekday_of, defScope s_weekday_of, [], []⟩
def d_is_hint : He5.DefA := ⟨fun K => He.fAd K ("is_hint", none), "is_hint", "is_hint", defArgs s_is_hint, defBody s_is_hint, defScope s_is_hint, [], []⟩
def d_is_rule : He5.DefA := ⟨fun K => He.fAd K ("is_rule", none), "is_rule", "is_rule", defArgs s_is_rule, defBody s_is_rule, defScope s_is_rule, [], []⟩
def d_in_month : He5.DefA := ⟨fun K => He.fAd K ("in_month", none), "in_month", "in_month", defArgs s_in_month, defBody s_in_month, defScope s_in_month, [], []⟩
def d_month_after : He5.DefA := ⟨fun K => He.fAd K ("month_after", none), "month_after", "month_after", defArgs s_month_after, defBody s_month_after, defScope s_month_after, [], []⟩
def d_next_fit : He5.DefA := ⟨fun K => He.fAd K ("next_fit", none), "next_fit", "next_fit", defArgs s_next_fit, defBody s_next_fit, defScope s_next_fit, [], []⟩
def d_last_fit : He5.DefA := ⟨fun K => He.fAd K ("last_fit", none), "last_fit", "last_fit", defArgs s_last_fit, defBody s_last_fit, defScope s_last_fit, [], []⟩
def d_read : He5.DefA := ⟨fun K => He.fAd K ("read", none), "read", "read", defArgs s_read, defBody s_read, defScope s_read, [], []⟩
def d_as_day : He5.DefA := ⟨fun K => He.fAd K ("as_day", none), "as_day", "as_day", defArgs s_as_day, defBody s_as_day, defScope s_as_day, [], []⟩
def d_meant : He5.DefA := ⟨fun K => He.fAd K ("meant", none), "meant", "meant", defArgs s_meant, defBody s_meant, defScope s_meant, [], []⟩
def d_hint_text : He5.DefA := ⟨fun K => He.fAd K ("hint_text", none), "hint_text", "hint_text", defArgs s_hint_text, defBody s_hint_text, defScope s_hint_text, [], []⟩
def d_read_number : He5.DefA := ⟨fun K => He.fAd K ("read_number", none), "read_number", "read_number", defArgs s_read_number, defBody s_read_number, defScope s_read_number, [], []⟩
def d_read_word : He5.DefA := ⟨fun K => He.fAd K ("read_word", none), "read_word", "read_word", defArgs s_read_word, defBody s_read_word, defScope s_read_word, [], []⟩
def d_read_hint : He5.DefA := ⟨fun K => He.fAd K ("read_hint", none), "read_hint", "read_hint", defArgs s_read_hint, defBody s_read_hint, defScope s_read_hint, [], []⟩
def d_hint_of : He5.DefA := ⟨fun K => He.fAd K ("hint_of", none), "hint_of", "hint_of", defArgs s_hint_of, defBody s_hint_of, defScope s_hint_of, [], []⟩
def d_text_key : He5.DefA := ⟨fun K => He.fAd K ("text_key", none), "text_key", "text_key", defArgs s_text_key, defBody s_text_key, defScope s_text_key, [], []⟩
def d_all_hints : He5.DefA := ⟨fun K => He.fAd K ("all_hints", none), "all_hints", "all_hints", defArgs s_all_hints, defBody s_all_hints, defScope s_all_hints, [], []⟩
def d_hints_for : He5.DefA := ⟨fun K => He.fAd K ("hints_for", none), "hints_for", "hints_for", defArgs s_hints_for, defBody s_hints_for, defScope s_hints_for, [], []⟩
def d_shortest_hint : He5.DefA := ⟨fun K => He.fAd K ("shortest_hint", none), "shortest_hint", "shortest_hint", defArgs s_shortest_hint, defBody s_shortest_hint, defScope s_shortest_hint, [], []⟩
def d_Diary___init__ : He5.DefA := ⟨fun K => (He.ma K (He.ga K "Diary") "__init__"), "__init__", "Diary.__init__", defArgs s_Diary___init__, defBody s_Diary___init__, defScope s_Diary___init__, [], []⟩
def d_Diary_set_now : He5.DefA := ⟨fun K => (He.ma K (He.ga K "Diary") "set_now"), "set_now", "Diary.set_now", defArgs s_Diary_set_now, defBody s_Diary_set_now, defScope s_Diary_set_now, [], []⟩
def d_Diary_note : He5.DefA := ⟨fun K => (He.ma K (He.ga K "Diary") "note"), "note", "Diary.note", defArgs s_Diary_note, defBody s_Diary_note, defScope s_Diary_note, [], []⟩
def d_Diary_wait : He5.DefA := ⟨fun K => (He.ma K (He.ga K "Diary") "wait"), "wait", "Diary.wait", defArgs s_Diary_wait, defBody s_Diary_wait, defScope s_Diary_wait, [], []⟩
def d_Diary_undo : He5.DefA := ⟨fun K => (He.ma K (He.ga K "Diary") "undo"), "undo", "Diary.undo", defArgs s_Diary_undo, defBody s_Diary_undo, defScope s_Diary_undo, [], []⟩
def d_Diary_today : He5.DefA := ⟨fun K => (He.ma K (He.ga K "Diary") "today"), "today", "Diary.today", defArgs s_Diary_today, defBody s_Diary_today, defScope s_Diary_today, [], []⟩
def d_Diary_days : He5.DefA := ⟨fun K => (He.ma K (He.ga K "Diary") "days"), "days", "Diary.days", defArgs s_Diary_days, defBody s_Diary_days, defScope s_Diary_days, [], []⟩
def d_Diary_lines : He5.DefA := ⟨fun K => (He.ma K (He.ga K "Diary") "lines"), "lines", "Diary.lines", defArgs s_Diary_lines, defBody s_Diary_lines, defScope s_Diary_lines, [], []⟩
def d_Diary___len__ : He5.DefA := ⟨fun K => (He.ma K (He.ga K "Diary") "__len__"), "__len__", "Diary.__len__", defArgs s_Diary___len__, defBody s_Diary___len__, defScope s_Diary___len__, [], []⟩
def d_Diary___contains__ : He5.DefA := ⟨fun K => (He.ma K (He.ga K "Diary") "__contains__"), "__contains__", "Diary.__contains__", defArgs s_Diary___contains__, defBody s_Diary___contains__, defScope s_Diary___contains__, [], []⟩
def d_Diary___eq__ : He5.DefA := ⟨fun K => (He.ma K (He.ga K "Diary") "__eq__"), "__eq__", "Diary.__eq__", defArgs s_Diary___eq__, defBody s_Diary___eq__, defScope s_Diary___eq__, [], []⟩
def d__law_draw : He5.DefA := ⟨fun K => He.fAd K ("_law_draw", none), "_law_draw", "_law_draw", defArgs s__law_draw, defBody s__law_draw, defScope s__law_draw, [], []⟩
def d__law_whole : He5.DefA := ⟨fun K => He.fAd K ("_law_whole", none), "_law_whole", "_law_whole", defArgs s__law_whole, defBody s__law_whole, defScope s__law_whole, [], []⟩
def d__law_within : He5.DefA := ⟨fun K => He.fAd K ("_law_within", none), "_law_within", "_law_within", defArgs s__law_within, defBody s__law_within, defScope s__law_within, [], []⟩
def d__law_like : He5.DefA := ⟨fun K => He.fAd K ("_law_like", none), "_law_like", "_law_like", defArgs s__law_like, defBody s__law_like, defScope s__law_like, [], []⟩
def d__law_number : He5.DefA := ⟨fun K => He.fAd K ("_law_number", none), "_law_number", "_law_number", defArgs s__law_number, defBody s__law_number, defScope s__law_number, [], []⟩
def d__law_day : He5.DefA := ⟨fun K => He.fAd K ("_law_day", none), "_law_day", "_law_day", defArgs s__law_day, defBody s__law_day, defScope s__law_day, [], []⟩
def d__law_leap : He5.DefA := ⟨fun K => He.fAd K ("_law_leap", none), "_law_leap", "_law_leap", defArgs s__law_leap, defBody s__law_leap, defScope s__law_leap, [], []⟩
def d__law_length : He5.DefA := ⟨fun K => He.fAd K ("_law_length", none), "_law_length", "_law_length", defArgs s__law_length, defBody s__law_length, defScope s__law_length, [], []⟩
def d__law_parts : He5.DefA := ⟨fun K => He.fAd K ("_law_parts", none), "_law_parts", "_law_parts", defArgs s__law_parts, defBody s__law_parts, defScope s__law_parts, [], []⟩
def d__law_in : He5.DefA := ⟨fun K => He.fAd K ("_law_in", none), "_law_in", "_law_in", defArgs s__law_in, defBody s__law_in, defScope s__law_in, [], []⟩
def d__law_next : He5.DefA := ⟨fun K => He.fAd K ("_law_next", none), "_law_next", "_law_next", defArgs s__law_next, defBody s__law_next, defScope s__law_next, [], []⟩
def d__law_last : He5.DefA := ⟨fun K => He.fAd K ("_law_last", none), "_law_last", "_law_last", defArgs s__law_last, defBody s__law_last, defScope s__law_last, [], []⟩
def d__law_meant : He5.DefA := ⟨fun K => He.fAd K ("_law_meant", none), "_law_meant", "_law_meant", defArgs s__law_meant, defBody s__law_meant, defScope s__law_meant, [], []⟩
def d__law_kind : He5.DefA := ⟨fun K => He.fAd K ("_law_kind", none), "_law_kind", "_law_kind", defArgs s__law_kind, defBody s__law_kind, defScope s__law_kind, [], []⟩
def d__law_hint_of : He5.DefA := ⟨fun K => He.fAd K ("_law_hint_of", none), "_law_hint_of", "_law_hint_of", defArgs s__law_hint_of, defBody s__law_hint_of, defScope s__law_hint_of, [], []⟩
def d__law_hint : He5.DefA := ⟨fun K => He.fAd K ("_law_hint", none), "_law_hint", "_law_hint", defArgs s__law_hint, defBody s__law_hint, defScope s__law_hint, [], []⟩
def d__law_rule : He5.DefA := ⟨fun K => He.fAd K ("_law_rule", none), "_law_rule", "_law_rule", defArgs s__law_rule, defBody s__law_rule, defScope s__law_rule, [], []⟩
def d__law_text : He5.DefA := ⟨fun K => He.fAd K ("_law_text", none), "_law_text", "_law_text", defArgs s__law_text, defBody s__law_text, defScope s__law_text, [], []⟩
def d__law_size : He5.DefA := ⟨fun K => He.fAd K ("_law_size", none), "_law_size", "_law_size", defArgs s__law_size, defBody s__law_size, defScope s__law_size, [], []⟩
def d__law_every : He5.DefA := ⟨fun K => He.fAd K ("_law_every", none), "_law_every", "_law_every", defArgs s__law_every, defBody s__law_every, defScope s__law_every, [], []⟩
def d__law_error : He5.DefA := ⟨fun K => He.fAd K ("_law_error", none), "_law_error", "_law_error", defArgs s__law_error, defBody s__law_error, defScope s__law_error, [], []⟩
def d__law_done : He5.DefA := ⟨fun K => He.fAd K ("_law_done", none), "_law_done", "_law_done", defArgs s__law_done, defBody s__law_done, defScope s__law_done, [], []⟩
def d__law_due : He5.DefA := ⟨fun K => He.fAd K ("_law_due", none), "_law_due", "_law_due", defArgs s__law_due, defBody s__law_due, defScope s__law_due, [], []⟩
def d__law_seen : He5.DefA := ⟨fun K => He.fAd K ("_law_seen", none), "_law_seen", "_law_seen", defArgs s__law_seen, defBody s__law_seen, defScope s__law_seen, [], []⟩
def d__law_tried : He5.DefA := ⟨fun K => He.fAd K ("_law_tried", none), "_law_tried", "_law_tried", defArgs s__law_tried, defBody s__law_tried, defScope s__law_tried, [], []⟩
def d_law : He5.DefA := ⟨fun K => He.fAd K ("law", none), "law", "law", defArgs s_law, defBody s_law, defScope s_law, [], []⟩
def fn : List He5.DefA := [d_is_integer, d_is_leap, d_month_length, d_is_day, d_before_year, d_month_start, d_number_of, d_day_at, d_weekday_of, d_is_hint, d_is_rule, d_in_month, d_month_after, d_next_fit, d_last_fit, d_read, d_as_day, d_meant, d_hint_text, d_read_number, d_read_word, d_read_hint, d_hint_of, d_text_key, d_all_hints, d_hints_for, d_shortest_hint, d_Diary___init__, d_Diary_set_now, d_Diary_note, d_Diary_wait, d_Diary_undo, d_Diary_today, d_Diary_days, d_Diary_lines, d_Diary___len__, d_Diary___contains__, d_Diary___eq__, d__law_draw, d__law_whole, d__law_within, d__law_like, d__law_number, d__law_day, d__law_leap, d__law_length, d__law_parts, d__law_in, d__law_next, d__law_last, d__law_meant, d__law_kind, d__law_hint_of, d__law_hint, d__law_rule, d__law_text, d__law_size, d__law_every, d__law_error, d__law_done, d__law_due, d__law_seen, d__law_tried, d_law]
def fa : List He.Fa := [.glo "is_integer", .glo "is_leap", .glo "month_length", .glo "is_day", .glo "before_year", .glo "month_start", .glo "number_of", .glo "day_at", .glo "weekday_of", .glo "is_hint", .glo "is_rule", .glo "in_month", .glo "month_after", .glo "next_fit", .glo "last_fit", .glo "read", .glo "as_day", .glo "meant", .glo "hint_text", .glo "read_number", .glo "read_word", .glo "read_hint", .glo "hint_of", .glo "text_key", .glo "all_hints", .glo "hints_for", .glo "shortest_hint", .glo "_law_draw", .glo "_law_whole", .glo "_law_within", .glo "_law_like", .glo "_law_number", .glo "_law_day", .glo "_law_leap", .glo "_law_length", .glo "_law_parts", .glo "_law_in", .glo "_law_next", .glo "_law_last", .glo "_law_meant", .glo "_law_kind", .glo "_law_hint_of", .glo "_law_hint", .glo "_law_rule", .glo "_law_text", .glo "_law_size", .glo "_law_every", .glo "_law_error", .glo "_law_done", .glo "_law_due", .glo "_law_seen", .glo "_law_tried", .glo "law", .free "isinstance", .free "int", .free "bool", .free "tuple", .free "len", .free "sum", .free "zip", .free "all", .free "str", .free "range", .free "sorted", .free "set", .free "list"]
def ex (K : Fg) : Bool := gB K "LENGTHS" (.tuple (Cal.LEN.map PyData.int)) && gB K "FIRST_YEAR" (.int 1000) && gB K "LAST_YEAR" (.int 9000) && gB K "ROUND" (.int 146097) && gB K "RULES" (.tuple [.str "closest", .str "last", .str "next"]) && gB K "MONTHS_OF_ROUND" (.int 4800) && gB K "WEEKDAYS" wdD && gB K "MONTHS" moD && nB K "WEEKDAYS" && nB K "MONTHS" && gB K "KINDS" kindsD && clB K "Diary" ["rule", "now", "earlier"] [] ["set_now", "note", "wait", "undo", "today", "days", "lines", "__len__", "__contains__", "__eq__"] [] [("FARTHEST", .int 400)] && xcB K "InvalidDay" && xcB K "InvalidRule" && xcB K "InvalidHint" && xcB K "NotThere" && clL K "Diary" [("FARTHEST", .int 400)] && xcB K "InvalidNumber" && xcB K "NothingToUndo" && (He.Fa.glo "InvalidDay").ok K && (He.Fa.glo "InvalidHint").ok K && (He.Fa.glo "InvalidRule").ok K && (He.Fa.glo "InvalidNumber").ok K && (He.Fa.glo "NotThere").ok K && (He.Fa.glo "NothingToUndo").ok K && (He.Fa.glo "DateError").ok K && (He.Fa.exm "InvalidHint" "DateError" true).ok K && (He.Fa.exm "NotThere" "DateError" true).ok K && (He.Fa.exm "InvalidNumber" "DateError" true).ok K && (He.Fa.exm "NothingToUndo" "DateError" true).ok K && xiB K "InvalidHint" [("InvalidDay", false), ("InvalidHint", true), ("InvalidRule", false), ("InvalidNumber", false), ("NotThere", false), ("NothingToUndo", false)] && xiB K "NotThere" [("InvalidDay", false), ("InvalidHint", false), ("InvalidRule", false), ("InvalidNumber", false), ("NotThere", true), ("NothingToUndo", false)] && xiB K "InvalidNumber" [("InvalidDay", false), ("InvalidHint", false), ("InvalidRule", false), ("InvalidNumber", true), ("NotThere", false), ("NothingToUndo", false)] && xiB K "NothingToUndo" [("InvalidDay", false), ("InvalidHint", false), ("InvalidRule", false), ("InvalidNumber", false), ("NotThere", false), ("NothingToUndo", true)] && (He.Fa.exm "InvalidDay" "DateError" true).ok K && (He.Fa.exm "InvalidRule" "DateError" true).ok K && xiB K "InvalidDay" [("InvalidDay", true), ("InvalidHint", false), ("InvalidRule", false), ("InvalidNumber", false), ("NotThere", false), ("NothingToUndo", false)] && xiB K "InvalidRule" [("InvalidDay", false), ("InvalidHint", false), ("InvalidRule", true), ("InvalidNumber", false), ("NotThere", false), ("NothingToUndo", false)]
abbrev Rw : PySem.W.OpenRow := PySem.W.OpenLaw.row PySem.Challenge.rw_spandates_k31_whole_diaries_call_by_call
abbrev hookR : PySem.W.Hook := hookZ 6 fa fn ex
def ob (s : PySem.W.SharedT) : AlY := obsZG 6 fa fn ex (HandSHeadRun.getT s)
theorem ob_eq (s : PySem.W.SharedT) : ob s = hookR.obs s.abs := obsZG_eq (HandSHeadRun.getT_eq s)
def loose : List PySem.Str := (["LENGTHS", "ROUND", "FIRST_YEAR", "LAST_YEAR", "RULES", "MONTHS_OF_ROUND", "WEEKDAYS", "MONTHS", "KINDS", "is_integer", "is_leap", "month_length", "is_day", "before_year", "month_start", "number_of", "day_at", "weekday_of", "is_hint", "is_rule", "in_month", "month_after", "next_fit", "last_fit", "read", "as_day", "meant", "hint_text", "read_number", "read_word"] : List PySem.Str) ++ (["read_hint", "hint_of", "text_key", "all_hints", "hints_for", "shortest_hint", "_law_draw", "_law_whole", "_law_within", "_law_like", "_law_number", "_law_day", "_law_leap", "_law_length", "_law_parts", "_law_in", "_law_next", "_law_last", "_law_meant", "_law_kind", "_law_hint_of", "_law_hint", "_law_rule", "_law_text", "_law_size", "_law_every", "_law_error", "_law_done", "_law_due", "_law_seen"] : List PySem.Str) ++ (["_law_tried", "DateError", "InvalidDay", "InvalidHint", "InvalidRule", "InvalidNumber", "NotThere", "NothingToUndo", "Diary"] : List PySem.Str)
theorem run (w : World) : HandSHeadRun.RunEq Rw (PySem.W.view Rw.prog [77]) hookR ob 20000 loose w := by
  intro os
  kernel_rfl
section
variable {P : Program} {w : World} {K : Fg} {mg : Str → Option Value} {base : Heap} {f : Addr} {fd : FuncData}
def R_is_integer : List D → (D → Prop) → Prop := fun ds Φ => ∃ x lo hi, ds = [x, .int lo, .int hi] ∧ Φ (.bool (intIn x lo hi))
theorem sc_is_integer : FnScope ["value", "low", "high"] ["value", "low", "high"] (defScope s_is_integer) := ⟨rfl, rfl, rfl, by decide +kernel, rfl, by decide +kernel, by decide +kernel⟩
theorem ok_is_integer (F : FnP K "is_integer" s_is_integer f fd) (m_isinstance : mg "isinstance" = none) (m_int : mg "int" = none) (m_bool : mg "bool" = none) : FnOk P w K mg base CX0 1 f fd ["value", "low", "high"] (spF K R_is_integer) := by
  refine fnF F sc_is_integer (fun ds Φ h => by obtain ⟨_, _, _, rfl, _⟩ := h; rfl) (fun cdv A outer s H E hr ds Φ h => ?_)
  obtain ⟨x, lo, hi, rfl, hΦ⟩ := h
  have nd := sc_is_integer.nd
  cases x with
  | int i => exact sds_retD (ed_and (ed_isi (ed_var 0) m_isinstance m_int boot_int) (fun _ => (ed_and (ed_not (ed_isi (ed_var 0) m_isinstance m_bool boot_bool)) (fun _ => (ed_one (tr_chain (ed_var 1) (ed_var 0) (ed_var 2) o_le o_le).1))))) (by simpa [isDs, tyD, intIn] using hΦ)
  | bool b => exact sds_retD (ed_and (ed_isi (ed_var 0) m_isinstance m_int boot_int) (fun _ => (ed_and (l := false) (ed_not (ed_isi (ed_var 0) m_isinstance m_bool boot_bool)) (fun z => absurd z (by simp [isDs, tyD]))))) (by simpa [isDs, tyD, intIn] using hΦ)
  | none => exact sds_retD (ed_and (l := false) (ed_isi (ed_var 0) m_isinstance m_int boot_int) (fun z => absurd z (by simp [isDs, tyD]))) (by simpa [isDs, tyD, intIn] using hΦ)
  | str y => exact sds_retD (ed_and (l := false) (ed_isi (ed_var 0) m_isinstance m_int boot_int) (fun z => absurd z (by simp [isDs, tyD]))) (by simpa [isDs, tyD, intIn] using hΦ)
  | list y => exact sds_retD (ed_and (l := false) (ed_isi (ed_var 0) m_isinstance m_int boot_int) (fun z => absurd z (by simp [isDs, tyD]))) (by simpa [isDs, tyD, intIn] using hΦ)
  | tuple y => exact sds_retD (ed_and (l := false) (ed_isi (ed_var 0) m_isinstance m_int boot_int) (fun z => absurd z (by simp [isDs, tyD]))) (by simpa [isDs, tyD, intIn] using hΦ)
  | dict y => exact sds_retD (ed_and (l := false) (ed_isi (ed_var 0) m_isinstance m_int boot_int) (fun z => absurd z (by simp [isDs, tyD]))) (by simpa [isDs, tyD, intIn] using hΦ)
def R_is_leap : List D → (D → Prop) → Prop := fun ds Φ => ∃ y : Int, ds = [.int y] ∧ Φ (.bool (Cal.leap y))
theorem sc_is_leap : FnScope ["year"] ["year"] (defScope s_is_leap) := ⟨rfl, rfl, rfl, by decide +kernel, rfl, by decide +kernel, by decide +kernel⟩
theorem ok_is_leap (F : FnP K "is_leap" s_is_leap f fd) : FnOk P w K mg base CX0 1 f fd ["year"] (spF K R_is_leap) := by
  refine fnF F sc_is_leap (fun ds Φ h => by obtain ⟨y, rfl, _⟩ := h; rfl) (fun cdv A outer s H E hr ds Φ h => ?_)
  obtain ⟨y, rfl, hΦ⟩ := h
  have nd := sc_is_leap.nd
  exact sds_retD (ed_and (ed_cmp (ed_bin (ed_var 0) ed_int (o_mod (by decide))) ed_int o_eq) (fun h1 => ed_one (ed_or (ed_cmp (ed_bin (ed_var 0) ed_int (o_mod (by decide))) ed_int o_ne) (fun h2 => ed_one (ed_cmp (ed_bin (ed_var 0) ed_int (o_mod (by decide))) ed_int o_eq))))) hΦ
def R_month_length : List D → (D → Prop) → Prop := fun ds Φ => ∃ y m : Int, ds = [.int y, .int m] ∧ 1 ≤ m ∧ m ≤ 12 ∧ Φ (.int (Cal.mlen y m))
theorem sc_month_length : FnScope ["year", "month"] ["year", "month"] (defScope s_month_length) := ⟨rfl, rfl, rfl, by decide +kernel, rfl, by decide +kernel, by decide +kernel⟩
theorem ok_month_length (F : FnP K "month_length" s_month_length f fd) (c_is_leap : Kn P w K mg base 1 "is_leap" (spF K R_is_leap)) (g_LENGTHS : Gc K mg "LENGTHS" (.tuple (Cal.LEN.map PyData.int))) : FnOk P w K mg base CX0 2 f fd ["year", "month"] (spF K R_month_length) := by
  refine fnF F sc_month_length (fun ds Φ h => by obtain ⟨_, _, rfl, _⟩ := h; rfl) (fun cdv A outer s H E hr ds Φ h => ?_)
  obtain ⟨y, m, rfl, m1, m2, hΦ⟩ := h
  have nd := sc_month_length.nd
  have hix : L2.atI (Cal.LEN.map PyData.int) (m - 1) = some (.int (Cal.LEN.getD (m - 1).toNat 0)) := by
    rcases Cal.m12 m1 m2 with rfl | rfl | rfl | rfl | rfl | rfl | rfl | rfl | rfl | rfl | rfl | rfl <;> rfl
  refine sds_retD (ed_ifG (z := .int (Cal.mlen y m)) (WD.td (wd_and (td_cmp (ed_var 1) ed_int o_eq) (fun h1 => (wd_and1 (td_val (ed_call c_is_leap hr (ad_cons (ed_var 0) ar_nil) ⟨_, rfl, rfl⟩)))))) (fun h2 => ed_int) (fun h3 => (ed_ix (ed_gc g_LENGTHS) (ed_bin (ed_var 1) ed_int o_sub) (i_tup hix))) ?_) hΦ
  unfold Cal.mlen
  rcases Cal.m12 m1 m2 with rfl | rfl | rfl | rfl | rfl | rfl | rfl | rfl | rfl | rfl | rfl | rfl <;> simp [Cal.LEN]
  cases Cal.leap y <;> rfl
def dInt : D → Int
  | .int i => i
  | _ => 0
def isDayB (x : D) : Bool := match x with
  | .tuple [a, b, c] => intIn a 1000 9000 && (intIn b 1 12 && intIn c 1 (Cal.mlen (dInt a) (dInt b)))
  | _ => false
theorem intIn_is {x : D} {lo hi : Int} (h : intIn x lo hi = true) : ∃ i : Int, x = .int i ∧ lo ≤ i ∧ i ≤ hi := by
  cases x with
  | int i => simp only [intIn, Bool.and_eq_true, decide_eq_true_eq] at h; exact ⟨i, rfl, h.1, h.2⟩
  | _ => cases h
theorem isDay_no {x : D} (h : isD x "tuple" = false) : isDayB x = false := by
  cases x <;> first | rfl | (exact absurd h (by simp [isDs, tyD]))
theorem isDay_len {xs : List D} (h : xs.length ≠ 3) : isDayB (.tuple xs) = false := by
  match xs, h with
  | [], _ => rfl
  | [_], _ => rfl
  | [_, _], _ => rfl
  | [_, _, _], h => exact absurd rfl h
  | _ :: _ :: _ :: _ :: _, _ => rfl
theorem tup3 {xs : List D} (h : xs.length = 3) : ∃ a b c, xs = [a, b, c] := match xs, h with
  | [a, b, c], _ => ⟨a, b, c, rfl⟩
def R_is_day : List D → (D → Prop) → Prop := fun ds Φ => ∃ x, ds = [x] ∧ Φ (.bool (isDayB x))
theorem sc_is_day : FnScope ["value", "year", "month", "day"] ["value"] (defScope s_is_day) := ⟨rfl, rfl, rfl, by decide +kernel, rfl, by decide +kernel, by decide +kernel⟩
theorem ok_is_day (F : FnP K "is_day" s_is_day f fd) (c_is_integer : Kn P w K mg base 1 "is_integer" (spF K R_is_integer)) (c_month_length : Kn P w K mg base 2 "month_length" (spF K R_month_length)) (m_isinstance : mg "isinstance" = none) (m_tuple : mg "tuple" = none) (m_len : mg "len" = none) (g_FIRST_YEAR : Gc K mg "FIRST_YEAR" (.int 1000)) (g_LAST_YEAR : Gc K mg "LAST_YEAR" (.int 9000)) : FnOk P w K mg base CX0 3 f fd ["value"] (spF K R_is_day) := by
  refine fnF F sc_is_day (fun ds Φ h => by obtain ⟨_, rfl, _⟩ := h; rfl) (fun cdv A outer s H E hr ds Φ h => ?_)
  obtain ⟨x, rfl, hΦ⟩ := h
  have nd := sc_is_day.nd
  by_cases ht : isD x "tuple" = true
  · obtain ⟨xs, rfl⟩ : ∃ xs, x = .tuple xs := by
      cases x <;> first | exact ⟨_, rfl⟩ | (exact absurd ht (by simp [isDs, tyD]))
    refine sds_if1 (WD.td (wd_or (td_not (td_val (ed_isi (ed_var 0) m_isinstance m_tuple boot_tuple))) (fun h1 => (wd_or1 (td_cmp (ed_callB (ad_cons (ed_var 0) ar_nil) m_len boot_len c_lenT) ed_int o_ne))))) (fun hc => ?_) (fun hc => ?_)
    · have hc : xs.length ≠ 3 := by
        simp [isDs, tyD] at hc; omega
      exact sds_retD ed_bl (by rw [isDay_len hc] at hΦ; exact hΦ)
    · have hc : xs.length = 3 := by
        simp [isDs, tyD] at hc; omega
      obtain ⟨a, b, c, rfl⟩ := tup3 hc
      have hΦ : Φ (.bool (intIn a 1000 9000 && (intIn b 1 12 && intIn c 1 (Cal.mlen (dInt a) (dInt b))))) := hΦ
      refine sds_unpack (ed_var 0) (gr_tup rfl (grs_cons (gr_name 1) (grs_cons (gr_name 2) (grs_cons (gr_name 3) grs_nil))) rfl) ?_
      refine sds_if1 (WD.td (wd_or (td_not (td_val (ed_call c_is_integer hr (ad_cons (ed_var 1) (ad_cons (ed_gc g_FIRST_YEAR) (ad_cons (ed_gc g_LAST_YEAR) ar_nil))) ⟨_, _, _, rfl, rfl⟩))) (fun h2 => (wd_or1 (td_not (td_val (ed_call c_is_integer hr (ad_cons (ed_var 2) (ad_cons ed_int (ad_cons ed_int ar_nil))) ⟨_, _, _, rfl, rfl⟩))))))) (fun hc => ?_) (fun hc => ?_)
      · refine sds_retD ed_bl ?_
        have : (intIn a 1000 9000 && (intIn b 1 12 && intIn c 1 (Cal.mlen (dInt a) (dInt b)))) = false := by
          cases p : intIn a 1000 9000 <;> cases q : intIn b 1 12 <;> simp [p, q] at hc ⊢
        rw [this] at hΦ; exact hΦ
      · have p : intIn a 1000 9000 = true := by
          cases p : intIn a 1000 9000 <;> simp [p] at hc ⊢
        have q : intIn b 1 12 = true := by
          cases q : intIn b 1 12 <;> simp [q] at hc ⊢
        rw [p, q] at hΦ
        obtain ⟨y, rfl, y0, y1⟩ := intIn_is p
        obtain ⟨m, rfl, m0, m1⟩ := intIn_is q
        exact sds_retD (ed_call c_is_integer hr (ad_cons (ed_var 3) (ad_cons ed_int (ad_cons (ed_call c_month_length hr (ad_cons (ed_var 1) (ad_cons (ed_var 2) ar_nil)) ⟨_, _, rfl, m0, m1, rfl⟩) ar_nil))) ⟨_, _, _, rfl, rfl⟩) hΦ
  · have ht : isD x "tuple" = false := by simpa using ht
    rw [isDay_no ht] at hΦ
    exact sds_if1 (k := true) (TD.is (WD.td (wd_or (l := true) (td_not (td_val (ed_isi (ed_var 0) m_isinstance m_tuple boot_tuple))) (fun h2 => by rw [ht] at h2; cases h2))) (by rw [ht]; rfl)) (fun _ => sds_retD ed_bl hΦ) (fun z => nomatch z)
def R_before_year : List D → (D → Prop) → Prop := fun ds Φ => ∃ y : Int, ds = [.int y] ∧ Φ (.int (Cal.befY y))
theorem sc_before_year : FnScope ["year", "last"] ["year"] (defScope s_before_year) := ⟨rfl, rfl, rfl, by decide +kernel, rfl, by decide +kernel, by decide +kernel⟩
theorem ok_before_year (F : FnP K "before_year" s_before_year f fd) : FnOk P w K mg base CX0 1 f fd ["year"] (spF K R_before_year) := by
  refine fnF F sc_before_year (fun ds Φ h => by obtain ⟨y, rfl, _⟩ := h; rfl) (fun cdv A outer s H E hr ds Φ h => ?_)
  obtain ⟨y, rfl, hΦ⟩ := h
  have nd := sc_before_year.nd
  refine sds_setI 1 (ed_bin (ed_var 0) ed_int o_sub) (fun last h1 => ?_) nd
  refine sds_retD (ed_bin (ed_bin (ed_bin (ed_bin ed_int (ed_var 1) (o_mul (.inl (by decide)))) (ed_bin (ed_var 1) ed_int (o_div ⟨by decide, by decide⟩)) o_add) (ed_bin (ed_var 1) ed_int (o_div ⟨by decide, by decide⟩)) o_sub) (ed_bin (ed_var 1) ed_int (o_div ⟨by decide, by decide⟩)) o_add) ?_
  subst h1
  exact hΦ
def R_month_start : List D → (D → Prop) → Prop := fun ds Φ => ∃ y m : Int, ds = [.int y, .int m] ∧ 1 ≤ m ∧ m ≤ 12 ∧ Φ (.int (Cal.mst y m))
theorem sc_month_start : FnScope ["year", "month", "extra"] ["year", "month"] (defScope s_month_start) := ⟨rfl, rfl, rfl, by decide +kernel, rfl, by decide +kernel, by decide +kernel⟩
theorem ok_month_start (F : FnP K "month_start" s_month_start f fd) (c_is_leap : Kn P w K mg base 1 "is_leap" (spF K R_is_leap)) (c_before_year : Kn P w K mg base 1 "before_year" (spF K R_before_year)) (m_sum : mg "sum" = none) (g_LENGTHS : Gc K mg "LENGTHS" (.tuple (Cal.LEN.map PyData.int))) : FnOk P w K mg base CX0 2 f fd ["year", "month"] (spF K R_month_start) := by
  refine fnF F sc_month_start (fun ds Φ h => by obtain ⟨y, m, rfl, _⟩ := h; rfl) (fun cdv A outer s H E hr ds Φ h => ?_)
  obtain ⟨y, m, rfl, h1, h2, hΦ⟩ := h
  have nd := sc_month_start.nd
  refine sds_setI 2 (ed_ifG (WD.td (wd_and (td_cmp (ed_var 1) ed_int o_gt) (fun h1 => (wd_and1 (td_val (ed_call c_is_leap hr (ad_cons (ed_var 0) ar_nil) ⟨_, rfl, rfl⟩)))))) (fun h2 => ed_int) (fun h3 => ed_int) ifI) (fun extra h_extra => ?_) nd
  refine sds_retD (ed_bin (ed_bin (ed_bin (ed_call c_before_year hr (ad_cons (ed_var 0) ar_nil) ⟨_, rfl, rfl⟩) (ed_callB (ad_cons ((ed_slice (ed_gc g_LENGTHS) od_none (od_some (ed_bin (ed_var 1) ed_int o_sub)) s_tup).is (by rw [cut_take (by omega)])) ar_nil) m_sum boot_sum (c_sumT rfl)) o_add) (ed_var 2) o_add) ed_int o_add) ?_
  have e : extra = if m > 2 ∧ Cal.leap y = true then 1 else 0 := by
    rw [h_extra]
    by_cases a : m > 2 <;> cases b : Cal.leap y <;> simp [a]
  rw [e]
  exact hΦ
def R_number_of : List D → (D → Prop) → Prop := fun ds Φ => ∃ y m d : Int, ds = [dayD (y, m, d)] ∧ 1 ≤ m ∧ m ≤ 12 ∧ Φ (.int (Cal.num y m d))
theorem sc_number_of : FnScope ["day"] ["day"] (defScope s_number_of) := ⟨rfl, rfl, rfl, by decide +kernel, rfl, by decide +kernel, by decide +kernel⟩
theorem ok_number_of (F : FnP K "number_of" s_number_of f fd) (c_month_start : Kn P w K mg base 2 "month_start" (spF K R_month_start)) : FnOk P w K mg base CX0 3 f fd ["day"] (spF K R_number_of) := by
  refine fnF F sc_number_of (fun ds Φ h => by obtain ⟨y, m, d, rfl, _⟩ := h; rfl) (fun cdv A outer s H E hr ds Φ h => ?_)
  obtain ⟨y, m, d, rfl, h1, h2, hΦ⟩ := h
  have nd := sc_number_of.nd
  refine sds_retD (ed_bin (ed_bin (ed_call c_month_start hr (ad_cons (ed_ix (ed_var 0) ed_int (i_tup rfl)) (ad_cons (ed_ix (ed_var 0) ed_int (i_tup rfl)) ar_nil)) ⟨_, _, rfl, h1, h2, rfl⟩) (ed_ix (ed_var 0) ed_int (i_tup rfl)) o_add) ed_int o_sub) ?_
  exact hΦ
def R_day_at : List D → (D → Prop) → Prop := fun ds Φ => ∃ n : Int, ds = [.int n] ∧ Φ (dayD (Cal.dayOf n))
theorem sc_day_at : FnScope ["number", "rounds", "rest", "year", "month"] ["number"] (defScope s_day_at) := ⟨rfl, rfl, rfl, by decide +kernel, rfl, by decide +kernel, by decide +kernel⟩
theorem ok_day_at (F : FnP K "day_at" s_day_at f fd) (c_before_year : Kn P w K mg base 1 "before_year" (spF K R_before_year)) (c_month_start : Kn P w K mg base 2 "month_start" (spF K R_month_start)) (g_ROUND : Gc K mg "ROUND" (.int 146097)) : FnOk P w K mg base CX0 3 f fd ["number"] (spF K R_day_at) := by
  refine fnF F sc_day_at (fun ds Φ h => by obtain ⟨n, rfl, _⟩ := h; rfl) (fun cdv A outer s H E hr ds Φ h => ?_)
  obtain ⟨n, rfl, hΦ⟩ := h
  have nd := sc_day_at.nd
  refine sds_par 1 2 rfl (exs_cons (ed_bin (ed_bin (ed_var 0) ed_int o_sub) (ed_gc g_ROUND) (o_div ⟨by decide, by decide⟩)).ex (exs_cons (ed_bin (ed_bin (ed_var 0) ed_int o_sub) (ed_gc g_ROUND) (o_mod (by decide))).ex exs_nil)) ?_ nd
  refine sds_setI 3 (ed_bin (ed_bin (ed_bin ed_int (ed_var 1) (o_mul (.inl (by decide)))) (ed_bin (ed_var 2) ed_int (o_div ⟨by decide, by decide⟩)) o_add) ed_int o_add) (fun year h_year => ?_) nd
  let I1 : Nat → List Sl → Prop := fun m e => ∃ y : Int, e = [.dt (.int n), .dt (.int ((n - 1) / 146097)), .dt (.int ((n - 1) % 146097)), .dt (.int y), .un] ∧ Cal.befY y < n ∧ m = (n - Cal.befY y).toNat
  let J1 : List Sl → Prop := fun e => ∃ y : Int, e = [.dt (.int n), .dt (.int ((n - 1) / 146097)), .dt (.int ((n - 1) % 146097)), .dt (.int y), .un] ∧ Cal.befY y < n ∧ n ≤ Cal.befY (y + 1)
  refine sds_while I1 J1 ⟨_, year, rfl, ?_, rfl⟩ (fun m e hI => ?_) (fun e hJ => ?_)
  · rw [h_year]; unfold Cal.befY; omega
  · obtain ⟨y, rfl, h1, h2⟩ := hI
    refine ⟨_, (td_cmp (ed_call c_before_year hr (ad_cons (ed_bin (ed_var 3) ed_int o_add) ar_nil) ⟨_, rfl, rfl⟩) (ed_var 0) o_lt), fun hk => ?_, fun hk => ⟨y, rfl, h1, ?_⟩⟩
    · refine sds_aug 3 rfl ed_int ip_add (sds_nil ?_) nd
      have hk := of_decide_eq_true hk
      have := Cal.befY_succ y
      refine ⟨_, ?_, y + 1, rfl, hk, rfl⟩
      split at this <;> omega
    · have := of_decide_eq_false hk; omega
  obtain ⟨y, rfl, h1, h2⟩ := hJ
  refine sds_setI 4 ed_int (fun month h_month => ?_) nd
  let I2 : Nat → List Sl → Prop := fun k e => ∃ m : Int, e = [.dt (.int n), .dt (.int ((n - 1) / 146097)), .dt (.int ((n - 1) % 146097)), .dt (.int y), .dt (.int m)] ∧ 1 ≤ m ∧ m ≤ 12 ∧ Cal.mst y m ≤ n ∧ k = (12 - m).toNat
  let J2 : List Sl → Prop := fun e => ∃ m : Int, e = [.dt (.int n), .dt (.int ((n - 1) / 146097)), .dt (.int ((n - 1) % 146097)), .dt (.int y), .dt (.int m)] ∧ 1 ≤ m ∧ m ≤ 12 ∧ Cal.mst y m ≤ n ∧ (m < 12 → n < Cal.mst y (m + 1))
  refine sds_while I2 J2 ⟨_, month, rfl, by omega, by omega, ?_, rfl⟩ (fun k e hI => ?_) (fun e hJ => ?_)
  · rw [h_month]; simp [Cal.mst, Cal.cum, Cal.LEN]; omega
  · obtain ⟨m, rfl, a1, a2, a3, a4⟩ := hI
    refine ⟨_, (WD.td (wd_and (td_cmp (ed_var 4) ed_int o_lt) (fun h1 => (wd_and1 (td_cmp (ed_call c_month_start hr (ad_cons (ed_var 3) (ad_cons (ed_bin (ed_var 4) ed_int o_add) ar_nil)) ⟨_, _, rfl, by omega, by have := of_decide_eq_true h1; omega, rfl⟩) (ed_var 0) o_le))))), fun hk => ?_, fun hk => ⟨m, rfl, a1, a2, a3, ?_⟩⟩
    · simp only [Bool.and_eq_true, decide_eq_true_eq] at hk
      refine sds_aug 4 rfl ed_int ip_add (sds_nil ⟨_, ?_, m + 1, rfl, by omega, by omega, hk.2, rfl⟩) nd
      omega
    · intro h
      simp only [Bool.and_eq_false_iff, decide_eq_false_iff_not] at hk
      rcases hk with q | q <;> omega
  obtain ⟨m, rfl, a1, a2, a3, a4⟩ := hJ
  refine sds_retD (ed_tup (ad_cons (ed_var 3) (ad_cons (ed_var 4) (ad_cons (ed_bin (ed_bin (ed_var 0) (ed_call c_month_start hr (ad_cons (ed_var 3) (ad_cons (ed_var 4) ar_nil)) ⟨_, _, rfl, a1, a2, rfl⟩) o_sub) ed_int o_add) ar_nil)))) ?_
  have hd : Cal.dayOf n = (y, m, n - Cal.mst y m + 1) := by
    have e : n = Cal.num y m (n - Cal.mst y m + 1) := by unfold Cal.num; omega
    have := Cal.dayOf_num (y := y) (m := m) (d := n - Cal.mst y m + 1) a1 a2 (by omega) ?_
    · rw [← e] at this; exact this
    · by_cases q : m < 12
      · have := a4 q
        have := Cal.mst_succ (y := y) a1 (by omega : m ≤ 11)
        omega
      · have e12 : m = 12 := by omega
        subst e12
        have := Cal.mst_year y
        have e1 : Cal.mst (y + 1) 1 = Cal.befY (y + 1) + 1 := by simp [Cal.mst, Cal.cum, Cal.LEN]
        omega
  rw [hd] at hΦ
  exact hΦ
def R_weekday_of : List D → (D → Prop) → Prop := fun ds Φ => ∃ n : Int, ds = [.int n] ∧ Φ (.int ((n - 1) % 7))
theorem sc_weekday_of : FnScope ["number"] ["number"] (defScope s_weekday_of) := ⟨rfl, rfl, rfl, by decide +kernel, rfl, by decide +kernel, by decide +kernel⟩
theorem ok_weekday_of (F : FnP K "weekday_of" s_weekday_of f fd) : FnOk P w K mg base CX0 1 f fd ["number"] (spF K R_weekday_of) := by
  refine fnF F sc_weekday_of (fun ds Φ h => by obtain ⟨n, rfl, _⟩ := h; rfl) (fun cdv A outer s H E hr ds Φ h => ?_)
  obtain ⟨n, rfl, hΦ⟩ := h
  exact sds_retD (ed_bin (ed_bin (ed_var 0) ed_int o_sub) ed_int (o_mod (by decide))) hΦ
def R_is_hint : List D → (D → Prop) → Prop := fun ds Φ => ∃ (x : D) (n : Nat), ds = [x] ∧ lk n x = true ∧ n ≤ 60 ∧ Φ (.bool (isHintD x))
theorem sc_is_hint : FnScope ["value", "bounds", "part", "low", "high"] ["value"] (defScope s_is_hint) := ⟨rfl, rfl, rfl, by decide +kernel, rfl, by decide +kernel, by decide +kernel⟩
theorem ok_is_hint (F : FnP K "is_hint" s_is_hint f fd) (c_is_integer : Kn P w K mg base 1 "is_integer" (spF K R_is_integer)) (m_isinstance : mg "isinstance" = none) (m_tuple : mg "tuple" = none) (m_len : mg "len" = none) (m_zip : mg "zip" = none) (m_all : mg "all" = none) : FnOk P w K mg base CX0 2 f fd ["value"] (spF K R_is_hint) := by
  refine fnF F sc_is_hint (fun ds Φ h => by obtain ⟨_, _, rfl, _⟩ := h; rfl) (fun cdv A outer s H E hr ds Φ h => ?_)
  obtain ⟨x, n, rfl, lkx, hn, hΦ⟩ := h
  have nd := sc_is_hint.nd
  by_cases ht : isD x "tuple" = true
  · obtain ⟨xs, rfl⟩ : ∃ xs, x = .tuple xs := by
      cases x <;> first | exact ⟨_, rfl⟩ | (exact absurd ht (by simp [isDs, tyD]))
    by_cases h4 : xs.length = 4
    · obtain ⟨a, b, c, e, rfl⟩ : ∃ a b c e, xs = [a, b, c, e] := match xs, h4 with
        | [a, b, c, e], _ => ⟨a, b, c, e, rfl⟩
      refine sds_if1 (WD.td (wd_or (td_not (td_val (ed_isi (ed_var 0) m_isinstance m_tuple boot_tuple))) (fun h2 => (wd_or (td_cmp (ed_callB (ad_cons (ed_var 0) ar_nil) m_len boot_len c_lenT) ed_int o_ne) (fun h1 => (wd_or1 (td_cmp (ed_var 0) (ed_tup (ad_cons ed_non (ad_cons ed_non (ad_cons ed_non (ad_cons ed_non ar_nil))))) (o_eqK (n := n) (m := 1) hr.units lkx rfl (by omega))))))))) (fun hc => ?_) (fun hc => ?_)
      · rw [eqv_non4] at hc
        have hc : (isNone a && (isNone b && (isNone c && isNone e))) = true := by simpa [isDs, tyD] using hc
        refine sds_retD ed_bl ?_
        have : isHintD (.tuple [a, b, c, e]) = false := by simp only [isHintD, hc]; rfl
        rw [this] at hΦ; exact hΦ
      · rw [eqv_non4] at hc
        have hc : (isNone a && (isNone b && (isNone c && isNone e))) = false := by simpa [isDs, tyD] using hc
        refine sds_setD 1 (ed_tup (ad_cons (ed_tup (ad_cons ed_int (ad_cons ed_int ar_nil))) (ad_cons (ed_tup (ad_cons ed_int (ad_cons ed_int ar_nil))) (ad_cons (ed_tup (ad_cons ed_int (ad_cons ed_int ar_nil))) (ad_cons (ed_tup (ad_cons ed_int (ad_cons ed_int ar_nil))) ar_nil))))) ?_ nd
        refine sds_retD (ed_callB (ad_cons (ex_lcA [("part", 2), ("low", 3), ("high", 4)] ([(a, 0, 6), (b, 1, 31), (c, 1, 12), (e, 1, 9999)] : List (D × Int × Int)) (fun p => .tuple [p.1, .tuple [.int p.2.1, .int p.2.2]]) (fun p => .bool (pB p.1 p.2.1 p.2.2)) rfl (IR.is (ir_zipT (ad_cons (ed_var 0) (ad_cons (ed_var 1) ar_nil)) m_zip) rfl) (Nat.le_of_ble_eq_true rfl) (fun d hd => ⟨_, _, by decide, fun _ _ _ _ _ => (gr_tup rfl (grs_cons (gr_name 2) (grs_cons (gr_tup rfl (grs_cons (gr_name 3) (grs_cons (gr_name 4) grs_nil)) rfl) grs_nil)) rfl), fun _ _ _ _ _ => tsd_nil, fun _ _ _ _ _ _ => (ed_or (ed_cmp (ed_var 2) ed_non o_isN) (fun h4 => (ed_one (ed_call c_is_integer hr (ad_cons (ed_var 2) (ad_cons (ed_var 3) (ad_cons (ed_var 4) ar_nil))) ⟨_, _, _, rfl, rfl⟩))))⟩)).ed ar_nil) m_all boot_all (c_allL rfl (ns := [pB a 0 6, pB b 1 31, pB c 1 12, pB e 1 9999]))) ?_
        have : isHintD (.tuple [a, b, c, e]) = (pB a 0 6 && (pB b 1 31 && (pB c 1 12 && pB e 1 9999))) := by simp only [isHintD, hc]; rfl
        rw [this] at hΦ
        simpa using hΦ
    · have hf : isHintD (.tuple xs) = false := by
        unfold isHintD
        split
        · rename_i e; injection e with e; subst e; simp at h4
        · rfl
      rw [hf] at hΦ
      refine sds_if1 (k := true) (TD.is (WD.td (wd_or (td_not (td_val (ed_isi (ed_var 0) m_isinstance m_tuple boot_tuple))) (fun h2 => (wd_or (l := true) (td_cmp (ed_callB (ad_cons (ed_var 0) ar_nil) m_len boot_len c_lenT) ed_int o_ne) (fun h1 => ?_))))) ?_) (fun _ => sds_retD ed_bl hΦ) (fun z => nomatch z)
      · simp at h1; omega
      · simp
  · have hf : isHintD x = false := by
      cases x <;> first | rfl | (exact absurd (by simp [isDs, tyD]) ht)
    rw [hf] at hΦ
    have ht : isD x "tuple" = false := by simpa using ht
    refine sds_if1 (k := true) (TD.is (WD.td (wd_or (l := true) (td_not (td_val (ed_isi (ed_var 0) m_isinstance m_tuple boot_tuple))) (fun h2 => ?_))) (by rw [ht]; rfl)) (fun _ => sds_retD ed_bl hΦ) (fun z => nomatch z)
    rw [ht] at h2; cases h2
def ruleIn (xs : List D) (x : D) : Bool := isD x "str" && xs.any fun y => PyData.eqv y x
def ruleB (x : D) : Bool := ruleIn [.str "closest", .str "last", .str "next"] x
def R_is_rule : List D → (D → Prop) → Prop := fun ds Φ => ∃ x n, ds = [x] ∧ lk n x = true ∧ n ≤ 60 ∧ Φ (.bool (ruleB x))
theorem sc_is_rule : FnScope ["value"] ["value"] (defScope s_is_rule) := ⟨rfl, rfl, rfl, by decide +kernel, rfl, by decide +kernel, by decide +kernel⟩
theorem ok_is_rule (F : FnP K "is_rule" s_is_rule f fd) (m_isinstance : mg "isinstance" = none) (m_str : mg "str" = none) (g_RULES : Gc K mg "RULES" (.tuple [.str "closest", .str "last", .str "next"])) : FnOk P w K mg base CX0 1 f fd ["value"] (spF K R_is_rule) := by
  refine fnF F sc_is_rule (fun ds Φ h => by obtain ⟨_, _, rfl, _⟩ := h; rfl) (fun cdv A outer s H E hr ds Φ h => ?_)
  obtain ⟨x, n, rfl, lkx, hn, hΦ⟩ := h
  have nd := sc_is_rule.nd
  exact sds_retD (ed_and (ed_isi (ed_var 0) m_isinstance m_str boot_str) (fun h1 => (ed_one (ed_cmp (ed_var 0) (ed_gc g_RULES) (o_inDT (n := n) (m := 1) (room65 hr) lkx (by decide +kernel) (by omega)))))) hΦ
def R_in_month : List D → (D → Prop) → Prop := fun ds Φ => ∃ h y m, ds = [hintD h, .int y, .int m] ∧ 1 ≤ m ∧ m ≤ 12 ∧ Cal.HOk h ∧ ∀ lo hi st, Cal.MF h (12 * y + m - 1) lo hi st → Φ (.tuple [.int lo, .int hi, .int st])
theorem sc_in_month : FnScope ["hint", "year", "month", "first", "length", "number", "good", "low"] ["hint", "year", "month"] (defScope s_in_month) := ⟨rfl, rfl, rfl, by decide +kernel, rfl, by decide +kernel, by decide +kernel⟩
theorem ok_in_month (F : FnP K "in_month" s_in_month f fd) (c_month_start : Kn P w K mg base 2 "month_start" (spF K R_month_start)) (c_month_length : Kn P w K mg base 2 "month_length" (spF K R_month_length)) (c_weekday_of : Kn P w K mg base 1 "weekday_of" (spF K R_weekday_of)) : FnOk P w K mg base CX0 3 f fd ["hint", "year", "month"] (spF K R_in_month) := by
  refine fnF F sc_in_month (fun ds Φ h => by obtain ⟨_, _, _, rfl, _⟩ := h; rfl) (fun cdv A outer s H E hr ds Φ h => ?_)
  obtain ⟨h, y, m, rfl, m1, m2, hk, hΦ⟩ := h
  have nd := sc_in_month.nd
  obtain ⟨hw, hd, hm, hy⟩ := h
  have t1 : (12 * y + m - 1) % 12 + 1 = m := by omega
  have t2 : (12 * y + m - 1) / 12 = y := by omega
  have t3 := Cal.mI_of (y := y) m1 m2
  have t4 := Cal.lI_of (y := y) m1 m2
  have t5 := Cal.mlen_lo y m
  refine sds_if1 (WD.td (wd_or (WD.td (wd_and (td_cmp (ed_ix (ed_var 0) ed_int (i_tup rfl)) ed_non o_notN) (fun h2 => (wd_and1 (td_cmp (ed_ix (ed_var 0) ed_int (i_tup rfl)) (ed_var 2) (o_neD hr.units nodic_oD rfl shaped_oD rfl)))))) (fun h3 => (wd_or1 (WD.td (wd_and (td_cmp (ed_ix (ed_var 0) ed_int (i_tup rfl)) ed_non o_notN) (fun h1 => (wd_and1 (td_cmp (ed_ix (ed_var 0) ed_int (i_tup rfl)) (ed_var 1) (o_neD hr.units nodic_oD rfl shaped_oD rfl)))))))))) (fun hc => ?_) (fun hc => ?_)
  · refine sds_retD (ed_tup (ad_cons ed_int (ad_cons ed_int (ad_cons ed_int ar_nil)))) (hΦ _ _ _ (Cal.mf_none (Cal.mf_out ?_)))
    rw [ne_D, ne_D, t1, t2] at *
    rcases Bool.or_eq_true_iff.1 hc with q | q
    · exact .inl (Cal.ok_false (by simpa using q))
    · exact .inr (Cal.ok_false (by simpa using q))
  rw [ne_D, ne_D] at hc
  have hm' : hm = none ∨ hm = some ((12 * y + m - 1) % 12 + 1) := by
    rw [t1]; refine Cal.ok_iff.1 ?_
    cases q : Cal.ok hm m <;> simp_all
  have hy' : hy = none ∨ hy = some ((12 * y + m - 1) / 12) := by
    rw [t2]; refine Cal.ok_iff.1 ?_
    cases q : Cal.ok hy y <;> simp_all
  refine sds_par 3 4 rfl (exs_cons (ed_call c_month_start hr (ad_cons (ed_var 1) (ad_cons (ed_var 2) ar_nil)) ⟨_, _, rfl, m1, m2, rfl⟩).ex (exs_cons (ed_call c_month_length hr (ad_cons (ed_var 1) (ad_cons (ed_var 2) ar_nil)) ⟨_, _, rfl, m1, m2, rfl⟩).ex exs_nil)) ?_ nd
  refine sds_if1 (td_cmp (ed_ix (ed_var 0) ed_int (i_tup rfl)) ed_non o_notN) (fun hc => ?_) (fun hc => ?_)
  · rw [isNone_oD] at hc
    cases hd with
    | none => cases hc
    | some d =>
      have d1 := hk.d d rfl
      refine sds_setI 5 (ed_bin (ed_bin (ed_var 3) (ed_ix (ed_var 0) ed_int (i_tup rfl)) o_add) ed_int o_sub) (fun number h_number => ?_) nd
      have hok : ∀ v : Int, (isNone (oD hw) || PyData.eqv (.int v) (oD hw)) = Cal.ok hw v := fun v => by
        cases hw with
        | none => rfl
        | some w => simp only [oD, isNone, Cal.ok, PyData.eqv, Bool.false_or]; apply Bool.eq_iff_iff.2; simp; exact eq_comm
      refine sds_setD 6 (d := .bool (decide (d ≤ Cal.mlen y m) && Cal.ok hw ((number - 1) % 7))) (ed_and (ed_cmp (ed_ix (ed_var 0) ed_int (i_tup rfl)) (ed_var 4) o_le) (fun h5 => (ed_one (ED.is (ed_or (ed_cmp (ed_ix (ed_var 0) ed_int (i_tup rfl)) ed_non o_isN) (fun h4 => (ed_one (ed_cmp (ed_call c_weekday_of hr (ad_cons (ed_var 5) ar_nil) ⟨_, rfl, rfl⟩) (ed_ix (ed_var 0) ed_int (i_tup rfl)) (o_eqD hr.units rfl nodic_oD rfl shaped_oD))))) (by rw [← hok]))))) ?_ nd
      refine sds_retD (ed_ifG (td_val (ed_var 6)) (fun h6 => (ed_tup (ad_cons (ed_var 5) (ad_cons (ed_var 5) (ad_cons ed_int ar_nil))))) (fun h7 => (ed_tup (ad_cons ed_int (ad_cons ed_int (ad_cons ed_int ar_nil))))) (z := if (decide (d ≤ Cal.mlen y m) && Cal.ok hw ((number - 1) % 7)) then .tuple [.int number, .int number, .int 1] else .tuple [.int 1, .int 0, .int 1]) (by cases (decide (d ≤ Cal.mlen y m) && Cal.ok hw ((number - 1) % 7)) <;> rfl)) ?_
      rw [← t3, ← t4] at *
      have hn : number = Cal.mI (12 * y + m - 1) + d - 1 := h_number
      subst hn
      split
      next q =>
        simp only [Bool.and_eq_true, decide_eq_true_eq] at q
        exact hΦ _ _ _ (Cal.mf_date hm' hy' rfl (Cal.ok_iff.1 q.2) d1.1 q.1)
      next q =>
        refine hΦ _ _ _ (Cal.mf_date0 (d := d) rfl ?_)
        by_cases q1 : d ≤ Cal.lI (12 * y + m - 1)
        · refine .inr (Cal.ok_false ?_)
          cases q2 : Cal.ok hw ((Cal.mI (12 * y + m - 1) + d - 1 - 1) % 7) <;> simp_all
        · exact .inl (by omega)
  · rw [isNone_oD] at hc
    cases hd with
    | some d => cases hc
    | none =>
      refine sds_if1 (td_cmp (ed_ix (ed_var 0) ed_int (i_tup rfl)) ed_non o_isN) (fun hc => ?_) (fun hc => ?_)
      · rw [isNone_oD] at hc
        cases hw with
        | some w => cases hc
        | none =>
          refine sds_retD (ed_tup (ad_cons (ed_var 3) (ad_cons (ed_bin (ed_bin (ed_var 3) (ed_var 4) o_add) ed_int o_sub) (ad_cons ed_int ar_nil)))) (hΦ _ _ _ ?_)
          rw [← t3, ← t4]
          exact Cal.mf_all hm' hy' rfl rfl
      · rw [isNone_oD] at hc
        cases hw with
        | none => cases hc
        | some w =>
          have w1 := hk.w w rfl
          refine sds_setI 7 (ed_bin (ed_var 3) (ed_bin (ed_bin (ed_ix (ed_var 0) ed_int (i_tup rfl)) (ed_call c_weekday_of hr (ad_cons (ed_var 3) ar_nil) ⟨_, rfl, rfl⟩) o_sub) ed_int (o_mod (by decide))) o_add) (fun low h_low => ?_) nd
          refine sds_retD (ed_tup (ad_cons (ed_var 7) (ad_cons (ed_bin (ed_var 7) (ed_bin ed_int (ed_bin (ed_bin (ed_bin (ed_bin (ed_var 3) (ed_var 4) o_add) ed_int o_sub) (ed_var 7) o_sub) ed_int (o_div ⟨by decide, by decide⟩)) (o_mul (.inl (by decide)))) o_add) (ad_cons ed_int ar_nil)))) (hΦ _ _ _ ?_)
          rw [← t3, ← t4] at *
          exact Cal.mf_week hm' hy' rfl rfl w1.1 w1.2 t5 h_low
def R_month_after : List D → (D → Prop) → Prop := fun ds Φ => ∃ y m s : Int, ds = [.int y, .int m, .int s] ∧ Φ (.tuple [.int ((12 * y + m - 1 + s) / 12), .int ((12 * y + m - 1 + s) % 12 + 1)])
theorem sc_month_after : FnScope ["year", "month", "step", "at"] ["year", "month", "step"] (defScope s_month_after) := ⟨rfl, rfl, rfl, by decide +kernel, rfl, by decide +kernel, by decide +kernel⟩
theorem ok_month_after (F : FnP K "month_after" s_month_after f fd) : FnOk P w K mg base CX0 1 f fd ["year", "month", "step"] (spF K R_month_after) := by
  refine fnF F sc_month_after (fun ds Φ h => by obtain ⟨_, _, _, rfl, _⟩ := h; rfl) (fun cdv A outer s H E hr ds Φ h => ?_)
  obtain ⟨y, m, s, rfl, hΦ⟩ := h
  have nd := sc_month_after.nd
  refine sds_setI 3 (ed_bin (ed_bin (ed_bin (ed_bin ed_int (ed_var 0) (o_mul (.inl (by decide)))) (ed_var 1) o_add) ed_int o_sub) (ed_var 2) o_add) (fun at_ h_at => ?_) nd
  subst h_at
  exact sds_retD (ed_tup (ad_cons (ed_bin (ed_var 3) ed_int (o_div ⟨by decide, by decide⟩)) (ad_cons (ed_bin (ed_bin (ed_var 3) ed_int (o_mod (by decide))) ed_int o_add) ar_nil))) hΦ
def R_next_fit : List D → (D → Prop) → Prop := fun ds Φ => ∃ h n, ds = [hintD h, .int n] ∧ Cal.HOk h ∧ Φ (oD (Cal.nxt h n))
theorem sc_next_fit : FnScope ["hint", "number", "year", "month", "day", "turn", "low", "high", "step"] ["hint", "number"] (defScope s_next_fit) := ⟨rfl, rfl, rfl, by decide +kernel, rfl, by decide +kernel, by decide +kernel⟩
theorem ok_next_fit (F : FnP K "next_fit" s_next_fit f fd) (c_day_at : Kn P w K mg base 3 "day_at" (spF K R_day_at)) (c_in_month : Kn P w K mg base 3 "in_month" (spF K R_in_month)) (c_month_after : Kn P w K mg base 1 "month_after" (spF K R_month_after)) (m_range : mg "range" = none) (g_MONTHS_OF_ROUND : Gc K mg "MONTHS_OF_ROUND" (.int 4800)) : FnOk P w K mg base CX0 4 f fd ["hint", "number"] (spF K R_next_fit) := by
  refine fnF F sc_next_fit (fun ds Φ h => by obtain ⟨_, _, rfl, _⟩ := h; rfl) (fun cdv A outer s H E hr ds Φ h => ?_)
  obtain ⟨h, n, rfl, hk, hΦ⟩ := h
  have nd := sc_next_fit.nd
  have done : ∀ r, Cal.IsNext h n r → Φ (oD r) := fun r hr => by rw [Cal.nxt_eq hr]; exact hΦ
  have dp := Cal.dayOf_parts n
  refine sds_unpack (ed_call c_day_at hr (ad_cons (ed_var 1) ar_nil) ⟨_, rfl, rfl⟩) (gr_tup rfl (grs_cons (gr_name 2) (grs_cons (gr_name 3) (grs_cons (gr_name 4) grs_nil))) rfl) ?_
  rw [dp]
  let J : List Sl → Prop := fun e => ∃ t0 : Int, Cal.NxInv h n t0 ∧ Cal.NSt h n t0 ∧ ∃ s4, e = [.dt (hintD h), .dt (.int n), .dt (.int (t0 / 12)), .dt (.int (t0 % 12 + 1)), s4, .un, .un, .un, .un]
  refine sds_if J (WD.td (wd_and (td_cmp (ed_ix (ed_var 0) ed_int (i_tup rfl)) ed_non o_notN) (fun h1 => (wd_and1 (td_cmp (ed_ix (ed_var 0) ed_int (i_tup rfl)) (ed_var 2) (o_gtO h1)))))) (fun hc => ?_) (fun hc => ?_) (fun e he => ?_)
  · obtain ⟨Y, eY, hY⟩ := yr_true (P := fun v => Cal.tOf n / 12 < v) hc
    refine sds_par 2 3 rfl (exs_cons (ED.ex (d := .int Y) (ed_ix (ed_var 0) ed_int (i_tup (by show some (oD h.y) = _; rw [eY]; rfl)))) (exs_cons ed_int.ex exs_nil)) (sds_nil ?_) nd
    obtain ⟨a, b⟩ := Cal.nx_startY eY hY
    refine ⟨_, a, b, .dt (.int (n - Cal.mI (Cal.tOf n) + 1)), ?_⟩
    rw [show 12 * Y / 12 = Y by omega, show 12 * Y % 12 + 1 = 1 by omega]
    rfl
  · obtain ⟨a, b⟩ := Cal.nx_start (h := h) (n := n) (fun v e => by have := yr_false (P := fun v => Cal.tOf n / 12 < v) hc v e; omega)
    exact sds_nil ⟨_, a, b, _, rfl⟩
  obtain ⟨t0, i0, S, s4, rfl⟩ := he
  let I : Nat → List Sl → Prop := fun k e => ∃ s4 s5 s6 s7 s8, e = [.dt (hintD h), .dt (.int n), .dt (.int ((t0 + k) / 12)), .dt (.int ((t0 + k) % 12 + 1)), s4, s5, s6, s7, s8] ∧ Cal.NxInv h n (t0 + k)
  refine sds_for I (fun _ => False) rfl (ir_rng1 (ad_cons (ed_bin (ed_gc g_MONTHS_OF_ROUND) ed_int o_add) ar_nil) (by decide) m_range) ⟨_, _, _, _, _, by rw [show t0 + ((0 : Nat) : Int) = t0 by omega], by simpa using i0⟩ (fun k dk e hk' hI => ⟨_, _, (gr_name 5), ?_⟩) (fun e he => ?_)
  · obtain ⟨s4, s5, s6, s7, s8, rfl, hi⟩ := hI
    have nxt_t : t0 + ((k + 1 : Nat) : Int) = t0 + (k : Int) + 1 := by omega
    generalize ht : t0 + (k : Int) = t at *
    refine sds_if1 (WD.td (wd_and (td_cmp (ed_ix (ed_var 0) ed_int (i_tup rfl)) ed_non o_notN) (fun h2 => (wd_and1 (td_cmp (ed_var 2) (ed_ix (ed_var 0) ed_int (i_tup rfl)) (o_gtO' h2)))))) (fun hc => ?_) (fun hc => ?_)
    · obtain ⟨Y, eY, hY⟩ := yr_true (P := fun v => v < t / 12) hc
      exact sds_retD ed_non (done none (Cal.nx_gone hi eY hY))
    refine sds_unpackR (R := fun d => ∃ lo hi st, Cal.MF h t lo hi st ∧ d = .tuple [.int lo, .int hi, .int st]) (er_call c_in_month hr (ad_cons (ed_var 0) (ad_cons (ed_var 2) (ad_cons (ed_var 3) ar_nil))) (fun ds e => ⟨_, _, _, e, by omega, by omega, hk, fun lo hi st M => ⟨lo, hi, st, by rwa [show 12 * (t / 12) + (t % 12 + 1) - 1 = t by omega] at M, rfl⟩⟩)) (fun d ⟨lo, hi', st, M, ed⟩ => ?_)
    subst ed
    refine ⟨_, _, (gr_tup rfl (grs_cons (gr_name 6) (grs_cons (gr_name 7) (grs_cons (gr_name 8) grs_nil))) rfl), ?_⟩
    have hst := M.s17
    obtain ⟨lo', e'⟩ : ∃ z : Int, z = if lo < n then lo + st * ((n - lo + st - 1) / st) else lo := ⟨_, rfl⟩
    refine sds_if (fun e => ∃ s4 s5, e = [.dt (hintD h), .dt (.int n), .dt (.int (t / 12)), .dt (.int (t % 12 + 1)), s4, s5, .dt (.int lo'), .dt (.int hi'), .dt (.int st)]) (td_cmp (ed_var 6) (ed_var 1) o_lt) (fun hc => ?_) (fun hc => ?_) (fun e he => ?_)
    · refine sds_aug 6 rfl (ed_bin (ed_var 8) (ed_bin (ed_bin (ed_bin (ed_bin (ed_var 1) (ed_var 6) o_sub) (ed_var 8) o_add) ed_int o_sub) (ed_var 8) (o_div (by rcases hst with rfl | rfl <;> exact ⟨by decide, by decide⟩))) (o_mul (.inl (by rcases hst with rfl | rfl <;> decide)))) ip_add (sds_nil ?_) nd
      rw [if_pos (of_decide_eq_true hc)] at e'
      rw [e']
      exact ⟨_, _, rfl⟩
    · rw [if_neg (of_decide_eq_false hc)] at e'
      rw [e']
      exact sds_nil ⟨_, _, rfl⟩
    obtain ⟨s4, s5, rfl⟩ := he
    obtain ⟨m1, m2⟩ := Cal.mf_next M e'
    refine sds_if1 (td_cmp (ed_var 6) (ed_var 7) o_le) (fun hc => ?_) (fun hc => ?_)
    · obtain ⟨a1, a2, a3, a4⟩ := m1 (of_decide_eq_true hc)
      exact sds_retD (ed_var 6) (done (some lo') (Cal.nx_some hi a1 a2 a3 a4))
    have hc := of_decide_eq_false hc
    refine sds_unpack (ed_call c_month_after hr (ad_cons (ed_var 2) (ad_cons (ed_var 3) (ad_cons ed_int ar_nil))) ⟨_, _, _, rfl, rfl⟩) (gr_tup rfl (grs_cons (gr_name 2) (grs_cons (gr_name 3) grs_nil)) rfl) ?_
    refine sds_nil ?_
    rw [show 12 * (t / 12) + (t % 12 + 1) - 1 + 1 = t + 1 by omega]
    exact ⟨_, _, _, _, _, by rw [nxt_t]; rfl, by rw [nxt_t]; exact Cal.nx_step hi (m2 (by omega))⟩
  obtain ⟨s4, s5, s6, s7, s8, rfl, hi⟩ := he.resolve_right id
  exact sds_retD ed_non (done none (Cal.nx_end S (by rw [rangeD_len]; decide) hi))
def R_last_fit : List D → (D → Prop) → Prop := fun ds Φ => ∃ h n, ds = [hintD h, .int n] ∧ Cal.HOk h ∧ Φ (oD (Cal.lst h n))
theorem sc_last_fit : FnScope ["hint", "number", "year", "month", "day", "turn", "low", "high", "step"] ["hint", "number"] (defScope s_last_fit) := ⟨rfl, rfl, rfl, by decide +kernel, rfl, by decide +kernel, by decide +kernel⟩
theorem ok_last_fit (F : FnP K "last_fit" s_last_fit f fd) (c_day_at : Kn P w K mg base 3 "day_at" (spF K R_day_at)) (c_in_month : Kn P w K mg base 3 "in_month" (spF K R_in_month)) (c_month_after : Kn P w K mg base 1 "month_after" (spF K R_month_after)) (m_range : mg "range" = none) (g_MONTHS_OF_ROUND : Gc K mg "MONTHS_OF_ROUND" (.int 4800)) : FnOk P w K mg base CX0 4 f fd ["hint", "number"] (spF K R_last_fit) := by
  refine fnF F sc_last_fit (fun ds Φ h => by obtain ⟨_, _, rfl, _⟩ := h; rfl) (fun cdv A outer s H E hr ds Φ h => ?_)
  obtain ⟨h, n, rfl, hk, hΦ⟩ := h
  have nd := sc_last_fit.nd
  have done : ∀ r, Cal.IsLast h n r → Φ (oD r) := fun r hr => by rw [Cal.lst_eq hr]; exact hΦ
  have dp := Cal.dayOf_parts n
  refine sds_unpack (ed_call c_day_at hr (ad_cons (ed_var 1) ar_nil) ⟨_, rfl, rfl⟩) (gr_tup rfl (grs_cons (gr_name 2) (grs_cons (gr_name 3) (grs_cons (gr_name 4) grs_nil))) rfl) ?_
  rw [dp]
  let J : List Sl → Prop := fun e => ∃ t0 : Int, Cal.LsInv h n t0 ∧ Cal.LSt h n t0 ∧ ∃ s4, e = [.dt (hintD h), .dt (.int n), .dt (.int (t0 / 12)), .dt (.int (t0 % 12 + 1)), s4, .un, .un, .un, .un]
  refine sds_if J (WD.td (wd_and (td_cmp (ed_ix (ed_var 0) ed_int (i_tup rfl)) ed_non o_notN) (fun h1 => (wd_and1 (td_cmp (ed_ix (ed_var 0) ed_int (i_tup rfl)) (ed_var 2) (o_ltO h1)))))) (fun hc => ?_) (fun hc => ?_) (fun e he => ?_)
  · obtain ⟨Y, eY, hY⟩ := yr_true (P := fun v => v < Cal.tOf n / 12) hc
    refine sds_par 2 3 rfl (exs_cons (ED.ex (d := .int Y) (ed_ix (ed_var 0) ed_int (i_tup (by show some (oD h.y) = _; rw [eY]; rfl)))) (exs_cons ed_int.ex exs_nil)) (sds_nil ?_) nd
    obtain ⟨a, b⟩ := Cal.ls_startY eY hY
    refine ⟨_, a, b, .dt (.int (n - Cal.mI (Cal.tOf n) + 1)), ?_⟩
    rw [show (12 * Y + 11) / 12 = Y by omega, show (12 * Y + 11) % 12 + 1 = 12 by omega]
    rfl
  · obtain ⟨a, b⟩ := Cal.ls_start (h := h) (n := n) (fun v e => by have := yr_false (P := fun v => v < Cal.tOf n / 12) hc v e; omega)
    exact sds_nil ⟨_, a, b, _, rfl⟩
  obtain ⟨t0, i0, S, s4, rfl⟩ := he
  let I : Nat → List Sl → Prop := fun k e => ∃ s4 s5 s6 s7 s8, e = [.dt (hintD h), .dt (.int n), .dt (.int ((t0 - k) / 12)), .dt (.int ((t0 - k) % 12 + 1)), s4, s5, s6, s7, s8] ∧ Cal.LsInv h n (t0 - k)
  refine sds_for I (fun _ => False) rfl (ir_rng1 (ad_cons (ed_bin (ed_gc g_MONTHS_OF_ROUND) ed_int o_add) ar_nil) (by decide) m_range) ⟨_, _, _, _, _, by rw [show t0 - ((0 : Nat) : Int) = t0 by omega], by simpa using i0⟩ (fun k dk e hk' hI => ⟨_, _, (gr_name 5), ?_⟩) (fun e he => ?_)
  · obtain ⟨s4, s5, s6, s7, s8, rfl, hi⟩ := hI
    have nxt_t : t0 - ((k + 1 : Nat) : Int) = t0 - (k : Int) - 1 := by omega
    generalize ht : t0 - (k : Int) = t at *
    refine sds_if1 (WD.td (wd_or (WD.td (wd_and (td_cmp (ed_ix (ed_var 0) ed_int (i_tup rfl)) ed_non o_notN) (fun h2 => (wd_and1 (td_cmp (ed_var 2) (ed_ix (ed_var 0) ed_int (i_tup rfl)) (o_ltO' h2)))))) (fun h3 => (wd_or1 (td_cmp (ed_var 2) ed_int o_lt))))) (fun hc => ?_) (fun hc => ?_)
    · refine sds_retD ed_non (done none ?_)
      rcases Bool.or_eq_true_iff.1 hc with q | q
      · obtain ⟨Y, eY, hY⟩ := yr_true (P := fun v => t / 12 < v) q
        exact Cal.ls_gone hi eY hY
      · exact Cal.ls_low hi (of_decide_eq_true q)
    have hpos : 1 ≤ t / 12 := by
      have := of_decide_eq_false (Bool.or_eq_false_iff.1 hc).2
      omega
    refine sds_unpackR (R := fun d => ∃ lo hi st, Cal.MF h t lo hi st ∧ d = .tuple [.int lo, .int hi, .int st]) (er_call c_in_month hr (ad_cons (ed_var 0) (ad_cons (ed_var 2) (ad_cons (ed_var 3) ar_nil))) (fun ds e => ⟨_, _, _, e, by omega, by omega, hk, fun lo hi st M => ⟨lo, hi, st, by rwa [show 12 * (t / 12) + (t % 12 + 1) - 1 = t by omega] at M, rfl⟩⟩)) (fun d ⟨lo, hi', st, M, ed⟩ => ?_)
    subst ed
    refine ⟨_, _, (gr_tup rfl (grs_cons (gr_name 6) (grs_cons (gr_name 7) (grs_cons (gr_name 8) grs_nil))) rfl), ?_⟩
    have hst := M.s17
    obtain ⟨lo', e'⟩ : ∃ z : Int, z = if n < hi' then hi' - st * ((hi' - n + st - 1) / st) else hi' := ⟨_, rfl⟩
    refine sds_if (fun e => ∃ s4 s5, e = [.dt (hintD h), .dt (.int n), .dt (.int (t / 12)), .dt (.int (t % 12 + 1)), s4, s5, .dt (.int lo), .dt (.int lo'), .dt (.int st)]) (td_cmp (ed_var 7) (ed_var 1) o_gt) (fun hc => ?_) (fun hc => ?_) (fun e he => ?_)
    · refine sds_aug 7 rfl (ed_bin (ed_var 8) (ed_bin (ed_bin (ed_bin (ed_bin (ed_var 7) (ed_var 1) o_sub) (ed_var 8) o_add) ed_int o_sub) (ed_var 8) (o_div (by rcases hst with rfl | rfl <;> exact ⟨by decide, by decide⟩))) (o_mul (.inl (by rcases hst with rfl | rfl <;> decide)))) ip_sub (sds_nil ?_) nd
      rw [if_pos (of_decide_eq_true hc)] at e'
      rw [e']
      exact ⟨_, _, rfl⟩
    · rw [if_neg (of_decide_eq_false hc)] at e'
      rw [e']
      exact sds_nil ⟨_, _, rfl⟩
    obtain ⟨s4, s5, rfl⟩ := he
    obtain ⟨m1, m2⟩ := Cal.mf_last M e'
    refine sds_if1 (td_cmp (ed_var 6) (ed_var 7) o_le) (fun hc => ?_) (fun hc => ?_)
    · obtain ⟨a1, a2, a3, a4⟩ := m1 (of_decide_eq_true hc)
      exact sds_retD (ed_var 7) (done (some lo') (Cal.ls_some hi hpos a1 a2 a3 a4))
    have hc := of_decide_eq_false hc
    refine sds_unpack (ed_call c_month_after hr (ad_cons (ed_var 2) (ad_cons (ed_var 3) (ad_cons (ed_neg ed_int) ar_nil))) ⟨_, _, _, rfl, rfl⟩) (gr_tup rfl (grs_cons (gr_name 2) (grs_cons (gr_name 3) grs_nil)) rfl) ?_
    refine sds_nil ?_
    rw [show 12 * (t / 12) + (t % 12 + 1) - 1 + -1 = t - 1 by omega]
    exact ⟨_, _, _, _, _, by rw [nxt_t]; rfl, by rw [nxt_t]; exact Cal.ls_step hi (m2 (by omega))⟩
  obtain ⟨s4, s5, s6, s7, s8, rfl, hi⟩ := he.resolve_right id
  exact sds_retD ed_non (done none (Cal.ls_end S (by rw [rangeD_len]; decide) hi))
def R_read : List D → (D → Prop) → Prop := fun ds Φ => ∃ h n r, r < 3 ∧ ds = [hintD h, .int n, .str (ruleS r)] ∧ Cal.HOk h ∧ Φ (oD (Cal.rd h n r))
theorem sc_read : FnScope ["hint", "today", "rule", "later", "earlier"] ["hint", "today", "rule"] (defScope s_read) := ⟨rfl, rfl, rfl, by decide +kernel, rfl, by decide +kernel, by decide +kernel⟩
theorem ok_read (F : FnP K "read" s_read f fd) (c_next_fit : Kn P w K mg base 4 "next_fit" (spF K R_next_fit)) (c_last_fit : Kn P w K mg base 4 "last_fit" (spF K R_last_fit)) : FnOk P w K mg base CX0 5 f fd ["hint", "today", "rule"] (spF K R_read) := by
  refine fnF F sc_read (fun ds Φ h => by obtain ⟨_, _, _, _, rfl, _⟩ := h; rfl) (fun cdv A outer s H E hr ds Φ h => ?_)
  obtain ⟨h, n, r, hr3, rfl, hk, hΦ⟩ := h
  have nd := sc_read.nd
  have rs := rule_shaped hr3
  unfold Cal.rd at hΦ
  refine sds_par 3 4 rfl (exs_cons (ed_call c_next_fit hr (ad_cons (ed_var 0) (ad_cons (ed_var 1) ar_nil)) ⟨_, _, rfl, hk, rfl⟩).ex (exs_cons (ed_call c_last_fit hr (ad_cons (ed_var 0) (ad_cons (ed_var 1) ar_nil)) ⟨_, _, rfl, hk, rfl⟩).ex exs_nil)) ?_ nd
  generalize Cal.nxt h n = L at *
  generalize Cal.lst h n = M at *
  refine sds_if1 (WD.td (wd_or (td_cmp (ed_var 2) ed_str (o_eqD hr.units rfl rfl rs (by decide +kernel))) (fun h2 => (wd_or1 (WD.td (wd_and (td_cmp (ed_var 2) ed_str (o_eqD hr.units rfl rfl rs (by decide +kernel))) (fun h1 => (wd_and1 (td_cmp (ed_var 4) ed_non o_isN))))))))) (fun hc => ?_) (fun hc => ?_)
  · rw [rule_next hr3, rule_closest hr3, isNone_oD] at hc
    refine sds_retD (ed_var 3) ?_
    rcases r3 hr3 with rfl | rfl | rfl
    · exact hΦ
    · simp at hc
    · cases M with
      | none => cases L <;> exact hΦ
      | some _ => simp at hc
  rw [rule_next hr3, rule_closest hr3, isNone_oD] at hc
  refine sds_if1 (WD.td (wd_or (td_cmp (ed_var 2) ed_str (o_eqD hr.units rfl rfl rs (by decide +kernel))) (fun h3 => (wd_or1 (td_cmp (ed_var 3) ed_non o_isN))))) (fun hc2 => ?_) (fun hc2 => ?_)
  · rw [rule_last hr3, isNone_oD] at hc2
    refine sds_retD (ed_var 4) ?_
    rcases r3 hr3 with rfl | rfl | rfl
    · simp at hc
    · exact hΦ
    · cases L with
      | none => exact hΦ
      | some _ => simp at hc2
  rw [rule_last hr3, isNone_oD] at hc2
  rcases r3 hr3 with rfl | rfl | rfl
  · simp at hc
  · simp at hc2
  cases L with
  | none => simp at hc2
  | some l =>
    cases M with
    | none => simp at hc
    | some e =>
      refine sds_retD (ed_ifG (td_cmp (ed_bin (ed_var 3) (ed_var 1) o_sub) (ed_bin (ed_var 1) (ed_var 4) o_sub) o_le) (fun h4 => (ed_var 3)) (fun h5 => (ed_var 4)) rfl) ?_
      simp only [Cal.pickR] at hΦ
      by_cases q : l - n ≤ n - e <;> simp [q] at hΦ ⊢ <;> exact hΦ
def R_as_day : List D → (D → Prop) → Prop := fun ds Φ => ∃ o, ds = [oD o] ∧ Φ (odD o)
theorem sc_as_day : FnScope ["number"] ["number"] (defScope s_as_day) := ⟨rfl, rfl, rfl, by decide +kernel, rfl, by decide +kernel, by decide +kernel⟩
theorem ok_as_day (F : FnP K "as_day" s_as_day f fd) (c_day_at : Kn P w K mg base 3 "day_at" (spF K R_day_at)) : FnOk P w K mg base CX0 4 f fd ["number"] (spF K R_as_day) := by
  refine fnF F sc_as_day (fun ds Φ h => by obtain ⟨_, rfl, _⟩ := h; rfl) (fun cdv A outer s H E hr ds Φ h => ?_)
  obtain ⟨o, rfl, hΦ⟩ := h
  have nd := sc_as_day.nd
  cases o with
  | none => exact sds_retD (ED.is (ed_if (k := true) (TD.is (td_cmp (ed_var 0) ed_non o_isN) rfl) (fun _ => ed_non) (y := .none) (fun z => nomatch z)) rfl) hΦ
  | some n => exact sds_retD (ED.is (ed_if (k := false) (TD.is (td_cmp (ed_var 0) ed_non o_isN) rfl) (x := .none) (fun z => nomatch z) (fun h2 => (ed_call c_day_at hr (ad_cons (ed_var 0) ar_nil) ⟨_, rfl, rfl⟩))) rfl) hΦ
def R_meant : List D → (D → Prop) → Prop := fun ds Φ => ∃ h y m d r, r < 3 ∧ ds = [hintD h, dayD (y, m, d), .str (ruleS r)] ∧ 1 ≤ m ∧ m ≤ 12 ∧ Cal.HOk h ∧ Φ (odD (Cal.rd h (Cal.num y m d) r))
theorem sc_meant : FnScope ["hint", "today", "rule"] ["hint", "today", "rule"] (defScope s_meant) := ⟨rfl, rfl, rfl, by decide +kernel, rfl, by decide +kernel, by decide +kernel⟩
theorem ok_meant (F : FnP K "meant" s_meant f fd) (c_number_of : Kn P w K mg base 3 "number_of" (spF K R_number_of)) (c_read : Kn P w K mg base 5 "read" (spF K R_read)) (c_as_day : Kn P w K mg base 4 "as_day" (spF K R_as_day)) : FnOk P w K mg base CX0 6 f fd ["hint", "today", "rule"] (spF K R_meant) := by
  refine fnF F sc_meant (fun ds Φ h => by obtain ⟨_, _, _, _, _, _, rfl, _⟩ := h; rfl) (fun cdv A outer s H E hr ds Φ h => ?_)
  obtain ⟨h, y, m, d, r, hr3, rfl, m1, m2, hk, hΦ⟩ := h
  have nd := sc_meant.nd
  exact sds_retD (ed_call c_as_day hr (ad_cons (ed_call c_read hr (ad_cons (ed_var 0) (ad_cons (ed_call c_number_of hr (ad_cons (ed_var 1) ar_nil) ⟨_, _, _, rfl, m1, m2, rfl⟩) (ad_cons (ed_var 2) ar_nil))) ⟨_, _, r, hr3, rfl, hk, rfl⟩) ar_nil) ⟨_, rfl, rfl⟩) hΦ
def R_hint_text : List D → (D → Prop) → Prop := fun ds Φ => ∃ h, ds = [hintD h] ∧ HTx h ∧ Φ (.str (textH h))
theorem sc_hint_text : FnScope ["hint", "weekday", "day", "month", "year", "words"] ["hint"] (defScope s_hint_text) := ⟨rfl, rfl, rfl, by decide +kernel, rfl, by decide +kernel, by decide +kernel⟩
theorem ok_hint_text (F : FnP K "hint_text" s_hint_text f fd) (m_str : mg "str" = none) (g_WEEKDAYS : Gc K mg "WEEKDAYS" wdD) (g_MONTHS : Gc K mg "MONTHS" moD) : FnOk P w K mg base CX0 1 f fd ["hint"] (spF K R_hint_text) := by
  refine fnF F sc_hint_text (fun ds Φ h => by obtain ⟨_, rfl, _⟩ := h; rfl) (fun cdv A outer s H E hr ds Φ h => ?_)
  obtain ⟨h, rfl, hx, hΦ⟩ := h
  have nd := sc_hint_text.nd
  have sm := words_small hx
  have cnt := words_cnt (h := h)
  obtain ⟨⟨o1, o2, o3⟩, oy, _⟩ := hx
  obtain ⟨hw, hd, hm, hy⟩ := h
  unfold wordsH at cnt
  simp only [List.length_append] at cnt
  refine sds_unpack (ds := [oD hw, oD hd, oD hm, oD hy]) (ed_var 0) (gr_tup rfl (grs_cons (gr_name 1) (grs_cons (gr_name 2) (grs_cons (gr_name 3) (grs_cons (gr_name 4) grs_nil)))) rfl) ?_
  refine sds_setD 5 (ed_optG (o := hw) (Z := fun o => .list ((wW o).map PyData.str)) (td_cmp (ed_var 1) ed_non o_isN) (fun _ => ed_lst ar_nil) (fun v e => by subst e; exact ed_lst (ad_cons (ed_ix (ed_gc g_WEEKDAYS) (ed_var 1) (i_tup (wd_at (o1 v rfl).1 (o1 v rfl).2 rfl))) ar_nil))) ?_ nd
  refine sds_setD 5 (ed_optG (o := hd) (Z := fun o => .list ((wW hw ++ wDy o).map PyData.str)) (td_cmp (ed_var 2) ed_non o_isN) (fun _ => ED.is (ed_var 5) (by simp [wDy])) (fun v e => by
    subst e
    have b := o2 v rfl
    exact ED.is (ed_lst (ad_star (ed_var 5) (ad_cons (ed_join2 (ed_fmtI (ed_var 2) (num_log (by omega) (by omega))) ed_str (by have := num_len (v := v) (by omega) (by omega); have e : (("." : Str)).length = 1 := (by decide +kernel); rw [e, sizeLine_eq]; omega)) ar_nil)) (by simp only [List.length_append, List.length_map, List.length_cons, List.length_nil]; omega)) (by simp [wDy]))) ?_ nd
  refine sds_setD 5 (ed_optG (o := hm) (Z := fun o => .list ((wW hw ++ wDy hd ++ wM o).map PyData.str)) (td_cmp (ed_var 3) ed_non o_isN) (fun _ => ED.is (ed_var 5) (by simp [wM])) (fun v e => by
    subst e
    have b := o3 v rfl
    exact ED.is (ed_lst (ad_star (ed_var 5) (ad_cons (ed_ix (ed_gc g_MONTHS) (ed_bin (ed_var 3) ed_int o_sub) (i_tup (mo_at b.1 b.2 rfl))) ar_nil)) (by simp only [List.length_append, List.length_map, List.length_cons, List.length_nil]; omega)) (by simp [wM]))) ?_ nd
  exact sds_retD (ed_join ed_str (ed_optG (o := hy) (Z := fun o => .list ((wW hw ++ wDy hd ++ wM hm ++ wY o).map PyData.str)) (td_cmp (ed_var 4) ed_non o_isN) (fun _ => ED.is (ed_var 5) (by simp [wY])) (fun v e => by
    subst e
    have b := oy v rfl
    exact ED.is (ed_lst (ad_star (ed_var 5) (ad_cons (ed_callTy (ad_cons (ed_var 4) ar_nil) m_str boot_str (c_strI (num_log (by omega) b.2))) ar_nil)) (by simp only [List.length_append, List.length_map, List.length_cons, List.length_nil]; omega)) (by simp [wY]))) sm) hΦ
def R_read_number : List D → (D → Prop) → Prop := fun ds Φ => ∃ w, ds = [.str w] ∧ w.length ≤ 1000000 ∧ Φ (oD (rnS w))
theorem sc_read_number : FnScope ["word", "sign"] ["word"] (defScope s_read_number) := ⟨rfl, rfl, rfl, by decide +kernel, rfl, by decide +kernel, by decide +kernel⟩
theorem ok_read_number (F : FnP K "read_number" s_read_number f fd) (m_len : mg "len" = none) (m_all : mg "all" = none) (m_int : mg "int" = none) (m_str : mg "str" = none) : FnOk P w K mg base CX0 1 f fd ["word"] (spF K R_read_number) := by
  refine fnF F sc_read_number (fun ds Φ h => by obtain ⟨_, rfl, _⟩ := h; rfl) (fun cdv A outer s H E hr ds Φ h => ?_)
  obtain ⟨w, rfl, hw, hΦ⟩ := h
  have nd := sc_read_number.nd
  have ha : ((w.cps.toList.map fun k => decide (k ∈ digS.cps.toList)).all id) = allDig w := by unfold allDig; rw [List.all_map]; rfl
  refine sds_if1 (WD.td (wd_or (td_cmp (ed_var 0) ed_str o_eqS) (fun h2 => (wd_or (td_cmp (ed_callB (ad_cons (ed_var 0) ar_nil) m_len boot_len (c_lenS (by rw [sizeLine_eq]; omega))) ed_int o_gt) (fun h1 => (wd_or1 (td_not (td_val (ed_callB (ad_cons (ED.is (ex_lcA [("sign", 1)] w.cps.toList (fun k => .str ⟨#[k]⟩) (fun k => .bool (decide (k ∈ digS.cps.toList))) rfl (ir_str (ed_var 0)) (by have : w.cps.toList.length = w.length := (TL.len_tl w).symm; omega) (fun k hk => ⟨_, _, by decide, fun _ _ _ _ _ => (gr_name 1), fun _ _ _ _ _ => tsd_nil, fun _ _ _ _ _ _ => (ed_cmp (ed_var 1) ed_str o_inSign)⟩)).ed (d' := .list ((w.cps.toList.map fun k => decide (k ∈ digS.cps.toList)).map PyData.bool)) (by rw [List.map_map]; rfl)) ar_nil) m_all boot_all (c_allL rfl)))))))))) (fun hc => ?_) (fun hc => ?_)
  · rw [ha] at hc
    refine sds_retD ed_non ?_
    have : rnS w = none := by
      unfold rnS
      rw [if_pos]
      simp only [Bool.or_eq_true, decide_eq_true_eq, Bool.not_eq_true'] at hc
      rcases hc with a | b | c
      · exact .inl a
      · exact .inr (.inl (by omega))
      · exact .inr (.inr c)
    rw [this] at hΦ; exact hΦ
  · rw [ha] at hc
    have hn : ¬ (w = "" ∨ 4 < w.length ∨ allDig w = false) := by
      simp only [Bool.or_eq_false_iff, decide_eq_false_iff_not, Bool.not_eq_false'] at hc
      obtain ⟨a, b, c⟩ := hc
      rintro (z | z | z)
      · exact a z
      · exact b (by omega)
      · rw [c] at z; cases z
    obtain ⟨i1, i2, i3, i4⟩ := int_val hn
    have e : rnS w = if numS (valS w) = w then some (valS w) else none := by unfold rnS; rw [if_neg hn]
    rw [e] at hΦ
    refine sds_retD (ed_ifG (z := oD (if numS (valS w) = w then some (valS w) else none)) (td_cmp (ed_callTy (ad_cons (ed_callTy (ad_cons (ed_var 0) ar_nil) m_int boot_int (c_intS i1 (by omega))) ar_nil) m_str boot_str (c_strI (num_log i3 i4))) (ed_var 0) o_eqS) (fun h3 => (ed_callTy (ad_cons (ed_var 0) ar_nil) m_int boot_int (c_intS i1 (by omega)))) (fun h4 => ed_non) ?_) hΦ
    by_cases q : numS (valS w) = w
    · rw [if_pos q, decide_eq_true q]; rfl
    · rw [if_neg q, decide_eq_false q]; rfl
def R_read_word : List D → (D → Prop) → Prop := fun ds Φ => ∃ (w : Str) (k : Nat), ds = [.str w, .int k] ∧ k < 4 ∧ w.length ≤ 1000000 ∧ Φ (oD (rwS w k))
theorem any_strs {L : List Str} {w : Str} : ((L.map PyData.str).any fun y => PyData.eqv y (.str w)) = decide (w ∈ L) := by
  rw [List.any_map]
  apply Bool.eq_iff_iff.2
  rw [List.any_eq_true, decide_eq_true_eq]
  constructor
  · rintro ⟨x, hx, e⟩
    have e : PyData.eqv (.str x) (.str w) = true := e
    have : x = w := by simpa [PyData.eqv] using e
    subst this; exact hx
  · intro h
    exact ⟨w, h, by show PyData.eqv (.str w) (.str w) = true; simp [PyData.eqv]⟩
theorem wd_idx : ∀ w ∈ wdS, wdS[wdS.idxOf w]? = some w ∧ ∀ m, m < wdS.idxOf w → wdS[m]? ≠ some w := by decide +kernel
theorem mo_idx : ∀ w ∈ moS, moS[moS.idxOf w]? = some w ∧ ∀ m, m < moS.idxOf w → moS[m]? ≠ some w := by decide +kernel
theorem sc_read_word : FnScope ["word", "at"] ["word", "at"] (defScope s_read_word) := ⟨rfl, rfl, rfl, by decide +kernel, rfl, by decide +kernel, by decide +kernel⟩
theorem ok_read_word (F : FnP K "read_word" s_read_word f fd) (c_read_number : Kn P w K mg base 1 "read_number" (spF K R_read_number)) (g_WEEKDAYS : Gc K mg "WEEKDAYS" wdD) (g_MONTHS : Gc K mg "MONTHS" moD) (n_WEEKDAYS : Nd K mg "WEEKDAYS") (n_MONTHS : Nd K mg "MONTHS") : FnOk P w K mg base CX0 2 f fd ["word", "at"] (spF K R_read_word) := by
  refine fnF F sc_read_word (fun ds Φ h => by obtain ⟨_, _, rfl, _⟩ := h; rfl) (fun cdv A outer s H E hr ds Φ h => ?_)
  obtain ⟨w, k, rfl, hk, hw, hΦ⟩ := h
  have nd := sc_read_word.nd
  have gw : Gc K mg "WEEKDAYS" (.tuple (wdS.map PyData.str)) := g_WEEKDAYS
  have gm : Gc K mg "MONTHS" (.tuple (moS.map PyData.str)) := g_MONTHS
  have fl : ∀ L : List Str, (L.map PyData.str).all flatD = true := fun L => by rw [List.all_map]; exact List.all_eq_true.2 fun _ _ => rfl
  have hk4 : k = 0 ∨ k = 1 ∨ k = 2 ∨ k = 3 := by omega
  refine sds_if1 (td_cmp (ed_var 1) ed_int o_eq) (fun hc => ?_) (fun hc => ?_)
  · have : k = 0 := by have := of_decide_eq_true hc; omega
    subst this
    have e : rwS w 0 = if w ∈ wdS then some (wdS.idxOf w : Int) else none := rfl
    rw [e] at hΦ
    by_cases hm : w ∈ wdS
    · rw [if_pos hm] at hΦ
      exact sds_retD (ED.is (ed_if (k := true) (TD.is (td_cmp (ed_var 0) (ed_gc gw) (o_inT rfl (fl _))) (by rw [any_strs]; exact decide_eq_true hm)) (fun _ => ed_tix n_WEEKDAYS gw (ed_var 0) (wd_idx w hm).1 (wd_idx w hm).2) (y := .none) (fun z => nomatch z)) rfl) hΦ
    · rw [if_neg hm] at hΦ
      exact sds_retD (ED.is (ed_if (k := false) (TD.is (td_cmp (ed_var 0) (ed_gc gw) (o_inT rfl (fl _))) (by rw [any_strs]; exact decide_eq_false hm)) (x := .none) (fun z => nomatch z) (fun _ => ed_non)) rfl) hΦ
  refine sds_if1 (td_cmp (ed_var 1) ed_int o_eq) (fun hc1 => ?_) (fun hc1 => ?_)
  · have : k = 1 := by have := of_decide_eq_true hc1; omega
    subst this
    have e : rwS w 1 = if Txt.endswith w "." = true then rnS (cutS w none (some (-1))) else none := rfl
    rw [e] at hΦ
    refine sds_retD (ed_ifG (z := oD (if Txt.endswith w "." = true then rnS (cutS w none (some (-1))) else none)) (td_val (ed_endswith (ed_var 0) ed_str)) (fun h3 => (ed_call c_read_number hr (ad_cons (ed_slice (ed_var 0) od_none (od_some (ed_neg ed_int)) (s_str (by rw [sizeLine_eq]; omega))) ar_nil) ⟨_, rfl, Nat.le_trans (cutS_length _ _ _) hw, rfl⟩)) (fun h4 => ed_non) ?_) hΦ
    cases Txt.endswith w "." <;> rfl
  refine sds_if1 (td_cmp (ed_var 1) ed_int o_eq) (fun hc2 => ?_) (fun hc2 => ?_)
  · have : k = 2 := by have := of_decide_eq_true hc2; omega
    subst this
    have e : rwS w 2 = if w ∈ moS then some ((moS.idxOf w : Int) + 1) else none := rfl
    rw [e] at hΦ
    by_cases hm : w ∈ moS
    · rw [if_pos hm] at hΦ
      exact sds_retD (ED.is (ed_if (k := true) (TD.is (td_cmp (ed_var 0) (ed_gc gm) (o_inT rfl (fl _))) (by rw [any_strs]; exact decide_eq_true hm)) (fun _ => (ed_bin (ed_tix n_MONTHS gm (ed_var 0) (mo_idx w hm).1 (mo_idx w hm).2) ed_int o_add)) (y := .none) (fun z => nomatch z)) rfl) hΦ
    · rw [if_neg hm] at hΦ
      exact sds_retD (ED.is (ed_if (k := false) (TD.is (td_cmp (ed_var 0) (ed_gc gm) (o_inT rfl (fl _))) (by rw [any_strs]; exact decide_eq_false hm)) (x := .none) (fun z => nomatch z) (fun _ => ed_non)) rfl) hΦ
  · have a := of_decide_eq_false hc
    have b := of_decide_eq_false hc1
    have c := of_decide_eq_false hc2
    have : k = 3 := by omega
    subst this
    exact sds_retD (ed_call c_read_number hr (ad_cons (ed_var 0) ar_nil) ⟨_, rfl, hw, rfl⟩) hΦ
def R_read_hint : List D → (D → Prop) → Prop := fun ds Φ => ∃ x : D, ds = [x] ∧ (∀ y, x = .str y → y.length ≤ 900000 ∧ PyData.strOk y = true) ∧ Φ (readD x)
theorem sc_read_hint : FnScope ["value", "words", "parts", "at", "part"] ["value"] (defScope s_read_hint) := ⟨rfl, rfl, rfl, by decide +kernel, rfl, by decide +kernel, by decide +kernel⟩
theorem ok_read_hint (F : FnP K "read_hint" s_read_hint f fd) (c_read_word : Kn P w K mg base 2 "read_word" (spF K R_read_word)) (c_is_hint : Kn P w K mg base 2 "is_hint" (spF K R_is_hint)) (m_isinstance : mg "isinstance" = none) (m_str : mg "str" = none) (m_range : mg "range" = none) (m_tuple : mg "tuple" = none) : FnOk P w K mg base CX0 3 f fd ["value"] (spF K R_read_hint) := by
  refine fnF F sc_read_hint (fun ds Φ h => by obtain ⟨_, rfl, _⟩ := h; rfl) (fun cdv A outer s H E hr ds Φ h => ?_)
  obtain ⟨x, rfl, hx, hΦ⟩ := h
  have nd := sc_read_hint.nd
  by_cases hs : isD x "str" = true
  · obtain ⟨y, rfl⟩ : ∃ y, x = .str y := by
      cases x <;> first | exact ⟨_, rfl⟩ | (exact absurd hs (by simp [isDs, tyD]))
    obtain ⟨hy, oky⟩ := hx y rfl
    refine sds_ifF (td_not (td_val (ed_isi (ed_var 0) m_isinstance m_str boot_str))) rfl ?_
    refine sds_par 1 2 rfl (exs_cons (ed_split (ed_var 0) ed_str (by decide +kernel) (by rw [sizeLine_eq]; omega)).ex (exs_cons (ex_lst ar_nil) exs_nil)) ?_ nd
    have hm := fun q => split_mem (x := y) (y := " ") (q := q)
    have hl : (Txt.split y " ").length ≤ 900002 := by have := PyProof.Rows.split_le y " "; omega
    have hΦ : Φ (oHD (readS y)) := hΦ
    unfold readS at hΦ
    generalize Txt.split y " " = ws at *
    have suf : ∀ k, k ≤ 4 → (pS ws k).2.length ≤ 900002 ∧ ∀ q ∈ (pS ws k).2, q ∈ ws := by
      intro k
      induction k with
      | zero => intro _; exact ⟨hl, fun q hq => hq⟩
      | succ k ih =>
        intro hk
        obtain ⟨a, b⟩ := ih (by omega)
        show (pst (pS ws k).2 k).2.length ≤ _ ∧ ∀ q ∈ (pst (pS ws k).2 k).2, q ∈ ws
        cases e : (pS ws k).2 with
        | nil => exact ⟨by simp [pst], by simp [pst]⟩
        | cons w r =>
          rw [e] at a b
          cases z : rwS w k with
          | none => simp only [pst, z]; exact ⟨a, b⟩
          | some v => simp only [pst, z]; exact ⟨by simp at a; omega, fun q hq => b q (by simp [hq])⟩
    have lkw : ∀ L : List Str, L.length ≤ 900002 → (∀ q ∈ L, q ∈ ws) → lk 1 (.list (L.map PyData.str)) = true := fun L h1 h2 => lk_list (n := 0) (by omega) fun q hq => (hm q (h2 q hq)).2 oky
    refine sds_for (fun k e => k ≤ 4 ∧ ∃ s3 s4, e = [.dt (.str y), .dt (.list ((pS ws k).2.map PyData.str)), .own ((pS ws k).1.map oD), s3, s4]) (fun _ => False) rfl (IR.is (ir_rng1 (ad_cons ed_int ar_nil) (by decide) m_range) (ys := rangeD 0 4) rfl) ⟨by decide, _, _, rfl⟩ (fun k dk e hk hI => ⟨_, _, (gr_name 3), ?_⟩) (fun e he => ?_)
    · obtain ⟨_, s3, s4, rfl⟩ := hI
      have hk4 : k < 4 := by
        have := (List.getElem?_eq_some_iff.mp hk).1
        rw [rangeD_len] at this; exact this
      have hdk : dk = .int (k : Int) := by
        rw [rangeD_get hk4] at hk
        have := (Option.some.inj hk).symm
        rw [this]; simp
      subst hdk
      obtain ⟨s1, s2⟩ := suf k (by omega)
      have pl : ((pS ws k).1.map oD).length < 10000000 := by rw [List.length_map, pS_len]; omega
      have step : pS ws (k + 1) = ((pS ws k).1 ++ [(pst (pS ws k).2 k).1], (pst (pS ws k).2 k).2) := rfl
      rw [step]
      generalize (pS ws k).1 = ps at *
      generalize (pS ws k).2 = L at *
      have lkL := lkw L s1 s2
      refine sds_setD 4 (d := oD (pst L k).1) ?_ ?_ nd
      · cases L with
        | nil => exact ED.is (ed_if (k := false) (TD.is (td_cmp (ed_var 1) (ed_lst ar_nil) (o_neK (n := 1) (m := 1) hr.units lkL rfl)) (by rw [eqv_nil]; rfl)) (x := .none) (fun z => nomatch z) (fun _ => ed_non)) rfl
        | cons w r =>
          refine ED.is (ed_if (k := true) (TD.is (td_cmp (ed_var 1) (ed_lst ar_nil) (o_neK (n := 1) (m := 1) hr.units lkL rfl)) (by rw [eqv_nil]; rfl)) (fun _ => (ed_call c_read_word hr (ad_cons (ed_ix (ed_var 1) ed_int (i_lst (d := .str w) (by rw [atI_get (by decide) (by simp)]; rfl))) (ad_cons (ed_var 3) ar_nil)) ⟨w, k, rfl, hk4, by have := (hm w (s2 w (by simp))).1; omega, rfl⟩)) (y := .none) (fun z => nomatch z)) ?_
          cases q : rwS w k <;> simp [pst, q]
      refine sds_append 2 rfl (ad_cons (ed_var 4) ar_nil) pl ?_
      refine sds_setD 1 (d := .list ((pst L k).2.map PyData.str)) ?_ (sds_nil ⟨by omega, _, _, by rw [List.map_append]; rfl⟩) nd
      cases L with
      | nil => exact ED.is (ed_if (k := true) (TD.is (td_cmp (ed_var 4) ed_non o_isN) rfl) (fun _ => (ed_var 1)) (y := .none) (fun z => nomatch z)) rfl
      | cons w r =>
        cases q : rwS w k with
        | none => exact ED.is (ed_if (k := true) (TD.is (td_cmp (ed_var 4) ed_non o_isN) (by simp [pst, q, oD, isNone])) (fun _ => (ed_var 1)) (y := .none) (fun z => nomatch z)) (by simp [pst, q])
        | some v => exact ED.is (ed_if (k := false) (TD.is (td_cmp (ed_var 4) ed_non o_isN) (by simp [pst, q, oD, isNone])) (x := .none) (fun z => nomatch z) (fun _ => (ed_slice (ed_var 1) (od_some ed_int) od_none s_lst))) (by rw [cut_drop (by decide)]; simp [pst, q])
    · obtain ⟨_, s3, s4, rfl⟩ := he.resolve_right id
      rw [rangeD_len, pS4]
      obtain ⟨s1, s2⟩ := suf 4 (by decide)
      rw [pS4] at s1 s2
      have lkL := lkw (restP ws) s1 s2
      refine sds_freeze 2 rfl ?_
      have tp : ∀ (h : Cal.Hint), (PyData.tuple [oD h.w, oD h.d, oD h.m, oD h.y]) = hintD h := fun _ => rfl
      refine sds_retD (ed_ifG (z := oHD (if ((restP ws).isEmpty && htB (hintP ws)) = true then some (hintP ws) else none)) (WD.td (wd_and (td_cmp (ed_var 1) (ed_lst ar_nil) (o_eqK (n := 1) (m := 1) hr.units lkL rfl)) (fun h5 => (wd_and1 (td_val (ed_call c_is_hint hr (ad_cons (ed_callTy (ad_cons (ed_var 2) ar_nil) m_tuple boot_tuple c_tupL) ar_nil) ⟨hintD (hintP ws), 4, rfl, lk_hint, by decide, rfl⟩)))))) (fun h6 => (ed_callTy (ad_cons (ed_var 2) ar_nil) m_tuple boot_tuple c_tupL)) (fun h7 => ed_non) ?_) hΦ
      rw [eqv_nil, isHint_hintD, List.isEmpty_map]
      cases ((restP ws).isEmpty && htB (hintP ws)) <;> rfl
  · have hf : readD x = .none := by
      cases x <;> first | rfl | (exact absurd (by simp [isDs, tyD]) hs)
    rw [hf] at hΦ
    have hs : isD x "str" = false := by simpa using hs
    exact sds_if1 (k := true) (TD.is (td_not (td_val (ed_isi (ed_var 0) m_isinstance m_str boot_str))) (by rw [hs]; rfl)) (fun _ => sds_retD ed_non hΦ) (fun z => nomatch z)
def R_hint_of : List D → (D → Prop) → Prop := fun ds Φ => ∃ (y m d : Int) (a b c e : Bool), ds = [dayD (y, m, d), .tuple [.bool a, .bool b, .bool c, .bool e]] ∧ VDay y m d ∧ Φ (hintD (Cal.hintOf a b c e (Cal.num y m d)))
theorem sc_hint_of : FnScope ["day", "kind", "own", "part", "has"] ["day", "kind"] (defScope s_hint_of) := ⟨rfl, rfl, rfl, by decide +kernel, rfl, by decide +kernel, by decide +kernel⟩
theorem ok_hint_of (F : FnP K "hint_of" s_hint_of f fd) (c_weekday_of : Kn P w K mg base 1 "weekday_of" (spF K R_weekday_of)) (c_number_of : Kn P w K mg base 3 "number_of" (spF K R_number_of)) (m_zip : mg "zip" = none) (m_tuple : mg "tuple" = none) : FnOk P w K mg base CX0 4 f fd ["day", "kind"] (spF K R_hint_of) := by
  refine fnF F sc_hint_of (fun ds Φ h => by obtain ⟨_, _, _, _, _, _, _, rfl, _⟩ := h; rfl) (fun cdv A outer s H E hr ds Φ h => ?_)
  obtain ⟨y, m, d, a, b, c, e, rfl, v, hΦ⟩ := h
  have nd := sc_hint_of.nd
  have ed := Cal.dayOf_num v.1 v.2.1 v.2.2.1 v.2.2.2
  simp only [Cal.hintOf, ed] at hΦ
  refine sds_setD 2 (ed_tup (ad_cons (ed_call c_weekday_of hr (ad_cons (ed_call c_number_of hr (ad_cons (ed_var 0) ar_nil) ⟨_, _, _, rfl, v.1, v.2.1, rfl⟩) ar_nil) ⟨_, rfl, rfl⟩) (ad_cons (ed_ix (ed_var 0) ed_int (i_tup rfl)) (ad_cons (ed_ix (ed_var 0) ed_int (i_tup rfl)) (ad_cons (ed_ix (ed_var 0) ed_int (i_tup rfl)) ar_nil))))) ?_ nd
  generalize Cal.num y m d = n at *
  refine sds_retD (ed_callTy (ad_cons (ex_lcA [("part", 3), ("has", 4)] [((n - 1) % 7, a), (d, b), (m, c), (y, e)] (fun p => .tuple [.int p.1, .bool p.2]) (fun p => oD (if p.2 = true then some p.1 else none)) rfl (IR.is (ir_zipT (ad_cons (ed_var 2) (ad_cons (ed_var 1) ar_nil)) m_zip) rfl) (Nat.le_of_ble_eq_true rfl) (fun p hp => ⟨_, _, by decide, fun _ _ _ _ _ => (gr_tup rfl (grs_cons (gr_name 3) (grs_cons (gr_name 4) grs_nil)) rfl), fun _ _ _ _ _ => tsd_nil, fun _ _ _ _ _ _ => (ed_ifG (td_val (ed_var 4)) (fun h3 => (ed_var 3)) (fun h4 => ed_non) (by obtain ⟨u, w⟩ := p; cases w <;> rfl))⟩)).ed ar_nil) m_tuple boot_tuple c_tupL) hΦ
def R_text_key : List D → (D → Prop) → Prop := fun ds Φ => ∃ h, ds = [hintD h] ∧ HTx h ∧ Φ (keyD (keyH h))
theorem sc_text_key : FnScope ["hint", "text"] ["hint"] (defScope s_text_key) := ⟨rfl, rfl, rfl, by decide +kernel, rfl, by decide +kernel, by decide +kernel⟩
theorem ok_text_key (F : FnP K "text_key" s_text_key f fd) (c_hint_text : Kn P w K mg base 1 "hint_text" (spF K R_hint_text)) (m_len : mg "len" = none) : FnOk P w K mg base CX0 2 f fd ["hint"] (spF K R_text_key) := by
  refine fnF F sc_text_key (fun ds Φ h => by obtain ⟨_, rfl, _⟩ := h; rfl) (fun cdv A outer s H E hr ds Φ h => ?_)
  obtain ⟨h, rfl, hx, hΦ⟩ := h
  have nd := sc_text_key.nd
  refine sds_setD 1 (ed_call c_hint_text hr (ad_cons (ed_var 0) ar_nil) ⟨_, rfl, hx, rfl⟩) ?_ nd
  exact sds_retD (ed_tup (ad_cons (ed_callB (ad_cons (ed_var 1) ar_nil) m_len boot_len (c_lenS (by have := text_len hx; rw [sizeLine_eq]; omega))) (ad_cons (ed_var 1) ar_nil))) hΦ
def R_all_hints : List D → (D → Prop) → Prop := fun ds Φ => ∃ (y m d : Int), ds = [dayD (y, m, d)] ∧ VDay y m d ∧ (1 ≤ y ∧ y ≤ 9999) ∧ Φ (.list ((allH (Cal.num y m d)).map hintD))
theorem sc_all_hints : FnScope ["day", "kind"] ["day"] (defScope s_all_hints) := ⟨rfl, rfl, rfl, by decide +kernel, rfl, by decide +kernel, by decide +kernel⟩
theorem ok_all_hints (F : FnP K "all_hints" s_all_hints f fd) (c_hint_of : Kn P w K mg base 4 "hint_of" (spF K R_hint_of)) (c_text_key : Kn P w K mg base 2 "text_key" (spF K R_text_key)) (m_sorted : mg "sorted" = none) (g_KINDS : Gc K mg "KINDS" kindsD) : FnOk P w K mg base CX0 5 f fd ["day"] (spF K R_all_hints) := by
  refine fnF F sc_all_hints (fun ds Φ h => by obtain ⟨_, _, _, rfl, _⟩ := h; rfl) (fun cdv A outer s H E hr ds Φ h => ?_)
  obtain ⟨y, m, d, rfl, v, yb, hΦ⟩ := h
  have nd := sc_all_hints.nd
  have yk := yr_ok v yb.1 yb.2
  refine sds_retD (ed_sortT (xs := kinds15.map (hk (Cal.num y m d))) (enc := hintD) (kf := keyH) (fun d => keyH (decH d)) (fun x => by rw [decH_enc]) c_text_key hr (ED.is (ex_lcA [("kind", 1)] kinds15 kindD (fun k => hintD (hk (Cal.num y m d) k)) rfl (IR.is (ir_tup (ed_gc g_KINDS)) rfl) (Nat.le_of_ble_eq_true rfl) (fun p hp => ⟨_, _, by decide, fun _ _ _ _ _ => (gr_name 1), fun _ _ _ _ _ => tsd_nil, fun _ _ _ _ _ _ => (ed_call c_hint_of hr (ad_cons (ed_var 0) (ad_cons (ed_var 1) ar_nil)) ⟨_, _, _, _, _, _, _, rfl, v, rfl⟩)⟩)).ed rfl) (Nat.le_of_ble_eq_true rfl) (fun x hx => ?_) (kinds_inj yk) m_sorted) hΦ
  obtain ⟨k, k1, rfl⟩ := List.mem_map.1 hx
  exact ⟨_, rfl, hk_tx yk k1, rfl⟩
def R_hints_for : List D → (D → Prop) → Prop := fun ds Φ => ∃ (y m d y' m' d' : Int) (r : Nat), r < 3 ∧ ds = [dayD (y, m, d), dayD (y', m', d'), .str (ruleS r)] ∧ VDay y m d ∧ (1 ≤ y ∧ y ≤ 9999) ∧ (1 ≤ m' ∧ m' ≤ 12) ∧ Φ (.list (((allH (Cal.num y m d)).filter fun h => decide (Cal.rd h (Cal.num y' m' d') r = some (Cal.num y m d))).map hintD))
theorem sc_hints_for : FnScope ["day", "today", "rule", "hint"] ["day", "today", "rule"] (defScope s_hints_for) := ⟨rfl, rfl, rfl, by decide +kernel, rfl, by decide +kernel, by decide +kernel⟩
theorem ok_hints_for (F : FnP K "hints_for" s_hints_for f fd) (c_all_hints : Kn P w K mg base 5 "all_hints" (spF K R_all_hints)) (c_read : Kn P w K mg base 5 "read" (spF K R_read)) (c_number_of : Kn P w K mg base 3 "number_of" (spF K R_number_of)) : FnOk P w K mg base CX0 6 f fd ["day", "today", "rule"] (spF K R_hints_for) := by
  refine fnF F sc_hints_for (fun ds Φ h => by obtain ⟨_, _, _, _, _, _, _, _, rfl, _⟩ := h; rfl) (fun cdv A outer s H E hr ds Φ h => ?_)
  obtain ⟨y, m, d, y', m', d', r, hr3, rfl, v, yb, mb, hΦ⟩ := h
  have nd := sc_hints_for.nd
  have yk := yr_ok v yb.1 yb.2
  refine sds_retD (ex_lcM [("hint", 3)] (allH (Cal.num y m d)) hintD (fun h => decide (Cal.rd h (Cal.num y' m' d') r = some (Cal.num y m d))) hintD rfl (ir_lst (ed_call c_all_hints hr (ad_cons (ed_var 0) ar_nil) ⟨_, _, _, rfl, v, yb, rfl⟩)) (by rw [allH_len]; decide) (fun h hh => ⟨_, _, by decide, fun _ _ _ _ _ => (gr_name 3), fun _ _ _ _ _ => (tsd_one (TD.is (td_cmp (ed_call c_read hr (ad_cons (ed_var 3) (ad_cons (ed_call c_number_of hr (ad_cons (ed_var 1) ar_nil) ⟨_, _, _, rfl, mb.1, mb.2, rfl⟩) (ad_cons (ed_var 2) ar_nil))) ⟨_, _, r, hr3, rfl, (allH_tx yk hh).ok, rfl⟩) (ed_call c_number_of hr (ad_cons (ed_var 0) ar_nil) ⟨_, _, _, rfl, v.1, v.2.1, rfl⟩) (o_eqK (m := 0) hr.units lk_oD rfl)) (by rw [eqv_oDi]))), fun _ _ _ _ _ _ => (ed_var 3)⟩)).ed hΦ
def R_shortest_hint : List D → (D → Prop) → Prop := fun ds Φ => ∃ (y m d y' m' d' : Int) (r : Nat), r < 3 ∧ ds = [dayD (y, m, d), dayD (y', m', d'), .str (ruleS r)] ∧ VDay y m d ∧ (1 ≤ y ∧ y ≤ 9999) ∧ (1 ≤ m' ∧ m' ≤ 12) ∧ Φ (headD ((allH (Cal.num y m d)).filter fun h => decide (Cal.rd h (Cal.num y' m' d') r = some (Cal.num y m d))))
theorem sc_shortest_hint : FnScope ["day", "today", "rule", "found"] ["day", "today", "rule"] (defScope s_shortest_hint) := ⟨rfl, rfl, rfl, by decide +kernel, rfl, by decide +kernel, by decide +kernel⟩
theorem ok_shortest_hint (F : FnP K "shortest_hint" s_shortest_hint f fd) (c_hints_for : Kn P w K mg base 6 "hints_for" (spF K R_hints_for)) : FnOk P w K mg base CX0 7 f fd ["day", "today", "rule"] (spF K R_shortest_hint) := by
  refine fnF F sc_shortest_hint (fun ds Φ h => by obtain ⟨_, _, _, _, _, _, _, _, rfl, _⟩ := h; rfl) (fun cdv A outer s H E hr ds Φ h => ?_)
  obtain ⟨y, m, d, y', m', d', r, hr3, rfl, v, yb, mb, hΦ⟩ := h
  have nd := sc_shortest_hint.nd
  refine sds_setD 3 (ed_call c_hints_for hr (ad_cons (ed_var 0) (ad_cons (ed_var 1) (ad_cons (ed_var 2) ar_nil))) ⟨_, _, _, _, _, _, r, hr3, rfl, v, yb, mb, rfl⟩) ?_ nd
  have hl : ((allH (Cal.num y m d)).filter fun h => decide (Cal.rd h (Cal.num y' m' d') r = some (Cal.num y m d))).length ≤ 15 := Nat.le_trans (List.length_filter_le ..) (by rw [allH_len]; exact Nat.le_refl _)
  generalize ((allH (Cal.num y m d)).filter fun h => decide (Cal.rd h (Cal.num y' m' d') r = some (Cal.num y m d))) = L at *
  have lkL : lk 5 (.list (L.map hintD)) = true := lk_list (by omega) fun _ _ => lk_hint
  cases L with
  | nil => exact sds_retD (ED.is (ed_if (k := false) (TD.is (td_cmp (ed_var 3) (ed_lst ar_nil) (o_neK (n := 5) (m := 1) hr.units lkL rfl)) (by rw [eqv_nil]; rfl)) (x := .none) (fun z => nomatch z) (fun _ => ed_non)) rfl) hΦ
  | cons h t => exact sds_retD (ED.is (ed_if (k := true) (TD.is (td_cmp (ed_var 3) (ed_lst ar_nil) (o_neK (n := 5) (m := 1) hr.units lkL rfl)) (by rw [eqv_nil]; rfl)) (fun _ => (ed_ix (ed_var 3) ed_int (i_lst (d := hintD h) (by rw [atI_get (by decide) (by simp)]; rfl)))) (y := .none) (fun z => nomatch z)) rfl) hΦ
/-- a diary: today, the days that are noted -/
abbrev DSt : Type := Int × List Int
def nowD (s : DSt) : D := .tuple [.int s.1, .tuple (s.2.map PyData.int)]
def diaryFs (r : D) (now : DSt) (es : List DSt) : List (Str × D) := [("rule", r), ("now", nowD now), ("earlier", .tuple (es.map nowD))]
abbrev diaryO (K : Fg) (r : D) (now : DSt) (es : List DSt) : D := objD (He.ga K "Diary") (diaryFs r now es)
abbrev diaryS (K : Fg) (r : D) (now : DSt) (es : List DSt) : OS := .ins (He.ga K "Diary") (diaryFs r now es)
theorem isDay_in {x : D} (h : isDayB x = true) : ∃ y m d : Int, x = dayD (y, m, d) ∧ 1000 ≤ y ∧ y ≤ 9000 ∧ VDay y m d := by
  unfold isDayB at h
  split at h
  · simp only [Bool.and_eq_true] at h
    obtain ⟨h1, h2, h3⟩ := h
    obtain ⟨y, rfl, y0, y1⟩ := intIn_is h1
    obtain ⟨m, rfl, a, b⟩ := intIn_is h2
    obtain ⟨d, rfl, d0, d1⟩ := intIn_is h3
    exact ⟨y, m, d, rfl, y0, y1, a, b, d0, d1⟩
  · cases h
theorem nodic_now (s : DSt) : nodic (nowD s) = true := by
  have : ∀ L : List Int, nodicA (L.map PyData.int) = true := fun L => by induction L with
    | nil => rfl
    | cons a L ih => simp [nodicA, nodic, ih]
  simp [nowD, nodic, nodicA, this]
theorem nodic_ints (L : List Int) : nodic (.tuple (L.map PyData.int)) = true := by
  have := nodic_now (0, L)
  simp only [nowD, nodic, nodicA, Bool.true_and, Bool.and_true] at this ⊢
  exact this
theorem nodicA_nows (es : List DSt) : nodicA (es.map nowD) = true := by
  induction es with
  | nil => rfl
  | cons a L ih => simp [nodicA, nodic_now, ih]
/-- one more number in a rising list -/
def insN (z : Int) : List Int → List Int
  | [] => [z]
  | y :: ys => if z < y then z :: y :: ys else if z = y then y :: ys else y :: insN z ys
theorem insN_mem {z k : Int} : ∀ {ns : List Int}, k ∈ insN z ns ↔ k = z ∨ k ∈ ns
  | [] => by simp [insN]
  | y :: ys => by
    unfold insN
    split
    · simp
    · split
      · rename_i h; subst h; simp
      · simp only [List.mem_cons, insN_mem (ns := ys)]
        constructor
        · rintro (h | h | h)
          · exact .inr (.inl h)
          · exact .inl h
          · exact .inr (.inr h)
        · rintro (h | h | h)
          · exact .inr (.inl h)
          · exact .inl h
          · exact .inr (.inr h)
theorem insN_up {z : Int} : ∀ {ns : List Int}, ns.Pairwise (· < ·) → (insN z ns).Pairwise (· < ·)
  | [], _ => by simp [insN]
  | y :: ys, h => by
    have h' := List.pairwise_cons.1 h
    unfold insN
    split
    · rename_i c
      refine List.pairwise_cons.2 ⟨fun k hk => ?_, h⟩
      rcases List.mem_cons.1 hk with e | m
      · omega
      · have := h'.1 k m; omega
    · split
      · exact h
      · refine List.pairwise_cons.2 ⟨fun k hk => ?_, insN_up h'.2⟩
        rcases insN_mem.1 hk with e | m
        · omega
        · exact h'.1 k m
theorem insN_len {z : Int} : ∀ {ns : List Int}, (insN z ns).length ≤ ns.length + 1
  | [] => by simp [insN]
  | y :: ys => by
    have := insN_len (z := z) (ns := ys)
    unfold insN
    split
    · simp
    · split
      · simp
      · simp; omega
theorem ed_insSet {X : Cx} {a : Expr} {env : List Sl} {ns : List Int} {z : Int} {p p2 q2 pos : Pos} (h : ED X a env (.list ((ns ++ [z]).map PyData.int))) (up : ns.Pairwise (· < ·)) (hz : ns.length < 63) (m1 : X.mg "sorted" = none) (m2 : X.mg "set" = none) (hc : X.calm = true := by rfl) (g1 : Gl X "sorted" := by rfl) (g2 : Gl X "set" := by rfl)
    (s1 : starEach [.Call (.Name "set" p2) [a] [] q2] X.env = (false, eval (.Call (.Name "set" p2) [a] [] q2) X.env) :: starEach [] X.env := by rfl) (s2 : starEach [a] X.env = (false, eval a X.env) :: starEach [] X.env := by rfl)
    (l1 : (backTo pos (starEach [] X.env)).any (·.1) = false := by rfl) (l2 : (backTo q2 (starEach [] X.env)).any (·.1) = false := by rfl) : ED X (.Call (.Name "sorted" p) [.Call (.Name "set" p2) [a] [] q2] [] pos) env (.list ((insN z ns).map PyData.int)) :=
  er_sortedSet h (by simp; omega) (fun ns' h1 h2 => by
    rw [rising_uniq h1 (insN_up up) fun k => by rw [h2 k, insN_mem]; simp; exact ⟨fun o => o.symm, fun o => o.symm⟩]) m1 m2 hc g1 g2 s1 s2 l1 l2
def R_Diary___init__ (K : Fg) : List D → (List (Str × D) → Prop) → (Value → Prop) → Prop := fun as Φ Ψ => ∃ x r n, as = [x, r] ∧ lk n r = true ∧ n ≤ 60 ∧
  (isDayB x = false → Ψ (.ref (He.ga K "InvalidDay"))) ∧ (isDayB x = true → ruleB r = false → Ψ (.ref (He.ga K "InvalidRule"))) ∧ (isDayB x = true → ruleB r = true → ∀ y m d : Int, x = dayD (y, m, d) → Φ (diaryFs r (Cal.num y m d, []) []))
theorem sc_Diary___init__ : FnScope ["self", "today", "rule"] ["self", "today", "rule"] (defScope s_Diary___init__) := ⟨rfl, rfl, rfl, by decide +kernel, rfl, by decide +kernel, by decide +kernel⟩
theorem ok_Diary___init__ (F : FnM K "__init__" "Diary.__init__" s_Diary___init__ [] [] f fd) (c_is_day : Kn P w K mg base 3 "is_day" (spF K R_is_day)) (c_is_rule : Kn P w K mg base 1 "is_rule" (spF K R_is_rule)) (c_number_of : Kn P w K mg base 3 "number_of" (spF K R_number_of)) (K_Diary : ClK K mg "Diary" ["rule", "now", "earlier"] [] ["set_now", "note", "wait", "undo", "today", "days", "lines", "__len__", "__contains__", "__eq__"] [] [("FARTHEST", .int 400)]) (X_InvalidDay : Xc K mg "InvalidDay") (X_InvalidRule : Xc K mg "InvalidRule") : FnOk P w K mg base (L2N.CX P w) 4 f fd ["self", "today", "rule"] (spI K (He.ga K "Diary") (R_Diary___init__ K)) := by
  refine fnI F sc_Diary___init__ (fun _ _ _ h => by obtain ⟨_, _, _, rfl, _⟩ := h; rfl) fun cdv A outer s H E hr tk x0 as Φ Ψ ⟨x, r, n, e, hl, hn, h1, h2, h3⟩ => ?_
  subst e
  have nd := sc_Diary___init__.nd
  refine sx_if1 (TD.is (td_not (td_val (ed_call c_is_day hr (ad_cons (ed_var 1) ar_nil) ⟨x, rfl, rfl⟩))) rfl) (fun z => sx_raise tk X_InvalidDay (h1 (by simpa using z))) (fun z => ?_)
  have a1 : isDayB x = true := by simpa using z
  refine sx_if1 (TD.is (td_not (td_val (ed_call c_is_rule hr (ad_cons (ed_var 2) ar_nil) ⟨r, n, rfl, hl, hn, rfl⟩))) rfl) (fun z => sx_raise tk X_InvalidRule (h2 a1 (by simpa using z))) (fun z => ?_)
  have a2 : ruleB r = true := by simpa using z
  obtain ⟨y, m, d, rfl, y0, y1, v⟩ := isDay_in a1
  refine sx_attr 0 (ed_var 2) ?_ K_Diary.cls (K_Diary.na "rule" (by simp))
  refine sx_attr 0 (ed_tup (ad_cons (ed_call c_number_of hr (ad_cons (ed_var 1) ar_nil) ⟨_, _, _, rfl, v.1, v.2.1, rfl⟩) (ad_cons (ed_tup ar_nil) ar_nil))) ?_ K_Diary.cls (K_Diary.na "now" (by simp))
  refine sx_attr 0 (ed_tup ar_nil) ?_ K_Diary.cls (K_Diary.na "earlier" (by simp))
  exact sx_nil ⟨_, rfl, h3 a1 a2 _ _ _ rfl⟩
def R_Diary_set_now (K : Fg) : RM := fun p s0 gs Φ _ => ∃ r now es t ns, gs = [.owo p s0, .dt (.int t), .dt (.tuple (ns.map PyData.int))] ∧ s0 = diaryS K r now es ∧ es.length < 1000 ∧ Φ .none (diaryS K r (t, ns) (es ++ [now]))
theorem sc_Diary_set_now : FnScope ["self", "today", "days"] ["self", "today", "days"] (defScope s_Diary_set_now) := ⟨rfl, rfl, rfl, by decide +kernel, rfl, by decide +kernel, by decide +kernel⟩
theorem ok_Diary_set_now (F : FnM K "set_now" "Diary.set_now" s_Diary_set_now [] [] f fd) (c_Diary___init__ : KiP P w K mg base 4 (He.ga K "Diary") (He.ma K (He.ga K "Diary") "__init__") (spI K (He.ga K "Diary") (R_Diary___init__ K))) (K_Diary : ClK K mg "Diary" ["rule", "now", "earlier"] [] ["set_now", "note", "wait", "undo", "today", "days", "lines", "__len__", "__contains__", "__eq__"] [] [("FARTHEST", .int 400)]) : FnOk P w K mg base (L2N.CX P w) 1 f fd ["self", "today", "days"] (spM K (R_Diary_set_now K)) := by
  refine fnM F sc_Diary_set_now 0 (fun p s0 gs Φ Ψ h => by obtain ⟨_, _, _, _, _, rfl, _⟩ := h; exact ⟨rfl, rfl, fun i s e o => match i, e, o with | 0, _, _ => rfl | 1, e, o => by cases e; cases o | 2, e, o => by cases e; cases o⟩) fun cdv A outer s H E hr tk p s0 gs Φ Ψ ⟨r, now, es, t, ns, e1, e2, hz, hΦ⟩ => ?_
  subst e1 e2
  have nd := sc_Diary_set_now.nd
  refine sm_attr 0 (ed_viewN 0 rfl K_Diary.ob (ed_tup (ad_starT (ed_attr (d := .tuple (es.map nowD)) (ed_var 0) K_Diary.cls (K_Diary.na "earlier" (by simp)) rfl) (ad_cons (ed_attr (d := nowD now) (ed_var 0) K_Diary.cls (K_Diary.na "now" (by simp)) rfl) ar_nil)) (by simp; omega)) ?_) ?_ K_Diary.cls (K_Diary.na "earlier" (by simp))
  · have := nodicA_nows (es ++ [now])
    rw [List.map_append] at this
    exact this
  refine sm_attr 0 (ed_tup (ad_cons (ed_var 1) (ad_cons (ed_var 2) ar_nil))) ?_ K_Diary.cls (K_Diary.na "now" (by simp))
  refine sm_nil ⟨0, _, rfl, ?_⟩
  have e : (es.map nowD ++ [nowD now]) = (es ++ [now]).map nowD := by rw [List.map_append]; rfl
  rw [e]
  exact hΦ
def R_Diary_today (K : Fg) : List D → (D → Prop) → Prop := fun as Φ => ∃ r now es, as = [diaryO K r now es] ∧ Φ (dayD (Cal.dayOf now.1))
theorem sc_Diary_today : FnScope ["self"] ["self"] (defScope s_Diary_today) := ⟨rfl, rfl, rfl, by decide +kernel, rfl, by decide +kernel, by decide +kernel⟩
theorem ok_Diary_today (F : FnM K "today" "Diary.today" s_Diary_today [] [] f fd) (c_day_at : Kn P w K mg base 3 "day_at" (spF K R_day_at)) (c_Diary___init__ : KiP P w K mg base 4 (He.ga K "Diary") (He.ma K (He.ga K "Diary") "__init__") (spI K (He.ga K "Diary") (R_Diary___init__ K))) (K_Diary : ClK K mg "Diary" ["rule", "now", "earlier"] [] ["set_now", "note", "wait", "undo", "today", "days", "lines", "__len__", "__contains__", "__eq__"] [] [("FARTHEST", .int 400)]) : FnOk P w K mg base CX0 4 f fd ["self"] (spF K (R_Diary_today K)) := by
  refine fnF F sc_Diary_today (fun _ _ h => by obtain ⟨_, _, _, rfl, _⟩ := h; rfl) fun cdv A outer s H E hr as Φ ⟨r, now, es, e, hΦ⟩ => ?_
  subst e
  exact sds_retD (ed_call c_day_at hr (ad_cons (ed_ix (ed_attr (d := nowD now) (ed_var 0) K_Diary.cls (K_Diary.na "now" (by simp)) rfl) ed_int (i_tup rfl)) ar_nil) ⟨now.1, rfl, rfl⟩) hΦ
def R_Diary_note (K : Fg) : RM := fun p s0 gs Φ Ψ => ∃ q now es x, q < 3 ∧ gs = [.owo p s0, .dt x] ∧ s0 = diaryS K (.str (ruleS q)) now es ∧ es.length < 1000 ∧ now.2.length < 63 ∧ now.2.Pairwise (· < ·) ∧ (∀ y, x = .str y → y.length ≤ 900000 ∧ PyData.strOk y = true) ∧ (readD x = .none → Ψ (.ref (He.ga K "InvalidHint"))) ∧
  (∀ h, readD x = hintD h → Cal.HOk h ∧ (Cal.rd h now.1 q = none → Ψ (.ref (He.ga K "NotThere"))) ∧ (∀ z, Cal.rd h now.1 q = some z → Φ (odD (some z)) (diaryS K (.str (ruleS q)) (now.1, insN z now.2) (es ++ [now]))))
theorem sc_Diary_note : FnScope ["self", "text", "hint", "found"] ["self", "text"] (defScope s_Diary_note) := ⟨rfl, rfl, rfl, by decide +kernel, rfl, by decide +kernel, by decide +kernel⟩
theorem ok_Diary_note (F : FnM K "note" "Diary.note" s_Diary_note [] [] f fd) (c_read_hint : Kn P w K mg base 3 "read_hint" (spF K R_read_hint)) (c_meant : Kn P w K mg base 6 "meant" (spF K R_meant)) (c_number_of : Kn P w K mg base 3 "number_of" (spF K R_number_of)) (c_Diary_set_now : Ke P w K mg base 1 (He.ma K (He.ga K "Diary") "set_now") [] (spM K (R_Diary_set_now K))) (c_Diary_today : Km P w K mg base 4 (He.ma K (He.ga K "Diary") "today") [] (spF K (R_Diary_today K))) (c_Diary___init__ : KiP P w K mg base 4 (He.ga K "Diary") (He.ma K (He.ga K "Diary") "__init__") (spI K (He.ga K "Diary") (R_Diary___init__ K))) (K_Diary : ClK K mg "Diary" ["rule", "now", "earlier"] [] ["set_now", "note", "wait", "undo", "today", "days", "lines", "__len__", "__contains__", "__eq__"] [] [("FARTHEST", .int 400)]) (X_InvalidHint : Xc K mg "InvalidHint") (X_NotThere : Xc K mg "NotThere") (m_sorted : mg "sorted" = none) (m_set : mg "set" = none) (m_tuple : mg "tuple" = none) : FnOk P w K mg base (L2N.CX P w) 7 f fd ["self", "text"] (spM K (R_Diary_note K)) := by
  refine fnM F sc_Diary_note 0 (fun p s0 gs Φ Ψ h => by obtain ⟨_, _, _, _, _, rfl, _⟩ := h; exact ⟨rfl, rfl, fun i s e o => match i, e, o with | 0, _, _ => rfl | 1, e, o => by cases e; cases o⟩) fun cdv A outer s H E hr tk p s0 gs Φ Ψ ⟨q, now, es, x, q3, e1, e2, hz, hn, up, hx, h1, h2⟩ => ?_
  subst e1 e2
  have nd := sc_Diary_note.nd
  have set := Meth.mk (K_Diary.me "set_now" (by simp)).1 (K_Diary.me "set_now" (by simp)).2.1 (K_Diary.me "set_now" (by simp)).2.2.1
  have tod := Meth.mk (K_Diary.me "today" (by simp)).1 (K_Diary.me "today" (by simp)).2.1 (K_Diary.me "today" (by simp)).2.2.1
  refine sm_setD 2 (ed_call c_read_hint hr (ad_cons (ed_var 1) ar_nil) ⟨x, rfl, hx, rfl⟩) ?_
  have cs : readD x = .none ∨ ∃ h, readD x = hintD h := by
    match x with
    | .str y =>
      show oHD (readS y) = .none ∨ ∃ h, oHD (readS y) = hintD h
      cases readS y with
      | none => exact .inl rfl
      | some h => exact .inr ⟨h, rfl⟩
    | .none | .bool _ | .int _ | .list _ | .tuple _ | .dict _ => exact .inl rfl
  rcases cs with c | ⟨h, c⟩
  · rw [c]
    exact sm_if1 (TD.is (td_cmp (ed_var 2) ed_non o_isN) rfl) (fun _ => sm_raise (i := 0) rfl tk X_InvalidHint (h1 c)) (fun z => by cases z)
  rw [c]
  obtain ⟨ho, h3, h4⟩ := h2 h c
  refine sm_if1 (TD.is (td_cmp (ed_var 2) ed_non o_isN) rfl) (fun z => by cases z) (fun _ => ?_)
  have vt := Cal.dayOf_spec now.1
  refine sm_setD 3 (ed_call c_meant hr (ad_cons (ed_var 2) (ad_cons (ed_viewN 0 rfl K_Diary.ob (er_meth0 (Φ := fun d => d = dayD (Cal.dayOf now.1)) (ed_var 0) K_Diary.cls tod c_Diary_today hr ⟨_, now, _, rfl, rfl⟩)) (ad_cons (ed_viewN 0 rfl K_Diary.ob (ed_attr (d := .str (ruleS q)) (ed_var 0) K_Diary.cls (K_Diary.na "rule" (by simp)) rfl)) ar_nil))) ⟨h, (Cal.dayOf now.1).1, (Cal.dayOf now.1).2.1, (Cal.dayOf now.1).2.2, q, q3, rfl, vt.1, vt.2.1, ho, rfl⟩) ?_
  rw [num_of]
  cases c3 : Cal.rd h now.1 q with
  | none => exact sm_if1 (TD.is (td_cmp (ed_var 3) ed_non o_isN) rfl) (fun _ => sm_raise (i := 0) rfl tk X_NotThere (h3 c3)) (fun z => by cases z)
  | some z =>
    refine sm_if1 (TD.is (td_cmp (ed_var 3) ed_non o_isN) rfl) (fun z => by cases z) (fun _ => ?_)
    have vz := Cal.dayOf_spec z
    refine sm_expr (i := 0) (s := diaryS K (.str (ruleS q)) (now.1, insN z now.2) (es ++ [now])) (em_imp (em_meth (R := fun d t => t = diaryS K (.str (ruleS q)) (now.1, insN z now.2) (es ++ [now])) (Ψ := fun _ => False) c_Diary_set_now K_Diary.cls set hr tk (ad_cons (ed_viewN 0 rfl K_Diary.ob (ed_ix (ed_attr (d := nowD now) (ed_var 0) K_Diary.cls (K_Diary.na "now" (by simp)) rfl) ed_int (i_tup (d := .int now.1) rfl))) (ad_cons (ed_callTy (ad_cons (ed_insSet (ED.is (ed_lst (ad_starT (ed_viewN 0 rfl K_Diary.ob (ed_ix (ed_attr (d := nowD now) (ed_var 0) K_Diary.cls (K_Diary.na "now" (by simp)) rfl) ed_int (i_tup (d := .tuple (now.2.map PyData.int)) rfl)) (nodic_ints now.2)) (ad_cons (ed_call c_number_of hr (ad_cons (ed_var 3) ar_nil) ⟨(Cal.dayOf z).1, (Cal.dayOf z).2.1, (Cal.dayOf z).2.2, rfl, vz.1, vz.2.1, rfl⟩) ar_nil)) (by simp; omega)) (by rw [num_of, List.map_append]; rfl)) up hn m_sorted m_set) ar_nil) m_tuple boot_tuple c_tupL) ar_nil)) ⟨_, now, es, now.1, insN z now.2, rfl, rfl, hz, rfl⟩) (fun _ _ h => h) (fun _ h => h.elim)) ?_
    exact sm_ret (i := 0) rfl ((ed_var 3).imp fun d e => by subst e; exact h4 z c3)
def R_Diary_wait (K : Fg) : RM := fun p s0 gs Φ Ψ => ∃ r now es x, gs = [.owo p s0, .dt x] ∧ s0 = diaryS K r now es ∧ es.length < 1000 ∧ (intIn x 0 400 = false → Ψ (.ref (He.ga K "InvalidNumber"))) ∧ (∀ k, x = .int k → intIn x 0 400 = true → Φ (dayD (Cal.dayOf (now.1 + k))) (diaryS K r (now.1 + k, now.2) (es ++ [now])))
theorem sc_Diary_wait : FnScope ["self", "days"] ["self", "days"] (defScope s_Diary_wait) := ⟨rfl, rfl, rfl, by decide +kernel, rfl, by decide +kernel, by decide +kernel⟩
theorem ok_Diary_wait (F : FnM K "wait" "Diary.wait" s_Diary_wait [] [] f fd) (c_is_integer : Kn P w K mg base 1 "is_integer" (spF K R_is_integer)) (c_Diary_set_now : Ke P w K mg base 1 (He.ma K (He.ga K "Diary") "set_now") [] (spM K (R_Diary_set_now K))) (c_Diary_today : Km P w K mg base 4 (He.ma K (He.ga K "Diary") "today") [] (spF K (R_Diary_today K))) (c_Diary___init__ : KiP P w K mg base 4 (He.ga K "Diary") (He.ma K (He.ga K "Diary") "__init__") (spI K (He.ga K "Diary") (R_Diary___init__ K))) (K_Diary : ClK K mg "Diary" ["rule", "now", "earlier"] [] ["set_now", "note", "wait", "undo", "today", "days", "lines", "__len__", "__contains__", "__eq__"] [] [("FARTHEST", .int 400)]) (L_Diary : ClL K "Diary" [("FARTHEST", .int 400)]) (X_InvalidNumber : Xc K mg "InvalidNumber") : FnOk P w K mg base (L2N.CX P w) 5 f fd ["self", "days"] (spM K (R_Diary_wait K)) := by
  refine fnM F sc_Diary_wait 0 (fun p s0 gs Φ Ψ h => by obtain ⟨_, _, _, _, rfl, _⟩ := h; exact ⟨rfl, rfl, fun i s e o => match i, e, o with | 0, _, _ => rfl | 1, e, o => by cases e; cases o⟩) fun cdv A outer s H E hr tk p s0 gs Φ Ψ ⟨r, now, es, x, e1, e2, hz, h1, h2⟩ => ?_
  subst e1 e2
  have nd := sc_Diary_wait.nd
  have set := Meth.mk (K_Diary.me "set_now" (by simp)).1 (K_Diary.me "set_now" (by simp)).2.1 (K_Diary.me "set_now" (by simp)).2.2.1
  have tod := Meth.mk (K_Diary.me "today" (by simp)).1 (K_Diary.me "today" (by simp)).2.1 (K_Diary.me "today" (by simp)).2.2.1
  refine sm_if1 (TD.is (td_not (td_val (ed_call c_is_integer hr (ad_cons (ed_var 1) (ad_cons ed_int (ad_cons (ed_viewN 0 rfl K_Diary.ob (ed_con (d := .int 400) (ed_var 0) K_Diary.cls (L_Diary.con ("FARTHEST", .int 400) (by simp)) rfl)) ar_nil))) ⟨x, _, _, rfl, rfl⟩))) rfl) (fun z => sm_raise (i := 0) rfl tk X_InvalidNumber (h1 (by simpa using z))) (fun z => ?_)
  have z : intIn x 0 400 = true := by simpa using z
  obtain ⟨k, rfl, _, _⟩ := intIn_is z
  refine sm_expr (i := 0) (s := diaryS K r (now.1 + k, now.2) (es ++ [now])) (em_imp (em_meth (R := fun d t => t = diaryS K r (now.1 + k, now.2) (es ++ [now])) (Ψ := fun _ => False) c_Diary_set_now K_Diary.cls set hr tk (ad_cons (ed_bin (ed_viewN 0 rfl K_Diary.ob (ed_ix (ed_attr (d := nowD now) (ed_var 0) K_Diary.cls (K_Diary.na "now" (by simp)) rfl) ed_int (i_tup (d := .int now.1) rfl))) (ed_var 1) o_add) (ad_cons (ed_viewN 0 rfl K_Diary.ob (ed_ix (ed_attr (d := nowD now) (ed_var 0) K_Diary.cls (K_Diary.na "now" (by simp)) rfl) ed_int (i_tup (d := .tuple (now.2.map PyData.int)) rfl)) (nodic_ints now.2)) ar_nil)) ⟨r, now, es, now.1 + k, now.2, rfl, rfl, hz, rfl⟩) (fun _ _ h => h) (fun _ h => h.elim)) ?_
  refine sm_ret (i := 0) (s := diaryS K r (now.1 + k, now.2) (es ++ [now])) rfl (ER.imp (er_viewN (Φ := fun d => d = dayD (Cal.dayOf (now.1 + k))) 0 rfl K_Diary.ob (er_meth0 (ed_var 0) K_Diary.cls tod c_Diary_today hr ⟨r, (now.1 + k, now.2), es ++ [now], rfl, rfl⟩) (fun d e => ?_)) (fun d e => ?_))
  · subst e; rfl
  · subst e; exact h2 k rfl z
def R_Diary_undo (K : Fg) : RM := fun p s0 gs Φ Ψ => ∃ r now es n, gs = [.owo p s0] ∧ s0 = diaryS K r now es ∧ lk n (.tuple (es.map nowD)) = true ∧ n ≤ 60 ∧ (es = [] → Ψ (.ref (He.ga K "NothingToUndo"))) ∧ (∀ es' last, es = es' ++ [last] → Φ .none (diaryS K r last es'))
theorem atI_last {es : List D} {x : D} : L2.atI (es ++ [x]) (-1) = some x := by
  have e1 : (1 : Int) ≤ es.length + 1 := by omega
  have e2 : (-1 + ((es.length : Int) + 1)).toNat = es.length := by omega
  unfold L2.atI L2.ixN
  simp [e1, e2]
theorem cut_last {es : List D} {x : D} : cutD (es ++ [x]) none (some (-1)) = es := by
  have e2 : (-1 + ((es.length : Int) + 1)).toNat = es.length := by omega
  unfold DL.cutD HT.sIx
  simp [e2]
theorem eqv_tnil {L : List D} : PyData.eqv (.tuple L) (.tuple []) = L.isEmpty := by cases L <;> simp [PyData.eqv, PyData.eqvAll]
theorem sc_Diary_undo : FnScope ["self"] ["self"] (defScope s_Diary_undo) := ⟨rfl, rfl, rfl, by decide +kernel, rfl, by decide +kernel, by decide +kernel⟩
theorem ok_Diary_undo (F : FnM K "undo" "Diary.undo" s_Diary_undo [] [] f fd) (c_Diary___init__ : KiP P w K mg base 4 (He.ga K "Diary") (He.ma K (He.ga K "Diary") "__init__") (spI K (He.ga K "Diary") (R_Diary___init__ K))) (K_Diary : ClK K mg "Diary" ["rule", "now", "earlier"] [] ["set_now", "note", "wait", "undo", "today", "days", "lines", "__len__", "__contains__", "__eq__"] [] [("FARTHEST", .int 400)]) (X_NothingToUndo : Xc K mg "NothingToUndo") : FnOk P w K mg base (L2N.CX P w) 1 f fd ["self"] (spM K (R_Diary_undo K)) := by
  refine fnM F sc_Diary_undo 0 (fun p s0 gs Φ Ψ h => by obtain ⟨_, _, _, _, rfl, _⟩ := h; exact ⟨rfl, rfl, fun i s e o => match i, e, o with | 0, _, _ => rfl⟩) fun cdv A outer s H E hr tk p s0 gs Φ Ψ ⟨r, now, es, n, e1, e2, hl, hn, h1, h2⟩ => ?_
  subst e1 e2
  have nd := sc_Diary_undo.nd
  refine sm_if1 (k := es.isEmpty) (TD.is (td_view 0 rfl K_Diary.ob (td_cmp (ed_attr (d := .tuple (es.map nowD)) (ed_var 0) K_Diary.cls (K_Diary.na "earlier" (by simp)) rfl) (ed_tup ar_nil) (o_eqK (m := 1) hr.units hl rfl (Nat.le_trans hn (by decide))))) (by rw [eqv_tnil]; simp)) (fun z => ?_) (fun z => ?_)
  · exact sm_raise (i := 0) rfl tk X_NothingToUndo (h1 (by simpa using z))
  obtain ⟨es', last, rfl⟩ : ∃ es' last, es = es' ++ [last] := ⟨es.dropLast, es.getLast (by simpa using z), (List.dropLast_concat_getLast _).symm⟩
  refine sm_attr 0 (ed_viewN 0 rfl K_Diary.ob (ed_ix (ed_attr (d := .tuple ((es' ++ [last]).map nowD)) (ed_var 0) K_Diary.cls (K_Diary.na "earlier" (by simp)) rfl) (ed_neg ed_int) (i_tup (d := nowD last) (by rw [List.map_append]; exact atI_last))) (nodic_now last)) ?_ K_Diary.cls (K_Diary.na "now" (by simp))
  refine sm_attr 0 (ed_viewN 0 rfl K_Diary.ob (ED.is (ed_slice (ed_attr (d := .tuple ((es' ++ [last]).map nowD)) (ed_var 0) K_Diary.cls (K_Diary.na "earlier" (by simp)) rfl) od_none (od_some (ed_neg ed_int)) s_tup) (d' := .tuple (es'.map nowD)) (by rw [List.map_append]; exact congrArg _ cut_last)) (nodicA_nows es')) ?_ K_Diary.cls (K_Diary.na "earlier" (by simp))
  exact sm_nil ⟨0, _, rfl, h2 es' last rfl⟩
def R_Diary_days (K : Fg) : List D → (D → Prop) → Prop := fun as Φ => ∃ r now es, as = [diaryO K r now es] ∧ now.2.length < 1000 ∧ Φ (.list (now.2.map fun n => dayD (Cal.dayOf n)))
theorem sc_Diary_days : FnScope ["self", "number"] ["self"] (defScope s_Diary_days) := ⟨rfl, rfl, rfl, by decide +kernel, rfl, by decide +kernel, by decide +kernel⟩
theorem ok_Diary_days (F : FnM K "days" "Diary.days" s_Diary_days [] [] f fd) (c_day_at : Kn P w K mg base 3 "day_at" (spF K R_day_at)) (c_Diary___init__ : KiP P w K mg base 4 (He.ga K "Diary") (He.ma K (He.ga K "Diary") "__init__") (spI K (He.ga K "Diary") (R_Diary___init__ K))) (K_Diary : ClK K mg "Diary" ["rule", "now", "earlier"] [] ["set_now", "note", "wait", "undo", "today", "days", "lines", "__len__", "__contains__", "__eq__"] [] [("FARTHEST", .int 400)]) : FnOk P w K mg base CX0 4 f fd ["self"] (spF K (R_Diary_days K)) := by
  refine fnF F sc_Diary_days (fun _ _ h => by obtain ⟨_, _, _, rfl, _⟩ := h; rfl) fun cdv A outer s H E hr as Φ ⟨r, now, es, e, hz, hΦ⟩ => ?_
  subst e
  have nd := sc_Diary_days.nd
  exact sds_retD (EX.ed (ex_lcA [("number", 1)] now.2 PyData.int (fun n => dayD (Cal.dayOf n)) rfl (ir_tup (ed_ix (ed_attr (d := nowD now) (ed_var 0) K_Diary.cls (K_Diary.na "now" (by simp)) rfl) ed_int (i_tup rfl))) (by omega) (fun n hn => ⟨_, _, by decide, fun _ _ _ _ _ => (gr_name 1), fun _ _ _ _ _ => tsd_nil, fun _ _ _ _ _ _ => ed_call c_day_at hr (ad_cons (ed_var 1) ar_nil) ⟨n, rfl, rfl⟩⟩))) hΦ
theorem minus_len (t : String) : (Str.ofString ("-" ++ t)).length = (Str.ofString t).length + 1 := by
  show (PySem.cpsOfBytes 0 0 ("-" ++ t).toByteArray.data.toList).toArray.size = (PySem.cpsOfBytes 0 0 t.toByteArray.data.toList).toArray.size + 1
  have e : ("-" ++ t).toByteArray.data.toList = 45 :: t.toByteArray.data.toList := by
    rw [String.toByteArray_append, ByteArray.data_append, Array.toList_append]
    have : "-".toByteArray.data.toList = [45] := by decide +kernel
    rw [this]; rfl
  rw [e]
  have : PySem.cpsOfBytes 0 0 (45 :: t.toByteArray.data.toList) = 45 :: PySem.cpsOfBytes 0 0 t.toByteArray.data.toList := by
    rfl
  rw [this]
  simp
theorem numS_len {v : Int} {k : Nat} (hk : 0 < k) (h : v.natAbs < 10 ^ k) : (numS v).length ≤ k + 1 := by
  cases v with
  | ofNat m =>
    have := toString_length_le (v := Int.ofNat m) (Int.natCast_nonneg m) hk (by
      have : (m : Int) < ((10 ^ k : Nat) : Int) := by exact_mod_cast h
      simpa using this)
    exact Nat.le_succ_of_le this
  | negSucc m =>
    show (Str.ofString ("-" ++ toString (m + 1))).length ≤ _
    rw [minus_len]
    have e : toString (m + 1) = toString ((m + 1 : Nat) : Int) := rfl
    have := toString_length_le (v := ((m + 1 : Nat) : Int)) (by omega) hk (by
      have : ((m + 1 : Nat) : Int) < ((10 ^ k : Nat) : Int) := by exact_mod_cast h
      simpa using this)
    rw [e]
    omega
/-- a day's number in the years 1000 to 9000 -/
def DN (n : Int) : Prop := 364878 ≤ n ∧ n ≤ 3287182
theorem DN.day {n : Int} (h : DN n) : VDay (Cal.dayOf n).1 (Cal.dayOf n).2.1 (Cal.dayOf n).2.2 ∧ 1000 ≤ (Cal.dayOf n).1 ∧ (Cal.dayOf n).1 ≤ 9000 := by
  obtain ⟨q1, q2, q3, q4, q5⟩ := Cal.dayOf_spec n
  obtain ⟨b1, b2⟩ := Cal.year_bounds (n := n) h.1 h.2
  exact ⟨⟨q1, q2, q3, q4⟩, b1, b2⟩
theorem DN.yr {n : Int} (h : DN n) : YrOk n := by
  obtain ⟨_, b1, b2⟩ := h.day
  unfold YrOk
  omega
theorem DN.log {n t : Int} (h : DN n) (k : DN t) : (n - t).natAbs.log2 < 1920 := Nat.lt_trans (natAbs_log2 (b := 30) (by decide) (by have := h.1; have := h.2; have := k.1; have := k.2; omega)) (by decide)
theorem DN.len {n t : Int} (h : DN n) (k : DN t) : (numS (n - t)).length ≤ 8 := numS_len (k := 7) (by decide) (by have := h.1; have := h.2; have := k.1; have := k.2; omega)
noncomputable def fitsR (q : Nat) (t n : Int) : List Cal.Hint := (allH n).filter fun h => decide (Cal.rd h t q = some n)
def bestT (L : List Cal.Hint) : Str := match L with
  | [] => "?"
  | h :: _ => textH h
noncomputable def lineS (q : Nat) (t n : Int) : Str := bestT (fitsR q t n) ++ " " ++ numS (n - t)
theorem bestT_len {q : Nat} {t n : Int} (h : DN n) : (bestT (fitsR q t n)).length ≤ 24 := by
  have key : ∀ L : List Cal.Hint, (∀ g ∈ L, HTx g) → (bestT L).length ≤ 24 := fun L hL => by
    cases L with
    | nil => show ("?" : Str).length ≤ 24; decide +kernel
    | cons g r => exact text_len (hL g (by simp))
  exact key _ fun g hg => allH_tx h.yr (List.mem_filter.1 hg).1
def R_Diary_lines (K : Fg) : List D → (List D → Prop) → Prop := fun as Φ => ∃ q now es, q < 3 ∧ as = [diaryO K (.str (ruleS q)) now es] ∧ now.2.length < 1000 ∧ DN now.1 ∧ (∀ n ∈ now.2, DN n) ∧ Φ (now.2.map fun n => .str (lineS q now.1 n))
theorem sc_Diary_lines : GScope ["self", "number", "hint"] ["self"] (defScope s_Diary_lines) := ⟨rfl, rfl, rfl, by decide +kernel, rfl, by decide +kernel, by decide +kernel⟩
theorem ok_Diary_lines (F : FnM K "lines" "Diary.lines" s_Diary_lines [] [] f fd) (c_day_at : Kn P w K mg base 3 "day_at" (spF K R_day_at)) (c_shortest_hint : Kn P w K mg base 7 "shortest_hint" (spF K R_shortest_hint)) (c_hint_text : Kn P w K mg base 1 "hint_text" (spF K R_hint_text)) (c_Diary_today : Km P w K mg base 4 (He.ma K (He.ga K "Diary") "today") [] (spF K (R_Diary_today K))) (c_Diary___init__ : KiP P w K mg base 4 (He.ga K "Diary") (He.ma K (He.ga K "Diary") "__init__") (spI K (He.ga K "Diary") (R_Diary___init__ K))) (K_Diary : ClK K mg "Diary" ["rule", "now", "earlier"] [] ["set_now", "note", "wait", "undo", "today", "days", "lines", "__len__", "__contains__", "__eq__"] [] [("FARTHEST", .int 400)]) : GFn P w K mg base 8 f fd ["self"] (spG K (R_Diary_lines K)) := by
  refine fnG F sc_Diary_lines (fun _ _ h => by obtain ⟨_, _, _, _, rfl, _⟩ := h; rfl) fun cdv A outer s H E pn hr as Φ ⟨q, now, es, q3, e, hz, dt, dn, hΦ⟩ => ?_
  subst e
  have nd := sc_Diary_lines.nd
  have tod := Meth.mk (K_Diary.me "today" (by simp)).1 (K_Diary.me "today" (by simp)).2.1 (K_Diary.me "today" (by simp)).2.2.1
  refine gd_for (items := now.2.map PyData.int) (fun k e ys => (∃ s1 s2, e = [.dt (diaryO K (.str (ruleS q)) now es), s1, s2]) ∧ ys = (now.2.take k).map fun n => .str (lineS q now.1 n)) rfl owns_gcx (ir_tup (ed_ix (ed_attr (d := nowD now) (ed_var 0) K_Diary.cls (K_Diary.na "now" (by simp)) rfl) ed_int (i_tup rfl))) ⟨⟨_, _, rfl⟩, rfl⟩ (fun k dk e ys hk ⟨⟨s1, s2, e1⟩, e2⟩ => ?_) (fun e ys ⟨⟨s1, s2, e1⟩, e2⟩ => ?_)
  · subst e1
    rw [List.getElem?_map] at hk
    obtain ⟨n, hn, rfl⟩ := Option.map_eq_some_iff.mp hk
    have kl : k < now.2.length := (List.getElem?_eq_some_iff.mp hn).1
    have d := dn n (List.mem_of_getElem? hn)
    obtain ⟨v, y0, y1⟩ := d.day
    obtain ⟨vt, yt0, yt1⟩ := dt.day
    refine ⟨_, _, gr_name 1, ?_⟩
    refine gd_setD 2 (ed_call c_shortest_hint hr (ad_cons (ed_call c_day_at hr (ad_cons (ed_var 1) ar_nil) ⟨n, rfl, rfl⟩) (ad_cons (er_meth0 (Φ := fun d => d = dayD (Cal.dayOf now.1)) (ed_var 0) K_Diary.cls tod c_Diary_today hr ⟨_, now, es, rfl, rfl⟩) (ad_cons (ed_attr (d := .str (ruleS q)) (ed_var 0) K_Diary.cls (K_Diary.na "rule" (by simp)) rfl) ar_nil))) ⟨(Cal.dayOf n).1, (Cal.dayOf n).2.1, (Cal.dayOf n).2.2, (Cal.dayOf now.1).1, (Cal.dayOf now.1).2.1, (Cal.dayOf now.1).2.2, q, q3, rfl, v, ⟨by omega, by omega⟩, ⟨vt.1, vt.2.1⟩, rfl⟩) ?_
    rw [num_of, num_of]
    have hb := bestT_len (q := q) (t := now.1) d
    have tx : ∀ g ∈ fitsR q now.1 n, HTx g := fun g hg => allH_tx d.yr (List.mem_filter.1 hg).1
    have sp1 : (" " : Str).length = 1 := by decide +kernel
    have nl := d.len dt
    refine gd_yield (d := .str (lineS q now.1 n)) (ed_join3 (ed_fmtS (y := bestT (fitsR q now.1 n)) ?txt (by rw [sizeLine_eq]; omega)) ed_str (ed_fmtI (ed_bin (ed_var 1) (ed_ix (ed_attr (d := nowD now) (ed_var 0) K_Diary.cls (K_Diary.na "now" (by simp)) rfl) ed_int (i_tup (d := .int now.1) rfl)) o_sub) (d.log dt)) (by rw [sp1, sizeLine_eq]; omega)) (by rw [e2, List.length_map, List.length_take]; omega) (gd_nil ⟨⟨_, _, rfl⟩, ?_⟩)
    case txt =>
      show ED _ _ [_, _, .dt (headD (fitsR q now.1 n))] _
      generalize fitsR q now.1 n = L at *
      cases L with
      | nil => exact ED.is (ed_if (k := true) (x := .str "?") (y := .none) (td_cmp (ed_var 2) ed_non o_isN) (fun _ => ed_str) (fun z => nomatch z)) rfl
      | cons g r => exact ED.is (ed_if (k := false) (x := .none) (y := .str (textH g)) (td_cmp (ed_var 2) ed_non o_isN) (fun z => nomatch z) (fun _ => ed_call c_hint_text hr (ad_cons (ed_var 2) ar_nil) ⟨g, rfl, tx g (by simp), rfl⟩)) rfl
    · rw [take_succ' hn, List.map_append, ← e2]; rfl
  · subst e1 e2
    rw [List.length_map, List.take_length]
    exact gd_nil hΦ
def R_Diary___len__ (K : Fg) : List D → (D → Prop) → Prop := fun as Φ => ∃ r now es, as = [diaryO K r now es] ∧ Φ (.int now.2.length)
theorem sc_Diary___len__ : FnScope ["self"] ["self"] (defScope s_Diary___len__) := ⟨rfl, rfl, rfl, by decide +kernel, rfl, by decide +kernel, by decide +kernel⟩
theorem ok_Diary___len__ (F : FnM K "__len__" "Diary.__len__" s_Diary___len__ [] [] f fd) (c_Diary___init__ : KiP P w K mg base 4 (He.ga K "Diary") (He.ma K (He.ga K "Diary") "__init__") (spI K (He.ga K "Diary") (R_Diary___init__ K))) (m_len : mg "len" = none) (K_Diary : ClK K mg "Diary" ["rule", "now", "earlier"] [] ["set_now", "note", "wait", "undo", "today", "days", "lines", "__len__", "__contains__", "__eq__"] [] [("FARTHEST", .int 400)]) : FnOk P w K mg base CX0 1 f fd ["self"] (spF K (R_Diary___len__ K)) := by
  refine fnF F sc_Diary___len__ (fun _ _ h => by obtain ⟨_, _, _, rfl, _⟩ := h; rfl) fun cdv A outer s H E hr as Φ ⟨r, now, es, e, hΦ⟩ => ?_
  subst e
  refine sds_retD (ed_callB (ad_cons (ed_ix (ed_attr (d := nowD now) (ed_var 0) K_Diary.cls (K_Diary.na "now" (by simp)) rfl) ed_int (i_tup rfl)) ar_nil) m_len boot_len c_lenT) ?_
  rw [List.length_map]
  exact hΦ
def R_Diary___contains__ (K : Fg) : List D → (D → Prop) → Prop := fun as Φ => ∃ r now es x, as = [diaryO K r now es, x] ∧ now.2.length < 1000 ∧ (isDayB x = false → Φ (.bool false)) ∧ (∀ y m d : Int, x = dayD (y, m, d) → isDayB x = true → Φ (.bool (decide (Cal.num y m d ∈ now.2))))
theorem any_int (k : Int) (L : List Int) : ((L.map PyData.int).any fun y => PyData.eqv y (.int k)) = decide (k ∈ L) := by
  induction L with
  | nil => rfl
  | cons a L ih =>
    simp only [List.map_cons, List.any_cons, ih, PyData.eqv, List.mem_cons]
    by_cases h : k = a
    · simp [h]
    · have h' : ¬ a = k := fun e => h e.symm
      simp [h, h']
theorem lk_ints (L : List Int) (n : Nat) : lks n (L.map PyData.int) = true := by
  induction L with
  | nil => rfl
  | cons a L ih =>
    show (lk n (.int a) && lks n (L.map PyData.int)) = true
    rw [ih]
    cases n <;> rfl
theorem sc_Diary___contains__ : FnScope ["self", "value"] ["self", "value"] (defScope s_Diary___contains__) := ⟨rfl, rfl, rfl, by decide +kernel, rfl, by decide +kernel, by decide +kernel⟩
theorem ok_Diary___contains__ (F : FnM K "__contains__" "Diary.__contains__" s_Diary___contains__ [] [] f fd) (c_is_day : Kn P w K mg base 3 "is_day" (spF K R_is_day)) (c_number_of : Kn P w K mg base 3 "number_of" (spF K R_number_of)) (c_Diary___init__ : KiP P w K mg base 4 (He.ga K "Diary") (He.ma K (He.ga K "Diary") "__init__") (spI K (He.ga K "Diary") (R_Diary___init__ K))) (K_Diary : ClK K mg "Diary" ["rule", "now", "earlier"] [] ["set_now", "note", "wait", "undo", "today", "days", "lines", "__len__", "__contains__", "__eq__"] [] [("FARTHEST", .int 400)]) : FnOk P w K mg base CX0 4 f fd ["self", "value"] (spF K (R_Diary___contains__ K)) := by
  refine fnF F sc_Diary___contains__ (fun _ _ h => by obtain ⟨_, _, _, _, rfl, _⟩ := h; rfl) fun cdv A outer s H E hr as Φ ⟨r, now, es, x, e, hz, h1, h2⟩ => ?_
  subst e
  cases c : isDayB x with
  | false => exact sds_retD (ED.is (ed_and (k := false) (l := false) ((ed_call c_is_day hr (ad_cons (ed_var 1) ar_nil) ⟨x, rfl, rfl⟩).is (by rw [c])) (fun z => by cases z)) rfl) (h1 c)
  | true =>
    obtain ⟨y, m, d, rfl, y0, y1, v⟩ := isDay_in c
    exact sds_retD (ED.is (ed_and (k := true) (ED.is (ed_call c_is_day hr (ad_cons (ed_var 1) ar_nil) ⟨_, rfl, rfl⟩) (by rw [c])) (fun _ => ed_one (ed_cmp (ed_call c_number_of hr (ad_cons (ed_var 1) ar_nil) ⟨_, _, _, rfl, v.1, v.2.1, rfl⟩) (ed_ix (ed_attr (d := nowD now) (ed_var 0) K_Diary.cls (K_Diary.na "now" (by simp)) rfl) ed_int (i_tup rfl)) (o_inDT (n := 1) (m := 2) (room65 hr) rfl (by simp [lk, lk_ints]; omega))))) (by rw [any_int]; rfl)) (h2 y m d rfl c)
def R_Diary___eq__ (K : Fg) : List D → (D → Prop) → Prop := fun as Φ => ∃ r now es x b, as = [diaryO K r now es, x] ∧ Φ (.bool b) ∧
  (((∃ ds, x = .list ds) ∧ b = false) ∨ (∃ r' now' es' n, x = diaryO K r' now' es' ∧ lk n r = true ∧ lk n r' = true ∧ n ≤ 60 ∧ lk n (nowD now) = true ∧ lk n (nowD now') = true ∧ lk n (.tuple (es.map nowD)) = true ∧ lk n (.tuple (es'.map nowD)) = true ∧ b = (PyData.eqv r r' && (PyData.eqv (nowD now) (nowD now') && PyData.eqv (.tuple (es.map nowD)) (.tuple (es'.map nowD))))))
theorem sc_Diary___eq__ : FnScope ["self", "other"] ["self", "other"] (defScope s_Diary___eq__) := ⟨rfl, rfl, rfl, by decide +kernel, rfl, by decide +kernel, by decide +kernel⟩
theorem ok_Diary___eq__ (F : FnM K "__eq__" "Diary.__eq__" s_Diary___eq__ [] [] f fd) (c_Diary___init__ : KiP P w K mg base 4 (He.ga K "Diary") (He.ma K (He.ga K "Diary") "__init__") (spI K (He.ga K "Diary") (R_Diary___init__ K))) (K_Diary : ClK K mg "Diary" ["rule", "now", "earlier"] [] ["set_now", "note", "wait", "undo", "today", "days", "lines", "__len__", "__contains__", "__eq__"] [] [("FARTHEST", .int 400)]) (L_Diary : ClL K "Diary" [("FARTHEST", .int 400)]) (m_isinstance : mg "isinstance" = none) : FnOk P w K mg base CX0 1 f fd ["self", "other"] (spF K (R_Diary___eq__ K)) := by
  refine fnF F sc_Diary___eq__ (fun _ _ h => by obtain ⟨_, _, _, _, _, rfl, _⟩ := h; rfl) fun cdv A outer s H E hr as Φ ⟨r, now, es, x, b, e, hΦ, hx⟩ => ?_
  subst e
  rcases hx with ⟨⟨ds, rfl⟩, rfl⟩ | ⟨r', now', es', n, rfl, l1, l2, hn, l3, l4, l5, l6, rfl⟩
  · exact sds_if1 (k := true) (TD.is (WD.td (wd_or (l := true) (td_not (td_val (ed_isO (ed_var 1) (tyI_lst L_Diary.lst.1 L_Diary.lst.2) m_isinstance K_Diary.gl))) (fun z => nomatch z))) rfl) (fun _ => sds_retD ed_bl hΦ) (fun z => nomatch z)
  · refine sds_if1 (k := !PyData.eqv r r') (TD.is (WD.td (wd_or (td_not (td_val (ed_isO (ed_var 1) (tyI_obj K_Diary.self) m_isinstance K_Diary.gl))) (fun _ => wd_or1 (td_cmp (ed_attr (d := r) (ed_var 0) K_Diary.cls (K_Diary.na "rule" (by simp)) rfl) (ed_attr (d := r') (ed_var 1) K_Diary.cls (K_Diary.na "rule" (by simp)) rfl) (o_neK hr.units l1 l2 (Nat.le_trans hn (by decide)) (Nat.le_trans hn (by decide))))))) (by simp)) (fun z => sds_retD ed_bl ?_) (fun z => ?_)
    · have z : PyData.eqv r r' = false := by simpa using z
      rw [z] at hΦ
      exact hΦ
    · have z : PyData.eqv r r' = true := by simpa using z
      rw [z, Bool.true_and] at hΦ
      exact sds_retD (ed_and (ed_cmp (ed_attr (d := nowD now) (ed_var 0) K_Diary.cls (K_Diary.na "now" (by simp)) rfl) (ed_attr (d := nowD now') (ed_var 1) K_Diary.cls (K_Diary.na "now" (by simp)) rfl) (o_eqK hr.units l3 l4 (Nat.le_trans hn (by decide)) (Nat.le_trans hn (by decide)))) (fun _ => ed_one (ed_cmp (ed_attr (d := .tuple (es.map nowD)) (ed_var 0) K_Diary.cls (K_Diary.na "earlier" (by simp)) rfl) (ed_attr (d := .tuple (es'.map nowD)) (ed_var 1) K_Diary.cls (K_Diary.na "earlier" (by simp)) rfl) (o_eqK hr.units l5 l6 (Nat.le_trans hn (by decide)) (Nat.le_trans hn (by decide)))))) hΦ
def R__law_draw : List D → (D → Prop) → Prop := fun ds Φ => ∃ n : Int, ds = [.int n] ∧ 0 < n ∧ n.natAbs.log2 < 9000 ∧ ∀ k : Int, 0 ≤ k → k < n → Φ (.int k)
abbrev tT (K : Fg) (k : Int) : TE := tOp (rIxL K) (tVar 0) (tC (.int k))
abbrev rInt1 : List V → Hp → VK → Prop := fun xs H Q => (∃ i, xs = [V.int i] ∧ Q (.int i) H) ∨ ∃ k, xs = [V.bl k] ∧ Q (.int (if k then 1 else 0)) H
abbrev rLen1 (K : Fg) : List V → Hp → VK → Prop := fun xs H Q => ∃ p ys, xs = [V.ref p] ∧ (SqL K H p ys ∨ SqT K H p ys) ∧ Q (.int ys.length) H
abbrev tI (t : TE) : TE := tCB rInt1 (tCons t tNil)
abbrev tLen0 (K : Fg) : TE := tCB (rLen1 K) (tCons (tT K 0) tNil)
abbrev rMod1 : R2 := rI (fun _ j => 0 < j) fun i j => .int (i % j)
abbrev rAdd1 : R2 := rI0 fun i j => .int (i + j)
abbrev rMul1 : R2 := rI CMul fun i j => .int (i * j)
abbrev tTail (K : Fg) : TS := tSeq (tAsg (tOp rMod1 (tI (tT K 2)) (tVar 1)) (gName 4)) (tSeq (tAsg (tOp (rI CDivW fun i j => .int (i / j)) (tT K 2) (tVar 1)) (gSub (tVar 0) (tC (.int 2)) rSetL)) (tRet (tVar 4)))
abbrev tStor (K : Fg) : TS := tSeq (tAsg (tOp rAdd1 (tT K 1) (tC (.int 1))) (gSub (tVar 0) (tC (.int 1)) rSetL)) (tAsg (tVar 3) (gSub (tVar 0) (tC (.int 2)) rSetL))
abbrev tHash (K : Fg) : TS := tSeq (tAsg (tOp rMod1 (tI (tOp rAdd1 (tVar 3) (tOp rMul1 (tC (.int 1000003)) (tT K 1)))) (tVar 2)) (gName 3)) (tSeq (tAsg (tOp rMod1 (tI (tOp rAdd1 (tOp rAdd1 (tOp rMul1 (tVar 3) (tVar 3)) (tOp rMul1 (tC (.int 1181783497276652981)) (tVar 3))) (tC (.int 2049848353892358983)))) (tVar 2)) (gName 3)) (tAsg (tOp rMod1 (tI (tOp rAdd1 (tOp rMul1 (tVar 3) (tVar 3)) (tC (.int 1442695040888963407)))) (tVar 2)) (gName 3)))
abbrev tCond (K : Fg) : TT := tOr (tTest (tOp (rI0 fun i j => .bl (decide (j ≤ i))) (tT K 1) (tLen0 K))) (tTest (tOp (rI0 fun i j => .bl (decide (i < j))) (tVar 3) (tOp (rI CPow fun i j => .int (i ^ j.toNat)) (tC (.int 10)) (tC (.int 18)))))
abbrev eEnd (Q : VK) : Ends := { nx := fun _ H' => Q .non H', rt := Q }
abbrev eTail (K : Fg) (Q : VK) : Ends := { nx := tTail K (eEnd Q), rt := Q }
theorem sc__law_draw : FnScope ["tape", "many", "prime", "cell", "found"] ["tape", "many"] (defScope s__law_draw) := ⟨rfl, rfl, rfl, by decide +kernel, rfl, by decide +kernel, by decide +kernel⟩
theorem ok__law_draw (F : FnP K "_law_draw" s__law_draw f fd) (m_len : mg "len" = none) (m_int : mg "int" = none) : FnOk P w K mg base CX0 1 f fd ["tape", "many"] (spT K R__law_draw) := by
  refine F.ok sc__law_draw (fun vs H Q E h => ?_) (fun cdv A outer s H vs Q E hr h => ?_)
  · obtain ⟨t, F, ws, ds, Φ, rfl, _, _, d, ⟨n, rfl, _⟩, _⟩ := h
    rw [List.length_cons, d.length]; rfl
  · obtain ⟨t, F, ws, ds, Φ, rfl, e, ta, d, ⟨n, rfl, hn, hb, hΦ⟩, q⟩ := h
    obtain ⟨p, l, ns⟩ := t
    obtain ⟨fp, fl, c, j, hc, hj, hp⟩ := ta
    dsimp only at fp fl hp q
    cases d with | cons d1 d2 =>
    cases d1; cases d2
    have nd := sc__law_draw.nd
    have hl : H l = some (.lst (ns.map V.int)) := e _ _ fl
    have nlp : l ≠ p := fun z => by rw [z, hp] at hl; cases ns <;> cases hl
    -- a state of the tape gives the end
    have key : ∀ (H1 : Hp) (c1 j1 : Int), H1 p = some (.lst [.ref l, .int c1, .int j1]) → (∀ a, a ≠ p → H1 a = H a) → 0 ≤ c1 → 0 ≤ j1 → Q (.int (j1 % n)) (upd H1 p (.lst [.ref l, .int c1, .int (j1 / n)])) := by
      intro H1 c1 j1 h1 h2 h3 h4
      refine q _ _ F _ (Ex.refl F) (fun a o ha => ?_) (fun a o ha hne => ?_) (fun _ _ h => h) ?_ (.int _) (hΦ _ (Int.emod_nonneg _ (by omega)) (Int.emod_lt_of_pos _ hn))
      · have hne : a ≠ p := ne_of_none ha fp
        rw [upd_ne hne, h2 a hne]; exact e a o ha
      · rw [upd_ne hne, h2 a hne]; exact ha
      · exact ⟨fp, fl, c1, j1 / n, h3, Int.ediv_nonneg h4 (by omega), upd_same⟩
    refine ⟨_, PSs.nox (pss_cons (ps_set (i := 2) nd rfl (Or.inl rfl) pe_int)
      (pss_cons (ps_if (pt_cmpR op_lt (pe_ix ix_list (pv 0) pe_int (fun _ _ => rfl)) (pv 1) (nomark _))
        (pss_cons (ps_set (i := 3) nd rfl (Or.inl rfl) pe_int)
        (pss_cons (ps_if (pt_cmpR op_gt (pe_callB call_len_seq (by rfl) m_len boot_len (pa_cons (pe_ix ix_list (pv 0) pe_int (fun _ _ => rfl)) pa_nil)) pe_int (nomark _))
          (pss_one (ps_set (i := 3) nd rfl (Or.inl rfl) (pe_ix ix_list (pe_ix ix_list (pv 0) pe_int (fun _ _ => rfl)) (pe_op op_mod (pe_callTy call_int1 (by rfl) m_int boot_int (pa_cons (pe_ix ix_list (pv 0) pe_int (fun _ _ => rfl)) pa_nil)) (pe_callB call_len_seq (by rfl) m_len boot_len (pa_cons (pe_ix ix_list (pv 0) pe_int (fun _ _ => rfl)) pa_nil))) (fun _ _ => rfl)))) pss_nil)
        (pss_cons (ps_if (PW.pt (pw_or (pt_cmpR op_ge (pe_ix ix_list (pv 0) pe_int (fun _ _ => rfl)) (pe_callB call_len_seq (by rfl) m_len boot_len (pa_cons (pe_ix ix_list (pv 0) pe_int (fun _ _ => rfl)) pa_nil)) (nomark _)) (pw_or1 (pt_cmpR op_lt (pv 3) (pe_op op_pow pe_int pe_int) (nomark _)))))
          (pss_cons (ps_set (i := 3) nd rfl (Or.inl rfl) (pe_op op_mod (pe_callTy call_int1 (by rfl) m_int boot_int (pa_cons (pe_op op_add (pv 3) (pe_op op_mul pe_int (pe_ix ix_list (pv 0) pe_int (fun _ _ => rfl)))) pa_nil)) (pv 2)))
          (pss_cons (ps_set (i := 3) nd rfl (Or.inl rfl) (pe_op op_mod (pe_callTy call_int1 (by rfl) m_int boot_int (pa_cons (pe_op op_add (pe_op op_add (pe_op op_mul (pv 3) (pv 3)) (pe_op op_mul pe_int (pv 3))) pe_int) pa_nil)) (pv 2)))
          (pss_one (ps_set (i := 3) nd rfl (Or.inl rfl) (pe_op op_mod (pe_callTy call_int1 (by rfl) m_int boot_int (pa_cons (pe_op op_add (pe_op op_mul (pv 3) (pv 3)) pe_int) pa_nil)) (pv 2)))))) pss_nil)
        (pss_cons (ps_asg (pe_op op_add (pe_ix ix_list (pv 0) pe_int (fun _ _ => rfl)) pe_int) (pg_sub (pv 0) pe_int set_list))
        (pss_one (ps_asg (pv 3) (pg_sub (pv 0) pe_int set_list))))))) pss_nil)
      (pss_cons (ps_set (i := 4) nd rfl (Or.inl rfl) (pe_op op_mod (pe_callTy call_int1 (by rfl) m_int boot_int (pa_cons (pe_ix ix_list (pv 0) pe_int (fun _ _ => rfl)) pa_nil)) (pv 1)))
      (pss_cons (ps_asg (pe_op op_fdivW (pe_ix ix_list (pv 0) pe_int (fun _ _ => rfl)) (pv 1)) (pg_sub (pv 0) pe_int set_list))
      (pss_one (ps_ret (pv 4))))))), ?_⟩
    -- the last three statements
    have tail : ∀ (H1 : Hp) (c1 j1 : Int) (x y : Option V), H1 p = some (.lst [.ref l, .int c1, .int j1]) → (∀ a, a ≠ p → H1 a = H a) → 0 ≤ c1 → 0 ≤ j1 →
        tTail K (eEnd Q) [some (.ref p), some (.int n), some (.int 2305843009213693951), x, y] H1 := by
      intro H1 c1 j1 x y h1 h2 h3 h4
      refine ⟨_, rfl, p, _, 2, .int j1, rfl, rfl, SqL.of h1, rfl, .inl ⟨j1, rfl, _, rfl, j1, n, rfl, rfl, hn, ?_⟩⟩
      refine ⟨_, rfl, p, _, 2, .int j1, rfl, rfl, SqL.of h1, rfl, _, rfl, j1, n, rfl, rfl, ⟨hn, hb⟩, ?_⟩
      refine ⟨_, rfl, p, _, 2, 2, rfl, rfl, h1, rfl, _, rfl, ?_⟩
      exact key H1 c1 j1 h1 h2 h3 h4
    -- the cell's store
    have stor : ∀ (z : Int), 0 ≤ z → tStor K (eTail K Q) [some (.ref p), some (.int n), some (.int 2305843009213693951), some (.int z), none] H := by
      intro z h2
      refine ⟨_, rfl, p, _, 1, .int c, rfl, rfl, SqL.of hp, rfl, _, _, rfl, rfl, _, rfl, p, _, 1, 1, rfl, rfl, hp, rfl, ?_⟩
      refine ⟨_, rfl, _, rfl, p, _, 2, 2, rfl, rfl, upd_same, rfl, ?_⟩
      rw [upd_upd]
      exact tail _ (c + 1) z _ _ upd_same (fun a ha => by rw [upd_ne ha]) (by omega) h2
    -- the cell hashed
    have bnd : ∀ x : Int, -(2 ^ 64) < x % 2305843009213693951 ∧ x % 2305843009213693951 < 2 ^ 64 := fun x => by
      have h1 := Int.emod_nonneg x (show (2305843009213693951 : Int) ≠ 0 by decide)
      have h2 := Int.emod_lt_of_pos x (show (0 : Int) < 2305843009213693951 by decide)
      omega
    have hash : ∀ (z : Int), tHash K { nx := tStor K (eTail K Q), rt := Q } [some (.ref p), some (.int n), some (.int 2305843009213693951), some (.int z), none] H := by
      intro z
      refine ⟨_, rfl, _, rfl, p, _, 1, .int c, rfl, rfl, SqL.of hp, rfl, _, _, rfl, rfl, .inl (by decide), z, _, rfl, rfl, .inl ⟨_, rfl, _, rfl, _, _, rfl, rfl, (by show (0 : Int) < 2305843009213693951; decide), ?_⟩⟩
      refine ⟨_, rfl, _, rfl, _, _, rfl, rfl, .inl (bnd _), _, rfl, _, _, rfl, rfl, .inl (by decide), _, _, rfl, rfl, _, _, rfl, rfl, .inl ⟨_, rfl, _, rfl, _, _, rfl, rfl, (by show (0 : Int) < 2305843009213693951; decide), ?_⟩⟩
      refine ⟨_, rfl, _, rfl, _, _, rfl, rfl, .inl (bnd _), _, _, rfl, rfl, .inl ⟨_, rfl, _, rfl, _, _, rfl, rfl, (by show (0 : Int) < 2305843009213693951; decide), ?_⟩⟩
      exact stor _ (Int.emod_nonneg _ (by decide))
    -- the cell as it is taken
    have after : ∀ (z : Int), tSeq (tIfS (tCond K) (tHash K) tNext) (tStor K) (eTail K Q) [some (.ref p), some (.int n), some (.int 2305843009213693951), some (.int z), none] H := by
      intro z
      refine ⟨_, rfl, p, _, 1, .int c, rfl, rfl, SqL.of hp, rfl, _, rfl, p, _, 0, .ref l, rfl, rfl, SqL.of hp, rfl, l, _, rfl, .inl (SqL.of hl), _, _, rfl, rfl, _, rfl, ?_⟩
      refine ite2 (fun h2 => iteT (hash z)) (fun h2 => ?_)
      refine ⟨_, rfl, 10, 18, rfl, rfl, ⟨by decide, by decide, by decide⟩, _, _, rfl, rfl, _, rfl, ?_⟩
      refine ite2 (fun h3 => hash z) (fun h3 => stor z ?_)
      simp at h3; omega
    refine ⟨_, rfl, p, _, 2, .int j, rfl, rfl, SqL.of hp, rfl, _, rfl, j, n, rfl, rfl, _, rfl, ?_⟩
    refine ite2 (fun h1 => ?_) (fun h1 => ?_)
    · refine ⟨_, rfl, p, _, 0, .ref l, rfl, rfl, SqL.of hp, rfl, l, _, rfl, .inl (SqL.of hl), _, _, rfl, rfl, _, rfl, ?_⟩
      refine ite2 (fun h2 => ?_) (fun h2 => after 0)
      have hlen : 0 < (ns.map V.int).length := by simpa using h2
      have i0 : 0 ≤ c % ((ns.map V.int).length : Int) := Int.emod_nonneg _ (by omega)
      have i1 : c % ((ns.map V.int).length : Int) < (ns.map V.int).length := Int.emod_lt_of_pos _ (by omega)
      have hat : ∃ z, L2.atI (ns.map V.int) (c % ((ns.map V.int).length : Int)) = some (.int z) := by
        have hi : (c % ((ns.map V.int).length : Int)).toNat < (ns.map V.int).length := by omega
        unfold L2.atI L2.ixN
        rw [if_pos i0, if_pos i1]
        show ∃ z, (ns.map V.int)[(c % ((ns.map V.int).length : Int)).toNat]? = some (V.int z)
        rw [List.getElem?_eq_getElem hi, List.getElem_map]
        exact ⟨_, rfl⟩
      obtain ⟨z, hz⟩ := hat
      exact ⟨_, rfl, p, _, 0, .ref l, rfl, rfl, SqL.of hp, rfl, _, rfl, p, _, 1, .int c, rfl, rfl, SqL.of hp, rfl, .inl ⟨c, rfl, _, rfl, p, _, 0, .ref l, rfl, rfl, SqL.of hp, rfl, l, _, rfl, .inl (SqL.of hl), _, _, rfl, rfl, by omega, l, _, _, .int z, rfl, rfl, SqL.of hl, hz, after z⟩⟩
    · exact tail H c j none none hp (fun _ _ => rfl) hc hj
def R__law_whole : List D → (D → Prop) → Prop := fun ds Φ => ∃ x, ds = [x] ∧ Φ (.bool (wholeB x))
theorem sc__law_whole : FnScope ["item"] ["item"] (defScope s__law_whole) := ⟨rfl, rfl, rfl, by decide +kernel, rfl, by decide +kernel, by decide +kernel⟩
theorem ok__law_whole (F : FnP K "_law_whole" s__law_whole f fd) (m_isinstance : mg "isinstance" = none) (m_int : mg "int" = none) (m_bool : mg "bool" = none) : FnOk P w K mg base CX0 1 f fd ["item"] (spF K R__law_whole) := by
  refine fnF F sc__law_whole (fun ds Φ h => by obtain ⟨_, rfl, _⟩ := h; rfl) (fun cdv A outer s H E hr ds Φ h => ?_)
  obtain ⟨x, rfl, hΦ⟩ := h
  have nd := sc__law_whole.nd
  refine sds_retD (d := .bool (wholeB x)) ?_ hΦ
  cases x with
  | int i => exact ED.is (ed_and (ed_isi (ed_var 0) m_isinstance m_int boot_int) (fun _ => (ed_one (ed_not (ed_isi (ed_var 0) m_isinstance m_bool boot_bool))))) rfl
  | bool b => exact ED.is (ed_and (ed_isi (ed_var 0) m_isinstance m_int boot_int) (fun _ => (ed_one (ed_not (ed_isi (ed_var 0) m_isinstance m_bool boot_bool))))) rfl
  | none => exact ED.is (ed_and (l := false) (ed_isi (ed_var 0) m_isinstance m_int boot_int) (fun z => absurd z (by simp [isDs, tyD]))) rfl
  | str y => exact ED.is (ed_and (l := false) (ed_isi (ed_var 0) m_isinstance m_int boot_int) (fun z => absurd z (by simp [isDs, tyD]))) rfl
  | list y => exact ED.is (ed_and (l := false) (ed_isi (ed_var 0) m_isinstance m_int boot_int) (fun z => absurd z (by simp [isDs, tyD]))) rfl
  | tuple y => exact ED.is (ed_and (l := false) (ed_isi (ed_var 0) m_isinstance m_int boot_int) (fun z => absurd z (by simp [isDs, tyD]))) rfl
  | dict y => exact ED.is (ed_and (l := false) (ed_isi (ed_var 0) m_isinstance m_int boot_int) (fun z => absurd z (by simp [isDs, tyD]))) rfl
def R__law_within : List D → (D → Prop) → Prop := fun ds Φ => ∃ x lo hi, ds = [x, .int lo, .int hi] ∧ Φ (.bool (intIn x lo hi))
theorem sc__law_within : FnScope ["item", "low", "high"] ["item", "low", "high"] (defScope s__law_within) := ⟨rfl, rfl, rfl, by decide +kernel, rfl, by decide +kernel, by decide +kernel⟩
theorem ok__law_within (F : FnP K "_law_within" s__law_within f fd) (c__law_whole : Kn P w K mg base 1 "_law_whole" (spF K R__law_whole)) : FnOk P w K mg base CX0 2 f fd ["item", "low", "high"] (spF K R__law_within) := by
  refine fnF F sc__law_within (fun ds Φ h => by obtain ⟨_, _, _, rfl, _⟩ := h; rfl) (fun cdv A outer s H E hr ds Φ h => ?_)
  obtain ⟨x, lo, hi, rfl, hΦ⟩ := h
  have nd := sc__law_within.nd
  refine sds_retD (d := .bool (intIn x lo hi)) ?_ hΦ
  cases x with
  | int i => exact ED.is (ed_and (ed_call c__law_whole hr (ad_cons (ed_var 0) ar_nil) ⟨_, rfl, rfl⟩) (fun h1 => (ed_one (tr_chain (ed_var 1) (ed_var 0) (ed_var 2) o_le o_le).1))) (by simp [wholeB, intIn])
  | _ => exact ED.is (ed_and (l := false) (ed_call c__law_whole hr (ad_cons (ed_var 0) ar_nil) ⟨_, rfl, rfl⟩) (fun z => absurd z (by simp [wholeB]))) rfl
def R_like (n : Nat) : List D → (D → Prop) → Prop := fun ds Φ => ∃ x : D, ds = [x, x] ∧ lk n x = true ∧ Φ (.bool true)
theorem sc__law_like : FnScope ["one", "two", "k"] ["one", "two"] (defScope s__law_like) := ⟨rfl, rfl, rfl, by decide +kernel, rfl, by decide +kernel, by decide +kernel⟩
theorem ok__law_like (F : FnP K "_law_like" s__law_like f fd) (hm : mg "_law_like" = some (.ref f)) (m_isinstance : mg "isinstance" = none) (m_list : mg "list" = none) (m_tuple : mg "tuple" = none) (m_bool : mg "bool" = none) (m_len : mg "len" = none) (m_range : mg "range" = none) : ∀ n : Nat, FnOk P w K mg base CX0 (n + 1) f fd ["one", "two"] (spF K (R_like n)) := by
  have step : ∀ n : Nat, (∀ m, n = m + 1 → Kn P w K mg base n "_law_like" (spF K (R_like m))) → FnOk P w K mg base CX0 (n + 1) f fd ["one", "two"] (spF K (R_like n)) := by
    intro n ih
    refine fnF F sc__law_like (fun ds Φ h => by obtain ⟨x, rfl, _⟩ := h; rfl) (fun cdv A outer s H E hr ds Φ h => ?_)
    obtain ⟨x, rfl, hx, hΦ⟩ := h
    have nd := sc__law_like.nd
    refine sds_if1 (td_val (ed_isi2 (ed_var 0) m_isinstance m_list m_tuple boot_list boot_tuple)) (fun hc => ?_) (fun hc => ?_)
    · -- a list or a tuple
      obtain ⟨ys, m, hn, hl, hys, hix, hlen⟩ : ∃ (ys : List D) (m : Nat), n = m + 1 ∧ ys.length ≤ 1000000 ∧ lks m ys = true ∧ (∀ {X : Cx} {i : Int} {d : D}, L2.atI ys i = some d → IxD X x (.int i) (fun z => z = d)) ∧ (∀ {X : Cx}, CaD X (.builtin "len") [x] (fun z => z = .int ys.length)) := by
        cases x with
        | list ys =>
          cases n with
          | zero => simp [lk] at hx
          | succ m =>
            simp only [lk, Bool.and_eq_true, decide_eq_true_eq] at hx
            exact ⟨ys, m, rfl, hx.1, hx.2, fun h => i_lst h, c_lenL⟩
        | tuple ys =>
          cases n with
          | zero => simp [lk] at hx
          | succ m =>
            simp only [lk, Bool.and_eq_true, decide_eq_true_eq] at hx
            exact ⟨ys, m, rfl, hx.1, hx.2, fun h => i_tup h, c_lenT⟩
        | none => cases hc
        | bool _ => cases hc
        | int _ => cases hc
        | str _ => cases hc
        | dict _ => cases hc
      subst hn
      have c := ih m rfl
      have is1 := fun {X : Cx} {e : Expr} {env : List Sl} {T : String} {t : Str} (h : ED X e env x) => h
      refine sds_if1 (k := false) ((WD.td (wd_or (td_cmp (ed_isi (ed_var 0) m_isinstance m_list boot_list) (ed_isi (ed_var 1) m_isinstance m_list boot_list) (o_neD hr.units rfl rfl rfl rfl)) (fun _ => wd_or1 (td_cmp (ed_isi (ed_var 0) m_isinstance m_tuple boot_tuple) (ed_isi (ed_var 1) m_isinstance m_tuple boot_tuple) (o_neD hr.units rfl rfl rfl rfl))))).is (by simp [PyData.eqv])) (fun z => by cases z) (fun _ => ?_)
      refine sds_if1 (k := false) ((td_cmp (ed_callB (ad_cons (ed_var 0) ar_nil) m_len boot_len hlen) (ed_callB (ad_cons (ed_var 1) ar_nil) m_len boot_len hlen) o_ne).is (by simp)) (fun z => by cases z) (fun _ => ?_)
      refine sds_retD (d := .bool true) ((ed_cmp (ex_lc (items := rangeD 0 (ys.length : Int).toNat) [("k", 2)] (fun _ => none) rfl (ir_rng1 (ad_cons (ed_callB (ad_cons (ed_var 0) ar_nil) m_len boot_len hlen) ar_nil) (by omega) m_range) (by rw [rangeD_len]; omega) (fun d hd => ?_)).ed (ed_lst ar_nil) (o_eqD (y := .list []) hr.units ?_ rfl ?_ rfl)).is ?_) hΦ
      · obtain ⟨i, hi, e⟩ : ∃ i : Nat, i < ys.length ∧ d = .int i := by
          unfold rangeD at hd
          obtain ⟨i, hi, e⟩ := List.mem_map.mp hd
          exact ⟨i, by simpa using hi, by rw [← e]; simp⟩
        subst e
        have at1 : L2.atI ys (i : Int) = some ys[i] := by rw [atI_get (by omega) (by omega)]; simp [hi]
        refine ⟨_, _, ⟨by simp, fun _ _ _ _ _ => gr_name 2, fun _ _ _ _ _ => tsd_one (TD.is (td_not (td_val (ed_call c hr (ad_cons (ed_ix (ed_var 0) (ed_var 2) (hix at1)) (ad_cons (ed_ix (ed_var 1) (ed_var 2) (hix at1)) ar_nil)) ⟨_, rfl, lks_mem hys (List.getElem_mem hi), rfl⟩ (by omega)))) rfl), fun z => by cases z⟩⟩
      all_goals rw [show List.filterMap (fun _ => none) (rangeD 0 (ys.length : Int).toNat) = ([] : List D) from List.filterMap_eq_nil_iff.mpr (fun _ _ => rfl)]
      · rfl
      · rfl
      · simp [PyData.eqv, PyData.eqvAll]
    · have fx : flatD x = true := by
        cases x with
        | dict k => rw [lk_dict] at hx; cases hx
        | list _ => cases hc
        | tuple _ => cases hc
        | _ => rfl
      refine sds_if1 (k := false) ((td_val (ed_isi2 (ed_var 1) m_isinstance m_list m_tuple boot_list boot_tuple)).is hc) (fun z => by cases z) (fun _ => ?_)
      refine sds_retD (d := .bool true) (ED.is (ed_and (ed_cmp (ed_isi (ed_var 0) m_isinstance m_bool boot_bool) (ed_isi (ed_var 1) m_isinstance m_bool boot_bool) (o_eqD hr.units rfl rfl rfl rfl)) (fun _ => ed_one (ed_cmp (ed_var 0) (ed_var 1) (o_eqD hr.units ?_ ?_ ?_ ?_)))) ?_) hΦ
      · cases x <;> first | rfl | cases fx
      · cases x <;> first | rfl | cases fx
      · exact lk_shaped_flat fx hx
      · exact lk_shaped_flat fx hx
      · rw [eqv_self_flat fx]; simp [PyData.eqv]
  intro n
  induction n with
  | zero => exact step 0 fun m e => by cases e
  | succ n ih => exact step (n + 1) fun m e => by cases e; exact kn_of F ih (fun _ _ _ _ _ _ us hl => match us, hl with | [_, _], _ => rfl) hm
def R__law_number : List D → (D → Prop) → Prop := fun ds Φ => ∃ y m d : Int, ds = [dayD (y, m, d)] ∧ 1 ≤ m ∧ m ≤ 12 ∧ Φ (.int (Cal.num y m d))
theorem sc__law_number : FnScope ["day", "year", "month", "date", "turn", "rest", "at"] ["day"] (defScope s__law_number) := ⟨rfl, rfl, rfl, by decide +kernel, rfl, by decide +kernel, by decide +kernel⟩
theorem ok__law_number (F : FnP K "_law_number" s__law_number f fd) : FnOk P w K mg base CX0 1 f fd ["day"] (spF K R__law_number) := by
  refine fnF F sc__law_number (fun ds Φ h => by obtain ⟨y, m, d, rfl, _⟩ := h; rfl) (fun cdv A outer s H E hr ds Φ h => ?_)
  obtain ⟨y, m, d, rfl, h1, h2, hΦ⟩ := h
  have nd := sc__law_number.nd
  refine sds_unpack (ed_var 0) (gr_tup rfl (grs_cons (gr_name 1) (grs_cons (gr_name 2) (grs_cons (gr_name 3) grs_nil))) rfl) ?_
  refine sds_setI 1 (ed_ifG (td_cmp (ed_var 2) ed_int o_lt) (fun h1 => (ed_bin (ed_var 1) ed_int o_sub)) (fun h2 => (ed_var 1)) ifI) (fun year h_year => ?_) nd
  refine sds_par 4 5 rfl (exs_cons (ed_bin (ed_var 1) ed_int (o_div ⟨by decide, by decide⟩)).ex (exs_cons (ed_bin (ed_var 1) (ed_bin ed_int (ed_bin (ed_var 1) ed_int (o_div ⟨by decide, by decide⟩)) (o_mul (.inl (by decide)))) o_sub).ex exs_nil)) ?_ nd
  refine sds_setI 6 (ed_bin (ed_bin (ed_bin (ed_bin (ed_bin ed_int (ed_ifG (td_cmp (ed_var 2) ed_int o_lt) (fun h3 => (ed_bin (ed_var 2) ed_int o_add)) (fun h4 => (ed_bin (ed_var 2) ed_int o_sub)) ifI) (o_mul (.inl (by decide)))) ed_int o_add) ed_int (o_div ⟨by decide, by decide⟩)) (ed_var 3) o_add) ed_int o_sub) (fun at_ h_at => ?_) nd
  refine sds_retD (ed_bin (ed_bin (ed_bin (ed_bin (ed_bin (ed_bin (ed_var 4) ed_int (o_mul (.inr (by decide)))) (ed_bin ed_int (ed_var 5) (o_mul (.inl (by decide)))) o_add) (ed_bin (ed_var 5) ed_int (o_div ⟨by decide, by decide⟩)) o_add) (ed_bin (ed_var 5) ed_int (o_div ⟨by decide, by decide⟩)) o_sub) (ed_var 6) o_add) ed_int o_sub) ?_
  rw [← Cal.lawNum_eq h1 h2] at hΦ
  have e : ∀ c : Prop, ∀ [Decidable c], ∀ a b : Int, (bif decide c then a else b) = if c then a else b := fun c _ a b => by by_cases h : c <;> simp [h]
  rw [e] at h_year h_at
  unfold Cal.lawNum at hΦ
  rw [h_at, h_year]
  exact hΦ
def R__law_day : List D → (D → Prop) → Prop := fun ds Φ => ∃ n : Int, ds = [.int n] ∧ Φ (dayD (Cal.dayOf n))
theorem sc__law_day : FnScope ["number", "turn", "rest", "year", "at", "month", "date"] ["number"] (defScope s__law_day) := ⟨rfl, rfl, rfl, by decide +kernel, rfl, by decide +kernel, by decide +kernel⟩
theorem ok__law_day (F : FnP K "_law_day" s__law_day f fd) : FnOk P w K mg base CX0 1 f fd ["number"] (spF K R__law_day) := by
  refine fnF F sc__law_day (fun ds Φ h => by obtain ⟨n, rfl, _⟩ := h; rfl) (fun cdv A outer s H E hr ds Φ h => ?_)
  obtain ⟨n, rfl, hΦ⟩ := h
  have nd := sc__law_day.nd
  refine sds_setI 1 (ed_bin (ed_bin (ed_var 0) ed_int o_add) ed_int (o_div ⟨by decide, by decide⟩)) (fun turn h_turn => ?_) nd
  refine sds_setI 2 (ed_bin (ed_bin (ed_var 0) ed_int o_add) (ed_bin ed_int (ed_var 1) (o_mul (.inl (by decide)))) o_sub) (fun rest h_rest => ?_) nd
  refine sds_setI 3 (ed_bin (ed_bin (ed_bin (ed_bin (ed_var 2) (ed_bin (ed_var 2) ed_int (o_div ⟨by decide, by decide⟩)) o_sub) (ed_bin (ed_var 2) ed_int (o_div ⟨by decide, by decide⟩)) o_add) (ed_bin (ed_var 2) ed_int (o_div ⟨by decide, by decide⟩)) o_sub) ed_int (o_div ⟨by decide, by decide⟩)) (fun year h_year => ?_) nd
  refine sds_setI 4 (ed_bin (ed_var 2) (ed_bin (ed_bin (ed_bin ed_int (ed_var 3) (o_mul (.inl (by decide)))) (ed_bin (ed_var 3) ed_int (o_div ⟨by decide, by decide⟩)) o_add) (ed_bin (ed_var 3) ed_int (o_div ⟨by decide, by decide⟩)) o_sub) o_sub) (fun at_ h_at => ?_) nd
  refine sds_setI 5 (ed_bin (ed_bin (ed_bin ed_int (ed_var 4) (o_mul (.inl (by decide)))) ed_int o_add) ed_int (o_div ⟨by decide, by decide⟩)) (fun month h_month => ?_) nd
  refine sds_setI 6 (ed_bin (ed_bin (ed_var 4) (ed_bin (ed_bin (ed_bin ed_int (ed_var 5) (o_mul (.inl (by decide)))) ed_int o_add) ed_int (o_div ⟨by decide, by decide⟩)) o_sub) ed_int o_add) (fun date h_date => ?_) nd
  refine sds_setI 3 (ed_bin (ed_var 3) (ed_bin ed_int (ed_var 1) (o_mul (.inl (by decide)))) o_add) (fun year2 h_year2 => ?_) nd
  refine sds_retD (ed_ifG (z := dayD (if month < 10 then (year2, month + 3, date) else (year2 + 1, month - 9, date))) (td_cmp (ed_var 5) ed_int o_lt) (fun h1 => (ed_tup (ad_cons (ed_var 3) (ad_cons (ed_bin (ed_var 5) ed_int o_add) (ad_cons (ed_var 6) ar_nil))))) (fun h2 => (ed_tup (ad_cons (ed_bin (ed_var 3) ed_int o_add) (ad_cons (ed_bin (ed_var 5) ed_int o_sub) (ad_cons (ed_var 6) ar_nil))))) (by by_cases h : month < 10 <;> simp [h, dayD])) ?_
  subst h_turn h_rest h_year h_at h_month h_date h_year2
  exact hΦ
def R__law_leap : List D → (D → Prop) → Prop := fun ds Φ => ∃ y : Int, ds = [.int y] ∧ Φ (.bool (Cal.leap y))
theorem sc__law_leap : FnScope ["year"] ["year"] (defScope s__law_leap) := ⟨rfl, rfl, rfl, by decide +kernel, rfl, by decide +kernel, by decide +kernel⟩
theorem ok__law_leap (F : FnP K "_law_leap" s__law_leap f fd) (m_int : mg "int" = none) : FnOk P w K mg base CX0 1 f fd ["year"] (spF K R__law_leap) := by
  refine fnF F sc__law_leap (fun ds Φ h => by obtain ⟨y, rfl, _⟩ := h; rfl) (fun cdv A outer s H E hr ds Φ h => ?_)
  obtain ⟨y, rfl, hΦ⟩ := h
  have nd := sc__law_leap.nd
  have I : ∀ {pos p p2 : Pos}, ED (cxF P w K mg base ["year"] "_law_leap" (defScope s__law_leap) f cdv A outer s H E) (.Call (.Name "int" p) [.Name "year" p2] [] pos) [.dt (.int y)] (.int y) := fun {pos p p2} => ed_callTy (ad_cons (ed_var 0) ar_nil) m_int boot_int c_int
  exact sds_retD (ed_and (ed_cmp (ed_bin I ed_int (o_mod (by decide))) ed_int o_eq) (fun h1 => ed_one (ed_or (ed_cmp (ed_bin I ed_int (o_mod (by decide))) ed_int o_ne) (fun h2 => ed_one (ed_cmp (ed_bin I ed_int (o_mod (by decide))) ed_int o_eq))))) hΦ
def R__law_length : List D → (D → Prop) → Prop := fun ds Φ => ∃ y m : Int, ds = [.int y, .int m] ∧ Φ (.int (Cal.mlen y m))
theorem sc__law_length : FnScope ["year", "month"] ["year", "month"] (defScope s__law_length) := ⟨rfl, rfl, rfl, by decide +kernel, rfl, by decide +kernel, by decide +kernel⟩
theorem ok__law_length (F : FnP K "_law_length" s__law_length f fd) (c__law_leap : Kn P w K mg base 1 "_law_leap" (spF K R__law_leap)) : FnOk P w K mg base CX0 2 f fd ["year", "month"] (spF K R__law_length) := by
  refine fnF F sc__law_length (fun ds Φ h => by obtain ⟨y, m, rfl, _⟩ := h; rfl) (fun cdv A outer s H E hr ds Φ h => ?_)
  obtain ⟨y, m, rfl, hΦ⟩ := h
  have nd := sc__law_length.nd
  refine sds_if1 (td_cmp (ed_var 1) ed_int o_eq) (fun hc => ?_) (fun hc => ?_)
  · refine sds_retD (ed_ifG (td_val (ed_call c__law_leap hr (ad_cons (ed_var 0) ar_nil) ⟨_, rfl, rfl⟩)) (fun h1 => ed_int) (fun h2 => ed_int) ifI) ?_
    have hc := of_decide_eq_true hc
    unfold Cal.mlen at hΦ
    rw [if_pos hc] at hΦ
    cases q : Cal.leap y <;> simpa [q] using hΦ
  · refine sds_retD (ed_ifG (td_cmp (ed_var 1) (ed_tup (ad_cons ed_int (ad_cons ed_int (ad_cons ed_int (ad_cons ed_int ar_nil))))) (o_inT rfl rfl)) (fun h3 => ed_int) (fun h4 => ed_int) ifI) ?_
    have hc := of_decide_eq_false hc
    unfold Cal.mlen at hΦ
    rw [if_neg hc] at hΦ
    have e : (([PyData.int 4, .int 6, .int 9, .int 11].any fun y => PyData.eqv y (.int m)) = true) ↔ (m = 4 ∨ m = 6 ∨ m = 9 ∨ m = 11) := by
      simp [PyData.eqv]; omega
    by_cases q : m = 4 ∨ m = 6 ∨ m = 9 ∨ m = 11
    · rw [if_pos q] at hΦ; rw [e.mpr q]; exact hΦ
    · rw [if_neg q] at hΦ; rw [Bool.eq_false_iff.mpr (fun z => q (e.mp z))]; exact hΦ
def R__law_parts : List D → (D → Prop) → Prop := fun ds Φ => ∃ n : Int, ds = [.int n] ∧ Φ (.tuple [.int ((n - 1) % 7), .int (Cal.dayOf n).2.2, .int (Cal.dayOf n).2.1, .int (Cal.dayOf n).1])
theorem sc__law_parts : FnScope ["number", "year", "month", "date"] ["number"] (defScope s__law_parts) := ⟨rfl, rfl, rfl, by decide +kernel, rfl, by decide +kernel, by decide +kernel⟩
theorem ok__law_parts (F : FnP K "_law_parts" s__law_parts f fd) (c__law_day : Kn P w K mg base 1 "_law_day" (spF K R__law_day)) (m_int : mg "int" = none) : FnOk P w K mg base CX0 2 f fd ["number"] (spF K R__law_parts) := by
  refine fnF F sc__law_parts (fun ds Φ h => by obtain ⟨_, rfl, _⟩ := h; rfl) (fun cdv A outer s H E hr ds Φ h => ?_)
  obtain ⟨n, rfl, hΦ⟩ := h
  have nd := sc__law_parts.nd
  refine sds_unpack (ed_call c__law_day hr (ad_cons (ed_var 0) ar_nil) ⟨_, rfl, rfl⟩) (gr_tup rfl (grs_cons (gr_name 1) (grs_cons (gr_name 2) (grs_cons (gr_name 3) grs_nil))) rfl) ?_
  refine sds_retD (ed_tup (ad_cons (ed_bin (ed_callTy (ad_cons (ed_bin (ed_var 0) ed_int o_add) ar_nil) m_int boot_int c_int) ed_int (o_mod (by decide))) (ad_cons (ed_var 3) (ad_cons (ed_var 2) (ad_cons (ed_var 1) ar_nil))))) ?_
  rw [show (n + 6) % 7 = (n - 1) % 7 by omega]
  exact hΦ
def R__law_in : List D → (D → Prop) → Prop := fun ds Φ => ∃ h y m, ds = [hintD h, .int y, .int m] ∧ 1 ≤ m ∧ m ≤ 12 ∧ Cal.HOk h ∧ Φ (.list ((Cal.daysIn h (12 * y + m - 1)).map PyData.int))
theorem sc__law_in : FnScope ["hint", "year", "month", "first", "length", "dates", "date"] ["hint", "year", "month"] (defScope s__law_in) := ⟨rfl, rfl, rfl, by decide +kernel, rfl, by decide +kernel, by decide +kernel⟩
theorem ok__law_in (F : FnP K "_law_in" s__law_in f fd) (c__law_number : Kn P w K mg base 1 "_law_number" (spF K R__law_number)) (c__law_length : Kn P w K mg base 2 "_law_length" (spF K R__law_length)) (m_int : mg "int" = none) (m_list : mg "list" = none) (m_range : mg "range" = none) : FnOk P w K mg base CX0 3 f fd ["hint", "year", "month"] (spF K R__law_in) := by
  refine fnF F sc__law_in (fun ds Φ h => by obtain ⟨_, _, _, rfl, _⟩ := h; rfl) (fun cdv A outer s H E hr ds Φ h => ?_)
  obtain ⟨h, y, m, rfl, m1, m2, hk, hΦ⟩ := h
  have nd := sc__law_in.nd
  obtain ⟨hw, hd, hm, hy⟩ := h
  have t1 : (12 * y + m - 1) % 12 + 1 = m := by omega
  have t2 : (12 * y + m - 1) / 12 = y := by omega
  have t3 := Cal.mI_of (y := y) m1 m2
  have t4 := Cal.lI_of (y := y) m1 m2
  have l0 := Cal.mlen_lo y m
  have l1 := Cal.mlen_hi y m
  have t6 := Cal.mI_succ (12 * y + m - 1)
  have done : ∀ L : List Int, Cal.Sorted L → (∀ x, x ∈ L ↔ (Cal.mst y m ≤ x ∧ x < Cal.mst y m + Cal.mlen y m ∧ ((hw = none ∨ hw = some ((x - 1) % 7)) ∧ (hd = none ∨ hd = some (x - Cal.mst y m + 1)) ∧ (hm = none ∨ hm = some m) ∧ (hy = none ∨ hy = some y)))) → Φ (.list (L.map PyData.int)) := by
    intro L hs hL
    rw [Cal.days_eq (h := ⟨hw, hd, hm, hy⟩) (t := 12 * y + m - 1) hs (fun x => ?_)]
    · exact hΦ
    · rw [hL, t6, t3, t4]
      constructor
      · rintro ⟨a, b, c⟩
        refine ⟨a, b, (Cal.fit_iff (t := 12 * y + m - 1) (by omega) (by omega)).2 ?_⟩
        rw [t1, t2, t3]; exact c
      · rintro ⟨a, b, c⟩
        have := (Cal.fit_iff (t := 12 * y + m - 1) (by omega) (by omega)).1 c
        rw [t1, t2, t3] at this
        exact ⟨a, b, this⟩
  refine sds_if1 (WD.td (wd_or (td_cmp (ed_ix (ed_var 0) ed_int (i_tup rfl)) (ed_tup (ad_cons ed_non (ad_cons (ed_var 2) ar_nil))) (o_notInT flat_oD rfl)) (fun h1 => (wd_or1 (td_cmp (ed_ix (ed_var 0) ed_int (i_tup rfl)) (ed_tup (ad_cons ed_non (ad_cons (ed_var 1) ar_nil))) (o_notInT flat_oD rfl)))))) (fun hc => ?_) (fun hc => ?_)
  · rw [notin_D, notin_D] at hc
    refine sds_retD (ed_lst ar_nil) (done [] List.Pairwise.nil fun x => ⟨fun z => (by simp at z), fun ⟨_, _, _, _, q1, q2⟩ => ?_⟩)
    rw [Cal.ok_iff.2 q1, Cal.ok_iff.2 q2] at hc
    cases hc
  rw [notin_D, notin_D] at hc
  have hm' : hm = none ∨ hm = some m := Cal.ok_iff.1 (by cases q : Cal.ok hm m <;> simp_all)
  have hy' : hy = none ∨ hy = some y := Cal.ok_iff.1 (by cases q : Cal.ok hy y <;> simp_all)
  refine sds_unpack (ed_tup (ad_cons (ed_call c__law_number hr (ad_cons (ed_tup (ad_cons (ed_var 1) (ad_cons (ed_var 2) (ad_cons ed_int ar_nil)))) ar_nil) ⟨_, _, _, rfl, m1, m2, rfl⟩) (ad_cons (ed_call c__law_length hr (ad_cons (ed_var 1) (ad_cons (ed_var 2) ar_nil)) ⟨_, _, rfl, rfl⟩) ar_nil))) (gr_tup rfl (grs_cons (gr_name 3) (grs_cons (gr_name 4) grs_nil)) rfl) ?_
  have hn1 : Cal.num y m 1 = Cal.mst y m := by unfold Cal.num; omega
  rw [hn1]
  generalize hM : Cal.mst y m = M at *
  generalize hL : Cal.mlen y m = L at *
  refine sds_setD 5 (ed_listRg2 ed_int (ed_bin (ed_var 4) ed_int o_add) (by decide) (by omega) ⟨by decide, by omega⟩ rfl m_list m_range) ?_ nd
  -- the dates
  refine sds_if (fun e => ∃ ds : List Int, e = [.dt (hintD ⟨hw, hd, hm, hy⟩), .dt (.int y), .dt (.int m), .dt (.int M), .dt (.int L), .dt (.list (ds.map PyData.int)), .un] ∧ Cal.Sorted ds ∧ ds.length ≤ 31 ∧ ∀ x, x ∈ ds ↔ (1 ≤ x ∧ x ≤ L ∧ (hd = none ∨ hd = some x))) (td_cmp (ed_ix (ed_var 0) ed_int (i_tup rfl)) ed_non o_notN) (fun hc => ?_) (fun hc => ?_) (fun e he => ?_)
  · rw [isNone_oD] at hc
    cases hd with
    | none => cases hc
    | some d =>
      have d1 := hk.d d rfl
      refine sds_setD 5 (ed_ifG (td_cmp (ed_ix (ed_var 0) ed_int (i_tup rfl)) (ed_var 4) o_le) (fun h2 => (ed_lst (ad_cons (ed_ix (ed_var 0) ed_int (i_tup rfl)) ar_nil))) (fun h3 => (ed_lst ar_nil)) (z := .list ((if d ≤ L then [d] else []).map PyData.int)) (by by_cases q : d ≤ L <;> simp [q, oD])) (sds_nil ⟨_, rfl, ?_, ?_, fun x => ?_⟩) nd
      · unfold Cal.Sorted; split <;> simp
      · split <;> simp
      · split
        · simp; omega
        · simp; omega
  · rw [isNone_oD] at hc
    cases hd with
    | some d => cases hc
    | none =>
      refine sds_nil ⟨(List.range (L + 1 - 1).toNat).map (fun (i : Nat) => 1 + (i : Int)), ?_, Cal.sorted_range _ _, by simp; omega, fun x => ?_⟩
      · rw [List.map_map]; rfl
      · simp only [List.mem_map, List.mem_range]
        constructor
        · rintro ⟨i, h1, h2⟩; exact ⟨by omega, by omega, by simp⟩
        · rintro ⟨h1, h2, _⟩; exact ⟨(x - 1).toNat, by omega, by omega⟩
  obtain ⟨ds, rfl, sds, lds, mds⟩ := he
  have srt : Cal.Sorted (ds.map fun x => M + x - 1) := by
    unfold Cal.Sorted
    rw [List.pairwise_map]
    exact List.Pairwise.imp (fun {a b} h => by omega) sds
  refine sds_if1 (td_cmp (ed_ix (ed_var 0) ed_int (i_tup rfl)) ed_non o_isN) (fun hc => ?_) (fun hc => ?_)
  · rw [isNone_oD] at hc
    cases hw with
    | some w => cases hc
    | none =>
      refine sds_retD (ex_lcA [("date", 6)] ds PyData.int (fun x => .int (M + x - 1)) rfl (ir_lst (ed_var 5)) (by omega) (fun a ha => ⟨_, _, by decide, fun _ _ _ _ _ => (gr_name 6), fun _ _ _ _ _ => tsd_nil, fun _ _ _ _ _ _ => (ed_bin (ed_bin (ed_var 3) (ed_var 6) o_add) ed_int o_sub)⟩)).ed ?_
      have := done (ds.map fun x => M + x - 1) srt fun x => ?_
      · rwa [List.map_map] at this
      · simp only [List.mem_map]
        constructor
        · rintro ⟨a, ha, e⟩
          obtain ⟨q1, q2, q3⟩ := (mds a).1 ha
          refine ⟨by omega, by omega, by simp, ?_, hm', hy'⟩
          rwa [show x - M + 1 = a by omega]
        · rintro ⟨a, b, _, c, _⟩
          exact ⟨x - M + 1, (mds _).2 ⟨by omega, by omega, c⟩, by omega⟩
  · rw [isNone_oD] at hc
    cases hw with
    | none => cases hc
    | some w =>
      refine sds_retD (ex_lcM [("date", 6)] ds PyData.int (fun x => decide ((M + x + 5) % 7 = w)) (fun x => .int (M + x - 1)) rfl (ir_lst (ed_var 5)) (by omega) (fun a ha => ⟨_, _, by decide, fun _ _ _ _ _ => (gr_name 6), fun _ _ _ _ _ => (tsd_one (td_cmp (ed_bin (ed_callTy (ad_cons (ed_bin (ed_bin (ed_var 3) (ed_var 6) o_add) ed_int o_add) ar_nil) m_int boot_int c_int) ed_int (o_mod (by decide))) (ed_ix (ed_var 0) ed_int (i_tup rfl)) o_eq)), fun _ _ _ _ _ _ => (ed_bin (ed_bin (ed_var 3) (ed_var 6) o_add) ed_int o_sub)⟩)).ed ?_
      have := done ((ds.filter fun x => decide ((M + x + 5) % 7 = w)).map fun x => M + x - 1) ?_ fun x => ?_
      · rwa [List.map_map] at this
      · unfold Cal.Sorted
        rw [List.pairwise_map]
        exact List.Pairwise.imp (fun {a b} h => by omega) (List.Pairwise.filter _ sds)
      · simp only [List.mem_map, List.mem_filter, decide_eq_true_eq]
        constructor
        · rintro ⟨a, ⟨ha, hq⟩, e⟩
          obtain ⟨q1, q2, q3⟩ := (mds a).1 ha
          refine ⟨by omega, by omega, .inr (by congr 1; omega), ?_, hm', hy'⟩
          rwa [show x - M + 1 = a by omega]
        · rintro ⟨a, b, e, c, _⟩
          have e : w = (x - 1) % 7 := by simpa using e
          exact ⟨x - M + 1, ⟨(mds _).2 ⟨by omega, by omega, c⟩, by omega⟩, by omega⟩
def R__law_next : List D → (D → Prop) → Prop := fun ds Φ => ∃ h n, ds = [hintD h, .int n] ∧ Cal.HOk h ∧ Φ (oD (Cal.nxt h n))
theorem sc__law_next : FnScope ["hint", "number", "year", "month", "date", "turn", "some", "one"] ["hint", "number"] (defScope s__law_next) := ⟨rfl, rfl, rfl, by decide +kernel, rfl, by decide +kernel, by decide +kernel⟩
theorem ok__law_next (F : FnP K "_law_next" s__law_next f fd) (c__law_day : Kn P w K mg base 1 "_law_day" (spF K R__law_day)) (c__law_in : Kn P w K mg base 3 "_law_in" (spF K R__law_in)) (m_range : mg "range" = none) : FnOk P w K mg base CX0 4 f fd ["hint", "number"] (spF K R__law_next) := by
  refine fnF F sc__law_next (fun ds Φ h => by obtain ⟨_, _, rfl, _⟩ := h; rfl) (fun cdv A outer s H E hr ds Φ h => ?_)
  obtain ⟨h, n, rfl, hk, hΦ⟩ := h
  have nd := sc__law_next.nd
  have done : ∀ r, Cal.IsNext h n r → Φ (oD r) := fun r hr => by rw [Cal.nxt_eq hr]; exact hΦ
  have dp := Cal.dayOf_parts n
  refine sds_unpack (ed_call c__law_day hr (ad_cons (ed_var 1) ar_nil) ⟨_, rfl, rfl⟩) (gr_tup rfl (grs_cons (gr_name 2) (grs_cons (gr_name 3) (grs_cons (gr_name 4) grs_nil))) rfl) ?_
  rw [dp]
  let J : List Sl → Prop := fun e => ∃ t0 : Int, Cal.NxInv h n t0 ∧ Cal.NSt h n t0 ∧ ∃ s4, e = [.dt (hintD h), .dt (.int n), .dt (.int (t0 / 12)), .dt (.int (t0 % 12 + 1)), s4, .un, .un, .un]
  refine sds_if J (WD.td (wd_and (td_cmp (ed_ix (ed_var 0) ed_int (i_tup rfl)) ed_non o_notN) (fun h1 => (wd_and1 (td_cmp (ed_ix (ed_var 0) ed_int (i_tup rfl)) (ed_var 2) (o_gtO h1)))))) (fun hc => ?_) (fun hc => ?_) (fun e he => ?_)
  · obtain ⟨Y, eY, hY⟩ := yr_true (P := fun v => Cal.tOf n / 12 < v) hc
    refine sds_par 2 3 rfl (exs_cons (ED.ex (d := .int Y) (ed_ix (ed_var 0) ed_int (i_tup (by show some (oD h.y) = _; rw [eY]; rfl)))) (exs_cons ed_int.ex exs_nil)) (sds_nil ?_) nd
    obtain ⟨a, b⟩ := Cal.nx_startY eY hY
    refine ⟨_, a, b, .dt (.int (n - Cal.mI (Cal.tOf n) + 1)), ?_⟩
    rw [show 12 * Y / 12 = Y by omega, show 12 * Y % 12 + 1 = 1 by omega]
    rfl
  · obtain ⟨a, b⟩ := Cal.nx_start (h := h) (n := n) (fun v e => by have := yr_false (P := fun v => Cal.tOf n / 12 < v) hc v e; omega)
    exact sds_nil ⟨_, a, b, _, rfl⟩
  obtain ⟨t0, i0, S, s4, rfl⟩ := he
  let I : Nat → List Sl → Prop := fun k e => ∃ s4 s5 s6 s7, e = [.dt (hintD h), .dt (.int n), .dt (.int ((t0 + k) / 12)), .dt (.int ((t0 + k) % 12 + 1)), s4, s5, s6, s7] ∧ Cal.NxInv h n (t0 + k)
  refine sds_for I (fun _ => False) rfl (ir_rng1 (ad_cons ed_int ar_nil) (by decide) m_range) ⟨_, _, _, _, by rw [show t0 + ((0 : Nat) : Int) = t0 by omega], by simpa using i0⟩ (fun k dk e hk' hI => ⟨_, _, (gr_name 5), ?_⟩) (fun e he => ?_)
  · obtain ⟨s4, s5, s6, s7, rfl, hi⟩ := hI
    have nxt_t : t0 + ((k + 1 : Nat) : Int) = t0 + (k : Int) + 1 := by omega
    generalize ht : t0 + (k : Int) = t at *
    refine sds_if1 (WD.td (wd_and (td_cmp (ed_ix (ed_var 0) ed_int (i_tup rfl)) ed_non o_notN) (fun h2 => (wd_and1 (td_cmp (ed_var 2) (ed_ix (ed_var 0) ed_int (i_tup rfl)) (o_gtO' h2)))))) (fun hc => ?_) (fun hc => ?_)
    · obtain ⟨Y, eY, hY⟩ := yr_true (P := fun v => v < t / 12) hc
      exact sds_retD ed_non (done none (Cal.nx_gone hi eY hY))
    have te : 12 * (t / 12) + (t % 12 + 1) - 1 = t := by omega
    refine sds_lcM 6 [("one", 7)] (Cal.daysIn h t) PyData.int (fun j => decide (n ≤ j)) PyData.int rfl (ir_lst (ED.is (ed_call c__law_in hr (ad_cons (ed_var 0) (ad_cons (ed_var 2) (ad_cons (ed_var 3) ar_nil))) ⟨_, _, _, rfl, by omega, by omega, hk, rfl⟩) (by rw [te]))) (Nat.le_trans (Cal.days_len h t) (by decide)) (fun a ha => ⟨_, _, by decide, fun _ _ _ _ _ => (gr_name 7), fun _ _ _ _ _ => (tsd_one (td_cmp (ed_var 7) (ed_var 1) o_ge)), fun _ _ _ _ _ _ => (ed_var 7)⟩) ?_
    have hll : ((Cal.daysIn h t).filter fun j => decide (n ≤ j)).length ≤ 1000000 := Nat.le_trans (List.length_filter_le _ _) (Nat.le_trans (Cal.days_len h t) (by decide))
    generalize hL : (Cal.daysIn h t).filter (fun j => decide (n ≤ j)) = L at *
    refine sds_if1 (td_own 6 rfl (td_cmp (ed_var 6) (ed_lst ar_nil) (o_neK (n := 1) (m := 1) hr.units (lk_list hll fun _ _ => rfl) rfl))) (fun hc => ?_) (fun hc => ?_)
    · rw [eqv_nil] at hc
      cases L with
      | nil => cases hc
      | cons a r => exact sds_retD (ed_own 6 rfl (ed_ix (ed_var 6) ed_int (i_lst (by rw [atI_get (by decide) (by simp)]; rfl)))) (done (some a) (Cal.lnx_some hL hi))
    rw [eqv_nil] at hc
    cases L with
    | cons a r => cases hc
    | nil =>
      refine sds_unpack (ed_ifG (td_cmp (ed_var 3) ed_int o_lt) (fun h3 => (ed_tup (ad_cons (ed_var 2) (ad_cons (ed_bin (ed_var 3) ed_int o_add) ar_nil)))) (fun h4 => (ed_tup (ad_cons (ed_bin (ed_var 2) ed_int o_add) (ad_cons ed_int ar_nil)))) (z := .tuple [.int ((t + 1) / 12), .int ((t + 1) % 12 + 1)]) ?_) (gr_tup rfl (grs_cons (gr_name 2) (grs_cons (gr_name 3) grs_nil)) rfl) ?_
      · by_cases q : t % 12 + 1 < 12
        · simp [q]; omega
        · simp [q]; omega
      · exact sds_nil ⟨_, _, _, _, by rw [nxt_t]; rfl, by rw [nxt_t]; exact Cal.lnx_step hL hi⟩
  obtain ⟨s4, s5, s6, s7, rfl, hi⟩ := he.resolve_right id
  exact sds_retD ed_non (done none (Cal.nx_end S (by rw [rangeD_len]; decide) hi))
def R__law_last : List D → (D → Prop) → Prop := fun ds Φ => ∃ h n, ds = [hintD h, .int n] ∧ Cal.HOk h ∧ Φ (oD (Cal.lst h n))
theorem sc__law_last : FnScope ["hint", "number", "year", "month", "date", "turn", "some", "one"] ["hint", "number"] (defScope s__law_last) := ⟨rfl, rfl, rfl, by decide +kernel, rfl, by decide +kernel, by decide +kernel⟩
theorem ok__law_last (F : FnP K "_law_last" s__law_last f fd) (c__law_day : Kn P w K mg base 1 "_law_day" (spF K R__law_day)) (c__law_in : Kn P w K mg base 3 "_law_in" (spF K R__law_in)) (m_range : mg "range" = none) : FnOk P w K mg base CX0 4 f fd ["hint", "number"] (spF K R__law_last) := by
  refine fnF F sc__law_last (fun ds Φ h => by obtain ⟨_, _, rfl, _⟩ := h; rfl) (fun cdv A outer s H E hr ds Φ h => ?_)
  obtain ⟨h, n, rfl, hk, hΦ⟩ := h
  have nd := sc__law_last.nd
  have done : ∀ r, Cal.IsLast h n r → Φ (oD r) := fun r hr => by rw [Cal.lst_eq hr]; exact hΦ
  have dp := Cal.dayOf_parts n
  refine sds_unpack (ed_call c__law_day hr (ad_cons (ed_var 1) ar_nil) ⟨_, rfl, rfl⟩) (gr_tup rfl (grs_cons (gr_name 2) (grs_cons (gr_name 3) (grs_cons (gr_name 4) grs_nil))) rfl) ?_
  rw [dp]
  let J : List Sl → Prop := fun e => ∃ t0 : Int, Cal.LsInv h n t0 ∧ Cal.LSt h n t0 ∧ ∃ s4, e = [.dt (hintD h), .dt (.int n), .dt (.int (t0 / 12)), .dt (.int (t0 % 12 + 1)), s4, .un, .un, .un]
  refine sds_if J (WD.td (wd_and (td_cmp (ed_ix (ed_var 0) ed_int (i_tup rfl)) ed_non o_notN) (fun h1 => (wd_and1 (td_cmp (ed_ix (ed_var 0) ed_int (i_tup rfl)) (ed_var 2) (o_ltO h1)))))) (fun hc => ?_) (fun hc => ?_) (fun e he => ?_)
  · obtain ⟨Y, eY, hY⟩ := yr_true (P := fun v => v < Cal.tOf n / 12) hc
    refine sds_par 2 3 rfl (exs_cons (ED.ex (d := .int Y) (ed_ix (ed_var 0) ed_int (i_tup (by show some (oD h.y) = _; rw [eY]; rfl)))) (exs_cons ed_int.ex exs_nil)) (sds_nil ?_) nd
    obtain ⟨a, b⟩ := Cal.ls_startY eY hY
    refine ⟨_, a, b, .dt (.int (n - Cal.mI (Cal.tOf n) + 1)), ?_⟩
    rw [show (12 * Y + 11) / 12 = Y by omega, show (12 * Y + 11) % 12 + 1 = 12 by omega]
    rfl
  · obtain ⟨a, b⟩ := Cal.ls_start (h := h) (n := n) (fun v e => by have := yr_false (P := fun v => v < Cal.tOf n / 12) hc v e; omega)
    exact sds_nil ⟨_, a, b, _, rfl⟩
  obtain ⟨t0, i0, S, s4, rfl⟩ := he
  let I : Nat → List Sl → Prop := fun k e => ∃ s4 s5 s6 s7, e = [.dt (hintD h), .dt (.int n), .dt (.int ((t0 - k) / 12)), .dt (.int ((t0 - k) % 12 + 1)), s4, s5, s6, s7] ∧ Cal.LsInv h n (t0 - k)
  refine sds_for I (fun _ => False) rfl (ir_rng1 (ad_cons ed_int ar_nil) (by decide) m_range) ⟨_, _, _, _, by rw [show t0 - ((0 : Nat) : Int) = t0 by omega], by simpa using i0⟩ (fun k dk e hk' hI => ⟨_, _, (gr_name 5), ?_⟩) (fun e he => ?_)
  · obtain ⟨s4, s5, s6, s7, rfl, hi⟩ := hI
    have nxt_t : t0 - ((k + 1 : Nat) : Int) = t0 - (k : Int) - 1 := by omega
    generalize ht : t0 - (k : Int) = t at *
    refine sds_if1 (WD.td (wd_or (td_cmp (ed_var 2) ed_int o_lt) (fun h3 => (wd_or1 (WD.td (wd_and (td_cmp (ed_ix (ed_var 0) ed_int (i_tup rfl)) ed_non o_notN) (fun h2 => (wd_and1 (td_cmp (ed_var 2) (ed_ix (ed_var 0) ed_int (i_tup rfl)) (o_ltO' h2)))))))))) (fun hc => ?_) (fun hc => ?_)
    · refine sds_retD ed_non (done none ?_)
      rcases Bool.or_eq_true_iff.1 hc with q | q
      · exact Cal.ls_low hi (of_decide_eq_true q)
      · obtain ⟨Y, eY, hY⟩ := yr_true (P := fun v => t / 12 < v) q
        exact Cal.ls_gone hi eY hY
    have hpos : 1 ≤ t / 12 := by
      have := of_decide_eq_false (Bool.or_eq_false_iff.1 hc).1
      omega
    have te : 12 * (t / 12) + (t % 12 + 1) - 1 = t := by omega
    refine sds_lcM 6 [("one", 7)] (Cal.daysIn h t) PyData.int (fun j => decide (j ≤ n)) PyData.int rfl (ir_lst (ED.is (ed_call c__law_in hr (ad_cons (ed_var 0) (ad_cons (ed_var 2) (ad_cons (ed_var 3) ar_nil))) ⟨_, _, _, rfl, by omega, by omega, hk, rfl⟩) (by rw [te]))) (Nat.le_trans (Cal.days_len h t) (by decide)) (fun a ha => ⟨_, _, by decide, fun _ _ _ _ _ => (gr_name 7), fun _ _ _ _ _ => (tsd_one (td_cmp (ed_var 7) (ed_var 1) o_le)), fun _ _ _ _ _ _ => (ed_var 7)⟩) ?_
    have hll : ((Cal.daysIn h t).filter fun j => decide (j ≤ n)).length ≤ 1000000 := Nat.le_trans (List.length_filter_le _ _) (Nat.le_trans (Cal.days_len h t) (by decide))
    generalize hL : (Cal.daysIn h t).filter (fun j => decide (j ≤ n)) = L at *
    refine sds_if1 (td_own 6 rfl (td_cmp (ed_var 6) (ed_lst ar_nil) (o_neK (n := 1) (m := 1) hr.units (lk_list hll fun _ _ => rfl) rfl))) (fun hc => ?_) (fun hc => ?_)
    · rw [eqv_nil] at hc
      rcases List.eq_nil_or_concat L with e | ⟨r, a, e⟩
      · rw [e] at hc; cases hc
      · rw [List.concat_eq_append] at e
        subst e
        exact sds_retD (ed_own 6 rfl (ed_ix (ed_var 6) (ed_neg ed_int) (i_lst (by rw [List.map_append]; exact L2.atI_last _ _)))) (done (some a) (Cal.lls_some hL hi hpos))
    rw [eqv_nil] at hc
    cases L with
    | cons a r => cases hc
    | nil =>
      refine sds_unpack (ed_ifG (td_cmp (ed_var 3) ed_int o_gt) (fun h3 => (ed_tup (ad_cons (ed_var 2) (ad_cons (ed_bin (ed_var 3) ed_int o_sub) ar_nil)))) (fun h4 => (ed_tup (ad_cons (ed_bin (ed_var 2) ed_int o_sub) (ad_cons ed_int ar_nil)))) (z := .tuple [.int ((t - 1) / 12), .int ((t - 1) % 12 + 1)]) ?_) (gr_tup rfl (grs_cons (gr_name 2) (grs_cons (gr_name 3) grs_nil)) rfl) ?_
      · by_cases q : 1 < t % 12 + 1
        · simp [q]; omega
        · simp [q]; omega
      · exact sds_nil ⟨_, _, _, _, by rw [nxt_t]; rfl, by rw [nxt_t]; exact Cal.lls_step hL hi⟩
  obtain ⟨s4, s5, s6, s7, rfl, hi⟩ := he.resolve_right id
  exact sds_retD ed_non (done none (Cal.ls_end S (by rw [rangeD_len]; decide) hi))
def R__law_meant : List D → (D → Prop) → Prop := fun ds Φ => ∃ h n r, r < 3 ∧ ds = [hintD h, .int n, .str (ruleS r)] ∧ Cal.HOk h ∧ Φ (oD (Cal.rd h n r))
theorem sc__law_meant : FnScope ["hint", "number", "rule", "before", "after"] ["hint", "number", "rule"] (defScope s__law_meant) := ⟨rfl, rfl, rfl, by decide +kernel, rfl, by decide +kernel, by decide +kernel⟩
theorem ok__law_meant (F : FnP K "_law_meant" s__law_meant f fd) (c__law_next : Kn P w K mg base 4 "_law_next" (spF K R__law_next)) (c__law_last : Kn P w K mg base 4 "_law_last" (spF K R__law_last)) : FnOk P w K mg base CX0 5 f fd ["hint", "number", "rule"] (spF K R__law_meant) := by
  refine fnF F sc__law_meant (fun ds Φ h => by obtain ⟨_, _, _, _, rfl, _⟩ := h; rfl) (fun cdv A outer s H E hr ds Φ h => ?_)
  obtain ⟨h, n, r, hr3, rfl, hk, hΦ⟩ := h
  have nd := sc__law_meant.nd
  have rs := rule_shaped hr3
  unfold Cal.rd at hΦ
  refine sds_if1 (td_cmp (ed_var 2) ed_str (o_eqD hr.units rfl rfl rs (by decide +kernel))) (fun hc => ?_) (fun hc => ?_)
  · rw [rule_next hr3] at hc
    have hc := of_decide_eq_true hc
    subst hc
    exact sds_retD (ed_call c__law_next hr (ad_cons (ed_var 0) (ad_cons (ed_var 1) ar_nil)) ⟨_, _, rfl, hk, rfl⟩) hΦ
  rw [rule_next hr3] at hc
  refine sds_setD 3 (ed_call c__law_last hr (ad_cons (ed_var 0) (ad_cons (ed_var 1) ar_nil)) ⟨_, _, rfl, hk, rfl⟩) ?_ nd
  refine sds_if1 (td_cmp (ed_var 2) ed_str (o_eqD hr.units rfl rfl rs (by decide +kernel))) (fun hc2 => ?_) (fun hc2 => ?_)
  · rw [rule_last hr3] at hc2
    have hc2 := of_decide_eq_true hc2
    subst hc2
    exact sds_retD (ed_var 3) hΦ
  rw [rule_last hr3] at hc2
  have e2 : r = 2 := by
    have a := of_decide_eq_false hc
    have b := of_decide_eq_false hc2
    omega
  subst e2
  refine sds_setD 4 (ed_call c__law_next hr (ad_cons (ed_var 0) (ad_cons (ed_var 1) ar_nil)) ⟨_, _, rfl, hk, rfl⟩) ?_ nd
  generalize Cal.nxt h n = L at *
  generalize Cal.lst h n = M at *
  refine sds_if1 (WD.td (wd_or (td_cmp (ed_var 3) ed_non o_isN) (fun h1 => (wd_or1 (td_cmp (ed_var 4) ed_non o_isN))))) (fun hc => ?_) (fun hc => ?_)
  · refine sds_retD (ed_ifG (td_cmp (ed_var 3) ed_non o_isN) (fun h2 => (ed_var 4)) (fun h3 => (ed_var 3)) rfl) ?_
    cases L <;> cases M <;> first | exact hΦ | cases hc
  · cases L with
    | none => cases M <;> cases hc
    | some l =>
      cases M with
      | none => cases hc
      | some e =>
        refine sds_retD (ed_ifG (td_cmp (ed_bin (ed_var 1) (ed_var 3) o_sub) (ed_bin (ed_var 4) (ed_var 1) o_sub) o_lt) (fun h4 => (ed_var 3)) (fun h5 => (ed_var 4)) rfl) ?_
        simp only [Cal.pickR] at hΦ
        by_cases q : n - e < l - n
        · have q' : ¬ (l - n ≤ n - e) := by omega
          simp [q, q'] at hΦ ⊢; exact hΦ
        · have q' : (l - n ≤ n - e) := by omega
          simp [q, q'] at hΦ ⊢; exact hΦ
def R__law_kind : List D → (D → Prop) → Prop := fun ds Φ => ∃ n : Nat, ds = [.int n] ∧ 0 < n ∧ n ≤ 1000 ∧ ∀ ks : List Bool, ks.length = n → true ∈ ks → Φ (.tuple (ks.map PyData.bool))
theorem bools_of {ys : List D} (h : ∀ y ∈ ys, ∃ b, y = PyData.bool b) : ∃ ks : List Bool, ys = ks.map PyData.bool := by
  induction ys with
  | nil => exact ⟨[], rfl⟩
  | cons y t ih =>
    obtain ⟨b, e⟩ := h y (by simp)
    obtain ⟨ks, e2⟩ := ih fun z hz => h z (by simp [hz])
    exact ⟨b :: ks, by rw [e, e2]; rfl⟩
theorem any_bools {ks : List Bool} : ((ks.map PyData.bool).any fun y => PyData.eqv y (.bool true)) = ks.any id := by
  induction ks with
  | nil => rfl
  | cons b t ih => rw [List.map_cons, List.any_cons, ih]; cases b <;> rfl
theorem sc__law_kind : FnScope ["tape", "many", "kind", "part"] ["tape", "many"] (defScope s__law_kind) := ⟨rfl, rfl, rfl, by decide +kernel, rfl, by decide +kernel, by decide +kernel⟩
theorem ok__law_kind (F : FnP K "_law_kind" s__law_kind f fd) (c__law_draw : Kn P w K mg base 1 "_law_draw" (spT K R__law_draw)) (m_range : mg "range" = none) (m_tuple : mg "tuple" = none) : FnOk P w K mg base CX0 2 f fd ["tape", "many"] (spT K R__law_kind) := by
  refine fnT F sc__law_kind (fun ds Φ h => by obtain ⟨_, rfl, _⟩ := h; rfl) (fun cdv A outer s H E hr ds Φ h => ?_)
  obtain ⟨n, rfl, n0, n1, hΦ⟩ := h
  have nd := sc__law_kind.nd
  refine sds_lcP 2 [("part", 3)] (List.range (n : Int).toNat) (fun (i : Nat) => .int (0 + i)) (fun d => ∃ b, d = PyData.bool b) rfl (ir_rng1 (ad_cons (ed_var 1) ar_nil) (by omega) m_range) (by simp; omega) (fun a ha => ⟨_, _, by decide, fun _ _ _ _ _ => gr_name 3, fun _ _ _ _ _ => tsd_nil, fun _ _ _ _ _ _ => er_cmp (er_callT 0 c__law_draw hr (ad_cons ed_int ar_nil) (fun ds e => ⟨_, e, by decide, by decide +kernel, fun a _ _ => ⟨a, rfl⟩⟩) (Φ := fun z => ∃ n : Int, z = .int n)) ed_int (fun x y ⟨k, e⟩ e2 => by subst e; subst e2; exact o_eq.imp fun d e => ⟨_, e⟩) (nomark _)⟩) (fun ys hl hy => ?_)
  obtain ⟨ks, rfl⟩ := bools_of hy
  have hl : ks.length = n := by simpa using hl
  refine sds_if (fun e => ∃ ks : List Bool, ks.length = n ∧ true ∈ ks ∧ e = [.tape, .dt (.int n), .own (ks.map PyData.bool), .un]) (td_own 2 rfl (td_cmp ed_bl (ed_var 2) (o_notInL rfl (by simp [flatD])))) (fun hc => ?_) (fun hc => sds_nil ?_) (fun e he => ?_)
  · refine sds_setix 2 rfl ed_bl (Ψ := fun _ => True) (er_callT 0 c__law_draw hr (ad_cons (ed_var 1) ar_nil) (fun ds e => ⟨_, e, by omega, Nat.lt_trans (natAbs_log2 (b := 30) (by decide) (by omega)) (by decide), fun a a0 a1 => ⟨a, rfl, ⟨a0, by simpa [hl] using a1⟩, trivial⟩⟩)) (fun k k0 k1 _ => ?_)
    refine sds_nil ⟨ks.set k.toNat true, by simp [hl], ?_, ?_⟩
    · have : k.toNat < ks.length := by simp at k1; omega
      exact List.mem_iff_getElem.mpr ⟨k.toNat, by simpa using this, by simp⟩
    · rw [List.map_set]; rfl
  · rw [any_bools] at hc
    refine ⟨ks, hl, ?_, rfl⟩
    have : ks.any id = true := by cases h : ks.any id <;> simp_all
    obtain ⟨b, hb, e⟩ := List.any_eq_true.mp this
    simpa using (by cases b <;> simp_all : true ∈ ks)
  obtain ⟨ks, hl, ht, rfl⟩ := he
  refine sds_freeze 2 rfl ?_
  exact sds_retD (ed_callTy (ad_cons (ed_var 2) ar_nil) m_tuple boot_tuple c_tupL) (hΦ ks hl ht)
def R__law_hint_of : List D → (D → Prop) → Prop := fun ds Φ => ∃ (y m d : Int) (a b c e : Bool), ds = [dayD (y, m, d), .tuple [.bool a, .bool b, .bool c, .bool e]] ∧ 1 ≤ m ∧ m ≤ 12 ∧ Φ (hintD (Cal.hintOf a b c e (Cal.num y m d)))
theorem sc__law_hint_of : FnScope ["day", "kind", "own", "at"] ["day", "kind"] (defScope s__law_hint_of) := ⟨rfl, rfl, rfl, by decide +kernel, rfl, by decide +kernel, by decide +kernel⟩
theorem ok__law_hint_of (F : FnP K "_law_hint_of" s__law_hint_of f fd) (c__law_parts : Kn P w K mg base 2 "_law_parts" (spF K R__law_parts)) (c__law_number : Kn P w K mg base 1 "_law_number" (spF K R__law_number)) (m_range : mg "range" = none) (m_tuple : mg "tuple" = none) : FnOk P w K mg base CX0 3 f fd ["day", "kind"] (spF K R__law_hint_of) := by
  refine fnF F sc__law_hint_of (fun ds Φ h => by obtain ⟨_, _, _, _, _, _, _, rfl, _⟩ := h; rfl) (fun cdv A outer s H E hr ds Φ h => ?_)
  obtain ⟨y, m, d, a, b, c, e, rfl, m1, m2, hΦ⟩ := h
  have nd := sc__law_hint_of.nd
  refine sds_setD 2 (ed_call c__law_parts hr (ad_cons (ed_call c__law_number hr (ad_cons (ed_var 0) ar_nil) ⟨_, _, _, rfl, m1, m2, rfl⟩) ar_nil) ⟨_, rfl, rfl⟩) ?_ nd
  generalize Cal.num y m d = n at *
  let kp : Nat → Bool := fun i => if i = 0 then a else if i = 1 then b else if i = 2 then c else e
  let op : Nat → Int := fun i => if i = 0 then (n - 1) % 7 else if i = 1 then (Cal.dayOf n).2.2 else if i = 2 then (Cal.dayOf n).2.1 else (Cal.dayOf n).1
  refine sds_retD (ed_callTy (ad_cons (ex_lcA [("at", 3)] (List.range 4) (fun (i : Nat) => .int (0 + i)) (fun i => oD (if kp i then some (op i) else none)) rfl (ir_rng1 (ad_cons ed_int ar_nil) (by decide) m_range) (Nat.le_of_ble_eq_true rfl) (fun i hd => ⟨_, _, by decide, fun _ _ _ _ _ => (gr_name 3), fun _ _ _ _ _ => tsd_nil, fun _ _ _ _ _ _ => (ed_ifG (td_val (ed_ix (ed_var 1) (ed_var 3) (i_tup (d := .bool (kp i)) ?a))) (fun h3 => (ed_ix (ed_var 2) (ed_var 3) (i_tup (d := .int (op i)) ?b))) (fun h4 => ed_non) ?c)⟩)).ed ar_nil) m_tuple boot_tuple c_tupL) ?_
  all_goals try (have hi : i = 0 ∨ i = 1 ∨ i = 2 ∨ i = 3 := by (have := List.mem_range.mp hd; omega))
  case a => rcases hi with rfl | rfl | rfl | rfl <;> rfl
  case b => rcases hi with rfl | rfl | rfl | rfl <;> rfl
  case c => cases kp i <;> rfl
  exact hΦ
def R__law_hint : List D → (D → Prop) → Prop := fun ds Φ => ∃ y m d : Int, ds = [dayD (y, m, d)] ∧ VDay y m d ∧ ∀ h, Cal.HDr y h → Φ (hintD h)
theorem len4 {ks : List Bool} (h : ks.length = 4) : ∃ a b c e, ks = [a, b, c, e] := match ks, h with
  | [a, b, c, e], _ => ⟨a, b, c, e, rfl⟩
theorem sc__law_hint : FnScope ["tape", "day", "hint", "at", "near", "part"] ["tape", "day"] (defScope s__law_hint) := ⟨rfl, rfl, rfl, by decide +kernel, rfl, by decide +kernel, by decide +kernel⟩
theorem ok__law_hint (F : FnP K "_law_hint" s__law_hint f fd) (c__law_draw : Kn P w K mg base 1 "_law_draw" (spT K R__law_draw)) (c__law_kind : Kn P w K mg base 2 "_law_kind" (spT K R__law_kind)) (c__law_hint_of : Kn P w K mg base 3 "_law_hint_of" (spF K R__law_hint_of)) : FnOk P w K mg base CX0 4 f fd ["tape", "day"] (spT K R__law_hint) := by
  refine fnT F sc__law_hint (fun ds Φ h => by obtain ⟨_, _, _, rfl, _⟩ := h; rfl) (fun cdv A outer s H E hr ds Φ h => ?_)
  obtain ⟨y, m, d, rfl, hv, hΦ⟩ := h
  have nd := sc__law_hint.nd
  have dr : ∀ (n : Int), 0 < n → n.natAbs.log2 < 9000 → ∀ ds, ds = [PyData.int n] → R__law_draw ds (fun d => ∃ k : Int, d = .int k ∧ 0 ≤ k ∧ k < n) := fun n h0 h1 ds e => ⟨n, e, h0, h1, fun k a b => ⟨k, rfl, a, b⟩⟩
  have e0 := Cal.dayOf_num hv.1 hv.2.1 hv.2.2.1 hv.2.2.2
  refine sds_setR 2 (R := fun z => ∃ h, z = hintD h ∧ Cal.HDr y h) (er_call c__law_hint_of hr (ar_cons (ed_var 1) (ar_cons (er_callT 0 c__law_kind hr (ad_cons ed_int ar_nil) (fun ds e => ⟨4, e, by decide, by decide, fun ks hl ht => ⟨ks, rfl, hl, ht⟩⟩) (Φ := fun z => ∃ ks : List Bool, z = .tuple (ks.map PyData.bool) ∧ ks.length = 4 ∧ true ∈ ks)) ar_nil)) (fun ds hd => ?_)) (fun x ⟨h, e, hh⟩ => ?_) nd
  · obtain ⟨x, r, rfl, rfl, z, r2, rfl, ⟨ks, rfl, hl, ht⟩, rfl⟩ := hd
    obtain ⟨a, b, c, q, rfl⟩ := len4 hl
    refine ⟨y, m, d, a, b, c, q, rfl, hv.1, hv.2.1, _, rfl, ?_⟩
    have := Cal.hintOf_ok a b c q (Cal.num y m d) (by simpa using ht)
    rwa [e0] at this
  subst e
  refine sds_ifR (fun e => e = [.tape, .dt (dayD (y, m, d)), .dt (hintD h), .un, .un, .un]) (Ξ := fun _ => True) (tr_cmp (er_callT 0 c__law_draw hr (ad_cons ed_int ar_nil) (dr 4 (by decide) (by decide +kernel))) ed_int (fun x y ⟨k, e, _⟩ e2 => by subst e; subst e2; exact o_gt.imp fun d e => ⟨_, e, trivial⟩) (nomark _)) ?_ ?_ (fun e he => ?_)
  · exact sds_retD (ed_var 2) (fun _ => hΦ h hh)
  · exact sds_nil fun _ => rfl
  subst he
  refine sds_parA 3 4 rfl (ar_cons (er_callT 0 c__law_draw hr (ad_cons ed_int ar_nil) (dr 4 (by decide) (by decide +kernel))) (ar_cons (er_bin1 (ed_bin (ed_ix (ed_var 1) ed_int (i_tup rfl)) ed_int o_sub) (er_callT 0 c__law_draw hr (ad_cons ed_int ar_nil) (dr 7 (by decide) (by decide +kernel))) (Ψ := fun z => ∃ k : Int, z = .int k ∧ y - 3 ≤ k ∧ k ≤ y + 3) (fun z ⟨k, e, k0, k1⟩ => by subst e; exact o_add.imp fun d e => ⟨_, e, by omega, by omega⟩)) ar_nil)) (fun u v hΨ => ?_) nd
  obtain ⟨_, _, e1, ⟨at_, e2, a0, a1⟩, _, _, e3, ⟨near, e4, n0, n1⟩, e5⟩ := hΨ
  cases e1
  cases e3
  subst e2 e4
  refine sds_setR 5 (R := fun z => ∃ p : Int, z = .int p ∧ (at_ = 0 → 0 ≤ p ∧ p ≤ 6) ∧ (at_ = 1 → 1 ≤ p ∧ p ≤ 31) ∧ (at_ = 2 → 1 ≤ p ∧ p ≤ 12) ∧ (at_ = 3 → y - 3 ≤ p ∧ p ≤ y + 3)) (er_ix (er_lst (Φ := fun z => ∃ p q r : Int, z = .list [.int p, .int q, .int r, .int near] ∧ (0 ≤ p ∧ p ≤ 6) ∧ (1 ≤ q ∧ q ≤ 31) ∧ (1 ≤ r ∧ r ≤ 12)) (ar_cons (er_callT 0 c__law_draw hr (ad_cons ed_int ar_nil) (dr 7 (by decide) (by decide +kernel))) (ar_cons (er_bin1 ed_int (er_callT 0 c__law_draw hr (ad_cons ed_int ar_nil) (dr 31 (by decide) (by decide +kernel))) (Ψ := fun z => ∃ k : Int, z = .int k ∧ 1 ≤ k ∧ k ≤ 31) (fun z ⟨k, e, k0, k1⟩ => by subst e; exact o_add.imp fun d e => ⟨_, e, by omega, by omega⟩)) (ar_cons (er_bin1 ed_int (er_callT 0 c__law_draw hr (ad_cons ed_int ar_nil) (dr 12 (by decide) (by decide +kernel))) (Ψ := fun z => ∃ k : Int, z = .int k ∧ 1 ≤ k ∧ k ≤ 12) (fun z ⟨k, e, k0, k1⟩ => by subst e; exact o_add.imp fun d e => ⟨_, e, by omega, by omega⟩)) (ar_cons (ed_var 4) ar_nil)))) (fun ds hd => ?_)) (ed_var 3) (fun x z ⟨p, q, r, ex, hp, hq, hr⟩ e2 => ?_)) (fun x ⟨p, e, q0, q1, q2, q3⟩ => ?_) nd
  · obtain ⟨_, _, rfl, ⟨p, rfl, p0, p1⟩, _, _, rfl, ⟨q, rfl, q0, q1⟩, _, _, rfl, ⟨r, rfl, r0, r1⟩, _, _, rfl, rfl, rfl⟩ := hd
    exact ⟨Nat.le_of_ble_eq_true rfl, p, q, r, rfl, ⟨p0, by omega⟩, ⟨q0, q1⟩, r0, r1⟩
  · subst ex e2
    have ha : at_ = 0 ∨ at_ = 1 ∨ at_ = 2 ∨ at_ = 3 := by omega
    rcases ha with rfl | rfl | rfl | rfl
    · exact (i_lst rfl).imp fun d z => ⟨p, z, fun _ => hp, by omega, by omega, by omega⟩
    · exact (i_lst rfl).imp fun d z => ⟨q, z, by omega, fun _ => hq, by omega, by omega⟩
    · exact (i_lst rfl).imp fun d z => ⟨r, z, by omega, by omega, fun _ => hr, by omega⟩
    · exact (i_lst rfl).imp fun d z => ⟨near, z, by omega, by omega, by omega, fun _ => ⟨n0, n1⟩⟩
  subst e
  have ha : at_ = 0 ∨ at_ = 1 ∨ at_ = 2 ∨ at_ = 3 := by omega
  refine sds_retD (d := hintD (if at_ = 0 then { h with w := some p } else if at_ = 1 then { h with d := some p } else if at_ = 2 then { h with m := some p } else { h with y := some p })) (ED.is (ed_bin (ed_bin (ed_slice (ed_var 2) od_none (od_some (ed_var 3)) s_tup) (ed_tup (ad_cons (ed_var 5) ar_nil)) (o_catT ?_)) (ed_slice (ed_var 2) (od_some (ed_bin (ed_var 3) ed_int o_add)) od_none s_tup) (o_catT ?_)) ?_) (hΦ _ ?_)
  · rcases ha with rfl | rfl | rfl | rfl <;> exact Nat.le_of_ble_eq_true rfl
  · rcases ha with rfl | rfl | rfl | rfl <;> exact Nat.le_of_ble_eq_true rfl
  · rcases ha with rfl | rfl | rfl | rfl <;> rfl
  · obtain ⟨⟨h1, h2, h3⟩, h4, h5⟩ := hh
    rcases ha with rfl | rfl | rfl | rfl
    · exact ⟨⟨fun v hv => by cases hv; exact q0 rfl, h2, h3⟩, h4, fun hv => by simp at hv⟩
    · exact ⟨⟨h1, fun v hv => by cases hv; exact q1 rfl, h3⟩, h4, fun hv => by simp at hv⟩
    · exact ⟨⟨h1, h2, fun v hv => by cases hv; exact q2 rfl⟩, h4, fun hv => by simp at hv⟩
    · exact ⟨⟨h1, h2, h3⟩, fun v hv => by cases hv; exact q3 rfl, fun hv => by simp at hv⟩
def R__law_rule : List D → (D → Prop) → Prop := fun ds Φ => ds = [] ∧ ∀ r, r < 3 → Φ (.str (ruleS r))
theorem sc__law_rule : FnScope ["tape"] ["tape"] (defScope s__law_rule) := ⟨rfl, rfl, rfl, by decide +kernel, rfl, by decide +kernel, by decide +kernel⟩
theorem ok__law_rule (F : FnP K "_law_rule" s__law_rule f fd) (c__law_draw : Kn P w K mg base 1 "_law_draw" (spT K R__law_draw)) : FnOk P w K mg base CX0 2 f fd ["tape"] (spT K R__law_rule) := by
  refine fnT F sc__law_rule (fun ds Φ h => by obtain ⟨rfl, _⟩ := h; rfl) (fun cdv A outer s H E hr ds Φ h => ?_)
  obtain ⟨rfl, hΦ⟩ := h
  have nd := sc__law_rule.nd
  exact sds_ret (er_pickD (p := Φ) (n := 3) (pd_cons (ed_str.er (hΦ 0 (by decide))) (pd_cons (ed_str.er (hΦ 1 (by decide))) (pd_cons (ed_str.er (hΦ 2 (by decide))) pd_nil))) (er_callT 0 c__law_draw hr (ad_cons ed_int ar_nil) (fun ds e => ⟨_, e, by decide, by decide +kernel, fun k a b => ⟨k, rfl, a, b⟩⟩)))
def R__law_text : List D → (D → Prop) → Prop := fun ds Φ => ∃ h, ds = [hintD h] ∧ HTx h ∧ Φ (.str (textH h))
theorem sc__law_text : FnScope ["hint", "weekdays", "months", "words"] ["hint"] (defScope s__law_text) := ⟨rfl, rfl, rfl, by decide +kernel, rfl, by decide +kernel, by decide +kernel⟩
theorem ok__law_text (F : FnP K "_law_text" s__law_text f fd) (m_str : mg "str" = none) : FnOk P w K mg base CX0 1 f fd ["hint"] (spF K R__law_text) := by
  refine fnF F sc__law_text (fun ds Φ h => by obtain ⟨_, rfl, _⟩ := h; rfl) (fun cdv A outer s H E hr ds Φ h => ?_)
  obtain ⟨h, rfl, hx, hΦ⟩ := h
  have nd := sc__law_text.nd
  have sm := words_small hx
  have cnt := words_cnt (h := h)
  obtain ⟨⟨o1, o2, o3⟩, oy, _⟩ := hx
  obtain ⟨hw, hd, hm, hy⟩ := h
  unfold wordsH at cnt
  simp only [List.length_append] at cnt
  refine sds_setD 1 (ed_lst (ad_cons ed_str (ad_cons ed_str (ad_cons ed_str (ad_cons ed_str (ad_cons ed_str (ad_cons ed_str (ad_cons ed_str ar_nil)))))))) ?_ nd
  refine sds_setD 2 (ed_lst (ad_cons ed_str (ad_cons ed_str (ad_cons ed_str (ad_cons ed_str (ad_cons ed_str (ad_cons ed_str (ad_cons ed_str (ad_cons ed_str (ad_cons ed_str (ad_cons ed_str (ad_cons ed_str (ad_cons ed_str ar_nil))))))))))))) ?_ nd
  refine sds_set 3 (ex_lst ar_nil) ?_ nd
  let S : List Str → List Sl := fun L => [.dt (hintD ⟨hw, hd, hm, hy⟩), .dt (.list (wdS.map PyData.str)), .dt (.list (moS.map PyData.str)), .own (L.map PyData.str)]
  refine sds_if (fun e => e = S (wW hw)) (td_cmp (ed_ix (ed_var 0) ed_int (i_tup rfl)) ed_non o_notN) (fun hc => ?_) (fun hc => ?_) (fun e he => ?_)
  · cases hw with
    | none => cases hc
    | some v => exact sds_append 3 rfl (ad_cons (ed_ix (ed_var 1) (ed_ix (ed_var 0) ed_int (i_tup rfl)) (i_lst (wd_at (o1 v rfl).1 (o1 v rfl).2 rfl))) ar_nil) (by decide) (sds_nil rfl)
  · cases hw with
    | none => exact sds_nil rfl
    | some v => cases hc
  subst he
  refine sds_if (fun e => e = S (wW hw ++ wDy hd)) (td_cmp (ed_ix (ed_var 0) ed_int (i_tup rfl)) ed_non o_notN) (fun hc => ?_) (fun hc => ?_) (fun e he => ?_)
  · cases hd with
    | none => cases hc
    | some v =>
      have b := o2 v rfl
      exact sds_append 3 rfl (ad_cons (ed_bin (ed_callTy (ad_cons (ed_ix (ed_var 0) ed_int (i_tup rfl)) ar_nil) m_str boot_str (c_strI (num_log (by omega) (by omega)))) ed_str (o_addS (by have := num_len (v := v) (by omega) (by omega); have e : (("." : Str)).length = 1 := (by decide +kernel); rw [e, sizeLine_eq]; omega))) ar_nil) (by rw [List.length_map]; omega) (sds_nil (by simp [S, wDy]))
  · cases hd with
    | none => exact sds_nil (by simp [S, wDy])
    | some v => cases hc
  subst he
  refine sds_if (fun e => e = S (wW hw ++ wDy hd ++ wM hm)) (td_cmp (ed_ix (ed_var 0) ed_int (i_tup rfl)) ed_non o_notN) (fun hc => ?_) (fun hc => ?_) (fun e he => ?_)
  · cases hm with
    | none => cases hc
    | some v => exact sds_append 3 rfl (ad_cons (ed_ix (ed_var 2) (ed_bin (ed_ix (ed_var 0) ed_int (i_tup rfl)) ed_int o_sub) (i_lst (mo_at (o3 v rfl).1 (o3 v rfl).2 rfl))) ar_nil) (by rw [List.length_map, List.length_append]; omega) (sds_nil (by simp [S, wM]))
  · cases hm with
    | none => exact sds_nil (by simp [S, wM])
    | some v => cases hc
  subst he
  refine sds_if (fun e => e = S (wW hw ++ wDy hd ++ wM hm ++ wY hy)) (td_cmp (ed_ix (ed_var 0) ed_int (i_tup rfl)) ed_non o_notN) (fun hc => ?_) (fun hc => ?_) (fun e he => ?_)
  · cases hy with
    | none => cases hc
    | some v =>
      have b := oy v rfl
      exact sds_append 3 rfl (ad_cons (ed_callTy (ad_cons (ed_ix (ed_var 0) ed_int (i_tup rfl)) ar_nil) m_str boot_str (c_strI (num_log (by omega) (by omega)))) ar_nil) (by rw [List.length_map, List.length_append, List.length_append]; omega) (sds_nil (by simp [S, wY]))
  · cases hy with
    | none => exact sds_nil (by simp [S, wY])
    | some v => cases hc
  subst he
  refine sds_freeze 3 rfl ?_
  exact sds_retD (ed_join ed_str (ed_var 3) sm) hΦ
def R__law_size : List D → (D → Prop) → Prop := fun ds Φ => ∃ h, ds = [hintD h] ∧ HTx h ∧ Φ (keyD (keyH h))
theorem sc__law_size : FnScope ["hint", "text"] ["hint"] (defScope s__law_size) := ⟨rfl, rfl, rfl, by decide +kernel, rfl, by decide +kernel, by decide +kernel⟩
theorem ok__law_size (F : FnP K "_law_size" s__law_size f fd) (c__law_text : Kn P w K mg base 1 "_law_text" (spF K R__law_text)) (m_len : mg "len" = none) : FnOk P w K mg base CX0 2 f fd ["hint"] (spF K R__law_size) := by
  refine fnF F sc__law_size (fun ds Φ h => by obtain ⟨_, rfl, _⟩ := h; rfl) (fun cdv A outer s H E hr ds Φ h => ?_)
  obtain ⟨h, rfl, hx, hΦ⟩ := h
  have nd := sc__law_size.nd
  refine sds_setD 1 (ed_call c__law_text hr (ad_cons (ed_var 0) ar_nil) ⟨_, rfl, hx, rfl⟩) ?_ nd
  exact sds_retD (ed_tup (ad_cons (ed_callB (ad_cons (ed_var 1) ar_nil) m_len boot_len (c_lenS (by have := text_len hx; rw [sizeLine_eq]; omega))) (ad_cons (ed_var 1) ar_nil))) hΦ
def R__law_every : List D → (D → Prop) → Prop := fun ds Φ => ∃ (y m d : Int), ds = [dayD (y, m, d)] ∧ VDay y m d ∧ (1 ≤ y ∧ y ≤ 9999) ∧ Φ (.list ((allH (Cal.num y m d)).map hintD))
theorem sc__law_every : FnScope ["day", "found", "turn", "kind", "step"] ["day"] (defScope s__law_every) := ⟨rfl, rfl, rfl, by decide +kernel, rfl, by decide +kernel, by decide +kernel⟩
theorem ok__law_every (F : FnP K "_law_every" s__law_every f fd) (c__law_hint_of : Kn P w K mg base 3 "_law_hint_of" (spF K R__law_hint_of)) (c__law_size : Kn P w K mg base 2 "_law_size" (spF K R__law_size)) (m_sorted : mg "sorted" = none) (m_range : mg "range" = none) (m_tuple : mg "tuple" = none) (m_int : mg "int" = none) : FnOk P w K mg base CX0 5 f fd ["day"] (spF K R__law_every) := by
  refine fnF F sc__law_every (fun ds Φ h => by obtain ⟨_, _, _, rfl, _⟩ := h; rfl) (fun cdv A outer s H E hr ds Φ h => ?_)
  obtain ⟨y, m, d, rfl, v, yb, hΦ⟩ := h
  have nd := sc__law_every.nd
  have yk := yr_ok v yb.1 yb.2
  let I : Nat → List Sl → Prop := fun k e => ∃ L s2 s3 s4, e = [.dt (dayD (y, m, d)), .own L, s2, s3, s4] ∧ L = (List.range k).map fun i => hintD (hk (Cal.num y m d) (klK i))
  refine sds_set 1 (ex_lst ar_nil) ?_ nd
  refine sds_for (fun k e => k ≤ 15 ∧ I k e) (fun _ => False) rfl (IR.is (ir_rng2 (ad_cons ed_int (ad_cons ed_int ar_nil)) (by decide) (by decide) m_range) (ys := rangeD 1 15) rfl) ⟨by decide, _, _, _, _, rfl, rfl⟩ (fun k dk e hk hI => ⟨_, _, (gr_name 2), ?_⟩) (fun e he => ?_)
  · obtain ⟨_, L, s2, s3, s4, rfl, hL⟩ := hI
    have hk15 : k < 15 := by
      have := (List.getElem?_eq_some_iff.mp hk).1
      rw [rangeD_len] at this; exact this
    have hdk : dk = .int (1 + (k : Int)) := by
      unfold rangeD at hk
      rw [List.getElem?_map, List.getElem?_range hk15] at hk
      exact (Option.some.inj hk).symm
    subst hdk
    refine sds_setD 3 (ed_callTy (ad_cons (ex_lcA [("step", 4)] ([1, 2, 4, 8] : List Int) (fun i => .int i) (fun i => .bool (decide ((1 + (k : Int)) / i % 2 = 1))) rfl (IR.is (ir_tup (ed_tup (ad_cons ed_int (ad_cons ed_int (ad_cons ed_int (ad_cons ed_int ar_nil)))))) rfl) (Nat.le_of_ble_eq_true rfl) (fun i hi => ⟨_, _, by decide, fun _ _ _ _ _ => (gr_name 4), fun _ _ _ _ _ => tsd_nil, fun _ _ _ _ _ _ => (ed_cmp (ed_bin (ed_callTy (ad_cons (ed_bin (ed_var 2) (ed_var 4) (o_div ?cd)) ar_nil) m_int boot_int c_int) ed_int (o_mod (by decide))) ed_int o_eq)⟩)).ed ar_nil) m_tuple boot_tuple c_tupL) ?_ nd
    case cd =>
      simp only [List.mem_cons, List.not_mem_nil, or_false] at hi
      rcases hi with rfl | rfl | rfl | rfl <;> exact ⟨by decide, by decide⟩
    refine sds_append 1 rfl (ad_cons (ed_call c__law_hint_of hr (ad_cons (ed_var 0) (ad_cons (ed_var 3) ar_nil)) ⟨_, _, _, _, _, _, _, rfl, v.1, v.2.1, rfl⟩) ar_nil) (by rw [hL]; simp; omega) ?_
    exact sds_nil ⟨by omega, _, _, _, _, rfl, by rw [hL, List.range_succ, List.map_append]; rfl⟩
  · obtain ⟨_, L, s2, s3, s4, rfl, hL⟩ := he.resolve_right id
    rw [rangeD_len] at hL
    subst hL
    refine sds_freeze 1 rfl ?_
    refine sds_retD (ED.is (ed_sortT (xs := ((List.range 15).map klK).map (hk (Cal.num y m d))) (enc := hintD) (kf := keyH) (fun d => keyH (decH d)) (fun x => by rw [decH_enc]) c__law_size hr (ED.is (ed_var 1) (by rw [List.map_map, List.map_map]; rfl)) (Nat.le_of_ble_eq_true rfl) (fun x hx => ?_) (fun g hg h hh => kinds_inj yk g (((kinds_perm.map _).mem_iff).1 hg) h (((kinds_perm.map _).mem_iff).1 hh)) m_sorted) (by rw [allH_law yk])) hΦ
    obtain ⟨k, k1, rfl⟩ := List.mem_map.1 hx
    exact ⟨_, rfl, hk_tx yk (kinds_perm.mem_iff.1 k1), rfl⟩
def errN : List Str := ["day", "hint", "rule", "number", "not", "nothing"]
def errP (bs : List Bool) : List D := (errN.zip bs).map fun p => .tuple [.str p.1, .bool p.2]
def errT (bs : List Bool) : Str := Txt.join "" (((errN.zip bs).filter fun p : Str × Bool => p.2).map fun p : Str × Bool => p.1)
def R__law_error (K : Fg) : Value → (D → Prop) → Prop := fun cls Φ => ∃ x b0 b1 b2 b3 b4 b5, cls = .ref (He.ga K x) ∧ XiK K x [("InvalidDay", b0), ("InvalidHint", b1), ("InvalidRule", b2), ("InvalidNumber", b3), ("NotThere", b4), ("NothingToUndo", b5)] ∧ Φ (.str (errT [b0, b1, b2, b3, b4, b5]))
theorem sc__law_error : FnScope ["e", "some", "word", "good"] ["e"] (defScope s__law_error) := ⟨rfl, rfl, rfl, by decide +kernel, rfl, by decide +kernel, by decide +kernel⟩
theorem ok__law_error (F : FnP K "_law_error" s__law_error f fd) (m_isinstance : mg "isinstance" = none) (G_InvalidDay : mg "InvalidDay" = some (.ref (He.ga K "InvalidDay"))) (G_InvalidHint : mg "InvalidHint" = some (.ref (He.ga K "InvalidHint"))) (G_InvalidRule : mg "InvalidRule" = some (.ref (He.ga K "InvalidRule"))) (G_InvalidNumber : mg "InvalidNumber" = some (.ref (He.ga K "InvalidNumber"))) (G_NotThere : mg "NotThere" = some (.ref (He.ga K "NotThere"))) (G_NothingToUndo : mg "NothingToUndo" = some (.ref (He.ga K "NothingToUndo"))) : RunX P w K mg base 1 f fd (R__law_error K) "e" := by
  refine fnX F sc__law_error fun cdv A outer s H E q hot hr cls Φ hz hf ⟨x, b0, b1, b2, b3, b4, b5, ec, xi, hΦ⟩ => ?_
  subst ec
  have nd := sc__law_error.nd
  refine sds_set 1 (ex_lst (ad_cons (ed_tup (ad_cons ed_str (ad_cons (ed_isP 0 xi.ec hz hf (List.mem_singleton.mpr rfl) rfl G_InvalidDay (xi.is ("InvalidDay", b0) (.head _)) m_isinstance) ar_nil))) (ad_cons (ed_tup (ad_cons ed_str (ad_cons (ed_isP 0 xi.ec hz hf (List.mem_singleton.mpr rfl) rfl G_InvalidHint (xi.is ("InvalidHint", b1) (.tail _ (.head _))) m_isinstance) ar_nil))) ar_nil))) ?_
  refine sds_freeze 1 rfl ?_
  refine sds_set 1 (ex_catL (ed_var 1) (EX.ed (ex_lst (ad_cons (ed_tup (ad_cons ed_str (ad_cons (ed_isP 0 xi.ec hz hf (List.mem_singleton.mpr rfl) rfl G_InvalidRule (xi.is ("InvalidRule", b2) (.tail _ (.tail _ (.head _)))) m_isinstance) ar_nil))) (ad_cons (ed_tup (ad_cons ed_str (ad_cons (ed_isP 0 xi.ec hz hf (List.mem_singleton.mpr rfl) rfl G_InvalidNumber (xi.is ("InvalidNumber", b3) (.tail _ (.tail _ (.tail _ (.head _))))) m_isinstance) ar_nil))) ar_nil))))) ?_
  refine sds_append 1 rfl (ad_cons (ed_tup (ad_cons ed_str (ad_cons (ed_isP 0 xi.ec hz hf (List.mem_singleton.mpr rfl) rfl G_NotThere (xi.is ("NotThere", b4) (.tail _ (.tail _ (.tail _ (.tail _ (.head _)))))) m_isinstance) ar_nil))) ar_nil) (Nat.le_of_ble_eq_true rfl) ?_
  refine sds_append 1 rfl (ad_cons (ed_tup (ad_cons ed_str (ad_cons (ed_isP 0 xi.ec hz hf (List.mem_singleton.mpr rfl) rfl G_NothingToUndo (xi.is ("NothingToUndo", b5) (.tail _ (.tail _ (.tail _ (.tail _ (.tail _ (.head _))))))) m_isinstance) ar_nil))) ar_nil) (Nat.le_of_ble_eq_true rfl) ?_
  refine sds_freeze 1 rfl ?_
  refine sds_retD (ed_join (ys := ((errN.zip [b0, b1, b2, b3, b4, b5]).filter fun p : Str × Bool => p.2).map fun p : Str × Bool => p.1) ed_str ((EX.ed (ex_lcMHot [("word", 2), ("good", 3)] (errN.zip [b0, b1, b2, b3, b4, b5]) (fun p : Str × Bool => .tuple [.str p.1, .bool p.2]) (fun p : Str × Bool => p.2) (fun p : Str × Bool => .str p.1) ⟨q, hot, List.mem_singleton.mpr rfl⟩ (ed_var 1) (Nat.le_of_ble_eq_true rfl) (fun o ho => ⟨_, _, by decide, fun _ _ _ _ _ hI => (gr_tupH hI (grs_cons (gr_name 2) (grs_cons (gr_name 3) grs_nil)) rfl), fun _ _ _ _ _ _ => (tsd_one (td_val (ed_var 3))), fun _ _ _ _ _ _ _ => (ed_var 2)⟩))).is ?_) ?_) hΦ
  · simp [List.map_map, Function.comp_def]
  · cases b0 <;> cases b1 <;> cases b2 <;> cases b3 <;> cases b4 <;> cases b5 <;> exact Nat.le_of_ble_eq_true rfl
/-- one call of a diary -/
inductive Way where
  | undo
  | wait
  | note
def wayT : Way → Str
  | .undo => "undo"
  | .wait => "wait"
  | .note => "note"
def hintX (x : D) : Option Cal.Hint := match x with
  | .str y => readS y
  | _ => none
theorem readD_X {x : D} : readD x = oHD (hintX x) := by cases x <;> rfl
/-- what is told, the states that were, the state -/
noncomputable def stepD (q : Nat) (es : List DSt) (now : DSt) (w : Way) (x : D) : D × List DSt × DSt := match w with
  | .undo => match es.getLast? with
    | none => (.str "nothing", es, now)
    | some l => (.none, es.dropLast, l)
  | .wait => match x with
    | .int k => if 0 ≤ k ∧ k ≤ 400 then (dayD (Cal.dayOf (now.1 + k)), es ++ [now], (now.1 + k, now.2)) else (.str "number", es, now)
    | _ => (.str "number", es, now)
  | .note => match hintX x with
    | none => (.str "hint", es, now)
    | some h => match Cal.rd h now.1 q with
      | none => (.str "not", es, now)
      | some z => (dayD (Cal.dayOf z), es ++ [now], (now.1, insN z now.2))
theorem step_wait {q : Nat} {es : List DSt} {now : DSt} {x : D} (h : intIn x 0 400 = false) : stepD q es now .wait x = (.str "number", es, now) := by
  cases x with
  | int k =>
    have h' : ¬ (0 ≤ k ∧ k ≤ 400) := by simpa [intIn] using h
    simp [stepD, h']
  | _ => rfl
def R__law_done (K : Fg) : RM := fun p s0 gs Φ _ => ∃ q now es w x n, q < 3 ∧ gs = [.owo p s0, .dt (.str (wayT w)), .dt x] ∧ s0 = diaryS K (.str (ruleS q)) now es ∧ es.length < 1000 ∧ now.2.length < 63 ∧ now.2.Pairwise (· < ·) ∧ lk n (.tuple (es.map nowD)) = true ∧ n ≤ 60 ∧
  (∀ y, x = .str y → y.length ≤ 900000 ∧ PyData.strOk y = true) ∧ (∀ h, hintX x = some h → Cal.HOk h) ∧ Φ (stepD q es now w x).1 (diaryS K (.str (ruleS q)) (stepD q es now w x).2.2 (stepD q es now w x).2.1)
theorem sc__law_done : FnScope ["diary", "way", "thing", "e"] ["diary", "way", "thing"] (defScope s__law_done) := ⟨rfl, rfl, rfl, by decide +kernel, rfl, by decide +kernel, by decide +kernel⟩
theorem ok__law_done (F : FnP K "_law_done" s__law_done f fd) (c_Diary_undo : Ke P w K mg base 1 (He.ma K (He.ga K "Diary") "undo") [] (spM K (R_Diary_undo K))) (c_Diary_note : Ke P w K mg base 7 (He.ma K (He.ga K "Diary") "note") [] (spM K (R_Diary_note K))) (c_Diary_wait : Ke P w K mg base 5 (He.ma K (He.ga K "Diary") "wait") [] (spM K (R_Diary_wait K))) (c__law_error : KnX P w K mg base 1 "_law_error" (R__law_error K)) (c_Diary___init__ : KiP P w K mg base 4 (He.ga K "Diary") (He.ma K (He.ga K "Diary") "__init__") (spI K (He.ga K "Diary") (R_Diary___init__ K))) (K_Diary : ClK K mg "Diary" ["rule", "now", "earlier"] [] ["set_now", "note", "wait", "undo", "today", "days", "lines", "__len__", "__contains__", "__eq__"] [] [("FARTHEST", .int 400)]) (G_DateError : mg "DateError" = some (.ref (He.ga K "DateError"))) (E_InvalidHint : PySem.W.exmOne K (.ref (He.ga K "InvalidHint")) (.ref (He.ga K "DateError")) = some true) (E_NotThere : PySem.W.exmOne K (.ref (He.ga K "NotThere")) (.ref (He.ga K "DateError")) = some true) (E_InvalidNumber : PySem.W.exmOne K (.ref (He.ga K "InvalidNumber")) (.ref (He.ga K "DateError")) = some true) (E_NothingToUndo : PySem.W.exmOne K (.ref (He.ga K "NothingToUndo")) (.ref (He.ga K "DateError")) = some true) (I_InvalidHint : XiK K "InvalidHint" [("InvalidDay", false), ("InvalidHint", true), ("InvalidRule", false), ("InvalidNumber", false), ("NotThere", false), ("NothingToUndo", false)]) (I_NotThere : XiK K "NotThere" [("InvalidDay", false), ("InvalidHint", false), ("InvalidRule", false), ("InvalidNumber", false), ("NotThere", true), ("NothingToUndo", false)]) (I_InvalidNumber : XiK K "InvalidNumber" [("InvalidDay", false), ("InvalidHint", false), ("InvalidRule", false), ("InvalidNumber", true), ("NotThere", false), ("NothingToUndo", false)]) (I_NothingToUndo : XiK K "NothingToUndo" [("InvalidDay", false), ("InvalidHint", false), ("InvalidRule", false), ("InvalidNumber", false), ("NotThere", false), ("NothingToUndo", true)]) : FnOk P w K mg base (L2N.CX P w) 9 f fd ["diary", "way", "thing"] (spM K (R__law_done K)) := by
  refine fnM F sc__law_done 0 (fun p s0 gs Φ Ψ h => by obtain ⟨_, _, _, _, _, _, _, rfl, _⟩ := h; exact ⟨rfl, rfl, fun i s e o => match i, e, o with | 0, _, _ => rfl | 1, e, o => by cases e; cases o | 2, e, o => by cases e; cases o⟩) fun cdv A outer s H E hr tk p s0 gs Φ Ψ ⟨q, now, es, w, x, n, q3, e1, e2, hz, hn, up, hl, hn60, hx, ho, hΦ⟩ => ?_
  subst e1 e2
  have nd := sc__law_done.nd
  have meU := Meth.mk (K_Diary.me "undo" (by simp)).1 (K_Diary.me "undo" (by simp)).2.1 (K_Diary.me "undo" (by simp)).2.2.1
  have meN := Meth.mk (K_Diary.me "note" (by simp)).1 (K_Diary.me "note" (by simp)).2.1 (K_Diary.me "note" (by simp)).2.2.1
  have meW := Meth.mk (K_Diary.me "wait" (by simp)).1 (K_Diary.me "wait" (by simp)).2.1 (K_Diary.me "wait" (by simp)).2.2.1
  let s0 := diaryS K (.str (ruleS q)) now es
  refine sm_try (Ψ := fun cls => (cls = .ref (He.ga K "InvalidHint") ∧ Φ (.str "hint") s0) ∨ (cls = .ref (He.ga K "NotThere") ∧ Φ (.str "not") s0) ∨ (cls = .ref (He.ga K "InvalidNumber") ∧ Φ (.str "number") s0) ∨ (cls = .ref (He.ga K "NothingToUndo") ∧ Φ (.str "nothing") s0)) 3 0 rfl rfl nd ⟨rfl, by decide, .inl G_DateError⟩
    (fun cls z => by rcases z with z | z | z | z <;> rw [z.1] <;> first | exact E_InvalidHint | exact E_NotThere | exact E_InvalidNumber | exact E_NothingToUndo) tk (fun W pn xe tk => ?_) (fun z oe cls pn hz hf ψ => ?_)
  · cases w with
    | undo =>
      refine sm_if1 (k := true) (TD.is (td_cmp (ed_var 1) ed_str o_eqS) rfl) (fun _ => ?_) (fun z => by cases z)
      refine sm_retM (i := 0) (Nat.zero_lt_succ _) (em_meth0 (i := 0) c_Diary_undo K_Diary.cls meU hr tk ⟨_, now, es, n, rfl, rfl, hl, hn60, fun z => ?_, fun es' last z => ?_⟩)
      · subst z; exact .inr (.inr (.inr ⟨rfl, hΦ⟩))
      · subst z
        have e : stepD q (es' ++ [last]) now .undo x = (.none, es', last) := by simp [stepD]
        rw [e] at hΦ
        exact hΦ
    | wait =>
      refine sm_if1 (k := false) (TD.is (td_cmp (ed_var 1) ed_str o_eqS) rfl) (fun z => by cases z) (fun _ => ?_)
      refine sm_retM (i := 0) (Nat.zero_lt_succ _) (em_if (k := false) (TD.is (td_cmp (ed_var 1) ed_str o_eqS) rfl) (fun z => by cases z) (fun _ => ?_))
      refine em_meth (i := 0) c_Diary_wait K_Diary.cls meW hr tk (ad_cons (ed_var 2) ar_nil) ⟨_, now, es, x, rfl, rfl, hz, fun z => ?_, fun k e z => ?_⟩
      · rw [step_wait z] at hΦ
        exact .inr (.inr (.inl ⟨rfl, hΦ⟩))
      · subst e
        have z' : 0 ≤ k ∧ k ≤ 400 := by simpa [intIn] using z
        have e : stepD q es now .wait (.int k) = (dayD (Cal.dayOf (now.1 + k)), es ++ [now], (now.1 + k, now.2)) := by simp [stepD, z']
        rw [e] at hΦ
        exact hΦ
    | note =>
      refine sm_if1 (k := false) (TD.is (td_cmp (ed_var 1) ed_str o_eqS) rfl) (fun z => by cases z) (fun _ => ?_)
      refine sm_retM (i := 0) (Nat.zero_lt_succ _) (em_if (k := true) (TD.is (td_cmp (ed_var 1) ed_str o_eqS) rfl) (fun _ => ?_) (fun z => by cases z))
      have st : stepD q es now .note x = match hintX x with
        | none => (.str "hint", es, now)
        | some h => match Cal.rd h now.1 q with
          | none => (.str "not", es, now)
          | some z => (dayD (Cal.dayOf z), es ++ [now], (now.1, insN z now.2)) := rfl
      refine em_meth (i := 0) c_Diary_note K_Diary.cls meN hr tk (ad_cons (ed_var 2) ar_nil) ⟨q, now, es, x, q3, rfl, rfl, hz, hn, up, hx, fun z => ?_, fun h z => ?_⟩
      · rw [readD_X] at z
        cases c : hintX x with
        | none => rw [st, c] at hΦ; exact .inl ⟨rfl, hΦ⟩
        | some h => rw [c] at z; cases z
      · rw [readD_X] at z
        cases c : hintX x with
        | none => rw [c] at z; cases z
        | some g =>
          rw [c] at z
          have e : g = h := decH_enc.symm.trans ((congrArg decH z).trans decH_enc)
          subst e
          rw [st, c] at hΦ
          refine ⟨ho g c, fun z => ?_, fun z z2 => ?_⟩
          · simp only [z] at hΦ
            exact .inr (.inl ⟨rfl, hΦ⟩)
          · simp only [z2] at hΦ
            exact hΦ
  · rcases ψ with ⟨e1, e2⟩ | ⟨e1, e2⟩ | ⟨e1, e2⟩ | ⟨e1, e2⟩ <;> subst e1
    · exact sds_ret (er_callX (j := 8) 3 c__law_error ⟨hr.dp, hr.un⟩ (hot_suite hz hf) (.head _) hz.zc hf ⟨"InvalidHint", _, _, _, _, _, _, rfl, I_InvalidHint, e2⟩ rfl)
    · exact sds_ret (er_callX (j := 8) 3 c__law_error ⟨hr.dp, hr.un⟩ (hot_suite hz hf) (.head _) hz.zc hf ⟨"NotThere", _, _, _, _, _, _, rfl, I_NotThere, e2⟩ rfl)
    · exact sds_ret (er_callX (j := 8) 3 c__law_error ⟨hr.dp, hr.un⟩ (hot_suite hz hf) (.head _) hz.zc hf ⟨"InvalidNumber", _, _, _, _, _, _, rfl, I_InvalidNumber, e2⟩ rfl)
    · exact sds_ret (er_callX (j := 8) 3 c__law_error ⟨hr.dp, hr.un⟩ (hot_suite hz hf) (.head _) hz.zc hf ⟨"NothingToUndo", _, _, _, _, _, _, rfl, I_NothingToUndo, e2⟩ rfl)
def kD (s : DSt) : D := .tuple [.int s.1, .list (s.2.map PyData.int)]
def R__law_due (_ : Fg) : RM := fun p s0 gs Φ _ => ∃ q now es w x, q < 3 ∧ gs = [.dt (.str (ruleS q)), .owo p s0, .dt (.str (wayT w)), .dt x] ∧ s0 = .lst ((es ++ [now]).map kD) ∧ es.length < 1000 ∧ now.2.length < 63 ∧ now.2.Pairwise (· < ·) ∧
  (∀ y, x = .str y → y.length ≤ 900000 ∧ PyData.strOk y = true) ∧ (∀ h, hintX x = some h → Cal.HOk h) ∧ Φ (stepD q es now w x).1 (.lst (((stepD q es now w x).2.1 ++ [(stepD q es now w x).2.2]).map kD))
theorem sc__law_due : FnScope ["rule", "kept", "way", "thing", "today", "days", "hint", "number"] ["rule", "kept", "way", "thing"] (defScope s__law_due) := ⟨rfl, rfl, rfl, by decide +kernel, rfl, by decide +kernel, by decide +kernel⟩
theorem ok__law_due (F : FnP K "_law_due" s__law_due f fd) (c__law_within : Kn P w K mg base 2 "_law_within" (spF K R__law_within)) (c__law_day : Kn P w K mg base 1 "_law_day" (spF K R__law_day)) (c_read_hint : Kn P w K mg base 3 "read_hint" (spF K R_read_hint)) (c__law_meant : Kn P w K mg base 5 "_law_meant" (spF K R__law_meant)) (c__law_done : KnM P w K mg base 9 "_law_done" (R__law_done K)) (c_Diary_undo : Ke P w K mg base 1 (He.ma K (He.ga K "Diary") "undo") [] (spM K (R_Diary_undo K))) (m_len : mg "len" = none) (m_sorted : mg "sorted" = none) (m_set : mg "set" = none) : FnOk P w K mg base (L2N.CX P w) 8 f fd ["rule", "kept", "way", "thing"] (spM K (R__law_due K)) := by
  refine fnM F sc__law_due 1 (fun p s0 gs Φ Ψ h => by obtain ⟨_, _, _, _, _, _, rfl, _⟩ := h; exact ⟨rfl, rfl, fun i s e o => match i, e, o with | 1, _, _ => rfl | 0, e, o => by cases e; cases o | 2, e, o => by cases e; cases o | 3, e, o => by cases e; cases o⟩) fun cdv A outer s H E hr tk p s0 gs Φ Ψ ⟨q, now, es, w, x, q3, e1, e2, hz, hn, up, hx, ho, hΦ⟩ => ?_
  subst e1 e2
  have nd := sc__law_due.nd
  refine sm_unpack (ds := [.int now.1, .list (now.2.map PyData.int)]) (ed_ownIx 1 rfl (ed_neg ed_int) (d := kD now) (by rw [List.map_append]; exact atI_last)) (gr_tup rfl (grs_cons (gr_name 4) (grs_cons (gr_name 5) grs_nil)) rfl) ?_
  cases w with
  | undo =>
    refine sm_if1 (k := true) (TD.is (td_cmp (ed_var 2) ed_str o_eqS) rfl) (fun _ => ?_) (fun z => by cases z)
    refine sm_if1 (k := es.isEmpty) (TD.is (td_view 1 rfl trivial (td_cmp (ed_callB (ad_cons (ed_var (d := .list ((es ++ [now]).map kD)) 1) ar_nil) m_len boot_len c_lenL) ed_int o_eq)) ?_) (fun z => ?_) (fun z => ?_)
    · cases es with
      | nil => rfl
      | cons a t => simp; omega
    · have z : es = [] := by simpa using z
      subst z
      exact sm_ret (i := 1) rfl (ed_str.imp fun d e => by subst e; exact hΦ)
    · obtain ⟨es', last, rfl⟩ : ∃ es' last, es = es' ++ [last] := ⟨es.dropLast, es.getLast (by simpa using z), (List.dropLast_concat_getLast _).symm⟩
      have e : stepD q (es' ++ [last]) now .undo x = (.none, es', last) := by simp [stepD]
      rw [e] at hΦ
      refine sm_pop 1 rfl (by simp) (sm_ret (i := 1) rfl (ed_non.imp fun d e => ?_))
      subst e
      have e2 : (((es' ++ [last]) ++ [now]).map kD).dropLast = (es' ++ [last]).map kD := by rw [List.map_append]; simp
      rw [e2]
      exact hΦ
  | wait =>
    refine sm_if1 (k := false) (TD.is (td_cmp (ed_var 2) ed_str o_eqS) rfl) (fun z => by cases z) (fun _ => ?_)
    refine sm_if1 (k := true) (TD.is (td_cmp (ed_var 2) ed_str o_eqS) rfl) (fun _ => ?_) (fun z => by cases z)
    refine sm_if1 (TD.is (td_not (td_val (ed_call c__law_within hr (ad_cons (ed_var 3) (ad_cons ed_int (ad_cons ed_int ar_nil))) ⟨x, _, _, rfl, rfl⟩))) rfl) (fun z => ?_) (fun z => ?_)
    · have z : intIn x 0 400 = false := by simpa using z
      rw [step_wait z] at hΦ
      exact sm_ret (i := 1) rfl (ed_str.imp fun d e => by subst e; exact hΦ)
    have z : intIn x 0 400 = true := by simpa using z
    obtain ⟨k, rfl, k0, k1⟩ := intIn_is z
    have e : stepD q es now .wait (.int k) = (dayD (Cal.dayOf (now.1 + k)), es ++ [now], (now.1 + k, now.2)) := by simp [stepD, k0, k1]
    rw [e] at hΦ
    refine sm_append (d := kD (now.1 + k, now.2)) 1 rfl (ad_cons (ed_tup (ad_cons (ed_bin (ed_var 4) (ed_var 3) o_add) (ad_cons (ed_var 5) ar_nil))) ar_nil) (by simp; omega) ?_
    refine sm_ret (i := 1) rfl ((ed_call c__law_day hr (ad_cons (ed_bin (ed_var 4) (ed_var 3) o_add) ar_nil) ⟨now.1 + k, rfl, rfl⟩).imp fun d e => ?_)
    subst e
    have e2 : (es ++ [now]).map kD ++ [kD (now.1 + k, now.2)] = ((es ++ [now]) ++ [(now.1 + k, now.2)]).map kD := by rw [List.map_append (l₁ := es ++ [now])]; rfl
    rw [e2]
    exact hΦ
  | note =>
    refine sm_if1 (k := false) (TD.is (td_cmp (ed_var 2) ed_str o_eqS) rfl) (fun z => by cases z) (fun _ => ?_)
    refine sm_if1 (k := false) (TD.is (td_cmp (ed_var 2) ed_str o_eqS) rfl) (fun z => by cases z) (fun _ => ?_)
    have st : stepD q es now .note x = match hintX x with
      | none => (.str "hint", es, now)
      | some h => match Cal.rd h now.1 q with
        | none => (.str "not", es, now)
        | some z => (dayD (Cal.dayOf z), es ++ [now], (now.1, insN z now.2)) := rfl
    refine sm_setD 6 (ed_call c_read_hint hr (ad_cons (ed_var 3) ar_nil) ⟨x, rfl, hx, rfl⟩) ?_
    rw [readD_X]
    cases c : hintX x with
    | none =>
      rw [st, c] at hΦ
      exact sm_if1 (TD.is (td_cmp (ed_var 6) ed_non o_isN) rfl) (fun _ => sm_ret (i := 1) rfl (ed_str.imp fun d e => by subst e; exact hΦ)) (fun z => by cases z)
    | some h =>
      rw [st, c] at hΦ
      have hok := ho h c
      refine sm_if1 (TD.is (td_cmp (ed_var 6) ed_non o_isN) rfl) (fun z => by cases z) (fun _ => ?_)
      refine sm_setD 7 (ed_call c__law_meant hr (ad_cons (ed_var 6) (ad_cons (ed_var 4) (ad_cons (ed_var 0) ar_nil))) ⟨h, now.1, q, q3, rfl, hok, rfl⟩) ?_
      cases c2 : Cal.rd h now.1 q with
      | none =>
        simp only [c2] at hΦ
        exact sm_if1 (TD.is (td_cmp (ed_var 7) ed_non o_isN) rfl) (fun _ => sm_ret (i := 1) rfl (ed_str.imp fun d e => by subst e; exact hΦ)) (fun z => by cases z)
      | some z =>
        simp only [c2] at hΦ
        refine sm_if1 (TD.is (td_cmp (ed_var 7) ed_non o_isN) rfl) (fun z => by cases z) (fun _ => ?_)
        refine sm_append (d := kD (now.1, insN z now.2)) 1 rfl (ad_cons (ed_tup (ad_cons (ed_var 4) (ad_cons (ed_insSet (ED.is (ed_bin (ed_var 5) (ed_lst (ad_cons (ed_var (d := .int z) 7) ar_nil)) (o_catL (by simp; rw [sizeLine_eq]; omega))) (by rw [List.map_append]; rfl)) up hn m_sorted m_set) ar_nil))) ar_nil) (by simp; omega) ?_
        refine sm_ret (i := 1) rfl ((ed_call c__law_day hr (ad_cons (ed_var (d := .int z) 7) ar_nil) ⟨z, rfl, rfl⟩).imp fun d e => ?_)
        subst e
        have e2 : (es ++ [now]).map kD ++ [kD (now.1, insN z now.2)] = ((es ++ [now]) ++ [(now.1, insN z now.2)]).map kD := by rw [List.map_append (l₁ := es ++ [now])]; rfl
        rw [e2]
        exact hΦ
theorem eqvA_self {L : List D} (h : ∀ d ∈ L, PyData.eqv d d = true) : PyData.eqvAll L L = true := by
  induction L with
  | nil => rfl
  | cons a L ih =>
    simp only [PyData.eqvAll]
    rw [h a (by simp), ih fun d hd => h d (by simp [hd])]
    rfl
theorem eqvL_self {L : List D} (h : ∀ d ∈ L, PyData.eqv d d = true) : PyData.eqv (.list L) (.list L) = true := by
  simp only [PyData.eqv]
  exact eqvA_self h
theorem eqv_dd {t : Int × Int × Int} : PyData.eqv (dayD t) (dayD t) = true := by rw [eqv_dayD]; simp
theorem eqv_days {L : List Int} : PyData.eqv (.list (L.map fun n => dayD (Cal.dayOf n))) (.list (L.map fun n => dayD (Cal.dayOf n))) = true := eqvL_self fun d hd => by
  obtain ⟨n, _, rfl⟩ := List.mem_map.1 hd
  exact eqv_dd
theorem lk_days {L : List Int} (h : L.length ≤ 1000) : lk 5 (.list (L.map fun n => dayD (Cal.dayOf n))) = true := lk_list (n := 4) (by omega) fun n _ => lk_day
theorem num_chars (v : Int) : ∀ c ∈ TL.tl (numS v), c < 128 := by
  have pos : ∀ n : Nat, ∀ c ∈ TL.tl (numS (n : Int)), c < 128 := fun n c hc => by
    rw [tl_numS (Int.natCast_nonneg n)] at hc
    have := TL.numL_digits _ c hc
    omega
  cases v with
  | ofNat m => exact pos m
  | negSucc m =>
    intro c hc
    have hc : c ∈ (PySem.cpsOfBytes 0 0 ("-" ++ toString (m + 1)).toByteArray.data.toList) := hc
    have e : ("-" ++ toString (m + 1)).toByteArray.data.toList = 45 :: (toString (m + 1)).toByteArray.data.toList := by
      rw [String.toByteArray_append, ByteArray.data_append, Array.toList_append]
      have : "-".toByteArray.data.toList = [45] := by decide +kernel
      rw [this]; rfl
    rw [e] at hc
    have e2 : PySem.cpsOfBytes 0 0 (45 :: (toString (m + 1)).toByteArray.data.toList) = 45 :: PySem.cpsOfBytes 0 0 (toString (m + 1)).toByteArray.data.toList := by rfl
    rw [e2] at hc
    rcases List.mem_cons.1 hc with rfl | hc
    · decide
    · exact pos (m + 1) c hc
theorem line_ok {q : Nat} {t n : Int} (h : DN n) : PyData.strOk (lineS q t n) = true := by
  have key : ∀ L : List Cal.Hint, (∀ g ∈ L, HTx g) → ∀ c ∈ TL.tl (bestT L), c < 128 := fun L hL => by
    cases L with
    | nil => show ∀ c ∈ TL.tl "?", c < 128; decide +kernel
    | cons g r => exact text_chars (hL g (by simp))
  have sp : ∀ c ∈ TL.tl " ", c < 128 := by decide +kernel
  refine strOk_of fun c hc => ?_
  have e : TL.tl (lineS q t n) = (TL.tl (bestT (fitsR q t n)) ++ TL.tl " ") ++ TL.tl (numS (n - t)) := by
    show TL.tl (_ ++ " " ++ _) = _
    rw [TL.tl_append, TL.tl_append]
  rw [e] at hc
  rcases List.mem_append.1 hc with hc | hc
  · rcases List.mem_append.1 hc with hc | hc
    · exact key _ (fun g hg => allH_tx h.yr (List.mem_filter.1 hg).1) c hc
    · exact sp c hc
  · exact num_chars _ c hc
theorem isDay_DN {n : Int} (h : DN n) : isDayB (dayD (Cal.dayOf n)) = true := by
  obtain ⟨⟨h1, h2, h3, h4⟩, h5, h6⟩ := h.day
  simp [isDayB, dayD, intIn, dInt, *]
def R__law_seen (K : Fg) : List D → (D → Prop) → Prop := fun as Φ => ∃ q now es, q < 3 ∧ as = [diaryO K (.str (ruleS q)) now es, .str (ruleS q), .list ((es ++ [now]).map kD)] ∧ now.2.length < 63 ∧ DN now.1 ∧ (∀ n ∈ now.2, DN n) ∧ Φ (.bool true)
theorem sc__law_seen : FnScope ["diary", "rule", "kept", "today", "days", "lines", "number", "best", "hint", "thing"] ["diary", "rule", "kept"] (defScope s__law_seen) := ⟨rfl, rfl, rfl, by decide +kernel, rfl, by decide +kernel, by decide +kernel⟩
theorem ok__law_seen (F : FnP K "_law_seen" s__law_seen f fd) (c_Diary_today : Km P w K mg base 4 (He.ma K (He.ga K "Diary") "today") [] (spF K (R_Diary_today K))) (c_Diary_days : Km P w K mg base 4 (He.ma K (He.ga K "Diary") "days") [] (spF K (R_Diary_days K))) (c_Diary_lines : Kg P w K mg base 8 (He.ma K (He.ga K "Diary") "lines") (R_Diary_lines K)) (c_Diary___len__ : Km P w K mg base 1 (He.ma K (He.ga K "Diary") "__len__") [] (spF K (R_Diary___len__ K))) (c_Diary___contains__ : Km P w K mg base 4 (He.ma K (He.ga K "Diary") "__contains__") [] (spF K (R_Diary___contains__ K))) (c_Diary___eq__ : Km P w K mg base 1 (He.ma K (He.ga K "Diary") "__eq__") [] (spF K (R_Diary___eq__ K))) (c__law_day : Kn P w K mg base 1 "_law_day" (spF K R__law_day)) (c__law_number : Kn P w K mg base 1 "_law_number" (spF K R__law_number)) (c__law_every : Kn P w K mg base 5 "_law_every" (spF K R__law_every)) (c__law_meant : Kn P w K mg base 5 "_law_meant" (spF K R__law_meant)) (c__law_text : Kn P w K mg base 1 "_law_text" (spF K R__law_text)) (c_Diary_undo : Ke P w K mg base 1 (He.ma K (He.ga K "Diary") "undo") [] (spM K (R_Diary_undo K))) (c__law_due : KnM P w K mg base 8 "_law_due" (R__law_due K)) (K_Diary : ClK K mg "Diary" ["rule", "now", "earlier"] [] ["set_now", "note", "wait", "undo", "today", "days", "lines", "__len__", "__contains__", "__eq__"] [] [("FARTHEST", .int 400)]) (L_Diary : ClL K "Diary" [("FARTHEST", .int 400)]) (m_len : mg "len" = none) (m_list : mg "list" = none) (m_bool : mg "bool" = none) (m_str : mg "str" = none) (m_isinstance : mg "isinstance" = none) (m_tuple : mg "tuple" = none) : FnOk P w K mg base CX0 12 f fd ["diary", "rule", "kept"] (spF K (R__law_seen K)) := by
  refine fnF F sc__law_seen (fun _ _ h => by obtain ⟨_, _, _, _, rfl, _⟩ := h; rfl) fun cdv A outer s H E hr as Φ ⟨q, now, es, q3, e, hz, dt, dn, hΦ⟩ => ?_
  subst e
  have nd := sc__law_seen.nd
  have meT := Meth.mk (K_Diary.me "today" (by simp)).1 (K_Diary.me "today" (by simp)).2.1 (K_Diary.me "today" (by simp)).2.2.1
  have meD := Meth.mk (K_Diary.me "days" (by simp)).1 (K_Diary.me "days" (by simp)).2.1 (K_Diary.me "days" (by simp)).2.2.1
  have meL := Meth.mk (K_Diary.me "lines" (by simp)).1 (K_Diary.me "lines" (by simp)).2.1 (K_Diary.me "lines" (by simp)).2.2.1
  have len := K_Diary.me "__len__" (by simp)
  have con := K_Diary.me "__contains__" (by simp)
  have eqq := K_Diary.me "__eq__" (by simp)
  refine sds_unpack (ds := [.int now.1, .list (now.2.map PyData.int)]) (ed_ix (ed_var 2) (ed_neg ed_int) (i_lst (d := kD now) (by rw [List.map_append]; exact atI_last))) (gr_tup rfl (grs_cons (gr_name 3) (grs_cons (gr_name 4) grs_nil)) rfl) ?_
  refine sds_ifF (WD.td (wd_or (td_cmp (er_meth0 (Φ := fun d => d = dayD (Cal.dayOf now.1)) (ed_var 0) K_Diary.cls meT c_Diary_today hr ⟨_, now, es, rfl, rfl⟩) (ed_call c__law_day hr (ad_cons (ed_var 3) ar_nil) ⟨now.1, rfl, rfl⟩) (o_neK hr.units lk_day lk_day)) (fun _ => wd_or1 (td_cmp (er_meth0 (Φ := fun d => d = .list (now.2.map fun n => dayD (Cal.dayOf n))) (ed_var 0) K_Diary.cls meD c_Diary_days hr ⟨_, now, es, rfl, by omega, rfl⟩) (EX.ed (ex_lcA [("number", 6)] now.2 PyData.int (fun n => dayD (Cal.dayOf n)) rfl (ir_lst (ed_var 4)) (by omega) (fun n hn => ⟨_, _, by decide, fun _ _ _ _ _ => gr_name 6, fun _ _ _ _ _ => tsd_nil, fun _ _ _ _ _ _ => ed_call c__law_day hr (ad_cons (ed_var 6) ar_nil) ⟨n, rfl, rfl⟩⟩))) (o_neK hr.units (lk_days (by omega)) (lk_days (by omega))))))) (by rw [eqv_dd, eqv_days]; rfl) ?_
  refine sds_set 5 (ex_lst ar_nil) ?_ nd
  let P : Int → Cal.Hint → Bool := fun n h => decide (Cal.rd h now.1 q = some n)
  refine sds_for (items := now.2.map PyData.int) (fun k e => ∃ s6 s7 s8 s9, e = [.dt (diaryO K (.str (ruleS q)) now es), .dt (.str (ruleS q)), .dt (.list ((es ++ [now]).map kD)), .dt (.int now.1), .dt (.list (now.2.map PyData.int)), .own ((now.2.take k).map fun n => .str (lineS q now.1 n)), s6, s7, s8, s9]) (fun _ => False) rfl (ir_lst (ed_var 4)) ⟨_, _, _, _, rfl⟩ (fun k dk e hk hI => ?_) (fun e he => ?_)
  · obtain ⟨s6, s7, s8, s9, rfl⟩ := hI
    rw [List.getElem?_map] at hk
    obtain ⟨n, hn, rfl⟩ := Option.map_eq_some_iff.mp hk
    have kl : k < now.2.length := (List.getElem?_eq_some_iff.mp hn).1
    have d := dn n (List.mem_of_getElem? hn)
    obtain ⟨v, y0, y1⟩ := d.day
    have tx : ∀ g ∈ allH n, HTx g := fun g hg => allH_tx d.yr hg
    refine ⟨_, _, gr_name 6, ?_⟩
    refine sds_setD 7 ed_non ?_ nd
    refine sds_for (items := (allH n).map hintD) (fun j e => ∃ s8, e = [.dt (diaryO K (.str (ruleS q)) now es), .dt (.str (ruleS q)), .dt (.list ((es ++ [now]).map kD)), .dt (.int now.1), .dt (.list (now.2.map PyData.int)), .own ((now.2.take k).map fun n => .str (lineS q now.1 n)), .dt (.int n), .dt (headD (((allH n).take j).filter (P n))), s8, s9]) (fun _ => False) rfl (ir_lst (ED.is (ed_call c__law_every hr (ad_cons (ed_call c__law_day hr (ad_cons (ed_var 6) ar_nil) ⟨n, rfl, rfl⟩) ar_nil) ⟨(Cal.dayOf n).1, (Cal.dayOf n).2.1, (Cal.dayOf n).2.2, rfl, v, ⟨by omega, by omega⟩, rfl⟩) (by rw [num_of]))) ⟨_, rfl⟩ (fun j dj e hj hI => ?_) (fun e he => ?_)
    · obtain ⟨s8, rfl⟩ := hI
      rw [List.getElem?_map] at hj
      obtain ⟨h, hh, rfl⟩ := Option.map_eq_some_iff.mp hj
      have hx := tx h (List.mem_of_getElem? hh)
      refine ⟨_, _, gr_name 8, ?_⟩
      refine sds_setD 7 (ed_ifG (z := headD (((allH n).take (j + 1)).filter (P n))) (WD.td (wd_and (td_cmp (ed_var 7) ed_non o_isN) (fun _ => wd_and1 (td_cmp (ed_call c__law_meant hr (ad_cons (ed_var 8) (ad_cons (ed_var 3) (ad_cons (ed_var 1) ar_nil))) ⟨h, now.1, q, q3, rfl, hx.1, rfl⟩) (ed_var 6) (o_eqK (m := 0) hr.units lk_oD rfl))))) (fun _ => ed_var 8) (fun _ => ed_var 7) ?_) (sds_nil ⟨_, rfl⟩) nd
      rw [take_succ' hh, List.filter_append, eqv_oDi, isNone_head]
      cases ((allH n).take j).filter (P n) with
      | nil => cases c : decide (Cal.rd h now.1 q = some n) <;> simp [P, c, headD]
      | cons g r => rfl
    · obtain ⟨s8, rfl⟩ := he.resolve_right id
      rw [List.length_map, List.take_length]
      have hb := bestT_len (q := q) (t := now.1) d
      have tx2 : ∀ g ∈ fitsR q now.1 n, HTx g := fun g hg => tx g (List.mem_filter.1 hg).1
      have sp1 : (" " : Str).length = 1 := by decide +kernel
      have nl := d.len dt
      refine sds_append (d := .str (lineS q now.1 n)) 5 rfl (ad_cons (ed_bin (ed_bin (x := .str (bestT (fitsR q now.1 n))) ?txt ed_str (o_addS (by rw [sp1, sizeLine_eq]; omega))) (ed_callTy (ad_cons (ed_bin (ed_var 6) (ed_var 3) o_sub) ar_nil) m_str boot_str (c_strI (d.log dt))) (o_addS (by rw [str_len, sp1, sizeLine_eq]; omega))) ar_nil) (by rw [List.length_map, List.length_take]; omega) ?_
      case txt =>
        show ED _ _ [_, _, _, _, _, _, _, .dt (headD (fitsR q now.1 n)), _, _] _
        generalize fitsR q now.1 n = L at *
        cases L with
        | nil => exact ED.is (ed_if (k := true) (x := .str "?") (y := .none) (td_cmp (ed_var 7) ed_non o_isN) (fun _ => ed_str) (fun z => nomatch z)) rfl
        | cons g r => exact ED.is (ed_if (k := false) (x := .none) (y := .str (textH g)) (td_cmp (ed_var 7) ed_non o_isN) (fun z => nomatch z) (fun _ => ed_call c__law_text hr (ad_cons (ed_var 7) ar_nil) ⟨g, rfl, tx2 g (by simp), rfl⟩)) rfl
      · refine sds_nil ?_
        show ∃ s6 s7 s8 s9, _ = [_, _, _, _, _, Sl.own ((now.2.take (k + 1)).map fun n => PyData.str (lineS q now.1 n)), s6, s7, s8, s9]
        rw [take_succ' hn, List.map_append (l₁ := now.2.take k)]
        exact ⟨_, _, _, _, rfl⟩
  obtain ⟨s6, s7, s8, s9, rfl⟩ := he.resolve_right id
  rw [List.length_map, List.take_length]
  refine sds_freeze 5 rfl ?_
  have lkL : lk 2 (.list (now.2.map fun n => .str (lineS q now.1 n))) = true := by
    simp only [lk, List.length_map, Bool.and_eq_true, decide_eq_true_eq]
    refine ⟨by omega, ?_⟩
    have : ∀ L : List Int, (∀ n ∈ L, DN n) → lks 1 (L.map fun n => .str (lineS q now.1 n)) = true := fun L hL => by
      induction L with
      | nil => rfl
      | cons a L ih =>
        simp only [List.map_cons, lks, lk, Bool.and_eq_true]
        exact ⟨line_ok (hL a (by simp)), ih fun n hn => hL n (by simp [hn])⟩
    exact this _ dn
  have eqL : PyData.eqv (.list (now.2.map fun n => .str (lineS q now.1 n))) (.list (now.2.map fun n => .str (lineS q now.1 n))) = true := eqvL_self fun d hd => by
    obtain ⟨n, _, rfl⟩ := List.mem_map.1 hd
    simp [PyData.eqv]
  have lkI : lk 2 (.list (now.2.map PyData.int)) = true := by simp [lk, lk_ints]; omega
  refine sds_ifF (WD.td (wd_or (td_cmp (er_listG (Φ := fun d => d = .list (now.2.map fun n => .str (lineS q now.1 n))) (ed_var 0) K_Diary.cls meL c_Diary_lines hr ⟨q, now, es, q3, rfl, by omega, dt, dn, rfl⟩ m_list) (ed_var 5) (o_neK hr.units lkL lkL)) (fun _ => wd_or1 (td_cmp (ed_callB (ad_cons (ed_var 0) ar_nil) m_len boot_len (c_lenO (n := now.2.length) len.1 len.2.1 c_Diary___len__ hr (by omega) ⟨_, now, es, rfl, rfl⟩)) (ed_callB (ad_cons (ed_var 4) ar_nil) m_len boot_len c_lenL) o_ne)))) (by rw [eqL, List.length_map]; simp) ?_
  refine sds_ifF (WD.td (wd_or (td_cmp (ed_callTy (ad_cons (ed_var 0) ar_nil) m_bool boot_bool (c_boolO (n := now.2.length) K_Diary.nb len.1 len.2.1 c_Diary___len__ hr (by omega) ⟨_, now, es, rfl, rfl⟩)) (ed_cmp (ed_var 4) (ed_lst ar_nil) (o_neK (n := 2) (m := 1) hr.units lkI rfl)) (o_neD hr.units rfl rfl rfl rfl)) (fun _ => wd_or1 (td_cmp (ed_var 0) (ed_var 4) (o_eqI eqq.1 eqq.2.1 c_Diary___eq__ hr (tyI_lst L_Diary.lst.1 L_Diary.lst.2) ⟨_, now, es, _, false, rfl, rfl, .inl ⟨⟨_, rfl⟩, rfl⟩⟩))))) (by rw [eqv_nil]; cases now.2 <;> rfl) ?_
  refine sds_for (items := (now.2.map fun n => dayD (Cal.dayOf n)) ++ [dayD (Cal.dayOf now.1), .none, .str "Mon"]) (fun _ e => ∃ s9, e = [.dt (diaryO K (.str (ruleS q)) now es), .dt (.str (ruleS q)), .dt (.list ((es ++ [now]).map kD)), .dt (.int now.1), .dt (.list (now.2.map PyData.int)), .dt (.list (now.2.map fun n => .str (lineS q now.1 n))), s6, s7, s8, s9]) (fun _ => False) rfl (ir_lst (ed_bin (EX.ed (ex_lcA [("number", 6)] now.2 PyData.int (fun n => dayD (Cal.dayOf n)) rfl (ir_lst (ed_var 4)) (by omega) (fun n hn => ⟨_, _, by decide, fun _ _ _ _ _ => gr_name 6, fun _ _ _ _ _ => tsd_nil, fun _ _ _ _ _ _ => ed_call c__law_day hr (ad_cons (ed_var 6) ar_nil) ⟨n, rfl, rfl⟩⟩))) (ed_lst (ad_cons (ed_call c__law_day hr (ad_cons (ed_var 3) ar_nil) ⟨now.1, rfl, rfl⟩) (ad_cons ed_non (ad_cons ed_str ar_nil)))) (o_catL (by simp; rw [sizeLine_eq]; omega)))) ⟨_, rfl⟩ (fun k d e hk hI => ⟨_, _, gr_name 9, ?_⟩) (fun e he => ?_)
  · obtain ⟨s9, rfl⟩ := hI
    have hd : (∃ n, DN n ∧ d = dayD (Cal.dayOf n)) ∨ d = .none ∨ d = .str "Mon" := by
      rcases List.mem_append.1 (List.mem_of_getElem? hk) with hm | hm
      · obtain ⟨n, hn, rfl⟩ := List.mem_map.1 hm
        exact .inl ⟨n, dn n hn, rfl⟩
      · simp only [List.mem_cons, List.not_mem_nil, or_false] at hm
        rcases hm with rfl | rfl | rfl
        · exact .inl ⟨now.1, dt, rfl⟩
        · exact .inr (.inl rfl)
        · exact .inr (.inr rfl)
    rcases hd with ⟨n, hn, rfl⟩ | hd
    · obtain ⟨v, _, _⟩ := hn.day
      have db := isDay_DN hn
      refine sds_ifF (td_cmp (ed_cmp (ed_var 9) (ed_var 0) (o_inI (b := decide (n ∈ now.2)) con.1 con.2.1 c_Diary___contains__ hr ⟨_, now, es, _, rfl, by omega, fun z => Bool.noConfusion (db.symm.trans z), fun y m d e _ => ?in_⟩)) (ed_and (ed_isi (ed_var 9) m_isinstance m_tuple boot_tuple) (fun _ => ed_one (ed_cmp (ed_call c__law_number hr (ad_cons (ed_var 9) ar_nil) ⟨(Cal.dayOf n).1, (Cal.dayOf n).2.1, (Cal.dayOf n).2.2, rfl, v.1, v.2.1, rfl⟩) (ed_var 4) (o_inD (n := 1) (m := 2) (room65 hr) rfl lkI)))) (o_neD hr.units rfl rfl rfl rfl)) ?_ (sds_nil ⟨_, rfl⟩)
      case in_ =>
        have e : dayD (Cal.dayOf n) = dayD (y, m, d) := e
        unfold dayD at e
        simp only [PyData.tuple.injEq, List.cons.injEq, PyData.int.injEq, and_true] at e
        obtain ⟨rfl, rfl, rfl⟩ := e
        rw [num_of]
      · rw [any_int, num_of]
        cases decide (n ∈ now.2) <;> rfl
    · rcases hd with rfl | rfl
      · exact sds_ifF (td_cmp (ed_cmp (ed_var 9) (ed_var 0) (o_inI (b := false) con.1 con.2.1 c_Diary___contains__ hr ⟨_, now, es, _, rfl, by omega, fun _ => rfl, fun y m d e z => by cases e⟩)) (ed_and (l := false) (ed_isi (ed_var 9) m_isinstance m_tuple boot_tuple) (fun z => absurd z (by decide +kernel))) (o_neD hr.units rfl rfl rfl rfl)) rfl (sds_nil ⟨_, rfl⟩)
      · exact sds_ifF (td_cmp (ed_cmp (ed_var 9) (ed_var 0) (o_inI (b := false) con.1 con.2.1 c_Diary___contains__ hr ⟨_, now, es, _, rfl, by omega, fun _ => rfl, fun y m d e z => by cases e⟩)) (ed_and (l := false) (ed_isi (ed_var 9) m_isinstance m_tuple boot_tuple) (fun z => absurd z (by decide +kernel))) (o_neD hr.units rfl rfl rfl rfl)) rfl (sds_nil ⟨_, rfl⟩)
  · obtain ⟨s9, rfl⟩ := he.resolve_right id
    exact sds_retD ed_bl hΦ
def R__law_tried : List D → (D → Prop) → Prop := fun as Φ => ∃ x r n, as = [x, r] ∧ lk n r = true ∧ n ≤ 60 ∧ (isDayB x = false → Φ (.str "day")) ∧ (isDayB x = true → ruleB r = false ∧ Φ (.str "rule"))
theorem sc__law_tried : FnScope ["today", "rule", "e"] ["today", "rule"] (defScope s__law_tried) := ⟨rfl, rfl, rfl, by decide +kernel, rfl, by decide +kernel, by decide +kernel⟩
theorem ok__law_tried (F : FnP K "_law_tried" s__law_tried f fd) (c_Diary___init__ : KiP P w K mg base 4 (He.ga K "Diary") (He.ma K (He.ga K "Diary") "__init__") (spI K (He.ga K "Diary") (R_Diary___init__ K))) (c__law_error : KnX P w K mg base 1 "_law_error" (R__law_error K)) (c_Diary_undo : Ke P w K mg base 1 (He.ma K (He.ga K "Diary") "undo") [] (spM K (R_Diary_undo K))) (K_Diary : ClK K mg "Diary" ["rule", "now", "earlier"] [] ["set_now", "note", "wait", "undo", "today", "days", "lines", "__len__", "__contains__", "__eq__"] [] [("FARTHEST", .int 400)]) (G_DateError : mg "DateError" = some (.ref (He.ga K "DateError"))) (E_InvalidDay : PySem.W.exmOne K (.ref (He.ga K "InvalidDay")) (.ref (He.ga K "DateError")) = some true) (E_InvalidRule : PySem.W.exmOne K (.ref (He.ga K "InvalidRule")) (.ref (He.ga K "DateError")) = some true) (I_InvalidDay : XiK K "InvalidDay" [("InvalidDay", true), ("InvalidHint", false), ("InvalidRule", false), ("InvalidNumber", false), ("NotThere", false), ("NothingToUndo", false)]) (I_InvalidRule : XiK K "InvalidRule" [("InvalidDay", false), ("InvalidHint", false), ("InvalidRule", true), ("InvalidNumber", false), ("NotThere", false), ("NothingToUndo", false)]) (m_len : mg "len" = none) : FnOk P w K mg base CX0 7 f fd ["today", "rule"] (spF K R__law_tried) := by
  refine fnF F sc__law_tried (fun _ _ h => by obtain ⟨_, _, _, rfl, _⟩ := h; rfl) fun cdv A outer s H E hr as Φ ⟨x, r, n, e, hl, hn, h1, h2⟩ => ?_
  subst e
  have nd := sc__law_tried.nd
  refine sds_try (Ψ := fun cls => (cls = .ref (He.ga K "InvalidDay") ∧ Φ (.str "day")) ∨ (cls = .ref (He.ga K "InvalidRule") ∧ Φ (.str "rule"))) 2 rfl rfl nd ⟨rfl, by decide, .inl G_DateError⟩
    (fun cls z => by rcases z with z | z <;> rw [z.1] <;> first | exact E_InvalidDay | exact E_InvalidRule) (fun W pn xe tk => ?_) (fun z oe cls pn hz hf ψ => ?_)
  · refine sx_retX (ex1_lenX (ex1_imp (ex1_makeP (Φs := fun _ => False) c_Diary___init__ K_Diary.gl hr tk (ad_cons (ed_var 0) (ad_cons (ed_var 1) ar_nil)) ⟨x, r, n, rfl, hl, hn, fun z => .inl ⟨rfl, h1 z⟩, fun z _ => .inr ⟨rfl, (h2 z).2⟩, fun z y => Bool.noConfusion ((h2 z).1.symm.trans y)⟩) (fun d ⟨fs, _, z⟩ => z) (fun _ z => z)) m_len)
  · rcases ψ with ⟨e1, e2⟩ | ⟨e1, e2⟩ <;> subst e1
    · exact sds_ret (er_callX (j := 6) 2 c__law_error ⟨hr.dp, hr.un⟩ (hot_suite hz hf) (.head _) hz.zc hf ⟨"InvalidDay", _, _, _, _, _, _, rfl, I_InvalidDay, e2⟩ rfl)
    · exact sds_ret (er_callX (j := 6) 2 c__law_error ⟨hr.dp, hr.un⟩ (hot_suite hz hf) (.head _) hz.zc hf ⟨"InvalidRule", _, _, _, _, _, _, rfl, I_InvalidRule, e2⟩ rfl)
/-- the states of a diary, from the first on -/
structure SI (init : DSt) (k : Nat) (es : List DSt) (now : DSt) : Prop where
  hd : ∃ rest, es ++ [now] = init :: rest
  len : es.length ≤ k
  all : ∀ s ∈ es ++ [now], 690000 ≤ s.1 ∧ s.1 ≤ 804000 + 400 * k ∧ s.2.length ≤ k ∧ s.2.Pairwise (· < ·) ∧ ∀ n ∈ s.2, DN n
theorem SI.up {init : DSt} {k : Nat} {es : List DSt} {now : DSt} (I : SI init k es now) : SI init (k + 1) es now :=
  ⟨I.hd, Nat.le_succ_of_le I.len, fun s hs => by
    obtain ⟨a, b, c, d, e⟩ := I.all s hs
    exact ⟨a, by omega, by omega, d, e⟩⟩
theorem SI.add {init : DSt} {k : Nat} {es : List DSt} {now new : DSt} (I : SI init k es now) (h : 690000 ≤ new.1 ∧ new.1 ≤ 804000 + 400 * (k + 1 : Nat) ∧ new.2.length ≤ k + 1 ∧ new.2.Pairwise (· < ·) ∧ ∀ n ∈ new.2, DN n) : SI init (k + 1) (es ++ [now]) new := by
  refine ⟨?_, by simp; exact I.len, fun s hs => ?_⟩
  · obtain ⟨rest, e⟩ := I.hd
    exact ⟨rest ++ [new], by rw [e]; rfl⟩
  · rcases List.mem_append.1 hs with hs | hs
    · exact I.up.all s hs
    · rw [List.mem_singleton] at hs; subst hs; exact h
/-- what a thing asks of its reading -/
structure ThOk (q : Nat) (t : Int) (x : D) : Prop where
  sm : ∀ y, x = .str y → y.length ≤ 900000 ∧ PyData.strOk y = true
  ok : ∀ h, hintX x = some h → Cal.HOk h ∧ ∀ z, Cal.rd h t q = some z → DN z
theorem thok_int {q : Nat} {t : Int} {i : Int} : ThOk q t (.int i) := ⟨fun y e => (by cases e), fun h e => (by cases e)⟩
theorem thok_none {q : Nat} {t : Int} {x : D} (h1 : ∀ y, x = .str y → y.length ≤ 900000 ∧ PyData.strOk y = true) (h2 : hintX x = none) : ThOk q t x := ⟨h1, fun h e => by rw [h2] at e; cases e⟩
theorem step_ok {init : DSt} {k q : Nat} {es : List DSt} {now : DSt} {w : Way} {x : D} (I : SI init k es now) (th : ThOk q now.1 x) : SI init (k + 1) (stepD q es now w x).2.1 (stepD q es now w x).2.2 ∧ lk 4 (stepD q es now w x).1 = true := by
  have now_ := I.all now (by simp)
  cases w with
  | undo =>
    cases c : es.getLast? with
    | none =>
      have e : stepD q es now .undo x = (.str "nothing", es, now) := by simp [stepD, c]
      rw [e]
      exact ⟨I.up, (show lk 4 (.str "nothing") = true by decide +kernel)⟩
    | some l =>
      have e : stepD q es now .undo x = (.none, es.dropLast, l) := by simp [stepD, c]
      rw [e]
      have el : es = es.dropLast ++ [l] := by
        have ne : es ≠ [] := fun z => by rw [z] at c; cases c
        rw [List.getLast?_eq_some_getLast ne] at c
        cases c
        exact (List.dropLast_concat_getLast ne).symm
      obtain ⟨rest, hr⟩ := I.hd
      refine ⟨⟨?_, by have := I.len; simp; omega, fun s hs => ?_⟩, rfl⟩
      · show ∃ rest, es.dropLast ++ [l] = init :: rest
        rw [← el]
        cases es with
        | nil => cases c
        | cons a t => cases hr; exact ⟨t, rfl⟩
      · have hs : s ∈ es.dropLast ++ [l] := hs
        rw [← el] at hs
        exact I.up.all s (List.mem_append_left _ hs)
  | wait =>
    by_cases c : intIn x 0 400 = true
    · obtain ⟨j, rfl, j0, j1⟩ := intIn_is c
      have e : stepD q es now .wait (.int j) = (dayD (Cal.dayOf (now.1 + j)), es ++ [now], (now.1 + j, now.2)) := by simp [stepD, j0, j1]
      rw [e]
      refine ⟨I.add ⟨?_, ?_, ?_, now_.2.2.2⟩, lk_day⟩
      · show 690000 ≤ now.1 + j; omega
      · show now.1 + j ≤ _; have := now_.2.1; push_cast; omega
      · show now.2.length ≤ _; have := now_.2.2.1; omega
    · rw [step_wait (by simpa using c)]
      exact ⟨I.up, (show lk 4 (.str "number") = true by decide +kernel)⟩
  | note =>
    have st : stepD q es now .note x = match hintX x with
      | none => (.str "hint", es, now)
      | some h => match Cal.rd h now.1 q with
        | none => (.str "not", es, now)
        | some z => (dayD (Cal.dayOf z), es ++ [now], (now.1, insN z now.2)) := rfl
    cases c : hintX x with
    | none => rw [st, c]; exact ⟨I.up, (show lk 4 (.str "hint") = true by decide +kernel)⟩
    | some h =>
      rw [st, c]
      cases c2 : Cal.rd h now.1 q with
      | none => simp only [c2]; exact ⟨I.up, (show lk 4 (.str "not") = true by decide +kernel)⟩
      | some z =>
        simp only [c2]
        have dz := (th.ok h c).2 z c2
        have l := insN_len (z := z) (ns := now.2)
        refine ⟨I.add ⟨now_.1, ?_, ?_, insN_up now_.2.2.2.1, fun n hn => ?_⟩, lk_day⟩
        · show now.1 ≤ _; have := now_.2.1; push_cast; omega
        · show (insN z now.2).length ≤ _; have := now_.2.2.1; omega
        · rcases insN_mem.1 hn with e | m
          · rw [e]; exact dz
          · exact now_.2.2.2.2 n m
theorem eqv_tup {L M : List D} : PyData.eqv (.tuple L) (.tuple M) = PyData.eqvAll L M := by simp [PyData.eqv]
theorem eqv_nowself (s : DSt) : PyData.eqv (nowD s) (nowD s) = true := by
  have e : PyData.eqvAll (s.2.map PyData.int) (s.2.map PyData.int) = true := eqvA_self fun d hd => by
    obtain ⟨n, _, rfl⟩ := List.mem_map.1 hd
    simp [PyData.eqv]
  unfold nowD
  rw [eqv_tup]
  simp [PyData.eqvAll, PyData.eqv, e]
theorem lk_now (s : DSt) (h : s.2.length ≤ 1000000) (n : Nat) : lk (n + 2) (nowD s) = true := by
  simp [nowD, lk, lks, lk_ints, h]
theorem lk_nows (L : List DSt) (h : L.length ≤ 1000000) (h2 : ∀ s ∈ L, s.2.length ≤ 1000000) : lk 3 (.tuple (L.map nowD)) = true := by
  simp only [lk, List.length_map, Bool.and_eq_true, decide_eq_true_eq]
  refine ⟨h, ?_⟩
  induction L with
  | nil => rfl
  | cons a L ih =>
    simp only [List.map_cons, lks, Bool.and_eq_true]
    exact ⟨lk_now a (h2 a (by simp)) 0, ih (by simp at h; omega) fun s hs => h2 s (by simp [hs])⟩
theorem sc_law : FnScope ["script", "tape", "day", "rule", "diary", "kept", "turn", "way", "near", "thing", "due"] ["script"] (defScope s_law) := ⟨rfl, rfl, rfl, by decide +kernel, rfl, by decide +kernel, by decide +kernel⟩
theorem ok_law (F : FnP K "law" s_law f fd) (c_Diary___init__ : KiP P w K mg base 4 (He.ga K "Diary") (He.ma K (He.ga K "Diary") "__init__") (spI K (He.ga K "Diary") (R_Diary___init__ K))) (c_Diary___eq__ : Km P w K mg base 1 (He.ma K (He.ga K "Diary") "__eq__") [] (spF K (R_Diary___eq__ K))) (c__law_done : KnM P w K mg base 9 "_law_done" (R__law_done K)) (c__law_due : KnM P w K mg base 8 "_law_due" (R__law_due K)) (c__law_seen : Kn P w K mg base 12 "_law_seen" (spF K (R__law_seen K))) (c__law_tried : Kn P w K mg base 7 "_law_tried" (spF K R__law_tried)) (c__law_draw : Kn P w K mg base 1 "_law_draw" (spT K R__law_draw)) (c__law_like : Kn P w K mg base 5 "_law_like" (spF K (R_like 4))) (c__law_number : Kn P w K mg base 1 "_law_number" (spF K R__law_number)) (c__law_day : Kn P w K mg base 1 "_law_day" (spF K R__law_day)) (c__law_text : Kn P w K mg base 1 "_law_text" (spF K R__law_text)) (c__law_hint : Kn P w K mg base 4 "_law_hint" (spT K R__law_hint)) (c__law_rule : Kn P w K mg base 2 "_law_rule" (spT K R__law_rule)) (c_Diary_undo : Ke P w K mg base 1 (He.ma K (He.ga K "Diary") "undo") [] (spM K (R_Diary_undo K))) (m_list : mg "list" = none) (m_range : mg "range" = none) (m_len : mg "len" = none) (K_Diary : ClK K mg "Diary" ["rule", "now", "earlier"] [] ["set_now", "note", "wait", "undo", "today", "days", "lines", "__len__", "__contains__", "__eq__"] [] [("FARTHEST", .int 400)]) : FnOk P w K mg base CX0 13 f fd ["script"] (spLaw K) := by
  refine fnLaw F sc_law (fun cdv A outer s H E hr => ?_)
  have nd := sc_law.nd
  have dr : ∀ (n : Int), 0 < n → n.natAbs.log2 < 9000 → ∀ ds, ds = [PyData.int n] → R__law_draw ds (fun d => ∃ k : Int, d = .int k ∧ 0 ≤ k ∧ k < n) := fun n h0 h1 ds e => ⟨n, e, h0, h1, fun k a b => ⟨k, rfl, a, b⟩⟩
  refine sds_law0 (env := [.un, .tape, .un, .un, .un, .un, .un, .un, .un, .un, .un]) ?_ m_list rfl rfl (by decide) nd
  refine sds_parA 2 3 rfl (ar_cons (er_tup (Φ := fun z => ∃ y m d : Int, z = dayD (y, m, d) ∧ 1900 ≤ y ∧ y ≤ 2199 ∧ 1 ≤ m ∧ m ≤ 12 ∧ 1 ≤ d ∧ d ≤ 28) (ar_cons (er_bin1 ed_int (er_callT 1 c__law_draw hr (ad_cons ed_int ar_nil) (dr 300 (by decide) (by decide +kernel))) (Ψ := fun z => ∃ k : Int, z = .int k ∧ 1900 ≤ k ∧ k ≤ 2199) (fun z ⟨k, e, k0, k1⟩ => by subst e; exact o_add.imp fun d e => ⟨_, e, by omega, by omega⟩)) (ar_cons (er_bin1 ed_int (er_callT 1 c__law_draw hr (ad_cons ed_int ar_nil) (dr 12 (by decide) (by decide +kernel))) (Ψ := fun z => ∃ k : Int, z = .int k ∧ 1 ≤ k ∧ k ≤ 12) (fun z ⟨k, e, k0, k1⟩ => by subst e; exact o_add.imp fun d e => ⟨_, e, by omega, by omega⟩)) (ar_cons (er_bin1 ed_int (er_callT 1 c__law_draw hr (ad_cons ed_int ar_nil) (dr 28 (by decide) (by decide +kernel))) (Ψ := fun z => ∃ k : Int, z = .int k ∧ 1 ≤ k ∧ k ≤ 28) (fun z ⟨k, e, k0, k1⟩ => by subst e; exact o_add.imp fun d e => ⟨_, e, by omega, by omega⟩)) ar_nil))) (by decide) (fun ds hd => ?_)) (ar_cons (er_callT 1 c__law_rule hr ar_nil (fun ds e => ⟨e, fun r hr => ⟨r, hr, rfl⟩⟩) (Φ := fun z => ∃ r, r < 3 ∧ z = .str (ruleS r))) ar_nil)) (fun u v hΨ => ?_) nd
  · obtain ⟨_, _, rfl, ⟨y, rfl, y0, y1⟩, _, _, rfl, ⟨m, rfl, m0, m1⟩, _, _, rfl, ⟨d, rfl, d0, d1⟩, rfl⟩ := hd
    exact ⟨Nat.le_of_ble_eq_true rfl, y, m, d, rfl, y0, y1, m0, m1, d0, d1⟩
  obtain ⟨_, _, e1, ⟨y, m, d, e2, y0, y1, m0, m1, d0, d1⟩, _, _, e3, ⟨q, q3, e4⟩, e5⟩ := hΨ
  cases e1
  cases e3
  subst e2 e4
  have ml := Cal.mlen_lo y m
  have hv : VDay y m d := ⟨m0, m1, d0, by omega⟩
  have bl := Cal.num_lex (y := 1900) (m := 1) (d := 1) (by decide) (by decide) (by decide) (by decide +kernel) hv.1 hv.2.1 hv.2.2.1 hv.2.2.2 (by omega)
  have bh := Cal.num_lex (y' := 2200) (m' := 1) (d' := 1) hv.1 hv.2.1 hv.2.2.1 hv.2.2.2 (by decide) (by decide) (by decide) (by decide +kernel) (by omega)
  have b1 : Cal.num 1900 1 1 = 693596 := by decide +kernel
  have b2 : Cal.num 2200 1 1 = 803169 := by decide +kernel
  rw [b1] at bl
  rw [b2] at bh
  have rk : ruleB (.str (ruleS q)) = true := by
    unfold ruleS
    split
    · decide +kernel
    · split <;> decide +kernel
  have lkr : lk 1 (.str (ruleS q)) = true := by
    unfold ruleS
    split
    · decide +kernel
    · split <;> decide +kernel
  have dyo : isDayB (dayD (y, m, d)) = true := by
    obtain ⟨h1, h2, h3, h4⟩ := hv
    have a : 1000 ≤ y := by omega
    have b : y ≤ 9000 := by omega
    simp [isDayB, dayD, intIn, dInt, *]
  have mk : ∀ (Φ : List (Str × D) → Prop) (Ψ : Value → Prop), Φ (diaryFs (.str (ruleS q)) (Cal.num y m d, []) []) → R_Diary___init__ K [dayD (y, m, d), .str (ruleS q)] Φ Ψ := fun Φ Ψ h => ⟨_, _, 1, rfl, lkr, by decide, fun z => Bool.noConfusion (dyo.symm.trans z), fun _ z => Bool.noConfusion (rk.symm.trans z), fun _ _ y' m' d' e => by cases e; exact h⟩
  refine sds_par2R 4 5 rfl (exsr_cons (exr_makeO (fs := diaryFs (.str (ruleS q)) (Cal.num y m d, []) []) c_Diary___init__ K_Diary.gl hr (ad_cons (ed_var 2) (ad_cons (ed_var 3) ar_nil)) (mk _ _ rfl)) (exsr_cons (ex_lst (ds := [kD (Cal.num y m d, [])]) (ad_cons (ed_tup (ad_cons (ed_call c__law_number hr (ad_cons (ed_var 2) ar_nil) ⟨_, _, _, rfl, hv.1, hv.2.1, rfl⟩) (ad_cons (ed_lst ar_nil) ar_nil))) ar_nil)) exsr_nil)) (fun s t hΨ => ?_) (fun ss ⟨_, _, e, _, _, _, e2, _, e3⟩ => by subst e e2 e3; rfl) nd
  obtain ⟨_, _, e1, ⟨a, rfl⟩, _, _, e2, rfl, e3⟩ := hΨ
  cases e1
  cases e2
  refine sds_name 5 rfl fun b => ?_
  generalize hinit : (Cal.num y m d, ([] : List Int)) = init
  have hin : init.2 = [] := by rw [← hinit]
  have hi1 : init.1 = Cal.num y m d := by rw [← hinit]
  have eqq := K_Diary.me "__eq__" (by simp)
  have ini : SI init 0 [] init := ⟨⟨[], rfl⟩, Nat.le_refl _, fun s hs => by
    have e : s = init := by simpa using hs
    subst e
    rw [hin, hi1]
    exact ⟨by omega, by omega, by simp, .nil, by simp⟩⟩
  have thS : ∀ {t : Int} {x : Str}, x.length ≤ 900000 → PyData.strOk x = true → readS x = none → ThOk q t (.str x) := fun h1 h2 h3 => thok_none (fun y e => by cases e; exact ⟨h1, h2⟩) h3
  refine sds_for (items := rangeD 0 16) (fun k e => k ≤ 16 ∧ ∃ now es s6 s7 s8 s9 s10, SI init k es now ∧ e = [.un, .tape, .dt (dayD (y, m, d)), .dt (.str (ruleS q)), .owo a (diaryS K (.str (ruleS q)) now es), .owo b (.lst ((es ++ [now]).map kD)), s6, s7, s8, s9, s10]) (fun _ => False) rfl (IR.is (ir_rng1 (ad_cons ed_int ar_nil) (by decide) m_range) (ys := rangeD 0 16) rfl) ⟨by decide, init, [], _, _, _, _, _, ini, by rw [← hinit]; rfl⟩ (fun k dk e hk hI => ?_) (fun e he => ?_)
  · obtain ⟨_, now, es, s6, s7, s8, s9, s10, I, rfl⟩ := hI
    have k16 : k < 16 := by
      have := (List.getElem?_eq_some_iff.mp hk).1
      rw [rangeD_len] at this; exact this
    have now_ := I.all now (by simp)
    have el := I.len
    have atl : L2.atI ((es ++ [now]).map kD) (-1) = some (kD now) := by rw [List.map_append]; exact atI_last
    refine ⟨_, _, gr_name 6, ?_⟩
    refine sds_setR 7 (R := fun z => ∃ w, z = .str (wayT w)) (er_pickD (p := fun z => ∃ w, z = .str (wayT w)) (n := 5) (pd_cons (ed_str.er ⟨.note, rfl⟩) (pd_cons (ed_str.er ⟨.note, rfl⟩) (pd_cons (ed_str.er ⟨.wait, rfl⟩) (pd_cons (ed_str.er ⟨.undo, rfl⟩) (pd_cons (ed_str.er ⟨.note, rfl⟩) pd_nil))))) (er_callT 1 c__law_draw hr (ad_cons ed_int ar_nil) (dr 5 (by decide) (by decide +kernel)))) (fun x hx => ?_) nd
    obtain ⟨w, rfl⟩ := hx
    refine sds_setR 8 (R := fun z => ∃ n : Int, z = dayD (Cal.dayOf n) ∧ now.1 - 20 ≤ n ∧ n ≤ now.1 + 40) (er_call c__law_day hr (ar_cons (er_binL (Φ := fun z => ∃ n : Int, z = .int n ∧ now.1 ≤ n ∧ n ≤ now.1 + 60) (Ψ := fun z => ∃ n : Int, z = .int n ∧ now.1 - 20 ≤ n ∧ n ≤ now.1 + 40) (er_bin1 (ed_ix (ed_ownIx 5 rfl (ed_neg ed_int) (xs := (es ++ [now]).map kD) (d := kD now) atl) ed_int (i_tup (d := .int now.1) rfl)) (er_callT 1 c__law_draw hr (ad_cons ed_int ar_nil) (dr 61 (by decide) (by decide +kernel))) (fun z ⟨j, e, j0, j1⟩ => by subst e; exact o_add.imp fun d e => ⟨_, e, by omega, by omega⟩)) ed_int (fun z ⟨n, e, n0, n1⟩ => by subst e; exact o_sub.imp fun d e => ⟨_, e, by omega, by omega⟩)) ar_nil) (fun ds hd => ?_)) (fun x hx => ?_) nd
    · obtain ⟨_, _, rfl, ⟨n, rfl, n0, n1⟩, rfl⟩ := hd
      exact ⟨n, rfl, n, rfl, n0, n1⟩
    obtain ⟨n, rfl, n0, n1⟩ := hx
    have dnn : DN n := ⟨by omega, by omega⟩
    obtain ⟨vn, _, _⟩ := dnn.day
    have yl : 1003 ≤ (Cal.dayOf n).1 := by
      apply Classical.byContradiction
      intro z
      have := Cal.num_lex (y' := 1888) (m' := 1) (d' := 1) vn.1 vn.2.1 vn.2.2.1 vn.2.2.2 (by decide) (by decide) (by decide) (by decide +kernel) (by have := Cal.mlen_hi (Cal.dayOf n).1 (Cal.dayOf n).2.1; have := vn.2.2.2; have := vn.2.1; omega)
      rw [num_of, show Cal.num 1888 1 1 = 689213 by decide +kernel] at this
      omega
    have yh : (Cal.dayOf n).1 ≤ 8997 := by
      apply Classical.byContradiction
      intro z
      have := Cal.num_lex (y := 2300) (m := 1) (d := 1) (by decide) (by decide) (by decide) (by decide +kernel) vn.1 vn.2.1 vn.2.2.1 vn.2.2.2 (by have := vn.1; have := vn.2.2.1; omega)
      rw [num_of, show Cal.num 2300 1 1 = 839693 by decide +kernel] at this
      omega
    refine sds_setR 9 (R := ThOk q now.1) (er_call c__law_text hr (ar_cons (er_callT 1 c__law_hint hr (ad_cons (ed_var 8) ar_nil) (fun ds e => ⟨(Cal.dayOf n).1, (Cal.dayOf n).2.1, (Cal.dayOf n).2.2, e, vn, fun h hh => ⟨h, rfl, hh⟩⟩) (Φ := fun x => ∃ h, x = hintD h ∧ Cal.HDr (Cal.dayOf n).1 h)) ar_nil) (fun ds hd => ?_)) (fun x hx => ?_) nd
    · obtain ⟨_, _, rfl, ⟨h, rfl, hh⟩, rfl⟩ := hd
      have tx := HDr_tx hh (by omega) (by omega)
      have tl := text_len tx
      refine ⟨h, rfl, tx, ⟨fun y e => by cases e; exact ⟨by omega, text_ok tx⟩, fun g e => ?_⟩⟩
      have e : readS (textH h) = some g := e
      rw [read_text tx] at e
      cases e
      exact ⟨hh.ok, fun z hz => Cal.rd_dn (fun v hv => by have := hh.yr v hv; omega) (by omega) (by omega) hz⟩
    have J0 : ∀ x, ThOk q now.1 x → (fun e => ∃ x, e = [Sl.un, .tape, .dt (dayD (y, m, d)), .dt (.str (ruleS q)), .owo a (diaryS K (.str (ruleS q)) now es), .owo b (.lst ((es ++ [now]).map kD)), .dt dk, .dt (.str (wayT w)), .dt (dayD (Cal.dayOf n)), .dt x, s10] ∧ ThOk q now.1 x) [Sl.un, .tape, .dt (dayD (y, m, d)), .dt (.str (ruleS q)), .owo a (diaryS K (.str (ruleS q)) now es), .owo b (.lst ((es ++ [now]).map kD)), .dt dk, .dt (.str (wayT w)), .dt (dayD (Cal.dayOf n)), .dt x, s10] := fun x h => ⟨x, rfl, h⟩
    refine sds_if (fun e => ∃ x, e = [Sl.un, .tape, .dt (dayD (y, m, d)), .dt (.str (ruleS q)), .owo a (diaryS K (.str (ruleS q)) now es), .owo b (.lst ((es ++ [now]).map kD)), .dt dk, .dt (.str (wayT w)), .dt (dayD (Cal.dayOf n)), .dt x, s10] ∧ ThOk q now.1 x) (td_cmp (ed_var 7) ed_str o_eqS) (fun _ => ?_) (fun _ => sds_nil (J0 x hx)) (fun e he => ?_)
    · refine sds_setR 9 (R := fun z => ∃ i : Int, z = .int i ∧ True) (er_pick (p := fun _ => True) (n := 6) (pi_cons' (ed_int.er ⟨_, rfl, trivial⟩) (pi_cons' (ed_int.er ⟨_, rfl, trivial⟩) (pi_cons' (ed_int.er ⟨_, rfl, trivial⟩) (pi_cons' (ed_int.er ⟨_, rfl, trivial⟩) (pi_cons' (ed_int.er ⟨_, rfl, trivial⟩) (pi_cons' (ER.imp (er_callT 1 c__law_draw hr (ad_cons ed_int ar_nil) (dr 401 (by decide) (by decide +kernel))) (fun d ⟨j, e, _⟩ => ⟨j, e, trivial⟩)) pi_nil')))))) (er_callT 1 c__law_draw hr (ad_cons ed_int ar_nil) (dr 6 (by decide) (by decide +kernel)))) (fun x ⟨i, e, _⟩ => ?_) nd
      subst e
      exact sds_nil (J0 _ thok_int)
    obtain ⟨x, rfl, hx⟩ := he
    refine sds_ifR (fun e => ∃ x, e = [Sl.un, .tape, .dt (dayD (y, m, d)), .dt (.str (ruleS q)), .owo a (diaryS K (.str (ruleS q)) now es), .owo b (.lst ((es ++ [now]).map kD)), .dt dk, .dt (.str (wayT w)), .dt (dayD (Cal.dayOf n)), .dt x, s10] ∧ ThOk q now.1 x) (Ξ := fun _ => True) (tr_cmp (er_callT 1 c__law_draw hr (ad_cons ed_int ar_nil) (dr 6 (by decide) (by decide +kernel))) ed_int (fun x y ⟨j, e, _⟩ e2 => by subst e; subst e2; exact o_eq.imp fun d e => ⟨_, e, trivial⟩) (nomark _)) ?_ (sds_nil fun _ => J0 x hx) (fun e he => ?_)
    · have feb : readS ("30. Feb" : Str) = some ⟨none, some 30, some 2, none⟩ := by
        have t2 : HTx ⟨none, some 30, some 2, none⟩ := htB_iff.1 (by decide)
        have e2 : textH ⟨none, some 30, some 2, none⟩ = ("30. Feb" : Str) := by decide +kernel
        rw [← e2]
        exact read_text t2
      have thF : ThOk q now.1 (.str "30. Feb") := ⟨fun y e => by cases e; exact ⟨by decide +kernel, by decide +kernel⟩, fun h e => by
        have e : readS ("30. Feb" : Str) = some h := e
        rw [feb] at e
        cases e
        refine ⟨⟨by simp, by simp, by simp⟩, fun z hz => ?_⟩
        rw [Cal.rd_never (Cal.never rfl rfl fun y => ?_)] at hz
        · cases hz
        · have : Cal.mlen y 2 ≤ 29 := by unfold Cal.mlen; simp; split <;> omega
          omega⟩
      refine sds_setR 9 (R := ThOk q now.1) (er_pickD (p := ThOk q now.1) (n := 7) (pd_cons (ed_non.er (thok_none (fun y e => by cases e) rfl)) (pd_cons ((ed_neg ed_int).er thok_int) (pd_cons (ed_int.er thok_int) (pd_cons (ed_bl.er (thok_none (fun y e => by cases e) rfl)) (pd_cons (ed_str.er (thS (by decide +kernel) (by decide +kernel) (by decide +kernel))) (pd_cons (ed_str.er (thS (by decide +kernel) (by decide +kernel) (by decide +kernel))) (pd_cons (ed_str.er thF) pd_nil))))))) (er_callT 1 c__law_draw hr (ad_cons ed_int ar_nil) (dr 7 (by decide) (by decide +kernel)))) (fun x hx => sds_nil fun _ => J0 x hx) nd
    obtain ⟨x, rfl, hx⟩ := he
    have so := step_ok (w := w) I hx
    have lkE := lk_nows es (by omega) (fun s hs => by have := (I.all s (List.mem_append_left _ hs)).2.2.1; omega)
    have st_ := so.1.all _ (List.mem_append_right _ (List.mem_singleton.2 rfl))
    refine sds_setE 10 (ede_em (s1 := .lst (((stepD q es now w x).2.1 ++ [(stepD q es now w x).2.2]).map kD)) (d := (stepD q es now w x).1) (em_call (i := 5) c__law_due hr takesN (ag_dt (ed_var 3) (ag_own 5 (ag_dt (ed_var 7) (ag_dt (ed_var 9) ag_nil)))) rfl ⟨q, now, es, w, x, q3, rfl, rfl, by omega, by omega, now_.2.2.2.1, hx.sm, fun h e => (hx.ok h e).1, rfl, rfl⟩)) ?_ nd
    refine sds_ifFe (WDe.td (wde_or (tde_not (k := true) (tde_val (ede_call c__law_like hr (ade_cons (ede_em (s1 := diaryS K (.str (ruleS q)) (stepD q es now w x).2.2 (stepD q es now w x).2.1) (d := (stepD q es now w x).1) (em_call (i := 4) c__law_done hr takesN (ag_own 4 (ag_dt (ed_var 7) (ag_dt (ed_var 9) ag_nil))) rfl ⟨q, now, es, w, x, 3, q3, rfl, rfl, by omega, by omega, now_.2.2.2.1, lkE, by decide, hx.sm, fun h e => (hx.ok h e).1, rfl, rfl⟩)) (ad_cons (ed_var 10) ar_nil)) ⟨_, rfl, so.2, rfl⟩))) (wd_or1 (td_not (td_view 4 rfl K_Diary.ob (td_view 5 rfl trivial (td_val (ed_call c__law_seen hr (ad_cons (ed_var 4) (ad_cons (ed_var 3) (ad_cons (ed_var 5) ar_nil))) ⟨q, (stepD q es now w x).2.2, (stepD q es now w x).2.1, q3, rfl, by omega, ⟨by omega, by push_cast at st_; omega⟩, st_.2.2.2.2, rfl⟩)))))))) rfl ?_
    exact sds_nil ⟨by omega, _, _, _, _, _, _, _, so.1, rfl⟩
  obtain ⟨_, now, es, s6, s7, s8, s9, s10, I, rfl⟩ := he.resolve_right id
  have now_ := I.all now (by simp)
  have el := I.len
  have lkE := lk_nows es (by omega) (fun s hs => by have := (I.all s (List.mem_append_left _ hs)).2.2.1; omega)
  have lkN := lk_now now (by omega) 1
  have lkI := lk_now init (by rw [hin]; decide) 1
  have lkr3 : lk 3 (.str (ruleS q)) = true := lkr
  have rr : PyData.eqv (.str (ruleS q)) (.str (ruleS q)) = true := by simp [PyData.eqv]
  have EB : (PyData.eqv (.str (ruleS q)) (.str (ruleS q)) && (PyData.eqv (nowD now) (nowD init) && PyData.eqv (.tuple (es.map nowD)) (.tuple (([] : List DSt).map nowD)))) = decide ((((es ++ [now]).map kD).length : Int) = 1) := by
    rw [rr, Bool.true_and, List.map_nil, eqv_tnil]
    cases c : es with
    | nil =>
      obtain ⟨rest, hr⟩ := I.hd
      rw [c] at hr
      have hr : now = init ∧ [] = rest := by simpa using hr
      rw [hr.1, eqv_nowself]
      simp
    | cons u v =>
      simp
      omega
  refine sds_still 4 rfl K_Diary.ob (sds_still 5 rfl trivial ?_)
  refine sds_ifF (td_cmp (ed_cmp (ed_var 4) (ER.imp (er_of1 (ex1_makeP (Φs := fun fs => fs = diaryFs (.str (ruleS q)) init []) c_Diary___init__ K_Diary.gl hr takesN (ad_cons (ed_var 2) (ad_cons (ed_var 3) ar_nil)) (mk _ _ (by rw [hinit])))) (fun d ⟨fs, e, e2⟩ => by rw [e, e2])) (o_eqI eqq.1 eqq.2.1 c_Diary___eq__ hr (tyI_obj K_Diary.self) ⟨_, now, es, _, _, rfl, rfl, .inr ⟨_, init, [], 3, rfl, lkr3, lkr3, by decide, lkN, lkI, lkE, rfl, rfl⟩⟩)) (ed_cmp (ed_callB (ad_cons (ed_var 5) ar_nil) m_len boot_len c_lenL) ed_int o_eq) (o_neD hr.units rfl rfl rfl rfl)) (by rw [EB]; cases decide ((((es ++ [now]).map kD).length : Int) = 1) <;> rfl) ?_
  refine sds_ifF (td_cmp (ed_lst (ad_cons (ed_call c__law_tried hr (ad_cons ed_non (ad_cons ed_non ar_nil)) ⟨_, _, 1, rfl, rfl, by decide, fun _ => rfl, fun z => nomatch z⟩) (ad_cons (ed_call c__law_tried hr (ad_cons (ed_tup (ad_cons ed_int (ad_cons ed_int (ad_cons ed_int ar_nil)))) (ad_cons ed_str ar_nil)) ⟨_, _, 1, rfl, by decide +kernel, by decide, fun _ => rfl, fun z => absurd z (by decide +kernel)⟩) (ad_cons (ed_call c__law_tried hr (ad_cons (ed_var 2) (ad_cons ed_str ar_nil)) ⟨_, _, 1, rfl, by decide +kernel, by decide, fun z => Bool.noConfusion (dyo.symm.trans z), fun _ => ⟨by decide +kernel, rfl⟩⟩) ar_nil)))) (ed_lst (ad_cons ed_str (ad_cons ed_str (ad_cons ed_str ar_nil)))) (o_neK (n := 2) (m := 2) (x := .list [.str "day", .str "day", .str "rule"]) (y := .list [.str "day", .str "day", .str "rule"]) hr.units (by decide +kernel) (by decide +kernel))) (by decide +kernel) ?_
  exact sds_retD (ed_cmp (ed_cval K_Diary.gl K_Diary.rd (K_Diary.cv ("FARTHEST", .int 400) (by simp))) ed_int o_eq) rfl
end
theorem facts {P : Program} {w : World} {K : Fg} {h : Heap} {mg : Str → Option Value} {f : Addr} (X : K.In h) (G : h.Ns mainGlobals mg) (hfa : mg ("law" : Str) = some (.ref f)) (c : SaysZ fa fn ex K) :
    ∃ fd : FuncData, (∀ (s : Shared) (v : Value), BindsTo s fd ⟨[v], []⟩ [("script", v)]) ∧ ∀ base : Heap, K.In base → base.Ns mainGlobals mg → FnOk P w K mg base CX0 13 f fd ["script"] (spLaw K) := by
  obtain ⟨c, cx⟩ := c
  obtain ⟨fd_is_integer, F_is_integer⟩ := c.def_ 0 (d := d_is_integer) rfl
  obtain ⟨fd_is_leap, F_is_leap⟩ := c.def_ 1 (d := d_is_leap) rfl
  obtain ⟨fd_month_length, F_month_length⟩ := c.def_ 2 (d := d_month_length) rfl
  obtain ⟨fd_is_day, F_is_day⟩ := c.def_ 3 (d := d_is_day) rfl
  obtain ⟨fd_before_year, F_before_year⟩ := c.def_ 4 (d := d_before_year) rfl
  obtain ⟨fd_month_start, F_month_start⟩ := c.def_ 5 (d := d_month_start) rfl
  obtain ⟨fd_number_of, F_number_of⟩ := c.def_ 6 (d := d_number_of) rfl
  obtain ⟨fd_day_at, F_day_at⟩ := c.def_ 7 (d := d_day_at) rfl
  obtain ⟨fd_weekday_of, F_weekday_of⟩ := c.def_ 8 (d := d_weekday_of) rfl
  obtain ⟨fd_is_hint, F_is_hint⟩ := c.def_ 9 (d := d_is_hint) rfl
  obtain ⟨fd_is_rule, F_is_rule⟩ := c.def_ 10 (d := d_is_rule) rfl
  obtain ⟨fd_in_month, F_in_month⟩ := c.def_ 11 (d := d_in_month) rfl
  obtain ⟨fd_month_after, F_month_after⟩ := c.def_ 12 (d := d_month_after) rfl
  obtain ⟨fd_next_fit, F_next_fit⟩ := c.def_ 13 (d := d_next_fit) rfl
  obtain ⟨fd_last_fit, F_last_fit⟩ := c.def_ 14 (d := d_last_fit) rfl
  obtain ⟨fd_read, F_read⟩ := c.def_ 15 (d := d_read) rfl
  obtain ⟨fd_as_day, F_as_day⟩ := c.def_ 16 (d := d_as_day) rfl
  obtain ⟨fd_meant, F_meant⟩ := c.def_ 17 (d := d_meant) rfl
  obtain ⟨fd_hint_text, F_hint_text⟩ := c.def_ 18 (d := d_hint_text) rfl
  obtain ⟨fd_read_number, F_read_number⟩ := c.def_ 19 (d := d_read_number) rfl
  obtain ⟨fd_read_word, F_read_word⟩ := c.def_ 20 (d := d_read_word) rfl
  obtain ⟨fd_read_hint, F_read_hint⟩ := c.def_ 21 (d := d_read_hint) rfl
  obtain ⟨fd_hint_of, F_hint_of⟩ := c.def_ 22 (d := d_hint_of) rfl
  obtain ⟨fd_text_key, F_text_key⟩ := c.def_ 23 (d := d_text_key) rfl
  obtain ⟨fd_all_hints, F_all_hints⟩ := c.def_ 24 (d := d_all_hints) rfl
  obtain ⟨fd_hints_for, F_hints_for⟩ := c.def_ 25 (d := d_hints_for) rfl
  obtain ⟨fd_shortest_hint, F_shortest_hint⟩ := c.def_ 26 (d := d_shortest_hint) rfl
  obtain ⟨fd_Diary___init__, F_Diary___init__⟩ := c.def_ 27 (d := d_Diary___init__) rfl
  obtain ⟨fd_Diary_set_now, F_Diary_set_now⟩ := c.def_ 28 (d := d_Diary_set_now) rfl
  obtain ⟨fd_Diary_note, F_Diary_note⟩ := c.def_ 29 (d := d_Diary_note) rfl
  obtain ⟨fd_Diary_wait, F_Diary_wait⟩ := c.def_ 30 (d := d_Diary_wait) rfl
  obtain ⟨fd_Diary_undo, F_Diary_undo⟩ := c.def_ 31 (d := d_Diary_undo) rfl
  obtain ⟨fd_Diary_today, F_Diary_today⟩ := c.def_ 32 (d := d_Diary_today) rfl
  obtain ⟨fd_Diary_days, F_Diary_days⟩ := c.def_ 33 (d := d_Diary_days) rfl
  obtain ⟨fd_Diary_lines, F_Diary_lines⟩ := c.def_ 34 (d := d_Diary_lines) rfl
  obtain ⟨fd_Diary___len__, F_Diary___len__⟩ := c.def_ 35 (d := d_Diary___len__) rfl
  obtain ⟨fd_Diary___contains__, F_Diary___contains__⟩ := c.def_ 36 (d := d_Diary___contains__) rfl
  obtain ⟨fd_Diary___eq__, F_Diary___eq__⟩ := c.def_ 37 (d := d_Diary___eq__) rfl
  obtain ⟨fd__law_draw, F__law_draw⟩ := c.def_ 38 (d := d__law_draw) rfl
  obtain ⟨fd__law_whole, F__law_whole⟩ := c.def_ 39 (d := d__law_whole) rfl
  obtain ⟨fd__law_within, F__law_within⟩ := c.def_ 40 (d := d__law_within) rfl
  obtain ⟨fd__law_like, F__law_like⟩ := c.def_ 41 (d := d__law_like) rfl
  obtain ⟨fd__law_number, F__law_number⟩ := c.def_ 42 (d := d__law_number) rfl
  obtain ⟨fd__law_day, F__law_day⟩ := c.def_ 43 (d := d__law_day) rfl
  obtain ⟨fd__law_leap, F__law_leap⟩ := c.def_ 44 (d := d__law_leap) rfl
  obtain ⟨fd__law_length, F__law_length⟩ := c.def_ 45 (d := d__law_length) rfl
  obtain ⟨fd__law_parts, F__law_parts⟩ := c.def_ 46 (d := d__law_parts) rfl
  obtain ⟨fd__law_in, F__law_in⟩ := c.def_ 47 (d := d__law_in) rfl
  obtain ⟨fd__law_next, F__law_next⟩ := c.def_ 48 (d := d__law_next) rfl
  obtain ⟨fd__law_last, F__law_last⟩ := c.def_ 49 (d := d__law_last) rfl
  obtain ⟨fd__law_meant, F__law_meant⟩ := c.def_ 50 (d := d__law_meant) rfl
  obtain ⟨fd__law_kind, F__law_kind⟩ := c.def_ 51 (d := d__law_kind) rfl
  obtain ⟨fd__law_hint_of, F__law_hint_of⟩ := c.def_ 52 (d := d__law_hint_of) rfl
  obtain ⟨fd__law_hint, F__law_hint⟩ := c.def_ 53 (d := d__law_hint) rfl
  obtain ⟨fd__law_rule, F__law_rule⟩ := c.def_ 54 (d := d__law_rule) rfl
  obtain ⟨fd__law_text, F__law_text⟩ := c.def_ 55 (d := d__law_text) rfl
  obtain ⟨fd__law_size, F__law_size⟩ := c.def_ 56 (d := d__law_size) rfl
  obtain ⟨fd__law_every, F__law_every⟩ := c.def_ 57 (d := d__law_every) rfl
  obtain ⟨fd__law_error, F__law_error⟩ := c.def_ 58 (d := d__law_error) rfl
  obtain ⟨fd__law_done, F__law_done⟩ := c.def_ 59 (d := d__law_done) rfl
  obtain ⟨fd__law_due, F__law_due⟩ := c.def_ 60 (d := d__law_due) rfl
  obtain ⟨fd__law_seen, F__law_seen⟩ := c.def_ 61 (d := d__law_seen) rfl
  obtain ⟨fd__law_tried, F__law_tried⟩ := c.def_ 62 (d := d__law_tried) rfl
  obtain ⟨fd_law, F_law⟩ := c.def_ 63 (d := d_law) rfl
  have h_is_integer := He.glo_ok X G (c.fact 0 (f := .glo "is_integer") rfl)
  have h_is_leap := He.glo_ok X G (c.fact 1 (f := .glo "is_leap") rfl)
  have h_month_length := He.glo_ok X G (c.fact 2 (f := .glo "month_length") rfl)
  have h_is_day := He.glo_ok X G (c.fact 3 (f := .glo "is_day") rfl)
  have h_before_year := He.glo_ok X G (c.fact 4 (f := .glo "before_year") rfl)
  have h_month_start := He.glo_ok X G (c.fact 5 (f := .glo "month_start") rfl)
  have h_number_of := He.glo_ok X G (c.fact 6 (f := .glo "number_of") rfl)
  have h_day_at := He.glo_ok X G (c.fact 7 (f := .glo "day_at") rfl)
  have h_weekday_of := He.glo_ok X G (c.fact 8 (f := .glo "weekday_of") rfl)
  have h_is_hint := He.glo_ok X G (c.fact 9 (f := .glo "is_hint") rfl)
  have h_is_rule := He.glo_ok X G (c.fact 10 (f := .glo "is_rule") rfl)
  have h_in_month := He.glo_ok X G (c.fact 11 (f := .glo "in_month") rfl)
  have h_month_after := He.glo_ok X G (c.fact 12 (f := .glo "month_after") rfl)
  have h_next_fit := He.glo_ok X G (c.fact 13 (f := .glo "next_fit") rfl)
  have h_last_fit := He.glo_ok X G (c.fact 14 (f := .glo "last_fit") rfl)
  have h_read := He.glo_ok X G (c.fact 15 (f := .glo "read") rfl)
  have h_as_day := He.glo_ok X G (c.fact 16 (f := .glo "as_day") rfl)
  have h_meant := He.glo_ok X G (c.fact 17 (f := .glo "meant") rfl)
  have h_hint_text := He.glo_ok X G (c.fact 18 (f := .glo "hint_text") rfl)
  have h_read_number := He.glo_ok X G (c.fact 19 (f := .glo "read_number") rfl)
  have h_read_word := He.glo_ok X G (c.fact 20 (f := .glo "read_word") rfl)
  have h_read_hint := He.glo_ok X G (c.fact 21 (f := .glo "read_hint") rfl)
  have h_hint_of := He.glo_ok X G (c.fact 22 (f := .glo "hint_of") rfl)
  have h_text_key := He.glo_ok X G (c.fact 23 (f := .glo "text_key") rfl)
  have h_all_hints := He.glo_ok X G (c.fact 24 (f := .glo "all_hints") rfl)
  have h_hints_for := He.glo_ok X G (c.fact 25 (f := .glo "hints_for") rfl)
  have h_shortest_hint := He.glo_ok X G (c.fact 26 (f := .glo "shortest_hint") rfl)
  have h__law_draw := He.glo_ok X G (c.fact 27 (f := .glo "_law_draw") rfl)
  have h__law_whole := He.glo_ok X G (c.fact 28 (f := .glo "_law_whole") rfl)
  have h__law_within := He.glo_ok X G (c.fact 29 (f := .glo "_law_within") rfl)
  have h__law_like := He.glo_ok X G (c.fact 30 (f := .glo "_law_like") rfl)
  have h__law_number := He.glo_ok X G (c.fact 31 (f := .glo "_law_number") rfl)
  have h__law_day := He.glo_ok X G (c.fact 32 (f := .glo "_law_day") rfl)
  have h__law_leap := He.glo_ok X G (c.fact 33 (f := .glo "_law_leap") rfl)
  have h__law_length := He.glo_ok X G (c.fact 34 (f := .glo "_law_length") rfl)
  have h__law_parts := He.glo_ok X G (c.fact 35 (f := .glo "_law_parts") rfl)
  have h__law_in := He.glo_ok X G (c.fact 36 (f := .glo "_law_in") rfl)
  have h__law_next := He.glo_ok X G (c.fact 37 (f := .glo "_law_next") rfl)
  have h__law_last := He.glo_ok X G (c.fact 38 (f := .glo "_law_last") rfl)
  have h__law_meant := He.glo_ok X G (c.fact 39 (f := .glo "_law_meant") rfl)
  have h__law_kind := He.glo_ok X G (c.fact 40 (f := .glo "_law_kind") rfl)
  have h__law_hint_of := He.glo_ok X G (c.fact 41 (f := .glo "_law_hint_of") rfl)
  have h__law_hint := He.glo_ok X G (c.fact 42 (f := .glo "_law_hint") rfl)
  have h__law_rule := He.glo_ok X G (c.fact 43 (f := .glo "_law_rule") rfl)
  have h__law_text := He.glo_ok X G (c.fact 44 (f := .glo "_law_text") rfl)
  have h__law_size := He.glo_ok X G (c.fact 45 (f := .glo "_law_size") rfl)
  have h__law_every := He.glo_ok X G (c.fact 46 (f := .glo "_law_every") rfl)
  have h__law_error := He.glo_ok X G (c.fact 47 (f := .glo "_law_error") rfl)
  have h__law_done := He.glo_ok X G (c.fact 48 (f := .glo "_law_done") rfl)
  have h__law_due := He.glo_ok X G (c.fact 49 (f := .glo "_law_due") rfl)
  have h__law_seen := He.glo_ok X G (c.fact 50 (f := .glo "_law_seen") rfl)
  have h__law_tried := He.glo_ok X G (c.fact 51 (f := .glo "_law_tried") rfl)
  have h_law := He.glo_ok X G (c.fact 52 (f := .glo "law") rfl)
  have m_isinstance := He.free_ok X G (c.fact 53 (f := .free "isinstance") rfl)
  have m_int := He.free_ok X G (c.fact 54 (f := .free "int") rfl)
  have m_bool := He.free_ok X G (c.fact 55 (f := .free "bool") rfl)
  have m_tuple := He.free_ok X G (c.fact 56 (f := .free "tuple") rfl)
  have m_len := He.free_ok X G (c.fact 57 (f := .free "len") rfl)
  have m_sum := He.free_ok X G (c.fact 58 (f := .free "sum") rfl)
  have m_zip := He.free_ok X G (c.fact 59 (f := .free "zip") rfl)
  have m_all := He.free_ok X G (c.fact 60 (f := .free "all") rfl)
  have m_str := He.free_ok X G (c.fact 61 (f := .free "str") rfl)
  have m_range := He.free_ok X G (c.fact 62 (f := .free "range") rfl)
  have m_sorted := He.free_ok X G (c.fact 63 (f := .free "sorted") rfl)
  have m_set := He.free_ok X G (c.fact 64 (f := .free "set") rfl)
  have m_list := He.free_ok X G (c.fact 65 (f := .free "list") rfl)
  unfold ex at cx
  simp only [Bool.and_eq_true] at cx
  obtain ⟨cx, x_I_InvalidRule⟩ := cx
  obtain ⟨cx, x_I_InvalidDay⟩ := cx
  obtain ⟨cx, x_E_InvalidRule⟩ := cx
  obtain ⟨cx, x_E_InvalidDay⟩ := cx
  obtain ⟨cx, x_I_NothingToUndo⟩ := cx
  obtain ⟨cx, x_I_InvalidNumber⟩ := cx
  obtain ⟨cx, x_I_NotThere⟩ := cx
  obtain ⟨cx, x_I_InvalidHint⟩ := cx
  obtain ⟨cx, x_E_NothingToUndo⟩ := cx
  obtain ⟨cx, x_E_InvalidNumber⟩ := cx
  obtain ⟨cx, x_E_NotThere⟩ := cx
  obtain ⟨cx, x_E_InvalidHint⟩ := cx
  obtain ⟨cx, x_G_DateError⟩ := cx
  obtain ⟨cx, x_G_NothingToUndo⟩ := cx
  obtain ⟨cx, x_G_NotThere⟩ := cx
  obtain ⟨cx, x_G_InvalidNumber⟩ := cx
  obtain ⟨cx, x_G_InvalidRule⟩ := cx
  obtain ⟨cx, x_G_InvalidHint⟩ := cx
  obtain ⟨cx, x_G_InvalidDay⟩ := cx
  obtain ⟨cx, x_X_NothingToUndo⟩ := cx
  obtain ⟨cx, x_X_InvalidNumber⟩ := cx
  obtain ⟨cx, x_L_Diary⟩ := cx
  obtain ⟨cx, x_X_NotThere⟩ := cx
  obtain ⟨cx, x_X_InvalidHint⟩ := cx
  obtain ⟨cx, x_X_InvalidRule⟩ := cx
  obtain ⟨cx, x_X_InvalidDay⟩ := cx
  obtain ⟨cx, x_K_Diary⟩ := cx
  obtain ⟨cx, x_g_KINDS⟩ := cx
  obtain ⟨cx, x_n_MONTHS⟩ := cx
  obtain ⟨cx, x_n_WEEKDAYS⟩ := cx
  obtain ⟨cx, x_g_MONTHS⟩ := cx
  obtain ⟨cx, x_g_WEEKDAYS⟩ := cx
  obtain ⟨cx, x_g_MONTHS_OF_ROUND⟩ := cx
  obtain ⟨cx, x_g_RULES⟩ := cx
  obtain ⟨cx, x_g_ROUND⟩ := cx
  obtain ⟨cx, x_g_LAST_YEAR⟩ := cx
  obtain ⟨cx, x_g_FIRST_YEAR⟩ := cx
  have x_g_LENGTHS := cx
  have g_LENGTHS := gB_ok X G x_g_LENGTHS
  have g_FIRST_YEAR := gB_ok X G x_g_FIRST_YEAR
  have g_LAST_YEAR := gB_ok X G x_g_LAST_YEAR
  have g_ROUND := gB_ok X G x_g_ROUND
  have g_RULES := gB_ok X G x_g_RULES
  have g_MONTHS_OF_ROUND := gB_ok X G x_g_MONTHS_OF_ROUND
  have g_WEEKDAYS := gB_ok X G x_g_WEEKDAYS
  have g_MONTHS := gB_ok X G x_g_MONTHS
  have n_WEEKDAYS := nB_ok X G x_n_WEEKDAYS
  have n_MONTHS := nB_ok X G x_n_MONTHS
  have g_KINDS := gB_ok X G x_g_KINDS
  have K_Diary := clB_ok X G x_K_Diary
  have X_InvalidDay := xcB_ok X G x_X_InvalidDay
  have X_InvalidRule := xcB_ok X G x_X_InvalidRule
  have X_InvalidHint := xcB_ok X G x_X_InvalidHint
  have X_NotThere := xcB_ok X G x_X_NotThere
  have L_Diary := clL_ok x_L_Diary
  have X_InvalidNumber := xcB_ok X G x_X_InvalidNumber
  have X_NothingToUndo := xcB_ok X G x_X_NothingToUndo
  have G_InvalidDay := He.glo_ok X G x_G_InvalidDay
  have G_InvalidHint := He.glo_ok X G x_G_InvalidHint
  have G_InvalidRule := He.glo_ok X G x_G_InvalidRule
  have G_InvalidNumber := He.glo_ok X G x_G_InvalidNumber
  have G_NotThere := He.glo_ok X G x_G_NotThere
  have G_NothingToUndo := He.glo_ok X G x_G_NothingToUndo
  have G_DateError := He.glo_ok X G x_G_DateError
  have E_InvalidHint := He.exm_ok x_E_InvalidHint
  have E_NotThere := He.exm_ok x_E_NotThere
  have E_InvalidNumber := He.exm_ok x_E_InvalidNumber
  have E_NothingToUndo := He.exm_ok x_E_NothingToUndo
  have I_InvalidHint := xiB_ok x_I_InvalidHint
  have I_NotThere := xiB_ok x_I_NotThere
  have I_InvalidNumber := xiB_ok x_I_InvalidNumber
  have I_NothingToUndo := xiB_ok x_I_NothingToUndo
  have E_InvalidDay := He.exm_ok x_E_InvalidDay
  have E_InvalidRule := He.exm_ok x_E_InvalidRule
  have I_InvalidDay := xiB_ok x_I_InvalidDay
  have I_InvalidRule := xiB_ok x_I_InvalidRule
  have e := hfa.symm.trans h_law
  cases e
  refine ⟨fd_law, fun s v => FunD.bindsA (ps := ["script"]) F_law (fun _ _ _ _ _ _ us hl => match us, hl with | [_], _ => rfl) s [v] rfl, fun base _ _ => ?_⟩
  have c_is_integer : Kn P w K mg base 1 "is_integer" (spF K R_is_integer) := kn_of F_is_integer (ok_is_integer (P := P) (w := w) (base := base) F_is_integer m_isinstance m_int m_bool) (fun _ _ _ _ _ _ us hl => match us, hl with | [_, _, _], _ => rfl) h_is_integer
  have c_is_leap : Kn P w K mg base 1 "is_leap" (spF K R_is_leap) := kn_of F_is_leap (ok_is_leap (P := P) (w := w) (base := base) F_is_leap) (fun _ _ _ _ _ _ us hl => match us, hl with | [_], _ => rfl) h_is_leap
  have c_month_length : Kn P w K mg base 2 "month_length" (spF K R_month_length) := kn_of F_month_length (ok_month_length (P := P) (w := w) (base := base) F_month_length c_is_leap g_LENGTHS) (fun _ _ _ _ _ _ us hl => match us, hl with | [_, _], _ => rfl) h_month_length
  have c_is_day : Kn P w K mg base 3 "is_day" (spF K R_is_day) := kn_of F_is_day (ok_is_day (P := P) (w := w) (base := base) F_is_day c_is_integer c_month_length m_isinstance m_tuple m_len g_FIRST_YEAR g_LAST_YEAR) (fun _ _ _ _ _ _ us hl => match us, hl with | [_], _ => rfl) h_is_day
  have c_before_year : Kn P w K mg base 1 "before_year" (spF K R_before_year) := kn_of F_before_year (ok_before_year (P := P) (w := w) (base := base) F_before_year) (fun _ _ _ _ _ _ us hl => match us, hl with | [_], _ => rfl) h_before_year
  have c_month_start : Kn P w K mg base 2 "month_start" (spF K R_month_start) := kn_of F_month_start (ok_month_start (P := P) (w := w) (base := base) F_month_start c_is_leap c_before_year m_sum g_LENGTHS) (fun _ _ _ _ _ _ us hl => match us, hl with | [_, _], _ => rfl) h_month_start
  have c_number_of : Kn P w K mg base 3 "number_of" (spF K R_number_of) := kn_of F_number_of (ok_number_of (P := P) (w := w) (base := base) F_number_of c_month_start) (fun _ _ _ _ _ _ us hl => match us, hl with | [_], _ => rfl) h_number_of
  have c_day_at : Kn P w K mg base 3 "day_at" (spF K R_day_at) := kn_of F_day_at (ok_day_at (P := P) (w := w) (base := base) F_day_at c_before_year c_month_start g_ROUND) (fun _ _ _ _ _ _ us hl => match us, hl with | [_], _ => rfl) h_day_at
  have c_weekday_of : Kn P w K mg base 1 "weekday_of" (spF K R_weekday_of) := kn_of F_weekday_of (ok_weekday_of (P := P) (w := w) (base := base) F_weekday_of) (fun _ _ _ _ _ _ us hl => match us, hl with | [_], _ => rfl) h_weekday_of
  have c_is_hint : Kn P w K mg base 2 "is_hint" (spF K R_is_hint) := kn_of F_is_hint (ok_is_hint (P := P) (w := w) (base := base) F_is_hint c_is_integer m_isinstance m_tuple m_len m_zip m_all) (fun _ _ _ _ _ _ us hl => match us, hl with | [_], _ => rfl) h_is_hint
  have c_is_rule : Kn P w K mg base 1 "is_rule" (spF K R_is_rule) := kn_of F_is_rule (ok_is_rule (P := P) (w := w) (base := base) F_is_rule m_isinstance m_str g_RULES) (fun _ _ _ _ _ _ us hl => match us, hl with | [_], _ => rfl) h_is_rule
  have c_in_month : Kn P w K mg base 3 "in_month" (spF K R_in_month) := kn_of F_in_month (ok_in_month (P := P) (w := w) (base := base) F_in_month c_month_start c_month_length c_weekday_of) (fun _ _ _ _ _ _ us hl => match us, hl with | [_, _, _], _ => rfl) h_in_month
  have c_month_after : Kn P w K mg base 1 "month_after" (spF K R_month_after) := kn_of F_month_after (ok_month_after (P := P) (w := w) (base := base) F_month_after) (fun _ _ _ _ _ _ us hl => match us, hl with | [_, _, _], _ => rfl) h_month_after
  have c_next_fit : Kn P w K mg base 4 "next_fit" (spF K R_next_fit) := kn_of F_next_fit (ok_next_fit (P := P) (w := w) (base := base) F_next_fit c_day_at c_in_month c_month_after m_range g_MONTHS_OF_ROUND) (fun _ _ _ _ _ _ us hl => match us, hl with | [_, _], _ => rfl) h_next_fit
  have c_last_fit : Kn P w K mg base 4 "last_fit" (spF K R_last_fit) := kn_of F_last_fit (ok_last_fit (P := P) (w := w) (base := base) F_last_fit c_day_at c_in_month c_month_after m_range g_MONTHS_OF_ROUND) (fun _ _ _ _ _ _ us hl => match us, hl with | [_, _], _ => rfl) h_last_fit
  have c_read : Kn P w K mg base 5 "read" (spF K R_read) := kn_of F_read (ok_read (P := P) (w := w) (base := base) F_read c_next_fit c_last_fit) (fun _ _ _ _ _ _ us hl => match us, hl with | [_, _, _], _ => rfl) h_read
  have c_as_day : Kn P w K mg base 4 "as_day" (spF K R_as_day) := kn_of F_as_day (ok_as_day (P := P) (w := w) (base := base) F_as_day c_day_at) (fun _ _ _ _ _ _ us hl => match us, hl with | [_], _ => rfl) h_as_day
  have c_meant : Kn P w K mg base 6 "meant" (spF K R_meant) := kn_of F_meant (ok_meant (P := P) (w := w) (base := base) F_meant c_number_of c_read c_as_day) (fun _ _ _ _ _ _ us hl => match us, hl with | [_, _, _], _ => rfl) h_meant
  have c_hint_text : Kn P w K mg base 1 "hint_text" (spF K R_hint_text) := kn_of F_hint_text (ok_hint_text (P := P) (w := w) (base := base) F_hint_text m_str g_WEEKDAYS g_MONTHS) (fun _ _ _ _ _ _ us hl => match us, hl with | [_], _ => rfl) h_hint_text
  have c_read_number : Kn P w K mg base 1 "read_number" (spF K R_read_number) := kn_of F_read_number (ok_read_number (P := P) (w := w) (base := base) F_read_number m_len m_all m_int m_str) (fun _ _ _ _ _ _ us hl => match us, hl with | [_], _ => rfl) h_read_number
  have c_read_word : Kn P w K mg base 2 "read_word" (spF K R_read_word) := kn_of F_read_word (ok_read_word (P := P) (w := w) (base := base) F_read_word c_read_number g_WEEKDAYS g_MONTHS n_WEEKDAYS n_MONTHS) (fun _ _ _ _ _ _ us hl => match us, hl with | [_, _], _ => rfl) h_read_word
  have c_read_hint : Kn P w K mg base 3 "read_hint" (spF K R_read_hint) := kn_of F_read_hint (ok_read_hint (P := P) (w := w) (base := base) F_read_hint c_read_word c_is_hint m_isinstance m_str m_range m_tuple) (fun _ _ _ _ _ _ us hl => match us, hl with | [_], _ => rfl) h_read_hint
  have c_hint_of : Kn P w K mg base 4 "hint_of" (spF K R_hint_of) := kn_of F_hint_of (ok_hint_of (P := P) (w := w) (base := base) F_hint_of c_weekday_of c_number_of m_zip m_tuple) (fun _ _ _ _ _ _ us hl => match us, hl with | [_, _], _ => rfl) h_hint_of
  have c_text_key : Kn P w K mg base 2 "text_key" (spF K R_text_key) := kn_of F_text_key (ok_text_key (P := P) (w := w) (base := base) F_text_key c_hint_text m_len) (fun _ _ _ _ _ _ us hl => match us, hl with | [_], _ => rfl) h_text_key
  have c_all_hints : Kn P w K mg base 5 "all_hints" (spF K R_all_hints) := kn_of F_all_hints (ok_all_hints (P := P) (w := w) (base := base) F_all_hints c_hint_of c_text_key m_sorted g_KINDS) (fun _ _ _ _ _ _ us hl => match us, hl with | [_], _ => rfl) h_all_hints
  have c_hints_for : Kn P w K mg base 6 "hints_for" (spF K R_hints_for) := kn_of F_hints_for (ok_hints_for (P := P) (w := w) (base := base) F_hints_for c_all_hints c_read c_number_of) (fun _ _ _ _ _ _ us hl => match us, hl with | [_, _, _], _ => rfl) h_hints_for
  have c_shortest_hint : Kn P w K mg base 7 "shortest_hint" (spF K R_shortest_hint) := kn_of F_shortest_hint (ok_shortest_hint (P := P) (w := w) (base := base) F_shortest_hint c_hints_for) (fun _ _ _ _ _ _ us hl => match us, hl with | [_, _, _], _ => rfl) h_shortest_hint
  have c_Diary___init__ : KiP P w K mg base 4 (He.ga K "Diary") (He.ma K (He.ga K "Diary") "__init__") (spI K (He.ga K "Diary") (R_Diary___init__ K)) := kip_of F_Diary___init__ (ok_Diary___init__ (P := P) (w := w) (base := base) F_Diary___init__ c_is_day c_is_rule c_number_of K_Diary X_InvalidDay X_InvalidRule) K_Diary.mkr K_Diary.ob (fun _ _ _ _ _ _ us hl => match us, hl with | [_, _, _], _ => rfl)
  have c_Diary_set_now : Ke P w K mg base 1 (He.ma K (He.ga K "Diary") "set_now") [] (spM K (R_Diary_set_now K)) := ke_of F_Diary_set_now (ok_Diary_set_now (P := P) (w := w) (base := base) F_Diary_set_now c_Diary___init__ K_Diary) (fun _ _ _ _ _ _ us hl => match us, hl with | [_, _, _], _ => rfl)
  have c_Diary_today : Km P w K mg base 4 (He.ma K (He.ga K "Diary") "today") [] (spF K (R_Diary_today K)) := km_of F_Diary_today (ok_Diary_today (P := P) (w := w) (base := base) F_Diary_today c_day_at c_Diary___init__ K_Diary) (fun _ _ _ _ _ _ us hl => match us, hl with | [_], _ => rfl)
  have c_Diary_note : Ke P w K mg base 7 (He.ma K (He.ga K "Diary") "note") [] (spM K (R_Diary_note K)) := ke_of F_Diary_note (ok_Diary_note (P := P) (w := w) (base := base) F_Diary_note c_read_hint c_meant c_number_of c_Diary_set_now c_Diary_today c_Diary___init__ K_Diary X_InvalidHint X_NotThere m_sorted m_set m_tuple) (fun _ _ _ _ _ _ us hl => match us, hl with | [_, _], _ => rfl)
  have c_Diary_wait : Ke P w K mg base 5 (He.ma K (He.ga K "Diary") "wait") [] (spM K (R_Diary_wait K)) := ke_of F_Diary_wait (ok_Diary_wait (P := P) (w := w) (base := base) F_Diary_wait c_is_integer c_Diary_set_now c_Diary_today c_Diary___init__ K_Diary L_Diary X_InvalidNumber) (fun _ _ _ _ _ _ us hl => match us, hl with | [_, _], _ => rfl)
  have c_Diary_undo : Ke P w K mg base 1 (He.ma K (He.ga K "Diary") "undo") [] (spM K (R_Diary_undo K)) := ke_of F_Diary_undo (ok_Diary_undo (P := P) (w := w) (base := base) F_Diary_undo c_Diary___init__ K_Diary X_NothingToUndo) (fun _ _ _ _ _ _ us hl => match us, hl with | [_], _ => rfl)
  have c_Diary_days : Km P w K mg base 4 (He.ma K (He.ga K "Diary") "days") [] (spF K (R_Diary_days K)) := km_of F_Diary_days (ok_Diary_days (P := P) (w := w) (base := base) F_Diary_days c_day_at c_Diary___init__ K_Diary) (fun _ _ _ _ _ _ us hl => match us, hl with | [_], _ => rfl)
  have c_Diary_lines : Kg P w K mg base 8 (He.ma K (He.ga K "Diary") "lines") (R_Diary_lines K) := kg_of F_Diary_lines (ok_Diary_lines (P := P) (w := w) (base := base) F_Diary_lines c_day_at c_shortest_hint c_hint_text c_Diary_today c_Diary___init__ K_Diary) (fun _ _ _ _ _ _ us hl => match us, hl with | [_], _ => rfl)
  have c_Diary___len__ : Km P w K mg base 1 (He.ma K (He.ga K "Diary") "__len__") [] (spF K (R_Diary___len__ K)) := km_of F_Diary___len__ (ok_Diary___len__ (P := P) (w := w) (base := base) F_Diary___len__ c_Diary___init__ m_len K_Diary) (fun _ _ _ _ _ _ us hl => match us, hl with | [_], _ => rfl)
  have c_Diary___contains__ : Km P w K mg base 4 (He.ma K (He.ga K "Diary") "__contains__") [] (spF K (R_Diary___contains__ K)) := km_of F_Diary___contains__ (ok_Diary___contains__ (P := P) (w := w) (base := base) F_Diary___contains__ c_is_day c_number_of c_Diary___init__ K_Diary) (fun _ _ _ _ _ _ us hl => match us, hl with | [_, _], _ => rfl)
  have c_Diary___eq__ : Km P w K mg base 1 (He.ma K (He.ga K "Diary") "__eq__") [] (spF K (R_Diary___eq__ K)) := km_of F_Diary___eq__ (ok_Diary___eq__ (P := P) (w := w) (base := base) F_Diary___eq__ c_Diary___init__ K_Diary L_Diary m_isinstance) (fun _ _ _ _ _ _ us hl => match us, hl with | [_, _], _ => rfl)
  have c__law_draw : Kn P w K mg base 1 "_law_draw" (spT K R__law_draw) := kn_of F__law_draw (ok__law_draw (P := P) (w := w) (base := base) F__law_draw m_len m_int) (fun _ _ _ _ _ _ us hl => match us, hl with | [_, _], _ => rfl) h__law_draw
  have c__law_whole : Kn P w K mg base 1 "_law_whole" (spF K R__law_whole) := kn_of F__law_whole (ok__law_whole (P := P) (w := w) (base := base) F__law_whole m_isinstance m_int m_bool) (fun _ _ _ _ _ _ us hl => match us, hl with | [_], _ => rfl) h__law_whole
  have c__law_within : Kn P w K mg base 2 "_law_within" (spF K R__law_within) := kn_of F__law_within (ok__law_within (P := P) (w := w) (base := base) F__law_within c__law_whole) (fun _ _ _ _ _ _ us hl => match us, hl with | [_, _, _], _ => rfl) h__law_within
  have c__law_like : Kn P w K mg base 5 "_law_like" (spF K (R_like 4)) := kn_of F__law_like (ok__law_like (P := P) (w := w) (base := base) F__law_like h__law_like m_isinstance m_list m_tuple m_bool m_len m_range 4) (fun _ _ _ _ _ _ us hl => match us, hl with | [_, _], _ => rfl) h__law_like
  have c__law_number : Kn P w K mg base 1 "_law_number" (spF K R__law_number) := kn_of F__law_number (ok__law_number (P := P) (w := w) (base := base) F__law_number) (fun _ _ _ _ _ _ us hl => match us, hl with | [_], _ => rfl) h__law_number
  have c__law_day : Kn P w K mg base 1 "_law_day" (spF K R__law_day) := kn_of F__law_day (ok__law_day (P := P) (w := w) (base := base) F__law_day) (fun _ _ _ _ _ _ us hl => match us, hl with | [_], _ => rfl) h__law_day
  have c__law_leap : Kn P w K mg base 1 "_law_leap" (spF K R__law_leap) := kn_of F__law_leap (ok__law_leap (P := P) (w := w) (base := base) F__law_leap m_int) (fun _ _ _ _ _ _ us hl => match us, hl with | [_], _ => rfl) h__law_leap
  have c__law_length : Kn P w K mg base 2 "_law_length" (spF K R__law_length) := kn_of F__law_length (ok__law_length (P := P) (w := w) (base := base) F__law_length c__law_leap) (fun _ _ _ _ _ _ us hl => match us, hl with | [_, _], _ => rfl) h__law_length
  have c__law_parts : Kn P w K mg base 2 "_law_parts" (spF K R__law_parts) := kn_of F__law_parts (ok__law_parts (P := P) (w := w) (base := base) F__law_parts c__law_day m_int) (fun _ _ _ _ _ _ us hl => match us, hl with | [_], _ => rfl) h__law_parts
  have c__law_in : Kn P w K mg base 3 "_law_in" (spF K R__law_in) := kn_of F__law_in (ok__law_in (P := P) (w := w) (base := base) F__law_in c__law_number c__law_length m_int m_list m_range) (fun _ _ _ _ _ _ us hl => match us, hl with | [_, _, _], _ => rfl) h__law_in
  have c__law_next : Kn P w K mg base 4 "_law_next" (spF K R__law_next) := kn_of F__law_next (ok__law_next (P := P) (w := w) (base := base) F__law_next c__law_day c__law_in m_range) (fun _ _ _ _ _ _ us hl => match us, hl with | [_, _], _ => rfl) h__law_next
  have c__law_last : Kn P w K mg base 4 "_law_last" (spF K R__law_last) := kn_of F__law_last (ok__law_last (P := P) (w := w) (base := base) F__law_last c__law_day c__law_in m_range) (fun _ _ _ _ _ _ us hl => match us, hl with | [_, _], _ => rfl) h__law_last
  have c__law_meant : Kn P w K mg base 5 "_law_meant" (spF K R__law_meant) := kn_of F__law_meant (ok__law_meant (P := P) (w := w) (base := base) F__law_meant c__law_next c__law_last) (fun _ _ _ _ _ _ us hl => match us, hl with | [_, _, _], _ => rfl) h__law_meant
  have c__law_kind : Kn P w K mg base 2 "_law_kind" (spT K R__law_kind) := kn_of F__law_kind (ok__law_kind (P := P) (w := w) (base := base) F__law_kind c__law_draw m_range m_tuple) (fun _ _ _ _ _ _ us hl => match us, hl with | [_, _], _ => rfl) h__law_kind
  have c__law_hint_of : Kn P w K mg base 3 "_law_hint_of" (spF K R__law_hint_of) := kn_of F__law_hint_of (ok__law_hint_of (P := P) (w := w) (base := base) F__law_hint_of c__law_parts c__law_number m_range m_tuple) (fun _ _ _ _ _ _ us hl => match us, hl with | [_, _], _ => rfl) h__law_hint_of
  have c__law_hint : Kn P w K mg base 4 "_law_hint" (spT K R__law_hint) := kn_of F__law_hint (ok__law_hint (P := P) (w := w) (base := base) F__law_hint c__law_draw c__law_kind c__law_hint_of) (fun _ _ _ _ _ _ us hl => match us, hl with | [_, _], _ => rfl) h__law_hint
  have c__law_rule : Kn P w K mg base 2 "_law_rule" (spT K R__law_rule) := kn_of F__law_rule (ok__law_rule (P := P) (w := w) (base := base) F__law_rule c__law_draw) (fun _ _ _ _ _ _ us hl => match us, hl with | [_], _ => rfl) h__law_rule
  have c__law_text : Kn P w K mg base 1 "_law_text" (spF K R__law_text) := kn_of F__law_text (ok__law_text (P := P) (w := w) (base := base) F__law_text m_str) (fun _ _ _ _ _ _ us hl => match us, hl with | [_], _ => rfl) h__law_text
  have c__law_size : Kn P w K mg base 2 "_law_size" (spF K R__law_size) := kn_of F__law_size (ok__law_size (P := P) (w := w) (base := base) F__law_size c__law_text m_len) (fun _ _ _ _ _ _ us hl => match us, hl with | [_], _ => rfl) h__law_size
  have c__law_every : Kn P w K mg base 5 "_law_every" (spF K R__law_every) := kn_of F__law_every (ok__law_every (P := P) (w := w) (base := base) F__law_every c__law_hint_of c__law_size m_sorted m_range m_tuple m_int) (fun _ _ _ _ _ _ us hl => match us, hl with | [_], _ => rfl) h__law_every
  have c__law_error : KnX P w K mg base 1 "_law_error" (R__law_error K) := knx_of F__law_error (ok__law_error (P := P) (w := w) (base := base) F__law_error m_isinstance G_InvalidDay G_InvalidHint G_InvalidRule G_InvalidNumber G_NotThere G_NothingToUndo) (fun _ _ _ _ _ _ us hl => match us, hl with | [_], _ => rfl) h__law_error
  have c__law_done : KnM P w K mg base 9 "_law_done" (R__law_done K) := knm_of F__law_done (ok__law_done (P := P) (w := w) (base := base) F__law_done c_Diary_undo c_Diary_note c_Diary_wait c__law_error c_Diary___init__ K_Diary G_DateError E_InvalidHint E_NotThere E_InvalidNumber E_NothingToUndo I_InvalidHint I_NotThere I_InvalidNumber I_NothingToUndo) (fun _ _ _ _ _ _ us hl => match us, hl with | [_, _, _], _ => rfl) h__law_done
  have c__law_due : KnM P w K mg base 8 "_law_due" (R__law_due K) := knm_of F__law_due (ok__law_due (P := P) (w := w) (base := base) F__law_due c__law_within c__law_day c_read_hint c__law_meant c__law_done c_Diary_undo m_len m_sorted m_set) (fun _ _ _ _ _ _ us hl => match us, hl with | [_, _, _, _], _ => rfl) h__law_due
  have c__law_seen : Kn P w K mg base 12 "_law_seen" (spF K (R__law_seen K)) := kn_of F__law_seen (ok__law_seen (P := P) (w := w) (base := base) F__law_seen c_Diary_today c_Diary_days c_Diary_lines c_Diary___len__ c_Diary___contains__ c_Diary___eq__ c__law_day c__law_number c__law_every c__law_meant c__law_text c_Diary_undo c__law_due K_Diary L_Diary m_len m_list m_bool m_str m_isinstance m_tuple) (fun _ _ _ _ _ _ us hl => match us, hl with | [_, _, _], _ => rfl) h__law_seen
  have c__law_tried : Kn P w K mg base 7 "_law_tried" (spF K R__law_tried) := kn_of F__law_tried (ok__law_tried (P := P) (w := w) (base := base) F__law_tried c_Diary___init__ c__law_error c_Diary_undo K_Diary G_DateError E_InvalidDay E_InvalidRule I_InvalidDay I_InvalidRule m_len) (fun _ _ _ _ _ _ us hl => match us, hl with | [_, _], _ => rfl) h__law_tried
  exact ok_law F_law c_Diary___init__ c_Diary___eq__ c__law_done c__law_due c__law_seen c__law_tried c__law_draw c__law_like c__law_number c__law_day c__law_text c__law_hint c__law_rule c_Diary_undo m_list m_range m_len K_Diary
end LK
open PySem PySem.W PySem.Calls PyProof.Rows
set_option maxRecDepth 100000 in
set_option maxHeartbeats 0 in
theorem PySem.Challenge.cw_spandates_k31_whole_diaries_call_by_call_holds : PySem.Challenge.rw_spandates_k31_whole_diaries_call_by_call.Holds := by
  w_on; o_law
  refine HandSHeadRun.head_any (r := OpenLaw.row PySem.Challenge.rw_spandates_k31_whole_diaries_call_by_call) (q := view (OpenLaw.row PySem.Challenge.rw_spandates_k31_whole_diaries_call_by_call).prog [77]) (H := LK.hookR) (ob := LK.ob) (M := 20000) (loose := LK.loose) (d := HandSHeadRun.topDef (OpenLaw.row PySem.Challenge.rw_spandates_k31_whole_diaries_call_by_call).prog 77) (kwd := []) LK.ob_eq
    (by kernel_rfl) (fun s => by kernel_rfl) LK.run (by kernel_rfl) (by kernel_rfl) (by kernel_rfl) (by rfl) (by first | assumption | decide +kernel) (by decide +kernel) ⟨rfl, rfl, rfl, rfl, rfl, by decide +kernel⟩ ?hw ?hc
  case hw => w_witness2
  case hc =>
    refine L2.walk_ofE (l := PySem.Challenge.rw_spandates_k31_whole_diaries_call_by_call) (n := 63) (k := 13) (x := "script") (CX := L2.CX0) rfl (by decide) (by kernel_rfl) ⟨rfl, by decide, by decide⟩ ?F (fun _ _ _ _ z => z)
    intro w mg fa h Y G hmg0
    obtain ⟨K, KX, c⟩ := Y
    have hmg : mg ("law" : PySem.Str) = some (.ref fa) := by
      have e : (HandSHeadRun.topDef (OpenLaw.row PySem.Challenge.rw_spandates_k31_whole_diaries_call_by_call).prog 77).name = ("law" : PySem.Str) := by kernel_rfl
      rw [← e]
      exact hmg0
    obtain ⟨fd, hb, hF⟩ := LK.facts (P := (PySem.Challenge.rw_spandates_k31_whole_diaries_call_by_call).prog) (w := w) KX G hmg c
    exact ⟨K, fd, DL.spLaw K, KX, hb, fun H a ns hl _ hS => ⟨a, ns, rfl, hS, hl, fun _ => rfl⟩, hF⟩
