import PyProof.Rows.All
import Wide.All
import OpenK.AllK
import Wide.FinOn
import HandS.ForMost
import HandS.ForExc
import HandS.Wide
import HandS.IsInst
import HandS.SortInts
import HandS.ExcIs
import HandS.Walk
import HandS.Zip
import HandS.DeepEq
import HandS.SetFor
import HandS.Strs
import HandS.RevTup
import KE.GoesMore
import PySem.Challenge.RW_beamload_k08_whole_two_loads_together
set_option Elab.async false
set_option linter.all false
set_option maxRecDepth 100000
set_option maxHeartbeats 4000000
set_option exponentiation.threshold 100000
namespace Bl
open PySem L2

/-! data as the proofs speak of it -/
inductive D where
  | non | int (i : Int) | bl (b : Bool)
  | tup (ds : List D) | lst (ds : List D) | sq (ds : List D) | lv (vs : List V) (ds : List D)
  | ins (C : Addr) (ns : List Str) (ds : List D) | mref (l : Addr)

def Ex (H H' : Hp) : Prop := ∀ a o, H a = some o → H' a = some o
theorem Ex.refl (H : Hp) : Ex H H := fun _ _ h => h
theorem Ex.trans {H H1 H2 : Hp} (a : Ex H H1) (b : Ex H1 H2) : Ex H H2 := fun x o h => b x o (a x o h)
theorem Ex.none {H H' : Hp} {p : Addr} (e : Ex H H') (h : H' p = Option.none) : H p = Option.none := by
  cases q : H p with
  | none => rfl
  | some o => rw [e p o q] at h; cases h

mutual
def Rep (K : PySem.W.Frag) (F : Hp) : D → V → Prop
  | .non, v => v = .non
  | .int i, v => v = .int i
  | .bl b, v => v = .bl b
  | .tup ds, v => ∃ p vs, v = .ref p ∧ F p = some (.tup vs) ∧ RepL K F ds vs
  | .lst ds, v => ∃ p vs, v = .ref p ∧ F p = some (.lst vs) ∧ RepL K F ds vs
  | .sq ds, v => ∃ p vs, v = .ref p ∧ SqL K F p vs ∧ RepL K F ds vs
  | .lv vs ds, v => ∃ p, v = .ref p ∧ F p = some (.lst vs) ∧ RepL K F ds vs
  | .ins C ns ds, v => ∃ p dx vs, v = .ref p ∧ F p = some (.ins C dx (ns.zip vs)) ∧ RepL K F ds vs ∧ ds.length = ns.length
  | .mref l, v => v = .ref l
def RepL (K : PySem.W.Frag) (F : Hp) : List D → List V → Prop
  | [], vs => vs = []
  | d :: ds, vs => ∃ v r, vs = v :: r ∧ Rep K F d v ∧ RepL K F ds r
end

theorem Ex.sql {K : PySem.W.Frag} {F F' : Hp} {a : Addr} {xs : List V} (e : Ex F F') (h : SqL K F a xs) : SqL K F' a xs := by
  rcases h with (h | ⟨o, h⟩) | h
  · exact .inl (.inl (e _ _ h))
  · exact .inl (.inr ⟨o, e _ _ h⟩)
  · exact .inr h

mutual
theorem Rep.mono {K : PySem.W.Frag} {F F' : Hp} (e : Ex F F') : ∀ {d : D} {v : V}, Rep K F d v → Rep K F' d v
  | .non, v, h => h
  | .int i, v, h => h
  | .bl b, v, h => h
  | .tup ds, v, h => by
    obtain ⟨p, vs, a, b, c⟩ := h
    exact ⟨p, vs, a, e _ _ b, RepL.mono e c⟩
  | .lst ds, v, h => by
    obtain ⟨p, vs, a, b, c⟩ := h
    exact ⟨p, vs, a, e _ _ b, RepL.mono e c⟩
  | .sq ds, v, h => by
    obtain ⟨p, vs, a, b, c⟩ := h
    exact ⟨p, vs, a, e.sql b, RepL.mono e c⟩
  | .lv vs ds, v, h => by
    obtain ⟨p, a, b, c⟩ := h
    exact ⟨p, a, e _ _ b, RepL.mono e c⟩
  | .ins C ns ds, v, h => by
    obtain ⟨p, dx, vs, a, b, c, z⟩ := h
    exact ⟨p, dx, vs, a, e _ _ b, RepL.mono e c, z⟩
  | .mref l, v, h => h
theorem RepL.mono {K : PySem.W.Frag} {F F' : Hp} (e : Ex F F') : ∀ {ds : List D} {vs : List V}, RepL K F ds vs → RepL K F' ds vs
  | [], vs, h => h
  | d :: ds, vs, h => by
    obtain ⟨v, r, a, b, c⟩ := h
    exact ⟨v, r, a, Rep.mono e b, RepL.mono e c⟩
end
section
variable {K : PySem.W.Frag} {F F' H H' : Hp}
theorem RepL.length : ∀ {ds : List D} {vs : List V}, RepL K F ds vs → vs.length = ds.length
  | [], vs, h => by
    have e : vs = [] := h
    rw [e]; rfl
  | d :: ds, vs, h => by
    obtain ⟨v, r, a, b, c⟩ := h
    rw [a, List.length_cons, List.length_cons, RepL.length c]
theorem RepL.get : ∀ {ds : List D} {vs : List V} {i : Nat} {d : D}, RepL K F ds vs → ds[i]? = some d → ∃ v, vs[i]? = some v ∧ Rep K F d v
  | [], _, _, _, _, e => by simp at e
  | d :: ds, vs, 0, x, h, e => by
    obtain ⟨v, r, a, b, c⟩ := h
    subst a
    have e' : d = x := by simpa using e
    subst e'
    exact ⟨v, rfl, b⟩
  | d :: ds, vs, i + 1, x, h, e => by
    obtain ⟨v, r, a, b, c⟩ := h
    subst a
    obtain ⟨u, h1, h2⟩ := RepL.get (i := i) c (by simpa using e)
    exact ⟨u, by simpa using h1, h2⟩
theorem RepL.back : ∀ {ds : List D} {vs : List V} {i : Nat} {v : V}, RepL K F ds vs → vs[i]? = some v → ∃ d, ds[i]? = some d ∧ Rep K F d v
  | [], vs, i, v, h, e => by
    have z : vs = [] := h
    subst z
    simp at e
  | d :: ds, vs, 0, x, h, e => by
    obtain ⟨v, r, a, b, c⟩ := h
    subst a
    have e' : v = x := by simpa using e
    subst e'
    exact ⟨d, rfl, b⟩
  | d :: ds, vs, i + 1, x, h, e => by
    obtain ⟨v, r, a, b, c⟩ := h
    subst a
    obtain ⟨u, h1, h2⟩ := RepL.back (i := i) c (by simpa using e)
    exact ⟨u, by simpa using h1, h2⟩
theorem RepL.append : ∀ {ds es : List D} {vs us : List V}, RepL K F ds vs → RepL K F es us → RepL K F (ds ++ es) (vs ++ us)
  | [], es, vs, us, h, g => by
    have z : vs = [] := h
    subst z
    exact g
  | d :: ds, es, vs, us, h, g => by
    obtain ⟨v, r, a, b, c⟩ := h
    subst a
    exact ⟨v, r ++ us, rfl, b, RepL.append c g⟩
theorem RepL.take : ∀ {ds : List D} {vs : List V} (n : Nat), RepL K F ds vs → RepL K F (ds.take n) (vs.take n)
  | [], vs, n, h => by
    have z : vs = [] := h
    subst z
    simp only [List.take_nil]
    exact h
  | d :: ds, vs, 0, h => rfl
  | d :: ds, vs, n + 1, h => by
    obtain ⟨v, r, a, b, c⟩ := h
    subst a
    exact ⟨v, r.take n, rfl, b, RepL.take n c⟩
theorem RepL.drop : ∀ {ds : List D} {vs : List V} (n : Nat), RepL K F ds vs → RepL K F (ds.drop n) (vs.drop n)
  | [], vs, n, h => by
    have z : vs = [] := h
    subst z
    simp only [List.drop_nil]
    exact h
  | d :: ds, vs, 0, h => h
  | d :: ds, vs, n + 1, h => by
    obtain ⟨v, r, a, b, c⟩ := h
    subst a
    exact RepL.drop n c
theorem RepL.one {d : D} {v : V} (h : Rep K F d v) : RepL K F [d] [v] := ⟨v, [], rfl, h, rfl⟩
theorem RepL.reverse : ∀ {ds : List D} {vs : List V}, RepL K F ds vs → RepL K F ds.reverse vs.reverse
  | [], vs, h => by
    have z : vs = [] := h
    subst z
    exact h
  | d :: ds, vs, h => by
    obtain ⟨v, r, a, b, c⟩ := h
    subst a
    rw [List.reverse_cons, List.reverse_cons]
    exact RepL.append (RepL.reverse c) (RepL.one b)
theorem RepL.ints : ∀ {ns : List Int} {vs : List V}, RepL K F (ns.map D.int) vs → vs = ns.map V.int
  | [], vs, h => h
  | n :: ns, vs, h => by
    obtain ⟨v, r, a, b, c⟩ := h
    have e : v = .int n := b
    rw [a, e, RepL.ints c]; rfl
theorem RepL.of_ints : ∀ (ns : List Int), RepL K F (ns.map D.int) (ns.map V.int)
  | [] => rfl
  | n :: ns => ⟨.int n, ns.map V.int, rfl, rfl, RepL.of_ints ns⟩
theorem Rep.lv_lst {vs : List V} {ds : List D} {v : V} (h : Rep K F (.lv vs ds) v) : Rep K F (.lst ds) v := by
  obtain ⟨p, a, b, c⟩ := h
  exact ⟨p, vs, a, b, c⟩

/-- both heaps grow; what stood unfrozen stays unfrozen -/
structure Gr (F H F' H' : Hp) : Prop where
  ff : Ex F F'
  fh : Ex F' H'
  hh : Ex H H'
  nf : ∀ b o, H b = some o → F b = Option.none → F' b = Option.none
theorem Gr.refl (e : Ex F H) : Gr F H F H := ⟨Ex.refl _, e, Ex.refl _, fun _ _ _ h => h⟩
theorem Gr.trans {F1 H1 F2 H2 : Hp} (a : Gr F H F1 H1) (b : Gr F1 H1 F2 H2) : Gr F H F2 H2 :=
  ⟨a.ff.trans b.ff, b.fh, a.hh.trans b.hh, fun c o h n => b.nf c o (a.hh c o h) (a.nf c o h n)⟩
theorem Ex.new {p : Addr} {o : HO} (h : H p = Option.none) : Ex H (upd H p o) := fun a u e => by
  rw [upd_ne (ne_of_none e h)]
  exact e
/-- a new object, frozen -/
theorem Gr.new {p : Addr} {o : HO} (e : Ex F H) (h : H p = Option.none) : Gr F H (upd F p o) (upd H p o) := by
  have hf : F p = Option.none := e.none h
  refine ⟨Ex.new hf, fun a u q => ?_, Ex.new h, fun b u q n => ?_⟩
  · by_cases z : a = p
    · subst z; rw [upd_same] at q ⊢; exact q
    · rw [upd_ne z] at q ⊢; exact e a u q
  · rw [upd_ne (ne_of_none q h)]; exact n
/-- a new object, not frozen -/
theorem Gr.newH {p : Addr} {o : HO} (e : Ex F H) (h : H p = Option.none) : Gr F H F (upd H p o) :=
  ⟨Ex.refl _, e.trans (Ex.new h), Ex.new h, fun _ _ _ n => n⟩

abbrev De := List (Option D)
abbrev Me := List (Addr × D)
structure EnvR (K : PySem.W.Frag) (F : Hp) (σ : St) (δ : De) : Prop where
  len : σ.length = δ.length
  at_ : ∀ (i : Nat) (d : D), δ[i]? = some (some d) → ∃ v : V, σ[i]? = some (some v) ∧ Rep K F d v
theorem EnvR.mono {σ : St} {δ : De} (e : Ex F F') (h : EnvR K F σ δ) : EnvR K F' σ δ := ⟨h.len, fun i d q => by
  obtain ⟨v, a, b⟩ := h.at_ i d q
  exact ⟨v, a, Rep.mono e b⟩⟩
/-- what an object that is not frozen holds -/
def ObjR (K : PySem.W.Frag) (F : Hp) : D → HO → Prop
  | .lst ds, o => ∃ vs, o = .lst vs ∧ RepL K F ds vs
  | .lv us ds, o => o = .lst us ∧ RepL K F ds us
  | .ins C ns ds, o => ∃ dx vs, o = .ins C dx (ns.zip vs) ∧ RepL K F ds vs ∧ ds.length = ns.length
  | _, _ => False
theorem ObjR.mono {d : D} {o : HO} (e : Ex F F') (h : ObjR K F d o) : ObjR K F' d o := by
  cases d with
  | lst ds => obtain ⟨vs, a, b⟩ := h; exact ⟨vs, a, RepL.mono e b⟩
  | lv us ds => exact ⟨h.1, RepL.mono e h.2⟩
  | ins C ns ds => obtain ⟨dx, vs, a, b, c⟩ := h; exact ⟨dx, vs, a, RepL.mono e b, c⟩
  | _ => exact h.elim
theorem ObjR.rep {d : D} {o : HO} {p : Addr} (h : ObjR K F d o) (e : F p = some o) : Rep K F d (.ref p) := by
  cases d with
  | lst ds => obtain ⟨vs, a, b⟩ := h; subst a; exact ⟨p, vs, rfl, e, b⟩
  | lv us ds => obtain ⟨a, b⟩ := h; subst a; exact ⟨p, rfl, e, b⟩
  | ins C ns ds => obtain ⟨dx, vs, a, b, c⟩ := h; subst a; exact ⟨p, dx, vs, rfl, e, b, c⟩
  | _ => exact h.elim
structure MemR (K : PySem.W.Frag) (F H : Hp) (μ : Me) : Prop where
  nd : (μ.map (·.1)).Nodup
  at_ : ∀ m ∈ μ, F m.1 = Option.none ∧ ∃ o, H m.1 = some o ∧ ObjR K F m.2 o
theorem MemR.mono {μ : Me} (g : Gr F H F' H') (h : MemR K F H μ) : MemR K F' H' μ := ⟨h.nd, fun m hm => by
  obtain ⟨a, vs, b, c⟩ := h.at_ m hm
  exact ⟨g.nf _ _ b a, vs, g.hh _ _ b, c.mono g.ff⟩⟩
theorem MemR.nil : MemR K F H [] := ⟨List.nodup_nil, fun m hm => absurd hm (by simp)⟩
structure SE (K : PySem.W.Frag) (δ : De) (μ : Me) (σ : St) (F H : Hp) : Prop where
  fh : Ex F H
  env : EnvR K F σ δ
  mem : MemR K F H μ
theorem SE.mono {δ : De} {μ : Me} {σ : St} (g : Gr F H F' H') (h : SE K δ μ σ F H) : SE K δ μ σ F' H' := ⟨g.fh, h.env.mono g.ff, h.mem.mono g⟩
end

/-! readings -/
def tD (K : PySem.W.Frag) (δ : De) (μ : Me) (d : D) : TE := fun σ H Q => ∃ F, SE K δ μ σ F H ∧ ∀ v F' H', Gr F H F' H' → Rep K F' d v → Q v H'
/-- a new list that is not frozen yet -/
def tN (K : PySem.W.Frag) (δ : De) (μ : Me) (ds : List D) : TE := fun σ H Q => ∃ F, SE K δ μ σ F H ∧
  ∀ l vs F' H', Gr F H F' H' → H l = none → F' l = none → H' l = some (.lst vs) → RepL K F' ds vs → Q (.ref l) H'
def tAs (K : PySem.W.Frag) (δ : De) (μ : Me) (ds : List D) : TA := fun σ H Q => ∃ F, SE K δ μ σ F H ∧ ∀ vs F' H', Gr F H F' H' → RepL K F' ds vs → Q vs H'
def tP (K : PySem.W.Frag) (δ : De) (μ : Me) (p : Prop) : TT := fun σ H Q => ∃ F, SE K δ μ σ F H ∧ ∀ (b : Bool) F' H', Gr F H F' H' → (b = true ↔ p) → Q b H'

theorem PE.mono {X : Cx} {e : Expr} {t t' : TE} (h : PE X e t) (m : ∀ σ H Q, t' σ H Q → t σ H Q) : PE X e t' := ⟨fun pins s σ H Q I w => h.run pins s σ H Q I (m σ H Q w)⟩
theorem PT.mono {X : Cx} {e : Expr} {t t' : TT} (h : PT X e t) (m : ∀ σ H Q, t' σ H Q → t σ H Q) : PT X e t' := ⟨fun pins s σ H Q I w => h.run pins s σ H Q I (m σ H Q w)⟩
theorem PW.mono {X : Cx} {e : Expr} {t t' : TT} (h : PW X e t) (m : ∀ σ H Q, t' σ H Q → t σ H Q) : PW X e t' := ⟨fun wh pins s σ H Q I w => h.run wh pins s σ H Q I (m σ H Q w)⟩
theorem PA.mono {X : Cx} {e : List Expr} {t t' : TA} (h : PA X e t) (m : ∀ σ H Q, t' σ H Q → t σ H Q) : PA X e t' := ⟨fun pos pins s σ H Q I w => h.run pos pins s σ H Q I (m σ H Q w)⟩
theorem PS.mono {X : Cx} {e : Stmt} {t t' : TS} (h : PS X e t) (m : ∀ E σ H, t' E σ H → t E σ H) : PS X e t' := ⟨fun pins s σ H E I w => h.run pins s σ H E I (m E σ H w)⟩
theorem PSs.mono {X : Cx} {e : List Stmt} {t t' : TS} (h : PSs X e t) (m : ∀ E σ H, t' E σ H → t E σ H) : PSs X e t' := ⟨fun pins s σ H E I w => h.run pins s σ H E I (m E σ H w)⟩

section
variable {X : Cx} {K : PySem.W.Frag} {δ : De} {μ : Me} {a b c e : Expr} {pos : Pos}
theorem pd_var (i : Nat) {x : Str} {d : D} (hN : X.N[i]? = some x) (hv : Vis X.env.scope x) (hd : (x == ("__debug__" : Str)) = false) (hcd : (x == ("__classdict__" : Str)) = false) (q : δ[i]? = some (some d)) : PE X (.Name x pos) (tD K δ μ d) :=
  PE.mono (pe_var hN hv hd hcd) fun σ H Q ⟨F, S, k⟩ => by
    obtain ⟨v, h1, h2⟩ := S.env.at_ i d q
    exact ⟨v, h1, k v F H (.refl S.fh) h2⟩
theorem pd_int {i j} : PE X (.Constant (.int i) j pos) (tD K δ μ (.int i)) := PE.mono pe_int fun σ H Q ⟨F, S, k⟩ => k _ F H (.refl S.fh) rfl
theorem pd_bl {i j} : PE X (.Constant (.bool i) j pos) (tD K δ μ (.bl i)) := PE.mono pe_bl fun σ H Q ⟨F, S, k⟩ => k _ F H (.refl S.fh) rfl
theorem pd_non {j} : PE X (.Constant .none j pos) (tD K δ μ .non) := PE.mono pe_non fun σ H Q ⟨F, S, k⟩ => k _ F H (.refl S.fh) rfl
/-- a new list, frozen at once -/
theorem pd_new {ds : List D} (h : PE X e (tN K δ μ ds)) : PE X e (tD K δ μ (.lst ds)) := PE.mono h fun σ H Q ⟨F, S, k⟩ => ⟨F, S, fun l vs F' H' g h0 hn hl r => by
  have e1 : Ex F' (upd F' l (.lst vs)) := Ex.new hn
  refine k (.ref l) (upd F' l (.lst vs)) H' ⟨g.ff.trans e1, fun a u q => ?_, g.hh, fun b u q n => ?_⟩ ⟨l, vs, rfl, upd_same, RepL.mono e1 r⟩
  · by_cases z : a = l
    · subst z; rw [upd_same] at q; cases q; exact hl
    · rw [upd_ne z] at q; exact g.fh a u q
  · rw [upd_ne (ne_of_none q h0)]; exact g.nf b u q n⟩
theorem pd_cast {d d' : D} (h : PE X e (tD K δ μ d)) (q : d = d') : PE X e (tD K δ μ d') := q ▸ h

/-- two operands, then an operation on data -/
theorem pd_op2 {op : Operator} {r : R2} {d1 d2 d : D} (ho : OpR X (binaryOp op) r) (ha : PE X a (tD K δ μ d1)) (hb : PE X b (tD K δ μ d2))
    (hr : ∀ F H v u (Q : VK), Ex F H → Rep K F d1 v → Rep K F d2 u → (∀ z F' H', Gr F H F' H' → Rep K F' d z → Q z H') → r v u H Q) : PE X (.BinOp a op b pos) (tD K δ μ d) :=
  PE.mono (pe_op ho ha hb) fun σ H Q ⟨F, S, k⟩ => ⟨F, S, fun v F1 H1 g1 r1 => ⟨F1, S.mono g1, fun u F2 H2 g2 r2 =>
    hr F2 H2 v u Q g2.fh (Rep.mono g2.ff r1) r2 fun z F3 H3 g3 r3 => k z F3 H3 ((g1.trans g2).trans g3) r3⟩⟩
theorem pd_cmp2 {op : CmpOp} {r : R2} {d1 d2 d : D} (ho : OpR X (compareOp op) r) (hm : behindInMarks op b = false) (ha : PE X a (tD K δ μ d1)) (hb : PE X b (tD K δ μ d2))
    (hr : ∀ F H v u (Q : VK), Ex F H → Rep K F d1 v → Rep K F d2 u → (∀ z F' H', Gr F H F' H' → Rep K F' d z → Q z H') → r v u H Q) : PE X (.Compare a [op] [b] pos) (tD K δ μ d) :=
  PE.mono (pe_cmpR ho ha hb hm) fun σ H Q ⟨F, S, k⟩ => ⟨F, S, fun v F1 H1 g1 r1 => ⟨F1, S.mono g1, fun u F2 H2 g2 r2 =>
    hr F2 H2 v u Q g2.fh (Rep.mono g2.ff r1) r2 fun z F3 H3 g3 r3 => k z F3 H3 ((g1.trans g2).trans g3) r3⟩⟩
theorem pt_cmp2 {op : CmpOp} {r : R2} {d1 d2 : D} {p : Prop} (ho : OpR X (compareOp op) r) (hm : behindInMarks op b = false) (ha : PE X a (tD K δ μ d1)) (hb : PE X b (tD K δ μ d2))
    (hr : ∀ F H v u (Q : VK), Ex F H → Rep K F d1 v → Rep K F d2 u → (∀ (k : Bool) F' H', Gr F H F' H' → (k = true ↔ p) → Q (.bl k) H') → r v u H Q) : PT X (.Compare a [op] [b] pos) (tP K δ μ p) :=
  PT.mono (pt_cmpR ho ha hb hm) fun σ H Q ⟨F, S, k⟩ => ⟨F, S, fun v F1 H1 g1 r1 => ⟨F1, S.mono g1, fun u F2 H2 g2 r2 =>
    hr F2 H2 v u _ g2.fh (Rep.mono g2.ff r1) r2 fun z F3 H3 g3 r3 => ⟨z, rfl, k z F3 H3 ((g1.trans g2).trans g3) r3⟩⟩⟩

section
variable {i j : Int}
theorem pd_add (ha : PE X a (tD K δ μ (.int i))) (hb : PE X b (tD K δ μ (.int j))) : PE X (.BinOp a .Add b pos) (tD K δ μ (.int (i + j))) :=
  pd_op2 op_add ha hb fun F H v u Q e r1 r2 k => ⟨i, j, r1, r2, k _ F H (.refl e) rfl⟩
theorem pd_sub (ha : PE X a (tD K δ μ (.int i))) (hb : PE X b (tD K δ μ (.int j))) : PE X (.BinOp a .Sub b pos) (tD K δ μ (.int (i - j))) :=
  pd_op2 op_sub ha hb fun F H v u Q e r1 r2 k => ⟨i, j, r1, r2, k _ F H (.refl e) rfl⟩
theorem pd_mul (ha : PE X a (tD K δ μ (.int i))) (hb : PE X b (tD K δ μ (.int j))) (hc : CMulW i j) : PE X (.BinOp a .Mult b pos) (tD K δ μ (.int (i * j))) :=
  pd_op2 op_mulW ha hb fun F H v u Q e r1 r2 k => ⟨i, j, r1, r2, hc, k _ F H (.refl e) rfl⟩
theorem pd_fdiv (ha : PE X a (tD K δ μ (.int i))) (hb : PE X b (tD K δ μ (.int j))) (hc : 0 < j ∧ j < 1073741824) : PE X (.BinOp a .FloorDiv b pos) (tD K δ μ (.int (i / j))) :=
  pd_op2 op_fdiv ha hb fun F H v u Q e r1 r2 k => ⟨i, j, r1, r2, hc, k _ F H (.refl e) rfl⟩
theorem pd_fdivW (ha : PE X a (tD K δ μ (.int i))) (hb : PE X b (tD K δ μ (.int j))) (hc : CDivW i j) : PE X (.BinOp a .FloorDiv b pos) (tD K δ μ (.int (i / j))) :=
  pd_op2 op_fdivW ha hb fun F H v u Q e r1 r2 k => ⟨i, j, r1, r2, hc, k _ F H (.refl e) rfl⟩
theorem pd_mod (ha : PE X a (tD K δ μ (.int i))) (hb : PE X b (tD K δ μ (.int j))) (hc : 0 < j) : PE X (.BinOp a .Mod b pos) (tD K δ μ (.int (i % j))) :=
  pd_op2 op_mod ha hb fun F H v u Q e r1 r2 k => ⟨i, j, r1, r2, hc, k _ F H (.refl e) rfl⟩
theorem pd_pow {n : Nat} (ha : PE X a (tD K δ μ (.int i))) (hb : PE X b (tD K δ μ (.int j))) (hn : j = (n : Int)) (hc : n ≤ 1000000 ∧ i.natAbs < 2 ^ 64) : PE X (.BinOp a .Pow b pos) (tD K δ μ (.int (i ^ n))) :=
  pd_op2 op_pow ha hb fun F H v u Q e r1 r2 k => ⟨i, j, r1, r2, ⟨by omega, by omega, hc.2⟩, k _ F H (.refl e) (by subst hn; rfl)⟩
theorem pd_neg (ha : PE X a (tD K δ μ (.int i))) : PE X (.UnaryOp .USub a pos) (tD K δ μ (.int (-i))) :=
  PE.mono (pe_un un_neg ha) fun σ H Q ⟨F, S, k⟩ => ⟨F, S, fun v F1 H1 g1 r1 => ⟨i, r1, k _ F1 H1 g1 rfl⟩⟩
/-- // of great numbers, the divisor not 0 -/
theorem op_fdivS {X : Cx} : OpR X (binaryOp .FloorDiv) (rI (fun _ j => j ≠ 0 ∧ j.natAbs.log2 < 9000) fun i j => .int (i.fdiv j)) := opI fun i j t u s Q E hc q =>
  PyProof.Rows.floordiv_int hc.1 q (.inl (PyProof.noPylong_of_log2 hc.2))
theorem pd_fdivS (ha : PE X a (tD K δ μ (.int i))) (hb : PE X b (tD K δ μ (.int j))) (hc : j ≠ 0 ∧ j.natAbs.log2 < 9000) : PE X (.BinOp a .FloorDiv b pos) (tD K δ μ (.int (i.fdiv j))) :=
  pd_op2 op_fdivS ha hb fun F H v u Q e r1 r2 k => ⟨i, j, r1, r2, hc, k _ F H (.refl e) rfl⟩
theorem pd_modN (ha : PE X a (tD K δ μ (.int i))) (hb : PE X b (tD K δ μ (.int j))) (hc : j ≠ 0) : PE X (.BinOp a .Mod b pos) (tD K δ μ (.int (i.fmod j))) :=
  pd_op2 op_modN ha hb fun F H v u Q e r1 r2 k => ⟨i, j, r1, r2, hc, k _ F H (.refl e) rfl⟩

/-! comparisons of whole numbers: as a test, as a value -/
theorem ptd_lt (ha : PE X a (tD K δ μ (.int i))) (hb : PE X b (tD K δ μ (.int j))) : PT X (.Compare a [.Lt] [b] pos) (tP K δ μ (i < j)) :=
  pt_cmp2 op_lt (nomark _) ha hb fun F H v u Q e r1 r2 k => ⟨i, j, r1, r2, k _ F H (.refl e) decide_eq_true_iff⟩
theorem ptd_le (ha : PE X a (tD K δ μ (.int i))) (hb : PE X b (tD K δ μ (.int j))) : PT X (.Compare a [.LtE] [b] pos) (tP K δ μ (i ≤ j)) :=
  pt_cmp2 op_le (nomark _) ha hb fun F H v u Q e r1 r2 k => ⟨i, j, r1, r2, k _ F H (.refl e) decide_eq_true_iff⟩
theorem ptd_gt (ha : PE X a (tD K δ μ (.int i))) (hb : PE X b (tD K δ μ (.int j))) : PT X (.Compare a [.Gt] [b] pos) (tP K δ μ (j < i)) :=
  pt_cmp2 op_gt (nomark _) ha hb fun F H v u Q e r1 r2 k => ⟨i, j, r1, r2, k _ F H (.refl e) decide_eq_true_iff⟩
theorem ptd_ge (ha : PE X a (tD K δ μ (.int i))) (hb : PE X b (tD K δ μ (.int j))) : PT X (.Compare a [.GtE] [b] pos) (tP K δ μ (j ≤ i)) :=
  pt_cmp2 op_ge (nomark _) ha hb fun F H v u Q e r1 r2 k => ⟨i, j, r1, r2, k _ F H (.refl e) decide_eq_true_iff⟩
theorem ptd_eq (ha : PE X a (tD K δ μ (.int i))) (hb : PE X b (tD K δ μ (.int j))) : PT X (.Compare a [.Eq] [b] pos) (tP K δ μ (i = j)) :=
  pt_cmp2 op_eq (nomark _) ha hb fun F H v u Q e r1 r2 k => by
    have e1 : v = .int i := r1
    have e2 : u = .int j := r2
    subst e1; subst e2
    exact ⟨rfl, k _ F H (.refl e) (by rw [decide_eq_true_iff]; exact V.int.injEq i j ▸ Iff.rfl)⟩
theorem ptd_ne (ha : PE X a (tD K δ μ (.int i))) (hb : PE X b (tD K δ μ (.int j))) : PT X (.Compare a [.NotEq] [b] pos) (tP K δ μ (i ≠ j)) :=
  pt_cmp2 op_ne (nomark _) ha hb fun F H v u Q e r1 r2 k => by
    have e1 : v = .int i := r1
    have e2 : u = .int j := r2
    subst e1; subst e2
    exact ⟨rfl, k _ F H (.refl e) (by simp)⟩
theorem pd_lt (ha : PE X a (tD K δ μ (.int i))) (hb : PE X b (tD K δ μ (.int j))) : PE X (.Compare a [.Lt] [b] pos) (tD K δ μ (.bl (decide (i < j)))) :=
  pd_cmp2 op_lt (nomark _) ha hb fun F H v u Q e r1 r2 k => ⟨i, j, r1, r2, k _ F H (.refl e) rfl⟩
theorem pd_le (ha : PE X a (tD K δ μ (.int i))) (hb : PE X b (tD K δ μ (.int j))) : PE X (.Compare a [.LtE] [b] pos) (tD K δ μ (.bl (decide (i ≤ j)))) :=
  pd_cmp2 op_le (nomark _) ha hb fun F H v u Q e r1 r2 k => ⟨i, j, r1, r2, k _ F H (.refl e) rfl⟩
theorem pd_eq (ha : PE X a (tD K δ μ (.int i))) (hb : PE X b (tD K δ μ (.int j))) : PE X (.Compare a [.Eq] [b] pos) (tD K δ μ (.bl (decide (i = j)))) :=
  pd_cmp2 op_eq (nomark _) ha hb fun F H v u Q e r1 r2 k => by
    have e1 : v = .int i := r1
    have e2 : u = .int j := r2
    subst e1; subst e2
    exact ⟨rfl, k _ F H (.refl e) (by show V.bl _ = V.bl _; simp)⟩
end
/-! tests -/
variable {p q : Prop} {rest : List Expr}
theorem ptd_val {k : Bool} (h : PE X e (tD K δ μ (.bl k))) (he : ∀ whole, isTrue e X.env whole = (do let v ← whole; standAt e.pos; holding [v] (truthy v))) : PT X e (tP K δ μ (k = true)) :=
  PT.mono (pt_val h he) fun σ H Q ⟨F, S, w⟩ => ⟨F, S, fun v F1 H1 g r => ⟨k, r, w k F1 H1 g Iff.rfl⟩⟩
theorem ptd_not (h : PT X a (tP K δ μ p)) : PT X (.UnaryOp .Not a pos) (tP K δ μ (¬ p)) :=
  PT.mono (pt_not h) fun σ H Q ⟨F, S, w⟩ => ⟨F, S, fun k F1 H1 g r => w _ F1 H1 g (by cases k <;> simp_all)⟩
theorem pwd_and1 (h : PT X a (tP K δ μ p)) : PW X (.BoolOp .And [a] pos) (tP K δ μ p) := pw_and1 h
theorem pwd_or1 (h : PT X a (tP K δ μ p)) : PW X (.BoolOp .Or [a] pos) (tP K δ μ p) := pw_or1 h
/-- the reading of the second operand, asked only where the first is so -/
def tPif (c : Prop) (t : TT) : TT := fun σ H Q => ∃ _ : c, t σ H Q
theorem PW.when {c : Prop} {t : TT} (h : c → PW X e t) : PW X e (tPif c t) := ⟨fun wh pins s σ H Q I ⟨hc, w⟩ => (h hc).run wh pins s σ H Q I w⟩
theorem PE.when {c : Prop} {t : TE} (h : c → PE X e t) : PE X e (fun σ H Q => ∃ _ : c, t σ H Q) := ⟨fun pins s σ H Q I ⟨hc, w⟩ => (h hc).run pins s σ H Q I w⟩
theorem pwd_and (ha : PT X a (tP K δ μ p)) (hb : p → PW X (.BoolOp .And (b :: rest) pos) (tP K δ μ q)) : PW X (.BoolOp .And (a :: b :: rest) pos) (tP K δ μ (p ∧ q)) :=
  PW.mono (pw_and ha (PW.when hb)) fun σ H Q ⟨F, S, w⟩ => ⟨F, S, fun k F1 H1 g r => by
    cases k with
    | true =>
      refine iteT ⟨r.mp rfl, F1, S.mono g, fun k2 F2 H2 g2 r2 => w k2 F2 H2 (g.trans g2) ?_⟩
      rw [r2]; exact ⟨fun z => ⟨r.mp rfl, z⟩, fun z => z.2⟩
    | false =>
      exact iteF (w false F1 H1 g ⟨fun z => (Bool.false_ne_true z).elim, fun z => r.mpr z.1⟩)⟩
theorem pwd_or (ha : PT X a (tP K δ μ p)) (hb : ¬ p → PW X (.BoolOp .Or (b :: rest) pos) (tP K δ μ q)) : PW X (.BoolOp .Or (a :: b :: rest) pos) (tP K δ μ (p ∨ q)) :=
  PW.mono (pw_or ha (PW.when hb)) fun σ H Q ⟨F, S, w⟩ => ⟨F, S, fun k F1 H1 g r => by
    cases k with
    | true => exact iteT (w true F1 H1 g ⟨fun _ => .inl (r.mp rfl), fun _ => rfl⟩)
    | false =>
      have np : ¬ p := fun z => by have := r.mpr z; cases this
      refine iteF ⟨np, F1, S.mono g, fun k2 F2 H2 g2 r2 => w k2 F2 H2 (g.trans g2) ?_⟩
      rw [r2]; exact ⟨.inr, fun z => z.elim (fun y => absurd y np) id⟩⟩
theorem ptd_iff {p q : Prop} (h : PT X e (tP K δ μ p)) (i : p ↔ q) : PT X e (tP K δ μ q) := (propext i) ▸ h
/-- and, or, not as values -/
theorem pd_one {op} {d : D} (h : PE X a (tD K δ μ d)) : PE X (.BoolOp op [a] pos) (tD K δ μ d) := pe_one h
theorem pd_and {k k2 : Bool} (ha : PE X a (tD K δ μ (.bl k))) (hb : k = true → PE X (.BoolOp .And (b :: rest) pos) (tD K δ μ (.bl k2))) : PE X (.BoolOp .And (a :: b :: rest) pos) (tD K δ μ (.bl (k && k2))) :=
  PE.mono (pe_and ha (PE.when hb)) fun σ H Q ⟨F, S, w⟩ => ⟨F, S, fun v F1 H1 g r => ⟨k, r, by
    cases k with
    | true => exact iteT ⟨rfl, F1, S.mono g, fun v2 F2 H2 g2 r2 => w v2 F2 H2 (g.trans g2) r2⟩
    | false => exact iteF (w _ F1 H1 g rfl)⟩⟩
theorem pd_or {k k2 : Bool} (ha : PE X a (tD K δ μ (.bl k))) (hb : k = false → PE X (.BoolOp .Or (b :: rest) pos) (tD K δ μ (.bl k2))) : PE X (.BoolOp .Or (a :: b :: rest) pos) (tD K δ μ (.bl (k || k2))) :=
  PE.mono (pe_or ha (PE.when hb)) fun σ H Q ⟨F, S, w⟩ => ⟨F, S, fun v F1 H1 g r => ⟨k, r, by
    cases k with
    | true => exact iteT (w _ F1 H1 g rfl)
    | false => exact iteF ⟨rfl, F1, S.mono g, fun v2 F2 H2 g2 r2 => w v2 F2 H2 (g.trans g2) r2⟩⟩⟩
theorem pd_not {k : Bool} (ha : PE X a (tD K δ μ (.bl k))) : PE X (.UnaryOp .Not a pos) (tD K δ μ (.bl (!k))) :=
  PE.mono (pe_not ha) fun σ H Q ⟨F, S, w⟩ => ⟨F, S, fun v F1 H1 g r => ⟨k, r, w _ F1 H1 g rfl⟩⟩
end
end Bl
namespace Bl
open PySem L2
section
variable {X : Cx} {K : PySem.W.Frag} {δ : De} {μ : Me} {a b c e : Expr} {es : List Expr} {pos p p2 : Pos}
theorem small_line {n : Nat} (h : n ≤ 10000) : n ≤ sizeLine := Nat.le_trans h (by decide)
theorem pas_nil : PA X [] (tAs K δ μ []) := PA.mono pa_nil fun σ H Q ⟨F, S, k⟩ => k [] F H (.refl S.fh) rfl
theorem pas_cons {d : D} {ds : List D} (h : PE X e (tD K δ μ d)) (hr : PA X es (tAs K δ μ ds)) (hs : starEach (e :: es) X.env = (false, eval e X.env) :: starEach es X.env := by rfl) : PA X (e :: es) (tAs K δ μ (d :: ds)) :=
  PA.mono (pa_cons h hr hs) fun σ H Q ⟨F, S, k⟩ => ⟨F, S, fun v F1 H1 g1 r1 => ⟨F1, S.mono g1, fun vs F2 H2 g2 r2 => k (v :: vs) F2 H2 (g1.trans g2) ⟨v, vs, rfl, Rep.mono g2.ff r1, r2⟩⟩⟩
theorem pd_tup {x1} {ds : List D} (h : PA X es (tAs K δ μ ds)) (hl : ds.length ≤ 10000) : PE X (.Tuple es x1 pos) (tD K δ μ (.tup ds)) :=
  PE.mono (pe_tup h) fun σ H Q ⟨F, S, k⟩ => ⟨F, S, fun vs F1 H1 g r => ⟨small_line (by rw [r.length]; exact hl), fun q hq => by
    have g2 : Gr F1 H1 (upd F1 q (.tup vs)) (upd H1 q (.tup vs)) := Gr.new g.fh hq
    exact k _ _ _ (g.trans g2) ⟨q, vs, rfl, upd_same, RepL.mono g2.ff r⟩⟩⟩
theorem pn_lst {ds : List D} (h : PA X es (tAs K δ μ ds)) (hl : ds.length ≤ 10000) : PE X (.List es pos) (tN K δ μ ds) :=
  PE.mono (pe_lst h) fun σ H Q ⟨F, S, k⟩ => ⟨F, S, fun vs F1 H1 g r => ⟨small_line (by rw [r.length]; exact hl), fun q hq =>
    k q vs F1 _ (g.trans (Gr.newH g.fh hq)) (g.hh.none hq) (g.fh.none hq) upd_same r⟩⟩
/-- what can be walked by place -/
def seqOf : D → Option (List D)
  | .tup ds => some ds
  | .lst ds => some ds
  | .sq ds => some ds
  | .lv _ ds => some ds
  | _ => none
theorem rep_seq {F : Hp} {d : D} {ds : List D} {v : V} (h : Rep K F d v) (q : seqOf d = some ds) : ∃ p vs, v = .ref p ∧ RepL K F ds vs ∧ (SqL K F p vs ∨ SqT K F p vs) := by
  cases d with
  | tup es => cases q; obtain ⟨p, vs, a, b, c⟩ := h; exact ⟨p, vs, a, c, .inr (.of b)⟩
  | lst es => cases q; obtain ⟨p, vs, a, b, c⟩ := h; exact ⟨p, vs, a, c, .inl (.of b)⟩
  | sq es => cases q; obtain ⟨p, vs, a, b, c⟩ := h; exact ⟨p, vs, a, c, .inl b⟩
  | lv us es => cases q; obtain ⟨p, a, b, c⟩ := h; exact ⟨p, us, a, c, .inl (.of b)⟩
  | _ => cases q
/-- .. a list -/
def seqL : D → Option (List D)
  | .lst ds => some ds
  | .sq ds => some ds
  | .lv _ ds => some ds
  | _ => none
theorem rep_list {F : Hp} {d : D} {ds : List D} {v : V} (h : Rep K F d v) (q : seqL d = some ds) : ∃ p vs, v = .ref p ∧ RepL K F ds vs ∧ SqL K F p vs := by
  cases d with
  | lst es => cases q; obtain ⟨p, vs, a, b, c⟩ := h; exact ⟨p, vs, a, c, (.of b)⟩
  | sq es => cases q; obtain ⟨p, vs, a, b, c⟩ := h; exact ⟨p, vs, a, c, b⟩
  | lv us es => cases q; obtain ⟨p, a, b, c⟩ := h; exact ⟨p, us, a, c, (.of b)⟩
  | _ => cases q
/-- .. a list that is no one else's -/
def seqO : D → Option (List D)
  | .lst ds => some ds
  | .lv _ ds => some ds
  | _ => none
theorem rep_own {F : Hp} {d : D} {ds : List D} {v : V} (h : Rep K F d v) (q : seqO d = some ds) : ∃ p vs, v = .ref p ∧ RepL K F ds vs ∧ F p = some (.lst vs) := by
  cases d with
  | lst es => cases q; obtain ⟨p, vs, a, b, c⟩ := h; exact ⟨p, vs, a, c, b⟩
  | lv us es => cases q; obtain ⟨p, a, b, c⟩ := h; exact ⟨p, us, a, c, b⟩
  | _ => cases q
theorem Ex.sqt {F F' : Hp} {a : Addr} {xs : List V} (e : Ex F F') (h : SqT K F a xs) : SqT K F' a xs := by
  rcases h with (h | ⟨o, h⟩) | h
  · exact .inl (.inl (e _ _ h))
  · exact .inl (.inr ⟨o, e _ _ h⟩)
  · exact .inr h
theorem RepL.atI {F : Hp} {ds : List D} {vs : List V} {i : Int} {d : D} (r : RepL K F ds vs) (h : atI ds i = some d) : ∃ v, atI vs i = some v ∧ Rep K F d v := by
  unfold L2.atI at h ⊢
  rw [r.length]
  cases e : ixN ds.length i with
  | none => rw [e] at h; cases h
  | some j =>
    rw [e] at h
    obtain ⟨v, h1, h2⟩ := r.get (i := j) h
    exact ⟨v, h1, h2⟩
theorem pd_ix {d dd : D} {ds : List D} {i : Int} (ha : PE X a (tD X.K δ μ d)) (hb : PE X b (tD X.K δ μ (.int i))) (hs : PlainIx b) (q : seqOf d = some ds) (h : atI ds i = some dd) : PE X (.Subscript a b pos) (tD X.K δ μ dd) :=
  PE.mono (pe_ix ix_seq ha hb hs) fun σ H Q ⟨F, S, k⟩ => ⟨F, S, fun v F1 H1 g1 r1 => ⟨F1, S.mono g1, fun u F2 H2 g2 r2 => by
    obtain ⟨p, vs, e1, r, hq⟩ := rep_seq (Rep.mono g2.ff r1) q
    obtain ⟨z, h1, h2⟩ := r.atI h
    have e2 : u = .int i := r2
    rcases hq with hq | hq
    · exact .inl ⟨p, vs, i, z, e1, e2, g2.fh.sql hq, h1, k z F2 H2 (g1.trans g2) h2⟩
    · exact .inr (.inl ⟨p, vs, i, z, e1, e2, g2.fh.sqt hq, h1, k z F2 H2 (g1.trans g2) h2⟩)⟩⟩
theorem atI_lit {α : Type} {xs : List α} {j : Nat} {v : α} (h : xs[j]? = some v) : atI xs (j : Int) = some v := L2.atI_nat h
/-- o.f -/
theorem zip_lookup {F : Hp} {f : Str} {d : D} : ∀ {ns : List Str} {ds : List D} {vs : List V}, RepL K F ds vs → (ns.zip ds).lookup f = some d → ∃ v, (ns.zip vs).lookup f = some v ∧ Rep K F d v
  | [], ds, vs, r, h => by simp at h
  | n :: ns, [], vs, r, h => by simp at h
  | n :: ns, x :: ds, vs, r, h => by
    obtain ⟨v, t, e, r1, r2⟩ := r
    subst e
    simp only [List.zip_cons_cons, List.lookup_cons] at h ⊢
    cases q : f == n with
    | true =>
      rw [q] at h
      have e : x = d := Option.some.inj h
      subst e
      exact ⟨v, rfl, r1⟩
    | false =>
      rw [q] at h
      exact zip_lookup r2 h
theorem zip_none {f : Str} : ∀ {ns : List Str} {vs : List V}, ns.contains f = false → (ns.zip vs).lookup f = none
  | [], vs, h => by simp
  | n :: ns, [], h => by simp
  | n :: ns, v :: vs, h => by
    simp only [List.contains_cons, Bool.or_eq_false_iff] at h
    simp only [List.zip_cons_cons, List.lookup_cons, h.1]
    exact zip_none h.2
theorem pd_fld {o : Expr} {f : Str} {C : Addr} {ns : List Str} {ds : List D} {d : D} (ha : PE X o (tD X.K δ μ (.ins C ns ds))) (hb : attributeBase o f X.env (eval o X.env) = eval o X.env) (c : Cls X.K C) (n : NoAttr X.K C f) (h : (ns.zip ds).lookup f = some d) :
    PE X (.Attribute o f pos) (tD X.K δ μ d) :=
  PE.mono (pe_fld ha hb) fun σ H Q ⟨F, S, k⟩ => ⟨F, S, fun v F1 H1 g r => by
    obtain ⟨p, dx, vs, e, hp, rv, hl⟩ := r
    obtain ⟨z, h1, h2⟩ := zip_lookup rv h
    exact ⟨p, C, dx, _, z, e, g.fh _ _ hp, c, n, h1, k z F1 H1 g h2⟩⟩

/-! built-in functions -/
theorem pd_cb1 {id : String} {x : Str} {r : List V → Hp → VK → Prop} {d1 d : D} (hc : CallR X (.builtin id) r) (hg : Gl X x) (hm : X.mg x = none) (hv : bootBuiltins x = some (.builtin id)) (ha : PE X a (tD K δ μ d1)) (hn : x ≠ "__name__") (hdb : (x == ("__debug__" : Str)) = false)
    (hst : starEach [a] X.env = (false, eval a X.env) :: starEach [] X.env) (hpl : (backTo pos (starEach [] X.env)).any (·.1) = false)
    (hr : ∀ F H v (Q : VK), Ex F H → Rep K F d1 v → (∀ z F' H', Gr F H F' H' → Rep K F' d z → Q z H') → r [v] H Q) : PE X (.Call (.Name x p) [a] [] pos) (tD K δ μ d) :=
  PE.mono (pe_callB hc hg hm hv (pas_cons ha pas_nil hst) hn hdb hst hpl) fun σ H Q ⟨F, S, k⟩ => ⟨F, S, fun vs F1 H1 g r1 => by
    obtain ⟨v, t, e, r2, r3⟩ := r1
    have e2 : t = [] := r3
    subst e2; subst e
    exact hr F1 H1 v Q g.fh r2 fun z F2 H2 g2 rz => k z F2 H2 (g.trans g2) rz⟩
theorem pd_cb2 {id : String} {x : Str} {r : List V → Hp → VK → Prop} {d1 d2 d : D} (hc : CallR X (.builtin id) r) (hg : Gl X x) (hm : X.mg x = none) (hv : bootBuiltins x = some (.builtin id)) (ha : PE X a (tD K δ μ d1)) (hb : PE X b (tD K δ μ d2)) (hn : x ≠ "__name__") (hdb : (x == ("__debug__" : Str)) = false)
    (hst : starEach [a, b] X.env = (false, eval a X.env) :: starEach [b] X.env) (hst2 : starEach [b] X.env = (false, eval b X.env) :: starEach [] X.env) (hpl : (backTo pos (starEach [b] X.env)).any (·.1) = false)
    (hr : ∀ F H v u (Q : VK), Ex F H → Rep K F d1 v → Rep K F d2 u → (∀ z F' H', Gr F H F' H' → Rep K F' d z → Q z H') → r [v, u] H Q) : PE X (.Call (.Name x p) [a, b] [] pos) (tD K δ μ d) :=
  PE.mono (pe_callB hc hg hm hv (pas_cons ha (pas_cons hb pas_nil hst2) hst) hn hdb hst hpl) fun σ H Q ⟨F, S, k⟩ => ⟨F, S, fun vs F1 H1 g r1 => by
    obtain ⟨v, t, e, r2, u, t2, e2, r3, r4⟩ := r1
    have e3 : t2 = [] := r4
    subst e3; subst e2; subst e
    exact hr F1 H1 v u Q g.fh r2 r3 fun z F2 H2 g2 rz => k z F2 H2 (g.trans g2) rz⟩
def iabs (i : Int) : Int := if i < 0 then -i else i
def imax (i j : Int) : Int := if j > i then j else i
def imin (i j : Int) : Int := if j < i then j else i
theorem boot_abs : bootBuiltins "abs" = some (.builtin "abs") := by decide +kernel
theorem boot_max : bootBuiltins "max" = some (.builtin "max") := by decide +kernel
theorem boot_min : bootBuiltins "min" = some (.builtin "min") := by decide +kernel
theorem boot_sum : bootBuiltins "sum" = some (.builtin "sum") := by decide +kernel
theorem boot_sorted : bootBuiltins "sorted" = some (.builtin "sorted") := by decide +kernel
theorem boot_isinst : bootBuiltins "isinstance" = some (.builtin "isinstance") := by decide +kernel
theorem boot_listT : bootBuiltins "list" = some (.type "list") := by decide +kernel
theorem boot_tupleT : bootBuiltins "tuple" = some (.type "tuple") := by decide +kernel
theorem boot_intT : bootBuiltins "int" = some (.type "int") := by decide +kernel
theorem boot_boolT : bootBuiltins "bool" = some (.type "bool") := by decide +kernel
theorem pd_abs {i : Int} (hg : Gl X "abs") (hm : X.mg "abs" = none) (ha : PE X a (tD K δ μ (.int i)))
    (hst : starEach [a] X.env = (false, eval a X.env) :: starEach [] X.env := by rfl) (hpl : (backTo pos (starEach [] X.env)).any (·.1) = false := by rfl) : PE X (.Call (.Name "abs" p) [a] [] pos) (tD K δ μ (.int (iabs i))) :=
  pd_cb1 call_abs hg hm boot_abs ha (by decide +kernel) (by decide +kernel) hst hpl fun F H v Q e r k => ⟨i, by rw [show v = .int i from r], k _ F H (.refl e) rfl⟩
theorem pd_max {i j : Int} (hc : X.calm = true) (hg : Gl X "max") (hm : X.mg "max" = none) (ha : PE X a (tD K δ μ (.int i))) (hb : PE X b (tD K δ μ (.int j)))
    (hst : starEach [a, b] X.env = (false, eval a X.env) :: starEach [b] X.env := by rfl) (hst2 : starEach [b] X.env = (false, eval b X.env) :: starEach [] X.env := by rfl) (hpl : (backTo pos (starEach [b] X.env)).any (·.1) = false := by rfl) :
    PE X (.Call (.Name "max" p) [a, b] [] pos) (tD K δ μ (.int (imax i j))) :=
  pd_cb2 (call_max2 hc) hg hm boot_max ha hb (by decide +kernel) (by decide +kernel) hst hst2 hpl fun F H v u Q e r r2 k => ⟨i, j, by rw [show v = .int i from r, show u = .int j from r2], k _ F H (.refl e) rfl⟩
theorem pd_min {i j : Int} (hc : X.calm = true) (hg : Gl X "min") (hm : X.mg "min" = none) (ha : PE X a (tD K δ μ (.int i))) (hb : PE X b (tD K δ μ (.int j)))
    (hst : starEach [a, b] X.env = (false, eval a X.env) :: starEach [b] X.env := by rfl) (hst2 : starEach [b] X.env = (false, eval b X.env) :: starEach [] X.env := by rfl) (hpl : (backTo pos (starEach [b] X.env)).any (·.1) = false := by rfl) :
    PE X (.Call (.Name "min" p) [a, b] [] pos) (tD K δ μ (.int (imin i j))) :=
  pd_cb2 (call_min2 hc) hg hm boot_min ha hb (by decide +kernel) (by decide +kernel) hst hst2 hpl fun F H v u Q e r r2 k => ⟨i, j, by rw [show v = .int i from r, show u = .int j from r2], k _ F H (.refl e) rfl⟩
theorem pd_len {d : D} {ds : List D} (hg : Gl X "len") (hm : X.mg "len" = none) (ha : PE X a (tD X.K δ μ d)) (hq : seqOf d = some ds)
    (hst : starEach [a] X.env = (false, eval a X.env) :: starEach [] X.env := by rfl) (hpl : (backTo pos (starEach [] X.env)).any (·.1) = false := by rfl) : PE X (.Call (.Name "len" p) [a] [] pos) (tD X.K δ μ (.int (ds.length : Nat))) :=
  pd_cb1 call_len hg hm PySem.boot_len ha (by decide +kernel) (by decide +kernel) hst hpl fun F H v Q e r k => by
    obtain ⟨q, vs, e1, rv, hs⟩ := rep_seq r hq
    refine ⟨v, vs.length, rfl, ?_, k _ F H (.refl e) (by rw [rv.length]; rfl)⟩
    subst e1
    rcases hs with hs | hs
    · exact .inl ⟨vs, e.sql hs, rfl⟩
    · exact .inr ⟨vs, e.sqt hs, rfl⟩
theorem pd_sum {d : D} {ns : List Int} (hc : X.calm = true) (hg : Gl X "sum") (hm : X.mg "sum" = none) (ha : PE X a (tD X.K δ μ d)) (hq : seqL d = some (ns.map D.int))
    (hst : starEach [a] X.env = (false, eval a X.env) :: starEach [] X.env := by rfl) (hpl : (backTo pos (starEach [] X.env)).any (·.1) = false := by rfl) : PE X (.Call (.Name "sum" p) [a] [] pos) (tD X.K δ μ (.int ns.sum)) :=
  pd_cb1 (cr_sum hc) hg hm boot_sum ha (by decide +kernel) (by decide +kernel) hst hpl fun F H v Q e r k => by
    obtain ⟨q, vs, e1, rv, hs⟩ := rep_list r hq
    have e2 := rv.ints
    subst e1; subst e2
    exact ⟨q, ns, rfl, e.sql hs, k _ F H (.refl e) rfl⟩
/-- T(e), T a built-in type, giving a new list -/
theorem pn_list {d : D} {ds : List D} (hg : Gl X "list") (hm : X.mg "list" = none) (ha : PE X a (tD X.K δ μ d)) (hq : seqOf d = some ds)
    (hst : starEach [a] X.env = (false, eval a X.env) :: starEach [] X.env := by rfl) (hpl : (backTo pos (starEach [] X.env)).any (·.1) = false := by rfl) : PE X (.Call (.Name "list" p) [a] [] pos) (tN X.K δ μ ds) :=
  PE.mono (pe_callTy call_list_of hg hm boot_listT (pas_cons ha pas_nil hst) (by decide +kernel) (by decide +kernel) hst hpl) fun σ H Q ⟨F, S, k⟩ => ⟨F, S, fun vs F1 H1 g r1 => by
    obtain ⟨v, t, e, r2, r3⟩ := r1
    have e2 : t = [] := r3
    subst e2; subst e
    obtain ⟨q, us, e1, rv, hs⟩ := rep_seq r2 hq
    subst e1
    exact ⟨q, us, rfl, hs.imp (g.fh.sql ·) (g.fh.sqt ·), fun l hl => k l us F1 _ (g.trans (Gr.newH g.fh hl)) (g.hh.none hl) (g.fh.none hl) upd_same rv⟩⟩
theorem pd_tuple {d : D} {ds : List D} (hg : Gl X "tuple") (hm : X.mg "tuple" = none) (ha : PE X a (tD X.K δ μ d)) (hq : seqL d = some ds)
    (hst : starEach [a] X.env = (false, eval a X.env) :: starEach [] X.env := by rfl) (hpl : (backTo pos (starEach [] X.env)).any (·.1) = false := by rfl) : PE X (.Call (.Name "tuple" p) [a] [] pos) (tD X.K δ μ (.tup ds)) :=
  PE.mono (pe_callTy call_tuple_of hg hm boot_tupleT (pas_cons ha pas_nil hst) (by decide +kernel) (by decide +kernel) hst hpl) fun σ H Q ⟨F, S, k⟩ => ⟨F, S, fun vs F1 H1 g r1 => by
    obtain ⟨v, t, e, r2, r3⟩ := r1
    have e2 : t = [] := r3
    subst e2; subst e
    obtain ⟨q, us, e1, rv, hs⟩ := rep_list r2 hq
    subst e1
    refine ⟨q, us, rfl, .inl ⟨g.fh.sql hs, fun l hl => ?_⟩⟩
    have g2 : Gr F1 H1 (upd F1 l (.tup us)) (upd H1 l (.tup us)) := Gr.new g.fh hl
    exact k _ _ _ (g.trans g2) ⟨l, us, rfl, upd_same, RepL.mono g2.ff rv⟩⟩
/-- lists: one behind the other, so many times over -/
theorem pn_cat {d1 d2 : D} {ds es : List D} (ha : PE X a (tD K δ μ d1)) (hb : PE X b (tD K δ μ d2)) (h1 : seqO d1 = some ds) (h2 : seqO d2 = some es) (hl : ds.length + es.length ≤ 10000) : PE X (.BinOp a .Add b pos) (tN K δ μ (ds ++ es)) :=
  PE.mono (pe_op op_cat ha hb) fun σ H Q ⟨F, S, k⟩ => ⟨F, S, fun v F1 H1 g1 r1 => ⟨F1, S.mono g1, fun u F2 H2 g2 r2 => by
    obtain ⟨p1, vs, e1, rv, q1⟩ := rep_own (Rep.mono g2.ff r1) h1
    obtain ⟨p2, us, e2, ru, q2⟩ := rep_own r2 h2
    subst e1; subst e2
    refine ⟨p1, p2, vs, us, rfl, rfl, g2.fh _ _ q1, g2.fh _ _ q2, small_line (by rw [rv.length, ru.length]; exact hl), fun l hl => ?_⟩
    exact k l _ F2 _ ((g1.trans g2).trans (Gr.newH g2.fh hl)) ((g1.trans g2).hh.none hl) (g2.fh.none hl) upd_same (rv.append ru)⟩⟩
def times (k : Int) (ds : List D) : List D := (List.replicate k.toNat ds).flatten
theorem RepL.times {F : Hp} {ds : List D} {vs : List V} (r : RepL K F ds vs) : ∀ n : Nat, RepL K F (List.replicate n ds).flatten (List.replicate n vs).flatten
  | 0 => rfl
  | n + 1 => by
    rw [List.replicate_succ, List.replicate_succ, List.flatten_cons, List.flatten_cons]
    exact r.append (RepL.times r n)
theorem pn_rep {d1 : D} {ds : List D} {i : Int} (ha : PE X a (tD K δ μ d1)) (hb : PE X b (tD K δ μ (.int i))) (h1 : seqO d1 = some ds) (hi : 0 ≤ i ∧ i ≤ 100) (hl : ds.length ≤ 100) : PE X (.BinOp a .Mult b pos) (tN K δ μ (times i ds)) :=
  PE.mono (pe_op op_rep ha hb) fun σ H Q ⟨F, S, k⟩ => ⟨F, S, fun v F1 H1 g1 r1 => ⟨F1, S.mono g1, fun u F2 H2 g2 r2 => by
    obtain ⟨p1, vs, e1, rv, q1⟩ := rep_own (Rep.mono g2.ff r1) h1
    have e2 : u = .int i := r2
    subst e1; subst e2
    refine ⟨p1, i, vs, rfl, rfl, g2.fh _ _ q1, by omega, by omega, small_line ?_, fun l hl => ?_⟩
    · rw [rv.length]
      have : i.toNat ≤ 100 := by omega
      calc ds.length * i.toNat ≤ 100 * 100 := Nat.mul_le_mul hl this
        _ ≤ 10000 := by decide
    exact k l _ F2 _ ((g1.trans g2).trans (Gr.newH g2.fh hl)) ((g1.trans g2).hh.none hl) (g2.fh.none hl) upd_same (rv.times _)⟩⟩
end
/-! calls of defs -/
/-- a def keeps its promise R: from the arguments' data to what it hands back, or the error's class -/
def spD (K : PySem.W.Frag) (R : List D → Except Value D → Prop) : Sp := fun vs H Q E => ∃ F ds r, Ex F H ∧ RepL K F ds vs ∧ R ds r ∧
  match r with
  | .ok d => ∀ v F' H', Gr F H F' H' → Rep K F' d v → Q v H'
  | .error c => ∀ F' H', Gr F H F' H' → E c none H'
structure Cal (P : Program) (w : World) (K : PySem.W.Frag) (mg : Str → Option Value) (base : Heap) (x : Str) (k : Nat) (ps : List Str) (R : List D → Except Value D → Prop) : Prop where
  ex : ∃ f fd, FnOk P w K mg base (L2.CX P w) k f fd ps (spD K R) ∧ mg x = some (.ref f) ∧ PySem.W.keepIn K (.ref f) = true ∧ Binds K fd ps []
structure CalM (P : Program) (w : World) (K : PySem.W.Frag) (mg : Str → Option Value) (base : Heap) (C : Addr) (x : Str) (k : Nat) (ps : List Str) (R : List D → Except Value D → Prop) : Prop where
  cl : Cls K C
  ex : ∃ f fd, FnOk P w K mg base (L2.CX P w) k f fd ps (spD K R) ∧ Meth K C x f ∧ Binds K fd ps []
/-- __init__: from the arguments' data to the fields' -/
def spI (K : PySem.W.Frag) (C : Addr) (ns : List Str) (R : List D → Except Value (List D) → Prop) : Sp := fun vs H Q E => ∃ p dx us H1 F ds r, vs = .ref p :: us ∧ H1 p = none ∧ H1 dx = none ∧ dx ≠ p ∧
  H = upd (upd H1 dx (.own p)) p (.ins C dx []) ∧ Ex F H1 ∧ RepL K F ds us ∧ R ds r ∧
  match r with
  | .ok es => ∀ F' H', Gr F H1 F' H' → Rep K F' (.ins C ns es) (.ref p) → Q .non H'
  | .error c => ∀ F' H', Gr F H1 F' H' → E c none H'
structure CalI (P : Program) (w : World) (K : PySem.W.Frag) (mg : Str → Option Value) (base : Heap) (C : Addr) (x : Str) (k : Nat) (ps : List Str) (ns : List Str) (R : List D → Except Value (List D) → Prop) : Prop where
  mg_ : mg x = some (.ref C)
  ex : ∃ f fd, FnOk P w K mg base (L2.CX P w) k f fd ps (spI K C ns R) ∧ Mk K C f ∧ Binds K fd ps []
section
variable {X : Cx} {δ : De} {μ : Me} {a b c e o : Expr} {es : List Expr} {pos p apos : Pos} {x m : Str} {k j : Nat} {ps ns : List Str} {R : List D → Except Value D → Prop} {ds : List D} {d : D} {C : Addr}
theorem pd_call (c : Cal X.prog X.w X.K X.mg X.base x k ps R) (hr : Room j X.A) (hk : k ≤ j) (hg : Gl X x) (ha : PA X (e :: es) (tAs X.K δ μ ds)) (hR : R ds (.ok d))
    (hdb : (x == ("__debug__" : Str)) = false := by decide) (he : starEach (e :: es) X.env = (false, eval e X.env) :: starEach es X.env := by rfl) (hpl : (backTo pos (starEach es X.env)).any (·.1) = false := by rfl) :
    PE X (.Call (.Name x p) (e :: es) [] pos) (tD X.K δ μ d) := by
  obtain ⟨f, fd, F, hm, hkp, hb⟩ := c.ex
  refine PE.mono (pe_call F (hr.mono hk) hg hm hkp hb .nil passL ha hdb he hpl) fun σ H Q ⟨F, S, w⟩ => ⟨F, S, fun vs F1 H1 g r => ?_⟩
  exact ⟨F1, ds, .ok d, g.fh, by rw [List.append_nil]; exact r, hR, fun v F2 H2 g2 rv => w v F2 H2 (g.trans g2) rv⟩
theorem pd_meth {dso : List D} (c : CalM X.prog X.w X.K X.mg X.base C m k ps R) (ho : PE X o (tD X.K δ μ (.ins C ns dso))) (hr : Room j X.A) (hk : k ≤ j) (ha : PA X (e :: es) (tAs X.K δ μ ds)) (hn : ns.contains m = false) (hR : R (.ins C ns dso :: ds) (.ok d)) {pl : Sem Bool}
    (hst : starEach (e :: es) X.env = (false, eval e X.env) :: starEach es X.env := by rfl) (hpl : (backTo pos (starEach es X.env)).any (·.1) = false := by rfl)
    (ht : eval (.Call (.Attribute o m apos) (e :: es) [] pos) X.env = (do
      let ov ← eval o X.env
      standAt apos.atName
      let (f, first) ← holding [ov] (getMethod ov m pl)
      callWith pos f first (backTo pos (starEach (e :: es) X.env)) (backToKw pos (keywordEach [] X.env))) := by rfl) :
    PE X (.Call (.Attribute o m apos) (e :: es) [] pos) (tD X.K δ μ d) := by
  obtain ⟨f, fd, F, hm, hb⟩ := c.ex
  refine PE.mono (pe_meth (pl := pl) ho c.cl hm F (hr.mono hk) hb .nil passL ha hst hpl ht) fun σ H Q ⟨F, S, w⟩ => ⟨F, S, fun v F1 H1 g r => ?_⟩
  obtain ⟨q, dx, vs, e1, hp, rv, hl⟩ := id r
  refine ⟨q, dx, _, e1, g.fh _ _ hp, zip_none hn, F1, S.mono g, fun us F2 H2 g2 r2 => ?_⟩
  refine ⟨F2, _, .ok d, g2.fh, ?_, hR, fun v F3 H3 g3 r3 => w v F3 H3 ((g.trans g2).trans g3) r3⟩
  rw [List.append_nil]
  exact ⟨_, _, rfl, Rep.mono g2.ff r, r2⟩
theorem pd_meth0 {dso : List D} (c : CalM X.prog X.w X.K X.mg X.base C m k ps R) (ho : PE X o (tD X.K δ μ (.ins C ns dso))) (hr : Room j X.A) (hk : k ≤ j) (hn : ns.contains m = false) (hR : R [.ins C ns dso] (.ok d)) {pl : Sem Bool}
    (ht : eval (.Call (.Attribute o m apos) [] [] pos) X.env = (do
      let ov ← eval o X.env
      standAt apos.atName
      let (f, first) ← holding [ov] (getMethod ov m pl)
      callWith pos f first (backTo pos (starEach [] X.env)) (backToKw pos (keywordEach [] X.env))) := by rfl) :
    PE X (.Call (.Attribute o m apos) [] [] pos) (tD X.K δ μ d) := by
  obtain ⟨f, fd, F, hm, hb⟩ := c.ex
  refine PE.mono (pe_meth0 (pl := pl) ho c.cl hm F (hr.mono hk) hb .nil passL ht) fun σ H Q ⟨F, S, w⟩ => ⟨F, S, fun v F1 H1 g r => ?_⟩
  obtain ⟨q, dx, vs, e1, hp, rv, hl⟩ := id r
  refine ⟨q, dx, _, e1, g.fh _ _ hp, zip_none hn, ?_⟩
  exact ⟨F1, [.ins C ns dso], .ok d, g.fh, ⟨v, [], rfl, r, rfl⟩, hR, fun v F3 H3 g3 r3 => w v F3 H3 (g.trans g3) r3⟩
theorem pd_make {R : List D → Except Value (List D) → Prop} {fs : List D} (c : CalI X.prog X.w X.K X.mg X.base C x k ps ns R) (hr : Room j X.A) (hk : k + 1 ≤ j) (hg : Gl X x) (ha : PA X (e :: es) (tAs X.K δ μ ds)) (hR : R ds (.ok fs))
    (hdb : (x == ("__debug__" : Str)) = false := by decide) (he : starEach (e :: es) X.env = (false, eval e X.env) :: starEach es X.env := by rfl) (hpl : (backTo pos (starEach es X.env)).any (·.1) = false := by rfl) :
    PE X (.Call (.Name x p) (e :: es) [] pos) (tD X.K δ μ (.ins C ns fs)) := by
  obtain ⟨f, fd, F, M, hb⟩ := c.ex
  refine PE.mono (pe_make M F (hr.mono hk) hg c.mg_ hb .nil passL ha hdb he hpl) fun σ H Q ⟨F, S, w⟩ => ⟨F, S, fun vs F1 H1 g r => fun y dx h1 h2 h3 => ?_⟩
  exact ⟨y, dx, vs, H1, F1, ds, .ok fs, by rw [List.append_nil], h1, h2, h3, rfl, g.fh, r, hR, fun F2 H2 g2 r2 => ⟨rfl, w _ F2 H2 (g.trans g2) r2⟩⟩
/-! the same where the call raises: what leaves is wished for by E -/
def tX (K : PySem.W.Frag) (E : XK) (δ : De) (μ : Me) (c : Value) : TE := fun σ H Q => ∃ F, SE K δ μ σ F H ∧ ∀ F' H', Gr F H F' H' → E c none H'
theorem px_call {E : XK} {c' : Value} (c : Cal X.prog X.w X.K X.mg X.base x k ps R) (hx : Passes (L2.CX X.prog X.w) X E) (hr : Room j X.A) (hk : k ≤ j) (hg : Gl X x) (ha : PA X (e :: es) (tAs X.K δ μ ds)) (hR : R ds (.error c'))
    (hdb : (x == ("__debug__" : Str)) = false := by decide) (he : starEach (e :: es) X.env = (false, eval e X.env) :: starEach es X.env := by rfl) (hpl : (backTo pos (starEach es X.env)).any (·.1) = false := by rfl) :
    PE X (.Call (.Name x p) (e :: es) [] pos) (tX X.K E δ μ c') := by
  obtain ⟨f, fd, F, hm, hkp, hb⟩ := c.ex
  refine PE.mono (pe_call F (hr.mono hk) hg hm hkp hb .nil hx ha hdb he hpl) fun σ H Q ⟨F, S, w⟩ => ⟨F, S, fun vs F1 H1 g r => ?_⟩
  exact ⟨F1, ds, .error c', g.fh, by rw [List.append_nil]; exact r, hR, fun F2 H2 g2 => w F2 H2 (g.trans g2)⟩
theorem px_meth {E : XK} {c' : Value} {dso : List D} (c : CalM X.prog X.w X.K X.mg X.base C m k ps R) (hx : Passes (L2.CX X.prog X.w) X E) (ho : PE X o (tD X.K δ μ (.ins C ns dso))) (hr : Room j X.A) (hk : k ≤ j) (ha : PA X (e :: es) (tAs X.K δ μ ds)) (hn : ns.contains m = false)
    (hR : R (.ins C ns dso :: ds) (.error c')) {pl : Sem Bool}
    (hst : starEach (e :: es) X.env = (false, eval e X.env) :: starEach es X.env := by rfl) (hpl : (backTo pos (starEach es X.env)).any (·.1) = false := by rfl)
    (ht : eval (.Call (.Attribute o m apos) (e :: es) [] pos) X.env = (do
      let ov ← eval o X.env
      standAt apos.atName
      let (f, first) ← holding [ov] (getMethod ov m pl)
      callWith pos f first (backTo pos (starEach (e :: es) X.env)) (backToKw pos (keywordEach [] X.env))) := by rfl) :
    PE X (.Call (.Attribute o m apos) (e :: es) [] pos) (tX X.K E δ μ c') := by
  obtain ⟨f, fd, F, hm, hb⟩ := c.ex
  refine PE.mono (pe_meth (pl := pl) ho c.cl hm F (hr.mono hk) hb .nil hx ha hst hpl ht) fun σ H Q ⟨F, S, w⟩ => ⟨F, S, fun v F1 H1 g r => ?_⟩
  obtain ⟨q, dx, vs, e1, hp, rv, hl⟩ := id r
  refine ⟨q, dx, _, e1, g.fh _ _ hp, zip_none hn, F1, S.mono g, fun us F2 H2 g2 r2 => ?_⟩
  refine ⟨F2, _, .error c', g2.fh, ?_, hR, fun F3 H3 g3 => w F3 H3 ((g.trans g2).trans g3)⟩
  rw [List.append_nil]
  exact ⟨_, _, rfl, Rep.mono g2.ff r, r2⟩
end
end Bl
namespace Bl
open PySem L2

/-! statements -/
structure SR (K : PySem.W.Frag) (F0 H0 : Hp) (δ : De) (μ : Me) (σ : St) (F H : Hp) : Prop where
  se : SE K δ μ σ F H
  gr : Gr F0 H0 F H
  fr : ∀ m ∈ μ, H0 m.1 = none
inductive Oc where
  | nx (δ : De) (μ : Me) | rt (d : D) | ex (c : Value) | rn (ds : List D) | nxa (f : Addr → De × Me)
def End (K : PySem.W.Frag) (E : XK) (F0 H0 : Hp) : Oc → Ends → Prop
  | .nx δ μ, Dn => ∀ σ F H, SR K F0 H0 δ μ σ F H → Dn.nx σ H
  | .rt d, Dn => ∀ v F H, Gr F0 H0 F H → Rep K F d v → Dn.rt v H
  | .ex c, _ => ∀ F H, Gr F0 H0 F H → E c none H
  | .nxa f, Dn => ∀ l σ F H, SR K F0 H0 (f l).1 (f l).2 σ F H → Dn.nx σ H
  | .rn ds, Dn => ∀ l vs F H, Gr F0 H0 F H → H0 l = none → F l = none → H l = some (.lst vs) → RepL K F ds vs → Dn.rt (.ref l) H
def tS (K : PySem.W.Frag) (E : XK) (δ : De) (μ : Me) (o : Oc) : TS := fun Dn σ H => ∃ F0 H0 F, SR K F0 H0 δ μ σ F H ∧ End K E F0 H0 o Dn
def Stop : Oc → Prop
  | .nx _ _ => False
  | .nxa _ => False
  | _ => True

section
variable {X : Cx} {K : PySem.W.Frag} {E : XK} {δ δ' : De} {μ μ' : Me} {o : Oc} {st : Stmt} {rest body : List Stmt} {e c tgt : Expr} {pos : Pos} {d : D}
theorem SR.up {F0 H0 F H F' H' : Hp} {σ : St} (s : SR K F0 H0 δ μ σ F H) (g : Gr F H F' H') : SR K F0 H0 δ μ σ F' H' := ⟨s.se.mono g, s.gr.trans g, s.fr⟩
theorem Gr.join {F0 H0 F H F' H' : Hp} (a : Gr F0 H0 F H) (b : Gr F H0 F' H') : Gr F0 H0 F' H' := ⟨a.ff.trans b.ff, b.fh, b.hh, fun c o h n => b.nf c o h (a.nf c o h n)⟩
theorem SR.re {F0 H0 F H : Hp} {σ : St} (s : SR K F0 H0 δ μ σ F H) : SR K F H0 δ μ σ F H := ⟨s.se, ⟨Ex.refl _, s.se.fh, s.gr.hh, fun _ _ _ n => n⟩, s.fr⟩
theorem SR.back {F0 H0 F H F' H' : Hp} {σ : St} (a : Gr F0 H0 F H) (s : SR K F H0 δ μ σ F' H') : SR K F0 H0 δ μ σ F' H' := ⟨s.se, a.join s.gr, s.fr⟩
theorem pss_nilD : PSs X [] (tS K E δ μ (.nx δ μ)) := PSs.mono pss_nil fun Dn σ H ⟨F0, H0, F, s, k⟩ => k σ F H s
theorem pss_seq (h1 : PS X st (tS K E δ μ (.nx δ' μ'))) (h2 : PSs X rest (tS K E δ' μ' o)) : PSs X (st :: rest) (tS K E δ μ o) :=
  PSs.mono (pss_cons h1 h2) fun Dn σ H ⟨F0, H0, F, s, k⟩ => ⟨F0, H0, F, s, fun σ' F' H' s' => ⟨F0, H0, F', s', k⟩⟩
theorem pss_end (h1 : PS X st (tS K E δ μ o)) (hs : Stop o) : PSs X (st :: rest) (tS K E δ μ o) :=
  PSs.mono (pss_cons h1 pss_never) fun Dn σ H ⟨F0, H0, F, s, k⟩ => ⟨F0, H0, F, s, by
    cases o with
    | nx _ _ => exact hs.elim
    | nxa _ => exact hs.elim
    | rt d => exact k
    | rn d => exact k
    | ex c => exact k⟩
theorem pss_is {o' : Oc} (h : PSs X body (tS K E δ μ o')) (q : o' = o) : PSs X body (tS K E δ μ o) := q ▸ h
theorem ps_is {o' : Oc} (h : PS X st (tS K E δ μ o')) (q : o' = o) : PS X st (tS K E δ μ o) := q ▸ h
/-- slots forgotten -/
inductive Wk : De → De → Prop where
  | nil : Wk [] []
  | same {a : Option D} {r t : De} : Wk r t → Wk (a :: r) (a :: t)
  | drop {a : Option D} {r t : De} : Wk r t → Wk (a :: r) (none :: t)
theorem Wk.refl : ∀ δ : De, Wk δ δ
  | [] => .nil
  | _ :: r => .same (Wk.refl r)
theorem Wk.len {r t : De} (h : Wk r t) : r.length = t.length := by
  induction h with
  | nil => rfl
  | same _ ih => simp [ih]
  | drop _ ih => simp [ih]
theorem Wk.at_ {r t : De} (h : Wk r t) : ∀ (i : Nat) (d : D), t[i]? = some (some d) → r[i]? = some (some d) := by
  induction h with
  | nil => intro i d q; simp at q
  | same _ ih =>
    intro i d q
    cases i with
    | zero => exact q
    | succ i => exact ih i d (by simpa using q)
  | drop _ ih =>
    intro i d q
    cases i with
    | zero => simp at q
    | succ i => exact ih i d (by simpa using q)
theorem EnvR.weak {F : Hp} {σ : St} (w : Wk δ δ') (h : EnvR K F σ δ) : EnvR K F σ δ' := ⟨h.len.trans w.len, fun i d q => h.at_ i d (w.at_ i d q)⟩
theorem SE.weak {F H : Hp} {σ : St} (w : Wk δ δ') (h : SE K δ μ σ F H) : SE K δ' μ σ F H := ⟨h.fh, h.env.weak w, h.mem⟩
theorem SR.weak {F0 H0 F H : Hp} {σ : St} (w : Wk δ δ') (h : SR K F0 H0 δ μ σ F H) : SR K F0 H0 δ' μ σ F H := ⟨h.se.weak w, h.gr, h.fr⟩
theorem pss_wk {δ2 : De} (h : PSs X body (tS K E δ μ (.nx δ' μ'))) (w : Wk δ' δ2) : PSs X body (tS K E δ μ (.nx δ2 μ')) :=
  PSs.mono h fun Dn σ H ⟨F0, H0, F, s, k⟩ => ⟨F0, H0, F, s, fun σ' F' H' s' => k σ' F' H' (s'.weak w)⟩
theorem pss_wk0 {δ2 : De} (w : Wk δ δ2) (h : PSs X body (tS K E δ2 μ o)) : PSs X body (tS K E δ μ o) :=
  PSs.mono h fun Dn σ H ⟨F0, H0, F, s, k⟩ => ⟨F0, H0, F, s.weak w, k⟩

theorem EnvR.set {F : Hp} {σ : St} {i : Nat} {v : V} (h : EnvR K F σ δ) (r : Rep K F d v) : EnvR K F (σ.set i (some v)) (δ.set i (some d)) := by
  refine ⟨by rw [List.length_set, List.length_set]; exact h.len, fun j x q => ?_⟩
  by_cases z : i = j
  · subst z
    have hi : i < δ.length := by
      have := (List.getElem?_eq_some_iff.mp q).1
      rwa [List.length_set] at this
    rw [List.getElem?_set_self hi] at q
    have e : d = x := Option.some.inj (Option.some.inj q)
    subst e
    exact ⟨v, List.getElem?_set_self (by rw [h.len]; exact hi), r⟩
  · rw [List.getElem?_set_ne z] at q
    obtain ⟨u, h1, h2⟩ := h.at_ j x q
    exact ⟨u, by rw [List.getElem?_set_ne z]; exact h1, h2⟩
theorem psd_set (i : Nat) {x : Str} {pos' : Pos} (hN : X.N.Nodup) (hi : X.N[i]? = some x) (hx : Loc X.env.scope x) (he : PE X e (tD K δ μ d)) (hs : swapsWith e (some (.Name x pos')) pos.line X.env = pure false)
    (hf : X.fn x = true ∨ X.env.scope.names.lookup x = some .local) : PS X (.Assign [.Name x pos'] e pos) (tS K E δ μ (.nx (δ.set i (some d)) μ)) :=
  PS.mono (ps_set (i := i) hN hi hx he hs hf) fun Dn σ H ⟨F0, H0, F, s, k⟩ => ⟨F, s.se, fun v F1 H1 g r => by
    have s1 := s.up g
    exact k _ F1 H1 ⟨⟨s1.se.fh, s1.se.env.set r, s1.se.mem⟩, s1.gr, s1.fr⟩⟩
theorem psd_expr (he : PE X e (tD K δ μ d)) (hs : swapsWith e none pos.line X.env = pure false) : PS X (.Expr e pos) (tS K E δ μ (.nx δ μ)) :=
  PS.mono (ps_expr he hs) fun Dn σ H ⟨F0, H0, F, s, k⟩ => ⟨F, s.se, fun v F1 H1 g r => k σ F1 H1 (s.up g)⟩
theorem psd_ret (he : PE X e (tD K δ μ d)) : PS X (.Return (some e) pos) (tS K E δ μ (.rt d)) :=
  PS.mono (ps_ret he) fun Dn σ H ⟨F0, H0, F, s, k⟩ => ⟨F, s.se, fun v F1 H1 g r => k v F1 H1 (s.gr.trans g) r⟩
theorem psd_pass : PS X (.Pass pos) (tS K E δ μ (.nx δ μ)) := PS.mono ps_pass fun Dn σ H ⟨F0, H0, F, s, k⟩ => k σ F H s
theorem psx_set (i : Nat) {cv : Value} {x : Str} {pos' : Pos} (hN : X.N.Nodup) (hi : X.N[i]? = some x) (hx : Loc X.env.scope x) (he : PE X e (tX K E δ μ cv)) (hs : swapsWith e (some (.Name x pos')) pos.line X.env = pure false)
    (hf : X.fn x = true ∨ X.env.scope.names.lookup x = some .local) : PS X (.Assign [.Name x pos'] e pos) (tS K E δ μ (.ex cv)) :=
  PS.mono (ps_set (i := i) hN hi hx he hs hf) fun Dn σ H ⟨F0, H0, F, s, k⟩ => ⟨F, s.se, fun F1 H1 g => k F1 H1 (s.gr.trans g)⟩
theorem psx_ret {cv : Value} (he : PE X e (tX K E δ μ cv)) : PS X (.Return (some e) pos) (tS K E δ μ (.ex cv)) :=
  PS.mono (ps_ret he) fun Dn σ H ⟨F0, H0, F, s, k⟩ => ⟨F, s.se, fun F1 H1 g => k F1 H1 (s.gr.trans g)⟩
theorem psx_expr {cv : Value} (he : PE X e (tX K E δ μ cv)) (hs : swapsWith e none pos.line X.env = pure false) : PS X (.Expr e pos) (tS K E δ μ (.ex cv)) :=
  PS.mono (ps_expr he hs) fun Dn σ H ⟨F0, H0, F, s, k⟩ => ⟨F, s.se, fun F1 H1 g => k F1 H1 (s.gr.trans g)⟩
theorem psd_raise {C : Addr} (hc : X.calm = true) (tk : Takes X (fun cls dd _ H => E cls dd H)) (he : PMk X e (fun _ H Q => Q (.ref C) none H)) : PS X (.Raise (some e) none pos) (tS K E δ μ (.ex (.ref C))) :=
  PS.mono (ps_raise hc tk he) fun Dn σ H ⟨F0, H0, F, s, k⟩ => k F H s.gr

/-! if -/
variable {p : Prop} {as bs : List Stmt}
theorem psd_ifT (hc : PT X c (tP K δ μ p)) (hp : p) (h : PSs X as (tS K E δ μ o)) : PS X (.If c as bs pos) (tS K E δ μ o) :=
  PS.mono (ps_if hc h pss_never) fun Dn σ H ⟨F0, H0, F, s, k⟩ => ⟨F, s.se, fun b F1 H1 g r => by
    have e : b = true := r.mpr hp
    subst e
    exact iteT ⟨F0, H0, F1, s.up g, k⟩⟩
theorem psd_ifF (hc : PT X c (tP K δ μ p)) (hp : ¬ p) (h : PSs X bs (tS K E δ μ o)) : PS X (.If c as bs pos) (tS K E δ μ o) :=
  PS.mono (ps_if hc pss_never h) fun Dn σ H ⟨F0, H0, F, s, k⟩ => ⟨F, s.se, fun b F1 H1 g r => by
    have e : b = false := by
      cases b with
      | false => rfl
      | true => exact absurd (r.mp rfl) hp
    subst e
    exact iteF ⟨F0, H0, F1, s.up g, k⟩⟩
/-- how a branch goes on: it stops, or the rest follows -/
inductive SQ (X : Cx) (K : PySem.W.Frag) (E : XK) (as rest : List Stmt) (δ : De) (μ : Me) (o : Oc) : Prop where
  | st (h : PSs X as (tS K E δ μ o)) (hs : Stop o) : SQ X K E as rest δ μ o
  | go {δ' : De} {μ' : Me} (h : PSs X as (tS K E δ μ (.nx δ' μ'))) (h2 : PSs X rest (tS K E δ' μ' o)) : SQ X K E as rest δ μ o
theorem SQ.nil (h2 : PSs X rest (tS K E δ μ o)) : SQ X K E [] rest δ μ o := .go pss_nilD h2
theorem pss_if (hc : PT X c (tP K δ μ p)) (h1 : p → SQ X K E as rest δ μ o) (h2 : ¬ p → SQ X K E bs rest δ μ o) : PSs X (.If c as bs pos :: rest) (tS K E δ μ o) := by
  by_cases hp : p
  · cases h1 hp with
    | st h hs => exact pss_end (psd_ifT hc hp h) hs
    | go h h2 => exact pss_seq (psd_ifT hc hp h) h2
  · cases h2 hp with
    | st h hs => exact pss_end (psd_ifF hc hp h) hs
    | go h h2 => exact pss_seq (psd_ifF hc hp h) h2
/-- an if that only stores into one slot: one way -/
theorem pss_ifset {i : Nat} {d1 d2 : D} (hc : PT X c (tP K δ μ p)) (h1 : p → PSs X as (tS K E δ μ (.nx (δ.set i (some d1)) μ))) (hd : δ[i]? = some (some d2)) (dec : Decidable p)
    (h : PSs X rest (tS K E (δ.set i (some (if p then d1 else d2))) μ o)) : PSs X (.If c as [] pos :: rest) (tS K E δ μ o) := by
  by_cases hp : p
  · rw [if_pos hp] at h
    exact pss_seq (psd_ifT hc hp (h1 hp)) h
  · rw [if_neg hp] at h
    have e : δ.set i (some d2) = δ := by
      apply List.ext_getElem?
      intro j
      by_cases z : i = j
      · subst z
        rw [hd, List.getElem?_set_self (List.getElem?_eq_some_iff.mp hd).1]
      · rw [List.getElem?_set_ne z]
    rw [e] at h
    exact pss_seq (psd_ifF hc hp pss_nilD) h

/-! targets -/
def wipeD (δ : De) : List Nat → De
  | [] => δ
  | v :: vs => (wipeD δ vs).set v none
theorem EnvR.forget {F : Hp} {σ : St} (h : EnvR K F σ δ) (i : Nat) : EnvR K F (σ.set i none) (δ.set i none) := by
  refine ⟨by rw [List.length_set, List.length_set]; exact h.len, fun j x q => ?_⟩
  by_cases z : i = j
  · subst z
    have hi : i < δ.length := by
      have := (List.getElem?_eq_some_iff.mp q).1
      rwa [List.length_set] at this
    rw [List.getElem?_set_self hi] at q
    cases Option.some.inj q
  · rw [List.getElem?_set_ne z] at q
    obtain ⟨u, h1, h2⟩ := h.at_ j x q
    exact ⟨u, by rw [List.getElem?_set_ne z]; exact h1, h2⟩
theorem EnvR.wiped {F : Hp} {σ : St} (h : EnvR K F σ δ) : ∀ js : List Nat, EnvR K F (wipe σ js) (wipeD δ js)
  | [] => h
  | j :: js => (EnvR.wiped h js).forget j
theorem wipe_set {a : Option V} {i : Nat} : ∀ {js : List Nat} {σ : St}, i ∈ js → wipe (σ.set i a) js = wipe σ js
  | [], σ, h => by simp at h
  | j :: js, σ, h => by
    show (wipe (σ.set i a) js).set j none = (wipe σ js).set j none
    by_cases z : i ∈ js
    · rw [wipe_set z]
    · have e : i = j := by
        rcases List.mem_cons.mp h with h | h
        · exact h
        · exact absurd h z
      subst e
      have key : ∀ (ks : List Nat) (τ : St), (wipe (τ.set i a) ks).set i none = (wipe τ ks).set i none := by
        intro ks
        induction ks with
        | nil => intro τ; exact List.set_set _ ..
        | cons k ks ih =>
          intro τ
          show ((wipe (τ.set i a) ks).set k none).set i none = ((wipe τ ks).set k none).set i none
          by_cases q : k = i
          · subst q
            rw [ih τ]
          · rw [List.set_comm _ _ q, List.set_comm _ _ q, ih τ]
      exact key js σ
def tG (K : PySem.W.Frag) (js : List Nat) (δ : De) (μ : Me) (x : D) (δ' : De) : TG := fun v σ H Q => ∃ F, SE K δ μ σ F H ∧ Rep K F x v ∧ ∀ σ', EnvR K F σ' δ' → wipe σ' js = wipe σ js → Q σ' H
def tGs (K : PySem.W.Frag) (js : List Nat) (δ : De) (μ : Me) (xs : List D) (δ' : De) : TGs := fun vs σ H Q => ∃ F, SE K δ μ σ F H ∧ RepL K F xs vs ∧ ∀ σ', EnvR K F σ' δ' → wipe σ' js = wipe σ js → Q σ' H
theorem PG.mono {X : Cx} {e : Expr} {t t' : TG} (h : PG X e t) (m : ∀ v σ H Q, t' v σ H Q → t v σ H Q) : PG X e t' := ⟨fun pins s σ H v u Q I r w => h.run pins s σ H v u Q I r (m v σ H Q w)⟩
theorem PGs.mono {X : Cx} {e : List Expr} {t t' : TGs} (h : PGs X e t) (m : ∀ v σ H Q, t' v σ H Q → t v σ H Q) : PGs X e t' := ⟨fun pins s σ H v u Q I r w => h.run pins s σ H v u Q I r (m v σ H Q w)⟩
theorem pgd_name (i : Nat) {js : List Nat} {x : Str} (hN : X.N.Nodup) (hi : X.N[i]? = some x) (hx : Loc X.env.scope x) (hf : X.fn x = true ∨ X.env.scope.names.lookup x = some .local) (hj : i ∈ js) : PG X (.Name x pos) (tG K js δ μ d (δ.set i (some d))) :=
  PG.mono (pg_name (i := i) hN hi hx hf) fun v σ H Q ⟨F, S, r, k⟩ => k _ (S.env.set r) (wipe_set hj)
theorem pgsd_nil {js : List Nat} : PGs X [] (tGs K js δ μ [] δ) := PGs.mono pgs_nil fun vs σ H Q ⟨F, S, r, k⟩ => ⟨r, k σ S.env rfl⟩
theorem pgsd_cons {js : List Nat} {es : List Expr} {δ1 δ2 : De} {x : D} {xs : List D} (h1 : PG X e (tG K js δ μ x δ1)) (h2 : PGs X es (tGs K js δ1 μ xs δ2))
    (hs : (assignEach (e :: es) X.env).map (·.2) = assign e X.env :: (assignEach es X.env).map (·.2) := by rfl) : PGs X (e :: es) (tGs K js δ μ (x :: xs) δ2) :=
  PGs.mono (pgs_cons h1 h2 hs) fun vs σ H Q ⟨F, S, r, k⟩ => by
    obtain ⟨v, t, e1, r1, r2⟩ := r
    exact ⟨v, t, e1, F, S, r1, fun σ' en w1 => ⟨F, ⟨S.fh, en, S.mem⟩, r2, fun σ2 en2 w2 => k σ2 en2 (w2.trans w1)⟩⟩
theorem pgd_tup {js : List Nat} {es : List Expr} {kk : Nat} {xs : List D} (hc : X.calm = true) (h : PGs X es (tGs X.K js δ μ xs δ'))
    (hn : (assignEach es X.env).length = xs.length) (hst : (assignEach es X.env).findIdx? (·.1) = none := by rfl) : PG X (.Tuple es kk pos) (tG X.K js δ μ (.tup xs) δ') :=
  PG.mono (pg_tup hc h hn hst) fun v σ H Q ⟨F, S, r, k⟩ => by
    obtain ⟨q, vs, e1, hq, rv⟩ := r
    exact ⟨q, vs, e1, SqT.of (S.fh _ _ hq), rv.length, F, S, rv, k⟩
/-- a, b, .. = e -/
theorem psd_unpack {js : List Nat} {x : D} (he : PE X e (tD K δ μ x)) (hg : PG X tgt (tG K js δ μ x δ')) (hs : swapsWithSole [tgt] e pos.line X.env = pure false := by rfl) (hw : swappedStores [tgt] e X.env = pure none := by rfl)
    (h1 : (assignEach [tgt] X.env).map (·.2) = [assign tgt X.env] := by rfl) : PS X (.Assign [tgt] e pos) (tS K E δ μ (.nx δ' μ)) :=
  PS.mono (ps_asg he hg hs hw h1) fun Dn σ H ⟨F0, H0, F, s, k⟩ => ⟨F, s.se, fun v F1 H1 g r => ⟨F1, (s.up g).se, r, fun σ' en w =>
    k σ' F1 H1 ⟨⟨(s.up g).se.fh, en, (s.up g).se.mem⟩, (s.up g).gr, s.fr⟩⟩⟩
theorem psx_unpack {cv : Value} {g : TG} (he : PE X e (tX K E δ μ cv)) (hg : PG X tgt g) (hs : swapsWithSole [tgt] e pos.line X.env = pure false := by rfl) (hw : swappedStores [tgt] e X.env = pure none := by rfl)
    (h1 : (assignEach [tgt] X.env).map (·.2) = [assign tgt X.env] := by rfl) : PS X (.Assign [tgt] e pos) (tS K E δ μ (.ex cv)) :=
  PS.mono (ps_asg he hg hs hw h1) fun Dn σ H ⟨F0, H0, F, s, k⟩ => ⟨F, s.se, fun F1 H1 g => k F1 H1 (s.gr.trans g)⟩
/-- a, b = x, y (written) -/
theorem psd_par (i j : Nat) {d1 d2 : D} {x y : Str} {a b : Expr} {px py pt : Pos} {kt k2 pt2} (hc : X.calm = true) (hN : X.N.Nodup) (hi : X.N[i]? = some x) (hj : X.N[j]? = some y) (hij : i ≠ j)
    (hx : X.env.scope.names.lookup x = some .local) (hy : X.env.scope.names.lookup y = some .local) (ha : PA X [a, b] (tAs K δ μ [d1, d2]))
    (hw : swappedStores [.Tuple [.Name x px, .Name y py] kt pt] (.Tuple [a, b] k2 pt2) X.env = pure (some [x, y]))
    (hs : swapsWithSole [.Tuple [.Name x px, .Name y py] kt pt] (.Tuple [a, b] k2 pt2) pos.line X.env = pure false := by rfl) :
    PS X (.Assign [.Tuple [.Name x px, .Name y py] kt pt] (.Tuple [a, b] k2 pt2) pos) (tS K E δ μ (.nx ((δ.set i (some d1)).set j (some d2)) μ)) :=
  PS.mono (ps_par hc hN hi hj hij hx hy ha hw hs) fun Dn σ H ⟨F0, H0, F, s, k⟩ => ⟨F, s.se, fun vs F1 H1 g r => by
    obtain ⟨v, t, e1, r1, u, t2, e2, r2, e3⟩ := r
    have e4 : t2 = [] := e3
    subst e4; subst e2; subst e1
    have s1 := s.up g
    exact ⟨v, u, rfl, k _ F1 H1 ⟨⟨s1.se.fh, (s1.se.env.set r1).set r2, s1.se.mem⟩, s1.gr, s1.fr⟩⟩⟩
/-- x += e, x -= e -/
theorem psd_aug (i : Nat) {f : Int → Int → Int} {op : Operator} {x : Str} {pos' : Pos} {n z : Int} (hN : X.N.Nodup) (hi : X.N[i]? = some x) (hx : Loc X.env.scope x) (ho : PIp X op (ipI f)) (hd : δ[i]? = some (some (.int z))) (he : PE X e (tD K δ μ (.int n)))
    (hf : X.fn x = true ∨ X.env.scope.names.lookup x = some .local) : PS X (.AugAssign (.Name x pos') op e pos) (tS K E δ μ (.nx (δ.set i (some (.int (f z n)))) μ)) :=
  PS.mono (ps_aug (i := i) hN hi hx he ho hf) fun Dn σ H ⟨F0, H0, F, s, k⟩ => by
    obtain ⟨v, h1, h2⟩ := s.se.env.at_ i _ hd
    refine ⟨v, h1, F, s.se, fun u F1 H1 g r => ⟨z, n, h2, r, ?_⟩⟩
    have s1 := s.up g
    exact k _ F1 H1 ⟨⟨s1.se.fh, EnvR.set (d := .int (f z n)) s1.se.env rfl, s1.se.mem⟩, s1.gr, s1.fr⟩

/-! what is walked -/
structure DW (K : PySem.W.Frag) (J : It) (F : Hp) (ds : List D) : Prop where
  ex : ∃ (G : Hp → Prop) (Y : Nat → Hp → V → Hp → Prop), Walk J ds.length G Y ∧ (∀ F' H', Ex F F' → Ex F' H' → G H') ∧
    ∀ i H x H', i < ds.length → Y i H x H' → ∀ F', Ex F F' → Ex F' H → ∃ F'' d, ds[i]? = some d ∧ Gr F' H F'' H' ∧ Rep K F'' d x
def tI (K : PySem.W.Frag) (δ : De) (μ : Me) (ds : List D) : TI := fun σ H R => ∃ F, SE K δ μ σ F H ∧ ∀ J F' H', Gr F H F' H' → DW K J F' ds → R J H'
theorem PI.mono {X : Cx} {tg e : Expr} {t t' : TI} (h : PI X tg e t) (m : ∀ σ H R, t' σ H R → t σ H R) : PI X tg e t' := ⟨fun pins s σ H R I w => h.run pins s σ H R I (m σ H R w)⟩
theorem pid_list {ds : List D} (he : PE X e (tD X.K δ μ d)) (hq : seqL d = some ds) : PI X tgt e (tI X.K δ μ ds) :=
  PI.mono (pi_list he) fun σ H R ⟨F, S, k⟩ => ⟨F, S, fun v F1 H1 g r => by
    obtain ⟨p, vs, e1, rv, hs⟩ := rep_list r hq
    refine ⟨p, e1, ⟨vs, g.fh.sql hs⟩, k _ F1 H1 g ⟨_, _, rv.length ▸ walk_list (K := X.K) (a := p) (xs := vs), fun F' H' e2 e3 => e3.sql (e2.sql hs), fun i H x H' hi y F' e2 e3 => ?_⟩⟩
    obtain ⟨rfl, hx⟩ := y
    obtain ⟨dd, h1, h2⟩ := rv.back hx
    exact ⟨F', dd, h1, Gr.refl e3, Rep.mono e2 h2⟩⟩
theorem pid_tup {ds : List D} (he : PE X e (tD X.K δ μ (.tup ds))) : PI X tgt e (tI X.K δ μ ds) :=
  PI.mono (pi_tup he) fun σ H R ⟨F, S, k⟩ => ⟨F, S, fun v F1 H1 g r => by
    obtain ⟨p, vs, e1, hs, rv⟩ := r
    refine ⟨p, e1, ⟨vs, SqT.of (g.fh _ _ hs)⟩, k _ F1 H1 g ⟨_, _, rv.length ▸ walk_tup (K := X.K) (a := p) (xs := vs), fun F' H' e2 e3 => SqT.of (e3 _ _ (e2 _ _ hs)), fun i H x H' hi y F' e2 e3 => ?_⟩⟩
    obtain ⟨rfl, hx⟩ := y
    obtain ⟨dd, h1, h2⟩ := rv.back hx
    exact ⟨F', dd, h1, Gr.refl e3, Rep.mono e2 h2⟩⟩

/-! for -/
theorem PSs.union {ι : Type} {t : ι → TS} (h : ∀ i, PSs X body (t i)) : PSs X body (fun Dn σ H => ∃ i, t i Dn σ H) := ⟨fun pins s σ H Dn I ⟨i, w⟩ => (h i).run pins s σ H Dn I w⟩
theorem PG.union {ι : Type} {t : ι → TG} (h : ∀ i, PG X e (t i)) : PG X e (fun v σ H Q => ∃ i, t i v σ H Q) := ⟨fun pins s σ H v u Q I r ⟨i, w⟩ => (h i).run pins s σ H v u Q I r w⟩
theorem PE.union {ι : Type} {t : ι → TE} (h : ∀ i, PE X e (t i)) : PE X e (fun σ H Q => ∃ i, t i σ H Q) := ⟨fun pins s σ H Q I ⟨i, w⟩ => (h i).run pins s σ H Q I w⟩
theorem PT.union {ι : Type} {t : ι → TT} (h : ∀ i, PT X e (t i)) : PT X e (fun σ H Q => ∃ i, t i σ H Q) := ⟨fun pins s σ H Q I ⟨i, w⟩ => (h i).run pins s σ H Q I w⟩
/-- G, M: the names' and the open lists' data ahead of each turn; good: the turns that go on -/
theorem psd_for {ds : List D} {js : List Nat} (G : Nat → De) (M : Nat → Me) (good : Nat → Prop) (T : Nat → D → De) (hp : PassesOwn (model X.prog X.w) X.A X.env X.xe) (hc : X.calm = true) {iter : Expr} (hi : PI X tgt iter (tI X.K δ μ ds))
    (h0 : Wk δ (G 0)) (hM : M 0 = μ)
    (hg : ∀ i x, ds[i]? = some x → (∀ k, k < i → good k) → PG X tgt (tG X.K js (G i) (M i) x (T i x)))
    (hgo : ∀ i x, ds[i]? = some x → (∀ k, k < i → good k) → good i → PSs X body (tS X.K E (T i x) (M i) (.nx (G (i + 1)) (M (i + 1)))))
    (hst : ∀ i x, ds[i]? = some x → (∀ k, k < i → good k) → ¬ good i → PSs X body (tS X.K E (T i x) (M i) o) ∧ Stop o)
    (hend : (∀ k, k < ds.length → good k) → o = .nx (G ds.length) (M ds.length))
    (hs : ∀ x, foldedSetIterable iter X.env x = pure x := by intro _; rfl) : PS X (.For tgt iter body [] pos) (tS X.K E δ μ o) := by
  -- the turns by their number
  let ι := { q : Nat × D // ds[q.1]? = some q.2 ∧ ∀ k, k < q.1 → good k }
  let g : TG := fun v σ H Q => ∃ q : ι, tG X.K js (G q.1.1) (M q.1.1) q.1.2 (T q.1.1 q.1.2) v σ H Q
  let tb : TS := fun Dn σ H => ∃ q : ι, (good q.1.1 ∧ tS X.K E (T q.1.1 q.1.2) (M q.1.1) (.nx (G (q.1.1 + 1)) (M (q.1.1 + 1))) Dn σ H) ∨ (¬ good q.1.1 ∧ tS X.K E (T q.1.1 q.1.2) (M q.1.1) o Dn σ H)
  have hG : PG X tgt g := PG.union fun q => hg q.1.1 q.1.2 q.2.1 q.2.2
  have hB : PSs X body tb := PSs.union fun q => ⟨fun pins s σ H Dn I w => by
    rcases w with ⟨a, w⟩ | ⟨a, w⟩
    · exact (hgo q.1.1 q.1.2 q.2.1 q.2.2 a).run pins s σ H Dn I w
    · exact (hst q.1.1 q.1.2 q.2.1 q.2.2 a).1.run pins s σ H Dn I w⟩
  refine PS.mono (ps_for hp hc hi hG hB hs) fun Dn σ H ⟨F0, H0, F, s, k⟩ => ⟨F, s.se, fun J F1 H1 g1 dw => ?_⟩
  obtain ⟨Gw, Y, hw, hGw, hY⟩ := dw.ex
  have s1 := s.up g1
  refine for_it (g := g) (tb := tb) (D := Dn) hw (fun i σ H => ∃ F', Ex F1 F' ∧ (∀ k, k < i → good k) ∧ SR X.K F0 H0 (G i) (M i) σ F' H) ⟨F1, Ex.refl _, fun k hk => absurd hk (Nat.not_lt_zero k), by rw [hM]; exact s1.weak h0⟩ (fun i σ H _ ⟨F', e1, _, s2⟩ => hGw F' H e1 s2.se.fh) ?_ ?_
  · rintro i x σ2 H2 H3 hi2 ⟨F2, e2, gd, s2⟩ y
    obtain ⟨F3, dd, hd, g3, r3⟩ := hY i H2 x H3 hi2 y F2 e2 s2.se.fh
    have s3 := s2.up g3
    refine ⟨⟨(i, dd), hd, gd⟩, F3, s3.se, r3, fun σ4 en _ => ⟨⟨(i, dd), hd, gd⟩, ?_⟩⟩
    have s4 : SR X.K F3 H0 (T i dd) (M i) σ4 F3 H3 := SR.re (F0 := F0) ⟨⟨s3.se.fh, en, s3.se.mem⟩, s3.gr, s3.fr⟩
    by_cases hgd : good i
    · refine .inl ⟨hgd, F3, H0, F3, s4, fun σ5 F5 H5 s5 => ?_⟩
      exact ⟨F5, (e2.trans g3.ff).trans s5.gr.ff, fun k hk => by
          by_cases z : k = i
          · subst z; exact hgd
          · exact gd k (by omega), s5.back s3.gr⟩
    · have hst' := hst i dd hd gd hgd
      refine .inr ⟨hgd, F3, H0, F3, s4, ?_⟩
      revert k
      cases o with
      | nx _ _ => exact hst'.2.elim
      | nxa _ => exact hst'.2.elim
      | rt d => exact fun k v F H g r => k v F H (s3.gr.join g) r
      | rn d => exact fun k l vs F H g h0 hn hl r => k l vs F H (s3.gr.join g) h0 hn hl r
      | ex c => exact fun k F H g => k F H (s3.gr.join g)
  · rintro σ2 H2 ⟨F2, e2, gd, s2⟩
    have e := hend gd
    subst e
    exact k σ2 F2 H2 s2
end
end Bl
namespace Bl
open PySem L2
section
variable {X : Cx} {E : XK} {δ δ' : De} {μ μ' : Me} {o : Oc} {st : Stmt} {rest body : List Stmt} {a b c e tgt : Expr} {pos p pos' : Pos} {d : D}
/-! further walks -/
theorem mapR_get {f : Nat → D} {n i : Nat} (hi : i < n) : ((List.range n).map f)[i]? = some (f i) := by simp [hi]
theorem pid_range1 {j : Int} (hg : Gl X "range") (hm : X.mg "range" = none) (ha : PE X a (tD X.K δ μ (.int j))) (hj : -(2 ^ 62) ≤ j ∧ j < 2 ^ 62)
    (hs : starEach [a] X.env = [(false, eval a X.env)] := by rfl) : PI X tgt (.Call (.Name "range" p) [a] [] pos) (tI X.K δ μ ((List.range j.toNat).map fun i : Nat => D.int ((0 : Int) + (i : Int)))) :=
  PI.mono (pi_range1 hg hm (pas_cons ha pas_nil hs) hs) fun σ H R ⟨F, S, k⟩ => ⟨F, S, fun vs F1 H1 g r => by
    obtain ⟨v, t, e1, r1, e2⟩ := r
    have e3 : t = [] := e2
    have e4 : v = .int j := r1
    subst e3; subst e4; subst e1
    refine ⟨j, rfl, hj.1, hj.2, k _ F1 H1 g ⟨_, _, by rw [List.length_map, List.length_range]; exact walk_range (lo := 0) (n := j.toNat), fun _ _ _ _ => True.intro, fun i H x H' hi y F' e5 e6 => ?_⟩⟩
    obtain ⟨rfl, rfl⟩ := y
    rw [List.length_map, List.length_range] at hi
    exact ⟨F', _, mapR_get hi, Gr.refl e6, rfl⟩⟩
theorem pid_range3 {i0 j c0 : Int} {n : Nat} (hg : Gl X "range") (hm : X.mg "range" = none) (ha : PE X a (tD X.K δ μ (.int i0))) (hb : PE X b (tD X.K δ μ (.int j))) (hc : PE X c (tD X.K δ μ (.int c0))) (hn : RgC i0 j c0 n)
    (hs : starEach [a, b, c] X.env = (false, eval a X.env) :: starEach [b, c] X.env := by rfl) (hs2 : starEach [b, c] X.env = (false, eval b X.env) :: starEach [c] X.env := by rfl) (hs3 : starEach [c] X.env = (false, eval c X.env) :: starEach [] X.env := by rfl)
    (hpl : (backTo pos (starEach [b, c] X.env)).any (·.1) = false := by rfl) :
    PI X tgt (.Call (.Name "range" p) [a, b, c] [] pos) (tI X.K δ μ ((List.range n).map fun i : Nat => D.int (i0 + (i : Int) * c0))) :=
  PI.mono (pi_range3 hg hm (pas_cons ha (pas_cons hb (pas_cons hc pas_nil hs3) hs2) hs) hs hpl) fun σ H R ⟨F, S, k⟩ => ⟨F, S, fun vs F1 H1 g r => by
    obtain ⟨v, t, e1, r1, v2, t2, e2, r2, v3, t3, e3, r3, e4⟩ := r
    have e5 : t3 = [] := e4
    have z1 : v = .int i0 := r1
    have z2 : v2 = .int j := r2
    have z3 : v3 = .int c0 := r3
    subst e5; subst e3; subst e2; subst e1; subst z1; subst z2; subst z3
    refine ⟨i0, j, c0, n, rfl, hn, k _ F1 H1 g ⟨_, _, by rw [List.length_map, List.length_range]; exact walk_rangeC (lo := i0) (c := c0) (n := n), fun _ _ _ _ => True.intro, fun i H x H' hi y F' e5 e6 => ?_⟩⟩
    obtain ⟨rfl, rfl⟩ := y
    rw [List.length_map, List.length_range] at hi
    exact ⟨F', _, mapR_get hi, Gr.refl e6, rfl⟩⟩
theorem rep_pair {K : PySem.W.Frag} {F H : Hp} {T : Addr} {x y : V} {d1 d2 : D} (e : Ex F H) (hn : H T = none) (r1 : Rep K F d1 x) (r2 : Rep K F d2 y) :
    Gr F H (upd F T (.tup [x, y])) (upd H T (.tup [x, y])) ∧ Rep K (upd F T (.tup [x, y])) (.tup [d1, d2]) (.ref T) := by
  have g : Gr F H (upd F T (.tup [x, y])) (upd H T (.tup [x, y])) := Gr.new e hn
  exact ⟨g, T, [x, y], rfl, upd_same, x, [y], rfl, Rep.mono g.ff r1, y, [], rfl, Rep.mono g.ff r2, rfl⟩
def enumD (ds : List D) : List D := ds.mapIdx fun i d => .tup [.int (i : Nat), d]
theorem pid_enum {elts : List Expr} {kk : Nat} {tpos : Pos} {ds : List D} (hg : Gl X "enumerate") (hm : X.mg "enumerate" = none) (ha : PE X a (tD X.K δ μ d)) (hq : seqL d = some ds)
    (hs : starEach [a] X.env = [(false, eval a X.env)] := by rfl) : PI X (.Tuple elts kk tpos) (.Call (.Name "enumerate" p) [a] [] pos) (tI X.K δ μ (enumD ds)) :=
  PI.mono (pi_enum hg hm (pas_cons ha pas_nil hs) hs) fun σ H R ⟨F, S, k⟩ => ⟨F, S, fun vs F1 H1 g r => by
    obtain ⟨v, t, e1, r1, e2⟩ := r
    have e3 : t = [] := e2
    subst e3; subst e1
    obtain ⟨q, us, e4, rv, hl⟩ := rep_list r1 hq
    subst e4
    refine ⟨q, us, rfl, g.fh.sql hl, k _ F1 H1 g ⟨_, _, by unfold enumD; rw [List.length_mapIdx, ← rv.length]; exact walk_enum (K := X.K) (a := q) (xs := us), fun F' H' e5 e6 => e6.sql (e5.sql hl), fun i H x H' hi y F' e5 e6 => ?_⟩⟩
    obtain ⟨T, x1, y1, rfl, hn, rfl, h1, h2⟩ := y
    obtain ⟨dd, q1, q2⟩ := rv.back h2
    have e7 : V.int (i : Nat) = x1 := Option.some.inj h1
    subst e7
    obtain ⟨g2, r2⟩ := rep_pair (d1 := .int (i : Nat)) e6 hn rfl (Rep.mono e5 q2)
    exact ⟨_, .tup [.int (i : Nat), dd], by unfold enumD; rw [List.getElem?_mapIdx, q1]; rfl, g2, r2⟩⟩
def zipD (ds es : List D) : List D := (ds.zip es).map fun q => .tup [q.1, q.2]
theorem zipD_get {ds es : List D} {i : Nat} {x y : D} (h1 : ds[i]? = some x) (h2 : es[i]? = some y) : (zipD ds es)[i]? = some (.tup [x, y]) := by
  unfold zipD
  rw [List.getElem?_map, List.getElem?_zip_eq_some (z := (x, y)) |>.mpr ⟨h1, h2⟩]
  rfl
theorem zipD_length (ds es : List D) : (zipD ds es).length = min ds.length es.length := by
  unfold zipD
  rw [List.length_map, List.length_zip]
theorem zipD_back {ds es : List D} {i : Nat} {z : D} (h : (zipD ds es)[i]? = some z) : ∃ x y, ds[i]? = some x ∧ es[i]? = some y ∧ z = .tup [x, y] := by
  unfold zipD at h
  rw [List.getElem?_map] at h
  cases q : (ds.zip es)[i]? with
  | none => rw [q] at h; cases h
  | some w =>
    rw [q] at h
    obtain ⟨h1, h2⟩ := List.getElem?_zip_eq_some.mp q
    exact ⟨w.1, w.2, h1, h2, (Option.some.inj h).symm⟩
theorem pid_zip {elts : List Expr} {kk : Nat} {tpos : Pos} {d2 : D} {ds es : List D} (hg : Gl X "zip") (hm : X.mg "zip" = none) (ha : PE X a (tD X.K δ μ d)) (hb : PE X b (tD X.K δ μ d2)) (hq : seqL d = some ds) (hq2 : seqL d2 = some es)
    (hs : starEach [a, b] X.env = (false, eval a X.env) :: starEach [b] X.env := by rfl) (hs2 : starEach [b] X.env = (false, eval b X.env) :: starEach [] X.env := by rfl) (hpl : (backTo pos (starEach [b] X.env)).any (·.1) = false := by rfl) :
    PI X (.Tuple elts kk tpos) (.Call (.Name "zip" p) [a, b] [] pos) (tI X.K δ μ (zipD ds es)) :=
  PI.mono (pi_zip hg hm (pas_cons ha (pas_cons hb pas_nil hs2) hs) hs hpl) fun σ H R ⟨F, S, k⟩ => ⟨F, S, fun vs F1 H1 g r => by
    obtain ⟨v, t, e1, r1, v2, t2, e2, r2, e3⟩ := r
    have e5 : t2 = [] := e3
    subst e5; subst e2; subst e1
    obtain ⟨q, us, e4, rv, hl⟩ := rep_list r1 hq
    obtain ⟨q2, us2, e4', rv2, hl2⟩ := rep_list r2 hq2
    subst e4; subst e4'
    refine ⟨q, q2, us, us2, rfl, g.fh.sql hl, g.fh.sql hl2, k _ F1 H1 g ⟨_, _, walk_zip (K := X.K) (a := q) (b := q2) (xs := us) (ys := us2) (by rw [zipD_length, rv.length, rv2.length]), fun F' H' e5 e6 => ⟨e6.sql (e5.sql hl), e6.sql (e5.sql hl2)⟩, fun i H x H' hi y F' e5 e6 => ?_⟩⟩
    obtain ⟨T, x1, y1, rfl, hn, rfl, h1, h2⟩ := y
    obtain ⟨dd, q1, q2⟩ := rv.back h1
    obtain ⟨dd2, q3, q4⟩ := rv2.back h2
    obtain ⟨g2, r3⟩ := rep_pair e6 hn (Rep.mono e5 q2) (Rep.mono e5 q4)
    exact ⟨_, _, zipD_get q1 q3, g2, r3⟩⟩
theorem pid_rev {ds : List D} (hg : Gl X "reversed") (hm : X.mg "reversed" = none) (ha : PE X a (tD X.K δ μ d)) (hq : seqL d = some ds)
    (hs : starEach [a] X.env = [(false, eval a X.env)] := by rfl) : PI X tgt (.Call (.Name "reversed" p) [a] [] pos) (tI X.K δ μ ds.reverse) :=
  PI.mono (pi_reversed hg hm (pas_cons ha pas_nil hs) hs) fun σ H R ⟨F, S, k⟩ => ⟨F, S, fun vs F1 H1 g r => by
    obtain ⟨v, t, e1, r1, e2⟩ := r
    have e3 : t = [] := e2
    subst e3; subst e1
    obtain ⟨q, us, e4, rv, hl⟩ := rep_list r1 hq
    subst e4
    refine ⟨q, us, rfl, g.fh.sql hl, k _ F1 H1 g ⟨_, _, by rw [List.length_reverse, ← rv.length]; exact walk_rev (K := X.K) (a := q) (xs := us), fun F' H' e5 e6 => e6.sql (e5.sql hl), fun i H x H' hi y F' e5 e6 => ?_⟩⟩
    obtain ⟨rfl, h1⟩ := y
    obtain ⟨dd, q1, q2⟩ := rv.back h1
    rw [List.length_reverse] at hi
    exact ⟨F', dd, by rw [List.getElem?_reverse hi, ← rv.length]; exact q1, Gr.refl e6, Rep.mono e5 q2⟩⟩

/-! comprehensions -/
theorem tyes {σ : St} {H : Hp} {Q : Bool → Hp → Prop} (h : Q true H) : tYes σ H Q := h
theorem pn_lc {elt iter : Expr} {scope : Scope} {own : List (Str × Nat)} {ds : List D} (T : D → De) (f : D → D) (hc : X.calm = true) (hN : X.N.Nodup) (hi : PI X tgt iter (tI X.K δ μ ds)) (ok : BlkOk X.N X.env.scope scope own)
    (hg : ∀ x, x ∈ ds → ∀ (s : Shared) (H : Hp) (C : Addr) (cl : List (Str × Addr)) (fp : List Addr), PG (X.blk s H scope (compEnvC scope cl C X.env) fp) tgt (tG X.K (own.map (·.2)) (wipeD δ (own.map (·.2))) μ x (T x)))
    (he : ∀ x, x ∈ ds → ∀ (s : Shared) (H : Hp) (C : Addr) (cl : List (Str × Addr)) (fp : List Addr), PE (X.blk s H scope (compEnvC scope cl C X.env) fp) elt (tD X.K (T x) μ (f x)))
    (hl : ds.length ≤ 10000) (hs : ∀ x, foldedSetIterable iter X.env x = pure x := by intro _; rfl) : PE X (.ListComp elt [⟨tgt, iter, [], 0⟩] scope pos) (tN X.K δ μ (ds.map f)) := by
  let ι := { x : D // x ∈ ds }
  let g : TG := fun v σ H Q => ∃ q : ι, tG X.K (own.map (·.2)) (wipeD δ (own.map (·.2))) μ q.1 (T q.1) v σ H Q
  let te : TE := fun σ H Q => ∃ q : ι, tD X.K (T q.1) μ (f q.1) σ H Q
  refine PE.mono (pe_lc (g := g) (tt := tYes) (te := te) hc hN hi ok (fun s H C cl fp => PG.union fun q => hg q.1 q.2 s H C cl fp) (fun _ _ _ _ _ => pts_nil) (fun s H C cl fp => PE.union fun q => he q.1 q.2 s H C cl fp) hs) fun σ H Q ⟨F, S, k⟩ => ⟨F, S, fun J F1 H1 g1 dw => fun L hL => ?_⟩
  obtain ⟨Gw, Y, hw, hGw, hY⟩ := dw.ex
  have S1 := S.mono g1
  refine lc_it (g := g) (tt := tYes) (te := te) (σ := σ) (Qd := fun H => Q (.ref L) H) hw (fun i H2 => ∃ F2 acc, Gr F1 H1 F2 H2 ∧ F2 L = none ∧ H2 L = some (.lst acc) ∧ RepL X.K F2 ((ds.take i).map f) acc) ⟨F1, [], Gr.newH g1.fh hL, g1.fh.none hL, upd_same, rfl⟩ (fun i H2 _ ⟨F2, acc, g2, _⟩ => hGw F2 H2 g2.ff g2.fh) ?_ ?_
  · rintro i x H2 H3 hi2 ⟨F2, acc, g2, fl, hl2, ra⟩ y
    obtain ⟨F3, dd, hd, g3, r3⟩ := hY i H2 x H3 hi2 y F2 g2.ff g2.fh
    have hm : dd ∈ ds := List.mem_of_getElem? hd
    have S3 : SE X.K δ μ σ F3 H3 := S1.mono (g2.trans g3)
    refine ⟨⟨dd, hm⟩, F3, ⟨S3.fh, S3.env.wiped _, S3.mem⟩, r3, fun σ4 en wq => ⟨wq.trans (by
      have : ∀ (js : List Nat) (τ : St), wipe (wipe τ js) js = wipe τ js := by
        intro js
        induction js with
        | nil => intro τ; rfl
        | cons j js ih =>
          intro τ
          have key : ∀ (ks : List Nat) (ρ : St), (wipe (ρ.set j none) ks).set j none = (wipe ρ ks).set j none := by
            intro ks
            induction ks with
            | nil => intro ρ; exact List.set_set _ ..
            | cons k ks ih2 =>
              intro ρ
              show ((wipe (ρ.set j none) ks).set k none).set j none = ((wipe ρ ks).set k none).set j none
              by_cases q : k = j
              · subst q; rw [ih2 ρ]
              · rw [List.set_comm _ _ q, List.set_comm _ _ q, ih2 ρ]
          show (wipe ((wipe τ js).set j none) js).set j none = (wipe τ js).set j none
          rw [key js (wipe τ js), ih τ]
      exact this _ σ), ?_⟩⟩
    refine tyes ?_
    rw [if_pos rfl]
    refine ⟨⟨dd, hm⟩, F3, ⟨S3.fh, en, S3.mem⟩, fun v F4 H4 g4 r4 => ?_⟩
    have g5 := (g2.trans g3).trans g4
    have l4 : H4 L = some (.lst acc) := (g3.trans g4).hh _ _ hl2
    have fl4 : F4 L = none := (g3.trans g4).nf _ _ hl2 fl
    refine ⟨acc, l4, ?_, F4, acc ++ [v], ⟨g5.ff, fun b u q => ?_, fun b u q => ?_, g5.nf⟩, fl4, upd_same, ?_⟩
    · rw [ra.length, List.length_map, List.length_take]
      exact Nat.lt_of_lt_of_le (show min i ds.length < 10001 by omega) (by decide)
    · rw [upd_ne (ne_of_none q fl4)]; exact g5.fh _ _ q
    · rw [upd_ne (ne_of_none q hL)]; exact g5.hh _ _ q
    · have e : (ds.take (i + 1)).map f = (ds.take i).map f ++ [f dd] := by
        rw [List.take_add_one, hd, List.map_append]; rfl
      rw [e]
      exact (RepL.mono (g3.trans g4).ff ra).append (RepL.one r4)
  · rintro H2 ⟨F2, acc, g2, fl, hl2, ra⟩
    rw [List.take_length] at ra
    exact k L acc F2 H2 (g1.trans g2) (g1.hh.none hL) fl hl2 ra
/-- with a test -/
theorem pn_lcIf {elt iter ct : Expr} {scope : Scope} {own : List (Str × Nat)} {ds : List D} (T : D → De) (f : D → D) (q : D → Bool) (hc : X.calm = true) (hN : X.N.Nodup) (hi : PI X tgt iter (tI X.K δ μ ds)) (ok : BlkOk X.N X.env.scope scope own)
    (hg : ∀ x, x ∈ ds → ∀ (s : Shared) (H : Hp) (C : Addr) (cl : List (Str × Addr)) (fp : List Addr), PG (X.blk s H scope (compEnvC scope cl C X.env) fp) tgt (tG X.K (own.map (·.2)) (wipeD δ (own.map (·.2))) μ x (T x)))
    (ht : ∀ x, x ∈ ds → ∀ (s : Shared) (H : Hp) (C : Addr) (cl : List (Str × Addr)) (fp : List Addr), PT (X.blk s H scope (compEnvC scope cl C X.env) fp) ct (tP X.K (T x) μ (q x = true)))
    (he : ∀ x, x ∈ ds → q x = true → ∀ (s : Shared) (H : Hp) (C : Addr) (cl : List (Str × Addr)) (fp : List Addr), PE (X.blk s H scope (compEnvC scope cl C X.env) fp) elt (tD X.K (T x) μ (f x)))
    (hl : ds.length ≤ 10000) (hs : ∀ x, foldedSetIterable iter X.env x = pure x := by intro _; rfl) : PE X (.ListComp elt [⟨tgt, iter, [ct], 0⟩] scope pos) (tN X.K δ μ ((ds.filter q).map f)) := by
  let ι := { x : D // x ∈ ds }
  let ι2 := { x : D // x ∈ ds ∧ q x = true }
  let g : TG := fun v σ H Q => ∃ q : ι, tG X.K (own.map (·.2)) (wipeD δ (own.map (·.2))) μ q.1 (T q.1) v σ H Q
  let tt : TT := fun σ H Q => ∃ z : ι, tP X.K (T z.1) μ (q z.1 = true) σ H Q
  let te : TE := fun σ H Q => ∃ q : ι2, tD X.K (T q.1) μ (f q.1) σ H Q
  refine PE.mono (pe_lc (g := g) (tt := tt) (te := te) hc hN hi ok (fun s H C cl fp => PG.union fun q => hg q.1 q.2 s H C cl fp) (fun s H C cl fp => pts_one (PT.union fun q => ht q.1 q.2 s H C cl fp)) (fun s H C cl fp => PE.union fun q => he q.1 q.2.1 q.2.2 s H C cl fp) hs) fun σ H Q ⟨F, S, k⟩ => ⟨F, S, fun J F1 H1 g1 dw => fun L hL => ?_⟩
  obtain ⟨Gw, Y, hw, hGw, hY⟩ := dw.ex
  have S1 := S.mono g1
  refine lc_it (g := g) (tt := tt) (te := te) (σ := σ) (Qd := fun H => Q (.ref L) H) hw (fun i H2 => ∃ F2 acc, Gr F1 H1 F2 H2 ∧ F2 L = none ∧ H2 L = some (.lst acc) ∧ RepL X.K F2 (((ds.take i).filter q).map f) acc) ⟨F1, [], Gr.newH g1.fh hL, g1.fh.none hL, upd_same, rfl⟩ (fun i H2 _ ⟨F2, acc, g2, _⟩ => hGw F2 H2 g2.ff g2.fh) ?_ ?_
  · rintro i x H2 H3 hi2 ⟨F2, acc, g2, fl, hl2, ra⟩ y
    obtain ⟨F3, dd, hd, g3, r3⟩ := hY i H2 x H3 hi2 y F2 g2.ff g2.fh
    have hm : dd ∈ ds := List.mem_of_getElem? hd
    have S3 : SE X.K δ μ σ F3 H3 := S1.mono (g2.trans g3)
    have ww : ∀ (js : List Nat) (τ : St), wipe (wipe τ js) js = wipe τ js := by
      intro js
      induction js with
      | nil => intro τ; rfl
      | cons j js ih =>
        intro τ
        have key : ∀ (ks : List Nat) (ρ : St), (wipe (ρ.set j none) ks).set j none = (wipe ρ ks).set j none := by
          intro ks
          induction ks with
          | nil => intro ρ; exact List.set_set _ ..
          | cons k ks ih2 =>
            intro ρ
            show ((wipe (ρ.set j none) ks).set k none).set j none = ((wipe ρ ks).set k none).set j none
            by_cases q : k = j
            · subst q; rw [ih2 ρ]
            · rw [List.set_comm _ _ q, List.set_comm _ _ q, ih2 ρ]
        show (wipe ((wipe τ js).set j none) js).set j none = (wipe τ js).set j none
        rw [key js (wipe τ js), ih τ]
    refine ⟨⟨dd, hm⟩, F3, ⟨S3.fh, S3.env.wiped _, S3.mem⟩, r3, fun σ4 en wq => ⟨wq.trans (ww _ σ), ⟨dd, hm⟩, F3, ⟨S3.fh, en, S3.mem⟩, fun bb F3' H3' g3' rb => ?_⟩⟩
    have g23 := (g2.trans g3).trans g3'
    have l3 : H3' L = some (.lst acc) := (g3.trans g3').hh _ _ hl2
    have fl3 : F3' L = none := (g3.trans g3').nf _ _ hl2 fl
    have tk : ds.take (i + 1) = ds.take i ++ [dd] := by rw [List.take_add_one, hd]; rfl
    cases bb with
    | true =>
      have hq : q dd = true := rb.mp rfl
      refine iteT ⟨⟨dd, hm, hq⟩, F3', ⟨g23.fh, EnvR.mono g3'.ff en, (S3.mono g3').mem⟩, fun v F4 H4 g4 r4 => ?_⟩
      have g5 := g23.trans g4
      have l4 : H4 L = some (.lst acc) := g4.hh _ _ l3
      have fl4 : F4 L = none := g4.nf _ _ l3 fl3
      refine ⟨acc, l4, ?_, F4, acc ++ [v], ⟨g5.ff, fun b u q => ?_, fun b u q => ?_, g5.nf⟩, fl4, upd_same, ?_⟩
      · rw [ra.length, List.length_map]
        have h1 := List.length_filter_le q (ds.take i)
        rw [List.length_take] at h1
        exact Nat.lt_of_lt_of_le (show ((ds.take i).filter q).length < 10001 by omega) (by decide)
      · rw [upd_ne (ne_of_none q fl4)]; exact g5.fh _ _ q
      · rw [upd_ne (ne_of_none q hL)]; exact g5.hh _ _ q
      · have e : ((ds.take (i + 1)).filter q).map f = ((ds.take i).filter q).map f ++ [f dd] := by
          rw [tk, List.filter_append, List.map_append, List.filter_cons, if_pos hq]; rfl
        rw [e]
        exact (RepL.mono ((g3.trans g3').trans g4).ff ra).append (RepL.one r4)
    | false =>
      have hq : ¬ q dd = true := fun z => by have := rb.mpr z; cases this
      refine iteF ⟨F3', acc, g23, fl3, l3, ?_⟩
      have e : ((ds.take (i + 1)).filter q).map f = ((ds.take i).filter q).map f := by
        rw [tk, List.filter_append, List.map_append, List.filter_cons, if_neg hq]; simp
      rw [e]
      exact RepL.mono (g3.trans g3').ff ra
  · rintro H2 ⟨F2, acc, g2, fl, hl2, ra⟩
    rw [List.take_length] at ra
    exact k L acc F2 H2 (g1.trans g2) (g1.hh.none hL) fl hl2 ra
/-- y = [..] -/
theorem psd_setLc (i : Nat) {y : Str} {py spos : Pos} {elt iter : Expr} {ifs : List Expr} {scope : Scope} {ds : List D} (h : PS X (.Assign [.Name y py] (.ListComp elt [⟨tgt, iter, ifs, 0⟩] scope pos) spos) (tAsg (tN X.K δ μ ds) (gName i))) :
    PS X (.Assign [.Name y py] (.ListComp elt [⟨tgt, iter, ifs, 0⟩] scope pos) spos) (tS X.K E δ μ (.nx (δ.set i (some (.lst ds))) μ)) :=
  PS.mono h fun Dn σ H ⟨F0, H0, F, s, k⟩ => ⟨F, s.se, fun l vs F' H' g h0 hn hl r => by
    have e1 : Ex F' (upd F' l (.lst vs)) := Ex.new hn
    have g2 : Gr F H (upd F' l (.lst vs)) H' := ⟨g.ff.trans e1, fun a u q => by
      by_cases z : a = l
      · subst z; rw [upd_same] at q; cases q; exact hl
      · rw [upd_ne z] at q; exact g.fh a u q, g.hh, fun b u q n => by rw [upd_ne (ne_of_none q h0)]; exact g.nf b u q n⟩
    have s2 := s.up g2
    exact k _ _ H' ⟨⟨s2.se.fh, EnvR.set (d := .lst ds) s2.se.env ⟨l, vs, rfl, upd_same, RepL.mono e1 r⟩, s2.se.mem⟩, s2.gr, s2.fr⟩⟩

/-! while -/
theorem psd_while {δf : De} (I : De → Nat → Prop) (c' : De → Prop) {m0 : Nat} (hp : PassesOwn (model X.prog X.w) X.A X.env X.xe) (h0 : I δ m0)
    (hc : ∀ δ m, I δ m → PT X c (tP X.K δ μ (c' δ)))
    (hb : ∀ δ m, I δ m → c' δ → ∃ δ' m', m' < m ∧ I δ' m' ∧ PSs X body (tS X.K E δ μ (.nx δ' μ)))
    (hf : ∀ δ m, I δ m → ¬ c' δ → δ = δf) : PS X (.While c body [] pos) (tS X.K E δ μ (.nx δf μ)) := by
  let ι := { q : De × Nat // I q.1 q.2 }
  let ι2 := { q : De × Nat // I q.1 q.2 ∧ c' q.1 }
  let tc : TT := fun σ H Q => ∃ q : ι, tP X.K q.1.1 μ (c' q.1.1) σ H Q
  let tb : TS := fun Dn σ H => ∃ q : ι2, ∃ δ' m', m' < q.1.2 ∧ I δ' m' ∧ tS X.K E q.1.1 μ (.nx δ' μ) Dn σ H ∧ PSs X body (tS X.K E q.1.1 μ (.nx δ' μ))
  have hC : PT X c tc := PT.union fun q => hc q.1.1 q.1.2 q.2
  have hB : PSs X body tb := ⟨fun pins s σ H Dn J ⟨q, δ', m', _, _, w, h⟩ => h.run pins s σ H Dn J w⟩
  refine PS.mono (ps_while hp hC hB) fun Dn σ H ⟨F0, H0, F, s, k⟩ => ?_
  refine ⟨fun m σ H => ∃ δ1 F1, I δ1 m ∧ SR X.K F0 H0 δ1 μ σ F1 H, ⟨m0, δ, F, h0, s⟩, ?_⟩
  rintro m σ1 H1 ⟨δ1, F1, i1, s1⟩
  refine ⟨⟨(δ1, m), i1⟩, F1, s1.se, fun bb F2 H2 g r => ?_⟩
  have s2 := s1.up g
  cases bb with
  | true =>
    have hcc := r.mp rfl
    obtain ⟨δ2, m2, lt, i2, hbody⟩ := hb δ1 m i1 hcc
    refine iteT ⟨fun σ H => ∃ F1, SR X.K F0 H0 δ2 μ σ F1 H, fun σ' H' ⟨F3, s3⟩ => ⟨m2, lt, δ2, F3, i2, s3⟩, ⟨(δ1, m), i1, hcc⟩, δ2, m2, lt, i2, ⟨F0, H0, F2, s2, fun σ3 F3 H3 s3 => ⟨F3, s3⟩⟩, hbody⟩
  | false =>
    have hcc : ¬ c' δ1 := fun z => by have := r.mpr z; cases this
    have e := hf δ1 m i1 hcc
    subst e
    exact iteF (k σ1 F2 H2 s2)
end

/-! a def's body -/
def ocOf : Except Value D → Oc
  | .ok d => .rt d
  | .error c => .ex c
theorem start_env {K : PySem.W.Frag} {F : Hp} {ds : List D} {vs : List V} (N : List Str) (r : RepL K F ds vs) (hN : ds.length ≤ N.length) : EnvR K F (L2.start N vs) (ds.map some ++ List.replicate (N.length - ds.length) none) := by
  refine ⟨?_, fun i d q => ?_⟩
  · unfold L2.start
    rw [List.length_append, List.length_append, List.length_map, List.length_map, List.length_replicate, List.length_replicate, r.length]
  · unfold L2.start
    by_cases hi : i < ds.length
    · rw [List.getElem?_append_left (by rw [List.length_map]; exact hi), List.getElem?_map] at q
      cases z : ds[i]? with
      | none => rw [z] at q; cases q
      | some x =>
        rw [z] at q
        have e : x = d := Option.some.inj (Option.some.inj q)
        subst e
        obtain ⟨v, h1, h2⟩ := r.get z
        exact ⟨v, by rw [List.getElem?_append_left (by rw [List.length_map, r.length]; exact hi), List.getElem?_map, h1]; rfl, h2⟩
    · rw [List.getElem?_append_right (by rw [List.length_map]; omega), List.getElem?_replicate] at q
      split at q <;> cases q
section
variable {P : Program} {w : World} {K : PySem.W.Frag} {mg : Str → Option Value} {base : Heap}
abbrev cxD (P : Program) (w : World) (K : PySem.W.Frag) (mg : Str → Option Value) (base : Heap) (N : List Str) (qual : Str) (st : Stmt) (f : Addr) (cdv : Value) (A : Around) (outer : List Env) (s : Shared) (H : Hp) (E : XK) : Cx :=
  cxOf (L2.CX P w) P w K mg base N qual (defScope st) f cdv A outer s H E
theorem def_ok {x qual : Str} {st : Stmt} {f : Addr} {fd : FuncData} {N ps : List Str} {k : Nat} {R : List D → Except Value D → Prop} (F : Fun K x qual st f fd) (S : FnScope N ps (defScope st)) (hl : ∀ ds r, R ds r → ds.length = ps.length) (hN : ps.length ≤ N.length)
    (body : ∀ (cdv : Value) (A : Around) (outer : List Env) (s : Shared) (H : Hp) (E : XK) (ds : List D) (r : Except Value D), Room k (A.deeper (PyProof.Rows.envOfC qual (defScope st) s.heap.objs.size f cdv)) → R ds r →
      PSs (cxD P w K mg base N qual st f cdv A outer s H E) (defBody st) (tS K E (ds.map some ++ List.replicate (N.length - ds.length) none) [] (ocOf r))) :
    FnOk P w K mg base (L2.CX P w) (k + 1) f fd ps (spD K R) := by
  refine F.okX S (fun vs H Q E h => ?_) (fun cdv A outer s H vs Q E hr h => ?_)
  · obtain ⟨G, ds, r, _, rv, hR, _⟩ := h
    rw [rv.length]; exact hl ds r hR
  · obtain ⟨G, ds, r, e, rv, hR, k⟩ := h
    refine ⟨_, body cdv A outer s H E ds r hr hR, ?_⟩
    have hd : ds.length ≤ N.length := by rw [hl ds r hR]; exact hN
    refine ⟨G, H, G, ⟨⟨e, start_env N rv hd, .nil⟩, Gr.refl e, fun m hm => absurd hm (by simp)⟩, ?_⟩
    cases r with
    | ok d => exact fun v F' H' g r' => k v F' H' g r'
    | error c => exact fun F' H' g => k F' H' g
end
end Bl
namespace Bl
open PySem L2
/-! try: one call .. except X as n: a suite that raises nothing -/
/-- what raises, the wish at the slots -/
def tXs (K : PySem.W.Frag) (W : WX) (δ : De) (μ : Me) (c : Value) : TE := fun σ H _ => ∃ F, SE K δ μ σ F H ∧ ∀ F' H', Gr F H F' H' → W c none σ H'
section
variable {X : Cx} {δ δ2 : De} {μ : Me} {a b e o : Expr} {es : List Expr} {pos p apos : Pos} {x m n : Str} {k j : Nat} {ps ns : List Str} {R : List D → Except Value D → Prop} {ds : List D} {d : D} {C : Addr} {cv : Value} {E : XK}
theorem pxs_call {W : WX} (c : Cal X.prog X.w X.K X.mg X.base x k ps R) (tk : Takes X W) (hr : Room j X.A) (hk : k ≤ j) (hg : Gl X x) (ha : PA X (e :: es) (tAs X.K δ μ ds)) (hR : R ds (.error cv))
    (hdb : (x == ("__debug__" : Str)) = false := by decide) (he : starEach (e :: es) X.env = (false, eval e X.env) :: starEach es X.env := by rfl) (hpl : (backTo pos (starEach es X.env)).any (·.1) = false := by rfl) :
    PE X (.Call (.Name x p) (e :: es) [] pos) (tXs X.K W δ μ cv) := by
  obtain ⟨f, fd, F, hm, hkp, hb⟩ := c.ex
  refine PE.mono (pe_callS F (hr.mono hk) hg hm hkp hb (fun σ => passAt tk σ) ha hdb he hpl) fun σ H Q ⟨F, S, w⟩ => ⟨F, S, fun vs F1 H1 g r => ?_⟩
  exact ⟨F1, ds, .error cv, g.fh, r, hR, fun F2 H2 g2 => w F2 H2 (g.trans g2)⟩
/-- making an instance, where what is raised is wished for at the slots -/
theorem make_slots {f : Addr} {fd : FuncData} {sp : Sp} {t : TA} {W : WX} (M : Mk X.K C f) (F : FnOk X.prog X.w X.K X.mg X.base (L2.CX X.prog X.w) k f fd ps sp) (hr : Room (k + 1) X.A) (hg : Gl X x) (hm : X.mg x = some (.ref C)) (hb : Binds X.K fd ps [])
    (tk : Takes X W) (ha : PA X (e :: es) t) (hdb : (x == ("__debug__" : Str)) = false) (he : starEach (e :: es) X.env = (false, eval e X.env) :: starEach es X.env) (hpl : (backTo pos (starEach es X.env)).any (·.1) = false) :
    PE X (.Call (.Name x p) (e :: es) [] pos) (fun σ H Q => t σ H fun vs H1 => ∀ y dx, H1 y = none → H1 dx = none → dx ≠ y →
      sp (.ref y :: vs) (upd (upd H1 dx (.own y)) y (.ins C dx [])) (fun v H2 => v = .non ∧ Q (.ref y) H2) (fun cls dd H2 => W cls dd σ H2)) := by
  constructor
  intro pins s σ H Q I h
  refine wpAny_Call_Name_kw (ld_glob I hg hm (PySem.W.callWith_K (h₀ := X.base) I.ok.mod.kin M.kp (thn (ha.run pos pins s σ H _ I h) ?_) he hpl) hdb)
  rintro us s1 ⟨vs, H1, I1, r, q⟩
  refine ⟨I1.kIn, ?_⟩
  have fr1 : H1 (s1.heap.objs.size + 1) = none := I1.hok.fresh (Nat.le_succ _)
  have fr0 : H1 s1.heap.objs.size = none := I1.hok.fresh (Nat.le_refl _)
  have prom := q (s1.heap.objs.size + 1) s1.heap.objs.size fr1 fr0 (Nat.ne_of_lt (Nat.lt_succ_self _))
  have I3 := Inv.made (C := C) I1
  have rel : Vals (V.ref (s1.heap.objs.size + 1) :: vs) (Value.ref (s1.heap.objs.size + 1) :: us) := .cons rfl r
  have ln : (Value.ref (s1.heap.objs.size + 1) :: us).length = ps.length := rel.length.symm.trans (F.len _ _ _ _ prom)
  have bd := hb _ (Value.ref (s1.heap.objs.size + 1) :: us) I3.kIn (by rw [List.append_nil]; exact ln)
  rw [List.append_nil] at bd
  refine wpAny_call (make_map (f := f) I1.kIn M.makes M.init (beq_iff_eq.mp M.fn) (codeAny_mono (F.run _ X.stack _ _ ⟨_, []⟩ _ _ _ _ (hr.make C us []) (I3.env0.make C us []) bd rel prom) ?_))
  intro res s4 out
  cases res with
  | error err => exact tk err s4 (XE.of_call I3 (fun _ _ _ z => z) out)
  | ok fl =>
    cases fl with
    | ret u =>
      obtain ⟨v, H4, I4, rv, ev, q4⟩ := I3.after out
      subst ev
      exact ⟨rv, .ref (s1.heap.objs.size + 1), H4, I4, rfl, q4⟩
    | next => exact False.elim out
    | brk => exact False.elim out
    | cont => exact False.elim out
theorem pxs_make {W : WX} {R : List D → Except Value (List D) → Prop} (c : CalI X.prog X.w X.K X.mg X.base C x k ps ns R) (tk : Takes X W) (hr : Room j X.A) (hk : k + 1 ≤ j) (hg : Gl X x) (ha : PA X (e :: es) (tAs X.K δ μ ds)) (hR : R ds (.error cv))
    (hdb : (x == ("__debug__" : Str)) = false := by decide) (he : starEach (e :: es) X.env = (false, eval e X.env) :: starEach es X.env := by rfl) (hpl : (backTo pos (starEach es X.env)).any (·.1) = false := by rfl) :
    PE X (.Call (.Name x p) (e :: es) [] pos) (tXs X.K W δ μ cv) := by
  obtain ⟨f, fd, F, M, hb⟩ := c.ex
  refine PE.mono (make_slots M F (hr.mono hk) hg c.mg_ hb tk ha hdb he hpl) fun σ H Q ⟨F, S, w⟩ => ⟨F, S, fun vs F1 H1 g r y dx h1 h2 h3 => ?_⟩
  exact ⟨y, dx, vs, H1, F1, ds, .error cv, rfl, h1, h2, h3, rfl, g.fh, r, hR, fun F2 H2 g2 => w F2 H2 (g.trans g2)⟩
theorem pd_isE {D : Addr} {oe : Obj} {pn : List (Addr × Obj)} {ae : Addr} {c : V} {r : Bool} (CE : ExcC X.K D) (hz : Zc (.ref D) none oe) (hf : ∃ vs, oe.data = .fields vs) (hg : Gl (X.suite ae ((ae, oe) :: pn)) "isinstance") (hm : X.mg "isinstance" = none)
    (ha : PE (X.suite ae ((ae, oe) :: pn)) a (tD X.K δ μ (.mref ae))) (hb : PE (X.suite ae ((ae, oe) :: pn)) b (tC c)) (hcv : ∀ u, RelV c u → u = cv) (hk : PySem.W.kitOne X.K (.ref D) cv = some r)
    (hst : starEach [a, b] X.env = (false, eval a X.env) :: starEach [b] X.env := by rfl) (hst2 : starEach [b] X.env = (false, eval b X.env) :: starEach [] X.env := by rfl) (hpl : (backTo pos (starEach [b] X.env)).any (·.1) = false := by rfl) :
    PE (X.suite ae ((ae, oe) :: pn)) (.Call (.Name "isinstance" p) [a, b] [] pos) (tD X.K δ μ (.bl r)) :=
  PE.mono (pe_callB (X := X.suite ae ((ae, oe) :: pn)) (call_isE CE hz hf) hg hm boot_isinst (pa_cons ha (pa_cons hb pa_nil hst2) hst) (by decide +kernel) (by decide +kernel) hst hpl) fun σ H Q ⟨F, S, k⟩ => ⟨F, S, fun v F1 H1 g r1 =>
    ⟨c, cv, r, by rw [show v = .ref ae from r1], hcv, hk, k _ F1 H1 g rfl⟩⟩
theorem pd_isEo {D C' : Addr} {oe : Obj} {pn : List (Addr × Obj)} {ae : Addr} {y : Str} {py : Pos} {r : Bool} (CE : ExcC X.K D) (hz : Zc (.ref D) none oe) (hf : ∃ vs, oe.data = .fields vs) (hg : Gl (X.suite ae ((ae, oe) :: pn)) "isinstance") (hm : X.mg "isinstance" = none)
    (ha : PE (X.suite ae ((ae, oe) :: pn)) a (tD X.K δ μ (.mref ae))) (hgy : Gl (X.suite ae ((ae, oe) :: pn)) y) (hdy : (y == ("__debug__" : Str)) = false) (hmy : X.mg y = some (.ref C')) (hk : PySem.W.kitOne X.K (.ref D) (.ref C') = some r)
    (hst : starEach [a, .Name y py] X.env = (false, eval a X.env) :: starEach [.Name y py] X.env) (hst2 : starEach [.Name y py] X.env = (false, eval (.Name y py) X.env) :: starEach [] X.env) (hpl : (backTo pos (starEach [.Name y py] X.env)).any (·.1) = false) :
    PE (X.suite ae ((ae, oe) :: pn)) (.Call (.Name "isinstance" p) [a, .Name y py] [] pos) (tD X.K δ μ (.bl r)) :=
  pd_isE CE hz hf hg hm ha (pe_glob (v := .ref C') hgy hmy rfl hdy) (fun _ z => z) hk hst hst2 hpl
theorem pd_isEv {D : Addr} {oe : Obj} {pn : List (Addr × Obj)} {ae : Addr} {py : Pos} {r : Bool} (CE : ExcC X.K D) (hz : Zc (.ref D) none oe) (hf : ∃ vs, oe.data = .fields vs) (hg : Gl (X.suite ae ((ae, oe) :: pn)) "isinstance") (hm : X.mg "isinstance" = none)
    (ha : PE (X.suite ae ((ae, oe) :: pn)) a (tD X.K δ μ (.mref ae))) (hgy : Gl (X.suite ae ((ae, oe) :: pn)) "ValueError") (hmy : X.mg "ValueError" = none) (hk : PySem.W.kitOne X.K (.ref D) (.type "ValueError") = some r)
    (hst : starEach [a, .Name "ValueError" py] X.env = (false, eval a X.env) :: starEach [.Name "ValueError" py] X.env) (hst2 : starEach [.Name "ValueError" py] X.env = (false, eval (.Name "ValueError" py) X.env) :: starEach [] X.env) (hpl : (backTo pos (starEach [.Name "ValueError" py] X.env)).any (·.1) = false) :
    PE (X.suite ae ((ae, oe) :: pn)) (.Call (.Name "isinstance" p) [a, .Name "ValueError" py] [] pos) (tD X.K δ μ (.bl r)) :=
  pd_isE CE hz hf hg hm ha (pe_bltn (v := .ty "ValueError") hgy hmy (by decide +kernel) rfl) (fun _ z => z) hk hst hst2 hpl
theorem psd_try (i : Nat) {D : Addr} {c : Value} {bd suite : List Stmt} {b₀ : Stmt} {np pos' : Pos} (hc : X.stack = X.env :: X.outer) (hf : X.env.frame = some X.env.locals) (hN : X.N.Nodup) (hi : X.N[i]? = some n) (hln : X.env.kindOf n = some .local) (hn : Names X x c)
    (tk : Takes X (fun _ _ _ _ => False)) (hex : PySem.W.exmOne X.K (.ref D) c = some true)
    (hb : ∀ (W : WX) (pn : List (Addr × Obj)) (xe : Value → Shared → Prop), Takes (X.tr pn xe) W → PSs (X.tr pn xe) bd (fun _ σ H => tXs X.K W δ μ (.ref D) σ H (fun _ _ => False)))
    (hsu : ∀ (ae : Addr) (oe : Obj) (pn : List (Addr × Obj)), Zc (.ref D) none oe → (∃ vs, oe.data = .fields vs) → PSs (X.suite ae ((ae, oe) :: pn)) (b₀ :: suite) (tS X.K (fun _ _ _ => False) (δ.set i (some (.mref ae))) μ (.nx δ2 μ))) :
    PS X (.Try bd [.ExceptHandler (some (.Name x np)) (some n) (b₀ :: suite) pos'] [] [] pos) (tS X.K E δ μ (.nx (δ2.set i none) μ)) := by
  refine PS.mono (ps_try_as (i := i) (tb := fun W _ σ H => tXs X.K W δ μ (.ref D) σ H (fun _ _ => False))
    (ts := fun ae cls dd => fun Dn σ H => ∃ _ : cls = .ref D ∧ dd = none, tS X.K (fun _ _ _ => False) (δ.set i (some (.mref ae))) μ (.nx δ2 μ) Dn σ H) hc hf hN hi hln hn tk (fun W pn xe t _ => hb W pn xe t) (fun ae oe cls dd pn hz hv => ⟨fun pins s σ H Dn I w => ?_⟩)) ?_
  · obtain ⟨⟨e1, e2⟩, w⟩ := w
    subst e1; subst e2
    exact (hsu ae oe pn hz hv).run pins s σ H Dn I w
  · rintro Dn σ H ⟨F0, H0, F, s, k⟩
    refine ⟨F, s.se, fun F1 H1 g => ⟨true, hex, fun _ ae na => ⟨⟨rfl, rfl⟩, ?_⟩, fun z => by cases z⟩⟩
    have s1 := s.up g
    refine ⟨F0, H0, F1, ⟨⟨s1.se.fh, EnvR.set (d := .mref ae) s1.se.env rfl, s1.se.mem⟩, s1.gr, s1.fr⟩, fun σ' F' H' s' => ?_⟩
    exact k _ F' H' ⟨⟨s'.se.fh, s'.se.env.forget i, s'.se.mem⟩, s'.gr, s'.fr⟩
/-- the try's body: one call for its own sake -/
theorem pss_try_expr {W : WX} {rest : List Stmt} (he : PE X e (tXs X.K W δ μ cv)) (hs : swapsWith e none pos.line X.env = pure false) : PSs X [.Expr e pos] (fun _ σ H => tXs X.K W δ μ cv σ H (fun _ _ => False)) :=
  PSs.mono (pss_one (ps_expr he hs)) fun Dn σ H w => w
end
end Bl
namespace Bl
open PySem L2
/-- a written power -/
theorem pd_powL {X : Cx} {K : PySem.W.Frag} {δ : De} {μ : Me} {i : Int} {n : Nat} {k1 k2} {p1 p2 pos : Pos} (hc : n ≤ 1000000 ∧ i.natAbs < 2 ^ 64) : PE X (.BinOp (.Constant (.int i) k1 p1) .Pow (.Constant (.int (OfNat.ofNat n)) k2 p2) pos) (tD K δ μ (.int (i ^ n))) :=
  pd_pow (n := n) pd_int pd_int rfl hc
/-- an except clause's class, an error's class -/
theorem exm_mk {K : PySem.W.Frag} {a C : Addr} {r : Bool} (b : PySem.W.subIn K (.ref C) (.type "BaseException") = some true) (i : PySem.W.isClsIn K C = true) (t : PySem.W.typeIn K (.ref C) = some (.type "type")) (s : PySem.W.subIn K (.ref a) (.ref C) = some r) :
    PySem.W.exmOne K (.ref a) (.ref C) = some r := by
  have i2 : (PySem.W.clsIn K C).isSome = true := i
  unfold PySem.W.exmOne PySem.W.kitCls
  rw [b, if_pos (by rfl)]
  show (if ((PySem.W.clsIn K C).isSome && PySem.W.typeIn K (.ref C) == some (.type "type")) = true then _ else _) = _
  rw [i2, t, if_pos (by rfl)]
  exact s
/-! the law itself -/
def spLaw (K : PySem.W.Frag) : Sp := fun vs H Q _ => ∃ (a : Addr) (ns : List Int), vs = [.ref a] ∧ SqL K H a (ns.map V.int) ∧ ns.length ≤ 63 ∧ ∀ H', Q (.bl true) H'
/-- the part of a heap that is one list -/
def onlyAt (H : Hp) (a : Addr) : Hp := fun b => if b = a then H a else none
theorem onlyAt_ex {H : Hp} {a : Addr} : Ex (onlyAt H a) H := fun b o h => by
  unfold onlyAt at h
  split at h
  · rename_i e; rw [e]; exact h
  · cases h
theorem onlyAt_sql {K : PySem.W.Frag} {H : Hp} {a : Addr} {xs : List V} (h : SqL K H a xs) : SqL K (onlyAt H a) a xs := by
  have e : onlyAt H a a = H a := by unfold onlyAt; rw [if_pos rfl]
  rcases h with (h | ⟨o, h⟩) | h
  · exact .inl (.inl (e.trans h))
  · exact .inl (.inr ⟨o, e.trans h⟩)
  · exact .inr h
theorem cx_none {P : Program} {w : World} {H : Hp} {s : Shared} {e : Value} {s' : Shared} (h : L2.CX P w [] H s (fun _ _ _ => False) e s') : False := by
  obtain ⟨_, _, _, _, _, _, _, _, _, _, _, _, z⟩ := h
  exact z.elim
section
variable {P : Program} {w : World} {K : PySem.W.Frag} {mg : Str → Option Value} {base : Heap}
theorem law_ok {x qual : Str} {st : Stmt} {f : Addr} {fd : FuncData} {N ps : List Str} {k : Nat} (F : Fun K x qual st f fd) (S : FnScope N ps (defScope st)) (h1 : ps.length = 1) (hN : 1 ≤ N.length)
    (body : ∀ (cdv : Value) (A : Around) (outer : List Env) (s : Shared) (H : Hp) (E : XK) (ns : List Int), Room k (A.deeper (PyProof.Rows.envOfC qual (defScope st) s.heap.objs.size f cdv)) → ns.length ≤ 63 →
      PSs (cxD P w K mg base N qual st f cdv A outer s H E) (defBody st) (tS K E (some (D.sq (ns.map D.int)) :: List.replicate (N.length - 1) none) [] (.rt (.bl true)))) :
    FnOk P w K mg base (L2.CX P w) (k + 1) f fd ps (spLaw K) := by
  refine F.okX S (fun vs H Q E h => ?_) (fun cdv A outer s H vs Q E hr h => ?_)
  · obtain ⟨a, ns, rfl, _⟩ := h
    rw [h1]; rfl
  · obtain ⟨a, ns, rfl, hS, hl, q⟩ := h
    refine ⟨_, body cdv A outer s H E ns hr hl, ?_⟩
    have rv : RepL K (onlyAt H a) [D.sq (ns.map D.int)] [V.ref a] := RepL.one (d := .sq _) ⟨a, ns.map V.int, rfl, onlyAt_sql hS, RepL.of_ints ns⟩
    refine ⟨onlyAt H a, H, onlyAt H a, ⟨⟨onlyAt_ex, start_env N rv hN, .nil⟩, Gr.refl onlyAt_ex, fun m hm => absurd hm (by simp)⟩, ?_⟩
    intro v F' H' g r
    have e : v = .bl true := r
    rw [e]
    exact q H'
end
/-! truths compared; plain loops -/
section
variable {X : Cx} {K : PySem.W.Frag} {E : XK} {δ δ' : De} {μ μ' : Me} {o : Oc} {st : Stmt} {rest body : List Stmt} {a b c e tgt iter : Expr} {pos p pos' : Pos} {d : D}
theorem ptd_eqB {i j : Bool} (ha : PE X a (tD K δ μ (.bl i))) (hb : PE X b (tD K δ μ (.bl j))) : PT X (.Compare a [.Eq] [b] pos) (tP K δ μ (i = j)) :=
  pt_cmp2 op_eq (nomark _) ha hb fun F H v u Q e r1 r2 k => by
    have e1 : v = .bl i := r1
    have e2 : u = .bl j := r2
    subst e1; subst e2
    exact ⟨rfl, k _ F H (.refl e) (by rw [decide_eq_true_iff]; exact V.bl.injEq i j ▸ Iff.rfl)⟩
theorem ptd_neB {i j : Bool} (ha : PE X a (tD K δ μ (.bl i))) (hb : PE X b (tD K δ μ (.bl j))) : PT X (.Compare a [.NotEq] [b] pos) (tP K δ μ (i ≠ j)) :=
  pt_cmp2 op_ne (nomark _) ha hb fun F H v u Q e r1 r2 k => by
    have e1 : v = .bl i := r1
    have e2 : u = .bl j := r2
    subst e1; subst e2
    exact ⟨rfl, k _ F H (.refl e) (by simp)⟩
/-- a for that always goes on; G, M: data ahead of each turn -/
theorem psd_forT {ds : List D} {js : List Nat} (G : Nat → De) (M : Nat → Me) (T : Nat → D → De) (hp : PassesOwn (model X.prog X.w) X.A X.env X.xe) (hc : X.calm = true) (hi : PI X tgt iter (tI X.K δ μ ds))
    (h0 : Wk δ (G 0)) (hM : M 0 = μ)
    (hg : ∀ i x, ds[i]? = some x → PG X tgt (tG X.K js (G i) (M i) x (T i x)))
    (hgo : ∀ i x, ds[i]? = some x → PSs X body (tS X.K E (T i x) (M i) (.nx (G (i + 1)) (M (i + 1)))))
    (hs : ∀ x, foldedSetIterable iter X.env x = pure x := by intro _; rfl) : PS X (.For tgt iter body [] pos) (tS X.K E δ μ (.nx (G ds.length) (M ds.length))) :=
  psd_for G M (fun _ => True) T hp hc hi h0 hM (fun i x h _ => hg i x h) (fun i x h _ _ => hgo i x h) (fun i x h _ n => absurd True.intro n) (fun _ => rfl) hs
/-- a for whose turns leave nothing -/
theorem psd_forI {ds : List D} {js : List Nat} (δ1 : De) (T : D → De) (hp : PassesOwn (model X.prog X.w) X.A X.env X.xe) (hc : X.calm = true) (hi : PI X tgt iter (tI X.K δ μ ds))
    (h0 : Wk δ δ1) (hg : ∀ x, x ∈ ds → PG X tgt (tG X.K js δ1 μ x (T x))) (hb : ∀ x, x ∈ ds → PSs X body (tS X.K E (T x) μ (.nx δ1 μ)))
    (hs : ∀ x, foldedSetIterable iter X.env x = pure x := by intro _; rfl) : PS X (.For tgt iter body [] pos) (tS X.K E δ μ (.nx δ1 μ)) :=
  psd_forT (fun _ => δ1) (fun _ => μ) (fun _ x => T x) hp hc hi h0 rfl (fun i x h => hg x (List.mem_of_getElem? h)) (fun i x h => hb x (List.mem_of_getElem? h)) hs
end
end Bl
namespace Bl
open PySem L2
/-! objects that are not frozen: fields stored, lists changed -/
section
variable {X : Cx} {K : PySem.W.Frag} {E : XK} {δ δ' : De} {μ μ' : Me} {o : Oc} {st : Stmt} {rest body : List Stmt} {a b c e tgt ob : Expr} {pos p pos' apos cpos : Pos} {d dl : D} {l : Addr}
theorem SR.put {F0 H0 F H : Hp} {σ : St} {d d' : D} {o' : HO} (s : SR K F0 H0 δ ((l, d) :: μ) σ F H) (r : ObjR K F d' o') : SR K F0 H0 δ ((l, d') :: μ) σ F (upd H l o') := by
  obtain ⟨fl, u, hl, _⟩ := s.se.mem.at_ (l, d) (by simp)
  have h0 : H0 l = none := s.fr (l, d) (by simp)
  have hfh : Ex F (upd H l o') := fun x y h => by rw [upd_ne (ne_of_none h fl)]; exact s.se.fh x y h
  refine ⟨⟨hfh, s.se.env, ⟨s.se.mem.nd, fun m hm => ?_⟩⟩, ⟨s.gr.ff, hfh, fun x y h => ?_, s.gr.nf⟩, fun m hm => ?_⟩
  · rcases List.mem_cons.mp hm with rfl | hm
    · exact ⟨fl, o', upd_same, r⟩
    · obtain ⟨h1, u2, h2, h3⟩ := s.se.mem.at_ m (by simp [hm])
      have nd := s.se.mem.nd
      rw [List.map_cons, List.nodup_cons] at nd
      have ne : m.1 ≠ l := fun z => nd.1 (List.mem_map.mpr ⟨m, hm, z⟩)
      exact ⟨h1, u2, by rw [upd_ne ne]; exact h2, h3⟩
  · rw [upd_ne (ne_of_none h h0)]; exact s.gr.hh x y h
  · rcases List.mem_cons.mp hm with rfl | hm
    · exact h0
    · exact s.fr m (by simp [hm])
theorem zip_put {f : Str} {v : V} : ∀ {ns : List Str} {vs : List V}, vs.length = ns.length → ns.contains f = false → putF f v (ns.zip vs) = (ns ++ [f]).zip (vs ++ [v])
  | [], [], _, _ => rfl
  | [], _ :: _, h, _ => by simp at h
  | n :: ns, [], h, _ => by simp at h
  | n :: ns, x :: vs, hl, h => by
    simp only [List.contains_cons, Bool.or_eq_false_iff] at h
    have ne : n ≠ f := fun z => by
      have := beq_eq_false_iff_ne.mp h.1
      exact this z.symm
    simp only [List.zip_cons_cons, List.cons_append, putF, if_neg ne]
    rw [zip_put (by simpa using hl) h.2]
theorem psd_fldset {C : Addr} {ns : List Str} {ds : List D} {f : Str} (ha : PE X ob (tD X.K δ ((l, .ins C ns ds) :: μ) (.mref l))) (hv : PE X e (tD X.K δ ((l, .ins C ns ds) :: μ) d)) (cl : Cls X.K C) (n : NoAttr X.K C f) (hn : ns.contains f = false) (hl : ns.length < 1000)
    (hs : swapsWith e (some (.Attribute ob f pos')) pos.line X.env = pure false) : PS X (.Assign [.Attribute ob f pos'] e pos) (tS X.K E δ ((l, .ins C ns ds) :: μ) (.nx δ ((l, .ins C (ns ++ [f]) (ds ++ [d])) :: μ))) :=
  PS.mono (ps_fld ha hv hs) fun Dn σ H ⟨F0, H0, F, s, k⟩ => ⟨F, s.se, fun y F1 H1 g1 r1 => ⟨F1, (s.up g1).se, fun x F2 H2 g2 rx => by
    have s2 := (s.up g1).up g2
    obtain ⟨fl, u, hu, dx, vs, e1, rv, le⟩ := s2.se.mem.at_ _ (List.mem_cons_self ..)
    subst e1
    have hvl : vs.length = ns.length := rv.length.trans le
    refine ⟨l, C, dx, ns.zip vs, rx, hu, cl, n, ?_, k σ F2 _ (s2.put (d' := .ins C (ns ++ [f]) (ds ++ [d])) ?_)⟩
    · rw [List.length_zip]; omega
    · exact ⟨dx, vs ++ [y], by rw [zip_put hvl hn], rv.append (RepL.one (Rep.mono g2.ff r1)), by rw [List.length_append, List.length_append, le]; rfl⟩⟩⟩
/-- x = a new list that will be changed -/
theorem pss_newL (i : Nat) {x : Str} {ds : List D} (hN : X.N.Nodup) (hi : X.N[i]? = some x) (hx : Loc X.env.scope x) (he : PE X e (tN K δ μ ds)) (hs : swapsWith e (some (.Name x pos')) pos.line X.env = pure false)
    (hf : X.fn x = true ∨ X.env.scope.names.lookup x = some .local) (h : ∀ l : Addr, PSs X rest (tS K E (δ.set i (some (.mref l))) ((l, .lst ds) :: μ) o)) : PSs X (.Assign [.Name x pos'] e pos :: rest) (tS K E δ μ o) :=
  PSs.mono (pss_cons (ps_set (i := i) hN hi hx he hs hf) (PSs.union h)) fun Dn σ H ⟨F0, H0, F, s, k⟩ => ⟨F, s.se, fun l vs F1 H1 g h0 hn hl r => by
    have s1 := s.up g
    refine ⟨l, F0, H0, F1, ⟨⟨s1.se.fh, EnvR.set (d := .mref l) s1.se.env rfl, ⟨?_, fun m hm => ?_⟩⟩, s1.gr, fun m hm => ?_⟩, k⟩
    · rw [List.map_cons, List.nodup_cons]
      refine ⟨fun z => ?_, s1.se.mem.nd⟩
      obtain ⟨m, hm, e1⟩ := List.mem_map.mp z
      obtain ⟨_, u, hu, _⟩ := s.se.mem.at_ m hm
      rw [e1, h0] at hu
      cases hu
    · rcases List.mem_cons.mp hm with rfl | hm
      · exact ⟨hn, _, hl, vs, rfl, r⟩
      · exact s1.se.mem.at_ m hm
    · rcases List.mem_cons.mp hm with rfl | hm
      · exact s.gr.hh.none h0
      · exact s.fr m hm⟩
/-- from now on it stays: its slots hold what it holds -/
inductive Fz (l : Addr) (d : D) : De → De → Prop where
  | nil : Fz l d [] []
  | same {a : Option D} {r t : De} : Fz l d r t → Fz l d (a :: r) (a :: t)
  | put {r t : De} : Fz l d r t → Fz l d (some (.mref l) :: r) (some d :: t)
  | rep {x y : D} {r t : De} (h : ∀ (K : PySem.W.Frag) (F : Hp), Rep K F d (.ref l) → ∀ v, Rep K F x v → Rep K F y v) : Fz l d r t → Fz l d (some x :: r) (some y :: t)
theorem Fz.len {r t : De} (h : Fz l d r t) : r.length = t.length := by
  induction h with
  | nil => rfl
  | same _ ih => simp [ih]
  | put _ ih => simp [ih]
  | rep _ _ ih => simp [ih]
theorem Fz.at_ {r t : De} (h : Fz l d r t) : ∀ (i : Nat) (x : D), t[i]? = some (some x) → ∃ y, r[i]? = some (some y) ∧ ∀ (K : PySem.W.Frag) (F : Hp), Rep K F d (.ref l) → ∀ v, Rep K F y v → Rep K F x v := by
  induction h with
  | nil => intro i x q; simp at q
  | same _ ih =>
    intro i x q
    cases i with
    | zero => exact ⟨x, q, fun _ _ _ _ z => z⟩
    | succ i => exact ih i x (by simpa using q)
  | put _ ih =>
    intro i x q
    cases i with
    | zero =>
      have e : d = x := by simpa using q
      subst e
      exact ⟨.mref l, rfl, fun K F hd v hv => by
        have e : v = .ref l := hv
        rw [e]; exact hd⟩
    | succ i => exact ih i x (by simpa using q)
  | rep h _ ih =>
    intro i x q
    cases i with
    | zero =>
      rename_i y0 x0 _ _ _
      have e : some x0 = some x := by simpa using q
      cases e
      exact ⟨_, rfl, h⟩
    | succ i => exact ih i x (by simpa using q)
theorem SE.frz {F H : Hp} {σ : St} (z : Fz l dl δ δ') (s : SE K δ ((l, dl) :: μ) σ F H) : ∃ u, H l = some u ∧ F l = none ∧ ObjR K F dl u ∧ Ex F (upd F l u) ∧ SE K δ' μ σ (upd F l u) H := by
  obtain ⟨fl, u, hl, r⟩ := s.mem.at_ (l, dl) (by simp)
  have e1 : Ex F (upd F l u) := Ex.new fl
  refine ⟨u, hl, fl, r, e1, fun x y h => ?_, ⟨s.env.len.trans z.len, fun i x q => ?_⟩, ⟨?_, fun m hm => ?_⟩⟩
  · by_cases q : x = l
    · subst q; rw [upd_same] at h; cases h; exact hl
    · rw [upd_ne q] at h; exact s.fh x y h
  · obtain ⟨y, q, hy⟩ := z.at_ i x q
    obtain ⟨v, h1, h2⟩ := s.env.at_ i y q
    exact ⟨v, h1, hy K _ ((r.mono e1).rep upd_same) v (Rep.mono e1 h2)⟩
  · have nd := s.mem.nd
    rw [List.map_cons, List.nodup_cons] at nd
    exact nd.2
  · obtain ⟨h1, u2, h2, h3⟩ := s.mem.at_ m (by simp [hm])
    have nd := s.mem.nd
    rw [List.map_cons, List.nodup_cons] at nd
    have ne : m.1 ≠ l := fun w => nd.1 (List.mem_map.mpr ⟨m, hm, w⟩)
    exact ⟨by rw [upd_ne ne]; exact h1, u2, h2, h3.mono e1⟩
theorem pss_frz (z : Fz l dl δ δ') (h : PSs X body (tS K E δ' μ o)) : PSs X body (tS K E δ ((l, dl) :: μ) o) :=
  PSs.mono h fun Dn σ H ⟨F0, H0, F, s, k⟩ => by
    obtain ⟨u, hl, fl, r, e1, s1⟩ := s.se.frz z
    have h0 : H0 l = none := s.fr (l, dl) (by simp)
    refine ⟨F0, H0, _, ⟨s1, ⟨s.gr.ff.trans e1, s1.fh, s.gr.hh, fun x y h n => ?_⟩, fun m hm => s.fr m (by simp [hm])⟩, k⟩
    rw [upd_ne (ne_of_none h h0)]
    exact s.gr.nf x y h n
/-! what holds no list -/
mutual
def noL : D → Bool
  | .tup ds => noLL ds
  | .ins _ _ ds => noLL ds
  | .lst _ => false
  | .sq _ => false
  | .lv _ _ => false
  | .non => true
  | .int _ => true
  | .bl _ => true
  | .mref _ => true
def noLL : List D → Bool
  | [] => true
  | d :: ds => noL d && noLL ds
end
def era (F : Hp) (l : Addr) : Hp := fun x => if x = l then none else F x
theorem era_ne {F : Hp} {l x : Addr} (h : x ≠ l) : era F l x = F x := if_neg h
theorem era_same {F : Hp} {l : Addr} : era F l l = none := if_pos rfl
mutual
theorem Rep.era {F : Hp} {vs : List V} (hl : F l = some (.lst vs)) : ∀ {d : D} {v : V}, noL d = true → Rep K F d v → Rep K (era F l) d v
  | .non, v, _, h => h
  | .int i, v, _, h => h
  | .bl b, v, _, h => h
  | .mref q, v, _, h => h
  | .lst _, v, n, h => by simp [noL] at n
  | .sq _, v, n, h => by simp [noL] at n
  | .lv _ _, v, n, h => by simp [noL] at n
  | .tup ds, v, n, h => by
    obtain ⟨p, us, e1, hp, r⟩ := h
    have ne : p ≠ l := fun z => by subst z; rw [hl] at hp; cases hp
    exact ⟨p, us, e1, by rw [era_ne ne]; exact hp, RepL.era hl (by simpa [noL] using n) r⟩
  | .ins C ns ds, v, n, h => by
    obtain ⟨p, dx, us, e1, hp, r, q⟩ := h
    have ne : p ≠ l := fun z => by subst z; rw [hl] at hp; cases hp
    exact ⟨p, dx, us, e1, by rw [era_ne ne]; exact hp, RepL.era hl (by simpa [noL] using n) r, q⟩
theorem RepL.era {F : Hp} {vs : List V} (hl : F l = some (.lst vs)) : ∀ {ds : List D} {us : List V}, noLL ds = true → RepL K F ds us → RepL K (era F l) ds us
  | [], us, _, h => h
  | d :: ds, us, n, h => by
    obtain ⟨v, r, e1, h1, h2⟩ := h
    have n2 : noL d = true ∧ noLL ds = true := by simpa [noLL] using n
    exact ⟨v, r, e1, Rep.era hl n2.1 h1, RepL.era hl n2.2 h2⟩
end
def isL : D → Bool
  | .lst _ => true
  | .lv _ _ => true
  | _ => false
theorem isL_obj {F : Hp} {u : HO} (h : isL dl = true) (r : ObjR K F dl u) : ∃ vs, u = .lst vs := by
  cases dl with
  | lst ds => obtain ⟨vs, e, _⟩ := r; exact ⟨vs, e⟩
  | lv us ds => exact ⟨us, r.1⟩
  | _ => simp [isL] at h
/-- back from the frozen reading -/
theorem Gr.back {F H F' H' : Hp} {u : HO} (fl : F l = none) (hl : H l = some u) (g : Gr (upd F l u) H F' H') : Gr F H (Bl.era F' l) H' :=
  ⟨fun x y h => by
    have ne : x ≠ l := ne_of_none h fl
    rw [era_ne ne]
    exact g.ff x y (by rw [upd_ne ne]; exact h), fun x y h => by
    by_cases z : x = l
    · subst z; rw [era_same] at h; cases h
    · rw [era_ne z] at h; exact g.fh x y h, g.hh, fun x y h n => by
    by_cases z : x = l
    · subst z; exact era_same
    · rw [era_ne z]; exact g.nf x y h (by rw [upd_ne z]; exact n)⟩
/-- an expression asked while the list stands still -/
theorem pd_thaw (z : Fz l dl δ δ') (h : PE X e (tD K δ' μ d)) (nl : noL d = true) (il : isL dl = true) : PE X e (tD K δ ((l, dl) :: μ) d) :=
  PE.mono h fun σ H Q ⟨F, S, k⟩ => by
    obtain ⟨u, hl, fl, r, e1, s1⟩ := S.frz z
    obtain ⟨vs, rfl⟩ := isL_obj il r
    refine ⟨_, s1, fun v F' H' g rv => k v (Bl.era F' l) H' (g.back fl hl) (Rep.era (vs := vs) (g.ff l _ upd_same) nl rv)⟩
theorem pn_thaw {ds : List D} (z : Fz l dl δ δ') (h : PE X e (tN K δ' μ ds)) (nl : noLL ds = true) (il : isL dl = true) : PE X e (tN K δ ((l, dl) :: μ) ds) :=
  PE.mono h fun σ H Q ⟨F, S, k⟩ => by
    obtain ⟨u, hl, fl, r, e1, s1⟩ := S.frz z
    obtain ⟨vs, rfl⟩ := isL_obj il r
    refine ⟨_, s1, fun l2 us F' H' g h0 hn hl2 rv => ?_⟩
    have ne : l2 ≠ l := fun q => by subst q; rw [hl] at h0; cases h0
    exact k l2 us (Bl.era F' l) H' (g.back fl hl) h0 (by rw [era_ne ne]; exact hn) hl2 (RepL.era (vs := vs) (g.ff l _ upd_same) nl rv)
theorem pt_thaw {q : Prop} (z : Fz l dl δ δ') (h : PT X e (tP K δ' μ q)) (il : isL dl = true) : PT X e (tP K δ ((l, dl) :: μ) q) :=
  PT.mono h fun σ H Q ⟨F, S, k⟩ => by
    obtain ⟨u, hl, fl, r, e1, s1⟩ := S.frz z
    exact ⟨_, s1, fun v F' H' g rv => k v (Bl.era F' l) H' (g.back fl hl) rv⟩
/-- x.append(e), x.extend(e), x.clear(), x[i] = e -/
theorem psd_append {ds : List D} (ho : PE X ob (tD X.K δ ((l, .lst ds) :: μ) (.mref l))) (ha : PE X a (tD X.K δ ((l, .lst ds) :: μ) d)) (hl : ds.length < 10000)
    (hs : swapsWith (.Call (.Attribute ob "append" apos) [a] [] cpos) none pos.line X.env = pure false := by rfl)
    (hbase : attributeBase ob "append" X.env (eval ob X.env) = eval ob X.env := by rfl)
    (hfew : ((backTo cpos (starEach [a] X.env)).all (fun x => !x.1) && (backToKw cpos (keywordEach [] X.env)).all (fun x => x.1.isSome)
      && decide (([a] : List Expr).length + ([] : List Keyword).length + (if ([] : List Keyword).isEmpty then 0 else 1) < 30)) = true := by rfl)
    (hline : (apos.endLine == cpos.line) = true := by rfl) (hst : starEach [a] X.env = (false, eval a X.env) :: starEach [] X.env := by rfl) (hplain : (backTo cpos (starEach [] X.env)).any (·.1) = false := by rfl) :
    PS X (.Expr (.Call (.Attribute ob "append" apos) [a] [] cpos) pos) (tS X.K E δ ((l, .lst ds) :: μ) (.nx δ ((l, .lst (ds ++ [d])) :: μ))) :=
  PS.mono (ps_expr (pe_bm PySem.F.plainAttrs_list PySem.F.slot_list_append PySem.F.type_list_append mt_append ho (pas_cons ha pas_nil hst) hbase hfew hline hst hplain) hs) fun Dn σ H ⟨F0, H0, F, s, k⟩ => ⟨F, s.se, fun x F1 H1 g1 rx => by
    have s1 := s.up g1
    obtain ⟨fl, u, hu, vs, e1, rv⟩ := s1.se.mem.at_ _ (List.mem_cons_self ..)
    have e2 : x = .ref l := rx
    subst e2; subst e1
    refine ⟨.inl ⟨rfl, _, .inl (.inl hu)⟩, F1, s1.se, fun ws F2 H2 g2 rw' => ?_⟩
    obtain ⟨y, t, e3, ry, e4⟩ := rw'
    have e5 : t = [] := e4
    subst e5; subst e3
    have s2 := s1.up g2
    have hu2 := g2.hh _ _ hu
    refine ⟨l, vs, y, rfl, rfl, hu2, ?_, k σ F2 _ (s2.put (d' := .lst (ds ++ [d])) ⟨_, rfl, (RepL.mono g2.ff rv).append (RepL.one ry)⟩)⟩
    rw [rv.length]
    exact Nat.lt_of_lt_of_le hl (by decide)⟩
theorem psd_extend {ds es : List D} (ho : PE X ob (tD X.K δ ((l, .lst ds) :: μ) (.mref l))) (ha : PE X a (tD X.K δ ((l, .lst ds) :: μ) d)) (hq : seqO d = some es) (hl : ds.length + es.length ≤ 10000)
    (hs : swapsWith (.Call (.Attribute ob "extend" apos) [a] [] cpos) none pos.line X.env = pure false := by rfl)
    (hbase : attributeBase ob "extend" X.env (eval ob X.env) = eval ob X.env := by rfl)
    (hfew : ((backTo cpos (starEach [a] X.env)).all (fun x => !x.1) && (backToKw cpos (keywordEach [] X.env)).all (fun x => x.1.isSome)
      && decide (([a] : List Expr).length + ([] : List Keyword).length + (if ([] : List Keyword).isEmpty then 0 else 1) < 30)) = true := by rfl)
    (hline : (apos.endLine == cpos.line) = true := by rfl) (hst : starEach [a] X.env = (false, eval a X.env) :: starEach [] X.env := by rfl) (hplain : (backTo cpos (starEach [] X.env)).any (·.1) = false := by rfl) :
    PS X (.Expr (.Call (.Attribute ob "extend" apos) [a] [] cpos) pos) (tS X.K E δ ((l, .lst ds) :: μ) (.nx δ ((l, .lst (ds ++ es)) :: μ))) :=
  PS.mono (ps_expr (pe_bm PySem.F.plainAttrs_list PySem.F.slot_list_extend PySem.F.type_list_extend mt_extend ho (pas_cons ha pas_nil hst) hbase hfew hline hst hplain) hs) fun Dn σ H ⟨F0, H0, F, s, k⟩ => ⟨F, s.se, fun x F1 H1 g1 rx => by
    have s1 := s.up g1
    obtain ⟨fl, u, hu, vs, e1, rv⟩ := s1.se.mem.at_ _ (List.mem_cons_self ..)
    have e2 : x = .ref l := rx
    subst e2; subst e1
    refine ⟨.inl ⟨rfl, _, .inl (.inl hu)⟩, F1, s1.se, fun ws F2 H2 g2 rw' => ?_⟩
    obtain ⟨y, t, e3, ry, e4⟩ := rw'
    have e5 : t = [] := e4
    subst e5; subst e3
    obtain ⟨q, us, e6, ru, hq2⟩ := rep_own ry hq
    subst e6
    have s2 := s1.up g2
    have hu2 := g2.hh _ _ hu
    refine ⟨l, q, vs, us, rfl, rfl, hu2, g2.fh _ _ hq2, ?_, k σ F2 _ (s2.put (d' := .lst (ds ++ es)) ⟨_, rfl, (RepL.mono g2.ff rv).append ru⟩)⟩
    rw [rv.length, ru.length]
    exact small_line hl⟩
theorem psd_clear {ds : List D} (ho : PE X ob (tD X.K δ ((l, .lst ds) :: μ) (.mref l)))
    (hs : swapsWith (.Call (.Attribute ob "clear" apos) [] [] cpos) none pos.line X.env = pure false := by rfl)
    (hbase : attributeBase ob "clear" X.env (eval ob X.env) = eval ob X.env := by rfl)
    (hline : (apos.endLine == cpos.line) = true := by rfl) :
    PS X (.Expr (.Call (.Attribute ob "clear" apos) [] [] cpos) pos) (tS X.K E δ ((l, .lst ds) :: μ) (.nx δ ((l, .lst []) :: μ))) :=
  PS.mono (ps_expr (pe_bm0 PySem.F.plainAttrs_list PySem.F.slot_list_clear PySem.F.type_list_clear mt_clear ho hbase hline) hs) fun Dn σ H ⟨F0, H0, F, s, k⟩ => ⟨F, s.se, fun x F1 H1 g1 rx => by
    have s1 := s.up g1
    obtain ⟨fl, u, hu, vs, e1, rv⟩ := s1.se.mem.at_ _ (List.mem_cons_self ..)
    have e2 : x = .ref l := rx
    subst e2; subst e1
    exact ⟨.inl ⟨rfl, _, .inl (.inl hu)⟩, l, vs, rfl, rfl, hu, k σ F1 _ (s1.put (d' := .lst []) ⟨_, rfl, rfl⟩)⟩⟩
theorem RepL.set {F : Hp} : ∀ {ds : List D} {vs : List V} {d : D} {v : V} (n : Nat), RepL K F ds vs → Rep K F d v → RepL K F (ds.set n d) (vs.set n v)
  | [], vs, d, v, n, h, r => by
    have z : vs = [] := h
    subst z
    exact h
  | x :: ds, vs, d, v, 0, h, r => by
    obtain ⟨y, t, e1, h1, h2⟩ := h
    subst e1
    exact ⟨v, t, rfl, r, h2⟩
  | x :: ds, vs, d, v, n + 1, h, r => by
    obtain ⟨y, t, e1, h1, h2⟩ := h
    subst e1
    exact ⟨y, t.set n v, rfl, h1, RepL.set n h2 r⟩
theorem psd_setix {ds : List D} {i : Int} {j : Nat} {ix : Expr} (he : PE X e (tD X.K δ ((l, .lst ds) :: μ) d)) (ho : PE X ob (tD X.K δ ((l, .lst ds) :: μ) (.mref l))) (hi : PE X ix (tD X.K δ ((l, .lst ds) :: μ) (.int i))) (hj : ixN ds.length i = some j)
    (ha : ∀ v, assign (.Subscript ob ix pos') X.env v = (do
      let ov ← holding [v] (eval ob X.env)
      let iv ← holding [v, ov] (eval ix X.env)
      standAt pos'
      holding [v, ov, iv] (setItem ov iv v)
      release [v, ov, iv] []) := by intro _; rfl)
    (hs : swapsWithSole [.Subscript ob ix pos'] e pos.line X.env = pure false := by rfl) (hw : swappedStores [.Subscript ob ix pos'] e X.env = pure none := by rfl)
    (h1 : (assignEach [.Subscript ob ix pos'] X.env).map (·.2) = [assign (.Subscript ob ix pos') X.env] := by rfl) :
    PS X (.Assign [.Subscript ob ix pos'] e pos) (tS X.K E δ ((l, .lst ds) :: μ) (.nx δ ((l, .lst (ds.set j d)) :: μ))) :=
  PS.mono (ps_asg he (pg_sub ho hi set_list ha) hs hw h1) fun Dn σ H ⟨F0, H0, F, s, k⟩ => ⟨F, s.se, fun v F1 H1 g1 rv => ⟨F1, (s.up g1).se, fun x F2 H2 g2 rx => ⟨F2, ((s.up g1).up g2).se, fun y F3 H3 g3 ry => by
    have s3 := ((s.up g1).up g2).up g3
    obtain ⟨fl, u, hu, vs, e1, rl⟩ := s3.se.mem.at_ _ (List.mem_cons_self ..)
    have e2 : x = .ref l := rx
    have e3 : y = .int i := ry
    subst e2; subst e1; subst e3
    exact ⟨l, vs, i, j, rfl, rfl, hu, by rw [rl.length]; exact hj, k σ F3 _ (s3.put (d' := .lst (ds.set j d)) ⟨_, rfl, RepL.set j rl (Rep.mono (g2.ff.trans g3.ff) rv)⟩)⟩⟩⟩⟩
/-- return of a new list -/
theorem psd_retN {ds : List D} (he : PE X e (tN K δ μ ds)) : PS X (.Return (some e) pos) (tS K E δ μ (.rn ds)) :=
  PS.mono (ps_ret he) fun Dn σ H ⟨F0, H0, F, s, k⟩ => ⟨F, s.se, fun l vs F1 H1 g h0 hn hl r => k l vs F1 H1 (s.gr.trans g) (s.gr.hh.none h0) hn hl r⟩
/-- isinstance of an own instance -/
structure InF (K : PySem.W.Frag) (C : Addr) : Prop where
  ha : PySem.W.findIn K (.ref C) "__class__" = some (some (.builtin "object.__class__"))
  hn : PySem.W.specialIn K (.builtin "object.__class__") "__get__" = some (some (.builtin "getset_descriptor.__get__"))
  htk : PySem.W.takesIn K (.builtin "object.__class__") = some true
  hm : PySem.W.mroIn K C (.type "object") = some true
theorem pd_isins {C C' : Addr} {ns : List Str} {ds : List D} {y : Str} {py : Pos} {r : Bool} (cl : Cls X.K C) (inf : InF X.K C) (hg : Gl X "isinstance") (hm : X.mg "isinstance" = none)
    (ha : PE X a (tD X.K δ μ (.ins C ns ds))) (hgy : Gl X y) (hdy : (y == ("__debug__" : Str)) = false) (hmy : X.mg y = some (.ref C')) (hk : PySem.W.kitOne X.K (.ref C) (.ref C') = some r)
    (hst : starEach [a, .Name y py] X.env = (false, eval a X.env) :: starEach [.Name y py] X.env := by rfl) (hst2 : starEach [.Name y py] X.env = (false, eval (.Name y py) X.env) :: starEach [] X.env := by rfl) (hpl : (backTo pos (starEach [.Name y py] X.env)).any (·.1) = false := by rfl) :
    PE X (.Call (.Name "isinstance" p) [a, .Name y py] [] pos) (tD X.K δ μ (.bl r)) :=
  PE.mono (pe_callB call_isi hg hm boot_isinst (pa_cons ha (pa_cons (pe_glob (v := .ref C') hgy hmy rfl hdy) pa_nil hst2) hst) (by decide +kernel) (by decide +kernel) hst hpl) fun σ H Q ⟨F, S, k⟩ => ⟨F, S, fun v F1 H1 g r1 => by
    obtain ⟨q, dx, vs, e1, hq, rv, hl⟩ := id r1
    subst e1
    exact ⟨.ref q, .ref C', .ref C, .ref C', r, rfl, .own C', .base (.ins (g.fh _ _ hq) cl inf.ha inf.hn inf.htk inf.hm), hk, k _ F1 H1 g rfl⟩⟩
end
/-! defs: __init__, those that hand back a new list -/
section
variable {P : Program} {w : World} {K : PySem.W.Frag} {mg : Str → Option Value} {base : Heap}
def ocI (C : Addr) (ns : List Str) (p : Addr) (δ' : De) : Except Value (List D) → Oc
  | .ok es => .nx δ' [(p, .ins C ns es)]
  | .error c => .ex c
theorem init_ok {x qual : Str} {st : Stmt} {f C : Addr} {fd : FuncData} {N ps ns : List Str} {k : Nat} {R : List D → Except Value (List D) → Prop} (F : Fun K x qual st f fd) (S : FnScope N ps (defScope st)) (hl : ∀ ds r, R ds r → ds.length + 1 = ps.length) (hN : ps.length ≤ N.length)
    (body : ∀ (cdv : Value) (A : Around) (outer : List Env) (s : Shared) (H : Hp) (E : XK) (ds : List D) (r : Except Value (List D)) (p : Addr), Room k (A.deeper (PyProof.Rows.envOfC qual (defScope st) s.heap.objs.size f cdv)) → R ds r →
      ∃ δ', PSs (cxD P w K mg base N qual st f cdv A outer s H E) (defBody st) (tS K E (some (.mref p) :: ds.map some ++ List.replicate (N.length - (ds.length + 1)) none) [(p, .ins C [] [])]
        (ocI C ns p δ' r))) :
    FnOk P w K mg base (L2.CX P w) (k + 1) f fd ps (spI K C ns R) := by
  refine F.okX S (fun vs H Q E h => ?_) (fun cdv A outer s H vs Q E hr h => ?_)
  · obtain ⟨p, dx, us, H1, G, ds, r, rfl, _, _, _, _, _, rv, hR, _⟩ := h
    rw [List.length_cons, rv.length]; exact hl ds r hR
  · obtain ⟨p, dx, us, H1, G, ds, r, e1, hp, hdx, hne, e2, e, rv, hR, kk⟩ := h
    subst e1
    obtain ⟨δ', hb⟩ := body cdv A outer s H E ds r p hr hR
    refine ⟨_, hb, ?_⟩
    have gp : G p = none := e.none hp
    have eh : Ex H1 H := fun a u q => by
      rw [e2, upd_ne (ne_of_none q hp), upd_ne (ne_of_none q hdx)]; exact q
    have hH : H p = some (.ins C dx []) := by rw [e2, upd_same]
    have hd : ds.length + 1 ≤ N.length := by rw [hl ds r hR]; exact hN
    have rv2 : RepL K G (.mref p :: ds) (V.ref p :: us) := ⟨_, _, rfl, rfl, rv⟩
    refine ⟨G, H1, G, ⟨⟨e.trans eh, start_env N rv2 hd, ⟨by simp, fun m hm => ?_⟩⟩, ⟨Ex.refl _, e.trans eh, eh, fun _ _ _ n => n⟩, fun m hm => ?_⟩, ?_⟩
    · have em : m = (p, D.ins C [] []) := by simpa using hm
      subst em
      exact ⟨gp, _, hH, dx, [], rfl, rfl, rfl⟩
    · have em : m = (p, D.ins C [] []) := by simpa using hm
      subst em
      exact hp
    · cases r with
      | ok es =>
        intro σ' F' H' s'
        obtain ⟨fl, u, hu, r'⟩ := s'.se.mem.at_ (p, .ins C ns es) (by simp)
        have e3 : Ex F' (upd F' p u) := Ex.new fl
        refine kk (upd F' p u) H' ⟨s'.gr.ff.trans e3, fun a u2 q => ?_, s'.gr.hh, fun a u2 q n => ?_⟩ ((r'.mono e3).rep upd_same)
        · by_cases z : a = p
          · subst z; rw [upd_same] at q; cases q; exact hu
          · rw [upd_ne z] at q; exact s'.gr.fh a u2 q
        · rw [upd_ne (ne_of_none q hp)]; exact s'.gr.nf a u2 q n
      | error c => exact fun F' H' g => kk F' H' g
/-- from the arguments' data to a new list's -/
def spN (K : PySem.W.Frag) (R : List D → Except Value (List D) → Prop) : Sp := fun vs H Q E => ∃ F ds r, Ex F H ∧ RepL K F ds vs ∧ R ds r ∧
  match r with
  | .ok es => ∀ l us F' H', Gr F H F' H' → H l = none → F' l = none → H' l = some (.lst us) → RepL K F' es us → Q (.ref l) H'
  | .error c => ∀ F' H', Gr F H F' H' → E c none H'
def ocOfN : Except Value (List D) → Oc
  | .ok d => .rn d
  | .error c => .ex c
theorem def_okN {x qual : Str} {st : Stmt} {f : Addr} {fd : FuncData} {N ps : List Str} {k : Nat} {R : List D → Except Value (List D) → Prop} (F : Fun K x qual st f fd) (S : FnScope N ps (defScope st)) (hl : ∀ ds r, R ds r → ds.length = ps.length) (hN : ps.length ≤ N.length)
    (body : ∀ (cdv : Value) (A : Around) (outer : List Env) (s : Shared) (H : Hp) (E : XK) (ds : List D) (r : Except Value (List D)), Room k (A.deeper (PyProof.Rows.envOfC qual (defScope st) s.heap.objs.size f cdv)) → R ds r →
      PSs (cxD P w K mg base N qual st f cdv A outer s H E) (defBody st) (tS K E (ds.map some ++ List.replicate (N.length - ds.length) none) [] (ocOfN r))) :
    FnOk P w K mg base (L2.CX P w) (k + 1) f fd ps (spN K R) := by
  refine F.okX S (fun vs H Q E h => ?_) (fun cdv A outer s H vs Q E hr h => ?_)
  · obtain ⟨G, ds, r, _, rv, hR, _⟩ := h
    rw [rv.length]; exact hl ds r hR
  · obtain ⟨G, ds, r, e, rv, hR, k⟩ := h
    refine ⟨_, body cdv A outer s H E ds r hr hR, ?_⟩
    have hd : ds.length ≤ N.length := by rw [hl ds r hR]; exact hN
    refine ⟨G, H, G, ⟨⟨e, start_env N rv hd, .nil⟩, Gr.refl e, fun m hm => absurd hm (by simp)⟩, ?_⟩
    cases r with
    | ok d => exact fun l us F' H' g h0 hn hl r' => k l us F' H' g h0 hn hl r'
    | error c => exact fun F' H' g => k F' H' g
structure CalN (P : Program) (w : World) (K : PySem.W.Frag) (mg : Str → Option Value) (base : Heap) (x : Str) (k : Nat) (ps : List Str) (R : List D → Except Value (List D) → Prop) : Prop where
  ex : ∃ f fd, FnOk P w K mg base (L2.CX P w) k f fd ps (spN K R) ∧ mg x = some (.ref f) ∧ PySem.W.keepIn K (.ref f) = true ∧ Binds K fd ps []
structure CalNM (P : Program) (w : World) (K : PySem.W.Frag) (mg : Str → Option Value) (base : Heap) (C : Addr) (x : Str) (k : Nat) (ps : List Str) (R : List D → Except Value (List D) → Prop) : Prop where
  cl : Cls K C
  ex : ∃ f fd, FnOk P w K mg base (L2.CX P w) k f fd ps (spN K R) ∧ Meth K C x f ∧ Binds K fd ps []
end
section
variable {X : Cx} {δ : De} {μ : Me} {a b c e o : Expr} {es : List Expr} {pos p apos : Pos} {x m : Str} {k j : Nat} {ps ns : List Str} {R : List D → Except Value (List D) → Prop} {ds ds' : List D} {d : D} {C : Addr}
theorem pn_call (c : CalN X.prog X.w X.K X.mg X.base x k ps R) (hr : Room j X.A) (hk : k ≤ j) (hg : Gl X x) (ha : PA X (e :: es) (tAs X.K δ μ ds)) (hR : R ds (.ok ds'))
    (hdb : (x == ("__debug__" : Str)) = false := by decide) (he : starEach (e :: es) X.env = (false, eval e X.env) :: starEach es X.env := by rfl) (hpl : (backTo pos (starEach es X.env)).any (·.1) = false := by rfl) :
    PE X (.Call (.Name x p) (e :: es) [] pos) (tN X.K δ μ ds') := by
  obtain ⟨f, fd, F, hm, hkp, hb⟩ := c.ex
  refine PE.mono (pe_call F (hr.mono hk) hg hm hkp hb .nil passL ha hdb he hpl) fun σ H Q ⟨F, S, w⟩ => ⟨F, S, fun vs F1 H1 g r => ?_⟩
  exact ⟨F1, ds, .ok ds', g.fh, by rw [List.append_nil]; exact r, hR, fun l us F2 H2 g2 h0 hn hl rv => w l us F2 H2 (g.trans g2) (g.hh.none h0) hn hl rv⟩
theorem pn_meth {dso : List D} (c : CalNM X.prog X.w X.K X.mg X.base C m k ps R) (ho : PE X o (tD X.K δ μ (.ins C ns dso))) (hr : Room j X.A) (hk : k ≤ j) (ha : PA X (e :: es) (tAs X.K δ μ ds)) (hn : ns.contains m = false) (hR : R (.ins C ns dso :: ds) (.ok ds')) {pl : Sem Bool}
    (hst : starEach (e :: es) X.env = (false, eval e X.env) :: starEach es X.env := by rfl) (hpl : (backTo pos (starEach es X.env)).any (·.1) = false := by rfl)
    (ht : eval (.Call (.Attribute o m apos) (e :: es) [] pos) X.env = (do
      let ov ← eval o X.env
      standAt apos.atName
      let (f, first) ← holding [ov] (getMethod ov m pl)
      callWith pos f first (backTo pos (starEach (e :: es) X.env)) (backToKw pos (keywordEach [] X.env))) := by rfl) :
    PE X (.Call (.Attribute o m apos) (e :: es) [] pos) (tN X.K δ μ ds') := by
  obtain ⟨f, fd, F, hm, hb⟩ := c.ex
  refine PE.mono (pe_meth (pl := pl) ho c.cl hm F (hr.mono hk) hb .nil passL ha hst hpl ht) fun σ H Q ⟨F, S, w⟩ => ⟨F, S, fun v F1 H1 g r => ?_⟩
  obtain ⟨q, dx, vs, e1, hp, rv, hl⟩ := id r
  refine ⟨q, dx, _, e1, g.fh _ _ hp, zip_none hn, F1, S.mono g, fun us F2 H2 g2 r2 => ?_⟩
  refine ⟨F2, _, .ok ds', g2.fh, ?_, hR, fun l us' F3 H3 g3 h0 hn' hl' r3 => w l us' F3 H3 ((g.trans g2).trans g3) ((g.trans g2).hh.none h0) hn' hl' r3⟩
  rw [List.append_nil]
  exact ⟨_, _, rfl, Rep.mono g2.ff r, r2⟩
theorem pxN_meth {E : XK} {c' : Value} {dso : List D} (c : CalNM X.prog X.w X.K X.mg X.base C m k ps R) (hx : Passes (L2.CX X.prog X.w) X E) (ho : PE X o (tD X.K δ μ (.ins C ns dso))) (hr : Room j X.A) (hk : k ≤ j) (ha : PA X (e :: es) (tAs X.K δ μ ds)) (hn : ns.contains m = false)
    (hR : R (.ins C ns dso :: ds) (.error c')) {pl : Sem Bool}
    (hst : starEach (e :: es) X.env = (false, eval e X.env) :: starEach es X.env := by rfl) (hpl : (backTo pos (starEach es X.env)).any (·.1) = false := by rfl)
    (ht : eval (.Call (.Attribute o m apos) (e :: es) [] pos) X.env = (do
      let ov ← eval o X.env
      standAt apos.atName
      let (f, first) ← holding [ov] (getMethod ov m pl)
      callWith pos f first (backTo pos (starEach (e :: es) X.env)) (backToKw pos (keywordEach [] X.env))) := by rfl) :
    PE X (.Call (.Attribute o m apos) (e :: es) [] pos) (tX X.K E δ μ c') := by
  obtain ⟨f, fd, F, hm, hb⟩ := c.ex
  refine PE.mono (pe_meth (pl := pl) ho c.cl hm F (hr.mono hk) hb .nil hx ha hst hpl ht) fun σ H Q ⟨F, S, w⟩ => ⟨F, S, fun v F1 H1 g r => ?_⟩
  obtain ⟨q, dx, vs, e1, hp, rv, hl⟩ := id r
  refine ⟨q, dx, _, e1, g.fh _ _ hp, zip_none hn, F1, S.mono g, fun us F2 H2 g2 r2 => ?_⟩
  refine ⟨F2, _, .error c', g2.fh, ?_, hR, fun F3 H3 g3 => w F3 H3 ((g.trans g2).trans g3)⟩
  rw [List.append_nil]
  exact ⟨_, _, rfl, Rep.mono g2.ff r, r2⟩
end
end Bl
namespace Bl
open PySem L2
section
variable {X : Cx} {δ δ' : De} {μ μ' : Me} {o : Oc} {E : XK} {st : Stmt} {rest body : List Stmt} {a b c e tgt iter : Expr} {pos p pos' : Pos} {d d1 d2 dl : D} {l : Addr}
theorem wipe_wipe : ∀ (js : List Nat) (τ : St), wipe (wipe τ js) js = wipe τ js := by
  intro js
  induction js with
  | nil => intro τ; rfl
  | cons j js ih =>
    intro τ
    have key : ∀ (ks : List Nat) (ρ : St), (wipe (ρ.set j none) ks).set j none = (wipe ρ ks).set j none := by
      intro ks
      induction ks with
      | nil => intro ρ; exact List.set_set _ ..
      | cons k ks ih2 =>
        intro ρ
        show ((wipe (ρ.set j none) ks).set k none).set j none = ((wipe ρ ks).set k none).set j none
        by_cases q : k = j
        · subst q; rw [ih2 ρ]
        · rw [List.set_comm _ _ q, List.set_comm _ _ q, ih2 ρ]
    show (wipe ((wipe τ js).set j none) js).set j none = (wipe τ js).set j none
    rw [key js (wipe τ js), ih τ]
/-- a comprehension, place by place -/
theorem pn_lcI {elt iter : Expr} {scope : Scope} {own : List (Str × Nat)} {ds es : List D} (T : Nat → D → De) (hc : X.calm = true) (hN : X.N.Nodup) (hi : PI X tgt iter (tI X.K δ μ ds)) (ok : BlkOk X.N X.env.scope scope own)
    (hg : ∀ i x, ds[i]? = some x → ∀ (s : Shared) (H : Hp) (C : Addr) (cl : List (Str × Addr)) (fp : List Addr), PG (X.blk s H scope (compEnvC scope cl C X.env) fp) tgt (tG X.K (own.map (·.2)) (wipeD δ (own.map (·.2))) μ x (T i x)))
    (he : ∀ i x y, ds[i]? = some x → es[i]? = some y → ∀ (s : Shared) (H : Hp) (C : Addr) (cl : List (Str × Addr)) (fp : List Addr), PE (X.blk s H scope (compEnvC scope cl C X.env) fp) elt (tD X.K (T i x) μ y))
    (hn : es.length = ds.length) (hl : ds.length ≤ 10000) (hs : ∀ x, foldedSetIterable iter X.env x = pure x := by intro _; rfl) : PE X (.ListComp elt [⟨tgt, iter, [], 0⟩] scope pos) (tN X.K δ μ es) := by
  let ι := { q : Nat × D // ds[q.1]? = some q.2 }
  let ι2 := { q : Nat × D × D // ds[q.1]? = some q.2.1 ∧ es[q.1]? = some q.2.2 }
  let g : TG := fun v σ H Q => ∃ q : ι, tG X.K (own.map (·.2)) (wipeD δ (own.map (·.2))) μ q.1.2 (T q.1.1 q.1.2) v σ H Q
  let te : TE := fun σ H Q => ∃ q : ι2, tD X.K (T q.1.1 q.1.2.1) μ q.1.2.2 σ H Q
  refine PE.mono (pe_lc (g := g) (tt := tYes) (te := te) hc hN hi ok (fun s H C cl fp => PG.union fun q => hg q.1.1 q.1.2 q.2 s H C cl fp) (fun _ _ _ _ _ => pts_nil) (fun s H C cl fp => PE.union fun q => he q.1.1 q.1.2.1 q.1.2.2 q.2.1 q.2.2 s H C cl fp) hs) fun σ H Q ⟨F, S, k⟩ => ⟨F, S, fun J F1 H1 g1 dw => fun L hL => ?_⟩
  obtain ⟨Gw, Y, hw, hGw, hY⟩ := dw.ex
  have S1 := S.mono g1
  refine lc_it (g := g) (tt := tYes) (te := te) (σ := σ) (Qd := fun H => Q (.ref L) H) hw (fun i H2 => ∃ F2 acc, Gr F1 H1 F2 H2 ∧ F2 L = none ∧ H2 L = some (.lst acc) ∧ RepL X.K F2 (es.take i) acc) ⟨F1, [], Gr.newH g1.fh hL, g1.fh.none hL, upd_same, rfl⟩ (fun i H2 _ ⟨F2, acc, g2, _⟩ => hGw F2 H2 g2.ff g2.fh) ?_ ?_
  · rintro i x H2 H3 hi2 ⟨F2, acc, g2, fl, hl2, ra⟩ y
    obtain ⟨F3, dd, hd, g3, r3⟩ := hY i H2 x H3 hi2 y F2 g2.ff g2.fh
    have S3 : SE X.K δ μ σ F3 H3 := S1.mono (g2.trans g3)
    have hei : i < es.length := by rw [hn]; exact hi2
    obtain ⟨ee, hee⟩ : ∃ ee, es[i]? = some ee := ⟨es[i], List.getElem?_eq_getElem hei⟩
    refine ⟨⟨(i, dd), hd⟩, F3, ⟨S3.fh, S3.env.wiped _, S3.mem⟩, r3, fun σ4 en wq => ⟨wq.trans (wipe_wipe _ σ), ?_⟩⟩
    refine tyes ?_
    rw [if_pos rfl]
    refine ⟨⟨(i, dd, ee), hd, hee⟩, F3, ⟨S3.fh, en, S3.mem⟩, fun v F4 H4 g4 r4 => ?_⟩
    have g5 := (g2.trans g3).trans g4
    have l4 : H4 L = some (.lst acc) := (g3.trans g4).hh _ _ hl2
    have fl4 : F4 L = none := (g3.trans g4).nf _ _ hl2 fl
    refine ⟨acc, l4, ?_, F4, acc ++ [v], ⟨g5.ff, fun b u q => ?_, fun b u q => ?_, g5.nf⟩, fl4, upd_same, ?_⟩
    · rw [ra.length, List.length_take]
      exact Nat.lt_of_lt_of_le (show min i es.length < 10001 by omega) (by decide)
    · rw [upd_ne (ne_of_none q fl4)]; exact g5.fh _ _ q
    · rw [upd_ne (ne_of_none q hL)]; exact g5.hh _ _ q
    · rw [List.take_add_one, hee]
      exact (RepL.mono (g3.trans g4).ff ra).append (RepL.one r4)
  · rintro H2 ⟨F2, acc, g2, fl, hl2, ra⟩
    rw [← hn, List.take_length] at ra
    exact k L acc F2 H2 (g1.trans g2) (g1.hh.none hL) fl hl2 ra
/-- a for over a list that is not frozen; its turns leave nothing -/
theorem psd_forMI {ds : List D} {js : List Nat} (δ1 : De) (T : D → De) (hp : PassesOwn (model X.prog X.w) X.A X.env X.xe) (hc : X.calm = true) (he : PE X iter (tD X.K δ ((l, .lst ds) :: μ) (.mref l)))
    (h0 : Wk δ δ1) (hg : ∀ vs x, x ∈ ds → PG X tgt (tG X.K js δ1 ((l, .lv vs ds) :: μ) x (T x))) (hb : ∀ vs x, x ∈ ds → PSs X body (tS X.K E (T x) ((l, .lv vs ds) :: μ) (.nx δ1 ((l, .lv vs ds) :: μ))))
    (hs : ∀ x, foldedSetIterable iter X.env x = pure x := by intro _; rfl) : PS X (.For tgt iter body [] pos) (tS X.K E δ ((l, .lst ds) :: μ) (.nx δ1 ((l, .lst ds) :: μ))) := by
  let ι := { q : List V × D // q.2 ∈ ds }
  let g : TG := fun v σ H Q => ∃ q : ι, tG X.K js δ1 ((l, .lv q.1.1 ds) :: μ) q.1.2 (T q.1.2) v σ H Q
  let tb : TS := fun Dn σ H => ∃ q : ι, tS X.K E (T q.1.2) ((l, .lv q.1.1 ds) :: μ) (.nx δ1 ((l, .lv q.1.1 ds) :: μ)) Dn σ H
  have hG : PG X tgt g := PG.union fun q => hg q.1.1 q.1.2 q.2
  have hB : PSs X body tb := PSs.union fun q => hb q.1.1 q.1.2 q.2
  refine PS.mono (ps_for hp hc (pi_list he) hG hB hs) fun Dn σ H ⟨F0, H0, F, s, k⟩ => ⟨F, s.se, fun v F1 H1 g1 r1 => ?_⟩
  have s1 := s.up g1
  obtain ⟨fl, u, hu, vs, e1, rv⟩ := s1.se.mem.at_ _ (List.mem_cons_self ..)
  have e2 : v = .ref l := r1
  subst e1; subst e2
  refine ⟨l, rfl, ⟨vs, .inl (.inl hu)⟩, ?_⟩
  have toLv : ∀ {δ : De} {σ : St} {F H : Hp}, SR X.K F0 H0 δ ((l, .lst ds) :: μ) σ F H → H l = some (.lst vs) → RepL X.K F ds vs → SR X.K F0 H0 δ ((l, .lv vs ds) :: μ) σ F H := by
    intro δ σ F H s h r
    refine ⟨⟨s.se.fh, s.se.env, ⟨s.se.mem.nd, fun m hm => ?_⟩⟩, s.gr, fun m hm => ?_⟩
    · rcases List.mem_cons.mp hm with rfl | hm
      · exact ⟨(s.se.mem.at_ (l, .lst ds) (by simp)).1, _, h, rfl, r⟩
      · exact s.se.mem.at_ m (by simp [hm])
    · rcases List.mem_cons.mp hm with rfl | hm
      · exact s.fr (l, .lst ds) (by simp)
      · exact s.fr m (by simp [hm])
  have ofLv : ∀ {δ : De} {σ : St} {F H : Hp}, SR X.K F0 H0 δ ((l, .lv vs ds) :: μ) σ F H → SR X.K F0 H0 δ ((l, .lst ds) :: μ) σ F H := by
    intro δ σ F H s
    refine ⟨⟨s.se.fh, s.se.env, ⟨s.se.mem.nd, fun m hm => ?_⟩⟩, s.gr, fun m hm => ?_⟩
    · rcases List.mem_cons.mp hm with rfl | hm
      · obtain ⟨h1, u, h2, h3, h4⟩ := s.se.mem.at_ (l, .lv vs ds) (by simp)
        exact ⟨h1, u, h2, vs, h3, h4⟩
      · exact s.se.mem.at_ m (by simp [hm])
    · rcases List.mem_cons.mp hm with rfl | hm
      · exact s.fr (l, .lv vs ds) (by simp)
      · exact s.fr m (by simp [hm])
  have at_l : ∀ {δ : De} {σ : St} {F H : Hp}, SR X.K F0 H0 δ ((l, .lv vs ds) :: μ) σ F H → H l = some (.lst vs) ∧ RepL X.K F ds vs := by
    intro δ σ F H s
    obtain ⟨h1, u, h2, h3, h4⟩ := s.se.mem.at_ (l, .lv vs ds) (by simp)
    rw [h3] at h2
    exact ⟨h2, h4⟩
  refine for_it (g := g) (tb := tb) (D := Dn) (walk_list (K := X.K) (a := l) (xs := vs)) (fun i σ H => ∃ F', SR X.K F0 H0 δ1 ((l, .lv vs ds) :: μ) σ F' H) ⟨F1, (toLv s1 hu rv).weak h0⟩ (fun i σ H _ ⟨F', s2⟩ => .inl (.inl (at_l s2).1)) ?_ ?_
  · rintro i x σ2 H2 H3 hi2 ⟨F2, s2⟩ y
    obtain ⟨rfl, hx⟩ := y
    obtain ⟨_, rl⟩ := at_l s2
    obtain ⟨dd, hd, rd⟩ := rl.back hx
    have hm : dd ∈ ds := List.mem_of_getElem? hd
    refine ⟨⟨(vs, dd), hm⟩, F2, s2.se, rd, fun σ4 en _ => ⟨⟨(vs, dd), hm⟩, F0, H0, F2, ⟨⟨s2.se.fh, en, s2.se.mem⟩, s2.gr, s2.fr⟩, fun σ5 F5 H5 s5 => ⟨F5, s5⟩⟩⟩
  · rintro σ2 H2 ⟨F2, s2⟩
    exact k σ2 F2 H2 (ofLv s2)
/-- x = [a new list that will be changed, e] -/
theorem pss_new2 (i : Nat) {x : Str} {ds : List D} (hN : X.N.Nodup) (hi : X.N[i]? = some x) (hx : Loc X.env.scope x) (ha : PE X a (tN X.K δ μ ds)) (hb : PE X b (tD X.K δ μ d2)) (hs : swapsWith (.List [a, b] p) (some (.Name x pos')) pos.line X.env = pure false)
    (hf : X.fn x = true ∨ X.env.scope.names.lookup x = some .local) (h : ∀ l : Addr, PSs X rest (tS X.K E (δ.set i (some (.lst [.mref l, d2]))) ((l, .lst ds) :: μ) o))
    (hst : starEach [a, b] X.env = (false, eval a X.env) :: starEach [b] X.env := by rfl) (hst2 : starEach [b] X.env = (false, eval b X.env) :: starEach [] X.env := by rfl) : PSs X (.Assign [.Name x pos'] (.List [a, b] p) pos :: rest) (tS X.K E δ μ o) :=
  PSs.mono (pss_cons (ps_set (i := i) hN hi hx (pe_lst (pa_cons ha (pa_cons hb pa_nil hst2) hst)) hs hf) (PSs.union h)) fun Dn σ H ⟨F0, H0, F, s, k⟩ => ⟨F, s.se, fun l vs F1 H1 g h0 hn hl r => ⟨F1, (s.up g).se, fun v F2 H2 g2 r2 => ⟨small_line (by show 2 ≤ 10000; decide), fun q hq => by
    have s2 := (s.up g).up g2
    have hl2 := g2.hh _ _ hl
    have hn2 := g2.nf _ _ hl hn
    have g3 : Gr F2 H2 (upd F2 q (.lst [.ref l, v])) (upd H2 q (.lst [.ref l, v])) := Gr.new g2.fh hq
    have s3 := s2.up g3
    have nq : l ≠ q := ne_of_none hl2 hq
    refine ⟨l, F0, H0, upd F2 q (.lst [.ref l, v]), ⟨⟨s3.se.fh, EnvR.set (d := .lst [.mref l, d2]) s3.se.env ⟨q, _, rfl, upd_same, .ref l, [v], rfl, rfl, v, [], rfl, Rep.mono g3.ff r2, rfl⟩, ⟨?_, fun m hm => ?_⟩⟩, s3.gr, fun m hm => ?_⟩, k⟩
    · rw [List.map_cons, List.nodup_cons]
      refine ⟨fun z => ?_, s3.se.mem.nd⟩
      obtain ⟨m, hm, e1⟩ := List.mem_map.mp z
      obtain ⟨_, u, hu, _⟩ := s.se.mem.at_ m hm
      rw [e1, h0] at hu
      cases hu
    · rcases List.mem_cons.mp hm with rfl | hm
      · exact ⟨by rw [upd_ne nq]; exact hn2, _, by rw [upd_ne nq]; exact hl2, vs, rfl, RepL.mono (g2.ff.trans g3.ff) r⟩
      · exact s3.se.mem.at_ m hm
    · rcases List.mem_cons.mp hm with rfl | hm
      · exact s.gr.hh.none h0
      · exact s.fr m hm⟩⟩⟩
end
end Bl
namespace Bl
open PySem L2
/-! lists and tuples compared -/
mutual
def pyD : D → PyData
  | .non => .none
  | .int i => .int i
  | .bl b => .bool b
  | .tup ds => .tuple (pyDs ds)
  | .lst ds => .list (pyDs ds)
  | .sq ds => .list (pyDs ds)
  | .lv _ ds => .list (pyDs ds)
  | .ins _ _ _ => .none
  | .mref _ => .none
def pyDs : List D → List PyData
  | [] => []
  | d :: ds => pyD d :: pyDs ds
end
mutual
/-- whole numbers, truths, tuples and lists of such, nested less than n deep -/
def isDat : D → Nat → Bool
  | .non, _ => true
  | .int _, _ => true
  | .bl _, _ => true
  | .tup ds, n + 1 => isDats ds n
  | .lst ds, n + 1 => isDats ds n
  | .sq ds, n + 1 => isDats ds n
  | .lv _ ds, n + 1 => isDats ds n
  | _, _ => false
def isDats : List D → Nat → Bool
  | [], _ => true
  | d :: ds, n => isDat d n && isDats ds n
end
theorem isDats_map {α : Type} {f : α → D} {n : Nat} (h : ∀ x, isDat (f x) n = true) : ∀ l : List α, isDats (l.map f) n = true
  | [] => by simp [isDats]
  | x :: l => by rw [List.map_cons]; simp [isDats, h x, isDats_map h l]
mutual
theorem dat_lay : ∀ {d : D} {n : Nat}, isDat d n = true → (pyD d).canLay0 = true ∧ (pyD d).depth ≤ n ∧ PyData.eqv (pyD d) (pyD d) = true
  | .non, n, _ => by simp [pyD, PyData.canLay0, PyData.depth, PyData.eqv]
  | .int i, n, _ => by simp [pyD, PyData.canLay0, PyData.depth, PyData.eqv]
  | .bl b, n, _ => by simp [pyD, PyData.canLay0, PyData.depth, PyData.eqv]
  | .tup ds, 0, h => by simp [isDat] at h
  | .tup ds, n + 1, h => by
    have := dats_lay (ds := ds) (n := n) (by simpa [isDat] using h)
    simp only [pyD, PyData.canLay0, PyData.depth, PyData.eqv]
    exact ⟨this.1, by omega, this.2.2⟩
  | .lst ds, 0, h => by simp [isDat] at h
  | .lst ds, n + 1, h => by
    have := dats_lay (ds := ds) (n := n) (by simpa [isDat] using h)
    simp only [pyD, PyData.canLay0, PyData.depth, PyData.eqv]
    exact ⟨this.1, by omega, this.2.2⟩
  | .sq ds, 0, h => by simp [isDat] at h
  | .sq ds, n + 1, h => by
    have := dats_lay (ds := ds) (n := n) (by simpa [isDat] using h)
    simp only [pyD, PyData.canLay0, PyData.depth, PyData.eqv]
    exact ⟨this.1, by omega, this.2.2⟩
  | .lv _ ds, 0, h => by simp [isDat] at h
  | .lv _ ds, n + 1, h => by
    have := dats_lay (ds := ds) (n := n) (by simpa [isDat] using h)
    simp only [pyD, PyData.canLay0, PyData.depth, PyData.eqv]
    exact ⟨this.1, by omega, this.2.2⟩
  | .ins _ _ _, n, h => by simp [isDat] at h
  | .mref _, n, h => by simp [isDat] at h
theorem dats_lay : ∀ {ds : List D} {n : Nat}, isDats ds n = true → PyData.canLayAll0 (pyDs ds) = true ∧ PyData.depthAll (pyDs ds) ≤ n ∧ PyData.eqvAll (pyDs ds) (pyDs ds) = true
  | [], n, _ => by simp [pyDs, PyData.canLayAll0, PyData.depthAll, PyData.eqvAll]
  | d :: ds, n, h => by
    have h2 : isDat d n = true ∧ isDats ds n = true := by simpa [isDats] using h
    have a := dat_lay h2.1
    have b := dats_lay h2.2
    simp only [pyDs, PyData.canLayAll0, PyData.depthAll, PyData.eqvAll, Bool.and_eq_true]
    exact ⟨⟨a.1, b.1⟩, by omega, a.2.2, b.2.2⟩
end
theorem dat_shaped {d : D} {n : Nat} (h : isDat d n = true) (hn : n ≤ 64) : SeqAt.shaped (pyD d) = true := by
  have := dat_lay h
  unfold SeqAt.shaped
  rw [this.1, decide_eq_true (show (pyD d).depth ≤ 64 by omega)]
  rfl
mutual
theorem dat_dp {K : PySem.W.Frag} {F H : Hp} (e : Ex F H) : ∀ {d : D} {n : Nat} {v : V}, isDat d n = true → Rep K F d v → Dp K H v (pyD d)
  | .non, n, v, _, r => by
    have e1 : v = .non := r
    subst e1
    simp only [pyD]; exact .non
  | .int i, n, v, _, r => by
    have e1 : v = .int i := r
    subst e1
    simp only [pyD]; exact .int i
  | .bl b, n, v, _, r => by
    have e1 : v = .bl b := r
    subst e1
    simp only [pyD]; exact .bl b
  | .tup ds, 0, v, h, r => by simp [isDat] at h
  | .tup ds, n + 1, v, h, r => by
    obtain ⟨p, vs, rfl, hp, rv⟩ := r
    simp only [pyD]
    exact .tup (.of (e _ _ hp)) (dats_dp e (by simpa [isDat] using h) rv)
  | .lst ds, 0, v, h, r => by simp [isDat] at h
  | .lst ds, n + 1, v, h, r => by
    obtain ⟨p, vs, rfl, hp, rv⟩ := r
    simp only [pyD]
    exact .lst (.of (e _ _ hp)) (dats_dp e (by simpa [isDat] using h) rv)
  | .sq ds, 0, v, h, r => by simp [isDat] at h
  | .sq ds, n + 1, v, h, r => by
    obtain ⟨p, vs, rfl, hp, rv⟩ := r
    simp only [pyD]
    exact .lst (e.sql hp) (dats_dp e (by simpa [isDat] using h) rv)
  | .lv us ds, 0, v, h, r => by simp [isDat] at h
  | .lv us ds, n + 1, v, h, r => by
    obtain ⟨p, rfl, hp, rv⟩ := r
    simp only [pyD]
    exact .lst (.of (e _ _ hp)) (dats_dp e (by simpa [isDat] using h) rv)
  | .ins _ _ _, n, v, h, r => by simp [isDat] at h
  | .mref _, n, v, h, r => by simp [isDat] at h
theorem dats_dp {K : PySem.W.Frag} {F H : Hp} (e : Ex F H) : ∀ {ds : List D} {n : Nat} {vs : List V}, isDats ds n = true → RepL K F ds vs → DpAll K H vs (pyDs ds)
  | [], n, vs, _, r => by
    have e1 : vs = [] := r
    subst e1
    simp only [pyDs]; exact .nil
  | d :: ds, n, vs, h, r => by
    obtain ⟨v, t, rfl, r1, r2⟩ := r
    have h2 : isDat d n = true ∧ isDats ds n = true := by simpa [isDats] using h
    simp only [pyDs]
    exact .cons (dat_dp e h2.1 r1) (dats_dp e h2.2 r2)
end
section
variable {X : Cx} {K : PySem.W.Frag} {E : XK} {δ δ' : De} {μ μ' : Me} {o : Oc} {st : Stmt} {rest body : List Stmt} {a b c e tgt iter : Expr} {pos p pos' : Pos} {d d1 d2 : D} {j : Nat}
theorem ptd_eqS (hr : Room j X.A) (ha : PE X a (tD X.K δ μ d1)) (hb : PE X b (tD X.K δ μ d2)) (h : pyD d1 = pyD d2) (i1 : isDat d1 9 = true) (i2 : isDat d2 9 = true) (hm : behindInMarks .Eq b = false := by rfl) : PT X (.Compare a [.Eq] [b] pos) (tP X.K δ μ True) :=
  pt_cmp2 (op_eqD hr.units) hm ha hb fun F H v u Q e r1 r2 k => ⟨pyD d1, pyD d2, dat_dp e i1 r1, dat_dp e i2 r2, dat_shaped i1 (by decide), dat_shaped i2 (by decide), k _ F H (.refl e) (by rw [← h, (dat_lay i1).2.2]; simp)⟩
theorem ptd_neS (hr : Room j X.A) (ha : PE X a (tD X.K δ μ d1)) (hb : PE X b (tD X.K δ μ d2)) (h : pyD d1 = pyD d2) (i1 : isDat d1 9 = true) (i2 : isDat d2 9 = true) (hm : behindInMarks .NotEq b = false := by rfl) : PT X (.Compare a [.NotEq] [b] pos) (tP X.K δ μ False) :=
  pt_cmp2 (op_neD hr.units) hm ha hb fun F H v u Q e r1 r2 k => ⟨pyD d1, pyD d2, dat_dp e i1 r1, dat_dp e i2 r2, dat_shaped i1 (by decide), dat_shaped i2 (by decide), k _ F H (.refl e) (by rw [← h, (dat_lay i1).2.2]; simp)⟩
theorem pd_eqS (hr : Room j X.A) (ha : PE X a (tD X.K δ μ d1)) (hb : PE X b (tD X.K δ μ d2)) (h : pyD d1 = pyD d2) (i1 : isDat d1 9 = true) (i2 : isDat d2 9 = true) (hm : behindInMarks .Eq b = false := by rfl) : PE X (.Compare a [.Eq] [b] pos) (tD X.K δ μ (.bl true)) :=
  pd_cmp2 (op_eqD hr.units) hm ha hb fun F H v u Q e r1 r2 k => ⟨pyD d1, pyD d2, dat_dp e i1 r1, dat_dp e i2 r2, dat_shaped i1 (by decide), dat_shaped i2 (by decide), k _ F H (.refl e) (by rw [← h, (dat_lay i1).2.2]; rfl)⟩
/-! two open lists change places -/
variable {m1 m2 : Addr × D}
theorem SE.swap {F H : Hp} {σ : St} (s : SE K δ (m1 :: m2 :: μ) σ F H) : SE K δ (m2 :: m1 :: μ) σ F H := by
  refine ⟨s.fh, s.env, ⟨?_, fun m hm => s.mem.at_ m ?_⟩⟩
  · have nd := s.mem.nd
    simp only [List.map_cons, List.nodup_cons, List.mem_cons] at nd ⊢
    refine ⟨fun z => ?_, fun z => nd.1 (.inr z), nd.2.2⟩
    rcases z with z | z
    · exact nd.1 (.inl z.symm)
    · exact nd.2.1 z
  · simp only [List.mem_cons] at hm ⊢
    rcases hm with h | h | h
    · exact .inr (.inl h)
    · exact .inl h
    · exact .inr (.inr h)
theorem SR.swap {F0 H0 F H : Hp} {σ : St} (s : SR K F0 H0 δ (m1 :: m2 :: μ) σ F H) : SR K F0 H0 δ (m2 :: m1 :: μ) σ F H :=
  ⟨s.se.swap, s.gr, fun m hm => s.fr m (by
    simp only [List.mem_cons] at hm ⊢
    rcases hm with h | h | h
    · exact .inr (.inl h)
    · exact .inl h
    · exact .inr (.inr h))⟩
theorem pss_swap (h : PSs X body (tS K E δ (m2 :: m1 :: μ) o)) : PSs X body (tS K E δ (m1 :: m2 :: μ) o) :=
  PSs.mono h fun Dn σ H ⟨F0, H0, F, s, k⟩ => ⟨F0, H0, F, s.swap, k⟩
theorem pd_swap (h : PE X e (tD K δ (m2 :: m1 :: μ) d)) : PE X e (tD K δ (m1 :: m2 :: μ) d) := PE.mono h fun σ H Q ⟨F, S, k⟩ => ⟨F, S.swap, k⟩
theorem pn_swap {ds : List D} (h : PE X e (tN K δ (m2 :: m1 :: μ) ds)) : PE X e (tN K δ (m1 :: m2 :: μ) ds) := PE.mono h fun σ H Q ⟨F, S, k⟩ => ⟨F, S.swap, k⟩
theorem pt_swap {q : Prop} (h : PT X e (tP K δ (m2 :: m1 :: μ) q)) : PT X e (tP K δ (m1 :: m2 :: μ) q) := PT.mono h fun σ H Q ⟨F, S, k⟩ => ⟨F, S.swap, k⟩
theorem fz_head {l : Addr} {dl d2 : D} {r t : De} (z : Fz l dl r t) : Fz l dl (some (.lst [.mref l, d2]) :: r) (some (.lst [dl, d2]) :: t) :=
  .rep (fun K F hd v hv => by
    obtain ⟨p, vs, rfl, hp, x, w, rfl, hx, r2⟩ := hv
    have e : x = .ref l := hx
    subst e
    exact ⟨p, _, rfl, hp, .ref l, w, rfl, hd, r2⟩) z
theorem Fz.refl {l : Addr} {dl : D} : ∀ δ : De, Fz l dl δ δ
  | [] => .nil
  | _ :: r => .same (Fz.refl r)
theorem noLL_map {α : Type} {f : α → D} (h : ∀ x, noL (f x) = true) : ∀ l : List α, noLL (l.map f) = true
  | [] => by simp [noLL]
  | x :: l => by rw [List.map_cons]; simp [noLL, h x, noLL_map h l]
theorem times_map {α : Type} (f : α → D) (k : Int) (l : List α) : times k (l.map f) = (List.replicate k.toNat l).flatten.map f := by
  unfold times
  rw [List.map_flatten, List.map_replicate]
end
end Bl
namespace Bl
open PySem L2
/-! zip of a tuple and a list. What hands on values one by one: at c, from the items of l -/
structure Src (P : Program) (w : World) (c l : Addr) (S : Heap → Nat → Prop) (v : Nat → Option Value) : Prop where
  stay : ∀ {h g : Heap} {k : Nat}, S h k → (∀ o, h.get? c = some o → g.get? c = some o) → (∀ o, h.get? l = some o → g.get? l = some o) → S g k
  have_ : ∀ {A : Around} {E : Value → Shared → Prop} {s : Shared} {k : Nat} {x : Value} {Q : Value → Shared → Prop}, S s.heap k → v k = some x →
    (∀ g, S g (k + 1) → Heap.SameBut c s.heap g → Q x { s with heap := g }) → wpAny (model P w) A (Builtin.SmallTypes.nextOf (.ref c)) Q E s
  over : ∀ {A : Around} {E : Value → Shared → Prop} {s : Shared} {k : Nat} {Q : Value → Shared → Prop}, A.handled = none → S s.heap k → v k = none →
    (∀ g e, Heap.ExtBut c s.heap g → (∃ o, g.get? e = some o ∧ o.cls = .type "StopIteration") → E (.ref e) { s with heap := g }) → wpAny (model P w) A (Builtin.SmallTypes.nextOf (.ref c)) Q E s
section
variable {P : Program} {w : World} {A : Around} {E : Value → Shared → Prop} {s : Shared}
theorem src_tup {c l : Addr} {xs : Array Value} (hcl : l ≠ c) : Src P w c l (fun h k => h.IsTupleIter c l k ∧ h.IsTuple l xs) (fun k => xs[k]?) where
  stay := fun st a b => ⟨st.1.at a, by
    obtain ⟨o, h1, h2⟩ := st.2
    exact ⟨o, b o h1, h2⟩⟩
  have_ := fun st hx q => RZ.nextOf_tuple_item st.1 st.2 hx fun g i sb => q g ⟨i, st.2.extBut sb.extBut hcl⟩ sb
  over := fun hh st hx q => RZ.nextOf_tuple_end hh st.1 st.2 hx q
theorem src_lst {c l : Addr} {xs : Array Value} (hcl : l ≠ c) : Src P w c l (fun h k => h.IsListIter c l k ∧ h.IsList l xs) (fun k => xs[k]?) where
  stay := fun st a b => ⟨st.1.at a, by
    obtain ⟨o, h1, h2⟩ := st.2
    exact ⟨o, b o h1, h2⟩⟩
  have_ := fun st hx q => wpAny_nextOf_list_item st.1 st.2 hx fun g i sb => q g ⟨i, st.2.extBut sb.extBut hcl⟩ sb
  over := fun hh st hx q => wpAny_nextOf_list_end hh st.1 st.2 hx q
variable {z t u c d l m : Addr} {S R : Heap → Nat → Prop} {v r : Nat → Option Value}
theorem Src.past (a : Src P w c l S v) {b : Addr} {h g : Heap} {k : Nat} (st : S h k) (e : Heap.ExtBut b h g) (n1 : c ≠ b) (n2 : l ≠ b) : S g k :=
  a.stay st (fun o q => e c o n1 q) fun o q => e l o n2 q
/-- one turn -/
theorem pull_go (a : Src P w c l S v) (b : Src P w d m R r) (D : ZipApart z t u c d l m) {k j : Nat} {x y p q : Value} {Q : Value → Shared → Prop}
    (hz : IsZip s.heap z t u .none) (ht : IsPair s.heap t (.ref c) (.ref d)) (hu : IsPair s.heap u p q) (ha : S s.heap k) (hb : R s.heap j) (hx : v k = some x) (hy : r j = some y)
    (hQ : ∀ g, IsZip g z t u (rawInt s.heap.objs.size) → IsPair g u x y → S g (k + 1) → R g (j + 1) → IsPair g s.heap.objs.size x y → g.objs.size = s.heap.objs.size + 1 →
      (∀ i o, i ≠ z ∧ i ≠ u ∧ i ≠ c ∧ i ≠ d → s.heap.get? i = some o → g.get? i = some o) → Q (.ref s.heap.objs.size) { s with heap := g }) :
    wpAny (model P w) A (Builtin.«zip.__next__» ⟨[.ref z], []⟩) (fun f s' => ∃ v, f = .done (.ret v) ∧ Q v s') E s := by
  show wpAny _ _ (field (.ref z) 2 >>= _) _ _ _
  refine wpAny_bind (wpAny_field hz rfl (x := .bool false) rfl ?_); show wpAny _ _ (field (.ref z) 3 >>= _) _ _ _
  refine wpAny_bind (wpAny_field hz rfl (x := .ref t) rfl ?_); refine wpAny_bind (wpAny_seqItems ht rfl ?_)
  show wpAny _ _ (Builtin.SmallTypes.ownedTupleIsFree (.ref z) >>= _) _ _ _; refine wpAny_bind ?_
  unfold Builtin.SmallTypes.ownedTupleIsFree; refine wpAny_bind (wpAny_field hz rfl (x := .none) rfl (wpAny_pure ?_))
  simp only [if_true]; refine wpAny_bind (wpAny_rule ?_); refine wpAny_bind (wpAny_field hz rfl (x := .ref u) rfl ?_)
  refine wpAny_bind (wpAny_setField_rec hz (by simp) fun g1 z1 s1 => ?_)
  replace z1 : IsZip g1 z t u .ellipsis := z1
  refine wpAny_bind ?_; simp only [List.zipIdx_cons, List.zipIdx_nil, List.forIn_cons, List.forIn_nil]
  refine wpAny_bind (wpAny_bind (wpAny_onRaise ?_)); show wpAny _ _ (Builtin.SmallTypes.nextOf (.ref c) >>= _) _ _ _
  refine wpAny_bind (a.have_ (a.past ha s1.extBut D.i1z D.l1z) hx fun g2 a2 s2 => wpAny_pure ?_)
  have u2 : IsPair g2 u p q := s2.extBut _ _ D.TOi1 (s1.extBut _ _ D.TOz hu)
  refine wpAny_bind (wpAny_seqItems u2 rfl ?_); refine wpAny_bind (wpAny_updateSeq_pair u2 fun g3 u3 s3 => ?_)
  replace u3 : IsPair g3 u x q := u3
  refine wpAny_bind (wpAny_letGo (wpAny_pure ?_)); refine wpAny_bind (wpAny_bind (wpAny_onRaise ?_))
  show wpAny _ _ (Builtin.SmallTypes.nextOf (.ref d) >>= _) _ _ _
  have b3 : R g3 j := b.past (b.past (b.past hb s1.extBut D.i2z D.l2z) s2.extBut D.i12.symm D.l2i1) s3.extBut D.TOi2.symm D.l2TO
  refine wpAny_bind (b.have_ b3 hy fun g4 b4 s4 => wpAny_pure ?_)
  have u4 : IsPair g4 u x q := s4.extBut _ _ D.TOi2 u3
  refine wpAny_bind (wpAny_seqItems u4 rfl ?_); refine wpAny_bind (wpAny_updateSeq_pair u4 fun g5 u5 s5 => ?_)
  replace u5 : IsPair g5 u x y := u5
  refine wpAny_bind (wpAny_letGo (wpAny_pure (wpAny_pure ?_))); refine wpAny_bind (wpAny_seqItems u5 rfl ?_); refine wpAny_bind (wpAny_newTuple ?_)
  have sz : g5.objs.size = s.heap.objs.size := by rw [s5.1, s4.1, s3.1, s2.1, s1.1]
  have z5 : IsZip g5 z t u .ellipsis := s5.extBut _ _ D.TOz.symm (s4.extBut _ _ D.i2z.symm (s3.extBut _ _ D.TOz.symm (s2.extBut _ _ D.i1z.symm z1)))
  have k5 : ∀ i o, i ≠ z ∧ i ≠ u ∧ i ≠ c ∧ i ≠ d → s.heap.get? i = some o → g5.get? i = some o := fun i o n e =>
    s5.extBut _ _ n.2.1 (s4.extBut _ _ n.2.2.2 (s3.extBut _ _ n.2.1 (s2.extBut _ _ n.2.2.1 (s1.extBut _ _ n.1 e))))
  have a5 : S g5 (k + 1) := a.past (a.past (a.past a2 s3.extBut D.TOi1.symm D.l1TO) s4.extBut D.i12 D.l1i2) s5.extBut D.TOi1.symm D.l1TO
  have b5 : R g5 (j + 1) := b.past b4 s5.extBut D.TOi2.symm D.l2TO
  have zlt : z < g5.objs.size := Heap.lt_size z5
  show wpAny _ _ (Builtin.SmallTypes.ownedTupleHandOut (.ref z) (.ref g5.objs.size) >>= _) _ _ _
  refine wpAny_bind ?_; unfold Builtin.SmallTypes.ownedTupleHandOut
  have z6 : IsZip (g5.push { cls := .type "tuple", data := .seq #[x, y] }) z t u .ellipsis := Heap.get?_push_of_some _ z5
  refine wpAny_bind (wpAny_setField_rec z6 (by simp) fun g7 z7 s7 => ?_)
  replace z7 : IsZip g7 z t u (rawInt g5.objs.size) := z7
  refine wpAny_setField_rec z7 (by simp) fun g8 z8 s8 => ?_
  replace z8 : IsZip g8 z t u (rawInt g5.objs.size) := z8
  have up : ∀ i o, i ≠ z → g5.get? i = some o → g8.get? i = some o := fun i o n e => s8.extBut _ _ n (s7.extBut _ _ n (Heap.get?_push_of_some _ e))
  have t8 : IsPair g8 g5.objs.size x y := s8.extBut _ _ (Nat.ne_of_gt zlt) (s7.extBut _ _ (Nat.ne_of_gt zlt) (Heap.get?_push_size _ rfl))
  have n8 : g8.objs.size = g5.objs.size + 1 := by rw [s8.1, s7.1, Heap.size_push]
  rw [sz] at z8 t8 n8
  refine wpAny_pure ⟨_, rfl, ?_⟩
  show Q (.ref g5.objs.size) _
  rw [sz]
  exact hQ g8 z8 (up _ _ D.TOz u5) (a.stay a5 (fun o e => up _ o D.i1z e) fun o e => up _ o D.l1z e) (b.stay b5 (fun o e => up _ o D.i2z e) fun o e => up _ o D.l2z e) t8 n8 fun i o n e => up i o n.1 (k5 i o n e)
/-- none is left -/
theorem pull_end (a : Src P w c l S v) (b : Src P w d m R r) (hh : A.handled = none) (D : ZipApart z t u c d l m) {k j : Nat} {p q : Value} {Q : Fin → Shared → Prop}
    (hz : IsZip s.heap z t u .none) (ht : IsPair s.heap t (.ref c) (.ref d)) (hu : IsPair s.heap u p q) (ha : S s.heap k) (hb : R s.heap j) (hn : v k = none ∨ r j = none)
    (hE : ∀ g e, (∀ i o, i ≠ z ∧ i ≠ u ∧ i ≠ c ∧ i ≠ d → s.heap.get? i = some o → g.get? i = some o) → (∃ o, g.get? e = some o ∧ o.cls = .type "StopIteration") → E (.ref e) { s with heap := g }) :
    wpAny (model P w) A (Builtin.«zip.__next__» ⟨[.ref z], []⟩) Q E s := by
  show wpAny _ _ (field (.ref z) 2 >>= _) _ _ _
  refine wpAny_bind (wpAny_field hz rfl (x := .bool false) rfl ?_); show wpAny _ _ (field (.ref z) 3 >>= _) _ _ _
  refine wpAny_bind (wpAny_field hz rfl (x := .ref t) rfl ?_); refine wpAny_bind (wpAny_seqItems ht rfl ?_)
  show wpAny _ _ (Builtin.SmallTypes.ownedTupleIsFree (.ref z) >>= _) _ _ _; refine wpAny_bind ?_
  unfold Builtin.SmallTypes.ownedTupleIsFree; refine wpAny_bind (wpAny_field hz rfl (x := .none) rfl (wpAny_pure ?_))
  simp only [if_true]; refine wpAny_bind (wpAny_rule ?_); refine wpAny_bind (wpAny_field hz rfl (x := .ref u) rfl ?_)
  refine wpAny_bind (wpAny_setField_rec hz (by simp) fun g1 z1 s1 => ?_)
  replace z1 : IsZip g1 z t u .ellipsis := z1
  refine wpAny_bind ?_; simp only [List.zipIdx_cons, List.zipIdx_nil, List.forIn_cons, List.forIn_nil]
  refine wpAny_bind (wpAny_bind (wpAny_onRaise ?_)); show wpAny _ _ (Builtin.SmallTypes.nextOf (.ref c) >>= _) _ _ _
  cases hx : v k with
  | none =>
    refine wpAny_bind (a.over hh (a.past ha s1.extBut D.i1z D.l1z) hx fun g2 e s2 he => ?_)
    obtain ⟨oe, h1, h2⟩ := he
    have z2 : IsZip g2 z t u .ellipsis := s2 _ _ D.i1z.symm z1
    have ne : e ≠ z := fun x => by
      subst x; rw [z2] at h1
      cases h1; simp at h2
    exact wpAny_setField_rec z2 (by simp) fun g3 _ s3 => hE g3 e (fun i o n x => s3.extBut _ _ n.1 (s2 _ _ n.2.2.1 (s1.extBut _ _ n.1 x))) ⟨oe, s3.extBut _ _ ne h1, h2⟩
  | some x =>
    have hy : r j = none := hn.resolve_left fun h => by rw [hx] at h; cases h
    refine wpAny_bind (a.have_ (a.past ha s1.extBut D.i1z D.l1z) hx fun g2 a2 s2 => wpAny_pure ?_)
    have u2 : IsPair g2 u p q := s2.extBut _ _ D.TOi1 (s1.extBut _ _ D.TOz hu)
    refine wpAny_bind (wpAny_seqItems u2 rfl ?_); refine wpAny_bind (wpAny_updateSeq_pair u2 fun g3 u3 s3 => ?_)
    refine wpAny_bind (wpAny_letGo (wpAny_pure ?_)); refine wpAny_bind (wpAny_bind (wpAny_onRaise ?_))
    show wpAny _ _ (Builtin.SmallTypes.nextOf (.ref d) >>= _) _ _ _
    have b3 : R g3 j := b.past (b.past (b.past hb s1.extBut D.i2z D.l2z) s2.extBut D.i12.symm D.l2i1) s3.extBut D.TOi2.symm D.l2TO
    refine wpAny_bind (b.over hh b3 hy fun g4 e s4 he => ?_)
    obtain ⟨oe, h1, h2⟩ := he
    have z4 : IsZip g4 z t u .ellipsis := s4 _ _ D.i2z.symm (s3.extBut _ _ D.TOz.symm (s2.extBut _ _ D.i1z.symm z1))
    have ne : e ≠ z := fun x => by
      subst x; rw [z4] at h1
      cases h1; simp at h2
    exact wpAny_setField_rec z4 (by simp) fun g5 _ s5 => hE g5 e (fun i o n x => s5.extBut _ _ n.1 (s4 _ _ n.2.2.2 (s3.extBut _ _ n.2.1 (s2.extBut _ _ n.2.2.1 (s1.extBut _ _ n.1 x))))) ⟨oe, s5.extBut _ _ ne h1, h2⟩
end
section
abbrev mz1 (h : Heap) (a : Addr) : Heap := h.push { cls := .type "tuple_iterator", data := .fields #[.ref a, .int 0 0] }
abbrev mz2 (h : Heap) (a b : Addr) : Heap := (mz1 h a).push { cls := .type "list_iterator", data := .fields #[.ref b, .int 0 0] }
abbrev mz3 (h : Heap) (a b : Addr) : Heap := (mz2 h a b).push { cls := .type "tuple", data := .seq #[.ref h.objs.size, .ref (mz1 h a).objs.size] }
abbrev mz4 (h : Heap) (a b : Addr) : Heap := (mz3 h a b).push { cls := .type "tuple", data := .seq #[.none, .none] }
abbrev mz5 (h : Heap) (a b : Addr) : Heap := (mz4 h a b).push { cls := .type "zip", data := .fields #[.none, .bool false, .bool false, .ref (mz2 h a b).objs.size, .ref (mz3 h a b).objs.size] }
theorem mz_new (a b : Addr) (xs ys : Array Value) : Meets (Builtin.«zip.__new__» ⟨[.type "zip", .ref a, .ref b], []⟩) (fun _ R s => s.heap.IsTuple a xs ∧ s.heap.IsList b ys ∧
      R (.ok (.ret (.ref (mz4 s.heap a b).objs.size))) { s with heap := mz5 s.heap a b }) :=
  .of_wp fun prog w A R s h => by
    obtain ⟨hp, g, d, tk, os⟩ := s
    obtain ⟨ha, hb, h⟩ := h
    have sub := sub_zip
    have La : Heap.IsTuple (Shared.heap ⟨hp, g, d, tk, os⟩) a xs := ha
    have Lb : Heap.IsList (Shared.heap ⟨mz1 hp a, g, d, tk, os⟩) b ys := Heap.IsList.push hb _
    wp_walk using wpAny_pyIter_tuple La, wpAny_pyIter_list Lb
    exact ⟨_, rfl, h⟩
variable {P : Program} {w : World} {A : Around} {E : Value → Shared → Prop} {s : Shared}
theorem mz_call {a b : Addr} {xs ys : Array Value} {Q : Value → Shared → Prop} (ha : s.heap.IsTuple a xs) (hb : s.heap.IsList b ys)
    (h : ∀ g, IsZip g (s.heap.objs.size + 4) (s.heap.objs.size + 2) (s.heap.objs.size + 3) .none → IsPair g (s.heap.objs.size + 2) (.ref s.heap.objs.size) (.ref (s.heap.objs.size + 1)) →
      IsPair g (s.heap.objs.size + 3) .none .none → g.IsTupleIter s.heap.objs.size a 0 → g.IsListIter (s.heap.objs.size + 1) b 0 → (∀ c o, s.heap.get? c = some o → g.get? c = some o) → Q (.ref (s.heap.objs.size + 4)) { s with heap := g }) :
    wpAny (model P w) A (call (.type "zip") [.ref a, .ref b]) Q E s := by
  refine callType_new F.called_zip (by decide) (F.typeCall_zip_2 _ _) (F.newCall_zip_2 _ _) (fun obj => F.args_object_init_3 obj _ _) F.entry_zip_new (mz_new a b xs ys) ⟨ha, hb, ?_⟩
  have n1 : (mz1 s.heap a).objs.size = s.heap.objs.size + 1 := Heap.size_push ..
  have n2 : (mz2 s.heap a b).objs.size = s.heap.objs.size + 2 := by rw [Heap.size_push, n1]
  have n3 : (mz3 s.heap a b).objs.size = s.heap.objs.size + 3 := by rw [Heap.size_push, n2]
  have n4 : (mz4 s.heap a b).objs.size = s.heap.objs.size + 4 := by rw [Heap.size_push, n3]
  have up : ∀ {h : Heap} {c : Addr} {o u : Obj}, h.get? c = some o → (h.push u).get? c = some o := fun e => Heap.get?_push_of_some _ e
  have q5 : (mz5 s.heap a b).get? (mz4 s.heap a b).objs.size = some _ := Heap.get?_push_size _ rfl
  have q4 : (mz5 s.heap a b).get? (mz3 s.heap a b).objs.size = some _ := up (Heap.get?_push_size _ rfl)
  have q3 : (mz5 s.heap a b).get? (mz2 s.heap a b).objs.size = some _ := up (up (Heap.get?_push_size _ rfl))
  have q2 : (mz5 s.heap a b).get? (mz1 s.heap a).objs.size = some _ := up (up (up (Heap.get?_push_size _ rfl)))
  have q1 : (mz5 s.heap a b).get? s.heap.objs.size = some _ := up (up (up (up (Heap.get?_push_size _ rfl))))
  show _ ∧ _
  rw [n2, n3, n4] at q5
  rw [n1, n2] at q3
  rw [n3] at q4
  rw [n1] at q2
  rw [n4]
  exact ⟨⟨_, q5, rfl⟩, h _ q5 q3 q4 ⟨_, q1, rfl, rfl⟩ ⟨_, q2, rfl, rfl⟩ fun c o e => up (up (up (up (up e))))⟩
end
/-- the tuple at a, the list at b, item by item in new pairs -/
def Itm (K : PySem.W.Frag) (a b : Addr) : It :=
  ⟨fun i H => ∃ (xs ys : List V) (x y : V), (SqT K H a xs ∧ xs[i]? = some x) ∧ SqL K H b ys ∧ ys[i]? = some y,
    fun i H v H' => ∃ T x y, (v = .ref T ∧ H T = none) ∧ H' = upd H T (.tup [x, y]) ∧ (∀ xs, SqT K H a xs → xs[i]? = some x) ∧ ∀ ys, SqL K H b ys → ys[i]? = some y,
    fun i H => ∃ xs ys : List V, (SqT K H a xs ∧ SqL K H b ys) ∧ (xs.length ≤ i ∨ ys.length ≤ i)⟩
theorem mem5 {z t u c d e : Addr} (h : e ∈ [z, t, u, c, d]) : e = z ∨ e = t ∨ e = u ∨ e = c ∨ e = d := by simpa using h
abbrev MzAt (z t u c d a b : Addr) : Nat → Heap → Prop := fun i h => IsZip h z t u .none ∧ IsPair h t (.ref c) (.ref d) ∧ (∃ x y, IsPair h u x y) ∧ h.IsTupleIter c a i ∧ h.IsListIter d b i
theorem turn_mz {P : Program} {w : World} {K : PySem.W.Frag} {elts : List Expr} {kk : Nat} {tpos : Pos} {a b z t u c d : Addr} (D : ZipApart z t u c d a b) :
    Turn P w K (.Tuple elts kk tpos) (Itm K a b) [z, t, u, c, d] z (MzAt z t u c d a b) where
  mem := List.mem_cons_self ..
  obj := fun i h st e he => by
    obtain ⟨hz, ht, ⟨x, y, hu⟩, ⟨o1, e1, _, d1⟩, o2, e2, _, d2⟩ := st
    rcases mem5 he with rfl | rfl | rfl | rfl | rfl
    · exact ⟨_, hz, fun v n => nomatch n⟩
    · exact ⟨_, ht, fun v n => nomatch n⟩
    · exact ⟨_, hu, fun v n => nomatch n⟩
    · exact ⟨o1, e1, fun v n => by rw [d1] at n; cases n⟩
    · exact ⟨o2, e2, fun v n => by rw [d2] at n; cases n⟩
  keep := fun i h g st k => by
    obtain ⟨hz, ht, ⟨x, y, hu⟩, h1, h2⟩ := st
    exact ⟨k z (by simp) _ hz, k t (by simp) _ ht, ⟨x, y, k u (by simp) _ hu⟩, h1.at fun o n => k c (by simp) o n, h2.at fun o n => k d (by simp) o n⟩
  item := fun X hP hw hK hc i pins s σ H E I hf st hg => by
    subst hP hw hK
    obtain ⟨hz, ht, ⟨x0, y0, hu⟩, h1, h2⟩ := st
    obtain ⟨xs, ys, x, y, ⟨qx, hx⟩, qy, hy⟩ := hg
    obtain ⟨us, rx, px, _⟩ := I.tuple qx
    obtain ⟨ws, ry, py, _⟩ := I.list qy
    obtain ⟨ux, e1, r1⟩ := rx.get hx
    obtain ⟨uy, e2, r2⟩ := ry.get hy
    have zl : z < s.heap.objs.size := Heap.lt_size hz
    unfold pyNext
    refine wpAny_bind (wpAny_attempt (wpAny_callSpecial?_slot (name := Str.ofString "__next__") (T := "zip") ⟨_, hz, rfl⟩ F.slot_zip_next (wpAny_call_entry F.slot_zip_next ⟨_, hz, rfl⟩ F.entry_zip_next
      (pull_go (src_tup (xs := us.toArray) D.l1i1) (src_lst (xs := ws.toArray) D.l2i2) D hz ht hu ⟨h1, px⟩ ⟨h2, py.isList⟩ (x := ux) (y := uy) (by simpa using e1) (by simpa using e2) fun g z1 u1 a1 b1 t1 n1 k1 => wpAny_pure ⟨_, rfl, ?_⟩) (F.args_zip_next_1 _))))
    refine wpAny_letOwnedTupleGo_zip (s := { s with heap := g }) z1 fun g2 z2 sb => ?_
    have t2 : g2.get? s.heap.objs.size = some { cls := .type "tuple", data := .seq #[ux, uy] } := (sb.2 _ (Nat.ne_of_gt zl)).trans t1
    have new : ObjOk X.prog X.w (upd H s.heap.objs.size (.tup [x, y])) g2 s.heap.objs.size (.tup [x, y]) := ⟨by show 2 ≤ sizeLine; decide, [ux, uy], .cons r1 (.cons r2 .nil), ⟨_, t2, rfl, _, rfl⟩⟩
    have I1 : Inv X pins σ (upd H s.heap.objs.size (.tup [x, y])) { s with heap := g2 } :=
      I.turnedNew (t' := s.toks) (ch := [z, t, u, c, d]) (fun e o n q => (sb.2 e fun q' => n (by simp [q'])).trans (k1 e o ⟨fun q' => n (by simp [q']), fun q' => n (by simp [q']), fun q' => n (by simp [q']), fun q' => n (by simp [q'])⟩ q)) hf (Nat.le_refl _) new
    refine ⟨.ref s.heap.objs.size, _, I1, rfl, ⟨_, x, y, ⟨rfl, I.hok.fresh (Nat.le_refl _)⟩, rfl, fun l hl => by rw [I.tuple_inj hl qx]; exact hx, fun l hl => by rw [I.list_inj hl qy]; exact hy⟩, ⟨z2, ?_, ⟨ux, uy, ?_⟩, ?_, ?_⟩, fun e he => ?_⟩
    · exact (sb.2 _ D.TIz).trans (k1 _ _ ⟨D.TIz, D.TITO, D.TIi1, D.TIi2⟩ ht)
    · exact (sb.2 _ D.TOz).trans u1
    · exact a1.1.at fun o n => (sb.2 _ D.i1z).trans n
    · exact b1.1.at fun o n => (sb.2 _ D.i2z).trans n
    · have lt : e < s.heap.objs.size := by
        rcases mem5 he with rfl | rfl | rfl | rfl | rfl
        · exact zl
        · exact Heap.lt_size ht
        · exact Heap.lt_size hu
        · obtain ⟨_, q, _⟩ := h1; exact Heap.lt_size q
        · obtain ⟨_, q, _⟩ := h2; exact Heap.lt_size q
      rw [upd_ne (Nat.ne_of_lt lt)]
      exact (hf e he).1
  done := fun X hP hw hK hc i pins s σ H E I hf st hg => by
    subst hP hw hK
    obtain ⟨hz, ht, ⟨x0, y0, hu⟩, h1, h2⟩ := st
    obtain ⟨xs, ys, ⟨qx, qy⟩, hn⟩ := hg
    obtain ⟨us, rx, px, _⟩ := I.tuple qx
    obtain ⟨ws, ry, py, _⟩ := I.list qy
    have lx := rx.length
    have ly := ry.length
    have he : us.toArray[i]? = none ∨ ws.toArray[i]? = none := hn.imp (fun n => by simp; omega) fun n => by simp; omega
    unfold pyNext
    refine wpAny_bind (wpAny_attempt (wpAny_callSpecial?_slot (name := Str.ofString "__next__") (T := "zip") ⟨_, hz, rfl⟩ F.slot_zip_next (wpAny_call_entry F.slot_zip_next ⟨_, hz, rfl⟩ F.entry_zip_next
      (pull_end (src_tup (xs := us.toArray) D.l1i1) (src_lst (xs := ws.toArray) D.l2i2) (show X.A.in1.handled = none from I.ok.hd hc) D hz ht hu ⟨h1, px⟩ ⟨h2, py.isList⟩ he fun g e k1 hx => ?_) (F.args_zip_next_1 _))))
    obtain ⟨o, ho, hco⟩ := hx
    refine wpAny_bind (wpAny_isInstance (T := "StopIteration") (b := true) ⟨o, ho, hco⟩ isSubtype_stop (wpAny_pure ⟨rfl, ?_⟩))
    exact I.turnedL (t' := s.toks) (ch := [z, t, u, c, d]) (fun e o n q => k1 e o ⟨fun q' => n (by simp [q']), fun q' => n (by simp [q']), fun q' => n (by simp [q']), fun q' => n (by simp [q'])⟩ q) hf
  self := fun A i s Q E st h => wpAny_pyIter_zip st.1 h
def iMz (K : PySem.W.Frag) (ta : TA) : TI := fun σ H R => ta σ H fun vs H1 => ∃ a b xs ys, vs = [.ref a, .ref b] ∧ (SqT K H1 a xs ∧ SqL K H1 b ys) ∧ R (Itm K a b) H1
theorem pi_mz {X : Cx} {e e2 : Expr} {ta : TA} {p pos tpos : Pos} {elts : List Expr} {kk : Nat} (hg : Gl X "zip") (hm : X.mg "zip" = none) (ha : PA X [e, e2] ta)
    (hs : starEach [e, e2] X.env = (false, eval e X.env) :: starEach [e2] X.env := by rfl) (hpl : (backTo pos (starEach [e2] X.env)).any (·.1) = false := by rfl) : PI X (.Tuple elts kk tpos) (.Call (.Name "zip" p) [e, e2] [] pos) (iMz X.K ta) := by
  refine ⟨fun pins s σ H R I h => PyProof.Rows.Call_ (ld_blt I hg hm PyProof.Rows.boot_zip (PyProof.Rows.callWith_type1 (thn (ha.run pos pins s σ H _ I h) fun us s1 ⟨vs, H1, I1, r1, q1⟩ => ?_) hs hpl))⟩
  obtain ⟨a, b, xs, ys, rfl, ⟨qx, qy⟩, q⟩ := q1
  obtain ⟨v1, t1, rfl, r2⟩ : ∃ v t, us = v :: t ∧ RelV (.ref a) v ∧ Vals [V.ref b] t := by cases r1 with | cons r rr => exact ⟨_, _, rfl, r, rr⟩
  obtain ⟨r2, r3⟩ := r2
  obtain ⟨v2, rfl, r4⟩ : ∃ v, t1 = [v] ∧ RelV (.ref b) v := by cases r3 with | cons r rr => cases rr; exact ⟨_, rfl, r⟩
  have ea : v1 = Value.ref a := r2
  have eb : v2 = Value.ref b := r4
  subst ea; subst eb
  obtain ⟨js, rx, px, _⟩ := I1.tuple qx
  obtain ⟨ks, ry, py, _⟩ := I1.list qy
  obtain ⟨oa, hoa, _⟩ := id px
  refine mz_call (show s1.heap.IsTuple a js.toArray from px) py.isList fun g hz ht hu h1 h2 hk => wpAny_pyIter_zip hz ?_
  refine ⟨s1.heap.objs.size + 4, [s1.heap.objs.size + 4, s1.heap.objs.size + 2, s1.heap.objs.size + 3, s1.heap.objs.size, s1.heap.objs.size + 1], _, _, H1, rfl, I1.kept (t' := s1.toks) hk,
    turn_mz (PySem.W.ktu_apart s1.heap.objs.size a b (Heap.lt_size hoa) py.lt), ⟨hz, ht, ⟨_, _, hu⟩, h1, h2⟩, fun c hc => ?_, q⟩
  have le : s1.heap.objs.size ≤ c := by rcases mem5 hc with rfl | rfl | rfl | rfl | rfl <;> first | exact Nat.le_add_right _ _ | exact Nat.le_refl _
  exact I1.fpOk le (I1.hok.fresh le)
theorem walk_mz {K : PySem.W.Frag} {a b : Addr} {xs ys : List V} {n : Nat} (hn : n = min xs.length ys.length) : Walk (Itm K a b) n (fun H => SqT K H a xs ∧ SqL K H b ys) (YPair (fun i => xs[i]?) (fun i => ys[i]?)) := by
  subst hn
  refine ⟨fun i _ hi g => ?_, fun _ g => ⟨xs, ys, g, by omega⟩, fun i H v H' _ g y => ?_⟩
  · have l1 : i < xs.length := by omega
    have l2 : i < ys.length := by omega
    exact ⟨xs, ys, xs[i], ys[i], ⟨g.1, by simp [l1]⟩, g.2, by simp [l2]⟩
  · obtain ⟨T, x, z, ⟨h1, h2⟩, h3, h4, h5⟩ := y
    exact ⟨T, x, z, h1, h2, h3, h4 xs g.1, h5 ys g.2⟩
section
variable {X : Cx} {δ : De} {μ : Me} {a b : Expr} {pos p : Pos}
/-- zip of a tuple and a list -/
theorem pid_mz {elts : List Expr} {kk : Nat} {tpos : Pos} {d2 : D} {ds es : List D} (hg : Gl X "zip") (hm : X.mg "zip" = none) (ha : PE X a (tD X.K δ μ (.tup ds))) (hb : PE X b (tD X.K δ μ d2)) (hq2 : seqL d2 = some es)
    (hs : starEach [a, b] X.env = (false, eval a X.env) :: starEach [b] X.env := by rfl) (hs2 : starEach [b] X.env = (false, eval b X.env) :: starEach [] X.env := by rfl) (hpl : (backTo pos (starEach [b] X.env)).any (·.1) = false := by rfl) :
    PI X (.Tuple elts kk tpos) (.Call (.Name "zip" p) [a, b] [] pos) (tI X.K δ μ (zipD ds es)) :=
  PI.mono (pi_mz hg hm (pas_cons ha (pas_cons hb pas_nil hs2) hs) hs hpl) fun σ H R ⟨F, S, k⟩ => ⟨F, S, fun vs F1 H1 g r => by
    obtain ⟨v, t, e1, r1, v2, t2, e2, r2, e3⟩ := r
    have e5 : t2 = [] := e3
    subst e5; subst e2; subst e1
    obtain ⟨q, us, e4, hl, rv⟩ := r1
    obtain ⟨q2, us2, e4', rv2, hl2⟩ := rep_list r2 hq2
    subst e4; subst e4'
    refine ⟨q, q2, us, us2, rfl, ⟨.of (g.fh _ _ hl), g.fh.sql hl2⟩, k _ F1 H1 g ⟨_, _, walk_mz (K := X.K) (a := q) (b := q2) (xs := us) (ys := us2) (by rw [zipD_length, rv.length, rv2.length]), fun F' H' e5 e6 => ⟨.of (e6 _ _ (e5 _ _ hl)), e6.sql (e5.sql hl2)⟩, fun i H x H' hi y F' e5 e6 => ?_⟩⟩
    obtain ⟨T, x1, y1, rfl, hn, rfl, h1, h2⟩ := y
    obtain ⟨dd, q1, q2⟩ := rv.back h1
    obtain ⟨dd2, q3, q4⟩ := rv2.back h2
    obtain ⟨g2, r3⟩ := rep_pair e6 hn (Rep.mono e5 q2) (Rep.mono e5 q4)
    exact ⟨_, _, zipD_get q1 q3, g2, r3⟩⟩
end
end Bl
namespace Bl
open PySem L2
section
variable {X : Cx} {K : PySem.W.Frag} {E : XK} {δ δ' : De} {μ μ' : Me} {o : Oc} {st : Stmt} {rest body : List Stmt} {a b c e tgt iter ob : Expr} {es : List Expr} {pos p pos' p2 : Pos} {d d1 d2 : D} {j k : Nat} {x : Str} {ps : List Str} {l : Addr}
/-! an argument that raises -/
def tAX (K : PySem.W.Frag) (E : XK) (δ : De) (μ : Me) (c : Value) : TA := fun σ H _ => ∃ F, SE K δ μ σ F H ∧ ∀ F' H', Gr F H F' H' → E c none H'
theorem pax_here {c : Value} {t : TA} (h : PE X e (tX K E δ μ c)) (hr : PA X es t) (hs : starEach (e :: es) X.env = (false, eval e X.env) :: starEach es X.env := by rfl) : PA X (e :: es) (tAX K E δ μ c) :=
  PA.mono (pa_cons h hr hs) fun σ H Q ⟨F, S, k⟩ => ⟨F, S, k⟩
theorem pax_next {c : Value} (h : PE X e (tD K δ μ d)) (hr : PA X es (tAX K E δ μ c)) (hs : starEach (e :: es) X.env = (false, eval e X.env) :: starEach es X.env := by rfl) : PA X (e :: es) (tAX K E δ μ c) :=
  PA.mono (pa_cons h hr hs) fun σ H Q ⟨F, S, k⟩ => ⟨F, S, fun v F1 H1 g1 r1 => ⟨F1, S.mono g1, fun F2 H2 g2 => k F2 H2 (g1.trans g2)⟩⟩
theorem px_callA {c' : Value} {R : List D → Except Value D → Prop} (c : Cal X.prog X.w X.K X.mg X.base x k ps R) (hx : Passes (L2.CX X.prog X.w) X E) (hr : Room j X.A) (hk : k ≤ j) (hg : Gl X x) (ha : PA X (e :: es) (tAX X.K E δ μ c'))
    (hdb : (x == ("__debug__" : Str)) = false := by decide) (he : starEach (e :: es) X.env = (false, eval e X.env) :: starEach es X.env := by rfl) (hpl : (backTo pos (starEach es X.env)).any (·.1) = false := by rfl) :
    PE X (.Call (.Name x p) (e :: es) [] pos) (tX X.K E δ μ c') := by
  obtain ⟨f, fd, F, hm, hkp, hb⟩ := c.ex
  exact PE.mono (pe_call F (hr.mono hk) hg hm hkp hb .nil hx ha hdb he hpl) fun σ H Q ⟨F, S, w⟩ => ⟨F, S, w⟩
/-! lists told by their very items -/
theorem EnvR.alt {F : Hp} {σ : St} {i : Nat} {v : V} (h : EnvR K F σ δ) (hv : σ[i]? = some (some v)) (r : Rep K F d v) : EnvR K F σ (δ.set i (some d)) := by
  refine ⟨by rw [List.length_set]; exact h.len, fun n y q => ?_⟩
  by_cases z : i = n
  · subst z
    have hi : i < δ.length := by
      have := (List.getElem?_eq_some_iff.mp q).1
      rwa [List.length_set] at this
    rw [List.getElem?_set_self hi] at q
    obtain rfl : d = y := Option.some.inj (Option.some.inj q)
    exact ⟨v, hv, r⟩
  · rw [List.getElem?_set_ne z] at q
    exact h.at_ n y q
theorem pss_lv (i : Nat) {ds : List D} (hi : δ[i]? = some (some (.lst ds))) (h : ∀ vs : List V, PSs X body (tS K E (δ.set i (some (.lv vs ds))) μ o)) : PSs X body (tS K E δ μ o) :=
  PSs.mono (PSs.union h) fun Dn σ H ⟨F0, H0, F, s, k⟩ => by
    obtain ⟨v, hv, q, vs, rfl, hq, rv⟩ := s.se.env.at_ i _ hi
    exact ⟨vs, F0, H0, F, ⟨⟨s.se.fh, s.se.env.alt hv ⟨q, rfl, hq, rv⟩, s.se.mem⟩, s.gr, s.fr⟩, k⟩
/-- a new list of the items vs -/
def tNV (K : PySem.W.Frag) (δ : De) (μ : Me) (vs : List V) (ds : List D) : TE := fun σ H Q => ∃ F, SE K δ μ σ F H ∧
  ∀ l F' H', Gr F H F' H' → H l = none → F' l = none → H' l = some (.lst vs) → RepL K F' ds vs → Q (.ref l) H'
theorem pn_ofV {vs : List V} {ds : List D} (h : PE X e (tNV K δ μ vs ds)) : PE X e (tN K δ μ ds) := PE.mono h fun σ H Q ⟨F, S, k⟩ => ⟨F, S, fun l F' H' g h0 hn hl r => k l vs F' H' g h0 hn hl r⟩
theorem pd_newV {vs : List V} {ds : List D} (h : PE X e (tNV K δ μ vs ds)) : PE X e (tD K δ μ (.lv vs ds)) := PE.mono h fun σ H Q ⟨F, S, k⟩ => ⟨F, S, fun l F' H' g h0 hn hl r => by
  have e1 : Ex F' (upd F' l (.lst vs)) := Ex.new hn
  refine k (.ref l) (upd F' l (.lst vs)) H' ⟨g.ff.trans e1, fun a u q => ?_, g.hh, fun b u q n => ?_⟩ ⟨l, rfl, upd_same, RepL.mono e1 r⟩
  · by_cases z : a = l
    · subst z; rw [upd_same] at q; cases q; exact hl
    · rw [upd_ne z] at q; exact g.fh a u q
  · rw [upd_ne (ne_of_none q h0)]; exact g.nf b u q n⟩
theorem pnv_list {vs : List V} {ds : List D} (hg : Gl X "list") (hm : X.mg "list" = none) (ha : PE X a (tD X.K δ μ (.lv vs ds)))
    (hst : starEach [a] X.env = (false, eval a X.env) :: starEach [] X.env := by rfl) (hpl : (backTo pos (starEach [] X.env)).any (·.1) = false := by rfl) : PE X (.Call (.Name "list" p) [a] [] pos) (tNV X.K δ μ vs ds) :=
  PE.mono (pe_callTy call_list_of hg hm boot_listT (pas_cons ha pas_nil hst) (by decide +kernel) (by decide +kernel) hst hpl) fun σ H Q ⟨F, S, k⟩ => ⟨F, S, fun ws F1 H1 g r1 => by
    obtain ⟨v, t, e, r2, r3⟩ := r1
    obtain rfl : t = [] := r3
    subst e
    obtain ⟨q, rfl, hs, rv⟩ := r2
    exact ⟨q, vs, rfl, .inl (.of (g.fh _ _ hs)), fun l hl => k l F1 _ (g.trans (Gr.newH g.fh hl)) (g.hh.none hl) (g.fh.none hl) upd_same rv⟩⟩
/-- the same things in both lists -/
theorem same_paired {H : Hp} : ∀ {vs : List V}, (∀ v, v ∈ vs → ∃ q, v = .ref q) → Paired (EqV K H 1) vs vs
  | [], _ => .nil
  | v :: vs, h => .cons (by
    obtain ⟨q, hq⟩ := h v (by simp)
    exact .inr (.inl ⟨q, hq, hq⟩)) (same_paired fun u hu => h u (by simp [hu]))
theorem rep_ins_ref {F : Hp} : ∀ {ds : List D} {vs : List V}, RepL K F ds vs → (∀ y, y ∈ ds → ∃ C ns es, y = .ins C ns es) → ∀ v, v ∈ vs → ∃ q, v = .ref q
  | [], vs, r, _, v, hv => by
    obtain rfl : vs = [] := r
    simp at hv
  | y :: ds, vs, r, h, v, hv => by
    obtain ⟨u, t, rfl, r1, r2⟩ := r
    rcases List.mem_cons.mp hv with rfl | hv
    · obtain ⟨C, ns, es, rfl⟩ := h y (by simp)
      obtain ⟨q, _, _, hq, _⟩ := r1
      exact ⟨q, hq⟩
    · exact rep_ins_ref r2 (fun z hz => h z (by simp [hz])) v hv
theorem pd_eqI {vs : List V} {ds es : List D} (hr : Room j X.A) (ha : PE X a (tD X.K δ μ (.lv vs ds))) (hb : PE X b (tD X.K δ μ (.lv vs es))) (hi : ∀ y, y ∈ ds → ∃ C ns fs, y = .ins C ns fs) (hm : behindInMarks .Eq b = false := by rfl) :
    PE X (.Compare a [.Eq] [b] pos) (tD X.K δ μ (.bl true)) :=
  pd_cmp2 (op_eqV hr.units) hm ha hb fun F H v u Q e r1 r2 k => by
    obtain ⟨q, rfl, hq, rv⟩ := r1
    obtain ⟨q2, rfl, hq2, rv2⟩ := r2
    exact ⟨1, by decide, .inl ⟨q, q2, vs, vs, rfl, rfl, .of (e _ _ hq), .of (e _ _ hq2), same_paired (rep_ins_ref rv hi)⟩, k _ F H (.refl e) rfl⟩
/-! y = [.. for ..] where the name is stored first -/
theorem psd_setLcI (i : Nat) {y : Str} {py spos : Pos} {elt iter : Expr} {scope : Scope} {own : List (Str × Nat)} {ds es : List D} (T : Nat → D → De) (hc : X.calm = true) (hN : X.N.Nodup) (hy : X.N[i]? = some y) (hyl : X.env.scope.names.lookup y = some .local)
    (hsw : swapsWith (.ListComp elt [⟨tgt, iter, [], 0⟩] scope pos) (some (.Name y py)) spos.line X.env = pure true) (hi : PI X tgt iter (tI X.K δ μ ds)) (ok : BlkOk X.N X.env.scope scope own)
    (hg : ∀ i x, ds[i]? = some x → ∀ (s : Shared) (H : Hp) (C : Addr) (cl : List (Str × Addr)) (fp : List Addr), PG (X.blk s H scope (compEnvC scope cl C X.env) fp) tgt (tG X.K (own.map (·.2)) (wipeD δ (own.map (·.2))) μ x (T i x)))
    (he : ∀ i x y, ds[i]? = some x → es[i]? = some y → ∀ (s : Shared) (H : Hp) (C : Addr) (cl : List (Str × Addr)) (fp : List Addr), PE (X.blk s H scope (compEnvC scope cl C X.env) fp) elt (tD X.K (T i x) μ y))
    (hn : es.length = ds.length) (hl : ds.length ≤ 10000) (hs : ∀ x, foldedSetIterable iter X.env x = pure x := by intro _; rfl) :
    PS X (.Assign [.Name y py] (.ListComp elt [⟨tgt, iter, [], 0⟩] scope pos) spos) (tS X.K E δ μ (.nx (δ.set i (some (.lst es))) μ)) := by
  let ι := { q : Nat × D // ds[q.1]? = some q.2 }
  let ι2 := { q : Nat × D × D // ds[q.1]? = some q.2.1 ∧ es[q.1]? = some q.2.2 }
  let g : TG := fun v σ H Q => ∃ q : ι, tG X.K (own.map (·.2)) (wipeD δ (own.map (·.2))) μ q.1.2 (T q.1.1 q.1.2) v σ H Q
  let te : TE := fun σ H Q => ∃ q : ι2, tD X.K (T q.1.1 q.1.2.1) μ q.1.2.2 σ H Q
  refine psd_setLc i (PS.mono (ps_setLc (i := i) (g := g) (tt := tYes) (te := te) hc hN hy hyl hsw hi ok (fun s H C cl fp => PG.union fun q => hg q.1.1 q.1.2 q.2 s H C cl fp) (fun _ _ _ _ _ => pts_nil) (fun s H C cl fp => PE.union fun q => he q.1.1 q.1.2.1 q.1.2.2 q.2.1 q.2.2 s H C cl fp) hs) fun Dn σ H ⟨F, S, k⟩ => ⟨F, S, fun J F1 H1 g1 dw => fun L hL => ?_⟩)
  obtain ⟨Gw, Y, hw, hGw, hY⟩ := dw.ex
  have S1 := S.mono g1
  refine lc_it (g := g) (tt := tYes) (te := te) (σ := σ) hw (fun i H2 => ∃ F2 acc, Gr F1 H1 F2 H2 ∧ F2 L = none ∧ H2 L = some (.lst acc) ∧ RepL X.K F2 (es.take i) acc) ⟨F1, [], Gr.newH g1.fh hL, g1.fh.none hL, upd_same, rfl⟩ (fun i H2 _ ⟨F2, acc, g2, _⟩ => hGw F2 H2 g2.ff g2.fh) ?_ ?_
  · rintro i x H2 H3 hi2 ⟨F2, acc, g2, fl, hl2, ra⟩ y
    obtain ⟨F3, dd, hd, g3, r3⟩ := hY i H2 x H3 hi2 y F2 g2.ff g2.fh
    have S3 : SE X.K δ μ σ F3 H3 := S1.mono (g2.trans g3)
    have hei : i < es.length := by rw [hn]; exact hi2
    obtain ⟨ee, hee⟩ : ∃ ee, es[i]? = some ee := ⟨es[i], List.getElem?_eq_getElem hei⟩
    refine ⟨⟨(i, dd), hd⟩, F3, ⟨S3.fh, S3.env.wiped _, S3.mem⟩, r3, fun σ4 en wq => ⟨wq.trans (wipe_wipe _ σ), ?_⟩⟩
    refine tyes ?_
    rw [if_pos rfl]
    refine ⟨⟨(i, dd, ee), hd, hee⟩, F3, ⟨S3.fh, en, S3.mem⟩, fun v F4 H4 g4 r4 => ?_⟩
    have g5 := (g2.trans g3).trans g4
    have l4 : H4 L = some (.lst acc) := (g3.trans g4).hh _ _ hl2
    have fl4 : F4 L = none := (g3.trans g4).nf _ _ hl2 fl
    refine ⟨acc, l4, ?_, F4, acc ++ [v], ⟨g5.ff, fun b u q => ?_, fun b u q => ?_, g5.nf⟩, fl4, upd_same, ?_⟩
    · rw [ra.length, List.length_take]
      exact Nat.lt_of_lt_of_le (show min i es.length < 10001 by omega) (by decide)
    · rw [upd_ne (ne_of_none q fl4)]; exact g5.fh _ _ q
    · rw [upd_ne (ne_of_none q hL)]; exact g5.hh _ _ q
    · rw [List.take_add_one, hee]
      exact (RepL.mono (g3.trans g4).ff ra).append (RepL.one r4)
  · rintro H2 ⟨F2, acc, g2, fl, hl2, ra⟩
    rw [← hn, List.take_length] at ra
    exact k L acc F2 H2 (g1.trans g2) (g1.hh.none hL) fl hl2 ra
end
end Bl
namespace L2
open PySem PySem.Spec PyProof.Rows
/-! set(xs) of a list of whole numbers -/
section
variable {P : Program} {w : World} {A : Around} {E : Value → Shared → Prop} {s : Shared}
abbrev st0 (w : World) : Obj := { cls := .type "set", dict := none, data := .set #[] 0 (.fresh 0 0 (!w.params.followText "set-order")) }
theorem bl_setL {l : Addr} {us : Array Value} (ns : List Int) {Q : Value → Shared → Prop} (hh : A.handled = none) (hl : s.heap.IsList l us) (hi : IntsAre us.toList ns) (hb : ns.length + 1 < scanBound)
    (q : ∀ (g : Heap) (k c : Nat), SetR w g s.heap.objs.size (fun j => decide (j ∈ ns)) c → c ≤ ns.length → (∀ b o, s.heap.get? b = some o → g.get? b = some o) → Q (.ref s.heap.objs.size) { s with heap := g, toks := k }) : wpAny (model P w) A (call (.type "set") [.ref l]) Q E s := by
  have lu : us.size = ns.length := by rw [← Array.length_toList]; exact IntsAre.length hi
  obtain ⟨cc, tt, f0⟩ := F.called_set.mro; have f1 := F.called_set.made; have f2 := F.called_set.sub
  refine wpAny_call (codeAny_of_tree ?_); show wpAny _ _ (callAny (.type "set") _) _ _ _
  refine wpAny_pure ⟨Code.quiet_builtin _ (by decide +kernel), codeAny_builtin F.entry_type_call ?_⟩; rw [Around.under_plain (weight_type_call_type "set" [.ref l] []) rfl]
  have f3 := F.called_set.notType; have f4 := F.called_set.canCreate; have f5 := F.typeCall_set_1 (.ref l)
  repeat (any_goals (first | assumption | wp_step))
  refine codeAny_mono (code_set_led1 (.ref l) (E := E) (Q₁ := fun x s1 => x = .ref s.heap.objs.size ∧ s1 = { s with heap := s.heap.push (st0 w) }) ⟨rfl, rfl⟩) fun r s1 hr => ?_
  match r, hr with
  | .error e, hr => exact hr
  | .ok (.ret x), hr =>
    obtain ⟨rfl, rfl⟩ := hr
    have h0 : (s.heap.push (st0 w)).get? s.heap.objs.size = some (st0 w) := Heap.get?_push_size _ rfl
    have hT : Shared.TypeIs { s with heap := s.heap.push (st0 w) } (.ref s.heap.objs.size) "set" := ⟨_, h0, rfl⟩
    have f6 := F.called_set.init.lookup; have f7 := F.called_set.init.bind (.ref s.heap.objs.size)
    repeat (any_goals (first | assumption | wp_step))
    refine codeAny_mono (codeAny_call_builtin (R := wants (fun r s2 => r = .none ∧ ∃ g k c, s2 = { s with heap := g, toks := k } ∧ SetR w g s.heap.objs.size (fun j => decide (j ∈ ns)) c ∧ c ≤ ns.length ∧ (∀ b o, s.heap.get? b = some o → g.get? b = some o)) E)
      F.called_set.init.plain F.entry_set_init (check_set_init_1 hT ?_)) fun r2 s2 h2 => ?_
    · obtain ⟨⟨cl, dc, da, sl⟩, ho, e1, n, e2⟩ := hl
      simp only at e1 e2
      subst e1; subst e2
      have ho2 : (s.heap.push (st0 w)).get? l = some { cls := .type "list", dict := dc, data := .seq us n, slots := sl } := Heap.get?_push_of_some _ ho
      have g1 := F.sub_list_set; have g2 := F.sub_list_frozenset
      have g3 : (Value.type "list" == Value.type "dict") = false := by decide
      have li : (s.heap.push (st0 w)).IsList l us := ⟨_, ho2, rfl, n, rfl⟩
      unfold Builtin.«set.__init__» noKeywords Builtin.Frozenset.updateFrom
      generalize hP : pyIter = PP
      wp_walk
      subst hP
      refine wpAny_pyIter_list li (wpAny_bind (wpAny_runValue ?_))
      have lt : l < s.heap.objs.size := Heap.lt_size ho
      have sz : (s.heap.push (st0 w)).objs.size = s.heap.objs.size + 1 := Heap.size_push ..
      have n1 : l ≠ (s.heap.push (st0 w)).objs.size := by rw [sz]; exact Nat.ne_of_lt (Nat.lt_succ_of_lt lt)
      have n2 : s.heap.objs.size ∉ [(s.heap.push (st0 w)).objs.size, l] := by
        rw [sz]
        intro z
        rcases List.mem_cons.mp z with z | z
        · exact absurd z (Nat.ne_of_lt (Nat.lt_succ_self _))
        · exact absurd (List.mem_singleton.mp z) (Nat.ne_of_gt lt)
      refine set_update_ints ((Walks.list (by simp [hh]) _ l n1 us).toS) s.heap.objs.size n2 ns lu hb (fun i v hv => ?_) (us.size - 0) 0 _ (by omega) (Nat.zero_le _) ⟨⟨_, Heap.get?_push_size _ rfl, rfl, rfl⟩, (li.push _)⟩
        ⟨0, Nat.le_refl 0, setR_new_at (Heap.get?_push_of_some _ h0)⟩ fun s' c mv hc hS => ?_
      · have lt2 : i < ns.length := by rw [← lu]; exact (Array.getElem?_eq_some_iff.mp hv).1
        obtain ⟨t, e⟩ := PyProof.Rows.IntsAre.int_at hi i v (by rw [Array.getElem?_toList]; exact hv)
        exact ⟨ns[i], t, List.getElem?_eq_getElem lt2, by rw [e, List.getD_eq_getElem?_getD, List.getElem?_eq_getElem lt2]; rfl⟩
      · obtain ⟨g, gg, gd, k, go⟩ := s'
        obtain rfl : gg = s.gens := mv.gens
        obtain rfl : gd = s.drawn := mv.drawn
        obtain rfl : go = s.os := mv.os
        show wpAny _ _ _ _ _ _
        refine wpAny_pure ?_
        show wpAny _ _ (ret Value.none) _ _ _
        refine wpAny_pure ⟨rfl, g, k, c, rfl, hS, lu ▸ hc, fun b o e => mv.heap b o (fun z => ?_) (Heap.get?_push_of_some _ (Heap.get?_push_of_some _ e))⟩
        have lb : b < s.heap.objs.size := Heap.lt_size e
        rcases List.mem_cons.mp z with z | z
        · exact absurd z (Nat.ne_of_lt lb)
        · have z2 := List.mem_singleton.mp z
          rw [sz] at z2
          exact absurd z2 (Nat.ne_of_lt (Nat.lt_succ_of_lt lb))
    · match r2, h2 with
      | .error e, h2 => exact h2
      | .ok (.ret x), h2 =>
        obtain ⟨rfl, g, k, c, rfl, hS, hc, hk⟩ := h2
        repeat (any_goals (first | assumption | wp_step))
        exact q _ _ _ hS hc hk
      | .ok .next, h2 => exact h2.elim
      | .ok .brk, h2 => exact h2.elim
      | .ok .cont, h2 => exact h2.elim
  | .ok .next, hr => exact hr.elim
  | .ok .brk, hr => exact hr.elim
  | .ok .cont, hr => exact hr.elim
end
section
variable {X : Cx}
/-- a new set of what the list holds -/
def rSetOfL (K : PySem.W.Frag) (w : World) : List V → Hp → VK → Prop := fun xs H Q => ∃ (a : Addr) (ns : List Int), xs = [.ref a] ∧ SqL K H a (ns.map V.int) ∧ ns.length < 4000 ∧
  ∀ p c, H p = none → (∀ ms : List Int, ms.Nodup → (∀ k, k ∈ ms ↔ k ∈ ns) → ms.length = c) → Q (.ref p) (upd H p (SetO w p (fun j => decide (j ∈ ns)) c))
theorem cr_setL (hc : X.calm = true) : CallR X (.type "set") (rSetOfL X.K X.w) := by
  intro pins s σ H xs us Q I r h
  obtain ⟨a, ns, rfl, hs, hn, q⟩ := h
  obtain ⟨its, rv, pl, hz⟩ := I.list hs
  rw [Vals.ref1 r]
  refine bl_setL ns (I.ok.hd hc) pl.isList (by simpa using ints_of_vals rv) (by unfold scanBound; omega) fun g k c hS hc hk => ?_
  refine ⟨.ref _, upd H s.heap.objs.size (SetO X.w s.heap.objs.size (fun j => decide (j ∈ ns)) c), I.laid (t' := k) (fun b u e => hk b u e) (Nat.le_refl _) (setO_new hS), rfl, q _ c (I.hok.fresh (Nat.le_refl _)) fun ms nd hm => ?_⟩
  obtain ⟨o, es, ep, t, _, _, _, _, hnd, hS2, _, _, hsz, _⟩ := hS
  have pm : ms.Perm (es.toList.map keyOf) := (List.perm_ext_iff_of_nodup nd hnd).mpr fun k => by
    rw [← hS2 k, hm k]
    exact decide_eq_true_iff.symm
  have := pm.length_eq
  rw [this, List.length_map, Array.length_toList, hsz]
end
end L2
namespace Bl
open PySem L2
section
variable {X : Cx} {δ : De} {μ : Me} {a : Expr} {pos p cpos : Pos} {d : D}
theorem boot_setT : bootBuiltins "set" = some (.type "set") := by decide +kernel
theorem srt_ext : ∀ {xs ys : List Int}, xs.Pairwise (· < ·) → ys.Pairwise (· < ·) → (∀ k, k ∈ xs ↔ k ∈ ys) → xs = ys
  | [], [], _, _, _ => rfl
  | [], y :: ys, _, _, h => absurd ((h y).mpr (by simp)) (by simp)
  | x :: xs, [], _, _, h => absurd ((h x).mp (by simp)) (by simp)
  | x :: xs, y :: ys, h1, h2, h => by
    rw [List.pairwise_cons] at h1 h2
    have e : x = y := by
      rcases List.mem_cons.mp ((h x).mp (by simp)) with z | z
      · exact z
      · rcases List.mem_cons.mp ((h y).mpr (by simp)) with z2 | z2
        · exact z2.symm
        · have := h1.1 y z2; have := h2.1 x z; omega
    subst e
    rw [srt_ext h1.2 h2.2 fun k => ⟨fun hk => by
      rcases List.mem_cons.mp ((h k).mp (by simp [hk])) with z | z
      · subst z; exact absurd (h1.1 k hk) (by omega)
      · exact z, fun hk => by
      rcases List.mem_cons.mp ((h k).mpr (by simp [hk])) with z | z
      · subst z; exact absurd (h2.1 k hk) (by omega)
      · exact z⟩]
/-- sorted(set(xs)): the numbers of xs, once each, rising -/
theorem pn_sortset {ns ms : List Int} (hc : X.calm = true) (hg : Gl X "sorted") (hm : X.mg "sorted" = none) (hg2 : Gl X "set") (hm2 : X.mg "set" = none) (ha : PE X a (tD X.K δ μ d)) (hq : seqL d = some (ns.map D.int)) (hn : ns.length < 4000)
    (hs : ms.Pairwise (· < ·)) (hk : ∀ k : Int, k ∈ ms ↔ k ∈ ns) (h64 : ms.length < 64)
    (hst : starEach [a] X.env = (false, eval a X.env) :: starEach [] X.env := by rfl) (hpl : (backTo cpos (starEach [] X.env)).any (·.1) = false := by rfl)
    (hst2 : starEach [.Call (.Name "set" p) [a] [] cpos] X.env = (false, eval (.Call (.Name "set" p) [a] [] cpos) X.env) :: starEach [] X.env := by rfl) (hpl2 : (backTo pos (starEach [] X.env)).any (·.1) = false := by rfl) :
    PE X (.Call (.Name "sorted" p2) [.Call (.Name "set" p) [a] [] cpos] [] pos) (tN X.K δ μ (ms.map D.int)) :=
  PE.mono (pe_callB (cr_sortedSet hc) hg hm boot_sorted (pa_cons (pe_callTy (cr_setL hc) hg2 hm2 boot_setT (pas_cons ha pas_nil hst) (by decide +kernel) (by decide +kernel) hst hpl) pa_nil hst2) (by decide +kernel) (by decide +kernel) hst2 hpl2)
    fun σ H Q ⟨F, S, k⟩ => ⟨F, S, fun vs F1 H1 g r1 => by
    obtain ⟨v, t, e, r2, r3⟩ := r1
    obtain rfl : t = [] := r3
    subst e
    obtain ⟨q, us, rfl, rv, hs2⟩ := rep_list r2 hq
    obtain rfl := rv.ints
    refine ⟨q, ns, rfl, g.fh.sql hs2, hn, fun l c hl hc2 => ?_⟩
    have hc3 : ms.length = c := hc2 ms (hs.imp fun h => by omega) hk
    have ne : ∀ b o, F1 b = some o → b ≠ l := fun b o h => ne_of_none h (g.fh.none hl)
    refine ⟨l, _, c, rfl, upd_same, by omega, fun ns' p hs' hk' hl' hp => ?_⟩
    have e : ns' = ms := srt_ext hs' hs fun k => by rw [hk' k, hk k]; exact decide_eq_true_iff
    subst e
    have hpl : p ≠ l := fun z => by subst z; rw [upd_same] at hp; cases hp
    rw [upd_ne hpl] at hp
    have g2 : Gr F1 H1 F1 (upd H1 l (SetO X.w l (fun j => decide (j ∈ ns)) c)) := Gr.newH g.fh hl
    have hp2 : upd H1 l (SetO X.w l (fun j => decide (j ∈ ns)) c) p = none := by rw [upd_ne hpl]; exact hp
    have g3 := Gr.newH (o := .lst (ns'.map V.int)) g2.fh hp2
    exact k p _ F1 _ (g.trans (g2.trans g3)) (g.hh.none hp) (g.fh.none hp) upd_same (RepL.of_ints ns')⟩
end
end Bl
namespace Bl
open PySem L2
section
variable {X : Cx} {K : PySem.W.Frag} {E : XK} {δ δ' : De} {μ μ' : Me} {o : Oc} {a b c e : Expr} {es : List Expr} {pos p p2 : Pos} {d d1 d2 : D} {i j k : Int}
/-! a < b < c -/
theorem ptd_ltlt (ha : PE X a (tD K δ μ (.int i))) (hb : PE X b (tD K δ μ (.int j))) (hc : PE X c (tD K δ μ (.int k))) (hm : lastMarks [.Lt, .Lt] [b, c] = false := by with_unfolding_all rfl) : PT X (.Compare a [.Lt, .Lt] [b, c] pos) (tP K δ μ (i < j ∧ j < k)) :=
  PT.mono (pt_chain op_lt op_lt ha hb hc hm) fun σ H Q ⟨F, S, w⟩ => ⟨F, S, fun v F1 H1 g1 r1 => ⟨F1, S.mono g1, fun u F2 H2 g2 r2 => ⟨i, j, r1, r2, _, rfl, by
    by_cases h : i < j
    · rw [decide_eq_true h, if_pos rfl]
      exact ⟨F2, (S.mono g1).mono g2, fun z F3 H3 g3 r3 => ⟨j, k, r2, r3, _, rfl, w _ F3 H3 ((g1.trans g2).trans g3) ⟨fun q => ⟨h, of_decide_eq_true q⟩, fun q => decide_eq_true q.2⟩⟩⟩
    · rw [decide_eq_false h, if_neg (by decide)]
      exact ⟨_, rfl, w _ F2 H2 (g1.trans g2) ⟨fun q => (by cases q), fun q => absurd q.1 h⟩⟩⟩⟩⟩
theorem ptd_lelt (ha : PE X a (tD K δ μ (.int i))) (hb : PE X b (tD K δ μ (.int j))) (hc : PE X c (tD K δ μ (.int k))) (hm : lastMarks [.LtE, .Lt] [b, c] = false := by with_unfolding_all rfl) : PT X (.Compare a [.LtE, .Lt] [b, c] pos) (tP K δ μ (i ≤ j ∧ j < k)) :=
  PT.mono (pt_chain op_le op_lt ha hb hc hm) fun σ H Q ⟨F, S, w⟩ => ⟨F, S, fun v F1 H1 g1 r1 => ⟨F1, S.mono g1, fun u F2 H2 g2 r2 => ⟨i, j, r1, r2, _, rfl, by
    by_cases h : i ≤ j
    · rw [decide_eq_true h, if_pos rfl]
      exact ⟨F2, (S.mono g1).mono g2, fun z F3 H3 g3 r3 => ⟨j, k, r2, r3, _, rfl, w _ F3 H3 ((g1.trans g2).trans g3) ⟨fun q => ⟨h, of_decide_eq_true q⟩, fun q => decide_eq_true q.2⟩⟩⟩
    · rw [decide_eq_false h, if_neg (by decide)]
      exact ⟨_, rfl, w _ F2 H2 (g1.trans g2) ⟨fun q => (by cases q), fun q => absurd q.1 h⟩⟩⟩⟩⟩
/-! slices -/
def tOp (K : PySem.W.Frag) (δ : De) (μ : Me) (x : Option Int) : TO := fun σ H Q => ∃ F, SE K δ μ σ F H ∧ ∀ F' H', Gr F H F' H' → Q x H'
theorem PO.mono {X : Cx} {e : Option Expr} {t t' : TO} (h : PO X e t) (m : ∀ σ H Q, t' σ H Q → t σ H Q) : PO X e t' := ⟨fun pins s σ H Q I w => h.run pins s σ H Q I (m σ H Q w)⟩
theorem pod_none : PO X none (tOp K δ μ none) := PO.mono po_none fun σ H Q ⟨F, S, w⟩ => w F H (.refl S.fh)
theorem pod_some (h : PE X e (tD K δ μ (.int i))) : PO X (some e) (tOp K δ μ (some i)) := PO.mono (po_some h) fun σ H Q ⟨F, S, w⟩ => ⟨F, S, fun v F1 H1 g r => ⟨i, r, w F1 H1 g⟩⟩
def cutL {α : Type} (xs : List α) (lo hi : Option Int) : List α := (xs.drop (HT.sIx xs.length 0 lo)).take (HT.sIx xs.length xs.length hi - HT.sIx xs.length 0 lo)
theorem RepL.cut {F : Hp} {ds : List D} {vs : List V} (r : RepL K F ds vs) (lo hi : Option Int) : RepL K F (cutL ds lo hi) (cutV vs lo hi) := by
  unfold cutL cutV
  rw [r.length]
  exact (r.drop _).take _
theorem pn_slice {ds : List D} {el eh : Option Expr} {lo hi : Option Int} (ha : PE X a (tD X.K δ μ d)) (hl : PO X el (tOp X.K δ μ lo)) (hh : PO X eh (tOp X.K δ μ hi)) (hq : seqL d = some ds) : PE X (.Subscript a (.Slice el eh none p2) pos) (tN X.K δ μ (cutL ds lo hi)) :=
  PE.mono (pe_slice sl_list ha hl hh) fun σ H Q ⟨F, S, w⟩ => ⟨F, S, fun v F1 H1 g1 r1 => ⟨F1, S.mono g1, fun F2 H2 g2 => ⟨F2, (S.mono g1).mono g2, fun F3 H3 g3 => by
    obtain ⟨q, vs, rfl, rv, hs⟩ := rep_list (Rep.mono (g2.ff.trans g3.ff) r1) hq
    have g := (g1.trans g2).trans g3
    exact ⟨q, vs, rfl, g.fh.sql hs, fun l hl2 => w l _ F3 _ (g.trans (Gr.newH g.fh hl2)) (g.hh.none hl2) (g.fh.none hl2) upd_same (rv.cut lo hi)⟩⟩⟩⟩
theorem pnv_slice {vs : List V} {ds : List D} {el eh : Option Expr} {lo hi : Option Int} (ha : PE X a (tD X.K δ μ (.lv vs ds))) (hl : PO X el (tOp X.K δ μ lo)) (hh : PO X eh (tOp X.K δ μ hi)) : PE X (.Subscript a (.Slice el eh none p2) pos) (tNV X.K δ μ (cutV vs lo hi) (cutL ds lo hi)) :=
  PE.mono (pe_slice sl_list ha hl hh) fun σ H Q ⟨F, S, w⟩ => ⟨F, S, fun v F1 H1 g1 r1 => ⟨F1, S.mono g1, fun F2 H2 g2 => ⟨F2, (S.mono g1).mono g2, fun F3 H3 g3 => by
    obtain ⟨q, rfl, hs, rv⟩ := Rep.mono (g2.ff.trans g3.ff) r1
    have g := (g1.trans g2).trans g3
    exact ⟨q, vs, rfl, .of (g.fh _ _ hs), fun l hl2 => w l F3 _ (g.trans (Gr.newH g.fh hl2)) (g.hh.none hl2) (g.fh.none hl2) upd_same (rv.cut lo hi)⟩⟩⟩⟩
/-- of a tuple, not the whole -/
theorem pd_slT {ds : List D} {el eh : Option Expr} {lo hi : Option Int} (ha : PE X a (tD X.K δ μ (.tup ds))) (hl : PO X el (tOp X.K δ μ lo)) (hh : PO X eh (tOp X.K δ μ hi)) (hw : ¬ (HT.sIx ds.length 0 lo = 0 ∧ HT.sIx ds.length ds.length hi = ds.length)) :
    PE X (.Subscript a (.Slice el eh none p2) pos) (tD X.K δ μ (.tup (cutL ds lo hi))) :=
  PE.mono (pe_slice sl_tup ha hl hh) fun σ H Q ⟨F, S, w⟩ => ⟨F, S, fun v F1 H1 g1 r1 => ⟨F1, S.mono g1, fun F2 H2 g2 => ⟨F2, (S.mono g1).mono g2, fun F3 H3 g3 => by
    obtain ⟨q, vs, rfl, hs, rv⟩ := Rep.mono (g2.ff.trans g3.ff) r1
    have g := (g1.trans g2).trans g3
    refine ⟨q, vs, rfl, .of (g.fh _ _ hs), by rw [rv.length]; exact hw, fun l hl2 => ?_⟩
    have g4 : Gr F3 H3 (upd F3 l (.tup (cutV vs lo hi))) (upd H3 l (.tup (cutV vs lo hi))) := Gr.new g.fh hl2
    exact w _ _ _ (g.trans g4) ⟨l, _, rfl, upd_same, RepL.mono g4.ff (rv.cut lo hi)⟩⟩⟩⟩
theorem cutL_from {α : Type} (xs : List α) (n : Nat) : cutL xs (some (n : Int)) none = xs.drop n := by
  unfold cutL
  rw [HT.sIx_nat, HT.sIx_none]
  rcases Nat.le_total n xs.length with h | h
  · rw [Nat.min_eq_left h, List.take_of_length_le (by rw [List.length_drop]; omega)]
  · rw [Nat.min_eq_right h, List.drop_of_length_le h, List.drop_of_length_le (Nat.le_refl _), List.take_nil]
theorem cutL_to {α : Type} (xs : List α) (n : Nat) : cutL xs none (some (n : Int)) = xs.take n := by
  unfold cutL
  rw [HT.sIx_nat, HT.sIx_none, List.drop_zero, Nat.sub_zero]
  rcases Nat.le_total n xs.length with h | h
  · rw [Nat.min_eq_left h]
  · rw [Nat.min_eq_right h, List.take_of_length_le (Nat.le_refl _), List.take_of_length_le h]
end
end Bl
namespace Bl
open PySem L2
section
variable {X : Cx} {K : PySem.W.Frag} {E : XK} {δ δ' : De} {μ μ' : Me} {o : Oc} {st : Stmt} {rest body : List Stmt} {a b c e tgt : Expr} {es : List Expr} {pos p p2 pos' : Pos} {d d1 d2 : D} {i j k : Int}
/-- y = [.. for .. if ..], the name stored first -/
theorem psd_setLcIf (i : Nat) {y : Str} {py spos : Pos} {elt iter ct : Expr} {scope : Scope} {own : List (Str × Nat)} {ds : List D} (T : D → De) (f : D → D) (q : D → Bool) (hc : X.calm = true) (hN : X.N.Nodup) (hy : X.N[i]? = some y) (hyl : X.env.scope.names.lookup y = some .local)
    (hsw : swapsWith (.ListComp elt [⟨tgt, iter, [ct], 0⟩] scope pos) (some (.Name y py)) spos.line X.env = pure true) (hi : PI X tgt iter (tI X.K δ μ ds)) (ok : BlkOk X.N X.env.scope scope own)
    (hg : ∀ x, x ∈ ds → ∀ (s : Shared) (H : Hp) (C : Addr) (cl : List (Str × Addr)) (fp : List Addr), PG (X.blk s H scope (compEnvC scope cl C X.env) fp) tgt (tG X.K (own.map (·.2)) (wipeD δ (own.map (·.2))) μ x (T x)))
    (ht : ∀ x, x ∈ ds → ∀ (s : Shared) (H : Hp) (C : Addr) (cl : List (Str × Addr)) (fp : List Addr), PT (X.blk s H scope (compEnvC scope cl C X.env) fp) ct (tP X.K (T x) μ (q x = true)))
    (he : ∀ x, x ∈ ds → q x = true → ∀ (s : Shared) (H : Hp) (C : Addr) (cl : List (Str × Addr)) (fp : List Addr), PE (X.blk s H scope (compEnvC scope cl C X.env) fp) elt (tD X.K (T x) μ (f x)))
    (hl : ds.length ≤ 10000) (hs : ∀ x, foldedSetIterable iter X.env x = pure x := by intro _; rfl) :
    PS X (.Assign [.Name y py] (.ListComp elt [⟨tgt, iter, [ct], 0⟩] scope pos) spos) (tS X.K E δ μ (.nx (δ.set i (some (.lst ((ds.filter q).map f)))) μ)) := by
  let ι := { x : D // x ∈ ds }
  let ι2 := { x : D // x ∈ ds ∧ q x = true }
  let g : TG := fun v σ H Q => ∃ q : ι, tG X.K (own.map (·.2)) (wipeD δ (own.map (·.2))) μ q.1 (T q.1) v σ H Q
  let tt : TT := fun σ H Q => ∃ z : ι, tP X.K (T z.1) μ (q z.1 = true) σ H Q
  let te : TE := fun σ H Q => ∃ q : ι2, tD X.K (T q.1) μ (f q.1) σ H Q
  refine psd_setLc i (PS.mono (ps_setLc (i := i) (g := g) (tt := tt) (te := te) hc hN hy hyl hsw hi ok (fun s H C cl fp => PG.union fun q => hg q.1 q.2 s H C cl fp) (fun s H C cl fp => pts_one (PT.union fun q => ht q.1 q.2 s H C cl fp)) (fun s H C cl fp => PE.union fun q => he q.1 q.2.1 q.2.2 s H C cl fp) hs) fun Dn σ H ⟨F, S, k⟩ => ⟨F, S, fun J F1 H1 g1 dw => fun L hL => ?_⟩)
  obtain ⟨Gw, Y, hw, hGw, hY⟩ := dw.ex
  have S1 := S.mono g1
  refine lc_it (g := g) (tt := tt) (te := te) (σ := σ) hw (fun i H2 => ∃ F2 acc, Gr F1 H1 F2 H2 ∧ F2 L = none ∧ H2 L = some (.lst acc) ∧ RepL X.K F2 (((ds.take i).filter q).map f) acc) ⟨F1, [], Gr.newH g1.fh hL, g1.fh.none hL, upd_same, rfl⟩ (fun i H2 _ ⟨F2, acc, g2, _⟩ => hGw F2 H2 g2.ff g2.fh) ?_ ?_
  · rintro i x H2 H3 hi2 ⟨F2, acc, g2, fl, hl2, ra⟩ y
    obtain ⟨F3, dd, hd, g3, r3⟩ := hY i H2 x H3 hi2 y F2 g2.ff g2.fh
    have hm : dd ∈ ds := List.mem_of_getElem? hd
    have S3 : SE X.K δ μ σ F3 H3 := S1.mono (g2.trans g3)
    refine ⟨⟨dd, hm⟩, F3, ⟨S3.fh, S3.env.wiped _, S3.mem⟩, r3, fun σ4 en wq => ⟨wq.trans (wipe_wipe _ σ), ⟨dd, hm⟩, F3, ⟨S3.fh, en, S3.mem⟩, fun bb F3' H3' g3' rb => ?_⟩⟩
    have g23 := (g2.trans g3).trans g3'
    have l3 : H3' L = some (.lst acc) := (g3.trans g3').hh _ _ hl2
    have fl3 : F3' L = none := (g3.trans g3').nf _ _ hl2 fl
    have tk : ds.take (i + 1) = ds.take i ++ [dd] := by rw [List.take_add_one, hd]; rfl
    cases bb with
    | true =>
      have hq : q dd = true := rb.mp rfl
      refine iteT ⟨⟨dd, hm, hq⟩, F3', ⟨g23.fh, EnvR.mono g3'.ff en, (S3.mono g3').mem⟩, fun v F4 H4 g4 r4 => ?_⟩
      have g5 := g23.trans g4
      have l4 : H4 L = some (.lst acc) := g4.hh _ _ l3
      have fl4 : F4 L = none := g4.nf _ _ l3 fl3
      refine ⟨acc, l4, ?_, F4, acc ++ [v], ⟨g5.ff, fun b u q => ?_, fun b u q => ?_, g5.nf⟩, fl4, upd_same, ?_⟩
      · rw [ra.length, List.length_map]
        have h1 := List.length_filter_le q (ds.take i)
        rw [List.length_take] at h1
        exact Nat.lt_of_lt_of_le (show ((ds.take i).filter q).length < 10001 by omega) (by decide)
      · rw [upd_ne (ne_of_none q fl4)]; exact g5.fh _ _ q
      · rw [upd_ne (ne_of_none q hL)]; exact g5.hh _ _ q
      · have e : ((ds.take (i + 1)).filter q).map f = ((ds.take i).filter q).map f ++ [f dd] := by
          rw [tk, List.filter_append, List.map_append, List.filter_cons, if_pos hq]; rfl
        rw [e]
        exact (RepL.mono ((g3.trans g3').trans g4).ff ra).append (RepL.one r4)
    | false =>
      have hq : ¬ q dd = true := fun z => by have := rb.mpr z; cases this
      refine iteF ⟨F3', acc, g23, fl3, l3, ?_⟩
      have e : ((ds.take (i + 1)).filter q).map f = ((ds.take i).filter q).map f := by
        rw [tk, List.filter_append, List.map_append, List.filter_cons, if_neg hq]; simp
      rw [e]
      exact RepL.mono (g3.trans g3').ff ra
  · rintro H2 ⟨F2, acc, g2, fl, hl2, ra⟩
    rw [List.take_length] at ra
    exact k L acc F2 H2 (g1.trans g2) (g1.hh.none hL) fl hl2 ra
/-- x = [y], the thing itself pinned -/
theorem pss_list1 (i jx : Nat) {x : Str} {C : Addr} {ns : List Str} {ds : List D} (hN : X.N.Nodup) (hi : X.N[jx]? = some x) (hx : Loc X.env.scope x) (hj : δ[i]? = some (some (.ins C ns ds))) (he : PE X e (fun σ H Q => ∃ v, σ[i]? = some (some v) ∧ Q v H)) (hs : swapsWith (.List [e] p) (some (.Name x pos')) pos.line X.env = pure false)
    (hf : X.fn x = true ∨ X.env.scope.names.lookup x = some .local) (hst : starEach [e] X.env = (false, eval e X.env) :: starEach [] X.env)
    (h : ∀ q : Addr, PSs X rest (tS X.K E ((δ.set i (some (.mref q))).set jx (some (.lv [.ref q] [.ins C ns ds]))) μ o)) : PSs X (.Assign [.Name x pos'] (.List [e] p) pos :: rest) (tS X.K E δ μ o) :=
  PSs.mono (pss_cons (ps_set (i := jx) hN hi hx (pe_lst (pa_cons he pa_nil hst)) hs hf) (PSs.union h)) fun Dn σ H ⟨F0, H0, F, s, k⟩ => by
    obtain ⟨v, hv, r⟩ := s.se.env.at_ i _ hj
    obtain ⟨q, dx, vs, rfl, hq, rv, hl⟩ := id r
    refine ⟨.ref q, hv, small_line (by show 1 ≤ 10000; decide), fun l hl2 => ?_⟩
    have g : Gr F H (upd F l (.lst [.ref q])) (upd H l (.lst [.ref q])) := Gr.new s.se.fh hl2
    have s2 := s.up g
    refine ⟨q, F0, H0, _, ⟨⟨s2.se.fh, EnvR.set (d := .lv [.ref q] [.ins C ns ds]) (EnvR.alt (d := .mref q) s2.se.env hv rfl) ⟨l, rfl, upd_same, .ref q, [], rfl, Rep.mono g.ff r, rfl⟩, s2.se.mem⟩, s2.gr, s2.fr⟩, k⟩
theorem pnv_one {q : Addr} (he : PE X e (tD K δ μ (.mref q))) (hst : starEach [e] X.env = (false, eval e X.env) :: starEach [] X.env := by rfl) : PE X (.List [e] pos) (tNV K δ μ [.ref q] [.mref q]) :=
  PE.mono (pe_lst (pas_cons he pas_nil hst)) fun σ H Q ⟨F, S, k⟩ => ⟨F, S, fun vs F1 H1 g r => by
    obtain ⟨v, t, rfl, r1, r2⟩ := r
    obtain rfl : t = [] := r2
    obtain rfl : v = .ref q := r1
    exact ⟨small_line (by show 1 ≤ 10000; decide), fun l hl => k l F1 _ (g.trans (Gr.newH g.fh hl)) (g.hh.none hl) (g.fh.none hl) upd_same ⟨_, _, rfl, rfl, rfl⟩⟩⟩
end
end Bl
namespace L2
open PySem PySem.Spec PyProof.Rows
/-! list(reversed(xs)) -/
section
variable {P : Program} {w : World} {A : Around} {E : Value → Shared → Prop} {s : Shared}
theorem rv_extend {it l S : Addr} {us : Array Value} {c0 : Nat} {res : Value} {R : Result → Shared → Prop} (hh : A.handled = none) (hit : s.heap.IsRevIter it l ((us.size : Int) - 1)) (hl : s.heap.IsList l us) (hne : l ≠ it) (hn : us.size ≤ sizeLine)
    (hS : s.heap.get? S = some { cls := .type "list", data := .seq #[] c0 }) (n1 : S ≠ it) (n2 : S ≠ l)
    (hR : ∀ g k (acc : Array Value) c, (∀ b o, b ≠ it → b ≠ S → s.heap.get? b = some o → g.get? b = some o) → g.get? S = some { cls := .type "list", dict := none, data := .seq acc c, slots := #[] } → ItemsOf (fun i v => us[us.size - 1 - i]? = some v) acc us.size → R (.ok (.ret res)) { s with heap := g, toks := k }) :
    wpAny (model P w) A.in1 (Builtin.List.listExtendWith (.ref S) (.ref it) res) (fun f s' => match f with | .done f => R (.ok f) s' | .again c' => c'.quiet = true ∧ codeAny (model P w) A c' R s') (fun e s' => R (.error e) s') s := by
  have W := (Walks.listRev (prog := P) (w := w) (A := A.in1) hh it l hne us).toS
  have nS : S ∉ [it, l] := by
    intro z
    rcases List.mem_cons.mp z with z | z
    · exact n1 z
    · exact n2 (List.mem_singleton.mp z)
  have hT : s.TypeIs (.ref it) "list_reverseiterator" := hit.typeIs
  have ns : Builtin.List.listSameRef (.ref S) (.ref it) = false := by simp [Builtin.List.listSameRef, n1]
  unfold Builtin.List.listExtendWith; refine wpAny_bind (wpAny_typeOf hT ?_); rw [if_neg (by rw [ns]; decide)]
  refine wpAny_bind (wpAny_pyIter_revIter hit (wpAny_bind (wpAny_holding ?_)))
  unfold Builtin.List.listLengthHint; refine wpAny_bind (wpAny_specialOf hT RT.nolen_lri ?_)
  show wpAny _ A.in1 (specialOf (Value.ref it) (Str.ofString "__length_hint__") >>= _) _ _ _; refine wpAny_bind (wpAny_specialOf hT RT.hint_lri ?_)
  generalize hi : ("list_reverseiterator.__length_hint__" : String) = nm
  wp_delta
  rw [show splitId nm = some ("list_reverseiterator", "__length_hint__") from by subst hi; decide +kernel]; subst hi
  refine wpAny_bind (wpAny_isInstance (b := true) hT (by rw [isSubtype_type]; kernel_rfl) (wpAny_pure ?_)); rw [if_neg (by decide)]
  have z0 : ((us.size : Nat) : Int) - 1 - ((0 : Nat) : Int) = (us.size : Int) - 1 := by omega
  refine wpAny_pure ⟨plainId_quiet F.plain_extend_loop _, codeAny_extend_loopS W hn _ nS _ us.size 0 _ _ _ rfl (Nat.zero_le _) ⟨Nat.zero_le _, by rw [z0]; exact hit, hl⟩ hS (ItemsOf.nil _) fun s2 acc c mv hS2 hacc => ?_⟩
  rw [Moved.eq_with mv]
  refine hR s2.heap s2.toks acc c (fun b o b1 b2 e => mv.heap b o (fun z => ?_) e) hS2 hacc
  rcases List.mem_cons.mp z with z | z
  · exact b2 z
  · exact b1 (List.mem_singleton.mp z)
theorem rv_list {it l : Addr} {us : Array Value} {Q : Value → Shared → Prop} (hh : A.handled = none) (hit : s.heap.IsRevIter it l ((us.size : Int) - 1)) (hl : s.heap.IsList l us) (hne : l ≠ it) (hn : us.size ≤ sizeLine)
    (hQ : ∀ g k (acc : Array Value) c, (∀ b o, b ≠ it → s.heap.get? b = some o → g.get? b = some o) → g.get? s.heap.objs.size = some { cls := .type "list", dict := none, data := .seq acc c, slots := #[] } → ItemsOf (fun i v => us[us.size - 1 - i]? = some v) acc us.size → Q (.ref s.heap.objs.size) { s with heap := g, toks := k }) :
    wpAny (model P w) A (call (.type "list") [.ref it]) Q E s := by
  refine callType_codes (Q₁ := fun x s1 => x = .ref s.heap.objs.size ∧ s1 = { s with heap := s.heap.push { cls := .type "list", data := .seq #[] } }) F.called_list (F.typeCall_list_1 _) F.entry_list_init (code_list_new _ ⟨rfl, rfl⟩) fun x s1 h1 => ?_
  obtain ⟨rfl, rfl⟩ := h1
  have hS : (s.heap.push { cls := .type "list", data := .seq #[] }).get? s.heap.objs.size = some { cls := .type "list", data := .seq #[] } := Heap.get?_push_size _ rfl
  obtain ⟨oi, hoi, _⟩ := id hit
  obtain ⟨ol, hol, _⟩ := id hl
  have n1 : s.heap.objs.size ≠ it := Nat.ne_of_gt (Heap.lt_size hoi)
  have n2 : s.heap.objs.size ≠ l := Nat.ne_of_gt (Heap.lt_size hol)
  refine ⟨⟨_, hS, rfl⟩, F.args_list_init_2 _ _, ?_⟩
  show wpAny _ _ (do let old ← Builtin.List.listItems (.ref s.heap.objs.size); Builtin.List.listUpdate (.ref s.heap.objs.size) (fun _ => #[]); letGo old.toList.reverse; Builtin.List.listExtendWith (.ref s.heap.objs.size) (.ref it) .none) _ _ _
  refine wpAny_bind ?_; unfold Builtin.List.listItems; refine wpAny_bind (wpAny_seqItems hS rfl (wpAny_pure ?_))
  show wpAny _ _ (updateSeq s.heap.objs.size (fun _ => #[]) >>= fun _ => letGo (#[] : Array Value).toList.reverse >>= fun _ => Builtin.List.listExtendWith (.ref s.heap.objs.size) (.ref it) .none) _ _ _
  refine wpAny_bind (wpAny_updateSeq hS rfl ?_)
  have hS2 := Heap.get?_update_self (Obj.mapSeq (fun _ => (#[] : Array Value))) hS rfl
  have up : ∀ b o, b ≠ s.heap.objs.size → s.heap.get? b = some o → ((s.heap.push { cls := .type "list", data := .seq #[] }).update s.heap.objs.size (Obj.mapSeq (fun _ => (#[] : Array Value)))).get? b = some o :=
    fun b o hb e => (Heap.get?_update_other _ _ (Ne.symm hb)).trans (Heap.get?_push_of_some _ e)
  refine wpAny_bind (wpAny_letGo ?_)
  refine rv_extend hh (hit.at fun o e => up _ o n1.symm e) ⟨_, up _ _ n2.symm hol, (by obtain ⟨o, ho, r⟩ := hl; rw [hol] at ho; cases ho; exact r)⟩ hne hn hS2 n1 n2 fun g k acc c hk hg ha => ⟨rfl, hQ g k acc c (fun b o hb e => hk b o hb (Nat.ne_of_lt (Heap.lt_size e)) (up b o (Nat.ne_of_lt (Heap.lt_size e)) e)) hg ha⟩
end
section
variable {X : Cx} {e : Expr} {p p2 pos cpos : Pos} {ta : TA}
theorem vals_rev {ys : List V} {its : List Value} (rv : Vals ys its) {acc : Array Value} (h : ItemsOf (fun i v => its.toArray[its.toArray.size - 1 - i]? = some v) acc its.toArray.size) : Vals ys.reverse acc.toList := by
  have e1 : acc.toList = its.reverse := by
    apply List.ext_getElem?
    intro i
    by_cases hi : i < its.length
    · have hj : i < acc.size := by rw [h.1]; simpa using hi
      have h2 := h.2 i acc[i] (Array.getElem?_eq_getElem hj)
      rw [List.getElem?_reverse hi, Array.getElem?_toList, Array.getElem?_eq_getElem hj]
      simpa using h2.symm
    · rw [List.getElem?_eq_none (by rw [Array.length_toList, h.1]; simpa using hi), List.getElem?_eq_none (by rw [List.length_reverse]; omega)]
  rw [e1]
  clear h e1
  induction rv with
  | nil => exact .nil
  | cons r _ ih =>
    rw [List.reverse_cons, List.reverse_cons]
    have app : ∀ {a : List V} {b : List Value} {x : V} {u : Value}, Vals a b → RelV x u → Vals (a ++ [x]) (b ++ [u]) := by
      intro a b x u hab hxu
      induction hab with
      | nil => exact .cons hxu .nil
      | cons r2 _ ih2 => exact .cons r2 ih2
    exact app ih r
theorem pe_lrev (hc : X.calm = true) (hg : Gl X "list") (hm : X.mg "list" = none) (hg2 : Gl X "reversed") (hm2 : X.mg "reversed" = none) (ha : PA X [e] ta) (hs : starEach [e] X.env = [(false, eval e X.env)] := by rfl)
    (hs2 : starEach [.Call (.Name "reversed" p2) [e] [] cpos] X.env = (false, eval (.Call (.Name "reversed" p2) [e] [] cpos) X.env) :: starEach [] X.env := by rfl) (hpl : (backTo pos (starEach [] X.env)).any (·.1) = false := by rfl) :
    PE X (.Call (.Name "list" p) [.Call (.Name "reversed" p2) [e] [] cpos] [] pos) (fun σ H Q => ta σ H fun vs H1 => ∃ a ys, vs = [.ref a] ∧ SqL X.K H1 a ys ∧ ∀ l, H1 l = none → Q (.ref l) (upd H1 l (.lst ys.reverse))) := by
  refine ⟨fun pins s σ H Q I h => PyProof.Rows.Call_ (ld_blt I hg hm (by decide +kernel : bootBuiltins "list" = some (.type "list")) (PyProof.Rows.callWith_type1 ?_ hs2 hpl))⟩
  rw [hs2]
  show wpAny _ _ (spliced ((false, eval (.Call (.Name "reversed" p2) [e] [] cpos) X.env) :: [])) _ _ s
  refine Calls.spliced_cons (PyProof.Rows.Call_ (ld_blt I hg2 hm2 PyProof.Rows.boot_reversed (PyProof.Rows.callWith_type1 (thn (ha.run cpos pins s σ H _ I h) fun us s1 ⟨vs, H1, I1, r1, q1⟩ => ?_) hs rfl)))
  obtain ⟨a, ys, rfl, hq, q⟩ := q1
  obtain ⟨its, rv, pl, hz⟩ := I1.list hq
  have lv := rv.length
  rw [Vals.ref1 r1]
  have lt : a < s1.heap.objs.size := pl.lt
  refine call_reversed_list pl.isList (Calls.spliced_nil ?_)
  refine rv_list (us := its.toArray) (I1.ok.hd hc) ⟨_, Heap.get?_push_size _ rfl, rfl, rfl⟩ (pl.isList.push _) (Nat.ne_of_lt lt) (by simp only [List.size_toArray]; omega) fun g k acc c hk hg hacc => ?_
  have sz : (s1.heap.push (revObj a ((its.toArray.size : Int) - 1))).objs.size = s1.heap.objs.size + 1 := Heap.size_push ..
  rw [sz] at hg
  have hlen : ys.reverse.length ≤ sizeLine := by rw [List.length_reverse]; exact hz
  have J : Inv X pins σ (upd H1 (s1.heap.objs.size + 1) (.lst ys.reverse)) { s1 with heap := g, toks := k } :=
    I1.laid (fun b u q => hk b u (Nat.ne_of_lt (Heap.lt_size q)) (Heap.get?_push_of_some _ q)) (Nat.le_succ _) ⟨hlen, acc.toList, c, vals_rev rv hacc, by rw [Array.toArray_toList]; exact hg⟩
  rw [sz]
  exact ⟨.ref _, _, J, rfl, q _ (I1.hok.fresh (Nat.le_succ _))⟩
end
end L2
namespace Bl
open PySem L2
section
variable {X : Cx} {δ : De} {μ : Me} {a : Expr} {pos p p2 cpos : Pos} {d : D}
/-- list(reversed(xs)) -/
theorem pn_lrev {ds : List D} (hc : X.calm = true) (hg : Gl X "list") (hm : X.mg "list" = none) (hg2 : Gl X "reversed") (hm2 : X.mg "reversed" = none) (ha : PE X a (tD X.K δ μ d)) (hq : seqL d = some ds)
    (hs : starEach [a] X.env = [(false, eval a X.env)] := by rfl) (hs2 : starEach [.Call (.Name "reversed" p2) [a] [] cpos] X.env = (false, eval (.Call (.Name "reversed" p2) [a] [] cpos) X.env) :: starEach [] X.env := by rfl) (hpl : (backTo pos (starEach [] X.env)).any (·.1) = false := by rfl) :
    PE X (.Call (.Name "list" p) [.Call (.Name "reversed" p2) [a] [] cpos] [] pos) (tN X.K δ μ ds.reverse) :=
  PE.mono (pe_lrev hc hg hm hg2 hm2 (pas_cons ha pas_nil hs) hs hs2 hpl) fun σ H Q ⟨F, S, k⟩ => ⟨F, S, fun vs F1 H1 g r => by
    obtain ⟨v, t, e, r2, r3⟩ := r
    obtain rfl : t = [] := r3
    subst e
    obtain ⟨q, ys, rfl, rv, hsq⟩ := rep_list r2 hq
    exact ⟨q, ys, rfl, g.fh.sql hsq, fun l hl => k l _ F1 _ (g.trans (Gr.newH g.fh hl)) (g.hh.none hl) (g.fh.none hl) upd_same rv.reverse⟩⟩
end
end Bl
namespace Bl
open PySem L2
/-! zip of three lists -/
/-- the lists at a, b, c, item by item in new triples -/
def It3 (K : PySem.W.Frag) (a b c : Addr) : It :=
  ⟨fun i H => ∃ (xs ys zs : List V) (x y z : V), (SqL K H a xs ∧ xs[i]? = some x) ∧ (SqL K H b ys ∧ ys[i]? = some y) ∧ SqL K H c zs ∧ zs[i]? = some z,
    fun i H v H' => ∃ T x y z, (v = .ref T ∧ H T = none) ∧ H' = upd H T (.tup [x, y, z]) ∧ (∀ xs, SqL K H a xs → xs[i]? = some x) ∧ (∀ ys, SqL K H b ys → ys[i]? = some y) ∧ ∀ zs, SqL K H c zs → zs[i]? = some z,
    fun i H => ∃ xs ys zs : List V, (SqL K H a xs ∧ SqL K H b ys ∧ SqL K H c zs) ∧ (i ≤ xs.length ∧ i ≤ ys.length ∧ i ≤ zs.length) ∧ (i = xs.length ∨ i = ys.length ∨ i = zs.length)⟩
theorem mem6 {z t u c d f e : Addr} (h : e ∈ [z, t, u, c, d, f]) : e = z ∨ e = t ∨ e = u ∨ e = c ∨ e = d ∨ e = f := by simpa using h
abbrev At3 (z t u c d f l m n : Addr) : Nat → Heap → Prop := fun i h => IsZip h z t u .none ∧ IsTupOf3 h t (.ref c) (.ref d) (.ref f) ∧ (∃ x y v, IsTupOf3 h u x y v) ∧ h.IsListIter c l i ∧ h.IsListIter d m i ∧ h.IsListIter f n i
theorem lst_ne {h : Heap} {c l a : Addr} {i : Nat} {xs : Array Value} (h1 : h.IsListIter c l i) (h2 : h.IsList a xs) : a ≠ c := fun e => by
  subst e
  obtain ⟨o, g1, g2, _⟩ := h1
  obtain ⟨o2, g3, g4, _⟩ := h2
  rw [g1] at g3
  cases g3
  rw [g2] at g4
  exact absurd (Value.type.inj g4) (by decide)
theorem turn_z3 {P : Program} {w : World} {K : PySem.W.Frag} {elts : List Expr} {kk : Nat} {tpos : Pos} {l m n z t u c d f : Addr} (S : ZipSep3 z t u c d f [c, l] [d, m] [f, n]) :
    Turn P w K (.Tuple elts kk tpos) (It3 K l m n) [z, t, u, c, d, f] z (At3 z t u c d f l m n) where
  mem := List.mem_cons_self ..
  obj := fun i h st e he => by
    obtain ⟨hz, ht, ⟨x, y, v, hu⟩, ⟨o1, e1, _, d1⟩, ⟨o2, e2, _, d2⟩, o3, e3, _, d3⟩ := st
    rcases mem6 he with rfl | rfl | rfl | rfl | rfl | rfl
    · exact ⟨_, hz, fun v n => nomatch n⟩
    · exact ⟨_, ht, fun v n => nomatch n⟩
    · exact ⟨_, hu, fun v n => nomatch n⟩
    · exact ⟨o1, e1, fun v n => by rw [d1] at n; cases n⟩
    · exact ⟨o2, e2, fun v n => by rw [d2] at n; cases n⟩
    · exact ⟨o3, e3, fun v n => by rw [d3] at n; cases n⟩
  keep := fun i h g st k => by
    obtain ⟨hz, ht, ⟨x, y, v, hu⟩, h1, h2, h3⟩ := st
    exact ⟨k z (by simp) _ hz, k t (by simp) _ ht, ⟨x, y, v, k u (by simp) _ hu⟩, h1.at fun o n => k c (by simp) o n, h2.at fun o n => k d (by simp) o n, h3.at fun o n => k f (by simp) o n⟩
  item := fun X hP hw hK hc i pins s σ H E I hf st hg => by
    subst hP hw hK
    obtain ⟨hz, ht, ⟨x0, y0, v0, hu⟩, h1, h2, h3⟩ := st
    obtain ⟨xs, ys, zs, x, y, v, ⟨qx, hx⟩, ⟨qy, hy⟩, qz, hv⟩ := hg
    obtain ⟨us, rx, px, _⟩ := I.list qx
    obtain ⟨ws, ry, py, _⟩ := I.list qy
    obtain ⟨ks, rz, pz, _⟩ := I.list qz
    obtain ⟨ux, e1, r1⟩ := rx.get hx
    obtain ⟨uy, e2, r2⟩ := ry.get hy
    obtain ⟨uz, e3, r3⟩ := rz.get hv
    have zl : z < s.heap.objs.size := Heap.lt_size hz
    have hh : X.A.in1.handled = none := I.ok.hd hc
    have n1 : l ≠ c := lst_ne h1 px.isList
    have n2 : m ≠ d := lst_ne h2 py.isList
    have n3 : n ≠ f := lst_ne h3 pz.isList
    have i1 : i < us.toArray.size := by have := (List.getElem?_eq_some_iff.mp e1).1; simpa using this
    have i2 : i < ws.toArray.size := by have := (List.getElem?_eq_some_iff.mp e2).1; simpa using this
    have i3 : i < ks.toArray.size := by have := (List.getElem?_eq_some_iff.mp e3).1; simpa using this
    refine wpAny_pyNext_zipD3_item S (Draws.list hh c l n1 us.toArray) (Draws.list hh d m n2 ws.toArray) (Draws.list hh f n n3 ks.toArray) hz ht hu ⟨h1, px.isList⟩ ⟨h2, py.isList⟩ ⟨h3, pz.isList⟩ i1 i2 i3 fun x1 x2 x3 g tk p1 p2 p3 z1 u1 a1 b1 c1 t1 sz k1 => ?_
    have ex1 : x1 = ux := by have := p1; simp only [List.getElem?_toArray] at this; rw [e1] at this; exact (Option.some.inj this).symm
    have ex2 : x2 = uy := by have := p2; simp only [List.getElem?_toArray] at this; rw [e2] at this; exact (Option.some.inj this).symm
    have ex3 : x3 = uz := by have := p3; simp only [List.getElem?_toArray] at this; rw [e3] at this; exact (Option.some.inj this).symm
    subst ex1; subst ex2; subst ex3
    refine ⟨_, rfl, ?_⟩
    refine wpAny_letOwnedTupleGo_zip (s := { s with heap := g, toks := tk }) z1 fun g2 z2 sb => ?_
    have t2 : g2.get? s.heap.objs.size = some { cls := .type "tuple", data := .seq #[x1, x2, x3] } := (sb.2 _ (Nat.ne_of_gt zl)).trans t1
    have new : ObjOk X.prog X.w (upd H s.heap.objs.size (.tup [x, y, v])) g2 s.heap.objs.size (.tup [x, y, v]) := ⟨by show 3 ≤ sizeLine; decide, [x1, x2, x3], .cons r1 (.cons r2 (.cons r3 .nil)), ⟨_, t2, rfl, _, rfl⟩⟩
    have I1 : Inv X pins σ (upd H s.heap.objs.size (.tup [x, y, v])) { s with heap := g2, toks := tk } :=
      I.turnedNew (t' := tk) (ch := [z, t, u, c, d, f]) (fun e o n q => (sb.2 e fun q' => n (by simp [q'])).trans (k1 e o (fun q' => n (by simp [q'])) (fun q' => n (by simp [q'])) (fun q' => n (by simp [q'])) (fun q' => n (by simp [q'])) (fun q' => n (by simp [q'])) q)) hf (Nat.le_refl _) new
    refine ⟨.ref s.heap.objs.size, _, I1, rfl, ⟨_, x, y, v, ⟨rfl, I.hok.fresh (Nat.le_refl _)⟩, rfl, fun l hl => by rw [I.list_inj hl qx]; exact hx, fun l hl => by rw [I.list_inj hl qy]; exact hy, fun l hl => by rw [I.list_inj hl qz]; exact hv⟩, ⟨z2, ?_, ⟨x1, x2, x3, ?_⟩, ?_, ?_, ?_⟩, fun e he => ?_⟩
    · exact (sb.2 _ S.TIz).trans (k1 _ _ S.TIz S.TITO S.TIi1 S.TIi2 S.TIi3 ht)
    · exact (sb.2 _ S.TOz).trans u1
    · exact a1.1.at fun o n => (sb.2 _ S.zi1.symm).trans n
    · exact b1.1.at fun o n => (sb.2 _ S.zi2.symm).trans n
    · exact c1.1.at fun o n => (sb.2 _ S.zi3.symm).trans n
    · have lt : e < s.heap.objs.size := by
        rcases mem6 he with rfl | rfl | rfl | rfl | rfl | rfl
        · exact zl
        · exact Heap.lt_size ht
        · exact Heap.lt_size hu
        · obtain ⟨_, q, _⟩ := h1; exact Heap.lt_size q
        · obtain ⟨_, q, _⟩ := h2; exact Heap.lt_size q
        · obtain ⟨_, q, _⟩ := h3; exact Heap.lt_size q
      rw [upd_ne (Nat.ne_of_lt lt)]
      exact (hf e he).1
  done := fun X hP hw hK hc i pins s σ H E I hf st hg => by
    subst hP hw hK
    obtain ⟨hz, ht, ⟨x0, y0, v0, hu⟩, h1, h2, h3⟩ := st
    obtain ⟨xs, ys, zs, ⟨qx, qy, qz⟩, ⟨le1, le2, le3⟩, hn⟩ := hg
    obtain ⟨us, rx, px, _⟩ := I.list qx
    obtain ⟨ws, ry, py, _⟩ := I.list qy
    obtain ⟨ks, rz, pz, _⟩ := I.list qz
    have lx := rx.length
    have ly := ry.length
    have lz := rz.length
    have hh : X.A.in1.handled = none := I.ok.hd hc
    have n1 : l ≠ c := lst_ne h1 px.isList
    have n2 : m ≠ d := lst_ne h2 py.isList
    have n3 : n ≠ f := lst_ne h3 pz.isList
    have s1 : us.toArray.size = xs.length := by simp; omega
    have s2 : ws.toArray.size = ys.length := by simp; omega
    have s3 : ks.toArray.size = zs.length := by simp; omega
    refine wpAny_pyNext_zipD3_end S (Draws.list hh c l n1 us.toArray) (Draws.list hh d m n2 ws.toArray) (Draws.list hh f n n3 ks.toArray) hz ht hu ⟨h1, px.isList⟩ ⟨h2, py.isList⟩ ⟨h3, pz.isList⟩ (by omega) (by omega) (by omega) (by omega) fun g tk k1 => ?_
    exact ⟨rfl, I.turnedL (t' := tk) (ch := [z, t, u, c, d, f]) (fun e o n q => k1 e o (fun q' => n (by simp [q'])) (fun q' => n (by simp [q'])) (fun q' => n (by simp [q'])) (fun q' => n (by simp [q'])) (fun q' => n (by simp [q'])) q) hf⟩
  self := fun A i s Q E st h => wpAny_pyIter_zip st.1 h
theorem sep3 {b l m n : Nat} (h1 : l < b) (h2 : m < b) (h3 : n < b) : ZipSep3 (b + 5) (b + 3) (b + 4) b (b + 1) (b + 2) [b, l] [b + 1, m] [b + 2, n] := by
  have ne : ∀ {x y : Nat}, x < y ∨ y < x → x ≠ y := fun h e => by omega
  have nm : ∀ {x y z : Nat}, x ≠ y → x ≠ z → x ∉ [y, z] := fun h1 h2 h => by simp [h1, h2] at h
  constructor <;> first
    | exact ne (by omega)
    | exact nm (ne (by omega)) (ne (by omega))
    | simp
def iZ3 (K : PySem.W.Frag) (ta : TA) : TI := fun σ H R => ta σ H fun vs H1 => ∃ a b c xs ys zs, vs = [.ref a, .ref b, .ref c] ∧ (SqL K H1 a xs ∧ SqL K H1 b ys ∧ SqL K H1 c zs) ∧ R (It3 K a b c) H1
theorem pi_z3 {X : Cx} {e e2 e3 : Expr} {ta : TA} {p pos tpos : Pos} {elts : List Expr} {kk : Nat} (hg : Gl X "zip") (hm : X.mg "zip" = none) (ha : PA X [e, e2, e3] ta)
    (hs : starEach [e, e2, e3] X.env = (false, eval e X.env) :: starEach [e2, e3] X.env := by rfl) (hpl : (backTo pos (starEach [e2, e3] X.env)).any (·.1) = false := by rfl) : PI X (.Tuple elts kk tpos) (.Call (.Name "zip" p) [e, e2, e3] [] pos) (iZ3 X.K ta) := by
  refine ⟨fun pins s σ H R I h => PyProof.Rows.Call_ (ld_blt I hg hm PyProof.Rows.boot_zip (PyProof.Rows.callWith_type1 (thn (ha.run pos pins s σ H _ I h) fun us s1 ⟨vs, H1, I1, r1, q1⟩ => ?_) hs hpl))⟩
  obtain ⟨a, b, c, xs, ys, zs, rfl, ⟨qx, qy, qz⟩, q⟩ := q1
  obtain ⟨v1, t1, rfl, r0, r2⟩ : ∃ v t, us = v :: t ∧ RelV (.ref a) v ∧ Vals [V.ref b, V.ref c] t := by cases r1 with | cons r rr => exact ⟨_, _, rfl, r, rr⟩
  obtain ⟨v2, t2, rfl, r3, r4⟩ : ∃ v t, t1 = v :: t ∧ RelV (.ref b) v ∧ Vals [V.ref c] t := by cases r2 with | cons r rr => exact ⟨_, _, rfl, r, rr⟩
  obtain ⟨v3, rfl, r5⟩ : ∃ v, t2 = [v] ∧ RelV (.ref c) v := by cases r4 with | cons r rr => cases rr; exact ⟨_, rfl, r⟩
  have ea : v1 = Value.ref a := r0
  have eb : v2 = Value.ref b := r3
  have ec : v3 = Value.ref c := r5
  subst ea; subst eb; subst ec
  obtain ⟨js, rx, px, _⟩ := I1.list qx
  obtain ⟨ks, ry, py, _⟩ := I1.list qy
  obtain ⟨ls, rz, pz, _⟩ := I1.list qz
  refine zip_begins3 (begins_list a js.toArray) (begins_list b ks.toArray) (begins_list c ls.toArray) px.isList py.isList pz.isList fun g hz ht hu h1 h2 h3 _ hk => wpAny_pyIter_zip hz ?_
  refine ⟨s1.heap.objs.size + 5, [s1.heap.objs.size + 5, s1.heap.objs.size + 3, s1.heap.objs.size + 4, s1.heap.objs.size, s1.heap.objs.size + 1, s1.heap.objs.size + 2], _, _, H1, rfl, I1.kept (t' := s1.toks) hk,
    turn_z3 (sep3 px.lt py.lt pz.lt), ⟨hz, ht, ⟨_, _, _, hu⟩, ⟨_, h1, rfl, rfl⟩, ⟨_, h2, rfl, rfl⟩, ⟨_, h3, rfl, rfl⟩⟩, fun e hc => ?_, q⟩
  have le : s1.heap.objs.size ≤ e := by rcases mem6 hc with rfl | rfl | rfl | rfl | rfl | rfl <;> first | exact Nat.le_add_right _ _ | exact Nat.le_refl _
  exact I1.fpOk le (I1.hok.fresh le)
def Y3 (xs ys zs : List V) : Nat → Hp → V → Hp → Prop := fun i H v H' => ∃ T x y z, v = .ref T ∧ H T = none ∧ H' = upd H T (.tup [x, y, z]) ∧ xs[i]? = some x ∧ ys[i]? = some y ∧ zs[i]? = some z
theorem walk_z3 {K : PySem.W.Frag} {a b c : Addr} {xs ys zs : List V} {n : Nat} (hn : n = min xs.length (min ys.length zs.length)) : Walk (It3 K a b c) n (fun H => SqL K H a xs ∧ SqL K H b ys ∧ SqL K H c zs) (Y3 xs ys zs) := by
  subst hn
  refine ⟨fun i _ hi g => ?_, fun _ g => ⟨xs, ys, zs, g, by omega, by omega⟩, fun i H v H' _ g y => ?_⟩
  · have l1 : i < xs.length := by omega
    have l2 : i < ys.length := by omega
    have l3 : i < zs.length := by omega
    exact ⟨xs, ys, zs, xs[i], ys[i], zs[i], ⟨g.1, by simp [l1]⟩, ⟨g.2.1, by simp [l2]⟩, g.2.2, by simp [l3]⟩
  · obtain ⟨T, x, y, z, ⟨h1, h2⟩, h3, h4, h5, h6⟩ := y
    exact ⟨T, x, y, z, h1, h2, h3, h4 xs g.1, h5 ys g.2.1, h6 zs g.2.2⟩
theorem rep_three {K : PySem.W.Frag} {F H : Hp} {T : Addr} {x y z : V} {d1 d2 d3 : D} (e : Ex F H) (hn : H T = none) (r1 : Rep K F d1 x) (r2 : Rep K F d2 y) (r3 : Rep K F d3 z) :
    Gr F H (upd F T (.tup [x, y, z])) (upd H T (.tup [x, y, z])) ∧ Rep K (upd F T (.tup [x, y, z])) (.tup [d1, d2, d3]) (.ref T) := by
  have g : Gr F H (upd F T (.tup [x, y, z])) (upd H T (.tup [x, y, z])) := Gr.new e hn
  exact ⟨g, T, [x, y, z], rfl, upd_same, x, [y, z], rfl, Rep.mono g.ff r1, y, [z], rfl, Rep.mono g.ff r2, z, [], rfl, Rep.mono g.ff r3, rfl⟩
def zip3D (ds es fs : List D) : List D := (ds.zip (es.zip fs)).map fun q => .tup [q.1, q.2.1, q.2.2]
theorem zip3_get {ds es fs : List D} {i : Nat} {x y z : D} (h1 : ds[i]? = some x) (h2 : es[i]? = some y) (h3 : fs[i]? = some z) : (zip3D ds es fs)[i]? = some (.tup [x, y, z]) := by
  unfold zip3D
  have h4 : (es.zip fs)[i]? = some (y, z) := List.getElem?_zip_eq_some.mpr ⟨h2, h3⟩
  have h5 : (ds.zip (es.zip fs))[i]? = some (x, (y, z)) := List.getElem?_zip_eq_some.mpr ⟨h1, h4⟩
  rw [List.getElem?_map, h5]
  rfl
theorem zip3_length (ds es fs : List D) : (zip3D ds es fs).length = min ds.length (min es.length fs.length) := by
  unfold zip3D
  rw [List.length_map, List.length_zip, List.length_zip]
theorem zip3_back {ds es fs : List D} {i : Nat} {u : D} (h : (zip3D ds es fs)[i]? = some u) : ∃ x y z, ds[i]? = some x ∧ es[i]? = some y ∧ fs[i]? = some z ∧ u = .tup [x, y, z] := by
  unfold zip3D at h
  rw [List.getElem?_map] at h
  cases q : (ds.zip (es.zip fs))[i]? with
  | none => rw [q] at h; cases h
  | some v =>
    rw [q] at h
    obtain ⟨h1, h2⟩ := List.getElem?_zip_eq_some.mp q
    obtain ⟨h3, h4⟩ := List.getElem?_zip_eq_some.mp h2
    exact ⟨_, _, _, h1, h3, h4, (Option.some.inj h).symm⟩
section
variable {X : Cx} {δ : De} {μ : Me} {a b c : Expr} {pos p : Pos}
/-- zip of three lists -/
theorem pid_z3 {elts : List Expr} {kk : Nat} {tpos : Pos} {d1 d2 d3 : D} {ds es fs : List D} (hg : Gl X "zip") (hm : X.mg "zip" = none) (ha : PE X a (tD X.K δ μ d1)) (hb : PE X b (tD X.K δ μ d2)) (hc : PE X c (tD X.K δ μ d3)) (hq1 : seqL d1 = some ds) (hq2 : seqL d2 = some es) (hq3 : seqL d3 = some fs)
    (hs : starEach [a, b, c] X.env = (false, eval a X.env) :: starEach [b, c] X.env := by rfl) (hs2 : starEach [b, c] X.env = (false, eval b X.env) :: starEach [c] X.env := by rfl) (hs3 : starEach [c] X.env = (false, eval c X.env) :: starEach [] X.env := by rfl) (hpl : (backTo pos (starEach [b, c] X.env)).any (·.1) = false := by rfl) :
    PI X (.Tuple elts kk tpos) (.Call (.Name "zip" p) [a, b, c] [] pos) (tI X.K δ μ (zip3D ds es fs)) :=
  PI.mono (pi_z3 hg hm (pas_cons ha (pas_cons hb (pas_cons hc pas_nil hs3) hs2) hs) hs hpl) fun σ H R ⟨F, S, k⟩ => ⟨F, S, fun vs F1 H1 g r => by
    obtain ⟨v, t, e1, r1, v2, t2, e2, r2, v3, t3, e3, r3, e4⟩ := r
    have e5 : t3 = [] := e4
    subst e5; subst e3; subst e2; subst e1
    obtain ⟨q1, us1, f1, rv1, hl1⟩ := rep_list r1 hq1
    obtain ⟨q2, us2, f2, rv2, hl2⟩ := rep_list r2 hq2
    obtain ⟨q3, us3, f3, rv3, hl3⟩ := rep_list r3 hq3
    subst f1; subst f2; subst f3
    refine ⟨q1, q2, q3, us1, us2, us3, rfl, ⟨g.fh.sql hl1, g.fh.sql hl2, g.fh.sql hl3⟩, k _ F1 H1 g ⟨_, _, walk_z3 (K := X.K) (a := q1) (b := q2) (c := q3) (xs := us1) (ys := us2) (zs := us3) (by rw [zip3_length, rv1.length, rv2.length, rv3.length]), fun F' H' e5 e6 => ⟨e6.sql (e5.sql hl1), e6.sql (e5.sql hl2), e6.sql (e5.sql hl3)⟩, fun i H x H' hi y F' e5 e6 => ?_⟩⟩
    obtain ⟨T, x1, y1, z1, rfl, hn, rfl, h1, h2, h3⟩ := y
    obtain ⟨dd, g1, g2⟩ := rv1.back h1
    obtain ⟨dd2, g3, g4⟩ := rv2.back h2
    obtain ⟨dd3, g5, g6⟩ := rv3.back h3
    obtain ⟨g7, r3⟩ := rep_three e6 hn (Rep.mono e5 g2) (Rep.mono e5 g4) (Rep.mono e5 g6)
    exact ⟨_, _, zip3_get g1 g3 g5, g7, r3⟩⟩
end
end Bl
namespace Bl
open PySem L2
section
variable {X : Cx} {K : PySem.W.Frag} {E : XK} {δ δ' : De} {μ μ' : Me} {o : Oc} {st : Stmt} {rest body : List Stmt} {a b c e tgt ob : Expr} {es : List Expr} {pos p pos' p2 apos cpos : Pos} {d d1 d2 : D} {l : Addr} {m1 m2 : Addr × D} {x : Str}
/-! what is no None -/
def nonN : D → Bool
  | .non => false
  | _ => true
theorem rep_nonN {F : Hp} {v : V} : ∀ {d : D}, nonN d = true → Rep K F d v → v ≠ .non
  | .int _, _, r => by intro z; subst z; cases r
  | .bl _, _, r => by intro z; subst z; cases r
  | .tup _, _, r => by obtain ⟨q, vs, e, _⟩ := r; subst e; intro z; cases z
  | .lst _, _, r => by obtain ⟨q, vs, e, _⟩ := r; subst e; intro z; cases z
  | .lv _ _, _, r => by obtain ⟨q, e, _⟩ := r; subst e; intro z; cases z
  | .sq _, _, r => by obtain ⟨q, vs, e, _⟩ := r; subst e; intro z; cases z
  | .ins _ _ _, _, r => by obtain ⟨q, dx, vs, e, _⟩ := r; subst e; intro z; cases z
  | .mref _, _, r => by intro z; subst z; cases r
theorem ptd_isN {j pos'} (ha : PE X a (tD K δ μ d)) (hd : nonN d = true) : PT X (.Compare a [.Is] [.Constant .none j pos'] pos) (tP K δ μ False) :=
  pt_cmp2 op_isN (nomark _) ha pd_non fun F H v u Q e r1 r2 k => by
    have e2 : u = .non := r2
    subst e2
    exact ⟨rfl, k _ F H (.refl e) (by rw [decide_eq_true_iff]; exact ⟨fun z => rep_nonN hd r1 z, False.elim⟩)⟩
/-! an end with a list that is not known beforehand -/
theorem pss_nilX {f : Addr → De × Me} (l : Addr) (w : Wk δ (f l).1) (hm : (f l).2 = μ) : PSs X [] (tS K E δ μ (.nxa f)) :=
  PSs.mono pss_nil fun Dn σ H ⟨F0, H0, F, s, k⟩ => k l σ F H (by rw [hm]; exact s.weak w)
theorem pss_seqX {f : Addr → De × Me} (h1 : PS X st (tS K E δ μ (.nxa f))) (h2 : ∀ l, PSs X rest (tS K E (f l).1 (f l).2 o)) : PSs X (st :: rest) (tS K E δ μ o) :=
  PSs.mono (pss_cons h1 (PSs.union h2)) fun Dn σ H ⟨F0, H0, F, s, k⟩ => ⟨F0, H0, F, s, fun l σ' F' H' s' => ⟨l, F0, H0, F', s', k⟩⟩
theorem pss_dropM (h : PSs X body (tS K E δ (m1 :: μ) o)) : PSs X body (tS K E δ (m1 :: m2 :: μ) o) :=
  PSs.mono h fun Dn σ H ⟨F0, H0, F, s, k⟩ => by
    have nd := s.se.mem.nd
    rw [List.map_cons, List.map_cons, List.nodup_cons, List.nodup_cons] at nd
    refine ⟨F0, H0, F, ⟨⟨s.se.fh, s.se.env, ⟨?_, fun m hm => s.se.mem.at_ m ?_⟩⟩, s.gr, fun m hm => s.fr m ?_⟩, k⟩
    · rw [List.map_cons, List.nodup_cons]
      exact ⟨fun z => nd.1 (List.mem_cons_of_mem _ z), nd.2.2⟩
    · rcases List.mem_cons.mp hm with rfl | hm
      · simp
      · simp [hm]
    · rcases List.mem_cons.mp hm with rfl | hm
      · simp
      · simp [hm]
/-- a for whose turns may change which list it is -/
theorem psd_forX {ds : List D} {js : List Nat} (G : Nat → Addr → De) (M : Nat → Addr → Me) (T : Nat → Addr → D → De) (l0 : Addr) (hp : PassesOwn (model X.prog X.w) X.A X.env X.xe) (hc : X.calm = true) {iter : Expr} (hi : PI X tgt iter (tI X.K δ μ ds))
    (h0 : Wk δ (G 0 l0)) (hM : M 0 l0 = μ)
    (hg : ∀ i l x, ds[i]? = some x → PG X tgt (tG X.K js (G i l) (M i l) x (T i l x)))
    (hgo : ∀ i l x, ds[i]? = some x → PSs X body (tS X.K E (T i l x) (M i l) (.nxa fun l' => (G (i + 1) l', M (i + 1) l'))))
    (hs : ∀ x, foldedSetIterable iter X.env x = pure x := by intro _; rfl) : PS X (.For tgt iter body [] pos) (tS X.K E δ μ (.nxa fun l => (G ds.length l, M ds.length l))) := by
  let ι := { q : Nat × Addr × D // ds[q.1]? = some q.2.2 }
  let g : TG := fun v σ H Q => ∃ q : ι, tG X.K js (G q.1.1 q.1.2.1) (M q.1.1 q.1.2.1) q.1.2.2 (T q.1.1 q.1.2.1 q.1.2.2) v σ H Q
  let tb : TS := fun Dn σ H => ∃ q : ι, tS X.K E (T q.1.1 q.1.2.1 q.1.2.2) (M q.1.1 q.1.2.1) (.nxa fun l' => (G (q.1.1 + 1) l', M (q.1.1 + 1) l')) Dn σ H
  have hG : PG X tgt g := PG.union fun q => hg q.1.1 q.1.2.1 q.1.2.2 q.2
  have hB : PSs X body tb := PSs.union fun q => hgo q.1.1 q.1.2.1 q.1.2.2 q.2
  refine PS.mono (ps_for hp hc hi hG hB hs) fun Dn σ H ⟨F0, H0, F, s, k⟩ => ⟨F, s.se, fun J F1 H1 g1 dw => ?_⟩
  obtain ⟨Gw, Y, hw, hGw, hY⟩ := dw.ex
  have s1 := s.up g1
  refine for_it (g := g) (tb := tb) (D := Dn) hw (fun i σ H => ∃ F' l, Ex F1 F' ∧ SR X.K F0 H0 (G i l) (M i l) σ F' H) ⟨F1, l0, Ex.refl _, by rw [hM]; exact s1.weak h0⟩ (fun i σ H _ ⟨F', l, e1, s2⟩ => hGw F' H e1 s2.se.fh) ?_ ?_
  · rintro i x σ2 H2 H3 hi2 ⟨F2, l, e2, s2⟩ y
    obtain ⟨F3, dd, hd, g3, r3⟩ := hY i H2 x H3 hi2 y F2 e2 s2.se.fh
    have s3 := s2.up g3
    refine ⟨⟨(i, l, dd), hd⟩, F3, s3.se, r3, fun σ4 en _ => ⟨⟨(i, l, dd), hd⟩, ?_⟩⟩
    have s4 : SR X.K F3 H0 (T i l dd) (M i l) σ4 F3 H3 := SR.re (F0 := F0) ⟨⟨s3.se.fh, en, s3.se.mem⟩, s3.gr, s3.fr⟩
    exact ⟨F3, H0, F3, s4, fun l' σ5 F5 H5 s5 => ⟨F5, l', (e2.trans g3.ff).trans s5.gr.ff, s5.back s3.gr⟩⟩
  · rintro σ2 H2 ⟨F2, l, e2, s2⟩
    exact k l σ2 F2 H2 s2
/-! an open list is told -/
theorem psd_retM {ds : List D} (he : PE X e (tD K δ ((l, .lst ds) :: μ) (.mref l))) : PS X (.Return (some e) pos) (tS K E δ ((l, .lst ds) :: μ) (.rn ds)) :=
  PS.mono (ps_ret he) fun Dn σ H ⟨F0, H0, F, s, k⟩ => ⟨F, s.se, fun v F1 H1 g rv => by
    have e1 : v = .ref l := rv
    subst e1
    have s1 := s.up g
    obtain ⟨fl, u, hu, vs, e2, r⟩ := s1.se.mem.at_ _ (List.mem_cons_self ..)
    subst e2
    exact k l vs F1 H1 s1.gr (s.fr _ (List.mem_cons_self ..)) fl hu r⟩
/-! an open list told by its very items -/
theorem pss_newLV (i : Nat) {vs : List V} {ds : List D} (hN : X.N.Nodup) (hi : X.N[i]? = some x) (hx : Loc X.env.scope x) (he : PE X e (tNV K δ μ vs ds)) (hs : swapsWith e (some (.Name x pos')) pos.line X.env = pure false)
    (hf : X.fn x = true ∨ X.env.scope.names.lookup x = some .local) (h : ∀ l : Addr, PSs X rest (tS K E (δ.set i (some (.mref l))) ((l, .lv vs ds) :: μ) o)) : PSs X (.Assign [.Name x pos'] e pos :: rest) (tS K E δ μ o) :=
  PSs.mono (pss_cons (ps_set (i := i) hN hi hx he hs hf) (PSs.union h)) fun Dn σ H ⟨F0, H0, F, s, k⟩ => ⟨F, s.se, fun l F1 H1 g h0 hn hl r => by
    have s1 := s.up g
    refine ⟨l, F0, H0, F1, ⟨⟨s1.se.fh, EnvR.set (d := .mref l) s1.se.env rfl, ⟨?_, fun m hm => ?_⟩⟩, s1.gr, fun m hm => ?_⟩, k⟩
    · rw [List.map_cons, List.nodup_cons]
      refine ⟨fun z => ?_, s1.se.mem.nd⟩
      obtain ⟨m, hm, e1⟩ := List.mem_map.mp z
      obtain ⟨_, u, hu, _⟩ := s.se.mem.at_ m hm
      rw [e1, h0] at hu
      cases hu
    · rcases List.mem_cons.mp hm with rfl | hm
      · exact ⟨hn, _, hl, rfl, r⟩
      · exact s1.se.mem.at_ m hm
    · rcases List.mem_cons.mp hm with rfl | hm
      · exact s.gr.hh.none h0
      · exact s.fr m hm⟩
theorem psd_extendV {vs us : List V} {ds es : List D} (ho : PE X ob (tD X.K δ ((l, .lv vs ds) :: μ) (.mref l))) (ha : PE X a (tD X.K δ ((l, .lv vs ds) :: μ) (.lv us es))) (hl : ds.length + es.length ≤ 10000)
    (hs : swapsWith (.Call (.Attribute ob "extend" apos) [a] [] cpos) none pos.line X.env = pure false := by rfl)
    (hbase : attributeBase ob "extend" X.env (eval ob X.env) = eval ob X.env := by rfl)
    (hfew : ((backTo cpos (starEach [a] X.env)).all (fun x => !x.1) && (backToKw cpos (keywordEach [] X.env)).all (fun x => x.1.isSome)
      && decide (([a] : List Expr).length + ([] : List Keyword).length + (if ([] : List Keyword).isEmpty then 0 else 1) < 30)) = true := by rfl)
    (hline : (apos.endLine == cpos.line) = true := by rfl) (hst : starEach [a] X.env = (false, eval a X.env) :: starEach [] X.env := by rfl) (hplain : (backTo cpos (starEach [] X.env)).any (·.1) = false := by rfl) :
    PS X (.Expr (.Call (.Attribute ob "extend" apos) [a] [] cpos) pos) (tS X.K E δ ((l, .lv vs ds) :: μ) (.nx δ ((l, .lv (vs ++ us) (ds ++ es)) :: μ))) :=
  PS.mono (ps_expr (pe_bm PySem.F.plainAttrs_list PySem.F.slot_list_extend PySem.F.type_list_extend mt_extend ho (pas_cons ha pas_nil hst) hbase hfew hline hst hplain) hs) fun Dn σ H ⟨F0, H0, F, s, k⟩ => ⟨F, s.se, fun x F1 H1 g1 rx => by
    have s1 := s.up g1
    obtain ⟨fl, u, hu, e1, rv⟩ := s1.se.mem.at_ _ (List.mem_cons_self ..)
    have e2 : x = .ref l := rx
    subst e2; subst e1
    refine ⟨.inl ⟨rfl, _, .inl (.inl hu)⟩, F1, s1.se, fun ws F2 H2 g2 rw' => ?_⟩
    obtain ⟨y, t, e3, ry, e4⟩ := rw'
    have e5 : t = [] := e4
    subst e5; subst e3
    obtain ⟨q, e6, hq2, ru⟩ := ry
    subst e6
    have s2 := s1.up g2
    have hu2 := g2.hh _ _ hu
    refine ⟨l, q, vs, us, rfl, rfl, hu2, g2.fh _ _ hq2, ?_, k σ F2 _ (s2.put (d' := .lv (vs ++ us) (ds ++ es)) ⟨rfl, (RepL.mono g2.ff rv).append ru⟩)⟩
    rw [rv.length, ru.length]
    exact small_line hl⟩
theorem cutV_to (vs : List V) (n : Nat) : cutV vs none (some (n : Int)) = vs.take n := cutL_to vs n
theorem cutV_from (vs : List V) (n : Nat) : cutV vs (some (n : Int)) none = vs.drop n := cutL_from vs n
end
end Bl
namespace Bl
/-! whole numbers and fractions, in plain words -/
def gcdI (a b : Int) : Int := (Int.gcd a b : Int)
def byI (t b : Int) : Int := if b < 0 then 0 - gcdI t b else gcdI t b
def frT (t b : Int) : Int := t.fdiv (byI t b)
def frB (t b : Int) : Int := b.fdiv (byI t b)
theorem gcdI_pos {t b : Int} (h : b ≠ 0) : 0 < gcdI t b := by
  unfold gcdI
  have := Int.gcd_pos_of_ne_zero_right t h
  omega
theorem gcdI_le {t b : Int} (h : b ≠ 0) : (gcdI t b).natAbs ≤ b.natAbs := by
  unfold gcdI
  rw [Int.natAbs_natCast]
  have h1 : Int.gcd t b ∣ b.natAbs := Int.gcd_dvd_natAbs_right t b
  exact Nat.le_of_dvd (by omega) h1
theorem byI_ne {t b : Int} (h : b ≠ 0) : byI t b ≠ 0 := by
  have := gcdI_pos (t := t) h
  unfold byI
  split <;> omega
theorem byI_abs {t b : Int} : (byI t b).natAbs = (gcdI t b).natAbs := by
  unfold byI
  split <;> omega
/-- top and bottom as multiples of the divisor -/
theorem fr_mul {t b : Int} (h : b ≠ 0) : frT t b * byI t b = t ∧ frB t b * byI t b = b := by
  have d1 : byI t b ∣ t := by
    have := Int.gcd_dvd_left (a := t) (b := b)
    unfold byI gcdI
    split
    · rw [Int.zero_sub]; exact Int.neg_dvd.mpr this
    · exact this
  have d2 : byI t b ∣ b := by
    have := Int.gcd_dvd_right (a := t) (b := b)
    unfold byI gcdI
    split
    · rw [Int.zero_sub]; exact Int.neg_dvd.mpr this
    · exact this
  exact ⟨Int.fdiv_mul_cancel d1, Int.fdiv_mul_cancel d2⟩
theorem frB_pos {t b : Int} (h : b ≠ 0) : 0 < frB t b := by
  have hm := (fr_mul (t := t) h).2
  have hg := gcdI_pos (t := t) h
  by_cases hb : b < 0
  · have e : byI t b = 0 - gcdI t b := by unfold byI; rw [if_pos hb]
    rw [e] at hm
    apply Int.lt_of_not_ge
    intro hn
    have : 0 ≤ frB t b * (0 - gcdI t b) := by
      rw [Int.zero_sub, Int.mul_neg]
      have := Int.mul_nonneg (show 0 ≤ -frB t b by omega) (show 0 ≤ gcdI t b by omega)
      rw [Int.neg_mul] at this
      omega
    omega
  · have e : byI t b = gcdI t b := by unfold byI; rw [if_neg hb]
    rw [e] at hm
    apply Int.lt_of_not_ge
    intro hn
    have : frB t b * gcdI t b ≤ 0 := by
      have := Int.mul_nonneg (show 0 ≤ -frB t b by omega) (show 0 ≤ gcdI t b by omega)
      rw [Int.neg_mul] at this
      omega
    omega
theorem fr_gcd {t b : Int} (h : b ≠ 0) : Int.gcd (frT t b) (frB t b) = 1 := by
  obtain ⟨h1, h2⟩ := fr_mul (t := t) h
  have hg := gcdI_pos (t := t) h
  have e : Int.gcd t b = Int.gcd (frT t b) (frB t b) * (byI t b).natAbs := by
    have := Int.gcd_mul_right (frT t b) (byI t b) (frB t b)
    rw [h1, h2] at this
    exact this
  rw [byI_abs] at e
  have e2 : (gcdI t b).natAbs = Int.gcd t b := by unfold gcdI; exact Int.natAbs_natCast _
  rw [e2] at e
  have hp : 0 < Int.gcd t b := by unfold gcdI at hg; omega
  have : 1 * Int.gcd t b = Int.gcd (frT t b) (frB t b) * Int.gcd t b := by rw [← e]; omega
  exact (Nat.eq_of_mul_eq_mul_right hp this).symm
theorem fr_cross {t b : Int} (h : b ≠ 0) : frT t b * b = t * frB t b := by
  obtain ⟨h1, h2⟩ := fr_mul (t := t) h
  calc frT t b * b = frT t b * (frB t b * byI t b) := by rw [h2]
    _ = (frT t b * byI t b) * frB t b := by rw [Int.mul_comm (frB t b), Int.mul_assoc]
    _ = t * frB t b := by rw [h1]
theorem abs_le_mul {x y : Int} (h : y ≠ 0) : x.natAbs ≤ (x * y).natAbs := by
  rw [Int.natAbs_mul]
  exact Nat.le_mul_of_pos_right _ (by omega)
theorem gcd_step {x y : Int} (hx : 0 ≤ x) (hy : 0 < y) : Int.gcd y (x % y) = Int.gcd x y := by
  rw [Int.gcd_comm x y]
  have : x % y = x - y * (x / y) := by
    have := Int.emod_add_mul_ediv x y
    omega
  rw [this]
  exact Int.gcd_sub_mul_right_right y x (x / y) |> fun h => by
    first
    | exact h
    | simpa using h
theorem dvd_cop {k m n : Int} (h : k ∣ m * n) (g : Int.gcd k m = 1) : k ∣ n := by
  have := (Int.dvd_gcd_mul_iff_dvd_mul (k := k) (n := m) (m := n)).mpr h
  rw [g] at this
  simpa using this
theorem frB_one {t b : Int} (h : b ≠ 0) : 1 ≤ frB t b := frB_pos h
/-- lowest terms are told by the worth alone -/
theorem low_uniq {x y u v : Int} (hy : 0 < y) (hv : 0 < v) (h1 : Int.gcd x y = 1) (h2 : Int.gcd u v = 1) (h : x * v = u * y) : x = u ∧ y = v := by
  have d1 : y ∣ v := dvd_cop (m := x) (h ▸ Int.dvd_mul_left u y) (by rw [Int.gcd_comm]; exact h1)
  have d2 : v ∣ y := dvd_cop (m := u) (h ▸ Int.dvd_mul_left x v) (by rw [Int.gcd_comm]; exact h2)
  have e : y = v := by
    have a1 := Int.le_of_dvd hv d1
    have a2 := Int.le_of_dvd hy d2
    omega
  subst e
  exact ⟨Int.eq_of_mul_eq_mul_right (by omega) h, rfl⟩
theorem fr_uniq {t b t' b' : Int} (hb : b ≠ 0) (hb' : b' ≠ 0) (h : t * b' = t' * b) : frT t b = frT t' b' ∧ frB t b = frB t' b' := by
  refine low_uniq (frB_pos hb) (frB_pos hb') (fr_gcd hb) (fr_gcd hb') ?_
  have h1 := fr_cross (t := t) hb
  have h2 := fr_cross (t := t') hb'
  have : (frT t b * frB t' b' - frT t' b' * frB t b) * (b * b') = 0 := by grind
  rcases Int.mul_eq_zero.mp this with z | z
  · omega
  · rcases Int.mul_eq_zero.mp z with z | z
    · exact absurd z hb
    · exact absurd z hb'
theorem fr_one (t : Int) : frT t 1 = t ∧ frB t 1 = 1 := by
  have h := fr_cross (t := t) (b := 1) (by decide)
  have hm := (fr_mul (t := t) (b := 1) (by decide)).2
  have hp := frB_pos (t := t) (b := 1) (by decide)
  have : frB t 1 = 1 := by
    have : frB t 1 ∣ 1 := ⟨_, hm.symm⟩
    have := Int.le_of_dvd (by decide) this
    omega
  rw [this] at h
  omega
theorem fr_low {t b : Int} (hb : 0 < b) (h : Int.gcd t b = 1) : frT t b = t ∧ frB t b = b := by
  refine low_uniq (frB_pos (by omega)) hb (fr_gcd (by omega)) h ?_
  exact fr_cross (by omega)
end Bl
namespace Bl
/-! loads as rows: from a to b, n on each length of 1; where a = b a weight of n -/
structure Row where
  a : Int
  b : Int
  n : Int
def pz (x : Int) : Int := if x > 0 then x else 0
def mnI (i j : Int) : Int := if j < i then j else i
def mxI (i j : Int) : Int := if j > i then j else i
theorem pz_pos {x : Int} (h : 0 ≤ x) : pz x = x := by unfold pz; split <;> omega
theorem pz_neg {x : Int} (h : x ≤ 0) : pz x = 0 := by unfold pz; split <;> omega
theorem pz_nn (x : Int) : 0 ≤ pz x := by unfold pz; split <;> omega
def tot (r : Row) : Int := if r.a = r.b then r.n else r.n * (r.b - r.a)
def lft (r : Row) (t d : Int) : Int :=
  if r.a = r.b then 2 * d * r.n * pz (t - r.a * d) else r.n * (pz (t - r.a * d) * pz (t - r.a * d) - pz (t - r.b * d) * pz (t - r.b * d))
def rgt (r : Row) (t d : Int) : Int :=
  if r.a = r.b then 2 * d * r.n * pz (r.a * d - t) else r.n * (pz (r.b * d - t) * pz (r.b * d - t) - pz (r.a * d - t) * pz (r.a * d - t))
def lw (r : Row) (t d : Int) : Int :=
  if r.a = r.b then (if r.a * d ≤ t then r.n * d else 0) else r.n * (mnI (mxI t (r.a * d)) (r.b * d) - r.a * d)
def thk (r : Row) (t d : Int) : Int :=
  if r.a = r.b then 0 else (if r.a * d ≤ t ∧ t < r.b * d then r.n else 0)
def partAt (i n f : Int) : Int := if i ≤ 0 then i * n * f * (n + 2 * f) else i * f * (n * n + 2 * n * f - i * i)
def sumUp (i n f : Int) : Int := if i ≤ 0 then 2 * i * i * n * f * (n + 2 * f) else i * i * f * (2 * n * n + 4 * n * f - i * i)
def mid (p q r : Int) (w : Row) : Int :=
  if w.a = w.b then (if w.a ≤ q then 4 * w.n * partAt (w.a - p) (q - p) (r - q) else 4 * w.n * partAt (r - w.a) (r - q) (q - p))
  else w.n * (sumUp (mnI w.b q - p) (q - p) (r - q) - sumUp (mnI w.a q - p) (q - p) (r - q) + (sumUp (r - mxI w.a q) (r - q) (q - p) - sumUp (r - mxI w.b q) (r - q) (q - p)))
/-! sums -/
def su (f : Row → Int) (l : List Row) : Int := (l.map f).sum
theorem su_nil (f : Row → Int) : su f [] = 0 := rfl
theorem su_cons (f : Row → Int) (x : Row) (l : List Row) : su f (x :: l) = f x + su f l := rfl
theorem su_app (f : Row → Int) : ∀ l m : List Row, su f (l ++ m) = su f l + su f m
  | [], m => by rw [List.nil_append, su_nil]; omega
  | x :: l, m => by rw [List.cons_append, su_cons, su_cons, su_app f l m]; omega
theorem su_add (f g : Row → Int) : ∀ l : List Row, su (fun x => f x + g x) l = su f l + su g l
  | [] => rfl
  | x :: l => by rw [su_cons, su_cons, su_cons, su_add f g l]; omega
theorem su_sub (f g : Row → Int) : ∀ l : List Row, su (fun x => f x - g x) l = su f l - su g l
  | [] => rfl
  | x :: l => by rw [su_cons, su_cons, su_cons, su_sub f g l]; omega
theorem su_mul (k : Int) (f : Row → Int) : ∀ l : List Row, su (fun x => k * f x) l = k * su f l
  | [] => by rw [su_nil, su_nil, Int.mul_zero]
  | x :: l => by rw [su_cons, su_cons, su_mul k f l, Int.mul_add]
theorem su_congr {f g : Row → Int} : ∀ {l : List Row}, (∀ x, x ∈ l → f x = g x) → su f l = su g l
  | [], _ => rfl
  | x :: l, h => by rw [su_cons, su_cons, h x (by simp), su_congr fun y hy => h y (by simp [hy])]
theorem su_zero {f : Row → Int} {l : List Row} (h : ∀ x, x ∈ l → f x = 0) : su f l = 0 := by
  rw [su_congr h]
  induction l with
  | nil => rfl
  | cons x l ih => rw [su_cons, ih fun y hy => h y (by simp [hy])]; rfl
theorem su_rev (f : Row → Int) : ∀ l : List Row, su f l.reverse = su f l
  | [] => rfl
  | x :: l => by rw [List.reverse_cons, su_app, su_rev f l, su_cons, su_cons, su_nil]; omega
/-- so many times over -/
theorem su_rep (f : Row → Int) (l : List Row) : ∀ k : Nat, su f (List.replicate k l).flatten = k * su f l
  | 0 => by simp [su_nil]
  | k + 1 => by rw [List.replicate_succ, List.flatten_cons, su_app, su_rep f l k]; grind
/-! what the rests bear -/
def WW (l : List Row) : Int := su tot l
def TT (p : Int) (l : List Row) : Int := su (fun r => rgt r p 1 - lft r p 1) l
def mo (r : Row) : Int := tot r * (r.a + r.b)
theorem rgt_lft (r : Row) (t d : Int) : rgt r t d - lft r t d = d * (d * mo r - 2 * t * tot r) := by
  unfold rgt lft mo tot
  by_cases h : r.a = r.b
  · rw [if_pos h, if_pos h, if_pos h]
    rcases Int.le_total (r.a * d) t with g | g
    · rw [pz_neg (show r.a * d - t ≤ 0 by omega), pz_pos (show 0 ≤ t - r.a * d by omega)]; grind
    · rw [pz_pos (show 0 ≤ r.a * d - t by omega), pz_neg (show t - r.a * d ≤ 0 by omega)]; grind
  · rw [if_neg h, if_neg h, if_neg h]
    have key : ∀ x : Int, pz x * pz x + pz (0 - x) * pz (0 - x) = x * x := by
      intro x
      rcases Int.le_total x 0 with g | g
      · rw [pz_neg g, pz_pos (show 0 ≤ 0 - x by omega)]; grind
      · rw [pz_pos g, pz_neg (show 0 - x ≤ 0 by omega)]; grind
    have k1 := key (t - r.a * d)
    have k2 := key (t - r.b * d)
    rw [show 0 - (t - r.a * d) = r.a * d - t by omega] at k1
    rw [show 0 - (t - r.b * d) = r.b * d - t by omega] at k2
    grind
theorem TT_eq (p : Int) (l : List Row) : TT p l = su mo l - 2 * p * WW l := by
  unfold TT WW
  rw [su_congr (g := fun x => mo x - 2 * p * tot x) (fun x _ => by have := rgt_lft x p 1; grind), su_sub, su_mul]
def nums : List Int → List Row → List Int
  | [p, q], l => [2 * (q - p) * WW l - TT p l, TT p l]
  | [p, q, r], l =>
    let g := q - p
    let h := r - q
    let m := su (mid p q r) l
    let bot := 8 * g * g * h * h * (r - p)
    let last := 4 * g * g * h * h * TT p l - m * g
    [bot * WW l - m * (r - p) - last, m * (r - p), last]
  | _, _ => []
def bot : List Int → Int
  | [p, q] => 2 * (q - p)
  | [p, q, r] => 8 * (q - p) * (q - p) * (r - q) * (r - q) * (r - p)
  | _ => 1
/-- two or three, rising -/
inductive Rs : List Int → Prop where
  | two {p q : Int} (h : p < q) : Rs [p, q]
  | three {p q r : Int} (h : p < q) (h2 : q < r) : Rs [p, q, r]
theorem bot_pos {ρ : List Int} (h : Rs ρ) : 0 < bot ρ := by
  cases h with
  | two h => simp only [bot]; omega
  | three h h2 =>
    rename_i p q r
    unfold bot
    have h1 : 0 < q - p := by omega
    have h3 : 0 < r - q := by omega
    have h4 : 0 < r - p := by omega
    exact Int.mul_pos (Int.mul_pos (Int.mul_pos (Int.mul_pos (Int.mul_pos (by decide) h1) h1) h3) h3) h4
theorem nums_len {ρ : List Int} (h : Rs ρ) (l : List Row) : (nums ρ l).length = ρ.length := by
  cases h <;> rfl
/-- the rests' parts, each times f of its rest -/
def zs : List Int → List Int → (Int → Int) → Int
  | r :: ρ, n :: ν, f => n * f r + zs ρ ν f
  | _, _, _ => 0
theorem eq_W {ρ : List Int} (h : Rs ρ) (l : List Row) : zs ρ (nums ρ l) (fun _ => 1) = bot ρ * WW l := by
  cases h with
  | two h => simp only [nums, zs, bot]; grind
  | three h h2 => simp only [nums, zs, bot]; grind
theorem eq_T {ρ : List Int} (h : Rs ρ) (l : List Row) : 2 * zs ρ (nums ρ l) (fun x => x) = bot ρ * su mo l := by
  cases h with
  | two h =>
    rename_i p q
    have := TT_eq p l
    simp only [nums, zs, bot]; grind
  | three h h2 =>
    rename_i p q r
    have := TT_eq p l
    simp only [nums, zs, bot]; grind
theorem zs_lin (c d : Int) (f g : Int → Int) : ∀ ρ ν : List Int, zs ρ ν (fun x => c * f x + d * g x) = c * zs ρ ν f + d * zs ρ ν g
  | [], ν => by simp [zs]
  | r :: ρ, [] => by simp [zs]
  | r :: ρ, n :: ν => by simp only [zs]; rw [zs_lin c d f g ρ ν]; grind
theorem zs_congr {f g : Int → Int} : ∀ {ρ ν : List Int}, (∀ x, f x = g x) → zs ρ ν f = zs ρ ν g
  | [], ν, h => by simp [zs]
  | r :: ρ, [], h => by simp [zs]
  | r :: ρ, n :: ν, h => by simp only [zs]; rw [h r, zs_congr h]
/-! the inner turning, times twice the bottom's square and the parts' own bottom -/
def tl (ρ : List Int) (l : List Row) (ν : List Int) (β t d : Int) : Int := zs ρ ν (fun x => 2 * d * pz (t - x * d)) - β * su (fun r => lft r t d) l
def tr (ρ : List Int) (l : List Row) (ν : List Int) (β t d : Int) : Int := zs ρ ν (fun x => 2 * d * pz (x * d - t)) - β * su (fun r => rgt r t d) l
theorem pz_sub (x : Int) : pz x - pz (0 - x) = x := by
  rcases Int.le_total x 0 with g | g
  · rw [pz_neg g, pz_pos (show 0 ≤ 0 - x by omega)]; omega
  · rw [pz_pos g, pz_neg (show 0 - x ≤ 0 by omega)]; omega
theorem tl_tr {ρ : List Int} {l : List Row} {ν : List Int} {β : Int} (h1 : zs ρ ν (fun _ => 1) = β * WW l) (h2 : 2 * zs ρ ν (fun x => x) = β * su mo l) (t d : Int) : tl ρ l ν β t d = tr ρ l ν β t d := by
  unfold tl tr
  have e1 : zs ρ ν (fun x => 1 * (2 * d * pz (t - x * d)) + (-1) * (2 * d * pz (x * d - t))) = zs ρ ν (fun x => (2 * d * t) * 1 + (-2 * d * d) * x) :=
    zs_congr fun x => by
      have := pz_sub (t - x * d)
      rw [show 0 - (t - x * d) = x * d - t by omega] at this
      grind
  rw [zs_lin, zs_lin] at e1
  have e2 : su (fun r => rgt r t d - lft r t d) l = su (fun r => (d * d) * mo r - (2 * t * d) * tot r) l := su_congr fun r _ => by have := rgt_lft r t d; grind
  rw [su_sub, su_sub, su_mul, su_mul] at e2
  unfold WW at h1
  grind
end Bl
namespace Bl
/-! the rests' parts over one common bottom -/
def sumF {α : Type} (f : α → Int) (l : List α) : Int := (l.map f).sum
theorem sumF_take {α : Type} {f : α → Int} {l : List α} {i : Nat} {x : α} (h : l[i]? = some x) : sumF f (l.take (i + 1)) = sumF f (l.take i) + f x := by
  unfold sumF
  rw [List.take_add_one, h, List.map_append, List.sum_append]
  simp
theorem su_take {f : Row → Int} {l : List Row} {i : Nat} {x : Row} (h : l[i]? = some x) : su f (l.take (i + 1)) = su f (l.take i) + f x := sumF_take h
def prF {α : Type} (f : α → Int) (l : List α) : Int := l.foldl (fun a x => a * f x) 1
theorem prF_take {α : Type} {f : α → Int} {l : List α} {i : Nat} {x : α} (h : l[i]? = some x) : prF f (l.take (i + 1)) = prF f (l.take i) * f x := by
  unfold prF
  rw [List.take_add_one, h, List.foldl_append]
  rfl
theorem fold_mul {α : Type} (f : α → Int) : ∀ (l : List α) (a : Int), l.foldl (fun a x => a * f x) a = a * l.foldl (fun a x => a * f x) 1
  | [], a => by simp
  | x :: l, a => by
    rw [List.foldl_cons, List.foldl_cons, fold_mul f l (a * f x), fold_mul f l (1 * f x)]
    grind
theorem prF_cons {α : Type} (f : α → Int) (x : α) (l : List α) : prF f (x :: l) = f x * prF f l := by
  unfold prF
  rw [List.foldl_cons, fold_mul]
  grind
theorem prF_dvd {α : Type} {f : α → Int} : ∀ {l : List α} {x : α}, x ∈ l → f x ∣ prF f l
  | y :: l, x, h => by
    rw [prF_cons]
    rcases List.mem_cons.mp h with rfl | h
    · exact Int.dvd_mul_right _ _
    · exact Int.dvd_trans (prF_dvd h) (Int.dvd_mul_left _ _)
theorem prF_pos {α : Type} {f : α → Int} : ∀ {l : List α}, (∀ x, x ∈ l → 0 < f x) → 0 < prF f l
  | [], _ => by show (0 : Int) < 1; decide
  | x :: l, h => by
    rw [prF_cons]
    exact Int.mul_pos (h x (by simp)) (prF_pos fun y hy => h y (by simp [hy]))
/-- the common bottom, a rest's share over it -/
def com (β : Int) (ν : List Int) : Int := prF (fun n => frB n β) ν
def shr (β C n : Int) : Int := frT n β * (C / frB n β)
theorem com_pos {β : Int} {ν : List Int} (h : β ≠ 0) : 0 < com β ν := prF_pos fun n _ => frB_pos h
theorem shr_eq {β n : Int} {ν : List Int} (h : β ≠ 0) (hn : n ∈ ν) : shr β (com β ν) n * β = n * com β ν := by
  have d : frB n β ∣ com β ν := prF_dvd (f := fun n => frB n β) hn
  obtain ⟨k, hk⟩ := d
  have hp := frB_pos (t := n) h
  have hc := fr_cross (t := n) h
  unfold shr
  rw [hk, Int.mul_ediv_cancel_left _ (by omega)]
  grind
theorem zs_shr {β C : Int} {f : Int → Int} : ∀ {ρ ν : List Int}, (∀ n, n ∈ ν → shr β C n * β = n * C) → zs ρ (ν.map (shr β C)) f * β = C * zs ρ ν f
  | [], ν, _ => by simp [zs]
  | r :: ρ, [], _ => by simp [zs]
  | r :: ρ, n :: ν, h => by
    have h1 := h n (by simp)
    have h2 := zs_shr (f := f) (ρ := ρ) (ν := ν) fun m hm => h m (by simp [hm])
    simp only [List.map_cons, zs]
    grind
theorem zs_zip (f : Int → Int) : ∀ ρ ν : List Int, zs ρ ν f = sumF (fun q : Int × Int => q.2 * f q.1) (ρ.zip ν)
  | [], ν => by simp [zs, sumF]
  | r :: ρ, [] => by simp [zs, sumF]
  | r :: ρ, n :: ν => by
    rw [List.zip_cons_cons]
    simp only [zs]
    rw [zs_zip f ρ ν]
    simp [sumF]
section
variable {ρ : List Int} {ls : List Row} (hr : Rs ρ)
include hr
abbrev comR (ρ : List Int) (ls : List Row) : Int := com (bot ρ) (nums ρ ls)
abbrev shs (ρ : List Int) (ls : List Row) : List Int := (nums ρ ls).map (shr (bot ρ) (comR ρ ls))
theorem shs_W : zs ρ (shs ρ ls) (fun _ => 1) = comR ρ ls * WW ls := by
  have hb := bot_pos hr
  have h := zs_shr (f := fun _ => 1) (ρ := ρ) (ν := nums ρ ls) (C := comR ρ ls) (β := bot ρ) fun n hn => shr_eq (by omega) hn
  rw [eq_W hr] at h
  have : (zs ρ (shs ρ ls) (fun _ => 1) - comR ρ ls * WW ls) * bot ρ = 0 := by grind
  rcases Int.mul_eq_zero.mp this with z | z <;> omega
theorem shs_T : 2 * zs ρ (shs ρ ls) (fun x => x) = comR ρ ls * su mo ls := by
  have hb := bot_pos hr
  have h := zs_shr (f := fun x => x) (ρ := ρ) (ν := nums ρ ls) (C := comR ρ ls) (β := bot ρ) fun n hn => shr_eq (by omega) hn
  have h2 := eq_T hr ls
  have : (2 * zs ρ (shs ρ ls) (fun x => x) - comR ρ ls * su mo ls) * bot ρ = 0 := by grind
  rcases Int.mul_eq_zero.mp this with z | z <;> omega
end
end Bl
namespace Bl
/-! the inner turning over the shares -/
theorem tl_shs {ρ : List Int} (hr : Rs ρ) (ls : List Row) (t d : Int) : tl ρ ls (shs ρ ls) (comR ρ ls) t d * bot ρ = comR ρ ls * tl ρ ls (nums ρ ls) (bot ρ) t d := by
  have hb := bot_pos hr
  have h := zs_shr (f := fun x => 2 * d * pz (t - x * d)) (ρ := ρ) (ν := nums ρ ls) (C := comR ρ ls) (β := bot ρ) fun n hn => shr_eq (by omega) hn
  unfold tl
  grind
theorem tl_tr_shs {ρ : List Int} (hr : Rs ρ) (ls : List Row) (t d : Int) : tl ρ ls (shs ρ ls) (comR ρ ls) t d = tr ρ ls (shs ρ ls) (comR ρ ls) t d :=
  tl_tr (shs_W hr) (shs_T hr) t d
/-- the law's due, crosswise -/
theorem tl_due {ρ : List Int} (hr : Rs ρ) (ls : List Row) {t d : Int} (hd : 1 ≤ d) :
    frT (tl ρ ls (nums ρ ls) (bot ρ) t d) (2 * d * d * bot ρ) * 2 * d * d * comR ρ ls = frB (tl ρ ls (nums ρ ls) (bot ρ) t d) (2 * d * d * bot ρ) * tl ρ ls (shs ρ ls) (comR ρ ls) t d := by
  have hb := bot_pos hr
  have h0 : 2 * d * d * bot ρ ≠ 0 := Int.mul_ne_zero (Int.mul_ne_zero (by omega) (by omega)) (by omega)
  have h1 := fr_cross (t := tl ρ ls (nums ρ ls) (bot ρ) t d) h0
  have h2 := tl_shs hr ls t d
  generalize tl ρ ls (nums ρ ls) (bot ρ) t d = A at *
  generalize tl ρ ls (shs ρ ls) (comR ρ ls) t d = B at *
  generalize frT A (2 * d * d * bot ρ) = u at *
  generalize frB A (2 * d * d * bot ρ) = v at *
  have : (u * 2 * d * d * comR ρ ls - v * B) * bot ρ = 0 := by grind
  rcases Int.mul_eq_zero.mp this with z | z <;> omega
theorem sum_zs (c : Int) (g : Int → Int) (ρ ν : List Int) : sumF (fun q : Int × Int => 2 * c * q.2 * g q.1) (ρ.zip ν) = zs ρ ν (fun x => 2 * c * g x) := by
  rw [zs_zip]
  congr 1
  funext q
  grind
theorem fr_range {T B L : Int} (hB : 0 < B) (h0 : 0 ≤ T) (h1 : T ≤ L * B) : 0 ≤ frT T B ∧ frT T B ≤ L * frB T B := by
  have hm := fr_mul (t := T) (b := B) (by omega)
  have hg : 0 < byI T B := by
    have := gcdI_pos (t := T) (b := B) (by omega)
    unfold byI
    rw [if_neg (by omega)]
    exact this
  constructor
  · apply Int.le_of_mul_le_mul_right (a := byI T B) _ hg
    rw [hm.1]; omega
  · apply Int.le_of_mul_le_mul_right (a := byI T B) _ hg
    rw [hm.1, Int.mul_assoc, hm.2]
    exact h1
/-- a place drawn -/
def plB (c : Int) : Int := if c % 4 = 0 then 1 + c / 4 % 10 ^ 20 else 1 + c / 4 % 12
def plT (c o L : Int) : Int := if o % 3 = 1 then L * plB c * (o / 3 % 1009) / 1008 else o / 3 % (L * plB c + 1)
def place (c o L : Int) : Int × Int := (frT (plT c o L) (plB c), frB (plT c o L) (plB c))
theorem plB_pos (c : Int) : 0 < plB c := by
  have := Int.emod_nonneg (c / 4) (show (10 : Int) ^ 20 ≠ 0 by decide)
  unfold plB
  split <;> omega
theorem plT_on {c o L : Int} (hL : 1 ≤ L) : 0 ≤ plT c o L ∧ plT c o L ≤ L * plB c := by
  have hB := plB_pos c
  have hm : 0 ≤ L * plB c := Int.mul_nonneg (by omega) (by omega)
  unfold plT
  split
  · have a1 := Int.emod_nonneg (o / 3) (show (1009 : Int) ≠ 0 by decide)
    have a2 := Int.emod_lt_of_pos (o / 3) (show (0 : Int) < 1009 by decide)
    generalize L * plB c = m at *
    generalize o / 3 % 1009 = k at *
    have z1 : 0 ≤ m * k := Int.mul_nonneg hm a1
    have z2 : m * k ≤ m * 1008 := Int.mul_le_mul_of_nonneg_left (by omega) hm
    generalize m * k = y at *
    omega
  · have a1 := Int.emod_nonneg (o / 3) (show L * plB c + 1 ≠ 0 by omega)
    have a2 := Int.emod_lt_of_pos (o / 3) (show 0 < L * plB c + 1 by omega)
    omega
end Bl
namespace Bl
/-! three rests: the sum over the pieces -/
def sim (g : Int → Int) (b c : Int) : Int := (c - b) * (g (2 * b) + 4 * g (b + c) + g (2 * c))
def tent (p q r t : Int) : Int := if t ≤ 2 * q then (t - 2 * p) * (r - q) else (2 * r - t) * (q - p)
def sumS (g : Int → Int) : List Int → Int
  | b :: c :: t => sim g b c + sumS g (c :: t)
  | _ => 0
def lastD (d : Int) : List Int → Int
  | [] => d
  | x :: t => lastD x t
theorem sumS_tel {g G : Int → Int} {ms : List Int} (h : ∀ b c, b < c → b ∈ ms → c ∈ ms → (∀ x, x ∈ ms → x ≤ b ∨ c ≤ x) → sim g b c = G c - G b) :
    ∀ (t : List Int) (b : Int), (b :: t).Pairwise (· < ·) → (∀ x, x ∈ b :: t → x ∈ ms) → (∀ x, x ∈ ms → x ≤ b ∨ x ∈ t) → sumS g (b :: t) = G (lastD b t) - G b
  | [], b, _, _, _ => by simp [sumS, lastD]
  | c :: t, b, hp, hm, ha => by
    rw [List.pairwise_cons] at hp
    have hbc : b < c := hp.1 c (by simp)
    have hp2 := List.pairwise_cons.mp hp.2
    have h1 := h b c hbc (hm b (by simp)) (hm c (by simp)) fun x hx => by
      rcases ha x hx with z | z
      · exact .inl z
      · rcases List.mem_cons.mp z with z | z
        · exact .inr (by omega)
        · exact .inr (by have := hp2.1 x z; omega)
    have h2 := sumS_tel (G := G) h t c hp.2 (fun x hx => hm x (by simp [hx])) fun x hx => by
      rcases ha x hx with z | z
      · exact .inl (by omega)
      · rcases List.mem_cons.mp z with z | z
        · exact .inl (by omega)
        · exact .inr z
    simp only [sumS, lastD]
    rw [h1, h2]
    omega
theorem sumS_lin (k l : Int) (f g : Int → Int) : ∀ ms : List Int, sumS (fun t => k * f t + l * g t) ms = k * sumS f ms + l * sumS g ms
  | [] => by simp [sumS]
  | [_] => by simp [sumS]
  | b :: c :: t => by
    have h := sumS_lin k l f g (c :: t)
    simp only [sumS] at h ⊢
    rw [h]
    simp only [sim]
    grind
theorem sumS_congr {f g : Int → Int} (h : ∀ t, f t = g t) (ms : List Int) : sumS f ms = sumS g ms := by rw [show f = g from funext h]
theorem sumS_su (φ : Row → Int → Int) (ms : List Int) : ∀ ls : List Row, sumS (fun t => su (fun w => φ w t) ls) ms = su (fun w => sumS (φ w) ms) ls
  | [] => by
    have : ∀ ms : List Int, sumS (fun _ => 0) ms = 0 := by
      intro ms
      have := sumS_lin 0 0 (fun _ => 0) (fun _ => 0) ms
      simpa using this
    simpa [su_nil] using this ms
  | w :: ls => by
    have h := sumS_su φ ms ls
    rw [su_cons, ← h]
    have e := sumS_lin 1 1 (φ w) (fun t => su (fun w => φ w t) ls) ms
    rw [Int.one_mul, Int.one_mul] at e
    rw [← e]
    refine sumS_congr (fun t => ?_) ms
    rw [su_cons]
    omega
/-! what the curve's pieces come to -/
section
variable (p q r a : Int)
def L1 (x : Int) : Int := 8 * (r - q) * (pz (x - a) * pz (x - a) * pz (x - a)) + 12 * (r - q) * (a - p) * (pz (x - a) * pz (x - a))
def R1 (x : Int) : Int := 12 * (q - p) * (r - a) * (pz (x - a) * pz (x - a)) - 8 * (q - p) * (pz (x - a) * pz (x - a) * pz (x - a))
def L2' (x : Int) : Int := 12 * (r - q) * (pz (x - a) * pz (x - a) * pz (x - a) * pz (x - a)) + 16 * (r - q) * (a - p) * (pz (x - a) * pz (x - a) * pz (x - a))
def R2 (x : Int) : Int := 16 * (q - p) * (r - a) * (pz (x - a) * pz (x - a) * pz (x - a)) - 12 * (q - p) * (pz (x - a) * pz (x - a) * pz (x - a) * pz (x - a))
def G1 (x : Int) : Int := if x ≤ q then L1 p q r a x else L1 p q r a q + R1 p q r a x - R1 p q r a q
def G2 (x : Int) : Int := if x ≤ q then L2' p q r a x else L2' p q r a q + R2 p q r a x - R2 p q r a q
def I1 : Int := L1 p q r a q - L1 p q r a p + R1 p q r a r - R1 p q r a q
def I2 : Int := L2' p q r a q - L2' p q r a p + R2 p q r a r - R2 p q r a q
end
section
variable {p q r a b c : Int}
theorem tentL {t : Int} (h : t ≤ 2 * q) : tent p q r t = (t - 2 * p) * (r - q) := if_pos h
theorem tentR {t : Int} (h : 2 * q ≤ t) : tent p q r t = (2 * r - t) * (q - p) := by
  unfold tent
  split
  · have e : t = 2 * q := by omega
    subst e; grind
  · rfl
theorem pc1 (hbc : b < c) (hq : c ≤ q ∨ q ≤ b) (ha : a ≤ b ∨ c ≤ a) : sim (fun t => pz (t - a * 2) * tent p q r t) b c = G1 p q r a c - G1 p q r a b := by
  simp only [sim]
  rcases hq with hq | hq
  · have e : G1 p q r a c - G1 p q r a b = L1 p q r a c - L1 p q r a b := by unfold G1; rw [if_pos hq, if_pos (show b ≤ q by omega)]
    rw [e, tentL (show 2 * b ≤ 2 * q by omega), tentL (show b + c ≤ 2 * q by omega), tentL (show 2 * c ≤ 2 * q by omega)]
    unfold L1
    rcases ha with ha | ha
    · rw [pz_pos (show 0 ≤ 2 * b - a * 2 by omega), pz_pos (show 0 ≤ b + c - a * 2 by omega), pz_pos (show 0 ≤ 2 * c - a * 2 by omega), pz_pos (show 0 ≤ c - a by omega), pz_pos (show 0 ≤ b - a by omega)]
      grind
    · rw [pz_neg (show 2 * b - a * 2 ≤ 0 by omega), pz_neg (show b + c - a * 2 ≤ 0 by omega), pz_neg (show 2 * c - a * 2 ≤ 0 by omega), pz_neg (show c - a ≤ 0 by omega), pz_neg (show b - a ≤ 0 by omega)]
      grind
  · have e : G1 p q r a c - G1 p q r a b = R1 p q r a c - R1 p q r a b := by
      unfold G1
      rw [if_neg (show ¬ c ≤ q by omega)]
      split
      · have e2 : b = q := by omega
        subst e2; omega
      · omega
    rw [e, tentR (show 2 * q ≤ 2 * b by omega), tentR (show 2 * q ≤ b + c by omega), tentR (show 2 * q ≤ 2 * c by omega)]
    unfold R1
    rcases ha with ha | ha
    · rw [pz_pos (show 0 ≤ 2 * b - a * 2 by omega), pz_pos (show 0 ≤ b + c - a * 2 by omega), pz_pos (show 0 ≤ 2 * c - a * 2 by omega), pz_pos (show 0 ≤ c - a by omega), pz_pos (show 0 ≤ b - a by omega)]
      grind
    · rw [pz_neg (show 2 * b - a * 2 ≤ 0 by omega), pz_neg (show b + c - a * 2 ≤ 0 by omega), pz_neg (show 2 * c - a * 2 ≤ 0 by omega), pz_neg (show c - a ≤ 0 by omega), pz_neg (show b - a ≤ 0 by omega)]
      grind
theorem pc2 (hbc : b < c) (hq : c ≤ q ∨ q ≤ b) (ha : a ≤ b ∨ c ≤ a) : sim (fun t => pz (t - a * 2) * pz (t - a * 2) * tent p q r t) b c = G2 p q r a c - G2 p q r a b := by
  simp only [sim]
  rcases hq with hq | hq
  · have e : G2 p q r a c - G2 p q r a b = L2' p q r a c - L2' p q r a b := by unfold G2; rw [if_pos hq, if_pos (show b ≤ q by omega)]
    rw [e, tentL (show 2 * b ≤ 2 * q by omega), tentL (show b + c ≤ 2 * q by omega), tentL (show 2 * c ≤ 2 * q by omega)]
    unfold L2'
    rcases ha with ha | ha
    · rw [pz_pos (show 0 ≤ 2 * b - a * 2 by omega), pz_pos (show 0 ≤ b + c - a * 2 by omega), pz_pos (show 0 ≤ 2 * c - a * 2 by omega), pz_pos (show 0 ≤ c - a by omega), pz_pos (show 0 ≤ b - a by omega)]
      grind
    · rw [pz_neg (show 2 * b - a * 2 ≤ 0 by omega), pz_neg (show b + c - a * 2 ≤ 0 by omega), pz_neg (show 2 * c - a * 2 ≤ 0 by omega), pz_neg (show c - a ≤ 0 by omega), pz_neg (show b - a ≤ 0 by omega)]
      grind
  · have e : G2 p q r a c - G2 p q r a b = R2 p q r a c - R2 p q r a b := by
      unfold G2
      rw [if_neg (show ¬ c ≤ q by omega)]
      split
      · have e2 : b = q := by omega
        subst e2; omega
      · omega
    rw [e, tentR (show 2 * q ≤ 2 * b by omega), tentR (show 2 * q ≤ b + c by omega), tentR (show 2 * q ≤ 2 * c by omega)]
    unfold R2
    rcases ha with ha | ha
    · rw [pz_pos (show 0 ≤ 2 * b - a * 2 by omega), pz_pos (show 0 ≤ b + c - a * 2 by omega), pz_pos (show 0 ≤ 2 * c - a * 2 by omega), pz_pos (show 0 ≤ c - a by omega), pz_pos (show 0 ≤ b - a by omega)]
      grind
    · rw [pz_neg (show 2 * b - a * 2 ≤ 0 by omega), pz_neg (show b + c - a * 2 ≤ 0 by omega), pz_neg (show 2 * c - a * 2 ≤ 0 by omega), pz_neg (show c - a ≤ 0 by omega), pz_neg (show b - a ≤ 0 by omega)]
      grind
end
end Bl
namespace Bl
section
variable {p g h u : Int}
theorem I1_p (hg : 0 < g) (hh : 0 < h) : I1 p (p + g) (p + g + h) p = 4 * g * h * (2 * g + h) * (g + h) := by
  unfold I1 L1 R1
  rw [pz_pos (show 0 ≤ p + g - p by omega), pz_pos (show 0 ≤ p - p by omega), pz_pos (show 0 ≤ p + g + h - p by omega)]
  grind
theorem I1_q (hg : 0 < g) (hh : 0 < h) : I1 p (p + g) (p + g + h) (p + g) = 4 * g * h * h * h := by
  unfold I1 L1 R1
  rw [pz_pos (show 0 ≤ p + g - (p + g) by omega), pz_neg (show p - (p + g) ≤ 0 by omega), pz_pos (show 0 ≤ p + g + h - (p + g) by omega)]
  grind
theorem I1_r (hg : 0 < g) (hh : 0 < h) : I1 p (p + g) (p + g + h) (p + g + h) = 0 := by
  unfold I1 L1 R1
  rw [pz_neg (show p + g - (p + g + h) ≤ 0 by omega), pz_neg (show p - (p + g + h) ≤ 0 by omega), pz_neg (show p + g + h - (p + g + h) ≤ 0 by omega)]
  grind
/-- where a weight lies, in four ways -/
theorem I1_u1 (hg : 0 < g) (hh : 0 < h) (h0 : u ≤ 0) : I1 p (p + g) (p + g + h) (p + u) = 4 * g * h * (2 * g + h) * (g + h) - 12 * g * h * (g + h) * u := by
  unfold I1 L1 R1
  rw [pz_pos (show 0 ≤ p + g - (p + u) by omega), pz_pos (show 0 ≤ p - (p + u) by omega), pz_pos (show 0 ≤ p + g + h - (p + u) by omega)]
  grind
theorem I1_u2 (hg : 0 < g) (hh : 0 < h) (h0 : 0 ≤ u) (h1 : u ≤ g) : I1 p (p + g) (p + g + h) (p + u) = 4 * g * h * (2 * g + h) * (g + h) - 12 * g * h * (g + h) * u + 4 * h * u * u * u := by
  unfold I1 L1 R1
  rw [pz_pos (show 0 ≤ p + g - (p + u) by omega), pz_neg (show p - (p + u) ≤ 0 by omega), pz_pos (show 0 ≤ p + g + h - (p + u) by omega)]
  grind
theorem I1_u3 (hg : 0 < g) (hh : 0 < h) (h0 : g ≤ u) (h1 : u ≤ g + h) : I1 p (p + g) (p + g + h) (p + u) = 4 * g * (g + h - u) * (g + h - u) * (g + h - u) := by
  unfold I1 L1 R1
  rw [pz_neg (show p + g - (p + u) ≤ 0 by omega), pz_neg (show p - (p + u) ≤ 0 by omega), pz_pos (show 0 ≤ p + g + h - (p + u) by omega)]
  grind
theorem I1_u4 (hg : 0 < g) (hh : 0 < h) (h0 : g + h ≤ u) : I1 p (p + g) (p + g + h) (p + u) = 0 := by
  unfold I1 L1 R1
  rw [pz_neg (show p + g - (p + u) ≤ 0 by omega), pz_neg (show p - (p + u) ≤ 0 by omega), pz_neg (show p + g + h - (p + u) ≤ 0 by omega)]
  grind
theorem I2_u1 (hg : 0 < g) (hh : 0 < h) (h0 : u ≤ 0) : I2 p (p + g) (p + g + h) (p + u) = 4 * g * h * (g + h) * (g * g + 3 * g * h + h * h + 6 * u * u - 4 * (2 * g + h) * u) + (I2 p (p + g) (p + g + h) p - 4 * g * h * (g + h) * (g * g + 3 * g * h + h * h)) := by
  unfold I2 L2' R2
  rw [pz_pos (show 0 ≤ p + g - (p + u) by omega), pz_pos (show 0 ≤ p - (p + u) by omega), pz_pos (show 0 ≤ p + g + h - (p + u) by omega), pz_pos (show 0 ≤ p + g - p by omega), pz_pos (show 0 ≤ p - p by omega), pz_pos (show 0 ≤ p + g + h - p by omega)]
  grind
theorem I2_u2 (hg : 0 < g) (hh : 0 < h) (h0 : 0 ≤ u) (h1 : u ≤ g) : I2 p (p + g) (p + g + h) (p + u) = 4 * g * h * (g + h) * (6 * u * u - 4 * (2 * g + h) * u) - 4 * h * u * u * u * u + I2 p (p + g) (p + g + h) p := by
  unfold I2 L2' R2
  rw [pz_pos (show 0 ≤ p + g - (p + u) by omega), pz_neg (show p - (p + u) ≤ 0 by omega), pz_pos (show 0 ≤ p + g + h - (p + u) by omega), pz_pos (show 0 ≤ p + g - p by omega), pz_pos (show 0 ≤ p - p by omega), pz_pos (show 0 ≤ p + g + h - p by omega)]
  grind
theorem I2_u3 (hg : 0 < g) (hh : 0 < h) (h0 : g ≤ u) (h1 : u ≤ g + h) : I2 p (p + g) (p + g + h) (p + u) = 4 * g * (g + h - u) * (g + h - u) * (g + h - u) * (g + h - u) := by
  unfold I2 L2' R2
  rw [pz_neg (show p + g - (p + u) ≤ 0 by omega), pz_neg (show p - (p + u) ≤ 0 by omega), pz_pos (show 0 ≤ p + g + h - (p + u) by omega)]
  grind
theorem I2_u4 (hg : 0 < g) (hh : 0 < h) (h0 : g + h ≤ u) : I2 p (p + g) (p + g + h) (p + u) = 0 := by
  unfold I2 L2' R2
  rw [pz_neg (show p + g - (p + u) ≤ 0 by omega), pz_neg (show p - (p + u) ≤ 0 by omega), pz_neg (show p + g + h - (p + u) ≤ 0 by omega)]
  grind
theorem I2_p (hg : 0 < g) (hh : 0 < h) : I2 p (p + g) (p + g + h) p = 4 * g * h * (g + h) * (3 * g * g + 3 * g * h + h * h) - 4 * g * h * 0 := by
  unfold I2 L2' R2
  rw [pz_pos (show 0 ≤ p + g - p by omega), pz_pos (show 0 ≤ p - p by omega), pz_pos (show 0 ≤ p + g + h - p by omega)]
  grind
end
end Bl
namespace Bl
section
variable {p g h u : Int}
/-- what the middle rest bears of a weight of 1, of an even load up to a place -/
def pA (g h u : Int) : Int := if u ≤ g then partAt u g h else partAt (g + h - u) h g
def uA (g h u : Int) : Int := sumUp (mnI u g) g h - sumUp (g + h - mxI u g) h g
abbrev bt (g h : Int) : Int := 8 * g * g * h * h * (g + h)
theorem wt_id (hg : 0 < g) (hh : 0 < h) : 4 * ((bt g h - 4 * pA g h u * (g + h) - (4 * g * g * h * h * (2 * u) - 4 * pA g h u * g)) * (4 * g * h * (2 * g + h) * (g + h)) + 4 * pA g h u * (g + h) * (4 * g * h * h * h)) = bt g h * (4 * I1 p (p + g) (p + g + h) (p + u)) := by
  rcases Int.le_total u 0 with h0 | h0
  · rw [I1_u1 hg hh h0, show pA g h u = u * g * h * (g + 2 * h) by unfold pA partAt; rw [if_pos (by omega), if_pos h0]]
    grind
  · rcases Int.le_total u g with h1 | h1
    · by_cases hz : u = 0
      · subst hz
        rw [I1_u2 hg hh (by omega) h1, show pA g h 0 = 0 by unfold pA partAt; rw [if_pos h1, if_pos (by omega)]; simp]
        grind
      · rw [I1_u2 hg hh h0 h1, show pA g h u = u * h * (g * g + 2 * g * h - u * u) by unfold pA partAt; rw [if_pos h1, if_neg (by omega)]]
        grind
    · by_cases hz : u = g
      · subst hz
        rw [I1_u3 hg hh (by omega) (by omega), show pA u h u = u * h * (u * u + 2 * u * h - u * u) by unfold pA partAt; rw [if_pos h1, if_neg (by omega)]]
        grind
      · rcases Int.lt_or_le u (g + h) with h2 | h2
        · rw [I1_u3 hg hh h1 (by omega), show pA g h u = (g + h - u) * g * (h * h + 2 * h * g - (g + h - u) * (g + h - u)) by unfold pA partAt; rw [if_neg (by omega), if_neg (by omega)]]
          grind
        · rw [I1_u4 hg hh h2, show pA g h u = (g + h - u) * h * g * (h + 2 * g) by unfold pA partAt; rw [if_neg (by omega), if_pos (by omega)]]
          grind
theorem mn_l {x y : Int} (h : x ≤ y) : mnI x y = x := by unfold mnI; split <;> omega
theorem mn_r {x y : Int} (h : y ≤ x) : mnI x y = y := by unfold mnI; split <;> omega
theorem mx_l {x y : Int} (h : y ≤ x) : mxI x y = x := by unfold mxI; split <;> omega
theorem mx_r {x y : Int} (h : x ≤ y) : mxI x y = y := by unfold mxI; split <;> omega
def vA (p g h u : Int) : Int := 4 * ((bt g h * u - uA g h u * (g + h) - (4 * g * g * h * h * (u * u) - uA g h u * g)) * (4 * g * h * (2 * g + h) * (g + h)) + uA g h u * (g + h) * (4 * g * h * h * h)) + bt g h * I2 p (p + g) (p + g + h) (p + u)
theorem sp_id (hg : 0 < g) (hh : 0 < h) : vA p g h u = vA p g h 0 := by
  have e0 : uA g h 0 = 0 - h * h * g * (2 * h * h + 4 * h * g - h * h) := by
    unfold uA sumUp
    rw [mn_l (by omega), mx_r (by omega), if_pos (by omega), if_neg (by omega), show g + h - g = h by omega]
    grind
  have eI : I2 p (p + g) (p + g + h) (p + 0) = 4 * g * h * (g + h) * (3 * g * g + 3 * g * h + h * h) := by
    rw [Int.add_zero, I2_p hg hh]; grind
  have eP := I2_p (p := p) hg hh
  have key : vA p g h 0 = 4 * ((0 - uA g h 0 * (g + h) + uA g h 0 * g) * (4 * g * h * (2 * g + h) * (g + h)) + uA g h 0 * (g + h) * (4 * g * h * h * h)) + bt g h * (4 * g * h * (g + h) * (3 * g * g + 3 * g * h + h * h)) := by
    unfold vA
    rw [eI]
    grind
  rw [key, e0]
  unfold vA
  rcases Int.le_total u 0 with h0 | h0
  · rw [I2_u1 hg hh h0, eP, show uA g h u = 2 * u * u * g * h * (g + 2 * h) - h * h * g * (2 * h * h + 4 * h * g - h * h) by
      unfold uA sumUp; rw [mn_l (by omega), mx_r (by omega), if_pos h0, if_neg (by omega), show g + h - g = h by omega]]
    grind
  · rcases Int.le_total u g with h1 | h1
    · by_cases hz : u = 0
      · subst hz
        rw [eI, e0]
        grind
      · rw [I2_u2 hg hh h0 h1, eP, show uA g h u = u * u * h * (2 * g * g + 4 * g * h - u * u) - h * h * g * (2 * h * h + 4 * h * g - h * h) by
          unfold uA sumUp; rw [mn_l (by omega), mx_r (by omega), if_neg (by omega), if_neg (by omega), show g + h - g = h by omega]]
        grind
    · rcases Int.lt_or_le u (g + h) with h2 | h2
      · rw [I2_u3 hg hh h1 (by omega), show uA g h u = g * g * h * (2 * g * g + 4 * g * h - g * g) - (g + h - u) * (g + h - u) * g * (2 * h * h + 4 * h * g - (g + h - u) * (g + h - u)) by
          unfold uA sumUp; rw [mn_r (by omega), mx_l (by omega), if_neg (by omega), if_neg (by omega)]]
        grind
      · rw [I2_u4 hg hh h2, show uA g h u = g * g * h * (2 * g * g + 4 * g * h - g * g) - 2 * (g + h - u) * (g + h - u) * h * g * (h + 2 * g) by
          unfold uA sumUp; rw [mn_r (by omega), mx_l (by omega), if_neg (by omega), if_pos (by omega)]]
        grind
end
end Bl
namespace Bl
/-! the numbers once each, rising -/
def insS (x : Int) : List Int → List Int
  | [] => [x]
  | y :: t => if x < y then x :: y :: t else if x = y then y :: t else y :: insS x t
def srt (ns : List Int) : List Int := ns.foldr insS []
theorem insS_mem {x k : Int} : ∀ {l : List Int}, k ∈ insS x l ↔ k = x ∨ k ∈ l
  | [] => by simp [insS]
  | y :: t => by
    unfold insS
    split
    · simp
    · split
      · rename_i h
        subst h
        simp
      · rw [List.mem_cons, List.mem_cons, insS_mem]
        constructor
        · rintro (h | h | h)
          · exact .inr (.inl h)
          · exact .inl h
          · exact .inr (.inr h)
        · rintro (h | h | h)
          · exact .inr (.inl h)
          · exact .inl h
          · exact .inr (.inr h)
theorem insS_pw {x : Int} : ∀ {l : List Int}, l.Pairwise (· < ·) → (insS x l).Pairwise (· < ·)
  | [], _ => by simp [insS]
  | y :: t, h => by
    rw [List.pairwise_cons] at h
    unfold insS
    split
    · rename_i hxy
      refine List.pairwise_cons.mpr ⟨fun z hz => ?_, List.pairwise_cons.mpr h⟩
      rcases List.mem_cons.mp hz with e | e
      · omega
      · have := h.1 z e; omega
    · split
      · exact List.pairwise_cons.mpr h
      · refine List.pairwise_cons.mpr ⟨fun z hz => ?_, insS_pw h.2⟩
        rcases insS_mem.mp hz with e | e
        · omega
        · exact h.1 z e
theorem insS_len (x : Int) : ∀ l : List Int, (insS x l).length ≤ l.length + 1
  | [] => by simp [insS]
  | y :: t => by
    unfold insS
    split
    · simp
    · split
      · simp
      · have := insS_len x t
        simp only [List.length_cons]
        omega
theorem srt_mem {k : Int} : ∀ {ns : List Int}, k ∈ srt ns ↔ k ∈ ns
  | [] => by simp [srt]
  | x :: ns => by
    show k ∈ insS x (srt ns) ↔ _
    rw [insS_mem, srt_mem, List.mem_cons]
theorem srt_pw : ∀ {ns : List Int}, (srt ns).Pairwise (· < ·)
  | [] => List.Pairwise.nil
  | x :: ns => insS_pw (srt_pw (ns := ns))
theorem srt_len : ∀ ns : List Int, (srt ns).length ≤ ns.length
  | [] => Nat.le_refl 0
  | x :: ns => by
    have h1 := insS_len x (srt ns)
    have h2 := srt_len ns
    show (insS x (srt ns)).length ≤ ns.length + 1
    omega
theorem lastD_mem : ∀ (t : List Int) (d : Int), lastD d t ∈ d :: t
  | [], d => by simp [lastD]
  | x :: t, d => by
    have := lastD_mem t x
    simp only [lastD]
    exact List.mem_cons_of_mem _ this
theorem lastD_max : ∀ {t : List Int} {d : Int}, (d :: t).Pairwise (· < ·) → ∀ x, x ∈ d :: t → x ≤ lastD d t
  | [], d, _, x, hx => by
    have : x = d := by simpa using hx
    simp [lastD, this]
  | y :: t, d, h, x, hx => by
    rw [List.pairwise_cons] at h
    simp only [lastD]
    rcases List.mem_cons.mp hx with e | e
    · have h1 := lastD_max h.2 y (by simp)
      have h2 := h.1 y (by simp)
      omega
    · exact lastD_max h.2 x e
/-! the pieces of three rests -/
def inner (p r : Int) (w : Row) : List Int := [w.a, w.b].filter fun x => decide (p < x) && decide (x < r)
def betw (p q r : Int) (ls : List Row) : List Int := [p, q, r] ++ ls.flatMap (inner p r)
section
variable {p q r : Int} {ls : List Row}
theorem inner_mem {w : Row} {x : Int} : x ∈ inner p r w ↔ (x = w.a ∨ x = w.b) ∧ p < x ∧ x < r := by
  unfold inner
  rw [List.mem_filter]
  simp
theorem betw_mem {x : Int} : x ∈ betw p q r ls ↔ (x = p ∨ x = q ∨ x = r) ∨ ∃ w, w ∈ ls ∧ (x = w.a ∨ x = w.b) ∧ p < x ∧ x < r := by
  unfold betw
  rw [List.mem_append, List.mem_flatMap]
  simp only [inner_mem, List.mem_cons, List.not_mem_nil, or_false]
theorem betw_ms (h1 : p < q) (h2 : q < r) : ∃ t, srt (betw p q r ls) = p :: t ∧ lastD p t = r ∧ ∀ x, x ∈ p :: t → p ≤ x ∧ x ≤ r := by
  have hall : ∀ x, x ∈ srt (betw p q r ls) → p ≤ x ∧ x ≤ r := fun x hx => by
    rw [srt_mem, betw_mem] at hx
    rcases hx with hx | ⟨w, _, _, hx⟩ <;> omega
  have hp : p ∈ srt (betw p q r ls) := srt_mem.mpr (betw_mem.mpr (.inl (.inl rfl)))
  have hr : r ∈ srt (betw p q r ls) := srt_mem.mpr (betw_mem.mpr (.inl (.inr (.inr rfl))))
  have pw := srt_pw (ns := betw p q r ls)
  cases hs : srt (betw p q r ls) with
  | nil => rw [hs] at hp; simp at hp
  | cons x t =>
    rw [hs] at hall hp hr pw
    have e : x = p := by
      rcases List.mem_cons.mp hp with e | e
      · exact e.symm
      · have := (List.pairwise_cons.mp pw).1 p e
        have := hall x (by simp)
        omega
    subst e
    refine ⟨t, rfl, ?_, hall⟩
    have a1 := lastD_max pw r hr
    have a2 := hall _ (lastD_mem t x)
    omega
/-- one kernel over all pieces -/
theorem ker1 (h1 : p < q) (h2 : q < r) {a : Int} (ha : p < a → a < r → a ∈ betw p q r ls) : sumS (fun t => pz (t - a * 2) * tent p q r t) (srt (betw p q r ls)) = I1 p q r a := by
  obtain ⟨t, hs, hl, hall⟩ := betw_ms (ls := ls) h1 h2
  have pw := srt_pw (ns := betw p q r ls)
  have hq : q ∈ srt (betw p q r ls) := srt_mem.mpr (betw_mem.mpr (.inl (.inr (.inl rfl))))
  have hm := fun x => srt_mem (k := x) (ns := betw p q r ls)
  rw [hs] at pw hq hm ⊢
  rw [sumS_tel (G := G1 p q r a) (ms := p :: t) (fun b c hbc hb hc hx => pc1 hbc (by rcases hx q hq with z | z <;> omega) ?_) t p pw (fun x hx => hx) (fun x hx => by
    rcases List.mem_cons.mp hx with z | z
    · exact .inl (by omega)
    · exact .inr z), hl]
  · unfold G1 I1
    rw [if_neg (by omega), if_pos (by omega)]
    omega
  · have hb' := hall b hb
    have hc' := hall c hc
    by_cases z1 : p < a
    · by_cases z2 : a < r
      · exact hx a ((hm a).mpr (ha z1 z2))
      · exact .inr (by omega)
    · exact .inl (by omega)
theorem ker2 (h1 : p < q) (h2 : q < r) {a : Int} (ha : p < a → a < r → a ∈ betw p q r ls) : sumS (fun t => pz (t - a * 2) * pz (t - a * 2) * tent p q r t) (srt (betw p q r ls)) = I2 p q r a := by
  obtain ⟨t, hs, hl, hall⟩ := betw_ms (ls := ls) h1 h2
  have pw := srt_pw (ns := betw p q r ls)
  have hq : q ∈ srt (betw p q r ls) := srt_mem.mpr (betw_mem.mpr (.inl (.inr (.inl rfl))))
  have hm := fun x => srt_mem (k := x) (ns := betw p q r ls)
  rw [hs] at pw hq hm ⊢
  rw [sumS_tel (G := G2 p q r a) (ms := p :: t) (fun b c hbc hb hc hx => pc2 hbc (by rcases hx q hq with z | z <;> omega) ?_) t p pw (fun x hx => hx) (fun x hx => by
    rcases List.mem_cons.mp hx with z | z
    · exact .inl (by omega)
    · exact .inr z), hl]
  · unfold G2 I2
    rw [if_neg (by omega), if_pos (by omega)]
    omega
  · have hb' := hall b hb
    have hc' := hall c hc
    by_cases z1 : p < a
    · by_cases z2 : a < r
      · exact hx a ((hm a).mpr (ha z1 z2))
      · exact .inr (by omega)
    · exact .inl (by omega)
def rowI (p q r : Int) (w : Row) : Int := if w.a = w.b then 4 * w.n * I1 p q r w.a else w.n * (I2 p q r w.a - I2 p q r w.b)
theorem row_sum (h1 : p < q) (h2 : q < r) {w : Row} (hw : w ∈ ls) : sumS (fun t => lft w t 2 * tent p q r t) (srt (betw p q r ls)) = rowI p q r w := by
  have ma : p < w.a → w.a < r → w.a ∈ betw p q r ls := fun a b => betw_mem.mpr (.inr ⟨w, hw, .inl rfl, a, b⟩)
  have mb : p < w.b → w.b < r → w.b ∈ betw p q r ls := fun a b => betw_mem.mpr (.inr ⟨w, hw, .inr rfl, a, b⟩)
  unfold rowI
  by_cases hab : w.a = w.b
  · rw [if_pos hab, ← ker1 h1 h2 ma, sumS_congr (g := fun t => (4 * w.n) * (pz (t - w.a * 2) * tent p q r t) + 0 * (pz (t - w.a * 2) * tent p q r t)) (fun t => by
      rw [show lft w t 2 = 2 * 2 * w.n * pz (t - w.a * 2) from if_pos hab]; grind), sumS_lin]
    omega
  · rw [if_neg hab, ← ker2 h1 h2 ma, ← ker2 h1 h2 mb, sumS_congr (g := fun t => w.n * (pz (t - w.a * 2) * pz (t - w.a * 2) * tent p q r t) + (0 - w.n) * (pz (t - w.b * 2) * pz (t - w.b * 2) * tent p q r t)) (fun t => by
      rw [show lft w t 2 = w.n * (pz (t - w.a * 2) * pz (t - w.a * 2) - pz (t - w.b * 2) * pz (t - w.b * 2)) from if_neg hab]; grind), sumS_lin]
    grind
/-- each load by itself -/
theorem row_id (h1 : p < q) (h2 : q < r) (w : Row) : 4 * ((bot [p, q, r] * tot w - mid p q r w * (r - p) - (4 * (q - p) * (q - p) * (r - q) * (r - q) * (rgt w p 1 - lft w p 1) - mid p q r w * (q - p))) * I1 p q r p + mid p q r w * (r - p) * I1 p q r q) = bot [p, q, r] * rowI p q r w := by
  obtain ⟨g, rfl⟩ : ∃ g, q = p + g := ⟨q - p, by omega⟩
  obtain ⟨h, rfl⟩ : ∃ h, r = p + g + h := ⟨r - (p + g), by omega⟩
  have hg : 0 < g := by omega
  have hh : 0 < h := by omega
  rw [I1_p hg hh, I1_q hg hh, rgt_lft]
  obtain ⟨a, b, n⟩ := w
  obtain ⟨u, rfl⟩ : ∃ u, a = p + u := ⟨a - p, by omega⟩
  obtain ⟨v, rfl⟩ : ∃ v, b = p + v := ⟨b - p, by omega⟩
  unfold mo
  have eb : bot [p, p + g, p + g + h] = bt g h := by
    show 8 * (p + g - p) * (p + g - p) * (p + g + h - (p + g)) * (p + g + h - (p + g)) * (p + g + h - p) = _
    rw [show p + g - p = g by omega, show p + g + h - (p + g) = h by omega, show p + g + h - p = g + h by omega]
  rw [eb, show p + g - p = g by omega, show p + g + h - (p + g) = h by omega, show p + g + h - p = g + h by omega]
  by_cases e : p + u = p + v
  · have e2 : u = v := by omega
    subst e2
    have k := wt_id (p := p) (u := u) hg hh
    rw [show tot ⟨p + u, p + u, n⟩ = n from if_pos rfl, show rowI p (p + g) (p + g + h) ⟨p + u, p + u, n⟩ = 4 * n * I1 p (p + g) (p + g + h) (p + u) from if_pos rfl,
      show mid p (p + g) (p + g + h) ⟨p + u, p + u, n⟩ = 4 * n * pA g h u from by
        unfold mid pA
        rw [if_pos rfl]
        simp only
        rw [show p + u - p = u by omega, show p + g - p = g by omega, show p + g + h - (p + g) = h by omega, show p + g + h - (p + u) = g + h - u by omega]
        by_cases z : u ≤ g
        · rw [if_pos z, if_pos (show p + u ≤ p + g by omega)]
        · rw [if_neg z, if_neg (show ¬ p + u ≤ p + g by omega)]]
    generalize I1 p (p + g) (p + g + h) (p + u) = J at *
    generalize pA g h u = A at *
    have k2 := congrArg (fun z => n * z) k
    grind
  · have ku := sp_id (p := p) (u := u) hg hh
    have kv := sp_id (p := p) (u := v) hg hh
    rw [← kv] at ku
    unfold vA at ku
    rw [show tot ⟨p + u, p + v, n⟩ = n * ((p + v) - (p + u)) from if_neg e, show rowI p (p + g) (p + g + h) ⟨p + u, p + v, n⟩ = n * (I2 p (p + g) (p + g + h) (p + u) - I2 p (p + g) (p + g + h) (p + v)) from if_neg e,
      show mid p (p + g) (p + g + h) ⟨p + u, p + v, n⟩ = n * (uA g h v - uA g h u) from by
        unfold mid uA
        rw [if_neg e]
        simp only
        have m1 : ∀ x, mnI (p + x) (p + g) - p = mnI x g := fun x => by unfold mnI; split <;> split <;> omega
        have m2 : ∀ x, p + g + h - mxI (p + x) (p + g) = g + h - mxI x g := fun x => by unfold mxI; split <;> split <;> omega
        rw [m1, m1, m2, m2, show p + g - p = g by omega, show p + g + h - (p + g) = h by omega]
        grind]
    generalize I2 p (p + g) (p + g + h) (p + u) = J at *
    generalize I2 p (p + g) (p + g + h) (p + v) = J2 at *
    generalize uA g h u = A at *
    generalize uA g h v = B at *
    have k2 := congrArg (fun z => n * z) ku
    grind
theorem all_id (h1 : p < q) (h2 : q < r) : ∃ n0 n1 n2, nums [p, q, r] ls = [n0, n1, n2] ∧ 4 * (n0 * I1 p q r p + n1 * I1 p q r q) = bot [p, q, r] * su (rowI p q r) ls := by
  refine ⟨_, _, _, rfl, ?_⟩
  have e := su_congr (l := ls) (f := fun w => bot [p, q, r] * rowI p q r w) (fun w _ => (row_id h1 h2 w).symm)
  rw [su_mul] at e
  rw [e]
  have e2 : su (fun w => 4 * ((bot [p, q, r] * tot w - mid p q r w * (r - p) - (4 * (q - p) * (q - p) * (r - q) * (r - q) * (rgt w p 1 - lft w p 1) - mid p q r w * (q - p))) * I1 p q r p + mid p q r w * (r - p) * I1 p q r q)) ls =
      su (fun w => (4 * bot [p, q, r] * I1 p q r p) * tot w) ls + su (fun w => (4 * ((q - p) - (r - p)) * I1 p q r p + 4 * (r - p) * I1 p q r q) * mid p q r w) ls + su (fun w => (0 - 16 * (q - p) * (q - p) * (r - q) * (r - q) * I1 p q r p) * (rgt w p 1 - lft w p 1)) ls := by
    rw [← su_add, ← su_add]
    exact su_congr fun w _ => by grind
  rw [e2, su_mul, su_mul, su_mul]
  unfold WW TT
  show 4 * ((8 * (q - p) * (q - p) * (r - q) * (r - q) * (r - p) * su tot ls - su (mid p q r) ls * (r - p) - (4 * (q - p) * (q - p) * (r - q) * (r - q) * su (fun r => rgt r p 1 - lft r p 1) ls - su (mid p q r) ls * (q - p))) * I1 p q r p + su (mid p q r) ls * (r - p) * I1 p q r q) = _
  rw [show bot [p, q, r] = 8 * (q - p) * (q - p) * (r - q) * (r - q) * (r - p) from rfl]
  generalize su tot ls = a1
  generalize su (mid p q r) ls = a2
  generalize su (fun r => rgt r p 1 - lft r p 1) ls = a3
  generalize I1 p q r p = a4
  generalize I1 p q r q = a5
  grind
/-- the twelfth point -/
theorem bent_zero (h1 : p < q) (h2 : q < r) : sumS (fun t => tl [p, q, r] ls (shs [p, q, r] ls) (comR [p, q, r] ls) t 2 * tent p q r t) (srt (betw p q r ls)) = 0 := by
  have hrs : Rs [p, q, r] := .three h1 h2
  have hb := bot_pos hrs
  obtain ⟨n0, n1, n2, hn, hid⟩ := all_id (ls := ls) h1 h2
  have sh : ∀ n, n ∈ nums [p, q, r] ls → shr (bot [p, q, r]) (comR [p, q, r] ls) n * bot [p, q, r] = n * comR [p, q, r] ls := fun n hm => shr_eq (by omega) hm
  rw [hn] at sh
  have s0 := sh n0 (by simp)
  have s1 := sh n1 (by simp)
  have es : shs [p, q, r] ls = [shr (bot [p, q, r]) (comR [p, q, r] ls) n0, shr (bot [p, q, r]) (comR [p, q, r] ls) n1, shr (bot [p, q, r]) (comR [p, q, r] ls) n2] := by
    unfold shs; rw [hn]; rfl
  rw [es]
  generalize comR [p, q, r] ls = C at *
  generalize shr (bot [p, q, r]) C n0 = x0 at *
  generalize shr (bot [p, q, r]) C n1 = x1 at *
  generalize shr (bot [p, q, r]) C n2 = x2 at *
  have k0 := ker1 (ls := ls) h1 h2 (a := p) (fun z _ => absurd z (by omega))
  have k1 := ker1 (ls := ls) h1 h2 (a := q) (fun _ _ => betw_mem.mpr (.inl (.inr (.inl rfl))))
  have k2 := ker1 (ls := ls) h1 h2 (a := r) (fun _ z => absurd z (by omega))
  have kr : I1 p q r r = 0 := by
    obtain ⟨g, rfl⟩ : ∃ g, q = p + g := ⟨q - p, by omega⟩
    obtain ⟨h, rfl⟩ : ∃ h, r = p + g + h := ⟨r - (p + g), by omega⟩
    exact I1_r (by omega) (by omega)
  have ks : sumS (fun t => su (fun w => lft w t 2 * tent p q r t) ls) (srt (betw p q r ls)) = su (rowI p q r) ls := by
    rw [sumS_su]
    exact su_congr fun w hw => row_sum h1 h2 hw
  have e : sumS (fun t => tl [p, q, r] ls [x0, x1, x2] C t 2 * tent p q r t) (srt (betw p q r ls)) =
      (4 * x0) * I1 p q r p + (1 * ((4 * x1) * I1 p q r q + (1 * ((4 * x2) * I1 p q r r + (0 - C) * su (rowI p q r) ls)))) := by
    have a1 := sumS_lin (4 * x2) (0 - C) (fun t => pz (t - r * 2) * tent p q r t) (fun t => su (fun w => lft w t 2 * tent p q r t) ls) (srt (betw p q r ls))
    have a2 := sumS_lin (4 * x1) 1 (fun t => pz (t - q * 2) * tent p q r t) (fun t => 4 * x2 * (pz (t - r * 2) * tent p q r t) + (0 - C) * su (fun w => lft w t 2 * tent p q r t) ls) (srt (betw p q r ls))
    have a3 := sumS_lin (4 * x0) 1 (fun t => pz (t - p * 2) * tent p q r t) (fun t => 4 * x1 * (pz (t - q * 2) * tent p q r t) + 1 * (4 * x2 * (pz (t - r * 2) * tent p q r t) + (0 - C) * su (fun w => lft w t 2 * tent p q r t) ls)) (srt (betw p q r ls))
    rw [k2, ks] at a1
    rw [k1, a1] at a2
    rw [k0, a2] at a3
    rw [← a3]
    refine sumS_congr (fun t => ?_) _
    have e3 : su (fun w => lft w t 2 * tent p q r t) ls = tent p q r t * su (fun w => lft w t 2) ls := by rw [← su_mul]; exact su_congr fun w _ => Int.mul_comm _ _
    rw [e3]
    unfold tl
    simp only [zs]
    grind
  rw [e, kr]
  have : ((4 * x0) * I1 p q r p + (1 * ((4 * x1) * I1 p q r q + (1 * ((4 * x2) * 0 + (0 - C) * su (rowI p q r) ls))))) * bot [p, q, r] = 0 := by
    generalize I1 p q r p = y0 at *
    generalize I1 p q r q = y1 at *
    generalize su (rowI p q r) ls = y2 at *
    generalize bot [p, q, r] = B at *
    grind
  rcases Int.mul_eq_zero.mp this with z | z <;> omega
end
theorem sumS_take {g : Int → Int} : ∀ {ms : List Int} {i : Nat} {b c : Int}, ms[i]? = some b → ms[i + 1]? = some c → sumS g (ms.take (i + 2)) = sumS g (ms.take (i + 1)) + sim g b c
  | [], i, b, c, h, _ => by simp at h
  | [x], 0, b, c, _, h => by simp at h
  | x :: y :: t, 0, b, c, h1, h2 => by
    simp at h1 h2
    subst h1; subst h2
    simp [sumS]
  | [x], i + 1, b, c, h, _ => by simp at h
  | x :: y :: t, i + 1, b, c, h1, h2 => by
    have ih := sumS_take (g := g) (ms := y :: t) (i := i) (b := b) (c := c) (by simpa using h1) (by simpa using h2)
    have e1 : (y :: t).take (i + 2) = y :: t.take (i + 1) := List.take_succ_cons
    have e2 : (y :: t).take (i + 1) = y :: t.take i := List.take_succ_cons
    have e3 : (x :: y :: t).take (i + 1 + 2) = x :: y :: t.take (i + 1) := by rw [← e1]; exact List.take_succ_cons
    have e4 : (x :: y :: t).take (i + 1 + 1) = x :: y :: t.take i := by rw [← e2]; exact List.take_succ_cons
    rw [e1, e2] at ih
    rw [e3, e4]
    simp only [sumS]
    omega
end Bl
namespace Bl
open PySem L2
/-! bits -/
def Bd (n : Nat) (x : Int) : Prop := x.natAbs < 2 ^ n
theorem Bd.mul {a b : Nat} {x y : Int} (h : Bd a x) (g : Bd b y) : Bd (a + b) (x * y) := wide_lt h g
theorem Bd.mono {a b : Nat} {x : Int} (h : Bd a x) (l : a ≤ b) : Bd b x := Nat.lt_of_lt_of_le h (Nat.pow_le_pow_right (by decide) l)
theorem Bd.add {a b : Nat} {x y : Int} (h : Bd a x) (g : Bd b y) : Bd (max a b + 1) (x + y) := by
  have h1 : x.natAbs < 2 ^ max a b := h.mono (Nat.le_max_left a b)
  have h2 : y.natAbs < 2 ^ max a b := g.mono (Nat.le_max_right a b)
  unfold Bd
  rw [Nat.pow_succ]
  omega
theorem Bd.sub {a b : Nat} {x y : Int} (h : Bd a x) (g : Bd b y) : Bd (max a b + 1) (x - y) := by
  have h1 : x.natAbs < 2 ^ max a b := h.mono (Nat.le_max_left a b)
  have h2 : y.natAbs < 2 ^ max a b := g.mono (Nat.le_max_right a b)
  unfold Bd
  rw [Nat.pow_succ]
  omega
theorem Bd.neg {a : Nat} {x : Int} (h : Bd a x) : Bd a (-x) := by
  unfold Bd at h ⊢
  rw [Int.natAbs_neg]
  exact h
theorem Bd.lit {x : Int} {a : Nat} (h : Nat.blt x.natAbs (2 ^ a) = true) : Bd a x := Nat.le_of_ble_eq_true h
theorem Bd.cmul {a b : Nat} {x y : Int} (h : Bd a x) (g : Bd b y) (l : a + b ≤ 900000) : CMulW x y := by
  refine wide_mul (a := a + 1) (b := b + 1) (h.mono (Nat.le_succ a)) (g.mono (Nat.le_succ b)) (Nat.succ_pos a) (Nat.succ_pos b) ?_
  omega
theorem Bd.le {a : Nat} {x y : Int} (h : x.natAbs ≤ y.natAbs) (g : Bd a y) : Bd a x := Nat.lt_of_le_of_lt h g
theorem Bd.imax {a b : Nat} {x y : Int} (h : Bd a x) (g : Bd b y) : Bd (max a b) (imax x y) := by
  unfold Bl.imax
  split
  · exact g.mono (Nat.le_max_right a b)
  · exact h.mono (Nat.le_max_left a b)
theorem Bd.imin {a b : Nat} {x y : Int} (h : Bd a x) (g : Bd b y) : Bd (max a b) (imin x y) := by
  unfold Bl.imin
  split
  · exact g.mono (Nat.le_max_right a b)
  · exact h.mono (Nat.le_max_left a b)

abbrev frD (t b : Int) : D := .tup [.int (frT t b), .int (frB t b)]
theorem log_of_bd {n : Nat} {x : Int} (h : Bd n x) (hn : 0 < n) (l : n ≤ 9000) : x.natAbs.log2 < 9000 := Nat.lt_of_lt_of_le (PySem.Flt.log2_lt_of hn h) l
theorem frT_bd {n : Nat} {t b : Int} (h : b ≠ 0) (g : Bd n t) : Bd n (frT t b) := by
  refine Bd.le ?_ g
  have := abs_le_mul (x := frT t b) (byI_ne (t := t) h)
  rwa [(fr_mul (t := t) h).1] at this
theorem frB_bd {n : Nat} {t b : Int} (h : b ≠ 0) (g : Bd n b) : Bd n (frB t b) := by
  refine Bd.le ?_ g
  have := abs_le_mul (x := frB t b) (byI_ne (t := t) h)
  rwa [(fr_mul (t := t) h).2] at this
theorem iabs_nat (i : Int) : iabs i = (i.natAbs : Int) := by unfold iabs; split <;> omega
/-- the classes of the program, by their places in the heap -/
structure Cs where
  BeamError : Addr
  NoNumber : Addr
  NoLoad : Addr
  NoBeam : Addr
  OffBeam : Addr
  Load : Addr
  Weight : Addr
  Spread : Addr
  Beam : Addr
def R_divisor : List D → Except Value D → Prop := fun ds r => ∃ a b : Int, ds = [.int a, .int b] ∧ r = .ok (.int (gcdI a b))
def R_fraction (cs : Cs) : List D → Except Value D → Prop := fun ds r => ∃ t b : Int, ds = [.int t, .int b] ∧ ((b = 0 ∧ r = .error (.ref cs.NoNumber)) ∨ (b ≠ 0 ∧ Bd 8900 b ∧ r = .ok (frD t b)))
/-! what the law's own small defs do -/
def cell (ns : List Int) (k : Int) : Int := ns.getD k.toNat 0
def R_cell : List D → Except Value D → Prop := fun ds r => ∃ (ns : List Int) (k : Int), ds = [.sq (ns.map D.int), .int k] ∧ 0 ≤ k ∧ r = .ok (.int (cell ns k))
def R_whole : List D → Except Value D → Prop := fun ds r => ∃ n : Int, ds = [.int n] ∧ r = .ok (.bl true)
def R_isfrac : List D → Except Value D → Prop := fun ds r => ∃ t b : Int, ds = [.tup [.int t, .int b]] ∧ 1 ≤ b ∧ Int.gcd t b = 1 ∧ r = .ok (.bl true)
def R_int1 (f : Int → Int) : List D → Except Value D → Prop := fun ds r => ∃ c : Int, ds = [.int c] ∧ r = .ok (.int (f c))
def numOf (n : Nat) (c : Int) : Int := if c % 4 = 0 then c / 8 % 10 ^ n * (1 - 2 * (c / 4 % 2)) else c / 4 % 41 - 20
theorem bd_mod {n : Nat} {x m : Int} (h : 0 < m) (g : Nat.ble m.natAbs (2 ^ n) = true) : Bd n (x % m) := by
  have h1 := Int.emod_nonneg x (show m ≠ 0 by omega)
  have h2 := Int.emod_lt_of_pos x h
  have h3 := Nat.le_of_ble_eq_true g
  unfold Bd
  omega
theorem pss_hd {X : Cx} {body : List Stmt} {st : Stmt} {rest : List Stmt} {t : TS} (e : body = st :: rest) (h : PSs X (st :: rest) t) : PSs X body t := e ▸ h
def tyOf : D → Option String
  | .int _ => some "int"
  | .bl _ => some "bool"
  | .non => some "NoneType"
  | .tup _ => some "tuple"
  | .lst _ => some "list"
  | .lv _ _ => some "list"
  | _ => none
theorem rep_ty {K : PySem.W.Frag} {F H : Hp} {d : D} {v : V} {t : String} (e : Ex F H) (r : Rep K F d v) (h : tyOf d = some t) : TyX K H v (.type t) := by
  cases d with
  | non => cases h; have e1 : v = .non := r; subst e1; exact .base .non
  | int i => cases h; have e1 : v = .int i := r; subst e1; exact .base (.int i)
  | bl b => cases h; have e1 : v = .bl b := r; subst e1; exact .base (.bl b)
  | tup ds => cases h; obtain ⟨p, vs, rfl, hp, _⟩ := r; exact .base (.tup (e _ _ hp))
  | lst ds => cases h; obtain ⟨p, vs, rfl, hp, _⟩ := r; exact .base (.lst (e _ _ hp))
  | lv us ds => cases h; obtain ⟨p, rfl, hp, _⟩ := r; exact .base (.lst (e _ _ hp))
  | _ => cases h
theorem pd_isi {X : Cx} {δ : De} {μ : Me} {a b : Expr} {p pos : Pos} {d : D} {t ty : String} {r : Bool} (hg : Gl X "isinstance") (hm : X.mg "isinstance" = none) (ha : PE X a (tD X.K δ μ d)) (hb : PE X b (tC (.ty ty))) (ht : tyOf d = some t) (hk : kitB t ty = some r)
    (hst : starEach [a, b] X.env = (false, eval a X.env) :: starEach [b] X.env := by rfl) (hst2 : starEach [b] X.env = (false, eval b X.env) :: starEach [] X.env := by rfl) (hpl : (backTo pos (starEach [b] X.env)).any (·.1) = false := by rfl) :
    PE X (.Call (.Name "isinstance" p) [a, b] [] pos) (tD X.K δ μ (.bl r)) :=
  PE.mono (pe_callB call_isi hg hm boot_isinst (pa_cons ha (pa_cons hb pa_nil hst2) hst) (by decide +kernel) (by decide +kernel) hst hpl) fun σ H Q ⟨F, S, k⟩ => ⟨F, S, fun v F1 H1 g r1 =>
    ⟨v, .ty ty, .type t, .type ty, r, rfl, .ty ty, rep_ty g.fh r1 ht, kit_ty hk, k _ F1 H1 g rfl⟩⟩
theorem kit_int_int : kitB "int" "int" = some true := by decide +kernel
theorem kit_int_bool : kitB "int" "bool" = some false := by decide +kernel
theorem kit_int_tuple : kitB "int" "tuple" = some false := by decide +kernel
theorem kit_int_list : kitB "int" "list" = some false := by decide +kernel
theorem kit_bool_int : kitB "bool" "int" = some true := by decide +kernel
theorem kit_bool_bool : kitB "bool" "bool" = some true := by decide +kernel
theorem kit_bool_tuple : kitB "bool" "tuple" = some false := by decide +kernel
theorem kit_bool_list : kitB "bool" "list" = some false := by decide +kernel
theorem kit_tuple_int : kitB "tuple" "int" = some false := by decide +kernel
theorem kit_tuple_bool : kitB "tuple" "bool" = some false := by decide +kernel
theorem kit_tuple_tuple : kitB "tuple" "tuple" = some true := by decide +kernel
theorem kit_tuple_list : kitB "tuple" "list" = some false := by decide +kernel
theorem kit_list_int : kitB "list" "int" = some false := by decide +kernel
theorem kit_list_bool : kitB "list" "bool" = some false := by decide +kernel
theorem kit_list_tuple : kitB "list" "tuple" = some false := by decide +kernel
theorem kit_list_list : kitB "list" "list" = some true := by decide +kernel
theorem kit_NoneType_int : kitB "NoneType" "int" = some false := by decide +kernel
theorem kit_NoneType_bool : kitB "NoneType" "bool" = some false := by decide +kernel
theorem kit_NoneType_tuple : kitB "NoneType" "tuple" = some false := by decide +kernel
theorem kit_NoneType_list : kitB "NoneType" "list" = some false := by decide +kernel
def R_yes1 : List D → Except Value D → Prop := fun ds r => ∃ t : Int, ds = [.int t] ∧ r = .ok (.bl true)
theorem cdivw {n : Nat} {i j : Int} (h : 0 < j) (g : Bd n j) (l : Nat.blt 0 n = true) (l2 : Nat.ble n 9000 = true) : CDivW i j := wide_div h g (Nat.le_of_ble_eq_true l) (Nat.le_of_ble_eq_true l2)
theorem bd_emod {n : Nat} {x m : Int} (g : Bd n m) (h : 0 < m) : Bd n (x % m) := by
  have h1 := Int.emod_nonneg x (show m ≠ 0 by omega)
  have h2 := Int.emod_lt_of_pos x h
  exact Bd.le (by omega) g
theorem numOf_bd {n m : Nat} (h : Nat.ble (10 ^ n) (2 ^ m) = true) (h2 : 6 ≤ m) (c : Int) : Bd m (numOf n c) := by
  have h3 := Nat.le_of_ble_eq_true h
  unfold numOf
  split
  · have e1 : (0 : Int) < 10 ^ n := Int.pow_pos (by decide)
    have a1 := Int.emod_nonneg (c / 8) (show (10 : Int) ^ n ≠ 0 by omega)
    have a2 := Int.emod_lt_of_pos (c / 8) e1
    have e2 : ((10 ^ n : Nat) : Int) = 10 ^ n := by simp
    generalize hy : c / 8 % 10 ^ n = y at *
    have h4 : y.natAbs < 2 ^ m := by omega
    rcases Int.emod_two_eq (c / 4) with z | z
    · rw [z]; unfold Bd; rw [show y * (1 - 2 * 0) = y by omega]; exact h4
    · rw [z]; unfold Bd; rw [show y * (1 - 2 * 1) = -y by omega, Int.natAbs_neg]; exact h4
  · have : 2 ^ 6 ≤ 2 ^ m := Nat.pow_le_pow_right (by decide) h2
    unfold Bd
    omega

/-! sums and differences of fractions, comparisons -/
def R_plus : List D → Except Value D → Prop := fun ds r => ∃ a b c d : Int, ds = [.tup [.int a, .int b], .tup [.int c, .int d]] ∧ b ≠ 0 ∧ d ≠ 0 ∧ Bd 20000 a ∧ Bd 4400 b ∧ Bd 20000 c ∧ Bd 4400 d ∧ r = .ok (frD (a * d + c * b) (b * d))
def R_minus : List D → Except Value D → Prop := fun ds r => ∃ a b c d : Int, ds = [.tup [.int a, .int b], .tup [.int c, .int d]] ∧ b ≠ 0 ∧ d ≠ 0 ∧ Bd 20000 a ∧ Bd 4400 b ∧ Bd 20000 c ∧ Bd 4400 d ∧ r = .ok (frD (a * d - c * b) (b * d))
def R_under : List D → Except Value D → Prop := fun ds r => ∃ a b c d : Int, ds = [.tup [.int a, .int b], .tup [.int c, .int d]] ∧ Bd 20000 a ∧ Bd 20000 b ∧ Bd 20000 c ∧ Bd 20000 d ∧ r = .ok (.bl (decide (a * d < c * b)))
/-- the law's worth: a fraction in lowest terms, crosswise so much -/
def R_worth : List D → Except Value D → Prop := fun ds r => ∃ t b T B : Int, ds = [.tup [.int t, .int b], .int T, .int B] ∧ 1 ≤ b ∧ Int.gcd t b = 1 ∧ Bd 40000 t ∧ Bd 40000 b ∧ Bd 40000 T ∧ Bd 40000 B ∧ t * B = T * b ∧ r = .ok (.bl true)
def btm30 (c : Int) : Int := if c % 3 = 0 then 1 + c / 3 % 10 ^ 60 else 1 + c / 3 % 30
theorem btm30_pos (c : Int) : 0 < btm30 c := by
  have := Int.emod_nonneg (c / 3) (show (10 : Int) ^ 60 ≠ 0 by decide)
  unfold btm30
  split <;> omega
theorem btm30_bd (c : Int) : Bd 201 (btm30 c) := by
  unfold btm30
  split
  · exact (Bd.add (Bd.lit (x := 1) (a := 64) rfl) (bd_mod (n := 200) (by decide) (by exact rfl))).mono (by decide)
  · exact (Bd.add (Bd.lit (x := 1) (a := 64) rfl) (bd_mod (n := 12) (by decide) (by exact rfl))).mono (by decide)
def R_fracby : List D → Except Value D → Prop := fun ds r => ∃ a b : Int, ds = [.int a, .int b] ∧ r = .ok (frD (numOf 60 a) (btm30 b))
theorem by_pos {t b : Int} (h : 0 < b) : byI t b = gcdI t b := if_neg (by omega)
theorem gcdI_bd {n : Nat} {t b : Int} (h : b ≠ 0) (g : Bd n b) : Bd n (gcdI t b) := Bd.le (gcdI_le h) g
theorem fdiv_pos {t j : Int} (h : 0 < j) : t.fdiv j = t / j := Int.fdiv_eq_ediv_of_nonneg t (by omega)
theorem frT_ed {t b : Int} (h : 0 < b) : frT t b = t / gcdI t b := by
  unfold frT
  rw [by_pos h, fdiv_pos (gcdI_pos (by omega))]
theorem frB_ed {t b : Int} (h : 0 < b) : frB t b = b / gcdI t b := by
  unfold frB
  rw [by_pos h, fdiv_pos (gcdI_pos (by omega))]

/-! loads -/
abbrev wD (cs : Cs) (a n : Int) : D := .ins cs.Weight ["place", "size"] [.int a, .int n]
abbrev sD (cs : Cs) (a b n : Int) : D := .ins cs.Spread ["start", "end", "each"] [.int a, .int b, .int n]
def ldD (cs : Cs) (w : Row) : D := if w.a = w.b then wD cs w.a w.n else sD cs w.a w.b w.n
theorem ldW {cs : Cs} {a n : Int} : wD cs a n = ldD cs ⟨a, a, n⟩ := (if_pos rfl).symm
theorem ldS {cs : Cs} {a b n : Int} (h : a < b) : sD cs a b n = ldD cs ⟨a, b, n⟩ := (if_neg (show ¬ a = b by omega)).symm
def Bw (w : Row) : Prop := w.a ≤ w.b ∧ Bd 210 w.a ∧ Bd 210 w.b ∧ Bd 300 w.n
abbrev isW (w : Row) : Prop := w.a = w.b
abbrev isS (w : Row) : Prop := w.a ≠ w.b
def R_total (cs : Cs) (q : Row → Prop) : List D → Except Value D → Prop := fun ds r => ∃ w, q w ∧ Bw w ∧ ds = [ldD cs w] ∧ r = .ok (.int (tot w))
def R_ends (cs : Cs) (q : Row → Prop) : List D → Except Value D → Prop := fun ds r => ∃ w, q w ∧ Bw w ∧ ds = [ldD cs w] ∧ r = .ok (.tup [.int w.a, .int w.b])
def R_left_part (cs : Cs) (q : Row → Prop) : List D → Except Value D → Prop := fun ds r => ∃ (w : Row) (t d : Int), q w ∧ Bw w ∧ Bd 3000 t ∧ Bd 3000 d ∧ ds = [ldD cs w, .int t, .int d] ∧ r = .ok (.int (lft w t d))
def R_right_part (cs : Cs) (q : Row → Prop) : List D → Except Value D → Prop := fun ds r => ∃ (w : Row) (t d : Int), q w ∧ Bw w ∧ Bd 3000 t ∧ Bd 3000 d ∧ ds = [ldD cs w, .int t, .int d] ∧ r = .ok (.int (rgt w t d))
def R_left_weight (cs : Cs) (q : Row → Prop) : List D → Except Value D → Prop := fun ds r => ∃ (w : Row) (t d : Int), q w ∧ Bw w ∧ Bd 3000 t ∧ Bd 3000 d ∧ ds = [ldD cs w, .int t, .int d] ∧ r = .ok (.int (lw w t d))
def R_thickness (cs : Cs) (q : Row → Prop) : List D → Except Value D → Prop := fun ds r => ∃ (w : Row) (t d : Int), q w ∧ Bw w ∧ Bd 3000 t ∧ Bd 3000 d ∧ ds = [ldD cs w, .int t, .int d] ∧ r = .ok (.int (thk w t d))
def R_from_left (cs : Cs) : List D → Except Value D → Prop := fun ds r => ∃ (w : Row) (t d : Int), Bw w ∧ Bd 420 t ∧ Bd 420 d ∧ d ≠ 0 ∧ ds = [ldD cs w, .tup [.int t, .int d]] ∧ r = .ok (frD (lft w t d) (2 * d * d))
def R_from_right (cs : Cs) : List D → Except Value D → Prop := fun ds r => ∃ (w : Row) (t d : Int), Bw w ∧ Bd 420 t ∧ Bd 420 d ∧ d ≠ 0 ∧ ds = [ldD cs w, .tup [.int t, .int d]] ∧ r = .ok (frD (rgt w t d) (2 * d * d))
def R_about (cs : Cs) : List D → Except Value D → Prop := fun ds r => ∃ (w : Row) (t d : Int), Bw w ∧ Bd 420 t ∧ Bd 420 d ∧ d ≠ 0 ∧ ds = [ldD cs w, .tup [.int t, .int d]] ∧ r = .ok (frD (rgt w t d - lft w t d) (2 * d * d))
def R_Winit : List D → Except Value (List D) → Prop := fun ds r => ∃ a n : Int, ds = [.int a, .int n] ∧ r = .ok [.int a, .int n]
def R_Sinit (cs : Cs) : List D → Except Value (List D) → Prop := fun ds r => ∃ a b n : Int, ds = [.int a, .int b, .int n] ∧ ((b ≤ a ∧ r = .error (.ref cs.NoLoad)) ∨ (a < b ∧ r = .ok [.int a, .int b, .int n]))
theorem pd_methL {X : Cx} {δ : De} {μ : Me} {e o : Expr} {es : List Expr} {pos apos : Pos} {m : Str} {k k2 j : Nat} {ps ps2 : List Str} {R1 R2 : List D → Except Value D → Prop} {ds : List D} {d : D} {cs : Cs} {w : Row}
    (c1 : CalM X.prog X.w X.K X.mg X.base cs.Weight m k ps R1) (c2 : CalM X.prog X.w X.K X.mg X.base cs.Spread m k2 ps2 R2) (ho : PE X o (tD X.K δ μ (ldD cs w))) (hr : Room j X.A) (hk : k ≤ j) (hk2 : k2 ≤ j) (ha : PA X (e :: es) (tAs X.K δ μ ds))
    (hn : (["place", "size"] : List Str).contains m = false) (hn2 : (["start", "end", "each"] : List Str).contains m = false) (h1 : w.a = w.b → R1 (ldD cs w :: ds) (.ok d)) (h2 : w.a ≠ w.b → R2 (ldD cs w :: ds) (.ok d)) {pl : Sem Bool}
    (hst : starEach (e :: es) X.env = (false, eval e X.env) :: starEach es X.env := by rfl) (hpl : (backTo pos (starEach es X.env)).any (·.1) = false := by rfl)
    (ht : eval (.Call (.Attribute o m apos) (e :: es) [] pos) X.env = (do
      let ov ← eval o X.env
      standAt apos.atName
      let (f, first) ← holding [ov] (getMethod ov m pl)
      callWith pos f first (backTo pos (starEach (e :: es) X.env)) (backToKw pos (keywordEach [] X.env))) := by rfl) :
    PE X (.Call (.Attribute o m apos) (e :: es) [] pos) (tD X.K δ μ d) := by
  by_cases h : w.a = w.b
  · have q := h1 h
    have e1 : ldD cs w = wD cs w.a w.n := if_pos h
    rw [e1] at q ho
    exact pd_meth c1 ho hr hk ha hn q hst hpl ht
  · have q := h2 h
    have e1 : ldD cs w = sD cs w.a w.b w.n := if_neg h
    rw [e1] at q ho
    exact pd_meth c2 ho hr hk2 ha hn2 q hst hpl ht
theorem pd_methL0 {X : Cx} {δ : De} {μ : Me} {o : Expr} {pos apos : Pos} {m : Str} {k k2 j : Nat} {ps ps2 : List Str} {R1 R2 : List D → Except Value D → Prop} {d : D} {cs : Cs} {w : Row}
    (c1 : CalM X.prog X.w X.K X.mg X.base cs.Weight m k ps R1) (c2 : CalM X.prog X.w X.K X.mg X.base cs.Spread m k2 ps2 R2) (ho : PE X o (tD X.K δ μ (ldD cs w))) (hr : Room j X.A) (hk : k ≤ j) (hk2 : k2 ≤ j)
    (hn : (["place", "size"] : List Str).contains m = false) (hn2 : (["start", "end", "each"] : List Str).contains m = false) (h1 : w.a = w.b → R1 [ldD cs w] (.ok d)) (h2 : w.a ≠ w.b → R2 [ldD cs w] (.ok d)) {pl : Sem Bool}
    (ht : eval (.Call (.Attribute o m apos) [] [] pos) X.env = (do
      let ov ← eval o X.env
      standAt apos.atName
      let (f, first) ← holding [ov] (getMethod ov m pl)
      callWith pos f first (backTo pos (starEach [] X.env)) (backToKw pos (keywordEach [] X.env))) := by rfl) :
    PE X (.Call (.Attribute o m apos) [] [] pos) (tD X.K δ μ d) := by
  by_cases h : w.a = w.b
  · have q := h1 h
    have e1 : ldD cs w = wD cs w.a w.n := if_pos h
    rw [e1] at q ho
    exact pd_meth0 c1 ho hr hk hn q ht
  · have q := h2 h
    have e1 : ldD cs w = sD cs w.a w.b w.n := if_neg h
    rw [e1] at q ho
    exact pd_meth0 c2 ho hr hk2 hn2 q ht
theorem pm_left_part {X : Cx} {δ : De} {μ : Me} {e o : Expr} {es : List Expr} {pos apos : Pos} {k k2 j : Nat} {ps ps2 : List Str} {t d : Int} {cs : Cs} {w : Row}
    (c1 : CalM X.prog X.w X.K X.mg X.base cs.Weight "left_part" k ps (R_left_part cs isW)) (c2 : CalM X.prog X.w X.K X.mg X.base cs.Spread "left_part" k2 ps2 (R_left_part cs isS)) (ho : PE X o (tD X.K δ μ (ldD cs w))) (hr : Room j X.A) (hk : k ≤ j) (hk2 : k2 ≤ j) (ha : PA X (e :: es) (tAs X.K δ μ [.int t, .int d]))
    (hw : Bw w) (ht : Bd 3000 t) (hd : Bd 3000 d) {pl : Sem Bool}
    (hst : starEach (e :: es) X.env = (false, eval e X.env) :: starEach es X.env := by rfl) (hpl : (backTo pos (starEach es X.env)).any (·.1) = false := by rfl)
    (hT : eval (.Call (.Attribute o "left_part" apos) (e :: es) [] pos) X.env = (do
      let ov ← eval o X.env
      standAt apos.atName
      let (f, first) ← holding [ov] (getMethod ov "left_part" pl)
      callWith pos f first (backTo pos (starEach (e :: es) X.env)) (backToKw pos (keywordEach [] X.env))) := by rfl) :
    PE X (.Call (.Attribute o "left_part" apos) (e :: es) [] pos) (tD X.K δ μ (.int (lft w t d))) :=
  pd_methL c1 c2 ho hr hk hk2 ha rfl rfl (fun h => ⟨w, t, d, h, hw, ht, hd, rfl, rfl⟩) (fun h => ⟨w, t, d, h, hw, ht, hd, rfl, rfl⟩) hst hpl hT
theorem pm_right_part {X : Cx} {δ : De} {μ : Me} {e o : Expr} {es : List Expr} {pos apos : Pos} {k k2 j : Nat} {ps ps2 : List Str} {t d : Int} {cs : Cs} {w : Row}
    (c1 : CalM X.prog X.w X.K X.mg X.base cs.Weight "right_part" k ps (R_right_part cs isW)) (c2 : CalM X.prog X.w X.K X.mg X.base cs.Spread "right_part" k2 ps2 (R_right_part cs isS)) (ho : PE X o (tD X.K δ μ (ldD cs w))) (hr : Room j X.A) (hk : k ≤ j) (hk2 : k2 ≤ j) (ha : PA X (e :: es) (tAs X.K δ μ [.int t, .int d]))
    (hw : Bw w) (ht : Bd 3000 t) (hd : Bd 3000 d) {pl : Sem Bool}
    (hst : starEach (e :: es) X.env = (false, eval e X.env) :: starEach es X.env := by rfl) (hpl : (backTo pos (starEach es X.env)).any (·.1) = false := by rfl)
    (hT : eval (.Call (.Attribute o "right_part" apos) (e :: es) [] pos) X.env = (do
      let ov ← eval o X.env
      standAt apos.atName
      let (f, first) ← holding [ov] (getMethod ov "right_part" pl)
      callWith pos f first (backTo pos (starEach (e :: es) X.env)) (backToKw pos (keywordEach [] X.env))) := by rfl) :
    PE X (.Call (.Attribute o "right_part" apos) (e :: es) [] pos) (tD X.K δ μ (.int (rgt w t d))) :=
  pd_methL c1 c2 ho hr hk hk2 ha rfl rfl (fun h => ⟨w, t, d, h, hw, ht, hd, rfl, rfl⟩) (fun h => ⟨w, t, d, h, hw, ht, hd, rfl, rfl⟩) hst hpl hT
theorem pm_left_weight {X : Cx} {δ : De} {μ : Me} {e o : Expr} {es : List Expr} {pos apos : Pos} {k k2 j : Nat} {ps ps2 : List Str} {t d : Int} {cs : Cs} {w : Row}
    (c1 : CalM X.prog X.w X.K X.mg X.base cs.Weight "left_weight" k ps (R_left_weight cs isW)) (c2 : CalM X.prog X.w X.K X.mg X.base cs.Spread "left_weight" k2 ps2 (R_left_weight cs isS)) (ho : PE X o (tD X.K δ μ (ldD cs w))) (hr : Room j X.A) (hk : k ≤ j) (hk2 : k2 ≤ j) (ha : PA X (e :: es) (tAs X.K δ μ [.int t, .int d]))
    (hw : Bw w) (ht : Bd 3000 t) (hd : Bd 3000 d) {pl : Sem Bool}
    (hst : starEach (e :: es) X.env = (false, eval e X.env) :: starEach es X.env := by rfl) (hpl : (backTo pos (starEach es X.env)).any (·.1) = false := by rfl)
    (hT : eval (.Call (.Attribute o "left_weight" apos) (e :: es) [] pos) X.env = (do
      let ov ← eval o X.env
      standAt apos.atName
      let (f, first) ← holding [ov] (getMethod ov "left_weight" pl)
      callWith pos f first (backTo pos (starEach (e :: es) X.env)) (backToKw pos (keywordEach [] X.env))) := by rfl) :
    PE X (.Call (.Attribute o "left_weight" apos) (e :: es) [] pos) (tD X.K δ μ (.int (lw w t d))) :=
  pd_methL c1 c2 ho hr hk hk2 ha rfl rfl (fun h => ⟨w, t, d, h, hw, ht, hd, rfl, rfl⟩) (fun h => ⟨w, t, d, h, hw, ht, hd, rfl, rfl⟩) hst hpl hT
theorem pm_thickness {X : Cx} {δ : De} {μ : Me} {e o : Expr} {es : List Expr} {pos apos : Pos} {k k2 j : Nat} {ps ps2 : List Str} {t d : Int} {cs : Cs} {w : Row}
    (c1 : CalM X.prog X.w X.K X.mg X.base cs.Weight "thickness" k ps (R_thickness cs isW)) (c2 : CalM X.prog X.w X.K X.mg X.base cs.Spread "thickness" k2 ps2 (R_thickness cs isS)) (ho : PE X o (tD X.K δ μ (ldD cs w))) (hr : Room j X.A) (hk : k ≤ j) (hk2 : k2 ≤ j) (ha : PA X (e :: es) (tAs X.K δ μ [.int t, .int d]))
    (hw : Bw w) (ht : Bd 3000 t) (hd : Bd 3000 d) {pl : Sem Bool}
    (hst : starEach (e :: es) X.env = (false, eval e X.env) :: starEach es X.env := by rfl) (hpl : (backTo pos (starEach es X.env)).any (·.1) = false := by rfl)
    (hT : eval (.Call (.Attribute o "thickness" apos) (e :: es) [] pos) X.env = (do
      let ov ← eval o X.env
      standAt apos.atName
      let (f, first) ← holding [ov] (getMethod ov "thickness" pl)
      callWith pos f first (backTo pos (starEach (e :: es) X.env)) (backToKw pos (keywordEach [] X.env))) := by rfl) :
    PE X (.Call (.Attribute o "thickness" apos) (e :: es) [] pos) (tD X.K δ μ (.int (thk w t d))) :=
  pd_methL c1 c2 ho hr hk hk2 ha rfl rfl (fun h => ⟨w, t, d, h, hw, ht, hd, rfl, rfl⟩) (fun h => ⟨w, t, d, h, hw, ht, hd, rfl, rfl⟩) hst hpl hT
theorem pm_from_left {X : Cx} {δ : De} {μ : Me} {e o : Expr} {es : List Expr} {pos apos : Pos} {k k2 j : Nat} {ps ps2 : List Str} {t d : Int} {cs : Cs} {w : Row}
    (c1 : CalM X.prog X.w X.K X.mg X.base cs.Weight "from_left" k ps (R_from_left cs)) (c2 : CalM X.prog X.w X.K X.mg X.base cs.Spread "from_left" k2 ps2 (R_from_left cs)) (ho : PE X o (tD X.K δ μ (ldD cs w))) (hr : Room j X.A) (hk : k ≤ j) (hk2 : k2 ≤ j) (ha : PA X (e :: es) (tAs X.K δ μ [.tup [.int t, .int d]]))
    (hw : Bw w) (ht : Bd 420 t) (hd : Bd 420 d) (hz : d ≠ 0) {pl : Sem Bool}
    (hst : starEach (e :: es) X.env = (false, eval e X.env) :: starEach es X.env := by rfl) (hpl : (backTo pos (starEach es X.env)).any (·.1) = false := by rfl)
    (hT : eval (.Call (.Attribute o "from_left" apos) (e :: es) [] pos) X.env = (do
      let ov ← eval o X.env
      standAt apos.atName
      let (f, first) ← holding [ov] (getMethod ov "from_left" pl)
      callWith pos f first (backTo pos (starEach (e :: es) X.env)) (backToKw pos (keywordEach [] X.env))) := by rfl) :
    PE X (.Call (.Attribute o "from_left" apos) (e :: es) [] pos) (tD X.K δ μ (frD (lft w t d) (2 * d * d))) :=
  pd_methL c1 c2 ho hr hk hk2 ha rfl rfl (fun h => ⟨w, t, d, hw, ht, hd, hz, rfl, rfl⟩) (fun h => ⟨w, t, d, hw, ht, hd, hz, rfl, rfl⟩) hst hpl hT
theorem pm_from_right {X : Cx} {δ : De} {μ : Me} {e o : Expr} {es : List Expr} {pos apos : Pos} {k k2 j : Nat} {ps ps2 : List Str} {t d : Int} {cs : Cs} {w : Row}
    (c1 : CalM X.prog X.w X.K X.mg X.base cs.Weight "from_right" k ps (R_from_right cs)) (c2 : CalM X.prog X.w X.K X.mg X.base cs.Spread "from_right" k2 ps2 (R_from_right cs)) (ho : PE X o (tD X.K δ μ (ldD cs w))) (hr : Room j X.A) (hk : k ≤ j) (hk2 : k2 ≤ j) (ha : PA X (e :: es) (tAs X.K δ μ [.tup [.int t, .int d]]))
    (hw : Bw w) (ht : Bd 420 t) (hd : Bd 420 d) (hz : d ≠ 0) {pl : Sem Bool}
    (hst : starEach (e :: es) X.env = (false, eval e X.env) :: starEach es X.env := by rfl) (hpl : (backTo pos (starEach es X.env)).any (·.1) = false := by rfl)
    (hT : eval (.Call (.Attribute o "from_right" apos) (e :: es) [] pos) X.env = (do
      let ov ← eval o X.env
      standAt apos.atName
      let (f, first) ← holding [ov] (getMethod ov "from_right" pl)
      callWith pos f first (backTo pos (starEach (e :: es) X.env)) (backToKw pos (keywordEach [] X.env))) := by rfl) :
    PE X (.Call (.Attribute o "from_right" apos) (e :: es) [] pos) (tD X.K δ μ (frD (rgt w t d) (2 * d * d))) :=
  pd_methL c1 c2 ho hr hk hk2 ha rfl rfl (fun h => ⟨w, t, d, hw, ht, hd, hz, rfl, rfl⟩) (fun h => ⟨w, t, d, hw, ht, hd, hz, rfl, rfl⟩) hst hpl hT
theorem pm_about {X : Cx} {δ : De} {μ : Me} {e o : Expr} {es : List Expr} {pos apos : Pos} {k k2 j : Nat} {ps ps2 : List Str} {t d : Int} {cs : Cs} {w : Row}
    (c1 : CalM X.prog X.w X.K X.mg X.base cs.Weight "about" k ps (R_about cs)) (c2 : CalM X.prog X.w X.K X.mg X.base cs.Spread "about" k2 ps2 (R_about cs)) (ho : PE X o (tD X.K δ μ (ldD cs w))) (hr : Room j X.A) (hk : k ≤ j) (hk2 : k2 ≤ j) (ha : PA X (e :: es) (tAs X.K δ μ [.tup [.int t, .int d]]))
    (hw : Bw w) (ht : Bd 420 t) (hd : Bd 420 d) (hz : d ≠ 0) {pl : Sem Bool}
    (hst : starEach (e :: es) X.env = (false, eval e X.env) :: starEach es X.env := by rfl) (hpl : (backTo pos (starEach es X.env)).any (·.1) = false := by rfl)
    (hT : eval (.Call (.Attribute o "about" apos) (e :: es) [] pos) X.env = (do
      let ov ← eval o X.env
      standAt apos.atName
      let (f, first) ← holding [ov] (getMethod ov "about" pl)
      callWith pos f first (backTo pos (starEach (e :: es) X.env)) (backToKw pos (keywordEach [] X.env))) := by rfl) :
    PE X (.Call (.Attribute o "about" apos) (e :: es) [] pos) (tD X.K δ μ (frD (rgt w t d - lft w t d) (2 * d * d))) :=
  pd_methL c1 c2 ho hr hk hk2 ha rfl rfl (fun h => ⟨w, t, d, hw, ht, hd, hz, rfl, rfl⟩) (fun h => ⟨w, t, d, hw, ht, hd, hz, rfl, rfl⟩) hst hpl hT
theorem pm_total {X : Cx} {δ : De} {μ : Me} {o : Expr} {pos apos : Pos} {k k2 j : Nat} {ps ps2 : List Str} {cs : Cs} {w : Row}
    (c1 : CalM X.prog X.w X.K X.mg X.base cs.Weight "total" k ps (R_total cs isW)) (c2 : CalM X.prog X.w X.K X.mg X.base cs.Spread "total" k2 ps2 (R_total cs isS)) (ho : PE X o (tD X.K δ μ (ldD cs w))) (hr : Room j X.A) (hk : k ≤ j) (hk2 : k2 ≤ j)
    (hw : Bw w) {pl : Sem Bool}
    (hT : eval (.Call (.Attribute o "total" apos) [] [] pos) X.env = (do
      let ov ← eval o X.env
      standAt apos.atName
      let (f, first) ← holding [ov] (getMethod ov "total" pl)
      callWith pos f first (backTo pos (starEach [] X.env)) (backToKw pos (keywordEach [] X.env))) := by rfl) :
    PE X (.Call (.Attribute o "total" apos) [] [] pos) (tD X.K δ μ (.int (tot w))) :=
  pd_methL0 c1 c2 ho hr hk hk2 rfl rfl (fun h => ⟨w, h, hw, rfl, rfl⟩) (fun h => ⟨w, h, hw, rfl, rfl⟩) hT
theorem pm_ends {X : Cx} {δ : De} {μ : Me} {o : Expr} {pos apos : Pos} {k k2 j : Nat} {ps ps2 : List Str} {cs : Cs} {w : Row}
    (c1 : CalM X.prog X.w X.K X.mg X.base cs.Weight "ends" k ps (R_ends cs isW)) (c2 : CalM X.prog X.w X.K X.mg X.base cs.Spread "ends" k2 ps2 (R_ends cs isS)) (ho : PE X o (tD X.K δ μ (ldD cs w))) (hr : Room j X.A) (hk : k ≤ j) (hk2 : k2 ≤ j)
    (hw : Bw w) {pl : Sem Bool}
    (hT : eval (.Call (.Attribute o "ends" apos) [] [] pos) X.env = (do
      let ov ← eval o X.env
      standAt apos.atName
      let (f, first) ← holding [ov] (getMethod ov "ends" pl)
      callWith pos f first (backTo pos (starEach [] X.env)) (backToKw pos (keywordEach [] X.env))) := by rfl) :
    PE X (.Call (.Attribute o "ends" apos) [] [] pos) (tD X.K δ μ (.tup [.int w.a, .int w.b])) :=
  pd_methL0 c1 c2 ho hr hk hk2 rfl rfl (fun h => ⟨w, h, hw, rfl, rfl⟩) (fun h => ⟨w, h, hw, rfl, rfl⟩) hT
theorem pz_bd {n : Nat} {x : Int} (h : Bd n x) : Bd n (pz x) := by
  unfold Bd at *
  unfold pz
  split
  · exact h
  · have : 0 < 2 ^ n := Nat.pow_pos (by decide)
    simpa using this
theorem lft_bd {p m : Nat} {w : Row} {t d : Int} (hw : Bw w) (ht : Bd p t) (hd : Bd p d) (hm : 2 * p + 730 ≤ m) : Bd m (lft w t d) := by
  obtain ⟨_, ba, bb, bn⟩ := hw
  have e : max p (210 + p) + 1 = p + 211 := by omega
  have z1 : Bd (p + 211) (pz (t - w.a * d)) := pz_bd (e ▸ ht.sub (ba.mul hd))
  have z2 : Bd (p + 211) (pz (t - w.b * d)) := pz_bd (e ▸ ht.sub (bb.mul hd))
  unfold lft
  split
  · refine Bd.mono ((((Bd.lit (x := 2) (a := 2) rfl).mul hd).mul bn).mul z1) ?_
    omega
  · refine Bd.mono (bn.mul ((z1.mul z1).sub (z2.mul z2))) ?_
    omega
theorem rgt_bd {p m : Nat} {w : Row} {t d : Int} (hw : Bw w) (ht : Bd p t) (hd : Bd p d) (hm : 2 * p + 730 ≤ m) : Bd m (rgt w t d) := by
  obtain ⟨_, ba, bb, bn⟩ := hw
  have e : max (210 + p) p + 1 = p + 211 := by omega
  have z1 : Bd (p + 211) (pz (w.a * d - t)) := pz_bd (e ▸ (ba.mul hd).sub ht)
  have z2 : Bd (p + 211) (pz (w.b * d - t)) := pz_bd (e ▸ (bb.mul hd).sub ht)
  unfold rgt
  split
  · refine Bd.mono ((((Bd.lit (x := 2) (a := 2) rfl).mul hd).mul bn).mul z1) ?_
    omega
  · refine Bd.mono (bn.mul ((z2.mul z2).sub (z1.mul z1))) ?_
    omega
theorem tot_bd {w : Row} (hw : Bw w) : Bd 511 (tot w) := by
  obtain ⟨_, ba, bb, bn⟩ := hw
  unfold tot
  split
  · exact bn.mono (by decide)
  · exact (bn.mul (bb.sub ba)).mono (by decide)
theorem fr_worth {t b T B : Int} (hb : b ≠ 0) (h : t * B = T * b) : frT t b * B = T * frB t b := by
  have h1 := fr_cross (t := t) hb
  have : (frT t b * B - T * frB t b) * b = 0 := by grind
  rcases Int.mul_eq_zero.mp this with z | z
  · omega
  · exact absurd z hb
/-- the difference of two fractions with one bottom -/
theorem fr_minus {x y b : Int} (hb : b ≠ 0) : frT (frT x b * frB y b - frT y b * frB x b) (frB x b * frB y b) = frT (x - y) b ∧ frB (frT x b * frB y b - frT y b * frB x b) (frB x b * frB y b) = frB (x - y) b := by
  have h1 := fr_cross (t := x) hb
  have h2 := fr_cross (t := y) hb
  have p1 := frB_pos (t := x) hb
  have p2 := frB_pos (t := y) hb
  refine fr_uniq (Int.mul_ne_zero (by omega) (by omega)) hb ?_
  grind
def R_lowest : List D → Except Value D → Prop := fun ds r => ∃ t b : Int, ds = [.int t, .int b] ∧ 0 < b ∧ Bd 4400 b ∧ r = .ok (frD t b)

/-! beams -/
def bmD (cs : Cs) (L : Int) (ρ : List Int) : D := .ins cs.Beam ["length", "rests"] [.int L, .tup (ρ.map D.int)]
def chk (b L : Int) : List Int → Bool
  | [] => true
  | x :: t => decide (b < x) && decide (x ≤ L) && chk x L t
def isBm (L : Int) (ρ : List Int) : Bool := decide (1 ≤ L) && decide (2 ≤ ρ.length) && decide (ρ.length ≤ 3) && chk (-1) L ρ
/-- the number ahead of the i-th -/
def befL (b : Int) (ρ : List Int) : Nat → Int
  | 0 => b
  | i + 1 => ρ.getD i 0
theorem befL_get {b x : Int} {ρ : List Int} {i : Nat} (h : ρ[i]? = some x) : befL b ρ (i + 1) = x := by
  show ρ.getD i 0 = x
  rw [List.getD_eq_getElem?_getD, h]; rfl
theorem chk_iff (L : Int) : ∀ (ρ : List Int) (b : Int), chk b L ρ = true ↔ ∀ (i : Nat) (x : Int), ρ[i]? = some x → befL b ρ i < x ∧ x ≤ L
  | [], b => by simp [chk]
  | y :: t, b => by
    unfold chk
    rw [Bool.and_eq_true, Bool.and_eq_true, decide_eq_true_eq, decide_eq_true_eq, chk_iff L t y]
    constructor
    · rintro ⟨⟨h1, h2⟩, h3⟩ i x hx
      cases i with
      | zero =>
        have e : y = x := by simpa using hx
        subst e
        exact ⟨h1, h2⟩
      | succ i =>
        have hx' : t[i]? = some x := by simpa using hx
        have q := h3 i x hx'
        cases i with
        | zero => exact q
        | succ i => exact q
    · intro h
      refine ⟨h 0 y rfl, fun i x hx => ?_⟩
      have q := h (i + 1) x (by simpa using hx)
      cases i with
      | zero => exact q
      | succ i => exact q
theorem isBm_rs {L : Int} {ρ : List Int} (h : isBm L ρ = true) : Rs ρ ∧ 1 ≤ L ∧ ∀ x ∈ ρ, 0 ≤ x ∧ x ≤ L := by
  unfold isBm at h
  simp only [Bool.and_eq_true, decide_eq_true_eq] at h
  obtain ⟨⟨⟨h1, h2⟩, h3⟩, h4⟩ := h
  match ρ, h2, h3, h4 with
  | [p, q], _, _, h4 =>
    simp only [chk, Bool.and_eq_true, decide_eq_true_eq] at h4
    exact ⟨.two (by omega), h1, fun x hx => by simp at hx; omega⟩
  | [p, q, r], _, _, h4 =>
    simp only [chk, Bool.and_eq_true, decide_eq_true_eq] at h4
    exact ⟨.three (by omega) (by omega), h1, fun x hx => by simp at hx; omega⟩
def R_Binit (cs : Cs) : List D → Except Value (List D) → Prop := fun ds r => ∃ (L : Int) (ρ : List Int) (dl : D), seqL dl = some (ρ.map D.int) ∧ ds = [.int L, dl] ∧
  ((isBm L ρ = true ∧ r = .ok [.int L, .tup (ρ.map D.int)]) ∨ (isBm L ρ = false ∧ r = .error (.ref cs.NoBeam)))
def R_part_at : List D → Except Value D → Prop := fun ds r => ∃ i n f : Int, Bd 220 i ∧ Bd 220 n ∧ Bd 220 f ∧ ds = [.int i, .int n, .int f] ∧ r = .ok (.int (partAt i n f))
def R_sum_to : List D → Except Value D → Prop := fun ds r => ∃ i n f : Int, Bd 220 i ∧ Bd 220 n ∧ Bd 220 f ∧ ds = [.int i, .int n, .int f] ∧ r = .ok (.int (sumUp i n f))
def R_middle_part (cs : Cs) (q : Row → Prop) : List D → Except Value D → Prop := fun ds r => ∃ (w : Row) (a b c : Int), q w ∧ Bw w ∧ Bd 210 a ∧ Bd 210 b ∧ Bd 210 c ∧ ds = [ldD cs w, .tup [.int a, .int b, .int c]] ∧ r = .ok (.int (mid a b c w))
theorem partAt_bd {i n f : Int} (hi : Bd 220 i) (hn : Bd 220 n) (hf : Bd 220 f) : Bd 1100 (partAt i n f) := by
  unfold partAt
  split
  · exact Bd.mono (((hi.mul hn).mul hf).mul (hn.add ((Bd.lit (x := 2) (a := 2) rfl).mul hf))) (by decide)
  · exact Bd.mono ((hi.mul hf).mul (((hn.mul hn).add (((Bd.lit (x := 2) (a := 2) rfl).mul hn).mul hf)).sub (hi.mul hi))) (by decide)
theorem sumUp_bd {i n f : Int} (hi : Bd 220 i) (hn : Bd 220 n) (hf : Bd 220 f) : Bd 1200 (sumUp i n f) := by
  unfold sumUp
  split
  · exact Bd.mono ((((((Bd.lit (x := 2) (a := 2) rfl).mul hi).mul hi).mul hn).mul hf).mul (hn.add ((Bd.lit (x := 2) (a := 2) rfl).mul hf))) (by decide)
  · exact Bd.mono (((hi.mul hi).mul hf).mul (((((Bd.lit (x := 2) (a := 2) rfl).mul hn).mul hn).add (((Bd.lit (x := 4) (a := 3) rfl).mul hn).mul hf)).sub (hi.mul hi))) (by decide)
theorem mid_bd {p q r : Int} {w : Row} (hw : Bw w) (hp : Bd 210 p) (hq : Bd 210 q) (hr : Bd 210 r) : Bd 1600 (mid p q r w) := by
  obtain ⟨_, ba, bb, bn⟩ := hw
  have s : ∀ {x y : Int}, Bd 210 x → Bd 210 y → Bd 220 (x - y) := fun hx hy => (hx.sub hy).mono (by decide)
  have mn : ∀ {x y : Int}, Bd 210 x → Bd 210 y → Bd 210 (mnI x y) := fun hx hy => hx.imin hy
  have mx : ∀ {x y : Int}, Bd 210 x → Bd 210 y → Bd 210 (mxI x y) := fun hx hy => hx.imax hy
  unfold mid
  split
  · split
    · exact Bd.mono (((Bd.lit (x := 4) (a := 3) rfl).mul bn).mul (partAt_bd (s ba hp) (s hq hp) (s hr hq))) (by decide)
    · exact Bd.mono (((Bd.lit (x := 4) (a := 3) rfl).mul bn).mul (partAt_bd (s hr ba) (s hr hq) (s hq hp))) (by decide)
  · refine Bd.mono (bn.mul (((sumUp_bd (s (mn bb hq) hp) (s hq hp) (s hr hq)).sub (sumUp_bd (s (mn ba hq) hp) (s hq hp) (s hr hq))).add ((sumUp_bd (s hr (mx ba hq)) (s hr hq) (s hq hp)).sub (sumUp_bd (s hr (mx bb hq)) (s hr hq) (s hq hp))))) (by decide)
/-- a sum over few loads -/
theorem su_bd {n : Nat} {f : Row → Int} : ∀ {l : List Row} {k : Nat}, l.length ≤ 2 ^ k → (∀ w, w ∈ l → Bd n (f w)) → Bd (n + k) (su f l) := by
  intro l k hl h
  have key : ∀ l : List Row, (∀ w, w ∈ l → Bd n (f w)) → (su f l).natAbs ≤ l.length * (2 ^ n - 1) := by
    intro l
    induction l with
    | nil => intro _; simp [su_nil]
    | cons x l ih =>
      intro h
      have h1 := ih fun w hw => h w (by simp [hw])
      have h2 : (f x).natAbs < 2 ^ n := h x (by simp)
      rw [su_cons, List.length_cons, Nat.succ_mul]
      omega
  have h1 := key l h
  have h2 : l.length * (2 ^ n - 1) ≤ 2 ^ k * (2 ^ n - 1) := Nat.mul_le_mul_right _ hl
  have h3 : 0 < 2 ^ n := Nat.pow_pos (by decide)
  have h4 : 0 < 2 ^ k := Nat.pow_pos (by decide)
  have h5 : 2 ^ k * (2 ^ n - 1) < 2 ^ k * 2 ^ n := Nat.mul_lt_mul_of_pos_left (by omega) h4
  unfold Bd
  rw [Nat.pow_add, Nat.mul_comm (2 ^ n)]
  omega
/-- all loads are small; few of them -/
structure Ls (ls : List Row) : Prop where
  bw : ∀ w, w ∈ ls → Bw w
  len : ls.length ≤ 256
def Brs (ρ : List Int) : Prop := ∀ x, x ∈ ρ → Bd 210 x
theorem WW_bd {ls : List Row} (h : Ls ls) : Bd 520 (WW ls) := (su_bd (k := 8) h.len fun w hw => tot_bd (h.bw w hw)).mono (by decide)
theorem TT_bd {ls : List Row} {p : Int} (h : Ls ls) (hp : Bd 210 p) : Bd 1170 (TT p ls) :=
  (su_bd (k := 8) h.len fun w hw => (rgt_bd (h.bw w hw) hp (Bd.lit (x := 1) rfl) (Nat.le_refl _)).sub (lft_bd (h.bw w hw) hp (Bd.lit (x := 1) rfl) (Nat.le_refl _))).mono (by decide)
theorem mid_su_bd {ls : List Row} {p q r : Int} (h : Ls ls) (hp : Bd 210 p) (hq : Bd 210 q) (hr : Bd 210 r) : Bd 1610 (su (mid p q r) ls) := (su_bd (k := 8) h.len fun w hw => mid_bd (h.bw w hw) hp hq hr).mono (by decide)
theorem bot_bd {ρ : List Int} (hb : Brs ρ) : Bd 1070 (bot ρ) := by
  match ρ, hb with
  | [], _ => exact Bd.lit rfl
  | [_], _ => exact Bd.lit rfl
  | [p, q], hb =>
    have hp := hb p (by simp)
    have hq := hb q (by simp)
    exact ((Bd.lit (x := 2) (a := 2) rfl).mul (hq.sub hp)).mono (by decide)
  | [p, q, r], hb =>
    have hp := hb p (by simp)
    have hq := hb q (by simp)
    have hr := hb r (by simp)
    exact ((((((Bd.lit (x := 8) (a := 4) rfl).mul (hq.sub hp)).mul (hq.sub hp)).mul (hr.sub hq)).mul (hr.sub hq)).mul (hr.sub hp)).mono (by decide)
  | _ :: _ :: _ :: _ :: _, _ => exact Bd.lit rfl
theorem nums_bd {ρ : List Int} {ls : List Row} (hb : Brs ρ) (h : Ls ls) : ∀ x, x ∈ nums ρ ls → Bd 2040 x := by
  have hW := WW_bd h
  match ρ, hb with
  | [], _ => simp [nums]
  | [_], _ => simp [nums]
  | [p, q], hb =>
    have hp := hb p (by simp)
    have hq := hb q (by simp)
    have hT := TT_bd h hp
    intro x hx
    simp only [nums, List.mem_cons, List.not_mem_nil, or_false] at hx
    rcases hx with rfl | rfl
    · exact ((((Bd.lit (x := 2) (a := 2) rfl).mul (hq.sub hp)).mul hW).sub hT).mono (by decide)
    · exact hT.mono (by decide)
  | [p, q, r], hb =>
    have hp := hb p (by simp)
    have hq := hb q (by simp)
    have hr := hb r (by simp)
    have hT := TT_bd h hp
    have hM := mid_su_bd h hp hq hr
    have hB : Bd 1070 (8 * (q - p) * (q - p) * (r - q) * (r - q) * (r - p)) := ((((((Bd.lit (x := 8) (a := 4) rfl).mul (hq.sub hp)).mul (hq.sub hp)).mul (hr.sub hq)).mul (hr.sub hq)).mul (hr.sub hp)).mono (by decide)
    have hl := ((((((Bd.lit (x := 4) (a := 3) rfl).mul (hq.sub hp)).mul (hq.sub hp)).mul (hr.sub hq)).mul (hr.sub hq)).mul hT).sub (hM.mul (hq.sub hp))
    intro x hx
    simp only [nums, List.mem_cons, List.not_mem_nil, or_false] at hx
    rcases hx with rfl | rfl | rfl
    · exact (((hB.mul hW).sub (hM.mul (hr.sub hp))).sub hl).mono (by decide)
    · exact (hM.mul (hr.sub hp)).mono (by decide)
    · exact hl.mono (by decide)
  | _ :: _ :: _ :: _ :: _, _ => simp [nums]
/-- the load lies on the beam -/
def onB (L : Int) (w : Row) : Bool := decide (0 ≤ w.a) && decide (w.b ≤ L)
def parD (ρ : List Int) (ls : List Row) : D := .tup [.lst ((nums ρ ls).map D.int), .int (bot ρ)]
def ldsD (cs : Cs) (ls : List Row) : List D := ls.map (ldD cs)
def R_parted (cs : Cs) : List D → Except Value D → Prop := fun ds r => ∃ (L : Int) (ρ : List Int) (ls : List Row) (dl : D), seqL dl = some (ldsD cs ls) ∧ ds = [bmD cs L ρ, dl] ∧ Rs ρ ∧ Brs ρ ∧ Ls ls ∧
  ((ls.all (onB L) = true ∧ r = .ok (parD ρ ls)) ∨ (ls.all (onB L) = false ∧ r = .error (.ref cs.OffBeam)))
def bearsD (ρ : List Int) (ls : List Row) : List D := (nums ρ ls).map fun n => frD n (bot ρ)
def R_bears (cs : Cs) : List D → Except Value (List D) → Prop := fun ds r => ∃ (L : Int) (ρ : List Int) (ls : List Row) (dl : D), seqL dl = some (ldsD cs ls) ∧ ds = [bmD cs L ρ, dl] ∧ Rs ρ ∧ Brs ρ ∧ Ls ls ∧
  ((ls.all (onB L) = true ∧ r = .ok (bearsD ρ ls)) ∨ (ls.all (onB L) = false ∧ r = .error (.ref cs.OffBeam)))
theorem pm_middle_part {X : Cx} {δ : De} {μ : Me} {e o : Expr} {es : List Expr} {pos apos : Pos} {k k2 j : Nat} {ps ps2 : List Str} {u v x : Int} {cs : Cs} {w : Row}
    (c1 : CalM X.prog X.w X.K X.mg X.base cs.Weight "middle_part" k ps (R_middle_part cs isW)) (c2 : CalM X.prog X.w X.K X.mg X.base cs.Spread "middle_part" k2 ps2 (R_middle_part cs isS)) (ho : PE X o (tD X.K δ μ (ldD cs w))) (hr : Room j X.A) (hk : k ≤ j) (hk2 : k2 ≤ j)
    (ha : PA X (e :: es) (tAs X.K δ μ [.tup [.int u, .int v, .int x]])) (hw : Bw w) (h1 : Bd 210 u) (h2 : Bd 210 v) (h3 : Bd 210 x) {pl : Sem Bool}
    (hst : starEach (e :: es) X.env = (false, eval e X.env) :: starEach es X.env := by rfl) (hpl : (backTo pos (starEach es X.env)).any (·.1) = false := by rfl)
    (hT : eval (.Call (.Attribute o "middle_part" apos) (e :: es) [] pos) X.env = (do
      let ov ← eval o X.env
      standAt apos.atName
      let (f, first) ← holding [ov] (getMethod ov "middle_part" pl)
      callWith pos f first (backTo pos (starEach (e :: es) X.env)) (backToKw pos (keywordEach [] X.env))) := by rfl) :
    PE X (.Call (.Attribute o "middle_part" apos) (e :: es) [] pos) (tD X.K δ μ (.int (mid u v x w))) :=
  pd_methL c1 c2 ho hr hk hk2 ha rfl rfl (fun h => ⟨w, u, v, x, h, hw, h1, h2, h3, rfl, rfl⟩) (fun h => ⟨w, u, v, x, h, hw, h1, h2, h3, rfl, rfl⟩) hst hpl hT
theorem lds_get {cs : Cs} {ls : List Row} {i : Nat} {x : D} (h : (ldsD cs ls)[i]? = some x) : ∃ w, ls[i]? = some w ∧ w ∈ ls ∧ x = ldD cs w := by
  unfold ldsD at h
  rw [List.getElem?_map] at h
  cases q : ls[i]? with
  | none => rw [q] at h; cases h
  | some w =>
    rw [q] at h
    exact ⟨w, rfl, List.mem_of_getElem? q, (Option.some.inj h).symm⟩
theorem map_get {α β : Type} {f : α → β} {l : List α} {i : Nat} {x : α} {y : β} (h : l[i]? = some x) (g : (l.map f)[i]? = some y) : y = f x := by
  rw [List.getElem?_map, h] at g
  exact (Option.some.inj g).symm
theorem ldsD_len {cs : Cs} {ls : List Row} : (ldsD cs ls).length = ls.length := List.length_map ..
theorem onB_iff {L : Int} {w : Row} : onB L w = true ↔ 0 ≤ w.a ∧ w.b ≤ L := by
  unfold onB
  rw [Bool.and_eq_true, decide_eq_true_eq, decide_eq_true_eq]
theorem lds_mem {cs : Cs} {ls : List Row} {x : D} (h : x ∈ ldsD cs ls) : ∃ w, w ∈ ls ∧ x = ldD cs w := by
  obtain ⟨w, hw, e⟩ := List.mem_map.mp h
  exact ⟨w, hw, e.symm⟩
theorem Ls.len2 {cs : Cs} {ls : List Row} (h : Ls ls) : (ldsD cs ls).length ≤ 10000 := by
  have := h.len
  rw [ldsD_len]
  omega
theorem lds_two {cs : Cs} {ls : List Row} {f : Row → Int} {i : Nat} {x y : D} (h : Ls ls) (hx : (ldsD cs ls)[i]? = some x) (hy : ((ls.map f).map D.int)[i]? = some y) : ∃ w, Bw w ∧ x = ldD cs w ∧ y = .int (f w) := by
  obtain ⟨w, hw, hm, e⟩ := lds_get hx
  refine ⟨w, h.bw w hm, e, ?_⟩
  rw [List.map_map] at hy
  exact map_get (f := D.int ∘ f) hw hy
theorem nums_two {ρ : List Int} {ls : List Row} {i : Nat} {x y : D} (hx : ((nums ρ ls).map D.int)[i]? = some x) (hy : (bearsD ρ ls)[i]? = some y) : ∃ n, n ∈ nums ρ ls ∧ x = .int n ∧ y = frD n (bot ρ) := by
  rw [List.getElem?_map] at hx
  cases q : (nums ρ ls)[i]? with
  | none => rw [q] at hx; cases hx
  | some n =>
    rw [q] at hx
    exact ⟨n, List.mem_of_getElem? q, (Option.some.inj hx).symm, map_get (f := fun n => frD n (bot ρ)) q hy⟩

/-! what the laws over beams draw -/
def gapOf (n : Nat) (c : Int) : Int := if c % 4 = 0 then c / 4 % 10 ^ n else c / 4 % 9
theorem gapOf_nn (n : Nat) (c : Int) : 0 ≤ gapOf n c := by
  have e1 : (0 : Int) < 10 ^ n := Int.pow_pos (by decide)
  unfold gapOf
  split
  · exact Int.emod_nonneg _ (by omega)
  · omega
theorem gapOf_le {n : Nat} (h : 2 ≤ n) (c : Int) : gapOf n c < 10 ^ n := by
  have e1 : (0 : Int) < 10 ^ n := Int.pow_pos (by decide)
  unfold gapOf
  split
  · exact Int.emod_lt_of_pos _ e1
  · have h2 : (10 : Int) ^ 2 ≤ 10 ^ n := by
      obtain ⟨m, rfl⟩ := Nat.exists_eq_add_of_le h
      rw [Int.pow_add]
      have : (0 : Int) < 10 ^ m := Int.pow_pos (by decide)
      have : (1 : Int) ≤ 10 ^ m := by omega
      omega
    have : (10 : Int) ^ 2 = 100 := by decide
    omega
def rst3 (n : Nat) (ns : List Int) : List Int :=
  [gapOf n (cell ns 0), gapOf n (cell ns 0) + 1 + gapOf n (cell ns 1), gapOf n (cell ns 0) + 1 + gapOf n (cell ns 1) + 1 + gapOf n (cell ns 2)]
def rst2 (n : Nat) (ns : List Int) : List Int := [gapOf n (cell ns 0), gapOf n (cell ns 0) + 1 + gapOf n (cell ns 1)]
def rst (n : Nat) (ns : List Int) : List Int := if cell ns 4 % 2 = 0 then rst3 n ns else rst2 n ns
/-- the last rest -/
def lastI : List Int → Int
  | [] => 0
  | [x] => x
  | _ :: y :: t => lastI (y :: t)
def lenOf (n : Nat) (ns ρ : List Int) : Int := lastI ρ + gapOf n (cell ns 3)
structure Bm (m : Nat) (L : Int) (ρ : List Int) : Prop where
  rs : Rs ρ
  len : 1 ≤ L
  on : ∀ x, x ∈ ρ → 0 ≤ x ∧ x ≤ L
  bd : Bd m L
theorem bd_le {m : Nat} {x y : Int} (h : Bd m y) (h0 : 0 ≤ x) (h1 : x ≤ y) : Bd m x := Bd.le (y := y) (by omega) h
theorem Bm.brs {m : Nat} {L : Int} {ρ : List Int} (h : Bm m L ρ) : ∀ x, x ∈ ρ → Bd m x := fun x hx => bd_le h.bd (h.on x hx).1 (h.on x hx).2
theorem Bm.brs2 {m : Nat} {L : Int} {ρ : List Int} (h : Bm m L ρ) (l : m ≤ 210) : Brs ρ := fun x hx => (h.brs x hx).mono l
theorem Bm.isBm {m : Nat} {L : Int} {ρ : List Int} (h : Bm m L ρ) : isBm L ρ = true := by
  have h1 := h.len
  have h2 := h.on
  cases h.rs with
  | two g =>
    rename_i p q
    have a := h2 p (by simp)
    have b := h2 q (by simp)
    simp [Bl.isBm, chk]
    omega
  | three g g2 =>
    rename_i p q r
    have a := h2 p (by simp)
    have b := h2 q (by simp)
    have c := h2 r (by simp)
    simp [Bl.isBm, chk]
    omega
theorem bd_of_lt {m : Nat} {x : Int} (h0 : 0 ≤ x) (h : x < (2 ^ m : Nat)) : Bd m x := by unfold Bd; omega
theorem rst_bm {n m : Nat} (hn : 2 ≤ n) (hm : Nat.ble (4 * 10 ^ n + 4) (2 ^ m) = true) (ns : List Int) : Bm m (lenOf n ns (rst n ns)) (rst n ns) := by
  have h := Nat.le_of_ble_eq_true hm
  have e2 : ((10 ^ n : Nat) : Int) = 10 ^ n := by simp
  have a0 := gapOf_nn n (cell ns 0); have a1 := gapOf_nn n (cell ns 1); have a2 := gapOf_nn n (cell ns 2); have a3 := gapOf_nn n (cell ns 3)
  have b0 := gapOf_le hn (cell ns 0); have b1 := gapOf_le hn (cell ns 1); have b2 := gapOf_le hn (cell ns 2); have b3 := gapOf_le hn (cell ns 3)
  unfold rst lenOf
  split
  · refine ⟨.three (by omega) (by omega), ?_, fun x hx => ?_, bd_of_lt ?_ ?_⟩
    · simp only [rst3, lastI]; omega
    · simp only [rst3, lastI, List.mem_cons, List.not_mem_nil, or_false] at hx ⊢; omega
    · simp only [rst3, lastI]; omega
    · simp only [rst3, lastI]; omega
  · refine ⟨.two (by omega), ?_, fun x hx => ?_, bd_of_lt ?_ ?_⟩
    · simp only [rst2, lastI]; omega
    · simp only [rst2, lastI, List.mem_cons, List.not_mem_nil, or_false] at hx ⊢; omega
    · simp only [rst2, lastI]; omega
    · simp only [rst2, lastI]; omega
theorem rst3_bm {n m : Nat} (hn : 2 ≤ n) (hm : Nat.ble (4 * 10 ^ n + 4) (2 ^ m) = true) (ns : List Int) : Bm m (lenOf n ns (rst3 n ns)) (rst3 n ns) := by
  have h := Nat.le_of_ble_eq_true hm
  have e2 : ((10 ^ n : Nat) : Int) = 10 ^ n := by simp
  have a0 := gapOf_nn n (cell ns 0); have a1 := gapOf_nn n (cell ns 1); have a2 := gapOf_nn n (cell ns 2); have a3 := gapOf_nn n (cell ns 3)
  have b0 := gapOf_le hn (cell ns 0); have b1 := gapOf_le hn (cell ns 1); have b2 := gapOf_le hn (cell ns 2); have b3 := gapOf_le hn (cell ns 3)
  unfold lenOf
  refine ⟨.three (by omega) (by omega), ?_, fun x hx => ?_, bd_of_lt ?_ ?_⟩
  · simp only [rst3, lastI]; omega
  · simp only [rst3, lastI, List.mem_cons, List.not_mem_nil, or_false] at hx ⊢; omega
  · simp only [rst3, lastI]; omega
  · simp only [rst3, lastI]; omega
abbrev iL (l : List Int) : D := .lst (l.map D.int)
def R_rests (f : List Int → List Int) : List D → Except Value D → Prop := fun ds r => ∃ ns : List Int, ds = [.sq (ns.map D.int)] ∧ r = .ok (iL (f ns))
/-- a place drawn -/
def edge (ρ : List Int) (L : Int) : List Int := 0 :: L :: ρ
def spot (c : Int) (ρ : List Int) (L : Int) : Int :=
  if c % 4 = 1 then (edge ρ L).getD (c / 4 % (edge ρ L).length).toNat 0 else if c % 4 = 2 then L * (c / 4 % 1009) / 1008 else c / 4 % (L + 1)
def R_spot : List D → Except Value D → Prop := fun ds r => ∃ (c L : Int) (ρ : List Int), Bm 210 L ρ ∧ ds = [.int c, iL ρ, .int L] ∧ r = .ok (.int (spot c ρ L))
theorem spot_on {c L : Int} {ρ : List Int} {m : Nat} (h : Bm m L ρ) : 0 ≤ spot c ρ L ∧ spot c ρ L ≤ L := by
  have hL := h.len
  unfold spot
  split
  · have hlen : (edge ρ L).length ≠ 0 := by simp [edge]
    have h1 := Int.emod_nonneg (c / 4) (show ((edge ρ L).length : Int) ≠ 0 by omega)
    have h2 := Int.emod_lt_of_pos (c / 4) (show (0 : Int) < ((edge ρ L).length : Int) by omega)
    have h3 : (c / 4 % (edge ρ L).length).toNat < (edge ρ L).length := by omega
    rw [List.getD_eq_getElem?_getD, List.getElem?_eq_getElem h3]
    have hm := List.getElem_mem h3
    show 0 ≤ (edge ρ L)[(c / 4 % (edge ρ L).length).toNat] ∧ (edge ρ L)[(c / 4 % (edge ρ L).length).toNat] ≤ L
    generalize (edge ρ L)[(c / 4 % (edge ρ L).length).toNat] = x at *
    unfold edge at hm
    simp only [List.mem_cons] at hm
    rcases hm with rfl | rfl | hm
    · omega
    · omega
    · exact h.on x hm
  · split
    · have a1 := Int.emod_nonneg (c / 4) (show (1009 : Int) ≠ 0 by decide)
      have a2 := Int.emod_lt_of_pos (c / 4) (show (0 : Int) < 1009 by decide)
      generalize c / 4 % 1009 = k at *
      have z1 : 0 ≤ L * k := Int.mul_nonneg (by omega) a1
      have z2 : L * k ≤ L * 1008 := Int.mul_le_mul_of_nonneg_left (by omega) (by omega)
      generalize L * k = y at *
      omega
    · have a1 := Int.emod_nonneg (c / 4) (show L + 1 ≠ 0 by omega)
      have a2 := Int.emod_lt_of_pos (c / 4) (show 0 < L + 1 by omega)
      omega
/-- a row drawn -/
def rowV (ns ρ : List Int) (L k : Int) : Int := if cell ns (k + 2) % 3 = 0 then spot (cell ns k) ρ L else spot (cell ns (k + 1)) ρ L
def rowAt (n : Nat) (ns ρ : List Int) (L k : Int) : Row :=
  ⟨imin (spot (cell ns k) ρ L) (rowV ns ρ L k), imax (spot (cell ns k) ρ L) (rowV ns ρ L k), numOf n (cell ns (k + 2) / 3)⟩
abbrev rowD (w : Row) : D := .tup [.int w.a, .int w.b, .int w.n]
def turns (len : Nat) (b m : Int) : Nat := ((imin (len : Nat) (b + 3 * m) - b + 2) / 3).toNat
def rws (n : Nat) (ns ρ : List Int) (L b m : Int) : List Row := (List.range (turns ns.length b m)).map fun i : Nat => rowAt n ns ρ L (b + (i : Int) * 3)
abbrev rowsD (l : List Row) : D := .lst (l.map rowD)
def R_rows (n : Nat) : List D → Except Value D → Prop := fun ds r => ∃ (ns ρ : List Int) (L b m : Int), Bm 210 L ρ ∧ ns.length ≤ 63 ∧ 0 ≤ b ∧ b ≤ 20 ∧ 0 ≤ m ∧ m ≤ 20 ∧ ds = [.sq (ns.map D.int), .int b, .int m, iL ρ, .int L] ∧ r = .ok (rowsD (rws n ns ρ L b m))
def R_made (cs : Cs) : List D → Except Value D → Prop := fun ds r => ∃ w : Row, w.a ≤ w.b ∧ ds = [rowD w] ∧ r = .ok (ldD cs w)
def R_weighs : List D → Except Value D → Prop := fun ds r => ∃ w : Row, Bw w ∧ ds = [rowD w] ∧ r = .ok (.int (tot w))
/-- a row lies on the beam -/
structure Ro (m k : Nat) (L : Int) (w : Row) : Prop where
  le : w.a ≤ w.b
  lo : 0 ≤ w.a
  hi : w.b ≤ L
  bn : Bd k w.n
theorem Ro.bw {m k : Nat} {L : Int} {w : Row} (h : Ro m k L w) (hL : Bd m L) (hm : m ≤ 210) (hk : k ≤ 300) : Bw w :=
  ⟨h.le, (bd_le hL h.lo (by have := h.le; have := h.hi; omega)).mono hm, (bd_le hL (by have := h.le; have := h.lo; omega) h.hi).mono hm, h.bn.mono hk⟩
theorem Ro.on {m k : Nat} {L : Int} {w : Row} (h : Ro m k L w) : onB L w = true := onB_iff.mpr ⟨h.lo, h.hi⟩
theorem imin_le (a b : Int) : imin a b ≤ a ∧ imin a b ≤ b ∧ (imin a b = a ∨ imin a b = b) := by unfold imin; split <;> omega
theorem imax_le (a b : Int) : a ≤ imax a b ∧ b ≤ imax a b ∧ (imax a b = a ∨ imax a b = b) := by unfold imax; split <;> omega
theorem rowAt_ro {n m k : Nat} (hk : ∀ c, Bd k (numOf n c)) {ns ρ : List Int} {L : Int} (h : Bm m L ρ) (i : Int) : Ro m k L (rowAt n ns ρ L i) := by
  have h1 := spot_on (c := cell ns i) h
  have h2 := spot_on (c := cell ns (i + 1)) h
  have h3 : 0 ≤ rowV ns ρ L i ∧ rowV ns ρ L i ≤ L := by
    unfold rowV
    split
    · exact h1
    · exact h2
  have a1 := imin_le (spot (cell ns i) ρ L) (rowV ns ρ L i)
  have a2 := imax_le (spot (cell ns i) ρ L) (rowV ns ρ L i)
  refine ⟨?_, ?_, ?_, hk _⟩
  · show imin (spot (cell ns i) ρ L) (rowV ns ρ L i) ≤ imax (spot (cell ns i) ρ L) (rowV ns ρ L i)
    omega
  · show 0 ≤ imin (spot (cell ns i) ρ L) (rowV ns ρ L i)
    omega
  · show imax (spot (cell ns i) ρ L) (rowV ns ρ L i) ≤ L
    omega
theorem rws_ro {n m k : Nat} (hk : ∀ c, Bd k (numOf n c)) {ns ρ : List Int} {L b q : Int} (h : Bm m L ρ) : ∀ w, w ∈ rws n ns ρ L b q → Ro m k L w := fun w hw => by
  obtain ⟨i, _, e⟩ := List.mem_map.mp hw
  rw [← e]
  exact rowAt_ro hk h _
theorem turns_le {len : Nat} {b m : Int} (h0 : 0 ≤ m) : turns len b m ≤ m.toNat := by
  unfold turns
  have := imin_le (len : Nat) (b + 3 * m)
  omega
theorem rws_len {n : Nat} {ns ρ : List Int} {L b m : Int} (h0 : 0 ≤ m) : (rws n ns ρ L b m).length ≤ m.toNat := by
  unfold rws
  rw [List.length_map, List.length_range]
  exact turns_le h0
theorem rgc3 {len : Nat} {b m : Int} (hl : len ≤ 63) (h0 : 0 ≤ b) (h1 : b ≤ 20) (h2 : 0 ≤ m) (h3 : m ≤ 20) : RgC b (imin (len : Nat) (b + 3 * m)) 3 (turns len b m) := by
  have h := imin_le (len : Nat) (b + 3 * m)
  have e : Builtin.Range.rangeSize b (imin (len : Nat) (b + 3 * m)) 3 = (turns len b m : Int) := by
    unfold Builtin.Range.rangeSize turns
    rw [if_pos (by decide)]
    split <;> omega
  have k : (turns len b m : Int) ≤ 20 := by
    have := turns_le (len := len) (b := b) h2
    omega
  have f : ∀ x : Int, -1000 ≤ x → x ≤ 1000 → Builtin.Range.rangeFitsLong x = true := by
    intro x a1 a2
    unfold Builtin.Range.rangeFitsLong
    simp
    omega
  refine ⟨by decide, by decide, ?_, e⟩
  unfold Builtin.Range.small
  rw [e, f b (by omega) (by omega), f _ (by omega) (by omega : imin (len : Nat) (b + 3 * m) ≤ 1000), f 3 (by decide) (by decide), f _ (by omega) (by omega : (turns len b m : Int) ≤ 1000), if_pos (by decide), f _ (by omega) (by omega : imin (len : Nat) (b + 3 * m) + (3 - 1) ≤ 1000)]
  simp

/-! what the law of resting asks -/
def frsD (β : Int) (ν : List Int) : List D := ν.map fun n => frD n β
abbrev isC (c : Int) : Prop := True
def R_bal : List D → Except Value D → Prop := fun ds r => ∃ (ρ : List Int) (ls : List Row) (t b : Int) (d : D), seqL d = some (bearsD ρ ls) ∧ Rs ρ ∧ Brs ρ ∧ Ls ls ∧ Bd 200 t ∧ Bd 201 b ∧ ds = [d, iL ρ, rowsD ls, .int t, .int b] ∧ r = .ok (.bl true)
theorem prF_bd {α : Type} {f : α → Int} {m : Nat} : ∀ {l : List α}, (∀ x, x ∈ l → Bd m (f x)) → Bd (1 + m * l.length) (prF f l)
  | [], _ => Bd.lit (x := 1) rfl
  | x :: l, h => by
    rw [prF_cons]
    refine Bd.mono ((h x (by simp)).mul (prF_bd fun y hy => h y (by simp [hy]))) ?_
    rw [List.length_cons, Nat.mul_succ]
    omega
theorem Rs.len_le {ρ : List Int} (h : Rs ρ) : ρ.length ≤ 3 := by cases h <;> simp
theorem nums_len3 {ρ : List Int} (h : Rs ρ) (ls : List Row) : (nums ρ ls).length ≤ 3 := by rw [nums_len h]; exact h.len_le
section
variable {ρ : List Int} {ls : List Row}
theorem com_bd {ν : List Int} {β : Int} (h0 : β ≠ 0) (hb : Bd 1070 β) (hl : ν.length ≤ 3) : Bd 3220 (com β ν) := by
  refine Bd.mono (prF_bd (m := 1070) fun n _ => frB_bd h0 hb) ?_
  have : 1070 * ν.length ≤ 1070 * 3 := Nat.mul_le_mul_left _ hl
  omega
theorem comR_bd (hr : Rs ρ) (hb : Brs ρ) : Bd 3220 (comR ρ ls) := com_bd (by have := bot_pos hr; omega) (bot_bd hb) (nums_len3 hr ls)
theorem com_pre_bd (hr : Rs ρ) (hb : Brs ρ) (i : Nat) : Bd 3220 (com (bot ρ) ((nums ρ ls).take i)) := com_bd (by have := bot_pos hr; omega) (bot_bd hb) (by have := nums_len3 hr ls; rw [List.length_take]; omega)
theorem div_bd {n : Nat} {c d : Int} (h : Bd n c) (hd : 0 < d) (h0 : 0 ≤ c) : Bd n (c / d) := by
  refine Bd.le (y := c) ?_ h
  have h1 := Int.ediv_le_self d h0
  have h2 := Int.ediv_nonneg h0 (show 0 ≤ d by omega)
  omega
theorem shr_bd (hr : Rs ρ) (hb : Brs ρ) (hl : Ls ls) {n : Int} (hn : n ∈ nums ρ ls) : Bd 5260 (shr (bot ρ) (comR ρ ls) n) := by
  have h0 := bot_pos hr
  have hp := frB_pos (t := n) (b := bot ρ) (by omega)
  exact ((frT_bd (by omega) (nums_bd hb hl n hn)).mul (div_bd (comR_bd hr hb) hp (Int.le_of_lt (com_pos (by omega))))).mono (by decide)
end
theorem bears_get {ρ : List Int} {ls : List Row} {i : Nat} {x : D} (h : (bearsD ρ ls)[i]? = some x) : ∃ n, (nums ρ ls)[i]? = some n ∧ n ∈ nums ρ ls ∧ x = frD n (bot ρ) := by
  unfold bearsD at h
  rw [List.getElem?_map] at h
  cases q : (nums ρ ls)[i]? with
  | none => rw [q] at h; cases h
  | some n =>
    rw [q] at h
    exact ⟨n, rfl, List.mem_of_getElem? q, (Option.some.inj h).symm⟩
theorem rows_get {ls : List Row} {i : Nat} {x : D} (h : (ls.map rowD)[i]? = some x) : ∃ w, ls[i]? = some w ∧ w ∈ ls ∧ x = rowD w := by
  rw [List.getElem?_map] at h
  cases q : ls[i]? with
  | none => rw [q] at h; cases h
  | some w =>
    rw [q] at h
    exact ⟨w, rfl, List.mem_of_getElem? q, (Option.some.inj h).symm⟩
theorem ints_get {l : List Int} {i : Nat} {x : D} (h : (l.map D.int)[i]? = some x) : ∃ n, l[i]? = some n ∧ n ∈ l ∧ x = .int n := by
  rw [List.getElem?_map] at h
  cases q : l[i]? with
  | none => rw [q] at h; cases h
  | some w =>
    rw [q] at h
    exact ⟨w, rfl, List.mem_of_getElem? q, (Option.some.inj h).symm⟩
theorem zip_get {ρ : List Int} {ls : List Row} {i : Nat} {x : D} (h : (zipD (ρ.map D.int) (bearsD ρ ls))[i]? = some x) :
    ∃ p n, (ρ.zip (nums ρ ls))[i]? = some (p, n) ∧ p ∈ ρ ∧ n ∈ nums ρ ls ∧ x = .tup [.int p, frD n (bot ρ)] := by
  obtain ⟨x1, x2, h1, h2, rfl⟩ := zipD_back h
  obtain ⟨p, q1, q2, rfl⟩ := ints_get h1
  obtain ⟨n, q3, q4, rfl⟩ := bears_get h2
  exact ⟨p, n, List.getElem?_zip_eq_some.mpr ⟨q1, q3⟩, q2, q4, rfl⟩
theorem zip_len {ρ : List Int} {ls : List Row} : (zipD (ρ.map D.int) (bearsD ρ ls)).length = (ρ.zip (nums ρ ls)).length := by
  rw [zipD_length, List.length_zip, List.length_map]
  unfold bearsD
  rw [List.length_map]
theorem bears_len {ρ : List Int} {ls : List Row} : (bearsD ρ ls).length = (nums ρ ls).length := List.length_map ..
theorem rows_len {ls : List Row} : (ls.map rowD).length = ls.length := List.length_map ..
/-- the two sums of the law -/
abbrev bW (ρ : List Int) (ls : List Row) (z : List (Int × Int)) : Int := sumF (fun q => shr (bot ρ) (comR ρ ls) q.2) z
abbrev bT (ρ : List Int) (ls : List Row) (t b : Int) (z : List (Int × Int)) : Int := sumF (fun q => 2 * shr (bot ρ) (comR ρ ls) q.2 * (q.1 * b - t)) z
theorem sumF_map {α β : Type} (g : α → β) (f : β → Int) (l : List α) : sumF f (l.map g) = sumF (fun x => f (g x)) l := by
  unfold sumF
  rw [List.map_map]
  rfl
theorem zs_shs (ρ : List Int) (ls : List Row) (f : Int → Int) : zs ρ (shs ρ ls) f = sumF (fun q : Int × Int => shr (bot ρ) (comR ρ ls) q.2 * f q.1) (ρ.zip (nums ρ ls)) := by
  rw [zs_zip]
  unfold shs
  rw [List.zip_map_right, sumF_map]
  rfl
theorem bal_W {ρ : List Int} (hr : Rs ρ) (ls : List Row) : bW ρ ls (ρ.zip (nums ρ ls)) - su (fun w => comR ρ ls * tot w) ls = 0 := by
  have h := shs_W hr (ls := ls)
  rw [zs_shs] at h
  simp only [Int.mul_one] at h
  rw [su_mul]
  unfold WW at h
  unfold bW
  omega
theorem sumF_lin {α : Type} (c d : Int) (f g : α → Int) : ∀ l : List α, sumF (fun x => c * f x + d * g x) l = c * sumF f l + d * sumF g l
  | [] => by simp [sumF]
  | x :: l => by
    have h := sumF_lin c d f g l
    unfold sumF at h ⊢
    simp only [List.map_cons, List.sum_cons]
    rw [h]
    grind
theorem bal_T {ρ : List Int} (hr : Rs ρ) (ls : List Row) (t b : Int) : bT ρ ls t b (ρ.zip (nums ρ ls)) - su (fun w => comR ρ ls * tot w * ((w.a + w.b) * b - 2 * t)) ls = 0 := by
  have h1 := shs_W hr (ls := ls)
  have h2 := shs_T hr (ls := ls)
  rw [zs_shs] at h1 h2
  simp only [Int.mul_one] at h1
  have e1 : bT ρ ls t b (ρ.zip (nums ρ ls)) = (2 * b) * sumF (fun q : Int × Int => shr (bot ρ) (comR ρ ls) q.2 * q.1) (ρ.zip (nums ρ ls)) + (-2 * t) * sumF (fun q : Int × Int => shr (bot ρ) (comR ρ ls) q.2) (ρ.zip (nums ρ ls)) := by
    rw [← sumF_lin]
    unfold bT
    congr 1
    funext q
    grind
  have e2 : su (fun w => comR ρ ls * tot w * ((w.a + w.b) * b - 2 * t)) ls = (comR ρ ls * b) * su mo ls - (2 * t * comR ρ ls) * su tot ls := by
    rw [← su_mul, ← su_mul, ← su_sub]
    congr 1
    funext w
    unfold mo
    grind
  rw [e1, e2]
  unfold WW at h1
  grind
theorem atI_last {ρ : List Int} (h : Rs ρ) : atI (ρ.map D.int) (-1) = some (D.int (lastI ρ)) := by cases h <;> rfl
theorem noL_bm {cs : Cs} {L : Int} {ρ : List Int} : noL (bmD cs L ρ) = true := by
  have := noLL_map (f := D.int) (fun _ => by simp [noL]) ρ
  unfold bmD
  simp [noL, noLL, this]
theorem noLL_bears {ρ : List Int} {ls : List Row} : noLL (bearsD ρ ls) = true := noLL_map (fun _ => by simp [noL, noLL]) _
theorem dat_iL {l : List Int} : isDat (iL l) 9 = true := by
  have := isDats_map (f := D.int) (n := 8) (fun _ => by simp [isDat]) l
  rw [show (9 : Nat) = 8 + 1 from rfl, iL, isDat]; exact this
theorem dat_lst {l : List D} (h : isDats l 8 = true) : isDat (.lst l) 9 = true := by rw [show (9 : Nat) = 8 + 1 from rfl, isDat]; exact h
theorem dat_bears {ρ : List Int} {ls : List Row} : isDats (bearsD ρ ls) 8 = true := isDats_map (fun _ => by simp [isDat, isDats]) _
theorem ro_ls {m k : Nat} {L : Int} {ls : List Row} (hm : m ≤ 210) (hk : k ≤ 300) (hL : Bd m L) (h : ∀ w, w ∈ ls → Ro m k L w) (hl : ls.length ≤ 256) : Ls ls := ⟨fun w hw => (h w hw).bw hL hm hk, hl⟩
theorem ro_all {m k : Nat} {L : Int} {ls : List Row} (h : ∀ w, w ∈ ls → Ro m k L w) : ls.all (onB L) = true := List.all_eq_true.mpr fun w hw => (h w hw).on
def rep (k : Int) (ls : List Row) : List Row := (List.replicate k.toNat ls).flatten
theorem rep_mem {k : Int} {ls : List Row} {w : Row} (h : w ∈ rep k ls) : w ∈ ls := by
  unfold rep at h
  obtain ⟨l, hl, hw⟩ := List.mem_flatten.mp h
  have := List.eq_of_mem_replicate hl
  rwa [this] at hw
theorem rep_len (k : Int) (ls : List Row) : (rep k ls).length = k.toNat * ls.length := by
  unfold rep
  induction k.toNat with
  | zero => simp
  | succ n ih => rw [List.replicate_succ, List.flatten_cons, List.length_append, ih, Nat.succ_mul]; omega
theorem Bm.mono {m n : Nat} {L : Int} {ρ : List Int} (h : Bm m L ρ) (l : m ≤ n) : Bm n L ρ := ⟨h.rs, h.len, h.on, h.bd.mono l⟩

/-! the inner turning -/
theorem zs_bd {a b : Nat} {f : Int → Int} : ∀ {ρ ν : List Int}, (∀ n, n ∈ ν → Bd a n) → (∀ x, x ∈ ρ → Bd b (f x)) → Bd (a + b + ρ.length) (zs ρ ν f)
  | [], ν, _, _ => by
    have : zs [] ν f = 0 := by simp [zs]
    rw [this]
    exact Nat.pow_pos (by decide)
  | x :: ρ, [], _, _ => by
    have : zs (x :: ρ) [] f = 0 := by simp [zs]
    rw [this]
    exact Nat.pow_pos (by decide)
  | x :: ρ, n :: ν, hn, hx => by
    simp only [zs]
    have h1 := (hn n (by simp)).mul (hx x (by simp))
    have h2 := zs_bd (ρ := ρ) (ν := ν) (fun m hm => hn m (by simp [hm])) fun y hy => hx y (by simp [hy])
    refine Bd.mono (h1.add h2) ?_
    rw [List.length_cons]
    omega
theorem tl_bd {p m : Nat} {ρ : List Int} {ls : List Row} {t d : Int} (hr : Rs ρ) (hb : Brs ρ) (hl : Ls ls) (ht : Bd p t) (hd : Bd p d) (hm : 2 * p + 2270 ≤ m) : Bd m (tl ρ ls (nums ρ ls) (bot ρ) t d) := by
  have h1 : Bd (2040 + (2 * p + 213) + ρ.length) (zs ρ (nums ρ ls) (fun x => 2 * d * pz (t - x * d))) := zs_bd (nums_bd hb hl) fun x hx => by
    have e : max p (210 + p) + 1 = p + 211 := by omega
    have z : Bd (p + 211) (pz (t - x * d)) := pz_bd (e ▸ ht.sub ((hb x hx).mul hd))
    exact (((Bd.lit (x := 2) (a := 2) rfl).mul hd).mul z).mono (by omega)
  have h2 := (bot_bd hb).mul (su_bd (k := 8) hl.len fun w hw => lft_bd (hl.bw w hw) ht hd (Nat.le_refl _))
  have h3 := hr.len_le
  unfold tl
  exact (h1.sub h2).mono (by omega)
abbrev wiD (ρ : List Int) (ls : List Row) (t d : Int) : D := frD (tl ρ ls (nums ρ ls) (bot ρ) t d) (2 * d * d * bot ρ)
def R_within (cs : Cs) : List D → Except Value D → Prop := fun ds r => ∃ (L : Int) (ρ : List Int) (ls : List Row) (dl : D) (t d : Int), seqL dl = some (ldsD cs ls) ∧ ds = [bmD cs L ρ, parD ρ ls, dl, .tup [.int t, .int d]] ∧ Rs ρ ∧ Brs ρ ∧ Ls ls ∧ 1 ≤ d ∧ Bd 1800 t ∧ Bd 1800 d ∧
  r = .ok (wiD ρ ls t d)
def R_turning (cs : Cs) : List D → Except Value D → Prop := fun ds r => ∃ (L : Int) (ρ : List Int) (ls : List Row) (dl : D) (t d : Int), seqL dl = some (ldsD cs ls) ∧ ds = [bmD cs L ρ, dl, .tup [.int t, .int d]] ∧ Rs ρ ∧ Brs ρ ∧ Bd 210 L ∧ Ls ls ∧ 1 ≤ d ∧ Bd 1800 t ∧ Bd 1800 d ∧
  (((0 ≤ t ∧ t ≤ L * d) ∧ ls.all (onB L) = true ∧ r = .ok (wiD ρ ls t d)) ∨ (¬ ((0 ≤ t ∧ t ≤ L * d) ∧ ls.all (onB L) = true) ∧ r = .error (.ref cs.OffBeam)))
theorem zipn_get {ρ ν : List Int} {i : Nat} {x : D} (h : (zipD (ρ.map D.int) (ν.map D.int))[i]? = some x) : ∃ p n, (ρ.zip ν)[i]? = some (p, n) ∧ p ∈ ρ ∧ n ∈ ν ∧ x = .tup [.int p, .int n] := by
  obtain ⟨x1, x2, h1, h2, rfl⟩ := zipD_back h
  obtain ⟨p, q1, q2, rfl⟩ := ints_get h1
  obtain ⟨n, q3, q4, rfl⟩ := ints_get h2
  exact ⟨p, n, List.getElem?_zip_eq_some.mpr ⟨q1, q3⟩, q2, q4, rfl⟩
theorem zipn_len {ρ ν : List Int} : (zipD (ρ.map D.int) (ν.map D.int)).length = (ρ.zip ν).length := by
  rw [zipD_length, List.length_zip, List.length_map, List.length_map]
abbrev wSum (t d : Int) (z : List (Int × Int)) : Int := sumF (fun q : Int × Int => 2 * d * q.2 * pz (t - q.1 * d)) z

theorem plB_bd (c : Int) : Bd 69 (plB c) := by
  unfold plB
  split
  · exact (Bd.add (Bd.lit (x := 1) (a := 64) rfl) (bd_mod (n := 67) (by decide) (by exact rfl))).mono (by decide)
  · exact (Bd.add (Bd.lit (x := 1) (a := 64) rfl) (bd_mod (n := 12) (by decide) (by exact rfl))).mono (by decide)
abbrev plD (q : Int × Int) : D := .tup [.int q.1, .int q.2]
def R_place : List D → Except Value D → Prop := fun ds r => ∃ c o L : Int, 1 ≤ L ∧ Bd 70 L ∧ ds = [.int c, .int o, .int L] ∧ r = .ok (plD (place c o L))
/-- a place of the beam -/
structure Pl (L : Int) (q : Int × Int) : Prop where
  pos : 1 ≤ q.2
  lo : 0 ≤ q.1
  hi : q.1 ≤ L * q.2
  bt : Bd 300 q.1
  bd : Bd 300 q.2
theorem place_pl {c o L : Int} (hL : 1 ≤ L) (bL : Bd 70 L) : Pl L (place c o L) := by
  have hp := plB_pos c
  have hb := plB_bd c
  have ht := plT_on (c := c) (o := o) hL
  have hf := fr_range hp ht.1 ht.2
  have h2 : Bd 69 (frB (plT c o L) (plB c)) := frB_bd (by omega) hb
  exact ⟨frB_one (by omega), hf.1, hf.2, bd_le ((bL.mul h2).mono (by decide)) hf.1 hf.2, h2.mono (by decide)⟩
theorem whole_pl {x L : Int} (bL : Bd 70 L) (h0 : 0 ≤ x) (h1 : x ≤ L) : Pl L (x, 1) := ⟨Int.le_refl 1, h0, by show x ≤ L * 1; omega, (bd_le bL h0 h1).mono (by decide), Bd.lit rfl⟩
theorem half_pl {a b L : Int} (bL : Bd 70 L) (h0 : 0 ≤ a) (h1 : a ≤ b) (h2 : b ≤ L) : Pl L (frT (a + b) 2, frB (a + b) 2) := by
  have hf := fr_range (T := a + b) (B := 2) (L := L) (by decide) (by omega) (by omega)
  have h3 : Bd 64 (frB (a + b) 2) := frB_bd (show (2 : Int) ≠ 0 by decide) (Bd.lit rfl)
  exact ⟨frB_one (t := a + b) (b := 2) (by decide), hf.1, hf.2, bd_le ((bL.mul h3).mono (by decide)) hf.1 hf.2, h3.mono (by decide)⟩

def prt (w : Row) (far near b : Int) : Int := if w.a = w.b then 2 * w.n * b * far else w.n * (far * far - near * near)
theorem prt_l (w : Row) (t d : Int) : prt w (imax 0 (t - w.a * d)) (imax 0 (t - w.b * d)) d = lft w t d := by
  unfold prt lft
  show (if w.a = w.b then 2 * w.n * d * pz (t - w.a * d) else w.n * (pz (t - w.a * d) * pz (t - w.a * d) - pz (t - w.b * d) * pz (t - w.b * d))) = _
  split
  · grind
  · rfl
theorem prt_r (w : Row) (t d : Int) : prt w (imax 0 (w.b * d - t)) (imax 0 (w.a * d - t)) d = rgt w t d := by
  unfold prt rgt
  show (if w.a = w.b then 2 * w.n * d * pz (w.b * d - t) else w.n * (pz (w.b * d - t) * pz (w.b * d - t) - pz (w.a * d - t) * pz (w.a * d - t))) = _
  split
  · rename_i h
    rw [h]; grind
  · rfl
def R_part : List D → Except Value D → Prop := fun ds r => ∃ (w : Row) (far near b : Int), Bw w ∧ Bd 520 far ∧ Bd 520 near ∧ Bd 300 b ∧ ds = [rowD w, .int far, .int near, .int b] ∧ r = .ok (.int (prt w far near b))
def R_turn (f : List Int → List Row → List Int → Int → Int → Int → Int) : List D → Except Value D → Prop := fun ds r => ∃ (ρ π : List Int) (ls : List Row) (c t d : Int), Brs ρ ∧ (∀ n, n ∈ π → Bd 5260 n) ∧ Ls ls ∧ Bd 3220 c ∧ Bd 300 t ∧ Bd 300 d ∧
  ds = [iL ρ, iL π, .int c, rowsD ls, .tup [.int t, .int d]] ∧ r = .ok (.int (f ρ ls π c t d))
theorem shs_bd {ρ : List Int} {ls : List Row} (hr : Rs ρ) (hb : Brs ρ) (hl : Ls ls) : ∀ n, n ∈ shs ρ ls → Bd 5260 n := fun n hn => by
  obtain ⟨m, hm, rfl⟩ := List.mem_map.mp hn
  exact shr_bd hr hb hl hm
abbrev sL (t d : Int) (z : List (Int × Int)) : Int := sumF (fun q : Int × Int => 2 * d * q.2 * pz (t - q.1 * d)) z
abbrev sR (t d : Int) (z : List (Int × Int)) : Int := sumF (fun q : Int × Int => 2 * d * q.2 * pz (q.1 * d - t)) z
/-- the places asked at -/
def rowP (k : Nat) (w : Row) : Int × Int := if k % 2 = 0 then (w.a, 1) else (frT (w.a + w.b) 2, frB (w.a + w.b) 2)
def pls (ns ρ : List Int) (L : Int) (ls : List Row) : List (Int × Int) :=
  ([place (cell ns 5) (cell ns 6) L, place (cell ns 6) (cell ns 5) L] ++ (edge ρ L).map fun x => (x, (1 : Int))) ++ ls.mapIdx rowP
abbrev plsD (q : List (Int × Int)) : D := .lst (q.map plD)
def R_places (m : Nat) : List D → Except Value D → Prop := fun ds r => ∃ (ns ρ : List Int) (L : Int) (ls : List Row), Bm 70 L ρ ∧ (∀ w, w ∈ ls → Ro 70 m L w) ∧ ls.length ≤ 20 ∧ ds = [.sq (ns.map D.int), iL ρ, .int L, rowsD ls] ∧ r = .ok (plsD (pls ns ρ L ls))
theorem pls_pl {m : Nat} {ns ρ : List Int} {L : Int} {ls : List Row} (hB : Bm 70 L ρ) (hro : ∀ w, w ∈ ls → Ro 70 m L w) : ∀ q, q ∈ pls ns ρ L ls → Pl L q := fun q hq => by
  unfold pls at hq
  simp only [List.mem_append, List.mem_cons, List.not_mem_nil, or_false] at hq
  rcases hq with (hq | hq) | hq
  · rcases hq with rfl | rfl
    · exact place_pl hB.len hB.bd
    · exact place_pl hB.len hB.bd
  · obtain ⟨x, hx, rfl⟩ := List.mem_map.mp hq
    unfold edge at hx
    simp only [List.mem_cons] at hx
    have := hB.len
    rcases hx with rfl | rfl | hx
    · exact whole_pl hB.bd (by omega) (by omega)
    · exact whole_pl hB.bd (by omega) (by omega)
    · exact whole_pl hB.bd (hB.on x hx).1 (hB.on x hx).2
  · obtain ⟨i, hi, e⟩ := List.mem_mapIdx.mp hq
    have hw := hro _ (List.getElem_mem hi)
    generalize ls[i] = w at *
    unfold rowP at e
    have h1 := hw.le; have h2 := hw.lo; have h3 := hw.hi
    split at e
    · subst e; exact whole_pl hB.bd h2 (by omega)
    · subst e; exact half_pl hB.bd h2 h1 h3
theorem pls_first (ns ρ : List Int) (L : Int) (ls : List Row) : ∃ t, pls ns ρ L ls = place (cell ns 5) (cell ns 6) L :: t := ⟨_, rfl⟩
theorem plsD_get {l : List (Int × Int)} {i : Nat} {x : D} (h : (l.map plD)[i]? = some x) : ∃ q, l[i]? = some q ∧ q ∈ l ∧ x = plD q := by
  rw [List.getElem?_map] at h
  cases z : l[i]? with
  | none => rw [z] at h; cases h
  | some q =>
    rw [z] at h
    exact ⟨q, rfl, List.mem_of_getElem? z, (Option.some.inj h).symm⟩
theorem enum_get {ls : List Row} {i : Nat} {x : D} (h : (enumD (ls.map rowD))[i]? = some x) : ∃ w, ls[i]? = some w ∧ w ∈ ls ∧ x = .tup [.int (i : Nat), rowD w] := by
  unfold enumD at h
  rw [List.getElem?_mapIdx] at h
  cases z : (ls.map rowD)[i]? with
  | none => rw [z] at h; cases h
  | some y =>
    rw [z] at h
    obtain ⟨w, h1, h2, rfl⟩ := rows_get z
    exact ⟨w, h1, h2, (Option.some.inj h).symm⟩
theorem plsD_app (a b : List (Int × Int)) : plsD (a ++ b) = .lst (a.map plD ++ b.map plD) := by unfold plsD; rw [List.map_append]
theorem ldD_ins (cs : Cs) (w : Row) : ∃ C ns fs, ldD cs w = .ins C ns fs := by
  unfold ldD
  split
  · exact ⟨_, _, _, rfl⟩
  · exact ⟨_, _, _, rfl⟩

/-! the law of three rests -/
def R_left_of : List D → Except Value D → Prop := fun ds r => ∃ (w : Row) (t : Int), Bw w ∧ Bd 300 t ∧ ds = [rowD w, .int t] ∧ r = .ok (.int (lft w t 2))
def R_turned2 : List D → Except Value D → Prop := fun ds r => ∃ (ρ π : List Int) (ls : List Row) (c t : Int), Brs ρ ∧ (∀ n, n ∈ π → Bd 5260 n) ∧ Ls ls ∧ Bd 3220 c ∧ Bd 300 t ∧ ds = [iL ρ, iL π, .int c, rowsD ls, .int t] ∧ r = .ok (.int (tl ρ ls π c t 2))
def R_tent : List D → Except Value D → Prop := fun ds r => ∃ p q x t : Int, Bd 210 p ∧ Bd 210 q ∧ Bd 210 x ∧ Bd 300 t ∧ ds = [iL [p, q, x], .int t] ∧ r = .ok (.int (tent p q x t))
def bent (p q x : Int) (ls : List Row) : Int := sumS (fun t => tl [p, q, x] ls (shs [p, q, x] ls) (comR [p, q, x] ls) t 2 * tent p q x t) (srt (betw p q x ls))
def R_bent : List D → Except Value D → Prop := fun ds r => ∃ (p q x : Int) (ls : List Row), p < q ∧ q < x ∧ Brs [p, q, x] ∧ Ls ls ∧ ls.length ≤ 30 ∧ ds = [iL [p, q, x], iL (shs [p, q, x] ls), .int (comR [p, q, x] ls), rowsD ls] ∧ r = .ok (.int (bent p q x ls))
def R_agrees : List D → Except Value D → Prop := fun ds r => ∃ (p q x : Int) (ls : List Row), p < q ∧ q < x ∧ Brs [p, q, x] ∧ Ls ls ∧ ls.length ≤ 30 ∧ ds = [.lst (bearsD [p, q, x] ls), iL [p, q, x], rowsD ls] ∧ r = .ok (.bl true)
abbrev sT (t : Int) (z : List (Int × Int)) : Int := sumF (fun q : Int × Int => 4 * q.2 * pz (t - 2 * q.1)) z
theorem sT_zs (t : Int) (ρ ν : List Int) : sT t (ρ.zip ν) = zs ρ ν (fun x => 2 * 2 * pz (t - x * 2)) := by
  rw [← sum_zs 2 (fun x => pz (t - x * 2))]
  unfold sT
  congr 1
  funext q
  rw [show 2 * q.1 = q.1 * 2 by omega]
  grind
theorem tlπ_bd {p m : Nat} {ρ π : List Int} {ls : List Row} {c t d : Int} (hlen : ρ.length ≤ 3) (hb : Brs ρ) (hπ : ∀ n, n ∈ π → Bd 5260 n) (hl : Ls ls) (bc : Bd 3220 c) (ht : Bd p t) (hd : Bd p d) (hm : 2 * p + 5500 ≤ m) : Bd m (tl ρ ls π c t d) := by
  have h1 : Bd (5260 + (2 * p + 213) + ρ.length) (zs ρ π (fun x => 2 * d * pz (t - x * d))) := zs_bd hπ fun x hx => by
    have e : max p (210 + p) + 1 = p + 211 := by omega
    have z : Bd (p + 211) (pz (t - x * d)) := pz_bd (e ▸ ht.sub ((hb x hx).mul hd))
    exact (((Bd.lit (x := 2) (a := 2) rfl).mul hd).mul z).mono (by omega)
  have h2 := bc.mul (su_bd (k := 8) hl.len fun w hw => lft_bd (hl.bw w hw) ht hd (Nat.le_refl _))
  unfold tl
  exact (h1.sub h2).mono (by omega)
theorem tent_bd {p q x t : Int} (bp : Bd 210 p) (bq : Bd 210 q) (bx : Bd 210 x) (bt : Bd 300 t) : Bd 520 (tent p q x t) := by
  unfold tent
  split
  · exact ((bt.sub ((Bd.lit (x := 2) (a := 2) rfl).mul bp)).mul (bx.sub bq)).mono (by decide)
  · exact ((((Bd.lit (x := 2) (a := 2) rfl).mul bx).sub bt).mul (bq.sub bp)).mono (by decide)
/-- all sizes so many times as great -/
def sc (k : Int) (ls : List Row) : List Row := ls.map fun w => ⟨w.a, w.b, w.n * k⟩
theorem su_sc (k : Int) (f : Row → Int) (h : ∀ w : Row, f ⟨w.a, w.b, w.n * k⟩ = k * f w) : ∀ ls : List Row, su f (sc k ls) = k * su f ls
  | [] => by simp [sc, su_nil]
  | w :: ls => by
    show su f (⟨w.a, w.b, w.n * k⟩ :: sc k ls) = _
    rw [su_cons, su_cons, h, su_sc k f h ls, Int.mul_add]
theorem tot_sc (k : Int) (w : Row) : tot ⟨w.a, w.b, w.n * k⟩ = k * tot w := by
  unfold tot
  simp only
  split <;> grind
theorem rl_sc (t d k : Int) (w : Row) : rgt ⟨w.a, w.b, w.n * k⟩ t d - lft ⟨w.a, w.b, w.n * k⟩ t d = k * (rgt w t d - lft w t d) := by
  rw [rgt_lft, rgt_lft]
  unfold mo
  rw [tot_sc]
  simp only
  grind
theorem lft_sc (t d k : Int) (w : Row) : lft ⟨w.a, w.b, w.n * k⟩ t d = k * lft w t d := by
  unfold lft
  simp only
  split <;> grind
theorem mid_sc (p q x k : Int) (w : Row) : mid p q x ⟨w.a, w.b, w.n * k⟩ = k * mid p q x w := by
  unfold mid
  simp only
  split
  · split <;> grind
  · grind
theorem nums_same {ρ : List Int} {l m : List Row} (h1 : WW l = WW m) (h2 : ∀ p, TT p l = TT p m) (h3 : ∀ p q x, su (mid p q x) l = su (mid p q x) m) : nums ρ l = nums ρ m := by
  match ρ with
  | [] => rfl
  | [_] => rfl
  | [p, q] => simp only [nums]; rw [h1, h2]
  | [p, q, x] => simp only [nums]; rw [h1, h2, h3]
  | _ :: _ :: _ :: _ :: _ => rfl
theorem nums_rep {ρ : List Int} {k : Int} (hk : 0 ≤ k) (ls : List Row) : nums ρ (rep k ls) = nums ρ (sc k ls) := by
  have e : ((k.toNat : Nat) : Int) = k := by omega
  refine nums_same ?_ (fun p => ?_) (fun p q x => ?_)
  · unfold WW rep; rw [su_rep, su_sc k tot (tot_sc k), e]
  · unfold TT rep; rw [su_rep, su_sc k _ (fun w => rl_sc p 1 k w), e]
  · unfold rep; rw [su_rep, su_sc k _ (mid_sc p q x k), e]
theorem bears_rep {ρ : List Int} {k : Int} (hk : 0 ≤ k) (ls : List Row) : bearsD ρ (rep k ls) = bearsD ρ (sc k ls) := by unfold bearsD; rw [nums_rep hk]
def innD (p x : Int) : D → Bool
  | .int i => decide (p < i) && decide (i < x)
  | _ => false
theorem innD_inner (p x : Int) (w : Row) : (([D.int w.a, D.int w.b] : List D).filter (innD p x)).map (fun y => y) = (inner p x w).map D.int := by
  unfold inner
  rw [List.map_id']
  by_cases h1 : p < w.a ∧ w.a < x <;> by_cases h2 : p < w.b ∧ w.b < x <;> simp [List.filter_cons, innD, h1, h2]

/-! two loads together -/
abbrev frQ (n b : Int) : Int × Int := (frT n b, frB n b)
def toldP (ρ : List Int) (ls : List Row) (q : Int × Int) : List (Int × Int) := (nums ρ ls).map (fun n => frQ n (bot ρ)) ++ [frQ (tl ρ ls (nums ρ ls) (bot ρ) q.1 q.2) (2 * q.2 * q.2 * bot ρ)]
theorem told_get {ρ : List Int} {ls : List Row} {q x : Int × Int} {i : Nat} (h : (toldP ρ ls q)[i]? = some x) :
    (∃ n, (nums ρ ls)[i]? = some n ∧ x = frQ n (bot ρ)) ∨ (i = (nums ρ ls).length ∧ x = frQ (tl ρ ls (nums ρ ls) (bot ρ) q.1 q.2) (2 * q.2 * q.2 * bot ρ)) := by
  unfold toldP at h
  by_cases hi : i < (nums ρ ls).length
  · rw [List.getElem?_append_left (by rw [List.length_map]; exact hi), List.getElem?_map] at h
    left
    cases z : (nums ρ ls)[i]? with
    | none => rw [z] at h; cases h
    | some n =>
      rw [z] at h
      exact ⟨n, rfl, (Option.some.inj h).symm⟩
  · rw [List.getElem?_append_right (by rw [List.length_map]; omega), List.length_map] at h
    right
    have e : i - (nums ρ ls).length = 0 := by
      cases z : i - (nums ρ ls).length with
      | zero => rfl
      | succ k => rw [z] at h; simp at h
    rw [e] at h
    exact ⟨by omega, (Option.some.inj h).symm⟩
theorem told_len {ρ : List Int} {ls : List Row} {q : Int × Int} (h : Rs ρ) : (toldP ρ ls q).length = ρ.length + 1 := by
  unfold toldP
  rw [List.length_append, List.length_map, nums_len h]
  rfl
theorem nums_app {ρ : List Int} (h : Rs ρ) (l m : List Row) : nums ρ (l ++ m) = List.zipWith (· + ·) (nums ρ l) (nums ρ m) := by
  have hW : WW (l ++ m) = WW l + WW m := su_app _ l m
  have hT : ∀ p, TT p (l ++ m) = TT p l + TT p m := fun p => su_app _ l m
  cases h with
  | two a =>
    rename_i p q
    show [_, _] = [_, _]
    rw [hW, hT, Int.mul_add]
    congr 1
    show 2 * (q - p) * WW l + 2 * (q - p) * WW m - (TT p l + TT p m) = (2 * (q - p) * WW l - TT p l) + (2 * (q - p) * WW m - TT p m)
    omega
  | three a b =>
    rename_i p q r
    have hM : su (mid p q r) (l ++ m) = su (mid p q r) l + su (mid p q r) m := su_app _ l m
    show [_, _, _] = [_, _, _]
    simp only [hW, hT, hM]
    congr 1
    · grind
    · congr 1
      · grind
      · congr 1
        grind
theorem zs_add (f : Int → Int) : ∀ (ρ ν μ : List Int), ν.length = μ.length → zs ρ (List.zipWith (· + ·) ν μ) f = zs ρ ν f + zs ρ μ f
  | [], _, _, _ => by simp [zs]
  | _ :: _, [], [], _ => by simp [zs]
  | x :: ρ, n :: ν, k :: μ, h => by
    simp only [List.zipWith_cons_cons, zs]
    rw [zs_add f ρ ν μ (by simpa using h), Int.add_mul]
    omega
theorem tl_app {ρ : List Int} (h : Rs ρ) (l m : List Row) (t d : Int) : tl ρ (l ++ m) (nums ρ (l ++ m)) (bot ρ) t d = tl ρ l (nums ρ l) (bot ρ) t d + tl ρ m (nums ρ m) (bot ρ) t d := by
  unfold tl
  rw [nums_app h, zs_add _ _ _ _ (by rw [nums_len h, nums_len h]), su_app, Int.mul_add]
  omega
def sumQ (x y z : Int × Int) : Prop := z.1 * x.2 * y.2 = (x.1 * y.2 + y.1 * x.2) * z.2
theorem sumQ_fr {n m b : Int} (hb : b ≠ 0) : sumQ (frQ n b) (frQ m b) (frQ (n + m) b) := by
  have h1 := fr_cross (t := n) (b := b) hb
  have h2 := fr_cross (t := m) (b := b) hb
  have h3 := fr_cross (t := n + m) (b := b) hb
  show frT (n + m) b * frB n b * frB m b = (frT n b * frB m b + frT m b * frB n b) * frB (n + m) b
  generalize frT n b = x1 at *
  generalize frB n b = x2 at *
  generalize frT m b = y1 at *
  generalize frB m b = y2 at *
  generalize frT (n + m) b = z1 at *
  generalize frB (n + m) b = z2 at *
  apply Int.eq_of_mul_eq_mul_right hb
  have e1 : z1 * x2 * y2 * b = (z1 * b) * (x2 * y2) := by grind
  have e2 : (x1 * y2 + y1 * x2) * z2 * b = (x1 * b) * (y2 * z2) + (y1 * b) * (x2 * z2) := by grind
  rw [e1, e2, h1, h2, h3]
  grind
theorem told_sum {ρ : List Int} (h : Rs ρ) (l m : List Row) {q : Int × Int} (hq : 1 ≤ q.2) {i : Nat} {x y z : Int × Int} (hx : (toldP ρ l q)[i]? = some x) (hy : (toldP ρ m q)[i]? = some y) (hz : (toldP ρ (l ++ m) q)[i]? = some z) : sumQ x y z := by
  have hb := bot_pos h
  have hb2 : 2 * q.2 * q.2 * bot ρ ≠ 0 := Int.mul_ne_zero (Int.mul_ne_zero (by omega) (by omega)) (by omega)
  have l1 := nums_len h l
  have l2 := nums_len h m
  have l3 := nums_len h (l ++ m)
  rcases told_get hz with ⟨c, gc, rfl⟩ | ⟨ei, rfl⟩
  · have hi := (List.getElem?_eq_some_iff.mp gc).1
    rcases told_get hx with ⟨a, ga, rfl⟩ | ⟨e, _⟩
    · rcases told_get hy with ⟨b, gb, rfl⟩ | ⟨e, _⟩
      · rw [nums_app h, List.getElem?_zipWith, ga, gb] at gc
        obtain rfl := Option.some.inj gc
        exact sumQ_fr (by omega)
      · omega
    · omega
  · rcases told_get hx with ⟨a, ga, rfl⟩ | ⟨e, rfl⟩
    · have := (List.getElem?_eq_some_iff.mp ga).1; omega
    · rcases told_get hy with ⟨b, gb, rfl⟩ | ⟨e, rfl⟩
      · have := (List.getElem?_eq_some_iff.mp gb).1; omega
      · rw [tl_app h]
        exact sumQ_fr hb2
/-! so many times as great -/
theorem nums_times {ρ : List Int} (h : Rs ρ) (k : Int) (l : List Row) : nums ρ (sc k l) = (nums ρ l).map fun n => k * n := by
  have hW : WW (sc k l) = k * WW l := su_sc k tot (tot_sc k) l
  have hT : ∀ p, TT p (sc k l) = k * TT p l := fun p => su_sc k _ (fun w => rl_sc p 1 k w) l
  cases h with
  | two a =>
    rename_i p q
    show [_, _] = [_, _]
    rw [hW, hT]
    congr 1
    grind
  | three a b =>
    rename_i p q r
    have hM : su (mid p q r) (sc k l) = k * su (mid p q r) l := su_sc k _ (mid_sc p q r k) l
    show [_, _, _] = [_, _, _]
    simp only [hW, hT, hM]
    congr 1
    · grind
    · congr 1
      · grind
      · congr 1
        grind
theorem zs_times (f : Int → Int) (k : Int) : ∀ (ρ ν : List Int), zs ρ (ν.map fun n => k * n) f = k * zs ρ ν f
  | [], _ => by simp [zs]
  | _ :: _, [] => by simp [zs]
  | x :: ρ, n :: ν => by
    simp only [List.map_cons, zs]
    rw [zs_times f k ρ ν]
    grind
theorem tl_times {ρ : List Int} (h : Rs ρ) (k : Int) (l : List Row) (t d : Int) : tl ρ (sc k l) (nums ρ (sc k l)) (bot ρ) t d = k * tl ρ l (nums ρ l) (bot ρ) t d := by
  unfold tl
  rw [nums_times h, zs_times, su_sc k _ (fun w => lft_sc t d k w)]
  grind
def timesQ (k : Int) (x z : Int × Int) : Prop := z.1 * x.2 = x.1 * k * z.2
theorem timesQ_fr {n k b : Int} (hb : b ≠ 0) : timesQ k (frQ n b) (frQ (k * n) b) := by
  have h1 := fr_cross (t := n) (b := b) hb
  have h3 := fr_cross (t := k * n) (b := b) hb
  show frT (k * n) b * frB n b = frT n b * k * frB (k * n) b
  generalize frT n b = x1 at *
  generalize frB n b = x2 at *
  generalize frT (k * n) b = z1 at *
  generalize frB (k * n) b = z2 at *
  apply Int.eq_of_mul_eq_mul_right hb
  have e1 : z1 * x2 * b = (z1 * b) * x2 := by grind
  have e2 : x1 * k * z2 * b = (x1 * b) * (k * z2) := by grind
  rw [e1, e2, h1, h3]
  grind
theorem told_times {ρ : List Int} (h : Rs ρ) (k : Int) (l : List Row) {q : Int × Int} (hq : 1 ≤ q.2) {i : Nat} {x z : Int × Int} (hx : (toldP ρ l q)[i]? = some x) (hz : (toldP ρ (sc k l) q)[i]? = some z) : timesQ k x z := by
  have hb := bot_pos h
  have hb2 : 2 * q.2 * q.2 * bot ρ ≠ 0 := Int.mul_ne_zero (Int.mul_ne_zero (by omega) (by omega)) (by omega)
  have l1 := nums_len h l
  have l3 := nums_len h (sc k l)
  rcases told_get hz with ⟨c, gc, rfl⟩ | ⟨ei, rfl⟩
  · have hi := (List.getElem?_eq_some_iff.mp gc).1
    rcases told_get hx with ⟨a, ga, rfl⟩ | ⟨e, _⟩
    · rw [nums_times h, List.getElem?_map, ga] at gc
      obtain rfl := Option.some.inj gc
      exact timesQ_fr (by omega)
    · omega
  · rcases told_get hx with ⟨a, ga, rfl⟩ | ⟨e, rfl⟩
    · have := (List.getElem?_eq_some_iff.mp ga).1; omega
    · rw [tl_times h]
      exact timesQ_fr hb2
/-! the same told -/
theorem told_same {ρ : List Int} {l m : List Row} {q : Int × Int} (h : ∀ f : Row → Int, (f = tot ∨ (∃ p, f = fun r => rgt r p 1 - lft r p 1) ∨ (∃ p x y, f = mid p x y) ∨ ∃ t d, f = fun r => lft r t d) → su f l = su f m) : toldP ρ l q = toldP ρ m q := by
  have e : nums ρ l = nums ρ m := nums_same (h _ (.inl rfl)) (fun p => h _ (.inr (.inl ⟨p, rfl⟩))) fun p x y => h _ (.inr (.inr (.inl ⟨p, x, y, rfl⟩)))
  unfold toldP tl
  rw [e, h (fun r => lft r q.1 q.2) (.inr (.inr (.inr ⟨_, _, rfl⟩)))]
theorem told_rev {ρ : List Int} {l : List Row} {q : Int × Int} : toldP ρ l.reverse q = toldP ρ l q := told_same fun f _ => su_rev f l
def cutRow (c : Int) (w : Row) : List Row :=
  if w.a = w.b then [⟨w.a, w.b, w.n / 2⟩, ⟨w.a, w.b, w.n - w.n / 2⟩] else if w.b - w.a = 1 then [w] else [⟨w.a, w.a + 1 + c % (w.b - w.a - 1), w.n⟩, ⟨w.a + 1 + c % (w.b - w.a - 1), w.b, w.n⟩]
def cutLs (c : Int) (ls : List Row) : List Row := ls.flatMap (cutRow c)
theorem su_cut {c : Int} {f : Row → Int} {l : List Row} (h : ∀ w, w ∈ l → su f (cutRow c w) = f w) : su f (cutLs c l) = su f l := by
  unfold cutLs
  induction l with
  | nil => rfl
  | cons w l ih =>
    rw [List.flatMap_cons, su_app, su_cons, h w (by simp), ih fun v hv => h v (by simp [hv])]
theorem cut_at {c a b : Int} (h1 : a ≤ b) (h2 : ¬ a = b) (h3 : ¬ b - a = 1) : a < a + 1 + c % (b - a - 1) ∧ a + 1 + c % (b - a - 1) < b := by
  have := Int.emod_nonneg c (show b - a - 1 ≠ 0 by omega)
  have := Int.emod_lt_of_pos c (show 0 < b - a - 1 by omega)
  omega
theorem told_cut {ρ : List Int} {l : List Row} {q : Int × Int} {c : Int} (hl : ∀ w, w ∈ l → w.a ≤ w.b) : toldP ρ (cutLs c l) q = toldP ρ l q := told_same fun f hf => su_cut fun w hw => by
  have le := hl w hw
  obtain ⟨a, b, n⟩ := w
  simp only at le
  have one : ∀ x : Row, su f [x] = f x := fun x => by rw [su_cons, su_nil, Int.add_zero]
  have two : ∀ x y : Row, su f [x, y] = f x + f y := fun x y => by rw [su_cons, one]
  have hn : n / 2 + (n - n / 2) = n := by omega
  unfold cutRow
  simp only
  split
  · rename_i e
    subst e
    rw [two]
    generalize n / 2 = n1 at *
    have e2 : n - n1 = n - n1 := rfl
    have e3 : n = n1 + (n - n1) := by omega
    generalize n - n1 = n2 at *
    subst e3
    rcases hf with rfl | ⟨p, rfl⟩ | ⟨p, x, y, rfl⟩ | ⟨t, d, rfl⟩
    · show tot _ + tot _ = tot _
      unfold tot
      simp
    · simp only [rgt_lft]
      unfold mo tot
      simp
      grind
    · show mid p x y _ + mid p x y _ = mid p x y _
      unfold mid
      simp only [if_true]
      split <;> grind
    · show lft _ t d + lft _ t d = lft _ t d
      unfold lft
      simp only [if_true]
      grind
  · rename_i e
    split
    · rw [one]
    · rename_i e2
      obtain ⟨m1, m2⟩ := cut_at (c := c) le e e2
      rw [two]
      generalize a + 1 + c % (b - a - 1) = m at *
      have n1 : ¬ a = m := by omega
      have n2 : ¬ m = b := by omega
      rcases hf with rfl | ⟨p, rfl⟩ | ⟨p, x, y, rfl⟩ | ⟨t, d, rfl⟩
      · show tot _ + tot _ = tot _
        unfold tot
        simp only [if_neg n1, if_neg n2, if_neg e]
        grind
      · simp only [rgt_lft]
        unfold mo tot
        simp only [if_neg n1, if_neg n2, if_neg e]
        grind
      · show mid p x y _ + mid p x y _ = mid p x y _
        unfold mid
        simp only [if_neg n1, if_neg n2, if_neg e]
        grind
      · show lft _ t d + lft _ t d = lft _ t d
        unfold lft
        simp only [if_neg n1, if_neg n2, if_neg e]
        grind
def R_cut : List D → Except Value (List D) → Prop := fun ds r => ∃ (ls : List Row) (c : Int), (∀ w, w ∈ ls → w.a ≤ w.b) ∧ ls.length ≤ 20 ∧ ds = [rowsD ls, .int c] ∧ r = .ok ((cutLs c ls).map rowD)
def R_told (cs : Cs) : List D → Except Value (List D) → Prop := fun ds r => ∃ (L : Int) (ρ : List Int) (ls : List Row) (dl : D) (q : Int × Int) (ah : Bool), seqL dl = some (ldsD cs ls) ∧ Rs ρ ∧ Brs ρ ∧ Bd 210 L ∧ Ls ls ∧ ls.all (onB L) = true ∧ Pl L q ∧
  ds = [bmD cs L ρ, dl, plD q, .int (((ρ.map D.int).length : Nat) : Int), .bl ah] ∧ r = .ok ((toldP ρ ls q).map plD)
def Bq (x : Int × Int) : Prop := Bd 6000 x.1 ∧ Bd 6000 x.2
def R_issum : List D → Except Value D → Prop := fun ds r => ∃ a b c : List (Int × Int), (∀ x, x ∈ a → Bq x) ∧ (∀ x, x ∈ b → Bq x) ∧ (∀ x, x ∈ c → Bq x) ∧ (∀ (i : Nat) (x y z : Int × Int), a[i]? = some x → b[i]? = some y → c[i]? = some z → sumQ x y z) ∧ ds = [plsD a, plsD b, plsD c] ∧ r = .ok (.bl true)
def R_istimes : List D → Except Value D → Prop := fun ds r => ∃ (a c : List (Int × Int)) (k : Int), (∀ x, x ∈ a → Bq x) ∧ (∀ x, x ∈ c → Bq x) ∧ Bd 100 k ∧ (∀ (i : Nat) (x z : Int × Int), a[i]? = some x → c[i]? = some z → timesQ k x z) ∧ ds = [plsD a, .int k, plsD c] ∧ r = .ok (.bl true)
theorem told_bq {L : Int} {ρ : List Int} {ls : List Row} {q : Int × Int} (hr : Rs ρ) (hb : Brs ρ) (hl : Ls ls) (h : Pl L q) : ∀ x, x ∈ toldP ρ ls q → Bq x := fun x hx => by
  have h0 := bot_pos hr
  have hp := h.pos
  have hne : 2 * q.2 * q.2 * bot ρ ≠ 0 := Int.mul_ne_zero (Int.mul_ne_zero (by omega) (by omega)) (by omega)
  obtain ⟨i, hi⟩ := List.getElem?_of_mem hx
  rcases told_get hi with ⟨n, gn, rfl⟩ | ⟨_, rfl⟩
  · have bn := nums_bd hb hl n (List.mem_of_getElem? gn)
    exact ⟨(frT_bd (by omega) bn).mono (by decide), (frB_bd (by omega) (bot_bd hb)).mono (by decide)⟩
  · exact ⟨(frT_bd hne (tl_bd (p := 300) (m := 2870) hr hb hl h.bt h.bd (by decide))).mono (by decide), (frB_bd hne (((((Bd.lit (x := 2) (a := 2) rfl).mul h.bd).mul h.bd).mul (bot_bd hb)).mono (by decide : _ ≤ 6000)))⟩
theorem cut_take {c : Int} {l : List Row} {i : Nat} {w : Row} (h : l[i]? = some w) : cutLs c (l.take (i + 1)) = cutLs c (l.take i) ++ cutRow c w := by
  unfold cutLs
  rw [List.take_add_one, h, List.flatMap_append]
  simp
theorem cutRow_len (c : Int) (w : Row) : (cutRow c w).length ≤ 2 := by
  unfold cutRow
  split
  · exact Nat.le_refl 2
  split
  · exact Nat.le_of_ble_eq_true rfl
  · exact Nat.le_refl 2
theorem cutLs_len (c : Int) : ∀ l : List Row, (cutLs c l).length ≤ 2 * l.length
  | [] => Nat.le_refl 0
  | w :: l => by
    unfold cutLs
    rw [List.flatMap_cons, List.length_append, List.length_cons]
    have := cutRow_len c w
    have := cutLs_len c l
    unfold cutLs at this
    omega
theorem bq_get {a : List (Int × Int)} {i : Nat} {x : D} (h : (a.map plD)[i]? = some x) (hb : ∀ x, x ∈ a → Bq x) : ∃ q, a[i]? = some q ∧ Bq q ∧ x = plD q := by
  obtain ⟨q, h1, h2, h3⟩ := plsD_get h
  exact ⟨q, h1, hb q h2, h3⟩
theorem told_D (ρ : List Int) (ls : List Row) (q : Int × Int) : bearsD ρ ls ++ [wiD ρ ls q.1 q.2] = (toldP ρ ls q).map plD := by
  unfold toldP bearsD
  rw [List.map_append, List.map_map]
  rfl
theorem told_frac {ρ : List Int} {ls : List Row} {q : Int × Int} (hr : Rs ρ) (hq : 1 ≤ q.2) : ∀ x, x ∈ toldP ρ ls q → 1 ≤ x.2 ∧ Int.gcd x.1 x.2 = 1 := fun x hx => by
  have h0 := bot_pos hr
  have hne : 2 * q.2 * q.2 * bot ρ ≠ 0 := Int.mul_ne_zero (Int.mul_ne_zero (by omega) (by omega)) (by omega)
  obtain ⟨i, hi⟩ := List.getElem?_of_mem hx
  rcases told_get hi with ⟨n, gn, rfl⟩ | ⟨_, rfl⟩
  · exact ⟨frB_one (by omega), fr_gcd (by omega)⟩
  · exact ⟨frB_one hne, fr_gcd hne⟩

def timesOf (c : Int) : Int := if c % 4 = 1 then c / 4 % 7 - 3 else c % (2 * 10 ^ 20 + 1) - 10 ^ 20
theorem times_bd (c : Int) : Bd 100 (timesOf c) := by
  unfold timesOf
  split
  · exact ((bd_mod (n := 12) (by decide) (by exact rfl)).sub (Bd.lit (x := 3) (a := 4) rfl)).mono (by decide)
  · exact ((bd_mod (n := 68) (by decide) (by exact rfl)).sub (Bd.lit (x := 10 ^ 20) (a := 68) (by exact rfl))).mono (by decide)
theorem cut_ro {m k : Nat} {L c : Int} {l : List Row} (h : ∀ w, w ∈ l → Ro m k L w) : ∀ w, w ∈ cutLs c l → Ro m (k + 2) L w := fun w hw => by
  unfold cutLs at hw
  obtain ⟨v, hv, hw⟩ := List.mem_flatMap.mp hw
  obtain ⟨le, lo, hi, bn⟩ := h v hv
  have b2 : Bd (k + 2) v.n := bn.mono (by omega)
  have h2 : Bd k (v.n / 2) := by
    refine Bd.le (y := v.n) ?_ bn
    omega
  unfold cutRow at hw
  split at hw
  · simp only [List.mem_cons, List.not_mem_nil, or_false] at hw
    rcases hw with rfl | rfl
    · exact ⟨le, lo, hi, h2.mono (by omega)⟩
    · exact ⟨le, lo, hi, (bn.sub h2).mono (by omega)⟩
  · split at hw
    · obtain rfl : w = v := by simpa using hw
      exact ⟨le, lo, hi, b2⟩
    · rename_i e1 e2
      obtain ⟨m1, m2⟩ := cut_at (c := c) le e1 e2
      simp only [List.mem_cons, List.not_mem_nil, or_false] at hw
      rcases hw with rfl | rfl
      · exact ⟨by show v.a ≤ v.a + 1 + c % (v.b - v.a - 1); omega, lo, by show v.a + 1 + c % (v.b - v.a - 1) ≤ L; omega, b2⟩
      · exact ⟨by show v.a + 1 + c % (v.b - v.a - 1) ≤ v.b; omega, by show 0 ≤ v.a + 1 + c % (v.b - v.a - 1); omega, hi, b2⟩
theorem sc_ro {m k j : Nat} {L c : Int} {l : List Row} (hc : Bd j c) (h : ∀ w, w ∈ l → Ro m k L w) : ∀ w, w ∈ sc c l → Ro m (k + j) L w := fun w hw => by
  obtain ⟨v, hv, rfl⟩ := List.mem_map.mp hw
  obtain ⟨le, lo, hi, bn⟩ := h v hv
  exact ⟨le, lo, hi, bn.mul hc⟩
theorem dat_told {l : List (Int × Int)} : isDat (plsD l) 9 = true := dat_lst (isDats_map (fun _ => by simp [isDat, isDats]) _)
theorem noLL_told {l : List (Int × Int)} : noLL (l.map plD) = true := noLL_map (fun _ => by simp [noL, noLL]) _
theorem lds_drop (cs : Cs) (l : List Row) (k : Nat) : (ldsD cs l).drop k = ldsD cs (l.drop k) := by unfold ldsD; rw [List.map_drop]
theorem lds_take (cs : Cs) (l : List Row) (k : Nat) : (ldsD cs l).take k = ldsD cs (l.take k) := by unfold ldsD; rw [List.map_take]
theorem lds_rev (cs : Cs) (l : List Row) : (ldsD cs l).reverse = ldsD cs l.reverse := by unfold ldsD; rw [List.map_reverse]
theorem lds_insD {cs : Cs} {l : List Row} : ∀ y, y ∈ ldsD cs l → ∃ C ns fs, y = .ins C ns fs := fun y hy => by
  obtain ⟨w, _, rfl⟩ := lds_mem hy
  unfold ldD
  split <;> exact ⟨_, _, _, rfl⟩

end Bl
namespace K08
open PySem L2 Bl
def top (i : Nat) : Stmt := PySem.Challenge.pw_beamload_k08_whole_two_loads_together.main.body.getD i (.Pass ⟨0, 0, 0, 0⟩)
abbrev s_divisor : Stmt := top 8
abbrev N_divisor : List Str := ["one", "other"]
abbrev P_divisor : List Str := ["one", "other"]
theorem sc_divisor : FnScope N_divisor P_divisor (defScope s_divisor) := ⟨rfl, rfl, rfl, by decide +kernel, rfl, by decide +kernel, by decide +kernel⟩
abbrev s_fraction : Stmt := top 9
abbrev N_fraction : List Str := ["top", "bottom", "by"]
abbrev P_fraction : List Str := ["top", "bottom"]
theorem sc_fraction : FnScope N_fraction P_fraction (defScope s_fraction) := ⟨rfl, rfl, rfl, by decide +kernel, rfl, by decide +kernel, by decide +kernel⟩
abbrev s_part_at : Stmt := top 16
abbrev N_part_at : List Str := ["inward", "near", "far"]
abbrev P_part_at : List Str := ["inward", "near", "far"]
theorem sc_part_at : FnScope N_part_at P_part_at (defScope s_part_at) := ⟨rfl, rfl, rfl, by decide +kernel, rfl, by decide +kernel, by decide +kernel⟩
abbrev s_sum_to : Stmt := top 17
abbrev N_sum_to : List Str := ["inward", "near", "far"]
abbrev P_sum_to : List Str := ["inward", "near", "far"]
theorem sc_sum_to : FnScope N_sum_to P_sum_to (defScope s_sum_to) := ⟨rfl, rfl, rfl, by decide +kernel, rfl, by decide +kernel, by decide +kernel⟩
abbrev s_Weight_init : Stmt := inClass (top 20) 0
abbrev N_Weight_init : List Str := ["self", "place", "size"]
abbrev P_Weight_init : List Str := ["self", "place", "size"]
theorem sc_Weight_init : FnScope N_Weight_init P_Weight_init (defScope s_Weight_init) := ⟨rfl, rfl, rfl, by decide +kernel, rfl, by decide +kernel, by decide +kernel⟩
abbrev s_Spread_init : Stmt := inClass (top 21) 0
abbrev N_Spread_init : List Str := ["self", "start", "end", "each"]
abbrev P_Spread_init : List Str := ["self", "start", "end", "each"]
theorem sc_Spread_init : FnScope N_Spread_init P_Spread_init (defScope s_Spread_init) := ⟨rfl, rfl, rfl, by decide +kernel, rfl, by decide +kernel, by decide +kernel⟩
abbrev s_Weight_ends : Stmt := inClass (top 20) 1
abbrev N_Weight_ends : List Str := ["self"]
abbrev P_Weight_ends : List Str := ["self"]
theorem sc_Weight_ends : FnScope N_Weight_ends P_Weight_ends (defScope s_Weight_ends) := ⟨rfl, rfl, rfl, by decide +kernel, rfl, by decide +kernel, by decide +kernel⟩
abbrev s_Spread_ends : Stmt := inClass (top 21) 1
abbrev N_Spread_ends : List Str := ["self"]
abbrev P_Spread_ends : List Str := ["self"]
theorem sc_Spread_ends : FnScope N_Spread_ends P_Spread_ends (defScope s_Spread_ends) := ⟨rfl, rfl, rfl, by decide +kernel, rfl, by decide +kernel, by decide +kernel⟩
abbrev s_Weight_total : Stmt := inClass (top 20) 2
abbrev N_Weight_total : List Str := ["self"]
abbrev P_Weight_total : List Str := ["self"]
theorem sc_Weight_total : FnScope N_Weight_total P_Weight_total (defScope s_Weight_total) := ⟨rfl, rfl, rfl, by decide +kernel, rfl, by decide +kernel, by decide +kernel⟩
abbrev s_Spread_total : Stmt := inClass (top 21) 2
abbrev N_Spread_total : List Str := ["self"]
abbrev P_Spread_total : List Str := ["self"]
theorem sc_Spread_total : FnScope N_Spread_total P_Spread_total (defScope s_Spread_total) := ⟨rfl, rfl, rfl, by decide +kernel, rfl, by decide +kernel, by decide +kernel⟩
abbrev s_Weight_left_part : Stmt := inClass (top 20) 4
abbrev N_Weight_left_part : List Str := ["self", "top", "bottom"]
abbrev P_Weight_left_part : List Str := ["self", "top", "bottom"]
theorem sc_Weight_left_part : FnScope N_Weight_left_part P_Weight_left_part (defScope s_Weight_left_part) := ⟨rfl, rfl, rfl, by decide +kernel, rfl, by decide +kernel, by decide +kernel⟩
abbrev s_Spread_left_part : Stmt := inClass (top 21) 5
abbrev N_Spread_left_part : List Str := ["self", "top", "bottom", "all_of_it", "beyond"]
abbrev P_Spread_left_part : List Str := ["self", "top", "bottom"]
theorem sc_Spread_left_part : FnScope N_Spread_left_part P_Spread_left_part (defScope s_Spread_left_part) := ⟨rfl, rfl, rfl, by decide +kernel, rfl, by decide +kernel, by decide +kernel⟩
abbrev s_Weight_right_part : Stmt := inClass (top 20) 5
abbrev N_Weight_right_part : List Str := ["self", "top", "bottom"]
abbrev P_Weight_right_part : List Str := ["self", "top", "bottom"]
theorem sc_Weight_right_part : FnScope N_Weight_right_part P_Weight_right_part (defScope s_Weight_right_part) := ⟨rfl, rfl, rfl, by decide +kernel, rfl, by decide +kernel, by decide +kernel⟩
abbrev s_Spread_right_part : Stmt := inClass (top 21) 6
abbrev N_Spread_right_part : List Str := ["self", "top", "bottom", "all_of_it", "beyond"]
abbrev P_Spread_right_part : List Str := ["self", "top", "bottom"]
theorem sc_Spread_right_part : FnScope N_Spread_right_part P_Spread_right_part (defScope s_Spread_right_part) := ⟨rfl, rfl, rfl, by decide +kernel, rfl, by decide +kernel, by decide +kernel⟩
abbrev s_Weight_middle_part : Stmt := inClass (top 20) 6
abbrev N_Weight_middle_part : List Str := ["self", "rests", "p", "q", "r"]
abbrev P_Weight_middle_part : List Str := ["self", "rests"]
theorem sc_Weight_middle_part : FnScope N_Weight_middle_part P_Weight_middle_part (defScope s_Weight_middle_part) := ⟨rfl, rfl, rfl, by decide +kernel, rfl, by decide +kernel, by decide +kernel⟩
abbrev s_Spread_middle_part : Stmt := inClass (top 21) 7
abbrev N_Spread_middle_part : List Str := ["self", "rests", "p", "q", "r", "near", "far", "found"]
abbrev P_Spread_middle_part : List Str := ["self", "rests"]
theorem sc_Spread_middle_part : FnScope N_Spread_middle_part P_Spread_middle_part (defScope s_Spread_middle_part) := ⟨rfl, rfl, rfl, by decide +kernel, rfl, by decide +kernel, by decide +kernel⟩
abbrev s_Beam_init : Stmt := inClass (top 14) 0
abbrev N_Beam_init : List Str := ["self", "length", "rests", "before", "rest"]
abbrev P_Beam_init : List Str := ["self", "length", "rests"]
theorem sc_Beam_init : FnScope N_Beam_init P_Beam_init (defScope s_Beam_init) := ⟨rfl, rfl, rfl, by decide +kernel, rfl, by decide +kernel, by decide +kernel⟩
abbrev s_Beam_parted : Stmt := inClass (top 14) 1
abbrev N_Beam_parted : List Str := ["self", "loads", "load", "start", "end", "first", "weight", "twice", "wide", "near", "far", "middle", "bottom", "last"]
abbrev P_Beam_parted : List Str := ["self", "loads"]
theorem sc_Beam_parted : FnScope N_Beam_parted P_Beam_parted (defScope s_Beam_parted) := ⟨rfl, rfl, rfl, by decide +kernel, rfl, by decide +kernel, by decide +kernel⟩
abbrev s_Beam_bears : Stmt := inClass (top 14) 2
abbrev N_Beam_bears : List Str := ["self", "loads", "numbers", "bottom", "number"]
abbrev P_Beam_bears : List Str := ["self", "loads"]
theorem sc_Beam_bears : FnScope N_Beam_bears P_Beam_bears (defScope s_Beam_bears) := ⟨rfl, rfl, rfl, by decide +kernel, rfl, by decide +kernel, by decide +kernel⟩
abbrev s_within : Stmt := top 11
abbrev N_within : List Str := ["beam", "parted", "loads", "x", "numbers", "bottom", "top", "rest", "number", "load"]
abbrev P_within : List Str := ["beam", "parted", "loads", "x"]
theorem sc_within : FnScope N_within P_within (defScope s_within) := ⟨rfl, rfl, rfl, by decide +kernel, rfl, by decide +kernel, by decide +kernel⟩
abbrev s_turning : Stmt := top 12
abbrev N_turning : List Str := ["beam", "loads", "x"]
abbrev P_turning : List Str := ["beam", "loads", "x"]
theorem sc_turning : FnScope N_turning P_turning (defScope s_turning) := ⟨rfl, rfl, rfl, by decide +kernel, rfl, by decide +kernel, by decide +kernel⟩
abbrev s_l_cell_at : Stmt := top 23
abbrev N_l_cell_at : List Str := ["_law_script", "_law_k"]
abbrev P_l_cell_at : List Str := ["_law_script", "_law_k"]
theorem sc_l_cell_at : FnScope N_l_cell_at P_l_cell_at (defScope s_l_cell_at) := ⟨rfl, rfl, rfl, by decide +kernel, rfl, by decide +kernel, by decide +kernel⟩
abbrev s_l_divisor : Stmt := top 25
abbrev N_l_divisor : List Str := ["_law_one", "_law_other"]
abbrev P_l_divisor : List Str := ["_law_one", "_law_other"]
theorem sc_l_divisor : FnScope N_l_divisor P_l_divisor (defScope s_l_divisor) := ⟨rfl, rfl, rfl, by decide +kernel, rfl, by decide +kernel, by decide +kernel⟩
abbrev s_l_number : Stmt := top 28
abbrev N_l_number : List Str := ["_law_cell"]
abbrev P_l_number : List Str := ["_law_cell"]
theorem sc_l_number : FnScope N_l_number P_l_number (defScope s_l_number) := ⟨rfl, rfl, rfl, by decide +kernel, rfl, by decide +kernel, by decide +kernel⟩
abbrev s_l_gap : Stmt := top 29
abbrev N_l_gap : List Str := ["_law_cell"]
abbrev P_l_gap : List Str := ["_law_cell"]
theorem sc_l_gap : FnScope N_l_gap P_l_gap (defScope s_l_gap) := ⟨rfl, rfl, rfl, by decide +kernel, rfl, by decide +kernel, by decide +kernel⟩
abbrev s_l_rests : Stmt := top 30
abbrev N_l_rests : List Str := ["_law_script", "_law_rests_here"]
abbrev P_l_rests : List Str := ["_law_script"]
theorem sc_l_rests : FnScope N_l_rests P_l_rests (defScope s_l_rests) := ⟨rfl, rfl, rfl, by decide +kernel, rfl, by decide +kernel, by decide +kernel⟩
abbrev s_l_spot : Stmt := top 31
abbrev N_l_spot : List Str := ["_law_cell", "_law_rests_here", "_law_length", "_law_edges"]
abbrev P_l_spot : List Str := ["_law_cell", "_law_rests_here", "_law_length"]
theorem sc_l_spot : FnScope N_l_spot P_l_spot (defScope s_l_spot) := ⟨rfl, rfl, rfl, by decide +kernel, rfl, by decide +kernel, by decide +kernel⟩
abbrev s_l_rows : Stmt := top 32
abbrev N_l_rows : List Str := ["_law_script", "_law_begin", "_law_many", "_law_rests_here", "_law_length", "_law_rows_here", "_law_k", "_law_one", "_law_other", "_law_cell"]
abbrev P_l_rows : List Str := ["_law_script", "_law_begin", "_law_many", "_law_rests_here", "_law_length"]
theorem sc_l_rows : FnScope N_l_rows P_l_rows (defScope s_l_rows) := ⟨rfl, rfl, rfl, by decide +kernel, rfl, by decide +kernel, by decide +kernel⟩
abbrev s_l_made : Stmt := top 33
abbrev N_l_made : List Str := ["_law_row"]
abbrev P_l_made : List Str := ["_law_row"]
theorem sc_l_made : FnScope N_l_made P_l_made (defScope s_l_made) := ⟨rfl, rfl, rfl, by decide +kernel, rfl, by decide +kernel, by decide +kernel⟩
abbrev s_l_whole : Stmt := top 24
abbrev N_l_whole : List Str := ["_law_found"]
abbrev P_l_whole : List Str := ["_law_found"]
theorem sc_l_whole : FnScope N_l_whole P_l_whole (defScope s_l_whole) := ⟨rfl, rfl, rfl, by decide +kernel, rfl, by decide +kernel, by decide +kernel⟩
abbrev s_l_is_fraction : Stmt := top 27
abbrev N_l_is_fraction : List Str := ["_law_found"]
abbrev P_l_is_fraction : List Str := ["_law_found"]
theorem sc_l_is_fraction : FnScope N_l_is_fraction P_l_is_fraction (defScope s_l_is_fraction) := ⟨rfl, rfl, rfl, by decide +kernel, rfl, by decide +kernel, by decide +kernel⟩
abbrev s_l_lowest : Stmt := top 26
abbrev N_l_lowest : List Str := ["_law_top", "_law_bottom", "_law_by"]
abbrev P_l_lowest : List Str := ["_law_top", "_law_bottom"]
theorem sc_l_lowest : FnScope N_l_lowest P_l_lowest (defScope s_l_lowest) := ⟨rfl, rfl, rfl, by decide +kernel, rfl, by decide +kernel, by decide +kernel⟩
abbrev s_l_place : Stmt := top 34
abbrev N_l_place : List Str := ["_law_one", "_law_other", "_law_length", "_law_bottom", "_law_top"]
abbrev P_l_place : List Str := ["_law_one", "_law_other", "_law_length"]
theorem sc_l_place : FnScope N_l_place P_l_place (defScope s_l_place) := ⟨rfl, rfl, rfl, by decide +kernel, rfl, by decide +kernel, by decide +kernel⟩
abbrev s_l_cut : Stmt := top 35
abbrev N_l_cut : List Str := ["_law_rows_here", "_law_cell", "_law_found", "_law_start", "_law_end", "_law_number_here", "_law_at"]
abbrev P_l_cut : List Str := ["_law_rows_here", "_law_cell"]
theorem sc_l_cut : FnScope N_l_cut P_l_cut (defScope s_l_cut) := ⟨rfl, rfl, rfl, by decide +kernel, rfl, by decide +kernel, by decide +kernel⟩
abbrev s_l_told : Stmt := top 36
abbrev N_l_told : List Str := ["_law_beam", "_law_loads", "_law_x", "_law_many", "_law_ahead", "_law_turned", "_law_borne", "_law_found", "_law_one"]
abbrev P_l_told : List Str := ["_law_beam", "_law_loads", "_law_x", "_law_many", "_law_ahead"]
theorem sc_l_told : FnScope N_l_told P_l_told (defScope s_l_told) := ⟨rfl, rfl, rfl, by decide +kernel, rfl, by decide +kernel, by decide +kernel⟩
abbrev s_l_is_sum : Stmt := top 37
abbrev N_l_is_sum : List Str := ["_law_ones", "_law_others", "_law_both", "_law_one", "_law_other", "_law_found", "_law_top"]
abbrev P_l_is_sum : List Str := ["_law_ones", "_law_others", "_law_both"]
theorem sc_l_is_sum : FnScope N_l_is_sum P_l_is_sum (defScope s_l_is_sum) := ⟨rfl, rfl, rfl, by decide +kernel, rfl, by decide +kernel, by decide +kernel⟩
abbrev s_l_is_times : Stmt := top 38
abbrev N_l_is_times : List Str := ["_law_ones", "_law_times", "_law_more", "_law_one", "_law_found"]
abbrev P_l_is_times : List Str := ["_law_ones", "_law_times", "_law_more"]
theorem sc_l_is_times : FnScope N_l_is_times P_l_is_times (defScope s_l_is_times) := ⟨rfl, rfl, rfl, by decide +kernel, rfl, by decide +kernel, by decide +kernel⟩
abbrev s_law : Stmt := top 39
abbrev N_law : List Str := ["_law_script", "_law_rests_here", "_law_length", "_law_rows_here", "_law_x", "_law_split", "_law_cell", "_law_times", "_law_loads", "_law_row", "_law_cut_here", "_law_more", "_law_start", "_law_end", "_law_number_here", "_law_ahead", "_law_handed", "_law_beam", "_law_first", "_law_found", "_law_some", "_law_told_here"]
abbrev P_law : List Str := ["_law_script"]
theorem sc_law : FnScope N_law P_law (defScope s_law) := ⟨rfl, rfl, rfl, by decide +kernel, rfl, by decide +kernel, by decide +kernel⟩
structure Tx (K : PySem.W.Frag) (mg : Str → Option Value) (cs : Cs) : Prop where
  n_abs : mg "abs" = none
  n_max : mg "max" = none
  n_min : mg "min" = none
  n_len : mg "len" = none
  n_sum : mg "sum" = none
  n_isinstance : mg "isinstance" = none
  n_list : mg "list" = none
  n_tuple : mg "tuple" = none
  n_int : mg "int" = none
  n_bool : mg "bool" = none
  n_range : mg "range" = none
  n_zip : mg "zip" = none
  n_reversed : mg "reversed" = none
  g_NoNumber : mg "NoNumber" = some (.ref cs.NoNumber)
  g_NoLoad : mg "NoLoad" = some (.ref cs.NoLoad)
  g_NoBeam : mg "NoBeam" = some (.ref cs.NoBeam)
  g_OffBeam : mg "OffBeam" = some (.ref cs.OffBeam)
  g_Weight : mg "Weight" = some (.ref cs.Weight)
  g_Spread : mg "Spread" = some (.ref cs.Spread)
  g_Beam : mg "Beam" = some (.ref cs.Beam)
  x_NoNumber : PySem.W.excIn K cs.NoNumber [.type "ValueError", .type "Exception", .type "BaseException", .type "object"] "ValueError.__new__" = true
  k_NoNumber : PySem.W.keepIn K (.ref cs.NoNumber) = true
  b_NoNumber : PySem.W.subIn K (.ref cs.NoNumber) (.type "BaseException") = some true
  t_NoNumber : PySem.W.typeIn K (.ref cs.NoNumber) = some (.type "type")
  x_NoLoad : PySem.W.excIn K cs.NoLoad [.type "ValueError", .type "Exception", .type "BaseException", .type "object"] "ValueError.__new__" = true
  k_NoLoad : PySem.W.keepIn K (.ref cs.NoLoad) = true
  b_NoLoad : PySem.W.subIn K (.ref cs.NoLoad) (.type "BaseException") = some true
  t_NoLoad : PySem.W.typeIn K (.ref cs.NoLoad) = some (.type "type")
  x_NoBeam : PySem.W.excIn K cs.NoBeam [.type "ValueError", .type "Exception", .type "BaseException", .type "object"] "ValueError.__new__" = true
  k_NoBeam : PySem.W.keepIn K (.ref cs.NoBeam) = true
  b_NoBeam : PySem.W.subIn K (.ref cs.NoBeam) (.type "BaseException") = some true
  t_NoBeam : PySem.W.typeIn K (.ref cs.NoBeam) = some (.type "type")
  x_OffBeam : PySem.W.excIn K cs.OffBeam [.type "ValueError", .type "Exception", .type "BaseException", .type "object"] "ValueError.__new__" = true
  k_OffBeam : PySem.W.keepIn K (.ref cs.OffBeam) = true
  b_OffBeam : PySem.W.subIn K (.ref cs.OffBeam) (.type "BaseException") = some true
  t_OffBeam : PySem.W.typeIn K (.ref cs.OffBeam) = some (.type "type")
  cl_Weight : Cls K cs.Weight
  na_Weight_place : NoAttr K cs.Weight "place"
  na_Weight_size : NoAttr K cs.Weight "size"
  cl_Spread : Cls K cs.Spread
  na_Spread_start : NoAttr K cs.Spread "start"
  na_Spread_end : NoAttr K cs.Spread "end"
  na_Spread_each : NoAttr K cs.Spread "each"
  cl_Beam : Cls K cs.Beam
  na_Beam_length : NoAttr K cs.Beam "length"
  na_Beam_rests : NoAttr K cs.Beam "rests"
end K08
namespace K08
open PySem L2 Bl
/-! how a body is gone through: ev an expression, tv a test, ar arguments, st a block's next statement, bd the bits of a number -/
set_option hygiene false in
local macro_rules | `(tactic| walk_at "bdn") => `(tactic| first
  | ((with_reducible show Bd _ _); walk_at "bd")
  | ((fail_if_success (with_reducible show Bd _ _)); skip))
set_option hygiene false in
local macro_rules | `(tactic| walk_at "bd") => `(tactic| first
  | with_reducible assumption
  | ((with_reducible show Bd _ (_ * _)); first | ((refine' Bd.mul ?_ ?_) <;> walk_at "bdn"))
  | ((with_reducible show Bd _ (_ + _)); first | ((refine' Bd.add ?_ ?_) <;> walk_at "bdn"))
  | ((with_reducible show Bd _ (_ - _)); first | ((refine' Bd.sub ?_ ?_) <;> walk_at "bdn"))
  | ((with_reducible show Bd _ (-_)); first | ((refine' Bd.neg ?_) <;> walk_at "bdn"))
  | ((with_reducible show Bd _ (OfNat.ofNat _)); first | exact Bd.lit (a := 64) (by exact rfl) | exact Bd.lit (a := 210) (by exact rfl))
  | ((with_reducible show Bd _ (imax _ _)); first | ((refine' Bd.imax ?_ ?_) <;> walk_at "bdn"))
  | ((with_reducible show Bd _ (imin _ _)); first | ((refine' Bd.imin ?_ ?_) <;> walk_at "bdn"))
  | ((with_reducible show Bd _ (numOf _ _)); first | exact numOf_bd (n := 60) (m := 200) (by exact rfl) (by decide) _ | exact numOf_bd (n := 20) (m := 67) (by exact rfl) (by decide) _)
  | ((with_reducible show Bd _ (_ % _)); first | exact bd_mod (n := 12) (by decide) (by exact rfl) | exact bd_mod (n := 68) (by decide) (by exact rfl) | exact bd_mod (n := 200) (by decide) (by exact rfl) | ((refine' bd_emod ?_ (by first | assumption | omega)) <;> walk_at "bdn"))
  | ((with_reducible show Bd _ (lft _ _ _)); first | exact lft_bd (p := 420) (m := 1570) (by with_reducible assumption) (by with_reducible assumption) (by with_reducible assumption) (by decide) | exact lft_bd (p := 3000) (m := 6730) (by with_reducible assumption) (by with_reducible assumption) (by with_reducible assumption) (by decide))
  | ((with_reducible show Bd _ (rgt _ _ _)); first | exact rgt_bd (p := 420) (m := 1570) (by with_reducible assumption) (by with_reducible assumption) (by with_reducible assumption) (by decide) | exact rgt_bd (p := 3000) (m := 6730) (by with_reducible assumption) (by with_reducible assumption) (by with_reducible assumption) (by decide))
  | ((with_reducible show Bd _ (tot _)); first | exact tot_bd (by with_reducible assumption))
  | ((with_reducible show Bd _ (frT _ _)); first | ((refine' frT_bd (by first | with_reducible assumption | omega) ?_) <;> walk_at "bdn"))
  | ((with_reducible show Bd _ (frB _ _)); first | ((refine' frB_bd (by first | with_reducible assumption | omega) ?_) <;> walk_at "bdn"))
  | walk_at "bdx")
set_option hygiene false in
local macro_rules | `(tactic| walk_at "mul") => `(tactic| first
  | exact Bd.cmul (by walk_at "bd") (by walk_at "bd") (by exact Nat.le_of_ble_eq_true rfl)
  | skip)
set_option hygiene false in
local macro_rules | `(tactic| walk_at "kit") => `(tactic| first
  | with_reducible exact kit_int_int
  | with_reducible exact kit_int_bool
  | with_reducible exact kit_int_tuple
  | with_reducible exact kit_int_list
  | with_reducible exact kit_bool_int
  | with_reducible exact kit_bool_bool
  | with_reducible exact kit_bool_tuple
  | with_reducible exact kit_bool_list
  | with_reducible exact kit_tuple_int
  | with_reducible exact kit_tuple_bool
  | with_reducible exact kit_tuple_tuple
  | with_reducible exact kit_tuple_list
  | with_reducible exact kit_list_int
  | with_reducible exact kit_list_bool
  | with_reducible exact kit_list_tuple
  | with_reducible exact kit_list_list
  | with_reducible exact kit_NoneType_int
  | with_reducible exact kit_NoneType_bool
  | with_reducible exact kit_NoneType_tuple
  | with_reducible exact kit_NoneType_list)
set_option hygiene false in
local macro_rules | `(tactic| walk_at "bdg") => `(tactic| first
  | with_reducible assumption
  | exact Bd.mono (by walk_at "bd") (by exact Nat.le_of_ble_eq_true rfl)
  | skip)
set_option hygiene false in
local macro_rules | `(tactic| walk_at "sidex") => `(tactic| first
  | with_reducible exact frB_one (by with_reducible assumption)
  | with_reducible exact fr_gcd (by with_reducible assumption)
  | with_reducible exact fr_cross (by with_reducible assumption))
set_option hygiene false in
local macro_rules | `(tactic| walk_at "side") => `(tactic| first
  | ((with_reducible show Bd _ _); walk_at "bdg")
  | ((with_reducible show kitB _ _ = _); walk_at "kit")
  | ((with_reducible show (_ : Prop)); first | with_reducible assumption | with_reducible rfl | ((with_reducible show seqOf _ = _); rfl) | ((with_reducible show seqL _ = _); rfl) | ((with_reducible show seqO _ = _); rfl) | ((with_reducible show atI _ _ = _); rfl) | ((with_reducible show tyOf _ = _); rfl) | ((with_reducible show List.lookup _ _ = _); rfl) | ((with_reducible show some _ = _); rfl) | walk_at "sidex" | exact Nat.le_of_ble_eq_true rfl | decide | omega | exact ⟨by decide, by decide⟩ | skip)
  | skip)
set_option hygiene false in
local macro_rules | `(tactic| walk_at "dv") => `(tactic| first
  | exact cdivw (by first | with_reducible assumption | omega) (by walk_at "bd") (by exact rfl) (by exact rfl)
  | skip)
set_option hygiene false in
local macro_rules | `(tactic| walk_at "go") => `(tactic| first
  | ((with_reducible show PE _ _ _); walk_at "ev")
  | ((with_reducible show PA _ _ _); walk_at "ar")
  | ((with_reducible show PT _ _ _); walk_at "tv")
  | ((with_reducible show PW _ _ _); walk_at "tw")
  | ((with_reducible show PSs _ _ _); skip)
  | ((with_reducible show CMulW _ _); walk_at "mul")
  | ((with_reducible show CDivW _ _); walk_at "dv")
  | ((fail_if_success (with_reducible show PE _ _ _)); (fail_if_success (with_reducible show PA _ _ _)); (fail_if_success (with_reducible show PT _ _ _)); (fail_if_success (with_reducible show PW _ _ _)); walk_at "side"))
set_option hygiene false in
local macro_rules | `(tactic| walk_at "gof") => `(tactic| first
  | ((with_reducible show PE _ _ _); walk_at "ev")
  | ((with_reducible show PA _ _ _); walk_at "ar")
  | ((with_reducible show PT _ _ _); walk_at "tv")
  | ((with_reducible show PW _ _ _); walk_at "tw")
  | ((with_reducible show PSs _ _ _); skip)
  | ((with_reducible show CMulW _ _); walk_at "mul")
  | ((with_reducible show CDivW _ _); walk_at "dv")
  | ((fail_if_success (with_reducible show PE _ _ _)); (fail_if_success (with_reducible show PA _ _ _)); (fail_if_success (with_reducible show PT _ _ _)); (fail_if_success (with_reducible show PW _ _ _)); first | ((with_reducible show (_ ∧ _)); exact ⟨by decide, by decide⟩) | ((fail_if_success (with_reducible show (_ ∧ _))); skip)))
set_option hygiene false in
local macro_rules | `(tactic| walk_at "ar") => `(tactic| first
  | with_reducible exact pas_nil
  | ((refine' pas_cons ?_ ?_ (by rfl)) <;> walk_at "go"))
set_option hygiene false in
local macro_rules | `(tactic| walk_at "ev") => `(tactic| first
  | with_reducible exact pd_int
  | walk_at "nm"
  | with_reducible exact pd_bl
  | with_reducible exact pd_non
  | ((with_reducible show PE _ (Expr.BinOp _ Operator.Add _ _) _); first | ((refine' pd_add ?_ ?_) <;> walk_at "go") | ((refine' pd_new (pn_cat ?_ ?_ ?_ ?_ ?_)) <;> walk_at "go"))
  | ((with_reducible show PE _ (Expr.BinOp _ Operator.Sub _ _) _); ((refine' pd_sub ?_ ?_) <;> walk_at "go"))
  | ((with_reducible show PE _ (Expr.BinOp _ Operator.Mult _ _) _); first | ((refine' pd_mul ?_ ?_ ?_) <;> walk_at "go") | ((refine' pd_new (pn_rep ?_ ?_ ?_ ?_ ?_)) <;> walk_at "go"))
  | ((with_reducible show PE _ (Expr.BinOp _ Operator.FloorDiv _ _) _); first | ((refine' pd_fdiv ?_ ?_ ?_) <;> walk_at "gof") | ((refine' pd_fdivW ?_ ?_ ?_) <;> walk_at "go"))
  | ((with_reducible show PE _ (Expr.BinOp _ Operator.Mod _ _) _); ((refine' pd_mod ?_ ?_ ?_) <;> walk_at "go"))
  | ((with_reducible show PE _ (Expr.BinOp _ Operator.Pow _ _) _); exact pd_powL ⟨by decide, by decide⟩)
  | ((with_reducible show PE _ (Expr.UnaryOp UnaryOp.USub _ _) _); ((refine' pd_neg ?_) <;> walk_at "go"))
  | ((with_reducible show PE _ (Expr.UnaryOp UnaryOp.Not _ _) _); ((refine' pd_not ?_) <;> walk_at "go"))
  | ((with_reducible show PE _ (Expr.Tuple _ _ _) _); ((refine' pd_tup ?_ ?_) <;> walk_at "go"))
  | ((with_reducible show PE _ (Expr.List _ _) _); ((refine' pd_new (pn_lst ?_ ?_)) <;> walk_at "go"))
  | ((with_reducible show PE _ (Expr.Attribute _ _ _) _); walk_at "fld")
  | ((with_reducible show PE _ (Expr.Compare _ [CmpOp.Lt] _ _) _); ((refine' pd_lt ?_ ?_) <;> walk_at "go"))
  | ((with_reducible show PE _ (Expr.Compare _ [CmpOp.LtE] _ _) _); ((refine' pd_le ?_ ?_) <;> walk_at "go"))
  | ((with_reducible show PE _ (Expr.Compare _ [CmpOp.Eq] _ _) _); ((refine' pd_eq ?_ ?_) <;> walk_at "go"))
  | ((with_reducible show PE _ (Expr.Call (Expr.Name "abs" _) _ _ _) _); ((refine' pd_abs (by rfl) T.n_abs ?_) <;> walk_at "go"))
  | ((with_reducible show PE _ (Expr.Call (Expr.Name "max" _) _ _ _) _); ((refine' pd_max (by rfl) (by rfl) T.n_max ?_ ?_) <;> walk_at "go"))
  | ((with_reducible show PE _ (Expr.Call (Expr.Name "min" _) _ _ _) _); ((refine' pd_min (by rfl) (by rfl) T.n_min ?_ ?_) <;> walk_at "go"))
  | ((with_reducible show PE _ (Expr.Call (Expr.Name "len" _) _ _ _) _); ((refine' pd_len (by rfl) T.n_len ?_ ?_) <;> walk_at "go"))
  | ((with_reducible show PE _ (Expr.Call (Expr.Name "sum" _) _ _ _) _); ((refine' pd_sum (by rfl) (by rfl) T.n_sum ?_ ?_) <;> walk_at "go"))
  | ((with_reducible show PE _ (Expr.Call (Expr.Name "list" _) _ _ _) _); ((refine' pd_new (pn_list (by rfl) T.n_list ?_ ?_)) <;> walk_at "go"))
  | ((with_reducible show PE _ (Expr.Call (Expr.Name "tuple" _) _ _ _) _); ((refine' pd_tuple (by rfl) T.n_tuple ?_ ?_) <;> walk_at "go"))
  | ((with_reducible show PE _ (Expr.Call (Expr.Name "isinstance" _) [_, Expr.Name "int" _] _ _) _); ((refine' pd_isi (by rfl) T.n_isinstance ?_ (pe_bltn (by rfl) T.n_int boot_intT rfl) ?_ ?_) <;> walk_at "go"))
  | ((with_reducible show PE _ (Expr.Call (Expr.Name "isinstance" _) [_, Expr.Name "bool" _] _ _) _); ((refine' pd_isi (by rfl) T.n_isinstance ?_ (pe_bltn (by rfl) T.n_bool boot_boolT rfl) ?_ ?_) <;> walk_at "go"))
  | ((with_reducible show PE _ (Expr.Call (Expr.Name "isinstance" _) [_, Expr.Name "tuple" _] _ _) _); ((refine' pd_isi (by rfl) T.n_isinstance ?_ (pe_bltn (by rfl) T.n_tuple boot_tupleT rfl) ?_ ?_) <;> walk_at "go"))
  | ((with_reducible show PE _ (Expr.Call (Expr.Name "isinstance" _) [_, Expr.Name "list" _] _ _) _); ((refine' pd_isi (by rfl) T.n_isinstance ?_ (pe_bltn (by rfl) T.n_list boot_listT rfl) ?_ ?_) <;> walk_at "go"))
  | ((with_reducible show PE _ (Expr.Call _ _ _ _) _); walk_at "cl")
  | ((with_reducible show PE _ (Expr.BoolOp _ [_] _) _); ((refine' pd_one ?_) <;> walk_at "go"))
  | ((with_reducible show PE _ (Expr.BoolOp BoolOp.And _ _) _); ((refine' pd_and ?_ (fun hyp => ?_)) <;> walk_at "go"))
  | ((with_reducible show PE _ (Expr.BoolOp BoolOp.Or _ _) _); ((refine' pd_or ?_ (fun hyp => ?_)) <;> walk_at "go"))
  | ((with_reducible show PE _ (Expr.Subscript _ _ _) _); ((refine' pd_ix ?_ ?_ (fun _ _ => rfl) ?_ ?_) <;> walk_at "go")))
set_option hygiene false in
local macro_rules | `(tactic| walk_at "tw") => `(tactic| first
  | ((refine' pwd_and1 ?_) <;> walk_at "go")
  | ((refine' pwd_or1 ?_) <;> walk_at "go")
  | ((refine' pwd_and ?_ (fun hyp => ?_)) <;> walk_at "go")
  | ((refine' pwd_or ?_ (fun hyp => ?_)) <;> walk_at "go"))
set_option hygiene false in
local macro_rules | `(tactic| walk_at "tv") => `(tactic| first
  | ((with_reducible show PT _ (Expr.Compare _ [CmpOp.Lt] _ _) _); ((refine' ptd_lt ?_ ?_) <;> walk_at "go"))
  | ((with_reducible show PT _ (Expr.Compare _ [CmpOp.LtE] _ _) _); ((refine' ptd_le ?_ ?_) <;> walk_at "go"))
  | ((with_reducible show PT _ (Expr.Compare _ [CmpOp.Gt] _ _) _); ((refine' ptd_gt ?_ ?_) <;> walk_at "go"))
  | ((with_reducible show PT _ (Expr.Compare _ [CmpOp.GtE] _ _) _); ((refine' ptd_ge ?_ ?_) <;> walk_at "go"))
  | ((with_reducible show PT _ (Expr.Compare _ [CmpOp.Eq] _ _) _); first | ((refine' ptd_eq ?_ ?_) <;> walk_at "go") | ((refine' ptd_eqB ?_ ?_) <;> walk_at "go"))
  | ((with_reducible show PT _ (Expr.Compare _ [CmpOp.NotEq] _ _) _); first | ((refine' ptd_ne ?_ ?_) <;> walk_at "go") | ((refine' ptd_neB ?_ ?_) <;> walk_at "go"))
  | ((with_reducible show PT _ (Expr.BoolOp _ _ _) _); ((refine' PW.pt ?_) <;> walk_at "go"))
  | ((with_reducible show PT _ (Expr.UnaryOp UnaryOp.Not _ _) _); ((refine' ptd_not ?_) <;> walk_at "go"))
  | ((refine' ptd_val ?_ (fun _ => rfl)) <;> walk_at "go"))
set_option hygiene false in
local macro_rules | `(tactic| walk_at "st") => `(tactic| first
  | ((walk_at "set") <;> walk_at "go")
  | ((walk_at "aug") <;> walk_at "go")
  | ((with_reducible show PSs _ (Stmt.Return (some _) _ :: _) _); first | (((refine' pss_end (psd_ret ?_) True.intro) <;> walk_at "go"); done) | ((refine' pss_end (psd_ret (pd_cast ?_ ?_)) True.intro) <;> walk_at "go")))
set_option hygiene false in
local macro_rules | `(tactic| walk_at "if") => `(tactic| (focus (refine' pss_if ?_ ?_ ?_; rotate_left 1; walk_at "tv")))
set_option hygiene false in
local macro_rules | `(tactic| walk_at "run") => `(tactic| repeat' (walk_at "st"))

section
set_option hygiene false in
local macro_rules | `(tactic| walk_at "nm") => `(tactic| first
  | ((with_reducible refine' pd_var (x := "one") 0 ?_ ?_ ?_ ?_ ?_) <;> first | (with_reducible show D) | ((with_reducible show Vis _ _); first | exact .inl rfl | exact .inr (.inl rfl) | exact .inr (.inr rfl)) | ((with_reducible show (_ == _) = false); decide) | rfl)
  | ((with_reducible refine' pd_var (x := "other") 1 ?_ ?_ ?_ ?_ ?_) <;> first | (with_reducible show D) | ((with_reducible show Vis _ _); first | exact .inl rfl | exact .inr (.inl rfl) | exact .inr (.inr rfl)) | ((with_reducible show (_ == _) = false); decide) | rfl))
set_option hygiene false in
local macro_rules | `(tactic| walk_at "set") => `(tactic| first
  | ((with_reducible show PSs _ (Stmt.Assign [Expr.Name "one" _] _ _ :: _) _); refine' pss_seq (psd_set 0 nd (by rfl) (by first | exact .inl rfl | exact .inr rfl) ?_ (by rfl) (by first | exact .inr rfl | exact .inl rfl)) ?_)
  | ((with_reducible show PSs _ (Stmt.Assign [Expr.Name "other" _] _ _ :: _) _); refine' pss_seq (psd_set 1 nd (by rfl) (by first | exact .inl rfl | exact .inr rfl) ?_ (by rfl) (by first | exact .inr rfl | exact .inl rfl)) ?_))
set_option hygiene false in
local macro_rules | `(tactic| walk_at "aug") => `(tactic| first
  | ((with_reducible show PSs _ (Stmt.AugAssign (Expr.Name "one" _) _ _ _ :: _) _); first | refine' pss_seq (psd_aug 0 nd (by rfl) (by first | exact .inl rfl | exact .inr rfl) L2.ip_add (by rfl) ?_ (by first | exact .inr rfl | exact .inl rfl)) ?s2 | refine' pss_seq (psd_aug 0 nd (by rfl) (by first | exact .inl rfl | exact .inr rfl) L2.ip_sub (by rfl) ?_ (by first | exact .inr rfl | exact .inl rfl)) ?_)
  | ((with_reducible show PSs _ (Stmt.AugAssign (Expr.Name "other" _) _ _ _ :: _) _); first | refine' pss_seq (psd_aug 1 nd (by rfl) (by first | exact .inl rfl | exact .inr rfl) L2.ip_add (by rfl) ?_ (by first | exact .inr rfl | exact .inl rfl)) ?s2 | refine' pss_seq (psd_aug 1 nd (by rfl) (by first | exact .inl rfl | exact .inr rfl) L2.ip_sub (by rfl) ?_ (by first | exact .inr rfl | exact .inl rfl)) ?_))
set_option hygiene false in
local macro_rules | `(tactic| walk_at "tgn") => `(tactic| first
  | ((with_reducible show PG _ (Expr.Name "one" _) _); refine' pgd_name 0 nd (by rfl) (by first | exact .inl rfl | exact .inr rfl) (by first | exact .inr rfl | exact .inl rfl) (by first | decide | simp))
  | ((with_reducible show PG _ (Expr.Name "other" _) _); refine' pgd_name 1 nd (by rfl) (by first | exact .inl rfl | exact .inr rfl) (by first | exact .inr rfl | exact .inl rfl) (by first | decide | simp)))

set_option hygiene false in
local macro_rules | `(tactic| walk_at "fld") => `(tactic| first
  | ((with_reducible show PE _ (Expr.Attribute _ "place" _) _); (refine' pd_fld ?_ (by rfl) T.cl_Weight T.na_Weight_place ?_) <;> walk_at "go")
  | ((with_reducible show PE _ (Expr.Attribute _ "size" _) _); (refine' pd_fld ?_ (by rfl) T.cl_Weight T.na_Weight_size ?_) <;> walk_at "go")
  | ((with_reducible show PE _ (Expr.Attribute _ "start" _) _); (refine' pd_fld ?_ (by rfl) T.cl_Spread T.na_Spread_start ?_) <;> walk_at "go")
  | ((with_reducible show PE _ (Expr.Attribute _ "end" _) _); (refine' pd_fld ?_ (by rfl) T.cl_Spread T.na_Spread_end ?_) <;> walk_at "go")
  | ((with_reducible show PE _ (Expr.Attribute _ "each" _) _); (refine' pd_fld ?_ (by rfl) T.cl_Spread T.na_Spread_each ?_) <;> walk_at "go")
  | ((with_reducible show PE _ (Expr.Attribute _ "length" _) _); (refine' pd_fld ?_ (by rfl) T.cl_Beam T.na_Beam_length ?_) <;> walk_at "go")
  | ((with_reducible show PE _ (Expr.Attribute _ "rests" _) _); (refine' pd_fld ?_ (by rfl) T.cl_Beam T.na_Beam_rests ?_) <;> walk_at "go"))
variable {P : Program} {w : World} {K : PySem.W.Frag} {mg : Str → Option Value} {base : Heap} {cs : Cs}
theorem ok_divisor {f : Addr} {fd : FuncData} (F : Fun K "divisor" "divisor" s_divisor f fd) (T : Tx K mg cs) : FnOk P w K mg base (L2.CX P w) 1 f fd P_divisor (spD K R_divisor) := by
  refine def_ok F sc_divisor (fun ds r h => ?_) (by decide) (fun cdv A outer s H E ds r hr h => ?_)
  · obtain ⟨a, b, rfl, _⟩ := h; rfl
  · obtain ⟨a, b, rfl, rfl⟩ := h
    have nd := sc_divisor.nd
    refine pss_hd rfl ?_
    walk_at "run"
    refine pss_seq (psd_while (δf := [some (.int (gcdI a b)), some (.int 0)]) (fun δ m => ∃ x y : Int, 0 ≤ x ∧ 0 ≤ y ∧ m = y.toNat ∧ Int.gcd x y = Int.gcd a b ∧ δ = [some (.int x), some (.int y)]) (fun δ => ∃ x y : Int, 0 < y ∧ δ = [some (.int x), some (.int y)])
      (L2.passes_of (by rfl)) ⟨iabs a, iabs b, ?_, ?_, rfl, ?_, rfl⟩ ?_ ?_ ?_) ?_
    · rw [iabs_nat]; omega
    · rw [iabs_nat]; omega
    · rw [iabs_nat, iabs_nat]
      unfold Int.gcd
      rw [Int.natAbs_natCast, Int.natAbs_natCast]
    · rintro δ m ⟨x, y, hx, hy, rfl, hg, rfl⟩
      refine ptd_iff (ptd_gt (by walk_at "nm") pd_int) ⟨fun h => ⟨x, y, h, rfl⟩, fun ⟨x', y', h, q⟩ => ?_⟩
      simp at q
      omega
    · rintro δ m ⟨x, y, hx, hy, rfl, hg, rfl⟩ ⟨x', y', h, q⟩
      have h0 : 0 < y := by
        simp at q
        omega
      refine ⟨_, _, ?_, ⟨y, x % y, hy, Int.emod_nonneg _ (by omega), rfl, ?_, rfl⟩, pss_seq (psd_par 0 1 rfl nd rfl rfl (by decide) rfl rfl (pas_cons (by walk_at "nm") (pas_cons (pd_mod (by walk_at "nm") (by walk_at "nm") h0) pas_nil)) rfl) pss_nilD⟩
      · have := Int.emod_lt_of_pos x h0
        have := Int.emod_nonneg x (show y ≠ 0 by omega)
        omega
      · rw [gcd_step hx h0, hg]
    · rintro δ m ⟨x, y, hx, hy, rfl, hg, rfl⟩ h
      have h0 : y = 0 := by
        by_cases z : 0 < y
        · exact absurd ⟨x, y, z, rfl⟩ h
        · omega
      subst h0
      rw [Int.gcd_zero_right] at hg
      unfold gcdI
      rw [← hg, Int.natAbs_of_nonneg hx]
    · walk_at "run"
theorem cal_divisor {f : Addr} {fd : FuncData} (F : Fun K "divisor" "divisor" s_divisor f fd) (hm : mg "divisor" = some (.ref f)) (T : Tx K mg cs) : Cal P w K mg base "divisor" 1 P_divisor (R_divisor) := ⟨f, fd, ok_divisor F T, hm, F.kp, F.binds fun _ _ _ _ _ _ us hl => match us, hl with | [_, _], _ => rfl⟩
end
section
set_option hygiene false in
local macro_rules | `(tactic| walk_at "nm") => `(tactic| first
  | ((with_reducible refine' pd_var (x := "top") 0 ?_ ?_ ?_ ?_ ?_) <;> first | (with_reducible show D) | ((with_reducible show Vis _ _); first | exact .inl rfl | exact .inr (.inl rfl) | exact .inr (.inr rfl)) | ((with_reducible show (_ == _) = false); decide) | rfl)
  | ((with_reducible refine' pd_var (x := "bottom") 1 ?_ ?_ ?_ ?_ ?_) <;> first | (with_reducible show D) | ((with_reducible show Vis _ _); first | exact .inl rfl | exact .inr (.inl rfl) | exact .inr (.inr rfl)) | ((with_reducible show (_ == _) = false); decide) | rfl)
  | ((with_reducible refine' pd_var (x := "by") 2 ?_ ?_ ?_ ?_ ?_) <;> first | (with_reducible show D) | ((with_reducible show Vis _ _); first | exact .inl rfl | exact .inr (.inl rfl) | exact .inr (.inr rfl)) | ((with_reducible show (_ == _) = false); decide) | rfl))
set_option hygiene false in
local macro_rules | `(tactic| walk_at "set") => `(tactic| first
  | ((with_reducible show PSs _ (Stmt.Assign [Expr.Name "top" _] _ _ :: _) _); refine' pss_seq (psd_set 0 nd (by rfl) (by first | exact .inl rfl | exact .inr rfl) ?_ (by rfl) (by first | exact .inr rfl | exact .inl rfl)) ?_)
  | ((with_reducible show PSs _ (Stmt.Assign [Expr.Name "bottom" _] _ _ :: _) _); refine' pss_seq (psd_set 1 nd (by rfl) (by first | exact .inl rfl | exact .inr rfl) ?_ (by rfl) (by first | exact .inr rfl | exact .inl rfl)) ?_)
  | ((with_reducible show PSs _ (Stmt.Assign [Expr.Name "by" _] _ _ :: _) _); refine' pss_seq (psd_set 2 nd (by rfl) (by first | exact .inl rfl | exact .inr rfl) ?_ (by rfl) (by first | exact .inr rfl | exact .inl rfl)) ?_))
set_option hygiene false in
local macro_rules | `(tactic| walk_at "aug") => `(tactic| first
  | ((with_reducible show PSs _ (Stmt.AugAssign (Expr.Name "top" _) _ _ _ :: _) _); first | refine' pss_seq (psd_aug 0 nd (by rfl) (by first | exact .inl rfl | exact .inr rfl) L2.ip_add (by rfl) ?_ (by first | exact .inr rfl | exact .inl rfl)) ?s2 | refine' pss_seq (psd_aug 0 nd (by rfl) (by first | exact .inl rfl | exact .inr rfl) L2.ip_sub (by rfl) ?_ (by first | exact .inr rfl | exact .inl rfl)) ?_)
  | ((with_reducible show PSs _ (Stmt.AugAssign (Expr.Name "bottom" _) _ _ _ :: _) _); first | refine' pss_seq (psd_aug 1 nd (by rfl) (by first | exact .inl rfl | exact .inr rfl) L2.ip_add (by rfl) ?_ (by first | exact .inr rfl | exact .inl rfl)) ?s2 | refine' pss_seq (psd_aug 1 nd (by rfl) (by first | exact .inl rfl | exact .inr rfl) L2.ip_sub (by rfl) ?_ (by first | exact .inr rfl | exact .inl rfl)) ?_)
  | ((with_reducible show PSs _ (Stmt.AugAssign (Expr.Name "by" _) _ _ _ :: _) _); first | refine' pss_seq (psd_aug 2 nd (by rfl) (by first | exact .inl rfl | exact .inr rfl) L2.ip_add (by rfl) ?_ (by first | exact .inr rfl | exact .inl rfl)) ?s2 | refine' pss_seq (psd_aug 2 nd (by rfl) (by first | exact .inl rfl | exact .inr rfl) L2.ip_sub (by rfl) ?_ (by first | exact .inr rfl | exact .inl rfl)) ?_))
set_option hygiene false in
local macro_rules | `(tactic| walk_at "tgn") => `(tactic| first
  | ((with_reducible show PG _ (Expr.Name "top" _) _); refine' pgd_name 0 nd (by rfl) (by first | exact .inl rfl | exact .inr rfl) (by first | exact .inr rfl | exact .inl rfl) (by first | decide | simp))
  | ((with_reducible show PG _ (Expr.Name "bottom" _) _); refine' pgd_name 1 nd (by rfl) (by first | exact .inl rfl | exact .inr rfl) (by first | exact .inr rfl | exact .inl rfl) (by first | decide | simp))
  | ((with_reducible show PG _ (Expr.Name "by" _) _); refine' pgd_name 2 nd (by rfl) (by first | exact .inl rfl | exact .inr rfl) (by first | exact .inr rfl | exact .inl rfl) (by first | decide | simp)))
set_option hygiene false in
local macro_rules | `(tactic| walk_at "cl") => `(tactic| first
  | ((with_reducible show PE _ (Expr.Call (Expr.Name "divisor" _) _ _ _) _); (refine' pd_call c_divisor hr (by decide) (by rfl) ?_ ⟨_, _, rfl, rfl⟩) <;> walk_at "go"))
set_option hygiene false in
local macro_rules | `(tactic| walk_at "fld") => `(tactic| first
  | ((with_reducible show PE _ (Expr.Attribute _ "place" _) _); (refine' pd_fld ?_ (by rfl) T.cl_Weight T.na_Weight_place ?_) <;> walk_at "go")
  | ((with_reducible show PE _ (Expr.Attribute _ "size" _) _); (refine' pd_fld ?_ (by rfl) T.cl_Weight T.na_Weight_size ?_) <;> walk_at "go")
  | ((with_reducible show PE _ (Expr.Attribute _ "start" _) _); (refine' pd_fld ?_ (by rfl) T.cl_Spread T.na_Spread_start ?_) <;> walk_at "go")
  | ((with_reducible show PE _ (Expr.Attribute _ "end" _) _); (refine' pd_fld ?_ (by rfl) T.cl_Spread T.na_Spread_end ?_) <;> walk_at "go")
  | ((with_reducible show PE _ (Expr.Attribute _ "each" _) _); (refine' pd_fld ?_ (by rfl) T.cl_Spread T.na_Spread_each ?_) <;> walk_at "go")
  | ((with_reducible show PE _ (Expr.Attribute _ "length" _) _); (refine' pd_fld ?_ (by rfl) T.cl_Beam T.na_Beam_length ?_) <;> walk_at "go")
  | ((with_reducible show PE _ (Expr.Attribute _ "rests" _) _); (refine' pd_fld ?_ (by rfl) T.cl_Beam T.na_Beam_rests ?_) <;> walk_at "go"))
variable {P : Program} {w : World} {K : PySem.W.Frag} {mg : Str → Option Value} {base : Heap} {cs : Cs}
theorem ok_fraction {f : Addr} {fd : FuncData} (F : Fun K "fraction" "fraction" s_fraction f fd) (T : Tx K mg cs) (c_divisor : Cal P w K mg base "divisor" 1 P_divisor (R_divisor)) : FnOk P w K mg base (L2.CX P w) 2 f fd P_fraction (spD K (R_fraction cs)) := by
  refine def_ok F sc_fraction (fun ds r h => ?_) (by decide) (fun cdv A outer s H E ds r hr h => ?_)
  · obtain ⟨a, b, rfl, _⟩ := h; rfl
  · obtain ⟨t, b, rfl, h⟩ := h
    have nd := sc_fraction.nd
    refine pss_hd rfl ?_
    rcases h with ⟨h0, rfl⟩ | ⟨h0, hb, rfl⟩
    · refine pss_end (psd_ifT (by walk_at "tv") h0 (pss_end (psd_raise rfl (L2.takes_of rfl rfl rfl rfl) (pmk_own PySem.F.excBase_ValueError T.x_NoNumber T.g_NoNumber T.k_NoNumber (raises_own T.b_NoNumber T.t_NoNumber) rfl)) True.intro)) True.intro
    · refine pss_seq (psd_ifF (by walk_at "tv") h0 pss_nilD) ?_
      refine pss_seq (psd_set 2 nd rfl (.inl rfl) (pd_call c_divisor hr (by decide) (by rfl) (by walk_at "ar") ⟨t, b, rfl, rfl⟩) rfl (.inr rfl)) ?_
      refine pss_ifset (i := 2) (d1 := .int (0 - gcdI t b)) (d2 := .int (gcdI t b)) (by walk_at "tv") (fun h => ?_) rfl inferInstance ?_
      · walk_at "run"
        exact pss_nilD
      · have e : (if b < 0 then D.int (0 - gcdI t b) else D.int (gcdI t b)) = .int (byI t b) := by unfold byI; split <;> rfl
        rw [e]
        have hy : byI t b ≠ 0 ∧ (byI t b).natAbs.log2 < 9000 := ⟨byI_ne h0, log_of_bd (n := 8900) (Bd.le (y := b) (by rw [byI_abs]; exact gcdI_le h0) hb) (by decide) (by decide)⟩
        exact pss_end (psd_ret (pd_tup (pas_cons (pd_fdivS (by walk_at "nm") (by walk_at "nm") hy) (pas_cons (pd_fdivS (by walk_at "nm") (by walk_at "nm") hy) pas_nil)) (Nat.le_of_ble_eq_true rfl))) True.intro
theorem cal_fraction {f : Addr} {fd : FuncData} (F : Fun K "fraction" "fraction" s_fraction f fd) (hm : mg "fraction" = some (.ref f)) (T : Tx K mg cs) (c_divisor : Cal P w K mg base "divisor" 1 P_divisor (R_divisor)) : Cal P w K mg base "fraction" 2 P_fraction ((R_fraction cs)) := ⟨f, fd, ok_fraction F T c_divisor, hm, F.kp, F.binds fun _ _ _ _ _ _ us hl => match us, hl with | [_, _], _ => rfl⟩
end
section
set_option hygiene false in
local macro_rules | `(tactic| walk_at "nm") => `(tactic| first
  | ((with_reducible refine' pd_var (x := "inward") 0 ?_ ?_ ?_ ?_ ?_) <;> first | (with_reducible show D) | ((with_reducible show Vis _ _); first | exact .inl rfl | exact .inr (.inl rfl) | exact .inr (.inr rfl)) | ((with_reducible show (_ == _) = false); decide) | rfl)
  | ((with_reducible refine' pd_var (x := "near") 1 ?_ ?_ ?_ ?_ ?_) <;> first | (with_reducible show D) | ((with_reducible show Vis _ _); first | exact .inl rfl | exact .inr (.inl rfl) | exact .inr (.inr rfl)) | ((with_reducible show (_ == _) = false); decide) | rfl)
  | ((with_reducible refine' pd_var (x := "far") 2 ?_ ?_ ?_ ?_ ?_) <;> first | (with_reducible show D) | ((with_reducible show Vis _ _); first | exact .inl rfl | exact .inr (.inl rfl) | exact .inr (.inr rfl)) | ((with_reducible show (_ == _) = false); decide) | rfl))
set_option hygiene false in
local macro_rules | `(tactic| walk_at "set") => `(tactic| first
  | ((with_reducible show PSs _ (Stmt.Assign [Expr.Name "inward" _] _ _ :: _) _); refine' pss_seq (psd_set 0 nd (by rfl) (by first | exact .inl rfl | exact .inr rfl) ?_ (by rfl) (by first | exact .inr rfl | exact .inl rfl)) ?_)
  | ((with_reducible show PSs _ (Stmt.Assign [Expr.Name "near" _] _ _ :: _) _); refine' pss_seq (psd_set 1 nd (by rfl) (by first | exact .inl rfl | exact .inr rfl) ?_ (by rfl) (by first | exact .inr rfl | exact .inl rfl)) ?_)
  | ((with_reducible show PSs _ (Stmt.Assign [Expr.Name "far" _] _ _ :: _) _); refine' pss_seq (psd_set 2 nd (by rfl) (by first | exact .inl rfl | exact .inr rfl) ?_ (by rfl) (by first | exact .inr rfl | exact .inl rfl)) ?_))
set_option hygiene false in
local macro_rules | `(tactic| walk_at "aug") => `(tactic| first
  | ((with_reducible show PSs _ (Stmt.AugAssign (Expr.Name "inward" _) _ _ _ :: _) _); first | refine' pss_seq (psd_aug 0 nd (by rfl) (by first | exact .inl rfl | exact .inr rfl) L2.ip_add (by rfl) ?_ (by first | exact .inr rfl | exact .inl rfl)) ?s2 | refine' pss_seq (psd_aug 0 nd (by rfl) (by first | exact .inl rfl | exact .inr rfl) L2.ip_sub (by rfl) ?_ (by first | exact .inr rfl | exact .inl rfl)) ?_)
  | ((with_reducible show PSs _ (Stmt.AugAssign (Expr.Name "near" _) _ _ _ :: _) _); first | refine' pss_seq (psd_aug 1 nd (by rfl) (by first | exact .inl rfl | exact .inr rfl) L2.ip_add (by rfl) ?_ (by first | exact .inr rfl | exact .inl rfl)) ?s2 | refine' pss_seq (psd_aug 1 nd (by rfl) (by first | exact .inl rfl | exact .inr rfl) L2.ip_sub (by rfl) ?_ (by first | exact .inr rfl | exact .inl rfl)) ?_)
  | ((with_reducible show PSs _ (Stmt.AugAssign (Expr.Name "far" _) _ _ _ :: _) _); first | refine' pss_seq (psd_aug 2 nd (by rfl) (by first | exact .inl rfl | exact .inr rfl) L2.ip_add (by rfl) ?_ (by first | exact .inr rfl | exact .inl rfl)) ?s2 | refine' pss_seq (psd_aug 2 nd (by rfl) (by first | exact .inl rfl | exact .inr rfl) L2.ip_sub (by rfl) ?_ (by first | exact .inr rfl | exact .inl rfl)) ?_))
set_option hygiene false in
local macro_rules | `(tactic| walk_at "tgn") => `(tactic| first
  | ((with_reducible show PG _ (Expr.Name "inward" _) _); refine' pgd_name 0 nd (by rfl) (by first | exact .inl rfl | exact .inr rfl) (by first | exact .inr rfl | exact .inl rfl) (by first | decide | simp))
  | ((with_reducible show PG _ (Expr.Name "near" _) _); refine' pgd_name 1 nd (by rfl) (by first | exact .inl rfl | exact .inr rfl) (by first | exact .inr rfl | exact .inl rfl) (by first | decide | simp))
  | ((with_reducible show PG _ (Expr.Name "far" _) _); refine' pgd_name 2 nd (by rfl) (by first | exact .inl rfl | exact .inr rfl) (by first | exact .inr rfl | exact .inl rfl) (by first | decide | simp)))

set_option hygiene false in
local macro_rules | `(tactic| walk_at "fld") => `(tactic| first
  | ((with_reducible show PE _ (Expr.Attribute _ "place" _) _); (refine' pd_fld ?_ (by rfl) T.cl_Weight T.na_Weight_place ?_) <;> walk_at "go")
  | ((with_reducible show PE _ (Expr.Attribute _ "size" _) _); (refine' pd_fld ?_ (by rfl) T.cl_Weight T.na_Weight_size ?_) <;> walk_at "go")
  | ((with_reducible show PE _ (Expr.Attribute _ "start" _) _); (refine' pd_fld ?_ (by rfl) T.cl_Spread T.na_Spread_start ?_) <;> walk_at "go")
  | ((with_reducible show PE _ (Expr.Attribute _ "end" _) _); (refine' pd_fld ?_ (by rfl) T.cl_Spread T.na_Spread_end ?_) <;> walk_at "go")
  | ((with_reducible show PE _ (Expr.Attribute _ "each" _) _); (refine' pd_fld ?_ (by rfl) T.cl_Spread T.na_Spread_each ?_) <;> walk_at "go")
  | ((with_reducible show PE _ (Expr.Attribute _ "length" _) _); (refine' pd_fld ?_ (by rfl) T.cl_Beam T.na_Beam_length ?_) <;> walk_at "go")
  | ((with_reducible show PE _ (Expr.Attribute _ "rests" _) _); (refine' pd_fld ?_ (by rfl) T.cl_Beam T.na_Beam_rests ?_) <;> walk_at "go"))
variable {P : Program} {w : World} {K : PySem.W.Frag} {mg : Str → Option Value} {base : Heap} {cs : Cs}
theorem ok_part_at {f : Addr} {fd : FuncData} (F : Fun K "part_at" "part_at" s_part_at f fd) (T : Tx K mg cs) : FnOk P w K mg base (L2.CX P w) 1 f fd P_part_at (spD K R_part_at) := by
  refine def_ok F sc_part_at (fun ds r h => ?_) (by decide) (fun cdv A outer s H E ds r hr h => ?_)
  · obtain ⟨i, n, f, _, _, _, rfl, _⟩ := h; rfl
  · obtain ⟨i, n, g, bi, bn, bf, rfl, rfl⟩ := h
    have nd := sc_part_at.nd
    refine pss_hd rfl ?_
    unfold partAt
    by_cases h : i ≤ 0
    · rw [if_pos h]
      refine pss_end (psd_ifT (by walk_at "tv") h ?_) True.intro
      walk_at "run"
    · rw [if_neg h]
      refine pss_seq (psd_ifF (by walk_at "tv") h pss_nilD) ?_
      walk_at "run"
theorem cal_part_at {f : Addr} {fd : FuncData} (F : Fun K "part_at" "part_at" s_part_at f fd) (hm : mg "part_at" = some (.ref f)) (T : Tx K mg cs) : Cal P w K mg base "part_at" 1 P_part_at (R_part_at) := ⟨f, fd, ok_part_at F T, hm, F.kp, F.binds fun _ _ _ _ _ _ us hl => match us, hl with | [_, _, _], _ => rfl⟩
end
section
set_option hygiene false in
local macro_rules | `(tactic| walk_at "nm") => `(tactic| first
  | ((with_reducible refine' pd_var (x := "inward") 0 ?_ ?_ ?_ ?_ ?_) <;> first | (with_reducible show D) | ((with_reducible show Vis _ _); first | exact .inl rfl | exact .inr (.inl rfl) | exact .inr (.inr rfl)) | ((with_reducible show (_ == _) = false); decide) | rfl)
  | ((with_reducible refine' pd_var (x := "near") 1 ?_ ?_ ?_ ?_ ?_) <;> first | (with_reducible show D) | ((with_reducible show Vis _ _); first | exact .inl rfl | exact .inr (.inl rfl) | exact .inr (.inr rfl)) | ((with_reducible show (_ == _) = false); decide) | rfl)
  | ((with_reducible refine' pd_var (x := "far") 2 ?_ ?_ ?_ ?_ ?_) <;> first | (with_reducible show D) | ((with_reducible show Vis _ _); first | exact .inl rfl | exact .inr (.inl rfl) | exact .inr (.inr rfl)) | ((with_reducible show (_ == _) = false); decide) | rfl))
set_option hygiene false in
local macro_rules | `(tactic| walk_at "set") => `(tactic| first
  | ((with_reducible show PSs _ (Stmt.Assign [Expr.Name "inward" _] _ _ :: _) _); refine' pss_seq (psd_set 0 nd (by rfl) (by first | exact .inl rfl | exact .inr rfl) ?_ (by rfl) (by first | exact .inr rfl | exact .inl rfl)) ?_)
  | ((with_reducible show PSs _ (Stmt.Assign [Expr.Name "near" _] _ _ :: _) _); refine' pss_seq (psd_set 1 nd (by rfl) (by first | exact .inl rfl | exact .inr rfl) ?_ (by rfl) (by first | exact .inr rfl | exact .inl rfl)) ?_)
  | ((with_reducible show PSs _ (Stmt.Assign [Expr.Name "far" _] _ _ :: _) _); refine' pss_seq (psd_set 2 nd (by rfl) (by first | exact .inl rfl | exact .inr rfl) ?_ (by rfl) (by first | exact .inr rfl | exact .inl rfl)) ?_))
set_option hygiene false in
local macro_rules | `(tactic| walk_at "aug") => `(tactic| first
  | ((with_reducible show PSs _ (Stmt.AugAssign (Expr.Name "inward" _) _ _ _ :: _) _); first | refine' pss_seq (psd_aug 0 nd (by rfl) (by first | exact .inl rfl | exact .inr rfl) L2.ip_add (by rfl) ?_ (by first | exact .inr rfl | exact .inl rfl)) ?s2 | refine' pss_seq (psd_aug 0 nd (by rfl) (by first | exact .inl rfl | exact .inr rfl) L2.ip_sub (by rfl) ?_ (by first | exact .inr rfl | exact .inl rfl)) ?_)
  | ((with_reducible show PSs _ (Stmt.AugAssign (Expr.Name "near" _) _ _ _ :: _) _); first | refine' pss_seq (psd_aug 1 nd (by rfl) (by first | exact .inl rfl | exact .inr rfl) L2.ip_add (by rfl) ?_ (by first | exact .inr rfl | exact .inl rfl)) ?s2 | refine' pss_seq (psd_aug 1 nd (by rfl) (by first | exact .inl rfl | exact .inr rfl) L2.ip_sub (by rfl) ?_ (by first | exact .inr rfl | exact .inl rfl)) ?_)
  | ((with_reducible show PSs _ (Stmt.AugAssign (Expr.Name "far" _) _ _ _ :: _) _); first | refine' pss_seq (psd_aug 2 nd (by rfl) (by first | exact .inl rfl | exact .inr rfl) L2.ip_add (by rfl) ?_ (by first | exact .inr rfl | exact .inl rfl)) ?s2 | refine' pss_seq (psd_aug 2 nd (by rfl) (by first | exact .inl rfl | exact .inr rfl) L2.ip_sub (by rfl) ?_ (by first | exact .inr rfl | exact .inl rfl)) ?_))
set_option hygiene false in
local macro_rules | `(tactic| walk_at "tgn") => `(tactic| first
  | ((with_reducible show PG _ (Expr.Name "inward" _) _); refine' pgd_name 0 nd (by rfl) (by first | exact .inl rfl | exact .inr rfl) (by first | exact .inr rfl | exact .inl rfl) (by first | decide | simp))
  | ((with_reducible show PG _ (Expr.Name "near" _) _); refine' pgd_name 1 nd (by rfl) (by first | exact .inl rfl | exact .inr rfl) (by first | exact .inr rfl | exact .inl rfl) (by first | decide | simp))
  | ((with_reducible show PG _ (Expr.Name "far" _) _); refine' pgd_name 2 nd (by rfl) (by first | exact .inl rfl | exact .inr rfl) (by first | exact .inr rfl | exact .inl rfl) (by first | decide | simp)))

set_option hygiene false in
local macro_rules | `(tactic| walk_at "fld") => `(tactic| first
  | ((with_reducible show PE _ (Expr.Attribute _ "place" _) _); (refine' pd_fld ?_ (by rfl) T.cl_Weight T.na_Weight_place ?_) <;> walk_at "go")
  | ((with_reducible show PE _ (Expr.Attribute _ "size" _) _); (refine' pd_fld ?_ (by rfl) T.cl_Weight T.na_Weight_size ?_) <;> walk_at "go")
  | ((with_reducible show PE _ (Expr.Attribute _ "start" _) _); (refine' pd_fld ?_ (by rfl) T.cl_Spread T.na_Spread_start ?_) <;> walk_at "go")
  | ((with_reducible show PE _ (Expr.Attribute _ "end" _) _); (refine' pd_fld ?_ (by rfl) T.cl_Spread T.na_Spread_end ?_) <;> walk_at "go")
  | ((with_reducible show PE _ (Expr.Attribute _ "each" _) _); (refine' pd_fld ?_ (by rfl) T.cl_Spread T.na_Spread_each ?_) <;> walk_at "go")
  | ((with_reducible show PE _ (Expr.Attribute _ "length" _) _); (refine' pd_fld ?_ (by rfl) T.cl_Beam T.na_Beam_length ?_) <;> walk_at "go")
  | ((with_reducible show PE _ (Expr.Attribute _ "rests" _) _); (refine' pd_fld ?_ (by rfl) T.cl_Beam T.na_Beam_rests ?_) <;> walk_at "go"))
variable {P : Program} {w : World} {K : PySem.W.Frag} {mg : Str → Option Value} {base : Heap} {cs : Cs}
theorem ok_sum_to {f : Addr} {fd : FuncData} (F : Fun K "sum_to" "sum_to" s_sum_to f fd) (T : Tx K mg cs) : FnOk P w K mg base (L2.CX P w) 1 f fd P_sum_to (spD K R_sum_to) := by
  refine def_ok F sc_sum_to (fun ds r h => ?_) (by decide) (fun cdv A outer s H E ds r hr h => ?_)
  · obtain ⟨i, n, f, _, _, _, rfl, _⟩ := h; rfl
  · obtain ⟨i, n, g, bi, bn, bf, rfl, rfl⟩ := h
    have nd := sc_sum_to.nd
    refine pss_hd rfl ?_
    unfold sumUp
    by_cases h : i ≤ 0
    · rw [if_pos h]
      refine pss_end (psd_ifT (by walk_at "tv") h ?_) True.intro
      walk_at "run"
    · rw [if_neg h]
      refine pss_seq (psd_ifF (by walk_at "tv") h pss_nilD) ?_
      walk_at "run"
theorem cal_sum_to {f : Addr} {fd : FuncData} (F : Fun K "sum_to" "sum_to" s_sum_to f fd) (hm : mg "sum_to" = some (.ref f)) (T : Tx K mg cs) : Cal P w K mg base "sum_to" 1 P_sum_to (R_sum_to) := ⟨f, fd, ok_sum_to F T, hm, F.kp, F.binds fun _ _ _ _ _ _ us hl => match us, hl with | [_, _, _], _ => rfl⟩
end
section
set_option hygiene false in
local macro_rules | `(tactic| walk_at "nm") => `(tactic| first
  | ((with_reducible refine' pd_var (x := "self") 0 ?_ ?_ ?_ ?_ ?_) <;> first | (with_reducible show D) | ((with_reducible show Vis _ _); first | exact .inl rfl | exact .inr (.inl rfl) | exact .inr (.inr rfl)) | ((with_reducible show (_ == _) = false); decide) | rfl)
  | ((with_reducible refine' pd_var (x := "place") 1 ?_ ?_ ?_ ?_ ?_) <;> first | (with_reducible show D) | ((with_reducible show Vis _ _); first | exact .inl rfl | exact .inr (.inl rfl) | exact .inr (.inr rfl)) | ((with_reducible show (_ == _) = false); decide) | rfl)
  | ((with_reducible refine' pd_var (x := "size") 2 ?_ ?_ ?_ ?_ ?_) <;> first | (with_reducible show D) | ((with_reducible show Vis _ _); first | exact .inl rfl | exact .inr (.inl rfl) | exact .inr (.inr rfl)) | ((with_reducible show (_ == _) = false); decide) | rfl))
set_option hygiene false in
local macro_rules | `(tactic| walk_at "set") => `(tactic| first
  | ((with_reducible show PSs _ (Stmt.Assign [Expr.Name "self" _] _ _ :: _) _); refine' pss_seq (psd_set 0 nd (by rfl) (by first | exact .inl rfl | exact .inr rfl) ?_ (by rfl) (by first | exact .inr rfl | exact .inl rfl)) ?_)
  | ((with_reducible show PSs _ (Stmt.Assign [Expr.Name "place" _] _ _ :: _) _); refine' pss_seq (psd_set 1 nd (by rfl) (by first | exact .inl rfl | exact .inr rfl) ?_ (by rfl) (by first | exact .inr rfl | exact .inl rfl)) ?_)
  | ((with_reducible show PSs _ (Stmt.Assign [Expr.Name "size" _] _ _ :: _) _); refine' pss_seq (psd_set 2 nd (by rfl) (by first | exact .inl rfl | exact .inr rfl) ?_ (by rfl) (by first | exact .inr rfl | exact .inl rfl)) ?_))
set_option hygiene false in
local macro_rules | `(tactic| walk_at "aug") => `(tactic| first
  | ((with_reducible show PSs _ (Stmt.AugAssign (Expr.Name "self" _) _ _ _ :: _) _); first | refine' pss_seq (psd_aug 0 nd (by rfl) (by first | exact .inl rfl | exact .inr rfl) L2.ip_add (by rfl) ?_ (by first | exact .inr rfl | exact .inl rfl)) ?s2 | refine' pss_seq (psd_aug 0 nd (by rfl) (by first | exact .inl rfl | exact .inr rfl) L2.ip_sub (by rfl) ?_ (by first | exact .inr rfl | exact .inl rfl)) ?_)
  | ((with_reducible show PSs _ (Stmt.AugAssign (Expr.Name "place" _) _ _ _ :: _) _); first | refine' pss_seq (psd_aug 1 nd (by rfl) (by first | exact .inl rfl | exact .inr rfl) L2.ip_add (by rfl) ?_ (by first | exact .inr rfl | exact .inl rfl)) ?s2 | refine' pss_seq (psd_aug 1 nd (by rfl) (by first | exact .inl rfl | exact .inr rfl) L2.ip_sub (by rfl) ?_ (by first | exact .inr rfl | exact .inl rfl)) ?_)
  | ((with_reducible show PSs _ (Stmt.AugAssign (Expr.Name "size" _) _ _ _ :: _) _); first | refine' pss_seq (psd_aug 2 nd (by rfl) (by first | exact .inl rfl | exact .inr rfl) L2.ip_add (by rfl) ?_ (by first | exact .inr rfl | exact .inl rfl)) ?s2 | refine' pss_seq (psd_aug 2 nd (by rfl) (by first | exact .inl rfl | exact .inr rfl) L2.ip_sub (by rfl) ?_ (by first | exact .inr rfl | exact .inl rfl)) ?_))
set_option hygiene false in
local macro_rules | `(tactic| walk_at "tgn") => `(tactic| first
  | ((with_reducible show PG _ (Expr.Name "self" _) _); refine' pgd_name 0 nd (by rfl) (by first | exact .inl rfl | exact .inr rfl) (by first | exact .inr rfl | exact .inl rfl) (by first | decide | simp))
  | ((with_reducible show PG _ (Expr.Name "place" _) _); refine' pgd_name 1 nd (by rfl) (by first | exact .inl rfl | exact .inr rfl) (by first | exact .inr rfl | exact .inl rfl) (by first | decide | simp))
  | ((with_reducible show PG _ (Expr.Name "size" _) _); refine' pgd_name 2 nd (by rfl) (by first | exact .inl rfl | exact .inr rfl) (by first | exact .inr rfl | exact .inl rfl) (by first | decide | simp)))

set_option hygiene false in
local macro_rules | `(tactic| walk_at "fld") => `(tactic| first
  | ((with_reducible show PE _ (Expr.Attribute _ "place" _) _); (refine' pd_fld ?_ (by rfl) T.cl_Weight T.na_Weight_place ?_) <;> walk_at "go")
  | ((with_reducible show PE _ (Expr.Attribute _ "size" _) _); (refine' pd_fld ?_ (by rfl) T.cl_Weight T.na_Weight_size ?_) <;> walk_at "go")
  | ((with_reducible show PE _ (Expr.Attribute _ "start" _) _); (refine' pd_fld ?_ (by rfl) T.cl_Spread T.na_Spread_start ?_) <;> walk_at "go")
  | ((with_reducible show PE _ (Expr.Attribute _ "end" _) _); (refine' pd_fld ?_ (by rfl) T.cl_Spread T.na_Spread_end ?_) <;> walk_at "go")
  | ((with_reducible show PE _ (Expr.Attribute _ "each" _) _); (refine' pd_fld ?_ (by rfl) T.cl_Spread T.na_Spread_each ?_) <;> walk_at "go")
  | ((with_reducible show PE _ (Expr.Attribute _ "length" _) _); (refine' pd_fld ?_ (by rfl) T.cl_Beam T.na_Beam_length ?_) <;> walk_at "go")
  | ((with_reducible show PE _ (Expr.Attribute _ "rests" _) _); (refine' pd_fld ?_ (by rfl) T.cl_Beam T.na_Beam_rests ?_) <;> walk_at "go"))
variable {P : Program} {w : World} {K : PySem.W.Frag} {mg : Str → Option Value} {base : Heap} {cs : Cs}
theorem ok_Weight_init {f : Addr} {fd : FuncData} (F : Fun K "__init__" "Weight.__init__" s_Weight_init f fd) (T : Tx K mg cs) : FnOk P w K mg base (L2.CX P w) 1 f fd P_Weight_init (spI K cs.Weight ["place", "size"] R_Winit) := by
  refine init_ok F sc_Weight_init (fun ds r h => ?_) (by decide) (fun cdv A outer s H E ds r p hr h => ?_)
  · obtain ⟨a, n, rfl, _⟩ := h; rfl
  · obtain ⟨a, n, rfl, rfl⟩ := h
    have nd := sc_Weight_init.nd
    refine ⟨[some (.mref p), some (.int a), some (.int n)], pss_hd rfl ?_⟩
    refine pss_seq (psd_fldset (f := "place") (by walk_at "nm") (by walk_at "nm") T.cl_Weight T.na_Weight_place rfl (by decide) rfl) ?_
    refine pss_seq (psd_fldset (f := "size") (by walk_at "nm") (by walk_at "nm") T.cl_Weight T.na_Weight_size rfl (by decide) rfl) ?_
    exact pss_nilD
theorem cal_Weight_init {f : Addr} {fd : FuncData} (F : Fun K "__init__" "Weight.__init__" s_Weight_init f fd) (hm : mg "Weight" = some (.ref cs.Weight)) (M : Mk K cs.Weight f) (T : Tx K mg cs) : CalI P w K mg base cs.Weight "Weight" 1 P_Weight_init ["place", "size"] R_Winit := ⟨hm, f, fd, ok_Weight_init F T, M, F.binds fun _ _ _ _ _ _ us hl => match us, hl with | [_, _, _], _ => rfl⟩
end
section
set_option hygiene false in
local macro_rules | `(tactic| walk_at "nm") => `(tactic| first
  | ((with_reducible refine' pd_var (x := "self") 0 ?_ ?_ ?_ ?_ ?_) <;> first | (with_reducible show D) | ((with_reducible show Vis _ _); first | exact .inl rfl | exact .inr (.inl rfl) | exact .inr (.inr rfl)) | ((with_reducible show (_ == _) = false); decide) | rfl)
  | ((with_reducible refine' pd_var (x := "start") 1 ?_ ?_ ?_ ?_ ?_) <;> first | (with_reducible show D) | ((with_reducible show Vis _ _); first | exact .inl rfl | exact .inr (.inl rfl) | exact .inr (.inr rfl)) | ((with_reducible show (_ == _) = false); decide) | rfl)
  | ((with_reducible refine' pd_var (x := "end") 2 ?_ ?_ ?_ ?_ ?_) <;> first | (with_reducible show D) | ((with_reducible show Vis _ _); first | exact .inl rfl | exact .inr (.inl rfl) | exact .inr (.inr rfl)) | ((with_reducible show (_ == _) = false); decide) | rfl)
  | ((with_reducible refine' pd_var (x := "each") 3 ?_ ?_ ?_ ?_ ?_) <;> first | (with_reducible show D) | ((with_reducible show Vis _ _); first | exact .inl rfl | exact .inr (.inl rfl) | exact .inr (.inr rfl)) | ((with_reducible show (_ == _) = false); decide) | rfl))
set_option hygiene false in
local macro_rules | `(tactic| walk_at "set") => `(tactic| first
  | ((with_reducible show PSs _ (Stmt.Assign [Expr.Name "self" _] _ _ :: _) _); refine' pss_seq (psd_set 0 nd (by rfl) (by first | exact .inl rfl | exact .inr rfl) ?_ (by rfl) (by first | exact .inr rfl | exact .inl rfl)) ?_)
  | ((with_reducible show PSs _ (Stmt.Assign [Expr.Name "start" _] _ _ :: _) _); refine' pss_seq (psd_set 1 nd (by rfl) (by first | exact .inl rfl | exact .inr rfl) ?_ (by rfl) (by first | exact .inr rfl | exact .inl rfl)) ?_)
  | ((with_reducible show PSs _ (Stmt.Assign [Expr.Name "end" _] _ _ :: _) _); refine' pss_seq (psd_set 2 nd (by rfl) (by first | exact .inl rfl | exact .inr rfl) ?_ (by rfl) (by first | exact .inr rfl | exact .inl rfl)) ?_)
  | ((with_reducible show PSs _ (Stmt.Assign [Expr.Name "each" _] _ _ :: _) _); refine' pss_seq (psd_set 3 nd (by rfl) (by first | exact .inl rfl | exact .inr rfl) ?_ (by rfl) (by first | exact .inr rfl | exact .inl rfl)) ?_))
set_option hygiene false in
local macro_rules | `(tactic| walk_at "aug") => `(tactic| first
  | ((with_reducible show PSs _ (Stmt.AugAssign (Expr.Name "self" _) _ _ _ :: _) _); first | refine' pss_seq (psd_aug 0 nd (by rfl) (by first | exact .inl rfl | exact .inr rfl) L2.ip_add (by rfl) ?_ (by first | exact .inr rfl | exact .inl rfl)) ?s2 | refine' pss_seq (psd_aug 0 nd (by rfl) (by first | exact .inl rfl | exact .inr rfl) L2.ip_sub (by rfl) ?_ (by first | exact .inr rfl | exact .inl rfl)) ?_)
  | ((with_reducible show PSs _ (Stmt.AugAssign (Expr.Name "start" _) _ _ _ :: _) _); first | refine' pss_seq (psd_aug 1 nd (by rfl) (by first | exact .inl rfl | exact .inr rfl) L2.ip_add (by rfl) ?_ (by first | exact .inr rfl | exact .inl rfl)) ?s2 | refine' pss_seq (psd_aug 1 nd (by rfl) (by first | exact .inl rfl | exact .inr rfl) L2.ip_sub (by rfl) ?_ (by first | exact .inr rfl | exact .inl rfl)) ?_)
  | ((with_reducible show PSs _ (Stmt.AugAssign (Expr.Name "end" _) _ _ _ :: _) _); first | refine' pss_seq (psd_aug 2 nd (by rfl) (by first | exact .inl rfl | exact .inr rfl) L2.ip_add (by rfl) ?_ (by first | exact .inr rfl | exact .inl rfl)) ?s2 | refine' pss_seq (psd_aug 2 nd (by rfl) (by first | exact .inl rfl | exact .inr rfl) L2.ip_sub (by rfl) ?_ (by first | exact .inr rfl | exact .inl rfl)) ?_)
  | ((with_reducible show PSs _ (Stmt.AugAssign (Expr.Name "each" _) _ _ _ :: _) _); first | refine' pss_seq (psd_aug 3 nd (by rfl) (by first | exact .inl rfl | exact .inr rfl) L2.ip_add (by rfl) ?_ (by first | exact .inr rfl | exact .inl rfl)) ?s2 | refine' pss_seq (psd_aug 3 nd (by rfl) (by first | exact .inl rfl | exact .inr rfl) L2.ip_sub (by rfl) ?_ (by first | exact .inr rfl | exact .inl rfl)) ?_))
set_option hygiene false in
local macro_rules | `(tactic| walk_at "tgn") => `(tactic| first
  | ((with_reducible show PG _ (Expr.Name "self" _) _); refine' pgd_name 0 nd (by rfl) (by first | exact .inl rfl | exact .inr rfl) (by first | exact .inr rfl | exact .inl rfl) (by first | decide | simp))
  | ((with_reducible show PG _ (Expr.Name "start" _) _); refine' pgd_name 1 nd (by rfl) (by first | exact .inl rfl | exact .inr rfl) (by first | exact .inr rfl | exact .inl rfl) (by first | decide | simp))
  | ((with_reducible show PG _ (Expr.Name "end" _) _); refine' pgd_name 2 nd (by rfl) (by first | exact .inl rfl | exact .inr rfl) (by first | exact .inr rfl | exact .inl rfl) (by first | decide | simp))
  | ((with_reducible show PG _ (Expr.Name "each" _) _); refine' pgd_name 3 nd (by rfl) (by first | exact .inl rfl | exact .inr rfl) (by first | exact .inr rfl | exact .inl rfl) (by first | decide | simp)))

set_option hygiene false in
local macro_rules | `(tactic| walk_at "fld") => `(tactic| first
  | ((with_reducible show PE _ (Expr.Attribute _ "place" _) _); (refine' pd_fld ?_ (by rfl) T.cl_Weight T.na_Weight_place ?_) <;> walk_at "go")
  | ((with_reducible show PE _ (Expr.Attribute _ "size" _) _); (refine' pd_fld ?_ (by rfl) T.cl_Weight T.na_Weight_size ?_) <;> walk_at "go")
  | ((with_reducible show PE _ (Expr.Attribute _ "start" _) _); (refine' pd_fld ?_ (by rfl) T.cl_Spread T.na_Spread_start ?_) <;> walk_at "go")
  | ((with_reducible show PE _ (Expr.Attribute _ "end" _) _); (refine' pd_fld ?_ (by rfl) T.cl_Spread T.na_Spread_end ?_) <;> walk_at "go")
  | ((with_reducible show PE _ (Expr.Attribute _ "each" _) _); (refine' pd_fld ?_ (by rfl) T.cl_Spread T.na_Spread_each ?_) <;> walk_at "go")
  | ((with_reducible show PE _ (Expr.Attribute _ "length" _) _); (refine' pd_fld ?_ (by rfl) T.cl_Beam T.na_Beam_length ?_) <;> walk_at "go")
  | ((with_reducible show PE _ (Expr.Attribute _ "rests" _) _); (refine' pd_fld ?_ (by rfl) T.cl_Beam T.na_Beam_rests ?_) <;> walk_at "go"))
variable {P : Program} {w : World} {K : PySem.W.Frag} {mg : Str → Option Value} {base : Heap} {cs : Cs}
theorem ok_Spread_init {f : Addr} {fd : FuncData} (F : Fun K "__init__" "Spread.__init__" s_Spread_init f fd) (T : Tx K mg cs) : FnOk P w K mg base (L2.CX P w) 1 f fd P_Spread_init (spI K cs.Spread ["start", "end", "each"] (R_Sinit cs)) := by
  refine init_ok F sc_Spread_init (fun ds r h => ?_) (by decide) (fun cdv A outer s H E ds r p hr h => ?_)
  · obtain ⟨a, b, n, rfl, _⟩ := h; rfl
  · obtain ⟨a, b, n, rfl, h⟩ := h
    have nd := sc_Spread_init.nd
    rcases h with ⟨h0, rfl⟩ | ⟨h0, rfl⟩
    · refine ⟨[], pss_hd rfl ?_⟩
      exact pss_end (psd_ifT (by walk_at "tv") h0 (pss_end (psd_raise rfl (L2.takes_of rfl rfl rfl rfl) (pmk_own PySem.F.excBase_ValueError T.x_NoLoad T.g_NoLoad T.k_NoLoad (raises_own T.b_NoLoad T.t_NoLoad) rfl)) True.intro)) True.intro
    · refine ⟨[some (.mref p), some (.int a), some (.int b), some (.int n)], pss_hd rfl ?_⟩
      refine pss_seq (psd_ifF (by walk_at "tv") (by omega) pss_nilD) ?_
      refine pss_seq (psd_fldset (f := "start") (by walk_at "nm") (by walk_at "nm") T.cl_Spread T.na_Spread_start rfl (by decide) rfl) ?_
      refine pss_seq (psd_fldset (f := "end") (by walk_at "nm") (by walk_at "nm") T.cl_Spread T.na_Spread_end rfl (by decide) rfl) ?_
      refine pss_seq (psd_fldset (f := "each") (by walk_at "nm") (by walk_at "nm") T.cl_Spread T.na_Spread_each rfl (by decide) rfl) ?_
      exact pss_nilD
theorem cal_Spread_init {f : Addr} {fd : FuncData} (F : Fun K "__init__" "Spread.__init__" s_Spread_init f fd) (hm : mg "Spread" = some (.ref cs.Spread)) (M : Mk K cs.Spread f) (T : Tx K mg cs) : CalI P w K mg base cs.Spread "Spread" 1 P_Spread_init ["start", "end", "each"] (R_Sinit cs) := ⟨hm, f, fd, ok_Spread_init F T, M, F.binds fun _ _ _ _ _ _ us hl => match us, hl with | [_, _, _, _], _ => rfl⟩
end
section
set_option hygiene false in
local macro_rules | `(tactic| walk_at "nm") => `(tactic| first
  | ((with_reducible refine' pd_var (x := "self") 0 ?_ ?_ ?_ ?_ ?_) <;> first | (with_reducible show D) | ((with_reducible show Vis _ _); first | exact .inl rfl | exact .inr (.inl rfl) | exact .inr (.inr rfl)) | ((with_reducible show (_ == _) = false); decide) | rfl))
set_option hygiene false in
local macro_rules | `(tactic| walk_at "set") => `(tactic| first
  | ((with_reducible show PSs _ (Stmt.Assign [Expr.Name "self" _] _ _ :: _) _); refine' pss_seq (psd_set 0 nd (by rfl) (by first | exact .inl rfl | exact .inr rfl) ?_ (by rfl) (by first | exact .inr rfl | exact .inl rfl)) ?_))
set_option hygiene false in
local macro_rules | `(tactic| walk_at "aug") => `(tactic| first
  | ((with_reducible show PSs _ (Stmt.AugAssign (Expr.Name "self" _) _ _ _ :: _) _); first | refine' pss_seq (psd_aug 0 nd (by rfl) (by first | exact .inl rfl | exact .inr rfl) L2.ip_add (by rfl) ?_ (by first | exact .inr rfl | exact .inl rfl)) ?s2 | refine' pss_seq (psd_aug 0 nd (by rfl) (by first | exact .inl rfl | exact .inr rfl) L2.ip_sub (by rfl) ?_ (by first | exact .inr rfl | exact .inl rfl)) ?_))
set_option hygiene false in
local macro_rules | `(tactic| walk_at "tgn") => `(tactic| first
  | ((with_reducible show PG _ (Expr.Name "self" _) _); refine' pgd_name 0 nd (by rfl) (by first | exact .inl rfl | exact .inr rfl) (by first | exact .inr rfl | exact .inl rfl) (by first | decide | simp)))

set_option hygiene false in
local macro_rules | `(tactic| walk_at "fld") => `(tactic| first
  | ((with_reducible show PE _ (Expr.Attribute _ "place" _) _); (refine' pd_fld ?_ (by rfl) T.cl_Weight T.na_Weight_place ?_) <;> walk_at "go")
  | ((with_reducible show PE _ (Expr.Attribute _ "size" _) _); (refine' pd_fld ?_ (by rfl) T.cl_Weight T.na_Weight_size ?_) <;> walk_at "go")
  | ((with_reducible show PE _ (Expr.Attribute _ "start" _) _); (refine' pd_fld ?_ (by rfl) T.cl_Spread T.na_Spread_start ?_) <;> walk_at "go")
  | ((with_reducible show PE _ (Expr.Attribute _ "end" _) _); (refine' pd_fld ?_ (by rfl) T.cl_Spread T.na_Spread_end ?_) <;> walk_at "go")
  | ((with_reducible show PE _ (Expr.Attribute _ "each" _) _); (refine' pd_fld ?_ (by rfl) T.cl_Spread T.na_Spread_each ?_) <;> walk_at "go")
  | ((with_reducible show PE _ (Expr.Attribute _ "length" _) _); (refine' pd_fld ?_ (by rfl) T.cl_Beam T.na_Beam_length ?_) <;> walk_at "go")
  | ((with_reducible show PE _ (Expr.Attribute _ "rests" _) _); (refine' pd_fld ?_ (by rfl) T.cl_Beam T.na_Beam_rests ?_) <;> walk_at "go"))
variable {P : Program} {w : World} {K : PySem.W.Frag} {mg : Str → Option Value} {base : Heap} {cs : Cs}
theorem ok_Weight_ends {f : Addr} {fd : FuncData} (F : Fun K "ends" "Weight.ends" s_Weight_ends f fd) (T : Tx K mg cs) : FnOk P w K mg base (L2.CX P w) 1 f fd P_Weight_ends (spD K (R_ends cs isW)) := by
  refine def_ok F sc_Weight_ends (fun ds r h => ?_) (by decide) (fun cdv A outer s H E ds r hr h => ?_)
  · obtain ⟨w, _, _, rfl, _⟩ := h; rfl
  · obtain ⟨⟨a, b, n⟩, q, ⟨h1, ba, bb, bn⟩, rfl, rfl⟩ := h
    have nd := sc_Weight_ends.nd
    simp only [isW, isS] at q h1 ba bb bn
    subst q
    rw [← ldW]
    refine pss_hd rfl ?_
    walk_at "run"
theorem cal_Weight_ends {f : Addr} {fd : FuncData} (F : Fun K "ends" "Weight.ends" s_Weight_ends f fd) (M : Meth K cs.Weight "ends" f) (T : Tx K mg cs) : CalM P w K mg base cs.Weight "ends" 1 P_Weight_ends ((R_ends cs isW)) := ⟨T.cl_Weight, f, fd, ok_Weight_ends F T, M, F.binds fun _ _ _ _ _ _ us hl => match us, hl with | [_], _ => rfl⟩
end
section
set_option hygiene false in
local macro_rules | `(tactic| walk_at "nm") => `(tactic| first
  | ((with_reducible refine' pd_var (x := "self") 0 ?_ ?_ ?_ ?_ ?_) <;> first | (with_reducible show D) | ((with_reducible show Vis _ _); first | exact .inl rfl | exact .inr (.inl rfl) | exact .inr (.inr rfl)) | ((with_reducible show (_ == _) = false); decide) | rfl))
set_option hygiene false in
local macro_rules | `(tactic| walk_at "set") => `(tactic| first
  | ((with_reducible show PSs _ (Stmt.Assign [Expr.Name "self" _] _ _ :: _) _); refine' pss_seq (psd_set 0 nd (by rfl) (by first | exact .inl rfl | exact .inr rfl) ?_ (by rfl) (by first | exact .inr rfl | exact .inl rfl)) ?_))
set_option hygiene false in
local macro_rules | `(tactic| walk_at "aug") => `(tactic| first
  | ((with_reducible show PSs _ (Stmt.AugAssign (Expr.Name "self" _) _ _ _ :: _) _); first | refine' pss_seq (psd_aug 0 nd (by rfl) (by first | exact .inl rfl | exact .inr rfl) L2.ip_add (by rfl) ?_ (by first | exact .inr rfl | exact .inl rfl)) ?s2 | refine' pss_seq (psd_aug 0 nd (by rfl) (by first | exact .inl rfl | exact .inr rfl) L2.ip_sub (by rfl) ?_ (by first | exact .inr rfl | exact .inl rfl)) ?_))
set_option hygiene false in
local macro_rules | `(tactic| walk_at "tgn") => `(tactic| first
  | ((with_reducible show PG _ (Expr.Name "self" _) _); refine' pgd_name 0 nd (by rfl) (by first | exact .inl rfl | exact .inr rfl) (by first | exact .inr rfl | exact .inl rfl) (by first | decide | simp)))

set_option hygiene false in
local macro_rules | `(tactic| walk_at "fld") => `(tactic| first
  | ((with_reducible show PE _ (Expr.Attribute _ "place" _) _); (refine' pd_fld ?_ (by rfl) T.cl_Weight T.na_Weight_place ?_) <;> walk_at "go")
  | ((with_reducible show PE _ (Expr.Attribute _ "size" _) _); (refine' pd_fld ?_ (by rfl) T.cl_Weight T.na_Weight_size ?_) <;> walk_at "go")
  | ((with_reducible show PE _ (Expr.Attribute _ "start" _) _); (refine' pd_fld ?_ (by rfl) T.cl_Spread T.na_Spread_start ?_) <;> walk_at "go")
  | ((with_reducible show PE _ (Expr.Attribute _ "end" _) _); (refine' pd_fld ?_ (by rfl) T.cl_Spread T.na_Spread_end ?_) <;> walk_at "go")
  | ((with_reducible show PE _ (Expr.Attribute _ "each" _) _); (refine' pd_fld ?_ (by rfl) T.cl_Spread T.na_Spread_each ?_) <;> walk_at "go")
  | ((with_reducible show PE _ (Expr.Attribute _ "length" _) _); (refine' pd_fld ?_ (by rfl) T.cl_Beam T.na_Beam_length ?_) <;> walk_at "go")
  | ((with_reducible show PE _ (Expr.Attribute _ "rests" _) _); (refine' pd_fld ?_ (by rfl) T.cl_Beam T.na_Beam_rests ?_) <;> walk_at "go"))
variable {P : Program} {w : World} {K : PySem.W.Frag} {mg : Str → Option Value} {base : Heap} {cs : Cs}
theorem ok_Spread_ends {f : Addr} {fd : FuncData} (F : Fun K "ends" "Spread.ends" s_Spread_ends f fd) (T : Tx K mg cs) : FnOk P w K mg base (L2.CX P w) 1 f fd P_Spread_ends (spD K (R_ends cs isS)) := by
  refine def_ok F sc_Spread_ends (fun ds r h => ?_) (by decide) (fun cdv A outer s H E ds r hr h => ?_)
  · obtain ⟨w, _, _, rfl, _⟩ := h; rfl
  · obtain ⟨⟨a, b, n⟩, q, ⟨h1, ba, bb, bn⟩, rfl, rfl⟩ := h
    have nd := sc_Spread_ends.nd
    simp only [isW, isS] at q h1 ba bb bn
    have hlt : a < b := by omega
    rw [← ldS hlt]
    refine pss_hd rfl ?_
    walk_at "run"
theorem cal_Spread_ends {f : Addr} {fd : FuncData} (F : Fun K "ends" "Spread.ends" s_Spread_ends f fd) (M : Meth K cs.Spread "ends" f) (T : Tx K mg cs) : CalM P w K mg base cs.Spread "ends" 1 P_Spread_ends ((R_ends cs isS)) := ⟨T.cl_Spread, f, fd, ok_Spread_ends F T, M, F.binds fun _ _ _ _ _ _ us hl => match us, hl with | [_], _ => rfl⟩
end
section
set_option hygiene false in
local macro_rules | `(tactic| walk_at "nm") => `(tactic| first
  | ((with_reducible refine' pd_var (x := "self") 0 ?_ ?_ ?_ ?_ ?_) <;> first | (with_reducible show D) | ((with_reducible show Vis _ _); first | exact .inl rfl | exact .inr (.inl rfl) | exact .inr (.inr rfl)) | ((with_reducible show (_ == _) = false); decide) | rfl))
set_option hygiene false in
local macro_rules | `(tactic| walk_at "set") => `(tactic| first
  | ((with_reducible show PSs _ (Stmt.Assign [Expr.Name "self" _] _ _ :: _) _); refine' pss_seq (psd_set 0 nd (by rfl) (by first | exact .inl rfl | exact .inr rfl) ?_ (by rfl) (by first | exact .inr rfl | exact .inl rfl)) ?_))
set_option hygiene false in
local macro_rules | `(tactic| walk_at "aug") => `(tactic| first
  | ((with_reducible show PSs _ (Stmt.AugAssign (Expr.Name "self" _) _ _ _ :: _) _); first | refine' pss_seq (psd_aug 0 nd (by rfl) (by first | exact .inl rfl | exact .inr rfl) L2.ip_add (by rfl) ?_ (by first | exact .inr rfl | exact .inl rfl)) ?s2 | refine' pss_seq (psd_aug 0 nd (by rfl) (by first | exact .inl rfl | exact .inr rfl) L2.ip_sub (by rfl) ?_ (by first | exact .inr rfl | exact .inl rfl)) ?_))
set_option hygiene false in
local macro_rules | `(tactic| walk_at "tgn") => `(tactic| first
  | ((with_reducible show PG _ (Expr.Name "self" _) _); refine' pgd_name 0 nd (by rfl) (by first | exact .inl rfl | exact .inr rfl) (by first | exact .inr rfl | exact .inl rfl) (by first | decide | simp)))

set_option hygiene false in
local macro_rules | `(tactic| walk_at "fld") => `(tactic| first
  | ((with_reducible show PE _ (Expr.Attribute _ "place" _) _); (refine' pd_fld ?_ (by rfl) T.cl_Weight T.na_Weight_place ?_) <;> walk_at "go")
  | ((with_reducible show PE _ (Expr.Attribute _ "size" _) _); (refine' pd_fld ?_ (by rfl) T.cl_Weight T.na_Weight_size ?_) <;> walk_at "go")
  | ((with_reducible show PE _ (Expr.Attribute _ "start" _) _); (refine' pd_fld ?_ (by rfl) T.cl_Spread T.na_Spread_start ?_) <;> walk_at "go")
  | ((with_reducible show PE _ (Expr.Attribute _ "end" _) _); (refine' pd_fld ?_ (by rfl) T.cl_Spread T.na_Spread_end ?_) <;> walk_at "go")
  | ((with_reducible show PE _ (Expr.Attribute _ "each" _) _); (refine' pd_fld ?_ (by rfl) T.cl_Spread T.na_Spread_each ?_) <;> walk_at "go")
  | ((with_reducible show PE _ (Expr.Attribute _ "length" _) _); (refine' pd_fld ?_ (by rfl) T.cl_Beam T.na_Beam_length ?_) <;> walk_at "go")
  | ((with_reducible show PE _ (Expr.Attribute _ "rests" _) _); (refine' pd_fld ?_ (by rfl) T.cl_Beam T.na_Beam_rests ?_) <;> walk_at "go"))
variable {P : Program} {w : World} {K : PySem.W.Frag} {mg : Str → Option Value} {base : Heap} {cs : Cs}
theorem ok_Weight_total {f : Addr} {fd : FuncData} (F : Fun K "total" "Weight.total" s_Weight_total f fd) (T : Tx K mg cs) : FnOk P w K mg base (L2.CX P w) 1 f fd P_Weight_total (spD K (R_total cs isW)) := by
  refine def_ok F sc_Weight_total (fun ds r h => ?_) (by decide) (fun cdv A outer s H E ds r hr h => ?_)
  · obtain ⟨w, _, _, rfl, _⟩ := h; rfl
  · obtain ⟨⟨a, b, n⟩, q, ⟨h1, ba, bb, bn⟩, rfl, rfl⟩ := h
    have nd := sc_Weight_total.nd
    simp only [isW, isS] at q h1 ba bb bn
    subst q
    rw [← ldW]
    refine pss_hd rfl ?_
    walk_at "run"
    exact congrArg D.int (if_pos rfl).symm
theorem cal_Weight_total {f : Addr} {fd : FuncData} (F : Fun K "total" "Weight.total" s_Weight_total f fd) (M : Meth K cs.Weight "total" f) (T : Tx K mg cs) : CalM P w K mg base cs.Weight "total" 1 P_Weight_total ((R_total cs isW)) := ⟨T.cl_Weight, f, fd, ok_Weight_total F T, M, F.binds fun _ _ _ _ _ _ us hl => match us, hl with | [_], _ => rfl⟩
end
section
set_option hygiene false in
local macro_rules | `(tactic| walk_at "nm") => `(tactic| first
  | ((with_reducible refine' pd_var (x := "self") 0 ?_ ?_ ?_ ?_ ?_) <;> first | (with_reducible show D) | ((with_reducible show Vis _ _); first | exact .inl rfl | exact .inr (.inl rfl) | exact .inr (.inr rfl)) | ((with_reducible show (_ == _) = false); decide) | rfl))
set_option hygiene false in
local macro_rules | `(tactic| walk_at "set") => `(tactic| first
  | ((with_reducible show PSs _ (Stmt.Assign [Expr.Name "self" _] _ _ :: _) _); refine' pss_seq (psd_set 0 nd (by rfl) (by first | exact .inl rfl | exact .inr rfl) ?_ (by rfl) (by first | exact .inr rfl | exact .inl rfl)) ?_))
set_option hygiene false in
local macro_rules | `(tactic| walk_at "aug") => `(tactic| first
  | ((with_reducible show PSs _ (Stmt.AugAssign (Expr.Name "self" _) _ _ _ :: _) _); first | refine' pss_seq (psd_aug 0 nd (by rfl) (by first | exact .inl rfl | exact .inr rfl) L2.ip_add (by rfl) ?_ (by first | exact .inr rfl | exact .inl rfl)) ?s2 | refine' pss_seq (psd_aug 0 nd (by rfl) (by first | exact .inl rfl | exact .inr rfl) L2.ip_sub (by rfl) ?_ (by first | exact .inr rfl | exact .inl rfl)) ?_))
set_option hygiene false in
local macro_rules | `(tactic| walk_at "tgn") => `(tactic| first
  | ((with_reducible show PG _ (Expr.Name "self" _) _); refine' pgd_name 0 nd (by rfl) (by first | exact .inl rfl | exact .inr rfl) (by first | exact .inr rfl | exact .inl rfl) (by first | decide | simp)))

set_option hygiene false in
local macro_rules | `(tactic| walk_at "fld") => `(tactic| first
  | ((with_reducible show PE _ (Expr.Attribute _ "place" _) _); (refine' pd_fld ?_ (by rfl) T.cl_Weight T.na_Weight_place ?_) <;> walk_at "go")
  | ((with_reducible show PE _ (Expr.Attribute _ "size" _) _); (refine' pd_fld ?_ (by rfl) T.cl_Weight T.na_Weight_size ?_) <;> walk_at "go")
  | ((with_reducible show PE _ (Expr.Attribute _ "start" _) _); (refine' pd_fld ?_ (by rfl) T.cl_Spread T.na_Spread_start ?_) <;> walk_at "go")
  | ((with_reducible show PE _ (Expr.Attribute _ "end" _) _); (refine' pd_fld ?_ (by rfl) T.cl_Spread T.na_Spread_end ?_) <;> walk_at "go")
  | ((with_reducible show PE _ (Expr.Attribute _ "each" _) _); (refine' pd_fld ?_ (by rfl) T.cl_Spread T.na_Spread_each ?_) <;> walk_at "go")
  | ((with_reducible show PE _ (Expr.Attribute _ "length" _) _); (refine' pd_fld ?_ (by rfl) T.cl_Beam T.na_Beam_length ?_) <;> walk_at "go")
  | ((with_reducible show PE _ (Expr.Attribute _ "rests" _) _); (refine' pd_fld ?_ (by rfl) T.cl_Beam T.na_Beam_rests ?_) <;> walk_at "go"))
variable {P : Program} {w : World} {K : PySem.W.Frag} {mg : Str → Option Value} {base : Heap} {cs : Cs}
theorem ok_Spread_total {f : Addr} {fd : FuncData} (F : Fun K "total" "Spread.total" s_Spread_total f fd) (T : Tx K mg cs) : FnOk P w K mg base (L2.CX P w) 1 f fd P_Spread_total (spD K (R_total cs isS)) := by
  refine def_ok F sc_Spread_total (fun ds r h => ?_) (by decide) (fun cdv A outer s H E ds r hr h => ?_)
  · obtain ⟨w, _, _, rfl, _⟩ := h; rfl
  · obtain ⟨⟨a, b, n⟩, q, ⟨h1, ba, bb, bn⟩, rfl, rfl⟩ := h
    have nd := sc_Spread_total.nd
    simp only [isW, isS] at q h1 ba bb bn
    have hlt : a < b := by omega
    rw [← ldS hlt]
    refine pss_hd rfl ?_
    walk_at "run"
    exact congrArg D.int (if_neg q).symm
theorem cal_Spread_total {f : Addr} {fd : FuncData} (F : Fun K "total" "Spread.total" s_Spread_total f fd) (M : Meth K cs.Spread "total" f) (T : Tx K mg cs) : CalM P w K mg base cs.Spread "total" 1 P_Spread_total ((R_total cs isS)) := ⟨T.cl_Spread, f, fd, ok_Spread_total F T, M, F.binds fun _ _ _ _ _ _ us hl => match us, hl with | [_], _ => rfl⟩
end
section
set_option hygiene false in
local macro_rules | `(tactic| walk_at "nm") => `(tactic| first
  | ((with_reducible refine' pd_var (x := "self") 0 ?_ ?_ ?_ ?_ ?_) <;> first | (with_reducible show D) | ((with_reducible show Vis _ _); first | exact .inl rfl | exact .inr (.inl rfl) | exact .inr (.inr rfl)) | ((with_reducible show (_ == _) = false); decide) | rfl)
  | ((with_reducible refine' pd_var (x := "top") 1 ?_ ?_ ?_ ?_ ?_) <;> first | (with_reducible show D) | ((with_reducible show Vis _ _); first | exact .inl rfl | exact .inr (.inl rfl) | exact .inr (.inr rfl)) | ((with_reducible show (_ == _) = false); decide) | rfl)
  | ((with_reducible refine' pd_var (x := "bottom") 2 ?_ ?_ ?_ ?_ ?_) <;> first | (with_reducible show D) | ((with_reducible show Vis _ _); first | exact .inl rfl | exact .inr (.inl rfl) | exact .inr (.inr rfl)) | ((with_reducible show (_ == _) = false); decide) | rfl))
set_option hygiene false in
local macro_rules | `(tactic| walk_at "set") => `(tactic| first
  | ((with_reducible show PSs _ (Stmt.Assign [Expr.Name "self" _] _ _ :: _) _); refine' pss_seq (psd_set 0 nd (by rfl) (by first | exact .inl rfl | exact .inr rfl) ?_ (by rfl) (by first | exact .inr rfl | exact .inl rfl)) ?_)
  | ((with_reducible show PSs _ (Stmt.Assign [Expr.Name "top" _] _ _ :: _) _); refine' pss_seq (psd_set 1 nd (by rfl) (by first | exact .inl rfl | exact .inr rfl) ?_ (by rfl) (by first | exact .inr rfl | exact .inl rfl)) ?_)
  | ((with_reducible show PSs _ (Stmt.Assign [Expr.Name "bottom" _] _ _ :: _) _); refine' pss_seq (psd_set 2 nd (by rfl) (by first | exact .inl rfl | exact .inr rfl) ?_ (by rfl) (by first | exact .inr rfl | exact .inl rfl)) ?_))
set_option hygiene false in
local macro_rules | `(tactic| walk_at "aug") => `(tactic| first
  | ((with_reducible show PSs _ (Stmt.AugAssign (Expr.Name "self" _) _ _ _ :: _) _); first | refine' pss_seq (psd_aug 0 nd (by rfl) (by first | exact .inl rfl | exact .inr rfl) L2.ip_add (by rfl) ?_ (by first | exact .inr rfl | exact .inl rfl)) ?s2 | refine' pss_seq (psd_aug 0 nd (by rfl) (by first | exact .inl rfl | exact .inr rfl) L2.ip_sub (by rfl) ?_ (by first | exact .inr rfl | exact .inl rfl)) ?_)
  | ((with_reducible show PSs _ (Stmt.AugAssign (Expr.Name "top" _) _ _ _ :: _) _); first | refine' pss_seq (psd_aug 1 nd (by rfl) (by first | exact .inl rfl | exact .inr rfl) L2.ip_add (by rfl) ?_ (by first | exact .inr rfl | exact .inl rfl)) ?s2 | refine' pss_seq (psd_aug 1 nd (by rfl) (by first | exact .inl rfl | exact .inr rfl) L2.ip_sub (by rfl) ?_ (by first | exact .inr rfl | exact .inl rfl)) ?_)
  | ((with_reducible show PSs _ (Stmt.AugAssign (Expr.Name "bottom" _) _ _ _ :: _) _); first | refine' pss_seq (psd_aug 2 nd (by rfl) (by first | exact .inl rfl | exact .inr rfl) L2.ip_add (by rfl) ?_ (by first | exact .inr rfl | exact .inl rfl)) ?s2 | refine' pss_seq (psd_aug 2 nd (by rfl) (by first | exact .inl rfl | exact .inr rfl) L2.ip_sub (by rfl) ?_ (by first | exact .inr rfl | exact .inl rfl)) ?_))
set_option hygiene false in
local macro_rules | `(tactic| walk_at "tgn") => `(tactic| first
  | ((with_reducible show PG _ (Expr.Name "self" _) _); refine' pgd_name 0 nd (by rfl) (by first | exact .inl rfl | exact .inr rfl) (by first | exact .inr rfl | exact .inl rfl) (by first | decide | simp))
  | ((with_reducible show PG _ (Expr.Name "top" _) _); refine' pgd_name 1 nd (by rfl) (by first | exact .inl rfl | exact .inr rfl) (by first | exact .inr rfl | exact .inl rfl) (by first | decide | simp))
  | ((with_reducible show PG _ (Expr.Name "bottom" _) _); refine' pgd_name 2 nd (by rfl) (by first | exact .inl rfl | exact .inr rfl) (by first | exact .inr rfl | exact .inl rfl) (by first | decide | simp)))

set_option hygiene false in
local macro_rules | `(tactic| walk_at "fld") => `(tactic| first
  | ((with_reducible show PE _ (Expr.Attribute _ "place" _) _); (refine' pd_fld ?_ (by rfl) T.cl_Weight T.na_Weight_place ?_) <;> walk_at "go")
  | ((with_reducible show PE _ (Expr.Attribute _ "size" _) _); (refine' pd_fld ?_ (by rfl) T.cl_Weight T.na_Weight_size ?_) <;> walk_at "go")
  | ((with_reducible show PE _ (Expr.Attribute _ "start" _) _); (refine' pd_fld ?_ (by rfl) T.cl_Spread T.na_Spread_start ?_) <;> walk_at "go")
  | ((with_reducible show PE _ (Expr.Attribute _ "end" _) _); (refine' pd_fld ?_ (by rfl) T.cl_Spread T.na_Spread_end ?_) <;> walk_at "go")
  | ((with_reducible show PE _ (Expr.Attribute _ "each" _) _); (refine' pd_fld ?_ (by rfl) T.cl_Spread T.na_Spread_each ?_) <;> walk_at "go")
  | ((with_reducible show PE _ (Expr.Attribute _ "length" _) _); (refine' pd_fld ?_ (by rfl) T.cl_Beam T.na_Beam_length ?_) <;> walk_at "go")
  | ((with_reducible show PE _ (Expr.Attribute _ "rests" _) _); (refine' pd_fld ?_ (by rfl) T.cl_Beam T.na_Beam_rests ?_) <;> walk_at "go"))
variable {P : Program} {w : World} {K : PySem.W.Frag} {mg : Str → Option Value} {base : Heap} {cs : Cs}
theorem ok_Weight_left_part {f : Addr} {fd : FuncData} (F : Fun K "left_part" "Weight.left_part" s_Weight_left_part f fd) (T : Tx K mg cs) : FnOk P w K mg base (L2.CX P w) 1 f fd P_Weight_left_part (spD K (R_left_part cs isW)) := by
  refine def_ok F sc_Weight_left_part (fun ds r h => ?_) (by decide) (fun cdv A outer s H E ds r hr h => ?_)
  · obtain ⟨w, t, d, _, _, _, _, rfl, _⟩ := h; rfl
  · obtain ⟨⟨a, b, n⟩, t, d, q, ⟨h1, ba, bb, bn⟩, bt, bd, rfl, rfl⟩ := h
    have nd := sc_Weight_left_part.nd
    simp only [isW, isS] at q h1 ba bb bn
    subst q
    rw [← ldW]
    refine pss_hd rfl ?_
    walk_at "run"
    exact congrArg D.int (if_pos rfl).symm
theorem cal_Weight_left_part {f : Addr} {fd : FuncData} (F : Fun K "left_part" "Weight.left_part" s_Weight_left_part f fd) (M : Meth K cs.Weight "left_part" f) (T : Tx K mg cs) : CalM P w K mg base cs.Weight "left_part" 1 P_Weight_left_part ((R_left_part cs isW)) := ⟨T.cl_Weight, f, fd, ok_Weight_left_part F T, M, F.binds fun _ _ _ _ _ _ us hl => match us, hl with | [_, _, _], _ => rfl⟩
end
section
set_option hygiene false in
local macro_rules | `(tactic| walk_at "nm") => `(tactic| first
  | ((with_reducible refine' pd_var (x := "self") 0 ?_ ?_ ?_ ?_ ?_) <;> first | (with_reducible show D) | ((with_reducible show Vis _ _); first | exact .inl rfl | exact .inr (.inl rfl) | exact .inr (.inr rfl)) | ((with_reducible show (_ == _) = false); decide) | rfl)
  | ((with_reducible refine' pd_var (x := "top") 1 ?_ ?_ ?_ ?_ ?_) <;> first | (with_reducible show D) | ((with_reducible show Vis _ _); first | exact .inl rfl | exact .inr (.inl rfl) | exact .inr (.inr rfl)) | ((with_reducible show (_ == _) = false); decide) | rfl)
  | ((with_reducible refine' pd_var (x := "bottom") 2 ?_ ?_ ?_ ?_ ?_) <;> first | (with_reducible show D) | ((with_reducible show Vis _ _); first | exact .inl rfl | exact .inr (.inl rfl) | exact .inr (.inr rfl)) | ((with_reducible show (_ == _) = false); decide) | rfl)
  | ((with_reducible refine' pd_var (x := "all_of_it") 3 ?_ ?_ ?_ ?_ ?_) <;> first | (with_reducible show D) | ((with_reducible show Vis _ _); first | exact .inl rfl | exact .inr (.inl rfl) | exact .inr (.inr rfl)) | ((with_reducible show (_ == _) = false); decide) | rfl)
  | ((with_reducible refine' pd_var (x := "beyond") 4 ?_ ?_ ?_ ?_ ?_) <;> first | (with_reducible show D) | ((with_reducible show Vis _ _); first | exact .inl rfl | exact .inr (.inl rfl) | exact .inr (.inr rfl)) | ((with_reducible show (_ == _) = false); decide) | rfl))
set_option hygiene false in
local macro_rules | `(tactic| walk_at "set") => `(tactic| first
  | ((with_reducible show PSs _ (Stmt.Assign [Expr.Name "self" _] _ _ :: _) _); refine' pss_seq (psd_set 0 nd (by rfl) (by first | exact .inl rfl | exact .inr rfl) ?_ (by rfl) (by first | exact .inr rfl | exact .inl rfl)) ?_)
  | ((with_reducible show PSs _ (Stmt.Assign [Expr.Name "top" _] _ _ :: _) _); refine' pss_seq (psd_set 1 nd (by rfl) (by first | exact .inl rfl | exact .inr rfl) ?_ (by rfl) (by first | exact .inr rfl | exact .inl rfl)) ?_)
  | ((with_reducible show PSs _ (Stmt.Assign [Expr.Name "bottom" _] _ _ :: _) _); refine' pss_seq (psd_set 2 nd (by rfl) (by first | exact .inl rfl | exact .inr rfl) ?_ (by rfl) (by first | exact .inr rfl | exact .inl rfl)) ?_)
  | ((with_reducible show PSs _ (Stmt.Assign [Expr.Name "all_of_it" _] _ _ :: _) _); refine' pss_seq (psd_set 3 nd (by rfl) (by first | exact .inl rfl | exact .inr rfl) ?_ (by rfl) (by first | exact .inr rfl | exact .inl rfl)) ?_)
  | ((with_reducible show PSs _ (Stmt.Assign [Expr.Name "beyond" _] _ _ :: _) _); refine' pss_seq (psd_set 4 nd (by rfl) (by first | exact .inl rfl | exact .inr rfl) ?_ (by rfl) (by first | exact .inr rfl | exact .inl rfl)) ?_))
set_option hygiene false in
local macro_rules | `(tactic| walk_at "aug") => `(tactic| first
  | ((with_reducible show PSs _ (Stmt.AugAssign (Expr.Name "self" _) _ _ _ :: _) _); first | refine' pss_seq (psd_aug 0 nd (by rfl) (by first | exact .inl rfl | exact .inr rfl) L2.ip_add (by rfl) ?_ (by first | exact .inr rfl | exact .inl rfl)) ?s2 | refine' pss_seq (psd_aug 0 nd (by rfl) (by first | exact .inl rfl | exact .inr rfl) L2.ip_sub (by rfl) ?_ (by first | exact .inr rfl | exact .inl rfl)) ?_)
  | ((with_reducible show PSs _ (Stmt.AugAssign (Expr.Name "top" _) _ _ _ :: _) _); first | refine' pss_seq (psd_aug 1 nd (by rfl) (by first | exact .inl rfl | exact .inr rfl) L2.ip_add (by rfl) ?_ (by first | exact .inr rfl | exact .inl rfl)) ?s2 | refine' pss_seq (psd_aug 1 nd (by rfl) (by first | exact .inl rfl | exact .inr rfl) L2.ip_sub (by rfl) ?_ (by first | exact .inr rfl | exact .inl rfl)) ?_)
  | ((with_reducible show PSs _ (Stmt.AugAssign (Expr.Name "bottom" _) _ _ _ :: _) _); first | refine' pss_seq (psd_aug 2 nd (by rfl) (by first | exact .inl rfl | exact .inr rfl) L2.ip_add (by rfl) ?_ (by first | exact .inr rfl | exact .inl rfl)) ?s2 | refine' pss_seq (psd_aug 2 nd (by rfl) (by first | exact .inl rfl | exact .inr rfl) L2.ip_sub (by rfl) ?_ (by first | exact .inr rfl | exact .inl rfl)) ?_)
  | ((with_reducible show PSs _ (Stmt.AugAssign (Expr.Name "all_of_it" _) _ _ _ :: _) _); first | refine' pss_seq (psd_aug 3 nd (by rfl) (by first | exact .inl rfl | exact .inr rfl) L2.ip_add (by rfl) ?_ (by first | exact .inr rfl | exact .inl rfl)) ?s2 | refine' pss_seq (psd_aug 3 nd (by rfl) (by first | exact .inl rfl | exact .inr rfl) L2.ip_sub (by rfl) ?_ (by first | exact .inr rfl | exact .inl rfl)) ?_)
  | ((with_reducible show PSs _ (Stmt.AugAssign (Expr.Name "beyond" _) _ _ _ :: _) _); first | refine' pss_seq (psd_aug 4 nd (by rfl) (by first | exact .inl rfl | exact .inr rfl) L2.ip_add (by rfl) ?_ (by first | exact .inr rfl | exact .inl rfl)) ?s2 | refine' pss_seq (psd_aug 4 nd (by rfl) (by first | exact .inl rfl | exact .inr rfl) L2.ip_sub (by rfl) ?_ (by first | exact .inr rfl | exact .inl rfl)) ?_))
set_option hygiene false in
local macro_rules | `(tactic| walk_at "tgn") => `(tactic| first
  | ((with_reducible show PG _ (Expr.Name "self" _) _); refine' pgd_name 0 nd (by rfl) (by first | exact .inl rfl | exact .inr rfl) (by first | exact .inr rfl | exact .inl rfl) (by first | decide | simp))
  | ((with_reducible show PG _ (Expr.Name "top" _) _); refine' pgd_name 1 nd (by rfl) (by first | exact .inl rfl | exact .inr rfl) (by first | exact .inr rfl | exact .inl rfl) (by first | decide | simp))
  | ((with_reducible show PG _ (Expr.Name "bottom" _) _); refine' pgd_name 2 nd (by rfl) (by first | exact .inl rfl | exact .inr rfl) (by first | exact .inr rfl | exact .inl rfl) (by first | decide | simp))
  | ((with_reducible show PG _ (Expr.Name "all_of_it" _) _); refine' pgd_name 3 nd (by rfl) (by first | exact .inl rfl | exact .inr rfl) (by first | exact .inr rfl | exact .inl rfl) (by first | decide | simp))
  | ((with_reducible show PG _ (Expr.Name "beyond" _) _); refine' pgd_name 4 nd (by rfl) (by first | exact .inl rfl | exact .inr rfl) (by first | exact .inr rfl | exact .inl rfl) (by first | decide | simp)))

set_option hygiene false in
local macro_rules | `(tactic| walk_at "fld") => `(tactic| first
  | ((with_reducible show PE _ (Expr.Attribute _ "place" _) _); (refine' pd_fld ?_ (by rfl) T.cl_Weight T.na_Weight_place ?_) <;> walk_at "go")
  | ((with_reducible show PE _ (Expr.Attribute _ "size" _) _); (refine' pd_fld ?_ (by rfl) T.cl_Weight T.na_Weight_size ?_) <;> walk_at "go")
  | ((with_reducible show PE _ (Expr.Attribute _ "start" _) _); (refine' pd_fld ?_ (by rfl) T.cl_Spread T.na_Spread_start ?_) <;> walk_at "go")
  | ((with_reducible show PE _ (Expr.Attribute _ "end" _) _); (refine' pd_fld ?_ (by rfl) T.cl_Spread T.na_Spread_end ?_) <;> walk_at "go")
  | ((with_reducible show PE _ (Expr.Attribute _ "each" _) _); (refine' pd_fld ?_ (by rfl) T.cl_Spread T.na_Spread_each ?_) <;> walk_at "go")
  | ((with_reducible show PE _ (Expr.Attribute _ "length" _) _); (refine' pd_fld ?_ (by rfl) T.cl_Beam T.na_Beam_length ?_) <;> walk_at "go")
  | ((with_reducible show PE _ (Expr.Attribute _ "rests" _) _); (refine' pd_fld ?_ (by rfl) T.cl_Beam T.na_Beam_rests ?_) <;> walk_at "go"))
variable {P : Program} {w : World} {K : PySem.W.Frag} {mg : Str → Option Value} {base : Heap} {cs : Cs}
theorem ok_Spread_left_part {f : Addr} {fd : FuncData} (F : Fun K "left_part" "Spread.left_part" s_Spread_left_part f fd) (T : Tx K mg cs) : FnOk P w K mg base (L2.CX P w) 1 f fd P_Spread_left_part (spD K (R_left_part cs isS)) := by
  refine def_ok F sc_Spread_left_part (fun ds r h => ?_) (by decide) (fun cdv A outer s H E ds r hr h => ?_)
  · obtain ⟨w, t, d, _, _, _, _, rfl, _⟩ := h; rfl
  · obtain ⟨⟨a, b, n⟩, t, d, q, ⟨h1, ba, bb, bn⟩, bt, bd, rfl, rfl⟩ := h
    have nd := sc_Spread_left_part.nd
    simp only [isW, isS] at q h1 ba bb bn
    have hlt : a < b := by omega
    rw [← ldS hlt]
    refine pss_hd rfl ?_
    walk_at "run"
    exact congrArg D.int (if_neg q).symm
theorem cal_Spread_left_part {f : Addr} {fd : FuncData} (F : Fun K "left_part" "Spread.left_part" s_Spread_left_part f fd) (M : Meth K cs.Spread "left_part" f) (T : Tx K mg cs) : CalM P w K mg base cs.Spread "left_part" 1 P_Spread_left_part ((R_left_part cs isS)) := ⟨T.cl_Spread, f, fd, ok_Spread_left_part F T, M, F.binds fun _ _ _ _ _ _ us hl => match us, hl with | [_, _, _], _ => rfl⟩
end
section
set_option hygiene false in
local macro_rules | `(tactic| walk_at "nm") => `(tactic| first
  | ((with_reducible refine' pd_var (x := "self") 0 ?_ ?_ ?_ ?_ ?_) <;> first | (with_reducible show D) | ((with_reducible show Vis _ _); first | exact .inl rfl | exact .inr (.inl rfl) | exact .inr (.inr rfl)) | ((with_reducible show (_ == _) = false); decide) | rfl)
  | ((with_reducible refine' pd_var (x := "top") 1 ?_ ?_ ?_ ?_ ?_) <;> first | (with_reducible show D) | ((with_reducible show Vis _ _); first | exact .inl rfl | exact .inr (.inl rfl) | exact .inr (.inr rfl)) | ((with_reducible show (_ == _) = false); decide) | rfl)
  | ((with_reducible refine' pd_var (x := "bottom") 2 ?_ ?_ ?_ ?_ ?_) <;> first | (with_reducible show D) | ((with_reducible show Vis _ _); first | exact .inl rfl | exact .inr (.inl rfl) | exact .inr (.inr rfl)) | ((with_reducible show (_ == _) = false); decide) | rfl))
set_option hygiene false in
local macro_rules | `(tactic| walk_at "set") => `(tactic| first
  | ((with_reducible show PSs _ (Stmt.Assign [Expr.Name "self" _] _ _ :: _) _); refine' pss_seq (psd_set 0 nd (by rfl) (by first | exact .inl rfl | exact .inr rfl) ?_ (by rfl) (by first | exact .inr rfl | exact .inl rfl)) ?_)
  | ((with_reducible show PSs _ (Stmt.Assign [Expr.Name "top" _] _ _ :: _) _); refine' pss_seq (psd_set 1 nd (by rfl) (by first | exact .inl rfl | exact .inr rfl) ?_ (by rfl) (by first | exact .inr rfl | exact .inl rfl)) ?_)
  | ((with_reducible show PSs _ (Stmt.Assign [Expr.Name "bottom" _] _ _ :: _) _); refine' pss_seq (psd_set 2 nd (by rfl) (by first | exact .inl rfl | exact .inr rfl) ?_ (by rfl) (by first | exact .inr rfl | exact .inl rfl)) ?_))
set_option hygiene false in
local macro_rules | `(tactic| walk_at "aug") => `(tactic| first
  | ((with_reducible show PSs _ (Stmt.AugAssign (Expr.Name "self" _) _ _ _ :: _) _); first | refine' pss_seq (psd_aug 0 nd (by rfl) (by first | exact .inl rfl | exact .inr rfl) L2.ip_add (by rfl) ?_ (by first | exact .inr rfl | exact .inl rfl)) ?s2 | refine' pss_seq (psd_aug 0 nd (by rfl) (by first | exact .inl rfl | exact .inr rfl) L2.ip_sub (by rfl) ?_ (by first | exact .inr rfl | exact .inl rfl)) ?_)
  | ((with_reducible show PSs _ (Stmt.AugAssign (Expr.Name "top" _) _ _ _ :: _) _); first | refine' pss_seq (psd_aug 1 nd (by rfl) (by first | exact .inl rfl | exact .inr rfl) L2.ip_add (by rfl) ?_ (by first | exact .inr rfl | exact .inl rfl)) ?s2 | refine' pss_seq (psd_aug 1 nd (by rfl) (by first | exact .inl rfl | exact .inr rfl) L2.ip_sub (by rfl) ?_ (by first | exact .inr rfl | exact .inl rfl)) ?_)
  | ((with_reducible show PSs _ (Stmt.AugAssign (Expr.Name "bottom" _) _ _ _ :: _) _); first | refine' pss_seq (psd_aug 2 nd (by rfl) (by first | exact .inl rfl | exact .inr rfl) L2.ip_add (by rfl) ?_ (by first | exact .inr rfl | exact .inl rfl)) ?s2 | refine' pss_seq (psd_aug 2 nd (by rfl) (by first | exact .inl rfl | exact .inr rfl) L2.ip_sub (by rfl) ?_ (by first | exact .inr rfl | exact .inl rfl)) ?_))
set_option hygiene false in
local macro_rules | `(tactic| walk_at "tgn") => `(tactic| first
  | ((with_reducible show PG _ (Expr.Name "self" _) _); refine' pgd_name 0 nd (by rfl) (by first | exact .inl rfl | exact .inr rfl) (by first | exact .inr rfl | exact .inl rfl) (by first | decide | simp))
  | ((with_reducible show PG _ (Expr.Name "top" _) _); refine' pgd_name 1 nd (by rfl) (by first | exact .inl rfl | exact .inr rfl) (by first | exact .inr rfl | exact .inl rfl) (by first | decide | simp))
  | ((with_reducible show PG _ (Expr.Name "bottom" _) _); refine' pgd_name 2 nd (by rfl) (by first | exact .inl rfl | exact .inr rfl) (by first | exact .inr rfl | exact .inl rfl) (by first | decide | simp)))

set_option hygiene false in
local macro_rules | `(tactic| walk_at "fld") => `(tactic| first
  | ((with_reducible show PE _ (Expr.Attribute _ "place" _) _); (refine' pd_fld ?_ (by rfl) T.cl_Weight T.na_Weight_place ?_) <;> walk_at "go")
  | ((with_reducible show PE _ (Expr.Attribute _ "size" _) _); (refine' pd_fld ?_ (by rfl) T.cl_Weight T.na_Weight_size ?_) <;> walk_at "go")
  | ((with_reducible show PE _ (Expr.Attribute _ "start" _) _); (refine' pd_fld ?_ (by rfl) T.cl_Spread T.na_Spread_start ?_) <;> walk_at "go")
  | ((with_reducible show PE _ (Expr.Attribute _ "end" _) _); (refine' pd_fld ?_ (by rfl) T.cl_Spread T.na_Spread_end ?_) <;> walk_at "go")
  | ((with_reducible show PE _ (Expr.Attribute _ "each" _) _); (refine' pd_fld ?_ (by rfl) T.cl_Spread T.na_Spread_each ?_) <;> walk_at "go")
  | ((with_reducible show PE _ (Expr.Attribute _ "length" _) _); (refine' pd_fld ?_ (by rfl) T.cl_Beam T.na_Beam_length ?_) <;> walk_at "go")
  | ((with_reducible show PE _ (Expr.Attribute _ "rests" _) _); (refine' pd_fld ?_ (by rfl) T.cl_Beam T.na_Beam_rests ?_) <;> walk_at "go"))
variable {P : Program} {w : World} {K : PySem.W.Frag} {mg : Str → Option Value} {base : Heap} {cs : Cs}
theorem ok_Weight_right_part {f : Addr} {fd : FuncData} (F : Fun K "right_part" "Weight.right_part" s_Weight_right_part f fd) (T : Tx K mg cs) : FnOk P w K mg base (L2.CX P w) 1 f fd P_Weight_right_part (spD K (R_right_part cs isW)) := by
  refine def_ok F sc_Weight_right_part (fun ds r h => ?_) (by decide) (fun cdv A outer s H E ds r hr h => ?_)
  · obtain ⟨w, t, d, _, _, _, _, rfl, _⟩ := h; rfl
  · obtain ⟨⟨a, b, n⟩, t, d, q, ⟨h1, ba, bb, bn⟩, bt, bd, rfl, rfl⟩ := h
    have nd := sc_Weight_right_part.nd
    simp only [isW, isS] at q h1 ba bb bn
    subst q
    rw [← ldW]
    refine pss_hd rfl ?_
    walk_at "run"
    exact congrArg D.int (if_pos rfl).symm
theorem cal_Weight_right_part {f : Addr} {fd : FuncData} (F : Fun K "right_part" "Weight.right_part" s_Weight_right_part f fd) (M : Meth K cs.Weight "right_part" f) (T : Tx K mg cs) : CalM P w K mg base cs.Weight "right_part" 1 P_Weight_right_part ((R_right_part cs isW)) := ⟨T.cl_Weight, f, fd, ok_Weight_right_part F T, M, F.binds fun _ _ _ _ _ _ us hl => match us, hl with | [_, _, _], _ => rfl⟩
end
section
set_option hygiene false in
local macro_rules | `(tactic| walk_at "nm") => `(tactic| first
  | ((with_reducible refine' pd_var (x := "self") 0 ?_ ?_ ?_ ?_ ?_) <;> first | (with_reducible show D) | ((with_reducible show Vis _ _); first | exact .inl rfl | exact .inr (.inl rfl) | exact .inr (.inr rfl)) | ((with_reducible show (_ == _) = false); decide) | rfl)
  | ((with_reducible refine' pd_var (x := "top") 1 ?_ ?_ ?_ ?_ ?_) <;> first | (with_reducible show D) | ((with_reducible show Vis _ _); first | exact .inl rfl | exact .inr (.inl rfl) | exact .inr (.inr rfl)) | ((with_reducible show (_ == _) = false); decide) | rfl)
  | ((with_reducible refine' pd_var (x := "bottom") 2 ?_ ?_ ?_ ?_ ?_) <;> first | (with_reducible show D) | ((with_reducible show Vis _ _); first | exact .inl rfl | exact .inr (.inl rfl) | exact .inr (.inr rfl)) | ((with_reducible show (_ == _) = false); decide) | rfl)
  | ((with_reducible refine' pd_var (x := "all_of_it") 3 ?_ ?_ ?_ ?_ ?_) <;> first | (with_reducible show D) | ((with_reducible show Vis _ _); first | exact .inl rfl | exact .inr (.inl rfl) | exact .inr (.inr rfl)) | ((with_reducible show (_ == _) = false); decide) | rfl)
  | ((with_reducible refine' pd_var (x := "beyond") 4 ?_ ?_ ?_ ?_ ?_) <;> first | (with_reducible show D) | ((with_reducible show Vis _ _); first | exact .inl rfl | exact .inr (.inl rfl) | exact .inr (.inr rfl)) | ((with_reducible show (_ == _) = false); decide) | rfl))
set_option hygiene false in
local macro_rules | `(tactic| walk_at "set") => `(tactic| first
  | ((with_reducible show PSs _ (Stmt.Assign [Expr.Name "self" _] _ _ :: _) _); refine' pss_seq (psd_set 0 nd (by rfl) (by first | exact .inl rfl | exact .inr rfl) ?_ (by rfl) (by first | exact .inr rfl | exact .inl rfl)) ?_)
  | ((with_reducible show PSs _ (Stmt.Assign [Expr.Name "top" _] _ _ :: _) _); refine' pss_seq (psd_set 1 nd (by rfl) (by first | exact .inl rfl | exact .inr rfl) ?_ (by rfl) (by first | exact .inr rfl | exact .inl rfl)) ?_)
  | ((with_reducible show PSs _ (Stmt.Assign [Expr.Name "bottom" _] _ _ :: _) _); refine' pss_seq (psd_set 2 nd (by rfl) (by first | exact .inl rfl | exact .inr rfl) ?_ (by rfl) (by first | exact .inr rfl | exact .inl rfl)) ?_)
  | ((with_reducible show PSs _ (Stmt.Assign [Expr.Name "all_of_it" _] _ _ :: _) _); refine' pss_seq (psd_set 3 nd (by rfl) (by first | exact .inl rfl | exact .inr rfl) ?_ (by rfl) (by first | exact .inr rfl | exact .inl rfl)) ?_)
  | ((with_reducible show PSs _ (Stmt.Assign [Expr.Name "beyond" _] _ _ :: _) _); refine' pss_seq (psd_set 4 nd (by rfl) (by first | exact .inl rfl | exact .inr rfl) ?_ (by rfl) (by first | exact .inr rfl | exact .inl rfl)) ?_))
set_option hygiene false in
local macro_rules | `(tactic| walk_at "aug") => `(tactic| first
  | ((with_reducible show PSs _ (Stmt.AugAssign (Expr.Name "self" _) _ _ _ :: _) _); first | refine' pss_seq (psd_aug 0 nd (by rfl) (by first | exact .inl rfl | exact .inr rfl) L2.ip_add (by rfl) ?_ (by first | exact .inr rfl | exact .inl rfl)) ?s2 | refine' pss_seq (psd_aug 0 nd (by rfl) (by first | exact .inl rfl | exact .inr rfl) L2.ip_sub (by rfl) ?_ (by first | exact .inr rfl | exact .inl rfl)) ?_)
  | ((with_reducible show PSs _ (Stmt.AugAssign (Expr.Name "top" _) _ _ _ :: _) _); first | refine' pss_seq (psd_aug 1 nd (by rfl) (by first | exact .inl rfl | exact .inr rfl) L2.ip_add (by rfl) ?_ (by first | exact .inr rfl | exact .inl rfl)) ?s2 | refine' pss_seq (psd_aug 1 nd (by rfl) (by first | exact .inl rfl | exact .inr rfl) L2.ip_sub (by rfl) ?_ (by first | exact .inr rfl | exact .inl rfl)) ?_)
  | ((with_reducible show PSs _ (Stmt.AugAssign (Expr.Name "bottom" _) _ _ _ :: _) _); first | refine' pss_seq (psd_aug 2 nd (by rfl) (by first | exact .inl rfl | exact .inr rfl) L2.ip_add (by rfl) ?_ (by first | exact .inr rfl | exact .inl rfl)) ?s2 | refine' pss_seq (psd_aug 2 nd (by rfl) (by first | exact .inl rfl | exact .inr rfl) L2.ip_sub (by rfl) ?_ (by first | exact .inr rfl | exact .inl rfl)) ?_)
  | ((with_reducible show PSs _ (Stmt.AugAssign (Expr.Name "all_of_it" _) _ _ _ :: _) _); first | refine' pss_seq (psd_aug 3 nd (by rfl) (by first | exact .inl rfl | exact .inr rfl) L2.ip_add (by rfl) ?_ (by first | exact .inr rfl | exact .inl rfl)) ?s2 | refine' pss_seq (psd_aug 3 nd (by rfl) (by first | exact .inl rfl | exact .inr rfl) L2.ip_sub (by rfl) ?_ (by first | exact .inr rfl | exact .inl rfl)) ?_)
  | ((with_reducible show PSs _ (Stmt.AugAssign (Expr.Name "beyond" _) _ _ _ :: _) _); first | refine' pss_seq (psd_aug 4 nd (by rfl) (by first | exact .inl rfl | exact .inr rfl) L2.ip_add (by rfl) ?_ (by first | exact .inr rfl | exact .inl rfl)) ?s2 | refine' pss_seq (psd_aug 4 nd (by rfl) (by first | exact .inl rfl | exact .inr rfl) L2.ip_sub (by rfl) ?_ (by first | exact .inr rfl | exact .inl rfl)) ?_))
set_option hygiene false in
local macro_rules | `(tactic| walk_at "tgn") => `(tactic| first
  | ((with_reducible show PG _ (Expr.Name "self" _) _); refine' pgd_name 0 nd (by rfl) (by first | exact .inl rfl | exact .inr rfl) (by first | exact .inr rfl | exact .inl rfl) (by first | decide | simp))
  | ((with_reducible show PG _ (Expr.Name "top" _) _); refine' pgd_name 1 nd (by rfl) (by first | exact .inl rfl | exact .inr rfl) (by first | exact .inr rfl | exact .inl rfl) (by first | decide | simp))
  | ((with_reducible show PG _ (Expr.Name "bottom" _) _); refine' pgd_name 2 nd (by rfl) (by first | exact .inl rfl | exact .inr rfl) (by first | exact .inr rfl | exact .inl rfl) (by first | decide | simp))
  | ((with_reducible show PG _ (Expr.Name "all_of_it" _) _); refine' pgd_name 3 nd (by rfl) (by first | exact .inl rfl | exact .inr rfl) (by first | exact .inr rfl | exact .inl rfl) (by first | decide | simp))
  | ((with_reducible show PG _ (Expr.Name "beyond" _) _); refine' pgd_name 4 nd (by rfl) (by first | exact .inl rfl | exact .inr rfl) (by first | exact .inr rfl | exact .inl rfl) (by first | decide | simp)))

set_option hygiene false in
local macro_rules | `(tactic| walk_at "fld") => `(tactic| first
  | ((with_reducible show PE _ (Expr.Attribute _ "place" _) _); (refine' pd_fld ?_ (by rfl) T.cl_Weight T.na_Weight_place ?_) <;> walk_at "go")
  | ((with_reducible show PE _ (Expr.Attribute _ "size" _) _); (refine' pd_fld ?_ (by rfl) T.cl_Weight T.na_Weight_size ?_) <;> walk_at "go")
  | ((with_reducible show PE _ (Expr.Attribute _ "start" _) _); (refine' pd_fld ?_ (by rfl) T.cl_Spread T.na_Spread_start ?_) <;> walk_at "go")
  | ((with_reducible show PE _ (Expr.Attribute _ "end" _) _); (refine' pd_fld ?_ (by rfl) T.cl_Spread T.na_Spread_end ?_) <;> walk_at "go")
  | ((with_reducible show PE _ (Expr.Attribute _ "each" _) _); (refine' pd_fld ?_ (by rfl) T.cl_Spread T.na_Spread_each ?_) <;> walk_at "go")
  | ((with_reducible show PE _ (Expr.Attribute _ "length" _) _); (refine' pd_fld ?_ (by rfl) T.cl_Beam T.na_Beam_length ?_) <;> walk_at "go")
  | ((with_reducible show PE _ (Expr.Attribute _ "rests" _) _); (refine' pd_fld ?_ (by rfl) T.cl_Beam T.na_Beam_rests ?_) <;> walk_at "go"))
variable {P : Program} {w : World} {K : PySem.W.Frag} {mg : Str → Option Value} {base : Heap} {cs : Cs}
theorem ok_Spread_right_part {f : Addr} {fd : FuncData} (F : Fun K "right_part" "Spread.right_part" s_Spread_right_part f fd) (T : Tx K mg cs) : FnOk P w K mg base (L2.CX P w) 1 f fd P_Spread_right_part (spD K (R_right_part cs isS)) := by
  refine def_ok F sc_Spread_right_part (fun ds r h => ?_) (by decide) (fun cdv A outer s H E ds r hr h => ?_)
  · obtain ⟨w, t, d, _, _, _, _, rfl, _⟩ := h; rfl
  · obtain ⟨⟨a, b, n⟩, t, d, q, ⟨h1, ba, bb, bn⟩, bt, bd, rfl, rfl⟩ := h
    have nd := sc_Spread_right_part.nd
    simp only [isW, isS] at q h1 ba bb bn
    have hlt : a < b := by omega
    rw [← ldS hlt]
    refine pss_hd rfl ?_
    walk_at "run"
    exact congrArg D.int (if_neg q).symm
theorem cal_Spread_right_part {f : Addr} {fd : FuncData} (F : Fun K "right_part" "Spread.right_part" s_Spread_right_part f fd) (M : Meth K cs.Spread "right_part" f) (T : Tx K mg cs) : CalM P w K mg base cs.Spread "right_part" 1 P_Spread_right_part ((R_right_part cs isS)) := ⟨T.cl_Spread, f, fd, ok_Spread_right_part F T, M, F.binds fun _ _ _ _ _ _ us hl => match us, hl with | [_, _, _], _ => rfl⟩
end
section
set_option hygiene false in
local macro_rules | `(tactic| walk_at "nm") => `(tactic| first
  | ((with_reducible refine' pd_var (x := "self") 0 ?_ ?_ ?_ ?_ ?_) <;> first | (with_reducible show D) | ((with_reducible show Vis _ _); first | exact .inl rfl | exact .inr (.inl rfl) | exact .inr (.inr rfl)) | ((with_reducible show (_ == _) = false); decide) | rfl)
  | ((with_reducible refine' pd_var (x := "rests") 1 ?_ ?_ ?_ ?_ ?_) <;> first | (with_reducible show D) | ((with_reducible show Vis _ _); first | exact .inl rfl | exact .inr (.inl rfl) | exact .inr (.inr rfl)) | ((with_reducible show (_ == _) = false); decide) | rfl)
  | ((with_reducible refine' pd_var (x := "p") 2 ?_ ?_ ?_ ?_ ?_) <;> first | (with_reducible show D) | ((with_reducible show Vis _ _); first | exact .inl rfl | exact .inr (.inl rfl) | exact .inr (.inr rfl)) | ((with_reducible show (_ == _) = false); decide) | rfl)
  | ((with_reducible refine' pd_var (x := "q") 3 ?_ ?_ ?_ ?_ ?_) <;> first | (with_reducible show D) | ((with_reducible show Vis _ _); first | exact .inl rfl | exact .inr (.inl rfl) | exact .inr (.inr rfl)) | ((with_reducible show (_ == _) = false); decide) | rfl)
  | ((with_reducible refine' pd_var (x := "r") 4 ?_ ?_ ?_ ?_ ?_) <;> first | (with_reducible show D) | ((with_reducible show Vis _ _); first | exact .inl rfl | exact .inr (.inl rfl) | exact .inr (.inr rfl)) | ((with_reducible show (_ == _) = false); decide) | rfl))
set_option hygiene false in
local macro_rules | `(tactic| walk_at "set") => `(tactic| first
  | ((with_reducible show PSs _ (Stmt.Assign [Expr.Name "self" _] _ _ :: _) _); refine' pss_seq (psd_set 0 nd (by rfl) (by first | exact .inl rfl | exact .inr rfl) ?_ (by rfl) (by first | exact .inr rfl | exact .inl rfl)) ?_)
  | ((with_reducible show PSs _ (Stmt.Assign [Expr.Name "rests" _] _ _ :: _) _); refine' pss_seq (psd_set 1 nd (by rfl) (by first | exact .inl rfl | exact .inr rfl) ?_ (by rfl) (by first | exact .inr rfl | exact .inl rfl)) ?_)
  | ((with_reducible show PSs _ (Stmt.Assign [Expr.Name "p" _] _ _ :: _) _); refine' pss_seq (psd_set 2 nd (by rfl) (by first | exact .inl rfl | exact .inr rfl) ?_ (by rfl) (by first | exact .inr rfl | exact .inl rfl)) ?_)
  | ((with_reducible show PSs _ (Stmt.Assign [Expr.Name "q" _] _ _ :: _) _); refine' pss_seq (psd_set 3 nd (by rfl) (by first | exact .inl rfl | exact .inr rfl) ?_ (by rfl) (by first | exact .inr rfl | exact .inl rfl)) ?_)
  | ((with_reducible show PSs _ (Stmt.Assign [Expr.Name "r" _] _ _ :: _) _); refine' pss_seq (psd_set 4 nd (by rfl) (by first | exact .inl rfl | exact .inr rfl) ?_ (by rfl) (by first | exact .inr rfl | exact .inl rfl)) ?_))
set_option hygiene false in
local macro_rules | `(tactic| walk_at "aug") => `(tactic| first
  | ((with_reducible show PSs _ (Stmt.AugAssign (Expr.Name "self" _) _ _ _ :: _) _); first | refine' pss_seq (psd_aug 0 nd (by rfl) (by first | exact .inl rfl | exact .inr rfl) L2.ip_add (by rfl) ?_ (by first | exact .inr rfl | exact .inl rfl)) ?s2 | refine' pss_seq (psd_aug 0 nd (by rfl) (by first | exact .inl rfl | exact .inr rfl) L2.ip_sub (by rfl) ?_ (by first | exact .inr rfl | exact .inl rfl)) ?_)
  | ((with_reducible show PSs _ (Stmt.AugAssign (Expr.Name "rests" _) _ _ _ :: _) _); first | refine' pss_seq (psd_aug 1 nd (by rfl) (by first | exact .inl rfl | exact .inr rfl) L2.ip_add (by rfl) ?_ (by first | exact .inr rfl | exact .inl rfl)) ?s2 | refine' pss_seq (psd_aug 1 nd (by rfl) (by first | exact .inl rfl | exact .inr rfl) L2.ip_sub (by rfl) ?_ (by first | exact .inr rfl | exact .inl rfl)) ?_)
  | ((with_reducible show PSs _ (Stmt.AugAssign (Expr.Name "p" _) _ _ _ :: _) _); first | refine' pss_seq (psd_aug 2 nd (by rfl) (by first | exact .inl rfl | exact .inr rfl) L2.ip_add (by rfl) ?_ (by first | exact .inr rfl | exact .inl rfl)) ?s2 | refine' pss_seq (psd_aug 2 nd (by rfl) (by first | exact .inl rfl | exact .inr rfl) L2.ip_sub (by rfl) ?_ (by first | exact .inr rfl | exact .inl rfl)) ?_)
  | ((with_reducible show PSs _ (Stmt.AugAssign (Expr.Name "q" _) _ _ _ :: _) _); first | refine' pss_seq (psd_aug 3 nd (by rfl) (by first | exact .inl rfl | exact .inr rfl) L2.ip_add (by rfl) ?_ (by first | exact .inr rfl | exact .inl rfl)) ?s2 | refine' pss_seq (psd_aug 3 nd (by rfl) (by first | exact .inl rfl | exact .inr rfl) L2.ip_sub (by rfl) ?_ (by first | exact .inr rfl | exact .inl rfl)) ?_)
  | ((with_reducible show PSs _ (Stmt.AugAssign (Expr.Name "r" _) _ _ _ :: _) _); first | refine' pss_seq (psd_aug 4 nd (by rfl) (by first | exact .inl rfl | exact .inr rfl) L2.ip_add (by rfl) ?_ (by first | exact .inr rfl | exact .inl rfl)) ?s2 | refine' pss_seq (psd_aug 4 nd (by rfl) (by first | exact .inl rfl | exact .inr rfl) L2.ip_sub (by rfl) ?_ (by first | exact .inr rfl | exact .inl rfl)) ?_))
set_option hygiene false in
local macro_rules | `(tactic| walk_at "tgn") => `(tactic| first
  | ((with_reducible show PG _ (Expr.Name "self" _) _); refine' pgd_name 0 nd (by rfl) (by first | exact .inl rfl | exact .inr rfl) (by first | exact .inr rfl | exact .inl rfl) (by first | decide | simp))
  | ((with_reducible show PG _ (Expr.Name "rests" _) _); refine' pgd_name 1 nd (by rfl) (by first | exact .inl rfl | exact .inr rfl) (by first | exact .inr rfl | exact .inl rfl) (by first | decide | simp))
  | ((with_reducible show PG _ (Expr.Name "p" _) _); refine' pgd_name 2 nd (by rfl) (by first | exact .inl rfl | exact .inr rfl) (by first | exact .inr rfl | exact .inl rfl) (by first | decide | simp))
  | ((with_reducible show PG _ (Expr.Name "q" _) _); refine' pgd_name 3 nd (by rfl) (by first | exact .inl rfl | exact .inr rfl) (by first | exact .inr rfl | exact .inl rfl) (by first | decide | simp))
  | ((with_reducible show PG _ (Expr.Name "r" _) _); refine' pgd_name 4 nd (by rfl) (by first | exact .inl rfl | exact .inr rfl) (by first | exact .inr rfl | exact .inl rfl) (by first | decide | simp)))
set_option hygiene false in
local macro_rules | `(tactic| walk_at "cl") => `(tactic| first
  | ((with_reducible show PE _ (Expr.Call (Expr.Name "part_at" _) _ _ _) _); (refine' pd_call c_part_at hr (by decide) (by rfl) ?_ ⟨_, _, _, ?_, ?_, ?_, rfl, rfl⟩) <;> walk_at "go"))
set_option hygiene false in
local macro_rules | `(tactic| walk_at "fld") => `(tactic| first
  | ((with_reducible show PE _ (Expr.Attribute _ "place" _) _); (refine' pd_fld ?_ (by rfl) T.cl_Weight T.na_Weight_place ?_) <;> walk_at "go")
  | ((with_reducible show PE _ (Expr.Attribute _ "size" _) _); (refine' pd_fld ?_ (by rfl) T.cl_Weight T.na_Weight_size ?_) <;> walk_at "go")
  | ((with_reducible show PE _ (Expr.Attribute _ "start" _) _); (refine' pd_fld ?_ (by rfl) T.cl_Spread T.na_Spread_start ?_) <;> walk_at "go")
  | ((with_reducible show PE _ (Expr.Attribute _ "end" _) _); (refine' pd_fld ?_ (by rfl) T.cl_Spread T.na_Spread_end ?_) <;> walk_at "go")
  | ((with_reducible show PE _ (Expr.Attribute _ "each" _) _); (refine' pd_fld ?_ (by rfl) T.cl_Spread T.na_Spread_each ?_) <;> walk_at "go")
  | ((with_reducible show PE _ (Expr.Attribute _ "length" _) _); (refine' pd_fld ?_ (by rfl) T.cl_Beam T.na_Beam_length ?_) <;> walk_at "go")
  | ((with_reducible show PE _ (Expr.Attribute _ "rests" _) _); (refine' pd_fld ?_ (by rfl) T.cl_Beam T.na_Beam_rests ?_) <;> walk_at "go"))
variable {P : Program} {w : World} {K : PySem.W.Frag} {mg : Str → Option Value} {base : Heap} {cs : Cs}
theorem ok_Weight_middle_part {f : Addr} {fd : FuncData} (F : Fun K "middle_part" "Weight.middle_part" s_Weight_middle_part f fd) (T : Tx K mg cs) (c_part_at : Cal P w K mg base "part_at" 1 P_part_at (R_part_at)) : FnOk P w K mg base (L2.CX P w) 2 f fd P_Weight_middle_part (spD K (R_middle_part cs isW)) := by
  refine def_ok F sc_Weight_middle_part (fun ds r h => ?_) (by decide) (fun cdv A outer s H E ds r hr h => ?_)
  · obtain ⟨w, a, b, c, _, _, _, _, _, rfl, _⟩ := h; rfl
  · obtain ⟨⟨a, b, n⟩, p, q, r, hq, hw, bp, bq, br, rfl, rfl⟩ := h
    have nd := sc_Weight_middle_part.nd
    have hb := hw
    obtain ⟨h1, ba, bb, bn⟩ := hb
    simp only [isW] at hq h1 ba bb bn
    subst hq
    rw [← ldW]
    have e : mid p q r ⟨a, a, n⟩ = if a ≤ q then 4 * n * partAt (a - p) (q - p) (r - q) else 4 * n * partAt (r - a) (r - q) (q - p) := if_pos rfl
    rw [e]
    have z1 : Bd 1100 (partAt (a - p) (q - p) (r - q)) := partAt_bd ((ba.sub bp).mono (by decide)) ((bq.sub bp).mono (by decide)) ((br.sub bq).mono (by decide))
    have z2 : Bd 1100 (partAt (r - a) (r - q) (q - p)) := partAt_bd ((br.sub ba).mono (by decide)) ((br.sub bq).mono (by decide)) ((bq.sub bp).mono (by decide))
    refine pss_hd rfl ?_
    refine pss_seq (psd_unpack (js := [2, 3, 4]) (by walk_at "nm") (pgd_tup rfl (pgsd_cons (by walk_at "tgn") (pgsd_cons (by walk_at "tgn") (pgsd_cons (by walk_at "tgn") pgsd_nil))) rfl)) ?_
    by_cases h : a ≤ q
    · rw [if_pos h]
      refine pss_end (psd_ifT (by walk_at "tv") h ?_) True.intro
      walk_at "run"
    · rw [if_neg h]
      refine pss_seq (psd_ifF (by walk_at "tv") h pss_nilD) ?_
      walk_at "run"
theorem cal_Weight_middle_part {f : Addr} {fd : FuncData} (F : Fun K "middle_part" "Weight.middle_part" s_Weight_middle_part f fd) (M : Meth K cs.Weight "middle_part" f) (T : Tx K mg cs) (c_part_at : Cal P w K mg base "part_at" 1 P_part_at (R_part_at)) : CalM P w K mg base cs.Weight "middle_part" 2 P_Weight_middle_part ((R_middle_part cs isW)) := ⟨T.cl_Weight, f, fd, ok_Weight_middle_part F T c_part_at, M, F.binds fun _ _ _ _ _ _ us hl => match us, hl with | [_, _], _ => rfl⟩
end
section
set_option hygiene false in
local macro_rules | `(tactic| walk_at "nm") => `(tactic| first
  | ((with_reducible refine' pd_var (x := "self") 0 ?_ ?_ ?_ ?_ ?_) <;> first | (with_reducible show D) | ((with_reducible show Vis _ _); first | exact .inl rfl | exact .inr (.inl rfl) | exact .inr (.inr rfl)) | ((with_reducible show (_ == _) = false); decide) | rfl)
  | ((with_reducible refine' pd_var (x := "rests") 1 ?_ ?_ ?_ ?_ ?_) <;> first | (with_reducible show D) | ((with_reducible show Vis _ _); first | exact .inl rfl | exact .inr (.inl rfl) | exact .inr (.inr rfl)) | ((with_reducible show (_ == _) = false); decide) | rfl)
  | ((with_reducible refine' pd_var (x := "p") 2 ?_ ?_ ?_ ?_ ?_) <;> first | (with_reducible show D) | ((with_reducible show Vis _ _); first | exact .inl rfl | exact .inr (.inl rfl) | exact .inr (.inr rfl)) | ((with_reducible show (_ == _) = false); decide) | rfl)
  | ((with_reducible refine' pd_var (x := "q") 3 ?_ ?_ ?_ ?_ ?_) <;> first | (with_reducible show D) | ((with_reducible show Vis _ _); first | exact .inl rfl | exact .inr (.inl rfl) | exact .inr (.inr rfl)) | ((with_reducible show (_ == _) = false); decide) | rfl)
  | ((with_reducible refine' pd_var (x := "r") 4 ?_ ?_ ?_ ?_ ?_) <;> first | (with_reducible show D) | ((with_reducible show Vis _ _); first | exact .inl rfl | exact .inr (.inl rfl) | exact .inr (.inr rfl)) | ((with_reducible show (_ == _) = false); decide) | rfl)
  | ((with_reducible refine' pd_var (x := "near") 5 ?_ ?_ ?_ ?_ ?_) <;> first | (with_reducible show D) | ((with_reducible show Vis _ _); first | exact .inl rfl | exact .inr (.inl rfl) | exact .inr (.inr rfl)) | ((with_reducible show (_ == _) = false); decide) | rfl)
  | ((with_reducible refine' pd_var (x := "far") 6 ?_ ?_ ?_ ?_ ?_) <;> first | (with_reducible show D) | ((with_reducible show Vis _ _); first | exact .inl rfl | exact .inr (.inl rfl) | exact .inr (.inr rfl)) | ((with_reducible show (_ == _) = false); decide) | rfl)
  | ((with_reducible refine' pd_var (x := "found") 7 ?_ ?_ ?_ ?_ ?_) <;> first | (with_reducible show D) | ((with_reducible show Vis _ _); first | exact .inl rfl | exact .inr (.inl rfl) | exact .inr (.inr rfl)) | ((with_reducible show (_ == _) = false); decide) | rfl))
set_option hygiene false in
local macro_rules | `(tactic| walk_at "set") => `(tactic| first
  | ((with_reducible show PSs _ (Stmt.Assign [Expr.Name "self" _] _ _ :: _) _); refine' pss_seq (psd_set 0 nd (by rfl) (by first | exact .inl rfl | exact .inr rfl) ?_ (by rfl) (by first | exact .inr rfl | exact .inl rfl)) ?_)
  | ((with_reducible show PSs _ (Stmt.Assign [Expr.Name "rests" _] _ _ :: _) _); refine' pss_seq (psd_set 1 nd (by rfl) (by first | exact .inl rfl | exact .inr rfl) ?_ (by rfl) (by first | exact .inr rfl | exact .inl rfl)) ?_)
  | ((with_reducible show PSs _ (Stmt.Assign [Expr.Name "p" _] _ _ :: _) _); refine' pss_seq (psd_set 2 nd (by rfl) (by first | exact .inl rfl | exact .inr rfl) ?_ (by rfl) (by first | exact .inr rfl | exact .inl rfl)) ?_)
  | ((with_reducible show PSs _ (Stmt.Assign [Expr.Name "q" _] _ _ :: _) _); refine' pss_seq (psd_set 3 nd (by rfl) (by first | exact .inl rfl | exact .inr rfl) ?_ (by rfl) (by first | exact .inr rfl | exact .inl rfl)) ?_)
  | ((with_reducible show PSs _ (Stmt.Assign [Expr.Name "r" _] _ _ :: _) _); refine' pss_seq (psd_set 4 nd (by rfl) (by first | exact .inl rfl | exact .inr rfl) ?_ (by rfl) (by first | exact .inr rfl | exact .inl rfl)) ?_)
  | ((with_reducible show PSs _ (Stmt.Assign [Expr.Name "near" _] _ _ :: _) _); refine' pss_seq (psd_set 5 nd (by rfl) (by first | exact .inl rfl | exact .inr rfl) ?_ (by rfl) (by first | exact .inr rfl | exact .inl rfl)) ?_)
  | ((with_reducible show PSs _ (Stmt.Assign [Expr.Name "far" _] _ _ :: _) _); refine' pss_seq (psd_set 6 nd (by rfl) (by first | exact .inl rfl | exact .inr rfl) ?_ (by rfl) (by first | exact .inr rfl | exact .inl rfl)) ?_)
  | ((with_reducible show PSs _ (Stmt.Assign [Expr.Name "found" _] _ _ :: _) _); refine' pss_seq (psd_set 7 nd (by rfl) (by first | exact .inl rfl | exact .inr rfl) ?_ (by rfl) (by first | exact .inr rfl | exact .inl rfl)) ?_))
set_option hygiene false in
local macro_rules | `(tactic| walk_at "aug") => `(tactic| first
  | ((with_reducible show PSs _ (Stmt.AugAssign (Expr.Name "self" _) _ _ _ :: _) _); first | refine' pss_seq (psd_aug 0 nd (by rfl) (by first | exact .inl rfl | exact .inr rfl) L2.ip_add (by rfl) ?_ (by first | exact .inr rfl | exact .inl rfl)) ?s2 | refine' pss_seq (psd_aug 0 nd (by rfl) (by first | exact .inl rfl | exact .inr rfl) L2.ip_sub (by rfl) ?_ (by first | exact .inr rfl | exact .inl rfl)) ?_)
  | ((with_reducible show PSs _ (Stmt.AugAssign (Expr.Name "rests" _) _ _ _ :: _) _); first | refine' pss_seq (psd_aug 1 nd (by rfl) (by first | exact .inl rfl | exact .inr rfl) L2.ip_add (by rfl) ?_ (by first | exact .inr rfl | exact .inl rfl)) ?s2 | refine' pss_seq (psd_aug 1 nd (by rfl) (by first | exact .inl rfl | exact .inr rfl) L2.ip_sub (by rfl) ?_ (by first | exact .inr rfl | exact .inl rfl)) ?_)
  | ((with_reducible show PSs _ (Stmt.AugAssign (Expr.Name "p" _) _ _ _ :: _) _); first | refine' pss_seq (psd_aug 2 nd (by rfl) (by first | exact .inl rfl | exact .inr rfl) L2.ip_add (by rfl) ?_ (by first | exact .inr rfl | exact .inl rfl)) ?s2 | refine' pss_seq (psd_aug 2 nd (by rfl) (by first | exact .inl rfl | exact .inr rfl) L2.ip_sub (by rfl) ?_ (by first | exact .inr rfl | exact .inl rfl)) ?_)
  | ((with_reducible show PSs _ (Stmt.AugAssign (Expr.Name "q" _) _ _ _ :: _) _); first | refine' pss_seq (psd_aug 3 nd (by rfl) (by first | exact .inl rfl | exact .inr rfl) L2.ip_add (by rfl) ?_ (by first | exact .inr rfl | exact .inl rfl)) ?s2 | refine' pss_seq (psd_aug 3 nd (by rfl) (by first | exact .inl rfl | exact .inr rfl) L2.ip_sub (by rfl) ?_ (by first | exact .inr rfl | exact .inl rfl)) ?_)
  | ((with_reducible show PSs _ (Stmt.AugAssign (Expr.Name "r" _) _ _ _ :: _) _); first | refine' pss_seq (psd_aug 4 nd (by rfl) (by first | exact .inl rfl | exact .inr rfl) L2.ip_add (by rfl) ?_ (by first | exact .inr rfl | exact .inl rfl)) ?s2 | refine' pss_seq (psd_aug 4 nd (by rfl) (by first | exact .inl rfl | exact .inr rfl) L2.ip_sub (by rfl) ?_ (by first | exact .inr rfl | exact .inl rfl)) ?_)
  | ((with_reducible show PSs _ (Stmt.AugAssign (Expr.Name "near" _) _ _ _ :: _) _); first | refine' pss_seq (psd_aug 5 nd (by rfl) (by first | exact .inl rfl | exact .inr rfl) L2.ip_add (by rfl) ?_ (by first | exact .inr rfl | exact .inl rfl)) ?s2 | refine' pss_seq (psd_aug 5 nd (by rfl) (by first | exact .inl rfl | exact .inr rfl) L2.ip_sub (by rfl) ?_ (by first | exact .inr rfl | exact .inl rfl)) ?_)
  | ((with_reducible show PSs _ (Stmt.AugAssign (Expr.Name "far" _) _ _ _ :: _) _); first | refine' pss_seq (psd_aug 6 nd (by rfl) (by first | exact .inl rfl | exact .inr rfl) L2.ip_add (by rfl) ?_ (by first | exact .inr rfl | exact .inl rfl)) ?s2 | refine' pss_seq (psd_aug 6 nd (by rfl) (by first | exact .inl rfl | exact .inr rfl) L2.ip_sub (by rfl) ?_ (by first | exact .inr rfl | exact .inl rfl)) ?_)
  | ((with_reducible show PSs _ (Stmt.AugAssign (Expr.Name "found" _) _ _ _ :: _) _); first | refine' pss_seq (psd_aug 7 nd (by rfl) (by first | exact .inl rfl | exact .inr rfl) L2.ip_add (by rfl) ?_ (by first | exact .inr rfl | exact .inl rfl)) ?s2 | refine' pss_seq (psd_aug 7 nd (by rfl) (by first | exact .inl rfl | exact .inr rfl) L2.ip_sub (by rfl) ?_ (by first | exact .inr rfl | exact .inl rfl)) ?_))
set_option hygiene false in
local macro_rules | `(tactic| walk_at "tgn") => `(tactic| first
  | ((with_reducible show PG _ (Expr.Name "self" _) _); refine' pgd_name 0 nd (by rfl) (by first | exact .inl rfl | exact .inr rfl) (by first | exact .inr rfl | exact .inl rfl) (by first | decide | simp))
  | ((with_reducible show PG _ (Expr.Name "rests" _) _); refine' pgd_name 1 nd (by rfl) (by first | exact .inl rfl | exact .inr rfl) (by first | exact .inr rfl | exact .inl rfl) (by first | decide | simp))
  | ((with_reducible show PG _ (Expr.Name "p" _) _); refine' pgd_name 2 nd (by rfl) (by first | exact .inl rfl | exact .inr rfl) (by first | exact .inr rfl | exact .inl rfl) (by first | decide | simp))
  | ((with_reducible show PG _ (Expr.Name "q" _) _); refine' pgd_name 3 nd (by rfl) (by first | exact .inl rfl | exact .inr rfl) (by first | exact .inr rfl | exact .inl rfl) (by first | decide | simp))
  | ((with_reducible show PG _ (Expr.Name "r" _) _); refine' pgd_name 4 nd (by rfl) (by first | exact .inl rfl | exact .inr rfl) (by first | exact .inr rfl | exact .inl rfl) (by first | decide | simp))
  | ((with_reducible show PG _ (Expr.Name "near" _) _); refine' pgd_name 5 nd (by rfl) (by first | exact .inl rfl | exact .inr rfl) (by first | exact .inr rfl | exact .inl rfl) (by first | decide | simp))
  | ((with_reducible show PG _ (Expr.Name "far" _) _); refine' pgd_name 6 nd (by rfl) (by first | exact .inl rfl | exact .inr rfl) (by first | exact .inr rfl | exact .inl rfl) (by first | decide | simp))
  | ((with_reducible show PG _ (Expr.Name "found" _) _); refine' pgd_name 7 nd (by rfl) (by first | exact .inl rfl | exact .inr rfl) (by first | exact .inr rfl | exact .inl rfl) (by first | decide | simp)))
set_option hygiene false in
local macro_rules | `(tactic| walk_at "cl") => `(tactic| first
  | ((with_reducible show PE _ (Expr.Call (Expr.Name "sum_to" _) _ _ _) _); (refine' pd_call c_sum_to hr (by decide) (by rfl) ?_ ⟨_, _, _, ?_, ?_, ?_, rfl, rfl⟩) <;> walk_at "go"))
set_option hygiene false in
local macro_rules | `(tactic| walk_at "fld") => `(tactic| first
  | ((with_reducible show PE _ (Expr.Attribute _ "place" _) _); (refine' pd_fld ?_ (by rfl) T.cl_Weight T.na_Weight_place ?_) <;> walk_at "go")
  | ((with_reducible show PE _ (Expr.Attribute _ "size" _) _); (refine' pd_fld ?_ (by rfl) T.cl_Weight T.na_Weight_size ?_) <;> walk_at "go")
  | ((with_reducible show PE _ (Expr.Attribute _ "start" _) _); (refine' pd_fld ?_ (by rfl) T.cl_Spread T.na_Spread_start ?_) <;> walk_at "go")
  | ((with_reducible show PE _ (Expr.Attribute _ "end" _) _); (refine' pd_fld ?_ (by rfl) T.cl_Spread T.na_Spread_end ?_) <;> walk_at "go")
  | ((with_reducible show PE _ (Expr.Attribute _ "each" _) _); (refine' pd_fld ?_ (by rfl) T.cl_Spread T.na_Spread_each ?_) <;> walk_at "go")
  | ((with_reducible show PE _ (Expr.Attribute _ "length" _) _); (refine' pd_fld ?_ (by rfl) T.cl_Beam T.na_Beam_length ?_) <;> walk_at "go")
  | ((with_reducible show PE _ (Expr.Attribute _ "rests" _) _); (refine' pd_fld ?_ (by rfl) T.cl_Beam T.na_Beam_rests ?_) <;> walk_at "go"))
variable {P : Program} {w : World} {K : PySem.W.Frag} {mg : Str → Option Value} {base : Heap} {cs : Cs}
theorem ok_Spread_middle_part {f : Addr} {fd : FuncData} (F : Fun K "middle_part" "Spread.middle_part" s_Spread_middle_part f fd) (T : Tx K mg cs) (c_sum_to : Cal P w K mg base "sum_to" 1 P_sum_to (R_sum_to)) : FnOk P w K mg base (L2.CX P w) 2 f fd P_Spread_middle_part (spD K (R_middle_part cs isS)) := by
  refine def_ok F sc_Spread_middle_part (fun ds r h => ?_) (by decide) (fun cdv A outer s H E ds r hr h => ?_)
  · obtain ⟨w, a, b, c, _, _, _, _, _, rfl, _⟩ := h; rfl
  · obtain ⟨⟨a, b, n⟩, p, q, r, hq, hw, bp, bq, br, rfl, rfl⟩ := h
    have nd := sc_Spread_middle_part.nd
    have hb := hw
    obtain ⟨h1, ba, bb, bn⟩ := hb
    simp only [isS] at hq h1 ba bb bn
    have hlt : a < b := by omega
    rw [← ldS hlt]
    have e : mid p q r ⟨a, b, n⟩ = n * (sumUp (imin b q - p) (q - p) (r - q) - sumUp (imin a q - p) (q - p) (r - q) + (sumUp (r - imax a q) (r - q) (q - p) - sumUp (r - imax b q) (r - q) (q - p))) := if_neg hq
    rw [e]
    have s : ∀ {x y : Int}, Bd 210 x → Bd 210 y → Bd 220 (x - y) := fun hx hy => (hx.sub hy).mono (by decide)
    have m1 : Bd 210 (imin a q) := ba.imin bq
    have m2 : Bd 210 (imin b q) := bb.imin bq
    have m3 : Bd 210 (imax a q) := ba.imax bq
    have m4 : Bd 210 (imax b q) := bb.imax bq
    have z1 := sumUp_bd (s m2 bp) (s bq bp) (s br bq)
    have z2 := sumUp_bd (s m1 bp) (s bq bp) (s br bq)
    have z3 := sumUp_bd (s br m3) (s br bq) (s bq bp)
    have z4 := sumUp_bd (s br m4) (s br bq) (s bq bp)
    refine pss_hd rfl ?_
    refine pss_seq (psd_unpack (js := [2, 3, 4]) (by walk_at "nm") (pgd_tup rfl (pgsd_cons (by walk_at "tgn") (pgsd_cons (by walk_at "tgn") (pgsd_cons (by walk_at "tgn") pgsd_nil))) rfl)) ?_
    walk_at "run"
theorem cal_Spread_middle_part {f : Addr} {fd : FuncData} (F : Fun K "middle_part" "Spread.middle_part" s_Spread_middle_part f fd) (M : Meth K cs.Spread "middle_part" f) (T : Tx K mg cs) (c_sum_to : Cal P w K mg base "sum_to" 1 P_sum_to (R_sum_to)) : CalM P w K mg base cs.Spread "middle_part" 2 P_Spread_middle_part ((R_middle_part cs isS)) := ⟨T.cl_Spread, f, fd, ok_Spread_middle_part F T c_sum_to, M, F.binds fun _ _ _ _ _ _ us hl => match us, hl with | [_, _], _ => rfl⟩
end
section
set_option hygiene false in
local macro_rules | `(tactic| walk_at "nm") => `(tactic| first
  | ((with_reducible refine' pd_var (x := "self") 0 ?_ ?_ ?_ ?_ ?_) <;> first | (with_reducible show D) | ((with_reducible show Vis _ _); first | exact .inl rfl | exact .inr (.inl rfl) | exact .inr (.inr rfl)) | ((with_reducible show (_ == _) = false); decide) | rfl)
  | ((with_reducible refine' pd_var (x := "length") 1 ?_ ?_ ?_ ?_ ?_) <;> first | (with_reducible show D) | ((with_reducible show Vis _ _); first | exact .inl rfl | exact .inr (.inl rfl) | exact .inr (.inr rfl)) | ((with_reducible show (_ == _) = false); decide) | rfl)
  | ((with_reducible refine' pd_var (x := "rests") 2 ?_ ?_ ?_ ?_ ?_) <;> first | (with_reducible show D) | ((with_reducible show Vis _ _); first | exact .inl rfl | exact .inr (.inl rfl) | exact .inr (.inr rfl)) | ((with_reducible show (_ == _) = false); decide) | rfl)
  | ((with_reducible refine' pd_var (x := "before") 3 ?_ ?_ ?_ ?_ ?_) <;> first | (with_reducible show D) | ((with_reducible show Vis _ _); first | exact .inl rfl | exact .inr (.inl rfl) | exact .inr (.inr rfl)) | ((with_reducible show (_ == _) = false); decide) | rfl)
  | ((with_reducible refine' pd_var (x := "rest") 4 ?_ ?_ ?_ ?_ ?_) <;> first | (with_reducible show D) | ((with_reducible show Vis _ _); first | exact .inl rfl | exact .inr (.inl rfl) | exact .inr (.inr rfl)) | ((with_reducible show (_ == _) = false); decide) | rfl))
set_option hygiene false in
local macro_rules | `(tactic| walk_at "set") => `(tactic| first
  | ((with_reducible show PSs _ (Stmt.Assign [Expr.Name "self" _] _ _ :: _) _); refine' pss_seq (psd_set 0 nd (by rfl) (by first | exact .inl rfl | exact .inr rfl) ?_ (by rfl) (by first | exact .inr rfl | exact .inl rfl)) ?_)
  | ((with_reducible show PSs _ (Stmt.Assign [Expr.Name "length" _] _ _ :: _) _); refine' pss_seq (psd_set 1 nd (by rfl) (by first | exact .inl rfl | exact .inr rfl) ?_ (by rfl) (by first | exact .inr rfl | exact .inl rfl)) ?_)
  | ((with_reducible show PSs _ (Stmt.Assign [Expr.Name "rests" _] _ _ :: _) _); refine' pss_seq (psd_set 2 nd (by rfl) (by first | exact .inl rfl | exact .inr rfl) ?_ (by rfl) (by first | exact .inr rfl | exact .inl rfl)) ?_)
  | ((with_reducible show PSs _ (Stmt.Assign [Expr.Name "before" _] _ _ :: _) _); refine' pss_seq (psd_set 3 nd (by rfl) (by first | exact .inl rfl | exact .inr rfl) ?_ (by rfl) (by first | exact .inr rfl | exact .inl rfl)) ?_)
  | ((with_reducible show PSs _ (Stmt.Assign [Expr.Name "rest" _] _ _ :: _) _); refine' pss_seq (psd_set 4 nd (by rfl) (by first | exact .inl rfl | exact .inr rfl) ?_ (by rfl) (by first | exact .inr rfl | exact .inl rfl)) ?_))
set_option hygiene false in
local macro_rules | `(tactic| walk_at "aug") => `(tactic| first
  | ((with_reducible show PSs _ (Stmt.AugAssign (Expr.Name "self" _) _ _ _ :: _) _); first | refine' pss_seq (psd_aug 0 nd (by rfl) (by first | exact .inl rfl | exact .inr rfl) L2.ip_add (by rfl) ?_ (by first | exact .inr rfl | exact .inl rfl)) ?s2 | refine' pss_seq (psd_aug 0 nd (by rfl) (by first | exact .inl rfl | exact .inr rfl) L2.ip_sub (by rfl) ?_ (by first | exact .inr rfl | exact .inl rfl)) ?_)
  | ((with_reducible show PSs _ (Stmt.AugAssign (Expr.Name "length" _) _ _ _ :: _) _); first | refine' pss_seq (psd_aug 1 nd (by rfl) (by first | exact .inl rfl | exact .inr rfl) L2.ip_add (by rfl) ?_ (by first | exact .inr rfl | exact .inl rfl)) ?s2 | refine' pss_seq (psd_aug 1 nd (by rfl) (by first | exact .inl rfl | exact .inr rfl) L2.ip_sub (by rfl) ?_ (by first | exact .inr rfl | exact .inl rfl)) ?_)
  | ((with_reducible show PSs _ (Stmt.AugAssign (Expr.Name "rests" _) _ _ _ :: _) _); first | refine' pss_seq (psd_aug 2 nd (by rfl) (by first | exact .inl rfl | exact .inr rfl) L2.ip_add (by rfl) ?_ (by first | exact .inr rfl | exact .inl rfl)) ?s2 | refine' pss_seq (psd_aug 2 nd (by rfl) (by first | exact .inl rfl | exact .inr rfl) L2.ip_sub (by rfl) ?_ (by first | exact .inr rfl | exact .inl rfl)) ?_)
  | ((with_reducible show PSs _ (Stmt.AugAssign (Expr.Name "before" _) _ _ _ :: _) _); first | refine' pss_seq (psd_aug 3 nd (by rfl) (by first | exact .inl rfl | exact .inr rfl) L2.ip_add (by rfl) ?_ (by first | exact .inr rfl | exact .inl rfl)) ?s2 | refine' pss_seq (psd_aug 3 nd (by rfl) (by first | exact .inl rfl | exact .inr rfl) L2.ip_sub (by rfl) ?_ (by first | exact .inr rfl | exact .inl rfl)) ?_)
  | ((with_reducible show PSs _ (Stmt.AugAssign (Expr.Name "rest" _) _ _ _ :: _) _); first | refine' pss_seq (psd_aug 4 nd (by rfl) (by first | exact .inl rfl | exact .inr rfl) L2.ip_add (by rfl) ?_ (by first | exact .inr rfl | exact .inl rfl)) ?s2 | refine' pss_seq (psd_aug 4 nd (by rfl) (by first | exact .inl rfl | exact .inr rfl) L2.ip_sub (by rfl) ?_ (by first | exact .inr rfl | exact .inl rfl)) ?_))
set_option hygiene false in
local macro_rules | `(tactic| walk_at "tgn") => `(tactic| first
  | ((with_reducible show PG _ (Expr.Name "self" _) _); refine' pgd_name 0 nd (by rfl) (by first | exact .inl rfl | exact .inr rfl) (by first | exact .inr rfl | exact .inl rfl) (by first | decide | simp))
  | ((with_reducible show PG _ (Expr.Name "length" _) _); refine' pgd_name 1 nd (by rfl) (by first | exact .inl rfl | exact .inr rfl) (by first | exact .inr rfl | exact .inl rfl) (by first | decide | simp))
  | ((with_reducible show PG _ (Expr.Name "rests" _) _); refine' pgd_name 2 nd (by rfl) (by first | exact .inl rfl | exact .inr rfl) (by first | exact .inr rfl | exact .inl rfl) (by first | decide | simp))
  | ((with_reducible show PG _ (Expr.Name "before" _) _); refine' pgd_name 3 nd (by rfl) (by first | exact .inl rfl | exact .inr rfl) (by first | exact .inr rfl | exact .inl rfl) (by first | decide | simp))
  | ((with_reducible show PG _ (Expr.Name "rest" _) _); refine' pgd_name 4 nd (by rfl) (by first | exact .inl rfl | exact .inr rfl) (by first | exact .inr rfl | exact .inl rfl) (by first | decide | simp)))

set_option hygiene false in
local macro_rules | `(tactic| walk_at "fld") => `(tactic| first
  | ((with_reducible show PE _ (Expr.Attribute _ "place" _) _); (refine' pd_fld ?_ (by rfl) T.cl_Weight T.na_Weight_place ?_) <;> walk_at "go")
  | ((with_reducible show PE _ (Expr.Attribute _ "size" _) _); (refine' pd_fld ?_ (by rfl) T.cl_Weight T.na_Weight_size ?_) <;> walk_at "go")
  | ((with_reducible show PE _ (Expr.Attribute _ "start" _) _); (refine' pd_fld ?_ (by rfl) T.cl_Spread T.na_Spread_start ?_) <;> walk_at "go")
  | ((with_reducible show PE _ (Expr.Attribute _ "end" _) _); (refine' pd_fld ?_ (by rfl) T.cl_Spread T.na_Spread_end ?_) <;> walk_at "go")
  | ((with_reducible show PE _ (Expr.Attribute _ "each" _) _); (refine' pd_fld ?_ (by rfl) T.cl_Spread T.na_Spread_each ?_) <;> walk_at "go")
  | ((with_reducible show PE _ (Expr.Attribute _ "length" _) _); (refine' pd_fld ?_ (by rfl) T.cl_Beam T.na_Beam_length ?_) <;> walk_at "go")
  | ((with_reducible show PE _ (Expr.Attribute _ "rests" _) _); (refine' pd_fld ?_ (by rfl) T.cl_Beam T.na_Beam_rests ?_) <;> walk_at "go"))
variable {P : Program} {w : World} {K : PySem.W.Frag} {mg : Str → Option Value} {base : Heap} {cs : Cs}
theorem ok_Beam_init {f : Addr} {fd : FuncData} (F : Fun K "__init__" "Beam.__init__" s_Beam_init f fd) (T : Tx K mg cs) : FnOk P w K mg base (L2.CX P w) 1 f fd P_Beam_init (spI K cs.Beam ["length", "rests"] (R_Binit cs)) := by
  refine init_ok F sc_Beam_init (fun ds r h => ?_) (by decide) (fun cdv A outer s H E ds r p hr h => ?_)
  · obtain ⟨L, ρ, dl, _, rfl, _⟩ := h; rfl
  · obtain ⟨L, ρ, dl, hq, rfl, h⟩ := h
    have nd := sc_Beam_init.nd
    have hlen : (ρ.map D.int).length = ρ.length := List.length_map ..
    have hget : ∀ (i : Nat) (x : D), (ρ.map D.int)[i]? = some x → ∃ y, ρ[i]? = some y ∧ x = .int y := by
      intro i x hx
      rw [List.getElem?_map] at hx
      cases q : ρ[i]? with
      | none => rw [q] at hx; cases hx
      | some y => rw [q] at hx; exact ⟨y, rfl, (Option.some.inj hx).symm⟩
    have hsq : seqOf dl = some (ρ.map D.int) := by cases dl <;> first | exact hq | (cases hq)
    rcases h with ⟨hb, rfl⟩ | ⟨hb, rfl⟩
    · refine ⟨[some (.mref p), some (.int L), some dl, some (.int (befL (-1) ρ ρ.length)), none], ?_⟩
      have hb' := hb
      unfold isBm at hb'
      simp only [Bool.and_eq_true, decide_eq_true_eq] at hb'
      obtain ⟨⟨⟨h1, h2⟩, h3⟩, h4⟩ := hb'
      have h5 := (chk_iff L ρ (-1)).mp h4
      refine pss_hd rfl ?_
      refine pss_seq (psd_ifF (by walk_at "tv") (by rw [hlen]; omega) pss_nilD) ?_
      walk_at "run"
      refine pss_seq (psd_forT (js := [4]) (fun i => [some (.mref p), some (.int L), some dl, some (.int (befL (-1) ρ i)), none]) (fun _ => [(p, .ins cs.Beam [] [])]) (fun i x => [some (.mref p), some (.int L), some dl, some (.int (befL (-1) ρ i)), some x]) (L2.passes_of (by rfl)) rfl (pid_list (by walk_at "nm") hq) (Wk.refl _) rfl ?_ ?_) ?_
      · intro i x hx
        walk_at "tgn"
      · intro i x hx
        obtain ⟨y, hy, rfl⟩ := hget i x hx
        obtain ⟨b1, b2⟩ := h5 i y hy
        refine pss_seq (psd_ifF (by walk_at "tv") (by omega) pss_nilD) ?_
        refine pss_wk (δ' := [some (.mref p), some (.int L), some dl, some (.int y), some (.int y)]) (by walk_at "run"; exact pss_nilD) ?_
        rw [befL_get hy]
        exact .same (.same (.same (.same (.drop .nil))))
      · rw [hlen]
        refine pss_seq (psd_fldset (f := "length") (by walk_at "nm") (by walk_at "nm") T.cl_Beam T.na_Beam_length rfl (by decide) rfl) ?_
        refine pss_seq (psd_fldset (f := "rests") (by walk_at "nm") (pd_tuple (by rfl) T.n_tuple (by walk_at "nm") hq) T.cl_Beam T.na_Beam_rests rfl (by decide) rfl) ?_
        exact pss_nilD
    · refine ⟨[], ?_⟩
      refine pss_hd rfl ?_
      by_cases h0 : L < 1 ∨ (ρ.length : Int) < 2 ∨ 3 < (ρ.length : Int)
      · exact pss_end (psd_ifT (by walk_at "tv") (by rw [hlen]; omega) (pss_end (psd_raise rfl (L2.takes_of rfl rfl rfl rfl) (pmk_own PySem.F.excBase_ValueError T.x_NoBeam T.g_NoBeam T.k_NoBeam (raises_own T.b_NoBeam T.t_NoBeam) rfl)) True.intro)) True.intro
      · refine pss_seq (psd_ifF (by walk_at "tv") (by rw [hlen]; omega) pss_nilD) ?_
        walk_at "run"
        have h4 : ¬ chk (-1) L ρ = true := fun z => by
          unfold isBm at hb
          rw [z, decide_eq_true (show 1 ≤ L by omega), decide_eq_true (show 2 ≤ ρ.length by omega), decide_eq_true (show ρ.length ≤ 3 by omega)] at hb
          cases hb
        refine pss_end (psd_for (js := [4]) (fun i => [some (.mref p), some (.int L), some dl, some (.int (befL (-1) ρ i)), none]) (fun _ => [(p, .ins cs.Beam [] [])]) (fun i => ∀ y, ρ[i]? = some y → befL (-1) ρ i < y ∧ y ≤ L) (fun i x => [some (.mref p), some (.int L), some dl, some (.int (befL (-1) ρ i)), some x]) (L2.passes_of (by rfl)) rfl (pid_list (by walk_at "nm") hq) (Wk.refl _) rfl ?_ ?_ ?_ ?_) True.intro
        · intro i x hx _
          walk_at "tgn"
        · intro i x hx _ hg
          obtain ⟨y, hy, rfl⟩ := hget i x hx
          obtain ⟨b1, b2⟩ := hg y hy
          refine pss_seq (psd_ifF (by walk_at "tv") (by omega) pss_nilD) ?_
          refine pss_wk (δ' := [some (.mref p), some (.int L), some dl, some (.int y), some (.int y)]) (by walk_at "run"; exact pss_nilD) ?_
          rw [befL_get hy]
          exact .same (.same (.same (.same (.drop .nil))))
        · intro i x hx _ hg
          obtain ⟨y, hy, rfl⟩ := hget i x hx
          refine ⟨pss_end (psd_ifT (by walk_at "tv") ?_ (pss_end (psd_raise rfl (L2.takes_of rfl rfl rfl rfl) (pmk_own PySem.F.excBase_ValueError T.x_NoBeam T.g_NoBeam T.k_NoBeam (raises_own T.b_NoBeam T.t_NoBeam) rfl)) True.intro)) True.intro, True.intro⟩
          apply Classical.byContradiction
          intro hz
          refine hg fun z hz2 => ?_
          rw [hy] at hz2
          cases hz2
          omega
        · intro hg
          refine absurd ((chk_iff L ρ (-1)).mpr fun i x hx => ?_) h4
          have hi : i < (ρ.map D.int).length := by
            rw [hlen]
            exact (List.getElem?_eq_some_iff.mp hx).1
          exact hg i hi x hx
theorem cal_Beam_init {f : Addr} {fd : FuncData} (F : Fun K "__init__" "Beam.__init__" s_Beam_init f fd) (hm : mg "Beam" = some (.ref cs.Beam)) (M : Mk K cs.Beam f) (T : Tx K mg cs) : CalI P w K mg base cs.Beam "Beam" 1 P_Beam_init ["length", "rests"] (R_Binit cs) := ⟨hm, f, fd, ok_Beam_init F T, M, F.binds fun _ _ _ _ _ _ us hl => match us, hl with | [_, _, _], _ => rfl⟩
end
section
set_option hygiene false in
local macro_rules | `(tactic| walk_at "nm") => `(tactic| first
  | ((with_reducible refine' pd_var (x := "self") 0 ?_ ?_ ?_ ?_ ?_) <;> first | (with_reducible show D) | ((with_reducible show Vis _ _); first | exact .inl rfl | exact .inr (.inl rfl) | exact .inr (.inr rfl)) | ((with_reducible show (_ == _) = false); decide) | rfl)
  | ((with_reducible refine' pd_var (x := "loads") 1 ?_ ?_ ?_ ?_ ?_) <;> first | (with_reducible show D) | ((with_reducible show Vis _ _); first | exact .inl rfl | exact .inr (.inl rfl) | exact .inr (.inr rfl)) | ((with_reducible show (_ == _) = false); decide) | rfl)
  | ((with_reducible refine' pd_var (x := "load") 2 ?_ ?_ ?_ ?_ ?_) <;> first | (with_reducible show D) | ((with_reducible show Vis _ _); first | exact .inl rfl | exact .inr (.inl rfl) | exact .inr (.inr rfl)) | ((with_reducible show (_ == _) = false); decide) | rfl)
  | ((with_reducible refine' pd_var (x := "start") 3 ?_ ?_ ?_ ?_ ?_) <;> first | (with_reducible show D) | ((with_reducible show Vis _ _); first | exact .inl rfl | exact .inr (.inl rfl) | exact .inr (.inr rfl)) | ((with_reducible show (_ == _) = false); decide) | rfl)
  | ((with_reducible refine' pd_var (x := "end") 4 ?_ ?_ ?_ ?_ ?_) <;> first | (with_reducible show D) | ((with_reducible show Vis _ _); first | exact .inl rfl | exact .inr (.inl rfl) | exact .inr (.inr rfl)) | ((with_reducible show (_ == _) = false); decide) | rfl)
  | ((with_reducible refine' pd_var (x := "first") 5 ?_ ?_ ?_ ?_ ?_) <;> first | (with_reducible show D) | ((with_reducible show Vis _ _); first | exact .inl rfl | exact .inr (.inl rfl) | exact .inr (.inr rfl)) | ((with_reducible show (_ == _) = false); decide) | rfl)
  | ((with_reducible refine' pd_var (x := "weight") 6 ?_ ?_ ?_ ?_ ?_) <;> first | (with_reducible show D) | ((with_reducible show Vis _ _); first | exact .inl rfl | exact .inr (.inl rfl) | exact .inr (.inr rfl)) | ((with_reducible show (_ == _) = false); decide) | rfl)
  | ((with_reducible refine' pd_var (x := "twice") 7 ?_ ?_ ?_ ?_ ?_) <;> first | (with_reducible show D) | ((with_reducible show Vis _ _); first | exact .inl rfl | exact .inr (.inl rfl) | exact .inr (.inr rfl)) | ((with_reducible show (_ == _) = false); decide) | rfl)
  | ((with_reducible refine' pd_var (x := "wide") 8 ?_ ?_ ?_ ?_ ?_) <;> first | (with_reducible show D) | ((with_reducible show Vis _ _); first | exact .inl rfl | exact .inr (.inl rfl) | exact .inr (.inr rfl)) | ((with_reducible show (_ == _) = false); decide) | rfl)
  | ((with_reducible refine' pd_var (x := "near") 9 ?_ ?_ ?_ ?_ ?_) <;> first | (with_reducible show D) | ((with_reducible show Vis _ _); first | exact .inl rfl | exact .inr (.inl rfl) | exact .inr (.inr rfl)) | ((with_reducible show (_ == _) = false); decide) | rfl)
  | ((with_reducible refine' pd_var (x := "far") 10 ?_ ?_ ?_ ?_ ?_) <;> first | (with_reducible show D) | ((with_reducible show Vis _ _); first | exact .inl rfl | exact .inr (.inl rfl) | exact .inr (.inr rfl)) | ((with_reducible show (_ == _) = false); decide) | rfl)
  | ((with_reducible refine' pd_var (x := "middle") 11 ?_ ?_ ?_ ?_ ?_) <;> first | (with_reducible show D) | ((with_reducible show Vis _ _); first | exact .inl rfl | exact .inr (.inl rfl) | exact .inr (.inr rfl)) | ((with_reducible show (_ == _) = false); decide) | rfl)
  | ((with_reducible refine' pd_var (x := "bottom") 12 ?_ ?_ ?_ ?_ ?_) <;> first | (with_reducible show D) | ((with_reducible show Vis _ _); first | exact .inl rfl | exact .inr (.inl rfl) | exact .inr (.inr rfl)) | ((with_reducible show (_ == _) = false); decide) | rfl)
  | ((with_reducible refine' pd_var (x := "last") 13 ?_ ?_ ?_ ?_ ?_) <;> first | (with_reducible show D) | ((with_reducible show Vis _ _); first | exact .inl rfl | exact .inr (.inl rfl) | exact .inr (.inr rfl)) | ((with_reducible show (_ == _) = false); decide) | rfl))
set_option hygiene false in
local macro_rules | `(tactic| walk_at "set") => `(tactic| first
  | ((with_reducible show PSs _ (Stmt.Assign [Expr.Name "self" _] _ _ :: _) _); refine' pss_seq (psd_set 0 nd (by rfl) (by first | exact .inl rfl | exact .inr rfl) ?_ (by rfl) (by first | exact .inr rfl | exact .inl rfl)) ?_)
  | ((with_reducible show PSs _ (Stmt.Assign [Expr.Name "loads" _] _ _ :: _) _); refine' pss_seq (psd_set 1 nd (by rfl) (by first | exact .inl rfl | exact .inr rfl) ?_ (by rfl) (by first | exact .inr rfl | exact .inl rfl)) ?_)
  | ((with_reducible show PSs _ (Stmt.Assign [Expr.Name "load" _] _ _ :: _) _); refine' pss_seq (psd_set 2 nd (by rfl) (by first | exact .inl rfl | exact .inr rfl) ?_ (by rfl) (by first | exact .inr rfl | exact .inl rfl)) ?_)
  | ((with_reducible show PSs _ (Stmt.Assign [Expr.Name "start" _] _ _ :: _) _); refine' pss_seq (psd_set 3 nd (by rfl) (by first | exact .inl rfl | exact .inr rfl) ?_ (by rfl) (by first | exact .inr rfl | exact .inl rfl)) ?_)
  | ((with_reducible show PSs _ (Stmt.Assign [Expr.Name "end" _] _ _ :: _) _); refine' pss_seq (psd_set 4 nd (by rfl) (by first | exact .inl rfl | exact .inr rfl) ?_ (by rfl) (by first | exact .inr rfl | exact .inl rfl)) ?_)
  | ((with_reducible show PSs _ (Stmt.Assign [Expr.Name "first" _] _ _ :: _) _); refine' pss_seq (psd_set 5 nd (by rfl) (by first | exact .inl rfl | exact .inr rfl) ?_ (by rfl) (by first | exact .inr rfl | exact .inl rfl)) ?_)
  | ((with_reducible show PSs _ (Stmt.Assign [Expr.Name "weight" _] _ _ :: _) _); refine' pss_seq (psd_set 6 nd (by rfl) (by first | exact .inl rfl | exact .inr rfl) ?_ (by rfl) (by first | exact .inr rfl | exact .inl rfl)) ?_)
  | ((with_reducible show PSs _ (Stmt.Assign [Expr.Name "twice" _] _ _ :: _) _); refine' pss_seq (psd_set 7 nd (by rfl) (by first | exact .inl rfl | exact .inr rfl) ?_ (by rfl) (by first | exact .inr rfl | exact .inl rfl)) ?_)
  | ((with_reducible show PSs _ (Stmt.Assign [Expr.Name "wide" _] _ _ :: _) _); refine' pss_seq (psd_set 8 nd (by rfl) (by first | exact .inl rfl | exact .inr rfl) ?_ (by rfl) (by first | exact .inr rfl | exact .inl rfl)) ?_)
  | ((with_reducible show PSs _ (Stmt.Assign [Expr.Name "near" _] _ _ :: _) _); refine' pss_seq (psd_set 9 nd (by rfl) (by first | exact .inl rfl | exact .inr rfl) ?_ (by rfl) (by first | exact .inr rfl | exact .inl rfl)) ?_)
  | ((with_reducible show PSs _ (Stmt.Assign [Expr.Name "far" _] _ _ :: _) _); refine' pss_seq (psd_set 10 nd (by rfl) (by first | exact .inl rfl | exact .inr rfl) ?_ (by rfl) (by first | exact .inr rfl | exact .inl rfl)) ?_)
  | ((with_reducible show PSs _ (Stmt.Assign [Expr.Name "middle" _] _ _ :: _) _); refine' pss_seq (psd_set 11 nd (by rfl) (by first | exact .inl rfl | exact .inr rfl) ?_ (by rfl) (by first | exact .inr rfl | exact .inl rfl)) ?_)
  | ((with_reducible show PSs _ (Stmt.Assign [Expr.Name "bottom" _] _ _ :: _) _); refine' pss_seq (psd_set 12 nd (by rfl) (by first | exact .inl rfl | exact .inr rfl) ?_ (by rfl) (by first | exact .inr rfl | exact .inl rfl)) ?_)
  | ((with_reducible show PSs _ (Stmt.Assign [Expr.Name "last" _] _ _ :: _) _); refine' pss_seq (psd_set 13 nd (by rfl) (by first | exact .inl rfl | exact .inr rfl) ?_ (by rfl) (by first | exact .inr rfl | exact .inl rfl)) ?_))
set_option hygiene false in
local macro_rules | `(tactic| walk_at "aug") => `(tactic| first
  | ((with_reducible show PSs _ (Stmt.AugAssign (Expr.Name "self" _) _ _ _ :: _) _); first | refine' pss_seq (psd_aug 0 nd (by rfl) (by first | exact .inl rfl | exact .inr rfl) L2.ip_add (by rfl) ?_ (by first | exact .inr rfl | exact .inl rfl)) ?s2 | refine' pss_seq (psd_aug 0 nd (by rfl) (by first | exact .inl rfl | exact .inr rfl) L2.ip_sub (by rfl) ?_ (by first | exact .inr rfl | exact .inl rfl)) ?_)
  | ((with_reducible show PSs _ (Stmt.AugAssign (Expr.Name "loads" _) _ _ _ :: _) _); first | refine' pss_seq (psd_aug 1 nd (by rfl) (by first | exact .inl rfl | exact .inr rfl) L2.ip_add (by rfl) ?_ (by first | exact .inr rfl | exact .inl rfl)) ?s2 | refine' pss_seq (psd_aug 1 nd (by rfl) (by first | exact .inl rfl | exact .inr rfl) L2.ip_sub (by rfl) ?_ (by first | exact .inr rfl | exact .inl rfl)) ?_)
  | ((with_reducible show PSs _ (Stmt.AugAssign (Expr.Name "load" _) _ _ _ :: _) _); first | refine' pss_seq (psd_aug 2 nd (by rfl) (by first | exact .inl rfl | exact .inr rfl) L2.ip_add (by rfl) ?_ (by first | exact .inr rfl | exact .inl rfl)) ?s2 | refine' pss_seq (psd_aug 2 nd (by rfl) (by first | exact .inl rfl | exact .inr rfl) L2.ip_sub (by rfl) ?_ (by first | exact .inr rfl | exact .inl rfl)) ?_)
  | ((with_reducible show PSs _ (Stmt.AugAssign (Expr.Name "start" _) _ _ _ :: _) _); first | refine' pss_seq (psd_aug 3 nd (by rfl) (by first | exact .inl rfl | exact .inr rfl) L2.ip_add (by rfl) ?_ (by first | exact .inr rfl | exact .inl rfl)) ?s2 | refine' pss_seq (psd_aug 3 nd (by rfl) (by first | exact .inl rfl | exact .inr rfl) L2.ip_sub (by rfl) ?_ (by first | exact .inr rfl | exact .inl rfl)) ?_)
  | ((with_reducible show PSs _ (Stmt.AugAssign (Expr.Name "end" _) _ _ _ :: _) _); first | refine' pss_seq (psd_aug 4 nd (by rfl) (by first | exact .inl rfl | exact .inr rfl) L2.ip_add (by rfl) ?_ (by first | exact .inr rfl | exact .inl rfl)) ?s2 | refine' pss_seq (psd_aug 4 nd (by rfl) (by first | exact .inl rfl | exact .inr rfl) L2.ip_sub (by rfl) ?_ (by first | exact .inr rfl | exact .inl rfl)) ?_)
  | ((with_reducible show PSs _ (Stmt.AugAssign (Expr.Name "first" _) _ _ _ :: _) _); first | refine' pss_seq (psd_aug 5 nd (by rfl) (by first | exact .inl rfl | exact .inr rfl) L2.ip_add (by rfl) ?_ (by first | exact .inr rfl | exact .inl rfl)) ?s2 | refine' pss_seq (psd_aug 5 nd (by rfl) (by first | exact .inl rfl | exact .inr rfl) L2.ip_sub (by rfl) ?_ (by first | exact .inr rfl | exact .inl rfl)) ?_)
  | ((with_reducible show PSs _ (Stmt.AugAssign (Expr.Name "weight" _) _ _ _ :: _) _); first | refine' pss_seq (psd_aug 6 nd (by rfl) (by first | exact .inl rfl | exact .inr rfl) L2.ip_add (by rfl) ?_ (by first | exact .inr rfl | exact .inl rfl)) ?s2 | refine' pss_seq (psd_aug 6 nd (by rfl) (by first | exact .inl rfl | exact .inr rfl) L2.ip_sub (by rfl) ?_ (by first | exact .inr rfl | exact .inl rfl)) ?_)
  | ((with_reducible show PSs _ (Stmt.AugAssign (Expr.Name "twice" _) _ _ _ :: _) _); first | refine' pss_seq (psd_aug 7 nd (by rfl) (by first | exact .inl rfl | exact .inr rfl) L2.ip_add (by rfl) ?_ (by first | exact .inr rfl | exact .inl rfl)) ?s2 | refine' pss_seq (psd_aug 7 nd (by rfl) (by first | exact .inl rfl | exact .inr rfl) L2.ip_sub (by rfl) ?_ (by first | exact .inr rfl | exact .inl rfl)) ?_)
  | ((with_reducible show PSs _ (Stmt.AugAssign (Expr.Name "wide" _) _ _ _ :: _) _); first | refine' pss_seq (psd_aug 8 nd (by rfl) (by first | exact .inl rfl | exact .inr rfl) L2.ip_add (by rfl) ?_ (by first | exact .inr rfl | exact .inl rfl)) ?s2 | refine' pss_seq (psd_aug 8 nd (by rfl) (by first | exact .inl rfl | exact .inr rfl) L2.ip_sub (by rfl) ?_ (by first | exact .inr rfl | exact .inl rfl)) ?_)
  | ((with_reducible show PSs _ (Stmt.AugAssign (Expr.Name "near" _) _ _ _ :: _) _); first | refine' pss_seq (psd_aug 9 nd (by rfl) (by first | exact .inl rfl | exact .inr rfl) L2.ip_add (by rfl) ?_ (by first | exact .inr rfl | exact .inl rfl)) ?s2 | refine' pss_seq (psd_aug 9 nd (by rfl) (by first | exact .inl rfl | exact .inr rfl) L2.ip_sub (by rfl) ?_ (by first | exact .inr rfl | exact .inl rfl)) ?_)
  | ((with_reducible show PSs _ (Stmt.AugAssign (Expr.Name "far" _) _ _ _ :: _) _); first | refine' pss_seq (psd_aug 10 nd (by rfl) (by first | exact .inl rfl | exact .inr rfl) L2.ip_add (by rfl) ?_ (by first | exact .inr rfl | exact .inl rfl)) ?s2 | refine' pss_seq (psd_aug 10 nd (by rfl) (by first | exact .inl rfl | exact .inr rfl) L2.ip_sub (by rfl) ?_ (by first | exact .inr rfl | exact .inl rfl)) ?_)
  | ((with_reducible show PSs _ (Stmt.AugAssign (Expr.Name "middle" _) _ _ _ :: _) _); first | refine' pss_seq (psd_aug 11 nd (by rfl) (by first | exact .inl rfl | exact .inr rfl) L2.ip_add (by rfl) ?_ (by first | exact .inr rfl | exact .inl rfl)) ?s2 | refine' pss_seq (psd_aug 11 nd (by rfl) (by first | exact .inl rfl | exact .inr rfl) L2.ip_sub (by rfl) ?_ (by first | exact .inr rfl | exact .inl rfl)) ?_)
  | ((with_reducible show PSs _ (Stmt.AugAssign (Expr.Name "bottom" _) _ _ _ :: _) _); first | refine' pss_seq (psd_aug 12 nd (by rfl) (by first | exact .inl rfl | exact .inr rfl) L2.ip_add (by rfl) ?_ (by first | exact .inr rfl | exact .inl rfl)) ?s2 | refine' pss_seq (psd_aug 12 nd (by rfl) (by first | exact .inl rfl | exact .inr rfl) L2.ip_sub (by rfl) ?_ (by first | exact .inr rfl | exact .inl rfl)) ?_)
  | ((with_reducible show PSs _ (Stmt.AugAssign (Expr.Name "last" _) _ _ _ :: _) _); first | refine' pss_seq (psd_aug 13 nd (by rfl) (by first | exact .inl rfl | exact .inr rfl) L2.ip_add (by rfl) ?_ (by first | exact .inr rfl | exact .inl rfl)) ?s2 | refine' pss_seq (psd_aug 13 nd (by rfl) (by first | exact .inl rfl | exact .inr rfl) L2.ip_sub (by rfl) ?_ (by first | exact .inr rfl | exact .inl rfl)) ?_))
set_option hygiene false in
local macro_rules | `(tactic| walk_at "tgn") => `(tactic| first
  | ((with_reducible show PG _ (Expr.Name "self" _) _); refine' pgd_name 0 nd (by rfl) (by first | exact .inl rfl | exact .inr rfl) (by first | exact .inr rfl | exact .inl rfl) (by first | decide | simp))
  | ((with_reducible show PG _ (Expr.Name "loads" _) _); refine' pgd_name 1 nd (by rfl) (by first | exact .inl rfl | exact .inr rfl) (by first | exact .inr rfl | exact .inl rfl) (by first | decide | simp))
  | ((with_reducible show PG _ (Expr.Name "load" _) _); refine' pgd_name 2 nd (by rfl) (by first | exact .inl rfl | exact .inr rfl) (by first | exact .inr rfl | exact .inl rfl) (by first | decide | simp))
  | ((with_reducible show PG _ (Expr.Name "start" _) _); refine' pgd_name 3 nd (by rfl) (by first | exact .inl rfl | exact .inr rfl) (by first | exact .inr rfl | exact .inl rfl) (by first | decide | simp))
  | ((with_reducible show PG _ (Expr.Name "end" _) _); refine' pgd_name 4 nd (by rfl) (by first | exact .inl rfl | exact .inr rfl) (by first | exact .inr rfl | exact .inl rfl) (by first | decide | simp))
  | ((with_reducible show PG _ (Expr.Name "first" _) _); refine' pgd_name 5 nd (by rfl) (by first | exact .inl rfl | exact .inr rfl) (by first | exact .inr rfl | exact .inl rfl) (by first | decide | simp))
  | ((with_reducible show PG _ (Expr.Name "weight" _) _); refine' pgd_name 6 nd (by rfl) (by first | exact .inl rfl | exact .inr rfl) (by first | exact .inr rfl | exact .inl rfl) (by first | decide | simp))
  | ((with_reducible show PG _ (Expr.Name "twice" _) _); refine' pgd_name 7 nd (by rfl) (by first | exact .inl rfl | exact .inr rfl) (by first | exact .inr rfl | exact .inl rfl) (by first | decide | simp))
  | ((with_reducible show PG _ (Expr.Name "wide" _) _); refine' pgd_name 8 nd (by rfl) (by first | exact .inl rfl | exact .inr rfl) (by first | exact .inr rfl | exact .inl rfl) (by first | decide | simp))
  | ((with_reducible show PG _ (Expr.Name "near" _) _); refine' pgd_name 9 nd (by rfl) (by first | exact .inl rfl | exact .inr rfl) (by first | exact .inr rfl | exact .inl rfl) (by first | decide | simp))
  | ((with_reducible show PG _ (Expr.Name "far" _) _); refine' pgd_name 10 nd (by rfl) (by first | exact .inl rfl | exact .inr rfl) (by first | exact .inr rfl | exact .inl rfl) (by first | decide | simp))
  | ((with_reducible show PG _ (Expr.Name "middle" _) _); refine' pgd_name 11 nd (by rfl) (by first | exact .inl rfl | exact .inr rfl) (by first | exact .inr rfl | exact .inl rfl) (by first | decide | simp))
  | ((with_reducible show PG _ (Expr.Name "bottom" _) _); refine' pgd_name 12 nd (by rfl) (by first | exact .inl rfl | exact .inr rfl) (by first | exact .inr rfl | exact .inl rfl) (by first | decide | simp))
  | ((with_reducible show PG _ (Expr.Name "last" _) _); refine' pgd_name 13 nd (by rfl) (by first | exact .inl rfl | exact .inr rfl) (by first | exact .inr rfl | exact .inl rfl) (by first | decide | simp)))
set_option hygiene false in
local macro_rules | `(tactic| walk_at "cl") => `(tactic| first
  | ((with_reducible show PE _ (Expr.Call (Expr.Attribute _ "ends" _) _ _ _) _); (refine' pm_ends c_Weight_ends c_Spread_ends ?_ hr (by decide) (by decide) ?_) <;> walk_at "go")
  | ((with_reducible show PE _ (Expr.Call (Expr.Attribute _ "total" _) _ _ _) _); (refine' pm_total c_Weight_total c_Spread_total ?_ hr (by decide) (by decide) ?_) <;> walk_at "go")
  | ((with_reducible show PE _ (Expr.Call (Expr.Attribute _ "left_part" _) _ _ _) _); (refine' pm_left_part c_Weight_left_part c_Spread_left_part ?_ hr (by decide) (by decide) ?_ ?_ ?_ ?_) <;> walk_at "go")
  | ((with_reducible show PE _ (Expr.Call (Expr.Attribute _ "right_part" _) _ _ _) _); (refine' pm_right_part c_Weight_right_part c_Spread_right_part ?_ hr (by decide) (by decide) ?_ ?_ ?_ ?_) <;> walk_at "go")
  | ((with_reducible show PE _ (Expr.Call (Expr.Attribute _ "middle_part" _) _ _ _) _); (refine' pm_middle_part c_Weight_middle_part c_Spread_middle_part ?_ hr (by decide) (by decide) ?_ ?_ ?_ ?_ ?_) <;> walk_at "go"))
set_option hygiene false in
local macro_rules | `(tactic| walk_at "fld") => `(tactic| first
  | ((with_reducible show PE _ (Expr.Attribute _ "place" _) _); (refine' pd_fld ?_ (by rfl) T.cl_Weight T.na_Weight_place ?_) <;> walk_at "go")
  | ((with_reducible show PE _ (Expr.Attribute _ "size" _) _); (refine' pd_fld ?_ (by rfl) T.cl_Weight T.na_Weight_size ?_) <;> walk_at "go")
  | ((with_reducible show PE _ (Expr.Attribute _ "start" _) _); (refine' pd_fld ?_ (by rfl) T.cl_Spread T.na_Spread_start ?_) <;> walk_at "go")
  | ((with_reducible show PE _ (Expr.Attribute _ "end" _) _); (refine' pd_fld ?_ (by rfl) T.cl_Spread T.na_Spread_end ?_) <;> walk_at "go")
  | ((with_reducible show PE _ (Expr.Attribute _ "each" _) _); (refine' pd_fld ?_ (by rfl) T.cl_Spread T.na_Spread_each ?_) <;> walk_at "go")
  | ((with_reducible show PE _ (Expr.Attribute _ "length" _) _); (refine' pd_fld ?_ (by rfl) T.cl_Beam T.na_Beam_length ?_) <;> walk_at "go")
  | ((with_reducible show PE _ (Expr.Attribute _ "rests" _) _); (refine' pd_fld ?_ (by rfl) T.cl_Beam T.na_Beam_rests ?_) <;> walk_at "go"))
variable {P : Program} {w : World} {K : PySem.W.Frag} {mg : Str → Option Value} {base : Heap} {cs : Cs}
theorem ok_Beam_parted {f : Addr} {fd : FuncData} (F : Fun K "parted" "Beam.parted" s_Beam_parted f fd) (T : Tx K mg cs) (c_Weight_ends : CalM P w K mg base cs.Weight "ends" 1 P_Weight_ends ((R_ends cs isW))) (c_Spread_ends : CalM P w K mg base cs.Spread "ends" 1 P_Spread_ends ((R_ends cs isS))) (c_Weight_total : CalM P w K mg base cs.Weight "total" 1 P_Weight_total ((R_total cs isW))) (c_Spread_total : CalM P w K mg base cs.Spread "total" 1 P_Spread_total ((R_total cs isS))) (c_Weight_left_part : CalM P w K mg base cs.Weight "left_part" 1 P_Weight_left_part ((R_left_part cs isW))) (c_Spread_left_part : CalM P w K mg base cs.Spread "left_part" 1 P_Spread_left_part ((R_left_part cs isS))) (c_Weight_right_part : CalM P w K mg base cs.Weight "right_part" 1 P_Weight_right_part ((R_right_part cs isW))) (c_Spread_right_part : CalM P w K mg base cs.Spread "right_part" 1 P_Spread_right_part ((R_right_part cs isS))) (c_Weight_middle_part : CalM P w K mg base cs.Weight "middle_part" 2 P_Weight_middle_part ((R_middle_part cs isW))) (c_Spread_middle_part : CalM P w K mg base cs.Spread "middle_part" 2 P_Spread_middle_part ((R_middle_part cs isS))) : FnOk P w K mg base (L2.CX P w) 3 f fd P_Beam_parted (spD K (R_parted cs)) := by
  refine def_ok F sc_Beam_parted (fun ds r h => ?_) (by decide) (fun cdv A outer s H E ds r hr h => ?_)
  · obtain ⟨L, ρ, ls, dl, _, rfl, _⟩ := h; rfl
  · obtain ⟨L, ρ, ls, dl, hq, rfl, hrs, hbr, hls, h⟩ := h
    have nd := sc_Beam_parted.nd
    have bW := WW_bd hls
    refine pss_hd rfl ?_
    rcases h with ⟨hall, rfl⟩ | ⟨hall, rfl⟩
    · refine pss_seq (psd_forI (js := [2]) [some (bmD cs L ρ), some dl, none, none, none, none, none, none, none, none, none, none, none, none] (fun x => [some (bmD cs L ρ), some dl, some x, none, none, none, none, none, none, none, none, none, none, none]) (L2.passes_of (by rfl)) rfl (pid_list (by walk_at "nm") hq) (Wk.refl _) (fun x hx => by walk_at "tgn") (fun x hx => ?_)) ?_
      · obtain ⟨w, hm, rfl⟩ := lds_mem hx
        have hw := hls.bw w hm
        have hon := onB_iff.mp (List.all_eq_true.mp hall w hm)
        refine pss_wk (δ' := [some (bmD cs L ρ), some dl, some (ldD cs w), some (.int w.a), some (.int w.b), none, none, none, none, none, none, none, none, none]) ?_ ?_
        · refine pss_seq (psd_unpack (js := [3, 4]) (by walk_at "ev") (pgd_tup rfl (pgsd_cons (by walk_at "tgn") (pgsd_cons (by walk_at "tgn") pgsd_nil)) rfl)) ?_
          exact pss_seq (psd_ifF (by walk_at "tv") (by omega) pss_nilD) pss_nilD
        · exact .same (.same (.drop (.drop (.drop (.same (.same (.same (.same (.same (.same (.same (.same (.same .nil)))))))))))))
      · cases hrs with
        | two h1 =>
          rename_i p q
          have bp := hbr p (by simp)
          have bq := hbr q (by simp)
          have bT := TT_bd hls bp
          walk_at "run"
          refine pss_seq (psd_set 6 nd (by rfl) (by first | exact .inl rfl | exact .inr rfl) (pd_cast (d' := .int (WW ls)) (pd_sum (ns := ls.map tot) (by rfl) (by rfl) T.n_sum (pd_new (pn_lcI (own := [("load", 2)]) (es := (ls.map tot).map D.int) (fun _ x => (wipeD _ [2]).set 2 (some x)) rfl nd (pid_list (by walk_at "nm") hq) (blkOk_by (N := N_Beam_parted) (sc := defScope s_Beam_parted) (by decide +kernel)) (fun i x hx s H C cl fp => by walk_at "tgn") (fun i x y hx hy s H C cl fp => ?_) (by simp [ldsD_len]) (hls.len2))) rfl) rfl) (by rfl) (by first | exact .inr rfl | exact .inl rfl)) ?_
          · obtain ⟨w, hw, rfl, rfl⟩ := lds_two hls hx hy
            walk_at "ev"
          refine pss_seq (psd_set 7 nd (by rfl) (by first | exact .inl rfl | exact .inr rfl) (pd_cast (d' := .int (TT p ls)) (pd_sum (ns := ls.map fun w => rgt w p 1 - lft w p 1) (by rfl) (by rfl) T.n_sum (pd_new (pn_lcI (own := [("load", 2)]) (es := (ls.map fun w => rgt w p 1 - lft w p 1).map D.int) (fun _ x => (wipeD _ [2]).set 2 (some x)) rfl nd (pid_list (by walk_at "nm") hq) (blkOk_by (N := N_Beam_parted) (sc := defScope s_Beam_parted) (by decide +kernel)) (fun i x hx s H C cl fp => by walk_at "tgn") (fun i x y hx hy s H C cl fp => ?_) (by simp [ldsD_len]) (hls.len2))) rfl) rfl) (by rfl) (by first | exact .inr rfl | exact .inl rfl)) ?_
          · obtain ⟨w, hw, rfl, rfl⟩ := lds_two hls hx hy
            walk_at "ev"
          walk_at "run"
          refine pss_end (psd_ifT (by walk_at "tv") (by rfl) ?_) True.intro
          walk_at "run"
          rfl
        | three h1 h2 =>
          rename_i p q r
          have bp := hbr p (by simp)
          have bq := hbr q (by simp)
          have br := hbr r (by simp)
          have bT := TT_bd hls bp
          have bM := mid_su_bd hls bp bq br
          walk_at "run"
          refine pss_seq (psd_set 6 nd (by rfl) (by first | exact .inl rfl | exact .inr rfl) (pd_cast (d' := .int (WW ls)) (pd_sum (ns := ls.map tot) (by rfl) (by rfl) T.n_sum (pd_new (pn_lcI (own := [("load", 2)]) (es := (ls.map tot).map D.int) (fun _ x => (wipeD _ [2]).set 2 (some x)) rfl nd (pid_list (by walk_at "nm") hq) (blkOk_by (N := N_Beam_parted) (sc := defScope s_Beam_parted) (by decide +kernel)) (fun i x hx s H C cl fp => by walk_at "tgn") (fun i x y hx hy s H C cl fp => ?_) (by simp [ldsD_len]) (hls.len2))) rfl) rfl) (by rfl) (by first | exact .inr rfl | exact .inl rfl)) ?_
          · obtain ⟨w, hw, rfl, rfl⟩ := lds_two hls hx hy
            walk_at "ev"
          refine pss_seq (psd_set 7 nd (by rfl) (by first | exact .inl rfl | exact .inr rfl) (pd_cast (d' := .int (TT p ls)) (pd_sum (ns := ls.map fun w => rgt w p 1 - lft w p 1) (by rfl) (by rfl) T.n_sum (pd_new (pn_lcI (own := [("load", 2)]) (es := (ls.map fun w => rgt w p 1 - lft w p 1).map D.int) (fun _ x => (wipeD _ [2]).set 2 (some x)) rfl nd (pid_list (by walk_at "nm") hq) (blkOk_by (N := N_Beam_parted) (sc := defScope s_Beam_parted) (by decide +kernel)) (fun i x hx s H C cl fp => by walk_at "tgn") (fun i x y hx hy s H C cl fp => ?_) (by simp [ldsD_len]) (hls.len2))) rfl) rfl) (by rfl) (by first | exact .inr rfl | exact .inl rfl)) ?_
          · obtain ⟨w, hw, rfl, rfl⟩ := lds_two hls hx hy
            walk_at "ev"
          walk_at "run"
          refine pss_seq (psd_ifF (by walk_at "tv") (by simp) pss_nilD) ?_
          walk_at "run"
          refine pss_seq (psd_set 11 nd (by rfl) (by first | exact .inl rfl | exact .inr rfl) (pd_cast (d' := .int (su (mid p q r) ls)) (pd_sum (ns := ls.map (mid p q r)) (by rfl) (by rfl) T.n_sum (pd_new (pn_lcI (own := [("load", 2)]) (es := (ls.map (mid p q r)).map D.int) (fun _ x => (wipeD _ [2]).set 2 (some x)) rfl nd (pid_list (by walk_at "nm") hq) (blkOk_by (N := N_Beam_parted) (sc := defScope s_Beam_parted) (by decide +kernel)) (fun i x hx s H C cl fp => by walk_at "tgn") (fun i x y hx hy s H C cl fp => ?_) (by simp [ldsD_len]) (hls.len2))) rfl) rfl) (by rfl) (by first | exact .inr rfl | exact .inl rfl)) ?_
          · obtain ⟨w, hw, rfl, rfl⟩ := lds_two hls hx hy
            walk_at "ev"
          walk_at "run"
          rfl
    · refine pss_end (psd_for (js := [2]) (fun _ => [some (bmD cs L ρ), some dl, none, none, none, none, none, none, none, none, none, none, none, none]) (fun _ => []) (fun i => ∀ w, ls[i]? = some w → onB L w = true) (fun _ x => [some (bmD cs L ρ), some dl, some x, none, none, none, none, none, none, none, none, none, none, none]) (L2.passes_of (by rfl)) rfl (pid_list (by walk_at "nm") hq) (Wk.refl _) rfl (fun i x hx _ => by walk_at "tgn") (fun i x hx _ hg => ?_) (fun i x hx _ hg => ?_) (fun hg => ?_)) True.intro
      · obtain ⟨w, hi, hm, rfl⟩ := lds_get hx
        have hw := hls.bw w hm
        have hon := onB_iff.mp (hg w hi)
        refine pss_wk (δ' := [some (bmD cs L ρ), some dl, some (ldD cs w), some (.int w.a), some (.int w.b), none, none, none, none, none, none, none, none, none]) ?_ ?_
        · refine pss_seq (psd_unpack (js := [3, 4]) (by walk_at "ev") (pgd_tup rfl (pgsd_cons (by walk_at "tgn") (pgsd_cons (by walk_at "tgn") pgsd_nil)) rfl)) ?_
          exact pss_seq (psd_ifF (by walk_at "tv") (by omega) pss_nilD) pss_nilD
        · exact .same (.same (.drop (.drop (.drop (.same (.same (.same (.same (.same (.same (.same (.same (.same .nil)))))))))))))
      · obtain ⟨w, hi, hm, rfl⟩ := lds_get hx
        have hw := hls.bw w hm
        have hoff : ¬ (0 ≤ w.a ∧ w.b ≤ L) := fun z => hg fun v hv => by
          rw [hi] at hv
          cases hv
          exact onB_iff.mpr z
        refine ⟨?_, True.intro⟩
        refine pss_seq (psd_unpack (js := [3, 4]) (by walk_at "ev") (pgd_tup rfl (pgsd_cons (by walk_at "tgn") (pgsd_cons (by walk_at "tgn") pgsd_nil)) rfl)) ?_
        exact pss_end (psd_ifT (by walk_at "tv") (by omega) (pss_end (psd_raise rfl (L2.takes_of rfl rfl rfl rfl) (pmk_own PySem.F.excBase_ValueError T.x_OffBeam T.g_OffBeam T.k_OffBeam (raises_own T.b_OffBeam T.t_OffBeam) rfl)) True.intro)) True.intro
      · refine absurd (List.all_eq_true.mpr fun w hm => ?_) (by rw [hall]; decide)
        obtain ⟨i, hi, e⟩ := List.getElem_of_mem hm
        exact hg i (by rw [ldsD_len]; exact hi) w (by rw [List.getElem?_eq_getElem hi, e])
theorem cal_Beam_parted {f : Addr} {fd : FuncData} (F : Fun K "parted" "Beam.parted" s_Beam_parted f fd) (M : Meth K cs.Beam "parted" f) (T : Tx K mg cs) (c_Weight_ends : CalM P w K mg base cs.Weight "ends" 1 P_Weight_ends ((R_ends cs isW))) (c_Spread_ends : CalM P w K mg base cs.Spread "ends" 1 P_Spread_ends ((R_ends cs isS))) (c_Weight_total : CalM P w K mg base cs.Weight "total" 1 P_Weight_total ((R_total cs isW))) (c_Spread_total : CalM P w K mg base cs.Spread "total" 1 P_Spread_total ((R_total cs isS))) (c_Weight_left_part : CalM P w K mg base cs.Weight "left_part" 1 P_Weight_left_part ((R_left_part cs isW))) (c_Spread_left_part : CalM P w K mg base cs.Spread "left_part" 1 P_Spread_left_part ((R_left_part cs isS))) (c_Weight_right_part : CalM P w K mg base cs.Weight "right_part" 1 P_Weight_right_part ((R_right_part cs isW))) (c_Spread_right_part : CalM P w K mg base cs.Spread "right_part" 1 P_Spread_right_part ((R_right_part cs isS))) (c_Weight_middle_part : CalM P w K mg base cs.Weight "middle_part" 2 P_Weight_middle_part ((R_middle_part cs isW))) (c_Spread_middle_part : CalM P w K mg base cs.Spread "middle_part" 2 P_Spread_middle_part ((R_middle_part cs isS))) : CalM P w K mg base cs.Beam "parted" 3 P_Beam_parted ((R_parted cs)) := ⟨T.cl_Beam, f, fd, ok_Beam_parted F T c_Weight_ends c_Spread_ends c_Weight_total c_Spread_total c_Weight_left_part c_Spread_left_part c_Weight_right_part c_Spread_right_part c_Weight_middle_part c_Spread_middle_part, M, F.binds fun _ _ _ _ _ _ us hl => match us, hl with | [_, _], _ => rfl⟩
end
section
set_option hygiene false in
local macro_rules | `(tactic| walk_at "nm") => `(tactic| first
  | ((with_reducible refine' pd_var (x := "self") 0 ?_ ?_ ?_ ?_ ?_) <;> first | (with_reducible show D) | ((with_reducible show Vis _ _); first | exact .inl rfl | exact .inr (.inl rfl) | exact .inr (.inr rfl)) | ((with_reducible show (_ == _) = false); decide) | rfl)
  | ((with_reducible refine' pd_var (x := "loads") 1 ?_ ?_ ?_ ?_ ?_) <;> first | (with_reducible show D) | ((with_reducible show Vis _ _); first | exact .inl rfl | exact .inr (.inl rfl) | exact .inr (.inr rfl)) | ((with_reducible show (_ == _) = false); decide) | rfl)
  | ((with_reducible refine' pd_var (x := "numbers") 2 ?_ ?_ ?_ ?_ ?_) <;> first | (with_reducible show D) | ((with_reducible show Vis _ _); first | exact .inl rfl | exact .inr (.inl rfl) | exact .inr (.inr rfl)) | ((with_reducible show (_ == _) = false); decide) | rfl)
  | ((with_reducible refine' pd_var (x := "bottom") 3 ?_ ?_ ?_ ?_ ?_) <;> first | (with_reducible show D) | ((with_reducible show Vis _ _); first | exact .inl rfl | exact .inr (.inl rfl) | exact .inr (.inr rfl)) | ((with_reducible show (_ == _) = false); decide) | rfl)
  | ((with_reducible refine' pd_var (x := "number") 4 ?_ ?_ ?_ ?_ ?_) <;> first | (with_reducible show D) | ((with_reducible show Vis _ _); first | exact .inl rfl | exact .inr (.inl rfl) | exact .inr (.inr rfl)) | ((with_reducible show (_ == _) = false); decide) | rfl))
set_option hygiene false in
local macro_rules | `(tactic| walk_at "set") => `(tactic| first
  | ((with_reducible show PSs _ (Stmt.Assign [Expr.Name "self" _] _ _ :: _) _); refine' pss_seq (psd_set 0 nd (by rfl) (by first | exact .inl rfl | exact .inr rfl) ?_ (by rfl) (by first | exact .inr rfl | exact .inl rfl)) ?_)
  | ((with_reducible show PSs _ (Stmt.Assign [Expr.Name "loads" _] _ _ :: _) _); refine' pss_seq (psd_set 1 nd (by rfl) (by first | exact .inl rfl | exact .inr rfl) ?_ (by rfl) (by first | exact .inr rfl | exact .inl rfl)) ?_)
  | ((with_reducible show PSs _ (Stmt.Assign [Expr.Name "numbers" _] _ _ :: _) _); refine' pss_seq (psd_set 2 nd (by rfl) (by first | exact .inl rfl | exact .inr rfl) ?_ (by rfl) (by first | exact .inr rfl | exact .inl rfl)) ?_)
  | ((with_reducible show PSs _ (Stmt.Assign [Expr.Name "bottom" _] _ _ :: _) _); refine' pss_seq (psd_set 3 nd (by rfl) (by first | exact .inl rfl | exact .inr rfl) ?_ (by rfl) (by first | exact .inr rfl | exact .inl rfl)) ?_)
  | ((with_reducible show PSs _ (Stmt.Assign [Expr.Name "number" _] _ _ :: _) _); refine' pss_seq (psd_set 4 nd (by rfl) (by first | exact .inl rfl | exact .inr rfl) ?_ (by rfl) (by first | exact .inr rfl | exact .inl rfl)) ?_))
set_option hygiene false in
local macro_rules | `(tactic| walk_at "aug") => `(tactic| first
  | ((with_reducible show PSs _ (Stmt.AugAssign (Expr.Name "self" _) _ _ _ :: _) _); first | refine' pss_seq (psd_aug 0 nd (by rfl) (by first | exact .inl rfl | exact .inr rfl) L2.ip_add (by rfl) ?_ (by first | exact .inr rfl | exact .inl rfl)) ?s2 | refine' pss_seq (psd_aug 0 nd (by rfl) (by first | exact .inl rfl | exact .inr rfl) L2.ip_sub (by rfl) ?_ (by first | exact .inr rfl | exact .inl rfl)) ?_)
  | ((with_reducible show PSs _ (Stmt.AugAssign (Expr.Name "loads" _) _ _ _ :: _) _); first | refine' pss_seq (psd_aug 1 nd (by rfl) (by first | exact .inl rfl | exact .inr rfl) L2.ip_add (by rfl) ?_ (by first | exact .inr rfl | exact .inl rfl)) ?s2 | refine' pss_seq (psd_aug 1 nd (by rfl) (by first | exact .inl rfl | exact .inr rfl) L2.ip_sub (by rfl) ?_ (by first | exact .inr rfl | exact .inl rfl)) ?_)
  | ((with_reducible show PSs _ (Stmt.AugAssign (Expr.Name "numbers" _) _ _ _ :: _) _); first | refine' pss_seq (psd_aug 2 nd (by rfl) (by first | exact .inl rfl | exact .inr rfl) L2.ip_add (by rfl) ?_ (by first | exact .inr rfl | exact .inl rfl)) ?s2 | refine' pss_seq (psd_aug 2 nd (by rfl) (by first | exact .inl rfl | exact .inr rfl) L2.ip_sub (by rfl) ?_ (by first | exact .inr rfl | exact .inl rfl)) ?_)
  | ((with_reducible show PSs _ (Stmt.AugAssign (Expr.Name "bottom" _) _ _ _ :: _) _); first | refine' pss_seq (psd_aug 3 nd (by rfl) (by first | exact .inl rfl | exact .inr rfl) L2.ip_add (by rfl) ?_ (by first | exact .inr rfl | exact .inl rfl)) ?s2 | refine' pss_seq (psd_aug 3 nd (by rfl) (by first | exact .inl rfl | exact .inr rfl) L2.ip_sub (by rfl) ?_ (by first | exact .inr rfl | exact .inl rfl)) ?_)
  | ((with_reducible show PSs _ (Stmt.AugAssign (Expr.Name "number" _) _ _ _ :: _) _); first | refine' pss_seq (psd_aug 4 nd (by rfl) (by first | exact .inl rfl | exact .inr rfl) L2.ip_add (by rfl) ?_ (by first | exact .inr rfl | exact .inl rfl)) ?s2 | refine' pss_seq (psd_aug 4 nd (by rfl) (by first | exact .inl rfl | exact .inr rfl) L2.ip_sub (by rfl) ?_ (by first | exact .inr rfl | exact .inl rfl)) ?_))
set_option hygiene false in
local macro_rules | `(tactic| walk_at "tgn") => `(tactic| first
  | ((with_reducible show PG _ (Expr.Name "self" _) _); refine' pgd_name 0 nd (by rfl) (by first | exact .inl rfl | exact .inr rfl) (by first | exact .inr rfl | exact .inl rfl) (by first | decide | simp))
  | ((with_reducible show PG _ (Expr.Name "loads" _) _); refine' pgd_name 1 nd (by rfl) (by first | exact .inl rfl | exact .inr rfl) (by first | exact .inr rfl | exact .inl rfl) (by first | decide | simp))
  | ((with_reducible show PG _ (Expr.Name "numbers" _) _); refine' pgd_name 2 nd (by rfl) (by first | exact .inl rfl | exact .inr rfl) (by first | exact .inr rfl | exact .inl rfl) (by first | decide | simp))
  | ((with_reducible show PG _ (Expr.Name "bottom" _) _); refine' pgd_name 3 nd (by rfl) (by first | exact .inl rfl | exact .inr rfl) (by first | exact .inr rfl | exact .inl rfl) (by first | decide | simp))
  | ((with_reducible show PG _ (Expr.Name "number" _) _); refine' pgd_name 4 nd (by rfl) (by first | exact .inl rfl | exact .inr rfl) (by first | exact .inr rfl | exact .inl rfl) (by first | decide | simp)))
set_option hygiene false in
local macro_rules | `(tactic| walk_at "cl") => `(tactic| first
  | ((with_reducible show PE _ (Expr.Call (Expr.Name "fraction" _) _ _ _) _); (refine' pd_call c_fraction hr (by decide) (by rfl) ?_ ⟨_, _, rfl, .inr ⟨?_, ?_, rfl⟩⟩) <;> walk_at "go"))
set_option hygiene false in
local macro_rules | `(tactic| walk_at "fld") => `(tactic| first
  | ((with_reducible show PE _ (Expr.Attribute _ "place" _) _); (refine' pd_fld ?_ (by rfl) T.cl_Weight T.na_Weight_place ?_) <;> walk_at "go")
  | ((with_reducible show PE _ (Expr.Attribute _ "size" _) _); (refine' pd_fld ?_ (by rfl) T.cl_Weight T.na_Weight_size ?_) <;> walk_at "go")
  | ((with_reducible show PE _ (Expr.Attribute _ "start" _) _); (refine' pd_fld ?_ (by rfl) T.cl_Spread T.na_Spread_start ?_) <;> walk_at "go")
  | ((with_reducible show PE _ (Expr.Attribute _ "end" _) _); (refine' pd_fld ?_ (by rfl) T.cl_Spread T.na_Spread_end ?_) <;> walk_at "go")
  | ((with_reducible show PE _ (Expr.Attribute _ "each" _) _); (refine' pd_fld ?_ (by rfl) T.cl_Spread T.na_Spread_each ?_) <;> walk_at "go")
  | ((with_reducible show PE _ (Expr.Attribute _ "length" _) _); (refine' pd_fld ?_ (by rfl) T.cl_Beam T.na_Beam_length ?_) <;> walk_at "go")
  | ((with_reducible show PE _ (Expr.Attribute _ "rests" _) _); (refine' pd_fld ?_ (by rfl) T.cl_Beam T.na_Beam_rests ?_) <;> walk_at "go"))
variable {P : Program} {w : World} {K : PySem.W.Frag} {mg : Str → Option Value} {base : Heap} {cs : Cs}
theorem ok_Beam_bears {f : Addr} {fd : FuncData} (F : Fun K "bears" "Beam.bears" s_Beam_bears f fd) (T : Tx K mg cs) (c_fraction : Cal P w K mg base "fraction" 2 P_fraction ((R_fraction cs))) (c_Beam_parted : CalM P w K mg base cs.Beam "parted" 3 P_Beam_parted ((R_parted cs))) : FnOk P w K mg base (L2.CX P w) 4 f fd P_Beam_bears (spN K (R_bears cs)) := by
  refine def_okN F sc_Beam_bears (fun ds r h => ?_) (by decide) (fun cdv A outer s H E ds r hr h => ?_)
  · obtain ⟨L, ρ, ls, dl, _, rfl, _⟩ := h; rfl
  · obtain ⟨L, ρ, ls, dl, hq, rfl, hrs, hbr, hls, h⟩ := h
    have nd := sc_Beam_bears.nd
    have hb := bot_pos hrs
    have bb := bot_bd hbr
    refine pss_hd rfl ?_
    rcases h with ⟨hall, rfl⟩ | ⟨hall, rfl⟩
    · refine pss_seq (psd_unpack (js := [2, 3]) (pd_meth c_Beam_parted (by walk_at "nm") hr (by decide) (by walk_at "ar") rfl ⟨L, ρ, ls, dl, hq, rfl, hrs, hbr, hls, .inl ⟨hall, rfl⟩⟩) (pgd_tup rfl (pgsd_cons (by walk_at "tgn") (pgsd_cons (by walk_at "tgn") pgsd_nil)) rfl)) ?_
      refine pss_end (psd_retN (pn_lcI (own := [("number", 4)]) (es := bearsD ρ ls) (fun _ x => (wipeD _ [4]).set 4 (some x)) rfl nd (pid_list (by walk_at "nm") rfl) (blkOk_by (N := N_Beam_bears) (sc := defScope s_Beam_bears) (by decide +kernel)) (fun i x hx s H C cl fp => by walk_at "tgn") (fun i x y hx hy s H C cl fp => ?_) (by simp [bearsD]) ?_)) True.intro
      · obtain ⟨n, hn, rfl, rfl⟩ := nums_two hx hy
        have bn := nums_bd hbr hls n hn
        have hb0 : bot ρ ≠ 0 := by omega
        walk_at "ev"
      · rw [List.length_map, nums_len hrs]
        cases hrs <;> exact Nat.le_of_ble_eq_true rfl
    · exact pss_end (psx_unpack (g := tG K [2, 3] [some (bmD cs L ρ), some dl, none, none, none] [] (.tup [.non, .non]) [some (bmD cs L ρ), some dl, some .non, some .non, none]) (px_meth c_Beam_parted (L2.passes_call (L2.takes_of rfl rfl rfl rfl) (fun _ _ _ _ h => h)) (by walk_at "nm") hr (by decide) (by walk_at "ar") rfl ⟨L, ρ, ls, dl, hq, rfl, hrs, hbr, hls, .inr ⟨hall, rfl⟩⟩) (pgd_tup (xs := [.non, .non]) rfl (pgsd_cons (by walk_at "tgn") (pgsd_cons (by walk_at "tgn") pgsd_nil)) rfl)) True.intro
theorem cal_Beam_bears {f : Addr} {fd : FuncData} (F : Fun K "bears" "Beam.bears" s_Beam_bears f fd) (M : Meth K cs.Beam "bears" f) (T : Tx K mg cs) (c_fraction : Cal P w K mg base "fraction" 2 P_fraction ((R_fraction cs))) (c_Beam_parted : CalM P w K mg base cs.Beam "parted" 3 P_Beam_parted ((R_parted cs))) : CalNM P w K mg base cs.Beam "bears" 4 P_Beam_bears ((R_bears cs)) := ⟨T.cl_Beam, f, fd, ok_Beam_bears F T c_fraction c_Beam_parted, M, F.binds fun _ _ _ _ _ _ us hl => match us, hl with | [_, _], _ => rfl⟩
end
section
set_option hygiene false in
local macro_rules | `(tactic| walk_at "nm") => `(tactic| first
  | ((with_reducible refine' pd_var (x := "beam") 0 ?_ ?_ ?_ ?_ ?_) <;> first | (with_reducible show D) | ((with_reducible show Vis _ _); first | exact .inl rfl | exact .inr (.inl rfl) | exact .inr (.inr rfl)) | ((with_reducible show (_ == _) = false); decide) | rfl)
  | ((with_reducible refine' pd_var (x := "parted") 1 ?_ ?_ ?_ ?_ ?_) <;> first | (with_reducible show D) | ((with_reducible show Vis _ _); first | exact .inl rfl | exact .inr (.inl rfl) | exact .inr (.inr rfl)) | ((with_reducible show (_ == _) = false); decide) | rfl)
  | ((with_reducible refine' pd_var (x := "loads") 2 ?_ ?_ ?_ ?_ ?_) <;> first | (with_reducible show D) | ((with_reducible show Vis _ _); first | exact .inl rfl | exact .inr (.inl rfl) | exact .inr (.inr rfl)) | ((with_reducible show (_ == _) = false); decide) | rfl)
  | ((with_reducible refine' pd_var (x := "x") 3 ?_ ?_ ?_ ?_ ?_) <;> first | (with_reducible show D) | ((with_reducible show Vis _ _); first | exact .inl rfl | exact .inr (.inl rfl) | exact .inr (.inr rfl)) | ((with_reducible show (_ == _) = false); decide) | rfl)
  | ((with_reducible refine' pd_var (x := "numbers") 4 ?_ ?_ ?_ ?_ ?_) <;> first | (with_reducible show D) | ((with_reducible show Vis _ _); first | exact .inl rfl | exact .inr (.inl rfl) | exact .inr (.inr rfl)) | ((with_reducible show (_ == _) = false); decide) | rfl)
  | ((with_reducible refine' pd_var (x := "bottom") 5 ?_ ?_ ?_ ?_ ?_) <;> first | (with_reducible show D) | ((with_reducible show Vis _ _); first | exact .inl rfl | exact .inr (.inl rfl) | exact .inr (.inr rfl)) | ((with_reducible show (_ == _) = false); decide) | rfl)
  | ((with_reducible refine' pd_var (x := "top") 6 ?_ ?_ ?_ ?_ ?_) <;> first | (with_reducible show D) | ((with_reducible show Vis _ _); first | exact .inl rfl | exact .inr (.inl rfl) | exact .inr (.inr rfl)) | ((with_reducible show (_ == _) = false); decide) | rfl)
  | ((with_reducible refine' pd_var (x := "rest") 7 ?_ ?_ ?_ ?_ ?_) <;> first | (with_reducible show D) | ((with_reducible show Vis _ _); first | exact .inl rfl | exact .inr (.inl rfl) | exact .inr (.inr rfl)) | ((with_reducible show (_ == _) = false); decide) | rfl)
  | ((with_reducible refine' pd_var (x := "number") 8 ?_ ?_ ?_ ?_ ?_) <;> first | (with_reducible show D) | ((with_reducible show Vis _ _); first | exact .inl rfl | exact .inr (.inl rfl) | exact .inr (.inr rfl)) | ((with_reducible show (_ == _) = false); decide) | rfl)
  | ((with_reducible refine' pd_var (x := "load") 9 ?_ ?_ ?_ ?_ ?_) <;> first | (with_reducible show D) | ((with_reducible show Vis _ _); first | exact .inl rfl | exact .inr (.inl rfl) | exact .inr (.inr rfl)) | ((with_reducible show (_ == _) = false); decide) | rfl))
set_option hygiene false in
local macro_rules | `(tactic| walk_at "set") => `(tactic| first
  | ((with_reducible show PSs _ (Stmt.Assign [Expr.Name "beam" _] _ _ :: _) _); refine' pss_seq (psd_set 0 nd (by rfl) (by first | exact .inl rfl | exact .inr rfl) ?_ (by rfl) (by first | exact .inr rfl | exact .inl rfl)) ?_)
  | ((with_reducible show PSs _ (Stmt.Assign [Expr.Name "parted" _] _ _ :: _) _); refine' pss_seq (psd_set 1 nd (by rfl) (by first | exact .inl rfl | exact .inr rfl) ?_ (by rfl) (by first | exact .inr rfl | exact .inl rfl)) ?_)
  | ((with_reducible show PSs _ (Stmt.Assign [Expr.Name "loads" _] _ _ :: _) _); refine' pss_seq (psd_set 2 nd (by rfl) (by first | exact .inl rfl | exact .inr rfl) ?_ (by rfl) (by first | exact .inr rfl | exact .inl rfl)) ?_)
  | ((with_reducible show PSs _ (Stmt.Assign [Expr.Name "x" _] _ _ :: _) _); refine' pss_seq (psd_set 3 nd (by rfl) (by first | exact .inl rfl | exact .inr rfl) ?_ (by rfl) (by first | exact .inr rfl | exact .inl rfl)) ?_)
  | ((with_reducible show PSs _ (Stmt.Assign [Expr.Name "numbers" _] _ _ :: _) _); refine' pss_seq (psd_set 4 nd (by rfl) (by first | exact .inl rfl | exact .inr rfl) ?_ (by rfl) (by first | exact .inr rfl | exact .inl rfl)) ?_)
  | ((with_reducible show PSs _ (Stmt.Assign [Expr.Name "bottom" _] _ _ :: _) _); refine' pss_seq (psd_set 5 nd (by rfl) (by first | exact .inl rfl | exact .inr rfl) ?_ (by rfl) (by first | exact .inr rfl | exact .inl rfl)) ?_)
  | ((with_reducible show PSs _ (Stmt.Assign [Expr.Name "top" _] _ _ :: _) _); refine' pss_seq (psd_set 6 nd (by rfl) (by first | exact .inl rfl | exact .inr rfl) ?_ (by rfl) (by first | exact .inr rfl | exact .inl rfl)) ?_)
  | ((with_reducible show PSs _ (Stmt.Assign [Expr.Name "rest" _] _ _ :: _) _); refine' pss_seq (psd_set 7 nd (by rfl) (by first | exact .inl rfl | exact .inr rfl) ?_ (by rfl) (by first | exact .inr rfl | exact .inl rfl)) ?_)
  | ((with_reducible show PSs _ (Stmt.Assign [Expr.Name "number" _] _ _ :: _) _); refine' pss_seq (psd_set 8 nd (by rfl) (by first | exact .inl rfl | exact .inr rfl) ?_ (by rfl) (by first | exact .inr rfl | exact .inl rfl)) ?_)
  | ((with_reducible show PSs _ (Stmt.Assign [Expr.Name "load" _] _ _ :: _) _); refine' pss_seq (psd_set 9 nd (by rfl) (by first | exact .inl rfl | exact .inr rfl) ?_ (by rfl) (by first | exact .inr rfl | exact .inl rfl)) ?_))
set_option hygiene false in
local macro_rules | `(tactic| walk_at "aug") => `(tactic| first
  | ((with_reducible show PSs _ (Stmt.AugAssign (Expr.Name "beam" _) _ _ _ :: _) _); first | refine' pss_seq (psd_aug 0 nd (by rfl) (by first | exact .inl rfl | exact .inr rfl) L2.ip_add (by rfl) ?_ (by first | exact .inr rfl | exact .inl rfl)) ?s2 | refine' pss_seq (psd_aug 0 nd (by rfl) (by first | exact .inl rfl | exact .inr rfl) L2.ip_sub (by rfl) ?_ (by first | exact .inr rfl | exact .inl rfl)) ?_)
  | ((with_reducible show PSs _ (Stmt.AugAssign (Expr.Name "parted" _) _ _ _ :: _) _); first | refine' pss_seq (psd_aug 1 nd (by rfl) (by first | exact .inl rfl | exact .inr rfl) L2.ip_add (by rfl) ?_ (by first | exact .inr rfl | exact .inl rfl)) ?s2 | refine' pss_seq (psd_aug 1 nd (by rfl) (by first | exact .inl rfl | exact .inr rfl) L2.ip_sub (by rfl) ?_ (by first | exact .inr rfl | exact .inl rfl)) ?_)
  | ((with_reducible show PSs _ (Stmt.AugAssign (Expr.Name "loads" _) _ _ _ :: _) _); first | refine' pss_seq (psd_aug 2 nd (by rfl) (by first | exact .inl rfl | exact .inr rfl) L2.ip_add (by rfl) ?_ (by first | exact .inr rfl | exact .inl rfl)) ?s2 | refine' pss_seq (psd_aug 2 nd (by rfl) (by first | exact .inl rfl | exact .inr rfl) L2.ip_sub (by rfl) ?_ (by first | exact .inr rfl | exact .inl rfl)) ?_)
  | ((with_reducible show PSs _ (Stmt.AugAssign (Expr.Name "x" _) _ _ _ :: _) _); first | refine' pss_seq (psd_aug 3 nd (by rfl) (by first | exact .inl rfl | exact .inr rfl) L2.ip_add (by rfl) ?_ (by first | exact .inr rfl | exact .inl rfl)) ?s2 | refine' pss_seq (psd_aug 3 nd (by rfl) (by first | exact .inl rfl | exact .inr rfl) L2.ip_sub (by rfl) ?_ (by first | exact .inr rfl | exact .inl rfl)) ?_)
  | ((with_reducible show PSs _ (Stmt.AugAssign (Expr.Name "numbers" _) _ _ _ :: _) _); first | refine' pss_seq (psd_aug 4 nd (by rfl) (by first | exact .inl rfl | exact .inr rfl) L2.ip_add (by rfl) ?_ (by first | exact .inr rfl | exact .inl rfl)) ?s2 | refine' pss_seq (psd_aug 4 nd (by rfl) (by first | exact .inl rfl | exact .inr rfl) L2.ip_sub (by rfl) ?_ (by first | exact .inr rfl | exact .inl rfl)) ?_)
  | ((with_reducible show PSs _ (Stmt.AugAssign (Expr.Name "bottom" _) _ _ _ :: _) _); first | refine' pss_seq (psd_aug 5 nd (by rfl) (by first | exact .inl rfl | exact .inr rfl) L2.ip_add (by rfl) ?_ (by first | exact .inr rfl | exact .inl rfl)) ?s2 | refine' pss_seq (psd_aug 5 nd (by rfl) (by first | exact .inl rfl | exact .inr rfl) L2.ip_sub (by rfl) ?_ (by first | exact .inr rfl | exact .inl rfl)) ?_)
  | ((with_reducible show PSs _ (Stmt.AugAssign (Expr.Name "top" _) _ _ _ :: _) _); first | refine' pss_seq (psd_aug 6 nd (by rfl) (by first | exact .inl rfl | exact .inr rfl) L2.ip_add (by rfl) ?_ (by first | exact .inr rfl | exact .inl rfl)) ?s2 | refine' pss_seq (psd_aug 6 nd (by rfl) (by first | exact .inl rfl | exact .inr rfl) L2.ip_sub (by rfl) ?_ (by first | exact .inr rfl | exact .inl rfl)) ?_)
  | ((with_reducible show PSs _ (Stmt.AugAssign (Expr.Name "rest" _) _ _ _ :: _) _); first | refine' pss_seq (psd_aug 7 nd (by rfl) (by first | exact .inl rfl | exact .inr rfl) L2.ip_add (by rfl) ?_ (by first | exact .inr rfl | exact .inl rfl)) ?s2 | refine' pss_seq (psd_aug 7 nd (by rfl) (by first | exact .inl rfl | exact .inr rfl) L2.ip_sub (by rfl) ?_ (by first | exact .inr rfl | exact .inl rfl)) ?_)
  | ((with_reducible show PSs _ (Stmt.AugAssign (Expr.Name "number" _) _ _ _ :: _) _); first | refine' pss_seq (psd_aug 8 nd (by rfl) (by first | exact .inl rfl | exact .inr rfl) L2.ip_add (by rfl) ?_ (by first | exact .inr rfl | exact .inl rfl)) ?s2 | refine' pss_seq (psd_aug 8 nd (by rfl) (by first | exact .inl rfl | exact .inr rfl) L2.ip_sub (by rfl) ?_ (by first | exact .inr rfl | exact .inl rfl)) ?_)
  | ((with_reducible show PSs _ (Stmt.AugAssign (Expr.Name "load" _) _ _ _ :: _) _); first | refine' pss_seq (psd_aug 9 nd (by rfl) (by first | exact .inl rfl | exact .inr rfl) L2.ip_add (by rfl) ?_ (by first | exact .inr rfl | exact .inl rfl)) ?s2 | refine' pss_seq (psd_aug 9 nd (by rfl) (by first | exact .inl rfl | exact .inr rfl) L2.ip_sub (by rfl) ?_ (by first | exact .inr rfl | exact .inl rfl)) ?_))
set_option hygiene false in
local macro_rules | `(tactic| walk_at "tgn") => `(tactic| first
  | ((with_reducible show PG _ (Expr.Name "beam" _) _); refine' pgd_name 0 nd (by rfl) (by first | exact .inl rfl | exact .inr rfl) (by first | exact .inr rfl | exact .inl rfl) (by first | decide | simp))
  | ((with_reducible show PG _ (Expr.Name "parted" _) _); refine' pgd_name 1 nd (by rfl) (by first | exact .inl rfl | exact .inr rfl) (by first | exact .inr rfl | exact .inl rfl) (by first | decide | simp))
  | ((with_reducible show PG _ (Expr.Name "loads" _) _); refine' pgd_name 2 nd (by rfl) (by first | exact .inl rfl | exact .inr rfl) (by first | exact .inr rfl | exact .inl rfl) (by first | decide | simp))
  | ((with_reducible show PG _ (Expr.Name "x" _) _); refine' pgd_name 3 nd (by rfl) (by first | exact .inl rfl | exact .inr rfl) (by first | exact .inr rfl | exact .inl rfl) (by first | decide | simp))
  | ((with_reducible show PG _ (Expr.Name "numbers" _) _); refine' pgd_name 4 nd (by rfl) (by first | exact .inl rfl | exact .inr rfl) (by first | exact .inr rfl | exact .inl rfl) (by first | decide | simp))
  | ((with_reducible show PG _ (Expr.Name "bottom" _) _); refine' pgd_name 5 nd (by rfl) (by first | exact .inl rfl | exact .inr rfl) (by first | exact .inr rfl | exact .inl rfl) (by first | decide | simp))
  | ((with_reducible show PG _ (Expr.Name "top" _) _); refine' pgd_name 6 nd (by rfl) (by first | exact .inl rfl | exact .inr rfl) (by first | exact .inr rfl | exact .inl rfl) (by first | decide | simp))
  | ((with_reducible show PG _ (Expr.Name "rest" _) _); refine' pgd_name 7 nd (by rfl) (by first | exact .inl rfl | exact .inr rfl) (by first | exact .inr rfl | exact .inl rfl) (by first | decide | simp))
  | ((with_reducible show PG _ (Expr.Name "number" _) _); refine' pgd_name 8 nd (by rfl) (by first | exact .inl rfl | exact .inr rfl) (by first | exact .inr rfl | exact .inl rfl) (by first | decide | simp))
  | ((with_reducible show PG _ (Expr.Name "load" _) _); refine' pgd_name 9 nd (by rfl) (by first | exact .inl rfl | exact .inr rfl) (by first | exact .inr rfl | exact .inl rfl) (by first | decide | simp)))
set_option hygiene false in
local macro_rules | `(tactic| walk_at "cl") => `(tactic| first
  | ((with_reducible show PE _ (Expr.Call (Expr.Name "fraction" _) _ _ _) _); (refine' pd_call c_fraction hr (by decide) (by rfl) ?_ ⟨_, _, rfl, .inr ⟨?_, ?_, rfl⟩⟩) <;> walk_at "go")
  | ((with_reducible show PE _ (Expr.Call (Expr.Attribute _ "left_part" _) _ _ _) _); (refine' pm_left_part c_Weight_left_part c_Spread_left_part ?_ hr (by decide) (by decide) ?_ ?_ ?_ ?_) <;> walk_at "go"))
set_option hygiene false in
local macro_rules | `(tactic| walk_at "fld") => `(tactic| first
  | ((with_reducible show PE _ (Expr.Attribute _ "place" _) _); (refine' pd_fld ?_ (by rfl) T.cl_Weight T.na_Weight_place ?_) <;> walk_at "go")
  | ((with_reducible show PE _ (Expr.Attribute _ "size" _) _); (refine' pd_fld ?_ (by rfl) T.cl_Weight T.na_Weight_size ?_) <;> walk_at "go")
  | ((with_reducible show PE _ (Expr.Attribute _ "start" _) _); (refine' pd_fld ?_ (by rfl) T.cl_Spread T.na_Spread_start ?_) <;> walk_at "go")
  | ((with_reducible show PE _ (Expr.Attribute _ "end" _) _); (refine' pd_fld ?_ (by rfl) T.cl_Spread T.na_Spread_end ?_) <;> walk_at "go")
  | ((with_reducible show PE _ (Expr.Attribute _ "each" _) _); (refine' pd_fld ?_ (by rfl) T.cl_Spread T.na_Spread_each ?_) <;> walk_at "go")
  | ((with_reducible show PE _ (Expr.Attribute _ "length" _) _); (refine' pd_fld ?_ (by rfl) T.cl_Beam T.na_Beam_length ?_) <;> walk_at "go")
  | ((with_reducible show PE _ (Expr.Attribute _ "rests" _) _); (refine' pd_fld ?_ (by rfl) T.cl_Beam T.na_Beam_rests ?_) <;> walk_at "go"))
variable {P : Program} {w : World} {K : PySem.W.Frag} {mg : Str → Option Value} {base : Heap} {cs : Cs}
theorem ok_within {f : Addr} {fd : FuncData} (F : Fun K "within" "within" s_within f fd) (T : Tx K mg cs) (c_fraction : Cal P w K mg base "fraction" 2 P_fraction ((R_fraction cs))) (c_Weight_left_part : CalM P w K mg base cs.Weight "left_part" 1 P_Weight_left_part ((R_left_part cs isW))) (c_Spread_left_part : CalM P w K mg base cs.Spread "left_part" 1 P_Spread_left_part ((R_left_part cs isS))) : FnOk P w K mg base (L2.CX P w) 3 f fd P_within (spD K (R_within cs)) := by
  refine def_ok F sc_within (fun ds r h => ?_) (by decide) (fun cdv A outer s H E ds r hr h => ?_)
  · obtain ⟨L, ρ, ls, dl, t, d, _, rfl, _⟩ := h; rfl
  · obtain ⟨L, ρ, ls, dl, t, d, hq, rfl, hrs, hbr, hls, hd, bt, bd, rfl⟩ := h
    have nd := sc_within.nd
    have h0 := bot_pos hrs
    have bb := bot_bd hbr
    refine pss_hd rfl ?_
    refine pss_seq (psd_unpack (js := [4, 5]) (by walk_at "nm") (pgd_tup rfl (pgsd_cons (by walk_at "tgn") (pgsd_cons (by walk_at "tgn") pgsd_nil)) rfl)) ?_
    walk_at "run"
    refine pss_seq (psd_forT (js := [7, 8]) (fun i => [some (bmD cs L ρ), some (parD ρ ls), some dl, some (.tup [.int t, .int d]), some (.lst ((nums ρ ls).map D.int)), some (.int (bot ρ)), some (.int (wSum t d ((ρ.zip (nums ρ ls)).take i))), none, none, none]) (fun _ => [])
      (fun i x => match x with | .tup [u, v] => [some (bmD cs L ρ), some (parD ρ ls), some dl, some (.tup [.int t, .int d]), some (.lst ((nums ρ ls).map D.int)), some (.int (bot ρ)), some (.int (wSum t d ((ρ.zip (nums ρ ls)).take i))), some u, some v, none] | _ => []) (L2.passes_of (by rfl)) rfl (pid_mz (by rfl) T.n_zip (by walk_at "ev") (by walk_at "nm") rfl) (Wk.refl _) rfl (fun i x hx => ?_) (fun i x hx => ?_)) ?_
    · obtain ⟨p, n, hpn, hp, hn, rfl⟩ := zipn_get hx
      exact pgd_tup rfl (pgsd_cons (by walk_at "tgn") (pgsd_cons (by walk_at "tgn") pgsd_nil)) rfl
    · obtain ⟨p, n, hpn, hp, hn, rfl⟩ := zipn_get hx
      have bn := nums_bd hbr hls n hn
      have bp := hbr p hp
      refine pss_wk (δ' := [some (bmD cs L ρ), some (parD ρ ls), some dl, some (.tup [.int t, .int d]), some (.lst ((nums ρ ls).map D.int)), some (.int (bot ρ)), some (.int (wSum t d ((ρ.zip (nums ρ ls)).take i) + 2 * d * n * imax 0 (t - p * d))), some (.int p), some (.int n), none]) (by walk_at "run"; exact pss_nilD) ?_
      rw [show wSum t d ((ρ.zip (nums ρ ls)).take (i + 1)) = wSum t d ((ρ.zip (nums ρ ls)).take i) + 2 * d * n * pz (t - p * d) from sumF_take hpn]
      exact .same (.same (.same (.same (.same (.same (.same (.drop (.drop (.same .nil)))))))))
    rw [zipn_len, List.take_length]
    refine pss_hd rfl ?_
    refine pss_seq (psd_forT (js := [9]) (fun i => [some (bmD cs L ρ), some (parD ρ ls), some dl, some (.tup [.int t, .int d]), some (.lst ((nums ρ ls).map D.int)), some (.int (bot ρ)), some (.int (wSum t d (ρ.zip (nums ρ ls)) - bot ρ * su (fun r => lft r t d) (ls.take i))), none, none, none]) (fun _ => [])
      (fun i x => [some (bmD cs L ρ), some (parD ρ ls), some dl, some (.tup [.int t, .int d]), some (.lst ((nums ρ ls).map D.int)), some (.int (bot ρ)), some (.int (wSum t d (ρ.zip (nums ρ ls)) - bot ρ * su (fun r => lft r t d) (ls.take i))), none, none, some x]) (L2.passes_of (by rfl)) rfl (pid_list (by walk_at "nm") hq) ?_ rfl (fun i x hx => by walk_at "tgn") (fun i x hx => ?_)) ?_
    · simp only [List.take_zero, su_nil, Int.mul_zero, Int.sub_zero]
      exact Wk.refl _
    · obtain ⟨w, hi, hm, rfl⟩ := lds_get hx
      have hw := hls.bw w hm
      have bl : Bd 4330 (lft w t d) := lft_bd hw bt bd (by decide)
      refine pss_wk (δ' := [some (bmD cs L ρ), some (parD ρ ls), some dl, some (.tup [.int t, .int d]), some (.lst ((nums ρ ls).map D.int)), some (.int (bot ρ)), some (.int (wSum t d (ρ.zip (nums ρ ls)) - bot ρ * su (fun r => lft r t d) (ls.take i) - bot ρ * lft w t d)), none, none, some (ldD cs w)]) (by walk_at "run"; exact pss_nilD) ?_
      rw [su_take hi, Int.mul_add, ← Int.sub_sub]
      exact .same (.same (.same (.same (.same (.same (.same (.same (.same (.drop .nil)))))))))
    rw [ldsD_len, List.take_length, show wSum t d (ρ.zip (nums ρ ls)) - bot ρ * su (fun r => lft r t d) ls = tl ρ ls (nums ρ ls) (bot ρ) t d from by unfold tl; rw [← sum_zs]]
    refine pss_hd rfl ?_
    have hne : 2 * d * d * bot ρ ≠ 0 := Int.mul_ne_zero (Int.mul_ne_zero (by omega) (by omega)) (by omega)
    walk_at "run"
theorem cal_within {f : Addr} {fd : FuncData} (F : Fun K "within" "within" s_within f fd) (hm : mg "within" = some (.ref f)) (T : Tx K mg cs) (c_fraction : Cal P w K mg base "fraction" 2 P_fraction ((R_fraction cs))) (c_Weight_left_part : CalM P w K mg base cs.Weight "left_part" 1 P_Weight_left_part ((R_left_part cs isW))) (c_Spread_left_part : CalM P w K mg base cs.Spread "left_part" 1 P_Spread_left_part ((R_left_part cs isS))) : Cal P w K mg base "within" 3 P_within ((R_within cs)) := ⟨f, fd, ok_within F T c_fraction c_Weight_left_part c_Spread_left_part, hm, F.kp, F.binds fun _ _ _ _ _ _ us hl => match us, hl with | [_, _, _, _], _ => rfl⟩
end
section
set_option hygiene false in
local macro_rules | `(tactic| walk_at "nm") => `(tactic| first
  | ((with_reducible refine' pd_var (x := "beam") 0 ?_ ?_ ?_ ?_ ?_) <;> first | (with_reducible show D) | ((with_reducible show Vis _ _); first | exact .inl rfl | exact .inr (.inl rfl) | exact .inr (.inr rfl)) | ((with_reducible show (_ == _) = false); decide) | rfl)
  | ((with_reducible refine' pd_var (x := "loads") 1 ?_ ?_ ?_ ?_ ?_) <;> first | (with_reducible show D) | ((with_reducible show Vis _ _); first | exact .inl rfl | exact .inr (.inl rfl) | exact .inr (.inr rfl)) | ((with_reducible show (_ == _) = false); decide) | rfl)
  | ((with_reducible refine' pd_var (x := "x") 2 ?_ ?_ ?_ ?_ ?_) <;> first | (with_reducible show D) | ((with_reducible show Vis _ _); first | exact .inl rfl | exact .inr (.inl rfl) | exact .inr (.inr rfl)) | ((with_reducible show (_ == _) = false); decide) | rfl))
set_option hygiene false in
local macro_rules | `(tactic| walk_at "set") => `(tactic| first
  | ((with_reducible show PSs _ (Stmt.Assign [Expr.Name "beam" _] _ _ :: _) _); refine' pss_seq (psd_set 0 nd (by rfl) (by first | exact .inl rfl | exact .inr rfl) ?_ (by rfl) (by first | exact .inr rfl | exact .inl rfl)) ?_)
  | ((with_reducible show PSs _ (Stmt.Assign [Expr.Name "loads" _] _ _ :: _) _); refine' pss_seq (psd_set 1 nd (by rfl) (by first | exact .inl rfl | exact .inr rfl) ?_ (by rfl) (by first | exact .inr rfl | exact .inl rfl)) ?_)
  | ((with_reducible show PSs _ (Stmt.Assign [Expr.Name "x" _] _ _ :: _) _); refine' pss_seq (psd_set 2 nd (by rfl) (by first | exact .inl rfl | exact .inr rfl) ?_ (by rfl) (by first | exact .inr rfl | exact .inl rfl)) ?_))
set_option hygiene false in
local macro_rules | `(tactic| walk_at "aug") => `(tactic| first
  | ((with_reducible show PSs _ (Stmt.AugAssign (Expr.Name "beam" _) _ _ _ :: _) _); first | refine' pss_seq (psd_aug 0 nd (by rfl) (by first | exact .inl rfl | exact .inr rfl) L2.ip_add (by rfl) ?_ (by first | exact .inr rfl | exact .inl rfl)) ?s2 | refine' pss_seq (psd_aug 0 nd (by rfl) (by first | exact .inl rfl | exact .inr rfl) L2.ip_sub (by rfl) ?_ (by first | exact .inr rfl | exact .inl rfl)) ?_)
  | ((with_reducible show PSs _ (Stmt.AugAssign (Expr.Name "loads" _) _ _ _ :: _) _); first | refine' pss_seq (psd_aug 1 nd (by rfl) (by first | exact .inl rfl | exact .inr rfl) L2.ip_add (by rfl) ?_ (by first | exact .inr rfl | exact .inl rfl)) ?s2 | refine' pss_seq (psd_aug 1 nd (by rfl) (by first | exact .inl rfl | exact .inr rfl) L2.ip_sub (by rfl) ?_ (by first | exact .inr rfl | exact .inl rfl)) ?_)
  | ((with_reducible show PSs _ (Stmt.AugAssign (Expr.Name "x" _) _ _ _ :: _) _); first | refine' pss_seq (psd_aug 2 nd (by rfl) (by first | exact .inl rfl | exact .inr rfl) L2.ip_add (by rfl) ?_ (by first | exact .inr rfl | exact .inl rfl)) ?s2 | refine' pss_seq (psd_aug 2 nd (by rfl) (by first | exact .inl rfl | exact .inr rfl) L2.ip_sub (by rfl) ?_ (by first | exact .inr rfl | exact .inl rfl)) ?_))
set_option hygiene false in
local macro_rules | `(tactic| walk_at "tgn") => `(tactic| first
  | ((with_reducible show PG _ (Expr.Name "beam" _) _); refine' pgd_name 0 nd (by rfl) (by first | exact .inl rfl | exact .inr rfl) (by first | exact .inr rfl | exact .inl rfl) (by first | decide | simp))
  | ((with_reducible show PG _ (Expr.Name "loads" _) _); refine' pgd_name 1 nd (by rfl) (by first | exact .inl rfl | exact .inr rfl) (by first | exact .inr rfl | exact .inl rfl) (by first | decide | simp))
  | ((with_reducible show PG _ (Expr.Name "x" _) _); refine' pgd_name 2 nd (by rfl) (by first | exact .inl rfl | exact .inr rfl) (by first | exact .inr rfl | exact .inl rfl) (by first | decide | simp)))

set_option hygiene false in
local macro_rules | `(tactic| walk_at "fld") => `(tactic| first
  | ((with_reducible show PE _ (Expr.Attribute _ "place" _) _); (refine' pd_fld ?_ (by rfl) T.cl_Weight T.na_Weight_place ?_) <;> walk_at "go")
  | ((with_reducible show PE _ (Expr.Attribute _ "size" _) _); (refine' pd_fld ?_ (by rfl) T.cl_Weight T.na_Weight_size ?_) <;> walk_at "go")
  | ((with_reducible show PE _ (Expr.Attribute _ "start" _) _); (refine' pd_fld ?_ (by rfl) T.cl_Spread T.na_Spread_start ?_) <;> walk_at "go")
  | ((with_reducible show PE _ (Expr.Attribute _ "end" _) _); (refine' pd_fld ?_ (by rfl) T.cl_Spread T.na_Spread_end ?_) <;> walk_at "go")
  | ((with_reducible show PE _ (Expr.Attribute _ "each" _) _); (refine' pd_fld ?_ (by rfl) T.cl_Spread T.na_Spread_each ?_) <;> walk_at "go")
  | ((with_reducible show PE _ (Expr.Attribute _ "length" _) _); (refine' pd_fld ?_ (by rfl) T.cl_Beam T.na_Beam_length ?_) <;> walk_at "go")
  | ((with_reducible show PE _ (Expr.Attribute _ "rests" _) _); (refine' pd_fld ?_ (by rfl) T.cl_Beam T.na_Beam_rests ?_) <;> walk_at "go"))
variable {P : Program} {w : World} {K : PySem.W.Frag} {mg : Str → Option Value} {base : Heap} {cs : Cs}
theorem ok_turning {f : Addr} {fd : FuncData} (F : Fun K "turning" "turning" s_turning f fd) (T : Tx K mg cs) (c_Beam_parted : CalM P w K mg base cs.Beam "parted" 3 P_Beam_parted ((R_parted cs))) (c_within : Cal P w K mg base "within" 3 P_within ((R_within cs))) : FnOk P w K mg base (L2.CX P w) 4 f fd P_turning (spD K (R_turning cs)) := by
  refine def_ok F sc_turning (fun ds r h => ?_) (by decide) (fun cdv A outer s H E ds r hr h => ?_)
  · obtain ⟨L, ρ, ls, dl, t, d, _, rfl, _⟩ := h; rfl
  · obtain ⟨L, ρ, ls, dl, t, d, hq, rfl, hrs, hbr, bL, hls, hd, bt, bd, h⟩ := h
    have nd := sc_turning.nd
    refine pss_hd rfl ?_
    rcases h with ⟨hon, hall, rfl⟩ | ⟨hoff, rfl⟩
    · refine pss_seq (psd_ifF (by walk_at "tv") (by omega) pss_nilD) ?_
      refine pss_end (psd_ret (pd_call c_within hr (by decide) (by rfl) (pas_cons (by walk_at "nm") (pas_cons (pd_meth c_Beam_parted (by walk_at "nm") hr (by decide) (by walk_at "ar") rfl ⟨L, ρ, ls, dl, hq, rfl, hrs, hbr, hls, .inl ⟨hall, rfl⟩⟩) (by walk_at "ar"))) ⟨L, ρ, ls, dl, t, d, hq, rfl, hrs, hbr, hls, hd, bt, bd, rfl⟩)) True.intro
    · by_cases hon : 0 ≤ t ∧ t ≤ L * d
      · refine pss_seq (psd_ifF (by walk_at "tv") (by omega) pss_nilD) ?_
        have hall : ls.all (onB L) = false := by
          cases z : ls.all (onB L) with
          | false => rfl
          | true => exact absurd ⟨hon, z⟩ hoff
        exact pss_end (psx_ret (px_callA c_within (L2.passes_call (L2.takes_of rfl rfl rfl rfl) (fun _ _ _ _ h => h)) hr (by decide) (by rfl) (pax_next (by walk_at "nm") (pax_here (px_meth c_Beam_parted (L2.passes_call (L2.takes_of rfl rfl rfl rfl) (fun _ _ _ _ h => h)) (by walk_at "nm") hr (by decide) (by walk_at "ar") rfl ⟨L, ρ, ls, dl, hq, rfl, hrs, hbr, hls, .inr ⟨hall, rfl⟩⟩) (t := tAs K [some (bmD cs L ρ), some dl, some (.tup [.int t, .int d])] [] [dl, .tup [.int t, .int d]]) (by walk_at "ar"))))) True.intro
      · exact pss_end (psd_ifT (by walk_at "tv") (by omega) (pss_end (psd_raise rfl (L2.takes_of rfl rfl rfl rfl) (pmk_own PySem.F.excBase_ValueError T.x_OffBeam T.g_OffBeam T.k_OffBeam (raises_own T.b_OffBeam T.t_OffBeam) rfl)) True.intro)) True.intro
theorem cal_turning {f : Addr} {fd : FuncData} (F : Fun K "turning" "turning" s_turning f fd) (hm : mg "turning" = some (.ref f)) (T : Tx K mg cs) (c_Beam_parted : CalM P w K mg base cs.Beam "parted" 3 P_Beam_parted ((R_parted cs))) (c_within : Cal P w K mg base "within" 3 P_within ((R_within cs))) : Cal P w K mg base "turning" 4 P_turning ((R_turning cs)) := ⟨f, fd, ok_turning F T c_Beam_parted c_within, hm, F.kp, F.binds fun _ _ _ _ _ _ us hl => match us, hl with | [_, _, _], _ => rfl⟩
end
section
set_option hygiene false in
local macro_rules | `(tactic| walk_at "nm") => `(tactic| first
  | ((with_reducible refine' pd_var (x := "_law_script") 0 ?_ ?_ ?_ ?_ ?_) <;> first | (with_reducible show D) | ((with_reducible show Vis _ _); first | exact .inl rfl | exact .inr (.inl rfl) | exact .inr (.inr rfl)) | ((with_reducible show (_ == _) = false); decide) | rfl)
  | ((with_reducible refine' pd_var (x := "_law_k") 1 ?_ ?_ ?_ ?_ ?_) <;> first | (with_reducible show D) | ((with_reducible show Vis _ _); first | exact .inl rfl | exact .inr (.inl rfl) | exact .inr (.inr rfl)) | ((with_reducible show (_ == _) = false); decide) | rfl))
set_option hygiene false in
local macro_rules | `(tactic| walk_at "set") => `(tactic| first
  | ((with_reducible show PSs _ (Stmt.Assign [Expr.Name "_law_script" _] _ _ :: _) _); refine' pss_seq (psd_set 0 nd (by rfl) (by first | exact .inl rfl | exact .inr rfl) ?_ (by rfl) (by first | exact .inr rfl | exact .inl rfl)) ?_)
  | ((with_reducible show PSs _ (Stmt.Assign [Expr.Name "_law_k" _] _ _ :: _) _); refine' pss_seq (psd_set 1 nd (by rfl) (by first | exact .inl rfl | exact .inr rfl) ?_ (by rfl) (by first | exact .inr rfl | exact .inl rfl)) ?_))
set_option hygiene false in
local macro_rules | `(tactic| walk_at "aug") => `(tactic| first
  | ((with_reducible show PSs _ (Stmt.AugAssign (Expr.Name "_law_script" _) _ _ _ :: _) _); first | refine' pss_seq (psd_aug 0 nd (by rfl) (by first | exact .inl rfl | exact .inr rfl) L2.ip_add (by rfl) ?_ (by first | exact .inr rfl | exact .inl rfl)) ?s2 | refine' pss_seq (psd_aug 0 nd (by rfl) (by first | exact .inl rfl | exact .inr rfl) L2.ip_sub (by rfl) ?_ (by first | exact .inr rfl | exact .inl rfl)) ?_)
  | ((with_reducible show PSs _ (Stmt.AugAssign (Expr.Name "_law_k" _) _ _ _ :: _) _); first | refine' pss_seq (psd_aug 1 nd (by rfl) (by first | exact .inl rfl | exact .inr rfl) L2.ip_add (by rfl) ?_ (by first | exact .inr rfl | exact .inl rfl)) ?s2 | refine' pss_seq (psd_aug 1 nd (by rfl) (by first | exact .inl rfl | exact .inr rfl) L2.ip_sub (by rfl) ?_ (by first | exact .inr rfl | exact .inl rfl)) ?_))
set_option hygiene false in
local macro_rules | `(tactic| walk_at "tgn") => `(tactic| first
  | ((with_reducible show PG _ (Expr.Name "_law_script" _) _); refine' pgd_name 0 nd (by rfl) (by first | exact .inl rfl | exact .inr rfl) (by first | exact .inr rfl | exact .inl rfl) (by first | decide | simp))
  | ((with_reducible show PG _ (Expr.Name "_law_k" _) _); refine' pgd_name 1 nd (by rfl) (by first | exact .inl rfl | exact .inr rfl) (by first | exact .inr rfl | exact .inl rfl) (by first | decide | simp)))

set_option hygiene false in
local macro_rules | `(tactic| walk_at "fld") => `(tactic| first
  | ((with_reducible show PE _ (Expr.Attribute _ "place" _) _); (refine' pd_fld ?_ (by rfl) T.cl_Weight T.na_Weight_place ?_) <;> walk_at "go")
  | ((with_reducible show PE _ (Expr.Attribute _ "size" _) _); (refine' pd_fld ?_ (by rfl) T.cl_Weight T.na_Weight_size ?_) <;> walk_at "go")
  | ((with_reducible show PE _ (Expr.Attribute _ "start" _) _); (refine' pd_fld ?_ (by rfl) T.cl_Spread T.na_Spread_start ?_) <;> walk_at "go")
  | ((with_reducible show PE _ (Expr.Attribute _ "end" _) _); (refine' pd_fld ?_ (by rfl) T.cl_Spread T.na_Spread_end ?_) <;> walk_at "go")
  | ((with_reducible show PE _ (Expr.Attribute _ "each" _) _); (refine' pd_fld ?_ (by rfl) T.cl_Spread T.na_Spread_each ?_) <;> walk_at "go")
  | ((with_reducible show PE _ (Expr.Attribute _ "length" _) _); (refine' pd_fld ?_ (by rfl) T.cl_Beam T.na_Beam_length ?_) <;> walk_at "go")
  | ((with_reducible show PE _ (Expr.Attribute _ "rests" _) _); (refine' pd_fld ?_ (by rfl) T.cl_Beam T.na_Beam_rests ?_) <;> walk_at "go"))
variable {P : Program} {w : World} {K : PySem.W.Frag} {mg : Str → Option Value} {base : Heap} {cs : Cs}
theorem ok_l_cell_at {f : Addr} {fd : FuncData} (F : Fun K "_law_cell_at" "_law_cell_at" s_l_cell_at f fd) (T : Tx K mg cs) : FnOk P w K mg base (L2.CX P w) 1 f fd P_l_cell_at (spD K R_cell) := by
  refine def_ok F sc_l_cell_at (fun ds r h => ?_) (by decide) (fun cdv A outer s H E ds r hr h => ?_)
  · obtain ⟨a, b, rfl, _⟩ := h; rfl
  · obtain ⟨ns, k, rfl, hk, rfl⟩ := h
    obtain ⟨k, rfl⟩ := Int.eq_ofNat_of_zero_le hk
    unfold cell
    rw [Int.toNat_natCast]
    have nd := sc_l_cell_at.nd
    refine pss_hd rfl ?_
    have hl : (ns.map D.int).length = ns.length := List.length_map ..
    by_cases h : k < ns.length
    · refine pss_end (psd_ifT (by walk_at "tv") (by rw [hl]; omega) (pss_end (psd_ret (pd_ix (by walk_at "nm") (by walk_at "nm") (fun _ _ => rfl) rfl (atI_lit (v := D.int (ns.getD k 0)) ?_))) True.intro)) True.intro
      rw [List.getElem?_map, List.getD_eq_getElem?_getD]
      rw [List.getElem?_eq_getElem h]
      rfl
    · refine pss_seq (psd_ifF (by walk_at "tv") (by rw [hl]; omega) pss_nilD) ?_
      refine pss_end (psd_ret (pd_cast pd_int ?_)) True.intro
      rw [List.getD_eq_getElem?_getD, List.getElem?_eq_none (by omega)]
      rfl
theorem cal_l_cell_at {f : Addr} {fd : FuncData} (F : Fun K "_law_cell_at" "_law_cell_at" s_l_cell_at f fd) (hm : mg "_law_cell_at" = some (.ref f)) (T : Tx K mg cs) : Cal P w K mg base "_law_cell_at" 1 P_l_cell_at (R_cell) := ⟨f, fd, ok_l_cell_at F T, hm, F.kp, F.binds fun _ _ _ _ _ _ us hl => match us, hl with | [_, _], _ => rfl⟩
end
section
set_option hygiene false in
local macro_rules | `(tactic| walk_at "nm") => `(tactic| first
  | ((with_reducible refine' pd_var (x := "_law_one") 0 ?_ ?_ ?_ ?_ ?_) <;> first | (with_reducible show D) | ((with_reducible show Vis _ _); first | exact .inl rfl | exact .inr (.inl rfl) | exact .inr (.inr rfl)) | ((with_reducible show (_ == _) = false); decide) | rfl)
  | ((with_reducible refine' pd_var (x := "_law_other") 1 ?_ ?_ ?_ ?_ ?_) <;> first | (with_reducible show D) | ((with_reducible show Vis _ _); first | exact .inl rfl | exact .inr (.inl rfl) | exact .inr (.inr rfl)) | ((with_reducible show (_ == _) = false); decide) | rfl))
set_option hygiene false in
local macro_rules | `(tactic| walk_at "set") => `(tactic| first
  | ((with_reducible show PSs _ (Stmt.Assign [Expr.Name "_law_one" _] _ _ :: _) _); refine' pss_seq (psd_set 0 nd (by rfl) (by first | exact .inl rfl | exact .inr rfl) ?_ (by rfl) (by first | exact .inr rfl | exact .inl rfl)) ?_)
  | ((with_reducible show PSs _ (Stmt.Assign [Expr.Name "_law_other" _] _ _ :: _) _); refine' pss_seq (psd_set 1 nd (by rfl) (by first | exact .inl rfl | exact .inr rfl) ?_ (by rfl) (by first | exact .inr rfl | exact .inl rfl)) ?_))
set_option hygiene false in
local macro_rules | `(tactic| walk_at "aug") => `(tactic| first
  | ((with_reducible show PSs _ (Stmt.AugAssign (Expr.Name "_law_one" _) _ _ _ :: _) _); first | refine' pss_seq (psd_aug 0 nd (by rfl) (by first | exact .inl rfl | exact .inr rfl) L2.ip_add (by rfl) ?_ (by first | exact .inr rfl | exact .inl rfl)) ?s2 | refine' pss_seq (psd_aug 0 nd (by rfl) (by first | exact .inl rfl | exact .inr rfl) L2.ip_sub (by rfl) ?_ (by first | exact .inr rfl | exact .inl rfl)) ?_)
  | ((with_reducible show PSs _ (Stmt.AugAssign (Expr.Name "_law_other" _) _ _ _ :: _) _); first | refine' pss_seq (psd_aug 1 nd (by rfl) (by first | exact .inl rfl | exact .inr rfl) L2.ip_add (by rfl) ?_ (by first | exact .inr rfl | exact .inl rfl)) ?s2 | refine' pss_seq (psd_aug 1 nd (by rfl) (by first | exact .inl rfl | exact .inr rfl) L2.ip_sub (by rfl) ?_ (by first | exact .inr rfl | exact .inl rfl)) ?_))
set_option hygiene false in
local macro_rules | `(tactic| walk_at "tgn") => `(tactic| first
  | ((with_reducible show PG _ (Expr.Name "_law_one" _) _); refine' pgd_name 0 nd (by rfl) (by first | exact .inl rfl | exact .inr rfl) (by first | exact .inr rfl | exact .inl rfl) (by first | decide | simp))
  | ((with_reducible show PG _ (Expr.Name "_law_other" _) _); refine' pgd_name 1 nd (by rfl) (by first | exact .inl rfl | exact .inr rfl) (by first | exact .inr rfl | exact .inl rfl) (by first | decide | simp)))

set_option hygiene false in
local macro_rules | `(tactic| walk_at "fld") => `(tactic| first
  | ((with_reducible show PE _ (Expr.Attribute _ "place" _) _); (refine' pd_fld ?_ (by rfl) T.cl_Weight T.na_Weight_place ?_) <;> walk_at "go")
  | ((with_reducible show PE _ (Expr.Attribute _ "size" _) _); (refine' pd_fld ?_ (by rfl) T.cl_Weight T.na_Weight_size ?_) <;> walk_at "go")
  | ((with_reducible show PE _ (Expr.Attribute _ "start" _) _); (refine' pd_fld ?_ (by rfl) T.cl_Spread T.na_Spread_start ?_) <;> walk_at "go")
  | ((with_reducible show PE _ (Expr.Attribute _ "end" _) _); (refine' pd_fld ?_ (by rfl) T.cl_Spread T.na_Spread_end ?_) <;> walk_at "go")
  | ((with_reducible show PE _ (Expr.Attribute _ "each" _) _); (refine' pd_fld ?_ (by rfl) T.cl_Spread T.na_Spread_each ?_) <;> walk_at "go")
  | ((with_reducible show PE _ (Expr.Attribute _ "length" _) _); (refine' pd_fld ?_ (by rfl) T.cl_Beam T.na_Beam_length ?_) <;> walk_at "go")
  | ((with_reducible show PE _ (Expr.Attribute _ "rests" _) _); (refine' pd_fld ?_ (by rfl) T.cl_Beam T.na_Beam_rests ?_) <;> walk_at "go"))
variable {P : Program} {w : World} {K : PySem.W.Frag} {mg : Str → Option Value} {base : Heap} {cs : Cs}
theorem ok_l_divisor {f : Addr} {fd : FuncData} (F : Fun K "_law_divisor" "_law_divisor" s_l_divisor f fd) (T : Tx K mg cs) : FnOk P w K mg base (L2.CX P w) 1 f fd P_l_divisor (spD K R_divisor) := by
  refine def_ok F sc_l_divisor (fun ds r h => ?_) (by decide) (fun cdv A outer s H E ds r hr h => ?_)
  · obtain ⟨a, b, rfl, _⟩ := h; rfl
  · obtain ⟨a, b, rfl, rfl⟩ := h
    have nd := sc_l_divisor.nd
    refine pss_hd rfl ?_
    walk_at "run"
    refine pss_seq (psd_while (δf := [some (.int (gcdI a b)), some (.int 0)]) (fun δ m => ∃ x y : Int, 0 ≤ x ∧ 0 ≤ y ∧ m = y.toNat ∧ Int.gcd x y = Int.gcd a b ∧ δ = [some (.int x), some (.int y)]) (fun δ => ∃ x y : Int, 0 < y ∧ δ = [some (.int x), some (.int y)])
      (L2.passes_of (by rfl)) ⟨iabs a, iabs b, ?_, ?_, rfl, ?_, rfl⟩ ?_ ?_ ?_) ?_
    · rw [iabs_nat]; omega
    · rw [iabs_nat]; omega
    · rw [iabs_nat, iabs_nat]
      unfold Int.gcd
      rw [Int.natAbs_natCast, Int.natAbs_natCast]
    · rintro δ m ⟨x, y, hx, hy, rfl, hg, rfl⟩
      refine ptd_iff (ptd_gt (by walk_at "nm") pd_int) ⟨fun h => ⟨x, y, h, rfl⟩, fun ⟨x', y', h, q⟩ => ?_⟩
      simp at q
      omega
    · rintro δ m ⟨x, y, hx, hy, rfl, hg, rfl⟩ ⟨x', y', h, q⟩
      have h0 : 0 < y := by
        simp at q
        omega
      refine ⟨_, _, ?_, ⟨y, x % y, hy, Int.emod_nonneg _ (by omega), rfl, ?_, rfl⟩, pss_seq (psd_par 0 1 rfl nd rfl rfl (by decide) rfl rfl (pas_cons (by walk_at "nm") (pas_cons (pd_mod (by walk_at "nm") (by walk_at "nm") h0) pas_nil)) rfl) pss_nilD⟩
      · have := Int.emod_lt_of_pos x h0
        have := Int.emod_nonneg x (show y ≠ 0 by omega)
        omega
      · rw [gcd_step hx h0, hg]
    · rintro δ m ⟨x, y, hx, hy, rfl, hg, rfl⟩ h
      have h0 : y = 0 := by
        by_cases z : 0 < y
        · exact absurd ⟨x, y, z, rfl⟩ h
        · omega
      subst h0
      rw [Int.gcd_zero_right] at hg
      unfold gcdI
      rw [← hg, Int.natAbs_of_nonneg hx]
    · walk_at "run"
theorem cal_l_divisor {f : Addr} {fd : FuncData} (F : Fun K "_law_divisor" "_law_divisor" s_l_divisor f fd) (hm : mg "_law_divisor" = some (.ref f)) (T : Tx K mg cs) : Cal P w K mg base "_law_divisor" 1 P_l_divisor (R_divisor) := ⟨f, fd, ok_l_divisor F T, hm, F.kp, F.binds fun _ _ _ _ _ _ us hl => match us, hl with | [_, _], _ => rfl⟩
end
section
set_option hygiene false in
local macro_rules | `(tactic| walk_at "nm") => `(tactic| first
  | ((with_reducible refine' pd_var (x := "_law_cell") 0 ?_ ?_ ?_ ?_ ?_) <;> first | (with_reducible show D) | ((with_reducible show Vis _ _); first | exact .inl rfl | exact .inr (.inl rfl) | exact .inr (.inr rfl)) | ((with_reducible show (_ == _) = false); decide) | rfl))
set_option hygiene false in
local macro_rules | `(tactic| walk_at "set") => `(tactic| first
  | ((with_reducible show PSs _ (Stmt.Assign [Expr.Name "_law_cell" _] _ _ :: _) _); refine' pss_seq (psd_set 0 nd (by rfl) (by first | exact .inl rfl | exact .inr rfl) ?_ (by rfl) (by first | exact .inr rfl | exact .inl rfl)) ?_))
set_option hygiene false in
local macro_rules | `(tactic| walk_at "aug") => `(tactic| first
  | ((with_reducible show PSs _ (Stmt.AugAssign (Expr.Name "_law_cell" _) _ _ _ :: _) _); first | refine' pss_seq (psd_aug 0 nd (by rfl) (by first | exact .inl rfl | exact .inr rfl) L2.ip_add (by rfl) ?_ (by first | exact .inr rfl | exact .inl rfl)) ?s2 | refine' pss_seq (psd_aug 0 nd (by rfl) (by first | exact .inl rfl | exact .inr rfl) L2.ip_sub (by rfl) ?_ (by first | exact .inr rfl | exact .inl rfl)) ?_))
set_option hygiene false in
local macro_rules | `(tactic| walk_at "tgn") => `(tactic| first
  | ((with_reducible show PG _ (Expr.Name "_law_cell" _) _); refine' pgd_name 0 nd (by rfl) (by first | exact .inl rfl | exact .inr rfl) (by first | exact .inr rfl | exact .inl rfl) (by first | decide | simp)))

set_option hygiene false in
local macro_rules | `(tactic| walk_at "fld") => `(tactic| first
  | ((with_reducible show PE _ (Expr.Attribute _ "place" _) _); (refine' pd_fld ?_ (by rfl) T.cl_Weight T.na_Weight_place ?_) <;> walk_at "go")
  | ((with_reducible show PE _ (Expr.Attribute _ "size" _) _); (refine' pd_fld ?_ (by rfl) T.cl_Weight T.na_Weight_size ?_) <;> walk_at "go")
  | ((with_reducible show PE _ (Expr.Attribute _ "start" _) _); (refine' pd_fld ?_ (by rfl) T.cl_Spread T.na_Spread_start ?_) <;> walk_at "go")
  | ((with_reducible show PE _ (Expr.Attribute _ "end" _) _); (refine' pd_fld ?_ (by rfl) T.cl_Spread T.na_Spread_end ?_) <;> walk_at "go")
  | ((with_reducible show PE _ (Expr.Attribute _ "each" _) _); (refine' pd_fld ?_ (by rfl) T.cl_Spread T.na_Spread_each ?_) <;> walk_at "go")
  | ((with_reducible show PE _ (Expr.Attribute _ "length" _) _); (refine' pd_fld ?_ (by rfl) T.cl_Beam T.na_Beam_length ?_) <;> walk_at "go")
  | ((with_reducible show PE _ (Expr.Attribute _ "rests" _) _); (refine' pd_fld ?_ (by rfl) T.cl_Beam T.na_Beam_rests ?_) <;> walk_at "go"))
variable {P : Program} {w : World} {K : PySem.W.Frag} {mg : Str → Option Value} {base : Heap} {cs : Cs}
theorem ok_l_number {f : Addr} {fd : FuncData} (F : Fun K "_law_number" "_law_number" s_l_number f fd) (T : Tx K mg cs) : FnOk P w K mg base (L2.CX P w) 1 f fd P_l_number (spD K (R_int1 (numOf 20))) := by
  refine def_ok F sc_l_number (fun ds r h => ?_) (by decide) (fun cdv A outer s H E ds r hr h => ?_)
  · obtain ⟨a, rfl, _⟩ := h; rfl
  · obtain ⟨c, rfl, rfl⟩ := h
    have nd := sc_l_number.nd
    refine pss_hd rfl ?_
    have b1 : Bd 67 (c / 8 % 10 ^ 20) := bd_mod (by decide) (by decide)
    have b2 : Bd 64 (1 - 2 * (c / 4 % 2)) := by unfold Bd; omega
    by_cases h : c % 4 = 0
    · refine pss_end (psd_ifT (by walk_at "tv") h ?_) True.intro
      refine pss_end (psd_ret (pd_cast (pd_mul (by walk_at "ev") (pd_sub pd_int (pd_mul pd_int (by walk_at "ev") ?_)) (b1.cmul b2 (by decide))) ?_)) True.intro
      · exact Bd.cmul (a := 64) (b := 64) (Bd.lit rfl) (by unfold Bd; omega) (by decide)
      · unfold numOf; rw [if_pos h]
    · refine pss_seq (psd_ifF (by walk_at "tv") h pss_nilD) ?_
      refine pss_end (psd_ret (pd_cast (by walk_at "ev") ?_)) True.intro
      unfold numOf; rw [if_neg h]
theorem cal_l_number {f : Addr} {fd : FuncData} (F : Fun K "_law_number" "_law_number" s_l_number f fd) (hm : mg "_law_number" = some (.ref f)) (T : Tx K mg cs) : Cal P w K mg base "_law_number" 1 P_l_number ((R_int1 (numOf 20))) := ⟨f, fd, ok_l_number F T, hm, F.kp, F.binds fun _ _ _ _ _ _ us hl => match us, hl with | [_], _ => rfl⟩
end
section
set_option hygiene false in
local macro_rules | `(tactic| walk_at "nm") => `(tactic| first
  | ((with_reducible refine' pd_var (x := "_law_cell") 0 ?_ ?_ ?_ ?_ ?_) <;> first | (with_reducible show D) | ((with_reducible show Vis _ _); first | exact .inl rfl | exact .inr (.inl rfl) | exact .inr (.inr rfl)) | ((with_reducible show (_ == _) = false); decide) | rfl))
set_option hygiene false in
local macro_rules | `(tactic| walk_at "set") => `(tactic| first
  | ((with_reducible show PSs _ (Stmt.Assign [Expr.Name "_law_cell" _] _ _ :: _) _); refine' pss_seq (psd_set 0 nd (by rfl) (by first | exact .inl rfl | exact .inr rfl) ?_ (by rfl) (by first | exact .inr rfl | exact .inl rfl)) ?_))
set_option hygiene false in
local macro_rules | `(tactic| walk_at "aug") => `(tactic| first
  | ((with_reducible show PSs _ (Stmt.AugAssign (Expr.Name "_law_cell" _) _ _ _ :: _) _); first | refine' pss_seq (psd_aug 0 nd (by rfl) (by first | exact .inl rfl | exact .inr rfl) L2.ip_add (by rfl) ?_ (by first | exact .inr rfl | exact .inl rfl)) ?s2 | refine' pss_seq (psd_aug 0 nd (by rfl) (by first | exact .inl rfl | exact .inr rfl) L2.ip_sub (by rfl) ?_ (by first | exact .inr rfl | exact .inl rfl)) ?_))
set_option hygiene false in
local macro_rules | `(tactic| walk_at "tgn") => `(tactic| first
  | ((with_reducible show PG _ (Expr.Name "_law_cell" _) _); refine' pgd_name 0 nd (by rfl) (by first | exact .inl rfl | exact .inr rfl) (by first | exact .inr rfl | exact .inl rfl) (by first | decide | simp)))

set_option hygiene false in
local macro_rules | `(tactic| walk_at "fld") => `(tactic| first
  | ((with_reducible show PE _ (Expr.Attribute _ "place" _) _); (refine' pd_fld ?_ (by rfl) T.cl_Weight T.na_Weight_place ?_) <;> walk_at "go")
  | ((with_reducible show PE _ (Expr.Attribute _ "size" _) _); (refine' pd_fld ?_ (by rfl) T.cl_Weight T.na_Weight_size ?_) <;> walk_at "go")
  | ((with_reducible show PE _ (Expr.Attribute _ "start" _) _); (refine' pd_fld ?_ (by rfl) T.cl_Spread T.na_Spread_start ?_) <;> walk_at "go")
  | ((with_reducible show PE _ (Expr.Attribute _ "end" _) _); (refine' pd_fld ?_ (by rfl) T.cl_Spread T.na_Spread_end ?_) <;> walk_at "go")
  | ((with_reducible show PE _ (Expr.Attribute _ "each" _) _); (refine' pd_fld ?_ (by rfl) T.cl_Spread T.na_Spread_each ?_) <;> walk_at "go")
  | ((with_reducible show PE _ (Expr.Attribute _ "length" _) _); (refine' pd_fld ?_ (by rfl) T.cl_Beam T.na_Beam_length ?_) <;> walk_at "go")
  | ((with_reducible show PE _ (Expr.Attribute _ "rests" _) _); (refine' pd_fld ?_ (by rfl) T.cl_Beam T.na_Beam_rests ?_) <;> walk_at "go"))
variable {P : Program} {w : World} {K : PySem.W.Frag} {mg : Str → Option Value} {base : Heap} {cs : Cs}
theorem ok_l_gap {f : Addr} {fd : FuncData} (F : Fun K "_law_gap" "_law_gap" s_l_gap f fd) (T : Tx K mg cs) : FnOk P w K mg base (L2.CX P w) 1 f fd P_l_gap (spD K (R_int1 (gapOf 19))) := by
  refine def_ok F sc_l_gap (fun ds r h => ?_) (by decide) (fun cdv A outer s H E ds r hr h => ?_)
  · obtain ⟨a, rfl, _⟩ := h; rfl
  · obtain ⟨c, rfl, rfl⟩ := h
    have nd := sc_l_gap.nd
    refine pss_hd rfl ?_
    unfold gapOf
    by_cases h : c % 4 = 0
    · rw [if_pos h]
      refine pss_end (psd_ifT (by walk_at "tv") h ?_) True.intro
      walk_at "run"
    · rw [if_neg h]
      refine pss_seq (psd_ifF (by walk_at "tv") h pss_nilD) ?_
      walk_at "run"
theorem cal_l_gap {f : Addr} {fd : FuncData} (F : Fun K "_law_gap" "_law_gap" s_l_gap f fd) (hm : mg "_law_gap" = some (.ref f)) (T : Tx K mg cs) : Cal P w K mg base "_law_gap" 1 P_l_gap ((R_int1 (gapOf 19))) := ⟨f, fd, ok_l_gap F T, hm, F.kp, F.binds fun _ _ _ _ _ _ us hl => match us, hl with | [_], _ => rfl⟩
end
section
set_option hygiene false in
local macro_rules | `(tactic| walk_at "nm") => `(tactic| first
  | ((with_reducible refine' pd_var (x := "_law_script") 0 ?_ ?_ ?_ ?_ ?_) <;> first | (with_reducible show D) | ((with_reducible show Vis _ _); first | exact .inl rfl | exact .inr (.inl rfl) | exact .inr (.inr rfl)) | ((with_reducible show (_ == _) = false); decide) | rfl)
  | ((with_reducible refine' pd_var (x := "_law_rests_here") 1 ?_ ?_ ?_ ?_ ?_) <;> first | (with_reducible show D) | ((with_reducible show Vis _ _); first | exact .inl rfl | exact .inr (.inl rfl) | exact .inr (.inr rfl)) | ((with_reducible show (_ == _) = false); decide) | rfl))
set_option hygiene false in
local macro_rules | `(tactic| walk_at "set") => `(tactic| first
  | ((with_reducible show PSs _ (Stmt.Assign [Expr.Name "_law_script" _] _ _ :: _) _); refine' pss_seq (psd_set 0 nd (by rfl) (by first | exact .inl rfl | exact .inr rfl) ?_ (by rfl) (by first | exact .inr rfl | exact .inl rfl)) ?_)
  | ((with_reducible show PSs _ (Stmt.Assign [Expr.Name "_law_rests_here" _] _ _ :: _) _); refine' pss_seq (psd_set 1 nd (by rfl) (by first | exact .inl rfl | exact .inr rfl) ?_ (by rfl) (by first | exact .inr rfl | exact .inl rfl)) ?_))
set_option hygiene false in
local macro_rules | `(tactic| walk_at "aug") => `(tactic| first
  | ((with_reducible show PSs _ (Stmt.AugAssign (Expr.Name "_law_script" _) _ _ _ :: _) _); first | refine' pss_seq (psd_aug 0 nd (by rfl) (by first | exact .inl rfl | exact .inr rfl) L2.ip_add (by rfl) ?_ (by first | exact .inr rfl | exact .inl rfl)) ?s2 | refine' pss_seq (psd_aug 0 nd (by rfl) (by first | exact .inl rfl | exact .inr rfl) L2.ip_sub (by rfl) ?_ (by first | exact .inr rfl | exact .inl rfl)) ?_)
  | ((with_reducible show PSs _ (Stmt.AugAssign (Expr.Name "_law_rests_here" _) _ _ _ :: _) _); first | refine' pss_seq (psd_aug 1 nd (by rfl) (by first | exact .inl rfl | exact .inr rfl) L2.ip_add (by rfl) ?_ (by first | exact .inr rfl | exact .inl rfl)) ?s2 | refine' pss_seq (psd_aug 1 nd (by rfl) (by first | exact .inl rfl | exact .inr rfl) L2.ip_sub (by rfl) ?_ (by first | exact .inr rfl | exact .inl rfl)) ?_))
set_option hygiene false in
local macro_rules | `(tactic| walk_at "tgn") => `(tactic| first
  | ((with_reducible show PG _ (Expr.Name "_law_script" _) _); refine' pgd_name 0 nd (by rfl) (by first | exact .inl rfl | exact .inr rfl) (by first | exact .inr rfl | exact .inl rfl) (by first | decide | simp))
  | ((with_reducible show PG _ (Expr.Name "_law_rests_here" _) _); refine' pgd_name 1 nd (by rfl) (by first | exact .inl rfl | exact .inr rfl) (by first | exact .inr rfl | exact .inl rfl) (by first | decide | simp)))
set_option hygiene false in
local macro_rules | `(tactic| walk_at "cl") => `(tactic| first
  | ((with_reducible show PE _ (Expr.Call (Expr.Name "_law_cell_at" _) _ _ _) _); (refine' pd_call c_l_cell_at hr (by decide) (by rfl) ?_ ⟨_, _, rfl, ?_, rfl⟩) <;> walk_at "go")
  | ((with_reducible show PE _ (Expr.Call (Expr.Name "_law_gap" _) _ _ _) _); (refine' pd_call c_l_gap hr (by decide) (by rfl) ?_ ⟨_, rfl, rfl⟩) <;> walk_at "go"))
set_option hygiene false in
local macro_rules | `(tactic| walk_at "fld") => `(tactic| first
  | ((with_reducible show PE _ (Expr.Attribute _ "place" _) _); (refine' pd_fld ?_ (by rfl) T.cl_Weight T.na_Weight_place ?_) <;> walk_at "go")
  | ((with_reducible show PE _ (Expr.Attribute _ "size" _) _); (refine' pd_fld ?_ (by rfl) T.cl_Weight T.na_Weight_size ?_) <;> walk_at "go")
  | ((with_reducible show PE _ (Expr.Attribute _ "start" _) _); (refine' pd_fld ?_ (by rfl) T.cl_Spread T.na_Spread_start ?_) <;> walk_at "go")
  | ((with_reducible show PE _ (Expr.Attribute _ "end" _) _); (refine' pd_fld ?_ (by rfl) T.cl_Spread T.na_Spread_end ?_) <;> walk_at "go")
  | ((with_reducible show PE _ (Expr.Attribute _ "each" _) _); (refine' pd_fld ?_ (by rfl) T.cl_Spread T.na_Spread_each ?_) <;> walk_at "go")
  | ((with_reducible show PE _ (Expr.Attribute _ "length" _) _); (refine' pd_fld ?_ (by rfl) T.cl_Beam T.na_Beam_length ?_) <;> walk_at "go")
  | ((with_reducible show PE _ (Expr.Attribute _ "rests" _) _); (refine' pd_fld ?_ (by rfl) T.cl_Beam T.na_Beam_rests ?_) <;> walk_at "go"))
variable {P : Program} {w : World} {K : PySem.W.Frag} {mg : Str → Option Value} {base : Heap} {cs : Cs}
theorem ok_l_rests {f : Addr} {fd : FuncData} (F : Fun K "_law_rests" "_law_rests" s_l_rests f fd) (T : Tx K mg cs) (c_l_cell_at : Cal P w K mg base "_law_cell_at" 1 P_l_cell_at (R_cell)) (c_l_gap : Cal P w K mg base "_law_gap" 1 P_l_gap ((R_int1 (gapOf 19)))) : FnOk P w K mg base (L2.CX P w) 2 f fd P_l_rests (spD K (R_rests (rst 19))) := by
  refine def_ok F sc_l_rests (fun ds r h => ?_) (by decide) (fun cdv A outer s H E ds r hr h => ?_)
  · obtain ⟨a, rfl, _⟩ := h; rfl
  · obtain ⟨ns, rfl, rfl⟩ := h
    have nd := sc_l_rests.nd
    refine pss_hd rfl ?_
    refine pss_newL 1 nd (by rfl) (.inl rfl) (pn_lst (by walk_at "ar") (Nat.le_of_ble_eq_true rfl)) (by rfl) (by first | exact .inr rfl | exact .inl rfl) (fun l => ?_)
    refine pss_seq (psd_append (by walk_at "nm") (pd_thaw (δ' := [some (.sq (ns.map D.int)), some (iL [gapOf 19 (cell ns 0)])]) (.same (.put .nil)) (by walk_at "ev") rfl rfl) (Nat.le_of_ble_eq_true rfl)) ?_
    unfold rst
    by_cases h : cell ns 4 % 2 = 0
    · rw [if_pos h]
      refine pss_seq (psd_ifT (by walk_at "tv") h (pss_seq (psd_append (by walk_at "nm") (pd_thaw (δ' := [some (.sq (ns.map D.int)), some (iL (rst2 19 ns))]) (.same (.put .nil)) (by walk_at "ev") rfl rfl) (Nat.le_of_ble_eq_true rfl)) pss_nilD)) ?_
      refine pss_frz (δ' := [some (.sq (ns.map D.int)), some (iL (rst3 19 ns))]) (.same (.put .nil)) ?_
      walk_at "run"
    · rw [if_neg h]
      refine pss_seq (psd_ifF (by walk_at "tv") h pss_nilD) ?_
      refine pss_frz (δ' := [some (.sq (ns.map D.int)), some (iL (rst2 19 ns))]) (.same (.put .nil)) ?_
      walk_at "run"
theorem cal_l_rests {f : Addr} {fd : FuncData} (F : Fun K "_law_rests" "_law_rests" s_l_rests f fd) (hm : mg "_law_rests" = some (.ref f)) (T : Tx K mg cs) (c_l_cell_at : Cal P w K mg base "_law_cell_at" 1 P_l_cell_at (R_cell)) (c_l_gap : Cal P w K mg base "_law_gap" 1 P_l_gap ((R_int1 (gapOf 19)))) : Cal P w K mg base "_law_rests" 2 P_l_rests ((R_rests (rst 19))) := ⟨f, fd, ok_l_rests F T c_l_cell_at c_l_gap, hm, F.kp, F.binds fun _ _ _ _ _ _ us hl => match us, hl with | [_], _ => rfl⟩
end
section
set_option hygiene false in
local macro_rules | `(tactic| walk_at "nm") => `(tactic| first
  | ((with_reducible refine' pd_var (x := "_law_cell") 0 ?_ ?_ ?_ ?_ ?_) <;> first | (with_reducible show D) | ((with_reducible show Vis _ _); first | exact .inl rfl | exact .inr (.inl rfl) | exact .inr (.inr rfl)) | ((with_reducible show (_ == _) = false); decide) | rfl)
  | ((with_reducible refine' pd_var (x := "_law_rests_here") 1 ?_ ?_ ?_ ?_ ?_) <;> first | (with_reducible show D) | ((with_reducible show Vis _ _); first | exact .inl rfl | exact .inr (.inl rfl) | exact .inr (.inr rfl)) | ((with_reducible show (_ == _) = false); decide) | rfl)
  | ((with_reducible refine' pd_var (x := "_law_length") 2 ?_ ?_ ?_ ?_ ?_) <;> first | (with_reducible show D) | ((with_reducible show Vis _ _); first | exact .inl rfl | exact .inr (.inl rfl) | exact .inr (.inr rfl)) | ((with_reducible show (_ == _) = false); decide) | rfl)
  | ((with_reducible refine' pd_var (x := "_law_edges") 3 ?_ ?_ ?_ ?_ ?_) <;> first | (with_reducible show D) | ((with_reducible show Vis _ _); first | exact .inl rfl | exact .inr (.inl rfl) | exact .inr (.inr rfl)) | ((with_reducible show (_ == _) = false); decide) | rfl))
set_option hygiene false in
local macro_rules | `(tactic| walk_at "set") => `(tactic| first
  | ((with_reducible show PSs _ (Stmt.Assign [Expr.Name "_law_cell" _] _ _ :: _) _); refine' pss_seq (psd_set 0 nd (by rfl) (by first | exact .inl rfl | exact .inr rfl) ?_ (by rfl) (by first | exact .inr rfl | exact .inl rfl)) ?_)
  | ((with_reducible show PSs _ (Stmt.Assign [Expr.Name "_law_rests_here" _] _ _ :: _) _); refine' pss_seq (psd_set 1 nd (by rfl) (by first | exact .inl rfl | exact .inr rfl) ?_ (by rfl) (by first | exact .inr rfl | exact .inl rfl)) ?_)
  | ((with_reducible show PSs _ (Stmt.Assign [Expr.Name "_law_length" _] _ _ :: _) _); refine' pss_seq (psd_set 2 nd (by rfl) (by first | exact .inl rfl | exact .inr rfl) ?_ (by rfl) (by first | exact .inr rfl | exact .inl rfl)) ?_)
  | ((with_reducible show PSs _ (Stmt.Assign [Expr.Name "_law_edges" _] _ _ :: _) _); refine' pss_seq (psd_set 3 nd (by rfl) (by first | exact .inl rfl | exact .inr rfl) ?_ (by rfl) (by first | exact .inr rfl | exact .inl rfl)) ?_))
set_option hygiene false in
local macro_rules | `(tactic| walk_at "aug") => `(tactic| first
  | ((with_reducible show PSs _ (Stmt.AugAssign (Expr.Name "_law_cell" _) _ _ _ :: _) _); first | refine' pss_seq (psd_aug 0 nd (by rfl) (by first | exact .inl rfl | exact .inr rfl) L2.ip_add (by rfl) ?_ (by first | exact .inr rfl | exact .inl rfl)) ?s2 | refine' pss_seq (psd_aug 0 nd (by rfl) (by first | exact .inl rfl | exact .inr rfl) L2.ip_sub (by rfl) ?_ (by first | exact .inr rfl | exact .inl rfl)) ?_)
  | ((with_reducible show PSs _ (Stmt.AugAssign (Expr.Name "_law_rests_here" _) _ _ _ :: _) _); first | refine' pss_seq (psd_aug 1 nd (by rfl) (by first | exact .inl rfl | exact .inr rfl) L2.ip_add (by rfl) ?_ (by first | exact .inr rfl | exact .inl rfl)) ?s2 | refine' pss_seq (psd_aug 1 nd (by rfl) (by first | exact .inl rfl | exact .inr rfl) L2.ip_sub (by rfl) ?_ (by first | exact .inr rfl | exact .inl rfl)) ?_)
  | ((with_reducible show PSs _ (Stmt.AugAssign (Expr.Name "_law_length" _) _ _ _ :: _) _); first | refine' pss_seq (psd_aug 2 nd (by rfl) (by first | exact .inl rfl | exact .inr rfl) L2.ip_add (by rfl) ?_ (by first | exact .inr rfl | exact .inl rfl)) ?s2 | refine' pss_seq (psd_aug 2 nd (by rfl) (by first | exact .inl rfl | exact .inr rfl) L2.ip_sub (by rfl) ?_ (by first | exact .inr rfl | exact .inl rfl)) ?_)
  | ((with_reducible show PSs _ (Stmt.AugAssign (Expr.Name "_law_edges" _) _ _ _ :: _) _); first | refine' pss_seq (psd_aug 3 nd (by rfl) (by first | exact .inl rfl | exact .inr rfl) L2.ip_add (by rfl) ?_ (by first | exact .inr rfl | exact .inl rfl)) ?s2 | refine' pss_seq (psd_aug 3 nd (by rfl) (by first | exact .inl rfl | exact .inr rfl) L2.ip_sub (by rfl) ?_ (by first | exact .inr rfl | exact .inl rfl)) ?_))
set_option hygiene false in
local macro_rules | `(tactic| walk_at "tgn") => `(tactic| first
  | ((with_reducible show PG _ (Expr.Name "_law_cell" _) _); refine' pgd_name 0 nd (by rfl) (by first | exact .inl rfl | exact .inr rfl) (by first | exact .inr rfl | exact .inl rfl) (by first | decide | simp))
  | ((with_reducible show PG _ (Expr.Name "_law_rests_here" _) _); refine' pgd_name 1 nd (by rfl) (by first | exact .inl rfl | exact .inr rfl) (by first | exact .inr rfl | exact .inl rfl) (by first | decide | simp))
  | ((with_reducible show PG _ (Expr.Name "_law_length" _) _); refine' pgd_name 2 nd (by rfl) (by first | exact .inl rfl | exact .inr rfl) (by first | exact .inr rfl | exact .inl rfl) (by first | decide | simp))
  | ((with_reducible show PG _ (Expr.Name "_law_edges" _) _); refine' pgd_name 3 nd (by rfl) (by first | exact .inl rfl | exact .inr rfl) (by first | exact .inr rfl | exact .inl rfl) (by first | decide | simp)))

set_option hygiene false in
local macro_rules | `(tactic| walk_at "fld") => `(tactic| first
  | ((with_reducible show PE _ (Expr.Attribute _ "place" _) _); (refine' pd_fld ?_ (by rfl) T.cl_Weight T.na_Weight_place ?_) <;> walk_at "go")
  | ((with_reducible show PE _ (Expr.Attribute _ "size" _) _); (refine' pd_fld ?_ (by rfl) T.cl_Weight T.na_Weight_size ?_) <;> walk_at "go")
  | ((with_reducible show PE _ (Expr.Attribute _ "start" _) _); (refine' pd_fld ?_ (by rfl) T.cl_Spread T.na_Spread_start ?_) <;> walk_at "go")
  | ((with_reducible show PE _ (Expr.Attribute _ "end" _) _); (refine' pd_fld ?_ (by rfl) T.cl_Spread T.na_Spread_end ?_) <;> walk_at "go")
  | ((with_reducible show PE _ (Expr.Attribute _ "each" _) _); (refine' pd_fld ?_ (by rfl) T.cl_Spread T.na_Spread_each ?_) <;> walk_at "go")
  | ((with_reducible show PE _ (Expr.Attribute _ "length" _) _); (refine' pd_fld ?_ (by rfl) T.cl_Beam T.na_Beam_length ?_) <;> walk_at "go")
  | ((with_reducible show PE _ (Expr.Attribute _ "rests" _) _); (refine' pd_fld ?_ (by rfl) T.cl_Beam T.na_Beam_rests ?_) <;> walk_at "go"))
variable {P : Program} {w : World} {K : PySem.W.Frag} {mg : Str → Option Value} {base : Heap} {cs : Cs}
theorem ok_l_spot {f : Addr} {fd : FuncData} (F : Fun K "_law_spot" "_law_spot" s_l_spot f fd) (T : Tx K mg cs) : FnOk P w K mg base (L2.CX P w) 1 f fd P_l_spot (spD K R_spot) := by
  refine def_ok F sc_l_spot (fun ds r h => ?_) (by decide) (fun cdv A outer s H E ds r hr h => ?_)
  · obtain ⟨c, L, ρ, _, rfl, _⟩ := h; rfl
  · obtain ⟨c, L, ρ, hB, rfl, rfl⟩ := h
    have nd := sc_l_spot.nd
    have bL := hB.bd
    have hL := hB.len
    have hlen : ρ.length ≤ 3 := by cases hB.rs <;> simp
    refine pss_hd rfl ?_
    unfold spot
    by_cases h : c % 4 = 1
    · rw [if_pos h]
      refine pss_end (psd_ifT (by walk_at "tv") h ?_) True.intro
      refine pss_seq (psd_set 3 nd (by rfl) (.inl rfl) (pd_cast (d' := iL (edge ρ L)) (pd_new (pn_cat (ds := [.int 0, .int L]) (es := ρ.map D.int) (by walk_at "ev") (by walk_at "nm") rfl rfl (by simp; omega))) rfl) (by rfl) (.inr rfl)) ?_
      have e1 : ((edge ρ L).map D.int).length = (edge ρ L).length := List.length_map ..
      have hne : 0 < (edge ρ L).length := by simp [edge]
      have h1 := Int.emod_nonneg (c / 4) (show ((edge ρ L).length : Int) ≠ 0 by omega)
      have h2 := Int.emod_lt_of_pos (c / 4) (show (0 : Int) < ((edge ρ L).length : Int) by omega)
      refine pss_end (psd_ret (pd_ix (i := c / 4 % (edge ρ L).length) (ds := (edge ρ L).map D.int) (by walk_at "nm") (pd_mod (by walk_at "ev") (pd_cast (d' := .int ((edge ρ L).length : Nat)) (pd_len (by rfl) T.n_len (by walk_at "nm") rfl) (by rw [e1])) (by omega)) (fun _ _ => rfl) rfl ?_)) True.intro
      obtain ⟨j, hj⟩ := Int.eq_ofNat_of_zero_le h1
      rw [hj] at h2 ⊢
      refine atI_lit ?_
      rw [List.getElem?_map, List.getD_eq_getElem?_getD, Int.toNat_natCast, List.getElem?_eq_getElem (show j < (edge ρ L).length by omega)]
      rfl
    · rw [if_neg h]
      refine pss_seq (psd_ifF (by walk_at "tv") h pss_nilD) ?_
      by_cases h2 : c % 4 = 2
      · rw [if_pos h2]
        refine pss_end (psd_ifT (by walk_at "tv") h2 ?_) True.intro
        walk_at "run"
      · rw [if_neg h2]
        refine pss_seq (psd_ifF (by walk_at "tv") h2 pss_nilD) ?_
        walk_at "run"
theorem cal_l_spot {f : Addr} {fd : FuncData} (F : Fun K "_law_spot" "_law_spot" s_l_spot f fd) (hm : mg "_law_spot" = some (.ref f)) (T : Tx K mg cs) : Cal P w K mg base "_law_spot" 1 P_l_spot (R_spot) := ⟨f, fd, ok_l_spot F T, hm, F.kp, F.binds fun _ _ _ _ _ _ us hl => match us, hl with | [_, _, _], _ => rfl⟩
end
section
set_option hygiene false in
local macro_rules | `(tactic| walk_at "nm") => `(tactic| first
  | ((with_reducible refine' pd_var (x := "_law_script") 0 ?_ ?_ ?_ ?_ ?_) <;> first | (with_reducible show D) | ((with_reducible show Vis _ _); first | exact .inl rfl | exact .inr (.inl rfl) | exact .inr (.inr rfl)) | ((with_reducible show (_ == _) = false); decide) | rfl)
  | ((with_reducible refine' pd_var (x := "_law_begin") 1 ?_ ?_ ?_ ?_ ?_) <;> first | (with_reducible show D) | ((with_reducible show Vis _ _); first | exact .inl rfl | exact .inr (.inl rfl) | exact .inr (.inr rfl)) | ((with_reducible show (_ == _) = false); decide) | rfl)
  | ((with_reducible refine' pd_var (x := "_law_many") 2 ?_ ?_ ?_ ?_ ?_) <;> first | (with_reducible show D) | ((with_reducible show Vis _ _); first | exact .inl rfl | exact .inr (.inl rfl) | exact .inr (.inr rfl)) | ((with_reducible show (_ == _) = false); decide) | rfl)
  | ((with_reducible refine' pd_var (x := "_law_rests_here") 3 ?_ ?_ ?_ ?_ ?_) <;> first | (with_reducible show D) | ((with_reducible show Vis _ _); first | exact .inl rfl | exact .inr (.inl rfl) | exact .inr (.inr rfl)) | ((with_reducible show (_ == _) = false); decide) | rfl)
  | ((with_reducible refine' pd_var (x := "_law_length") 4 ?_ ?_ ?_ ?_ ?_) <;> first | (with_reducible show D) | ((with_reducible show Vis _ _); first | exact .inl rfl | exact .inr (.inl rfl) | exact .inr (.inr rfl)) | ((with_reducible show (_ == _) = false); decide) | rfl)
  | ((with_reducible refine' pd_var (x := "_law_rows_here") 5 ?_ ?_ ?_ ?_ ?_) <;> first | (with_reducible show D) | ((with_reducible show Vis _ _); first | exact .inl rfl | exact .inr (.inl rfl) | exact .inr (.inr rfl)) | ((with_reducible show (_ == _) = false); decide) | rfl)
  | ((with_reducible refine' pd_var (x := "_law_k") 6 ?_ ?_ ?_ ?_ ?_) <;> first | (with_reducible show D) | ((with_reducible show Vis _ _); first | exact .inl rfl | exact .inr (.inl rfl) | exact .inr (.inr rfl)) | ((with_reducible show (_ == _) = false); decide) | rfl)
  | ((with_reducible refine' pd_var (x := "_law_one") 7 ?_ ?_ ?_ ?_ ?_) <;> first | (with_reducible show D) | ((with_reducible show Vis _ _); first | exact .inl rfl | exact .inr (.inl rfl) | exact .inr (.inr rfl)) | ((with_reducible show (_ == _) = false); decide) | rfl)
  | ((with_reducible refine' pd_var (x := "_law_other") 8 ?_ ?_ ?_ ?_ ?_) <;> first | (with_reducible show D) | ((with_reducible show Vis _ _); first | exact .inl rfl | exact .inr (.inl rfl) | exact .inr (.inr rfl)) | ((with_reducible show (_ == _) = false); decide) | rfl)
  | ((with_reducible refine' pd_var (x := "_law_cell") 9 ?_ ?_ ?_ ?_ ?_) <;> first | (with_reducible show D) | ((with_reducible show Vis _ _); first | exact .inl rfl | exact .inr (.inl rfl) | exact .inr (.inr rfl)) | ((with_reducible show (_ == _) = false); decide) | rfl))
set_option hygiene false in
local macro_rules | `(tactic| walk_at "set") => `(tactic| first
  | ((with_reducible show PSs _ (Stmt.Assign [Expr.Name "_law_script" _] _ _ :: _) _); refine' pss_seq (psd_set 0 nd (by rfl) (by first | exact .inl rfl | exact .inr rfl) ?_ (by rfl) (by first | exact .inr rfl | exact .inl rfl)) ?_)
  | ((with_reducible show PSs _ (Stmt.Assign [Expr.Name "_law_begin" _] _ _ :: _) _); refine' pss_seq (psd_set 1 nd (by rfl) (by first | exact .inl rfl | exact .inr rfl) ?_ (by rfl) (by first | exact .inr rfl | exact .inl rfl)) ?_)
  | ((with_reducible show PSs _ (Stmt.Assign [Expr.Name "_law_many" _] _ _ :: _) _); refine' pss_seq (psd_set 2 nd (by rfl) (by first | exact .inl rfl | exact .inr rfl) ?_ (by rfl) (by first | exact .inr rfl | exact .inl rfl)) ?_)
  | ((with_reducible show PSs _ (Stmt.Assign [Expr.Name "_law_rests_here" _] _ _ :: _) _); refine' pss_seq (psd_set 3 nd (by rfl) (by first | exact .inl rfl | exact .inr rfl) ?_ (by rfl) (by first | exact .inr rfl | exact .inl rfl)) ?_)
  | ((with_reducible show PSs _ (Stmt.Assign [Expr.Name "_law_length" _] _ _ :: _) _); refine' pss_seq (psd_set 4 nd (by rfl) (by first | exact .inl rfl | exact .inr rfl) ?_ (by rfl) (by first | exact .inr rfl | exact .inl rfl)) ?_)
  | ((with_reducible show PSs _ (Stmt.Assign [Expr.Name "_law_rows_here" _] _ _ :: _) _); refine' pss_seq (psd_set 5 nd (by rfl) (by first | exact .inl rfl | exact .inr rfl) ?_ (by rfl) (by first | exact .inr rfl | exact .inl rfl)) ?_)
  | ((with_reducible show PSs _ (Stmt.Assign [Expr.Name "_law_k" _] _ _ :: _) _); refine' pss_seq (psd_set 6 nd (by rfl) (by first | exact .inl rfl | exact .inr rfl) ?_ (by rfl) (by first | exact .inr rfl | exact .inl rfl)) ?_)
  | ((with_reducible show PSs _ (Stmt.Assign [Expr.Name "_law_one" _] _ _ :: _) _); refine' pss_seq (psd_set 7 nd (by rfl) (by first | exact .inl rfl | exact .inr rfl) ?_ (by rfl) (by first | exact .inr rfl | exact .inl rfl)) ?_)
  | ((with_reducible show PSs _ (Stmt.Assign [Expr.Name "_law_other" _] _ _ :: _) _); refine' pss_seq (psd_set 8 nd (by rfl) (by first | exact .inl rfl | exact .inr rfl) ?_ (by rfl) (by first | exact .inr rfl | exact .inl rfl)) ?_)
  | ((with_reducible show PSs _ (Stmt.Assign [Expr.Name "_law_cell" _] _ _ :: _) _); refine' pss_seq (psd_set 9 nd (by rfl) (by first | exact .inl rfl | exact .inr rfl) ?_ (by rfl) (by first | exact .inr rfl | exact .inl rfl)) ?_))
set_option hygiene false in
local macro_rules | `(tactic| walk_at "aug") => `(tactic| first
  | ((with_reducible show PSs _ (Stmt.AugAssign (Expr.Name "_law_script" _) _ _ _ :: _) _); first | refine' pss_seq (psd_aug 0 nd (by rfl) (by first | exact .inl rfl | exact .inr rfl) L2.ip_add (by rfl) ?_ (by first | exact .inr rfl | exact .inl rfl)) ?s2 | refine' pss_seq (psd_aug 0 nd (by rfl) (by first | exact .inl rfl | exact .inr rfl) L2.ip_sub (by rfl) ?_ (by first | exact .inr rfl | exact .inl rfl)) ?_)
  | ((with_reducible show PSs _ (Stmt.AugAssign (Expr.Name "_law_begin" _) _ _ _ :: _) _); first | refine' pss_seq (psd_aug 1 nd (by rfl) (by first | exact .inl rfl | exact .inr rfl) L2.ip_add (by rfl) ?_ (by first | exact .inr rfl | exact .inl rfl)) ?s2 | refine' pss_seq (psd_aug 1 nd (by rfl) (by first | exact .inl rfl | exact .inr rfl) L2.ip_sub (by rfl) ?_ (by first | exact .inr rfl | exact .inl rfl)) ?_)
  | ((with_reducible show PSs _ (Stmt.AugAssign (Expr.Name "_law_many" _) _ _ _ :: _) _); first | refine' pss_seq (psd_aug 2 nd (by rfl) (by first | exact .inl rfl | exact .inr rfl) L2.ip_add (by rfl) ?_ (by first | exact .inr rfl | exact .inl rfl)) ?s2 | refine' pss_seq (psd_aug 2 nd (by rfl) (by first | exact .inl rfl | exact .inr rfl) L2.ip_sub (by rfl) ?_ (by first | exact .inr rfl | exact .inl rfl)) ?_)
  | ((with_reducible show PSs _ (Stmt.AugAssign (Expr.Name "_law_rests_here" _) _ _ _ :: _) _); first | refine' pss_seq (psd_aug 3 nd (by rfl) (by first | exact .inl rfl | exact .inr rfl) L2.ip_add (by rfl) ?_ (by first | exact .inr rfl | exact .inl rfl)) ?s2 | refine' pss_seq (psd_aug 3 nd (by rfl) (by first | exact .inl rfl | exact .inr rfl) L2.ip_sub (by rfl) ?_ (by first | exact .inr rfl | exact .inl rfl)) ?_)
  | ((with_reducible show PSs _ (Stmt.AugAssign (Expr.Name "_law_length" _) _ _ _ :: _) _); first | refine' pss_seq (psd_aug 4 nd (by rfl) (by first | exact .inl rfl | exact .inr rfl) L2.ip_add (by rfl) ?_ (by first | exact .inr rfl | exact .inl rfl)) ?s2 | refine' pss_seq (psd_aug 4 nd (by rfl) (by first | exact .inl rfl | exact .inr rfl) L2.ip_sub (by rfl) ?_ (by first | exact .inr rfl | exact .inl rfl)) ?_)
  | ((with_reducible show PSs _ (Stmt.AugAssign (Expr.Name "_law_rows_here" _) _ _ _ :: _) _); first | refine' pss_seq (psd_aug 5 nd (by rfl) (by first | exact .inl rfl | exact .inr rfl) L2.ip_add (by rfl) ?_ (by first | exact .inr rfl | exact .inl rfl)) ?s2 | refine' pss_seq (psd_aug 5 nd (by rfl) (by first | exact .inl rfl | exact .inr rfl) L2.ip_sub (by rfl) ?_ (by first | exact .inr rfl | exact .inl rfl)) ?_)
  | ((with_reducible show PSs _ (Stmt.AugAssign (Expr.Name "_law_k" _) _ _ _ :: _) _); first | refine' pss_seq (psd_aug 6 nd (by rfl) (by first | exact .inl rfl | exact .inr rfl) L2.ip_add (by rfl) ?_ (by first | exact .inr rfl | exact .inl rfl)) ?s2 | refine' pss_seq (psd_aug 6 nd (by rfl) (by first | exact .inl rfl | exact .inr rfl) L2.ip_sub (by rfl) ?_ (by first | exact .inr rfl | exact .inl rfl)) ?_)
  | ((with_reducible show PSs _ (Stmt.AugAssign (Expr.Name "_law_one" _) _ _ _ :: _) _); first | refine' pss_seq (psd_aug 7 nd (by rfl) (by first | exact .inl rfl | exact .inr rfl) L2.ip_add (by rfl) ?_ (by first | exact .inr rfl | exact .inl rfl)) ?s2 | refine' pss_seq (psd_aug 7 nd (by rfl) (by first | exact .inl rfl | exact .inr rfl) L2.ip_sub (by rfl) ?_ (by first | exact .inr rfl | exact .inl rfl)) ?_)
  | ((with_reducible show PSs _ (Stmt.AugAssign (Expr.Name "_law_other" _) _ _ _ :: _) _); first | refine' pss_seq (psd_aug 8 nd (by rfl) (by first | exact .inl rfl | exact .inr rfl) L2.ip_add (by rfl) ?_ (by first | exact .inr rfl | exact .inl rfl)) ?s2 | refine' pss_seq (psd_aug 8 nd (by rfl) (by first | exact .inl rfl | exact .inr rfl) L2.ip_sub (by rfl) ?_ (by first | exact .inr rfl | exact .inl rfl)) ?_)
  | ((with_reducible show PSs _ (Stmt.AugAssign (Expr.Name "_law_cell" _) _ _ _ :: _) _); first | refine' pss_seq (psd_aug 9 nd (by rfl) (by first | exact .inl rfl | exact .inr rfl) L2.ip_add (by rfl) ?_ (by first | exact .inr rfl | exact .inl rfl)) ?s2 | refine' pss_seq (psd_aug 9 nd (by rfl) (by first | exact .inl rfl | exact .inr rfl) L2.ip_sub (by rfl) ?_ (by first | exact .inr rfl | exact .inl rfl)) ?_))
set_option hygiene false in
local macro_rules | `(tactic| walk_at "tgn") => `(tactic| first
  | ((with_reducible show PG _ (Expr.Name "_law_script" _) _); refine' pgd_name 0 nd (by rfl) (by first | exact .inl rfl | exact .inr rfl) (by first | exact .inr rfl | exact .inl rfl) (by first | decide | simp))
  | ((with_reducible show PG _ (Expr.Name "_law_begin" _) _); refine' pgd_name 1 nd (by rfl) (by first | exact .inl rfl | exact .inr rfl) (by first | exact .inr rfl | exact .inl rfl) (by first | decide | simp))
  | ((with_reducible show PG _ (Expr.Name "_law_many" _) _); refine' pgd_name 2 nd (by rfl) (by first | exact .inl rfl | exact .inr rfl) (by first | exact .inr rfl | exact .inl rfl) (by first | decide | simp))
  | ((with_reducible show PG _ (Expr.Name "_law_rests_here" _) _); refine' pgd_name 3 nd (by rfl) (by first | exact .inl rfl | exact .inr rfl) (by first | exact .inr rfl | exact .inl rfl) (by first | decide | simp))
  | ((with_reducible show PG _ (Expr.Name "_law_length" _) _); refine' pgd_name 4 nd (by rfl) (by first | exact .inl rfl | exact .inr rfl) (by first | exact .inr rfl | exact .inl rfl) (by first | decide | simp))
  | ((with_reducible show PG _ (Expr.Name "_law_rows_here" _) _); refine' pgd_name 5 nd (by rfl) (by first | exact .inl rfl | exact .inr rfl) (by first | exact .inr rfl | exact .inl rfl) (by first | decide | simp))
  | ((with_reducible show PG _ (Expr.Name "_law_k" _) _); refine' pgd_name 6 nd (by rfl) (by first | exact .inl rfl | exact .inr rfl) (by first | exact .inr rfl | exact .inl rfl) (by first | decide | simp))
  | ((with_reducible show PG _ (Expr.Name "_law_one" _) _); refine' pgd_name 7 nd (by rfl) (by first | exact .inl rfl | exact .inr rfl) (by first | exact .inr rfl | exact .inl rfl) (by first | decide | simp))
  | ((with_reducible show PG _ (Expr.Name "_law_other" _) _); refine' pgd_name 8 nd (by rfl) (by first | exact .inl rfl | exact .inr rfl) (by first | exact .inr rfl | exact .inl rfl) (by first | decide | simp))
  | ((with_reducible show PG _ (Expr.Name "_law_cell" _) _); refine' pgd_name 9 nd (by rfl) (by first | exact .inl rfl | exact .inr rfl) (by first | exact .inr rfl | exact .inl rfl) (by first | decide | simp)))
set_option hygiene false in
local macro_rules | `(tactic| walk_at "cl") => `(tactic| first
  | ((with_reducible show PE _ (Expr.Call (Expr.Name "_law_cell_at" _) _ _ _) _); (refine' pd_call c_l_cell_at hr (by decide) (by rfl) ?_ ⟨_, _, rfl, ?_, rfl⟩) <;> walk_at "go")
  | ((with_reducible show PE _ (Expr.Call (Expr.Name "_law_spot" _) _ _ _) _); (refine' pd_call c_l_spot hr (by decide) (by rfl) ?_ ⟨_, _, _, ?_, rfl, rfl⟩) <;> walk_at "go")
  | ((with_reducible show PE _ (Expr.Call (Expr.Name "_law_number" _) _ _ _) _); (refine' pd_call c_l_number hr (by decide) (by rfl) ?_ ⟨_, rfl, rfl⟩) <;> walk_at "go"))
set_option hygiene false in
local macro_rules | `(tactic| walk_at "fld") => `(tactic| first
  | ((with_reducible show PE _ (Expr.Attribute _ "place" _) _); (refine' pd_fld ?_ (by rfl) T.cl_Weight T.na_Weight_place ?_) <;> walk_at "go")
  | ((with_reducible show PE _ (Expr.Attribute _ "size" _) _); (refine' pd_fld ?_ (by rfl) T.cl_Weight T.na_Weight_size ?_) <;> walk_at "go")
  | ((with_reducible show PE _ (Expr.Attribute _ "start" _) _); (refine' pd_fld ?_ (by rfl) T.cl_Spread T.na_Spread_start ?_) <;> walk_at "go")
  | ((with_reducible show PE _ (Expr.Attribute _ "end" _) _); (refine' pd_fld ?_ (by rfl) T.cl_Spread T.na_Spread_end ?_) <;> walk_at "go")
  | ((with_reducible show PE _ (Expr.Attribute _ "each" _) _); (refine' pd_fld ?_ (by rfl) T.cl_Spread T.na_Spread_each ?_) <;> walk_at "go")
  | ((with_reducible show PE _ (Expr.Attribute _ "length" _) _); (refine' pd_fld ?_ (by rfl) T.cl_Beam T.na_Beam_length ?_) <;> walk_at "go")
  | ((with_reducible show PE _ (Expr.Attribute _ "rests" _) _); (refine' pd_fld ?_ (by rfl) T.cl_Beam T.na_Beam_rests ?_) <;> walk_at "go"))
variable {P : Program} {w : World} {K : PySem.W.Frag} {mg : Str → Option Value} {base : Heap} {cs : Cs}
theorem ok_l_rows {f : Addr} {fd : FuncData} (F : Fun K "_law_rows" "_law_rows" s_l_rows f fd) (T : Tx K mg cs) (c_l_cell_at : Cal P w K mg base "_law_cell_at" 1 P_l_cell_at (R_cell)) (c_l_spot : Cal P w K mg base "_law_spot" 1 P_l_spot (R_spot)) (c_l_number : Cal P w K mg base "_law_number" 1 P_l_number ((R_int1 (numOf 20)))) : FnOk P w K mg base (L2.CX P w) 2 f fd P_l_rows (spD K (R_rows 20)) := by
  refine def_ok F sc_l_rows (fun ds r h => ?_) (by decide) (fun cdv A outer s H E ds r hr h => ?_)
  · obtain ⟨ns, ρ, L, b, m, _, _, _, _, _, _, rfl, _⟩ := h; rfl
  · obtain ⟨ns, ρ, L, b, m, hB, hl, b0, b1, m0, m1, rfl, rfl⟩ := h
    have nd := sc_l_rows.nd
    have bm : Bd 10 m := by unfold Bd; omega
    have hg := rgc3 hl b0 b1 m0 m1
    have e1 : (ns.map D.int).length = ns.length := List.length_map ..
    refine pss_hd rfl ?_
    refine pss_newL 5 nd (by rfl) (.inl rfl) (pn_lst pas_nil (Nat.le_of_ble_eq_true rfl)) (by rfl) (by first | exact .inr rfl | exact .inl rfl) (fun l => ?_)
    refine pss_seq (psd_forT (js := [6]) (fun _ => [some (.sq (ns.map D.int)), some (.int b), some (.int m), some (iL ρ), some (.int L), some (.mref l), none, none, none, none])
      (fun i => [(l, rowsD ((List.range i).map fun i : Nat => rowAt 20 ns ρ L (b + (i : Int) * 3)))])
      (fun _ x => [some (.sq (ns.map D.int)), some (.int b), some (.int m), some (iL ρ), some (.int L), some (.mref l), some x, none, none, none]) (L2.passes_of (by rfl)) rfl
      (pid_range3 (by rfl) T.n_range (by walk_at "nm") (pd_min (by rfl) (by rfl) T.n_min (pd_cast (d' := .int (ns.length : Nat)) (pd_len (by rfl) T.n_len (by walk_at "nm") rfl) (by rw [e1])) (by walk_at "ev")) pd_int hg) (Wk.refl _) rfl (fun i x hx => by walk_at "tgn") (fun i x hx => ?_)) ?_
    · have hi : i < turns ns.length b m := by
        have := (List.getElem?_eq_some_iff.mp hx).1
        rwa [List.length_map, List.length_range] at this
      have hx2 : x = .int (b + (i : Int) * 3) := by
        have := mapR_get (f := fun i : Nat => D.int (b + (i : Int) * 3)) hi
        rw [this] at hx
        exact (Option.some.inj hx).symm
      subst hx2
      have ht := turns_le (len := ns.length) (b := b) m0
      walk_at "run"
      refine pss_ifset (i := 8) (d1 := .int (spot (cell ns (b + (i : Int) * 3)) ρ L)) (d2 := .int (spot (cell ns (b + (i : Int) * 3 + 1)) ρ L)) (by walk_at "tv") (fun h => ?_) rfl inferInstance ?_
      · walk_at "run"
        exact pss_nilD
      · have e : (if cell ns (b + (i : Int) * 3 + 2) % 3 = 0 then D.int (spot (cell ns (b + (i : Int) * 3)) ρ L) else D.int (spot (cell ns (b + (i : Int) * 3 + 1)) ρ L)) = .int (rowV ns ρ L (b + (i : Int) * 3)) := by unfold rowV; split <;> rfl
        rw [e]
        refine pss_wk (pss_seq (psd_append (by walk_at "nm") (by walk_at "ev") ?_) (pss_is pss_nilD ?_)) (δ' := [some (.sq (ns.map D.int)), some (.int b), some (.int m), some (iL ρ), some (.int L), some (.mref l), some (.int (b + (i : Int) * 3)), some (.int (spot (cell ns (b + (i : Int) * 3)) ρ L)), some (.int (rowV ns ρ L (b + (i : Int) * 3))), some (.int (cell ns (b + (i : Int) * 3 + 2)))]) ?_
        · rw [List.length_map, List.length_map, List.length_range]; omega
        · rw [List.range_succ, List.map_append]
          rw [show ∀ u v : List Row, rowsD (u ++ v) = D.lst (u.map rowD ++ v.map rowD) from fun u v => by unfold rowsD; rw [List.map_append]]
          rfl
        · exact .same (.same (.same (.same (.same (.same (.drop (.drop (.drop (.drop .nil)))))))))
    · rw [List.length_map, List.length_range]
      refine pss_frz (δ' := [some (.sq (ns.map D.int)), some (.int b), some (.int m), some (iL ρ), some (.int L), some (rowsD (rws 20 ns ρ L b m)), none, none, none, none]) (.same (.same (.same (.same (.same (.put (.same (.same (.same (.same .nil)))))))))) ?_
      walk_at "run"
theorem cal_l_rows {f : Addr} {fd : FuncData} (F : Fun K "_law_rows" "_law_rows" s_l_rows f fd) (hm : mg "_law_rows" = some (.ref f)) (T : Tx K mg cs) (c_l_cell_at : Cal P w K mg base "_law_cell_at" 1 P_l_cell_at (R_cell)) (c_l_spot : Cal P w K mg base "_law_spot" 1 P_l_spot (R_spot)) (c_l_number : Cal P w K mg base "_law_number" 1 P_l_number ((R_int1 (numOf 20)))) : Cal P w K mg base "_law_rows" 2 P_l_rows ((R_rows 20)) := ⟨f, fd, ok_l_rows F T c_l_cell_at c_l_spot c_l_number, hm, F.kp, F.binds fun _ _ _ _ _ _ us hl => match us, hl with | [_, _, _, _, _], _ => rfl⟩
end
section
set_option hygiene false in
local macro_rules | `(tactic| walk_at "nm") => `(tactic| first
  | ((with_reducible refine' pd_var (x := "_law_row") 0 ?_ ?_ ?_ ?_ ?_) <;> first | (with_reducible show D) | ((with_reducible show Vis _ _); first | exact .inl rfl | exact .inr (.inl rfl) | exact .inr (.inr rfl)) | ((with_reducible show (_ == _) = false); decide) | rfl))
set_option hygiene false in
local macro_rules | `(tactic| walk_at "set") => `(tactic| first
  | ((with_reducible show PSs _ (Stmt.Assign [Expr.Name "_law_row" _] _ _ :: _) _); refine' pss_seq (psd_set 0 nd (by rfl) (by first | exact .inl rfl | exact .inr rfl) ?_ (by rfl) (by first | exact .inr rfl | exact .inl rfl)) ?_))
set_option hygiene false in
local macro_rules | `(tactic| walk_at "aug") => `(tactic| first
  | ((with_reducible show PSs _ (Stmt.AugAssign (Expr.Name "_law_row" _) _ _ _ :: _) _); first | refine' pss_seq (psd_aug 0 nd (by rfl) (by first | exact .inl rfl | exact .inr rfl) L2.ip_add (by rfl) ?_ (by first | exact .inr rfl | exact .inl rfl)) ?s2 | refine' pss_seq (psd_aug 0 nd (by rfl) (by first | exact .inl rfl | exact .inr rfl) L2.ip_sub (by rfl) ?_ (by first | exact .inr rfl | exact .inl rfl)) ?_))
set_option hygiene false in
local macro_rules | `(tactic| walk_at "tgn") => `(tactic| first
  | ((with_reducible show PG _ (Expr.Name "_law_row" _) _); refine' pgd_name 0 nd (by rfl) (by first | exact .inl rfl | exact .inr rfl) (by first | exact .inr rfl | exact .inl rfl) (by first | decide | simp)))
set_option hygiene false in
local macro_rules | `(tactic| walk_at "cl") => `(tactic| first
  | ((with_reducible show PE _ (Expr.Call (Expr.Name "Weight" _) _ _ _) _); (refine' pd_cast (pd_make c_Weight_init hr (by decide) (by rfl) ?_ ⟨_, _, rfl, rfl⟩) ldW) <;> walk_at "go")
  | ((with_reducible show PE _ (Expr.Call (Expr.Name "Spread" _) _ _ _) _); (refine' pd_cast (pd_make c_Spread_init hr (by decide) (by rfl) ?_ ⟨_, _, _, rfl, .inr ⟨?_, rfl⟩⟩) (ldS ?_)) <;> walk_at "go"))
set_option hygiene false in
local macro_rules | `(tactic| walk_at "fld") => `(tactic| first
  | ((with_reducible show PE _ (Expr.Attribute _ "place" _) _); (refine' pd_fld ?_ (by rfl) T.cl_Weight T.na_Weight_place ?_) <;> walk_at "go")
  | ((with_reducible show PE _ (Expr.Attribute _ "size" _) _); (refine' pd_fld ?_ (by rfl) T.cl_Weight T.na_Weight_size ?_) <;> walk_at "go")
  | ((with_reducible show PE _ (Expr.Attribute _ "start" _) _); (refine' pd_fld ?_ (by rfl) T.cl_Spread T.na_Spread_start ?_) <;> walk_at "go")
  | ((with_reducible show PE _ (Expr.Attribute _ "end" _) _); (refine' pd_fld ?_ (by rfl) T.cl_Spread T.na_Spread_end ?_) <;> walk_at "go")
  | ((with_reducible show PE _ (Expr.Attribute _ "each" _) _); (refine' pd_fld ?_ (by rfl) T.cl_Spread T.na_Spread_each ?_) <;> walk_at "go")
  | ((with_reducible show PE _ (Expr.Attribute _ "length" _) _); (refine' pd_fld ?_ (by rfl) T.cl_Beam T.na_Beam_length ?_) <;> walk_at "go")
  | ((with_reducible show PE _ (Expr.Attribute _ "rests" _) _); (refine' pd_fld ?_ (by rfl) T.cl_Beam T.na_Beam_rests ?_) <;> walk_at "go"))
variable {P : Program} {w : World} {K : PySem.W.Frag} {mg : Str → Option Value} {base : Heap} {cs : Cs}
theorem ok_l_made {f : Addr} {fd : FuncData} (F : Fun K "_law_made" "_law_made" s_l_made f fd) (T : Tx K mg cs) (c_Weight_init : CalI P w K mg base cs.Weight "Weight" 1 P_Weight_init ["place", "size"] R_Winit) (c_Spread_init : CalI P w K mg base cs.Spread "Spread" 1 P_Spread_init ["start", "end", "each"] (R_Sinit cs)) : FnOk P w K mg base (L2.CX P w) 3 f fd P_l_made (spD K (R_made cs)) := by
  refine def_ok F sc_l_made (fun ds r h => ?_) (by decide) (fun cdv A outer s H E ds r hr h => ?_)
  · obtain ⟨w, _, rfl, _⟩ := h; rfl
  · obtain ⟨⟨a, b, n⟩, hle, rfl, rfl⟩ := h
    have nd := sc_l_made.nd
    refine pss_hd rfl ?_
    by_cases h : a = b
    · subst h
      refine pss_end (psd_ifT (by walk_at "tv") (by rfl) ?_) True.intro
      walk_at "run"
    · refine pss_seq (psd_ifF (by walk_at "tv") h pss_nilD) ?_
      have hlt : a < b := by
        have h2 : a ≤ b := hle
        omega
      walk_at "run"
theorem cal_l_made {f : Addr} {fd : FuncData} (F : Fun K "_law_made" "_law_made" s_l_made f fd) (hm : mg "_law_made" = some (.ref f)) (T : Tx K mg cs) (c_Weight_init : CalI P w K mg base cs.Weight "Weight" 1 P_Weight_init ["place", "size"] R_Winit) (c_Spread_init : CalI P w K mg base cs.Spread "Spread" 1 P_Spread_init ["start", "end", "each"] (R_Sinit cs)) : Cal P w K mg base "_law_made" 3 P_l_made ((R_made cs)) := ⟨f, fd, ok_l_made F T c_Weight_init c_Spread_init, hm, F.kp, F.binds fun _ _ _ _ _ _ us hl => match us, hl with | [_], _ => rfl⟩
end
section
set_option hygiene false in
local macro_rules | `(tactic| walk_at "nm") => `(tactic| first
  | ((with_reducible refine' pd_var (x := "_law_found") 0 ?_ ?_ ?_ ?_ ?_) <;> first | (with_reducible show D) | ((with_reducible show Vis _ _); first | exact .inl rfl | exact .inr (.inl rfl) | exact .inr (.inr rfl)) | ((with_reducible show (_ == _) = false); decide) | rfl))
set_option hygiene false in
local macro_rules | `(tactic| walk_at "set") => `(tactic| first
  | ((with_reducible show PSs _ (Stmt.Assign [Expr.Name "_law_found" _] _ _ :: _) _); refine' pss_seq (psd_set 0 nd (by rfl) (by first | exact .inl rfl | exact .inr rfl) ?_ (by rfl) (by first | exact .inr rfl | exact .inl rfl)) ?_))
set_option hygiene false in
local macro_rules | `(tactic| walk_at "aug") => `(tactic| first
  | ((with_reducible show PSs _ (Stmt.AugAssign (Expr.Name "_law_found" _) _ _ _ :: _) _); first | refine' pss_seq (psd_aug 0 nd (by rfl) (by first | exact .inl rfl | exact .inr rfl) L2.ip_add (by rfl) ?_ (by first | exact .inr rfl | exact .inl rfl)) ?s2 | refine' pss_seq (psd_aug 0 nd (by rfl) (by first | exact .inl rfl | exact .inr rfl) L2.ip_sub (by rfl) ?_ (by first | exact .inr rfl | exact .inl rfl)) ?_))
set_option hygiene false in
local macro_rules | `(tactic| walk_at "tgn") => `(tactic| first
  | ((with_reducible show PG _ (Expr.Name "_law_found" _) _); refine' pgd_name 0 nd (by rfl) (by first | exact .inl rfl | exact .inr rfl) (by first | exact .inr rfl | exact .inl rfl) (by first | decide | simp)))

set_option hygiene false in
local macro_rules | `(tactic| walk_at "fld") => `(tactic| first
  | ((with_reducible show PE _ (Expr.Attribute _ "place" _) _); (refine' pd_fld ?_ (by rfl) T.cl_Weight T.na_Weight_place ?_) <;> walk_at "go")
  | ((with_reducible show PE _ (Expr.Attribute _ "size" _) _); (refine' pd_fld ?_ (by rfl) T.cl_Weight T.na_Weight_size ?_) <;> walk_at "go")
  | ((with_reducible show PE _ (Expr.Attribute _ "start" _) _); (refine' pd_fld ?_ (by rfl) T.cl_Spread T.na_Spread_start ?_) <;> walk_at "go")
  | ((with_reducible show PE _ (Expr.Attribute _ "end" _) _); (refine' pd_fld ?_ (by rfl) T.cl_Spread T.na_Spread_end ?_) <;> walk_at "go")
  | ((with_reducible show PE _ (Expr.Attribute _ "each" _) _); (refine' pd_fld ?_ (by rfl) T.cl_Spread T.na_Spread_each ?_) <;> walk_at "go")
  | ((with_reducible show PE _ (Expr.Attribute _ "length" _) _); (refine' pd_fld ?_ (by rfl) T.cl_Beam T.na_Beam_length ?_) <;> walk_at "go")
  | ((with_reducible show PE _ (Expr.Attribute _ "rests" _) _); (refine' pd_fld ?_ (by rfl) T.cl_Beam T.na_Beam_rests ?_) <;> walk_at "go"))
variable {P : Program} {w : World} {K : PySem.W.Frag} {mg : Str → Option Value} {base : Heap} {cs : Cs}
theorem ok_l_whole {f : Addr} {fd : FuncData} (F : Fun K "_law_whole" "_law_whole" s_l_whole f fd) (T : Tx K mg cs) : FnOk P w K mg base (L2.CX P w) 1 f fd P_l_whole (spD K R_whole) := by
  refine def_ok F sc_l_whole (fun ds r h => ?_) (by decide) (fun cdv A outer s H E ds r hr h => ?_)
  · obtain ⟨a, rfl, _⟩ := h; rfl
  · obtain ⟨n, rfl, rfl⟩ := h
    have nd := sc_l_whole.nd
    refine pss_hd rfl ?_
    exact pss_end (psd_ret (pd_and (pd_isi (t := "int") (r := true) (by rfl) T.n_isinstance (by walk_at "nm") (pe_bltn (by rfl) T.n_int boot_intT rfl) (by rfl) (by decide +kernel)) fun _ => pd_one (pd_not (pd_isi (t := "int") (r := false) (by rfl) T.n_isinstance (by walk_at "nm") (pe_bltn (by rfl) T.n_bool boot_boolT rfl) (by rfl) (by decide +kernel))))) True.intro
theorem cal_l_whole {f : Addr} {fd : FuncData} (F : Fun K "_law_whole" "_law_whole" s_l_whole f fd) (hm : mg "_law_whole" = some (.ref f)) (T : Tx K mg cs) : Cal P w K mg base "_law_whole" 1 P_l_whole (R_whole) := ⟨f, fd, ok_l_whole F T, hm, F.kp, F.binds fun _ _ _ _ _ _ us hl => match us, hl with | [_], _ => rfl⟩
end
section
set_option hygiene false in
local macro_rules | `(tactic| walk_at "nm") => `(tactic| first
  | ((with_reducible refine' pd_var (x := "_law_found") 0 ?_ ?_ ?_ ?_ ?_) <;> first | (with_reducible show D) | ((with_reducible show Vis _ _); first | exact .inl rfl | exact .inr (.inl rfl) | exact .inr (.inr rfl)) | ((with_reducible show (_ == _) = false); decide) | rfl))
set_option hygiene false in
local macro_rules | `(tactic| walk_at "set") => `(tactic| first
  | ((with_reducible show PSs _ (Stmt.Assign [Expr.Name "_law_found" _] _ _ :: _) _); refine' pss_seq (psd_set 0 nd (by rfl) (by first | exact .inl rfl | exact .inr rfl) ?_ (by rfl) (by first | exact .inr rfl | exact .inl rfl)) ?_))
set_option hygiene false in
local macro_rules | `(tactic| walk_at "aug") => `(tactic| first
  | ((with_reducible show PSs _ (Stmt.AugAssign (Expr.Name "_law_found" _) _ _ _ :: _) _); first | refine' pss_seq (psd_aug 0 nd (by rfl) (by first | exact .inl rfl | exact .inr rfl) L2.ip_add (by rfl) ?_ (by first | exact .inr rfl | exact .inl rfl)) ?s2 | refine' pss_seq (psd_aug 0 nd (by rfl) (by first | exact .inl rfl | exact .inr rfl) L2.ip_sub (by rfl) ?_ (by first | exact .inr rfl | exact .inl rfl)) ?_))
set_option hygiene false in
local macro_rules | `(tactic| walk_at "tgn") => `(tactic| first
  | ((with_reducible show PG _ (Expr.Name "_law_found" _) _); refine' pgd_name 0 nd (by rfl) (by first | exact .inl rfl | exact .inr rfl) (by first | exact .inr rfl | exact .inl rfl) (by first | decide | simp)))
set_option hygiene false in
local macro_rules | `(tactic| walk_at "cl") => `(tactic| first
  | ((with_reducible show PE _ (Expr.Call (Expr.Name "_law_whole" _) _ _ _) _); (refine' pd_call c_l_whole hr (by decide) (by rfl) ?_ ⟨_, rfl, rfl⟩) <;> walk_at "go")
  | ((with_reducible show PE _ (Expr.Call (Expr.Name "_law_divisor" _) _ _ _) _); (refine' pd_call c_l_divisor hr (by decide) (by rfl) ?_ ⟨_, _, rfl, rfl⟩) <;> walk_at "go"))
set_option hygiene false in
local macro_rules | `(tactic| walk_at "fld") => `(tactic| first
  | ((with_reducible show PE _ (Expr.Attribute _ "place" _) _); (refine' pd_fld ?_ (by rfl) T.cl_Weight T.na_Weight_place ?_) <;> walk_at "go")
  | ((with_reducible show PE _ (Expr.Attribute _ "size" _) _); (refine' pd_fld ?_ (by rfl) T.cl_Weight T.na_Weight_size ?_) <;> walk_at "go")
  | ((with_reducible show PE _ (Expr.Attribute _ "start" _) _); (refine' pd_fld ?_ (by rfl) T.cl_Spread T.na_Spread_start ?_) <;> walk_at "go")
  | ((with_reducible show PE _ (Expr.Attribute _ "end" _) _); (refine' pd_fld ?_ (by rfl) T.cl_Spread T.na_Spread_end ?_) <;> walk_at "go")
  | ((with_reducible show PE _ (Expr.Attribute _ "each" _) _); (refine' pd_fld ?_ (by rfl) T.cl_Spread T.na_Spread_each ?_) <;> walk_at "go")
  | ((with_reducible show PE _ (Expr.Attribute _ "length" _) _); (refine' pd_fld ?_ (by rfl) T.cl_Beam T.na_Beam_length ?_) <;> walk_at "go")
  | ((with_reducible show PE _ (Expr.Attribute _ "rests" _) _); (refine' pd_fld ?_ (by rfl) T.cl_Beam T.na_Beam_rests ?_) <;> walk_at "go"))
variable {P : Program} {w : World} {K : PySem.W.Frag} {mg : Str → Option Value} {base : Heap} {cs : Cs}
theorem ok_l_is_fraction {f : Addr} {fd : FuncData} (F : Fun K "_law_is_fraction" "_law_is_fraction" s_l_is_fraction f fd) (T : Tx K mg cs) (c_l_whole : Cal P w K mg base "_law_whole" 1 P_l_whole (R_whole)) (c_l_divisor : Cal P w K mg base "_law_divisor" 1 P_l_divisor (R_divisor)) :
    FnOk P w K mg base (L2.CX P w) 2 f fd P_l_is_fraction (spD K R_isfrac) := by
  refine def_ok F sc_l_is_fraction (fun ds r h => ?_) (by decide) (fun cdv A outer s H E ds r hr h => ?_)
  · obtain ⟨a, b, rfl, _⟩ := h; rfl
  · obtain ⟨t, b, rfl, hb, hg, rfl⟩ := h
    have nd := sc_l_is_fraction.nd
    refine pss_hd rfl ?_
    refine pss_seq (psd_ifF (by walk_at "tv") (by simp) pss_nilD) ?_
    refine pss_seq (psd_ifF (by walk_at "tv") (by simp; omega) pss_nilD) ?_
    refine pss_end (psd_ret (pd_cast (by walk_at "ev") ?_)) True.intro
    unfold gcdI
    rw [hg]
    rfl
theorem cal_l_is_fraction {f : Addr} {fd : FuncData} (F : Fun K "_law_is_fraction" "_law_is_fraction" s_l_is_fraction f fd) (hm : mg "_law_is_fraction" = some (.ref f)) (T : Tx K mg cs) (c_l_whole : Cal P w K mg base "_law_whole" 1 P_l_whole (R_whole)) (c_l_divisor : Cal P w K mg base "_law_divisor" 1 P_l_divisor (R_divisor)) : Cal P w K mg base "_law_is_fraction" 2 P_l_is_fraction (R_isfrac) := ⟨f, fd, ok_l_is_fraction F T c_l_whole c_l_divisor, hm, F.kp, F.binds fun _ _ _ _ _ _ us hl => match us, hl with | [_], _ => rfl⟩
end
section
set_option hygiene false in
local macro_rules | `(tactic| walk_at "nm") => `(tactic| first
  | ((with_reducible refine' pd_var (x := "_law_top") 0 ?_ ?_ ?_ ?_ ?_) <;> first | (with_reducible show D) | ((with_reducible show Vis _ _); first | exact .inl rfl | exact .inr (.inl rfl) | exact .inr (.inr rfl)) | ((with_reducible show (_ == _) = false); decide) | rfl)
  | ((with_reducible refine' pd_var (x := "_law_bottom") 1 ?_ ?_ ?_ ?_ ?_) <;> first | (with_reducible show D) | ((with_reducible show Vis _ _); first | exact .inl rfl | exact .inr (.inl rfl) | exact .inr (.inr rfl)) | ((with_reducible show (_ == _) = false); decide) | rfl)
  | ((with_reducible refine' pd_var (x := "_law_by") 2 ?_ ?_ ?_ ?_ ?_) <;> first | (with_reducible show D) | ((with_reducible show Vis _ _); first | exact .inl rfl | exact .inr (.inl rfl) | exact .inr (.inr rfl)) | ((with_reducible show (_ == _) = false); decide) | rfl))
set_option hygiene false in
local macro_rules | `(tactic| walk_at "set") => `(tactic| first
  | ((with_reducible show PSs _ (Stmt.Assign [Expr.Name "_law_top" _] _ _ :: _) _); refine' pss_seq (psd_set 0 nd (by rfl) (by first | exact .inl rfl | exact .inr rfl) ?_ (by rfl) (by first | exact .inr rfl | exact .inl rfl)) ?_)
  | ((with_reducible show PSs _ (Stmt.Assign [Expr.Name "_law_bottom" _] _ _ :: _) _); refine' pss_seq (psd_set 1 nd (by rfl) (by first | exact .inl rfl | exact .inr rfl) ?_ (by rfl) (by first | exact .inr rfl | exact .inl rfl)) ?_)
  | ((with_reducible show PSs _ (Stmt.Assign [Expr.Name "_law_by" _] _ _ :: _) _); refine' pss_seq (psd_set 2 nd (by rfl) (by first | exact .inl rfl | exact .inr rfl) ?_ (by rfl) (by first | exact .inr rfl | exact .inl rfl)) ?_))
set_option hygiene false in
local macro_rules | `(tactic| walk_at "aug") => `(tactic| first
  | ((with_reducible show PSs _ (Stmt.AugAssign (Expr.Name "_law_top" _) _ _ _ :: _) _); first | refine' pss_seq (psd_aug 0 nd (by rfl) (by first | exact .inl rfl | exact .inr rfl) L2.ip_add (by rfl) ?_ (by first | exact .inr rfl | exact .inl rfl)) ?s2 | refine' pss_seq (psd_aug 0 nd (by rfl) (by first | exact .inl rfl | exact .inr rfl) L2.ip_sub (by rfl) ?_ (by first | exact .inr rfl | exact .inl rfl)) ?_)
  | ((with_reducible show PSs _ (Stmt.AugAssign (Expr.Name "_law_bottom" _) _ _ _ :: _) _); first | refine' pss_seq (psd_aug 1 nd (by rfl) (by first | exact .inl rfl | exact .inr rfl) L2.ip_add (by rfl) ?_ (by first | exact .inr rfl | exact .inl rfl)) ?s2 | refine' pss_seq (psd_aug 1 nd (by rfl) (by first | exact .inl rfl | exact .inr rfl) L2.ip_sub (by rfl) ?_ (by first | exact .inr rfl | exact .inl rfl)) ?_)
  | ((with_reducible show PSs _ (Stmt.AugAssign (Expr.Name "_law_by" _) _ _ _ :: _) _); first | refine' pss_seq (psd_aug 2 nd (by rfl) (by first | exact .inl rfl | exact .inr rfl) L2.ip_add (by rfl) ?_ (by first | exact .inr rfl | exact .inl rfl)) ?s2 | refine' pss_seq (psd_aug 2 nd (by rfl) (by first | exact .inl rfl | exact .inr rfl) L2.ip_sub (by rfl) ?_ (by first | exact .inr rfl | exact .inl rfl)) ?_))
set_option hygiene false in
local macro_rules | `(tactic| walk_at "tgn") => `(tactic| first
  | ((with_reducible show PG _ (Expr.Name "_law_top" _) _); refine' pgd_name 0 nd (by rfl) (by first | exact .inl rfl | exact .inr rfl) (by first | exact .inr rfl | exact .inl rfl) (by first | decide | simp))
  | ((with_reducible show PG _ (Expr.Name "_law_bottom" _) _); refine' pgd_name 1 nd (by rfl) (by first | exact .inl rfl | exact .inr rfl) (by first | exact .inr rfl | exact .inl rfl) (by first | decide | simp))
  | ((with_reducible show PG _ (Expr.Name "_law_by" _) _); refine' pgd_name 2 nd (by rfl) (by first | exact .inl rfl | exact .inr rfl) (by first | exact .inr rfl | exact .inl rfl) (by first | decide | simp)))
set_option hygiene false in
local macro_rules | `(tactic| walk_at "cl") => `(tactic| first
  | ((with_reducible show PE _ (Expr.Call (Expr.Name "_law_divisor" _) _ _ _) _); (refine' pd_call c_l_divisor hr (by decide) (by rfl) ?_ ⟨_, _, rfl, rfl⟩) <;> walk_at "go"))
set_option hygiene false in
local macro_rules | `(tactic| walk_at "fld") => `(tactic| first
  | ((with_reducible show PE _ (Expr.Attribute _ "place" _) _); (refine' pd_fld ?_ (by rfl) T.cl_Weight T.na_Weight_place ?_) <;> walk_at "go")
  | ((with_reducible show PE _ (Expr.Attribute _ "size" _) _); (refine' pd_fld ?_ (by rfl) T.cl_Weight T.na_Weight_size ?_) <;> walk_at "go")
  | ((with_reducible show PE _ (Expr.Attribute _ "start" _) _); (refine' pd_fld ?_ (by rfl) T.cl_Spread T.na_Spread_start ?_) <;> walk_at "go")
  | ((with_reducible show PE _ (Expr.Attribute _ "end" _) _); (refine' pd_fld ?_ (by rfl) T.cl_Spread T.na_Spread_end ?_) <;> walk_at "go")
  | ((with_reducible show PE _ (Expr.Attribute _ "each" _) _); (refine' pd_fld ?_ (by rfl) T.cl_Spread T.na_Spread_each ?_) <;> walk_at "go")
  | ((with_reducible show PE _ (Expr.Attribute _ "length" _) _); (refine' pd_fld ?_ (by rfl) T.cl_Beam T.na_Beam_length ?_) <;> walk_at "go")
  | ((with_reducible show PE _ (Expr.Attribute _ "rests" _) _); (refine' pd_fld ?_ (by rfl) T.cl_Beam T.na_Beam_rests ?_) <;> walk_at "go"))
variable {P : Program} {w : World} {K : PySem.W.Frag} {mg : Str → Option Value} {base : Heap} {cs : Cs}
theorem ok_l_lowest {f : Addr} {fd : FuncData} (F : Fun K "_law_lowest" "_law_lowest" s_l_lowest f fd) (T : Tx K mg cs) (c_l_divisor : Cal P w K mg base "_law_divisor" 1 P_l_divisor (R_divisor)) : FnOk P w K mg base (L2.CX P w) 2 f fd P_l_lowest (spD K R_lowest) := by
  refine def_ok F sc_l_lowest (fun ds r h => ?_) (by decide) (fun cdv A outer s H E ds r hr h => ?_)
  · obtain ⟨a, b, rfl, _⟩ := h; rfl
  · obtain ⟨t, b, rfl, hp, hb, rfl⟩ := h
    have nd := sc_l_lowest.nd
    have hg : 0 < gcdI t b := gcdI_pos (by omega)
    have hbd : Bd 4400 (gcdI t b) := gcdI_bd (by omega) hb
    rw [frD, frT_ed hp, frB_ed hp]
    refine pss_hd rfl ?_
    walk_at "run"
theorem cal_l_lowest {f : Addr} {fd : FuncData} (F : Fun K "_law_lowest" "_law_lowest" s_l_lowest f fd) (hm : mg "_law_lowest" = some (.ref f)) (T : Tx K mg cs) (c_l_divisor : Cal P w K mg base "_law_divisor" 1 P_l_divisor (R_divisor)) : Cal P w K mg base "_law_lowest" 2 P_l_lowest (R_lowest) := ⟨f, fd, ok_l_lowest F T c_l_divisor, hm, F.kp, F.binds fun _ _ _ _ _ _ us hl => match us, hl with | [_, _], _ => rfl⟩
end
section
set_option hygiene false in
local macro_rules | `(tactic| walk_at "nm") => `(tactic| first
  | ((with_reducible refine' pd_var (x := "_law_one") 0 ?_ ?_ ?_ ?_ ?_) <;> first | (with_reducible show D) | ((with_reducible show Vis _ _); first | exact .inl rfl | exact .inr (.inl rfl) | exact .inr (.inr rfl)) | ((with_reducible show (_ == _) = false); decide) | rfl)
  | ((with_reducible refine' pd_var (x := "_law_other") 1 ?_ ?_ ?_ ?_ ?_) <;> first | (with_reducible show D) | ((with_reducible show Vis _ _); first | exact .inl rfl | exact .inr (.inl rfl) | exact .inr (.inr rfl)) | ((with_reducible show (_ == _) = false); decide) | rfl)
  | ((with_reducible refine' pd_var (x := "_law_length") 2 ?_ ?_ ?_ ?_ ?_) <;> first | (with_reducible show D) | ((with_reducible show Vis _ _); first | exact .inl rfl | exact .inr (.inl rfl) | exact .inr (.inr rfl)) | ((with_reducible show (_ == _) = false); decide) | rfl)
  | ((with_reducible refine' pd_var (x := "_law_bottom") 3 ?_ ?_ ?_ ?_ ?_) <;> first | (with_reducible show D) | ((with_reducible show Vis _ _); first | exact .inl rfl | exact .inr (.inl rfl) | exact .inr (.inr rfl)) | ((with_reducible show (_ == _) = false); decide) | rfl)
  | ((with_reducible refine' pd_var (x := "_law_top") 4 ?_ ?_ ?_ ?_ ?_) <;> first | (with_reducible show D) | ((with_reducible show Vis _ _); first | exact .inl rfl | exact .inr (.inl rfl) | exact .inr (.inr rfl)) | ((with_reducible show (_ == _) = false); decide) | rfl))
set_option hygiene false in
local macro_rules | `(tactic| walk_at "set") => `(tactic| first
  | ((with_reducible show PSs _ (Stmt.Assign [Expr.Name "_law_one" _] _ _ :: _) _); refine' pss_seq (psd_set 0 nd (by rfl) (by first | exact .inl rfl | exact .inr rfl) ?_ (by rfl) (by first | exact .inr rfl | exact .inl rfl)) ?_)
  | ((with_reducible show PSs _ (Stmt.Assign [Expr.Name "_law_other" _] _ _ :: _) _); refine' pss_seq (psd_set 1 nd (by rfl) (by first | exact .inl rfl | exact .inr rfl) ?_ (by rfl) (by first | exact .inr rfl | exact .inl rfl)) ?_)
  | ((with_reducible show PSs _ (Stmt.Assign [Expr.Name "_law_length" _] _ _ :: _) _); refine' pss_seq (psd_set 2 nd (by rfl) (by first | exact .inl rfl | exact .inr rfl) ?_ (by rfl) (by first | exact .inr rfl | exact .inl rfl)) ?_)
  | ((with_reducible show PSs _ (Stmt.Assign [Expr.Name "_law_bottom" _] _ _ :: _) _); refine' pss_seq (psd_set 3 nd (by rfl) (by first | exact .inl rfl | exact .inr rfl) ?_ (by rfl) (by first | exact .inr rfl | exact .inl rfl)) ?_)
  | ((with_reducible show PSs _ (Stmt.Assign [Expr.Name "_law_top" _] _ _ :: _) _); refine' pss_seq (psd_set 4 nd (by rfl) (by first | exact .inl rfl | exact .inr rfl) ?_ (by rfl) (by first | exact .inr rfl | exact .inl rfl)) ?_))
set_option hygiene false in
local macro_rules | `(tactic| walk_at "aug") => `(tactic| first
  | ((with_reducible show PSs _ (Stmt.AugAssign (Expr.Name "_law_one" _) _ _ _ :: _) _); first | refine' pss_seq (psd_aug 0 nd (by rfl) (by first | exact .inl rfl | exact .inr rfl) L2.ip_add (by rfl) ?_ (by first | exact .inr rfl | exact .inl rfl)) ?s2 | refine' pss_seq (psd_aug 0 nd (by rfl) (by first | exact .inl rfl | exact .inr rfl) L2.ip_sub (by rfl) ?_ (by first | exact .inr rfl | exact .inl rfl)) ?_)
  | ((with_reducible show PSs _ (Stmt.AugAssign (Expr.Name "_law_other" _) _ _ _ :: _) _); first | refine' pss_seq (psd_aug 1 nd (by rfl) (by first | exact .inl rfl | exact .inr rfl) L2.ip_add (by rfl) ?_ (by first | exact .inr rfl | exact .inl rfl)) ?s2 | refine' pss_seq (psd_aug 1 nd (by rfl) (by first | exact .inl rfl | exact .inr rfl) L2.ip_sub (by rfl) ?_ (by first | exact .inr rfl | exact .inl rfl)) ?_)
  | ((with_reducible show PSs _ (Stmt.AugAssign (Expr.Name "_law_length" _) _ _ _ :: _) _); first | refine' pss_seq (psd_aug 2 nd (by rfl) (by first | exact .inl rfl | exact .inr rfl) L2.ip_add (by rfl) ?_ (by first | exact .inr rfl | exact .inl rfl)) ?s2 | refine' pss_seq (psd_aug 2 nd (by rfl) (by first | exact .inl rfl | exact .inr rfl) L2.ip_sub (by rfl) ?_ (by first | exact .inr rfl | exact .inl rfl)) ?_)
  | ((with_reducible show PSs _ (Stmt.AugAssign (Expr.Name "_law_bottom" _) _ _ _ :: _) _); first | refine' pss_seq (psd_aug 3 nd (by rfl) (by first | exact .inl rfl | exact .inr rfl) L2.ip_add (by rfl) ?_ (by first | exact .inr rfl | exact .inl rfl)) ?s2 | refine' pss_seq (psd_aug 3 nd (by rfl) (by first | exact .inl rfl | exact .inr rfl) L2.ip_sub (by rfl) ?_ (by first | exact .inr rfl | exact .inl rfl)) ?_)
  | ((with_reducible show PSs _ (Stmt.AugAssign (Expr.Name "_law_top" _) _ _ _ :: _) _); first | refine' pss_seq (psd_aug 4 nd (by rfl) (by first | exact .inl rfl | exact .inr rfl) L2.ip_add (by rfl) ?_ (by first | exact .inr rfl | exact .inl rfl)) ?s2 | refine' pss_seq (psd_aug 4 nd (by rfl) (by first | exact .inl rfl | exact .inr rfl) L2.ip_sub (by rfl) ?_ (by first | exact .inr rfl | exact .inl rfl)) ?_))
set_option hygiene false in
local macro_rules | `(tactic| walk_at "tgn") => `(tactic| first
  | ((with_reducible show PG _ (Expr.Name "_law_one" _) _); refine' pgd_name 0 nd (by rfl) (by first | exact .inl rfl | exact .inr rfl) (by first | exact .inr rfl | exact .inl rfl) (by first | decide | simp))
  | ((with_reducible show PG _ (Expr.Name "_law_other" _) _); refine' pgd_name 1 nd (by rfl) (by first | exact .inl rfl | exact .inr rfl) (by first | exact .inr rfl | exact .inl rfl) (by first | decide | simp))
  | ((with_reducible show PG _ (Expr.Name "_law_length" _) _); refine' pgd_name 2 nd (by rfl) (by first | exact .inl rfl | exact .inr rfl) (by first | exact .inr rfl | exact .inl rfl) (by first | decide | simp))
  | ((with_reducible show PG _ (Expr.Name "_law_bottom" _) _); refine' pgd_name 3 nd (by rfl) (by first | exact .inl rfl | exact .inr rfl) (by first | exact .inr rfl | exact .inl rfl) (by first | decide | simp))
  | ((with_reducible show PG _ (Expr.Name "_law_top" _) _); refine' pgd_name 4 nd (by rfl) (by first | exact .inl rfl | exact .inr rfl) (by first | exact .inr rfl | exact .inl rfl) (by first | decide | simp)))
set_option hygiene false in
local macro_rules | `(tactic| walk_at "cl") => `(tactic| first
  | ((with_reducible show PE _ (Expr.Call (Expr.Name "_law_lowest" _) _ _ _) _); (refine' pd_call c_l_lowest hr (by decide) (by rfl) ?_ ⟨_, _, rfl, ?_, ?_, rfl⟩) <;> walk_at "go"))
set_option hygiene false in
local macro_rules | `(tactic| walk_at "fld") => `(tactic| first
  | ((with_reducible show PE _ (Expr.Attribute _ "place" _) _); (refine' pd_fld ?_ (by rfl) T.cl_Weight T.na_Weight_place ?_) <;> walk_at "go")
  | ((with_reducible show PE _ (Expr.Attribute _ "size" _) _); (refine' pd_fld ?_ (by rfl) T.cl_Weight T.na_Weight_size ?_) <;> walk_at "go")
  | ((with_reducible show PE _ (Expr.Attribute _ "start" _) _); (refine' pd_fld ?_ (by rfl) T.cl_Spread T.na_Spread_start ?_) <;> walk_at "go")
  | ((with_reducible show PE _ (Expr.Attribute _ "end" _) _); (refine' pd_fld ?_ (by rfl) T.cl_Spread T.na_Spread_end ?_) <;> walk_at "go")
  | ((with_reducible show PE _ (Expr.Attribute _ "each" _) _); (refine' pd_fld ?_ (by rfl) T.cl_Spread T.na_Spread_each ?_) <;> walk_at "go")
  | ((with_reducible show PE _ (Expr.Attribute _ "length" _) _); (refine' pd_fld ?_ (by rfl) T.cl_Beam T.na_Beam_length ?_) <;> walk_at "go")
  | ((with_reducible show PE _ (Expr.Attribute _ "rests" _) _); (refine' pd_fld ?_ (by rfl) T.cl_Beam T.na_Beam_rests ?_) <;> walk_at "go"))
variable {P : Program} {w : World} {K : PySem.W.Frag} {mg : Str → Option Value} {base : Heap} {cs : Cs}
theorem ok_l_place {f : Addr} {fd : FuncData} (F : Fun K "_law_place" "_law_place" s_l_place f fd) (T : Tx K mg cs) (c_l_lowest : Cal P w K mg base "_law_lowest" 2 P_l_lowest (R_lowest)) : FnOk P w K mg base (L2.CX P w) 3 f fd P_l_place (spD K R_place) := by
  refine def_ok F sc_l_place (fun ds r h => ?_) (by decide) (fun cdv A outer s H E ds r hr h => ?_)
  · obtain ⟨a, b, c, _, _, rfl, _⟩ := h; rfl
  · obtain ⟨c, o, L, hL, bL, rfl, rfl⟩ := h
    have nd := sc_l_place.nd
    refine pss_hd rfl ?_
    walk_at "run"
    refine pss_ifset (i := 3) (d1 := .int (1 + c / 4 % 10 ^ 20)) (d2 := .int (1 + c / 4 % 12)) (by walk_at "tv") (fun h => ?_) rfl inferInstance ?_
    · walk_at "run"
      exact pss_nilD
    have e : (if c % 4 = 0 then D.int (1 + c / 4 % 10 ^ 20) else D.int (1 + c / 4 % 12)) = .int (plB c) := by unfold plB; split <;> rfl
    rw [e]
    have hp := plB_pos c
    have hb := plB_bd c
    have hm : 0 ≤ L * plB c := Int.mul_nonneg (by omega) (by omega)
    walk_at "run"
    refine pss_ifset (i := 4) (d1 := .int (L * plB c * (o / 3 % 1009) / 1008)) (d2 := .int (o / 3 % (L * plB c + 1))) (by walk_at "tv") (fun h => ?_) rfl inferInstance ?_
    · walk_at "run"
      exact pss_nilD
    have e2 : (if o % 3 = 1 then D.int (L * plB c * (o / 3 % 1009) / 1008) else D.int (o / 3 % (L * plB c + 1))) = .int (plT c o L) := by unfold plT; split <;> rfl
    rw [e2]
    walk_at "run"
theorem cal_l_place {f : Addr} {fd : FuncData} (F : Fun K "_law_place" "_law_place" s_l_place f fd) (hm : mg "_law_place" = some (.ref f)) (T : Tx K mg cs) (c_l_lowest : Cal P w K mg base "_law_lowest" 2 P_l_lowest (R_lowest)) : Cal P w K mg base "_law_place" 3 P_l_place (R_place) := ⟨f, fd, ok_l_place F T c_l_lowest, hm, F.kp, F.binds fun _ _ _ _ _ _ us hl => match us, hl with | [_, _, _], _ => rfl⟩
end
section
set_option hygiene false in
local macro_rules | `(tactic| walk_at "nm") => `(tactic| first
  | ((with_reducible refine' pd_var (x := "_law_rows_here") 0 ?_ ?_ ?_ ?_ ?_) <;> first | (with_reducible show D) | ((with_reducible show Vis _ _); first | exact .inl rfl | exact .inr (.inl rfl) | exact .inr (.inr rfl)) | ((with_reducible show (_ == _) = false); decide) | rfl)
  | ((with_reducible refine' pd_var (x := "_law_cell") 1 ?_ ?_ ?_ ?_ ?_) <;> first | (with_reducible show D) | ((with_reducible show Vis _ _); first | exact .inl rfl | exact .inr (.inl rfl) | exact .inr (.inr rfl)) | ((with_reducible show (_ == _) = false); decide) | rfl)
  | ((with_reducible refine' pd_var (x := "_law_found") 2 ?_ ?_ ?_ ?_ ?_) <;> first | (with_reducible show D) | ((with_reducible show Vis _ _); first | exact .inl rfl | exact .inr (.inl rfl) | exact .inr (.inr rfl)) | ((with_reducible show (_ == _) = false); decide) | rfl)
  | ((with_reducible refine' pd_var (x := "_law_start") 3 ?_ ?_ ?_ ?_ ?_) <;> first | (with_reducible show D) | ((with_reducible show Vis _ _); first | exact .inl rfl | exact .inr (.inl rfl) | exact .inr (.inr rfl)) | ((with_reducible show (_ == _) = false); decide) | rfl)
  | ((with_reducible refine' pd_var (x := "_law_end") 4 ?_ ?_ ?_ ?_ ?_) <;> first | (with_reducible show D) | ((with_reducible show Vis _ _); first | exact .inl rfl | exact .inr (.inl rfl) | exact .inr (.inr rfl)) | ((with_reducible show (_ == _) = false); decide) | rfl)
  | ((with_reducible refine' pd_var (x := "_law_number_here") 5 ?_ ?_ ?_ ?_ ?_) <;> first | (with_reducible show D) | ((with_reducible show Vis _ _); first | exact .inl rfl | exact .inr (.inl rfl) | exact .inr (.inr rfl)) | ((with_reducible show (_ == _) = false); decide) | rfl)
  | ((with_reducible refine' pd_var (x := "_law_at") 6 ?_ ?_ ?_ ?_ ?_) <;> first | (with_reducible show D) | ((with_reducible show Vis _ _); first | exact .inl rfl | exact .inr (.inl rfl) | exact .inr (.inr rfl)) | ((with_reducible show (_ == _) = false); decide) | rfl))
set_option hygiene false in
local macro_rules | `(tactic| walk_at "set") => `(tactic| first
  | ((with_reducible show PSs _ (Stmt.Assign [Expr.Name "_law_rows_here" _] _ _ :: _) _); refine' pss_seq (psd_set 0 nd (by rfl) (by first | exact .inl rfl | exact .inr rfl) ?_ (by rfl) (by first | exact .inr rfl | exact .inl rfl)) ?_)
  | ((with_reducible show PSs _ (Stmt.Assign [Expr.Name "_law_cell" _] _ _ :: _) _); refine' pss_seq (psd_set 1 nd (by rfl) (by first | exact .inl rfl | exact .inr rfl) ?_ (by rfl) (by first | exact .inr rfl | exact .inl rfl)) ?_)
  | ((with_reducible show PSs _ (Stmt.Assign [Expr.Name "_law_found" _] _ _ :: _) _); refine' pss_seq (psd_set 2 nd (by rfl) (by first | exact .inl rfl | exact .inr rfl) ?_ (by rfl) (by first | exact .inr rfl | exact .inl rfl)) ?_)
  | ((with_reducible show PSs _ (Stmt.Assign [Expr.Name "_law_start" _] _ _ :: _) _); refine' pss_seq (psd_set 3 nd (by rfl) (by first | exact .inl rfl | exact .inr rfl) ?_ (by rfl) (by first | exact .inr rfl | exact .inl rfl)) ?_)
  | ((with_reducible show PSs _ (Stmt.Assign [Expr.Name "_law_end" _] _ _ :: _) _); refine' pss_seq (psd_set 4 nd (by rfl) (by first | exact .inl rfl | exact .inr rfl) ?_ (by rfl) (by first | exact .inr rfl | exact .inl rfl)) ?_)
  | ((with_reducible show PSs _ (Stmt.Assign [Expr.Name "_law_number_here" _] _ _ :: _) _); refine' pss_seq (psd_set 5 nd (by rfl) (by first | exact .inl rfl | exact .inr rfl) ?_ (by rfl) (by first | exact .inr rfl | exact .inl rfl)) ?_)
  | ((with_reducible show PSs _ (Stmt.Assign [Expr.Name "_law_at" _] _ _ :: _) _); refine' pss_seq (psd_set 6 nd (by rfl) (by first | exact .inl rfl | exact .inr rfl) ?_ (by rfl) (by first | exact .inr rfl | exact .inl rfl)) ?_))
set_option hygiene false in
local macro_rules | `(tactic| walk_at "aug") => `(tactic| first
  | ((with_reducible show PSs _ (Stmt.AugAssign (Expr.Name "_law_rows_here" _) _ _ _ :: _) _); first | refine' pss_seq (psd_aug 0 nd (by rfl) (by first | exact .inl rfl | exact .inr rfl) L2.ip_add (by rfl) ?_ (by first | exact .inr rfl | exact .inl rfl)) ?s2 | refine' pss_seq (psd_aug 0 nd (by rfl) (by first | exact .inl rfl | exact .inr rfl) L2.ip_sub (by rfl) ?_ (by first | exact .inr rfl | exact .inl rfl)) ?_)
  | ((with_reducible show PSs _ (Stmt.AugAssign (Expr.Name "_law_cell" _) _ _ _ :: _) _); first | refine' pss_seq (psd_aug 1 nd (by rfl) (by first | exact .inl rfl | exact .inr rfl) L2.ip_add (by rfl) ?_ (by first | exact .inr rfl | exact .inl rfl)) ?s2 | refine' pss_seq (psd_aug 1 nd (by rfl) (by first | exact .inl rfl | exact .inr rfl) L2.ip_sub (by rfl) ?_ (by first | exact .inr rfl | exact .inl rfl)) ?_)
  | ((with_reducible show PSs _ (Stmt.AugAssign (Expr.Name "_law_found" _) _ _ _ :: _) _); first | refine' pss_seq (psd_aug 2 nd (by rfl) (by first | exact .inl rfl | exact .inr rfl) L2.ip_add (by rfl) ?_ (by first | exact .inr rfl | exact .inl rfl)) ?s2 | refine' pss_seq (psd_aug 2 nd (by rfl) (by first | exact .inl rfl | exact .inr rfl) L2.ip_sub (by rfl) ?_ (by first | exact .inr rfl | exact .inl rfl)) ?_)
  | ((with_reducible show PSs _ (Stmt.AugAssign (Expr.Name "_law_start" _) _ _ _ :: _) _); first | refine' pss_seq (psd_aug 3 nd (by rfl) (by first | exact .inl rfl | exact .inr rfl) L2.ip_add (by rfl) ?_ (by first | exact .inr rfl | exact .inl rfl)) ?s2 | refine' pss_seq (psd_aug 3 nd (by rfl) (by first | exact .inl rfl | exact .inr rfl) L2.ip_sub (by rfl) ?_ (by first | exact .inr rfl | exact .inl rfl)) ?_)
  | ((with_reducible show PSs _ (Stmt.AugAssign (Expr.Name "_law_end" _) _ _ _ :: _) _); first | refine' pss_seq (psd_aug 4 nd (by rfl) (by first | exact .inl rfl | exact .inr rfl) L2.ip_add (by rfl) ?_ (by first | exact .inr rfl | exact .inl rfl)) ?s2 | refine' pss_seq (psd_aug 4 nd (by rfl) (by first | exact .inl rfl | exact .inr rfl) L2.ip_sub (by rfl) ?_ (by first | exact .inr rfl | exact .inl rfl)) ?_)
  | ((with_reducible show PSs _ (Stmt.AugAssign (Expr.Name "_law_number_here" _) _ _ _ :: _) _); first | refine' pss_seq (psd_aug 5 nd (by rfl) (by first | exact .inl rfl | exact .inr rfl) L2.ip_add (by rfl) ?_ (by first | exact .inr rfl | exact .inl rfl)) ?s2 | refine' pss_seq (psd_aug 5 nd (by rfl) (by first | exact .inl rfl | exact .inr rfl) L2.ip_sub (by rfl) ?_ (by first | exact .inr rfl | exact .inl rfl)) ?_)
  | ((with_reducible show PSs _ (Stmt.AugAssign (Expr.Name "_law_at" _) _ _ _ :: _) _); first | refine' pss_seq (psd_aug 6 nd (by rfl) (by first | exact .inl rfl | exact .inr rfl) L2.ip_add (by rfl) ?_ (by first | exact .inr rfl | exact .inl rfl)) ?s2 | refine' pss_seq (psd_aug 6 nd (by rfl) (by first | exact .inl rfl | exact .inr rfl) L2.ip_sub (by rfl) ?_ (by first | exact .inr rfl | exact .inl rfl)) ?_))
set_option hygiene false in
local macro_rules | `(tactic| walk_at "tgn") => `(tactic| first
  | ((with_reducible show PG _ (Expr.Name "_law_rows_here" _) _); refine' pgd_name 0 nd (by rfl) (by first | exact .inl rfl | exact .inr rfl) (by first | exact .inr rfl | exact .inl rfl) (by first | decide | simp))
  | ((with_reducible show PG _ (Expr.Name "_law_cell" _) _); refine' pgd_name 1 nd (by rfl) (by first | exact .inl rfl | exact .inr rfl) (by first | exact .inr rfl | exact .inl rfl) (by first | decide | simp))
  | ((with_reducible show PG _ (Expr.Name "_law_found" _) _); refine' pgd_name 2 nd (by rfl) (by first | exact .inl rfl | exact .inr rfl) (by first | exact .inr rfl | exact .inl rfl) (by first | decide | simp))
  | ((with_reducible show PG _ (Expr.Name "_law_start" _) _); refine' pgd_name 3 nd (by rfl) (by first | exact .inl rfl | exact .inr rfl) (by first | exact .inr rfl | exact .inl rfl) (by first | decide | simp))
  | ((with_reducible show PG _ (Expr.Name "_law_end" _) _); refine' pgd_name 4 nd (by rfl) (by first | exact .inl rfl | exact .inr rfl) (by first | exact .inr rfl | exact .inl rfl) (by first | decide | simp))
  | ((with_reducible show PG _ (Expr.Name "_law_number_here" _) _); refine' pgd_name 5 nd (by rfl) (by first | exact .inl rfl | exact .inr rfl) (by first | exact .inr rfl | exact .inl rfl) (by first | decide | simp))
  | ((with_reducible show PG _ (Expr.Name "_law_at" _) _); refine' pgd_name 6 nd (by rfl) (by first | exact .inl rfl | exact .inr rfl) (by first | exact .inr rfl | exact .inl rfl) (by first | decide | simp)))

set_option hygiene false in
local macro_rules | `(tactic| walk_at "fld") => `(tactic| first
  | ((with_reducible show PE _ (Expr.Attribute _ "place" _) _); (refine' pd_fld ?_ (by rfl) T.cl_Weight T.na_Weight_place ?_) <;> walk_at "go")
  | ((with_reducible show PE _ (Expr.Attribute _ "size" _) _); (refine' pd_fld ?_ (by rfl) T.cl_Weight T.na_Weight_size ?_) <;> walk_at "go")
  | ((with_reducible show PE _ (Expr.Attribute _ "start" _) _); (refine' pd_fld ?_ (by rfl) T.cl_Spread T.na_Spread_start ?_) <;> walk_at "go")
  | ((with_reducible show PE _ (Expr.Attribute _ "end" _) _); (refine' pd_fld ?_ (by rfl) T.cl_Spread T.na_Spread_end ?_) <;> walk_at "go")
  | ((with_reducible show PE _ (Expr.Attribute _ "each" _) _); (refine' pd_fld ?_ (by rfl) T.cl_Spread T.na_Spread_each ?_) <;> walk_at "go")
  | ((with_reducible show PE _ (Expr.Attribute _ "length" _) _); (refine' pd_fld ?_ (by rfl) T.cl_Beam T.na_Beam_length ?_) <;> walk_at "go")
  | ((with_reducible show PE _ (Expr.Attribute _ "rests" _) _); (refine' pd_fld ?_ (by rfl) T.cl_Beam T.na_Beam_rests ?_) <;> walk_at "go"))
variable {P : Program} {w : World} {K : PySem.W.Frag} {mg : Str → Option Value} {base : Heap} {cs : Cs}
theorem ok_l_cut {f : Addr} {fd : FuncData} (F : Fun K "_law_cut" "_law_cut" s_l_cut f fd) (T : Tx K mg cs) : FnOk P w K mg base (L2.CX P w) 1 f fd P_l_cut (spN K R_cut) := by
  refine def_okN F sc_l_cut (fun ds r h => ?_) (by decide) (fun cdv A outer s H E ds r hr h => ?_)
  · obtain ⟨ls, c, _, _, rfl, _⟩ := h; rfl
  · obtain ⟨ls, c, hle, hlen, rfl, rfl⟩ := h
    have nd := sc_l_cut.nd
    refine pss_hd rfl ?_
    refine pss_newL 2 nd (by rfl) (.inl rfl) (pn_lst pas_nil (Nat.le_of_ble_eq_true rfl)) (by rfl) (by first | exact .inr rfl | exact .inl rfl) (fun l0 => ?_)
    refine pss_seqX (psd_forX (js := [3, 4, 5]) (fun i l => [some (rowsD ls), some (.int c), some (.mref l), none, none, none, none]) (fun i l => [(l, .lst ((cutLs c (ls.take i)).map rowD))])
      (fun i l y => match y with | .tup [u, v, n] => [some (rowsD ls), some (.int c), some (.mref l), some u, some v, some n, none] | _ => []) l0 (L2.passes_of (by rfl)) rfl
      (pid_list (by walk_at "nm") rfl) (Wk.refl _) rfl (fun i l y hy => ?_) (fun i l y hy => ?_)) (fun l => ?_)
    · obtain ⟨w, hi, hm, rfl⟩ := rows_get hy
      exact pgd_tup rfl (pgsd_cons (by walk_at "tgn") (pgsd_cons (by walk_at "tgn") (pgsd_cons (by walk_at "tgn") pgsd_nil))) rfl
    · obtain ⟨⟨a, b, n⟩, hi, hm, rfl⟩ := rows_get hy
      have le := hle _ hm
      simp only at le
      have hil : i < ls.length := (List.getElem?_eq_some_iff.mp hi).1
      have e1 := cut_take (c := c) hi
      have e2 : ((cutLs c (ls.take (i + 1))).map rowD) = ((cutLs c (ls.take i)).map rowD) ++ (cutRow c ⟨a, b, n⟩).map rowD := by rw [e1, List.map_append]
      have e3 : ((cutLs c (ls.take i)).map rowD).length ≤ 40 := by
        rw [List.length_map]
        have := cutLs_len c (ls.take i)
        rw [List.length_take] at this
        omega
      have nl : noLL (((cutLs c (ls.take i)).map rowD) ++ (cutRow c ⟨a, b, n⟩).map rowD) = true := by
        rw [← List.map_append]
        exact noLL_map (fun _ => by simp [noL, noLL]) _
      refine pss_hd rfl ?_
      rw [e2]
      generalize ((cutLs c (ls.take i)).map rowD) = done at *
      by_cases h0 : a = b
      · have e4 : (cutRow c ⟨a, b, n⟩).map rowD = [.tup [.int a, .int b, .int (n / 2)], .tup [.int a, .int b, .int (n - n / 2)]] := by
          unfold cutRow
          rw [if_pos h0]
          rfl
        rw [e4] at nl ⊢
        refine pss_seqX (psd_ifT (by walk_at "tv") h0 ?_) (fun l' => pss_nilX l' (Wk.refl _) rfl)
        refine pss_newL 2 nd (by rfl) (by first | exact .inl rfl | exact .inr rfl) (pn_thaw (δ' := [some (rowsD ls), some (.int c), some (.lst done), some (.int a), some (.int b), some (.int n), none]) (.same (.same (.put (Fz.refl _)))) (pn_cat (by walk_at "nm") (by walk_at "ev") rfl rfl (by show done.length + 2 ≤ 10000; omega)) nl rfl) (by rfl) (by first | exact .inr rfl | exact .inl rfl) (fun l' => pss_dropM (pss_nilX l' ?_ rfl))
        exact .same (.same (.same (.drop (.drop (.drop (.same .nil))))))
      · by_cases h1 : b - a = 1
        · have e4 : (cutRow c ⟨a, b, n⟩).map rowD = [.tup [.int a, .int b, .int n]] := by
            unfold cutRow
            rw [if_neg h0, if_pos h1]
            rfl
          rw [e4]
          refine pss_seqX (psd_ifF (by walk_at "tv") h0 (pss_seqX (psd_ifT (by walk_at "tv") h1 ?_) (fun l' => pss_nilX l' (Wk.refl _) rfl))) (fun l' => pss_nilX l' (Wk.refl _) rfl)
          refine pss_seq (psd_append (by walk_at "nm") (by walk_at "ev") (by omega)) (pss_nilX l ?_ rfl)
          exact .same (.same (.same (.drop (.drop (.drop (.same .nil))))))
        · have e4 : (cutRow c ⟨a, b, n⟩).map rowD = [.tup [.int a, .int (a + 1 + c % (b - a - 1)), .int n], .tup [.int (a + 1 + c % (b - a - 1)), .int b, .int n]] := by
            unfold cutRow
            rw [if_neg h0, if_neg h1]
            rfl
          rw [e4] at nl ⊢
          have hp : 0 < b - a - 1 := by omega
          refine pss_seqX (psd_ifF (by walk_at "tv") h0 (pss_seqX (psd_ifF (by walk_at "tv") h1 ?_) (fun l' => pss_nilX l' (Wk.refl _) rfl))) (fun l' => pss_nilX l' (Wk.refl _) rfl)
          walk_at "st"
          refine pss_newL 2 nd (by rfl) (by first | exact .inl rfl | exact .inr rfl) (pn_thaw (δ' := [some (rowsD ls), some (.int c), some (.lst done), some (.int a), some (.int b), some (.int n), some (.int (a + 1 + c % (b - a - 1)))]) (.same (.same (.put (Fz.refl _)))) (pn_cat (by walk_at "nm") (by walk_at "ev") rfl rfl (by show done.length + 2 ≤ 10000; omega)) nl rfl) (by rfl) (by first | exact .inr rfl | exact .inl rfl) (fun l' => pss_dropM (pss_nilX l' ?_ rfl))
          exact .same (.same (.same (.drop (.drop (.drop (.drop .nil))))))
    · rw [rows_len, List.take_length]
      exact pss_end (psd_retM (by walk_at "nm")) True.intro
theorem cal_l_cut {f : Addr} {fd : FuncData} (F : Fun K "_law_cut" "_law_cut" s_l_cut f fd) (hm : mg "_law_cut" = some (.ref f)) (T : Tx K mg cs) : CalN P w K mg base "_law_cut" 1 P_l_cut (R_cut) := ⟨f, fd, ok_l_cut F T, hm, F.kp, F.binds fun _ _ _ _ _ _ us hl => match us, hl with | [_, _], _ => rfl⟩
end
section
set_option hygiene false in
local macro_rules | `(tactic| walk_at "nm") => `(tactic| first
  | ((with_reducible refine' pd_var (x := "_law_beam") 0 ?_ ?_ ?_ ?_ ?_) <;> first | (with_reducible show D) | ((with_reducible show Vis _ _); first | exact .inl rfl | exact .inr (.inl rfl) | exact .inr (.inr rfl)) | ((with_reducible show (_ == _) = false); decide) | rfl)
  | ((with_reducible refine' pd_var (x := "_law_loads") 1 ?_ ?_ ?_ ?_ ?_) <;> first | (with_reducible show D) | ((with_reducible show Vis _ _); first | exact .inl rfl | exact .inr (.inl rfl) | exact .inr (.inr rfl)) | ((with_reducible show (_ == _) = false); decide) | rfl)
  | ((with_reducible refine' pd_var (x := "_law_x") 2 ?_ ?_ ?_ ?_ ?_) <;> first | (with_reducible show D) | ((with_reducible show Vis _ _); first | exact .inl rfl | exact .inr (.inl rfl) | exact .inr (.inr rfl)) | ((with_reducible show (_ == _) = false); decide) | rfl)
  | ((with_reducible refine' pd_var (x := "_law_many") 3 ?_ ?_ ?_ ?_ ?_) <;> first | (with_reducible show D) | ((with_reducible show Vis _ _); first | exact .inl rfl | exact .inr (.inl rfl) | exact .inr (.inr rfl)) | ((with_reducible show (_ == _) = false); decide) | rfl)
  | ((with_reducible refine' pd_var (x := "_law_ahead") 4 ?_ ?_ ?_ ?_ ?_) <;> first | (with_reducible show D) | ((with_reducible show Vis _ _); first | exact .inl rfl | exact .inr (.inl rfl) | exact .inr (.inr rfl)) | ((with_reducible show (_ == _) = false); decide) | rfl)
  | ((with_reducible refine' pd_var (x := "_law_turned") 5 ?_ ?_ ?_ ?_ ?_) <;> first | (with_reducible show D) | ((with_reducible show Vis _ _); first | exact .inl rfl | exact .inr (.inl rfl) | exact .inr (.inr rfl)) | ((with_reducible show (_ == _) = false); decide) | rfl)
  | ((with_reducible refine' pd_var (x := "_law_borne") 6 ?_ ?_ ?_ ?_ ?_) <;> first | (with_reducible show D) | ((with_reducible show Vis _ _); first | exact .inl rfl | exact .inr (.inl rfl) | exact .inr (.inr rfl)) | ((with_reducible show (_ == _) = false); decide) | rfl)
  | ((with_reducible refine' pd_var (x := "_law_found") 7 ?_ ?_ ?_ ?_ ?_) <;> first | (with_reducible show D) | ((with_reducible show Vis _ _); first | exact .inl rfl | exact .inr (.inl rfl) | exact .inr (.inr rfl)) | ((with_reducible show (_ == _) = false); decide) | rfl)
  | ((with_reducible refine' pd_var (x := "_law_one") 8 ?_ ?_ ?_ ?_ ?_) <;> first | (with_reducible show D) | ((with_reducible show Vis _ _); first | exact .inl rfl | exact .inr (.inl rfl) | exact .inr (.inr rfl)) | ((with_reducible show (_ == _) = false); decide) | rfl))
set_option hygiene false in
local macro_rules | `(tactic| walk_at "set") => `(tactic| first
  | ((with_reducible show PSs _ (Stmt.Assign [Expr.Name "_law_beam" _] _ _ :: _) _); refine' pss_seq (psd_set 0 nd (by rfl) (by first | exact .inl rfl | exact .inr rfl) ?_ (by rfl) (by first | exact .inr rfl | exact .inl rfl)) ?_)
  | ((with_reducible show PSs _ (Stmt.Assign [Expr.Name "_law_loads" _] _ _ :: _) _); refine' pss_seq (psd_set 1 nd (by rfl) (by first | exact .inl rfl | exact .inr rfl) ?_ (by rfl) (by first | exact .inr rfl | exact .inl rfl)) ?_)
  | ((with_reducible show PSs _ (Stmt.Assign [Expr.Name "_law_x" _] _ _ :: _) _); refine' pss_seq (psd_set 2 nd (by rfl) (by first | exact .inl rfl | exact .inr rfl) ?_ (by rfl) (by first | exact .inr rfl | exact .inl rfl)) ?_)
  | ((with_reducible show PSs _ (Stmt.Assign [Expr.Name "_law_many" _] _ _ :: _) _); refine' pss_seq (psd_set 3 nd (by rfl) (by first | exact .inl rfl | exact .inr rfl) ?_ (by rfl) (by first | exact .inr rfl | exact .inl rfl)) ?_)
  | ((with_reducible show PSs _ (Stmt.Assign [Expr.Name "_law_ahead" _] _ _ :: _) _); refine' pss_seq (psd_set 4 nd (by rfl) (by first | exact .inl rfl | exact .inr rfl) ?_ (by rfl) (by first | exact .inr rfl | exact .inl rfl)) ?_)
  | ((with_reducible show PSs _ (Stmt.Assign [Expr.Name "_law_turned" _] _ _ :: _) _); refine' pss_seq (psd_set 5 nd (by rfl) (by first | exact .inl rfl | exact .inr rfl) ?_ (by rfl) (by first | exact .inr rfl | exact .inl rfl)) ?_)
  | ((with_reducible show PSs _ (Stmt.Assign [Expr.Name "_law_borne" _] _ _ :: _) _); refine' pss_seq (psd_set 6 nd (by rfl) (by first | exact .inl rfl | exact .inr rfl) ?_ (by rfl) (by first | exact .inr rfl | exact .inl rfl)) ?_)
  | ((with_reducible show PSs _ (Stmt.Assign [Expr.Name "_law_found" _] _ _ :: _) _); refine' pss_seq (psd_set 7 nd (by rfl) (by first | exact .inl rfl | exact .inr rfl) ?_ (by rfl) (by first | exact .inr rfl | exact .inl rfl)) ?_)
  | ((with_reducible show PSs _ (Stmt.Assign [Expr.Name "_law_one" _] _ _ :: _) _); refine' pss_seq (psd_set 8 nd (by rfl) (by first | exact .inl rfl | exact .inr rfl) ?_ (by rfl) (by first | exact .inr rfl | exact .inl rfl)) ?_))
set_option hygiene false in
local macro_rules | `(tactic| walk_at "aug") => `(tactic| first
  | ((with_reducible show PSs _ (Stmt.AugAssign (Expr.Name "_law_beam" _) _ _ _ :: _) _); first | refine' pss_seq (psd_aug 0 nd (by rfl) (by first | exact .inl rfl | exact .inr rfl) L2.ip_add (by rfl) ?_ (by first | exact .inr rfl | exact .inl rfl)) ?s2 | refine' pss_seq (psd_aug 0 nd (by rfl) (by first | exact .inl rfl | exact .inr rfl) L2.ip_sub (by rfl) ?_ (by first | exact .inr rfl | exact .inl rfl)) ?_)
  | ((with_reducible show PSs _ (Stmt.AugAssign (Expr.Name "_law_loads" _) _ _ _ :: _) _); first | refine' pss_seq (psd_aug 1 nd (by rfl) (by first | exact .inl rfl | exact .inr rfl) L2.ip_add (by rfl) ?_ (by first | exact .inr rfl | exact .inl rfl)) ?s2 | refine' pss_seq (psd_aug 1 nd (by rfl) (by first | exact .inl rfl | exact .inr rfl) L2.ip_sub (by rfl) ?_ (by first | exact .inr rfl | exact .inl rfl)) ?_)
  | ((with_reducible show PSs _ (Stmt.AugAssign (Expr.Name "_law_x" _) _ _ _ :: _) _); first | refine' pss_seq (psd_aug 2 nd (by rfl) (by first | exact .inl rfl | exact .inr rfl) L2.ip_add (by rfl) ?_ (by first | exact .inr rfl | exact .inl rfl)) ?s2 | refine' pss_seq (psd_aug 2 nd (by rfl) (by first | exact .inl rfl | exact .inr rfl) L2.ip_sub (by rfl) ?_ (by first | exact .inr rfl | exact .inl rfl)) ?_)
  | ((with_reducible show PSs _ (Stmt.AugAssign (Expr.Name "_law_many" _) _ _ _ :: _) _); first | refine' pss_seq (psd_aug 3 nd (by rfl) (by first | exact .inl rfl | exact .inr rfl) L2.ip_add (by rfl) ?_ (by first | exact .inr rfl | exact .inl rfl)) ?s2 | refine' pss_seq (psd_aug 3 nd (by rfl) (by first | exact .inl rfl | exact .inr rfl) L2.ip_sub (by rfl) ?_ (by first | exact .inr rfl | exact .inl rfl)) ?_)
  | ((with_reducible show PSs _ (Stmt.AugAssign (Expr.Name "_law_ahead" _) _ _ _ :: _) _); first | refine' pss_seq (psd_aug 4 nd (by rfl) (by first | exact .inl rfl | exact .inr rfl) L2.ip_add (by rfl) ?_ (by first | exact .inr rfl | exact .inl rfl)) ?s2 | refine' pss_seq (psd_aug 4 nd (by rfl) (by first | exact .inl rfl | exact .inr rfl) L2.ip_sub (by rfl) ?_ (by first | exact .inr rfl | exact .inl rfl)) ?_)
  | ((with_reducible show PSs _ (Stmt.AugAssign (Expr.Name "_law_turned" _) _ _ _ :: _) _); first | refine' pss_seq (psd_aug 5 nd (by rfl) (by first | exact .inl rfl | exact .inr rfl) L2.ip_add (by rfl) ?_ (by first | exact .inr rfl | exact .inl rfl)) ?s2 | refine' pss_seq (psd_aug 5 nd (by rfl) (by first | exact .inl rfl | exact .inr rfl) L2.ip_sub (by rfl) ?_ (by first | exact .inr rfl | exact .inl rfl)) ?_)
  | ((with_reducible show PSs _ (Stmt.AugAssign (Expr.Name "_law_borne" _) _ _ _ :: _) _); first | refine' pss_seq (psd_aug 6 nd (by rfl) (by first | exact .inl rfl | exact .inr rfl) L2.ip_add (by rfl) ?_ (by first | exact .inr rfl | exact .inl rfl)) ?s2 | refine' pss_seq (psd_aug 6 nd (by rfl) (by first | exact .inl rfl | exact .inr rfl) L2.ip_sub (by rfl) ?_ (by first | exact .inr rfl | exact .inl rfl)) ?_)
  | ((with_reducible show PSs _ (Stmt.AugAssign (Expr.Name "_law_found" _) _ _ _ :: _) _); first | refine' pss_seq (psd_aug 7 nd (by rfl) (by first | exact .inl rfl | exact .inr rfl) L2.ip_add (by rfl) ?_ (by first | exact .inr rfl | exact .inl rfl)) ?s2 | refine' pss_seq (psd_aug 7 nd (by rfl) (by first | exact .inl rfl | exact .inr rfl) L2.ip_sub (by rfl) ?_ (by first | exact .inr rfl | exact .inl rfl)) ?_)
  | ((with_reducible show PSs _ (Stmt.AugAssign (Expr.Name "_law_one" _) _ _ _ :: _) _); first | refine' pss_seq (psd_aug 8 nd (by rfl) (by first | exact .inl rfl | exact .inr rfl) L2.ip_add (by rfl) ?_ (by first | exact .inr rfl | exact .inl rfl)) ?s2 | refine' pss_seq (psd_aug 8 nd (by rfl) (by first | exact .inl rfl | exact .inr rfl) L2.ip_sub (by rfl) ?_ (by first | exact .inr rfl | exact .inl rfl)) ?_))
set_option hygiene false in
local macro_rules | `(tactic| walk_at "tgn") => `(tactic| first
  | ((with_reducible show PG _ (Expr.Name "_law_beam" _) _); refine' pgd_name 0 nd (by rfl) (by first | exact .inl rfl | exact .inr rfl) (by first | exact .inr rfl | exact .inl rfl) (by first | decide | simp))
  | ((with_reducible show PG _ (Expr.Name "_law_loads" _) _); refine' pgd_name 1 nd (by rfl) (by first | exact .inl rfl | exact .inr rfl) (by first | exact .inr rfl | exact .inl rfl) (by first | decide | simp))
  | ((with_reducible show PG _ (Expr.Name "_law_x" _) _); refine' pgd_name 2 nd (by rfl) (by first | exact .inl rfl | exact .inr rfl) (by first | exact .inr rfl | exact .inl rfl) (by first | decide | simp))
  | ((with_reducible show PG _ (Expr.Name "_law_many" _) _); refine' pgd_name 3 nd (by rfl) (by first | exact .inl rfl | exact .inr rfl) (by first | exact .inr rfl | exact .inl rfl) (by first | decide | simp))
  | ((with_reducible show PG _ (Expr.Name "_law_ahead" _) _); refine' pgd_name 4 nd (by rfl) (by first | exact .inl rfl | exact .inr rfl) (by first | exact .inr rfl | exact .inl rfl) (by first | decide | simp))
  | ((with_reducible show PG _ (Expr.Name "_law_turned" _) _); refine' pgd_name 5 nd (by rfl) (by first | exact .inl rfl | exact .inr rfl) (by first | exact .inr rfl | exact .inl rfl) (by first | decide | simp))
  | ((with_reducible show PG _ (Expr.Name "_law_borne" _) _); refine' pgd_name 6 nd (by rfl) (by first | exact .inl rfl | exact .inr rfl) (by first | exact .inr rfl | exact .inl rfl) (by first | decide | simp))
  | ((with_reducible show PG _ (Expr.Name "_law_found" _) _); refine' pgd_name 7 nd (by rfl) (by first | exact .inl rfl | exact .inr rfl) (by first | exact .inr rfl | exact .inl rfl) (by first | decide | simp))
  | ((with_reducible show PG _ (Expr.Name "_law_one" _) _); refine' pgd_name 8 nd (by rfl) (by first | exact .inl rfl | exact .inr rfl) (by first | exact .inr rfl | exact .inl rfl) (by first | decide | simp)))
set_option hygiene false in
local macro_rules | `(tactic| walk_at "cl") => `(tactic| first
  | ((with_reducible show PE _ (Expr.Call (Expr.Name "_law_is_fraction" _) _ _ _) _); (refine' pd_call c_l_is_fraction hr (by decide) (by rfl) ?_ ⟨_, _, rfl, ?_, ?_, rfl⟩) <;> walk_at "go"))
set_option hygiene false in
local macro_rules | `(tactic| walk_at "fld") => `(tactic| first
  | ((with_reducible show PE _ (Expr.Attribute _ "place" _) _); (refine' pd_fld ?_ (by rfl) T.cl_Weight T.na_Weight_place ?_) <;> walk_at "go")
  | ((with_reducible show PE _ (Expr.Attribute _ "size" _) _); (refine' pd_fld ?_ (by rfl) T.cl_Weight T.na_Weight_size ?_) <;> walk_at "go")
  | ((with_reducible show PE _ (Expr.Attribute _ "start" _) _); (refine' pd_fld ?_ (by rfl) T.cl_Spread T.na_Spread_start ?_) <;> walk_at "go")
  | ((with_reducible show PE _ (Expr.Attribute _ "end" _) _); (refine' pd_fld ?_ (by rfl) T.cl_Spread T.na_Spread_end ?_) <;> walk_at "go")
  | ((with_reducible show PE _ (Expr.Attribute _ "each" _) _); (refine' pd_fld ?_ (by rfl) T.cl_Spread T.na_Spread_each ?_) <;> walk_at "go")
  | ((with_reducible show PE _ (Expr.Attribute _ "length" _) _); (refine' pd_fld ?_ (by rfl) T.cl_Beam T.na_Beam_length ?_) <;> walk_at "go")
  | ((with_reducible show PE _ (Expr.Attribute _ "rests" _) _); (refine' pd_fld ?_ (by rfl) T.cl_Beam T.na_Beam_rests ?_) <;> walk_at "go"))
variable {P : Program} {w : World} {K : PySem.W.Frag} {mg : Str → Option Value} {base : Heap} {cs : Cs}
theorem ok_l_told {f : Addr} {fd : FuncData} (F : Fun K "_law_told" "_law_told" s_l_told f fd) (T : Tx K mg cs) (c_Beam_bears : CalNM P w K mg base cs.Beam "bears" 4 P_Beam_bears ((R_bears cs))) (c_turning : Cal P w K mg base "turning" 4 P_turning ((R_turning cs))) (c_l_is_fraction : Cal P w K mg base "_law_is_fraction" 2 P_l_is_fraction (R_isfrac)) : FnOk P w K mg base (L2.CX P w) 5 f fd P_l_told (spN K (R_told cs)) := by
  refine def_okN F sc_l_told (fun ds r h => ?_) (by decide) (fun cdv A outer s H E ds r hr h => ?_)
  · obtain ⟨L, ρ, ls, dl, q, ah, _, _, _, _, _, _, _, rfl, _⟩ := h; rfl
  · obtain ⟨L, ρ, ls, dl, q, ah, hq, hrs, hbr, bL, hls, hall, hp, rfl, rfl⟩ := h
    have nd := sc_l_told.nd
    have h1 := hp.pos
    have h2 : Bd 1800 q.1 := hp.bt.mono (by decide)
    have h3 : Bd 1800 q.2 := hp.bd.mono (by decide)
    have hlen := hrs.len_le
    have hnl := nums_len hrs ls
    have htn : ∀ {X : Cx} {δ : De} {e : Expr}, True := fun {_ _ _} => True.intro
    have tail : PSs (cxD P w K mg base N_l_told "_law_told" s_l_told f cdv A outer s H E) ((defBody s_l_told).drop 4)
        (tS K E [some (bmD cs L ρ), some dl, some (plD q), some (.int (((ρ.map D.int).length : Nat) : Int)), some (.bl ah), some (wiD ρ ls q.1 q.2), some (.lst (bearsD ρ ls)), none, none] [] (.rn ((toldP ρ ls q).map plD))) := by
      refine pss_hd rfl ?_
      refine pss_seq (psd_ifF (p := (¬ (true = true)) ∨ (((bearsD ρ ls).length : Nat) : Int) ≠ (((ρ.map D.int).length : Nat) : Int)) (by walk_at "tv") (by rw [bears_len, hnl, List.length_map]; simp) pss_nilD) ?_
      refine pss_newL 7 nd (by rfl) (.inl rfl) (ds := (toldP ρ ls q).map plD) (by
        rw [← told_D]
        exact pn_cat (by walk_at "nm") (by walk_at "ev") rfl rfl (by rw [bears_len, hnl]; show _ + 1 ≤ _; omega)) (by rfl) (by first | exact .inr rfl | exact .inl rfl) (fun l => ?_)
      refine pss_seq (psd_forMI (js := [8]) [some (bmD cs L ρ), some dl, some (plD q), some (.int (((ρ.map D.int).length : Nat) : Int)), some (.bl ah), some (wiD ρ ls q.1 q.2), some (.lst (bearsD ρ ls)), some (.mref l), none]
        (fun x => [some (bmD cs L ρ), some dl, some (plD q), some (.int (((ρ.map D.int).length : Nat) : Int)), some (.bl ah), some (wiD ρ ls q.1 q.2), some (.lst (bearsD ρ ls)), some (.mref l), some x]) (L2.passes_of (by rfl)) rfl (by walk_at "nm") (Wk.refl _) (fun vs x hx => by walk_at "tgn") (fun vs x hx => ?_)) ?_
      · obtain ⟨y, hy, rfl⟩ := List.mem_map.mp hx
        obtain ⟨f1, f2⟩ := told_frac hrs h1 y hy
        refine pss_wk (pss_hd rfl (pss_seq (psd_ifF (p := ¬ (true = true)) (ptd_not (ptd_val (pd_call c_l_is_fraction hr (by decide) (by rfl) (by walk_at "ar") ⟨y.1, y.2, rfl, f1, f2, rfl⟩) (fun _ => rfl))) (by simp) pss_nilD) pss_nilD)) ?_
        exact .same (.same (.same (.same (.same (.same (.same (.same (.drop .nil))))))))
      · exact pss_end (psd_retM (by walk_at "nm")) True.intro
    refine pss_hd rfl ?_
    walk_at "st"
    cases ah with
    | true =>
      refine pss_seq (psd_ifT (p := true = true) (by walk_at "tv") rfl (pss_seq (psd_set 5 nd (by rfl) (by first | exact .inl rfl | exact .inr rfl) (pd_call c_turning hr (by decide) (by rfl) (by walk_at "ar") ⟨L, ρ, ls, dl, q.1, q.2, hq, rfl, hrs, hbr, bL, hls, h1, h2, h3, .inl ⟨⟨hp.lo, hp.hi⟩, hall, rfl⟩⟩) (by rfl) (by first | exact .inr rfl | exact .inl rfl)) pss_nilD)) ?_
      refine pss_seq (psd_set 6 nd (by rfl) (by first | exact .inl rfl | exact .inr rfl) (pd_new (pn_meth c_Beam_bears (by walk_at "nm") hr (by decide) (by walk_at "ar") rfl ⟨L, ρ, ls, dl, hq, rfl, hrs, hbr, hls, .inl ⟨hall, rfl⟩⟩)) (by rfl) (by first | exact .inr rfl | exact .inl rfl)) ?_
      refine pss_seq (psd_ifF (p := ¬ (true = true)) (by walk_at "tv") (by simp) pss_nilD) ?_
      exact tail
    | false =>
      refine pss_seq (psd_ifF (p := false = true) (by walk_at "tv") (by simp) pss_nilD) ?_
      refine pss_seq (psd_set 6 nd (by rfl) (by first | exact .inl rfl | exact .inr rfl) (pd_new (pn_meth c_Beam_bears (by walk_at "nm") hr (by decide) (by walk_at "ar") rfl ⟨L, ρ, ls, dl, hq, rfl, hrs, hbr, hls, .inl ⟨hall, rfl⟩⟩)) (by rfl) (by first | exact .inr rfl | exact .inl rfl)) ?_
      refine pss_seq (psd_ifT (p := ¬ (false = true)) (by walk_at "tv") (by simp) (pss_seq (psd_set 5 nd (by rfl) (by first | exact .inl rfl | exact .inr rfl) (pd_call c_turning hr (by decide) (by rfl) (by walk_at "ar") ⟨L, ρ, ls, dl, q.1, q.2, hq, rfl, hrs, hbr, bL, hls, h1, h2, h3, .inl ⟨⟨hp.lo, hp.hi⟩, hall, rfl⟩⟩) (by rfl) (by first | exact .inr rfl | exact .inl rfl)) pss_nilD)) ?_
      exact tail
theorem cal_l_told {f : Addr} {fd : FuncData} (F : Fun K "_law_told" "_law_told" s_l_told f fd) (hm : mg "_law_told" = some (.ref f)) (T : Tx K mg cs) (c_Beam_bears : CalNM P w K mg base cs.Beam "bears" 4 P_Beam_bears ((R_bears cs))) (c_turning : Cal P w K mg base "turning" 4 P_turning ((R_turning cs))) (c_l_is_fraction : Cal P w K mg base "_law_is_fraction" 2 P_l_is_fraction (R_isfrac)) : CalN P w K mg base "_law_told" 5 P_l_told ((R_told cs)) := ⟨f, fd, ok_l_told F T c_Beam_bears c_turning c_l_is_fraction, hm, F.kp, F.binds fun _ _ _ _ _ _ us hl => match us, hl with | [_, _, _, _, _], _ => rfl⟩
end
section
set_option hygiene false in
local macro_rules | `(tactic| walk_at "nm") => `(tactic| first
  | ((with_reducible refine' pd_var (x := "_law_ones") 0 ?_ ?_ ?_ ?_ ?_) <;> first | (with_reducible show D) | ((with_reducible show Vis _ _); first | exact .inl rfl | exact .inr (.inl rfl) | exact .inr (.inr rfl)) | ((with_reducible show (_ == _) = false); decide) | rfl)
  | ((with_reducible refine' pd_var (x := "_law_others") 1 ?_ ?_ ?_ ?_ ?_) <;> first | (with_reducible show D) | ((with_reducible show Vis _ _); first | exact .inl rfl | exact .inr (.inl rfl) | exact .inr (.inr rfl)) | ((with_reducible show (_ == _) = false); decide) | rfl)
  | ((with_reducible refine' pd_var (x := "_law_both") 2 ?_ ?_ ?_ ?_ ?_) <;> first | (with_reducible show D) | ((with_reducible show Vis _ _); first | exact .inl rfl | exact .inr (.inl rfl) | exact .inr (.inr rfl)) | ((with_reducible show (_ == _) = false); decide) | rfl)
  | ((with_reducible refine' pd_var (x := "_law_one") 3 ?_ ?_ ?_ ?_ ?_) <;> first | (with_reducible show D) | ((with_reducible show Vis _ _); first | exact .inl rfl | exact .inr (.inl rfl) | exact .inr (.inr rfl)) | ((with_reducible show (_ == _) = false); decide) | rfl)
  | ((with_reducible refine' pd_var (x := "_law_other") 4 ?_ ?_ ?_ ?_ ?_) <;> first | (with_reducible show D) | ((with_reducible show Vis _ _); first | exact .inl rfl | exact .inr (.inl rfl) | exact .inr (.inr rfl)) | ((with_reducible show (_ == _) = false); decide) | rfl)
  | ((with_reducible refine' pd_var (x := "_law_found") 5 ?_ ?_ ?_ ?_ ?_) <;> first | (with_reducible show D) | ((with_reducible show Vis _ _); first | exact .inl rfl | exact .inr (.inl rfl) | exact .inr (.inr rfl)) | ((with_reducible show (_ == _) = false); decide) | rfl)
  | ((with_reducible refine' pd_var (x := "_law_top") 6 ?_ ?_ ?_ ?_ ?_) <;> first | (with_reducible show D) | ((with_reducible show Vis _ _); first | exact .inl rfl | exact .inr (.inl rfl) | exact .inr (.inr rfl)) | ((with_reducible show (_ == _) = false); decide) | rfl))
set_option hygiene false in
local macro_rules | `(tactic| walk_at "set") => `(tactic| first
  | ((with_reducible show PSs _ (Stmt.Assign [Expr.Name "_law_ones" _] _ _ :: _) _); refine' pss_seq (psd_set 0 nd (by rfl) (by first | exact .inl rfl | exact .inr rfl) ?_ (by rfl) (by first | exact .inr rfl | exact .inl rfl)) ?_)
  | ((with_reducible show PSs _ (Stmt.Assign [Expr.Name "_law_others" _] _ _ :: _) _); refine' pss_seq (psd_set 1 nd (by rfl) (by first | exact .inl rfl | exact .inr rfl) ?_ (by rfl) (by first | exact .inr rfl | exact .inl rfl)) ?_)
  | ((with_reducible show PSs _ (Stmt.Assign [Expr.Name "_law_both" _] _ _ :: _) _); refine' pss_seq (psd_set 2 nd (by rfl) (by first | exact .inl rfl | exact .inr rfl) ?_ (by rfl) (by first | exact .inr rfl | exact .inl rfl)) ?_)
  | ((with_reducible show PSs _ (Stmt.Assign [Expr.Name "_law_one" _] _ _ :: _) _); refine' pss_seq (psd_set 3 nd (by rfl) (by first | exact .inl rfl | exact .inr rfl) ?_ (by rfl) (by first | exact .inr rfl | exact .inl rfl)) ?_)
  | ((with_reducible show PSs _ (Stmt.Assign [Expr.Name "_law_other" _] _ _ :: _) _); refine' pss_seq (psd_set 4 nd (by rfl) (by first | exact .inl rfl | exact .inr rfl) ?_ (by rfl) (by first | exact .inr rfl | exact .inl rfl)) ?_)
  | ((with_reducible show PSs _ (Stmt.Assign [Expr.Name "_law_found" _] _ _ :: _) _); refine' pss_seq (psd_set 5 nd (by rfl) (by first | exact .inl rfl | exact .inr rfl) ?_ (by rfl) (by first | exact .inr rfl | exact .inl rfl)) ?_)
  | ((with_reducible show PSs _ (Stmt.Assign [Expr.Name "_law_top" _] _ _ :: _) _); refine' pss_seq (psd_set 6 nd (by rfl) (by first | exact .inl rfl | exact .inr rfl) ?_ (by rfl) (by first | exact .inr rfl | exact .inl rfl)) ?_))
set_option hygiene false in
local macro_rules | `(tactic| walk_at "aug") => `(tactic| first
  | ((with_reducible show PSs _ (Stmt.AugAssign (Expr.Name "_law_ones" _) _ _ _ :: _) _); first | refine' pss_seq (psd_aug 0 nd (by rfl) (by first | exact .inl rfl | exact .inr rfl) L2.ip_add (by rfl) ?_ (by first | exact .inr rfl | exact .inl rfl)) ?s2 | refine' pss_seq (psd_aug 0 nd (by rfl) (by first | exact .inl rfl | exact .inr rfl) L2.ip_sub (by rfl) ?_ (by first | exact .inr rfl | exact .inl rfl)) ?_)
  | ((with_reducible show PSs _ (Stmt.AugAssign (Expr.Name "_law_others" _) _ _ _ :: _) _); first | refine' pss_seq (psd_aug 1 nd (by rfl) (by first | exact .inl rfl | exact .inr rfl) L2.ip_add (by rfl) ?_ (by first | exact .inr rfl | exact .inl rfl)) ?s2 | refine' pss_seq (psd_aug 1 nd (by rfl) (by first | exact .inl rfl | exact .inr rfl) L2.ip_sub (by rfl) ?_ (by first | exact .inr rfl | exact .inl rfl)) ?_)
  | ((with_reducible show PSs _ (Stmt.AugAssign (Expr.Name "_law_both" _) _ _ _ :: _) _); first | refine' pss_seq (psd_aug 2 nd (by rfl) (by first | exact .inl rfl | exact .inr rfl) L2.ip_add (by rfl) ?_ (by first | exact .inr rfl | exact .inl rfl)) ?s2 | refine' pss_seq (psd_aug 2 nd (by rfl) (by first | exact .inl rfl | exact .inr rfl) L2.ip_sub (by rfl) ?_ (by first | exact .inr rfl | exact .inl rfl)) ?_)
  | ((with_reducible show PSs _ (Stmt.AugAssign (Expr.Name "_law_one" _) _ _ _ :: _) _); first | refine' pss_seq (psd_aug 3 nd (by rfl) (by first | exact .inl rfl | exact .inr rfl) L2.ip_add (by rfl) ?_ (by first | exact .inr rfl | exact .inl rfl)) ?s2 | refine' pss_seq (psd_aug 3 nd (by rfl) (by first | exact .inl rfl | exact .inr rfl) L2.ip_sub (by rfl) ?_ (by first | exact .inr rfl | exact .inl rfl)) ?_)
  | ((with_reducible show PSs _ (Stmt.AugAssign (Expr.Name "_law_other" _) _ _ _ :: _) _); first | refine' pss_seq (psd_aug 4 nd (by rfl) (by first | exact .inl rfl | exact .inr rfl) L2.ip_add (by rfl) ?_ (by first | exact .inr rfl | exact .inl rfl)) ?s2 | refine' pss_seq (psd_aug 4 nd (by rfl) (by first | exact .inl rfl | exact .inr rfl) L2.ip_sub (by rfl) ?_ (by first | exact .inr rfl | exact .inl rfl)) ?_)
  | ((with_reducible show PSs _ (Stmt.AugAssign (Expr.Name "_law_found" _) _ _ _ :: _) _); first | refine' pss_seq (psd_aug 5 nd (by rfl) (by first | exact .inl rfl | exact .inr rfl) L2.ip_add (by rfl) ?_ (by first | exact .inr rfl | exact .inl rfl)) ?s2 | refine' pss_seq (psd_aug 5 nd (by rfl) (by first | exact .inl rfl | exact .inr rfl) L2.ip_sub (by rfl) ?_ (by first | exact .inr rfl | exact .inl rfl)) ?_)
  | ((with_reducible show PSs _ (Stmt.AugAssign (Expr.Name "_law_top" _) _ _ _ :: _) _); first | refine' pss_seq (psd_aug 6 nd (by rfl) (by first | exact .inl rfl | exact .inr rfl) L2.ip_add (by rfl) ?_ (by first | exact .inr rfl | exact .inl rfl)) ?s2 | refine' pss_seq (psd_aug 6 nd (by rfl) (by first | exact .inl rfl | exact .inr rfl) L2.ip_sub (by rfl) ?_ (by first | exact .inr rfl | exact .inl rfl)) ?_))
set_option hygiene false in
local macro_rules | `(tactic| walk_at "tgn") => `(tactic| first
  | ((with_reducible show PG _ (Expr.Name "_law_ones" _) _); refine' pgd_name 0 nd (by rfl) (by first | exact .inl rfl | exact .inr rfl) (by first | exact .inr rfl | exact .inl rfl) (by first | decide | simp))
  | ((with_reducible show PG _ (Expr.Name "_law_others" _) _); refine' pgd_name 1 nd (by rfl) (by first | exact .inl rfl | exact .inr rfl) (by first | exact .inr rfl | exact .inl rfl) (by first | decide | simp))
  | ((with_reducible show PG _ (Expr.Name "_law_both" _) _); refine' pgd_name 2 nd (by rfl) (by first | exact .inl rfl | exact .inr rfl) (by first | exact .inr rfl | exact .inl rfl) (by first | decide | simp))
  | ((with_reducible show PG _ (Expr.Name "_law_one" _) _); refine' pgd_name 3 nd (by rfl) (by first | exact .inl rfl | exact .inr rfl) (by first | exact .inr rfl | exact .inl rfl) (by first | decide | simp))
  | ((with_reducible show PG _ (Expr.Name "_law_other" _) _); refine' pgd_name 4 nd (by rfl) (by first | exact .inl rfl | exact .inr rfl) (by first | exact .inr rfl | exact .inl rfl) (by first | decide | simp))
  | ((with_reducible show PG _ (Expr.Name "_law_found" _) _); refine' pgd_name 5 nd (by rfl) (by first | exact .inl rfl | exact .inr rfl) (by first | exact .inr rfl | exact .inl rfl) (by first | decide | simp))
  | ((with_reducible show PG _ (Expr.Name "_law_top" _) _); refine' pgd_name 6 nd (by rfl) (by first | exact .inl rfl | exact .inr rfl) (by first | exact .inr rfl | exact .inl rfl) (by first | decide | simp)))

set_option hygiene false in
local macro_rules | `(tactic| walk_at "fld") => `(tactic| first
  | ((with_reducible show PE _ (Expr.Attribute _ "place" _) _); (refine' pd_fld ?_ (by rfl) T.cl_Weight T.na_Weight_place ?_) <;> walk_at "go")
  | ((with_reducible show PE _ (Expr.Attribute _ "size" _) _); (refine' pd_fld ?_ (by rfl) T.cl_Weight T.na_Weight_size ?_) <;> walk_at "go")
  | ((with_reducible show PE _ (Expr.Attribute _ "start" _) _); (refine' pd_fld ?_ (by rfl) T.cl_Spread T.na_Spread_start ?_) <;> walk_at "go")
  | ((with_reducible show PE _ (Expr.Attribute _ "end" _) _); (refine' pd_fld ?_ (by rfl) T.cl_Spread T.na_Spread_end ?_) <;> walk_at "go")
  | ((with_reducible show PE _ (Expr.Attribute _ "each" _) _); (refine' pd_fld ?_ (by rfl) T.cl_Spread T.na_Spread_each ?_) <;> walk_at "go")
  | ((with_reducible show PE _ (Expr.Attribute _ "length" _) _); (refine' pd_fld ?_ (by rfl) T.cl_Beam T.na_Beam_length ?_) <;> walk_at "go")
  | ((with_reducible show PE _ (Expr.Attribute _ "rests" _) _); (refine' pd_fld ?_ (by rfl) T.cl_Beam T.na_Beam_rests ?_) <;> walk_at "go"))
variable {P : Program} {w : World} {K : PySem.W.Frag} {mg : Str → Option Value} {base : Heap} {cs : Cs}
theorem ok_l_is_sum {f : Addr} {fd : FuncData} (F : Fun K "_law_is_sum" "_law_is_sum" s_l_is_sum f fd) (T : Tx K mg cs) : FnOk P w K mg base (L2.CX P w) 1 f fd P_l_is_sum (spD K R_issum) := by
  refine def_ok F sc_l_is_sum (fun ds r h => ?_) (by decide) (fun cdv A outer s H E ds r hr h => ?_)
  · obtain ⟨a, b, c, _, _, _, _, rfl, _⟩ := h; rfl
  · obtain ⟨a, b, c, ha, hb, hc, hs, rfl, rfl⟩ := h
    have nd := sc_l_is_sum.nd
    have hget : ∀ (i : Nat) (y : D), (zip3D (a.map plD) (b.map plD) (c.map plD))[i]? = some y → ∃ u v z : Int × Int, sumQ u v z ∧ Bq u ∧ Bq v ∧ Bq z ∧ y = .tup [plD u, plD v, plD z] := by
      intro i y hy
      obtain ⟨x1, x2, x3, g1, g2, g3, rfl⟩ := zip3_back hy
      obtain ⟨u, u1, u2, rfl⟩ := bq_get g1 ha
      obtain ⟨v, v1, v2, rfl⟩ := bq_get g2 hb
      obtain ⟨z, z1, z2, rfl⟩ := bq_get g3 hc
      exact ⟨u, v, z, hs i u v z u1 v1 z1, u2, v2, z2, rfl⟩
    refine pss_hd rfl ?_
    refine pss_seq (psd_forT (js := [3, 4, 5]) (fun _ => [some (plsD a), some (plsD b), some (plsD c), none, none, none, none]) (fun _ => [])
      (fun i y => match y with | .tup [u, v, z] => [some (plsD a), some (plsD b), some (plsD c), some u, some v, some z, none] | _ => []) (L2.passes_of (by rfl)) rfl
      (pid_z3 (by rfl) T.n_zip (by walk_at "nm") (by walk_at "nm") (by walk_at "nm") rfl rfl rfl) (Wk.refl _) rfl (fun i y hy => ?_) (fun i y hy => ?_)) ?_
    · obtain ⟨u, v, z, _, _, _, _, rfl⟩ := hget i y hy
      exact pgd_tup rfl (pgsd_cons (by walk_at "tgn") (pgsd_cons (by walk_at "tgn") (pgsd_cons (by walk_at "tgn") pgsd_nil))) rfl
    · obtain ⟨u, v, z, hq, ⟨u1, u2⟩, ⟨v1, v2⟩, ⟨z1, z2⟩, rfl⟩ := hget i y hy
      obtain ⟨a1, a2⟩ := u
      obtain ⟨b1, b2⟩ := v
      obtain ⟨c1, c2⟩ := z
      simp only at u1 u2 v1 v2 z1 z2
      have hq2 : c1 * a2 * b2 = (a1 * b2 + b1 * a2) * c2 := hq
      walk_at "st"
      refine pss_wk (pss_seq (psd_ifF (p := c1 * a2 * b2 ≠ (a1 * b2 + b1 * a2) * c2) (by walk_at "tv") (fun h => h hq2) pss_nilD) pss_nilD) (.same (.same (.same (.drop (.drop (.drop (.drop .nil)))))))
    · walk_at "run"
theorem cal_l_is_sum {f : Addr} {fd : FuncData} (F : Fun K "_law_is_sum" "_law_is_sum" s_l_is_sum f fd) (hm : mg "_law_is_sum" = some (.ref f)) (T : Tx K mg cs) : Cal P w K mg base "_law_is_sum" 1 P_l_is_sum (R_issum) := ⟨f, fd, ok_l_is_sum F T, hm, F.kp, F.binds fun _ _ _ _ _ _ us hl => match us, hl with | [_, _, _], _ => rfl⟩
end
section
set_option hygiene false in
local macro_rules | `(tactic| walk_at "nm") => `(tactic| first
  | ((with_reducible refine' pd_var (x := "_law_ones") 0 ?_ ?_ ?_ ?_ ?_) <;> first | (with_reducible show D) | ((with_reducible show Vis _ _); first | exact .inl rfl | exact .inr (.inl rfl) | exact .inr (.inr rfl)) | ((with_reducible show (_ == _) = false); decide) | rfl)
  | ((with_reducible refine' pd_var (x := "_law_times") 1 ?_ ?_ ?_ ?_ ?_) <;> first | (with_reducible show D) | ((with_reducible show Vis _ _); first | exact .inl rfl | exact .inr (.inl rfl) | exact .inr (.inr rfl)) | ((with_reducible show (_ == _) = false); decide) | rfl)
  | ((with_reducible refine' pd_var (x := "_law_more") 2 ?_ ?_ ?_ ?_ ?_) <;> first | (with_reducible show D) | ((with_reducible show Vis _ _); first | exact .inl rfl | exact .inr (.inl rfl) | exact .inr (.inr rfl)) | ((with_reducible show (_ == _) = false); decide) | rfl)
  | ((with_reducible refine' pd_var (x := "_law_one") 3 ?_ ?_ ?_ ?_ ?_) <;> first | (with_reducible show D) | ((with_reducible show Vis _ _); first | exact .inl rfl | exact .inr (.inl rfl) | exact .inr (.inr rfl)) | ((with_reducible show (_ == _) = false); decide) | rfl)
  | ((with_reducible refine' pd_var (x := "_law_found") 4 ?_ ?_ ?_ ?_ ?_) <;> first | (with_reducible show D) | ((with_reducible show Vis _ _); first | exact .inl rfl | exact .inr (.inl rfl) | exact .inr (.inr rfl)) | ((with_reducible show (_ == _) = false); decide) | rfl))
set_option hygiene false in
local macro_rules | `(tactic| walk_at "set") => `(tactic| first
  | ((with_reducible show PSs _ (Stmt.Assign [Expr.Name "_law_ones" _] _ _ :: _) _); refine' pss_seq (psd_set 0 nd (by rfl) (by first | exact .inl rfl | exact .inr rfl) ?_ (by rfl) (by first | exact .inr rfl | exact .inl rfl)) ?_)
  | ((with_reducible show PSs _ (Stmt.Assign [Expr.Name "_law_times" _] _ _ :: _) _); refine' pss_seq (psd_set 1 nd (by rfl) (by first | exact .inl rfl | exact .inr rfl) ?_ (by rfl) (by first | exact .inr rfl | exact .inl rfl)) ?_)
  | ((with_reducible show PSs _ (Stmt.Assign [Expr.Name "_law_more" _] _ _ :: _) _); refine' pss_seq (psd_set 2 nd (by rfl) (by first | exact .inl rfl | exact .inr rfl) ?_ (by rfl) (by first | exact .inr rfl | exact .inl rfl)) ?_)
  | ((with_reducible show PSs _ (Stmt.Assign [Expr.Name "_law_one" _] _ _ :: _) _); refine' pss_seq (psd_set 3 nd (by rfl) (by first | exact .inl rfl | exact .inr rfl) ?_ (by rfl) (by first | exact .inr rfl | exact .inl rfl)) ?_)
  | ((with_reducible show PSs _ (Stmt.Assign [Expr.Name "_law_found" _] _ _ :: _) _); refine' pss_seq (psd_set 4 nd (by rfl) (by first | exact .inl rfl | exact .inr rfl) ?_ (by rfl) (by first | exact .inr rfl | exact .inl rfl)) ?_))
set_option hygiene false in
local macro_rules | `(tactic| walk_at "aug") => `(tactic| first
  | ((with_reducible show PSs _ (Stmt.AugAssign (Expr.Name "_law_ones" _) _ _ _ :: _) _); first | refine' pss_seq (psd_aug 0 nd (by rfl) (by first | exact .inl rfl | exact .inr rfl) L2.ip_add (by rfl) ?_ (by first | exact .inr rfl | exact .inl rfl)) ?s2 | refine' pss_seq (psd_aug 0 nd (by rfl) (by first | exact .inl rfl | exact .inr rfl) L2.ip_sub (by rfl) ?_ (by first | exact .inr rfl | exact .inl rfl)) ?_)
  | ((with_reducible show PSs _ (Stmt.AugAssign (Expr.Name "_law_times" _) _ _ _ :: _) _); first | refine' pss_seq (psd_aug 1 nd (by rfl) (by first | exact .inl rfl | exact .inr rfl) L2.ip_add (by rfl) ?_ (by first | exact .inr rfl | exact .inl rfl)) ?s2 | refine' pss_seq (psd_aug 1 nd (by rfl) (by first | exact .inl rfl | exact .inr rfl) L2.ip_sub (by rfl) ?_ (by first | exact .inr rfl | exact .inl rfl)) ?_)
  | ((with_reducible show PSs _ (Stmt.AugAssign (Expr.Name "_law_more" _) _ _ _ :: _) _); first | refine' pss_seq (psd_aug 2 nd (by rfl) (by first | exact .inl rfl | exact .inr rfl) L2.ip_add (by rfl) ?_ (by first | exact .inr rfl | exact .inl rfl)) ?s2 | refine' pss_seq (psd_aug 2 nd (by rfl) (by first | exact .inl rfl | exact .inr rfl) L2.ip_sub (by rfl) ?_ (by first | exact .inr rfl | exact .inl rfl)) ?_)
  | ((with_reducible show PSs _ (Stmt.AugAssign (Expr.Name "_law_one" _) _ _ _ :: _) _); first | refine' pss_seq (psd_aug 3 nd (by rfl) (by first | exact .inl rfl | exact .inr rfl) L2.ip_add (by rfl) ?_ (by first | exact .inr rfl | exact .inl rfl)) ?s2 | refine' pss_seq (psd_aug 3 nd (by rfl) (by first | exact .inl rfl | exact .inr rfl) L2.ip_sub (by rfl) ?_ (by first | exact .inr rfl | exact .inl rfl)) ?_)
  | ((with_reducible show PSs _ (Stmt.AugAssign (Expr.Name "_law_found" _) _ _ _ :: _) _); first | refine' pss_seq (psd_aug 4 nd (by rfl) (by first | exact .inl rfl | exact .inr rfl) L2.ip_add (by rfl) ?_ (by first | exact .inr rfl | exact .inl rfl)) ?s2 | refine' pss_seq (psd_aug 4 nd (by rfl) (by first | exact .inl rfl | exact .inr rfl) L2.ip_sub (by rfl) ?_ (by first | exact .inr rfl | exact .inl rfl)) ?_))
set_option hygiene false in
local macro_rules | `(tactic| walk_at "tgn") => `(tactic| first
  | ((with_reducible show PG _ (Expr.Name "_law_ones" _) _); refine' pgd_name 0 nd (by rfl) (by first | exact .inl rfl | exact .inr rfl) (by first | exact .inr rfl | exact .inl rfl) (by first | decide | simp))
  | ((with_reducible show PG _ (Expr.Name "_law_times" _) _); refine' pgd_name 1 nd (by rfl) (by first | exact .inl rfl | exact .inr rfl) (by first | exact .inr rfl | exact .inl rfl) (by first | decide | simp))
  | ((with_reducible show PG _ (Expr.Name "_law_more" _) _); refine' pgd_name 2 nd (by rfl) (by first | exact .inl rfl | exact .inr rfl) (by first | exact .inr rfl | exact .inl rfl) (by first | decide | simp))
  | ((with_reducible show PG _ (Expr.Name "_law_one" _) _); refine' pgd_name 3 nd (by rfl) (by first | exact .inl rfl | exact .inr rfl) (by first | exact .inr rfl | exact .inl rfl) (by first | decide | simp))
  | ((with_reducible show PG _ (Expr.Name "_law_found" _) _); refine' pgd_name 4 nd (by rfl) (by first | exact .inl rfl | exact .inr rfl) (by first | exact .inr rfl | exact .inl rfl) (by first | decide | simp)))

set_option hygiene false in
local macro_rules | `(tactic| walk_at "fld") => `(tactic| first
  | ((with_reducible show PE _ (Expr.Attribute _ "place" _) _); (refine' pd_fld ?_ (by rfl) T.cl_Weight T.na_Weight_place ?_) <;> walk_at "go")
  | ((with_reducible show PE _ (Expr.Attribute _ "size" _) _); (refine' pd_fld ?_ (by rfl) T.cl_Weight T.na_Weight_size ?_) <;> walk_at "go")
  | ((with_reducible show PE _ (Expr.Attribute _ "start" _) _); (refine' pd_fld ?_ (by rfl) T.cl_Spread T.na_Spread_start ?_) <;> walk_at "go")
  | ((with_reducible show PE _ (Expr.Attribute _ "end" _) _); (refine' pd_fld ?_ (by rfl) T.cl_Spread T.na_Spread_end ?_) <;> walk_at "go")
  | ((with_reducible show PE _ (Expr.Attribute _ "each" _) _); (refine' pd_fld ?_ (by rfl) T.cl_Spread T.na_Spread_each ?_) <;> walk_at "go")
  | ((with_reducible show PE _ (Expr.Attribute _ "length" _) _); (refine' pd_fld ?_ (by rfl) T.cl_Beam T.na_Beam_length ?_) <;> walk_at "go")
  | ((with_reducible show PE _ (Expr.Attribute _ "rests" _) _); (refine' pd_fld ?_ (by rfl) T.cl_Beam T.na_Beam_rests ?_) <;> walk_at "go"))
variable {P : Program} {w : World} {K : PySem.W.Frag} {mg : Str → Option Value} {base : Heap} {cs : Cs}
theorem ok_l_is_times {f : Addr} {fd : FuncData} (F : Fun K "_law_is_times" "_law_is_times" s_l_is_times f fd) (T : Tx K mg cs) : FnOk P w K mg base (L2.CX P w) 1 f fd P_l_is_times (spD K R_istimes) := by
  refine def_ok F sc_l_is_times (fun ds r h => ?_) (by decide) (fun cdv A outer s H E ds r hr h => ?_)
  · obtain ⟨a, c, k, _, _, _, _, rfl, _⟩ := h; rfl
  · obtain ⟨a, c, k, ha, hc, hk, hs, rfl, rfl⟩ := h
    have nd := sc_l_is_times.nd
    have hget : ∀ (i : Nat) (y : D), (zipD (a.map plD) (c.map plD))[i]? = some y → ∃ u z : Int × Int, timesQ k u z ∧ Bq u ∧ Bq z ∧ y = .tup [plD u, plD z] := by
      intro i y hy
      obtain ⟨x1, x3, g1, g3, rfl⟩ := zipD_back hy
      obtain ⟨u, u1, u2, rfl⟩ := bq_get g1 ha
      obtain ⟨z, z1, z2, rfl⟩ := bq_get g3 hc
      exact ⟨u, z, hs i u z u1 z1, u2, z2, rfl⟩
    refine pss_hd rfl ?_
    refine pss_seq (psd_forT (js := [3, 4]) (fun _ => [some (plsD a), some (.int k), some (plsD c), none, none]) (fun _ => [])
      (fun i y => match y with | .tup [u, z] => [some (plsD a), some (.int k), some (plsD c), some u, some z] | _ => []) (L2.passes_of (by rfl)) rfl
      (pid_zip (by rfl) T.n_zip (by walk_at "nm") (by walk_at "nm") rfl rfl) (Wk.refl _) rfl (fun i y hy => ?_) (fun i y hy => ?_)) ?_
    · obtain ⟨u, z, _, _, _, rfl⟩ := hget i y hy
      exact pgd_tup rfl (pgsd_cons (by walk_at "tgn") (pgsd_cons (by walk_at "tgn") pgsd_nil)) rfl
    · obtain ⟨u, z, hq, ⟨u1, u2⟩, ⟨z1, z2⟩, rfl⟩ := hget i y hy
      obtain ⟨a1, a2⟩ := u
      obtain ⟨c1, c2⟩ := z
      simp only at u1 u2 z1 z2
      have hq2 : c1 * a2 = a1 * k * c2 := hq
      refine pss_wk (pss_hd rfl (pss_seq (psd_ifF (p := c1 * a2 ≠ a1 * k * c2) (by walk_at "tv") (fun h => h hq2) pss_nilD) pss_nilD)) (.same (.same (.same (.drop (.drop .nil)))))
    · walk_at "run"
theorem cal_l_is_times {f : Addr} {fd : FuncData} (F : Fun K "_law_is_times" "_law_is_times" s_l_is_times f fd) (hm : mg "_law_is_times" = some (.ref f)) (T : Tx K mg cs) : Cal P w K mg base "_law_is_times" 1 P_l_is_times (R_istimes) := ⟨f, fd, ok_l_is_times F T, hm, F.kp, F.binds fun _ _ _ _ _ _ us hl => match us, hl with | [_, _, _], _ => rfl⟩
end
section
set_option hygiene false in
local macro_rules | `(tactic| walk_at "nm") => `(tactic| first
  | ((with_reducible refine' pd_var (x := "_law_script") 0 ?_ ?_ ?_ ?_ ?_) <;> first | (with_reducible show D) | ((with_reducible show Vis _ _); first | exact .inl rfl | exact .inr (.inl rfl) | exact .inr (.inr rfl)) | ((with_reducible show (_ == _) = false); decide) | rfl)
  | ((with_reducible refine' pd_var (x := "_law_rests_here") 1 ?_ ?_ ?_ ?_ ?_) <;> first | (with_reducible show D) | ((with_reducible show Vis _ _); first | exact .inl rfl | exact .inr (.inl rfl) | exact .inr (.inr rfl)) | ((with_reducible show (_ == _) = false); decide) | rfl)
  | ((with_reducible refine' pd_var (x := "_law_length") 2 ?_ ?_ ?_ ?_ ?_) <;> first | (with_reducible show D) | ((with_reducible show Vis _ _); first | exact .inl rfl | exact .inr (.inl rfl) | exact .inr (.inr rfl)) | ((with_reducible show (_ == _) = false); decide) | rfl)
  | ((with_reducible refine' pd_var (x := "_law_rows_here") 3 ?_ ?_ ?_ ?_ ?_) <;> first | (with_reducible show D) | ((with_reducible show Vis _ _); first | exact .inl rfl | exact .inr (.inl rfl) | exact .inr (.inr rfl)) | ((with_reducible show (_ == _) = false); decide) | rfl)
  | ((with_reducible refine' pd_var (x := "_law_x") 4 ?_ ?_ ?_ ?_ ?_) <;> first | (with_reducible show D) | ((with_reducible show Vis _ _); first | exact .inl rfl | exact .inr (.inl rfl) | exact .inr (.inr rfl)) | ((with_reducible show (_ == _) = false); decide) | rfl)
  | ((with_reducible refine' pd_var (x := "_law_split") 5 ?_ ?_ ?_ ?_ ?_) <;> first | (with_reducible show D) | ((with_reducible show Vis _ _); first | exact .inl rfl | exact .inr (.inl rfl) | exact .inr (.inr rfl)) | ((with_reducible show (_ == _) = false); decide) | rfl)
  | ((with_reducible refine' pd_var (x := "_law_cell") 6 ?_ ?_ ?_ ?_ ?_) <;> first | (with_reducible show D) | ((with_reducible show Vis _ _); first | exact .inl rfl | exact .inr (.inl rfl) | exact .inr (.inr rfl)) | ((with_reducible show (_ == _) = false); decide) | rfl)
  | ((with_reducible refine' pd_var (x := "_law_times") 7 ?_ ?_ ?_ ?_ ?_) <;> first | (with_reducible show D) | ((with_reducible show Vis _ _); first | exact .inl rfl | exact .inr (.inl rfl) | exact .inr (.inr rfl)) | ((with_reducible show (_ == _) = false); decide) | rfl)
  | ((with_reducible refine' pd_var (x := "_law_loads") 8 ?_ ?_ ?_ ?_ ?_) <;> first | (with_reducible show D) | ((with_reducible show Vis _ _); first | exact .inl rfl | exact .inr (.inl rfl) | exact .inr (.inr rfl)) | ((with_reducible show (_ == _) = false); decide) | rfl)
  | ((with_reducible refine' pd_var (x := "_law_row") 9 ?_ ?_ ?_ ?_ ?_) <;> first | (with_reducible show D) | ((with_reducible show Vis _ _); first | exact .inl rfl | exact .inr (.inl rfl) | exact .inr (.inr rfl)) | ((with_reducible show (_ == _) = false); decide) | rfl)
  | ((with_reducible refine' pd_var (x := "_law_cut_here") 10 ?_ ?_ ?_ ?_ ?_) <;> first | (with_reducible show D) | ((with_reducible show Vis _ _); first | exact .inl rfl | exact .inr (.inl rfl) | exact .inr (.inr rfl)) | ((with_reducible show (_ == _) = false); decide) | rfl)
  | ((with_reducible refine' pd_var (x := "_law_more") 11 ?_ ?_ ?_ ?_ ?_) <;> first | (with_reducible show D) | ((with_reducible show Vis _ _); first | exact .inl rfl | exact .inr (.inl rfl) | exact .inr (.inr rfl)) | ((with_reducible show (_ == _) = false); decide) | rfl)
  | ((with_reducible refine' pd_var (x := "_law_start") 12 ?_ ?_ ?_ ?_ ?_) <;> first | (with_reducible show D) | ((with_reducible show Vis _ _); first | exact .inl rfl | exact .inr (.inl rfl) | exact .inr (.inr rfl)) | ((with_reducible show (_ == _) = false); decide) | rfl)
  | ((with_reducible refine' pd_var (x := "_law_end") 13 ?_ ?_ ?_ ?_ ?_) <;> first | (with_reducible show D) | ((with_reducible show Vis _ _); first | exact .inl rfl | exact .inr (.inl rfl) | exact .inr (.inr rfl)) | ((with_reducible show (_ == _) = false); decide) | rfl)
  | ((with_reducible refine' pd_var (x := "_law_number_here") 14 ?_ ?_ ?_ ?_ ?_) <;> first | (with_reducible show D) | ((with_reducible show Vis _ _); first | exact .inl rfl | exact .inr (.inl rfl) | exact .inr (.inr rfl)) | ((with_reducible show (_ == _) = false); decide) | rfl)
  | ((with_reducible refine' pd_var (x := "_law_ahead") 15 ?_ ?_ ?_ ?_ ?_) <;> first | (with_reducible show D) | ((with_reducible show Vis _ _); first | exact .inl rfl | exact .inr (.inl rfl) | exact .inr (.inr rfl)) | ((with_reducible show (_ == _) = false); decide) | rfl)
  | ((with_reducible refine' pd_var (x := "_law_handed") 16 ?_ ?_ ?_ ?_ ?_) <;> first | (with_reducible show D) | ((with_reducible show Vis _ _); first | exact .inl rfl | exact .inr (.inl rfl) | exact .inr (.inr rfl)) | ((with_reducible show (_ == _) = false); decide) | rfl)
  | ((with_reducible refine' pd_var (x := "_law_beam") 17 ?_ ?_ ?_ ?_ ?_) <;> first | (with_reducible show D) | ((with_reducible show Vis _ _); first | exact .inl rfl | exact .inr (.inl rfl) | exact .inr (.inr rfl)) | ((with_reducible show (_ == _) = false); decide) | rfl)
  | ((with_reducible refine' pd_var (x := "_law_first") 18 ?_ ?_ ?_ ?_ ?_) <;> first | (with_reducible show D) | ((with_reducible show Vis _ _); first | exact .inl rfl | exact .inr (.inl rfl) | exact .inr (.inr rfl)) | ((with_reducible show (_ == _) = false); decide) | rfl)
  | ((with_reducible refine' pd_var (x := "_law_found") 19 ?_ ?_ ?_ ?_ ?_) <;> first | (with_reducible show D) | ((with_reducible show Vis _ _); first | exact .inl rfl | exact .inr (.inl rfl) | exact .inr (.inr rfl)) | ((with_reducible show (_ == _) = false); decide) | rfl)
  | ((with_reducible refine' pd_var (x := "_law_some") 20 ?_ ?_ ?_ ?_ ?_) <;> first | (with_reducible show D) | ((with_reducible show Vis _ _); first | exact .inl rfl | exact .inr (.inl rfl) | exact .inr (.inr rfl)) | ((with_reducible show (_ == _) = false); decide) | rfl)
  | ((with_reducible refine' pd_var (x := "_law_told_here") 21 ?_ ?_ ?_ ?_ ?_) <;> first | (with_reducible show D) | ((with_reducible show Vis _ _); first | exact .inl rfl | exact .inr (.inl rfl) | exact .inr (.inr rfl)) | ((with_reducible show (_ == _) = false); decide) | rfl))
set_option hygiene false in
local macro_rules | `(tactic| walk_at "set") => `(tactic| first
  | ((with_reducible show PSs _ (Stmt.Assign [Expr.Name "_law_script" _] _ _ :: _) _); refine' pss_seq (psd_set 0 nd (by rfl) (by first | exact .inl rfl | exact .inr rfl) ?_ (by rfl) (by first | exact .inr rfl | exact .inl rfl)) ?_)
  | ((with_reducible show PSs _ (Stmt.Assign [Expr.Name "_law_rests_here" _] _ _ :: _) _); refine' pss_seq (psd_set 1 nd (by rfl) (by first | exact .inl rfl | exact .inr rfl) ?_ (by rfl) (by first | exact .inr rfl | exact .inl rfl)) ?_)
  | ((with_reducible show PSs _ (Stmt.Assign [Expr.Name "_law_length" _] _ _ :: _) _); refine' pss_seq (psd_set 2 nd (by rfl) (by first | exact .inl rfl | exact .inr rfl) ?_ (by rfl) (by first | exact .inr rfl | exact .inl rfl)) ?_)
  | ((with_reducible show PSs _ (Stmt.Assign [Expr.Name "_law_rows_here" _] _ _ :: _) _); refine' pss_seq (psd_set 3 nd (by rfl) (by first | exact .inl rfl | exact .inr rfl) ?_ (by rfl) (by first | exact .inr rfl | exact .inl rfl)) ?_)
  | ((with_reducible show PSs _ (Stmt.Assign [Expr.Name "_law_x" _] _ _ :: _) _); refine' pss_seq (psd_set 4 nd (by rfl) (by first | exact .inl rfl | exact .inr rfl) ?_ (by rfl) (by first | exact .inr rfl | exact .inl rfl)) ?_)
  | ((with_reducible show PSs _ (Stmt.Assign [Expr.Name "_law_split" _] _ _ :: _) _); refine' pss_seq (psd_set 5 nd (by rfl) (by first | exact .inl rfl | exact .inr rfl) ?_ (by rfl) (by first | exact .inr rfl | exact .inl rfl)) ?_)
  | ((with_reducible show PSs _ (Stmt.Assign [Expr.Name "_law_cell" _] _ _ :: _) _); refine' pss_seq (psd_set 6 nd (by rfl) (by first | exact .inl rfl | exact .inr rfl) ?_ (by rfl) (by first | exact .inr rfl | exact .inl rfl)) ?_)
  | ((with_reducible show PSs _ (Stmt.Assign [Expr.Name "_law_times" _] _ _ :: _) _); refine' pss_seq (psd_set 7 nd (by rfl) (by first | exact .inl rfl | exact .inr rfl) ?_ (by rfl) (by first | exact .inr rfl | exact .inl rfl)) ?_)
  | ((with_reducible show PSs _ (Stmt.Assign [Expr.Name "_law_loads" _] _ _ :: _) _); refine' pss_seq (psd_set 8 nd (by rfl) (by first | exact .inl rfl | exact .inr rfl) ?_ (by rfl) (by first | exact .inr rfl | exact .inl rfl)) ?_)
  | ((with_reducible show PSs _ (Stmt.Assign [Expr.Name "_law_row" _] _ _ :: _) _); refine' pss_seq (psd_set 9 nd (by rfl) (by first | exact .inl rfl | exact .inr rfl) ?_ (by rfl) (by first | exact .inr rfl | exact .inl rfl)) ?_)
  | ((with_reducible show PSs _ (Stmt.Assign [Expr.Name "_law_cut_here" _] _ _ :: _) _); refine' pss_seq (psd_set 10 nd (by rfl) (by first | exact .inl rfl | exact .inr rfl) ?_ (by rfl) (by first | exact .inr rfl | exact .inl rfl)) ?_)
  | ((with_reducible show PSs _ (Stmt.Assign [Expr.Name "_law_more" _] _ _ :: _) _); refine' pss_seq (psd_set 11 nd (by rfl) (by first | exact .inl rfl | exact .inr rfl) ?_ (by rfl) (by first | exact .inr rfl | exact .inl rfl)) ?_)
  | ((with_reducible show PSs _ (Stmt.Assign [Expr.Name "_law_start" _] _ _ :: _) _); refine' pss_seq (psd_set 12 nd (by rfl) (by first | exact .inl rfl | exact .inr rfl) ?_ (by rfl) (by first | exact .inr rfl | exact .inl rfl)) ?_)
  | ((with_reducible show PSs _ (Stmt.Assign [Expr.Name "_law_end" _] _ _ :: _) _); refine' pss_seq (psd_set 13 nd (by rfl) (by first | exact .inl rfl | exact .inr rfl) ?_ (by rfl) (by first | exact .inr rfl | exact .inl rfl)) ?_)
  | ((with_reducible show PSs _ (Stmt.Assign [Expr.Name "_law_number_here" _] _ _ :: _) _); refine' pss_seq (psd_set 14 nd (by rfl) (by first | exact .inl rfl | exact .inr rfl) ?_ (by rfl) (by first | exact .inr rfl | exact .inl rfl)) ?_)
  | ((with_reducible show PSs _ (Stmt.Assign [Expr.Name "_law_ahead" _] _ _ :: _) _); refine' pss_seq (psd_set 15 nd (by rfl) (by first | exact .inl rfl | exact .inr rfl) ?_ (by rfl) (by first | exact .inr rfl | exact .inl rfl)) ?_)
  | ((with_reducible show PSs _ (Stmt.Assign [Expr.Name "_law_handed" _] _ _ :: _) _); refine' pss_seq (psd_set 16 nd (by rfl) (by first | exact .inl rfl | exact .inr rfl) ?_ (by rfl) (by first | exact .inr rfl | exact .inl rfl)) ?_)
  | ((with_reducible show PSs _ (Stmt.Assign [Expr.Name "_law_beam" _] _ _ :: _) _); refine' pss_seq (psd_set 17 nd (by rfl) (by first | exact .inl rfl | exact .inr rfl) ?_ (by rfl) (by first | exact .inr rfl | exact .inl rfl)) ?_)
  | ((with_reducible show PSs _ (Stmt.Assign [Expr.Name "_law_first" _] _ _ :: _) _); refine' pss_seq (psd_set 18 nd (by rfl) (by first | exact .inl rfl | exact .inr rfl) ?_ (by rfl) (by first | exact .inr rfl | exact .inl rfl)) ?_)
  | ((with_reducible show PSs _ (Stmt.Assign [Expr.Name "_law_found" _] _ _ :: _) _); refine' pss_seq (psd_set 19 nd (by rfl) (by first | exact .inl rfl | exact .inr rfl) ?_ (by rfl) (by first | exact .inr rfl | exact .inl rfl)) ?_)
  | ((with_reducible show PSs _ (Stmt.Assign [Expr.Name "_law_some" _] _ _ :: _) _); refine' pss_seq (psd_set 20 nd (by rfl) (by first | exact .inl rfl | exact .inr rfl) ?_ (by rfl) (by first | exact .inr rfl | exact .inl rfl)) ?_)
  | ((with_reducible show PSs _ (Stmt.Assign [Expr.Name "_law_told_here" _] _ _ :: _) _); refine' pss_seq (psd_set 21 nd (by rfl) (by first | exact .inl rfl | exact .inr rfl) ?_ (by rfl) (by first | exact .inr rfl | exact .inl rfl)) ?_))
set_option hygiene false in
local macro_rules | `(tactic| walk_at "aug") => `(tactic| first
  | ((with_reducible show PSs _ (Stmt.AugAssign (Expr.Name "_law_script" _) _ _ _ :: _) _); first | refine' pss_seq (psd_aug 0 nd (by rfl) (by first | exact .inl rfl | exact .inr rfl) L2.ip_add (by rfl) ?_ (by first | exact .inr rfl | exact .inl rfl)) ?s2 | refine' pss_seq (psd_aug 0 nd (by rfl) (by first | exact .inl rfl | exact .inr rfl) L2.ip_sub (by rfl) ?_ (by first | exact .inr rfl | exact .inl rfl)) ?_)
  | ((with_reducible show PSs _ (Stmt.AugAssign (Expr.Name "_law_rests_here" _) _ _ _ :: _) _); first | refine' pss_seq (psd_aug 1 nd (by rfl) (by first | exact .inl rfl | exact .inr rfl) L2.ip_add (by rfl) ?_ (by first | exact .inr rfl | exact .inl rfl)) ?s2 | refine' pss_seq (psd_aug 1 nd (by rfl) (by first | exact .inl rfl | exact .inr rfl) L2.ip_sub (by rfl) ?_ (by first | exact .inr rfl | exact .inl rfl)) ?_)
  | ((with_reducible show PSs _ (Stmt.AugAssign (Expr.Name "_law_length" _) _ _ _ :: _) _); first | refine' pss_seq (psd_aug 2 nd (by rfl) (by first | exact .inl rfl | exact .inr rfl) L2.ip_add (by rfl) ?_ (by first | exact .inr rfl | exact .inl rfl)) ?s2 | refine' pss_seq (psd_aug 2 nd (by rfl) (by first | exact .inl rfl | exact .inr rfl) L2.ip_sub (by rfl) ?_ (by first | exact .inr rfl | exact .inl rfl)) ?_)
  | ((with_reducible show PSs _ (Stmt.AugAssign (Expr.Name "_law_rows_here" _) _ _ _ :: _) _); first | refine' pss_seq (psd_aug 3 nd (by rfl) (by first | exact .inl rfl | exact .inr rfl) L2.ip_add (by rfl) ?_ (by first | exact .inr rfl | exact .inl rfl)) ?s2 | refine' pss_seq (psd_aug 3 nd (by rfl) (by first | exact .inl rfl | exact .inr rfl) L2.ip_sub (by rfl) ?_ (by first | exact .inr rfl | exact .inl rfl)) ?_)
  | ((with_reducible show PSs _ (Stmt.AugAssign (Expr.Name "_law_x" _) _ _ _ :: _) _); first | refine' pss_seq (psd_aug 4 nd (by rfl) (by first | exact .inl rfl | exact .inr rfl) L2.ip_add (by rfl) ?_ (by first | exact .inr rfl | exact .inl rfl)) ?s2 | refine' pss_seq (psd_aug 4 nd (by rfl) (by first | exact .inl rfl | exact .inr rfl) L2.ip_sub (by rfl) ?_ (by first | exact .inr rfl | exact .inl rfl)) ?_)
  | ((with_reducible show PSs _ (Stmt.AugAssign (Expr.Name "_law_split" _) _ _ _ :: _) _); first | refine' pss_seq (psd_aug 5 nd (by rfl) (by first | exact .inl rfl | exact .inr rfl) L2.ip_add (by rfl) ?_ (by first | exact .inr rfl | exact .inl rfl)) ?s2 | refine' pss_seq (psd_aug 5 nd (by rfl) (by first | exact .inl rfl | exact .inr rfl) L2.ip_sub (by rfl) ?_ (by first | exact .inr rfl | exact .inl rfl)) ?_)
  | ((with_reducible show PSs _ (Stmt.AugAssign (Expr.Name "_law_cell" _) _ _ _ :: _) _); first | refine' pss_seq (psd_aug 6 nd (by rfl) (by first | exact .inl rfl | exact .inr rfl) L2.ip_add (by rfl) ?_ (by first | exact .inr rfl | exact .inl rfl)) ?s2 | refine' pss_seq (psd_aug 6 nd (by rfl) (by first | exact .inl rfl | exact .inr rfl) L2.ip_sub (by rfl) ?_ (by first | exact .inr rfl | exact .inl rfl)) ?_)
  | ((with_reducible show PSs _ (Stmt.AugAssign (Expr.Name "_law_times" _) _ _ _ :: _) _); first | refine' pss_seq (psd_aug 7 nd (by rfl) (by first | exact .inl rfl | exact .inr rfl) L2.ip_add (by rfl) ?_ (by first | exact .inr rfl | exact .inl rfl)) ?s2 | refine' pss_seq (psd_aug 7 nd (by rfl) (by first | exact .inl rfl | exact .inr rfl) L2.ip_sub (by rfl) ?_ (by first | exact .inr rfl | exact .inl rfl)) ?_)
  | ((with_reducible show PSs _ (Stmt.AugAssign (Expr.Name "_law_loads" _) _ _ _ :: _) _); first | refine' pss_seq (psd_aug 8 nd (by rfl) (by first | exact .inl rfl | exact .inr rfl) L2.ip_add (by rfl) ?_ (by first | exact .inr rfl | exact .inl rfl)) ?s2 | refine' pss_seq (psd_aug 8 nd (by rfl) (by first | exact .inl rfl | exact .inr rfl) L2.ip_sub (by rfl) ?_ (by first | exact .inr rfl | exact .inl rfl)) ?_)
  | ((with_reducible show PSs _ (Stmt.AugAssign (Expr.Name "_law_row" _) _ _ _ :: _) _); first | refine' pss_seq (psd_aug 9 nd (by rfl) (by first | exact .inl rfl | exact .inr rfl) L2.ip_add (by rfl) ?_ (by first | exact .inr rfl | exact .inl rfl)) ?s2 | refine' pss_seq (psd_aug 9 nd (by rfl) (by first | exact .inl rfl | exact .inr rfl) L2.ip_sub (by rfl) ?_ (by first | exact .inr rfl | exact .inl rfl)) ?_)
  | ((with_reducible show PSs _ (Stmt.AugAssign (Expr.Name "_law_cut_here" _) _ _ _ :: _) _); first | refine' pss_seq (psd_aug 10 nd (by rfl) (by first | exact .inl rfl | exact .inr rfl) L2.ip_add (by rfl) ?_ (by first | exact .inr rfl | exact .inl rfl)) ?s2 | refine' pss_seq (psd_aug 10 nd (by rfl) (by first | exact .inl rfl | exact .inr rfl) L2.ip_sub (by rfl) ?_ (by first | exact .inr rfl | exact .inl rfl)) ?_)
  | ((with_reducible show PSs _ (Stmt.AugAssign (Expr.Name "_law_more" _) _ _ _ :: _) _); first | refine' pss_seq (psd_aug 11 nd (by rfl) (by first | exact .inl rfl | exact .inr rfl) L2.ip_add (by rfl) ?_ (by first | exact .inr rfl | exact .inl rfl)) ?s2 | refine' pss_seq (psd_aug 11 nd (by rfl) (by first | exact .inl rfl | exact .inr rfl) L2.ip_sub (by rfl) ?_ (by first | exact .inr rfl | exact .inl rfl)) ?_)
  | ((with_reducible show PSs _ (Stmt.AugAssign (Expr.Name "_law_start" _) _ _ _ :: _) _); first | refine' pss_seq (psd_aug 12 nd (by rfl) (by first | exact .inl rfl | exact .inr rfl) L2.ip_add (by rfl) ?_ (by first | exact .inr rfl | exact .inl rfl)) ?s2 | refine' pss_seq (psd_aug 12 nd (by rfl) (by first | exact .inl rfl | exact .inr rfl) L2.ip_sub (by rfl) ?_ (by first | exact .inr rfl | exact .inl rfl)) ?_)
  | ((with_reducible show PSs _ (Stmt.AugAssign (Expr.Name "_law_end" _) _ _ _ :: _) _); first | refine' pss_seq (psd_aug 13 nd (by rfl) (by first | exact .inl rfl | exact .inr rfl) L2.ip_add (by rfl) ?_ (by first | exact .inr rfl | exact .inl rfl)) ?s2 | refine' pss_seq (psd_aug 13 nd (by rfl) (by first | exact .inl rfl | exact .inr rfl) L2.ip_sub (by rfl) ?_ (by first | exact .inr rfl | exact .inl rfl)) ?_)
  | ((with_reducible show PSs _ (Stmt.AugAssign (Expr.Name "_law_number_here" _) _ _ _ :: _) _); first | refine' pss_seq (psd_aug 14 nd (by rfl) (by first | exact .inl rfl | exact .inr rfl) L2.ip_add (by rfl) ?_ (by first | exact .inr rfl | exact .inl rfl)) ?s2 | refine' pss_seq (psd_aug 14 nd (by rfl) (by first | exact .inl rfl | exact .inr rfl) L2.ip_sub (by rfl) ?_ (by first | exact .inr rfl | exact .inl rfl)) ?_)
  | ((with_reducible show PSs _ (Stmt.AugAssign (Expr.Name "_law_ahead" _) _ _ _ :: _) _); first | refine' pss_seq (psd_aug 15 nd (by rfl) (by first | exact .inl rfl | exact .inr rfl) L2.ip_add (by rfl) ?_ (by first | exact .inr rfl | exact .inl rfl)) ?s2 | refine' pss_seq (psd_aug 15 nd (by rfl) (by first | exact .inl rfl | exact .inr rfl) L2.ip_sub (by rfl) ?_ (by first | exact .inr rfl | exact .inl rfl)) ?_)
  | ((with_reducible show PSs _ (Stmt.AugAssign (Expr.Name "_law_handed" _) _ _ _ :: _) _); first | refine' pss_seq (psd_aug 16 nd (by rfl) (by first | exact .inl rfl | exact .inr rfl) L2.ip_add (by rfl) ?_ (by first | exact .inr rfl | exact .inl rfl)) ?s2 | refine' pss_seq (psd_aug 16 nd (by rfl) (by first | exact .inl rfl | exact .inr rfl) L2.ip_sub (by rfl) ?_ (by first | exact .inr rfl | exact .inl rfl)) ?_)
  | ((with_reducible show PSs _ (Stmt.AugAssign (Expr.Name "_law_beam" _) _ _ _ :: _) _); first | refine' pss_seq (psd_aug 17 nd (by rfl) (by first | exact .inl rfl | exact .inr rfl) L2.ip_add (by rfl) ?_ (by first | exact .inr rfl | exact .inl rfl)) ?s2 | refine' pss_seq (psd_aug 17 nd (by rfl) (by first | exact .inl rfl | exact .inr rfl) L2.ip_sub (by rfl) ?_ (by first | exact .inr rfl | exact .inl rfl)) ?_)
  | ((with_reducible show PSs _ (Stmt.AugAssign (Expr.Name "_law_first" _) _ _ _ :: _) _); first | refine' pss_seq (psd_aug 18 nd (by rfl) (by first | exact .inl rfl | exact .inr rfl) L2.ip_add (by rfl) ?_ (by first | exact .inr rfl | exact .inl rfl)) ?s2 | refine' pss_seq (psd_aug 18 nd (by rfl) (by first | exact .inl rfl | exact .inr rfl) L2.ip_sub (by rfl) ?_ (by first | exact .inr rfl | exact .inl rfl)) ?_)
  | ((with_reducible show PSs _ (Stmt.AugAssign (Expr.Name "_law_found" _) _ _ _ :: _) _); first | refine' pss_seq (psd_aug 19 nd (by rfl) (by first | exact .inl rfl | exact .inr rfl) L2.ip_add (by rfl) ?_ (by first | exact .inr rfl | exact .inl rfl)) ?s2 | refine' pss_seq (psd_aug 19 nd (by rfl) (by first | exact .inl rfl | exact .inr rfl) L2.ip_sub (by rfl) ?_ (by first | exact .inr rfl | exact .inl rfl)) ?_)
  | ((with_reducible show PSs _ (Stmt.AugAssign (Expr.Name "_law_some" _) _ _ _ :: _) _); first | refine' pss_seq (psd_aug 20 nd (by rfl) (by first | exact .inl rfl | exact .inr rfl) L2.ip_add (by rfl) ?_ (by first | exact .inr rfl | exact .inl rfl)) ?s2 | refine' pss_seq (psd_aug 20 nd (by rfl) (by first | exact .inl rfl | exact .inr rfl) L2.ip_sub (by rfl) ?_ (by first | exact .inr rfl | exact .inl rfl)) ?_)
  | ((with_reducible show PSs _ (Stmt.AugAssign (Expr.Name "_law_told_here" _) _ _ _ :: _) _); first | refine' pss_seq (psd_aug 21 nd (by rfl) (by first | exact .inl rfl | exact .inr rfl) L2.ip_add (by rfl) ?_ (by first | exact .inr rfl | exact .inl rfl)) ?s2 | refine' pss_seq (psd_aug 21 nd (by rfl) (by first | exact .inl rfl | exact .inr rfl) L2.ip_sub (by rfl) ?_ (by first | exact .inr rfl | exact .inl rfl)) ?_))
set_option hygiene false in
local macro_rules | `(tactic| walk_at "tgn") => `(tactic| first
  | ((with_reducible show PG _ (Expr.Name "_law_script" _) _); refine' pgd_name 0 nd (by rfl) (by first | exact .inl rfl | exact .inr rfl) (by first | exact .inr rfl | exact .inl rfl) (by first | decide | simp))
  | ((with_reducible show PG _ (Expr.Name "_law_rests_here" _) _); refine' pgd_name 1 nd (by rfl) (by first | exact .inl rfl | exact .inr rfl) (by first | exact .inr rfl | exact .inl rfl) (by first | decide | simp))
  | ((with_reducible show PG _ (Expr.Name "_law_length" _) _); refine' pgd_name 2 nd (by rfl) (by first | exact .inl rfl | exact .inr rfl) (by first | exact .inr rfl | exact .inl rfl) (by first | decide | simp))
  | ((with_reducible show PG _ (Expr.Name "_law_rows_here" _) _); refine' pgd_name 3 nd (by rfl) (by first | exact .inl rfl | exact .inr rfl) (by first | exact .inr rfl | exact .inl rfl) (by first | decide | simp))
  | ((with_reducible show PG _ (Expr.Name "_law_x" _) _); refine' pgd_name 4 nd (by rfl) (by first | exact .inl rfl | exact .inr rfl) (by first | exact .inr rfl | exact .inl rfl) (by first | decide | simp))
  | ((with_reducible show PG _ (Expr.Name "_law_split" _) _); refine' pgd_name 5 nd (by rfl) (by first | exact .inl rfl | exact .inr rfl) (by first | exact .inr rfl | exact .inl rfl) (by first | decide | simp))
  | ((with_reducible show PG _ (Expr.Name "_law_cell" _) _); refine' pgd_name 6 nd (by rfl) (by first | exact .inl rfl | exact .inr rfl) (by first | exact .inr rfl | exact .inl rfl) (by first | decide | simp))
  | ((with_reducible show PG _ (Expr.Name "_law_times" _) _); refine' pgd_name 7 nd (by rfl) (by first | exact .inl rfl | exact .inr rfl) (by first | exact .inr rfl | exact .inl rfl) (by first | decide | simp))
  | ((with_reducible show PG _ (Expr.Name "_law_loads" _) _); refine' pgd_name 8 nd (by rfl) (by first | exact .inl rfl | exact .inr rfl) (by first | exact .inr rfl | exact .inl rfl) (by first | decide | simp))
  | ((with_reducible show PG _ (Expr.Name "_law_row" _) _); refine' pgd_name 9 nd (by rfl) (by first | exact .inl rfl | exact .inr rfl) (by first | exact .inr rfl | exact .inl rfl) (by first | decide | simp))
  | ((with_reducible show PG _ (Expr.Name "_law_cut_here" _) _); refine' pgd_name 10 nd (by rfl) (by first | exact .inl rfl | exact .inr rfl) (by first | exact .inr rfl | exact .inl rfl) (by first | decide | simp))
  | ((with_reducible show PG _ (Expr.Name "_law_more" _) _); refine' pgd_name 11 nd (by rfl) (by first | exact .inl rfl | exact .inr rfl) (by first | exact .inr rfl | exact .inl rfl) (by first | decide | simp))
  | ((with_reducible show PG _ (Expr.Name "_law_start" _) _); refine' pgd_name 12 nd (by rfl) (by first | exact .inl rfl | exact .inr rfl) (by first | exact .inr rfl | exact .inl rfl) (by first | decide | simp))
  | ((with_reducible show PG _ (Expr.Name "_law_end" _) _); refine' pgd_name 13 nd (by rfl) (by first | exact .inl rfl | exact .inr rfl) (by first | exact .inr rfl | exact .inl rfl) (by first | decide | simp))
  | ((with_reducible show PG _ (Expr.Name "_law_number_here" _) _); refine' pgd_name 14 nd (by rfl) (by first | exact .inl rfl | exact .inr rfl) (by first | exact .inr rfl | exact .inl rfl) (by first | decide | simp))
  | ((with_reducible show PG _ (Expr.Name "_law_ahead" _) _); refine' pgd_name 15 nd (by rfl) (by first | exact .inl rfl | exact .inr rfl) (by first | exact .inr rfl | exact .inl rfl) (by first | decide | simp))
  | ((with_reducible show PG _ (Expr.Name "_law_handed" _) _); refine' pgd_name 16 nd (by rfl) (by first | exact .inl rfl | exact .inr rfl) (by first | exact .inr rfl | exact .inl rfl) (by first | decide | simp))
  | ((with_reducible show PG _ (Expr.Name "_law_beam" _) _); refine' pgd_name 17 nd (by rfl) (by first | exact .inl rfl | exact .inr rfl) (by first | exact .inr rfl | exact .inl rfl) (by first | decide | simp))
  | ((with_reducible show PG _ (Expr.Name "_law_first" _) _); refine' pgd_name 18 nd (by rfl) (by first | exact .inl rfl | exact .inr rfl) (by first | exact .inr rfl | exact .inl rfl) (by first | decide | simp))
  | ((with_reducible show PG _ (Expr.Name "_law_found" _) _); refine' pgd_name 19 nd (by rfl) (by first | exact .inl rfl | exact .inr rfl) (by first | exact .inr rfl | exact .inl rfl) (by first | decide | simp))
  | ((with_reducible show PG _ (Expr.Name "_law_some" _) _); refine' pgd_name 20 nd (by rfl) (by first | exact .inl rfl | exact .inr rfl) (by first | exact .inr rfl | exact .inl rfl) (by first | decide | simp))
  | ((with_reducible show PG _ (Expr.Name "_law_told_here" _) _); refine' pgd_name 21 nd (by rfl) (by first | exact .inl rfl | exact .inr rfl) (by first | exact .inr rfl | exact .inl rfl) (by first | decide | simp)))
set_option hygiene false in
local macro_rules | `(tactic| walk_at "cl") => `(tactic| first
  | ((with_reducible show PE _ (Expr.Call (Expr.Name "_law_cell_at" _) _ _ _) _); (refine' pd_call c_l_cell_at hr (by decide) (by rfl) ?_ ⟨_, _, rfl, ?_, rfl⟩) <;> walk_at "go")
  | ((with_reducible show PE _ (Expr.Call (Expr.Name "_law_gap" _) _ _ _) _); (refine' pd_call c_l_gap hr (by decide) (by rfl) ?_ ⟨_, rfl, rfl⟩) <;> walk_at "go")
  | ((with_reducible show PE _ (Expr.Call (Expr.Name "_law_rests" _) _ _ _) _); (refine' pd_call c_l_rests hr (by decide) (by rfl) ?_ ⟨_, rfl, rfl⟩) <;> walk_at "go")
  | ((with_reducible show PE _ (Expr.Call (Expr.Name "_law_rows" _) _ _ _) _); (refine' pd_call c_l_rows hr (by decide) (by rfl) ?_ ⟨_, _, _, _, _, ?_, ?_, ?_, ?_, ?_, ?_, rfl, rfl⟩) <;> walk_at "go")
  | ((with_reducible show PE _ (Expr.Call (Expr.Name "_law_made" _) _ _ _) _); (refine' pd_call c_l_made hr (by decide) (by rfl) ?_ ⟨_, ?_, rfl, rfl⟩) <;> walk_at "go")
  | ((with_reducible show PE _ (Expr.Call (Expr.Name "_law_place" _) _ _ _) _); (refine' pd_call c_l_place hr (by decide) (by rfl) ?_ ⟨_, _, _, ?_, ?_, rfl, rfl⟩) <;> walk_at "go"))
set_option hygiene false in
local macro_rules | `(tactic| walk_at "fld") => `(tactic| first
  | ((with_reducible show PE _ (Expr.Attribute _ "place" _) _); (refine' pd_fld ?_ (by rfl) T.cl_Weight T.na_Weight_place ?_) <;> walk_at "go")
  | ((with_reducible show PE _ (Expr.Attribute _ "size" _) _); (refine' pd_fld ?_ (by rfl) T.cl_Weight T.na_Weight_size ?_) <;> walk_at "go")
  | ((with_reducible show PE _ (Expr.Attribute _ "start" _) _); (refine' pd_fld ?_ (by rfl) T.cl_Spread T.na_Spread_start ?_) <;> walk_at "go")
  | ((with_reducible show PE _ (Expr.Attribute _ "end" _) _); (refine' pd_fld ?_ (by rfl) T.cl_Spread T.na_Spread_end ?_) <;> walk_at "go")
  | ((with_reducible show PE _ (Expr.Attribute _ "each" _) _); (refine' pd_fld ?_ (by rfl) T.cl_Spread T.na_Spread_each ?_) <;> walk_at "go")
  | ((with_reducible show PE _ (Expr.Attribute _ "length" _) _); (refine' pd_fld ?_ (by rfl) T.cl_Beam T.na_Beam_length ?_) <;> walk_at "go")
  | ((with_reducible show PE _ (Expr.Attribute _ "rests" _) _); (refine' pd_fld ?_ (by rfl) T.cl_Beam T.na_Beam_rests ?_) <;> walk_at "go"))
variable {P : Program} {w : World} {K : PySem.W.Frag} {mg : Str → Option Value} {base : Heap} {cs : Cs}
theorem ok_law {f : Addr} {fd : FuncData} (F : Fun K "law" "law" s_law f fd) (T : Tx K mg cs) (c_Beam_init : CalI P w K mg base cs.Beam "Beam" 1 P_Beam_init ["length", "rests"] (R_Binit cs)) (c_l_cell_at : Cal P w K mg base "_law_cell_at" 1 P_l_cell_at (R_cell)) (c_l_gap : Cal P w K mg base "_law_gap" 1 P_l_gap ((R_int1 (gapOf 19)))) (c_l_rests : Cal P w K mg base "_law_rests" 2 P_l_rests ((R_rests (rst 19)))) (c_l_rows : Cal P w K mg base "_law_rows" 2 P_l_rows ((R_rows 20))) (c_l_made : Cal P w K mg base "_law_made" 3 P_l_made ((R_made cs))) (c_l_place : Cal P w K mg base "_law_place" 3 P_l_place (R_place)) (c_l_cut : CalN P w K mg base "_law_cut" 1 P_l_cut (R_cut)) (c_l_told : CalN P w K mg base "_law_told" 5 P_l_told ((R_told cs))) (c_l_is_sum : Cal P w K mg base "_law_is_sum" 1 P_l_is_sum (R_issum)) (c_l_is_times : Cal P w K mg base "_law_is_times" 1 P_l_is_times (R_istimes)) : FnOk P w K mg base (L2.CX P w) 6 f fd P_law (spLaw K) := by
  refine law_ok F sc_law rfl (by decide) (fun cdv A outer s H E ns hr hl => ?_)
  have nd := sc_law.nd
  refine pss_hd rfl ?_
  walk_at "st"
  have hB : Bm 70 (lenOf 19 ns (rst 19 ns)) (rst 19 ns) := rst_bm (by decide) (by decide) ns
  refine pss_seq (psd_set 2 nd (by rfl) (by first | exact .inl rfl | exact .inr rfl) (pd_cast (d' := .int (lenOf 19 ns (rst 19 ns))) (pd_add (pd_ix (i := -1) (dd := .int (lastI (rst 19 ns))) (by walk_at "nm") (by walk_at "ev") (fun _ _ => rfl) rfl (atI_last hB.rs)) (by walk_at "ev")) rfl) (by rfl) (by first | exact .inr rfl | exact .inl rfl)) ?_
  generalize lenOf 19 ns (rst 19 ns) = L at *
  generalize rst 19 ns = ρ at *
  have hB2 : Bm 210 L ρ := hB.mono (by decide)
  have hrs := hB.rs
  have hbr : Brs ρ := hB.brs2 (by decide)
  have bL70 := hB.bd
  have hL := hB.len
  have bL : Bd 210 L := hB2.bd
  walk_at "st"
  have bn : ∀ c, Bd 67 (numOf 20 c) := numOf_bd rfl (by decide)
  have hro := rws_ro (n := 20) (ns := ns) (b := 9) (q := 20) bn hB
  have hlen : (rws 20 ns ρ L 9 20).length ≤ 20 := rws_len (n := 20) (ns := ns) (ρ := ρ) (L := L) (b := 9) (m := 20) (by decide)
  generalize rws 20 ns ρ L 9 20 = ls at *
  walk_at "st"
  have pl := place_pl (c := cell ns 6) (o := cell ns 7) hL bL70
  generalize place (cell ns 6) (cell ns 7) L = q at *
  have hq := pl.pos
  have hls : Ls ls := ro_ls (by decide) (by decide) hB.bd hro (by omega)
  have hle : ∀ w, w ∈ ls → w.a ≤ w.b := fun w hw => (hro w hw).le
  have e0 : (ls.map rowD).length = ls.length := List.length_map ..
  have z0 := Int.emod_nonneg (cell ns 5) (show (ls.length : Int) + 1 ≠ 0 by omega)
  have z1 := Int.emod_lt_of_pos (cell ns 5) (show (0 : Int) < (ls.length : Int) + 1 by omega)
  obtain ⟨k, hk⟩ : ∃ k : Nat, cell ns 5 % ((ls.length : Int) + 1) = (k : Int) := ⟨_, (Int.toNat_of_nonneg z0).symm⟩
  refine pss_seq (psd_set 5 nd (by rfl) (by first | exact .inl rfl | exact .inr rfl) (pd_cast (d' := .int (k : Int)) (pd_mod (i := cell ns 5) (j := (((ls.map rowD).length : Nat) : Int) + 1) (by walk_at "ev") (by walk_at "ev") (by omega)) (by rw [e0, hk])) (by rfl) (by first | exact .inr rfl | exact .inl rfl)) ?_
  walk_at "st"
  refine pss_seq (psd_set 7 nd (by rfl) (by first | exact .inl rfl | exact .inr rfl) (pd_cast (d' := .int (cell ns 8 % (2 * 10 ^ 20 + 1) - 10 ^ 20)) (pd_sub (pd_mod (i := cell ns 8) (j := 2 * 10 ^ 20 + 1) (by walk_at "nm") (by walk_at "ev"; exact Bd.cmul (Bd.lit (x := 2) (a := 4) rfl) (Bd.lit (x := 10 ^ 20) (a := 68) (by exact rfl)) (Nat.le_of_ble_eq_true rfl)) (by decide)) (by walk_at "ev")) rfl) (by rfl) (by first | exact .inr rfl | exact .inl rfl)) ?_
  refine pss_ifset (i := 7) (d1 := .int (cell ns 8 / 4 % 7 - 3)) (d2 := .int (cell ns 8 % (2 * 10 ^ 20 + 1) - 10 ^ 20)) (p := cell ns 8 % 4 = 1) (by walk_at "tv") (fun h => by walk_at "run"; exact pss_nilD) rfl inferInstance ?_
  have et : (if cell ns 8 % 4 = 1 then D.int (cell ns 8 / 4 % 7 - 3) else .int (cell ns 8 % (2 * 10 ^ 20 + 1) - 10 ^ 20)) = .int (timesOf (cell ns 8)) := by
    unfold timesOf
    split <;> rfl
  rw [et]
  have bm := times_bd (cell ns 8)
  generalize timesOf (cell ns 8) = m at *
  generalize cell ns 8 = c at *
  have hrc := cut_ro (c := c) hro
  have hrm := sc_ro bm hro
  have lc := cutLs_len c ls
  have lm : (sc m ls).length = ls.length := List.length_map ..
  have hlc : Ls (cutLs c ls) := ro_ls (by decide) (by decide) hB.bd hrc (by omega)
  have hlm : Ls (sc m ls) := ro_ls (by decide) (by decide) hB.bd hrm (by omega)
  -- the loads
  refine pss_seq (psd_setLcI 8 (own := [("_law_row", 9)]) (es := ldsD cs ls) (fun _ x => (wipeD _ [9]).set 9 (some x)) rfl nd (by rfl) (by rfl) (by rfl) (pid_list (by walk_at "nm") rfl) (blkOk_by (N := N_law) (sc := defScope s_law) (by decide +kernel)) (fun i x hx s H C cl fp => by walk_at "tgn") (fun i x y hx hy s H C cl fp => ?_) (by rw [ldsD_len, rows_len]) (by rw [rows_len]; omega)) ?_
  · obtain ⟨w, hi, hm, rfl⟩ := rows_get hx
    obtain rfl := map_get (f := ldD cs) hi hy
    have hle := (hro w hm).le
    walk_at "ev"
  refine pss_lv 8 (by rfl) (fun vs => ?_)
  refine pss_seq (psd_setLcI 10 (own := [("_law_row", 9)]) (ds := (cutLs c ls).map rowD) (es := ldsD cs (cutLs c ls)) (fun _ x => (wipeD _ [9]).set 9 (some x)) rfl nd (by rfl) (by rfl) (by rfl) (pid_list (pd_new (pn_call c_l_cut hr (by decide) (by rfl) (by walk_at "ar") ⟨ls, c, hle, hlen, rfl, rfl⟩)) rfl) (blkOk_by (N := N_law) (sc := defScope s_law) (by decide +kernel)) (fun i x hx s H C cl fp => by walk_at "tgn") (fun i x y hx hy s H C cl fp => ?_) (by rw [ldsD_len, rows_len]) (by rw [rows_len]; omega)) ?_
  · obtain ⟨w, hi, hm, rfl⟩ := rows_get hx
    obtain rfl := map_get (f := ldD cs) hi hy
    have hle := (hrc w hm).le
    walk_at "ev"
  refine pss_seq (psd_setLcI 11 (own := [("_law_start", 12), ("_law_end", 13), ("_law_number_here", 14)]) (ds := ls.map rowD) (es := ldsD cs (sc m ls)) (fun _ y => match y with | .tup [a, b, n] => [some (.sq (ns.map D.int)), some (iL ρ), some (.int L), some (rowsD ls), some (plD q), some (.int (k : Int)), some (.int c), some (.int m), some (.lv vs (ldsD cs ls)), none, some (.lst (ldsD cs (cutLs c ls))), none, some a, some b, some n, none, none, none, none, none, none, none] | _ => []) rfl nd (by rfl) (by rfl) (by rfl) (pid_list (by walk_at "nm") rfl) (blkOk_by (N := N_law) (sc := defScope s_law) (by decide +kernel)) (fun i x hx s H C cl fp => ?_) (fun i x y hx hy s H C cl fp => ?_) (by rw [ldsD_len, rows_len, lm]) (by rw [rows_len]; omega)) ?_
  · obtain ⟨w, hi, hm, rfl⟩ := rows_get hx
    exact pgd_tup rfl (pgsd_cons (by walk_at "tgn") (pgsd_cons (by walk_at "tgn") (pgsd_cons (by walk_at "tgn") pgsd_nil))) rfl
  · obtain ⟨⟨a, b, n⟩, hi, hm, rfl⟩ := rows_get hx
    have hy2 : y = ldD cs ⟨a, b, n * m⟩ := by
      unfold ldsD sc at hy
      rw [List.map_map] at hy
      exact map_get (f := ldD cs ∘ fun w : Row => ⟨w.a, w.b, w.n * m⟩) hi hy
    subst hy2
    have hle := (hro _ hm).le
    have b1 := (hro _ hm).bn
    simp only at hle b1
    exact pd_call c_l_made hr (by decide) (by rfl) (pas_cons (pd_tup (ds := [.int a, .int b, .int (n * m)]) (by walk_at "ar") (Nat.le_of_ble_eq_true rfl)) pas_nil) ⟨⟨a, b, n * m⟩, hle, rfl, rfl⟩
  refine pss_seq (psd_set 15 nd (by rfl) (by first | exact .inl rfl | exact .inr rfl) (pd_cast (d' := .bl (decide (cell ns 5 / 2 % 2 = 1))) (by walk_at "ev") rfl) (by rfl) (by first | exact .inr rfl | exact .inl rfl)) ?_
  generalize decide (cell ns 5 / 2 % 2 = 1) = ah
  -- the first part
  refine pss_newLV 16 nd (by rfl) (.inl rfl) (pnv_slice (vs := vs) (ds := ldsD cs ls) (lo := none) (hi := some (k : Int)) (by walk_at "nm") pod_none (pod_some (by walk_at "nm"))) (by rfl) (by first | exact .inr rfl | exact .inl rfl) (fun l => ?_)
  rw [cutV_to, cutL_to, lds_take]
  have ro1 : ∀ w, w ∈ ls.take k → Ro 70 67 L w := fun w hw => hro w (List.mem_of_mem_take hw)
  have ro2 : ∀ w, w ∈ ls.drop k → Ro 70 67 L w := fun w hw => hro w (List.mem_of_mem_drop hw)
  have l1 : (ls.take k).length ≤ 20 := by rw [List.length_take]; omega
  have l2 : (ls.drop k).length ≤ 20 := by rw [List.length_drop]; omega
  have hl1 : Ls (ls.take k) := ro_ls (by decide) (by decide) hB.bd ro1 (by omega)
  have hl2 : Ls (ls.drop k) := ro_ls (by decide) (by decide) hB.bd ro2 (by omega)
  have hlr : Ls ls.reverse := ⟨fun w hw => hls.bw w (List.mem_reverse.mp hw), by rw [List.length_reverse]; omega⟩
  have ror : ∀ w, w ∈ ls.reverse → Ro 70 67 L w := fun w hw => hro w (List.mem_reverse.mp hw)
  refine pss_seq (psd_set 17 nd (by rfl) (by first | exact .inl rfl | exact .inr rfl) (pd_make c_Beam_init hr (by decide) (by rfl) (by walk_at "ar") ⟨L, ρ, iL ρ, rfl, rfl, .inl ⟨hB.isBm, rfl⟩⟩) (by rfl) (by first | exact .inr rfl | exact .inl rfl)) ?_
  refine pss_seq (psd_set 18 nd (by rfl) (by first | exact .inl rfl | exact .inr rfl) (pd_new (ds := (toldP ρ (ls.take k) q).map plD) (pn_thaw
    (δ' := [some (.sq (ns.map D.int)), some (iL ρ), some (.int L), some (rowsD ls), some (plD q), some (.int (k : Int)), some (.int c), some (.int m), some (.lv vs (ldsD cs ls)), none, some (.lst (ldsD cs (cutLs c ls))), some (.lst (ldsD cs (sc m ls))), none, none, none, some (.bl ah), some (.lv (vs.take k) (ldsD cs (ls.take k))), some (bmD cs L ρ), none, none, none, none])
    (.same (.same (.same (.same (.same (.same (.same (.same (.same (.same (.same (.same (.same (.same (.same (.same (.put (Fz.refl _))))))))))))))))))
    (pn_call c_l_told hr (by decide) (by rfl) (by walk_at "ar") ⟨L, ρ, ls.take k, .lv (vs.take k) (ldsD cs (ls.take k)), q, ah, rfl, hrs, hbr, bL, hl1, ro_all ro1, pl, rfl, rfl⟩) noLL_told rfl)) (by rfl) (by first | exact .inr rfl | exact .inl rfl)) ?_
  refine pss_seq (psd_extendV (us := cutV vs (some (k : Int)) none) (es := cutL (ldsD cs ls) (some (k : Int)) none) (by walk_at "nm") (pd_newV (pnv_slice (vs := vs) (ds := ldsD cs ls) (lo := some (k : Int)) (hi := none) (by walk_at "nm") (pod_some (by walk_at "nm")) pod_none)) (by rw [cutL_from, lds_drop, ldsD_len, ldsD_len]; omega)) ?_
  rw [cutV_from, cutL_from, List.take_append_drop, ← lds_take, List.take_append_drop]
  refine pss_frz (δ' := [some (.sq (ns.map D.int)), some (iL ρ), some (.int L), some (rowsD ls), some (plD q), some (.int (k : Int)), some (.int c), some (.int m), some (.lv vs (ldsD cs ls)), none, some (.lst (ldsD cs (cutLs c ls))), some (.lst (ldsD cs (sc m ls))), none, none, none, some (.bl ah), some (.lv vs (ldsD cs ls)), some (bmD cs L ρ), some (plsD (toldP ρ (ls.take k) q)), none, none, none])
    (.same (.same (.same (.same (.same (.same (.same (.same (.same (.same (.same (.same (.same (.same (.same (.same (.put (Fz.refl _)))))))))))))))))) ?_
  refine pss_newL 19 nd (by rfl) (.inl rfl) (pn_lst pas_nil (Nat.le_of_ble_eq_true rfl)) (by rfl) (by first | exact .inr rfl | exact .inl rfl) (fun l => ?_)
  have six : ∀ (i : Nat) (y : D), [D.lv vs (ldsD cs ls), D.lst (cutL (ldsD cs ls) (some (k : Int)) none), D.lst (ldsD cs ls).reverse, D.lst (ldsD cs (cutLs c ls)), D.lst (ldsD cs (sc m ls)), D.lst (cutL (ldsD cs ls) none (some (k : Int)))][i]? = some y →
      ∃ r : List Row, [ls, ls.drop k, ls.reverse, cutLs c ls, sc m ls, ls.take k][i]? = some r ∧ seqL y = some (ldsD cs r) ∧ Ls r ∧ r.all (onB L) = true := by
    intro i y hy
    rw [cutL_from, cutL_to, lds_drop, lds_take, lds_rev] at hy
    rcases i with _ | _ | _ | _ | _ | _ | i
    · obtain rfl := Option.some.inj hy; exact ⟨_, rfl, rfl, hls, ro_all hro⟩
    · obtain rfl := Option.some.inj hy; exact ⟨_, rfl, rfl, hl2, ro_all ro2⟩
    · obtain rfl := Option.some.inj hy; exact ⟨_, rfl, rfl, hlr, ro_all ror⟩
    · obtain rfl := Option.some.inj hy; exact ⟨_, rfl, rfl, hlc, ro_all hrc⟩
    · obtain rfl := Option.some.inj hy; exact ⟨_, rfl, rfl, hlm, ro_all hrm⟩
    · obtain rfl := Option.some.inj hy; exact ⟨_, rfl, rfl, hl1, ro_all ro1⟩
    · simp at hy
  refine pss_seq (psd_forT (ds := [D.lv vs (ldsD cs ls), D.lst (cutL (ldsD cs ls) (some (k : Int)) none), D.lst (ldsD cs ls).reverse, D.lst (ldsD cs (cutLs c ls)), D.lst (ldsD cs (sc m ls)), D.lst (cutL (ldsD cs ls) none (some (k : Int)))]) (js := [20])
    (fun _ => [some (.sq (ns.map D.int)), some (iL ρ), some (.int L), some (rowsD ls), some (plD q), some (.int (k : Int)), some (.int c), some (.int m), some (.lv vs (ldsD cs ls)), none, some (.lst (ldsD cs (cutLs c ls))), some (.lst (ldsD cs (sc m ls))), none, none, none, some (.bl ah), some (.lv vs (ldsD cs ls)), some (bmD cs L ρ), some (plsD (toldP ρ (ls.take k) q)), some (.mref l), none, none])
    (fun i => [(l, .lst (([ls, ls.drop k, ls.reverse, cutLs c ls, sc m ls, ls.take k].take i).map fun r => plsD (toldP ρ r q)))])
    (fun _ y => [some (.sq (ns.map D.int)), some (iL ρ), some (.int L), some (rowsD ls), some (plD q), some (.int (k : Int)), some (.int c), some (.int m), some (.lv vs (ldsD cs ls)), none, some (.lst (ldsD cs (cutLs c ls))), some (.lst (ldsD cs (sc m ls))), none, none, none, some (.bl ah), some (.lv vs (ldsD cs ls)), some (bmD cs L ρ), some (plsD (toldP ρ (ls.take k) q)), some (.mref l), some y, none])
    (L2.passes_of (by rfl)) rfl (pid_list (pd_new (pn_lst (pas_cons (by walk_at "nm") (pas_cons (pd_new (pn_slice (lo := some (k : Int)) (hi := none) (by walk_at "nm") (pod_some (by walk_at "nm")) pod_none rfl)) (pas_cons (pd_new (pn_lrev rfl (by rfl) T.n_list (by rfl) T.n_reversed (by walk_at "nm") rfl)) (pas_cons (by walk_at "nm") (pas_cons (by walk_at "nm") (pas_cons (pd_new (pn_slice (lo := none) (hi := some (k : Int)) (by walk_at "nm") pod_none (pod_some (by walk_at "nm")) rfl)) pas_nil)))))) (Nat.le_of_ble_eq_true rfl))) rfl)
    (Wk.refl _) rfl (fun i y hy => by walk_at "tgn") (fun i y hy => ?_)) ?_
  · obtain ⟨r, hr2, hsq, hlr2, hal⟩ := six i y hy
    have hi : i < 6 := (List.getElem?_eq_some_iff.mp hr2).1
    have et2 : (([ls, ls.drop k, ls.reverse, cutLs c ls, sc m ls, ls.take k].take (i + 1)).map fun r => plsD (toldP ρ r q)) = (([ls, ls.drop k, ls.reverse, cutLs c ls, sc m ls, ls.take k].take i).map fun r => plsD (toldP ρ r q)) ++ [plsD (toldP ρ r q)] := by
      rw [List.take_add_one, hr2, List.map_append]
      rfl
    rw [et2]
    have el : (([ls, ls.drop k, ls.reverse, cutLs c ls, sc m ls, ls.take k].take i).map fun r => plsD (toldP ρ r q)).length < 10000 := by
      rw [List.length_map, List.length_take]
      omega
    generalize (([ls, ls.drop k, ls.reverse, cutLs c ls, sc m ls, ls.take k].take i).map fun r => plsD (toldP ρ r q)) = done at *
    refine pss_hd rfl ?_
    refine pss_seq (psd_set 21 nd (by rfl) (by first | exact .inl rfl | exact .inr rfl) (pd_new (ds := (toldP ρ r q).map plD) (pn_call c_l_told hr (by decide) (by rfl) (by walk_at "ar") ⟨L, ρ, r, y, q, ah, hsq, hrs, hbr, bL, hlr2, hal, pl, rfl, rfl⟩)) (by rfl) (by first | exact .inr rfl | exact .inl rfl)) ?_
    refine pss_seq (psd_ifF (p := False ∨ False) (PW.pt (pwd_or (ptd_isN (by walk_at "nm") rfl) fun _ => pwd_or1 (ptd_isN (by walk_at "nm") rfl))) (by simp) pss_nilD) ?_
    refine pss_wk (pss_seq (psd_append (by walk_at "nm") (by walk_at "nm") el) pss_nilD) ?_
    exact .same (.same (.same (.same (.same (.same (.same (.same (.same (.same (.same (.same (.same (.same (.same (.same (.same (.same (.same (.same (.drop (.drop .nil)))))))))))))))))))))
  refine pss_frz (dl := .lst ([ls, ls.drop k, ls.reverse, cutLs c ls, sc m ls, ls.take k].map fun r => plsD (toldP ρ r q))) (δ' := [some (.sq (ns.map D.int)), some (iL ρ), some (.int L), some (rowsD ls), some (plD q), some (.int (k : Int)), some (.int c), some (.int m), some (.lv vs (ldsD cs ls)), none, some (.lst (ldsD cs (cutLs c ls))), some (.lst (ldsD cs (sc m ls))), none, none, none, some (.bl ah), some (.lv vs (ldsD cs ls)), some (bmD cs L ρ), some (plsD (toldP ρ (ls.take k) q)), some (.lst ([ls, ls.drop k, ls.reverse, cutLs c ls, sc m ls, ls.take k].map fun r => plsD (toldP ρ r q))), none, none])
    (.same (.same (.same (.same (.same (.same (.same (.same (.same (.same (.same (.same (.same (.same (.same (.same (.same (.same (.same (.put (Fz.refl _))))))))))))))))))))) ?_
  have s1 : ∀ (i : Nat) (x y z : Int × Int), (toldP ρ (ls.take k) q)[i]? = some x → (toldP ρ (ls.drop k) q)[i]? = some y → (toldP ρ ls q)[i]? = some z → sumQ x y z := fun i x y z h1 h2 h3 => told_sum hrs (ls.take k) (ls.drop k) hq h1 h2 (by rw [List.take_append_drop]; exact h3)
  have s2 : ∀ (i : Nat) (x z : Int × Int), (toldP ρ ls q)[i]? = some x → (toldP ρ (sc m ls) q)[i]? = some z → timesQ m x z := fun i x z h1 h2 => told_times hrs m ls hq h1 h2
  have q0 := told_bq hrs hbr hls pl
  have q1 := told_bq hrs hbr hl1 pl
  have q2 := told_bq hrs hbr hl2 pl
  have q4 := told_bq hrs hbr hlm pl
  refine pss_seq (psd_ifF (p := (¬ (true = true)) ∨ ¬ (true = true)) (PW.pt (pwd_or (ptd_not (ptd_val (pd_call c_l_is_sum hr (by decide) (by rfl)
      (pas_cons (by walk_at "nm") (pas_cons (pd_ix (i := 1) (dd := plsD (toldP ρ (ls.drop k) q)) (by walk_at "nm") pd_int (fun _ _ => rfl) rfl (atI_lit (j := 1) rfl)) (pas_cons (pd_ix (i := 0) (dd := plsD (toldP ρ ls q)) (by walk_at "nm") pd_int (fun _ _ => rfl) rfl (atI_lit (j := 0) rfl)) pas_nil)))
      ⟨toldP ρ (ls.take k) q, toldP ρ (ls.drop k) q, toldP ρ ls q, q1, q2, q0, s1, rfl, rfl⟩) (fun _ => rfl)))
    fun _ => pwd_or1 (ptd_not (ptd_val (pd_call c_l_is_times hr (by decide) (by rfl)
      (pas_cons (pd_ix (i := 0) (dd := plsD (toldP ρ ls q)) (by walk_at "nm") pd_int (fun _ _ => rfl) rfl (atI_lit (j := 0) rfl)) (pas_cons (by walk_at "nm") (pas_cons (pd_ix (i := 4) (dd := plsD (toldP ρ (sc m ls) q)) (by walk_at "nm") pd_int (fun _ _ => rfl) rfl (atI_lit (j := 4) rfl)) pas_nil)))
      ⟨toldP ρ ls q, toldP ρ (sc m ls) q, m, q0, q4, bm, s2, rfl, rfl⟩) (fun _ => rfl))))) (by simp) pss_nilD) ?_
  refine pss_end (psd_ret (pd_cast (d := .bl (true && (true && (true && true)))) (pd_and (k := true) (k2 := true && (true && true)) (pd_eqS (d1 := plsD (toldP ρ ls.reverse q)) (d2 := plsD (toldP ρ ls q)) hr (pd_ix (i := 2) (by walk_at "nm") pd_int (fun _ _ => rfl) rfl (atI_lit (j := 2) rfl)) (pd_ix (i := 0) (by walk_at "nm") pd_int (fun _ _ => rfl) rfl (atI_lit (j := 0) rfl)) (by rw [told_rev]) dat_told dat_told)
    fun _ => pd_and (k := true) (k2 := true && true) (pd_eqS (d1 := plsD (toldP ρ (cutLs c ls) q)) (d2 := plsD (toldP ρ ls q)) hr (pd_ix (i := 3) (by walk_at "nm") pd_int (fun _ _ => rfl) rfl (atI_lit (j := 3) rfl)) (pd_ix (i := 0) (by walk_at "nm") pd_int (fun _ _ => rfl) rfl (atI_lit (j := 0) rfl)) (by rw [told_cut hle]) dat_told dat_told)
    fun _ => pd_and (k := true) (k2 := true) (pd_eqS (d1 := plsD (toldP ρ (ls.take k) q)) (d2 := plsD (toldP ρ (ls.take k) q)) hr (pd_ix (i := 5) (by walk_at "nm") pd_int (fun _ _ => rfl) rfl (atI_lit (j := 5) rfl)) (by walk_at "nm") rfl dat_told dat_told)
    fun _ => pd_one (pd_eqI hr (by walk_at "nm") (by walk_at "nm") lds_insD)) rfl)) True.intro
end
end K08
namespace K08
open PySem L2 Bl
theorem all_mk {l : PySem.W.OpenLaw} {w : World} {K : PySem.W.Frag} {h : Heap} {mg : Str → Option Value} {fa : Addr} (X : K.In h) (G : h.Ns mainGlobals mg) (hfa : mg "law" = some (.ref fa))
    {c_NoNumber c_NoLoad c_NoBeam c_OffBeam c_Weight c_Spread c_Beam : Addr}
    {f0 : Addr} {od0 an0 : Option Addr} {sl0 : Array (Option Value)} {oc0 kV0 dc0 pm0 cd0 ct0 : Value}
    {f1 : Addr} {od1 an1 : Option Addr} {sl1 : Array (Option Value)} {oc1 kV1 dc1 pm1 cd1 ct1 : Value}
    {f2 : Addr} {od2 an2 : Option Addr} {sl2 : Array (Option Value)} {oc2 kV2 dc2 pm2 cd2 ct2 : Value}
    {f3 : Addr} {od3 an3 : Option Addr} {sl3 : Array (Option Value)} {oc3 kV3 dc3 pm3 cd3 ct3 : Value}
    {f4 : Addr} {od4 an4 : Option Addr} {sl4 : Array (Option Value)} {oc4 kV4 dc4 pm4 cd4 ct4 : Value}
    {f5 : Addr} {od5 an5 : Option Addr} {sl5 : Array (Option Value)} {oc5 kV5 dc5 pm5 cd5 ct5 : Value}
    {f6 : Addr} {od6 an6 : Option Addr} {sl6 : Array (Option Value)} {oc6 kV6 dc6 pm6 cd6 ct6 : Value}
    {f7 : Addr} {od7 an7 : Option Addr} {sl7 : Array (Option Value)} {oc7 kV7 dc7 pm7 cd7 ct7 : Value}
    {f8 : Addr} {od8 an8 : Option Addr} {sl8 : Array (Option Value)} {oc8 kV8 dc8 pm8 cd8 ct8 : Value}
    {f9 : Addr} {od9 an9 : Option Addr} {sl9 : Array (Option Value)} {oc9 kV9 dc9 pm9 cd9 ct9 : Value}
    {f10 : Addr} {od10 an10 : Option Addr} {sl10 : Array (Option Value)} {oc10 kV10 dc10 pm10 cd10 ct10 : Value}
    {f11 : Addr} {od11 an11 : Option Addr} {sl11 : Array (Option Value)} {oc11 kV11 dc11 pm11 cd11 ct11 : Value}
    {f12 : Addr} {od12 an12 : Option Addr} {sl12 : Array (Option Value)} {oc12 kV12 dc12 pm12 cd12 ct12 : Value}
    {f13 : Addr} {od13 an13 : Option Addr} {sl13 : Array (Option Value)} {oc13 kV13 dc13 pm13 cd13 ct13 : Value}
    {f14 : Addr} {od14 an14 : Option Addr} {sl14 : Array (Option Value)} {oc14 kV14 dc14 pm14 cd14 ct14 : Value}
    {f15 : Addr} {od15 an15 : Option Addr} {sl15 : Array (Option Value)} {oc15 kV15 dc15 pm15 cd15 ct15 : Value}
    {f16 : Addr} {od16 an16 : Option Addr} {sl16 : Array (Option Value)} {oc16 kV16 dc16 pm16 cd16 ct16 : Value}
    {f17 : Addr} {od17 an17 : Option Addr} {sl17 : Array (Option Value)} {oc17 kV17 dc17 pm17 cd17 ct17 : Value}
    {f18 : Addr} {od18 an18 : Option Addr} {sl18 : Array (Option Value)} {oc18 kV18 dc18 pm18 cd18 ct18 : Value}
    {f19 : Addr} {od19 an19 : Option Addr} {sl19 : Array (Option Value)} {oc19 kV19 dc19 pm19 cd19 ct19 : Value}
    {f20 : Addr} {od20 an20 : Option Addr} {sl20 : Array (Option Value)} {oc20 kV20 dc20 pm20 cd20 ct20 : Value}
    {f21 : Addr} {od21 an21 : Option Addr} {sl21 : Array (Option Value)} {oc21 kV21 dc21 pm21 cd21 ct21 : Value}
    {f22 : Addr} {od22 an22 : Option Addr} {sl22 : Array (Option Value)} {oc22 kV22 dc22 pm22 cd22 ct22 : Value}
    {f23 : Addr} {od23 an23 : Option Addr} {sl23 : Array (Option Value)} {oc23 kV23 dc23 pm23 cd23 ct23 : Value}
    {f24 : Addr} {od24 an24 : Option Addr} {sl24 : Array (Option Value)} {oc24 kV24 dc24 pm24 cd24 ct24 : Value}
    {f25 : Addr} {od25 an25 : Option Addr} {sl25 : Array (Option Value)} {oc25 kV25 dc25 pm25 cd25 ct25 : Value}
    {f26 : Addr} {od26 an26 : Option Addr} {sl26 : Array (Option Value)} {oc26 kV26 dc26 pm26 cd26 ct26 : Value}
    {f27 : Addr} {od27 an27 : Option Addr} {sl27 : Array (Option Value)} {oc27 kV27 dc27 pm27 cd27 ct27 : Value}
    {f28 : Addr} {od28 an28 : Option Addr} {sl28 : Array (Option Value)} {oc28 kV28 dc28 pm28 cd28 ct28 : Value}
    {f29 : Addr} {od29 an29 : Option Addr} {sl29 : Array (Option Value)} {oc29 kV29 dc29 pm29 cd29 ct29 : Value}
    {f30 : Addr} {od30 an30 : Option Addr} {sl30 : Array (Option Value)} {oc30 kV30 dc30 pm30 cd30 ct30 : Value}
    {f31 : Addr} {od31 an31 : Option Addr} {sl31 : Array (Option Value)} {oc31 kV31 dc31 pm31 cd31 ct31 : Value}
    {f32 : Addr} {od32 an32 : Option Addr} {sl32 : Array (Option Value)} {oc32 kV32 dc32 pm32 cd32 ct32 : Value}
    {f33 : Addr} {od33 an33 : Option Addr} {sl33 : Array (Option Value)} {oc33 kV33 dc33 pm33 cd33 ct33 : Value}
    {f34 : Addr} {od34 an34 : Option Addr} {sl34 : Array (Option Value)} {oc34 kV34 dc34 pm34 cd34 ct34 : Value}
    {f35 : Addr} {od35 an35 : Option Addr} {sl35 : Array (Option Value)} {oc35 kV35 dc35 pm35 cd35 ct35 : Value}
    {f36 : Addr} {od36 an36 : Option Addr} {sl36 : Array (Option Value)} {oc36 kV36 dc36 pm36 cd36 ct36 : Value}
    {f37 : Addr} {od37 an37 : Option Addr} {sl37 : Array (Option Value)} {oc37 kV37 dc37 pm37 cd37 ct37 : Value}
    (a_NoNumber : PySem.W.nsIn K mainGlobals "NoNumber" = some (some (.ref c_NoNumber)))
    (a_NoLoad : PySem.W.nsIn K mainGlobals "NoLoad" = some (some (.ref c_NoLoad)))
    (a_NoBeam : PySem.W.nsIn K mainGlobals "NoBeam" = some (some (.ref c_NoBeam)))
    (a_OffBeam : PySem.W.nsIn K mainGlobals "OffBeam" = some (some (.ref c_OffBeam)))
    (a_Weight : PySem.W.nsIn K mainGlobals "Weight" = some (some (.ref c_Weight)))
    (a_Spread : PySem.W.nsIn K mainGlobals "Spread" = some (some (.ref c_Spread)))
    (a_Beam : PySem.W.nsIn K mainGlobals "Beam" = some (some (.ref c_Beam)))
    (a0 : PySem.W.nsIn K mainGlobals "divisor" = some (some (.ref f0)))
    (l0 : K.lookup f0 = some ⟨oc0, od0, .func (PySem.W.fnOf "divisor" "divisor" (defArgs s_divisor) (defBody s_divisor) (defScope s_divisor) .none kV0 dc0 pm0 an0 cd0 ct0), sl0⟩)
    (c0 : PySem.W.codeIn K cd0 "divisor" = true)
    (k0 : PySem.W.keepIn K (.ref f0) = true)
    (a1 : PySem.W.nsIn K mainGlobals "fraction" = some (some (.ref f1)))
    (l1 : K.lookup f1 = some ⟨oc1, od1, .func (PySem.W.fnOf "fraction" "fraction" (defArgs s_fraction) (defBody s_fraction) (defScope s_fraction) .none kV1 dc1 pm1 an1 cd1 ct1), sl1⟩)
    (c1 : PySem.W.codeIn K cd1 "fraction" = true)
    (k1 : PySem.W.keepIn K (.ref f1) = true)
    (a2 : PySem.W.nsIn K mainGlobals "part_at" = some (some (.ref f2)))
    (l2 : K.lookup f2 = some ⟨oc2, od2, .func (PySem.W.fnOf "part_at" "part_at" (defArgs s_part_at) (defBody s_part_at) (defScope s_part_at) .none kV2 dc2 pm2 an2 cd2 ct2), sl2⟩)
    (c2 : PySem.W.codeIn K cd2 "part_at" = true)
    (k2 : PySem.W.keepIn K (.ref f2) = true)
    (a3 : PySem.W.nsIn K mainGlobals "sum_to" = some (some (.ref f3)))
    (l3 : K.lookup f3 = some ⟨oc3, od3, .func (PySem.W.fnOf "sum_to" "sum_to" (defArgs s_sum_to) (defBody s_sum_to) (defScope s_sum_to) .none kV3 dc3 pm3 an3 cd3 ct3), sl3⟩)
    (c3 : PySem.W.codeIn K cd3 "sum_to" = true)
    (k3 : PySem.W.keepIn K (.ref f3) = true)
    (a4Weight : PySem.W.findIn K (.ref c_Weight) "__init__" = some (some (.ref f4)))
    (i4 : PySem.W.isFn K (.ref f4) = true)
    (l4 : K.lookup f4 = some ⟨oc4, od4, .func (PySem.W.fnOf "__init__" "Weight.__init__" (defArgs s_Weight_init) (defBody s_Weight_init) (defScope s_Weight_init) .none kV4 dc4 pm4 an4 cd4 ct4), sl4⟩)
    (c4 : PySem.W.codeIn K cd4 "Weight.__init__" = true)
    (k4 : PySem.W.keepIn K (.ref f4) = true)
    (a5Spread : PySem.W.findIn K (.ref c_Spread) "__init__" = some (some (.ref f5)))
    (i5 : PySem.W.isFn K (.ref f5) = true)
    (l5 : K.lookup f5 = some ⟨oc5, od5, .func (PySem.W.fnOf "__init__" "Spread.__init__" (defArgs s_Spread_init) (defBody s_Spread_init) (defScope s_Spread_init) .none kV5 dc5 pm5 an5 cd5 ct5), sl5⟩)
    (c5 : PySem.W.codeIn K cd5 "Spread.__init__" = true)
    (k5 : PySem.W.keepIn K (.ref f5) = true)
    (a6Weight : PySem.W.findIn K (.ref c_Weight) "ends" = some (some (.ref f6)))
    (i6 : PySem.W.isFn K (.ref f6) = true)
    (l6 : K.lookup f6 = some ⟨oc6, od6, .func (PySem.W.fnOf "ends" "Weight.ends" (defArgs s_Weight_ends) (defBody s_Weight_ends) (defScope s_Weight_ends) .none kV6 dc6 pm6 an6 cd6 ct6), sl6⟩)
    (c6 : PySem.W.codeIn K cd6 "Weight.ends" = true)
    (k6 : PySem.W.keepIn K (.ref f6) = true)
    (a7Spread : PySem.W.findIn K (.ref c_Spread) "ends" = some (some (.ref f7)))
    (i7 : PySem.W.isFn K (.ref f7) = true)
    (l7 : K.lookup f7 = some ⟨oc7, od7, .func (PySem.W.fnOf "ends" "Spread.ends" (defArgs s_Spread_ends) (defBody s_Spread_ends) (defScope s_Spread_ends) .none kV7 dc7 pm7 an7 cd7 ct7), sl7⟩)
    (c7 : PySem.W.codeIn K cd7 "Spread.ends" = true)
    (k7 : PySem.W.keepIn K (.ref f7) = true)
    (a8Weight : PySem.W.findIn K (.ref c_Weight) "total" = some (some (.ref f8)))
    (i8 : PySem.W.isFn K (.ref f8) = true)
    (l8 : K.lookup f8 = some ⟨oc8, od8, .func (PySem.W.fnOf "total" "Weight.total" (defArgs s_Weight_total) (defBody s_Weight_total) (defScope s_Weight_total) .none kV8 dc8 pm8 an8 cd8 ct8), sl8⟩)
    (c8 : PySem.W.codeIn K cd8 "Weight.total" = true)
    (k8 : PySem.W.keepIn K (.ref f8) = true)
    (a9Spread : PySem.W.findIn K (.ref c_Spread) "total" = some (some (.ref f9)))
    (i9 : PySem.W.isFn K (.ref f9) = true)
    (l9 : K.lookup f9 = some ⟨oc9, od9, .func (PySem.W.fnOf "total" "Spread.total" (defArgs s_Spread_total) (defBody s_Spread_total) (defScope s_Spread_total) .none kV9 dc9 pm9 an9 cd9 ct9), sl9⟩)
    (c9 : PySem.W.codeIn K cd9 "Spread.total" = true)
    (k9 : PySem.W.keepIn K (.ref f9) = true)
    (a10Weight : PySem.W.findIn K (.ref c_Weight) "left_part" = some (some (.ref f10)))
    (i10 : PySem.W.isFn K (.ref f10) = true)
    (l10 : K.lookup f10 = some ⟨oc10, od10, .func (PySem.W.fnOf "left_part" "Weight.left_part" (defArgs s_Weight_left_part) (defBody s_Weight_left_part) (defScope s_Weight_left_part) .none kV10 dc10 pm10 an10 cd10 ct10), sl10⟩)
    (c10 : PySem.W.codeIn K cd10 "Weight.left_part" = true)
    (k10 : PySem.W.keepIn K (.ref f10) = true)
    (a11Spread : PySem.W.findIn K (.ref c_Spread) "left_part" = some (some (.ref f11)))
    (i11 : PySem.W.isFn K (.ref f11) = true)
    (l11 : K.lookup f11 = some ⟨oc11, od11, .func (PySem.W.fnOf "left_part" "Spread.left_part" (defArgs s_Spread_left_part) (defBody s_Spread_left_part) (defScope s_Spread_left_part) .none kV11 dc11 pm11 an11 cd11 ct11), sl11⟩)
    (c11 : PySem.W.codeIn K cd11 "Spread.left_part" = true)
    (k11 : PySem.W.keepIn K (.ref f11) = true)
    (a12Weight : PySem.W.findIn K (.ref c_Weight) "right_part" = some (some (.ref f12)))
    (i12 : PySem.W.isFn K (.ref f12) = true)
    (l12 : K.lookup f12 = some ⟨oc12, od12, .func (PySem.W.fnOf "right_part" "Weight.right_part" (defArgs s_Weight_right_part) (defBody s_Weight_right_part) (defScope s_Weight_right_part) .none kV12 dc12 pm12 an12 cd12 ct12), sl12⟩)
    (c12 : PySem.W.codeIn K cd12 "Weight.right_part" = true)
    (k12 : PySem.W.keepIn K (.ref f12) = true)
    (a13Spread : PySem.W.findIn K (.ref c_Spread) "right_part" = some (some (.ref f13)))
    (i13 : PySem.W.isFn K (.ref f13) = true)
    (l13 : K.lookup f13 = some ⟨oc13, od13, .func (PySem.W.fnOf "right_part" "Spread.right_part" (defArgs s_Spread_right_part) (defBody s_Spread_right_part) (defScope s_Spread_right_part) .none kV13 dc13 pm13 an13 cd13 ct13), sl13⟩)
    (c13 : PySem.W.codeIn K cd13 "Spread.right_part" = true)
    (k13 : PySem.W.keepIn K (.ref f13) = true)
    (a14Weight : PySem.W.findIn K (.ref c_Weight) "middle_part" = some (some (.ref f14)))
    (i14 : PySem.W.isFn K (.ref f14) = true)
    (l14 : K.lookup f14 = some ⟨oc14, od14, .func (PySem.W.fnOf "middle_part" "Weight.middle_part" (defArgs s_Weight_middle_part) (defBody s_Weight_middle_part) (defScope s_Weight_middle_part) .none kV14 dc14 pm14 an14 cd14 ct14), sl14⟩)
    (c14 : PySem.W.codeIn K cd14 "Weight.middle_part" = true)
    (k14 : PySem.W.keepIn K (.ref f14) = true)
    (a15Spread : PySem.W.findIn K (.ref c_Spread) "middle_part" = some (some (.ref f15)))
    (i15 : PySem.W.isFn K (.ref f15) = true)
    (l15 : K.lookup f15 = some ⟨oc15, od15, .func (PySem.W.fnOf "middle_part" "Spread.middle_part" (defArgs s_Spread_middle_part) (defBody s_Spread_middle_part) (defScope s_Spread_middle_part) .none kV15 dc15 pm15 an15 cd15 ct15), sl15⟩)
    (c15 : PySem.W.codeIn K cd15 "Spread.middle_part" = true)
    (k15 : PySem.W.keepIn K (.ref f15) = true)
    (a16Beam : PySem.W.findIn K (.ref c_Beam) "__init__" = some (some (.ref f16)))
    (i16 : PySem.W.isFn K (.ref f16) = true)
    (l16 : K.lookup f16 = some ⟨oc16, od16, .func (PySem.W.fnOf "__init__" "Beam.__init__" (defArgs s_Beam_init) (defBody s_Beam_init) (defScope s_Beam_init) .none kV16 dc16 pm16 an16 cd16 ct16), sl16⟩)
    (c16 : PySem.W.codeIn K cd16 "Beam.__init__" = true)
    (k16 : PySem.W.keepIn K (.ref f16) = true)
    (a17Beam : PySem.W.findIn K (.ref c_Beam) "parted" = some (some (.ref f17)))
    (i17 : PySem.W.isFn K (.ref f17) = true)
    (l17 : K.lookup f17 = some ⟨oc17, od17, .func (PySem.W.fnOf "parted" "Beam.parted" (defArgs s_Beam_parted) (defBody s_Beam_parted) (defScope s_Beam_parted) .none kV17 dc17 pm17 an17 cd17 ct17), sl17⟩)
    (c17 : PySem.W.codeIn K cd17 "Beam.parted" = true)
    (k17 : PySem.W.keepIn K (.ref f17) = true)
    (a18Beam : PySem.W.findIn K (.ref c_Beam) "bears" = some (some (.ref f18)))
    (i18 : PySem.W.isFn K (.ref f18) = true)
    (l18 : K.lookup f18 = some ⟨oc18, od18, .func (PySem.W.fnOf "bears" "Beam.bears" (defArgs s_Beam_bears) (defBody s_Beam_bears) (defScope s_Beam_bears) .none kV18 dc18 pm18 an18 cd18 ct18), sl18⟩)
    (c18 : PySem.W.codeIn K cd18 "Beam.bears" = true)
    (k18 : PySem.W.keepIn K (.ref f18) = true)
    (a19 : PySem.W.nsIn K mainGlobals "within" = some (some (.ref f19)))
    (l19 : K.lookup f19 = some ⟨oc19, od19, .func (PySem.W.fnOf "within" "within" (defArgs s_within) (defBody s_within) (defScope s_within) .none kV19 dc19 pm19 an19 cd19 ct19), sl19⟩)
    (c19 : PySem.W.codeIn K cd19 "within" = true)
    (k19 : PySem.W.keepIn K (.ref f19) = true)
    (a20 : PySem.W.nsIn K mainGlobals "turning" = some (some (.ref f20)))
    (l20 : K.lookup f20 = some ⟨oc20, od20, .func (PySem.W.fnOf "turning" "turning" (defArgs s_turning) (defBody s_turning) (defScope s_turning) .none kV20 dc20 pm20 an20 cd20 ct20), sl20⟩)
    (c20 : PySem.W.codeIn K cd20 "turning" = true)
    (k20 : PySem.W.keepIn K (.ref f20) = true)
    (a21 : PySem.W.nsIn K mainGlobals "_law_cell_at" = some (some (.ref f21)))
    (l21 : K.lookup f21 = some ⟨oc21, od21, .func (PySem.W.fnOf "_law_cell_at" "_law_cell_at" (defArgs s_l_cell_at) (defBody s_l_cell_at) (defScope s_l_cell_at) .none kV21 dc21 pm21 an21 cd21 ct21), sl21⟩)
    (c21 : PySem.W.codeIn K cd21 "_law_cell_at" = true)
    (k21 : PySem.W.keepIn K (.ref f21) = true)
    (a22 : PySem.W.nsIn K mainGlobals "_law_divisor" = some (some (.ref f22)))
    (l22 : K.lookup f22 = some ⟨oc22, od22, .func (PySem.W.fnOf "_law_divisor" "_law_divisor" (defArgs s_l_divisor) (defBody s_l_divisor) (defScope s_l_divisor) .none kV22 dc22 pm22 an22 cd22 ct22), sl22⟩)
    (c22 : PySem.W.codeIn K cd22 "_law_divisor" = true)
    (k22 : PySem.W.keepIn K (.ref f22) = true)
    (a23 : PySem.W.nsIn K mainGlobals "_law_number" = some (some (.ref f23)))
    (l23 : K.lookup f23 = some ⟨oc23, od23, .func (PySem.W.fnOf "_law_number" "_law_number" (defArgs s_l_number) (defBody s_l_number) (defScope s_l_number) .none kV23 dc23 pm23 an23 cd23 ct23), sl23⟩)
    (c23 : PySem.W.codeIn K cd23 "_law_number" = true)
    (k23 : PySem.W.keepIn K (.ref f23) = true)
    (a24 : PySem.W.nsIn K mainGlobals "_law_gap" = some (some (.ref f24)))
    (l24 : K.lookup f24 = some ⟨oc24, od24, .func (PySem.W.fnOf "_law_gap" "_law_gap" (defArgs s_l_gap) (defBody s_l_gap) (defScope s_l_gap) .none kV24 dc24 pm24 an24 cd24 ct24), sl24⟩)
    (c24 : PySem.W.codeIn K cd24 "_law_gap" = true)
    (k24 : PySem.W.keepIn K (.ref f24) = true)
    (a25 : PySem.W.nsIn K mainGlobals "_law_rests" = some (some (.ref f25)))
    (l25 : K.lookup f25 = some ⟨oc25, od25, .func (PySem.W.fnOf "_law_rests" "_law_rests" (defArgs s_l_rests) (defBody s_l_rests) (defScope s_l_rests) .none kV25 dc25 pm25 an25 cd25 ct25), sl25⟩)
    (c25 : PySem.W.codeIn K cd25 "_law_rests" = true)
    (k25 : PySem.W.keepIn K (.ref f25) = true)
    (a26 : PySem.W.nsIn K mainGlobals "_law_spot" = some (some (.ref f26)))
    (l26 : K.lookup f26 = some ⟨oc26, od26, .func (PySem.W.fnOf "_law_spot" "_law_spot" (defArgs s_l_spot) (defBody s_l_spot) (defScope s_l_spot) .none kV26 dc26 pm26 an26 cd26 ct26), sl26⟩)
    (c26 : PySem.W.codeIn K cd26 "_law_spot" = true)
    (k26 : PySem.W.keepIn K (.ref f26) = true)
    (a27 : PySem.W.nsIn K mainGlobals "_law_rows" = some (some (.ref f27)))
    (l27 : K.lookup f27 = some ⟨oc27, od27, .func (PySem.W.fnOf "_law_rows" "_law_rows" (defArgs s_l_rows) (defBody s_l_rows) (defScope s_l_rows) .none kV27 dc27 pm27 an27 cd27 ct27), sl27⟩)
    (c27 : PySem.W.codeIn K cd27 "_law_rows" = true)
    (k27 : PySem.W.keepIn K (.ref f27) = true)
    (a28 : PySem.W.nsIn K mainGlobals "_law_made" = some (some (.ref f28)))
    (l28 : K.lookup f28 = some ⟨oc28, od28, .func (PySem.W.fnOf "_law_made" "_law_made" (defArgs s_l_made) (defBody s_l_made) (defScope s_l_made) .none kV28 dc28 pm28 an28 cd28 ct28), sl28⟩)
    (c28 : PySem.W.codeIn K cd28 "_law_made" = true)
    (k28 : PySem.W.keepIn K (.ref f28) = true)
    (a29 : PySem.W.nsIn K mainGlobals "_law_whole" = some (some (.ref f29)))
    (l29 : K.lookup f29 = some ⟨oc29, od29, .func (PySem.W.fnOf "_law_whole" "_law_whole" (defArgs s_l_whole) (defBody s_l_whole) (defScope s_l_whole) .none kV29 dc29 pm29 an29 cd29 ct29), sl29⟩)
    (c29 : PySem.W.codeIn K cd29 "_law_whole" = true)
    (k29 : PySem.W.keepIn K (.ref f29) = true)
    (a30 : PySem.W.nsIn K mainGlobals "_law_is_fraction" = some (some (.ref f30)))
    (l30 : K.lookup f30 = some ⟨oc30, od30, .func (PySem.W.fnOf "_law_is_fraction" "_law_is_fraction" (defArgs s_l_is_fraction) (defBody s_l_is_fraction) (defScope s_l_is_fraction) .none kV30 dc30 pm30 an30 cd30 ct30), sl30⟩)
    (c30 : PySem.W.codeIn K cd30 "_law_is_fraction" = true)
    (k30 : PySem.W.keepIn K (.ref f30) = true)
    (a31 : PySem.W.nsIn K mainGlobals "_law_lowest" = some (some (.ref f31)))
    (l31 : K.lookup f31 = some ⟨oc31, od31, .func (PySem.W.fnOf "_law_lowest" "_law_lowest" (defArgs s_l_lowest) (defBody s_l_lowest) (defScope s_l_lowest) .none kV31 dc31 pm31 an31 cd31 ct31), sl31⟩)
    (c31 : PySem.W.codeIn K cd31 "_law_lowest" = true)
    (k31 : PySem.W.keepIn K (.ref f31) = true)
    (a32 : PySem.W.nsIn K mainGlobals "_law_place" = some (some (.ref f32)))
    (l32 : K.lookup f32 = some ⟨oc32, od32, .func (PySem.W.fnOf "_law_place" "_law_place" (defArgs s_l_place) (defBody s_l_place) (defScope s_l_place) .none kV32 dc32 pm32 an32 cd32 ct32), sl32⟩)
    (c32 : PySem.W.codeIn K cd32 "_law_place" = true)
    (k32 : PySem.W.keepIn K (.ref f32) = true)
    (a33 : PySem.W.nsIn K mainGlobals "_law_cut" = some (some (.ref f33)))
    (l33 : K.lookup f33 = some ⟨oc33, od33, .func (PySem.W.fnOf "_law_cut" "_law_cut" (defArgs s_l_cut) (defBody s_l_cut) (defScope s_l_cut) .none kV33 dc33 pm33 an33 cd33 ct33), sl33⟩)
    (c33 : PySem.W.codeIn K cd33 "_law_cut" = true)
    (k33 : PySem.W.keepIn K (.ref f33) = true)
    (a34 : PySem.W.nsIn K mainGlobals "_law_told" = some (some (.ref f34)))
    (l34 : K.lookup f34 = some ⟨oc34, od34, .func (PySem.W.fnOf "_law_told" "_law_told" (defArgs s_l_told) (defBody s_l_told) (defScope s_l_told) .none kV34 dc34 pm34 an34 cd34 ct34), sl34⟩)
    (c34 : PySem.W.codeIn K cd34 "_law_told" = true)
    (k34 : PySem.W.keepIn K (.ref f34) = true)
    (a35 : PySem.W.nsIn K mainGlobals "_law_is_sum" = some (some (.ref f35)))
    (l35 : K.lookup f35 = some ⟨oc35, od35, .func (PySem.W.fnOf "_law_is_sum" "_law_is_sum" (defArgs s_l_is_sum) (defBody s_l_is_sum) (defScope s_l_is_sum) .none kV35 dc35 pm35 an35 cd35 ct35), sl35⟩)
    (c35 : PySem.W.codeIn K cd35 "_law_is_sum" = true)
    (k35 : PySem.W.keepIn K (.ref f35) = true)
    (a36 : PySem.W.nsIn K mainGlobals "_law_is_times" = some (some (.ref f36)))
    (l36 : K.lookup f36 = some ⟨oc36, od36, .func (PySem.W.fnOf "_law_is_times" "_law_is_times" (defArgs s_l_is_times) (defBody s_l_is_times) (defScope s_l_is_times) .none kV36 dc36 pm36 an36 cd36 ct36), sl36⟩)
    (c36 : PySem.W.codeIn K cd36 "_law_is_times" = true)
    (k36 : PySem.W.keepIn K (.ref f36) = true)
    (a37 : PySem.W.nsIn K mainGlobals "law" = some (some (.ref f37)))
    (l37 : K.lookup f37 = some ⟨oc37, od37, .func (PySem.W.fnOf "law" "law" (defArgs s_law) (defBody s_law) (defScope s_law) .none kV37 dc37 pm37 an37 cd37 ct37), sl37⟩)
    (c37 : PySem.W.codeIn K cd37 "law" = true)
    (k37 : PySem.W.keepIn K (.ref f37) = true)
    (hn_abs : PySem.W.nsIn K mainGlobals "abs" = some none)
    (hn_max : PySem.W.nsIn K mainGlobals "max" = some none)
    (hn_min : PySem.W.nsIn K mainGlobals "min" = some none)
    (hn_len : PySem.W.nsIn K mainGlobals "len" = some none)
    (hn_sum : PySem.W.nsIn K mainGlobals "sum" = some none)
    (hn_isinstance : PySem.W.nsIn K mainGlobals "isinstance" = some none)
    (hn_list : PySem.W.nsIn K mainGlobals "list" = some none)
    (hn_tuple : PySem.W.nsIn K mainGlobals "tuple" = some none)
    (hn_int : PySem.W.nsIn K mainGlobals "int" = some none)
    (hn_bool : PySem.W.nsIn K mainGlobals "bool" = some none)
    (hn_range : PySem.W.nsIn K mainGlobals "range" = some none)
    (hn_zip : PySem.W.nsIn K mainGlobals "zip" = some none)
    (hn_reversed : PySem.W.nsIn K mainGlobals "reversed" = some none)
    (hx_NoNumber : PySem.W.excIn K c_NoNumber [.type "ValueError", .type "Exception", .type "BaseException", .type "object"] "ValueError.__new__" = true)
    (hk_NoNumber : PySem.W.keepIn K (.ref c_NoNumber) = true)
    (hb_NoNumber : PySem.W.subIn K (.ref c_NoNumber) (.type "BaseException") = some true)
    (ht_NoNumber : PySem.W.typeIn K (.ref c_NoNumber) = some (.type "type"))
    (hx_NoLoad : PySem.W.excIn K c_NoLoad [.type "ValueError", .type "Exception", .type "BaseException", .type "object"] "ValueError.__new__" = true)
    (hk_NoLoad : PySem.W.keepIn K (.ref c_NoLoad) = true)
    (hb_NoLoad : PySem.W.subIn K (.ref c_NoLoad) (.type "BaseException") = some true)
    (ht_NoLoad : PySem.W.typeIn K (.ref c_NoLoad) = some (.type "type"))
    (hx_NoBeam : PySem.W.excIn K c_NoBeam [.type "ValueError", .type "Exception", .type "BaseException", .type "object"] "ValueError.__new__" = true)
    (hk_NoBeam : PySem.W.keepIn K (.ref c_NoBeam) = true)
    (hb_NoBeam : PySem.W.subIn K (.ref c_NoBeam) (.type "BaseException") = some true)
    (ht_NoBeam : PySem.W.typeIn K (.ref c_NoBeam) = some (.type "type"))
    (hx_OffBeam : PySem.W.excIn K c_OffBeam [.type "ValueError", .type "Exception", .type "BaseException", .type "object"] "ValueError.__new__" = true)
    (hk_OffBeam : PySem.W.keepIn K (.ref c_OffBeam) = true)
    (hb_OffBeam : PySem.W.subIn K (.ref c_OffBeam) (.type "BaseException") = some true)
    (ht_OffBeam : PySem.W.typeIn K (.ref c_OffBeam) = some (.type "type"))
    (pg_cl_Weight : PySem.W.plainGet K c_Weight Str.empty = true)
    (hd_cl_Weight : PySem.W.hasDictIn K c_Weight = true)
    (po_cl_Weight : PySem.W.plainOver K c_Weight = true)
    (sa_cl_Weight : PySem.W.findIn K (.ref c_Weight) "__setattr__" = some (some (.builtin "object.__setattr__")))
    (hna_Weight_place : PySem.W.findIn K (.ref c_Weight) "place" = some none)
    (hna_Weight_size : PySem.W.findIn K (.ref c_Weight) "size" = some none)
    (pg_cl_Spread : PySem.W.plainGet K c_Spread Str.empty = true)
    (hd_cl_Spread : PySem.W.hasDictIn K c_Spread = true)
    (po_cl_Spread : PySem.W.plainOver K c_Spread = true)
    (sa_cl_Spread : PySem.W.findIn K (.ref c_Spread) "__setattr__" = some (some (.builtin "object.__setattr__")))
    (hna_Spread_start : PySem.W.findIn K (.ref c_Spread) "start" = some none)
    (hna_Spread_end : PySem.W.findIn K (.ref c_Spread) "end" = some none)
    (hna_Spread_each : PySem.W.findIn K (.ref c_Spread) "each" = some none)
    (pg_cl_Beam : PySem.W.plainGet K c_Beam Str.empty = true)
    (hd_cl_Beam : PySem.W.hasDictIn K c_Beam = true)
    (po_cl_Beam : PySem.W.plainOver K c_Beam = true)
    (sa_cl_Beam : PySem.W.findIn K (.ref c_Beam) "__setattr__" = some (some (.builtin "object.__setattr__")))
    (hna_Beam_length : PySem.W.findIn K (.ref c_Beam) "length" = some none)
    (hna_Beam_rests : PySem.W.findIn K (.ref c_Beam) "rests" = some none)
    (mk_Weight : PySem.W.makesIn K c_Weight = true)
    (kc_Weight : PySem.W.keepIn K (.ref c_Weight) = true)
    (mk_Spread : PySem.W.makesIn K c_Spread = true)
    (kc_Spread : PySem.W.keepIn K (.ref c_Spread) = true)
    (mk_Beam : PySem.W.makesIn K c_Beam = true)
    (kc_Beam : PySem.W.keepIn K (.ref c_Beam) = true)
    : ∃ fd : FuncData, (∀ (s : Shared) (v : Value), BindsTo s fd ⟨[v], []⟩ [("_law_script", v)]) ∧ ∀ base : Heap, K.In base → base.Ns mainGlobals mg → FnOk l.prog w K mg base (L2.CX l.prog w) 6 fa fd P_law (spLaw K) := by
  have e := hfa.symm.trans (PySem.W.mg_of X G a37)
  cases e
  have T : Tx K mg ⟨0, c_NoNumber, c_NoLoad, c_NoBeam, c_OffBeam, 0, c_Weight, c_Spread, c_Beam⟩ := ⟨PySem.W.mg_none_of X G hn_abs, PySem.W.mg_none_of X G hn_max, PySem.W.mg_none_of X G hn_min, PySem.W.mg_none_of X G hn_len, PySem.W.mg_none_of X G hn_sum, PySem.W.mg_none_of X G hn_isinstance, PySem.W.mg_none_of X G hn_list, PySem.W.mg_none_of X G hn_tuple, PySem.W.mg_none_of X G hn_int, PySem.W.mg_none_of X G hn_bool, PySem.W.mg_none_of X G hn_range, PySem.W.mg_none_of X G hn_zip, PySem.W.mg_none_of X G hn_reversed, PySem.W.mg_of X G a_NoNumber, PySem.W.mg_of X G a_NoLoad, PySem.W.mg_of X G a_NoBeam, PySem.W.mg_of X G a_OffBeam, PySem.W.mg_of X G a_Weight, PySem.W.mg_of X G a_Spread, PySem.W.mg_of X G a_Beam, hx_NoNumber, hk_NoNumber, hb_NoNumber, ht_NoNumber, hx_NoLoad, hk_NoLoad, hb_NoLoad, ht_NoLoad, hx_NoBeam, hk_NoBeam, hb_NoBeam, ht_NoBeam, hx_OffBeam, hk_OffBeam, hb_OffBeam, ht_OffBeam, ⟨pg_cl_Weight, hd_cl_Weight, po_cl_Weight, sa_cl_Weight⟩, hna_Weight_place, hna_Weight_size, ⟨pg_cl_Spread, hd_cl_Spread, po_cl_Spread, sa_cl_Spread⟩, hna_Spread_start, hna_Spread_end, hna_Spread_each, ⟨pg_cl_Beam, hd_cl_Beam, po_cl_Beam, sa_cl_Beam⟩, hna_Beam_length, hna_Beam_rests⟩
  have F0 := fun_mk (st := s_divisor) l0 c0 k0
  have F1 := fun_mk (st := s_fraction) l1 c1 k1
  have F2 := fun_mk (st := s_part_at) l2 c2 k2
  have F3 := fun_mk (st := s_sum_to) l3 c3 k3
  have F4 := fun_mk (st := s_Weight_init) l4 c4 k4
  have F5 := fun_mk (st := s_Spread_init) l5 c5 k5
  have F6 := fun_mk (st := s_Weight_ends) l6 c6 k6
  have F7 := fun_mk (st := s_Spread_ends) l7 c7 k7
  have F8 := fun_mk (st := s_Weight_total) l8 c8 k8
  have F9 := fun_mk (st := s_Spread_total) l9 c9 k9
  have F10 := fun_mk (st := s_Weight_left_part) l10 c10 k10
  have F11 := fun_mk (st := s_Spread_left_part) l11 c11 k11
  have F12 := fun_mk (st := s_Weight_right_part) l12 c12 k12
  have F13 := fun_mk (st := s_Spread_right_part) l13 c13 k13
  have F14 := fun_mk (st := s_Weight_middle_part) l14 c14 k14
  have F15 := fun_mk (st := s_Spread_middle_part) l15 c15 k15
  have F16 := fun_mk (st := s_Beam_init) l16 c16 k16
  have F17 := fun_mk (st := s_Beam_parted) l17 c17 k17
  have F18 := fun_mk (st := s_Beam_bears) l18 c18 k18
  have F19 := fun_mk (st := s_within) l19 c19 k19
  have F20 := fun_mk (st := s_turning) l20 c20 k20
  have F21 := fun_mk (st := s_l_cell_at) l21 c21 k21
  have F22 := fun_mk (st := s_l_divisor) l22 c22 k22
  have F23 := fun_mk (st := s_l_number) l23 c23 k23
  have F24 := fun_mk (st := s_l_gap) l24 c24 k24
  have F25 := fun_mk (st := s_l_rests) l25 c25 k25
  have F26 := fun_mk (st := s_l_spot) l26 c26 k26
  have F27 := fun_mk (st := s_l_rows) l27 c27 k27
  have F28 := fun_mk (st := s_l_made) l28 c28 k28
  have F29 := fun_mk (st := s_l_whole) l29 c29 k29
  have F30 := fun_mk (st := s_l_is_fraction) l30 c30 k30
  have F31 := fun_mk (st := s_l_lowest) l31 c31 k31
  have F32 := fun_mk (st := s_l_place) l32 c32 k32
  have F33 := fun_mk (st := s_l_cut) l33 c33 k33
  have F34 := fun_mk (st := s_l_told) l34 c34 k34
  have F35 := fun_mk (st := s_l_is_sum) l35 c35 k35
  have F36 := fun_mk (st := s_l_is_times) l36 c36 k36
  have F37 := fun_mk (st := s_law) l37 c37 k37
  refine ⟨PySem.W.fnOf "law" "law" (defArgs s_law) (defBody s_law) (defScope s_law) .none kV37 dc37 pm37 an37 cd37 ct37, fun s v => .of_eq rfl, fun base _ _ => ?_⟩
  have c_divisor := cal_divisor (P := l.prog) (w := w) (base := base) (cs := ⟨0, c_NoNumber, c_NoLoad, c_NoBeam, c_OffBeam, 0, c_Weight, c_Spread, c_Beam⟩) F0 (PySem.W.mg_of X G a0) T
  have c_fraction := cal_fraction (P := l.prog) (w := w) (base := base) (cs := ⟨0, c_NoNumber, c_NoLoad, c_NoBeam, c_OffBeam, 0, c_Weight, c_Spread, c_Beam⟩) F1 (PySem.W.mg_of X G a1) T c_divisor
  have c_part_at := cal_part_at (P := l.prog) (w := w) (base := base) (cs := ⟨0, c_NoNumber, c_NoLoad, c_NoBeam, c_OffBeam, 0, c_Weight, c_Spread, c_Beam⟩) F2 (PySem.W.mg_of X G a2) T
  have c_sum_to := cal_sum_to (P := l.prog) (w := w) (base := base) (cs := ⟨0, c_NoNumber, c_NoLoad, c_NoBeam, c_OffBeam, 0, c_Weight, c_Spread, c_Beam⟩) F3 (PySem.W.mg_of X G a3) T
  have c_Weight_init := cal_Weight_init (P := l.prog) (w := w) (base := base) (cs := ⟨0, c_NoNumber, c_NoLoad, c_NoBeam, c_OffBeam, 0, c_Weight, c_Spread, c_Beam⟩) F4 (PySem.W.mg_of X G a_Weight) ⟨mk_Weight, a4Weight, i4, kc_Weight⟩ T
  have c_Spread_init := cal_Spread_init (P := l.prog) (w := w) (base := base) (cs := ⟨0, c_NoNumber, c_NoLoad, c_NoBeam, c_OffBeam, 0, c_Weight, c_Spread, c_Beam⟩) F5 (PySem.W.mg_of X G a_Spread) ⟨mk_Spread, a5Spread, i5, kc_Spread⟩ T
  have c_Weight_ends := cal_Weight_ends (P := l.prog) (w := w) (base := base) (cs := ⟨0, c_NoNumber, c_NoLoad, c_NoBeam, c_OffBeam, 0, c_Weight, c_Spread, c_Beam⟩) F6 ⟨a6Weight, i6, k6⟩ T
  have c_Spread_ends := cal_Spread_ends (P := l.prog) (w := w) (base := base) (cs := ⟨0, c_NoNumber, c_NoLoad, c_NoBeam, c_OffBeam, 0, c_Weight, c_Spread, c_Beam⟩) F7 ⟨a7Spread, i7, k7⟩ T
  have c_Weight_total := cal_Weight_total (P := l.prog) (w := w) (base := base) (cs := ⟨0, c_NoNumber, c_NoLoad, c_NoBeam, c_OffBeam, 0, c_Weight, c_Spread, c_Beam⟩) F8 ⟨a8Weight, i8, k8⟩ T
  have c_Spread_total := cal_Spread_total (P := l.prog) (w := w) (base := base) (cs := ⟨0, c_NoNumber, c_NoLoad, c_NoBeam, c_OffBeam, 0, c_Weight, c_Spread, c_Beam⟩) F9 ⟨a9Spread, i9, k9⟩ T
  have c_Weight_left_part := cal_Weight_left_part (P := l.prog) (w := w) (base := base) (cs := ⟨0, c_NoNumber, c_NoLoad, c_NoBeam, c_OffBeam, 0, c_Weight, c_Spread, c_Beam⟩) F10 ⟨a10Weight, i10, k10⟩ T
  have c_Spread_left_part := cal_Spread_left_part (P := l.prog) (w := w) (base := base) (cs := ⟨0, c_NoNumber, c_NoLoad, c_NoBeam, c_OffBeam, 0, c_Weight, c_Spread, c_Beam⟩) F11 ⟨a11Spread, i11, k11⟩ T
  have c_Weight_right_part := cal_Weight_right_part (P := l.prog) (w := w) (base := base) (cs := ⟨0, c_NoNumber, c_NoLoad, c_NoBeam, c_OffBeam, 0, c_Weight, c_Spread, c_Beam⟩) F12 ⟨a12Weight, i12, k12⟩ T
  have c_Spread_right_part := cal_Spread_right_part (P := l.prog) (w := w) (base := base) (cs := ⟨0, c_NoNumber, c_NoLoad, c_NoBeam, c_OffBeam, 0, c_Weight, c_Spread, c_Beam⟩) F13 ⟨a13Spread, i13, k13⟩ T
  have c_Weight_middle_part := cal_Weight_middle_part (P := l.prog) (w := w) (base := base) (cs := ⟨0, c_NoNumber, c_NoLoad, c_NoBeam, c_OffBeam, 0, c_Weight, c_Spread, c_Beam⟩) F14 ⟨a14Weight, i14, k14⟩ T c_part_at
  have c_Spread_middle_part := cal_Spread_middle_part (P := l.prog) (w := w) (base := base) (cs := ⟨0, c_NoNumber, c_NoLoad, c_NoBeam, c_OffBeam, 0, c_Weight, c_Spread, c_Beam⟩) F15 ⟨a15Spread, i15, k15⟩ T c_sum_to
  have c_Beam_init := cal_Beam_init (P := l.prog) (w := w) (base := base) (cs := ⟨0, c_NoNumber, c_NoLoad, c_NoBeam, c_OffBeam, 0, c_Weight, c_Spread, c_Beam⟩) F16 (PySem.W.mg_of X G a_Beam) ⟨mk_Beam, a16Beam, i16, kc_Beam⟩ T
  have c_Beam_parted := cal_Beam_parted (P := l.prog) (w := w) (base := base) (cs := ⟨0, c_NoNumber, c_NoLoad, c_NoBeam, c_OffBeam, 0, c_Weight, c_Spread, c_Beam⟩) F17 ⟨a17Beam, i17, k17⟩ T c_Weight_ends c_Spread_ends c_Weight_total c_Spread_total c_Weight_left_part c_Spread_left_part c_Weight_right_part c_Spread_right_part c_Weight_middle_part c_Spread_middle_part
  have c_Beam_bears := cal_Beam_bears (P := l.prog) (w := w) (base := base) (cs := ⟨0, c_NoNumber, c_NoLoad, c_NoBeam, c_OffBeam, 0, c_Weight, c_Spread, c_Beam⟩) F18 ⟨a18Beam, i18, k18⟩ T c_fraction c_Beam_parted
  have c_within := cal_within (P := l.prog) (w := w) (base := base) (cs := ⟨0, c_NoNumber, c_NoLoad, c_NoBeam, c_OffBeam, 0, c_Weight, c_Spread, c_Beam⟩) F19 (PySem.W.mg_of X G a19) T c_fraction c_Weight_left_part c_Spread_left_part
  have c_turning := cal_turning (P := l.prog) (w := w) (base := base) (cs := ⟨0, c_NoNumber, c_NoLoad, c_NoBeam, c_OffBeam, 0, c_Weight, c_Spread, c_Beam⟩) F20 (PySem.W.mg_of X G a20) T c_Beam_parted c_within
  have c_l_cell_at := cal_l_cell_at (P := l.prog) (w := w) (base := base) (cs := ⟨0, c_NoNumber, c_NoLoad, c_NoBeam, c_OffBeam, 0, c_Weight, c_Spread, c_Beam⟩) F21 (PySem.W.mg_of X G a21) T
  have c_l_divisor := cal_l_divisor (P := l.prog) (w := w) (base := base) (cs := ⟨0, c_NoNumber, c_NoLoad, c_NoBeam, c_OffBeam, 0, c_Weight, c_Spread, c_Beam⟩) F22 (PySem.W.mg_of X G a22) T
  have c_l_number := cal_l_number (P := l.prog) (w := w) (base := base) (cs := ⟨0, c_NoNumber, c_NoLoad, c_NoBeam, c_OffBeam, 0, c_Weight, c_Spread, c_Beam⟩) F23 (PySem.W.mg_of X G a23) T
  have c_l_gap := cal_l_gap (P := l.prog) (w := w) (base := base) (cs := ⟨0, c_NoNumber, c_NoLoad, c_NoBeam, c_OffBeam, 0, c_Weight, c_Spread, c_Beam⟩) F24 (PySem.W.mg_of X G a24) T
  have c_l_rests := cal_l_rests (P := l.prog) (w := w) (base := base) (cs := ⟨0, c_NoNumber, c_NoLoad, c_NoBeam, c_OffBeam, 0, c_Weight, c_Spread, c_Beam⟩) F25 (PySem.W.mg_of X G a25) T c_l_cell_at c_l_gap
  have c_l_spot := cal_l_spot (P := l.prog) (w := w) (base := base) (cs := ⟨0, c_NoNumber, c_NoLoad, c_NoBeam, c_OffBeam, 0, c_Weight, c_Spread, c_Beam⟩) F26 (PySem.W.mg_of X G a26) T
  have c_l_rows := cal_l_rows (P := l.prog) (w := w) (base := base) (cs := ⟨0, c_NoNumber, c_NoLoad, c_NoBeam, c_OffBeam, 0, c_Weight, c_Spread, c_Beam⟩) F27 (PySem.W.mg_of X G a27) T c_l_cell_at c_l_spot c_l_number
  have c_l_made := cal_l_made (P := l.prog) (w := w) (base := base) (cs := ⟨0, c_NoNumber, c_NoLoad, c_NoBeam, c_OffBeam, 0, c_Weight, c_Spread, c_Beam⟩) F28 (PySem.W.mg_of X G a28) T c_Weight_init c_Spread_init
  have c_l_whole := cal_l_whole (P := l.prog) (w := w) (base := base) (cs := ⟨0, c_NoNumber, c_NoLoad, c_NoBeam, c_OffBeam, 0, c_Weight, c_Spread, c_Beam⟩) F29 (PySem.W.mg_of X G a29) T
  have c_l_is_fraction := cal_l_is_fraction (P := l.prog) (w := w) (base := base) (cs := ⟨0, c_NoNumber, c_NoLoad, c_NoBeam, c_OffBeam, 0, c_Weight, c_Spread, c_Beam⟩) F30 (PySem.W.mg_of X G a30) T c_l_whole c_l_divisor
  have c_l_lowest := cal_l_lowest (P := l.prog) (w := w) (base := base) (cs := ⟨0, c_NoNumber, c_NoLoad, c_NoBeam, c_OffBeam, 0, c_Weight, c_Spread, c_Beam⟩) F31 (PySem.W.mg_of X G a31) T c_l_divisor
  have c_l_place := cal_l_place (P := l.prog) (w := w) (base := base) (cs := ⟨0, c_NoNumber, c_NoLoad, c_NoBeam, c_OffBeam, 0, c_Weight, c_Spread, c_Beam⟩) F32 (PySem.W.mg_of X G a32) T c_l_lowest
  have c_l_cut := cal_l_cut (P := l.prog) (w := w) (base := base) (cs := ⟨0, c_NoNumber, c_NoLoad, c_NoBeam, c_OffBeam, 0, c_Weight, c_Spread, c_Beam⟩) F33 (PySem.W.mg_of X G a33) T
  have c_l_told := cal_l_told (P := l.prog) (w := w) (base := base) (cs := ⟨0, c_NoNumber, c_NoLoad, c_NoBeam, c_OffBeam, 0, c_Weight, c_Spread, c_Beam⟩) F34 (PySem.W.mg_of X G a34) T c_Beam_bears c_turning c_l_is_fraction
  have c_l_is_sum := cal_l_is_sum (P := l.prog) (w := w) (base := base) (cs := ⟨0, c_NoNumber, c_NoLoad, c_NoBeam, c_OffBeam, 0, c_Weight, c_Spread, c_Beam⟩) F35 (PySem.W.mg_of X G a35) T
  have c_l_is_times := cal_l_is_times (P := l.prog) (w := w) (base := base) (cs := ⟨0, c_NoNumber, c_NoLoad, c_NoBeam, c_OffBeam, 0, c_Weight, c_Spread, c_Beam⟩) F36 (PySem.W.mg_of X G a36) T
  exact ok_law F37 T c_Beam_init c_l_cell_at c_l_gap c_l_rests c_l_rows c_l_made c_l_place c_l_cut c_l_told c_l_is_sum c_l_is_times
theorem walk {l : PySem.W.OpenLaw} {q : Program} {loose : List Str} {XP : (Str → Option Value) → Heap → Prop} {YP : World → Heap → Prop} {d : DefRec} {K : Params → PySem.W.Frag} (hn : l.most = some 63) (hdf : d.params.defaults = [])
    (hY : ∀ (w : World) (h : Heap), YP w h → (K w.params).In h)
    (F : ∀ (w : World) (mg : Str → Option Value) (fa : Addr) (h : Heap), (K w.params).In h → h.Ns mainGlobals mg → mg d.name = some (.ref fa) →
      ∃ fd : FuncData, (∀ (s : Shared) (u : Value), BindsTo s fd ⟨[u], []⟩ [("_law_script", u)]) ∧ ∀ base : Heap, (K w.params).In base → base.Ns mainGlobals mg → FnOk l.prog w (K w.params) mg base (L2.CX l.prog w) 6 fa fd P_law (spLaw (K w.params))) :
    PySem.W.WalkO q loose XP YP l.row.toRowW d [] (fun f vs => PySem.call f vs) :=
  L2.walk_of (n := 63) (k := 6) (x := "_law_script") (CX := fun w => L2.CX l.prog w) (sp := fun w => spLaw (K w.params)) hn (by decide) hdf ⟨rfl, by decide, by decide⟩ hY F (fun _ _ a ns hl _ hS => ⟨a, ns, rfl, hS, hl, fun _ => rfl⟩) fun _ _ _ _ _ z => cx_none z
end K08
open PySem PySem.W PyProof.Rows
set_option maxRecDepth 100000 in
set_option maxHeartbeats 0 in
theorem PySem.Challenge.cw_beamload_k08_whole_two_loads_together_holds : PySem.Challenge.rw_beamload_k08_whole_two_loads_together.Holds := by
  w_on; o_law; k_head; (case hw => w_witness2)
  k_fill
  refine K08.walk (l := PySem.Challenge.rw_beamload_k08_whole_two_loads_together) rfl rfl (fun w h Y => PySem.W.kIn_of Y) ?F
  case F =>
    intro w mg fa h KX G hmg
    refine' K08.all_mk KX G hmg ?a_NoNumber ?a_NoLoad ?a_NoBeam ?a_OffBeam ?a_Weight ?a_Spread ?a_Beam ?a0 ?l0 ?c0 ?k0 ?a1 ?l1 ?c1 ?k1 ?a2 ?l2 ?c2 ?k2 ?a3 ?l3 ?c3 ?k3 ?a4Weight ?i4 ?l4 ?c4 ?k4 ?a5Spread ?i5 ?l5 ?c5 ?k5 ?a6Weight ?i6 ?l6 ?c6 ?k6 ?a7Spread ?i7 ?l7 ?c7 ?k7 ?a8Weight ?i8 ?l8 ?c8 ?k8 ?a9Spread ?i9 ?l9 ?c9 ?k9 ?a10Weight ?i10 ?l10 ?c10 ?k10 ?a11Spread ?i11 ?l11 ?c11 ?k11 ?a12Weight ?i12 ?l12 ?c12 ?k12 ?a13Spread ?i13 ?l13 ?c13 ?k13 ?a14Weight ?i14 ?l14 ?c14 ?k14 ?a15Spread ?i15 ?l15 ?c15 ?k15 ?a16Beam ?i16 ?l16 ?c16 ?k16 ?a17Beam ?i17 ?l17 ?c17 ?k17 ?a18Beam ?i18 ?l18 ?c18 ?k18 ?a19 ?l19 ?c19 ?k19 ?a20 ?l20 ?c20 ?k20 ?a21 ?l21 ?c21 ?k21 ?a22 ?l22 ?c22 ?k22 ?a23 ?l23 ?c23 ?k23 ?a24 ?l24 ?c24 ?k24 ?a25 ?l25 ?c25 ?k25 ?a26 ?l26 ?c26 ?k26 ?a27 ?l27 ?c27 ?k27 ?a28 ?l28 ?c28 ?k28 ?a29 ?l29 ?c29 ?k29 ?a30 ?l30 ?c30 ?k30 ?a31 ?l31 ?c31 ?k31 ?a32 ?l32 ?c32 ?k32 ?a33 ?l33 ?c33 ?k33 ?a34 ?l34 ?c34 ?k34 ?a35 ?l35 ?c35 ?k35 ?a36 ?l36 ?c36 ?k36 ?a37 ?l37 ?c37 ?k37 ?hn_abs ?hn_max ?hn_min ?hn_len ?hn_sum ?hn_isinstance ?hn_list ?hn_tuple ?hn_int ?hn_bool ?hn_range ?hn_zip ?hn_reversed ?hx_NoNumber ?hk_NoNumber ?hb_NoNumber ?ht_NoNumber ?hx_NoLoad ?hk_NoLoad ?hb_NoLoad ?ht_NoLoad ?hx_NoBeam ?hk_NoBeam ?hb_NoBeam ?ht_NoBeam ?hx_OffBeam ?hk_OffBeam ?hb_OffBeam ?ht_OffBeam ?pg_cl_Weight ?hd_cl_Weight ?po_cl_Weight ?sa_cl_Weight ?hna_Weight_place ?hna_Weight_size ?pg_cl_Spread ?hd_cl_Spread ?po_cl_Spread ?sa_cl_Spread ?hna_Spread_start ?hna_Spread_end ?hna_Spread_each ?pg_cl_Beam ?hd_cl_Beam ?po_cl_Beam ?sa_cl_Beam ?hna_Beam_length ?hna_Beam_rests ?mk_Weight ?kc_Weight ?mk_Spread ?kc_Spread ?mk_Beam ?kc_Beam
    (case a_NoNumber => k_is)
    (case a_NoLoad => k_is)
    (case a_NoBeam => k_is)
    (case a_OffBeam => k_is)
    (case a_Weight => k_is)
    (case a_Spread => k_is)
    (case a_Beam => k_is)
    (case a0 => k_is)
    (case l0 => k_is)
    (case c0 => k_is)
    (case k0 => k_is)
    (case a1 => k_is)
    (case l1 => k_is)
    (case c1 => k_is)
    (case k1 => k_is)
    (case a2 => k_is)
    (case l2 => k_is)
    (case c2 => k_is)
    (case k2 => k_is)
    (case a3 => k_is)
    (case l3 => k_is)
    (case c3 => k_is)
    (case k3 => k_is)
    (case a4Weight => k_is)
    (case i4 => k_is)
    (case l4 => k_is)
    (case c4 => k_is)
    (case k4 => k_is)
    (case a5Spread => k_is)
    (case i5 => k_is)
    (case l5 => k_is)
    (case c5 => k_is)
    (case k5 => k_is)
    (case a6Weight => k_is)
    (case i6 => k_is)
    (case l6 => k_is)
    (case c6 => k_is)
    (case k6 => k_is)
    (case a7Spread => k_is)
    (case i7 => k_is)
    (case l7 => k_is)
    (case c7 => k_is)
    (case k7 => k_is)
    (case a8Weight => k_is)
    (case i8 => k_is)
    (case l8 => k_is)
    (case c8 => k_is)
    (case k8 => k_is)
    (case a9Spread => k_is)
    (case i9 => k_is)
    (case l9 => k_is)
    (case c9 => k_is)
    (case k9 => k_is)
    (case a10Weight => k_is)
    (case i10 => k_is)
    (case l10 => k_is)
    (case c10 => k_is)
    (case k10 => k_is)
    (case a11Spread => k_is)
    (case i11 => k_is)
    (case l11 => k_is)
    (case c11 => k_is)
    (case k11 => k_is)
    (case a12Weight => k_is)
    (case i12 => k_is)
    (case l12 => k_is)
    (case c12 => k_is)
    (case k12 => k_is)
    (case a13Spread => k_is)
    (case i13 => k_is)
    (case l13 => k_is)
    (case c13 => k_is)
    (case k13 => k_is)
    (case a14Weight => k_is)
    (case i14 => k_is)
    (case l14 => k_is)
    (case c14 => k_is)
    (case k14 => k_is)
    (case a15Spread => k_is)
    (case i15 => k_is)
    (case l15 => k_is)
    (case c15 => k_is)
    (case k15 => k_is)
    (case a16Beam => k_is)
    (case i16 => k_is)
    (case l16 => k_is)
    (case c16 => k_is)
    (case k16 => k_is)
    (case a17Beam => k_is)
    (case i17 => k_is)
    (case l17 => k_is)
    (case c17 => k_is)
    (case k17 => k_is)
    (case a18Beam => k_is)
    (case i18 => k_is)
    (case l18 => k_is)
    (case c18 => k_is)
    (case k18 => k_is)
    (case a19 => k_is)
    (case l19 => k_is)
    (case c19 => k_is)
    (case k19 => k_is)
    (case a20 => k_is)
    (case l20 => k_is)
    (case c20 => k_is)
    (case k20 => k_is)
    (case a21 => k_is)
    (case l21 => k_is)
    (case c21 => k_is)
    (case k21 => k_is)
    (case a22 => k_is)
    (case l22 => k_is)
    (case c22 => k_is)
    (case k22 => k_is)
    (case a23 => k_is)
    (case l23 => k_is)
    (case c23 => k_is)
    (case k23 => k_is)
    (case a24 => k_is)
    (case l24 => k_is)
    (case c24 => k_is)
    (case k24 => k_is)
    (case a25 => k_is)
    (case l25 => k_is)
    (case c25 => k_is)
    (case k25 => k_is)
    (case a26 => k_is)
    (case l26 => k_is)
    (case c26 => k_is)
    (case k26 => k_is)
    (case a27 => k_is)
    (case l27 => k_is)
    (case c27 => k_is)
    (case k27 => k_is)
    (case a28 => k_is)
    (case l28 => k_is)
    (case c28 => k_is)
    (case k28 => k_is)
    (case a29 => k_is)
    (case l29 => k_is)
    (case c29 => k_is)
    (case k29 => k_is)
    (case a30 => k_is)
    (case l30 => k_is)
    (case c30 => k_is)
    (case k30 => k_is)
    (case a31 => k_is)
    (case l31 => k_is)
    (case c31 => k_is)
    (case k31 => k_is)
    (case a32 => k_is)
    (case l32 => k_is)
    (case c32 => k_is)
    (case k32 => k_is)
    (case a33 => k_is)
    (case l33 => k_is)
    (case c33 => k_is)
    (case k33 => k_is)
    (case a34 => k_is)
    (case l34 => k_is)
    (case c34 => k_is)
    (case k34 => k_is)
    (case a35 => k_is)
    (case l35 => k_is)
    (case c35 => k_is)
    (case k35 => k_is)
    (case a36 => k_is)
    (case l36 => k_is)
    (case c36 => k_is)
    (case k36 => k_is)
    (case a37 => k_is)
    (case l37 => k_is)
    (case c37 => k_is)
    (case k37 => k_is)
    (case hn_abs => k_is)
    (case hn_max => k_is)
    (case hn_min => k_is)
    (case hn_len => k_is)
    (case hn_sum => k_is)
    (case hn_isinstance => k_is)
    (case hn_list => k_is)
    (case hn_tuple => k_is)
    (case hn_int => k_is)
    (case hn_bool => k_is)
    (case hn_range => k_is)
    (case hn_zip => k_is)
    (case hn_reversed => k_is)
    (case hx_NoNumber => k_exc)
    (case hk_NoNumber => k_is)
    (case hb_NoNumber => k_is)
    (case ht_NoNumber => k_is)
    (case hx_NoLoad => k_exc)
    (case hk_NoLoad => k_is)
    (case hb_NoLoad => k_is)
    (case ht_NoLoad => k_is)
    (case hx_NoBeam => k_exc)
    (case hk_NoBeam => k_is)
    (case hb_NoBeam => k_is)
    (case ht_NoBeam => k_is)
    (case hx_OffBeam => k_exc)
    (case hk_OffBeam => k_is)
    (case hb_OffBeam => k_is)
    (case ht_OffBeam => k_is)
    (case pg_cl_Weight => k_is)
    (case hd_cl_Weight => k_is)
    (case po_cl_Weight => k_is)
    (case sa_cl_Weight => k_is)
    (case hna_Weight_place => k_is)
    (case hna_Weight_size => k_is)
    (case pg_cl_Spread => k_is)
    (case hd_cl_Spread => k_is)
    (case po_cl_Spread => k_is)
    (case sa_cl_Spread => k_is)
    (case hna_Spread_start => k_is)
    (case hna_Spread_end => k_is)
    (case hna_Spread_each => k_is)
    (case pg_cl_Beam => k_is)
    (case hd_cl_Beam => k_is)
    (case po_cl_Beam => k_is)
    (case sa_cl_Beam => k_is)
    (case hna_Beam_length => k_is)
    (case hna_Beam_rests => k_is)
    (case mk_Weight => k_is)
    (case kc_Weight => k_is)
    (case mk_Spread => k_is)
    (case kc_Spread => k_is)
    (case mk_Beam => k_is)
    (case kc_Beam => k_is)
