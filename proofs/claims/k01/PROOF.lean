import PyProof.Rows.All
import Wide.All
import OpenK.AllK
import Wide.FinOn
import HandS.ForMost
import HandS.ForExc
import HandS.Wide
import HandS.IsInst
import HandS.SortInts
import HandS.ExcIs
import HandS.Walk
import PySem.Challenge.RW_beamload_k01_a_fraction
set_option Elab.async false
set_option linter.all false
set_option maxRecDepth 100000
set_option maxHeartbeats 4000000
set_option exponentiation.threshold 100000
namespace Bl
open PySem L2

/-! data as the proofs speak of it -/
inductive D where
  | non | int (i : Int) | bl (b : Bool)
  | tup (ds : List D) | lst (ds : List D) | sq (ds : List D) | lv (vs : List V) (ds : List D)
  | ins (C : Addr) (ns : List Str) (ds : List D) | mref (l : Addr)

def Ex (H H' : Hp) : Prop := ∀ a o, H a = some o → H' a = some o
theorem Ex.refl (H : Hp) : Ex H H := fun _ _ h => h
theorem Ex.trans {H H1 H2 : Hp} (a : Ex H H1) (b : Ex H1 H2) : Ex H H2 := fun x o h => b x o (a x o h)
theorem Ex.none {H H' : Hp} {p : Addr} (e : Ex H H') (h : H' p = Option.none) : H p = Option.none := by
  cases q : H p with
  | none => rfl
  | some o => rw [e p o q] at h; cases h

mutual
def Rep (K : PySem.W.Frag) (F : Hp) : D → V → Prop
  | .non, v => v = .non
  | .int i, v => v = .int i
  | .bl b, v => v = .bl b
  | .tup ds, v => ∃ p vs, v = .ref p ∧ F p = some (.tup vs) ∧ RepL K F ds vs
  | .lst ds, v => ∃ p vs, v = .ref p ∧ F p = some (.lst vs) ∧ RepL K F ds vs
  | .sq ds, v => ∃ p vs, v = .ref p ∧ SqL K F p vs ∧ RepL K F ds vs
  | .lv vs ds, v => ∃ p, v = .ref p ∧ F p = some (.lst vs) ∧ RepL K F ds vs
  | .ins C ns ds, v => ∃ p dx vs, v = .ref p ∧ F p = some (.ins C dx (ns.zip vs)) ∧ RepL K F ds vs ∧ ds.length = ns.length
  | .mref l, v => v = .ref l
def RepL (K : PySem.W.Frag) (F : Hp) : List D → List V → Prop
  | [], vs => vs = []
  | d :: ds, vs => ∃ v r, vs = v :: r ∧ Rep K F d v ∧ RepL K F ds r
end

theorem Ex.sql {K : PySem.W.Frag} {F F' : Hp} {a : Addr} {xs : List V} (e : Ex F F') (h : SqL K F a xs) : SqL K F' a xs := by
  rcases h with (h | ⟨o, h⟩) | h
  · exact .inl (.inl (e _ _ h))
  · exact .inl (.inr ⟨o, e _ _ h⟩)
  · exact .inr h

mutual
theorem Rep.mono {K : PySem.W.Frag} {F F' : Hp} (e : Ex F F') : ∀ {d : D} {v : V}, Rep K F d v → Rep K F' d v
  | .non, v, h => h
  | .int i, v, h => h
  | .bl b, v, h => h
  | .tup ds, v, h => by
    obtain ⟨p, vs, a, b, c⟩ := h
    exact ⟨p, vs, a, e _ _ b, RepL.mono e c⟩
  | .lst ds, v, h => by
    obtain ⟨p, vs, a, b, c⟩ := h
    exact ⟨p, vs, a, e _ _ b, RepL.mono e c⟩
  | .sq ds, v, h => by
    obtain ⟨p, vs, a, b, c⟩ := h
    exact ⟨p, vs, a, e.sql b, RepL.mono e c⟩
  | .lv vs ds, v, h => by
    obtain ⟨p, a, b, c⟩ := h
    exact ⟨p, a, e _ _ b, RepL.mono e c⟩
  | .ins C ns ds, v, h => by
    obtain ⟨p, dx, vs, a, b, c, z⟩ := h
    exact ⟨p, dx, vs, a, e _ _ b, RepL.mono e c, z⟩
  | .mref l, v, h => h
theorem RepL.mono {K : PySem.W.Frag} {F F' : Hp} (e : Ex F F') : ∀ {ds : List D} {vs : List V}, RepL K F ds vs → RepL K F' ds vs
  | [], vs, h => h
  | d :: ds, vs, h => by
    obtain ⟨v, r, a, b, c⟩ := h
    exact ⟨v, r, a, Rep.mono e b, RepL.mono e c⟩
end
section
variable {K : PySem.W.Frag} {F F' H H' : Hp}
theorem RepL.length : ∀ {ds : List D} {vs : List V}, RepL K F ds vs → vs.length = ds.length
  | [], vs, h => by
    have e : vs = [] := h
    rw [e]; rfl
  | d :: ds, vs, h => by
    obtain ⟨v, r, a, b, c⟩ := h
    rw [a, List.length_cons, List.length_cons, RepL.length c]
theorem RepL.get : ∀ {ds : List D} {vs : List V} {i : Nat} {d : D}, RepL K F ds vs → ds[i]? = some d → ∃ v, vs[i]? = some v ∧ Rep K F d v
  | [], _, _, _, _, e => by simp at e
  | d :: ds, vs, 0, x, h, e => by
    obtain ⟨v, r, a, b, c⟩ := h
    subst a
    have e' : d = x := by simpa using e
    subst e'
    exact ⟨v, rfl, b⟩
  | d :: ds, vs, i + 1, x, h, e => by
    obtain ⟨v, r, a, b, c⟩ := h
    subst a
    obtain ⟨u, h1, h2⟩ := RepL.get (i := i) c (by simpa using e)
    exact ⟨u, by simpa using h1, h2⟩
theorem RepL.back : ∀ {ds : List D} {vs : List V} {i : Nat} {v : V}, RepL K F ds vs → vs[i]? = some v → ∃ d, ds[i]? = some d ∧ Rep K F d v
  | [], vs, i, v, h, e => by
    have z : vs = [] := h
    subst z
    simp at e
  | d :: ds, vs, 0, x, h, e => by
    obtain ⟨v, r, a, b, c⟩ := h
    subst a
    have e' : v = x := by simpa using e
    subst e'
    exact ⟨d, rfl, b⟩
  | d :: ds, vs, i + 1, x, h, e => by
    obtain ⟨v, r, a, b, c⟩ := h
    subst a
    obtain ⟨u, h1, h2⟩ := RepL.back (i := i) c (by simpa using e)
    exact ⟨u, by simpa using h1, h2⟩
theorem RepL.append : ∀ {ds es : List D} {vs us : List V}, RepL K F ds vs → RepL K F es us → RepL K F (ds ++ es) (vs ++ us)
  | [], es, vs, us, h, g => by
    have z : vs = [] := h
    subst z
    exact g
  | d :: ds, es, vs, us, h, g => by
    obtain ⟨v, r, a, b, c⟩ := h
    subst a
    exact ⟨v, r ++ us, rfl, b, RepL.append c g⟩
theorem RepL.take : ∀ {ds : List D} {vs : List V} (n : Nat), RepL K F ds vs → RepL K F (ds.take n) (vs.take n)
  | [], vs, n, h => by
    have z : vs = [] := h
    subst z
    simp only [List.take_nil]
    exact h
  | d :: ds, vs, 0, h => rfl
  | d :: ds, vs, n + 1, h => by
    obtain ⟨v, r, a, b, c⟩ := h
    subst a
    exact ⟨v, r.take n, rfl, b, RepL.take n c⟩
theorem RepL.drop : ∀ {ds : List D} {vs : List V} (n : Nat), RepL K F ds vs → RepL K F (ds.drop n) (vs.drop n)
  | [], vs, n, h => by
    have z : vs = [] := h
    subst z
    simp only [List.drop_nil]
    exact h
  | d :: ds, vs, 0, h => h
  | d :: ds, vs, n + 1, h => by
    obtain ⟨v, r, a, b, c⟩ := h
    subst a
    exact RepL.drop n c
theorem RepL.one {d : D} {v : V} (h : Rep K F d v) : RepL K F [d] [v] := ⟨v, [], rfl, h, rfl⟩
theorem RepL.reverse : ∀ {ds : List D} {vs : List V}, RepL K F ds vs → RepL K F ds.reverse vs.reverse
  | [], vs, h => by
    have z : vs = [] := h
    subst z
    exact h
  | d :: ds, vs, h => by
    obtain ⟨v, r, a, b, c⟩ := h
    subst a
    rw [List.reverse_cons, List.reverse_cons]
    exact RepL.append (RepL.reverse c) (RepL.one b)
theorem RepL.ints : ∀ {ns : List Int} {vs : List V}, RepL K F (ns.map D.int) vs → vs = ns.map V.int
  | [], vs, h => h
  | n :: ns, vs, h => by
    obtain ⟨v, r, a, b, c⟩ := h
    have e : v = .int n := b
    rw [a, e, RepL.ints c]; rfl
theorem RepL.of_ints : ∀ (ns : List Int), RepL K F (ns.map D.int) (ns.map V.int)
  | [] => rfl
  | n :: ns => ⟨.int n, ns.map V.int, rfl, rfl, RepL.of_ints ns⟩
theorem Rep.lv_lst {vs : List V} {ds : List D} {v : V} (h : Rep K F (.lv vs ds) v) : Rep K F (.lst ds) v := by
  obtain ⟨p, a, b, c⟩ := h
  exact ⟨p, vs, a, b, c⟩

/-- both heaps grow; what stood unfrozen stays unfrozen -/
structure Gr (F H F' H' : Hp) : Prop where
  ff : Ex F F'
  fh : Ex F' H'
  hh : Ex H H'
  nf : ∀ b o, H b = some o → F b = Option.none → F' b = Option.none
theorem Gr.refl (e : Ex F H) : Gr F H F H := ⟨Ex.refl _, e, Ex.refl _, fun _ _ _ h => h⟩
theorem Gr.trans {F1 H1 F2 H2 : Hp} (a : Gr F H F1 H1) (b : Gr F1 H1 F2 H2) : Gr F H F2 H2 :=
  ⟨a.ff.trans b.ff, b.fh, a.hh.trans b.hh, fun c o h n => b.nf c o (a.hh c o h) (a.nf c o h n)⟩
theorem Ex.new {p : Addr} {o : HO} (h : H p = Option.none) : Ex H (upd H p o) := fun a u e => by
  rw [upd_ne (ne_of_none e h)]
  exact e
/-- a new object, frozen -/
theorem Gr.new {p : Addr} {o : HO} (e : Ex F H) (h : H p = Option.none) : Gr F H (upd F p o) (upd H p o) := by
  have hf : F p = Option.none := e.none h
  refine ⟨Ex.new hf, fun a u q => ?_, Ex.new h, fun b u q n => ?_⟩
  · by_cases z : a = p
    · subst z; rw [upd_same] at q ⊢; exact q
    · rw [upd_ne z] at q ⊢; exact e a u q
  · rw [upd_ne (ne_of_none q h)]; exact n
/-- a new object, not frozen -/
theorem Gr.newH {p : Addr} {o : HO} (e : Ex F H) (h : H p = Option.none) : Gr F H F (upd H p o) :=
  ⟨Ex.refl _, e.trans (Ex.new h), Ex.new h, fun _ _ _ n => n⟩

abbrev De := List (Option D)
abbrev Me := List (Addr × D)
structure EnvR (K : PySem.W.Frag) (F : Hp) (σ : St) (δ : De) : Prop where
  len : σ.length = δ.length
  at_ : ∀ (i : Nat) (d : D), δ[i]? = some (some d) → ∃ v : V, σ[i]? = some (some v) ∧ Rep K F d v
theorem EnvR.mono {σ : St} {δ : De} (e : Ex F F') (h : EnvR K F σ δ) : EnvR K F' σ δ := ⟨h.len, fun i d q => by
  obtain ⟨v, a, b⟩ := h.at_ i d q
  exact ⟨v, a, Rep.mono e b⟩⟩
/-- what an object that is not frozen holds -/
def ObjR (K : PySem.W.Frag) (F : Hp) : D → HO → Prop
  | .lst ds, o => ∃ vs, o = .lst vs ∧ RepL K F ds vs
  | .lv us ds, o => o = .lst us ∧ RepL K F ds us
  | .ins C ns ds, o => ∃ dx vs, o = .ins C dx (ns.zip vs) ∧ RepL K F ds vs ∧ ds.length = ns.length
  | _, _ => False
theorem ObjR.mono {d : D} {o : HO} (e : Ex F F') (h : ObjR K F d o) : ObjR K F' d o := by
  cases d with
  | lst ds => obtain ⟨vs, a, b⟩ := h; exact ⟨vs, a, RepL.mono e b⟩
  | lv us ds => exact ⟨h.1, RepL.mono e h.2⟩
  | ins C ns ds => obtain ⟨dx, vs, a, b, c⟩ := h; exact ⟨dx, vs, a, RepL.mono e b, c⟩
  | _ => exact h.elim
theorem ObjR.rep {d : D} {o : HO} {p : Addr} (h : ObjR K F d o) (e : F p = some o) : Rep K F d (.ref p) := by
  cases d with
  | lst ds => obtain ⟨vs, a, b⟩ := h; subst a; exact ⟨p, vs, rfl, e, b⟩
  | lv us ds => obtain ⟨a, b⟩ := h; subst a; exact ⟨p, rfl, e, b⟩
  | ins C ns ds => obtain ⟨dx, vs, a, b, c⟩ := h; subst a; exact ⟨p, dx, vs, rfl, e, b, c⟩
  | _ => exact h.elim
structure MemR (K : PySem.W.Frag) (F H : Hp) (μ : Me) : Prop where
  nd : (μ.map (·.1)).Nodup
  at_ : ∀ m ∈ μ, F m.1 = Option.none ∧ ∃ o, H m.1 = some o ∧ ObjR K F m.2 o
theorem MemR.mono {μ : Me} (g : Gr F H F' H') (h : MemR K F H μ) : MemR K F' H' μ := ⟨h.nd, fun m hm => by
  obtain ⟨a, vs, b, c⟩ := h.at_ m hm
  exact ⟨g.nf _ _ b a, vs, g.hh _ _ b, c.mono g.ff⟩⟩
theorem MemR.nil : MemR K F H [] := ⟨List.nodup_nil, fun m hm => absurd hm (by simp)⟩
structure SE (K : PySem.W.Frag) (δ : De) (μ : Me) (σ : St) (F H : Hp) : Prop where
  fh : Ex F H
  env : EnvR K F σ δ
  mem : MemR K F H μ
theorem SE.mono {δ : De} {μ : Me} {σ : St} (g : Gr F H F' H') (h : SE K δ μ σ F H) : SE K δ μ σ F' H' := ⟨g.fh, h.env.mono g.ff, h.mem.mono g⟩
end

/-! readings -/
def tD (K : PySem.W.Frag) (δ : De) (μ : Me) (d : D) : TE := fun σ H Q => ∃ F, SE K δ μ σ F H ∧ ∀ v F' H', Gr F H F' H' → Rep K F' d v → Q v H'
/-- a new list that is not frozen yet -/
def tN (K : PySem.W.Frag) (δ : De) (μ : Me) (ds : List D) : TE := fun σ H Q => ∃ F, SE K δ μ σ F H ∧
  ∀ l vs F' H', Gr F H F' H' → H l = none → F' l = none → H' l = some (.lst vs) → RepL K F' ds vs → Q (.ref l) H'
def tAs (K : PySem.W.Frag) (δ : De) (μ : Me) (ds : List D) : TA := fun σ H Q => ∃ F, SE K δ μ σ F H ∧ ∀ vs F' H', Gr F H F' H' → RepL K F' ds vs → Q vs H'
def tP (K : PySem.W.Frag) (δ : De) (μ : Me) (p : Prop) : TT := fun σ H Q => ∃ F, SE K δ μ σ F H ∧ ∀ (b : Bool) F' H', Gr F H F' H' → (b = true ↔ p) → Q b H'

theorem PE.mono {X : Cx} {e : Expr} {t t' : TE} (h : PE X e t) (m : ∀ σ H Q, t' σ H Q → t σ H Q) : PE X e t' := ⟨fun pins s σ H Q I w => h.run pins s σ H Q I (m σ H Q w)⟩
theorem PT.mono {X : Cx} {e : Expr} {t t' : TT} (h : PT X e t) (m : ∀ σ H Q, t' σ H Q → t σ H Q) : PT X e t' := ⟨fun pins s σ H Q I w => h.run pins s σ H Q I (m σ H Q w)⟩
theorem PW.mono {X : Cx} {e : Expr} {t t' : TT} (h : PW X e t) (m : ∀ σ H Q, t' σ H Q → t σ H Q) : PW X e t' := ⟨fun wh pins s σ H Q I w => h.run wh pins s σ H Q I (m σ H Q w)⟩
theorem PA.mono {X : Cx} {e : List Expr} {t t' : TA} (h : PA X e t) (m : ∀ σ H Q, t' σ H Q → t σ H Q) : PA X e t' := ⟨fun pos pins s σ H Q I w => h.run pos pins s σ H Q I (m σ H Q w)⟩
theorem PS.mono {X : Cx} {e : Stmt} {t t' : TS} (h : PS X e t) (m : ∀ E σ H, t' E σ H → t E σ H) : PS X e t' := ⟨fun pins s σ H E I w => h.run pins s σ H E I (m E σ H w)⟩
theorem PSs.mono {X : Cx} {e : List Stmt} {t t' : TS} (h : PSs X e t) (m : ∀ E σ H, t' E σ H → t E σ H) : PSs X e t' := ⟨fun pins s σ H E I w => h.run pins s σ H E I (m E σ H w)⟩

section
variable {X : Cx} {K : PySem.W.Frag} {δ : De} {μ : Me} {a b c e : Expr} {pos : Pos}
theorem pd_var (i : Nat) {x : Str} {d : D} (hN : X.N[i]? = some x) (hv : Vis X.env.scope x) (hd : (x == ("__debug__" : Str)) = false) (hcd : (x == ("__classdict__" : Str)) = false) (q : δ[i]? = some (some d)) : PE X (.Name x pos) (tD K δ μ d) :=
  PE.mono (pe_var hN hv hd hcd) fun σ H Q ⟨F, S, k⟩ => by
    obtain ⟨v, h1, h2⟩ := S.env.at_ i d q
    exact ⟨v, h1, k v F H (.refl S.fh) h2⟩
theorem pd_int {i j} : PE X (.Constant (.int i) j pos) (tD K δ μ (.int i)) := PE.mono pe_int fun σ H Q ⟨F, S, k⟩ => k _ F H (.refl S.fh) rfl
theorem pd_bl {i j} : PE X (.Constant (.bool i) j pos) (tD K δ μ (.bl i)) := PE.mono pe_bl fun σ H Q ⟨F, S, k⟩ => k _ F H (.refl S.fh) rfl
theorem pd_non {j} : PE X (.Constant .none j pos) (tD K δ μ .non) := PE.mono pe_non fun σ H Q ⟨F, S, k⟩ => k _ F H (.refl S.fh) rfl
/-- a new list, frozen at once -/
theorem pd_new {ds : List D} (h : PE X e (tN K δ μ ds)) : PE X e (tD K δ μ (.lst ds)) := PE.mono h fun σ H Q ⟨F, S, k⟩ => ⟨F, S, fun l vs F' H' g h0 hn hl r => by
  have e1 : Ex F' (upd F' l (.lst vs)) := Ex.new hn
  refine k (.ref l) (upd F' l (.lst vs)) H' ⟨g.ff.trans e1, fun a u q => ?_, g.hh, fun b u q n => ?_⟩ ⟨l, vs, rfl, upd_same, RepL.mono e1 r⟩
  · by_cases z : a = l
    · subst z; rw [upd_same] at q; cases q; exact hl
    · rw [upd_ne z] at q; exact g.fh a u q
  · rw [upd_ne (ne_of_none q h0)]; exact g.nf b u q n⟩
theorem pd_cast {d d' : D} (h : PE X e (tD K δ μ d)) (q : d = d') : PE X e (tD K δ μ d') := q ▸ h

/-- two operands, then an operation on data -/
theorem pd_op2 {op : Operator} {r : R2} {d1 d2 d : D} (ho : OpR X (binaryOp op) r) (ha : PE X a (tD K δ μ d1)) (hb : PE X b (tD K δ μ d2))
    (hr : ∀ F H v u (Q : VK), Ex F H → Rep K F d1 v → Rep K F d2 u → (∀ z F' H', Gr F H F' H' → Rep K F' d z → Q z H') → r v u H Q) : PE X (.BinOp a op b pos) (tD K δ μ d) :=
  PE.mono (pe_op ho ha hb) fun σ H Q ⟨F, S, k⟩ => ⟨F, S, fun v F1 H1 g1 r1 => ⟨F1, S.mono g1, fun u F2 H2 g2 r2 =>
    hr F2 H2 v u Q g2.fh (Rep.mono g2.ff r1) r2 fun z F3 H3 g3 r3 => k z F3 H3 ((g1.trans g2).trans g3) r3⟩⟩
theorem pd_cmp2 {op : CmpOp} {r : R2} {d1 d2 d : D} (ho : OpR X (compareOp op) r) (hm : behindInMarks op b = false) (ha : PE X a (tD K δ μ d1)) (hb : PE X b (tD K δ μ d2))
    (hr : ∀ F H v u (Q : VK), Ex F H → Rep K F d1 v → Rep K F d2 u → (∀ z F' H', Gr F H F' H' → Rep K F' d z → Q z H') → r v u H Q) : PE X (.Compare a [op] [b] pos) (tD K δ μ d) :=
  PE.mono (pe_cmpR ho ha hb hm) fun σ H Q ⟨F, S, k⟩ => ⟨F, S, fun v F1 H1 g1 r1 => ⟨F1, S.mono g1, fun u F2 H2 g2 r2 =>
    hr F2 H2 v u Q g2.fh (Rep.mono g2.ff r1) r2 fun z F3 H3 g3 r3 => k z F3 H3 ((g1.trans g2).trans g3) r3⟩⟩
theorem pt_cmp2 {op : CmpOp} {r : R2} {d1 d2 : D} {p : Prop} (ho : OpR X (compareOp op) r) (hm : behindInMarks op b = false) (ha : PE X a (tD K δ μ d1)) (hb : PE X b (tD K δ μ d2))
    (hr : ∀ F H v u (Q : VK), Ex F H → Rep K F d1 v → Rep K F d2 u → (∀ (k : Bool) F' H', Gr F H F' H' → (k = true ↔ p) → Q (.bl k) H') → r v u H Q) : PT X (.Compare a [op] [b] pos) (tP K δ μ p) :=
  PT.mono (pt_cmpR ho ha hb hm) fun σ H Q ⟨F, S, k⟩ => ⟨F, S, fun v F1 H1 g1 r1 => ⟨F1, S.mono g1, fun u F2 H2 g2 r2 =>
    hr F2 H2 v u _ g2.fh (Rep.mono g2.ff r1) r2 fun z F3 H3 g3 r3 => ⟨z, rfl, k z F3 H3 ((g1.trans g2).trans g3) r3⟩⟩⟩

section
variable {i j : Int}
theorem pd_add (ha : PE X a (tD K δ μ (.int i))) (hb : PE X b (tD K δ μ (.int j))) : PE X (.BinOp a .Add b pos) (tD K δ μ (.int (i + j))) :=
  pd_op2 op_add ha hb fun F H v u Q e r1 r2 k => ⟨i, j, r1, r2, k _ F H (.refl e) rfl⟩
theorem pd_sub (ha : PE X a (tD K δ μ (.int i))) (hb : PE X b (tD K δ μ (.int j))) : PE X (.BinOp a .Sub b pos) (tD K δ μ (.int (i - j))) :=
  pd_op2 op_sub ha hb fun F H v u Q e r1 r2 k => ⟨i, j, r1, r2, k _ F H (.refl e) rfl⟩
theorem pd_mul (ha : PE X a (tD K δ μ (.int i))) (hb : PE X b (tD K δ μ (.int j))) (hc : CMulW i j) : PE X (.BinOp a .Mult b pos) (tD K δ μ (.int (i * j))) :=
  pd_op2 op_mulW ha hb fun F H v u Q e r1 r2 k => ⟨i, j, r1, r2, hc, k _ F H (.refl e) rfl⟩
theorem pd_fdiv (ha : PE X a (tD K δ μ (.int i))) (hb : PE X b (tD K δ μ (.int j))) (hc : 0 < j ∧ j < 1073741824) : PE X (.BinOp a .FloorDiv b pos) (tD K δ μ (.int (i / j))) :=
  pd_op2 op_fdiv ha hb fun F H v u Q e r1 r2 k => ⟨i, j, r1, r2, hc, k _ F H (.refl e) rfl⟩
theorem pd_fdivW (ha : PE X a (tD K δ μ (.int i))) (hb : PE X b (tD K δ μ (.int j))) (hc : CDivW i j) : PE X (.BinOp a .FloorDiv b pos) (tD K δ μ (.int (i / j))) :=
  pd_op2 op_fdivW ha hb fun F H v u Q e r1 r2 k => ⟨i, j, r1, r2, hc, k _ F H (.refl e) rfl⟩
theorem pd_mod (ha : PE X a (tD K δ μ (.int i))) (hb : PE X b (tD K δ μ (.int j))) (hc : 0 < j) : PE X (.BinOp a .Mod b pos) (tD K δ μ (.int (i % j))) :=
  pd_op2 op_mod ha hb fun F H v u Q e r1 r2 k => ⟨i, j, r1, r2, hc, k _ F H (.refl e) rfl⟩
theorem pd_pow {n : Nat} (ha : PE X a (tD K δ μ (.int i))) (hb : PE X b (tD K δ μ (.int j))) (hn : j = (n : Int)) (hc : n ≤ 1000000 ∧ i.natAbs < 2 ^ 64) : PE X (.BinOp a .Pow b pos) (tD K δ μ (.int (i ^ n))) :=
  pd_op2 op_pow ha hb fun F H v u Q e r1 r2 k => ⟨i, j, r1, r2, ⟨by omega, by omega, hc.2⟩, k _ F H (.refl e) (by subst hn; rfl)⟩
theorem pd_neg (ha : PE X a (tD K δ μ (.int i))) : PE X (.UnaryOp .USub a pos) (tD K δ μ (.int (-i))) :=
  PE.mono (pe_un un_neg ha) fun σ H Q ⟨F, S, k⟩ => ⟨F, S, fun v F1 H1 g1 r1 => ⟨i, r1, k _ F1 H1 g1 rfl⟩⟩
/-- // of great numbers, the divisor not 0 -/
theorem op_fdivS {X : Cx} : OpR X (binaryOp .FloorDiv) (rI (fun _ j => j ≠ 0 ∧ j.natAbs.log2 < 9000) fun i j => .int (i.fdiv j)) := opI fun i j t u s Q E hc q =>
  PyProof.Rows.floordiv_int hc.1 q (.inl (PyProof.noPylong_of_log2 hc.2))
theorem pd_fdivS (ha : PE X a (tD K δ μ (.int i))) (hb : PE X b (tD K δ μ (.int j))) (hc : j ≠ 0 ∧ j.natAbs.log2 < 9000) : PE X (.BinOp a .FloorDiv b pos) (tD K δ μ (.int (i.fdiv j))) :=
  pd_op2 op_fdivS ha hb fun F H v u Q e r1 r2 k => ⟨i, j, r1, r2, hc, k _ F H (.refl e) rfl⟩
theorem pd_modN (ha : PE X a (tD K δ μ (.int i))) (hb : PE X b (tD K δ μ (.int j))) (hc : j ≠ 0) : PE X (.BinOp a .Mod b pos) (tD K δ μ (.int (i.fmod j))) :=
  pd_op2 op_modN ha hb fun F H v u Q e r1 r2 k => ⟨i, j, r1, r2, hc, k _ F H (.refl e) rfl⟩

/-! comparisons of whole numbers: as a test, as a value -/
theorem ptd_lt (ha : PE X a (tD K δ μ (.int i))) (hb : PE X b (tD K δ μ (.int j))) : PT X (.Compare a [.Lt] [b] pos) (tP K δ μ (i < j)) :=
  pt_cmp2 op_lt (nomark _) ha hb fun F H v u Q e r1 r2 k => ⟨i, j, r1, r2, k _ F H (.refl e) decide_eq_true_iff⟩
theorem ptd_le (ha : PE X a (tD K δ μ (.int i))) (hb : PE X b (tD K δ μ (.int j))) : PT X (.Compare a [.LtE] [b] pos) (tP K δ μ (i ≤ j)) :=
  pt_cmp2 op_le (nomark _) ha hb fun F H v u Q e r1 r2 k => ⟨i, j, r1, r2, k _ F H (.refl e) decide_eq_true_iff⟩
theorem ptd_gt (ha : PE X a (tD K δ μ (.int i))) (hb : PE X b (tD K δ μ (.int j))) : PT X (.Compare a [.Gt] [b] pos) (tP K δ μ (j < i)) :=
  pt_cmp2 op_gt (nomark _) ha hb fun F H v u Q e r1 r2 k => ⟨i, j, r1, r2, k _ F H (.refl e) decide_eq_true_iff⟩
theorem ptd_ge (ha : PE X a (tD K δ μ (.int i))) (hb : PE X b (tD K δ μ (.int j))) : PT X (.Compare a [.GtE] [b] pos) (tP K δ μ (j ≤ i)) :=
  pt_cmp2 op_ge (nomark _) ha hb fun F H v u Q e r1 r2 k => ⟨i, j, r1, r2, k _ F H (.refl e) decide_eq_true_iff⟩
theorem ptd_eq (ha : PE X a (tD K δ μ (.int i))) (hb : PE X b (tD K δ μ (.int j))) : PT X (.Compare a [.Eq] [b] pos) (tP K δ μ (i = j)) :=
  pt_cmp2 op_eq (nomark _) ha hb fun F H v u Q e r1 r2 k => by
    have e1 : v = .int i := r1
    have e2 : u = .int j := r2
    subst e1; subst e2
    exact ⟨rfl, k _ F H (.refl e) (by rw [decide_eq_true_iff]; exact V.int.injEq i j ▸ Iff.rfl)⟩
theorem ptd_ne (ha : PE X a (tD K δ μ (.int i))) (hb : PE X b (tD K δ μ (.int j))) : PT X (.Compare a [.NotEq] [b] pos) (tP K δ μ (i ≠ j)) :=
  pt_cmp2 op_ne (nomark _) ha hb fun F H v u Q e r1 r2 k => by
    have e1 : v = .int i := r1
    have e2 : u = .int j := r2
    subst e1; subst e2
    exact ⟨rfl, k _ F H (.refl e) (by simp)⟩
theorem pd_lt (ha : PE X a (tD K δ μ (.int i))) (hb : PE X b (tD K δ μ (.int j))) : PE X (.Compare a [.Lt] [b] pos) (tD K δ μ (.bl (decide (i < j)))) :=
  pd_cmp2 op_lt (nomark _) ha hb fun F H v u Q e r1 r2 k => ⟨i, j, r1, r2, k _ F H (.refl e) rfl⟩
theorem pd_le (ha : PE X a (tD K δ μ (.int i))) (hb : PE X b (tD K δ μ (.int j))) : PE X (.Compare a [.LtE] [b] pos) (tD K δ μ (.bl (decide (i ≤ j)))) :=
  pd_cmp2 op_le (nomark _) ha hb fun F H v u Q e r1 r2 k => ⟨i, j, r1, r2, k _ F H (.refl e) rfl⟩
theorem pd_eq (ha : PE X a (tD K δ μ (.int i))) (hb : PE X b (tD K δ μ (.int j))) : PE X (.Compare a [.Eq] [b] pos) (tD K δ μ (.bl (decide (i = j)))) :=
  pd_cmp2 op_eq (nomark _) ha hb fun F H v u Q e r1 r2 k => by
    have e1 : v = .int i := r1
    have e2 : u = .int j := r2
    subst e1; subst e2
    exact ⟨rfl, k _ F H (.refl e) (by show V.bl _ = V.bl _; simp)⟩
end
/-! tests -/
variable {p q : Prop} {rest : List Expr}
theorem ptd_val {k : Bool} (h : PE X e (tD K δ μ (.bl k))) (he : ∀ whole, isTrue e X.env whole = (do let v ← whole; standAt e.pos; holding [v] (truthy v))) : PT X e (tP K δ μ (k = true)) :=
  PT.mono (pt_val h he) fun σ H Q ⟨F, S, w⟩ => ⟨F, S, fun v F1 H1 g r => ⟨k, r, w k F1 H1 g Iff.rfl⟩⟩
theorem ptd_not (h : PT X a (tP K δ μ p)) : PT X (.UnaryOp .Not a pos) (tP K δ μ (¬ p)) :=
  PT.mono (pt_not h) fun σ H Q ⟨F, S, w⟩ => ⟨F, S, fun k F1 H1 g r => w _ F1 H1 g (by cases k <;> simp_all)⟩
theorem pwd_and1 (h : PT X a (tP K δ μ p)) : PW X (.BoolOp .And [a] pos) (tP K δ μ p) := pw_and1 h
theorem pwd_or1 (h : PT X a (tP K δ μ p)) : PW X (.BoolOp .Or [a] pos) (tP K δ μ p) := pw_or1 h
/-- the reading of the second operand, asked only where the first is so -/
def tPif (c : Prop) (t : TT) : TT := fun σ H Q => ∃ _ : c, t σ H Q
theorem PW.when {c : Prop} {t : TT} (h : c → PW X e t) : PW X e (tPif c t) := ⟨fun wh pins s σ H Q I ⟨hc, w⟩ => (h hc).run wh pins s σ H Q I w⟩
theorem PE.when {c : Prop} {t : TE} (h : c → PE X e t) : PE X e (fun σ H Q => ∃ _ : c, t σ H Q) := ⟨fun pins s σ H Q I ⟨hc, w⟩ => (h hc).run pins s σ H Q I w⟩
theorem pwd_and (ha : PT X a (tP K δ μ p)) (hb : p → PW X (.BoolOp .And (b :: rest) pos) (tP K δ μ q)) : PW X (.BoolOp .And (a :: b :: rest) pos) (tP K δ μ (p ∧ q)) :=
  PW.mono (pw_and ha (PW.when hb)) fun σ H Q ⟨F, S, w⟩ => ⟨F, S, fun k F1 H1 g r => by
    cases k with
    | true =>
      refine iteT ⟨r.mp rfl, F1, S.mono g, fun k2 F2 H2 g2 r2 => w k2 F2 H2 (g.trans g2) ?_⟩
      rw [r2]; exact ⟨fun z => ⟨r.mp rfl, z⟩, fun z => z.2⟩
    | false =>
      exact iteF (w false F1 H1 g ⟨fun z => (Bool.false_ne_true z).elim, fun z => r.mpr z.1⟩)⟩
theorem pwd_or (ha : PT X a (tP K δ μ p)) (hb : ¬ p → PW X (.BoolOp .Or (b :: rest) pos) (tP K δ μ q)) : PW X (.BoolOp .Or (a :: b :: rest) pos) (tP K δ μ (p ∨ q)) :=
  PW.mono (pw_or ha (PW.when hb)) fun σ H Q ⟨F, S, w⟩ => ⟨F, S, fun k F1 H1 g r => by
    cases k with
    | true => exact iteT (w true F1 H1 g ⟨fun _ => .inl (r.mp rfl), fun _ => rfl⟩)
    | false =>
      have np : ¬ p := fun z => by have := r.mpr z; cases this
      refine iteF ⟨np, F1, S.mono g, fun k2 F2 H2 g2 r2 => w k2 F2 H2 (g.trans g2) ?_⟩
      rw [r2]; exact ⟨.inr, fun z => z.elim (fun y => absurd y np) id⟩⟩
theorem ptd_iff {p q : Prop} (h : PT X e (tP K δ μ p)) (i : p ↔ q) : PT X e (tP K δ μ q) := (propext i) ▸ h
/-- and, or, not as values -/
theorem pd_one {op} {d : D} (h : PE X a (tD K δ μ d)) : PE X (.BoolOp op [a] pos) (tD K δ μ d) := pe_one h
theorem pd_and {k k2 : Bool} (ha : PE X a (tD K δ μ (.bl k))) (hb : k = true → PE X (.BoolOp .And (b :: rest) pos) (tD K δ μ (.bl k2))) : PE X (.BoolOp .And (a :: b :: rest) pos) (tD K δ μ (.bl (k && k2))) :=
  PE.mono (pe_and ha (PE.when hb)) fun σ H Q ⟨F, S, w⟩ => ⟨F, S, fun v F1 H1 g r => ⟨k, r, by
    cases k with
    | true => exact iteT ⟨rfl, F1, S.mono g, fun v2 F2 H2 g2 r2 => w v2 F2 H2 (g.trans g2) r2⟩
    | false => exact iteF (w _ F1 H1 g rfl)⟩⟩
theorem pd_or {k k2 : Bool} (ha : PE X a (tD K δ μ (.bl k))) (hb : k = false → PE X (.BoolOp .Or (b :: rest) pos) (tD K δ μ (.bl k2))) : PE X (.BoolOp .Or (a :: b :: rest) pos) (tD K δ μ (.bl (k || k2))) :=
  PE.mono (pe_or ha (PE.when hb)) fun σ H Q ⟨F, S, w⟩ => ⟨F, S, fun v F1 H1 g r => ⟨k, r, by
    cases k with
    | true => exact iteT (w _ F1 H1 g rfl)
    | false => exact iteF ⟨rfl, F1, S.mono g, fun v2 F2 H2 g2 r2 => w v2 F2 H2 (g.trans g2) r2⟩⟩⟩
theorem pd_not {k : Bool} (ha : PE X a (tD K δ μ (.bl k))) : PE X (.UnaryOp .Not a pos) (tD K δ μ (.bl (!k))) :=
  PE.mono (pe_not ha) fun σ H Q ⟨F, S, w⟩ => ⟨F, S, fun v F1 H1 g r => ⟨k, r, w _ F1 H1 g rfl⟩⟩
end
end Bl
namespace Bl
open PySem L2
section
variable {X : Cx} {K : PySem.W.Frag} {δ : De} {μ : Me} {a b c e : Expr} {es : List Expr} {pos p p2 : Pos}
theorem small_line {n : Nat} (h : n ≤ 10000) : n ≤ sizeLine := Nat.le_trans h (by decide)
theorem pas_nil : PA X [] (tAs K δ μ []) := PA.mono pa_nil fun σ H Q ⟨F, S, k⟩ => k [] F H (.refl S.fh) rfl
theorem pas_cons {d : D} {ds : List D} (h : PE X e (tD K δ μ d)) (hr : PA X es (tAs K δ μ ds)) (hs : starEach (e :: es) X.env = (false, eval e X.env) :: starEach es X.env := by rfl) : PA X (e :: es) (tAs K δ μ (d :: ds)) :=
  PA.mono (pa_cons h hr hs) fun σ H Q ⟨F, S, k⟩ => ⟨F, S, fun v F1 H1 g1 r1 => ⟨F1, S.mono g1, fun vs F2 H2 g2 r2 => k (v :: vs) F2 H2 (g1.trans g2) ⟨v, vs, rfl, Rep.mono g2.ff r1, r2⟩⟩⟩
theorem pd_tup {x1} {ds : List D} (h : PA X es (tAs K δ μ ds)) (hl : ds.length ≤ 10000) : PE X (.Tuple es x1 pos) (tD K δ μ (.tup ds)) :=
  PE.mono (pe_tup h) fun σ H Q ⟨F, S, k⟩ => ⟨F, S, fun vs F1 H1 g r => ⟨small_line (by rw [r.length]; exact hl), fun q hq => by
    have g2 : Gr F1 H1 (upd F1 q (.tup vs)) (upd H1 q (.tup vs)) := Gr.new g.fh hq
    exact k _ _ _ (g.trans g2) ⟨q, vs, rfl, upd_same, RepL.mono g2.ff r⟩⟩⟩
theorem pn_lst {ds : List D} (h : PA X es (tAs K δ μ ds)) (hl : ds.length ≤ 10000) : PE X (.List es pos) (tN K δ μ ds) :=
  PE.mono (pe_lst h) fun σ H Q ⟨F, S, k⟩ => ⟨F, S, fun vs F1 H1 g r => ⟨small_line (by rw [r.length]; exact hl), fun q hq =>
    k q vs F1 _ (g.trans (Gr.newH g.fh hq)) (g.hh.none hq) (g.fh.none hq) upd_same r⟩⟩
/-- what can be walked by place -/
def seqOf : D → Option (List D)
  | .tup ds => some ds
  | .lst ds => some ds
  | .sq ds => some ds
  | .lv _ ds => some ds
  | _ => none
theorem rep_seq {F : Hp} {d : D} {ds : List D} {v : V} (h : Rep K F d v) (q : seqOf d = some ds) : ∃ p vs, v = .ref p ∧ RepL K F ds vs ∧ (SqL K F p vs ∨ SqT K F p vs) := by
  cases d with
  | tup es => cases q; obtain ⟨p, vs, a, b, c⟩ := h; exact ⟨p, vs, a, c, .inr (.of b)⟩
  | lst es => cases q; obtain ⟨p, vs, a, b, c⟩ := h; exact ⟨p, vs, a, c, .inl (.of b)⟩
  | sq es => cases q; obtain ⟨p, vs, a, b, c⟩ := h; exact ⟨p, vs, a, c, .inl b⟩
  | lv us es => cases q; obtain ⟨p, a, b, c⟩ := h; exact ⟨p, us, a, c, .inl (.of b)⟩
  | _ => cases q
/-- .. a list -/
def seqL : D → Option (List D)
  | .lst ds => some ds
  | .sq ds => some ds
  | .lv _ ds => some ds
  | _ => none
theorem rep_list {F : Hp} {d : D} {ds : List D} {v : V} (h : Rep K F d v) (q : seqL d = some ds) : ∃ p vs, v = .ref p ∧ RepL K F ds vs ∧ SqL K F p vs := by
  cases d with
  | lst es => cases q; obtain ⟨p, vs, a, b, c⟩ := h; exact ⟨p, vs, a, c, (.of b)⟩
  | sq es => cases q; obtain ⟨p, vs, a, b, c⟩ := h; exact ⟨p, vs, a, c, b⟩
  | lv us es => cases q; obtain ⟨p, a, b, c⟩ := h; exact ⟨p, us, a, c, (.of b)⟩
  | _ => cases q
/-- .. a list that is no one else's -/
def seqO : D → Option (List D)
  | .lst ds => some ds
  | .lv _ ds => some ds
  | _ => none
theorem rep_own {F : Hp} {d : D} {ds : List D} {v : V} (h : Rep K F d v) (q : seqO d = some ds) : ∃ p vs, v = .ref p ∧ RepL K F ds vs ∧ F p = some (.lst vs) := by
  cases d with
  | lst es => cases q; obtain ⟨p, vs, a, b, c⟩ := h; exact ⟨p, vs, a, c, b⟩
  | lv us es => cases q; obtain ⟨p, a, b, c⟩ := h; exact ⟨p, us, a, c, b⟩
  | _ => cases q
theorem Ex.sqt {F F' : Hp} {a : Addr} {xs : List V} (e : Ex F F') (h : SqT K F a xs) : SqT K F' a xs := by
  rcases h with (h | ⟨o, h⟩) | h
  · exact .inl (.inl (e _ _ h))
  · exact .inl (.inr ⟨o, e _ _ h⟩)
  · exact .inr h
theorem RepL.atI {F : Hp} {ds : List D} {vs : List V} {i : Int} {d : D} (r : RepL K F ds vs) (h : atI ds i = some d) : ∃ v, atI vs i = some v ∧ Rep K F d v := by
  unfold L2.atI at h ⊢
  rw [r.length]
  cases e : ixN ds.length i with
  | none => rw [e] at h; cases h
  | some j =>
    rw [e] at h
    obtain ⟨v, h1, h2⟩ := r.get (i := j) h
    exact ⟨v, h1, h2⟩
theorem pd_ix {d dd : D} {ds : List D} {i : Int} (ha : PE X a (tD X.K δ μ d)) (hb : PE X b (tD X.K δ μ (.int i))) (hs : PlainIx b) (q : seqOf d = some ds) (h : atI ds i = some dd) : PE X (.Subscript a b pos) (tD X.K δ μ dd) :=
  PE.mono (pe_ix ix_seq ha hb hs) fun σ H Q ⟨F, S, k⟩ => ⟨F, S, fun v F1 H1 g1 r1 => ⟨F1, S.mono g1, fun u F2 H2 g2 r2 => by
    obtain ⟨p, vs, e1, r, hq⟩ := rep_seq (Rep.mono g2.ff r1) q
    obtain ⟨z, h1, h2⟩ := r.atI h
    have e2 : u = .int i := r2
    rcases hq with hq | hq
    · exact .inl ⟨p, vs, i, z, e1, e2, g2.fh.sql hq, h1, k z F2 H2 (g1.trans g2) h2⟩
    · exact .inr (.inl ⟨p, vs, i, z, e1, e2, g2.fh.sqt hq, h1, k z F2 H2 (g1.trans g2) h2⟩)⟩⟩
theorem atI_lit {α : Type} {xs : List α} {j : Nat} {v : α} (h : xs[j]? = some v) : atI xs (j : Int) = some v := L2.atI_nat h
/-- o.f -/
theorem zip_lookup {F : Hp} {f : Str} {d : D} : ∀ {ns : List Str} {ds : List D} {vs : List V}, RepL K F ds vs → (ns.zip ds).lookup f = some d → ∃ v, (ns.zip vs).lookup f = some v ∧ Rep K F d v
  | [], ds, vs, r, h => by simp at h
  | n :: ns, [], vs, r, h => by simp at h
  | n :: ns, x :: ds, vs, r, h => by
    obtain ⟨v, t, e, r1, r2⟩ := r
    subst e
    simp only [List.zip_cons_cons, List.lookup_cons] at h ⊢
    cases q : f == n with
    | true =>
      rw [q] at h
      have e : x = d := Option.some.inj h
      subst e
      exact ⟨v, rfl, r1⟩
    | false =>
      rw [q] at h
      exact zip_lookup r2 h
theorem zip_none {f : Str} : ∀ {ns : List Str} {vs : List V}, ns.contains f = false → (ns.zip vs).lookup f = none
  | [], vs, h => by simp
  | n :: ns, [], h => by simp
  | n :: ns, v :: vs, h => by
    simp only [List.contains_cons, Bool.or_eq_false_iff] at h
    simp only [List.zip_cons_cons, List.lookup_cons, h.1]
    exact zip_none h.2
theorem pd_fld {o : Expr} {f : Str} {C : Addr} {ns : List Str} {ds : List D} {d : D} (ha : PE X o (tD X.K δ μ (.ins C ns ds))) (hb : attributeBase o f X.env (eval o X.env) = eval o X.env) (c : Cls X.K C) (n : NoAttr X.K C f) (h : (ns.zip ds).lookup f = some d) :
    PE X (.Attribute o f pos) (tD X.K δ μ d) :=
  PE.mono (pe_fld ha hb) fun σ H Q ⟨F, S, k⟩ => ⟨F, S, fun v F1 H1 g r => by
    obtain ⟨p, dx, vs, e, hp, rv, hl⟩ := r
    obtain ⟨z, h1, h2⟩ := zip_lookup rv h
    exact ⟨p, C, dx, _, z, e, g.fh _ _ hp, c, n, h1, k z F1 H1 g h2⟩⟩

/-! built-in functions -/
theorem pd_cb1 {id : String} {x : Str} {r : List V → Hp → VK → Prop} {d1 d : D} (hc : CallR X (.builtin id) r) (hg : Gl X x) (hm : X.mg x = none) (hv : bootBuiltins x = some (.builtin id)) (ha : PE X a (tD K δ μ d1)) (hn : x ≠ "__name__") (hdb : (x == ("__debug__" : Str)) = false)
    (hst : starEach [a] X.env = (false, eval a X.env) :: starEach [] X.env) (hpl : (backTo pos (starEach [] X.env)).any (·.1) = false)
    (hr : ∀ F H v (Q : VK), Ex F H → Rep K F d1 v → (∀ z F' H', Gr F H F' H' → Rep K F' d z → Q z H') → r [v] H Q) : PE X (.Call (.Name x p) [a] [] pos) (tD K δ μ d) :=
  PE.mono (pe_callB hc hg hm hv (pas_cons ha pas_nil hst) hn hdb hst hpl) fun σ H Q ⟨F, S, k⟩ => ⟨F, S, fun vs F1 H1 g r1 => by
    obtain ⟨v, t, e, r2, r3⟩ := r1
    have e2 : t = [] := r3
    subst e2; subst e
    exact hr F1 H1 v Q g.fh r2 fun z F2 H2 g2 rz => k z F2 H2 (g.trans g2) rz⟩
theorem pd_cb2 {id : String} {x : Str} {r : List V → Hp → VK → Prop} {d1 d2 d : D} (hc : CallR X (.builtin id) r) (hg : Gl X x) (hm : X.mg x = none) (hv : bootBuiltins x = some (.builtin id)) (ha : PE X a (tD K δ μ d1)) (hb : PE X b (tD K δ μ d2)) (hn : x ≠ "__name__") (hdb : (x == ("__debug__" : Str)) = false)
    (hst : starEach [a, b] X.env = (false, eval a X.env) :: starEach [b] X.env) (hst2 : starEach [b] X.env = (false, eval b X.env) :: starEach [] X.env) (hpl : (backTo pos (starEach [b] X.env)).any (·.1) = false)
    (hr : ∀ F H v u (Q : VK), Ex F H → Rep K F d1 v → Rep K F d2 u → (∀ z F' H', Gr F H F' H' → Rep K F' d z → Q z H') → r [v, u] H Q) : PE X (.Call (.Name x p) [a, b] [] pos) (tD K δ μ d) :=
  PE.mono (pe_callB hc hg hm hv (pas_cons ha (pas_cons hb pas_nil hst2) hst) hn hdb hst hpl) fun σ H Q ⟨F, S, k⟩ => ⟨F, S, fun vs F1 H1 g r1 => by
    obtain ⟨v, t, e, r2, u, t2, e2, r3, r4⟩ := r1
    have e3 : t2 = [] := r4
    subst e3; subst e2; subst e
    exact hr F1 H1 v u Q g.fh r2 r3 fun z F2 H2 g2 rz => k z F2 H2 (g.trans g2) rz⟩
def iabs (i : Int) : Int := if i < 0 then -i else i
def imax (i j : Int) : Int := if j > i then j else i
def imin (i j : Int) : Int := if j < i then j else i
theorem boot_abs : bootBuiltins "abs" = some (.builtin "abs") := by decide +kernel
theorem boot_max : bootBuiltins "max" = some (.builtin "max") := by decide +kernel
theorem boot_min : bootBuiltins "min" = some (.builtin "min") := by decide +kernel
theorem boot_sum : bootBuiltins "sum" = some (.builtin "sum") := by decide +kernel
theorem boot_sorted : bootBuiltins "sorted" = some (.builtin "sorted") := by decide +kernel
theorem boot_isinst : bootBuiltins "isinstance" = some (.builtin "isinstance") := by decide +kernel
theorem boot_listT : bootBuiltins "list" = some (.type "list") := by decide +kernel
theorem boot_tupleT : bootBuiltins "tuple" = some (.type "tuple") := by decide +kernel
theorem boot_intT : bootBuiltins "int" = some (.type "int") := by decide +kernel
theorem boot_boolT : bootBuiltins "bool" = some (.type "bool") := by decide +kernel
theorem pd_abs {i : Int} (hg : Gl X "abs") (hm : X.mg "abs" = none) (ha : PE X a (tD K δ μ (.int i)))
    (hst : starEach [a] X.env = (false, eval a X.env) :: starEach [] X.env := by rfl) (hpl : (backTo pos (starEach [] X.env)).any (·.1) = false := by rfl) : PE X (.Call (.Name "abs" p) [a] [] pos) (tD K δ μ (.int (iabs i))) :=
  pd_cb1 call_abs hg hm boot_abs ha (by decide +kernel) (by decide +kernel) hst hpl fun F H v Q e r k => ⟨i, by rw [show v = .int i from r], k _ F H (.refl e) rfl⟩
theorem pd_max {i j : Int} (hc : X.calm = true) (hg : Gl X "max") (hm : X.mg "max" = none) (ha : PE X a (tD K δ μ (.int i))) (hb : PE X b (tD K δ μ (.int j)))
    (hst : starEach [a, b] X.env = (false, eval a X.env) :: starEach [b] X.env := by rfl) (hst2 : starEach [b] X.env = (false, eval b X.env) :: starEach [] X.env := by rfl) (hpl : (backTo pos (starEach [b] X.env)).any (·.1) = false := by rfl) :
    PE X (.Call (.Name "max" p) [a, b] [] pos) (tD K δ μ (.int (imax i j))) :=
  pd_cb2 (call_max2 hc) hg hm boot_max ha hb (by decide +kernel) (by decide +kernel) hst hst2 hpl fun F H v u Q e r r2 k => ⟨i, j, by rw [show v = .int i from r, show u = .int j from r2], k _ F H (.refl e) rfl⟩
theorem pd_min {i j : Int} (hc : X.calm = true) (hg : Gl X "min") (hm : X.mg "min" = none) (ha : PE X a (tD K δ μ (.int i))) (hb : PE X b (tD K δ μ (.int j)))
    (hst : starEach [a, b] X.env = (false, eval a X.env) :: starEach [b] X.env := by rfl) (hst2 : starEach [b] X.env = (false, eval b X.env) :: starEach [] X.env := by rfl) (hpl : (backTo pos (starEach [b] X.env)).any (·.1) = false := by rfl) :
    PE X (.Call (.Name "min" p) [a, b] [] pos) (tD K δ μ (.int (imin i j))) :=
  pd_cb2 (call_min2 hc) hg hm boot_min ha hb (by decide +kernel) (by decide +kernel) hst hst2 hpl fun F H v u Q e r r2 k => ⟨i, j, by rw [show v = .int i from r, show u = .int j from r2], k _ F H (.refl e) rfl⟩
theorem pd_len {d : D} {ds : List D} (hg : Gl X "len") (hm : X.mg "len" = none) (ha : PE X a (tD X.K δ μ d)) (hq : seqOf d = some ds)
    (hst : starEach [a] X.env = (false, eval a X.env) :: starEach [] X.env := by rfl) (hpl : (backTo pos (starEach [] X.env)).any (·.1) = false := by rfl) : PE X (.Call (.Name "len" p) [a] [] pos) (tD X.K δ μ (.int (ds.length : Nat))) :=
  pd_cb1 call_len hg hm PySem.boot_len ha (by decide +kernel) (by decide +kernel) hst hpl fun F H v Q e r k => by
    obtain ⟨q, vs, e1, rv, hs⟩ := rep_seq r hq
    refine ⟨v, vs.length, rfl, ?_, k _ F H (.refl e) (by rw [rv.length]; rfl)⟩
    subst e1
    rcases hs with hs | hs
    · exact .inl ⟨vs, e.sql hs, rfl⟩
    · exact .inr ⟨vs, e.sqt hs, rfl⟩
theorem pd_sum {d : D} {ns : List Int} (hc : X.calm = true) (hg : Gl X "sum") (hm : X.mg "sum" = none) (ha : PE X a (tD X.K δ μ d)) (hq : seqL d = some (ns.map D.int))
    (hst : starEach [a] X.env = (false, eval a X.env) :: starEach [] X.env := by rfl) (hpl : (backTo pos (starEach [] X.env)).any (·.1) = false := by rfl) : PE X (.Call (.Name "sum" p) [a] [] pos) (tD X.K δ μ (.int ns.sum)) :=
  pd_cb1 (cr_sum hc) hg hm boot_sum ha (by decide +kernel) (by decide +kernel) hst hpl fun F H v Q e r k => by
    obtain ⟨q, vs, e1, rv, hs⟩ := rep_list r hq
    have e2 := rv.ints
    subst e1; subst e2
    exact ⟨q, ns, rfl, e.sql hs, k _ F H (.refl e) rfl⟩
/-- T(e), T a built-in type, giving a new list -/
theorem pn_list {d : D} {ds : List D} (hg : Gl X "list") (hm : X.mg "list" = none) (ha : PE X a (tD X.K δ μ d)) (hq : seqOf d = some ds)
    (hst : starEach [a] X.env = (false, eval a X.env) :: starEach [] X.env := by rfl) (hpl : (backTo pos (starEach [] X.env)).any (·.1) = false := by rfl) : PE X (.Call (.Name "list" p) [a] [] pos) (tN X.K δ μ ds) :=
  PE.mono (pe_callTy call_list_of hg hm boot_listT (pas_cons ha pas_nil hst) (by decide +kernel) (by decide +kernel) hst hpl) fun σ H Q ⟨F, S, k⟩ => ⟨F, S, fun vs F1 H1 g r1 => by
    obtain ⟨v, t, e, r2, r3⟩ := r1
    have e2 : t = [] := r3
    subst e2; subst e
    obtain ⟨q, us, e1, rv, hs⟩ := rep_seq r2 hq
    subst e1
    exact ⟨q, us, rfl, hs.imp (g.fh.sql ·) (g.fh.sqt ·), fun l hl => k l us F1 _ (g.trans (Gr.newH g.fh hl)) (g.hh.none hl) (g.fh.none hl) upd_same rv⟩⟩
theorem pd_tuple {d : D} {ds : List D} (hg : Gl X "tuple") (hm : X.mg "tuple" = none) (ha : PE X a (tD X.K δ μ d)) (hq : seqL d = some ds)
    (hst : starEach [a] X.env = (false, eval a X.env) :: starEach [] X.env := by rfl) (hpl : (backTo pos (starEach [] X.env)).any (·.1) = false := by rfl) : PE X (.Call (.Name "tuple" p) [a] [] pos) (tD X.K δ μ (.tup ds)) :=
  PE.mono (pe_callTy call_tuple_of hg hm boot_tupleT (pas_cons ha pas_nil hst) (by decide +kernel) (by decide +kernel) hst hpl) fun σ H Q ⟨F, S, k⟩ => ⟨F, S, fun vs F1 H1 g r1 => by
    obtain ⟨v, t, e, r2, r3⟩ := r1
    have e2 : t = [] := r3
    subst e2; subst e
    obtain ⟨q, us, e1, rv, hs⟩ := rep_list r2 hq
    subst e1
    refine ⟨q, us, rfl, .inl ⟨g.fh.sql hs, fun l hl => ?_⟩⟩
    have g2 : Gr F1 H1 (upd F1 l (.tup us)) (upd H1 l (.tup us)) := Gr.new g.fh hl
    exact k _ _ _ (g.trans g2) ⟨l, us, rfl, upd_same, RepL.mono g2.ff rv⟩⟩
/-- lists: one behind the other, so many times over -/
theorem pn_cat {d1 d2 : D} {ds es : List D} (ha : PE X a (tD K δ μ d1)) (hb : PE X b (tD K δ μ d2)) (h1 : seqO d1 = some ds) (h2 : seqO d2 = some es) (hl : ds.length + es.length ≤ 10000) : PE X (.BinOp a .Add b pos) (tN K δ μ (ds ++ es)) :=
  PE.mono (pe_op op_cat ha hb) fun σ H Q ⟨F, S, k⟩ => ⟨F, S, fun v F1 H1 g1 r1 => ⟨F1, S.mono g1, fun u F2 H2 g2 r2 => by
    obtain ⟨p1, vs, e1, rv, q1⟩ := rep_own (Rep.mono g2.ff r1) h1
    obtain ⟨p2, us, e2, ru, q2⟩ := rep_own r2 h2
    subst e1; subst e2
    refine ⟨p1, p2, vs, us, rfl, rfl, g2.fh _ _ q1, g2.fh _ _ q2, small_line (by rw [rv.length, ru.length]; exact hl), fun l hl => ?_⟩
    exact k l _ F2 _ ((g1.trans g2).trans (Gr.newH g2.fh hl)) ((g1.trans g2).hh.none hl) (g2.fh.none hl) upd_same (rv.append ru)⟩⟩
def times (k : Int) (ds : List D) : List D := (List.replicate k.toNat ds).flatten
theorem RepL.times {F : Hp} {ds : List D} {vs : List V} (r : RepL K F ds vs) : ∀ n : Nat, RepL K F (List.replicate n ds).flatten (List.replicate n vs).flatten
  | 0 => rfl
  | n + 1 => by
    rw [List.replicate_succ, List.replicate_succ, List.flatten_cons, List.flatten_cons]
    exact r.append (RepL.times r n)
theorem pn_rep {d1 : D} {ds : List D} {i : Int} (ha : PE X a (tD K δ μ d1)) (hb : PE X b (tD K δ μ (.int i))) (h1 : seqO d1 = some ds) (hi : 0 ≤ i ∧ i ≤ 100) (hl : ds.length ≤ 100) : PE X (.BinOp a .Mult b pos) (tN K δ μ (times i ds)) :=
  PE.mono (pe_op op_rep ha hb) fun σ H Q ⟨F, S, k⟩ => ⟨F, S, fun v F1 H1 g1 r1 => ⟨F1, S.mono g1, fun u F2 H2 g2 r2 => by
    obtain ⟨p1, vs, e1, rv, q1⟩ := rep_own (Rep.mono g2.ff r1) h1
    have e2 : u = .int i := r2
    subst e1; subst e2
    refine ⟨p1, i, vs, rfl, rfl, g2.fh _ _ q1, by omega, by omega, small_line ?_, fun l hl => ?_⟩
    · rw [rv.length]
      have : i.toNat ≤ 100 := by omega
      calc ds.length * i.toNat ≤ 100 * 100 := Nat.mul_le_mul hl this
        _ ≤ 10000 := by decide
    exact k l _ F2 _ ((g1.trans g2).trans (Gr.newH g2.fh hl)) ((g1.trans g2).hh.none hl) (g2.fh.none hl) upd_same (rv.times _)⟩⟩
end
/-! calls of defs -/
/-- a def keeps its promise R: from the arguments' data to what it hands back, or the error's class -/
def spD (K : PySem.W.Frag) (R : List D → Except Value D → Prop) : Sp := fun vs H Q E => ∃ F ds r, Ex F H ∧ RepL K F ds vs ∧ R ds r ∧
  match r with
  | .ok d => ∀ v F' H', Gr F H F' H' → Rep K F' d v → Q v H'
  | .error c => ∀ F' H', Gr F H F' H' → E c none H'
structure Cal (P : Program) (w : World) (K : PySem.W.Frag) (mg : Str → Option Value) (base : Heap) (x : Str) (k : Nat) (ps : List Str) (R : List D → Except Value D → Prop) : Prop where
  ex : ∃ f fd, FnOk P w K mg base (L2.CX P w) k f fd ps (spD K R) ∧ mg x = some (.ref f) ∧ PySem.W.keepIn K (.ref f) = true ∧ Binds K fd ps []
structure CalM (P : Program) (w : World) (K : PySem.W.Frag) (mg : Str → Option Value) (base : Heap) (C : Addr) (x : Str) (k : Nat) (ps : List Str) (R : List D → Except Value D → Prop) : Prop where
  cl : Cls K C
  ex : ∃ f fd, FnOk P w K mg base (L2.CX P w) k f fd ps (spD K R) ∧ Meth K C x f ∧ Binds K fd ps []
/-- __init__: from the arguments' data to the fields' -/
def spI (K : PySem.W.Frag) (C : Addr) (ns : List Str) (R : List D → Except Value (List D) → Prop) : Sp := fun vs H Q E => ∃ p dx us H1 F ds r, vs = .ref p :: us ∧ H1 p = none ∧ H1 dx = none ∧ dx ≠ p ∧
  H = upd (upd H1 dx (.own p)) p (.ins C dx []) ∧ Ex F H1 ∧ RepL K F ds us ∧ R ds r ∧
  match r with
  | .ok es => ∀ F' H', Gr F H1 F' H' → Rep K F' (.ins C ns es) (.ref p) → Q .non H'
  | .error c => ∀ F' H', Gr F H1 F' H' → E c none H'
structure CalI (P : Program) (w : World) (K : PySem.W.Frag) (mg : Str → Option Value) (base : Heap) (C : Addr) (x : Str) (k : Nat) (ps : List Str) (ns : List Str) (R : List D → Except Value (List D) → Prop) : Prop where
  mg_ : mg x = some (.ref C)
  ex : ∃ f fd, FnOk P w K mg base (L2.CX P w) k f fd ps (spI K C ns R) ∧ Mk K C f ∧ Binds K fd ps []
section
variable {X : Cx} {δ : De} {μ : Me} {a b c e o : Expr} {es : List Expr} {pos p apos : Pos} {x m : Str} {k j : Nat} {ps ns : List Str} {R : List D → Except Value D → Prop} {ds : List D} {d : D} {C : Addr}
theorem pd_call (c : Cal X.prog X.w X.K X.mg X.base x k ps R) (hr : Room j X.A) (hk : k ≤ j) (hg : Gl X x) (ha : PA X (e :: es) (tAs X.K δ μ ds)) (hR : R ds (.ok d))
    (hdb : (x == ("__debug__" : Str)) = false := by decide) (he : starEach (e :: es) X.env = (false, eval e X.env) :: starEach es X.env := by rfl) (hpl : (backTo pos (starEach es X.env)).any (·.1) = false := by rfl) :
    PE X (.Call (.Name x p) (e :: es) [] pos) (tD X.K δ μ d) := by
  obtain ⟨f, fd, F, hm, hkp, hb⟩ := c.ex
  refine PE.mono (pe_call F (hr.mono hk) hg hm hkp hb .nil passL ha hdb he hpl) fun σ H Q ⟨F, S, w⟩ => ⟨F, S, fun vs F1 H1 g r => ?_⟩
  exact ⟨F1, ds, .ok d, g.fh, by rw [List.append_nil]; exact r, hR, fun v F2 H2 g2 rv => w v F2 H2 (g.trans g2) rv⟩
theorem pd_meth {dso : List D} (c : CalM X.prog X.w X.K X.mg X.base C m k ps R) (ho : PE X o (tD X.K δ μ (.ins C ns dso))) (hr : Room j X.A) (hk : k ≤ j) (ha : PA X (e :: es) (tAs X.K δ μ ds)) (hn : ns.contains m = false) (hR : R (.ins C ns dso :: ds) (.ok d)) {pl : Sem Bool}
    (hst : starEach (e :: es) X.env = (false, eval e X.env) :: starEach es X.env := by rfl) (hpl : (backTo pos (starEach es X.env)).any (·.1) = false := by rfl)
    (ht : eval (.Call (.Attribute o m apos) (e :: es) [] pos) X.env = (do
      let ov ← eval o X.env
      standAt apos.atName
      let (f, first) ← holding [ov] (getMethod ov m pl)
      callWith pos f first (backTo pos (starEach (e :: es) X.env)) (backToKw pos (keywordEach [] X.env))) := by rfl) :
    PE X (.Call (.Attribute o m apos) (e :: es) [] pos) (tD X.K δ μ d) := by
  obtain ⟨f, fd, F, hm, hb⟩ := c.ex
  refine PE.mono (pe_meth (pl := pl) ho c.cl hm F (hr.mono hk) hb .nil passL ha hst hpl ht) fun σ H Q ⟨F, S, w⟩ => ⟨F, S, fun v F1 H1 g r => ?_⟩
  obtain ⟨q, dx, vs, e1, hp, rv, hl⟩ := id r
  refine ⟨q, dx, _, e1, g.fh _ _ hp, zip_none hn, F1, S.mono g, fun us F2 H2 g2 r2 => ?_⟩
  refine ⟨F2, _, .ok d, g2.fh, ?_, hR, fun v F3 H3 g3 r3 => w v F3 H3 ((g.trans g2).trans g3) r3⟩
  rw [List.append_nil]
  exact ⟨_, _, rfl, Rep.mono g2.ff r, r2⟩
theorem pd_meth0 {dso : List D} (c : CalM X.prog X.w X.K X.mg X.base C m k ps R) (ho : PE X o (tD X.K δ μ (.ins C ns dso))) (hr : Room j X.A) (hk : k ≤ j) (hn : ns.contains m = false) (hR : R [.ins C ns dso] (.ok d)) {pl : Sem Bool}
    (ht : eval (.Call (.Attribute o m apos) [] [] pos) X.env = (do
      let ov ← eval o X.env
      standAt apos.atName
      let (f, first) ← holding [ov] (getMethod ov m pl)
      callWith pos f first (backTo pos (starEach [] X.env)) (backToKw pos (keywordEach [] X.env))) := by rfl) :
    PE X (.Call (.Attribute o m apos) [] [] pos) (tD X.K δ μ d) := by
  obtain ⟨f, fd, F, hm, hb⟩ := c.ex
  refine PE.mono (pe_meth0 (pl := pl) ho c.cl hm F (hr.mono hk) hb .nil passL ht) fun σ H Q ⟨F, S, w⟩ => ⟨F, S, fun v F1 H1 g r => ?_⟩
  obtain ⟨q, dx, vs, e1, hp, rv, hl⟩ := id r
  refine ⟨q, dx, _, e1, g.fh _ _ hp, zip_none hn, ?_⟩
  exact ⟨F1, [.ins C ns dso], .ok d, g.fh, ⟨v, [], rfl, r, rfl⟩, hR, fun v F3 H3 g3 r3 => w v F3 H3 (g.trans g3) r3⟩
theorem pd_make {R : List D → Except Value (List D) → Prop} {fs : List D} (c : CalI X.prog X.w X.K X.mg X.base C x k ps ns R) (hr : Room j X.A) (hk : k + 1 ≤ j) (hg : Gl X x) (ha : PA X (e :: es) (tAs X.K δ μ ds)) (hR : R ds (.ok fs))
    (hdb : (x == ("__debug__" : Str)) = false := by decide) (he : starEach (e :: es) X.env = (false, eval e X.env) :: starEach es X.env := by rfl) (hpl : (backTo pos (starEach es X.env)).any (·.1) = false := by rfl) :
    PE X (.Call (.Name x p) (e :: es) [] pos) (tD X.K δ μ (.ins C ns fs)) := by
  obtain ⟨f, fd, F, M, hb⟩ := c.ex
  refine PE.mono (pe_make M F (hr.mono hk) hg c.mg_ hb .nil passL ha hdb he hpl) fun σ H Q ⟨F, S, w⟩ => ⟨F, S, fun vs F1 H1 g r => fun y dx h1 h2 h3 => ?_⟩
  exact ⟨y, dx, vs, H1, F1, ds, .ok fs, by rw [List.append_nil], h1, h2, h3, rfl, g.fh, r, hR, fun F2 H2 g2 r2 => ⟨rfl, w _ F2 H2 (g.trans g2) r2⟩⟩
/-! the same where the call raises: what leaves is wished for by E -/
def tX (K : PySem.W.Frag) (E : XK) (δ : De) (μ : Me) (c : Value) : TE := fun σ H Q => ∃ F, SE K δ μ σ F H ∧ ∀ F' H', Gr F H F' H' → E c none H'
theorem px_call {E : XK} {c' : Value} (c : Cal X.prog X.w X.K X.mg X.base x k ps R) (hx : Passes (L2.CX X.prog X.w) X E) (hr : Room j X.A) (hk : k ≤ j) (hg : Gl X x) (ha : PA X (e :: es) (tAs X.K δ μ ds)) (hR : R ds (.error c'))
    (hdb : (x == ("__debug__" : Str)) = false := by decide) (he : starEach (e :: es) X.env = (false, eval e X.env) :: starEach es X.env := by rfl) (hpl : (backTo pos (starEach es X.env)).any (·.1) = false := by rfl) :
    PE X (.Call (.Name x p) (e :: es) [] pos) (tX X.K E δ μ c') := by
  obtain ⟨f, fd, F, hm, hkp, hb⟩ := c.ex
  refine PE.mono (pe_call F (hr.mono hk) hg hm hkp hb .nil hx ha hdb he hpl) fun σ H Q ⟨F, S, w⟩ => ⟨F, S, fun vs F1 H1 g r => ?_⟩
  exact ⟨F1, ds, .error c', g.fh, by rw [List.append_nil]; exact r, hR, fun F2 H2 g2 => w F2 H2 (g.trans g2)⟩
theorem px_meth {E : XK} {c' : Value} {dso : List D} (c : CalM X.prog X.w X.K X.mg X.base C m k ps R) (hx : Passes (L2.CX X.prog X.w) X E) (ho : PE X o (tD X.K δ μ (.ins C ns dso))) (hr : Room j X.A) (hk : k ≤ j) (ha : PA X (e :: es) (tAs X.K δ μ ds)) (hn : ns.contains m = false)
    (hR : R (.ins C ns dso :: ds) (.error c')) {pl : Sem Bool}
    (hst : starEach (e :: es) X.env = (false, eval e X.env) :: starEach es X.env := by rfl) (hpl : (backTo pos (starEach es X.env)).any (·.1) = false := by rfl)
    (ht : eval (.Call (.Attribute o m apos) (e :: es) [] pos) X.env = (do
      let ov ← eval o X.env
      standAt apos.atName
      let (f, first) ← holding [ov] (getMethod ov m pl)
      callWith pos f first (backTo pos (starEach (e :: es) X.env)) (backToKw pos (keywordEach [] X.env))) := by rfl) :
    PE X (.Call (.Attribute o m apos) (e :: es) [] pos) (tX X.K E δ μ c') := by
  obtain ⟨f, fd, F, hm, hb⟩ := c.ex
  refine PE.mono (pe_meth (pl := pl) ho c.cl hm F (hr.mono hk) hb .nil hx ha hst hpl ht) fun σ H Q ⟨F, S, w⟩ => ⟨F, S, fun v F1 H1 g r => ?_⟩
  obtain ⟨q, dx, vs, e1, hp, rv, hl⟩ := id r
  refine ⟨q, dx, _, e1, g.fh _ _ hp, zip_none hn, F1, S.mono g, fun us F2 H2 g2 r2 => ?_⟩
  refine ⟨F2, _, .error c', g2.fh, ?_, hR, fun F3 H3 g3 => w F3 H3 ((g.trans g2).trans g3)⟩
  rw [List.append_nil]
  exact ⟨_, _, rfl, Rep.mono g2.ff r, r2⟩
end
end Bl
namespace Bl
open PySem L2

/-! statements -/
structure SR (K : PySem.W.Frag) (F0 H0 : Hp) (δ : De) (μ : Me) (σ : St) (F H : Hp) : Prop where
  se : SE K δ μ σ F H
  gr : Gr F0 H0 F H
  fr : ∀ m ∈ μ, H0 m.1 = none
inductive Oc where
  | nx (δ : De) (μ : Me) | rt (d : D) | ex (c : Value)
def End (K : PySem.W.Frag) (E : XK) (F0 H0 : Hp) : Oc → Ends → Prop
  | .nx δ μ, Dn => ∀ σ F H, SR K F0 H0 δ μ σ F H → Dn.nx σ H
  | .rt d, Dn => ∀ v F H, Gr F0 H0 F H → Rep K F d v → Dn.rt v H
  | .ex c, _ => ∀ F H, Gr F0 H0 F H → E c none H
def tS (K : PySem.W.Frag) (E : XK) (δ : De) (μ : Me) (o : Oc) : TS := fun Dn σ H => ∃ F0 H0 F, SR K F0 H0 δ μ σ F H ∧ End K E F0 H0 o Dn
def Stop : Oc → Prop
  | .nx _ _ => False
  | _ => True

section
variable {X : Cx} {K : PySem.W.Frag} {E : XK} {δ δ' : De} {μ μ' : Me} {o : Oc} {st : Stmt} {rest body : List Stmt} {e c tgt : Expr} {pos : Pos} {d : D}
theorem SR.up {F0 H0 F H F' H' : Hp} {σ : St} (s : SR K F0 H0 δ μ σ F H) (g : Gr F H F' H') : SR K F0 H0 δ μ σ F' H' := ⟨s.se.mono g, s.gr.trans g, s.fr⟩
theorem Gr.join {F0 H0 F H F' H' : Hp} (a : Gr F0 H0 F H) (b : Gr F H0 F' H') : Gr F0 H0 F' H' := ⟨a.ff.trans b.ff, b.fh, b.hh, fun c o h n => b.nf c o h (a.nf c o h n)⟩
theorem SR.re {F0 H0 F H : Hp} {σ : St} (s : SR K F0 H0 δ μ σ F H) : SR K F H0 δ μ σ F H := ⟨s.se, ⟨Ex.refl _, s.se.fh, s.gr.hh, fun _ _ _ n => n⟩, s.fr⟩
theorem SR.back {F0 H0 F H F' H' : Hp} {σ : St} (a : Gr F0 H0 F H) (s : SR K F H0 δ μ σ F' H') : SR K F0 H0 δ μ σ F' H' := ⟨s.se, a.join s.gr, s.fr⟩
theorem pss_nilD : PSs X [] (tS K E δ μ (.nx δ μ)) := PSs.mono pss_nil fun Dn σ H ⟨F0, H0, F, s, k⟩ => k σ F H s
theorem pss_seq (h1 : PS X st (tS K E δ μ (.nx δ' μ'))) (h2 : PSs X rest (tS K E δ' μ' o)) : PSs X (st :: rest) (tS K E δ μ o) :=
  PSs.mono (pss_cons h1 h2) fun Dn σ H ⟨F0, H0, F, s, k⟩ => ⟨F0, H0, F, s, fun σ' F' H' s' => ⟨F0, H0, F', s', k⟩⟩
theorem pss_end (h1 : PS X st (tS K E δ μ o)) (hs : Stop o) : PSs X (st :: rest) (tS K E δ μ o) :=
  PSs.mono (pss_cons h1 pss_never) fun Dn σ H ⟨F0, H0, F, s, k⟩ => ⟨F0, H0, F, s, by
    cases o with
    | nx _ _ => exact hs.elim
    | rt d => exact k
    | ex c => exact k⟩
theorem pss_is {o' : Oc} (h : PSs X body (tS K E δ μ o')) (q : o' = o) : PSs X body (tS K E δ μ o) := q ▸ h
theorem ps_is {o' : Oc} (h : PS X st (tS K E δ μ o')) (q : o' = o) : PS X st (tS K E δ μ o) := q ▸ h
/-- slots forgotten -/
inductive Wk : De → De → Prop where
  | nil : Wk [] []
  | same {a : Option D} {r t : De} : Wk r t → Wk (a :: r) (a :: t)
  | drop {a : Option D} {r t : De} : Wk r t → Wk (a :: r) (none :: t)
theorem Wk.refl : ∀ δ : De, Wk δ δ
  | [] => .nil
  | _ :: r => .same (Wk.refl r)
theorem Wk.len {r t : De} (h : Wk r t) : r.length = t.length := by
  induction h with
  | nil => rfl
  | same _ ih => simp [ih]
  | drop _ ih => simp [ih]
theorem Wk.at_ {r t : De} (h : Wk r t) : ∀ (i : Nat) (d : D), t[i]? = some (some d) → r[i]? = some (some d) := by
  induction h with
  | nil => intro i d q; simp at q
  | same _ ih =>
    intro i d q
    cases i with
    | zero => exact q
    | succ i => exact ih i d (by simpa using q)
  | drop _ ih =>
    intro i d q
    cases i with
    | zero => simp at q
    | succ i => exact ih i d (by simpa using q)
theorem EnvR.weak {F : Hp} {σ : St} (w : Wk δ δ') (h : EnvR K F σ δ) : EnvR K F σ δ' := ⟨h.len.trans w.len, fun i d q => h.at_ i d (w.at_ i d q)⟩
theorem SE.weak {F H : Hp} {σ : St} (w : Wk δ δ') (h : SE K δ μ σ F H) : SE K δ' μ σ F H := ⟨h.fh, h.env.weak w, h.mem⟩
theorem SR.weak {F0 H0 F H : Hp} {σ : St} (w : Wk δ δ') (h : SR K F0 H0 δ μ σ F H) : SR K F0 H0 δ' μ σ F H := ⟨h.se.weak w, h.gr, h.fr⟩
theorem pss_wk {δ2 : De} (h : PSs X body (tS K E δ μ (.nx δ' μ'))) (w : Wk δ' δ2) : PSs X body (tS K E δ μ (.nx δ2 μ')) :=
  PSs.mono h fun Dn σ H ⟨F0, H0, F, s, k⟩ => ⟨F0, H0, F, s, fun σ' F' H' s' => k σ' F' H' (s'.weak w)⟩
theorem pss_wk0 {δ2 : De} (w : Wk δ δ2) (h : PSs X body (tS K E δ2 μ o)) : PSs X body (tS K E δ μ o) :=
  PSs.mono h fun Dn σ H ⟨F0, H0, F, s, k⟩ => ⟨F0, H0, F, s.weak w, k⟩

theorem EnvR.set {F : Hp} {σ : St} {i : Nat} {v : V} (h : EnvR K F σ δ) (r : Rep K F d v) : EnvR K F (σ.set i (some v)) (δ.set i (some d)) := by
  refine ⟨by rw [List.length_set, List.length_set]; exact h.len, fun j x q => ?_⟩
  by_cases z : i = j
  · subst z
    have hi : i < δ.length := by
      have := (List.getElem?_eq_some_iff.mp q).1
      rwa [List.length_set] at this
    rw [List.getElem?_set_self hi] at q
    have e : d = x := Option.some.inj (Option.some.inj q)
    subst e
    exact ⟨v, List.getElem?_set_self (by rw [h.len]; exact hi), r⟩
  · rw [List.getElem?_set_ne z] at q
    obtain ⟨u, h1, h2⟩ := h.at_ j x q
    exact ⟨u, by rw [List.getElem?_set_ne z]; exact h1, h2⟩
theorem psd_set (i : Nat) {x : Str} {pos' : Pos} (hN : X.N.Nodup) (hi : X.N[i]? = some x) (hx : Loc X.env.scope x) (he : PE X e (tD K δ μ d)) (hs : swapsWith e (some (.Name x pos')) pos.line X.env = pure false)
    (hf : X.fn x = true ∨ X.env.scope.names.lookup x = some .local) : PS X (.Assign [.Name x pos'] e pos) (tS K E δ μ (.nx (δ.set i (some d)) μ)) :=
  PS.mono (ps_set (i := i) hN hi hx he hs hf) fun Dn σ H ⟨F0, H0, F, s, k⟩ => ⟨F, s.se, fun v F1 H1 g r => by
    have s1 := s.up g
    exact k _ F1 H1 ⟨⟨s1.se.fh, s1.se.env.set r, s1.se.mem⟩, s1.gr, s1.fr⟩⟩
theorem psd_expr (he : PE X e (tD K δ μ d)) (hs : swapsWith e none pos.line X.env = pure false) : PS X (.Expr e pos) (tS K E δ μ (.nx δ μ)) :=
  PS.mono (ps_expr he hs) fun Dn σ H ⟨F0, H0, F, s, k⟩ => ⟨F, s.se, fun v F1 H1 g r => k σ F1 H1 (s.up g)⟩
theorem psd_ret (he : PE X e (tD K δ μ d)) : PS X (.Return (some e) pos) (tS K E δ μ (.rt d)) :=
  PS.mono (ps_ret he) fun Dn σ H ⟨F0, H0, F, s, k⟩ => ⟨F, s.se, fun v F1 H1 g r => k v F1 H1 (s.gr.trans g) r⟩
theorem psd_pass : PS X (.Pass pos) (tS K E δ μ (.nx δ μ)) := PS.mono ps_pass fun Dn σ H ⟨F0, H0, F, s, k⟩ => k σ F H s
theorem psx_set (i : Nat) {cv : Value} {x : Str} {pos' : Pos} (hN : X.N.Nodup) (hi : X.N[i]? = some x) (hx : Loc X.env.scope x) (he : PE X e (tX K E δ μ cv)) (hs : swapsWith e (some (.Name x pos')) pos.line X.env = pure false)
    (hf : X.fn x = true ∨ X.env.scope.names.lookup x = some .local) : PS X (.Assign [.Name x pos'] e pos) (tS K E δ μ (.ex cv)) :=
  PS.mono (ps_set (i := i) hN hi hx he hs hf) fun Dn σ H ⟨F0, H0, F, s, k⟩ => ⟨F, s.se, fun F1 H1 g => k F1 H1 (s.gr.trans g)⟩
theorem psx_ret {cv : Value} (he : PE X e (tX K E δ μ cv)) : PS X (.Return (some e) pos) (tS K E δ μ (.ex cv)) :=
  PS.mono (ps_ret he) fun Dn σ H ⟨F0, H0, F, s, k⟩ => ⟨F, s.se, fun F1 H1 g => k F1 H1 (s.gr.trans g)⟩
theorem psx_expr {cv : Value} (he : PE X e (tX K E δ μ cv)) (hs : swapsWith e none pos.line X.env = pure false) : PS X (.Expr e pos) (tS K E δ μ (.ex cv)) :=
  PS.mono (ps_expr he hs) fun Dn σ H ⟨F0, H0, F, s, k⟩ => ⟨F, s.se, fun F1 H1 g => k F1 H1 (s.gr.trans g)⟩
theorem psd_raise {C : Addr} (hc : X.calm = true) (tk : Takes X (fun cls dd _ H => E cls dd H)) (he : PMk X e (fun _ H Q => Q (.ref C) none H)) : PS X (.Raise (some e) none pos) (tS K E δ μ (.ex (.ref C))) :=
  PS.mono (ps_raise hc tk he) fun Dn σ H ⟨F0, H0, F, s, k⟩ => k F H s.gr

/-! if -/
variable {p : Prop} {as bs : List Stmt}
theorem psd_ifT (hc : PT X c (tP K δ μ p)) (hp : p) (h : PSs X as (tS K E δ μ o)) : PS X (.If c as bs pos) (tS K E δ μ o) :=
  PS.mono (ps_if hc h pss_never) fun Dn σ H ⟨F0, H0, F, s, k⟩ => ⟨F, s.se, fun b F1 H1 g r => by
    have e : b = true := r.mpr hp
    subst e
    exact iteT ⟨F0, H0, F1, s.up g, k⟩⟩
theorem psd_ifF (hc : PT X c (tP K δ μ p)) (hp : ¬ p) (h : PSs X bs (tS K E δ μ o)) : PS X (.If c as bs pos) (tS K E δ μ o) :=
  PS.mono (ps_if hc pss_never h) fun Dn σ H ⟨F0, H0, F, s, k⟩ => ⟨F, s.se, fun b F1 H1 g r => by
    have e : b = false := by
      cases b with
      | false => rfl
      | true => exact absurd (r.mp rfl) hp
    subst e
    exact iteF ⟨F0, H0, F1, s.up g, k⟩⟩
/-- how a branch goes on: it stops, or the rest follows -/
inductive SQ (X : Cx) (K : PySem.W.Frag) (E : XK) (as rest : List Stmt) (δ : De) (μ : Me) (o : Oc) : Prop where
  | st (h : PSs X as (tS K E δ μ o)) (hs : Stop o) : SQ X K E as rest δ μ o
  | go {δ' : De} {μ' : Me} (h : PSs X as (tS K E δ μ (.nx δ' μ'))) (h2 : PSs X rest (tS K E δ' μ' o)) : SQ X K E as rest δ μ o
theorem SQ.nil (h2 : PSs X rest (tS K E δ μ o)) : SQ X K E [] rest δ μ o := .go pss_nilD h2
theorem pss_if (hc : PT X c (tP K δ μ p)) (h1 : p → SQ X K E as rest δ μ o) (h2 : ¬ p → SQ X K E bs rest δ μ o) : PSs X (.If c as bs pos :: rest) (tS K E δ μ o) := by
  by_cases hp : p
  · cases h1 hp with
    | st h hs => exact pss_end (psd_ifT hc hp h) hs
    | go h h2 => exact pss_seq (psd_ifT hc hp h) h2
  · cases h2 hp with
    | st h hs => exact pss_end (psd_ifF hc hp h) hs
    | go h h2 => exact pss_seq (psd_ifF hc hp h) h2
/-- an if that only stores into one slot: one way -/
theorem pss_ifset {i : Nat} {d1 d2 : D} (hc : PT X c (tP K δ μ p)) (h1 : p → PSs X as (tS K E δ μ (.nx (δ.set i (some d1)) μ))) (hd : δ[i]? = some (some d2)) (dec : Decidable p)
    (h : PSs X rest (tS K E (δ.set i (some (if p then d1 else d2))) μ o)) : PSs X (.If c as [] pos :: rest) (tS K E δ μ o) := by
  by_cases hp : p
  · rw [if_pos hp] at h
    exact pss_seq (psd_ifT hc hp (h1 hp)) h
  · rw [if_neg hp] at h
    have e : δ.set i (some d2) = δ := by
      apply List.ext_getElem?
      intro j
      by_cases z : i = j
      · subst z
        rw [hd, List.getElem?_set_self (List.getElem?_eq_some_iff.mp hd).1]
      · rw [List.getElem?_set_ne z]
    rw [e] at h
    exact pss_seq (psd_ifF hc hp pss_nilD) h

/-! targets -/
def wipeD (δ : De) : List Nat → De
  | [] => δ
  | v :: vs => (wipeD δ vs).set v none
theorem EnvR.forget {F : Hp} {σ : St} (h : EnvR K F σ δ) (i : Nat) : EnvR K F (σ.set i none) (δ.set i none) := by
  refine ⟨by rw [List.length_set, List.length_set]; exact h.len, fun j x q => ?_⟩
  by_cases z : i = j
  · subst z
    have hi : i < δ.length := by
      have := (List.getElem?_eq_some_iff.mp q).1
      rwa [List.length_set] at this
    rw [List.getElem?_set_self hi] at q
    cases Option.some.inj q
  · rw [List.getElem?_set_ne z] at q
    obtain ⟨u, h1, h2⟩ := h.at_ j x q
    exact ⟨u, by rw [List.getElem?_set_ne z]; exact h1, h2⟩
theorem EnvR.wiped {F : Hp} {σ : St} (h : EnvR K F σ δ) : ∀ js : List Nat, EnvR K F (wipe σ js) (wipeD δ js)
  | [] => h
  | j :: js => (EnvR.wiped h js).forget j
theorem wipe_set {a : Option V} {i : Nat} : ∀ {js : List Nat} {σ : St}, i ∈ js → wipe (σ.set i a) js = wipe σ js
  | [], σ, h => by simp at h
  | j :: js, σ, h => by
    show (wipe (σ.set i a) js).set j none = (wipe σ js).set j none
    by_cases z : i ∈ js
    · rw [wipe_set z]
    · have e : i = j := by
        rcases List.mem_cons.mp h with h | h
        · exact h
        · exact absurd h z
      subst e
      have key : ∀ (ks : List Nat) (τ : St), (wipe (τ.set i a) ks).set i none = (wipe τ ks).set i none := by
        intro ks
        induction ks with
        | nil => intro τ; exact List.set_set _ ..
        | cons k ks ih =>
          intro τ
          show ((wipe (τ.set i a) ks).set k none).set i none = ((wipe τ ks).set k none).set i none
          by_cases q : k = i
          · subst q
            rw [ih τ]
          · rw [List.set_comm _ _ q, List.set_comm _ _ q, ih τ]
      exact key js σ
def tG (K : PySem.W.Frag) (js : List Nat) (δ : De) (μ : Me) (x : D) (δ' : De) : TG := fun v σ H Q => ∃ F, SE K δ μ σ F H ∧ Rep K F x v ∧ ∀ σ', EnvR K F σ' δ' → wipe σ' js = wipe σ js → Q σ' H
def tGs (K : PySem.W.Frag) (js : List Nat) (δ : De) (μ : Me) (xs : List D) (δ' : De) : TGs := fun vs σ H Q => ∃ F, SE K δ μ σ F H ∧ RepL K F xs vs ∧ ∀ σ', EnvR K F σ' δ' → wipe σ' js = wipe σ js → Q σ' H
theorem PG.mono {X : Cx} {e : Expr} {t t' : TG} (h : PG X e t) (m : ∀ v σ H Q, t' v σ H Q → t v σ H Q) : PG X e t' := ⟨fun pins s σ H v u Q I r w => h.run pins s σ H v u Q I r (m v σ H Q w)⟩
theorem PGs.mono {X : Cx} {e : List Expr} {t t' : TGs} (h : PGs X e t) (m : ∀ v σ H Q, t' v σ H Q → t v σ H Q) : PGs X e t' := ⟨fun pins s σ H v u Q I r w => h.run pins s σ H v u Q I r (m v σ H Q w)⟩
theorem pgd_name (i : Nat) {js : List Nat} {x : Str} (hN : X.N.Nodup) (hi : X.N[i]? = some x) (hx : Loc X.env.scope x) (hf : X.fn x = true ∨ X.env.scope.names.lookup x = some .local) (hj : i ∈ js) : PG X (.Name x pos) (tG K js δ μ d (δ.set i (some d))) :=
  PG.mono (pg_name (i := i) hN hi hx hf) fun v σ H Q ⟨F, S, r, k⟩ => k _ (S.env.set r) (wipe_set hj)
theorem pgsd_nil {js : List Nat} : PGs X [] (tGs K js δ μ [] δ) := PGs.mono pgs_nil fun vs σ H Q ⟨F, S, r, k⟩ => ⟨r, k σ S.env rfl⟩
theorem pgsd_cons {js : List Nat} {es : List Expr} {δ1 δ2 : De} {x : D} {xs : List D} (h1 : PG X e (tG K js δ μ x δ1)) (h2 : PGs X es (tGs K js δ1 μ xs δ2))
    (hs : (assignEach (e :: es) X.env).map (·.2) = assign e X.env :: (assignEach es X.env).map (·.2) := by rfl) : PGs X (e :: es) (tGs K js δ μ (x :: xs) δ2) :=
  PGs.mono (pgs_cons h1 h2 hs) fun vs σ H Q ⟨F, S, r, k⟩ => by
    obtain ⟨v, t, e1, r1, r2⟩ := r
    exact ⟨v, t, e1, F, S, r1, fun σ' en w1 => ⟨F, ⟨S.fh, en, S.mem⟩, r2, fun σ2 en2 w2 => k σ2 en2 (w2.trans w1)⟩⟩
theorem pgd_tup {js : List Nat} {es : List Expr} {kk : Nat} {xs : List D} (hc : X.calm = true) (h : PGs X es (tGs X.K js δ μ xs δ'))
    (hn : (assignEach es X.env).length = xs.length) (hst : (assignEach es X.env).findIdx? (·.1) = none := by rfl) : PG X (.Tuple es kk pos) (tG X.K js δ μ (.tup xs) δ') :=
  PG.mono (pg_tup hc h hn hst) fun v σ H Q ⟨F, S, r, k⟩ => by
    obtain ⟨q, vs, e1, hq, rv⟩ := r
    exact ⟨q, vs, e1, SqT.of (S.fh _ _ hq), rv.length, F, S, rv, k⟩
/-- a, b, .. = e -/
theorem psd_unpack {js : List Nat} {x : D} (he : PE X e (tD K δ μ x)) (hg : PG X tgt (tG K js δ μ x δ')) (hs : swapsWithSole [tgt] e pos.line X.env = pure false := by rfl) (hw : swappedStores [tgt] e X.env = pure none := by rfl)
    (h1 : (assignEach [tgt] X.env).map (·.2) = [assign tgt X.env] := by rfl) : PS X (.Assign [tgt] e pos) (tS K E δ μ (.nx δ' μ)) :=
  PS.mono (ps_asg he hg hs hw h1) fun Dn σ H ⟨F0, H0, F, s, k⟩ => ⟨F, s.se, fun v F1 H1 g r => ⟨F1, (s.up g).se, r, fun σ' en w =>
    k σ' F1 H1 ⟨⟨(s.up g).se.fh, en, (s.up g).se.mem⟩, (s.up g).gr, s.fr⟩⟩⟩
theorem psx_unpack {cv : Value} {g : TG} (he : PE X e (tX K E δ μ cv)) (hg : PG X tgt g) (hs : swapsWithSole [tgt] e pos.line X.env = pure false := by rfl) (hw : swappedStores [tgt] e X.env = pure none := by rfl)
    (h1 : (assignEach [tgt] X.env).map (·.2) = [assign tgt X.env] := by rfl) : PS X (.Assign [tgt] e pos) (tS K E δ μ (.ex cv)) :=
  PS.mono (ps_asg he hg hs hw h1) fun Dn σ H ⟨F0, H0, F, s, k⟩ => ⟨F, s.se, fun F1 H1 g => k F1 H1 (s.gr.trans g)⟩
/-- a, b = x, y (written) -/
theorem psd_par (i j : Nat) {d1 d2 : D} {x y : Str} {a b : Expr} {px py pt : Pos} {kt k2 pt2} (hc : X.calm = true) (hN : X.N.Nodup) (hi : X.N[i]? = some x) (hj : X.N[j]? = some y) (hij : i ≠ j)
    (hx : X.env.scope.names.lookup x = some .local) (hy : X.env.scope.names.lookup y = some .local) (ha : PA X [a, b] (tAs K δ μ [d1, d2]))
    (hw : swappedStores [.Tuple [.Name x px, .Name y py] kt pt] (.Tuple [a, b] k2 pt2) X.env = pure (some [x, y]))
    (hs : swapsWithSole [.Tuple [.Name x px, .Name y py] kt pt] (.Tuple [a, b] k2 pt2) pos.line X.env = pure false := by rfl) :
    PS X (.Assign [.Tuple [.Name x px, .Name y py] kt pt] (.Tuple [a, b] k2 pt2) pos) (tS K E δ μ (.nx ((δ.set i (some d1)).set j (some d2)) μ)) :=
  PS.mono (ps_par hc hN hi hj hij hx hy ha hw hs) fun Dn σ H ⟨F0, H0, F, s, k⟩ => ⟨F, s.se, fun vs F1 H1 g r => by
    obtain ⟨v, t, e1, r1, u, t2, e2, r2, e3⟩ := r
    have e4 : t2 = [] := e3
    subst e4; subst e2; subst e1
    have s1 := s.up g
    exact ⟨v, u, rfl, k _ F1 H1 ⟨⟨s1.se.fh, (s1.se.env.set r1).set r2, s1.se.mem⟩, s1.gr, s1.fr⟩⟩⟩
/-- x += e, x -= e -/
theorem psd_aug (i : Nat) {f : Int → Int → Int} {op : Operator} {x : Str} {pos' : Pos} {n z : Int} (hN : X.N.Nodup) (hi : X.N[i]? = some x) (hx : Loc X.env.scope x) (ho : PIp X op (ipI f)) (hd : δ[i]? = some (some (.int z))) (he : PE X e (tD K δ μ (.int n)))
    (hf : X.fn x = true ∨ X.env.scope.names.lookup x = some .local) : PS X (.AugAssign (.Name x pos') op e pos) (tS K E δ μ (.nx (δ.set i (some (.int (f z n)))) μ)) :=
  PS.mono (ps_aug (i := i) hN hi hx he ho hf) fun Dn σ H ⟨F0, H0, F, s, k⟩ => by
    obtain ⟨v, h1, h2⟩ := s.se.env.at_ i _ hd
    refine ⟨v, h1, F, s.se, fun u F1 H1 g r => ⟨z, n, h2, r, ?_⟩⟩
    have s1 := s.up g
    exact k _ F1 H1 ⟨⟨s1.se.fh, EnvR.set (d := .int (f z n)) s1.se.env rfl, s1.se.mem⟩, s1.gr, s1.fr⟩

/-! what is walked -/
structure DW (K : PySem.W.Frag) (J : It) (F : Hp) (ds : List D) : Prop where
  ex : ∃ (G : Hp → Prop) (Y : Nat → Hp → V → Hp → Prop), Walk J ds.length G Y ∧ (∀ F' H', Ex F F' → Ex F' H' → G H') ∧
    ∀ i H x H', i < ds.length → Y i H x H' → ∀ F', Ex F F' → Ex F' H → ∃ F'' d, ds[i]? = some d ∧ Gr F' H F'' H' ∧ Rep K F'' d x
def tI (K : PySem.W.Frag) (δ : De) (μ : Me) (ds : List D) : TI := fun σ H R => ∃ F, SE K δ μ σ F H ∧ ∀ J F' H', Gr F H F' H' → DW K J F' ds → R J H'
theorem PI.mono {X : Cx} {tg e : Expr} {t t' : TI} (h : PI X tg e t) (m : ∀ σ H R, t' σ H R → t σ H R) : PI X tg e t' := ⟨fun pins s σ H R I w => h.run pins s σ H R I (m σ H R w)⟩
theorem pid_list {ds : List D} (he : PE X e (tD X.K δ μ d)) (hq : seqL d = some ds) : PI X tgt e (tI X.K δ μ ds) :=
  PI.mono (pi_list he) fun σ H R ⟨F, S, k⟩ => ⟨F, S, fun v F1 H1 g r => by
    obtain ⟨p, vs, e1, rv, hs⟩ := rep_list r hq
    refine ⟨p, e1, ⟨vs, g.fh.sql hs⟩, k _ F1 H1 g ⟨_, _, rv.length ▸ walk_list (K := X.K) (a := p) (xs := vs), fun F' H' e2 e3 => e3.sql (e2.sql hs), fun i H x H' hi y F' e2 e3 => ?_⟩⟩
    obtain ⟨rfl, hx⟩ := y
    obtain ⟨dd, h1, h2⟩ := rv.back hx
    exact ⟨F', dd, h1, Gr.refl e3, Rep.mono e2 h2⟩⟩
theorem pid_tup {ds : List D} (he : PE X e (tD X.K δ μ (.tup ds))) : PI X tgt e (tI X.K δ μ ds) :=
  PI.mono (pi_tup he) fun σ H R ⟨F, S, k⟩ => ⟨F, S, fun v F1 H1 g r => by
    obtain ⟨p, vs, e1, hs, rv⟩ := r
    refine ⟨p, e1, ⟨vs, SqT.of (g.fh _ _ hs)⟩, k _ F1 H1 g ⟨_, _, rv.length ▸ walk_tup (K := X.K) (a := p) (xs := vs), fun F' H' e2 e3 => SqT.of (e3 _ _ (e2 _ _ hs)), fun i H x H' hi y F' e2 e3 => ?_⟩⟩
    obtain ⟨rfl, hx⟩ := y
    obtain ⟨dd, h1, h2⟩ := rv.back hx
    exact ⟨F', dd, h1, Gr.refl e3, Rep.mono e2 h2⟩⟩

/-! for -/
theorem PSs.union {ι : Type} {t : ι → TS} (h : ∀ i, PSs X body (t i)) : PSs X body (fun Dn σ H => ∃ i, t i Dn σ H) := ⟨fun pins s σ H Dn I ⟨i, w⟩ => (h i).run pins s σ H Dn I w⟩
theorem PG.union {ι : Type} {t : ι → TG} (h : ∀ i, PG X e (t i)) : PG X e (fun v σ H Q => ∃ i, t i v σ H Q) := ⟨fun pins s σ H v u Q I r ⟨i, w⟩ => (h i).run pins s σ H v u Q I r w⟩
theorem PE.union {ι : Type} {t : ι → TE} (h : ∀ i, PE X e (t i)) : PE X e (fun σ H Q => ∃ i, t i σ H Q) := ⟨fun pins s σ H Q I ⟨i, w⟩ => (h i).run pins s σ H Q I w⟩
theorem PT.union {ι : Type} {t : ι → TT} (h : ∀ i, PT X e (t i)) : PT X e (fun σ H Q => ∃ i, t i σ H Q) := ⟨fun pins s σ H Q I ⟨i, w⟩ => (h i).run pins s σ H Q I w⟩
/-- G, M: the names' and the open lists' data ahead of each turn; good: the turns that go on -/
theorem psd_for {ds : List D} {js : List Nat} (G : Nat → De) (M : Nat → Me) (good : Nat → Prop) (T : Nat → D → De) (hp : PassesOwn (model X.prog X.w) X.A X.env X.xe) (hc : X.calm = true) {iter : Expr} (hi : PI X tgt iter (tI X.K δ μ ds))
    (h0 : Wk δ (G 0)) (hM : M 0 = μ)
    (hg : ∀ i x, ds[i]? = some x → (∀ k, k < i → good k) → PG X tgt (tG X.K js (G i) (M i) x (T i x)))
    (hgo : ∀ i x, ds[i]? = some x → (∀ k, k < i → good k) → good i → PSs X body (tS X.K E (T i x) (M i) (.nx (G (i + 1)) (M (i + 1)))))
    (hst : ∀ i x, ds[i]? = some x → (∀ k, k < i → good k) → ¬ good i → PSs X body (tS X.K E (T i x) (M i) o) ∧ Stop o)
    (hend : (∀ k, k < ds.length → good k) → o = .nx (G ds.length) (M ds.length))
    (hs : ∀ x, foldedSetIterable iter X.env x = pure x := by intro _; rfl) : PS X (.For tgt iter body [] pos) (tS X.K E δ μ o) := by
  -- the turns by their number
  let ι := { q : Nat × D // ds[q.1]? = some q.2 ∧ ∀ k, k < q.1 → good k }
  let g : TG := fun v σ H Q => ∃ q : ι, tG X.K js (G q.1.1) (M q.1.1) q.1.2 (T q.1.1 q.1.2) v σ H Q
  let tb : TS := fun Dn σ H => ∃ q : ι, (good q.1.1 ∧ tS X.K E (T q.1.1 q.1.2) (M q.1.1) (.nx (G (q.1.1 + 1)) (M (q.1.1 + 1))) Dn σ H) ∨ (¬ good q.1.1 ∧ tS X.K E (T q.1.1 q.1.2) (M q.1.1) o Dn σ H)
  have hG : PG X tgt g := PG.union fun q => hg q.1.1 q.1.2 q.2.1 q.2.2
  have hB : PSs X body tb := PSs.union fun q => ⟨fun pins s σ H Dn I w => by
    rcases w with ⟨a, w⟩ | ⟨a, w⟩
    · exact (hgo q.1.1 q.1.2 q.2.1 q.2.2 a).run pins s σ H Dn I w
    · exact (hst q.1.1 q.1.2 q.2.1 q.2.2 a).1.run pins s σ H Dn I w⟩
  refine PS.mono (ps_for hp hc hi hG hB hs) fun Dn σ H ⟨F0, H0, F, s, k⟩ => ⟨F, s.se, fun J F1 H1 g1 dw => ?_⟩
  obtain ⟨Gw, Y, hw, hGw, hY⟩ := dw.ex
  have s1 := s.up g1
  refine for_it (g := g) (tb := tb) (D := Dn) hw (fun i σ H => ∃ F', Ex F1 F' ∧ (∀ k, k < i → good k) ∧ SR X.K F0 H0 (G i) (M i) σ F' H) ⟨F1, Ex.refl _, fun k hk => absurd hk (Nat.not_lt_zero k), by rw [hM]; exact s1.weak h0⟩ (fun i σ H _ ⟨F', e1, _, s2⟩ => hGw F' H e1 s2.se.fh) ?_ ?_
  · rintro i x σ2 H2 H3 hi2 ⟨F2, e2, gd, s2⟩ y
    obtain ⟨F3, dd, hd, g3, r3⟩ := hY i H2 x H3 hi2 y F2 e2 s2.se.fh
    have s3 := s2.up g3
    refine ⟨⟨(i, dd), hd, gd⟩, F3, s3.se, r3, fun σ4 en _ => ⟨⟨(i, dd), hd, gd⟩, ?_⟩⟩
    have s4 : SR X.K F3 H0 (T i dd) (M i) σ4 F3 H3 := SR.re (F0 := F0) ⟨⟨s3.se.fh, en, s3.se.mem⟩, s3.gr, s3.fr⟩
    by_cases hgd : good i
    · refine .inl ⟨hgd, F3, H0, F3, s4, fun σ5 F5 H5 s5 => ?_⟩
      exact ⟨F5, (e2.trans g3.ff).trans s5.gr.ff, fun k hk => by
          by_cases z : k = i
          · subst z; exact hgd
          · exact gd k (by omega), s5.back s3.gr⟩
    · have hst' := hst i dd hd gd hgd
      refine .inr ⟨hgd, F3, H0, F3, s4, ?_⟩
      revert k
      cases o with
      | nx _ _ => exact hst'.2.elim
      | rt d => exact fun k v F H g r => k v F H (s3.gr.join g) r
      | ex c => exact fun k F H g => k F H (s3.gr.join g)
  · rintro σ2 H2 ⟨F2, e2, gd, s2⟩
    have e := hend gd
    subst e
    exact k σ2 F2 H2 s2
end
end Bl
namespace Bl
open PySem L2
section
variable {X : Cx} {E : XK} {δ δ' : De} {μ μ' : Me} {o : Oc} {st : Stmt} {rest body : List Stmt} {a b c e tgt : Expr} {pos p pos' : Pos} {d : D}
/-! further walks -/
theorem mapR_get {f : Nat → D} {n i : Nat} (hi : i < n) : ((List.range n).map f)[i]? = some (f i) := by simp [hi]
theorem pid_range1 {j : Int} (hg : Gl X "range") (hm : X.mg "range" = none) (ha : PE X a (tD X.K δ μ (.int j))) (hj : -(2 ^ 62) ≤ j ∧ j < 2 ^ 62)
    (hs : starEach [a] X.env = [(false, eval a X.env)] := by rfl) : PI X tgt (.Call (.Name "range" p) [a] [] pos) (tI X.K δ μ ((List.range j.toNat).map fun i : Nat => D.int ((0 : Int) + (i : Int)))) :=
  PI.mono (pi_range1 hg hm (pas_cons ha pas_nil hs) hs) fun σ H R ⟨F, S, k⟩ => ⟨F, S, fun vs F1 H1 g r => by
    obtain ⟨v, t, e1, r1, e2⟩ := r
    have e3 : t = [] := e2
    have e4 : v = .int j := r1
    subst e3; subst e4; subst e1
    refine ⟨j, rfl, hj.1, hj.2, k _ F1 H1 g ⟨_, _, by rw [List.length_map, List.length_range]; exact walk_range (lo := 0) (n := j.toNat), fun _ _ _ _ => True.intro, fun i H x H' hi y F' e5 e6 => ?_⟩⟩
    obtain ⟨rfl, rfl⟩ := y
    rw [List.length_map, List.length_range] at hi
    exact ⟨F', _, mapR_get hi, Gr.refl e6, rfl⟩⟩
theorem pid_range3 {i0 j c0 : Int} {n : Nat} (hg : Gl X "range") (hm : X.mg "range" = none) (ha : PE X a (tD X.K δ μ (.int i0))) (hb : PE X b (tD X.K δ μ (.int j))) (hc : PE X c (tD X.K δ μ (.int c0))) (hn : RgC i0 j c0 n)
    (hs : starEach [a, b, c] X.env = (false, eval a X.env) :: starEach [b, c] X.env := by rfl) (hs2 : starEach [b, c] X.env = (false, eval b X.env) :: starEach [c] X.env := by rfl) (hs3 : starEach [c] X.env = (false, eval c X.env) :: starEach [] X.env := by rfl)
    (hpl : (backTo pos (starEach [b, c] X.env)).any (·.1) = false := by rfl) :
    PI X tgt (.Call (.Name "range" p) [a, b, c] [] pos) (tI X.K δ μ ((List.range n).map fun i : Nat => D.int (i0 + (i : Int) * c0))) :=
  PI.mono (pi_range3 hg hm (pas_cons ha (pas_cons hb (pas_cons hc pas_nil hs3) hs2) hs) hs hpl) fun σ H R ⟨F, S, k⟩ => ⟨F, S, fun vs F1 H1 g r => by
    obtain ⟨v, t, e1, r1, v2, t2, e2, r2, v3, t3, e3, r3, e4⟩ := r
    have e5 : t3 = [] := e4
    have z1 : v = .int i0 := r1
    have z2 : v2 = .int j := r2
    have z3 : v3 = .int c0 := r3
    subst e5; subst e3; subst e2; subst e1; subst z1; subst z2; subst z3
    refine ⟨i0, j, c0, n, rfl, hn, k _ F1 H1 g ⟨_, _, by rw [List.length_map, List.length_range]; exact walk_rangeC (lo := i0) (c := c0) (n := n), fun _ _ _ _ => True.intro, fun i H x H' hi y F' e5 e6 => ?_⟩⟩
    obtain ⟨rfl, rfl⟩ := y
    rw [List.length_map, List.length_range] at hi
    exact ⟨F', _, mapR_get hi, Gr.refl e6, rfl⟩⟩
theorem rep_pair {K : PySem.W.Frag} {F H : Hp} {T : Addr} {x y : V} {d1 d2 : D} (e : Ex F H) (hn : H T = none) (r1 : Rep K F d1 x) (r2 : Rep K F d2 y) :
    Gr F H (upd F T (.tup [x, y])) (upd H T (.tup [x, y])) ∧ Rep K (upd F T (.tup [x, y])) (.tup [d1, d2]) (.ref T) := by
  have g : Gr F H (upd F T (.tup [x, y])) (upd H T (.tup [x, y])) := Gr.new e hn
  exact ⟨g, T, [x, y], rfl, upd_same, x, [y], rfl, Rep.mono g.ff r1, y, [], rfl, Rep.mono g.ff r2, rfl⟩
def enumD (ds : List D) : List D := ds.mapIdx fun i d => .tup [.int (i : Nat), d]
theorem pid_enum {elts : List Expr} {kk : Nat} {tpos : Pos} {ds : List D} (hg : Gl X "enumerate") (hm : X.mg "enumerate" = none) (ha : PE X a (tD X.K δ μ d)) (hq : seqL d = some ds)
    (hs : starEach [a] X.env = [(false, eval a X.env)] := by rfl) : PI X (.Tuple elts kk tpos) (.Call (.Name "enumerate" p) [a] [] pos) (tI X.K δ μ (enumD ds)) :=
  PI.mono (pi_enum hg hm (pas_cons ha pas_nil hs) hs) fun σ H R ⟨F, S, k⟩ => ⟨F, S, fun vs F1 H1 g r => by
    obtain ⟨v, t, e1, r1, e2⟩ := r
    have e3 : t = [] := e2
    subst e3; subst e1
    obtain ⟨q, us, e4, rv, hl⟩ := rep_list r1 hq
    subst e4
    refine ⟨q, us, rfl, g.fh.sql hl, k _ F1 H1 g ⟨_, _, by unfold enumD; rw [List.length_mapIdx, ← rv.length]; exact walk_enum (K := X.K) (a := q) (xs := us), fun F' H' e5 e6 => e6.sql (e5.sql hl), fun i H x H' hi y F' e5 e6 => ?_⟩⟩
    obtain ⟨T, x1, y1, rfl, hn, rfl, h1, h2⟩ := y
    obtain ⟨dd, q1, q2⟩ := rv.back h2
    have e7 : V.int (i : Nat) = x1 := Option.some.inj h1
    subst e7
    obtain ⟨g2, r2⟩ := rep_pair (d1 := .int (i : Nat)) e6 hn rfl (Rep.mono e5 q2)
    exact ⟨_, .tup [.int (i : Nat), dd], by unfold enumD; rw [List.getElem?_mapIdx, q1]; rfl, g2, r2⟩⟩
def zipD (ds es : List D) : List D := (ds.zip es).map fun q => .tup [q.1, q.2]
theorem zipD_get {ds es : List D} {i : Nat} {x y : D} (h1 : ds[i]? = some x) (h2 : es[i]? = some y) : (zipD ds es)[i]? = some (.tup [x, y]) := by
  unfold zipD
  rw [List.getElem?_map, List.getElem?_zip_eq_some (z := (x, y)) |>.mpr ⟨h1, h2⟩]
  rfl
theorem zipD_length (ds es : List D) : (zipD ds es).length = min ds.length es.length := by
  unfold zipD
  rw [List.length_map, List.length_zip]
theorem zipD_back {ds es : List D} {i : Nat} {z : D} (h : (zipD ds es)[i]? = some z) : ∃ x y, ds[i]? = some x ∧ es[i]? = some y ∧ z = .tup [x, y] := by
  unfold zipD at h
  rw [List.getElem?_map] at h
  cases q : (ds.zip es)[i]? with
  | none => rw [q] at h; cases h
  | some w =>
    rw [q] at h
    obtain ⟨h1, h2⟩ := List.getElem?_zip_eq_some.mp q
    exact ⟨w.1, w.2, h1, h2, (Option.some.inj h).symm⟩
theorem pid_zip {elts : List Expr} {kk : Nat} {tpos : Pos} {d2 : D} {ds es : List D} (hg : Gl X "zip") (hm : X.mg "zip" = none) (ha : PE X a (tD X.K δ μ d)) (hb : PE X b (tD X.K δ μ d2)) (hq : seqL d = some ds) (hq2 : seqL d2 = some es)
    (hs : starEach [a, b] X.env = (false, eval a X.env) :: starEach [b] X.env := by rfl) (hs2 : starEach [b] X.env = (false, eval b X.env) :: starEach [] X.env := by rfl) (hpl : (backTo pos (starEach [b] X.env)).any (·.1) = false := by rfl) :
    PI X (.Tuple elts kk tpos) (.Call (.Name "zip" p) [a, b] [] pos) (tI X.K δ μ (zipD ds es)) :=
  PI.mono (pi_zip hg hm (pas_cons ha (pas_cons hb pas_nil hs2) hs) hs hpl) fun σ H R ⟨F, S, k⟩ => ⟨F, S, fun vs F1 H1 g r => by
    obtain ⟨v, t, e1, r1, v2, t2, e2, r2, e3⟩ := r
    have e5 : t2 = [] := e3
    subst e5; subst e2; subst e1
    obtain ⟨q, us, e4, rv, hl⟩ := rep_list r1 hq
    obtain ⟨q2, us2, e4', rv2, hl2⟩ := rep_list r2 hq2
    subst e4; subst e4'
    refine ⟨q, q2, us, us2, rfl, g.fh.sql hl, g.fh.sql hl2, k _ F1 H1 g ⟨_, _, walk_zip (K := X.K) (a := q) (b := q2) (xs := us) (ys := us2) (by rw [zipD_length, rv.length, rv2.length]), fun F' H' e5 e6 => ⟨e6.sql (e5.sql hl), e6.sql (e5.sql hl2)⟩, fun i H x H' hi y F' e5 e6 => ?_⟩⟩
    obtain ⟨T, x1, y1, rfl, hn, rfl, h1, h2⟩ := y
    obtain ⟨dd, q1, q2⟩ := rv.back h1
    obtain ⟨dd2, q3, q4⟩ := rv2.back h2
    obtain ⟨g2, r3⟩ := rep_pair e6 hn (Rep.mono e5 q2) (Rep.mono e5 q4)
    exact ⟨_, _, zipD_get q1 q3, g2, r3⟩⟩
theorem pid_rev {ds : List D} (hg : Gl X "reversed") (hm : X.mg "reversed" = none) (ha : PE X a (tD X.K δ μ d)) (hq : seqL d = some ds)
    (hs : starEach [a] X.env = [(false, eval a X.env)] := by rfl) : PI X tgt (.Call (.Name "reversed" p) [a] [] pos) (tI X.K δ μ ds.reverse) :=
  PI.mono (pi_reversed hg hm (pas_cons ha pas_nil hs) hs) fun σ H R ⟨F, S, k⟩ => ⟨F, S, fun vs F1 H1 g r => by
    obtain ⟨v, t, e1, r1, e2⟩ := r
    have e3 : t = [] := e2
    subst e3; subst e1
    obtain ⟨q, us, e4, rv, hl⟩ := rep_list r1 hq
    subst e4
    refine ⟨q, us, rfl, g.fh.sql hl, k _ F1 H1 g ⟨_, _, by rw [List.length_reverse, ← rv.length]; exact walk_rev (K := X.K) (a := q) (xs := us), fun F' H' e5 e6 => e6.sql (e5.sql hl), fun i H x H' hi y F' e5 e6 => ?_⟩⟩
    obtain ⟨rfl, h1⟩ := y
    obtain ⟨dd, q1, q2⟩ := rv.back h1
    rw [List.length_reverse] at hi
    exact ⟨F', dd, by rw [List.getElem?_reverse hi, ← rv.length]; exact q1, Gr.refl e6, Rep.mono e5 q2⟩⟩

/-! comprehensions -/
theorem tyes {σ : St} {H : Hp} {Q : Bool → Hp → Prop} (h : Q true H) : tYes σ H Q := h
theorem pn_lc {elt iter : Expr} {scope : Scope} {own : List (Str × Nat)} {ds : List D} (T : D → De) (f : D → D) (hc : X.calm = true) (hN : X.N.Nodup) (hi : PI X tgt iter (tI X.K δ μ ds)) (ok : BlkOk X.N X.env.scope scope own)
    (hg : ∀ x, x ∈ ds → ∀ (s : Shared) (H : Hp) (C : Addr) (cl : List (Str × Addr)) (fp : List Addr), PG (X.blk s H scope (compEnvC scope cl C X.env) fp) tgt (tG X.K (own.map (·.2)) (wipeD δ (own.map (·.2))) μ x (T x)))
    (he : ∀ x, x ∈ ds → ∀ (s : Shared) (H : Hp) (C : Addr) (cl : List (Str × Addr)) (fp : List Addr), PE (X.blk s H scope (compEnvC scope cl C X.env) fp) elt (tD X.K (T x) μ (f x)))
    (hl : ds.length ≤ 10000) (hs : ∀ x, foldedSetIterable iter X.env x = pure x := by intro _; rfl) : PE X (.ListComp elt [⟨tgt, iter, [], 0⟩] scope pos) (tN X.K δ μ (ds.map f)) := by
  let ι := { x : D // x ∈ ds }
  let g : TG := fun v σ H Q => ∃ q : ι, tG X.K (own.map (·.2)) (wipeD δ (own.map (·.2))) μ q.1 (T q.1) v σ H Q
  let te : TE := fun σ H Q => ∃ q : ι, tD X.K (T q.1) μ (f q.1) σ H Q
  refine PE.mono (pe_lc (g := g) (tt := tYes) (te := te) hc hN hi ok (fun s H C cl fp => PG.union fun q => hg q.1 q.2 s H C cl fp) (fun _ _ _ _ _ => pts_nil) (fun s H C cl fp => PE.union fun q => he q.1 q.2 s H C cl fp) hs) fun σ H Q ⟨F, S, k⟩ => ⟨F, S, fun J F1 H1 g1 dw => fun L hL => ?_⟩
  obtain ⟨Gw, Y, hw, hGw, hY⟩ := dw.ex
  have S1 := S.mono g1
  refine lc_it (g := g) (tt := tYes) (te := te) (σ := σ) (Qd := fun H => Q (.ref L) H) hw (fun i H2 => ∃ F2 acc, Gr F1 H1 F2 H2 ∧ F2 L = none ∧ H2 L = some (.lst acc) ∧ RepL X.K F2 ((ds.take i).map f) acc) ⟨F1, [], Gr.newH g1.fh hL, g1.fh.none hL, upd_same, rfl⟩ (fun i H2 _ ⟨F2, acc, g2, _⟩ => hGw F2 H2 g2.ff g2.fh) ?_ ?_
  · rintro i x H2 H3 hi2 ⟨F2, acc, g2, fl, hl2, ra⟩ y
    obtain ⟨F3, dd, hd, g3, r3⟩ := hY i H2 x H3 hi2 y F2 g2.ff g2.fh
    have hm : dd ∈ ds := List.mem_of_getElem? hd
    have S3 : SE X.K δ μ σ F3 H3 := S1.mono (g2.trans g3)
    refine ⟨⟨dd, hm⟩, F3, ⟨S3.fh, S3.env.wiped _, S3.mem⟩, r3, fun σ4 en wq => ⟨wq.trans (by
      have : ∀ (js : List Nat) (τ : St), wipe (wipe τ js) js = wipe τ js := by
        intro js
        induction js with
        | nil => intro τ; rfl
        | cons j js ih =>
          intro τ
          have key : ∀ (ks : List Nat) (ρ : St), (wipe (ρ.set j none) ks).set j none = (wipe ρ ks).set j none := by
            intro ks
            induction ks with
            | nil => intro ρ; exact List.set_set _ ..
            | cons k ks ih2 =>
              intro ρ
              show ((wipe (ρ.set j none) ks).set k none).set j none = ((wipe ρ ks).set k none).set j none
              by_cases q : k = j
              · subst q; rw [ih2 ρ]
              · rw [List.set_comm _ _ q, List.set_comm _ _ q, ih2 ρ]
          show (wipe ((wipe τ js).set j none) js).set j none = (wipe τ js).set j none
          rw [key js (wipe τ js), ih τ]
      exact this _ σ), ?_⟩⟩
    refine tyes ?_
    rw [if_pos rfl]
    refine ⟨⟨dd, hm⟩, F3, ⟨S3.fh, en, S3.mem⟩, fun v F4 H4 g4 r4 => ?_⟩
    have g5 := (g2.trans g3).trans g4
    have l4 : H4 L = some (.lst acc) := (g3.trans g4).hh _ _ hl2
    have fl4 : F4 L = none := (g3.trans g4).nf _ _ hl2 fl
    refine ⟨acc, l4, ?_, F4, acc ++ [v], ⟨g5.ff, fun b u q => ?_, fun b u q => ?_, g5.nf⟩, fl4, upd_same, ?_⟩
    · rw [ra.length, List.length_map, List.length_take]
      exact Nat.lt_of_lt_of_le (show min i ds.length < 10001 by omega) (by decide)
    · rw [upd_ne (ne_of_none q fl4)]; exact g5.fh _ _ q
    · rw [upd_ne (ne_of_none q hL)]; exact g5.hh _ _ q
    · have e : (ds.take (i + 1)).map f = (ds.take i).map f ++ [f dd] := by
        rw [List.take_add_one, hd, List.map_append]; rfl
      rw [e]
      exact (RepL.mono (g3.trans g4).ff ra).append (RepL.one r4)
  · rintro H2 ⟨F2, acc, g2, fl, hl2, ra⟩
    rw [List.take_length] at ra
    exact k L acc F2 H2 (g1.trans g2) (g1.hh.none hL) fl hl2 ra
/-- with a test -/
theorem pn_lcIf {elt iter ct : Expr} {scope : Scope} {own : List (Str × Nat)} {ds : List D} (T : D → De) (f : D → D) (q : D → Bool) (hc : X.calm = true) (hN : X.N.Nodup) (hi : PI X tgt iter (tI X.K δ μ ds)) (ok : BlkOk X.N X.env.scope scope own)
    (hg : ∀ x, x ∈ ds → ∀ (s : Shared) (H : Hp) (C : Addr) (cl : List (Str × Addr)) (fp : List Addr), PG (X.blk s H scope (compEnvC scope cl C X.env) fp) tgt (tG X.K (own.map (·.2)) (wipeD δ (own.map (·.2))) μ x (T x)))
    (ht : ∀ x, x ∈ ds → ∀ (s : Shared) (H : Hp) (C : Addr) (cl : List (Str × Addr)) (fp : List Addr), PT (X.blk s H scope (compEnvC scope cl C X.env) fp) ct (tP X.K (T x) μ (q x = true)))
    (he : ∀ x, x ∈ ds → q x = true → ∀ (s : Shared) (H : Hp) (C : Addr) (cl : List (Str × Addr)) (fp : List Addr), PE (X.blk s H scope (compEnvC scope cl C X.env) fp) elt (tD X.K (T x) μ (f x)))
    (hl : ds.length ≤ 10000) (hs : ∀ x, foldedSetIterable iter X.env x = pure x := by intro _; rfl) : PE X (.ListComp elt [⟨tgt, iter, [ct], 0⟩] scope pos) (tN X.K δ μ ((ds.filter q).map f)) := by
  let ι := { x : D // x ∈ ds }
  let ι2 := { x : D // x ∈ ds ∧ q x = true }
  let g : TG := fun v σ H Q => ∃ q : ι, tG X.K (own.map (·.2)) (wipeD δ (own.map (·.2))) μ q.1 (T q.1) v σ H Q
  let tt : TT := fun σ H Q => ∃ z : ι, tP X.K (T z.1) μ (q z.1 = true) σ H Q
  let te : TE := fun σ H Q => ∃ q : ι2, tD X.K (T q.1) μ (f q.1) σ H Q
  refine PE.mono (pe_lc (g := g) (tt := tt) (te := te) hc hN hi ok (fun s H C cl fp => PG.union fun q => hg q.1 q.2 s H C cl fp) (fun s H C cl fp => pts_one (PT.union fun q => ht q.1 q.2 s H C cl fp)) (fun s H C cl fp => PE.union fun q => he q.1 q.2.1 q.2.2 s H C cl fp) hs) fun σ H Q ⟨F, S, k⟩ => ⟨F, S, fun J F1 H1 g1 dw => fun L hL => ?_⟩
  obtain ⟨Gw, Y, hw, hGw, hY⟩ := dw.ex
  have S1 := S.mono g1
  refine lc_it (g := g) (tt := tt) (te := te) (σ := σ) (Qd := fun H => Q (.ref L) H) hw (fun i H2 => ∃ F2 acc, Gr F1 H1 F2 H2 ∧ F2 L = none ∧ H2 L = some (.lst acc) ∧ RepL X.K F2 (((ds.take i).filter q).map f) acc) ⟨F1, [], Gr.newH g1.fh hL, g1.fh.none hL, upd_same, rfl⟩ (fun i H2 _ ⟨F2, acc, g2, _⟩ => hGw F2 H2 g2.ff g2.fh) ?_ ?_
  · rintro i x H2 H3 hi2 ⟨F2, acc, g2, fl, hl2, ra⟩ y
    obtain ⟨F3, dd, hd, g3, r3⟩ := hY i H2 x H3 hi2 y F2 g2.ff g2.fh
    have hm : dd ∈ ds := List.mem_of_getElem? hd
    have S3 : SE X.K δ μ σ F3 H3 := S1.mono (g2.trans g3)
    have ww : ∀ (js : List Nat) (τ : St), wipe (wipe τ js) js = wipe τ js := by
      intro js
      induction js with
      | nil => intro τ; rfl
      | cons j js ih =>
        intro τ
        have key : ∀ (ks : List Nat) (ρ : St), (wipe (ρ.set j none) ks).set j none = (wipe ρ ks).set j none := by
          intro ks
          induction ks with
          | nil => intro ρ; exact List.set_set _ ..
          | cons k ks ih2 =>
            intro ρ
            show ((wipe (ρ.set j none) ks).set k none).set j none = ((wipe ρ ks).set k none).set j none
            by_cases q : k = j
            · subst q; rw [ih2 ρ]
            · rw [List.set_comm _ _ q, List.set_comm _ _ q, ih2 ρ]
        show (wipe ((wipe τ js).set j none) js).set j none = (wipe τ js).set j none
        rw [key js (wipe τ js), ih τ]
    refine ⟨⟨dd, hm⟩, F3, ⟨S3.fh, S3.env.wiped _, S3.mem⟩, r3, fun σ4 en wq => ⟨wq.trans (ww _ σ), ⟨dd, hm⟩, F3, ⟨S3.fh, en, S3.mem⟩, fun bb F3' H3' g3' rb => ?_⟩⟩
    have g23 := (g2.trans g3).trans g3'
    have l3 : H3' L = some (.lst acc) := (g3.trans g3').hh _ _ hl2
    have fl3 : F3' L = none := (g3.trans g3').nf _ _ hl2 fl
    have tk : ds.take (i + 1) = ds.take i ++ [dd] := by rw [List.take_add_one, hd]; rfl
    cases bb with
    | true =>
      have hq : q dd = true := rb.mp rfl
      refine iteT ⟨⟨dd, hm, hq⟩, F3', ⟨g23.fh, EnvR.mono g3'.ff en, (S3.mono g3').mem⟩, fun v F4 H4 g4 r4 => ?_⟩
      have g5 := g23.trans g4
      have l4 : H4 L = some (.lst acc) := g4.hh _ _ l3
      have fl4 : F4 L = none := g4.nf _ _ l3 fl3
      refine ⟨acc, l4, ?_, F4, acc ++ [v], ⟨g5.ff, fun b u q => ?_, fun b u q => ?_, g5.nf⟩, fl4, upd_same, ?_⟩
      · rw [ra.length, List.length_map]
        have h1 := List.length_filter_le q (ds.take i)
        rw [List.length_take] at h1
        exact Nat.lt_of_lt_of_le (show ((ds.take i).filter q).length < 10001 by omega) (by decide)
      · rw [upd_ne (ne_of_none q fl4)]; exact g5.fh _ _ q
      · rw [upd_ne (ne_of_none q hL)]; exact g5.hh _ _ q
      · have e : ((ds.take (i + 1)).filter q).map f = ((ds.take i).filter q).map f ++ [f dd] := by
          rw [tk, List.filter_append, List.map_append, List.filter_cons, if_pos hq]; rfl
        rw [e]
        exact (RepL.mono ((g3.trans g3').trans g4).ff ra).append (RepL.one r4)
    | false =>
      have hq : ¬ q dd = true := fun z => by have := rb.mpr z; cases this
      refine iteF ⟨F3', acc, g23, fl3, l3, ?_⟩
      have e : ((ds.take (i + 1)).filter q).map f = ((ds.take i).filter q).map f := by
        rw [tk, List.filter_append, List.map_append, List.filter_cons, if_neg hq]; simp
      rw [e]
      exact RepL.mono (g3.trans g3').ff ra
  · rintro H2 ⟨F2, acc, g2, fl, hl2, ra⟩
    rw [List.take_length] at ra
    exact k L acc F2 H2 (g1.trans g2) (g1.hh.none hL) fl hl2 ra
/-- y = [..] -/
theorem psd_setLc (i : Nat) {y : Str} {py spos : Pos} {elt iter : Expr} {ifs : List Expr} {scope : Scope} {ds : List D} (h : PS X (.Assign [.Name y py] (.ListComp elt [⟨tgt, iter, ifs, 0⟩] scope pos) spos) (tAsg (tN X.K δ μ ds) (gName i))) :
    PS X (.Assign [.Name y py] (.ListComp elt [⟨tgt, iter, ifs, 0⟩] scope pos) spos) (tS X.K E δ μ (.nx (δ.set i (some (.lst ds))) μ)) :=
  PS.mono h fun Dn σ H ⟨F0, H0, F, s, k⟩ => ⟨F, s.se, fun l vs F' H' g h0 hn hl r => by
    have e1 : Ex F' (upd F' l (.lst vs)) := Ex.new hn
    have g2 : Gr F H (upd F' l (.lst vs)) H' := ⟨g.ff.trans e1, fun a u q => by
      by_cases z : a = l
      · subst z; rw [upd_same] at q; cases q; exact hl
      · rw [upd_ne z] at q; exact g.fh a u q, g.hh, fun b u q n => by rw [upd_ne (ne_of_none q h0)]; exact g.nf b u q n⟩
    have s2 := s.up g2
    exact k _ _ H' ⟨⟨s2.se.fh, EnvR.set (d := .lst ds) s2.se.env ⟨l, vs, rfl, upd_same, RepL.mono e1 r⟩, s2.se.mem⟩, s2.gr, s2.fr⟩⟩

/-! while -/
theorem psd_while {δf : De} (I : De → Nat → Prop) (c' : De → Prop) {m0 : Nat} (hp : PassesOwn (model X.prog X.w) X.A X.env X.xe) (h0 : I δ m0)
    (hc : ∀ δ m, I δ m → PT X c (tP X.K δ μ (c' δ)))
    (hb : ∀ δ m, I δ m → c' δ → ∃ δ' m', m' < m ∧ I δ' m' ∧ PSs X body (tS X.K E δ μ (.nx δ' μ)))
    (hf : ∀ δ m, I δ m → ¬ c' δ → δ = δf) : PS X (.While c body [] pos) (tS X.K E δ μ (.nx δf μ)) := by
  let ι := { q : De × Nat // I q.1 q.2 }
  let ι2 := { q : De × Nat // I q.1 q.2 ∧ c' q.1 }
  let tc : TT := fun σ H Q => ∃ q : ι, tP X.K q.1.1 μ (c' q.1.1) σ H Q
  let tb : TS := fun Dn σ H => ∃ q : ι2, ∃ δ' m', m' < q.1.2 ∧ I δ' m' ∧ tS X.K E q.1.1 μ (.nx δ' μ) Dn σ H ∧ PSs X body (tS X.K E q.1.1 μ (.nx δ' μ))
  have hC : PT X c tc := PT.union fun q => hc q.1.1 q.1.2 q.2
  have hB : PSs X body tb := ⟨fun pins s σ H Dn J ⟨q, δ', m', _, _, w, h⟩ => h.run pins s σ H Dn J w⟩
  refine PS.mono (ps_while hp hC hB) fun Dn σ H ⟨F0, H0, F, s, k⟩ => ?_
  refine ⟨fun m σ H => ∃ δ1 F1, I δ1 m ∧ SR X.K F0 H0 δ1 μ σ F1 H, ⟨m0, δ, F, h0, s⟩, ?_⟩
  rintro m σ1 H1 ⟨δ1, F1, i1, s1⟩
  refine ⟨⟨(δ1, m), i1⟩, F1, s1.se, fun bb F2 H2 g r => ?_⟩
  have s2 := s1.up g
  cases bb with
  | true =>
    have hcc := r.mp rfl
    obtain ⟨δ2, m2, lt, i2, hbody⟩ := hb δ1 m i1 hcc
    refine iteT ⟨fun σ H => ∃ F1, SR X.K F0 H0 δ2 μ σ F1 H, fun σ' H' ⟨F3, s3⟩ => ⟨m2, lt, δ2, F3, i2, s3⟩, ⟨(δ1, m), i1, hcc⟩, δ2, m2, lt, i2, ⟨F0, H0, F2, s2, fun σ3 F3 H3 s3 => ⟨F3, s3⟩⟩, hbody⟩
  | false =>
    have hcc : ¬ c' δ1 := fun z => by have := r.mpr z; cases this
    have e := hf δ1 m i1 hcc
    subst e
    exact iteF (k σ1 F2 H2 s2)
end

/-! a def's body -/
def ocOf : Except Value D → Oc
  | .ok d => .rt d
  | .error c => .ex c
theorem start_env {K : PySem.W.Frag} {F : Hp} {ds : List D} {vs : List V} (N : List Str) (r : RepL K F ds vs) (hN : ds.length ≤ N.length) : EnvR K F (L2.start N vs) (ds.map some ++ List.replicate (N.length - ds.length) none) := by
  refine ⟨?_, fun i d q => ?_⟩
  · unfold L2.start
    rw [List.length_append, List.length_append, List.length_map, List.length_map, List.length_replicate, List.length_replicate, r.length]
  · unfold L2.start
    by_cases hi : i < ds.length
    · rw [List.getElem?_append_left (by rw [List.length_map]; exact hi), List.getElem?_map] at q
      cases z : ds[i]? with
      | none => rw [z] at q; cases q
      | some x =>
        rw [z] at q
        have e : x = d := Option.some.inj (Option.some.inj q)
        subst e
        obtain ⟨v, h1, h2⟩ := r.get z
        exact ⟨v, by rw [List.getElem?_append_left (by rw [List.length_map, r.length]; exact hi), List.getElem?_map, h1]; rfl, h2⟩
    · rw [List.getElem?_append_right (by rw [List.length_map]; omega), List.getElem?_replicate] at q
      split at q <;> cases q
section
variable {P : Program} {w : World} {K : PySem.W.Frag} {mg : Str → Option Value} {base : Heap}
abbrev cxD (P : Program) (w : World) (K : PySem.W.Frag) (mg : Str → Option Value) (base : Heap) (N : List Str) (qual : Str) (st : Stmt) (f : Addr) (cdv : Value) (A : Around) (outer : List Env) (s : Shared) (H : Hp) (E : XK) : Cx :=
  cxOf (L2.CX P w) P w K mg base N qual (defScope st) f cdv A outer s H E
theorem def_ok {x qual : Str} {st : Stmt} {f : Addr} {fd : FuncData} {N ps : List Str} {k : Nat} {R : List D → Except Value D → Prop} (F : Fun K x qual st f fd) (S : FnScope N ps (defScope st)) (hl : ∀ ds r, R ds r → ds.length = ps.length) (hN : ps.length ≤ N.length)
    (body : ∀ (cdv : Value) (A : Around) (outer : List Env) (s : Shared) (H : Hp) (E : XK) (ds : List D) (r : Except Value D), Room k (A.deeper (PyProof.Rows.envOfC qual (defScope st) s.heap.objs.size f cdv)) → R ds r →
      PSs (cxD P w K mg base N qual st f cdv A outer s H E) (defBody st) (tS K E (ds.map some ++ List.replicate (N.length - ds.length) none) [] (ocOf r))) :
    FnOk P w K mg base (L2.CX P w) (k + 1) f fd ps (spD K R) := by
  refine F.okX S (fun vs H Q E h => ?_) (fun cdv A outer s H vs Q E hr h => ?_)
  · obtain ⟨G, ds, r, _, rv, hR, _⟩ := h
    rw [rv.length]; exact hl ds r hR
  · obtain ⟨G, ds, r, e, rv, hR, k⟩ := h
    refine ⟨_, body cdv A outer s H E ds r hr hR, ?_⟩
    have hd : ds.length ≤ N.length := by rw [hl ds r hR]; exact hN
    refine ⟨G, H, G, ⟨⟨e, start_env N rv hd, .nil⟩, Gr.refl e, fun m hm => absurd hm (by simp)⟩, ?_⟩
    cases r with
    | ok d => exact fun v F' H' g r' => k v F' H' g r'
    | error c => exact fun F' H' g => k F' H' g
end
end Bl
namespace Bl
open PySem L2
/-! try: one call .. except X as n: a suite that raises nothing -/
/-- what raises, the wish at the slots -/
def tXs (K : PySem.W.Frag) (W : WX) (δ : De) (μ : Me) (c : Value) : TE := fun σ H _ => ∃ F, SE K δ μ σ F H ∧ ∀ F' H', Gr F H F' H' → W c none σ H'
section
variable {X : Cx} {δ δ2 : De} {μ : Me} {a b e o : Expr} {es : List Expr} {pos p apos : Pos} {x m n : Str} {k j : Nat} {ps ns : List Str} {R : List D → Except Value D → Prop} {ds : List D} {d : D} {C : Addr} {cv : Value} {E : XK}
theorem pxs_call {W : WX} (c : Cal X.prog X.w X.K X.mg X.base x k ps R) (tk : Takes X W) (hr : Room j X.A) (hk : k ≤ j) (hg : Gl X x) (ha : PA X (e :: es) (tAs X.K δ μ ds)) (hR : R ds (.error cv))
    (hdb : (x == ("__debug__" : Str)) = false := by decide) (he : starEach (e :: es) X.env = (false, eval e X.env) :: starEach es X.env := by rfl) (hpl : (backTo pos (starEach es X.env)).any (·.1) = false := by rfl) :
    PE X (.Call (.Name x p) (e :: es) [] pos) (tXs X.K W δ μ cv) := by
  obtain ⟨f, fd, F, hm, hkp, hb⟩ := c.ex
  refine PE.mono (pe_callS F (hr.mono hk) hg hm hkp hb (fun σ => passAt tk σ) ha hdb he hpl) fun σ H Q ⟨F, S, w⟩ => ⟨F, S, fun vs F1 H1 g r => ?_⟩
  exact ⟨F1, ds, .error cv, g.fh, r, hR, fun F2 H2 g2 => w F2 H2 (g.trans g2)⟩
/-- making an instance, where what is raised is wished for at the slots -/
theorem make_slots {f : Addr} {fd : FuncData} {sp : Sp} {t : TA} {W : WX} (M : Mk X.K C f) (F : FnOk X.prog X.w X.K X.mg X.base (L2.CX X.prog X.w) k f fd ps sp) (hr : Room (k + 1) X.A) (hg : Gl X x) (hm : X.mg x = some (.ref C)) (hb : Binds X.K fd ps [])
    (tk : Takes X W) (ha : PA X (e :: es) t) (hdb : (x == ("__debug__" : Str)) = false) (he : starEach (e :: es) X.env = (false, eval e X.env) :: starEach es X.env) (hpl : (backTo pos (starEach es X.env)).any (·.1) = false) :
    PE X (.Call (.Name x p) (e :: es) [] pos) (fun σ H Q => t σ H fun vs H1 => ∀ y dx, H1 y = none → H1 dx = none → dx ≠ y →
      sp (.ref y :: vs) (upd (upd H1 dx (.own y)) y (.ins C dx [])) (fun v H2 => v = .non ∧ Q (.ref y) H2) (fun cls dd H2 => W cls dd σ H2)) := by
  constructor
  intro pins s σ H Q I h
  refine wpAny_Call_Name_kw (ld_glob I hg hm (PySem.W.callWith_K (h₀ := X.base) I.ok.mod.kin M.kp (thn (ha.run pos pins s σ H _ I h) ?_) he hpl) hdb)
  rintro us s1 ⟨vs, H1, I1, r, q⟩
  refine ⟨I1.kIn, ?_⟩
  have fr1 : H1 (s1.heap.objs.size + 1) = none := I1.hok.fresh (Nat.le_succ _)
  have fr0 : H1 s1.heap.objs.size = none := I1.hok.fresh (Nat.le_refl _)
  have prom := q (s1.heap.objs.size + 1) s1.heap.objs.size fr1 fr0 (Nat.ne_of_lt (Nat.lt_succ_self _))
  have I3 := Inv.made (C := C) I1
  have rel : Vals (V.ref (s1.heap.objs.size + 1) :: vs) (Value.ref (s1.heap.objs.size + 1) :: us) := .cons rfl r
  have ln : (Value.ref (s1.heap.objs.size + 1) :: us).length = ps.length := rel.length.symm.trans (F.len _ _ _ _ prom)
  have bd := hb _ (Value.ref (s1.heap.objs.size + 1) :: us) I3.kIn (by rw [List.append_nil]; exact ln)
  rw [List.append_nil] at bd
  refine wpAny_call (make_map (f := f) I1.kIn M.makes M.init (beq_iff_eq.mp M.fn) (codeAny_mono (F.run _ X.stack _ _ ⟨_, []⟩ _ _ _ _ (hr.make C us []) (I3.env0.make C us []) bd rel prom) ?_))
  intro res s4 out
  cases res with
  | error err => exact tk err s4 (XE.of_call I3 (fun _ _ _ z => z) out)
  | ok fl =>
    cases fl with
    | ret u =>
      obtain ⟨v, H4, I4, rv, ev, q4⟩ := I3.after out
      subst ev
      exact ⟨rv, .ref (s1.heap.objs.size + 1), H4, I4, rfl, q4⟩
    | next => exact False.elim out
    | brk => exact False.elim out
    | cont => exact False.elim out
theorem pxs_make {W : WX} {R : List D → Except Value (List D) → Prop} (c : CalI X.prog X.w X.K X.mg X.base C x k ps ns R) (tk : Takes X W) (hr : Room j X.A) (hk : k + 1 ≤ j) (hg : Gl X x) (ha : PA X (e :: es) (tAs X.K δ μ ds)) (hR : R ds (.error cv))
    (hdb : (x == ("__debug__" : Str)) = false := by decide) (he : starEach (e :: es) X.env = (false, eval e X.env) :: starEach es X.env := by rfl) (hpl : (backTo pos (starEach es X.env)).any (·.1) = false := by rfl) :
    PE X (.Call (.Name x p) (e :: es) [] pos) (tXs X.K W δ μ cv) := by
  obtain ⟨f, fd, F, M, hb⟩ := c.ex
  refine PE.mono (make_slots M F (hr.mono hk) hg c.mg_ hb tk ha hdb he hpl) fun σ H Q ⟨F, S, w⟩ => ⟨F, S, fun vs F1 H1 g r y dx h1 h2 h3 => ?_⟩
  exact ⟨y, dx, vs, H1, F1, ds, .error cv, rfl, h1, h2, h3, rfl, g.fh, r, hR, fun F2 H2 g2 => w F2 H2 (g.trans g2)⟩
theorem pd_isE {D : Addr} {oe : Obj} {pn : List (Addr × Obj)} {ae : Addr} {c : V} {r : Bool} (CE : ExcC X.K D) (hz : Zc (.ref D) none oe) (hf : ∃ vs, oe.data = .fields vs) (hg : Gl (X.suite ae ((ae, oe) :: pn)) "isinstance") (hm : X.mg "isinstance" = none)
    (ha : PE (X.suite ae ((ae, oe) :: pn)) a (tD X.K δ μ (.mref ae))) (hb : PE (X.suite ae ((ae, oe) :: pn)) b (tC c)) (hcv : ∀ u, RelV c u → u = cv) (hk : PySem.W.kitOne X.K (.ref D) cv = some r)
    (hst : starEach [a, b] X.env = (false, eval a X.env) :: starEach [b] X.env := by rfl) (hst2 : starEach [b] X.env = (false, eval b X.env) :: starEach [] X.env := by rfl) (hpl : (backTo pos (starEach [b] X.env)).any (·.1) = false := by rfl) :
    PE (X.suite ae ((ae, oe) :: pn)) (.Call (.Name "isinstance" p) [a, b] [] pos) (tD X.K δ μ (.bl r)) :=
  PE.mono (pe_callB (X := X.suite ae ((ae, oe) :: pn)) (call_isE CE hz hf) hg hm boot_isinst (pa_cons ha (pa_cons hb pa_nil hst2) hst) (by decide +kernel) (by decide +kernel) hst hpl) fun σ H Q ⟨F, S, k⟩ => ⟨F, S, fun v F1 H1 g r1 =>
    ⟨c, cv, r, by rw [show v = .ref ae from r1], hcv, hk, k _ F1 H1 g rfl⟩⟩
theorem pd_isEo {D C' : Addr} {oe : Obj} {pn : List (Addr × Obj)} {ae : Addr} {y : Str} {py : Pos} {r : Bool} (CE : ExcC X.K D) (hz : Zc (.ref D) none oe) (hf : ∃ vs, oe.data = .fields vs) (hg : Gl (X.suite ae ((ae, oe) :: pn)) "isinstance") (hm : X.mg "isinstance" = none)
    (ha : PE (X.suite ae ((ae, oe) :: pn)) a (tD X.K δ μ (.mref ae))) (hgy : Gl (X.suite ae ((ae, oe) :: pn)) y) (hdy : (y == ("__debug__" : Str)) = false) (hmy : X.mg y = some (.ref C')) (hk : PySem.W.kitOne X.K (.ref D) (.ref C') = some r)
    (hst : starEach [a, .Name y py] X.env = (false, eval a X.env) :: starEach [.Name y py] X.env) (hst2 : starEach [.Name y py] X.env = (false, eval (.Name y py) X.env) :: starEach [] X.env) (hpl : (backTo pos (starEach [.Name y py] X.env)).any (·.1) = false) :
    PE (X.suite ae ((ae, oe) :: pn)) (.Call (.Name "isinstance" p) [a, .Name y py] [] pos) (tD X.K δ μ (.bl r)) :=
  pd_isE CE hz hf hg hm ha (pe_glob (v := .ref C') hgy hmy rfl hdy) (fun _ z => z) hk hst hst2 hpl
theorem pd_isEv {D : Addr} {oe : Obj} {pn : List (Addr × Obj)} {ae : Addr} {py : Pos} {r : Bool} (CE : ExcC X.K D) (hz : Zc (.ref D) none oe) (hf : ∃ vs, oe.data = .fields vs) (hg : Gl (X.suite ae ((ae, oe) :: pn)) "isinstance") (hm : X.mg "isinstance" = none)
    (ha : PE (X.suite ae ((ae, oe) :: pn)) a (tD X.K δ μ (.mref ae))) (hgy : Gl (X.suite ae ((ae, oe) :: pn)) "ValueError") (hmy : X.mg "ValueError" = none) (hk : PySem.W.kitOne X.K (.ref D) (.type "ValueError") = some r)
    (hst : starEach [a, .Name "ValueError" py] X.env = (false, eval a X.env) :: starEach [.Name "ValueError" py] X.env) (hst2 : starEach [.Name "ValueError" py] X.env = (false, eval (.Name "ValueError" py) X.env) :: starEach [] X.env) (hpl : (backTo pos (starEach [.Name "ValueError" py] X.env)).any (·.1) = false) :
    PE (X.suite ae ((ae, oe) :: pn)) (.Call (.Name "isinstance" p) [a, .Name "ValueError" py] [] pos) (tD X.K δ μ (.bl r)) :=
  pd_isE CE hz hf hg hm ha (pe_bltn (v := .ty "ValueError") hgy hmy (by decide +kernel) rfl) (fun _ z => z) hk hst hst2 hpl
theorem psd_try (i : Nat) {D : Addr} {c : Value} {bd suite : List Stmt} {b₀ : Stmt} {np pos' : Pos} (hc : X.stack = X.env :: X.outer) (hf : X.env.frame = some X.env.locals) (hN : X.N.Nodup) (hi : X.N[i]? = some n) (hln : X.env.kindOf n = some .local) (hn : Names X x c)
    (tk : Takes X (fun _ _ _ _ => False)) (hex : PySem.W.exmOne X.K (.ref D) c = some true)
    (hb : ∀ (W : WX) (pn : List (Addr × Obj)) (xe : Value → Shared → Prop), Takes (X.tr pn xe) W → PSs (X.tr pn xe) bd (fun _ σ H => tXs X.K W δ μ (.ref D) σ H (fun _ _ => False)))
    (hsu : ∀ (ae : Addr) (oe : Obj) (pn : List (Addr × Obj)), Zc (.ref D) none oe → (∃ vs, oe.data = .fields vs) → PSs (X.suite ae ((ae, oe) :: pn)) (b₀ :: suite) (tS X.K (fun _ _ _ => False) (δ.set i (some (.mref ae))) μ (.nx δ2 μ))) :
    PS X (.Try bd [.ExceptHandler (some (.Name x np)) (some n) (b₀ :: suite) pos'] [] [] pos) (tS X.K E δ μ (.nx (δ2.set i none) μ)) := by
  refine PS.mono (ps_try_as (i := i) (tb := fun W _ σ H => tXs X.K W δ μ (.ref D) σ H (fun _ _ => False))
    (ts := fun ae cls dd => fun Dn σ H => ∃ _ : cls = .ref D ∧ dd = none, tS X.K (fun _ _ _ => False) (δ.set i (some (.mref ae))) μ (.nx δ2 μ) Dn σ H) hc hf hN hi hln hn tk (fun W pn xe t _ => hb W pn xe t) (fun ae oe cls dd pn hz hv => ⟨fun pins s σ H Dn I w => ?_⟩)) ?_
  · obtain ⟨⟨e1, e2⟩, w⟩ := w
    subst e1; subst e2
    exact (hsu ae oe pn hz hv).run pins s σ H Dn I w
  · rintro Dn σ H ⟨F0, H0, F, s, k⟩
    refine ⟨F, s.se, fun F1 H1 g => ⟨true, hex, fun _ ae na => ⟨⟨rfl, rfl⟩, ?_⟩, fun z => by cases z⟩⟩
    have s1 := s.up g
    refine ⟨F0, H0, F1, ⟨⟨s1.se.fh, EnvR.set (d := .mref ae) s1.se.env rfl, s1.se.mem⟩, s1.gr, s1.fr⟩, fun σ' F' H' s' => ?_⟩
    exact k _ F' H' ⟨⟨s'.se.fh, s'.se.env.forget i, s'.se.mem⟩, s'.gr, s'.fr⟩
/-- the try's body: one call for its own sake -/
theorem pss_try_expr {W : WX} {rest : List Stmt} (he : PE X e (tXs X.K W δ μ cv)) (hs : swapsWith e none pos.line X.env = pure false) : PSs X [.Expr e pos] (fun _ σ H => tXs X.K W δ μ cv σ H (fun _ _ => False)) :=
  PSs.mono (pss_one (ps_expr he hs)) fun Dn σ H w => w
end
end Bl
namespace Bl
open PySem L2
/-- a written power -/
theorem pd_powL {X : Cx} {K : PySem.W.Frag} {δ : De} {μ : Me} {i : Int} {n : Nat} {k1 k2} {p1 p2 pos : Pos} (hc : n ≤ 1000000 ∧ i.natAbs < 2 ^ 64) : PE X (.BinOp (.Constant (.int i) k1 p1) .Pow (.Constant (.int (OfNat.ofNat n)) k2 p2) pos) (tD K δ μ (.int (i ^ n))) :=
  pd_pow (n := n) pd_int pd_int rfl hc
/-- an except clause's class, an error's class -/
theorem exm_mk {K : PySem.W.Frag} {a C : Addr} {r : Bool} (b : PySem.W.subIn K (.ref C) (.type "BaseException") = some true) (i : PySem.W.isClsIn K C = true) (t : PySem.W.typeIn K (.ref C) = some (.type "type")) (s : PySem.W.subIn K (.ref a) (.ref C) = some r) :
    PySem.W.exmOne K (.ref a) (.ref C) = some r := by
  have i2 : (PySem.W.clsIn K C).isSome = true := i
  unfold PySem.W.exmOne PySem.W.kitCls
  rw [b, if_pos (by rfl)]
  show (if ((PySem.W.clsIn K C).isSome && PySem.W.typeIn K (.ref C) == some (.type "type")) = true then _ else _) = _
  rw [i2, t, if_pos (by rfl)]
  exact s
/-! the law itself -/
def spLaw (K : PySem.W.Frag) : Sp := fun vs H Q _ => ∃ (a : Addr) (ns : List Int), vs = [.ref a] ∧ SqL K H a (ns.map V.int) ∧ ns.length ≤ 63 ∧ ∀ H', Q (.bl true) H'
/-- the part of a heap that is one list -/
def onlyAt (H : Hp) (a : Addr) : Hp := fun b => if b = a then H a else none
theorem onlyAt_ex {H : Hp} {a : Addr} : Ex (onlyAt H a) H := fun b o h => by
  unfold onlyAt at h
  split at h
  · rename_i e; rw [e]; exact h
  · cases h
theorem onlyAt_sql {K : PySem.W.Frag} {H : Hp} {a : Addr} {xs : List V} (h : SqL K H a xs) : SqL K (onlyAt H a) a xs := by
  have e : onlyAt H a a = H a := by unfold onlyAt; rw [if_pos rfl]
  rcases h with (h | ⟨o, h⟩) | h
  · exact .inl (.inl (e.trans h))
  · exact .inl (.inr ⟨o, e.trans h⟩)
  · exact .inr h
theorem cx_none {P : Program} {w : World} {H : Hp} {s : Shared} {e : Value} {s' : Shared} (h : L2.CX P w [] H s (fun _ _ _ => False) e s') : False := by
  obtain ⟨_, _, _, _, _, _, _, _, _, _, _, _, z⟩ := h
  exact z.elim
section
variable {P : Program} {w : World} {K : PySem.W.Frag} {mg : Str → Option Value} {base : Heap}
theorem law_ok {x qual : Str} {st : Stmt} {f : Addr} {fd : FuncData} {N ps : List Str} {k : Nat} (F : Fun K x qual st f fd) (S : FnScope N ps (defScope st)) (h1 : ps.length = 1) (hN : 1 ≤ N.length)
    (body : ∀ (cdv : Value) (A : Around) (outer : List Env) (s : Shared) (H : Hp) (E : XK) (ns : List Int), Room k (A.deeper (PyProof.Rows.envOfC qual (defScope st) s.heap.objs.size f cdv)) → ns.length ≤ 63 →
      PSs (cxD P w K mg base N qual st f cdv A outer s H E) (defBody st) (tS K E (some (D.sq (ns.map D.int)) :: List.replicate (N.length - 1) none) [] (.rt (.bl true)))) :
    FnOk P w K mg base (L2.CX P w) (k + 1) f fd ps (spLaw K) := by
  refine F.okX S (fun vs H Q E h => ?_) (fun cdv A outer s H vs Q E hr h => ?_)
  · obtain ⟨a, ns, rfl, _⟩ := h
    rw [h1]; rfl
  · obtain ⟨a, ns, rfl, hS, hl, q⟩ := h
    refine ⟨_, body cdv A outer s H E ns hr hl, ?_⟩
    have rv : RepL K (onlyAt H a) [D.sq (ns.map D.int)] [V.ref a] := RepL.one (d := .sq _) ⟨a, ns.map V.int, rfl, onlyAt_sql hS, RepL.of_ints ns⟩
    refine ⟨onlyAt H a, H, onlyAt H a, ⟨⟨onlyAt_ex, start_env N rv hN, .nil⟩, Gr.refl onlyAt_ex, fun m hm => absurd hm (by simp)⟩, ?_⟩
    intro v F' H' g r
    have e : v = .bl true := r
    rw [e]
    exact q H'
end
end Bl
namespace Bl
/-! whole numbers and fractions, in plain words -/
def gcdI (a b : Int) : Int := (Int.gcd a b : Int)
def byI (t b : Int) : Int := if b < 0 then 0 - gcdI t b else gcdI t b
def frT (t b : Int) : Int := t.fdiv (byI t b)
def frB (t b : Int) : Int := b.fdiv (byI t b)
theorem gcdI_pos {t b : Int} (h : b ≠ 0) : 0 < gcdI t b := by
  unfold gcdI
  have := Int.gcd_pos_of_ne_zero_right t h
  omega
theorem gcdI_le {t b : Int} (h : b ≠ 0) : (gcdI t b).natAbs ≤ b.natAbs := by
  unfold gcdI
  rw [Int.natAbs_natCast]
  have h1 : Int.gcd t b ∣ b.natAbs := Int.gcd_dvd_natAbs_right t b
  exact Nat.le_of_dvd (by omega) h1
theorem byI_ne {t b : Int} (h : b ≠ 0) : byI t b ≠ 0 := by
  have := gcdI_pos (t := t) h
  unfold byI
  split <;> omega
theorem byI_abs {t b : Int} : (byI t b).natAbs = (gcdI t b).natAbs := by
  unfold byI
  split <;> omega
/-- top and bottom as multiples of the divisor -/
theorem fr_mul {t b : Int} (h : b ≠ 0) : frT t b * byI t b = t ∧ frB t b * byI t b = b := by
  have d1 : byI t b ∣ t := by
    have := Int.gcd_dvd_left (a := t) (b := b)
    unfold byI gcdI
    split
    · rw [Int.zero_sub]; exact Int.neg_dvd.mpr this
    · exact this
  have d2 : byI t b ∣ b := by
    have := Int.gcd_dvd_right (a := t) (b := b)
    unfold byI gcdI
    split
    · rw [Int.zero_sub]; exact Int.neg_dvd.mpr this
    · exact this
  exact ⟨Int.fdiv_mul_cancel d1, Int.fdiv_mul_cancel d2⟩
theorem frB_pos {t b : Int} (h : b ≠ 0) : 0 < frB t b := by
  have hm := (fr_mul (t := t) h).2
  have hg := gcdI_pos (t := t) h
  by_cases hb : b < 0
  · have e : byI t b = 0 - gcdI t b := by unfold byI; rw [if_pos hb]
    rw [e] at hm
    apply Int.lt_of_not_ge
    intro hn
    have : 0 ≤ frB t b * (0 - gcdI t b) := by
      rw [Int.zero_sub, Int.mul_neg]
      have := Int.mul_nonneg (show 0 ≤ -frB t b by omega) (show 0 ≤ gcdI t b by omega)
      rw [Int.neg_mul] at this
      omega
    omega
  · have e : byI t b = gcdI t b := by unfold byI; rw [if_neg hb]
    rw [e] at hm
    apply Int.lt_of_not_ge
    intro hn
    have : frB t b * gcdI t b ≤ 0 := by
      have := Int.mul_nonneg (show 0 ≤ -frB t b by omega) (show 0 ≤ gcdI t b by omega)
      rw [Int.neg_mul] at this
      omega
    omega
theorem fr_gcd {t b : Int} (h : b ≠ 0) : Int.gcd (frT t b) (frB t b) = 1 := by
  obtain ⟨h1, h2⟩ := fr_mul (t := t) h
  have hg := gcdI_pos (t := t) h
  have e : Int.gcd t b = Int.gcd (frT t b) (frB t b) * (byI t b).natAbs := by
    have := Int.gcd_mul_right (frT t b) (byI t b) (frB t b)
    rw [h1, h2] at this
    exact this
  rw [byI_abs] at e
  have e2 : (gcdI t b).natAbs = Int.gcd t b := by unfold gcdI; exact Int.natAbs_natCast _
  rw [e2] at e
  have hp : 0 < Int.gcd t b := by unfold gcdI at hg; omega
  have : 1 * Int.gcd t b = Int.gcd (frT t b) (frB t b) * Int.gcd t b := by rw [← e]; omega
  exact (Nat.eq_of_mul_eq_mul_right hp this).symm
theorem fr_cross {t b : Int} (h : b ≠ 0) : frT t b * b = t * frB t b := by
  obtain ⟨h1, h2⟩ := fr_mul (t := t) h
  calc frT t b * b = frT t b * (frB t b * byI t b) := by rw [h2]
    _ = (frT t b * byI t b) * frB t b := by rw [Int.mul_comm (frB t b), Int.mul_assoc]
    _ = t * frB t b := by rw [h1]
theorem abs_le_mul {x y : Int} (h : y ≠ 0) : x.natAbs ≤ (x * y).natAbs := by
  rw [Int.natAbs_mul]
  exact Nat.le_mul_of_pos_right _ (by omega)
theorem gcd_step {x y : Int} (hx : 0 ≤ x) (hy : 0 < y) : Int.gcd y (x % y) = Int.gcd x y := by
  rw [Int.gcd_comm x y]
  have : x % y = x - y * (x / y) := by
    have := Int.emod_add_mul_ediv x y
    omega
  rw [this]
  exact Int.gcd_sub_mul_right_right y x (x / y) |> fun h => by
    first
    | exact h
    | simpa using h
theorem dvd_cop {k m n : Int} (h : k ∣ m * n) (g : Int.gcd k m = 1) : k ∣ n := by
  have := (Int.dvd_gcd_mul_iff_dvd_mul (k := k) (n := m) (m := n)).mpr h
  rw [g] at this
  simpa using this
/-- lowest terms are told by the worth alone -/
theorem low_uniq {x y u v : Int} (hy : 0 < y) (hv : 0 < v) (h1 : Int.gcd x y = 1) (h2 : Int.gcd u v = 1) (h : x * v = u * y) : x = u ∧ y = v := by
  have d1 : y ∣ v := dvd_cop (m := x) (h ▸ Int.dvd_mul_left u y) (by rw [Int.gcd_comm]; exact h1)
  have d2 : v ∣ y := dvd_cop (m := u) (h ▸ Int.dvd_mul_left x v) (by rw [Int.gcd_comm]; exact h2)
  have e : y = v := by
    have a1 := Int.le_of_dvd hv d1
    have a2 := Int.le_of_dvd hy d2
    omega
  subst e
  exact ⟨Int.eq_of_mul_eq_mul_right (by omega) h, rfl⟩
theorem fr_uniq {t b t' b' : Int} (hb : b ≠ 0) (hb' : b' ≠ 0) (h : t * b' = t' * b) : frT t b = frT t' b' ∧ frB t b = frB t' b' := by
  refine low_uniq (frB_pos hb) (frB_pos hb') (fr_gcd hb) (fr_gcd hb') ?_
  have h1 := fr_cross (t := t) hb
  have h2 := fr_cross (t := t') hb'
  have : (frT t b * frB t' b' - frT t' b' * frB t b) * (b * b') = 0 := by grind
  rcases Int.mul_eq_zero.mp this with z | z
  · omega
  · rcases Int.mul_eq_zero.mp z with z | z
    · exact absurd z hb
    · exact absurd z hb'
theorem fr_one (t : Int) : frT t 1 = t ∧ frB t 1 = 1 := by
  have h := fr_cross (t := t) (b := 1) (by decide)
  have hm := (fr_mul (t := t) (b := 1) (by decide)).2
  have hp := frB_pos (t := t) (b := 1) (by decide)
  have : frB t 1 = 1 := by
    have : frB t 1 ∣ 1 := ⟨_, hm.symm⟩
    have := Int.le_of_dvd (by decide) this
    omega
  rw [this] at h
  omega
theorem fr_low {t b : Int} (hb : 0 < b) (h : Int.gcd t b = 1) : frT t b = t ∧ frB t b = b := by
  refine low_uniq (frB_pos (by omega)) hb (fr_gcd (by omega)) h ?_
  exact fr_cross (by omega)
end Bl
namespace Bl
open PySem L2
/-! bits -/
def Bd (n : Nat) (x : Int) : Prop := x.natAbs < 2 ^ n
theorem Bd.mul {a b : Nat} {x y : Int} (h : Bd a x) (g : Bd b y) : Bd (a + b) (x * y) := wide_lt h g
theorem Bd.mono {a b : Nat} {x : Int} (h : Bd a x) (l : a ≤ b) : Bd b x := Nat.lt_of_lt_of_le h (Nat.pow_le_pow_right (by decide) l)
theorem Bd.add {a b : Nat} {x y : Int} (h : Bd a x) (g : Bd b y) : Bd (max a b + 1) (x + y) := by
  have h1 : x.natAbs < 2 ^ max a b := h.mono (Nat.le_max_left a b)
  have h2 : y.natAbs < 2 ^ max a b := g.mono (Nat.le_max_right a b)
  unfold Bd
  rw [Nat.pow_succ]
  omega
theorem Bd.sub {a b : Nat} {x y : Int} (h : Bd a x) (g : Bd b y) : Bd (max a b + 1) (x - y) := by
  have h1 : x.natAbs < 2 ^ max a b := h.mono (Nat.le_max_left a b)
  have h2 : y.natAbs < 2 ^ max a b := g.mono (Nat.le_max_right a b)
  unfold Bd
  rw [Nat.pow_succ]
  omega
theorem Bd.neg {a : Nat} {x : Int} (h : Bd a x) : Bd a (-x) := by
  unfold Bd at h ⊢
  rw [Int.natAbs_neg]
  exact h
theorem Bd.lit {x : Int} {a : Nat} (h : Nat.blt x.natAbs (2 ^ a) = true) : Bd a x := Nat.le_of_ble_eq_true h
theorem Bd.cmul {a b : Nat} {x y : Int} (h : Bd a x) (g : Bd b y) (l : a + b ≤ 900000) : CMulW x y := by
  refine wide_mul (a := a + 1) (b := b + 1) (h.mono (Nat.le_succ a)) (g.mono (Nat.le_succ b)) (Nat.succ_pos a) (Nat.succ_pos b) ?_
  omega
theorem Bd.le {a : Nat} {x y : Int} (h : x.natAbs ≤ y.natAbs) (g : Bd a y) : Bd a x := Nat.lt_of_le_of_lt h g
theorem Bd.imax {a b : Nat} {x y : Int} (h : Bd a x) (g : Bd b y) : Bd (max a b) (imax x y) := by
  unfold Bl.imax
  split
  · exact g.mono (Nat.le_max_right a b)
  · exact h.mono (Nat.le_max_left a b)
theorem Bd.imin {a b : Nat} {x y : Int} (h : Bd a x) (g : Bd b y) : Bd (max a b) (imin x y) := by
  unfold Bl.imin
  split
  · exact g.mono (Nat.le_max_right a b)
  · exact h.mono (Nat.le_max_left a b)

abbrev frD (t b : Int) : D := .tup [.int (frT t b), .int (frB t b)]
theorem log_of_bd {n : Nat} {x : Int} (h : Bd n x) (hn : 0 < n) (l : n ≤ 9000) : x.natAbs.log2 < 9000 := Nat.lt_of_lt_of_le (PySem.Flt.log2_lt_of hn h) l
theorem frT_bd {n : Nat} {t b : Int} (h : b ≠ 0) (g : Bd n t) : Bd n (frT t b) := by
  refine Bd.le ?_ g
  have := abs_le_mul (x := frT t b) (byI_ne (t := t) h)
  rwa [(fr_mul (t := t) h).1] at this
theorem frB_bd {n : Nat} {t b : Int} (h : b ≠ 0) (g : Bd n b) : Bd n (frB t b) := by
  refine Bd.le ?_ g
  have := abs_le_mul (x := frB t b) (byI_ne (t := t) h)
  rwa [(fr_mul (t := t) h).2] at this
theorem iabs_nat (i : Int) : iabs i = (i.natAbs : Int) := by unfold iabs; split <;> omega
/-- the classes of the program, by their places in the heap -/
structure Cs where
  BeamError : Addr
  NoNumber : Addr
  NoLoad : Addr
  NoBeam : Addr
  OffBeam : Addr
  Load : Addr
  Weight : Addr
  Spread : Addr
  Beam : Addr
def R_divisor : List D → Except Value D → Prop := fun ds r => ∃ a b : Int, ds = [.int a, .int b] ∧ r = .ok (.int (gcdI a b))
def R_fraction (cs : Cs) : List D → Except Value D → Prop := fun ds r => ∃ t b : Int, ds = [.int t, .int b] ∧ ((b = 0 ∧ r = .error (.ref cs.NoNumber)) ∨ (b ≠ 0 ∧ Bd 8900 b ∧ r = .ok (frD t b)))
/-! what the law's own small defs do -/
def cell (ns : List Int) (k : Nat) : Int := ns.getD k 0
def R_cell : List D → Except Value D → Prop := fun ds r => ∃ (ns : List Int) (k : Int), ds = [.sq (ns.map D.int), .int k] ∧ 0 ≤ k ∧ r = .ok (.int (cell ns k.toNat))
def R_whole : List D → Except Value D → Prop := fun ds r => ∃ n : Int, ds = [.int n] ∧ r = .ok (.bl true)
def R_isfrac : List D → Except Value D → Prop := fun ds r => ∃ t b : Int, ds = [.tup [.int t, .int b]] ∧ 1 ≤ b ∧ Int.gcd t b = 1 ∧ r = .ok (.bl true)
def R_int1 (f : Int → Int) : List D → Except Value D → Prop := fun ds r => ∃ c : Int, ds = [.int c] ∧ r = .ok (.int (f c))
def numOf (n : Nat) (c : Int) : Int := if c % 4 = 0 then c / 8 % 10 ^ n * (1 - 2 * (c / 4 % 2)) else c / 4 % 41 - 20
theorem bd_mod {n : Nat} {x m : Int} (h : 0 < m) (g : Nat.ble m.natAbs (2 ^ n) = true) : Bd n (x % m) := by
  have h1 := Int.emod_nonneg x (show m ≠ 0 by omega)
  have h2 := Int.emod_lt_of_pos x h
  have h3 := Nat.le_of_ble_eq_true g
  unfold Bd
  omega
theorem pss_hd {X : Cx} {body : List Stmt} {st : Stmt} {rest : List Stmt} {t : TS} (e : body = st :: rest) (h : PSs X (st :: rest) t) : PSs X body t := e ▸ h
def tyOf : D → Option String
  | .int _ => some "int"
  | .bl _ => some "bool"
  | .non => some "NoneType"
  | .tup _ => some "tuple"
  | .lst _ => some "list"
  | .lv _ _ => some "list"
  | _ => none
theorem rep_ty {K : PySem.W.Frag} {F H : Hp} {d : D} {v : V} {t : String} (e : Ex F H) (r : Rep K F d v) (h : tyOf d = some t) : TyX K H v (.type t) := by
  cases d with
  | non => cases h; have e1 : v = .non := r; subst e1; exact .base .non
  | int i => cases h; have e1 : v = .int i := r; subst e1; exact .base (.int i)
  | bl b => cases h; have e1 : v = .bl b := r; subst e1; exact .base (.bl b)
  | tup ds => cases h; obtain ⟨p, vs, rfl, hp, _⟩ := r; exact .base (.tup (e _ _ hp))
  | lst ds => cases h; obtain ⟨p, vs, rfl, hp, _⟩ := r; exact .base (.lst (e _ _ hp))
  | lv us ds => cases h; obtain ⟨p, rfl, hp, _⟩ := r; exact .base (.lst (e _ _ hp))
  | _ => cases h
theorem pd_isi {X : Cx} {δ : De} {μ : Me} {a b : Expr} {p pos : Pos} {d : D} {t ty : String} {r : Bool} (hg : Gl X "isinstance") (hm : X.mg "isinstance" = none) (ha : PE X a (tD X.K δ μ d)) (hb : PE X b (tC (.ty ty))) (ht : tyOf d = some t) (hk : kitB t ty = some r)
    (hst : starEach [a, b] X.env = (false, eval a X.env) :: starEach [b] X.env := by rfl) (hst2 : starEach [b] X.env = (false, eval b X.env) :: starEach [] X.env := by rfl) (hpl : (backTo pos (starEach [b] X.env)).any (·.1) = false := by rfl) :
    PE X (.Call (.Name "isinstance" p) [a, b] [] pos) (tD X.K δ μ (.bl r)) :=
  PE.mono (pe_callB call_isi hg hm boot_isinst (pa_cons ha (pa_cons hb pa_nil hst2) hst) (by decide +kernel) (by decide +kernel) hst hpl) fun σ H Q ⟨F, S, k⟩ => ⟨F, S, fun v F1 H1 g r1 =>
    ⟨v, .ty ty, .type t, .type ty, r, rfl, .ty ty, rep_ty g.fh r1 ht, kit_ty hk, k _ F1 H1 g rfl⟩⟩
theorem kit_int_int : kitB "int" "int" = some true := by decide +kernel
theorem kit_int_bool : kitB "int" "bool" = some false := by decide +kernel
theorem kit_int_tuple : kitB "int" "tuple" = some false := by decide +kernel
theorem kit_int_list : kitB "int" "list" = some false := by decide +kernel
theorem kit_bool_int : kitB "bool" "int" = some true := by decide +kernel
theorem kit_bool_bool : kitB "bool" "bool" = some true := by decide +kernel
theorem kit_bool_tuple : kitB "bool" "tuple" = some false := by decide +kernel
theorem kit_bool_list : kitB "bool" "list" = some false := by decide +kernel
theorem kit_tuple_int : kitB "tuple" "int" = some false := by decide +kernel
theorem kit_tuple_bool : kitB "tuple" "bool" = some false := by decide +kernel
theorem kit_tuple_tuple : kitB "tuple" "tuple" = some true := by decide +kernel
theorem kit_tuple_list : kitB "tuple" "list" = some false := by decide +kernel
theorem kit_list_int : kitB "list" "int" = some false := by decide +kernel
theorem kit_list_bool : kitB "list" "bool" = some false := by decide +kernel
theorem kit_list_tuple : kitB "list" "tuple" = some false := by decide +kernel
theorem kit_list_list : kitB "list" "list" = some true := by decide +kernel
theorem kit_NoneType_int : kitB "NoneType" "int" = some false := by decide +kernel
theorem kit_NoneType_bool : kitB "NoneType" "bool" = some false := by decide +kernel
theorem kit_NoneType_tuple : kitB "NoneType" "tuple" = some false := by decide +kernel
theorem kit_NoneType_list : kitB "NoneType" "list" = some false := by decide +kernel
def R_yes1 : List D → Except Value D → Prop := fun ds r => ∃ t : Int, ds = [.int t] ∧ r = .ok (.bl true)
theorem numOf_bd {n m : Nat} (h : Nat.ble (10 ^ n) (2 ^ m) = true) (h2 : 6 ≤ m) (c : Int) : Bd m (numOf n c) := by
  have h3 := Nat.le_of_ble_eq_true h
  unfold numOf
  split
  · have e1 : (0 : Int) < 10 ^ n := Int.pow_pos (by decide)
    have a1 := Int.emod_nonneg (c / 8) (show (10 : Int) ^ n ≠ 0 by omega)
    have a2 := Int.emod_lt_of_pos (c / 8) e1
    have e2 : ((10 ^ n : Nat) : Int) = 10 ^ n := by simp
    generalize hy : c / 8 % 10 ^ n = y at *
    have h4 : y.natAbs < 2 ^ m := by omega
    rcases Int.emod_two_eq (c / 4) with z | z
    · rw [z]; unfold Bd; rw [show y * (1 - 2 * 0) = y by omega]; exact h4
    · rw [z]; unfold Bd; rw [show y * (1 - 2 * 1) = -y by omega, Int.natAbs_neg]; exact h4
  · have : 2 ^ 6 ≤ 2 ^ m := Nat.pow_le_pow_right (by decide) h2
    unfold Bd
    omega

end Bl
namespace K01
open PySem L2 Bl
def top (i : Nat) : Stmt := PySem.Challenge.pw_beamload_k01_a_fraction.main.body.getD i (.Pass ⟨0, 0, 0, 0⟩)
abbrev s_divisor : Stmt := top 7
abbrev N_divisor : List Str := ["one", "other"]
abbrev P_divisor : List Str := ["one", "other"]
theorem sc_divisor : FnScope N_divisor P_divisor (defScope s_divisor) := ⟨rfl, rfl, rfl, by decide +kernel, rfl, by decide +kernel, by decide +kernel⟩
abbrev s_fraction : Stmt := top 8
abbrev N_fraction : List Str := ["top", "bottom", "by"]
abbrev P_fraction : List Str := ["top", "bottom"]
theorem sc_fraction : FnScope N_fraction P_fraction (defScope s_fraction) := ⟨rfl, rfl, rfl, by decide +kernel, rfl, by decide +kernel, by decide +kernel⟩
abbrev s_l_cell_at : Stmt := top 10
abbrev N_l_cell_at : List Str := ["_law_script", "_law_k"]
abbrev P_l_cell_at : List Str := ["_law_script", "_law_k"]
theorem sc_l_cell_at : FnScope N_l_cell_at P_l_cell_at (defScope s_l_cell_at) := ⟨rfl, rfl, rfl, by decide +kernel, rfl, by decide +kernel, by decide +kernel⟩
abbrev s_l_whole : Stmt := top 11
abbrev N_l_whole : List Str := ["_law_found"]
abbrev P_l_whole : List Str := ["_law_found"]
theorem sc_l_whole : FnScope N_l_whole P_l_whole (defScope s_l_whole) := ⟨rfl, rfl, rfl, by decide +kernel, rfl, by decide +kernel, by decide +kernel⟩
abbrev s_l_divisor : Stmt := top 12
abbrev N_l_divisor : List Str := ["_law_one", "_law_other"]
abbrev P_l_divisor : List Str := ["_law_one", "_law_other"]
theorem sc_l_divisor : FnScope N_l_divisor P_l_divisor (defScope s_l_divisor) := ⟨rfl, rfl, rfl, by decide +kernel, rfl, by decide +kernel, by decide +kernel⟩
abbrev s_l_is_fraction : Stmt := top 13
abbrev N_l_is_fraction : List Str := ["_law_found"]
abbrev P_l_is_fraction : List Str := ["_law_found"]
theorem sc_l_is_fraction : FnScope N_l_is_fraction P_l_is_fraction (defScope s_l_is_fraction) := ⟨rfl, rfl, rfl, by decide +kernel, rfl, by decide +kernel, by decide +kernel⟩
abbrev s_l_number : Stmt := top 14
abbrev N_l_number : List Str := ["_law_cell"]
abbrev P_l_number : List Str := ["_law_cell"]
theorem sc_l_number : FnScope N_l_number P_l_number (defScope s_l_number) := ⟨rfl, rfl, rfl, by decide +kernel, rfl, by decide +kernel, by decide +kernel⟩
abbrev s_l_refused : Stmt := top 15
abbrev N_l_refused : List Str := ["_law_top", "_law_rightly", "e"]
abbrev P_l_refused : List Str := ["_law_top"]
theorem sc_l_refused : FnScope N_l_refused P_l_refused (defScope s_l_refused) := ⟨rfl, rfl, rfl, by decide +kernel, rfl, by decide +kernel, by decide +kernel⟩
abbrev s_law : Stmt := top 16
abbrev N_law : List Str := ["_law_script", "_law_top", "_law_bottom", "_law_times", "_law_found"]
abbrev P_law : List Str := ["_law_script"]
theorem sc_law : FnScope N_law P_law (defScope s_law) := ⟨rfl, rfl, rfl, by decide +kernel, rfl, by decide +kernel, by decide +kernel⟩
structure Tx (K : PySem.W.Frag) (mg : Str → Option Value) (cs : Cs) : Prop where
  n_abs : mg "abs" = none
  n_len : mg "len" = none
  n_isinstance : mg "isinstance" = none
  n_tuple : mg "tuple" = none
  n_int : mg "int" = none
  n_bool : mg "bool" = none
  n_ValueError : mg "ValueError" = none
  g_BeamError : mg "BeamError" = some (.ref cs.BeamError)
  g_NoNumber : mg "NoNumber" = some (.ref cs.NoNumber)
  g_NoLoad : mg "NoLoad" = some (.ref cs.NoLoad)
  g_NoBeam : mg "NoBeam" = some (.ref cs.NoBeam)
  g_OffBeam : mg "OffBeam" = some (.ref cs.OffBeam)
  x_NoNumber : PySem.W.excIn K cs.NoNumber [.type "ValueError", .type "Exception", .type "BaseException", .type "object"] "ValueError.__new__" = true
  k_NoNumber : PySem.W.keepIn K (.ref cs.NoNumber) = true
  b_NoNumber : PySem.W.subIn K (.ref cs.NoNumber) (.type "BaseException") = some true
  t_NoNumber : PySem.W.typeIn K (.ref cs.NoNumber) = some (.type "type")
  e_NoNumber : ExcC K cs.NoNumber
  ex_NoNumber : PySem.W.exmOne K (.ref cs.NoNumber) (.ref cs.BeamError) = some true
  ki_NoNumber_V : PySem.W.kitOne K (.ref cs.NoNumber) (.type "ValueError") = some true
  ki_NoNumber_NoNumber : PySem.W.kitOne K (.ref cs.NoNumber) (.ref cs.NoNumber) = some true
  ki_NoNumber_NoLoad : PySem.W.kitOne K (.ref cs.NoNumber) (.ref cs.NoLoad) = some false
  ki_NoNumber_NoBeam : PySem.W.kitOne K (.ref cs.NoNumber) (.ref cs.NoBeam) = some false
  ki_NoNumber_OffBeam : PySem.W.kitOne K (.ref cs.NoNumber) (.ref cs.OffBeam) = some false
end K01
namespace K01
open PySem L2 Bl
section
/-! how a body is gone through: ev an expression, tv a test, ar arguments, st a block's next statement, bd the bits of a number -/
set_option hygiene false in
local macro_rules | `(tactic| walk_at "bdn") => `(tactic| first
  | ((with_reducible show Bd _ _); walk_at "bd")
  | ((fail_if_success (with_reducible show Bd _ _)); skip))
set_option hygiene false in
local macro_rules | `(tactic| walk_at "bd") => `(tactic| first
  | with_reducible assumption
  | ((refine' Bd.mul ?_ ?_) <;> walk_at "bdn")
  | ((refine' Bd.add ?_ ?_) <;> walk_at "bdn")
  | ((refine' Bd.sub ?_ ?_) <;> walk_at "bdn")
  | ((refine' Bd.neg ?_) <;> walk_at "bdn")
  | exact Bd.lit (a := 64) (by exact rfl)
  | exact Bd.lit (a := 210) (by exact rfl)
  | ((refine' Bd.imax ?_ ?_) <;> walk_at "bdn")
  | ((refine' Bd.imin ?_ ?_) <;> walk_at "bdn")
  | exact numOf_bd (n := 60) (m := 200) (by exact rfl) (by decide) _
  | exact numOf_bd (n := 20) (m := 67) (by exact rfl) (by decide) _
  | exact bd_mod (n := 12) (by decide) (by exact rfl)
  | exact bd_mod (n := 68) (by decide) (by exact rfl)
  | exact bd_mod (n := 200) (by decide) (by exact rfl)
  | ((refine' frT_bd (by first | assumption | omega) ?_) <;> walk_at "bdn")
  | ((refine' frB_bd (by first | assumption | omega) ?_) <;> walk_at "bdn")
  | walk_at "bdx")
set_option hygiene false in
local macro_rules | `(tactic| walk_at "mul") => `(tactic| first
  | exact Bd.cmul (by walk_at "bd") (by walk_at "bd") (by exact Nat.le_of_ble_eq_true rfl)
  | skip)
set_option hygiene false in
local macro_rules | `(tactic| walk_at "kit") => `(tactic| first
  | with_reducible exact kit_int_int
  | with_reducible exact kit_int_bool
  | with_reducible exact kit_int_tuple
  | with_reducible exact kit_int_list
  | with_reducible exact kit_bool_int
  | with_reducible exact kit_bool_bool
  | with_reducible exact kit_bool_tuple
  | with_reducible exact kit_bool_list
  | with_reducible exact kit_tuple_int
  | with_reducible exact kit_tuple_bool
  | with_reducible exact kit_tuple_tuple
  | with_reducible exact kit_tuple_list
  | with_reducible exact kit_list_int
  | with_reducible exact kit_list_bool
  | with_reducible exact kit_list_tuple
  | with_reducible exact kit_list_list
  | with_reducible exact kit_NoneType_int
  | with_reducible exact kit_NoneType_bool
  | with_reducible exact kit_NoneType_tuple
  | with_reducible exact kit_NoneType_list)
set_option hygiene false in
local macro_rules | `(tactic| walk_at "bdg") => `(tactic| first
  | assumption
  | exact Bd.mono (by walk_at "bd") (by exact Nat.le_of_ble_eq_true rfl)
  | skip)
set_option hygiene false in
local macro_rules | `(tactic| walk_at "side") => `(tactic| first
  | ((with_reducible show Bd _ _); walk_at "bdg")
  | ((with_reducible show kitB _ _ = _); walk_at "kit")
  | ((with_reducible show (_ : Prop)); first | assumption | with_reducible rfl | exact Nat.le_of_ble_eq_true rfl | decide | omega | rfl | exact ⟨by decide, by decide⟩ | skip)
  | skip)
set_option hygiene false in
local macro_rules | `(tactic| walk_at "go") => `(tactic| first
  | ((with_reducible show PE _ _ _); walk_at "ev")
  | ((with_reducible show PA _ _ _); walk_at "ar")
  | ((with_reducible show PT _ _ _); walk_at "tv")
  | ((with_reducible show PW _ _ _); walk_at "tw")
  | ((with_reducible show PSs _ _ _); skip)
  | ((with_reducible show CMulW _ _); walk_at "mul")
  | ((fail_if_success (with_reducible show PE _ _ _)); (fail_if_success (with_reducible show PA _ _ _)); (fail_if_success (with_reducible show PT _ _ _)); (fail_if_success (with_reducible show PW _ _ _)); walk_at "side"))
set_option hygiene false in
local macro_rules | `(tactic| walk_at "gof") => `(tactic| first
  | ((with_reducible show PE _ _ _); walk_at "ev")
  | ((with_reducible show PA _ _ _); walk_at "ar")
  | ((with_reducible show PT _ _ _); walk_at "tv")
  | ((with_reducible show PW _ _ _); walk_at "tw")
  | ((with_reducible show PSs _ _ _); skip)
  | ((with_reducible show CMulW _ _); walk_at "mul")
  | ((fail_if_success (with_reducible show PE _ _ _)); (fail_if_success (with_reducible show PA _ _ _)); (fail_if_success (with_reducible show PT _ _ _)); (fail_if_success (with_reducible show PW _ _ _)); first | ((with_reducible show (_ ∧ _)); exact ⟨by decide, by decide⟩) | ((fail_if_success (with_reducible show (_ ∧ _))); skip)))
set_option hygiene false in
local macro_rules | `(tactic| walk_at "ar") => `(tactic| first
  | with_reducible exact pas_nil
  | ((refine' pas_cons ?_ ?_ (by rfl)) <;> walk_at "go"))
set_option hygiene false in
local macro_rules | `(tactic| walk_at "ev") => `(tactic| first
  | with_reducible exact pd_int
  | walk_at "nm"
  | with_reducible exact pd_bl
  | with_reducible exact pd_non
  | ((with_reducible show PE _ (Expr.BinOp _ Operator.Add _ _) _); first | ((refine' pd_add ?_ ?_) <;> walk_at "go") | ((refine' pd_new (pn_cat ?_ ?_ ?_ ?_ ?_)) <;> walk_at "go"))
  | ((with_reducible show PE _ (Expr.BinOp _ Operator.Sub _ _) _); ((refine' pd_sub ?_ ?_) <;> walk_at "go"))
  | ((with_reducible show PE _ (Expr.BinOp _ Operator.Mult _ _) _); first | ((refine' pd_mul ?_ ?_ ?_) <;> walk_at "go") | ((refine' pd_new (pn_rep ?_ ?_ ?_ ?_ ?_)) <;> walk_at "go"))
  | ((with_reducible show PE _ (Expr.BinOp _ Operator.FloorDiv _ _) _); first | ((refine' pd_fdiv ?_ ?_ ?_) <;> walk_at "gof") | ((refine' pd_fdivW ?_ ?_ ?_) <;> walk_at "go"))
  | ((with_reducible show PE _ (Expr.BinOp _ Operator.Mod _ _) _); ((refine' pd_mod ?_ ?_ ?_) <;> walk_at "go"))
  | ((with_reducible show PE _ (Expr.BinOp _ Operator.Pow _ _) _); exact pd_powL ⟨by decide, by decide⟩)
  | ((with_reducible show PE _ (Expr.UnaryOp UnaryOp.USub _ _) _); ((refine' pd_neg ?_) <;> walk_at "go"))
  | ((with_reducible show PE _ (Expr.UnaryOp UnaryOp.Not _ _) _); ((refine' pd_not ?_) <;> walk_at "go"))
  | ((with_reducible show PE _ (Expr.Tuple _ _ _) _); ((refine' pd_tup ?_ ?_) <;> walk_at "go"))
  | ((with_reducible show PE _ (Expr.List _ _) _); ((refine' pd_new (pn_lst ?_ ?_)) <;> walk_at "go"))
  | ((with_reducible show PE _ (Expr.Attribute _ _ _) _); walk_at "fld")
  | ((with_reducible show PE _ (Expr.Compare _ [CmpOp.Lt] _ _) _); ((refine' pd_lt ?_ ?_) <;> walk_at "go"))
  | ((with_reducible show PE _ (Expr.Compare _ [CmpOp.LtE] _ _) _); ((refine' pd_le ?_ ?_) <;> walk_at "go"))
  | ((with_reducible show PE _ (Expr.Compare _ [CmpOp.Eq] _ _) _); ((refine' pd_eq ?_ ?_) <;> walk_at "go"))
  | ((with_reducible show PE _ (Expr.Call (Expr.Name "abs" _) _ _ _) _); ((refine' pd_abs (by rfl) T.n_abs ?_) <;> walk_at "go"))
  | ((with_reducible show PE _ (Expr.Call (Expr.Name "max" _) _ _ _) _); ((refine' pd_max (by rfl) (by rfl) T.n_max ?_ ?_) <;> walk_at "go"))
  | ((with_reducible show PE _ (Expr.Call (Expr.Name "min" _) _ _ _) _); ((refine' pd_min (by rfl) (by rfl) T.n_min ?_ ?_) <;> walk_at "go"))
  | ((with_reducible show PE _ (Expr.Call (Expr.Name "len" _) _ _ _) _); ((refine' pd_len (by rfl) T.n_len ?_ ?_) <;> walk_at "go"))
  | ((with_reducible show PE _ (Expr.Call (Expr.Name "sum" _) _ _ _) _); ((refine' pd_sum (by rfl) (by rfl) T.n_sum ?_ ?_) <;> walk_at "go"))
  | ((with_reducible show PE _ (Expr.Call (Expr.Name "list" _) _ _ _) _); ((refine' pd_new (pn_list (by rfl) T.n_list ?_ ?_)) <;> walk_at "go"))
  | ((with_reducible show PE _ (Expr.Call (Expr.Name "tuple" _) _ _ _) _); ((refine' pd_tuple (by rfl) T.n_tuple ?_ ?_) <;> walk_at "go"))
  | ((with_reducible show PE _ (Expr.Call (Expr.Name "isinstance" _) [_, Expr.Name "int" _] _ _) _); ((refine' pd_isi (by rfl) T.n_isinstance ?_ (pe_bltn (by rfl) T.n_int boot_intT rfl) ?_ ?_) <;> walk_at "go"))
  | ((with_reducible show PE _ (Expr.Call (Expr.Name "isinstance" _) [_, Expr.Name "bool" _] _ _) _); ((refine' pd_isi (by rfl) T.n_isinstance ?_ (pe_bltn (by rfl) T.n_bool boot_boolT rfl) ?_ ?_) <;> walk_at "go"))
  | ((with_reducible show PE _ (Expr.Call (Expr.Name "isinstance" _) [_, Expr.Name "tuple" _] _ _) _); ((refine' pd_isi (by rfl) T.n_isinstance ?_ (pe_bltn (by rfl) T.n_tuple boot_tupleT rfl) ?_ ?_) <;> walk_at "go"))
  | ((with_reducible show PE _ (Expr.Call (Expr.Name "isinstance" _) [_, Expr.Name "list" _] _ _) _); ((refine' pd_isi (by rfl) T.n_isinstance ?_ (pe_bltn (by rfl) T.n_list boot_listT rfl) ?_ ?_) <;> walk_at "go"))
  | ((with_reducible show PE _ (Expr.Call _ _ _ _) _); walk_at "cl")
  | ((with_reducible show PE _ (Expr.BoolOp _ [_] _) _); ((refine' pd_one ?_) <;> walk_at "go"))
  | ((with_reducible show PE _ (Expr.BoolOp BoolOp.And _ _) _); ((refine' pd_and ?_ (fun hyp => ?_)) <;> walk_at "go"))
  | ((with_reducible show PE _ (Expr.BoolOp BoolOp.Or _ _) _); ((refine' pd_or ?_ (fun hyp => ?_)) <;> walk_at "go"))
  | ((with_reducible show PE _ (Expr.Subscript _ _ _) _); ((refine' pd_ix ?_ ?_ (fun _ _ => rfl) ?_ ?_) <;> walk_at "go")))
set_option hygiene false in
local macro_rules | `(tactic| walk_at "tw") => `(tactic| first
  | ((refine' pwd_and1 ?_) <;> walk_at "go")
  | ((refine' pwd_or1 ?_) <;> walk_at "go")
  | ((refine' pwd_and ?_ (fun hyp => ?_)) <;> walk_at "go")
  | ((refine' pwd_or ?_ (fun hyp => ?_)) <;> walk_at "go"))
set_option hygiene false in
local macro_rules | `(tactic| walk_at "tv") => `(tactic| first
  | ((with_reducible show PT _ (Expr.Compare _ [CmpOp.Lt] _ _) _); ((refine' ptd_lt ?_ ?_) <;> walk_at "go"))
  | ((with_reducible show PT _ (Expr.Compare _ [CmpOp.LtE] _ _) _); ((refine' ptd_le ?_ ?_) <;> walk_at "go"))
  | ((with_reducible show PT _ (Expr.Compare _ [CmpOp.Gt] _ _) _); ((refine' ptd_gt ?_ ?_) <;> walk_at "go"))
  | ((with_reducible show PT _ (Expr.Compare _ [CmpOp.GtE] _ _) _); ((refine' ptd_ge ?_ ?_) <;> walk_at "go"))
  | ((with_reducible show PT _ (Expr.Compare _ [CmpOp.Eq] _ _) _); ((refine' ptd_eq ?_ ?_) <;> walk_at "go"))
  | ((with_reducible show PT _ (Expr.Compare _ [CmpOp.NotEq] _ _) _); ((refine' ptd_ne ?_ ?_) <;> walk_at "go"))
  | ((with_reducible show PT _ (Expr.BoolOp _ _ _) _); ((refine' PW.pt ?_) <;> walk_at "go"))
  | ((with_reducible show PT _ (Expr.UnaryOp UnaryOp.Not _ _) _); ((refine' ptd_not ?_) <;> walk_at "go"))
  | ((refine' ptd_val ?_ (fun _ => rfl)) <;> walk_at "go"))
set_option hygiene false in
local macro_rules | `(tactic| walk_at "st") => `(tactic| first
  | ((walk_at "set") <;> walk_at "go")
  | ((walk_at "aug") <;> walk_at "go")
  | ((with_reducible show PSs _ (Stmt.Return (some _) _ :: _) _); first | (((refine' pss_end (psd_ret ?_) True.intro) <;> walk_at "go"); done) | ((refine' pss_end (psd_ret (pd_cast ?_ ?_)) True.intro) <;> walk_at "go")))
set_option hygiene false in
local macro_rules | `(tactic| walk_at "if") => `(tactic| (focus (refine' pss_if ?_ ?_ ?_; rotate_left 1; walk_at "tv")))
set_option hygiene false in
local macro_rules | `(tactic| walk_at "run") => `(tactic| repeat' (walk_at "st"))
set_option hygiene false in
local macro_rules | `(tactic| walk_at "nm") => `(tactic| first
  | ((with_reducible refine' pd_var (x := "one") 0 ?_ ?_ ?_ ?_ ?_) <;> first | (with_reducible show D) | ((with_reducible show Vis _ _); first | exact .inl rfl | exact .inr (.inl rfl) | exact .inr (.inr rfl)) | ((with_reducible show (_ == _) = false); decide) | rfl)
  | ((with_reducible refine' pd_var (x := "other") 1 ?_ ?_ ?_ ?_ ?_) <;> first | (with_reducible show D) | ((with_reducible show Vis _ _); first | exact .inl rfl | exact .inr (.inl rfl) | exact .inr (.inr rfl)) | ((with_reducible show (_ == _) = false); decide) | rfl))
set_option hygiene false in
local macro_rules | `(tactic| walk_at "set") => `(tactic| first
  | ((with_reducible show PSs _ (Stmt.Assign [Expr.Name "one" _] _ _ :: _) _); refine' pss_seq (psd_set 0 nd (by rfl) (by first | exact .inl rfl | exact .inr rfl) ?_ (by rfl) (by first | exact .inr rfl | exact .inl rfl)) ?_)
  | ((with_reducible show PSs _ (Stmt.Assign [Expr.Name "other" _] _ _ :: _) _); refine' pss_seq (psd_set 1 nd (by rfl) (by first | exact .inl rfl | exact .inr rfl) ?_ (by rfl) (by first | exact .inr rfl | exact .inl rfl)) ?_))
set_option hygiene false in
local macro_rules | `(tactic| walk_at "aug") => `(tactic| first
  | ((with_reducible show PSs _ (Stmt.AugAssign (Expr.Name "one" _) _ _ _ :: _) _); first | refine' pss_seq (psd_aug 0 nd (by rfl) (by first | exact .inl rfl | exact .inr rfl) L2.ip_add (by rfl) ?_ (by first | exact .inr rfl | exact .inl rfl)) ?s2 | refine' pss_seq (psd_aug 0 nd (by rfl) (by first | exact .inl rfl | exact .inr rfl) L2.ip_sub (by rfl) ?_ (by first | exact .inr rfl | exact .inl rfl)) ?_)
  | ((with_reducible show PSs _ (Stmt.AugAssign (Expr.Name "other" _) _ _ _ :: _) _); first | refine' pss_seq (psd_aug 1 nd (by rfl) (by first | exact .inl rfl | exact .inr rfl) L2.ip_add (by rfl) ?_ (by first | exact .inr rfl | exact .inl rfl)) ?s2 | refine' pss_seq (psd_aug 1 nd (by rfl) (by first | exact .inl rfl | exact .inr rfl) L2.ip_sub (by rfl) ?_ (by first | exact .inr rfl | exact .inl rfl)) ?_))
set_option hygiene false in
local macro_rules | `(tactic| walk_at "tgn") => `(tactic| first
  | ((with_reducible show PG _ (Expr.Name "one" _) _); refine' pgd_name 0 nd (by rfl) (by first | exact .inl rfl | exact .inr rfl) (by first | exact .inr rfl | exact .inl rfl) (by first | decide | simp))
  | ((with_reducible show PG _ (Expr.Name "other" _) _); refine' pgd_name 1 nd (by rfl) (by first | exact .inl rfl | exact .inr rfl) (by first | exact .inr rfl | exact .inl rfl) (by first | decide | simp)))

variable {P : Program} {w : World} {K : PySem.W.Frag} {mg : Str → Option Value} {base : Heap} {cs : Cs}
theorem ok_divisor {f : Addr} {fd : FuncData} (F : Fun K "divisor" "divisor" s_divisor f fd) (T : Tx K mg cs) : FnOk P w K mg base (L2.CX P w) 1 f fd P_divisor (spD K R_divisor) := by
  refine def_ok F sc_divisor (fun ds r h => ?_) (by decide) (fun cdv A outer s H E ds r hr h => ?_)
  · obtain ⟨a, b, rfl, _⟩ := h; rfl
  · obtain ⟨a, b, rfl, rfl⟩ := h
    have nd := sc_divisor.nd
    refine pss_hd rfl ?_
    walk_at "run"
    refine pss_seq (psd_while (δf := [some (.int (gcdI a b)), some (.int 0)]) (fun δ m => ∃ x y : Int, 0 ≤ x ∧ 0 ≤ y ∧ m = y.toNat ∧ Int.gcd x y = Int.gcd a b ∧ δ = [some (.int x), some (.int y)]) (fun δ => ∃ x y : Int, 0 < y ∧ δ = [some (.int x), some (.int y)])
      (L2.passes_of (by rfl)) ⟨iabs a, iabs b, ?_, ?_, rfl, ?_, rfl⟩ ?_ ?_ ?_) ?_
    · rw [iabs_nat]; omega
    · rw [iabs_nat]; omega
    · rw [iabs_nat, iabs_nat]
      unfold Int.gcd
      rw [Int.natAbs_natCast, Int.natAbs_natCast]
    · rintro δ m ⟨x, y, hx, hy, rfl, hg, rfl⟩
      refine ptd_iff (ptd_gt (by walk_at "nm") pd_int) ⟨fun h => ⟨x, y, h, rfl⟩, fun ⟨x', y', h, q⟩ => ?_⟩
      simp at q
      omega
    · rintro δ m ⟨x, y, hx, hy, rfl, hg, rfl⟩ ⟨x', y', h, q⟩
      have h0 : 0 < y := by
        simp at q
        omega
      refine ⟨_, _, ?_, ⟨y, x % y, hy, Int.emod_nonneg _ (by omega), rfl, ?_, rfl⟩, pss_seq (psd_par 0 1 rfl nd rfl rfl (by decide) rfl rfl (pas_cons (by walk_at "nm") (pas_cons (pd_mod (by walk_at "nm") (by walk_at "nm") h0) pas_nil)) rfl) pss_nilD⟩
      · have := Int.emod_lt_of_pos x h0
        have := Int.emod_nonneg x (show y ≠ 0 by omega)
        omega
      · rw [gcd_step hx h0, hg]
    · rintro δ m ⟨x, y, hx, hy, rfl, hg, rfl⟩ h
      have h0 : y = 0 := by
        by_cases z : 0 < y
        · exact absurd ⟨x, y, z, rfl⟩ h
        · omega
      subst h0
      rw [Int.gcd_zero_right] at hg
      unfold gcdI
      rw [← hg, Int.natAbs_of_nonneg hx]
    · walk_at "run"
theorem cal_divisor {f : Addr} {fd : FuncData} (F : Fun K "divisor" "divisor" s_divisor f fd) (hm : mg "divisor" = some (.ref f)) (T : Tx K mg cs) : Cal P w K mg base "divisor" 1 P_divisor (R_divisor) := ⟨f, fd, ok_divisor F T, hm, F.kp, F.binds fun _ _ _ _ _ _ us hl => match us, hl with | [_, _], _ => rfl⟩
end
end K01
namespace K01
open PySem L2 Bl
section
/-! how a body is gone through: ev an expression, tv a test, ar arguments, st a block's next statement, bd the bits of a number -/
set_option hygiene false in
local macro_rules | `(tactic| walk_at "bdn") => `(tactic| first
  | ((with_reducible show Bd _ _); walk_at "bd")
  | ((fail_if_success (with_reducible show Bd _ _)); skip))
set_option hygiene false in
local macro_rules | `(tactic| walk_at "bd") => `(tactic| first
  | with_reducible assumption
  | ((refine' Bd.mul ?_ ?_) <;> walk_at "bdn")
  | ((refine' Bd.add ?_ ?_) <;> walk_at "bdn")
  | ((refine' Bd.sub ?_ ?_) <;> walk_at "bdn")
  | ((refine' Bd.neg ?_) <;> walk_at "bdn")
  | exact Bd.lit (a := 64) (by exact rfl)
  | exact Bd.lit (a := 210) (by exact rfl)
  | ((refine' Bd.imax ?_ ?_) <;> walk_at "bdn")
  | ((refine' Bd.imin ?_ ?_) <;> walk_at "bdn")
  | exact numOf_bd (n := 60) (m := 200) (by exact rfl) (by decide) _
  | exact numOf_bd (n := 20) (m := 67) (by exact rfl) (by decide) _
  | exact bd_mod (n := 12) (by decide) (by exact rfl)
  | exact bd_mod (n := 68) (by decide) (by exact rfl)
  | exact bd_mod (n := 200) (by decide) (by exact rfl)
  | ((refine' frT_bd (by first | assumption | omega) ?_) <;> walk_at "bdn")
  | ((refine' frB_bd (by first | assumption | omega) ?_) <;> walk_at "bdn")
  | walk_at "bdx")
set_option hygiene false in
local macro_rules | `(tactic| walk_at "mul") => `(tactic| first
  | exact Bd.cmul (by walk_at "bd") (by walk_at "bd") (by exact Nat.le_of_ble_eq_true rfl)
  | skip)
set_option hygiene false in
local macro_rules | `(tactic| walk_at "kit") => `(tactic| first
  | with_reducible exact kit_int_int
  | with_reducible exact kit_int_bool
  | with_reducible exact kit_int_tuple
  | with_reducible exact kit_int_list
  | with_reducible exact kit_bool_int
  | with_reducible exact kit_bool_bool
  | with_reducible exact kit_bool_tuple
  | with_reducible exact kit_bool_list
  | with_reducible exact kit_tuple_int
  | with_reducible exact kit_tuple_bool
  | with_reducible exact kit_tuple_tuple
  | with_reducible exact kit_tuple_list
  | with_reducible exact kit_list_int
  | with_reducible exact kit_list_bool
  | with_reducible exact kit_list_tuple
  | with_reducible exact kit_list_list
  | with_reducible exact kit_NoneType_int
  | with_reducible exact kit_NoneType_bool
  | with_reducible exact kit_NoneType_tuple
  | with_reducible exact kit_NoneType_list)
set_option hygiene false in
local macro_rules | `(tactic| walk_at "bdg") => `(tactic| first
  | assumption
  | exact Bd.mono (by walk_at "bd") (by exact Nat.le_of_ble_eq_true rfl)
  | skip)
set_option hygiene false in
local macro_rules | `(tactic| walk_at "side") => `(tactic| first
  | ((with_reducible show Bd _ _); walk_at "bdg")
  | ((with_reducible show kitB _ _ = _); walk_at "kit")
  | ((with_reducible show (_ : Prop)); first | assumption | with_reducible rfl | exact Nat.le_of_ble_eq_true rfl | decide | omega | rfl | exact ⟨by decide, by decide⟩ | skip)
  | skip)
set_option hygiene false in
local macro_rules | `(tactic| walk_at "go") => `(tactic| first
  | ((with_reducible show PE _ _ _); walk_at "ev")
  | ((with_reducible show PA _ _ _); walk_at "ar")
  | ((with_reducible show PT _ _ _); walk_at "tv")
  | ((with_reducible show PW _ _ _); walk_at "tw")
  | ((with_reducible show PSs _ _ _); skip)
  | ((with_reducible show CMulW _ _); walk_at "mul")
  | ((fail_if_success (with_reducible show PE _ _ _)); (fail_if_success (with_reducible show PA _ _ _)); (fail_if_success (with_reducible show PT _ _ _)); (fail_if_success (with_reducible show PW _ _ _)); walk_at "side"))
set_option hygiene false in
local macro_rules | `(tactic| walk_at "gof") => `(tactic| first
  | ((with_reducible show PE _ _ _); walk_at "ev")
  | ((with_reducible show PA _ _ _); walk_at "ar")
  | ((with_reducible show PT _ _ _); walk_at "tv")
  | ((with_reducible show PW _ _ _); walk_at "tw")
  | ((with_reducible show PSs _ _ _); skip)
  | ((with_reducible show CMulW _ _); walk_at "mul")
  | ((fail_if_success (with_reducible show PE _ _ _)); (fail_if_success (with_reducible show PA _ _ _)); (fail_if_success (with_reducible show PT _ _ _)); (fail_if_success (with_reducible show PW _ _ _)); first | ((with_reducible show (_ ∧ _)); exact ⟨by decide, by decide⟩) | ((fail_if_success (with_reducible show (_ ∧ _))); skip)))
set_option hygiene false in
local macro_rules | `(tactic| walk_at "ar") => `(tactic| first
  | with_reducible exact pas_nil
  | ((refine' pas_cons ?_ ?_ (by rfl)) <;> walk_at "go"))
set_option hygiene false in
local macro_rules | `(tactic| walk_at "ev") => `(tactic| first
  | with_reducible exact pd_int
  | walk_at "nm"
  | with_reducible exact pd_bl
  | with_reducible exact pd_non
  | ((with_reducible show PE _ (Expr.BinOp _ Operator.Add _ _) _); first | ((refine' pd_add ?_ ?_) <;> walk_at "go") | ((refine' pd_new (pn_cat ?_ ?_ ?_ ?_ ?_)) <;> walk_at "go"))
  | ((with_reducible show PE _ (Expr.BinOp _ Operator.Sub _ _) _); ((refine' pd_sub ?_ ?_) <;> walk_at "go"))
  | ((with_reducible show PE _ (Expr.BinOp _ Operator.Mult _ _) _); first | ((refine' pd_mul ?_ ?_ ?_) <;> walk_at "go") | ((refine' pd_new (pn_rep ?_ ?_ ?_ ?_ ?_)) <;> walk_at "go"))
  | ((with_reducible show PE _ (Expr.BinOp _ Operator.FloorDiv _ _) _); first | ((refine' pd_fdiv ?_ ?_ ?_) <;> walk_at "gof") | ((refine' pd_fdivW ?_ ?_ ?_) <;> walk_at "go"))
  | ((with_reducible show PE _ (Expr.BinOp _ Operator.Mod _ _) _); ((refine' pd_mod ?_ ?_ ?_) <;> walk_at "go"))
  | ((with_reducible show PE _ (Expr.BinOp _ Operator.Pow _ _) _); exact pd_powL ⟨by decide, by decide⟩)
  | ((with_reducible show PE _ (Expr.UnaryOp UnaryOp.USub _ _) _); ((refine' pd_neg ?_) <;> walk_at "go"))
  | ((with_reducible show PE _ (Expr.UnaryOp UnaryOp.Not _ _) _); ((refine' pd_not ?_) <;> walk_at "go"))
  | ((with_reducible show PE _ (Expr.Tuple _ _ _) _); ((refine' pd_tup ?_ ?_) <;> walk_at "go"))
  | ((with_reducible show PE _ (Expr.List _ _) _); ((refine' pd_new (pn_lst ?_ ?_)) <;> walk_at "go"))
  | ((with_reducible show PE _ (Expr.Attribute _ _ _) _); walk_at "fld")
  | ((with_reducible show PE _ (Expr.Compare _ [CmpOp.Lt] _ _) _); ((refine' pd_lt ?_ ?_) <;> walk_at "go"))
  | ((with_reducible show PE _ (Expr.Compare _ [CmpOp.LtE] _ _) _); ((refine' pd_le ?_ ?_) <;> walk_at "go"))
  | ((with_reducible show PE _ (Expr.Compare _ [CmpOp.Eq] _ _) _); ((refine' pd_eq ?_ ?_) <;> walk_at "go"))
  | ((with_reducible show PE _ (Expr.Call (Expr.Name "abs" _) _ _ _) _); ((refine' pd_abs (by rfl) T.n_abs ?_) <;> walk_at "go"))
  | ((with_reducible show PE _ (Expr.Call (Expr.Name "max" _) _ _ _) _); ((refine' pd_max (by rfl) (by rfl) T.n_max ?_ ?_) <;> walk_at "go"))
  | ((with_reducible show PE _ (Expr.Call (Expr.Name "min" _) _ _ _) _); ((refine' pd_min (by rfl) (by rfl) T.n_min ?_ ?_) <;> walk_at "go"))
  | ((with_reducible show PE _ (Expr.Call (Expr.Name "len" _) _ _ _) _); ((refine' pd_len (by rfl) T.n_len ?_ ?_) <;> walk_at "go"))
  | ((with_reducible show PE _ (Expr.Call (Expr.Name "sum" _) _ _ _) _); ((refine' pd_sum (by rfl) (by rfl) T.n_sum ?_ ?_) <;> walk_at "go"))
  | ((with_reducible show PE _ (Expr.Call (Expr.Name "list" _) _ _ _) _); ((refine' pd_new (pn_list (by rfl) T.n_list ?_ ?_)) <;> walk_at "go"))
  | ((with_reducible show PE _ (Expr.Call (Expr.Name "tuple" _) _ _ _) _); ((refine' pd_tuple (by rfl) T.n_tuple ?_ ?_) <;> walk_at "go"))
  | ((with_reducible show PE _ (Expr.Call (Expr.Name "isinstance" _) [_, Expr.Name "int" _] _ _) _); ((refine' pd_isi (by rfl) T.n_isinstance ?_ (pe_bltn (by rfl) T.n_int boot_intT rfl) ?_ ?_) <;> walk_at "go"))
  | ((with_reducible show PE _ (Expr.Call (Expr.Name "isinstance" _) [_, Expr.Name "bool" _] _ _) _); ((refine' pd_isi (by rfl) T.n_isinstance ?_ (pe_bltn (by rfl) T.n_bool boot_boolT rfl) ?_ ?_) <;> walk_at "go"))
  | ((with_reducible show PE _ (Expr.Call (Expr.Name "isinstance" _) [_, Expr.Name "tuple" _] _ _) _); ((refine' pd_isi (by rfl) T.n_isinstance ?_ (pe_bltn (by rfl) T.n_tuple boot_tupleT rfl) ?_ ?_) <;> walk_at "go"))
  | ((with_reducible show PE _ (Expr.Call (Expr.Name "isinstance" _) [_, Expr.Name "list" _] _ _) _); ((refine' pd_isi (by rfl) T.n_isinstance ?_ (pe_bltn (by rfl) T.n_list boot_listT rfl) ?_ ?_) <;> walk_at "go"))
  | ((with_reducible show PE _ (Expr.Call _ _ _ _) _); walk_at "cl")
  | ((with_reducible show PE _ (Expr.BoolOp _ [_] _) _); ((refine' pd_one ?_) <;> walk_at "go"))
  | ((with_reducible show PE _ (Expr.BoolOp BoolOp.And _ _) _); ((refine' pd_and ?_ (fun hyp => ?_)) <;> walk_at "go"))
  | ((with_reducible show PE _ (Expr.BoolOp BoolOp.Or _ _) _); ((refine' pd_or ?_ (fun hyp => ?_)) <;> walk_at "go"))
  | ((with_reducible show PE _ (Expr.Subscript _ _ _) _); ((refine' pd_ix ?_ ?_ (fun _ _ => rfl) ?_ ?_) <;> walk_at "go")))
set_option hygiene false in
local macro_rules | `(tactic| walk_at "tw") => `(tactic| first
  | ((refine' pwd_and1 ?_) <;> walk_at "go")
  | ((refine' pwd_or1 ?_) <;> walk_at "go")
  | ((refine' pwd_and ?_ (fun hyp => ?_)) <;> walk_at "go")
  | ((refine' pwd_or ?_ (fun hyp => ?_)) <;> walk_at "go"))
set_option hygiene false in
local macro_rules | `(tactic| walk_at "tv") => `(tactic| first
  | ((with_reducible show PT _ (Expr.Compare _ [CmpOp.Lt] _ _) _); ((refine' ptd_lt ?_ ?_) <;> walk_at "go"))
  | ((with_reducible show PT _ (Expr.Compare _ [CmpOp.LtE] _ _) _); ((refine' ptd_le ?_ ?_) <;> walk_at "go"))
  | ((with_reducible show PT _ (Expr.Compare _ [CmpOp.Gt] _ _) _); ((refine' ptd_gt ?_ ?_) <;> walk_at "go"))
  | ((with_reducible show PT _ (Expr.Compare _ [CmpOp.GtE] _ _) _); ((refine' ptd_ge ?_ ?_) <;> walk_at "go"))
  | ((with_reducible show PT _ (Expr.Compare _ [CmpOp.Eq] _ _) _); ((refine' ptd_eq ?_ ?_) <;> walk_at "go"))
  | ((with_reducible show PT _ (Expr.Compare _ [CmpOp.NotEq] _ _) _); ((refine' ptd_ne ?_ ?_) <;> walk_at "go"))
  | ((with_reducible show PT _ (Expr.BoolOp _ _ _) _); ((refine' PW.pt ?_) <;> walk_at "go"))
  | ((with_reducible show PT _ (Expr.UnaryOp UnaryOp.Not _ _) _); ((refine' ptd_not ?_) <;> walk_at "go"))
  | ((refine' ptd_val ?_ (fun _ => rfl)) <;> walk_at "go"))
set_option hygiene false in
local macro_rules | `(tactic| walk_at "st") => `(tactic| first
  | ((walk_at "set") <;> walk_at "go")
  | ((walk_at "aug") <;> walk_at "go")
  | ((with_reducible show PSs _ (Stmt.Return (some _) _ :: _) _); first | (((refine' pss_end (psd_ret ?_) True.intro) <;> walk_at "go"); done) | ((refine' pss_end (psd_ret (pd_cast ?_ ?_)) True.intro) <;> walk_at "go")))
set_option hygiene false in
local macro_rules | `(tactic| walk_at "if") => `(tactic| (focus (refine' pss_if ?_ ?_ ?_; rotate_left 1; walk_at "tv")))
set_option hygiene false in
local macro_rules | `(tactic| walk_at "run") => `(tactic| repeat' (walk_at "st"))
set_option hygiene false in
local macro_rules | `(tactic| walk_at "nm") => `(tactic| first
  | ((with_reducible refine' pd_var (x := "top") 0 ?_ ?_ ?_ ?_ ?_) <;> first | (with_reducible show D) | ((with_reducible show Vis _ _); first | exact .inl rfl | exact .inr (.inl rfl) | exact .inr (.inr rfl)) | ((with_reducible show (_ == _) = false); decide) | rfl)
  | ((with_reducible refine' pd_var (x := "bottom") 1 ?_ ?_ ?_ ?_ ?_) <;> first | (with_reducible show D) | ((with_reducible show Vis _ _); first | exact .inl rfl | exact .inr (.inl rfl) | exact .inr (.inr rfl)) | ((with_reducible show (_ == _) = false); decide) | rfl)
  | ((with_reducible refine' pd_var (x := "by") 2 ?_ ?_ ?_ ?_ ?_) <;> first | (with_reducible show D) | ((with_reducible show Vis _ _); first | exact .inl rfl | exact .inr (.inl rfl) | exact .inr (.inr rfl)) | ((with_reducible show (_ == _) = false); decide) | rfl))
set_option hygiene false in
local macro_rules | `(tactic| walk_at "set") => `(tactic| first
  | ((with_reducible show PSs _ (Stmt.Assign [Expr.Name "top" _] _ _ :: _) _); refine' pss_seq (psd_set 0 nd (by rfl) (by first | exact .inl rfl | exact .inr rfl) ?_ (by rfl) (by first | exact .inr rfl | exact .inl rfl)) ?_)
  | ((with_reducible show PSs _ (Stmt.Assign [Expr.Name "bottom" _] _ _ :: _) _); refine' pss_seq (psd_set 1 nd (by rfl) (by first | exact .inl rfl | exact .inr rfl) ?_ (by rfl) (by first | exact .inr rfl | exact .inl rfl)) ?_)
  | ((with_reducible show PSs _ (Stmt.Assign [Expr.Name "by" _] _ _ :: _) _); refine' pss_seq (psd_set 2 nd (by rfl) (by first | exact .inl rfl | exact .inr rfl) ?_ (by rfl) (by first | exact .inr rfl | exact .inl rfl)) ?_))
set_option hygiene false in
local macro_rules | `(tactic| walk_at "aug") => `(tactic| first
  | ((with_reducible show PSs _ (Stmt.AugAssign (Expr.Name "top" _) _ _ _ :: _) _); first | refine' pss_seq (psd_aug 0 nd (by rfl) (by first | exact .inl rfl | exact .inr rfl) L2.ip_add (by rfl) ?_ (by first | exact .inr rfl | exact .inl rfl)) ?s2 | refine' pss_seq (psd_aug 0 nd (by rfl) (by first | exact .inl rfl | exact .inr rfl) L2.ip_sub (by rfl) ?_ (by first | exact .inr rfl | exact .inl rfl)) ?_)
  | ((with_reducible show PSs _ (Stmt.AugAssign (Expr.Name "bottom" _) _ _ _ :: _) _); first | refine' pss_seq (psd_aug 1 nd (by rfl) (by first | exact .inl rfl | exact .inr rfl) L2.ip_add (by rfl) ?_ (by first | exact .inr rfl | exact .inl rfl)) ?s2 | refine' pss_seq (psd_aug 1 nd (by rfl) (by first | exact .inl rfl | exact .inr rfl) L2.ip_sub (by rfl) ?_ (by first | exact .inr rfl | exact .inl rfl)) ?_)
  | ((with_reducible show PSs _ (Stmt.AugAssign (Expr.Name "by" _) _ _ _ :: _) _); first | refine' pss_seq (psd_aug 2 nd (by rfl) (by first | exact .inl rfl | exact .inr rfl) L2.ip_add (by rfl) ?_ (by first | exact .inr rfl | exact .inl rfl)) ?s2 | refine' pss_seq (psd_aug 2 nd (by rfl) (by first | exact .inl rfl | exact .inr rfl) L2.ip_sub (by rfl) ?_ (by first | exact .inr rfl | exact .inl rfl)) ?_))
set_option hygiene false in
local macro_rules | `(tactic| walk_at "tgn") => `(tactic| first
  | ((with_reducible show PG _ (Expr.Name "top" _) _); refine' pgd_name 0 nd (by rfl) (by first | exact .inl rfl | exact .inr rfl) (by first | exact .inr rfl | exact .inl rfl) (by first | decide | simp))
  | ((with_reducible show PG _ (Expr.Name "bottom" _) _); refine' pgd_name 1 nd (by rfl) (by first | exact .inl rfl | exact .inr rfl) (by first | exact .inr rfl | exact .inl rfl) (by first | decide | simp))
  | ((with_reducible show PG _ (Expr.Name "by" _) _); refine' pgd_name 2 nd (by rfl) (by first | exact .inl rfl | exact .inr rfl) (by first | exact .inr rfl | exact .inl rfl) (by first | decide | simp)))
set_option hygiene false in
local macro_rules | `(tactic| walk_at "cl") => `(tactic| first
  | ((with_reducible show PE _ (Expr.Call (Expr.Name "divisor" _) _ _ _) _); (refine' pd_call c_divisor hr (by decide) (by rfl) ?_ ⟨_, _, rfl, rfl⟩) <;> walk_at "go"))
variable {P : Program} {w : World} {K : PySem.W.Frag} {mg : Str → Option Value} {base : Heap} {cs : Cs}
theorem ok_fraction {f : Addr} {fd : FuncData} (F : Fun K "fraction" "fraction" s_fraction f fd) (T : Tx K mg cs) (c_divisor : Cal P w K mg base "divisor" 1 P_divisor (R_divisor)) : FnOk P w K mg base (L2.CX P w) 2 f fd P_fraction (spD K (R_fraction cs)) := by
  refine def_ok F sc_fraction (fun ds r h => ?_) (by decide) (fun cdv A outer s H E ds r hr h => ?_)
  · obtain ⟨a, b, rfl, _⟩ := h; rfl
  · obtain ⟨t, b, rfl, h⟩ := h
    have nd := sc_fraction.nd
    refine pss_hd rfl ?_
    rcases h with ⟨h0, rfl⟩ | ⟨h0, hb, rfl⟩
    · refine pss_end (psd_ifT (by walk_at "tv") h0 (pss_end (psd_raise rfl (L2.takes_of rfl rfl rfl rfl) (pmk_own PySem.F.excBase_ValueError T.x_NoNumber T.g_NoNumber T.k_NoNumber (raises_own T.b_NoNumber T.t_NoNumber) rfl)) True.intro)) True.intro
    · refine pss_seq (psd_ifF (by walk_at "tv") h0 pss_nilD) ?_
      refine pss_seq (psd_set 2 nd rfl (.inl rfl) (pd_call c_divisor hr (by decide) (by rfl) (by walk_at "ar") ⟨t, b, rfl, rfl⟩) rfl (.inr rfl)) ?_
      refine pss_ifset (i := 2) (d1 := .int (0 - gcdI t b)) (d2 := .int (gcdI t b)) (by walk_at "tv") (fun h => ?_) rfl inferInstance ?_
      · walk_at "run"
        exact pss_nilD
      · have e : (if b < 0 then D.int (0 - gcdI t b) else D.int (gcdI t b)) = .int (byI t b) := by unfold byI; split <;> rfl
        rw [e]
        have hy : byI t b ≠ 0 ∧ (byI t b).natAbs.log2 < 9000 := ⟨byI_ne h0, log_of_bd (n := 8900) (Bd.le (y := b) (by rw [byI_abs]; exact gcdI_le h0) hb) (by decide) (by decide)⟩
        exact pss_end (psd_ret (pd_tup (pas_cons (pd_fdivS (by walk_at "nm") (by walk_at "nm") hy) (pas_cons (pd_fdivS (by walk_at "nm") (by walk_at "nm") hy) pas_nil)) (Nat.le_of_ble_eq_true rfl))) True.intro
theorem cal_fraction {f : Addr} {fd : FuncData} (F : Fun K "fraction" "fraction" s_fraction f fd) (hm : mg "fraction" = some (.ref f)) (T : Tx K mg cs) (c_divisor : Cal P w K mg base "divisor" 1 P_divisor (R_divisor)) : Cal P w K mg base "fraction" 2 P_fraction ((R_fraction cs)) := ⟨f, fd, ok_fraction F T c_divisor, hm, F.kp, F.binds fun _ _ _ _ _ _ us hl => match us, hl with | [_, _], _ => rfl⟩
end
end K01
namespace K01
open PySem L2 Bl
section
/-! how a body is gone through: ev an expression, tv a test, ar arguments, st a block's next statement, bd the bits of a number -/
set_option hygiene false in
local macro_rules | `(tactic| walk_at "bdn") => `(tactic| first
  | ((with_reducible show Bd _ _); walk_at "bd")
  | ((fail_if_success (with_reducible show Bd _ _)); skip))
set_option hygiene false in
local macro_rules | `(tactic| walk_at "bd") => `(tactic| first
  | with_reducible assumption
  | ((refine' Bd.mul ?_ ?_) <;> walk_at "bdn")
  | ((refine' Bd.add ?_ ?_) <;> walk_at "bdn")
  | ((refine' Bd.sub ?_ ?_) <;> walk_at "bdn")
  | ((refine' Bd.neg ?_) <;> walk_at "bdn")
  | exact Bd.lit (a := 64) (by exact rfl)
  | exact Bd.lit (a := 210) (by exact rfl)
  | ((refine' Bd.imax ?_ ?_) <;> walk_at "bdn")
  | ((refine' Bd.imin ?_ ?_) <;> walk_at "bdn")
  | exact numOf_bd (n := 60) (m := 200) (by exact rfl) (by decide) _
  | exact numOf_bd (n := 20) (m := 67) (by exact rfl) (by decide) _
  | exact bd_mod (n := 12) (by decide) (by exact rfl)
  | exact bd_mod (n := 68) (by decide) (by exact rfl)
  | exact bd_mod (n := 200) (by decide) (by exact rfl)
  | ((refine' frT_bd (by first | assumption | omega) ?_) <;> walk_at "bdn")
  | ((refine' frB_bd (by first | assumption | omega) ?_) <;> walk_at "bdn")
  | walk_at "bdx")
set_option hygiene false in
local macro_rules | `(tactic| walk_at "mul") => `(tactic| first
  | exact Bd.cmul (by walk_at "bd") (by walk_at "bd") (by exact Nat.le_of_ble_eq_true rfl)
  | skip)
set_option hygiene false in
local macro_rules | `(tactic| walk_at "kit") => `(tactic| first
  | with_reducible exact kit_int_int
  | with_reducible exact kit_int_bool
  | with_reducible exact kit_int_tuple
  | with_reducible exact kit_int_list
  | with_reducible exact kit_bool_int
  | with_reducible exact kit_bool_bool
  | with_reducible exact kit_bool_tuple
  | with_reducible exact kit_bool_list
  | with_reducible exact kit_tuple_int
  | with_reducible exact kit_tuple_bool
  | with_reducible exact kit_tuple_tuple
  | with_reducible exact kit_tuple_list
  | with_reducible exact kit_list_int
  | with_reducible exact kit_list_bool
  | with_reducible exact kit_list_tuple
  | with_reducible exact kit_list_list
  | with_reducible exact kit_NoneType_int
  | with_reducible exact kit_NoneType_bool
  | with_reducible exact kit_NoneType_tuple
  | with_reducible exact kit_NoneType_list)
set_option hygiene false in
local macro_rules | `(tactic| walk_at "bdg") => `(tactic| first
  | assumption
  | exact Bd.mono (by walk_at "bd") (by exact Nat.le_of_ble_eq_true rfl)
  | skip)
set_option hygiene false in
local macro_rules | `(tactic| walk_at "side") => `(tactic| first
  | ((with_reducible show Bd _ _); walk_at "bdg")
  | ((with_reducible show kitB _ _ = _); walk_at "kit")
  | ((with_reducible show (_ : Prop)); first | assumption | with_reducible rfl | exact Nat.le_of_ble_eq_true rfl | decide | omega | rfl | exact ⟨by decide, by decide⟩ | skip)
  | skip)
set_option hygiene false in
local macro_rules | `(tactic| walk_at "go") => `(tactic| first
  | ((with_reducible show PE _ _ _); walk_at "ev")
  | ((with_reducible show PA _ _ _); walk_at "ar")
  | ((with_reducible show PT _ _ _); walk_at "tv")
  | ((with_reducible show PW _ _ _); walk_at "tw")
  | ((with_reducible show PSs _ _ _); skip)
  | ((with_reducible show CMulW _ _); walk_at "mul")
  | ((fail_if_success (with_reducible show PE _ _ _)); (fail_if_success (with_reducible show PA _ _ _)); (fail_if_success (with_reducible show PT _ _ _)); (fail_if_success (with_reducible show PW _ _ _)); walk_at "side"))
set_option hygiene false in
local macro_rules | `(tactic| walk_at "gof") => `(tactic| first
  | ((with_reducible show PE _ _ _); walk_at "ev")
  | ((with_reducible show PA _ _ _); walk_at "ar")
  | ((with_reducible show PT _ _ _); walk_at "tv")
  | ((with_reducible show PW _ _ _); walk_at "tw")
  | ((with_reducible show PSs _ _ _); skip)
  | ((with_reducible show CMulW _ _); walk_at "mul")
  | ((fail_if_success (with_reducible show PE _ _ _)); (fail_if_success (with_reducible show PA _ _ _)); (fail_if_success (with_reducible show PT _ _ _)); (fail_if_success (with_reducible show PW _ _ _)); first | ((with_reducible show (_ ∧ _)); exact ⟨by decide, by decide⟩) | ((fail_if_success (with_reducible show (_ ∧ _))); skip)))
set_option hygiene false in
local macro_rules | `(tactic| walk_at "ar") => `(tactic| first
  | with_reducible exact pas_nil
  | ((refine' pas_cons ?_ ?_ (by rfl)) <;> walk_at "go"))
set_option hygiene false in
local macro_rules | `(tactic| walk_at "ev") => `(tactic| first
  | with_reducible exact pd_int
  | walk_at "nm"
  | with_reducible exact pd_bl
  | with_reducible exact pd_non
  | ((with_reducible show PE _ (Expr.BinOp _ Operator.Add _ _) _); first | ((refine' pd_add ?_ ?_) <;> walk_at "go") | ((refine' pd_new (pn_cat ?_ ?_ ?_ ?_ ?_)) <;> walk_at "go"))
  | ((with_reducible show PE _ (Expr.BinOp _ Operator.Sub _ _) _); ((refine' pd_sub ?_ ?_) <;> walk_at "go"))
  | ((with_reducible show PE _ (Expr.BinOp _ Operator.Mult _ _) _); first | ((refine' pd_mul ?_ ?_ ?_) <;> walk_at "go") | ((refine' pd_new (pn_rep ?_ ?_ ?_ ?_ ?_)) <;> walk_at "go"))
  | ((with_reducible show PE _ (Expr.BinOp _ Operator.FloorDiv _ _) _); first | ((refine' pd_fdiv ?_ ?_ ?_) <;> walk_at "gof") | ((refine' pd_fdivW ?_ ?_ ?_) <;> walk_at "go"))
  | ((with_reducible show PE _ (Expr.BinOp _ Operator.Mod _ _) _); ((refine' pd_mod ?_ ?_ ?_) <;> walk_at "go"))
  | ((with_reducible show PE _ (Expr.BinOp _ Operator.Pow _ _) _); exact pd_powL ⟨by decide, by decide⟩)
  | ((with_reducible show PE _ (Expr.UnaryOp UnaryOp.USub _ _) _); ((refine' pd_neg ?_) <;> walk_at "go"))
  | ((with_reducible show PE _ (Expr.UnaryOp UnaryOp.Not _ _) _); ((refine' pd_not ?_) <;> walk_at "go"))
  | ((with_reducible show PE _ (Expr.Tuple _ _ _) _); ((refine' pd_tup ?_ ?_) <;> walk_at "go"))
  | ((with_reducible show PE _ (Expr.List _ _) _); ((refine' pd_new (pn_lst ?_ ?_)) <;> walk_at "go"))
  | ((with_reducible show PE _ (Expr.Attribute _ _ _) _); walk_at "fld")
  | ((with_reducible show PE _ (Expr.Compare _ [CmpOp.Lt] _ _) _); ((refine' pd_lt ?_ ?_) <;> walk_at "go"))
  | ((with_reducible show PE _ (Expr.Compare _ [CmpOp.LtE] _ _) _); ((refine' pd_le ?_ ?_) <;> walk_at "go"))
  | ((with_reducible show PE _ (Expr.Compare _ [CmpOp.Eq] _ _) _); ((refine' pd_eq ?_ ?_) <;> walk_at "go"))
  | ((with_reducible show PE _ (Expr.Call (Expr.Name "abs" _) _ _ _) _); ((refine' pd_abs (by rfl) T.n_abs ?_) <;> walk_at "go"))
  | ((with_reducible show PE _ (Expr.Call (Expr.Name "max" _) _ _ _) _); ((refine' pd_max (by rfl) (by rfl) T.n_max ?_ ?_) <;> walk_at "go"))
  | ((with_reducible show PE _ (Expr.Call (Expr.Name "min" _) _ _ _) _); ((refine' pd_min (by rfl) (by rfl) T.n_min ?_ ?_) <;> walk_at "go"))
  | ((with_reducible show PE _ (Expr.Call (Expr.Name "len" _) _ _ _) _); ((refine' pd_len (by rfl) T.n_len ?_ ?_) <;> walk_at "go"))
  | ((with_reducible show PE _ (Expr.Call (Expr.Name "sum" _) _ _ _) _); ((refine' pd_sum (by rfl) (by rfl) T.n_sum ?_ ?_) <;> walk_at "go"))
  | ((with_reducible show PE _ (Expr.Call (Expr.Name "list" _) _ _ _) _); ((refine' pd_new (pn_list (by rfl) T.n_list ?_ ?_)) <;> walk_at "go"))
  | ((with_reducible show PE _ (Expr.Call (Expr.Name "tuple" _) _ _ _) _); ((refine' pd_tuple (by rfl) T.n_tuple ?_ ?_) <;> walk_at "go"))
  | ((with_reducible show PE _ (Expr.Call (Expr.Name "isinstance" _) [_, Expr.Name "int" _] _ _) _); ((refine' pd_isi (by rfl) T.n_isinstance ?_ (pe_bltn (by rfl) T.n_int boot_intT rfl) ?_ ?_) <;> walk_at "go"))
  | ((with_reducible show PE _ (Expr.Call (Expr.Name "isinstance" _) [_, Expr.Name "bool" _] _ _) _); ((refine' pd_isi (by rfl) T.n_isinstance ?_ (pe_bltn (by rfl) T.n_bool boot_boolT rfl) ?_ ?_) <;> walk_at "go"))
  | ((with_reducible show PE _ (Expr.Call (Expr.Name "isinstance" _) [_, Expr.Name "tuple" _] _ _) _); ((refine' pd_isi (by rfl) T.n_isinstance ?_ (pe_bltn (by rfl) T.n_tuple boot_tupleT rfl) ?_ ?_) <;> walk_at "go"))
  | ((with_reducible show PE _ (Expr.Call (Expr.Name "isinstance" _) [_, Expr.Name "list" _] _ _) _); ((refine' pd_isi (by rfl) T.n_isinstance ?_ (pe_bltn (by rfl) T.n_list boot_listT rfl) ?_ ?_) <;> walk_at "go"))
  | ((with_reducible show PE _ (Expr.Call _ _ _ _) _); walk_at "cl")
  | ((with_reducible show PE _ (Expr.BoolOp _ [_] _) _); ((refine' pd_one ?_) <;> walk_at "go"))
  | ((with_reducible show PE _ (Expr.BoolOp BoolOp.And _ _) _); ((refine' pd_and ?_ (fun hyp => ?_)) <;> walk_at "go"))
  | ((with_reducible show PE _ (Expr.BoolOp BoolOp.Or _ _) _); ((refine' pd_or ?_ (fun hyp => ?_)) <;> walk_at "go"))
  | ((with_reducible show PE _ (Expr.Subscript _ _ _) _); ((refine' pd_ix ?_ ?_ (fun _ _ => rfl) ?_ ?_) <;> walk_at "go")))
set_option hygiene false in
local macro_rules | `(tactic| walk_at "tw") => `(tactic| first
  | ((refine' pwd_and1 ?_) <;> walk_at "go")
  | ((refine' pwd_or1 ?_) <;> walk_at "go")
  | ((refine' pwd_and ?_ (fun hyp => ?_)) <;> walk_at "go")
  | ((refine' pwd_or ?_ (fun hyp => ?_)) <;> walk_at "go"))
set_option hygiene false in
local macro_rules | `(tactic| walk_at "tv") => `(tactic| first
  | ((with_reducible show PT _ (Expr.Compare _ [CmpOp.Lt] _ _) _); ((refine' ptd_lt ?_ ?_) <;> walk_at "go"))
  | ((with_reducible show PT _ (Expr.Compare _ [CmpOp.LtE] _ _) _); ((refine' ptd_le ?_ ?_) <;> walk_at "go"))
  | ((with_reducible show PT _ (Expr.Compare _ [CmpOp.Gt] _ _) _); ((refine' ptd_gt ?_ ?_) <;> walk_at "go"))
  | ((with_reducible show PT _ (Expr.Compare _ [CmpOp.GtE] _ _) _); ((refine' ptd_ge ?_ ?_) <;> walk_at "go"))
  | ((with_reducible show PT _ (Expr.Compare _ [CmpOp.Eq] _ _) _); ((refine' ptd_eq ?_ ?_) <;> walk_at "go"))
  | ((with_reducible show PT _ (Expr.Compare _ [CmpOp.NotEq] _ _) _); ((refine' ptd_ne ?_ ?_) <;> walk_at "go"))
  | ((with_reducible show PT _ (Expr.BoolOp _ _ _) _); ((refine' PW.pt ?_) <;> walk_at "go"))
  | ((with_reducible show PT _ (Expr.UnaryOp UnaryOp.Not _ _) _); ((refine' ptd_not ?_) <;> walk_at "go"))
  | ((refine' ptd_val ?_ (fun _ => rfl)) <;> walk_at "go"))
set_option hygiene false in
local macro_rules | `(tactic| walk_at "st") => `(tactic| first
  | ((walk_at "set") <;> walk_at "go")
  | ((walk_at "aug") <;> walk_at "go")
  | ((with_reducible show PSs _ (Stmt.Return (some _) _ :: _) _); first | (((refine' pss_end (psd_ret ?_) True.intro) <;> walk_at "go"); done) | ((refine' pss_end (psd_ret (pd_cast ?_ ?_)) True.intro) <;> walk_at "go")))
set_option hygiene false in
local macro_rules | `(tactic| walk_at "if") => `(tactic| (focus (refine' pss_if ?_ ?_ ?_; rotate_left 1; walk_at "tv")))
set_option hygiene false in
local macro_rules | `(tactic| walk_at "run") => `(tactic| repeat' (walk_at "st"))
set_option hygiene false in
local macro_rules | `(tactic| walk_at "nm") => `(tactic| first
  | ((with_reducible refine' pd_var (x := "_law_script") 0 ?_ ?_ ?_ ?_ ?_) <;> first | (with_reducible show D) | ((with_reducible show Vis _ _); first | exact .inl rfl | exact .inr (.inl rfl) | exact .inr (.inr rfl)) | ((with_reducible show (_ == _) = false); decide) | rfl)
  | ((with_reducible refine' pd_var (x := "_law_k") 1 ?_ ?_ ?_ ?_ ?_) <;> first | (with_reducible show D) | ((with_reducible show Vis _ _); first | exact .inl rfl | exact .inr (.inl rfl) | exact .inr (.inr rfl)) | ((with_reducible show (_ == _) = false); decide) | rfl))
set_option hygiene false in
local macro_rules | `(tactic| walk_at "set") => `(tactic| first
  | ((with_reducible show PSs _ (Stmt.Assign [Expr.Name "_law_script" _] _ _ :: _) _); refine' pss_seq (psd_set 0 nd (by rfl) (by first | exact .inl rfl | exact .inr rfl) ?_ (by rfl) (by first | exact .inr rfl | exact .inl rfl)) ?_)
  | ((with_reducible show PSs _ (Stmt.Assign [Expr.Name "_law_k" _] _ _ :: _) _); refine' pss_seq (psd_set 1 nd (by rfl) (by first | exact .inl rfl | exact .inr rfl) ?_ (by rfl) (by first | exact .inr rfl | exact .inl rfl)) ?_))
set_option hygiene false in
local macro_rules | `(tactic| walk_at "aug") => `(tactic| first
  | ((with_reducible show PSs _ (Stmt.AugAssign (Expr.Name "_law_script" _) _ _ _ :: _) _); first | refine' pss_seq (psd_aug 0 nd (by rfl) (by first | exact .inl rfl | exact .inr rfl) L2.ip_add (by rfl) ?_ (by first | exact .inr rfl | exact .inl rfl)) ?s2 | refine' pss_seq (psd_aug 0 nd (by rfl) (by first | exact .inl rfl | exact .inr rfl) L2.ip_sub (by rfl) ?_ (by first | exact .inr rfl | exact .inl rfl)) ?_)
  | ((with_reducible show PSs _ (Stmt.AugAssign (Expr.Name "_law_k" _) _ _ _ :: _) _); first | refine' pss_seq (psd_aug 1 nd (by rfl) (by first | exact .inl rfl | exact .inr rfl) L2.ip_add (by rfl) ?_ (by first | exact .inr rfl | exact .inl rfl)) ?s2 | refine' pss_seq (psd_aug 1 nd (by rfl) (by first | exact .inl rfl | exact .inr rfl) L2.ip_sub (by rfl) ?_ (by first | exact .inr rfl | exact .inl rfl)) ?_))
set_option hygiene false in
local macro_rules | `(tactic| walk_at "tgn") => `(tactic| first
  | ((with_reducible show PG _ (Expr.Name "_law_script" _) _); refine' pgd_name 0 nd (by rfl) (by first | exact .inl rfl | exact .inr rfl) (by first | exact .inr rfl | exact .inl rfl) (by first | decide | simp))
  | ((with_reducible show PG _ (Expr.Name "_law_k" _) _); refine' pgd_name 1 nd (by rfl) (by first | exact .inl rfl | exact .inr rfl) (by first | exact .inr rfl | exact .inl rfl) (by first | decide | simp)))

variable {P : Program} {w : World} {K : PySem.W.Frag} {mg : Str → Option Value} {base : Heap} {cs : Cs}
theorem ok_l_cell_at {f : Addr} {fd : FuncData} (F : Fun K "_law_cell_at" "_law_cell_at" s_l_cell_at f fd) (T : Tx K mg cs) : FnOk P w K mg base (L2.CX P w) 1 f fd P_l_cell_at (spD K R_cell) := by
  refine def_ok F sc_l_cell_at (fun ds r h => ?_) (by decide) (fun cdv A outer s H E ds r hr h => ?_)
  · obtain ⟨a, b, rfl, _⟩ := h; rfl
  · obtain ⟨ns, k, rfl, hk, rfl⟩ := h
    obtain ⟨k, rfl⟩ := Int.eq_ofNat_of_zero_le hk
    rw [Int.toNat_natCast]
    have nd := sc_l_cell_at.nd
    refine pss_hd rfl ?_
    have hl : (ns.map D.int).length = ns.length := List.length_map ..
    by_cases h : k < ns.length
    · refine pss_end (psd_ifT (by walk_at "tv") (by rw [hl]; omega) (pss_end (psd_ret (pd_ix (by walk_at "nm") (by walk_at "nm") (fun _ _ => rfl) rfl (atI_lit (v := D.int (cell ns k)) ?_))) True.intro)) True.intro
      unfold cell
      rw [List.getElem?_map, List.getD_eq_getElem?_getD]
      rw [List.getElem?_eq_getElem h]
      rfl
    · refine pss_seq (psd_ifF (by walk_at "tv") (by rw [hl]; omega) pss_nilD) ?_
      refine pss_end (psd_ret (pd_cast pd_int ?_)) True.intro
      unfold cell
      rw [List.getD_eq_getElem?_getD, List.getElem?_eq_none (by omega)]
      rfl
theorem cal_l_cell_at {f : Addr} {fd : FuncData} (F : Fun K "_law_cell_at" "_law_cell_at" s_l_cell_at f fd) (hm : mg "_law_cell_at" = some (.ref f)) (T : Tx K mg cs) : Cal P w K mg base "_law_cell_at" 1 P_l_cell_at (R_cell) := ⟨f, fd, ok_l_cell_at F T, hm, F.kp, F.binds fun _ _ _ _ _ _ us hl => match us, hl with | [_, _], _ => rfl⟩
end
end K01
namespace K01
open PySem L2 Bl
section
/-! how a body is gone through: ev an expression, tv a test, ar arguments, st a block's next statement, bd the bits of a number -/
set_option hygiene false in
local macro_rules | `(tactic| walk_at "bdn") => `(tactic| first
  | ((with_reducible show Bd _ _); walk_at "bd")
  | ((fail_if_success (with_reducible show Bd _ _)); skip))
set_option hygiene false in
local macro_rules | `(tactic| walk_at "bd") => `(tactic| first
  | with_reducible assumption
  | ((refine' Bd.mul ?_ ?_) <;> walk_at "bdn")
  | ((refine' Bd.add ?_ ?_) <;> walk_at "bdn")
  | ((refine' Bd.sub ?_ ?_) <;> walk_at "bdn")
  | ((refine' Bd.neg ?_) <;> walk_at "bdn")
  | exact Bd.lit (a := 64) (by exact rfl)
  | exact Bd.lit (a := 210) (by exact rfl)
  | ((refine' Bd.imax ?_ ?_) <;> walk_at "bdn")
  | ((refine' Bd.imin ?_ ?_) <;> walk_at "bdn")
  | exact numOf_bd (n := 60) (m := 200) (by exact rfl) (by decide) _
  | exact numOf_bd (n := 20) (m := 67) (by exact rfl) (by decide) _
  | exact bd_mod (n := 12) (by decide) (by exact rfl)
  | exact bd_mod (n := 68) (by decide) (by exact rfl)
  | exact bd_mod (n := 200) (by decide) (by exact rfl)
  | ((refine' frT_bd (by first | assumption | omega) ?_) <;> walk_at "bdn")
  | ((refine' frB_bd (by first | assumption | omega) ?_) <;> walk_at "bdn")
  | walk_at "bdx")
set_option hygiene false in
local macro_rules | `(tactic| walk_at "mul") => `(tactic| first
  | exact Bd.cmul (by walk_at "bd") (by walk_at "bd") (by exact Nat.le_of_ble_eq_true rfl)
  | skip)
set_option hygiene false in
local macro_rules | `(tactic| walk_at "kit") => `(tactic| first
  | with_reducible exact kit_int_int
  | with_reducible exact kit_int_bool
  | with_reducible exact kit_int_tuple
  | with_reducible exact kit_int_list
  | with_reducible exact kit_bool_int
  | with_reducible exact kit_bool_bool
  | with_reducible exact kit_bool_tuple
  | with_reducible exact kit_bool_list
  | with_reducible exact kit_tuple_int
  | with_reducible exact kit_tuple_bool
  | with_reducible exact kit_tuple_tuple
  | with_reducible exact kit_tuple_list
  | with_reducible exact kit_list_int
  | with_reducible exact kit_list_bool
  | with_reducible exact kit_list_tuple
  | with_reducible exact kit_list_list
  | with_reducible exact kit_NoneType_int
  | with_reducible exact kit_NoneType_bool
  | with_reducible exact kit_NoneType_tuple
  | with_reducible exact kit_NoneType_list)
set_option hygiene false in
local macro_rules | `(tactic| walk_at "bdg") => `(tactic| first
  | assumption
  | exact Bd.mono (by walk_at "bd") (by exact Nat.le_of_ble_eq_true rfl)
  | skip)
set_option hygiene false in
local macro_rules | `(tactic| walk_at "side") => `(tactic| first
  | ((with_reducible show Bd _ _); walk_at "bdg")
  | ((with_reducible show kitB _ _ = _); walk_at "kit")
  | ((with_reducible show (_ : Prop)); first | assumption | with_reducible rfl | exact Nat.le_of_ble_eq_true rfl | decide | omega | rfl | exact ⟨by decide, by decide⟩ | skip)
  | skip)
set_option hygiene false in
local macro_rules | `(tactic| walk_at "go") => `(tactic| first
  | ((with_reducible show PE _ _ _); walk_at "ev")
  | ((with_reducible show PA _ _ _); walk_at "ar")
  | ((with_reducible show PT _ _ _); walk_at "tv")
  | ((with_reducible show PW _ _ _); walk_at "tw")
  | ((with_reducible show PSs _ _ _); skip)
  | ((with_reducible show CMulW _ _); walk_at "mul")
  | ((fail_if_success (with_reducible show PE _ _ _)); (fail_if_success (with_reducible show PA _ _ _)); (fail_if_success (with_reducible show PT _ _ _)); (fail_if_success (with_reducible show PW _ _ _)); walk_at "side"))
set_option hygiene false in
local macro_rules | `(tactic| walk_at "gof") => `(tactic| first
  | ((with_reducible show PE _ _ _); walk_at "ev")
  | ((with_reducible show PA _ _ _); walk_at "ar")
  | ((with_reducible show PT _ _ _); walk_at "tv")
  | ((with_reducible show PW _ _ _); walk_at "tw")
  | ((with_reducible show PSs _ _ _); skip)
  | ((with_reducible show CMulW _ _); walk_at "mul")
  | ((fail_if_success (with_reducible show PE _ _ _)); (fail_if_success (with_reducible show PA _ _ _)); (fail_if_success (with_reducible show PT _ _ _)); (fail_if_success (with_reducible show PW _ _ _)); first | ((with_reducible show (_ ∧ _)); exact ⟨by decide, by decide⟩) | ((fail_if_success (with_reducible show (_ ∧ _))); skip)))
set_option hygiene false in
local macro_rules | `(tactic| walk_at "ar") => `(tactic| first
  | with_reducible exact pas_nil
  | ((refine' pas_cons ?_ ?_ (by rfl)) <;> walk_at "go"))
set_option hygiene false in
local macro_rules | `(tactic| walk_at "ev") => `(tactic| first
  | with_reducible exact pd_int
  | walk_at "nm"
  | with_reducible exact pd_bl
  | with_reducible exact pd_non
  | ((with_reducible show PE _ (Expr.BinOp _ Operator.Add _ _) _); first | ((refine' pd_add ?_ ?_) <;> walk_at "go") | ((refine' pd_new (pn_cat ?_ ?_ ?_ ?_ ?_)) <;> walk_at "go"))
  | ((with_reducible show PE _ (Expr.BinOp _ Operator.Sub _ _) _); ((refine' pd_sub ?_ ?_) <;> walk_at "go"))
  | ((with_reducible show PE _ (Expr.BinOp _ Operator.Mult _ _) _); first | ((refine' pd_mul ?_ ?_ ?_) <;> walk_at "go") | ((refine' pd_new (pn_rep ?_ ?_ ?_ ?_ ?_)) <;> walk_at "go"))
  | ((with_reducible show PE _ (Expr.BinOp _ Operator.FloorDiv _ _) _); first | ((refine' pd_fdiv ?_ ?_ ?_) <;> walk_at "gof") | ((refine' pd_fdivW ?_ ?_ ?_) <;> walk_at "go"))
  | ((with_reducible show PE _ (Expr.BinOp _ Operator.Mod _ _) _); ((refine' pd_mod ?_ ?_ ?_) <;> walk_at "go"))
  | ((with_reducible show PE _ (Expr.BinOp _ Operator.Pow _ _) _); exact pd_powL ⟨by decide, by decide⟩)
  | ((with_reducible show PE _ (Expr.UnaryOp UnaryOp.USub _ _) _); ((refine' pd_neg ?_) <;> walk_at "go"))
  | ((with_reducible show PE _ (Expr.UnaryOp UnaryOp.Not _ _) _); ((refine' pd_not ?_) <;> walk_at "go"))
  | ((with_reducible show PE _ (Expr.Tuple _ _ _) _); ((refine' pd_tup ?_ ?_) <;> walk_at "go"))
  | ((with_reducible show PE _ (Expr.List _ _) _); ((refine' pd_new (pn_lst ?_ ?_)) <;> walk_at "go"))
  | ((with_reducible show PE _ (Expr.Attribute _ _ _) _); walk_at "fld")
  | ((with_reducible show PE _ (Expr.Compare _ [CmpOp.Lt] _ _) _); ((refine' pd_lt ?_ ?_) <;> walk_at "go"))
  | ((with_reducible show PE _ (Expr.Compare _ [CmpOp.LtE] _ _) _); ((refine' pd_le ?_ ?_) <;> walk_at "go"))
  | ((with_reducible show PE _ (Expr.Compare _ [CmpOp.Eq] _ _) _); ((refine' pd_eq ?_ ?_) <;> walk_at "go"))
  | ((with_reducible show PE _ (Expr.Call (Expr.Name "abs" _) _ _ _) _); ((refine' pd_abs (by rfl) T.n_abs ?_) <;> walk_at "go"))
  | ((with_reducible show PE _ (Expr.Call (Expr.Name "max" _) _ _ _) _); ((refine' pd_max (by rfl) (by rfl) T.n_max ?_ ?_) <;> walk_at "go"))
  | ((with_reducible show PE _ (Expr.Call (Expr.Name "min" _) _ _ _) _); ((refine' pd_min (by rfl) (by rfl) T.n_min ?_ ?_) <;> walk_at "go"))
  | ((with_reducible show PE _ (Expr.Call (Expr.Name "len" _) _ _ _) _); ((refine' pd_len (by rfl) T.n_len ?_ ?_) <;> walk_at "go"))
  | ((with_reducible show PE _ (Expr.Call (Expr.Name "sum" _) _ _ _) _); ((refine' pd_sum (by rfl) (by rfl) T.n_sum ?_ ?_) <;> walk_at "go"))
  | ((with_reducible show PE _ (Expr.Call (Expr.Name "list" _) _ _ _) _); ((refine' pd_new (pn_list (by rfl) T.n_list ?_ ?_)) <;> walk_at "go"))
  | ((with_reducible show PE _ (Expr.Call (Expr.Name "tuple" _) _ _ _) _); ((refine' pd_tuple (by rfl) T.n_tuple ?_ ?_) <;> walk_at "go"))
  | ((with_reducible show PE _ (Expr.Call (Expr.Name "isinstance" _) [_, Expr.Name "int" _] _ _) _); ((refine' pd_isi (by rfl) T.n_isinstance ?_ (pe_bltn (by rfl) T.n_int boot_intT rfl) ?_ ?_) <;> walk_at "go"))
  | ((with_reducible show PE _ (Expr.Call (Expr.Name "isinstance" _) [_, Expr.Name "bool" _] _ _) _); ((refine' pd_isi (by rfl) T.n_isinstance ?_ (pe_bltn (by rfl) T.n_bool boot_boolT rfl) ?_ ?_) <;> walk_at "go"))
  | ((with_reducible show PE _ (Expr.Call (Expr.Name "isinstance" _) [_, Expr.Name "tuple" _] _ _) _); ((refine' pd_isi (by rfl) T.n_isinstance ?_ (pe_bltn (by rfl) T.n_tuple boot_tupleT rfl) ?_ ?_) <;> walk_at "go"))
  | ((with_reducible show PE _ (Expr.Call (Expr.Name "isinstance" _) [_, Expr.Name "list" _] _ _) _); ((refine' pd_isi (by rfl) T.n_isinstance ?_ (pe_bltn (by rfl) T.n_list boot_listT rfl) ?_ ?_) <;> walk_at "go"))
  | ((with_reducible show PE _ (Expr.Call _ _ _ _) _); walk_at "cl")
  | ((with_reducible show PE _ (Expr.BoolOp _ [_] _) _); ((refine' pd_one ?_) <;> walk_at "go"))
  | ((with_reducible show PE _ (Expr.BoolOp BoolOp.And _ _) _); ((refine' pd_and ?_ (fun hyp => ?_)) <;> walk_at "go"))
  | ((with_reducible show PE _ (Expr.BoolOp BoolOp.Or _ _) _); ((refine' pd_or ?_ (fun hyp => ?_)) <;> walk_at "go"))
  | ((with_reducible show PE _ (Expr.Subscript _ _ _) _); ((refine' pd_ix ?_ ?_ (fun _ _ => rfl) ?_ ?_) <;> walk_at "go")))
set_option hygiene false in
local macro_rules | `(tactic| walk_at "tw") => `(tactic| first
  | ((refine' pwd_and1 ?_) <;> walk_at "go")
  | ((refine' pwd_or1 ?_) <;> walk_at "go")
  | ((refine' pwd_and ?_ (fun hyp => ?_)) <;> walk_at "go")
  | ((refine' pwd_or ?_ (fun hyp => ?_)) <;> walk_at "go"))
set_option hygiene false in
local macro_rules | `(tactic| walk_at "tv") => `(tactic| first
  | ((with_reducible show PT _ (Expr.Compare _ [CmpOp.Lt] _ _) _); ((refine' ptd_lt ?_ ?_) <;> walk_at "go"))
  | ((with_reducible show PT _ (Expr.Compare _ [CmpOp.LtE] _ _) _); ((refine' ptd_le ?_ ?_) <;> walk_at "go"))
  | ((with_reducible show PT _ (Expr.Compare _ [CmpOp.Gt] _ _) _); ((refine' ptd_gt ?_ ?_) <;> walk_at "go"))
  | ((with_reducible show PT _ (Expr.Compare _ [CmpOp.GtE] _ _) _); ((refine' ptd_ge ?_ ?_) <;> walk_at "go"))
  | ((with_reducible show PT _ (Expr.Compare _ [CmpOp.Eq] _ _) _); ((refine' ptd_eq ?_ ?_) <;> walk_at "go"))
  | ((with_reducible show PT _ (Expr.Compare _ [CmpOp.NotEq] _ _) _); ((refine' ptd_ne ?_ ?_) <;> walk_at "go"))
  | ((with_reducible show PT _ (Expr.BoolOp _ _ _) _); ((refine' PW.pt ?_) <;> walk_at "go"))
  | ((with_reducible show PT _ (Expr.UnaryOp UnaryOp.Not _ _) _); ((refine' ptd_not ?_) <;> walk_at "go"))
  | ((refine' ptd_val ?_ (fun _ => rfl)) <;> walk_at "go"))
set_option hygiene false in
local macro_rules | `(tactic| walk_at "st") => `(tactic| first
  | ((walk_at "set") <;> walk_at "go")
  | ((walk_at "aug") <;> walk_at "go")
  | ((with_reducible show PSs _ (Stmt.Return (some _) _ :: _) _); first | (((refine' pss_end (psd_ret ?_) True.intro) <;> walk_at "go"); done) | ((refine' pss_end (psd_ret (pd_cast ?_ ?_)) True.intro) <;> walk_at "go")))
set_option hygiene false in
local macro_rules | `(tactic| walk_at "if") => `(tactic| (focus (refine' pss_if ?_ ?_ ?_; rotate_left 1; walk_at "tv")))
set_option hygiene false in
local macro_rules | `(tactic| walk_at "run") => `(tactic| repeat' (walk_at "st"))
set_option hygiene false in
local macro_rules | `(tactic| walk_at "nm") => `(tactic| first
  | ((with_reducible refine' pd_var (x := "_law_found") 0 ?_ ?_ ?_ ?_ ?_) <;> first | (with_reducible show D) | ((with_reducible show Vis _ _); first | exact .inl rfl | exact .inr (.inl rfl) | exact .inr (.inr rfl)) | ((with_reducible show (_ == _) = false); decide) | rfl))
set_option hygiene false in
local macro_rules | `(tactic| walk_at "set") => `(tactic| first
  | ((with_reducible show PSs _ (Stmt.Assign [Expr.Name "_law_found" _] _ _ :: _) _); refine' pss_seq (psd_set 0 nd (by rfl) (by first | exact .inl rfl | exact .inr rfl) ?_ (by rfl) (by first | exact .inr rfl | exact .inl rfl)) ?_))
set_option hygiene false in
local macro_rules | `(tactic| walk_at "aug") => `(tactic| first
  | ((with_reducible show PSs _ (Stmt.AugAssign (Expr.Name "_law_found" _) _ _ _ :: _) _); first | refine' pss_seq (psd_aug 0 nd (by rfl) (by first | exact .inl rfl | exact .inr rfl) L2.ip_add (by rfl) ?_ (by first | exact .inr rfl | exact .inl rfl)) ?s2 | refine' pss_seq (psd_aug 0 nd (by rfl) (by first | exact .inl rfl | exact .inr rfl) L2.ip_sub (by rfl) ?_ (by first | exact .inr rfl | exact .inl rfl)) ?_))
set_option hygiene false in
local macro_rules | `(tactic| walk_at "tgn") => `(tactic| first
  | ((with_reducible show PG _ (Expr.Name "_law_found" _) _); refine' pgd_name 0 nd (by rfl) (by first | exact .inl rfl | exact .inr rfl) (by first | exact .inr rfl | exact .inl rfl) (by first | decide | simp)))

variable {P : Program} {w : World} {K : PySem.W.Frag} {mg : Str → Option Value} {base : Heap} {cs : Cs}
theorem ok_l_whole {f : Addr} {fd : FuncData} (F : Fun K "_law_whole" "_law_whole" s_l_whole f fd) (T : Tx K mg cs) : FnOk P w K mg base (L2.CX P w) 1 f fd P_l_whole (spD K R_whole) := by
  refine def_ok F sc_l_whole (fun ds r h => ?_) (by decide) (fun cdv A outer s H E ds r hr h => ?_)
  · obtain ⟨a, rfl, _⟩ := h; rfl
  · obtain ⟨n, rfl, rfl⟩ := h
    have nd := sc_l_whole.nd
    refine pss_hd rfl ?_
    exact pss_end (psd_ret (pd_and (pd_isi (t := "int") (r := true) (by rfl) T.n_isinstance (by walk_at "nm") (pe_bltn (by rfl) T.n_int boot_intT rfl) (by rfl) (by decide +kernel)) fun _ => pd_one (pd_not (pd_isi (t := "int") (r := false) (by rfl) T.n_isinstance (by walk_at "nm") (pe_bltn (by rfl) T.n_bool boot_boolT rfl) (by rfl) (by decide +kernel))))) True.intro
theorem cal_l_whole {f : Addr} {fd : FuncData} (F : Fun K "_law_whole" "_law_whole" s_l_whole f fd) (hm : mg "_law_whole" = some (.ref f)) (T : Tx K mg cs) : Cal P w K mg base "_law_whole" 1 P_l_whole (R_whole) := ⟨f, fd, ok_l_whole F T, hm, F.kp, F.binds fun _ _ _ _ _ _ us hl => match us, hl with | [_], _ => rfl⟩
end
end K01
namespace K01
open PySem L2 Bl
section
/-! how a body is gone through: ev an expression, tv a test, ar arguments, st a block's next statement, bd the bits of a number -/
set_option hygiene false in
local macro_rules | `(tactic| walk_at "bdn") => `(tactic| first
  | ((with_reducible show Bd _ _); walk_at "bd")
  | ((fail_if_success (with_reducible show Bd _ _)); skip))
set_option hygiene false in
local macro_rules | `(tactic| walk_at "bd") => `(tactic| first
  | with_reducible assumption
  | ((refine' Bd.mul ?_ ?_) <;> walk_at "bdn")
  | ((refine' Bd.add ?_ ?_) <;> walk_at "bdn")
  | ((refine' Bd.sub ?_ ?_) <;> walk_at "bdn")
  | ((refine' Bd.neg ?_) <;> walk_at "bdn")
  | exact Bd.lit (a := 64) (by exact rfl)
  | exact Bd.lit (a := 210) (by exact rfl)
  | ((refine' Bd.imax ?_ ?_) <;> walk_at "bdn")
  | ((refine' Bd.imin ?_ ?_) <;> walk_at "bdn")
  | exact numOf_bd (n := 60) (m := 200) (by exact rfl) (by decide) _
  | exact numOf_bd (n := 20) (m := 67) (by exact rfl) (by decide) _
  | exact bd_mod (n := 12) (by decide) (by exact rfl)
  | exact bd_mod (n := 68) (by decide) (by exact rfl)
  | exact bd_mod (n := 200) (by decide) (by exact rfl)
  | ((refine' frT_bd (by first | assumption | omega) ?_) <;> walk_at "bdn")
  | ((refine' frB_bd (by first | assumption | omega) ?_) <;> walk_at "bdn")
  | walk_at "bdx")
set_option hygiene false in
local macro_rules | `(tactic| walk_at "mul") => `(tactic| first
  | exact Bd.cmul (by walk_at "bd") (by walk_at "bd") (by exact Nat.le_of_ble_eq_true rfl)
  | skip)
set_option hygiene false in
local macro_rules | `(tactic| walk_at "kit") => `(tactic| first
  | with_reducible exact kit_int_int
  | with_reducible exact kit_int_bool
  | with_reducible exact kit_int_tuple
  | with_reducible exact kit_int_list
  | with_reducible exact kit_bool_int
  | with_reducible exact kit_bool_bool
  | with_reducible exact kit_bool_tuple
  | with_reducible exact kit_bool_list
  | with_reducible exact kit_tuple_int
  | with_reducible exact kit_tuple_bool
  | with_reducible exact kit_tuple_tuple
  | with_reducible exact kit_tuple_list
  | with_reducible exact kit_list_int
  | with_reducible exact kit_list_bool
  | with_reducible exact kit_list_tuple
  | with_reducible exact kit_list_list
  | with_reducible exact kit_NoneType_int
  | with_reducible exact kit_NoneType_bool
  | with_reducible exact kit_NoneType_tuple
  | with_reducible exact kit_NoneType_list)
set_option hygiene false in
local macro_rules | `(tactic| walk_at "bdg") => `(tactic| first
  | assumption
  | exact Bd.mono (by walk_at "bd") (by exact Nat.le_of_ble_eq_true rfl)
  | skip)
set_option hygiene false in
local macro_rules | `(tactic| walk_at "side") => `(tactic| first
  | ((with_reducible show Bd _ _); walk_at "bdg")
  | ((with_reducible show kitB _ _ = _); walk_at "kit")
  | ((with_reducible show (_ : Prop)); first | assumption | with_reducible rfl | exact Nat.le_of_ble_eq_true rfl | decide | omega | rfl | exact ⟨by decide, by decide⟩ | skip)
  | skip)
set_option hygiene false in
local macro_rules | `(tactic| walk_at "go") => `(tactic| first
  | ((with_reducible show PE _ _ _); walk_at "ev")
  | ((with_reducible show PA _ _ _); walk_at "ar")
  | ((with_reducible show PT _ _ _); walk_at "tv")
  | ((with_reducible show PW _ _ _); walk_at "tw")
  | ((with_reducible show PSs _ _ _); skip)
  | ((with_reducible show CMulW _ _); walk_at "mul")
  | ((fail_if_success (with_reducible show PE _ _ _)); (fail_if_success (with_reducible show PA _ _ _)); (fail_if_success (with_reducible show PT _ _ _)); (fail_if_success (with_reducible show PW _ _ _)); walk_at "side"))
set_option hygiene false in
local macro_rules | `(tactic| walk_at "gof") => `(tactic| first
  | ((with_reducible show PE _ _ _); walk_at "ev")
  | ((with_reducible show PA _ _ _); walk_at "ar")
  | ((with_reducible show PT _ _ _); walk_at "tv")
  | ((with_reducible show PW _ _ _); walk_at "tw")
  | ((with_reducible show PSs _ _ _); skip)
  | ((with_reducible show CMulW _ _); walk_at "mul")
  | ((fail_if_success (with_reducible show PE _ _ _)); (fail_if_success (with_reducible show PA _ _ _)); (fail_if_success (with_reducible show PT _ _ _)); (fail_if_success (with_reducible show PW _ _ _)); first | ((with_reducible show (_ ∧ _)); exact ⟨by decide, by decide⟩) | ((fail_if_success (with_reducible show (_ ∧ _))); skip)))
set_option hygiene false in
local macro_rules | `(tactic| walk_at "ar") => `(tactic| first
  | with_reducible exact pas_nil
  | ((refine' pas_cons ?_ ?_ (by rfl)) <;> walk_at "go"))
set_option hygiene false in
local macro_rules | `(tactic| walk_at "ev") => `(tactic| first
  | with_reducible exact pd_int
  | walk_at "nm"
  | with_reducible exact pd_bl
  | with_reducible exact pd_non
  | ((with_reducible show PE _ (Expr.BinOp _ Operator.Add _ _) _); first | ((refine' pd_add ?_ ?_) <;> walk_at "go") | ((refine' pd_new (pn_cat ?_ ?_ ?_ ?_ ?_)) <;> walk_at "go"))
  | ((with_reducible show PE _ (Expr.BinOp _ Operator.Sub _ _) _); ((refine' pd_sub ?_ ?_) <;> walk_at "go"))
  | ((with_reducible show PE _ (Expr.BinOp _ Operator.Mult _ _) _); first | ((refine' pd_mul ?_ ?_ ?_) <;> walk_at "go") | ((refine' pd_new (pn_rep ?_ ?_ ?_ ?_ ?_)) <;> walk_at "go"))
  | ((with_reducible show PE _ (Expr.BinOp _ Operator.FloorDiv _ _) _); first | ((refine' pd_fdiv ?_ ?_ ?_) <;> walk_at "gof") | ((refine' pd_fdivW ?_ ?_ ?_) <;> walk_at "go"))
  | ((with_reducible show PE _ (Expr.BinOp _ Operator.Mod _ _) _); ((refine' pd_mod ?_ ?_ ?_) <;> walk_at "go"))
  | ((with_reducible show PE _ (Expr.BinOp _ Operator.Pow _ _) _); exact pd_powL ⟨by decide, by decide⟩)
  | ((with_reducible show PE _ (Expr.UnaryOp UnaryOp.USub _ _) _); ((refine' pd_neg ?_) <;> walk_at "go"))
  | ((with_reducible show PE _ (Expr.UnaryOp UnaryOp.Not _ _) _); ((refine' pd_not ?_) <;> walk_at "go"))
  | ((with_reducible show PE _ (Expr.Tuple _ _ _) _); ((refine' pd_tup ?_ ?_) <;> walk_at "go"))
  | ((with_reducible show PE _ (Expr.List _ _) _); ((refine' pd_new (pn_lst ?_ ?_)) <;> walk_at "go"))
  | ((with_reducible show PE _ (Expr.Attribute _ _ _) _); walk_at "fld")
  | ((with_reducible show PE _ (Expr.Compare _ [CmpOp.Lt] _ _) _); ((refine' pd_lt ?_ ?_) <;> walk_at "go"))
  | ((with_reducible show PE _ (Expr.Compare _ [CmpOp.LtE] _ _) _); ((refine' pd_le ?_ ?_) <;> walk_at "go"))
  | ((with_reducible show PE _ (Expr.Compare _ [CmpOp.Eq] _ _) _); ((refine' pd_eq ?_ ?_) <;> walk_at "go"))
  | ((with_reducible show PE _ (Expr.Call (Expr.Name "abs" _) _ _ _) _); ((refine' pd_abs (by rfl) T.n_abs ?_) <;> walk_at "go"))
  | ((with_reducible show PE _ (Expr.Call (Expr.Name "max" _) _ _ _) _); ((refine' pd_max (by rfl) (by rfl) T.n_max ?_ ?_) <;> walk_at "go"))
  | ((with_reducible show PE _ (Expr.Call (Expr.Name "min" _) _ _ _) _); ((refine' pd_min (by rfl) (by rfl) T.n_min ?_ ?_) <;> walk_at "go"))
  | ((with_reducible show PE _ (Expr.Call (Expr.Name "len" _) _ _ _) _); ((refine' pd_len (by rfl) T.n_len ?_ ?_) <;> walk_at "go"))
  | ((with_reducible show PE _ (Expr.Call (Expr.Name "sum" _) _ _ _) _); ((refine' pd_sum (by rfl) (by rfl) T.n_sum ?_ ?_) <;> walk_at "go"))
  | ((with_reducible show PE _ (Expr.Call (Expr.Name "list" _) _ _ _) _); ((refine' pd_new (pn_list (by rfl) T.n_list ?_ ?_)) <;> walk_at "go"))
  | ((with_reducible show PE _ (Expr.Call (Expr.Name "tuple" _) _ _ _) _); ((refine' pd_tuple (by rfl) T.n_tuple ?_ ?_) <;> walk_at "go"))
  | ((with_reducible show PE _ (Expr.Call (Expr.Name "isinstance" _) [_, Expr.Name "int" _] _ _) _); ((refine' pd_isi (by rfl) T.n_isinstance ?_ (pe_bltn (by rfl) T.n_int boot_intT rfl) ?_ ?_) <;> walk_at "go"))
  | ((with_reducible show PE _ (Expr.Call (Expr.Name "isinstance" _) [_, Expr.Name "bool" _] _ _) _); ((refine' pd_isi (by rfl) T.n_isinstance ?_ (pe_bltn (by rfl) T.n_bool boot_boolT rfl) ?_ ?_) <;> walk_at "go"))
  | ((with_reducible show PE _ (Expr.Call (Expr.Name "isinstance" _) [_, Expr.Name "tuple" _] _ _) _); ((refine' pd_isi (by rfl) T.n_isinstance ?_ (pe_bltn (by rfl) T.n_tuple boot_tupleT rfl) ?_ ?_) <;> walk_at "go"))
  | ((with_reducible show PE _ (Expr.Call (Expr.Name "isinstance" _) [_, Expr.Name "list" _] _ _) _); ((refine' pd_isi (by rfl) T.n_isinstance ?_ (pe_bltn (by rfl) T.n_list boot_listT rfl) ?_ ?_) <;> walk_at "go"))
  | ((with_reducible show PE _ (Expr.Call _ _ _ _) _); walk_at "cl")
  | ((with_reducible show PE _ (Expr.BoolOp _ [_] _) _); ((refine' pd_one ?_) <;> walk_at "go"))
  | ((with_reducible show PE _ (Expr.BoolOp BoolOp.And _ _) _); ((refine' pd_and ?_ (fun hyp => ?_)) <;> walk_at "go"))
  | ((with_reducible show PE _ (Expr.BoolOp BoolOp.Or _ _) _); ((refine' pd_or ?_ (fun hyp => ?_)) <;> walk_at "go"))
  | ((with_reducible show PE _ (Expr.Subscript _ _ _) _); ((refine' pd_ix ?_ ?_ (fun _ _ => rfl) ?_ ?_) <;> walk_at "go")))
set_option hygiene false in
local macro_rules | `(tactic| walk_at "tw") => `(tactic| first
  | ((refine' pwd_and1 ?_) <;> walk_at "go")
  | ((refine' pwd_or1 ?_) <;> walk_at "go")
  | ((refine' pwd_and ?_ (fun hyp => ?_)) <;> walk_at "go")
  | ((refine' pwd_or ?_ (fun hyp => ?_)) <;> walk_at "go"))
set_option hygiene false in
local macro_rules | `(tactic| walk_at "tv") => `(tactic| first
  | ((with_reducible show PT _ (Expr.Compare _ [CmpOp.Lt] _ _) _); ((refine' ptd_lt ?_ ?_) <;> walk_at "go"))
  | ((with_reducible show PT _ (Expr.Compare _ [CmpOp.LtE] _ _) _); ((refine' ptd_le ?_ ?_) <;> walk_at "go"))
  | ((with_reducible show PT _ (Expr.Compare _ [CmpOp.Gt] _ _) _); ((refine' ptd_gt ?_ ?_) <;> walk_at "go"))
  | ((with_reducible show PT _ (Expr.Compare _ [CmpOp.GtE] _ _) _); ((refine' ptd_ge ?_ ?_) <;> walk_at "go"))
  | ((with_reducible show PT _ (Expr.Compare _ [CmpOp.Eq] _ _) _); ((refine' ptd_eq ?_ ?_) <;> walk_at "go"))
  | ((with_reducible show PT _ (Expr.Compare _ [CmpOp.NotEq] _ _) _); ((refine' ptd_ne ?_ ?_) <;> walk_at "go"))
  | ((with_reducible show PT _ (Expr.BoolOp _ _ _) _); ((refine' PW.pt ?_) <;> walk_at "go"))
  | ((with_reducible show PT _ (Expr.UnaryOp UnaryOp.Not _ _) _); ((refine' ptd_not ?_) <;> walk_at "go"))
  | ((refine' ptd_val ?_ (fun _ => rfl)) <;> walk_at "go"))
set_option hygiene false in
local macro_rules | `(tactic| walk_at "st") => `(tactic| first
  | ((walk_at "set") <;> walk_at "go")
  | ((walk_at "aug") <;> walk_at "go")
  | ((with_reducible show PSs _ (Stmt.Return (some _) _ :: _) _); first | (((refine' pss_end (psd_ret ?_) True.intro) <;> walk_at "go"); done) | ((refine' pss_end (psd_ret (pd_cast ?_ ?_)) True.intro) <;> walk_at "go")))
set_option hygiene false in
local macro_rules | `(tactic| walk_at "if") => `(tactic| (focus (refine' pss_if ?_ ?_ ?_; rotate_left 1; walk_at "tv")))
set_option hygiene false in
local macro_rules | `(tactic| walk_at "run") => `(tactic| repeat' (walk_at "st"))
set_option hygiene false in
local macro_rules | `(tactic| walk_at "nm") => `(tactic| first
  | ((with_reducible refine' pd_var (x := "_law_one") 0 ?_ ?_ ?_ ?_ ?_) <;> first | (with_reducible show D) | ((with_reducible show Vis _ _); first | exact .inl rfl | exact .inr (.inl rfl) | exact .inr (.inr rfl)) | ((with_reducible show (_ == _) = false); decide) | rfl)
  | ((with_reducible refine' pd_var (x := "_law_other") 1 ?_ ?_ ?_ ?_ ?_) <;> first | (with_reducible show D) | ((with_reducible show Vis _ _); first | exact .inl rfl | exact .inr (.inl rfl) | exact .inr (.inr rfl)) | ((with_reducible show (_ == _) = false); decide) | rfl))
set_option hygiene false in
local macro_rules | `(tactic| walk_at "set") => `(tactic| first
  | ((with_reducible show PSs _ (Stmt.Assign [Expr.Name "_law_one" _] _ _ :: _) _); refine' pss_seq (psd_set 0 nd (by rfl) (by first | exact .inl rfl | exact .inr rfl) ?_ (by rfl) (by first | exact .inr rfl | exact .inl rfl)) ?_)
  | ((with_reducible show PSs _ (Stmt.Assign [Expr.Name "_law_other" _] _ _ :: _) _); refine' pss_seq (psd_set 1 nd (by rfl) (by first | exact .inl rfl | exact .inr rfl) ?_ (by rfl) (by first | exact .inr rfl | exact .inl rfl)) ?_))
set_option hygiene false in
local macro_rules | `(tactic| walk_at "aug") => `(tactic| first
  | ((with_reducible show PSs _ (Stmt.AugAssign (Expr.Name "_law_one" _) _ _ _ :: _) _); first | refine' pss_seq (psd_aug 0 nd (by rfl) (by first | exact .inl rfl | exact .inr rfl) L2.ip_add (by rfl) ?_ (by first | exact .inr rfl | exact .inl rfl)) ?s2 | refine' pss_seq (psd_aug 0 nd (by rfl) (by first | exact .inl rfl | exact .inr rfl) L2.ip_sub (by rfl) ?_ (by first | exact .inr rfl | exact .inl rfl)) ?_)
  | ((with_reducible show PSs _ (Stmt.AugAssign (Expr.Name "_law_other" _) _ _ _ :: _) _); first | refine' pss_seq (psd_aug 1 nd (by rfl) (by first | exact .inl rfl | exact .inr rfl) L2.ip_add (by rfl) ?_ (by first | exact .inr rfl | exact .inl rfl)) ?s2 | refine' pss_seq (psd_aug 1 nd (by rfl) (by first | exact .inl rfl | exact .inr rfl) L2.ip_sub (by rfl) ?_ (by first | exact .inr rfl | exact .inl rfl)) ?_))
set_option hygiene false in
local macro_rules | `(tactic| walk_at "tgn") => `(tactic| first
  | ((with_reducible show PG _ (Expr.Name "_law_one" _) _); refine' pgd_name 0 nd (by rfl) (by first | exact .inl rfl | exact .inr rfl) (by first | exact .inr rfl | exact .inl rfl) (by first | decide | simp))
  | ((with_reducible show PG _ (Expr.Name "_law_other" _) _); refine' pgd_name 1 nd (by rfl) (by first | exact .inl rfl | exact .inr rfl) (by first | exact .inr rfl | exact .inl rfl) (by first | decide | simp)))

variable {P : Program} {w : World} {K : PySem.W.Frag} {mg : Str → Option Value} {base : Heap} {cs : Cs}
theorem ok_l_divisor {f : Addr} {fd : FuncData} (F : Fun K "_law_divisor" "_law_divisor" s_l_divisor f fd) (T : Tx K mg cs) : FnOk P w K mg base (L2.CX P w) 1 f fd P_l_divisor (spD K R_divisor) := by
  refine def_ok F sc_l_divisor (fun ds r h => ?_) (by decide) (fun cdv A outer s H E ds r hr h => ?_)
  · obtain ⟨a, b, rfl, _⟩ := h; rfl
  · obtain ⟨a, b, rfl, rfl⟩ := h
    have nd := sc_l_divisor.nd
    refine pss_hd rfl ?_
    walk_at "run"
    refine pss_seq (psd_while (δf := [some (.int (gcdI a b)), some (.int 0)]) (fun δ m => ∃ x y : Int, 0 ≤ x ∧ 0 ≤ y ∧ m = y.toNat ∧ Int.gcd x y = Int.gcd a b ∧ δ = [some (.int x), some (.int y)]) (fun δ => ∃ x y : Int, 0 < y ∧ δ = [some (.int x), some (.int y)])
      (L2.passes_of (by rfl)) ⟨iabs a, iabs b, ?_, ?_, rfl, ?_, rfl⟩ ?_ ?_ ?_) ?_
    · rw [iabs_nat]; omega
    · rw [iabs_nat]; omega
    · rw [iabs_nat, iabs_nat]
      unfold Int.gcd
      rw [Int.natAbs_natCast, Int.natAbs_natCast]
    · rintro δ m ⟨x, y, hx, hy, rfl, hg, rfl⟩
      refine ptd_iff (ptd_gt (by walk_at "nm") pd_int) ⟨fun h => ⟨x, y, h, rfl⟩, fun ⟨x', y', h, q⟩ => ?_⟩
      simp at q
      omega
    · rintro δ m ⟨x, y, hx, hy, rfl, hg, rfl⟩ ⟨x', y', h, q⟩
      have h0 : 0 < y := by
        simp at q
        omega
      refine ⟨_, _, ?_, ⟨y, x % y, hy, Int.emod_nonneg _ (by omega), rfl, ?_, rfl⟩, pss_seq (psd_par 0 1 rfl nd rfl rfl (by decide) rfl rfl (pas_cons (by walk_at "nm") (pas_cons (pd_mod (by walk_at "nm") (by walk_at "nm") h0) pas_nil)) rfl) pss_nilD⟩
      · have := Int.emod_lt_of_pos x h0
        have := Int.emod_nonneg x (show y ≠ 0 by omega)
        omega
      · rw [gcd_step hx h0, hg]
    · rintro δ m ⟨x, y, hx, hy, rfl, hg, rfl⟩ h
      have h0 : y = 0 := by
        by_cases z : 0 < y
        · exact absurd ⟨x, y, z, rfl⟩ h
        · omega
      subst h0
      rw [Int.gcd_zero_right] at hg
      unfold gcdI
      rw [← hg, Int.natAbs_of_nonneg hx]
    · walk_at "run"
theorem cal_l_divisor {f : Addr} {fd : FuncData} (F : Fun K "_law_divisor" "_law_divisor" s_l_divisor f fd) (hm : mg "_law_divisor" = some (.ref f)) (T : Tx K mg cs) : Cal P w K mg base "_law_divisor" 1 P_l_divisor (R_divisor) := ⟨f, fd, ok_l_divisor F T, hm, F.kp, F.binds fun _ _ _ _ _ _ us hl => match us, hl with | [_, _], _ => rfl⟩
end
end K01
namespace K01
open PySem L2 Bl
section
/-! how a body is gone through: ev an expression, tv a test, ar arguments, st a block's next statement, bd the bits of a number -/
set_option hygiene false in
local macro_rules | `(tactic| walk_at "bdn") => `(tactic| first
  | ((with_reducible show Bd _ _); walk_at "bd")
  | ((fail_if_success (with_reducible show Bd _ _)); skip))
set_option hygiene false in
local macro_rules | `(tactic| walk_at "bd") => `(tactic| first
  | with_reducible assumption
  | ((refine' Bd.mul ?_ ?_) <;> walk_at "bdn")
  | ((refine' Bd.add ?_ ?_) <;> walk_at "bdn")
  | ((refine' Bd.sub ?_ ?_) <;> walk_at "bdn")
  | ((refine' Bd.neg ?_) <;> walk_at "bdn")
  | exact Bd.lit (a := 64) (by exact rfl)
  | exact Bd.lit (a := 210) (by exact rfl)
  | ((refine' Bd.imax ?_ ?_) <;> walk_at "bdn")
  | ((refine' Bd.imin ?_ ?_) <;> walk_at "bdn")
  | exact numOf_bd (n := 60) (m := 200) (by exact rfl) (by decide) _
  | exact numOf_bd (n := 20) (m := 67) (by exact rfl) (by decide) _
  | exact bd_mod (n := 12) (by decide) (by exact rfl)
  | exact bd_mod (n := 68) (by decide) (by exact rfl)
  | exact bd_mod (n := 200) (by decide) (by exact rfl)
  | ((refine' frT_bd (by first | assumption | omega) ?_) <;> walk_at "bdn")
  | ((refine' frB_bd (by first | assumption | omega) ?_) <;> walk_at "bdn")
  | walk_at "bdx")
set_option hygiene false in
local macro_rules | `(tactic| walk_at "mul") => `(tactic| first
  | exact Bd.cmul (by walk_at "bd") (by walk_at "bd") (by exact Nat.le_of_ble_eq_true rfl)
  | skip)
set_option hygiene false in
local macro_rules | `(tactic| walk_at "kit") => `(tactic| first
  | with_reducible exact kit_int_int
  | with_reducible exact kit_int_bool
  | with_reducible exact kit_int_tuple
  | with_reducible exact kit_int_list
  | with_reducible exact kit_bool_int
  | with_reducible exact kit_bool_bool
  | with_reducible exact kit_bool_tuple
  | with_reducible exact kit_bool_list
  | with_reducible exact kit_tuple_int
  | with_reducible exact kit_tuple_bool
  | with_reducible exact kit_tuple_tuple
  | with_reducible exact kit_tuple_list
  | with_reducible exact kit_list_int
  | with_reducible exact kit_list_bool
  | with_reducible exact kit_list_tuple
  | with_reducible exact kit_list_list
  | with_reducible exact kit_NoneType_int
  | with_reducible exact kit_NoneType_bool
  | with_reducible exact kit_NoneType_tuple
  | with_reducible exact kit_NoneType_list)
set_option hygiene false in
local macro_rules | `(tactic| walk_at "bdg") => `(tactic| first
  | assumption
  | exact Bd.mono (by walk_at "bd") (by exact Nat.le_of_ble_eq_true rfl)
  | skip)
set_option hygiene false in
local macro_rules | `(tactic| walk_at "side") => `(tactic| first
  | ((with_reducible show Bd _ _); walk_at "bdg")
  | ((with_reducible show kitB _ _ = _); walk_at "kit")
  | ((with_reducible show (_ : Prop)); first | assumption | with_reducible rfl | exact Nat.le_of_ble_eq_true rfl | decide | omega | rfl | exact ⟨by decide, by decide⟩ | skip)
  | skip)
set_option hygiene false in
local macro_rules | `(tactic| walk_at "go") => `(tactic| first
  | ((with_reducible show PE _ _ _); walk_at "ev")
  | ((with_reducible show PA _ _ _); walk_at "ar")
  | ((with_reducible show PT _ _ _); walk_at "tv")
  | ((with_reducible show PW _ _ _); walk_at "tw")
  | ((with_reducible show PSs _ _ _); skip)
  | ((with_reducible show CMulW _ _); walk_at "mul")
  | ((fail_if_success (with_reducible show PE _ _ _)); (fail_if_success (with_reducible show PA _ _ _)); (fail_if_success (with_reducible show PT _ _ _)); (fail_if_success (with_reducible show PW _ _ _)); walk_at "side"))
set_option hygiene false in
local macro_rules | `(tactic| walk_at "gof") => `(tactic| first
  | ((with_reducible show PE _ _ _); walk_at "ev")
  | ((with_reducible show PA _ _ _); walk_at "ar")
  | ((with_reducible show PT _ _ _); walk_at "tv")
  | ((with_reducible show PW _ _ _); walk_at "tw")
  | ((with_reducible show PSs _ _ _); skip)
  | ((with_reducible show CMulW _ _); walk_at "mul")
  | ((fail_if_success (with_reducible show PE _ _ _)); (fail_if_success (with_reducible show PA _ _ _)); (fail_if_success (with_reducible show PT _ _ _)); (fail_if_success (with_reducible show PW _ _ _)); first | ((with_reducible show (_ ∧ _)); exact ⟨by decide, by decide⟩) | ((fail_if_success (with_reducible show (_ ∧ _))); skip)))
set_option hygiene false in
local macro_rules | `(tactic| walk_at "ar") => `(tactic| first
  | with_reducible exact pas_nil
  | ((refine' pas_cons ?_ ?_ (by rfl)) <;> walk_at "go"))
set_option hygiene false in
local macro_rules | `(tactic| walk_at "ev") => `(tactic| first
  | with_reducible exact pd_int
  | walk_at "nm"
  | with_reducible exact pd_bl
  | with_reducible exact pd_non
  | ((with_reducible show PE _ (Expr.BinOp _ Operator.Add _ _) _); first | ((refine' pd_add ?_ ?_) <;> walk_at "go") | ((refine' pd_new (pn_cat ?_ ?_ ?_ ?_ ?_)) <;> walk_at "go"))
  | ((with_reducible show PE _ (Expr.BinOp _ Operator.Sub _ _) _); ((refine' pd_sub ?_ ?_) <;> walk_at "go"))
  | ((with_reducible show PE _ (Expr.BinOp _ Operator.Mult _ _) _); first | ((refine' pd_mul ?_ ?_ ?_) <;> walk_at "go") | ((refine' pd_new (pn_rep ?_ ?_ ?_ ?_ ?_)) <;> walk_at "go"))
  | ((with_reducible show PE _ (Expr.BinOp _ Operator.FloorDiv _ _) _); first | ((refine' pd_fdiv ?_ ?_ ?_) <;> walk_at "gof") | ((refine' pd_fdivW ?_ ?_ ?_) <;> walk_at "go"))
  | ((with_reducible show PE _ (Expr.BinOp _ Operator.Mod _ _) _); ((refine' pd_mod ?_ ?_ ?_) <;> walk_at "go"))
  | ((with_reducible show PE _ (Expr.BinOp _ Operator.Pow _ _) _); exact pd_powL ⟨by decide, by decide⟩)
  | ((with_reducible show PE _ (Expr.UnaryOp UnaryOp.USub _ _) _); ((refine' pd_neg ?_) <;> walk_at "go"))
  | ((with_reducible show PE _ (Expr.UnaryOp UnaryOp.Not _ _) _); ((refine' pd_not ?_) <;> walk_at "go"))
  | ((with_reducible show PE _ (Expr.Tuple _ _ _) _); ((refine' pd_tup ?_ ?_) <;> walk_at "go"))
  | ((with_reducible show PE _ (Expr.List _ _) _); ((refine' pd_new (pn_lst ?_ ?_)) <;> walk_at "go"))
  | ((with_reducible show PE _ (Expr.Attribute _ _ _) _); walk_at "fld")
  | ((with_reducible show PE _ (Expr.Compare _ [CmpOp.Lt] _ _) _); ((refine' pd_lt ?_ ?_) <;> walk_at "go"))
  | ((with_reducible show PE _ (Expr.Compare _ [CmpOp.LtE] _ _) _); ((refine' pd_le ?_ ?_) <;> walk_at "go"))
  | ((with_reducible show PE _ (Expr.Compare _ [CmpOp.Eq] _ _) _); ((refine' pd_eq ?_ ?_) <;> walk_at "go"))
  | ((with_reducible show PE _ (Expr.Call (Expr.Name "abs" _) _ _ _) _); ((refine' pd_abs (by rfl) T.n_abs ?_) <;> walk_at "go"))
  | ((with_reducible show PE _ (Expr.Call (Expr.Name "max" _) _ _ _) _); ((refine' pd_max (by rfl) (by rfl) T.n_max ?_ ?_) <;> walk_at "go"))
  | ((with_reducible show PE _ (Expr.Call (Expr.Name "min" _) _ _ _) _); ((refine' pd_min (by rfl) (by rfl) T.n_min ?_ ?_) <;> walk_at "go"))
  | ((with_reducible show PE _ (Expr.Call (Expr.Name "len" _) _ _ _) _); ((refine' pd_len (by rfl) T.n_len ?_ ?_) <;> walk_at "go"))
  | ((with_reducible show PE _ (Expr.Call (Expr.Name "sum" _) _ _ _) _); ((refine' pd_sum (by rfl) (by rfl) T.n_sum ?_ ?_) <;> walk_at "go"))
  | ((with_reducible show PE _ (Expr.Call (Expr.Name "list" _) _ _ _) _); ((refine' pd_new (pn_list (by rfl) T.n_list ?_ ?_)) <;> walk_at "go"))
  | ((with_reducible show PE _ (Expr.Call (Expr.Name "tuple" _) _ _ _) _); ((refine' pd_tuple (by rfl) T.n_tuple ?_ ?_) <;> walk_at "go"))
  | ((with_reducible show PE _ (Expr.Call (Expr.Name "isinstance" _) [_, Expr.Name "int" _] _ _) _); ((refine' pd_isi (by rfl) T.n_isinstance ?_ (pe_bltn (by rfl) T.n_int boot_intT rfl) ?_ ?_) <;> walk_at "go"))
  | ((with_reducible show PE _ (Expr.Call (Expr.Name "isinstance" _) [_, Expr.Name "bool" _] _ _) _); ((refine' pd_isi (by rfl) T.n_isinstance ?_ (pe_bltn (by rfl) T.n_bool boot_boolT rfl) ?_ ?_) <;> walk_at "go"))
  | ((with_reducible show PE _ (Expr.Call (Expr.Name "isinstance" _) [_, Expr.Name "tuple" _] _ _) _); ((refine' pd_isi (by rfl) T.n_isinstance ?_ (pe_bltn (by rfl) T.n_tuple boot_tupleT rfl) ?_ ?_) <;> walk_at "go"))
  | ((with_reducible show PE _ (Expr.Call (Expr.Name "isinstance" _) [_, Expr.Name "list" _] _ _) _); ((refine' pd_isi (by rfl) T.n_isinstance ?_ (pe_bltn (by rfl) T.n_list boot_listT rfl) ?_ ?_) <;> walk_at "go"))
  | ((with_reducible show PE _ (Expr.Call _ _ _ _) _); walk_at "cl")
  | ((with_reducible show PE _ (Expr.BoolOp _ [_] _) _); ((refine' pd_one ?_) <;> walk_at "go"))
  | ((with_reducible show PE _ (Expr.BoolOp BoolOp.And _ _) _); ((refine' pd_and ?_ (fun hyp => ?_)) <;> walk_at "go"))
  | ((with_reducible show PE _ (Expr.BoolOp BoolOp.Or _ _) _); ((refine' pd_or ?_ (fun hyp => ?_)) <;> walk_at "go"))
  | ((with_reducible show PE _ (Expr.Subscript _ _ _) _); ((refine' pd_ix ?_ ?_ (fun _ _ => rfl) ?_ ?_) <;> walk_at "go")))
set_option hygiene false in
local macro_rules | `(tactic| walk_at "tw") => `(tactic| first
  | ((refine' pwd_and1 ?_) <;> walk_at "go")
  | ((refine' pwd_or1 ?_) <;> walk_at "go")
  | ((refine' pwd_and ?_ (fun hyp => ?_)) <;> walk_at "go")
  | ((refine' pwd_or ?_ (fun hyp => ?_)) <;> walk_at "go"))
set_option hygiene false in
local macro_rules | `(tactic| walk_at "tv") => `(tactic| first
  | ((with_reducible show PT _ (Expr.Compare _ [CmpOp.Lt] _ _) _); ((refine' ptd_lt ?_ ?_) <;> walk_at "go"))
  | ((with_reducible show PT _ (Expr.Compare _ [CmpOp.LtE] _ _) _); ((refine' ptd_le ?_ ?_) <;> walk_at "go"))
  | ((with_reducible show PT _ (Expr.Compare _ [CmpOp.Gt] _ _) _); ((refine' ptd_gt ?_ ?_) <;> walk_at "go"))
  | ((with_reducible show PT _ (Expr.Compare _ [CmpOp.GtE] _ _) _); ((refine' ptd_ge ?_ ?_) <;> walk_at "go"))
  | ((with_reducible show PT _ (Expr.Compare _ [CmpOp.Eq] _ _) _); ((refine' ptd_eq ?_ ?_) <;> walk_at "go"))
  | ((with_reducible show PT _ (Expr.Compare _ [CmpOp.NotEq] _ _) _); ((refine' ptd_ne ?_ ?_) <;> walk_at "go"))
  | ((with_reducible show PT _ (Expr.BoolOp _ _ _) _); ((refine' PW.pt ?_) <;> walk_at "go"))
  | ((with_reducible show PT _ (Expr.UnaryOp UnaryOp.Not _ _) _); ((refine' ptd_not ?_) <;> walk_at "go"))
  | ((refine' ptd_val ?_ (fun _ => rfl)) <;> walk_at "go"))
set_option hygiene false in
local macro_rules | `(tactic| walk_at "st") => `(tactic| first
  | ((walk_at "set") <;> walk_at "go")
  | ((walk_at "aug") <;> walk_at "go")
  | ((with_reducible show PSs _ (Stmt.Return (some _) _ :: _) _); first | (((refine' pss_end (psd_ret ?_) True.intro) <;> walk_at "go"); done) | ((refine' pss_end (psd_ret (pd_cast ?_ ?_)) True.intro) <;> walk_at "go")))
set_option hygiene false in
local macro_rules | `(tactic| walk_at "if") => `(tactic| (focus (refine' pss_if ?_ ?_ ?_; rotate_left 1; walk_at "tv")))
set_option hygiene false in
local macro_rules | `(tactic| walk_at "run") => `(tactic| repeat' (walk_at "st"))
set_option hygiene false in
local macro_rules | `(tactic| walk_at "nm") => `(tactic| first
  | ((with_reducible refine' pd_var (x := "_law_found") 0 ?_ ?_ ?_ ?_ ?_) <;> first | (with_reducible show D) | ((with_reducible show Vis _ _); first | exact .inl rfl | exact .inr (.inl rfl) | exact .inr (.inr rfl)) | ((with_reducible show (_ == _) = false); decide) | rfl))
set_option hygiene false in
local macro_rules | `(tactic| walk_at "set") => `(tactic| first
  | ((with_reducible show PSs _ (Stmt.Assign [Expr.Name "_law_found" _] _ _ :: _) _); refine' pss_seq (psd_set 0 nd (by rfl) (by first | exact .inl rfl | exact .inr rfl) ?_ (by rfl) (by first | exact .inr rfl | exact .inl rfl)) ?_))
set_option hygiene false in
local macro_rules | `(tactic| walk_at "aug") => `(tactic| first
  | ((with_reducible show PSs _ (Stmt.AugAssign (Expr.Name "_law_found" _) _ _ _ :: _) _); first | refine' pss_seq (psd_aug 0 nd (by rfl) (by first | exact .inl rfl | exact .inr rfl) L2.ip_add (by rfl) ?_ (by first | exact .inr rfl | exact .inl rfl)) ?s2 | refine' pss_seq (psd_aug 0 nd (by rfl) (by first | exact .inl rfl | exact .inr rfl) L2.ip_sub (by rfl) ?_ (by first | exact .inr rfl | exact .inl rfl)) ?_))
set_option hygiene false in
local macro_rules | `(tactic| walk_at "tgn") => `(tactic| first
  | ((with_reducible show PG _ (Expr.Name "_law_found" _) _); refine' pgd_name 0 nd (by rfl) (by first | exact .inl rfl | exact .inr rfl) (by first | exact .inr rfl | exact .inl rfl) (by first | decide | simp)))
set_option hygiene false in
local macro_rules | `(tactic| walk_at "cl") => `(tactic| first
  | ((with_reducible show PE _ (Expr.Call (Expr.Name "_law_whole" _) _ _ _) _); (refine' pd_call c_l_whole hr (by decide) (by rfl) ?_ ⟨_, rfl, rfl⟩) <;> walk_at "go")
  | ((with_reducible show PE _ (Expr.Call (Expr.Name "_law_divisor" _) _ _ _) _); (refine' pd_call c_l_divisor hr (by decide) (by rfl) ?_ ⟨_, _, rfl, rfl⟩) <;> walk_at "go"))
variable {P : Program} {w : World} {K : PySem.W.Frag} {mg : Str → Option Value} {base : Heap} {cs : Cs}
theorem ok_l_is_fraction {f : Addr} {fd : FuncData} (F : Fun K "_law_is_fraction" "_law_is_fraction" s_l_is_fraction f fd) (T : Tx K mg cs) (c_l_whole : Cal P w K mg base "_law_whole" 1 P_l_whole (R_whole)) (c_l_divisor : Cal P w K mg base "_law_divisor" 1 P_l_divisor (R_divisor)) :
    FnOk P w K mg base (L2.CX P w) 2 f fd P_l_is_fraction (spD K R_isfrac) := by
  refine def_ok F sc_l_is_fraction (fun ds r h => ?_) (by decide) (fun cdv A outer s H E ds r hr h => ?_)
  · obtain ⟨a, b, rfl, _⟩ := h; rfl
  · obtain ⟨t, b, rfl, hb, hg, rfl⟩ := h
    have nd := sc_l_is_fraction.nd
    refine pss_hd rfl ?_
    refine pss_seq (psd_ifF (by walk_at "tv") (by simp) pss_nilD) ?_
    refine pss_seq (psd_ifF (by walk_at "tv") (by simp; omega) pss_nilD) ?_
    refine pss_end (psd_ret (pd_cast (by walk_at "ev") ?_)) True.intro
    unfold gcdI
    rw [hg]
    rfl
theorem cal_l_is_fraction {f : Addr} {fd : FuncData} (F : Fun K "_law_is_fraction" "_law_is_fraction" s_l_is_fraction f fd) (hm : mg "_law_is_fraction" = some (.ref f)) (T : Tx K mg cs) (c_l_whole : Cal P w K mg base "_law_whole" 1 P_l_whole (R_whole)) (c_l_divisor : Cal P w K mg base "_law_divisor" 1 P_l_divisor (R_divisor)) : Cal P w K mg base "_law_is_fraction" 2 P_l_is_fraction (R_isfrac) := ⟨f, fd, ok_l_is_fraction F T c_l_whole c_l_divisor, hm, F.kp, F.binds fun _ _ _ _ _ _ us hl => match us, hl with | [_], _ => rfl⟩
end
end K01
namespace K01
open PySem L2 Bl
section
/-! how a body is gone through: ev an expression, tv a test, ar arguments, st a block's next statement, bd the bits of a number -/
set_option hygiene false in
local macro_rules | `(tactic| walk_at "bdn") => `(tactic| first
  | ((with_reducible show Bd _ _); walk_at "bd")
  | ((fail_if_success (with_reducible show Bd _ _)); skip))
set_option hygiene false in
local macro_rules | `(tactic| walk_at "bd") => `(tactic| first
  | with_reducible assumption
  | ((refine' Bd.mul ?_ ?_) <;> walk_at "bdn")
  | ((refine' Bd.add ?_ ?_) <;> walk_at "bdn")
  | ((refine' Bd.sub ?_ ?_) <;> walk_at "bdn")
  | ((refine' Bd.neg ?_) <;> walk_at "bdn")
  | exact Bd.lit (a := 64) (by exact rfl)
  | exact Bd.lit (a := 210) (by exact rfl)
  | ((refine' Bd.imax ?_ ?_) <;> walk_at "bdn")
  | ((refine' Bd.imin ?_ ?_) <;> walk_at "bdn")
  | exact numOf_bd (n := 60) (m := 200) (by exact rfl) (by decide) _
  | exact numOf_bd (n := 20) (m := 67) (by exact rfl) (by decide) _
  | exact bd_mod (n := 12) (by decide) (by exact rfl)
  | exact bd_mod (n := 68) (by decide) (by exact rfl)
  | exact bd_mod (n := 200) (by decide) (by exact rfl)
  | ((refine' frT_bd (by first | assumption | omega) ?_) <;> walk_at "bdn")
  | ((refine' frB_bd (by first | assumption | omega) ?_) <;> walk_at "bdn")
  | walk_at "bdx")
set_option hygiene false in
local macro_rules | `(tactic| walk_at "mul") => `(tactic| first
  | exact Bd.cmul (by walk_at "bd") (by walk_at "bd") (by exact Nat.le_of_ble_eq_true rfl)
  | skip)
set_option hygiene false in
local macro_rules | `(tactic| walk_at "kit") => `(tactic| first
  | with_reducible exact kit_int_int
  | with_reducible exact kit_int_bool
  | with_reducible exact kit_int_tuple
  | with_reducible exact kit_int_list
  | with_reducible exact kit_bool_int
  | with_reducible exact kit_bool_bool
  | with_reducible exact kit_bool_tuple
  | with_reducible exact kit_bool_list
  | with_reducible exact kit_tuple_int
  | with_reducible exact kit_tuple_bool
  | with_reducible exact kit_tuple_tuple
  | with_reducible exact kit_tuple_list
  | with_reducible exact kit_list_int
  | with_reducible exact kit_list_bool
  | with_reducible exact kit_list_tuple
  | with_reducible exact kit_list_list
  | with_reducible exact kit_NoneType_int
  | with_reducible exact kit_NoneType_bool
  | with_reducible exact kit_NoneType_tuple
  | with_reducible exact kit_NoneType_list)
set_option hygiene false in
local macro_rules | `(tactic| walk_at "bdg") => `(tactic| first
  | assumption
  | exact Bd.mono (by walk_at "bd") (by exact Nat.le_of_ble_eq_true rfl)
  | skip)
set_option hygiene false in
local macro_rules | `(tactic| walk_at "side") => `(tactic| first
  | ((with_reducible show Bd _ _); walk_at "bdg")
  | ((with_reducible show kitB _ _ = _); walk_at "kit")
  | ((with_reducible show (_ : Prop)); first | assumption | with_reducible rfl | exact Nat.le_of_ble_eq_true rfl | decide | omega | rfl | exact ⟨by decide, by decide⟩ | skip)
  | skip)
set_option hygiene false in
local macro_rules | `(tactic| walk_at "go") => `(tactic| first
  | ((with_reducible show PE _ _ _); walk_at "ev")
  | ((with_reducible show PA _ _ _); walk_at "ar")
  | ((with_reducible show PT _ _ _); walk_at "tv")
  | ((with_reducible show PW _ _ _); walk_at "tw")
  | ((with_reducible show PSs _ _ _); skip)
  | ((with_reducible show CMulW _ _); walk_at "mul")
  | ((fail_if_success (with_reducible show PE _ _ _)); (fail_if_success (with_reducible show PA _ _ _)); (fail_if_success (with_reducible show PT _ _ _)); (fail_if_success (with_reducible show PW _ _ _)); walk_at "side"))
set_option hygiene false in
local macro_rules | `(tactic| walk_at "gof") => `(tactic| first
  | ((with_reducible show PE _ _ _); walk_at "ev")
  | ((with_reducible show PA _ _ _); walk_at "ar")
  | ((with_reducible show PT _ _ _); walk_at "tv")
  | ((with_reducible show PW _ _ _); walk_at "tw")
  | ((with_reducible show PSs _ _ _); skip)
  | ((with_reducible show CMulW _ _); walk_at "mul")
  | ((fail_if_success (with_reducible show PE _ _ _)); (fail_if_success (with_reducible show PA _ _ _)); (fail_if_success (with_reducible show PT _ _ _)); (fail_if_success (with_reducible show PW _ _ _)); first | ((with_reducible show (_ ∧ _)); exact ⟨by decide, by decide⟩) | ((fail_if_success (with_reducible show (_ ∧ _))); skip)))
set_option hygiene false in
local macro_rules | `(tactic| walk_at "ar") => `(tactic| first
  | with_reducible exact pas_nil
  | ((refine' pas_cons ?_ ?_ (by rfl)) <;> walk_at "go"))
set_option hygiene false in
local macro_rules | `(tactic| walk_at "ev") => `(tactic| first
  | with_reducible exact pd_int
  | walk_at "nm"
  | with_reducible exact pd_bl
  | with_reducible exact pd_non
  | ((with_reducible show PE _ (Expr.BinOp _ Operator.Add _ _) _); first | ((refine' pd_add ?_ ?_) <;> walk_at "go") | ((refine' pd_new (pn_cat ?_ ?_ ?_ ?_ ?_)) <;> walk_at "go"))
  | ((with_reducible show PE _ (Expr.BinOp _ Operator.Sub _ _) _); ((refine' pd_sub ?_ ?_) <;> walk_at "go"))
  | ((with_reducible show PE _ (Expr.BinOp _ Operator.Mult _ _) _); first | ((refine' pd_mul ?_ ?_ ?_) <;> walk_at "go") | ((refine' pd_new (pn_rep ?_ ?_ ?_ ?_ ?_)) <;> walk_at "go"))
  | ((with_reducible show PE _ (Expr.BinOp _ Operator.FloorDiv _ _) _); first | ((refine' pd_fdiv ?_ ?_ ?_) <;> walk_at "gof") | ((refine' pd_fdivW ?_ ?_ ?_) <;> walk_at "go"))
  | ((with_reducible show PE _ (Expr.BinOp _ Operator.Mod _ _) _); ((refine' pd_mod ?_ ?_ ?_) <;> walk_at "go"))
  | ((with_reducible show PE _ (Expr.BinOp _ Operator.Pow _ _) _); exact pd_powL ⟨by decide, by decide⟩)
  | ((with_reducible show PE _ (Expr.UnaryOp UnaryOp.USub _ _) _); ((refine' pd_neg ?_) <;> walk_at "go"))
  | ((with_reducible show PE _ (Expr.UnaryOp UnaryOp.Not _ _) _); ((refine' pd_not ?_) <;> walk_at "go"))
  | ((with_reducible show PE _ (Expr.Tuple _ _ _) _); ((refine' pd_tup ?_ ?_) <;> walk_at "go"))
  | ((with_reducible show PE _ (Expr.List _ _) _); ((refine' pd_new (pn_lst ?_ ?_)) <;> walk_at "go"))
  | ((with_reducible show PE _ (Expr.Attribute _ _ _) _); walk_at "fld")
  | ((with_reducible show PE _ (Expr.Compare _ [CmpOp.Lt] _ _) _); ((refine' pd_lt ?_ ?_) <;> walk_at "go"))
  | ((with_reducible show PE _ (Expr.Compare _ [CmpOp.LtE] _ _) _); ((refine' pd_le ?_ ?_) <;> walk_at "go"))
  | ((with_reducible show PE _ (Expr.Compare _ [CmpOp.Eq] _ _) _); ((refine' pd_eq ?_ ?_) <;> walk_at "go"))
  | ((with_reducible show PE _ (Expr.Call (Expr.Name "abs" _) _ _ _) _); ((refine' pd_abs (by rfl) T.n_abs ?_) <;> walk_at "go"))
  | ((with_reducible show PE _ (Expr.Call (Expr.Name "max" _) _ _ _) _); ((refine' pd_max (by rfl) (by rfl) T.n_max ?_ ?_) <;> walk_at "go"))
  | ((with_reducible show PE _ (Expr.Call (Expr.Name "min" _) _ _ _) _); ((refine' pd_min (by rfl) (by rfl) T.n_min ?_ ?_) <;> walk_at "go"))
  | ((with_reducible show PE _ (Expr.Call (Expr.Name "len" _) _ _ _) _); ((refine' pd_len (by rfl) T.n_len ?_ ?_) <;> walk_at "go"))
  | ((with_reducible show PE _ (Expr.Call (Expr.Name "sum" _) _ _ _) _); ((refine' pd_sum (by rfl) (by rfl) T.n_sum ?_ ?_) <;> walk_at "go"))
  | ((with_reducible show PE _ (Expr.Call (Expr.Name "list" _) _ _ _) _); ((refine' pd_new (pn_list (by rfl) T.n_list ?_ ?_)) <;> walk_at "go"))
  | ((with_reducible show PE _ (Expr.Call (Expr.Name "tuple" _) _ _ _) _); ((refine' pd_tuple (by rfl) T.n_tuple ?_ ?_) <;> walk_at "go"))
  | ((with_reducible show PE _ (Expr.Call (Expr.Name "isinstance" _) [_, Expr.Name "int" _] _ _) _); ((refine' pd_isi (by rfl) T.n_isinstance ?_ (pe_bltn (by rfl) T.n_int boot_intT rfl) ?_ ?_) <;> walk_at "go"))
  | ((with_reducible show PE _ (Expr.Call (Expr.Name "isinstance" _) [_, Expr.Name "bool" _] _ _) _); ((refine' pd_isi (by rfl) T.n_isinstance ?_ (pe_bltn (by rfl) T.n_bool boot_boolT rfl) ?_ ?_) <;> walk_at "go"))
  | ((with_reducible show PE _ (Expr.Call (Expr.Name "isinstance" _) [_, Expr.Name "tuple" _] _ _) _); ((refine' pd_isi (by rfl) T.n_isinstance ?_ (pe_bltn (by rfl) T.n_tuple boot_tupleT rfl) ?_ ?_) <;> walk_at "go"))
  | ((with_reducible show PE _ (Expr.Call (Expr.Name "isinstance" _) [_, Expr.Name "list" _] _ _) _); ((refine' pd_isi (by rfl) T.n_isinstance ?_ (pe_bltn (by rfl) T.n_list boot_listT rfl) ?_ ?_) <;> walk_at "go"))
  | ((with_reducible show PE _ (Expr.Call _ _ _ _) _); walk_at "cl")
  | ((with_reducible show PE _ (Expr.BoolOp _ [_] _) _); ((refine' pd_one ?_) <;> walk_at "go"))
  | ((with_reducible show PE _ (Expr.BoolOp BoolOp.And _ _) _); ((refine' pd_and ?_ (fun hyp => ?_)) <;> walk_at "go"))
  | ((with_reducible show PE _ (Expr.BoolOp BoolOp.Or _ _) _); ((refine' pd_or ?_ (fun hyp => ?_)) <;> walk_at "go"))
  | ((with_reducible show PE _ (Expr.Subscript _ _ _) _); ((refine' pd_ix ?_ ?_ (fun _ _ => rfl) ?_ ?_) <;> walk_at "go")))
set_option hygiene false in
local macro_rules | `(tactic| walk_at "tw") => `(tactic| first
  | ((refine' pwd_and1 ?_) <;> walk_at "go")
  | ((refine' pwd_or1 ?_) <;> walk_at "go")
  | ((refine' pwd_and ?_ (fun hyp => ?_)) <;> walk_at "go")
  | ((refine' pwd_or ?_ (fun hyp => ?_)) <;> walk_at "go"))
set_option hygiene false in
local macro_rules | `(tactic| walk_at "tv") => `(tactic| first
  | ((with_reducible show PT _ (Expr.Compare _ [CmpOp.Lt] _ _) _); ((refine' ptd_lt ?_ ?_) <;> walk_at "go"))
  | ((with_reducible show PT _ (Expr.Compare _ [CmpOp.LtE] _ _) _); ((refine' ptd_le ?_ ?_) <;> walk_at "go"))
  | ((with_reducible show PT _ (Expr.Compare _ [CmpOp.Gt] _ _) _); ((refine' ptd_gt ?_ ?_) <;> walk_at "go"))
  | ((with_reducible show PT _ (Expr.Compare _ [CmpOp.GtE] _ _) _); ((refine' ptd_ge ?_ ?_) <;> walk_at "go"))
  | ((with_reducible show PT _ (Expr.Compare _ [CmpOp.Eq] _ _) _); ((refine' ptd_eq ?_ ?_) <;> walk_at "go"))
  | ((with_reducible show PT _ (Expr.Compare _ [CmpOp.NotEq] _ _) _); ((refine' ptd_ne ?_ ?_) <;> walk_at "go"))
  | ((with_reducible show PT _ (Expr.BoolOp _ _ _) _); ((refine' PW.pt ?_) <;> walk_at "go"))
  | ((with_reducible show PT _ (Expr.UnaryOp UnaryOp.Not _ _) _); ((refine' ptd_not ?_) <;> walk_at "go"))
  | ((refine' ptd_val ?_ (fun _ => rfl)) <;> walk_at "go"))
set_option hygiene false in
local macro_rules | `(tactic| walk_at "st") => `(tactic| first
  | ((walk_at "set") <;> walk_at "go")
  | ((walk_at "aug") <;> walk_at "go")
  | ((with_reducible show PSs _ (Stmt.Return (some _) _ :: _) _); first | (((refine' pss_end (psd_ret ?_) True.intro) <;> walk_at "go"); done) | ((refine' pss_end (psd_ret (pd_cast ?_ ?_)) True.intro) <;> walk_at "go")))
set_option hygiene false in
local macro_rules | `(tactic| walk_at "if") => `(tactic| (focus (refine' pss_if ?_ ?_ ?_; rotate_left 1; walk_at "tv")))
set_option hygiene false in
local macro_rules | `(tactic| walk_at "run") => `(tactic| repeat' (walk_at "st"))
set_option hygiene false in
local macro_rules | `(tactic| walk_at "nm") => `(tactic| first
  | ((with_reducible refine' pd_var (x := "_law_cell") 0 ?_ ?_ ?_ ?_ ?_) <;> first | (with_reducible show D) | ((with_reducible show Vis _ _); first | exact .inl rfl | exact .inr (.inl rfl) | exact .inr (.inr rfl)) | ((with_reducible show (_ == _) = false); decide) | rfl))
set_option hygiene false in
local macro_rules | `(tactic| walk_at "set") => `(tactic| first
  | ((with_reducible show PSs _ (Stmt.Assign [Expr.Name "_law_cell" _] _ _ :: _) _); refine' pss_seq (psd_set 0 nd (by rfl) (by first | exact .inl rfl | exact .inr rfl) ?_ (by rfl) (by first | exact .inr rfl | exact .inl rfl)) ?_))
set_option hygiene false in
local macro_rules | `(tactic| walk_at "aug") => `(tactic| first
  | ((with_reducible show PSs _ (Stmt.AugAssign (Expr.Name "_law_cell" _) _ _ _ :: _) _); first | refine' pss_seq (psd_aug 0 nd (by rfl) (by first | exact .inl rfl | exact .inr rfl) L2.ip_add (by rfl) ?_ (by first | exact .inr rfl | exact .inl rfl)) ?s2 | refine' pss_seq (psd_aug 0 nd (by rfl) (by first | exact .inl rfl | exact .inr rfl) L2.ip_sub (by rfl) ?_ (by first | exact .inr rfl | exact .inl rfl)) ?_))
set_option hygiene false in
local macro_rules | `(tactic| walk_at "tgn") => `(tactic| first
  | ((with_reducible show PG _ (Expr.Name "_law_cell" _) _); refine' pgd_name 0 nd (by rfl) (by first | exact .inl rfl | exact .inr rfl) (by first | exact .inr rfl | exact .inl rfl) (by first | decide | simp)))

variable {P : Program} {w : World} {K : PySem.W.Frag} {mg : Str → Option Value} {base : Heap} {cs : Cs}
theorem ok_l_number {f : Addr} {fd : FuncData} (F : Fun K "_law_number" "_law_number" s_l_number f fd) (T : Tx K mg cs) : FnOk P w K mg base (L2.CX P w) 1 f fd P_l_number (spD K (R_int1 (numOf 60))) := by
  refine def_ok F sc_l_number (fun ds r h => ?_) (by decide) (fun cdv A outer s H E ds r hr h => ?_)
  · obtain ⟨a, rfl, _⟩ := h; rfl
  · obtain ⟨c, rfl, rfl⟩ := h
    have nd := sc_l_number.nd
    refine pss_hd rfl ?_
    have b1 : Bd 200 (c / 8 % 10 ^ 60) := bd_mod (by decide) (by decide)
    have b2 : Bd 64 (1 - 2 * (c / 4 % 2)) := by unfold Bd; omega
    by_cases h : c % 4 = 0
    · refine pss_end (psd_ifT (by walk_at "tv") h ?_) True.intro
      refine pss_end (psd_ret (pd_cast (pd_mul (by walk_at "ev") (pd_sub pd_int (pd_mul pd_int (by walk_at "ev") ?_)) (b1.cmul b2 (by decide))) ?_)) True.intro
      · exact Bd.cmul (a := 64) (b := 64) (Bd.lit rfl) (by unfold Bd; omega) (by decide)
      · unfold numOf; rw [if_pos h]
    · refine pss_seq (psd_ifF (by walk_at "tv") h pss_nilD) ?_
      refine pss_end (psd_ret (pd_cast (by walk_at "ev") ?_)) True.intro
      unfold numOf; rw [if_neg h]
theorem cal_l_number {f : Addr} {fd : FuncData} (F : Fun K "_law_number" "_law_number" s_l_number f fd) (hm : mg "_law_number" = some (.ref f)) (T : Tx K mg cs) : Cal P w K mg base "_law_number" 1 P_l_number ((R_int1 (numOf 60))) := ⟨f, fd, ok_l_number F T, hm, F.kp, F.binds fun _ _ _ _ _ _ us hl => match us, hl with | [_], _ => rfl⟩
end
end K01
namespace K01
open PySem L2 Bl
section
/-! how a body is gone through: ev an expression, tv a test, ar arguments, st a block's next statement, bd the bits of a number -/
set_option hygiene false in
local macro_rules | `(tactic| walk_at "bdn") => `(tactic| first
  | ((with_reducible show Bd _ _); walk_at "bd")
  | ((fail_if_success (with_reducible show Bd _ _)); skip))
set_option hygiene false in
local macro_rules | `(tactic| walk_at "bd") => `(tactic| first
  | with_reducible assumption
  | ((refine' Bd.mul ?_ ?_) <;> walk_at "bdn")
  | ((refine' Bd.add ?_ ?_) <;> walk_at "bdn")
  | ((refine' Bd.sub ?_ ?_) <;> walk_at "bdn")
  | ((refine' Bd.neg ?_) <;> walk_at "bdn")
  | exact Bd.lit (a := 64) (by exact rfl)
  | exact Bd.lit (a := 210) (by exact rfl)
  | ((refine' Bd.imax ?_ ?_) <;> walk_at "bdn")
  | ((refine' Bd.imin ?_ ?_) <;> walk_at "bdn")
  | exact numOf_bd (n := 60) (m := 200) (by exact rfl) (by decide) _
  | exact numOf_bd (n := 20) (m := 67) (by exact rfl) (by decide) _
  | exact bd_mod (n := 12) (by decide) (by exact rfl)
  | exact bd_mod (n := 68) (by decide) (by exact rfl)
  | exact bd_mod (n := 200) (by decide) (by exact rfl)
  | ((refine' frT_bd (by first | assumption | omega) ?_) <;> walk_at "bdn")
  | ((refine' frB_bd (by first | assumption | omega) ?_) <;> walk_at "bdn")
  | walk_at "bdx")
set_option hygiene false in
local macro_rules | `(tactic| walk_at "mul") => `(tactic| first
  | exact Bd.cmul (by walk_at "bd") (by walk_at "bd") (by exact Nat.le_of_ble_eq_true rfl)
  | skip)
set_option hygiene false in
local macro_rules | `(tactic| walk_at "kit") => `(tactic| first
  | with_reducible exact kit_int_int
  | with_reducible exact kit_int_bool
  | with_reducible exact kit_int_tuple
  | with_reducible exact kit_int_list
  | with_reducible exact kit_bool_int
  | with_reducible exact kit_bool_bool
  | with_reducible exact kit_bool_tuple
  | with_reducible exact kit_bool_list
  | with_reducible exact kit_tuple_int
  | with_reducible exact kit_tuple_bool
  | with_reducible exact kit_tuple_tuple
  | with_reducible exact kit_tuple_list
  | with_reducible exact kit_list_int
  | with_reducible exact kit_list_bool
  | with_reducible exact kit_list_tuple
  | with_reducible exact kit_list_list
  | with_reducible exact kit_NoneType_int
  | with_reducible exact kit_NoneType_bool
  | with_reducible exact kit_NoneType_tuple
  | with_reducible exact kit_NoneType_list)
set_option hygiene false in
local macro_rules | `(tactic| walk_at "bdg") => `(tactic| first
  | assumption
  | exact Bd.mono (by walk_at "bd") (by exact Nat.le_of_ble_eq_true rfl)
  | skip)
set_option hygiene false in
local macro_rules | `(tactic| walk_at "side") => `(tactic| first
  | ((with_reducible show Bd _ _); walk_at "bdg")
  | ((with_reducible show kitB _ _ = _); walk_at "kit")
  | ((with_reducible show (_ : Prop)); first | assumption | with_reducible rfl | exact Nat.le_of_ble_eq_true rfl | decide | omega | rfl | exact ⟨by decide, by decide⟩ | skip)
  | skip)
set_option hygiene false in
local macro_rules | `(tactic| walk_at "go") => `(tactic| first
  | ((with_reducible show PE _ _ _); walk_at "ev")
  | ((with_reducible show PA _ _ _); walk_at "ar")
  | ((with_reducible show PT _ _ _); walk_at "tv")
  | ((with_reducible show PW _ _ _); walk_at "tw")
  | ((with_reducible show PSs _ _ _); skip)
  | ((with_reducible show CMulW _ _); walk_at "mul")
  | ((fail_if_success (with_reducible show PE _ _ _)); (fail_if_success (with_reducible show PA _ _ _)); (fail_if_success (with_reducible show PT _ _ _)); (fail_if_success (with_reducible show PW _ _ _)); walk_at "side"))
set_option hygiene false in
local macro_rules | `(tactic| walk_at "gof") => `(tactic| first
  | ((with_reducible show PE _ _ _); walk_at "ev")
  | ((with_reducible show PA _ _ _); walk_at "ar")
  | ((with_reducible show PT _ _ _); walk_at "tv")
  | ((with_reducible show PW _ _ _); walk_at "tw")
  | ((with_reducible show PSs _ _ _); skip)
  | ((with_reducible show CMulW _ _); walk_at "mul")
  | ((fail_if_success (with_reducible show PE _ _ _)); (fail_if_success (with_reducible show PA _ _ _)); (fail_if_success (with_reducible show PT _ _ _)); (fail_if_success (with_reducible show PW _ _ _)); first | ((with_reducible show (_ ∧ _)); exact ⟨by decide, by decide⟩) | ((fail_if_success (with_reducible show (_ ∧ _))); skip)))
set_option hygiene false in
local macro_rules | `(tactic| walk_at "ar") => `(tactic| first
  | with_reducible exact pas_nil
  | ((refine' pas_cons ?_ ?_ (by rfl)) <;> walk_at "go"))
set_option hygiene false in
local macro_rules | `(tactic| walk_at "ev") => `(tactic| first
  | with_reducible exact pd_int
  | walk_at "nm"
  | with_reducible exact pd_bl
  | with_reducible exact pd_non
  | ((with_reducible show PE _ (Expr.BinOp _ Operator.Add _ _) _); first | ((refine' pd_add ?_ ?_) <;> walk_at "go") | ((refine' pd_new (pn_cat ?_ ?_ ?_ ?_ ?_)) <;> walk_at "go"))
  | ((with_reducible show PE _ (Expr.BinOp _ Operator.Sub _ _) _); ((refine' pd_sub ?_ ?_) <;> walk_at "go"))
  | ((with_reducible show PE _ (Expr.BinOp _ Operator.Mult _ _) _); first | ((refine' pd_mul ?_ ?_ ?_) <;> walk_at "go") | ((refine' pd_new (pn_rep ?_ ?_ ?_ ?_ ?_)) <;> walk_at "go"))
  | ((with_reducible show PE _ (Expr.BinOp _ Operator.FloorDiv _ _) _); first | ((refine' pd_fdiv ?_ ?_ ?_) <;> walk_at "gof") | ((refine' pd_fdivW ?_ ?_ ?_) <;> walk_at "go"))
  | ((with_reducible show PE _ (Expr.BinOp _ Operator.Mod _ _) _); ((refine' pd_mod ?_ ?_ ?_) <;> walk_at "go"))
  | ((with_reducible show PE _ (Expr.BinOp _ Operator.Pow _ _) _); exact pd_powL ⟨by decide, by decide⟩)
  | ((with_reducible show PE _ (Expr.UnaryOp UnaryOp.USub _ _) _); ((refine' pd_neg ?_) <;> walk_at "go"))
  | ((with_reducible show PE _ (Expr.UnaryOp UnaryOp.Not _ _) _); ((refine' pd_not ?_) <;> walk_at "go"))
  | ((with_reducible show PE _ (Expr.Tuple _ _ _) _); ((refine' pd_tup ?_ ?_) <;> walk_at "go"))
  | ((with_reducible show PE _ (Expr.List _ _) _); ((refine' pd_new (pn_lst ?_ ?_)) <;> walk_at "go"))
  | ((with_reducible show PE _ (Expr.Attribute _ _ _) _); walk_at "fld")
  | ((with_reducible show PE _ (Expr.Compare _ [CmpOp.Lt] _ _) _); ((refine' pd_lt ?_ ?_) <;> walk_at "go"))
  | ((with_reducible show PE _ (Expr.Compare _ [CmpOp.LtE] _ _) _); ((refine' pd_le ?_ ?_) <;> walk_at "go"))
  | ((with_reducible show PE _ (Expr.Compare _ [CmpOp.Eq] _ _) _); ((refine' pd_eq ?_ ?_) <;> walk_at "go"))
  | ((with_reducible show PE _ (Expr.Call (Expr.Name "abs" _) _ _ _) _); ((refine' pd_abs (by rfl) T.n_abs ?_) <;> walk_at "go"))
  | ((with_reducible show PE _ (Expr.Call (Expr.Name "max" _) _ _ _) _); ((refine' pd_max (by rfl) (by rfl) T.n_max ?_ ?_) <;> walk_at "go"))
  | ((with_reducible show PE _ (Expr.Call (Expr.Name "min" _) _ _ _) _); ((refine' pd_min (by rfl) (by rfl) T.n_min ?_ ?_) <;> walk_at "go"))
  | ((with_reducible show PE _ (Expr.Call (Expr.Name "len" _) _ _ _) _); ((refine' pd_len (by rfl) T.n_len ?_ ?_) <;> walk_at "go"))
  | ((with_reducible show PE _ (Expr.Call (Expr.Name "sum" _) _ _ _) _); ((refine' pd_sum (by rfl) (by rfl) T.n_sum ?_ ?_) <;> walk_at "go"))
  | ((with_reducible show PE _ (Expr.Call (Expr.Name "list" _) _ _ _) _); ((refine' pd_new (pn_list (by rfl) T.n_list ?_ ?_)) <;> walk_at "go"))
  | ((with_reducible show PE _ (Expr.Call (Expr.Name "tuple" _) _ _ _) _); ((refine' pd_tuple (by rfl) T.n_tuple ?_ ?_) <;> walk_at "go"))
  | ((with_reducible show PE _ (Expr.Call (Expr.Name "isinstance" _) [_, Expr.Name "int" _] _ _) _); ((refine' pd_isi (by rfl) T.n_isinstance ?_ (pe_bltn (by rfl) T.n_int boot_intT rfl) ?_ ?_) <;> walk_at "go"))
  | ((with_reducible show PE _ (Expr.Call (Expr.Name "isinstance" _) [_, Expr.Name "bool" _] _ _) _); ((refine' pd_isi (by rfl) T.n_isinstance ?_ (pe_bltn (by rfl) T.n_bool boot_boolT rfl) ?_ ?_) <;> walk_at "go"))
  | ((with_reducible show PE _ (Expr.Call (Expr.Name "isinstance" _) [_, Expr.Name "tuple" _] _ _) _); ((refine' pd_isi (by rfl) T.n_isinstance ?_ (pe_bltn (by rfl) T.n_tuple boot_tupleT rfl) ?_ ?_) <;> walk_at "go"))
  | ((with_reducible show PE _ (Expr.Call (Expr.Name "isinstance" _) [_, Expr.Name "list" _] _ _) _); ((refine' pd_isi (by rfl) T.n_isinstance ?_ (pe_bltn (by rfl) T.n_list boot_listT rfl) ?_ ?_) <;> walk_at "go"))
  | ((with_reducible show PE _ (Expr.Call _ _ _ _) _); walk_at "cl")
  | ((with_reducible show PE _ (Expr.BoolOp _ [_] _) _); ((refine' pd_one ?_) <;> walk_at "go"))
  | ((with_reducible show PE _ (Expr.BoolOp BoolOp.And _ _) _); ((refine' pd_and ?_ (fun hyp => ?_)) <;> walk_at "go"))
  | ((with_reducible show PE _ (Expr.BoolOp BoolOp.Or _ _) _); ((refine' pd_or ?_ (fun hyp => ?_)) <;> walk_at "go"))
  | ((with_reducible show PE _ (Expr.Subscript _ _ _) _); ((refine' pd_ix ?_ ?_ (fun _ _ => rfl) ?_ ?_) <;> walk_at "go")))
set_option hygiene false in
local macro_rules | `(tactic| walk_at "tw") => `(tactic| first
  | ((refine' pwd_and1 ?_) <;> walk_at "go")
  | ((refine' pwd_or1 ?_) <;> walk_at "go")
  | ((refine' pwd_and ?_ (fun hyp => ?_)) <;> walk_at "go")
  | ((refine' pwd_or ?_ (fun hyp => ?_)) <;> walk_at "go"))
set_option hygiene false in
local macro_rules | `(tactic| walk_at "tv") => `(tactic| first
  | ((with_reducible show PT _ (Expr.Compare _ [CmpOp.Lt] _ _) _); ((refine' ptd_lt ?_ ?_) <;> walk_at "go"))
  | ((with_reducible show PT _ (Expr.Compare _ [CmpOp.LtE] _ _) _); ((refine' ptd_le ?_ ?_) <;> walk_at "go"))
  | ((with_reducible show PT _ (Expr.Compare _ [CmpOp.Gt] _ _) _); ((refine' ptd_gt ?_ ?_) <;> walk_at "go"))
  | ((with_reducible show PT _ (Expr.Compare _ [CmpOp.GtE] _ _) _); ((refine' ptd_ge ?_ ?_) <;> walk_at "go"))
  | ((with_reducible show PT _ (Expr.Compare _ [CmpOp.Eq] _ _) _); ((refine' ptd_eq ?_ ?_) <;> walk_at "go"))
  | ((with_reducible show PT _ (Expr.Compare _ [CmpOp.NotEq] _ _) _); ((refine' ptd_ne ?_ ?_) <;> walk_at "go"))
  | ((with_reducible show PT _ (Expr.BoolOp _ _ _) _); ((refine' PW.pt ?_) <;> walk_at "go"))
  | ((with_reducible show PT _ (Expr.UnaryOp UnaryOp.Not _ _) _); ((refine' ptd_not ?_) <;> walk_at "go"))
  | ((refine' ptd_val ?_ (fun _ => rfl)) <;> walk_at "go"))
set_option hygiene false in
local macro_rules | `(tactic| walk_at "st") => `(tactic| first
  | ((walk_at "set") <;> walk_at "go")
  | ((walk_at "aug") <;> walk_at "go")
  | ((with_reducible show PSs _ (Stmt.Return (some _) _ :: _) _); first | (((refine' pss_end (psd_ret ?_) True.intro) <;> walk_at "go"); done) | ((refine' pss_end (psd_ret (pd_cast ?_ ?_)) True.intro) <;> walk_at "go")))
set_option hygiene false in
local macro_rules | `(tactic| walk_at "if") => `(tactic| (focus (refine' pss_if ?_ ?_ ?_; rotate_left 1; walk_at "tv")))
set_option hygiene false in
local macro_rules | `(tactic| walk_at "run") => `(tactic| repeat' (walk_at "st"))
set_option hygiene false in
local macro_rules | `(tactic| walk_at "nm") => `(tactic| first
  | ((with_reducible refine' pd_var (x := "_law_top") 0 ?_ ?_ ?_ ?_ ?_) <;> first | (with_reducible show D) | ((with_reducible show Vis _ _); first | exact .inl rfl | exact .inr (.inl rfl) | exact .inr (.inr rfl)) | ((with_reducible show (_ == _) = false); decide) | rfl)
  | ((with_reducible refine' pd_var (x := "_law_rightly") 1 ?_ ?_ ?_ ?_ ?_) <;> first | (with_reducible show D) | ((with_reducible show Vis _ _); first | exact .inl rfl | exact .inr (.inl rfl) | exact .inr (.inr rfl)) | ((with_reducible show (_ == _) = false); decide) | rfl)
  | ((with_reducible refine' pd_var (x := "e") 2 ?_ ?_ ?_ ?_ ?_) <;> first | (with_reducible show D) | ((with_reducible show Vis _ _); first | exact .inl rfl | exact .inr (.inl rfl) | exact .inr (.inr rfl)) | ((with_reducible show (_ == _) = false); decide) | rfl))
set_option hygiene false in
local macro_rules | `(tactic| walk_at "set") => `(tactic| first
  | ((with_reducible show PSs _ (Stmt.Assign [Expr.Name "_law_top" _] _ _ :: _) _); refine' pss_seq (psd_set 0 nd (by rfl) (by first | exact .inl rfl | exact .inr rfl) ?_ (by rfl) (by first | exact .inr rfl | exact .inl rfl)) ?_)
  | ((with_reducible show PSs _ (Stmt.Assign [Expr.Name "_law_rightly" _] _ _ :: _) _); refine' pss_seq (psd_set 1 nd (by rfl) (by first | exact .inl rfl | exact .inr rfl) ?_ (by rfl) (by first | exact .inr rfl | exact .inl rfl)) ?_)
  | ((with_reducible show PSs _ (Stmt.Assign [Expr.Name "e" _] _ _ :: _) _); refine' pss_seq (psd_set 2 nd (by rfl) (by first | exact .inl rfl | exact .inr rfl) ?_ (by rfl) (by first | exact .inr rfl | exact .inl rfl)) ?_))
set_option hygiene false in
local macro_rules | `(tactic| walk_at "aug") => `(tactic| first
  | ((with_reducible show PSs _ (Stmt.AugAssign (Expr.Name "_law_top" _) _ _ _ :: _) _); first | refine' pss_seq (psd_aug 0 nd (by rfl) (by first | exact .inl rfl | exact .inr rfl) L2.ip_add (by rfl) ?_ (by first | exact .inr rfl | exact .inl rfl)) ?s2 | refine' pss_seq (psd_aug 0 nd (by rfl) (by first | exact .inl rfl | exact .inr rfl) L2.ip_sub (by rfl) ?_ (by first | exact .inr rfl | exact .inl rfl)) ?_)
  | ((with_reducible show PSs _ (Stmt.AugAssign (Expr.Name "_law_rightly" _) _ _ _ :: _) _); first | refine' pss_seq (psd_aug 1 nd (by rfl) (by first | exact .inl rfl | exact .inr rfl) L2.ip_add (by rfl) ?_ (by first | exact .inr rfl | exact .inl rfl)) ?s2 | refine' pss_seq (psd_aug 1 nd (by rfl) (by first | exact .inl rfl | exact .inr rfl) L2.ip_sub (by rfl) ?_ (by first | exact .inr rfl | exact .inl rfl)) ?_)
  | ((with_reducible show PSs _ (Stmt.AugAssign (Expr.Name "e" _) _ _ _ :: _) _); first | refine' pss_seq (psd_aug 2 nd (by rfl) (by first | exact .inl rfl | exact .inr rfl) L2.ip_add (by rfl) ?_ (by first | exact .inr rfl | exact .inl rfl)) ?s2 | refine' pss_seq (psd_aug 2 nd (by rfl) (by first | exact .inl rfl | exact .inr rfl) L2.ip_sub (by rfl) ?_ (by first | exact .inr rfl | exact .inl rfl)) ?_))
set_option hygiene false in
local macro_rules | `(tactic| walk_at "tgn") => `(tactic| first
  | ((with_reducible show PG _ (Expr.Name "_law_top" _) _); refine' pgd_name 0 nd (by rfl) (by first | exact .inl rfl | exact .inr rfl) (by first | exact .inr rfl | exact .inl rfl) (by first | decide | simp))
  | ((with_reducible show PG _ (Expr.Name "_law_rightly" _) _); refine' pgd_name 1 nd (by rfl) (by first | exact .inl rfl | exact .inr rfl) (by first | exact .inr rfl | exact .inl rfl) (by first | decide | simp))
  | ((with_reducible show PG _ (Expr.Name "e" _) _); refine' pgd_name 2 nd (by rfl) (by first | exact .inl rfl | exact .inr rfl) (by first | exact .inr rfl | exact .inl rfl) (by first | decide | simp)))
set_option hygiene false in
local macro_rules | `(tactic| walk_at "cl") => `(tactic| first
  | ((with_reducible show PE _ (Expr.Call (Expr.Name "fraction" _) _ _ _) _); (refine' pd_call c_fraction hr (by decide) (by rfl) ?_ ⟨_, _, rfl, .inr ⟨?_, ?_, rfl⟩⟩) <;> walk_at "go"))
variable {P : Program} {w : World} {K : PySem.W.Frag} {mg : Str → Option Value} {base : Heap} {cs : Cs}
theorem ok_l_refused {f : Addr} {fd : FuncData} (F : Fun K "_law_refused" "_law_refused" s_l_refused f fd) (T : Tx K mg cs) (c_fraction : Cal P w K mg base "fraction" 2 P_fraction ((R_fraction cs))) : FnOk P w K mg base (L2.CX P w) 3 f fd P_l_refused (spD K R_yes1) := by
  refine def_ok F sc_l_refused (fun ds r h => ?_) (by decide) (fun cdv A outer s H E ds r hr h => ?_)
  · obtain ⟨a, rfl, _⟩ := h; rfl
  · obtain ⟨t, rfl, rfl⟩ := h
    have nd := sc_l_refused.nd
    refine pss_hd rfl ?_
    walk_at "run"
    refine pss_seq (psd_try (D := cs.NoNumber) (c := .ref cs.BeamError) 2 (δ2 := [some (.int t), some (.bl true), none]) rfl rfl nd rfl rfl ⟨rfl, by decide, .inl T.g_BeamError⟩ takes0 T.ex_NoNumber
      (fun W pn xe tk => pss_try_expr (rest := []) (pxs_call c_fraction tk hr (by decide) (by rfl) (by walk_at "ar") ⟨t, 0, rfl, .inl ⟨rfl, rfl⟩⟩) rfl) (fun ae oe pn hz hv => ?_)) ?_
    · refine pss_seq (psd_set 1 nd rfl (.inl rfl) (pd_and (pd_isEo T.e_NoNumber hz hv (by rfl) T.n_isinstance (by walk_at "nm") (by rfl) (by decide) T.g_NoNumber T.ki_NoNumber_NoNumber (by rfl) (by rfl) (by rfl)) fun _ => pd_one (pd_isEv T.e_NoNumber hz hv (by rfl) T.n_isinstance (by walk_at "nm") (by rfl) T.n_ValueError T.ki_NoNumber_V (by rfl) (by rfl) (by rfl))) rfl (.inr rfl)) ?_
      refine pss_wk (pss_seq (psd_ifF (PW.pt (pwd_or (ptd_val (pd_isEo T.e_NoNumber hz hv (by rfl) T.n_isinstance (by walk_at "nm") (by rfl) (by decide) T.g_NoLoad T.ki_NoNumber_NoLoad (by rfl) (by rfl) (by rfl)) (fun _ => rfl)) fun _ => pwd_or (ptd_val (pd_isEo T.e_NoNumber hz hv (by rfl) T.n_isinstance (by walk_at "nm") (by rfl) (by decide) T.g_NoBeam T.ki_NoNumber_NoBeam (by rfl) (by rfl) (by rfl)) (fun _ => rfl)) fun _ => pwd_or1 (ptd_val (pd_isEo T.e_NoNumber hz hv (by rfl) T.n_isinstance (by walk_at "nm") (by rfl) (by decide) T.g_OffBeam T.ki_NoNumber_OffBeam (by rfl) (by rfl) (by rfl)) (fun _ => rfl)))) (by simp) pss_nilD) pss_nilD) ?_
      exact .same (.same (.drop .nil))
    · walk_at "run"
theorem cal_l_refused {f : Addr} {fd : FuncData} (F : Fun K "_law_refused" "_law_refused" s_l_refused f fd) (hm : mg "_law_refused" = some (.ref f)) (T : Tx K mg cs) (c_fraction : Cal P w K mg base "fraction" 2 P_fraction ((R_fraction cs))) : Cal P w K mg base "_law_refused" 3 P_l_refused (R_yes1) := ⟨f, fd, ok_l_refused F T c_fraction, hm, F.kp, F.binds fun _ _ _ _ _ _ us hl => match us, hl with | [_], _ => rfl⟩
end
end K01
namespace K01
open PySem L2 Bl
section
/-! how a body is gone through: ev an expression, tv a test, ar arguments, st a block's next statement, bd the bits of a number -/
set_option hygiene false in
local macro_rules | `(tactic| walk_at "bdn") => `(tactic| first
  | ((with_reducible show Bd _ _); walk_at "bd")
  | ((fail_if_success (with_reducible show Bd _ _)); skip))
set_option hygiene false in
local macro_rules | `(tactic| walk_at "bd") => `(tactic| first
  | with_reducible assumption
  | ((refine' Bd.mul ?_ ?_) <;> walk_at "bdn")
  | ((refine' Bd.add ?_ ?_) <;> walk_at "bdn")
  | ((refine' Bd.sub ?_ ?_) <;> walk_at "bdn")
  | ((refine' Bd.neg ?_) <;> walk_at "bdn")
  | exact Bd.lit (a := 64) (by exact rfl)
  | exact Bd.lit (a := 210) (by exact rfl)
  | ((refine' Bd.imax ?_ ?_) <;> walk_at "bdn")
  | ((refine' Bd.imin ?_ ?_) <;> walk_at "bdn")
  | exact numOf_bd (n := 60) (m := 200) (by exact rfl) (by decide) _
  | exact numOf_bd (n := 20) (m := 67) (by exact rfl) (by decide) _
  | exact bd_mod (n := 12) (by decide) (by exact rfl)
  | exact bd_mod (n := 68) (by decide) (by exact rfl)
  | exact bd_mod (n := 200) (by decide) (by exact rfl)
  | ((refine' frT_bd (by first | assumption | omega) ?_) <;> walk_at "bdn")
  | ((refine' frB_bd (by first | assumption | omega) ?_) <;> walk_at "bdn")
  | walk_at "bdx")
set_option hygiene false in
local macro_rules | `(tactic| walk_at "mul") => `(tactic| first
  | exact Bd.cmul (by walk_at "bd") (by walk_at "bd") (by exact Nat.le_of_ble_eq_true rfl)
  | skip)
set_option hygiene false in
local macro_rules | `(tactic| walk_at "kit") => `(tactic| first
  | with_reducible exact kit_int_int
  | with_reducible exact kit_int_bool
  | with_reducible exact kit_int_tuple
  | with_reducible exact kit_int_list
  | with_reducible exact kit_bool_int
  | with_reducible exact kit_bool_bool
  | with_reducible exact kit_bool_tuple
  | with_reducible exact kit_bool_list
  | with_reducible exact kit_tuple_int
  | with_reducible exact kit_tuple_bool
  | with_reducible exact kit_tuple_tuple
  | with_reducible exact kit_tuple_list
  | with_reducible exact kit_list_int
  | with_reducible exact kit_list_bool
  | with_reducible exact kit_list_tuple
  | with_reducible exact kit_list_list
  | with_reducible exact kit_NoneType_int
  | with_reducible exact kit_NoneType_bool
  | with_reducible exact kit_NoneType_tuple
  | with_reducible exact kit_NoneType_list)
set_option hygiene false in
local macro_rules | `(tactic| walk_at "bdg") => `(tactic| first
  | assumption
  | exact Bd.mono (by walk_at "bd") (by exact Nat.le_of_ble_eq_true rfl)
  | skip)
set_option hygiene false in
local macro_rules | `(tactic| walk_at "side") => `(tactic| first
  | ((with_reducible show Bd _ _); walk_at "bdg")
  | ((with_reducible show kitB _ _ = _); walk_at "kit")
  | ((with_reducible show (_ : Prop)); first | assumption | with_reducible rfl | exact Nat.le_of_ble_eq_true rfl | decide | omega | rfl | exact ⟨by decide, by decide⟩ | skip)
  | skip)
set_option hygiene false in
local macro_rules | `(tactic| walk_at "go") => `(tactic| first
  | ((with_reducible show PE _ _ _); walk_at "ev")
  | ((with_reducible show PA _ _ _); walk_at "ar")
  | ((with_reducible show PT _ _ _); walk_at "tv")
  | ((with_reducible show PW _ _ _); walk_at "tw")
  | ((with_reducible show PSs _ _ _); skip)
  | ((with_reducible show CMulW _ _); walk_at "mul")
  | ((fail_if_success (with_reducible show PE _ _ _)); (fail_if_success (with_reducible show PA _ _ _)); (fail_if_success (with_reducible show PT _ _ _)); (fail_if_success (with_reducible show PW _ _ _)); walk_at "side"))
set_option hygiene false in
local macro_rules | `(tactic| walk_at "gof") => `(tactic| first
  | ((with_reducible show PE _ _ _); walk_at "ev")
  | ((with_reducible show PA _ _ _); walk_at "ar")
  | ((with_reducible show PT _ _ _); walk_at "tv")
  | ((with_reducible show PW _ _ _); walk_at "tw")
  | ((with_reducible show PSs _ _ _); skip)
  | ((with_reducible show CMulW _ _); walk_at "mul")
  | ((fail_if_success (with_reducible show PE _ _ _)); (fail_if_success (with_reducible show PA _ _ _)); (fail_if_success (with_reducible show PT _ _ _)); (fail_if_success (with_reducible show PW _ _ _)); first | ((with_reducible show (_ ∧ _)); exact ⟨by decide, by decide⟩) | ((fail_if_success (with_reducible show (_ ∧ _))); skip)))
set_option hygiene false in
local macro_rules | `(tactic| walk_at "ar") => `(tactic| first
  | with_reducible exact pas_nil
  | ((refine' pas_cons ?_ ?_ (by rfl)) <;> walk_at "go"))
set_option hygiene false in
local macro_rules | `(tactic| walk_at "ev") => `(tactic| first
  | with_reducible exact pd_int
  | walk_at "nm"
  | with_reducible exact pd_bl
  | with_reducible exact pd_non
  | ((with_reducible show PE _ (Expr.BinOp _ Operator.Add _ _) _); first | ((refine' pd_add ?_ ?_) <;> walk_at "go") | ((refine' pd_new (pn_cat ?_ ?_ ?_ ?_ ?_)) <;> walk_at "go"))
  | ((with_reducible show PE _ (Expr.BinOp _ Operator.Sub _ _) _); ((refine' pd_sub ?_ ?_) <;> walk_at "go"))
  | ((with_reducible show PE _ (Expr.BinOp _ Operator.Mult _ _) _); first | ((refine' pd_mul ?_ ?_ ?_) <;> walk_at "go") | ((refine' pd_new (pn_rep ?_ ?_ ?_ ?_ ?_)) <;> walk_at "go"))
  | ((with_reducible show PE _ (Expr.BinOp _ Operator.FloorDiv _ _) _); first | ((refine' pd_fdiv ?_ ?_ ?_) <;> walk_at "gof") | ((refine' pd_fdivW ?_ ?_ ?_) <;> walk_at "go"))
  | ((with_reducible show PE _ (Expr.BinOp _ Operator.Mod _ _) _); ((refine' pd_mod ?_ ?_ ?_) <;> walk_at "go"))
  | ((with_reducible show PE _ (Expr.BinOp _ Operator.Pow _ _) _); exact pd_powL ⟨by decide, by decide⟩)
  | ((with_reducible show PE _ (Expr.UnaryOp UnaryOp.USub _ _) _); ((refine' pd_neg ?_) <;> walk_at "go"))
  | ((with_reducible show PE _ (Expr.UnaryOp UnaryOp.Not _ _) _); ((refine' pd_not ?_) <;> walk_at "go"))
  | ((with_reducible show PE _ (Expr.Tuple _ _ _) _); ((refine' pd_tup ?_ ?_) <;> walk_at "go"))
  | ((with_reducible show PE _ (Expr.List _ _) _); ((refine' pd_new (pn_lst ?_ ?_)) <;> walk_at "go"))
  | ((with_reducible show PE _ (Expr.Attribute _ _ _) _); walk_at "fld")
  | ((with_reducible show PE _ (Expr.Compare _ [CmpOp.Lt] _ _) _); ((refine' pd_lt ?_ ?_) <;> walk_at "go"))
  | ((with_reducible show PE _ (Expr.Compare _ [CmpOp.LtE] _ _) _); ((refine' pd_le ?_ ?_) <;> walk_at "go"))
  | ((with_reducible show PE _ (Expr.Compare _ [CmpOp.Eq] _ _) _); ((refine' pd_eq ?_ ?_) <;> walk_at "go"))
  | ((with_reducible show PE _ (Expr.Call (Expr.Name "abs" _) _ _ _) _); ((refine' pd_abs (by rfl) T.n_abs ?_) <;> walk_at "go"))
  | ((with_reducible show PE _ (Expr.Call (Expr.Name "max" _) _ _ _) _); ((refine' pd_max (by rfl) (by rfl) T.n_max ?_ ?_) <;> walk_at "go"))
  | ((with_reducible show PE _ (Expr.Call (Expr.Name "min" _) _ _ _) _); ((refine' pd_min (by rfl) (by rfl) T.n_min ?_ ?_) <;> walk_at "go"))
  | ((with_reducible show PE _ (Expr.Call (Expr.Name "len" _) _ _ _) _); ((refine' pd_len (by rfl) T.n_len ?_ ?_) <;> walk_at "go"))
  | ((with_reducible show PE _ (Expr.Call (Expr.Name "sum" _) _ _ _) _); ((refine' pd_sum (by rfl) (by rfl) T.n_sum ?_ ?_) <;> walk_at "go"))
  | ((with_reducible show PE _ (Expr.Call (Expr.Name "list" _) _ _ _) _); ((refine' pd_new (pn_list (by rfl) T.n_list ?_ ?_)) <;> walk_at "go"))
  | ((with_reducible show PE _ (Expr.Call (Expr.Name "tuple" _) _ _ _) _); ((refine' pd_tuple (by rfl) T.n_tuple ?_ ?_) <;> walk_at "go"))
  | ((with_reducible show PE _ (Expr.Call (Expr.Name "isinstance" _) [_, Expr.Name "int" _] _ _) _); ((refine' pd_isi (by rfl) T.n_isinstance ?_ (pe_bltn (by rfl) T.n_int boot_intT rfl) ?_ ?_) <;> walk_at "go"))
  | ((with_reducible show PE _ (Expr.Call (Expr.Name "isinstance" _) [_, Expr.Name "bool" _] _ _) _); ((refine' pd_isi (by rfl) T.n_isinstance ?_ (pe_bltn (by rfl) T.n_bool boot_boolT rfl) ?_ ?_) <;> walk_at "go"))
  | ((with_reducible show PE _ (Expr.Call (Expr.Name "isinstance" _) [_, Expr.Name "tuple" _] _ _) _); ((refine' pd_isi (by rfl) T.n_isinstance ?_ (pe_bltn (by rfl) T.n_tuple boot_tupleT rfl) ?_ ?_) <;> walk_at "go"))
  | ((with_reducible show PE _ (Expr.Call (Expr.Name "isinstance" _) [_, Expr.Name "list" _] _ _) _); ((refine' pd_isi (by rfl) T.n_isinstance ?_ (pe_bltn (by rfl) T.n_list boot_listT rfl) ?_ ?_) <;> walk_at "go"))
  | ((with_reducible show PE _ (Expr.Call _ _ _ _) _); walk_at "cl")
  | ((with_reducible show PE _ (Expr.BoolOp _ [_] _) _); ((refine' pd_one ?_) <;> walk_at "go"))
  | ((with_reducible show PE _ (Expr.BoolOp BoolOp.And _ _) _); ((refine' pd_and ?_ (fun hyp => ?_)) <;> walk_at "go"))
  | ((with_reducible show PE _ (Expr.BoolOp BoolOp.Or _ _) _); ((refine' pd_or ?_ (fun hyp => ?_)) <;> walk_at "go"))
  | ((with_reducible show PE _ (Expr.Subscript _ _ _) _); ((refine' pd_ix ?_ ?_ (fun _ _ => rfl) ?_ ?_) <;> walk_at "go")))
set_option hygiene false in
local macro_rules | `(tactic| walk_at "tw") => `(tactic| first
  | ((refine' pwd_and1 ?_) <;> walk_at "go")
  | ((refine' pwd_or1 ?_) <;> walk_at "go")
  | ((refine' pwd_and ?_ (fun hyp => ?_)) <;> walk_at "go")
  | ((refine' pwd_or ?_ (fun hyp => ?_)) <;> walk_at "go"))
set_option hygiene false in
local macro_rules | `(tactic| walk_at "tv") => `(tactic| first
  | ((with_reducible show PT _ (Expr.Compare _ [CmpOp.Lt] _ _) _); ((refine' ptd_lt ?_ ?_) <;> walk_at "go"))
  | ((with_reducible show PT _ (Expr.Compare _ [CmpOp.LtE] _ _) _); ((refine' ptd_le ?_ ?_) <;> walk_at "go"))
  | ((with_reducible show PT _ (Expr.Compare _ [CmpOp.Gt] _ _) _); ((refine' ptd_gt ?_ ?_) <;> walk_at "go"))
  | ((with_reducible show PT _ (Expr.Compare _ [CmpOp.GtE] _ _) _); ((refine' ptd_ge ?_ ?_) <;> walk_at "go"))
  | ((with_reducible show PT _ (Expr.Compare _ [CmpOp.Eq] _ _) _); ((refine' ptd_eq ?_ ?_) <;> walk_at "go"))
  | ((with_reducible show PT _ (Expr.Compare _ [CmpOp.NotEq] _ _) _); ((refine' ptd_ne ?_ ?_) <;> walk_at "go"))
  | ((with_reducible show PT _ (Expr.BoolOp _ _ _) _); ((refine' PW.pt ?_) <;> walk_at "go"))
  | ((with_reducible show PT _ (Expr.UnaryOp UnaryOp.Not _ _) _); ((refine' ptd_not ?_) <;> walk_at "go"))
  | ((refine' ptd_val ?_ (fun _ => rfl)) <;> walk_at "go"))
set_option hygiene false in
local macro_rules | `(tactic| walk_at "st") => `(tactic| first
  | ((walk_at "set") <;> walk_at "go")
  | ((walk_at "aug") <;> walk_at "go")
  | ((with_reducible show PSs _ (Stmt.Return (some _) _ :: _) _); first | (((refine' pss_end (psd_ret ?_) True.intro) <;> walk_at "go"); done) | ((refine' pss_end (psd_ret (pd_cast ?_ ?_)) True.intro) <;> walk_at "go")))
set_option hygiene false in
local macro_rules | `(tactic| walk_at "if") => `(tactic| (focus (refine' pss_if ?_ ?_ ?_; rotate_left 1; walk_at "tv")))
set_option hygiene false in
local macro_rules | `(tactic| walk_at "run") => `(tactic| repeat' (walk_at "st"))
set_option hygiene false in
local macro_rules | `(tactic| walk_at "nm") => `(tactic| first
  | ((with_reducible refine' pd_var (x := "_law_script") 0 ?_ ?_ ?_ ?_ ?_) <;> first | (with_reducible show D) | ((with_reducible show Vis _ _); first | exact .inl rfl | exact .inr (.inl rfl) | exact .inr (.inr rfl)) | ((with_reducible show (_ == _) = false); decide) | rfl)
  | ((with_reducible refine' pd_var (x := "_law_top") 1 ?_ ?_ ?_ ?_ ?_) <;> first | (with_reducible show D) | ((with_reducible show Vis _ _); first | exact .inl rfl | exact .inr (.inl rfl) | exact .inr (.inr rfl)) | ((with_reducible show (_ == _) = false); decide) | rfl)
  | ((with_reducible refine' pd_var (x := "_law_bottom") 2 ?_ ?_ ?_ ?_ ?_) <;> first | (with_reducible show D) | ((with_reducible show Vis _ _); first | exact .inl rfl | exact .inr (.inl rfl) | exact .inr (.inr rfl)) | ((with_reducible show (_ == _) = false); decide) | rfl)
  | ((with_reducible refine' pd_var (x := "_law_times") 3 ?_ ?_ ?_ ?_ ?_) <;> first | (with_reducible show D) | ((with_reducible show Vis _ _); first | exact .inl rfl | exact .inr (.inl rfl) | exact .inr (.inr rfl)) | ((with_reducible show (_ == _) = false); decide) | rfl)
  | ((with_reducible refine' pd_var (x := "_law_found") 4 ?_ ?_ ?_ ?_ ?_) <;> first | (with_reducible show D) | ((with_reducible show Vis _ _); first | exact .inl rfl | exact .inr (.inl rfl) | exact .inr (.inr rfl)) | ((with_reducible show (_ == _) = false); decide) | rfl))
set_option hygiene false in
local macro_rules | `(tactic| walk_at "set") => `(tactic| first
  | ((with_reducible show PSs _ (Stmt.Assign [Expr.Name "_law_script" _] _ _ :: _) _); refine' pss_seq (psd_set 0 nd (by rfl) (by first | exact .inl rfl | exact .inr rfl) ?_ (by rfl) (by first | exact .inr rfl | exact .inl rfl)) ?_)
  | ((with_reducible show PSs _ (Stmt.Assign [Expr.Name "_law_top" _] _ _ :: _) _); refine' pss_seq (psd_set 1 nd (by rfl) (by first | exact .inl rfl | exact .inr rfl) ?_ (by rfl) (by first | exact .inr rfl | exact .inl rfl)) ?_)
  | ((with_reducible show PSs _ (Stmt.Assign [Expr.Name "_law_bottom" _] _ _ :: _) _); refine' pss_seq (psd_set 2 nd (by rfl) (by first | exact .inl rfl | exact .inr rfl) ?_ (by rfl) (by first | exact .inr rfl | exact .inl rfl)) ?_)
  | ((with_reducible show PSs _ (Stmt.Assign [Expr.Name "_law_times" _] _ _ :: _) _); refine' pss_seq (psd_set 3 nd (by rfl) (by first | exact .inl rfl | exact .inr rfl) ?_ (by rfl) (by first | exact .inr rfl | exact .inl rfl)) ?_)
  | ((with_reducible show PSs _ (Stmt.Assign [Expr.Name "_law_found" _] _ _ :: _) _); refine' pss_seq (psd_set 4 nd (by rfl) (by first | exact .inl rfl | exact .inr rfl) ?_ (by rfl) (by first | exact .inr rfl | exact .inl rfl)) ?_))
set_option hygiene false in
local macro_rules | `(tactic| walk_at "aug") => `(tactic| first
  | ((with_reducible show PSs _ (Stmt.AugAssign (Expr.Name "_law_script" _) _ _ _ :: _) _); first | refine' pss_seq (psd_aug 0 nd (by rfl) (by first | exact .inl rfl | exact .inr rfl) L2.ip_add (by rfl) ?_ (by first | exact .inr rfl | exact .inl rfl)) ?s2 | refine' pss_seq (psd_aug 0 nd (by rfl) (by first | exact .inl rfl | exact .inr rfl) L2.ip_sub (by rfl) ?_ (by first | exact .inr rfl | exact .inl rfl)) ?_)
  | ((with_reducible show PSs _ (Stmt.AugAssign (Expr.Name "_law_top" _) _ _ _ :: _) _); first | refine' pss_seq (psd_aug 1 nd (by rfl) (by first | exact .inl rfl | exact .inr rfl) L2.ip_add (by rfl) ?_ (by first | exact .inr rfl | exact .inl rfl)) ?s2 | refine' pss_seq (psd_aug 1 nd (by rfl) (by first | exact .inl rfl | exact .inr rfl) L2.ip_sub (by rfl) ?_ (by first | exact .inr rfl | exact .inl rfl)) ?_)
  | ((with_reducible show PSs _ (Stmt.AugAssign (Expr.Name "_law_bottom" _) _ _ _ :: _) _); first | refine' pss_seq (psd_aug 2 nd (by rfl) (by first | exact .inl rfl | exact .inr rfl) L2.ip_add (by rfl) ?_ (by first | exact .inr rfl | exact .inl rfl)) ?s2 | refine' pss_seq (psd_aug 2 nd (by rfl) (by first | exact .inl rfl | exact .inr rfl) L2.ip_sub (by rfl) ?_ (by first | exact .inr rfl | exact .inl rfl)) ?_)
  | ((with_reducible show PSs _ (Stmt.AugAssign (Expr.Name "_law_times" _) _ _ _ :: _) _); first | refine' pss_seq (psd_aug 3 nd (by rfl) (by first | exact .inl rfl | exact .inr rfl) L2.ip_add (by rfl) ?_ (by first | exact .inr rfl | exact .inl rfl)) ?s2 | refine' pss_seq (psd_aug 3 nd (by rfl) (by first | exact .inl rfl | exact .inr rfl) L2.ip_sub (by rfl) ?_ (by first | exact .inr rfl | exact .inl rfl)) ?_)
  | ((with_reducible show PSs _ (Stmt.AugAssign (Expr.Name "_law_found" _) _ _ _ :: _) _); first | refine' pss_seq (psd_aug 4 nd (by rfl) (by first | exact .inl rfl | exact .inr rfl) L2.ip_add (by rfl) ?_ (by first | exact .inr rfl | exact .inl rfl)) ?s2 | refine' pss_seq (psd_aug 4 nd (by rfl) (by first | exact .inl rfl | exact .inr rfl) L2.ip_sub (by rfl) ?_ (by first | exact .inr rfl | exact .inl rfl)) ?_))
set_option hygiene false in
local macro_rules | `(tactic| walk_at "tgn") => `(tactic| first
  | ((with_reducible show PG _ (Expr.Name "_law_script" _) _); refine' pgd_name 0 nd (by rfl) (by first | exact .inl rfl | exact .inr rfl) (by first | exact .inr rfl | exact .inl rfl) (by first | decide | simp))
  | ((with_reducible show PG _ (Expr.Name "_law_top" _) _); refine' pgd_name 1 nd (by rfl) (by first | exact .inl rfl | exact .inr rfl) (by first | exact .inr rfl | exact .inl rfl) (by first | decide | simp))
  | ((with_reducible show PG _ (Expr.Name "_law_bottom" _) _); refine' pgd_name 2 nd (by rfl) (by first | exact .inl rfl | exact .inr rfl) (by first | exact .inr rfl | exact .inl rfl) (by first | decide | simp))
  | ((with_reducible show PG _ (Expr.Name "_law_times" _) _); refine' pgd_name 3 nd (by rfl) (by first | exact .inl rfl | exact .inr rfl) (by first | exact .inr rfl | exact .inl rfl) (by first | decide | simp))
  | ((with_reducible show PG _ (Expr.Name "_law_found" _) _); refine' pgd_name 4 nd (by rfl) (by first | exact .inl rfl | exact .inr rfl) (by first | exact .inr rfl | exact .inl rfl) (by first | decide | simp)))
set_option hygiene false in
local macro_rules | `(tactic| walk_at "cl") => `(tactic| first
  | ((with_reducible show PE _ (Expr.Call (Expr.Name "fraction" _) _ _ _) _); (refine' pd_call c_fraction hr (by decide) (by rfl) ?_ ⟨_, _, rfl, .inr ⟨?_, ?_, rfl⟩⟩) <;> walk_at "go")
  | ((with_reducible show PE _ (Expr.Call (Expr.Name "_law_cell_at" _) _ _ _) _); (refine' pd_call c_l_cell_at hr (by decide) (by rfl) ?_ ⟨_, _, rfl, ?_, rfl⟩) <;> walk_at "go")
  | ((with_reducible show PE _ (Expr.Call (Expr.Name "_law_is_fraction" _) _ _ _) _); (refine' pd_call c_l_is_fraction hr (by decide) (by rfl) ?_ ⟨_, _, rfl, ?_, ?_, rfl⟩) <;> walk_at "go")
  | ((with_reducible show PE _ (Expr.Call (Expr.Name "_law_number" _) _ _ _) _); (refine' pd_call c_l_number hr (by decide) (by rfl) ?_ ⟨_, rfl, rfl⟩) <;> walk_at "go")
  | ((with_reducible show PE _ (Expr.Call (Expr.Name "_law_refused" _) _ _ _) _); (refine' pd_call c_l_refused hr (by decide) (by rfl) ?_ ⟨_, rfl, rfl⟩) <;> walk_at "go"))
variable {P : Program} {w : World} {K : PySem.W.Frag} {mg : Str → Option Value} {base : Heap} {cs : Cs}
theorem ok_law {f : Addr} {fd : FuncData} (F : Fun K "law" "law" s_law f fd) (T : Tx K mg cs) (c_fraction : Cal P w K mg base "fraction" 2 P_fraction ((R_fraction cs))) (c_l_cell_at : Cal P w K mg base "_law_cell_at" 1 P_l_cell_at (R_cell)) (c_l_is_fraction : Cal P w K mg base "_law_is_fraction" 2 P_l_is_fraction (R_isfrac)) (c_l_number : Cal P w K mg base "_law_number" 1 P_l_number ((R_int1 (numOf 60)))) (c_l_refused : Cal P w K mg base "_law_refused" 3 P_l_refused (R_yes1)) : FnOk P w K mg base (L2.CX P w) 4 f fd P_law (spLaw K) := by
  refine law_ok F sc_law rfl (by decide) (fun cdv A outer s H E ns hr hl => ?_)
  have nd := sc_law.nd
  have k3 : ∀ T0 B0 x, Bd 500 T0 → Bd 500 B0 → PSs (cxD P w K mg base N_law "law" s_law f cdv A outer s H E) ((defBody s_law).drop 3) (tS K E [some (.sq (ns.map D.int)), some (.int T0), some (.int B0), x, none] [] (.rt (.bl true))) := by
    intro T0 B0 x b1 b2
    have k4 : ∀ T1, Bd 500 T1 → PSs (cxD P w K mg base N_law "law" s_law f cdv A outer s H E) ((defBody s_law).drop 4) (tS K E [some (.sq (ns.map D.int)), some (.int T1), some (.int B0), x, none] [] (.rt (.bl true))) := by
      intro T1 b3
      refine pss_hd rfl ?_
      walk_at "if"
      · exact fun h => .st (by walk_at "run") True.intro
      · refine fun h => .go pss_nilD ?_
        have hB : B0 ≠ 0 := fun z => h (.inr z)
        have hp := frB_pos (t := T1) hB
        walk_at "run"
        all_goals first | (exact fr_gcd hB) | omega | skip
        rw [fr_cross hB]
        simp
    refine pss_hd rfl ?_
    walk_at "if"
    · exact fun h => .go (by walk_at "run"; exact pss_nilD) (k4 _ (Bd.lit rfl))
    · exact fun h => .go pss_nilD (k4 _ b1)
  have bn : ∀ c, Bd 200 (numOf 60 c) := numOf_bd rfl (by decide)
  refine pss_hd rfl ?_
  walk_at "run"
  walk_at "if"
  · intro h
    refine .go (δ' := [some (.sq (ns.map D.int)), some (.int (numOf 60 (cell ns 0) * (1 + cell ns 2 / 3 % 10 ^ 60))), some (.int (numOf 60 (cell ns 1) * (1 + cell ns 2 / 3 % 10 ^ 60))), some (.int (1 + cell ns 2 / 3 % 10 ^ 60)), none]) (μ' := []) ?_ (k3 _ _ _ ?_ ?_)
    · walk_at "run"
      exact pss_nilD
    all_goals walk_at "bdg"
  · exact fun h => .go pss_nilD (k3 _ _ _ ((bn _).mono (by decide)) ((bn _).mono (by decide)))
end
end K01
namespace K01
open PySem L2 Bl
theorem all_mk {l : PySem.W.OpenLaw} {w : World} {K : PySem.W.Frag} {h : Heap} {mg : Str → Option Value} {fa : Addr} (X : K.In h) (G : h.Ns mainGlobals mg) (hfa : mg "law" = some (.ref fa))
    {c_BeamError c_NoNumber c_NoLoad c_NoBeam c_OffBeam : Addr}
    {f0 : Addr} {od0 an0 : Option Addr} {sl0 : Array (Option Value)} {oc0 kV0 dc0 pm0 cd0 ct0 : Value}
    {f1 : Addr} {od1 an1 : Option Addr} {sl1 : Array (Option Value)} {oc1 kV1 dc1 pm1 cd1 ct1 : Value}
    {f2 : Addr} {od2 an2 : Option Addr} {sl2 : Array (Option Value)} {oc2 kV2 dc2 pm2 cd2 ct2 : Value}
    {f3 : Addr} {od3 an3 : Option Addr} {sl3 : Array (Option Value)} {oc3 kV3 dc3 pm3 cd3 ct3 : Value}
    {f4 : Addr} {od4 an4 : Option Addr} {sl4 : Array (Option Value)} {oc4 kV4 dc4 pm4 cd4 ct4 : Value}
    {f5 : Addr} {od5 an5 : Option Addr} {sl5 : Array (Option Value)} {oc5 kV5 dc5 pm5 cd5 ct5 : Value}
    {f6 : Addr} {od6 an6 : Option Addr} {sl6 : Array (Option Value)} {oc6 kV6 dc6 pm6 cd6 ct6 : Value}
    {f7 : Addr} {od7 an7 : Option Addr} {sl7 : Array (Option Value)} {oc7 kV7 dc7 pm7 cd7 ct7 : Value}
    {f8 : Addr} {od8 an8 : Option Addr} {sl8 : Array (Option Value)} {oc8 kV8 dc8 pm8 cd8 ct8 : Value}
    (a_BeamError : PySem.W.nsIn K mainGlobals "BeamError" = some (some (.ref c_BeamError)))
    (a_NoNumber : PySem.W.nsIn K mainGlobals "NoNumber" = some (some (.ref c_NoNumber)))
    (a_NoLoad : PySem.W.nsIn K mainGlobals "NoLoad" = some (some (.ref c_NoLoad)))
    (a_NoBeam : PySem.W.nsIn K mainGlobals "NoBeam" = some (some (.ref c_NoBeam)))
    (a_OffBeam : PySem.W.nsIn K mainGlobals "OffBeam" = some (some (.ref c_OffBeam)))
    (a0 : PySem.W.nsIn K mainGlobals "divisor" = some (some (.ref f0)))
    (l0 : K.lookup f0 = some ⟨oc0, od0, .func (PySem.W.fnOf "divisor" "divisor" (defArgs s_divisor) (defBody s_divisor) (defScope s_divisor) .none kV0 dc0 pm0 an0 cd0 ct0), sl0⟩)
    (c0 : PySem.W.codeIn K cd0 "divisor" = true)
    (k0 : PySem.W.keepIn K (.ref f0) = true)
    (a1 : PySem.W.nsIn K mainGlobals "fraction" = some (some (.ref f1)))
    (l1 : K.lookup f1 = some ⟨oc1, od1, .func (PySem.W.fnOf "fraction" "fraction" (defArgs s_fraction) (defBody s_fraction) (defScope s_fraction) .none kV1 dc1 pm1 an1 cd1 ct1), sl1⟩)
    (c1 : PySem.W.codeIn K cd1 "fraction" = true)
    (k1 : PySem.W.keepIn K (.ref f1) = true)
    (a2 : PySem.W.nsIn K mainGlobals "_law_cell_at" = some (some (.ref f2)))
    (l2 : K.lookup f2 = some ⟨oc2, od2, .func (PySem.W.fnOf "_law_cell_at" "_law_cell_at" (defArgs s_l_cell_at) (defBody s_l_cell_at) (defScope s_l_cell_at) .none kV2 dc2 pm2 an2 cd2 ct2), sl2⟩)
    (c2 : PySem.W.codeIn K cd2 "_law_cell_at" = true)
    (k2 : PySem.W.keepIn K (.ref f2) = true)
    (a3 : PySem.W.nsIn K mainGlobals "_law_whole" = some (some (.ref f3)))
    (l3 : K.lookup f3 = some ⟨oc3, od3, .func (PySem.W.fnOf "_law_whole" "_law_whole" (defArgs s_l_whole) (defBody s_l_whole) (defScope s_l_whole) .none kV3 dc3 pm3 an3 cd3 ct3), sl3⟩)
    (c3 : PySem.W.codeIn K cd3 "_law_whole" = true)
    (k3 : PySem.W.keepIn K (.ref f3) = true)
    (a4 : PySem.W.nsIn K mainGlobals "_law_divisor" = some (some (.ref f4)))
    (l4 : K.lookup f4 = some ⟨oc4, od4, .func (PySem.W.fnOf "_law_divisor" "_law_divisor" (defArgs s_l_divisor) (defBody s_l_divisor) (defScope s_l_divisor) .none kV4 dc4 pm4 an4 cd4 ct4), sl4⟩)
    (c4 : PySem.W.codeIn K cd4 "_law_divisor" = true)
    (k4 : PySem.W.keepIn K (.ref f4) = true)
    (a5 : PySem.W.nsIn K mainGlobals "_law_is_fraction" = some (some (.ref f5)))
    (l5 : K.lookup f5 = some ⟨oc5, od5, .func (PySem.W.fnOf "_law_is_fraction" "_law_is_fraction" (defArgs s_l_is_fraction) (defBody s_l_is_fraction) (defScope s_l_is_fraction) .none kV5 dc5 pm5 an5 cd5 ct5), sl5⟩)
    (c5 : PySem.W.codeIn K cd5 "_law_is_fraction" = true)
    (k5 : PySem.W.keepIn K (.ref f5) = true)
    (a6 : PySem.W.nsIn K mainGlobals "_law_number" = some (some (.ref f6)))
    (l6 : K.lookup f6 = some ⟨oc6, od6, .func (PySem.W.fnOf "_law_number" "_law_number" (defArgs s_l_number) (defBody s_l_number) (defScope s_l_number) .none kV6 dc6 pm6 an6 cd6 ct6), sl6⟩)
    (c6 : PySem.W.codeIn K cd6 "_law_number" = true)
    (k6 : PySem.W.keepIn K (.ref f6) = true)
    (a7 : PySem.W.nsIn K mainGlobals "_law_refused" = some (some (.ref f7)))
    (l7 : K.lookup f7 = some ⟨oc7, od7, .func (PySem.W.fnOf "_law_refused" "_law_refused" (defArgs s_l_refused) (defBody s_l_refused) (defScope s_l_refused) .none kV7 dc7 pm7 an7 cd7 ct7), sl7⟩)
    (c7 : PySem.W.codeIn K cd7 "_law_refused" = true)
    (k7 : PySem.W.keepIn K (.ref f7) = true)
    (a8 : PySem.W.nsIn K mainGlobals "law" = some (some (.ref f8)))
    (l8 : K.lookup f8 = some ⟨oc8, od8, .func (PySem.W.fnOf "law" "law" (defArgs s_law) (defBody s_law) (defScope s_law) .none kV8 dc8 pm8 an8 cd8 ct8), sl8⟩)
    (c8 : PySem.W.codeIn K cd8 "law" = true)
    (k8 : PySem.W.keepIn K (.ref f8) = true)
    (hn_abs : PySem.W.nsIn K mainGlobals "abs" = some none)
    (hn_len : PySem.W.nsIn K mainGlobals "len" = some none)
    (hn_isinstance : PySem.W.nsIn K mainGlobals "isinstance" = some none)
    (hn_tuple : PySem.W.nsIn K mainGlobals "tuple" = some none)
    (hn_int : PySem.W.nsIn K mainGlobals "int" = some none)
    (hn_bool : PySem.W.nsIn K mainGlobals "bool" = some none)
    (hn_ValueError : PySem.W.nsIn K mainGlobals "ValueError" = some none)
    (hx_NoNumber : PySem.W.excIn K c_NoNumber [.type "ValueError", .type "Exception", .type "BaseException", .type "object"] "ValueError.__new__" = true)
    (hk_NoNumber : PySem.W.keepIn K (.ref c_NoNumber) = true)
    (hb_NoNumber : PySem.W.subIn K (.ref c_NoNumber) (.type "BaseException") = some true)
    (ht_NoNumber : PySem.W.typeIn K (.ref c_NoNumber) = some (.type "type"))
    (eg_e_NoNumber : PySem.W.findIn K (.ref c_NoNumber) "__getattribute__" = some (some (.builtin "BaseException.__getattribute__")))
    (ek_e_NoNumber : PySem.W.findIn K (.ref c_NoNumber) "__getattr__" = some none)
    (es_e_NoNumber : PySem.W.subIn K (.ref c_NoNumber) (.type "BaseException") = some true)
    (ed_e_NoNumber : PySem.W.hasDictIn K c_NoNumber = true)
    (ea_e_NoNumber : PySem.W.findIn K (.ref c_NoNumber) "__class__" = some (some (.builtin "object.__class__")))
    (en_e_NoNumber : PySem.W.specialIn K (.builtin "object.__class__") "__get__" = some (some (.builtin "getset_descriptor.__get__")))
    (et_e_NoNumber : PySem.W.takesIn K (.builtin "object.__class__") = some true)
    (em_e_NoNumber : PySem.W.mroIn K c_NoNumber (.type "object") = some true)
    (eb_ex_NoNumber : PySem.W.subIn K (.ref c_BeamError) (.type "BaseException") = some true)
    (ei_ex_NoNumber : PySem.W.isClsIn K c_BeamError = true)
    (et_ex_NoNumber : PySem.W.typeIn K (.ref c_BeamError) = some (.type "type"))
    (es_ex_NoNumber : PySem.W.subIn K (.ref c_NoNumber) (.ref c_BeamError) = some true)
    (hki_NoNumber_V : PySem.W.kitOne K (.ref c_NoNumber) (.type "ValueError") = some true)
    (hki_NoNumber_NoNumber : PySem.W.kitOne K (.ref c_NoNumber) (.ref c_NoNumber) = some true)
    (hki_NoNumber_NoLoad : PySem.W.kitOne K (.ref c_NoNumber) (.ref c_NoLoad) = some false)
    (hki_NoNumber_NoBeam : PySem.W.kitOne K (.ref c_NoNumber) (.ref c_NoBeam) = some false)
    (hki_NoNumber_OffBeam : PySem.W.kitOne K (.ref c_NoNumber) (.ref c_OffBeam) = some false)
    : ∃ fd : FuncData, (∀ (s : Shared) (v : Value), BindsTo s fd ⟨[v], []⟩ [("_law_script", v)]) ∧ ∀ base : Heap, K.In base → base.Ns mainGlobals mg → FnOk l.prog w K mg base (L2.CX l.prog w) 4 fa fd P_law (spLaw K) := by
  have e := hfa.symm.trans (PySem.W.mg_of X G a8)
  cases e
  have T : Tx K mg ⟨c_BeamError, c_NoNumber, c_NoLoad, c_NoBeam, c_OffBeam, 0, 0, 0, 0⟩ := ⟨PySem.W.mg_none_of X G hn_abs, PySem.W.mg_none_of X G hn_len, PySem.W.mg_none_of X G hn_isinstance, PySem.W.mg_none_of X G hn_tuple, PySem.W.mg_none_of X G hn_int, PySem.W.mg_none_of X G hn_bool, PySem.W.mg_none_of X G hn_ValueError, PySem.W.mg_of X G a_BeamError, PySem.W.mg_of X G a_NoNumber, PySem.W.mg_of X G a_NoLoad, PySem.W.mg_of X G a_NoBeam, PySem.W.mg_of X G a_OffBeam, hx_NoNumber, hk_NoNumber, hb_NoNumber, ht_NoNumber, ⟨eg_e_NoNumber, ek_e_NoNumber, es_e_NoNumber, ed_e_NoNumber, ea_e_NoNumber, en_e_NoNumber, et_e_NoNumber, em_e_NoNumber⟩, exm_mk eb_ex_NoNumber ei_ex_NoNumber et_ex_NoNumber es_ex_NoNumber, hki_NoNumber_V, hki_NoNumber_NoNumber, hki_NoNumber_NoLoad, hki_NoNumber_NoBeam, hki_NoNumber_OffBeam⟩
  have F0 := fun_mk (st := s_divisor) l0 c0 k0
  have F1 := fun_mk (st := s_fraction) l1 c1 k1
  have F2 := fun_mk (st := s_l_cell_at) l2 c2 k2
  have F3 := fun_mk (st := s_l_whole) l3 c3 k3
  have F4 := fun_mk (st := s_l_divisor) l4 c4 k4
  have F5 := fun_mk (st := s_l_is_fraction) l5 c5 k5
  have F6 := fun_mk (st := s_l_number) l6 c6 k6
  have F7 := fun_mk (st := s_l_refused) l7 c7 k7
  have F8 := fun_mk (st := s_law) l8 c8 k8
  refine ⟨PySem.W.fnOf "law" "law" (defArgs s_law) (defBody s_law) (defScope s_law) .none kV8 dc8 pm8 an8 cd8 ct8, fun s v => .of_eq rfl, fun base _ _ => ?_⟩
  have c_divisor := cal_divisor (P := l.prog) (w := w) (base := base) (cs := ⟨c_BeamError, c_NoNumber, c_NoLoad, c_NoBeam, c_OffBeam, 0, 0, 0, 0⟩) F0 (PySem.W.mg_of X G a0) T
  have c_fraction := cal_fraction (P := l.prog) (w := w) (base := base) (cs := ⟨c_BeamError, c_NoNumber, c_NoLoad, c_NoBeam, c_OffBeam, 0, 0, 0, 0⟩) F1 (PySem.W.mg_of X G a1) T c_divisor
  have c_l_cell_at := cal_l_cell_at (P := l.prog) (w := w) (base := base) (cs := ⟨c_BeamError, c_NoNumber, c_NoLoad, c_NoBeam, c_OffBeam, 0, 0, 0, 0⟩) F2 (PySem.W.mg_of X G a2) T
  have c_l_whole := cal_l_whole (P := l.prog) (w := w) (base := base) (cs := ⟨c_BeamError, c_NoNumber, c_NoLoad, c_NoBeam, c_OffBeam, 0, 0, 0, 0⟩) F3 (PySem.W.mg_of X G a3) T
  have c_l_divisor := cal_l_divisor (P := l.prog) (w := w) (base := base) (cs := ⟨c_BeamError, c_NoNumber, c_NoLoad, c_NoBeam, c_OffBeam, 0, 0, 0, 0⟩) F4 (PySem.W.mg_of X G a4) T
  have c_l_is_fraction := cal_l_is_fraction (P := l.prog) (w := w) (base := base) (cs := ⟨c_BeamError, c_NoNumber, c_NoLoad, c_NoBeam, c_OffBeam, 0, 0, 0, 0⟩) F5 (PySem.W.mg_of X G a5) T c_l_whole c_l_divisor
  have c_l_number := cal_l_number (P := l.prog) (w := w) (base := base) (cs := ⟨c_BeamError, c_NoNumber, c_NoLoad, c_NoBeam, c_OffBeam, 0, 0, 0, 0⟩) F6 (PySem.W.mg_of X G a6) T
  have c_l_refused := cal_l_refused (P := l.prog) (w := w) (base := base) (cs := ⟨c_BeamError, c_NoNumber, c_NoLoad, c_NoBeam, c_OffBeam, 0, 0, 0, 0⟩) F7 (PySem.W.mg_of X G a7) T c_fraction
  exact ok_law F8 T c_fraction c_l_cell_at c_l_is_fraction c_l_number c_l_refused
theorem walk {l : PySem.W.OpenLaw} {q : Program} {loose : List Str} {XP : (Str → Option Value) → Heap → Prop} {YP : World → Heap → Prop} {d : DefRec} {K : Params → PySem.W.Frag} (hn : l.most = some 63) (hdf : d.params.defaults = [])
    (hY : ∀ (w : World) (h : Heap), YP w h → (K w.params).In h)
    (F : ∀ (w : World) (mg : Str → Option Value) (fa : Addr) (h : Heap), (K w.params).In h → h.Ns mainGlobals mg → mg d.name = some (.ref fa) →
      ∃ fd : FuncData, (∀ (s : Shared) (u : Value), BindsTo s fd ⟨[u], []⟩ [("_law_script", u)]) ∧ ∀ base : Heap, (K w.params).In base → base.Ns mainGlobals mg → FnOk l.prog w (K w.params) mg base (L2.CX l.prog w) 4 fa fd P_law (spLaw (K w.params))) :
    PySem.W.WalkO q loose XP YP l.row.toRowW d [] (fun f vs => PySem.call f vs) :=
  L2.walk_of (n := 63) (k := 4) (x := "_law_script") (CX := fun w => L2.CX l.prog w) (sp := fun w => spLaw (K w.params)) hn (by decide) hdf ⟨rfl, by decide, by decide⟩ hY F (fun _ _ a ns hl _ hS => ⟨a, ns, rfl, hS, hl, fun _ => rfl⟩) fun _ _ _ _ _ z => cx_none z
end K01
open PySem PySem.W PyProof.Rows
set_option maxRecDepth 100000 in
set_option maxHeartbeats 0 in
theorem PySem.Challenge.cw_beamload_k01_a_fraction_holds : PySem.Challenge.rw_beamload_k01_a_fraction.Holds := by
  w_on; o_law; k_head; (case hw => w_witness2)
  k_fill
  refine K01.walk (l := PySem.Challenge.rw_beamload_k01_a_fraction) rfl rfl (fun w h Y => PySem.W.kIn_of Y) ?F
  case F =>
    intro w mg fa h KX G hmg
    refine' K01.all_mk KX G hmg ?a_BeamError ?a_NoNumber ?a_NoLoad ?a_NoBeam ?a_OffBeam ?a0 ?l0 ?c0 ?k0 ?a1 ?l1 ?c1 ?k1 ?a2 ?l2 ?c2 ?k2 ?a3 ?l3 ?c3 ?k3 ?a4 ?l4 ?c4 ?k4 ?a5 ?l5 ?c5 ?k5 ?a6 ?l6 ?c6 ?k6 ?a7 ?l7 ?c7 ?k7 ?a8 ?l8 ?c8 ?k8 ?hn_abs ?hn_len ?hn_isinstance ?hn_tuple ?hn_int ?hn_bool ?hn_ValueError ?hx_NoNumber ?hk_NoNumber ?hb_NoNumber ?ht_NoNumber ?eg_e_NoNumber ?ek_e_NoNumber ?es_e_NoNumber ?ed_e_NoNumber ?ea_e_NoNumber ?en_e_NoNumber ?et_e_NoNumber ?em_e_NoNumber ?eb_ex_NoNumber ?ei_ex_NoNumber ?et_ex_NoNumber ?es_ex_NoNumber ?hki_NoNumber_V ?hki_NoNumber_NoNumber ?hki_NoNumber_NoLoad ?hki_NoNumber_NoBeam ?hki_NoNumber_OffBeam
    (case a_BeamError => k_is)
    (case a_NoNumber => k_is)
    (case a_NoLoad => k_is)
    (case a_NoBeam => k_is)
    (case a_OffBeam => k_is)
    (case a0 => k_is)
    (case l0 => k_is)
    (case c0 => k_is)
    (case k0 => k_is)
    (case a1 => k_is)
    (case l1 => k_is)
    (case c1 => k_is)
    (case k1 => k_is)
    (case a2 => k_is)
    (case l2 => k_is)
    (case c2 => k_is)
    (case k2 => k_is)
    (case a3 => k_is)
    (case l3 => k_is)
    (case c3 => k_is)
    (case k3 => k_is)
    (case a4 => k_is)
    (case l4 => k_is)
    (case c4 => k_is)
    (case k4 => k_is)
    (case a5 => k_is)
    (case l5 => k_is)
    (case c5 => k_is)
    (case k5 => k_is)
    (case a6 => k_is)
    (case l6 => k_is)
    (case c6 => k_is)
    (case k6 => k_is)
    (case a7 => k_is)
    (case l7 => k_is)
    (case c7 => k_is)
    (case k7 => k_is)
    (case a8 => k_is)
    (case l8 => k_is)
    (case c8 => k_is)
    (case k8 => k_is)
    (case hn_abs => k_is)
    (case hn_len => k_is)
    (case hn_isinstance => k_is)
    (case hn_tuple => k_is)
    (case hn_int => k_is)
    (case hn_bool => k_is)
    (case hn_ValueError => k_is)
    (case hx_NoNumber => k_exc)
    (case hk_NoNumber => k_is)
    (case hb_NoNumber => k_is)
    (case ht_NoNumber => k_is)
    (case eg_e_NoNumber => k_is)
    (case ek_e_NoNumber => k_is)
    (case es_e_NoNumber => k_is)
    (case ed_e_NoNumber => k_is)
    (case ea_e_NoNumber => k_is)
    (case en_e_NoNumber => k_is)
    (case et_e_NoNumber => k_is)
    (case em_e_NoNumber => k_is)
    (case eb_ex_NoNumber => k_is)
    (case ei_ex_NoNumber => k_is)
    (case et_ex_NoNumber => k_is)
    (case es_ex_NoNumber => k_is)
    (case hki_NoNumber_V => kit_is)
    (case hki_NoNumber_NoNumber => kit_is)
    (case hki_NoNumber_NoLoad => kit_is)
    (case hki_NoNumber_NoBeam => kit_is)
    (case hki_NoNumber_OffBeam => kit_is)
