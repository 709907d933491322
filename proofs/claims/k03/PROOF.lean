import PyProof.Rows.All
import Wide.All
import OpenK.AllK
import Wide.FinOn
import KE.KStateDown
import HandS.ForMost
import HandS.ForExc
import HandS.Evl
import HandS.TupAny
import HandS.HeadHook4
import KE.DataEq
import HandS.IsInst
import HandS.SortInts
import HandS.SetFor
import HandS.Zip
import HandS.Defaults
import KE.GoesEnum
import KE.GoesMore
import HandS.TupSets
import HandS.Strs
import KE.DataFind
import HandS.Head2
import HandS.HeadEnd
import PySem.Challenge.RW_dutyround_k03_whole_kept_rules
import HandS.HeadWalk
set_option Elab.async false
set_option linter.all false
set_option maxRecDepth 100000
set_option maxHeartbeats 2000000
/-! plain data, how values stand for them, and the judgements over data -/
namespace J
open PySem PySem.Spec PyProof.Rows L2 Evl

/-- plain data; cell a: the object at a that may still change -/
inductive D where
  | non | bl (b : Bool) | int (i : Int) | str (x : Str) | tup (xs : List D) | lst (xs : List D) | scr (ns : List Int) | cell (a : Addr)

/-- a tuple without a dict of its own -/
def PlT (K : PySem.W.Frag) (F : Hp) (a : Addr) (xs : List V) : Prop :=
  (∃ o, F a = some (.frz o (.tup xs)) ∧ o.dict = none) ∨ ∃ (o : Obj) (its : Array Value) (n : Nat), K.lookup a = some o ∧ o.cls = .type "tuple" ∧ o.dict = none ∧ o.data = .seq its n ∧ its.size ≤ sizeLine ∧ Vals xs its.toList
theorem PlT.sq {K : PySem.W.Frag} {F : Hp} {a : Addr} {xs : List V} (h : PlT K F a xs) : SqT K F a xs := by
  rcases h with ⟨o, h, _⟩ | ⟨o, its, n, h1, h2, _, h3⟩
  · exact .inl (.inr ⟨o, h⟩)
  · exact .inr ⟨o, its, n, h1, h2, h3⟩
theorem ex_p {K : PySem.W.Frag} {F F' : Hp} {a : Addr} {xs : List V} (e : Ex F F') (h : PlT K F a xs) : PlT K F' a xs := by
  rcases h with ⟨o, h, q⟩ | h
  · exact .inl ⟨o, e _ _ h, q⟩
  · exact .inr h
mutual
inductive Rep (K : PySem.W.Frag) (F : Hp) : V → D → Prop
  | non : Rep K F .non .non
  | bl (b : Bool) : Rep K F (.bl b) (.bl b)
  | int (i : Int) : Rep K F (.int i) (.int i)
  | str (x : Str) : Rep K F (.str x) (.str x)
  | tup {a : Addr} {xs : List V} {ds : List D} : PlT K F a xs → RepL K F xs ds → Rep K F (.ref a) (.tup ds)
  | lst {a : Addr} {xs : List V} {ds : List D} : F a = some (.lst xs) → RepL K F xs ds → Rep K F (.ref a) (.lst ds)
  | scr {a : Addr} {ns : List Int} : SqL K F a (ns.map V.int) → Rep K F (.ref a) (.scr ns)
  | cell (a : Addr) : Rep K F (.ref a) (.cell a)
inductive RepL (K : PySem.W.Frag) (F : Hp) : List V → List D → Prop
  | nil : RepL K F [] []
  | cons {v : V} {vs : List V} {d : D} {ds : List D} : Rep K F v d → RepL K F vs ds → RepL K F (v :: vs) (d :: ds)
end
section
variable {K : PySem.W.Frag} {F F' H H' : Hp}
mutual
theorem Rep.mono (e : Ex F F') : ∀ {v : V} {d : D}, Rep K F v d → Rep K F' v d
  | _, _, .non => .non
  | _, _, .bl b => .bl b
  | _, _, .int i => .int i
  | _, _, .str x => .str x
  | _, _, .tup h r => .tup (ex_p e h) (RepL.mono e r)
  | _, _, .lst h r => .lst (e _ _ h) (RepL.mono e r)
  | _, _, .scr h => .scr (ex_l e h)
  | _, _, .cell a => .cell a
theorem RepL.mono (e : Ex F F') : ∀ {vs : List V} {ds : List D}, RepL K F vs ds → RepL K F' vs ds
  | _, _, .nil => .nil
  | _, _, .cons h r => .cons (Rep.mono e h) (RepL.mono e r)
end
theorem RepL.length : ∀ {vs : List V} {ds : List D}, RepL K F vs ds → vs.length = ds.length
  | _, _, .nil => rfl
  | _, _, .cons _ r => congrArg (· + 1) (RepL.length r)
theorem RepL.get : ∀ {vs : List V} {ds : List D} {i : Nat} {d : D}, RepL K F vs ds → ds[i]? = some d → ∃ v, vs[i]? = some v ∧ Rep K F v d
  | _, _, _, _, .nil, e => by simp at e
  | _, _, 0, _, .cons h _, e => by
    simp at e
    subst e
    exact ⟨_, rfl, h⟩
  | _, _, i + 1, d, .cons _ r, e => by
    obtain ⟨v, h1, h2⟩ := RepL.get (i := i) (d := d) r (by simpa using e)
    exact ⟨v, by simpa using h1, h2⟩
theorem RepL.getV : ∀ {vs : List V} {ds : List D} {i : Nat} {v : V}, RepL K F vs ds → vs[i]? = some v → ∃ d, ds[i]? = some d ∧ Rep K F v d
  | _, _, _, _, .nil, e => by simp at e
  | _, _, 0, _, .cons h _, e => by
    simp at e
    subst e
    exact ⟨_, rfl, h⟩
  | _, _, i + 1, v, .cons _ r, e => by
    obtain ⟨d, h1, h2⟩ := RepL.getV (i := i) (v := v) r (by simpa using e)
    exact ⟨d, by simpa using h1, h2⟩
theorem RepL.append : ∀ {vs ws : List V} {ds es : List D}, RepL K F vs ds → RepL K F ws es → RepL K F (vs ++ ws) (ds ++ es)
  | _, _, _, _, .nil, s => s
  | _, _, _, _, .cons h r, s => .cons h (RepL.append r s)
theorem RepL.take : ∀ {vs : List V} {ds : List D} (n : Nat), RepL K F vs ds → RepL K F (vs.take n) (ds.take n)
  | _, _, 0, _ => .nil
  | _, _, _ + 1, .nil => .nil
  | _, _, n + 1, .cons h r => .cons h (RepL.take n r)
theorem RepL.drop : ∀ {vs : List V} {ds : List D} (n : Nat), RepL K F vs ds → RepL K F (vs.drop n) (ds.drop n)
  | _, _, 0, r => r
  | _, _, _ + 1, .nil => .nil
  | _, _, n + 1, .cons _ r => RepL.drop n r
theorem RepL.ints : ∀ {vs : List V} {ns : List Int}, RepL K F vs (ns.map D.int) → vs = ns.map V.int
  | _, [], .nil => rfl
  | _, n :: ns, .cons h r => by
    cases h
    rw [RepL.ints r]
    rfl
theorem RepL.bls : ∀ {vs : List V} {ns : List Bool}, RepL K F vs (ns.map D.bl) → vs = ns.map V.bl
  | _, [], .nil => rfl
  | _, n :: ns, .cons h r => by
    cases h
    rw [RepL.bls r]
    rfl
theorem RepL.of_ints : ∀ (ns : List Int), RepL K F (ns.map V.int) (ns.map D.int)
  | [] => .nil
  | n :: ns => .cons (.int n) (RepL.of_ints ns)
theorem Rep.int_inv {v : V} {i : Int} (h : Rep K F v (.int i)) : v = .int i := by cases h; rfl
theorem Rep.bl_inv {v : V} {b : Bool} (h : Rep K F v (.bl b)) : v = .bl b := by cases h; rfl
theorem Rep.str_inv {v : V} {x : Str} (h : Rep K F v (.str x)) : v = .str x := by cases h; rfl
theorem Rep.non_inv {v : V} (h : Rep K F v .non) : v = .non := by cases h; rfl
theorem Rep.cell_inv {v : V} {a : Addr} (h : Rep K F v (.cell a)) : v = .ref a := by cases h; rfl
theorem Rep.tup_inv {v : V} {ds : List D} (h : Rep K F v (.tup ds)) : ∃ a xs, v = .ref a ∧ PlT K F a xs ∧ RepL K F xs ds := by
  cases h with
  | tup h r => exact ⟨_, _, rfl, h, r⟩
theorem Rep.scr_inv {v : V} {ns : List Int} (h : Rep K F v (.scr ns)) : ∃ a, v = .ref a ∧ SqL K F a (ns.map V.int) := by
  cases h with
  | scr h => exact ⟨_, rfl, h⟩
theorem Rep.lst_inv {v : V} {ds : List D} (h : Rep K F v (.lst ds)) : ∃ a xs, v = .ref a ∧ F a = some (.lst xs) ∧ RepL K F xs ds := by
  cases h with
  | lst h r => exact ⟨_, _, rfl, h, r⟩
end

/-! ### the memory: what may still change -/
abbrev Mem := List (Addr × D)
/-- what stands at a -/
def CellOk (K : PySem.W.Frag) (F H : Hp) (a : Addr) : D → Prop
  | .lst ds => ∃ vs, H a = some (.lst vs) ∧ RepL K F vs ds
  | _ => False
structure MemOk (K : PySem.W.Frag) (F H : Hp) (M : Mem) : Prop where
  ex : Ex F H
  cell : ∀ p ∈ M, F p.1 = none ∧ CellOk K F H p.1 p.2
  nd : (M.map (·.1)).Nodup
theorem CellOk.has {K : PySem.W.Frag} {F H : Hp} {a : Addr} {d : D} (h : CellOk K F H a d) : ∃ o, H a = some o := by
  cases d with
  | lst ds =>
    obtain ⟨vs, e, _⟩ := h
    exact ⟨_, e⟩
  | _ => exact h.elim
theorem CellOk.mono {K : PySem.W.Frag} {F F' H H' : Hp} {a : Addr} {d : D} (h : CellOk K F H a d) (e : Ex F F') (k : ∀ o, H a = some o → H' a = some o) : CellOk K F' H' a d := by
  cases d with
  | lst ds =>
    obtain ⟨vs, q, r⟩ := h
    exact ⟨vs, k _ q, r.mono e⟩
  | _ => exact h.elim
/-- the abstract slots -/
abbrev Tau := List (Option D)
structure Sim (K : PySem.W.Frag) (T : Tau) (M : Mem) (σ : L2.St) (F H : Hp) : Prop where
  mem : MemOk K F H M
  slot : ∀ (i : Nat) (d : D), T[i]? = some (some d) → ∃ v, σ[i]? = some (some v) ∧ Rep K F v d
section
variable {K : PySem.W.Frag} {T : Tau} {M : Mem} {σ : L2.St} {F F' H H' : Hp}
/-- what was seen stays, what is new is new -/
structure Gr (F H F' H' : Hp) : Prop where
  ff : Ex F F'
  hh : Ex H H'
  fh : Ex F' H'
  old : ∀ a o, H a = some o → F' a = F a
theorem Gr.refl (e : Ex F H) : Gr F H F H := ⟨Ex.refl _, Ex.refl _, e, fun _ _ _ => rfl⟩
theorem Gr.trans {F'' H'' : Hp} (a : Gr F H F' H') (b : Gr F' H' F'' H'') : Gr F H F'' H'' :=
  ⟨a.ff.trans b.ff, a.hh.trans b.hh, b.fh, fun x o h => (b.old x o (a.hh x o h)).trans (a.old x o h)⟩
theorem MemOk.gr (m : MemOk K F H M) (g : Gr F H F' H') : MemOk K F' H' M :=
  ⟨g.fh, fun p hp => by
    obtain ⟨h1, h2⟩ := m.cell p hp
    obtain ⟨o, ho⟩ := h2.has
    exact ⟨(g.old _ _ ho).trans h1, h2.mono g.ff fun o q => g.hh _ o q⟩, m.nd⟩
theorem Sim.gr (s : Sim K T M σ F H) (g : Gr F H F' H') : Sim K T M σ F' H' :=
  ⟨s.mem.gr g, fun i d h => by
    obtain ⟨v, e, r⟩ := s.slot i d h
    exact ⟨v, e, r.mono g.ff⟩⟩
/-- other memory, same slots -/
theorem Sim.to {M' : Mem} (s : Sim K T M σ F H) (e : Ex F F') (m : MemOk K F' H' M') : Sim K T M' σ F' H' :=
  ⟨m, fun i d h => by
    obtain ⟨v, q, r⟩ := s.slot i d h
    exact ⟨v, q, r.mono e⟩⟩
/-- a new thing that will not change -/
theorem gr_new {p : Addr} {o : HO} (e : Ex F H) (hp : H p = none) : Gr F H (upd F p o) (upd H p o) := by
  have fp : F p = none := fresh_back e hp
  refine ⟨Ex.new fp, Ex.new hp, fun a u h => ?_, fun a u h => upd_ne (ne_of_none h hp)⟩
  by_cases q : a = p
  · subst q
    rw [upd_same] at h ⊢
    exact h
  · rw [upd_ne q] at h ⊢
    exact e a u h
end

/-- what a thing reads as now -/
def look (M : Mem) : D → D
  | .cell a => (M.lookup a).getD (.cell a)
  | d => d
/-- v reads as d now -/
def RepH (K : PySem.W.Frag) (F H : Hp) (v : V) (d : D) : Prop := Rep K F v d ∨ ∃ a, v = .ref a ∧ CellOk K F H a d
theorem lookup_mem {M : Mem} {a : Addr} {d : D} (h : M.lookup a = some d) : (a, d) ∈ M := by
  induction M with
  | nil => cases h
  | cons p M ih =>
    rw [List.lookup_cons] at h
    split at h
    · rename_i q
      have e : p.2 = d := Option.some.inj h
      have e2 : a = p.1 := beq_iff_eq.mp q
      rw [← e, e2]
      exact List.mem_cons_self
    · exact List.mem_cons_of_mem _ (ih h)
section
variable {K : PySem.W.Frag} {F F' H H' : Hp} {M : Mem} {v : V} {d : D}
theorem MemOk.look {Mx : Mem} (m : MemOk K F H (Mx ++ M)) (r : Rep K F v d) : RepH K F H v (look M d) := by
  cases d with
  | cell a =>
    cases r
    show RepH K F H (.ref a) ((M.lookup a).getD (.cell a))
    cases e : M.lookup a with
    | none => exact .inl (.cell a)
    | some c => exact .inr ⟨a, rfl, (m.cell _ (List.mem_append_right _ (lookup_mem e))).2⟩
  | _ => exact .inl r
theorem RepH.of (r : Rep K F v d) : RepH K F H v d := .inl r
theorem RepH.int {i : Int} (h : RepH K F H v (.int i)) : v = .int i := by
  rcases h with h | ⟨a, _, h⟩
  · exact h.int_inv
  · exact h.elim
theorem RepH.str {i : Str} (h : RepH K F H v (.str i)) : v = .str i := by
  rcases h with h | ⟨a, _, h⟩
  · exact h.str_inv
  · exact h.elim
theorem RepH.bl {i : Bool} (h : RepH K F H v (.bl i)) : v = .bl i := by
  rcases h with h | ⟨a, _, h⟩
  · exact h.bl_inv
  · exact h.elim
theorem RepH.non (h : RepH K F H v .non) : v = .non := by
  rcases h with h | ⟨a, _, h⟩
  · exact h.non_inv
  · exact h.elim
theorem RepH.tup {ds : List D} (h : RepH K F H v (.tup ds)) : ∃ a xs, v = .ref a ∧ PlT K F a xs ∧ RepL K F xs ds := by
  rcases h with h | ⟨a, _, h⟩
  · exact h.tup_inv
  · exact h.elim
theorem RepH.scr {ns : List Int} (h : RepH K F H v (.scr ns)) : ∃ a, v = .ref a ∧ SqL K F a (ns.map V.int) := by
  rcases h with h | ⟨a, _, h⟩
  · exact h.scr_inv
  · exact h.elim
theorem RepH.lst {ds : List D} (e : Ex F H) (h : RepH K F H v (.lst ds)) : ∃ a xs, v = .ref a ∧ H a = some (.lst xs) ∧ RepL K F xs ds := by
  rcases h with h | ⟨a, q, xs, h1, h2⟩
  · obtain ⟨a, xs, q, h1, h2⟩ := h.lst_inv
    exact ⟨a, xs, q, e _ _ h1, h2⟩
  · exact ⟨a, xs, q, h1, h2⟩
end
/-! ### judgements -/
theorem _root_.L2.PE.imp {X : Cx} {e : Expr} {t t' : TE} (h : PE X e t) (k : ∀ σ H Q, t' σ H Q → t σ H Q) : PE X e t' := ⟨fun pins s σ H Q I q => h.run pins s σ H Q I (k σ H Q q)⟩
theorem _root_.L2.PT.imp {X : Cx} {e : Expr} {t t' : TT} (h : PT X e t) (k : ∀ σ H Q, t' σ H Q → t σ H Q) : PT X e t' := ⟨fun pins s σ H Q I q => h.run pins s σ H Q I (k σ H Q q)⟩
theorem _root_.L2.PA.imp {X : Cx} {es : List Expr} {t t' : TA} (h : PA X es t) (k : ∀ σ H Q, t' σ H Q → t σ H Q) : PA X es t' := ⟨fun pos pins s σ H Q I q => h.run pos pins s σ H Q I (k σ H Q q)⟩
/-- what raising shows: the class's name, the field at -/
abbrev Exc := Str × Option Int
inductive Res where
  | ok (d : D) | exc (x : Exc)
/-- how an error lies there -/
def ExcIs (K : PySem.W.Frag) (H : Hp) (cls : Value) (dd : Option Addr) (x : Exc) : Prop :=
  cls = .ref (He.ga K x.1) ∧ match x.2 with
  | none => dd = none
  | some i => ∃ p, dd = some p ∧ H p = some (.xd [(("at" : Str), .int i)])
/-- the reading of an expression over data: from (T, M) to d and M' -/
def tJ (K : PySem.W.Frag) (T : Tau) (M : Mem) (d : D) (M' : Mem) : TE := fun σ H Q => ∃ F Mx, Sim K T (Mx ++ M) σ F H ∧ ∀ v F' H', Ex F F' → Sim K T (Mx ++ M') σ F' H' → Rep K F' v d → Q v H'
def tJT (K : PySem.W.Frag) (T : Tau) (M : Mem) (b : Bool) (M' : Mem) : TT := fun σ H Q => ∃ F Mx, Sim K T (Mx ++ M) σ F H ∧ ∀ F' H', Ex F F' → Sim K T (Mx ++ M') σ F' H' → Q b H'
def tJA (K : PySem.W.Frag) (T : Tau) (M : Mem) (ds : List D) (M' : Mem) : TA := fun σ H Q => ∃ F Mx, Sim K T (Mx ++ M) σ F H ∧ ∀ vs F' H', Ex F F' → Sim K T (Mx ++ M') σ F' H' → RepL K F' vs ds → Q vs H'
/-- .. that may raise, W: what is wanted then -/
def tJR (K : PySem.W.Frag) (W : WX) (T : Tau) (M : Mem) (r : Res) (M' : Mem) : TE := fun σ H Q => ∃ F Mx, Sim K T (Mx ++ M) σ F H ∧ match r with
  | .ok d => ∀ v F' H', Ex F F' → Sim K T (Mx ++ M') σ F' H' → Rep K F' v d → Q v H'
  | .exc x => ∀ cls dd F' H', Ex F F' → Sim K T (Mx ++ M') σ F' H' → ExcIs K H' cls dd x → W cls dd σ H'
def JE (X : Cx) (T : Tau) (M : Mem) (e : Expr) (d : D) (M' : Mem) : Prop := PE X e (tJ X.K T M d M')
def JT (X : Cx) (T : Tau) (M : Mem) (e : Expr) (b : Bool) (M' : Mem) : Prop := PT X e (tJT X.K T M b M')
def JW (X : Cx) (T : Tau) (M : Mem) (e : Expr) (b : Bool) (M' : Mem) : Prop := PW X e (tJT X.K T M b M')
def JA (X : Cx) (T : Tau) (M : Mem) (es : List Expr) (ds : List D) (M' : Mem) : Prop := PA X es (tJA X.K T M ds M')
def JR (X : Cx) (W : WX) (T : Tau) (M : Mem) (e : Expr) (r : Res) (M' : Mem) : Prop := PE X e (tJR X.K W T M r M')
section
variable {X : Cx} {W : WX} {T : Tau} {M M1 M2 M3 : Mem} {a b e : Expr} {es : List Expr} {d d1 d2 : D} {ds : List D} {pos p : Pos}
theorem JE.jr (h : JE X T M e d M1) : JR X W T M e (.ok d) M1 := h
theorem JR.je (h : JR X W T M e (.ok d) M1) : JE X T M e d M1 := h
theorem JE.cast (h : JE X T M e d1 M1) (q : d1 = d) : JE X T M e d M1 := q ▸ h
theorem JT.cast {b1 b2 : Bool} (h : JT X T M e b1 M1) (q : b1 = b2) : JT X T M e b2 M1 := q ▸ h
theorem je_var {i : Nat} {x : Str} (hT : T[i]? = some (some d)) (hN : X.N[i]? = some x) (hv : Vis X.env.scope x) (hd : (x == ("__debug__" : Str)) = false := by decide) (hcd : (x == ("__classdict__" : Str)) = false := by decide) : JE X T M (.Name x pos) d M :=
  (pe_var hN hv hd hcd).imp fun σ H Q ⟨F, Mx, S, k⟩ => by
    obtain ⟨v, e, r⟩ := S.slot i d hT
    exact ⟨v, e, k v F H (Ex.refl _) S r⟩
theorem je_int {i : Int} {j} : JE X T M (.Constant (.int i) j pos) (.int i) M := pe_int.imp fun σ H Q ⟨F, Mx, S, k⟩ => k _ F H (Ex.refl _) S (.int i)
theorem je_bl {b : Bool} {j} : JE X T M (.Constant (.bool b) j pos) (.bl b) M := pe_bl.imp fun σ H Q ⟨F, Mx, S, k⟩ => k _ F H (Ex.refl _) S (.bl b)
theorem je_non {j} : JE X T M (.Constant .none j pos) .non M := pe_non.imp fun σ H Q ⟨F, Mx, S, k⟩ => k _ F H (Ex.refl _) S .non
theorem je_str {x : Str} {j} : JE X T M (.Constant (.str x) j pos) (.str x) M := pe_str.imp fun σ H Q ⟨F, Mx, S, k⟩ => k _ F H (Ex.refl _) S (.str x)
theorem ja_nil : JA X T M [] [] M := pa_nil.imp fun σ H Q ⟨F, Mx, S, k⟩ => k _ F H (Ex.refl _) S .nil
theorem ja_cons (h : JE X T M e d M1) (hr : JA X T M1 es ds M2) (he : starEach (e :: es) X.env = (false, eval e X.env) :: starEach es X.env := by rfl) : JA X T M (e :: es) (d :: ds) M2 :=
  (pa_cons h hr he).imp fun σ H Q ⟨F, Mx, S, k⟩ => ⟨F, Mx, S, fun v F1 H1 e1 S1 r1 => ⟨F1, Mx, S1, fun vs F2 H2 e2 S2 r2 => k _ F2 H2 (e1.trans e2) S2 (.cons (r1.mono e2) r2)⟩⟩
/-- (a, b, ..): a new plain tuple -/
def tTupP (t : TA) : TE := fun σ H Q => t σ H fun xs H1 => xs.length ≤ sizeLine ∧ ∀ p o, o.dict = none → H1 p = none → Q (.ref p) (upd H1 p (.frz o (.tup xs)))
theorem pe_tupP {x1} {t : TA} (h : PA X es t) : PE X (.Tuple es x1 pos) (tTupP t) := by
  refine ⟨fun pins s σ H Q I hq => ?_⟩
  refine wpAny_Tuple_spliced (thn (h.run pos pins s σ H _ I hq) fun us s1 ⟨xs, H1, I1, r, z, q⟩ => ⟨by rw [← r.length]; exact z, ?_⟩)
  have hf : H1 s1.heap.objs.size = none := I1.hok.fresh (Nat.le_refl _)
  refine ⟨.ref s1.heap.objs.size, upd H1 s1.heap.objs.size (.frz { cls := .type "tuple", data := .seq us.toArray } (.tup xs)), I1.laid (t' := s1.toks) (fun b u e => Heap.get?_push_of_some _ e) (Nat.le_refl _) ?_, rfl, q _ _ rfl hf⟩
  exact ⟨Heap.get?_push_size _ rfl, z, us, r, ⟨_, Heap.get?_push_size _ rfl, rfl, _, rfl⟩⟩
/-- a tuple, a list written out -/
theorem je_tup {x1} (h : JA X T M es ds M1) (hz : ds.length ≤ sizeLine) : JE X T M (.Tuple es x1 pos) (.tup ds) M1 :=
  (pe_tupP h).imp fun σ H Q ⟨F, Mx, S, k⟩ => ⟨F, Mx, S, fun vs F1 H1 e1 S1 r1 => ⟨by rw [r1.length]; exact hz, fun q o ho hq => by
    have g := gr_new (o := .frz o (.tup vs)) S1.mem.ex hq
    exact k _ _ _ (e1.trans g.ff) (S1.gr g) (.tup (.inl ⟨o, upd_same, ho⟩) (r1.mono g.ff))⟩⟩
theorem je_lst (h : JA X T M es ds M1) (hz : ds.length ≤ sizeLine) : JE X T M (.List es pos) (.lst ds) M1 :=
  (pe_lst h).imp fun σ H Q ⟨F, Mx, S, k⟩ => ⟨F, Mx, S, fun vs F1 H1 e1 S1 r1 => ⟨by rw [r1.length]; exact hz, fun q hq => by
    have g := gr_new (o := .lst vs) S1.mem.ex hq
    exact k _ _ _ (e1.trans g.ff) (S1.gr g) (.lst upd_same (r1.mono g.ff))⟩⟩
end

/-! ### operators by data -/
/-- an operator: what it gives of two data -/
def OpJ (X : Cx) (f : Value → Value → Sem Value) (g : D → D → D → Prop) : Prop := ∃ r : R2, OpR X f r ∧
  ∀ (d1 d2 d : D), g d1 d2 d → ∀ (M : Mem) (F H : Hp) (x y : V) (Q : VK), MemOk X.K F H M → RepH X.K F H x d1 → RepH X.K F H y d2 → (∀ v F' H', Gr F H F' H' → Rep X.K F' v d → Q v H') → r x y H Q
section
variable {X : Cx} {W : WX} {T : Tau} {M M1 M2 M3 : Mem} {a b e : Expr} {es : List Expr} {d d1 d2 : D} {ds : List D} {pos p : Pos} {op : Operator} {cop : CmpOp} {g : D → D → D → Prop}
theorem je_op (ho : OpJ X (binaryOp op) g) (ha : JE X T M a d1 M1) (hb : JE X T M1 b d2 M2) (hg : g (look M2 d1) (look M2 d2) d) : JE X T M (.BinOp a op b pos) d M2 := by
  obtain ⟨r, hr, k⟩ := ho
  refine PE.imp (pe_op hr ha hb) fun σ H Q ⟨F, Mx, S, q⟩ => ?_
  refine ⟨F, Mx, S, fun v F1 H1 e1 S1 r1 => ⟨F1, Mx, S1, fun u F2 H2 e2 S2 r2 => ?_⟩⟩
  exact k _ _ d hg _ F2 H2 v u Q S2.mem (S2.mem.look (r1.mono e2)) (S2.mem.look r2) fun z F3 H3 g3 r3 => q z F3 H3 ((e1.trans e2).trans g3.ff) (S2.gr g3) r3
theorem je_cmp (ho : OpJ X (compareOp cop) g) (ha : JE X T M a d1 M1) (hb : JE X T M1 b d2 M2) (hg : g (look M2 d1) (look M2 d2) d) (hm : behindInMarks cop b = false) : JE X T M (.Compare a [cop] [b] pos) d M2 := by
  obtain ⟨r, hr, k⟩ := ho
  refine PE.imp (pe_cmpR hr ha hb hm) fun σ H Q ⟨F, Mx, S, q⟩ => ?_
  refine ⟨F, Mx, S, fun v F1 H1 e1 S1 r1 => ⟨F1, Mx, S1, fun u F2 H2 e2 S2 r2 => ?_⟩⟩
  exact k _ _ d hg _ F2 H2 v u Q S2.mem (S2.mem.look (r1.mono e2)) (S2.mem.look r2) fun z F3 H3 g3 r3 => q z F3 H3 ((e1.trans e2).trans g3.ff) (S2.gr g3) r3
theorem jt_cmp {bb : Bool} (ho : OpJ X (compareOp cop) g) (ha : JE X T M a d1 M1) (hb : JE X T M1 b d2 M2) (hg : g (look M2 d1) (look M2 d2) (.bl bb)) (hm : behindInMarks cop b = false) : JT X T M (.Compare a [cop] [b] pos) bb M2 := by
  obtain ⟨r, hr, k⟩ := ho
  refine PT.imp (pt_cmpR hr ha hb hm) fun σ H Q ⟨F, Mx, S, q⟩ => ?_
  refine ⟨F, Mx, S, fun v F1 H1 e1 S1 r1 => ⟨F1, Mx, S1, fun u F2 H2 e2 S2 r2 => ?_⟩⟩
  exact k _ _ _ hg _ F2 H2 v u _ S2.mem (S2.mem.look (r1.mono e2)) (S2.mem.look r2) fun z F3 H3 g3 r3 => ⟨bb, r3.bl_inv, q F3 H3 ((e1.trans e2).trans g3.ff) (S2.gr g3)⟩
end
end J

set_option Elab.async false
set_option linter.all false
set_option maxRecDepth 100000
set_option maxHeartbeats 2000000
namespace J
open PySem PySem.Spec PyProof.Rows L2 Evl

/-! ### data as the library's data -/
mutual
def D.py : D → PyData
  | .non => .none
  | .bl b => .bool b
  | .int i => .int i
  | .str x => .str x
  | .tup xs => .tuple (D.pys xs)
  | .lst xs => .list (D.pys xs)
  | .scr ns => .list (ns.map .int)
  | .cell _ => .none
def D.pys : List D → List PyData
  | [] => []
  | x :: xs => D.py x :: D.pys xs
end
mutual
def D.pure : D → Bool
  | .tup xs => D.pures xs
  | .lst xs => D.pures xs
  | .cell _ => false
  | _ => true
def D.pures : List D → Bool
  | [] => true
  | x :: xs => D.pure x && D.pures xs
end
theorem plain_ints : ∀ ns : List Int, PyData.plainAll (ns.map .int) = true
  | [] => rfl
  | n :: ns => by
    show (PyData.plain (.int n) && PyData.plainAll (ns.map .int)) = true
    rw [plain_ints ns]
    rfl
mutual
theorem D.plain_py : ∀ d : D, d.py.plain = true
  | .non => rfl
  | .bl _ => rfl
  | .int _ => rfl
  | .str _ => rfl
  | .tup xs => D.plain_pys xs
  | .lst xs => D.plain_pys xs
  | .scr ns => plain_ints ns
  | .cell _ => rfl
theorem D.plain_pys : ∀ ds : List D, PyData.plainAll (D.pys ds) = true
  | [] => rfl
  | d :: ds => by
    show (PyData.plain d.py && PyData.plainAll (D.pys ds)) = true
    rw [D.plain_py d, D.plain_pys ds]
    rfl
end
theorem dp_ints {K : PySem.W.Frag} {H : Hp} : ∀ ns : List Int, DpAll K H (ns.map V.int) (ns.map .int)
  | [] => .nil
  | n :: ns => .cons (.int n) (dp_ints ns)
section
variable {K : PySem.W.Frag} {F H : Hp}
mutual
theorem Rep.dp (e : Ex F H) : ∀ {v : V} {d : D}, Rep K F v d → d.pure = true → Dp K H v d.py
  | _, _, .non, _ => .non
  | _, _, .bl b, _ => .bl b
  | _, _, .int i, _ => .int i
  | _, _, .str x, _ => .str x
  | _, _, .tup h r, p => .tup (ex_p e h).sq (RepL.dp e r p)
  | _, _, .lst h r, p => .lst (SqL.of (e _ _ h)) (RepL.dp e r p)
  | _, _, .scr h, _ => .lst (ex_l e h) (dp_ints _)
  | _, _, .cell a, p => nomatch p
theorem RepL.dp (e : Ex F H) : ∀ {vs : List V} {ds : List D}, RepL K F vs ds → D.pures ds = true → DpAll K H vs (D.pys ds)
  | _, _, .nil, _ => .nil
  | _, _, .cons h r, p => by
    obtain ⟨p1, p2⟩ := Bool.and_eq_true_iff.mp (show (D.pure _ && D.pures _) = true from p)
    exact .cons (Rep.dp e h p1) (RepL.dp e r p2)
end
end
theorem RepH.dp {K : PySem.W.Frag} {F H : Hp} {v : V} {d : D} (e : Ex F H) (h : RepH K F H v d) (p : d.pure = true) : Dp K H v d.py := by
  rcases h with h | ⟨a, rfl, h⟩
  · exact h.dp e p
  · cases d with
    | lst ds =>
      obtain ⟨vs, h1, h2⟩ := h
      exact .lst (SqL.of h1) (h2.dp e p)
    | _ => exact h.elim
/-- Python's == of data -/
def D.eqv (a b : D) : Bool := PyData.eqv a.py b.py
def D.dep (a : D) : Nat := a.py.depth
def D.deps (a : List D) : Nat := PyData.depthAll (D.pys a)

/-! ### operators -/
section
variable {X : Cx} {W : WX} {T : Tau} {M M1 M2 M3 : Mem} {a b c e : Expr} {es : List Expr} {d d1 d2 d3 e1 e2 : D} {ds : List D} {pos p : Pos}
def gI2 (f : Int → Int → Int) (C : Int → Int → Prop) : D → D → D → Prop := fun d1 d2 d => ∃ i j, d1 = .int i ∧ d2 = .int j ∧ C i j ∧ d = .int (f i j)
theorem op_int {f : Value → Value → Sem Value} {C : Int → Int → Prop} {g : Int → Int → Int} (h : OpR X f (rI C fun i j => .int (g i j))) : OpJ X f (gI2 g C) :=
  ⟨_, h, fun d1 d2 d hg M F H x y Q m rx ry k => by
    obtain ⟨i, j, rfl, rfl, hc, rfl⟩ := hg
    exact ⟨i, j, rx.int, ry.int, hc, k _ F H (Gr.refl m.ex) (.int _)⟩⟩
theorem op_int0 {f : Value → Value → Sem Value} {g : Int → Int → Int} (h : OpR X f (rI0 fun i j => .int (g i j))) : OpJ X f (gI2 g fun _ _ => True) :=
  ⟨_, h, fun d1 d2 d hg M F H x y Q m rx ry k => by
    obtain ⟨i, j, rfl, rfl, hc, rfl⟩ := hg
    exact ⟨i, j, rx.int, ry.int, k _ F H (Gr.refl m.ex) (.int _)⟩⟩
theorem je_addI {i j : Int} (ha : JE X T M a (.int i) M1) (hb : JE X T M1 b (.int j) M2) : JE X T M (.BinOp a .Add b pos) (.int (i + j)) M2 := je_op (op_int0 op_add) ha hb ⟨i, j, rfl, rfl, trivial, rfl⟩
theorem je_subI {i j : Int} (ha : JE X T M a (.int i) M1) (hb : JE X T M1 b (.int j) M2) : JE X T M (.BinOp a .Sub b pos) (.int (i - j)) M2 := je_op (op_int0 op_sub) ha hb ⟨i, j, rfl, rfl, trivial, rfl⟩
theorem je_mulI {i j : Int} (ha : JE X T M a (.int i) M1) (hb : JE X T M1 b (.int j) M2) (hc : CMul i j) : JE X T M (.BinOp a .Mult b pos) (.int (i * j)) M2 := je_op (op_int op_mul) ha hb ⟨i, j, rfl, rfl, hc, rfl⟩
theorem je_modI {i j : Int} (ha : JE X T M a (.int i) M1) (hb : JE X T M1 b (.int j) M2) (hc : 0 < j) : JE X T M (.BinOp a .Mod b pos) (.int (i % j)) M2 := je_op (op_int op_mod) ha hb ⟨i, j, rfl, rfl, hc, rfl⟩
theorem je_fdivI {i j : Int} (ha : JE X T M a (.int i) M1) (hb : JE X T M1 b (.int j) M2) (hc : CDiv i j) : JE X T M (.BinOp a .FloorDiv b pos) (.int (i / j)) M2 := je_op (op_int op_fdiv) ha hb ⟨i, j, rfl, rfl, hc, rfl⟩
theorem je_neg {i : Int} (ha : JE X T M a (.int i) M1) : JE X T M (.UnaryOp .USub a pos) (.int (-i)) M1 :=
  PE.imp (pe_un un_neg ha) fun σ H Q ⟨F, Mx, S, k⟩ => ⟨F, Mx, S, fun v F1 H1 e1 S1 r1 => ⟨i, r1.int_inv, k _ F1 H1 e1 S1 (.int _)⟩⟩
/-- comparisons of ints -/
def gC2 (f : Int → Int → Bool) : D → D → D → Prop := fun d1 d2 d => ∃ i j, d1 = .int i ∧ d2 = .int j ∧ d = .bl (f i j)
theorem op_cmpI {f : Value → Value → Sem Value} {g : Int → Int → Bool} (h : OpR X f (rI0 fun i j => .bl (g i j))) : OpJ X f (gC2 g) :=
  ⟨_, h, fun d1 d2 d hg M F H x y Q m rx ry k => by
    obtain ⟨i, j, rfl, rfl, rfl⟩ := hg
    exact ⟨i, j, rx.int, ry.int, k _ F H (Gr.refl m.ex) (.bl _)⟩⟩
theorem je_ltI {i j : Int} (ha : JE X T M a (.int i) M1) (hb : JE X T M1 b (.int j) M2) : JE X T M (.Compare a [.Lt] [b] pos) (.bl (decide (i < j))) M2 := je_cmp (op_cmpI op_lt) ha hb ⟨i, j, rfl, rfl, rfl⟩ (nomark _)
theorem je_leI {i j : Int} (ha : JE X T M a (.int i) M1) (hb : JE X T M1 b (.int j) M2) : JE X T M (.Compare a [.LtE] [b] pos) (.bl (decide (i ≤ j))) M2 := je_cmp (op_cmpI op_le) ha hb ⟨i, j, rfl, rfl, rfl⟩ (nomark _)
theorem je_gtI {i j : Int} (ha : JE X T M a (.int i) M1) (hb : JE X T M1 b (.int j) M2) : JE X T M (.Compare a [.Gt] [b] pos) (.bl (decide (j < i))) M2 := je_cmp (op_cmpI op_gt) ha hb ⟨i, j, rfl, rfl, rfl⟩ (nomark _)
theorem je_geI {i j : Int} (ha : JE X T M a (.int i) M1) (hb : JE X T M1 b (.int j) M2) : JE X T M (.Compare a [.GtE] [b] pos) (.bl (decide (j ≤ i))) M2 := je_cmp (op_cmpI op_ge) ha hb ⟨i, j, rfl, rfl, rfl⟩ (nomark _)
theorem jt_ltI {i j : Int} (ha : JE X T M a (.int i) M1) (hb : JE X T M1 b (.int j) M2) : JT X T M (.Compare a [.Lt] [b] pos) (decide (i < j)) M2 := jt_cmp (op_cmpI op_lt) ha hb ⟨i, j, rfl, rfl, rfl⟩ (nomark _)
theorem jt_leI {i j : Int} (ha : JE X T M a (.int i) M1) (hb : JE X T M1 b (.int j) M2) : JT X T M (.Compare a [.LtE] [b] pos) (decide (i ≤ j)) M2 := jt_cmp (op_cmpI op_le) ha hb ⟨i, j, rfl, rfl, rfl⟩ (nomark _)
theorem jt_gtI {i j : Int} (ha : JE X T M a (.int i) M1) (hb : JE X T M1 b (.int j) M2) : JT X T M (.Compare a [.Gt] [b] pos) (decide (j < i)) M2 := jt_cmp (op_cmpI op_gt) ha hb ⟨i, j, rfl, rfl, rfl⟩ (nomark _)
theorem jt_geI {i j : Int} (ha : JE X T M a (.int i) M1) (hb : JE X T M1 b (.int j) M2) : JT X T M (.Compare a [.GtE] [b] pos) (decide (j ≤ i)) M2 := jt_cmp (op_cmpI op_ge) ha hb ⟨i, j, rfl, rfl, rfl⟩ (nomark _)
/-- a op b op' c of ints -/
def ffI : CmpOp → Option (Int → Int → Bool)
  | .Lt => some fun i j => decide (i < j)
  | .LtE => some fun i j => decide (i ≤ j)
  | _ => none
theorem opr_ff {op : CmpOp} {f : Int → Int → Bool} (h : ffI op = some f) : OpR X (compareOp op) (rI0 fun i j => .bl (f i j)) := by
  cases op with
  | Lt => cases h; exact op_lt
  | LtE => cases h; exact op_le
  | _ => cases h
theorem je_chain {op op' : CmpOp} {f f' : Int → Int → Bool} {i j k : Int} (h : ffI op = some f) (h' : ffI op' = some f') (ha : JE X T M a (.int i) M1) (hb : JE X T M1 b (.int j) M2) (hc : JE X T M2 c (.int k) M2)
    (hm : lastMarks [op, op'] [b, c] = false := by with_unfolding_all rfl) : JE X T M (.Compare a [op, op'] [b, c] pos) (.bl (f i j && f' j k)) M2 :=
  PE.imp (pe_chain (opr_ff h) (opr_ff h') ha hb hc hm) fun σ H Q ⟨F, Mx, S, q⟩ => ⟨F, Mx, S, fun v F1 H1 e1 S1 r1 => ⟨F1, Mx, S1, fun u F2 H2 e2 S2 r2 => ⟨i, j, r1.int_inv, r2.int_inv, f i j, rfl, by
    cases hf : f i j with
    | false =>
      rw [if_neg Bool.false_ne_true]
      exact q _ F2 H2 (e1.trans e2) S2 (by rw [hf]; exact .bl _)
    | true =>
      rw [if_pos rfl]
      refine ⟨F2, Mx, S2, fun w F3 H3 e3 S3 r3 => ⟨j, k, r2.int_inv, r3.int_inv, q _ F3 H3 ((e1.trans e2).trans e3) S3 (by rw [hf]; exact .bl _)⟩⟩⟩⟩⟩
theorem jt_chain {op op' : CmpOp} {f f' : Int → Int → Bool} {i j k : Int} (h : ffI op = some f) (h' : ffI op' = some f') (ha : JE X T M a (.int i) M1) (hb : JE X T M1 b (.int j) M2) (hc : JE X T M2 c (.int k) M2)
    (hm : lastMarks [op, op'] [b, c] = false := by with_unfolding_all rfl) : JT X T M (.Compare a [op, op'] [b, c] pos) (f i j && f' j k) M2 :=
  PT.imp (pt_chain (opr_ff h) (opr_ff h') ha hb hc hm) fun σ H Q ⟨F, Mx, S, q⟩ => ⟨F, Mx, S, fun v F1 H1 e1 S1 r1 => ⟨F1, Mx, S1, fun u F2 H2 e2 S2 r2 => ⟨i, j, r1.int_inv, r2.int_inv, f i j, rfl, by
    cases hf : f i j with
    | false =>
      rw [if_neg Bool.false_ne_true]
      exact ⟨false, rfl, by have z := q F2 H2 (e1.trans e2) S2; rw [hf] at z; exact z⟩
    | true =>
      rw [if_pos rfl]
      refine ⟨F2, Mx, S2, fun w F3 H3 e3 S3 r3 => ⟨j, k, r2.int_inv, r3.int_inv, f' j k, rfl, by have z := q F3 H3 ((e1.trans e2).trans e3) S3; rw [hf] at z; exact z⟩⟩⟩⟩⟩

/-! ### == and in, over data -/
theorem opr_eq (hu : X.A.units + 64 < cLine) : OpJ X (compareOp .Eq) (fun d1 d2 d => d1.pure = true ∧ d2.pure = true ∧ min d1.dep d2.dep ≤ 60 ∧ d = .bl (D.eqv d1 d2)) :=
  ⟨fun x y H Q => ∃ d1 d2 : D, Dp X.K H x d1.py ∧ Dp X.K H y d2.py ∧ min d1.dep d2.dep ≤ 60 ∧ Q (.bl (D.eqv d1 d2)) H, by
    intro pins s σ H x y v u Q I rx ry ⟨d1, d2, h1, h2, hd, q⟩
    obtain ⟨as, r1⟩ := Dp.reads I _ x v h1 rx
    obtain ⟨bs, r2⟩ := Dp.reads I _ y u h2 ry
    exact SeqAt.eq_plain r1 r2 d1.plain_py d2.plain_py (by unfold D.dep at hd; omega) ⟨.bl _, H, I, rfl, q⟩,
   fun d1 d2 d hg M F H x y Q m rx ry k => by
    obtain ⟨p1, p2, hd, rfl⟩ := hg
    exact ⟨d1, d2, rx.dp m.ex p1, ry.dp m.ex p2, hd, k _ F H (Gr.refl m.ex) (.bl _)⟩⟩
theorem opr_ne (hu : X.A.units + 64 < cLine) : OpJ X (compareOp .NotEq) (fun d1 d2 d => d1.pure = true ∧ d2.pure = true ∧ min d1.dep d2.dep ≤ 60 ∧ d = .bl (!D.eqv d1 d2)) :=
  ⟨fun x y H Q => ∃ d1 d2 : D, Dp X.K H x d1.py ∧ Dp X.K H y d2.py ∧ min d1.dep d2.dep ≤ 60 ∧ Q (.bl (!D.eqv d1 d2)) H, by
    intro pins s σ H x y v u Q I rx ry ⟨d1, d2, h1, h2, hd, q⟩
    obtain ⟨as, r1⟩ := Dp.reads I _ x v h1 rx
    obtain ⟨bs, r2⟩ := Dp.reads I _ y u h2 ry
    exact SeqAt.ne_plain r1 r2 d1.plain_py d2.plain_py (by unfold D.dep at hd; omega) ⟨.bl _, H, I, rfl, q⟩,
   fun d1 d2 d hg M F H x y Q m rx ry k => by
    obtain ⟨p1, p2, hd, rfl⟩ := hg
    exact ⟨d1, d2, rx.dp m.ex p1, ry.dp m.ex p2, hd, k _ F H (Gr.refl m.ex) (.bl _)⟩⟩
/-- the items of a list or a tuple -/
def D.items : D → Option (List D)
  | .tup xs => some xs
  | .lst xs => some xs
  | .scr ns => some (ns.map .int)
  | _ => none
def D.mem (x : D) (ds : List D) : Bool := ds.any fun y => D.eqv y x
theorem pys_any (x : D) : ∀ ds : List D, (D.pys ds).any (fun y => PyData.eqv y x.py) = D.mem x ds
  | [] => rfl
  | d :: ds => by
    show (PyData.eqv d.py x.py || (D.pys ds).any fun y => PyData.eqv y x.py) = (D.eqv d x || D.mem x ds)
    rw [pys_any x ds]
    rfl
theorem opr_in (hu : X.A.units + 65 < cLine) : OpJ X (compareOp .In) (fun d1 d2 d => ∃ ds, (d2 = .tup ds ∨ d2 = .lst ds) ∧ d1.pure = true ∧ D.pures ds = true ∧ min (D.deps ds) d1.dep ≤ 60 ∧ d = .bl (D.mem d1 ds)) :=
  ⟨fun x y H Q => ∃ (d1 : D) (ds : List D), Dp X.K H x d1.py ∧ (Dp X.K H y (.list (D.pys ds)) ∨ Dp X.K H y (.tuple (D.pys ds))) ∧ min (D.deps ds) d1.dep ≤ 60 ∧ Q (.bl (D.mem d1 ds)) H, by
    intro pins s σ H x y v u Q I rx ry ⟨d1, ds, h1, h2, hd, q⟩
    obtain ⟨as, r1⟩ := Dp.reads I _ x v h1 rx
    have hd' : X.A.units + 1 + min (PyData.depthAll (D.pys ds)) d1.py.depth < cLine := by unfold D.dep D.deps at hd; omega
    rcases h2 with h2 | h2
    · obtain ⟨bs, r2⟩ := Dp.reads I _ y u h2 ry
      exact SeqAt.in_list_data r2 r1 (D.plain_pys ds) d1.plain_py hd' (by rw [pys_any]; exact ⟨.bl _, H, I, rfl, q⟩)
    · obtain ⟨bs, r2⟩ := Dp.reads I _ y u h2 ry
      exact SeqAt.in_tuple_data r2 r1 (D.plain_pys ds) d1.plain_py hd' (by rw [pys_any]; exact ⟨.bl _, H, I, rfl, q⟩),
   fun d1 d2 d hg M F H x y Q m rx ry k => by
    obtain ⟨ds, hds, p1, p2, hd, rfl⟩ := hg
    refine ⟨d1, ds, rx.dp m.ex p1, ?_, hd, k _ F H (Gr.refl m.ex) (.bl _)⟩
    rcases hds with rfl | rfl
    · exact .inr (ry.dp m.ex p2)
    · exact .inl (ry.dp m.ex p2)⟩
theorem opr_notin (hu : X.A.units + 65 < cLine) : OpJ X (compareOp .NotIn) (fun d1 d2 d => ∃ ds, (d2 = .tup ds ∨ d2 = .lst ds) ∧ d1.pure = true ∧ D.pures ds = true ∧ min (D.deps ds) d1.dep ≤ 60 ∧ d = .bl (!D.mem d1 ds)) :=
  ⟨fun x y H Q => ∃ (d1 : D) (ds : List D), Dp X.K H x d1.py ∧ (Dp X.K H y (.list (D.pys ds)) ∨ Dp X.K H y (.tuple (D.pys ds))) ∧ min (D.deps ds) d1.dep ≤ 60 ∧ Q (.bl (!D.mem d1 ds)) H, by
    intro pins s σ H x y v u Q I rx ry ⟨d1, ds, h1, h2, hd, q⟩
    obtain ⟨as, r1⟩ := Dp.reads I _ x v h1 rx
    have hd' : X.A.units + 1 + min (PyData.depthAll (D.pys ds)) d1.py.depth < cLine := by unfold D.dep D.deps at hd; omega
    rcases h2 with h2 | h2
    · obtain ⟨bs, r2⟩ := Dp.reads I _ y u h2 ry
      exact SeqAt.notIn_list_data r2 r1 (D.plain_pys ds) d1.plain_py hd' (by rw [pys_any]; exact ⟨.bl _, H, I, rfl, q⟩)
    · obtain ⟨bs, r2⟩ := Dp.reads I _ y u h2 ry
      exact SeqAt.notIn_tuple_data r2 r1 (D.plain_pys ds) d1.plain_py hd' (by rw [pys_any]; exact ⟨.bl _, H, I, rfl, q⟩),
   fun d1 d2 d hg M F H x y Q m rx ry k => by
    obtain ⟨ds, hds, p1, p2, hd, rfl⟩ := hg
    refine ⟨d1, ds, rx.dp m.ex p1, ?_, hd, k _ F H (Gr.refl m.ex) (.bl _)⟩
    rcases hds with rfl | rfl
    · exact .inr (ry.dp m.ex p2)
    · exact .inl (ry.dp m.ex p2)⟩
theorem je_eq (hu : X.A.units + 64 < cLine) (ha : JE X T M a d1 M1) (hb : JE X T M1 b d2 M2) (l1 : look M2 d1 = e1) (l2 : look M2 d2 = e2) (p1 : e1.pure = true) (p2 : e2.pure = true) (hd : min e1.dep e2.dep ≤ 60) : JE X T M (.Compare a [.Eq] [b] pos) (.bl (D.eqv e1 e2)) M2 := je_cmp (opr_eq hu) ha hb (by rw [l1, l2]; exact ⟨p1, p2, hd, rfl⟩) (nomark _)
theorem jt_eq (hu : X.A.units + 64 < cLine) (ha : JE X T M a d1 M1) (hb : JE X T M1 b d2 M2) (l1 : look M2 d1 = e1) (l2 : look M2 d2 = e2) (p1 : e1.pure = true) (p2 : e2.pure = true) (hd : min e1.dep e2.dep ≤ 60) : JT X T M (.Compare a [.Eq] [b] pos) (D.eqv e1 e2) M2 := jt_cmp (opr_eq hu) ha hb (by rw [l1, l2]; exact ⟨p1, p2, hd, rfl⟩) (nomark _)
theorem je_ne (hu : X.A.units + 64 < cLine) (ha : JE X T M a d1 M1) (hb : JE X T M1 b d2 M2) (l1 : look M2 d1 = e1) (l2 : look M2 d2 = e2) (p1 : e1.pure = true) (p2 : e2.pure = true) (hd : min e1.dep e2.dep ≤ 60) : JE X T M (.Compare a [.NotEq] [b] pos) (.bl (!D.eqv e1 e2)) M2 := je_cmp (opr_ne hu) ha hb (by rw [l1, l2]; exact ⟨p1, p2, hd, rfl⟩) (nomark _)
theorem jt_ne (hu : X.A.units + 64 < cLine) (ha : JE X T M a d1 M1) (hb : JE X T M1 b d2 M2) (l1 : look M2 d1 = e1) (l2 : look M2 d2 = e2) (p1 : e1.pure = true) (p2 : e2.pure = true) (hd : min e1.dep e2.dep ≤ 60) : JT X T M (.Compare a [.NotEq] [b] pos) (!D.eqv e1 e2) M2 := jt_cmp (opr_ne hu) ha hb (by rw [l1, l2]; exact ⟨p1, p2, hd, rfl⟩) (nomark _)
theorem je_in (hu : X.A.units + 65 < cLine) (ha : JE X T M a d1 M1) (hb : JE X T M1 b d2 M2) (hds : look M2 d2 = .tup ds ∨ look M2 d2 = .lst ds) (l1 : look M2 d1 = d1) (p1 : d1.pure = true) (p2 : D.pures ds = true) (hd : min (D.deps ds) d1.dep ≤ 60) (hm : behindInMarks .In b = false) : JE X T M (.Compare a [.In] [b] pos) (.bl (D.mem d1 ds)) M2 := je_cmp (opr_in hu) ha hb (by rw [l1]; exact ⟨ds, hds, p1, p2, hd, rfl⟩) hm
theorem jt_in (hu : X.A.units + 65 < cLine) (ha : JE X T M a d1 M1) (hb : JE X T M1 b d2 M2) (hds : look M2 d2 = .tup ds ∨ look M2 d2 = .lst ds) (l1 : look M2 d1 = d1) (p1 : d1.pure = true) (p2 : D.pures ds = true) (hd : min (D.deps ds) d1.dep ≤ 60) (hm : behindInMarks .In b = false) : JT X T M (.Compare a [.In] [b] pos) (D.mem d1 ds) M2 := jt_cmp (opr_in hu) ha hb (by rw [l1]; exact ⟨ds, hds, p1, p2, hd, rfl⟩) hm
theorem je_notin (hu : X.A.units + 65 < cLine) (ha : JE X T M a d1 M1) (hb : JE X T M1 b d2 M2) (hds : look M2 d2 = .tup ds ∨ look M2 d2 = .lst ds) (l1 : look M2 d1 = d1) (p1 : d1.pure = true) (p2 : D.pures ds = true) (hd : min (D.deps ds) d1.dep ≤ 60) (hm : behindInMarks .NotIn b = false) : JE X T M (.Compare a [.NotIn] [b] pos) (.bl (!D.mem d1 ds)) M2 := je_cmp (opr_notin hu) ha hb (by rw [l1]; exact ⟨ds, hds, p1, p2, hd, rfl⟩) hm
theorem jt_notin (hu : X.A.units + 65 < cLine) (ha : JE X T M a d1 M1) (hb : JE X T M1 b d2 M2) (hds : look M2 d2 = .tup ds ∨ look M2 d2 = .lst ds) (l1 : look M2 d1 = d1) (p1 : d1.pure = true) (p2 : D.pures ds = true) (hd : min (D.deps ds) d1.dep ≤ 60) (hm : behindInMarks .NotIn b = false) : JT X T M (.Compare a [.NotIn] [b] pos) (!D.mem d1 ds) M2 := jt_cmp (opr_notin hu) ha hb (by rw [l1]; exact ⟨ds, hds, p1, p2, hd, rfl⟩) hm
end
end J

set_option Elab.async false
set_option linter.all false
set_option maxRecDepth 100000
set_option maxHeartbeats 2000000
namespace J
open PySem PySem.Spec PyProof.Rows L2 Evl

/-! ### plain tuples made -/
section
variable {X : Cx}
def rCatP (K : PySem.W.Frag) : R2 := fun x y H Q => ∃ a b xs ys, x = .ref a ∧ y = .ref b ∧ SqT K H a xs ∧ SqT K H b ys ∧ xs.length + ys.length ≤ sizeLine ∧
  (xs = [] → Q (.ref b) H) ∧ (xs ≠ [] → ys = [] → Q (.ref a) H) ∧ (xs ≠ [] → ys ≠ [] → ∀ p o, o.dict = none → H p = none → Q (.ref p) (upd H p (.frz o (.tup (xs ++ ys)))))
theorem op_catP : OpR X (binaryOp .Add) (rCatP X.K) := by
  intro pins s σ H x y v u Q I rx ry h
  obtain ⟨a, b, xs, ys, rfl, rfl, ha, hb, hz, q0, q1, q2⟩ := h
  cases rx
  cases ry
  obtain ⟨its, r1, p1, _⟩ := I.tuple ha
  obtain ⟨its2, r2, p2, _⟩ := I.tuple hb
  by_cases hx : xs = []
  · subst hx
    cases r1
    exact cat_tup0 p1 p2 ⟨.ref b, H, I, rfl, q0 rfl⟩
  · refine HT.cat_tup p1 p2 (fun z => hx (r1.nil_iff.mp z)) (fun z => ⟨.ref a, H, I, rfl, q1 hx (r2.nil_iff.mp z)⟩) (fun z => ?_) (by rw [← r1.length, ← r2.length]; exact hz)
    refine ⟨.ref s.heap.objs.size, _, I.laid (t' := s.toks) (o := .frz { cls := .type "tuple", data := .seq (its ++ its2).toArray } (.tup (xs ++ ys))) (fun b ob q => Heap.get?_push_of_some _ q) (Nat.le_refl _) ⟨Heap.get?_push_size _ rfl, ?_⟩, rfl, q2 hx (fun w => z (r2.nil_iff.mpr w)) _ _ rfl (I.hok.fresh (Nat.le_refl _))⟩
    exact ⟨by rw [List.length_append]; exact hz, _, r1.append r2, IsTup.new _ _⟩
theorem call_tupleP : CallR X (.type "tuple") (fun xs H Q => ∃ p ys, xs = [.ref p] ∧ ((SqL X.K H p ys ∧ ∀ l o, o.dict = none → H l = none → Q (.ref l) (upd H l (.frz o (.tup ys)))) ∨ (SqT X.K H p ys ∧ Q (.ref p) H))) := by
  intro pins s σ H xs us Q I r h
  obtain ⟨p, ys, rfl, h⟩ := h
  obtain ⟨u, rfl, rx⟩ := vals1 r
  cases rx
  rcases h with ⟨hq, q⟩ | ⟨hq, q⟩
  · obtain ⟨its, r', pl, hz⟩ := I.list hq
    have hlen := r'.length
    refine call_tuple_list pl.isList (fun h' kp => ?_) (by simp only [List.size_toArray] <;> omega)
    have I1 : Inv X pins σ H { s with heap := h' } := I.kept (t' := s.toks) kp
    have I2 : Inv X pins σ (upd H h'.objs.size (.frz { cls := .type "tuple", data := .seq its.toArray } (.tup ys))) { s with heap := h'.push { cls := .type "tuple", data := .seq its.toArray } } :=
      I1.laid (t' := s.toks) (fun b o e => Heap.get?_push_of_some _ e) (Nat.le_refl _) (show ObjOk X.prog X.w _ _ _ (.frz _ (.tup ys)) from ⟨Heap.get?_push_size _ rfl, hz, its, r', IsTup.new _ _⟩)
    exact ⟨.ref h'.objs.size, _, I2, rfl, q _ _ rfl (I1.hok.fresh (Nat.le_refl _))⟩
  · obtain ⟨its, r', pl, hz⟩ := I.tuple hq
    exact call_tuple_same pl ⟨.ref p, H, I, rfl, q⟩
def rSlP (K : PySem.W.Frag) : V → Option Int → Option Int → Hp → VK → Prop := fun x lo hi H Q => ∃ a xs, x = .ref a ∧ SqT K H a xs ∧
  (HT.sIx xs.length 0 lo = 0 ∧ HT.sIx xs.length xs.length hi = xs.length → Q (.ref a) H) ∧ (¬ (HT.sIx xs.length 0 lo = 0 ∧ HT.sIx xs.length xs.length hi = xs.length) → ∀ p o, o.dict = none → H p = none → Q (.ref p) (upd H p (.frz o (.tup (cutV xs lo hi)))))
theorem sl_tupP : SlR X (rSlP X.K) := by
  intro pins s σ H x v vl vu lo hi sl Q I rx hs pl pu h
  obtain ⟨a, xs, rfl, hx, q1, q2⟩ := h
  cases rx
  obtain ⟨its, r, ht, hz⟩ := I.tuple hx
  have hlen : its.toArray.size = xs.length := by rw [List.size_toArray]; exact r.length.symm
  refine ⟨"tuple", _, PyProof.Rows.slot_tuple_getitem.lookup, ht.typeIs, ?_⟩
  by_cases hw : HT.sIx xs.length 0 lo = 0 ∧ HT.sIx xs.length xs.length hi = xs.length
  · exact getItem_tuple_whole ht hs pl pu (by rw [hlen]; exact hw) ⟨.ref a, H, I, rfl, q1 hw⟩
  · refine HT.getItem_tuple_cut ht hs pl pu (by rw [hlen]; exact hw) ?_ (by rw [hlen]; exact hz)
    rw [hlen]
    refine ⟨.ref s.heap.objs.size, _, I.laid (t' := s.toks) (o := .frz { cls := .type "tuple", data := .seq ((its.drop (HT.sIx xs.length 0 lo)).take (HT.sIx xs.length xs.length hi - HT.sIx xs.length 0 lo)).toArray } (.tup (cutV xs lo hi))) (fun b ob q => Heap.get?_push_of_some _ q) (Nat.le_refl _) ⟨Heap.get?_push_size _ rfl, ?_⟩, rfl, q2 hw _ _ rfl (I.hok.fresh (Nat.le_refl _))⟩
    exact ⟨Nat.le_trans (cutV_length xs lo hi) hz, _, (r.drop (HT.sIx xs.length 0 lo)).take (HT.sIx xs.length xs.length hi - HT.sIx xs.length 0 lo), IsTup.new _ _⟩
end
section
variable {X : Cx} {W : WX} {T : Tau} {M M1 M2 M3 : Mem} {a b c e : Expr} {es rest : List Expr} {d d1 d2 d3 e1 e2 : D} {ds ds1 ds2 : List D} {pos p : Pos}
/-! ### + and * of sequences -/
theorem je_catT (ha : JE X T M a d1 M1) (hb : JE X T M1 b d2 M2) (l1 : look M2 d1 = .tup ds1) (l2 : look M2 d2 = .tup ds2) (hz : ds1.length + ds2.length ≤ sizeLine) : JE X T M (.BinOp a .Add b pos) (.tup (ds1 ++ ds2)) M2 := by
  refine je_op (g := fun x y z => x = .tup ds1 ∧ y = .tup ds2 ∧ z = .tup (ds1 ++ ds2)) ⟨_, op_catP, fun d1 d2 d hg M F H x y Q m rx ry k => ?_⟩ ha hb ⟨l1, l2, rfl⟩
  obtain ⟨rfl, rfl, rfl⟩ := hg
  obtain ⟨p1, xs, rfl, h1, r1⟩ := rx.tup
  obtain ⟨p2, ys, rfl, h2, r2⟩ := ry.tup
  refine ⟨p1, p2, xs, ys, rfl, rfl, (ex_p m.ex h1).sq, (ex_p m.ex h2).sq, by rw [r1.length, r2.length]; exact hz, fun z => ?_, fun _ z => ?_, fun _ _ q o ho hq => ?_⟩
  · subst z
    cases r1
    exact k _ F H (Gr.refl m.ex) (.tup h2 r2)
  · subst z
    cases r2
    rw [List.append_nil] at k
    exact k _ F H (Gr.refl m.ex) (.tup h1 r1)
  · have g := gr_new (o := .frz o (.tup (xs ++ ys))) m.ex hq
    exact k _ _ _ g (.tup (.inl ⟨o, upd_same, ho⟩) ((r1.append r2).mono g.ff))
theorem je_catL (ha : JE X T M a d1 M1) (hb : JE X T M1 b d2 M2) (l1 : look M2 d1 = .lst ds1) (l2 : look M2 d2 = .lst ds2) (hz : ds1.length + ds2.length ≤ sizeLine) : JE X T M (.BinOp a .Add b pos) (.lst (ds1 ++ ds2)) M2 := by
  refine je_op (g := fun x y z => x = .lst ds1 ∧ y = .lst ds2 ∧ z = .lst (ds1 ++ ds2)) ⟨_, op_cat, fun d1 d2 d hg M F H x y Q m rx ry k => ?_⟩ ha hb ⟨l1, l2, rfl⟩
  obtain ⟨rfl, rfl, rfl⟩ := hg
  obtain ⟨p1, xs, rfl, h1, r1⟩ := rx.lst m.ex
  obtain ⟨p2, ys, rfl, h2, r2⟩ := ry.lst m.ex
  refine ⟨p1, p2, xs, ys, rfl, rfl, h1, h2, by rw [r1.length, r2.length]; exact hz, fun q hq => ?_⟩
  have g := gr_new (o := .lst (xs ++ ys)) m.ex hq
  exact k _ _ _ g (.lst upd_same ((r1.append r2).mono g.ff))
theorem RepL.rep {K : PySem.W.Frag} {F : Hp} {vs : List V} {ds : List D} (r : RepL K F vs ds) : ∀ n : Nat, RepL K F (List.replicate n vs).flatten (List.replicate n ds).flatten
  | 0 => .nil
  | n + 1 => by
    rw [List.replicate_succ, List.replicate_succ, List.flatten_cons, List.flatten_cons]
    exact r.append (RepL.rep r n)
theorem je_repL {k : Int} (ha : JE X T M a d1 M1) (hb : JE X T M1 b (.int k) M2) (l1 : look M2 d1 = .lst ds1) (hk : 0 ≤ k ∧ k ≤ 1000) (hz : ds1.length ≤ 1000) : JE X T M (.BinOp a .Mult b pos) (.lst (List.replicate k.toNat ds1).flatten) M2 := by
  refine je_op (g := fun x y z => x = .lst ds1 ∧ y = .int k ∧ z = .lst (List.replicate k.toNat ds1).flatten) ⟨_, op_rep, fun d1 d2 d hg M F H x y Q m rx ry q => ?_⟩ ha hb ⟨l1, rfl, rfl⟩
  obtain ⟨rfl, rfl, rfl⟩ := hg
  obtain ⟨p1, xs, rfl, h1, r1⟩ := rx.lst m.ex
  have hle : xs.length * k.toNat ≤ sizeLine := by
    have h2 : xs.length * k.toNat ≤ 1000 * 1000 := Nat.mul_le_mul (by rw [r1.length]; exact hz) (by omega)
    exact Nat.le_trans h2 (by rw [sizeLine_eq]; decide)
  refine ⟨p1, k, xs, rfl, ry.int, h1, by omega, by omega, hle, fun pp hq => ?_⟩
  have g := gr_new (o := .lst (List.replicate k.toNat xs).flatten) m.ex hq
  exact q _ _ _ g (.lst upd_same ((r1.rep _).mono g.ff))
/-! ### subscripts -/
theorem atI_rep {K : PySem.W.Frag} {F : Hp} {vs : List V} {ds : List D} {i : Int} {d : D} (r : RepL K F vs ds) (h : atI ds i = some d) : ∃ v, atI vs i = some v ∧ Rep K F v d := by
  unfold atI at h ⊢
  rw [r.length]
  cases e : ixN ds.length i with
  | none =>
    rw [e] at h
    cases h
  | some j =>
    rw [e] at h
    obtain ⟨v, h1, h2⟩ := r.get (i := j) (d := d) h
    exact ⟨v, h1, h2⟩
theorem je_ix {i : Int} (ha : JE X T M a d1 M1) (hb : JE X T M1 b (.int i) M2) (l1 : look M2 d1 = .tup ds ∨ look M2 d1 = .lst ds) (hi : atI ds i = some d) (hs : PlainIx b) : JE X T M (.Subscript a b pos) d M2 := by
  refine PE.imp (pe_ix (IxR.or ix_tup ix_list) ha hb hs) fun σ H Q ⟨F, Mx, S, k⟩ => ⟨F, Mx, S, fun v F1 H1 x1 S1 r1 => ⟨F1, Mx, S1, fun u F2 H2 x2 S2 r2 => ?_⟩⟩
  have rh := S2.mem.look (r1.mono x2)
  rcases l1 with l1 | l1
  · rw [l1] at rh
    obtain ⟨p1, xs, rfl, h1, rr⟩ := rh.tup
    obtain ⟨z, hz, rz⟩ := atI_rep rr hi
    exact .inl ⟨p1, xs, i, z, rfl, r2.int_inv, (ex_p S2.mem.ex h1).sq, hz, k _ F2 H2 (x1.trans x2) S2 rz⟩
  · rw [l1] at rh
    obtain ⟨p1, xs, rfl, h1, rr⟩ := rh.lst S2.mem.ex
    obtain ⟨z, hz, rz⟩ := atI_rep rr hi
    exact .inr ⟨p1, xs, i, z, rfl, r2.int_inv, SqL.of h1, hz, k _ F2 H2 (x1.trans x2) S2 rz⟩
theorem je_ixS {i n : Int} {ns : List Int} (ha : JE X T M a (.scr ns) M1) (hb : JE X T M1 b (.int i) M2) (hi : atI ns i = some n) (hs : PlainIx b) : JE X T M (.Subscript a b pos) (.int n) M2 := by
  refine PE.imp (pe_ix ix_list ha hb hs) fun σ H Q ⟨F, Mx, S, k⟩ => ⟨F, Mx, S, fun v F1 H1 x1 S1 r1 => ⟨F1, Mx, S1, fun u F2 H2 x2 S2 r2 => ?_⟩⟩
  obtain ⟨p1, rfl, h1⟩ := (r1.mono x2).scr_inv
  refine ⟨p1, ns.map V.int, i, .int n, rfl, r2.int_inv, ex_l S2.mem.ex h1, ?_, k _ F2 H2 (x1.trans x2) S2 (.int n)⟩
  unfold atI at hi ⊢
  rw [List.length_map]
  cases e : ixN ns.length i with
  | none =>
    rw [e] at hi
    cases hi
  | some j =>
    rw [e] at hi
    show (ns.map V.int)[j]? = some (.int n)
    rw [List.getElem?_map, show ns[j]? = some n from hi]
    rfl
/-- a slice's part -/
def tJO (K : PySem.W.Frag) (T : Tau) (M : Mem) (o : Option Int) : TO := fun σ H Q => ∃ F Mx, Sim K T (Mx ++ M) σ F H ∧ ∀ F' H', Ex F F' → Sim K T (Mx ++ M) σ F' H' → Q o H'
def JO (X : Cx) (T : Tau) (M : Mem) (e : Option Expr) (o : Option Int) : Prop := PO X e (tJO X.K T M o)
theorem _root_.L2.PO.imp {X : Cx} {e : Option Expr} {t t' : TO} (h : PO X e t) (k : ∀ σ H Q, t' σ H Q → t σ H Q) : PO X e t' := ⟨fun pins s σ H Q I q => h.run pins s σ H Q I (k σ H Q q)⟩
theorem jo_none : JO X T M none none := po_none.imp fun σ H Q ⟨F, Mx, S, k⟩ => k F H (Ex.refl _) S
theorem jo_some {i : Int} (h : JE X T M e (.int i) M) : JO X T M (some e) (some i) := PO.imp (po_some h) fun σ H Q ⟨F, Mx, S, k⟩ => ⟨F, Mx, S, fun v F1 H1 x1 S1 r1 => ⟨i, r1.int_inv, k F1 H1 x1 S1⟩⟩
def cutD (ds : List D) (lo hi : Option Int) : List D := (ds.drop (HT.sIx ds.length 0 lo)).take (HT.sIx ds.length ds.length hi - HT.sIx ds.length 0 lo)
theorem RepL.cut {K : PySem.W.Frag} {F : Hp} {vs : List V} {ds : List D} (r : RepL K F vs ds) (lo hi : Option Int) : RepL K F (cutV vs lo hi) (cutD ds lo hi) := by
  unfold cutV cutD
  rw [r.length]
  exact (r.drop _).take _
theorem je_sl {lo hi : Option Expr} {l h : Option Int} {p2 : Pos} (ha : JE X T M a d1 M1) (hl : JO X T M1 lo l) (hh : JO X T M1 hi h) (l1 : look M1 d1 = .lst ds) : JE X T M (.Subscript a (.Slice lo hi none p2) pos) (.lst (cutD ds l h)) M1 := by
  refine PE.imp (pe_slice sl_list ha hl hh) fun σ H Q ⟨F, Mx, S, k⟩ => ⟨F, Mx, S, fun v F1 H1 x1 S1 r1 => ⟨F1, Mx, S1, fun F2 H2 x2 S2 => ⟨F2, Mx, S2, fun F3 H3 x3 S3 => ?_⟩⟩⟩
  have rh := S3.mem.look (r1.mono (x2.trans x3))
  rw [l1] at rh
  obtain ⟨p1, xs, rfl, h1, rr⟩ := rh.lst S3.mem.ex
  refine ⟨p1, xs, rfl, SqL.of h1, fun q hq => ?_⟩
  have g := gr_new (o := .lst (cutV xs l h)) S3.mem.ex hq
  exact k _ _ _ ((x1.trans (x2.trans x3)).trans g.ff) (S3.gr g) (.lst upd_same ((rr.cut l h).mono g.ff))
theorem je_slT {lo hi : Option Expr} {l h : Option Int} {p2 : Pos} (ha : JE X T M a d1 M1) (hl : JO X T M1 lo l) (hh : JO X T M1 hi h) (l1 : look M1 d1 = .tup ds) : JE X T M (.Subscript a (.Slice lo hi none p2) pos) (.tup (cutD ds l h)) M1 := by
  refine PE.imp (pe_slice sl_tupP ha hl hh) fun σ H Q ⟨F, Mx, S, k⟩ => ⟨F, Mx, S, fun v F1 H1 x1 S1 r1 => ⟨F1, Mx, S1, fun F2 H2 x2 S2 => ⟨F2, Mx, S2, fun F3 H3 x3 S3 => ?_⟩⟩⟩
  have rh := S3.mem.look (r1.mono (x2.trans x3))
  rw [l1] at rh
  obtain ⟨p1, xs, rfl, h1, rr⟩ := rh.tup
  refine ⟨p1, xs, rfl, (ex_p S3.mem.ex h1).sq, fun hw => ?_, fun _ q o ho hq => ?_⟩
  · have e0 : cutD ds l h = ds := by
      unfold cutD
      rw [← rr.length]
      obtain ⟨w1, w2⟩ := hw
      rw [w1, w2, List.drop_zero, Nat.sub_zero, rr.length, List.take_length]
    rw [e0] at k
    exact k _ F3 H3 (x1.trans (x2.trans x3)) S3 (.tup h1 rr)
  · have g := gr_new (o := .frz o (.tup (cutV xs l h))) S3.mem.ex hq
    exact k _ _ _ ((x1.trans (x2.trans x3)).trans g.ff) (S3.gr g) (.tup (.inl ⟨o, upd_same, ho⟩) ((rr.cut l h).mono g.ff))
/-! ### tests -/
theorem jt_val {bb : Bool} (h : JE X T M e (.bl bb) M1) (he : ∀ whole, isTrue e X.env whole = (do let v ← whole; standAt e.pos; holding [v] (truthy v)) := by intro _; rfl) : JT X T M e bb M1 :=
  PT.imp (pt_val h he) fun σ H Q ⟨F, Mx, S, k⟩ => ⟨F, Mx, S, fun v F1 H1 x1 S1 r1 => ⟨bb, r1.bl_inv, k F1 H1 x1 S1⟩⟩
theorem jt_not {bb : Bool} (h : JT X T M e bb M1) : JT X T M (.UnaryOp .Not e pos) (!bb) M1 :=
  PT.imp (pt_not h) fun σ H Q ⟨F, Mx, S, k⟩ => ⟨F, Mx, S, fun F1 H1 x1 S1 => k F1 H1 x1 S1⟩
theorem je_not {bb : Bool} (h : JE X T M e (.bl bb) M1) : JE X T M (.UnaryOp .Not e pos) (.bl (!bb)) M1 :=
  PE.imp (pe_not h) fun σ H Q ⟨F, Mx, S, k⟩ => ⟨F, Mx, S, fun v F1 H1 x1 S1 r1 => ⟨bb, r1.bl_inv, k _ F1 H1 x1 S1 (.bl _)⟩⟩
theorem _root_.L2.PW.imp {X : Cx} {e : Expr} {t t' : TT} (h : PW X e t) (k : ∀ σ H Q, t' σ H Q → t σ H Q) : PW X e t' := ⟨fun wh pins s σ H Q I q => h.run wh pins s σ H Q I (k σ H Q q)⟩
theorem JW.jt {bb : Bool} (h : JW X T M e bb M1) : JT X T M e bb M1 := PW.pt h
theorem jw_and1 {bb : Bool} (h : JT X T M a bb M1) : JW X T M (.BoolOp .And [a] pos) bb M1 := pw_and1 h
theorem jw_or1 {bb : Bool} (h : JT X T M a bb M1) : JW X T M (.BoolOp .Or [a] pos) bb M1 := pw_or1 h
/-- a and b: a true, a false -/
theorem jw_andT {bb : Bool} (h : JT X T M a true M1) (h2 : JW X T M1 (.BoolOp .And (b :: rest) pos) bb M2) : JW X T M (.BoolOp .And (a :: b :: rest) pos) bb M2 :=
  PW.imp (pw_and h h2) fun σ H Q ⟨F, Mx, S, k⟩ => ⟨F, Mx, S, fun F1 H1 x1 S1 => by
    refine iteT ?_
    exact ⟨F1, Mx, S1, fun F2 H2 x2 S2 => k F2 H2 (x1.trans x2) S2⟩⟩
/-- whatever the second's reading is -/
def uW (X : Cx) (e : Expr) : TT := fun σ H Q => ∃ t, PW X e t ∧ t σ H Q
theorem pw_u (e : Expr) : PW X e (uW X e) := ⟨fun wh pins s σ H Q I ⟨t, h, q⟩ => h.run wh pins s σ H Q I q⟩
def uE (X : Cx) (e : Expr) : TE := fun σ H Q => ∃ t, PE X e t ∧ t σ H Q
theorem pe_u (e : Expr) : PE X e (uE X e) := ⟨fun pins s σ H Q I ⟨t, h, q⟩ => h.run pins s σ H Q I q⟩
def uT (X : Cx) (e : Expr) : TT := fun σ H Q => ∃ t, PT X e t ∧ t σ H Q
theorem pt_u (e : Expr) : PT X e (uT X e) := ⟨fun pins s σ H Q I ⟨t, h, q⟩ => h.run pins s σ H Q I q⟩
theorem jw_andF (h : JT X T M a false M1) : JW X T M (.BoolOp .And (a :: b :: rest) pos) false M1 :=
  PW.imp (pw_and h (pw_u _)) fun σ H Q ⟨F, Mx, S, k⟩ => ⟨F, Mx, S, fun F1 H1 x1 S1 => by
    refine iteF ?_
    exact k F1 H1 x1 S1⟩
theorem jw_orF {bb : Bool} (h : JT X T M a false M1) (h2 : JW X T M1 (.BoolOp .Or (b :: rest) pos) bb M2) : JW X T M (.BoolOp .Or (a :: b :: rest) pos) bb M2 :=
  PW.imp (pw_or h h2) fun σ H Q ⟨F, Mx, S, k⟩ => ⟨F, Mx, S, fun F1 H1 x1 S1 => by
    refine iteF ?_
    exact ⟨F1, Mx, S1, fun F2 H2 x2 S2 => k F2 H2 (x1.trans x2) S2⟩⟩
theorem jw_orT (h : JT X T M a true M1) : JW X T M (.BoolOp .Or (a :: b :: rest) pos) true M1 :=
  PW.imp (pw_or h (pw_u _)) fun σ H Q ⟨F, Mx, S, k⟩ => ⟨F, Mx, S, fun F1 H1 x1 S1 => by
    refine iteT ?_
    exact k F1 H1 x1 S1⟩
/-- a and b, the second only where the first is true; the memory stays -/
theorem jw_and {b1 b2 : Bool} (h : JT X T M a b1 M) (h2 : b1 = true → JW X T M (.BoolOp .And (b :: rest) pos) b2 M) : JW X T M (.BoolOp .And (a :: b :: rest) pos) (b1 && b2) M := by
  cases b1 with
  | true => exact jw_andT h (h2 rfl)
  | false => exact jw_andF h
theorem jw_or {b1 b2 : Bool} (h : JT X T M a b1 M) (h2 : b1 = false → JW X T M (.BoolOp .Or (b :: rest) pos) b2 M) : JW X T M (.BoolOp .Or (a :: b :: rest) pos) (b1 || b2) M := by
  cases b1 with
  | true => exact jw_orT h
  | false => exact jw_orF h (h2 rfl)
/-- .. as values -/
theorem jv_one {op} (h : JE X T M a d M1) : JE X T M (.BoolOp op [a] pos) d M1 := pe_one h
theorem jv_and {b1 b2 : Bool} (h : JE X T M a (.bl b1) M) (h2 : b1 = true → JE X T M (.BoolOp .And (b :: rest) pos) (.bl b2) M) : JE X T M (.BoolOp .And (a :: b :: rest) pos) (.bl (b1 && b2)) M :=
  PE.imp (pe_and h (pe_u _)) fun σ H Q ⟨F, Mx, S, k⟩ => ⟨F, Mx, S, fun v F1 H1 x1 S1 r1 => ⟨b1, r1.bl_inv, by
    cases b1 with
    | false =>
      rw [if_neg Bool.false_ne_true]
      exact k _ F1 H1 x1 S1 (.bl _)
    | true =>
      rw [if_pos rfl]
      exact ⟨_, h2 rfl, F1, Mx, S1, fun u F2 H2 x2 S2 r2 => k u F2 H2 (x1.trans x2) S2 r2⟩⟩⟩
theorem jv_or {b1 b2 : Bool} (h : JE X T M a (.bl b1) M) (h2 : b1 = false → JE X T M (.BoolOp .Or (b :: rest) pos) (.bl b2) M) : JE X T M (.BoolOp .Or (a :: b :: rest) pos) (.bl (b1 || b2)) M :=
  PE.imp (pe_or h (pe_u _)) fun σ H Q ⟨F, Mx, S, k⟩ => ⟨F, Mx, S, fun v F1 H1 x1 S1 r1 => ⟨b1, r1.bl_inv, by
    cases b1 with
    | true =>
      rw [if_pos rfl]
      exact k _ F1 H1 x1 S1 (.bl _)
    | false =>
      rw [if_neg Bool.false_ne_true]
      exact ⟨_, h2 rfl, F1, Mx, S1, fun u F2 H2 x2 S2 r2 => k u F2 H2 (x1.trans x2) S2 r2⟩⟩⟩
theorem je_if {bb : Bool} (h : JT X T M c bb M1) (h1 : bb = true → JE X T M1 a d M2) (h2 : bb = false → JE X T M1 b d M2) : JE X T M (.IfExp c a b pos) d M2 :=
  PE.imp (pe_ifExp h (pe_u a) (pe_u b)) fun σ H Q ⟨F, Mx, S, k⟩ => ⟨F, Mx, S, fun F1 H1 x1 S1 => by
    cases bb with
    | true =>
      rw [if_pos rfl]
      exact ⟨_, h1 rfl, F1, Mx, S1, fun u F2 H2 x2 S2 r2 => k u F2 H2 (x1.trans x2) S2 r2⟩
    | false =>
      rw [if_neg Bool.false_ne_true]
      exact ⟨_, h2 rfl, F1, Mx, S1, fun u F2 H2 x2 S2 r2 => k u F2 H2 (x1.trans x2) S2 r2⟩⟩
/-- is None -/
def D.isNon : D → Bool
  | .non => true
  | _ => false
theorem Rep.isNon {K : PySem.W.Frag} {F : Hp} {v : V} {d : D} (h : Rep K F v d) : decide (v = .non) = d.isNon := by
  cases h <;> rfl
theorem je_isN {j pos'} (h : JE X T M a d M1) : JE X T M (.Compare a [.Is] [.Constant .none j pos'] pos) (.bl d.isNon) M1 :=
  PE.imp (pe_cmp (pc_isN h) rfl) fun σ H Q ⟨F, Mx, S, k⟩ => ⟨F, Mx, S, fun v F1 H1 x1 S1 r1 => by
    dsimp only
    rw [r1.isNon]
    exact k _ F1 H1 x1 S1 (.bl _)⟩
theorem je_notN {j pos'} (h : JE X T M a d M1) : JE X T M (.Compare a [.IsNot] [.Constant .none j pos'] pos) (.bl (!d.isNon)) M1 :=
  PE.imp (pe_cmp (pc_notN h) rfl) fun σ H Q ⟨F, Mx, S, k⟩ => ⟨F, Mx, S, fun v F1 H1 x1 S1 r1 => by
    dsimp only
    rw [r1.isNon]
    exact k _ F1 H1 x1 S1 (.bl _)⟩
theorem jt_isN {j pos'} (h : JE X T M a d M1) : JT X T M (.Compare a [.Is] [.Constant .none j pos'] pos) d.isNon M1 :=
  PT.imp (pt_cmp (pc_isN h) rfl) fun σ H Q ⟨F, Mx, S, k⟩ => ⟨F, Mx, S, fun v F1 H1 x1 S1 r1 => ⟨_, rfl, by
    rw [r1.isNon]
    exact k F1 H1 x1 S1⟩⟩
theorem jt_notN {j pos'} (h : JE X T M a d M1) : JT X T M (.Compare a [.IsNot] [.Constant .none j pos'] pos) (!d.isNon) M1 :=
  PT.imp (pt_cmp (pc_notN h) rfl) fun σ H Q ⟨F, Mx, S, k⟩ => ⟨F, Mx, S, fun v F1 H1 x1 S1 r1 => ⟨_, rfl, by
    rw [r1.isNon]
    exact k F1 H1 x1 S1⟩⟩
end

/-! ### built-ins by data -/
inductive RepHL (K : PySem.W.Frag) (F H : Hp) : List V → List D → Prop
  | nil : RepHL K F H [] []
  | cons {v : V} {vs : List V} {d : D} {ds : List D} : RepH K F H v d → RepHL K F H vs ds → RepHL K F H (v :: vs) (d :: ds)
theorem MemOk.looks {K : PySem.W.Frag} {F H : Hp} {M Mx : Mem} (m : MemOk K F H (Mx ++ M)) : ∀ {vs : List V} {ds : List D}, RepL K F vs ds → RepHL K F H vs (ds.map (J.look M))
  | _, _, .nil => .nil
  | _, _, .cons h r => .cons (m.look h) (m.looks r)
def CallJ (X : Cx) (f : Value) (g : List D → D → Prop) : Prop := ∃ r : List V → Hp → VK → Prop, CallR X f r ∧
  ∀ (ds : List D) (d : D), g ds d → ∀ (M : Mem) (F H : Hp) (xs : List V) (Q : VK), MemOk X.K F H M → RepHL X.K F H xs ds → (∀ v F' H', Gr F H F' H' → Rep X.K F' v d → Q v H') → r xs H Q
section
variable {X : Cx} {W : WX} {T : Tau} {M M1 M2 M3 : Mem} {a b c e : Expr} {es rest : List Expr} {d d1 d2 d3 e1 e2 : D} {ds ds1 ds2 : List D} {pos p : Pos} {g : List D → D → Prop} {x : Str} {bid bty : String}
theorem je_callB (hc : CallJ X (.builtin bid) g) (hg : Gl X x) (hm : X.mg x = none) (hv : bootBuiltins x = some (.builtin bid)) (ha : JA X T M (e :: es) ds M1) (hd : g (ds.map (look M1)) d) (hn : x ≠ "__name__" := by decide) (hdb : (x == ("__debug__" : Str)) = false := by decide)
    (he : starEach (e :: es) X.env = (false, eval e X.env) :: starEach es X.env := by rfl) (hpl : (backTo pos (starEach es X.env)).any (·.1) = false := by rfl) : JE X T M (.Call (.Name x p) (e :: es) [] pos) d M1 := by
  obtain ⟨r, hr, k⟩ := hc
  exact PE.imp (pe_callB hr hg hm hv ha hn hdb he hpl) fun σ H Q ⟨F, Mx, S, q⟩ => ⟨F, Mx, S, fun vs F1 H1 x1 S1 r1 => k _ d hd _ F1 H1 vs Q S1.mem (S1.mem.looks r1) fun v F2 H2 g2 r2 => q v F2 H2 (x1.trans g2.ff) (S1.gr g2) r2⟩
theorem je_callTy (hc : CallJ X (.type bty) g) (hg : Gl X x) (hm : X.mg x = none) (hv : bootBuiltins x = some (.type bty)) (ha : JA X T M (e :: es) ds M1) (hd : g (ds.map (look M1)) d) (hn : x ≠ "__name__" := by decide) (hdb : (x == ("__debug__" : Str)) = false := by decide)
    (he : starEach (e :: es) X.env = (false, eval e X.env) :: starEach es X.env := by rfl) (hpl : (backTo pos (starEach es X.env)).any (·.1) = false := by rfl) : JE X T M (.Call (.Name x p) (e :: es) [] pos) d M1 := by
  obtain ⟨r, hr, k⟩ := hc
  exact PE.imp (pe_callTy hr hg hm hv ha hn hdb he hpl) fun σ H Q ⟨F, Mx, S, q⟩ => ⟨F, Mx, S, fun vs F1 H1 x1 S1 r1 => k _ d hd _ F1 H1 vs Q S1.mem (S1.mem.looks r1) fun v F2 H2 g2 r2 => q v F2 H2 (x1.trans g2.ff) (S1.gr g2) r2⟩
/-- len -/
def gLen (ds : List D) (d : D) : Prop := ∃ x xs, ds = [x] ∧ (x = .tup xs ∨ x = .lst xs) ∧ d = .int xs.length
theorem cj_len : CallJ X (.builtin "len") gLen := ⟨_, call_len_seq, fun ds d hg M F H xs Q m r k => by
  obtain ⟨x, ys, rfl, hx, rfl⟩ := hg
  cases r with
  | cons rx rn =>
    cases rn
    rcases hx with rfl | rfl
    · obtain ⟨a, vs, rfl, h1, rr⟩ := rx.tup
      exact ⟨a, vs, rfl, .inr (ex_p m.ex h1).sq, by rw [rr.length]; exact k _ F H (Gr.refl m.ex) (.int _)⟩
    · obtain ⟨a, vs, rfl, h1, rr⟩ := rx.lst m.ex
      exact ⟨a, vs, rfl, .inl (SqL.of h1), by rw [rr.length]; exact k _ F H (Gr.refl m.ex) (.int _)⟩⟩
def gLenS (ds : List D) (d : D) : Prop := ∃ ns, ds = [.scr ns] ∧ d = .int ns.length
theorem cj_lenS : CallJ X (.builtin "len") gLenS := ⟨_, call_len_seq, fun ds d hg M F H xs Q m r k => by
  obtain ⟨ns, rfl, rfl⟩ := hg
  cases r with
  | cons rx rn =>
    cases rn
    obtain ⟨a, rfl, h1⟩ := rx.scr
    exact ⟨a, _, rfl, .inl (ex_l m.ex h1), by rw [List.length_map]; exact k _ F H (Gr.refl m.ex) (.int _)⟩⟩
/-- tuple(x), list(x) -/
def gTuple (ds : List D) (d : D) : Prop := ∃ x xs, ds = [x] ∧ (x = .tup xs ∨ x = .lst xs) ∧ d = .tup xs
theorem cj_tuple : CallJ X (.type "tuple") gTuple := ⟨_, call_tupleP, fun ds d hg M F H xs Q m r k => by
  obtain ⟨x, ys, rfl, hx, rfl⟩ := hg
  cases r with
  | cons rx rn =>
    cases rn
    rcases hx with rfl | rfl
    · obtain ⟨a, vs, rfl, h1, rr⟩ := rx.tup
      exact ⟨a, vs, rfl, (.inr ⟨(ex_p m.ex h1).sq, k _ F H (Gr.refl m.ex) (.tup h1 rr)⟩)⟩
    · obtain ⟨a, vs, rfl, h1, rr⟩ := rx.lst m.ex
      refine ⟨a, vs, rfl, .inl ⟨SqL.of h1, fun l o ho hl => ?_⟩⟩
      have g := gr_new (o := .frz o (.tup vs)) m.ex hl
      exact k _ _ _ g (.tup (.inl ⟨o, upd_same, ho⟩) (rr.mono g.ff))⟩
def gList (ds : List D) (d : D) : Prop := ∃ x xs, ds = [x] ∧ (x = .tup xs ∨ x = .lst xs) ∧ d = .lst xs
theorem cj_list : CallJ X (.type "list") gList := ⟨_, call_list_of, fun ds d hg M F H xs Q m r k => by
  obtain ⟨x, ys, rfl, hx, rfl⟩ := hg
  cases r with
  | cons rx rn =>
    cases rn
    rcases hx with rfl | rfl
    · obtain ⟨a, vs, rfl, h1, rr⟩ := rx.tup
      refine ⟨a, vs, rfl, .inr (ex_p m.ex h1).sq, fun l hl => ?_⟩
      have g := gr_new (o := .lst vs) m.ex hl
      exact k _ _ _ g (.lst upd_same (rr.mono g.ff))
    · obtain ⟨a, vs, rfl, h1, rr⟩ := rx.lst m.ex
      refine ⟨a, vs, rfl, .inl (SqL.of h1), fun l hl => ?_⟩
      have g := gr_new (o := .lst vs) m.ex hl
      exact k _ _ _ g (.lst upd_same (rr.mono g.ff))⟩
/-- int(x), min, max of two -/
def gInt (ds : List D) (d : D) : Prop := (∃ i, ds = [.int i] ∧ d = .int i) ∨ ∃ b, ds = [.bl b] ∧ d = .int (if b then 1 else 0)
theorem cj_int : CallJ X (.type "int") gInt := ⟨_, call_int1, fun ds d hg M F H xs Q m r k => by
  rcases hg with ⟨i, rfl, rfl⟩ | ⟨b, rfl, rfl⟩
  · cases r with
    | cons rx rn =>
      cases rn
      exact .inl ⟨i, by rw [rx.int], k _ F H (Gr.refl m.ex) (.int _)⟩
  · cases r with
    | cons rx rn =>
      cases rn
      exact .inr ⟨b, by rw [rx.bl], k _ F H (Gr.refl m.ex) (.int _)⟩⟩
def gMin2 (ds : List D) (d : D) : Prop := ∃ i j, ds = [.int i, .int j] ∧ d = .int (min i j)
theorem cj_min2 (hc : X.calm = true) : CallJ X (.builtin "min") gMin2 := ⟨_, call_min2 hc, fun ds d hg M F H xs Q m r k => by
  obtain ⟨i, j, rfl, rfl⟩ := hg
  cases r with
  | cons rx rn =>
    cases rn with
    | cons ry rn =>
      cases rn
      refine ⟨i, j, by rw [rx.int, ry.int], ?_⟩
      have e : (if j < i then j else i) = min i j := by split <;> omega
      rw [e]
      exact k _ F H (Gr.refl m.ex) (.int _)⟩
def gMax2 (ds : List D) (d : D) : Prop := ∃ i j, ds = [.int i, .int j] ∧ d = .int (max i j)
theorem cj_max2 (hc : X.calm = true) : CallJ X (.builtin "max") gMax2 := ⟨_, call_max2 hc, fun ds d hg M F H xs Q m r k => by
  obtain ⟨i, j, rfl, rfl⟩ := hg
  cases r with
  | cons rx rn =>
    cases rn with
    | cons ry rn =>
      cases rn
      refine ⟨i, j, by rw [rx.int, ry.int], ?_⟩
      have e : (if j > i then j else i) = max i j := by split <;> omega
      rw [e]
      exact k _ F H (Gr.refl m.ex) (.int _)⟩
/-- all, any of a list of bools; sum of a list of ints -/
def gAll (ds : List D) (d : D) : Prop := ∃ bs : List Bool, ds = [.lst (bs.map D.bl)] ∧ d = .bl (bs.all id)
theorem cj_all (hc : X.calm = true) : CallJ X (.builtin "all") gAll := ⟨_, cr_all hc, fun ds d hg M F H xs Q m r k => by
  obtain ⟨bs, rfl, rfl⟩ := hg
  cases r with
  | cons rx rn =>
    cases rn
    obtain ⟨a, vs, rfl, h1, rr⟩ := rx.lst m.ex
    exact ⟨a, bs, rfl, SqL.of (by rw [h1, rr.bls]), k _ F H (Gr.refl m.ex) (.bl _)⟩⟩
def gAny (ds : List D) (d : D) : Prop := ∃ bs : List Bool, ds = [.lst (bs.map D.bl)] ∧ d = .bl (bs.any id)
theorem cj_any (hc : X.calm = true) : CallJ X (.builtin "any") gAny := ⟨_, cr_any hc, fun ds d hg M F H xs Q m r k => by
  obtain ⟨bs, rfl, rfl⟩ := hg
  cases r with
  | cons rx rn =>
    cases rn
    obtain ⟨a, vs, rfl, h1, rr⟩ := rx.lst m.ex
    exact ⟨a, bs, rfl, SqL.of (by rw [h1, rr.bls]), k _ F H (Gr.refl m.ex) (.bl _)⟩⟩
def gSum (ds : List D) (d : D) : Prop := ∃ ns : List Int, ds = [.lst (ns.map D.int)] ∧ d = .int ns.sum
theorem cj_sum (hc : X.calm = true) : CallJ X (.builtin "sum") gSum := ⟨_, cr_sum hc, fun ds d hg M F H xs Q m r k => by
  obtain ⟨ns, rfl, rfl⟩ := hg
  cases r with
  | cons rx rn =>
    cases rn
    obtain ⟨a, vs, rfl, h1, rr⟩ := rx.lst m.ex
    exact ⟨a, ns, rfl, SqL.of (by rw [h1, rr.ints]), k _ F H (Gr.refl m.ex) (.int _)⟩⟩
/-- isinstance(x, T), T a built-in class -/
def D.ty : D → Option String
  | .non => some "NoneType"
  | .bl _ => some "bool"
  | .int _ => some "int"
  | .str _ => some "str"
  | .tup _ => some "tuple"
  | .lst _ => some "list"
  | .scr _ => none
  | .cell _ => none
theorem tyx_t {K : PySem.W.Frag} {H : Hp} {a : Addr} {vs : List V} (h : SqT K H a vs) : TyX K H (.ref a) (.type "tuple") := by
  rcases h with (h | ⟨o, h⟩) | ⟨o, its, n, h, hc, _⟩
  · exact .base (.tup h)
  · exact .fTuple h
  · exact .kTuple h hc
theorem RepH.tyx {K : PySem.W.Frag} {F H : Hp} {v : V} {d : D} {t : String} (e : Ex F H) (h : RepH K F H v d) (ht : d.ty = some t) : TyX K H v (.type t) := by
  cases d with
  | non => cases ht; rw [h.non]; exact .base .non
  | bl b => cases ht; rw [h.bl]; exact .base (.bl b)
  | int i => cases ht; rw [h.int]; exact .base (.int i)
  | str i => cases ht; rw [h.str]; exact .base (.str i)
  | tup ds =>
    cases ht
    obtain ⟨a, vs, rfl, h1, _⟩ := h.tup
    exact tyx_t (ex_p e h1).sq
  | lst ds =>
    cases ht
    obtain ⟨a, vs, rfl, h1, _⟩ := h.lst e
    exact .base (.lst h1)
  | _ => cases ht
theorem je_isi {t : String} {n : String} {z : Str} {bb : Bool} {p2 : Pos} (hg : Gl X "isinstance") (hm : X.mg "isinstance" = none) (ha : JE X T M e d1 M1) (hg2 : Gl X z) (hm2 : X.mg z = none) (hv : bootBuiltins z = some (.type n)) (l1 : (look M1 d1).ty = some t) (hk : kitB t n = some bb)
    (hn : z ≠ "__name__" := by decide) (hdb : (z == ("__debug__" : Str)) = false := by decide) (he : starEach [e, .Name z p2] X.env = (false, eval e X.env) :: starEach [.Name z p2] X.env := by rfl) (he2 : starEach [.Name z p2] X.env = (false, eval (.Name z p2) X.env) :: starEach [] X.env := by rfl)
    (hpl : (backTo pos (starEach [.Name z p2] X.env)).any (·.1) = false := by rfl) : JE X T M (.Call (.Name "isinstance" p) [e, .Name z p2] [] pos) (.bl bb) M1 := by
  refine PE.imp (pe_callB call_isi hg hm (by decide +kernel) (pa_cons ha (pa_cons (pe_bltn (v := .ty n) hg2 hm2 hv rfl hn hdb) pa_nil he2) he) (by decide) (by decide) he hpl) fun σ H Q ⟨F, Mx, S, q⟩ => ⟨F, Mx, S, fun v F1 H1 x1 S1 r1 => ?_⟩
  exact ⟨v, .ty n, .type t, .type n, bb, rfl, .ty n, (S1.mem.look r1).tyx S1.mem.ex l1, kit_ty hk, q _ F1 H1 x1 S1 (.bl _)⟩
end
end J

set_option Elab.async false
set_option linter.all false
set_option maxRecDepth 100000
set_option maxHeartbeats 2000000
namespace J
open PySem PySem.Spec PyProof.Rows L2 Evl

/-- what is wanted behind statements -/
structure Po where
  nx : Tau → Mem → Prop
  rt : D → Mem → Prop
  bk : Tau → Mem → Prop := fun _ _ => False
  ct : Tau → Mem → Prop := fun _ _ => False
  ex : Exc → Mem → Prop := fun _ _ => False
/-- the wants, over the heap -/
structure Want (K : PySem.W.Frag) (W : WX) (P : Po) (D : Ends) (F : Hp) (Mx : Mem) : Prop where
  nx : ∀ T' M' σ' F' H', Ex F F' → Sim K T' (Mx ++ M') σ' F' H' → P.nx T' M' → D.nx σ' H'
  rt : ∀ d M' v F' H', Ex F F' → MemOk K F' H' (Mx ++ M') → Rep K F' v d → P.rt d M' → D.rt v H'
  bk : ∀ T' M' σ' F' H', Ex F F' → Sim K T' (Mx ++ M') σ' F' H' → P.bk T' M' → D.bk σ' H'
  ct : ∀ T' M' σ' F' H', Ex F F' → Sim K T' (Mx ++ M') σ' F' H' → P.ct T' M' → D.ct σ' H'
  ex : ∀ x M' σ' cls dd F' H', Ex F F' → MemOk K F' H' (Mx ++ M') → ExcIs K H' cls dd x → P.ex x M' → W cls dd σ' H'
theorem Want.mono {K : PySem.W.Frag} {W : WX} {P : Po} {D : Ends} {F F' : Hp} {Mx : Mem} (w : Want K W P D F Mx) (e : Ex F F') : Want K W P D F' Mx :=
  ⟨fun T M σ F2 H x => w.nx T M σ F2 H (e.trans x), fun d M v F2 H x => w.rt d M v F2 H (e.trans x), fun T M σ F2 H x => w.bk T M σ F2 H (e.trans x), fun T M σ F2 H x => w.ct T M σ F2 H (e.trans x), fun y M σ c d F2 H x => w.ex y M σ c d F2 H (e.trans x)⟩
def tS (K : PySem.W.Frag) (W : WX) (T : Tau) (M : Mem) (P : Po) : TS := fun D σ H => ∃ F Mx, Sim K T (Mx ++ M) σ F H ∧ Want K W P D F Mx
def JS (X : Cx) (W : WX) (T : Tau) (M : Mem) (st : Stmt) (P : Po) : Prop := PS X st (tS X.K W T M P)
def JSs (X : Cx) (W : WX) (T : Tau) (M : Mem) (st : List Stmt) (P : Po) : Prop := PSs X st (tS X.K W T M P)
theorem _root_.L2.PS.imp {X : Cx} {e : Stmt} {t t' : TS} (h : PS X e t) (k : ∀ D σ H, t' D σ H → t D σ H) : PS X e t' := ⟨fun pins s σ H D I q => h.run pins s σ H D I (k D σ H q)⟩
theorem _root_.L2.PSs.imp {X : Cx} {e : List Stmt} {t t' : TS} (h : PSs X e t) (k : ∀ D σ H, t' D σ H → t D σ H) : PSs X e t' := ⟨fun pins s σ H D I q => h.run pins s σ H D I (k D σ H q)⟩
def uSs (X : Cx) (st : List Stmt) : TS := fun D σ H => ∃ t, PSs X st t ∧ t D σ H
theorem pss_u {X : Cx} (st : List Stmt) : PSs X st (uSs X st) := ⟨fun pins s σ H D I ⟨t, h, q⟩ => h.run pins s σ H D I q⟩
def uG (X : Cx) (tg : Expr) : TG := fun v σ H Q => ∃ t, PG X tg t ∧ t v σ H Q
theorem pg_u {X : Cx} (tg : Expr) : PG X tg (uG X tg) := ⟨fun pins s σ H v u Q I r ⟨t, h, q⟩ => h.run pins s σ H v u Q I r q⟩
/-- slots forgotten -/
def wipeT (T : Tau) : List Nat → Tau
  | [] => T
  | i :: r => wipeT (T.set i none) r
section
variable {K : PySem.W.Frag} {T T' : Tau} {M : Mem} {σ : L2.St} {F F' H H' : Hp}
/-- fewer slots are known -/
def Le (T' T : Tau) : Prop := ∀ (i : Nat) (d : D), T'[i]? = some (some d) → T[i]? = some (some d)
theorem Le.refl (T : Tau) : Le T T := fun _ _ h => h
theorem Sim.le (s : Sim K T M σ F H) (h : Le T' T) : Sim K T' M σ F H := ⟨s.mem, fun i d e => s.slot i d (h i d e)⟩
theorem Sim.set {i : Nat} {v : V} {d : D} (s : Sim K T M σ F H) (hl : i < σ.length) (r : Rep K F v d) : Sim K (T.set i (some d)) M (σ.set i (some v)) F H := ⟨s.mem, fun j e h => by
  by_cases q : j = i
  · subst q
    rw [List.getElem?_set] at h
    rw [if_pos rfl] at h
    split at h
    · have z : d = e := by simpa using h
      subst z
      exact ⟨v, by rw [List.getElem?_set_self hl], r⟩
    · cases h
  · rw [List.getElem?_set_ne (Ne.symm q)] at h ⊢
    exact s.slot j e h⟩
theorem wipeT_get : ∀ (vs : List Nat) (T : Tau) (i : Nat) (d : D), (wipeT T vs)[i]? = some (some d) → T[i]? = some (some d) ∧ i ∉ vs
  | [], T, i, d, h => ⟨h, by simp⟩
  | j :: vs, T, i, d, h => by
    obtain ⟨h1, h2⟩ := wipeT_get vs (T.set j none) i d h
    by_cases q : j = i
    · subst q
      rw [List.getElem?_set] at h1
      rw [if_pos rfl] at h1
      split at h1 <;> cases h1
    · rw [List.getElem?_set_ne q] at h1
      exact ⟨h1, by simp [Ne.symm q, h2]⟩
theorem wipe_at : ∀ (vs : List Nat) (σ : L2.St) (k : Nat), (wipe σ vs)[k]? = if k ∈ vs then (σ[k]?).map (fun _ => none) else σ[k]?
  | [], σ, k => by simp [wipe]
  | j :: vs, σ, k => by
    show ((wipe σ vs).set j none)[k]? = _
    rw [List.getElem?_set]
    by_cases q : j = k
    · subst q
      rw [if_pos rfl, if_pos List.mem_cons_self, wipe_length]
      split
      · rename_i h
        rw [List.getElem?_eq_getElem h]
        rfl
      · rename_i h
        rw [List.getElem?_eq_none (by omega)]
        rfl
    · rw [if_neg q, wipe_at vs σ k]
      have e : (k ∈ j :: vs) ↔ k ∈ vs := by simp [Ne.symm q]
      by_cases h : k ∈ vs
      · rw [if_pos h, if_pos (e.mpr h)]
      · rw [if_neg h, if_neg (fun z => h (e.mp z))]
theorem wipe_get (vs : List Nat) (σ : L2.St) (i : Nat) (h : i ∉ vs) : (wipe σ vs)[i]? = σ[i]? := by rw [wipe_at, if_neg h]
theorem Sim.wiped (s : Sim K T M σ F H) (vs : List Nat) : Sim K (wipeT T vs) M (wipe σ vs) F H := ⟨s.mem, fun i d h => by
  obtain ⟨h1, h2⟩ := wipeT_get vs T i d h
  rw [wipe_get vs σ i h2]
  exact s.slot i d h1⟩
end

/-! ### targets -/

/-- v stands for d; a tuple of any kind -/
def RepW (K : PySem.W.Frag) (F : Hp) (v : V) (d : D) : Prop := Rep K F v d ∨ ∃ a xs ds, v = .ref a ∧ d = .tup ds ∧ SqT K F a xs ∧ RepL K F xs ds
theorem RepW.tup {K : PySem.W.Frag} {F : Hp} {v : V} {ds : List D} (h : RepW K F v (.tup ds)) : ∃ a xs, v = .ref a ∧ SqT K F a xs ∧ RepL K F xs ds := by
  rcases h with h | ⟨a, xs, es, rfl, e, h1, h2⟩
  · obtain ⟨a, xs, q, h1, h2⟩ := h.tup_inv
    exact ⟨a, xs, q, h1.sq, h2⟩
  · cases e
    exact ⟨a, xs, rfl, h1, h2⟩
/-- .. as the iterator has it -/
def RepB (K : PySem.W.Frag) (w : Bool) (F : Hp) (v : V) (d : D) : Prop := match w with
  | true => RepW K F v d
  | false => Rep K F v d
theorem RepB.w {K : PySem.W.Frag} {w : Bool} {F : Hp} {v : V} {d : D} (h : RepB K w F v d) : RepW K F v d := by
  cases w with
  | true => exact h
  | false => exact .inl h
def tG (K : PySem.W.Frag) (w : Bool) (T : Tau) (d : D) (T' : Tau) (ts : List Nat) : TG := fun v σ H Q => ∃ F M, Sim K T M σ F H ∧ RepB K w F v d ∧ ∀ σ', Sim K T' M σ' F H → (∀ vs, (∀ i ∈ ts, i ∈ vs) → wipe σ' vs = wipe σ vs) → Q σ' H
def JG (X : Cx) (w : Bool) (T : Tau) (tg : Expr) (d : D) (T' : Tau) (ts : List Nat) : Prop := PG X tg (tG X.K w T d T' ts)
def tGs (K : PySem.W.Frag) (T : Tau) (ds : List D) (T' : Tau) (ts : List Nat) : TGs := fun vl σ H Q => ∃ F M, Sim K T M σ F H ∧ RepL K F vl ds ∧ ∀ σ', Sim K T' M σ' F H → (∀ vs, (∀ i ∈ ts, i ∈ vs) → wipe σ' vs = wipe σ vs) → Q σ' H
def JGs (X : Cx) (T : Tau) (tg : List Expr) (ds : List D) (T' : Tau) (ts : List Nat) : Prop := PGs X tg (tGs X.K T ds T' ts)
theorem wipe_set_comm (vs : List Nat) (σ : L2.St) (i : Nat) (v : Option V) (h : i ∈ vs) : wipe (σ.set i v) vs = wipe σ vs := by
  refine List.ext_getElem? fun k => ?_
  rw [wipe_at, wipe_at]
  by_cases q : k ∈ vs
  · rw [if_pos q, if_pos q, List.getElem?_set]
    by_cases z : i = k
    · subst z
      rw [if_pos rfl]
      split
      · rename_i hl
        rw [List.getElem?_eq_getElem hl]
        rfl
      · rename_i hl
        rw [List.getElem?_eq_none (by omega)]
    · rw [if_neg z]
  · rw [if_neg q, if_neg q]
    have z : i ≠ k := fun e => q (e ▸ h)
    rw [List.getElem?_set_ne z]
section
variable {X : Cx} {W : WX} {T T1 T2 : Tau} {M M1 M2 M3 : Mem} {a b c e tg iter : Expr} {es : List Expr} {d d1 d2 : D} {ds : List D} {pos p : Pos} {P : Po} {st : Stmt} {rest body : List Stmt} {ts us : List Nat}
theorem _root_.L2.PG.imp {t t' : TG} (h : PG X tg t) (k : ∀ v σ H Q, t' v σ H Q → t v σ H Q) : PG X tg t' := ⟨fun pins s σ H v u Q I r q => h.run pins s σ H v u Q I r (k v σ H Q q)⟩
theorem _root_.L2.PGs.imp {t t' : TGs} (h : PGs X es t) (k : ∀ v σ H Q, t' v σ H Q → t v σ H Q) : PGs X es t' := ⟨fun pins s σ H v u Q I r q => h.run pins s σ H v u Q I r (k v σ H Q q)⟩
theorem jg_name {i : Nat} {x : Str} (hN : X.N.Nodup) (hi : X.N[i]? = some x) (hx : Loc X.env.scope x) (hf : X.fn x = true ∨ X.env.scope.names.lookup x = some .local := by first | exact .inl rfl | exact .inr rfl | assumption) : JG X false T (.Name x pos) d (T.set i (some d)) [i] := by
  refine ⟨fun pins s σ H v u Q I r ⟨F, M, S, rv, k⟩ => ?_⟩
  have hl : i < σ.length := by
    rw [I.len]
    exact (List.getElem?_eq_some_iff.mp hi).1
  exact (pg_name hN hi hx hf).run pins s σ H v u Q I r (k _ (S.set hl rv) fun vs h => wipe_set_comm vs σ i _ (h i (by simp)))
theorem jgs_nil : JGs X T [] [] T [] := pgs_nil.imp fun v σ H Q ⟨F, M, S, r, k⟩ => by
  cases r
  exact ⟨rfl, k σ S fun _ _ => rfl⟩
theorem jgs_cons (h1 : JG X false T e d T1 ts) (h2 : JGs X T1 es ds T2 us) (hs : (assignEach (e :: es) X.env).map (·.2) = assign e X.env :: (assignEach es X.env).map (·.2) := by rfl) : JGs X T (e :: es) (d :: ds) T2 (ts ++ us) :=
  PGs.imp (pgs_cons h1 h2 hs) fun v σ H Q ⟨F, M, S, r, k⟩ => by
    cases r with
    | cons rv rn => exact ⟨_, _, rfl, F, M, S, rv, fun σ1 S1 w1 => ⟨F, M, S1, rn, fun σ2 S2 w2 => k σ2 S2 fun vs h => (w2 vs fun i hi => h i (List.mem_append_right _ hi)).trans (w1 vs fun i hi => h i (List.mem_append_left _ hi))⟩⟩
theorem jg_tup {k n : Nat} {w : Bool} (hc : X.calm = true) (h : JGs X T es ds T2 ts) (hl : ds.length = n) (hn : (assignEach es X.env).length = n := by rfl) (hst : (assignEach es X.env).findIdx? (·.1) = none := by rfl) : JG X w T (.Tuple es k pos) (.tup ds) T2 ts :=
  PG.imp (pg_tup hc h hn hst) fun v σ H Q ⟨F, M, S, r, q⟩ => by
    obtain ⟨a, xs, rfl, h1, rr⟩ := r.w.tup
    exact ⟨a, xs, rfl, ex_t S.mem.ex h1, by rw [rr.length]; exact hl, F, M, S, rr, q⟩

/-! ### statements -/
theorem jss_nil (h : P.nx T M) : JSs X W T M [] P := pss_nil.imp fun D σ H ⟨F, Mx, S, w⟩ => w.nx T M σ F H (Ex.refl _) S h
theorem jss_cons (h : JS X W T M st { P with nx := fun T1 M1 => JSs X W T1 M1 rest P }) : JSs X W T M (st :: rest) P := by
  refine ⟨fun pins s σ H D I ⟨F, Mx, S, w⟩ => ?_⟩
  refine wpAny_execs_cons (thn (h.run pins s σ H { D with nx := fun σ' H' => ∃ T1 M1 F1, Ex F F1 ∧ Sim X.K T1 (Mx ++ M1) σ' F1 H' ∧ JSs X W T1 M1 rest P } I ⟨F, Mx, S, fun T1 M1 σ1 F1 H1 x1 S1 q => ⟨T1, M1, F1, x1, S1, q⟩, w.rt, w.bk, w.ct, w.ex⟩) fun f s1 q => ?_)
  cases f with
  | next =>
    obtain ⟨σ', H', I', T1, M1, F1, x1, S1, q⟩ := q
    exact q.run pins s1 σ' H' D I' ⟨F1, Mx, S1, w.mono x1⟩
  | ret v => exact q
  | brk => exact q
  | cont => exact q
theorem jss_one (h : JS X W T M st P) : JSs X W T M [st] P := by
  refine ⟨fun pins s σ H D I ⟨F, Mx, S, w⟩ => ?_⟩
  refine wpAny_execs_cons (thn (h.run pins s σ H D I ⟨F, Mx, S, w⟩) fun f s1 q => ?_)
  cases f with
  | next =>
    obtain ⟨σ', H', I', q⟩ := q
    exact wpAny_execs_nil ⟨σ', H', I', q⟩
  | ret v => exact q
  | brk => exact q
  | cont => exact q
/-- the wants may be others -/
structure PoLe (P P' : Po) : Prop where
  nx : ∀ T M, P.nx T M → P'.nx T M
  rt : ∀ d M, P.rt d M → P'.rt d M
  bk : ∀ T M, P.bk T M → P'.bk T M
  ct : ∀ T M, P.ct T M → P'.ct T M
  ex : ∀ x M, P.ex x M → P'.ex x M
theorem JSs.imp {P' : Po} (h : JSs X W T M rest P) (l : PoLe P P') : JSs X W T M rest P' := PSs.imp h fun D σ H ⟨F, Mx, S, w⟩ => ⟨F, Mx, S, fun T1 M1 σ1 F1 H1 x1 S1 q => w.nx T1 M1 σ1 F1 H1 x1 S1 (l.nx _ _ q), fun d1 M1 v F1 H1 x1 S1 r q => w.rt d1 M1 v F1 H1 x1 S1 r (l.rt _ _ q),
  fun T1 M1 σ1 F1 H1 x1 S1 q => w.bk T1 M1 σ1 F1 H1 x1 S1 (l.bk _ _ q), fun T1 M1 σ1 F1 H1 x1 S1 q => w.ct T1 M1 σ1 F1 H1 x1 S1 (l.ct _ _ q), fun y M1 σ1 cl dd F1 H1 x1 S1 r q => w.ex y M1 σ1 cl dd F1 H1 x1 S1 r (l.ex _ _ q)⟩
/-- slots may be forgotten -/
theorem JSs.weak (h : JSs X W T1 M rest P) (l : Le T1 T) : JSs X W T M rest P := PSs.imp h fun D σ H ⟨F, Mx, S, w⟩ => ⟨F, Mx, S.le l, w⟩
theorem js_pass (h : P.nx T M) : JS X W T M (.Pass pos) P := ps_pass.imp fun D σ H ⟨F, Mx, S, w⟩ => w.nx T M σ F H (Ex.refl _) S h
theorem js_expr (he : JE X T M e d M1) (h : P.nx T M1) (hs : swapsWith e none pos.line X.env = pure false := by rfl) : JS X W T M (.Expr e pos) P :=
  PS.imp (ps_expr he hs) fun D σ H ⟨F, Mx, S, w⟩ => ⟨F, Mx, S, fun v F1 H1 x1 S1 r1 => w.nx T M1 σ F1 H1 x1 S1 h⟩
/-- what may raise: its ends -/
def Res.to (r : Res) (k : D → Prop) (kx : Exc → Prop) : Prop := match r with
  | .ok d => k d
  | .exc x => kx x
theorem js_exprR {r : Res} (he : JR X W T M e r M1) (h : r.to (fun _ => P.nx T M1) (fun x => P.ex x M1)) (hs : swapsWith e none pos.line X.env = pure false := by rfl) : JS X W T M (.Expr e pos) P :=
  PS.imp (ps_expr he hs) fun D σ H ⟨F, Mx, S, w⟩ => ⟨F, Mx, S, by
    cases r with
    | ok d => exact fun v F1 H1 x1 S1 r1 => w.nx T M1 σ F1 H1 x1 S1 h
    | exc x => exact fun cls dd F1 H1 x1 S1 r1 => w.ex x M1 σ cls dd F1 H1 x1 S1.mem r1 h⟩
theorem js_ret (he : JE X T M e d M1) (h : P.rt d M1) : JS X W T M (.Return (some e) pos) P :=
  PS.imp (ps_ret he) fun D σ H ⟨F, Mx, S, w⟩ => ⟨F, Mx, S, fun v F1 H1 x1 S1 r1 => w.rt d M1 v F1 H1 x1 S1.mem r1 h⟩
theorem js_retR {r : Res} (he : JR X W T M e r M1) (h : r.to (fun d => P.rt d M1) (fun x => P.ex x M1)) : JS X W T M (.Return (some e) pos) P :=
  PS.imp (ps_ret he) fun D σ H ⟨F, Mx, S, w⟩ => ⟨F, Mx, S, by
    cases r with
    | ok d => exact fun v F1 H1 x1 S1 r1 => w.rt d M1 v F1 H1 x1 S1.mem r1 h
    | exc x => exact fun cls dd F1 H1 x1 S1 r1 => w.ex x M1 σ cls dd F1 H1 x1 S1.mem r1 h⟩
theorem js_if {bb : Bool} {p1 p2 : List Stmt} (hc : JT X T M c bb M1) (h1 : bb = true → JSs X W T M1 p1 P) (h2 : bb = false → JSs X W T M1 p2 P) : JS X W T M (.If c p1 p2 pos) P :=
  PS.imp (ps_if hc (pss_u p1) (pss_u p2)) fun D σ H ⟨F, Mx, S, w⟩ => ⟨F, Mx, S, fun F1 H1 x1 S1 => by
    cases bb with
    | true => exact iteT ⟨_, h1 rfl, F1, Mx, S1, w.mono x1⟩
    | false => exact iteF ⟨_, h2 rfl, F1, Mx, S1, w.mono x1⟩⟩
theorem js_asg (he : JE X T M e d M1) (hg : JG X false T tg d T1 ts) (h : P.nx T1 M1) (hs : swapsWithSole [tg] e pos.line X.env = pure false := by rfl) (hw : swappedStores [tg] e X.env = pure none := by rfl) (h1 : (assignEach [tg] X.env).map (·.2) = [assign tg X.env] := by rfl) : JS X W T M (.Assign [tg] e pos) P :=
  PS.imp (ps_asg he hg hs hw h1) fun D σ H ⟨F, Mx, S, w⟩ => ⟨F, Mx, S, fun v F1 H1 x1 S1 r1 => ⟨F1, Mx ++ M1, S1, r1, fun σ' S' _ => w.nx T1 M1 σ' F1 H1 x1 S' h⟩⟩
theorem js_asgR {r : Res} {T1 : D → Tau} (he : JR X W T M e r M1) (hg : ∀ d, r = .ok d → JG X false T tg d (T1 d) ts) (h : r.to (fun d => P.nx (T1 d) M1) (fun x => P.ex x M1)) (hs : swapsWithSole [tg] e pos.line X.env = pure false := by rfl) (hw : swappedStores [tg] e X.env = pure none := by rfl) (h1 : (assignEach [tg] X.env).map (·.2) = [assign tg X.env] := by rfl) : JS X W T M (.Assign [tg] e pos) P := by
  cases r with
  | ok d => exact js_asg he (hg d rfl) h hs hw h1
  | exc x => exact PS.imp (ps_asg he (pg_u tg) hs hw h1) fun D σ H ⟨F, Mx, S, w⟩ => ⟨F, Mx, S, fun cls dd F1 H1 x1 S1 r1 => w.ex x M1 σ cls dd F1 H1 x1 S1.mem r1 h⟩
/-- a, b = e1, e2 -/
theorem js_par {i j : Nat} {x y : Str} {px py pt : Pos} {kt k2 pt2} {da db : D} (hc : X.calm = true) (hN : X.N.Nodup) (hi : X.N[i]? = some x) (hj : X.N[j]? = some y) (hij : i ≠ j) (hx : X.env.scope.names.lookup x = some .local) (hy : X.env.scope.names.lookup y = some .local)
    (ha : JA X T M [a, b] [da, db] M1) (h : P.nx ((T.set i (some da)).set j (some db)) M1) (hw : swappedStores [.Tuple [.Name x px, .Name y py] kt pt] (.Tuple [a, b] k2 pt2) X.env = pure (some [x, y]))
    (hs : swapsWithSole [.Tuple [.Name x px, .Name y py] kt pt] (.Tuple [a, b] k2 pt2) pos.line X.env = pure false := by rfl) : JS X W T M (.Assign [.Tuple [.Name x px, .Name y py] kt pt] (.Tuple [a, b] k2 pt2) pos) P := by
  refine ⟨fun pins s σ H D I ⟨F, Mx, S, w⟩ => ?_⟩
  have hli : i < σ.length := by
    rw [I.len]
    exact (List.getElem?_eq_some_iff.mp hi).1
  have hlj : j < σ.length := by
    rw [I.len]
    exact (List.getElem?_eq_some_iff.mp hj).1
  refine (ps_par hc hN hi hj hij hx hy ha hw hs).run pins s σ H D I ⟨F, Mx, S, fun vs F1 H1 x1 S1 r1 => ?_⟩
  cases r1 with
  | cons ra rb =>
    cases rb with
    | cons rb rn =>
      cases rn
      refine ⟨_, _, rfl, ?_⟩
      exact w.nx _ M1 _ F1 H1 x1 ((S1.set hli ra).set (by simpa using hlj) rb) h
end
end J

set_option Elab.async false
set_option linter.all false
set_option maxRecDepth 100000
set_option maxHeartbeats 2000000
namespace J
open PySem PySem.Spec PyProof.Rows L2 Evl

/-! ### what is walked -/
/-- the iterator gives ds, while the memory is as C says -/
def ItD (K : PySem.W.Frag) (w : Bool) (F : Hp) (J : It) (C : Mem → Prop) (ds : List D) : Prop := ∀ (i : Nat) (F1 H : Hp) (Mx M : Mem), Ex F F1 → MemOk K F1 H (Mx ++ M) → C M →
  (∀ d, ds[i]? = some d → J.go i H ∧ ∀ x H2, J.yld i H x H2 → ∃ F2, Gr F1 H F2 H2 ∧ RepB K w F2 x d) ∧ (i = ds.length → J.stop i H)
def tI (K : PySem.W.Frag) (w : Bool) (T : Tau) (M : Mem) (ds : List D) (C : Mem → Prop) (M' : Mem) : TI := fun σ H R => ∃ F Mx, Sim K T (Mx ++ M) σ F H ∧ ∀ J F' H', Ex F F' → Sim K T (Mx ++ M') σ F' H' → ItD K w F' J C ds → R J H'
def JI (X : Cx) (w : Bool) (T : Tau) (M : Mem) (tg iter : Expr) (ds : List D) (C : Mem → Prop) (M' : Mem) : Prop := PI X tg iter (tI X.K w T M ds C M')
theorem _root_.L2.PI.imp {X : Cx} {tg e : Expr} {t t' : TI} (h : PI X tg e t) (k : ∀ σ H R, t' σ H R → t σ H R) : PI X tg e t' := ⟨fun pins s σ H R I q => h.run pins s σ H R I (k σ H R q)⟩
section
variable {X : Cx} {W : WX} {T T1 T2 : Tau} {M M1 M2 M3 : Mem} {a b c e e2 tg iter : Expr} {es : List Expr} {d d1 d2 : D} {ds ds1 ds2 : List D} {pos p tpos : Pos} {P : Po} {st : Stmt} {rest body : List Stmt} {ts us : List Nat}
theorem ji_lst (h : JE X T M e (.lst ds) M1) : JI X false T M tg e ds (fun _ => True) M1 :=
  PI.imp (pi_list h) fun σ H R ⟨F, Mx, S, k⟩ => ⟨F, Mx, S, fun v F1 H1 x1 S1 r1 => by
    obtain ⟨l, vs, rfl, h1, rr⟩ := r1.lst_inv
    refine ⟨l, rfl, ⟨vs, SqL.of (S1.mem.ex _ _ h1)⟩, k _ F1 H1 x1 S1 fun i F2 H2 My M' x2 m2 _ => ⟨fun d hd => ?_, fun hi => ⟨vs, SqL.of (m2.ex _ _ (x2 _ _ h1)), by rw [rr.length, hi]; exact Nat.le_refl _⟩⟩⟩
    obtain ⟨v, hv, rv⟩ := rr.get hd
    have hs : SqL X.K H2 l vs := SqL.of (m2.ex _ _ (x2 _ _ h1))
    refine ⟨⟨vs, v, hs, hv⟩, fun y H3 hy => ?_⟩
    obtain ⟨rfl, hy⟩ := hy
    have e : y = v := Option.some.inj ((hy vs hs).symm.trans hv)
    subst e
    exact ⟨F2, Gr.refl m2.ex, rv.mono x2⟩⟩
theorem ji_cell {l : Addr} (h : JE X T M e (.cell l) M1) (hl : M1.lookup l = some (.lst ds)) : JI X false T M tg e ds (fun M => M.lookup l = some (.lst ds)) M1 :=
  PI.imp (pi_list h) fun σ H R ⟨F, Mx, S, k⟩ => ⟨F, Mx, S, fun v F1 H1 x1 S1 r1 => by
    cases r1.cell_inv
    obtain ⟨_, vs, h1, rr⟩ := S1.mem.cell _ (List.mem_append_right _ (lookup_mem hl))
    refine ⟨l, rfl, ⟨vs, SqL.of h1⟩, k _ F1 H1 x1 S1 fun i F2 H2 My M' x2 m2 hM => ?_⟩
    obtain ⟨_, ws, h2, rr2⟩ := m2.cell _ (List.mem_append_right _ (lookup_mem hM))
    have hs : SqL X.K H2 l ws := SqL.of h2
    refine ⟨fun d hd => ?_, fun hi => ⟨ws, hs, by rw [rr2.length, hi]; exact Nat.le_refl _⟩⟩
    obtain ⟨v, hv, rv⟩ := rr2.get hd
    refine ⟨⟨ws, v, hs, hv⟩, fun y H3 hy => ?_⟩
    obtain ⟨rfl, hy⟩ := hy
    have e : y = v := Option.some.inj ((hy ws hs).symm.trans hv)
    subst e
    exact ⟨F2, Gr.refl m2.ex, rv⟩⟩
theorem ji_tup (h : JE X T M e (.tup ds) M1) : JI X false T M tg e ds (fun _ => True) M1 :=
  PI.imp (pi_tup h) fun σ H R ⟨F, Mx, S, k⟩ => ⟨F, Mx, S, fun v F1 H1 x1 S1 r1 => by
    obtain ⟨l, vs, rfl, h1, rr⟩ := r1.tup_inv
    refine ⟨l, rfl, ⟨vs, (ex_p S1.mem.ex h1).sq⟩, k _ F1 H1 x1 S1 fun i F2 H2 My M' x2 m2 _ => ⟨fun d hd => ?_, fun hi => ⟨vs, (ex_p (x2.trans m2.ex) h1).sq, by rw [rr.length, hi]; exact Nat.le_refl _⟩⟩⟩
    obtain ⟨v, hv, rv⟩ := rr.get hd
    have hs : SqT X.K H2 l vs := (ex_p (x2.trans m2.ex) h1).sq
    refine ⟨⟨vs, v, hs, hv⟩, fun y H3 hy => ?_⟩
    obtain ⟨rfl, hy⟩ := hy
    have e : y = v := Option.some.inj ((hy vs hs).symm.trans hv)
    subst e
    exact ⟨F2, Gr.refl m2.ex, rv.mono x2⟩⟩
/-- lo, lo + 1, .., n of them -/
def rngD (lo : Int) (n : Nat) : List D := (List.range n).map fun i => .int (lo + (i : Nat))
theorem rngD_length (lo : Int) (n : Nat) : (rngD lo n).length = n := by simp [rngD]
theorem rngD_get {lo : Int} {n i : Nat} {d : D} (h : (rngD lo n)[i]? = some d) : i < n ∧ d = .int (lo + (i : Nat)) := by
  unfold rngD at h
  rw [List.getElem?_map] at h
  by_cases q : i < n
  · rw [List.getElem?_range q] at h
    exact ⟨q, (Option.some.inj h).symm⟩
  · rw [List.getElem?_eq_none (by simpa using q)] at h
    cases h
theorem itd_rng (K : PySem.W.Frag) (F : Hp) (lo : Int) (n : Nat) : ItD K false F (Itr lo n) (fun _ => True) (rngD lo n) := fun i F2 H2 My M' x2 m2 _ => ⟨fun d hd => by
  obtain ⟨h1, rfl⟩ := rngD_get hd
  refine ⟨h1, fun y H3 hy => ?_⟩
  obtain ⟨rfl, rfl⟩ := hy
  exact ⟨F2, Gr.refl m2.ex, .int _⟩, fun hi => by rw [rngD_length] at hi; exact Nat.le_of_eq hi.symm⟩
theorem ji_range1 {n : Int} (hg : Gl X "range") (hm : X.mg "range" = none) (ha : JA X T M [a] [.int n] M1) (hn : -(2 ^ 62) ≤ n ∧ n < 2 ^ 62) (hs : starEach [a] X.env = [(false, eval a X.env)] := by rfl) : JI X false T M tg (.Call (.Name "range" p) [a] [] pos) (rngD 0 n.toNat) (fun _ => True) M1 :=
  PI.imp (pi_range1 hg hm ha hs) fun σ H R ⟨F, Mx, S, k⟩ => ⟨F, Mx, S, fun vs F1 H1 x1 S1 r1 => by
    cases r1 with
    | cons r rn =>
      cases rn
      exact ⟨n, by rw [r.int_inv], hn.1, hn.2, k _ F1 H1 x1 S1 (itd_rng _ _ _ _)⟩⟩
theorem ji_range2 {lo n : Int} (hg : Gl X "range") (hm : X.mg "range" = none) (ha : JA X T M [a, b] [.int lo, .int n] M1) (hn : -(2 ^ 62) ≤ lo ∧ lo < 2 ^ 62 ∧ -(2 ^ 62) ≤ n ∧ n < 2 ^ 62) (hs : starEach [a, b] X.env = [(false, eval a X.env), (false, eval b X.env)] := by rfl) (hs2 : starEach [b] X.env = [(false, eval b X.env)] := by rfl) :
    JI X false T M tg (.Call (.Name "range" p) [a, b] [] pos) (rngD lo (n - lo).toNat) (fun _ => True) M1 :=
  PI.imp (pi_range2 hg hm ha hs hs2) fun σ H R ⟨F, Mx, S, k⟩ => ⟨F, Mx, S, fun vs F1 H1 x1 S1 r1 => by
    cases r1 with
    | cons r rn =>
      cases rn with
      | cons r2 rn =>
        cases rn
        exact ⟨lo, n, by rw [r.int_inv, r2.int_inv], hn, k _ F1 H1 x1 S1 (itd_rng _ _ _ _)⟩⟩
/-- for -/
theorem js_for {C : Mem → Prop} {M0 : Mem} {wk : Bool} (hp : PassesOwn (model X.prog X.w) X.A X.env X.xe) (hc : X.calm = true) (hi : JI X wk T M tg iter ds C M0) (Iv : Nat → Tau → Mem → Prop) (h0 : Iv 0 T M0) (hC : ∀ i T1 M1, Iv i T1 M1 → C M1)
    (hs : ∀ i d T1 M1, ds[i]? = some d → Iv i T1 M1 → ∃ T2 ts, JG X wk T1 tg d T2 ts ∧ JSs X W T2 M1 body { P with nx := Iv (i + 1), ct := Iv (i + 1), bk := P.nx })
    (hd : ∀ T1 M1, Iv ds.length T1 M1 → P.nx T1 M1) (hf : ∀ x, foldedSetIterable iter X.env x = pure x := by intro _; rfl) : JS X W T M (.For tg iter body [] pos) P := by
  refine PS.imp (ps_for hp hc hi (pg_u tg) (pss_u body) hf) fun D σ H ⟨F, Mx, S, w⟩ => ⟨F, Mx, S, fun J F1 H1 x1 S1 it => ?_⟩
  refine ⟨fun i m σ' H' => m + i = ds.length ∧ ∃ T' M' F', Ex F1 F' ∧ Sim X.K T' (Mx ++ M') σ' F' H' ∧ Iv i T' M', ⟨ds.length, rfl, T, M0, F1, Ex.refl _, S1, h0⟩, ?_⟩
  rintro i m σ' H' ⟨hm, T', M', F', x', S', iv⟩
  obtain ⟨g1, g2⟩ := it i F' H' Mx M' x' S'.mem (hC i T' M' iv)
  by_cases hil : i < ds.length
  · have hd' : ds[i]? = some ds[i] := List.getElem?_eq_getElem hil
    obtain ⟨go, yl⟩ := g1 _ hd'
    refine .inr ⟨go, fun σ2 H2 => ∃ T2 M2 F2, Ex F1 F2 ∧ Sim X.K T2 (Mx ++ M2) σ2 F2 H2 ∧ Iv (i + 1) T2 M2, fun σ2 H2 hN => ⟨m - 1, by omega, by omega, hN⟩, fun x H2 hy => ?_⟩
    obtain ⟨F2, gr, rx⟩ := yl x H2 hy
    obtain ⟨T2, ts, hg, hb⟩ := hs i _ T' M' hd' iv
    refine ⟨_, hg, F2, Mx ++ M', S'.gr gr, rx, fun σ2 S2 _ => ⟨_, hb, F2, Mx, S2, ?_⟩⟩
    have e2 : Ex F1 F2 := x'.trans gr.ff
    exact ⟨fun T3 M3 σ3 F3 H3 x3 S3 q => ⟨T3, M3, F3, e2.trans x3, S3, q⟩, fun d M3 v F3 H3 x3 => w.rt d M3 v F3 H3 ((x1.trans e2).trans x3), fun T3 M3 σ3 F3 H3 x3 => w.nx T3 M3 σ3 F3 H3 ((x1.trans e2).trans x3),
      fun T3 M3 σ3 F3 H3 x3 S3 q => ⟨T3, M3, F3, e2.trans x3, S3, q⟩, fun y M3 σ3 cl dd F3 H3 x3 => w.ex y M3 σ3 cl dd F3 H3 ((x1.trans e2).trans x3)⟩
  · have e : i = ds.length := by omega
    exact .inl ⟨g2 (by omega), w.nx T' M' σ' F' H' (x1.trans x') S' (hd T' M' (e ▸ iv))⟩
/-- while -/
theorem js_while (hp : PassesOwn (model X.prog X.w) X.A X.env X.xe) (Iv : Nat → Tau → Mem → Prop) (m0 : Nat) (h0 : Iv m0 T M)
    (hs : ∀ m T1 M1, Iv m T1 M1 → ∃ bb M2, JT X T1 M1 c bb M2 ∧ (bb = true → JSs X W T1 M2 body { P with nx := fun T3 M3 => ∃ m', m' < m ∧ Iv m' T3 M3, ct := fun T3 M3 => ∃ m', m' < m ∧ Iv m' T3 M3, bk := P.nx }) ∧ (bb = false → P.nx T1 M2)) :
    JS X W T M (.While c body [] pos) P := by
  refine PS.imp (ps_while hp (pt_u c) (pss_u body)) fun D σ H ⟨F, Mx, S, w⟩ => ?_
  refine ⟨fun m σ' H' => ∃ T' M' F', Ex F F' ∧ Sim X.K T' (Mx ++ M') σ' F' H' ∧ Iv m T' M', ⟨m0, T, M, F, Ex.refl _, S, h0⟩, ?_⟩
  rintro m σ' H' ⟨T', M', F', x', S', iv⟩
  obtain ⟨bb, M2, hc, h1, h2⟩ := hs m T' M' iv
  refine ⟨_, hc, F', Mx, S', fun F1 H1 x1 S1 => ?_⟩
  cases bb with
  | true =>
    refine iteT ⟨fun σ2 H2 => ∃ T2 M2 F2, Ex F F2 ∧ Sim X.K T2 (Mx ++ M2) σ2 F2 H2 ∧ ∃ m', m' < m ∧ Iv m' T2 M2, fun σ2 H2 ⟨T2, M3, F2, x2, S2, m', hm, iv2⟩ => ⟨m', hm, T2, M3, F2, x2, S2, iv2⟩, _, h1 rfl, F1, Mx, S1, ?_⟩
    have e2 : Ex F F1 := x'.trans x1
    exact ⟨fun T3 M3 σ3 F3 H3 x3 S3 q => ⟨T3, M3, F3, e2.trans x3, S3, q⟩, fun d M3 v F3 H3 x3 => w.rt d M3 v F3 H3 (e2.trans x3), fun T3 M3 σ3 F3 H3 x3 => w.nx T3 M3 σ3 F3 H3 (e2.trans x3),
      fun T3 M3 σ3 F3 H3 x3 S3 q => ⟨T3, M3, F3, e2.trans x3, S3, q⟩, fun y M3 σ3 cl dd F3 H3 x3 => w.ex y M3 σ3 cl dd F3 H3 (e2.trans x3)⟩
  | false => exact iteF (w.nx T' M2 σ' F1 H1 (x'.trans x1) S1 (h2 rfl))
end

/-! ### cells -/
section
variable {K : PySem.W.Frag} {F F' H H' : Hp} {M Mx : Mem} {v : V} {d : D} {l : Addr} {ds : List D}
/-- a new list that may change -/
theorem MemOk.new {vs : List V} (m : MemOk K F H (Mx ++ M)) (hl : H l = none) (r : RepL K F vs ds) : MemOk K F (upd H l (.lst vs)) (Mx ++ (l, .lst ds) :: M) := by
  have fl : F l = none := fresh_back m.ex hl
  refine ⟨fun a o h => ?_, fun p hp => ?_, ?_⟩
  · rw [upd_ne (ne_of_none (m.ex a o h) hl)]
    exact m.ex a o h
  · have hc : p = (l, .lst ds) ∨ p ∈ Mx ++ M := by
      rcases List.mem_append.mp hp with h | h
      · exact .inr (List.mem_append_left _ h)
      · rcases List.mem_cons.mp h with h | h
        · exact .inl h
        · exact .inr (List.mem_append_right _ h)
    rcases hc with rfl | hc
    · exact ⟨fl, vs, upd_same, r⟩
    · obtain ⟨h1, h2⟩ := m.cell p hc
      obtain ⟨o, ho⟩ := h2.has
      exact ⟨h1, h2.mono (Ex.refl _) fun o q => by rw [upd_ne (ne_of_none ho hl)]; exact q⟩
  · have hnd := m.nd
    have nin : ∀ p ∈ Mx ++ M, p.1 ≠ l := fun p hp => by
      obtain ⟨_, h2⟩ := m.cell p hp
      obtain ⟨o, ho⟩ := h2.has
      exact ne_of_none ho hl
    rw [List.map_append, List.map_cons]
    rw [List.map_append] at hnd
    obtain ⟨n1, n2, n3⟩ := List.nodup_append.mp hnd
    refine List.nodup_append.mpr ⟨n1, List.nodup_cons.mpr ⟨fun h => ?_, n2⟩, fun a ha b hb => ?_⟩
    · obtain ⟨p, hp, e⟩ := List.mem_map.mp h
      exact nin p (List.mem_append_right _ hp) e
    · rcases List.mem_cons.mp hb with rfl | hb
      · obtain ⟨p, hp, e⟩ := List.mem_map.mp ha
        intro z
        exact nin p (List.mem_append_left _ hp) (e.trans z)
      · exact n3 a ha b hb
/-- the memory with another content at l -/
def put (M : Mem) (l : Addr) (d : D) : Mem := M.map fun p => if p.1 = l then (l, d) else p
theorem put_keys (M : Mem) (l : Addr) (d : D) : (put M l d).map (·.1) = M.map (·.1) := by
  unfold put
  rw [List.map_map]
  refine List.map_congr_left fun p _ => ?_
  by_cases h : p.1 = l
  · simp [h]
  · simp [h]
theorem put_lookup_ne {M : Mem} {l l' : Addr} {d : D} (h : l' ≠ l) : (put M l d).lookup l' = M.lookup l' := by
  induction M with
  | nil => rfl
  | cons p M ih =>
    have e : put (p :: M) l d = (if p.1 = l then (l, d) else p) :: put M l d := rfl
    rw [e, List.lookup_cons, List.lookup_cons]
    by_cases q : p.1 = l
    · have z1 : (l' == l) = false := beq_eq_false_iff_ne.mpr h
      have z2 : (l' == p.1) = false := by rw [q]; exact z1
      rw [if_pos q, z2]
      simp only [z1]
      exact ih
    · rw [if_neg q]
      split
      · rfl
      · exact ih
theorem put_lookup {M : Mem} {l : Addr} {d c : D} (h : M.lookup l = some c) : (put M l d).lookup l = some d := by
  induction M with
  | nil => cases h
  | cons p M ih =>
    have e : put (p :: M) l d = (if p.1 = l then (l, d) else p) :: put M l d := rfl
    rw [e, List.lookup_cons]
    rw [List.lookup_cons] at h
    by_cases q : p.1 = l
    · rw [if_pos q]
      simp
    · have z : (l == p.1) = false := beq_eq_false_iff_ne.mpr (Ne.symm q)
      rw [if_neg q, z]
      rw [z] at h
      exact ih h
theorem mem_lookup {M : Mem} (hnd : (M.map (·.1)).Nodup) {p : Addr × D} (h : p ∈ M) : M.lookup p.1 = some p.2 := by
  induction M with
  | nil => cases h
  | cons q M ih =>
    rw [List.lookup_cons]
    rcases List.mem_cons.mp h with rfl | h
    · simp
    · have n := List.nodup_cons.mp (show (q.1 :: M.map (·.1)).Nodup from hnd)
      have ne : p.1 ≠ q.1 := fun z => n.1 (by rw [← z]; exact List.mem_map.mpr ⟨p, h, rfl⟩)
      have z : (p.1 == q.1) = false := beq_eq_false_iff_ne.mpr ne
      rw [z]
      exact ih n.2 h
/-- the list at l is stored anew -/
theorem MemOk.store {ds1 : List D} {vs : List V} (m : MemOk K F H (Mx ++ M)) (hl : M.lookup l = some (.lst ds1)) (r : RepL K F vs ds) : MemOk K F (upd H l (.lst vs)) (Mx ++ put M l (.lst ds)) := by
  obtain ⟨fl, ws, hw, _⟩ := m.cell _ (List.mem_append_right _ (lookup_mem hl))
  have nx : ∀ p ∈ Mx, p.1 ≠ l := fun p hp z => by
    have hnd := m.nd
    rw [List.map_append] at hnd
    obtain ⟨_, _, n3⟩ := List.nodup_append.mp hnd
    exact n3 p.1 (List.mem_map.mpr ⟨p, hp, rfl⟩) l (List.mem_map.mpr ⟨_, lookup_mem hl, rfl⟩) z
  refine ⟨fun a o h => ?_, fun p hp => ?_, ?_⟩
  · rw [upd_ne (fun z => by rw [z, fl] at h; cases h)]
    exact m.ex a o h
  · rcases List.mem_append.mp hp with hp | hp
    · obtain ⟨h1, h2⟩ := m.cell p (List.mem_append_left _ hp)
      exact ⟨h1, h2.mono (Ex.refl _) fun o q => by rw [upd_ne (nx p hp)]; exact q⟩
    · obtain ⟨q, hq, e⟩ := List.mem_map.mp hp
      by_cases z : q.1 = l
      · rw [if_pos z] at e
        subst e
        exact ⟨fl, vs, upd_same, r⟩
      · rw [if_neg z] at e
        subst e
        obtain ⟨h1, h2⟩ := m.cell q (List.mem_append_right _ hq)
        exact ⟨h1, h2.mono (Ex.refl _) fun o w => by rw [upd_ne z]; exact w⟩
  · rw [List.map_append, put_keys, ← List.map_append]
    exact m.nd
/-- the memory without l -/
def del (M : Mem) (l : Addr) : Mem := M.filter fun p => decide (p.1 ≠ l)
/-- the list at l will not change any more -/
theorem MemOk.freeze (m : MemOk K F H (Mx ++ M)) (hl : M.lookup l = some (.lst ds)) : ∃ F', Ex F F' ∧ MemOk K F' H (Mx ++ del M l) ∧ Rep K F' (.ref l) (.lst ds) := by
  obtain ⟨fl, ws, hw, rr⟩ := m.cell _ (List.mem_append_right _ (lookup_mem hl))
  have e : Ex F (upd F l (.lst ws)) := Ex.new fl
  have nx : ∀ p ∈ Mx, p.1 ≠ l := fun p hp z => by
    have hnd := m.nd
    rw [List.map_append] at hnd
    obtain ⟨_, _, n3⟩ := List.nodup_append.mp hnd
    exact n3 p.1 (List.mem_map.mpr ⟨p, hp, rfl⟩) l (List.mem_map.mpr ⟨_, lookup_mem hl, rfl⟩) z
  refine ⟨_, e, ⟨fun a o h => ?_, fun p hp => ?_, ?_⟩, .lst upd_same (rr.mono e)⟩
  · by_cases q : a = l
    · subst q
      rw [upd_same] at h
      exact hw.trans h
    · rw [upd_ne q] at h
      exact m.ex a o h
  · have ne : p.1 ≠ l := by
      rcases List.mem_append.mp hp with h | h
      · exact nx p h
      · exact of_decide_eq_true (List.mem_filter.mp h).2
    have hp' : p ∈ Mx ++ M := by
      rcases List.mem_append.mp hp with h | h
      · exact List.mem_append_left _ h
      · exact List.mem_append_right _ (List.mem_filter.mp h).1
    obtain ⟨h1, h2⟩ := m.cell p hp'
    exact ⟨by rw [upd_ne ne]; exact h1, h2.mono e fun o q => q⟩
  · rw [List.map_append]
    have hnd := m.nd
    rw [List.map_append] at hnd
    obtain ⟨n1, n2, n3⟩ := List.nodup_append.mp hnd
    refine List.nodup_append.mpr ⟨n1, n2.sublist (List.Sublist.map _ List.filter_sublist), fun a ha b hb => n3 a ha b ?_⟩
    obtain ⟨p, hp, z⟩ := List.mem_map.mp hb
    exact List.mem_map.mpr ⟨p, (List.mem_filter.mp hp).1, z⟩
end
section
variable {X : Cx} {W : WX} {T T1 T2 : Tau} {M M1 M2 M3 : Mem} {a b c e tg iter : Expr} {es : List Expr} {d d1 d2 : D} {ds ds1 ds2 : List D} {pos p apos cpos : Pos} {P : Po} {st : Stmt} {rest body : List Stmt} {l : Addr}
theorem new_notin {K : PySem.W.Frag} {F H : Hp} {Mx M : Mem} {q : Addr} (m : MemOk K F H (Mx ++ M)) (hq : H q = none) : q ∉ M.map (·.1) := fun z => by
  obtain ⟨p, hp, e⟩ := List.mem_map.mp z
  obtain ⟨o, ho⟩ := (m.cell p (List.mem_append_right _ hp)).2.has
  rw [e, hq] at ho
  cases ho
theorem MemOk.sub {K : PySem.W.Frag} {F H : Hp} {Mx M M' : Mem} (m : MemOk K F H (Mx ++ M)) (h : List.Sublist M' M) : MemOk K F H (Mx ++ M') := by
  have s : List.Sublist (Mx ++ M') (Mx ++ M) := h.append_left Mx
  exact ⟨m.ex, fun p hp => m.cell p (s.subset hp), (s.map _).nodup m.nd⟩
/-- x = [a, b, ..], a list that will change -/
theorem js_newL {i : Nat} {x : Str} {pos' lp : Pos} (hN : X.N.Nodup) (hi : X.N[i]? = some x) (hx : Loc X.env.scope x) (ha : JA X T M es ds M1) (hz : ds.length ≤ sizeLine) (h : ∀ l, l ∉ M1.map (·.1) → P.nx (T.set i (some (.cell l))) ((l, .lst ds) :: M1))
    (hs : swapsWith (.List es lp) (some (.Name x pos')) pos.line X.env = pure false := by rfl) (hf : X.fn x = true ∨ X.env.scope.names.lookup x = some .local := by first | exact .inl rfl | exact .inr rfl | assumption) : JS X W T M (.Assign [.Name x pos'] (.List es lp) pos) P := by
  refine ⟨fun pins s σ H D I ⟨F, Mx, S, w⟩ => ?_⟩
  have hl : i < σ.length := by
    rw [I.len]
    exact (List.getElem?_eq_some_iff.mp hi).1
  refine (ps_set hN hi hx (pe_lst ha) hs hf).run pins s σ H D I ⟨F, Mx, S, fun vs F1 H1 x1 S1 r1 => ⟨by rw [r1.length]; exact hz, fun q hq => ?_⟩⟩
  have S2 : Sim X.K T (Mx ++ (q, .lst ds) :: M1) σ F1 (upd H1 q (.lst vs)) := ⟨S1.mem.new hq r1, S1.slot⟩
  exact w.nx _ _ _ F1 _ x1 (S2.set hl (.cell q)) (h q (new_notin S1.mem hq))
/-- xs.append(e) -/
theorem js_append (ha : JE X T M a (.cell l) M) (he : JE X T M e d M1) (hl : M1.lookup l = some (.lst ds)) (hz : ds.length < sizeLine) (h : P.nx T (put M1 l (.lst (ds ++ [d])))) (l0 : ∃ ds0, M.lookup l = some (.lst ds0))
    (hst : starEach [e] X.env = (false, eval e X.env) :: starEach [] X.env := by rfl) (hpl : (backTo cpos (starEach [] X.env)).any (·.1) = false := by rfl) (hb : attributeBase a "append" X.env (eval a X.env) = eval a X.env := by rfl) (hline : (apos.endLine == cpos.line) = true := by rfl)
    (hfew : ((backTo cpos (starEach [e] X.env)).all (fun x => !x.1) && (backToKw cpos (keywordEach [] X.env)).all (fun x => x.1.isSome) && decide ([e].length + ([] : List Keyword).length + (if ([] : List Keyword).isEmpty then 0 else 1) < 30)) = true := by rfl)
    (hs : swapsWith (.Call (.Attribute a "append" apos) [e] [] cpos) none pos.line X.env = pure false := by rfl) : JS X W T M (.Expr (.Call (.Attribute a "append" apos) [e] [] cpos) pos) P := by
  obtain ⟨ds0, l0⟩ := l0
  refine PS.imp (ps_expr (pe_bm PySem.F.plainAttrs_list PySem.F.slot_list_append PySem.F.type_list_append mt_append ha (pa_cons he pa_nil hst) hb hfew hline hst hpl) hs) fun D σ H ⟨F, Mx, S, w⟩ => ⟨F, Mx, S, fun v F1 H1 x1 S1 r1 => ?_⟩
  cases r1.cell_inv
  obtain ⟨_, vs0, h0, _⟩ := S1.mem.cell _ (List.mem_append_right _ (lookup_mem l0))
  refine ⟨.inl ⟨rfl, _, SqL.of h0⟩, F1, Mx, S1, fun u F2 H2 x2 S2 r2 => ?_⟩
  obtain ⟨_, vs, h1, rr⟩ := S2.mem.cell _ (List.mem_append_right _ (lookup_mem hl))
  refine ⟨l, vs, u, rfl, rfl, h1, by rw [rr.length]; exact hz, ?_⟩
  exact w.nx T _ σ F2 _ (x1.trans x2) ⟨S2.mem.store hl (rr.append (.cons r2 .nil)), S2.slot⟩ h
/-- xs.extend(e) -/
theorem js_extend (ha : JE X T M a (.cell l) M) (he : JE X T M e d M1) (hd : look M1 d = .lst ds2) (hl : M1.lookup l = some (.lst ds)) (hz : ds.length + ds2.length ≤ sizeLine) (h : P.nx T (put M1 l (.lst (ds ++ ds2)))) (l0 : ∃ ds0, M.lookup l = some (.lst ds0))
    (hst : starEach [e] X.env = (false, eval e X.env) :: starEach [] X.env := by rfl) (hpl : (backTo cpos (starEach [] X.env)).any (·.1) = false := by rfl) (hb : attributeBase a "extend" X.env (eval a X.env) = eval a X.env := by rfl) (hline : (apos.endLine == cpos.line) = true := by rfl)
    (hfew : ((backTo cpos (starEach [e] X.env)).all (fun x => !x.1) && (backToKw cpos (keywordEach [] X.env)).all (fun x => x.1.isSome) && decide ([e].length + ([] : List Keyword).length + (if ([] : List Keyword).isEmpty then 0 else 1) < 30)) = true := by rfl)
    (hs : swapsWith (.Call (.Attribute a "extend" apos) [e] [] cpos) none pos.line X.env = pure false := by rfl) : JS X W T M (.Expr (.Call (.Attribute a "extend" apos) [e] [] cpos) pos) P := by
  obtain ⟨ds0, l0⟩ := l0
  refine PS.imp (ps_expr (pe_bm PySem.F.plainAttrs_list PySem.F.slot_list_extend PySem.F.type_list_extend mt_extend ha (pa_cons he pa_nil hst) hb hfew hline hst hpl) hs) fun D σ H ⟨F, Mx, S, w⟩ => ⟨F, Mx, S, fun v F1 H1 x1 S1 r1 => ?_⟩
  cases r1.cell_inv
  obtain ⟨_, vs0, h0, _⟩ := S1.mem.cell _ (List.mem_append_right _ (lookup_mem l0))
  refine ⟨.inl ⟨rfl, _, SqL.of h0⟩, F1, Mx, S1, fun u F2 H2 x2 S2 r2 => ?_⟩
  obtain ⟨_, vs, h1, rr⟩ := S2.mem.cell _ (List.mem_append_right _ (lookup_mem hl))
  have rh := S2.mem.look r2
  rw [hd] at rh
  obtain ⟨q, ws, rfl, h2, rr2⟩ := rh.lst S2.mem.ex
  refine ⟨l, q, vs, ws, rfl, rfl, h1, h2, by rw [rr.length, rr2.length]; exact hz, ?_⟩
  exact w.nx T _ σ F2 _ (x1.trans x2) ⟨S2.mem.store hl (rr.append rr2), S2.slot⟩ h
/-- return xs, a list that will not change any more -/
theorem js_retF (he : JE X T M e (.cell l) M1) (hl : M1.lookup l = some (.lst ds)) (h : P.rt (.lst ds) (del M1 l)) : JS X W T M (.Return (some e) pos) P :=
  PS.imp (ps_ret he) fun D σ H ⟨F, Mx, S, w⟩ => ⟨F, Mx, S, fun v F1 H1 x1 S1 r1 => by
    cases r1.cell_inv
    obtain ⟨F2, x2, m2, r2⟩ := S1.mem.freeze hl
    exact w.rt _ _ _ F2 H1 (x1.trans x2) m2 r2 h⟩
theorem js_freeze {i : Nat} (hi : T[i]? = some (some (.cell l))) (hl : M.lookup l = some (.lst ds)) (h : JS X W (T.set i (some (.lst ds))) (del M l) st P) : JS X W T M st P :=
  PS.imp h fun D σ H ⟨F, Mx, S, w⟩ => by
    obtain ⟨F2, x2, m2, r2⟩ := S.mem.freeze hl
    refine ⟨F2, Mx, ⟨m2, fun j d hj => ?_⟩, w.mono x2⟩
    by_cases q : j = i
    · subst q
      rw [List.getElem?_set] at hj
      rw [if_pos rfl] at hj
      split at hj
      · have z : J.D.lst ds = d := by simpa using hj
        subst z
        obtain ⟨v, e, r⟩ := S.slot _ _ hi
        cases r.cell_inv
        exact ⟨_, e, r2⟩
      · cases hj
    · rw [List.getElem?_set_ne (Ne.symm q)] at hj
      obtain ⟨v, e, r⟩ := S.slot _ _ hj
      exact ⟨v, e, r.mono x2⟩
/-- the list in slot i will not change any more -/
theorem jss_freeze {i : Nat} (hi : T[i]? = some (some (.cell l))) (hl : M.lookup l = some (.lst ds)) (h : JSs X W (T.set i (some (.lst ds))) (del M l) rest P) : JSs X W T M rest P :=
  PSs.imp h fun D σ H ⟨F, Mx, S, w⟩ => by
    obtain ⟨F2, x2, m2, r2⟩ := S.mem.freeze hl
    refine ⟨F2, Mx, ⟨m2, fun j d hj => ?_⟩, w.mono x2⟩
    by_cases q : j = i
    · subst q
      rw [List.getElem?_set] at hj
      rw [if_pos rfl] at hj
      split at hj
      · have z : J.D.lst ds = d := by simpa using hj
        subst z
        obtain ⟨v, e, r⟩ := S.slot _ _ hi
        cases r.cell_inv
        exact ⟨_, e, r2⟩
      · cases hj
    · rw [List.getElem?_set_ne (Ne.symm q)] at hj
      obtain ⟨v, e, r⟩ := S.slot _ _ hj
      exact ⟨v, e, r.mono x2⟩
end
end J

set_option Elab.async false
set_option linter.all false
set_option maxRecDepth 100000
set_option maxHeartbeats 2000000
namespace J
open PySem PySem.Spec PyProof.Rows L2 Evl

/-- what a def does: the arguments and the memory, what comes of it and the memory then -/
abbrev FS := List D → Mem → Res → Mem → Prop
def spJ (K : PySem.W.Frag) (n : Nat) (S : FS) : Sp := fun vs H Q E => ∃ F Mx M ds r M', ds.length = n ∧ MemOk K F H (Mx ++ M) ∧ RepL K F vs ds ∧ S ds M r M' ∧ match r with
  | .ok d => ∀ v F' H', Ex F F' → MemOk K F' H' (Mx ++ M') → Rep K F' v d → Q v H'
  | .exc x => ∀ cls dd F' H', Ex F F' → MemOk K F' H' (Mx ++ M') → ExcIs K H' cls dd x → E cls dd H'
structure JFn (P : Program) (w : World) (K : PySem.W.Frag) (mg : Str → Option Value) (base : Heap) (k : Nat) (x : Str) (n : Nat) (S : FS) : Prop where
  ex : ∃ (f : Addr) (fd : FuncData) (ps : List Str), mg x = some (.ref f) ∧ PySem.W.keepIn K (.ref f) = true ∧ Binds K fd ps [] ∧ ps.length = n ∧ FnOk P w K mg base (L2.CX P w) k f fd ps (spJ K n S)
section
variable {X : Cx} {W : WX} {T T1 T2 : Tau} {M M1 M2 M3 : Mem} {a b c e tg iter : Expr} {es : List Expr} {d d1 d2 : D} {ds ds1 ds2 : List D} {pos p apos cpos : Pos} {P : Po} {st : Stmt} {rest body : List Stmt} {l : Addr} {S : FS} {k j n : Nat} {x : Str} {r : Res}
/-- f(..), that may raise -/
theorem jr_call (F : JFn X.prog X.w X.K X.mg X.base k x n S) (hr : Room j X.A) (hj : k ≤ j) (hg : Gl X x) (tk : Takes X W) (ha : JA X T M (e :: es) ds M1) (hn : ds.length = n) (hS : S ds M1 r M2)
    (hdb : (x == ("__debug__" : Str)) = false := by decide) (he : starEach (e :: es) X.env = (false, eval e X.env) :: starEach es X.env := by rfl) (hpl : (backTo pos (starEach es X.env)).any (·.1) = false := by rfl) : JR X W T M (.Call (.Name x p) (e :: es) [] pos) r M2 := by
  obtain ⟨f, fd, ps, hm, hk, hb, hps, G⟩ := F.ex
  refine PE.imp (pe_callS G (hr.mono hj) hg hm hk hb (fun σ => passAt tk σ) ha hdb he hpl) fun σ H Q ⟨F, Mx, S0, k⟩ => ⟨F, Mx, S0, fun vs F1 H1 x1 S1 r1 => ⟨F1, Mx, M1, ds, r, M2, hn, S1.mem, r1, hS, ?_⟩⟩
  cases r with
  | ok d => exact fun v F2 H2 x2 m2 r2 => k v F2 H2 (x1.trans x2) (S1.to x2 m2) r2
  | exc y => exact fun cls dd F2 H2 x2 m2 r2 => k cls dd F2 H2 (x1.trans x2) (S1.to x2 m2) r2
/-- f(..), that gives d -/
theorem je_call (F : JFn X.prog X.w X.K X.mg X.base k x n S) (hr : Room j X.A) (hj : k ≤ j) (hg : Gl X x) (ha : JA X T M (e :: es) ds M1) (hn : ds.length = n) (hS : S ds M1 (.ok d) M2)
    (hdb : (x == ("__debug__" : Str)) = false := by decide) (he : starEach (e :: es) X.env = (false, eval e X.env) :: starEach es X.env := by rfl) (hpl : (backTo pos (starEach es X.env)).any (·.1) = false := by rfl) : JE X T M (.Call (.Name x p) (e :: es) [] pos) d M2 := by
  obtain ⟨f, fd, ps, hm, hk, hb, hps, G⟩ := F.ex
  refine PE.imp (pe_call G (hr.mono hj) hg hm hk hb .nil passL ha hdb he hpl) fun σ H Q ⟨F, Mx, S0, k⟩ => ⟨F, Mx, S0, fun vs F1 H1 x1 S1 r1 => ?_⟩
  show spJ X.K n S (vs ++ []) H1 Q E0
  rw [List.append_nil]
  exact ⟨F1, Mx, M1, ds, .ok d, M2, hn, S1.mem, r1, hS, fun v F2 H2 x2 m2 r2 => k v F2 H2 (x1.trans x2) (S1.to x2 m2) r2⟩
end

/-! ### a def keeps its promise -/
/-- what a body wants behind it -/
def poOf (r : Res) (M' : Mem) : Po where
  nx := fun _ M1 => r = .ok .non ∧ List.Sublist M' M1
  rt := fun d M1 => r = .ok d ∧ List.Sublist M' M1
  ex := fun x M1 => r = .exc x ∧ List.Sublist M' M1
/-- the slots at the start -/
def startT (n : Nat) (ds : List D) : Tau := ds.map some ++ List.replicate (n - ds.length) none
theorem start_sim {K : PySem.W.Frag} {N : List Str} {M : Mem} {F H : Hp} {vs : List V} {ds : List D} (m : MemOk K F H M) (r : RepL K F vs ds) : Sim K (startT N.length ds) M (L2.start N vs) F H := ⟨m, fun i d h => by
  unfold startT at h
  unfold L2.start
  by_cases hi : i < ds.length
  · rw [List.getElem?_append_left (by simpa using hi), List.getElem?_map] at h
    rw [List.getElem?_append_left (by simpa [r.length] using hi), List.getElem?_map]
    cases e : ds[i]? with
    | none =>
      rw [e] at h
      cases h
    | some d' =>
      rw [e] at h
      have z : d' = d := by simpa using h
      subst z
      obtain ⟨v, hv, rv⟩ := r.get e
      exact ⟨v, by rw [hv]; rfl, rv⟩
  · rw [List.getElem?_append_right (by simpa using hi), List.getElem?_replicate] at h
    split at h <;> cases h⟩
/-- the wish about what leaves a def -/
abbrev WD (E : XK) : WX := fun cls d _ H => E cls d H
section
variable {P : Program} {w : World} {K : PySem.W.Frag} {mg : Str → Option Value} {base : Heap}
/-- the context of a body, as its walk knows it -/
structure Bd (P : Program) (w : World) (K : PySem.W.Frag) (mg : Str → Option Value) (base : Heap) (k : Nat) (X : Cx) (E : XK) : Prop where
  room : Room k X.A
  takes : Takes X (WD E)
  passes : PassesOwn (model X.prog X.w) X.A X.env X.xe
theorem jfn_of {x : Str} {st : Stmt} {f : Addr} {fd : FuncData} {N ps : List Str} {k n : Nat} {S : FS} (F : FunD K x x (defArgs st) (defBody st) (defScope st) [] [] f fd) (hm : mg x = some (.ref f)) (sc : FnScope N ps (defScope st)) (hn : ps.length = n)
    (hb : Binds K fd ps [])
    (body : ∀ (ds : List D) (M : Mem) (r : Res) (M' : Mem), ds.length = n → S ds M r M' → ∀ (cdv : Value) (A : Around) (outer : List Env) (s : Shared) (H : Hp) (E : XK),
      Bd P w K mg base k (cxOf (L2.CX P w) P w K mg base N x (defScope st) f cdv A outer s H E) E →
      JSs (cxOf (L2.CX P w) P w K mg base N x (defScope st) f cdv A outer s H E) (WD E) (startT N.length ds) M (defBody st) (poOf r M')) :
    JFn P w K mg base (k + 1) x n S := by
  refine ⟨f, fd, ps, hm, F.kp, hb, hn, F.ok sc (fun vs H Q E h => ?_) fun cdv A outer s H vs Q E hr h => ?_⟩
  · obtain ⟨F0, Mx, M, ds, r, M', hl, _, rr, _⟩ := h
    rw [rr.length, hl, hn]
  · obtain ⟨F0, Mx, M, ds, r, M', hl, m, rr, hS, q⟩ := h
    refine ⟨_, body ds M r M' hl hS cdv A outer s H E ⟨hr, takes_of rfl rfl rfl rfl, passes_of rfl⟩, F0, Mx, start_sim m rr, ?_⟩
    refine ⟨fun T1 M1 σ1 F1 H1 x1 S1 hp => ?_, fun d M1 v F1 H1 x1 m1 r1 hp => ?_, fun _ _ _ _ _ _ _ z => z.elim, fun _ _ _ _ _ _ _ z => z.elim, fun y M1 σ1 cls dd F1 H1 x1 m1 r1 hp => ?_⟩
    · obtain ⟨rfl, sb⟩ := hp
      exact q _ F1 H1 x1 (S1.mem.sub sb) .non
    · obtain ⟨rfl, sb⟩ := hp
      exact q v F1 H1 x1 (m1.sub sb) r1
    · obtain ⟨rfl, sb⟩ := hp
      exact q cls dd F1 H1 x1 (m1.sub sb) r1
/-- a def that gives what f says, wherever C holds, and leaves the memory -/
def fsP (C : List D → Prop) (f : List D → D) : FS := fun ds M r M' => C ds ∧ r = .ok (f ds) ∧ M' = M
end
end J

set_option Elab.async false
set_option linter.all false
set_option maxRecDepth 100000
set_option maxHeartbeats 2000000
namespace J
open PySem PySem.Spec PyProof.Rows L2 Evl

theorem put_none {l : Addr} {d : D} : ∀ {M : Mem}, l ∉ M.map (·.1) → put M l d = M
  | [], _ => rfl
  | p :: M, h => by
    have h1 : p.1 ≠ l := fun z => h (by simp [z])
    have h2 : l ∉ M.map (·.1) := fun z => h (List.mem_cons_of_mem _ z)
    show (if p.1 = l then (l, d) else p) :: put M l d = p :: M
    rw [if_neg h1, put_none h2]
theorem put_head {l : Addr} {c d : D} {M : Mem} (h : (((l, c) :: M).map (·.1)).Nodup) : put ((l, c) :: M) l d = (l, d) :: M := by
  have h1 : l ∉ M.map (·.1) := (List.nodup_cons.mp (show (l :: M.map (·.1)).Nodup from h)).1
  show (if l = l then (l, d) else (l, c)) :: put M l d = (l, d) :: M
  rw [if_pos rfl, put_none h1]
theorem del_none {l : Addr} {M : Mem} (h : l ∉ M.map (·.1)) : del M l = M := by
  unfold del
  refine List.filter_eq_self.mpr fun p hp => decide_eq_true fun z => h (List.mem_map.mpr ⟨p, hp, z⟩)
theorem del_head {l : Addr} {c : D} {M : Mem} (h : (((l, c) :: M).map (·.1)).Nodup) : del ((l, c) :: M) l = M := by
  have h1 : l ∉ M.map (·.1) := (List.nodup_cons.mp (show (l :: M.map (·.1)).Nodup from h)).1
  have e : del ((l, c) :: M) l = del M l := by
    unfold del
    rw [List.filter_cons, if_neg (by simp)]
  rw [e, del_none h1]
/-- the block of a comprehension -/
abbrev Bk (X : Cx) (scope : Scope) (s : Shared) (H : Hp) (C : Addr) (cl : List (Str × Addr)) (fp : List Addr) : Cx := X.blk s H scope (compEnvC scope cl C X.env) fp
/-- one turn of a comprehension: from the item d at memory Ma; what is kept, the memory then -/
structure Turn1 (X : Cx) (scope : Scope) (wk : Bool) (T : Tau) (vs : List Nat) (tg : Expr) (ifs : List Expr) (elt : Expr) (d : D) (M : Mem) (o : Option D) (M' : Mem) : Prop where
  ex : ∃ T2 ts bb Ma, (∀ j ∈ ts, j ∈ vs) ∧ (∀ s H C cl fp, JG (Bk X scope s H C cl fp) wk (wipeT T vs) tg d T2 ts) ∧ (∀ s H C cl fp, PTs (Bk X scope s H C cl fp) ifs (tJT X.K T2 M bb Ma)) ∧
    match o with
    | some y => bb = true ∧ ∀ s H C cl fp, JE (Bk X scope s H C cl fp) T2 Ma elt y M'
    | none => bb = false ∧ M' = Ma
section
variable {X : Cx} {W : WX} {T T1 T2 : Tau} {M M1 M2 M3 M0 : Mem} {a b c e tg iter elt : Expr} {es ifs : List Expr} {d d1 d2 : D} {ds ds1 ds2 : List D} {pos p apos cpos : Pos} {P : Po} {scope : Scope} {own : List (Str × Nat)} {wk : Bool} {C : Mem → Prop}
/-- the readings of a block's parts -/
def uGb (X : Cx) (scope : Scope) (tg : Expr) : TG := fun v σ H Q => ∃ t, (∀ s H C cl fp, PG (Bk X scope s H C cl fp) tg t) ∧ t v σ H Q
def uTb (X : Cx) (scope : Scope) (ifs : List Expr) : TT := fun σ H Q => ∃ t, (∀ s H C cl fp, PTs (Bk X scope s H C cl fp) ifs t) ∧ t σ H Q
def uEb (X : Cx) (scope : Scope) (e : Expr) : TE := fun σ H Q => ∃ t, (∀ s H C cl fp, PE (Bk X scope s H C cl fp) e t) ∧ t σ H Q
theorem pg_ub (s : Shared) (H : Hp) (C : Addr) (cl : List (Str × Addr)) (fp : List Addr) : PG (Bk X scope s H C cl fp) tg (uGb X scope tg) := ⟨fun pins s1 σ H1 v u Q I r ⟨t, h, q⟩ => (h s H C cl fp).run pins s1 σ H1 v u Q I r q⟩
theorem pts_ub (s : Shared) (H : Hp) (C : Addr) (cl : List (Str × Addr)) (fp : List Addr) : PTs (Bk X scope s H C cl fp) ifs (uTb X scope ifs) := ⟨fun pins s1 σ H1 Q I ⟨t, h, q⟩ => (h s H C cl fp).run pins s1 σ H1 Q I q⟩
theorem pe_ub (s : Shared) (H : Hp) (C : Addr) (cl : List (Str × Addr)) (fp : List Addr) : PE (Bk X scope s H C cl fp) elt (uEb X scope elt) := ⟨fun pins s1 σ H1 Q I ⟨t, h, q⟩ => (h s H C cl fp).run pins s1 σ H1 Q I q⟩
/-- what has been kept of the first i -/
def kept (o : Nat → Option D) (i : Nat) : List D := (List.range i).filterMap o
theorem kept_succ (o : Nat → Option D) (i : Nat) : kept o (i + 1) = kept o i ++ (o i).toList := by
  unfold kept
  rw [List.range_succ, List.filterMap_append]
  cases h : o i <;> simp [h]
theorem kept_len (o : Nat → Option D) (i : Nat) : (kept o i).length ≤ i := by
  unfold kept
  exact Nat.le_trans (List.length_filterMap_le _ _) (by simp)
theorem lc_read (vs : List Nat) (o : Nat → Option D) (Ms : Nat → Mem) (hM : Ms 0 = M0) (hC : ∀ i, i ≤ ds.length → C (Ms i)) (hz : ds.length < sizeLine)
    (hs : ∀ i d, ds[i]? = some d → Turn1 X scope wk T vs tg ifs elt d (Ms i) (o i) (Ms (i + 1)))
    (σ : L2.St) (H : Hp) (Q : VK) (h : tJ X.K T M (.lst (kept o ds.length)) (Ms ds.length) σ H Q) :
    tLc (tI X.K wk T M ds C M0) (uGb X scope tg) (uTb X scope ifs) (uEb X scope elt) vs σ H Q := by
  obtain ⟨F, Mx, S, k⟩ := h
  refine ⟨F, Mx, S, fun J F1 H1 x1 S1 it => fun Dl hD => ?_⟩
  subst hM
  have m0 : MemOk X.K F1 (upd H1 Dl (.lst [])) ([] ++ (Dl, .lst []) :: (Mx ++ Ms 0)) := MemOk.new (Mx := []) (M := Mx ++ Ms 0) S1.mem hD .nil
  refine ⟨fun i m H' => m + i = ds.length ∧ ∃ F', Ex F1 F' ∧ Sim X.K (wipeT T vs) (((Dl, .lst (kept o i)) :: Mx) ++ Ms i) (wipe σ vs) F' H', ⟨ds.length, rfl, F1, Ex.refl _, (Sim.wiped (Sim.to S1 (Ex.refl _) m0) vs)⟩, ?_⟩
  rintro i m H' ⟨hm, F', x', S'⟩
  obtain ⟨g1, g2⟩ := it i F' H' ((Dl, .lst (kept o i)) :: Mx) (Ms i) x' S'.mem (hC i (by omega))
  by_cases hil : i < ds.length
  · have hd' : ds[i]? = some ds[i] := List.getElem?_eq_getElem hil
    obtain ⟨go, yl⟩ := g1 _ hd'
    refine .inr ⟨go, fun H2 => ∃ F2, Ex F1 F2 ∧ Sim X.K (wipeT T vs) (((Dl, .lst (kept o (i + 1))) :: Mx) ++ Ms (i + 1)) (wipe σ vs) F2 H2, fun H2 hN => ⟨m - 1, by omega, by omega, hN⟩, fun x H2 hy => ?_⟩
    obtain ⟨F2, gr, rx⟩ := yl x H2 hy
    obtain ⟨T2, ts, bb, Ma, hts, hg, ht, ho⟩ := (hs i _ hd').ex
    have e2 : Ex F1 F2 := x'.trans gr.ff
    refine ⟨tG X.K wk (wipeT T vs) ds[i] T2 ts, fun s H C cl fp => hg s H C cl fp, F2, _, S'.gr gr, rx, fun σ2 S2 hw => ⟨?_, ?_⟩⟩
    · have z : wipe (wipe σ vs) vs = wipe σ vs := by
        refine List.ext_getElem? fun q => ?_
        rw [wipe_at, wipe_at]
        by_cases hq : q ∈ vs
        · rw [if_pos hq, if_pos hq]
          cases σ[q]? <;> rfl
        · rw [if_neg hq, if_neg hq]
      exact (hw vs hts).trans z
    · have back : ∀ {M' : Mem} {F4 H4 : Hp}, Ex F2 F4 → MemOk X.K F4 H4 M' → Sim X.K (wipeT T vs) M' (wipe σ vs) F4 H4 := fun {M' F4 H4} x4 m4 => Sim.to S' (gr.ff.trans x4) m4
      refine ⟨tJT X.K T2 (Ms i) bb Ma, fun s H C cl fp => ht s H C cl fp, F2, (Dl, .lst (kept o i)) :: Mx, S2, fun F3 H3 x3 S3 => ?_⟩
      cases hoi : o i with
      | none =>
        rw [hoi] at ho
        obtain ⟨rfl, hMa⟩ := ho
        refine iteF ⟨F3, e2.trans x3, ?_⟩
        rw [kept_succ, hoi, Option.toList, List.append_nil, hMa]
        exact back x3 S3.mem
      | some y =>
        rw [hoi] at ho
        obtain ⟨rfl, hE⟩ := ho
        refine iteT ⟨tJ X.K T2 Ma y (Ms (i + 1)), fun s H C cl fp => hE s H C cl fp, F3, (Dl, .lst (kept o i)) :: Mx, S3, fun v F4 H4 x4 S4 r4 => ?_⟩
        have hl : (((Dl, .lst (kept o i)) :: Mx) ++ Ms (i + 1)).lookup Dl = some (.lst (kept o i)) := by simp
        obtain ⟨_, acc, hacc, racc⟩ := S4.mem.cell _ (lookup_mem hl)
        refine ⟨acc, hacc, by rw [racc.length]; have := kept_len o i; omega, F4, e2.trans (x3.trans x4), ?_⟩
        have m5 : MemOk X.K F4 (upd H4 Dl (.lst (acc ++ [v]))) ([] ++ put (((Dl, .lst (kept o i)) :: Mx) ++ Ms (i + 1)) Dl (.lst (kept o i ++ [y]))) := MemOk.store (Mx := []) S4.mem hl (racc.append (.cons r4 .nil))
        have nd := S4.mem.nd
        have e6 : put (((Dl, .lst (kept o i)) :: Mx) ++ Ms (i + 1)) Dl (.lst (kept o i ++ [y])) = ((Dl, .lst (kept o i ++ [y])) :: Mx) ++ Ms (i + 1) := put_head nd
        rw [List.nil_append, e6] at m5
        rw [kept_succ, hoi, Option.toList]
        exact back (x3.trans x4) m5
  · have e : i = ds.length := by omega
    subst e
    have hl : (((Dl, .lst (kept o ds.length)) :: Mx) ++ Ms ds.length).lookup Dl = some (.lst (kept o ds.length)) := by simp
    have nd := S'.mem.nd
    obtain ⟨F5, x5, m5, r5⟩ := MemOk.freeze (Mx := []) (M := ((Dl, .lst (kept o ds.length)) :: Mx) ++ Ms ds.length) S'.mem hl
    have e6 : del (((Dl, .lst (kept o ds.length)) :: Mx) ++ Ms ds.length) Dl = Mx ++ Ms ds.length := del_head nd
    rw [List.nil_append, e6] at m5
    exact .inl ⟨g2 (by omega), k _ F5 H' ((x1.trans x').trans x5) (Sim.to S1 (x'.trans x5) m5) r5⟩
/-- [elt for tg in iter if ..] -/
theorem je_lc (hc : X.calm = true) (hN : X.N.Nodup) (hi : JI X wk T M tg iter ds C M0) (ok : BlkOk X.N X.env.scope scope own) (o : Nat → Option D) (Ms : Nat → Mem) (hM : Ms 0 = M0) (hC : ∀ i, i ≤ ds.length → C (Ms i)) (hz : ds.length < sizeLine)
    (hs : ∀ i d, ds[i]? = some d → Turn1 X scope wk T (own.map (·.2)) tg ifs elt d (Ms i) (o i) (Ms (i + 1))) (hf : ∀ x, foldedSetIterable iter X.env x = pure x := by intro _; rfl) :
    JE X T M (.ListComp elt [⟨tg, iter, ifs, 0⟩] scope pos) (.lst (kept o ds.length)) (Ms ds.length) :=
  PE.imp (pe_lc hc hN hi ok pg_ub pts_ub pe_ub hf) fun σ H Q h => lc_read _ o Ms hM hC hz hs σ H Q h
/-- y = [elt for tg in iter if ..] -/
theorem js_lc {i : Nat} {y : Str} {py spos : Pos} (hc : X.calm = true) (hN : X.N.Nodup) (hy : X.N[i]? = some y) (hyl : X.env.scope.names.lookup y = some .local) (hsw : swapsWith (.ListComp elt [⟨tg, iter, ifs, 0⟩] scope pos) (some (.Name y py)) spos.line X.env = pure true)
    (hi : JI X wk T M tg iter ds C M0) (ok : BlkOk X.N X.env.scope scope own) (o : Nat → Option D) (Ms : Nat → Mem) (hM : Ms 0 = M0) (hC : ∀ i, i ≤ ds.length → C (Ms i)) (hz : ds.length < sizeLine)
    (hs : ∀ i d, ds[i]? = some d → Turn1 X scope wk T (own.map (·.2)) tg ifs elt d (Ms i) (o i) (Ms (i + 1))) (h : P.nx (T.set i (some (.lst (kept o ds.length)))) (Ms ds.length)) (hf : ∀ x, foldedSetIterable iter X.env x = pure x := by intro _; rfl) :
    JS X W T M (.Assign [.Name y py] (.ListComp elt [⟨tg, iter, ifs, 0⟩] scope pos) spos) P := by
  refine ⟨fun pins s σ H D I ⟨F, Mx, S, w⟩ => ?_⟩
  have hl : i < σ.length := by
    rw [I.len]
    exact (List.getElem?_eq_some_iff.mp hy).1
  refine (ps_setLc hc hN hy hyl hsw hi ok pg_ub pts_ub pe_ub hf).run pins s σ H D I ?_
  exact lc_read _ o Ms hM hC hz hs σ H _ ⟨F, Mx, S, fun v F1 H1 x1 S1 r1 => w.nx _ _ _ F1 H1 x1 (S1.set hl r1) h⟩
/-- the pure comprehension: what item d gives, if it is kept -/
theorem kept_map (f : D → Option D) : ∀ ds : List D, kept (fun i => (ds[i]?).bind f) ds.length = ds.filterMap f := by
  intro ds
  have key : ∀ n, n ≤ ds.length → kept (fun i => (ds[i]?).bind f) n = (ds.take n).filterMap f := by
    intro n
    induction n with
    | zero => intro _; rfl
    | succ n ih =>
      intro hn
      rw [kept_succ, ih (by omega), List.take_succ, List.filterMap_append]
      congr 1
      rw [List.getElem?_eq_getElem (by omega : n < ds.length)]
      cases h : f ds[n] <;> simp [h]
  rw [key _ (Nat.le_refl _), List.take_length]
theorem je_lcP (hc : X.calm = true) (hN : X.N.Nodup) (hi : JI X wk T M tg iter ds C M1) (ok : BlkOk X.N X.env.scope scope own) (f : D → Option D) (hC : C M1) (hz : ds.length < sizeLine)
    (hs : ∀ d, d ∈ ds → Turn1 X scope wk T (own.map (·.2)) tg ifs elt d M1 (f d) M1) (hf : ∀ x, foldedSetIterable iter X.env x = pure x := by intro _; rfl) :
    JE X T M (.ListComp elt [⟨tg, iter, ifs, 0⟩] scope pos) (.lst (ds.filterMap f)) M1 := by
  have h := je_lc (pos := pos) hc hN hi ok (fun i => (ds[i]?).bind f) (fun _ => M1) rfl (fun _ _ => hC) hz (fun i d hd => by
    show Turn1 X scope wk T (own.map (·.2)) tg ifs elt d M1 ((ds[i]?).bind f) M1
    rw [hd]
    exact hs d (List.mem_of_getElem? hd)) hf
  rw [kept_map] at h
  exact h
theorem js_lcP {i : Nat} {y : Str} {py spos : Pos} (hc : X.calm = true) (hN : X.N.Nodup) (hy : X.N[i]? = some y) (hyl : X.env.scope.names.lookup y = some .local) (hsw : swapsWith (.ListComp elt [⟨tg, iter, ifs, 0⟩] scope pos) (some (.Name y py)) spos.line X.env = pure true)
    (hi : JI X wk T M tg iter ds C M1) (ok : BlkOk X.N X.env.scope scope own) (f : D → Option D) (hC : C M1) (hz : ds.length < sizeLine)
    (hs : ∀ d, d ∈ ds → Turn1 X scope wk T (own.map (·.2)) tg ifs elt d M1 (f d) M1) (h : P.nx (T.set i (some (.lst (ds.filterMap f)))) M1) (hf : ∀ x, foldedSetIterable iter X.env x = pure x := by intro _; rfl) :
    JS X W T M (.Assign [.Name y py] (.ListComp elt [⟨tg, iter, ifs, 0⟩] scope pos) spos) P := by
  rw [← kept_map] at h
  exact js_lc hc hN hy hyl hsw hi ok (fun i => (ds[i]?).bind f) (fun _ => M1) rfl (fun _ _ => hC) hz (fun i d hd => by
    show Turn1 X scope wk T (own.map (·.2)) tg ifs elt d M1 ((ds[i]?).bind f) M1
    rw [hd]
    exact hs d (List.mem_of_getElem? hd)) h hf
/-- a turn without tests -/
theorem turn_all {y : D} {M' : Mem} {ts vs : List Nat} (hts : ∀ j ∈ ts, j ∈ vs) (hg : ∀ s H C cl fp, JG (Bk X scope s H C cl fp) wk (wipeT T vs) tg d T2 ts) (he : ∀ s H C cl fp, JE (Bk X scope s H C cl fp) T2 M elt y M') : Turn1 X scope wk T vs tg [] elt d M (some y) M' :=
  ⟨T2, ts, true, M, hts, hg, fun s H C cl fp => ⟨fun pins s1 σ H1 Q I ⟨F, Mx, S, k⟩ => pts_nil.run pins s1 σ H1 Q I (k F H1 (Ex.refl _) S)⟩, rfl, he⟩
/-- a turn with one test -/
theorem turn_if {y : D} {Ma M' : Mem} {ts vs : List Nat} {bb : Bool} (hts : ∀ j ∈ ts, j ∈ vs) (hg : ∀ s H C cl fp, JG (Bk X scope s H C cl fp) wk (wipeT T vs) tg d T2 ts) (ht : ∀ s H C cl fp, JT (Bk X scope s H C cl fp) T2 M c bb Ma) (he : bb = true → ∀ s H C cl fp, JE (Bk X scope s H C cl fp) T2 Ma elt y M') (hM : bb = false → M' = Ma) :
    Turn1 X scope wk T vs tg [c] elt d M (if bb then some y else none) M' := by
  refine ⟨T2, ts, bb, Ma, hts, hg, fun s H C cl fp => pts_one (ht s H C cl fp), ?_⟩
  cases bb with
  | true => exact ⟨rfl, he rfl⟩
  | false => exact ⟨rfl, hM rfl⟩
end
end J

set_option Elab.async false
set_option linter.all false
set_option maxRecDepth 100000
set_option maxHeartbeats 4000000
namespace J
open PySem PySem.Spec PyProof.Rows L2 Evl
open AutoSeq1 (wpAny_loadPart')
/-! ### enumerate(tuple) -/
theorem meets_enumT (l : Addr) (items : Array Value) (n : Nat) (dct : Option Addr) (sl : Array (Option Value)) :
    Meets (Builtin.«enumerate.__new__» ⟨[.type "enumerate", .ref l], []⟩) (fun _ R s => s.heap.get? l = some { cls := .type "tuple", dict := dct, data := .seq items n, slots := sl } ∧
      R (.ok (.ret (.ref (s.heap.push { cls := .type "tuple_iterator", data := .fields #[.ref l, .int 0 0] }).objs.size)))
        { s with heap := (s.heap.push { cls := .type "tuple_iterator", data := .fields #[.ref l, .int 0 0] }).push { cls := .type "enumerate", data := .fields #[.none, .bool false, .ref s.heap.objs.size, rawInt 0, .none, .none] } }) :=
  .of_wp fun prog w A R s h => by
    obtain ⟨hp, g, d, tk, os⟩ := s; obtain ⟨hl, h⟩ := h
    have hsub := sub_enumerate
    have hL : Heap.IsTuple (Shared.heap ⟨hp, g, d, tk, os⟩) l items := ⟨_, hl, rfl, n, rfl⟩
    wp_walk using wpAny_loadPart' hl
    refine wpAny_stack_any fun st => wpAny_pure ?_
    split
    · rename_i c _ _ _ _ _
      cases (c == Value.type "enumerate")
      · wp_walk using wpAny_loadPart' hl, wpAny_pyIter_tuple hL
        exact ⟨_, rfl, h⟩
      · wp_walk using wpAny_loadPart' hl, wpAny_pyIter_tuple hL
        exact ⟨_, rfl, h⟩
    · wp_walk using wpAny_loadPart' hl, wpAny_pyIter_tuple hL
      exact ⟨_, rfl, h⟩
section
variable {prog : Program} {w : World} {A : Around} {E : Value → Shared → Prop} {s : Shared}
theorem call_enumT {l : Addr} {items : Array Value} {Q : Value → Shared → Prop} (hL : s.heap.IsTuple l items)
    (h : ∀ h', IsEnum h' (s.heap.objs.size + 1) s.heap.objs.size 0 .none → h'.IsTupleIter s.heap.objs.size l 0 → h'.objs.size = s.heap.objs.size + 2 →
      (∀ b o, s.heap.get? b = some o → h'.get? b = some o) → Q (.ref (s.heap.objs.size + 1)) { s with heap := h' }) :
    wpAny (model prog w) A (call (.type "enumerate") [.ref l]) Q E s := by
  obtain ⟨⟨c, dct, dt, sl⟩, hl, hc, n, hd⟩ := hL
  replace hc : c = .type "tuple" := hc
  replace hd : dt = .seq items n := hd
  subst hc hd
  refine callType_new PySem.F.called_enumerate (by decide) (PySem.F.typeCall_enumerate_1 _) (PySem.F.newCall_enumerate_1 _) (fun obj => PySem.F.args_object_init_2 obj _) PySem.F.entry_enumerate_new
    (meets_enumT l items n dct sl) ⟨hl, ?_⟩
  have hz : (s.heap.push { cls := .type "tuple_iterator", data := .fields #[.ref l, .int 0 0] }).objs.size = s.heap.objs.size + 1 := Heap.size_push ..
  show _ ∧ _
  rw [hz]
  have he : IsEnum ((s.heap.push { cls := .type "tuple_iterator", data := .fields #[.ref l, .int 0 0] }).push
      { cls := .type "enumerate", data := .fields #[.none, .bool false, .ref s.heap.objs.size, rawInt 0, .none, .none] }) (s.heap.objs.size + 1) s.heap.objs.size 0 .none := by
    have := Heap.get?_push_size (s.heap.push { cls := .type "tuple_iterator", data := .fields #[.ref l, .int 0 0] })
      (o := { cls := .type "enumerate", data := .fields #[.none, .bool false, .ref s.heap.objs.size, rawInt 0, .none, .none] }) rfl
    rw [hz] at this; exact this
  refine ⟨⟨_, he, rfl⟩, h _ he ⟨_, Heap.get?_push_of_some _ (Heap.get?_push_size _ rfl), rfl, rfl⟩ (by rw [Heap.size_push, hz]) fun b o x => Heap.get?_push_of_some _ (Heap.get?_push_of_some _ x)⟩
end
def IteT (K : PySem.W.Frag) (a : Addr) : It :=
  ⟨fun i H => ∃ (xs : List V) (x : V), SqT K H a xs ∧ xs[i]? = some x, fun i H v H' => ∃ T x, v = .ref T ∧ H T = none ∧ H' = upd H T (.tup [.int (i : Nat), x]) ∧ ∀ xs, SqT K H a xs → xs[i]? = some x, fun i H => ∃ xs : List V, SqT K H a xs ∧ xs.length = i⟩
theorem turn_enumT {P : Program} {w : World} {K : PySem.W.Frag} {elts : List Expr} {kk : Nat} {tpos : Pos} (a e it : Addr) :
    L2.Turn P w K (.Tuple elts kk tpos) (IteT K a) [e, it] e (fun i h => (∃ old, IsEnum h e it ((i : Nat) : Int) old) ∧ h.IsTupleIter it a i ∧ e ≠ it) where
  mem := by simp
  obj := fun i h st b hb => by
    obtain ⟨⟨old, he⟩, ⟨o, ho, hc, hd⟩, _⟩ := st
    have e' : b = e ∨ b = it := by simpa using hb
    rcases e' with z | z
    · rw [z]; exact ⟨_, he, fun v q => nomatch q⟩
    · rw [z]; exact ⟨o, ho, fun v q => by rw [hd] at q; cases q⟩
  keep := fun i h h' st k => let ⟨⟨old, he⟩, hi, hne⟩ := st; ⟨⟨old, k e (by simp) _ he⟩, hi.at fun o q => k it (by simp) o q, hne⟩
  item := by
    intro X hP hw hK hc i pins s σ H E I hf st hg
    subst hP hw hK
    obtain ⟨⟨old, he⟩, hit, hne⟩ := st
    obtain ⟨xs, x, hq, hx⟩ := hg
    obtain ⟨its, rv, p, hz⟩ := I.tuple hq
    obtain ⟨u, hu, ru⟩ := rv.get hx
    have hel : e < s.heap.objs.size := Heap.lt_size he
    have hil : it < s.heap.objs.size := by obtain ⟨_, q, _⟩ := hit; exact Heap.lt_size q
    have hai : a ≠ it := fun z => by
      obtain ⟨o, h1, h2, _⟩ := p
      obtain ⟨o', h3, h4, _⟩ := hit
      rw [z, h3] at h1
      cases h1
      rw [h4] at h2
      injection h2 with h2
      exact absurd h2 (by decide)
    have hae : a ≠ e := fun z => by
      obtain ⟨o, h1, h2, _⟩ := p
      have h3 : s.heap.get? e = some _ := he
      rw [z, h3] at h1
      cases h1
      injection h2 with h2
      exact absurd h2 (by decide)
    have hin : i < its.toArray.size := by
      have h1 := (List.getElem?_eq_some_iff.mp hu).1
      simpa using h1
    refine wpAny_pyNext_enum_itemC (D := Draws.tuple (A := X.A.in1) (I.ok.hd hc) it a hai its.toArray) he ⟨hit, p⟩ hin hne (by simp [hne, Ne.symm hae]) fun y h' tk hy ho hst hT hsz hk => ?_
    have ey : y = u := Option.some.inj (hy.symm.trans (by simpa using hu))
    subst ey
    refine ⟨_, rfl, wpAny_letOwnedTupleGo_enum (s := { s with heap := h', toks := tk + 1 }) ho fun h'' he' sb => ?_⟩
    have hT2 : h''.get? s.heap.objs.size = some { cls := .type "tuple", data := .seq #[.int i tk, y] } := (sb.2 _ (Nat.ne_of_gt hel)).trans hT
    have new : ObjOk X.prog X.w (upd H s.heap.objs.size (.tup [.int (i : Nat), x])) h'' s.heap.objs.size (.tup [.int (i : Nat), x]) :=
      ⟨by show 2 ≤ sizeLine; decide, [.int i tk, y], .cons ⟨_, rfl⟩ (.cons ru .nil), ⟨_, hT2, rfl, _, rfl⟩⟩
    have I1 : Inv X pins σ (upd H s.heap.objs.size (.tup [.int (i : Nat), x])) { s with heap := h'', toks := tk + 1 } :=
      I.turnedNew (ch := [e, it]) (fun b ob hb q => (sb.2 b (fun z => hb (by simp [z]))).trans (hk b ob (fun z => hb (by simp [z])) (fun z => hb (by simp [z])) q)) hf (Nat.le_refl _) new
    refine ⟨.ref s.heap.objs.size, _, I1, rfl, ⟨_, x, rfl, I.hok.fresh (Nat.le_refl _), rfl, fun ys hy => by rw [I.tuple_inj hy hq]; exact hx⟩, ⟨⟨y, ?_⟩, hst.1.at fun o q => (sb.2 it (Ne.symm hne)).trans q, hne⟩, fun b hb => ?_⟩
    · have e1 : ((i + 1 : Nat) : Int) = (i : Int) + 1 := by omega
      rw [e1]; exact he'
    · have hb' : b < s.heap.objs.size := by
        have e' : b = e ∨ b = it := by simpa using hb
        rcases e' with z | z
        · rw [z]; exact hel
        · rw [z]; exact hil
      rw [upd_ne (Nat.ne_of_lt hb')]
      exact (hf b hb).1
  done := by
    intro X hP hw hK hc i pins s σ H E I hf st hg
    subst hP hw hK
    obtain ⟨⟨old, he⟩, hit, hne⟩ := st
    obtain ⟨xs, hq, hx⟩ := hg
    obtain ⟨its, rv, p, hz⟩ := I.tuple hq
    obtain ⟨f0, f1, f2, f3, f4, f5⟩ := hf it (by simp)
    have hl := rv.length
    have hai : a ≠ it := fun z => by
      obtain ⟨o, h1, h2, _⟩ := p
      obtain ⟨o', h3, h4, _⟩ := hit
      rw [z, h3] at h1
      cases h1
      rw [h4] at h2
      injection h2 with h2
      exact absurd h2 (by decide)
    have hin : its.toArray.size = i := by simp; omega
    refine wpAny_pyNext_enum_endD (D := Draws.tuple (A := X.A.in1) (I.ok.hd hc) it a hai its.toArray) he ⟨by rw [hin]; exact hit, p⟩ fun h' eb => ⟨rfl, I.turned (t' := s.toks) (fun b o hb q => eb b o hb q) f0 f1 f3 f4 f5⟩
  self := fun A i s Q E st h => let ⟨⟨_, he⟩, _⟩ := st; wpAny_pyIter_enum he h
def iEnumT (K : PySem.W.Frag) (ta : TA) : TI := fun σ H R => ta σ H fun vs H1 => ∃ a xs, vs = [.ref a] ∧ SqT K H1 a xs ∧ R (IteT K a) H1
theorem pi_enumT {X : Cx} {e : Expr} {ta : TA} {p pos tpos : Pos} {elts : List Expr} {kk : Nat} (hg : Gl X "enumerate") (hm : X.mg "enumerate" = none) (ha : PA X [e] ta) (hs : starEach [e] X.env = [(false, eval e X.env)] := by rfl) :
    PI X (.Tuple elts kk tpos) (.Call (.Name "enumerate" p) [e] [] pos) (iEnumT X.K ta) := by
  refine ⟨fun pins s σ H R I h => ?_⟩
  refine Call_ (ld_blt I hg hm boot_enumerate (PyProof.Rows.callWith_type1 (thn (ha.run pos pins s σ H _ I h) fun us s1 ⟨vs, H1, I1, r1, q1⟩ => ?_) hs rfl))
  obtain ⟨a, xs, ex, hq, q⟩ := q1
  subst ex
  cases r1 with
  | cons r rr =>
    cases rr
    cases r
    obtain ⟨its, rv, p', hz⟩ := I1.tuple hq
    refine call_enumT (show s1.heap.IsTuple a its.toArray from p') fun h' he hit hsz hk => wpAny_pyIter_enum he ?_
    have I2 : Inv X pins σ H1 { s1 with heap := h' } := I1.kept (t' := s1.toks) hk
    refine ⟨s1.heap.objs.size + 1, [s1.heap.objs.size + 1, s1.heap.objs.size], _, _, H1, rfl, I2, turn_enumT a (s1.heap.objs.size + 1) s1.heap.objs.size, ⟨⟨.none, he⟩, hit, Nat.succ_ne_self _⟩, fun b hb => ?_, q⟩
    have e' : b = s1.heap.objs.size + 1 ∨ b = s1.heap.objs.size := by simpa using hb
    have hle : s1.heap.objs.size ≤ b := by
      rcases e' with z | z
      · rw [z]; exact Nat.le_add_right _ _
      · rw [z]; exact Nat.le_refl _
    exact I1.fpOk hle (I1.hok.fresh hle)

/-! ### zip of three tuples -/
def Itz3 (K : PySem.W.Frag) (a b c : Addr) : It :=
  ⟨fun i H => ∃ (xs ys zs : List V) (x y z : V), SqT K H a xs ∧ SqT K H b ys ∧ SqT K H c zs ∧ xs[i]? = some x ∧ ys[i]? = some y ∧ zs[i]? = some z,
    fun i H v H' => ∃ T x y z, v = .ref T ∧ H T = none ∧ H' = upd H T (.tup [x, y, z]) ∧ (∀ xs, SqT K H a xs → xs[i]? = some x) ∧ (∀ ys, SqT K H b ys → ys[i]? = some y) ∧ ∀ zs, SqT K H c zs → zs[i]? = some z,
    fun i H => ∃ xs ys zs : List V, SqT K H a xs ∧ SqT K H b ys ∧ SqT K H c zs ∧ i ≤ xs.length ∧ i ≤ ys.length ∧ i ≤ zs.length ∧ (i = xs.length ∨ i = ys.length ∨ i = zs.length)⟩
theorem tup_not {h : Heap} {a b : Addr} {its : Array Value} {o : Obj} {n : String} (p : IsTup h a its) (hb : h.get? b = some o) (hc : o.cls = .type n) (hn : n ≠ "tuple") : a ≠ b := fun z => by
  obtain ⟨o', h1, h2, _⟩ := p
  rw [z, hb] at h1
  cases h1
  rw [hc] at h2
  injection h2 with h2
  exact hn h2
theorem turn_zip3 {P : Program} {w : World} {K : PySem.W.Frag} {elts : List Expr} {kk : Nat} {tpos : Pos} {a b c : Addr} {N : Nat} (ha : a < N) (hb : b < N) (hcN : c < N) :
    L2.Turn P w K (.Tuple elts kk tpos) (Itz3 K a b c) [N + 5, N + 3, N + 4, N, N + 1, N + 2] (N + 5) (fun i h => IsZip h (N + 5) (N + 3) (N + 4) .none ∧ IsTupOf3 h (N + 3) (.ref N) (.ref (N + 1)) (.ref (N + 2)) ∧ (∃ x y z, IsTupOf3 h (N + 4) x y z) ∧ h.IsTupleIter N a i ∧ h.IsTupleIter (N + 1) b i ∧ h.IsTupleIter (N + 2) c i) where
  mem := by simp
  obj := fun i h st q hq => by
    obtain ⟨hz, hTI, ⟨x, y, z, hTO⟩, ⟨o1, e1, _, d1⟩, ⟨o2, e2, _, d2⟩, ⟨o3, e3, _, d3⟩⟩ := st
    have e' : q = N + 5 ∨ q = N + 3 ∨ q = N + 4 ∨ q = N ∨ q = N + 1 ∨ q = N + 2 := by simpa using hq
    rcases e' with e | e | e | e | e | e
    · rw [e]; exact ⟨_, hz, fun v q => nomatch q⟩
    · rw [e]; exact ⟨_, hTI, fun v q => nomatch q⟩
    · rw [e]; exact ⟨_, hTO, fun v q => nomatch q⟩
    · rw [e]; exact ⟨o1, e1, fun v q => by rw [d1] at q; cases q⟩
    · rw [e]; exact ⟨o2, e2, fun v q => by rw [d2] at q; cases q⟩
    · rw [e]; exact ⟨o3, e3, fun v q => by rw [d3] at q; cases q⟩
  keep := fun i h h' st k => by
    obtain ⟨hz, hTI, ⟨x, y, z, hTO⟩, h1, h2, h3⟩ := st
    exact ⟨k (N + 5) (by simp) _ hz, k (N + 3) (by simp) _ hTI, ⟨x, y, z, k (N + 4) (by simp) _ hTO⟩, h1.at fun o q => k N (by simp) o q, h2.at fun o q => k (N + 1) (by simp) o q, h3.at fun o q => k (N + 2) (by simp) o q⟩
  item := by
    intro X hP hw hK hcl i pins s σ H E I hf st hg
    subst hP hw hK
    obtain ⟨hz, hTI, ⟨x0, y0, z0, hTO⟩, h1, h2, h3⟩ := st
    obtain ⟨xs, ys, zs, x, y, z, hqx, hqy, hqz, hx, hy, hzz⟩ := hg
    obtain ⟨its, rv, p, _⟩ := I.tuple hqx
    obtain ⟨its2, rv2, p2, _⟩ := I.tuple hqy
    obtain ⟨its3, rv3, p3, _⟩ := I.tuple hqz
    obtain ⟨u, hu, ru⟩ := rv.get hx
    obtain ⟨u2, hu2, ru2⟩ := rv2.get hy
    obtain ⟨u3, hu3, ru3⟩ := rv3.get hzz
    have hzl : N + 5 < s.heap.objs.size := Heap.lt_size hz
    have n1 : i < its.toArray.size := by have := (List.getElem?_eq_some_iff.mp hu).1; simpa using this
    have n2 : i < its2.toArray.size := by have := (List.getElem?_eq_some_iff.mp hu2).1; simpa using this
    have n3 : i < its3.toArray.size := by have := (List.getElem?_eq_some_iff.mp hu3).1; simpa using this
    have hd := I.ok.hd hcl
    have S := zip_sep3 (N := N) (fp1 := [a]) (fp2 := [b]) (fp3 := [c]) (fun q hq => by rw [List.mem_singleton.mp hq]; exact ha) (fun q hq => by rw [List.mem_singleton.mp hq]; exact hb) (fun q hq => by rw [List.mem_singleton.mp hq]; exact hcN)
    refine wpAny_pyNext_zipD3_item S (Draws.tuple (A := X.A.in1) hd N a (Nat.ne_of_lt ha) its.toArray) (Draws.tuple (A := X.A.in1) hd (N + 1) b (Nat.ne_of_lt (Nat.lt_succ_of_lt hb)) its2.toArray) (Draws.tuple (A := X.A.in1) hd (N + 2) c (Nat.ne_of_lt (Nat.lt_succ_of_lt (Nat.lt_succ_of_lt hcN))) its3.toArray)
      hz hTI hTO ⟨h1, p⟩ ⟨h2, p2⟩ ⟨h3, p3⟩ n1 n2 n3 fun v1 v2 v3 h' tk y1 y2 y3 z' TO' s1 s2 s3 hT hsz hk => ?_
    have e1 : v1 = u := Option.some.inj (y1.symm.trans (by simpa using hu))
    have e2 : v2 = u2 := Option.some.inj (y2.symm.trans (by simpa using hu2))
    have e3 : v3 = u3 := Option.some.inj (y3.symm.trans (by simpa using hu3))
    subst e1 e2 e3
    refine ⟨_, rfl, wpAny_letOwnedTupleGo_zip (s := { s with heap := h', toks := tk }) z' fun h'' z'' sb => ?_⟩
    have hT2 : h''.get? s.heap.objs.size = some { cls := .type "tuple", data := .seq #[v1, v2, v3] } := (sb.2 _ (Nat.ne_of_gt hzl)).trans hT
    have new : ObjOk X.prog X.w (upd H s.heap.objs.size (.tup [x, y, z])) h'' s.heap.objs.size (.tup [x, y, z]) :=
      ⟨by show 3 ≤ sizeLine; decide, [v1, v2, v3], .cons ru (.cons ru2 (.cons ru3 .nil)), ⟨_, hT2, rfl, _, rfl⟩⟩
    have I1 : Inv X pins σ (upd H s.heap.objs.size (.tup [x, y, z])) { s with heap := h'', toks := tk } :=
      I.turnedNew (t' := tk) (ch := [N + 5, N + 3, N + 4, N, N + 1, N + 2]) (fun q o hb q' => (sb.2 q (fun w => hb (by simp [w]))).trans (hk q o (fun w => hb (by simp [w])) (fun w => hb (by simp [w])) (fun w => hb (by simp [w])) (fun w => hb (by simp [w])) (fun w => hb (by simp [w])) q')) hf (Nat.le_refl _) new
    refine ⟨.ref s.heap.objs.size, _, I1, rfl, ⟨_, x, y, z, rfl, I.hok.fresh (Nat.le_refl _), rfl, fun l hl => by rw [I.tuple_inj hl hqx]; exact hx, fun l hl => by rw [I.tuple_inj hl hqy]; exact hy, fun l hl => by rw [I.tuple_inj hl hqz]; exact hzz⟩, ⟨z'', ?_, ⟨v1, v2, v3, ?_⟩, ?_, ?_, ?_⟩, fun q hq => ?_⟩
    · exact (sb.2 _ (show (N + 3 : Nat) ≠ N + 5 by omega)).trans (hk _ _ (show (N + 3 : Nat) ≠ N + 5 by omega) (show (N + 3 : Nat) ≠ N + 4 by omega) (show (N + 3 : Nat) ≠ N by omega) (show (N + 3 : Nat) ≠ N + 1 by omega) (show (N + 3 : Nat) ≠ N + 2 by omega) hTI)
    · exact (sb.2 _ (show (N + 4 : Nat) ≠ N + 5 by omega)).trans TO'
    · exact s1.1.at fun o q => (sb.2 _ (show (N : Nat) ≠ N + 5 by omega)).trans q
    · exact s2.1.at fun o q => (sb.2 _ (show (N + 1 : Nat) ≠ N + 5 by omega)).trans q
    · exact s3.1.at fun o q => (sb.2 _ (show (N + 2 : Nat) ≠ N + 5 by omega)).trans q
    · have hlt : q < s.heap.objs.size := by
        have hzl' : (N + 5 : Nat) < s.heap.objs.size := hzl
        have e' : q = N + 5 ∨ q = N + 3 ∨ q = N + 4 ∨ q = N ∨ q = N + 1 ∨ q = N + 2 := by simpa using hq
        have e'' : (q : Nat) ≤ N + 5 := by
          rcases e' with e | e | e | e | e | e <;> rw [e]
          · exact Nat.le_refl _
          · exact Nat.le_of_lt (by show (N + 3 : Nat) < N + 5; omega)
          · exact Nat.le_of_lt (by show (N + 4 : Nat) < N + 5; omega)
          · exact Nat.le_of_lt (by show (N : Nat) < N + 5; omega)
          · exact Nat.le_of_lt (by show (N + 1 : Nat) < N + 5; omega)
          · exact Nat.le_of_lt (by show (N + 2 : Nat) < N + 5; omega)
        exact Nat.lt_of_le_of_lt e'' hzl'
      rw [upd_ne (Nat.ne_of_lt hlt)]
      exact (hf q hq).1
  done := by
    intro X hP hw hK hcl i pins s σ H E I hf st hg
    subst hP hw hK
    obtain ⟨hz, hTI, ⟨x0, y0, z0, hTO⟩, h1, h2, h3⟩ := st
    obtain ⟨xs, ys, zs, hqx, hqy, hqz, l1, l2, l3, hend⟩ := hg
    obtain ⟨its, rv, p, _⟩ := I.tuple hqx
    obtain ⟨its2, rv2, p2, _⟩ := I.tuple hqy
    obtain ⟨its3, rv3, p3, _⟩ := I.tuple hqz
    have r1 := rv.length
    have r2 := rv2.length
    have r3 := rv3.length
    have hd := I.ok.hd hcl
    have S := zip_sep3 (N := N) (fp1 := [a]) (fp2 := [b]) (fp3 := [c]) (fun q hq => by rw [List.mem_singleton.mp hq]; exact ha) (fun q hq => by rw [List.mem_singleton.mp hq]; exact hb) (fun q hq => by rw [List.mem_singleton.mp hq]; exact hcN)
    refine wpAny_pyNext_zipD3_end S (Draws.tuple (A := X.A.in1) hd N a (Nat.ne_of_lt ha) its.toArray) (Draws.tuple (A := X.A.in1) hd (N + 1) b (Nat.ne_of_lt (Nat.lt_succ_of_lt hb)) its2.toArray) (Draws.tuple (A := X.A.in1) hd (N + 2) c (Nat.ne_of_lt (Nat.lt_succ_of_lt (Nat.lt_succ_of_lt hcN))) its3.toArray)
      hz hTI hTO ⟨h1, p⟩ ⟨h2, p2⟩ ⟨h3, p3⟩ (by simp; omega) (by simp; omega) (by simp; omega) (by simp; omega) fun h' tk hk => ⟨rfl, I.turnedL (t' := tk) (ch := [N + 5, N + 3, N + 4, N, N + 1, N + 2]) (fun q o hb q' =>
      hk q o (fun w => hb (by simp [w])) (fun w => hb (by simp [w])) (fun w => hb (by simp [w])) (fun w => hb (by simp [w])) (fun w => hb (by simp [w])) q') hf⟩
  self := fun A i s Q E st h => wpAny_pyIter_zip st.1 h
def iZip3 (K : PySem.W.Frag) (ta : TA) : TI := fun σ H R => ta σ H fun vs H1 => ∃ a b c xs ys zs, vs = [.ref a, .ref b, .ref c] ∧ SqT K H1 a xs ∧ SqT K H1 b ys ∧ SqT K H1 c zs ∧ R (Itz3 K a b c) H1
theorem pi_zip3 {X : Cx} {e e2 e3 : Expr} {ta : TA} {p pos tpos : Pos} {elts : List Expr} {kk : Nat} (hg : Gl X "zip") (hm : X.mg "zip" = none) (ha : PA X [e, e2, e3] ta)
    (hs : starEach [e, e2, e3] X.env = (false, eval e X.env) :: starEach [e2, e3] X.env := by rfl) (hpl : (backTo pos (starEach [e2, e3] X.env)).any (·.1) = false := by rfl) :
    PI X (.Tuple elts kk tpos) (.Call (.Name "zip" p) [e, e2, e3] [] pos) (iZip3 X.K ta) := by
  refine ⟨fun pins s σ H R I h => ?_⟩
  refine Call_ (ld_blt I hg hm PyProof.Rows.boot_zip (PyProof.Rows.callWith_type1 (thn (ha.run pos pins s σ H _ I h) fun us s1 ⟨vs, H1, I1, r1, q1⟩ => ?_) hs hpl))
  obtain ⟨a, b, c, xs, ys, zs, ex, hqx, hqy, hqz, q⟩ := q1
  subst ex
  cases r1 with
  | cons r rr =>
    cases rr with
    | cons r' rr =>
      cases rr with
      | cons r'' rr =>
        cases rr
        cases r
        cases r'
        cases r''
        obtain ⟨its, rv, p1, _⟩ := I1.tuple hqx
        obtain ⟨its2, rv2, p2, _⟩ := I1.tuple hqy
        obtain ⟨its3, rv3, p3, _⟩ := I1.tuple hqz
        obtain ⟨o1, ho1, _⟩ := id p1
        obtain ⟨o2, ho2, _⟩ := id p2
        obtain ⟨o3, ho3, _⟩ := id p3
        refine zip_begins3 (begins_tuple a its.toArray) (begins_tuple b its2.toArray) (begins_tuple c its3.toArray) p1 p2 p3 fun h' hz hTI hTO h1 h2 h3 hsz hk => wpAny_pyIter_zip hz ?_
        have I2 : Inv X pins σ H1 { s1 with heap := h' } := I1.kept (t' := s1.toks) hk
        refine ⟨s1.heap.objs.size + 5, [s1.heap.objs.size + 5, s1.heap.objs.size + 3, s1.heap.objs.size + 4, s1.heap.objs.size, s1.heap.objs.size + 1, s1.heap.objs.size + 2], _, _, H1, rfl, I2, turn_zip3 (N := s1.heap.objs.size) (Heap.lt_size ho1) (Heap.lt_size ho2) (Heap.lt_size ho3), ⟨hz, hTI, ⟨_, _, _, hTO⟩, ⟨_, h1, rfl, rfl⟩, ⟨_, h2, rfl, rfl⟩, ⟨_, h3, rfl, rfl⟩⟩, fun d hd => ?_, q⟩
        have e' : d = s1.heap.objs.size + 5 ∨ d = s1.heap.objs.size + 3 ∨ d = s1.heap.objs.size + 4 ∨ d = s1.heap.objs.size ∨ d = s1.heap.objs.size + 1 ∨ d = s1.heap.objs.size + 2 := by simpa using hd
        have hle : s1.heap.objs.size ≤ d := by
          rcases e' with z | z | z | z | z | z
          · rw [z]; exact Nat.le_add_right _ _
          · rw [z]; exact Nat.le_add_right _ _
          · rw [z]; exact Nat.le_add_right _ _
          · rw [z]; exact Nat.le_refl _
          · rw [z]; exact Nat.le_add_right _ _
          · rw [z]; exact Nat.le_add_right _ _
        exact I1.fpOk hle (I1.hok.fresh hle)

/-! ### over data -/
/-- the memory's condition for a source -/
def CSrc (d : D) (ds : List D) : Mem → Prop := fun M => look M d = .lst ds
def enumD (ds : List D) : List D := ds.mapIdx fun i d => .tup [.int (i : Nat), d]
theorem enumD_length (ds : List D) : (enumD ds).length = ds.length := by simp [enumD]
theorem enumD_get {ds : List D} {i : Nat} {d : D} (h : (enumD ds)[i]? = some d) : ∃ x, ds[i]? = some x ∧ d = .tup [.int (i : Nat), x] := by
  unfold enumD at h
  rw [List.getElem?_mapIdx] at h
  cases e : ds[i]? with
  | none =>
    rw [e] at h
    cases h
  | some x =>
    rw [e] at h
    exact ⟨x, rfl, (Option.some.inj h).symm⟩
def zipD (xs ys : List D) : List D := List.zipWith (fun x y => D.tup [x, y]) xs ys
theorem zipD_get {xs ys : List D} {i : Nat} {d : D} (h : (zipD xs ys)[i]? = some d) : ∃ x y, xs[i]? = some x ∧ ys[i]? = some y ∧ d = .tup [x, y] := by
  unfold zipD at h
  rw [List.getElem?_zipWith] at h
  cases e1 : xs[i]? with
  | none =>
    rw [e1] at h
    cases h
  | some x =>
    cases e2 : ys[i]? with
    | none =>
      rw [e1, e2] at h
      cases h
    | some y =>
      rw [e1, e2] at h
      exact ⟨x, y, rfl, rfl, (Option.some.inj h).symm⟩
def zip3D (xs ys zs : List D) : List D := List.zipWith (fun x (p : D × D) => D.tup [x, p.1, p.2]) xs (ys.zip zs)
theorem zip3D_get {xs ys zs : List D} {i : Nat} {d : D} (h : (zip3D xs ys zs)[i]? = some d) : ∃ x y z, xs[i]? = some x ∧ ys[i]? = some y ∧ zs[i]? = some z ∧ d = .tup [x, y, z] := by
  unfold zip3D at h
  rw [List.getElem?_zipWith] at h
  cases e1 : xs[i]? with
  | none =>
    rw [e1] at h
    cases h
  | some x =>
    cases e2 : (ys.zip zs)[i]? with
    | none =>
      rw [e1, e2] at h
      cases h
    | some q =>
      rw [e1, e2] at h
      obtain ⟨h1, h2⟩ := List.getElem?_zip_eq_some.mp e2
      exact ⟨x, q.1, q.2, rfl, h1, h2, (Option.some.inj h).symm⟩
theorem zip3D_length (xs ys zs : List D) : (zip3D xs ys zs).length = min xs.length (min ys.length zs.length) := by simp [zip3D]
/-- a new pair, a new triple: what it stands for -/
theorem rep_new {K : PySem.W.Frag} {F H : Hp} {Tp : Addr} {vs : List V} {ds : List D} (e : Ex F H) (hT : H Tp = none) (r : RepL K F vs ds) : ∃ F2, Gr F H F2 (upd H Tp (.tup vs)) ∧ RepB K true F2 (.ref Tp) (.tup ds) := by
  have g := gr_new (o := .tup vs) e hT
  exact ⟨_, g, .inr ⟨Tp, vs, ds, rfl, rfl, SqT.of upd_same, r.mono g.ff⟩⟩
section
variable {X : Cx} {W : WX} {T T1 T2 : Tau} {M M1 M2 M3 : Mem} {a b c e e2 e3 tg iter : Expr} {es elts : List Expr} {d d1 d2 : D} {ds ds1 ds2 ds3 : List D} {pos p tpos : Pos} {kk : Nat}
theorem ji_enumT (hg : Gl X "enumerate") (hm : X.mg "enumerate" = none) (ha : JA X T M [e] [.tup ds] M1) (hs : starEach [e] X.env = [(false, eval e X.env)] := by rfl) : JI X true T M (.Tuple elts kk tpos) (.Call (.Name "enumerate" p) [e] [] pos) (enumD ds) (fun _ => True) M1 :=
  PI.imp (pi_enumT hg hm ha hs) fun σ H R ⟨F, Mx, S, k⟩ => ⟨F, Mx, S, fun vs F1 H1 x1 S1 r1 => by
    cases r1 with
    | cons r rn =>
      cases rn
      obtain ⟨l, xs, rfl, h1, rr⟩ := r.tup_inv
      refine ⟨l, xs, rfl, (ex_p S1.mem.ex h1).sq, k _ F1 H1 x1 S1 fun i F2 H2 My M' x2 m2 _ => ?_⟩
      have hs : SqT X.K H2 l xs := (ex_p (x2.trans m2.ex) h1).sq
      refine ⟨fun d hd => ?_, fun hi => ⟨xs, hs, by rw [rr.length, hi, enumD_length]⟩⟩
      obtain ⟨x, hx, rfl⟩ := enumD_get hd
      obtain ⟨v, hv, rv⟩ := rr.get hx
      refine ⟨⟨xs, v, hs, hv⟩, fun y H3 hy => ?_⟩
      obtain ⟨Tp, z, rfl, hT, rfl, hz⟩ := hy
      have ez : z = v := Option.some.inj ((hz xs hs).symm.trans hv)
      subst ez
      exact rep_new m2.ex hT (.cons (.int _) (.cons (rv.mono x2) .nil))⟩
/-- enumerate of a list, one that may still change too -/
theorem ji_enumL (hg : Gl X "enumerate") (hm : X.mg "enumerate" = none) (ha : JA X T M [e] [d] M1) (hd : look M1 d = .lst ds) (hs : starEach [e] X.env = [(false, eval e X.env)] := by rfl) : JI X true T M (.Tuple elts kk tpos) (.Call (.Name "enumerate" p) [e] [] pos) (enumD ds) (CSrc d ds) M1 :=
  PI.imp (pi_enum hg hm ha hs) fun σ H R ⟨F, Mx, S, k⟩ => ⟨F, Mx, S, fun vs F1 H1 x1 S1 r1 => by
    cases r1 with
    | cons r rn =>
      cases rn
      have rh := S1.mem.look r
      rw [hd] at rh
      obtain ⟨l, xs, rfl, h1, rr⟩ := rh.lst S1.mem.ex
      refine ⟨l, xs, rfl, SqL.of h1, k _ F1 H1 x1 S1 fun i F2 H2 My M' x2 m2 hC => ?_⟩
      have rh2 := m2.look (r.mono x2)
      rw [hC] at rh2
      obtain ⟨l2, ws, el, h2, rr2⟩ := rh2.lst m2.ex
      cases el
      have hs : SqL X.K H2 l ws := SqL.of h2
      refine ⟨fun d hd => ?_, fun hi => ⟨ws, hs, by rw [rr2.length, hi, enumD_length]; exact Nat.le_refl _⟩⟩
      obtain ⟨x, hx, rfl⟩ := enumD_get hd
      obtain ⟨v, hv, rv⟩ := rr2.get hx
      refine ⟨⟨ws, v, hs, hv⟩, fun y H3 hy => ?_⟩
      obtain ⟨Tp, z, rfl, hT, rfl, hz⟩ := hy
      have ez : z = v := Option.some.inj ((hz ws hs).symm.trans hv)
      subst ez
      exact rep_new m2.ex hT (.cons (.int _) (.cons rv .nil))⟩
theorem ji_zipT (hg : Gl X "zip") (hm : X.mg "zip" = none) (ha : JA X T M [e, e2] [.tup ds1, .tup ds2] M1) (hs : starEach [e, e2] X.env = (false, eval e X.env) :: starEach [e2] X.env := by rfl) (hpl : (backTo pos (starEach [e2] X.env)).any (·.1) = false := by rfl) :
    JI X true T M (.Tuple elts kk tpos) (.Call (.Name "zip" p) [e, e2] [] pos) (zipD ds1 ds2) (fun _ => True) M1 :=
  PI.imp (RZ.pi_zipA hg hm ha hs hpl) fun σ H R ⟨F, Mx, S, k⟩ => ⟨F, Mx, S, fun vs F1 H1 x1 S1 r1 => by
    cases r1 with
    | cons r rn =>
      cases rn with
      | cons r' rn =>
        cases rn
        obtain ⟨l, xs, rfl, h1, rr⟩ := r.tup_inv
        obtain ⟨l', ys, rfl, h1', rr'⟩ := r'.tup_inv
        refine ⟨l, l', xs, ys, rfl, .inr ⟨(ex_p S1.mem.ex h1).sq, (ex_p S1.mem.ex h1').sq, k _ F1 H1 x1 S1 fun i F2 H2 My M' x2 m2 _ => ?_⟩⟩
        have hs : SqT X.K H2 l xs := (ex_p (x2.trans m2.ex) h1).sq
        have hs' : SqT X.K H2 l' ys := (ex_p (x2.trans m2.ex) h1').sq
        refine ⟨fun d hd => ?_, fun hi => ⟨xs, ys, hs, hs', by
          rw [rr.length, rr'.length, hi]
          have : (zipD ds1 ds2).length = min ds1.length ds2.length := by simp [zipD]
          omega⟩⟩
        obtain ⟨x, y, hx, hy, rfl⟩ := zipD_get hd
        obtain ⟨v, hv, rv⟩ := rr.get hx
        obtain ⟨v', hv', rv'⟩ := rr'.get hy
        refine ⟨⟨xs, ys, v, v', hs, hs', hv, hv'⟩, fun z H3 hz => ?_⟩
        obtain ⟨Tp, z1, z2, rfl, hT, rfl, q1, q2⟩ := hz
        have ez : z1 = v := Option.some.inj ((q1 xs hs).symm.trans hv)
        have ez' : z2 = v' := Option.some.inj ((q2 ys hs').symm.trans hv')
        subst ez ez'
        exact rep_new m2.ex hT (.cons (rv.mono x2) (.cons (rv'.mono x2) .nil))⟩
/-- zip of two lists -/
theorem ji_zipL (hg : Gl X "zip") (hm : X.mg "zip" = none) (ha : JA X T M [e, e2] [.lst ds1, .lst ds2] M1) (hs : starEach [e, e2] X.env = (false, eval e X.env) :: starEach [e2] X.env := by rfl) (hpl : (backTo pos (starEach [e2] X.env)).any (·.1) = false := by rfl) :
    JI X true T M (.Tuple elts kk tpos) (.Call (.Name "zip" p) [e, e2] [] pos) (zipD ds1 ds2) (fun _ => True) M1 :=
  PI.imp (RZ.pi_zipA hg hm ha hs hpl) fun σ H R ⟨F, Mx, S, k⟩ => ⟨F, Mx, S, fun vs F1 H1 x1 S1 r1 => by
    cases r1 with
    | cons r rn =>
      cases rn with
      | cons r' rn =>
        cases rn
        obtain ⟨l, xs, rfl, h1, rr⟩ := r.lst_inv
        obtain ⟨l', ys, rfl, h1', rr'⟩ := r'.lst_inv
        refine ⟨l, l', xs, ys, rfl, .inl ⟨SqL.of (S1.mem.ex _ _ h1), SqL.of (S1.mem.ex _ _ h1'), k _ F1 H1 x1 S1 fun i F2 H2 My M' x2 m2 _ => ?_⟩⟩
        have hs : SqL X.K H2 l xs := SqL.of (m2.ex _ _ (x2 _ _ h1))
        have hs' : SqL X.K H2 l' ys := SqL.of (m2.ex _ _ (x2 _ _ h1'))
        refine ⟨fun d hd => ?_, fun hi => ⟨xs, ys, hs, hs', by
          rw [rr.length, rr'.length, hi]
          have : (zipD ds1 ds2).length = min ds1.length ds2.length := by simp [zipD]
          omega⟩⟩
        obtain ⟨x, y, hx, hy, rfl⟩ := zipD_get hd
        obtain ⟨v, hv, rv⟩ := rr.get hx
        obtain ⟨v', hv', rv'⟩ := rr'.get hy
        refine ⟨⟨xs, ys, v, v', hs, hs', hv, hv'⟩, fun z H3 hz => ?_⟩
        obtain ⟨Tp, z1, z2, rfl, hT, rfl, q1, q2⟩ := hz
        have ez : z1 = v := Option.some.inj ((q1 xs hs).symm.trans hv)
        have ez' : z2 = v' := Option.some.inj ((q2 ys hs').symm.trans hv')
        subst ez ez'
        exact rep_new m2.ex hT (.cons (rv.mono x2) (.cons (rv'.mono x2) .nil))⟩
theorem ji_zip3 (hg : Gl X "zip") (hm : X.mg "zip" = none) (ha : JA X T M [e, e2, e3] [.tup ds1, .tup ds2, .tup ds3] M1) (hs : starEach [e, e2, e3] X.env = (false, eval e X.env) :: starEach [e2, e3] X.env := by rfl) (hpl : (backTo pos (starEach [e2, e3] X.env)).any (·.1) = false := by rfl) :
    JI X true T M (.Tuple elts kk tpos) (.Call (.Name "zip" p) [e, e2, e3] [] pos) (zip3D ds1 ds2 ds3) (fun _ => True) M1 :=
  PI.imp (pi_zip3 hg hm ha hs hpl) fun σ H R ⟨F, Mx, S, k⟩ => ⟨F, Mx, S, fun vs F1 H1 x1 S1 r1 => by
    cases r1 with
    | cons r rn =>
      cases rn with
      | cons r' rn =>
        cases rn with
        | cons r'' rn =>
          cases rn
          obtain ⟨l, xs, rfl, h1, rr⟩ := r.tup_inv
          obtain ⟨l', ys, rfl, h1', rr'⟩ := r'.tup_inv
          obtain ⟨l'', zs, rfl, h1'', rr''⟩ := r''.tup_inv
          refine ⟨l, l', l'', xs, ys, zs, rfl, (ex_p S1.mem.ex h1).sq, (ex_p S1.mem.ex h1').sq, (ex_p S1.mem.ex h1'').sq, k _ F1 H1 x1 S1 fun i F2 H2 My M' x2 m2 _ => ?_⟩
          have hs : SqT X.K H2 l xs := (ex_p (x2.trans m2.ex) h1).sq
          have hs' : SqT X.K H2 l' ys := (ex_p (x2.trans m2.ex) h1').sq
          have hs'' : SqT X.K H2 l'' zs := (ex_p (x2.trans m2.ex) h1'').sq
          refine ⟨fun d hd => ?_, fun hi => ⟨xs, ys, zs, hs, hs', hs'', by
            rw [rr.length, rr'.length, rr''.length, hi]
            have := zip3D_length ds1 ds2 ds3
            omega⟩⟩
          obtain ⟨x, y, z, hx, hy, hz, rfl⟩ := zip3D_get hd
          obtain ⟨v, hv, rv⟩ := rr.get hx
          obtain ⟨v', hv', rv'⟩ := rr'.get hy
          obtain ⟨v'', hv'', rv''⟩ := rr''.get hz
          refine ⟨⟨xs, ys, zs, v, v', v'', hs, hs', hs'', hv, hv', hv''⟩, fun z H3 hz => ?_⟩
          obtain ⟨Tp, z1, z2, z3, rfl, hT, rfl, q1, q2, q3⟩ := hz
          have ez : z1 = v := Option.some.inj ((q1 xs hs).symm.trans hv)
          have ez' : z2 = v' := Option.some.inj ((q2 ys hs').symm.trans hv')
          have ez'' : z3 = v'' := Option.some.inj ((q3 zs hs'').symm.trans hv'')
          subst ez ez' ez''
          exact rep_new m2.ex hT (.cons (rv.mono x2) (.cons (rv'.mono x2) (.cons (rv''.mono x2) .nil)))⟩
end
end J

set_option Elab.async false
set_option linter.all false
set_option maxRecDepth 100000
set_option maxHeartbeats 4000000
namespace J
open PySem PySem.Spec PyProof.Rows L2 Evl
section
variable {P : Program} {w : World} {A : Around} {E : Value → Shared → Prop} {s : Shared}
/-- set(t), t a tuple of tuples of ints -/
theorem call_set_ttups {l : Addr} {items : Array Value} (ks : List (Addr × List Int)) {Q : Value → Shared → Prop} (hh : A.handled = none) (hl : s.heap.IsTuple l items) (hit : items.toList = ks.map fun p => Value.ref p.1)
    (hk : ∀ p ∈ ks, IsT P w s.heap p.2 p.1) (hfew : ks.length < 64) (hu : A.units + 3 < cLine)
    (h : ∀ (h' : Heap) (tk : Nat) L es ep t, SetTR P w h' s.heap.objs.size L es ep t → Got ks ks.length L → (∀ b o, s.heap.get? b = some o → h'.get? b = some o) → Q (.ref s.heap.objs.size) { s with heap := h', toks := tk }) :
    wpAny (model P w) A (call (.type "set") [.ref l]) Q E s := by
  have hisz : items.size = ks.length := by
    have q := congrArg List.length hit
    rw [Array.length_toList, List.length_map] at q
    exact q
  obtain ⟨c, tl, hmro⟩ := PySem.F.called_set.mro
  have hmade := PySem.F.called_set.made
  have hsub := PySem.F.called_set.sub
  refine wpAny_call (codeAny_of_tree ?_)
  show wpAny _ _ (callAny (.type "set") _) _ _ _
  refine wpAny_pure ⟨Code.quiet_builtin _ (by decide +kernel), codeAny_builtin PySem.F.entry_type_call ?_⟩
  rw [Around.under_plain (weight_type_call_type "set" [.ref l] []) rfl]
  have h1 := PySem.F.called_set.notType
  have h2 := PySem.F.called_set.canCreate
  have hct := PySem.F.typeCall_set_1 (.ref l)
  repeat (any_goals (first | assumption | wp_step))

  refine codeAny_mono (code_set_led1 (.ref l) (E := E) (Q₁ := fun obj s₁ => obj = .ref s.heap.objs.size ∧ s₁ = { s with heap := s.heap.push { cls := .type "set", dict := none, data := .set #[] 0 (.fresh 0 0 (!w.params.followText "set-order")) } }) ⟨rfl, rfl⟩) fun r s₁ hr => ?_
  cases r with
  | error e => exact hr
  | ok fl =>
    cases fl with
    | ret obj =>
      obtain ⟨rfl, rfl⟩ := hr
      have hS : (s.heap.push { cls := .type "set", dict := none, data := .set #[] 0 (.fresh 0 0 (!w.params.followText "set-order")) }).get? s.heap.objs.size = some { cls := .type "set", dict := none, data := .set #[] 0 (.fresh 0 0 (!w.params.followText "set-order")) } := Heap.get?_push_size _ rfl
      have hT : Shared.TypeIs { s with heap := s.heap.push { cls := .type "set", dict := none, data := .set #[] 0 (.fresh 0 0 (!w.params.followText "set-order")) } } (.ref s.heap.objs.size) "set" := ⟨_, hS, rfl⟩
      have hli := PySem.F.called_set.init.lookup
      have hbi := PySem.F.called_set.init.bind (.ref s.heap.objs.size)
      repeat (any_goals (first | assumption | wp_step))

      refine codeAny_mono (codeAny_call_builtin (R := wants (fun r s₂ => r = .none ∧ ∃ h' tk L es ep t, s₂ = { s with heap := h', toks := tk } ∧ SetTR P w h' s.heap.objs.size L es ep t ∧ Got ks ks.length L ∧
          (∀ b o, s.heap.get? b = some o → h'.get? b = some o)) E) PySem.F.called_set.init.plain PySem.F.entry_set_init (check_set_init_1 hT ?_)) fun r₂ s₂ hr₂ => ?_
      · obtain ⟨ol, hol, hcl, nl, hdl⟩ := hl
        obtain ⟨ocls, odict, odata, oslots⟩ := ol
        simp only at hcl hdl
        subst hcl; subst hdl
        have hol' : (s.heap.push { cls := .type "set", dict := none, data := .set #[] 0 (.fresh 0 0 (!w.params.followText "set-order")) }).get? l = some { cls := .type "tuple", dict := odict, data := .seq items nl, slots := oslots } := Heap.get?_push_of_some _ hol
        have hsls := PySem.F.sub_tuple_set
        have hslf := PySem.F.sub_tuple_frozenset
        have hne : (Value.type "tuple" == Value.type "dict") = false := by decide
        have hl1 : (s.heap.push { cls := .type "set", dict := none, data := .set #[] 0 (.fresh 0 0 (!w.params.followText "set-order")) }).IsTuple l items := ⟨_, hol', rfl, nl, rfl⟩
        unfold Builtin.«set.__init__» noKeywords Builtin.Frozenset.updateFrom
        generalize hPI : pyIter = PI
        wp_walk
        subst hPI

        refine wpAny_pyIter_tuple hl1 ?_
        refine wpAny_bind (wpAny_runValue ?_)
        have hlS : l < s.heap.objs.size := Heap.lt_size hol
        have hh3 : A.in1.in1.in1.handled = none := by simp [hh]
        have hz1 : (s.heap.push { cls := .type "set", dict := none, data := .set #[] 0 (.fresh 0 0 (!w.params.followText "set-order")) }).objs.size = s.heap.objs.size + 1 := Heap.size_push ..
        have hneI : l ≠ (s.heap.push { cls := .type "set", dict := none, data := .set #[] 0 (.fresh 0 0 (!w.params.followText "set-order")) }).objs.size := by
          rw [Heap.size_push]; exact Nat.ne_of_lt (Nat.lt_succ_of_lt hlS)
        have hSf : s.heap.objs.size ∉ [(s.heap.push { cls := .type "set", dict := none, data := .set #[] 0 (.fresh 0 0 (!w.params.followText "set-order")) }).objs.size, l] := by
          rw [Heap.size_push]; simp only [List.mem_cons, List.mem_singleton, List.not_mem_nil, or_false, not_or]
          exact ⟨Nat.ne_of_lt (Nat.lt_succ_self _), Nat.ne_of_gt hlS⟩
        have hval : ∀ (i : Nat) (v : Value), items[i]? = some v → ∃ p, ks[i]? = some p ∧ v = .ref p.1 := fun i v hv => by
          have q : items.toList[i]? = some v := by rw [Array.getElem?_toList]; exact hv
          rw [hit, List.getElem?_map] at q
          cases hq : ks[i]? with
          | none => rw [hq] at q; cases q
          | some p =>
            rw [hq] at q
            exact ⟨p, rfl, (Option.some.inj q).symm⟩
        have none_of : ∀ b, s.heap.objs.size ≤ b → s.heap.get? b = none := fun b hb => by
          cases q : s.heap.get? b with
          | none => rfl
          | some o => exact absurd (Nat.lt_of_lt_of_le (Heap.lt_size q) hb) (Nat.lt_irrefl _)
        refine set_update_tups ((Walks.tuple hh3 _ l hneI items).toS) s.heap.objs.size
          hSf ks hisz hfew hval s.heap hk (none_of _ (Nat.le_refl _)) (fun b hb => none_of b (by
            rw [List.mem_singleton.mp hb, Heap.size_push]
            exact Nat.le_succ _)) hu (items.size - 0) 0 _ (by omega) (Nat.zero_le _)
          ⟨⟨_, Heap.get?_push_size _ rfl, rfl, rfl⟩, (hl1.push _)⟩ (fun b o e => Heap.get?_push_of_some _ (Heap.get?_push_of_some _ e)) ?hS0 ?hR
        case hS0 =>
          have hget : ((s.heap.push { cls := .type "set", dict := none, data := .set #[] 0 (.fresh 0 0 (!w.params.followText "set-order")) }).push { cls := .type "tuple_iterator", data := .fields #[.ref l, .int 0 0] }).get? s.heap.objs.size
              = some { cls := .type "set", dict := none, data := .set #[] 0 (.fresh 0 0 (!w.params.followText "set-order")) } := Heap.get?_push_of_some _ hS
          exact ⟨[], #[], 0, _, setTR_fresh hget, Got.zero ks⟩
        case hR =>
          intro s' L es ep t hm hS' g' hkp
          obtain ⟨h', g2, d', tk', os'⟩ := s'
          have eg : g2 = s.gens := hm.gens
          have ed : d' = s.drawn := hm.drawn
          have eo : os' = s.os := hm.os
          subst eg; subst ed; subst eo
          show wpAny _ _ _ _ _ _
          refine wpAny_pure ?_
          show wpAny _ _ (ret Value.none) _ _ _
          rw [hisz] at g'
          exact wpAny_pure ⟨rfl, h', tk', L, es, ep, t, rfl, hS', g', hkp⟩

      · cases r₂ with
        | error e => exact hr₂
        | ok fl₂ =>
          cases fl₂ with
          | ret r =>
            obtain ⟨rfl, h', tk, L, es, ep, t, rfl, hS', g', hk'⟩ := hr₂
            repeat (any_goals (first | assumption | wp_step))
            exact h _ _ _ _ _ _ hS' g' hk'
          | _ => exact hr₂.elim
    | _ => exact hr.elim
end
end J

set_option Elab.async false
set_option linter.all false
set_option maxRecDepth 100000
set_option maxHeartbeats 4000000
namespace J
open PySem PySem.Spec PyProof.Rows L2 Evl
section
variable {X : Cx}
/-- set(t), t a tuple of ints: a set that sorted reads -/
def rSetI (K : PySem.W.Frag) (w : World) : List V → Hp → VK → Prop := fun xs H Q => ∃ (l : Addr) (ns : List Int), xs = [V.ref l] ∧ SqT K H l (ns.map V.int) ∧ ns.length < 64 ∧
  ∀ a c, H a = none → c ≤ ns.length → Q (.ref a) (upd H a (SetO w a (fun j => decide (j ∈ ns)) c))
theorem cr_setI (hc : X.calm = true) : CallR X (.type "set") (rSetI X.K X.w) := by
  intro pins s σ H xs us Q I r h
  obtain ⟨l, ns, rfl, hl, hn, q⟩ := h
  rw [Vals.ref1 r]
  obtain ⟨its, rv, pl, hz⟩ := I.tuple hl
  have hf : H s.heap.objs.size = none := I.hok.fresh (Nat.le_refl _)
  refine call_set_tupI (P := X.prog) (w := X.w) ns (I.ok.hd hc) (show s.heap.IsTuple l its.toArray from pl) (by simpa using ints_of_vals rv) (by show ns.length + 1 < 4096; omega) fun h' tk c R hcn k => ?_
  exact ⟨.ref s.heap.objs.size, _, I.laid (t' := tk) k (Nat.le_refl _) (setO_new R), rfl, q _ c hf hcn⟩
/-- set(t), t a tuple of tuples of ints -/
def rSetTT (K : PySem.W.Frag) (P : Program) (w : World) : List V → Hp → VK → Prop := fun xs H Q => ∃ (l : Addr) (ks : List (Addr × List Int)), xs = [V.ref l] ∧ SqT K H l (ks.map fun p => V.ref p.1) ∧ (∀ p ∈ ks, SqT K H p.1 (p.2.map V.int)) ∧ ks.length < 64 ∧
  ∀ a L, H a = none → (∀ p ∈ L, p ∈ ks) → (∀ p ∈ ks, p.2 ∈ L.map (·.2)) → Q (.ref a) (upd H a (SetTO P w a L))
theorem cr_setTT (hc : X.calm = true) (hu : X.A.units + 64 < cLine) : CallR X (.type "set") (rSetTT X.K X.prog X.w) := by
  intro pins s σ H xs us Q I r h
  obtain ⟨l, ks, rfl, hl, hk, hf, q⟩ := h
  rw [Vals.ref1 r]
  obtain ⟨its, rv, pl, hz⟩ := I.tuple hl
  have hn : H s.heap.objs.size = none := I.hok.fresh (Nat.le_refl _)
  refine call_set_ttups (P := X.prog) (w := X.w) ks (I.ok.hd hc) (show s.heap.IsTuple l its.toArray from pl) (by simpa using refs_of_vals rv) (fun p hp => I.isT (hk p hp)) hf (by omega) fun h' tk L es ep t R g k => ?_
  refine ⟨.ref s.heap.objs.size, upd H s.heap.objs.size (SetTO X.prog X.w s.heap.objs.size L), I.laid (t' := tk) k (Nat.le_refl _) (setTO_new R.t0), rfl, q _ L hn (fun p hp => ?_) fun p hp => ?_⟩
  · exact List.mem_of_mem_take (g.sub p hp)
  · exact g.all p (by rw [List.take_length]; exact hp)
end
end J

set_option Elab.async false
set_option linter.all false
set_option maxRecDepth 100000
set_option maxHeartbeats 4000000
namespace J
open PySem PySem.Spec PyProof.Rows L2 Evl

/-! ### rising lists -/
section
variable {α : Type} [DecidableEq α] (lt : α → α → Bool)
def insR (x : α) : List α → List α
  | [] => [x]
  | y :: ys => if lt x y then x :: y :: ys else if x = y then y :: ys else y :: insR x ys
def rise : List α → List α
  | [] => []
  | x :: xs => insR lt x (rise xs)
structure StrictO : Prop where
  irr : ∀ x, lt x x = false
  tr : ∀ x y z, lt x y = true → lt y z = true → lt x z = true
  tot : ∀ x y, x = y ∨ lt x y = true ∨ lt y x = true
variable {lt}
theorem mem_insR (x z : α) : ∀ l : List α, z ∈ insR lt x l ↔ z = x ∨ z ∈ l
  | [] => by simp [insR]
  | y :: ys => by
    unfold insR
    split
    · simp
    · split
      · rename_i h
        subst h
        simp
      · simp only [List.mem_cons, mem_insR x z ys]
        exact ⟨fun h => h.elim (fun h => .inr (.inl h)) fun h => h.elim .inl fun h => .inr (.inr h), fun h => h.elim (fun h => .inr (.inl h)) fun h => h.elim .inl fun h => .inr (.inr h)⟩
theorem mem_rise (z : α) : ∀ l : List α, z ∈ rise lt l ↔ z ∈ l
  | [] => by simp [rise]
  | x :: xs => by
    show z ∈ insR lt x (rise lt xs) ↔ _
    rw [mem_insR, mem_rise z xs, List.mem_cons]
theorem insR_sorted (o : StrictO lt) (x : α) : ∀ l : List α, l.Pairwise (fun a b => lt a b = true) → (insR lt x l).Pairwise (fun a b => lt a b = true)
  | [], _ => by simp [insR]
  | y :: ys, h => by
    obtain ⟨h1, h2⟩ := List.pairwise_cons.mp h
    unfold insR
    split
    · rename_i hx
      refine List.pairwise_cons.mpr ⟨fun z hz => ?_, h⟩
      rcases List.mem_cons.mp hz with rfl | hz
      · exact hx
      · exact o.tr _ _ _ hx (h1 z hz)
    · split
      · exact h
      · rename_i hx hne
        refine List.pairwise_cons.mpr ⟨fun z hz => ?_, insR_sorted o x ys h2⟩
        rcases (mem_insR x z ys).mp hz with rfl | hz
        · rcases o.tot z y with e | e | e
          · exact absurd e hne
          · exact absurd e hx
          · exact e
        · exact h1 z hz
theorem rise_sorted (o : StrictO lt) : ∀ l : List α, (rise lt l).Pairwise (fun a b => lt a b = true)
  | [] => List.Pairwise.nil
  | x :: xs => insR_sorted o x _ (rise_sorted o xs)
/-- there is one rising list of these members -/
theorem rising_unique (o : StrictO lt) : ∀ (l m : List α), l.Pairwise (fun a b => lt a b = true) → m.Pairwise (fun a b => lt a b = true) → (∀ z, z ∈ l ↔ z ∈ m) → l = m
  | [], [], _, _, _ => rfl
  | [], y :: m, _, _, h => absurd ((h y).mpr List.mem_cons_self) (by simp)
  | x :: l, [], _, _, h => absurd ((h x).mp List.mem_cons_self) (by simp)
  | x :: l, y :: m, hl, hm, h => by
    obtain ⟨h1, h2⟩ := List.pairwise_cons.mp hl
    obtain ⟨h3, h4⟩ := List.pairwise_cons.mp hm
    have e : x = y := by
      rcases List.mem_cons.mp ((h x).mp List.mem_cons_self) with e | e
      · exact e
      · rcases List.mem_cons.mp ((h y).mpr List.mem_cons_self) with e2 | e2
        · exact e2.symm
        · have a := h3 x e
          have b := h1 y e2
          have := o.tr _ _ _ a b
          rw [o.irr] at this
          cases this
    subst e
    rw [rising_unique o l m h2 h4 fun z => ⟨fun hz => ?_, fun hz => ?_⟩]
    · rcases List.mem_cons.mp ((h z).mp (List.mem_cons_of_mem _ hz)) with e | e
      · subst e
        have := h1 z hz
        rw [o.irr] at this
        cases this
      · exact e
    · rcases List.mem_cons.mp ((h z).mpr (List.mem_cons_of_mem _ hz)) with e | e
      · subst e
        have := h3 z hz
        rw [o.irr] at this
        cases this
      · exact e
theorem rise_eq (o : StrictO lt) {l m : List α} (hm : m.Pairwise (fun a b => lt a b = true)) (h : ∀ z, z ∈ m ↔ z ∈ l) : m = rise lt l :=
  rising_unique o m _ hm (rise_sorted o l) fun z => (h z).trans (mem_rise z l).symm
theorem rise_self (o : StrictO lt) (l : List α) : l = rise lt l ↔ l.Pairwise (fun a b => lt a b = true) :=
  ⟨fun h => by rw [h]; exact rise_sorted o l, fun h => rise_eq o h fun _ => Iff.rfl⟩
end
abbrev ltI (a b : Int) : Bool := decide (a < b)
theorem ltI_o : StrictO ltI := ⟨fun x => by simp [ltI], fun x y z => by simp [ltI]; omega, fun x y => by simp [ltI]; omega⟩
abbrev ltP (a b : Int × Int) : Bool := decide (a.1 < b.1 ∨ (a.1 = b.1 ∧ a.2 < b.2))
theorem ltP_o : StrictO ltP := by
  refine ⟨fun x => by simp [ltP], fun x y z => by simp [ltP]; omega, fun x y => ?_⟩
  obtain ⟨a, b⟩ := x
  obtain ⟨c, d⟩ := y
  simp only [ltP, decide_eq_true_eq, Prod.mk.injEq]
  omega
def pairD (p : Int × Int) : D := .tup [.int p.1, .int p.2]

theorem gr_junk {F H : Hp} {a : Addr} {o : HO} (e : Ex F H) (ha : H a = none) : Gr F H F (upd H a o) :=
  ⟨Ex.refl _, Ex.new ha, fun b u h => by rw [upd_ne (ne_of_none (e b u h) ha)]; exact e b u h, fun _ _ _ => rfl⟩
/-- the tuples of pairs, by address -/
theorem pairs_ks {K : PySem.W.Frag} {F : Hp} : ∀ {vs : List V} {ps : List (Int × Int)}, RepL K F vs (ps.map pairD) → ∃ ks : List (Addr × List Int), vs = (ks.map fun p => V.ref p.1) ∧ ks.map (·.2) = ps.map (fun p => [p.1, p.2]) ∧ ∀ p ∈ ks, PlT K F p.1 (p.2.map V.int)
  | _, [], .nil => ⟨[], rfl, rfl, fun p h => by cases h⟩
  | _, p :: ps, .cons h r => by
    obtain ⟨ks, e1, e2, e3⟩ := pairs_ks r
    obtain ⟨a, xs, rfl, h1, rr⟩ := h.tup_inv
    cases rr with
    | cons r1 rr =>
      cases rr with
      | cons r2 rr =>
        cases rr
        cases r1
        cases r2
        refine ⟨(a, [p.1, p.2]) :: ks, by rw [e1]; rfl, by rw [List.map_cons, e2]; rfl, fun q hq => ?_⟩
        rcases List.mem_cons.mp hq with rfl | hq
        · exact h1
        · exact e3 q hq
theorem repl_refs {K : PySem.W.Frag} {F : Hp} : ∀ {L : List (Addr × List Int)} {ps : List (Int × Int)}, L.map (·.2) = ps.map (fun p => [p.1, p.2]) → (∀ p ∈ L, PlT K F p.1 (p.2.map V.int)) → RepL K F (L.map fun q => V.ref q.1) (ps.map pairD)
  | [], [], _, _ => .nil
  | [], _ :: _, h, _ => by cases h
  | _ :: _, [], h, _ => by cases h
  | q :: L, p :: ps, h, k => by
    injection h with h1 h2
    refine .cons (.tup (k q List.mem_cons_self) ?_) (repl_refs h2 fun p hp => k p (List.mem_cons_of_mem _ hp))
    have e : q.2 = [p.1, p.2] := h1
    rw [e]
    exact .cons (.int _) (.cons (.int _) .nil)
section
variable {X : Cx} {T : Tau} {M M1 : Mem} {e : Expr} {d : D} {pos p p2 q : Pos}
/-- sorted(set(t)), t a tuple of ints -/
theorem je_sortedI {ns : List Int} (hc : X.calm = true) (hg : Gl X "sorted") (hm : X.mg "sorted" = none) (hg2 : Gl X "set") (hm2 : X.mg "set" = none) (ha : JE X T M e d M1) (hd : look M1 d = .tup (ns.map D.int)) (hn : ns.length < 64)
    (he2 : starEach [e] X.env = (false, eval e X.env) :: starEach [] X.env := by rfl) (hpl2 : (backTo q (starEach [] X.env)).any (·.1) = false := by rfl)
    (he : starEach [.Call (.Name "set" p2) [e] [] q] X.env = (false, eval (.Call (.Name "set" p2) [e] [] q) X.env) :: starEach [] X.env := by rfl) (hpl : (backTo pos (starEach [] X.env)).any (·.1) = false := by rfl) :
    JE X T M (.Call (.Name "sorted" p) [.Call (.Name "set" p2) [e] [] q] [] pos) (.lst ((rise ltI ns).map D.int)) M1 := by
  refine PE.imp (pe_callB (cr_sortedSet hc) hg hm (by decide +kernel) (pa_cons (pe_callTy (cr_setI hc) hg2 hm2 (by decide +kernel) (pa_cons ha pa_nil he2) (by decide) (by decide) he2 hpl2) pa_nil he) (by decide) (by decide) he hpl) fun σ H Q ⟨F, Mx, S, k⟩ => ⟨F, Mx, S, fun v F1 H1 x1 S1 r1 => ?_⟩
  have rh := S1.mem.look r1
  rw [hd] at rh
  obtain ⟨l, vs, rfl, h1, rr⟩ := rh.tup
  have ev := rr.ints
  subst ev
  refine ⟨l, ns, rfl, (ex_p S1.mem.ex h1).sq, hn, fun a c ha hcn => ?_⟩
  refine ⟨a, _, c, rfl, upd_same, by omega, fun ns' pp hs hmem hl hp => ?_⟩
  have e1 : ns' = rise ltI ns := rise_eq ltI_o (hs.imp fun h => decide_eq_true h) fun z => (hmem z).trans ⟨fun h => of_decide_eq_true h, fun h => decide_eq_true h⟩
  subst e1
  have g1 := gr_junk (o := SetO X.w a (fun j => decide (j ∈ ns)) c) S1.mem.ex ha
  have g2 := gr_new (o := .lst ((rise ltI ns).map V.int)) g1.fh hp
  have g := g1.trans g2
  exact k _ _ _ (x1.trans g.ff) (S1.gr g) (.lst upd_same (RepL.of_ints _))
/-- sorted(set(t)), t a tuple of pairs -/
theorem je_sortedP {ps : List (Int × Int)} (hc : X.calm = true) (hu : X.A.units + 64 < cLine) (hg : Gl X "sorted") (hm : X.mg "sorted" = none) (hg2 : Gl X "set") (hm2 : X.mg "set" = none) (ha : JE X T M e d M1) (hd : look M1 d = .tup (ps.map pairD)) (hn : ps.length < 64)
    (hb : ∀ p ∈ ps, (0 ≤ p.1 ∧ p.1 < 64) ∧ 0 ≤ p.2 ∧ p.2 < 64)
    (he2 : starEach [e] X.env = (false, eval e X.env) :: starEach [] X.env := by rfl) (hpl2 : (backTo q (starEach [] X.env)).any (·.1) = false := by rfl)
    (he : starEach [.Call (.Name "set" p2) [e] [] q] X.env = (false, eval (.Call (.Name "set" p2) [e] [] q) X.env) :: starEach [] X.env := by rfl) (hpl : (backTo pos (starEach [] X.env)).any (·.1) = false := by rfl) :
    JE X T M (.Call (.Name "sorted" p) [.Call (.Name "set" p2) [e] [] q] [] pos) (.lst ((rise ltP ps).map pairD)) M1 := by
  refine PE.imp (pe_callB (cr_sortedT hc) hg hm (by decide +kernel) (pa_cons (pe_callTy (cr_setTT hc hu) hg2 hm2 (by decide +kernel) (pa_cons ha pa_nil he2) (by decide) (by decide) he2 hpl2) pa_nil he) (by decide) (by decide) he hpl) fun σ H Q ⟨F, Mx, S, k⟩ => ⟨F, Mx, S, fun v F1 H1 x1 S1 r1 => ?_⟩
  have rh := S1.mem.look r1
  rw [hd] at rh
  obtain ⟨l, vs, rfl, h1, rr⟩ := rh.tup
  obtain ⟨ks, rfl, eks, hks⟩ := pairs_ks rr
  have kp : ∀ z ∈ ks, ∃ w ∈ ps, z.2 = [w.1, w.2] := fun z hz => by
    have h : z.2 ∈ ks.map (·.2) := List.mem_map.mpr ⟨z, hz, rfl⟩
    rw [eks] at h
    obtain ⟨w, hw, e⟩ := List.mem_map.mp h
    exact ⟨w, hw, e.symm⟩
  have hlen : ks.length = ps.length := by
    have := congrArg List.length eks
    simpa using this
  refine ⟨l, ks, rfl, (ex_p S1.mem.ex h1).sq, fun z hz => (ex_p S1.mem.ex (hks z hz)).sq, by omega, fun a L ha hL hall => ?_⟩
  refine ⟨a, L, 2, 64, rfl, upd_same, fun z hz => ?_, by decide, fun z hz => ?_, fun L' pp pm nd hf pw hp => ?_⟩
  · exact (ex_p (S1.mem.ex.trans (Ex.new ha)) (hks z (hL z hz))).sq
  · obtain ⟨w, hw, e⟩ := kp z (hL z hz)
    obtain ⟨⟨b1, b2⟩, b3, b4⟩ := hb w hw
    rw [e]
    refine ⟨rfl, fun y hy => ?_⟩
    rcases List.mem_cons.mp hy with rfl | hy
    · exact ⟨b1, b2⟩
    · rw [List.mem_singleton.mp hy]
      exact ⟨b3, b4⟩
  · -- the pairs of L', in order
    have hL' : ∀ z ∈ L', z ∈ ks := fun z hz => hL z (pm.mem_iff.mp hz)
    have e2 : L'.map (·.2) = (L'.map fun z => (z.2.headD 0, z.2.getD 1 0)).map (fun p => [p.1, p.2]) := by
      rw [List.map_map]
      refine List.map_congr_left fun z hz => ?_
      obtain ⟨w, _, e⟩ := kp z (hL' z hz)
      simp [e]
    have e3 : (L'.map fun z => (z.2.headD 0, z.2.getD 1 0)) = rise ltP ps := by
      refine rise_eq ltP_o ?_ fun z => ?_
      · rw [List.pairwise_map]
        have nd' : L'.Pairwise (fun q r => q.2 ≠ r.2) := List.pairwise_map.mp nd
        refine List.Pairwise.imp_of_mem (fun {x y} hx hy hxy => ?_) (pw.and nd')
        obtain ⟨w, hw, ew⟩ := kp x (hL' x hx)
        obtain ⟨u, hu', eu⟩ := kp y (hL' y hy)
        obtain ⟨⟨b1, b2⟩, b3, b4⟩ := hb w hw
        obtain ⟨⟨c1, c2⟩, c3, c4⟩ := hb u hu'
        rw [ew, eu] at hxy
        rw [ew, eu]
        exact decide_eq_true (pair_lt hxy.1 hxy.2 ⟨b1, b2⟩ ⟨b3, b4⟩ ⟨c1, c2⟩ ⟨c3, c4⟩)
      · constructor
        · intro hz
          obtain ⟨x, hx, e⟩ := List.mem_map.mp hz
          obtain ⟨w, hw, ew⟩ := kp x (hL' x hx)
          rw [ew] at e
          subst e
          exact hw
        · intro hz
          have h4 : [z.1, z.2] ∈ ks.map (·.2) := by
            rw [eks]
            exact List.mem_map.mpr ⟨z, hz, rfl⟩
          obtain ⟨y, hy, ey⟩ := List.mem_map.mp h4
          have h5 := hall y hy
          obtain ⟨x, hx, ex⟩ := List.mem_map.mp h5
          have ex' : x.2 = [z.1, z.2] := ex.trans ey
          exact List.mem_map.mpr ⟨x, pm.mem_iff.mpr hx, by rw [ex']; rfl⟩
    rw [e3] at e2
    have g1 := gr_junk (o := SetTO X.prog X.w a L) S1.mem.ex ha
    have g2 := gr_new (o := .lst (L'.map fun q => V.ref q.1)) g1.fh hp
    have g := g1.trans g2
    exact k _ _ _ (x1.trans g.ff) (S1.gr g) (.lst upd_same (repl_refs e2 fun z hz => ex_p g.ff (hks z (hL' z hz))))
end
end J

set_option Elab.async false
set_option linter.all false
set_option maxRecDepth 100000
set_option maxHeartbeats 4000000
namespace J
open PySem PySem.Spec PyProof.Rows L2 Evl
/-- how often x stands in ds -/
def D.cnt (x : D) (ds : List D) : Nat := ds.countP fun y => D.eqv y x
theorem pys_countP (x : D) : ∀ ds : List D, (D.pys ds).countP (fun y => PyData.eqv y x.py) = D.cnt x ds
  | [] => rfl
  | d :: ds => by
    show (d.py :: D.pys ds).countP _ = (d :: ds).countP _
    rw [List.countP_cons, List.countP_cons]
    have h := pys_countP x ds
    unfold D.cnt at h
    rw [h]
    rfl
section
variable {X : Cx} {T : Tau} {M M1 M2 : Mem} {o e : Expr} {d d1 : D} {ds : List D} {pos p apos cpos : Pos}
/-- the facts of a method's call on one line -/
structure MOk (X : Cx) (o : Expr) (name : Str) (apos cpos : Pos) (e : Expr) : Prop where
  base : attributeBase o name X.env (eval o X.env) = eval o X.env
  few : ((backTo cpos (starEach [e] X.env)).all (fun x => !x.1) && (backToKw cpos (keywordEach [] X.env)).all (fun x => x.1.isSome) && decide ([e].length + ([] : List Keyword).length + (if ([] : List Keyword).isEmpty then 0 else 1) < 30)) = true
  line : (apos.endLine == cpos.line) = true
  st : starEach [e] X.env = (false, eval e X.env) :: starEach [] X.env
  pl : (backTo cpos (starEach [] X.env)).any (·.1) = false
/-- t.count(x), t a plain tuple -/
theorem je_tcount (hu : X.A.units + 65 < cLine) (ho : JE X T M o (.tup ds) M1) (he : JE X T M1 e d M2) (l1 : look M2 d = d1) (p1 : d1.pure = true) (p2 : D.pures ds = true) (hd : min (D.deps ds) d1.dep ≤ 60) (m : MOk X o "count" apos cpos e) :
    JE X T M (.Call (.Attribute o "count" apos) [e] [] cpos) (.int (D.cnt d1 ds)) M2 := by
  refine ⟨fun pins s σ H Q I ⟨F, Mx, S, k⟩ => ?_⟩
  refine wpAny_Call_method_late m.base m.few m.line rfl (thn (ho.run pins s σ H (fun v H1 => ∃ F1, Ex F F1 ∧ Sim X.K T (Mx ++ M1) σ F1 H1 ∧ Rep X.K F1 v (.tup ds)) I ⟨F, Mx, S, fun v F1 H1 x1 S1 r1 => ⟨F1, x1, S1, r1⟩⟩) fun v s1 ⟨x, H1, I1, rx, F1, x1, S1, r1⟩ => ?_)
  obtain ⟨a, vs, rfl, hp, rr⟩ := r1.tup_inv
  cases rx
  have hp1 := ex_p S1.mem.ex hp
  obtain ⟨its, rv, pl, hz⟩ := I1.tuple hp1.sq
  have hdn : ∃ ob, s1.heap.get? a = some ob ∧ ob.dict = none := by
    rcases hp1 with ⟨ob, h, hd⟩ | ⟨ob, _, _, h, _, hd, _⟩
    · exact ⟨ob, (show ObjOk X.prog X.w H1 s1.heap a (.frz ob (.tup vs)) from I1.hok a _ h).1, hd⟩
    · exact ⟨ob, I1.kIn _ _ h, hd⟩
  obtain ⟨ot, hot, hct, nt, hdt⟩ := id pl
  refine ⟨"tuple", "tuple.count", PySem.F.plainAttrs_tuple, PySem.F.slot_tuple_count, PySem.F.type_tuple_count, ⟨ot, hot, hct⟩, fun b e => by cases e; exact hdn, ?_⟩
  have hA := (pa_cons he pa_nil m.st).run cpos pins s1 σ H1 (fun us H2 => ∃ u F2, us = [u] ∧ Ex F1 F2 ∧ Sim X.K T (Mx ++ M2) σ F2 H2 ∧ Rep X.K F2 u d) I1 ⟨F1, Mx, S1, fun u F2 H2 x2 S2 r2 => ⟨u, F2, rfl, x2, S2, r2⟩⟩
  rw [m.st] at hA ⊢
  refine Calls.callWith_builtin (by show (false || (backTo cpos (starEach [] X.env)).any (·.1)) = false; rw [m.pl] <;> rfl) (Calls.evalArgs_plain ?_)
  refine thn hA fun us s2 ⟨ws, H2, I2, r2, u, F2, ew, x2, S2, ru⟩ => ?_
  subst ew
  cases r2 with
  | cons rw1 rn =>
    cases rn
    have hp2 := ex_p S2.mem.ex (ex_p x2 hp)
    obtain ⟨its2, rv2, pl2, _⟩ := I2.tuple hp2.sq
    have rh := S2.mem.look ru
    rw [l1] at rh
    obtain ⟨as, q1⟩ := Dp.reads I2 _ _ _ (rh.dp S2.mem.ex p1) rw1
    obtain ⟨bs, q2⟩ := Dp.readsAll I2 _ _ _ ((rr.mono x2).dp S2.mem.ex p2) rv2
    refine SeqAt.count_tuple_data (vs := its2.toArray) pl2 (by simpa using q2) q1 (D.plain_pys ds) d1.plain_py (by unfold D.dep D.deps at hd; omega) ?_
    rw [pys_countP]
    exact ⟨.int _, H2, I2.tok _, ⟨_, rfl⟩, k _ F2 H2 (x1.trans x2) S2 (.int _)⟩
/-- xs.count(x), xs a list -/
theorem je_lcount {l1 : D} (hu : X.A.units + 65 < cLine) (ho : JE X T M o d1 M1) (hl : look M1 d1 = .lst ds) (he : JE X T M1 e d M1) (hd1 : look M1 d = l1) (p1 : l1.pure = true) (p2 : D.pures ds = true) (hd : min (D.deps ds) l1.dep ≤ 60) (m : MOk X o "count" apos cpos e) :
    JE X T M (.Call (.Attribute o "count" apos) [e] [] cpos) (.int (D.cnt l1 ds)) M1 := by
  have rule : MtR X "list.count" (fun x xs H Q => ∃ (a : Addr) (y : V) (vs : List V), x = .ref a ∧ xs = [y] ∧ H a = some (.lst vs) ∧ DpAll X.K H vs (D.pys ds) ∧ Dp X.K H y l1.py ∧ Q (.int (D.cnt l1 ds)) H) := by
    intro pins s σ H x xs v us Q I rx rxs ⟨a, y, vs, h1, h2, hl, ha, hy, q⟩
    subst h1 h2
    cases rx
    cases rxs with
    | cons ry rn =>
      cases rn
      obtain ⟨its, rv, pl, hz⟩ := I.list (show SqL X.K H a vs from SqL.of hl)
      obtain ⟨as, q1⟩ := Dp.reads I _ _ _ hy ry
      obtain ⟨bs, q2⟩ := Dp.readsAll I _ _ _ ha rv
      refine SeqAt.count_list_data (vs := its.toArray) pl.isList (by simpa using q2) q1 (D.plain_pys ds) l1.plain_py (by unfold D.dep D.deps at hd; omega) ?_
      rw [pys_countP]
      exact ⟨.int _, H, I.tok _, ⟨_, rfl⟩, q⟩
  refine PE.imp (pe_bm PySem.F.plainAttrs_list PySem.F.slot_list_count PySem.F.type_list_count rule ho (pa_cons he pa_nil m.st) m.base m.few m.line m.st m.pl) fun σ H Q ⟨F, Mx, S, k⟩ => ⟨F, Mx, S, fun v F1 H1 x1 S1 r1 => ?_⟩
  have rh := S1.mem.look r1
  rw [hl] at rh
  obtain ⟨a, vs, rfl, h1, rr⟩ := rh.lst S1.mem.ex
  refine ⟨.inl ⟨rfl, _, SqL.of h1⟩, F1, Mx, S1, fun u F2 H2 x2 S2 r2 => ?_⟩
  have rh2 := S2.mem.look (r1.mono x2)
  rw [hl] at rh2
  obtain ⟨a', ws, ea, h2, rr2⟩ := rh2.lst S2.mem.ex
  cases ea
  have rh3 := S2.mem.look r2
  rw [hd1] at rh3
  exact ⟨a, u, ws, rfl, rfl, h2, rr2.dp S2.mem.ex p2, rh3.dp S2.mem.ex p1, k _ F2 H2 (x1.trans x2) S2 (.int _)⟩
end
end J

set_option Elab.async false
set_option linter.all false
set_option maxRecDepth 100000
set_option maxHeartbeats 2000000
namespace J
open PySem PySem.Spec PyProof.Rows L2 Evl

/-! ### programs as functions over data: t T M Q: from (T, M) something comes of it that Q wants -/
abbrev XT := Tau → Mem → (Res → Mem → Prop) → Prop
abbrev BT := Tau → Mem → (Bool → Mem → Prop) → Prop
abbrev AT := Tau → Mem → (List D → Mem → Prop) → (Exc → Mem → Prop) → Prop
abbrev ST := Tau → Mem → Po → Prop
abbrev IT := Tau → Mem → (List D → (Mem → Prop) → Mem → Prop) → Prop
abbrev GT := D → Tau → (Tau → Prop) → Prop
abbrev GTs := List D → Tau → (Tau → Prop) → Prop
def okQ (f : D → Mem → Prop) : Res → Mem → Prop
  | .ok d, M => f d M
  | .exc _, _ => False
def JV {ι : Type} (X : ι → Cx) (W : WX) (e : Expr) (t : XT) : Prop := ∀ T M Q, t T M Q → ∃ r M', Q r M' ∧ ∀ u, JR (X u) W T M e r M'
def JVb {ι : Type} (X : ι → Cx) (W : WX) (e : Expr) (c : BT) : Prop := ∀ T M Q, c T M Q → ∃ b M', Q b M' ∧ ∀ u, JT (X u) T M e b M' ∧ JE (X u) T M e (.bl b) M'
def JVw {ι : Type} (X : ι → Cx) (W : WX) (op : BoolOp) (es : List Expr) (pos : Pos) (c : BT) : Prop := ∀ T M Q, c T M Q → ∃ b M', Q b M' ∧ ∀ u, JW (X u) T M (.BoolOp op es pos) b M' ∧ JE (X u) T M (.BoolOp op es pos) (.bl b) M'
def tJAR (K : PySem.W.Frag) (W : WX) (T : Tau) (M : Mem) (r : Except Exc (List D)) (M' : Mem) : TA := fun σ H Q => ∃ F Mx, Sim K T (Mx ++ M) σ F H ∧ match r with
  | .ok ds => ∀ vs F' H', Ex F F' → Sim K T (Mx ++ M') σ F' H' → RepL K F' vs ds → Q vs H'
  | .error x => ∀ cls dd F' H', Ex F F' → Sim K T (Mx ++ M') σ F' H' → ExcIs K H' cls dd x → W cls dd σ H'
def JAR (X : Cx) (W : WX) (T : Tau) (M : Mem) (es : List Expr) (r : Except Exc (List D)) (M' : Mem) : Prop := PA X es (tJAR X.K W T M r M')
def JVa {ι : Type} (X : ι → Cx) (W : WX) (es : List Expr) (t : AT) : Prop := ∀ T M Q E, t T M Q E → (∃ ds M', Q ds M' ∧ ∀ u, JA (X u) T M es ds M') ∨ ∃ x M', E x M' ∧ ∀ u, JAR (X u) W T M es (.error x) M'
def JVg {ι : Type} (X : ι → Cx) (w : Bool) (tg : Expr) (g : GT) (ts : List Nat) : Prop := ∀ d T k, g d T k → ∃ T', k T' ∧ ∀ u, JG (X u) w T tg d T' ts
def JVgs {ι : Type} (X : ι → Cx) (tg : List Expr) (g : GTs) (ts : List Nat) : Prop := ∀ d T k, g d T k → ∃ T', k T' ∧ ∀ u, JGs (X u) T tg d T' ts
def JVi {ι : Type} (X : ι → Cx) (W : WX) (w : Bool) (tg iter : Expr) (t : IT) : Prop := ∀ T M Q, t T M Q → ∃ ds C M', Q ds C M' ∧ ∀ u, JI (X u) w T M tg iter ds C M'
def JVs (X : Cx) (W : WX) (st : Stmt) (t : ST) : Prop := ∀ T M P, t T M P → JS X W T M st P
def JVss (X : Cx) (W : WX) (st : List Stmt) (t : ST) : Prop := ∀ T M P, t T M P → JSs X W T M st P
/-- what every context of ours has -/
structure Cok {ι : Type} (X : ι → Cx) : Prop where
  calm : ∀ u, (X u).calm = true
  nd : ∀ u, (X u).N.Nodup
  un : ∀ u, (X u).A.units + 65 < cLine

/-! ### the parts -/
def eVar (i : Nat) : XT := fun T M Q => match T[i]? with
  | some (some d) => Q (.ok d) M
  | _ => False
def eInt (i : Int) : XT := fun _ M Q => Q (.ok (.int i)) M
def eBl (b : Bool) : XT := fun _ M Q => Q (.ok (.bl b)) M
def eNon : XT := fun _ M Q => Q (.ok .non) M
def eStr (x : Str) : XT := fun _ M Q => Q (.ok (.str x)) M
def eB (c : BT) : XT := fun T M Q => c T M fun b M' => Q (.ok (.bl b)) M'
def aNil : AT := fun _ M Q _ => Q [] M
def aCons (t : XT) (r : AT) : AT := fun T M Q E => t T M fun x M1 => match x with
  | .ok d => r T M1 (fun ds M2 => Q (d :: ds) M2) E
  | .exc y => E y M1
def eTup (a : AT) : XT := fun T M Q => a T M (fun ds M1 => ds.length ≤ sizeLine ∧ Q (.ok (.tup ds)) M1) (fun _ _ => False)
def eLst (a : AT) : XT := fun T M Q => a T M (fun ds M1 => ds.length ≤ sizeLine ∧ Q (.ok (.lst ds)) M1) (fun _ _ => False)
def eBin (op : D → D → (D → Prop) → Prop) (a b : XT) : XT := fun T M Q => a T M (okQ fun x M1 => b T M1 (okQ fun y M2 => op (look M2 x) (look M2 y) fun d => Q (.ok d) M2))
def bCmp (op : D → D → (Bool → Prop) → Prop) (a b : XT) : BT := fun T M Q => a T M (okQ fun x M1 => b T M1 (okQ fun y M2 => op (look M2 x) (look M2 y) fun d => Q d M2))
def oAdd : D → D → (D → Prop) → Prop
  | .int i, .int j, k => k (.int (i + j))
  | .tup xs, .tup ys, k => xs.length + ys.length ≤ sizeLine ∧ k (.tup (xs ++ ys))
  | .lst xs, .lst ys, k => xs.length + ys.length ≤ sizeLine ∧ k (.lst (xs ++ ys))
  | _, _, _ => False
def oSub : D → D → (D → Prop) → Prop
  | .int i, .int j, k => k (.int (i - j))
  | _, _, _ => False
def oMul : D → D → (D → Prop) → Prop
  | .int i, .int j, k => CMul i j ∧ k (.int (i * j))
  | .lst xs, .int j, k => (0 ≤ j ∧ j ≤ 1000) ∧ xs.length ≤ 1000 ∧ k (.lst (List.replicate j.toNat xs).flatten)
  | _, _, _ => False
def oMod : D → D → (D → Prop) → Prop
  | .int i, .int j, k => 0 < j ∧ k (.int (i % j))
  | _, _, _ => False
def oFdiv : D → D → (D → Prop) → Prop
  | .int i, .int j, k => CDiv i j ∧ k (.int (i / j))
  | _, _, _ => False
def oLt : D → D → (Bool → Prop) → Prop
  | .int i, .int j, k => k (decide (i < j))
  | _, _, _ => False
def oLe : D → D → (Bool → Prop) → Prop
  | .int i, .int j, k => k (decide (i ≤ j))
  | _, _, _ => False
def oGt : D → D → (Bool → Prop) → Prop
  | .int i, .int j, k => k (decide (j < i))
  | _, _, _ => False
def oGe : D → D → (Bool → Prop) → Prop
  | .int i, .int j, k => k (decide (j ≤ i))
  | _, _, _ => False
def oEq (x y : D) (k : Bool → Prop) : Prop := x.pure = true ∧ y.pure = true ∧ min x.dep y.dep ≤ 60 ∧ k (D.eqv x y)
def oNe (x y : D) (k : Bool → Prop) : Prop := x.pure = true ∧ y.pure = true ∧ min x.dep y.dep ≤ 60 ∧ k (!D.eqv x y)
def D.seq : D → Option (List D)
  | .tup xs => some xs
  | .lst xs => some xs
  | _ => none
def oIn (x y : D) (k : Bool → Prop) : Prop := match y.seq with
  | some ds => x.pure = true ∧ D.pures ds = true ∧ min (D.deps ds) x.dep ≤ 60 ∧ k (D.mem x ds)
  | none => False
def oNin (x y : D) (k : Bool → Prop) : Prop := match y.seq with
  | some ds => x.pure = true ∧ D.pures ds = true ∧ min (D.deps ds) x.dep ≤ 60 ∧ k (!D.mem x ds)
  | none => False
def bChain (f g : Int → Int → Bool) (a b c : XT) : BT := fun T M Q => a T M (okQ fun x M1 => b T M1 (okQ fun y M2 => c T M2 (okQ fun z M3 => match x, y, z with
  | .int i, .int j, .int k => M3 = M2 ∧ Q (f i j && g j k) M2
  | _, _, _ => False)))
def bNot (c : BT) : BT := fun T M Q => c T M fun b M' => Q (!b) M'
def bVal (t : XT) : BT := fun T M Q => t T M (okQ fun d M1 => match d with
  | .bl b => Q b M1
  | _ => False)
def bAnd (a b : BT) : BT := fun T M Q => a T M fun x M1 => (x = true → b T M1 Q) ∧ (x = false → Q false M1)
def bOr (a b : BT) : BT := fun T M Q => a T M fun x M1 => (x = false → b T M1 Q) ∧ (x = true → Q true M1)
def bIsN (a : XT) : BT := fun T M Q => a T M (okQ fun d M1 => Q d.isNon M1)
def bNotN (a : XT) : BT := fun T M Q => a T M (okQ fun d M1 => Q (!d.isNon) M1)
def eIfx (c : BT) (a b : XT) : XT := fun T M Q => c T M fun x M1 => (x = true → a T M1 (okQ fun d M2 => Q (.ok d) M2)) ∧ (x = false → b T M1 (okQ fun d M2 => Q (.ok d) M2))
def eIx (a b : XT) : XT := fun T M Q => a T M (okQ fun x M1 => b T M1 (okQ fun y M2 => match look M2 x, y with
  | .tup ds, .int i => (match atI ds i with
    | some d => Q (.ok d) M2
    | none => False)
  | .lst ds, .int i => (match atI ds i with
    | some d => Q (.ok d) M2
    | none => False)
  | .scr ns, .int i => x = .scr ns ∧ (match atI ns i with
    | some n => Q (.ok (.int n)) M2
    | none => False)
  | _, _ => False))
/-- the ends of a cut -/
abbrev OT := Tau → Mem → (Option Int → Prop) → Prop
def oNone : OT := fun _ _ k => k none
def oSome (t : XT) : OT := fun T M k => t T M (okQ fun d M1 => match d with
  | .int i => M1 = M ∧ k (some i)
  | _ => False)
def eSl (a : XT) (l h : OT) : XT := fun T M Q => a T M (okQ fun x M1 => l T M1 fun lo => h T M1 fun hi => match look M1 x with
  | .tup ds => Q (.ok (.tup (cutD ds lo hi))) M1
  | .lst ds => Q (.ok (.lst (cutD ds lo hi))) M1
  | _ => False)
def eCall (n : Nat) (S : FS) (a : AT) : XT := fun T M Q => a T M (fun ds M1 => ds.length = n ∧ ∃ r M2, S ds M1 r M2 ∧ Q r M2) (fun x M1 => Q (.exc x) M1)
def eCall0 (n : Nat) (S : FS) (a : AT) : XT := fun T M Q => a T M (fun ds M1 => ds.length = n ∧ ∃ d M2, S ds M1 (.ok d) M2 ∧ Q (.ok d) M2) (fun _ _ => False)
def eBlt (f : List D → Option D) (a : AT) : XT := fun T M Q => a T M (fun ds M1 => match f (ds.map (look M1)) with
  | some d => Q (.ok d) M1
  | none => False) (fun _ _ => False)
def ints? : List D → Option (List Int)
  | [] => some []
  | .int i :: r => (ints? r).map (i :: ·)
  | _ => none
def bls? : List D → Option (List Bool)
  | [] => some []
  | .bl i :: r => (bls? r).map (i :: ·)
  | _ => none
def pairs? : List D → Option (List (Int × Int))
  | [] => some []
  | .tup [.int i, .int j] :: r => (pairs? r).map ((i, j) :: ·)
  | _ => none
theorem ints?_map : ∀ ns : List Int, ints? (ns.map D.int) = some ns
  | [] => rfl
  | n :: ns => by simp [ints?, ints?_map ns]
theorem bls?_map : ∀ ns : List Bool, bls? (ns.map D.bl) = some ns
  | [] => rfl
  | n :: ns => by simp [bls?, bls?_map ns]
theorem pairs?_map : ∀ ns : List (Int × Int), pairs? (ns.map pairD) = some ns
  | [] => rfl
  | n :: ns => by simp [pairs?, pairD, pairs?_map ns]
theorem ints?_eq : ∀ {ds : List D} {ns : List Int}, ints? ds = some ns → ds = ns.map D.int
  | [], ns, h => by cases h; rfl
  | d :: ds, ns, h => by
    cases d <;> simp [ints?] at h
    obtain ⟨a, h1, rfl⟩ := h
    rw [ints?_eq h1]; rfl
theorem bls?_eq : ∀ {ds : List D} {ns : List Bool}, bls? ds = some ns → ds = ns.map D.bl
  | [], ns, h => by cases h; rfl
  | d :: ds, ns, h => by
    cases d <;> simp [bls?] at h
    obtain ⟨a, h1, rfl⟩ := h
    rw [bls?_eq h1]; rfl
theorem pairs?_eq : ∀ {ds : List D} {ns : List (Int × Int)}, pairs? ds = some ns → ds = ns.map pairD
  | [], ns, h => by cases h; rfl
  | d :: ds, ns, h => by
    unfold pairs? at h
    split at h
    · next e => cases e
    · next i j r e =>
      cases e
      cases h1 : pairs? ds with
      | none => rw [h1] at h; cases h
      | some a =>
        rw [h1] at h
        have z : (i, j) :: a = ns := by simpa using h
        subst z
        rw [pairs?_eq h1]; rfl
    · cases h
def fLen : List D → Option D
  | [.tup xs] => some (.int xs.length)
  | [.lst xs] => some (.int xs.length)
  | [.scr ns] => some (.int ns.length)
  | _ => none
def fTuple : List D → Option D
  | [.tup xs] => some (.tup xs)
  | [.lst xs] => some (.tup xs)
  | _ => none
def fList : List D → Option D
  | [.tup xs] => some (.lst xs)
  | [.lst xs] => some (.lst xs)
  | _ => none
def fInt : List D → Option D
  | [.int i] => some (.int i)
  | [.bl b] => some (.int (if b then 1 else 0))
  | _ => none
def fMin : List D → Option D
  | [.int i, .int j] => some (.int (min i j))
  | _ => none
def fMax : List D → Option D
  | [.int i, .int j] => some (.int (max i j))
  | _ => none
def fAll : List D → Option D
  | [.lst ds] => (bls? ds).map fun bs => .bl (bs.all id)
  | _ => none
def fAny : List D → Option D
  | [.lst ds] => (bls? ds).map fun bs => .bl (bs.any id)
  | _ => none
def fSum : List D → Option D
  | [.lst ds] => (ints? ds).map fun bs => .int bs.sum
  | _ => none
def bIsi (n : String) (a : XT) : BT := fun T M Q => a T M (okQ fun d M1 => match (look M1 d).ty with
  | some t => (match kitB t n with
    | some b => Q b M1
    | none => False)
  | none => False)
def eSS (a : XT) : XT := fun T M Q => a T M (okQ fun d M1 => match look M1 d with
  | .tup ds => (match ints? ds with
    | some ns => ns.length < 64 ∧ Q (.ok (.lst ((rise ltI ns).map D.int))) M1
    | none => (match pairs? ds with
      | some ps => ps.length < 64 ∧ (∀ p ∈ ps, (0 ≤ p.1 ∧ p.1 < 64) ∧ 0 ≤ p.2 ∧ p.2 < 64) ∧ Q (.ok (.lst ((rise ltP ps).map pairD))) M1
      | none => False))
  | _ => False)
def eCnt (a b : XT) : XT := fun T M Q => a T M (okQ fun x M1 => b T M1 (okQ fun y M2 => M2 = M1 ∧ (look M1 y).pure = true ∧ match look M1 x with
  | .tup ds => x = .tup ds ∧ D.pures ds = true ∧ min (D.deps ds) (look M1 y).dep ≤ 60 ∧ Q (.ok (.int (D.cnt (look M1 y) ds))) M1
  | .lst ds => D.pures ds = true ∧ min (D.deps ds) (look M1 y).dep ≤ 60 ∧ Q (.ok (.int (D.cnt (look M1 y) ds))) M1
  | _ => False))
def gNm (i : Nat) : GT := fun d T k => k (T.set i (some d))
def gTup (g : GTs) : GT := fun d T k => match d with
  | .tup ds => g ds T k
  | _ => False
def gNil : GTs := fun ds T k => match ds with
  | [] => k T
  | _ => False
def gCons (g : GT) (r : GTs) : GTs := fun ds T k => match ds with
  | d :: ds => g d T fun T1 => r ds T1 k
  | [] => False
def iSeq (t : XT) : IT := fun T M Q => t T M (okQ fun d M1 => match d with
  | .tup ds => Q ds (fun _ => True) M1
  | .lst ds => Q ds (fun _ => True) M1
  | .cell l => (match M1.lookup l with
    | some (.lst ds) => Q ds (fun M => M.lookup l = some (.lst ds)) M1
    | _ => False)
  | _ => False)
def iRng (a : XT) : IT := fun T M Q => a T M (okQ fun d M1 => match d with
  | .int n => (-(2 ^ 62) ≤ n ∧ n < 2 ^ 62) ∧ Q (rngD 0 n.toNat) (fun _ => True) M1
  | _ => False)
def iRng2 (a b : XT) : IT := fun T M Q => a T M (okQ fun d M1 => b T M1 (okQ fun e M2 => match d, e with
  | .int lo, .int n => (-(2 ^ 62) ≤ lo ∧ lo < 2 ^ 62 ∧ -(2 ^ 62) ≤ n ∧ n < 2 ^ 62) ∧ Q (rngD lo (n - lo).toNat) (fun _ => True) M2
  | _, _ => False))
def iEnum (a : XT) : IT := fun T M Q => a T M (okQ fun d M1 => match d with
  | .tup ds => Q (enumD ds) (fun _ => True) M1
  | d => (match look M1 d with
    | .lst ds => Q (enumD ds) (CSrc d ds) M1
    | _ => False))
def iZip (a b : XT) : IT := fun T M Q => a T M (okQ fun d M1 => b T M1 (okQ fun e M2 => match d, e with
  | .tup xs, .tup ys => Q (zipD xs ys) (fun _ => True) M2
  | .lst xs, .lst ys => Q (zipD xs ys) (fun _ => True) M2
  | _, _ => False))
def iZi3 (a b c : XT) : IT := fun T M Q => a T M (okQ fun d M1 => b T M1 (okQ fun e M2 => c T M2 (okQ fun f M3 => match d, e, f with
  | .tup xs, .tup ys, .tup zs => Q (zip3D xs ys zs) (fun _ => True) M3
  | _, _, _ => False)))
def lcL (C : Mem → Prop) (own : List Nat) (g : GT) (c : BT) (t : XT) (T : Tau) : List D → Mem → (List D → Mem → Prop) → Prop
  | [], M, Q => C M ∧ Q [] M
  | d :: ds, M, Q => C M ∧ g d (wipeT T own) fun T2 => c T2 M fun b M2 => (b = true → t T2 M2 (okQ fun y M3 => lcL C own g c t T ds M3 fun r M4 => Q (y :: r) M4)) ∧ (b = false → lcL C own g c t T ds M2 Q)
def bTrue : BT := fun _ M Q => Q true M
def eLc (own : List Nat) (it : IT) (g : GT) (c : BT) (t : XT) : XT := fun T M Q => it T M fun ds C M1 => ds.length < sizeLine ∧ lcL C own g c t T ds M1 fun r M2 => Q (.ok (.lst r)) M2
/-! statements -/
def sNil : ST := fun T M P => P.nx T M
def sSeq (s r : ST) : ST := fun T M P => s T M { P with nx := fun T1 M1 => r T1 M1 P }
def sPass : ST := fun T M P => P.nx T M
def sDead : ST := fun _ _ _ => False
def sBreak : ST := fun T M P => P.bk T M
def sCont : ST := fun T M P => P.ct T M
def sExpr (t : XT) : ST := fun T M P => t T M fun r M1 => r.to (fun _ => P.nx T M1) (fun x => P.ex x M1)
def sRet (t : XT) : ST := fun T M P => t T M fun r M1 => r.to (fun d => P.rt d M1) (fun x => P.ex x M1)
def sRetF (t : XT) : ST := fun T M P => t T M (okQ fun d M1 => match d with
  | .cell l => (match M1.lookup l with
    | some (.lst ds) => P.rt (.lst ds) (del M1 l)
    | _ => False)
  | _ => False)
def sAsg (g : GT) (t : XT) : ST := fun T M P => t T M fun r M1 => match r with
  | .ok d => g d T fun T1 => P.nx T1 M1
  | .exc x => P.ex x M1
def sMove (i j : Nat) : ST := fun T M P => match T[j]? with
  | some (some (.cell l)) => (match M.lookup l with
    | some (.lst ds) => P.nx ((T.set j (some (.lst ds))).set i (some (.lst ds))) (del M l)
    | _ => False)
  | _ => False
def sNew (i : Nat) (a : AT) : ST := fun T M P => a T M (fun ds M1 => ds.length ≤ sizeLine ∧ ∀ l, l ∉ M1.map (·.1) → P.nx (T.set i (some (.cell l))) ((l, .lst ds) :: M1)) (fun _ _ => False)
def sApp (i : Nat) (t : XT) : ST := fun T M P => match T[i]? with
  | some (some (.cell l)) => (match M.lookup l with
    | some (.lst _) => t T M (okQ fun d M1 => match M1.lookup l with
      | some (.lst ds) => ds.length < sizeLine ∧ P.nx T (put M1 l (.lst (ds ++ [d])))
      | _ => False)
    | _ => False)
  | _ => False
def sExt (i : Nat) (t : XT) : ST := fun T M P => match T[i]? with
  | some (some (.cell l)) => (match M.lookup l with
    | some (.lst _) => t T M (okQ fun d M1 => match M1.lookup l, look M1 d with
      | some (.lst ds), .lst es => ds.length + es.length ≤ sizeLine ∧ P.nx T (put M1 l (.lst (ds ++ es)))
      | _, _ => False)
    | _ => False)
  | _ => False
def sIf (c : BT) (a b : ST) : ST := fun T M P => c T M fun x M1 => (x = true → a T M1 P) ∧ (x = false → b T M1 P)
def forL (C : Mem → Prop) (g : GT) (body : ST) (P : Po) : List D → Tau → Mem → Prop
  | [], T, M => C M ∧ P.nx T M
  | d :: ds, T, M => C M ∧ g d T fun T1 => body T1 M { P with nx := fun T2 M2 => forL C g body P ds T2 M2, ct := fun T2 M2 => forL C g body P ds T2 M2, bk := P.nx }
def sFor (it : IT) (g : GT) (body : ST) : ST := fun T M P => it T M fun ds C M1 => forL C g body P ds T M1
def whL (c : BT) (body : ST) (P : Po) : Nat → Tau → Mem → Prop
  | 0, _, _ => False
  | n + 1, T, M => c T M fun b M1 => (b = true → body T M1 { P with nx := fun T2 M2 => whL c body P n T2 M2, ct := fun T2 M2 => whL c body P n T2 M2, bk := P.nx }) ∧ (b = false → P.nx T M1)
def sWh (c : BT) (body : ST) : ST := fun T M P => ∃ n, whL c body P n T M
/-- a, b = x, y -/
def sPar (i j : Nat) (a b : XT) : ST := fun T M P => a T M (okQ fun x M1 => b T M1 (okQ fun y M2 => P.nx ((T.set i (some x)).set j (some y)) M2))
end J

set_option Elab.async false
set_option linter.all false
set_option maxRecDepth 100000
set_option maxHeartbeats 2000000
namespace J
open PySem PySem.Spec PyProof.Rows L2 Evl
section
variable {ι : Type} {X : ι → Cx} {W : WX} {T T1 T2 : Tau} {M M1 M2 M3 : Mem} {a b c e e1 e2 e3 tg iter : Expr} {es rest : List Expr} {d d1 d2 : D} {ds ds1 ds2 : List D} {pos p apos cpos tpos : Pos} {x : Str} {t ta tb tc t1 t2 t3 : XT} {f : D → Mem → Prop} {at1 ar : AT} {ca cb : BT} {i : Nat} {kk : Nat}
theorem JV.ok (h : JV X W e t) (q : t T M (okQ f)) : ∃ d M', f d M' ∧ ∀ u, JE (X u) T M e d M' := by
  obtain ⟨r, M', q1, hr⟩ := h T M _ q
  cases r with
  | ok d => exact ⟨d, M', q1, hr⟩
  | exc y => exact q1.elim
theorem JV.mk1 {Q : Res → Mem → Prop} (h : ∀ u, JE (X u) T M e d M1) (q : Q (.ok d) M1) : ∃ r M', Q r M' ∧ ∀ u, JR (X u) W T M e r M' := ⟨.ok d, M1, q, h⟩
theorem v_var (hN : ∀ u, (X u).N[i]? = some x) (hv : ∀ u, Vis (X u).env.scope x := by intro _; first | exact .inl rfl | exact .inr (.inl rfl) | exact .inr (.inr rfl)) (hd : (x == ("__debug__" : Str)) = false := by decide) (hcd : (x == ("__classdict__" : Str)) = false := by decide) : JV X W (.Name x pos) (eVar i) := fun T M Q q => by
  unfold eVar at q
  split at q
  · next d h => exact JV.mk1 (fun u => je_var h (hN u) (hv u) hd hcd) q
  · exact q.elim
theorem v_int {n : Int} {j} : JV X W (.Constant (.int n) j pos) (eInt n) := fun T M Q q => JV.mk1 (fun _ => je_int) q
theorem v_bl {n : Bool} {j} : JV X W (.Constant (.bool n) j pos) (eBl n) := fun T M Q q => JV.mk1 (fun _ => je_bl) q
theorem v_non {j} : JV X W (.Constant .none j pos) eNon := fun T M Q q => JV.mk1 (fun _ => je_non) q
theorem v_str {j} : JV X W (.Constant (.str x) j pos) (eStr x) := fun T M Q q => JV.mk1 (fun _ => je_str) q
theorem v_b (h : JVb X W e ca) : JV X W e (eB ca) := fun T M Q q => by
  obtain ⟨b, M1, q1, h2⟩ := h T M _ q
  exact JV.mk1 (fun u => (h2 u).2) q1
theorem va_nil : JVa X W [] aNil := fun T M Q E q => .inl ⟨[], M, q, fun _ => ja_nil⟩
theorem va_cons (h : JV X W e t) (hr : JVa X W es ar) (he : ∀ u, starEach (e :: es) (X u).env = (false, eval e (X u).env) :: starEach es (X u).env := by intro _; rfl) : JVa X W (e :: es) (aCons t ar) := fun T M Q E q => by
  obtain ⟨r, M1, q1, h1⟩ := h T M _ q
  cases r with
  | exc y =>
    refine .inr ⟨y, M1, q1, fun u => ?_⟩
    refine PA.imp (pa_cons (h1 u) (show PA (X u) es (fun σ H Q => ∃ t, PA (X u) es t ∧ t σ H Q) from ⟨fun pos pins s σ H Q I ⟨t, h, q⟩ => h.run pos pins s σ H Q I q⟩) (he u)) fun σ H Q ⟨F, Mx, S, k⟩ => ⟨F, Mx, S, k⟩
  | ok d =>
    rcases hr T M1 _ _ q1 with ⟨ds, M2, q2, h2⟩ | ⟨y, M2, q2, h2⟩
    · exact .inl ⟨d :: ds, M2, q2, fun u => ja_cons (h1 u) (h2 u) (he u)⟩
    · refine .inr ⟨y, M2, q2, fun u => ?_⟩
      refine PA.imp (pa_cons (h1 u) (h2 u) (he u)) fun σ H Q ⟨F, Mx, S, k⟩ => ⟨F, Mx, S, fun v F1 H1 x1 S1 r1 => ⟨F1, Mx, S1, fun cls dd F2 H2 x2 S2 => k cls dd F2 H2 (x1.trans x2) S2⟩⟩
theorem JVa.ok {Q : List D → Mem → Prop} (h : JVa X W es ar) (q : ar T M Q (fun _ _ => False)) : ∃ ds M', Q ds M' ∧ ∀ u, JA (X u) T M es ds M' := by
  rcases h T M _ _ q with h | ⟨_, _, h, _⟩
  · exact h
  · exact h.elim
theorem v_tup {x1} (h : JVa X W es ar) : JV X W (.Tuple es x1 pos) (eTup ar) := fun T M Q q => by
  obtain ⟨ds, M1, ⟨hz, q1⟩, h1⟩ := h.ok q
  exact JV.mk1 (fun u => je_tup (h1 u) hz) q1
theorem v_lst (h : JVa X W es ar) : JV X W (.List es pos) (eLst ar) := fun T M Q q => by
  obtain ⟨ds, M1, ⟨hz, q1⟩, h1⟩ := h.ok q
  exact JV.mk1 (fun u => je_lst (h1 u) hz) q1
theorem v_add (ha : JV X W a ta) (hb : JV X W b tb) : JV X W (.BinOp a .Add b pos) (eBin oAdd ta tb) := fun T M Q q => by
  obtain ⟨d1, M1, q1, h1⟩ := ha.ok q
  obtain ⟨d2, M2, q2, h2⟩ := hb.ok q1
  unfold oAdd at q2
  split at q2
  · next i j k e1 e2 => exact JV.mk1 (fun u => je_op (op_int0 op_add) (h1 u) (h2 u) ⟨_, _, e1, e2, trivial, rfl⟩) q2
  · next e1 e2 => exact JV.mk1 (fun u => je_catT (h1 u) (h2 u) e1 e2 q2.1) q2.2
  · next e1 e2 => exact JV.mk1 (fun u => je_catL (h1 u) (h2 u) e1 e2 q2.1) q2.2
  · exact q2.elim
theorem v_sub (ha : JV X W a ta) (hb : JV X W b tb) : JV X W (.BinOp a .Sub b pos) (eBin oSub ta tb) := fun T M Q q => by
  obtain ⟨d1, M1, q1, h1⟩ := ha.ok q
  obtain ⟨d2, M2, q2, h2⟩ := hb.ok q1
  unfold oSub at q2
  split at q2
  · next i j k e1 e2 => exact JV.mk1 (fun u => je_op (op_int0 op_sub) (h1 u) (h2 u) ⟨_, _, e1, e2, trivial, rfl⟩) q2
  · exact q2.elim

theorem je_repL2 {X : Cx} {k : Int} (ha : JE X T M a d1 M1) (hb : JE X T M1 b d2 M2) (l1 : look M2 d1 = .lst ds1) (l2 : look M2 d2 = .int k) (hk : 0 ≤ k ∧ k ≤ 1000) (hz : ds1.length ≤ 1000) : JE X T M (.BinOp a .Mult b pos) (.lst (List.replicate k.toNat ds1).flatten) M2 := by
  refine je_op (g := fun x y z => x = .lst ds1 ∧ y = .int k ∧ z = .lst (List.replicate k.toNat ds1).flatten) ⟨_, op_rep, fun d1 d2 d hg M F H x y Q m rx ry q => ?_⟩ ha hb ⟨l1, l2, rfl⟩
  obtain ⟨rfl, rfl, rfl⟩ := hg
  obtain ⟨p1, xs, rfl, h1, r1⟩ := rx.lst m.ex
  have hle : xs.length * k.toNat ≤ sizeLine := by
    have h2 : xs.length * k.toNat ≤ 1000 * 1000 := Nat.mul_le_mul (by rw [r1.length]; exact hz) (by omega)
    exact Nat.le_trans h2 (by rw [sizeLine_eq]; decide)
  refine ⟨p1, k, xs, rfl, ry.int, h1, by omega, by omega, hle, fun pp hq => ?_⟩
  have g := gr_new (o := .lst (List.replicate k.toNat xs).flatten) m.ex hq
  exact q _ _ _ g (.lst upd_same ((r1.rep _).mono g.ff))
theorem v_mul (ha : JV X W a ta) (hb : JV X W b tb) : JV X W (.BinOp a .Mult b pos) (eBin oMul ta tb) := fun T M Q q => by
  obtain ⟨d1, M1, q1, h1⟩ := ha.ok q
  obtain ⟨d2, M2, q2, h2⟩ := hb.ok q1
  unfold oMul at q2
  split at q2
  · next i j k e1 e2 => exact JV.mk1 (fun u => je_op (op_int op_mul) (h1 u) (h2 u) ⟨_, _, e1, e2, q2.1, rfl⟩) q2.2
  · next xs j e1 e2 => exact JV.mk1 (fun u => je_repL2 (h1 u) (h2 u) e1 e2 q2.1 q2.2.1) q2.2.2
  · exact q2.elim
theorem v_mod (ha : JV X W a ta) (hb : JV X W b tb) : JV X W (.BinOp a .Mod b pos) (eBin oMod ta tb) := fun T M Q q => by
  obtain ⟨d1, M1, q1, h1⟩ := ha.ok q
  obtain ⟨d2, M2, q2, h2⟩ := hb.ok q1
  unfold oMod at q2
  split at q2
  · next i j k e1 e2 => exact JV.mk1 (fun u => je_op (op_int op_mod) (h1 u) (h2 u) ⟨_, _, e1, e2, q2.1, rfl⟩) q2.2
  · exact q2.elim
theorem v_fdiv (ha : JV X W a ta) (hb : JV X W b tb) : JV X W (.BinOp a .FloorDiv b pos) (eBin oFdiv ta tb) := fun T M Q q => by
  obtain ⟨d1, M1, q1, h1⟩ := ha.ok q
  obtain ⟨d2, M2, q2, h2⟩ := hb.ok q1
  unfold oFdiv at q2
  split at q2
  · next i j k e1 e2 => exact JV.mk1 (fun u => je_op (op_int op_fdiv) (h1 u) (h2 u) ⟨_, _, e1, e2, q2.1, rfl⟩) q2.2
  · exact q2.elim
theorem vb_cmp {cop : CmpOp} {op : D → D → (Bool → Prop) → Prop} (ho : ∀ d1 d2 k, op d1 d2 k → ∃ bb g, k bb ∧ (∀ u, OpJ (X u) (compareOp cop) g) ∧ g d1 d2 (.bl bb)) (ha : JV X W a ta) (hb : JV X W b tb) (hm : behindInMarks cop b = false) : JVb X W (.Compare a [cop] [b] pos) (bCmp op ta tb) := fun T M Q q => by
  obtain ⟨d1, M1, q1, h1⟩ := ha.ok q
  obtain ⟨d2, M2, q2, h2⟩ := hb.ok q1
  obtain ⟨bb, g, k, hj, hg⟩ := ho _ _ _ q2
  exact ⟨bb, M2, k, fun u => ⟨jt_cmp (hj u) (h1 u) (h2 u) hg hm, je_cmp (hj u) (h1 u) (h2 u) hg hm⟩⟩
theorem vb_lt (ha : JV X W a ta) (hb : JV X W b tb) : JVb X W (.Compare a [.Lt] [b] pos) (bCmp oLt ta tb) := vb_cmp (fun d1 d2 k q => by
  unfold oLt at q
  split at q
  · next i j k => exact ⟨_, _, q, fun _ => op_cmpI op_lt, _, _, rfl, rfl, rfl⟩
  · exact q.elim) ha hb (nomark _)
theorem vb_le (ha : JV X W a ta) (hb : JV X W b tb) : JVb X W (.Compare a [.LtE] [b] pos) (bCmp oLe ta tb) := vb_cmp (fun d1 d2 k q => by
  unfold oLe at q
  split at q
  · next i j k => exact ⟨_, _, q, fun _ => op_cmpI op_le, _, _, rfl, rfl, rfl⟩
  · exact q.elim) ha hb (nomark _)
theorem vb_gt (ha : JV X W a ta) (hb : JV X W b tb) : JVb X W (.Compare a [.Gt] [b] pos) (bCmp oGt ta tb) := vb_cmp (fun d1 d2 k q => by
  unfold oGt at q
  split at q
  · next i j k => exact ⟨_, _, q, fun _ => op_cmpI op_gt, _, _, rfl, rfl, rfl⟩
  · exact q.elim) ha hb (nomark _)
theorem vb_ge (ha : JV X W a ta) (hb : JV X W b tb) : JVb X W (.Compare a [.GtE] [b] pos) (bCmp oGe ta tb) := vb_cmp (fun d1 d2 k q => by
  unfold oGe at q
  split at q
  · next i j k => exact ⟨_, _, q, fun _ => op_cmpI op_ge, _, _, rfl, rfl, rfl⟩
  · exact q.elim) ha hb (nomark _)
theorem vb_eq (c : Cok X) (ha : JV X W a ta) (hb : JV X W b tb) : JVb X W (.Compare a [.Eq] [b] pos) (bCmp oEq ta tb) := vb_cmp (fun d1 d2 k q => ⟨_, _, q.2.2.2, fun u => opr_eq (by have := c.un u; omega), q.1, q.2.1, q.2.2.1, rfl⟩) ha hb (nomark _)
theorem vb_ne (c : Cok X) (ha : JV X W a ta) (hb : JV X W b tb) : JVb X W (.Compare a [.NotEq] [b] pos) (bCmp oNe ta tb) := vb_cmp (fun d1 d2 k q => ⟨_, _, q.2.2.2, fun u => opr_ne (by have := c.un u; omega), q.1, q.2.1, q.2.2.1, rfl⟩) ha hb (nomark _)
theorem seq_or {d : D} {ds : List D} (h : d.seq = some ds) : d = .tup ds ∨ d = .lst ds := by
  cases d <;> simp [D.seq] at h <;> simp [h]
theorem vb_in (c : Cok X) (ha : JV X W a ta) (hb : JV X W b tb) (hm : behindInMarks .In b = false := by rfl) : JVb X W (.Compare a [.In] [b] pos) (bCmp oIn ta tb) := vb_cmp (fun d1 d2 k q => by
  unfold oIn at q
  split at q
  · next ds hd => exact ⟨_, _, q.2.2.2, fun u => opr_in (c.un u), ds, seq_or hd, q.1, q.2.1, q.2.2.1, rfl⟩
  · exact q.elim) ha hb hm
theorem vb_nin (c : Cok X) (ha : JV X W a ta) (hb : JV X W b tb) (hm : behindInMarks .NotIn b = false := by rfl) : JVb X W (.Compare a [.NotIn] [b] pos) (bCmp oNin ta tb) := vb_cmp (fun d1 d2 k q => by
  unfold oNin at q
  split at q
  · next ds hd => exact ⟨_, _, q.2.2.2, fun u => opr_notin (c.un u), ds, seq_or hd, q.1, q.2.1, q.2.2.1, rfl⟩
  · exact q.elim) ha hb hm
theorem vb_chain {op op' : CmpOp} {f f' : Int → Int → Bool} {e3 : Expr} (h : ffI op = some f) (h' : ffI op' = some f') (ha : JV X W a ta) (hb : JV X W b tb) (hc : JV X W e3 tc) (hm : lastMarks [op, op'] [b, e3] = false := by with_unfolding_all rfl) : JVb X W (.Compare a [op, op'] [b, e3] pos) (bChain f f' ta tb tc) := fun T M Q q => by
  obtain ⟨d1, M1, q1, h1⟩ := ha.ok q
  obtain ⟨d2, M2, q2, h2⟩ := hb.ok q1
  obtain ⟨d3, M3, q3, h3⟩ := hc.ok q2
  split at q3
  · obtain ⟨rfl, q3⟩ := q3
    exact ⟨_, _, q3, fun u => ⟨jt_chain h h' (h1 u) (h2 u) (h3 u) hm, je_chain h h' (h1 u) (h2 u) (h3 u) hm⟩⟩
  · exact q3.elim
theorem vb_not (h : JVb X W e ca) : JVb X W (.UnaryOp .Not e pos) (bNot ca) := fun T M Q q => by
  obtain ⟨b, M1, q1, h1⟩ := h T M _ q
  exact ⟨!b, M1, q1, fun u => ⟨jt_not (h1 u).1, je_not (h1 u).2⟩⟩
theorem vb_val (h : JV X W e t) (he : ∀ u, ∀ whole, isTrue e (X u).env whole = (do let v ← whole; standAt e.pos; holding [v] (truthy v)) := by intro _ _; rfl) : JVb X W e (bVal t) := fun T M Q q => by
  obtain ⟨d, M1, q1, h1⟩ := h.ok q
  split at q1
  · exact ⟨_, M1, q1, fun u => ⟨jt_val (h1 u) (he u), h1 u⟩⟩
  · exact q1.elim
theorem vw_one {op} (h : JVb X W a ca) (ho : op = .And ∨ op = .Or) : JVw X W op [a] pos ca := fun T M Q q => by
  obtain ⟨b, M1, q1, h1⟩ := h T M _ q
  rcases ho with rfl | rfl
  · exact ⟨b, M1, q1, fun u => ⟨jw_and1 (h1 u).1, jv_one (h1 u).2⟩⟩
  · exact ⟨b, M1, q1, fun u => ⟨jw_or1 (h1 u).1, jv_one (h1 u).2⟩⟩
theorem jv_and2 {X : Cx} {b1 b2 : Bool} (h : JE X T M a (.bl b1) M1) (h2 : b1 = true → JE X T M1 (.BoolOp .And (b :: rest) pos) (.bl b2) M2) (h3 : b1 = false → M2 = M1 ∧ b2 = false) : JE X T M (.BoolOp .And (a :: b :: rest) pos) (.bl b2) M2 :=
  PE.imp (pe_and h (pe_u _)) fun σ H Q ⟨F, Mx, S, k⟩ => ⟨F, Mx, S, fun v F1 H1 x1 S1 r1 => ⟨b1, r1.bl_inv, by
    cases b1 with
    | false =>
      obtain ⟨rfl, rfl⟩ := h3 rfl
      rw [if_neg Bool.false_ne_true]
      exact k _ F1 H1 x1 S1 (.bl _)
    | true =>
      rw [if_pos rfl]
      exact ⟨_, h2 rfl, F1, Mx, S1, fun u F2 H2 x2 S2 r2 => k u F2 H2 (x1.trans x2) S2 r2⟩⟩⟩
theorem jv_or2 {X : Cx} {b1 b2 : Bool} (h : JE X T M a (.bl b1) M1) (h2 : b1 = false → JE X T M1 (.BoolOp .Or (b :: rest) pos) (.bl b2) M2) (h3 : b1 = true → M2 = M1 ∧ b2 = true) : JE X T M (.BoolOp .Or (a :: b :: rest) pos) (.bl b2) M2 :=
  PE.imp (pe_or h (pe_u _)) fun σ H Q ⟨F, Mx, S, k⟩ => ⟨F, Mx, S, fun v F1 H1 x1 S1 r1 => ⟨b1, r1.bl_inv, by
    cases b1 with
    | true =>
      obtain ⟨rfl, rfl⟩ := h3 rfl
      rw [if_pos rfl]
      exact k _ F1 H1 x1 S1 (.bl _)
    | false =>
      rw [if_neg Bool.false_ne_true]
      exact ⟨_, h2 rfl, F1, Mx, S1, fun u F2 H2 x2 S2 r2 => k u F2 H2 (x1.trans x2) S2 r2⟩⟩⟩
theorem vw_and (h : JVb X W a ca) (h2 : JVw X W .And (b :: rest) pos cb) : JVw X W .And (a :: b :: rest) pos (bAnd ca cb) := fun T M Q q => by
  obtain ⟨x, M1, ⟨q1, q2⟩, h3⟩ := h T M _ q
  cases x with
  | true =>
    obtain ⟨y, M2, q3, h5⟩ := h2 T M1 _ (q1 rfl)
    exact ⟨y, M2, q3, fun u => ⟨jw_andT (h3 u).1 (h5 u).1, jv_and2 (h3 u).2 (fun _ => (h5 u).2) (fun z => by cases z)⟩⟩
  | false => exact ⟨false, M1, q2 rfl, fun u => ⟨jw_andF (h3 u).1, jv_and2 (h3 u).2 (fun z => by cases z) (fun _ => ⟨rfl, rfl⟩)⟩⟩
theorem vw_or (h : JVb X W a ca) (h2 : JVw X W .Or (b :: rest) pos cb) : JVw X W .Or (a :: b :: rest) pos (bOr ca cb) := fun T M Q q => by
  obtain ⟨x, M1, ⟨q1, q2⟩, h3⟩ := h T M _ q
  cases x with
  | false =>
    obtain ⟨y, M2, q3, h5⟩ := h2 T M1 _ (q1 rfl)
    exact ⟨y, M2, q3, fun u => ⟨jw_orF (h3 u).1 (h5 u).1, jv_or2 (h3 u).2 (fun _ => (h5 u).2) (fun z => by cases z)⟩⟩
  | true => exact ⟨true, M1, q2 rfl, fun u => ⟨jw_orT (h3 u).1, jv_or2 (h3 u).2 (fun z => by cases z) (fun _ => ⟨rfl, rfl⟩)⟩⟩
theorem vb_w {op} (h : JVw X W op es pos ca) : JVb X W (.BoolOp op es pos) ca := fun T M Q q => by
  obtain ⟨b, M1, q1, h1⟩ := h T M _ q
  exact ⟨b, M1, q1, fun u => ⟨(h1 u).1.jt, (h1 u).2⟩⟩
theorem vb_isN {j pos'} (h : JV X W a ta) : JVb X W (.Compare a [.Is] [.Constant .none j pos'] pos) (bIsN ta) := fun T M Q q => by
  obtain ⟨d, M1, q1, h1⟩ := h.ok q
  exact ⟨_, M1, q1, fun u => ⟨jt_isN (h1 u), je_isN (h1 u)⟩⟩
theorem vb_notN {j pos'} (h : JV X W a ta) : JVb X W (.Compare a [.IsNot] [.Constant .none j pos'] pos) (bNotN ta) := fun T M Q q => by
  obtain ⟨d, M1, q1, h1⟩ := h.ok q
  exact ⟨_, M1, q1, fun u => ⟨jt_notN (h1 u), je_notN (h1 u)⟩⟩
theorem v_ifx (h : JVb X W c ca) (ha : JV X W a ta) (hb : JV X W b tb) : JV X W (.IfExp c a b pos) (eIfx ca ta tb) := fun T M Q q => by
  obtain ⟨x, M1, ⟨q1, q2⟩, h1⟩ := h T M _ q
  cases x with
  | true =>
    obtain ⟨d, M2, q3, h3⟩ := ha.ok (q1 rfl)
    exact JV.mk1 (fun u => je_if (h1 u).1 (fun _ => (h3 u)) (fun z => by cases z)) q3
  | false =>
    obtain ⟨d, M2, q3, h3⟩ := hb.ok (q2 rfl)
    exact JV.mk1 (fun u => je_if (h1 u).1 (fun z => by cases z) (fun _ => (h3 u))) q3
theorem v_ix (ha : JV X W a ta) (hb : JV X W b tb) (hs : PlainIx b := by intro _ _; rfl) : JV X W (.Subscript a b pos) (eIx ta tb) := fun T M Q q => by
  obtain ⟨d1, M1, q1, h1⟩ := ha.ok q
  obtain ⟨d2, M2, q2, h2⟩ := hb.ok q1
  split at q2
  · next ds i e =>
    split at q2
    · next d hd => exact JV.mk1 (fun u => je_ix (h1 u) (h2 u) (.inl e) hd hs) q2
    · exact q2.elim
  · next ds i e =>
    split at q2
    · next d hd => exact JV.mk1 (fun u => je_ix (h1 u) (h2 u) (.inr e) hd hs) q2
    · exact q2.elim
  · next ns i e =>
    obtain ⟨rfl, q2⟩ := q2
    split at q2
    · next d hd => exact JV.mk1 (fun u => je_ixS (h1 u) (h2 u) hd hs) q2
    · exact q2.elim
  · exact q2.elim
def JVo {ι : Type} (X : ι → Cx) (W : WX) (e : Option Expr) (o : OT) : Prop := ∀ T M k, o T M k → ∃ i, k i ∧ ∀ u, JO (X u) T M e i
theorem vo_none : JVo X W none oNone := fun T M k q => ⟨none, q, fun _ => jo_none⟩
theorem vo_some (h : JV X W e t) : JVo X W (some e) (oSome t) := fun T M k q => by
  obtain ⟨d, M1, q1, h1⟩ := h.ok q
  split at q1
  · obtain ⟨rfl, q1⟩ := q1
    exact ⟨_, q1, fun u => jo_some (h1 u)⟩
  · exact q1.elim
theorem v_sl {lo hi : Option Expr} {ol oh : OT} {p2 : Pos} (ha : JV X W a ta) (hl : JVo X W lo ol) (hh : JVo X W hi oh) : JV X W (.Subscript a (.Slice lo hi none p2) pos) (eSl ta ol oh) := fun T M Q q => by
  obtain ⟨d1, M1, q1, h1⟩ := ha.ok q
  obtain ⟨l, q2, h2⟩ := hl _ _ _ q1
  obtain ⟨h, q3, h3⟩ := hh _ _ _ q2
  split at q3
  · next ds e => exact JV.mk1 (fun u => je_slT (h1 u) (h2 u) (h3 u) e) q3
  · next ds e => exact JV.mk1 (fun u => je_sl (h1 u) (h2 u) (h3 u) e) q3
  · exact q3.elim
theorem v_call {k j n : Nat} {S : FS} (F : ∀ u, JFn (X u).prog (X u).w (X u).K (X u).mg (X u).base k x n S) (hr : ∀ u, Room j (X u).A) (hj : k ≤ j) (hg : ∀ u, Gl (X u) x) (tk : ∀ u, Takes (X u) W) (ha : JVa X W (e :: es) ar)
    (hdb : (x == ("__debug__" : Str)) = false := by decide) (he : ∀ u, starEach (e :: es) (X u).env = (false, eval e (X u).env) :: starEach es (X u).env := by intro _; rfl) (hpl : ∀ u, (backTo pos (starEach es (X u).env)).any (·.1) = false := by intro _; rfl) : JV X W (.Call (.Name x p) (e :: es) [] pos) (eCall n S ar) := fun T M Q q => by
  rcases ha T M _ _ q with ⟨ds, M1, ⟨hn, r, M2, hS, q1⟩, h1⟩ | ⟨y, M1, q1, h1⟩
  · exact ⟨r, M2, q1, fun u => jr_call (F u) (hr u) hj (hg u) (tk u) (h1 u) hn hS hdb (he u) (hpl u)⟩
  · refine ⟨.exc y, M1, q1, fun u => ?_⟩
    obtain ⟨f, fd, ps, hm, hk, hb, hps, G⟩ := (F u).ex
    exact PE.imp (pe_callS G ((hr u).mono hj) (hg u) hm hk hb (fun σ => passAt (tk u) σ) (h1 u) hdb (he u) (hpl u)) fun σ H Q ⟨F, Mx, S0, k⟩ => ⟨F, Mx, S0, k⟩
/-- .. that does not raise -/
theorem v_call0 {k j n : Nat} {S : FS} (F : ∀ u, JFn (X u).prog (X u).w (X u).K (X u).mg (X u).base k x n S) (hr : ∀ u, Room j (X u).A) (hj : k ≤ j) (hg : ∀ u, Gl (X u) x) (ha : JVa X W (e :: es) ar)
    (hdb : (x == ("__debug__" : Str)) = false := by decide) (he : ∀ u, starEach (e :: es) (X u).env = (false, eval e (X u).env) :: starEach es (X u).env := by intro _; rfl) (hpl : ∀ u, (backTo pos (starEach es (X u).env)).any (·.1) = false := by intro _; rfl) : JV X W (.Call (.Name x p) (e :: es) [] pos) (eCall0 n S ar) := fun T M Q q => by
  obtain ⟨ds, M1, ⟨hn, d, M2, hS, q1⟩, h1⟩ := ha.ok q
  exact JV.mk1 (fun u => je_call (F u) (hr u) hj (hg u) (h1 u) hn hS hdb (he u) (hpl u)) q1
/-- a number of the module -/
theorem v_gi {n : Int} (hg : ∀ u, Gl (X u) x) (hm : ∀ u, ∃ t, (X u).mg x = some (.int n t)) (hd : (x == ("__debug__" : Str)) = false := by decide) : JV X W (.Name x pos) (eInt n) := fun T M Q q =>
  JV.mk1 (fun u => by
    obtain ⟨t, h⟩ := hm u
    exact PE.imp (pe_glob (v := .int n) (hg u) h ⟨_, rfl⟩ hd) fun σ H Q ⟨F, Mx, S, k⟩ => k _ F H (Ex.refl _) S (.int n)) q
theorem v_blt {f : List D → Option D} {bid : String} (hc : ∀ ds d, f ds = some d → ∃ g, (∀ u, CallJ (X u) (.builtin bid) g) ∧ g ds d) (hg : ∀ u, Gl (X u) x) (hm : ∀ u, (X u).mg x = none) (hv : bootBuiltins x = some (.builtin bid)) (ha : JVa X W (e :: es) ar) (hn : x ≠ "__name__" := by decide) (hdb : (x == ("__debug__" : Str)) = false := by decide)
    (he : ∀ u, starEach (e :: es) (X u).env = (false, eval e (X u).env) :: starEach es (X u).env := by intro _; rfl) (hpl : ∀ u, (backTo pos (starEach es (X u).env)).any (·.1) = false := by intro _; rfl) : JV X W (.Call (.Name x p) (e :: es) [] pos) (eBlt f ar) := fun T M Q q => by
  obtain ⟨ds, M1, q1, h1⟩ := ha.ok q
  split at q1
  · next d hd =>
    obtain ⟨g, h2, h3⟩ := hc _ _ hd
    exact JV.mk1 (fun u => je_callB (h2 u) (hg u) (hm u) hv (h1 u) h3 hn hdb (he u) (hpl u)) q1
  · exact q1.elim
theorem v_bltT {f : List D → Option D} {bty : String} (hc : ∀ ds d, f ds = some d → ∃ g, (∀ u, CallJ (X u) (.type bty) g) ∧ g ds d) (hg : ∀ u, Gl (X u) x) (hm : ∀ u, (X u).mg x = none) (hv : bootBuiltins x = some (.type bty)) (ha : JVa X W (e :: es) ar) (hn : x ≠ "__name__" := by decide) (hdb : (x == ("__debug__" : Str)) = false := by decide)
    (he : ∀ u, starEach (e :: es) (X u).env = (false, eval e (X u).env) :: starEach es (X u).env := by intro _; rfl) (hpl : ∀ u, (backTo pos (starEach es (X u).env)).any (·.1) = false := by intro _; rfl) : JV X W (.Call (.Name x p) (e :: es) [] pos) (eBlt f ar) := fun T M Q q => by
  obtain ⟨ds, M1, q1, h1⟩ := ha.ok q
  split at q1
  · next d hd =>
    obtain ⟨g, h2, h3⟩ := hc _ _ hd
    exact JV.mk1 (fun u => je_callTy (h2 u) (hg u) (hm u) hv (h1 u) h3 hn hdb (he u) (hpl u)) q1
  · exact q1.elim
theorem c_len (ds : List D) (d : D) (h : fLen ds = some d) : ∃ g, (∀ u, CallJ (X u) (.builtin "len") g) ∧ g ds d := by
  unfold fLen at h
  split at h <;> cases h
  · exact ⟨_, fun _ => cj_len, _, _, rfl, .inl rfl, rfl⟩
  · exact ⟨_, fun _ => cj_len, _, _, rfl, .inr rfl, rfl⟩
  · exact ⟨_, fun _ => cj_lenS, _, rfl, rfl⟩
theorem c_tuple (ds : List D) (d : D) (h : fTuple ds = some d) : ∃ g, (∀ u, CallJ (X u) (.type "tuple") g) ∧ g ds d := by
  unfold fTuple at h
  split at h <;> cases h
  · exact ⟨_, fun _ => cj_tuple, _, _, rfl, .inl rfl, rfl⟩
  · exact ⟨_, fun _ => cj_tuple, _, _, rfl, .inr rfl, rfl⟩
theorem c_list (ds : List D) (d : D) (h : fList ds = some d) : ∃ g, (∀ u, CallJ (X u) (.type "list") g) ∧ g ds d := by
  unfold fList at h
  split at h <;> cases h
  · exact ⟨_, fun _ => cj_list, _, _, rfl, .inl rfl, rfl⟩
  · exact ⟨_, fun _ => cj_list, _, _, rfl, .inr rfl, rfl⟩
theorem c_int (ds : List D) (d : D) (h : fInt ds = some d) : ∃ g, (∀ u, CallJ (X u) (.type "int") g) ∧ g ds d := by
  unfold fInt at h
  split at h <;> cases h
  · exact ⟨_, fun _ => cj_int, .inl ⟨_, rfl, rfl⟩⟩
  · exact ⟨_, fun _ => cj_int, .inr ⟨_, rfl, rfl⟩⟩
theorem c_min (c : Cok X) (ds : List D) (d : D) (h : fMin ds = some d) : ∃ g, (∀ u, CallJ (X u) (.builtin "min") g) ∧ g ds d := by
  unfold fMin at h
  split at h <;> cases h
  exact ⟨_, fun u => cj_min2 (c.calm u), _, _, rfl, rfl⟩
theorem c_max (c : Cok X) (ds : List D) (d : D) (h : fMax ds = some d) : ∃ g, (∀ u, CallJ (X u) (.builtin "max") g) ∧ g ds d := by
  unfold fMax at h
  split at h <;> cases h
  exact ⟨_, fun u => cj_max2 (c.calm u), _, _, rfl, rfl⟩
theorem c_all (c : Cok X) (ds : List D) (d : D) (h : fAll ds = some d) : ∃ g, (∀ u, CallJ (X u) (.builtin "all") g) ∧ g ds d := by
  unfold fAll at h
  split at h
  · next xs =>
    cases e : bls? xs with
    | none => rw [e] at h; cases h
    | some bs =>
      rw [e] at h
      cases h
      exact ⟨_, fun u => cj_all (c.calm u), _, by rw [bls?_eq e], rfl⟩
  · cases h
theorem c_any (c : Cok X) (ds : List D) (d : D) (h : fAny ds = some d) : ∃ g, (∀ u, CallJ (X u) (.builtin "any") g) ∧ g ds d := by
  unfold fAny at h
  split at h
  · next xs =>
    cases e : bls? xs with
    | none => rw [e] at h; cases h
    | some bs =>
      rw [e] at h
      cases h
      exact ⟨_, fun u => cj_any (c.calm u), _, by rw [bls?_eq e], rfl⟩
  · cases h
theorem c_sum (c : Cok X) (ds : List D) (d : D) (h : fSum ds = some d) : ∃ g, (∀ u, CallJ (X u) (.builtin "sum") g) ∧ g ds d := by
  unfold fSum at h
  split at h
  · next xs =>
    cases e : ints? xs with
    | none => rw [e] at h; cases h
    | some bs =>
      rw [e] at h
      cases h
      exact ⟨_, fun u => cj_sum (c.calm u), _, by rw [ints?_eq e], rfl⟩
  · cases h
theorem vb_isi {n : String} {z : Str} {p2 : Pos} (hg : ∀ u, Gl (X u) "isinstance") (hm : ∀ u, (X u).mg "isinstance" = none) (ha : JV X W e t) (hg2 : ∀ u, Gl (X u) z) (hm2 : ∀ u, (X u).mg z = none) (hv : bootBuiltins z = some (.type n))
    (hn : z ≠ "__name__" := by decide) (hdb : (z == ("__debug__" : Str)) = false := by decide) (he : ∀ u, starEach [e, .Name z p2] (X u).env = (false, eval e (X u).env) :: starEach [.Name z p2] (X u).env := by intro _; rfl) (he2 : ∀ u, starEach [.Name z p2] (X u).env = (false, eval (.Name z p2) (X u).env) :: starEach [] (X u).env := by intro _; rfl)
    (hpl : ∀ u, (backTo pos (starEach [.Name z p2] (X u).env)).any (·.1) = false := by intro _; rfl) (hit : ∀ u, ∀ whole, isTrue (.Call (.Name "isinstance" p) [e, .Name z p2] [] pos) (X u).env whole = (do let v ← whole; standAt (Expr.Call (.Name "isinstance" p) [e, .Name z p2] [] pos).pos; holding [v] (truthy v)) := by intro _ _; rfl) : JVb X W (.Call (.Name "isinstance" p) [e, .Name z p2] [] pos) (bIsi n t) := fun T M Q q => by
  obtain ⟨d, M1, q1, h1⟩ := ha.ok q
  split at q1
  · next tt ht =>
    split at q1
    · next bb hk =>
      have h2 := fun u => je_isi (pos := pos) (p := p) (hg u) (hm u) (h1 u) (hg2 u) (hm2 u) hv ht hk hn hdb (he u) (he2 u) (hpl u)
      exact ⟨bb, M1, q1, fun u => ⟨jt_val (h2 u) (hit u), h2 u⟩⟩
    · exact q1.elim
  · exact q1.elim
theorem v_ss {p2 q : Pos} (c : Cok X) (hg : ∀ u, Gl (X u) "sorted") (hm : ∀ u, (X u).mg "sorted" = none) (hg2 : ∀ u, Gl (X u) "set") (hm2 : ∀ u, (X u).mg "set" = none) (ha : JV X W e t)
    (he2 : ∀ u, starEach [e] (X u).env = (false, eval e (X u).env) :: starEach [] (X u).env := by intro _; rfl) (hpl2 : ∀ u, (backTo q (starEach [] (X u).env)).any (·.1) = false := by intro _; rfl)
    (he : ∀ u, starEach [.Call (.Name "set" p2) [e] [] q] (X u).env = (false, eval (.Call (.Name "set" p2) [e] [] q) (X u).env) :: starEach [] (X u).env := by intro _; rfl) (hpl : ∀ u, (backTo pos (starEach [] (X u).env)).any (·.1) = false := by intro _; rfl) :
    JV X W (.Call (.Name "sorted" p) [.Call (.Name "set" p2) [e] [] q] [] pos) (eSS t) := fun T M Q qq => by
  obtain ⟨d, M1, q1, h1⟩ := ha.ok qq
  split at q1
  · next ds hd =>
    split at q1
    · next ns hn =>
      rw [ints?_eq hn] at hd
      exact JV.mk1 (fun u => je_sortedI (c.calm u) (hg u) (hm u) (hg2 u) (hm2 u) (h1 u) hd q1.1 (he2 u) (hpl2 u) (he u) (hpl u)) q1.2
    · split at q1
      · next ps hp =>
        rw [pairs?_eq hp] at hd
        exact JV.mk1 (fun u => je_sortedP (c.calm u) (by have := c.un u; omega) (hg u) (hm u) (hg2 u) (hm2 u) (h1 u) hd q1.1 q1.2.1 (he2 u) (hpl2 u) (he u) (hpl u)) q1.2.2
      · exact q1.elim
  · exact q1.elim
theorem v_cnt (c : Cok X) (ha : JV X W a ta) (hb : JV X W e t) (hbase : ∀ u, attributeBase a "count" (X u).env (eval a (X u).env) = eval a (X u).env := by intro _; rfl)
  (few : ∀ u, ((backTo cpos (starEach [e] (X u).env)).all (fun x => !x.1) && (backToKw cpos (keywordEach [] (X u).env)).all (fun x => x.1.isSome) && decide ([e].length + ([] : List Keyword).length + (if ([] : List Keyword).isEmpty then 0 else 1) < 30)) = true := by intro _; rfl)
  (line : (apos.endLine == cpos.line) = true := by rfl)
  (st : ∀ u, starEach [e] (X u).env = (false, eval e (X u).env) :: starEach [] (X u).env := by intro _; rfl)
  (pl : ∀ u, (backTo cpos (starEach [] (X u).env)).any (·.1) = false := by intro _; rfl) : JV X W (.Call (.Attribute a "count" apos) [e] [] cpos) (eCnt ta t) := fun T M Q q => by
  obtain ⟨d1, M1, q1, h1⟩ := ha.ok q
  obtain ⟨d2, M2, q2, h2⟩ := hb.ok q1
  obtain ⟨rfl, hp, q2⟩ := q2
  split at q2
  · next ds hd =>
    obtain ⟨rfl, p2, hdep, q3⟩ := q2
    exact JV.mk1 (fun u => je_tcount (c.un u) (h1 u) (h2 u) rfl hp p2 hdep ⟨(hbase u), (few u), line, (st u), (pl u)⟩) q3
  · next ds hd =>
    obtain ⟨p2, hdep, q3⟩ := q2
    exact JV.mk1 (fun u => je_lcount (c.un u) (h1 u) hd (h2 u) rfl hp p2 hdep ⟨(hbase u), (few u), line, (st u), (pl u)⟩) q3
  · exact q2.elim
end
end J

set_option Elab.async false
set_option linter.all false
set_option maxRecDepth 100000
set_option maxHeartbeats 2000000
namespace J
open PySem PySem.Spec PyProof.Rows L2 Evl
section
variable {ι : Type} {X : ι → Cx} {W : WX} {T T1 T2 : Tau} {M M1 M2 M3 : Mem} {a b c e e1 e2 e3 tg iter elt : Expr} {es rest elts : List Expr} {d d1 d2 : D} {ds ds1 ds2 : List D} {pos p apos cpos tpos lp pos' : Pos} {x y : Str} {t ta tb tc t1 t2 t3 : XT} {f : D → Mem → Prop} {at1 ar : AT} {ca cb : BT} {i j : Nat} {kk : Nat} {g : GT} {gs : GTs} {ts us : List Nat} {it : IT} {wk : Bool}
theorem vg_nm (c : Cok X) (hi : ∀ u, (X u).N[i]? = some x) (hx : ∀ u, Loc (X u).env.scope x := by intro _; first | exact .inl rfl | exact .inr rfl) (hf : ∀ u, (X u).fn x = true ∨ (X u).env.scope.names.lookup x = some .local := by intro _; first | exact .inl rfl | exact .inr rfl | assumption) : JVg X false (.Name x pos) (gNm i) [i] := fun d T k q => ⟨_, q, fun u => jg_name (c.nd u) (hi u) (hx u) (hf u)⟩
theorem vgs_nil : JVgs X [] gNil [] := fun ds T k q => by
  unfold gNil at q
  split at q
  · exact ⟨_, q, fun _ => jgs_nil⟩
  · exact q.elim
theorem vgs_cons (h : JVg X false e g ts) (hr : JVgs X es gs us) (hs : ∀ u, (assignEach (e :: es) (X u).env).map (·.2) = assign e (X u).env :: (assignEach es (X u).env).map (·.2) := by intro _; rfl) : JVgs X (e :: es) (gCons g gs) (ts ++ us) := fun ds T k q => by
  unfold gCons at q
  split at q
  · obtain ⟨T1, q1, h1⟩ := h _ _ _ q
    obtain ⟨T2, q2, h2⟩ := hr _ _ _ q1
    exact ⟨T2, q2, fun u => jgs_cons (h1 u) (h2 u) (hs u)⟩
  · exact q.elim
/-- the number of targets -/
def GLen (gs : GTs) (n : Nat) : Prop := ∀ ds T k, gs ds T k → ds.length = n
theorem glen_nil : GLen gNil 0 := fun ds T k q => by
  unfold gNil at q
  split at q
  · rfl
  · exact q.elim
theorem glen_cons {n : Nat} (hg : ∀ d T k, g d T k → ∃ T1, k T1) (h : GLen gs n) : GLen (gCons g gs) (n + 1) := fun ds T k q => by
  unfold gCons at q
  split at q
  · obtain ⟨T1, q1⟩ := hg _ _ _ q
    exact congrArg (· + 1) (h _ _ _ q1)
  · exact q.elim
theorem gex_nm : ∀ d T k, gNm i d T k → ∃ T1, k T1 := fun d T k q => ⟨_, q⟩
theorem gex_nil : ∀ d T k, gNil d T k → ∃ T1, k T1 := fun ds T k q => by
  unfold gNil at q
  split at q
  · exact ⟨_, q⟩
  · exact q.elim
theorem gex_cons (h : ∀ d T k, g d T k → ∃ T1, k T1) (hr : ∀ d T k, gs d T k → ∃ T1, k T1) : ∀ d T k, gCons g gs d T k → ∃ T1, k T1 := fun ds T k q => by
  unfold gCons at q
  split at q
  · obtain ⟨T1, q1⟩ := h _ _ _ q
    exact hr _ _ _ q1
  · exact q.elim
theorem gex_tup (h : ∀ d T k, gs d T k → ∃ T1, k T1) : ∀ d T k, gTup gs d T k → ∃ T1, k T1 := fun d T k q => by
  unfold gTup at q
  split at q
  · exact h _ _ _ q
  · exact q.elim
theorem JVg.ex {w : Bool} (h : JVg X w e g ts) : ∀ d T k, g d T k → ∃ T1, k T1 := fun d T k q => by
  obtain ⟨T1, q1, _⟩ := h d T k q
  exact ⟨T1, q1⟩
theorem vg_tup {k n : Nat} {w : Bool} (c : Cok X) (h : JVgs X es gs ts) (hl : GLen gs n) (hn : ∀ u, (assignEach es (X u).env).length = n := by intro _; rfl) (hst : ∀ u, (assignEach es (X u).env).findIdx? (·.1) = none := by intro _; rfl) : JVg X w (.Tuple es k pos) (gTup gs) ts := fun d T k q => by
  unfold gTup at q
  split at q
  · obtain ⟨T1, q1, h1⟩ := h _ _ _ q
    have hlen := hl _ _ _ q
    exact ⟨T1, q1, fun u => jg_tup (c.calm u) (h1 u) hlen (hn u) (hst u)⟩
  · exact q.elim
/-! ### iterables -/
theorem vi_seq (h : JV X W e t) : JVi X W false tg e (iSeq t) := fun T M Q q => by
  obtain ⟨d, M1, q1, h1⟩ := h.ok q
  split at q1
  · exact ⟨_, _, _, q1, fun u => ji_tup (h1 u)⟩
  · exact ⟨_, _, _, q1, fun u => ji_lst (h1 u)⟩
  · split at q1
    · next hl => exact ⟨_, _, _, q1, fun u => ji_cell (h1 u) hl⟩
    · exact q1.elim
  · exact q1.elim
theorem vi_rng (hg : ∀ u, Gl (X u) "range") (hm : ∀ u, (X u).mg "range" = none) (ha : JV X W a ta) (hs : ∀ u, starEach [a] (X u).env = [(false, eval a (X u).env)] := by intro _; rfl) : JVi X W false tg (.Call (.Name "range" p) [a] [] pos) (iRng ta) := fun T M Q q => by
  obtain ⟨d, M1, q1, h1⟩ := ha.ok q
  split at q1
  · exact ⟨_, _, _, q1.2, fun u => ji_range1 (hg u) (hm u) (ja_cons (h1 u) ja_nil (hs u)) q1.1 (hs u)⟩
  · exact q1.elim
theorem vi_rng2 (hg : ∀ u, Gl (X u) "range") (hm : ∀ u, (X u).mg "range" = none) (ha : JV X W a ta) (hb : JV X W b tb) (hs : ∀ u, starEach [a, b] (X u).env = [(false, eval a (X u).env), (false, eval b (X u).env)] := by intro _; rfl) (hs2 : ∀ u, starEach [b] (X u).env = [(false, eval b (X u).env)] := by intro _; rfl) : JVi X W false tg (.Call (.Name "range" p) [a, b] [] pos) (iRng2 ta tb) := fun T M Q q => by
  obtain ⟨d, M1, q1, h1⟩ := ha.ok q
  obtain ⟨d2, M2, q2, h2⟩ := hb.ok q1
  split at q2
  · exact ⟨_, _, _, q2.2, fun u => ji_range2 (hg u) (hm u) (ja_cons (h1 u) (ja_cons (h2 u) ja_nil (hs2 u)) (by rw [hs2 u]; exact hs u)) q2.1 (hs u) (hs2 u)⟩
  · exact q2.elim
theorem vi_enum (hg : ∀ u, Gl (X u) "enumerate") (hm : ∀ u, (X u).mg "enumerate" = none) (ha : JV X W e t) (hs : ∀ u, starEach [e] (X u).env = [(false, eval e (X u).env)] := by intro _; rfl) : JVi X W true (.Tuple elts kk tpos) (.Call (.Name "enumerate" p) [e] [] pos) (iEnum t) := fun T M Q q => by
  obtain ⟨d, M1, q1, h1⟩ := ha.ok q
  split at q1
  · exact ⟨_, _, _, q1, fun u => ji_enumT (hg u) (hm u) (ja_cons (h1 u) ja_nil (hs u)) (hs u)⟩
  · split at q1
    · next hl => exact ⟨_, _, _, q1, fun u => ji_enumL (hg u) (hm u) (ja_cons (h1 u) ja_nil (hs u)) hl (hs u)⟩
    · exact q1.elim
theorem vi_zip (hg : ∀ u, Gl (X u) "zip") (hm : ∀ u, (X u).mg "zip" = none) (ha : JV X W e t) (hb : JV X W e2 t2) (hs : ∀ u, starEach [e, e2] (X u).env = (false, eval e (X u).env) :: starEach [e2] (X u).env := by intro _; rfl) (hs2 : ∀ u, starEach [e2] (X u).env = [(false, eval e2 (X u).env)] := by intro _; rfl) (hpl : ∀ u, (backTo pos (starEach [e2] (X u).env)).any (·.1) = false := by intro _; rfl) : JVi X W true (.Tuple elts kk tpos) (.Call (.Name "zip" p) [e, e2] [] pos) (iZip t t2) := fun T M Q q => by
  obtain ⟨d, M1, q1, h1⟩ := ha.ok q
  obtain ⟨d2, M2, q2, h2⟩ := hb.ok q1
  split at q2
  · exact ⟨_, _, _, q2, fun u => ji_zipT (hg u) (hm u) (ja_cons (h1 u) (ja_cons (h2 u) ja_nil (hs2 u)) (hs u)) (hs u) (hpl u)⟩
  · exact ⟨_, _, _, q2, fun u => ji_zipL (hg u) (hm u) (ja_cons (h1 u) (ja_cons (h2 u) ja_nil (hs2 u)) (hs u)) (hs u) (hpl u)⟩
  · exact q2.elim
theorem vi_zip3 (hg : ∀ u, Gl (X u) "zip") (hm : ∀ u, (X u).mg "zip" = none) (ha : JV X W e t) (hb : JV X W e2 t2) (hc : JV X W e3 t3) (hs : ∀ u, starEach [e, e2, e3] (X u).env = (false, eval e (X u).env) :: starEach [e2, e3] (X u).env := by intro _; rfl) (hs2 : ∀ u, starEach [e2, e3] (X u).env = (false, eval e2 (X u).env) :: starEach [e3] (X u).env := by intro _; rfl) (hs3 : ∀ u, starEach [e3] (X u).env = [(false, eval e3 (X u).env)] := by intro _; rfl) (hpl : ∀ u, (backTo pos (starEach [e2, e3] (X u).env)).any (·.1) = false := by intro _; rfl) : JVi X W true (.Tuple elts kk tpos) (.Call (.Name "zip" p) [e, e2, e3] [] pos) (iZi3 t t2 t3) := fun T M Q q => by
  obtain ⟨d, M1, q1, h1⟩ := ha.ok q
  obtain ⟨d2, M2, q2, h2⟩ := hb.ok q1
  obtain ⟨d3, M3, q3, h3⟩ := hc.ok q2
  split at q3
  · exact ⟨_, _, _, q3, fun u => ji_zip3 (hg u) (hm u) (ja_cons (h1 u) (ja_cons (h2 u) (ja_cons (h3 u) ja_nil (hs3 u)) (hs2 u)) (hs u)) (hs u) (hpl u)⟩
  · exact q3.elim
/-! ### comprehensions -/
structure BIx where
  s : Shared
  H : Hp
  C : Addr
  cl : List (Str × Addr)
  fp : List Addr
/-- the contexts of a block -/
abbrev BkF (X : ι → Cx) (scope : Scope) : ι × BIx → Cx := fun u => Bk (X u.1) scope u.2.s u.2.H u.2.C u.2.cl u.2.fp
theorem cok_b {scope : Scope} (c : Cok X) : Cok (BkF X scope) := ⟨fun u => c.calm u.1, fun u => c.nd u.1, fun u => c.un u.1⟩
variable {scope : Scope} {own : List (Str × Nat)} {ifs : List Expr}
/-- the tests of a comprehension -/
def JVts (X : ι → Cx) (W : WX) (ifs : List Expr) (c : BT) : Prop := ∀ T M Q, c T M Q → ∃ b M', Q b M' ∧ ∀ u, PTs (X u) ifs (tJT (X u).K T M b M')
theorem vts_nil : JVts X W [] bTrue := fun T M Q q => ⟨true, M, q, fun u => ⟨fun pins s1 σ H1 Q I ⟨F, Mx, S, k⟩ => pts_nil.run pins s1 σ H1 Q I (k F H1 (Ex.refl _) S)⟩⟩
theorem vts_one (h : JVb X W e ca) : JVts X W [e] ca := fun T M Q q => by
  obtain ⟨b, M1, q1, h1⟩ := h T M Q q
  exact ⟨b, M1, q1, fun u => pts_one (h1 u).1⟩
theorem lc_turns {C : Mem → Prop} {Q : List D → Mem → Prop} (hg : JVg (BkF X scope) wk tg g ts) (hts : ∀ j ∈ ts, j ∈ own.map (·.2)) (ht : JVts (BkF X scope) W ifs ca) (he : JV (BkF X scope) W elt t) :
    ∀ (ds : List D) (M : Mem) (Q : List D → Mem → Prop), lcL C (own.map (·.2)) g ca t T ds M Q → ∃ (o : Nat → Option D) (Ms : Nat → Mem), Ms 0 = M ∧ (∀ i, i ≤ ds.length → C (Ms i)) ∧ (∀ i d, ds[i]? = some d → ∀ u, Turn1 (X u) scope wk T (own.map (·.2)) tg ifs elt d (Ms i) (o i) (Ms (i + 1))) ∧ Q (kept o ds.length) (Ms ds.length)
  | [], M, Q, q => ⟨fun _ => none, fun _ => M, rfl, fun i _ => q.1, fun i d h => by simp at h, q.2⟩
  | d :: ds, M, Q, q => by
    obtain ⟨hC, q1⟩ := q
    obtain ⟨T2, q2, h2⟩ := hg _ _ _ q1
    obtain ⟨b, Ma, ⟨q3, q4⟩, h3⟩ := ht _ _ _ q2
    cases b with
    | true =>
      obtain ⟨y, Mb, q5, h5⟩ := he.ok (q3 rfl)
      obtain ⟨o, Ms, e0, hCs, hT, hQ⟩ := lc_turns (Q := Q) hg hts ht he ds Mb _ q5
      refine ⟨fun i => match i with | 0 => some y | i + 1 => o i, fun i => match i with | 0 => M | i + 1 => Ms i, rfl, fun i hi => ?_, fun i d' hd u => ?_, ?_⟩
      · cases i with
        | zero => exact hC
        | succ i => exact hCs i (by simpa using hi)
      · cases i with
        | zero =>
          have z : d = d' := by simpa using hd
          subst z
          refine ⟨T2, ts, true, Ma, hts, fun s H C cl fp => h2 (u, ⟨s, H, C, cl, fp⟩), fun s H C cl fp => h3 (u, ⟨s, H, C, cl, fp⟩), rfl, fun s H C cl fp => ?_⟩
          show JE _ T2 Ma elt y (Ms 0)
          rw [e0]
          exact h5 (u, ⟨s, H, C, cl, fp⟩)
        | succ i => exact hT i d' (by simpa using hd) u
      · have hk : kept (fun i => match i with | 0 => some y | i + 1 => o i) (ds.length + 1) = y :: kept o ds.length := by
          unfold kept
          rw [List.range_succ_eq_map, List.filterMap_cons]
          simp only [List.filterMap_map]
          rfl
        show Q (kept _ (ds.length + 1)) (Ms ds.length)
        rw [hk]
        exact hQ
    | false =>
      obtain ⟨o, Ms, e0, hCs, hT, hQ⟩ := lc_turns (Q := Q) hg hts ht he ds Ma _ (q4 rfl)
      refine ⟨fun i => match i with | 0 => none | i + 1 => o i, fun i => match i with | 0 => M | i + 1 => Ms i, rfl, fun i hi => ?_, fun i d' hd u => ?_, ?_⟩
      · cases i with
        | zero => exact hC
        | succ i => exact hCs i (by simpa using hi)
      · cases i with
        | zero =>
          have z : d = d' := by simpa using hd
          subst z
          exact ⟨T2, ts, false, Ma, hts, fun s H C cl fp => h2 (u, ⟨s, H, C, cl, fp⟩), fun s H C cl fp => h3 (u, ⟨s, H, C, cl, fp⟩), rfl, e0⟩
        | succ i => exact hT i d' (by simpa using hd) u
      · have hk : kept (fun i => match i with | 0 => none | i + 1 => o i) (ds.length + 1) = kept o ds.length := by
          unfold kept
          rw [List.range_succ_eq_map, List.filterMap_cons]
          simp only [List.filterMap_map]
          rfl
        show Q (kept _ (ds.length + 1)) (Ms ds.length)
        rw [hk]
        exact hQ
theorem v_lc (c : Cok X) (hi : JVi X W wk tg iter it) (ok : ∀ u, BlkOk (X u).N (X u).env.scope scope own) (hg : JVg (BkF X scope) wk tg g ts) (hts : ∀ j ∈ ts, j ∈ own.map (·.2)) (ht : JVts (BkF X scope) W ifs ca) (he : JV (BkF X scope) W elt t) (hf : ∀ u, ∀ x, foldedSetIterable iter (X u).env x = pure x := by intro _ _; rfl) :
    JV X W (.ListComp elt [⟨tg, iter, ifs, 0⟩] scope pos) (eLc (own.map (·.2)) it g ca t) := fun T M Q q => by
  obtain ⟨ds, C, M1, ⟨hz, q1⟩, h1⟩ := hi _ _ _ q
  obtain ⟨o, Ms, e0, hCs, hT, hQ⟩ := lc_turns (Q := fun _ _ => True) hg hts ht he ds M1 _ q1
  exact JV.mk1 (fun u => je_lc (c.calm u) (c.nd u) (h1 u) (ok u) o Ms e0 hCs hz (fun i d hd => hT i d hd u) (hf u)) hQ
/-! ### statements -/
section
variable {X : Cx} {st : Stmt} {stl body p1 p2 : List Stmt} {s r s1 s2 : ST} {P : Po}
abbrev U1 (X : Cx) : Unit → Cx := fun _ => X

theorem JS.imp {P' : Po} (h : JS X W T M st P) (l : PoLe P P') : JS X W T M st P' := PS.imp h fun D σ H ⟨F, Mx, S, w⟩ => ⟨F, Mx, S, fun T1 M1 σ1 F1 H1 x1 S1 q => w.nx T1 M1 σ1 F1 H1 x1 S1 (l.nx _ _ q), fun d1 M1 v F1 H1 x1 S1 r q => w.rt d1 M1 v F1 H1 x1 S1 r (l.rt _ _ q),
  fun T1 M1 σ1 F1 H1 x1 S1 q => w.bk T1 M1 σ1 F1 H1 x1 S1 (l.bk _ _ q), fun T1 M1 σ1 F1 H1 x1 S1 q => w.ct T1 M1 σ1 F1 H1 x1 S1 (l.ct _ _ q), fun y M1 σ1 cl dd F1 H1 x1 S1 r q => w.ex y M1 σ1 cl dd F1 H1 x1 S1 r (l.ex _ _ q)⟩
theorem vs_nil : JVss X W [] sNil := fun T M P q => jss_nil q
theorem vs_cons (h : JVs X W st s) (hr : JVss X W stl r) : JVss X W (st :: stl) (sSeq s r) := fun T M P q =>
  jss_cons (JS.imp (h T M _ q) ⟨fun T1 M1 q1 => hr T1 M1 P q1, fun _ _ q => q, fun _ _ q => q, fun _ _ q => q, fun _ _ q => q⟩)
theorem vs_one (h : JVs X W st s) : JVss X W [st] s := fun T M P q => jss_one (h T M P q)
theorem vs_dead : JVs X W st sDead := fun T M P q => q.elim
theorem vs_pass : JVs X W (.Pass pos) sPass := fun T M P q => js_pass q
theorem vs_expr (h : JV (U1 X) W e t) (hs : swapsWith e none pos.line X.env = pure false := by rfl) : JVs X W (.Expr e pos) (sExpr t) := fun T M P q => by
  obtain ⟨r, M1, q1, h1⟩ := h _ _ _ q
  exact js_exprR (h1 ()) q1 hs
theorem vs_ret (h : JV (U1 X) W e t) : JVs X W (.Return (some e) pos) (sRet t) := fun T M P q => by
  obtain ⟨r, M1, q1, h1⟩ := h _ _ _ q
  exact js_retR (h1 ()) q1
theorem vs_retF (h : JV (U1 X) W e t) : JVs X W (.Return (some e) pos) (sRetF t) := fun T M P q => by
  obtain ⟨d, M1, q1, h1⟩ := h.ok q
  split at q1
  · split at q1
    · next hl => exact js_retF (h1 ()) hl q1
    · exact q1.elim
  · exact q1.elim
theorem vs_if (h : JVb (U1 X) W c ca) (h1 : JVss X W p1 s1) (h2 : JVss X W p2 s2) : JVs X W (.If c p1 p2 pos) (sIf ca s1 s2) := fun T M P q => by
  obtain ⟨b, M1, ⟨q1, q2⟩, h3⟩ := h _ _ _ q
  exact js_if (h3 ()).1 (fun z => h1 _ _ _ (q1 z)) (fun z => h2 _ _ _ (q2 z))
theorem vs_asg (h : JV (U1 X) W e t) (hg : JVg (U1 X) false tg g ts) (hs : swapsWithSole [tg] e pos.line X.env = pure false := by rfl) (hw : swappedStores [tg] e X.env = pure none := by rfl) (h1 : (assignEach [tg] X.env).map (·.2) = [assign tg X.env] := by rfl) : JVs X W (.Assign [tg] e pos) (sAsg g t) := fun T M P q => by
  obtain ⟨r, M1, q1, h2⟩ := h _ _ _ q
  cases r with
  | ok d =>
    obtain ⟨T1, q2, h3⟩ := hg _ _ _ q1
    exact js_asg (h2 ()) (h3 ()) q2 hs hw h1
  | exc y => exact js_asgR (ts := []) (T1 := fun _ => []) (h2 ()) (fun d z => by cases z) q1 hs hw h1
theorem vs_lc {spos py : Pos} {scope : Scope} {own : List (Str × Nat)} (c : Cok (U1 X)) (hy : X.N[i]? = some y) (hyl : X.env.scope.names.lookup y = some .local) (hsw : swapsWith (.ListComp elt [⟨tg, iter, ifs, 0⟩] scope pos) (some (.Name y py)) spos.line X.env = pure true)
    (hi : JVi (U1 X) W wk tg iter it) (ok : BlkOk X.N X.env.scope scope own) (hg : JVg (BkF (U1 X) scope) wk tg g ts) (hts : ∀ j ∈ ts, j ∈ own.map (·.2)) (ht : JVts (BkF (U1 X) scope) W ifs ca) (he : JV (BkF (U1 X) scope) W elt t) (hf : ∀ x, foldedSetIterable iter X.env x = pure x := by intro _; rfl) :
    JVs X W (.Assign [.Name y py] (.ListComp elt [⟨tg, iter, ifs, 0⟩] scope pos) spos) (sAsg (gNm i) (eLc (own.map (·.2)) it g ca t)) := fun T M P q => by
  obtain ⟨ds, C, M1, ⟨hz, q1⟩, h1⟩ := hi _ _ _ q
  obtain ⟨o, Ms, e0, hCs, hT, hQ⟩ := lc_turns (Q := fun _ _ => True) hg hts ht he ds M1 _ q1
  exact js_lc (c.calm ()) (c.nd ()) hy hyl hsw (h1 ()) ok o Ms e0 hCs hz (fun i d hd => hT i d hd ()) hQ hf
theorem vs_new (c : Cok (U1 X)) (hi : X.N[i]? = some x) (ha : JVa (U1 X) W es ar) (hx : Loc X.env.scope x := by first | exact .inl rfl | exact .inr rfl) (hs : swapsWith (.List es lp) (some (.Name x pos')) pos.line X.env = pure false := by rfl) (hf : X.fn x = true ∨ X.env.scope.names.lookup x = some .local := by first | exact .inl rfl | exact .inr rfl | assumption) : JVs X W (.Assign [.Name x pos'] (.List es lp) pos) (sNew i ar) := fun T M P q => by
  obtain ⟨ds, M1, ⟨hz, q1⟩, h1⟩ := ha.ok q
  exact js_newL (c.nd ()) hi hx (h1 ()) hz q1 hs hf
theorem vs_move {py : Pos} (c : Cok (U1 X)) (hi : X.N[i]? = some x) (hj : X.N[j]? = some y) (hv : Vis X.env.scope y := by first | exact .inl rfl | exact .inr (.inl rfl) | exact .inr (.inr rfl)) (hx : Loc X.env.scope x := by first | exact .inl rfl | exact .inr rfl) (hf : X.fn x = true ∨ X.env.scope.names.lookup x = some .local := by first | exact .inl rfl | exact .inr rfl | assumption)
    (hd : (y == ("__debug__" : Str)) = false := by decide) (hcd : (y == ("__classdict__" : Str)) = false := by decide) (hs : swapsWithSole [.Name x pos'] (.Name y py) pos.line X.env = pure false := by rfl) (hw : swappedStores [.Name x pos'] (.Name y py) X.env = pure none := by rfl) (h1 : (assignEach [.Name x pos'] X.env).map (·.2) = [assign (.Name x pos') X.env] := by rfl) : JVs X W (.Assign [.Name x pos'] (.Name y py) pos) (sMove i j) := fun T M P q => by
  unfold sMove at q
  split at q
  · next l hl =>
    split at q
    · next ds hd' =>
      refine js_freeze hl hd' (js_asg (je_var ?_ hj hv hd hcd) (jg_name (c.nd ()) hi hx hf) q hs hw h1)
      rw [List.getElem?_set]
      rw [if_pos rfl]
      obtain ⟨hlt, _⟩ := List.getElem?_eq_some_iff.mp hl
      rw [if_pos hlt]
    · exact q.elim
  · exact q.elim
theorem vs_app (hi : X.N[i]? = some x) (he : JV (U1 X) W e t) (hv : Vis X.env.scope x := by first | exact .inl rfl | exact .inr (.inl rfl) | exact .inr (.inr rfl)) (hd : (x == ("__debug__" : Str)) = false := by decide) (hcd : (x == ("__classdict__" : Str)) = false := by decide)
    (hst : starEach [e] X.env = (false, eval e X.env) :: starEach [] X.env := by rfl) (hpl : (backTo cpos (starEach [] X.env)).any (·.1) = false := by rfl) (hb : attributeBase (.Name x pos') "append" X.env (eval (.Name x pos') X.env) = eval (.Name x pos') X.env := by rfl) (hline : (apos.endLine == cpos.line) = true := by rfl)
    (hfew : ((backTo cpos (starEach [e] X.env)).all (fun x => !x.1) && (backToKw cpos (keywordEach [] X.env)).all (fun x => x.1.isSome) && decide ([e].length + ([] : List Keyword).length + (if ([] : List Keyword).isEmpty then 0 else 1) < 30)) = true := by rfl)
    (hs : swapsWith (.Call (.Attribute (.Name x pos') "append" apos) [e] [] cpos) none pos.line X.env = pure false := by rfl) : JVs X W (.Expr (.Call (.Attribute (.Name x pos') "append" apos) [e] [] cpos) pos) (sApp i t) := fun T M P q => by
  unfold sApp at q
  split at q
  · next l hl =>
    split at q
    · next ds0 h0 =>
      obtain ⟨d, M1, q1, h1⟩ := he.ok q
      split at q1
      · next ds h2 => exact js_append (je_var hl hi hv hd hcd) (h1 ()) h2 q1.1 q1.2 ⟨_, h0⟩ hst hpl hb hline hfew hs
      · exact q1.elim
    · exact q.elim
  · exact q.elim
theorem vs_ext (hi : X.N[i]? = some x) (he : JV (U1 X) W e t) (hv : Vis X.env.scope x := by first | exact .inl rfl | exact .inr (.inl rfl) | exact .inr (.inr rfl)) (hd : (x == ("__debug__" : Str)) = false := by decide) (hcd : (x == ("__classdict__" : Str)) = false := by decide)
    (hst : starEach [e] X.env = (false, eval e X.env) :: starEach [] X.env := by rfl) (hpl : (backTo cpos (starEach [] X.env)).any (·.1) = false := by rfl) (hb : attributeBase (.Name x pos') "extend" X.env (eval (.Name x pos') X.env) = eval (.Name x pos') X.env := by rfl) (hline : (apos.endLine == cpos.line) = true := by rfl)
    (hfew : ((backTo cpos (starEach [e] X.env)).all (fun x => !x.1) && (backToKw cpos (keywordEach [] X.env)).all (fun x => x.1.isSome) && decide ([e].length + ([] : List Keyword).length + (if ([] : List Keyword).isEmpty then 0 else 1) < 30)) = true := by rfl)
    (hs : swapsWith (.Call (.Attribute (.Name x pos') "extend" apos) [e] [] cpos) none pos.line X.env = pure false := by rfl) : JVs X W (.Expr (.Call (.Attribute (.Name x pos') "extend" apos) [e] [] cpos) pos) (sExt i t) := fun T M P q => by
  unfold sExt at q
  split at q
  · next l hl =>
    split at q
    · next ds0 h0 =>
      obtain ⟨d, M1, q1, h1⟩ := he.ok q
      split at q1
      · next ds es h2 h3 => exact js_extend (je_var hl hi hv hd hcd) (h1 ()) h3 h2 q1.1 q1.2 ⟨_, h0⟩ hst hpl hb hline hfew hs
      · exact q1.elim
    · exact q.elim
  · exact q.elim
theorem vs_for (c : Cok (U1 X)) (hp : PassesOwn (model X.prog X.w) X.A X.env X.xe) (hi : JVi (U1 X) W wk tg iter it) (hg : JVg (U1 X) wk tg g ts) (hb : JVss X W body s) (hf : ∀ x, foldedSetIterable iter X.env x = pure x := by intro _; rfl) : JVs X W (.For tg iter body [] pos) (sFor it g s) := fun T M P q => by
  obtain ⟨ds, C, M1, q1, h1⟩ := hi _ _ _ q
  refine js_for hp (c.calm ()) (h1 ()) (fun i T M => forL C g s P (ds.drop i) T M) (by simpa using q1) (fun i T1 M1 h => ?_) (fun i d T1 M1 hd h => ?_) (fun T1 M1 h => ?_) hf
  · cases e : ds.drop i with
    | nil => rw [e] at h; exact h.1
    | cons d r => rw [e] at h; exact h.1
  · have hlt : i < ds.length := (List.getElem?_eq_some_iff.mp hd).1
    have e : ds.drop i = d :: ds.drop (i + 1) := by
      rw [List.drop_eq_getElem_cons hlt]
      obtain ⟨_, z⟩ := List.getElem?_eq_some_iff.mp hd
      rw [z]
    rw [e] at h
    obtain ⟨_, h2⟩ := h
    obtain ⟨T2, q2, h3⟩ := hg _ _ _ h2
    exact ⟨T2, ts, h3 (), hb _ _ _ q2⟩
  · simp only [List.drop_length] at h
    exact h.2
theorem vs_wh (hp : PassesOwn (model X.prog X.w) X.A X.env X.xe) (hc : JVb (U1 X) W c ca) (hb : JVss X W body s) : JVs X W (.While c body [] pos) (sWh ca s) := fun T M P ⟨n, q⟩ => by
  refine js_while hp (fun m T M => whL ca s P m T M) n q fun m T1 M1 h => ?_
  cases m with
  | zero => exact h.elim
  | succ m =>
    obtain ⟨b, M2, ⟨q1, q2⟩, h2⟩ := hc _ _ _ h
    exact ⟨b, M2, (h2 ()).1, fun z => (hb _ _ _ (q1 z)).imp ⟨fun T3 M3 q3 => ⟨m, by omega, q3⟩, fun _ _ q => q, fun _ _ q => q, fun T3 M3 q3 => ⟨m, by omega, q3⟩, fun _ _ q => q⟩, q2⟩
theorem vs_par {x1 y1 : Str} {px py pt pt2 : Pos} {kt k2} (c : Cok (U1 X)) (hi : X.N[i]? = some x1) (hj : X.N[j]? = some y1) (hij : i ≠ j) (hx : X.env.scope.names.lookup x1 = some .local) (hy : X.env.scope.names.lookup y1 = some .local)
    (ha : JV (U1 X) W a ta) (hb : JV (U1 X) W b tb) (hw : swappedStores [.Tuple [.Name x1 px, .Name y1 py] kt pt] (.Tuple [a, b] k2 pt2) X.env = pure (some [x1, y1]))
    (he : starEach [a, b] X.env = (false, eval a X.env) :: starEach [b] X.env := by rfl) (he2 : starEach [b] X.env = (false, eval b X.env) :: starEach [] X.env := by rfl)
    : JVs X W (.Assign [.Tuple [.Name x1 px, .Name y1 py] kt pt] (.Tuple [a, b] k2 pt2) pos) (sPar i j ta tb) := fun T M P q => by
  obtain ⟨d1, M1, q1, h1⟩ := ha.ok q
  obtain ⟨d2, M2, q2, h2⟩ := hb.ok q1
  exact js_par (c.calm ()) (c.nd ()) hi hj hij hx hy (ja_cons (h1 ()) (ja_cons (h2 ()) ja_nil he2) he) q2 hw
theorem cok_of {P : Program} {w : World} {K : PySem.W.Frag} {mg : Str → Option Value} {base : Heap} {k : Nat} {E : XK} (B : Bd P w K mg base k X E) (hc : X.calm = true) (nd : X.N.Nodup) : Cok (U1 X) := ⟨fun _ => hc, fun _ => nd, fun _ => by
  have := B.room.un
  show X.A.units + 65 < cLine
  omega⟩
/-- the same, told of the function itself -/
theorem fok_of {P : Program} {w : World} {K : PySem.W.Frag} {mg : Str → Option Value} {base : Heap} {x : Str} {st : Stmt} {f : Addr} {fd : FuncData} {N ps : List Str} {k n : Nat} {S : FS} (F : FunD K x x (defArgs st) (defBody st) (defScope st) [] [] f fd) (sc : FnScope N ps (defScope st)) (hn : ps.length = n)
    {t : ST} (hS : ∀ ds M r M', S ds M r M' → ds.length = n ∧ t (startT N.length ds) M (poOf r M'))
    (body : ∀ (cdv : Value) (A : Around) (outer : List Env) (s : Shared) (H : Hp) (E : XK),
      Bd P w K mg base k (cxOf (L2.CX P w) P w K mg base N x (defScope st) f cdv A outer s H E) E →
      JVss (cxOf (L2.CX P w) P w K mg base N x (defScope st) f cdv A outer s H E) (WD E) (defBody st) t) :
    FnOk P w K mg base (L2.CX P w) (k + 1) f fd ps (spJ K n S) := by
  refine F.ok sc (fun vs H Q E h => ?_) fun cdv A outer s H vs Q E hr h => ?_
  · obtain ⟨F0, Mx, M, ds, r, M', hl, _, rr, _⟩ := h
    rw [rr.length, hl, hn]
  · obtain ⟨F0, Mx, M, ds, r, M', hl, m, rr, h1, q⟩ := h
    refine ⟨_, body cdv A outer s H E ⟨hr, takes_of rfl rfl rfl rfl, passes_of rfl⟩ _ _ _ (hS ds M r M' h1).2, F0, Mx, start_sim m rr, ?_⟩
    refine ⟨fun T1 M1 σ1 F1 H1 x1 S1 hp => ?_, fun d M1 v F1 H1 x1 m1 r1 hp => ?_, fun _ _ _ _ _ _ _ z => z.elim, fun _ _ _ _ _ _ _ z => z.elim, fun y M1 σ1 cls dd F1 H1 x1 m1 r1 hp => ?_⟩
    · obtain ⟨rfl, sb⟩ := hp
      exact q _ F1 H1 x1 (S1.mem.sub sb) .non
    · obtain ⟨rfl, sb⟩ := hp
      exact q v F1 H1 x1 (m1.sub sb) r1
    · obtain ⟨rfl, sb⟩ := hp
      exact q cls dd F1 H1 x1 (m1.sub sb) r1
/-- the law's own call: a script of ints, nothing that may change; what comes is True -/
theorem law_start {K : PySem.W.Frag} {S : FS} {H : Hp} {a : Addr} {ns : List Int} {Q : VK} {E : XK} (h : SqL K H a (ns.map V.int)) (hS : S [.scr ns] [] (.ok (.bl true)) []) (q : ∀ H', Q (.bl true) H') : spJ K 1 S [.ref a] H Q E := by
  refine ⟨H, [], [], [.scr ns], .ok (.bl true), [], rfl, ⟨Ex.refl _, (fun p hp => by cases hp), List.nodup_nil⟩, .cons (.scr h) .nil, hS, fun v F' H' x m r => ?_⟩
  cases r.bl_inv
  exact q H'
/-- a def that keeps its promise -/
theorem fn_of {P : Program} {w : World} {K : PySem.W.Frag} {mg : Str → Option Value} {base : Heap} {x : Str} {st : Stmt} {f : Addr} {fd : FuncData} {N ps : List Str} {k n : Nat} {S : FS} (F : FunD K x x (defArgs st) (defBody st) (defScope st) [] [] f fd) (hm : mg x = some (.ref f)) (sc : FnScope N ps (defScope st)) (hn : ps.length = n)
    (hb : Binds K fd ps []) {t : ST} (hS : ∀ ds M r M', S ds M r M' → ds.length = n ∧ t (startT N.length ds) M (poOf r M'))
    (body : ∀ (cdv : Value) (A : Around) (outer : List Env) (s : Shared) (H : Hp) (E : XK),
      Bd P w K mg base k (cxOf (L2.CX P w) P w K mg base N x (defScope st) f cdv A outer s H E) E →
      JVss (cxOf (L2.CX P w) P w K mg base N x (defScope st) f cdv A outer s H E) (WD E) (defBody st) t) :
    JFn P w K mg base (k + 1) x n S :=
  jfn_of F hm sc hn hb fun ds M r M' hl h cdv A outer s H E B => body cdv A outer s H E B _ _ _ (hS ds M r M' h).2
end
end
end J

set_option Elab.async false
set_option linter.all false
set_option maxRecDepth 100000
set_option maxHeartbeats 0
namespace Hd
open PySem PySem.Spec PyProof.Rows L2
def top (i : Nat) : Stmt := PySem.Challenge.pw_dutyround_k03_whole_kept_rules.main.body.getD i (.Pass ⟨0, 0, 0, 0⟩)
abbrev s_is_whole : Stmt := top 11
abbrev s_are_skills : Stmt := top 12
abbrev s_are_barred : Stmt := top 13
abbrev s_is_rule : Stmt := top 14
abbrev s_is_need : Stmt := top 15
abbrev s_are_needs : Stmt := top 16
abbrev s_is_world : Stmt := top 17
abbrev s_need_world : Stmt := top 18
abbrev s_begin : Stmt := top 19
abbrev s_options : Stmt := top 20
abbrev s_stand_behind : Stmt := top 21
abbrev s_meets : Stmt := top 22
abbrev s_plans_at : Stmt := top 23
abbrev s_behind : Stmt := top 24
abbrev s_is_plan : Stmt := top 26
abbrev s_need_plans : Stmt := top 27
abbrev s_walk : Stmt := top 28
abbrev s_state_behind : Stmt := top 29
abbrev s_next_plans : Stmt := top 30
abbrev s__law_cell_at : Stmt := top 32
abbrev s__law_mixed : Stmt := top 33
abbrev s__law_draw : Stmt := top 34
abbrev s__law_pick : Stmt := top 35
abbrev s__law_rule : Stmt := top 36
abbrev s__law_needs : Stmt := top 37
abbrev s__law_world : Stmt := top 38
abbrev s__law_kept : Stmt := top 39
abbrev s__law_all_kept : Stmt := top 40
abbrev s_law : Stmt := top 41
abbrev s_Barred___init__ : Stmt := inClass (top 4) 0
def d_is_whole : He.DefD := ⟨("is_whole", none), "is_whole", "is_whole", defArgs s_is_whole, defBody s_is_whole, defScope s_is_whole, [], []⟩
def d_are_skills : He.DefD := ⟨("are_skills", none), "are_skills", "are_skills", defArgs s_are_skills, defBody s_are_skills, defScope s_are_skills, [], []⟩
def d_are_barred : He.DefD := ⟨("are_barred", none), "are_barred", "are_barred", defArgs s_are_barred, defBody s_are_barred, defScope s_are_barred, [], []⟩
def d_is_rule : He.DefD := ⟨("is_rule", none), "is_rule", "is_rule", defArgs s_is_rule, defBody s_is_rule, defScope s_is_rule, [], []⟩
def d_is_need : He.DefD := ⟨("is_need", none), "is_need", "is_need", defArgs s_is_need, defBody s_is_need, defScope s_is_need, [], []⟩
def d_are_needs : He.DefD := ⟨("are_needs", none), "are_needs", "are_needs", defArgs s_are_needs, defBody s_are_needs, defScope s_are_needs, [], []⟩
def d_is_world : He.DefD := ⟨("is_world", none), "is_world", "is_world", defArgs s_is_world, defBody s_is_world, defScope s_is_world, [], []⟩
def d_need_world : He.DefD := ⟨("need_world", none), "need_world", "need_world", defArgs s_need_world, defBody s_need_world, defScope s_need_world, [], []⟩
def d_begin : He.DefD := ⟨("begin", none), "begin", "begin", defArgs s_begin, defBody s_begin, defScope s_begin, [], []⟩
def d_options : He.DefD := ⟨("options", none), "options", "options", defArgs s_options, defBody s_options, defScope s_options, [], []⟩
def d_stand_behind : He.DefD := ⟨("stand_behind", none), "stand_behind", "stand_behind", defArgs s_stand_behind, defBody s_stand_behind, defScope s_stand_behind, [], []⟩
def d_meets : He.DefD := ⟨("meets", none), "meets", "meets", defArgs s_meets, defBody s_meets, defScope s_meets, [], []⟩
def d_plans_at : He.DefD := ⟨("plans_at", none), "plans_at", "plans_at", defArgs s_plans_at, defBody s_plans_at, defScope s_plans_at, [], []⟩
def d_behind : He.DefD := ⟨("behind", none), "behind", "behind", defArgs s_behind, defBody s_behind, defScope s_behind, [], []⟩
def d_is_plan : He.DefD := ⟨("is_plan", none), "is_plan", "is_plan", defArgs s_is_plan, defBody s_is_plan, defScope s_is_plan, [], []⟩
def d_need_plans : He.DefD := ⟨("need_plans", none), "need_plans", "need_plans", defArgs s_need_plans, defBody s_need_plans, defScope s_need_plans, [], []⟩
def d_walk : He.DefD := ⟨("walk", none), "walk", "walk", defArgs s_walk, defBody s_walk, defScope s_walk, [], []⟩
def d_state_behind : He.DefD := ⟨("state_behind", none), "state_behind", "state_behind", defArgs s_state_behind, defBody s_state_behind, defScope s_state_behind, [], []⟩
def d_next_plans : He.DefD := ⟨("next_plans", none), "next_plans", "next_plans", defArgs s_next_plans, defBody s_next_plans, defScope s_next_plans, [], []⟩
def d__law_cell_at : He.DefD := ⟨("_law_cell_at", none), "_law_cell_at", "_law_cell_at", defArgs s__law_cell_at, defBody s__law_cell_at, defScope s__law_cell_at, [], []⟩
def d__law_mixed : He.DefD := ⟨("_law_mixed", none), "_law_mixed", "_law_mixed", defArgs s__law_mixed, defBody s__law_mixed, defScope s__law_mixed, [], []⟩
def d__law_draw : He.DefD := ⟨("_law_draw", none), "_law_draw", "_law_draw", defArgs s__law_draw, defBody s__law_draw, defScope s__law_draw, [], []⟩
def d__law_pick : He.DefD := ⟨("_law_pick", none), "_law_pick", "_law_pick", defArgs s__law_pick, defBody s__law_pick, defScope s__law_pick, [], []⟩
def d__law_rule : He.DefD := ⟨("_law_rule", none), "_law_rule", "_law_rule", defArgs s__law_rule, defBody s__law_rule, defScope s__law_rule, [], []⟩
def d__law_needs : He.DefD := ⟨("_law_needs", none), "_law_needs", "_law_needs", defArgs s__law_needs, defBody s__law_needs, defScope s__law_needs, [], []⟩
def d__law_world : He.DefD := ⟨("_law_world", none), "_law_world", "_law_world", defArgs s__law_world, defBody s__law_world, defScope s__law_world, [], []⟩
def d__law_kept : He.DefD := ⟨("_law_kept", none), "_law_kept", "_law_kept", defArgs s__law_kept, defBody s__law_kept, defScope s__law_kept, [], []⟩
def d__law_all_kept : He.DefD := ⟨("_law_all_kept", none), "_law_all_kept", "_law_all_kept", defArgs s__law_all_kept, defBody s__law_all_kept, defScope s__law_all_kept, [], []⟩
def d_law : He.DefD := ⟨("law", none), "law", "law", defArgs s_law, defBody s_law, defScope s_law, [], []⟩
def d_Barred___init__ : He.DefD := ⟨("Barred", some "__init__"), "__init__", "Barred.__init__", defArgs s_Barred___init__, defBody s_Barred___init__, defScope s_Barred___init__, [], []⟩
def fn0 : List He.DefD := [d_is_whole, d_are_skills, d_are_barred, d_is_rule, d_is_need, d_are_needs, d_is_world, d_need_world, d_begin, d_options, d_stand_behind, d_meets, d_plans_at, d_behind, d_is_plan, d_need_plans, d_walk, d_state_behind, d_next_plans, d__law_cell_at, d__law_mixed, d__law_draw, d__law_pick, d__law_rule, d__law_needs, d__law_world, d__law_kept, d__law_all_kept, d_law, d_Barred___init__]
def fn : List He.DefD := fn0
def fa0 : List He.Fa := [.glo "is_whole", .glo "are_skills", .glo "are_barred", .glo "is_rule", .glo "is_need", .glo "are_needs", .glo "is_world", .glo "need_world", .glo "begin", .glo "options", .glo "stand_behind", .glo "meets", .glo "plans_at", .glo "behind", .glo "is_plan", .glo "need_plans", .glo "walk", .glo "state_behind", .glo "next_plans", .glo "_law_cell_at", .glo "_law_mixed", .glo "_law_draw", .glo "_law_pick", .glo "_law_rule", .glo "_law_needs", .glo "_law_world", .glo "_law_kept", .glo "_law_all_kept", .glo "law", .glo "DutyError"]
def fa1 : List He.Fa := [.glo "NoWorld", .glo "NoPlans", .glo "Barred", .free "len", .free "range", .free "isinstance", .free "tuple", .free "list", .free "set", .free "sorted", .free "all", .free "min", .free "int", .free "zip", .free "enumerate", .free "bool", .free "ValueError", .int "SHIFTS" 3, .int "HANDS" 4, .int "MOST" 4, .int "LEAST" 3, .int "DAYS" 3]
def fa : List He.Fa := fa0 ++ fa1
def names0 : List PySem.Str := ["DutyError", "NoWorld", "NoPlans", "Barred", "SHIFTS", "HANDS", "MOST", "LEAST", "DAYS", "is_whole", "are_skills", "are_barred", "is_rule", "is_need", "are_needs", "is_world", "need_world", "begin", "options", "stand_behind", "meets", "plans_at", "behind", "is_plan", "need_plans", "walk", "state_behind", "next_plans", "_law_cell_at", "_law_mixed"]
def names1 : List PySem.Str := ["_law_draw", "_law_pick", "_law_rule", "_law_needs", "_law_world", "_law_kept", "_law_all_kept"]
def names : List PySem.Str := names0 ++ names1
abbrev R : PySem.W.OpenRow := PySem.W.OpenLaw.row PySem.Challenge.rw_dutyround_k03_whole_kept_rules
def ex : PySem.W.Frag → Bool := fun _ => true
abbrev hk : PySem.W.Hook := He.hookX 5 fa fn [] [] ex
def ob (s : PySem.W.SharedT) : He.AlX := He.obsX 5 fa fn [] [] ex (HandSHeadRun.getT s)
theorem ob_eq (s : PySem.W.SharedT) : ob s = hk.obs s.abs := He.obsX_eq (HandSHeadRun.getT_eq s)
theorem run (w : World) : HandSHeadRun.RunEq R (PySem.W.view R.prog [41]) hk ob 40000 names w := by
  intro os
  kernel_rfl
end Hd

set_option Elab.async false
set_option linter.all false
namespace K3
open PySem J
/-- is_whole(thing, low, most) -/
def b_is_whole : ST :=
  (sRet (eB (bAnd (bIsi "int" (eVar 0)) (bAnd (bNot (bIsi "bool" (eVar 0))) (bChain (fun i j => decide (i ≤ j)) (fun i j => decide (i ≤ j)) (eVar 1) (eVar 0) (eVar 2))))))
/-- are_skills(thing, shifts, one) -/
def b_are_skills (S_is_whole : FS) : ST :=
  (sSeq (sIf (bOr (bNot (bIsi "tuple" (eVar 0))) (bOr (bCmp oEq (eVar 0) (eTup aNil)) (bNot (bVal (eBlt fAll (aCons (eLc [2] (iSeq (eVar 0)) (gNm 2) bTrue (eCall0 3 S_is_whole (aCons (eVar 2) (aCons (eInt 1) (aCons (eVar 1) aNil))))) aNil)))))) (sRet (eBl false)) sNil)
    (sRet (eB (bCmp oEq (eBlt fList (aCons (eVar 0) aNil)) (eSS (eVar 0))))))
/-- are_barred(thing, shifts, pair, one) -/
def b_are_barred (S_is_whole : FS) : ST :=
  (sSeq (sIf (bNot (bIsi "tuple" (eVar 0))) (sRet (eBl false)) sNil)
    (sSeq (sFor (iSeq (eVar 0)) (gNm 2)
    (sIf (bOr (bNot (bIsi "tuple" (eVar 2))) (bOr (bCmp oNe (eBlt fLen (aCons (eVar 2) aNil)) (eInt 2)) (bNot (bVal (eBlt fAll (aCons (eLc [3] (iSeq (eVar 2)) (gNm 3) bTrue (eCall0 3 S_is_whole (aCons (eVar 3) (aCons (eInt 1) (aCons (eVar 1) aNil))))) aNil)))))) (sRet (eBl false)) sNil))
    (sRet (eB (bCmp oEq (eBlt fList (aCons (eVar 0) aNil)) (eSS (eVar 0)))))))
/-- is_rule(thing, shifts) -/
def b_is_rule (S_are_barred S_are_skills S_is_whole : FS) : ST :=
  (sSeq (sIf (bOr (bNot (bIsi "tuple" (eVar 0))) (bOr (bCmp oNe (eBlt fLen (aCons (eVar 0) aNil)) (eInt 4)) (bNot (bVal (eCall 2 S_are_skills (aCons (eIx (eVar 0) (eInt 0)) (aCons (eVar 1) aNil))))))) (sRet (eBl false)) sNil)
    (sSeq (sIf (bOr (bNot (bVal (eCall 3 S_is_whole (aCons (eIx (eVar 0) (eInt 1)) (aCons (eInt 1) (aCons (eInt 4) aNil)))))) (bNot (bVal (eCall 3 S_is_whole (aCons (eIx (eVar 0) (eInt 2)) (aCons (eInt 1) (aCons (eInt 3) aNil))))))) (sRet (eBl false)) sNil)
    (sRet (eCall 2 S_are_barred (aCons (eIx (eVar 0) (eInt 3)) (aCons (eVar 1) aNil))))))
/-- is_need(thing, shifts, pair) -/
def b_is_need (S_is_whole : FS) : ST :=
  (sSeq (sIf (bOr (bNot (bIsi "tuple" (eVar 0))) (bCmp oNe (eBlt fLen (aCons (eVar 0) aNil)) (eVar 1))) (sRet (eBl false)) sNil)
    (sSeq (sFor (iSeq (eVar 0)) (gNm 2)
    (sSeq (sIf (bOr (bNot (bIsi "tuple" (eVar 2))) (bOr (bCmp oNe (eBlt fLen (aCons (eVar 2) aNil)) (eInt 2)) (bNot (bVal (eCall 3 S_is_whole (aCons (eIx (eVar 2) (eInt 1)) (aCons (eInt 0) (aCons (eInt 4) aNil)))))))) (sRet (eBl false)) sNil)
    (sIf (bNot (bVal (eCall 3 S_is_whole (aCons (eIx (eVar 2) (eInt 0)) (aCons (eInt 0) (aCons (eIx (eVar 2) (eInt 1)) aNil)))))) (sRet (eBl false)) sNil)))
    (sRet (eBl true))))
/-- are_needs(thing, shifts, one) -/
def b_are_needs (S_is_need : FS) : ST :=
  (sSeq (sIf (bOr (bNot (bIsi "tuple" (eVar 0))) (bNot (bChain (fun i j => decide (i ≤ j)) (fun i j => decide (i ≤ j)) (eInt 1) (eBlt fLen (aCons (eVar 0) aNil)) (eInt 3)))) (sRet (eBl false)) sNil)
    (sRet (eBlt fAll (aCons (eLc [2] (iSeq (eVar 0)) (gNm 2) bTrue (eCall0 2 S_is_need (aCons (eVar 2) (aCons (eVar 1) aNil)))) aNil))))
/-- is_world(thing, rule) -/
def b_is_world (S_are_needs S_is_whole S_is_rule : FS) : ST :=
  (sSeq (sIf (bOr (bNot (bIsi "tuple" (eVar 0))) (bOr (bCmp oNe (eBlt fLen (aCons (eVar 0) aNil)) (eInt 3)) (bNot (bVal (eCall 3 S_is_whole (aCons (eIx (eVar 0) (eInt 0)) (aCons (eInt 1) (aCons (eInt 3) aNil)))))))) (sRet (eBl false)) sNil)
    (sSeq (sIf (bOr (bNot (bIsi "tuple" (eIx (eVar 0) (eInt 1)))) (bNot (bChain (fun i j => decide (i ≤ j)) (fun i j => decide (i ≤ j)) (eInt 1) (eBlt fLen (aCons (eIx (eVar 0) (eInt 1)) aNil)) (eInt 4)))) (sRet (eBl false)) sNil)
    (sRet (eB (bAnd (bVal (eBlt fAll (aCons (eLc [1] (iSeq (eIx (eVar 0) (eInt 1))) (gNm 1) bTrue (eCall0 2 S_is_rule (aCons (eVar 1) (aCons (eIx (eVar 0) (eInt 0)) aNil)))) aNil))) (bVal (eCall 2 S_are_needs (aCons (eIx (eVar 0) (eInt 2)) (aCons (eIx (eVar 0) (eInt 0)) aNil)))))))))
/-- need_world(thing) -/
def b_need_world (S_is_world : FS) : ST :=
  (sIf (bNot (bVal (eCall 1 S_is_world (aCons (eVar 0) aNil)))) sDead sNil)
/-- begin(world, rule) -/
def b_begin : ST :=
  (sRet (eTup (aCons (eInt 0) (aCons (eBlt fTuple (aCons (eLc [1] (iSeq (eIx (eVar 0) (eInt 1))) (gNm 1) bTrue (eTup (aCons (eInt 0) (aCons (eIx (eVar 1) (eInt 2)) aNil)))) aNil)) aNil))))
/-- options(rule, stand, last, run, shift) -/
def b_options : ST :=
  (sSeq (sAsg (gTup (gCons (gNm 2) (gCons (gNm 3) gNil))) (eVar 1))
    (sSeq (sIf (bCmp oEq (eVar 2) (eInt 0)) (sRet (eBin oAdd (eLst (aCons (eInt 0) aNil)) (eBin oMul (eBlt fList (aCons (eIx (eVar 0) (eInt 0)) aNil)) (eBlt fInt (aCons (eB (bCmp oGe (eVar 3) (eIx (eVar 0) (eInt 2)))) aNil))))) sNil)
    (sSeq (sIf (bCmp oGe (eVar 3) (eIx (eVar 0) (eInt 1))) (sRet (eLst (aCons (eInt 0) aNil))) sNil)
    (sRet (eBin oAdd (eLst (aCons (eInt 0) aNil)) (eLc [4] (iSeq (eIx (eVar 0) (eInt 0))) (gNm 4) (bCmp oNin (eTup (aCons (eVar 2) (aCons (eVar 4) aNil))) (eIx (eVar 0) (eInt 3))) (eVar 4)))))))
/-- stand_behind(rule, stand, shift, last, run) -/
def b_stand_behind : ST :=
  (sSeq (sAsg (gTup (gCons (gNm 3) (gCons (gNm 4) gNil))) (eVar 1))
    (sSeq (sIf (bCmp oEq (eVar 2) (eInt 0)) (sRet (eTup (aCons (eInt 0) (aCons (eIx (eLst (aCons (eInt 1) (aCons (eBlt fMin (aCons (eIx (eVar 0) (eInt 2)) (aCons (eBin oAdd (eVar 4) (eInt 1)) aNil))) aNil))) (eBlt fInt (aCons (eB (bCmp oEq (eVar 3) (eInt 0))) aNil))) aNil)))) sNil)
    (sRet (eTup (aCons (eVar 2) (aCons (eIx (eLst (aCons (eBin oAdd (eVar 4) (eInt 1)) (aCons (eInt 1) aNil))) (eBlt fInt (aCons (eB (bCmp oEq (eVar 3) (eInt 0))) aNil))) aNil))))))
/-- meets(need, plan, k, low, high) -/
def b_meets : ST :=
  (sSeq (sFor (iEnum (eVar 0)) (gTup (gCons (gNm 2) (gCons (gTup (gCons (gNm 3) (gCons (gNm 4) gNil))) gNil)))
    (sIf (bNot (bChain (fun i j => decide (i ≤ j)) (fun i j => decide (i ≤ j)) (eVar 3) (eCnt (eVar 1) (eBin oAdd (eVar 2) (eInt 1))) (eVar 4))) (sRet (eBl false)) sNil))
    (sRet (eBl true)))
/-- plans_at(world, state, rows, rule, stand, longer, row, shift) -/
def b_plans_at (S_meets S_options : FS) : ST :=
  (sSeq (sAsg (gNm 2) (eLst (aCons (eTup aNil) aNil)))
    (sSeq (sFor (iZip (eIx (eVar 0) (eInt 1)) (eIx (eVar 1) (eInt 1))) (gTup (gCons (gNm 3) (gCons (gNm 4) gNil)))
    (sSeq (sNew 5 aNil)
    (sSeq (sFor (iSeq (eVar 2)) (gNm 6)
    (sExt 5 (eLc [7] (iSeq (eCall 2 S_options (aCons (eVar 3) (aCons (eVar 4) aNil)))) (gNm 7) bTrue (eBin oAdd (eVar 6) (eTup (aCons (eVar 7) aNil))))))
    (sMove 2 5))))
    (sRet (eLc [6] (iSeq (eVar 2)) (gNm 6) (bVal (eCall0 2 S_meets (aCons (eIx (eIx (eVar 0) (eInt 2)) (eIx (eVar 1) (eInt 0))) (aCons (eVar 6) aNil)))) (eVar 6)))))
/-- behind(world, state, plan, stands, rule, stand, shift) -/
def b_behind (S_stand_behind : FS) : ST :=
  (sSeq (sAsg (gNm 3) (eLc [4, 5, 6] (iZi3 (eIx (eVar 0) (eInt 1)) (eIx (eVar 1) (eInt 1)) (eVar 2)) (gTup (gCons (gNm 4) (gCons (gNm 5) (gCons (gNm 6) gNil)))) bTrue (eCall0 3 S_stand_behind (aCons (eVar 4) (aCons (eVar 5) (aCons (eVar 6) aNil))))))
    (sRet (eTup (aCons (eBin oMod (eBin oAdd (eIx (eVar 1) (eInt 0)) (eInt 1)) (eBlt fLen (aCons (eIx (eVar 0) (eInt 2)) aNil))) (aCons (eBlt fTuple (aCons (eVar 3) aNil)) aNil)))))
/-- is_plan(world, thing, shift) -/
def b_is_plan (S_is_whole : FS) : ST :=
  (sSeq (sIf (bOr (bNot (bIsi "tuple" (eVar 1))) (bCmp oNe (eBlt fLen (aCons (eVar 1) aNil)) (eBlt fLen (aCons (eIx (eVar 0) (eInt 1)) aNil)))) (sRet (eBl false)) sNil)
    (sRet (eBlt fAll (aCons (eLc [2] (iSeq (eVar 1)) (gNm 2) bTrue (eCall0 3 S_is_whole (aCons (eVar 2) (aCons (eInt 0) (aCons (eIx (eVar 0) (eInt 0)) aNil))))) aNil))))
/-- need_plans(world, thing, plan) -/
def b_need_plans (S_is_plan : FS) : ST :=
  (sIf (bOr (bNot (bIsi "list" (eVar 1))) (bNot (bVal (eBlt fAll (aCons (eLc [2] (iSeq (eVar 1)) (gNm 2) bTrue (eCall0 2 S_is_plan (aCons (eVar 0) (aCons (eVar 2) aNil)))) aNil))))) sDead sNil)
/-- walk(world, state, plans, at, plan) -/
def b_walk (S_behind S_plans_at : FS) : ST :=
  (sSeq (sFor (iEnum (eVar 2)) (gTup (gCons (gNm 3) (gCons (gNm 4) gNil)))
    (sSeq (sIf (bCmp oNin (eVar 4) (eCall 2 S_plans_at (aCons (eVar 0) (aCons (eVar 1) aNil)))) sDead sNil)
    (sAsg (gNm 1) (eCall 3 S_behind (aCons (eVar 0) (aCons (eVar 1) (aCons (eVar 4) aNil)))))))
    (sRet (eVar 1)))
/-- state_behind(world, plans) -/
def b_state_behind (S_need_world S_need_plans S_walk S_begin : FS) : ST :=
  (sSeq (sExpr (eCall 1 S_need_world (aCons (eVar 0) aNil)))
    (sSeq (sExpr (eCall 2 S_need_plans (aCons (eVar 0) (aCons (eVar 1) aNil))))
    (sRet (eCall 3 S_walk (aCons (eVar 0) (aCons (eCall 1 S_begin (aCons (eVar 0) aNil)) (aCons (eVar 1) aNil)))))))
/-- next_plans(world, plans) -/
def b_next_plans (S_plans_at S_state_behind : FS) : ST :=
  (sRet (eCall 2 S_plans_at (aCons (eVar 0) (aCons (eCall 2 S_state_behind (aCons (eVar 0) (aCons (eVar 1) aNil))) aNil))))
/-- _law_cell_at(script, k) -/
def b__law_cell_at : ST :=
  (sSeq (sIf (bCmp oLt (eVar 1) (eBlt fLen (aCons (eVar 0) aNil))) (sRet (eIx (eVar 0) (eVar 1))) sNil)
    (sSeq (sIf (bCmp oEq (eVar 0) (eLst aNil)) (sRet (eInt 0)) sNil)
    (sRet (eBin oAdd (eBin oMul (eIx (eVar 0) (eBin oMod (eVar 1) (eBlt fLen (aCons (eVar 0) aNil)))) (eInt 31)) (eVar 1)))))
/-- _law_mixed(script, k, many, drawn) -/
def b__law_mixed (S__law_cell_at : FS) : ST :=
  (sSeq (sAsg (gNm 3) (eBin oMod (eBin oMul (eBin oAdd (eBin oAdd (eCall 2 S__law_cell_at (aCons (eVar 0) (aCons (eVar 1) aNil))) (eBin oMul (eInt 7919) (eVar 1))) (eInt 1)) (eInt 48271)) (eInt 2147483647)))
    (sRet (eBin oMod (eBin oMod (eBin oAdd (eBin oAdd (eBin oMul (eVar 3) (eVar 3)) (eBin oMul (eInt 7) (eVar 3))) (eVar 1)) (eInt 2147483629)) (eVar 2))))
/-- _law_draw(script, town, many) -/
def b__law_draw (S__law_mixed : FS) : ST :=
  (sSeq (sApp 1 (eInt 0))
    (sRet (eCall 3 S__law_mixed (aCons (eVar 0) (aCons (eBlt fLen (aCons (eVar 1) aNil)) (aCons (eVar 2) aNil))))))
/-- _law_pick(script, town, some) -/
def b__law_pick (S__law_draw : FS) : ST :=
  (sRet (eIx (eVar 2) (eCall 3 S__law_draw (aCons (eVar 0) (aCons (eVar 1) (aCons (eBlt fLen (aCons (eVar 2) aNil)) aNil))))))
/-- _law_rule(script, town, shifts, long, skills, shift, barred, one, other, most) -/
def b__law_rule (S__law_draw : FS) : ST :=
  (sSeq (sAsg (gNm 4) (eLc [5] (iRng2 (eInt 1) (eBin oAdd (eVar 2) (eInt 1))) (gNm 5) (bCmp oGt (eCall0 3 S__law_draw (aCons (eVar 0) (aCons (eVar 1) (aCons (eInt 4) aNil)))) (eInt 0)) (eVar 5)))
    (sSeq (sIf (bCmp oEq (eVar 4) (eLst aNil)) (sAsg (gNm 4) (eLst (aCons (eBin oAdd (eInt 1) (eCall 3 S__law_draw (aCons (eVar 0) (aCons (eVar 1) (aCons (eVar 2) aNil))))) aNil))) sNil)
    (sSeq (sNew 6 aNil)
    (sSeq (sFor (iRng2 (eInt 1) (eBin oAdd (eVar 2) (eInt 1))) (gNm 7)
    (sFor (iRng2 (eInt 1) (eBin oAdd (eVar 2) (eInt 1))) (gNm 8)
    (sIf (bCmp oEq (eCall 3 S__law_draw (aCons (eVar 0) (aCons (eVar 1) (aCons (eInt 4) aNil)))) (eInt 0)) (sApp 6 (eTup (aCons (eVar 7) (aCons (eVar 8) aNil)))) sNil)))
    (sSeq (sAsg (gNm 9) (eBin oAdd (eInt 1) (eCall 3 S__law_draw (aCons (eVar 0) (aCons (eVar 1) (aCons (eVar 3) aNil))))))
    (sRet (eTup (aCons (eBlt fTuple (aCons (eVar 4) aNil)) (aCons (eVar 9) (aCons (eBin oAdd (eInt 1) (eCall 3 S__law_draw (aCons (eVar 0) (aCons (eVar 1) (aCons (eBlt fMin (aCons (eInt 3) (aCons (eVar 3) aNil))) aNil))))) (aCons (eBlt fTuple (aCons (eVar 6) aNil)) aNil)))))))))))
/-- _law_needs(script, town, shifts, many, days, k, day, shift, low) -/
def b__law_needs (S__law_draw S__law_pick : FS) : ST :=
  (sSeq (sNew 4 aNil)
    (sSeq (sFor (iRng (eBin oAdd (eInt 1) (eCall 3 S__law_draw (aCons (eVar 0) (aCons (eVar 1) (aCons (eInt 3) aNil)))))) (gNm 5)
    (sSeq (sNew 6 aNil)
    (sSeq (sFor (iRng (eVar 2)) (gNm 7)
    (sSeq (sAsg (gNm 8) (eCall 3 S__law_draw (aCons (eVar 0) (aCons (eVar 1) (aCons (eCall 3 S__law_pick (aCons (eVar 0) (aCons (eVar 1) (aCons (eLst (aCons (eInt 1) (aCons (eInt 2) (aCons (eInt 2) (aCons (eBin oAdd (eVar 3) (eInt 1)) aNil))))) aNil)))) aNil)))))
    (sApp 6 (eTup (aCons (eBlt fMin (aCons (eVar 8) (aCons (eInt 4) aNil))) (aCons (eBlt fMin (aCons (eInt 4) (aCons (eBin oAdd (eVar 8) (eCall 3 S__law_draw (aCons (eVar 0) (aCons (eVar 1) (aCons (eInt 3) aNil))))) aNil))) aNil))))))
    (sApp 4 (eBlt fTuple (aCons (eVar 6) aNil))))))
    (sRet (eBlt fTuple (aCons (eVar 4) aNil)))))
/-- _law_world(script, town, hands, long, many, shifts, rules, k) -/
def b__law_world (S__law_draw S__law_needs S__law_pick S__law_rule : FS) : ST :=
  (sSeq (sAsg (gNm 4) (eBin oAdd (eInt 1) (eCall 3 S__law_draw (aCons (eVar 0) (aCons (eVar 1) (aCons (eVar 2) aNil))))))
    (sSeq (sAsg (gNm 5) (eBin oAdd (eInt 1) (eCall 3 S__law_draw (aCons (eVar 0) (aCons (eVar 1) (aCons (eCall 3 S__law_pick (aCons (eVar 0) (aCons (eVar 1) (aCons (eLst (aCons (eInt 1) (aCons (eInt 2) (aCons (eInt 2) (aCons (eInt 3) aNil))))) aNil)))) aNil))))))
    (sSeq (sAsg (gNm 6) (eBlt fTuple (aCons (eLc [7] (iRng (eVar 4)) (gNm 7) bTrue (eCall0 4 S__law_rule (aCons (eVar 0) (aCons (eVar 1) (aCons (eVar 5) (aCons (eVar 3) aNil)))))) aNil)))
    (sRet (eTup (aCons (eVar 5) (aCons (eVar 6) (aCons (eCall 4 S__law_needs (aCons (eVar 0) (aCons (eVar 1) (aCons (eVar 5) (aCons (eVar 4) aNil))))) aNil))))))))
/-- _law_kept(rule, days, at, work, shift, one, other) -/
def b__law_kept : ST :=
  (sSeq (sFor (iRng (eBin oSub (eBlt fLen (aCons (eVar 1) aNil)) (eIx (eVar 0) (eInt 1)))) (gNm 2)
    (sIf (bCmp oNin (eInt 0) (eSl (eVar 1) (oSome (eVar 2)) (oSome (eBin oAdd (eBin oAdd (eVar 2) (eIx (eVar 0) (eInt 1))) (eInt 1))))) (sRet (eBl false)) sNil))
    (sSeq (sAsg (gNm 3) (eLc [2, 4] (iEnum (eVar 1)) (gTup (gCons (gNm 2) (gCons (gNm 4) gNil))) (bCmp oNe (eVar 4) (eInt 0)) (eVar 2)))
    (sSeq (sFor (iZip (eVar 3) (eSl (eVar 3) (oSome (eInt 1)) oNone)) (gTup (gCons (gNm 5) (gCons (gNm 6) gNil)))
    (sSeq (sIf (bChain (fun i j => decide (i < j)) (fun i j => decide (i < j)) (eInt 1) (eBin oSub (eVar 6) (eVar 5)) (eBin oAdd (eIx (eVar 0) (eInt 2)) (eInt 1))) (sRet (eBl false)) sNil)
    (sIf (bAnd (bCmp oEq (eBin oSub (eVar 6) (eVar 5)) (eInt 1)) (bCmp oIn (eTup (aCons (eIx (eVar 1) (eVar 5)) (aCons (eIx (eVar 1) (eVar 6)) aNil))) (eIx (eVar 0) (eInt 3)))) (sRet (eBl false)) sNil)))
    (sRet (eBlt fAll (aCons (eLc [2] (iSeq (eVar 3)) (gNm 2) bTrue (eB (bCmp oIn (eIx (eVar 1) (eVar 2)) (eIx (eVar 0) (eInt 0))))) aNil))))))
/-- _law_all_kept(world, plans, at, plan, shift, low, high, k, rule) -/
def b__law_all_kept (S__law_kept : FS) : ST :=
  (sSeq (sFor (iEnum (eVar 1)) (gTup (gCons (gNm 2) (gCons (gNm 3) gNil)))
    (sFor (iEnum (eIx (eIx (eVar 0) (eInt 2)) (eBin oMod (eVar 2) (eBlt fLen (aCons (eIx (eVar 0) (eInt 2)) aNil))))) (gTup (gCons (gNm 4) (gCons (gTup (gCons (gNm 5) (gCons (gNm 6) gNil))) gNil)))
    (sIf (bNot (bChain (fun i j => decide (i ≤ j)) (fun i j => decide (i ≤ j)) (eVar 5) (eCnt (eBlt fList (aCons (eVar 3) aNil)) (eBin oAdd (eVar 4) (eInt 1))) (eVar 6))) (sRet (eBl false)) sNil)))
    (sRet (eBlt fAll (aCons (eLc [7, 8] (iEnum (eIx (eVar 0) (eInt 1))) (gTup (gCons (gNm 7) (gCons (gNm 8) gNil))) bTrue (eCall0 2 S__law_kept (aCons (eVar 8) (aCons (eLc [3] (iSeq (eVar 1)) (gNm 3) bTrue (eIx (eVar 3) (eVar 7))) aNil)))) aNil))))
/-- law(script, town, world, plans, k, some, rows, rule, longer, row, shift) -/
def b_law (S__law_world S_next_plans S__law_draw S__law_all_kept S__law_pick S_state_behind : FS) : ST :=
  (sSeq (sNew 1 aNil)
    (sSeq (sAsg (gNm 2) (eCall 4 S__law_world (aCons (eVar 0) (aCons (eVar 1) (aCons (eInt 4) (aCons (eInt 4) aNil))))))
    (sSeq (sNew 3 aNil)
    (sSeq (sFor (iRng (eCall 3 S__law_draw (aCons (eVar 0) (aCons (eVar 1) (aCons (eInt 21) aNil))))) (gNm 4)
    (sSeq (sAsg (gNm 5) (eCall 2 S_next_plans (aCons (eVar 2) (aCons (eVar 3) aNil))))
    (sIf (bCmp oNe (eVar 5) (eLst aNil)) (sApp 3 (eCall 3 S__law_pick (aCons (eVar 0) (aCons (eVar 1) (aCons (eVar 5) aNil))))) sNil)))
    (sSeq (sIf (bOr (bNot (bVal (eCall 2 S__law_all_kept (aCons (eVar 2) (aCons (eVar 3) aNil))))) (bCmp oNe (eBlt fLen (aCons (eIx (eCall 2 S_state_behind (aCons (eVar 2) (aCons (eVar 3) aNil))) (eInt 1)) aNil)) (eBlt fLen (aCons (eIx (eVar 2) (eInt 1)) aNil)))) (sRet (eBl false)) sNil)
    (sSeq (sAsg (gNm 5) (eCall 2 S_next_plans (aCons (eVar 2) (aCons (eVar 3) aNil))))
    (sSeq (sAsg (gNm 6) (eLst (aCons (eTup aNil) aNil)))
    (sSeq (sFor (iSeq (eIx (eVar 2) (eInt 1))) (gNm 7)
    (sSeq (sNew 8 aNil)
    (sSeq (sFor (iSeq (eVar 6)) (gNm 9)
    (sExt 8 (eLc [10] (iRng (eBin oAdd (eIx (eVar 2) (eInt 0)) (eInt 1))) (gNm 10) bTrue (eBin oAdd (eVar 9) (eTup (aCons (eVar 10) aNil))))))
    (sMove 6 8))))
    (sRet (eB (bCmp oEq (eVar 5) (eLc [9] (iSeq (eVar 6)) (gNm 9) (bVal (eCall0 2 S__law_all_kept (aCons (eVar 2) (aCons (eBin oAdd (eVar 3) (eLst (aCons (eVar 9) aNil))) aNil)))) (eVar 9)))))))))))))
end K3

set_option Elab.async false
set_option linter.all false
set_option maxRecDepth 100000
set_option maxHeartbeats 2000000
namespace K3
open PySem PySem.Spec PyProof.Rows L2 J Hd
/-- what the module has -/
structure Mg (mg : Str → Option Value) : Prop where
  n_all : mg "all" = none
  n_bool : mg "bool" = none
  n_enumerate : mg "enumerate" = none
  n_int : mg "int" = none
  n_isinstance : mg "isinstance" = none
  n_len : mg "len" = none
  n_list : mg "list" = none
  n_min : mg "min" = none
  n_range : mg "range" = none
  n_set : mg "set" = none
  n_sorted : mg "sorted" = none
  n_tuple : mg "tuple" = none
  n_zip : mg "zip" = none
  i_DAYS : ∃ t, mg "DAYS" = some (.int 3 t)
  i_HANDS : ∃ t, mg "HANDS" = some (.int 4 t)
  i_LEAST : ∃ t, mg "LEAST" = some (.int 3 t)
  i_MOST : ∃ t, mg "MOST" = some (.int 4 t)
  i_SHIFTS : ∃ t, mg "SHIFTS" = some (.int 3 t)
section
variable {P : Program} {w : World} {K : PySem.W.Frag} {mg : Str → Option Value} {base : Heap}
theorem sc_is_whole : FnScope ["thing", "low", "most"] ["thing", "low", "most"] (defScope s_is_whole) := ⟨rfl, rfl, rfl, by decide +kernel, rfl, by decide +kernel, by decide +kernel⟩
theorem w_is_whole {f : Addr} {fd : FuncData} {S  : FS} (Y : Mg mg) (F : FunD K "is_whole" "is_whole" (defArgs s_is_whole) (defBody s_is_whole) (defScope s_is_whole) [] [] f fd) (hm : mg "is_whole" = some (.ref f))
    (hS : ∀ ds M r M', S ds M r M' → ds.length = 3 ∧ b_is_whole  (startT 3 ds) M (poOf r M')) : JFn P w K mg base 1 "is_whole" 3 S := by
  refine fn_of F hm sc_is_whole rfl (F.bindsN fun _ _ _ _ _ _ us hl => match us, hl with | [_, _, _], _ => rfl) hS fun cdv A outer s H E B => ?_
  have c : Cok (U1 (cxOf (L2.CX P w) P w K mg base ["thing", "low", "most"] "is_whole" (defScope s_is_whole) f cdv A outer s H E)) := cok_of B rfl sc_is_whole.nd
  exact (vs_one (vs_ret (v_b (vb_w (vw_and (vb_isi (fun _ => rfl) (fun _ => Y.n_isinstance) (v_var (i := 0) fun _ => rfl) (fun _ => rfl) (fun _ => Y.n_int) (by decide +kernel)) (vw_and (vb_not (vb_isi (fun _ => rfl) (fun _ => Y.n_isinstance) (v_var (i := 0) fun _ => rfl) (fun _ => rfl) (fun _ => Y.n_bool) (by decide +kernel))) (vw_one (vb_chain rfl rfl (v_var (i := 1) fun _ => rfl) (v_var (i := 0) fun _ => rfl) (v_var (i := 2) fun _ => rfl)) (.inl rfl))))))))
theorem sc_are_skills : FnScope ["thing", "shifts", "one"] ["thing", "shifts"] (defScope s_are_skills) := ⟨rfl, rfl, rfl, by decide +kernel, rfl, by decide +kernel, by decide +kernel⟩
theorem w_are_skills {f : Addr} {fd : FuncData} {S S_is_whole : FS} (Y : Mg mg) (F : FunD K "are_skills" "are_skills" (defArgs s_are_skills) (defBody s_are_skills) (defScope s_are_skills) [] [] f fd) (hm : mg "are_skills" = some (.ref f)) (G_is_whole : JFn P w K mg base 1 "is_whole" 3 S_is_whole)
    (hS : ∀ ds M r M', S ds M r M' → ds.length = 2 ∧ b_are_skills S_is_whole (startT 3 ds) M (poOf r M')) : JFn P w K mg base 2 "are_skills" 2 S := by
  refine fn_of F hm sc_are_skills rfl (F.bindsN fun _ _ _ _ _ _ us hl => match us, hl with | [_, _], _ => rfl) hS fun cdv A outer s H E B => ?_
  have c : Cok (U1 (cxOf (L2.CX P w) P w K mg base ["thing", "shifts", "one"] "are_skills" (defScope s_are_skills) f cdv A outer s H E)) := cok_of B rfl sc_are_skills.nd
  exact (vs_cons (vs_if (vb_w (vw_or (vb_not (vb_isi (fun _ => rfl) (fun _ => Y.n_isinstance) (v_var (i := 0) fun _ => rfl) (fun _ => rfl) (fun _ => Y.n_tuple) (by decide +kernel))) (vw_or (vb_eq c (v_var (i := 0) fun _ => rfl) (v_tup va_nil)) (vw_one (vb_not (vb_val (v_blt (c_all c) (fun _ => rfl) (fun _ => Y.n_all) (by decide +kernel) (va_cons (v_lc (own := [("one", 2)]) c (vi_seq (v_var (i := 0) fun _ => rfl)) (fun _ => blkOk_by (own := [("one", 2)]) (N := ["thing", "shifts", "one"]) (sc := defScope s_are_skills) (by decide +kernel)) (vg_nm (i := 2) (cok_b c) fun _ => rfl) (by decide) vts_nil (v_call0 (fun _ => G_is_whole) (fun _ => B.room) (by decide) (fun _ => rfl) (va_cons (v_var (i := 2) fun _ => rfl) (va_cons v_int (va_cons (v_var (i := 1) fun _ => rfl) va_nil))))) va_nil)))) (.inr rfl))))) (vs_one (vs_ret v_bl)) vs_nil)
    (vs_one (vs_ret (v_b (vb_eq c (v_bltT c_list (fun _ => rfl) (fun _ => Y.n_list) (by decide +kernel) (va_cons (v_var (i := 0) fun _ => rfl) va_nil)) (v_ss c (fun _ => rfl) (fun _ => Y.n_sorted) (fun _ => rfl) (fun _ => Y.n_set) (v_var (i := 0) fun _ => rfl)))))))
theorem sc_are_barred : FnScope ["thing", "shifts", "pair", "one"] ["thing", "shifts"] (defScope s_are_barred) := ⟨rfl, rfl, rfl, by decide +kernel, rfl, by decide +kernel, by decide +kernel⟩
theorem w_are_barred {f : Addr} {fd : FuncData} {S S_is_whole : FS} (Y : Mg mg) (F : FunD K "are_barred" "are_barred" (defArgs s_are_barred) (defBody s_are_barred) (defScope s_are_barred) [] [] f fd) (hm : mg "are_barred" = some (.ref f)) (G_is_whole : JFn P w K mg base 1 "is_whole" 3 S_is_whole)
    (hS : ∀ ds M r M', S ds M r M' → ds.length = 2 ∧ b_are_barred S_is_whole (startT 4 ds) M (poOf r M')) : JFn P w K mg base 2 "are_barred" 2 S := by
  refine fn_of F hm sc_are_barred rfl (F.bindsN fun _ _ _ _ _ _ us hl => match us, hl with | [_, _], _ => rfl) hS fun cdv A outer s H E B => ?_
  have c : Cok (U1 (cxOf (L2.CX P w) P w K mg base ["thing", "shifts", "pair", "one"] "are_barred" (defScope s_are_barred) f cdv A outer s H E)) := cok_of B rfl sc_are_barred.nd
  exact (vs_cons (vs_if (vb_not (vb_isi (fun _ => rfl) (fun _ => Y.n_isinstance) (v_var (i := 0) fun _ => rfl) (fun _ => rfl) (fun _ => Y.n_tuple) (by decide +kernel))) (vs_one (vs_ret v_bl)) vs_nil)
    (vs_cons (vs_for c B.passes (vi_seq (v_var (i := 0) fun _ => rfl)) (vg_nm (i := 2) c fun _ => rfl)
    (vs_one (vs_if (vb_w (vw_or (vb_not (vb_isi (fun _ => rfl) (fun _ => Y.n_isinstance) (v_var (i := 2) fun _ => rfl) (fun _ => rfl) (fun _ => Y.n_tuple) (by decide +kernel))) (vw_or (vb_ne c (v_blt c_len (fun _ => rfl) (fun _ => Y.n_len) (by decide +kernel) (va_cons (v_var (i := 2) fun _ => rfl) va_nil)) v_int) (vw_one (vb_not (vb_val (v_blt (c_all c) (fun _ => rfl) (fun _ => Y.n_all) (by decide +kernel) (va_cons (v_lc (own := [("one", 3)]) c (vi_seq (v_var (i := 2) fun _ => rfl)) (fun _ => blkOk_by (own := [("one", 3)]) (N := ["thing", "shifts", "pair", "one"]) (sc := defScope s_are_barred) (by decide +kernel)) (vg_nm (i := 3) (cok_b c) fun _ => rfl) (by decide) vts_nil (v_call0 (fun _ => G_is_whole) (fun _ => B.room) (by decide) (fun _ => rfl) (va_cons (v_var (i := 3) fun _ => rfl) (va_cons v_int (va_cons (v_var (i := 1) fun _ => rfl) va_nil))))) va_nil)))) (.inr rfl))))) (vs_one (vs_ret v_bl)) vs_nil)))
    (vs_one (vs_ret (v_b (vb_eq c (v_bltT c_list (fun _ => rfl) (fun _ => Y.n_list) (by decide +kernel) (va_cons (v_var (i := 0) fun _ => rfl) va_nil)) (v_ss c (fun _ => rfl) (fun _ => Y.n_sorted) (fun _ => rfl) (fun _ => Y.n_set) (v_var (i := 0) fun _ => rfl))))))))
theorem sc_is_rule : FnScope ["thing", "shifts"] ["thing", "shifts"] (defScope s_is_rule) := ⟨rfl, rfl, rfl, by decide +kernel, rfl, by decide +kernel, by decide +kernel⟩
theorem w_is_rule {f : Addr} {fd : FuncData} {S S_are_barred S_are_skills S_is_whole : FS} (Y : Mg mg) (F : FunD K "is_rule" "is_rule" (defArgs s_is_rule) (defBody s_is_rule) (defScope s_is_rule) [] [] f fd) (hm : mg "is_rule" = some (.ref f)) (G_are_barred : JFn P w K mg base 2 "are_barred" 2 S_are_barred) (G_are_skills : JFn P w K mg base 2 "are_skills" 2 S_are_skills) (G_is_whole : JFn P w K mg base 1 "is_whole" 3 S_is_whole)
    (hS : ∀ ds M r M', S ds M r M' → ds.length = 2 ∧ b_is_rule S_are_barred S_are_skills S_is_whole (startT 2 ds) M (poOf r M')) : JFn P w K mg base 3 "is_rule" 2 S := by
  refine fn_of F hm sc_is_rule rfl (F.bindsN fun _ _ _ _ _ _ us hl => match us, hl with | [_, _], _ => rfl) hS fun cdv A outer s H E B => ?_
  have c : Cok (U1 (cxOf (L2.CX P w) P w K mg base ["thing", "shifts"] "is_rule" (defScope s_is_rule) f cdv A outer s H E)) := cok_of B rfl sc_is_rule.nd
  exact (vs_cons (vs_if (vb_w (vw_or (vb_not (vb_isi (fun _ => rfl) (fun _ => Y.n_isinstance) (v_var (i := 0) fun _ => rfl) (fun _ => rfl) (fun _ => Y.n_tuple) (by decide +kernel))) (vw_or (vb_ne c (v_blt c_len (fun _ => rfl) (fun _ => Y.n_len) (by decide +kernel) (va_cons (v_var (i := 0) fun _ => rfl) va_nil)) v_int) (vw_one (vb_not (vb_val (v_call (fun _ => G_are_skills) (fun _ => B.room) (by decide) (fun _ => rfl) (fun _ => B.takes) (va_cons (v_ix (v_var (i := 0) fun _ => rfl) v_int) (va_cons (v_var (i := 1) fun _ => rfl) va_nil))))) (.inr rfl))))) (vs_one (vs_ret v_bl)) vs_nil)
    (vs_cons (vs_if (vb_w (vw_or (vb_not (vb_val (v_call (fun _ => G_is_whole) (fun _ => B.room) (by decide) (fun _ => rfl) (fun _ => B.takes) (va_cons (v_ix (v_var (i := 0) fun _ => rfl) v_int) (va_cons v_int (va_cons (v_gi (fun _ => rfl) fun _ => Y.i_MOST) va_nil)))))) (vw_one (vb_not (vb_val (v_call (fun _ => G_is_whole) (fun _ => B.room) (by decide) (fun _ => rfl) (fun _ => B.takes) (va_cons (v_ix (v_var (i := 0) fun _ => rfl) v_int) (va_cons v_int (va_cons (v_gi (fun _ => rfl) fun _ => Y.i_LEAST) va_nil)))))) (.inr rfl)))) (vs_one (vs_ret v_bl)) vs_nil)
    (vs_one (vs_ret (v_call (fun _ => G_are_barred) (fun _ => B.room) (by decide) (fun _ => rfl) (fun _ => B.takes) (va_cons (v_ix (v_var (i := 0) fun _ => rfl) v_int) (va_cons (v_var (i := 1) fun _ => rfl) va_nil)))))))
theorem sc_is_need : FnScope ["thing", "shifts", "pair"] ["thing", "shifts"] (defScope s_is_need) := ⟨rfl, rfl, rfl, by decide +kernel, rfl, by decide +kernel, by decide +kernel⟩
theorem w_is_need {f : Addr} {fd : FuncData} {S S_is_whole : FS} (Y : Mg mg) (F : FunD K "is_need" "is_need" (defArgs s_is_need) (defBody s_is_need) (defScope s_is_need) [] [] f fd) (hm : mg "is_need" = some (.ref f)) (G_is_whole : JFn P w K mg base 1 "is_whole" 3 S_is_whole)
    (hS : ∀ ds M r M', S ds M r M' → ds.length = 2 ∧ b_is_need S_is_whole (startT 3 ds) M (poOf r M')) : JFn P w K mg base 2 "is_need" 2 S := by
  refine fn_of F hm sc_is_need rfl (F.bindsN fun _ _ _ _ _ _ us hl => match us, hl with | [_, _], _ => rfl) hS fun cdv A outer s H E B => ?_
  have c : Cok (U1 (cxOf (L2.CX P w) P w K mg base ["thing", "shifts", "pair"] "is_need" (defScope s_is_need) f cdv A outer s H E)) := cok_of B rfl sc_is_need.nd
  exact (vs_cons (vs_if (vb_w (vw_or (vb_not (vb_isi (fun _ => rfl) (fun _ => Y.n_isinstance) (v_var (i := 0) fun _ => rfl) (fun _ => rfl) (fun _ => Y.n_tuple) (by decide +kernel))) (vw_one (vb_ne c (v_blt c_len (fun _ => rfl) (fun _ => Y.n_len) (by decide +kernel) (va_cons (v_var (i := 0) fun _ => rfl) va_nil)) (v_var (i := 1) fun _ => rfl)) (.inr rfl)))) (vs_one (vs_ret v_bl)) vs_nil)
    (vs_cons (vs_for c B.passes (vi_seq (v_var (i := 0) fun _ => rfl)) (vg_nm (i := 2) c fun _ => rfl)
    (vs_cons (vs_if (vb_w (vw_or (vb_not (vb_isi (fun _ => rfl) (fun _ => Y.n_isinstance) (v_var (i := 2) fun _ => rfl) (fun _ => rfl) (fun _ => Y.n_tuple) (by decide +kernel))) (vw_or (vb_ne c (v_blt c_len (fun _ => rfl) (fun _ => Y.n_len) (by decide +kernel) (va_cons (v_var (i := 2) fun _ => rfl) va_nil)) v_int) (vw_one (vb_not (vb_val (v_call (fun _ => G_is_whole) (fun _ => B.room) (by decide) (fun _ => rfl) (fun _ => B.takes) (va_cons (v_ix (v_var (i := 2) fun _ => rfl) v_int) (va_cons v_int (va_cons (v_gi (fun _ => rfl) fun _ => Y.i_HANDS) va_nil)))))) (.inr rfl))))) (vs_one (vs_ret v_bl)) vs_nil)
    (vs_one (vs_if (vb_not (vb_val (v_call (fun _ => G_is_whole) (fun _ => B.room) (by decide) (fun _ => rfl) (fun _ => B.takes) (va_cons (v_ix (v_var (i := 2) fun _ => rfl) v_int) (va_cons v_int (va_cons (v_ix (v_var (i := 2) fun _ => rfl) v_int) va_nil)))))) (vs_one (vs_ret v_bl)) vs_nil))))
    (vs_one (vs_ret v_bl))))
theorem sc_are_needs : FnScope ["thing", "shifts", "one"] ["thing", "shifts"] (defScope s_are_needs) := ⟨rfl, rfl, rfl, by decide +kernel, rfl, by decide +kernel, by decide +kernel⟩
theorem w_are_needs {f : Addr} {fd : FuncData} {S S_is_need : FS} (Y : Mg mg) (F : FunD K "are_needs" "are_needs" (defArgs s_are_needs) (defBody s_are_needs) (defScope s_are_needs) [] [] f fd) (hm : mg "are_needs" = some (.ref f)) (G_is_need : JFn P w K mg base 2 "is_need" 2 S_is_need)
    (hS : ∀ ds M r M', S ds M r M' → ds.length = 2 ∧ b_are_needs S_is_need (startT 3 ds) M (poOf r M')) : JFn P w K mg base 3 "are_needs" 2 S := by
  refine fn_of F hm sc_are_needs rfl (F.bindsN fun _ _ _ _ _ _ us hl => match us, hl with | [_, _], _ => rfl) hS fun cdv A outer s H E B => ?_
  have c : Cok (U1 (cxOf (L2.CX P w) P w K mg base ["thing", "shifts", "one"] "are_needs" (defScope s_are_needs) f cdv A outer s H E)) := cok_of B rfl sc_are_needs.nd
  exact (vs_cons (vs_if (vb_w (vw_or (vb_not (vb_isi (fun _ => rfl) (fun _ => Y.n_isinstance) (v_var (i := 0) fun _ => rfl) (fun _ => rfl) (fun _ => Y.n_tuple) (by decide +kernel))) (vw_one (vb_not (vb_chain rfl rfl v_int (v_blt c_len (fun _ => rfl) (fun _ => Y.n_len) (by decide +kernel) (va_cons (v_var (i := 0) fun _ => rfl) va_nil)) (v_gi (fun _ => rfl) fun _ => Y.i_DAYS))) (.inr rfl)))) (vs_one (vs_ret v_bl)) vs_nil)
    (vs_one (vs_ret (v_blt (c_all c) (fun _ => rfl) (fun _ => Y.n_all) (by decide +kernel) (va_cons (v_lc (own := [("one", 2)]) c (vi_seq (v_var (i := 0) fun _ => rfl)) (fun _ => blkOk_by (own := [("one", 2)]) (N := ["thing", "shifts", "one"]) (sc := defScope s_are_needs) (by decide +kernel)) (vg_nm (i := 2) (cok_b c) fun _ => rfl) (by decide) vts_nil (v_call0 (fun _ => G_is_need) (fun _ => B.room) (by decide) (fun _ => rfl) (va_cons (v_var (i := 2) fun _ => rfl) (va_cons (v_var (i := 1) fun _ => rfl) va_nil)))) va_nil)))))
theorem sc_is_world : FnScope ["thing", "rule"] ["thing"] (defScope s_is_world) := ⟨rfl, rfl, rfl, by decide +kernel, rfl, by decide +kernel, by decide +kernel⟩
theorem w_is_world {f : Addr} {fd : FuncData} {S S_are_needs S_is_whole S_is_rule : FS} (Y : Mg mg) (F : FunD K "is_world" "is_world" (defArgs s_is_world) (defBody s_is_world) (defScope s_is_world) [] [] f fd) (hm : mg "is_world" = some (.ref f)) (G_are_needs : JFn P w K mg base 3 "are_needs" 2 S_are_needs) (G_is_whole : JFn P w K mg base 1 "is_whole" 3 S_is_whole) (G_is_rule : JFn P w K mg base 3 "is_rule" 2 S_is_rule)
    (hS : ∀ ds M r M', S ds M r M' → ds.length = 1 ∧ b_is_world S_are_needs S_is_whole S_is_rule (startT 2 ds) M (poOf r M')) : JFn P w K mg base 4 "is_world" 1 S := by
  refine fn_of F hm sc_is_world rfl (F.bindsN fun _ _ _ _ _ _ us hl => match us, hl with | [_], _ => rfl) hS fun cdv A outer s H E B => ?_
  have c : Cok (U1 (cxOf (L2.CX P w) P w K mg base ["thing", "rule"] "is_world" (defScope s_is_world) f cdv A outer s H E)) := cok_of B rfl sc_is_world.nd
  exact (vs_cons (vs_if (vb_w (vw_or (vb_not (vb_isi (fun _ => rfl) (fun _ => Y.n_isinstance) (v_var (i := 0) fun _ => rfl) (fun _ => rfl) (fun _ => Y.n_tuple) (by decide +kernel))) (vw_or (vb_ne c (v_blt c_len (fun _ => rfl) (fun _ => Y.n_len) (by decide +kernel) (va_cons (v_var (i := 0) fun _ => rfl) va_nil)) v_int) (vw_one (vb_not (vb_val (v_call (fun _ => G_is_whole) (fun _ => B.room) (by decide) (fun _ => rfl) (fun _ => B.takes) (va_cons (v_ix (v_var (i := 0) fun _ => rfl) v_int) (va_cons v_int (va_cons (v_gi (fun _ => rfl) fun _ => Y.i_SHIFTS) va_nil)))))) (.inr rfl))))) (vs_one (vs_ret v_bl)) vs_nil)
    (vs_cons (vs_if (vb_w (vw_or (vb_not (vb_isi (fun _ => rfl) (fun _ => Y.n_isinstance) (v_ix (v_var (i := 0) fun _ => rfl) v_int) (fun _ => rfl) (fun _ => Y.n_tuple) (by decide +kernel))) (vw_one (vb_not (vb_chain rfl rfl v_int (v_blt c_len (fun _ => rfl) (fun _ => Y.n_len) (by decide +kernel) (va_cons (v_ix (v_var (i := 0) fun _ => rfl) v_int) va_nil)) (v_gi (fun _ => rfl) fun _ => Y.i_HANDS))) (.inr rfl)))) (vs_one (vs_ret v_bl)) vs_nil)
    (vs_one (vs_ret (v_b (vb_w (vw_and (vb_val (v_blt (c_all c) (fun _ => rfl) (fun _ => Y.n_all) (by decide +kernel) (va_cons (v_lc (own := [("rule", 1)]) c (vi_seq (v_ix (v_var (i := 0) fun _ => rfl) v_int)) (fun _ => blkOk_by (own := [("rule", 1)]) (N := ["thing", "rule"]) (sc := defScope s_is_world) (by decide +kernel)) (vg_nm (i := 1) (cok_b c) fun _ => rfl) (by decide) vts_nil (v_call0 (fun _ => G_is_rule) (fun _ => B.room) (by decide) (fun _ => rfl) (va_cons (v_var (i := 1) fun _ => rfl) (va_cons (v_ix (v_var (i := 0) fun _ => rfl) v_int) va_nil)))) va_nil))) (vw_one (vb_val (v_call (fun _ => G_are_needs) (fun _ => B.room) (by decide) (fun _ => rfl) (fun _ => B.takes) (va_cons (v_ix (v_var (i := 0) fun _ => rfl) v_int) (va_cons (v_ix (v_var (i := 0) fun _ => rfl) v_int) va_nil)))) (.inl rfl)))))))))
theorem sc_need_world : FnScope ["thing"] ["thing"] (defScope s_need_world) := ⟨rfl, rfl, rfl, by decide +kernel, rfl, by decide +kernel, by decide +kernel⟩
theorem w_need_world {f : Addr} {fd : FuncData} {S S_is_world : FS} (Y : Mg mg) (F : FunD K "need_world" "need_world" (defArgs s_need_world) (defBody s_need_world) (defScope s_need_world) [] [] f fd) (hm : mg "need_world" = some (.ref f)) (G_is_world : JFn P w K mg base 4 "is_world" 1 S_is_world)
    (hS : ∀ ds M r M', S ds M r M' → ds.length = 1 ∧ b_need_world S_is_world (startT 1 ds) M (poOf r M')) : JFn P w K mg base 5 "need_world" 1 S := by
  refine fn_of F hm sc_need_world rfl (F.bindsN fun _ _ _ _ _ _ us hl => match us, hl with | [_], _ => rfl) hS fun cdv A outer s H E B => ?_
  have c : Cok (U1 (cxOf (L2.CX P w) P w K mg base ["thing"] "need_world" (defScope s_need_world) f cdv A outer s H E)) := cok_of B rfl sc_need_world.nd
  exact (vs_one (vs_if (vb_not (vb_val (v_call (fun _ => G_is_world) (fun _ => B.room) (by decide) (fun _ => rfl) (fun _ => B.takes) (va_cons (v_var (i := 0) fun _ => rfl) va_nil)))) (vs_one vs_dead) vs_nil))
theorem sc_begin : FnScope ["world", "rule"] ["world"] (defScope s_begin) := ⟨rfl, rfl, rfl, by decide +kernel, rfl, by decide +kernel, by decide +kernel⟩
theorem w_begin {f : Addr} {fd : FuncData} {S  : FS} (Y : Mg mg) (F : FunD K "begin" "begin" (defArgs s_begin) (defBody s_begin) (defScope s_begin) [] [] f fd) (hm : mg "begin" = some (.ref f))
    (hS : ∀ ds M r M', S ds M r M' → ds.length = 1 ∧ b_begin  (startT 2 ds) M (poOf r M')) : JFn P w K mg base 1 "begin" 1 S := by
  refine fn_of F hm sc_begin rfl (F.bindsN fun _ _ _ _ _ _ us hl => match us, hl with | [_], _ => rfl) hS fun cdv A outer s H E B => ?_
  have c : Cok (U1 (cxOf (L2.CX P w) P w K mg base ["world", "rule"] "begin" (defScope s_begin) f cdv A outer s H E)) := cok_of B rfl sc_begin.nd
  exact (vs_one (vs_ret (v_tup (va_cons v_int (va_cons (v_bltT c_tuple (fun _ => rfl) (fun _ => Y.n_tuple) (by decide +kernel) (va_cons (v_lc (own := [("rule", 1)]) c (vi_seq (v_ix (v_var (i := 0) fun _ => rfl) v_int)) (fun _ => blkOk_by (own := [("rule", 1)]) (N := ["world", "rule"]) (sc := defScope s_begin) (by decide +kernel)) (vg_nm (i := 1) (cok_b c) fun _ => rfl) (by decide) vts_nil (v_tup (va_cons v_int (va_cons (v_ix (v_var (i := 1) fun _ => rfl) v_int) va_nil)))) va_nil)) va_nil)))))
theorem sc_options : FnScope ["rule", "stand", "last", "run", "shift"] ["rule", "stand"] (defScope s_options) := ⟨rfl, rfl, rfl, by decide +kernel, rfl, by decide +kernel, by decide +kernel⟩
theorem w_options {f : Addr} {fd : FuncData} {S  : FS} (Y : Mg mg) (F : FunD K "options" "options" (defArgs s_options) (defBody s_options) (defScope s_options) [] [] f fd) (hm : mg "options" = some (.ref f))
    (hS : ∀ ds M r M', S ds M r M' → ds.length = 2 ∧ b_options  (startT 5 ds) M (poOf r M')) : JFn P w K mg base 1 "options" 2 S := by
  refine fn_of F hm sc_options rfl (F.bindsN fun _ _ _ _ _ _ us hl => match us, hl with | [_, _], _ => rfl) hS fun cdv A outer s H E B => ?_
  have c : Cok (U1 (cxOf (L2.CX P w) P w K mg base ["rule", "stand", "last", "run", "shift"] "options" (defScope s_options) f cdv A outer s H E)) := cok_of B rfl sc_options.nd
  exact (vs_cons (vs_asg (v_var (i := 1) fun _ => rfl) (vg_tup c (vgs_cons (vg_nm (i := 2) c fun _ => rfl) (vgs_cons (vg_nm (i := 3) c fun _ => rfl) vgs_nil)) (glen_cons gex_nm (glen_cons gex_nm glen_nil))))
    (vs_cons (vs_if (vb_eq c (v_var (i := 2) fun _ => rfl) v_int) (vs_one (vs_ret (v_add (v_lst (va_cons v_int va_nil)) (v_mul (v_bltT c_list (fun _ => rfl) (fun _ => Y.n_list) (by decide +kernel) (va_cons (v_ix (v_var (i := 0) fun _ => rfl) v_int) va_nil)) (v_bltT c_int (fun _ => rfl) (fun _ => Y.n_int) (by decide +kernel) (va_cons (v_b (vb_ge (v_var (i := 3) fun _ => rfl) (v_ix (v_var (i := 0) fun _ => rfl) v_int))) va_nil)))))) vs_nil)
    (vs_cons (vs_if (vb_ge (v_var (i := 3) fun _ => rfl) (v_ix (v_var (i := 0) fun _ => rfl) v_int)) (vs_one (vs_ret (v_lst (va_cons v_int va_nil)))) vs_nil)
    (vs_one (vs_ret (v_add (v_lst (va_cons v_int va_nil)) (v_lc (own := [("shift", 4)]) c (vi_seq (v_ix (v_var (i := 0) fun _ => rfl) v_int)) (fun _ => blkOk_by (own := [("shift", 4)]) (N := ["rule", "stand", "last", "run", "shift"]) (sc := defScope s_options) (by decide +kernel)) (vg_nm (i := 4) (cok_b c) fun _ => rfl) (by decide) (vts_one (vb_nin (cok_b c) (v_tup (va_cons (v_var (i := 2) fun _ => rfl) (va_cons (v_var (i := 4) fun _ => rfl) va_nil))) (v_ix (v_var (i := 0) fun _ => rfl) v_int))) (v_var (i := 4) fun _ => rfl))))))))
theorem sc_stand_behind : FnScope ["rule", "stand", "shift", "last", "run"] ["rule", "stand", "shift"] (defScope s_stand_behind) := ⟨rfl, rfl, rfl, by decide +kernel, rfl, by decide +kernel, by decide +kernel⟩
theorem w_stand_behind {f : Addr} {fd : FuncData} {S  : FS} (Y : Mg mg) (F : FunD K "stand_behind" "stand_behind" (defArgs s_stand_behind) (defBody s_stand_behind) (defScope s_stand_behind) [] [] f fd) (hm : mg "stand_behind" = some (.ref f))
    (hS : ∀ ds M r M', S ds M r M' → ds.length = 3 ∧ b_stand_behind  (startT 5 ds) M (poOf r M')) : JFn P w K mg base 1 "stand_behind" 3 S := by
  refine fn_of F hm sc_stand_behind rfl (F.bindsN fun _ _ _ _ _ _ us hl => match us, hl with | [_, _, _], _ => rfl) hS fun cdv A outer s H E B => ?_
  have c : Cok (U1 (cxOf (L2.CX P w) P w K mg base ["rule", "stand", "shift", "last", "run"] "stand_behind" (defScope s_stand_behind) f cdv A outer s H E)) := cok_of B rfl sc_stand_behind.nd
  exact (vs_cons (vs_asg (v_var (i := 1) fun _ => rfl) (vg_tup c (vgs_cons (vg_nm (i := 3) c fun _ => rfl) (vgs_cons (vg_nm (i := 4) c fun _ => rfl) vgs_nil)) (glen_cons gex_nm (glen_cons gex_nm glen_nil))))
    (vs_cons (vs_if (vb_eq c (v_var (i := 2) fun _ => rfl) v_int) (vs_one (vs_ret (v_tup (va_cons v_int (va_cons (v_ix (v_lst (va_cons v_int (va_cons (v_blt (c_min c) (fun _ => rfl) (fun _ => Y.n_min) (by decide +kernel) (va_cons (v_ix (v_var (i := 0) fun _ => rfl) v_int) (va_cons (v_add (v_var (i := 4) fun _ => rfl) v_int) va_nil))) va_nil))) (v_bltT c_int (fun _ => rfl) (fun _ => Y.n_int) (by decide +kernel) (va_cons (v_b (vb_eq c (v_var (i := 3) fun _ => rfl) v_int)) va_nil))) va_nil))))) vs_nil)
    (vs_one (vs_ret (v_tup (va_cons (v_var (i := 2) fun _ => rfl) (va_cons (v_ix (v_lst (va_cons (v_add (v_var (i := 4) fun _ => rfl) v_int) (va_cons v_int va_nil))) (v_bltT c_int (fun _ => rfl) (fun _ => Y.n_int) (by decide +kernel) (va_cons (v_b (vb_eq c (v_var (i := 3) fun _ => rfl) v_int)) va_nil))) va_nil)))))))
theorem sc_meets : FnScope ["need", "plan", "k", "low", "high"] ["need", "plan"] (defScope s_meets) := ⟨rfl, rfl, rfl, by decide +kernel, rfl, by decide +kernel, by decide +kernel⟩
theorem w_meets {f : Addr} {fd : FuncData} {S  : FS} (Y : Mg mg) (F : FunD K "meets" "meets" (defArgs s_meets) (defBody s_meets) (defScope s_meets) [] [] f fd) (hm : mg "meets" = some (.ref f))
    (hS : ∀ ds M r M', S ds M r M' → ds.length = 2 ∧ b_meets  (startT 5 ds) M (poOf r M')) : JFn P w K mg base 1 "meets" 2 S := by
  refine fn_of F hm sc_meets rfl (F.bindsN fun _ _ _ _ _ _ us hl => match us, hl with | [_, _], _ => rfl) hS fun cdv A outer s H E B => ?_
  have c : Cok (U1 (cxOf (L2.CX P w) P w K mg base ["need", "plan", "k", "low", "high"] "meets" (defScope s_meets) f cdv A outer s H E)) := cok_of B rfl sc_meets.nd
  exact (vs_cons (vs_for c B.passes (vi_enum (fun _ => rfl) (fun _ => Y.n_enumerate) (v_var (i := 0) fun _ => rfl)) (vg_tup c (vgs_cons (vg_nm (i := 2) c fun _ => rfl) (vgs_cons (vg_tup c (vgs_cons (vg_nm (i := 3) c fun _ => rfl) (vgs_cons (vg_nm (i := 4) c fun _ => rfl) vgs_nil)) (glen_cons gex_nm (glen_cons gex_nm glen_nil))) vgs_nil)) (glen_cons gex_nm (glen_cons (gex_tup (gex_cons gex_nm (gex_cons gex_nm gex_nil))) glen_nil)))
    (vs_one (vs_if (vb_not (vb_chain rfl rfl (v_var (i := 3) fun _ => rfl) (v_cnt c (v_var (i := 1) fun _ => rfl) (v_add (v_var (i := 2) fun _ => rfl) v_int)) (v_var (i := 4) fun _ => rfl))) (vs_one (vs_ret v_bl)) vs_nil)))
    (vs_one (vs_ret v_bl)))
theorem sc_plans_at : FnScope ["world", "state", "rows", "rule", "stand", "longer", "row", "shift"] ["world", "state"] (defScope s_plans_at) := ⟨rfl, rfl, rfl, by decide +kernel, rfl, by decide +kernel, by decide +kernel⟩
theorem w_plans_at {f : Addr} {fd : FuncData} {S S_meets S_options : FS} (Y : Mg mg) (F : FunD K "plans_at" "plans_at" (defArgs s_plans_at) (defBody s_plans_at) (defScope s_plans_at) [] [] f fd) (hm : mg "plans_at" = some (.ref f)) (G_meets : JFn P w K mg base 1 "meets" 2 S_meets) (G_options : JFn P w K mg base 1 "options" 2 S_options)
    (hS : ∀ ds M r M', S ds M r M' → ds.length = 2 ∧ b_plans_at S_meets S_options (startT 8 ds) M (poOf r M')) : JFn P w K mg base 2 "plans_at" 2 S := by
  refine fn_of F hm sc_plans_at rfl (F.bindsN fun _ _ _ _ _ _ us hl => match us, hl with | [_, _], _ => rfl) hS fun cdv A outer s H E B => ?_
  have c : Cok (U1 (cxOf (L2.CX P w) P w K mg base ["world", "state", "rows", "rule", "stand", "longer", "row", "shift"] "plans_at" (defScope s_plans_at) f cdv A outer s H E)) := cok_of B rfl sc_plans_at.nd
  exact (vs_cons (vs_asg (v_lst (va_cons (v_tup va_nil) va_nil)) (vg_nm (i := 2) c fun _ => rfl))
    (vs_cons (vs_for c B.passes (vi_zip (fun _ => rfl) (fun _ => Y.n_zip) (v_ix (v_var (i := 0) fun _ => rfl) v_int) (v_ix (v_var (i := 1) fun _ => rfl) v_int)) (vg_tup c (vgs_cons (vg_nm (i := 3) c fun _ => rfl) (vgs_cons (vg_nm (i := 4) c fun _ => rfl) vgs_nil)) (glen_cons gex_nm (glen_cons gex_nm glen_nil)))
    (vs_cons (vs_new (i := 5) c rfl va_nil)
    (vs_cons (vs_for c B.passes (vi_seq (v_var (i := 2) fun _ => rfl)) (vg_nm (i := 6) c fun _ => rfl)
    (vs_one (vs_ext (i := 5) rfl (v_lc (own := [("shift", 7)]) c (vi_seq (v_call (fun _ => G_options) (fun _ => B.room) (by decide) (fun _ => rfl) (fun _ => B.takes) (va_cons (v_var (i := 3) fun _ => rfl) (va_cons (v_var (i := 4) fun _ => rfl) va_nil)))) (fun _ => blkOk_by (own := [("shift", 7)]) (N := ["world", "state", "rows", "rule", "stand", "longer", "row", "shift"]) (sc := defScope s_plans_at) (by decide +kernel)) (vg_nm (i := 7) (cok_b c) fun _ => rfl) (by decide) vts_nil (v_add (v_var (i := 6) fun _ => rfl) (v_tup (va_cons (v_var (i := 7) fun _ => rfl) va_nil)))))))
    (vs_one (vs_move (i := 2) (j := 5) c rfl rfl)))))
    (vs_one (vs_ret (v_lc (own := [("row", 6)]) c (vi_seq (v_var (i := 2) fun _ => rfl)) (fun _ => blkOk_by (own := [("row", 6)]) (N := ["world", "state", "rows", "rule", "stand", "longer", "row", "shift"]) (sc := defScope s_plans_at) (by decide +kernel)) (vg_nm (i := 6) (cok_b c) fun _ => rfl) (by decide) (vts_one (vb_val (v_call0 (fun _ => G_meets) (fun _ => B.room) (by decide) (fun _ => rfl) (va_cons (v_ix (v_ix (v_var (i := 0) fun _ => rfl) v_int) (v_ix (v_var (i := 1) fun _ => rfl) v_int)) (va_cons (v_var (i := 6) fun _ => rfl) va_nil))))) (v_var (i := 6) fun _ => rfl))))))
theorem sc_behind : FnScope ["world", "state", "plan", "stands", "rule", "stand", "shift"] ["world", "state", "plan"] (defScope s_behind) := ⟨rfl, rfl, rfl, by decide +kernel, rfl, by decide +kernel, by decide +kernel⟩
theorem w_behind {f : Addr} {fd : FuncData} {S S_stand_behind : FS} (Y : Mg mg) (F : FunD K "behind" "behind" (defArgs s_behind) (defBody s_behind) (defScope s_behind) [] [] f fd) (hm : mg "behind" = some (.ref f)) (G_stand_behind : JFn P w K mg base 1 "stand_behind" 3 S_stand_behind)
    (hS : ∀ ds M r M', S ds M r M' → ds.length = 3 ∧ b_behind S_stand_behind (startT 7 ds) M (poOf r M')) : JFn P w K mg base 2 "behind" 3 S := by
  refine fn_of F hm sc_behind rfl (F.bindsN fun _ _ _ _ _ _ us hl => match us, hl with | [_, _, _], _ => rfl) hS fun cdv A outer s H E B => ?_
  have c : Cok (U1 (cxOf (L2.CX P w) P w K mg base ["world", "state", "plan", "stands", "rule", "stand", "shift"] "behind" (defScope s_behind) f cdv A outer s H E)) := cok_of B rfl sc_behind.nd
  exact (vs_cons (vs_lc (i := 3) (own := [("rule", 4), ("stand", 5), ("shift", 6)]) c rfl rfl (sw_true rfl rfl rfl (by decide +kernel)) (vi_zip3 (fun _ => rfl) (fun _ => Y.n_zip) (v_ix (v_var (i := 0) fun _ => rfl) v_int) (v_ix (v_var (i := 1) fun _ => rfl) v_int) (v_var (i := 2) fun _ => rfl)) (blkOk_by (own := [("rule", 4), ("stand", 5), ("shift", 6)]) (N := ["world", "state", "plan", "stands", "rule", "stand", "shift"]) (sc := defScope s_behind) (by decide +kernel)) (vg_tup (cok_b c) (vgs_cons (vg_nm (i := 4) (cok_b c) fun _ => rfl) (vgs_cons (vg_nm (i := 5) (cok_b c) fun _ => rfl) (vgs_cons (vg_nm (i := 6) (cok_b c) fun _ => rfl) vgs_nil))) (glen_cons gex_nm (glen_cons gex_nm (glen_cons gex_nm glen_nil)))) (by decide) vts_nil (v_call0 (fun _ => G_stand_behind) (fun _ => B.room) (by decide) (fun _ => rfl) (va_cons (v_var (i := 4) fun _ => rfl) (va_cons (v_var (i := 5) fun _ => rfl) (va_cons (v_var (i := 6) fun _ => rfl) va_nil)))))
    (vs_one (vs_ret (v_tup (va_cons (v_mod (v_add (v_ix (v_var (i := 1) fun _ => rfl) v_int) v_int) (v_blt c_len (fun _ => rfl) (fun _ => Y.n_len) (by decide +kernel) (va_cons (v_ix (v_var (i := 0) fun _ => rfl) v_int) va_nil))) (va_cons (v_bltT c_tuple (fun _ => rfl) (fun _ => Y.n_tuple) (by decide +kernel) (va_cons (v_var (i := 3) fun _ => rfl) va_nil)) va_nil))))))
theorem sc_is_plan : FnScope ["world", "thing", "shift"] ["world", "thing"] (defScope s_is_plan) := ⟨rfl, rfl, rfl, by decide +kernel, rfl, by decide +kernel, by decide +kernel⟩
theorem w_is_plan {f : Addr} {fd : FuncData} {S S_is_whole : FS} (Y : Mg mg) (F : FunD K "is_plan" "is_plan" (defArgs s_is_plan) (defBody s_is_plan) (defScope s_is_plan) [] [] f fd) (hm : mg "is_plan" = some (.ref f)) (G_is_whole : JFn P w K mg base 1 "is_whole" 3 S_is_whole)
    (hS : ∀ ds M r M', S ds M r M' → ds.length = 2 ∧ b_is_plan S_is_whole (startT 3 ds) M (poOf r M')) : JFn P w K mg base 2 "is_plan" 2 S := by
  refine fn_of F hm sc_is_plan rfl (F.bindsN fun _ _ _ _ _ _ us hl => match us, hl with | [_, _], _ => rfl) hS fun cdv A outer s H E B => ?_
  have c : Cok (U1 (cxOf (L2.CX P w) P w K mg base ["world", "thing", "shift"] "is_plan" (defScope s_is_plan) f cdv A outer s H E)) := cok_of B rfl sc_is_plan.nd
  exact (vs_cons (vs_if (vb_w (vw_or (vb_not (vb_isi (fun _ => rfl) (fun _ => Y.n_isinstance) (v_var (i := 1) fun _ => rfl) (fun _ => rfl) (fun _ => Y.n_tuple) (by decide +kernel))) (vw_one (vb_ne c (v_blt c_len (fun _ => rfl) (fun _ => Y.n_len) (by decide +kernel) (va_cons (v_var (i := 1) fun _ => rfl) va_nil)) (v_blt c_len (fun _ => rfl) (fun _ => Y.n_len) (by decide +kernel) (va_cons (v_ix (v_var (i := 0) fun _ => rfl) v_int) va_nil))) (.inr rfl)))) (vs_one (vs_ret v_bl)) vs_nil)
    (vs_one (vs_ret (v_blt (c_all c) (fun _ => rfl) (fun _ => Y.n_all) (by decide +kernel) (va_cons (v_lc (own := [("shift", 2)]) c (vi_seq (v_var (i := 1) fun _ => rfl)) (fun _ => blkOk_by (own := [("shift", 2)]) (N := ["world", "thing", "shift"]) (sc := defScope s_is_plan) (by decide +kernel)) (vg_nm (i := 2) (cok_b c) fun _ => rfl) (by decide) vts_nil (v_call0 (fun _ => G_is_whole) (fun _ => B.room) (by decide) (fun _ => rfl) (va_cons (v_var (i := 2) fun _ => rfl) (va_cons v_int (va_cons (v_ix (v_var (i := 0) fun _ => rfl) v_int) va_nil))))) va_nil)))))
theorem sc_need_plans : FnScope ["world", "thing", "plan"] ["world", "thing"] (defScope s_need_plans) := ⟨rfl, rfl, rfl, by decide +kernel, rfl, by decide +kernel, by decide +kernel⟩
theorem w_need_plans {f : Addr} {fd : FuncData} {S S_is_plan : FS} (Y : Mg mg) (F : FunD K "need_plans" "need_plans" (defArgs s_need_plans) (defBody s_need_plans) (defScope s_need_plans) [] [] f fd) (hm : mg "need_plans" = some (.ref f)) (G_is_plan : JFn P w K mg base 2 "is_plan" 2 S_is_plan)
    (hS : ∀ ds M r M', S ds M r M' → ds.length = 2 ∧ b_need_plans S_is_plan (startT 3 ds) M (poOf r M')) : JFn P w K mg base 3 "need_plans" 2 S := by
  refine fn_of F hm sc_need_plans rfl (F.bindsN fun _ _ _ _ _ _ us hl => match us, hl with | [_, _], _ => rfl) hS fun cdv A outer s H E B => ?_
  have c : Cok (U1 (cxOf (L2.CX P w) P w K mg base ["world", "thing", "plan"] "need_plans" (defScope s_need_plans) f cdv A outer s H E)) := cok_of B rfl sc_need_plans.nd
  exact (vs_one (vs_if (vb_w (vw_or (vb_not (vb_isi (fun _ => rfl) (fun _ => Y.n_isinstance) (v_var (i := 1) fun _ => rfl) (fun _ => rfl) (fun _ => Y.n_list) (by decide +kernel))) (vw_one (vb_not (vb_val (v_blt (c_all c) (fun _ => rfl) (fun _ => Y.n_all) (by decide +kernel) (va_cons (v_lc (own := [("plan", 2)]) c (vi_seq (v_var (i := 1) fun _ => rfl)) (fun _ => blkOk_by (own := [("plan", 2)]) (N := ["world", "thing", "plan"]) (sc := defScope s_need_plans) (by decide +kernel)) (vg_nm (i := 2) (cok_b c) fun _ => rfl) (by decide) vts_nil (v_call0 (fun _ => G_is_plan) (fun _ => B.room) (by decide) (fun _ => rfl) (va_cons (v_var (i := 0) fun _ => rfl) (va_cons (v_var (i := 2) fun _ => rfl) va_nil)))) va_nil)))) (.inr rfl)))) (vs_one vs_dead) vs_nil))
theorem sc_walk : FnScope ["world", "state", "plans", "at", "plan"] ["world", "state", "plans"] (defScope s_walk) := ⟨rfl, rfl, rfl, by decide +kernel, rfl, by decide +kernel, by decide +kernel⟩
theorem w_walk {f : Addr} {fd : FuncData} {S S_behind S_plans_at : FS} (Y : Mg mg) (F : FunD K "walk" "walk" (defArgs s_walk) (defBody s_walk) (defScope s_walk) [] [] f fd) (hm : mg "walk" = some (.ref f)) (G_behind : JFn P w K mg base 2 "behind" 3 S_behind) (G_plans_at : JFn P w K mg base 2 "plans_at" 2 S_plans_at)
    (hS : ∀ ds M r M', S ds M r M' → ds.length = 3 ∧ b_walk S_behind S_plans_at (startT 5 ds) M (poOf r M')) : JFn P w K mg base 3 "walk" 3 S := by
  refine fn_of F hm sc_walk rfl (F.bindsN fun _ _ _ _ _ _ us hl => match us, hl with | [_, _, _], _ => rfl) hS fun cdv A outer s H E B => ?_
  have c : Cok (U1 (cxOf (L2.CX P w) P w K mg base ["world", "state", "plans", "at", "plan"] "walk" (defScope s_walk) f cdv A outer s H E)) := cok_of B rfl sc_walk.nd
  exact (vs_cons (vs_for c B.passes (vi_enum (fun _ => rfl) (fun _ => Y.n_enumerate) (v_var (i := 2) fun _ => rfl)) (vg_tup c (vgs_cons (vg_nm (i := 3) c fun _ => rfl) (vgs_cons (vg_nm (i := 4) c fun _ => rfl) vgs_nil)) (glen_cons gex_nm (glen_cons gex_nm glen_nil)))
    (vs_cons (vs_if (vb_nin c (v_var (i := 4) fun _ => rfl) (v_call (fun _ => G_plans_at) (fun _ => B.room) (by decide) (fun _ => rfl) (fun _ => B.takes) (va_cons (v_var (i := 0) fun _ => rfl) (va_cons (v_var (i := 1) fun _ => rfl) va_nil)))) (vs_one vs_dead) vs_nil)
    (vs_one (vs_asg (v_call (fun _ => G_behind) (fun _ => B.room) (by decide) (fun _ => rfl) (fun _ => B.takes) (va_cons (v_var (i := 0) fun _ => rfl) (va_cons (v_var (i := 1) fun _ => rfl) (va_cons (v_var (i := 4) fun _ => rfl) va_nil)))) (vg_nm (i := 1) c fun _ => rfl)))))
    (vs_one (vs_ret (v_var (i := 1) fun _ => rfl))))
theorem sc_state_behind : FnScope ["world", "plans"] ["world", "plans"] (defScope s_state_behind) := ⟨rfl, rfl, rfl, by decide +kernel, rfl, by decide +kernel, by decide +kernel⟩
theorem w_state_behind {f : Addr} {fd : FuncData} {S S_need_world S_need_plans S_walk S_begin : FS} (Y : Mg mg) (F : FunD K "state_behind" "state_behind" (defArgs s_state_behind) (defBody s_state_behind) (defScope s_state_behind) [] [] f fd) (hm : mg "state_behind" = some (.ref f)) (G_need_world : JFn P w K mg base 5 "need_world" 1 S_need_world) (G_need_plans : JFn P w K mg base 3 "need_plans" 2 S_need_plans) (G_walk : JFn P w K mg base 3 "walk" 3 S_walk) (G_begin : JFn P w K mg base 1 "begin" 1 S_begin)
    (hS : ∀ ds M r M', S ds M r M' → ds.length = 2 ∧ b_state_behind S_need_world S_need_plans S_walk S_begin (startT 2 ds) M (poOf r M')) : JFn P w K mg base 6 "state_behind" 2 S := by
  refine fn_of F hm sc_state_behind rfl (F.bindsN fun _ _ _ _ _ _ us hl => match us, hl with | [_, _], _ => rfl) hS fun cdv A outer s H E B => ?_
  have c : Cok (U1 (cxOf (L2.CX P w) P w K mg base ["world", "plans"] "state_behind" (defScope s_state_behind) f cdv A outer s H E)) := cok_of B rfl sc_state_behind.nd
  exact (vs_cons (vs_expr (v_call (fun _ => G_need_world) (fun _ => B.room) (by decide) (fun _ => rfl) (fun _ => B.takes) (va_cons (v_var (i := 0) fun _ => rfl) va_nil)))
    (vs_cons (vs_expr (v_call (fun _ => G_need_plans) (fun _ => B.room) (by decide) (fun _ => rfl) (fun _ => B.takes) (va_cons (v_var (i := 0) fun _ => rfl) (va_cons (v_var (i := 1) fun _ => rfl) va_nil))))
    (vs_one (vs_ret (v_call (fun _ => G_walk) (fun _ => B.room) (by decide) (fun _ => rfl) (fun _ => B.takes) (va_cons (v_var (i := 0) fun _ => rfl) (va_cons (v_call (fun _ => G_begin) (fun _ => B.room) (by decide) (fun _ => rfl) (fun _ => B.takes) (va_cons (v_var (i := 0) fun _ => rfl) va_nil)) (va_cons (v_var (i := 1) fun _ => rfl) va_nil))))))))
theorem sc_next_plans : FnScope ["world", "plans"] ["world", "plans"] (defScope s_next_plans) := ⟨rfl, rfl, rfl, by decide +kernel, rfl, by decide +kernel, by decide +kernel⟩
theorem w_next_plans {f : Addr} {fd : FuncData} {S S_plans_at S_state_behind : FS} (Y : Mg mg) (F : FunD K "next_plans" "next_plans" (defArgs s_next_plans) (defBody s_next_plans) (defScope s_next_plans) [] [] f fd) (hm : mg "next_plans" = some (.ref f)) (G_plans_at : JFn P w K mg base 2 "plans_at" 2 S_plans_at) (G_state_behind : JFn P w K mg base 6 "state_behind" 2 S_state_behind)
    (hS : ∀ ds M r M', S ds M r M' → ds.length = 2 ∧ b_next_plans S_plans_at S_state_behind (startT 2 ds) M (poOf r M')) : JFn P w K mg base 7 "next_plans" 2 S := by
  refine fn_of F hm sc_next_plans rfl (F.bindsN fun _ _ _ _ _ _ us hl => match us, hl with | [_, _], _ => rfl) hS fun cdv A outer s H E B => ?_
  have c : Cok (U1 (cxOf (L2.CX P w) P w K mg base ["world", "plans"] "next_plans" (defScope s_next_plans) f cdv A outer s H E)) := cok_of B rfl sc_next_plans.nd
  exact (vs_one (vs_ret (v_call (fun _ => G_plans_at) (fun _ => B.room) (by decide) (fun _ => rfl) (fun _ => B.takes) (va_cons (v_var (i := 0) fun _ => rfl) (va_cons (v_call (fun _ => G_state_behind) (fun _ => B.room) (by decide) (fun _ => rfl) (fun _ => B.takes) (va_cons (v_var (i := 0) fun _ => rfl) (va_cons (v_var (i := 1) fun _ => rfl) va_nil))) va_nil)))))
theorem sc__law_cell_at : FnScope ["script", "k"] ["script", "k"] (defScope s__law_cell_at) := ⟨rfl, rfl, rfl, by decide +kernel, rfl, by decide +kernel, by decide +kernel⟩
theorem w__law_cell_at {f : Addr} {fd : FuncData} {S  : FS} (Y : Mg mg) (F : FunD K "_law_cell_at" "_law_cell_at" (defArgs s__law_cell_at) (defBody s__law_cell_at) (defScope s__law_cell_at) [] [] f fd) (hm : mg "_law_cell_at" = some (.ref f))
    (hS : ∀ ds M r M', S ds M r M' → ds.length = 2 ∧ b__law_cell_at  (startT 2 ds) M (poOf r M')) : JFn P w K mg base 1 "_law_cell_at" 2 S := by
  refine fn_of F hm sc__law_cell_at rfl (F.bindsN fun _ _ _ _ _ _ us hl => match us, hl with | [_, _], _ => rfl) hS fun cdv A outer s H E B => ?_
  have c : Cok (U1 (cxOf (L2.CX P w) P w K mg base ["script", "k"] "_law_cell_at" (defScope s__law_cell_at) f cdv A outer s H E)) := cok_of B rfl sc__law_cell_at.nd
  exact (vs_cons (vs_if (vb_lt (v_var (i := 1) fun _ => rfl) (v_blt c_len (fun _ => rfl) (fun _ => Y.n_len) (by decide +kernel) (va_cons (v_var (i := 0) fun _ => rfl) va_nil))) (vs_one (vs_ret (v_ix (v_var (i := 0) fun _ => rfl) (v_var (i := 1) fun _ => rfl)))) vs_nil)
    (vs_cons (vs_if (vb_eq c (v_var (i := 0) fun _ => rfl) (v_lst va_nil)) (vs_one (vs_ret v_int)) vs_nil)
    (vs_one (vs_ret (v_add (v_mul (v_ix (v_var (i := 0) fun _ => rfl) (v_mod (v_var (i := 1) fun _ => rfl) (v_blt c_len (fun _ => rfl) (fun _ => Y.n_len) (by decide +kernel) (va_cons (v_var (i := 0) fun _ => rfl) va_nil)))) v_int) (v_var (i := 1) fun _ => rfl))))))
theorem sc__law_mixed : FnScope ["script", "k", "many", "drawn"] ["script", "k", "many"] (defScope s__law_mixed) := ⟨rfl, rfl, rfl, by decide +kernel, rfl, by decide +kernel, by decide +kernel⟩
theorem w__law_mixed {f : Addr} {fd : FuncData} {S S__law_cell_at : FS} (Y : Mg mg) (F : FunD K "_law_mixed" "_law_mixed" (defArgs s__law_mixed) (defBody s__law_mixed) (defScope s__law_mixed) [] [] f fd) (hm : mg "_law_mixed" = some (.ref f)) (G__law_cell_at : JFn P w K mg base 1 "_law_cell_at" 2 S__law_cell_at)
    (hS : ∀ ds M r M', S ds M r M' → ds.length = 3 ∧ b__law_mixed S__law_cell_at (startT 4 ds) M (poOf r M')) : JFn P w K mg base 2 "_law_mixed" 3 S := by
  refine fn_of F hm sc__law_mixed rfl (F.bindsN fun _ _ _ _ _ _ us hl => match us, hl with | [_, _, _], _ => rfl) hS fun cdv A outer s H E B => ?_
  have c : Cok (U1 (cxOf (L2.CX P w) P w K mg base ["script", "k", "many", "drawn"] "_law_mixed" (defScope s__law_mixed) f cdv A outer s H E)) := cok_of B rfl sc__law_mixed.nd
  exact (vs_cons (vs_asg (v_mod (v_mul (v_add (v_add (v_call (fun _ => G__law_cell_at) (fun _ => B.room) (by decide) (fun _ => rfl) (fun _ => B.takes) (va_cons (v_var (i := 0) fun _ => rfl) (va_cons (v_var (i := 1) fun _ => rfl) va_nil))) (v_mul v_int (v_var (i := 1) fun _ => rfl))) v_int) v_int) v_int) (vg_nm (i := 3) c fun _ => rfl))
    (vs_one (vs_ret (v_mod (v_mod (v_add (v_add (v_mul (v_var (i := 3) fun _ => rfl) (v_var (i := 3) fun _ => rfl)) (v_mul v_int (v_var (i := 3) fun _ => rfl))) (v_var (i := 1) fun _ => rfl)) v_int) (v_var (i := 2) fun _ => rfl)))))
theorem sc__law_draw : FnScope ["script", "town", "many"] ["script", "town", "many"] (defScope s__law_draw) := ⟨rfl, rfl, rfl, by decide +kernel, rfl, by decide +kernel, by decide +kernel⟩
theorem w__law_draw {f : Addr} {fd : FuncData} {S S__law_mixed : FS} (Y : Mg mg) (F : FunD K "_law_draw" "_law_draw" (defArgs s__law_draw) (defBody s__law_draw) (defScope s__law_draw) [] [] f fd) (hm : mg "_law_draw" = some (.ref f)) (G__law_mixed : JFn P w K mg base 2 "_law_mixed" 3 S__law_mixed)
    (hS : ∀ ds M r M', S ds M r M' → ds.length = 3 ∧ b__law_draw S__law_mixed (startT 3 ds) M (poOf r M')) : JFn P w K mg base 3 "_law_draw" 3 S := by
  refine fn_of F hm sc__law_draw rfl (F.bindsN fun _ _ _ _ _ _ us hl => match us, hl with | [_, _, _], _ => rfl) hS fun cdv A outer s H E B => ?_
  have c : Cok (U1 (cxOf (L2.CX P w) P w K mg base ["script", "town", "many"] "_law_draw" (defScope s__law_draw) f cdv A outer s H E)) := cok_of B rfl sc__law_draw.nd
  exact (vs_cons (vs_app (i := 1) rfl v_int)
    (vs_one (vs_ret (v_call (fun _ => G__law_mixed) (fun _ => B.room) (by decide) (fun _ => rfl) (fun _ => B.takes) (va_cons (v_var (i := 0) fun _ => rfl) (va_cons (v_blt c_len (fun _ => rfl) (fun _ => Y.n_len) (by decide +kernel) (va_cons (v_var (i := 1) fun _ => rfl) va_nil)) (va_cons (v_var (i := 2) fun _ => rfl) va_nil)))))))
theorem sc__law_pick : FnScope ["script", "town", "some"] ["script", "town", "some"] (defScope s__law_pick) := ⟨rfl, rfl, rfl, by decide +kernel, rfl, by decide +kernel, by decide +kernel⟩
theorem w__law_pick {f : Addr} {fd : FuncData} {S S__law_draw : FS} (Y : Mg mg) (F : FunD K "_law_pick" "_law_pick" (defArgs s__law_pick) (defBody s__law_pick) (defScope s__law_pick) [] [] f fd) (hm : mg "_law_pick" = some (.ref f)) (G__law_draw : JFn P w K mg base 3 "_law_draw" 3 S__law_draw)
    (hS : ∀ ds M r M', S ds M r M' → ds.length = 3 ∧ b__law_pick S__law_draw (startT 3 ds) M (poOf r M')) : JFn P w K mg base 4 "_law_pick" 3 S := by
  refine fn_of F hm sc__law_pick rfl (F.bindsN fun _ _ _ _ _ _ us hl => match us, hl with | [_, _, _], _ => rfl) hS fun cdv A outer s H E B => ?_
  have c : Cok (U1 (cxOf (L2.CX P w) P w K mg base ["script", "town", "some"] "_law_pick" (defScope s__law_pick) f cdv A outer s H E)) := cok_of B rfl sc__law_pick.nd
  exact (vs_one (vs_ret (v_ix (v_var (i := 2) fun _ => rfl) (v_call (fun _ => G__law_draw) (fun _ => B.room) (by decide) (fun _ => rfl) (fun _ => B.takes) (va_cons (v_var (i := 0) fun _ => rfl) (va_cons (v_var (i := 1) fun _ => rfl) (va_cons (v_blt c_len (fun _ => rfl) (fun _ => Y.n_len) (by decide +kernel) (va_cons (v_var (i := 2) fun _ => rfl) va_nil)) va_nil)))))))
theorem sc__law_rule : FnScope ["script", "town", "shifts", "long", "skills", "shift", "barred", "one", "other", "most"] ["script", "town", "shifts", "long"] (defScope s__law_rule) := ⟨rfl, rfl, rfl, by decide +kernel, rfl, by decide +kernel, by decide +kernel⟩
theorem w__law_rule {f : Addr} {fd : FuncData} {S S__law_draw : FS} (Y : Mg mg) (F : FunD K "_law_rule" "_law_rule" (defArgs s__law_rule) (defBody s__law_rule) (defScope s__law_rule) [] [] f fd) (hm : mg "_law_rule" = some (.ref f)) (G__law_draw : JFn P w K mg base 3 "_law_draw" 3 S__law_draw)
    (hS : ∀ ds M r M', S ds M r M' → ds.length = 4 ∧ b__law_rule S__law_draw (startT 10 ds) M (poOf r M')) : JFn P w K mg base 4 "_law_rule" 4 S := by
  refine fn_of F hm sc__law_rule rfl (F.bindsN fun _ _ _ _ _ _ us hl => match us, hl with | [_, _, _, _], _ => rfl) hS fun cdv A outer s H E B => ?_
  have c : Cok (U1 (cxOf (L2.CX P w) P w K mg base ["script", "town", "shifts", "long", "skills", "shift", "barred", "one", "other", "most"] "_law_rule" (defScope s__law_rule) f cdv A outer s H E)) := cok_of B rfl sc__law_rule.nd
  exact (vs_cons (vs_lc (i := 4) (own := [("shift", 5)]) c rfl rfl (sw_true rfl rfl rfl (by decide +kernel)) (vi_rng2 (fun _ => rfl) (fun _ => Y.n_range) v_int (v_add (v_var (i := 2) fun _ => rfl) v_int)) (blkOk_by (own := [("shift", 5)]) (N := ["script", "town", "shifts", "long", "skills", "shift", "barred", "one", "other", "most"]) (sc := defScope s__law_rule) (by decide +kernel)) (vg_nm (i := 5) (cok_b c) fun _ => rfl) (by decide) (vts_one (vb_gt (v_call0 (fun _ => G__law_draw) (fun _ => B.room) (by decide) (fun _ => rfl) (va_cons (v_var (i := 0) fun _ => rfl) (va_cons (v_var (i := 1) fun _ => rfl) (va_cons v_int va_nil)))) v_int)) (v_var (i := 5) fun _ => rfl))
    (vs_cons (vs_if (vb_eq c (v_var (i := 4) fun _ => rfl) (v_lst va_nil)) (vs_one (vs_asg (v_lst (va_cons (v_add v_int (v_call (fun _ => G__law_draw) (fun _ => B.room) (by decide) (fun _ => rfl) (fun _ => B.takes) (va_cons (v_var (i := 0) fun _ => rfl) (va_cons (v_var (i := 1) fun _ => rfl) (va_cons (v_var (i := 2) fun _ => rfl) va_nil))))) va_nil)) (vg_nm (i := 4) c fun _ => rfl))) vs_nil)
    (vs_cons (vs_new (i := 6) c rfl va_nil)
    (vs_cons (vs_for c B.passes (vi_rng2 (fun _ => rfl) (fun _ => Y.n_range) v_int (v_add (v_var (i := 2) fun _ => rfl) v_int)) (vg_nm (i := 7) c fun _ => rfl)
    (vs_one (vs_for c B.passes (vi_rng2 (fun _ => rfl) (fun _ => Y.n_range) v_int (v_add (v_var (i := 2) fun _ => rfl) v_int)) (vg_nm (i := 8) c fun _ => rfl)
    (vs_one (vs_if (vb_eq c (v_call (fun _ => G__law_draw) (fun _ => B.room) (by decide) (fun _ => rfl) (fun _ => B.takes) (va_cons (v_var (i := 0) fun _ => rfl) (va_cons (v_var (i := 1) fun _ => rfl) (va_cons v_int va_nil)))) v_int) (vs_one (vs_app (i := 6) rfl (v_tup (va_cons (v_var (i := 7) fun _ => rfl) (va_cons (v_var (i := 8) fun _ => rfl) va_nil))))) vs_nil)))))
    (vs_cons (vs_asg (v_add v_int (v_call (fun _ => G__law_draw) (fun _ => B.room) (by decide) (fun _ => rfl) (fun _ => B.takes) (va_cons (v_var (i := 0) fun _ => rfl) (va_cons (v_var (i := 1) fun _ => rfl) (va_cons (v_var (i := 3) fun _ => rfl) va_nil))))) (vg_nm (i := 9) c fun _ => rfl))
    (vs_one (vs_ret (v_tup (va_cons (v_bltT c_tuple (fun _ => rfl) (fun _ => Y.n_tuple) (by decide +kernel) (va_cons (v_var (i := 4) fun _ => rfl) va_nil)) (va_cons (v_var (i := 9) fun _ => rfl) (va_cons (v_add v_int (v_call (fun _ => G__law_draw) (fun _ => B.room) (by decide) (fun _ => rfl) (fun _ => B.takes) (va_cons (v_var (i := 0) fun _ => rfl) (va_cons (v_var (i := 1) fun _ => rfl) (va_cons (v_blt (c_min c) (fun _ => rfl) (fun _ => Y.n_min) (by decide +kernel) (va_cons v_int (va_cons (v_var (i := 3) fun _ => rfl) va_nil))) va_nil))))) (va_cons (v_bltT c_tuple (fun _ => rfl) (fun _ => Y.n_tuple) (by decide +kernel) (va_cons (v_var (i := 6) fun _ => rfl) va_nil)) va_nil))))))))))))
theorem sc__law_needs : FnScope ["script", "town", "shifts", "many", "days", "k", "day", "shift", "low"] ["script", "town", "shifts", "many"] (defScope s__law_needs) := ⟨rfl, rfl, rfl, by decide +kernel, rfl, by decide +kernel, by decide +kernel⟩
theorem w__law_needs {f : Addr} {fd : FuncData} {S S__law_draw S__law_pick : FS} (Y : Mg mg) (F : FunD K "_law_needs" "_law_needs" (defArgs s__law_needs) (defBody s__law_needs) (defScope s__law_needs) [] [] f fd) (hm : mg "_law_needs" = some (.ref f)) (G__law_draw : JFn P w K mg base 3 "_law_draw" 3 S__law_draw) (G__law_pick : JFn P w K mg base 4 "_law_pick" 3 S__law_pick)
    (hS : ∀ ds M r M', S ds M r M' → ds.length = 4 ∧ b__law_needs S__law_draw S__law_pick (startT 9 ds) M (poOf r M')) : JFn P w K mg base 5 "_law_needs" 4 S := by
  refine fn_of F hm sc__law_needs rfl (F.bindsN fun _ _ _ _ _ _ us hl => match us, hl with | [_, _, _, _], _ => rfl) hS fun cdv A outer s H E B => ?_
  have c : Cok (U1 (cxOf (L2.CX P w) P w K mg base ["script", "town", "shifts", "many", "days", "k", "day", "shift", "low"] "_law_needs" (defScope s__law_needs) f cdv A outer s H E)) := cok_of B rfl sc__law_needs.nd
  exact (vs_cons (vs_new (i := 4) c rfl va_nil)
    (vs_cons (vs_for c B.passes (vi_rng (fun _ => rfl) (fun _ => Y.n_range) (v_add v_int (v_call (fun _ => G__law_draw) (fun _ => B.room) (by decide) (fun _ => rfl) (fun _ => B.takes) (va_cons (v_var (i := 0) fun _ => rfl) (va_cons (v_var (i := 1) fun _ => rfl) (va_cons v_int va_nil)))))) (vg_nm (i := 5) c fun _ => rfl)
    (vs_cons (vs_new (i := 6) c rfl va_nil)
    (vs_cons (vs_for c B.passes (vi_rng (fun _ => rfl) (fun _ => Y.n_range) (v_var (i := 2) fun _ => rfl)) (vg_nm (i := 7) c fun _ => rfl)
    (vs_cons (vs_asg (v_call (fun _ => G__law_draw) (fun _ => B.room) (by decide) (fun _ => rfl) (fun _ => B.takes) (va_cons (v_var (i := 0) fun _ => rfl) (va_cons (v_var (i := 1) fun _ => rfl) (va_cons (v_call (fun _ => G__law_pick) (fun _ => B.room) (by decide) (fun _ => rfl) (fun _ => B.takes) (va_cons (v_var (i := 0) fun _ => rfl) (va_cons (v_var (i := 1) fun _ => rfl) (va_cons (v_lst (va_cons v_int (va_cons v_int (va_cons v_int (va_cons (v_add (v_var (i := 3) fun _ => rfl) v_int) va_nil))))) va_nil)))) va_nil)))) (vg_nm (i := 8) c fun _ => rfl))
    (vs_one (vs_app (i := 6) rfl (v_tup (va_cons (v_blt (c_min c) (fun _ => rfl) (fun _ => Y.n_min) (by decide +kernel) (va_cons (v_var (i := 8) fun _ => rfl) (va_cons v_int va_nil))) (va_cons (v_blt (c_min c) (fun _ => rfl) (fun _ => Y.n_min) (by decide +kernel) (va_cons v_int (va_cons (v_add (v_var (i := 8) fun _ => rfl) (v_call (fun _ => G__law_draw) (fun _ => B.room) (by decide) (fun _ => rfl) (fun _ => B.takes) (va_cons (v_var (i := 0) fun _ => rfl) (va_cons (v_var (i := 1) fun _ => rfl) (va_cons v_int va_nil))))) va_nil))) va_nil)))))))
    (vs_one (vs_app (i := 4) rfl (v_bltT c_tuple (fun _ => rfl) (fun _ => Y.n_tuple) (by decide +kernel) (va_cons (v_var (i := 6) fun _ => rfl) va_nil)))))))
    (vs_one (vs_ret (v_bltT c_tuple (fun _ => rfl) (fun _ => Y.n_tuple) (by decide +kernel) (va_cons (v_var (i := 4) fun _ => rfl) va_nil))))))
theorem sc__law_world : FnScope ["script", "town", "hands", "long", "many", "shifts", "rules", "k"] ["script", "town", "hands", "long"] (defScope s__law_world) := ⟨rfl, rfl, rfl, by decide +kernel, rfl, by decide +kernel, by decide +kernel⟩
theorem w__law_world {f : Addr} {fd : FuncData} {S S__law_draw S__law_needs S__law_pick S__law_rule : FS} (Y : Mg mg) (F : FunD K "_law_world" "_law_world" (defArgs s__law_world) (defBody s__law_world) (defScope s__law_world) [] [] f fd) (hm : mg "_law_world" = some (.ref f)) (G__law_draw : JFn P w K mg base 3 "_law_draw" 3 S__law_draw) (G__law_needs : JFn P w K mg base 5 "_law_needs" 4 S__law_needs) (G__law_pick : JFn P w K mg base 4 "_law_pick" 3 S__law_pick) (G__law_rule : JFn P w K mg base 4 "_law_rule" 4 S__law_rule)
    (hS : ∀ ds M r M', S ds M r M' → ds.length = 4 ∧ b__law_world S__law_draw S__law_needs S__law_pick S__law_rule (startT 8 ds) M (poOf r M')) : JFn P w K mg base 6 "_law_world" 4 S := by
  refine fn_of F hm sc__law_world rfl (F.bindsN fun _ _ _ _ _ _ us hl => match us, hl with | [_, _, _, _], _ => rfl) hS fun cdv A outer s H E B => ?_
  have c : Cok (U1 (cxOf (L2.CX P w) P w K mg base ["script", "town", "hands", "long", "many", "shifts", "rules", "k"] "_law_world" (defScope s__law_world) f cdv A outer s H E)) := cok_of B rfl sc__law_world.nd
  exact (vs_cons (vs_asg (v_add v_int (v_call (fun _ => G__law_draw) (fun _ => B.room) (by decide) (fun _ => rfl) (fun _ => B.takes) (va_cons (v_var (i := 0) fun _ => rfl) (va_cons (v_var (i := 1) fun _ => rfl) (va_cons (v_var (i := 2) fun _ => rfl) va_nil))))) (vg_nm (i := 4) c fun _ => rfl))
    (vs_cons (vs_asg (v_add v_int (v_call (fun _ => G__law_draw) (fun _ => B.room) (by decide) (fun _ => rfl) (fun _ => B.takes) (va_cons (v_var (i := 0) fun _ => rfl) (va_cons (v_var (i := 1) fun _ => rfl) (va_cons (v_call (fun _ => G__law_pick) (fun _ => B.room) (by decide) (fun _ => rfl) (fun _ => B.takes) (va_cons (v_var (i := 0) fun _ => rfl) (va_cons (v_var (i := 1) fun _ => rfl) (va_cons (v_lst (va_cons v_int (va_cons v_int (va_cons v_int (va_cons v_int va_nil))))) va_nil)))) va_nil))))) (vg_nm (i := 5) c fun _ => rfl))
    (vs_cons (vs_asg (v_bltT c_tuple (fun _ => rfl) (fun _ => Y.n_tuple) (by decide +kernel) (va_cons (v_lc (own := [("k", 7)]) c (vi_rng (fun _ => rfl) (fun _ => Y.n_range) (v_var (i := 4) fun _ => rfl)) (fun _ => blkOk_by (own := [("k", 7)]) (N := ["script", "town", "hands", "long", "many", "shifts", "rules", "k"]) (sc := defScope s__law_world) (by decide +kernel)) (vg_nm (i := 7) (cok_b c) fun _ => rfl) (by decide) vts_nil (v_call0 (fun _ => G__law_rule) (fun _ => B.room) (by decide) (fun _ => rfl) (va_cons (v_var (i := 0) fun _ => rfl) (va_cons (v_var (i := 1) fun _ => rfl) (va_cons (v_var (i := 5) fun _ => rfl) (va_cons (v_var (i := 3) fun _ => rfl) va_nil)))))) va_nil)) (vg_nm (i := 6) c fun _ => rfl))
    (vs_one (vs_ret (v_tup (va_cons (v_var (i := 5) fun _ => rfl) (va_cons (v_var (i := 6) fun _ => rfl) (va_cons (v_call (fun _ => G__law_needs) (fun _ => B.room) (by decide) (fun _ => rfl) (fun _ => B.takes) (va_cons (v_var (i := 0) fun _ => rfl) (va_cons (v_var (i := 1) fun _ => rfl) (va_cons (v_var (i := 5) fun _ => rfl) (va_cons (v_var (i := 4) fun _ => rfl) va_nil))))) va_nil)))))))))
theorem sc__law_kept : FnScope ["rule", "days", "at", "work", "shift", "one", "other"] ["rule", "days"] (defScope s__law_kept) := ⟨rfl, rfl, rfl, by decide +kernel, rfl, by decide +kernel, by decide +kernel⟩
theorem w__law_kept {f : Addr} {fd : FuncData} {S  : FS} (Y : Mg mg) (F : FunD K "_law_kept" "_law_kept" (defArgs s__law_kept) (defBody s__law_kept) (defScope s__law_kept) [] [] f fd) (hm : mg "_law_kept" = some (.ref f))
    (hS : ∀ ds M r M', S ds M r M' → ds.length = 2 ∧ b__law_kept  (startT 7 ds) M (poOf r M')) : JFn P w K mg base 1 "_law_kept" 2 S := by
  refine fn_of F hm sc__law_kept rfl (F.bindsN fun _ _ _ _ _ _ us hl => match us, hl with | [_, _], _ => rfl) hS fun cdv A outer s H E B => ?_
  have c : Cok (U1 (cxOf (L2.CX P w) P w K mg base ["rule", "days", "at", "work", "shift", "one", "other"] "_law_kept" (defScope s__law_kept) f cdv A outer s H E)) := cok_of B rfl sc__law_kept.nd
  exact (vs_cons (vs_for c B.passes (vi_rng (fun _ => rfl) (fun _ => Y.n_range) (v_sub (v_blt c_len (fun _ => rfl) (fun _ => Y.n_len) (by decide +kernel) (va_cons (v_var (i := 1) fun _ => rfl) va_nil)) (v_ix (v_var (i := 0) fun _ => rfl) v_int))) (vg_nm (i := 2) c fun _ => rfl)
    (vs_one (vs_if (vb_nin c v_int (v_sl (v_var (i := 1) fun _ => rfl) (vo_some (v_var (i := 2) fun _ => rfl)) (vo_some (v_add (v_add (v_var (i := 2) fun _ => rfl) (v_ix (v_var (i := 0) fun _ => rfl) v_int)) v_int)))) (vs_one (vs_ret v_bl)) vs_nil)))
    (vs_cons (vs_lc (i := 3) (own := [("at", 2), ("shift", 4)]) c rfl rfl (sw_true rfl rfl rfl (by decide +kernel)) (vi_enum (fun _ => rfl) (fun _ => Y.n_enumerate) (v_var (i := 1) fun _ => rfl)) (blkOk_by (own := [("at", 2), ("shift", 4)]) (N := ["rule", "days", "at", "work", "shift", "one", "other"]) (sc := defScope s__law_kept) (by decide +kernel)) (vg_tup (cok_b c) (vgs_cons (vg_nm (i := 2) (cok_b c) fun _ => rfl) (vgs_cons (vg_nm (i := 4) (cok_b c) fun _ => rfl) vgs_nil)) (glen_cons gex_nm (glen_cons gex_nm glen_nil))) (by decide) (vts_one (vb_ne (cok_b c) (v_var (i := 4) fun _ => rfl) v_int)) (v_var (i := 2) fun _ => rfl))
    (vs_cons (vs_for c B.passes (vi_zip (fun _ => rfl) (fun _ => Y.n_zip) (v_var (i := 3) fun _ => rfl) (v_sl (v_var (i := 3) fun _ => rfl) (vo_some v_int) vo_none)) (vg_tup c (vgs_cons (vg_nm (i := 5) c fun _ => rfl) (vgs_cons (vg_nm (i := 6) c fun _ => rfl) vgs_nil)) (glen_cons gex_nm (glen_cons gex_nm glen_nil)))
    (vs_cons (vs_if (vb_chain rfl rfl v_int (v_sub (v_var (i := 6) fun _ => rfl) (v_var (i := 5) fun _ => rfl)) (v_add (v_ix (v_var (i := 0) fun _ => rfl) v_int) v_int)) (vs_one (vs_ret v_bl)) vs_nil)
    (vs_one (vs_if (vb_w (vw_and (vb_eq c (v_sub (v_var (i := 6) fun _ => rfl) (v_var (i := 5) fun _ => rfl)) v_int) (vw_one (vb_in c (v_tup (va_cons (v_ix (v_var (i := 1) fun _ => rfl) (v_var (i := 5) fun _ => rfl)) (va_cons (v_ix (v_var (i := 1) fun _ => rfl) (v_var (i := 6) fun _ => rfl)) va_nil))) (v_ix (v_var (i := 0) fun _ => rfl) v_int)) (.inl rfl)))) (vs_one (vs_ret v_bl)) vs_nil))))
    (vs_one (vs_ret (v_blt (c_all c) (fun _ => rfl) (fun _ => Y.n_all) (by decide +kernel) (va_cons (v_lc (own := [("at", 2)]) c (vi_seq (v_var (i := 3) fun _ => rfl)) (fun _ => blkOk_by (own := [("at", 2)]) (N := ["rule", "days", "at", "work", "shift", "one", "other"]) (sc := defScope s__law_kept) (by decide +kernel)) (vg_nm (i := 2) (cok_b c) fun _ => rfl) (by decide) vts_nil (v_b (vb_in (cok_b c) (v_ix (v_var (i := 1) fun _ => rfl) (v_var (i := 2) fun _ => rfl)) (v_ix (v_var (i := 0) fun _ => rfl) v_int)))) va_nil)))))))
theorem sc__law_all_kept : FnScope ["world", "plans", "at", "plan", "shift", "low", "high", "k", "rule"] ["world", "plans"] (defScope s__law_all_kept) := ⟨rfl, rfl, rfl, by decide +kernel, rfl, by decide +kernel, by decide +kernel⟩
theorem w__law_all_kept {f : Addr} {fd : FuncData} {S S__law_kept : FS} (Y : Mg mg) (F : FunD K "_law_all_kept" "_law_all_kept" (defArgs s__law_all_kept) (defBody s__law_all_kept) (defScope s__law_all_kept) [] [] f fd) (hm : mg "_law_all_kept" = some (.ref f)) (G__law_kept : JFn P w K mg base 1 "_law_kept" 2 S__law_kept)
    (hS : ∀ ds M r M', S ds M r M' → ds.length = 2 ∧ b__law_all_kept S__law_kept (startT 9 ds) M (poOf r M')) : JFn P w K mg base 2 "_law_all_kept" 2 S := by
  refine fn_of F hm sc__law_all_kept rfl (F.bindsN fun _ _ _ _ _ _ us hl => match us, hl with | [_, _], _ => rfl) hS fun cdv A outer s H E B => ?_
  have c : Cok (U1 (cxOf (L2.CX P w) P w K mg base ["world", "plans", "at", "plan", "shift", "low", "high", "k", "rule"] "_law_all_kept" (defScope s__law_all_kept) f cdv A outer s H E)) := cok_of B rfl sc__law_all_kept.nd
  exact (vs_cons (vs_for c B.passes (vi_enum (fun _ => rfl) (fun _ => Y.n_enumerate) (v_var (i := 1) fun _ => rfl)) (vg_tup c (vgs_cons (vg_nm (i := 2) c fun _ => rfl) (vgs_cons (vg_nm (i := 3) c fun _ => rfl) vgs_nil)) (glen_cons gex_nm (glen_cons gex_nm glen_nil)))
    (vs_one (vs_for c B.passes (vi_enum (fun _ => rfl) (fun _ => Y.n_enumerate) (v_ix (v_ix (v_var (i := 0) fun _ => rfl) v_int) (v_mod (v_var (i := 2) fun _ => rfl) (v_blt c_len (fun _ => rfl) (fun _ => Y.n_len) (by decide +kernel) (va_cons (v_ix (v_var (i := 0) fun _ => rfl) v_int) va_nil))))) (vg_tup c (vgs_cons (vg_nm (i := 4) c fun _ => rfl) (vgs_cons (vg_tup c (vgs_cons (vg_nm (i := 5) c fun _ => rfl) (vgs_cons (vg_nm (i := 6) c fun _ => rfl) vgs_nil)) (glen_cons gex_nm (glen_cons gex_nm glen_nil))) vgs_nil)) (glen_cons gex_nm (glen_cons (gex_tup (gex_cons gex_nm (gex_cons gex_nm gex_nil))) glen_nil)))
    (vs_one (vs_if (vb_not (vb_chain rfl rfl (v_var (i := 5) fun _ => rfl) (v_cnt c (v_bltT c_list (fun _ => rfl) (fun _ => Y.n_list) (by decide +kernel) (va_cons (v_var (i := 3) fun _ => rfl) va_nil)) (v_add (v_var (i := 4) fun _ => rfl) v_int)) (v_var (i := 6) fun _ => rfl))) (vs_one (vs_ret v_bl)) vs_nil)))))
    (vs_one (vs_ret (v_blt (c_all c) (fun _ => rfl) (fun _ => Y.n_all) (by decide +kernel) (va_cons (v_lc (own := [("k", 7), ("rule", 8)]) c (vi_enum (fun _ => rfl) (fun _ => Y.n_enumerate) (v_ix (v_var (i := 0) fun _ => rfl) v_int)) (fun _ => blkOk_by (own := [("k", 7), ("rule", 8)]) (N := ["world", "plans", "at", "plan", "shift", "low", "high", "k", "rule"]) (sc := defScope s__law_all_kept) (by decide +kernel)) (vg_tup (cok_b c) (vgs_cons (vg_nm (i := 7) (cok_b c) fun _ => rfl) (vgs_cons (vg_nm (i := 8) (cok_b c) fun _ => rfl) vgs_nil)) (glen_cons gex_nm (glen_cons gex_nm glen_nil))) (by decide) vts_nil (v_call0 (fun _ => G__law_kept) (fun _ => B.room) (by decide) (fun _ => rfl) (va_cons (v_var (i := 8) fun _ => rfl) (va_cons (v_lc (own := [("plan", 3)]) (cok_b c) (vi_seq (v_var (i := 1) fun _ => rfl)) (fun _ => blkOk_by (own := [("plan", 3)]) (by kernel_rfl)) (vg_nm (i := 3) (cok_b (cok_b c)) fun _ => rfl) (by decide) vts_nil (v_ix (v_var (i := 3) fun _ => rfl) (v_var (i := 7) fun _ => rfl))) va_nil)))) va_nil)))))
theorem sc_law : FnScope ["script", "town", "world", "plans", "k", "some", "rows", "rule", "longer", "row", "shift"] ["script"] (defScope s_law) := ⟨rfl, rfl, rfl, by decide +kernel, rfl, by decide +kernel, by decide +kernel⟩
theorem w_law {f : Addr} {fd : FuncData} {S S__law_world S_next_plans S__law_draw S__law_all_kept S__law_pick S_state_behind : FS} (Y : Mg mg) (F : FunD K "law" "law" (defArgs s_law) (defBody s_law) (defScope s_law) [] [] f fd) (hm : mg "law" = some (.ref f)) (G__law_world : JFn P w K mg base 6 "_law_world" 4 S__law_world) (G_next_plans : JFn P w K mg base 7 "next_plans" 2 S_next_plans) (G__law_draw : JFn P w K mg base 3 "_law_draw" 3 S__law_draw) (G__law_all_kept : JFn P w K mg base 2 "_law_all_kept" 2 S__law_all_kept) (G__law_pick : JFn P w K mg base 4 "_law_pick" 3 S__law_pick) (G_state_behind : JFn P w K mg base 6 "state_behind" 2 S_state_behind)
    (hS : ∀ ds M r M', S ds M r M' → ds.length = 1 ∧ b_law S__law_world S_next_plans S__law_draw S__law_all_kept S__law_pick S_state_behind (startT 11 ds) M (poOf r M')) : FnOk P w K mg base (L2.CX P w) 8 f fd ["script"] (spJ K 1 S) := by
  refine fok_of F sc_law rfl hS fun cdv A outer s H E B => ?_
  have c : Cok (U1 (cxOf (L2.CX P w) P w K mg base ["script", "town", "world", "plans", "k", "some", "rows", "rule", "longer", "row", "shift"] "law" (defScope s_law) f cdv A outer s H E)) := cok_of B rfl sc_law.nd
  exact (vs_cons (vs_new (i := 1) c rfl va_nil)
    (vs_cons (vs_asg (v_call (fun _ => G__law_world) (fun _ => B.room) (by decide) (fun _ => rfl) (fun _ => B.takes) (va_cons (v_var (i := 0) fun _ => rfl) (va_cons (v_var (i := 1) fun _ => rfl) (va_cons v_int (va_cons v_int va_nil))))) (vg_nm (i := 2) c fun _ => rfl))
    (vs_cons (vs_new (i := 3) c rfl va_nil)
    (vs_cons (vs_for c B.passes (vi_rng (fun _ => rfl) (fun _ => Y.n_range) (v_call (fun _ => G__law_draw) (fun _ => B.room) (by decide) (fun _ => rfl) (fun _ => B.takes) (va_cons (v_var (i := 0) fun _ => rfl) (va_cons (v_var (i := 1) fun _ => rfl) (va_cons v_int va_nil))))) (vg_nm (i := 4) c fun _ => rfl)
    (vs_cons (vs_asg (v_call (fun _ => G_next_plans) (fun _ => B.room) (by decide) (fun _ => rfl) (fun _ => B.takes) (va_cons (v_var (i := 2) fun _ => rfl) (va_cons (v_var (i := 3) fun _ => rfl) va_nil))) (vg_nm (i := 5) c fun _ => rfl))
    (vs_one (vs_if (vb_ne c (v_var (i := 5) fun _ => rfl) (v_lst va_nil)) (vs_one (vs_app (i := 3) rfl (v_call (fun _ => G__law_pick) (fun _ => B.room) (by decide) (fun _ => rfl) (fun _ => B.takes) (va_cons (v_var (i := 0) fun _ => rfl) (va_cons (v_var (i := 1) fun _ => rfl) (va_cons (v_var (i := 5) fun _ => rfl) va_nil)))))) vs_nil))))
    (vs_cons (vs_if (vb_w (vw_or (vb_not (vb_val (v_call (fun _ => G__law_all_kept) (fun _ => B.room) (by decide) (fun _ => rfl) (fun _ => B.takes) (va_cons (v_var (i := 2) fun _ => rfl) (va_cons (v_var (i := 3) fun _ => rfl) va_nil))))) (vw_one (vb_ne c (v_blt c_len (fun _ => rfl) (fun _ => Y.n_len) (by decide +kernel) (va_cons (v_ix (v_call (fun _ => G_state_behind) (fun _ => B.room) (by decide) (fun _ => rfl) (fun _ => B.takes) (va_cons (v_var (i := 2) fun _ => rfl) (va_cons (v_var (i := 3) fun _ => rfl) va_nil))) v_int) va_nil)) (v_blt c_len (fun _ => rfl) (fun _ => Y.n_len) (by decide +kernel) (va_cons (v_ix (v_var (i := 2) fun _ => rfl) v_int) va_nil))) (.inr rfl)))) (vs_one (vs_ret v_bl)) vs_nil)
    (vs_cons (vs_asg (v_call (fun _ => G_next_plans) (fun _ => B.room) (by decide) (fun _ => rfl) (fun _ => B.takes) (va_cons (v_var (i := 2) fun _ => rfl) (va_cons (v_var (i := 3) fun _ => rfl) va_nil))) (vg_nm (i := 5) c fun _ => rfl))
    (vs_cons (vs_asg (v_lst (va_cons (v_tup va_nil) va_nil)) (vg_nm (i := 6) c fun _ => rfl))
    (vs_cons (vs_for c B.passes (vi_seq (v_ix (v_var (i := 2) fun _ => rfl) v_int)) (vg_nm (i := 7) c fun _ => rfl)
    (vs_cons (vs_new (i := 8) c rfl va_nil)
    (vs_cons (vs_for c B.passes (vi_seq (v_var (i := 6) fun _ => rfl)) (vg_nm (i := 9) c fun _ => rfl)
    (vs_one (vs_ext (i := 8) rfl (v_lc (own := [("shift", 10)]) c (vi_rng (fun _ => rfl) (fun _ => Y.n_range) (v_add (v_ix (v_var (i := 2) fun _ => rfl) v_int) v_int)) (fun _ => blkOk_by (own := [("shift", 10)]) (N := ["script", "town", "world", "plans", "k", "some", "rows", "rule", "longer", "row", "shift"]) (sc := defScope s_law) (by decide +kernel)) (vg_nm (i := 10) (cok_b c) fun _ => rfl) (by decide) vts_nil (v_add (v_var (i := 9) fun _ => rfl) (v_tup (va_cons (v_var (i := 10) fun _ => rfl) va_nil)))))))
    (vs_one (vs_move (i := 6) (j := 8) c rfl rfl)))))
    (vs_one (vs_ret (v_b (vb_eq c (v_var (i := 5) fun _ => rfl) (v_lc (own := [("row", 9)]) c (vi_seq (v_var (i := 6) fun _ => rfl)) (fun _ => blkOk_by (own := [("row", 9)]) (N := ["script", "town", "world", "plans", "k", "some", "rows", "rule", "longer", "row", "shift"]) (sc := defScope s_law) (by decide +kernel)) (vg_nm (i := 9) (cok_b c) fun _ => rfl) (by decide) (vts_one (vb_val (v_call0 (fun _ => G__law_all_kept) (fun _ => B.room) (by decide) (fun _ => rfl) (va_cons (v_var (i := 2) fun _ => rfl) (va_cons (v_add (v_var (i := 3) fun _ => rfl) (v_lst (va_cons (v_var (i := 9) fun _ => rfl) va_nil))) va_nil))))) (v_var (i := 9) fun _ => rfl))))))))))))))
end
end K3

set_option Elab.async false
set_option linter.all false
set_option maxRecDepth 100000
set_option maxHeartbeats 1000000
namespace J
open PySem PySem.Spec PyProof.Rows L2

/-! ### plain facts about data -/
mutual
def D.nice : D → Bool
  | .non => true
  | .int _ => true
  | .str _ => true
  | .tup xs => D.nices xs
  | .lst xs => D.nices xs
  | _ => false
def D.nices : List D → Bool
  | [] => true
  | x :: xs => D.nice x && D.nices xs
end
mutual
theorem D.nice_pure : ∀ d : D, d.nice = true → d.pure = true
  | .non, _ => rfl
  | .int _, _ => rfl
  | .str _, _ => rfl
  | .tup xs, h => D.nices_pure xs h
  | .lst xs, h => D.nices_pure xs h
theorem D.nices_pure : ∀ d : List D, D.nices d = true → D.pures d = true
  | [], _ => rfl
  | x :: xs, h => by
    have h1 : (D.nice x && D.nices xs) = true := h
    rw [Bool.and_eq_true] at h1
    show (D.pure x && D.pures xs) = true
    rw [D.nice_pure x h1.1, D.nices_pure xs h1.2]
    rfl
end
mutual
theorem eqv_nice : ∀ a b : D, a.nice = true → b.nice = true → (D.eqv a b = true ↔ a = b)
  | .non, b, _, hb => by cases b <;> simp_all [D.nice, D.eqv, D.py, PyData.eqv]
  | .int i, b, _, hb => by cases b <;> simp_all [D.nice, D.eqv, D.py, PyData.eqv]
  | .str x, b, _, hb => by cases b <;> simp_all [D.nice, D.eqv, D.py, PyData.eqv]
  | .tup xs, b, ha, hb => by
    cases b with
    | tup ys =>
      have h := eqvs_nice xs ys ha hb
      simp only [D.eqv, D.py, PyData.eqv, D.tup.injEq]
      exact h
    | _ => simp_all [D.nice, D.eqv, D.py, PyData.eqv]
  | .lst xs, b, ha, hb => by
    cases b with
    | lst ys =>
      have h := eqvs_nice xs ys ha hb
      simp only [D.eqv, D.py, PyData.eqv, D.lst.injEq]
      exact h
    | _ => simp_all [D.nice, D.eqv, D.py, PyData.eqv]
theorem eqvs_nice : ∀ a b : List D, D.nices a = true → D.nices b = true → (PyData.eqvAll (D.pys a) (D.pys b) = true ↔ a = b)
  | [], [], _, _ => by simp [D.pys, PyData.eqvAll]
  | [], y :: ys, _, _ => by simp [D.pys, PyData.eqvAll]
  | x :: xs, [], _, _ => by simp [D.pys, PyData.eqvAll]
  | x :: xs, y :: ys, ha, hb => by
    have h1 : (D.nice x && D.nices xs) = true := ha
    have h2 : (D.nice y && D.nices ys) = true := hb
    rw [Bool.and_eq_true] at h1 h2
    have e1 := eqv_nice x y h1.1 h2.1
    have e2 := eqvs_nice xs ys h1.2 h2.2
    simp only [D.eqv] at e1
    simp only [D.pys, PyData.eqvAll, Bool.and_eq_true, List.cons.injEq, e1, e2]
end
/-- nice and not deep -/
structure Nc (n : Nat) (d : D) : Prop where
  ni : d.nice = true
  dp : d.dep ≤ n
structure Ncs (n : Nat) (d : List D) : Prop where
  ni : D.nices d = true
  dp : D.deps d ≤ n
theorem nc_int {n : Nat} (i : Int) : Nc n (.int i) := ⟨rfl, Nat.zero_le _⟩
theorem nc_non {n : Nat} : Nc n .non := ⟨rfl, Nat.zero_le _⟩
theorem nc_str {n : Nat} (i : Str) : Nc n (.str i) := ⟨rfl, Nat.zero_le _⟩
theorem ncs_nil {n : Nat} : Ncs n [] := ⟨rfl, Nat.zero_le _⟩
theorem ncs_cons {n : Nat} {x : D} {xs : List D} (h : Nc n x) (hs : Ncs n xs) : Ncs n (x :: xs) := ⟨by show (D.nice x && D.nices xs) = true; rw [h.ni, hs.ni]; rfl, by
  show max x.py.depth (PyData.depthAll (D.pys xs)) ≤ n
  exact Nat.max_le.mpr ⟨h.dp, hs.dp⟩⟩
theorem nc_tup {n : Nat} {xs : List D} (h : Ncs n xs) : Nc (n + 1) (.tup xs) := ⟨h.ni, Nat.succ_le_succ h.dp⟩
theorem nc_lst {n : Nat} {xs : List D} (h : Ncs n xs) : Nc (n + 1) (.lst xs) := ⟨h.ni, Nat.succ_le_succ h.dp⟩
theorem ncs_map {n : Nat} {α : Type} {enc : α → D} (h : ∀ x, Nc n (enc x)) : ∀ xs : List α, Ncs n (xs.map enc)
  | [] => ncs_nil
  | x :: xs => ncs_cons (h x) (ncs_map h xs)
theorem Nc.mono {n m : Nat} {d : D} (h : Nc n d) (l : n ≤ m) : Nc m d := ⟨h.ni, Nat.le_trans h.dp l⟩
theorem Ncs.mono {n m : Nat} {d : List D} (h : Ncs n d) (l : n ≤ m) : Ncs m d := ⟨h.ni, Nat.le_trans h.dp l⟩
/-- an encoding -/
structure En {α : Type} (n : Nat) (enc : α → D) : Prop where
  nc : ∀ x, Nc n (enc x)
  inj : ∀ x y, enc x = enc y → x = y
theorem en_int {n : Nat} : En n D.int := ⟨fun i => nc_int i, fun x y h => by cases h; rfl⟩
theorem map_inj {α β : Type} {f : α → β} (h : ∀ x y, f x = f y → x = y) : ∀ xs ys : List α, xs.map f = ys.map f → xs = ys
  | [], [], _ => rfl
  | [], _ :: _, e => by cases e
  | _ :: _, [], e => by cases e
  | x :: xs, y :: ys, e => by
    simp only [List.map_cons, List.cons.injEq] at e
    rw [h _ _ e.1, map_inj h xs ys e.2]
theorem en_tup {α : Type} {n : Nat} {enc : α → D} (E : En n enc) : En (n + 1) (fun xs : List α => D.tup (xs.map enc)) := ⟨fun xs => nc_tup (ncs_map E.nc xs), fun x y h => by
  have e : x.map enc = y.map enc := by injection h
  exact map_inj E.inj _ _ e⟩
theorem en_lst {α : Type} {n : Nat} {enc : α → D} (E : En n enc) : En (n + 1) (fun xs : List α => D.lst (xs.map enc)) := ⟨fun xs => nc_lst (ncs_map E.nc xs), fun x y h => by
  have e : x.map enc = y.map enc := by injection h
  exact map_inj E.inj _ _ e⟩
theorem en_pair : En 1 pairD := ⟨fun p => nc_tup (ncs_cons (nc_int _) (ncs_cons (nc_int _) ncs_nil)), fun x y h => by
  unfold pairD at h
  simp only [D.tup.injEq, List.cons.injEq, D.int.injEq, and_true] at h
  exact Prod.ext h.1 h.2⟩
section
variable {α : Type} {n : Nat} {enc : α → D} {k : Bool → Prop}
theorem bool_of {b : Bool} {p : Prop} [Decidable p] (h : b = true ↔ p) : b = decide p := by
  cases b with
  | true => exact (decide_eq_true (h.mp rfl)).symm
  | false => exact (decide_eq_false fun z => by cases h.mpr z).symm
theorem eqv_en (E : En n enc) (x y : α) [Decidable (x = y)] : D.eqv (enc x) (enc y) = decide (x = y) :=
  bool_of ((eqv_nice _ _ (E.nc x).ni (E.nc y).ni).trans ⟨E.inj x y, fun h => by rw [h]⟩)
theorem oEq_en (E : En n enc) (hn : n ≤ 60) (x y : α) [Decidable (x = y)] : oEq (enc x) (enc y) k ↔ k (decide (x = y)) := by
  unfold oEq
  rw [eqv_en E]
  refine ⟨fun h => h.2.2.2, fun h => ⟨D.nice_pure _ (E.nc x).ni, D.nice_pure _ (E.nc y).ni, ?_, h⟩⟩
  exact Nat.le_trans (Nat.min_le_left _ _) (Nat.le_trans (E.nc x).dp hn)
theorem oNe_en (E : En n enc) (hn : n ≤ 60) (x y : α) [Decidable (x = y)] : oNe (enc x) (enc y) k ↔ k (!decide (x = y)) := by
  unfold oNe
  rw [eqv_en E]
  refine ⟨fun h => h.2.2.2, fun h => ⟨D.nice_pure _ (E.nc x).ni, D.nice_pure _ (E.nc y).ni, ?_, h⟩⟩
  exact Nat.le_trans (Nat.min_le_left _ _) (Nat.le_trans (E.nc x).dp hn)
theorem mem_en (E : En n enc) (x : α) (xs : List α) [Decidable (x ∈ xs)] : D.mem (enc x) (xs.map enc) = decide (x ∈ xs) := by
  unfold D.mem
  refine bool_of ?_
  rw [List.any_eq_true]
  constructor
  · rintro ⟨d, hd, h⟩
    obtain ⟨y, hy, rfl⟩ := List.mem_map.mp hd
    have e := E.inj _ _ ((eqv_nice _ _ (E.nc y).ni (E.nc x).ni).mp h)
    exact e ▸ hy
  · intro h
    exact ⟨enc x, List.mem_map.mpr ⟨x, h, rfl⟩, (eqv_nice _ _ (E.nc x).ni (E.nc x).ni).mpr rfl⟩
theorem oInT_en (E : En n enc) (hn : n ≤ 60) (x : α) (xs : List α) [Decidable (x ∈ xs)] : oIn (enc x) (.tup (xs.map enc)) k ↔ k (decide (x ∈ xs)) := by
  show (_ ∧ _ ∧ _ ∧ k (D.mem (enc x) (xs.map enc))) ↔ _
  rw [mem_en E]
  refine ⟨fun h => h.2.2.2, fun h => ⟨D.nice_pure _ (E.nc x).ni, D.nices_pure _ (ncs_map E.nc xs).ni, ?_, h⟩⟩
  exact Nat.le_trans (Nat.min_le_right _ _) (Nat.le_trans (E.nc x).dp hn)
theorem oInL_en (E : En n enc) (hn : n ≤ 60) (x : α) (xs : List α) [Decidable (x ∈ xs)] : oIn (enc x) (.lst (xs.map enc)) k ↔ k (decide (x ∈ xs)) := by
  show (_ ∧ _ ∧ _ ∧ k (D.mem (enc x) (xs.map enc))) ↔ _
  rw [mem_en E]
  refine ⟨fun h => h.2.2.2, fun h => ⟨D.nice_pure _ (E.nc x).ni, D.nices_pure _ (ncs_map E.nc xs).ni, ?_, h⟩⟩
  exact Nat.le_trans (Nat.min_le_right _ _) (Nat.le_trans (E.nc x).dp hn)
theorem oNinT_en (E : En n enc) (hn : n ≤ 60) (x : α) (xs : List α) [Decidable (x ∈ xs)] : oNin (enc x) (.tup (xs.map enc)) k ↔ k (!decide (x ∈ xs)) := by
  show (_ ∧ _ ∧ _ ∧ k (!D.mem (enc x) (xs.map enc))) ↔ _
  rw [mem_en E]
  refine ⟨fun h => h.2.2.2, fun h => ⟨D.nice_pure _ (E.nc x).ni, D.nices_pure _ (ncs_map E.nc xs).ni, ?_, h⟩⟩
  exact Nat.le_trans (Nat.min_le_right _ _) (Nat.le_trans (E.nc x).dp hn)
theorem oNinL_en (E : En n enc) (hn : n ≤ 60) (x : α) (xs : List α) [Decidable (x ∈ xs)] : oNin (enc x) (.lst (xs.map enc)) k ↔ k (!decide (x ∈ xs)) := by
  show (_ ∧ _ ∧ _ ∧ k (!D.mem (enc x) (xs.map enc))) ↔ _
  rw [mem_en E]
  refine ⟨fun h => h.2.2.2, fun h => ⟨D.nice_pure _ (E.nc x).ni, D.nices_pure _ (ncs_map E.nc xs).ni, ?_, h⟩⟩
  exact Nat.le_trans (Nat.min_le_right _ _) (Nat.le_trans (E.nc x).dp hn)
theorem cnt_en [DecidableEq α] (E : En n enc) (x : α) : ∀ xs : List α, D.cnt (enc x) (xs.map enc) = xs.count x
  | [] => rfl
  | y :: ys => by
    have ih := cnt_en E x ys
    unfold D.cnt at ih ⊢
    rw [List.map_cons, List.countP_cons, ih, List.count_cons, eqv_en E]
    simp only [beq_iff_eq, decide_eq_true_eq]
end
theorem oEq_int {a b : Int} {k : Bool → Prop} : oEq (.int a) (.int b) k ↔ k (decide (a = b)) := oEq_en (n := 0) en_int (by decide) a b
theorem oNe_int {a b : Int} {k : Bool → Prop} : oNe (.int a) (.int b) k ↔ k (!decide (a = b)) := oNe_en (n := 0) en_int (by decide) a b
theorem int_map_nil : (([] : List Int).map D.int) = [] := rfl

/-! ### subscripts, cuts -/
theorem atI_nat {α : Type} (xs : List α) (i : Nat) (h : i < xs.length) : atI xs (i : Int) = xs[i]? := by
  unfold atI ixN
  rw [if_pos (by omega), if_pos (by omega)]
  simp
theorem atI_0 {α : Type} (a : α) (xs : List α) : atI (a :: xs) 0 = some a := by
  have h := atI_nat (a :: xs) 0 (by simp)
  simpa using h
theorem atI_1 {α : Type} (a b : α) (xs : List α) : atI (a :: b :: xs) 1 = some b := by
  have h := atI_nat (a :: b :: xs) 1 (by simp)
  simpa using h
theorem atI_2 {α : Type} (a b c : α) (xs : List α) : atI (a :: b :: c :: xs) 2 = some c := by
  have h := atI_nat (a :: b :: c :: xs) 2 (by simp)
  simpa using h
theorem atI_3 {α : Type} (a b c d : α) (xs : List α) : atI (a :: b :: c :: d :: xs) 3 = some d := by
  have h := atI_nat (a :: b :: c :: d :: xs) 3 (by simp)
  simpa using h
theorem cutD_tail (ds : List D) : cutD ds (some 1) none = ds.tail := by
  unfold cutD
  have e : HT.sIx ds.length 0 (some 1) = min 1 ds.length := HT.sIx_nat _ _ 1
  rw [e, HT.sIx_none]
  cases ds with
  | nil => rfl
  | cons d r =>
    have z : min 1 (d :: r).length = 1 := by simp
    rw [z]
    simp
theorem cutD_nat (ds : List D) (a b : Nat) (hb : b ≤ ds.length) (ha : a ≤ b) : cutD ds (some (a : Int)) (some (b : Int)) = (ds.drop a).take (b - a) := by
  unfold cutD
  rw [HT.sIx_nat, HT.sIx_nat, Nat.min_eq_left (by omega), Nat.min_eq_left (by omega)]
theorem sizeLine_ge : 1000000 ≤ sizeLine := by rw [sizeLine_eq]; decide

/-! ### comprehensions -/
/-- one turn, by itself -/
def turnL (own : List Nat) (g : GT) (c : BT) (t : XT) (T : Tau) (d : D) (M : Mem) (R : Option D → Mem → Prop) : Prop :=
  g d (wipeT T own) fun T2 => c T2 M fun b M2 => (b = true → t T2 M2 (okQ fun y M3 => R (some y) M3)) ∧ (b = false → R none M2)
theorem lc_st {α σ : Type} {own : List Nat} {g : GT} {c : BT} {t : XT} {T : Tau} {enc : α → D} {C : Mem → Prop} (mem : σ → Mem) (step : σ → α → Option D × σ) (hC : ∀ s, C (mem s)) :
    ∀ (xs : List α) (s : σ) (Q : List D → Mem → Prop), (∀ x ∈ xs, ∀ s R, R (step s x).1 (mem (step s x).2) → turnL own g c t T (enc x) (mem s) R) →
      Q (xs.foldl (fun (p : List D × σ) x => (p.1 ++ (step p.2 x).1.toList, (step p.2 x).2)) ([], s)).1 (mem (xs.foldl (fun (p : List D × σ) x => (p.1 ++ (step p.2 x).1.toList, (step p.2 x).2)) ([], s)).2) →
      lcL C own g c t T (xs.map enc) (mem s) Q := by
  intro xs
  have gen : ∀ (xs : List α) (acc : List D) (s : σ), xs.foldl (fun (p : List D × σ) x => (p.1 ++ (step p.2 x).1.toList, (step p.2 x).2)) (acc, s) = (acc ++ (xs.foldl (fun (p : List D × σ) x => (p.1 ++ (step p.2 x).1.toList, (step p.2 x).2)) ([], s)).1, (xs.foldl (fun (p : List D × σ) x => (p.1 ++ (step p.2 x).1.toList, (step p.2 x).2)) ([], s)).2) := by
    intro xs
    induction xs with
    | nil => intro acc s; simp
    | cons x xs ih =>
      intro acc s
      rw [List.foldl_cons, List.foldl_cons, ih, ih ([] ++ _)]
      simp
  induction xs with
  | nil => exact fun s Q _ q => ⟨hC s, q⟩
  | cons x xs ih =>
    intro s Q h q
    refine ⟨hC s, h x (List.mem_cons_self ..) s (fun o M3 => match o with
      | some y => lcL C own g c t T (xs.map enc) M3 fun r M4 => Q (y :: r) M4
      | none => lcL C own g c t T (xs.map enc) M3 Q) ?_⟩
    rw [List.foldl_cons, gen] at q
    cases e : (step s x).1 with
    | none =>
      rw [e] at q
      simp only [Option.toList, List.append_nil, List.nil_append] at q
      exact ih _ Q (fun y hy => h y (List.mem_cons_of_mem _ hy)) q
    | some y =>
      rw [e] at q
      simp only [Option.toList, List.nil_append, List.singleton_append] at q
      exact ih _ _ (fun z hz => h z (List.mem_cons_of_mem _ hz)) q
theorem lc_pure {α : Type} {own : List Nat} {g : GT} {c : BT} {t : XT} {T : Tau} {enc : α → D} {C : Mem → Prop} {M : Mem} (f : α → Option D) (hC : C M) :
    ∀ (xs : List α) (Q : List D → Mem → Prop), (∀ x ∈ xs, ∀ R, R (f x) M → turnL own g c t T (enc x) M R) → Q (xs.filterMap f) M → lcL C own g c t T (xs.map enc) M Q := by
  intro xs
  induction xs with
  | nil => exact fun Q _ q => ⟨hC, q⟩
  | cons x xs ih =>
    intro Q h q
    refine ⟨hC, h x (List.mem_cons_self ..) (fun o M3 => match o with
      | some y => lcL C own g c t T (xs.map enc) M3 fun r M4 => Q (y :: r) M4
      | none => lcL C own g c t T (xs.map enc) M3 Q) ?_⟩
    rw [List.filterMap_cons] at q
    cases e : f x with
    | none =>
      rw [e] at q
      exact ih Q (fun y hy => h y (List.mem_cons_of_mem _ hy)) q
    | some y =>
      rw [e] at q
      exact ih _ (fun z hz => h z (List.mem_cons_of_mem _ hz)) q
theorem lc_map {α : Type} {own : List Nat} {g : GT} {t : XT} {T : Tau} {enc : α → D} {C : Mem → Prop} {M : Mem} (f : α → D) (hC : C M)
    (xs : List α) (Q : List D → Mem → Prop) (h : ∀ x ∈ xs, ∀ R : D → Mem → Prop, R (f x) M → g (enc x) (wipeT T own) fun T2 => t T2 M (okQ R)) (q : Q (xs.map f) M) : lcL C own g bTrue t T (xs.map enc) M Q := by
  refine lc_pure (fun x => some (f x)) hC xs Q (fun x hx R hR => ?_) (by rw [List.filterMap_eq_map']; exact q)
  unfold turnL
  have e : (fun T2 => bTrue T2 M fun b M2 => (b = true → t T2 M2 (okQ fun y M3 => R (some y) M3)) ∧ (b = false → R none M2)) = fun T2 => t T2 M (okQ fun y M3 => R (some y) M3) := by
    funext T2
    simp [bTrue]
  rw [e]
  exact h x hx (fun y M3 => R (some y) M3) hR
theorem fm_if {α β : Type} (b : α → Bool) (f : α → β) : ∀ xs : List α, (xs.filterMap fun s => if b s = true then none else some (f s)) = (xs.filter fun s => !b s).map f
  | [] => rfl
  | x :: xs => by
    have ih := fm_if b f xs
    cases h : b x <;> simp [List.filterMap_cons, List.filter_cons, h, ih]
theorem fm_if2 {α β : Type} (b : α → Bool) (f : α → β) : ∀ xs : List α, (xs.filterMap fun s => if b s = true then some (f s) else none) = (xs.filter b).map f
  | [] => rfl
  | x :: xs => by
    have ih := fm_if2 b f xs
    cases h : b x <;> simp [List.filterMap_cons, List.filter_cons, h, ih]
/-! ### loops -/
theorem for_st {α σ : Type} {enc : α → D} {C : Mem → Prop} {g : GT} {body : ST} {P : Po} (Inv : σ → Tau → Mem → Prop) (step : σ → α → σ) :
    ∀ (xs : List α), (∀ x ∈ xs, ∀ s T M (N : Tau → Mem → Prop), Inv s T M → (∀ T2 M2, Inv (step s x) T2 M2 → N T2 M2) → C M ∧ g (enc x) T fun T1 => body T1 M { P with nx := N, ct := N, bk := P.nx }) →
    ∀ s T M, (∀ T M, Inv (xs.foldl step s) T M → C M ∧ P.nx T M) → Inv s T M → forL C g body P (xs.map enc) T M := by
  intro xs
  induction xs with
  | nil => exact fun _ s T M he hi => he T M hi
  | cons x xs ih =>
    intro h s T M he hi
    exact h x (List.mem_cons_self ..) s T M _ hi fun T2 M2 h2 => ih (fun y hy => h y (List.mem_cons_of_mem _ hy)) (step s x) T2 M2 he h2
theorem for_pre {α : Type} {enc : α → D} {C : Mem → Prop} {g : GT} {body : ST} {P : Po} (Inv : List α → Tau → Mem → Prop) (xs : List α)
    (h : ∀ pre x post, xs = pre ++ x :: post → ∀ T M (N : Tau → Mem → Prop), Inv pre T M → (∀ T2 M2, Inv (pre ++ [x]) T2 M2 → N T2 M2) → C M ∧ g (enc x) T fun T1 => body T1 M { P with nx := N, ct := N, bk := P.nx })
    (he : ∀ T M, Inv xs T M → C M ∧ P.nx T M) {T : Tau} {M : Mem} (h0 : Inv [] T M) : forL C g body P (xs.map enc) T M := by
  have key : ∀ (post pre : List α), xs = pre ++ post → ∀ T M, Inv pre T M → forL C g body P (post.map enc) T M := by
    intro post
    induction post with
    | nil =>
      intro pre e T M hi
      rw [List.append_nil] at e
      subst e
      exact he T M hi
    | cons x post ih =>
      intro pre e T M hi
      exact h pre x post e T M _ hi fun T2 M2 h2 => ih (pre ++ [x]) (by rw [e]; simp) T2 M2 h2
  exact key xs [] rfl T M h0
theorem for_all {α : Type} {enc : α → D} {C : Mem → Prop} {g : GT} {body : ST} {P : Po} {M : Mem} (Ts : Tau → Prop) (p : α → Bool) (hC : C M) :
    ∀ (xs : List α), (∀ x ∈ xs, ∀ T (N : Tau → Mem → Prop), Ts T → (p x = true → ∀ T2, Ts T2 → N T2 M) → (p x = false → P.rt (.bl false) M) → g (enc x) T fun T1 => body T1 M { P with nx := N, ct := N, bk := P.nx }) →
    ∀ T, (xs.all p = true → ∀ T, Ts T → P.nx T M) → (xs.all p = false → P.rt (.bl false) M) → Ts T → forL C g body P (xs.map enc) T M := by
  intro xs
  induction xs with
  | nil => exact fun _ T h1 _ hT => ⟨hC, h1 rfl T hT⟩
  | cons x xs ih =>
    intro h T h1 h2 hT
    refine ⟨hC, h x (List.mem_cons_self ..) T _ hT (fun e T2 hT2 => ?_) fun e => h2 (by simp [e])⟩
    exact ih (fun y hy => h y (List.mem_cons_of_mem _ hy)) T2 (fun z => h1 (by simp [e, z])) (fun z => h2 (by simp [e]; simpa using z)) hT2
/-- d reads as the list ds -/
def Src (M : Mem) (d : D) (ds : List D) : Prop := d = .lst ds ∨ ∃ l, d = .cell l ∧ M.lookup l = some (.lst ds)
theorem Src.look {M : Mem} {d : D} {ds : List D} (h : Src M d ds) : look M d = .lst ds := by
  rcases h with rfl | ⟨l, rfl, h⟩
  · rfl
  · show (M.lookup l).getD _ = _
    rw [h]; rfl
theorem iSeq_src {i : Nat} {T : Tau} {M : Mem} {d : D} {ds : List D} {Q : List D → (Mem → Prop) → Mem → Prop} (hT : T[i]? = some (some d)) (h : Src M d ds) (q : ∀ C : Mem → Prop, C M → Q ds C M) : iSeq (eVar i) T M Q := by
  unfold iSeq eVar
  rw [hT]
  rcases h with rfl | ⟨l, rfl, h⟩
  · exact q _ trivial
  · show match M.lookup l with | some (.lst ds) => _ | _ => _
    rw [h]
    exact q _ h
theorem iEnum_src {i : Nat} {T : Tau} {M : Mem} {d : D} {ds : List D} {Q : List D → (Mem → Prop) → Mem → Prop} (hT : T[i]? = some (some d)) (h : Src M d ds) (q : ∀ C : Mem → Prop, C M → Q (enumD ds) C M) : iEnum (eVar i) T M Q := by
  unfold iEnum eVar
  rw [hT]
  have hl := h.look
  rcases h with rfl | ⟨l, rfl, h⟩
  · exact q _ rfl
  · show match J.look M (.cell l) with | .lst ds => _ | _ => _
    rw [hl]
    exact q _ hl
theorem enumD_map {α : Type} (enc : α → D) (xs : List α) : enumD (xs.map enc) = xs.zipIdx.map fun q => .tup [.int (q.2 : Nat), enc q.1] := by
  unfold enumD
  refine List.ext_getElem? fun i => ?_
  simp only [List.getElem?_mapIdx, List.getElem?_map, List.getElem?_zipIdx, Option.map_map]
  cases xs[i]? <;> simp
theorem zipD_map {α β : Type} (e1 : α → D) (e2 : β → D) (xs : List α) (ys : List β) : zipD (xs.map e1) (ys.map e2) = (xs.zip ys).map fun q => .tup [e1 q.1, e2 q.2] := by
  unfold zipD
  rw [List.zip_eq_zipWith, List.map_zipWith, List.zipWith_map]
theorem zip3D_map {α β γ : Type} (e1 : α → D) (e2 : β → D) (e3 : γ → D) (xs : List α) (ys : List β) (zs : List γ) : zip3D (xs.map e1) (ys.map e2) (zs.map e3) = (xs.zip (ys.zip zs)).map fun q => .tup [e1 q.1, e2 q.2.1, e3 q.2.2] := by
  unfold zip3D
  rw [List.zip_map, List.zipWith_map, List.zip_eq_zipWith (l₁ := xs), List.map_zipWith]
  rfl
theorem rngD_map (lo : Int) (n : Nat) : rngD lo n = (List.range n).map fun i => .int (lo + (i : Nat)) := rfl
theorem okQ_ok (f : D → Mem → Prop) (d : D) (M : Mem) : okQ f (.ok d) M = f d M := rfl
theorem okQ_exc (f : D → Mem → Prop) (x : Exc) (M : Mem) : okQ f (.exc x) M = False := rfl
theorem to_ok (d : D) (k : D → Prop) (kx : Exc → Prop) : (Res.ok d).to k kx = k d := rfl
theorem to_exc (d : Exc) (k : D → Prop) (kx : Exc → Prop) : (Res.exc d).to k kx = kx d := rfl
theorem ci1 : (((0 + 1 : Nat) : Int)) = 1 := rfl
theorem ci2 : (((0 + 1 + 1 : Nat) : Int)) = 2 := rfl
theorem ci3 : (((0 + 1 + 1 + 1 : Nat) : Int)) = 3 := rfl
theorem ci4 : (((0 + 1 + 1 + 1 + 1 : Nat) : Int)) = 4 := rfl
theorem sl0 : (0 ≤ sizeLine) = True := eq_true (Nat.zero_le _)
theorem sl1 : (0 + 1 ≤ sizeLine) = True := eq_true (Nat.le_trans (by decide) sizeLine_ge)
theorem sl2 : (0 + 1 + 1 ≤ sizeLine) = True := eq_true (Nat.le_trans (by decide) sizeLine_ge)
theorem sl3 : (0 + 1 + 1 + 1 ≤ sizeLine) = True := eq_true (Nat.le_trans (by decide) sizeLine_ge)
theorem sl4 : (0 + 1 + 1 + 1 + 1 ≤ sizeLine) = True := eq_true (Nat.le_trans (by decide) sizeLine_ge)
theorem sn1 : (1 ≤ sizeLine) = True := eq_true (Nat.le_trans (by decide) sizeLine_ge)
theorem sn2 : (2 ≤ sizeLine) = True := eq_true (Nat.le_trans (by decide) sizeLine_ge)
theorem sn3 : (3 ≤ sizeLine) = True := eq_true (Nat.le_trans (by decide) sizeLine_ge)
theorem sn4 : (4 ≤ sizeLine) = True := eq_true (Nat.le_trans (by decide) sizeLine_ge)
/-! ### memory -/
theorem lk_int (M : Mem) (i : Int) : look M (.int i) = .int i := rfl
theorem lk_bl (M : Mem) (i : Bool) : look M (.bl i) = .bl i := rfl
theorem lk_non (M : Mem) : look M .non = .non := rfl
theorem lk_str (M : Mem) (i : Str) : look M (.str i) = .str i := rfl
theorem lk_tup (M : Mem) (i : List D) : look M (.tup i) = .tup i := rfl
theorem lk_lst (M : Mem) (i : List D) : look M (.lst i) = .lst i := rfl
theorem lk_scr (M : Mem) (i : List Int) : look M (.scr i) = .scr i := rfl
theorem look_cell {M : Mem} {l : Addr} {d : D} (h : M.lookup l = some d) : look M (.cell l) = d := by
  show (M.lookup l).getD _ = d
  rw [h]; rfl
theorem put_put (M : Mem) (l : Addr) (a b : D) : put (put M l a) l b = put M l b := by
  unfold put
  rw [List.map_map]
  refine List.map_congr_left fun p _ => ?_
  simp only [Function.comp]
  split
  · simp
  · rfl
theorem put_cons_ne {M : Mem} {l l2 : Addr} {x d : D} (h : l2 ≠ l) : put ((l2, x) :: M) l d = (l2, x) :: put M l d := by
  show (if l2 = l then (l, d) else (l2, x)) :: put M l d = _
  rw [if_neg h]
theorem put_no {l : Addr} {d : D} : ∀ {M : Mem}, l ∉ M.map (·.1) → put M l d = M
  | [], _ => rfl
  | p :: M, h => by
    have h1 : p.1 ≠ l := fun z => h (by simp [z])
    have h2 : l ∉ M.map (·.1) := fun z => h (List.mem_cons_of_mem _ z)
    show (if p.1 = l then (l, d) else p) :: put M l d = p :: M
    rw [if_neg h1, put_no h2]
theorem put_cons_eq {M : Mem} {l : Addr} {x d : D} (h : l ∉ M.map (·.1)) : put ((l, x) :: M) l d = (l, d) :: M := by
  show (if l = l then (l, d) else (l, x)) :: put M l d = _
  rw [if_pos rfl, put_no h]
theorem del_no {l : Addr} {M : Mem} (h : l ∉ M.map (·.1)) : del M l = M := by
  unfold del
  refine List.filter_eq_self.mpr fun p hp => decide_eq_true fun z => h (List.mem_map.mpr ⟨p, hp, z⟩)
theorem del_cons_eq {l : Addr} {c : D} {M : Mem} (h : l ∉ M.map (·.1)) : del ((l, c) :: M) l = M := by
  have e : del ((l, c) :: M) l = del M l := by
    unfold del
    rw [List.filter_cons, if_neg (by simp)]
  rw [e, del_no h]
theorem lookup_cons_eq {M : Mem} {l : Addr} {d : D} : ((l, d) :: M).lookup l = some d := by simp [List.lookup]
theorem lookup_cons_ne {M : Mem} {l l2 : Addr} {d : D} (h : l ≠ l2) : ((l2, d) :: M).lookup l = M.lookup l := by
  have e : (l == l2) = false := beq_eq_false_iff_ne.mpr h
  show (match l == l2 with | true => some d | false => List.lookup l M) = _
  rw [e]
theorem lookup_put {M : Mem} {l : Addr} {d : D} (h : l ∈ M.map (·.1)) : (put M l d).lookup l = some d := by
  induction M with
  | nil => cases h
  | cons p M ih =>
    obtain ⟨a, x⟩ := p
    show List.lookup l ((if a = l then (l, d) else (a, x)) :: put M l d) = some d
    by_cases z : a = l
    · rw [if_pos z]; simp
    · rw [if_neg z]
      have h2 : l ∈ M.map (·.1) := by
        rcases List.mem_cons.mp h with e | e
        · exact absurd e.symm z
        · exact e
      rw [lookup_cons_ne (Ne.symm z)]
      exact ih h2
/-- the list at l has n zeros -/
def zeros (n : Nat) : List D := List.replicate n (.int 0)
def Tn (l : Addr) (M0 : Mem) (n : Nat) : Mem := put M0 l (.lst (zeros n))
theorem Tn_keys (l : Addr) (M0 : Mem) (n : Nat) : (Tn l M0 n).map (·.1) = M0.map (·.1) := by
  unfold Tn put
  rw [List.map_map]
  refine List.map_congr_left fun p _ => ?_
  simp only [Function.comp]
  split <;> simp_all
theorem Tn_cons {l l2 : Addr} {M0 : Mem} {n : Nat} {x : D} (hl : l ∈ M0.map (·.1)) (h : l2 ∉ (Tn l M0 n).map (·.1)) : (l2, x) :: Tn l M0 n = Tn l ((l2, x) :: M0) n := by
  rw [Tn_keys] at h
  have z : l2 ≠ l := fun e => h (e ▸ hl)
  unfold Tn
  rw [put_cons_ne z]
theorem Tn_put (l : Addr) (M0 : Mem) (n m : Nat) : put (Tn l M0 n) l (.lst (zeros m)) = Tn l M0 m := put_put _ _ _ _
theorem zeros_succ (n : Nat) : zeros n ++ [.int 0] = zeros (n + 1) := by
  unfold zeros
  rw [List.replicate_succ']
theorem Tn_lookup {l : Addr} {M0 : Mem} (h : l ∈ M0.map (·.1)) (n : Nat) : (Tn l M0 n).lookup l = some (.lst (zeros n)) := lookup_put h
theorem Tn_new {l : Addr} {M : Mem} (h : l ∉ M.map (·.1)) : (l, D.lst []) :: M = Tn l ((l, .lst []) :: M) 0 := by
  unfold Tn
  rw [put_cons_eq h]
  rfl

theorem put_comm {M : Mem} {l l2 : Addr} {a b : D} (h : l2 ≠ l) : put (put M l a) l2 b = put (put M l2 b) l a := by
  unfold put
  rw [List.map_map, List.map_map]
  refine List.map_congr_left fun p _ => ?_
  simp only [Function.comp]
  by_cases h1 : p.1 = l
  · have h2 : p.1 ≠ l2 := fun z => h (z ▸ h1)
    simp [h1, h2, Ne.symm h]
  · by_cases h2 : p.1 = l2
    · simp [h2, h, h1]
    · simp [h1, h2]
theorem Tn_put' {l l2 : Addr} {M : Mem} {n : Nat} {d : D} (h : l2 ≠ l) : put (Tn l M n) l2 d = Tn l (put M l2 d) n := put_comm h
theorem lookup_put_ne {M : Mem} {l l' : Addr} {d : D} (h : l' ≠ l) : (put M l d).lookup l' = M.lookup l' := put_lookup_ne h
theorem Tn_look {l l2 : Addr} {M : Mem} {n : Nat} (h : l2 ≠ l) : (Tn l M n).lookup l2 = M.lookup l2 := lookup_put_ne h
theorem mem_keys {M : Mem} {l : Addr} {d : D} (h : M.lookup l = some d) : l ∈ M.map (·.1) := List.mem_map.mpr ⟨_, lookup_mem h, rfl⟩
theorem sub_put {M0 M1 : Mem} {l : Addr} {d : D} (h : l ∉ M0.map (·.1)) (s : List.Sublist M0 M1) : List.Sublist M0 (put M1 l d) := by
  have e : put M0 l d = M0 := put_no h
  rw [← e]
  exact s.map _
theorem Tn_sub {l : Addr} {M0 M1 : Mem} {n : Nat} (s : List.Sublist M0 M1) : List.Sublist (Tn l M0 n) (Tn l M1 n) := s.map _
theorem Tn_cons' {l l2 : Addr} {M : Mem} {n : Nat} {x : D} (h : l2 ≠ l) : (l2, x) :: Tn l M n = Tn l ((l2, x) :: M) n := by
  unfold Tn
  rw [put_cons_ne h]
/-! ### draws -/
/-- from n, one by one -/
def stm {α β : Type} (step : Nat → α → List β × Nat) : List α → Nat → List β × Nat
  | [], n => ([], n)
  | x :: xs, n => ((step n x).1 ++ (stm step xs (step n x).2).1, (stm step xs (step n x).2).2)
theorem stm_snoc {α β : Type} (step : Nat → α → List β × Nat) : ∀ (xs : List α) (x : α) (n : Nat), stm step (xs ++ [x]) n = ((stm step xs n).1 ++ (step (stm step xs n).2 x).1, (step (stm step xs n).2 x).2)
  | [], x, n => by simp [stm]
  | y :: xs, x, n => by
    rw [List.cons_append]
    show ((step n y).1 ++ (stm step (xs ++ [x]) (step n y).2).1, (stm step (xs ++ [x]) (step n y).2).2) = _
    rw [stm_snoc step xs x]
    simp [stm]
theorem stm_le {α β : Type} (step : Nat → α → List β × Nat) (c : Nat) (h : ∀ n x, (step n x).2 ≤ n + c) : ∀ (xs : List α) (n : Nat), (stm step xs n).2 ≤ n + c * xs.length
  | [], n => by simp [stm]
  | x :: xs, n => by
    have h1 := stm_le step c h xs (step n x).2
    have h2 := h n x
    show (stm step xs (step n x).2).2 ≤ _
    rw [List.length_cons, Nat.mul_succ]
    omega
theorem stm_sub {α β : Type} (step : Nat → α → List β × Nat) (f : α → List β) (h : ∀ n x, List.Sublist (step n x).1 (f x)) : ∀ (xs : List α) (n : Nat), List.Sublist (stm step xs n).1 (xs.flatMap f)
  | [], n => by simp [stm]
  | x :: xs, n => by
    rw [List.flatMap_cons]
    exact (h n x).append (stm_sub step f h xs _)
theorem stm_len {α β : Type} (step : Nat → α → List β × Nat) (c : Nat) (h : ∀ n x, (step n x).1.length ≤ c) : ∀ (xs : List α) (n : Nat), (stm step xs n).1.length ≤ c * xs.length
  | [], n => by simp [stm]
  | x :: xs, n => by
    have h1 := stm_len step c h xs (step n x).2
    have h2 := h n x
    show ((step n x).1 ++ (stm step xs (step n x).2).1).length ≤ _
    rw [List.length_append, List.length_cons, Nat.mul_succ]
    omega
theorem stm_len1 {α β : Type} (step : Nat → α → List β × Nat) (h : ∀ n x, (step n x).1.length = 1) : ∀ (xs : List α) (n : Nat), (stm step xs n).1.length = xs.length
  | [], n => by simp [stm]
  | x :: xs, n => by
    have h1 := stm_len1 step h xs (step n x).2
    have h2 := h n x
    show ((step n x).1 ++ (stm step xs (step n x).2).1).length = _
    rw [List.length_append, List.length_cons]
    omega
theorem stm_gr {α β : Type} (step : Nat → α → List β × Nat) (h : ∀ n x, (step n x).1.length + n ≤ (step n x).2) : ∀ (xs : List α) (n : Nat), (stm step xs n).1.length + n ≤ (stm step xs n).2
  | [], n => by simp [stm]
  | x :: xs, n => by
    have h1 := stm_gr step h xs (step n x).2
    have h2 := h n x
    show ((step n x).1 ++ (stm step xs (step n x).2).1).length + n ≤ (stm step xs (step n x).2).2
    rw [List.length_append]
    omega
theorem stm_all {α β : Type} (step : Nat → α → List β × Nat) (p : β → Prop) (h : ∀ n x, ∀ y ∈ (step n x).1, p y) : ∀ (xs : List α) (n : Nat), ∀ y ∈ (stm step xs n).1, p y
  | [], n, y, hy => by simp [stm] at hy
  | x :: xs, n, y, hy => by
    rcases List.mem_append.mp (show y ∈ (step n x).1 ++ (stm step xs (step n x).2).1 from hy) with h1 | h1
    · exact h n x y h1
    · exact stm_all step p h xs _ y h1
/-- a comprehension that draws -/
theorem lc_stm {α β : Type} {own : List Nat} {g : GT} {c : BT} {t : XT} {T : Tau} {enc : α → D} {eo : β → D} {C : Mem → Prop} (mem : Nat → Mem) (step : Nat → α → List β × Nat) (k nmax : Nat) (hk : ∀ n x, (step n x).2 ≤ n + k) (hC : ∀ n, C (mem n)) :
    ∀ (xs : List α) (n : Nat) (Q : List D → Mem → Prop), n + k * xs.length ≤ nmax →
      (∀ x ∈ xs, ∀ n R, n + k ≤ nmax → ((∀ y, (step n x).1 = [y] → R (some (eo y)) (mem (step n x).2)) ∧ ((step n x).1 = [] → R none (mem (step n x).2)) → turnL own g c t T (enc x) (mem n) R)) →
      (∀ n x, (step n x).1.length ≤ 1) →
      Q ((stm step xs n).1.map eo) (mem (stm step xs n).2) → lcL C own g c t T (xs.map enc) (mem n) Q := by
  intro xs
  induction xs with
  | nil => exact fun n Q _ _ _ q => ⟨hC n, q⟩
  | cons x xs ih =>
    intro n Q hn h h1 q
    rw [List.length_cons, Nat.mul_succ] at hn
    refine ⟨hC n, h x (List.mem_cons_self ..) n (fun o M3 => match o with
      | some y => lcL C own g c t T (xs.map enc) M3 fun r M4 => Q (y :: r) M4
      | none => lcL C own g c t T (xs.map enc) M3 Q) (by omega) ⟨fun y e => ?_, fun e => ?_⟩⟩
    · have hq : Q (((step n x).1 ++ (stm step xs (step n x).2).1).map eo) (mem (stm step xs (step n x).2).2) := q
      rw [e] at hq
      have := hk n x
      exact ih _ _ (by omega) (fun z hz => h z (List.mem_cons_of_mem _ hz)) h1 hq
    · have hq : Q (((step n x).1 ++ (stm step xs (step n x).2).1).map eo) (mem (stm step xs (step n x).2).2) := q
      rw [e] at hq
      have := hk n x
      exact ih _ _ (by omega) (fun z hz => h z (List.mem_cons_of_mem _ hz)) h1 hq
end J

set_option Elab.async false
set_option linter.all false
set_option maxRecDepth 100000
set_option maxHeartbeats 1000000
namespace K3
open PySem J
open L2 (kitB atI)
theorem kb1 : kitB "int" "int" = some true := by decide +kernel
theorem kb2 : kitB "int" "bool" = some false := by decide +kernel
theorem kb3 : kitB "tuple" "tuple" = some true := by decide +kernel
theorem kb4 : kitB "list" "list" = some true := by decide +kernel
theorem kb5 : kitB "int" "tuple" = some false := by decide +kernel
theorem kb6 : kitB "bool" "int" = some true := by decide +kernel
theorem kb7 : kitB "bool" "bool" = some true := by decide +kernel
theorem kb8 : kitB "tuple" "list" = some false := by decide +kernel
theorem kb9 : kitB "list" "tuple" = some false := by decide +kernel
theorem sz (n : Nat) (h : n ≤ 1000000) : n ≤ sizeLine := Nat.le_trans h sizeLine_ge
theorem szl (n : Nat) (h : n < 1000000) : n < sizeLine := Nat.lt_of_lt_of_le h sizeLine_ge
structure Rule where
  skills : List Int
  most : Int
  least : Int
  barred : List (Int × Int)
structure Wd where
  shifts : Int
  rules : List Rule
  needs : List (List (Int × Int))
def encR (r : Rule) : D := .tup [.tup (r.skills.map D.int), .int r.most, .int r.least, .tup (r.barred.map pairD)]
def encN (n : List (Int × Int)) : D := .tup (n.map pairD)
def encW (w : Wd) : D := .tup [.int w.shifts, .tup (w.rules.map encR), .tup (w.needs.map encN)]
def encP (p : List Int) : D := .tup (p.map D.int)
structure Stt where
  day : Nat
  stands : List (Int × Int)
def encS (s : Stt) : D := .tup [.int (s.day : Int), .tup (s.stands.map pairD)]
theorem lk_P (M : Mem) (p : List Int) : look M (encP p) = encP p := rfl
theorem lk_S (M : Mem) (p : Stt) : look M (encS p) = encS p := rfl
theorem lk_W (M : Mem) (p : Wd) : look M (encW p) = encW p := rfl
theorem lk_R (M : Mem) (p : Rule) : look M (encR p) = encR p := rfl
theorem lk_N (M : Mem) (p : List (Int × Int)) : look M (encN p) = encN p := rfl
theorem lk_pr (M : Mem) (p : Int × Int) : look M (pairD p) = pairD p := rfl
structure Rok (sh : Int) (r : Rule) : Prop where
  ne : r.skills ≠ []
  inn : ∀ s ∈ r.skills, 1 ≤ s ∧ s ≤ sh
  up : r.skills.Pairwise (fun a b => ltI a b = true)
  len : r.skills.length ≤ 3
  most : 1 ≤ r.most ∧ r.most ≤ 4
  least : 1 ≤ r.least ∧ r.least ≤ 3
  bin : ∀ p ∈ r.barred, (1 ≤ p.1 ∧ p.1 ≤ sh) ∧ 1 ≤ p.2 ∧ p.2 ≤ sh
  bup : r.barred.Pairwise (fun a b => ltP a b = true)
  blen : r.barred.length ≤ 9
structure Nok (sh : Int) (n : List (Int × Int)) : Prop where
  len : (n.length : Int) = sh
  inn : ∀ p ∈ n, 0 ≤ p.1 ∧ p.1 ≤ p.2 ∧ p.2 ≤ 4
structure Wok (w : Wd) : Prop where
  sh : 1 ≤ w.shifts ∧ w.shifts ≤ 3
  rl : 1 ≤ w.rules.length ∧ w.rules.length ≤ 4
  rs : ∀ r ∈ w.rules, Rok w.shifts r
  nl : 1 ≤ w.needs.length ∧ w.needs.length ≤ 3
  ns : ∀ n ∈ w.needs, Nok w.shifts n
/-- what P wants of a value -/
theorem rt_po {d : D} {M M' : Mem} (h : List.Sublist M' M) : (poOf (.ok d) M').rt d M := ⟨rfl, h⟩

def S_is_whole : FS := fun ds M r M' => ∃ n lo hi : Int, ds = [.int n, .int lo, .int hi] ∧ r = .ok (.bl (decide (lo ≤ n) && decide (n ≤ hi))) ∧ M' = M
theorem cl_is_whole {n lo hi : Int} {M : Mem} {Q : Res → Mem → Prop} : (∃ r M2, S_is_whole [.int n, .int lo, .int hi] M r M2 ∧ Q r M2) ↔ Q (.ok (.bl (decide (lo ≤ n) && decide (n ≤ hi)))) M :=
  ⟨fun ⟨r, M2, ⟨n', lo', hi', e, e2, e3⟩, q⟩ => by cases e; subst e2 e3; exact q, fun q => ⟨_, _, ⟨n, lo, hi, rfl, rfl, rfl⟩, q⟩⟩
theorem cl_is_whole0 {n lo hi : Int} {M : Mem} {Q : D → Mem → Prop} : (∃ d M2, S_is_whole [.int n, .int lo, .int hi] M (.ok d) M2 ∧ Q d M2) ↔ Q (.bl (decide (lo ≤ n) && decide (n ≤ hi))) M :=
  ⟨fun ⟨r, M2, ⟨n', lo', hi', e, e2, e3⟩, q⟩ => by cases e; cases e2; subst e3; exact q, fun q => ⟨_, _, ⟨n, lo, hi, rfl, rfl, rfl⟩, q⟩⟩
theorem t_is_whole (n lo hi : Int) (M : Mem) (P : Po) (h : P.rt (.bl (decide (lo ≤ n) && decide (n ≤ hi))) M) : b_is_whole [some (.int n), some (.int lo), some (.int hi)] M P := by
  simp only [b_is_whole, eVar, eInt, eBl, eNon, eStr, eB, aNil, aCons, eTup, eLst, eBin, bCmp, oAdd, oSub, oMul, oMod, oFdiv, oLt, oLe, oGt, oGe, oEq_int, oNe_int, bChain, bNot, bVal, bAnd, bOr, bIsN, bNotN, eIfx, eIx, oNone, oSome, eSl, eCall, eCall0, eBlt, fLen, fTuple, fList, fInt, fMin, fMax, bIsi, gNm, gTup, gNil, gCons, iSeq, iRng, iRng2, sNil, sSeq, sPass, sDead, sExpr, sRet, sAsg, sIf, okQ_ok, okQ_exc, to_ok, to_exc, ci1, ci2, ci3, ci4, sl0, sl1, sl2, sl3, sl4, sn1, sn2, sn3, sn4, lk_P, lk_S, lk_W, lk_R, lk_N, lk_pr, lk_int, lk_bl, lk_non, lk_str, lk_tup, lk_lst, lk_scr, not_false_eq_true, true_implies, decide_true, decide_false, not_true_eq_false, Bool.false_and, Bool.true_and, Bool.and_true, Bool.and_false, List.set_cons_zero, List.set_cons_succ, List.getElem?_cons_zero, List.getElem?_cons_succ, wipeT, List.length_cons, List.length_nil, List.length_map, List.map_cons, List.map_nil, D.ty, kb1, kb2, kb3, kb4, kb5, kb6, kb7, kb8, kb9, atI_0, atI_1, atI_2, atI_3, true_and, and_true, or_false, false_or, or_true, true_or, false_and, and_false, or_self, and_self, Bool.not_true, Bool.not_false, Bool.not_not, reduceCtorEq, false_implies, forall_const, implies_true, decide_eq_true_eq, decide_eq_false_iff_not, Bool.and_eq_true, Bool.and_eq_false_iff, Bool.not_eq_true, Bool.not_eq_eq_eq_not, Bool.true_eq_false, Bool.false_eq_true, Option.map_some, Option.some.injEq, exists_eq_left, exists_eq_left']
  exact h

/-- are_skills, of skills -/
def S_are_skills : FS := fun ds M r M' => ∃ (ns : List Int) (sh : Int), ds = [.tup (ns.map D.int), .int sh] ∧ (ns ≠ [] ∧ (∀ s ∈ ns, 1 ≤ s ∧ s ≤ sh) ∧ ns.Pairwise (fun a b => ltI a b = true) ∧ ns.length < 64) ∧ r = .ok (.bl true) ∧ M' = M
theorem all_bl (xs : List Bool) : fAll [.lst (xs.map D.bl)] = some (.bl (xs.all id)) := by
  show (bls? (xs.map D.bl)).map _ = _
  rw [bls?_map]
  rfl
theorem t_are_skills (ns : List Int) (sh : Int) (hn : ns ≠ []) (hi : ∀ s ∈ ns, 1 ≤ s ∧ s ≤ sh) (hu : ns.Pairwise (fun a b => ltI a b = true)) (hl : ns.length < 64) (M : Mem) (P : Po) (h : P.rt (.bl true) M) : b_are_skills S_is_whole [some (.tup (ns.map D.int)), some (.int sh), none] M P := by
  have e0 : ∀ k : Bool → Prop, oEq (.tup (ns.map D.int)) (.tup []) k ↔ k (decide (ns = [])) := fun k => oEq_en (n := 1) (en_tup en_int) (by decide) ns []
  simp only [b_are_skills, eVar, eInt, eBl, eNon, eStr, eB, aNil, aCons, eTup, eLst, eBin, bCmp, oAdd, oSub, oMul, oMod, oFdiv, oLt, oLe, oGt, oGe, oEq_int, oNe_int, bChain, bNot, bVal, bAnd, bOr, bIsN, bNotN, eIfx, eIx, oNone, oSome, eSl, eCall, eCall0, eBlt, fLen, fTuple, fList, fInt, fMin, fMax, bIsi, gNm, gTup, gNil, gCons, iSeq, iRng, iRng2, sNil, sSeq, sPass, sDead, sExpr, sRet, sAsg, sIf, okQ_ok, okQ_exc, to_ok, to_exc, ci1, ci2, ci3, ci4, sl0, sl1, sl2, sl3, sl4, sn1, sn2, sn3, sn4, lk_P, lk_S, lk_W, lk_R, lk_N, lk_pr, lk_int, lk_bl, lk_non, lk_str, lk_tup, lk_lst, lk_scr, not_false_eq_true, true_implies, decide_true, decide_false, not_true_eq_false, Bool.false_and, Bool.true_and, Bool.and_true, Bool.and_false, List.set_cons_zero, List.set_cons_succ, List.getElem?_cons_zero, List.getElem?_cons_succ, wipeT, List.length_cons, List.length_nil, List.length_map, List.map_cons, List.map_nil, D.ty, kb1, kb2, kb3, kb4, kb5, kb6, kb7, kb8, kb9, atI_0, atI_1, atI_2, atI_3, true_and, and_true, or_false, false_or, or_true, true_or, false_and, and_false, or_self, and_self, Bool.not_true, Bool.not_false, Bool.not_not, reduceCtorEq, false_implies, forall_const, implies_true, decide_eq_true_eq, decide_eq_false_iff_not, Bool.and_eq_true, Bool.and_eq_false_iff, Bool.not_eq_true, Bool.not_eq_eq_eq_not, Bool.true_eq_false, Bool.false_eq_true, Option.map_some, Option.some.injEq, exists_eq_left, exists_eq_left', e0, eLc, hn]
  refine ⟨szl _ (by omega), lc_map (f := fun n : Int => .bl (decide (1 ≤ n) && decide (n ≤ sh))) trivial _ _ (fun x hx R hR => ?_) ?_⟩
  · simp only [eVar, eInt, eBl, eNon, eStr, eB, aNil, aCons, eTup, eLst, eBin, bCmp, oAdd, oSub, oMul, oMod, oFdiv, oLt, oLe, oGt, oGe, oEq_int, oNe_int, bChain, bNot, bVal, bAnd, bOr, bIsN, bNotN, eIfx, eIx, oNone, oSome, eSl, eCall, eCall0, eBlt, fLen, fTuple, fList, fInt, fMin, fMax, bIsi, gNm, gTup, gNil, gCons, iSeq, iRng, iRng2, sNil, sSeq, sPass, sDead, sExpr, sRet, sAsg, sIf, okQ_ok, okQ_exc, to_ok, to_exc, ci1, ci2, ci3, ci4, sl0, sl1, sl2, sl3, sl4, sn1, sn2, sn3, sn4, lk_P, lk_S, lk_W, lk_R, lk_N, lk_pr, lk_int, lk_bl, lk_non, lk_str, lk_tup, lk_lst, lk_scr, not_false_eq_true, true_implies, decide_true, decide_false, not_true_eq_false, Bool.false_and, Bool.true_and, Bool.and_true, Bool.and_false, List.set_cons_zero, List.set_cons_succ, List.getElem?_cons_zero, List.getElem?_cons_succ, wipeT, List.length_cons, List.length_nil, List.length_map, List.map_cons, List.map_nil, D.ty, kb1, kb2, kb3, kb4, kb5, kb6, kb7, kb8, kb9, atI_0, atI_1, atI_2, atI_3, true_and, and_true, or_false, false_or, or_true, true_or, false_and, and_false, or_self, and_self, Bool.not_true, Bool.not_false, Bool.not_not, reduceCtorEq, false_implies, forall_const, implies_true, decide_eq_true_eq, decide_eq_false_iff_not, Bool.and_eq_true, Bool.and_eq_false_iff, Bool.not_eq_true, Bool.not_eq_eq_eq_not, Bool.true_eq_false, Bool.false_eq_true, Option.map_some, Option.some.injEq, exists_eq_left, exists_eq_left', cl_is_whole0]
    exact hR
  · have ha : (ns.map fun n : Int => D.bl (decide (1 ≤ n) && decide (n ≤ sh))) = (ns.map fun _ => true).map D.bl := by
      rw [List.map_map]
      refine List.map_congr_left fun x hx => ?_
      have := hi x hx
      simp [this.1, this.2]
    have hr : rise ltI ns = ns := ((rise_self ltI_o ns).mpr hu).symm
    have e1 : ∀ k : Bool → Prop, oEq (.lst (ns.map D.int)) (.lst (ns.map D.int)) k ↔ k (decide (ns = ns)) := fun k => oEq_en (n := 1) (en_lst en_int) (by decide) ns ns
    rw [ha, all_bl]
    simp only [eVar, eInt, eBl, eNon, eStr, eB, aNil, aCons, eTup, eLst, eBin, bCmp, oAdd, oSub, oMul, oMod, oFdiv, oLt, oLe, oGt, oGe, oEq_int, oNe_int, bChain, bNot, bVal, bAnd, bOr, bIsN, bNotN, eIfx, eIx, oNone, oSome, eSl, eCall, eCall0, eBlt, fLen, fTuple, fList, fInt, fMin, fMax, bIsi, gNm, gTup, gNil, gCons, iSeq, iRng, iRng2, sNil, sSeq, sPass, sDead, sExpr, sRet, sAsg, sIf, okQ_ok, okQ_exc, to_ok, to_exc, ci1, ci2, ci3, ci4, sl0, sl1, sl2, sl3, sl4, sn1, sn2, sn3, sn4, lk_P, lk_S, lk_W, lk_R, lk_N, lk_pr, lk_int, lk_bl, lk_non, lk_str, lk_tup, lk_lst, lk_scr, not_false_eq_true, true_implies, decide_true, decide_false, not_true_eq_false, Bool.false_and, Bool.true_and, Bool.and_true, Bool.and_false, List.set_cons_zero, List.set_cons_succ, List.getElem?_cons_zero, List.getElem?_cons_succ, wipeT, List.length_cons, List.length_nil, List.length_map, List.map_cons, List.map_nil, D.ty, kb1, kb2, kb3, kb4, kb5, kb6, kb7, kb8, kb9, atI_0, atI_1, atI_2, atI_3, true_and, and_true, or_false, false_or, or_true, true_or, false_and, and_false, or_self, and_self, Bool.not_true, Bool.not_false, Bool.not_not, reduceCtorEq, false_implies, forall_const, implies_true, decide_eq_true_eq, decide_eq_false_iff_not, Bool.and_eq_true, Bool.and_eq_false_iff, Bool.not_eq_true, Bool.not_eq_eq_eq_not, Bool.true_eq_false, Bool.false_eq_true, Option.map_some, Option.some.injEq, exists_eq_left, exists_eq_left', eSS, ints?_map, hr, e1, hl, List.all_map]
    simp [h]

theorem cl_are_skills {ns : List Int} {sh : Int} {M : Mem} {Q : Res → Mem → Prop} (hn : ns ≠ []) (hi : ∀ s ∈ ns, 1 ≤ s ∧ s ≤ sh) (hu : ns.Pairwise (fun a b => ltI a b = true)) (hl : ns.length < 64) (q : Q (.ok (.bl true)) M) : ∃ r M2, S_are_skills [.tup (ns.map D.int), .int sh] M r M2 ∧ Q r M2 := ⟨_, _, ⟨ns, sh, rfl, ⟨hn, hi, hu, hl⟩, rfl, rfl⟩, q⟩
def S_are_barred : FS := fun ds M r M' => ∃ (ps : List (Int × Int)) (sh : Int), ds = [.tup (ps.map pairD), .int sh] ∧ (sh ≤ 3 ∧ (∀ p ∈ ps, (1 ≤ p.1 ∧ p.1 ≤ sh) ∧ 1 ≤ p.2 ∧ p.2 ≤ sh) ∧ ps.Pairwise (fun a b => ltP a b = true) ∧ ps.length < 64) ∧ r = .ok (.bl true) ∧ M' = M
theorem ints_pairs (p : Int × Int) (ps : List (Int × Int)) : ints? ((p :: ps).map pairD) = none := rfl
theorem eSS_pairs {ps : List (Int × Int)} {i : Nat} {T : Tau} {M : Mem} {Q : Res → Mem → Prop} (hT : T[i]? = some (some (.tup (ps.map pairD)))) (hl : ps.length < 64) (hb : ∀ p ∈ ps, (0 ≤ p.1 ∧ p.1 < 64) ∧ 0 ≤ p.2 ∧ p.2 < 64) (q : Q (.ok (.lst ((rise ltP ps).map pairD))) M) : eSS (eVar i) T M Q := by
  unfold eSS eVar
  rw [hT]
  cases ps with
  | nil => exact ⟨by simp, q⟩
  | cons p ps =>
    simp only [okQ, lk_tup, ints_pairs, pairs?_map]
    exact ⟨hl, hb, q⟩
theorem t_are_barred (ps : List (Int × Int)) (sh : Int) (h3 : sh ≤ 3) (hi : ∀ p ∈ ps, (1 ≤ p.1 ∧ p.1 ≤ sh) ∧ 1 ≤ p.2 ∧ p.2 ≤ sh) (hu : ps.Pairwise (fun a b => ltP a b = true)) (hl : ps.length < 64) (M : Mem) (P : Po) (h : P.rt (.bl true) M) : b_are_barred S_is_whole [some (.tup (ps.map pairD)), some (.int sh), none, none] M P := by
  simp only [b_are_barred, eVar, eInt, eBl, eNon, eStr, eB, aNil, aCons, eTup, eLst, eBin, bCmp, oAdd, oSub, oMul, oMod, oFdiv, oLt, oLe, oGt, oGe, oEq_int, oNe_int, bChain, bNot, bVal, bAnd, bOr, bIsN, bNotN, eIfx, eIx, oNone, oSome, eSl, eCall, eCall0, eBlt, fLen, fTuple, fList, fInt, fMin, fMax, bIsi, gNm, gTup, gNil, gCons, iSeq, iRng, iRng2, sNil, sSeq, sPass, sDead, sExpr, sRet, sAsg, sIf, okQ_ok, okQ_exc, to_ok, to_exc, ci1, ci2, ci3, ci4, sl0, sl1, sl2, sl3, sl4, sn1, sn2, sn3, sn4, lk_P, lk_S, lk_W, lk_R, lk_N, lk_pr, lk_int, lk_bl, lk_non, lk_str, lk_tup, lk_lst, lk_scr, not_false_eq_true, true_implies, decide_true, decide_false, not_true_eq_false, Bool.false_and, Bool.true_and, Bool.and_true, Bool.and_false, List.set_cons_zero, List.set_cons_succ, List.getElem?_cons_zero, List.getElem?_cons_succ, wipeT, List.length_cons, List.length_nil, List.length_map, List.map_cons, List.map_nil, D.ty, kb1, kb2, kb3, kb4, kb5, kb6, kb7, kb8, kb9, atI_0, atI_1, atI_2, atI_3, true_and, and_true, or_false, false_or, or_true, true_or, false_and, and_false, or_self, and_self, Bool.not_true, Bool.not_false, Bool.not_not, reduceCtorEq, false_implies, forall_const, implies_true, decide_eq_true_eq, decide_eq_false_iff_not, Bool.and_eq_true, Bool.and_eq_false_iff, Bool.not_eq_true, Bool.not_eq_eq_eq_not, Bool.true_eq_false, Bool.false_eq_true, Option.map_some, Option.some.injEq, exists_eq_left, exists_eq_left', sFor]
  refine for_all (fun T => ∃ o, T = [some (.tup (ps.map pairD)), some (.int sh), o, none]) (fun _ => true) trivial ps ?_ _ ?_ ?_ ⟨_, rfl⟩
  · rintro x hx T N ⟨o, rfl⟩ h1 _
    have hx := hi x hx
    simp only [eVar, eInt, eBl, eNon, eStr, eB, aNil, aCons, eTup, eLst, eBin, bCmp, oAdd, oSub, oMul, oMod, oFdiv, oLt, oLe, oGt, oGe, oEq_int, oNe_int, bChain, bNot, bVal, bAnd, bOr, bIsN, bNotN, eIfx, eIx, oNone, oSome, eSl, eCall, eCall0, eBlt, fLen, fTuple, fList, fInt, fMin, fMax, bIsi, gNm, gTup, gNil, gCons, iSeq, iRng, iRng2, sNil, sSeq, sPass, sDead, sExpr, sRet, sAsg, sIf, okQ_ok, okQ_exc, to_ok, to_exc, ci1, ci2, ci3, ci4, sl0, sl1, sl2, sl3, sl4, sn1, sn2, sn3, sn4, lk_P, lk_S, lk_W, lk_R, lk_N, lk_pr, lk_int, lk_bl, lk_non, lk_str, lk_tup, lk_lst, lk_scr, not_false_eq_true, true_implies, decide_true, decide_false, not_true_eq_false, Bool.false_and, Bool.true_and, Bool.and_true, Bool.and_false, List.set_cons_zero, List.set_cons_succ, List.getElem?_cons_zero, List.getElem?_cons_succ, wipeT, List.length_cons, List.length_nil, List.length_map, List.map_cons, List.map_nil, D.ty, kb1, kb2, kb3, kb4, kb5, kb6, kb7, kb8, kb9, atI_0, atI_1, atI_2, atI_3, true_and, and_true, or_false, false_or, or_true, true_or, false_and, and_false, or_self, and_self, Bool.not_true, Bool.not_false, Bool.not_not, reduceCtorEq, false_implies, forall_const, implies_true, decide_eq_true_eq, decide_eq_false_iff_not, Bool.and_eq_true, Bool.and_eq_false_iff, Bool.not_eq_true, Bool.not_eq_eq_eq_not, Bool.true_eq_false, Bool.false_eq_true, Option.map_some, Option.some.injEq, exists_eq_left, exists_eq_left', pairD, eLc]
    refine ⟨szl _ (by decide), lc_map (enc := D.int) (f := fun n : Int => .bl (decide (1 ≤ n) && decide (n ≤ sh))) trivial [x.1, x.2] _ (fun x hx R hR => ?_) ?_⟩
    · simp only [eVar, eInt, eBl, eNon, eStr, eB, aNil, aCons, eTup, eLst, eBin, bCmp, oAdd, oSub, oMul, oMod, oFdiv, oLt, oLe, oGt, oGe, oEq_int, oNe_int, bChain, bNot, bVal, bAnd, bOr, bIsN, bNotN, eIfx, eIx, oNone, oSome, eSl, eCall, eCall0, eBlt, fLen, fTuple, fList, fInt, fMin, fMax, bIsi, gNm, gTup, gNil, gCons, iSeq, iRng, iRng2, sNil, sSeq, sPass, sDead, sExpr, sRet, sAsg, sIf, okQ_ok, okQ_exc, to_ok, to_exc, ci1, ci2, ci3, ci4, sl0, sl1, sl2, sl3, sl4, sn1, sn2, sn3, sn4, lk_P, lk_S, lk_W, lk_R, lk_N, lk_pr, lk_int, lk_bl, lk_non, lk_str, lk_tup, lk_lst, lk_scr, not_false_eq_true, true_implies, decide_true, decide_false, not_true_eq_false, Bool.false_and, Bool.true_and, Bool.and_true, Bool.and_false, List.set_cons_zero, List.set_cons_succ, List.getElem?_cons_zero, List.getElem?_cons_succ, wipeT, List.length_cons, List.length_nil, List.length_map, List.map_cons, List.map_nil, D.ty, kb1, kb2, kb3, kb4, kb5, kb6, kb7, kb8, kb9, atI_0, atI_1, atI_2, atI_3, true_and, and_true, or_false, false_or, or_true, true_or, false_and, and_false, or_self, and_self, Bool.not_true, Bool.not_false, Bool.not_not, reduceCtorEq, false_implies, forall_const, implies_true, decide_eq_true_eq, decide_eq_false_iff_not, Bool.and_eq_true, Bool.and_eq_false_iff, Bool.not_eq_true, Bool.not_eq_eq_eq_not, Bool.true_eq_false, Bool.false_eq_true, Option.map_some, Option.some.injEq, exists_eq_left, exists_eq_left', cl_is_whole0]
      exact hR
    · have e : fAll [.lst ([x.1, x.2].map fun n : Int => D.bl (decide (1 ≤ n) && decide (n ≤ sh)))] = some (.bl true) := by simp [fAll, bls?, hx]
      rw [e]
      simp only [eVar, eInt, eBl, eNon, eStr, eB, aNil, aCons, eTup, eLst, eBin, bCmp, oAdd, oSub, oMul, oMod, oFdiv, oLt, oLe, oGt, oGe, oEq_int, oNe_int, bChain, bNot, bVal, bAnd, bOr, bIsN, bNotN, eIfx, eIx, oNone, oSome, eSl, eCall, eCall0, eBlt, fLen, fTuple, fList, fInt, fMin, fMax, bIsi, gNm, gTup, gNil, gCons, iSeq, iRng, iRng2, sNil, sSeq, sPass, sDead, sExpr, sRet, sAsg, sIf, okQ_ok, okQ_exc, to_ok, to_exc, ci1, ci2, ci3, ci4, sl0, sl1, sl2, sl3, sl4, sn1, sn2, sn3, sn4, lk_P, lk_S, lk_W, lk_R, lk_N, lk_pr, lk_int, lk_bl, lk_non, lk_str, lk_tup, lk_lst, lk_scr, not_false_eq_true, true_implies, decide_true, decide_false, not_true_eq_false, Bool.false_and, Bool.true_and, Bool.and_true, Bool.and_false, List.set_cons_zero, List.set_cons_succ, List.getElem?_cons_zero, List.getElem?_cons_succ, wipeT, List.length_cons, List.length_nil, List.length_map, List.map_cons, List.map_nil, D.ty, kb1, kb2, kb3, kb4, kb5, kb6, kb7, kb8, kb9, atI_0, atI_1, atI_2, atI_3, true_and, and_true, or_false, false_or, or_true, true_or, false_and, and_false, or_self, and_self, Bool.not_true, Bool.not_false, Bool.not_not, reduceCtorEq, false_implies, forall_const, implies_true, decide_eq_true_eq, decide_eq_false_iff_not, Bool.and_eq_true, Bool.and_eq_false_iff, Bool.not_eq_true, Bool.not_eq_eq_eq_not, Bool.true_eq_false, Bool.false_eq_true, Option.map_some, Option.some.injEq, exists_eq_left, exists_eq_left']
      exact h1 rfl _ ⟨_, rfl⟩
  · rintro - T ⟨o, rfl⟩
    have hr : rise ltP ps = ps := ((rise_self ltP_o ps).mpr hu).symm
    have e1 : ∀ k : Bool → Prop, oEq (.lst (ps.map pairD)) (.lst (ps.map pairD)) k ↔ k (decide (ps = ps)) := fun k => oEq_en (n := 2) (en_lst en_pair) (by decide) ps ps
    simp only [eVar, eInt, eBl, eNon, eStr, eB, aNil, aCons, eTup, eLst, eBin, bCmp, oAdd, oSub, oMul, oMod, oFdiv, oLt, oLe, oGt, oGe, oEq_int, oNe_int, bChain, bNot, bVal, bAnd, bOr, bIsN, bNotN, eIfx, eIx, oNone, oSome, eSl, eCall, eCall0, eBlt, fLen, fTuple, fList, fInt, fMin, fMax, bIsi, gNm, gTup, gNil, gCons, iSeq, iRng, iRng2, sNil, sSeq, sPass, sDead, sExpr, sRet, sAsg, sIf, okQ_ok, okQ_exc, to_ok, to_exc, ci1, ci2, ci3, ci4, sl0, sl1, sl2, sl3, sl4, sn1, sn2, sn3, sn4, lk_P, lk_S, lk_W, lk_R, lk_N, lk_pr, lk_int, lk_bl, lk_non, lk_str, lk_tup, lk_lst, lk_scr, not_false_eq_true, true_implies, decide_true, decide_false, not_true_eq_false, Bool.false_and, Bool.true_and, Bool.and_true, Bool.and_false, List.set_cons_zero, List.set_cons_succ, List.getElem?_cons_zero, List.getElem?_cons_succ, wipeT, List.length_cons, List.length_nil, List.length_map, List.map_cons, List.map_nil, D.ty, kb1, kb2, kb3, kb4, kb5, kb6, kb7, kb8, kb9, atI_0, atI_1, atI_2, atI_3, true_and, and_true, or_false, false_or, or_true, true_or, false_and, and_false, or_self, and_self, Bool.not_true, Bool.not_false, Bool.not_not, reduceCtorEq, false_implies, forall_const, implies_true, decide_eq_true_eq, decide_eq_false_iff_not, Bool.and_eq_true, Bool.and_eq_false_iff, Bool.not_eq_true, Bool.not_eq_eq_eq_not, Bool.true_eq_false, Bool.false_eq_true, Option.map_some, Option.some.injEq, exists_eq_left, exists_eq_left']
    refine eSS_pairs rfl hl (fun p hp => ?_) ?_
    · have := hi p hp
      omega
    · simp only [eVar, eInt, eBl, eNon, eStr, eB, aNil, aCons, eTup, eLst, eBin, bCmp, oAdd, oSub, oMul, oMod, oFdiv, oLt, oLe, oGt, oGe, oEq_int, oNe_int, bChain, bNot, bVal, bAnd, bOr, bIsN, bNotN, eIfx, eIx, oNone, oSome, eSl, eCall, eCall0, eBlt, fLen, fTuple, fList, fInt, fMin, fMax, bIsi, gNm, gTup, gNil, gCons, iSeq, iRng, iRng2, sNil, sSeq, sPass, sDead, sExpr, sRet, sAsg, sIf, okQ_ok, okQ_exc, to_ok, to_exc, ci1, ci2, ci3, ci4, sl0, sl1, sl2, sl3, sl4, sn1, sn2, sn3, sn4, lk_P, lk_S, lk_W, lk_R, lk_N, lk_pr, lk_int, lk_bl, lk_non, lk_str, lk_tup, lk_lst, lk_scr, not_false_eq_true, true_implies, decide_true, decide_false, not_true_eq_false, Bool.false_and, Bool.true_and, Bool.and_true, Bool.and_false, List.set_cons_zero, List.set_cons_succ, List.getElem?_cons_zero, List.getElem?_cons_succ, wipeT, List.length_cons, List.length_nil, List.length_map, List.map_cons, List.map_nil, D.ty, kb1, kb2, kb3, kb4, kb5, kb6, kb7, kb8, kb9, atI_0, atI_1, atI_2, atI_3, true_and, and_true, or_false, false_or, or_true, true_or, false_and, and_false, or_self, and_self, Bool.not_true, Bool.not_false, Bool.not_not, reduceCtorEq, false_implies, forall_const, implies_true, decide_eq_true_eq, decide_eq_false_iff_not, Bool.and_eq_true, Bool.and_eq_false_iff, Bool.not_eq_true, Bool.not_eq_eq_eq_not, Bool.true_eq_false, Bool.false_eq_true, Option.map_some, Option.some.injEq, exists_eq_left, exists_eq_left', hr, e1]
      exact h
  · intro z
    simp at z
theorem cl_are_barred {ps : List (Int × Int)} {sh : Int} {M : Mem} {Q : Res → Mem → Prop} (h3 : sh ≤ 3) (hi : ∀ p ∈ ps, (1 ≤ p.1 ∧ p.1 ≤ sh) ∧ 1 ≤ p.2 ∧ p.2 ≤ sh) (hu : ps.Pairwise (fun a b => ltP a b = true)) (hl : ps.length < 64) (q : Q (.ok (.bl true)) M) : ∃ r M2, S_are_barred [.tup (ps.map pairD), .int sh] M r M2 ∧ Q r M2 := ⟨_, _, ⟨ps, sh, rfl, ⟨h3, hi, hu, hl⟩, rfl, rfl⟩, q⟩
def S_is_rule : FS := fun ds M r M' => ∃ (u : Rule) (sh : Int), ds = [encR u, .int sh] ∧ (sh ≤ 3 ∧ Rok sh u) ∧ r = .ok (.bl true) ∧ M' = M
theorem t_is_rule (u : Rule) (sh : Int) (h3 : sh ≤ 3) (hu : Rok sh u) (M : Mem) (P : Po) (h : P.rt (.bl true) M) : b_is_rule S_are_barred S_are_skills S_is_whole [some (encR u), some (.int sh)] M P := by
  simp only [b_is_rule, encR, eVar, eInt, eBl, eNon, eStr, eB, aNil, aCons, eTup, eLst, eBin, bCmp, oAdd, oSub, oMul, oMod, oFdiv, oLt, oLe, oGt, oGe, oEq_int, oNe_int, bChain, bNot, bVal, bAnd, bOr, bIsN, bNotN, eIfx, eIx, oNone, oSome, eSl, eCall, eCall0, eBlt, fLen, fTuple, fList, fInt, fMin, fMax, bIsi, gNm, gTup, gNil, gCons, iSeq, iRng, iRng2, sNil, sSeq, sPass, sDead, sExpr, sRet, sAsg, sIf, okQ_ok, okQ_exc, to_ok, to_exc, ci1, ci2, ci3, ci4, sl0, sl1, sl2, sl3, sl4, sn1, sn2, sn3, sn4, lk_P, lk_S, lk_W, lk_R, lk_N, lk_pr, lk_int, lk_bl, lk_non, lk_str, lk_tup, lk_lst, lk_scr, not_false_eq_true, true_implies, decide_true, decide_false, not_true_eq_false, Bool.false_and, Bool.true_and, Bool.and_true, Bool.and_false, List.set_cons_zero, List.set_cons_succ, List.getElem?_cons_zero, List.getElem?_cons_succ, wipeT, List.length_cons, List.length_nil, List.length_map, List.map_cons, List.map_nil, D.ty, kb1, kb2, kb3, kb4, kb5, kb6, kb7, kb8, kb9, atI_0, atI_1, atI_2, atI_3, true_and, and_true, or_false, false_or, or_true, true_or, false_and, and_false, or_self, and_self, Bool.not_true, Bool.not_false, Bool.not_not, reduceCtorEq, false_implies, forall_const, implies_true, decide_eq_true_eq, decide_eq_false_iff_not, Bool.and_eq_true, Bool.and_eq_false_iff, Bool.not_eq_true, Bool.not_eq_eq_eq_not, Bool.true_eq_false, Bool.false_eq_true, Option.map_some, Option.some.injEq, exists_eq_left, exists_eq_left']
  have hm := hu.most
  have hl := hu.least
  refine cl_are_skills hu.ne hu.inn hu.up (by have := hu.len; omega) ?_
  simp only [eVar, eInt, eBl, eNon, eStr, eB, aNil, aCons, eTup, eLst, eBin, bCmp, oAdd, oSub, oMul, oMod, oFdiv, oLt, oLe, oGt, oGe, oEq_int, oNe_int, bChain, bNot, bVal, bAnd, bOr, bIsN, bNotN, eIfx, eIx, oNone, oSome, eSl, eCall, eCall0, eBlt, fLen, fTuple, fList, fInt, fMin, fMax, bIsi, gNm, gTup, gNil, gCons, iSeq, iRng, iRng2, sNil, sSeq, sPass, sDead, sExpr, sRet, sAsg, sIf, okQ_ok, okQ_exc, to_ok, to_exc, ci1, ci2, ci3, ci4, sl0, sl1, sl2, sl3, sl4, sn1, sn2, sn3, sn4, lk_P, lk_S, lk_W, lk_R, lk_N, lk_pr, lk_int, lk_bl, lk_non, lk_str, lk_tup, lk_lst, lk_scr, not_false_eq_true, true_implies, decide_true, decide_false, not_true_eq_false, Bool.false_and, Bool.true_and, Bool.and_true, Bool.and_false, List.set_cons_zero, List.set_cons_succ, List.getElem?_cons_zero, List.getElem?_cons_succ, wipeT, List.length_cons, List.length_nil, List.length_map, List.map_cons, List.map_nil, D.ty, kb1, kb2, kb3, kb4, kb5, kb6, kb7, kb8, kb9, atI_0, atI_1, atI_2, atI_3, true_and, and_true, or_false, false_or, or_true, true_or, false_and, and_false, or_self, and_self, Bool.not_true, Bool.not_false, Bool.not_not, reduceCtorEq, false_implies, forall_const, implies_true, decide_eq_true_eq, decide_eq_false_iff_not, Bool.and_eq_true, Bool.and_eq_false_iff, Bool.not_eq_true, Bool.not_eq_eq_eq_not, Bool.true_eq_false, Bool.false_eq_true, Option.map_some, Option.some.injEq, exists_eq_left, exists_eq_left', cl_is_whole, hm, hl]
  exact cl_are_barred h3 hu.bin hu.bup (by have := hu.blen; omega) h
theorem cl_is_rule0 {u : Rule} {sh : Int} {M : Mem} {Q : D → Mem → Prop} (h3 : sh ≤ 3) (hu : Rok sh u) (q : Q (.bl true) M) : ∃ d M2, S_is_rule [encR u, .int sh] M (.ok d) M2 ∧ Q d M2 := ⟨_, _, ⟨u, sh, rfl, ⟨h3, hu⟩, rfl, rfl⟩, q⟩
def S_is_need : FS := fun ds M r M' => ∃ (u : List (Int × Int)) (sh : Int), ds = [encN u, .int sh] ∧ Nok sh u ∧ r = .ok (.bl true) ∧ M' = M
theorem t_is_need (u : List (Int × Int)) (sh : Int) (hu : Nok sh u) (M : Mem) (P : Po) (h : P.rt (.bl true) M) : b_is_need S_is_whole [some (encN u), some (.int sh), none] M P := by
  simp only [b_is_need, encN, eVar, eInt, eBl, eNon, eStr, eB, aNil, aCons, eTup, eLst, eBin, bCmp, oAdd, oSub, oMul, oMod, oFdiv, oLt, oLe, oGt, oGe, oEq_int, oNe_int, bChain, bNot, bVal, bAnd, bOr, bIsN, bNotN, eIfx, eIx, oNone, oSome, eSl, eCall, eCall0, eBlt, fLen, fTuple, fList, fInt, fMin, fMax, bIsi, gNm, gTup, gNil, gCons, iSeq, iRng, iRng2, sNil, sSeq, sPass, sDead, sExpr, sRet, sAsg, sIf, okQ_ok, okQ_exc, to_ok, to_exc, ci1, ci2, ci3, ci4, sl0, sl1, sl2, sl3, sl4, sn1, sn2, sn3, sn4, lk_P, lk_S, lk_W, lk_R, lk_N, lk_pr, lk_int, lk_bl, lk_non, lk_str, lk_tup, lk_lst, lk_scr, not_false_eq_true, true_implies, decide_true, decide_false, not_true_eq_false, Bool.false_and, Bool.true_and, Bool.and_true, Bool.and_false, List.set_cons_zero, List.set_cons_succ, List.getElem?_cons_zero, List.getElem?_cons_succ, wipeT, List.length_cons, List.length_nil, List.length_map, List.map_cons, List.map_nil, D.ty, kb1, kb2, kb3, kb4, kb5, kb6, kb7, kb8, kb9, atI_0, atI_1, atI_2, atI_3, true_and, and_true, or_false, false_or, or_true, true_or, false_and, and_false, or_self, and_self, Bool.not_true, Bool.not_false, Bool.not_not, reduceCtorEq, false_implies, forall_const, implies_true, decide_eq_true_eq, decide_eq_false_iff_not, Bool.and_eq_true, Bool.and_eq_false_iff, Bool.not_eq_true, Bool.not_eq_eq_eq_not, Bool.true_eq_false, Bool.false_eq_true, Option.map_some, Option.some.injEq, exists_eq_left, exists_eq_left', hu.len, sFor]
  refine for_all (fun T => ∃ o, T = [some (.tup (u.map pairD)), some (.int sh), o]) (fun _ => true) trivial u ?_ _ ?_ ?_ ⟨_, rfl⟩
  · rintro x hx T N ⟨o, rfl⟩ h1 _
    have hx := hu.inn x hx
    have a1 : 0 ≤ x.2 := by omega
    simp only [eVar, eInt, eBl, eNon, eStr, eB, aNil, aCons, eTup, eLst, eBin, bCmp, oAdd, oSub, oMul, oMod, oFdiv, oLt, oLe, oGt, oGe, oEq_int, oNe_int, bChain, bNot, bVal, bAnd, bOr, bIsN, bNotN, eIfx, eIx, oNone, oSome, eSl, eCall, eCall0, eBlt, fLen, fTuple, fList, fInt, fMin, fMax, bIsi, gNm, gTup, gNil, gCons, iSeq, iRng, iRng2, sNil, sSeq, sPass, sDead, sExpr, sRet, sAsg, sIf, okQ_ok, okQ_exc, to_ok, to_exc, ci1, ci2, ci3, ci4, sl0, sl1, sl2, sl3, sl4, sn1, sn2, sn3, sn4, lk_P, lk_S, lk_W, lk_R, lk_N, lk_pr, lk_int, lk_bl, lk_non, lk_str, lk_tup, lk_lst, lk_scr, not_false_eq_true, true_implies, decide_true, decide_false, not_true_eq_false, Bool.false_and, Bool.true_and, Bool.and_true, Bool.and_false, List.set_cons_zero, List.set_cons_succ, List.getElem?_cons_zero, List.getElem?_cons_succ, wipeT, List.length_cons, List.length_nil, List.length_map, List.map_cons, List.map_nil, D.ty, kb1, kb2, kb3, kb4, kb5, kb6, kb7, kb8, kb9, atI_0, atI_1, atI_2, atI_3, true_and, and_true, or_false, false_or, or_true, true_or, false_and, and_false, or_self, and_self, Bool.not_true, Bool.not_false, Bool.not_not, reduceCtorEq, false_implies, forall_const, implies_true, decide_eq_true_eq, decide_eq_false_iff_not, Bool.and_eq_true, Bool.and_eq_false_iff, Bool.not_eq_true, Bool.not_eq_eq_eq_not, Bool.true_eq_false, Bool.false_eq_true, Option.map_some, Option.some.injEq, exists_eq_left, exists_eq_left', pairD, cl_is_whole, hx, a1]
    exact h1 rfl _ ⟨_, rfl⟩
  · rintro - T ⟨o, rfl⟩
    simp only [eVar, eInt, eBl, eNon, eStr, eB, aNil, aCons, eTup, eLst, eBin, bCmp, oAdd, oSub, oMul, oMod, oFdiv, oLt, oLe, oGt, oGe, oEq_int, oNe_int, bChain, bNot, bVal, bAnd, bOr, bIsN, bNotN, eIfx, eIx, oNone, oSome, eSl, eCall, eCall0, eBlt, fLen, fTuple, fList, fInt, fMin, fMax, bIsi, gNm, gTup, gNil, gCons, iSeq, iRng, iRng2, sNil, sSeq, sPass, sDead, sExpr, sRet, sAsg, sIf, okQ_ok, okQ_exc, to_ok, to_exc, ci1, ci2, ci3, ci4, sl0, sl1, sl2, sl3, sl4, sn1, sn2, sn3, sn4, lk_P, lk_S, lk_W, lk_R, lk_N, lk_pr, lk_int, lk_bl, lk_non, lk_str, lk_tup, lk_lst, lk_scr, not_false_eq_true, true_implies, decide_true, decide_false, not_true_eq_false, Bool.false_and, Bool.true_and, Bool.and_true, Bool.and_false, List.set_cons_zero, List.set_cons_succ, List.getElem?_cons_zero, List.getElem?_cons_succ, wipeT, List.length_cons, List.length_nil, List.length_map, List.map_cons, List.map_nil, D.ty, kb1, kb2, kb3, kb4, kb5, kb6, kb7, kb8, kb9, atI_0, atI_1, atI_2, atI_3, true_and, and_true, or_false, false_or, or_true, true_or, false_and, and_false, or_self, and_self, Bool.not_true, Bool.not_false, Bool.not_not, reduceCtorEq, false_implies, forall_const, implies_true, decide_eq_true_eq, decide_eq_false_iff_not, Bool.and_eq_true, Bool.and_eq_false_iff, Bool.not_eq_true, Bool.not_eq_eq_eq_not, Bool.true_eq_false, Bool.false_eq_true, Option.map_some, Option.some.injEq, exists_eq_left, exists_eq_left']
    exact h
  · intro z
    simp at z
def S_are_needs : FS := fun ds M r M' => ∃ (u : List (List (Int × Int))) (sh : Int), ds = [.tup (u.map encN), .int sh] ∧ ((1 ≤ u.length ∧ u.length ≤ 3) ∧ ∀ n ∈ u, Nok sh n) ∧ r = .ok (.bl true) ∧ M' = M
theorem all_true {α : Type} (xs : List α) (f : α → D) (h : ∀ x ∈ xs, f x = .bl true) : fAll [.lst (xs.map f)] = some (.bl true) := by
  have e : xs.map f = (xs.map fun _ => true).map D.bl := by
    rw [List.map_map]
    exact List.map_congr_left fun x hx => h x hx
  rw [e, all_bl]
  simp
theorem t_are_needs (u : List (List (Int × Int))) (sh : Int) (hl : 1 ≤ u.length ∧ u.length ≤ 3) (hu : ∀ n ∈ u, Nok sh n) (M : Mem) (P : Po) (h : P.rt (.bl true) M) : b_are_needs S_is_need [some (.tup (u.map encN)), some (.int sh), none] M P := by
  have a1 : (1 : Int) ≤ (u.length : Int) := by omega
  have a2 : (u.length : Int) ≤ 3 := by omega
  simp only [b_are_needs, eVar, eInt, eBl, eNon, eStr, eB, aNil, aCons, eTup, eLst, eBin, bCmp, oAdd, oSub, oMul, oMod, oFdiv, oLt, oLe, oGt, oGe, oEq_int, oNe_int, bChain, bNot, bVal, bAnd, bOr, bIsN, bNotN, eIfx, eIx, oNone, oSome, eSl, eCall, eCall0, eBlt, fLen, fTuple, fList, fInt, fMin, fMax, bIsi, gNm, gTup, gNil, gCons, iSeq, iRng, iRng2, sNil, sSeq, sPass, sDead, sExpr, sRet, sAsg, sIf, okQ_ok, okQ_exc, to_ok, to_exc, ci1, ci2, ci3, ci4, sl0, sl1, sl2, sl3, sl4, sn1, sn2, sn3, sn4, lk_P, lk_S, lk_W, lk_R, lk_N, lk_pr, lk_int, lk_bl, lk_non, lk_str, lk_tup, lk_lst, lk_scr, not_false_eq_true, true_implies, decide_true, decide_false, not_true_eq_false, Bool.false_and, Bool.true_and, Bool.and_true, Bool.and_false, List.set_cons_zero, List.set_cons_succ, List.getElem?_cons_zero, List.getElem?_cons_succ, wipeT, List.length_cons, List.length_nil, List.length_map, List.map_cons, List.map_nil, D.ty, kb1, kb2, kb3, kb4, kb5, kb6, kb7, kb8, kb9, atI_0, atI_1, atI_2, atI_3, true_and, and_true, or_false, false_or, or_true, true_or, false_and, and_false, or_self, and_self, Bool.not_true, Bool.not_false, Bool.not_not, reduceCtorEq, false_implies, forall_const, implies_true, decide_eq_true_eq, decide_eq_false_iff_not, Bool.and_eq_true, Bool.and_eq_false_iff, Bool.not_eq_true, Bool.not_eq_eq_eq_not, Bool.true_eq_false, Bool.false_eq_true, Option.map_some, Option.some.injEq, exists_eq_left, exists_eq_left', a1, a2, eLc]
  refine ⟨szl _ (by omega), lc_map (f := fun _ => .bl true) trivial u _ (fun x hx R hR => ?_) ?_⟩
  · simp only [eVar, eInt, eBl, eNon, eStr, eB, aNil, aCons, eTup, eLst, eBin, bCmp, oAdd, oSub, oMul, oMod, oFdiv, oLt, oLe, oGt, oGe, oEq_int, oNe_int, bChain, bNot, bVal, bAnd, bOr, bIsN, bNotN, eIfx, eIx, oNone, oSome, eSl, eCall, eCall0, eBlt, fLen, fTuple, fList, fInt, fMin, fMax, bIsi, gNm, gTup, gNil, gCons, iSeq, iRng, iRng2, sNil, sSeq, sPass, sDead, sExpr, sRet, sAsg, sIf, okQ_ok, okQ_exc, to_ok, to_exc, ci1, ci2, ci3, ci4, sl0, sl1, sl2, sl3, sl4, sn1, sn2, sn3, sn4, lk_P, lk_S, lk_W, lk_R, lk_N, lk_pr, lk_int, lk_bl, lk_non, lk_str, lk_tup, lk_lst, lk_scr, not_false_eq_true, true_implies, decide_true, decide_false, not_true_eq_false, Bool.false_and, Bool.true_and, Bool.and_true, Bool.and_false, List.set_cons_zero, List.set_cons_succ, List.getElem?_cons_zero, List.getElem?_cons_succ, wipeT, List.length_cons, List.length_nil, List.length_map, List.map_cons, List.map_nil, D.ty, kb1, kb2, kb3, kb4, kb5, kb6, kb7, kb8, kb9, atI_0, atI_1, atI_2, atI_3, true_and, and_true, or_false, false_or, or_true, true_or, false_and, and_false, or_self, and_self, Bool.not_true, Bool.not_false, Bool.not_not, reduceCtorEq, false_implies, forall_const, implies_true, decide_eq_true_eq, decide_eq_false_iff_not, Bool.and_eq_true, Bool.and_eq_false_iff, Bool.not_eq_true, Bool.not_eq_eq_eq_not, Bool.true_eq_false, Bool.false_eq_true, Option.map_some, Option.some.injEq, exists_eq_left, exists_eq_left']
    exact ⟨_, _, ⟨x, sh, rfl, hu x hx, rfl, rfl⟩, hR⟩
  · rw [all_true _ _ fun _ _ => rfl]
    exact h
def S_is_world : FS := fun ds M r M' => ∃ w : Wd, ds = [encW w] ∧ Wok w ∧ r = .ok (.bl true) ∧ M' = M
theorem t_is_world (w : Wd) (hw : Wok w) (M : Mem) (P : Po) (h : P.rt (.bl true) M) : b_is_world S_are_needs S_is_whole S_is_rule [some (encW w), none] M P := by
  have a1 : (1 : Int) ≤ (w.rules.length : Int) := by have := hw.rl; omega
  have a2 : (w.rules.length : Int) ≤ 4 := by have := hw.rl; omega
  simp only [b_is_world, encW, eVar, eInt, eBl, eNon, eStr, eB, aNil, aCons, eTup, eLst, eBin, bCmp, oAdd, oSub, oMul, oMod, oFdiv, oLt, oLe, oGt, oGe, oEq_int, oNe_int, bChain, bNot, bVal, bAnd, bOr, bIsN, bNotN, eIfx, eIx, oNone, oSome, eSl, eCall, eCall0, eBlt, fLen, fTuple, fList, fInt, fMin, fMax, bIsi, gNm, gTup, gNil, gCons, iSeq, iRng, iRng2, sNil, sSeq, sPass, sDead, sExpr, sRet, sAsg, sIf, okQ_ok, okQ_exc, to_ok, to_exc, ci1, ci2, ci3, ci4, sl0, sl1, sl2, sl3, sl4, sn1, sn2, sn3, sn4, lk_P, lk_S, lk_W, lk_R, lk_N, lk_pr, lk_int, lk_bl, lk_non, lk_str, lk_tup, lk_lst, lk_scr, not_false_eq_true, true_implies, decide_true, decide_false, not_true_eq_false, Bool.false_and, Bool.true_and, Bool.and_true, Bool.and_false, List.set_cons_zero, List.set_cons_succ, List.getElem?_cons_zero, List.getElem?_cons_succ, wipeT, List.length_cons, List.length_nil, List.length_map, List.map_cons, List.map_nil, D.ty, kb1, kb2, kb3, kb4, kb5, kb6, kb7, kb8, kb9, atI_0, atI_1, atI_2, atI_3, true_and, and_true, or_false, false_or, or_true, true_or, false_and, and_false, or_self, and_self, Bool.not_true, Bool.not_false, Bool.not_not, reduceCtorEq, false_implies, forall_const, implies_true, decide_eq_true_eq, decide_eq_false_iff_not, Bool.and_eq_true, Bool.and_eq_false_iff, Bool.not_eq_true, Bool.not_eq_eq_eq_not, Bool.true_eq_false, Bool.false_eq_true, Option.map_some, Option.some.injEq, exists_eq_left, exists_eq_left', cl_is_whole, hw.sh, a1, a2, eLc]
  refine ⟨szl _ (by have := hw.rl; omega), lc_map (f := fun _ => .bl true) trivial w.rules _ (fun x hx R hR => ?_) ?_⟩
  · simp only [eVar, eInt, eBl, eNon, eStr, eB, aNil, aCons, eTup, eLst, eBin, bCmp, oAdd, oSub, oMul, oMod, oFdiv, oLt, oLe, oGt, oGe, oEq_int, oNe_int, bChain, bNot, bVal, bAnd, bOr, bIsN, bNotN, eIfx, eIx, oNone, oSome, eSl, eCall, eCall0, eBlt, fLen, fTuple, fList, fInt, fMin, fMax, bIsi, gNm, gTup, gNil, gCons, iSeq, iRng, iRng2, sNil, sSeq, sPass, sDead, sExpr, sRet, sAsg, sIf, okQ_ok, okQ_exc, to_ok, to_exc, ci1, ci2, ci3, ci4, sl0, sl1, sl2, sl3, sl4, sn1, sn2, sn3, sn4, lk_P, lk_S, lk_W, lk_R, lk_N, lk_pr, lk_int, lk_bl, lk_non, lk_str, lk_tup, lk_lst, lk_scr, not_false_eq_true, true_implies, decide_true, decide_false, not_true_eq_false, Bool.false_and, Bool.true_and, Bool.and_true, Bool.and_false, List.set_cons_zero, List.set_cons_succ, List.getElem?_cons_zero, List.getElem?_cons_succ, wipeT, List.length_cons, List.length_nil, List.length_map, List.map_cons, List.map_nil, D.ty, kb1, kb2, kb3, kb4, kb5, kb6, kb7, kb8, kb9, atI_0, atI_1, atI_2, atI_3, true_and, and_true, or_false, false_or, or_true, true_or, false_and, and_false, or_self, and_self, Bool.not_true, Bool.not_false, Bool.not_not, reduceCtorEq, false_implies, forall_const, implies_true, decide_eq_true_eq, decide_eq_false_iff_not, Bool.and_eq_true, Bool.and_eq_false_iff, Bool.not_eq_true, Bool.not_eq_eq_eq_not, Bool.true_eq_false, Bool.false_eq_true, Option.map_some, Option.some.injEq, exists_eq_left, exists_eq_left']
    exact cl_is_rule0 hw.sh.2 (hw.rs x hx) hR
  · rw [all_true _ _ fun _ _ => rfl]
    simp only [eVar, eInt, eBl, eNon, eStr, eB, aNil, aCons, eTup, eLst, eBin, bCmp, oAdd, oSub, oMul, oMod, oFdiv, oLt, oLe, oGt, oGe, oEq_int, oNe_int, bChain, bNot, bVal, bAnd, bOr, bIsN, bNotN, eIfx, eIx, oNone, oSome, eSl, eCall, eCall0, eBlt, fLen, fTuple, fList, fInt, fMin, fMax, bIsi, gNm, gTup, gNil, gCons, iSeq, iRng, iRng2, sNil, sSeq, sPass, sDead, sExpr, sRet, sAsg, sIf, okQ_ok, okQ_exc, to_ok, to_exc, ci1, ci2, ci3, ci4, sl0, sl1, sl2, sl3, sl4, sn1, sn2, sn3, sn4, lk_P, lk_S, lk_W, lk_R, lk_N, lk_pr, lk_int, lk_bl, lk_non, lk_str, lk_tup, lk_lst, lk_scr, not_false_eq_true, true_implies, decide_true, decide_false, not_true_eq_false, Bool.false_and, Bool.true_and, Bool.and_true, Bool.and_false, List.set_cons_zero, List.set_cons_succ, List.getElem?_cons_zero, List.getElem?_cons_succ, wipeT, List.length_cons, List.length_nil, List.length_map, List.map_cons, List.map_nil, D.ty, kb1, kb2, kb3, kb4, kb5, kb6, kb7, kb8, kb9, atI_0, atI_1, atI_2, atI_3, true_and, and_true, or_false, false_or, or_true, true_or, false_and, and_false, or_self, and_self, Bool.not_true, Bool.not_false, Bool.not_not, reduceCtorEq, false_implies, forall_const, implies_true, decide_eq_true_eq, decide_eq_false_iff_not, Bool.and_eq_true, Bool.and_eq_false_iff, Bool.not_eq_true, Bool.not_eq_eq_eq_not, Bool.true_eq_false, Bool.false_eq_true, Option.map_some, Option.some.injEq, exists_eq_left, exists_eq_left']
    exact ⟨_, _, ⟨w.needs, w.shifts, rfl, ⟨hw.nl, hw.ns⟩, rfl, rfl⟩, h⟩
def S_need_world : FS := fun ds M r M' => ∃ w : Wd, ds = [encW w] ∧ Wok w ∧ r = .ok .non ∧ M' = M
theorem t_need_world (w : Wd) (hw : Wok w) (M : Mem) (P : Po) (h : ∀ T, P.nx T M) : b_need_world S_is_world [some (encW w)] M P := by
  simp only [b_need_world, eVar, eInt, eBl, eNon, eStr, eB, aNil, aCons, eTup, eLst, eBin, bCmp, oAdd, oSub, oMul, oMod, oFdiv, oLt, oLe, oGt, oGe, oEq_int, oNe_int, bChain, bNot, bVal, bAnd, bOr, bIsN, bNotN, eIfx, eIx, oNone, oSome, eSl, eCall, eCall0, eBlt, fLen, fTuple, fList, fInt, fMin, fMax, bIsi, gNm, gTup, gNil, gCons, iSeq, iRng, iRng2, sNil, sSeq, sPass, sDead, sExpr, sRet, sAsg, sIf, okQ_ok, okQ_exc, to_ok, to_exc, ci1, ci2, ci3, ci4, sl0, sl1, sl2, sl3, sl4, sn1, sn2, sn3, sn4, lk_P, lk_S, lk_W, lk_R, lk_N, lk_pr, lk_int, lk_bl, lk_non, lk_str, lk_tup, lk_lst, lk_scr, not_false_eq_true, true_implies, decide_true, decide_false, not_true_eq_false, Bool.false_and, Bool.true_and, Bool.and_true, Bool.and_false, List.set_cons_zero, List.set_cons_succ, List.getElem?_cons_zero, List.getElem?_cons_succ, wipeT, List.length_cons, List.length_nil, List.length_map, List.map_cons, List.map_nil, D.ty, kb1, kb2, kb3, kb4, kb5, kb6, kb7, kb8, kb9, atI_0, atI_1, atI_2, atI_3, true_and, and_true, or_false, false_or, or_true, true_or, false_and, and_false, or_self, and_self, Bool.not_true, Bool.not_false, Bool.not_not, reduceCtorEq, false_implies, forall_const, implies_true, decide_eq_true_eq, decide_eq_false_iff_not, Bool.and_eq_true, Bool.and_eq_false_iff, Bool.not_eq_true, Bool.not_eq_eq_eq_not, Bool.true_eq_false, Bool.false_eq_true, Option.map_some, Option.some.injEq, exists_eq_left, exists_eq_left']
  refine ⟨_, _, ⟨w, rfl, hw, rfl, rfl⟩, ?_⟩
  simp only [eVar, eInt, eBl, eNon, eStr, eB, aNil, aCons, eTup, eLst, eBin, bCmp, oAdd, oSub, oMul, oMod, oFdiv, oLt, oLe, oGt, oGe, oEq_int, oNe_int, bChain, bNot, bVal, bAnd, bOr, bIsN, bNotN, eIfx, eIx, oNone, oSome, eSl, eCall, eCall0, eBlt, fLen, fTuple, fList, fInt, fMin, fMax, bIsi, gNm, gTup, gNil, gCons, iSeq, iRng, iRng2, sNil, sSeq, sPass, sDead, sExpr, sRet, sAsg, sIf, okQ_ok, okQ_exc, to_ok, to_exc, ci1, ci2, ci3, ci4, sl0, sl1, sl2, sl3, sl4, sn1, sn2, sn3, sn4, lk_P, lk_S, lk_W, lk_R, lk_N, lk_pr, lk_int, lk_bl, lk_non, lk_str, lk_tup, lk_lst, lk_scr, not_false_eq_true, true_implies, decide_true, decide_false, not_true_eq_false, Bool.false_and, Bool.true_and, Bool.and_true, Bool.and_false, List.set_cons_zero, List.set_cons_succ, List.getElem?_cons_zero, List.getElem?_cons_succ, wipeT, List.length_cons, List.length_nil, List.length_map, List.map_cons, List.map_nil, D.ty, kb1, kb2, kb3, kb4, kb5, kb6, kb7, kb8, kb9, atI_0, atI_1, atI_2, atI_3, true_and, and_true, or_false, false_or, or_true, true_or, false_and, and_false, or_self, and_self, Bool.not_true, Bool.not_false, Bool.not_not, reduceCtorEq, false_implies, forall_const, implies_true, decide_eq_true_eq, decide_eq_false_iff_not, Bool.and_eq_true, Bool.and_eq_false_iff, Bool.not_eq_true, Bool.not_eq_eq_eq_not, Bool.true_eq_false, Bool.false_eq_true, Option.map_some, Option.some.injEq, exists_eq_left, exists_eq_left']
  exact h _
end K3

set_option Elab.async false
set_option linter.all false
set_option maxRecDepth 100000
set_option maxHeartbeats 1000000
namespace K3
open PySem J
open L2 (kitB atI)
def begin1 (w : Wd) : Stt := ⟨0, w.rules.map fun r => (0, r.least)⟩
def S_begin : FS := fun ds M r M' => ∃ w : Wd, ds = [encW w] ∧ Wok w ∧ r = .ok (encS (begin1 w)) ∧ M' = M
theorem t_begin (w : Wd) (hw : Wok w) (M : Mem) (P : Po) (h : P.rt (encS (begin1 w)) M) : b_begin [some (encW w), none] M P := by
  simp only [b_begin, encW, eVar, eInt, eBl, eNon, eStr, eB, aNil, aCons, eTup, eLst, eBin, bCmp, oAdd, oSub, oMul, oMod, oFdiv, oLt, oLe, oGt, oGe, oEq_int, oNe_int, bChain, bNot, bVal, bAnd, bOr, bIsN, bNotN, eIfx, eIx, oNone, oSome, eSl, eCall, eCall0, eBlt, fLen, fTuple, fList, fInt, fMin, fMax, bIsi, gNm, gTup, gNil, gCons, iSeq, iRng, iRng2, sNil, sSeq, sPass, sDead, sExpr, sRet, sAsg, sIf, okQ_ok, okQ_exc, to_ok, to_exc, ci1, ci2, ci3, ci4, sl0, sl1, sl2, sl3, sl4, sn1, sn2, sn3, sn4, lk_P, lk_S, lk_W, lk_R, lk_N, lk_pr, lk_int, lk_bl, lk_non, lk_str, lk_tup, lk_lst, lk_scr, not_false_eq_true, true_implies, decide_true, decide_false, not_true_eq_false, Bool.false_and, Bool.true_and, Bool.and_true, Bool.and_false, List.set_cons_zero, List.set_cons_succ, List.getElem?_cons_zero, List.getElem?_cons_succ, wipeT, List.length_cons, List.length_nil, List.length_map, List.map_cons, List.map_nil, D.ty, kb1, kb2, kb3, kb4, kb5, kb6, kb7, kb8, kb9, atI_0, atI_1, atI_2, atI_3, true_and, and_true, or_false, false_or, or_true, true_or, false_and, and_false, or_self, and_self, Bool.not_true, Bool.not_false, Bool.not_not, reduceCtorEq, false_implies, forall_const, implies_true, decide_eq_true_eq, decide_eq_false_iff_not, Bool.and_eq_true, Bool.and_eq_false_iff, Bool.not_eq_true, Bool.not_eq_eq_eq_not, Bool.true_eq_false, Bool.false_eq_true, Option.map_some, Option.some.injEq, exists_eq_left, exists_eq_left', eLc]
  refine ⟨szl _ (by have := hw.rl; omega), lc_map (f := fun r : Rule => pairD (0, r.least)) trivial w.rules _ (fun x hx R hR => ?_) ?_⟩
  · simp only [eVar, eInt, eBl, eNon, eStr, eB, aNil, aCons, eTup, eLst, eBin, bCmp, oAdd, oSub, oMul, oMod, oFdiv, oLt, oLe, oGt, oGe, oEq_int, oNe_int, bChain, bNot, bVal, bAnd, bOr, bIsN, bNotN, eIfx, eIx, oNone, oSome, eSl, eCall, eCall0, eBlt, fLen, fTuple, fList, fInt, fMin, fMax, bIsi, gNm, gTup, gNil, gCons, iSeq, iRng, iRng2, sNil, sSeq, sPass, sDead, sExpr, sRet, sAsg, sIf, okQ_ok, okQ_exc, to_ok, to_exc, ci1, ci2, ci3, ci4, sl0, sl1, sl2, sl3, sl4, sn1, sn2, sn3, sn4, lk_P, lk_S, lk_W, lk_R, lk_N, lk_pr, lk_int, lk_bl, lk_non, lk_str, lk_tup, lk_lst, lk_scr, not_false_eq_true, true_implies, decide_true, decide_false, not_true_eq_false, Bool.false_and, Bool.true_and, Bool.and_true, Bool.and_false, List.set_cons_zero, List.set_cons_succ, List.getElem?_cons_zero, List.getElem?_cons_succ, wipeT, List.length_cons, List.length_nil, List.length_map, List.map_cons, List.map_nil, D.ty, kb1, kb2, kb3, kb4, kb5, kb6, kb7, kb8, kb9, atI_0, atI_1, atI_2, atI_3, true_and, and_true, or_false, false_or, or_true, true_or, false_and, and_false, or_self, and_self, Bool.not_true, Bool.not_false, Bool.not_not, reduceCtorEq, false_implies, forall_const, implies_true, decide_eq_true_eq, decide_eq_false_iff_not, Bool.and_eq_true, Bool.and_eq_false_iff, Bool.not_eq_true, Bool.not_eq_eq_eq_not, Bool.true_eq_false, Bool.false_eq_true, Option.map_some, Option.some.injEq, exists_eq_left, exists_eq_left', encR]
    exact hR
  · have e : (w.rules.map fun r : Rule => pairD (0, r.least)) = (begin1 w).stands.map pairD := by simp [begin1, Function.comp]
    rw [e]
    exact h
def opts (r : Rule) (st : Int × Int) : List Int :=
  if st.1 = 0 then 0 :: (if r.least ≤ st.2 then r.skills else []) else if r.most ≤ st.2 then [0] else 0 :: r.skills.filter fun s => !decide ((st.1, s) ∈ r.barred)
def S_options : FS := fun ds M r M' => ∃ (u : Rule) (st : Int × Int), ds = [encR u, pairD st] ∧ u.skills.length ≤ 3 ∧ r = .ok (.lst ((opts u st).map D.int)) ∧ M' = M
theorem t_options (u : Rule) (st : Int × Int) (hu : u.skills.length ≤ 3) (M : Mem) (P : Po) (h : P.rt (.lst ((opts u st).map D.int)) M) : b_options [some (encR u), some (pairD st), none, none, none] M P := by
  simp only [b_options, encR, pairD, eVar, eInt, eBl, eNon, eStr, eB, aNil, aCons, eTup, eLst, eBin, bCmp, oAdd, oSub, oMul, oMod, oFdiv, oLt, oLe, oGt, oGe, oEq_int, oNe_int, bChain, bNot, bVal, bAnd, bOr, bIsN, bNotN, eIfx, eIx, oNone, oSome, eSl, eCall, eCall0, eBlt, fLen, fTuple, fList, fInt, fMin, fMax, bIsi, gNm, gTup, gNil, gCons, iSeq, iRng, iRng2, sNil, sSeq, sPass, sDead, sExpr, sRet, sAsg, sIf, okQ_ok, okQ_exc, to_ok, to_exc, ci1, ci2, ci3, ci4, sl0, sl1, sl2, sl3, sl4, sn1, sn2, sn3, sn4, lk_P, lk_S, lk_W, lk_R, lk_N, lk_pr, lk_int, lk_bl, lk_non, lk_str, lk_tup, lk_lst, lk_scr, not_false_eq_true, true_implies, decide_true, decide_false, not_true_eq_false, Bool.false_and, Bool.true_and, Bool.and_true, Bool.and_false, List.set_cons_zero, List.set_cons_succ, List.getElem?_cons_zero, List.getElem?_cons_succ, wipeT, List.length_cons, List.length_nil, List.length_map, List.map_cons, List.map_nil, D.ty, kb1, kb2, kb3, kb4, kb5, kb6, kb7, kb8, kb9, atI_0, atI_1, atI_2, atI_3, true_and, and_true, or_false, false_or, or_true, true_or, false_and, and_false, or_self, and_self, Bool.not_true, Bool.not_false, Bool.not_not, reduceCtorEq, false_implies, forall_const, implies_true, decide_eq_true_eq, decide_eq_false_iff_not, Bool.and_eq_true, Bool.and_eq_false_iff, Bool.not_eq_true, Bool.not_eq_eq_eq_not, Bool.true_eq_false, Bool.false_eq_true, Option.map_some, Option.some.injEq, exists_eq_left, exists_eq_left']
  unfold opts at h
  refine ⟨fun h0 => ?_, fun h0 => ⟨fun h1 => ?_, fun h1 => ?_⟩⟩
  · rw [if_pos h0] at h
    by_cases h1 : u.least ≤ st.2
    · rw [if_pos h1] at h
      simp only [h1, decide_true, if_true]
      refine ⟨by omega, by omega, sz _ (by simp; omega), ?_⟩
      simpa using h
    · rw [if_neg h1] at h
      simp only [h1, decide_false]
      refine ⟨by simp, by omega, sz _ (by simp), ?_⟩
      simpa using h
  · rw [if_neg h0, if_pos h1] at h
    exact h
  · rw [if_neg h0, if_neg h1] at h
    simp only [eLc, eVar, eInt, eBl, eNon, eStr, eB, aNil, aCons, eTup, eLst, eBin, bCmp, oAdd, oSub, oMul, oMod, oFdiv, oLt, oLe, oGt, oGe, oEq_int, oNe_int, bChain, bNot, bVal, bAnd, bOr, bIsN, bNotN, eIfx, eIx, oNone, oSome, eSl, eCall, eCall0, eBlt, fLen, fTuple, fList, fInt, fMin, fMax, bIsi, gNm, gTup, gNil, gCons, iSeq, iRng, iRng2, sNil, sSeq, sPass, sDead, sExpr, sRet, sAsg, sIf, okQ_ok, okQ_exc, to_ok, to_exc, ci1, ci2, ci3, ci4, sl0, sl1, sl2, sl3, sl4, sn1, sn2, sn3, sn4, lk_P, lk_S, lk_W, lk_R, lk_N, lk_pr, lk_int, lk_bl, lk_non, lk_str, lk_tup, lk_lst, lk_scr, not_false_eq_true, true_implies, decide_true, decide_false, not_true_eq_false, Bool.false_and, Bool.true_and, Bool.and_true, Bool.and_false, List.set_cons_zero, List.set_cons_succ, List.getElem?_cons_zero, List.getElem?_cons_succ, wipeT, List.length_cons, List.length_nil, List.length_map, List.map_cons, List.map_nil, D.ty, kb1, kb2, kb3, kb4, kb5, kb6, kb7, kb8, kb9, atI_0, atI_1, atI_2, atI_3, true_and, and_true, or_false, false_or, or_true, true_or, false_and, and_false, or_self, and_self, Bool.not_true, Bool.not_false, Bool.not_not, reduceCtorEq, false_implies, forall_const, implies_true, decide_eq_true_eq, decide_eq_false_iff_not, Bool.and_eq_true, Bool.and_eq_false_iff, Bool.not_eq_true, Bool.not_eq_eq_eq_not, Bool.true_eq_false, Bool.false_eq_true, Option.map_some, Option.some.injEq, exists_eq_left, exists_eq_left']
    refine ⟨szl _ (by omega), lc_pure (f := fun s : Int => if decide ((st.1, s) ∈ u.barred) then none else some (.int s)) trivial u.skills _ (fun x hx R hR => ?_) ?_⟩
    · simp only [turnL, eVar, eInt, eBl, eNon, eStr, eB, aNil, aCons, eTup, eLst, eBin, bCmp, oAdd, oSub, oMul, oMod, oFdiv, oLt, oLe, oGt, oGe, oEq_int, oNe_int, bChain, bNot, bVal, bAnd, bOr, bIsN, bNotN, eIfx, eIx, oNone, oSome, eSl, eCall, eCall0, eBlt, fLen, fTuple, fList, fInt, fMin, fMax, bIsi, gNm, gTup, gNil, gCons, iSeq, iRng, iRng2, sNil, sSeq, sPass, sDead, sExpr, sRet, sAsg, sIf, okQ_ok, okQ_exc, to_ok, to_exc, ci1, ci2, ci3, ci4, sl0, sl1, sl2, sl3, sl4, sn1, sn2, sn3, sn4, lk_P, lk_S, lk_W, lk_R, lk_N, lk_pr, lk_int, lk_bl, lk_non, lk_str, lk_tup, lk_lst, lk_scr, not_false_eq_true, true_implies, decide_true, decide_false, not_true_eq_false, Bool.false_and, Bool.true_and, Bool.and_true, Bool.and_false, List.set_cons_zero, List.set_cons_succ, List.getElem?_cons_zero, List.getElem?_cons_succ, wipeT, List.length_cons, List.length_nil, List.length_map, List.map_cons, List.map_nil, D.ty, kb1, kb2, kb3, kb4, kb5, kb6, kb7, kb8, kb9, atI_0, atI_1, atI_2, atI_3, true_and, and_true, or_false, false_or, or_true, true_or, false_and, and_false, or_self, and_self, Bool.not_true, Bool.not_false, Bool.not_not, reduceCtorEq, false_implies, forall_const, implies_true, decide_eq_true_eq, decide_eq_false_iff_not, Bool.and_eq_true, Bool.and_eq_false_iff, Bool.not_eq_true, Bool.not_eq_eq_eq_not, Bool.true_eq_false, Bool.false_eq_true, Option.map_some, Option.some.injEq, exists_eq_left, exists_eq_left']
      have e1 : ∀ k : Bool → Prop, oNin (.tup [.int st.1, .int x]) (.tup (u.barred.map pairD)) k ↔ k (!decide ((st.1, x) ∈ u.barred)) := fun k => oNinT_en (n := 1) en_pair (by decide) (st.1, x) u.barred
      rw [e1]
      by_cases z : (st.1, x) ∈ u.barred
      · simp only [z, decide_true, if_true] at hR
        simp [z, hR]
      · simp only [z, decide_false] at hR
        simp only [z, eVar, eInt, eBl, eNon, eStr, eB, aNil, aCons, eTup, eLst, eBin, bCmp, oAdd, oSub, oMul, oMod, oFdiv, oLt, oLe, oGt, oGe, oEq_int, oNe_int, bChain, bNot, bVal, bAnd, bOr, bIsN, bNotN, eIfx, eIx, oNone, oSome, eSl, eCall, eCall0, eBlt, fLen, fTuple, fList, fInt, fMin, fMax, bIsi, gNm, gTup, gNil, gCons, iSeq, iRng, iRng2, sNil, sSeq, sPass, sDead, sExpr, sRet, sAsg, sIf, okQ_ok, okQ_exc, to_ok, to_exc, ci1, ci2, ci3, ci4, sl0, sl1, sl2, sl3, sl4, sn1, sn2, sn3, sn4, lk_P, lk_S, lk_W, lk_R, lk_N, lk_pr, lk_int, lk_bl, lk_non, lk_str, lk_tup, lk_lst, lk_scr, not_false_eq_true, true_implies, decide_true, decide_false, not_true_eq_false, Bool.false_and, Bool.true_and, Bool.and_true, Bool.and_false, List.set_cons_zero, List.set_cons_succ, List.getElem?_cons_zero, List.getElem?_cons_succ, wipeT, List.length_cons, List.length_nil, List.length_map, List.map_cons, List.map_nil, D.ty, kb1, kb2, kb3, kb4, kb5, kb6, kb7, kb8, kb9, atI_0, atI_1, atI_2, atI_3, true_and, and_true, or_false, false_or, or_true, true_or, false_and, and_false, or_self, and_self, Bool.not_true, Bool.not_false, Bool.not_not, reduceCtorEq, false_implies, forall_const, implies_true, decide_eq_true_eq, decide_eq_false_iff_not, Bool.and_eq_true, Bool.and_eq_false_iff, Bool.not_eq_true, Bool.not_eq_eq_eq_not, Bool.true_eq_false, Bool.false_eq_true, Option.map_some, Option.some.injEq, exists_eq_left, exists_eq_left']
        simpa using hR
    · have e2 : (u.skills.filterMap fun s : Int => if decide ((st.1, s) ∈ u.barred) then none else some (.int s)) = ((u.skills.filter fun s => !decide ((st.1, s) ∈ u.barred)).map D.int) := by
        exact fm_if (fun s => decide ((st.1, s) ∈ u.barred)) D.int u.skills
      rw [e2]
      refine ⟨sz _ ?_, by simpa using h⟩
      have := List.length_filter_le (fun s => !decide ((st.1, s) ∈ u.barred)) u.skills
      simp only [List.length_map]
      omega
def standB (r : Rule) (st : Int × Int) (s : Int) : Int × Int :=
  if s = 0 then (0, if st.1 = 0 then min r.least (st.2 + 1) else 1) else (s, if st.1 = 0 then 1 else st.2 + 1)
def S_stand_behind : FS := fun ds M r M' => ∃ (u : Rule) (st : Int × Int) (s : Int), ds = [encR u, pairD st, .int s] ∧ r = .ok (pairD (standB u st s)) ∧ M' = M
theorem t_stand_behind (u : Rule) (st : Int × Int) (s : Int) (M : Mem) (P : Po) (h : P.rt (pairD (standB u st s)) M) : b_stand_behind [some (encR u), some (pairD st), some (.int s), none, none] M P := by
  simp only [b_stand_behind, encR, pairD, eVar, eInt, eBl, eNon, eStr, eB, aNil, aCons, eTup, eLst, eBin, bCmp, oAdd, oSub, oMul, oMod, oFdiv, oLt, oLe, oGt, oGe, oEq_int, oNe_int, bChain, bNot, bVal, bAnd, bOr, bIsN, bNotN, eIfx, eIx, oNone, oSome, eSl, eCall, eCall0, eBlt, fLen, fTuple, fList, fInt, fMin, fMax, bIsi, gNm, gTup, gNil, gCons, iSeq, iRng, iRng2, sNil, sSeq, sPass, sDead, sExpr, sRet, sAsg, sIf, okQ_ok, okQ_exc, to_ok, to_exc, ci1, ci2, ci3, ci4, sl0, sl1, sl2, sl3, sl4, sn1, sn2, sn3, sn4, lk_P, lk_S, lk_W, lk_R, lk_N, lk_pr, lk_int, lk_bl, lk_non, lk_str, lk_tup, lk_lst, lk_scr, not_false_eq_true, true_implies, decide_true, decide_false, not_true_eq_false, Bool.false_and, Bool.true_and, Bool.and_true, Bool.and_false, List.set_cons_zero, List.set_cons_succ, List.getElem?_cons_zero, List.getElem?_cons_succ, wipeT, List.length_cons, List.length_nil, List.length_map, List.map_cons, List.map_nil, D.ty, kb1, kb2, kb3, kb4, kb5, kb6, kb7, kb8, kb9, atI_0, atI_1, atI_2, atI_3, true_and, and_true, or_false, false_or, or_true, true_or, false_and, and_false, or_self, and_self, Bool.not_true, Bool.not_false, Bool.not_not, reduceCtorEq, false_implies, forall_const, implies_true, decide_eq_true_eq, decide_eq_false_iff_not, Bool.and_eq_true, Bool.and_eq_false_iff, Bool.not_eq_true, Bool.not_eq_eq_eq_not, Bool.true_eq_false, Bool.false_eq_true, Option.map_some, Option.some.injEq, exists_eq_left, exists_eq_left']
  unfold standB at h
  refine ⟨fun h0 => ?_, fun h0 => ?_⟩
  · rw [if_pos h0] at h
    by_cases h1 : st.1 = 0
    · simp only [h1, decide_true, if_true, atI_1]
      simpa [h1, pairD] using h
    · simp only [h1, decide_false]
      simpa [h1, pairD, atI_0] using h
  · rw [if_neg h0] at h
    by_cases h1 : st.1 = 0
    · simp only [h1, decide_true, if_true, atI_1]
      simpa [h1, pairD] using h
    · simp only [h1, decide_false]
      simpa [h1, pairD, atI_0] using h
def meetsB (nd : List (Int × Int)) (plan : List Int) : Bool := nd.zipIdx.all fun q => decide (q.1.1 ≤ (plan.count ((q.2 : Int) + 1) : Int)) && decide ((plan.count ((q.2 : Int) + 1) : Int) ≤ q.1.2)
theorem eCnt_int {i : Nat} {t : XT} {T : Tau} {M : Mem} {Q : Res → Mem → Prop} {plan : List Int} {n : Int} (hT : T[i]? = some (some (.tup (plan.map D.int)))) (ht : ∀ k, t T M (okQ k) ↔ k (.int n) M) : eCnt (eVar i) t T M Q ↔ Q (.ok (.int (plan.count n : Nat))) M := by
  unfold eCnt eVar
  rw [hT]
  simp only [okQ_ok, ht, lk_int, lk_tup]
  rw [cnt_en (n := 0) en_int]
  constructor
  · exact fun h => h.2.2.2.2.2
  · exact fun h => ⟨trivial, rfl, trivial, D.nices_pure _ (ncs_map (n := 0) (fun i => nc_int i) plan).ni, by
      have := (ncs_map (n := 0) (fun i => nc_int i) plan).dp
      omega, h⟩
def S_meets : FS := fun ds M r M' => ∃ (nd : List (Int × Int)) (p : List Int), ds = [encN nd, encP p] ∧ r = .ok (.bl (meetsB nd p)) ∧ M' = M
theorem t_meets (nd : List (Int × Int)) (p : List Int) (M : Mem) (P : Po) (h : P.rt (.bl (meetsB nd p)) M) : b_meets [some (encN nd), some (encP p), none, none, none] M P := by
  simp only [b_meets, encN, encP, eVar, eInt, eBl, eNon, eStr, eB, aNil, aCons, eTup, eLst, eBin, bCmp, oAdd, oSub, oMul, oMod, oFdiv, oLt, oLe, oGt, oGe, oEq_int, oNe_int, bChain, bNot, bVal, bAnd, bOr, bIsN, bNotN, eIfx, eIx, oNone, oSome, eSl, eCall, eCall0, eBlt, fLen, fTuple, fList, fInt, fMin, fMax, bIsi, gNm, gTup, gNil, gCons, iSeq, iRng, iRng2, sNil, sSeq, sPass, sDead, sExpr, sRet, sAsg, sIf, okQ_ok, okQ_exc, to_ok, to_exc, ci1, ci2, ci3, ci4, sl0, sl1, sl2, sl3, sl4, sn1, sn2, sn3, sn4, lk_P, lk_S, lk_W, lk_R, lk_N, lk_pr, lk_int, lk_bl, lk_non, lk_str, lk_tup, lk_lst, lk_scr, not_false_eq_true, true_implies, decide_true, decide_false, not_true_eq_false, Bool.false_and, Bool.true_and, Bool.and_true, Bool.and_false, List.set_cons_zero, List.set_cons_succ, List.getElem?_cons_zero, List.getElem?_cons_succ, wipeT, List.length_cons, List.length_nil, List.length_map, List.map_cons, List.map_nil, D.ty, kb1, kb2, kb3, kb4, kb5, kb6, kb7, kb8, kb9, atI_0, atI_1, atI_2, atI_3, true_and, and_true, or_false, false_or, or_true, true_or, false_and, and_false, or_self, and_self, Bool.not_true, Bool.not_false, Bool.not_not, reduceCtorEq, false_implies, forall_const, implies_true, decide_eq_true_eq, decide_eq_false_iff_not, Bool.and_eq_true, Bool.and_eq_false_iff, Bool.not_eq_true, Bool.not_eq_eq_eq_not, Bool.true_eq_false, Bool.false_eq_true, Option.map_some, Option.some.injEq, exists_eq_left, exists_eq_left', sFor, iEnum, enumD_map]
  refine for_all (fun T => ∃ a b c, T = [some (.tup (nd.map pairD)), some (.tup (p.map D.int)), a, b, c]) (fun q => decide (q.1.1 ≤ (p.count ((q.2 : Int) + 1) : Int)) && decide ((p.count ((q.2 : Int) + 1) : Int) ≤ q.1.2)) trivial nd.zipIdx ?_ _ ?_ ?_ ⟨_, _, _, rfl⟩
  · rintro ⟨x, i⟩ hx T N ⟨a, b, c, rfl⟩ h1 h2
    simp only [eVar, eInt, eBl, eNon, eStr, eB, aNil, aCons, eTup, eLst, eBin, bCmp, oAdd, oSub, oMul, oMod, oFdiv, oLt, oLe, oGt, oGe, oEq_int, oNe_int, bChain, bNot, bVal, bAnd, bOr, bIsN, bNotN, eIfx, eIx, oNone, oSome, eSl, eCall, eCall0, eBlt, fLen, fTuple, fList, fInt, fMin, fMax, bIsi, gNm, gTup, gNil, gCons, iSeq, iRng, iRng2, sNil, sSeq, sPass, sDead, sExpr, sRet, sAsg, sIf, okQ_ok, okQ_exc, to_ok, to_exc, ci1, ci2, ci3, ci4, sl0, sl1, sl2, sl3, sl4, sn1, sn2, sn3, sn4, lk_P, lk_S, lk_W, lk_R, lk_N, lk_pr, lk_int, lk_bl, lk_non, lk_str, lk_tup, lk_lst, lk_scr, not_false_eq_true, true_implies, decide_true, decide_false, not_true_eq_false, Bool.false_and, Bool.true_and, Bool.and_true, Bool.and_false, List.set_cons_zero, List.set_cons_succ, List.getElem?_cons_zero, List.getElem?_cons_succ, wipeT, List.length_cons, List.length_nil, List.length_map, List.map_cons, List.map_nil, D.ty, kb1, kb2, kb3, kb4, kb5, kb6, kb7, kb8, kb9, atI_0, atI_1, atI_2, atI_3, true_and, and_true, or_false, false_or, or_true, true_or, false_and, and_false, or_self, and_self, Bool.not_true, Bool.not_false, Bool.not_not, reduceCtorEq, false_implies, forall_const, implies_true, decide_eq_true_eq, decide_eq_false_iff_not, Bool.and_eq_true, Bool.and_eq_false_iff, Bool.not_eq_true, Bool.not_eq_eq_eq_not, Bool.true_eq_false, Bool.false_eq_true, Option.map_some, Option.some.injEq, exists_eq_left, exists_eq_left', pairD]
    rw [eCnt_int (plan := p) (n := (i : Int) + 1) rfl (fun k => by simp only [eVar, eInt, eBl, eNon, eStr, eB, aNil, aCons, eTup, eLst, eBin, bCmp, oAdd, oSub, oMul, oMod, oFdiv, oLt, oLe, oGt, oGe, oEq_int, oNe_int, bChain, bNot, bVal, bAnd, bOr, bIsN, bNotN, eIfx, eIx, oNone, oSome, eSl, eCall, eCall0, eBlt, fLen, fTuple, fList, fInt, fMin, fMax, bIsi, gNm, gTup, gNil, gCons, iSeq, iRng, iRng2, sNil, sSeq, sPass, sDead, sExpr, sRet, sAsg, sIf, okQ_ok, okQ_exc, to_ok, to_exc, ci1, ci2, ci3, ci4, sl0, sl1, sl2, sl3, sl4, sn1, sn2, sn3, sn4, lk_P, lk_S, lk_W, lk_R, lk_N, lk_pr, lk_int, lk_bl, lk_non, lk_str, lk_tup, lk_lst, lk_scr, not_false_eq_true, true_implies, decide_true, decide_false, not_true_eq_false, Bool.false_and, Bool.true_and, Bool.and_true, Bool.and_false, List.set_cons_zero, List.set_cons_succ, List.getElem?_cons_zero, List.getElem?_cons_succ, wipeT, List.length_cons, List.length_nil, List.length_map, List.map_cons, List.map_nil, D.ty, kb1, kb2, kb3, kb4, kb5, kb6, kb7, kb8, kb9, atI_0, atI_1, atI_2, atI_3, true_and, and_true, or_false, false_or, or_true, true_or, false_and, and_false, or_self, and_self, Bool.not_true, Bool.not_false, Bool.not_not, reduceCtorEq, false_implies, forall_const, implies_true, decide_eq_true_eq, decide_eq_false_iff_not, Bool.and_eq_true, Bool.and_eq_false_iff, Bool.not_eq_true, Bool.not_eq_eq_eq_not, Bool.true_eq_false, Bool.false_eq_true, Option.map_some, Option.some.injEq, exists_eq_left, exists_eq_left'])]
    simp only [eVar, eInt, eBl, eNon, eStr, eB, aNil, aCons, eTup, eLst, eBin, bCmp, oAdd, oSub, oMul, oMod, oFdiv, oLt, oLe, oGt, oGe, oEq_int, oNe_int, bChain, bNot, bVal, bAnd, bOr, bIsN, bNotN, eIfx, eIx, oNone, oSome, eSl, eCall, eCall0, eBlt, fLen, fTuple, fList, fInt, fMin, fMax, bIsi, gNm, gTup, gNil, gCons, iSeq, iRng, iRng2, sNil, sSeq, sPass, sDead, sExpr, sRet, sAsg, sIf, okQ_ok, okQ_exc, to_ok, to_exc, ci1, ci2, ci3, ci4, sl0, sl1, sl2, sl3, sl4, sn1, sn2, sn3, sn4, lk_P, lk_S, lk_W, lk_R, lk_N, lk_pr, lk_int, lk_bl, lk_non, lk_str, lk_tup, lk_lst, lk_scr, not_false_eq_true, true_implies, decide_true, decide_false, not_true_eq_false, Bool.false_and, Bool.true_and, Bool.and_true, Bool.and_false, List.set_cons_zero, List.set_cons_succ, List.getElem?_cons_zero, List.getElem?_cons_succ, wipeT, List.length_cons, List.length_nil, List.length_map, List.map_cons, List.map_nil, D.ty, kb1, kb2, kb3, kb4, kb5, kb6, kb7, kb8, kb9, atI_0, atI_1, atI_2, atI_3, true_and, and_true, or_false, false_or, or_true, true_or, false_and, and_false, or_self, and_self, Bool.not_true, Bool.not_false, Bool.not_not, reduceCtorEq, false_implies, forall_const, implies_true, decide_eq_true_eq, decide_eq_false_iff_not, Bool.and_eq_true, Bool.and_eq_false_iff, Bool.not_eq_true, Bool.not_eq_eq_eq_not, Bool.true_eq_false, Bool.false_eq_true, Option.map_some, Option.some.injEq, exists_eq_left, exists_eq_left'] at h1 h2 ⊢
    refine ⟨fun z => h2 z, fun z => h1 z _ ⟨_, _, _, rfl⟩⟩
  · rintro z T ⟨a, b, c, rfl⟩
    simp only [eVar, eInt, eBl, eNon, eStr, eB, aNil, aCons, eTup, eLst, eBin, bCmp, oAdd, oSub, oMul, oMod, oFdiv, oLt, oLe, oGt, oGe, oEq_int, oNe_int, bChain, bNot, bVal, bAnd, bOr, bIsN, bNotN, eIfx, eIx, oNone, oSome, eSl, eCall, eCall0, eBlt, fLen, fTuple, fList, fInt, fMin, fMax, bIsi, gNm, gTup, gNil, gCons, iSeq, iRng, iRng2, sNil, sSeq, sPass, sDead, sExpr, sRet, sAsg, sIf, okQ_ok, okQ_exc, to_ok, to_exc, ci1, ci2, ci3, ci4, sl0, sl1, sl2, sl3, sl4, sn1, sn2, sn3, sn4, lk_P, lk_S, lk_W, lk_R, lk_N, lk_pr, lk_int, lk_bl, lk_non, lk_str, lk_tup, lk_lst, lk_scr, not_false_eq_true, true_implies, decide_true, decide_false, not_true_eq_false, Bool.false_and, Bool.true_and, Bool.and_true, Bool.and_false, List.set_cons_zero, List.set_cons_succ, List.getElem?_cons_zero, List.getElem?_cons_succ, wipeT, List.length_cons, List.length_nil, List.length_map, List.map_cons, List.map_nil, D.ty, kb1, kb2, kb3, kb4, kb5, kb6, kb7, kb8, kb9, atI_0, atI_1, atI_2, atI_3, true_and, and_true, or_false, false_or, or_true, true_or, false_and, and_false, or_self, and_self, Bool.not_true, Bool.not_false, Bool.not_not, reduceCtorEq, false_implies, forall_const, implies_true, decide_eq_true_eq, decide_eq_false_iff_not, Bool.and_eq_true, Bool.and_eq_false_iff, Bool.not_eq_true, Bool.not_eq_eq_eq_not, Bool.true_eq_false, Bool.false_eq_true, Option.map_some, Option.some.injEq, exists_eq_left, exists_eq_left']
    have e : meetsB nd p = true := z
    rw [e] at h
    exact h
  · intro z
    have e : meetsB nd p = false := z
    rw [e] at h
    exact h
end K3

set_option Elab.async false
set_option linter.all false
set_option maxRecDepth 100000
set_option maxHeartbeats 1000000
namespace K3
open PySem J
open L2 (kitB atI)
def rowsOf (ps : List (Rule × (Int × Int))) : List (List Int) := ps.foldl (fun rows q => rows.flatMap fun row => (opts q.1 q.2).map fun s => row ++ [s]) [[]]
theorem rowsOf_snoc (ps : List (Rule × (Int × Int))) (q : Rule × (Int × Int)) : rowsOf (ps ++ [q]) = (rowsOf ps).flatMap fun row => (opts q.1 q.2).map fun s => row ++ [s] := by
  unfold rowsOf
  rw [List.foldl_append]
  rfl
theorem opts_len (u : Rule) (st : Int × Int) (h : u.skills.length ≤ 3) : (opts u st).length ≤ 4 := by
  unfold opts
  split
  · split <;> simp <;> omega
  · split
    · simp
    · have := List.length_filter_le (fun s => !decide ((st.1, s) ∈ u.barred)) u.skills
      simp only [List.length_cons]
      omega
theorem flat_len {α β : Type} (f : α → List β) (k : Nat) : ∀ (xs : List α), (∀ x ∈ xs, (f x).length ≤ k) → (xs.flatMap f).length ≤ k * xs.length
  | [], _ => by simp
  | x :: xs, h => by
    have h1 := h x (List.mem_cons_self ..)
    have h2 := flat_len f k xs fun y hy => h y (List.mem_cons_of_mem _ hy)
    rw [List.flatMap_cons, List.length_append, List.length_cons, Nat.mul_succ]
    omega
theorem rows_len : ∀ (n : Nat) (ps : List (Rule × (Int × Int))), ps.length = n → (∀ q ∈ ps, q.1.skills.length ≤ 3) → (rowsOf ps).length ≤ 4 ^ n
  | 0, ps, h, _ => by
    have : ps = [] := List.length_eq_zero_iff.mp h
    subst this
    simp [rowsOf]
  | n + 1, ps, h, hs => by
    have hne : ps ≠ [] := fun z => by rw [z] at h; cases h
    have e := List.dropLast_concat_getLast hne
    rw [← e, rowsOf_snoc]
    have ih := rows_len n ps.dropLast (by rw [List.length_dropLast, h]; rfl) fun q hq => hs q ((List.dropLast_sublist ps).subset hq)
    have := flat_len (fun row => (opts (ps.getLast hne).1 (ps.getLast hne).2).map fun s => row ++ [s]) 4 (rowsOf ps.dropLast) fun x _ => by
      rw [List.length_map]
      exact opts_len _ _ (hs _ (List.getLast_mem hne))
    rw [Nat.pow_succ]
    omega
theorem rows_mem : ∀ (n : Nat) (ps : List (Rule × (Int × Int))), ps.length = n → ∀ row ∈ rowsOf ps, row.length = n
  | 0, ps, h, row, hr => by
    have : ps = [] := List.length_eq_zero_iff.mp h
    subst this
    simp [rowsOf] at hr
    simp [hr]
  | n + 1, ps, h, row, hr => by
    have hne : ps ≠ [] := fun z => by rw [z] at h; cases h
    have e := List.dropLast_concat_getLast hne
    rw [← e, rowsOf_snoc] at hr
    obtain ⟨r0, h0, h1⟩ := List.mem_flatMap.mp hr
    obtain ⟨s, _, rfl⟩ := List.mem_map.mp h1
    have ih := rows_mem n ps.dropLast (by rw [List.length_dropLast, h]; rfl) r0 h0
    simp [ih]
structure Sok (w : Wd) (s : Stt) : Prop where
  day : s.day < w.needs.length
  len : s.stands.length = w.rules.length
def needAt (w : Wd) (s : Stt) : List (Int × Int) := w.needs[s.day]?.getD []
def plansAt (w : Wd) (s : Stt) : List (List Int) := (rowsOf (w.rules.zip s.stands)).filter fun p => meetsB (needAt w s) p
def S_plans_at : FS := fun ds M r M' => ∃ (w : Wd) (s : Stt), ds = [encW w, encS s] ∧ (Wok w ∧ Sok w s) ∧ r = .ok (.lst ((plansAt w s).map encP)) ∧ M' = M
theorem enc_snoc (row : List Int) (s : Int) : D.tup (row.map D.int ++ [.int s]) = encP (row ++ [s]) := by simp [encP]
theorem t_plans_at (w : Wd) (s : Stt) (hw : Wok w) (hs : Sok w s) (M : Mem) (P : Po) (h : P.rt (.lst ((plansAt w s).map encP)) M) : b_plans_at S_meets S_options [some (encW w), some (encS s), none, none, none, none, none, none] M P := by
  have hsk : ∀ q ∈ w.rules.zip s.stands, q.1.skills.length ≤ 3 := fun q hq => (hw.rs _ (List.of_mem_zip hq).1).len
  have hzl : (w.rules.zip s.stands).length ≤ 4 := by
    rw [List.length_zip]
    have := hw.rl
    omega
  simp only [b_plans_at, sFor, iZip, encW, encS, eVar, eInt, eBl, eNon, eStr, eB, aNil, aCons, eTup, eLst, eBin, bCmp, oAdd, oSub, oMul, oMod, oFdiv, oLt, oLe, oGt, oGe, oEq_int, oNe_int, bChain, bNot, bVal, bAnd, bOr, bIsN, bNotN, eIfx, eIx, oNone, oSome, eSl, eCall, eCall0, eBlt, fLen, fTuple, fList, fInt, fMin, fMax, bIsi, gNm, gTup, gNil, gCons, iSeq, iRng, iRng2, sNil, sSeq, sPass, sDead, sExpr, sRet, sAsg, sIf, okQ_ok, okQ_exc, to_ok, to_exc, ci1, ci2, ci3, ci4, sl0, sl1, sl2, sl3, sl4, sn1, sn2, sn3, sn4, lk_P, lk_S, lk_W, lk_R, lk_N, lk_pr, lk_int, lk_bl, lk_non, lk_str, lk_tup, lk_lst, lk_scr, not_false_eq_true, true_implies, decide_true, decide_false, not_true_eq_false, Bool.false_and, Bool.true_and, Bool.and_true, Bool.and_false, List.set_cons_zero, List.set_cons_succ, List.getElem?_cons_zero, List.getElem?_cons_succ, wipeT, List.length_cons, List.length_nil, List.length_map, List.map_cons, List.map_nil, D.ty, kb1, kb2, kb3, kb4, kb5, kb6, kb7, kb8, kb9, atI_0, atI_1, atI_2, atI_3, true_and, and_true, or_false, false_or, or_true, true_or, false_and, and_false, or_self, and_self, Bool.not_true, Bool.not_false, Bool.not_not, reduceCtorEq, false_implies, forall_const, implies_true, decide_eq_true_eq, decide_eq_false_iff_not, Bool.and_eq_true, Bool.and_eq_false_iff, Bool.not_eq_true, Bool.not_eq_eq_eq_not, Bool.true_eq_false, Bool.false_eq_true, Option.map_some, Option.some.injEq, exists_eq_left, exists_eq_left']
  rw [zipD_map]
  refine for_pre (fun pre T M' => M' = M ∧ ∃ a b c d e, T = [some (encW w), some (encS s), some (.lst ((rowsOf pre).map encP)), a, b, c, d, e]) _ ?_ ?_ ⟨rfl, _, _, _, _, _, rfl⟩
  · rintro pre ⟨u, st⟩ post hx T M1 N ⟨rfl, a, b, c, d, e, rfl⟩ hN
    have hu : u.skills.length ≤ 3 := hsk (u, st) (by rw [hx]; simp)
    have hpl : pre.length ≤ 4 := by
      have := congrArg List.length hx
      simp only [List.length_append, List.length_cons] at this
      omega
    have hrl : (rowsOf pre).length ≤ 256 := by
      have h1 := rows_len _ pre rfl fun q hq => hsk q (by rw [hx]; simp [hq])
      have h2 : 4 ^ pre.length ≤ 4 ^ 4 := Nat.pow_le_pow_right (by decide) hpl
      omega
    refine ⟨trivial, ?_⟩
    simp only [eVar, eInt, eBl, eNon, eStr, eB, aNil, aCons, eTup, eLst, eBin, bCmp, oAdd, oSub, oMul, oMod, oFdiv, oLt, oLe, oGt, oGe, oEq_int, oNe_int, bChain, bNot, bVal, bAnd, bOr, bIsN, bNotN, eIfx, eIx, oNone, oSome, eSl, eCall, eCall0, eBlt, fLen, fTuple, fList, fInt, fMin, fMax, bIsi, gNm, gTup, gNil, gCons, iSeq, iRng, iRng2, sNil, sSeq, sPass, sDead, sExpr, sRet, sAsg, sIf, okQ_ok, okQ_exc, to_ok, to_exc, ci1, ci2, ci3, ci4, sl0, sl1, sl2, sl3, sl4, sn1, sn2, sn3, sn4, lk_P, lk_S, lk_W, lk_R, lk_N, lk_pr, lk_int, lk_bl, lk_non, lk_str, lk_tup, lk_lst, lk_scr, not_false_eq_true, true_implies, decide_true, decide_false, not_true_eq_false, Bool.false_and, Bool.true_and, Bool.and_true, Bool.and_false, List.set_cons_zero, List.set_cons_succ, List.getElem?_cons_zero, List.getElem?_cons_succ, wipeT, List.length_cons, List.length_nil, List.length_map, List.map_cons, List.map_nil, D.ty, kb1, kb2, kb3, kb4, kb5, kb6, kb7, kb8, kb9, atI_0, atI_1, atI_2, atI_3, true_and, and_true, or_false, false_or, or_true, true_or, false_and, and_false, or_self, and_self, Bool.not_true, Bool.not_false, Bool.not_not, reduceCtorEq, false_implies, forall_const, implies_true, decide_eq_true_eq, decide_eq_false_iff_not, Bool.and_eq_true, Bool.and_eq_false_iff, Bool.not_eq_true, Bool.not_eq_eq_eq_not, Bool.true_eq_false, Bool.false_eq_true, Option.map_some, Option.some.injEq, exists_eq_left, exists_eq_left', sNew, sFor]
    intro l hl
    refine for_pre (fun pre2 T M' => M' = (l, .lst ((pre2.flatMap fun row => (opts u st).map fun s => row ++ [s]).map encP)) :: M1 ∧ ∃ d e, T = [some (encW w), some (encS s), some (.lst ((rowsOf pre).map encP)), some (encR u), some (pairD st), some (.cell l), d, e]) _ ?_ ?_ ⟨rfl, _, _, rfl⟩
    · rintro pre2 row post2 hx2 T M2 N2 ⟨rfl, d, e, rfl⟩ hN2
      have hp2 : pre2.length ≤ 256 := by
        have := congrArg List.length hx2
        simp only [List.length_append, List.length_cons] at this
        omega
      refine ⟨trivial, ?_⟩
      simp only [eVar, eInt, eBl, eNon, eStr, eB, aNil, aCons, eTup, eLst, eBin, bCmp, oAdd, oSub, oMul, oMod, oFdiv, oLt, oLe, oGt, oGe, oEq_int, oNe_int, bChain, bNot, bVal, bAnd, bOr, bIsN, bNotN, eIfx, eIx, oNone, oSome, eSl, eCall, eCall0, eBlt, fLen, fTuple, fList, fInt, fMin, fMax, bIsi, gNm, gTup, gNil, gCons, iSeq, iRng, iRng2, sNil, sSeq, sPass, sDead, sExpr, sRet, sAsg, sIf, okQ_ok, okQ_exc, to_ok, to_exc, ci1, ci2, ci3, ci4, sl0, sl1, sl2, sl3, sl4, sn1, sn2, sn3, sn4, lk_P, lk_S, lk_W, lk_R, lk_N, lk_pr, lk_int, lk_bl, lk_non, lk_str, lk_tup, lk_lst, lk_scr, not_false_eq_true, true_implies, decide_true, decide_false, not_true_eq_false, Bool.false_and, Bool.true_and, Bool.and_true, Bool.and_false, List.set_cons_zero, List.set_cons_succ, List.getElem?_cons_zero, List.getElem?_cons_succ, wipeT, List.length_cons, List.length_nil, List.length_map, List.map_cons, List.map_nil, D.ty, kb1, kb2, kb3, kb4, kb5, kb6, kb7, kb8, kb9, atI_0, atI_1, atI_2, atI_3, true_and, and_true, or_false, false_or, or_true, true_or, false_and, and_false, or_self, and_self, Bool.not_true, Bool.not_false, Bool.not_not, reduceCtorEq, false_implies, forall_const, implies_true, decide_eq_true_eq, decide_eq_false_iff_not, Bool.and_eq_true, Bool.and_eq_false_iff, Bool.not_eq_true, Bool.not_eq_eq_eq_not, Bool.true_eq_false, Bool.false_eq_true, Option.map_some, Option.some.injEq, exists_eq_left, exists_eq_left', sExt, lookup_cons_eq, eLc, encP]
      refine ⟨_, _, ⟨u, st, rfl, hu, rfl, rfl⟩, ?_⟩
      have hol := opts_len u st hu
      simp only [eVar, eInt, eBl, eNon, eStr, eB, aNil, aCons, eTup, eLst, eBin, bCmp, oAdd, oSub, oMul, oMod, oFdiv, oLt, oLe, oGt, oGe, oEq_int, oNe_int, bChain, bNot, bVal, bAnd, bOr, bIsN, bNotN, eIfx, eIx, oNone, oSome, eSl, eCall, eCall0, eBlt, fLen, fTuple, fList, fInt, fMin, fMax, bIsi, gNm, gTup, gNil, gCons, iSeq, iRng, iRng2, sNil, sSeq, sPass, sDead, sExpr, sRet, sAsg, sIf, okQ_ok, okQ_exc, to_ok, to_exc, ci1, ci2, ci3, ci4, sl0, sl1, sl2, sl3, sl4, sn1, sn2, sn3, sn4, lk_P, lk_S, lk_W, lk_R, lk_N, lk_pr, lk_int, lk_bl, lk_non, lk_str, lk_tup, lk_lst, lk_scr, not_false_eq_true, true_implies, decide_true, decide_false, not_true_eq_false, Bool.false_and, Bool.true_and, Bool.and_true, Bool.and_false, List.set_cons_zero, List.set_cons_succ, List.getElem?_cons_zero, List.getElem?_cons_succ, wipeT, List.length_cons, List.length_nil, List.length_map, List.map_cons, List.map_nil, D.ty, kb1, kb2, kb3, kb4, kb5, kb6, kb7, kb8, kb9, atI_0, atI_1, atI_2, atI_3, true_and, and_true, or_false, false_or, or_true, true_or, false_and, and_false, or_self, and_self, Bool.not_true, Bool.not_false, Bool.not_not, reduceCtorEq, false_implies, forall_const, implies_true, decide_eq_true_eq, decide_eq_false_iff_not, Bool.and_eq_true, Bool.and_eq_false_iff, Bool.not_eq_true, Bool.not_eq_eq_eq_not, Bool.true_eq_false, Bool.false_eq_true, Option.map_some, Option.some.injEq, exists_eq_left, exists_eq_left']
      refine ⟨szl _ (by omega), lc_map (f := fun s : Int => encP (row ++ [s])) trivial (opts u st) _ (fun x hx R hR => ?_) ?_⟩
      · simp only [eVar, eInt, eBl, eNon, eStr, eB, aNil, aCons, eTup, eLst, eBin, bCmp, oAdd, oSub, oMul, oMod, oFdiv, oLt, oLe, oGt, oGe, oEq_int, oNe_int, bChain, bNot, bVal, bAnd, bOr, bIsN, bNotN, eIfx, eIx, oNone, oSome, eSl, eCall, eCall0, eBlt, fLen, fTuple, fList, fInt, fMin, fMax, bIsi, gNm, gTup, gNil, gCons, iSeq, iRng, iRng2, sNil, sSeq, sPass, sDead, sExpr, sRet, sAsg, sIf, okQ_ok, okQ_exc, to_ok, to_exc, ci1, ci2, ci3, ci4, sl0, sl1, sl2, sl3, sl4, sn1, sn2, sn3, sn4, lk_P, lk_S, lk_W, lk_R, lk_N, lk_pr, lk_int, lk_bl, lk_non, lk_str, lk_tup, lk_lst, lk_scr, not_false_eq_true, true_implies, decide_true, decide_false, not_true_eq_false, Bool.false_and, Bool.true_and, Bool.and_true, Bool.and_false, List.set_cons_zero, List.set_cons_succ, List.getElem?_cons_zero, List.getElem?_cons_succ, wipeT, List.length_cons, List.length_nil, List.length_map, List.map_cons, List.map_nil, D.ty, kb1, kb2, kb3, kb4, kb5, kb6, kb7, kb8, kb9, atI_0, atI_1, atI_2, atI_3, true_and, and_true, or_false, false_or, or_true, true_or, false_and, and_false, or_self, and_self, Bool.not_true, Bool.not_false, Bool.not_not, reduceCtorEq, false_implies, forall_const, implies_true, decide_eq_true_eq, decide_eq_false_iff_not, Bool.and_eq_true, Bool.and_eq_false_iff, Bool.not_eq_true, Bool.not_eq_eq_eq_not, Bool.true_eq_false, Bool.false_eq_true, Option.map_some, Option.some.injEq, exists_eq_left, exists_eq_left']
        refine ⟨sz _ ?_, by rw [enc_snoc]; exact hR⟩
        have := rows_mem _ pre rfl row (by rw [hx2]; simp)
        omega
      · simp only [lookup_cons_eq, eVar, eInt, eBl, eNon, eStr, eB, aNil, aCons, eTup, eLst, eBin, bCmp, oAdd, oSub, oMul, oMod, oFdiv, oLt, oLe, oGt, oGe, oEq_int, oNe_int, bChain, bNot, bVal, bAnd, bOr, bIsN, bNotN, eIfx, eIx, oNone, oSome, eSl, eCall, eCall0, eBlt, fLen, fTuple, fList, fInt, fMin, fMax, bIsi, gNm, gTup, gNil, gCons, iSeq, iRng, iRng2, sNil, sSeq, sPass, sDead, sExpr, sRet, sAsg, sIf, okQ_ok, okQ_exc, to_ok, to_exc, ci1, ci2, ci3, ci4, sl0, sl1, sl2, sl3, sl4, sn1, sn2, sn3, sn4, lk_P, lk_S, lk_W, lk_R, lk_N, lk_pr, lk_int, lk_bl, lk_non, lk_str, lk_tup, lk_lst, lk_scr, not_false_eq_true, true_implies, decide_true, decide_false, not_true_eq_false, Bool.false_and, Bool.true_and, Bool.and_true, Bool.and_false, List.set_cons_zero, List.set_cons_succ, List.getElem?_cons_zero, List.getElem?_cons_succ, wipeT, List.length_cons, List.length_nil, List.length_map, List.map_cons, List.map_nil, D.ty, kb1, kb2, kb3, kb4, kb5, kb6, kb7, kb8, kb9, atI_0, atI_1, atI_2, atI_3, true_and, and_true, or_false, false_or, or_true, true_or, false_and, and_false, or_self, and_self, Bool.not_true, Bool.not_false, Bool.not_not, reduceCtorEq, false_implies, forall_const, implies_true, decide_eq_true_eq, decide_eq_false_iff_not, Bool.and_eq_true, Bool.and_eq_false_iff, Bool.not_eq_true, Bool.not_eq_eq_eq_not, Bool.true_eq_false, Bool.false_eq_true, Option.map_some, Option.some.injEq, exists_eq_left, exists_eq_left']
        refine ⟨sz _ ?_, ?_⟩
        · have := flat_len (fun row => (opts u st).map fun s => row ++ [s]) 4 pre2 fun x _ => by rw [List.length_map]; exact hol
          omega
        · rw [put_cons_eq hl]
          refine hN2 _ _ ⟨?_, _, _, rfl⟩
          simp [List.flatMap_append, Function.comp]
    · rintro T M2 ⟨rfl, d, e, rfl⟩
      refine ⟨trivial, ?_⟩
      simp only [sMove, eVar, eInt, eBl, eNon, eStr, eB, aNil, aCons, eTup, eLst, eBin, bCmp, oAdd, oSub, oMul, oMod, oFdiv, oLt, oLe, oGt, oGe, oEq_int, oNe_int, bChain, bNot, bVal, bAnd, bOr, bIsN, bNotN, eIfx, eIx, oNone, oSome, eSl, eCall, eCall0, eBlt, fLen, fTuple, fList, fInt, fMin, fMax, bIsi, gNm, gTup, gNil, gCons, iSeq, iRng, iRng2, sNil, sSeq, sPass, sDead, sExpr, sRet, sAsg, sIf, okQ_ok, okQ_exc, to_ok, to_exc, ci1, ci2, ci3, ci4, sl0, sl1, sl2, sl3, sl4, sn1, sn2, sn3, sn4, lk_P, lk_S, lk_W, lk_R, lk_N, lk_pr, lk_int, lk_bl, lk_non, lk_str, lk_tup, lk_lst, lk_scr, not_false_eq_true, true_implies, decide_true, decide_false, not_true_eq_false, Bool.false_and, Bool.true_and, Bool.and_true, Bool.and_false, List.set_cons_zero, List.set_cons_succ, List.getElem?_cons_zero, List.getElem?_cons_succ, wipeT, List.length_cons, List.length_nil, List.length_map, List.map_cons, List.map_nil, D.ty, kb1, kb2, kb3, kb4, kb5, kb6, kb7, kb8, kb9, atI_0, atI_1, atI_2, atI_3, true_and, and_true, or_false, false_or, or_true, true_or, false_and, and_false, or_self, and_self, Bool.not_true, Bool.not_false, Bool.not_not, reduceCtorEq, false_implies, forall_const, implies_true, decide_eq_true_eq, decide_eq_false_iff_not, Bool.and_eq_true, Bool.and_eq_false_iff, Bool.not_eq_true, Bool.not_eq_eq_eq_not, Bool.true_eq_false, Bool.false_eq_true, Option.map_some, Option.some.injEq, exists_eq_left, exists_eq_left', lookup_cons_eq, del_cons_eq hl]
      rw [rowsOf_snoc] at hN
      exact hN _ _ ⟨rfl, _, _, _, _, _, rfl⟩
  · rintro T M1 ⟨rfl, a, b, c, d, e, rfl⟩
    refine ⟨trivial, ?_⟩
    have hrl : (rowsOf (w.rules.zip s.stands)).length ≤ 256 := by
      have h1 := rows_len _ _ rfl hsk
      have h2 : 4 ^ (w.rules.zip s.stands).length ≤ 4 ^ 4 := Nat.pow_le_pow_right (by decide) hzl
      omega
    simp only [eVar, eInt, eBl, eNon, eStr, eB, aNil, aCons, eTup, eLst, eBin, bCmp, oAdd, oSub, oMul, oMod, oFdiv, oLt, oLe, oGt, oGe, oEq_int, oNe_int, bChain, bNot, bVal, bAnd, bOr, bIsN, bNotN, eIfx, eIx, oNone, oSome, eSl, eCall, eCall0, eBlt, fLen, fTuple, fList, fInt, fMin, fMax, bIsi, gNm, gTup, gNil, gCons, iSeq, iRng, iRng2, sNil, sSeq, sPass, sDead, sExpr, sRet, sAsg, sIf, okQ_ok, okQ_exc, to_ok, to_exc, ci1, ci2, ci3, ci4, sl0, sl1, sl2, sl3, sl4, sn1, sn2, sn3, sn4, lk_P, lk_S, lk_W, lk_R, lk_N, lk_pr, lk_int, lk_bl, lk_non, lk_str, lk_tup, lk_lst, lk_scr, not_false_eq_true, true_implies, decide_true, decide_false, not_true_eq_false, Bool.false_and, Bool.true_and, Bool.and_true, Bool.and_false, List.set_cons_zero, List.set_cons_succ, List.getElem?_cons_zero, List.getElem?_cons_succ, wipeT, List.length_cons, List.length_nil, List.length_map, List.map_cons, List.map_nil, D.ty, kb1, kb2, kb3, kb4, kb5, kb6, kb7, kb8, kb9, atI_0, atI_1, atI_2, atI_3, true_and, and_true, or_false, false_or, or_true, true_or, false_and, and_false, or_self, and_self, Bool.not_true, Bool.not_false, Bool.not_not, reduceCtorEq, false_implies, forall_const, implies_true, decide_eq_true_eq, decide_eq_false_iff_not, Bool.and_eq_true, Bool.and_eq_false_iff, Bool.not_eq_true, Bool.not_eq_eq_eq_not, Bool.true_eq_false, Bool.false_eq_true, Option.map_some, Option.some.injEq, exists_eq_left, exists_eq_left', eLc]
    refine ⟨szl _ (by omega), lc_pure (f := fun p => if meetsB (needAt w s) p = true then some (encP p) else none) trivial (rowsOf (w.rules.zip s.stands)) _ (fun p hp R hR => ?_) ?_⟩
    · have hn : atI (w.needs.map encN) (s.day : Int) = some (encN (needAt w s)) := by
        rw [atI_nat _ _ (by simpa using hs.day), List.getElem?_map]
        unfold needAt
        rw [List.getElem?_eq_getElem hs.day]
        rfl
      simp only [turnL, encW, encS, eVar, eInt, eBl, eNon, eStr, eB, aNil, aCons, eTup, eLst, eBin, bCmp, oAdd, oSub, oMul, oMod, oFdiv, oLt, oLe, oGt, oGe, oEq_int, oNe_int, bChain, bNot, bVal, bAnd, bOr, bIsN, bNotN, eIfx, eIx, oNone, oSome, eSl, eCall, eCall0, eBlt, fLen, fTuple, fList, fInt, fMin, fMax, bIsi, gNm, gTup, gNil, gCons, iSeq, iRng, iRng2, sNil, sSeq, sPass, sDead, sExpr, sRet, sAsg, sIf, okQ_ok, okQ_exc, to_ok, to_exc, ci1, ci2, ci3, ci4, sl0, sl1, sl2, sl3, sl4, sn1, sn2, sn3, sn4, lk_P, lk_S, lk_W, lk_R, lk_N, lk_pr, lk_int, lk_bl, lk_non, lk_str, lk_tup, lk_lst, lk_scr, not_false_eq_true, true_implies, decide_true, decide_false, not_true_eq_false, Bool.false_and, Bool.true_and, Bool.and_true, Bool.and_false, List.set_cons_zero, List.set_cons_succ, List.getElem?_cons_zero, List.getElem?_cons_succ, wipeT, List.length_cons, List.length_nil, List.length_map, List.map_cons, List.map_nil, D.ty, kb1, kb2, kb3, kb4, kb5, kb6, kb7, kb8, kb9, atI_0, atI_1, atI_2, atI_3, true_and, and_true, or_false, false_or, or_true, true_or, false_and, and_false, or_self, and_self, Bool.not_true, Bool.not_false, Bool.not_not, reduceCtorEq, false_implies, forall_const, implies_true, decide_eq_true_eq, decide_eq_false_iff_not, Bool.and_eq_true, Bool.and_eq_false_iff, Bool.not_eq_true, Bool.not_eq_eq_eq_not, Bool.true_eq_false, Bool.false_eq_true, Option.map_some, Option.some.injEq, exists_eq_left, exists_eq_left', hn]
      refine ⟨_, _, ⟨needAt w s, p, rfl, rfl, rfl⟩, ?_⟩
      simp only [eVar, eInt, eBl, eNon, eStr, eB, aNil, aCons, eTup, eLst, eBin, bCmp, oAdd, oSub, oMul, oMod, oFdiv, oLt, oLe, oGt, oGe, oEq_int, oNe_int, bChain, bNot, bVal, bAnd, bOr, bIsN, bNotN, eIfx, eIx, oNone, oSome, eSl, eCall, eCall0, eBlt, fLen, fTuple, fList, fInt, fMin, fMax, bIsi, gNm, gTup, gNil, gCons, iSeq, iRng, iRng2, sNil, sSeq, sPass, sDead, sExpr, sRet, sAsg, sIf, okQ_ok, okQ_exc, to_ok, to_exc, ci1, ci2, ci3, ci4, sl0, sl1, sl2, sl3, sl4, sn1, sn2, sn3, sn4, lk_P, lk_S, lk_W, lk_R, lk_N, lk_pr, lk_int, lk_bl, lk_non, lk_str, lk_tup, lk_lst, lk_scr, not_false_eq_true, true_implies, decide_true, decide_false, not_true_eq_false, Bool.false_and, Bool.true_and, Bool.and_true, Bool.and_false, List.set_cons_zero, List.set_cons_succ, List.getElem?_cons_zero, List.getElem?_cons_succ, wipeT, List.length_cons, List.length_nil, List.length_map, List.map_cons, List.map_nil, D.ty, kb1, kb2, kb3, kb4, kb5, kb6, kb7, kb8, kb9, atI_0, atI_1, atI_2, atI_3, true_and, and_true, or_false, false_or, or_true, true_or, false_and, and_false, or_self, and_self, Bool.not_true, Bool.not_false, Bool.not_not, reduceCtorEq, false_implies, forall_const, implies_true, decide_eq_true_eq, decide_eq_false_iff_not, Bool.and_eq_true, Bool.and_eq_false_iff, Bool.not_eq_true, Bool.not_eq_eq_eq_not, Bool.true_eq_false, Bool.false_eq_true, Option.map_some, Option.some.injEq, exists_eq_left, exists_eq_left']
      cases hm : meetsB (needAt w s) p with
      | true => simpa [hm] using hR
      | false => simpa [hm] using hR
    · rw [fm_if2]
      exact h
end K3

set_option Elab.async false
set_option linter.all false
set_option maxRecDepth 100000
set_option maxHeartbeats 1000000
namespace K3
open PySem J
open L2 (kitB atI)
def behind1 (w : Wd) (s : Stt) (p : List Int) : Stt := ⟨(s.day + 1) % w.needs.length, (w.rules.zip (s.stands.zip p)).map fun q => standB q.1 q.2.1 q.2.2⟩
def S_behind : FS := fun ds M r M' => ∃ (w : Wd) (s : Stt) (p : List Int), ds = [encW w, encS s, encP p] ∧ Wok w ∧ r = .ok (encS (behind1 w s p)) ∧ M' = M
theorem t_behind (w : Wd) (s : Stt) (p : List Int) (hw : Wok w) (M : Mem) (P : Po) (h : P.rt (encS (behind1 w s p)) M) : b_behind S_stand_behind [some (encW w), some (encS s), some (encP p), none, none, none, none] M P := by
  simp only [b_behind, encW, encS, encP, eVar, eInt, eBl, eNon, eStr, eB, aNil, aCons, eTup, eLst, eBin, bCmp, oAdd, oSub, oMul, oMod, oFdiv, oLt, oLe, oGt, oGe, oEq_int, oNe_int, bChain, bNot, bVal, bAnd, bOr, bIsN, bNotN, eIfx, eIx, oNone, oSome, eSl, eCall, eCall0, eBlt, fLen, fTuple, fList, fInt, fMin, fMax, bIsi, gNm, gTup, gNil, gCons, iSeq, iRng, iRng2, sNil, sSeq, sPass, sDead, sExpr, sRet, sAsg, sIf, okQ_ok, okQ_exc, to_ok, to_exc, ci1, ci2, ci3, ci4, sl0, sl1, sl2, sl3, sl4, sn1, sn2, sn3, sn4, lk_P, lk_S, lk_W, lk_R, lk_N, lk_pr, lk_int, lk_bl, lk_non, lk_str, lk_tup, lk_lst, lk_scr, not_false_eq_true, true_implies, decide_true, decide_false, not_true_eq_false, Bool.false_and, Bool.true_and, Bool.and_true, Bool.and_false, List.set_cons_zero, List.set_cons_succ, List.getElem?_cons_zero, List.getElem?_cons_succ, wipeT, List.length_cons, List.length_nil, List.length_map, List.map_cons, List.map_nil, D.ty, kb1, kb2, kb3, kb4, kb5, kb6, kb7, kb8, kb9, atI_0, atI_1, atI_2, atI_3, true_and, and_true, or_false, false_or, or_true, true_or, false_and, and_false, or_self, and_self, Bool.not_true, Bool.not_false, Bool.not_not, reduceCtorEq, false_implies, forall_const, implies_true, decide_eq_true_eq, decide_eq_false_iff_not, Bool.and_eq_true, Bool.and_eq_false_iff, Bool.not_eq_true, Bool.not_eq_eq_eq_not, Bool.true_eq_false, Bool.false_eq_true, Option.map_some, Option.some.injEq, exists_eq_left, exists_eq_left', eLc, iZi3]
  rw [zip3D_map]
  refine ⟨szl _ (by rw [List.length_map, List.length_zip]; have := hw.rl; omega), lc_map (f := fun q : Rule × ((Int × Int) × Int) => pairD (standB q.1 q.2.1 q.2.2)) trivial _ _ (fun x hx R hR => ?_) ?_⟩
  · simp only [eVar, eInt, eBl, eNon, eStr, eB, aNil, aCons, eTup, eLst, eBin, bCmp, oAdd, oSub, oMul, oMod, oFdiv, oLt, oLe, oGt, oGe, oEq_int, oNe_int, bChain, bNot, bVal, bAnd, bOr, bIsN, bNotN, eIfx, eIx, oNone, oSome, eSl, eCall, eCall0, eBlt, fLen, fTuple, fList, fInt, fMin, fMax, bIsi, gNm, gTup, gNil, gCons, iSeq, iRng, iRng2, sNil, sSeq, sPass, sDead, sExpr, sRet, sAsg, sIf, okQ_ok, okQ_exc, to_ok, to_exc, ci1, ci2, ci3, ci4, sl0, sl1, sl2, sl3, sl4, sn1, sn2, sn3, sn4, lk_P, lk_S, lk_W, lk_R, lk_N, lk_pr, lk_int, lk_bl, lk_non, lk_str, lk_tup, lk_lst, lk_scr, not_false_eq_true, true_implies, decide_true, decide_false, not_true_eq_false, Bool.false_and, Bool.true_and, Bool.and_true, Bool.and_false, List.set_cons_zero, List.set_cons_succ, List.getElem?_cons_zero, List.getElem?_cons_succ, wipeT, List.length_cons, List.length_nil, List.length_map, List.map_cons, List.map_nil, D.ty, kb1, kb2, kb3, kb4, kb5, kb6, kb7, kb8, kb9, atI_0, atI_1, atI_2, atI_3, true_and, and_true, or_false, false_or, or_true, true_or, false_and, and_false, or_self, and_self, Bool.not_true, Bool.not_false, Bool.not_not, reduceCtorEq, false_implies, forall_const, implies_true, decide_eq_true_eq, decide_eq_false_iff_not, Bool.and_eq_true, Bool.and_eq_false_iff, Bool.not_eq_true, Bool.not_eq_eq_eq_not, Bool.true_eq_false, Bool.false_eq_true, Option.map_some, Option.some.injEq, exists_eq_left, exists_eq_left']
    exact ⟨_, _, ⟨x.1, x.2.1, x.2.2, rfl, rfl, rfl⟩, hR⟩
  · refine ⟨by have := hw.nl; omega, ?_⟩
    have e1 : ((s.day : Int) + 1) % (w.needs.length : Int) = (((s.day + 1) % w.needs.length : Nat) : Int) := by
      rw [Int.natCast_emod]; rfl
    rw [e1]
    have e2 : ((w.rules.zip (s.stands.zip p)).map fun q : Rule × ((Int × Int) × Int) => pairD (standB q.1 q.2.1 q.2.2)) = (behind1 w s p).stands.map pairD := by simp [behind1, Function.comp]
    rw [e2]
    exact h
structure Pok (w : Wd) (p : List Int) : Prop where
  len : p.length = w.rules.length
  inn : ∀ s ∈ p, 0 ≤ s ∧ s ≤ w.shifts
def S_is_plan : FS := fun ds M r M' => ∃ (w : Wd) (p : List Int), ds = [encW w, encP p] ∧ (Wok w ∧ Pok w p) ∧ r = .ok (.bl true) ∧ M' = M
theorem t_is_plan (w : Wd) (p : List Int) (hw : Wok w) (hp : Pok w p) (M : Mem) (P : Po) (h : P.rt (.bl true) M) : b_is_plan S_is_whole [some (encW w), some (encP p), none] M P := by
  simp only [b_is_plan, encW, encP, eVar, eInt, eBl, eNon, eStr, eB, aNil, aCons, eTup, eLst, eBin, bCmp, oAdd, oSub, oMul, oMod, oFdiv, oLt, oLe, oGt, oGe, oEq_int, oNe_int, bChain, bNot, bVal, bAnd, bOr, bIsN, bNotN, eIfx, eIx, oNone, oSome, eSl, eCall, eCall0, eBlt, fLen, fTuple, fList, fInt, fMin, fMax, bIsi, gNm, gTup, gNil, gCons, iSeq, iRng, iRng2, sNil, sSeq, sPass, sDead, sExpr, sRet, sAsg, sIf, okQ_ok, okQ_exc, to_ok, to_exc, ci1, ci2, ci3, ci4, sl0, sl1, sl2, sl3, sl4, sn1, sn2, sn3, sn4, lk_P, lk_S, lk_W, lk_R, lk_N, lk_pr, lk_int, lk_bl, lk_non, lk_str, lk_tup, lk_lst, lk_scr, not_false_eq_true, true_implies, decide_true, decide_false, not_true_eq_false, Bool.false_and, Bool.true_and, Bool.and_true, Bool.and_false, List.set_cons_zero, List.set_cons_succ, List.getElem?_cons_zero, List.getElem?_cons_succ, wipeT, List.length_cons, List.length_nil, List.length_map, List.map_cons, List.map_nil, D.ty, kb1, kb2, kb3, kb4, kb5, kb6, kb7, kb8, kb9, atI_0, atI_1, atI_2, atI_3, true_and, and_true, or_false, false_or, or_true, true_or, false_and, and_false, or_self, and_self, Bool.not_true, Bool.not_false, Bool.not_not, reduceCtorEq, false_implies, forall_const, implies_true, decide_eq_true_eq, decide_eq_false_iff_not, Bool.and_eq_true, Bool.and_eq_false_iff, Bool.not_eq_true, Bool.not_eq_eq_eq_not, Bool.true_eq_false, Bool.false_eq_true, Option.map_some, Option.some.injEq, exists_eq_left, exists_eq_left', eLc, hp.len]
  refine ⟨szl _ (by have := hw.rl; omega), lc_map (f := fun n : Int => .bl (decide (0 ≤ n) && decide (n ≤ w.shifts))) trivial _ _ (fun x hx R hR => ?_) ?_⟩
  · simp only [eVar, eInt, eBl, eNon, eStr, eB, aNil, aCons, eTup, eLst, eBin, bCmp, oAdd, oSub, oMul, oMod, oFdiv, oLt, oLe, oGt, oGe, oEq_int, oNe_int, bChain, bNot, bVal, bAnd, bOr, bIsN, bNotN, eIfx, eIx, oNone, oSome, eSl, eCall, eCall0, eBlt, fLen, fTuple, fList, fInt, fMin, fMax, bIsi, gNm, gTup, gNil, gCons, iSeq, iRng, iRng2, sNil, sSeq, sPass, sDead, sExpr, sRet, sAsg, sIf, okQ_ok, okQ_exc, to_ok, to_exc, ci1, ci2, ci3, ci4, sl0, sl1, sl2, sl3, sl4, sn1, sn2, sn3, sn4, lk_P, lk_S, lk_W, lk_R, lk_N, lk_pr, lk_int, lk_bl, lk_non, lk_str, lk_tup, lk_lst, lk_scr, not_false_eq_true, true_implies, decide_true, decide_false, not_true_eq_false, Bool.false_and, Bool.true_and, Bool.and_true, Bool.and_false, List.set_cons_zero, List.set_cons_succ, List.getElem?_cons_zero, List.getElem?_cons_succ, wipeT, List.length_cons, List.length_nil, List.length_map, List.map_cons, List.map_nil, D.ty, kb1, kb2, kb3, kb4, kb5, kb6, kb7, kb8, kb9, atI_0, atI_1, atI_2, atI_3, true_and, and_true, or_false, false_or, or_true, true_or, false_and, and_false, or_self, and_self, Bool.not_true, Bool.not_false, Bool.not_not, reduceCtorEq, false_implies, forall_const, implies_true, decide_eq_true_eq, decide_eq_false_iff_not, Bool.and_eq_true, Bool.and_eq_false_iff, Bool.not_eq_true, Bool.not_eq_eq_eq_not, Bool.true_eq_false, Bool.false_eq_true, Option.map_some, Option.some.injEq, exists_eq_left, exists_eq_left', cl_is_whole0]
    exact hR
  · rw [all_true _ _ fun x hx => by simp [hp.inn x hx]]
    exact h
def S_need_plans : FS := fun ds M r M' => ∃ (w : Wd) (d : D) (ps : List (List Int)), ds = [encW w, d] ∧ (Wok w ∧ (∀ p ∈ ps, Pok w p) ∧ ps.length < 1000000 ∧ Src M d (ps.map encP)) ∧ r = .ok .non ∧ M' = M
theorem t_need_plans (w : Wd) (d : D) (ps : List (List Int)) (hw : Wok w) (hp : ∀ p ∈ ps, Pok w p) (hl : ps.length < 1000000) (M : Mem) (hd : Src M d (ps.map encP)) (P : Po) (h : ∀ T, P.nx T M) : b_need_plans S_is_plan [some (encW w), some d, none] M P := by
  simp only [b_need_plans, eVar, eInt, eBl, eNon, eStr, eB, aNil, aCons, eTup, eLst, eBin, bCmp, oAdd, oSub, oMul, oMod, oFdiv, oLt, oLe, oGt, oGe, oEq_int, oNe_int, bChain, bNot, bVal, bAnd, bOr, bIsN, bNotN, eIfx, eIx, oNone, oSome, eSl, eCall, eCall0, eBlt, fLen, fTuple, fList, fInt, fMin, fMax, bIsi, gNm, gTup, gNil, gCons, iRng, iRng2, sNil, sSeq, sPass, sDead, sExpr, sRet, sAsg, sIf, okQ_ok, okQ_exc, to_ok, to_exc, ci1, ci2, ci3, ci4, sl0, sl1, sl2, sl3, sl4, sn1, sn2, sn3, sn4, lk_P, lk_S, lk_W, lk_R, lk_N, lk_pr, lk_int, lk_bl, lk_non, lk_str, lk_tup, lk_lst, lk_scr, not_false_eq_true, true_implies, decide_true, decide_false, not_true_eq_false, Bool.false_and, Bool.true_and, Bool.and_true, Bool.and_false, List.set_cons_zero, List.set_cons_succ, List.getElem?_cons_zero, List.getElem?_cons_succ, wipeT, List.length_cons, List.length_nil, List.length_map, List.map_cons, List.map_nil, D.ty, kb1, kb2, kb3, kb4, kb5, kb6, kb7, kb8, kb9, atI_0, atI_1, atI_2, atI_3, true_and, and_true, or_false, false_or, or_true, true_or, false_and, and_false, or_self, and_self, Bool.not_true, Bool.not_false, Bool.not_not, reduceCtorEq, false_implies, forall_const, implies_true, decide_eq_true_eq, decide_eq_false_iff_not, Bool.and_eq_true, Bool.and_eq_false_iff, Bool.not_eq_true, Bool.not_eq_eq_eq_not, Bool.true_eq_false, Bool.false_eq_true, Option.map_some, Option.some.injEq, exists_eq_left, exists_eq_left', eLc, hd.look]
  refine iSeq_src rfl hd fun C hC => ?_
  refine ⟨szl _ (by simpa using hl), lc_map (f := fun _ => .bl true) hC ps _ (fun x hx R hR => ?_) ?_⟩
  · simp only [eVar, eInt, eBl, eNon, eStr, eB, aNil, aCons, eTup, eLst, eBin, bCmp, oAdd, oSub, oMul, oMod, oFdiv, oLt, oLe, oGt, oGe, oEq_int, oNe_int, bChain, bNot, bVal, bAnd, bOr, bIsN, bNotN, eIfx, eIx, oNone, oSome, eSl, eCall, eCall0, eBlt, fLen, fTuple, fList, fInt, fMin, fMax, bIsi, gNm, gTup, gNil, gCons, iSeq, iRng, iRng2, sNil, sSeq, sPass, sDead, sExpr, sRet, sAsg, sIf, okQ_ok, okQ_exc, to_ok, to_exc, ci1, ci2, ci3, ci4, sl0, sl1, sl2, sl3, sl4, sn1, sn2, sn3, sn4, lk_P, lk_S, lk_W, lk_R, lk_N, lk_pr, lk_int, lk_bl, lk_non, lk_str, lk_tup, lk_lst, lk_scr, not_false_eq_true, true_implies, decide_true, decide_false, not_true_eq_false, Bool.false_and, Bool.true_and, Bool.and_true, Bool.and_false, List.set_cons_zero, List.set_cons_succ, List.getElem?_cons_zero, List.getElem?_cons_succ, wipeT, List.length_cons, List.length_nil, List.length_map, List.map_cons, List.map_nil, D.ty, kb1, kb2, kb3, kb4, kb5, kb6, kb7, kb8, kb9, atI_0, atI_1, atI_2, atI_3, true_and, and_true, or_false, false_or, or_true, true_or, false_and, and_false, or_self, and_self, Bool.not_true, Bool.not_false, Bool.not_not, reduceCtorEq, false_implies, forall_const, implies_true, decide_eq_true_eq, decide_eq_false_iff_not, Bool.and_eq_true, Bool.and_eq_false_iff, Bool.not_eq_true, Bool.not_eq_eq_eq_not, Bool.true_eq_false, Bool.false_eq_true, Option.map_some, Option.some.injEq, exists_eq_left, exists_eq_left']
    exact ⟨_, _, ⟨w, x, rfl, ⟨hw, hp x hx⟩, rfl, rfl⟩, hR⟩
  · rw [all_true _ _ fun _ _ => rfl]
    simp only [eVar, eInt, eBl, eNon, eStr, eB, aNil, aCons, eTup, eLst, eBin, bCmp, oAdd, oSub, oMul, oMod, oFdiv, oLt, oLe, oGt, oGe, oEq_int, oNe_int, bChain, bNot, bVal, bAnd, bOr, bIsN, bNotN, eIfx, eIx, oNone, oSome, eSl, eCall, eCall0, eBlt, fLen, fTuple, fList, fInt, fMin, fMax, bIsi, gNm, gTup, gNil, gCons, iSeq, iRng, iRng2, sNil, sSeq, sPass, sDead, sExpr, sRet, sAsg, sIf, okQ_ok, okQ_exc, to_ok, to_exc, ci1, ci2, ci3, ci4, sl0, sl1, sl2, sl3, sl4, sn1, sn2, sn3, sn4, lk_P, lk_S, lk_W, lk_R, lk_N, lk_pr, lk_int, lk_bl, lk_non, lk_str, lk_tup, lk_lst, lk_scr, not_false_eq_true, true_implies, decide_true, decide_false, not_true_eq_false, Bool.false_and, Bool.true_and, Bool.and_true, Bool.and_false, List.set_cons_zero, List.set_cons_succ, List.getElem?_cons_zero, List.getElem?_cons_succ, wipeT, List.length_cons, List.length_nil, List.length_map, List.map_cons, List.map_nil, D.ty, kb1, kb2, kb3, kb4, kb5, kb6, kb7, kb8, kb9, atI_0, atI_1, atI_2, atI_3, true_and, and_true, or_false, false_or, or_true, true_or, false_and, and_false, or_self, and_self, Bool.not_true, Bool.not_false, Bool.not_not, reduceCtorEq, false_implies, forall_const, implies_true, decide_eq_true_eq, decide_eq_false_iff_not, Bool.and_eq_true, Bool.and_eq_false_iff, Bool.not_eq_true, Bool.not_eq_eq_eq_not, Bool.true_eq_false, Bool.false_eq_true, Option.map_some, Option.some.injEq, exists_eq_left, exists_eq_left']
    exact h _
def walkS (w : Wd) (s : Stt) (ps : List (List Int)) : Stt := ps.foldl (behind1 w) s
def WalkOk (w : Wd) : Stt → List (List Int) → Prop
  | _, [] => True
  | s, p :: ps => p ∈ plansAt w s ∧ WalkOk w (behind1 w s p) ps
theorem walkOk_append (w : Wd) : ∀ (ps qs : List (List Int)) (s : Stt), WalkOk w s (ps ++ qs) ↔ WalkOk w s ps ∧ WalkOk w (walkS w s ps) qs
  | [], qs, s => by simp [WalkOk, walkS]
  | p :: ps, qs, s => by
    have ih := walkOk_append w ps qs (behind1 w s p)
    simp only [List.cons_append, WalkOk, ih, walkS, List.foldl_cons, and_assoc]
theorem plansAt_len {w : Wd} {s : Stt} (hs : Sok w s) {p : List Int} (h : p ∈ plansAt w s) : p.length = w.rules.length := by
  have h1 := rows_mem _ _ rfl p (List.mem_filter.mp h).1
  rw [h1, List.length_zip, hs.len]
  omega
theorem behind_ok {w : Wd} {s : Stt} {p : List Int} (hw : Wok w) (hs : Sok w s) (hp : p.length = w.rules.length) : Sok w (behind1 w s p) := ⟨Nat.mod_lt _ (by have := hw.nl; omega), by
  simp only [behind1, List.length_map, List.length_zip, hs.len, hp]
  omega⟩
theorem begin_ok {w : Wd} (hw : Wok w) : Sok w (begin1 w) := ⟨by have := hw.nl; simp only [begin1]; omega, by simp [begin1]⟩
theorem walk_ok {w : Wd} (hw : Wok w) : ∀ (ps : List (List Int)) (s : Stt), Sok w s → WalkOk w s ps → Sok w (walkS w s ps)
  | [], s, hs, _ => hs
  | p :: ps, s, hs, h => walk_ok hw ps _ (behind_ok hw hs (plansAt_len hs h.1)) h.2
theorem en_plan : En 1 encP := en_tup en_int
def S_walk : FS := fun ds M r M' => ∃ (w : Wd) (s : Stt) (d : D) (ps : List (List Int)), ds = [encW w, encS s, d] ∧ (Wok w ∧ Sok w s ∧ WalkOk w s ps ∧ Src M d (ps.map encP)) ∧ r = .ok (encS (walkS w s ps)) ∧ M' = M
theorem t_walk (w : Wd) (s : Stt) (d : D) (ps : List (List Int)) (hw : Wok w) (hs : Sok w s) (hk : WalkOk w s ps) (M : Mem) (hd : Src M d (ps.map encP)) (P : Po) (h : P.rt (encS (walkS w s ps)) M) : b_walk S_behind S_plans_at [some (encW w), some (encS s), some d, none, none] M P := by
  simp only [b_walk, sFor, sSeq]
  refine iEnum_src rfl hd fun C hC => ?_
  rw [enumD_map]
  refine for_pre (fun pre T M' => M' = M ∧ ∃ a b, T = [some (encW w), some (encS (walkS w s (pre.map Prod.fst))), some d, a, b]) _ ?_ ?_ ⟨rfl, _, _, rfl⟩
  · rintro pre ⟨p, i⟩ post hx T M1 N ⟨rfl, a, b, rfl⟩ hN
    refine ⟨hC, ?_⟩
    have e : ps = pre.map Prod.fst ++ p :: post.map Prod.fst := by
      have := congrArg (List.map Prod.fst) hx
      simpa using this
    rw [e, walkOk_append] at hk
    have hs1 := walk_ok hw _ _ hs hk.1
    simp only [eVar, eInt, eBl, eNon, eStr, eB, aNil, aCons, eTup, eLst, eBin, bCmp, oAdd, oSub, oMul, oMod, oFdiv, oLt, oLe, oGt, oGe, oEq_int, oNe_int, bChain, bNot, bVal, bAnd, bOr, bIsN, bNotN, eIfx, eIx, oNone, oSome, eSl, eCall, eCall0, eBlt, fLen, fTuple, fList, fInt, fMin, fMax, bIsi, gNm, gTup, gNil, gCons, iSeq, iRng, iRng2, sNil, sSeq, sPass, sDead, sExpr, sRet, sAsg, sIf, okQ_ok, okQ_exc, to_ok, to_exc, ci1, ci2, ci3, ci4, sl0, sl1, sl2, sl3, sl4, sn1, sn2, sn3, sn4, lk_P, lk_S, lk_W, lk_R, lk_N, lk_pr, lk_int, lk_bl, lk_non, lk_str, lk_tup, lk_lst, lk_scr, not_false_eq_true, true_implies, decide_true, decide_false, not_true_eq_false, Bool.false_and, Bool.true_and, Bool.and_true, Bool.and_false, List.set_cons_zero, List.set_cons_succ, List.getElem?_cons_zero, List.getElem?_cons_succ, wipeT, List.length_cons, List.length_nil, List.length_map, List.map_cons, List.map_nil, D.ty, kb1, kb2, kb3, kb4, kb5, kb6, kb7, kb8, kb9, atI_0, atI_1, atI_2, atI_3, true_and, and_true, or_false, false_or, or_true, true_or, false_and, and_false, or_self, and_self, Bool.not_true, Bool.not_false, Bool.not_not, reduceCtorEq, false_implies, forall_const, implies_true, decide_eq_true_eq, decide_eq_false_iff_not, Bool.and_eq_true, Bool.and_eq_false_iff, Bool.not_eq_true, Bool.not_eq_eq_eq_not, Bool.true_eq_false, Bool.false_eq_true, Option.map_some, Option.some.injEq, exists_eq_left, exists_eq_left']
    refine ⟨_, _, ⟨w, _, rfl, ⟨hw, hs1⟩, rfl, rfl⟩, ?_⟩
    simp only [eVar, eInt, eBl, eNon, eStr, eB, aNil, aCons, eTup, eLst, eBin, bCmp, oAdd, oSub, oMul, oMod, oFdiv, oLt, oLe, oGt, oGe, oEq_int, oNe_int, bChain, bNot, bVal, bAnd, bOr, bIsN, bNotN, eIfx, eIx, oNone, oSome, eSl, eCall, eCall0, eBlt, fLen, fTuple, fList, fInt, fMin, fMax, bIsi, gNm, gTup, gNil, gCons, iSeq, iRng, iRng2, sNil, sSeq, sPass, sDead, sExpr, sRet, sAsg, sIf, okQ_ok, okQ_exc, to_ok, to_exc, ci1, ci2, ci3, ci4, sl0, sl1, sl2, sl3, sl4, sn1, sn2, sn3, sn4, lk_P, lk_S, lk_W, lk_R, lk_N, lk_pr, lk_int, lk_bl, lk_non, lk_str, lk_tup, lk_lst, lk_scr, not_false_eq_true, true_implies, decide_true, decide_false, not_true_eq_false, Bool.false_and, Bool.true_and, Bool.and_true, Bool.and_false, List.set_cons_zero, List.set_cons_succ, List.getElem?_cons_zero, List.getElem?_cons_succ, wipeT, List.length_cons, List.length_nil, List.length_map, List.map_cons, List.map_nil, D.ty, kb1, kb2, kb3, kb4, kb5, kb6, kb7, kb8, kb9, atI_0, atI_1, atI_2, atI_3, true_and, and_true, or_false, false_or, or_true, true_or, false_and, and_false, or_self, and_self, Bool.not_true, Bool.not_false, Bool.not_not, reduceCtorEq, false_implies, forall_const, implies_true, decide_eq_true_eq, decide_eq_false_iff_not, Bool.and_eq_true, Bool.and_eq_false_iff, Bool.not_eq_true, Bool.not_eq_eq_eq_not, Bool.true_eq_false, Bool.false_eq_true, Option.map_some, Option.some.injEq, exists_eq_left, exists_eq_left']
    rw [oNinL_en (n := 1) en_plan (by decide) p]
    have hin : p ∈ plansAt w (walkS w s (pre.map Prod.fst)) := hk.2.1
    simp only [hin, eVar, eInt, eBl, eNon, eStr, eB, aNil, aCons, eTup, eLst, eBin, bCmp, oAdd, oSub, oMul, oMod, oFdiv, oLt, oLe, oGt, oGe, oEq_int, oNe_int, bChain, bNot, bVal, bAnd, bOr, bIsN, bNotN, eIfx, eIx, oNone, oSome, eSl, eCall, eCall0, eBlt, fLen, fTuple, fList, fInt, fMin, fMax, bIsi, gNm, gTup, gNil, gCons, iSeq, iRng, iRng2, sNil, sSeq, sPass, sDead, sExpr, sRet, sAsg, sIf, okQ_ok, okQ_exc, to_ok, to_exc, ci1, ci2, ci3, ci4, sl0, sl1, sl2, sl3, sl4, sn1, sn2, sn3, sn4, lk_P, lk_S, lk_W, lk_R, lk_N, lk_pr, lk_int, lk_bl, lk_non, lk_str, lk_tup, lk_lst, lk_scr, not_false_eq_true, true_implies, decide_true, decide_false, not_true_eq_false, Bool.false_and, Bool.true_and, Bool.and_true, Bool.and_false, List.set_cons_zero, List.set_cons_succ, List.getElem?_cons_zero, List.getElem?_cons_succ, wipeT, List.length_cons, List.length_nil, List.length_map, List.map_cons, List.map_nil, D.ty, kb1, kb2, kb3, kb4, kb5, kb6, kb7, kb8, kb9, atI_0, atI_1, atI_2, atI_3, true_and, and_true, or_false, false_or, or_true, true_or, false_and, and_false, or_self, and_self, Bool.not_true, Bool.not_false, Bool.not_not, reduceCtorEq, false_implies, forall_const, implies_true, decide_eq_true_eq, decide_eq_false_iff_not, Bool.and_eq_true, Bool.and_eq_false_iff, Bool.not_eq_true, Bool.not_eq_eq_eq_not, Bool.true_eq_false, Bool.false_eq_true, Option.map_some, Option.some.injEq, exists_eq_left, exists_eq_left']
    refine ⟨_, _, ⟨w, _, p, rfl, hw, rfl, rfl⟩, ?_⟩
    simp only [eVar, eInt, eBl, eNon, eStr, eB, aNil, aCons, eTup, eLst, eBin, bCmp, oAdd, oSub, oMul, oMod, oFdiv, oLt, oLe, oGt, oGe, oEq_int, oNe_int, bChain, bNot, bVal, bAnd, bOr, bIsN, bNotN, eIfx, eIx, oNone, oSome, eSl, eCall, eCall0, eBlt, fLen, fTuple, fList, fInt, fMin, fMax, bIsi, gNm, gTup, gNil, gCons, iSeq, iRng, iRng2, sNil, sSeq, sPass, sDead, sExpr, sRet, sAsg, sIf, okQ_ok, okQ_exc, to_ok, to_exc, ci1, ci2, ci3, ci4, sl0, sl1, sl2, sl3, sl4, sn1, sn2, sn3, sn4, lk_P, lk_S, lk_W, lk_R, lk_N, lk_pr, lk_int, lk_bl, lk_non, lk_str, lk_tup, lk_lst, lk_scr, not_false_eq_true, true_implies, decide_true, decide_false, not_true_eq_false, Bool.false_and, Bool.true_and, Bool.and_true, Bool.and_false, List.set_cons_zero, List.set_cons_succ, List.getElem?_cons_zero, List.getElem?_cons_succ, wipeT, List.length_cons, List.length_nil, List.length_map, List.map_cons, List.map_nil, D.ty, kb1, kb2, kb3, kb4, kb5, kb6, kb7, kb8, kb9, atI_0, atI_1, atI_2, atI_3, true_and, and_true, or_false, false_or, or_true, true_or, false_and, and_false, or_self, and_self, Bool.not_true, Bool.not_false, Bool.not_not, reduceCtorEq, false_implies, forall_const, implies_true, decide_eq_true_eq, decide_eq_false_iff_not, Bool.and_eq_true, Bool.and_eq_false_iff, Bool.not_eq_true, Bool.not_eq_eq_eq_not, Bool.true_eq_false, Bool.false_eq_true, Option.map_some, Option.some.injEq, exists_eq_left, exists_eq_left']
    have e2 : walkS w s ((pre ++ [(p, i)]).map Prod.fst) = behind1 w (walkS w s (pre.map Prod.fst)) p := by simp [walkS]
    rw [e2] at hN
    exact hN _ _ ⟨rfl, _, _, rfl⟩
  · rintro T M1 ⟨rfl, a, b, rfl⟩
    refine ⟨hC, ?_⟩
    simp only [eVar, eInt, eBl, eNon, eStr, eB, aNil, aCons, eTup, eLst, eBin, bCmp, oAdd, oSub, oMul, oMod, oFdiv, oLt, oLe, oGt, oGe, oEq_int, oNe_int, bChain, bNot, bVal, bAnd, bOr, bIsN, bNotN, eIfx, eIx, oNone, oSome, eSl, eCall, eCall0, eBlt, fLen, fTuple, fList, fInt, fMin, fMax, bIsi, gNm, gTup, gNil, gCons, iSeq, iRng, iRng2, sNil, sSeq, sPass, sDead, sExpr, sRet, sAsg, sIf, okQ_ok, okQ_exc, to_ok, to_exc, ci1, ci2, ci3, ci4, sl0, sl1, sl2, sl3, sl4, sn1, sn2, sn3, sn4, lk_P, lk_S, lk_W, lk_R, lk_N, lk_pr, lk_int, lk_bl, lk_non, lk_str, lk_tup, lk_lst, lk_scr, not_false_eq_true, true_implies, decide_true, decide_false, not_true_eq_false, Bool.false_and, Bool.true_and, Bool.and_true, Bool.and_false, List.set_cons_zero, List.set_cons_succ, List.getElem?_cons_zero, List.getElem?_cons_succ, wipeT, List.length_cons, List.length_nil, List.length_map, List.map_cons, List.map_nil, D.ty, kb1, kb2, kb3, kb4, kb5, kb6, kb7, kb8, kb9, atI_0, atI_1, atI_2, atI_3, true_and, and_true, or_false, false_or, or_true, true_or, false_and, and_false, or_self, and_self, Bool.not_true, Bool.not_false, Bool.not_not, reduceCtorEq, false_implies, forall_const, implies_true, decide_eq_true_eq, decide_eq_false_iff_not, Bool.and_eq_true, Bool.and_eq_false_iff, Bool.not_eq_true, Bool.not_eq_eq_eq_not, Bool.true_eq_false, Bool.false_eq_true, Option.map_some, Option.some.injEq, exists_eq_left, exists_eq_left']
    have e : ps.zipIdx.map Prod.fst = ps := by simp
    rw [e]
    exact h
def S_state_behind : FS := fun ds M r M' => ∃ (w : Wd) (d : D) (ps : List (List Int)), ds = [encW w, d] ∧ (Wok w ∧ (∀ p ∈ ps, Pok w p) ∧ ps.length < 1000000 ∧ WalkOk w (begin1 w) ps ∧ Src M d (ps.map encP)) ∧ r = .ok (encS (walkS w (begin1 w) ps)) ∧ M' = M
theorem t_state_behind (w : Wd) (d : D) (ps : List (List Int)) (hw : Wok w) (hp : ∀ p ∈ ps, Pok w p) (hl : ps.length < 1000000) (hk : WalkOk w (begin1 w) ps) (M : Mem) (hd : Src M d (ps.map encP)) (P : Po) (h : P.rt (encS (walkS w (begin1 w) ps)) M) : b_state_behind S_need_world S_need_plans S_walk S_begin [some (encW w), some d] M P := by
  simp only [b_state_behind, eVar, eInt, eBl, eNon, eStr, eB, aNil, aCons, eTup, eLst, eBin, bCmp, oAdd, oSub, oMul, oMod, oFdiv, oLt, oLe, oGt, oGe, oEq_int, oNe_int, bChain, bNot, bVal, bAnd, bOr, bIsN, bNotN, eIfx, eIx, oNone, oSome, eSl, eCall, eCall0, eBlt, fLen, fTuple, fList, fInt, fMin, fMax, bIsi, gNm, gTup, gNil, gCons, iSeq, iRng, iRng2, sNil, sSeq, sPass, sDead, sExpr, sRet, sAsg, sIf, okQ_ok, okQ_exc, to_ok, to_exc, ci1, ci2, ci3, ci4, sl0, sl1, sl2, sl3, sl4, sn1, sn2, sn3, sn4, lk_P, lk_S, lk_W, lk_R, lk_N, lk_pr, lk_int, lk_bl, lk_non, lk_str, lk_tup, lk_lst, lk_scr, not_false_eq_true, true_implies, decide_true, decide_false, not_true_eq_false, Bool.false_and, Bool.true_and, Bool.and_true, Bool.and_false, List.set_cons_zero, List.set_cons_succ, List.getElem?_cons_zero, List.getElem?_cons_succ, wipeT, List.length_cons, List.length_nil, List.length_map, List.map_cons, List.map_nil, D.ty, kb1, kb2, kb3, kb4, kb5, kb6, kb7, kb8, kb9, atI_0, atI_1, atI_2, atI_3, true_and, and_true, or_false, false_or, or_true, true_or, false_and, and_false, or_self, and_self, Bool.not_true, Bool.not_false, Bool.not_not, reduceCtorEq, false_implies, forall_const, implies_true, decide_eq_true_eq, decide_eq_false_iff_not, Bool.and_eq_true, Bool.and_eq_false_iff, Bool.not_eq_true, Bool.not_eq_eq_eq_not, Bool.true_eq_false, Bool.false_eq_true, Option.map_some, Option.some.injEq, exists_eq_left, exists_eq_left']
  refine ⟨_, _, ⟨w, rfl, hw, rfl, rfl⟩, ?_⟩
  simp only [eVar, eInt, eBl, eNon, eStr, eB, aNil, aCons, eTup, eLst, eBin, bCmp, oAdd, oSub, oMul, oMod, oFdiv, oLt, oLe, oGt, oGe, oEq_int, oNe_int, bChain, bNot, bVal, bAnd, bOr, bIsN, bNotN, eIfx, eIx, oNone, oSome, eSl, eCall, eCall0, eBlt, fLen, fTuple, fList, fInt, fMin, fMax, bIsi, gNm, gTup, gNil, gCons, iSeq, iRng, iRng2, sNil, sSeq, sPass, sDead, sExpr, sRet, sAsg, sIf, okQ_ok, okQ_exc, to_ok, to_exc, ci1, ci2, ci3, ci4, sl0, sl1, sl2, sl3, sl4, sn1, sn2, sn3, sn4, lk_P, lk_S, lk_W, lk_R, lk_N, lk_pr, lk_int, lk_bl, lk_non, lk_str, lk_tup, lk_lst, lk_scr, not_false_eq_true, true_implies, decide_true, decide_false, not_true_eq_false, Bool.false_and, Bool.true_and, Bool.and_true, Bool.and_false, List.set_cons_zero, List.set_cons_succ, List.getElem?_cons_zero, List.getElem?_cons_succ, wipeT, List.length_cons, List.length_nil, List.length_map, List.map_cons, List.map_nil, D.ty, kb1, kb2, kb3, kb4, kb5, kb6, kb7, kb8, kb9, atI_0, atI_1, atI_2, atI_3, true_and, and_true, or_false, false_or, or_true, true_or, false_and, and_false, or_self, and_self, Bool.not_true, Bool.not_false, Bool.not_not, reduceCtorEq, false_implies, forall_const, implies_true, decide_eq_true_eq, decide_eq_false_iff_not, Bool.and_eq_true, Bool.and_eq_false_iff, Bool.not_eq_true, Bool.not_eq_eq_eq_not, Bool.true_eq_false, Bool.false_eq_true, Option.map_some, Option.some.injEq, exists_eq_left, exists_eq_left']
  refine ⟨_, _, ⟨w, d, ps, rfl, ⟨hw, hp, hl, hd⟩, rfl, rfl⟩, ?_⟩
  simp only [eVar, eInt, eBl, eNon, eStr, eB, aNil, aCons, eTup, eLst, eBin, bCmp, oAdd, oSub, oMul, oMod, oFdiv, oLt, oLe, oGt, oGe, oEq_int, oNe_int, bChain, bNot, bVal, bAnd, bOr, bIsN, bNotN, eIfx, eIx, oNone, oSome, eSl, eCall, eCall0, eBlt, fLen, fTuple, fList, fInt, fMin, fMax, bIsi, gNm, gTup, gNil, gCons, iSeq, iRng, iRng2, sNil, sSeq, sPass, sDead, sExpr, sRet, sAsg, sIf, okQ_ok, okQ_exc, to_ok, to_exc, ci1, ci2, ci3, ci4, sl0, sl1, sl2, sl3, sl4, sn1, sn2, sn3, sn4, lk_P, lk_S, lk_W, lk_R, lk_N, lk_pr, lk_int, lk_bl, lk_non, lk_str, lk_tup, lk_lst, lk_scr, not_false_eq_true, true_implies, decide_true, decide_false, not_true_eq_false, Bool.false_and, Bool.true_and, Bool.and_true, Bool.and_false, List.set_cons_zero, List.set_cons_succ, List.getElem?_cons_zero, List.getElem?_cons_succ, wipeT, List.length_cons, List.length_nil, List.length_map, List.map_cons, List.map_nil, D.ty, kb1, kb2, kb3, kb4, kb5, kb6, kb7, kb8, kb9, atI_0, atI_1, atI_2, atI_3, true_and, and_true, or_false, false_or, or_true, true_or, false_and, and_false, or_self, and_self, Bool.not_true, Bool.not_false, Bool.not_not, reduceCtorEq, false_implies, forall_const, implies_true, decide_eq_true_eq, decide_eq_false_iff_not, Bool.and_eq_true, Bool.and_eq_false_iff, Bool.not_eq_true, Bool.not_eq_eq_eq_not, Bool.true_eq_false, Bool.false_eq_true, Option.map_some, Option.some.injEq, exists_eq_left, exists_eq_left']
  refine ⟨_, _, ⟨w, rfl, hw, rfl, rfl⟩, ?_⟩
  simp only [eVar, eInt, eBl, eNon, eStr, eB, aNil, aCons, eTup, eLst, eBin, bCmp, oAdd, oSub, oMul, oMod, oFdiv, oLt, oLe, oGt, oGe, oEq_int, oNe_int, bChain, bNot, bVal, bAnd, bOr, bIsN, bNotN, eIfx, eIx, oNone, oSome, eSl, eCall, eCall0, eBlt, fLen, fTuple, fList, fInt, fMin, fMax, bIsi, gNm, gTup, gNil, gCons, iSeq, iRng, iRng2, sNil, sSeq, sPass, sDead, sExpr, sRet, sAsg, sIf, okQ_ok, okQ_exc, to_ok, to_exc, ci1, ci2, ci3, ci4, sl0, sl1, sl2, sl3, sl4, sn1, sn2, sn3, sn4, lk_P, lk_S, lk_W, lk_R, lk_N, lk_pr, lk_int, lk_bl, lk_non, lk_str, lk_tup, lk_lst, lk_scr, not_false_eq_true, true_implies, decide_true, decide_false, not_true_eq_false, Bool.false_and, Bool.true_and, Bool.and_true, Bool.and_false, List.set_cons_zero, List.set_cons_succ, List.getElem?_cons_zero, List.getElem?_cons_succ, wipeT, List.length_cons, List.length_nil, List.length_map, List.map_cons, List.map_nil, D.ty, kb1, kb2, kb3, kb4, kb5, kb6, kb7, kb8, kb9, atI_0, atI_1, atI_2, atI_3, true_and, and_true, or_false, false_or, or_true, true_or, false_and, and_false, or_self, and_self, Bool.not_true, Bool.not_false, Bool.not_not, reduceCtorEq, false_implies, forall_const, implies_true, decide_eq_true_eq, decide_eq_false_iff_not, Bool.and_eq_true, Bool.and_eq_false_iff, Bool.not_eq_true, Bool.not_eq_eq_eq_not, Bool.true_eq_false, Bool.false_eq_true, Option.map_some, Option.some.injEq, exists_eq_left, exists_eq_left']
  exact ⟨_, _, ⟨w, _, d, ps, rfl, ⟨hw, begin_ok hw, hk, hd⟩, rfl, rfl⟩, h⟩
def S_next_plans : FS := fun ds M r M' => ∃ (w : Wd) (d : D) (ps : List (List Int)), ds = [encW w, d] ∧ (Wok w ∧ (∀ p ∈ ps, Pok w p) ∧ ps.length < 1000000 ∧ WalkOk w (begin1 w) ps ∧ Src M d (ps.map encP)) ∧ r = .ok (.lst ((plansAt w (walkS w (begin1 w) ps)).map encP)) ∧ M' = M
theorem t_next_plans (w : Wd) (d : D) (ps : List (List Int)) (hw : Wok w) (hp : ∀ p ∈ ps, Pok w p) (hl : ps.length < 1000000) (hk : WalkOk w (begin1 w) ps) (M : Mem) (hd : Src M d (ps.map encP)) (P : Po) (h : P.rt (.lst ((plansAt w (walkS w (begin1 w) ps)).map encP)) M) : b_next_plans S_plans_at S_state_behind [some (encW w), some d] M P := by
  simp only [b_next_plans, eVar, eInt, eBl, eNon, eStr, eB, aNil, aCons, eTup, eLst, eBin, bCmp, oAdd, oSub, oMul, oMod, oFdiv, oLt, oLe, oGt, oGe, oEq_int, oNe_int, bChain, bNot, bVal, bAnd, bOr, bIsN, bNotN, eIfx, eIx, oNone, oSome, eSl, eCall, eCall0, eBlt, fLen, fTuple, fList, fInt, fMin, fMax, bIsi, gNm, gTup, gNil, gCons, iSeq, iRng, iRng2, sNil, sSeq, sPass, sDead, sExpr, sRet, sAsg, sIf, okQ_ok, okQ_exc, to_ok, to_exc, ci1, ci2, ci3, ci4, sl0, sl1, sl2, sl3, sl4, sn1, sn2, sn3, sn4, lk_P, lk_S, lk_W, lk_R, lk_N, lk_pr, lk_int, lk_bl, lk_non, lk_str, lk_tup, lk_lst, lk_scr, not_false_eq_true, true_implies, decide_true, decide_false, not_true_eq_false, Bool.false_and, Bool.true_and, Bool.and_true, Bool.and_false, List.set_cons_zero, List.set_cons_succ, List.getElem?_cons_zero, List.getElem?_cons_succ, wipeT, List.length_cons, List.length_nil, List.length_map, List.map_cons, List.map_nil, D.ty, kb1, kb2, kb3, kb4, kb5, kb6, kb7, kb8, kb9, atI_0, atI_1, atI_2, atI_3, true_and, and_true, or_false, false_or, or_true, true_or, false_and, and_false, or_self, and_self, Bool.not_true, Bool.not_false, Bool.not_not, reduceCtorEq, false_implies, forall_const, implies_true, decide_eq_true_eq, decide_eq_false_iff_not, Bool.and_eq_true, Bool.and_eq_false_iff, Bool.not_eq_true, Bool.not_eq_eq_eq_not, Bool.true_eq_false, Bool.false_eq_true, Option.map_some, Option.some.injEq, exists_eq_left, exists_eq_left']
  refine ⟨_, _, ⟨w, d, ps, rfl, ⟨hw, hp, hl, hk, hd⟩, rfl, rfl⟩, ?_⟩
  simp only [eVar, eInt, eBl, eNon, eStr, eB, aNil, aCons, eTup, eLst, eBin, bCmp, oAdd, oSub, oMul, oMod, oFdiv, oLt, oLe, oGt, oGe, oEq_int, oNe_int, bChain, bNot, bVal, bAnd, bOr, bIsN, bNotN, eIfx, eIx, oNone, oSome, eSl, eCall, eCall0, eBlt, fLen, fTuple, fList, fInt, fMin, fMax, bIsi, gNm, gTup, gNil, gCons, iSeq, iRng, iRng2, sNil, sSeq, sPass, sDead, sExpr, sRet, sAsg, sIf, okQ_ok, okQ_exc, to_ok, to_exc, ci1, ci2, ci3, ci4, sl0, sl1, sl2, sl3, sl4, sn1, sn2, sn3, sn4, lk_P, lk_S, lk_W, lk_R, lk_N, lk_pr, lk_int, lk_bl, lk_non, lk_str, lk_tup, lk_lst, lk_scr, not_false_eq_true, true_implies, decide_true, decide_false, not_true_eq_false, Bool.false_and, Bool.true_and, Bool.and_true, Bool.and_false, List.set_cons_zero, List.set_cons_succ, List.getElem?_cons_zero, List.getElem?_cons_succ, wipeT, List.length_cons, List.length_nil, List.length_map, List.map_cons, List.map_nil, D.ty, kb1, kb2, kb3, kb4, kb5, kb6, kb7, kb8, kb9, atI_0, atI_1, atI_2, atI_3, true_and, and_true, or_false, false_or, or_true, true_or, false_and, and_false, or_self, and_self, Bool.not_true, Bool.not_false, Bool.not_not, reduceCtorEq, false_implies, forall_const, implies_true, decide_eq_true_eq, decide_eq_false_iff_not, Bool.and_eq_true, Bool.and_eq_false_iff, Bool.not_eq_true, Bool.not_eq_eq_eq_not, Bool.true_eq_false, Bool.false_eq_true, Option.map_some, Option.some.injEq, exists_eq_left, exists_eq_left']
  exact ⟨_, _, ⟨w, _, rfl, ⟨hw, walk_ok hw _ _ (begin_ok hw) hk⟩, rfl, rfl⟩, h⟩
end K3

set_option Elab.async false
set_option linter.all false
set_option maxRecDepth 100000
set_option maxHeartbeats 1000000
namespace K3
open PySem J
open L2 (kitB atI CMul)
def cellAt (sc : List Int) (k : Nat) : Int := if h : k < sc.length then sc[k] else if h : sc = [] then 0 else sc[k % sc.length]'(Nat.mod_lt _ (List.length_pos_iff.mpr h)) * 31 + (k : Int)
def S__law_cell_at : FS := fun ds M r M' => ∃ (sc : List Int) (k : Nat), ds = [.scr sc, .int (k : Int)] ∧ r = .ok (.int (cellAt sc k)) ∧ M' = M
theorem t__law_cell_at (sc : List Int) (k : Nat) (M : Mem) (P : Po) (h : P.rt (.int (cellAt sc k)) M) : b__law_cell_at [some (.scr sc), some (.int (k : Int))] M P := by
  have e0 : ∀ K : Bool → Prop, oEq (.scr sc) (.lst []) K ↔ K (decide (sc = [])) := fun K => by
    unfold oEq
    have : D.eqv (.scr sc) (.lst []) = decide (sc = []) := by
      cases sc <;> simp [D.eqv, D.py, D.pys, PyData.eqv, PyData.eqvAll]
    rw [this]
    simp [D.pure, D.pures, D.dep, D.py, D.pys, PyData.depth, PyData.depthAll]
  simp only [b__law_cell_at, eVar, eInt, eBl, eNon, eStr, eB, aNil, aCons, eTup, eLst, eBin, bCmp, oAdd, oSub, oMul, oMod, oFdiv, oLt, oLe, oGt, oGe, oEq_int, oNe_int, bChain, bNot, bVal, bAnd, bOr, bIsN, bNotN, eIfx, eIx, oNone, oSome, eSl, eCall, eCall0, eBlt, fLen, fTuple, fList, fInt, fMin, fMax, bIsi, gNm, gTup, gNil, gCons, iSeq, iRng, iRng2, sNil, sSeq, sPass, sDead, sExpr, sRet, sAsg, sIf, okQ_ok, okQ_exc, to_ok, to_exc, ci1, ci2, ci3, ci4, sl0, sl1, sl2, sl3, sl4, sn1, sn2, sn3, sn4, lk_P, lk_S, lk_W, lk_R, lk_N, lk_pr, lk_int, lk_bl, lk_non, lk_str, lk_tup, lk_lst, lk_scr, not_false_eq_true, true_implies, decide_true, decide_false, not_true_eq_false, Bool.false_and, Bool.true_and, Bool.and_true, Bool.and_false, List.set_cons_zero, List.set_cons_succ, List.getElem?_cons_zero, List.getElem?_cons_succ, wipeT, List.length_cons, List.length_nil, List.length_map, List.map_cons, List.map_nil, D.ty, kb1, kb2, kb3, kb4, kb5, kb6, kb7, kb8, kb9, atI_0, atI_1, atI_2, atI_3, true_and, and_true, or_false, false_or, or_true, true_or, false_and, and_false, or_self, and_self, Bool.not_true, Bool.not_false, Bool.not_not, reduceCtorEq, false_implies, forall_const, implies_true, decide_eq_true_eq, decide_eq_false_iff_not, Bool.and_eq_true, Bool.and_eq_false_iff, Bool.not_eq_true, Bool.not_eq_eq_eq_not, Bool.true_eq_false, Bool.false_eq_true, Option.map_some, Option.some.injEq, exists_eq_left, exists_eq_left', e0]
  unfold cellAt at h
  refine ⟨fun h1 => ?_, fun h1 => ⟨fun h2 => ?_, fun h2 => ?_⟩⟩
  · have h1' : k < sc.length := by omega
    rw [dif_pos h1'] at h
    rw [atI_nat _ _ h1', List.getElem?_eq_getElem h1']
    exact h
  · have h1' : ¬ k < sc.length := by omega
    rw [dif_neg h1', dif_pos h2] at h
    exact h
  · have h1' : ¬ k < sc.length := by omega
    rw [dif_neg h1', dif_neg h2] at h
    have hp : 0 < sc.length := List.length_pos_iff.mpr h2
    refine ⟨by omega, ?_⟩
    have e1 : (k : Int) % (sc.length : Int) = ((k % sc.length : Nat) : Int) := by rw [Int.natCast_emod]
    have hm : k % sc.length < sc.length := Nat.mod_lt _ hp
    rw [e1, atI_nat _ _ hm, List.getElem?_eq_getElem hm]
    exact ⟨Or.inr (by omega), h⟩
def drawn (sc : List Int) (k : Nat) : Int := (cellAt sc k + 7919 * (k : Int) + 1) * 48271 % 2147483647
def mixed (sc : List Int) (k : Nat) (many : Int) : Int := (drawn sc k * drawn sc k + 7 * drawn sc k + (k : Int)) % 2147483629 % many
theorem mixed_lt (sc : List Int) (k : Nat) {many : Int} (h : 0 < many) : 0 ≤ mixed sc k many ∧ mixed sc k many < many := ⟨Int.emod_nonneg _ (by omega), Int.emod_lt_of_pos _ h⟩
def S__law_mixed : FS := fun ds M r M' => ∃ (sc : List Int) (k : Nat) (many : Int), ds = [.scr sc, .int (k : Int), .int many] ∧ 0 < many ∧ r = .ok (.int (mixed sc k many)) ∧ M' = M
theorem t__law_mixed (sc : List Int) (k : Nat) (many : Int) (hm : 0 < many) (M : Mem) (P : Po) (h : P.rt (.int (mixed sc k many)) M) : b__law_mixed S__law_cell_at [some (.scr sc), some (.int (k : Int)), some (.int many), none] M P := by
  simp only [b__law_mixed, eVar, eInt, eBl, eNon, eStr, eB, aNil, aCons, eTup, eLst, eBin, bCmp, oAdd, oSub, oMul, oMod, oFdiv, oLt, oLe, oGt, oGe, oEq_int, oNe_int, bChain, bNot, bVal, bAnd, bOr, bIsN, bNotN, eIfx, eIx, oNone, oSome, eSl, eCall, eCall0, eBlt, fLen, fTuple, fList, fInt, fMin, fMax, bIsi, gNm, gTup, gNil, gCons, iSeq, iRng, iRng2, sNil, sSeq, sPass, sDead, sExpr, sRet, sAsg, sIf, okQ_ok, okQ_exc, to_ok, to_exc, ci1, ci2, ci3, ci4, sl0, sl1, sl2, sl3, sl4, sn1, sn2, sn3, sn4, lk_P, lk_S, lk_W, lk_R, lk_N, lk_pr, lk_int, lk_bl, lk_non, lk_str, lk_tup, lk_lst, lk_scr, not_false_eq_true, true_implies, decide_true, decide_false, not_true_eq_false, Bool.false_and, Bool.true_and, Bool.and_true, Bool.and_false, List.set_cons_zero, List.set_cons_succ, List.getElem?_cons_zero, List.getElem?_cons_succ, wipeT, List.length_cons, List.length_nil, List.length_map, List.map_cons, List.map_nil, D.ty, kb1, kb2, kb3, kb4, kb5, kb6, kb7, kb8, kb9, atI_0, atI_1, atI_2, atI_3, true_and, and_true, or_false, false_or, or_true, true_or, false_and, and_false, or_self, and_self, Bool.not_true, Bool.not_false, Bool.not_not, reduceCtorEq, false_implies, forall_const, implies_true, decide_eq_true_eq, decide_eq_false_iff_not, Bool.and_eq_true, Bool.and_eq_false_iff, Bool.not_eq_true, Bool.not_eq_eq_eq_not, Bool.true_eq_false, Bool.false_eq_true, Option.map_some, Option.some.injEq, exists_eq_left, exists_eq_left']
  refine ⟨_, _, ⟨sc, k, rfl, rfl, rfl⟩, ?_⟩
  simp only [eVar, eInt, eBl, eNon, eStr, eB, aNil, aCons, eTup, eLst, eBin, bCmp, oAdd, oSub, oMul, oMod, oFdiv, oLt, oLe, oGt, oGe, oEq_int, oNe_int, bChain, bNot, bVal, bAnd, bOr, bIsN, bNotN, eIfx, eIx, oNone, oSome, eSl, eCall, eCall0, eBlt, fLen, fTuple, fList, fInt, fMin, fMax, bIsi, gNm, gTup, gNil, gCons, iSeq, iRng, iRng2, sNil, sSeq, sPass, sDead, sExpr, sRet, sAsg, sIf, okQ_ok, okQ_exc, to_ok, to_exc, ci1, ci2, ci3, ci4, sl0, sl1, sl2, sl3, sl4, sn1, sn2, sn3, sn4, lk_P, lk_S, lk_W, lk_R, lk_N, lk_pr, lk_int, lk_bl, lk_non, lk_str, lk_tup, lk_lst, lk_scr, not_false_eq_true, true_implies, decide_true, decide_false, not_true_eq_false, Bool.false_and, Bool.true_and, Bool.and_true, Bool.and_false, List.set_cons_zero, List.set_cons_succ, List.getElem?_cons_zero, List.getElem?_cons_succ, wipeT, List.length_cons, List.length_nil, List.length_map, List.map_cons, List.map_nil, D.ty, kb1, kb2, kb3, kb4, kb5, kb6, kb7, kb8, kb9, atI_0, atI_1, atI_2, atI_3, true_and, and_true, or_false, false_or, or_true, true_or, false_and, and_false, or_self, and_self, Bool.not_true, Bool.not_false, Bool.not_not, reduceCtorEq, false_implies, forall_const, implies_true, decide_eq_true_eq, decide_eq_false_iff_not, Bool.and_eq_true, Bool.and_eq_false_iff, Bool.not_eq_true, Bool.not_eq_eq_eq_not, Bool.true_eq_false, Bool.false_eq_true, Option.map_some, Option.some.injEq, exists_eq_left, exists_eq_left']
  have hd : 0 ≤ drawn sc k ∧ drawn sc k < 2147483647 := ⟨Int.emod_nonneg _ (by decide), Int.emod_lt_of_pos _ (by decide)⟩
  refine ⟨Or.inl (by decide), Or.inr (by decide), by decide, ?_⟩
  refine ⟨Or.inl (by unfold drawn at hd; omega), Or.inl (by decide), by decide, hm, h⟩
def S__law_draw : FS := fun ds M r M' => ∃ (sc : List Int) (l : Addr) (M0 : Mem) (n : Nat) (many : Int), ds = [.scr sc, .cell l, .int many] ∧ (0 < many ∧ l ∈ M0.map (·.1) ∧ n ≤ 900000) ∧ M = Tn l M0 n ∧ r = .ok (.int (mixed sc (n + 1) many)) ∧ M' = Tn l M0 (n + 1)
theorem t__law_draw (sc : List Int) (l : Addr) (M0 : Mem) (n : Nat) (many : Int) (hm : 0 < many) (hl : l ∈ M0.map (·.1)) (hn : n ≤ 900000) (P : Po) (h : P.rt (.int (mixed sc (n + 1) many)) (Tn l M0 (n + 1))) : b__law_draw S__law_mixed [some (.scr sc), some (.cell l), some (.int many)] (Tn l M0 n) P := by
  have zl : ∀ n, (zeros n).length = n := fun n => by simp [zeros]
  simp only [b__law_draw, eVar, eInt, eBl, eNon, eStr, eB, aNil, aCons, eTup, eLst, eBin, bCmp, oAdd, oSub, oMul, oMod, oFdiv, oLt, oLe, oGt, oGe, oEq_int, oNe_int, bChain, bNot, bVal, bAnd, bOr, bIsN, bNotN, eIfx, eIx, oNone, oSome, eSl, eCall, eCall0, eBlt, fLen, fTuple, fList, fInt, fMin, fMax, bIsi, gNm, gTup, gNil, gCons, iSeq, iRng, iRng2, sNil, sSeq, sPass, sDead, sExpr, sRet, sAsg, sIf, okQ_ok, okQ_exc, to_ok, to_exc, ci1, ci2, ci3, ci4, sl0, sl1, sl2, sl3, sl4, sn1, sn2, sn3, sn4, lk_P, lk_S, lk_W, lk_R, lk_N, lk_pr, lk_int, lk_bl, lk_non, lk_str, lk_tup, lk_lst, lk_scr, not_false_eq_true, true_implies, decide_true, decide_false, not_true_eq_false, Bool.false_and, Bool.true_and, Bool.and_true, Bool.and_false, List.set_cons_zero, List.set_cons_succ, List.getElem?_cons_zero, List.getElem?_cons_succ, wipeT, List.length_cons, List.length_nil, List.length_map, List.map_cons, List.map_nil, D.ty, kb1, kb2, kb3, kb4, kb5, kb6, kb7, kb8, kb9, atI_0, atI_1, atI_2, atI_3, true_and, and_true, or_false, false_or, or_true, true_or, false_and, and_false, or_self, and_self, Bool.not_true, Bool.not_false, Bool.not_not, reduceCtorEq, false_implies, forall_const, implies_true, decide_eq_true_eq, decide_eq_false_iff_not, Bool.and_eq_true, Bool.and_eq_false_iff, Bool.not_eq_true, Bool.not_eq_eq_eq_not, Bool.true_eq_false, Bool.false_eq_true, Option.map_some, Option.some.injEq, exists_eq_left, exists_eq_left', sApp, Tn_lookup hl, zeros_succ, Tn_put]
  refine ⟨szl _ (by rw [zl]; omega), ?_⟩
  have e : look (Tn l M0 (n + 1)) (.cell l) = .lst (zeros (n + 1)) := look_cell (Tn_lookup hl _)
  simp only [e, eVar, eInt, eBl, eNon, eStr, eB, aNil, aCons, eTup, eLst, eBin, bCmp, oAdd, oSub, oMul, oMod, oFdiv, oLt, oLe, oGt, oGe, oEq_int, oNe_int, bChain, bNot, bVal, bAnd, bOr, bIsN, bNotN, eIfx, eIx, oNone, oSome, eSl, eCall, eCall0, eBlt, fLen, fTuple, fList, fInt, fMin, fMax, bIsi, gNm, gTup, gNil, gCons, iSeq, iRng, iRng2, sNil, sSeq, sPass, sDead, sExpr, sRet, sAsg, sIf, okQ_ok, okQ_exc, to_ok, to_exc, ci1, ci2, ci3, ci4, sl0, sl1, sl2, sl3, sl4, sn1, sn2, sn3, sn4, lk_P, lk_S, lk_W, lk_R, lk_N, lk_pr, lk_int, lk_bl, lk_non, lk_str, lk_tup, lk_lst, lk_scr, not_false_eq_true, true_implies, decide_true, decide_false, not_true_eq_false, Bool.false_and, Bool.true_and, Bool.and_true, Bool.and_false, List.set_cons_zero, List.set_cons_succ, List.getElem?_cons_zero, List.getElem?_cons_succ, wipeT, List.length_cons, List.length_nil, List.length_map, List.map_cons, List.map_nil, D.ty, kb1, kb2, kb3, kb4, kb5, kb6, kb7, kb8, kb9, atI_0, atI_1, atI_2, atI_3, true_and, and_true, or_false, false_or, or_true, true_or, false_and, and_false, or_self, and_self, Bool.not_true, Bool.not_false, Bool.not_not, reduceCtorEq, false_implies, forall_const, implies_true, decide_eq_true_eq, decide_eq_false_iff_not, Bool.and_eq_true, Bool.and_eq_false_iff, Bool.not_eq_true, Bool.not_eq_eq_eq_not, Bool.true_eq_false, Bool.false_eq_true, Option.map_some, Option.some.injEq, exists_eq_left, exists_eq_left', zl]
  exact ⟨_, _, ⟨sc, n + 1, many, rfl, hm, rfl, rfl⟩, h⟩
section
variable {sc : List Int} {l : Addr} {M0 : Mem} {n : Nat} {many : Int}
theorem cl_draw {Q : Res → Mem → Prop} (hm : 0 < many) (hl : l ∈ M0.map (·.1)) (hn : n ≤ 900000) (q : Q (.ok (.int (mixed sc (n + 1) many))) (Tn l M0 (n + 1))) : ∃ r M2, S__law_draw [.scr sc, .cell l, .int many] (Tn l M0 n) r M2 ∧ Q r M2 := ⟨_, _, ⟨sc, l, M0, n, many, rfl, ⟨hm, hl, hn⟩, rfl, rfl, rfl⟩, q⟩
theorem cl_draw0 {Q : D → Mem → Prop} (hm : 0 < many) (hl : l ∈ M0.map (·.1)) (hn : n ≤ 900000) (q : Q (.int (mixed sc (n + 1) many)) (Tn l M0 (n + 1))) : ∃ r M2, S__law_draw [.scr sc, .cell l, .int many] (Tn l M0 n) (.ok r) M2 ∧ Q r M2 := ⟨_, _, ⟨sc, l, M0, n, many, rfl, ⟨hm, hl, hn⟩, rfl, rfl, rfl⟩, q⟩
end
def pickIx (sc : List Int) (n : Nat) (k : Nat) : Nat := (mixed sc (n + 1) (k : Int)).toNat
theorem pickIx_lt (sc : List Int) (n : Nat) {k : Nat} (h : 0 < k) : pickIx sc n k < k := by
  have := mixed_lt sc (n + 1) (many := (k : Int)) (by omega)
  unfold pickIx
  omega
def S__law_pick : FS := fun ds M r M' => ∃ (sc : List Int) (l : Addr) (M0 : Mem) (n : Nat) (xs : List D) (x : D), ds = [.scr sc, .cell l, .lst xs] ∧ (l ∈ M0.map (·.1) ∧ n ≤ 900000 ∧ 0 < xs.length ∧ xs[pickIx sc n xs.length]? = some x) ∧ M = Tn l M0 n ∧ r = .ok x ∧ M' = Tn l M0 (n + 1)
theorem t__law_pick (sc : List Int) (l : Addr) (M0 : Mem) (n : Nat) (xs : List D) (x : D) (hl : l ∈ M0.map (·.1)) (hn : n ≤ 900000) (hx : 0 < xs.length) (he : xs[pickIx sc n xs.length]? = some x) (P : Po) (h : P.rt x (Tn l M0 (n + 1))) : b__law_pick S__law_draw [some (.scr sc), some (.cell l), some (.lst xs)] (Tn l M0 n) P := by
  simp only [b__law_pick, eVar, eInt, eBl, eNon, eStr, eB, aNil, aCons, eTup, eLst, eBin, bCmp, oAdd, oSub, oMul, oMod, oFdiv, oLt, oLe, oGt, oGe, oEq_int, oNe_int, bChain, bNot, bVal, bAnd, bOr, bIsN, bNotN, eIfx, eIx, oNone, oSome, eSl, eCall, eCall0, eBlt, fLen, fTuple, fList, fInt, fMin, fMax, bIsi, gNm, gTup, gNil, gCons, iSeq, iRng, iRng2, sNil, sSeq, sPass, sDead, sExpr, sRet, sAsg, sIf, okQ_ok, okQ_exc, to_ok, to_exc, ci1, ci2, ci3, ci4, sl0, sl1, sl2, sl3, sl4, sn1, sn2, sn3, sn4, lk_P, lk_S, lk_W, lk_R, lk_N, lk_pr, lk_int, lk_bl, lk_non, lk_str, lk_tup, lk_lst, lk_scr, not_false_eq_true, true_implies, decide_true, decide_false, not_true_eq_false, Bool.false_and, Bool.true_and, Bool.and_true, Bool.and_false, List.set_cons_zero, List.set_cons_succ, List.getElem?_cons_zero, List.getElem?_cons_succ, wipeT, List.length_cons, List.length_nil, List.length_map, List.map_cons, List.map_nil, D.ty, kb1, kb2, kb3, kb4, kb5, kb6, kb7, kb8, kb9, atI_0, atI_1, atI_2, atI_3, true_and, and_true, or_false, false_or, or_true, true_or, false_and, and_false, or_self, and_self, Bool.not_true, Bool.not_false, Bool.not_not, reduceCtorEq, false_implies, forall_const, implies_true, decide_eq_true_eq, decide_eq_false_iff_not, Bool.and_eq_true, Bool.and_eq_false_iff, Bool.not_eq_true, Bool.not_eq_eq_eq_not, Bool.true_eq_false, Bool.false_eq_true, Option.map_some, Option.some.injEq, exists_eq_left, exists_eq_left']
  refine cl_draw (by omega) hl hn ?_
  simp only [eVar, eInt, eBl, eNon, eStr, eB, aNil, aCons, eTup, eLst, eBin, bCmp, oAdd, oSub, oMul, oMod, oFdiv, oLt, oLe, oGt, oGe, oEq_int, oNe_int, bChain, bNot, bVal, bAnd, bOr, bIsN, bNotN, eIfx, eIx, oNone, oSome, eSl, eCall, eCall0, eBlt, fLen, fTuple, fList, fInt, fMin, fMax, bIsi, gNm, gTup, gNil, gCons, iSeq, iRng, iRng2, sNil, sSeq, sPass, sDead, sExpr, sRet, sAsg, sIf, okQ_ok, okQ_exc, to_ok, to_exc, ci1, ci2, ci3, ci4, sl0, sl1, sl2, sl3, sl4, sn1, sn2, sn3, sn4, lk_P, lk_S, lk_W, lk_R, lk_N, lk_pr, lk_int, lk_bl, lk_non, lk_str, lk_tup, lk_lst, lk_scr, not_false_eq_true, true_implies, decide_true, decide_false, not_true_eq_false, Bool.false_and, Bool.true_and, Bool.and_true, Bool.and_false, List.set_cons_zero, List.set_cons_succ, List.getElem?_cons_zero, List.getElem?_cons_succ, wipeT, List.length_cons, List.length_nil, List.length_map, List.map_cons, List.map_nil, D.ty, kb1, kb2, kb3, kb4, kb5, kb6, kb7, kb8, kb9, atI_0, atI_1, atI_2, atI_3, true_and, and_true, or_false, false_or, or_true, true_or, false_and, and_false, or_self, and_self, Bool.not_true, Bool.not_false, Bool.not_not, reduceCtorEq, false_implies, forall_const, implies_true, decide_eq_true_eq, decide_eq_false_iff_not, Bool.and_eq_true, Bool.and_eq_false_iff, Bool.not_eq_true, Bool.not_eq_eq_eq_not, Bool.true_eq_false, Bool.false_eq_true, Option.map_some, Option.some.injEq, exists_eq_left, exists_eq_left']
  have hm := mixed_lt sc (n + 1) (many := (xs.length : Int)) (by omega)
  have e : mixed sc (n + 1) (xs.length : Int) = ((pickIx sc n xs.length : Nat) : Int) := by
    unfold pickIx
    omega
  rw [e, atI_nat _ _ (pickIx_lt sc n hx), he]
  exact h
theorem cl_pick {sc : List Int} {l : Addr} {M0 : Mem} {n : Nat} {xs : List D} {x : D} {Q : Res → Mem → Prop} (hl : l ∈ M0.map (·.1)) (hn : n ≤ 900000) (hx : 0 < xs.length) (he : xs[pickIx sc n xs.length]? = some x) (q : Q (.ok x) (Tn l M0 (n + 1))) : ∃ r M2, S__law_pick [.scr sc, .cell l, .lst xs] (Tn l M0 n) r M2 ∧ Q r M2 := ⟨_, _, ⟨sc, l, M0, n, xs, x, rfl, ⟨hl, hn, hx, he⟩, rfl, rfl, rfl⟩, q⟩
end K3

set_option Elab.async false
set_option linter.all false
set_option maxRecDepth 100000
set_option maxHeartbeats 1000000
namespace K3
open PySem J
open L2 (kitB atI CMul)
def stSk (sc : List Int) (n i : Nat) : List Int × Nat := (if 0 < mixed sc (n + 1) 4 then [1 + (i : Int)] else [], n + 1)
def stB (sc : List Int) (i : Nat) (n j : Nat) : List (Int × Int) × Nat := (if mixed sc (n + 1) 4 = 0 then [(1 + (i : Int), 1 + (j : Int))] else [], n + 1)
def stBB (sc : List Int) (k : Nat) (n i : Nat) : List (Int × Int) × Nat := stm (stB sc i) (List.range k) n
def skOf (sc : List Int) (sh : Int) (n : Nat) : List Int × Nat :=
  let p := stm (stSk sc) (List.range sh.toNat) n
  if p.1 = [] then ([1 + mixed sc (p.2 + 1) sh], p.2 + 1) else p
def brOf (sc : List Int) (sh : Int) (n : Nat) : List (Int × Int) × Nat := stm (stBB sc sh.toNat) (List.range sh.toNat) n
def ruleOf (sc : List Int) (sh long : Int) (n : Nat) : Rule × Nat :=
  let p := skOf sc sh n
  let q := brOf sc sh p.2
  (⟨p.1, 1 + mixed sc (q.2 + 1) long, 1 + mixed sc (q.2 + 2) (min 3 long), q.1⟩, q.2 + 2)
theorem stSk_le (sc : List Int) (n i : Nat) : (stSk sc n i).2 ≤ n + 1 := Nat.le_refl _
theorem stB_gr (sc : List Int) (i n j : Nat) : (stB sc i n j).1.length + n ≤ (stB sc i n j).2 := by
  unfold stB
  split <;> simp <;> omega
theorem stBB_gr (sc : List Int) (k n i : Nat) : (stBB sc k n i).1.length + n ≤ (stBB sc k n i).2 := stm_gr _ (stB_gr sc i) _ _
theorem stBB_le (sc : List Int) (k n i : Nat) : (stBB sc k n i).2 ≤ n + k := by
  have := stm_le (stB sc i) 1 (fun n j => Nat.le_refl _) (List.range k) n
  simp only [List.length_range] at this
  unfold stBB
  omega
theorem skOf_le (sc : List Int) (sh : Int) (n : Nat) : (skOf sc sh n).2 ≤ n + sh.toNat + 1 := by
  have := stm_le (stSk sc) 1 (stSk_le sc) (List.range sh.toNat) n
  simp only [List.length_range] at this
  unfold skOf
  simp only
  split
  · simp only
    omega
  · omega
theorem brOf_le (sc : List Int) (sh : Int) (n : Nat) : (brOf sc sh n).2 ≤ n + sh.toNat * sh.toNat := by
  have := stm_le (stBB sc sh.toNat) sh.toNat (stBB_le sc sh.toNat) (List.range sh.toNat) n
  simpa [brOf] using this
theorem ruleOf_le (sc : List Int) (sh long : Int) (n : Nat) (h : sh ≤ 3) : (ruleOf sc sh long n).2 ≤ n + 15 := by
  have h1 := skOf_le sc sh n
  have h2 := brOf_le sc sh (skOf sc sh n).2
  have h3 : sh.toNat ≤ 3 := by omega
  have h4 : sh.toNat * sh.toNat ≤ 3 * 3 := Nat.mul_le_mul h3 h3
  show (brOf sc sh (skOf sc sh n).2).2 + 2 ≤ _
  omega
def S__law_rule : FS := fun ds M r M' => ∃ (sc : List Int) (l : Addr) (M0 : Mem) (n : Nat) (sh long : Int), ds = [.scr sc, .cell l, .int sh, .int long] ∧ ((1 ≤ sh ∧ sh ≤ 3) ∧ 1 ≤ long ∧ l ∈ M0.map (·.1) ∧ n ≤ 800000) ∧ M = Tn l M0 n ∧ r = .ok (encR (ruleOf sc sh long n).1) ∧ M' = Tn l M0 (ruleOf sc sh long n).2
theorem t__law_rule (sc : List Int) (l : Addr) (M0 : Mem) (n : Nat) (sh long : Int) (hsh : 1 ≤ sh ∧ sh ≤ 3) (hlo : 1 ≤ long) (hl : l ∈ M0.map (·.1)) (hn : n ≤ 800000) (P : Po) (h : ∀ M1, List.Sublist M0 M1 → P.rt (encR (ruleOf sc sh long n).1) (Tn l M1 (ruleOf sc sh long n).2)) :
    b__law_rule S__law_draw [some (.scr sc), some (.cell l), some (.int sh), some (.int long), none, none, none, none, none, none] (Tn l M0 n) P := by
  have hk : sh.toNat ≤ 3 := by omega
  have hkk : (sh + 1 - 1).toNat = sh.toNat := by omega
  simp only [b__law_rule, eVar, eInt, eBl, eNon, eStr, eB, aNil, aCons, eTup, eLst, eBin, bCmp, oAdd, oSub, oMul, oMod, oFdiv, oLt, oLe, oGt, oGe, oEq_int, oNe_int, bChain, bNot, bVal, bAnd, bOr, bIsN, bNotN, eIfx, eIx, oNone, oSome, eSl, eCall, eCall0, eBlt, fLen, fTuple, fList, fInt, fMin, fMax, bIsi, gNm, gTup, gNil, gCons, iSeq, iRng, iRng2, sNil, sSeq, sPass, sDead, sExpr, sRet, sAsg, sIf, okQ_ok, okQ_exc, to_ok, to_exc, ci1, ci2, ci3, ci4, sl0, sl1, sl2, sl3, sl4, sn1, sn2, sn3, sn4, lk_P, lk_S, lk_W, lk_R, lk_N, lk_pr, lk_int, lk_bl, lk_non, lk_str, lk_tup, lk_lst, lk_scr, not_false_eq_true, true_implies, decide_true, decide_false, not_true_eq_false, Bool.false_and, Bool.true_and, Bool.and_true, Bool.and_false, List.set_cons_zero, List.set_cons_succ, List.getElem?_cons_zero, List.getElem?_cons_succ, wipeT, List.length_cons, List.length_nil, List.length_map, List.map_cons, List.map_nil, D.ty, kb1, kb2, kb3, kb4, kb5, kb6, kb7, kb8, kb9, atI_0, atI_1, atI_2, atI_3, true_and, and_true, or_false, false_or, or_true, true_or, false_and, and_false, or_self, and_self, Bool.not_true, Bool.not_false, Bool.not_not, reduceCtorEq, false_implies, forall_const, implies_true, decide_eq_true_eq, decide_eq_false_iff_not, Bool.and_eq_true, Bool.and_eq_false_iff, Bool.not_eq_true, Bool.not_eq_eq_eq_not, Bool.true_eq_false, Bool.false_eq_true, Option.map_some, Option.some.injEq, exists_eq_left, exists_eq_left', eLc, sFor]
  refine ⟨⟨by decide, by decide, by omega, by omega⟩, szl _ (by rw [rngD_length]; omega), ?_⟩
  rw [hkk, rngD_map]
  refine lc_stm (eo := D.int) (fun n => Tn l M0 n) (stSk sc) 1 900000 (stSk_le sc) (fun _ => trivial) _ _ _ (by simp only [List.length_range]; omega) (fun i hi n R hb hR => ?_) (fun n i => ?_) ?_
  · simp only [turnL, eVar, eInt, eBl, eNon, eStr, eB, aNil, aCons, eTup, eLst, eBin, bCmp, oAdd, oSub, oMul, oMod, oFdiv, oLt, oLe, oGt, oGe, oEq_int, oNe_int, bChain, bNot, bVal, bAnd, bOr, bIsN, bNotN, eIfx, eIx, oNone, oSome, eSl, eCall, eCall0, eBlt, fLen, fTuple, fList, fInt, fMin, fMax, bIsi, gNm, gTup, gNil, gCons, iSeq, iRng, iRng2, sNil, sSeq, sPass, sDead, sExpr, sRet, sAsg, sIf, okQ_ok, okQ_exc, to_ok, to_exc, ci1, ci2, ci3, ci4, sl0, sl1, sl2, sl3, sl4, sn1, sn2, sn3, sn4, lk_P, lk_S, lk_W, lk_R, lk_N, lk_pr, lk_int, lk_bl, lk_non, lk_str, lk_tup, lk_lst, lk_scr, not_false_eq_true, true_implies, decide_true, decide_false, not_true_eq_false, Bool.false_and, Bool.true_and, Bool.and_true, Bool.and_false, List.set_cons_zero, List.set_cons_succ, List.getElem?_cons_zero, List.getElem?_cons_succ, wipeT, List.length_cons, List.length_nil, List.length_map, List.map_cons, List.map_nil, D.ty, kb1, kb2, kb3, kb4, kb5, kb6, kb7, kb8, kb9, atI_0, atI_1, atI_2, atI_3, true_and, and_true, or_false, false_or, or_true, true_or, false_and, and_false, or_self, and_self, Bool.not_true, Bool.not_false, Bool.not_not, reduceCtorEq, false_implies, forall_const, implies_true, decide_eq_true_eq, decide_eq_false_iff_not, Bool.and_eq_true, Bool.and_eq_false_iff, Bool.not_eq_true, Bool.not_eq_eq_eq_not, Bool.true_eq_false, Bool.false_eq_true, Option.map_some, Option.some.injEq, exists_eq_left, exists_eq_left']
    refine cl_draw0 (by decide) hl (by omega) ?_
    simp only [eVar, eInt, eBl, eNon, eStr, eB, aNil, aCons, eTup, eLst, eBin, bCmp, oAdd, oSub, oMul, oMod, oFdiv, oLt, oLe, oGt, oGe, oEq_int, oNe_int, bChain, bNot, bVal, bAnd, bOr, bIsN, bNotN, eIfx, eIx, oNone, oSome, eSl, eCall, eCall0, eBlt, fLen, fTuple, fList, fInt, fMin, fMax, bIsi, gNm, gTup, gNil, gCons, iSeq, iRng, iRng2, sNil, sSeq, sPass, sDead, sExpr, sRet, sAsg, sIf, okQ_ok, okQ_exc, to_ok, to_exc, ci1, ci2, ci3, ci4, sl0, sl1, sl2, sl3, sl4, sn1, sn2, sn3, sn4, lk_P, lk_S, lk_W, lk_R, lk_N, lk_pr, lk_int, lk_bl, lk_non, lk_str, lk_tup, lk_lst, lk_scr, not_false_eq_true, true_implies, decide_true, decide_false, not_true_eq_false, Bool.false_and, Bool.true_and, Bool.and_true, Bool.and_false, List.set_cons_zero, List.set_cons_succ, List.getElem?_cons_zero, List.getElem?_cons_succ, wipeT, List.length_cons, List.length_nil, List.length_map, List.map_cons, List.map_nil, D.ty, kb1, kb2, kb3, kb4, kb5, kb6, kb7, kb8, kb9, atI_0, atI_1, atI_2, atI_3, true_and, and_true, or_false, false_or, or_true, true_or, false_and, and_false, or_self, and_self, Bool.not_true, Bool.not_false, Bool.not_not, reduceCtorEq, false_implies, forall_const, implies_true, decide_eq_true_eq, decide_eq_false_iff_not, Bool.and_eq_true, Bool.and_eq_false_iff, Bool.not_eq_true, Bool.not_eq_eq_eq_not, Bool.true_eq_false, Bool.false_eq_true, Option.map_some, Option.some.injEq, exists_eq_left, exists_eq_left']
    refine ⟨fun z => ?_, fun z => ?_⟩
    · exact hR.1 _ (by simp [stSk, z])
    · exact hR.2 (by simp [stSk, z])
  · unfold stSk
    split <;> simp
  have key : ∀ (p : List Int × Nat), p = skOf sc sh n → sSeq (sNew 6 aNil) (sSeq (sFor (iRng2 (eInt 1) (eBin oAdd (eVar 2) (eInt 1))) (gNm 7)
    (sFor (iRng2 (eInt 1) (eBin oAdd (eVar 2) (eInt 1))) (gNm 8)
    (sIf (bCmp oEq (eCall 3 S__law_draw (aCons (eVar 0) (aCons (eVar 1) (aCons (eInt 4) aNil)))) (eInt 0)) (sApp 6 (eTup (aCons (eVar 7) (aCons (eVar 8) aNil)))) sNil)))
    (sSeq (sAsg (gNm 9) (eBin oAdd (eInt 1) (eCall 3 S__law_draw (aCons (eVar 0) (aCons (eVar 1) (aCons (eVar 3) aNil))))))
    (sRet (eTup (aCons (eBlt fTuple (aCons (eVar 4) aNil)) (aCons (eVar 9) (aCons (eBin oAdd (eInt 1) (eCall 3 S__law_draw (aCons (eVar 0) (aCons (eVar 1) (aCons (eBlt fMin (aCons (eInt 3) (aCons (eVar 3) aNil))) aNil))))) (aCons (eBlt fTuple (aCons (eVar 6) aNil)) aNil))))))))
      [some (.scr sc), some (.cell l), some (.int sh), some (.int long), some (.lst (p.1.map D.int)), none, none, none, none, none] (Tn l M0 p.2) P := by
    rintro p hp
    have hp2 : p.2 ≤ n + 4 := by
      have := skOf_le sc sh n
      rw [← hp] at this
      omega
    simp only [sSeq, sNew, aNil, sFor]
    refine ⟨by simp, fun l2 hl2 => ?_⟩
    rw [Tn_keys] at hl2
    have hne : l2 ≠ l := fun z => hl2 (z ▸ hl)
    rw [Tn_cons' hne]
    simp only [eVar, eInt, eBl, eNon, eStr, eB, aNil, aCons, eTup, eLst, eBin, bCmp, oAdd, oSub, oMul, oMod, oFdiv, oLt, oLe, oGt, oGe, oEq_int, oNe_int, bChain, bNot, bVal, bAnd, bOr, bIsN, bNotN, eIfx, eIx, oNone, oSome, eSl, eCall, eCall0, eBlt, fLen, fTuple, fList, fInt, fMin, fMax, bIsi, gNm, gTup, gNil, gCons, iSeq, iRng, iRng2, sNil, sSeq, sPass, sDead, sExpr, sRet, sAsg, sIf, okQ_ok, okQ_exc, to_ok, to_exc, ci1, ci2, ci3, ci4, sl0, sl1, sl2, sl3, sl4, sn1, sn2, sn3, sn4, lk_P, lk_S, lk_W, lk_R, lk_N, lk_pr, lk_int, lk_bl, lk_non, lk_str, lk_tup, lk_lst, lk_scr, not_false_eq_true, true_implies, decide_true, decide_false, not_true_eq_false, Bool.false_and, Bool.true_and, Bool.and_true, Bool.and_false, List.set_cons_zero, List.set_cons_succ, List.getElem?_cons_zero, List.getElem?_cons_succ, wipeT, List.length_cons, List.length_nil, List.length_map, List.map_cons, List.map_nil, D.ty, kb1, kb2, kb3, kb4, kb5, kb6, kb7, kb8, kb9, atI_0, atI_1, atI_2, atI_3, true_and, and_true, or_false, false_or, or_true, true_or, false_and, and_false, or_self, and_self, Bool.not_true, Bool.not_false, Bool.not_not, reduceCtorEq, false_implies, forall_const, implies_true, decide_eq_true_eq, decide_eq_false_iff_not, Bool.and_eq_true, Bool.and_eq_false_iff, Bool.not_eq_true, Bool.not_eq_eq_eq_not, Bool.true_eq_false, Bool.false_eq_true, Option.map_some, Option.some.injEq, exists_eq_left, exists_eq_left']
    refine ⟨⟨by decide, by decide, by omega, by omega⟩, ?_⟩
    rw [hkk, rngD_map]
    refine for_pre (fun pre T M' => ∃ a b M1, T = [some (.scr sc), some (.cell l), some (.int sh), some (.int long), some (.lst (p.1.map D.int)), none, some (.cell l2), a, b, none] ∧ M' = Tn l M1 (stm (stBB sc sh.toNat) pre p.2).2 ∧ List.Sublist M0 M1 ∧ l ∈ M1.map (·.1) ∧ M1.lookup l2 = some (.lst ((stm (stBB sc sh.toNat) pre p.2).1.map pairD))) _ ?_ ?_ ⟨_, _, _, rfl, rfl, List.sublist_cons_self _ _, by simp [hl], lookup_cons_eq⟩
    · rintro pre i post hx T M' N ⟨a, b, M1, rfl, rfl, hs1, hl1, hk1⟩ hN
      have hpre : pre.length ≤ 2 := by
        have := congrArg List.length hx
        simp only [List.length_range, List.length_append, List.length_cons] at this
        omega
      have hq2 : (stm (stBB sc sh.toNat) pre p.2).2 ≤ p.2 + 9 := by
        have h1 := stm_le (stBB sc sh.toNat) sh.toNat (stBB_le sc sh.toNat) pre p.2
        have h2 : sh.toNat * pre.length ≤ 3 * 2 := Nat.mul_le_mul hk hpre
        omega
      have hq1 := stm_gr (stBB sc sh.toNat) (stBB_gr sc sh.toNat) pre p.2
      rw [stm_snoc] at hN
      generalize stm (stBB sc sh.toNat) pre p.2 = q at hk1 hN hq1 hq2 ⊢
      refine ⟨trivial, ?_⟩
      simp only [eVar, eInt, eBl, eNon, eStr, eB, aNil, aCons, eTup, eLst, eBin, bCmp, oAdd, oSub, oMul, oMod, oFdiv, oLt, oLe, oGt, oGe, oEq_int, oNe_int, bChain, bNot, bVal, bAnd, bOr, bIsN, bNotN, eIfx, eIx, oNone, oSome, eSl, eCall, eCall0, eBlt, fLen, fTuple, fList, fInt, fMin, fMax, bIsi, gNm, gTup, gNil, gCons, iSeq, iRng, iRng2, sNil, sSeq, sPass, sDead, sExpr, sRet, sAsg, sIf, okQ_ok, okQ_exc, to_ok, to_exc, ci1, ci2, ci3, ci4, sl0, sl1, sl2, sl3, sl4, sn1, sn2, sn3, sn4, lk_P, lk_S, lk_W, lk_R, lk_N, lk_pr, lk_int, lk_bl, lk_non, lk_str, lk_tup, lk_lst, lk_scr, not_false_eq_true, true_implies, decide_true, decide_false, not_true_eq_false, Bool.false_and, Bool.true_and, Bool.and_true, Bool.and_false, List.set_cons_zero, List.set_cons_succ, List.getElem?_cons_zero, List.getElem?_cons_succ, wipeT, List.length_cons, List.length_nil, List.length_map, List.map_cons, List.map_nil, D.ty, kb1, kb2, kb3, kb4, kb5, kb6, kb7, kb8, kb9, atI_0, atI_1, atI_2, atI_3, true_and, and_true, or_false, false_or, or_true, true_or, false_and, and_false, or_self, and_self, Bool.not_true, Bool.not_false, Bool.not_not, reduceCtorEq, false_implies, forall_const, implies_true, decide_eq_true_eq, decide_eq_false_iff_not, Bool.and_eq_true, Bool.and_eq_false_iff, Bool.not_eq_true, Bool.not_eq_eq_eq_not, Bool.true_eq_false, Bool.false_eq_true, Option.map_some, Option.some.injEq, exists_eq_left, exists_eq_left']
      refine ⟨⟨by decide, by decide, by omega, by omega⟩, ?_⟩
      rw [hkk, rngD_map]
      refine for_pre (fun pre2 T M' => ∃ b M1, T = [some (.scr sc), some (.cell l), some (.int sh), some (.int long), some (.lst (p.1.map D.int)), none, some (.cell l2), some (.int (1 + (i : Int))), b, none] ∧ M' = Tn l M1 (stm (stB sc i) pre2 q.2).2 ∧ List.Sublist M0 M1 ∧ l ∈ M1.map (·.1) ∧ M1.lookup l2 = some (.lst ((q.1 ++ (stm (stB sc i) pre2 q.2).1).map pairD))) _ ?_ ?_ ⟨_, _, rfl, rfl, hs1, hl1, by simpa [stm] using hk1⟩
      · rintro pre2 j post2 hx2 T M' N2 ⟨b, M2, rfl, rfl, hs2, hl2', hk2⟩ hN2
        have hpre2 : pre2.length ≤ 2 := by
          have := congrArg List.length hx2
          simp only [List.length_range, List.length_append, List.length_cons] at this
          omega
        have hu2 : (stm (stB sc i) pre2 q.2).2 ≤ q.2 + 3 := by
          have h1 := stm_le (stB sc i) 1 (fun n j => Nat.le_refl _) pre2 q.2
          omega
        have hu1 := stm_gr (stB sc i) (stB_gr sc i) pre2 q.2
        rw [stm_snoc] at hN2
        generalize stm (stB sc i) pre2 q.2 = u at hk2 hN2 hu1 hu2 ⊢
        refine ⟨trivial, ?_⟩
        simp only [eVar, eInt, eBl, eNon, eStr, eB, aNil, aCons, eTup, eLst, eBin, bCmp, oAdd, oSub, oMul, oMod, oFdiv, oLt, oLe, oGt, oGe, oEq_int, oNe_int, bChain, bNot, bVal, bAnd, bOr, bIsN, bNotN, eIfx, eIx, oNone, oSome, eSl, eCall, eCall0, eBlt, fLen, fTuple, fList, fInt, fMin, fMax, bIsi, gNm, gTup, gNil, gCons, iSeq, iRng, iRng2, sNil, sSeq, sPass, sDead, sExpr, sRet, sAsg, sIf, okQ_ok, okQ_exc, to_ok, to_exc, ci1, ci2, ci3, ci4, sl0, sl1, sl2, sl3, sl4, sn1, sn2, sn3, sn4, lk_P, lk_S, lk_W, lk_R, lk_N, lk_pr, lk_int, lk_bl, lk_non, lk_str, lk_tup, lk_lst, lk_scr, not_false_eq_true, true_implies, decide_true, decide_false, not_true_eq_false, Bool.false_and, Bool.true_and, Bool.and_true, Bool.and_false, List.set_cons_zero, List.set_cons_succ, List.getElem?_cons_zero, List.getElem?_cons_succ, wipeT, List.length_cons, List.length_nil, List.length_map, List.map_cons, List.map_nil, D.ty, kb1, kb2, kb3, kb4, kb5, kb6, kb7, kb8, kb9, atI_0, atI_1, atI_2, atI_3, true_and, and_true, or_false, false_or, or_true, true_or, false_and, and_false, or_self, and_self, Bool.not_true, Bool.not_false, Bool.not_not, reduceCtorEq, false_implies, forall_const, implies_true, decide_eq_true_eq, decide_eq_false_iff_not, Bool.and_eq_true, Bool.and_eq_false_iff, Bool.not_eq_true, Bool.not_eq_eq_eq_not, Bool.true_eq_false, Bool.false_eq_true, Option.map_some, Option.some.injEq, exists_eq_left, exists_eq_left']
        refine cl_draw (by decide) hl2' (by omega) ?_
        simp only [eVar, eInt, eBl, eNon, eStr, eB, aNil, aCons, eTup, eLst, eBin, bCmp, oAdd, oSub, oMul, oMod, oFdiv, oLt, oLe, oGt, oGe, oEq_int, oNe_int, bChain, bNot, bVal, bAnd, bOr, bIsN, bNotN, eIfx, eIx, oNone, oSome, eSl, eCall, eCall0, eBlt, fLen, fTuple, fList, fInt, fMin, fMax, bIsi, gNm, gTup, gNil, gCons, iSeq, iRng, iRng2, sNil, sSeq, sPass, sDead, sExpr, sRet, sAsg, sIf, okQ_ok, okQ_exc, to_ok, to_exc, ci1, ci2, ci3, ci4, sl0, sl1, sl2, sl3, sl4, sn1, sn2, sn3, sn4, lk_P, lk_S, lk_W, lk_R, lk_N, lk_pr, lk_int, lk_bl, lk_non, lk_str, lk_tup, lk_lst, lk_scr, not_false_eq_true, true_implies, decide_true, decide_false, not_true_eq_false, Bool.false_and, Bool.true_and, Bool.and_true, Bool.and_false, List.set_cons_zero, List.set_cons_succ, List.getElem?_cons_zero, List.getElem?_cons_succ, wipeT, List.length_cons, List.length_nil, List.length_map, List.map_cons, List.map_nil, D.ty, kb1, kb2, kb3, kb4, kb5, kb6, kb7, kb8, kb9, atI_0, atI_1, atI_2, atI_3, true_and, and_true, or_false, false_or, or_true, true_or, false_and, and_false, or_self, and_self, Bool.not_true, Bool.not_false, Bool.not_not, reduceCtorEq, false_implies, forall_const, implies_true, decide_eq_true_eq, decide_eq_false_iff_not, Bool.and_eq_true, Bool.and_eq_false_iff, Bool.not_eq_true, Bool.not_eq_eq_eq_not, Bool.true_eq_false, Bool.false_eq_true, Option.map_some, Option.some.injEq, exists_eq_left, exists_eq_left', sApp, Tn_look hne, hk2]
        unfold stB at hN2
        refine ⟨fun z => ⟨szl _ (by rw [List.length_append]; omega), ?_⟩, fun z => ?_⟩
        · rw [Tn_put' hne]
          simp only [z, if_true] at hN2
          refine hN2 _ _ ⟨_, _, rfl, rfl, sub_put hl2 hs2, by rw [put_keys]; exact hl2', ?_⟩
          rw [put_lookup hk2]
          simp [pairD]
        · simp only [z, if_false] at hN2
          refine hN2 _ _ ⟨_, _, rfl, rfl, hs2, hl2', ?_⟩
          simpa using hk2
      · rintro T M' ⟨b, M2, rfl, rfl, hs2, hl2', hk2⟩
        exact ⟨trivial, hN _ _ ⟨_, _, _, rfl, rfl, hs2, hl2', hk2⟩⟩
    · rintro T M' ⟨a, b, M1, rfl, rfl, hs1, hl1, hk1⟩
      refine ⟨trivial, ?_⟩
      have hb : (brOf sc sh p.2).2 ≤ p.2 + 9 := by
        have h1 := brOf_le sc sh p.2
        have h2 : sh.toNat * sh.toNat ≤ 3 * 3 := Nat.mul_le_mul hk hk
        omega
      have e1 : stm (stBB sc sh.toNat) (List.range sh.toNat) p.2 = brOf sc sh p.2 := rfl
      rw [e1] at hk1 ⊢
      simp only [eVar, eInt, eBl, eNon, eStr, eB, aNil, aCons, eTup, eLst, eBin, bCmp, oAdd, oSub, oMul, oMod, oFdiv, oLt, oLe, oGt, oGe, oEq_int, oNe_int, bChain, bNot, bVal, bAnd, bOr, bIsN, bNotN, eIfx, eIx, oNone, oSome, eSl, eCall, eCall0, eBlt, fLen, fTuple, fList, fInt, fMin, fMax, bIsi, gNm, gTup, gNil, gCons, iSeq, iRng, iRng2, sNil, sSeq, sPass, sDead, sExpr, sRet, sAsg, sIf, okQ_ok, okQ_exc, to_ok, to_exc, ci1, ci2, ci3, ci4, sl0, sl1, sl2, sl3, sl4, sn1, sn2, sn3, sn4, lk_P, lk_S, lk_W, lk_R, lk_N, lk_pr, lk_int, lk_bl, lk_non, lk_str, lk_tup, lk_lst, lk_scr, not_false_eq_true, true_implies, decide_true, decide_false, not_true_eq_false, Bool.false_and, Bool.true_and, Bool.and_true, Bool.and_false, List.set_cons_zero, List.set_cons_succ, List.getElem?_cons_zero, List.getElem?_cons_succ, wipeT, List.length_cons, List.length_nil, List.length_map, List.map_cons, List.map_nil, D.ty, kb1, kb2, kb3, kb4, kb5, kb6, kb7, kb8, kb9, atI_0, atI_1, atI_2, atI_3, true_and, and_true, or_false, false_or, or_true, true_or, false_and, and_false, or_self, and_self, Bool.not_true, Bool.not_false, Bool.not_not, reduceCtorEq, false_implies, forall_const, implies_true, decide_eq_true_eq, decide_eq_false_iff_not, Bool.and_eq_true, Bool.and_eq_false_iff, Bool.not_eq_true, Bool.not_eq_eq_eq_not, Bool.true_eq_false, Bool.false_eq_true, Option.map_some, Option.some.injEq, exists_eq_left, exists_eq_left']
      refine cl_draw (by omega) hl1 (by omega) ?_
      simp only [eVar, eInt, eBl, eNon, eStr, eB, aNil, aCons, eTup, eLst, eBin, bCmp, oAdd, oSub, oMul, oMod, oFdiv, oLt, oLe, oGt, oGe, oEq_int, oNe_int, bChain, bNot, bVal, bAnd, bOr, bIsN, bNotN, eIfx, eIx, oNone, oSome, eSl, eCall, eCall0, eBlt, fLen, fTuple, fList, fInt, fMin, fMax, bIsi, gNm, gTup, gNil, gCons, iSeq, iRng, iRng2, sNil, sSeq, sPass, sDead, sExpr, sRet, sAsg, sIf, okQ_ok, okQ_exc, to_ok, to_exc, ci1, ci2, ci3, ci4, sl0, sl1, sl2, sl3, sl4, sn1, sn2, sn3, sn4, lk_P, lk_S, lk_W, lk_R, lk_N, lk_pr, lk_int, lk_bl, lk_non, lk_str, lk_tup, lk_lst, lk_scr, not_false_eq_true, true_implies, decide_true, decide_false, not_true_eq_false, Bool.false_and, Bool.true_and, Bool.and_true, Bool.and_false, List.set_cons_zero, List.set_cons_succ, List.getElem?_cons_zero, List.getElem?_cons_succ, wipeT, List.length_cons, List.length_nil, List.length_map, List.map_cons, List.map_nil, D.ty, kb1, kb2, kb3, kb4, kb5, kb6, kb7, kb8, kb9, atI_0, atI_1, atI_2, atI_3, true_and, and_true, or_false, false_or, or_true, true_or, false_and, and_false, or_self, and_self, Bool.not_true, Bool.not_false, Bool.not_not, reduceCtorEq, false_implies, forall_const, implies_true, decide_eq_true_eq, decide_eq_false_iff_not, Bool.and_eq_true, Bool.and_eq_false_iff, Bool.not_eq_true, Bool.not_eq_eq_eq_not, Bool.true_eq_false, Bool.false_eq_true, Option.map_some, Option.some.injEq, exists_eq_left, exists_eq_left']
      refine cl_draw (by omega) hl1 (by omega) ?_
      have e2 : look (Tn l M1 ((brOf sc sh p.2).2 + 1 + 1)) (.cell l2) = .lst ((brOf sc sh p.2).1.map pairD) := look_cell (by rw [Tn_look hne]; exact hk1)
      simp only [eVar, eInt, eBl, eNon, eStr, eB, aNil, aCons, eTup, eLst, eBin, bCmp, oAdd, oSub, oMul, oMod, oFdiv, oLt, oLe, oGt, oGe, oEq_int, oNe_int, bChain, bNot, bVal, bAnd, bOr, bIsN, bNotN, eIfx, eIx, oNone, oSome, eSl, eCall, eCall0, eBlt, fLen, fTuple, fList, fInt, fMin, fMax, bIsi, gNm, gTup, gNil, gCons, iSeq, iRng, iRng2, sNil, sSeq, sPass, sDead, sExpr, sRet, sAsg, sIf, okQ_ok, okQ_exc, to_ok, to_exc, ci1, ci2, ci3, ci4, sl0, sl1, sl2, sl3, sl4, sn1, sn2, sn3, sn4, lk_P, lk_S, lk_W, lk_R, lk_N, lk_pr, lk_int, lk_bl, lk_non, lk_str, lk_tup, lk_lst, lk_scr, not_false_eq_true, true_implies, decide_true, decide_false, not_true_eq_false, Bool.false_and, Bool.true_and, Bool.and_true, Bool.and_false, List.set_cons_zero, List.set_cons_succ, List.getElem?_cons_zero, List.getElem?_cons_succ, wipeT, List.length_cons, List.length_nil, List.length_map, List.map_cons, List.map_nil, D.ty, kb1, kb2, kb3, kb4, kb5, kb6, kb7, kb8, kb9, atI_0, atI_1, atI_2, atI_3, true_and, and_true, or_false, false_or, or_true, true_or, false_and, and_false, or_self, and_self, Bool.not_true, Bool.not_false, Bool.not_not, reduceCtorEq, false_implies, forall_const, implies_true, decide_eq_true_eq, decide_eq_false_iff_not, Bool.and_eq_true, Bool.and_eq_false_iff, Bool.not_eq_true, Bool.not_eq_eq_eq_not, Bool.true_eq_false, Bool.false_eq_true, Option.map_some, Option.some.injEq, exists_eq_left, exists_eq_left', e2]
      have := h M1 hs1
      unfold ruleOf at this
      rw [← hp] at this
      exact this
  have e0 : ∀ (ns : List Int) (K : Bool → Prop), oEq (.lst (ns.map D.int)) (.lst []) K ↔ K (decide (ns = [])) := fun ns K => oEq_en (n := 1) (en_lst en_int) (by decide) ns []
  have hskl := stm_le (stSk sc) 1 (stSk_le sc) (List.range sh.toNat) n
  simp only [List.length_range] at hskl
  simp only [e0, eVar, eInt, eBl, eNon, eStr, eB, aNil, aCons, eTup, eLst, eBin, bCmp, oAdd, oSub, oMul, oMod, oFdiv, oLt, oLe, oGt, oGe, oEq_int, oNe_int, bChain, bNot, bVal, bAnd, bOr, bIsN, bNotN, eIfx, eIx, oNone, oSome, eSl, eCall, eCall0, eBlt, fLen, fTuple, fList, fInt, fMin, fMax, bIsi, gNm, gTup, gNil, gCons, iSeq, iRng, iRng2, sNil, sSeq, sPass, sDead, sExpr, sRet, sAsg, sIf, okQ_ok, okQ_exc, to_ok, to_exc, ci1, ci2, ci3, ci4, sl0, sl1, sl2, sl3, sl4, sn1, sn2, sn3, sn4, lk_P, lk_S, lk_W, lk_R, lk_N, lk_pr, lk_int, lk_bl, lk_non, lk_str, lk_tup, lk_lst, lk_scr, not_false_eq_true, true_implies, decide_true, decide_false, not_true_eq_false, Bool.false_and, Bool.true_and, Bool.and_true, Bool.and_false, List.set_cons_zero, List.set_cons_succ, List.getElem?_cons_zero, List.getElem?_cons_succ, wipeT, List.length_cons, List.length_nil, List.length_map, List.map_cons, List.map_nil, D.ty, kb1, kb2, kb3, kb4, kb5, kb6, kb7, kb8, kb9, atI_0, atI_1, atI_2, atI_3, true_and, and_true, or_false, false_or, or_true, true_or, false_and, and_false, or_self, and_self, Bool.not_true, Bool.not_false, Bool.not_not, reduceCtorEq, false_implies, forall_const, implies_true, decide_eq_true_eq, decide_eq_false_iff_not, Bool.and_eq_true, Bool.and_eq_false_iff, Bool.not_eq_true, Bool.not_eq_eq_eq_not, Bool.true_eq_false, Bool.false_eq_true, Option.map_some, Option.some.injEq, exists_eq_left, exists_eq_left']
  refine ⟨fun z => ?_, fun z => ?_⟩
  · refine cl_draw (by omega) hl (by omega) ?_
    simp only [eVar, eInt, eBl, eNon, eStr, eB, aNil, aCons, eTup, eLst, eBin, bCmp, oAdd, oSub, oMul, oMod, oFdiv, oLt, oLe, oGt, oGe, oEq_int, oNe_int, bChain, bNot, bVal, bAnd, bOr, bIsN, bNotN, eIfx, eIx, oNone, oSome, eSl, eCall, eCall0, eBlt, fLen, fTuple, fList, fInt, fMin, fMax, bIsi, gNm, gTup, gNil, gCons, iSeq, iRng, iRng2, sNil, sSeq, sPass, sDead, sExpr, sRet, sAsg, sIf, okQ_ok, okQ_exc, to_ok, to_exc, ci1, ci2, ci3, ci4, sl0, sl1, sl2, sl3, sl4, sn1, sn2, sn3, sn4, lk_P, lk_S, lk_W, lk_R, lk_N, lk_pr, lk_int, lk_bl, lk_non, lk_str, lk_tup, lk_lst, lk_scr, not_false_eq_true, true_implies, decide_true, decide_false, not_true_eq_false, Bool.false_and, Bool.true_and, Bool.and_true, Bool.and_false, List.set_cons_zero, List.set_cons_succ, List.getElem?_cons_zero, List.getElem?_cons_succ, wipeT, List.length_cons, List.length_nil, List.length_map, List.map_cons, List.map_nil, D.ty, kb1, kb2, kb3, kb4, kb5, kb6, kb7, kb8, kb9, atI_0, atI_1, atI_2, atI_3, true_and, and_true, or_false, false_or, or_true, true_or, false_and, and_false, or_self, and_self, Bool.not_true, Bool.not_false, Bool.not_not, reduceCtorEq, false_implies, forall_const, implies_true, decide_eq_true_eq, decide_eq_false_iff_not, Bool.and_eq_true, Bool.and_eq_false_iff, Bool.not_eq_true, Bool.not_eq_eq_eq_not, Bool.true_eq_false, Bool.false_eq_true, Option.map_some, Option.some.injEq, exists_eq_left, exists_eq_left']
    have := key ([1 + mixed sc ((stm (stSk sc) (List.range sh.toNat) n).2 + 1) sh], (stm (stSk sc) (List.range sh.toNat) n).2 + 1) (by simp [skOf, z])
    simp only [eVar, eInt, eBl, eNon, eStr, eB, aNil, aCons, eTup, eLst, eBin, bCmp, oAdd, oSub, oMul, oMod, oFdiv, oLt, oLe, oGt, oGe, oEq_int, oNe_int, bChain, bNot, bVal, bAnd, bOr, bIsN, bNotN, eIfx, eIx, oNone, oSome, eSl, eCall, eCall0, eBlt, fLen, fTuple, fList, fInt, fMin, fMax, bIsi, gNm, gTup, gNil, gCons, iSeq, iRng, iRng2, sNil, sSeq, sPass, sDead, sExpr, sRet, sAsg, sIf, okQ_ok, okQ_exc, to_ok, to_exc, ci1, ci2, ci3, ci4, sl0, sl1, sl2, sl3, sl4, sn1, sn2, sn3, sn4, lk_P, lk_S, lk_W, lk_R, lk_N, lk_pr, lk_int, lk_bl, lk_non, lk_str, lk_tup, lk_lst, lk_scr, not_false_eq_true, true_implies, decide_true, decide_false, not_true_eq_false, Bool.false_and, Bool.true_and, Bool.and_true, Bool.and_false, List.set_cons_zero, List.set_cons_succ, List.getElem?_cons_zero, List.getElem?_cons_succ, wipeT, List.length_cons, List.length_nil, List.length_map, List.map_cons, List.map_nil, D.ty, kb1, kb2, kb3, kb4, kb5, kb6, kb7, kb8, kb9, atI_0, atI_1, atI_2, atI_3, true_and, and_true, or_false, false_or, or_true, true_or, false_and, and_false, or_self, and_self, Bool.not_true, Bool.not_false, Bool.not_not, reduceCtorEq, false_implies, forall_const, implies_true, decide_eq_true_eq, decide_eq_false_iff_not, Bool.and_eq_true, Bool.and_eq_false_iff, Bool.not_eq_true, Bool.not_eq_eq_eq_not, Bool.true_eq_false, Bool.false_eq_true, Option.map_some, Option.some.injEq, exists_eq_left, exists_eq_left', sFor] at this
    exact this
  · have := key (stm (stSk sc) (List.range sh.toNat) n) (by simp [skOf, z])
    simp only [eVar, eInt, eBl, eNon, eStr, eB, aNil, aCons, eTup, eLst, eBin, bCmp, oAdd, oSub, oMul, oMod, oFdiv, oLt, oLe, oGt, oGe, oEq_int, oNe_int, bChain, bNot, bVal, bAnd, bOr, bIsN, bNotN, eIfx, eIx, oNone, oSome, eSl, eCall, eCall0, eBlt, fLen, fTuple, fList, fInt, fMin, fMax, bIsi, gNm, gTup, gNil, gCons, iSeq, iRng, iRng2, sNil, sSeq, sPass, sDead, sExpr, sRet, sAsg, sIf, okQ_ok, okQ_exc, to_ok, to_exc, ci1, ci2, ci3, ci4, sl0, sl1, sl2, sl3, sl4, sn1, sn2, sn3, sn4, lk_P, lk_S, lk_W, lk_R, lk_N, lk_pr, lk_int, lk_bl, lk_non, lk_str, lk_tup, lk_lst, lk_scr, not_false_eq_true, true_implies, decide_true, decide_false, not_true_eq_false, Bool.false_and, Bool.true_and, Bool.and_true, Bool.and_false, List.set_cons_zero, List.set_cons_succ, List.getElem?_cons_zero, List.getElem?_cons_succ, wipeT, List.length_cons, List.length_nil, List.length_map, List.map_cons, List.map_nil, D.ty, kb1, kb2, kb3, kb4, kb5, kb6, kb7, kb8, kb9, atI_0, atI_1, atI_2, atI_3, true_and, and_true, or_false, false_or, or_true, true_or, false_and, and_false, or_self, and_self, Bool.not_true, Bool.not_false, Bool.not_not, reduceCtorEq, false_implies, forall_const, implies_true, decide_eq_true_eq, decide_eq_false_iff_not, Bool.and_eq_true, Bool.and_eq_false_iff, Bool.not_eq_true, Bool.not_eq_eq_eq_not, Bool.true_eq_false, Bool.false_eq_true, Option.map_some, Option.some.injEq, exists_eq_left, exists_eq_left', sFor] at this
    exact this
end K3

set_option Elab.async false
set_option linter.all false
set_option maxRecDepth 100000
set_option maxHeartbeats 1000000
namespace K3
open PySem J
open L2 (kitB atI CMul)
theorem pw_range (k : Nat) : ((List.range k).map fun i : Nat => 1 + (i : Int)).Pairwise (fun a b => ltI a b = true) := by
  rw [List.pairwise_map]
  refine (List.pairwise_lt_range (n := k)).imp fun h => ?_
  exact decide_eq_true (by omega)
theorem pw_prod (k : Nat) : ((List.range k).flatMap fun i : Nat => (List.range k).map fun j : Nat => (1 + (i : Int), 1 + (j : Int))).Pairwise (fun a b => ltP a b = true) := by
  rw [List.pairwise_flatMap]
  refine ⟨fun i _ => ?_, ?_⟩
  · rw [List.pairwise_map]
    refine (List.pairwise_lt_range (n := k)).imp fun h => decide_eq_true (Or.inr ⟨rfl, by simp only; omega⟩)
  · refine (List.pairwise_lt_range (n := k)).imp fun h x hx y hy => ?_
    obtain ⟨j, _, rfl⟩ := List.mem_map.mp hx
    obtain ⟨j', _, rfl⟩ := List.mem_map.mp hy
    exact decide_eq_true (Or.inl (by simp only; omega))
theorem sk_sub (sc : List Int) (k n : Nat) : List.Sublist (stm (stSk sc) (List.range k) n).1 ((List.range k).map fun i : Nat => 1 + (i : Int)) := by
  have h := stm_sub (stSk sc) (fun i : Nat => [1 + (i : Int)]) (fun n i => by unfold stSk; split <;> simp) (List.range k) n
  rw [List.map_eq_flatMap]
  exact h
theorem br_sub (sc : List Int) (sh : Int) (n : Nat) : List.Sublist (brOf sc sh n).1 ((List.range sh.toNat).flatMap fun i : Nat => (List.range sh.toNat).map fun j : Nat => (1 + (i : Int), 1 + (j : Int))) := by
  refine stm_sub (stBB sc sh.toNat) (fun i : Nat => (List.range sh.toNat).map fun j : Nat => (1 + (i : Int), 1 + (j : Int))) (fun n i => ?_) _ n
  have h := stm_sub (stB sc i) (fun j : Nat => [(1 + (i : Int), 1 + (j : Int))]) (fun n j => by unfold stB; split <;> simp) (List.range sh.toNat) n
  rw [List.map_eq_flatMap]
  exact h
theorem rule_ok (sc : List Int) (sh long : Int) (n : Nat) (hsh : 1 ≤ sh ∧ sh ≤ 3) (hlo : 1 ≤ long ∧ long ≤ 4) : Rok sh (ruleOf sc sh long n).1 := by
  have hk : sh.toNat ≤ 3 := by omega
  have hs := sk_sub sc sh.toNat n
  have hsl : ((List.range sh.toNat).map fun i : Nat => 1 + (i : Int)).length = sh.toNat := by simp
  have hb := br_sub sc sh (skOf sc sh n).2
  have hbl : ((List.range sh.toNat).flatMap fun i : Nat => (List.range sh.toNat).map fun j : Nat => (1 + (i : Int), 1 + (j : Int))).length ≤ 9 := by
    have h1 := flat_len (fun i : Nat => (List.range sh.toNat).map fun j : Nat => (1 + (i : Int), 1 + (j : Int))) sh.toNat (List.range sh.toNat) (fun x _ => by simp)
    simp only [List.length_range] at h1
    have h2 : sh.toNat * sh.toNat ≤ 3 * 3 := Nat.mul_le_mul hk hk
    omega
  have hm1 := mixed_lt sc ((brOf sc sh (skOf sc sh n).2).2 + 1) (many := long) (by omega)
  have hm2 := mixed_lt sc ((brOf sc sh (skOf sc sh n).2).2 + 2) (many := min 3 long) (by omega)
  have hms := mixed_lt sc ((stm (stSk sc) (List.range sh.toNat) n).2 + 1) (many := sh) (by omega)
  refine ⟨?_, ?_, ?_, ?_, ⟨?_, ?_⟩, ⟨?_, ?_⟩, ?_, ?_, ?_⟩
  · show (skOf sc sh n).1 ≠ []
    unfold skOf
    simp only
    split
    · simp
    · assumption
  · show ∀ s ∈ (skOf sc sh n).1, 1 ≤ s ∧ s ≤ sh
    unfold skOf
    simp only
    split
    · intro s hs
      simp only [List.mem_singleton] at hs
      omega
    · intro s hsm
      obtain ⟨i, hi, rfl⟩ := List.mem_map.mp (hs.subset hsm)
      have := List.mem_range.mp hi
      omega
  · show (skOf sc sh n).1.Pairwise (fun a b => ltI a b = true)
    unfold skOf
    simp only
    split
    · simp
    · exact (pw_range _).sublist hs
  · show (skOf sc sh n).1.length ≤ 3
    unfold skOf
    simp only
    split
    · simp
    · have := hs.length_le
      omega
  · show 1 ≤ 1 + mixed sc ((brOf sc sh (skOf sc sh n).2).2 + 1) long
    omega
  · show 1 + mixed sc ((brOf sc sh (skOf sc sh n).2).2 + 1) long ≤ 4
    omega
  · show 1 ≤ 1 + mixed sc ((brOf sc sh (skOf sc sh n).2).2 + 2) (min 3 long)
    omega
  · show 1 + mixed sc ((brOf sc sh (skOf sc sh n).2).2 + 2) (min 3 long) ≤ 3
    omega
  · intro p hp
    obtain ⟨i, hi, h1⟩ := List.mem_flatMap.mp (hb.subset hp)
    obtain ⟨j, hj, rfl⟩ := List.mem_map.mp h1
    have h2 := List.mem_range.mp hi
    have h3 := List.mem_range.mp hj
    simp only
    omega
  · exact (pw_prod _).sublist hb
  · exact Nat.le_trans hb.length_le hbl
/-! needs -/
def pv (sc : List Int) (many : Int) (n : Nat) : Int := ([1, 2, 2, many + 1] : List Int)[pickIx sc n 4]?.getD 1
theorem pv_some (sc : List Int) (many : Int) (n : Nat) : ([.int 1, .int 2, .int 2, .int (many + 1)] : List D)[pickIx sc n 4]? = some (.int (pv sc many n)) := by
  have h := pickIx_lt sc n (k := 4) (by decide)
  have e : ([.int 1, .int 2, .int 2, .int (many + 1)] : List D) = ([1, 2, 2, many + 1] : List Int).map D.int := rfl
  rw [e, List.getElem?_map]
  unfold pv
  rw [List.getElem?_eq_getElem (show pickIx sc n 4 < ([1, 2, 2, many + 1] : List Int).length from h)]
  rfl
theorem pv_pos (sc : List Int) (many : Int) (n : Nat) (h : 0 ≤ many) : 0 < pv sc many n := by
  have hk := pickIx_lt sc n (k := 4) (by decide)
  unfold pv
  rw [List.getElem?_eq_getElem (show pickIx sc n 4 < ([1, 2, 2, many + 1] : List Int).length from hk)]
  have hm : ([1, 2, 2, many + 1] : List Int)[pickIx sc n 4]'hk ∈ ([1, 2, 2, many + 1] : List Int) := List.getElem_mem _
  simp only [Option.getD_some]
  generalize ([1, 2, 2, many + 1] : List Int)[pickIx sc n 4]'hk = x at hm
  simp at hm
  omega
def low (sc : List Int) (many : Int) (n : Nat) : Int := mixed sc (n + 2) (pv sc many n)
def stN (sc : List Int) (many : Int) (n : Nat) (_ : Nat) : List (Int × Int) × Nat := ([(min (low sc many n) 4, min 4 (low sc many n + mixed sc (n + 3) 3))], n + 3)
def stD (sc : List Int) (sh many : Int) (n : Nat) (_ : Nat) : List (List (Int × Int)) × Nat := ([(stm (stN sc many) (List.range sh.toNat) n).1], (stm (stN sc many) (List.range sh.toNat) n).2)
def needsOf (sc : List Int) (sh many : Int) (n : Nat) : List (List (Int × Int)) × Nat := stm (stD sc sh many) (List.range (1 + mixed sc (n + 1) 3).toNat) (n + 1)
theorem stN_gr (sc : List Int) (many : Int) (n j : Nat) : (stN sc many n j).1.length + n ≤ (stN sc many n j).2 := by simp [stN]; omega
theorem stD_le (sc : List Int) (sh many : Int) (n j : Nat) : (stD sc sh many n j).2 ≤ n + 3 * sh.toNat := by
  have := stm_le (stN sc many) 3 (fun n j => Nat.le_refl _) (List.range sh.toNat) n
  simpa [stD] using this
theorem needs_ok (sc : List Int) (sh many : Int) (n : Nat) (hm : 0 ≤ many) (hs : 1 ≤ sh) : ∀ nd ∈ (needsOf sc sh many n).1, Nok sh nd := by
  refine stm_all (stD sc sh many) (Nok sh) (fun n j nd h => ?_) _ _
  simp only [stD, List.mem_singleton] at h
  subst h
  refine ⟨?_, ?_⟩
  · rw [stm_len1 (stN sc many) (fun _ _ => rfl), List.length_range]
    omega
  · refine stm_all (stN sc many) (fun p => 0 ≤ p.1 ∧ p.1 ≤ p.2 ∧ p.2 ≤ 4) (fun n j p h => ?_) _ _
    simp only [stN, List.mem_singleton] at h
    subst h
    have h1 := mixed_lt sc (n + 2) (pv_pos sc many n hm)
    have h2 := mixed_lt sc (n + 3) (many := 3) (by decide)
    unfold low
    simp only
    omega
theorem needs_len (sc : List Int) (sh many : Int) (n : Nat) : 1 ≤ (needsOf sc sh many n).1.length ∧ (needsOf sc sh many n).1.length ≤ 3 := by
  unfold needsOf
  rw [stm_len1 (stD sc sh many) (fun _ _ => rfl), List.length_range]
  have h2 := mixed_lt sc (n + 1) (many := 3) (by decide)
  omega
theorem needs_le (sc : List Int) (sh many : Int) (n : Nat) (hs : sh ≤ 3) : (needsOf sc sh many n).2 ≤ n + 28 := by
  have h1 := stm_le (stD sc sh many) (3 * sh.toNat) (stD_le sc sh many) (List.range (1 + mixed sc (n + 1) 3).toNat) (n + 1)
  have h2 := mixed_lt sc (n + 1) (many := 3) (by decide)
  simp only [List.length_range] at h1
  have h3 : 3 * sh.toNat * (1 + mixed sc (n + 1) 3).toNat ≤ 9 * 3 := Nat.mul_le_mul (by omega) (by omega)
  unfold needsOf
  omega
end K3

set_option Elab.async false
set_option linter.all false
set_option maxRecDepth 100000
set_option maxHeartbeats 1000000
namespace K3
open PySem J
open L2 (kitB atI CMul)
def S__law_needs : FS := fun ds M r M' => ∃ (sc : List Int) (l : Addr) (M0 : Mem) (n : Nat) (sh many : Int), ds = [.scr sc, .cell l, .int sh, .int many] ∧ ((1 ≤ sh ∧ sh ≤ 3) ∧ 0 ≤ many ∧ l ∈ M0.map (·.1) ∧ n ≤ 800000) ∧ M = Tn l M0 n ∧ r = .ok (.tup ((needsOf sc sh many n).1.map encN)) ∧ M' = Tn l M0 (needsOf sc sh many n).2
theorem t__law_needs (sc : List Int) (l : Addr) (M0 : Mem) (n : Nat) (sh many : Int) (hsh : 1 ≤ sh ∧ sh ≤ 3) (hma : 0 ≤ many) (hl : l ∈ M0.map (·.1)) (hn : n ≤ 800000) (P : Po) (h : ∀ M1, List.Sublist M0 M1 → P.rt (.tup ((needsOf sc sh many n).1.map encN)) (Tn l M1 (needsOf sc sh many n).2)) :
    b__law_needs S__law_draw S__law_pick [some (.scr sc), some (.cell l), some (.int sh), some (.int many), none, none, none, none, none] (Tn l M0 n) P := by
  have hk : sh.toNat ≤ 3 := by omega
  simp only [b__law_needs, eVar, eInt, eBl, eNon, eStr, eB, aNil, aCons, eTup, eLst, eBin, bCmp, oAdd, oSub, oMul, oMod, oFdiv, oLt, oLe, oGt, oGe, oEq_int, oNe_int, bChain, bNot, bVal, bAnd, bOr, bIsN, bNotN, eIfx, eIx, oNone, oSome, eSl, eCall, eCall0, eBlt, fLen, fTuple, fList, fInt, fMin, fMax, bIsi, gNm, gTup, gNil, gCons, iSeq, iRng, iRng2, sNil, sSeq, sPass, sDead, sExpr, sRet, sAsg, sIf, okQ_ok, okQ_exc, to_ok, to_exc, ci1, ci2, ci3, ci4, sl0, sl1, sl2, sl3, sl4, sn1, sn2, sn3, sn4, lk_P, lk_S, lk_W, lk_R, lk_N, lk_pr, lk_int, lk_bl, lk_non, lk_str, lk_tup, lk_lst, lk_scr, not_false_eq_true, true_implies, decide_true, decide_false, not_true_eq_false, Bool.false_and, Bool.true_and, Bool.and_true, Bool.and_false, List.set_cons_zero, List.set_cons_succ, List.getElem?_cons_zero, List.getElem?_cons_succ, wipeT, List.length_cons, List.length_nil, List.length_map, List.map_cons, List.map_nil, D.ty, kb1, kb2, kb3, kb4, kb5, kb6, kb7, kb8, kb9, atI_0, atI_1, atI_2, atI_3, true_and, and_true, or_false, false_or, or_true, true_or, false_and, and_false, or_self, and_self, Bool.not_true, Bool.not_false, Bool.not_not, reduceCtorEq, false_implies, forall_const, implies_true, decide_eq_true_eq, decide_eq_false_iff_not, Bool.and_eq_true, Bool.and_eq_false_iff, Bool.not_eq_true, Bool.not_eq_eq_eq_not, Bool.true_eq_false, Bool.false_eq_true, Option.map_some, Option.some.injEq, exists_eq_left, exists_eq_left', sFor, sNew]
  intro l4 hl4
  rw [Tn_keys] at hl4
  have hne : l4 ≠ l := fun z => hl4 (z ▸ hl)
  rw [Tn_cons' hne]
  refine cl_draw (by decide) (by simp [hl]) (by omega) ?_
  simp only [eVar, eInt, eBl, eNon, eStr, eB, aNil, aCons, eTup, eLst, eBin, bCmp, oAdd, oSub, oMul, oMod, oFdiv, oLt, oLe, oGt, oGe, oEq_int, oNe_int, bChain, bNot, bVal, bAnd, bOr, bIsN, bNotN, eIfx, eIx, oNone, oSome, eSl, eCall, eCall0, eBlt, fLen, fTuple, fList, fInt, fMin, fMax, bIsi, gNm, gTup, gNil, gCons, iSeq, iRng, iRng2, sNil, sSeq, sPass, sDead, sExpr, sRet, sAsg, sIf, okQ_ok, okQ_exc, to_ok, to_exc, ci1, ci2, ci3, ci4, sl0, sl1, sl2, sl3, sl4, sn1, sn2, sn3, sn4, lk_P, lk_S, lk_W, lk_R, lk_N, lk_pr, lk_int, lk_bl, lk_non, lk_str, lk_tup, lk_lst, lk_scr, not_false_eq_true, true_implies, decide_true, decide_false, not_true_eq_false, Bool.false_and, Bool.true_and, Bool.and_true, Bool.and_false, List.set_cons_zero, List.set_cons_succ, List.getElem?_cons_zero, List.getElem?_cons_succ, wipeT, List.length_cons, List.length_nil, List.length_map, List.map_cons, List.map_nil, D.ty, kb1, kb2, kb3, kb4, kb5, kb6, kb7, kb8, kb9, atI_0, atI_1, atI_2, atI_3, true_and, and_true, or_false, false_or, or_true, true_or, false_and, and_false, or_self, and_self, Bool.not_true, Bool.not_false, Bool.not_not, reduceCtorEq, false_implies, forall_const, implies_true, decide_eq_true_eq, decide_eq_false_iff_not, Bool.and_eq_true, Bool.and_eq_false_iff, Bool.not_eq_true, Bool.not_eq_eq_eq_not, Bool.true_eq_false, Bool.false_eq_true, Option.map_some, Option.some.injEq, exists_eq_left, exists_eq_left']
  have hm3 := mixed_lt sc (n + 1) (many := 3) (by decide)
  refine ⟨⟨by omega, by omega⟩, ?_⟩
  rw [rngD_map]
  refine for_pre (fun pre T M' => ∃ a b c d M1, T = [some (.scr sc), some (.cell l), some (.int sh), some (.int many), some (.cell l4), a, b, c, d] ∧ M' = Tn l M1 (stm (stD sc sh many) pre (n + 1)).2 ∧ List.Sublist M0 M1 ∧ l ∈ M1.map (·.1) ∧ M1.lookup l4 = some (.lst ((stm (stD sc sh many) pre (n + 1)).1.map encN))) _ ?_ ?_ ⟨_, _, _, _, _, rfl, rfl, List.sublist_cons_self _ _, by simp [hl], lookup_cons_eq⟩
  · rintro pre i post hx T M' N ⟨a, b, c, d, M1, rfl, rfl, hs1, hl1, hk1⟩ hN
    have hpre : pre.length ≤ 2 := by
      have := congrArg List.length hx
      simp only [List.length_range, List.length_append, List.length_cons] at this
      omega
    have hq2 : (stm (stD sc sh many) pre (n + 1)).2 ≤ n + 1 + 18 := by
      have h1 := stm_le (stD sc sh many) (3 * sh.toNat) (stD_le sc sh many) pre (n + 1)
      have h2 : 3 * sh.toNat * pre.length ≤ 9 * 2 := Nat.mul_le_mul (by omega) hpre
      omega
    have hq1 := stm_len (stD sc sh many) 1 (fun _ _ => Nat.le_refl _) pre (n + 1)
    rw [stm_snoc] at hN
    generalize stm (stD sc sh many) pre (n + 1) = q at hk1 hN hq1 hq2 ⊢
    refine ⟨trivial, ?_⟩
    simp only [eVar, eInt, eBl, eNon, eStr, eB, aNil, aCons, eTup, eLst, eBin, bCmp, oAdd, oSub, oMul, oMod, oFdiv, oLt, oLe, oGt, oGe, oEq_int, oNe_int, bChain, bNot, bVal, bAnd, bOr, bIsN, bNotN, eIfx, eIx, oNone, oSome, eSl, eCall, eCall0, eBlt, fLen, fTuple, fList, fInt, fMin, fMax, bIsi, gNm, gTup, gNil, gCons, iSeq, iRng, iRng2, sNil, sSeq, sPass, sDead, sExpr, sRet, sAsg, sIf, okQ_ok, okQ_exc, to_ok, to_exc, ci1, ci2, ci3, ci4, sl0, sl1, sl2, sl3, sl4, sn1, sn2, sn3, sn4, lk_P, lk_S, lk_W, lk_R, lk_N, lk_pr, lk_int, lk_bl, lk_non, lk_str, lk_tup, lk_lst, lk_scr, not_false_eq_true, true_implies, decide_true, decide_false, not_true_eq_false, Bool.false_and, Bool.true_and, Bool.and_true, Bool.and_false, List.set_cons_zero, List.set_cons_succ, List.getElem?_cons_zero, List.getElem?_cons_succ, wipeT, List.length_cons, List.length_nil, List.length_map, List.map_cons, List.map_nil, D.ty, kb1, kb2, kb3, kb4, kb5, kb6, kb7, kb8, kb9, atI_0, atI_1, atI_2, atI_3, true_and, and_true, or_false, false_or, or_true, true_or, false_and, and_false, or_self, and_self, Bool.not_true, Bool.not_false, Bool.not_not, reduceCtorEq, false_implies, forall_const, implies_true, decide_eq_true_eq, decide_eq_false_iff_not, Bool.and_eq_true, Bool.and_eq_false_iff, Bool.not_eq_true, Bool.not_eq_eq_eq_not, Bool.true_eq_false, Bool.false_eq_true, Option.map_some, Option.some.injEq, exists_eq_left, exists_eq_left', sNew, sFor]
    intro l6 hl6
    rw [Tn_keys] at hl6
    have hne6 : l6 ≠ l := fun z => hl6 (z ▸ hl1)
    have hne64 : l4 ≠ l6 := fun z => hl6 (z ▸ mem_keys hk1)
    have hl60 : l6 ∉ M0.map (·.1) := fun z => hl6 ((hs1.map _).subset z)
    rw [Tn_cons' hne6]
    refine ⟨⟨by omega, by omega⟩, ?_⟩
    rw [rngD_map]
    refine for_pre (fun pre2 T M' => ∃ c d M1, T = [some (.scr sc), some (.cell l), some (.int sh), some (.int many), some (.cell l4), some (.int (0 + (i : Int))), some (.cell l6), c, d] ∧ M' = Tn l M1 (stm (stN sc many) pre2 q.2).2 ∧ List.Sublist M0 M1 ∧ l ∈ M1.map (·.1) ∧ M1.lookup l4 = some (.lst (q.1.map encN)) ∧ M1.lookup l6 = some (.lst ((stm (stN sc many) pre2 q.2).1.map pairD))) _ ?_ ?_ ⟨_, _, _, rfl, rfl, hs1.cons _, by simp [hl1], by rw [lookup_cons_ne hne64]; exact hk1, lookup_cons_eq⟩
    · rintro pre2 j post2 hx2 T M' N2 ⟨c, d, M2, rfl, rfl, hs2, hl2, hk2, hk6⟩ hN2
      have hpre2 : pre2.length ≤ 2 := by
        have := congrArg List.length hx2
        simp only [List.length_range, List.length_append, List.length_cons] at this
        omega
      have hu2 : (stm (stN sc many) pre2 q.2).2 ≤ q.2 + 6 := by
        have h1 := stm_le (stN sc many) 3 (fun n j => Nat.le_refl _) pre2 q.2
        omega
      have hu1 := stm_gr (stN sc many) (stN_gr sc many) pre2 q.2
      rw [stm_snoc] at hN2
      generalize stm (stN sc many) pre2 q.2 = u at hk6 hN2 hu1 hu2 ⊢
      refine ⟨trivial, ?_⟩
      simp only [eVar, eInt, eBl, eNon, eStr, eB, aNil, aCons, eTup, eLst, eBin, bCmp, oAdd, oSub, oMul, oMod, oFdiv, oLt, oLe, oGt, oGe, oEq_int, oNe_int, bChain, bNot, bVal, bAnd, bOr, bIsN, bNotN, eIfx, eIx, oNone, oSome, eSl, eCall, eCall0, eBlt, fLen, fTuple, fList, fInt, fMin, fMax, bIsi, gNm, gTup, gNil, gCons, iSeq, iRng, iRng2, sNil, sSeq, sPass, sDead, sExpr, sRet, sAsg, sIf, okQ_ok, okQ_exc, to_ok, to_exc, ci1, ci2, ci3, ci4, sl0, sl1, sl2, sl3, sl4, sn1, sn2, sn3, sn4, lk_P, lk_S, lk_W, lk_R, lk_N, lk_pr, lk_int, lk_bl, lk_non, lk_str, lk_tup, lk_lst, lk_scr, not_false_eq_true, true_implies, decide_true, decide_false, not_true_eq_false, Bool.false_and, Bool.true_and, Bool.and_true, Bool.and_false, List.set_cons_zero, List.set_cons_succ, List.getElem?_cons_zero, List.getElem?_cons_succ, wipeT, List.length_cons, List.length_nil, List.length_map, List.map_cons, List.map_nil, D.ty, kb1, kb2, kb3, kb4, kb5, kb6, kb7, kb8, kb9, atI_0, atI_1, atI_2, atI_3, true_and, and_true, or_false, false_or, or_true, true_or, false_and, and_false, or_self, and_self, Bool.not_true, Bool.not_false, Bool.not_not, reduceCtorEq, false_implies, forall_const, implies_true, decide_eq_true_eq, decide_eq_false_iff_not, Bool.and_eq_true, Bool.and_eq_false_iff, Bool.not_eq_true, Bool.not_eq_eq_eq_not, Bool.true_eq_false, Bool.false_eq_true, Option.map_some, Option.some.injEq, exists_eq_left, exists_eq_left']
      refine cl_pick hl2 (by omega) (by simp) (pv_some sc many u.2) ?_
      simp only [eVar, eInt, eBl, eNon, eStr, eB, aNil, aCons, eTup, eLst, eBin, bCmp, oAdd, oSub, oMul, oMod, oFdiv, oLt, oLe, oGt, oGe, oEq_int, oNe_int, bChain, bNot, bVal, bAnd, bOr, bIsN, bNotN, eIfx, eIx, oNone, oSome, eSl, eCall, eCall0, eBlt, fLen, fTuple, fList, fInt, fMin, fMax, bIsi, gNm, gTup, gNil, gCons, iSeq, iRng, iRng2, sNil, sSeq, sPass, sDead, sExpr, sRet, sAsg, sIf, okQ_ok, okQ_exc, to_ok, to_exc, ci1, ci2, ci3, ci4, sl0, sl1, sl2, sl3, sl4, sn1, sn2, sn3, sn4, lk_P, lk_S, lk_W, lk_R, lk_N, lk_pr, lk_int, lk_bl, lk_non, lk_str, lk_tup, lk_lst, lk_scr, not_false_eq_true, true_implies, decide_true, decide_false, not_true_eq_false, Bool.false_and, Bool.true_and, Bool.and_true, Bool.and_false, List.set_cons_zero, List.set_cons_succ, List.getElem?_cons_zero, List.getElem?_cons_succ, wipeT, List.length_cons, List.length_nil, List.length_map, List.map_cons, List.map_nil, D.ty, kb1, kb2, kb3, kb4, kb5, kb6, kb7, kb8, kb9, atI_0, atI_1, atI_2, atI_3, true_and, and_true, or_false, false_or, or_true, true_or, false_and, and_false, or_self, and_self, Bool.not_true, Bool.not_false, Bool.not_not, reduceCtorEq, false_implies, forall_const, implies_true, decide_eq_true_eq, decide_eq_false_iff_not, Bool.and_eq_true, Bool.and_eq_false_iff, Bool.not_eq_true, Bool.not_eq_eq_eq_not, Bool.true_eq_false, Bool.false_eq_true, Option.map_some, Option.some.injEq, exists_eq_left, exists_eq_left']
      refine cl_draw (pv_pos sc many u.2 hma) hl2 (by omega) ?_
      simp only [eVar, eInt, eBl, eNon, eStr, eB, aNil, aCons, eTup, eLst, eBin, bCmp, oAdd, oSub, oMul, oMod, oFdiv, oLt, oLe, oGt, oGe, oEq_int, oNe_int, bChain, bNot, bVal, bAnd, bOr, bIsN, bNotN, eIfx, eIx, oNone, oSome, eSl, eCall, eCall0, eBlt, fLen, fTuple, fList, fInt, fMin, fMax, bIsi, gNm, gTup, gNil, gCons, iSeq, iRng, iRng2, sNil, sSeq, sPass, sDead, sExpr, sRet, sAsg, sIf, okQ_ok, okQ_exc, to_ok, to_exc, ci1, ci2, ci3, ci4, sl0, sl1, sl2, sl3, sl4, sn1, sn2, sn3, sn4, lk_P, lk_S, lk_W, lk_R, lk_N, lk_pr, lk_int, lk_bl, lk_non, lk_str, lk_tup, lk_lst, lk_scr, not_false_eq_true, true_implies, decide_true, decide_false, not_true_eq_false, Bool.false_and, Bool.true_and, Bool.and_true, Bool.and_false, List.set_cons_zero, List.set_cons_succ, List.getElem?_cons_zero, List.getElem?_cons_succ, wipeT, List.length_cons, List.length_nil, List.length_map, List.map_cons, List.map_nil, D.ty, kb1, kb2, kb3, kb4, kb5, kb6, kb7, kb8, kb9, atI_0, atI_1, atI_2, atI_3, true_and, and_true, or_false, false_or, or_true, true_or, false_and, and_false, or_self, and_self, Bool.not_true, Bool.not_false, Bool.not_not, reduceCtorEq, false_implies, forall_const, implies_true, decide_eq_true_eq, decide_eq_false_iff_not, Bool.and_eq_true, Bool.and_eq_false_iff, Bool.not_eq_true, Bool.not_eq_eq_eq_not, Bool.true_eq_false, Bool.false_eq_true, Option.map_some, Option.some.injEq, exists_eq_left, exists_eq_left', sApp, Tn_look hne6, hk6]
      refine cl_draw (by decide) hl2 (by omega) ?_
      simp only [eVar, eInt, eBl, eNon, eStr, eB, aNil, aCons, eTup, eLst, eBin, bCmp, oAdd, oSub, oMul, oMod, oFdiv, oLt, oLe, oGt, oGe, oEq_int, oNe_int, bChain, bNot, bVal, bAnd, bOr, bIsN, bNotN, eIfx, eIx, oNone, oSome, eSl, eCall, eCall0, eBlt, fLen, fTuple, fList, fInt, fMin, fMax, bIsi, gNm, gTup, gNil, gCons, iSeq, iRng, iRng2, sNil, sSeq, sPass, sDead, sExpr, sRet, sAsg, sIf, okQ_ok, okQ_exc, to_ok, to_exc, ci1, ci2, ci3, ci4, sl0, sl1, sl2, sl3, sl4, sn1, sn2, sn3, sn4, lk_P, lk_S, lk_W, lk_R, lk_N, lk_pr, lk_int, lk_bl, lk_non, lk_str, lk_tup, lk_lst, lk_scr, not_false_eq_true, true_implies, decide_true, decide_false, not_true_eq_false, Bool.false_and, Bool.true_and, Bool.and_true, Bool.and_false, List.set_cons_zero, List.set_cons_succ, List.getElem?_cons_zero, List.getElem?_cons_succ, wipeT, List.length_cons, List.length_nil, List.length_map, List.map_cons, List.map_nil, D.ty, kb1, kb2, kb3, kb4, kb5, kb6, kb7, kb8, kb9, atI_0, atI_1, atI_2, atI_3, true_and, and_true, or_false, false_or, or_true, true_or, false_and, and_false, or_self, and_self, Bool.not_true, Bool.not_false, Bool.not_not, reduceCtorEq, false_implies, forall_const, implies_true, decide_eq_true_eq, decide_eq_false_iff_not, Bool.and_eq_true, Bool.and_eq_false_iff, Bool.not_eq_true, Bool.not_eq_eq_eq_not, Bool.true_eq_false, Bool.false_eq_true, Option.map_some, Option.some.injEq, exists_eq_left, exists_eq_left', Tn_look hne6, hk6]
      refine ⟨szl _ (by omega), ?_⟩
      rw [Tn_put' hne6]
      refine hN2 _ _ ⟨_, _, _, rfl, rfl, sub_put hl60 hs2, by rw [put_keys]; exact hl2, by rw [lookup_put_ne hne64]; exact hk2, ?_⟩
      rw [put_lookup hk6]
      simp [pairD, stN, low]
    · rintro T M' ⟨c, d, M2, rfl, rfl, hs2, hl2, hk2, hk6⟩
      refine ⟨trivial, ?_⟩
      have e2 : ∀ m, look (Tn l M2 m) (.cell l6) = .lst ((stm (stN sc many) (List.range sh.toNat) q.2).1.map pairD) := fun m => look_cell (by rw [Tn_look hne6]; exact hk6)
      simp only [eVar, eInt, eBl, eNon, eStr, eB, aNil, aCons, eTup, eLst, eBin, bCmp, oAdd, oSub, oMul, oMod, oFdiv, oLt, oLe, oGt, oGe, oEq_int, oNe_int, bChain, bNot, bVal, bAnd, bOr, bIsN, bNotN, eIfx, eIx, oNone, oSome, eSl, eCall, eCall0, eBlt, fLen, fTuple, fList, fInt, fMin, fMax, bIsi, gNm, gTup, gNil, gCons, iSeq, iRng, iRng2, sNil, sSeq, sPass, sDead, sExpr, sRet, sAsg, sIf, okQ_ok, okQ_exc, to_ok, to_exc, ci1, ci2, ci3, ci4, sl0, sl1, sl2, sl3, sl4, sn1, sn2, sn3, sn4, lk_P, lk_S, lk_W, lk_R, lk_N, lk_pr, lk_int, lk_bl, lk_non, lk_str, lk_tup, lk_lst, lk_scr, not_false_eq_true, true_implies, decide_true, decide_false, not_true_eq_false, Bool.false_and, Bool.true_and, Bool.and_true, Bool.and_false, List.set_cons_zero, List.set_cons_succ, List.getElem?_cons_zero, List.getElem?_cons_succ, wipeT, List.length_cons, List.length_nil, List.length_map, List.map_cons, List.map_nil, D.ty, kb1, kb2, kb3, kb4, kb5, kb6, kb7, kb8, kb9, atI_0, atI_1, atI_2, atI_3, true_and, and_true, or_false, false_or, or_true, true_or, false_and, and_false, or_self, and_self, Bool.not_true, Bool.not_false, Bool.not_not, reduceCtorEq, false_implies, forall_const, implies_true, decide_eq_true_eq, decide_eq_false_iff_not, Bool.and_eq_true, Bool.and_eq_false_iff, Bool.not_eq_true, Bool.not_eq_eq_eq_not, Bool.true_eq_false, Bool.false_eq_true, Option.map_some, Option.some.injEq, exists_eq_left, exists_eq_left', sApp, Tn_look hne, hk2, e2]
      refine ⟨szl _ (by omega), ?_⟩
      rw [Tn_put' hne]
      refine hN _ _ ⟨_, _, _, _, _, rfl, rfl, sub_put hl4 hs2, by rw [put_keys]; exact hl2, ?_⟩
      rw [put_lookup hk2]
      simp [stD, encN]
  · rintro T M' ⟨a, b, c, d, M1, rfl, rfl, hs1, hl1, hk1⟩
    refine ⟨trivial, ?_⟩
    have e1 : stm (stD sc sh many) (List.range (1 + mixed sc (n + 1) 3).toNat) (n + 1) = needsOf sc sh many n := rfl
    rw [e1] at hk1 ⊢
    have e2 : ∀ m, look (Tn l M1 m) (.cell l4) = .lst ((needsOf sc sh many n).1.map encN) := fun m => look_cell (by rw [Tn_look hne]; exact hk1)
    simp only [eVar, eInt, eBl, eNon, eStr, eB, aNil, aCons, eTup, eLst, eBin, bCmp, oAdd, oSub, oMul, oMod, oFdiv, oLt, oLe, oGt, oGe, oEq_int, oNe_int, bChain, bNot, bVal, bAnd, bOr, bIsN, bNotN, eIfx, eIx, oNone, oSome, eSl, eCall, eCall0, eBlt, fLen, fTuple, fList, fInt, fMin, fMax, bIsi, gNm, gTup, gNil, gCons, iSeq, iRng, iRng2, sNil, sSeq, sPass, sDead, sExpr, sRet, sAsg, sIf, okQ_ok, okQ_exc, to_ok, to_exc, ci1, ci2, ci3, ci4, sl0, sl1, sl2, sl3, sl4, sn1, sn2, sn3, sn4, lk_P, lk_S, lk_W, lk_R, lk_N, lk_pr, lk_int, lk_bl, lk_non, lk_str, lk_tup, lk_lst, lk_scr, not_false_eq_true, true_implies, decide_true, decide_false, not_true_eq_false, Bool.false_and, Bool.true_and, Bool.and_true, Bool.and_false, List.set_cons_zero, List.set_cons_succ, List.getElem?_cons_zero, List.getElem?_cons_succ, wipeT, List.length_cons, List.length_nil, List.length_map, List.map_cons, List.map_nil, D.ty, kb1, kb2, kb3, kb4, kb5, kb6, kb7, kb8, kb9, atI_0, atI_1, atI_2, atI_3, true_and, and_true, or_false, false_or, or_true, true_or, false_and, and_false, or_self, and_self, Bool.not_true, Bool.not_false, Bool.not_not, reduceCtorEq, false_implies, forall_const, implies_true, decide_eq_true_eq, decide_eq_false_iff_not, Bool.and_eq_true, Bool.and_eq_false_iff, Bool.not_eq_true, Bool.not_eq_eq_eq_not, Bool.true_eq_false, Bool.false_eq_true, Option.map_some, Option.some.injEq, exists_eq_left, exists_eq_left', e2]
    exact h M1 hs1
/-! the world -/
def stR (sc : List Int) (sh long : Int) (n : Nat) (_ : Nat) : List Rule × Nat := ([(ruleOf sc sh long n).1], (ruleOf sc sh long n).2)
def shOf (sc : List Int) (n : Nat) : Int := 1 + mixed sc (n + 3) (pv sc 2 (n + 1))
def worldOf (sc : List Int) (hands long : Int) (n : Nat) : Wd × Nat :=
  let many := 1 + mixed sc (n + 1) hands
  let p := stm (stR sc (shOf sc n) long) (List.range many.toNat) (n + 3)
  let q := needsOf sc (shOf sc n) many p.2
  (⟨shOf sc n, p.1, q.1⟩, q.2)
theorem sh_ok (sc : List Int) (n : Nat) : 1 ≤ shOf sc n ∧ shOf sc n ≤ 3 := by
  have h1 := mixed_lt sc (n + 3) (pv_pos sc 2 (n + 1) (by decide))
  have hk := pickIx_lt sc (n + 1) (k := 4) (by decide)
  have h2 : pv sc 2 (n + 1) ≤ 3 := by
    unfold pv
    rw [List.getElem?_eq_getElem (show pickIx sc (n + 1) 4 < ([1, 2, 2, 2 + 1] : List Int).length from hk)]
    have hm : ([1, 2, 2, 2 + 1] : List Int)[pickIx sc (n + 1) 4]'hk ∈ ([1, 2, 2, 2 + 1] : List Int) := List.getElem_mem _
    simp only [Option.getD_some]
    generalize ([1, 2, 2, 2 + 1] : List Int)[pickIx sc (n + 1) 4]'hk = x at hm
    simp at hm
    omega
  unfold shOf
  omega
theorem world_ok (sc : List Int) (hands long : Int) (n : Nat) (hh : 1 ≤ hands ∧ hands ≤ 4) (hlo : 1 ≤ long ∧ long ≤ 4) : Wok (worldOf sc hands long n).1 := by
  have hm := mixed_lt sc (n + 1) (many := hands) (by omega)
  refine ⟨sh_ok sc n, ?_, ?_, needs_len _ _ _ _, needs_ok _ _ _ _ (by omega) (sh_ok sc n).1⟩
  · show 1 ≤ (stm (stR sc (shOf sc n) long) (List.range (1 + mixed sc (n + 1) hands).toNat) (n + 3)).1.length ∧ (stm (stR sc (shOf sc n) long) (List.range (1 + mixed sc (n + 1) hands).toNat) (n + 3)).1.length ≤ 4
    rw [stm_len1 _ (fun _ _ => rfl), List.length_range]
    omega
  · exact stm_all (stR sc (shOf sc n) long) (Rok (shOf sc n)) (fun n j r h => by
      simp only [stR, List.mem_singleton] at h
      subst h
      exact rule_ok _ _ _ _ (sh_ok _ _) hlo) _ _
theorem stR_le (sc : List Int) (m : Nat) (long : Int) (n j : Nat) : (stR sc (shOf sc m) long n j).2 ≤ n + 15 := ruleOf_le sc (shOf sc m) long n (sh_ok _ _).2
theorem world_le (sc : List Int) (hands long : Int) (n : Nat) (hh : 1 ≤ hands ∧ hands ≤ 4) : (worldOf sc hands long n).2 ≤ n + 100 := by
  have hm := mixed_lt sc (n + 1) (many := hands) (by omega)
  have h1 := stm_le (stR sc (shOf sc n) long) 15 (stR_le sc n long) (List.range (1 + mixed sc (n + 1) hands).toNat) (n + 3)
  have h2 := needs_le sc (shOf sc n) (1 + mixed sc (n + 1) hands) (stm (stR sc (shOf sc n) long) (List.range (1 + mixed sc (n + 1) hands).toNat) (n + 3)).2 (sh_ok sc n).2
  simp only [List.length_range] at h1
  show (needsOf sc (shOf sc n) (1 + mixed sc (n + 1) hands) (stm (stR sc (shOf sc n) long) (List.range (1 + mixed sc (n + 1) hands).toNat) (n + 3)).2).2 ≤ _
  omega
def S__law_world : FS := fun ds M r M' => ∃ (sc : List Int) (l : Addr) (M0 : Mem) (n : Nat) (hands long : Int), ds = [.scr sc, .cell l, .int hands, .int long] ∧ ((1 ≤ hands ∧ hands ≤ 4) ∧ (1 ≤ long ∧ long ≤ 4) ∧ l ∈ M0.map (·.1) ∧ n ≤ 700000) ∧ M = Tn l M0 n ∧ r = .ok (encW (worldOf sc hands long n).1) ∧ M' = Tn l M0 (worldOf sc hands long n).2
theorem t__law_world (sc : List Int) (l : Addr) (M0 : Mem) (n : Nat) (hands long : Int) (hh : 1 ≤ hands ∧ hands ≤ 4) (hlo : 1 ≤ long ∧ long ≤ 4) (hl : l ∈ M0.map (·.1)) (hn : n ≤ 700000) (P : Po) (h : P.rt (encW (worldOf sc hands long n).1) (Tn l M0 (worldOf sc hands long n).2)) :
    b__law_world S__law_draw S__law_needs S__law_pick S__law_rule [some (.scr sc), some (.cell l), some (.int hands), some (.int long), none, none, none, none] (Tn l M0 n) P := by
  have hm := mixed_lt sc (n + 1) (many := hands) (by omega)
  simp only [b__law_world, eVar, eInt, eBl, eNon, eStr, eB, aNil, aCons, eTup, eLst, eBin, bCmp, oAdd, oSub, oMul, oMod, oFdiv, oLt, oLe, oGt, oGe, oEq_int, oNe_int, bChain, bNot, bVal, bAnd, bOr, bIsN, bNotN, eIfx, eIx, oNone, oSome, eSl, eCall, eCall0, eBlt, fLen, fTuple, fList, fInt, fMin, fMax, bIsi, gNm, gTup, gNil, gCons, iSeq, iRng, iRng2, sNil, sSeq, sPass, sDead, sExpr, sRet, sAsg, sIf, okQ_ok, okQ_exc, to_ok, to_exc, ci1, ci2, ci3, ci4, sl0, sl1, sl2, sl3, sl4, sn1, sn2, sn3, sn4, lk_P, lk_S, lk_W, lk_R, lk_N, lk_pr, lk_int, lk_bl, lk_non, lk_str, lk_tup, lk_lst, lk_scr, not_false_eq_true, true_implies, decide_true, decide_false, not_true_eq_false, Bool.false_and, Bool.true_and, Bool.and_true, Bool.and_false, List.set_cons_zero, List.set_cons_succ, List.getElem?_cons_zero, List.getElem?_cons_succ, wipeT, List.length_cons, List.length_nil, List.length_map, List.map_cons, List.map_nil, D.ty, kb1, kb2, kb3, kb4, kb5, kb6, kb7, kb8, kb9, atI_0, atI_1, atI_2, atI_3, true_and, and_true, or_false, false_or, or_true, true_or, false_and, and_false, or_self, and_self, Bool.not_true, Bool.not_false, Bool.not_not, reduceCtorEq, false_implies, forall_const, implies_true, decide_eq_true_eq, decide_eq_false_iff_not, Bool.and_eq_true, Bool.and_eq_false_iff, Bool.not_eq_true, Bool.not_eq_eq_eq_not, Bool.true_eq_false, Bool.false_eq_true, Option.map_some, Option.some.injEq, exists_eq_left, exists_eq_left']
  refine cl_draw (by omega) hl (by omega) ?_
  simp only [eVar, eInt, eBl, eNon, eStr, eB, aNil, aCons, eTup, eLst, eBin, bCmp, oAdd, oSub, oMul, oMod, oFdiv, oLt, oLe, oGt, oGe, oEq_int, oNe_int, bChain, bNot, bVal, bAnd, bOr, bIsN, bNotN, eIfx, eIx, oNone, oSome, eSl, eCall, eCall0, eBlt, fLen, fTuple, fList, fInt, fMin, fMax, bIsi, gNm, gTup, gNil, gCons, iSeq, iRng, iRng2, sNil, sSeq, sPass, sDead, sExpr, sRet, sAsg, sIf, okQ_ok, okQ_exc, to_ok, to_exc, ci1, ci2, ci3, ci4, sl0, sl1, sl2, sl3, sl4, sn1, sn2, sn3, sn4, lk_P, lk_S, lk_W, lk_R, lk_N, lk_pr, lk_int, lk_bl, lk_non, lk_str, lk_tup, lk_lst, lk_scr, not_false_eq_true, true_implies, decide_true, decide_false, not_true_eq_false, Bool.false_and, Bool.true_and, Bool.and_true, Bool.and_false, List.set_cons_zero, List.set_cons_succ, List.getElem?_cons_zero, List.getElem?_cons_succ, wipeT, List.length_cons, List.length_nil, List.length_map, List.map_cons, List.map_nil, D.ty, kb1, kb2, kb3, kb4, kb5, kb6, kb7, kb8, kb9, atI_0, atI_1, atI_2, atI_3, true_and, and_true, or_false, false_or, or_true, true_or, false_and, and_false, or_self, and_self, Bool.not_true, Bool.not_false, Bool.not_not, reduceCtorEq, false_implies, forall_const, implies_true, decide_eq_true_eq, decide_eq_false_iff_not, Bool.and_eq_true, Bool.and_eq_false_iff, Bool.not_eq_true, Bool.not_eq_eq_eq_not, Bool.true_eq_false, Bool.false_eq_true, Option.map_some, Option.some.injEq, exists_eq_left, exists_eq_left']
  refine cl_pick hl (by omega) (by decide) (pv_some sc 2 (n + 1)) ?_
  simp only [eVar, eInt, eBl, eNon, eStr, eB, aNil, aCons, eTup, eLst, eBin, bCmp, oAdd, oSub, oMul, oMod, oFdiv, oLt, oLe, oGt, oGe, oEq_int, oNe_int, bChain, bNot, bVal, bAnd, bOr, bIsN, bNotN, eIfx, eIx, oNone, oSome, eSl, eCall, eCall0, eBlt, fLen, fTuple, fList, fInt, fMin, fMax, bIsi, gNm, gTup, gNil, gCons, iSeq, iRng, iRng2, sNil, sSeq, sPass, sDead, sExpr, sRet, sAsg, sIf, okQ_ok, okQ_exc, to_ok, to_exc, ci1, ci2, ci3, ci4, sl0, sl1, sl2, sl3, sl4, sn1, sn2, sn3, sn4, lk_P, lk_S, lk_W, lk_R, lk_N, lk_pr, lk_int, lk_bl, lk_non, lk_str, lk_tup, lk_lst, lk_scr, not_false_eq_true, true_implies, decide_true, decide_false, not_true_eq_false, Bool.false_and, Bool.true_and, Bool.and_true, Bool.and_false, List.set_cons_zero, List.set_cons_succ, List.getElem?_cons_zero, List.getElem?_cons_succ, wipeT, List.length_cons, List.length_nil, List.length_map, List.map_cons, List.map_nil, D.ty, kb1, kb2, kb3, kb4, kb5, kb6, kb7, kb8, kb9, atI_0, atI_1, atI_2, atI_3, true_and, and_true, or_false, false_or, or_true, true_or, false_and, and_false, or_self, and_self, Bool.not_true, Bool.not_false, Bool.not_not, reduceCtorEq, false_implies, forall_const, implies_true, decide_eq_true_eq, decide_eq_false_iff_not, Bool.and_eq_true, Bool.and_eq_false_iff, Bool.not_eq_true, Bool.not_eq_eq_eq_not, Bool.true_eq_false, Bool.false_eq_true, Option.map_some, Option.some.injEq, exists_eq_left, exists_eq_left']
  refine cl_draw (pv_pos sc 2 (n + 1) (by decide)) hl (by omega) ?_
  have e0 : 1 + mixed sc (n + 1 + 1 + 1) (pv sc 2 (n + 1)) = shOf sc n := rfl
  simp only [eVar, eInt, eBl, eNon, eStr, eB, aNil, aCons, eTup, eLst, eBin, bCmp, oAdd, oSub, oMul, oMod, oFdiv, oLt, oLe, oGt, oGe, oEq_int, oNe_int, bChain, bNot, bVal, bAnd, bOr, bIsN, bNotN, eIfx, eIx, oNone, oSome, eSl, eCall, eCall0, eBlt, fLen, fTuple, fList, fInt, fMin, fMax, bIsi, gNm, gTup, gNil, gCons, iSeq, iRng, iRng2, sNil, sSeq, sPass, sDead, sExpr, sRet, sAsg, sIf, okQ_ok, okQ_exc, to_ok, to_exc, ci1, ci2, ci3, ci4, sl0, sl1, sl2, sl3, sl4, sn1, sn2, sn3, sn4, lk_P, lk_S, lk_W, lk_R, lk_N, lk_pr, lk_int, lk_bl, lk_non, lk_str, lk_tup, lk_lst, lk_scr, not_false_eq_true, true_implies, decide_true, decide_false, not_true_eq_false, Bool.false_and, Bool.true_and, Bool.and_true, Bool.and_false, List.set_cons_zero, List.set_cons_succ, List.getElem?_cons_zero, List.getElem?_cons_succ, wipeT, List.length_cons, List.length_nil, List.length_map, List.map_cons, List.map_nil, D.ty, kb1, kb2, kb3, kb4, kb5, kb6, kb7, kb8, kb9, atI_0, atI_1, atI_2, atI_3, true_and, and_true, or_false, false_or, or_true, true_or, false_and, and_false, or_self, and_self, Bool.not_true, Bool.not_false, Bool.not_not, reduceCtorEq, false_implies, forall_const, implies_true, decide_eq_true_eq, decide_eq_false_iff_not, Bool.and_eq_true, Bool.and_eq_false_iff, Bool.not_eq_true, Bool.not_eq_eq_eq_not, Bool.true_eq_false, Bool.false_eq_true, Option.map_some, Option.some.injEq, exists_eq_left, exists_eq_left', eLc, e0]
  refine ⟨⟨by omega, by omega⟩, szl _ (by rw [rngD_length]; omega), ?_⟩
  rw [rngD_map]
  refine lc_stm (eo := encR) (fun n => Tn l M0 n) (stR sc (shOf sc n) long) 15 800000 (stR_le sc n long) (fun _ => trivial) _ _ _ (by simp only [List.length_range]; omega) (fun i hi m R hb hR => ?_) (fun n i => by simp [stR]) ?_
  · simp only [turnL, eVar, eInt, eBl, eNon, eStr, eB, aNil, aCons, eTup, eLst, eBin, bCmp, oAdd, oSub, oMul, oMod, oFdiv, oLt, oLe, oGt, oGe, oEq_int, oNe_int, bChain, bNot, bVal, bAnd, bOr, bIsN, bNotN, eIfx, eIx, oNone, oSome, eSl, eCall, eCall0, eBlt, fLen, fTuple, fList, fInt, fMin, fMax, bIsi, gNm, gTup, gNil, gCons, iSeq, iRng, iRng2, sNil, sSeq, sPass, sDead, sExpr, sRet, sAsg, sIf, okQ_ok, okQ_exc, to_ok, to_exc, ci1, ci2, ci3, ci4, sl0, sl1, sl2, sl3, sl4, sn1, sn2, sn3, sn4, lk_P, lk_S, lk_W, lk_R, lk_N, lk_pr, lk_int, lk_bl, lk_non, lk_str, lk_tup, lk_lst, lk_scr, not_false_eq_true, true_implies, decide_true, decide_false, not_true_eq_false, Bool.false_and, Bool.true_and, Bool.and_true, Bool.and_false, List.set_cons_zero, List.set_cons_succ, List.getElem?_cons_zero, List.getElem?_cons_succ, wipeT, List.length_cons, List.length_nil, List.length_map, List.map_cons, List.map_nil, D.ty, kb1, kb2, kb3, kb4, kb5, kb6, kb7, kb8, kb9, atI_0, atI_1, atI_2, atI_3, true_and, and_true, or_false, false_or, or_true, true_or, false_and, and_false, or_self, and_self, Bool.not_true, Bool.not_false, Bool.not_not, reduceCtorEq, false_implies, forall_const, implies_true, decide_eq_true_eq, decide_eq_false_iff_not, Bool.and_eq_true, Bool.and_eq_false_iff, Bool.not_eq_true, Bool.not_eq_eq_eq_not, Bool.true_eq_false, Bool.false_eq_true, Option.map_some, Option.some.injEq, exists_eq_left, exists_eq_left', bTrue]
    exact ⟨_, _, ⟨sc, l, M0, m, _, _, rfl, ⟨sh_ok _ _, hlo.1, hl, by omega⟩, rfl, rfl, rfl⟩, hR.1 _ rfl⟩
  · have h1 := stm_le (stR sc (shOf sc n) long) 15 (stR_le sc n long) (List.range (1 + mixed sc (n + 1) hands).toNat) (n + 1 + 1 + 1)
    simp only [List.length_range] at h1
    exact ⟨_, _, ⟨sc, l, M0, _, _, _, rfl, ⟨sh_ok _ _, by omega, hl, by omega⟩, rfl, rfl, rfl⟩, h⟩
end K3

set_option Elab.async false
set_option linter.all false
set_option maxRecDepth 100000
set_option maxHeartbeats 1000000
namespace K3
open PySem J
open L2 (kitB atI CMul)
def workOf (days : List Int) : List Nat := (days.zipIdx.filter fun q => !decide (q.1 = 0)).map (·.2)
def dayAt (days : List Int) (i : Nat) : Int := days[i]?.getD 0
def kept1 (most : Int) (days : List Int) : Bool := (List.range ((days.length : Int) - most).toNat).all fun i => decide ((0 : Int) ∈ (days.drop i).take (most.toNat + 1))
def pairOk (r : Rule) (days : List Int) (q : Nat × Nat) : Bool :=
  !(decide ((1 : Int) < (q.2 : Int) - (q.1 : Int)) && decide ((q.2 : Int) - (q.1 : Int) < r.least + 1)) && !(decide ((q.2 : Int) - (q.1 : Int) = 1) && decide ((dayAt days q.1, dayAt days q.2) ∈ r.barred))
def kept2 (r : Rule) (days : List Int) : Bool := ((workOf days).zip (workOf days).tail).all (pairOk r days)
def kept3 (r : Rule) (days : List Int) : Bool := (workOf days).all fun i => decide (dayAt days i ∈ r.skills)
def keptB (r : Rule) (days : List Int) : Bool := kept1 r.most days && kept2 r days && kept3 r days
def S__law_kept : FS := fun ds M r M' => ∃ (u : Rule) (days : List Int), ds = [encR u, .lst (days.map D.int)] ∧ ((1 ≤ u.most ∧ u.most ≤ 4) ∧ days.length < 1000) ∧ r = .ok (.bl (keptB u days)) ∧ M' = M
theorem work_lt (days : List Int) : ∀ i ∈ workOf days, i < days.length := by
  intro i hi
  obtain ⟨q, hq, rfl⟩ := List.mem_map.mp hi
  have h1 := (List.mem_filter.mp hq).1
  obtain ⟨x, j⟩ := q
  have := List.mem_zipIdx h1
  simp at this
  exact this.1
theorem at_day (days : List Int) (i : Nat) (h : i < days.length) : atI (days.map D.int) (i : Int) = some (.int (dayAt days i)) := by
  rw [atI_nat _ _ (by simpa using h), List.getElem?_map]
  unfold dayAt
  rw [List.getElem?_eq_getElem h]
  rfl
theorem t__law_kept (u : Rule) (days : List Int) (hm : 1 ≤ u.most ∧ u.most ≤ 4) (hd : days.length < 1000) (M : Mem) (P : Po) (h : P.rt (.bl (keptB u days)) M) : b__law_kept [some (encR u), some (.lst (days.map D.int)), none, none, none, none, none] M P := by
  have bad1 : kept1 u.most days = false → P.rt (.bl false) M := fun z => by
    unfold keptB at h
    rw [z] at h
    exact h
  have bad2 : kept2 u days = false → P.rt (.bl false) M := fun z => by
    unfold keptB at h
    rw [z, Bool.and_false] at h
    exact h
  have hwl : (workOf days).length ≤ days.length := by
    unfold workOf
    rw [List.length_map]
    refine Nat.le_trans (List.length_filter_le _ _) ?_
    simp
  have e0 : ∀ (ns : List Int) (K : Bool → Prop), oNin (.int 0) (.lst (ns.map D.int)) K ↔ K (!decide (0 ∈ ns)) := fun ns K => oNinL_en (n := 0) en_int (by decide) 0 ns
  simp only [b__law_kept, encR, eVar, eInt, eBl, eNon, eStr, eB, aNil, aCons, eTup, eLst, eBin, bCmp, oAdd, oSub, oMul, oMod, oFdiv, oLt, oLe, oGt, oGe, oEq_int, oNe_int, bChain, bNot, bVal, bAnd, bOr, bIsN, bNotN, eIfx, eIx, oNone, oSome, eSl, eCall, eCall0, eBlt, fLen, fTuple, fList, fInt, fMin, fMax, bIsi, gNm, gTup, gNil, gCons, iSeq, iRng, iRng2, sNil, sSeq, sPass, sDead, sExpr, sRet, sAsg, sIf, okQ_ok, okQ_exc, to_ok, to_exc, ci1, ci2, ci3, ci4, sl0, sl1, sl2, sl3, sl4, sn1, sn2, sn3, sn4, lk_P, lk_S, lk_W, lk_R, lk_N, lk_pr, lk_int, lk_bl, lk_non, lk_str, lk_tup, lk_lst, lk_scr, not_false_eq_true, true_implies, decide_true, decide_false, not_true_eq_false, Bool.false_and, Bool.true_and, Bool.and_true, Bool.and_false, List.set_cons_zero, List.set_cons_succ, List.getElem?_cons_zero, List.getElem?_cons_succ, wipeT, List.length_cons, List.length_nil, List.length_map, List.map_cons, List.map_nil, D.ty, kb1, kb2, kb3, kb4, kb5, kb6, kb7, kb8, kb9, atI_0, atI_1, atI_2, atI_3, true_and, and_true, or_false, false_or, or_true, true_or, false_and, and_false, or_self, and_self, Bool.not_true, Bool.not_false, Bool.not_not, reduceCtorEq, false_implies, forall_const, implies_true, decide_eq_true_eq, decide_eq_false_iff_not, Bool.and_eq_true, Bool.and_eq_false_iff, Bool.not_eq_true, Bool.not_eq_eq_eq_not, Bool.true_eq_false, Bool.false_eq_true, Option.map_some, Option.some.injEq, exists_eq_left, exists_eq_left', sFor]
  refine ⟨⟨by omega, by omega⟩, ?_⟩
  rw [rngD_map]
  refine for_all (fun T => ∃ o, T = [some (encR u), some (.lst (days.map D.int)), o, none, none, none, none]) (fun i : Nat => decide ((0 : Int) ∈ (days.drop i).take (u.most.toNat + 1))) trivial _ ?_ _ ?_ bad1 ⟨_, rfl⟩
  · rintro i hi T N ⟨o, rfl⟩ h1 h2
    have hi' := List.mem_range.mp hi
    have e1 : cutD (days.map D.int) (some (0 + (i : Int))) (some (0 + (i : Int) + u.most + 1)) = ((days.drop i).take (u.most.toNat + 1)).map D.int := by
      have a1 : (0 + (i : Int)) = ((i : Nat) : Int) := by omega
      have a2 : (0 + (i : Int) + u.most + 1) = ((i + (u.most.toNat + 1) : Nat) : Int) := by omega
      rw [a2, a1, cutD_nat _ _ _ (by rw [List.length_map]; omega) (by omega)]
      rw [← List.map_drop, ← List.map_take]
      congr 1
      congr 1
      omega
    simp only [encR, eVar, eInt, eBl, eNon, eStr, eB, aNil, aCons, eTup, eLst, eBin, bCmp, oAdd, oSub, oMul, oMod, oFdiv, oLt, oLe, oGt, oGe, oEq_int, oNe_int, bChain, bNot, bVal, bAnd, bOr, bIsN, bNotN, eIfx, eIx, oNone, oSome, eSl, eCall, eCall0, eBlt, fLen, fTuple, fList, fInt, fMin, fMax, bIsi, gNm, gTup, gNil, gCons, iSeq, iRng, iRng2, sNil, sSeq, sPass, sDead, sExpr, sRet, sAsg, sIf, okQ_ok, okQ_exc, to_ok, to_exc, ci1, ci2, ci3, ci4, sl0, sl1, sl2, sl3, sl4, sn1, sn2, sn3, sn4, lk_P, lk_S, lk_W, lk_R, lk_N, lk_pr, lk_int, lk_bl, lk_non, lk_str, lk_tup, lk_lst, lk_scr, not_false_eq_true, true_implies, decide_true, decide_false, not_true_eq_false, Bool.false_and, Bool.true_and, Bool.and_true, Bool.and_false, List.set_cons_zero, List.set_cons_succ, List.getElem?_cons_zero, List.getElem?_cons_succ, wipeT, List.length_cons, List.length_nil, List.length_map, List.map_cons, List.map_nil, D.ty, kb1, kb2, kb3, kb4, kb5, kb6, kb7, kb8, kb9, atI_0, atI_1, atI_2, atI_3, true_and, and_true, or_false, false_or, or_true, true_or, false_and, and_false, or_self, and_self, Bool.not_true, Bool.not_false, Bool.not_not, reduceCtorEq, false_implies, forall_const, implies_true, decide_eq_true_eq, decide_eq_false_iff_not, Bool.and_eq_true, Bool.and_eq_false_iff, Bool.not_eq_true, Bool.not_eq_eq_eq_not, Bool.true_eq_false, Bool.false_eq_true, Option.map_some, Option.some.injEq, exists_eq_left, exists_eq_left', e1, e0]
    simp only [eVar, eInt, eBl, eNon, eStr, eB, aNil, aCons, eTup, eLst, eBin, bCmp, oAdd, oSub, oMul, oMod, oFdiv, oLt, oLe, oGt, oGe, oEq_int, oNe_int, bChain, bNot, bVal, bAnd, bOr, bIsN, bNotN, eIfx, eIx, oNone, oSome, eSl, eCall, eCall0, eBlt, fLen, fTuple, fList, fInt, fMin, fMax, bIsi, gNm, gTup, gNil, gCons, iSeq, iRng, iRng2, sNil, sSeq, sPass, sDead, sExpr, sRet, sAsg, sIf, okQ_ok, okQ_exc, to_ok, to_exc, ci1, ci2, ci3, ci4, sl0, sl1, sl2, sl3, sl4, sn1, sn2, sn3, sn4, lk_P, lk_S, lk_W, lk_R, lk_N, lk_pr, lk_int, lk_bl, lk_non, lk_str, lk_tup, lk_lst, lk_scr, not_false_eq_true, true_implies, decide_true, decide_false, not_true_eq_false, Bool.false_and, Bool.true_and, Bool.and_true, Bool.and_false, List.set_cons_zero, List.set_cons_succ, List.getElem?_cons_zero, List.getElem?_cons_succ, wipeT, List.length_cons, List.length_nil, List.length_map, List.map_cons, List.map_nil, D.ty, kb1, kb2, kb3, kb4, kb5, kb6, kb7, kb8, kb9, atI_0, atI_1, atI_2, atI_3, true_and, and_true, or_false, false_or, or_true, true_or, false_and, and_false, or_self, and_self, Bool.not_true, Bool.not_false, Bool.not_not, reduceCtorEq, false_implies, forall_const, implies_true, decide_eq_true_eq, decide_eq_false_iff_not, Bool.and_eq_true, Bool.and_eq_false_iff, Bool.not_eq_true, Bool.not_eq_eq_eq_not, Bool.true_eq_false, Bool.false_eq_true, Option.map_some, Option.some.injEq, exists_eq_left, exists_eq_left'] at h1 h2
    exact ⟨fun z => h2 z, fun z => h1 z _ ⟨_, rfl⟩⟩
  rintro hk1 T ⟨o, rfl⟩
  simp only [encR, eVar, eInt, eBl, eNon, eStr, eB, aNil, aCons, eTup, eLst, eBin, bCmp, oAdd, oSub, oMul, oMod, oFdiv, oLt, oLe, oGt, oGe, oEq_int, oNe_int, bChain, bNot, bVal, bAnd, bOr, bIsN, bNotN, eIfx, eIx, oNone, oSome, eSl, eCall, eCall0, eBlt, fLen, fTuple, fList, fInt, fMin, fMax, bIsi, gNm, gTup, gNil, gCons, iSeq, iRng, iRng2, sNil, sSeq, sPass, sDead, sExpr, sRet, sAsg, sIf, okQ_ok, okQ_exc, to_ok, to_exc, ci1, ci2, ci3, ci4, sl0, sl1, sl2, sl3, sl4, sn1, sn2, sn3, sn4, lk_P, lk_S, lk_W, lk_R, lk_N, lk_pr, lk_int, lk_bl, lk_non, lk_str, lk_tup, lk_lst, lk_scr, not_false_eq_true, true_implies, decide_true, decide_false, not_true_eq_false, Bool.false_and, Bool.true_and, Bool.and_true, Bool.and_false, List.set_cons_zero, List.set_cons_succ, List.getElem?_cons_zero, List.getElem?_cons_succ, wipeT, List.length_cons, List.length_nil, List.length_map, List.map_cons, List.map_nil, D.ty, kb1, kb2, kb3, kb4, kb5, kb6, kb7, kb8, kb9, atI_0, atI_1, atI_2, atI_3, true_and, and_true, or_false, false_or, or_true, true_or, false_and, and_false, or_self, and_self, Bool.not_true, Bool.not_false, Bool.not_not, reduceCtorEq, false_implies, forall_const, implies_true, decide_eq_true_eq, decide_eq_false_iff_not, Bool.and_eq_true, Bool.and_eq_false_iff, Bool.not_eq_true, Bool.not_eq_eq_eq_not, Bool.true_eq_false, Bool.false_eq_true, Option.map_some, Option.some.injEq, exists_eq_left, exists_eq_left', eLc, iEnum, enumD_map]
  refine ⟨szl _ (by simp; omega), lc_pure (C := CSrc (.lst (days.map D.int)) (days.map D.int)) (M := M) (f := fun q : Int × Nat => if (!decide (q.1 = 0)) = true then some (.int (q.2 : Int)) else none) rfl days.zipIdx _ (fun q hq R hR => ?_) ?_⟩
  · simp only [turnL, eVar, eInt, eBl, eNon, eStr, eB, aNil, aCons, eTup, eLst, eBin, bCmp, oAdd, oSub, oMul, oMod, oFdiv, oLt, oLe, oGt, oGe, oEq_int, oNe_int, bChain, bNot, bVal, bAnd, bOr, bIsN, bNotN, eIfx, eIx, oNone, oSome, eSl, eCall, eCall0, eBlt, fLen, fTuple, fList, fInt, fMin, fMax, bIsi, gNm, gTup, gNil, gCons, iSeq, iRng, iRng2, sNil, sSeq, sPass, sDead, sExpr, sRet, sAsg, sIf, okQ_ok, okQ_exc, to_ok, to_exc, ci1, ci2, ci3, ci4, sl0, sl1, sl2, sl3, sl4, sn1, sn2, sn3, sn4, lk_P, lk_S, lk_W, lk_R, lk_N, lk_pr, lk_int, lk_bl, lk_non, lk_str, lk_tup, lk_lst, lk_scr, not_false_eq_true, true_implies, decide_true, decide_false, not_true_eq_false, Bool.false_and, Bool.true_and, Bool.and_true, Bool.and_false, List.set_cons_zero, List.set_cons_succ, List.getElem?_cons_zero, List.getElem?_cons_succ, wipeT, List.length_cons, List.length_nil, List.length_map, List.map_cons, List.map_nil, D.ty, kb1, kb2, kb3, kb4, kb5, kb6, kb7, kb8, kb9, atI_0, atI_1, atI_2, atI_3, true_and, and_true, or_false, false_or, or_true, true_or, false_and, and_false, or_self, and_self, Bool.not_true, Bool.not_false, Bool.not_not, reduceCtorEq, false_implies, forall_const, implies_true, decide_eq_true_eq, decide_eq_false_iff_not, Bool.and_eq_true, Bool.and_eq_false_iff, Bool.not_eq_true, Bool.not_eq_eq_eq_not, Bool.true_eq_false, Bool.false_eq_true, Option.map_some, Option.some.injEq, exists_eq_left, exists_eq_left']
    simp only [eVar, eInt, eBl, eNon, eStr, eB, aNil, aCons, eTup, eLst, eBin, bCmp, oAdd, oSub, oMul, oMod, oFdiv, oLt, oLe, oGt, oGe, oEq_int, oNe_int, bChain, bNot, bVal, bAnd, bOr, bIsN, bNotN, eIfx, eIx, oNone, oSome, eSl, eCall, eCall0, eBlt, fLen, fTuple, fList, fInt, fMin, fMax, bIsi, gNm, gTup, gNil, gCons, iSeq, iRng, iRng2, sNil, sSeq, sPass, sDead, sExpr, sRet, sAsg, sIf, okQ_ok, okQ_exc, to_ok, to_exc, ci1, ci2, ci3, ci4, sl0, sl1, sl2, sl3, sl4, sn1, sn2, sn3, sn4, lk_P, lk_S, lk_W, lk_R, lk_N, lk_pr, lk_int, lk_bl, lk_non, lk_str, lk_tup, lk_lst, lk_scr, not_false_eq_true, true_implies, decide_true, decide_false, not_true_eq_false, Bool.false_and, Bool.true_and, Bool.and_true, Bool.and_false, List.set_cons_zero, List.set_cons_succ, List.getElem?_cons_zero, List.getElem?_cons_succ, wipeT, List.length_cons, List.length_nil, List.length_map, List.map_cons, List.map_nil, D.ty, kb1, kb2, kb3, kb4, kb5, kb6, kb7, kb8, kb9, atI_0, atI_1, atI_2, atI_3, true_and, and_true, or_false, false_or, or_true, true_or, false_and, and_false, or_self, and_self, Bool.not_true, Bool.not_false, Bool.not_not, reduceCtorEq, false_implies, forall_const, implies_true, decide_eq_true_eq, decide_eq_false_iff_not, Bool.and_eq_true, Bool.and_eq_false_iff, Bool.not_eq_true, Bool.not_eq_eq_eq_not, Bool.true_eq_false, Bool.false_eq_true, Option.map_some, Option.some.injEq, exists_eq_left, exists_eq_left'] at hR
    refine ⟨fun z => ?_, fun z => ?_⟩
    · simpa [z] using hR
    · simpa [z] using hR
  have e2 : (days.zipIdx.filterMap fun q : Int × Nat => if (!decide (q.1 = 0)) = true then some (D.int (q.2 : Int)) else none) = (workOf days).map fun i : Nat => .int (i : Int) := by
    rw [fm_if2 (fun q : Int × Nat => !decide (q.1 = 0)) (fun q : Int × Nat => D.int (q.2 : Int))]
    simp [workOf]
  rw [e2]
  simp only [eVar, eInt, eBl, eNon, eStr, eB, aNil, aCons, eTup, eLst, eBin, bCmp, oAdd, oSub, oMul, oMod, oFdiv, oLt, oLe, oGt, oGe, oEq_int, oNe_int, bChain, bNot, bVal, bAnd, bOr, bIsN, bNotN, eIfx, eIx, oNone, oSome, eSl, eCall, eCall0, eBlt, fLen, fTuple, fList, fInt, fMin, fMax, bIsi, gNm, gTup, gNil, gCons, iSeq, iRng, iRng2, sNil, sSeq, sPass, sDead, sExpr, sRet, sAsg, sIf, okQ_ok, okQ_exc, to_ok, to_exc, ci1, ci2, ci3, ci4, sl0, sl1, sl2, sl3, sl4, sn1, sn2, sn3, sn4, lk_P, lk_S, lk_W, lk_R, lk_N, lk_pr, lk_int, lk_bl, lk_non, lk_str, lk_tup, lk_lst, lk_scr, not_false_eq_true, true_implies, decide_true, decide_false, not_true_eq_false, Bool.false_and, Bool.true_and, Bool.and_true, Bool.and_false, List.set_cons_zero, List.set_cons_succ, List.getElem?_cons_zero, List.getElem?_cons_succ, wipeT, List.length_cons, List.length_nil, List.length_map, List.map_cons, List.map_nil, D.ty, kb1, kb2, kb3, kb4, kb5, kb6, kb7, kb8, kb9, atI_0, atI_1, atI_2, atI_3, true_and, and_true, or_false, false_or, or_true, true_or, false_and, and_false, or_self, and_self, Bool.not_true, Bool.not_false, Bool.not_not, reduceCtorEq, false_implies, forall_const, implies_true, decide_eq_true_eq, decide_eq_false_iff_not, Bool.and_eq_true, Bool.and_eq_false_iff, Bool.not_eq_true, Bool.not_eq_eq_eq_not, Bool.true_eq_false, Bool.false_eq_true, Option.map_some, Option.some.injEq, exists_eq_left, exists_eq_left', iZip]
  have e3 : cutD ((workOf days).map fun i : Nat => D.int (i : Int)) (some 1) none = (workOf days).tail.map fun i : Nat => .int (i : Int) := by rw [cutD_tail, List.map_tail]
  rw [e3, zipD_map]
  refine for_all (fun T => ∃ a b, T = [some (encR u), some (.lst (days.map D.int)), o, some (.lst ((workOf days).map fun i : Nat => .int (i : Int))), none, a, b]) (pairOk u days) trivial _ ?_ _ ?_ bad2 ⟨_, _, rfl⟩
  · rintro ⟨i, j⟩ hq T N ⟨a, b, rfl⟩ h1 h2
    have hz := List.of_mem_zip hq
    have hi := work_lt days i hz.1
    have hj := work_lt days j (List.mem_of_mem_tail hz.2)
    have e4 : ∀ (a b : Int) (K : Bool → Prop), oIn (.tup [.int a, .int b]) (.tup (u.barred.map pairD)) K ↔ K (decide ((a, b) ∈ u.barred)) := fun a b K => oInT_en (n := 1) en_pair (by decide) (a, b) u.barred
    simp only [encR, eVar, eInt, eBl, eNon, eStr, eB, aNil, aCons, eTup, eLst, eBin, bCmp, oAdd, oSub, oMul, oMod, oFdiv, oLt, oLe, oGt, oGe, oEq_int, oNe_int, bChain, bNot, bVal, bAnd, bOr, bIsN, bNotN, eIfx, eIx, oNone, oSome, eSl, eCall, eCall0, eBlt, fLen, fTuple, fList, fInt, fMin, fMax, bIsi, gNm, gTup, gNil, gCons, iSeq, iRng, iRng2, sNil, sSeq, sPass, sDead, sExpr, sRet, sAsg, sIf, okQ_ok, okQ_exc, to_ok, to_exc, ci1, ci2, ci3, ci4, sl0, sl1, sl2, sl3, sl4, sn1, sn2, sn3, sn4, lk_P, lk_S, lk_W, lk_R, lk_N, lk_pr, lk_int, lk_bl, lk_non, lk_str, lk_tup, lk_lst, lk_scr, not_false_eq_true, true_implies, decide_true, decide_false, not_true_eq_false, Bool.false_and, Bool.true_and, Bool.and_true, Bool.and_false, List.set_cons_zero, List.set_cons_succ, List.getElem?_cons_zero, List.getElem?_cons_succ, wipeT, List.length_cons, List.length_nil, List.length_map, List.map_cons, List.map_nil, D.ty, kb1, kb2, kb3, kb4, kb5, kb6, kb7, kb8, kb9, atI_0, atI_1, atI_2, atI_3, true_and, and_true, or_false, false_or, or_true, true_or, false_and, and_false, or_self, and_self, Bool.not_true, Bool.not_false, Bool.not_not, reduceCtorEq, false_implies, forall_const, implies_true, decide_eq_true_eq, decide_eq_false_iff_not, Bool.and_eq_true, Bool.and_eq_false_iff, Bool.not_eq_true, Bool.not_eq_eq_eq_not, Bool.true_eq_false, Bool.false_eq_true, Option.map_some, Option.some.injEq, exists_eq_left, exists_eq_left', at_day days i hi, at_day days j hj, e4]
    have hN : pairOk u days (i, j) = true → N [some (encR u), some (.lst (days.map D.int)), o, some (.lst ((workOf days).map fun i : Nat => .int (i : Int))), none, some (.int (i : Int)), some (.int (j : Int))] M := fun z => h1 z _ ⟨_, _, rfl⟩
    unfold pairOk at hN h2
    simp only at hN h2
    refine ⟨fun z => h2 (by simp [z]), fun z => ⟨fun z1 => ⟨fun z2 => h2 (by simp [z1, z2]), fun z2 => hN ?_⟩, fun z1 => hN ?_⟩⟩
    · rcases z with z | z <;> simp [z, z1, z2]
    · rcases z with z | z <;> simp [z, z1]
  rintro hk2 T ⟨a, b, rfl⟩
  simp only [encR, eVar, eInt, eBl, eNon, eStr, eB, aNil, aCons, eTup, eLst, eBin, bCmp, oAdd, oSub, oMul, oMod, oFdiv, oLt, oLe, oGt, oGe, oEq_int, oNe_int, bChain, bNot, bVal, bAnd, bOr, bIsN, bNotN, eIfx, eIx, oNone, oSome, eSl, eCall, eCall0, eBlt, fLen, fTuple, fList, fInt, fMin, fMax, bIsi, gNm, gTup, gNil, gCons, iSeq, iRng, iRng2, sNil, sSeq, sPass, sDead, sExpr, sRet, sAsg, sIf, okQ_ok, okQ_exc, to_ok, to_exc, ci1, ci2, ci3, ci4, sl0, sl1, sl2, sl3, sl4, sn1, sn2, sn3, sn4, lk_P, lk_S, lk_W, lk_R, lk_N, lk_pr, lk_int, lk_bl, lk_non, lk_str, lk_tup, lk_lst, lk_scr, not_false_eq_true, true_implies, decide_true, decide_false, not_true_eq_false, Bool.false_and, Bool.true_and, Bool.and_true, Bool.and_false, List.set_cons_zero, List.set_cons_succ, List.getElem?_cons_zero, List.getElem?_cons_succ, wipeT, List.length_cons, List.length_nil, List.length_map, List.map_cons, List.map_nil, D.ty, kb1, kb2, kb3, kb4, kb5, kb6, kb7, kb8, kb9, atI_0, atI_1, atI_2, atI_3, true_and, and_true, or_false, false_or, or_true, true_or, false_and, and_false, or_self, and_self, Bool.not_true, Bool.not_false, Bool.not_not, reduceCtorEq, false_implies, forall_const, implies_true, decide_eq_true_eq, decide_eq_false_iff_not, Bool.and_eq_true, Bool.and_eq_false_iff, Bool.not_eq_true, Bool.not_eq_eq_eq_not, Bool.true_eq_false, Bool.false_eq_true, Option.map_some, Option.some.injEq, exists_eq_left, exists_eq_left']
  refine ⟨szl _ (by omega), lc_map (f := fun i : Nat => .bl (decide (dayAt days i ∈ u.skills))) trivial (workOf days) _ (fun i hi R hR => ?_) ?_⟩
  · have e5 : ∀ (a : Int) (K : Bool → Prop), oIn (.int a) (.tup (u.skills.map D.int)) K ↔ K (decide (a ∈ u.skills)) := fun a K => oInT_en (n := 0) en_int (by decide) a u.skills
    simp only [eVar, eInt, eBl, eNon, eStr, eB, aNil, aCons, eTup, eLst, eBin, bCmp, oAdd, oSub, oMul, oMod, oFdiv, oLt, oLe, oGt, oGe, oEq_int, oNe_int, bChain, bNot, bVal, bAnd, bOr, bIsN, bNotN, eIfx, eIx, oNone, oSome, eSl, eCall, eCall0, eBlt, fLen, fTuple, fList, fInt, fMin, fMax, bIsi, gNm, gTup, gNil, gCons, iSeq, iRng, iRng2, sNil, sSeq, sPass, sDead, sExpr, sRet, sAsg, sIf, okQ_ok, okQ_exc, to_ok, to_exc, ci1, ci2, ci3, ci4, sl0, sl1, sl2, sl3, sl4, sn1, sn2, sn3, sn4, lk_P, lk_S, lk_W, lk_R, lk_N, lk_pr, lk_int, lk_bl, lk_non, lk_str, lk_tup, lk_lst, lk_scr, not_false_eq_true, true_implies, decide_true, decide_false, not_true_eq_false, Bool.false_and, Bool.true_and, Bool.and_true, Bool.and_false, List.set_cons_zero, List.set_cons_succ, List.getElem?_cons_zero, List.getElem?_cons_succ, wipeT, List.length_cons, List.length_nil, List.length_map, List.map_cons, List.map_nil, D.ty, kb1, kb2, kb3, kb4, kb5, kb6, kb7, kb8, kb9, atI_0, atI_1, atI_2, atI_3, true_and, and_true, or_false, false_or, or_true, true_or, false_and, and_false, or_self, and_self, Bool.not_true, Bool.not_false, Bool.not_not, reduceCtorEq, false_implies, forall_const, implies_true, decide_eq_true_eq, decide_eq_false_iff_not, Bool.and_eq_true, Bool.and_eq_false_iff, Bool.not_eq_true, Bool.not_eq_eq_eq_not, Bool.true_eq_false, Bool.false_eq_true, Option.map_some, Option.some.injEq, exists_eq_left, exists_eq_left', at_day days i (work_lt days i hi), e5]
    exact hR
  · have e6 : ((workOf days).map fun i : Nat => D.bl (decide (dayAt days i ∈ u.skills))) = ((workOf days).map fun i : Nat => decide (dayAt days i ∈ u.skills)).map D.bl := by simp [Function.comp]
    rw [e6, all_bl]
    simp only [List.all_map]
    unfold keptB at h
    have k1 : kept1 u.most days = true := hk1
    have k2 : kept2 u days = true := hk2
    rw [k1, k2] at h
    exact h
theorem eCnt_lst {t1 t2 : XT} {T : Tau} {M : Mem} {Q : Res → Mem → Prop} {plan : List Int} {n : Int} (h1 : ∀ k, t1 T M (okQ k) ↔ k (.lst (plan.map D.int)) M) (h2 : ∀ k, t2 T M (okQ k) ↔ k (.int n) M) : eCnt t1 t2 T M Q ↔ Q (.ok (.int (plan.count n : Nat))) M := by
  unfold eCnt
  simp only [h1, h2, lk_int, lk_lst]
  rw [cnt_en (n := 0) en_int]
  constructor
  · exact fun h => h.2.2.2.2
  · exact fun h => ⟨trivial, rfl, D.nices_pure _ (ncs_map (n := 0) (fun i => nc_int i) plan).ni, by
      have := (ncs_map (n := 0) (fun i => nc_int i) plan).dp
      omega, h⟩
def needOn (w : Wd) (i : Nat) : List (Int × Int) := w.needs[i % w.needs.length]?.getD []
def colOf (plans : List (List Int)) (k : Nat) : List Int := plans.map fun p => p[k]?.getD 0
def allKept (w : Wd) (plans : List (List Int)) : Bool := (plans.zipIdx.all fun q => meetsB (needOn w q.2) q.1) && (w.rules.zipIdx.all fun q => keptB q.1 (colOf plans q.2))
def S__law_all_kept : FS := fun ds M r M' => ∃ (w : Wd) (d : D) (ps : List (List Int)), ds = [encW w, d] ∧ (Wok w ∧ (∀ p ∈ ps, p.length = w.rules.length) ∧ ps.length < 1000 ∧ Src M d (ps.map encP)) ∧ r = .ok (.bl (allKept w ps)) ∧ M' = M
theorem t__law_all_kept (w : Wd) (d : D) (ps : List (List Int)) (hw : Wok w) (hp : ∀ p ∈ ps, p.length = w.rules.length) (hl : ps.length < 1000) (M : Mem) (hd : Src M d (ps.map encP)) (P : Po) (h : P.rt (.bl (allKept w ps)) M) : b__law_all_kept S__law_kept [some (encW w), some d, none, none, none, none, none, none, none] M P := by
  simp only [b__law_all_kept, sSeq, sFor]
  refine iEnum_src rfl hd fun C hC => ?_
  rw [enumD_map]
  refine for_all (fun T => ∃ a b c d1 e, T = [some (encW w), some d, a, b, c, d1, e, none, none]) (fun q : List Int × Nat => meetsB (needOn w q.2) q.1) hC _ ?_ _ ?_ ?_ ⟨_, _, _, _, _, rfl⟩
  · rintro ⟨p, i⟩ hq T N ⟨a, b, c, d1, e, rfl⟩ h1 h2
    have hnl : 0 < w.needs.length := by have := hw.nl; omega
    have e1 : (i : Int) % (w.needs.length : Int) = ((i % w.needs.length : Nat) : Int) := by rw [Int.natCast_emod]
    have e2 : atI (w.needs.map encN) ((i % w.needs.length : Nat) : Int) = some (encN (needOn w i)) := by
      have hlt := Nat.mod_lt i hnl
      rw [atI_nat _ _ (by simpa using hlt), List.getElem?_map]
      unfold needOn
      rw [List.getElem?_eq_getElem hlt]
      rfl
    have hpos : (0 : Int) < (w.needs.length : Int) := by omega
    simp only [encW, eVar, eInt, eBl, eNon, eStr, eB, aNil, aCons, eTup, eLst, eBin, bCmp, oAdd, oSub, oMul, oMod, oFdiv, oLt, oLe, oGt, oGe, oEq_int, oNe_int, bChain, bNot, bVal, bAnd, bOr, bIsN, bNotN, eIfx, eIx, oNone, oSome, eSl, eCall, eCall0, eBlt, fLen, fTuple, fList, fInt, fMin, fMax, bIsi, gNm, gTup, gNil, gCons, iSeq, iRng, iRng2, sNil, sSeq, sPass, sDead, sExpr, sRet, sAsg, sIf, okQ_ok, okQ_exc, to_ok, to_exc, ci1, ci2, ci3, ci4, sl0, sl1, sl2, sl3, sl4, sn1, sn2, sn3, sn4, lk_P, lk_S, lk_W, lk_R, lk_N, lk_pr, lk_int, lk_bl, lk_non, lk_str, lk_tup, lk_lst, lk_scr, not_false_eq_true, true_implies, decide_true, decide_false, not_true_eq_false, Bool.false_and, Bool.true_and, Bool.and_true, Bool.and_false, List.set_cons_zero, List.set_cons_succ, List.getElem?_cons_zero, List.getElem?_cons_succ, wipeT, List.length_cons, List.length_nil, List.length_map, List.map_cons, List.map_nil, D.ty, kb1, kb2, kb3, kb4, kb5, kb6, kb7, kb8, kb9, atI_0, atI_1, atI_2, atI_3, true_and, and_true, or_false, false_or, or_true, true_or, false_and, and_false, or_self, and_self, Bool.not_true, Bool.not_false, Bool.not_not, reduceCtorEq, false_implies, forall_const, implies_true, decide_eq_true_eq, decide_eq_false_iff_not, Bool.and_eq_true, Bool.and_eq_false_iff, Bool.not_eq_true, Bool.not_eq_eq_eq_not, Bool.true_eq_false, Bool.false_eq_true, Option.map_some, Option.some.injEq, exists_eq_left, exists_eq_left', iEnum, hpos, e1, e2, sFor]
    rw [show encN (needOn w i) = .tup ((needOn w i).map pairD) from rfl]
    simp only [enumD_map]
    refine for_all (fun T => ∃ c d1 e, T = [some (encW w), some d, some (.int (i : Int)), some (encP p), c, d1, e, none, none]) (fun q => decide (q.1.1 ≤ (p.count ((q.2 : Int) + 1) : Int)) && decide ((p.count ((q.2 : Int) + 1) : Int) ≤ q.1.2)) trivial (needOn w i).zipIdx ?_ _ ?_ ?_ ⟨_, _, _, rfl⟩
    · rintro ⟨x, j⟩ hx T N2 ⟨c, d1, e, rfl⟩ h3 h4
      simp only [eVar, eInt, eBl, eNon, eStr, eB, aNil, aCons, eTup, eLst, eBin, bCmp, oAdd, oSub, oMul, oMod, oFdiv, oLt, oLe, oGt, oGe, oEq_int, oNe_int, bChain, bNot, bVal, bAnd, bOr, bIsN, bNotN, eIfx, eIx, oNone, oSome, eSl, eCall, eCall0, eBlt, fLen, fTuple, fList, fInt, fMin, fMax, bIsi, gNm, gTup, gNil, gCons, iSeq, iRng, iRng2, sNil, sSeq, sPass, sDead, sExpr, sRet, sAsg, sIf, okQ_ok, okQ_exc, to_ok, to_exc, ci1, ci2, ci3, ci4, sl0, sl1, sl2, sl3, sl4, sn1, sn2, sn3, sn4, lk_P, lk_S, lk_W, lk_R, lk_N, lk_pr, lk_int, lk_bl, lk_non, lk_str, lk_tup, lk_lst, lk_scr, not_false_eq_true, true_implies, decide_true, decide_false, not_true_eq_false, Bool.false_and, Bool.true_and, Bool.and_true, Bool.and_false, List.set_cons_zero, List.set_cons_succ, List.getElem?_cons_zero, List.getElem?_cons_succ, wipeT, List.length_cons, List.length_nil, List.length_map, List.map_cons, List.map_nil, D.ty, kb1, kb2, kb3, kb4, kb5, kb6, kb7, kb8, kb9, atI_0, atI_1, atI_2, atI_3, true_and, and_true, or_false, false_or, or_true, true_or, false_and, and_false, or_self, and_self, Bool.not_true, Bool.not_false, Bool.not_not, reduceCtorEq, false_implies, forall_const, implies_true, decide_eq_true_eq, decide_eq_false_iff_not, Bool.and_eq_true, Bool.and_eq_false_iff, Bool.not_eq_true, Bool.not_eq_eq_eq_not, Bool.true_eq_false, Bool.false_eq_true, Option.map_some, Option.some.injEq, exists_eq_left, exists_eq_left', pairD, encP]
      rw [eCnt_lst (plan := p) (n := (j : Int) + 1) (fun k => by simp only [eVar, eInt, eBl, eNon, eStr, eB, aNil, aCons, eTup, eLst, eBin, bCmp, oAdd, oSub, oMul, oMod, oFdiv, oLt, oLe, oGt, oGe, oEq_int, oNe_int, bChain, bNot, bVal, bAnd, bOr, bIsN, bNotN, eIfx, eIx, oNone, oSome, eSl, eCall, eCall0, eBlt, fLen, fTuple, fList, fInt, fMin, fMax, bIsi, gNm, gTup, gNil, gCons, iSeq, iRng, iRng2, sNil, sSeq, sPass, sDead, sExpr, sRet, sAsg, sIf, okQ_ok, okQ_exc, to_ok, to_exc, ci1, ci2, ci3, ci4, sl0, sl1, sl2, sl3, sl4, sn1, sn2, sn3, sn4, lk_P, lk_S, lk_W, lk_R, lk_N, lk_pr, lk_int, lk_bl, lk_non, lk_str, lk_tup, lk_lst, lk_scr, not_false_eq_true, true_implies, decide_true, decide_false, not_true_eq_false, Bool.false_and, Bool.true_and, Bool.and_true, Bool.and_false, List.set_cons_zero, List.set_cons_succ, List.getElem?_cons_zero, List.getElem?_cons_succ, wipeT, List.length_cons, List.length_nil, List.length_map, List.map_cons, List.map_nil, D.ty, kb1, kb2, kb3, kb4, kb5, kb6, kb7, kb8, kb9, atI_0, atI_1, atI_2, atI_3, true_and, and_true, or_false, false_or, or_true, true_or, false_and, and_false, or_self, and_self, Bool.not_true, Bool.not_false, Bool.not_not, reduceCtorEq, false_implies, forall_const, implies_true, decide_eq_true_eq, decide_eq_false_iff_not, Bool.and_eq_true, Bool.and_eq_false_iff, Bool.not_eq_true, Bool.not_eq_eq_eq_not, Bool.true_eq_false, Bool.false_eq_true, Option.map_some, Option.some.injEq, exists_eq_left, exists_eq_left']) (fun k => by simp only [eVar, eInt, eBl, eNon, eStr, eB, aNil, aCons, eTup, eLst, eBin, bCmp, oAdd, oSub, oMul, oMod, oFdiv, oLt, oLe, oGt, oGe, oEq_int, oNe_int, bChain, bNot, bVal, bAnd, bOr, bIsN, bNotN, eIfx, eIx, oNone, oSome, eSl, eCall, eCall0, eBlt, fLen, fTuple, fList, fInt, fMin, fMax, bIsi, gNm, gTup, gNil, gCons, iSeq, iRng, iRng2, sNil, sSeq, sPass, sDead, sExpr, sRet, sAsg, sIf, okQ_ok, okQ_exc, to_ok, to_exc, ci1, ci2, ci3, ci4, sl0, sl1, sl2, sl3, sl4, sn1, sn2, sn3, sn4, lk_P, lk_S, lk_W, lk_R, lk_N, lk_pr, lk_int, lk_bl, lk_non, lk_str, lk_tup, lk_lst, lk_scr, not_false_eq_true, true_implies, decide_true, decide_false, not_true_eq_false, Bool.false_and, Bool.true_and, Bool.and_true, Bool.and_false, List.set_cons_zero, List.set_cons_succ, List.getElem?_cons_zero, List.getElem?_cons_succ, wipeT, List.length_cons, List.length_nil, List.length_map, List.map_cons, List.map_nil, D.ty, kb1, kb2, kb3, kb4, kb5, kb6, kb7, kb8, kb9, atI_0, atI_1, atI_2, atI_3, true_and, and_true, or_false, false_or, or_true, true_or, false_and, and_false, or_self, and_self, Bool.not_true, Bool.not_false, Bool.not_not, reduceCtorEq, false_implies, forall_const, implies_true, decide_eq_true_eq, decide_eq_false_iff_not, Bool.and_eq_true, Bool.and_eq_false_iff, Bool.not_eq_true, Bool.not_eq_eq_eq_not, Bool.true_eq_false, Bool.false_eq_true, Option.map_some, Option.some.injEq, exists_eq_left, exists_eq_left'])]
      simp only [eVar, eInt, eBl, eNon, eStr, eB, aNil, aCons, eTup, eLst, eBin, bCmp, oAdd, oSub, oMul, oMod, oFdiv, oLt, oLe, oGt, oGe, oEq_int, oNe_int, bChain, bNot, bVal, bAnd, bOr, bIsN, bNotN, eIfx, eIx, oNone, oSome, eSl, eCall, eCall0, eBlt, fLen, fTuple, fList, fInt, fMin, fMax, bIsi, gNm, gTup, gNil, gCons, iSeq, iRng, iRng2, sNil, sSeq, sPass, sDead, sExpr, sRet, sAsg, sIf, okQ_ok, okQ_exc, to_ok, to_exc, ci1, ci2, ci3, ci4, sl0, sl1, sl2, sl3, sl4, sn1, sn2, sn3, sn4, lk_P, lk_S, lk_W, lk_R, lk_N, lk_pr, lk_int, lk_bl, lk_non, lk_str, lk_tup, lk_lst, lk_scr, not_false_eq_true, true_implies, decide_true, decide_false, not_true_eq_false, Bool.false_and, Bool.true_and, Bool.and_true, Bool.and_false, List.set_cons_zero, List.set_cons_succ, List.getElem?_cons_zero, List.getElem?_cons_succ, wipeT, List.length_cons, List.length_nil, List.length_map, List.map_cons, List.map_nil, D.ty, kb1, kb2, kb3, kb4, kb5, kb6, kb7, kb8, kb9, atI_0, atI_1, atI_2, atI_3, true_and, and_true, or_false, false_or, or_true, true_or, false_and, and_false, or_self, and_self, Bool.not_true, Bool.not_false, Bool.not_not, reduceCtorEq, false_implies, forall_const, implies_true, decide_eq_true_eq, decide_eq_false_iff_not, Bool.and_eq_true, Bool.and_eq_false_iff, Bool.not_eq_true, Bool.not_eq_eq_eq_not, Bool.true_eq_false, Bool.false_eq_true, Option.map_some, Option.some.injEq, exists_eq_left, exists_eq_left'] at h3 h4 ⊢
      exact ⟨fun z => h4 z, fun z => h3 z _ ⟨_, _, _, rfl⟩⟩
    · rintro z T ⟨c, d1, e, rfl⟩
      exact h1 z _ ⟨_, _, _, _, _, rfl⟩
    · intro z
      exact h2 z
  · rintro hk T ⟨a, b, c, d1, e, rfl⟩
    simp only [encW, eVar, eInt, eBl, eNon, eStr, eB, aNil, aCons, eTup, eLst, eBin, bCmp, oAdd, oSub, oMul, oMod, oFdiv, oLt, oLe, oGt, oGe, oEq_int, oNe_int, bChain, bNot, bVal, bAnd, bOr, bIsN, bNotN, eIfx, eIx, oNone, oSome, eSl, eCall, eCall0, eBlt, fLen, fTuple, fList, fInt, fMin, fMax, bIsi, gNm, gTup, gNil, gCons, iRng, iRng2, sNil, sSeq, sPass, sDead, sExpr, sRet, sAsg, sIf, okQ_ok, okQ_exc, to_ok, to_exc, ci1, ci2, ci3, ci4, sl0, sl1, sl2, sl3, sl4, sn1, sn2, sn3, sn4, lk_P, lk_S, lk_W, lk_R, lk_N, lk_pr, lk_int, lk_bl, lk_non, lk_str, lk_tup, lk_lst, lk_scr, not_false_eq_true, true_implies, decide_true, decide_false, not_true_eq_false, Bool.false_and, Bool.true_and, Bool.and_true, Bool.and_false, List.set_cons_zero, List.set_cons_succ, List.getElem?_cons_zero, List.getElem?_cons_succ, wipeT, List.length_cons, List.length_nil, List.length_map, List.map_cons, List.map_nil, D.ty, kb1, kb2, kb3, kb4, kb5, kb6, kb7, kb8, kb9, atI_0, atI_1, atI_2, atI_3, true_and, and_true, or_false, false_or, or_true, true_or, false_and, and_false, or_self, and_self, Bool.not_true, Bool.not_false, Bool.not_not, reduceCtorEq, false_implies, forall_const, implies_true, decide_eq_true_eq, decide_eq_false_iff_not, Bool.and_eq_true, Bool.and_eq_false_iff, Bool.not_eq_true, Bool.not_eq_eq_eq_not, Bool.true_eq_false, Bool.false_eq_true, Option.map_some, Option.some.injEq, exists_eq_left, exists_eq_left', eLc, iEnum, enumD_map]
    refine ⟨szl _ (by simp; have := hw.rl; omega), lc_map (f := fun q : Rule × Nat => .bl (keptB q.1 (colOf ps q.2))) trivial _ _ (fun q hq R hR => ?_) ?_⟩
    · obtain ⟨u, k⟩ := q
      have hmem := List.mem_zipIdx hq
      simp only [Nat.zero_le, Nat.zero_add, true_and, Nat.sub_zero] at hmem
      have hk : k < w.rules.length := hmem.1
      have hu : u ∈ w.rules := by rw [hmem.2]; exact List.getElem_mem _
      simp only [eVar, eInt, eBl, eNon, eStr, eB, aNil, aCons, eTup, eLst, eBin, bCmp, oAdd, oSub, oMul, oMod, oFdiv, oLt, oLe, oGt, oGe, oEq_int, oNe_int, bChain, bNot, bVal, bAnd, bOr, bIsN, bNotN, eIfx, eIx, oNone, oSome, eSl, eCall, eCall0, eBlt, fLen, fTuple, fList, fInt, fMin, fMax, bIsi, gNm, gTup, gNil, gCons, iRng, iRng2, sNil, sSeq, sPass, sDead, sExpr, sRet, sAsg, sIf, okQ_ok, okQ_exc, to_ok, to_exc, ci1, ci2, ci3, ci4, sl0, sl1, sl2, sl3, sl4, sn1, sn2, sn3, sn4, lk_P, lk_S, lk_W, lk_R, lk_N, lk_pr, lk_int, lk_bl, lk_non, lk_str, lk_tup, lk_lst, lk_scr, not_false_eq_true, true_implies, decide_true, decide_false, not_true_eq_false, Bool.false_and, Bool.true_and, Bool.and_true, Bool.and_false, List.set_cons_zero, List.set_cons_succ, List.getElem?_cons_zero, List.getElem?_cons_succ, wipeT, List.length_cons, List.length_nil, List.length_map, List.map_cons, List.map_nil, D.ty, kb1, kb2, kb3, kb4, kb5, kb6, kb7, kb8, kb9, atI_0, atI_1, atI_2, atI_3, true_and, and_true, or_false, false_or, or_true, true_or, false_and, and_false, or_self, and_self, Bool.not_true, Bool.not_false, Bool.not_not, reduceCtorEq, false_implies, forall_const, implies_true, decide_eq_true_eq, decide_eq_false_iff_not, Bool.and_eq_true, Bool.and_eq_false_iff, Bool.not_eq_true, Bool.not_eq_eq_eq_not, Bool.true_eq_false, Bool.false_eq_true, Option.map_some, Option.some.injEq, exists_eq_left, exists_eq_left', eLc]
      refine iSeq_src rfl hd fun C hC => ?_
      refine ⟨szl _ (by simp; omega), lc_map (f := fun p : List Int => .int (p[k]?.getD 0)) hC ps _ (fun p hp1 R1 hR1 => ?_) ?_⟩
      · have hkp : k < p.length := by rw [hp p hp1]; exact hk
        have e1 : atI (p.map D.int) (k : Int) = some (.int (p[k]?.getD 0)) := at_day p k hkp
        simp only [eVar, eInt, eBl, eNon, eStr, eB, aNil, aCons, eTup, eLst, eBin, bCmp, oAdd, oSub, oMul, oMod, oFdiv, oLt, oLe, oGt, oGe, oEq_int, oNe_int, bChain, bNot, bVal, bAnd, bOr, bIsN, bNotN, eIfx, eIx, oNone, oSome, eSl, eCall, eCall0, eBlt, fLen, fTuple, fList, fInt, fMin, fMax, bIsi, gNm, gTup, gNil, gCons, iRng, iRng2, sNil, sSeq, sPass, sDead, sExpr, sRet, sAsg, sIf, okQ_ok, okQ_exc, to_ok, to_exc, ci1, ci2, ci3, ci4, sl0, sl1, sl2, sl3, sl4, sn1, sn2, sn3, sn4, lk_P, lk_S, lk_W, lk_R, lk_N, lk_pr, lk_int, lk_bl, lk_non, lk_str, lk_tup, lk_lst, lk_scr, not_false_eq_true, true_implies, decide_true, decide_false, not_true_eq_false, Bool.false_and, Bool.true_and, Bool.and_true, Bool.and_false, List.set_cons_zero, List.set_cons_succ, List.getElem?_cons_zero, List.getElem?_cons_succ, wipeT, List.length_cons, List.length_nil, List.length_map, List.map_cons, List.map_nil, D.ty, kb1, kb2, kb3, kb4, kb5, kb6, kb7, kb8, kb9, atI_0, atI_1, atI_2, atI_3, true_and, and_true, or_false, false_or, or_true, true_or, false_and, and_false, or_self, and_self, Bool.not_true, Bool.not_false, Bool.not_not, reduceCtorEq, false_implies, forall_const, implies_true, decide_eq_true_eq, decide_eq_false_iff_not, Bool.and_eq_true, Bool.and_eq_false_iff, Bool.not_eq_true, Bool.not_eq_eq_eq_not, Bool.true_eq_false, Bool.false_eq_true, Option.map_some, Option.some.injEq, exists_eq_left, exists_eq_left', encP, e1]
        exact hR1
      · have e3 : (ps.map fun p : List Int => D.int (p[k]?.getD 0)) = (colOf ps k).map D.int := by simp [colOf, Function.comp]
        rw [e3]
        refine ⟨_, _, ⟨u, colOf ps k, rfl, ⟨(hw.rs u hu).most, by simpa [colOf] using hl⟩, rfl, rfl⟩, hR⟩
    · have e6 : (w.rules.zipIdx.map fun q : Rule × Nat => D.bl (keptB q.1 (colOf ps q.2))) = (w.rules.zipIdx.map fun q : Rule × Nat => keptB q.1 (colOf ps q.2)).map D.bl := by simp [Function.comp]
      rw [e6, all_bl]
      simp only [List.all_map]
      unfold allKept at h
      rw [hk, Bool.true_and] at h
      exact h
  · intro z
    unfold allKept at h
    rw [z, Bool.false_and] at h
    exact h
end K3

set_option Elab.async false
set_option linter.all false
set_option maxRecDepth 100000
set_option maxHeartbeats 1000000
namespace K3
open PySem J
open L2 (kitB atI CMul)
theorem all_cong {α : Type} {f g : α → Bool} : ∀ {xs : List α}, (∀ x ∈ xs, f x = g x) → xs.all f = xs.all g
  | [], _ => rfl
  | x :: xs, h => by
    rw [List.all_cons, List.all_cons, h x (List.mem_cons_self ..), all_cong fun y hy => h y (List.mem_cons_of_mem _ hy)]
/-! ### plain: one hand. The days so far, the last one first -/
def trR : List Int → Nat
  | [] => 0
  | x :: xs => if x = 0 then 0 else trR xs + 1
/-- zeros ahead, and the first that is none -/
def fw : List Int → Option (Nat × Int)
  | [] => none
  | x :: xs => if x = 0 then (fw xs).map fun p => (p.1 + 1, p.2) else some (0, x)
def stC (r : Rule) (rd : List Int) : Int × Int := match fw rd with
  | none => (0, r.least)
  | some (0, x) => (x, (trR rd : Int))
  | some (z + 1, _) => (0, min r.least ((z : Int) + 1))
def gapOk (r : Rule) (rd : List Int) (s : Int) : Bool := match fw rd with
  | none => true
  | some (0, x) => !decide ((x, s) ∈ r.barred)
  | some (z + 1, _) => decide (r.least ≤ (z : Int) + 1)
def okNext (r : Rule) (rd : List Int) (s : Int) : Bool := decide (s = 0) || (decide ((trR rd : Int) < r.most) && gapOk r rd s && decide (s ∈ r.skills))
theorem fw_ne {rd : List Int} {z : Nat} {x : Int} (h : fw rd = some (z, x)) : x ≠ 0 := by
  induction rd generalizing z with
  | nil => cases h
  | cons y ys ih =>
    unfold fw at h
    split at h
    · cases e : fw ys with
      | none => rw [e] at h; cases h
      | some p =>
        rw [e] at h
        simp only [Option.map_some, Option.some.injEq, Prod.mk.injEq] at h
        exact ih (z := p.1) (by rw [e, ← h.2])
    · simp only [Option.some.injEq, Prod.mk.injEq] at h
      rw [← h.2]
      assumption
theorem tr_fw0 {rd : List Int} (h : fw rd = none) : trR rd = 0 := by
  cases rd with
  | nil => rfl
  | cons y ys =>
    unfold fw at h
    unfold trR
    split at h
    · next z => rw [if_pos z]
    · cases h
theorem tr_fw1 {rd : List Int} {z : Nat} {x : Int} (h : fw rd = some (z + 1, x)) : trR rd = 0 := by
  cases rd with
  | nil => rfl
  | cons y ys =>
    unfold fw at h
    unfold trR
    split at h
    · next z => rw [if_pos z]
    · simp at h
theorem stC_cons (r : Rule) (rd : List Int) (s : Int) (hl : 1 ≤ r.least) : stC r (s :: rd) = standB r (stC r rd) s := by
  by_cases hs : s = 0
  · subst hs
    have e : fw (0 :: rd) = (fw rd).map fun p => (p.1 + 1, p.2) := by simp [fw]
    unfold stC
    rw [e]
    cases h : fw rd with
    | none => simp [standB]; omega
    | some p =>
      obtain ⟨z, x⟩ := p
      have hx := fw_ne h
      cases z with
      | zero => simp [standB, hx]; omega
      | succ z => simp [standB]; omega
  · have e : fw (s :: rd) = some (0, s) := by simp [fw, hs]
    have et : trR (s :: rd) = trR rd + 1 := by simp [trR, hs]
    unfold stC
    rw [e, et]
    cases h : fw rd with
    | none => simp [standB, hs, tr_fw0 h]
    | some p =>
      obtain ⟨z, x⟩ := p
      have hx := fw_ne h
      cases z with
      | zero => simp [standB, hs, hx]
      | succ z => simp [standB, hs, tr_fw1 h]
theorem stC_nil (r : Rule) : stC r [] = (0, r.least) := rfl
/-- what may come next -/
theorem mem_opts (r : Rule) (rd : List Int) (s : Int) (hm : 1 ≤ r.most) : (s ∈ opts r (stC r rd)) ↔ okNext r rd s = true := by
  have hm' : (0 : Int) < r.most := by omega
  unfold okNext gapOk stC opts
  cases h : fw rd with
  | none =>
    simp [tr_fw0 h, hm']
  | some p =>
    obtain ⟨z, x⟩ := p
    have hx := fw_ne h
    cases z with
    | zero =>
      simp only [hx, if_false]
      by_cases h1 : r.most ≤ (trR rd : Int)
      · have : ¬ (trR rd : Int) < r.most := by omega
        simp [h1, this]
      · have : (trR rd : Int) < r.most := by omega
        simp [h1, this, and_comm]
    | succ z =>
      simp only [if_true]
      have e1 : (r.least ≤ min r.least ((z : Int) + 1)) ↔ r.least ≤ (z : Int) + 1 := by omega
      by_cases h1 : r.least ≤ (z : Int) + 1
      · simp [e1.mpr h1, h1, tr_fw1 h, hm']
      · have h2 : ¬ r.least ≤ min r.least ((z : Int) + 1) := fun q => h1 (e1.mp q)
        simp [h2, h1]
/-! ### the law's own words, day by day -/
theorem zero_mem_take : ∀ (rd : List Int) (m : Nat), m ≤ rd.length → ((0 : Int) ∈ rd.take m ↔ trR rd < m)
  | [], m, h => by
    have : m = 0 := by simpa using h
    subst this
    simp
  | x :: xs, 0, _ => by simp
  | x :: xs, m + 1, h => by
    have ih := zero_mem_take xs m (by simpa using h)
    rw [List.take_succ_cons, List.mem_cons]
    unfold trR
    by_cases hx : x = 0
    · simp [hx]
    · rw [if_neg hx, ih]
      constructor
      · rintro (z | z)
        · exact absurd z.symm hx
        · omega
      · intro z
        exact .inr (by omega)
theorem tr_le : ∀ rd : List Int, trR rd ≤ rd.length
  | [] => Nat.le_refl _
  | x :: xs => by
    have := tr_le xs
    unfold trR
    rw [List.length_cons]
    split <;> omega
theorem kept1_snoc (most : Int) (hm : 1 ≤ most) (days : List Int) (s : Int) : kept1 most (days ++ [s]) = (kept1 most days && (decide (s = 0) || decide ((trR days.reverse : Int) < most))) := by
  obtain ⟨m, rfl⟩ : ∃ m : Nat, most = (m : Int) := ⟨most.toNat, by omega⟩
  unfold kept1
  have htr := tr_le days.reverse
  rw [List.length_reverse] at htr
  by_cases h : m ≤ days.length
  · have e1 : (((days ++ [s]).length : Int) - (m : Int)).toNat = (days.length - m) + 1 := by
      rw [List.length_append, List.length_singleton]
      omega
    have e2 : ((days.length : Int) - (m : Int)).toNat = days.length - m := by omega
    rw [e1, e2, List.range_succ, List.all_append]
    congr 1
    · refine all_cong fun i hi => ?_
      have hi' := List.mem_range.mp hi
      have e3 : ((days ++ [s]).drop i).take ((m : Int).toNat + 1) = (days.drop i).take ((m : Int).toNat + 1) := by
        rw [List.drop_append_of_le_length (by omega), List.take_append_of_le_length (by rw [List.length_drop]; omega)]
      rw [e3]
    · simp only [List.all_cons, List.all_nil, Bool.and_true]
      have e3 : ((days ++ [s]).drop (days.length - m)).take ((m : Int).toNat + 1) = days.drop (days.length - m) ++ [s] := by
        rw [List.drop_append_of_le_length (by omega)]
        refine List.take_of_length_le ?_
        rw [List.length_append, List.length_drop, List.length_singleton]
        omega
      have e4 : ((0 : Int) ∈ days.drop (days.length - m)) ↔ trR days.reverse < m := by
        rw [← zero_mem_take days.reverse m (by rw [List.length_reverse]; exact h)]
        rw [List.take_reverse, List.mem_reverse]
      rw [e3]
      have e5 : ((0 : Int) ∈ days.drop (days.length - m) ++ [s]) ↔ (s = 0 ∨ ((trR days.reverse : Nat) : Int) < (m : Int)) := by
        rw [List.mem_append, e4, List.mem_singleton]
        constructor
        · rintro (z | z)
          · exact .inr (by omega)
          · exact .inl z.symm
        · rintro (z | z)
          · exact .inr z.symm
          · exact .inl (by omega)
      by_cases hs : s = 0
      · rw [decide_eq_true (e5.mpr (.inl hs))]
        simp [hs]
      · by_cases ht : ((trR days.reverse : Nat) : Int) < (m : Int)
        · rw [decide_eq_true (e5.mpr (.inr ht))]
          simp [ht]
        · rw [decide_eq_false fun q => (e5.mp q).elim hs ht]
          simp [hs, ht]
  · have e1 : (((days ++ [s]).length : Int) - (m : Int)).toNat = 0 := by
      rw [List.length_append, List.length_singleton]
      omega
    have e2 : ((days.length : Int) - (m : Int)).toNat = 0 := by omega
    have e3 : (trR days.reverse : Int) < (m : Int) := by omega
    rw [e1, e2]
    simp [e3]
theorem work_snoc (days : List Int) (s : Int) : workOf (days ++ [s]) = workOf days ++ (if s = 0 then [] else [days.length]) := by
  unfold workOf
  rw [List.zipIdx_append, List.filter_append, List.map_append]
  congr 1
  by_cases h : s = 0 <;> simp [h]
theorem dayAt_old (days : List Int) (s : Int) (i : Nat) (h : i < days.length) : dayAt (days ++ [s]) i = dayAt days i := by
  unfold dayAt
  rw [List.getElem?_append_left h]
theorem dayAt_new (days : List Int) (s : Int) : dayAt (days ++ [s]) days.length = s := by
  unfold dayAt
  simp
theorem work_last (days : List Int) : match fw days.reverse with
    | none => workOf days = []
    | some (z, x) => ∃ w, workOf days = w ++ [days.length - 1 - z] ∧ z < days.length ∧ dayAt days (days.length - 1 - z) = x := by
  have key : ∀ rd : List Int, match fw rd with
      | none => workOf rd.reverse = []
      | some (z, x) => ∃ w, workOf rd.reverse = w ++ [rd.reverse.length - 1 - z] ∧ z < rd.reverse.length ∧ dayAt rd.reverse (rd.reverse.length - 1 - z) = x := by
    intro rd
    induction rd with
    | nil => rfl
    | cons s rd ih =>
      rw [List.reverse_cons]
      by_cases hs : s = 0
      · subst hs
        have e : fw (0 :: rd) = (fw rd).map fun p => (p.1 + 1, p.2) := by simp [fw]
        rw [e]
        cases h : fw rd with
        | none =>
          rw [h] at ih
          show workOf (rd.reverse ++ [0]) = []
          rw [work_snoc, ih]
          simp
        | some p =>
          obtain ⟨z, x⟩ := p
          rw [h] at ih
          obtain ⟨w, h1, h2, h3⟩ := ih
          refine ⟨w, ?_, ?_, ?_⟩
          · rw [work_snoc, h1, if_pos rfl, List.append_nil, List.length_append, List.length_singleton]
            congr 2
            omega
          · rw [List.length_append, List.length_singleton]
            omega
          · rw [List.length_append, List.length_singleton]
            have e2 : rd.reverse.length + 1 - 1 - (z + 1) = rd.reverse.length - 1 - z := by omega
            rw [e2, dayAt_old _ _ _ (by omega)]
            exact h3
      · have e : fw (s :: rd) = some (0, s) := by simp [fw, hs]
        rw [e]
        refine ⟨workOf rd.reverse, ?_, ?_, ?_⟩
        · rw [work_snoc, if_neg hs]
          simp
        · simp
        · have e2 : (rd.reverse ++ [s]).length - 1 - 0 = rd.reverse.length := by simp
          rw [e2, dayAt_new]
  have := key days.reverse
  rw [List.reverse_reverse] at this
  exact this
theorem zip_tail_snoc {α : Type} (w : List α) (a b : α) : (w ++ [a] ++ [b]).zip (w ++ [a] ++ [b]).tail = (w ++ [a]).zip (w ++ [a]).tail ++ [(a, b)] := by
  induction w with
  | nil => rfl
  | cons x w ih =>
    cases w with
    | nil => rfl
    | cons y w =>
      simp only [List.cons_append, List.tail_cons, List.zip_cons_cons] at ih ⊢
      rw [ih]
theorem kept2_snoc (r : Rule) (days : List Int) (s : Int) : kept2 r (days ++ [s]) = (kept2 r days && (decide (s = 0) || gapOk r days.reverse s)) := by
  have old : ∀ q ∈ (workOf days).zip (workOf days).tail, pairOk r (days ++ [s]) q = pairOk r days q := fun q hq => by
    obtain ⟨i, j⟩ := q
    have hz := List.of_mem_zip hq
    have hi := work_lt days i hz.1
    have hj := work_lt days j (List.mem_of_mem_tail hz.2)
    unfold pairOk
    simp only
    rw [dayAt_old _ _ _ hi, dayAt_old _ _ _ hj]
  unfold kept2
  rw [work_snoc]
  by_cases hs : s = 0
  · rw [if_pos hs, List.append_nil]
    simp only [hs, decide_true, Bool.true_or, Bool.and_true]
    rw [hs] at old
    exact all_cong fun q hq => old q hq
  · rw [if_neg hs]
    have hl := work_last days
    unfold gapOk
    cases h : fw days.reverse with
    | none =>
      rw [h] at hl
      have hl : workOf days = [] := hl
      rw [hl]
      simp
    | some p =>
      obtain ⟨z, x⟩ := p
      rw [h] at hl
      obtain ⟨w, h1, h2, h3⟩ := hl
      rw [h1] at old ⊢
      rw [zip_tail_snoc, List.all_append]
      have e1 := all_cong (xs := (w ++ [days.length - 1 - z]).zip (w ++ [days.length - 1 - z]).tail) old
      rw [e1]
      congr 1
      simp only [List.all_cons, List.all_nil, Bool.and_true, hs, decide_false, Bool.false_or]
      unfold pairOk
      simp only
      rw [dayAt_new, dayAt_old _ _ _ (by omega), h3]
      have eg : ((days.length : Nat) : Int) - ((days.length - 1 - z : Nat) : Int) = (z : Int) + 1 := by omega
      rw [eg]
      cases z with
      | zero => simp
      | succ z =>
        have a1 : ((1 : Int) < ((z + 1 : Nat) : Int) + 1) := by omega
        have a2 : ¬ (((z + 1 : Nat) : Int) + 1 = 1) := by omega
        have a3 : (((z + 1 : Nat) : Int) + 1 < r.least + 1) ↔ ¬ r.least ≤ (z : Int) + 1 := by omega
        simp only [a1, a2, decide_true, decide_false, Bool.true_and, Bool.false_and, Bool.not_false, Bool.and_true]
        by_cases hq : r.least ≤ (z : Int) + 1
        · rw [decide_eq_false fun q => (a3.mp q) hq, decide_eq_true hq]
          rfl
        · rw [decide_eq_true (a3.mpr hq), decide_eq_false hq]
          rfl
theorem kept3_snoc (r : Rule) (days : List Int) (s : Int) : kept3 r (days ++ [s]) = (kept3 r days && (decide (s = 0) || decide (s ∈ r.skills))) := by
  unfold kept3
  rw [work_snoc, List.all_append]
  congr 1
  · refine all_cong fun i hi => ?_
    rw [dayAt_old _ _ _ (work_lt days i hi)]
  · by_cases hs : s = 0
    · simp [hs]
    · simp [hs, dayAt_new]
theorem keptB_snoc (r : Rule) (hm : 1 ≤ r.most) (days : List Int) (s : Int) : keptB r (days ++ [s]) = (keptB r days && okNext r days.reverse s) := by
  unfold keptB okNext
  rw [kept1_snoc _ hm, kept2_snoc, kept3_snoc]
  cases decide (s = 0) <;> cases kept1 r.most days <;> cases kept2 r days <;> cases kept3 r days <;> simp [Bool.and_assoc]
theorem keptB_nil (r : Rule) (hm : 1 ≤ r.most) : keptB r [] = true := by
  unfold keptB kept1 kept2 kept3 workOf
  have e : ((([] : List Int).length : Int) - r.most).toNat = 0 := by simp; omega
  rw [e]
  simp
end K3

set_option Elab.async false
set_option linter.all false
set_option maxRecDepth 100000
set_option maxHeartbeats 1000000
namespace K3
open PySem J
/-! ### rows -/
def prodF (ls : List (List Int)) : List (List Int) := ls.foldl (fun rows l => rows.flatMap fun row => l.map fun s => row ++ [s]) [[]]
theorem prodF_snoc (ls : List (List Int)) (l : List Int) : prodF (ls ++ [l]) = (prodF ls).flatMap fun row => l.map fun s => row ++ [s] := by
  unfold prodF
  rw [List.foldl_append]
  rfl
theorem rowsOf_prodF (qs : List (Rule × (Int × Int))) : rowsOf qs = prodF (qs.map fun q => opts q.1 q.2) := by
  unfold rowsOf prodF
  rw [List.foldl_map]
theorem prodF_len : ∀ (n : Nat) (ls : List (List Int)), ls.length = n → ∀ row ∈ prodF ls, row.length = n
  | 0, ls, h, row, hr => by
    have : ls = [] := List.length_eq_zero_iff.mp h
    subst this
    simp [prodF] at hr
    simp [hr]
  | n + 1, ls, h, row, hr => by
    have hne : ls ≠ [] := fun z => by rw [z] at h; cases h
    have e := List.dropLast_concat_getLast hne
    rw [← e, prodF_snoc] at hr
    obtain ⟨r0, h0, h1⟩ := List.mem_flatMap.mp hr
    obtain ⟨s, _, rfl⟩ := List.mem_map.mp h1
    have ih := prodF_len n ls.dropLast (by rw [List.length_dropLast, h]; rfl) r0 h0
    simp [ih]
def okRow (ps : List (Int → Bool)) (row : List Int) : Bool := (ps.zip row).all fun q => q.1 q.2
theorem okRow_snoc (ps : List (Int → Bool)) (row : List Int) (p : Int → Bool) (s : Int) (h : ps.length = row.length) : okRow (ps ++ [p]) (row ++ [s]) = (okRow ps row && p s) := by
  unfold okRow
  rw [List.zip_append h, List.all_append]
  simp
theorem filter_flatMap {α β : Type} (p : β → Bool) (f : α → List β) : ∀ xs : List α, (xs.flatMap f).filter p = xs.flatMap fun x => (f x).filter p
  | [] => rfl
  | x :: xs => by rw [List.flatMap_cons, List.filter_append, filter_flatMap p f xs, List.flatMap_cons]
theorem flatMap_if {α β : Type} (p : α → Bool) (f : α → List β) : ∀ xs : List α, (xs.flatMap fun x => if p x = true then f x else []) = (xs.filter p).flatMap f
  | [] => rfl
  | x :: xs => by
    rw [List.flatMap_cons, flatMap_if p f xs, List.filter_cons]
    cases p x <;> simp
theorem flatMap_cong {α β : Type} {f g : α → List β} : ∀ {xs : List α}, (∀ x ∈ xs, f x = g x) → xs.flatMap f = xs.flatMap g
  | [], _ => rfl
  | x :: xs, h => by rw [List.flatMap_cons, List.flatMap_cons, h x (List.mem_cons_self ..), flatMap_cong fun y hy => h y (List.mem_cons_of_mem _ hy)]
theorem filter_prodF : ∀ (n : Nat) (qs : List (List Int × (Int → Bool))), qs.length = n → (prodF (qs.map (·.1))).filter (okRow (qs.map (·.2))) = prodF (qs.map fun q => q.1.filter q.2)
  | 0, qs, h => by
    have : qs = [] := List.length_eq_zero_iff.mp h
    subst this
    rfl
  | n + 1, qs, h => by
    have hne : qs ≠ [] := fun z => by rw [z] at h; cases h
    have e := List.dropLast_concat_getLast hne
    have hl : qs.dropLast.length = n := by rw [List.length_dropLast, h]; rfl
    have ih := filter_prodF n qs.dropLast hl
    generalize qs.dropLast = ps at e ih hl
    generalize qs.getLast hne = q at e
    rw [← e, List.map_append, List.map_append, List.map_append, List.map_singleton, List.map_singleton, List.map_singleton, prodF_snoc, prodF_snoc, filter_flatMap, ← ih]
    rw [← flatMap_if]
    refine flatMap_cong fun row hrow => ?_
    have hrl := prodF_len n _ (by rw [List.length_map]; exact hl) row hrow
    have hll : (ps.map (·.2)).length = row.length := by rw [List.length_map, hrl, hl]
    rw [List.filter_map]
    have e2 : ∀ s, (okRow (ps.map (·.2) ++ [q.2]) ∘ fun s => row ++ [s]) s = (okRow (ps.map (·.2)) row && q.2 s) := fun s => okRow_snoc _ _ _ _ hll
    rw [show (okRow (ps.map (·.2) ++ [q.2]) ∘ fun s => row ++ [s]) = fun s => (okRow (ps.map (·.2)) row && q.2 s) from funext e2]
    cases okRow (ps.map (·.2)) row with
    | true => simp
    | false => simp
/-! ### the shifts that may come, out of all -/
def allSh (sh : Int) : List Int := (List.range (sh + 1).toNat).map fun i : Nat => (i : Int)
theorem allSh_pw (sh : Int) : (allSh sh).Pairwise (fun a b => ltI a b = true) := by
  unfold allSh
  rw [List.pairwise_map]
  exact (List.pairwise_lt_range).imp fun h => decide_eq_true (by omega)
theorem mem_allSh (sh s : Int) : s ∈ allSh sh ↔ 0 ≤ s ∧ s ≤ sh := by
  unfold allSh
  rw [List.mem_map]
  constructor
  · rintro ⟨i, hi, rfl⟩
    have := List.mem_range.mp hi
    omega
  · intro h
    exact ⟨s.toNat, List.mem_range.mpr (by omega), by omega⟩
theorem opts_pw (r : Rule) (sh : Int) (hr : Rok sh r) (st : Int × Int) : (opts r st).Pairwise (fun a b => ltI a b = true) := by
  have h0 : ∀ s ∈ r.skills, ltI 0 s = true := fun s hs => decide_eq_true (by have := hr.inn s hs; omega)
  unfold opts
  split
  · split
    · exact List.pairwise_cons.mpr ⟨h0, hr.up⟩
    · simp
  · split
    · simp
    · exact List.pairwise_cons.mpr ⟨fun s hs => h0 s (List.mem_filter.mp hs).1, hr.up.filter _⟩
theorem opts_in (r : Rule) (sh : Int) (hr : Rok sh r) (h1 : 1 ≤ sh) (st : Int × Int) : ∀ s ∈ opts r st, 0 ≤ s ∧ s ≤ sh := by
  intro s
  have h0 : ∀ s ∈ r.skills, 0 ≤ s ∧ s ≤ sh := fun s hs => by have := hr.inn s hs; omega
  unfold opts
  split
  · split
    · intro h
      rcases List.mem_cons.mp h with rfl | h
      · omega
      · exact h0 s h
    · intro h
      have : s = 0 := by simpa using h
      omega
  · split
    · intro h
      have : s = 0 := by simpa using h
      omega
    · intro h
      rcases List.mem_cons.mp h with rfl | h
      · omega
      · exact h0 s (List.mem_filter.mp h).1
theorem filter_allSh (r : Rule) (sh : Int) (hr : Rok sh r) (h1 : 1 ≤ sh) (rd : List Int) : (allSh sh).filter (okNext r rd) = opts r (stC r rd) := by
  refine rising_unique ltI_o _ _ ((allSh_pw sh).filter _) (opts_pw r sh hr _) fun s => ?_
  rw [List.mem_filter, mem_opts r rd s hr.most.1, mem_allSh]
  constructor
  · exact fun h => h.2
  · exact fun h => ⟨opts_in r sh hr h1 _ s ((mem_opts r rd s hr.most.1).mpr h), h⟩
/-! ### all hands -/
theorem colOf_snoc (ps : List (List Int)) (row : List Int) (k : Nat) : colOf (ps ++ [row]) k = colOf ps k ++ [row[k]?.getD 0] := by simp [colOf]
theorem all_zip {α : Type} (G : α × Nat → Int → Bool) : ∀ (xs : List α) (row : List Int) (n : Nat), xs.length = row.length → (((xs.zipIdx n).map G).zip row).all (fun q => q.1 q.2) = (xs.zipIdx n).all fun q => G q (row[q.2 - n]?.getD 0)
  | [], row, n, h => by simp
  | x :: xs, [], n, h => by cases h
  | x :: xs, y :: row, n, h => by
    have ih := all_zip G xs row (n + 1) (by simpa using h)
    rw [List.zipIdx_cons, List.map_cons, List.zip_cons_cons, List.all_cons, List.all_cons, ih]
    congr 1
    · simp
    · refine all_cong fun q hq => ?_
      obtain ⟨a, i⟩ := q
      have h1 := List.mem_zipIdx hq
      have h2 : n + 1 ≤ i := h1.1
      have e : i - n = (i - (n + 1)) + 1 := by omega
      simp only
      rw [e]
      simp
/-- the stands, and the day -/
def standsOf (w : Wd) (ps : List (List Int)) : List (Int × Int) := w.rules.zipIdx.map fun q => stC q.1 (colOf ps q.2).reverse
def predsOf (w : Wd) (ps : List (List Int)) : List (Int → Bool) := w.rules.zipIdx.map fun q => okNext q.1 (colOf ps q.2).reverse
theorem allKept_snoc (w : Wd) (hw : Wok w) (ps : List (List Int)) (row : List Int) (hr : row.length = w.rules.length) :
    allKept w (ps ++ [row]) = (allKept w ps && (meetsB (needOn w ps.length) row && okRow (predsOf w ps) row)) := by
  unfold allKept
  rw [List.zipIdx_append, List.all_append]
  have e1 : okRow (predsOf w ps) row = w.rules.zipIdx.all fun q => okNext q.1 (colOf ps q.2).reverse (row[q.2]?.getD 0) := by
    unfold okRow predsOf
    rw [all_zip (fun q => okNext q.1 (colOf ps q.2).reverse) w.rules row 0 hr.symm]
    simp
  have e2 : (w.rules.zipIdx.all fun q => keptB q.1 (colOf (ps ++ [row]) q.2)) = ((w.rules.zipIdx.all fun q => keptB q.1 (colOf ps q.2)) && w.rules.zipIdx.all fun q => okNext q.1 (colOf ps q.2).reverse (row[q.2]?.getD 0)) := by
    have : ∀ xs : List (Rule × Nat), (∀ q ∈ xs, q.1 ∈ w.rules) → (xs.all fun q => keptB q.1 (colOf (ps ++ [row]) q.2)) = ((xs.all fun q => keptB q.1 (colOf ps q.2)) && xs.all fun q => okNext q.1 (colOf ps q.2).reverse (row[q.2]?.getD 0)) := by
      intro xs
      induction xs with
      | nil => intro _; rfl
      | cons q xs ih =>
        intro h
        rw [List.all_cons, List.all_cons, List.all_cons, ih fun q hq => h q (List.mem_cons_of_mem _ hq), colOf_snoc, keptB_snoc _ (hw.rs _ (h q (List.mem_cons_self ..))).most.1]
        cases keptB q.1 (colOf ps q.2) <;> cases okNext q.1 (colOf ps q.2).reverse (row[q.2]?.getD 0) <;> simp
    refine this _ fun q hq => ?_
    obtain ⟨a, i⟩ := q
    have h1 := List.mem_zipIdx hq
    rw [show ((a, i).1 : Rule) = a from rfl, h1.2.2]
    exact List.getElem_mem _
  rw [e1, e2]
  simp only [Nat.zero_add, List.zipIdx_singleton, List.all_cons, List.all_nil, Bool.and_true]
  cases (ps.zipIdx.all fun q => meetsB (needOn w q.2) q.1) <;> cases meetsB (needOn w ps.length) row <;> cases (w.rules.zipIdx.all fun q => keptB q.1 (colOf ps q.2)) <;> simp
theorem allKept_nil (w : Wd) (hw : Wok w) : allKept w [] = true := by
  unfold allKept
  rw [Bool.and_eq_true]
  refine ⟨rfl, ?_⟩
  rw [List.all_eq_true]
  rintro ⟨a, i⟩ hq
  have h1 := List.mem_zipIdx hq
  have ha : a ∈ w.rules := by rw [h1.2.2]; exact List.getElem_mem _
  exact keptB_nil a (hw.rs a ha).most.1
theorem stands_snoc (w : Wd) (hw : Wok w) (ps : List (List Int)) (row : List Int) (hr : row.length = w.rules.length) :
    ((w.rules.zip ((standsOf w ps).zip row)).map fun q => standB q.1 q.2.1 q.2.2) = standsOf w (ps ++ [row]) := by
  have hsl : (standsOf w ps).length = w.rules.length := by simp [standsOf]
  refine List.ext_getElem (by simp [standsOf, hr]) fun i h1 h2 => ?_
  have hi : i < w.rules.length := by simpa [standsOf] using h2
  have hrr : (hw.rs _ (List.getElem_mem hi)) = hw.rs _ (List.getElem_mem hi) := rfl
  simp only [List.getElem_map, List.getElem_zip, standsOf, List.getElem_zipIdx, Nat.zero_add]
  rw [colOf_snoc, List.reverse_append, List.reverse_singleton, List.singleton_append, stC_cons _ _ _ (hw.rs _ (List.getElem_mem hi)).least.1]
  rw [List.getElem?_eq_getElem (by omega)]
  rfl
theorem rows_eq (w : Wd) (hw : Wok w) (ps : List (List Int)) : rowsOf (w.rules.zip (standsOf w ps)) = (prodF (w.rules.map fun _ => allSh w.shifts)).filter (okRow (predsOf w ps)) := by
  have h := filter_prodF _ (w.rules.zipIdx.map fun q => (allSh w.shifts, okNext q.1 (colOf ps q.2).reverse)) rfl
  rw [List.map_map, List.map_map, List.map_map] at h
  have e1 : (w.rules.zipIdx.map ((fun x : List Int × (Int → Bool) => x.1) ∘ fun q : Rule × Nat => (allSh w.shifts, okNext q.1 (colOf ps q.2).reverse))) = w.rules.map fun _ => allSh w.shifts := by
    refine List.ext_getElem (by simp) fun i h1 h2 => ?_
    simp
  have e2 : (w.rules.zipIdx.map ((fun x : List Int × (Int → Bool) => x.2) ∘ fun q : Rule × Nat => (allSh w.shifts, okNext q.1 (colOf ps q.2).reverse))) = predsOf w ps := rfl
  rw [e1, e2] at h
  rw [h, rowsOf_prodF]
  congr 1
  refine List.ext_getElem (by simp [standsOf]) fun i h1 h2 => ?_
  have hi : i < w.rules.length := by simpa using h2
  simp only [List.getElem_map, List.getElem_zip, standsOf, List.getElem_zipIdx, Nat.zero_add, Function.comp]
  exact (filter_allSh _ _ (hw.rs _ (List.getElem_mem hi)) hw.sh.1 _).symm
theorem walk_state (w : Wd) (hw : Wok w) : ∀ (n : Nat) (ps : List (List Int)), ps.length = n → WalkOk w (begin1 w) ps → walkS w (begin1 w) ps = ⟨ps.length % w.needs.length, standsOf w ps⟩ ∧ allKept w ps = true
  | 0, ps, h, _ => by
    have : ps = [] := List.length_eq_zero_iff.mp h
    subst this
    refine ⟨?_, allKept_nil w hw⟩
    show begin1 w = _
    unfold begin1 standsOf
    congr 1
    refine List.ext_getElem (by simp) fun i h1 h2 => ?_
    simp [colOf, stC, fw]
  | n + 1, ps, h, hk => by
    have hne : ps ≠ [] := fun z => by rw [z] at h; cases h
    have e := List.dropLast_concat_getLast hne
    have hl : ps.dropLast.length = n := by rw [List.length_dropLast, h]; rfl
    have ih := walk_state w hw n ps.dropLast hl
    generalize ps.dropLast = qs at e ih hl
    generalize ps.getLast hne = row at e
    rw [← e, walkOk_append] at hk
    obtain ⟨hk1, hk2⟩ := hk
    obtain ⟨i1, i2⟩ := ih hk1
    have hs := walk_ok hw _ _ (begin_ok hw) hk1
    have hmem : row ∈ plansAt w (walkS w (begin1 w) qs) := hk2.1
    have hrl := plansAt_len hs hmem
    rw [← e]
    constructor
    · show List.foldl (behind1 w) (begin1 w) (qs ++ [row]) = _
      rw [List.foldl_append]
      show behind1 w (walkS w (begin1 w) qs) row = _
      rw [i1]
      unfold behind1
      rw [stands_snoc w hw qs row hrl]
      congr 1
      rw [List.length_append, List.length_singleton]
      simp
    · rw [allKept_snoc w hw qs row hrl, i2, Bool.true_and]
      rw [i1] at hmem
      obtain ⟨m1, m2⟩ := List.mem_filter.mp hmem
      have e2 : meetsB (needOn w qs.length) row = true := m2
      rw [e2, Bool.true_and]
      have m3 : row ∈ rowsOf (w.rules.zip (standsOf w qs)) := m1
      rw [rows_eq w hw] at m3
      exact (List.mem_filter.mp m3).2
theorem plans_law (w : Wd) (hw : Wok w) (ps : List (List Int)) (hk : WalkOk w (begin1 w) ps) : plansAt w (walkS w (begin1 w) ps) = (prodF (w.rules.map fun _ => allSh w.shifts)).filter fun row => allKept w (ps ++ [row]) := by
  obtain ⟨h1, h2⟩ := walk_state w hw _ ps rfl hk
  rw [h1]
  show (rowsOf (w.rules.zip (standsOf w ps))).filter (fun p => meetsB (needOn w ps.length) p) = _
  rw [rows_eq w hw, List.filter_filter]
  refine List.filter_congr fun row hrow => ?_
  have hrl := prodF_len w.rules.length _ (by simp) row hrow
  rw [allKept_snoc w hw ps row hrl, h2, Bool.true_and]
theorem pok_of (w : Wd) (hw : Wok w) (ps : List (List Int)) (hk : WalkOk w (begin1 w) ps) (p : List Int) (h : p ∈ plansAt w (walkS w (begin1 w) ps)) : Pok w p := by
  refine ⟨plansAt_len (walk_ok hw _ _ (begin_ok hw) hk) h, ?_⟩
  rw [plans_law w hw ps hk] at h
  have h1 := (List.mem_filter.mp h).1
  have key : ∀ (n : Nat) (ls : List (List Int)), ls.length = n → (∀ l ∈ ls, ∀ s ∈ l, 0 ≤ s ∧ s ≤ w.shifts) → ∀ row ∈ prodF ls, ∀ s ∈ row, 0 ≤ s ∧ s ≤ w.shifts := by
    intro n
    induction n with
    | zero =>
      intro ls h _ row hr
      have : ls = [] := List.length_eq_zero_iff.mp h
      subst this
      simp [prodF] at hr
      simp [hr]
    | succ n ih =>
      intro ls h hs row hr
      have hne : ls ≠ [] := fun z => by rw [z] at h; cases h
      have e := List.dropLast_concat_getLast hne
      rw [← e, prodF_snoc] at hr
      obtain ⟨r0, h0, h1⟩ := List.mem_flatMap.mp hr
      obtain ⟨s, hs1, rfl⟩ := List.mem_map.mp h1
      have ih1 := ih ls.dropLast (by rw [List.length_dropLast, h]; rfl) (fun l hl => hs l ((List.dropLast_sublist ls).subset hl)) r0 h0
      intro x hx
      rcases List.mem_append.mp hx with q | q
      · exact ih1 x q
      · have : x = s := by simpa using q
        rw [this]
        exact hs _ (List.getLast_mem hne) s hs1
  exact key _ _ rfl (fun l hl s hs => by
    obtain ⟨_, _, rfl⟩ := List.mem_map.mp hl
    exact (mem_allSh _ _).mp hs) p h1
end K3

set_option Elab.async false
set_option linter.all false
set_option maxRecDepth 100000
set_option maxHeartbeats 1000000
namespace K3
open PySem J
open L2 (kitB atI CMul)
theorem allSh_len (sh : Int) (h : sh ≤ 3) : (allSh sh).length ≤ 4 := by
  simp [allSh]
  omega
theorem prodF_count (k : Nat) : ∀ (n : Nat) (ls : List (List Int)), ls.length = n → (∀ l ∈ ls, l.length ≤ k) → (prodF ls).length ≤ k ^ n
  | 0, ls, h, _ => by
    have : ls = [] := List.length_eq_zero_iff.mp h
    subst this
    simp [prodF]
  | n + 1, ls, h, hs => by
    have hne : ls ≠ [] := fun z => by rw [z] at h; cases h
    have e := List.dropLast_concat_getLast hne
    rw [← e, prodF_snoc]
    have ih := prodF_count k n ls.dropLast (by rw [List.length_dropLast, h]; rfl) fun q hq => hs q ((List.dropLast_sublist ls).subset hq)
    have h1 := flat_len (fun row => (ls.getLast hne).map fun s => row ++ [s]) k (prodF ls.dropLast) fun x _ => by
      rw [List.length_map]
      exact hs _ (List.getLast_mem hne)
    rw [Nat.pow_succ, Nat.mul_comm]
    exact Nat.le_trans h1 (Nat.mul_le_mul (Nat.le_refl _) ih)
def S_law : FS := fun ds M r M' => ∃ sc : List Int, ds = [.scr sc] ∧ r = .ok (.bl true) ∧ M' = M
theorem t_law (sc : List Int) (M : Mem) (P : Po) (h : ∀ M1, List.Sublist M M1 → P.rt (.bl true) M1) :
    b_law S__law_world S_next_plans S__law_draw S__law_all_kept S__law_pick S_state_behind [some (.scr sc), none, none, none, none, none, none, none, none, none, none] M P := by
  simp only [b_law, eVar, eInt, eBl, eNon, eStr, eB, aNil, aCons, eTup, eLst, eBin, bCmp, oAdd, oSub, oMul, oMod, oFdiv, oLt, oLe, oGt, oGe, oEq_int, oNe_int, bChain, bNot, bVal, bAnd, bOr, bIsN, bNotN, eIfx, eIx, oNone, oSome, eSl, eCall, eCall0, eBlt, fLen, fTuple, fList, fInt, fMin, fMax, bIsi, gNm, gTup, gNil, gCons, iSeq, iRng, iRng2, sNil, sSeq, sPass, sDead, sExpr, sRet, sAsg, sIf, okQ_ok, okQ_exc, to_ok, to_exc, ci1, ci2, ci3, ci4, sl0, sl1, sl2, sl3, sl4, sn1, sn2, sn3, sn4, lk_P, lk_S, lk_W, lk_R, lk_N, lk_pr, lk_int, lk_bl, lk_non, lk_str, lk_tup, lk_lst, lk_scr, not_false_eq_true, true_implies, decide_true, decide_false, not_true_eq_false, Bool.false_and, Bool.true_and, Bool.and_true, Bool.and_false, List.set_cons_zero, List.set_cons_succ, List.getElem?_cons_zero, List.getElem?_cons_succ, wipeT, List.length_cons, List.length_nil, List.length_map, List.map_cons, List.map_nil, D.ty, kb1, kb2, kb3, kb4, kb5, kb6, kb7, kb8, kb9, atI_0, atI_1, atI_2, atI_3, true_and, and_true, or_false, false_or, or_true, true_or, false_and, and_false, or_self, and_self, Bool.not_true, Bool.not_false, Bool.not_not, reduceCtorEq, false_implies, forall_const, implies_true, decide_eq_true_eq, decide_eq_false_iff_not, Bool.and_eq_true, Bool.and_eq_false_iff, Bool.not_eq_true, Bool.not_eq_eq_eq_not, Bool.true_eq_false, Bool.false_eq_true, Option.map_some, Option.some.injEq, exists_eq_left, exists_eq_left', sNew, sFor]
  intro l hl
  rw [Tn_new hl]
  have hl0 : l ∈ ((l, D.lst []) :: M).map (·.1) := by simp
  generalize hM0 : (l, D.lst []) :: M = M0 at hl0
  have hend : ∀ M1 n, List.Sublist M0 M1 → P.rt (.bl true) (Tn l M1 n) := fun M1 n hs => by
    refine h _ (List.Sublist.trans ?_ (Tn_sub hs))
    rw [← hM0]
    unfold Tn
    rw [put_cons_eq hl]
    exact List.sublist_cons_self _ _
  clear hM0 h
  refine ⟨_, _, ⟨sc, l, M0, 0, 4, 4, rfl, ⟨by decide, by decide, hl0, by decide⟩, rfl, rfl, rfl⟩, ?_⟩
  have hw := world_ok sc 4 4 0 (by decide) (by decide)
  have hwn := world_le sc 4 4 0 (by decide)
  generalize worldOf sc 4 4 0 = wn at hw hwn ⊢
  obtain ⟨w, n0⟩ := wn
  simp only at hw hwn
  simp only [eVar, eInt, eBl, eNon, eStr, eB, aNil, aCons, eTup, eLst, eBin, bCmp, oAdd, oSub, oMul, oMod, oFdiv, oLt, oLe, oGt, oGe, oEq_int, oNe_int, bChain, bNot, bVal, bAnd, bOr, bIsN, bNotN, eIfx, eIx, oNone, oSome, eSl, eCall, eCall0, eBlt, fLen, fTuple, fList, fInt, fMin, fMax, bIsi, gNm, gTup, gNil, gCons, iSeq, iRng, iRng2, sNil, sSeq, sPass, sDead, sExpr, sRet, sAsg, sIf, okQ_ok, okQ_exc, to_ok, to_exc, ci1, ci2, ci3, ci4, sl0, sl1, sl2, sl3, sl4, sn1, sn2, sn3, sn4, lk_P, lk_S, lk_W, lk_R, lk_N, lk_pr, lk_int, lk_bl, lk_non, lk_str, lk_tup, lk_lst, lk_scr, not_false_eq_true, true_implies, decide_true, decide_false, not_true_eq_false, Bool.false_and, Bool.true_and, Bool.and_true, Bool.and_false, List.set_cons_zero, List.set_cons_succ, List.getElem?_cons_zero, List.getElem?_cons_succ, wipeT, List.length_cons, List.length_nil, List.length_map, List.map_cons, List.map_nil, D.ty, kb1, kb2, kb3, kb4, kb5, kb6, kb7, kb8, kb9, atI_0, atI_1, atI_2, atI_3, true_and, and_true, or_false, false_or, or_true, true_or, false_and, and_false, or_self, and_self, Bool.not_true, Bool.not_false, Bool.not_not, reduceCtorEq, false_implies, forall_const, implies_true, decide_eq_true_eq, decide_eq_false_iff_not, Bool.and_eq_true, Bool.and_eq_false_iff, Bool.not_eq_true, Bool.not_eq_eq_eq_not, Bool.true_eq_false, Bool.false_eq_true, Option.map_some, Option.some.injEq, exists_eq_left, exists_eq_left']
  intro l3 hl3
  rw [Tn_keys] at hl3
  have hne : l3 ≠ l := fun z => hl3 (z ▸ hl0)
  rw [Tn_cons' hne]
  have hm21 := mixed_lt sc (n0 + 1) (many := 21) (by decide)
  refine cl_draw (by decide) (by simp [hl0]) (by omega) ?_
  simp only [eVar, eInt, eBl, eNon, eStr, eB, aNil, aCons, eTup, eLst, eBin, bCmp, oAdd, oSub, oMul, oMod, oFdiv, oLt, oLe, oGt, oGe, oEq_int, oNe_int, bChain, bNot, bVal, bAnd, bOr, bIsN, bNotN, eIfx, eIx, oNone, oSome, eSl, eCall, eCall0, eBlt, fLen, fTuple, fList, fInt, fMin, fMax, bIsi, gNm, gTup, gNil, gCons, iSeq, iRng, iRng2, sNil, sSeq, sPass, sDead, sExpr, sRet, sAsg, sIf, okQ_ok, okQ_exc, to_ok, to_exc, ci1, ci2, ci3, ci4, sl0, sl1, sl2, sl3, sl4, sn1, sn2, sn3, sn4, lk_P, lk_S, lk_W, lk_R, lk_N, lk_pr, lk_int, lk_bl, lk_non, lk_str, lk_tup, lk_lst, lk_scr, not_false_eq_true, true_implies, decide_true, decide_false, not_true_eq_false, Bool.false_and, Bool.true_and, Bool.and_true, Bool.and_false, List.set_cons_zero, List.set_cons_succ, List.getElem?_cons_zero, List.getElem?_cons_succ, wipeT, List.length_cons, List.length_nil, List.length_map, List.map_cons, List.map_nil, D.ty, kb1, kb2, kb3, kb4, kb5, kb6, kb7, kb8, kb9, atI_0, atI_1, atI_2, atI_3, true_and, and_true, or_false, false_or, or_true, true_or, false_and, and_false, or_self, and_self, Bool.not_true, Bool.not_false, Bool.not_not, reduceCtorEq, false_implies, forall_const, implies_true, decide_eq_true_eq, decide_eq_false_iff_not, Bool.and_eq_true, Bool.and_eq_false_iff, Bool.not_eq_true, Bool.not_eq_eq_eq_not, Bool.true_eq_false, Bool.false_eq_true, Option.map_some, Option.some.injEq, exists_eq_left, exists_eq_left']
  refine ⟨⟨by omega, by omega⟩, ?_⟩
  rw [rngD_map]
  have e0 : ∀ (ns : List (List Int)) (K : Bool → Prop), oNe (.lst (ns.map encP)) (.lst []) K ↔ K (!decide (ns = [])) := fun ns K => oNe_en (n := 2) (en_lst en_plan) (by decide) ns []
  refine for_pre (fun pre T M' => ∃ a b ps M1 n, T = [some (.scr sc), some (.cell l), some (encW w), some (.cell l3), a, b, none, none, none, none, none] ∧ M' = Tn l M1 n ∧ List.Sublist M0 M1 ∧ l ∈ M1.map (·.1) ∧ M1.lookup l3 = some (.lst (ps.map encP)) ∧ WalkOk w (begin1 w) ps ∧ (∀ p ∈ ps, Pok w p) ∧ ps.length ≤ pre.length ∧ n ≤ 200 + pre.length) _ ?_ ?_ ⟨_, _, [], _, _, rfl, rfl, List.sublist_cons_self _ _, by simp [hl0], lookup_cons_eq, trivial, by simp, by simp, by simp; omega⟩
  · rintro pre i post hx T M' N ⟨a, b, ps, M1, n, rfl, rfl, hs1, hl1, hk1, hwk, hpk, hpl, hn⟩ hN
    have hpre : pre.length ≤ 20 := by
      have := congrArg List.length hx
      simp only [List.length_range, List.length_append, List.length_cons] at this
      omega
    have hsrc : ∀ m, Src (Tn l M1 m) (.cell l3) (ps.map encP) := fun m => .inr ⟨l3, rfl, by rw [Tn_look hne]; exact hk1⟩
    refine ⟨trivial, ?_⟩
    simp only [eVar, eInt, eBl, eNon, eStr, eB, aNil, aCons, eTup, eLst, eBin, bCmp, oAdd, oSub, oMul, oMod, oFdiv, oLt, oLe, oGt, oGe, oEq_int, oNe_int, bChain, bNot, bVal, bAnd, bOr, bIsN, bNotN, eIfx, eIx, oNone, oSome, eSl, eCall, eCall0, eBlt, fLen, fTuple, fList, fInt, fMin, fMax, bIsi, gNm, gTup, gNil, gCons, iSeq, iRng, iRng2, sNil, sSeq, sPass, sDead, sExpr, sRet, sAsg, sIf, okQ_ok, okQ_exc, to_ok, to_exc, ci1, ci2, ci3, ci4, sl0, sl1, sl2, sl3, sl4, sn1, sn2, sn3, sn4, lk_P, lk_S, lk_W, lk_R, lk_N, lk_pr, lk_int, lk_bl, lk_non, lk_str, lk_tup, lk_lst, lk_scr, not_false_eq_true, true_implies, decide_true, decide_false, not_true_eq_false, Bool.false_and, Bool.true_and, Bool.and_true, Bool.and_false, List.set_cons_zero, List.set_cons_succ, List.getElem?_cons_zero, List.getElem?_cons_succ, wipeT, List.length_cons, List.length_nil, List.length_map, List.map_cons, List.map_nil, D.ty, kb1, kb2, kb3, kb4, kb5, kb6, kb7, kb8, kb9, atI_0, atI_1, atI_2, atI_3, true_and, and_true, or_false, false_or, or_true, true_or, false_and, and_false, or_self, and_self, Bool.not_true, Bool.not_false, Bool.not_not, reduceCtorEq, false_implies, forall_const, implies_true, decide_eq_true_eq, decide_eq_false_iff_not, Bool.and_eq_true, Bool.and_eq_false_iff, Bool.not_eq_true, Bool.not_eq_eq_eq_not, Bool.true_eq_false, Bool.false_eq_true, Option.map_some, Option.some.injEq, exists_eq_left, exists_eq_left']
    refine ⟨_, _, ⟨w, _, ps, rfl, ⟨hw, hpk, by omega, hwk, hsrc n⟩, rfl, rfl⟩, ?_⟩
    simp only [eVar, eInt, eBl, eNon, eStr, eB, aNil, aCons, eTup, eLst, eBin, bCmp, oAdd, oSub, oMul, oMod, oFdiv, oLt, oLe, oGt, oGe, oEq_int, oNe_int, bChain, bNot, bVal, bAnd, bOr, bIsN, bNotN, eIfx, eIx, oNone, oSome, eSl, eCall, eCall0, eBlt, fLen, fTuple, fList, fInt, fMin, fMax, bIsi, gNm, gTup, gNil, gCons, iSeq, iRng, iRng2, sNil, sSeq, sPass, sDead, sExpr, sRet, sAsg, sIf, okQ_ok, okQ_exc, to_ok, to_exc, ci1, ci2, ci3, ci4, sl0, sl1, sl2, sl3, sl4, sn1, sn2, sn3, sn4, lk_P, lk_S, lk_W, lk_R, lk_N, lk_pr, lk_int, lk_bl, lk_non, lk_str, lk_tup, lk_lst, lk_scr, not_false_eq_true, true_implies, decide_true, decide_false, not_true_eq_false, Bool.false_and, Bool.true_and, Bool.and_true, Bool.and_false, List.set_cons_zero, List.set_cons_succ, List.getElem?_cons_zero, List.getElem?_cons_succ, wipeT, List.length_cons, List.length_nil, List.length_map, List.map_cons, List.map_nil, D.ty, kb1, kb2, kb3, kb4, kb5, kb6, kb7, kb8, kb9, atI_0, atI_1, atI_2, atI_3, true_and, and_true, or_false, false_or, or_true, true_or, false_and, and_false, or_self, and_self, Bool.not_true, Bool.not_false, Bool.not_not, reduceCtorEq, false_implies, forall_const, implies_true, decide_eq_true_eq, decide_eq_false_iff_not, Bool.and_eq_true, Bool.and_eq_false_iff, Bool.not_eq_true, Bool.not_eq_eq_eq_not, Bool.true_eq_false, Bool.false_eq_true, Option.map_some, Option.some.injEq, exists_eq_left, exists_eq_left', e0]
    refine ⟨fun z => ?_, fun z => ?_⟩
    · have hpos : 0 < ((plansAt w (walkS w (begin1 w) ps)).map encP).length := by
        rw [List.length_map]
        exact List.length_pos_iff.mpr z
      have hpi := pickIx_lt sc n hpos
      simp only [sApp, eVar, eInt, eBl, eNon, eStr, eB, aNil, aCons, eTup, eLst, eBin, bCmp, oAdd, oSub, oMul, oMod, oFdiv, oLt, oLe, oGt, oGe, oEq_int, oNe_int, bChain, bNot, bVal, bAnd, bOr, bIsN, bNotN, eIfx, eIx, oNone, oSome, eSl, eCall, eCall0, eBlt, fLen, fTuple, fList, fInt, fMin, fMax, bIsi, gNm, gTup, gNil, gCons, iSeq, iRng, iRng2, sNil, sSeq, sPass, sDead, sExpr, sRet, sAsg, sIf, okQ_ok, okQ_exc, to_ok, to_exc, ci1, ci2, ci3, ci4, sl0, sl1, sl2, sl3, sl4, sn1, sn2, sn3, sn4, lk_P, lk_S, lk_W, lk_R, lk_N, lk_pr, lk_int, lk_bl, lk_non, lk_str, lk_tup, lk_lst, lk_scr, not_false_eq_true, true_implies, decide_true, decide_false, not_true_eq_false, Bool.false_and, Bool.true_and, Bool.and_true, Bool.and_false, List.set_cons_zero, List.set_cons_succ, List.getElem?_cons_zero, List.getElem?_cons_succ, wipeT, List.length_cons, List.length_nil, List.length_map, List.map_cons, List.map_nil, D.ty, kb1, kb2, kb3, kb4, kb5, kb6, kb7, kb8, kb9, atI_0, atI_1, atI_2, atI_3, true_and, and_true, or_false, false_or, or_true, true_or, false_and, and_false, or_self, and_self, Bool.not_true, Bool.not_false, Bool.not_not, reduceCtorEq, false_implies, forall_const, implies_true, decide_eq_true_eq, decide_eq_false_iff_not, Bool.and_eq_true, Bool.and_eq_false_iff, Bool.not_eq_true, Bool.not_eq_eq_eq_not, Bool.true_eq_false, Bool.false_eq_true, Option.map_some, Option.some.injEq, exists_eq_left, exists_eq_left', Tn_look hne, hk1]
      have hget : ((plansAt w (walkS w (begin1 w) ps)).map encP)[pickIx sc n ((plansAt w (walkS w (begin1 w) ps)).map encP).length]? = some (encP ((plansAt w (walkS w (begin1 w) ps))[pickIx sc n ((plansAt w (walkS w (begin1 w) ps)).map encP).length]'(by simpa using hpi))) := by
        rw [List.getElem?_map, List.getElem?_eq_getElem (by simpa using hpi)]
        rfl
      refine cl_pick hl1 (by omega) hpos hget ?_
      have hmem : (plansAt w (walkS w (begin1 w) ps))[pickIx sc n ((plansAt w (walkS w (begin1 w) ps)).map encP).length]'(by simpa using hpi) ∈ plansAt w (walkS w (begin1 w) ps) := List.getElem_mem _
      generalize (plansAt w (walkS w (begin1 w) ps))[pickIx sc n ((plansAt w (walkS w (begin1 w) ps)).map encP).length]'(by simpa using hpi) = p at hmem ⊢
      simp only [eVar, eInt, eBl, eNon, eStr, eB, aNil, aCons, eTup, eLst, eBin, bCmp, oAdd, oSub, oMul, oMod, oFdiv, oLt, oLe, oGt, oGe, oEq_int, oNe_int, bChain, bNot, bVal, bAnd, bOr, bIsN, bNotN, eIfx, eIx, oNone, oSome, eSl, eCall, eCall0, eBlt, fLen, fTuple, fList, fInt, fMin, fMax, bIsi, gNm, gTup, gNil, gCons, iSeq, iRng, iRng2, sNil, sSeq, sPass, sDead, sExpr, sRet, sAsg, sIf, okQ_ok, okQ_exc, to_ok, to_exc, ci1, ci2, ci3, ci4, sl0, sl1, sl2, sl3, sl4, sn1, sn2, sn3, sn4, lk_P, lk_S, lk_W, lk_R, lk_N, lk_pr, lk_int, lk_bl, lk_non, lk_str, lk_tup, lk_lst, lk_scr, not_false_eq_true, true_implies, decide_true, decide_false, not_true_eq_false, Bool.false_and, Bool.true_and, Bool.and_true, Bool.and_false, List.set_cons_zero, List.set_cons_succ, List.getElem?_cons_zero, List.getElem?_cons_succ, wipeT, List.length_cons, List.length_nil, List.length_map, List.map_cons, List.map_nil, D.ty, kb1, kb2, kb3, kb4, kb5, kb6, kb7, kb8, kb9, atI_0, atI_1, atI_2, atI_3, true_and, and_true, or_false, false_or, or_true, true_or, false_and, and_false, or_self, and_self, Bool.not_true, Bool.not_false, Bool.not_not, reduceCtorEq, false_implies, forall_const, implies_true, decide_eq_true_eq, decide_eq_false_iff_not, Bool.and_eq_true, Bool.and_eq_false_iff, Bool.not_eq_true, Bool.not_eq_eq_eq_not, Bool.true_eq_false, Bool.false_eq_true, Option.map_some, Option.some.injEq, exists_eq_left, exists_eq_left', Tn_look hne, hk1]
      refine ⟨szl _ (by omega), ?_⟩
      rw [Tn_put' hne]
      refine hN _ _ ⟨_, _, ps ++ [p], _, _, rfl, rfl, sub_put hl3 hs1, by rw [put_keys]; exact hl1, ?_, ?_, ?_, ?_, ?_⟩
      · rw [put_lookup hk1]
        simp
      · rw [walkOk_append]
        exact ⟨hwk, hmem, trivial⟩
      · intro q hq
        rcases List.mem_append.mp hq with hq | hq
        · exact hpk q hq
        · have : q = p := by simpa using hq
          rw [this]
          exact pok_of w hw ps hwk p hmem
      · simp only [List.length_append, List.length_singleton]
        omega
      · simp only [List.length_append, List.length_singleton]
        omega
    · refine hN _ _ ⟨_, _, ps, _, _, rfl, rfl, hs1, hl1, hk1, hwk, hpk, ?_, ?_⟩
      · simp only [List.length_append, List.length_singleton]
        omega
      · simp only [List.length_append, List.length_singleton]
        omega
  · rintro T M' ⟨a, b, ps, M1, n, rfl, rfl, hs1, hl1, hk1, hwk, hpk, hpl, hn⟩
    rw [List.length_range] at hpl hn
    have hpl : ps.length ≤ 20 := by omega
    have hsrc : ∀ m, Src (Tn l M1 m) (.cell l3) (ps.map encP) := fun m => .inr ⟨l3, rfl, by rw [Tn_look hne]; exact hk1⟩
    obtain ⟨hst, hall⟩ := walk_state w hw _ ps rfl hwk
    refine ⟨trivial, ?_⟩
    simp only [eVar, eInt, eBl, eNon, eStr, eB, aNil, aCons, eTup, eLst, eBin, bCmp, oAdd, oSub, oMul, oMod, oFdiv, oLt, oLe, oGt, oGe, oEq_int, oNe_int, bChain, bNot, bVal, bAnd, bOr, bIsN, bNotN, eIfx, eIx, oNone, oSome, eSl, eCall, eCall0, eBlt, fLen, fTuple, fList, fInt, fMin, fMax, bIsi, gNm, gTup, gNil, gCons, iRng, iRng2, sNil, sSeq, sPass, sDead, sExpr, sRet, sAsg, sIf, okQ_ok, okQ_exc, to_ok, to_exc, ci1, ci2, ci3, ci4, sl0, sl1, sl2, sl3, sl4, sn1, sn2, sn3, sn4, lk_P, lk_S, lk_W, lk_R, lk_N, lk_pr, lk_int, lk_bl, lk_non, lk_str, lk_tup, lk_lst, lk_scr, not_false_eq_true, true_implies, decide_true, decide_false, not_true_eq_false, Bool.false_and, Bool.true_and, Bool.and_true, Bool.and_false, List.set_cons_zero, List.set_cons_succ, List.getElem?_cons_zero, List.getElem?_cons_succ, wipeT, List.length_cons, List.length_nil, List.length_map, List.map_cons, List.map_nil, D.ty, kb1, kb2, kb3, kb4, kb5, kb6, kb7, kb8, kb9, atI_0, atI_1, atI_2, atI_3, true_and, and_true, or_false, false_or, or_true, true_or, false_and, and_false, or_self, and_self, Bool.not_true, Bool.not_false, Bool.not_not, reduceCtorEq, false_implies, forall_const, implies_true, decide_eq_true_eq, decide_eq_false_iff_not, Bool.and_eq_true, Bool.and_eq_false_iff, Bool.not_eq_true, Bool.not_eq_eq_eq_not, Bool.true_eq_false, Bool.false_eq_true, Option.map_some, Option.some.injEq, exists_eq_left, exists_eq_left']
    refine ⟨_, _, ⟨w, _, ps, rfl, ⟨hw, fun p hp => (hpk p hp).len, by omega, hsrc n⟩, rfl, rfl⟩, ?_⟩
    simp only [eVar, eInt, eBl, eNon, eStr, eB, aNil, aCons, eTup, eLst, eBin, bCmp, oAdd, oSub, oMul, oMod, oFdiv, oLt, oLe, oGt, oGe, oEq_int, oNe_int, bChain, bNot, bVal, bAnd, bOr, bIsN, bNotN, eIfx, eIx, oNone, oSome, eSl, eCall, eCall0, eBlt, fLen, fTuple, fList, fInt, fMin, fMax, bIsi, gNm, gTup, gNil, gCons, iRng, iRng2, sNil, sSeq, sPass, sDead, sExpr, sRet, sAsg, sIf, okQ_ok, okQ_exc, to_ok, to_exc, ci1, ci2, ci3, ci4, sl0, sl1, sl2, sl3, sl4, sn1, sn2, sn3, sn4, lk_P, lk_S, lk_W, lk_R, lk_N, lk_pr, lk_int, lk_bl, lk_non, lk_str, lk_tup, lk_lst, lk_scr, not_false_eq_true, true_implies, decide_true, decide_false, not_true_eq_false, Bool.false_and, Bool.true_and, Bool.and_true, Bool.and_false, List.set_cons_zero, List.set_cons_succ, List.getElem?_cons_zero, List.getElem?_cons_succ, wipeT, List.length_cons, List.length_nil, List.length_map, List.map_cons, List.map_nil, D.ty, kb1, kb2, kb3, kb4, kb5, kb6, kb7, kb8, kb9, atI_0, atI_1, atI_2, atI_3, true_and, and_true, or_false, false_or, or_true, true_or, false_and, and_false, or_self, and_self, Bool.not_true, Bool.not_false, Bool.not_not, reduceCtorEq, false_implies, forall_const, implies_true, decide_eq_true_eq, decide_eq_false_iff_not, Bool.and_eq_true, Bool.and_eq_false_iff, Bool.not_eq_true, Bool.not_eq_eq_eq_not, Bool.true_eq_false, Bool.false_eq_true, Option.map_some, Option.some.injEq, exists_eq_left, exists_eq_left', hall]
    refine ⟨_, _, ⟨w, _, ps, rfl, ⟨hw, hpk, by omega, hwk, hsrc n⟩, rfl, rfl⟩, ?_⟩
    have hsl : (walkS w (begin1 w) ps).stands.length = w.rules.length := (walk_ok hw _ _ (begin_ok hw) hwk).len
    simp only [encS, encW, eVar, eInt, eBl, eNon, eStr, eB, aNil, aCons, eTup, eLst, eBin, bCmp, oAdd, oSub, oMul, oMod, oFdiv, oLt, oLe, oGt, oGe, oEq_int, oNe_int, bChain, bNot, bVal, bAnd, bOr, bIsN, bNotN, eIfx, eIx, oNone, oSome, eSl, eCall, eCall0, eBlt, fLen, fTuple, fList, fInt, fMin, fMax, bIsi, gNm, gTup, gNil, gCons, iRng, iRng2, sNil, sSeq, sPass, sDead, sExpr, sRet, sAsg, sIf, okQ_ok, okQ_exc, to_ok, to_exc, ci1, ci2, ci3, ci4, sl0, sl1, sl2, sl3, sl4, sn1, sn2, sn3, sn4, lk_P, lk_S, lk_W, lk_R, lk_N, lk_pr, lk_int, lk_bl, lk_non, lk_str, lk_tup, lk_lst, lk_scr, not_false_eq_true, true_implies, decide_true, decide_false, not_true_eq_false, Bool.false_and, Bool.true_and, Bool.and_true, Bool.and_false, List.set_cons_zero, List.set_cons_succ, List.getElem?_cons_zero, List.getElem?_cons_succ, wipeT, List.length_cons, List.length_nil, List.length_map, List.map_cons, List.map_nil, D.ty, kb1, kb2, kb3, kb4, kb5, kb6, kb7, kb8, kb9, atI_0, atI_1, atI_2, atI_3, true_and, and_true, or_false, false_or, or_true, true_or, false_and, and_false, or_self, and_self, Bool.not_true, Bool.not_false, Bool.not_not, reduceCtorEq, false_implies, forall_const, implies_true, decide_eq_true_eq, decide_eq_false_iff_not, Bool.and_eq_true, Bool.and_eq_false_iff, Bool.not_eq_true, Bool.not_eq_eq_eq_not, Bool.true_eq_false, Bool.false_eq_true, Option.map_some, Option.some.injEq, exists_eq_left, exists_eq_left', hsl]
    rw [show D.tup [.int w.shifts, .tup (w.rules.map encR), .tup (w.needs.map encN)] = encW w from rfl]
    refine ⟨_, _, ⟨w, _, ps, rfl, ⟨hw, hpk, by omega, hwk, hsrc n⟩, rfl, rfl⟩, ?_⟩
    generalize hpa : plansAt w (walkS w (begin1 w) ps) = pa
    have e1 : ∀ T M Q, iSeq (eIx (eVar 2) (eInt 1)) (some (.scr sc) :: some (.cell l) :: some (encW w) :: T) M Q ↔ Q (w.rules.map encR) (fun _ => True) M := fun T M Q => by simp only [eVar, eInt, eBl, eNon, eStr, eB, aNil, aCons, eTup, eLst, eBin, bCmp, oAdd, oSub, oMul, oMod, oFdiv, oLt, oLe, oGt, oGe, oEq_int, oNe_int, bChain, bNot, bVal, bAnd, bOr, bIsN, bNotN, eIfx, eIx, oNone, oSome, eSl, eCall, eCall0, eBlt, fLen, fTuple, fList, fInt, fMin, fMax, bIsi, gNm, gTup, gNil, gCons, iSeq, iRng, iRng2, sNil, sSeq, sPass, sDead, sExpr, sRet, sAsg, sIf, okQ_ok, okQ_exc, to_ok, to_exc, ci1, ci2, ci3, ci4, sl0, sl1, sl2, sl3, sl4, sn1, sn2, sn3, sn4, lk_P, lk_S, lk_W, lk_R, lk_N, lk_pr, lk_int, lk_bl, lk_non, lk_str, lk_tup, lk_lst, lk_scr, not_false_eq_true, true_implies, decide_true, decide_false, not_true_eq_false, Bool.false_and, Bool.true_and, Bool.and_true, Bool.and_false, List.set_cons_zero, List.set_cons_succ, List.getElem?_cons_zero, List.getElem?_cons_succ, wipeT, List.length_cons, List.length_nil, List.length_map, List.map_cons, List.map_nil, D.ty, kb1, kb2, kb3, kb4, kb5, kb6, kb7, kb8, kb9, atI_0, atI_1, atI_2, atI_3, true_and, and_true, or_false, false_or, or_true, true_or, false_and, and_false, or_self, and_self, Bool.not_true, Bool.not_false, Bool.not_not, reduceCtorEq, false_implies, forall_const, implies_true, decide_eq_true_eq, decide_eq_false_iff_not, Bool.and_eq_true, Bool.and_eq_false_iff, Bool.not_eq_true, Bool.not_eq_eq_eq_not, Bool.true_eq_false, Bool.false_eq_true, Option.map_some, Option.some.injEq, exists_eq_left, exists_eq_left', encW]
    simp only [eVar, eInt, eBl, eNon, eStr, eB, aNil, aCons, eTup, eLst, eBin, bCmp, oAdd, oSub, oMul, oMod, oFdiv, oLt, oLe, oGt, oGe, oEq_int, oNe_int, bChain, bNot, bVal, bAnd, bOr, bIsN, bNotN, eIfx, eIx, oNone, oSome, eSl, eCall, eCall0, eBlt, fLen, fTuple, fList, fInt, fMin, fMax, bIsi, gNm, gTup, gNil, gCons, iRng, iRng2, sNil, sSeq, sPass, sDead, sExpr, sRet, sAsg, sIf, okQ_ok, okQ_exc, to_ok, to_exc, ci1, ci2, ci3, ci4, sl0, sl1, sl2, sl3, sl4, sn1, sn2, sn3, sn4, lk_P, lk_S, lk_W, lk_R, lk_N, lk_pr, lk_int, lk_bl, lk_non, lk_str, lk_tup, lk_lst, lk_scr, not_false_eq_true, true_implies, decide_true, decide_false, not_true_eq_false, Bool.false_and, Bool.true_and, Bool.and_true, Bool.and_false, List.set_cons_zero, List.set_cons_succ, List.getElem?_cons_zero, List.getElem?_cons_succ, wipeT, List.length_cons, List.length_nil, List.length_map, List.map_cons, List.map_nil, D.ty, kb1, kb2, kb3, kb4, kb5, kb6, kb7, kb8, kb9, atI_0, atI_1, atI_2, atI_3, true_and, and_true, or_false, false_or, or_true, true_or, false_and, and_false, or_self, and_self, Bool.not_true, Bool.not_false, Bool.not_not, reduceCtorEq, false_implies, forall_const, implies_true, decide_eq_true_eq, decide_eq_false_iff_not, Bool.and_eq_true, Bool.and_eq_false_iff, Bool.not_eq_true, Bool.not_eq_eq_eq_not, Bool.true_eq_false, Bool.false_eq_true, Option.map_some, Option.some.injEq, exists_eq_left, exists_eq_left', e1]
    refine for_pre (fun pre T M' => M' = Tn l M1 n ∧ ∃ c d e f, T = [some (.scr sc), some (.cell l), some (encW w), some (.cell l3), a, some (.lst (pa.map encP)), some (.lst ((prodF (pre.map fun _ => allSh w.shifts)).map encP)), c, d, e, f]) _ ?_ ?_ ⟨rfl, _, _, _, _, rfl⟩
    · rintro pre u post hx T M' N ⟨rfl, c, d, e, f, rfl⟩ hN
      have hpre : pre.length ≤ 4 := by
        have := congrArg List.length hx
        simp only [List.length_append, List.length_cons] at this
        have := hw.rl
        omega
      have hrl : (prodF (pre.map fun _ => allSh w.shifts)).length ≤ 256 := by
        have h1 := prodF_count 4 _ (pre.map fun _ => allSh w.shifts) rfl fun q hq => by
          obtain ⟨_, _, rfl⟩ := List.mem_map.mp hq
          exact allSh_len _ hw.sh.2
        rw [List.length_map] at h1
        have h2 : 4 ^ pre.length ≤ 4 ^ 4 := Nat.pow_le_pow_right (by decide) hpre
        omega
      refine ⟨trivial, ?_⟩
      simp only [eVar, eInt, eBl, eNon, eStr, eB, aNil, aCons, eTup, eLst, eBin, bCmp, oAdd, oSub, oMul, oMod, oFdiv, oLt, oLe, oGt, oGe, oEq_int, oNe_int, bChain, bNot, bVal, bAnd, bOr, bIsN, bNotN, eIfx, eIx, oNone, oSome, eSl, eCall, eCall0, eBlt, fLen, fTuple, fList, fInt, fMin, fMax, bIsi, gNm, gTup, gNil, gCons, iSeq, iRng, iRng2, sNil, sSeq, sPass, sDead, sExpr, sRet, sAsg, sIf, okQ_ok, okQ_exc, to_ok, to_exc, ci1, ci2, ci3, ci4, sl0, sl1, sl2, sl3, sl4, sn1, sn2, sn3, sn4, lk_P, lk_S, lk_W, lk_R, lk_N, lk_pr, lk_int, lk_bl, lk_non, lk_str, lk_tup, lk_lst, lk_scr, not_false_eq_true, true_implies, decide_true, decide_false, not_true_eq_false, Bool.false_and, Bool.true_and, Bool.and_true, Bool.and_false, List.set_cons_zero, List.set_cons_succ, List.getElem?_cons_zero, List.getElem?_cons_succ, wipeT, List.length_cons, List.length_nil, List.length_map, List.map_cons, List.map_nil, D.ty, kb1, kb2, kb3, kb4, kb5, kb6, kb7, kb8, kb9, atI_0, atI_1, atI_2, atI_3, true_and, and_true, or_false, false_or, or_true, true_or, false_and, and_false, or_self, and_self, Bool.not_true, Bool.not_false, Bool.not_not, reduceCtorEq, false_implies, forall_const, implies_true, decide_eq_true_eq, decide_eq_false_iff_not, Bool.and_eq_true, Bool.and_eq_false_iff, Bool.not_eq_true, Bool.not_eq_eq_eq_not, Bool.true_eq_false, Bool.false_eq_true, Option.map_some, Option.some.injEq, exists_eq_left, exists_eq_left', sNew, sFor]
      intro l8 hl8
      refine for_pre (fun pre2 T M' => M' = (l8, .lst ((pre2.flatMap fun row => (allSh w.shifts).map fun s => row ++ [s]).map encP)) :: Tn l M1 n ∧ ∃ e f, T = [some (.scr sc), some (.cell l), some (encW w), some (.cell l3), a, some (.lst (pa.map encP)), some (.lst ((prodF (pre.map fun _ => allSh w.shifts)).map encP)), some (encR u), some (.cell l8), e, f]) _ ?_ ?_ ⟨rfl, _, _, rfl⟩
      · rintro pre2 row post2 hx2 T M' N2 ⟨rfl, e, f, rfl⟩ hN2
        have hp2 : pre2.length ≤ 256 := by
          have := congrArg List.length hx2
          simp only [List.length_append, List.length_cons] at this
          omega
        refine ⟨trivial, ?_⟩
        simp only [eVar, eInt, eBl, eNon, eStr, eB, aNil, aCons, eTup, eLst, eBin, bCmp, oAdd, oSub, oMul, oMod, oFdiv, oLt, oLe, oGt, oGe, oEq_int, oNe_int, bChain, bNot, bVal, bAnd, bOr, bIsN, bNotN, eIfx, eIx, oNone, oSome, eSl, eCall, eCall0, eBlt, fLen, fTuple, fList, fInt, fMin, fMax, bIsi, gNm, gTup, gNil, gCons, iSeq, iRng, iRng2, sNil, sSeq, sPass, sDead, sExpr, sRet, sAsg, sIf, okQ_ok, okQ_exc, to_ok, to_exc, ci1, ci2, ci3, ci4, sl0, sl1, sl2, sl3, sl4, sn1, sn2, sn3, sn4, lk_P, lk_S, lk_W, lk_R, lk_N, lk_pr, lk_int, lk_bl, lk_non, lk_str, lk_tup, lk_lst, lk_scr, not_false_eq_true, true_implies, decide_true, decide_false, not_true_eq_false, Bool.false_and, Bool.true_and, Bool.and_true, Bool.and_false, List.set_cons_zero, List.set_cons_succ, List.getElem?_cons_zero, List.getElem?_cons_succ, wipeT, List.length_cons, List.length_nil, List.length_map, List.map_cons, List.map_nil, D.ty, kb1, kb2, kb3, kb4, kb5, kb6, kb7, kb8, kb9, atI_0, atI_1, atI_2, atI_3, true_and, and_true, or_false, false_or, or_true, true_or, false_and, and_false, or_self, and_self, Bool.not_true, Bool.not_false, Bool.not_not, reduceCtorEq, false_implies, forall_const, implies_true, decide_eq_true_eq, decide_eq_false_iff_not, Bool.and_eq_true, Bool.and_eq_false_iff, Bool.not_eq_true, Bool.not_eq_eq_eq_not, Bool.true_eq_false, Bool.false_eq_true, Option.map_some, Option.some.injEq, exists_eq_left, exists_eq_left', sExt, lookup_cons_eq, eLc, encP, encW]
        have hsh := hw.sh
        refine ⟨⟨by omega, by omega⟩, szl _ (by rw [rngD_length]; omega), ?_⟩
        have e3 : rngD 0 (w.shifts + 1).toNat = (allSh w.shifts).map D.int := by
          rw [rngD_map]
          simp [allSh, Function.comp]
        rw [e3]
        refine lc_map (f := fun s : Int => encP (row ++ [s])) trivial (allSh w.shifts) _ (fun x hx R hR => ?_) ?_
        · simp only [eVar, eInt, eBl, eNon, eStr, eB, aNil, aCons, eTup, eLst, eBin, bCmp, oAdd, oSub, oMul, oMod, oFdiv, oLt, oLe, oGt, oGe, oEq_int, oNe_int, bChain, bNot, bVal, bAnd, bOr, bIsN, bNotN, eIfx, eIx, oNone, oSome, eSl, eCall, eCall0, eBlt, fLen, fTuple, fList, fInt, fMin, fMax, bIsi, gNm, gTup, gNil, gCons, iSeq, iRng, iRng2, sNil, sSeq, sPass, sDead, sExpr, sRet, sAsg, sIf, okQ_ok, okQ_exc, to_ok, to_exc, ci1, ci2, ci3, ci4, sl0, sl1, sl2, sl3, sl4, sn1, sn2, sn3, sn4, lk_P, lk_S, lk_W, lk_R, lk_N, lk_pr, lk_int, lk_bl, lk_non, lk_str, lk_tup, lk_lst, lk_scr, not_false_eq_true, true_implies, decide_true, decide_false, not_true_eq_false, Bool.false_and, Bool.true_and, Bool.and_true, Bool.and_false, List.set_cons_zero, List.set_cons_succ, List.getElem?_cons_zero, List.getElem?_cons_succ, wipeT, List.length_cons, List.length_nil, List.length_map, List.map_cons, List.map_nil, D.ty, kb1, kb2, kb3, kb4, kb5, kb6, kb7, kb8, kb9, atI_0, atI_1, atI_2, atI_3, true_and, and_true, or_false, false_or, or_true, true_or, false_and, and_false, or_self, and_self, Bool.not_true, Bool.not_false, Bool.not_not, reduceCtorEq, false_implies, forall_const, implies_true, decide_eq_true_eq, decide_eq_false_iff_not, Bool.and_eq_true, Bool.and_eq_false_iff, Bool.not_eq_true, Bool.not_eq_eq_eq_not, Bool.true_eq_false, Bool.false_eq_true, Option.map_some, Option.some.injEq, exists_eq_left, exists_eq_left']
          refine ⟨sz _ ?_, by rw [enc_snoc]; exact hR⟩
          have := prodF_len _ (pre.map fun _ => allSh w.shifts) rfl row (by rw [hx2]; simp)
          rw [List.length_map] at this
          omega
        · simp only [lookup_cons_eq, eVar, eInt, eBl, eNon, eStr, eB, aNil, aCons, eTup, eLst, eBin, bCmp, oAdd, oSub, oMul, oMod, oFdiv, oLt, oLe, oGt, oGe, oEq_int, oNe_int, bChain, bNot, bVal, bAnd, bOr, bIsN, bNotN, eIfx, eIx, oNone, oSome, eSl, eCall, eCall0, eBlt, fLen, fTuple, fList, fInt, fMin, fMax, bIsi, gNm, gTup, gNil, gCons, iSeq, iRng, iRng2, sNil, sSeq, sPass, sDead, sExpr, sRet, sAsg, sIf, okQ_ok, okQ_exc, to_ok, to_exc, ci1, ci2, ci3, ci4, sl0, sl1, sl2, sl3, sl4, sn1, sn2, sn3, sn4, lk_P, lk_S, lk_W, lk_R, lk_N, lk_pr, lk_int, lk_bl, lk_non, lk_str, lk_tup, lk_lst, lk_scr, not_false_eq_true, true_implies, decide_true, decide_false, not_true_eq_false, Bool.false_and, Bool.true_and, Bool.and_true, Bool.and_false, List.set_cons_zero, List.set_cons_succ, List.getElem?_cons_zero, List.getElem?_cons_succ, wipeT, List.length_cons, List.length_nil, List.length_map, List.map_cons, List.map_nil, D.ty, kb1, kb2, kb3, kb4, kb5, kb6, kb7, kb8, kb9, atI_0, atI_1, atI_2, atI_3, true_and, and_true, or_false, false_or, or_true, true_or, false_and, and_false, or_self, and_self, Bool.not_true, Bool.not_false, Bool.not_not, reduceCtorEq, false_implies, forall_const, implies_true, decide_eq_true_eq, decide_eq_false_iff_not, Bool.and_eq_true, Bool.and_eq_false_iff, Bool.not_eq_true, Bool.not_eq_eq_eq_not, Bool.true_eq_false, Bool.false_eq_true, Option.map_some, Option.some.injEq, exists_eq_left, exists_eq_left']
          have hal := allSh_len w.shifts hw.sh.2
          refine ⟨sz _ ?_, ?_⟩
          · have := flat_len (fun row => (allSh w.shifts).map fun s => row ++ [s]) 4 pre2 fun x _ => by rw [List.length_map]; exact hal
            omega
          · rw [put_cons_eq hl8]
            refine hN2 _ _ ⟨?_, _, _, rfl⟩
            simp [List.flatMap_append, Function.comp]
      · rintro T M' ⟨rfl, e, f, rfl⟩
        refine ⟨trivial, ?_⟩
        simp only [sMove, eVar, eInt, eBl, eNon, eStr, eB, aNil, aCons, eTup, eLst, eBin, bCmp, oAdd, oSub, oMul, oMod, oFdiv, oLt, oLe, oGt, oGe, oEq_int, oNe_int, bChain, bNot, bVal, bAnd, bOr, bIsN, bNotN, eIfx, eIx, oNone, oSome, eSl, eCall, eCall0, eBlt, fLen, fTuple, fList, fInt, fMin, fMax, bIsi, gNm, gTup, gNil, gCons, iSeq, iRng, iRng2, sNil, sSeq, sPass, sDead, sExpr, sRet, sAsg, sIf, okQ_ok, okQ_exc, to_ok, to_exc, ci1, ci2, ci3, ci4, sl0, sl1, sl2, sl3, sl4, sn1, sn2, sn3, sn4, lk_P, lk_S, lk_W, lk_R, lk_N, lk_pr, lk_int, lk_bl, lk_non, lk_str, lk_tup, lk_lst, lk_scr, not_false_eq_true, true_implies, decide_true, decide_false, not_true_eq_false, Bool.false_and, Bool.true_and, Bool.and_true, Bool.and_false, List.set_cons_zero, List.set_cons_succ, List.getElem?_cons_zero, List.getElem?_cons_succ, wipeT, List.length_cons, List.length_nil, List.length_map, List.map_cons, List.map_nil, D.ty, kb1, kb2, kb3, kb4, kb5, kb6, kb7, kb8, kb9, atI_0, atI_1, atI_2, atI_3, true_and, and_true, or_false, false_or, or_true, true_or, false_and, and_false, or_self, and_self, Bool.not_true, Bool.not_false, Bool.not_not, reduceCtorEq, false_implies, forall_const, implies_true, decide_eq_true_eq, decide_eq_false_iff_not, Bool.and_eq_true, Bool.and_eq_false_iff, Bool.not_eq_true, Bool.not_eq_eq_eq_not, Bool.true_eq_false, Bool.false_eq_true, Option.map_some, Option.some.injEq, exists_eq_left, exists_eq_left', lookup_cons_eq, del_cons_eq hl8]
        rw [List.map_append, List.map_singleton, prodF_snoc] at hN
        exact hN _ _ ⟨rfl, _, _, _, _, rfl⟩
    · rintro T M' ⟨rfl, c, d, e, f, rfl⟩
      have hrl : (prodF (w.rules.map fun _ => allSh w.shifts)).length ≤ 256 := by
        have h1 := prodF_count 4 _ (w.rules.map fun _ => allSh w.shifts) rfl fun q hq => by
          obtain ⟨_, _, rfl⟩ := List.mem_map.mp hq
          exact allSh_len _ hw.sh.2
        rw [List.length_map] at h1
        have h2 : 4 ^ w.rules.length ≤ 4 ^ 4 := Nat.pow_le_pow_right (by decide) hw.rl.2
        omega
      have hlk : ∀ m, look (Tn l M1 m) (.cell l3) = .lst (ps.map encP) := fun m => (hsrc m).look
      refine ⟨trivial, ?_⟩
      simp only [eVar, eInt, eBl, eNon, eStr, eB, aNil, aCons, eTup, eLst, eBin, bCmp, oAdd, oSub, oMul, oMod, oFdiv, oLt, oLe, oGt, oGe, oEq_int, oNe_int, bChain, bNot, bVal, bAnd, bOr, bIsN, bNotN, eIfx, eIx, oNone, oSome, eSl, eCall, eCall0, eBlt, fLen, fTuple, fList, fInt, fMin, fMax, bIsi, gNm, gTup, gNil, gCons, iSeq, iRng, iRng2, sNil, sSeq, sPass, sDead, sExpr, sRet, sAsg, sIf, okQ_ok, okQ_exc, to_ok, to_exc, ci1, ci2, ci3, ci4, sl0, sl1, sl2, sl3, sl4, sn1, sn2, sn3, sn4, lk_P, lk_S, lk_W, lk_R, lk_N, lk_pr, lk_int, lk_bl, lk_non, lk_str, lk_tup, lk_lst, lk_scr, not_false_eq_true, true_implies, decide_true, decide_false, not_true_eq_false, Bool.false_and, Bool.true_and, Bool.and_true, Bool.and_false, List.set_cons_zero, List.set_cons_succ, List.getElem?_cons_zero, List.getElem?_cons_succ, wipeT, List.length_cons, List.length_nil, List.length_map, List.map_cons, List.map_nil, D.ty, kb1, kb2, kb3, kb4, kb5, kb6, kb7, kb8, kb9, atI_0, atI_1, atI_2, atI_3, true_and, and_true, or_false, false_or, or_true, true_or, false_and, and_false, or_self, and_self, Bool.not_true, Bool.not_false, Bool.not_not, reduceCtorEq, false_implies, forall_const, implies_true, decide_eq_true_eq, decide_eq_false_iff_not, Bool.and_eq_true, Bool.and_eq_false_iff, Bool.not_eq_true, Bool.not_eq_eq_eq_not, Bool.true_eq_false, Bool.false_eq_true, Option.map_some, Option.some.injEq, exists_eq_left, exists_eq_left', eLc]
      refine ⟨szl _ (by omega), lc_pure (f := fun row => if allKept w (ps ++ [row]) = true then some (encP row) else none) trivial (prodF (w.rules.map fun _ => allSh w.shifts)) _ (fun row hrow R hR => ?_) ?_⟩
      · have hrw := prodF_len _ (w.rules.map fun _ => allSh w.shifts) rfl row hrow
        rw [List.length_map] at hrw
        simp only [turnL, eVar, eInt, eBl, eNon, eStr, eB, aNil, aCons, eTup, eLst, eBin, bCmp, oAdd, oSub, oMul, oMod, oFdiv, oLt, oLe, oGt, oGe, oEq_int, oNe_int, bChain, bNot, bVal, bAnd, bOr, bIsN, bNotN, eIfx, eIx, oNone, oSome, eSl, eCall, eCall0, eBlt, fLen, fTuple, fList, fInt, fMin, fMax, bIsi, gNm, gTup, gNil, gCons, iSeq, iRng, iRng2, sNil, sSeq, sPass, sDead, sExpr, sRet, sAsg, sIf, okQ_ok, okQ_exc, to_ok, to_exc, ci1, ci2, ci3, ci4, sl0, sl1, sl2, sl3, sl4, sn1, sn2, sn3, sn4, lk_P, lk_S, lk_W, lk_R, lk_N, lk_pr, lk_int, lk_bl, lk_non, lk_str, lk_tup, lk_lst, lk_scr, not_false_eq_true, true_implies, decide_true, decide_false, not_true_eq_false, Bool.false_and, Bool.true_and, Bool.and_true, Bool.and_false, List.set_cons_zero, List.set_cons_succ, List.getElem?_cons_zero, List.getElem?_cons_succ, wipeT, List.length_cons, List.length_nil, List.length_map, List.map_cons, List.map_nil, D.ty, kb1, kb2, kb3, kb4, kb5, kb6, kb7, kb8, kb9, atI_0, atI_1, atI_2, atI_3, true_and, and_true, or_false, false_or, or_true, true_or, false_and, and_false, or_self, and_self, Bool.not_true, Bool.not_false, Bool.not_not, reduceCtorEq, false_implies, forall_const, implies_true, decide_eq_true_eq, decide_eq_false_iff_not, Bool.and_eq_true, Bool.and_eq_false_iff, Bool.not_eq_true, Bool.not_eq_eq_eq_not, Bool.true_eq_false, Bool.false_eq_true, Option.map_some, Option.some.injEq, exists_eq_left, exists_eq_left', hlk]
        refine ⟨sz _ (by omega), ?_⟩
        refine ⟨_, _, ⟨w, _, ps ++ [row], rfl, ⟨hw, fun p hp => ?_, by rw [List.length_append, List.length_singleton]; omega, .inl (by simp)⟩, rfl, rfl⟩, ?_⟩
        · rcases List.mem_append.mp hp with hp | hp
          · exact (hpk p hp).len
          · have : p = row := by simpa using hp
            rw [this]
            exact hrw
        · simp only [eVar, eInt, eBl, eNon, eStr, eB, aNil, aCons, eTup, eLst, eBin, bCmp, oAdd, oSub, oMul, oMod, oFdiv, oLt, oLe, oGt, oGe, oEq_int, oNe_int, bChain, bNot, bVal, bAnd, bOr, bIsN, bNotN, eIfx, eIx, oNone, oSome, eSl, eCall, eCall0, eBlt, fLen, fTuple, fList, fInt, fMin, fMax, bIsi, gNm, gTup, gNil, gCons, iSeq, iRng, iRng2, sNil, sSeq, sPass, sDead, sExpr, sRet, sAsg, sIf, okQ_ok, okQ_exc, to_ok, to_exc, ci1, ci2, ci3, ci4, sl0, sl1, sl2, sl3, sl4, sn1, sn2, sn3, sn4, lk_P, lk_S, lk_W, lk_R, lk_N, lk_pr, lk_int, lk_bl, lk_non, lk_str, lk_tup, lk_lst, lk_scr, not_false_eq_true, true_implies, decide_true, decide_false, not_true_eq_false, Bool.false_and, Bool.true_and, Bool.and_true, Bool.and_false, List.set_cons_zero, List.set_cons_succ, List.getElem?_cons_zero, List.getElem?_cons_succ, wipeT, List.length_cons, List.length_nil, List.length_map, List.map_cons, List.map_nil, D.ty, kb1, kb2, kb3, kb4, kb5, kb6, kb7, kb8, kb9, atI_0, atI_1, atI_2, atI_3, true_and, and_true, or_false, false_or, or_true, true_or, false_and, and_false, or_self, and_self, Bool.not_true, Bool.not_false, Bool.not_not, reduceCtorEq, false_implies, forall_const, implies_true, decide_eq_true_eq, decide_eq_false_iff_not, Bool.and_eq_true, Bool.and_eq_false_iff, Bool.not_eq_true, Bool.not_eq_eq_eq_not, Bool.true_eq_false, Bool.false_eq_true, Option.map_some, Option.some.injEq, exists_eq_left, exists_eq_left']
          cases hm : allKept w (ps ++ [row]) with
          | true => simpa [hm] using hR
          | false => simpa [hm] using hR
      · rw [fm_if2 (fun row => allKept w (ps ++ [row])) encP, ← plans_law w hw ps hwk, hpa]
        have e5 : ∀ (xs ys : List (List Int)) (K : Bool → Prop), oEq (.lst (xs.map encP)) (.lst (ys.map encP)) K ↔ K (decide (xs = ys)) := fun xs ys K => oEq_en (n := 2) (en_lst en_plan) (by decide) xs ys
        simp only [eVar, eInt, eBl, eNon, eStr, eB, aNil, aCons, eTup, eLst, eBin, bCmp, oAdd, oSub, oMul, oMod, oFdiv, oLt, oLe, oGt, oGe, oEq_int, oNe_int, bChain, bNot, bVal, bAnd, bOr, bIsN, bNotN, eIfx, eIx, oNone, oSome, eSl, eCall, eCall0, eBlt, fLen, fTuple, fList, fInt, fMin, fMax, bIsi, gNm, gTup, gNil, gCons, iSeq, iRng, iRng2, sNil, sSeq, sPass, sDead, sExpr, sRet, sAsg, sIf, okQ_ok, okQ_exc, to_ok, to_exc, ci1, ci2, ci3, ci4, sl0, sl1, sl2, sl3, sl4, sn1, sn2, sn3, sn4, lk_P, lk_S, lk_W, lk_R, lk_N, lk_pr, lk_int, lk_bl, lk_non, lk_str, lk_tup, lk_lst, lk_scr, not_false_eq_true, true_implies, decide_true, decide_false, not_true_eq_false, Bool.false_and, Bool.true_and, Bool.and_true, Bool.and_false, List.set_cons_zero, List.set_cons_succ, List.getElem?_cons_zero, List.getElem?_cons_succ, wipeT, List.length_cons, List.length_nil, List.length_map, List.map_cons, List.map_nil, D.ty, kb1, kb2, kb3, kb4, kb5, kb6, kb7, kb8, kb9, atI_0, atI_1, atI_2, atI_3, true_and, and_true, or_false, false_or, or_true, true_or, false_and, and_false, or_self, and_self, Bool.not_true, Bool.not_false, Bool.not_not, reduceCtorEq, false_implies, forall_const, implies_true, decide_eq_true_eq, decide_eq_false_iff_not, Bool.and_eq_true, Bool.and_eq_false_iff, Bool.not_eq_true, Bool.not_eq_eq_eq_not, Bool.true_eq_false, Bool.false_eq_true, Option.map_some, Option.some.injEq, exists_eq_left, exists_eq_left', e5]
        exact hend _ _ hs1
end K3

set_option Elab.async false
set_option linter.all false
set_option maxRecDepth 100000
set_option maxHeartbeats 1000000
namespace K3
open PySem J
/-- kept: S of f, so much of its parameters, and its code -/
abbrev HS (S : FS) (n k : Nat) (t : ST) : Prop := ∀ ds M r M', S ds M r M' → ds.length = n ∧ t (startT k ds) M (poOf r M')
theorem hs_is_whole : HS S_is_whole 3 3 b_is_whole := by
  rintro ds M r M' ⟨n, lo, hi, rfl, rfl, rfl⟩
  exact ⟨rfl, t_is_whole n lo hi M' _ ⟨rfl, .refl _⟩⟩
theorem hs_are_skills : HS S_are_skills 2 3 (b_are_skills S_is_whole) := by
  rintro ds M r M' ⟨ns, sh, rfl, ⟨h1, h2, h3, h4⟩, rfl, rfl⟩
  exact ⟨rfl, t_are_skills ns sh h1 h2 h3 h4 M' _ ⟨rfl, .refl _⟩⟩
theorem hs_are_barred : HS S_are_barred 2 4 (b_are_barred S_is_whole) := by
  rintro ds M r M' ⟨ns, sh, rfl, ⟨h1, h2, h3, h4⟩, rfl, rfl⟩
  exact ⟨rfl, t_are_barred ns sh h1 h2 h3 h4 M' _ ⟨rfl, .refl _⟩⟩
theorem hs_is_rule : HS S_is_rule 2 2 (b_is_rule S_are_barred S_are_skills S_is_whole) := by
  rintro ds M r M' ⟨u, sh, rfl, ⟨h1, h2⟩, rfl, rfl⟩
  exact ⟨rfl, t_is_rule u sh h1 h2 M' _ ⟨rfl, .refl _⟩⟩
theorem hs_is_need : HS S_is_need 2 3 (b_is_need S_is_whole) := by
  rintro ds M r M' ⟨u, sh, rfl, h1, rfl, rfl⟩
  exact ⟨rfl, t_is_need u sh h1 M' _ ⟨rfl, .refl _⟩⟩
theorem hs_are_needs : HS S_are_needs 2 3 (b_are_needs S_is_need) := by
  rintro ds M r M' ⟨u, sh, rfl, ⟨h1, h2⟩, rfl, rfl⟩
  exact ⟨rfl, t_are_needs u sh h1 h2 M' _ ⟨rfl, .refl _⟩⟩
theorem hs_is_world : HS S_is_world 1 2 (b_is_world S_are_needs S_is_whole S_is_rule) := by
  rintro ds M r M' ⟨w, rfl, h1, rfl, rfl⟩
  exact ⟨rfl, t_is_world w h1 M' _ ⟨rfl, .refl _⟩⟩
theorem hs_need_world : HS S_need_world 1 1 (b_need_world S_is_world) := by
  rintro ds M r M' ⟨w, rfl, h1, rfl, rfl⟩
  exact ⟨rfl, t_need_world w h1 M' _ fun _ => ⟨rfl, .refl _⟩⟩
theorem hs_begin : HS S_begin 1 2 b_begin := by
  rintro ds M r M' ⟨w, rfl, h1, rfl, rfl⟩
  exact ⟨rfl, t_begin w h1 M' _ ⟨rfl, .refl _⟩⟩
theorem hs_options : HS S_options 2 5 b_options := by
  rintro ds M r M' ⟨u, st, rfl, h1, rfl, rfl⟩
  exact ⟨rfl, t_options u st h1 M' _ ⟨rfl, .refl _⟩⟩
theorem hs_stand_behind : HS S_stand_behind 3 5 b_stand_behind := by
  rintro ds M r M' ⟨u, st, s, rfl, rfl, rfl⟩
  exact ⟨rfl, t_stand_behind u st s M' _ ⟨rfl, .refl _⟩⟩
theorem hs_meets : HS S_meets 2 5 b_meets := by
  rintro ds M r M' ⟨u, p, rfl, rfl, rfl⟩
  exact ⟨rfl, t_meets u p M' _ ⟨rfl, .refl _⟩⟩
theorem hs_plans_at : HS S_plans_at 2 8 (b_plans_at S_meets S_options) := by
  rintro ds M r M' ⟨w, s, rfl, ⟨h1, h2⟩, rfl, rfl⟩
  exact ⟨rfl, t_plans_at w s h1 h2 M' _ ⟨rfl, .refl _⟩⟩
theorem hs_behind : HS S_behind 3 7 (b_behind S_stand_behind) := by
  rintro ds M r M' ⟨w, s, p, rfl, h1, rfl, rfl⟩
  exact ⟨rfl, t_behind w s p h1 M' _ ⟨rfl, .refl _⟩⟩
theorem hs_is_plan : HS S_is_plan 2 3 (b_is_plan S_is_whole) := by
  rintro ds M r M' ⟨w, p, rfl, ⟨h1, h2⟩, rfl, rfl⟩
  exact ⟨rfl, t_is_plan w p h1 h2 M' _ ⟨rfl, .refl _⟩⟩
theorem hs_need_plans : HS S_need_plans 2 3 (b_need_plans S_is_plan) := by
  rintro ds M r M' ⟨w, d, ps, rfl, ⟨h1, h2, h3, h4⟩, rfl, rfl⟩
  exact ⟨rfl, t_need_plans w d ps h1 h2 h3 M' h4 _ fun _ => ⟨rfl, .refl _⟩⟩
theorem hs_walk : HS S_walk 3 5 (b_walk S_behind S_plans_at) := by
  rintro ds M r M' ⟨w, s, d, ps, rfl, ⟨h1, h2, h3, h4⟩, rfl, rfl⟩
  exact ⟨rfl, t_walk w s d ps h1 h2 h3 M' h4 _ ⟨rfl, .refl _⟩⟩
theorem hs_state_behind : HS S_state_behind 2 2 (b_state_behind S_need_world S_need_plans S_walk S_begin) := by
  rintro ds M r M' ⟨w, d, ps, rfl, ⟨h1, h2, h3, h4, h5⟩, rfl, rfl⟩
  exact ⟨rfl, t_state_behind w d ps h1 h2 h3 h4 M' h5 _ ⟨rfl, .refl _⟩⟩
theorem hs_next_plans : HS S_next_plans 2 2 (b_next_plans S_plans_at S_state_behind) := by
  rintro ds M r M' ⟨w, d, ps, rfl, ⟨h1, h2, h3, h4, h5⟩, rfl, rfl⟩
  exact ⟨rfl, t_next_plans w d ps h1 h2 h3 h4 M' h5 _ ⟨rfl, .refl _⟩⟩
theorem hs__law_cell_at : HS S__law_cell_at 2 2 b__law_cell_at := by
  rintro ds M r M' ⟨sc, k, rfl, rfl, rfl⟩
  exact ⟨rfl, t__law_cell_at sc k M' _ ⟨rfl, .refl _⟩⟩
theorem hs__law_mixed : HS S__law_mixed 3 4 (b__law_mixed S__law_cell_at) := by
  rintro ds M r M' ⟨sc, k, many, rfl, h1, rfl, rfl⟩
  exact ⟨rfl, t__law_mixed sc k many h1 M' _ ⟨rfl, .refl _⟩⟩
theorem hs__law_draw : HS S__law_draw 3 3 (b__law_draw S__law_mixed) := by
  rintro ds M r M' ⟨sc, l, M0, n, many, rfl, ⟨h1, h2, h3⟩, rfl, rfl, rfl⟩
  exact ⟨rfl, t__law_draw sc l M0 n many h1 h2 h3 _ ⟨rfl, .refl _⟩⟩
theorem hs__law_pick : HS S__law_pick 3 3 (b__law_pick S__law_draw) := by
  rintro ds M r M' ⟨sc, l, M0, n, xs, x, rfl, ⟨h1, h2, h3, h4⟩, rfl, rfl, rfl⟩
  exact ⟨rfl, t__law_pick sc l M0 n xs x h1 h2 h3 h4 _ ⟨rfl, .refl _⟩⟩
theorem hs__law_rule : HS S__law_rule 4 10 (b__law_rule S__law_draw) := by
  rintro ds M r M' ⟨sc, l, M0, n, sh, long, rfl, ⟨h1, h2, h3, h4⟩, rfl, rfl, rfl⟩
  exact ⟨rfl, t__law_rule sc l M0 n sh long h1 h2 h3 h4 _ fun M1 s => ⟨rfl, Tn_sub s⟩⟩
theorem hs__law_needs : HS S__law_needs 4 9 (b__law_needs S__law_draw S__law_pick) := by
  rintro ds M r M' ⟨sc, l, M0, n, sh, many, rfl, ⟨h1, h2, h3, h4⟩, rfl, rfl, rfl⟩
  exact ⟨rfl, t__law_needs sc l M0 n sh many h1 h2 h3 h4 _ fun M1 s => ⟨rfl, Tn_sub s⟩⟩
theorem hs__law_world : HS S__law_world 4 8 (b__law_world S__law_draw S__law_needs S__law_pick S__law_rule) := by
  rintro ds M r M' ⟨sc, l, M0, n, hands, long, rfl, ⟨h1, h2, h3, h4⟩, rfl, rfl, rfl⟩
  exact ⟨rfl, t__law_world sc l M0 n hands long h1 h2 h3 h4 _ ⟨rfl, .refl _⟩⟩
theorem hs__law_kept : HS S__law_kept 2 7 b__law_kept := by
  rintro ds M r M' ⟨u, days, rfl, ⟨h1, h2⟩, rfl, rfl⟩
  exact ⟨rfl, t__law_kept u days h1 h2 M' _ ⟨rfl, .refl _⟩⟩
theorem hs__law_all_kept : HS S__law_all_kept 2 9 (b__law_all_kept S__law_kept) := by
  rintro ds M r M' ⟨w, d, ps, rfl, ⟨h1, h2, h3, h4⟩, rfl, rfl⟩
  exact ⟨rfl, t__law_all_kept w d ps h1 h2 h3 M' h4 _ ⟨rfl, .refl _⟩⟩
theorem hs_law : HS S_law 1 11 (b_law S__law_world S_next_plans S__law_draw S__law_all_kept S__law_pick S_state_behind) := by
  rintro ds M r M' ⟨sc, rfl, rfl, rfl⟩
  exact ⟨rfl, t_law sc M' _ fun M1 s => ⟨rfl, s⟩⟩
end K3

set_option Elab.async false
set_option linter.all false
set_option maxRecDepth 100000
set_option maxHeartbeats 0
namespace K3
open PySem PySem.Spec PyProof.Rows L2 J Hd
theorem facts {P : Program} {w : World} {K : PySem.W.Frag} {h : Heap} {mg : Str → Option Value} {f : Addr} (X : K.In h) (G : h.Ns mainGlobals mg) (hfa : mg ("law" : Str) = some (.ref f)) (c : He.SaysX fa fn [] [] ex w h K) :
    ∃ fd : FuncData, (∀ (s : Shared) (v : Value), BindsTo s fd ⟨[v], []⟩ [("script", v)]) ∧ ∀ base : Heap, K.In base → base.Ns mainGlobals mg → FnOk P w K mg base (L2.CX P w) 8 f fd ["script"] (spJ K 1 S_law) := by
  have Y : Mg mg := ⟨He.free_ok X G (c.t.d.fact 40 (f := .free "all") rfl), He.free_ok X G (c.t.d.fact 45 (f := .free "bool") rfl), He.free_ok X G (c.t.d.fact 44 (f := .free "enumerate") rfl), He.free_ok X G (c.t.d.fact 42 (f := .free "int") rfl), He.free_ok X G (c.t.d.fact 35 (f := .free "isinstance") rfl), He.free_ok X G (c.t.d.fact 33 (f := .free "len") rfl), He.free_ok X G (c.t.d.fact 37 (f := .free "list") rfl), He.free_ok X G (c.t.d.fact 41 (f := .free "min") rfl), He.free_ok X G (c.t.d.fact 34 (f := .free "range") rfl), He.free_ok X G (c.t.d.fact 38 (f := .free "set") rfl), He.free_ok X G (c.t.d.fact 39 (f := .free "sorted") rfl), He.free_ok X G (c.t.d.fact 36 (f := .free "tuple") rfl), He.free_ok X G (c.t.d.fact 43 (f := .free "zip") rfl), He.int_ok X G (c.t.d.fact 51 (f := .int "DAYS" 3) rfl), He.int_ok X G (c.t.d.fact 48 (f := .int "HANDS" 4) rfl), He.int_ok X G (c.t.d.fact 50 (f := .int "LEAST" 3) rfl), He.int_ok X G (c.t.d.fact 49 (f := .int "MOST" 4) rfl), He.int_ok X G (c.t.d.fact 47 (f := .int "SHIFTS" 3) rfl)⟩
  obtain ⟨fd__law_cell_at, F__law_cell_at⟩ := c.t.d.def_ 19 (d := d__law_cell_at) rfl
  have m__law_cell_at : mg "_law_cell_at" = some (.ref (He.ga K "_law_cell_at")) := He.glo_ok X G (c.t.d.fact 19 (f := .glo "_law_cell_at") rfl)
  obtain ⟨fd__law_mixed, F__law_mixed⟩ := c.t.d.def_ 20 (d := d__law_mixed) rfl
  have m__law_mixed : mg "_law_mixed" = some (.ref (He.ga K "_law_mixed")) := He.glo_ok X G (c.t.d.fact 20 (f := .glo "_law_mixed") rfl)
  obtain ⟨fd__law_draw, F__law_draw⟩ := c.t.d.def_ 21 (d := d__law_draw) rfl
  have m__law_draw : mg "_law_draw" = some (.ref (He.ga K "_law_draw")) := He.glo_ok X G (c.t.d.fact 21 (f := .glo "_law_draw") rfl)
  obtain ⟨fd__law_pick, F__law_pick⟩ := c.t.d.def_ 22 (d := d__law_pick) rfl
  have m__law_pick : mg "_law_pick" = some (.ref (He.ga K "_law_pick")) := He.glo_ok X G (c.t.d.fact 22 (f := .glo "_law_pick") rfl)
  obtain ⟨fd__law_needs, F__law_needs⟩ := c.t.d.def_ 24 (d := d__law_needs) rfl
  have m__law_needs : mg "_law_needs" = some (.ref (He.ga K "_law_needs")) := He.glo_ok X G (c.t.d.fact 24 (f := .glo "_law_needs") rfl)
  obtain ⟨fd__law_rule, F__law_rule⟩ := c.t.d.def_ 23 (d := d__law_rule) rfl
  have m__law_rule : mg "_law_rule" = some (.ref (He.ga K "_law_rule")) := He.glo_ok X G (c.t.d.fact 23 (f := .glo "_law_rule") rfl)
  obtain ⟨fd__law_world, F__law_world⟩ := c.t.d.def_ 25 (d := d__law_world) rfl
  have m__law_world : mg "_law_world" = some (.ref (He.ga K "_law_world")) := He.glo_ok X G (c.t.d.fact 25 (f := .glo "_law_world") rfl)
  obtain ⟨fd_meets, F_meets⟩ := c.t.d.def_ 11 (d := d_meets) rfl
  have m_meets : mg "meets" = some (.ref (He.ga K "meets")) := He.glo_ok X G (c.t.d.fact 11 (f := .glo "meets") rfl)
  obtain ⟨fd_options, F_options⟩ := c.t.d.def_ 9 (d := d_options) rfl
  have m_options : mg "options" = some (.ref (He.ga K "options")) := He.glo_ok X G (c.t.d.fact 9 (f := .glo "options") rfl)
  obtain ⟨fd_plans_at, F_plans_at⟩ := c.t.d.def_ 12 (d := d_plans_at) rfl
  have m_plans_at : mg "plans_at" = some (.ref (He.ga K "plans_at")) := He.glo_ok X G (c.t.d.fact 12 (f := .glo "plans_at") rfl)
  obtain ⟨fd_is_whole, F_is_whole⟩ := c.t.d.def_ 0 (d := d_is_whole) rfl
  have m_is_whole : mg "is_whole" = some (.ref (He.ga K "is_whole")) := He.glo_ok X G (c.t.d.fact 0 (f := .glo "is_whole") rfl)
  obtain ⟨fd_is_need, F_is_need⟩ := c.t.d.def_ 4 (d := d_is_need) rfl
  have m_is_need : mg "is_need" = some (.ref (He.ga K "is_need")) := He.glo_ok X G (c.t.d.fact 4 (f := .glo "is_need") rfl)
  obtain ⟨fd_are_needs, F_are_needs⟩ := c.t.d.def_ 5 (d := d_are_needs) rfl
  have m_are_needs : mg "are_needs" = some (.ref (He.ga K "are_needs")) := He.glo_ok X G (c.t.d.fact 5 (f := .glo "are_needs") rfl)
  obtain ⟨fd_are_barred, F_are_barred⟩ := c.t.d.def_ 2 (d := d_are_barred) rfl
  have m_are_barred : mg "are_barred" = some (.ref (He.ga K "are_barred")) := He.glo_ok X G (c.t.d.fact 2 (f := .glo "are_barred") rfl)
  obtain ⟨fd_are_skills, F_are_skills⟩ := c.t.d.def_ 1 (d := d_are_skills) rfl
  have m_are_skills : mg "are_skills" = some (.ref (He.ga K "are_skills")) := He.glo_ok X G (c.t.d.fact 1 (f := .glo "are_skills") rfl)
  obtain ⟨fd_is_rule, F_is_rule⟩ := c.t.d.def_ 3 (d := d_is_rule) rfl
  have m_is_rule : mg "is_rule" = some (.ref (He.ga K "is_rule")) := He.glo_ok X G (c.t.d.fact 3 (f := .glo "is_rule") rfl)
  obtain ⟨fd_is_world, F_is_world⟩ := c.t.d.def_ 6 (d := d_is_world) rfl
  have m_is_world : mg "is_world" = some (.ref (He.ga K "is_world")) := He.glo_ok X G (c.t.d.fact 6 (f := .glo "is_world") rfl)
  obtain ⟨fd_need_world, F_need_world⟩ := c.t.d.def_ 7 (d := d_need_world) rfl
  have m_need_world : mg "need_world" = some (.ref (He.ga K "need_world")) := He.glo_ok X G (c.t.d.fact 7 (f := .glo "need_world") rfl)
  obtain ⟨fd_is_plan, F_is_plan⟩ := c.t.d.def_ 14 (d := d_is_plan) rfl
  have m_is_plan : mg "is_plan" = some (.ref (He.ga K "is_plan")) := He.glo_ok X G (c.t.d.fact 14 (f := .glo "is_plan") rfl)
  obtain ⟨fd_need_plans, F_need_plans⟩ := c.t.d.def_ 15 (d := d_need_plans) rfl
  have m_need_plans : mg "need_plans" = some (.ref (He.ga K "need_plans")) := He.glo_ok X G (c.t.d.fact 15 (f := .glo "need_plans") rfl)
  obtain ⟨fd_stand_behind, F_stand_behind⟩ := c.t.d.def_ 10 (d := d_stand_behind) rfl
  have m_stand_behind : mg "stand_behind" = some (.ref (He.ga K "stand_behind")) := He.glo_ok X G (c.t.d.fact 10 (f := .glo "stand_behind") rfl)
  obtain ⟨fd_behind, F_behind⟩ := c.t.d.def_ 13 (d := d_behind) rfl
  have m_behind : mg "behind" = some (.ref (He.ga K "behind")) := He.glo_ok X G (c.t.d.fact 13 (f := .glo "behind") rfl)
  obtain ⟨fd_walk, F_walk⟩ := c.t.d.def_ 16 (d := d_walk) rfl
  have m_walk : mg "walk" = some (.ref (He.ga K "walk")) := He.glo_ok X G (c.t.d.fact 16 (f := .glo "walk") rfl)
  obtain ⟨fd_begin, F_begin⟩ := c.t.d.def_ 8 (d := d_begin) rfl
  have m_begin : mg "begin" = some (.ref (He.ga K "begin")) := He.glo_ok X G (c.t.d.fact 8 (f := .glo "begin") rfl)
  obtain ⟨fd_state_behind, F_state_behind⟩ := c.t.d.def_ 17 (d := d_state_behind) rfl
  have m_state_behind : mg "state_behind" = some (.ref (He.ga K "state_behind")) := He.glo_ok X G (c.t.d.fact 17 (f := .glo "state_behind") rfl)
  obtain ⟨fd_next_plans, F_next_plans⟩ := c.t.d.def_ 18 (d := d_next_plans) rfl
  have m_next_plans : mg "next_plans" = some (.ref (He.ga K "next_plans")) := He.glo_ok X G (c.t.d.fact 18 (f := .glo "next_plans") rfl)
  obtain ⟨fd__law_kept, F__law_kept⟩ := c.t.d.def_ 26 (d := d__law_kept) rfl
  have m__law_kept : mg "_law_kept" = some (.ref (He.ga K "_law_kept")) := He.glo_ok X G (c.t.d.fact 26 (f := .glo "_law_kept") rfl)
  obtain ⟨fd__law_all_kept, F__law_all_kept⟩ := c.t.d.def_ 27 (d := d__law_all_kept) rfl
  have m__law_all_kept : mg "_law_all_kept" = some (.ref (He.ga K "_law_all_kept")) := He.glo_ok X G (c.t.d.fact 27 (f := .glo "_law_all_kept") rfl)
  obtain ⟨fd_law, F_law⟩ := c.t.d.def_ 28 (d := d_law) rfl
  have e := hfa.symm.trans (He.glo_ok X G (c.t.d.fact 28 (f := .glo "law") rfl))
  cases e
  have b := FunD.bindsA (ps := ["script"]) F_law fun _ _ _ _ _ _ us hl => match us, hl with | [_], _ => rfl
  refine ⟨fd_law, fun s v => b s [v] rfl, fun base _ _ => ?_⟩
  have G__law_cell_at := w__law_cell_at (P := P) (w := w) (base := base) Y F__law_cell_at m__law_cell_at  hs__law_cell_at
  have G__law_mixed := w__law_mixed (P := P) (w := w) (base := base) Y F__law_mixed m__law_mixed G__law_cell_at hs__law_mixed
  have G__law_draw := w__law_draw (P := P) (w := w) (base := base) Y F__law_draw m__law_draw G__law_mixed hs__law_draw
  have G__law_pick := w__law_pick (P := P) (w := w) (base := base) Y F__law_pick m__law_pick G__law_draw hs__law_pick
  have G__law_needs := w__law_needs (P := P) (w := w) (base := base) Y F__law_needs m__law_needs G__law_draw G__law_pick hs__law_needs
  have G__law_rule := w__law_rule (P := P) (w := w) (base := base) Y F__law_rule m__law_rule G__law_draw hs__law_rule
  have G__law_world := w__law_world (P := P) (w := w) (base := base) Y F__law_world m__law_world G__law_draw G__law_needs G__law_pick G__law_rule hs__law_world
  have G_meets := w_meets (P := P) (w := w) (base := base) Y F_meets m_meets  hs_meets
  have G_options := w_options (P := P) (w := w) (base := base) Y F_options m_options  hs_options
  have G_plans_at := w_plans_at (P := P) (w := w) (base := base) Y F_plans_at m_plans_at G_meets G_options hs_plans_at
  have G_is_whole := w_is_whole (P := P) (w := w) (base := base) Y F_is_whole m_is_whole  hs_is_whole
  have G_is_need := w_is_need (P := P) (w := w) (base := base) Y F_is_need m_is_need G_is_whole hs_is_need
  have G_are_needs := w_are_needs (P := P) (w := w) (base := base) Y F_are_needs m_are_needs G_is_need hs_are_needs
  have G_are_barred := w_are_barred (P := P) (w := w) (base := base) Y F_are_barred m_are_barred G_is_whole hs_are_barred
  have G_are_skills := w_are_skills (P := P) (w := w) (base := base) Y F_are_skills m_are_skills G_is_whole hs_are_skills
  have G_is_rule := w_is_rule (P := P) (w := w) (base := base) Y F_is_rule m_is_rule G_are_barred G_are_skills G_is_whole hs_is_rule
  have G_is_world := w_is_world (P := P) (w := w) (base := base) Y F_is_world m_is_world G_are_needs G_is_whole G_is_rule hs_is_world
  have G_need_world := w_need_world (P := P) (w := w) (base := base) Y F_need_world m_need_world G_is_world hs_need_world
  have G_is_plan := w_is_plan (P := P) (w := w) (base := base) Y F_is_plan m_is_plan G_is_whole hs_is_plan
  have G_need_plans := w_need_plans (P := P) (w := w) (base := base) Y F_need_plans m_need_plans G_is_plan hs_need_plans
  have G_stand_behind := w_stand_behind (P := P) (w := w) (base := base) Y F_stand_behind m_stand_behind  hs_stand_behind
  have G_behind := w_behind (P := P) (w := w) (base := base) Y F_behind m_behind G_stand_behind hs_behind
  have G_walk := w_walk (P := P) (w := w) (base := base) Y F_walk m_walk G_behind G_plans_at hs_walk
  have G_begin := w_begin (P := P) (w := w) (base := base) Y F_begin m_begin  hs_begin
  have G_state_behind := w_state_behind (P := P) (w := w) (base := base) Y F_state_behind m_state_behind G_need_world G_need_plans G_walk G_begin hs_state_behind
  have G_next_plans := w_next_plans (P := P) (w := w) (base := base) Y F_next_plans m_next_plans G_plans_at G_state_behind hs_next_plans
  have G__law_kept := w__law_kept (P := P) (w := w) (base := base) Y F__law_kept m__law_kept  hs__law_kept
  have G__law_all_kept := w__law_all_kept (P := P) (w := w) (base := base) Y F__law_all_kept m__law_all_kept G__law_kept hs__law_all_kept
  exact w_law (P := P) (w := w) (base := base) Y F_law hfa G__law_world G_next_plans G__law_draw G__law_all_kept G__law_pick G_state_behind hs_law
end K3
open PySem PySem.W PySem.Calls PyProof.Rows
theorem PySem.Challenge.cw_dutyround_k03_whole_kept_rules_holds : PySem.Challenge.rw_dutyround_k03_whole_kept_rules.Holds := by
  w_on; o_law
  refine HandSHeadRun.head_any (r := OpenLaw.row PySem.Challenge.rw_dutyround_k03_whole_kept_rules) (q := view (OpenLaw.row PySem.Challenge.rw_dutyround_k03_whole_kept_rules).prog [41]) (H := Hd.hk) (ob := Hd.ob) (M := 40000) (loose := Hd.names) (d := HandSHeadRun.topDef (OpenLaw.row PySem.Challenge.rw_dutyround_k03_whole_kept_rules).prog 41) (kwd := []) Hd.ob_eq
    (by kernel_rfl) (fun s => by kernel_rfl) Hd.run (by kernel_rfl) (by kernel_rfl) (by kernel_rfl) (by rfl) (by first | assumption | decide +kernel) (by decide +kernel) ⟨rfl, rfl, rfl, rfl, rfl, by decide +kernel⟩ ?hw ?hc
  case hw => w_witness2
  case hc =>
    refine LamX.walk_ofTsE (l := PySem.Challenge.rw_dutyround_k03_whole_kept_rules) (n := 63) (k := 8) (x := "script") (CX := fun w => L2.CX (PySem.Challenge.rw_dutyround_k03_whole_kept_rules).prog w) rfl (by decide) (by kernel_rfl) ⟨rfl, by decide, by decide⟩ ?F (fun _ _ _ _ _ ⟨_, _, _, _, _, _, _, _, _, _, _, _, z⟩ => z)
    intro w mg fa h Y G hmg0
    obtain ⟨K, KX, c⟩ := Y
    have hmg : mg ("law" : PySem.Str) = some (.ref fa) := by
      have e : (HandSHeadRun.topDef (OpenLaw.row PySem.Challenge.rw_dutyround_k03_whole_kept_rules).prog 41).name = ("law" : PySem.Str) := by kernel_rfl
      rw [← e]
      exact hmg0
    obtain ⟨fd, hb, hF⟩ := K3.facts (P := (PySem.Challenge.rw_dutyround_k03_whole_kept_rules).prog) (w := w) KX G hmg c
    exact ⟨K, KX, fd, [], J.spJ K 1 K3.S_law, (fun p hp => by cases hp), (fun p hp => by cases hp), (fun p hp => by cases hp), hb, fun H a ns hl _ _ hS => J.law_start hS ⟨ns, rfl, rfl, rfl⟩ fun _ => rfl, fun base h1 h2 _ => hF base h1 h2⟩

